import PyProof.Rows.All
import Wide.All
import OpenK.AllK
import Wide.FinOn
import KE.KStateDown
import HandS.Defaults
import HandS.Head0
import HandS.Head1
import HandS.Head2
import HandS.Head3
import HandS.HeadEnd
import HandS.HeadHook1
import HandS.HeadHook2
import HandS.ForMost
import HandS.Wide
import HandS.Style
import HandS.Conv
import HandS.Deep
import HandS.TupLe
import HandS.SortInts
import HandS.IsInst
import KE.KMathG
import HandS.TryOnly
import KE.SortData
import KE.DataCmp
import PyProof.TupleOfSeq
import KE.DataMinMax
import PyProof.RulesMatch
import HandS.Dict
import Flt.RightSqrt
import HandS.ExcInit
import HandS.ExcOwn
import HandS.ExcIs
import HandS.WordsExc
import PySem.Challenge.RW_wholeconic_k05_continued_fractions
set_option Elab.async false
set_option linter.all false
set_option maxRecDepth 100000
set_option maxHeartbeats 4000000
namespace DL
open PySem PySem.Spec PyProof.Rows L2
def topS (i : Nat) : Stmt := PySem.Challenge.pw_wholeconic_k05_continued_fractions.main.body.getD i (.Pass ⟨0, 0, 0, 0⟩)
abbrev s_floor_root : Stmt := topS 6
abbrev s_is_square : Stmt := topS 7
abbrev s_floor_of : Stmt := topS 9
abbrev s_next_state : Stmt := topS 10
abbrev s_is_reduced_state : Stmt := topS 11
abbrev s_expand : Stmt := topS 12
abbrev s_part_at : Stmt := topS 13
abbrev s_Lcell : Stmt := topS 15
abbrev s_Lnumbers : Stmt := topS 16
abbrev s_Lstate : Stmt := topS 17
abbrev s_Lnext : Stmt := topS 18
abbrev s_Lwide : Stmt := topS 19
abbrev s_Lroot : Stmt := topS 20
abbrev s_Lis_at_most : Stmt := topS 21
abbrev s_Lpart : Stmt := topS 22
abbrev s_Lrefused : Stmt := topS 23
abbrev s_law_v5 : Stmt := topS 24
def dD_Lnumbers : He.DefD := ⟨("_law_numbers", none), "_law_numbers", "_law_numbers", defArgs s_Lnumbers, defBody s_Lnumbers, defScope s_Lnumbers, [], []⟩
def dD_Lcell : He.DefD := ⟨("_law_cell", none), "_law_cell", "_law_cell", defArgs s_Lcell, defBody s_Lcell, defScope s_Lcell, [], []⟩
def dD_Lstate : He.DefD := ⟨("_law_state", none), "_law_state", "_law_state", defArgs s_Lstate, defBody s_Lstate, defScope s_Lstate, [], []⟩
def dD_Lnext : He.DefD := ⟨("_law_next", none), "_law_next", "_law_next", defArgs s_Lnext, defBody s_Lnext, defScope s_Lnext, [], []⟩
def dD_Lwide : He.DefD := ⟨("_law_wide", none), "_law_wide", "_law_wide", defArgs s_Lwide, defBody s_Lwide, defScope s_Lwide, [], []⟩
def dD_Lroot : He.DefD := ⟨("_law_root", none), "_law_root", "_law_root", defArgs s_Lroot, defBody s_Lroot, defScope s_Lroot, [], []⟩
def dD_is_square : He.DefD := ⟨("is_square", none), "is_square", "is_square", defArgs s_is_square, defBody s_is_square, defScope s_is_square, [], []⟩
def dD_floor_root : He.DefD := ⟨("floor_root", none), "floor_root", "floor_root", defArgs s_floor_root, defBody s_floor_root, defScope s_floor_root, [], []⟩
def dD_is_reduced_state : He.DefD := ⟨("is_reduced_state", none), "is_reduced_state", "is_reduced_state", defArgs s_is_reduced_state, defBody s_is_reduced_state, defScope s_is_reduced_state, [], []⟩
def dD_floor_of : He.DefD := ⟨("floor_of", none), "floor_of", "floor_of", defArgs s_floor_of, defBody s_floor_of, defScope s_floor_of, [], []⟩
def dD_next_state : He.DefD := ⟨("next_state", none), "next_state", "next_state", defArgs s_next_state, defBody s_next_state, defScope s_next_state, [], []⟩
def dD_expand : He.DefD := ⟨("expand", none), "expand", "expand", defArgs s_expand, defBody s_expand, defScope s_expand, [], []⟩
def dD_Lrefused : He.DefD := ⟨("_law_refused", none), "_law_refused", "_law_refused", defArgs s_Lrefused, defBody s_Lrefused, defScope s_Lrefused, [], []⟩
def dD_Lis_at_most : He.DefD := ⟨("_law_is_at_most", none), "_law_is_at_most", "_law_is_at_most", defArgs s_Lis_at_most, defBody s_Lis_at_most, defScope s_Lis_at_most, [], []⟩
def dD_Lpart : He.DefD := ⟨("_law_part", none), "_law_part", "_law_part", defArgs s_Lpart, defBody s_Lpart, defScope s_Lpart, [], []⟩
def dD_part_at : He.DefD := ⟨("part_at", none), "part_at", "part_at", defArgs s_part_at, defBody s_part_at, defScope s_part_at, [], []⟩
def dD_law_v5 : He.DefD := ⟨("law", none), "law", "law", defArgs s_law_v5, defBody s_law_v5, defScope s_law_v5, [], []⟩
def clsS (st : Stmt) (i : Nat) : Stmt := match st with
  | .ClassDef (body := b) .. => b.getD i (.Pass ⟨0, 0, 0, 0⟩)
  | _ => .Pass ⟨0, 0, 0, 0⟩
abbrev s_ConicInit : Stmt := clsS (topS 2) 0
def dD_ConicInit : He.DefD := ⟨("ConicError", some "__init__"), "__init__", "ConicError.__init__", defArgs s_ConicInit, defBody s_ConicInit, defScope s_ConicInit, [.non], []⟩
def hdBfCls (K : PySem.W.Frag) (C : Addr) : Bool := match K.lookup C with
  | some ⟨.type c, _, .cls cd, sl⟩ => (match cd.mro, sl.toList with
    | .ref C' :: bm, [_, _, _, _, some (.builtin n), _] => decide (c = "type") && (decide (C' = C) && (decide (n = "ValueError.__new__") && (!cd.hasDel && (cd.hasDict && PySem.HandSPX.refsVE bm))))
    | _, _ => false)
  | _ => false
def hdBfB (K : PySem.W.Frag) (C B T fI : Addr) : List Bool := [hdBfCls K C,
  decide (PySem.W.findIn K (.ref C) "__setattr__" = some (some (.builtin "object.__setattr__"))),
  decide (PySem.W.subIn K (.ref C) (.type "BaseException") = some true),
  decide (PySem.W.typeIn K (.ref C) = some (.type "type")),
  PySem.W.keepIn K (.ref C),
  decide (PySem.W.findIn K (.ref C) "__getattribute__" = some (some (.builtin "BaseException.__getattribute__"))),
  decide (PySem.W.findIn K (.ref C) "__getattr__" = some none),
  PySem.W.hasDictIn K C,
  decide (PySem.W.findIn K (.ref C) "__class__" = some (some (.builtin "object.__class__"))),
  decide (PySem.W.specialIn K (.builtin "object.__class__") "__get__" = some (some (.builtin "getset_descriptor.__get__"))),
  decide (PySem.W.takesIn K (.builtin "object.__class__") = some true),
  decide (PySem.W.mroIn K C (.type "object") = some true),
  decide (PySem.W.findIn K (.ref C) "what" = some none),
  decide (PySem.W.findIn K (.ref C) "__init__" = some (some (.ref fI))),
  decide (PySem.W.typeIn K (.ref fI) = some (.type "function")),
  decide (PySem.W.kitOne K (.ref C) (.ref C) = some true),
  decide (PySem.W.kitOne K (.ref C) (.ref T) = some false),
  decide (PySem.W.exmOne K (.ref C) (.ref B) = some true)]
def hdFn0 : List He.DefD := [dD_Lnumbers, dD_Lcell, dD_Lstate, dD_Lnext, dD_Lwide, dD_Lroot, dD_is_square, dD_floor_root, dD_is_reduced_state, dD_floor_of, dD_next_state, dD_expand, dD_Lrefused, dD_Lis_at_most, dD_Lpart, dD_part_at, dD_law_v5, dD_ConicInit]
def hdFn : List He.DefD := hdFn0
def hdFa0 : List He.Fa := [.glo "_law_numbers", .glo "_law_cell", .glo "_law_state", .glo "_law_next", .glo "_law_wide", .glo "_law_root", .glo "is_square", .glo "floor_root", .glo "is_reduced_state", .glo "floor_of", .glo "next_state", .glo "expand", .glo "_law_refused", .glo "_law_is_at_most", .glo "_law_part", .glo "part_at", .glo "law", .free "abs", .free "range", .free "int", .free "len", .free "tuple", .free "isinstance", .free "min", .glo "BadForm", .glo "ConicError", .glo "BadText"]
def hdFa : List He.Fa := hdFa0
def hdLo0 : List Str := ["isqrt", "ConicError", "BadText", "BadForm", "floor_root", "is_square", "floor_of", "next_state", "is_reduced_state", "expand", "part_at", "_law_cell", "_law_numbers", "_law_state", "_law_next", "_law_wide", "_law_root", "_law_is_at_most", "_law_part", "_law_refused"]
def hdLo : List Str := hdLo0
def hdEx (K : PySem.W.Frag) : List Bool := [decide (PySem.W.nsIn K mainGlobals "isqrt" = some (some (.builtin "math.isqrt"))), ((hdBfB K (He.ga K "BadForm") (He.ga K "ConicError") (He.ga K "BadText") (He.fAd K ("ConicError", some "__init__"))).all id)]
abbrev HdAl : Type := List Bool × He.AlD
def hdVal : HdAl := ([true, true], He.valD hdFn)
def hdAs (g : Addr → Option Obj) : List Addr := match g mainGlobals with
  | some ⟨_, _, .dict es _, _⟩ => mainGlobals :: ((es.toList.flatMap fun e => He.refV e.val) ++ (es.toList.flatMap fun e => He.refV e.val).flatMap fun a => match g a with
    | some ⟨_, _, .func fd, _⟩ => He.refV fd.code
    | some ⟨_, _, .cls cd, _⟩ => cd.ns :: (match g cd.ns with
      | some ⟨_, _, .dict es2 _, _⟩ => (es2.toList.flatMap fun e => He.refV e.val) ++ (es2.toList.flatMap fun e => He.refV e.val).flatMap fun b => match g b with
        | some ⟨_, _, .func fd, _⟩ => He.refV fd.code ++ He.refV fd.defaults
        | _ => []
      | _ => [])
    | _ => [])
  | _ => []
def hdObs (g : Addr → Option Obj) : HdAl := (hdEx (He.frG g (hdAs g)), He.obsD hdFa hdFn (He.frG g (hdAs g)))
def hdHook : PySem.W.Hook where
  α := HdAl
  obs := fun s => hdObs s.heap.get?
  val := fun _ => hdVal
  says := fun _ h => ∃ K : PySem.W.Frag, K.In h ∧ hdEx K = [true, true] ∧ He.SaysD hdFa hdFn K
  of := fun _ _ e => ⟨_, He.frG_in, congrArg Prod.fst e, congrArg Prod.snd e⟩
  keeps := fun _ _ _ ⟨K, hK, c⟩ k => ⟨K, PySem.W.Frag.In.keeps hK k, c⟩
abbrev hdR : PySem.W.OpenRow := PySem.W.OpenLaw.row PySem.Challenge.rw_wholeconic_k05_continued_fractions
def hdOb (s : PySem.W.SharedT) : HdAl := hdObs (HandSHeadRun.getT s)
theorem hdOb_eq (s : PySem.W.SharedT) : hdOb s = hdHook.obs s.abs := by
  have e : HandSHeadRun.getT s = s.abs.heap.get? := funext (HandSHeadRun.getT_eq s)
  show hdObs (HandSHeadRun.getT s) = hdObs s.abs.heap.get?
  rw [e]
theorem hdLaw (H : (PySem.W.OpenLaw.row PySem.Challenge.rw_wholeconic_k05_continued_fractions).wellSaid = true → (PySem.W.OpenLaw.row PySem.Challenge.rw_wholeconic_k05_continued_fractions).Holds) : PySem.Challenge.rw_wholeconic_k05_continued_fractions.Holds := by
  w_on; o_law
  exact H (by assumption)
theorem hdOk : (PySem.W.chainsOk (PySem.W.view hdR.prog [0, 24]) && PySem.W.opensWell hdR.prog && (PySem.W.frees hdR.toRowW && hdR.within.isEmpty)) = true := by decide +kernel
theorem hdBare : hdR.prog.bare := ⟨rfl, rfl, rfl, rfl, rfl, by decide +kernel⟩
theorem hd3 {α β γ δ : Type} {o : Option α} {f : α → β} {g : α → γ} {h : α → δ} {a : β} {b : γ} {c : δ} (ha : o.map f = some a) (hb : o.map g = some b) (hc : o.map h = some c) : o.map (fun x => (f x, g x, h x)) = some (a, b, c) := by
  cases o with
  | none => cases ha
  | some x =>
    have ha : f x = a := Option.some.inj ha
    have hb : g x = b := Option.some.inj hb
    have hc : h x = c := Option.some.inj hc
    subst ha hb hc
    rfl
noncomputable def hdW (w : World) := HandSHeadRun.wholeF (fun p => HandSHeadRun.stepQ (HandSHeadRun.denQ HandSHeadRun.tabQ) p w) HandSHeadRun.fenceQ 6000 hdR.prog
theorem hdA (w : World) : (hdW w).map (fun x => HandSHeadRun.looksF hdR.prog x.1.heap x.2.abs) = some true := by kernel_rfl
theorem hdB (w : World) : (hdW w).map (fun x => HandSHeadRun.seenQ (PySem.W.view hdR.prog [0, 24]) hdLo (PySem.importedModules hdR.prog.main.body) (fun s => PySem.W.xlAt (PySem.W.view hdR.prog [0, 24]) [] s && PySem.W.recOk hdR.toRowW.records s) x.2.abs) = some (PySem.W.openGood (PySem.W.view hdR.prog [0, 24]) hdLo) := by kernel_rfl
theorem hdC (w : World) : (hdW w).map (fun x => hdOb x.2) = some (hdHook.val w) := by kernel_rfl
theorem hdRun (w : World) : HandSHeadRun.RunEqI hdR (PySem.W.view hdR.prog [0, 24]) hdHook hdOb 6000 hdLo w := hd3 (hdA w) (hdB w) (hdC w)
end DL
namespace DL
open PySem PySem.Spec PyProof.Rows L2

/-! ### data -/
inductive D where
  | non | bl (b : Bool) | int (i : Int) | str (s : Str) | st | tup (xs : List D) | lst (xs : List D)
  /-- a place; a list that stands among what was written once for all -/
  | adr (p : Addr) | hls (xs : List D)
  deriving Inhabited

/-- where the law's own state stands; what is written once for all -/
structure Wd where
  g : Option Addr
  hd : Hp
structure Wd.le (a b : Wd) : Prop where
  g : ∀ p, a.g = some p → b.g = some p
  hd : ∀ p o, a.hd p = some o → b.hd p = some o
theorem Wd.le.refl (a : Wd) : a.le a := ⟨fun _ h => h, fun _ _ h => h⟩
theorem Wd.le.trans {a b c : Wd} (x : a.le b) (y : b.le c) : a.le c := ⟨fun p h => y.g p (x.g p h), fun p o h => y.hd p o (x.hd p o h)⟩

/-- the object there is known to have no dict of its own -/
def NoD (K : PySem.W.Frag) (H : Hp) (a : Addr) : Prop := (∃ o u, H a = some (.frz o u) ∧ o.dict = none) ∨ ∃ o, K.lookup a = some o ∧ o.dict = none
/-- a tuple that has no dict -/
def SqN (K : PySem.W.Frag) (H : Hp) (a : Addr) (vs : List V) : Prop := SqT K H a vs ∧ NoD K H a
theorem SqN.new {K : PySem.W.Frag} {H : Hp} {a : Addr} {o : Obj} {vs : List V} (h : H a = some (.frz o (.tup vs))) (d : o.dict = none) : SqN K H a vs := ⟨.inl (.inr ⟨o, h⟩), .inl ⟨o, _, h, d⟩⟩
mutual
def Rep (K : PySem.W.Frag) (ω : Wd) : D → V → Prop
  | .non, v => v = .non
  | .bl b, v => v = .bl b
  | .int i, v => v = .int i
  | .str s, v => v = .str s
  | .st, v => ∃ a, ω.g = some a ∧ v = .ref a
  | .tup xs, v => ∃ a vs, v = .ref a ∧ SqN K ω.hd a vs ∧ Reps K ω xs vs
  | .lst xs, v => ∃ a vs, v = .ref a ∧ SqL K ω.hd a vs ∧ Reps K ω xs vs
  | .adr p, v => v = .ref p
  | .hls xs, v => ∃ a vs, v = .ref a ∧ ω.hd a = some (.lst vs) ∧ Reps K ω xs vs
def Reps (K : PySem.W.Frag) (ω : Wd) : List D → List V → Prop
  | [], vs => vs = []
  | d :: ds, vs => ∃ v r, vs = v :: r ∧ Rep K ω d v ∧ Reps K ω ds r
end

theorem sqL_mono {K : PySem.W.Frag} {H H' : Hp} (e : ∀ p o, H p = some o → H' p = some o) {a : Addr} {vs : List V} (h : SqL K H a vs) : SqL K H' a vs := by
  rcases h with (h | ⟨o, h⟩) | h
  · exact .inl (.inl (e _ _ h))
  · exact .inl (.inr ⟨o, e _ _ h⟩)
  · exact .inr h
theorem sqT_mono {K : PySem.W.Frag} {H H' : Hp} (e : ∀ p o, H p = some o → H' p = some o) {a : Addr} {vs : List V} (h : SqT K H a vs) : SqT K H' a vs := by
  rcases h with (h | ⟨o, h⟩) | h
  · exact .inl (.inl (e _ _ h))
  · exact .inl (.inr ⟨o, e _ _ h⟩)
  · exact .inr h
theorem sqN_mono {K : PySem.W.Frag} {H H' : Hp} (e : ∀ p o, H p = some o → H' p = some o) {a : Addr} {vs : List V} (h : SqN K H a vs) : SqN K H' a vs := by
  refine ⟨sqT_mono e h.1, ?_⟩
  rcases h.2 with ⟨o, u, h, d⟩ | h
  · exact .inl ⟨o, u, e _ _ h, d⟩
  · exact .inr h

mutual
theorem Rep.mono {K : PySem.W.Frag} {ω ω' : Wd} (l : ω.le ω') : ∀ {d : D} {v : V}, Rep K ω d v → Rep K ω' d v
  | .non, _, h => by unfold Rep at h ⊢; exact h
  | .bl b, _, h => by unfold Rep at h ⊢; exact h
  | .int i, _, h => by unfold Rep at h ⊢; exact h
  | .str s, _, h => by unfold Rep at h ⊢; exact h
  | .st, _, h => by
    unfold Rep at h ⊢
    obtain ⟨a, h1, h2⟩ := h
    exact ⟨a, l.g a h1, h2⟩
  | .tup xs, _, h => by
    unfold Rep at h ⊢
    obtain ⟨a, vs, h1, h2, h3⟩ := h
    exact ⟨a, vs, h1, sqN_mono l.hd h2, Reps.mono l h3⟩
  | .lst xs, _, h => by
    unfold Rep at h ⊢
    obtain ⟨a, vs, h1, h2, h3⟩ := h
    exact ⟨a, vs, h1, sqL_mono l.hd h2, Reps.mono l h3⟩
  | .adr p, _, h => by unfold Rep at h ⊢; exact h
  | .hls xs, _, h => by
    unfold Rep at h ⊢
    obtain ⟨a, vs, h1, h2, h3⟩ := h
    exact ⟨a, vs, h1, l.hd _ _ h2, Reps.mono l h3⟩
theorem Reps.mono {K : PySem.W.Frag} {ω ω' : Wd} (l : ω.le ω') : ∀ {ds : List D} {vs : List V}, Reps K ω ds vs → Reps K ω' ds vs
  | [], _, h => by unfold Reps at h ⊢; exact h
  | d :: ds, _, h => by
    unfold Reps at h ⊢
    obtain ⟨v, r, h1, h2, h3⟩ := h
    exact ⟨v, r, h1, Rep.mono l h2, Reps.mono l h3⟩
end
section
variable {K : PySem.W.Frag} {ω : Wd}
theorem Rep.int_iff {i : Int} {v : V} : Rep K ω (.int i) v ↔ v = .int i := by unfold Rep; exact Iff.rfl
theorem Rep.bl_iff {i : Bool} {v : V} : Rep K ω (.bl i) v ↔ v = .bl i := by unfold Rep; exact Iff.rfl
theorem Rep.str_iff {i : Str} {v : V} : Rep K ω (.str i) v ↔ v = .str i := by unfold Rep; exact Iff.rfl
theorem Rep.non_iff {v : V} : Rep K ω .non v ↔ v = .non := by unfold Rep; exact Iff.rfl
theorem Rep.tup_iff {xs : List D} {v : V} : Rep K ω (.tup xs) v ↔ ∃ a vs, v = .ref a ∧ SqN K ω.hd a vs ∧ Reps K ω xs vs := by conv => lhs; unfold Rep
theorem Rep.lst_iff {xs : List D} {v : V} : Rep K ω (.lst xs) v ↔ ∃ a vs, v = .ref a ∧ SqL K ω.hd a vs ∧ Reps K ω xs vs := by conv => lhs; unfold Rep
theorem Rep.adr_iff {p : Addr} {v : V} : Rep K ω (.adr p) v ↔ v = .ref p := by unfold Rep; exact Iff.rfl
theorem Rep.hls_iff {xs : List D} {v : V} : Rep K ω (.hls xs) v ↔ ∃ a vs, v = .ref a ∧ ω.hd a = some (.lst vs) ∧ Reps K ω xs vs := by conv => lhs; unfold Rep
theorem Rep.st_iff {v : V} : Rep K ω .st v ↔ ∃ a, ω.g = some a ∧ v = .ref a := by conv => lhs; unfold Rep
theorem Reps.nil : Reps K ω [] [] := by unfold Reps; rfl
theorem Reps.nil_iff {vs : List V} : Reps K ω [] vs ↔ vs = [] := by unfold Reps; exact Iff.rfl
theorem Reps.cons_iff {d : D} {ds : List D} {vs : List V} : Reps K ω (d :: ds) vs ↔ ∃ v r, vs = v :: r ∧ Rep K ω d v ∧ Reps K ω ds r := by conv => lhs; unfold Reps
theorem Reps.cons {d : D} {ds : List D} {v : V} {vs : List V} (h : Rep K ω d v) (t : Reps K ω ds vs) : Reps K ω (d :: ds) (v :: vs) := Reps.cons_iff.mpr ⟨v, vs, rfl, h, t⟩
theorem Reps.length : ∀ {ds : List D} {vs : List V}, Reps K ω ds vs → vs.length = ds.length
  | [], _, h => by rw [Reps.nil_iff] at h; rw [h]; rfl
  | d :: ds, _, h => by
    obtain ⟨v, r, rfl, _, h3⟩ := Reps.cons_iff.mp h
    rw [List.length_cons, List.length_cons, Reps.length h3]
theorem Reps.get : ∀ {ds : List D} {vs : List V} {i : Nat} {d : D}, Reps K ω ds vs → ds[i]? = some d → ∃ v, vs[i]? = some v ∧ Rep K ω d v
  | [], _, _, _, _, e => by simp at e
  | d :: ds, _, 0, _, h, e => by
    obtain ⟨v, r, rfl, h2, h3⟩ := Reps.cons_iff.mp h
    simp at e; subst e
    exact ⟨v, rfl, h2⟩
  | d :: ds, _, i + 1, d', h, e => by
    obtain ⟨v, r, rfl, h2, h3⟩ := Reps.cons_iff.mp h
    obtain ⟨v', e', h'⟩ := Reps.get (i := i) (d := d') h3 (by simpa using e)
    exact ⟨v', by simpa using e', h'⟩
theorem Reps.append : ∀ {ds es : List D} {vs us : List V}, Reps K ω ds vs → Reps K ω es us → Reps K ω (ds ++ es) (vs ++ us)
  | [], _, _, _, h, t => by rw [Reps.nil_iff] at h; subst h; exact t
  | d :: ds, _, _, _, h, t => by
    obtain ⟨v, r, rfl, h2, h3⟩ := Reps.cons_iff.mp h
    exact Reps.cons h2 (Reps.append h3 t)
theorem Reps.drop : ∀ {ds : List D} {vs : List V} (n : Nat), Reps K ω ds vs → Reps K ω (ds.drop n) (vs.drop n)
  | _, _, 0, h => h
  | [], _, n + 1, h => by rw [Reps.nil_iff] at h; subst h; exact Reps.nil
  | d :: ds, _, n + 1, h => by
    obtain ⟨v, r, rfl, h2, h3⟩ := Reps.cons_iff.mp h
    exact Reps.drop n h3
theorem Reps.take : ∀ {ds : List D} {vs : List V} (n : Nat), Reps K ω ds vs → Reps K ω (ds.take n) (vs.take n)
  | _, _, 0, h => Reps.nil
  | [], _, n + 1, h => by rw [Reps.nil_iff] at h; subst h; exact Reps.nil
  | d :: ds, _, n + 1, h => by
    obtain ⟨v, r, rfl, h2, h3⟩ := Reps.cons_iff.mp h
    exact Reps.cons h2 (Reps.take n h3)
end

/-! ### what a name holds, what an expression gives -/
inductive EV where
  | val (d : D) | own (ds : List D)
  /-- an own dict: tuples of ints to data -/
  | dct (p : Addr) (kvs : List (List Int × D))
  deriving Inhabited
def EV.d : EV → D
  | .val d => d
  | .own ds => .lst ds
  | .dct p _ => .adr p
abbrev En := List (Option EV)
abbrev Tk := Option Nat
structure C where
  K : PySem.W.Frag
  w0 : Wd
  H0 : Hp
  pr : Addr → Prop := fun _ => False

def StOk (K : PySem.W.Frag) (ω : Wd) (H : Hp) (tk : Tk) : Prop :=
  (ω.g = none ∧ tk = none) ∨ ∃ (a : Addr) (k : Nat), ω.g = some a ∧ tk = some k ∧ ω.hd a = none ∧ ∃ (n : Addr) (ns : List Int), H a = some (.lst [.ref n, .int (k : Int)]) ∧ SqL K ω.hd n (ns.map V.int) ∧ ns.length = 120 ∧ ∀ x ∈ ns, (0 : Int) ≤ x ∧ x < 1000
def OwnAt (c : C) (ω : Wd) (H : Hp) (p : Addr) (ds : List D) : Prop := ∃ vs, H p = some (.lst vs) ∧ ω.hd p = none ∧ ω.g ≠ some p ∧ (c.H0 p = none ∧ ¬ c.pr p) ∧ Reps c.K ω ds vs
/-- a dict's rows: key's place and value by turns -/
inductive DP : List (List Int × D) → List V → List (List Int × Addr × Value) → Prop
  | nil : DP [] [] []
  | cons {k : List Int} {d : D} {b : Addr} {v : V} {u : Value} {kvs : List (List Int × D)} {vs : List V} {xs : List (List Int × Addr × Value)} : RelV v u → DP kvs vs xs → DP ((k, d) :: kvs) (.ref b :: v :: vs) ((k, b, u) :: xs)
def dEnt (x : List Int × Addr × Value) : DictEntry := ⟨reduceHash (PySem.Builtin.Tuple.tupleHashOf (x.1.map hashInt)), .ref x.2.1, x.2.2⟩
def dctF (p : Addr) (kvs : List (List Int × D)) (vs : List V) (h : Heap) : Prop := kvs.length ≤ sizeLine ∧ (p == sysModules) = false ∧ (kvs.map Prod.fst).Nodup ∧ ∃ xs, DP kvs vs xs ∧ ∃ o es ep, h.get? p = some o ∧ o.ExactDict ∧ o.data = .dict es ep ∧ es.toList = xs.map dEnt
/-- the dict's object: any keys that are tuples of ints -/
def dctO (p : Addr) (kvs : List (List Int × D)) (vs : List V) : HO := .ext (dctF p kvs vs)
def dctD (kvs : List (List Int × D)) : List D := kvs.flatMap fun e => [.tup (e.1.map D.int), e.2]
def DctAt (c : C) (ω : Wd) (H : Hp) (p : Addr) (kvs : List (List Int × D)) : Prop := ∃ vs, H p = some (dctO p kvs vs) ∧ ω.hd p = none ∧ ω.g ≠ some p ∧ (c.H0 p = none ∧ ¬ c.pr p) ∧ Reps c.K ω (dctD kvs) vs
def SlotV (c : C) (ω : Wd) (H : Hp) : EV → V → Prop
  | .val d, v => Rep c.K ω d v
  | .own ds, v => ∃ p, v = .ref p ∧ OwnAt c ω H p ds
  | .dct p kvs, v => v = .ref p ∧ DctAt c ω H p kvs
structure Ok (c : C) (ω : Wd) (H : Hp) (σ : L2.St) (env : En) (tk : Tk) : Prop where
  len : σ.length = env.length
  sub : ∀ b o, ω.hd b = some o → H b = some o
  st : StOk c.K ω H tk
  slots : ∀ (i : Nat) (e : EV), env[i]? = some (some e) → ∃ v, σ[i]? = some (some v) ∧ SlotV c ω H e v
  dist : ∀ (i j : Nat) (p : Addr) (ds es : List D), env[i]? = some (some (.own ds)) → env[j]? = some (some (.own es)) → σ[i]? = some (some (.ref p)) → σ[j]? = some (some (.ref p)) → i = j
  one : ∀ (i j : Nat) (p : Addr) (ds es : List (List Int × D)), env[i]? = some (some (.dct p ds)) → env[j]? = some (some (.dct p es)) → i = j
  new : ∀ b, ω.hd b ≠ none → c.w0.hd b ≠ none ∨ c.H0 b = none
  ng : ∀ a, ω.g = some a → c.w0.g = some a ∨ c.H0 a = none
  fr : ∀ b o, c.H0 b = some o → c.w0.g ≠ some b → H b = some o
  le0 : c.w0.le ω
  pr : ∀ b, c.pr b → H b ≠ none ∧ ω.hd b = none ∧ ω.g ≠ some b
/-- an expression's step -/
structure Stp (ω : Wd) (H : Hp) (ω' : Wd) (H' : Hp) : Prop where
  le : ω.le ω'
  fr : ∀ b o, H b = some o → ω.g ≠ some b → H' b = some o
  ng : ∀ a, ω'.g = some a → ω.g = some a ∨ H a = none
theorem Stp.refl (ω : Wd) (H : Hp) : Stp ω H ω H := ⟨.refl _, fun _ _ h _ => h, fun _ h => .inl h⟩
theorem Stp.trans {ω ω1 ω2 : Wd} {H H1 H2 : Hp} (a : Stp ω H ω1 H1) (b : Stp ω1 H1 ω2 H2) : Stp ω H ω2 H2 := by
  refine ⟨a.le.trans b.le, fun p o h n => b.fr p o (a.fr p o h n) fun e => ?_, fun p h => ?_⟩
  · rcases a.ng p e with e | e
    · exact n e
    · rw [h] at e; cases e
  · rcases b.ng p h with e | e
    · exact a.ng p e
    · by_cases q : ω.g = some p
      · exact .inl q
      · refine .inr ?_
        cases z : H p with
        | none => rfl
        | some o =>
          rw [a.fr p o z q] at e
          cases e
/-- read without giving away -/
def RepP (c : C) (ω : Wd) (H : Hp) (d : D) (v : V) : Prop := Rep c.K ω d v ∨ ∃ ds p vs, d = .lst ds ∧ v = .ref p ∧ H p = some (.lst vs) ∧ ω.g ≠ some p ∧ Reps c.K ω ds vs
def RepE (c : C) (ω : Wd) (H : Hp) (σ : L2.St) (env : En) : EV → V → Prop
  | .val d, v => Rep c.K ω d v
  | .own ds, v => ∃ p, v = .ref p ∧ OwnAt c ω H p ds ∧ ∀ (i : Nat) (es : List D), env[i]? = some (some (.own es)) → σ[i]? ≠ some (some (.ref p))
  | .dct p kvs, v => v = .ref p ∧ DctAt c ω H p kvs ∧ ∀ (i : Nat) (es : List (List Int × D)), env[i]? ≠ some (some (.dct p es))
theorem RepP.step {c : C} {ω ω' : Wd} {H H' : Hp} {d : D} {v : V} (h : RepP c ω H d v) (s : Stp ω H ω' H') : RepP c ω' H' d v := by
  rcases h with h | ⟨ds, p, vs, rfl, rfl, h1, h2, h3⟩
  · exact .inl (h.mono s.le)
  · refine .inr ⟨ds, p, vs, rfl, rfl, s.fr p _ h1 h2, fun e => ?_, h3.mono s.le⟩
    rcases s.ng p e with e | e
    · exact h2 e
    · rw [h1] at e; cases e
section
variable {c : C} {ω : Wd} {H : Hp} {v : V}
theorem RepP.int {i : Int} (h : RepP c ω H (.int i) v) : v = .int i := by
  rcases h with h | ⟨ds, p, vs, e, _⟩
  · exact Rep.int_iff.mp h
  · cases e
theorem RepP.bl {i : Bool} (h : RepP c ω H (.bl i) v) : v = .bl i := by
  rcases h with h | ⟨ds, p, vs, e, _⟩
  · exact Rep.bl_iff.mp h
  · cases e
theorem RepP.str {i : Str} (h : RepP c ω H (.str i) v) : v = .str i := by
  rcases h with h | ⟨ds, p, vs, e, _⟩
  · exact Rep.str_iff.mp h
  · cases e
theorem RepP.lst (sub : ∀ b o, ω.hd b = some o → H b = some o) {ds : List D} (h : RepP c ω H (.lst ds) v) : ∃ p vs, v = .ref p ∧ SqL c.K H p vs ∧ Reps c.K ω ds vs := by
  rcases h with h | ⟨ds, p, vs, e, rfl, h1, h2, h3⟩
  · obtain ⟨a, vs, rfl, h1, h2⟩ := Rep.lst_iff.mp h
    exact ⟨a, vs, rfl, sqL_mono sub h1, h2⟩
  · cases e
    exact ⟨p, vs, rfl, .of h1, h3⟩
theorem RepP.tup (sub : ∀ b o, ω.hd b = some o → H b = some o) {ds : List D} (h : RepP c ω H (.tup ds) v) : ∃ p vs, v = .ref p ∧ SqT c.K H p vs ∧ Reps c.K ω ds vs := by
  rcases h with h | ⟨ds, p, vs, e, _⟩
  · obtain ⟨a, vs, rfl, h1, h2⟩ := Rep.tup_iff.mp h
    exact ⟨a, vs, rfl, sqT_mono sub h1.1, h2⟩
  · cases e
theorem RepP.tupN (sub : ∀ b o, ω.hd b = some o → H b = some o) {ds : List D} (h : RepP c ω H (.tup ds) v) : ∃ p vs, v = .ref p ∧ SqN c.K H p vs ∧ Reps c.K ω ds vs := by
  rcases h with h | ⟨ds, p, vs, e, _⟩
  · obtain ⟨a, vs, rfl, h1, h2⟩ := Rep.tup_iff.mp h
    exact ⟨a, vs, rfl, sqN_mono sub h1, h2⟩
  · cases e
end
end DL

namespace DL
open PySem PySem.Spec PyProof.Rows L2

/-! ### the world grows -/
theorem dct_lst {H : Hp} {p q r : Addr} {kvs : List (List Int × D)} {us vs : List V} (h : H q = some (dctO r kvs us)) (h' : H p = some (.lst vs)) : q ≠ p := fun z => by
  rw [z, h'] at h
  have e := Option.some.inj h
  unfold dctO at e
  cases e
section
variable {c : C} {ω : Wd} {H : Hp} {σ : L2.St} {env : En} {tk : Tk} {p : Addr}
theorem Ok.nohd (ok : Ok c ω H σ env tk) (n : H p = none) : ω.hd p = none := by
  cases z : ω.hd p with
  | none => rfl
  | some o => rw [ok.sub p o z] at n; cases n
theorem StOk.there {K : PySem.W.Frag} (st : StOk K ω H tk) {a : Addr} (h : ω.g = some a) : H a ≠ none := by
  rcases st with ⟨e, _⟩ | ⟨a', k, e, _, _, n, ns, e2, _⟩
  · rw [h] at e; cases e
  · rw [h] at e; cases e
    intro z
    rw [e2] at z; cases z
theorem Ok.nog (ok : Ok c ω H σ env tk) (n : H p = none) : ω.g ≠ some p := fun e => ok.st.there e n
theorem Ok.noH0 (ok : Ok c ω H σ env tk) (n : H p = none) : c.H0 p = none := by
  cases z : c.H0 p with
  | none => rfl
  | some o =>
    by_cases q : c.w0.g = some p
    · exact absurd n (ok.st.there (ok.le0.g p q))
    · rw [ok.fr p o z q] at n; cases n
theorem Ok.nopr (ok : Ok c ω H σ env tk) (n : H p = none) : ¬ c.pr p := fun e => (ok.pr p e).1 n
/-- a slot's own list does not stand at a free place, nor at a frozen one -/
theorem Ok.noslot (ok : Ok c ω H σ env tk) (n : H p = none ∨ ω.hd p ≠ none) : ∀ (i : Nat) (es : List D), env[i]? = some (some (.own es)) → σ[i]? ≠ some (some (.ref p)) := fun i es e z => by
  obtain ⟨v, hv, q, rfl, vs, h1, h2, _⟩ := ok.slots i _ e
  rw [z] at hv
  cases hv
  rcases n with n | n
  · rw [h1] at n; cases n
  · exact n h2
theorem le_upd {o : HO} (n : ω.hd p = none) : ω.le ⟨ω.g, upd ω.hd p o⟩ := ⟨fun _ h => h, fun q u h => by
  show upd ω.hd p o q = some u
  rw [upd_ne (ne_of_none h n)]
  exact h⟩
theorem StOk.upd {K : PySem.W.Frag} {o : HO} (st : StOk K ω H tk) (n : H p = none) : StOk K ω (upd H p o) tk := by
  rcases st with st | ⟨a', k, e, e1, e0, nn, ns, e2, r⟩
  · exact .inl st
  · exact .inr ⟨a', k, e, e1, e0, nn, ns, by rw [upd_ne (ne_of_none e2 n)]; exact e2, r⟩
theorem StOk.hd {K : PySem.W.Frag} {o : HO} (st : StOk K ω H tk) (n : ω.g ≠ some p) (n2 : ω.hd p = none) : StOk K ⟨ω.g, L2.upd ω.hd p o⟩ H tk := by
  rcases st with st | ⟨a', k, e, e1, e0, nn, ns, e2, r, r2⟩
  · exact .inl st
  · refine .inr ⟨a', k, e, e1, ?_, nn, ns, e2, sqL_mono (le_upd n2).hd r, r2⟩
    show L2.upd ω.hd p o a' = none
    rw [upd_ne (fun q => n (by rw [e, q]))]
    exact e0
theorem SlotV.up {e : EV} {v : V} {ω' : Wd} {H' : Hp} (s : SlotV c ω H e v) (l : ω.le ω') (hg : ω'.g = ω.g) (k : ∀ q (o : HO), v = .ref q → H q = some o → ω.hd q = none → c.H0 q = none ∧ ¬ c.pr q → H' q = some o ∧ ω'.hd q = none) : SlotV c ω' H' e v := by
  cases e with
  | val d => exact Rep.mono l s
  | own ds =>
    obtain ⟨q, rfl, vs, h1, h2, h3, h4, h5⟩ := s
    obtain ⟨k1, k2⟩ := k q _ rfl h1 h2 h4
    exact ⟨q, rfl, vs, k1, k2, by rw [hg]; exact h3, h4, h5.mono l⟩
  | dct q ds =>
    obtain ⟨rfl, vs, h1, h2, h3, h4, h5⟩ := s
    obtain ⟨k1, k2⟩ := k q _ rfl h1 h2 h4
    exact ⟨rfl, vs, k1, k2, by rw [hg]; exact h3, h4, h5.mono l⟩
/-- a new object, frozen at once -/
theorem Ok.alloc (ok : Ok c ω H σ env tk) (n : H p = none) (o : HO) : Ok c ⟨ω.g, upd ω.hd p o⟩ (upd H p o) σ env tk where
  len := ok.len
  sub := fun b u h => by
    by_cases e : b = p
    · subst e
      have h' : upd ω.hd b o b = some u := h
      rw [upd_same] at h' ⊢
      exact h'
    · have h' : upd ω.hd p o b = some u := h
      rw [upd_ne e] at h' ⊢
      exact ok.sub b u h'
  st := (ok.st.upd n).hd (ok.nog n) (ok.nohd n)
  slots := fun i e he => by
    obtain ⟨v, h1, h2⟩ := ok.slots i e he
    refine ⟨v, h1, h2.up (le_upd (ok.nohd n)) rfl fun q vs _ a1 a2 _ => ?_⟩
    have hq : q ≠ p := ne_of_none a1 n
    exact ⟨by rw [upd_ne hq]; exact a1, by show upd ω.hd p o q = none; rw [upd_ne hq]; exact a2⟩
  dist := ok.dist
  one := ok.one
  new := fun b h => by
    by_cases e : b = p
    · subst e
      exact .inr (ok.noH0 n)
    · have h' : upd ω.hd p o b ≠ none := h
      rw [upd_ne e] at h'
      exact ok.new b h'
  ng := ok.ng
  fr := fun b u h q => by
    have hb : b ≠ p := ne_of_none h (ok.noH0 n)
    rw [upd_ne hb]
    exact ok.fr b u h q
  le0 := ok.le0.trans (le_upd (ok.nohd n))
  pr := fun b h => by
    obtain ⟨h1, h2, h3⟩ := ok.pr b h
    have hb : b ≠ p := fun e => ok.nopr n (e ▸ h)
    exact ⟨by rw [upd_ne hb]; exact h1, by show upd ω.hd p o b = none; rw [upd_ne hb]; exact h2, h3⟩
theorem Stp.alloc (n : H p = none) (nh : ω.hd p = none) (o : HO) : Stp ω H ⟨ω.g, upd ω.hd p o⟩ (upd H p o) := ⟨le_upd nh, fun b u h _ => by rw [upd_ne (ne_of_none h n)]; exact h, fun _ h => .inl h⟩
/-- a new list, not yet frozen -/
theorem Ok.newL (ok : Ok c ω H σ env tk) (n : H p = none) (o : HO) : Ok c ω (upd H p o) σ env tk where
  len := ok.len
  sub := fun b u h => by
    rw [upd_ne (ne_of_none h (ok.nohd n))]
    exact ok.sub b u h
  st := ok.st.upd n
  slots := fun i e he => by
    obtain ⟨v, h1, h2⟩ := ok.slots i e he
    refine ⟨v, h1, h2.up (.refl _) rfl fun q vs _ a1 a2 _ => ?_⟩
    exact ⟨by rw [upd_ne (ne_of_none a1 n)]; exact a1, a2⟩
  dist := ok.dist
  one := ok.one
  new := ok.new
  ng := ok.ng
  fr := fun b u h q => by
    rw [upd_ne (ne_of_none h (ok.noH0 n))]
    exact ok.fr b u h q
  le0 := ok.le0
  pr := fun b h => by
    obtain ⟨h1, h2, h3⟩ := ok.pr b h
    have hb : b ≠ p := fun e => ok.nopr n (e ▸ h)
    exact ⟨by rw [upd_ne hb]; exact h1, h2, h3⟩
theorem Stp.newL (n : H p = none) (o : HO) : Stp ω H ω (upd H p o) := ⟨.refl _, fun b u h _ => by rw [upd_ne (ne_of_none h n)]; exact h, fun _ h => .inl h⟩
theorem Ok.own (ok : Ok c ω H σ env tk) (n : H p = none) {ds : List D} {vs : List V} (r : Reps c.K ω ds vs) : RepE c ω (upd H p (.lst vs)) σ env (.own ds) (.ref p) :=
  ⟨p, rfl, ⟨vs, upd_same, ok.nohd n, ok.nog n, ⟨ok.noH0 n, ok.nopr n⟩, r⟩, ok.noslot (.inl n)⟩
/-- an own list is given away -/
theorem Ok.freeze (ok : Ok c ω H σ env tk) {vs : List V} (h1 : H p = some (.lst vs)) (h2 : ω.hd p = none) (h3 : ω.g ≠ some p) (h4 : c.H0 p = none ∧ ¬ c.pr p)
    (hs : ∀ (i : Nat) (es : List D), env[i]? = some (some (.own es)) → σ[i]? ≠ some (some (.ref p))) : Ok c ⟨ω.g, upd ω.hd p (.lst vs)⟩ H σ env tk where
  len := ok.len
  sub := fun b u h => by
    have h' : upd ω.hd p (.lst vs) b = some u := h
    by_cases e : b = p
    · subst e
      rw [upd_same] at h'
      rw [h1]
      exact h'
    · rw [upd_ne e] at h'
      exact ok.sub b u h'
  st := ok.st.hd h3 h2
  slots := fun i e he => by
    obtain ⟨v, g1, g2⟩ := ok.slots i e he
    cases e with
    | val d => exact ⟨v, g1, Rep.mono (le_upd h2) g2⟩
    | own es =>
      refine ⟨v, g1, g2.up (le_upd h2) rfl fun q us e1 a1 a2 _ => ⟨a1, ?_⟩⟩
      show upd ω.hd p (.lst vs) q = none
      rw [upd_ne (fun z => hs i es he (by rw [g1, e1, z]))]
      exact a2
    | dct q es =>
      obtain ⟨rfl, us, b1, b2, b3, b4, b5⟩ := g2
      refine ⟨.ref q, g1, rfl, us, b1, ?_, b3, b4, b5.mono (le_upd h2)⟩
      show upd ω.hd p (.lst vs) q = none
      rw [upd_ne (dct_lst b1 h1)]
      exact b2
  dist := ok.dist
  one := ok.one
  new := fun b h => by
    by_cases e : b = p
    · subst e
      exact .inr h4.1
    · have h' : upd ω.hd p (.lst vs) b ≠ none := h
      rw [upd_ne e] at h'
      exact ok.new b h'
  ng := ok.ng
  fr := ok.fr
  le0 := ok.le0.trans (le_upd h2)
  pr := fun b h => by
    obtain ⟨a1, a2, a3⟩ := ok.pr b h
    have hb : b ≠ p := fun e => h4.2 (e ▸ h)
    exact ⟨a1, by show upd ω.hd p (.lst vs) b = none; rw [upd_ne hb]; exact a2, a3⟩
theorem Stp.freeze {vs : List V} (h2 : ω.hd p = none) : Stp ω H ⟨ω.g, upd ω.hd p (.lst vs)⟩ H := ⟨le_upd h2, fun _ _ h _ => h, fun _ h => .inl h⟩
theorem Ok.reenv (ok : Ok c ω H σ env tk) {env' : En} (hl : env'.length = env.length) (h : ∀ (i : Nat) (e : EV), env'[i]? = some (some e) → env[i]? = some (some e) ∨ ∃ d v, e = .val d ∧ σ[i]? = some (some v) ∧ Rep c.K ω d v) : Ok c ω H σ env' tk where
  len := ok.len.trans hl.symm
  sub := ok.sub
  st := ok.st
  slots := fun i e he => by
    rcases h i e he with q | ⟨d, v, rfl, h1, h2⟩
    · exact ok.slots i e q
    · exact ⟨v, h1, h2⟩
  dist := fun i j q ds es a b x y => by
    rcases h i _ a with a | ⟨d, v, e, _⟩
    · rcases h j _ b with b | ⟨d, v, e, _⟩
      · exact ok.dist i j q ds es a b x y
      · cases e
    · cases e
  one := fun i j q ds es a b => by
    rcases h i _ a with a | ⟨d, v, e, _⟩
    · rcases h j _ b with b | ⟨d, v, e, _⟩
      · exact ok.one i j q ds es a b
      · cases e
    · cases e
  new := ok.new
  ng := ok.ng
  fr := ok.fr
  le0 := ok.le0
  pr := ok.pr
/-- any value given away: its data -/
theorem give (ok : Ok c ω H σ env tk) {ev : EV} {v : V} (r : RepE c ω H σ env ev v) : ∃ ω', Ok c ω' H σ env tk ∧ Stp ω H ω' H ∧ Rep c.K ω' ev.d v := by
  cases ev with
  | val d => exact ⟨ω, ok, .refl _ _, r⟩
  | own ds =>
    obtain ⟨p, rfl, ⟨vs, h1, h2, h3, h4, h5⟩, hs⟩ := r
    refine ⟨_, ok.freeze h1 h2 h3 h4 hs, .freeze h2, Rep.lst_iff.mpr ⟨p, vs, rfl, .of ?_, h5.mono (le_upd h2)⟩⟩
    show upd ω.hd p (.lst vs) p = _
    exact upd_same
  | dct p kvs => exact ⟨ω, ok, .refl _ _, Rep.adr_iff.mpr r.1⟩
end

/-! ### readings over data -/
abbrev W (α : Type) := En → Tk → (α → En → Tk → Prop) → Prop
abbrev WE := W EV
abbrev WD := W D
abbrev WT := W Bool
abbrev WA := W (List D)
def Mon {α : Type} (w : W α) : Prop := ∀ env tk Q Q', (∀ a e t, Q a e t → Q' a e t) → w env tk Q → w env tk Q'
def lift {α β : Type} (c : C) (R : Wd → Hp → L2.St → En → α → β → Prop) (w : W α) : L2.St → Hp → (β → Hp → Prop) → Prop :=
  fun σ H Q => ∃ ω env tk, Ok c ω H σ env tk ∧ w env tk fun a env' tk' => ∀ v ω' H', Stp ω H ω' H' → Ok c ω' H' σ env' tk' → R ω' H' σ env' a v → Q v H'
abbrev liftE (c : C) (w : WE) : TE := lift c (RepE c) w
abbrev liftD (c : C) (w : WD) : TE := lift c (fun ω _ _ _ d v => Rep c.K ω d v) w
abbrev liftP (c : C) (w : WD) : TE := lift c (fun ω H _ _ d v => RepP c ω H d v) w
abbrev liftT (c : C) (w : WT) : TT := lift c (fun _ _ _ _ b b' => b' = b) w
abbrev liftA (c : C) (w : WA) : TA := lift c (fun ω _ _ _ ds vs => Reps c.K ω ds vs) w

structure SE (X : Cx) (c : C) (e : Expr) (w : WE) : Prop where
  mon : Mon w
  run : PE X e (liftE c w)
structure SD (X : Cx) (c : C) (e : Expr) (w : WD) : Prop where
  mon : Mon w
  run : PE X e (liftD c w)
structure SP (X : Cx) (c : C) (e : Expr) (w : WD) : Prop where
  mon : Mon w
  run : PE X e (liftP c w)
structure ST (X : Cx) (c : C) (e : Expr) (w : WT) : Prop where
  mon : Mon w
  run : PT X e (liftT c w)
/-- a chain of and, or -/
structure SW (X : Cx) (c : C) (e : Expr) (w : WT) : Prop where
  mon : Mon w
  run : PW X e (liftT c w)
structure SA (X : Cx) (c : C) (es : List Expr) (w : WA) : Prop where
  mon : Mon w
  run : PA X es (liftA c w)
theorem _root_.L2.PE.wk {X : Cx} {e : Expr} {t t' : TE} (h : PE X e t) (k : ∀ σ H Q, t' σ H Q → t σ H Q) : PE X e t' := ⟨fun pins s σ H Q I q => h.run pins s σ H Q I (k _ _ _ q)⟩
theorem _root_.L2.PT.wk {X : Cx} {e : Expr} {t t' : TT} (h : PT X e t) (k : ∀ σ H Q, t' σ H Q → t σ H Q) : PT X e t' := ⟨fun pins s σ H Q I q => h.run pins s σ H Q I (k _ _ _ q)⟩
theorem _root_.L2.PW.wk {X : Cx} {e : Expr} {t t' : TT} (h : PW X e t) (k : ∀ σ H Q, t' σ H Q → t σ H Q) : PW X e t' := ⟨fun wh pins s σ H Q I q => h.run wh pins s σ H Q I (k _ _ _ q)⟩
theorem _root_.L2.PA.wk {X : Cx} {e : List Expr} {t t' : TA} (h : PA X e t) (k : ∀ σ H Q, t' σ H Q → t σ H Q) : PA X e t' := ⟨fun pos pins s σ H Q I q => h.run pos pins s σ H Q I (k _ _ _ q)⟩

/-- given away -/
def fz (w : WE) : WD := fun env tk Q => w env tk fun ev e t => Q ev.d e t
theorem Mon.fz {w : WE} (m : Mon w) : Mon (DL.fz w) := fun env tk Q Q' h q => m env tk _ _ (fun a e t => h a.d e t) q
theorem SE.fz {X : Cx} {c : C} {e : Expr} {w : WE} (h : SE X c e w) : SD X c e (DL.fz w) := ⟨h.mon.fz, h.run.wk fun σ H Q ⟨ω, env, tk, ok, q⟩ => ⟨ω, env, tk, ok, h.mon _ _ _ _ (fun ev e t k v ω' H' st ok' r => by
  obtain ⟨ω2, ok2, s2, r2⟩ := give ok' r
  exact k v ω2 H' (st.trans s2) ok2 r2) q⟩⟩
theorem SD.pk {X : Cx} {c : C} {e : Expr} {w : WD} (h : SD X c e w) : SP X c e w := ⟨h.mon, h.run.wk fun σ H Q ⟨ω, env, tk, ok, q⟩ => ⟨ω, env, tk, ok, h.mon _ _ _ _ (fun ev e t k v ω' H' st ok' r => k v ω' H' st ok' (.inl r)) q⟩⟩
theorem SE.pk {X : Cx} {c : C} {e : Expr} {w : WE} (h : SE X c e w) : SP X c e (DL.fz w) := h.fz.pk

/-! ### names -/
def wPk (i : Nat) : WD := fun env tk Q => match env[i]? with
  | some (some ev) => Q ev.d env tk
  | _ => False
def wV (i : Nat) : WE := fun env tk Q => match env[i]? with
  | some (some (.val d)) => Q (.val d) env tk
  | some (some (.own ds)) => Q (.val (.lst ds)) (env.set i (some (.val (.lst ds)))) tk
  | _ => False
section
variable {X : Cx} {c : C}
theorem sp_v (i : Nat) {x : Str} {pos : Pos} (h : PE X (.Name x pos) (tVar i)) : SP X c (.Name x pos) (wPk i) := by
  refine ⟨fun env tk Q Q' h q => ?_, h.wk fun σ H Q ⟨ω, env, tk, ok, q⟩ => ?_⟩
  · unfold wPk at q ⊢
    split at q
    · exact h _ _ _ q
    · exact q
  · unfold wPk at q
    split at q
    · rename_i ev he
      obtain ⟨v, h1, h2⟩ := ok.slots i ev he
      refine ⟨v, h1, q v ω H (.refl _ _) ok ?_⟩
      cases ev with
      | val d => exact .inl h2
      | own ds =>
        obtain ⟨p, rfl, vs, a1, a2, a3, a4, a5⟩ := h2
        exact .inr ⟨ds, p, vs, rfl, rfl, a1, a3, a5⟩
      | dct p kvs => exact .inl (Rep.adr_iff.mpr h2.1)
    · exact q.elim
theorem se_v (i : Nat) {x : Str} {pos : Pos} (h : PE X (.Name x pos) (tVar i)) : SE X c (.Name x pos) (wV i) := by
  refine ⟨fun env tk Q Q' h q => ?_, h.wk fun σ H Q ⟨ω, env, tk, ok, q⟩ => ?_⟩
  · unfold wV at q ⊢
    split at q
    · exact h _ _ _ q
    · exact h _ _ _ q
    · exact q
  · unfold wV at q
    split at q
    · rename_i d he
      obtain ⟨v, h1, h2⟩ := ok.slots i _ he
      exact ⟨v, h1, q v ω H (.refl _ _) ok h2⟩
    · rename_i ds he
      obtain ⟨v, h1, p, rfl, vs, a1, a2, a3, a4, a5⟩ := ok.slots i _ he
      have hlt : i < env.length := (List.getElem?_eq_some_iff.mp he).1
      have ok1 : Ok c ω H σ (env.set i none) tk := ok.reenv (by rw [List.length_set]) fun j e hj => by
        by_cases hij : i = j
        · subst hij
          rw [List.getElem?_set_self hlt] at hj
          cases hj
        · rw [List.getElem?_set_ne hij] at hj
          exact .inl hj
      have ok2 := ok1.freeze a1 a2 a3 a4 fun j es hj hp => by
        by_cases hij : i = j
        · subst hij
          rw [List.getElem?_set_self hlt] at hj
          cases hj
        · rw [List.getElem?_set_ne hij] at hj
          exact hij (ok.dist i j p _ _ he hj h1 hp)
      have r : Rep c.K ⟨ω.g, upd ω.hd p (.lst vs)⟩ (.lst ds) (.ref p) := Rep.lst_iff.mpr ⟨p, vs, rfl, .of (show upd ω.hd p (.lst vs) p = _ from upd_same), a5.mono (le_upd a2)⟩
      refine ⟨_, h1, q _ _ H (.freeze a2) (ok2.reenv (by rw [List.length_set, List.length_set]) fun j e hj => ?_) r⟩
      by_cases hij : i = j
      · subst hij
        rw [List.getElem?_set_self hlt] at hj
        cases hj
        exact .inr ⟨_, _, rfl, h1, r⟩
      · rw [List.getElem?_set_ne hij] at hj
        left
        rw [List.getElem?_set_ne hij]
        exact hj
    · exact q.elim
/-! ### constants -/
def wC (d : D) : WE := fun env tk Q => Q (.val d) env tk
theorem Mon.con {d : D} : Mon (wC d) := fun _ _ _ _ h q => h _ _ _ q
theorem se_c {e : Expr} {d : D} {v : V} (h : PE X e (tC v)) (r : ∀ ω, Rep c.K ω d v) : SE X c e (wC d) := ⟨.con, h.wk fun σ H Q ⟨ω, env, tk, ok, q⟩ => q v ω H (.refl _ _) ok (r ω)⟩
theorem se_int {i j pos} : SE X c (.Constant (.int i) j pos) (wC (.int i)) := se_c pe_int fun _ => Rep.int_iff.mpr rfl
theorem se_bl {i j pos} : SE X c (.Constant (.bool i) j pos) (wC (.bl i)) := se_c pe_bl fun _ => Rep.bl_iff.mpr rfl
theorem se_non {j pos} : SE X c (.Constant .none j pos) (wC .non) := se_c pe_non fun _ => Rep.non_iff.mpr rfl
theorem se_str {i j pos} : SE X c (.Constant (.str i) j pos) (wC (.str i)) := se_c pe_str fun _ => Rep.str_iff.mpr rfl
end
end DL

namespace DL
open PySem PySem.Spec PyProof.Rows L2

/-! ### operators over data -/
abbrev FOp := D → D → (EV → Prop) → Prop
def MonF (f : FOp) : Prop := ∀ x y q q', (∀ ev, q ev → q' ev) → f x y q → f x y q'
/-- what an operator's rule is to give -/
def Res (c : C) (ω : Wd) (H : Hp) (σ : L2.St) (env : En) (tk : Tk) (q : EV → Prop) (Q : VK) : Prop :=
  ∀ ev v' ω' H', q ev → Stp ω H ω' H' → Ok c ω' H' σ env tk → RepE c ω' H' σ env ev v' → Q v' H'
section
variable {c : C} {ω : Wd} {H : Hp} {σ : L2.St} {env : En} {tk : Tk} {q : EV → Prop} {Q : VK}
theorem Res.int (hr : Res c ω H σ env tk q Q) (ok : Ok c ω H σ env tk) {i : Int} (h : q (.val (.int i))) : Q (.int i) H := hr _ _ ω H h (.refl _ _) ok (show Rep c.K ω (.int i) (.int i) from Rep.int_iff.mpr rfl)
theorem Res.bl (hr : Res c ω H σ env tk q Q) (ok : Ok c ω H σ env tk) {i : Bool} (h : q (.val (.bl i))) : Q (.bl i) H := hr _ _ ω H h (.refl _ _) ok (show Rep c.K ω (.bl i) (.bl i) from Rep.bl_iff.mpr rfl)
theorem Res.str (hr : Res c ω H σ env tk q Q) (ok : Ok c ω H σ env tk) {i : Str} (h : q (.val (.str i))) : Q (.str i) H := hr _ _ ω H h (.refl _ _) ok (show Rep c.K ω (.str i) (.str i) from Rep.str_iff.mpr rfl)
theorem Res.non (hr : Res c ω H σ env tk q Q) (ok : Ok c ω H σ env tk) (h : q (.val .non)) : Q .non H := hr _ _ ω H h (.refl _ _) ok (show Rep c.K ω .non .non from Rep.non_iff.mpr rfl)
theorem Res.val (hr : Res c ω H σ env tk q Q) (ok : Ok c ω H σ env tk) {d : D} {v : V} (h : q (.val d)) (r : Rep c.K ω d v) : Q v H := hr _ _ ω H h (.refl _ _) ok r
theorem Res.tup (hr : Res c ω H σ env tk q Q) (ok : Ok c ω H σ env tk) {ds : List D} {vs : List V} (h : q (.val (.tup ds))) (r : Reps c.K ω ds vs) {p : Addr} {o : Obj} (n : H p = none) (d : o.dict = none) : Q (.ref p) (upd H p (.frz o (.tup vs))) :=
  hr _ _ _ _ h (.alloc n (ok.nohd n) _) (ok.alloc n _) (show Rep c.K ⟨ω.g, upd ω.hd p (.frz o (.tup vs))⟩ (.tup ds) (.ref p) from Rep.tup_iff.mpr ⟨p, vs, rfl, .new (show upd ω.hd p _ p = _ from upd_same) d, r.mono (le_upd (ok.nohd n))⟩)
theorem Res.lst (hr : Res c ω H σ env tk q Q) (ok : Ok c ω H σ env tk) {ds : List D} {vs : List V} (h : q (.own ds)) (r : Reps c.K ω ds vs) {p : Addr} (n : H p = none) : Q (.ref p) (upd H p (.lst vs)) :=
  hr _ _ _ _ h (.newL n _) (ok.newL n _) (ok.own n r)
end
def OpD (c : C) (r : R2) (f : FOp) : Prop :=
  ∀ (ω : Wd) (H : Hp) (σ : L2.St) (env : En) (tk : Tk) (x y : D) (v u : V) (q : EV → Prop) (Q : VK), Ok c ω H σ env tk → RepP c ω H x v → RepP c ω H y u → f x y q → Res c ω H σ env tk q Q → r v u H Q
def wOp (f : FOp) (a b : WD) : WE := fun env tk Q => a env tk fun x e1 t1 => b e1 t1 fun y e2 t2 => f x y fun ev => Q ev e2 t2
theorem Mon.op {f : FOp} {a b : WD} (mf : MonF f) (ma : Mon a) (mb : Mon b) : Mon (wOp f a b) := fun env tk Q Q' h q =>
  ma _ _ _ _ (fun x e1 t1 h1 => mb _ _ _ _ (fun y e2 t2 h2 => mf _ _ _ _ (fun ev => h ev e2 t2) h2) h1) q
section
variable {X : Cx} {c : C} {a b : Expr} {wa wb : WD} {pos : Pos}
theorem run_op {r : R2} {f : FOp} (mf : MonF f) (od : OpD c r f) (ha : SP X c a wa) (hb : SP X c b wb) {σ : L2.St} {H : Hp} {Q : VK} (h : liftE c (wOp f wa wb) σ H Q) : tOp r (liftP c wa) (liftP c wb) σ H Q := by
  obtain ⟨ω, env, tk, ok, h⟩ := h
  refine ⟨ω, env, tk, ok, ha.mon _ _ _ _ (fun x e1 t1 h1 v ω1 H1 s1 ok1 r1 => ?_) h⟩
  refine ⟨ω1, e1, t1, ok1, hb.mon _ _ _ _ (fun y e2 t2 h2 u ω2 H2 s2 ok2 r2 => ?_) h1⟩
  exact od ω2 H2 σ e2 t2 x y v u _ Q ok2 (r1.step s2) r2 h2 fun ev v' ω' H' q st ok' r' => q v' ω' H' ((s1.trans s2).trans st) ok' r'
theorem se_op {op : Operator} {r : R2} {f : FOp} (ho : OpR X (binaryOp op) r) (mf : MonF f) (od : OpD c r f) (ha : SP X c a wa) (hb : SP X c b wb) : SE X c (.BinOp a op b pos) (wOp f wa wb) :=
  ⟨.op mf ha.mon hb.mon, (pe_op ho ha.run hb.run).wk fun _ _ _ h => run_op mf od ha hb h⟩
theorem se_cmp {op : CmpOp} {r : R2} {f : FOp} (ho : OpR X (compareOp op) r) (mf : MonF f) (od : OpD c r f) (ha : SP X c a wa) (hb : SP X c b wb) (hm : behindInMarks op b = false) : SE X c (.Compare a [op] [b] pos) (wOp f wa wb) :=
  ⟨.op mf ha.mon hb.mon, (pe_cmpR ho ha.run hb.run hm).wk fun _ _ _ h => run_op mf od ha hb h⟩
end
theorem OpD.or {c : C} {r r' : R2} {f f' g : FOp} (h : OpD c r f) (h' : OpD c r' f') (k : ∀ x y q, g x y q → f x y q ∨ f' x y q) : OpD c (fun x y H Q => r x y H Q ∨ r' x y H Q) g := fun ω H σ env tk x y v u q Q ok rx ry hg hr =>
  (k x y q hg).elim (fun z => .inl (h ω H σ env tk x y v u q Q ok rx ry z hr)) fun z => .inr (h' ω H σ env tk x y v u q Q ok rx ry z hr)

/-! #### two ints -/
def fI (C : Int → Int → Prop) (g : Int → Int → D) : FOp
  | .int i, .int j, q => C i j ∧ q (.val (g i j))
  | _, _, _ => False
theorem MonF.i {C : Int → Int → Prop} {g : Int → Int → D} : MonF (fI C g) := fun x y q q' h z => by
  unfold fI at z ⊢
  split at z
  · exact ⟨z.1, h _ z.2⟩
  · exact z.elim
theorem od_i {c : C} {P : Int → Int → Prop} {g : Int → Int → Int} : OpD c (rI P fun i j => .int (g i j)) (fI P fun i j => .int (g i j)) := fun ω H σ env tk x y v u q Q ok rx ry h hr => by
  cases x <;> first | exact (show False from h).elim | (cases y <;> first | exact (show False from h).elim | skip)
  exact ⟨_, _, rx.int, ry.int, h.1, hr.int ok h.2⟩
def fJ (g : Int → Int → D) : FOp
  | .int i, .int j, q => q (.val (g i j))
  | _, _, _ => False
theorem MonF.j {g : Int → Int → D} : MonF (fJ g) := fun x y q q' h z => by
  unfold fJ at z ⊢
  split at z
  · exact h _ z
  · exact z.elim
theorem od_i0 {c : C} {g : Int → Int → Int} : OpD c (rI0 fun i j => .int (g i j)) (fJ fun i j => .int (g i j)) := fun ω H σ env tk x y v u q Q ok rx ry h hr => by
  cases x <;> first | exact (show False from h).elim | (cases y <;> first | exact (show False from h).elim | skip)
  exact ⟨_, _, rx.int, ry.int, hr.int ok h⟩
theorem od_b0 {c : C} {g : Int → Int → Bool} : OpD c (rI0 fun i j => .bl (g i j)) (fJ fun i j => .bl (g i j)) := fun ω H σ env tk x y v u q Q ok rx ry h hr => by
  cases x <;> first | exact (show False from h).elim | (cases y <;> first | exact (show False from h).elim | skip)
  exact ⟨_, _, rx.int, ry.int, hr.bl ok h⟩

/-! #### + -/
def fAdd : FOp
  | .int i, .int j, q => q (.val (.int (i + j)))
  | .lst xs, .lst ys, q => xs.length + ys.length ≤ sizeLine ∧ q (.own (xs ++ ys))
  | .tup xs, .tup ys, q => xs ≠ [] ∧ ys ≠ [] ∧ xs.length + ys.length ≤ sizeLine ∧ q (.val (.tup (xs ++ ys)))
  | .str x, .str y, q => x.length + y.length ≤ sizeLine ∧ q (.val (.str (x ++ y)))
  | _, _, _ => False
theorem MonF.add : MonF fAdd := fun x y q q' h z => by
  unfold fAdd at z ⊢
  split at z
  · exact h _ z
  · exact ⟨z.1, h _ z.2⟩
  · exact ⟨z.1, z.2.1, z.2.2.1, h _ z.2.2.2⟩
  · exact ⟨z.1, h _ z.2⟩
  · exact z.elim
section
variable {X : Cx} {c : C}
/-- list + list, whatever they are -/
def rCatA (K : PySem.W.Frag) : R2 := fun x y H Q => ∃ l b xs zs, x = .ref l ∧ y = .ref b ∧ SqL K H l xs ∧ SqL K H b zs ∧ xs.length + zs.length ≤ sizeLine ∧ ∀ p, H p = none → Q (.ref p) (upd H p (.lst (xs ++ zs)))
theorem plain_isL {h : Heap} {a : Addr} {its : Array Value} (p : PlainL h a its) : ∃ n sl, h.get? a = some { cls := .type "list", dict := none, data := .seq its n, slots := sl } := by
  obtain ⟨o, n, h1, h2, h3, h4⟩ := p
  cases o
  simp only at h2 h3 h4
  subst h2 h3 h4
  exact ⟨n, _, h1⟩
theorem op_catA : OpR X (binaryOp .Add) (rCatA X.K) := by
  intro pins s σ H x y v u Q I rx ry h
  obtain ⟨l, b, xs, zs, rfl, rfl, hH, hB, hz, q⟩ := h
  cases rx
  cases ry
  obtain ⟨its, r, p, _⟩ := I.list hH
  obtain ⟨its2, r2, p2, _⟩ := I.list hB
  obtain ⟨n, sl, e⟩ := plain_isL p
  obtain ⟨n2, sl2, e2⟩ := plain_isL p2
  have l1 := r.length
  have l2 := r2.length
  refine concat_meets ⟨_, e, rfl⟩ ⟨_, e2, rfl⟩ noFill_list_add seq_list_add PySem.F.slot_list_add PySem.F.entry_list_add (PySem.F.args_list_add_2 _ _) (list_addW _ _ its.toArray its2.toArray n n2 none none sl sl2 (by simp only [List.size_toArray]; omega)) ⟨e, e2, ?_⟩
  have ea : its.toArray ++ its2.toArray = (its ++ its2).toArray := by simp
  rw [ea]
  exact ⟨.ref _, _, I.lnew (t' := s.toks) (r.append r2) (by rw [List.length_append]; omega), rfl, q _ I.fresh⟩
/-- tuple + tuple, neither empty: a new one, without a dict -/
def rCatN (K : PySem.W.Frag) : R2 := fun x y H Q => ∃ a b xs ys, x = .ref a ∧ y = .ref b ∧ SqT K H a xs ∧ SqT K H b ys ∧ xs ≠ [] ∧ ys ≠ [] ∧ xs.length + ys.length ≤ sizeLine ∧ ∀ p o, H p = none → o.dict = none → Q (.ref p) (upd H p (.frz o (.tup (xs ++ ys))))
theorem op_catN : OpR X (binaryOp .Add) (rCatN X.K) := by
  intro pins s σ H x y v u Q I rx ry h
  obtain ⟨p, r, xs, ys, rfl, rfl, hp, hr, nx, ny, hz, q⟩ := h
  cases rx
  cases ry
  obtain ⟨i1, v1, t1, _⟩ := I.tuple hp
  obtain ⟨i2, v2, t2, _⟩ := I.tuple hr
  have l1 := v1.length
  have l2 := v2.length
  refine HT.cat_tup t1 t2 (fun z => nx (v1.nil_iff.mp z)) (fun z => absurd (v2.nil_iff.mp z) ny) (fun z => ?_) (by omega)
  exact ⟨.ref _, _, I.laid (t' := s.toks) (o := .frz _ (.tup (xs ++ ys))) (fun b ob g => Heap.get?_push_of_some _ g) (Nat.le_refl _) ⟨Heap.get?_push_size _ rfl, by rw [List.length_append]; omega, _, v1.append v2, IsTup.new _ _⟩, rfl, q _ _ I.fresh rfl⟩
theorem op_addA : OpR X (binaryOp .Add) (fun x y H Q => (rI0 (fun i j => .int (i + j)) x y H Q ∨ rCatA X.K x y H Q) ∨ (rCatN X.K x y H Q ∨ ∃ i j, x = .str i ∧ y = .str j ∧ i.length + j.length ≤ sizeLine ∧ Q (.str (i ++ j)) H)) :=
  (op_add.or op_catA).or (op_catN.or op_add_str)
theorem od_add (hK : c.K = X.K) : OpD c (fun x y H Q => (rI0 (fun i j => .int (i + j)) x y H Q ∨ rCatA X.K x y H Q) ∨ (rCatN X.K x y H Q ∨ ∃ i j, x = .str i ∧ y = .str j ∧ i.length + j.length ≤ sizeLine ∧ Q (.str (i ++ j)) H)) fAdd := fun ω H σ env tk x y v u q Q ok rx ry h hr => by
  cases x <;> first | exact (show False from h).elim | (cases y <;> first | exact (show False from h).elim | skip)
  · exact .inl (.inl ⟨_, _, rx.int, ry.int, hr.int ok h⟩)
  · exact .inr (.inr ⟨_, _, rx.str, ry.str, h.1, hr.str ok h.2⟩)
  · obtain ⟨h1, h2, h3, h4⟩ := h
    obtain ⟨p, vs, rfl, sx, qx⟩ := rx.tup ok.sub
    obtain ⟨p', us, rfl, sy, qy⟩ := ry.tup ok.sub
    rw [hK] at sx sy
    have l1 := qx.length
    have l2 := qy.length
    refine .inr (.inl ⟨p, p', vs, us, rfl, rfl, sx, sy, fun e => h1 ?_, fun e => h2 ?_, by omega, fun t o ht hd => hr.tup ok h4 (qx.append qy) ht hd⟩)
    · subst e; exact List.eq_nil_of_length_eq_zero l1.symm
    · subst e; exact List.eq_nil_of_length_eq_zero l2.symm
  · obtain ⟨h1, h2⟩ := h
    obtain ⟨p, vs, rfl, sx, qx⟩ := rx.lst ok.sub
    obtain ⟨p', us, rfl, sy, qy⟩ := ry.lst ok.sub
    rw [hK] at sx sy
    have l1 := qx.length
    have l2 := qy.length
    exact .inl (.inr ⟨p, p', vs, us, rfl, rfl, sx, sy, by omega, fun t ht => hr.lst ok h2 (qx.append qy) ht⟩)
end
end DL

namespace DL
open PySem PySem.Spec PyProof.Rows L2

/-! ### data compared -/
mutual
def D.p : D → PyData
  | .non => .none
  | .bl b => .bool b
  | .int i => .int i
  | .str s => .str s
  | .st => .dict []
  | .tup xs => .tuple (D.ps xs)
  | .lst xs => .list (D.ps xs)
  | .adr _ => .dict []
  | .hls _ => .dict []
def D.ps : List D → List PyData
  | [] => []
  | d :: ds => d.p :: D.ps ds
end
mutual
def okN : Nat → D → Bool
  | _, .non => true
  | _, .bl _ => true
  | _, .int _ => true
  | _, .str s => PyData.canLay0 (.str s)
  | _, .st => false
  | 0, .tup _ => false
  | 0, .lst _ => false
  | n + 1, .tup xs => okNs n xs
  | n + 1, .lst xs => okNs n xs
  | _, .adr _ => false
  | _, .hls _ => false
def okNs : Nat → List D → Bool
  | _, [] => true
  | n, d :: ds => okN n d && okNs n ds
end
def D.ok (d : D) : Bool := okN 60 d
def D.eqv (x y : D) : Bool := PyData.eqv x.p y.p
mutual
theorem okN_lay : ∀ (d : D) (n : Nat), okN n d = true → d.p.canLay0 = true ∧ d.p.depth ≤ n
  | .non, n, h => by unfold D.p; exact ⟨rfl, Nat.zero_le _⟩
  | .bl b, n, h => by unfold D.p; exact ⟨rfl, Nat.zero_le _⟩
  | .int i, n, h => by unfold D.p; exact ⟨rfl, Nat.zero_le _⟩
  | .str s, n, h => by unfold okN at h; unfold D.p; exact ⟨h, Nat.zero_le _⟩
  | .st, n, h => by unfold okN at h; cases h
  | .adr _, n, h => by unfold okN at h; cases h
  | .hls _, n, h => by unfold okN at h; cases h
  | .tup xs, 0, h => by unfold okN at h; cases h
  | .lst xs, 0, h => by unfold okN at h; cases h
  | .tup xs, n + 1, h => by
    unfold okN at h
    unfold D.p
    obtain ⟨h1, h2⟩ := okNs_lay xs n h
    exact ⟨h1, Nat.succ_le_succ h2⟩
  | .lst xs, n + 1, h => by
    unfold okN at h
    unfold D.p
    obtain ⟨h1, h2⟩ := okNs_lay xs n h
    exact ⟨h1, Nat.succ_le_succ h2⟩
theorem okNs_lay : ∀ (ds : List D) (n : Nat), okNs n ds = true → PyData.canLayAll0 (D.ps ds) = true ∧ PyData.depthAll (D.ps ds) ≤ n
  | [], n, h => by unfold D.ps; exact ⟨rfl, Nat.zero_le _⟩
  | d :: ds, n, h => by
    unfold okNs at h
    rw [Bool.and_eq_true] at h
    obtain ⟨a1, a2⟩ := okN_lay d n h.1
    obtain ⟨b1, b2⟩ := okNs_lay ds n h.2
    unfold D.ps
    refine ⟨?_, ?_⟩
    · show (d.p.canLay0 && PyData.canLayAll0 (D.ps ds)) = true
      rw [a1, b1]; rfl
    · show max d.p.depth (PyData.depthAll (D.ps ds)) ≤ n
      omega
end
theorem D.ok.shaped {d : D} (h : d.ok = true) : SeqAt.shaped d.p = true := by
  obtain ⟨h1, h2⟩ := okN_lay d 60 h
  unfold SeqAt.shaped
  rw [h1, Bool.true_and]
  exact decide_eq_true (by omega)
theorem okN_mono_st : ∀ {n : Nat} {xs : List D}, okN (n + 1) (.lst xs) = okNs n xs := by intros; conv => lhs; unfold okN

mutual
theorem Rep.dp {K : PySem.W.Frag} {ω : Wd} {H : Hp} (sub : ∀ b o, ω.hd b = some o → H b = some o) : ∀ (d : D) (n : Nat) (v : V), okN n d = true → Rep K ω d v → Dp K H v d.p
  | .non, _, _, _, h => by rw [Rep.non_iff] at h; subst h; unfold D.p; exact .non
  | .bl b, _, _, _, h => by rw [Rep.bl_iff] at h; subst h; unfold D.p; exact .bl b
  | .int b, _, _, _, h => by rw [Rep.int_iff] at h; subst h; unfold D.p; exact .int b
  | .str b, _, _, _, h => by rw [Rep.str_iff] at h; subst h; unfold D.p; exact .str b
  | .st, _, _, z, _ => by unfold okN at z; cases z
  | .adr _, _, _, z, _ => by unfold okN at z; cases z
  | .hls _, _, _, z, _ => by unfold okN at z; cases z
  | .tup xs, 0, _, z, _ => by unfold okN at z; cases z
  | .lst xs, 0, _, z, _ => by unfold okN at z; cases z
  | .tup xs, n + 1, _, z, h => by
    obtain ⟨a, vs, rfl, h1, h2⟩ := Rep.tup_iff.mp h
    unfold okN at z
    unfold D.p
    exact .tup (sqT_mono sub h1.1) (Reps.dp sub xs n vs z h2)
  | .lst xs, n + 1, _, z, h => by
    obtain ⟨a, vs, rfl, h1, h2⟩ := Rep.lst_iff.mp h
    unfold okN at z
    unfold D.p
    exact .lst (sqL_mono sub h1) (Reps.dp sub xs n vs z h2)
theorem Reps.dp {K : PySem.W.Frag} {ω : Wd} {H : Hp} (sub : ∀ b o, ω.hd b = some o → H b = some o) : ∀ (ds : List D) (n : Nat) (vs : List V), okNs n ds = true → Reps K ω ds vs → DpAll K H vs (D.ps ds)
  | [], _, _, _, h => by rw [Reps.nil_iff] at h; subst h; unfold D.ps; exact .nil
  | d :: ds, n, _, z, h => by
    obtain ⟨v, r, rfl, h1, h2⟩ := Reps.cons_iff.mp h
    unfold okNs at z
    rw [Bool.and_eq_true] at z
    unfold D.ps
    exact .cons (Rep.dp sub d n v z.1 h1) (Reps.dp sub ds n r z.2 h2)
end
theorem RepP.dp {c : C} {ω : Wd} {H : Hp} (sub : ∀ b o, ω.hd b = some o → H b = some o) {d : D} {v : V} (z : d.ok = true) (h : RepP c ω H d v) : Dp c.K H v d.p := by
  rcases h with h | ⟨ds, p, vs, rfl, rfl, h1, h2, h3⟩
  · exact Rep.dp sub d 60 v z h
  · have z' : okN 60 (.lst ds) = true := z
    unfold okN at z'
    unfold D.p
    exact .lst (.of h1) (Reps.dp sub ds 59 vs z' h3)

/-! #### == and != -/
def fEq : FOp
  | .int i, .int j, q => q (.val (.bl (decide (i = j))))
  | x, y, q => x.ok = true ∧ y.ok = true ∧ q (.val (.bl (x.eqv y)))
def fNe : FOp
  | .int i, .int j, q => q (.val (.bl (!decide (i = j))))
  | x, y, q => x.ok = true ∧ y.ok = true ∧ q (.val (.bl (!x.eqv y)))
theorem ok_int {i : Int} : D.ok (.int i) = true := by unfold D.ok okN; rfl
theorem eqv_int {i j : Int} : D.eqv (.int i) (.int j) = decide (i = j) := by
  show (i == j) = _
  exact Bool.beq_eq_decide_eq i j
theorem fEq_gen {x y : D} {q : EV → Prop} (h : fEq x y q) : x.ok = true ∧ y.ok = true ∧ q (.val (.bl (x.eqv y))) := by
  unfold fEq at h
  split at h
  · rw [eqv_int]; exact ⟨ok_int, ok_int, h⟩
  · exact h
theorem fNe_gen {x y : D} {q : EV → Prop} (h : fNe x y q) : x.ok = true ∧ y.ok = true ∧ q (.val (.bl (!x.eqv y))) := by
  unfold fNe at h
  split at h
  · rw [eqv_int]; exact ⟨ok_int, ok_int, h⟩
  · exact h
theorem MonF.eq : MonF fEq := fun x y q q' h z => by
  unfold fEq at z ⊢
  split at z
  · exact h _ z
  · exact ⟨z.1, z.2.1, h _ z.2.2⟩
theorem MonF.ne : MonF fNe := fun x y q q' h z => by
  unfold fNe at z ⊢
  split at z
  · exact h _ z
  · exact ⟨z.1, z.2.1, h _ z.2.2⟩
theorem od_eq {c : C} : OpD c (rEqD c.K) fEq := fun ω H σ env tk x y v u q Q ok rx ry h hr => by
  have h := fEq_gen h
  exact ⟨x.p, y.p, rx.dp ok.sub h.1, ry.dp ok.sub h.2.1, D.ok.shaped h.1, D.ok.shaped h.2.1, hr.bl ok h.2.2⟩
theorem od_ne {c : C} : OpD c (rNeD c.K) fNe := fun ω H σ env tk x y v u q Q ok rx ry h hr => by
  have h := fNe_gen h
  exact ⟨x.p, y.p, rx.dp ok.sub h.1, ry.dp ok.sub h.2.1, D.ok.shaped h.1, D.ok.shaped h.2.1, hr.bl ok h.2.2⟩
/-! #### in -/
def fIn : FOp := fun x y q => match y with
  | .lst ds => x.ok = true ∧ D.ok (.lst ds) = true ∧ q (.val (.bl (ds.any fun z => z.eqv x)))
  | _ => False
def fNotIn : FOp := fun x y q => match y with
  | .lst ds => x.ok = true ∧ D.ok (.lst ds) = true ∧ q (.val (.bl (!ds.any fun z => z.eqv x)))
  | _ => False
theorem MonF.in : MonF fIn := fun x y _ _ h z => by cases y <;> first | exact (show False from z).elim | exact ⟨z.1, z.2.1, h _ z.2.2⟩
theorem MonF.notIn : MonF fNotIn := fun x y _ _ h z => by cases y <;> first | exact (show False from z).elim | exact ⟨z.1, z.2.1, h _ z.2.2⟩
theorem ps_any (x : D) : ∀ ds : List D, (D.ps ds).any (fun z => PyData.eqv z x.p) = ds.any fun z => z.eqv x
  | [] => by unfold D.ps; rfl
  | d :: ds => by unfold D.ps; rw [List.any_cons, List.any_cons, ps_any x ds]; rfl
theorem od_in {c : C} : OpD c (rInD c.K) fIn := fun ω H σ env tk x y v u q Q ok rx ry h hr => by
  cases y <;> first | exact (show False from h).elim | skip
  rename_i ds
  obtain ⟨h1, h2, h3⟩ := h
  have z1 := ry.dp ok.sub h2
  have z2 := D.ok.shaped h2
  unfold D.p at z1 z2
  refine ⟨x.p, D.ps ds, rx.dp ok.sub h1, z1, D.ok.shaped h1, z2, ?_⟩
  rw [ps_any]
  exact hr.bl ok h3
theorem od_notIn {c : C} : OpD c (rNotInD c.K) fNotIn := fun ω H σ env tk x y v u q Q ok rx ry h hr => by
  cases y <;> first | exact (show False from h).elim | skip
  rename_i ds
  obtain ⟨h1, h2, h3⟩ := h
  have z1 := ry.dp ok.sub h2
  have z2 := D.ok.shaped h2
  unfold D.p at z1 z2
  refine ⟨x.p, D.ps ds, rx.dp ok.sub h1, z1, D.ok.shaped h1, z2, ?_⟩
  rw [ps_any]
  exact hr.bl ok h3
/-! #### is None, is True -/
def isNon : D → Bool
  | .non => true
  | _ => false
def fIsN : FOp := fun x y q => match y with
  | .non => q (.val (.bl (isNon x)))
  | _ => False
def fNotN : FOp := fun x y q => match y with
  | .non => q (.val (.bl (!isNon x)))
  | _ => False
theorem MonF.isN : MonF fIsN := fun x y _ _ h z => by cases y <;> first | exact (show False from z).elim | exact h _ z
theorem MonF.notN : MonF fNotN := fun x y _ _ h z => by cases y <;> first | exact (show False from z).elim | exact h _ z
theorem RepP.non {c : C} {ω : Wd} {H : Hp} {v : V} (h : RepP c ω H .non v) : v = .non := by
  rcases h with h | ⟨ds, p, vs, e, _⟩
  · exact Rep.non_iff.mp h
  · cases e
theorem RepP.isNon {c : C} {ω : Wd} {H : Hp} {d : D} {v : V} (h : RepP c ω H d v) : decide (v = .non) = isNon d := by
  rcases h with h | ⟨ds, p, vs, rfl, rfl, _⟩
  · cases d with
    | non => rw [Rep.non_iff.mp h]; rfl
    | bl b => rw [Rep.bl_iff.mp h]; rfl
    | int b => rw [Rep.int_iff.mp h]; rfl
    | str b => rw [Rep.str_iff.mp h]; rfl
    | st => obtain ⟨a, _, rfl⟩ := Rep.st_iff.mp h; rfl
    | tup xs => obtain ⟨a, _, rfl, _⟩ := Rep.tup_iff.mp h; rfl
    | lst xs => obtain ⟨a, _, rfl, _⟩ := Rep.lst_iff.mp h; rfl
    | adr p => rw [Rep.adr_iff.mp h]; rfl
    | hls xs => obtain ⟨a, _, rfl, _⟩ := Rep.hls_iff.mp h; rfl
  · rfl
theorem od_isN {c : C} : OpD c (fun x y H Q => y = .non ∧ Q (.bl (decide (x = .non))) H) fIsN := fun ω H σ env tk x y v u q Q ok rx ry h hr => by
  cases y <;> first | exact (show False from h).elim | skip
  refine ⟨ry.non, ?_⟩
  rw [rx.isNon]
  exact hr.bl ok h
theorem od_notN {c : C} : OpD c (fun x y H Q => y = .non ∧ Q (.bl (!decide (x = .non))) H) fNotN := fun ω H σ env tk x y v u q Q ok rx ry h hr => by
  cases y <;> first | exact (show False from h).elim | skip
  refine ⟨ry.non, ?_⟩
  rw [rx.isNon]
  exact hr.bl ok h
def fIsB : FOp := fun x y q => match x, y with
  | .bl a, .bl b => q (.val (.bl (decide (a = b))))
  | _, _ => False
def fNotB : FOp := fun x y q => match x, y with
  | .bl a, .bl b => q (.val (.bl (!decide (a = b))))
  | _, _ => False
theorem MonF.isB : MonF fIsB := fun x y _ _ h z => by cases x <;> cases y <;> first | exact (show False from z).elim | exact h _ z
theorem MonF.notB : MonF fNotB := fun x y _ _ h z => by cases x <;> cases y <;> first | exact (show False from z).elim | exact h _ z
theorem od_isB {c : C} : OpD c (fun x y H Q => ∃ a b, x = .bl a ∧ y = .bl b ∧ Q (.bl (decide (a = b))) H) fIsB := fun ω H σ env tk x y v u q Q ok rx ry h hr => by
  cases x <;> cases y <;> first | exact (show False from h).elim | exact ⟨_, _, rx.bl, ry.bl, hr.bl ok h⟩
theorem od_notB {c : C} : OpD c (fun x y H Q => ∃ a b, x = .bl a ∧ y = .bl b ∧ Q (.bl (!decide (a = b))) H) fNotB := fun ω H σ env tk x y v u q Q ok rx ry h hr => by
  cases x <;> cases y <;> first | exact (show False from h).elim | exact ⟨_, _, rx.bl, ry.bl, hr.bl ok h⟩

/-! ### the numbers' operators -/
def DivOk (_ j : Int) : Prop := j ≠ 0 ∧ j.natAbs.log2 < 9000
section
variable {X : Cx} {c : C} {a b : Expr} {wa wb : WD} {pos : Pos}
theorem op_fdivZ : OpR X (binaryOp .FloorDiv) (rI DivOk fun i j => .int (i.fdiv j)) := opI fun _ _ _ _ _ _ _ hc q => floordiv_int hc.1 q (.inl (PyProof.noPylong_of_log2 hc.2))
abbrev fSub : FOp := fJ fun i j => .int (i - j)
def MulOk (i j : Int) : Prop := CMulW i j ∨ CMul i j
theorem op_mulA : OpR X (binaryOp .Mult) (rI MulOk fun i j => .int (i * j)) := opI fun _ _ _ _ _ _ _ hc q => mul_int q (hc.elim (fun z => z.ok) fun z => z.ok)
abbrev fMul : FOp := fI MulOk fun i j => .int (i * j)
abbrev fDiv : FOp := fI DivOk fun i j => .int (i.fdiv j)
abbrev fMod : FOp := fI (fun _ j => j ≠ 0) fun i j => .int (i.fmod j)
abbrev fPow : FOp := fI CPow fun i j => .int (i ^ j.toNat)
abbrev fLt : FOp := fJ fun i j => .bl (decide (i < j))
abbrev fLe : FOp := fJ fun i j => .bl (decide (i ≤ j))
abbrev fGt : FOp := fJ fun i j => .bl (decide (j < i))
abbrev fGe : FOp := fJ fun i j => .bl (decide (j ≤ i))
theorem se_add (hK : c.K = X.K) (ha : SP X c a wa) (hb : SP X c b wb) : SE X c (.BinOp a .Add b pos) (wOp fAdd wa wb) := se_op op_addA .add (od_add hK) ha hb
theorem se_sub (ha : SP X c a wa) (hb : SP X c b wb) : SE X c (.BinOp a .Sub b pos) (wOp fSub wa wb) := se_op op_sub .j od_i0 ha hb
theorem se_mul (ha : SP X c a wa) (hb : SP X c b wb) : SE X c (.BinOp a .Mult b pos) (wOp fMul wa wb) := se_op op_mulA .i od_i ha hb
theorem se_div (ha : SP X c a wa) (hb : SP X c b wb) : SE X c (.BinOp a .FloorDiv b pos) (wOp fDiv wa wb) := se_op op_fdivZ .i od_i ha hb
theorem se_mod (ha : SP X c a wa) (hb : SP X c b wb) : SE X c (.BinOp a .Mod b pos) (wOp fMod wa wb) := se_op op_modN .i od_i ha hb
theorem se_pow (ha : SP X c a wa) (hb : SP X c b wb) : SE X c (.BinOp a .Pow b pos) (wOp fPow wa wb) := se_op op_pow .i od_i ha hb
theorem se_lt (ha : SP X c a wa) (hb : SP X c b wb) : SE X c (.Compare a [.Lt] [b] pos) (wOp fLt wa wb) := se_cmp op_lt .j od_b0 ha hb (nomark _)
theorem se_le (ha : SP X c a wa) (hb : SP X c b wb) : SE X c (.Compare a [.LtE] [b] pos) (wOp fLe wa wb) := se_cmp op_le .j od_b0 ha hb (nomark _)
theorem se_gt (ha : SP X c a wa) (hb : SP X c b wb) : SE X c (.Compare a [.Gt] [b] pos) (wOp fGt wa wb) := se_cmp op_gt .j od_b0 ha hb (nomark _)
theorem se_ge (ha : SP X c a wa) (hb : SP X c b wb) : SE X c (.Compare a [.GtE] [b] pos) (wOp fGe wa wb) := se_cmp op_ge .j od_b0 ha hb (nomark _)
theorem se_eq (hK : c.K = X.K) (hu : X.A.units + 100 < cLine) (ha : SP X c a wa) (hb : SP X c b wb) : SE X c (.Compare a [.Eq] [b] pos) (wOp fEq wa wb) := se_cmp (op_eqD (by omega)) .eq (by rw [← hK]; exact od_eq) ha hb (nomark _)
theorem se_ne (hK : c.K = X.K) (hu : X.A.units + 100 < cLine) (ha : SP X c a wa) (hb : SP X c b wb) : SE X c (.Compare a [.NotEq] [b] pos) (wOp fNe wa wb) := se_cmp (op_neD (by omega)) .ne (by rw [← hK]; exact od_ne) ha hb (nomark _)
theorem se_in (hK : c.K = X.K) (hu : X.A.units + 100 < cLine) (ha : SP X c a wa) (hb : SP X c b wb) (hm : behindInMarks .In b = false) : SE X c (.Compare a [.In] [b] pos) (wOp fIn wa wb) := se_cmp (op_inD (by omega)) .in (by rw [← hK]; exact od_in) ha hb hm
theorem se_notIn (hK : c.K = X.K) (hu : X.A.units + 100 < cLine) (ha : SP X c a wa) (hb : SP X c b wb) (hm : behindInMarks .NotIn b = false) : SE X c (.Compare a [.NotIn] [b] pos) (wOp fNotIn wa wb) := se_cmp (op_notInD (by omega)) .notIn (by rw [← hK]; exact od_notIn) ha hb hm
theorem se_isN (ha : SP X c a wa) (hb : SP X c b wb) : SE X c (.Compare a [.Is] [b] pos) (wOp fIsN wa wb) := se_cmp op_isN .isN od_isN ha hb (nomark _)
theorem se_notN (ha : SP X c a wa) (hb : SP X c b wb) : SE X c (.Compare a [.IsNot] [b] pos) (wOp fNotN wa wb) := se_cmp op_notN .notN od_notN ha hb (nomark _)
theorem se_isB (ha : SP X c a wa) (hb : SP X c b wb) : SE X c (.Compare a [.Is] [b] pos) (wOp fIsB wa wb) := se_cmp op_is_bl .isB od_isB ha hb (nomark _)
theorem se_notB (ha : SP X c a wa) (hb : SP X c b wb) : SE X c (.Compare a [.IsNot] [b] pos) (wOp fNotB wa wb) := se_cmp op_isnot_bl .notB od_notB ha hb (nomark _)

/-! #### one operand -/
abbrev F1 := D → (EV → Prop) → Prop
def MonF1 (f : F1) : Prop := ∀ x q q', (∀ ev, q ev → q' ev) → f x q → f x q'
def w1 (f : F1) (a : WD) : WE := fun env tk Q => a env tk fun x e1 t1 => f x fun ev => Q ev e1 t1
theorem Mon.w1 {f : F1} {a : WD} (mf : MonF1 f) (ma : Mon a) : Mon (DL.w1 f a) := fun env tk Q Q' h q => ma _ _ _ _ (fun x e1 t1 h1 => mf _ _ _ (fun ev => h ev e1 t1) h1) q
def UnD (c : C) (r : V → Hp → VK → Prop) (f : F1) : Prop :=
  ∀ (ω : Wd) (H : Hp) (σ : L2.St) (env : En) (tk : Tk) (x : D) (v : V) (q : EV → Prop) (Q : VK), Ok c ω H σ env tk → RepP c ω H x v → f x q → Res c ω H σ env tk q Q → r v H Q
theorem run_1 {r : V → Hp → VK → Prop} {f : F1} (mf : MonF1 f) (od : UnD c r f) (ha : SP X c a wa) {σ : L2.St} {H : Hp} {Q : VK} (h : liftE c (w1 f wa) σ H Q) : liftP c wa σ H fun x H1 => r x H1 Q := by
  obtain ⟨ω, env, tk, ok, h⟩ := h
  refine ⟨ω, env, tk, ok, ha.mon _ _ _ _ (fun x e1 t1 h1 v ω1 H1 s1 ok1 r1 => ?_) h⟩
  exact od ω1 H1 σ e1 t1 x v _ Q ok1 r1 h1 fun ev v' ω' H' q st ok' r' => q v' ω' H' (s1.trans st) ok' r'
def fNeg : F1
  | .int i, q => q (.val (.int (-i)))
  | _, _ => False
theorem MonF1.neg : MonF1 fNeg := fun x _ _ h z => by cases x <;> first | exact (show False from z).elim | exact h _ z
theorem se_neg (ha : SP X c a wa) : SE X c (.UnaryOp .USub a pos) (w1 fNeg wa) := ⟨.w1 .neg ha.mon, (pe_un un_neg ha.run).wk fun _ _ _ h => run_1 .neg (fun ω H σ env tk x v q Q ok rx h hr => by
  cases x <;> first | exact (show False from h).elim | exact ⟨_, rx.int, hr.int ok h⟩) ha h⟩
end
end DL

namespace DL
open PySem PySem.Spec PyProof.Rows L2

/-! ### tests -/
theorem RepE.bl {c : C} {ω : Wd} {H : Hp} {σ : L2.St} {env : En} {b : Bool} {v : V} (h : RepE c ω H σ env (.val (.bl b)) v) : v = .bl b := Rep.bl_iff.mp (show Rep c.K ω (.bl b) v from h)
theorem RepE.mkbl {c : C} {ω : Wd} {H : Hp} {σ : L2.St} {env : En} {b : Bool} : RepE c ω H σ env (.val (.bl b)) (.bl b) := show Rep c.K ω (.bl b) (.bl b) from Rep.bl_iff.mpr rfl
def wT (w : WE) : WT := fun env tk Q => w env tk fun ev e t => match ev with
  | .val (.bl b) => Q b e t
  | _ => False
theorem Mon.t {w : WE} (m : Mon w) : Mon (wT w) := fun env tk Q Q' h q => m _ _ _ _ (fun ev e t z => by
  cases ev with
  | own ds => exact z
  | dct p kvs => exact z
  | val d => cases d <;> first | exact (show False from z).elim | exact h _ _ _ z) q
def wNot (w : WT) : WT := fun env tk Q => w env tk fun b e t => Q (!b) e t
def wAnd (a b : WT) : WT := fun env tk Q => a env tk fun x e t => if x = true then b e t Q else Q false e t
def wOr (a b : WT) : WT := fun env tk Q => a env tk fun x e t => if x = true then Q true e t else b e t Q
theorem Mon.not {w : WT} (m : Mon w) : Mon (wNot w) := fun env tk Q Q' h q => m _ _ _ _ (fun b e t z => h _ e t z) q
theorem Mon.and {a b : WT} (m : Mon a) (n : Mon b) : Mon (wAnd a b) := fun env tk Q Q' h q => m _ _ _ _ (fun x e t z => by
  cases x with
  | true => exact (if_pos rfl).mpr (n _ _ _ _ h ((if_pos rfl).mp z))
  | false => exact (if_neg Bool.false_ne_true).mpr (h _ _ _ ((if_neg Bool.false_ne_true).mp z))) q
theorem Mon.or {a b : WT} (m : Mon a) (n : Mon b) : Mon (wOr a b) := fun env tk Q Q' h q => m _ _ _ _ (fun x e t z => by
  cases x with
  | true => exact (if_pos rfl).mpr (h _ _ _ ((if_pos rfl).mp z))
  | false => exact (if_neg Bool.false_ne_true).mpr (n _ _ _ _ h ((if_neg Bool.false_ne_true).mp z))) q
/-- a test as a value -/
def wB (w : WT) : WE := fun env tk Q => w env tk fun b e t => Q (.val (.bl b)) e t
theorem Mon.b {w : WT} (m : Mon w) : Mon (wB w) := fun env tk Q Q' h q => m _ _ _ _ (fun b e t z => h _ e t z) q
def wIf {α : Type} (c : WT) (a b : W α) : W α := fun env tk Q => c env tk fun x e t => if x = true then a e t Q else b e t Q
theorem Mon.if {α : Type} {c : WT} {a b : W α} (mc : Mon c) (ma : Mon a) (mb : Mon b) : Mon (wIf c a b) := fun env tk Q Q' h q => mc _ _ _ _ (fun x e t z => by
  cases x with
  | true => exact (if_pos rfl).mpr (ma _ _ _ _ h ((if_pos rfl).mp z))
  | false => exact (if_neg Bool.false_ne_true).mpr (mb _ _ _ _ h ((if_neg Bool.false_ne_true).mp z))) q
section
variable {X : Cx} {c : C} {a b e : Expr} {pos : Pos}
theorem liftE_bl {w : WE} (m : Mon w) {σ : L2.St} {H : Hp} {Q : Bool → Hp → Prop} (h : liftT c (wT w) σ H Q) : liftE c w σ H fun x H' => ∃ k, x = .bl k ∧ Q k H' := by
  obtain ⟨ω, env, tk, ok, h⟩ := h
  refine ⟨ω, env, tk, ok, m _ _ _ _ (fun ev e1 t1 h1 v ω' H' st ok' r => ?_) h⟩
  cases ev with
  | own ds => exact (show False from h1).elim
  | dct p kvs => exact (show False from h1).elim
  | val d => cases d <;> first | exact (show False from h1).elim | (have r' := r.bl; subst r'; exact ⟨_, rfl, h1 _ ω' H' st ok' rfl⟩)
theorem st_v {w : WE} (h : SE X c e w) (he : ∀ whole, isTrue e X.env whole = (do let v ← whole; standAt e.pos; holding [v] (truthy v)) := by intro _; rfl) : ST X c e (wT w) :=
  ⟨h.mon.t, (pt_val h.run he).wk fun _ _ _ q => liftE_bl h.mon q⟩
theorem run_cmp {op : CmpOp} {r : R2} {f : FOp} {wa wb : WD} (ho : OpR X (compareOp op) r) (mf : MonF f) (od : OpD c r f) (ha : SP X c a wa) (hb : SP X c b wb) (hm : behindInMarks op b = false) : ST X c (.Compare a [op] [b] pos) (wT (wOp f wa wb)) := by
  refine ⟨(Mon.op mf ha.mon hb.mon).t, (pt_cmpR ho ha.run hb.run hm).wk fun σ H Q h => ?_⟩
  exact run_op mf od ha hb (liftE_bl (.op mf ha.mon hb.mon) h)
variable {wa wb : WD}
theorem st_lt (ha : SP X c a wa) (hb : SP X c b wb) : ST X c (.Compare a [.Lt] [b] pos) (wT (wOp fLt wa wb)) := run_cmp op_lt .j od_b0 ha hb (nomark _)
theorem st_le (ha : SP X c a wa) (hb : SP X c b wb) : ST X c (.Compare a [.LtE] [b] pos) (wT (wOp fLe wa wb)) := run_cmp op_le .j od_b0 ha hb (nomark _)
theorem st_gt (ha : SP X c a wa) (hb : SP X c b wb) : ST X c (.Compare a [.Gt] [b] pos) (wT (wOp fGt wa wb)) := run_cmp op_gt .j od_b0 ha hb (nomark _)
theorem st_ge (ha : SP X c a wa) (hb : SP X c b wb) : ST X c (.Compare a [.GtE] [b] pos) (wT (wOp fGe wa wb)) := run_cmp op_ge .j od_b0 ha hb (nomark _)
theorem st_eq (hK : c.K = X.K) (hu : X.A.units + 100 < cLine) (ha : SP X c a wa) (hb : SP X c b wb) : ST X c (.Compare a [.Eq] [b] pos) (wT (wOp fEq wa wb)) := run_cmp (op_eqD (by omega)) .eq (by rw [← hK]; exact od_eq) ha hb (nomark _)
theorem st_ne (hK : c.K = X.K) (hu : X.A.units + 100 < cLine) (ha : SP X c a wa) (hb : SP X c b wb) : ST X c (.Compare a [.NotEq] [b] pos) (wT (wOp fNe wa wb)) := run_cmp (op_neD (by omega)) .ne (by rw [← hK]; exact od_ne) ha hb (nomark _)
theorem st_in (hK : c.K = X.K) (hu : X.A.units + 100 < cLine) (ha : SP X c a wa) (hb : SP X c b wb) (hm : behindInMarks .In b = false) : ST X c (.Compare a [.In] [b] pos) (wT (wOp fIn wa wb)) := run_cmp (op_inD (by omega)) .in (by rw [← hK]; exact od_in) ha hb hm
theorem st_notIn (hK : c.K = X.K) (hu : X.A.units + 100 < cLine) (ha : SP X c a wa) (hb : SP X c b wb) (hm : behindInMarks .NotIn b = false) : ST X c (.Compare a [.NotIn] [b] pos) (wT (wOp fNotIn wa wb)) := run_cmp (op_notInD (by omega)) .notIn (by rw [← hK]; exact od_notIn) ha hb hm
theorem st_isN (ha : SP X c a wa) (hb : SP X c b wb) : ST X c (.Compare a [.Is] [b] pos) (wT (wOp fIsN wa wb)) := run_cmp op_isN .isN od_isN ha hb (nomark _)
theorem st_notN (ha : SP X c a wa) (hb : SP X c b wb) : ST X c (.Compare a [.IsNot] [b] pos) (wT (wOp fNotN wa wb)) := run_cmp op_notN .notN od_notN ha hb (nomark _)
theorem st_isB (ha : SP X c a wa) (hb : SP X c b wb) : ST X c (.Compare a [.Is] [b] pos) (wT (wOp fIsB wa wb)) := run_cmp op_is_bl .isB od_isB ha hb (nomark _)
theorem st_notB (ha : SP X c a wa) (hb : SP X c b wb) : ST X c (.Compare a [.IsNot] [b] pos) (wT (wOp fNotB wa wb)) := run_cmp op_isnot_bl .notB od_notB ha hb (nomark _)
/-! #### chains a < b < c -/
def wChain (f g : FOp) (a b d : WD) : WE := fun env tk Q => a env tk fun x e1 t1 => b e1 t1 fun y e2 t2 => f x y fun ev => match ev with
  | .val (.bl k) => if k = true then d e2 t2 fun z e3 t3 => g y z fun ev => Q ev e3 t3 else Q (.val (.bl false)) e2 t2
  | _ => False
theorem Mon.chain {f g : FOp} {a b d : WD} (mf : MonF f) (mg : MonF g) (ma : Mon a) (mb : Mon b) (md : Mon d) : Mon (wChain f g a b d) := fun env tk Q Q' h q =>
  ma _ _ _ _ (fun x e1 t1 h1 => mb _ _ _ _ (fun y e2 t2 h2 => mf _ _ _ _ (fun ev z => by
    cases ev with
    | own ds => exact z
    | dct p kvs => exact z
    | val v => cases v <;> first | exact (show False from z).elim | (rename_i k; cases k with
      | true => exact (if_pos rfl).mpr (md _ _ _ _ (fun w e3 t3 h3 => mg _ _ _ _ (fun ev => h ev e3 t3) h3) ((if_pos rfl).mp z))
      | false => exact (if_neg Bool.false_ne_true).mpr (h _ _ _ ((if_neg Bool.false_ne_true).mp z)))) h2) h1) q
theorem run_chain {r r' : R2} {f g : FOp} {d : Expr} {wd : WD} (mf : MonF f) (mg : MonF g) (od : OpD c r f) (od' : OpD c r' g) (ha : SP X c a wa) (hb : SP X c b wb) (hd : SP X c d wd) {σ : L2.St} {H : Hp} {Q : VK} (h : liftE c (wChain f g wa wb wd) σ H Q) :
    tChain r r' (liftP c wa) (liftP c wb) (liftP c wd) σ H Q := by
  obtain ⟨ω, env, tk, ok, h⟩ := h
  refine ⟨ω, env, tk, ok, ha.mon _ _ _ _ (fun x e1 t1 h1 v ω1 H1 s1 ok1 r1 => ?_) h⟩
  refine ⟨ω1, e1, t1, ok1, hb.mon _ _ _ _ (fun y e2 t2 h2 u ω2 H2 s2 ok2 r2 => ?_) h1⟩
  refine od ω2 H2 σ e2 t2 x y v u _ _ ok2 (r1.step s2) r2 h2 fun ev v' ω' H' q st ok' r' => ?_
  cases ev with
  | own ds => exact (show False from q).elim
  | dct p kvs => exact (show False from q).elim
  | val d => cases d <;> first
      | exact (show False from q).elim
      | (have r'' := r'.bl
         subst r''
         rename_i k
         refine ⟨k, rfl, ?_⟩
         cases k with
         | false => exact (if_neg Bool.false_ne_true).mpr (((if_neg Bool.false_ne_true).mp q) _ ω' H' ((s1.trans s2).trans st) ok' RepE.mkbl)
         | true =>
           refine (if_pos rfl).mpr ⟨ω', e2, t2, ok', hd.mon _ _ _ _ (fun z e3 t3 h3 w ω3 H3 s3 ok3 r3 => ?_) ((if_pos rfl).mp q)⟩
           exact od' ω3 H3 σ e3 t3 y z u w _ Q ok3 ((r2.step st).step s3) r3 h3 fun ev v' ω' H' q st' ok' r' => q v' ω' H' ((((s1.trans s2).trans st).trans s3).trans st') ok' r')
theorem se_chain {op op' : CmpOp} {r r' : R2} {f g : FOp} {d : Expr} {wd : WD} (ho : OpR X (compareOp op) r) (ho' : OpR X (compareOp op') r') (mf : MonF f) (mg : MonF g) (od : OpD c r f) (od' : OpD c r' g) (ha : SP X c a wa) (hb : SP X c b wb) (hd : SP X c d wd)
    (hm : lastMarks [op, op'] [b, d] = false := by with_unfolding_all rfl) : SE X c (.Compare a [op, op'] [b, d] pos) (wChain f g wa wb wd) :=
  ⟨.chain mf mg ha.mon hb.mon hd.mon, (pe_chain ho ho' ha.run hb.run hd.run hm).wk fun _ _ _ h => run_chain mf mg od od' ha hb hd h⟩
theorem st_chain {op op' : CmpOp} {r r' : R2} {f g : FOp} {d : Expr} {wd : WD} (ho : OpR X (compareOp op) r) (ho' : OpR X (compareOp op') r') (mf : MonF f) (mg : MonF g) (od : OpD c r f) (od' : OpD c r' g) (ha : SP X c a wa) (hb : SP X c b wb) (hd : SP X c d wd)
    (hm : lastMarks [op, op'] [b, d] = false := by with_unfolding_all rfl) : ST X c (.Compare a [op, op'] [b, d] pos) (wT (wChain f g wa wb wd)) :=
  ⟨(Mon.chain mf mg ha.mon hb.mon hd.mon).t, (pt_chain ho ho' ha.run hb.run hd.run hm).wk fun _ _ _ h => run_chain mf mg od od' ha hb hd (liftE_bl (.chain mf mg ha.mon hb.mon hd.mon) h)⟩

/-! #### and, or, not -/
variable {ta tb : WT} {rest : List Expr}
theorem st_not (ha : ST X c a ta) : ST X c (.UnaryOp .Not a pos) (wNot ta) := ⟨ha.mon.not, (pt_not ha.run).wk fun σ H Q ⟨ω, env, tk, ok, h⟩ => ⟨ω, env, tk, ok, ha.mon _ _ _ _ (fun b e t q v ω' H' st ok' r => by subst r; exact q _ ω' H' st ok' rfl) h⟩⟩
theorem sw_and1 (ha : ST X c a ta) : SW X c (.BoolOp .And [a] pos) ta := ⟨ha.mon, pw_and1 ha.run⟩
theorem sw_or1 (ha : ST X c a ta) : SW X c (.BoolOp .Or [a] pos) ta := ⟨ha.mon, pw_or1 ha.run⟩
theorem run_and (ma : Mon ta) (mb : Mon tb) {σ : L2.St} {H : Hp} {Q : Bool → Hp → Prop} (h : liftT c (wAnd ta tb) σ H Q) : tAnd (liftT c ta) (liftT c tb) σ H Q := by
  obtain ⟨ω, env, tk, ok, h⟩ := h
  refine ⟨ω, env, tk, ok, ma _ _ _ _ (fun x e1 t1 h1 v ω1 H1 s1 ok1 r1 => ?_) h⟩
  subst r1
  cases v with
  | true => exact (if_pos rfl).mpr ⟨ω1, e1, t1, ok1, mb _ _ _ _ (fun y e2 t2 h2 u ω2 H2 s2 ok2 r2 => h2 u ω2 H2 (s1.trans s2) ok2 r2) ((if_pos rfl).mp h1)⟩
  | false => exact (if_neg Bool.false_ne_true).mpr (((if_neg Bool.false_ne_true).mp h1) _ ω1 H1 s1 ok1 rfl)
theorem run_or (ma : Mon ta) (mb : Mon tb) {σ : L2.St} {H : Hp} {Q : Bool → Hp → Prop} (h : liftT c (wOr ta tb) σ H Q) : tOr (liftT c ta) (liftT c tb) σ H Q := by
  obtain ⟨ω, env, tk, ok, h⟩ := h
  refine ⟨ω, env, tk, ok, ma _ _ _ _ (fun x e1 t1 h1 v ω1 H1 s1 ok1 r1 => ?_) h⟩
  subst r1
  cases v with
  | false => exact (if_neg Bool.false_ne_true).mpr ⟨ω1, e1, t1, ok1, mb _ _ _ _ (fun y e2 t2 h2 u ω2 H2 s2 ok2 r2 => h2 u ω2 H2 (s1.trans s2) ok2 r2) ((if_neg Bool.false_ne_true).mp h1)⟩
  | true => exact (if_pos rfl).mpr (((if_pos rfl).mp h1) _ ω1 H1 s1 ok1 rfl)
theorem sw_and (ha : ST X c a ta) (hb : SW X c (.BoolOp .And (b :: rest) pos) tb) : SW X c (.BoolOp .And (a :: b :: rest) pos) (wAnd ta tb) := ⟨ha.mon.and hb.mon, (pw_and ha.run hb.run).wk fun _ _ _ h => run_and ha.mon hb.mon h⟩
theorem sw_or (ha : ST X c a ta) (hb : SW X c (.BoolOp .Or (b :: rest) pos) tb) : SW X c (.BoolOp .Or (a :: b :: rest) pos) (wOr ta tb) := ⟨ha.mon.or hb.mon, (pw_or ha.run hb.run).wk fun _ _ _ h => run_or ha.mon hb.mon h⟩
theorem st_w (h : SW X c e ta) : ST X c e ta := ⟨h.mon, h.run.pt⟩
/-- as values -/
theorem run_b {t : WT} {w : WE} (mt : Mon t) (e : t = wT w) : True := trivial
theorem liftE_wB {t : WT} (m : Mon t) {σ : L2.St} {H : Hp} {Q : VK} (h : liftE c (wB t) σ H Q) : liftT c t σ H fun b H' => Q (.bl b) H' := by
  obtain ⟨ω, env, tk, ok, h⟩ := h
  exact ⟨ω, env, tk, ok, m _ _ _ _ (fun b e1 t1 h1 v ω' H' st ok' r => by subst r; exact h1 _ ω' H' st ok' RepE.mkbl) h⟩
variable {va vb : WE}
structure SV (X : Cx) (c : C) (e : Expr) (t : WT) : Prop where
  mon : Mon t
  run : PE X e (liftE c (wB t))
theorem se_sv {t : WT} (h : SV X c e t) : SE X c e (wB t) := ⟨h.mon.b, h.run⟩
theorem sv_one {op} (h : SE X c a va) : SV X c (.BoolOp op [a] pos) (wT va) := ⟨h.mon.t, (pe_one h.run).wk fun σ H Q q => by
  obtain ⟨ω, env, tk, ok, z⟩ := liftE_bl h.mon (liftE_wB h.mon.t q)
  exact ⟨ω, env, tk, ok, h.mon _ _ _ _ (fun ev e1 t1 h1 v ω' H' st ok' r => by obtain ⟨k, rfl, q⟩ := h1 v ω' H' st ok' r; exact q) z⟩⟩
theorem sv_and (ha : SE X c a va) (hb : SV X c (.BoolOp .And (b :: rest) pos) tb) : SV X c (.BoolOp .And (a :: b :: rest) pos) (wAnd (wT va) tb) := ⟨ha.mon.t.and hb.mon, (pe_and ha.run hb.run).wk fun σ H Q q => by
  have z := liftE_bl ha.mon (run_and ha.mon.t hb.mon (liftE_wB (ha.mon.t.and hb.mon) q))
  obtain ⟨ω, env, tk, ok, z⟩ := z
  refine ⟨ω, env, tk, ok, ha.mon _ _ _ _ (fun ev e1 t1 h1 v ω' H' st ok' r => ?_) z⟩
  obtain ⟨k, e, q⟩ := h1 v ω' H' st ok' r
  refine ⟨k, e, ?_⟩
  cases k with
  | false => exact (if_neg Bool.false_ne_true).mpr ((if_neg Bool.false_ne_true).mp q)
  | true =>
    refine (if_pos rfl).mpr ?_
    obtain ⟨ω, env, tk, ok, z⟩ := (if_pos rfl).mp q
    exact ⟨ω, env, tk, ok, hb.mon _ _ _ _ (fun b e2 t2 h2 v ω2 H2 s2 ok2 r2 => by have r2' := r2.bl; subst r2'; exact h2 _ ω2 H2 s2 ok2 rfl) z⟩⟩
theorem sv_or (ha : SE X c a va) (hb : SV X c (.BoolOp .Or (b :: rest) pos) tb) : SV X c (.BoolOp .Or (a :: b :: rest) pos) (wOr (wT va) tb) := ⟨ha.mon.t.or hb.mon, (pe_or ha.run hb.run).wk fun σ H Q q => by
  have z := liftE_bl ha.mon (run_or ha.mon.t hb.mon (liftE_wB (ha.mon.t.or hb.mon) q))
  obtain ⟨ω, env, tk, ok, z⟩ := z
  refine ⟨ω, env, tk, ok, ha.mon _ _ _ _ (fun ev e1 t1 h1 v ω' H' st ok' r => ?_) z⟩
  obtain ⟨k, e, q⟩ := h1 v ω' H' st ok' r
  refine ⟨k, e, ?_⟩
  cases k with
  | true => exact (if_pos rfl).mpr ((if_pos rfl).mp q)
  | false =>
    refine (if_neg Bool.false_ne_true).mpr ?_
    obtain ⟨ω, env, tk, ok, z⟩ := (if_neg Bool.false_ne_true).mp q
    exact ⟨ω, env, tk, ok, hb.mon _ _ _ _ (fun b e2 t2 h2 v ω2 H2 s2 ok2 r2 => by have r2' := r2.bl; subst r2'; exact h2 _ ω2 H2 s2 ok2 rfl) z⟩⟩
theorem se_not (ha : SE X c a va) : SE X c (.UnaryOp .Not a pos) (wB (wNot (wT va))) := ⟨ha.mon.t.not.b, (pe_not ha.run).wk fun σ H Q q => by
  obtain ⟨ω, env, tk, ok, z⟩ := liftE_wB ha.mon.t.not q
  have z' : liftT c (wT va) σ H fun b H' => Q (.bl (!b)) H' := ⟨ω, env, tk, ok, ha.mon.t _ _ _ _ (fun b e t q v ω' H' st ok' r => by subst r; exact q _ ω' H' st ok' rfl) z⟩
  exact liftE_bl ha.mon z'⟩
theorem se_if {t : Expr} {tt : WT} (hc : ST X c t tt) (ha : SE X c a va) (hb : SE X c b vb) : SE X c (.IfExp t a b pos) (wIf tt va vb) := ⟨hc.mon.if ha.mon hb.mon, (pe_ifExp hc.run ha.run hb.run).wk fun σ H Q h => by
  obtain ⟨ω, env, tk, ok, h⟩ := h
  refine ⟨ω, env, tk, ok, hc.mon _ _ _ _ (fun x e1 t1 h1 v ω1 H1 s1 ok1 r1 => ?_) h⟩
  subst r1
  cases v with
  | true => exact (if_pos rfl).mpr ⟨ω1, e1, t1, ok1, ha.mon _ _ _ _ (fun y e2 t2 h2 u ω2 H2 s2 ok2 r2 => h2 u ω2 H2 (s1.trans s2) ok2 r2) ((if_pos rfl).mp h1)⟩
  | false => exact (if_neg Bool.false_ne_true).mpr ⟨ω1, e1, t1, ok1, hb.mon _ _ _ _ (fun y e2 t2 h2 u ω2 H2 s2 ok2 r2 => h2 u ω2 H2 (s1.trans s2) ok2 r2) ((if_neg Bool.false_ne_true).mp h1)⟩⟩

/-! ### displays, arguments -/
def wNil : WA := fun env tk Q => Q [] env tk
def wCons (a : WD) (r : WA) : WA := fun env tk Q => a env tk fun x e1 t1 => r e1 t1 fun xs e2 t2 => Q (x :: xs) e2 t2
theorem Mon.nil : Mon wNil := fun _ _ _ _ h q => h _ _ _ q
theorem Mon.cons {a : WD} {r : WA} (ma : Mon a) (mr : Mon r) : Mon (wCons a r) := fun env tk Q Q' h q => ma _ _ _ _ (fun x e1 t1 h1 => mr _ _ _ _ (fun xs e2 t2 h2 => h _ e2 t2 h2) h1) q
theorem sa_nil : SA X c [] wNil := ⟨.nil, pa_nil.wk fun σ H Q ⟨ω, env, tk, ok, h⟩ => h _ ω H (.refl _ _) ok Reps.nil⟩
theorem sa_cons {es : List Expr} {w : WD} {r : WA} (ha : SD X c e w) (hr : SA X c es r) (hs : starEach (e :: es) X.env = (false, eval e X.env) :: starEach es X.env := by rfl) : SA X c (e :: es) (wCons w r) := ⟨.cons ha.mon hr.mon, (pa_cons ha.run hr.run hs).wk fun σ H Q ⟨ω, env, tk, ok, h⟩ => by
  refine ⟨ω, env, tk, ok, ha.mon _ _ _ _ (fun x e1 t1 h1 v ω1 H1 s1 ok1 r1 => ?_) h⟩
  refine ⟨ω1, e1, t1, ok1, hr.mon _ _ _ _ (fun xs e2 t2 h2 us ω2 H2 s2 ok2 r2 => ?_) h1⟩
  exact h2 _ ω2 H2 (s1.trans s2) ok2 (Reps.cons (r1.mono s2.le) r2)⟩
def wTup (r : WA) : WE := fun env tk Q => r env tk fun ds e t => Nat.ble ds.length 1000 = true ∧ Q (.val (.tup ds)) e t
def wLst (r : WA) : WE := fun env tk Q => r env tk fun ds e t => Nat.ble ds.length 1000 = true ∧ Q (.own ds) e t
theorem Mon.tup {r : WA} (m : Mon r) : Mon (wTup r) := fun env tk Q Q' h q => m _ _ _ _ (fun ds e t z => ⟨z.1, h _ _ _ z.2⟩) q
theorem Mon.lst {r : WA} (m : Mon r) : Mon (wLst r) := fun env tk Q Q' h q => m _ _ _ _ (fun ds e t z => ⟨z.1, h _ _ _ z.2⟩) q
theorem small_le {n : Nat} (h : n ≤ 1000) : n ≤ sizeLine := Nat.le_of_lt (small1000 h)
/-- a display of a tuple: its object has no dict -/
def tTupN (t : TA) : TE := fun σ H Q => t σ H fun xs H1 => xs.length ≤ sizeLine ∧ ∀ p o, H1 p = none → o.dict = none → Q (.ref p) (upd H1 p (.frz o (.tup xs)))
theorem pe_tupN {es : List Expr} {t : TA} {x1} (h : PA X es t) : PE X (.Tuple es x1 pos) (tTupN t) :=
  ⟨fun pins s σ H Q I hq => wpAny_Tuple_spliced (thn (h.run pos pins s σ H _ I hq) fun us s1 ⟨xs, H1, I1, r, z, q⟩ => ⟨r.length ▸ z, .ref _, _,
    I1.laid (t' := s1.toks) (o := .frz _ (.tup xs)) (fun b ob g => Heap.get?_push_of_some _ g) (Nat.le_refl _) ⟨Heap.get?_push_size _ rfl, z, us, r, IsTup.new _ _⟩, rfl, q _ _ I1.fresh rfl⟩)⟩
theorem se_tup {es : List Expr} {r : WA} {x1} (h : SA X c es r) : SE X c (.Tuple es x1 pos) (wTup r) := ⟨h.mon.tup, (pe_tupN h.run).wk fun σ H Q ⟨ω, env, tk, ok, q⟩ => ⟨ω, env, tk, ok, h.mon _ _ _ _ (fun ds e t z vs ω' H' st ok' r => by
  refine ⟨by rw [r.length]; exact small_le (Nat.le_of_ble_eq_true z.1), fun p o n d => ?_⟩
  exact z.2 _ _ _ (st.trans (.alloc n (ok'.nohd n) _)) (ok'.alloc n _) (show Rep c.K ⟨ω'.g, upd ω'.hd p (.frz o (.tup vs))⟩ (.tup ds) (.ref p) from Rep.tup_iff.mpr ⟨p, vs, rfl, .new (show upd ω'.hd p _ p = _ from upd_same) d, r.mono (le_upd (ok'.nohd n))⟩)) q⟩⟩
theorem se_lst {es : List Expr} {r : WA} (h : SA X c es r) : SE X c (.List es pos) (wLst r) := ⟨h.mon.lst, (pe_lst h.run).wk fun σ H Q ⟨ω, env, tk, ok, q⟩ => ⟨ω, env, tk, ok, h.mon _ _ _ _ (fun ds e t z vs ω' H' st ok' r => by
  refine ⟨by rw [r.length]; exact small_le (Nat.le_of_ble_eq_true z.1), fun p n => ?_⟩
  exact z.2 _ _ _ (st.trans (.newL n _)) (ok'.newL n _) (ok'.own n r)) q⟩⟩
end
end DL

namespace DL
open PySem PySem.Spec PyProof.Rows L2

/-! ### items, slices -/
def fIdx : FOp
  | .lst ds, .int i, q => match atI ds i with
    | some d => q (.val d)
    | none => False
  | .tup ds, .int i, q => match atI ds i with
    | some d => q (.val d)
    | none => False
  | .str s, .int i, q => s.length ≤ sizeLine ∧ match atI s.cps.toList i with
    | some ch => q (.val (.str ⟨#[ch]⟩))
    | none => False
  | _, _, _ => False
theorem MonF.idx : MonF fIdx := fun x y q q' h z => by
  cases x <;> first | exact (show False from z).elim | (cases y <;> first | exact (show False from z).elim | skip)
  · obtain ⟨z1, z⟩ := z
    refine ⟨z1, ?_⟩
    split at z <;> first | exact h _ z | exact z.elim
  · unfold fIdx at z ⊢
    simp only at z ⊢
    split at z <;> first | exact h _ z | exact z.elim
  · unfold fIdx at z ⊢
    simp only at z ⊢
    split at z <;> first | exact h _ z | exact z.elim
theorem Reps.atI {K : PySem.W.Frag} {ω : Wd} {ds : List D} {vs : List V} {i : Int} {d : D} (h : Reps K ω ds vs) (e : L2.atI ds i = some d) : ∃ v, L2.atI vs i = some v ∧ Rep K ω d v := by
  unfold L2.atI at e ⊢
  rw [h.length]
  cases z : ixN ds.length i with
  | none => rw [z] at e; cases e
  | some j =>
    rw [z] at e
    obtain ⟨v, h1, h2⟩ := h.get (i := j) (d := d) e
    exact ⟨v, h1, h2⟩
section
variable {X : Cx} {c : C} {a b e : Expr} {wa wb : WD} {pos p2 : Pos}
theorem od_idx : OpD c (rIx c.K) fIdx := fun ω H σ env tk x y v u q Q ok rx ry h hr => by
  cases x <;> first | exact (show False from h).elim | (cases y <;> first | exact (show False from h).elim | skip)
  · obtain ⟨h1, h⟩ := h
    split at h
    · rename_i ch e
      exact .inr (.inr ⟨_, _, ch, rx.str, ry.int, h1, e, hr.str ok h⟩)
    · exact h.elim
  · unfold fIdx at h
    simp only at h
    split at h
    · rename_i d e
      obtain ⟨p, vs, rfl, sx, qx⟩ := rx.tup ok.sub
      obtain ⟨w, h1, h2⟩ := qx.atI e
      exact .inr (.inl ⟨p, vs, _, w, rfl, ry.int, sx, h1, hr.val ok h h2⟩)
    · exact h.elim
  · unfold fIdx at h
    simp only at h
    split at h
    · rename_i d e
      obtain ⟨p, vs, rfl, sx, qx⟩ := rx.lst ok.sub
      obtain ⟨w, h1, h2⟩ := qx.atI e
      exact .inl ⟨p, vs, _, w, rfl, ry.int, sx, h1, hr.val ok h h2⟩
    · exact h.elim
theorem se_ix (hK : c.K = X.K) (ha : SP X c a wa) (hb : SP X c b wb) (hs : PlainIx b) : SE X c (.Subscript a b pos) (wOp fIdx wa wb) :=
  ⟨.op .idx ha.mon hb.mon, (pe_ix ix_seq ha.run hb.run hs).wk fun _ _ _ h => by rw [← hK]; exact run_op .idx od_idx ha hb h⟩

abbrev WO := W (Option Int)
def liftO (c : C) (w : WO) : TO := lift c (fun _ _ _ _ b b' => b' = b) w
structure SO (X : Cx) (c : C) (e : Option Expr) (w : WO) : Prop where
  mon : Mon w
  run : PO X e (liftO c w)
def wNo : WO := fun env tk Q => Q none env tk
def wSo (w : WD) : WO := fun env tk Q => w env tk fun d e t => match d with
  | .int i => Q (some i) e t
  | _ => False
theorem so_none : SO X c none wNo := ⟨fun _ _ _ _ h q => h _ _ _ q, ⟨fun pins s σ H Q I h => po_none.run pins s σ H Q I (by
  obtain ⟨ω, env, tk, ok, h⟩ := h
  exact h _ ω H (.refl _ _) ok rfl)⟩⟩
theorem so_some {w : WD} (h : SP X c e w) : SO X c (some e) (wSo w) := ⟨fun env tk Q Q' k q => h.mon _ _ _ _ (fun d e t z => by cases d <;> first | exact (show False from z).elim | exact k _ _ _ z) q,
  ⟨fun pins s σ H Q I hw => (po_some h.run).run pins s σ H Q I (by
    obtain ⟨ω, env, tk, ok, q⟩ := hw
    refine ⟨ω, env, tk, ok, h.mon _ _ _ _ (fun d e1 t1 z v ω' H' st ok' r => ?_) q⟩
    cases d <;> first | exact (show False from z).elim | exact ⟨_, r.int, z _ ω' H' st ok' rfl⟩)⟩⟩
def cutG {α : Type} (xs : List α) (lo hi : Option Int) : List α := (xs.drop (HT.sIx xs.length 0 lo)).take (HT.sIx xs.length xs.length hi - HT.sIx xs.length 0 lo)
def fSl : D → Option Int → Option Int → (EV → Prop) → Prop
  | .lst ds, lo, hi, q => q (.own (cutG ds lo hi))
  | .tup ds, lo, hi, q => ¬ (HT.sIx ds.length 0 lo = 0 ∧ HT.sIx ds.length ds.length hi = ds.length) ∧ q (.val (.tup (cutG ds lo hi)))
  | _, _, _, _ => False
def wSl (a : WD) (lo hi : WO) : WE := fun env tk Q => a env tk fun x e1 t1 => lo e1 t1 fun l e2 t2 => hi e2 t2 fun u e3 t3 => fSl x l u fun ev => Q ev e3 t3
theorem Reps.cut {K : PySem.W.Frag} {ω : Wd} {ds : List D} {vs : List V} (h : Reps K ω ds vs) (lo hi : Option Int) : Reps K ω (cutG ds lo hi) (cutV vs lo hi) := by
  unfold cutG cutV
  rw [h.length]
  exact (h.drop _).take _
/-- a slice of a tuple, not the whole of it: a new one, without a dict -/
def rSlN (K : PySem.W.Frag) : V → Option Int → Option Int → Hp → VK → Prop := fun x lo hi H Q => ∃ a xs, x = .ref a ∧ SqT K H a xs ∧
  ¬ (HT.sIx xs.length 0 lo = 0 ∧ HT.sIx xs.length xs.length hi = xs.length) ∧ ∀ p o, H p = none → o.dict = none → Q (.ref p) (upd H p (.frz o (.tup (cutV xs lo hi))))
theorem sl_tupN : SlR X (rSlN X.K) := by
  intro pins s σ H x v vl vu lo hi sl Q I rx hs pl pu h
  obtain ⟨p, xs, rfl, hx, nw, q⟩ := h
  cases rx
  obtain ⟨is, r, it, hz⟩ := I.tuple hx
  have ln : is.toArray.size = xs.length := by have := r.length; rw [List.size_toArray]; omega
  refine ⟨_, _, PyProof.Rows.slot_tuple_getitem.lookup, it.typeIs, HT.getItem_tuple_cut it hs pl pu (ln ▸ nw) ?_ (ln ▸ hz)⟩
  rw [ln]
  exact ⟨.ref _, _, I.laid (t' := s.toks) (o := .frz _ (.tup (cutV xs lo hi))) (fun b ob g => Heap.get?_push_of_some _ g) (Nat.le_refl _) ⟨Heap.get?_push_size _ rfl, Nat.le_trans (cutV_length xs lo hi) hz, _, (r.drop _).take _, IsTup.new _ _⟩, rfl, q _ _ I.fresh rfl⟩
theorem se_sl (hK : c.K = X.K) {lo hi : Option Expr} {wl wh : WO} (ha : SP X c a wa) (hl : SO X c lo wl) (hh : SO X c hi wh) : SE X c (.Subscript a (.Slice lo hi none p2) pos) (wSl wa wl wh) := by
  refine ⟨fun env tk Q Q' k q => ha.mon _ _ _ _ (fun x e1 t1 h1 => hl.mon _ _ _ _ (fun l e2 t2 h2 => hh.mon _ _ _ _ (fun u e3 t3 h3 => ?_) h2) h1) q, (pe_slice (sl_list.or sl_tupN) ha.run hl.run hh.run).wk fun σ H Q h => ?_⟩
  · cases x <;> first | exact (show False from h3).elim | exact k _ _ _ h3 | exact ⟨h3.1, k _ _ _ h3.2⟩
  · obtain ⟨ω, env, tk, ok, h⟩ := h
    refine ⟨ω, env, tk, ok, ha.mon _ _ _ _ (fun x e1 t1 h1 v ω1 H1 s1 ok1 r1 => ?_) h⟩
    refine ⟨ω1, e1, t1, ok1, hl.mon _ _ _ _ (fun l e2 t2 h2 v2 ω2 H2 s2 ok2 r2 => ?_) h1⟩
    refine ⟨ω2, e2, t2, ok2, hh.mon _ _ _ _ (fun u e3 t3 h3 v3 ω3 H3 s3 ok3 r3 => ?_) h2⟩
    subst r2 r3
    have r4 := (r1.step s2).step s3
    have hr : Res c ω3 H3 σ e3 t3 (fun ev => ∀ v ω' H', Stp ω H ω' H' → Ok c ω' H' σ e3 t3 → RepE c ω' H' σ e3 ev v → Q v H') Q := fun ev v' ω' H' q st' ok' r' => q v' ω' H' (((s1.trans s2).trans s3).trans st') ok' r'
    cases x <;> first | exact (show False from h3).elim | skip
    · obtain ⟨p, vs, rfl, sx, qx⟩ := r4.tup ok3.sub
      rw [hK] at sx
      refine .inr ⟨p, vs, rfl, sx, by rw [qx.length]; exact h3.1, fun t o n hd => hr.tup ok3 h3.2 (qx.cut _ _) n hd⟩
    · obtain ⟨p, vs, rfl, sx, qx⟩ := r4.lst ok3.sub
      rw [hK] at sx
      exact .inl ⟨p, vs, rfl, sx, fun t n => hr.lst ok3 h3 (qx.cut _ _) n⟩

/-! ### built-in functions -/
def CallD1 (c : C) (r : List V → Hp → VK → Prop) (f : F1) : Prop := UnD c (fun v H Q => r [v] H Q) f
abbrev F2 := FOp
def CallD2 (c : C) (r : List V → Hp → VK → Prop) (f : FOp) : Prop := OpD c (fun v u H Q => r [v, u] H Q) f
theorem run_c1 {r : List V → Hp → VK → Prop} {f : F1} (mf : MonF1 f) (od : CallD1 c r f) (ha : SP X c a wa) {σ : L2.St} {H : Hp} {Q : VK} (h : liftE c (w1 f wa) σ H Q) : tCB r (tCons (liftP c wa) tNil) σ H Q :=
  run_1 mf od ha h
theorem run_c2 {r : List V → Hp → VK → Prop} {f : FOp} (mf : MonF f) (od : CallD2 c r f) (ha : SP X c a wa) (hb : SP X c b wb) {σ : L2.St} {H : Hp} {Q : VK} (h : liftE c (wOp f wa wb) σ H Q) : tCB r (tCons (liftP c wa) (tCons (liftP c wb) tNil)) σ H Q :=
  run_op mf od ha hb h
variable {id T : String} {x : Str} {p : Pos}
theorem se_b1 {r : List V → Hp → VK → Prop} {f : F1} (hc : CallR X (.builtin id) r) (hg : Gl X x) (hm : X.mg x = none) (hv : bootBuiltins x = some (.builtin id)) (mf : MonF1 f) (od : CallD1 c r f) (ha : SP X c a wa) (hn : x ≠ "__name__" := by decide) (hdb : (x == ("__debug__" : Str)) = false := by decide)
    (he : starEach [a] X.env = [(false, eval a X.env)] := by rfl) : SE X c (.Call (.Name x p) [a] [] pos) (w1 f wa) :=
  ⟨.w1 mf ha.mon, (pe_callB hc hg hm hv (pa_cons ha.run pa_nil he) hn hdb he).wk fun _ _ _ h => run_c1 mf od ha h⟩
theorem se_t1 {r : List V → Hp → VK → Prop} {f : F1} (hc : CallR X (.type T) r) (hg : Gl X x) (hm : X.mg x = none) (hv : bootBuiltins x = some (.type T)) (mf : MonF1 f) (od : CallD1 c r f) (ha : SP X c a wa) (hn : x ≠ "__name__" := by decide) (hdb : (x == ("__debug__" : Str)) = false := by decide)
    (he : starEach [a] X.env = [(false, eval a X.env)] := by rfl) : SE X c (.Call (.Name x p) [a] [] pos) (w1 f wa) :=
  ⟨.w1 mf ha.mon, (pe_callTy hc hg hm hv (pa_cons ha.run pa_nil he) hn hdb he).wk fun _ _ _ h => run_c1 mf od ha h⟩
theorem se_b2 {r : List V → Hp → VK → Prop} {f : FOp} (hc : CallR X (.builtin id) r) (hg : Gl X x) (hm : X.mg x = none) (hv : bootBuiltins x = some (.builtin id)) (mf : MonF f) (od : CallD2 c r f) (ha : SP X c a wa) (hb : SP X c b wb) (hn : x ≠ "__name__" := by decide) (hdb : (x == ("__debug__" : Str)) = false := by decide)
    (he : starEach [a, b] X.env = [(false, eval a X.env), (false, eval b X.env)] := by rfl) (he2 : starEach [b] X.env = [(false, eval b X.env)] := by rfl) : SE X c (.Call (.Name x p) [a, b] [] pos) (wOp f wa wb) :=
  ⟨.op mf ha.mon hb.mon, (pe_callB hc hg hm hv (pa_cons ha.run (pa_cons hb.run pa_nil he2) (by rw [he, he2])) hn hdb (by rw [he, he2]) (by rw [he2]; rfl)).wk fun _ _ _ h => run_c2 mf od ha hb h⟩
/-- len -/
def fLen : F1
  | .lst ds, q => q (.val (.int (ds.length : Int)))
  | .tup ds, q => q (.val (.int (ds.length : Int)))
  | .str s, q => s.length ≤ sizeLine ∧ q (.val (.int (s.length : Int)))
  | _, _ => False
theorem MonF1.len : MonF1 fLen := fun x _ _ h z => by cases x <;> first | exact (show False from z).elim | exact h _ z | exact ⟨z.1, h _ z.2⟩
theorem cd_len : CallD1 c (fun xs H Q => (∃ p ys, xs = [.ref p] ∧ (SqL c.K H p ys ∨ SqT c.K H p ys) ∧ Q (.int ys.length) H) ∨ (∃ z, xs = [.str z] ∧ z.length ≤ sizeLine ∧ Q (.int z.length) H)) fLen := fun ω H σ env tk x v q Q ok rx h hr => by
  cases x <;> first | exact (show False from h).elim | skip
  · rw [rx.str]
    exact .inr ⟨_, rfl, h.1, hr.int ok h.2⟩
  · obtain ⟨p, vs, rfl, sx, qx⟩ := rx.tup ok.sub
    exact .inl ⟨p, vs, rfl, .inr sx, by rw [qx.length]; exact hr.int ok h⟩
  · obtain ⟨p, vs, rfl, sx, qx⟩ := rx.lst ok.sub
    exact .inl ⟨p, vs, rfl, .inl sx, by rw [qx.length]; exact hr.int ok h⟩
theorem se_len (hK : c.K = X.K) (hg : Gl X "len") (hm : X.mg "len" = none) (ha : SP X c a wa) (he : starEach [a] X.env = [(false, eval a X.env)] := by rfl) : SE X c (.Call (.Name "len" p) [a] [] pos) (w1 fLen wa) :=
  se_b1 (call_len_seq.or call_len_str) hg hm PySem.boot_len .len (by rw [← hK]; exact cd_len) ha (he := he)
/-- abs -/
def fAbs : F1
  | .int i, q => q (.val (.int (if i < 0 then -i else i)))
  | _, _ => False
theorem MonF1.abs : MonF1 fAbs := fun x _ _ h z => by cases x <;> first | exact (show False from z).elim | exact h _ z
theorem se_abs (hg : Gl X "abs") (hm : X.mg "abs" = none) (ha : SP X c a wa) (he : starEach [a] X.env = [(false, eval a X.env)] := by rfl) : SE X c (.Call (.Name "abs" p) [a] [] pos) (w1 fAbs wa) :=
  se_b1 call_abs hg hm (by decide +kernel) .abs (fun ω H σ env tk x v q Q ok rx h hr => by
    cases x <;> first | exact (show False from h).elim | skip
    rw [rx.int]
    exact ⟨_, rfl, hr.int ok h⟩) ha (he := he)
/-- int -/
def fInt : F1
  | .int i, q => q (.val (.int i))
  | .bl b, q => q (.val (.int (if b then 1 else 0)))
  | _, _ => False
theorem MonF1.toInt : MonF1 fInt := fun x _ _ h z => by cases x <;> first | exact (show False from z).elim | exact h _ z
theorem se_toInt (hg : Gl X "int") (hm : X.mg "int" = none) (ha : SP X c a wa) (he : starEach [a] X.env = [(false, eval a X.env)] := by rfl) : SE X c (.Call (.Name "int" p) [a] [] pos) (w1 fInt wa) :=
  se_t1 call_int1 hg hm (by decide +kernel) .toInt (fun ω H σ env tk x v q Q ok rx h hr => by
    cases x <;> first | exact (show False from h).elim | skip
    · rw [rx.bl]
      exact .inr ⟨_, rfl, hr.int ok h⟩
    · rw [rx.int]
      exact .inl ⟨_, rfl, hr.int ok h⟩) ha (he := he)
/-- max, min of two ints -/
def fMax : FOp
  | .int i, .int j, q => q (.val (.int (if j > i then j else i)))
  | _, _, _ => False
def fMin : FOp
  | .int i, .int j, q => q (.val (.int (if j < i then j else i)))
  | _, _, _ => False
theorem MonF.max : MonF fMax := fun x y _ _ h z => by cases x <;> first | exact (show False from z).elim | (cases y <;> first | exact (show False from z).elim | exact h _ z)
theorem MonF.min : MonF fMin := fun x y _ _ h z => by cases x <;> first | exact (show False from z).elim | (cases y <;> first | exact (show False from z).elim | exact h _ z)
theorem se_max (hc : X.calm = true) (hg : Gl X "max") (hm : X.mg "max" = none) (ha : SP X c a wa) (hb : SP X c b wb) (he : starEach [a, b] X.env = [(false, eval a X.env), (false, eval b X.env)] := by rfl) (he2 : starEach [b] X.env = [(false, eval b X.env)] := by rfl) : SE X c (.Call (.Name "max" p) [a, b] [] pos) (wOp fMax wa wb) :=
  se_b2 (call_max2 hc) hg hm (by decide +kernel) .max (fun ω H σ env tk x y v u q Q ok rx ry h hr => by
    cases x <;> first | exact (show False from h).elim | (cases y <;> first | exact (show False from h).elim | skip)
    rw [rx.int, ry.int]
    exact ⟨_, _, rfl, hr.int ok h⟩) ha hb (he := he) (he2 := he2)
theorem se_min (hc : X.calm = true) (hg : Gl X "min") (hm : X.mg "min" = none) (ha : SP X c a wa) (hb : SP X c b wb) (he : starEach [a, b] X.env = [(false, eval a X.env), (false, eval b X.env)] := by rfl) (he2 : starEach [b] X.env = [(false, eval b X.env)] := by rfl) : SE X c (.Call (.Name "min" p) [a, b] [] pos) (wOp fMin wa wb) :=
  se_b2 (call_min2 hc) hg hm (by decide +kernel) .min (fun ω H σ env tk x y v u q Q ok rx ry h hr => by
    cases x <;> first | exact (show False from h).elim | (cases y <;> first | exact (show False from h).elim | skip)
    rw [rx.int, ry.int]
    exact ⟨_, _, rfl, hr.int ok h⟩) ha hb (he := he) (he2 := he2)
/-- list, tuple -/
def fList : F1
  | .lst ds, q => q (.own ds)
  | .tup ds, q => q (.own ds)
  | _, _ => False
def fTuple : F1
  | .lst ds, q => q (.val (.tup ds))
  | .tup ds, q => q (.val (.tup ds))
  | _, _ => False
theorem MonF1.list : MonF1 fList := fun x _ _ h z => by cases x <;> first | exact (show False from z).elim | exact h _ z
theorem MonF1.tuple : MonF1 fTuple := fun x _ _ h z => by cases x <;> first | exact (show False from z).elim | exact h _ z
theorem cd_list : CallD1 c (fun xs H Q => ∃ p ys, xs = [.ref p] ∧ (SqL c.K H p ys ∨ SqT c.K H p ys) ∧ ∀ l, H l = none → Q (.ref l) (upd H l (.lst ys))) fList := fun ω H σ env tk x v q Q ok rx h hr => by
  cases x <;> first | exact (show False from h).elim | skip
  · obtain ⟨p, vs, rfl, sx, qx⟩ := rx.tup ok.sub
    exact ⟨p, vs, rfl, .inr sx, fun l n => hr.lst ok h qx n⟩
  · obtain ⟨p, vs, rfl, sx, qx⟩ := rx.lst ok.sub
    exact ⟨p, vs, rfl, .inl sx, fun l n => hr.lst ok h qx n⟩
theorem se_list (hK : c.K = X.K) (hg : Gl X "list") (hm : X.mg "list" = none) (ha : SP X c a wa) (he : starEach [a] X.env = [(false, eval a X.env)] := by rfl) : SE X c (.Call (.Name "list" p) [a] [] pos) (w1 fList wa) :=
  se_t1 call_list_of hg hm (by decide +kernel) .list (by rw [← hK]; exact cd_list) ha (he := he)
theorem RepP.tupRep {ω : Wd} {H : Hp} {ds : List D} {v : V} (h : RepP c ω H (.tup ds) v) : Rep c.K ω (.tup ds) v := by
  rcases h with h | ⟨ds, p, vs, e, _⟩
  · exact h
  · cases e
/-- tuple(xs): of a list a new one, without a dict; of a tuple that tuple -/
def rTupN (K : PySem.W.Frag) : List V → Hp → VK → Prop := fun xs H Q => ∃ p ys, xs = [.ref p] ∧ ((SqL K H p ys ∧ ∀ l o, H l = none → o.dict = none → Q (.ref l) (upd H l (.frz o (.tup ys)))) ∨ (SqT K H p ys ∧ Q (.ref p) H))
theorem call_tupN : CallR X (.type "tuple") (rTupN X.K) := by
  intro pins s σ H xs us Q I r h
  obtain ⟨p, ys, rfl, h⟩ := h
  obtain ⟨u, rfl, ru⟩ := vals1 r
  cases ru
  rcases h with ⟨hq, q⟩ | ⟨hq, q⟩
  · obtain ⟨is, rv, pl, hz⟩ := I.list hq
    have ln := rv.length
    refine call_tuple_list pl.isList (fun h' kp => ?_) (by rw [List.size_toArray]; omega)
    have I2 : Inv X pins σ H { s with heap := h' } := I.kept (t' := s.toks) kp
    exact ⟨.ref _, _, I2.laid (t' := s.toks) (o := .frz _ (.tup ys)) (fun b ob g => Heap.get?_push_of_some _ g) (Nat.le_refl _) ⟨Heap.get?_push_size _ rfl, hz, is, rv, IsTup.new _ _⟩, rfl, q _ _ I2.fresh rfl⟩
  · obtain ⟨is, rv, it, hz⟩ := I.tuple hq
    exact call_tuple_same it ⟨.ref _, _, I, rfl, q⟩
theorem cd_tuple : CallD1 c (rTupN c.K) fTuple := fun ω H σ env tk x v q Q ok rx h hr => by
  cases x <;> first | exact (show False from h).elim | skip
  · have r := rx.tupRep
    obtain ⟨p, vs, rfl, sx, qx⟩ := rx.tup ok.sub
    exact ⟨p, vs, rfl, .inr ⟨sx, hr.val ok h r⟩⟩
  · obtain ⟨p, vs, rfl, sx, qx⟩ := rx.lst ok.sub
    exact ⟨p, vs, rfl, .inl ⟨sx, fun l o n hd => hr.tup ok h qx n hd⟩⟩
theorem se_tuple (hK : c.K = X.K) (hg : Gl X "tuple") (hm : X.mg "tuple" = none) (ha : SP X c a wa) (he : starEach [a] X.env = [(false, eval a X.env)] := by rfl) : SE X c (.Call (.Name "tuple" p) [a] [] pos) (w1 fTuple wa) :=
  se_t1 call_tupN hg hm (by decide +kernel) .tuple (by rw [← hK]; exact cd_tuple) ha (he := he)
/-- sorted of ints -/
def asInts : List D → Option (List Int)
  | [] => some []
  | .int i :: ds => (asInts ds).map (i :: ·)
  | _ :: _ => none
def fSortI : F1
  | .lst ds, q => ∃ ns, asInts ds = some ns ∧ ∀ ns', List.Perm ns' ns → ns'.Pairwise (· ≤ ·) → q (.own (ns'.map D.int))
  | _, _ => False
theorem MonF1.sortI : MonF1 fSortI := fun x _ _ h z => by
  cases x <;> first | exact (show False from z).elim | skip
  obtain ⟨ns, e, z⟩ := z
  exact ⟨ns, e, fun ns' a b => h _ (z ns' a b)⟩
theorem asInts_reps {K : PySem.W.Frag} {ω : Wd} : ∀ {ds : List D} {ns : List Int} {vs : List V}, asInts ds = some ns → Reps K ω ds vs → vs = ns.map V.int
  | [], ns, vs, e, h => by cases e; rw [Reps.nil_iff] at h; rw [h]; rfl
  | d :: ds, ns, vs, e, h => by
    cases d <;> first | cases e | skip
    rename_i i
    obtain ⟨v, r, rfl, h1, h2⟩ := Reps.cons_iff.mp h
    unfold asInts at e
    cases z : asInts ds with
    | none => rw [z] at e; cases e
    | some ms =>
      rw [z] at e
      cases e
      rw [Rep.int_iff.mp h1, asInts_reps z h2]
      rfl
theorem reps_ints {K : PySem.W.Frag} {ω : Wd} : ∀ ns : List Int, Reps K ω (ns.map D.int) (ns.map V.int)
  | [] => .nil
  | n :: ns => Reps.cons (Rep.int_iff.mpr rfl) (reps_ints ns)
theorem asInts_map : ∀ ns : List Int, asInts (ns.map D.int) = some ns
  | [] => rfl
  | n :: ns => by
    show (asInts (ns.map D.int)).map (n :: ·) = _
    rw [asInts_map ns]
    rfl
theorem se_sortI (hK : c.K = X.K) (hg : Gl X "sorted") (hm : X.mg "sorted" = none) (ha : SP X c a wa) (he : starEach [a] X.env = [(false, eval a X.env)] := by rfl) : SE X c (.Call (.Name "sorted" p) [a] [] pos) (w1 fSortI wa) :=
  se_b1 cr_sortedI hg hm (by decide +kernel) .sortI (by
    rw [← hK]
    exact fun ω H σ env tk x v q Q ok rx h hr => by
      cases x <;> first | exact (show False from h).elim | skip
      obtain ⟨ns, e, h⟩ := h
      obtain ⟨p, vs, rfl, sx, qx⟩ := rx.lst ok.sub
      rw [asInts_reps e qx] at sx
      exact ⟨p, ns, rfl, sx, fun ns' l h1 h2 n => hr.lst ok (h ns' h1 h2) (reps_ints ns') n⟩) ha (he := he)
/-- isqrt, by the module's name -/
def fSqrt : F1
  | .int i, q => 0 ≤ i ∧ i.toNat.log2 < 13400 ∧ q (.val (.int ((Float64.isqrt i.toNat : Nat) : Int)))
  | _, _ => False
theorem MonF1.sqrt : MonF1 fSqrt := fun x _ _ h z => by cases x <;> first | exact (show False from z).elim | exact ⟨z.1, z.2.1, h _ z.2.2⟩
theorem call_isqrt : CallR X (.builtin "math.isqrt") (fun xs H Q => ∃ i, xs = [.int i] ∧ 0 ≤ i ∧ i.toNat.log2 < 13400 ∧ Q (.int ((Float64.isqrt i.toNat : Nat) : Int)) H) := by
  intro pins s σ H xs us Q I r h
  obtain ⟨i, rfl, h0, h1, q⟩ := h
  obtain ⟨u, rfl, t, rfl⟩ := vals1 r
  exact call_function_meets PySem.W.MGF.kind_isqrt PySem.W.MGF.plain_isqrt PySem.W.MGF.entry_isqrt (PySem.W.MGF.args_isqrt _) (PySem.W.mg_run_isqrt i t (by omega) (by omega) (by omega)).meets ⟨.int _, H, I.tok _, ⟨_, rfl⟩, q⟩
theorem se_g1 {r : List V → Hp → VK → Prop} {f : F1} (hc : CallR X (.builtin id) r) (hg : Gl X x) (hm : X.mg x = some (.builtin id)) (mf : MonF1 f) (od : CallD1 c r f) (ha : SP X c a wa) (hdb : (x == ("__debug__" : Str)) = false := by decide)
    (he : starEach [a] X.env = [(false, eval a X.env)] := by rfl) : SE X c (.Call (.Name x p) [a] [] pos) (w1 f wa) := by
  refine ⟨.w1 mf ha.mon, ⟨fun pins s σ H Q I h => ?_⟩⟩
  have h' := run_c1 mf od ha h
  refine wpAny_Call_Name_kw (ld_glob I hg hm ?_ hdb)
  exact PyProof.Rows.callWith_builtin1 (thn ((pa_cons ha.run pa_nil he).run pos pins s σ H _ I h') fun us s1 ⟨vs, H1, I1, r1, q1⟩ => hc pins s1 σ H1 vs us Q I1 r1 q1) he rfl
theorem se_sqrt (hg : Gl X "isqrt") (hm : X.mg "isqrt" = some (.builtin "math.isqrt")) (ha : SP X c a wa) (he : starEach [a] X.env = [(false, eval a X.env)] := by rfl) : SE X c (.Call (.Name "isqrt" p) [a] [] pos) (w1 fSqrt wa) :=
  se_g1 call_isqrt hg hm .sqrt (fun ω H σ env tk x v q Q ok rx h hr => by
    cases x <;> first | exact (show False from h).elim | skip
    rw [rx.int]
    exact ⟨_, rfl, h.1, h.2.1, hr.int ok h.2.2⟩) ha (he := he)
end
end DL

namespace DL
open PySem PySem.Spec PyProof.Rows L2

/-! ### defs -/
abbrev FSpec := List D → Tk → (EV → Tk → Prop) → Prop
def RetV (c : C) (ω : Wd) (H : Hp) : EV → V → Prop
  | .val d, v => Rep c.K ω d v
  | .own ds, v => ∃ p, v = .ref p ∧ OwnAt c ω H p ds
  | .dct p kvs, v => v = .ref p ∧ DctAt c ω H p kvs
structure Ret (c : C) (ω : Wd) (H : Hp) (tk : Tk) (ev : EV) (v : V) : Prop where
  sub : ∀ b o, ω.hd b = some o → H b = some o
  st : StOk c.K ω H tk
  new : ∀ b, ω.hd b ≠ none → c.w0.hd b ≠ none ∨ c.H0 b = none
  ng : ∀ a, ω.g = some a → c.w0.g = some a ∨ c.H0 a = none
  fr : ∀ b o, c.H0 b = some o → c.w0.g ≠ some b → H b = some o
  le0 : c.w0.le ω
  v : RetV c ω H ev v
theorem Ok.ret {c : C} {ω : Wd} {H : Hp} {σ : L2.St} {env : En} {tk : Tk} (ok : Ok c ω H σ env tk) {ev : EV} {v : V} (r : RepE c ω H σ env ev v) : Ret c ω H tk ev v := ⟨ok.sub, ok.st, ok.new, ok.ng, ok.fr, ok.le0, by
  cases ev with
  | val d => exact r
  | own ds => obtain ⟨p, e, h, _⟩ := r; exact ⟨p, e, h⟩
  | dct p kvs => exact ⟨r.1, r.2.1⟩⟩
def spD (K : PySem.W.Frag) (S : FSpec) : Sp := fun vs H Q _ => ∃ ω ds tk, (∀ b o, ω.hd b = some o → H b = some o) ∧ StOk K ω H tk ∧ Reps K ω ds vs ∧ S ds tk fun ev tk' => ∀ v ω' H', Ret ⟨K, ω, H, fun _ => False⟩ ω' H' tk' ev v → Q v H'
def MonFS (S : FSpec) : Prop := ∀ ds tk Q Q', (∀ ev t, Q ev t → Q' ev t) → S ds tk Q → S ds tk Q'
structure FnIn (P : Program) (w : World) (K : PySem.W.Frag) (mg : Str → Option Value) (base : Heap) (k : Nat) (x : Str) (S : FSpec) : Prop where
  ex : ∃ f fd ps, FnOk P w K mg base CX0 k f fd ps (spD K S) ∧ mg x = some (.ref f) ∧ PySem.W.keepIn K (.ref f) = true ∧ Binds K fd ps []
theorem FnIn.mono {P : Program} {w : World} {K : PySem.W.Frag} {mg : Str → Option Value} {base : Heap} {j k : Nat} {x : Str} {S : FSpec} (G : FnIn P w K mg base j x S) (h : j ≤ k) : FnIn P w K mg base k x S := by
  obtain ⟨f, fd, ps, F, a, b, d⟩ := G.ex
  exact ⟨f, fd, ps, F.mono h, a, b, d⟩
def wCall (S : FSpec) (r : WA) : WE := fun env tk Q => r env tk fun ds e1 t1 => S ds t1 fun ev t2 => Q ev e1 t2
theorem Mon.call {S : FSpec} {r : WA} (ms : MonFS S) (mr : Mon r) : Mon (wCall S r) := fun env tk Q Q' h q => mr _ _ _ _ (fun ds e t z => ms _ _ _ _ (fun ev t => h ev _ t) z) q
/-- what a call leaves of the caller's state -/
theorem Ok.after {c : C} {ω ω' : Wd} {H H' : Hp} {σ : L2.St} {env : En} {tk tk' : Tk} {ev : EV} {v : V} (ok : Ok c ω H σ env tk) (r : Ret ⟨c.K, ω, H, fun _ => False⟩ ω' H' tk' ev v) : Ok c ω' H' σ env tk' ∧ Stp ω H ω' H' ∧ RepE c ω' H' σ env ev v := by
  have hs : Stp ω H ω' H' := ⟨r.le0, r.fr, r.ng⟩
  have ok' : Ok c ω' H' σ env tk' := {
    len := ok.len
    sub := r.sub
    st := r.st
    slots := fun i e he => by
      obtain ⟨u, h1, h2⟩ := ok.slots i e he
      refine ⟨u, h1, ?_⟩
      cases e with
      | val d => exact Rep.mono r.le0 h2
      | own ds =>
        obtain ⟨p, rfl, vs, a1, a2, a3, a4, a5⟩ := h2
        refine ⟨p, rfl, vs, r.fr p _ a1 a3, ?_, fun e => ?_, a4, a5.mono r.le0⟩
        · cases z : ω'.hd p with
          | none => rfl
          | some o =>
            rcases r.new p (by rw [z]; exact fun q => nomatch q) with q | q
            · exact absurd a2 q
            · rw [show H p = none from q] at a1; cases a1
        · rcases r.ng p e with q | q
          · exact a3 q
          · rw [show H p = none from q] at a1; cases a1
      | dct p ds =>
        obtain ⟨rfl, vs, a1, a2, a3, a4, a5⟩ := h2
        refine ⟨rfl, vs, r.fr p _ a1 a3, ?_, fun e => ?_, a4, a5.mono r.le0⟩
        · cases z : ω'.hd p with
          | none => rfl
          | some o =>
            rcases r.new p (by rw [z]; exact fun q => nomatch q) with q | q
            · exact absurd a2 q
            · rw [show H p = none from q] at a1; cases a1
        · rcases r.ng p e with q | q
          · exact a3 q
          · rw [show H p = none from q] at a1; cases a1
    dist := ok.dist
    one := ok.one
    new := fun b h => by
      rcases r.new b h with q | q
      · exact ok.new b q
      · exact .inr (ok.noH0 q)
    ng := fun a h => by
      rcases r.ng a h with q | q
      · exact ok.ng a q
      · exact .inr (ok.noH0 q)
    fr := fun b o h n => r.fr b o (ok.fr b o h n) fun e => by
      rcases ok.ng b e with q | q
      · exact n q
      · rw [h] at q; cases q
    le0 := ok.le0.trans r.le0
    pr := fun b h => by
      obtain ⟨a1, a2, a3⟩ := ok.pr b h
      refine ⟨?_, ?_, fun e => ?_⟩
      · cases z : H b with
        | none => exact absurd z a1
        | some o => rw [r.fr b o z a3]; exact fun q => nomatch q
      · cases z : ω'.hd b with
        | none => rfl
        | some o =>
          rcases r.new b (by rw [z]; exact fun q => nomatch q) with q | q
          · exact absurd a2 q
          · exact absurd q a1
      · rcases r.ng b e with q | q
        · exact a3 q
        · exact a1 q }
  refine ⟨ok', hs, ?_⟩
  have hv := r.v
  cases ev with
  | val d => exact hv
  | own ds =>
    obtain ⟨p, e, vs, a1, a2, a3, a4, a5⟩ := hv
    exact ⟨p, e, ⟨vs, a1, a2, a3, ⟨ok.noH0 a4.1, ok.nopr a4.1⟩, a5⟩, ok.noslot (.inl a4.1)⟩
  | dct p kvs =>
    obtain ⟨e, vs, a1, a2, a3, a4, a5⟩ := hv
    refine ⟨e, ⟨vs, a1, a2, a3, ⟨ok.noH0 a4.1, ok.nopr a4.1⟩, a5⟩, fun i es he => ?_⟩
    obtain ⟨v', g1, e', us, b1, _⟩ := ok.slots i _ he
    have h0 : H p = none := a4.1
    rw [b1] at h0
    cases h0
section
variable {X : Cx} {c : C} {e : Expr} {es : List Expr} {r : WA} {x : Str} {p pos : Pos} {k : Nat} {S : FSpec}
theorem se_call (hK : c.K = X.K) (G : FnIn X.prog X.w X.K X.mg X.base k x S) (ms : MonFS S) (hr : Room k X.A) (hg : Gl X x) (ha : SA X c (e :: es) r) (hdb : (x == ("__debug__" : Str)) = false := by decide)
    (he : starEach (e :: es) X.env = (false, eval e X.env) :: starEach es X.env := by rfl) (hpl : (backTo pos (starEach es X.env)).any (·.1) = false := by rfl) : SE X c (.Call (.Name x p) (e :: es) [] pos) (wCall S r) := by
  obtain ⟨f, fd, ps, F, hm, hk, hb⟩ := G.ex
  refine ⟨.call ms ha.mon, (pe_call F hr hg hm hk hb .nil pass0 ha.run hdb he hpl).wk fun σ H Q h => ?_⟩
  obtain ⟨ω, env, tk, ok, h⟩ := h
  refine ⟨ω, env, tk, ok, ha.mon _ _ _ _ (fun ds e1 t1 h1 vs ω1 H1 s1 ok1 r1 => ?_) h⟩
  show spD X.K S (vs ++ []) H1 Q E0
  rw [List.append_nil, ← hK]
  refine ⟨ω1, ds, t1, ok1.sub, ok1.st, r1, ms _ _ _ _ (fun ev t2 h2 v ω' H' ret => ?_) h1⟩
  obtain ⟨a1, a2, a3⟩ := ok1.after ret
  exact h2 v ω' H' (s1.trans a2) a1 a3
end

/-! ### statements -/
structure Post where
  nx : En → Tk → Prop
  rt : EV → Tk → Prop
  bk : En → Tk → Prop := fun _ _ => False
  ct : En → Tk → Prop := fun _ _ => False
structure Post.le (P P' : Post) : Prop where
  nx : ∀ e t, P.nx e t → P'.nx e t
  rt : ∀ v t, P.rt v t → P'.rt v t
  bk : ∀ e t, P.bk e t → P'.bk e t
  ct : ∀ e t, P.ct e t → P'.ct e t
abbrev WS := Post → En → Tk → Prop
def MonS (w : WS) : Prop := ∀ P P' env tk, P.le P' → w P env tk → w P' env tk
def liftN (c : C) (ω : Wd) (k : L2.St → Hp → Prop) : En → Tk → Prop := fun e t => ∀ σ' ω' H', ω.le ω' → Ok c ω' H' σ' e t → k σ' H'
def postOf (c : C) (ω : Wd) (D : Ends) : Post := { nx := liftN c ω D.nx, rt := fun ev t => ∀ v ω' H', Ret c ω' H' t ev v → D.rt v H', bk := liftN c ω D.bk, ct := liftN c ω D.ct }
def liftS (c : C) (w : WS) : TS := fun D σ H => ∃ ω env tk, Ok c ω H σ env tk ∧ w (postOf c ω D) env tk
structure SS (X : Cx) (c : C) (st : Stmt) (w : WS) : Prop where
  mon : MonS w
  run : PS X st (liftS c w)
structure SSs (X : Cx) (c : C) (st : List Stmt) (w : WS) : Prop where
  mon : MonS w
  run : PSs X st (liftS c w)
theorem _root_.L2.PS.wk {X : Cx} {e : Stmt} {t t' : TS} (h : PS X e t) (k : ∀ D σ H, t' D σ H → t D σ H) : PS X e t' := ⟨fun pins s σ H D I q => h.run pins s σ H D I (k _ _ _ q)⟩
theorem _root_.L2.PSs.wk {X : Cx} {e : List Stmt} {t t' : TS} (h : PSs X e t) (k : ∀ D σ H, t' D σ H → t D σ H) : PSs X e t' := ⟨fun pins s σ H D I q => h.run pins s σ H D I (k _ _ _ q)⟩
theorem liftN_up {c : C} {ω ω' : Wd} (l : ω.le ω') {k : L2.St → Hp → Prop} {e : En} {t : Tk} (h : liftN c ω k e t) : liftN c ω' k e t := fun σ' ω'' H' l' ok => h σ' ω'' H' (l.trans l') ok
theorem postOf_up {c : C} {ω ω' : Wd} (l : ω.le ω') (D : Ends) : (postOf c ω D).le (postOf c ω' D) := ⟨fun _ _ h => liftN_up l h, fun _ _ h => h, fun _ _ h => liftN_up l h, fun _ _ h => liftN_up l h⟩
theorem Post.le.refl (P : Post) : P.le P := ⟨fun _ _ h => h, fun _ _ h => h, fun _ _ h => h, fun _ _ h => h⟩

def wSeq (a b : WS) : WS := fun P env tk => a { P with nx := fun e t => b P e t } env tk
def wNext : WS := fun P env tk => P.nx env tk
theorem MonS.seq {a b : WS} (ma : MonS a) (mb : MonS b) : MonS (wSeq a b) := fun P P' env tk l h => ma _ _ _ _ (by exact ⟨fun e t z => mb _ _ _ _ l z, l.rt, l.bk, l.ct⟩) h
section
variable {X : Cx} {c : C} {st : Stmt} {rest : List Stmt} {a b : WS} {e : Expr} {pos : Pos}
theorem ss_nil : SSs X c [] wNext := ⟨fun P P' env tk l h => l.nx _ _ h, pss_nil.wk fun D σ H ⟨ω, env, tk, ok, h⟩ => h σ ω H (.refl _) ok⟩
theorem ss_cons (ha : SS X c st a) (hb : SSs X c rest b) : SSs X c (st :: rest) (wSeq a b) := ⟨.seq ha.mon hb.mon, (pss_cons ha.run hb.run).wk fun D σ H ⟨ω, env, tk, ok, h⟩ => by
  refine ⟨ω, env, tk, ok, ha.mon { postOf c ω D with nx := fun e t => b (postOf c ω D) e t } _ _ _ ⟨fun e t z σ' ω' H' l ok' => ?_, fun _ _ z => z, fun _ _ z => z, fun _ _ z => z⟩ h⟩
  exact ⟨ω', e, t, ok', hb.mon _ _ _ _ (postOf_up l D) z⟩⟩
theorem ss_one (ha : SS X c st a) : SSs X c [st] a := ⟨ha.mon, pss_one ha.run⟩
def wBrk : WS := fun P env tk => P.bk env tk
def wCnt : WS := fun P env tk => P.ct env tk
theorem ss_pass : SS X c (.Pass pos) wNext := ⟨fun P P' env tk l h => l.nx _ _ h, ps_pass.wk fun D σ H ⟨ω, env, tk, ok, h⟩ => h σ ω H (.refl _) ok⟩
theorem ss_brk : SS X c (.Break pos) wBrk := ⟨fun P P' env tk l h => l.bk _ _ h, ps_break.wk fun D σ H ⟨ω, env, tk, ok, h⟩ => h σ ω H (.refl _) ok⟩
theorem ss_cnt : SS X c (.Continue pos) wCnt := ⟨fun P P' env tk l h => l.ct _ _ h, ps_continue.wk fun D σ H ⟨ω, env, tk, ok, h⟩ => h σ ω H (.refl _) ok⟩
/-- a value dropped -/
def wDrop (w : WE) : WS := fun P env tk => w env tk fun _ e t => P.nx e t
theorem ss_drop {w : WE} (h : SE X c e w) (hs : swapsWith e none pos.line X.env = pure false := by rfl) : SS X c (.Expr e pos) (wDrop w) := ⟨fun P P' env tk l q => h.mon _ _ _ _ (fun _ e t z => l.nx _ _ z) q, (ps_expr h.run hs).wk fun D σ H ⟨ω, env, tk, ok, q⟩ =>
  ⟨ω, env, tk, ok, h.mon _ _ _ _ (fun ev e t z v ω' H' st ok' r => z σ ω' H' st.le ok') q⟩⟩
/-- return -/
def wRet (w : WE) : WS := fun P env tk => w env tk fun ev _ t => P.rt ev t
def wRetV (i : Nat) : WS := fun P env tk => match env[i]? with
  | some (some ev) => P.rt ev tk
  | _ => False
theorem ss_ret {w : WE} (h : SE X c e w) : SS X c (.Return (some e) pos) (wRet w) := ⟨fun P P' env tk l q => h.mon _ _ _ _ (fun _ e t z => l.rt _ _ z) q, (ps_ret h.run).wk fun D σ H ⟨ω, env, tk, ok, q⟩ =>
  ⟨ω, env, tk, ok, h.mon _ _ _ _ (fun ev e t z v ω' H' st ok' r => z v ω' H' (ok'.ret r)) q⟩⟩
theorem ss_retV (i : Nat) {x : Str} {pos' : Pos} (h : PE X (.Name x pos') (tVar i)) : SS X c (.Return (some (.Name x pos')) pos) (wRetV i) := ⟨fun P P' env tk l q => by
  unfold wRetV at q ⊢
  split at q
  · exact l.rt _ _ q
  · exact q, (ps_ret h).wk fun D σ H ⟨ω, env, tk, ok, q⟩ => by
  unfold wRetV at q
  split at q
  · rename_i ev he
    obtain ⟨v, h1, h2⟩ := ok.slots i ev he
    exact ⟨v, h1, q v ω H ⟨ok.sub, ok.st, ok.new, ok.ng, ok.fr, ok.le0, by cases ev <;> exact h2⟩⟩
  · exact q.elim⟩
def wRetN : WS := fun P _ tk => P.rt (.val .non) tk
theorem ss_retN : SS X c (.Return none pos) wRetN := ⟨fun P P' env tk l q => l.rt _ _ q, ps_retN.wk fun D σ H ⟨ω, env, tk, ok, q⟩ => q .non ω H (ok.ret (env := env) (ev := .val .non) (show Rep c.K ω .non .non from Rep.non_iff.mpr rfl))⟩
/-- if -/
def wIfS (t : WT) (a b : WS) : WS := fun P env tk => t env tk fun x e1 t1 => if x = true then a P e1 t1 else b P e1 t1
theorem MonS.if {t : WT} {a b : WS} (mt : Mon t) (ma : MonS a) (mb : MonS b) : MonS (wIfS t a b) := fun P P' env tk l h => mt _ _ _ _ (fun x e t z => by
  cases x with
  | true => exact (if_pos rfl).mpr (ma _ _ _ _ l ((if_pos rfl).mp z))
  | false => exact (if_neg Bool.false_ne_true).mpr (mb _ _ _ _ l ((if_neg Bool.false_ne_true).mp z))) h
theorem ss_if {t : WT} {sa sb : List Stmt} (ht : ST X c e t) (ha : SSs X c sa a) (hb : SSs X c sb b) : SS X c (.If e sa sb pos) (wIfS t a b) := ⟨.if ht.mon ha.mon hb.mon, (ps_if ht.run ha.run hb.run).wk fun D σ H ⟨ω, env, tk, ok, q⟩ =>
  ⟨ω, env, tk, ok, ht.mon _ _ _ _ (fun x e1 t1 z v ω' H' st ok' r => by
    subst r
    cases v with
    | true => exact (if_pos rfl).mpr ⟨ω', e1, t1, ok', ha.mon _ _ _ _ (postOf_up st.le D) ((if_pos rfl).mp z)⟩
    | false => exact (if_neg Bool.false_ne_true).mpr ⟨ω', e1, t1, ok', hb.mon _ _ _ _ (postOf_up st.le D) ((if_neg Bool.false_ne_true).mp z)⟩) q⟩⟩
/-- code that is never reached -/
def wNever : WS := fun _ _ _ => False
theorem ss_never : SS X c st wNever := ⟨fun _ _ _ _ _ h => h, ps_never.wk fun D σ H ⟨_, _, _, _, h⟩ => h.elim⟩

/-! #### stores -/
theorem Ok.set {ω : Wd} {H : Hp} {σ : L2.St} {env : En} {tk : Tk} (ok : Ok c ω H σ env tk) (i : Nat) {ev : EV} {v : V} (r : RepE c ω H σ env ev v) : Ok c ω H (σ.set i (some v)) (env.set i (some ev)) tk where
  len := by rw [List.length_set, List.length_set]; exact ok.len
  sub := ok.sub
  st := ok.st
  slots := fun j e he => by
    by_cases hij : i = j
    · subst hij
      by_cases hl : i < env.length
      · rw [List.getElem?_set_self hl] at he
        cases he
        refine ⟨v, by rw [List.getElem?_set_self (by rw [ok.len]; exact hl)], ?_⟩
        cases ev with
        | val d => exact r
        | own ds => obtain ⟨p, a, b, _⟩ := r; exact ⟨p, a, b⟩
        | dct p ds => exact ⟨r.1, r.2.1⟩
      · rw [List.getElem?_eq_none (by rw [List.length_set]; omega)] at he
        cases he
    · rw [List.getElem?_set_ne hij] at he
      rw [List.getElem?_set_ne hij]
      exact ok.slots j e he
  dist := fun j k p ds es hj hk pj pk => by
    by_cases hij : i = j
    · by_cases hik : i = k
      · omega
      · subst hij
        rw [List.getElem?_set_ne hik] at hk pk
        by_cases hl : i < env.length
        · rw [List.getElem?_set_self hl] at hj
          rw [List.getElem?_set_self (by rw [ok.len]; exact hl)] at pj
          cases hj
          cases pj
          obtain ⟨q, e, _, n⟩ := r
          cases e
          exact absurd pk (n k es hk)
        · rw [List.getElem?_eq_none (by rw [List.length_set]; omega)] at hj
          cases hj
    · rw [List.getElem?_set_ne hij] at hj pj
      by_cases hik : i = k
      · subst hik
        by_cases hl : i < env.length
        · rw [List.getElem?_set_self hl] at hk
          rw [List.getElem?_set_self (by rw [ok.len]; exact hl)] at pk
          cases hk
          cases pk
          obtain ⟨q, e, _, n⟩ := r
          cases e
          exact absurd pj (n j ds hj)
        · rw [List.getElem?_eq_none (by rw [List.length_set]; omega)] at hk
          cases hk
      · rw [List.getElem?_set_ne hik] at hk pk
        exact ok.dist j k p ds es hj hk pj pk
  one := fun j k p ds es hj hk => by
    have hl : ∀ {e : EV}, (env.set i (some ev))[i]? = some (some e) → e = ev := fun {e} h => by
      by_cases hl : i < env.length
      · rw [List.getElem?_set_self hl] at h
        cases h; rfl
      · rw [List.getElem?_eq_none (by rw [List.length_set]; omega)] at h
        cases h
    by_cases hij : i = j
    · by_cases hik : i = k
      · omega
      · subst hij
        rw [List.getElem?_set_ne hik] at hk
        have e := hl hj
        subst e
        exact absurd hk (r.2.2 k es)
    · rw [List.getElem?_set_ne hij] at hj
      by_cases hik : i = k
      · subst hik
        have e := hl hk
        subst e
        exact absurd hj (r.2.2 j ds)
      · rw [List.getElem?_set_ne hik] at hk
        exact ok.one j k p ds es hj hk
  new := ok.new
  ng := ok.ng
  fr := ok.fr
  le0 := ok.le0
  pr := ok.pr
def wSet (i : Nat) (w : WE) : WS := fun P env tk => w env tk fun ev e t => P.nx (e.set i (some ev)) t
theorem MonS.set {i : Nat} {w : WE} (m : Mon w) : MonS (wSet i w) := fun P P' env tk l q => m _ _ _ _ (fun _ e t z => l.nx _ _ z) q
theorem run_set {i : Nat} {w : WE} (m : Mon w) {D : Ends} {σ : L2.St} {H : Hp} (h : liftS c (wSet i w) D σ H) : tAsg (liftE c w) (gName i) D σ H := by
  obtain ⟨ω, env, tk, ok, q⟩ := h
  exact ⟨ω, env, tk, ok, m _ _ _ _ (fun ev e t z v ω' H' st ok' r => z _ ω' H' st.le (ok'.set i r)) q⟩
theorem ss_set {i : Nat} {x : Str} {w : WE} {pos' : Pos} (hN : X.N.Nodup) (hi : X.N[i]? = some x) (hx : Loc X.env.scope x) (h : SE X c e w) (hs : swapsWith e (some (.Name x pos')) pos.line X.env = pure false := by rfl) (hf : X.fn x = true ∨ X.env.scope.names.lookup x = some .local := by first | exact .inl rfl | exact .inr rfl | assumption) :
    SS X c (.Assign [.Name x pos'] e pos) (wSet i w) := ⟨.set h.mon, (ps_set hN hi hx h.run hs hf).wk fun _ _ _ q => run_set h.mon q⟩

/-! #### targets -/
abbrev WG := D → En → (En → Prop) → Prop
abbrev WGs := List D → En → (En → Prop) → Prop
def Off (vs : List Nat) (σ σ' : L2.St) : Prop := σ'.length = σ.length ∧ ∀ j, j ∉ vs → σ'[j]? = σ[j]?
theorem Off.set (i : Nat) (v : Option V) (σ : L2.St) : Off [i] σ (σ.set i v) := ⟨List.length_set, fun j h => List.getElem?_set_ne fun e => h (by rw [e]; exact List.mem_singleton.mpr rfl)⟩
theorem Off.refl (vs : List Nat) (σ : L2.St) : Off vs σ σ := ⟨rfl, fun _ _ => rfl⟩
theorem Off.app {vs us : List Nat} {σ σ1 σ2 : L2.St} (a : Off vs σ σ1) (b : Off us σ1 σ2) : Off (vs ++ us) σ σ2 := ⟨b.1.trans a.1, fun j h => (b.2 j fun e => h (List.mem_append_right _ e)).trans (a.2 j fun e => h (List.mem_append_left _ e))⟩
abbrev Offl (vs : List Nat) (e e' : En) : Prop := e'.length = e.length ∧ ∀ j, j ∉ vs → e'[j]? = e[j]?
structure SG (X : Cx) (c : C) (tg : Expr) (t : TG) (g : WG) (vs : List Nat) : Prop where
  mon : ∀ d env Q Q', (∀ e, Q e → Q' e) → g d env Q → g d env Q'
  loc : ∀ d env Q, g d env Q → g d env fun e => Offl vs env e ∧ Q e
  pg : PG X tg t
  run : ∀ (σ : L2.St) (H : Hp) (v : V) (Q : L2.St → Hp → Prop) (ω : Wd) (env : En) (tk : Tk) (d : D), Ok c ω H σ env tk → Rep c.K ω d v → g d env (fun env' => ∀ σ', Off vs σ σ' → Ok c ω H σ' env' tk → Q σ' H) → t v σ H Q
structure SGs (X : Cx) (c : C) (tg : List Expr) (t : TGs) (g : WGs) (vs : List Nat) : Prop where
  mon : ∀ d env Q Q', (∀ e, Q e → Q' e) → g d env Q → g d env Q'
  loc : ∀ d env Q, g d env Q → g d env fun e => Offl vs env e ∧ Q e
  pg : PGs X tg t
  run : ∀ (σ : L2.St) (H : Hp) (v : List V) (Q : L2.St → Hp → Prop) (ω : Wd) (env : En) (tk : Tk) (d : List D), Ok c ω H σ env tk → Reps c.K ω d v → g d env (fun env' => ∀ σ', Off vs σ σ' → Ok c ω H σ' env' tk → Q σ' H) → t v σ H Q
def gN (i : Nat) : WG := fun d env Q => Q (env.set i (some (.val d)))
def gNl : WGs := fun ds env Q => match ds with
  | [] => Q env
  | _ => False
def gCs (g : WG) (h : WGs) : WGs := fun ds env Q => match ds with
  | d :: r => g d env fun e => h r e Q
  | [] => False
def gT (n : Nat) (g : WGs) : WG := fun d env Q => match d with
  | .tup ds => ds.length = n ∧ g ds env Q
  | _ => False
theorem sg_n {i : Nat} {x : Str} (hN : X.N.Nodup) (hi : X.N[i]? = some x) (hx : Loc X.env.scope x) (hf : X.fn x = true ∨ X.env.scope.names.lookup x = some .local := by first | exact .inl rfl | exact .inr rfl | assumption) : SG X c (.Name x pos) (gName i) (gN i) [i] where
  mon := fun d env Q Q' h q => h _ q
  loc := fun d env Q q => ⟨⟨List.length_set, fun j h => List.getElem?_set_ne fun e => h (by rw [e]; exact List.mem_singleton.mpr rfl)⟩, q⟩
  pg := pg_name hN hi hx hf
  run := fun σ H v Q ω env tk d ok r h => h _ (.set i _ σ) (ok.set i (ev := .val d) r)
theorem sg_nil : SGs X c [] gNil gNl [] where
  mon := fun d env Q Q' h q => by cases d <;> first | exact h _ q | exact (show False from q).elim
  loc := fun d env Q q => by cases d <;> first | exact (show False from q).elim | exact ⟨⟨rfl, fun _ _ => rfl⟩, q⟩
  pg := pgs_nil
  run := fun σ H v Q ω env tk d ok r h => by
    cases d with
    | nil => exact ⟨Reps.nil_iff.mp r, h _ (.refl _ _) ok⟩
    | cons d ds => exact (show False from h).elim
theorem sg_cons {tg : Expr} {ts : List Expr} {t : TG} {u : TGs} {g : WG} {h : WGs} {vs us : List Nat} (hg : SG X c tg t g vs) (hh : SGs X c ts u h us) (hs : (assignEach (tg :: ts) X.env).map (·.2) = assign tg X.env :: (assignEach ts X.env).map (·.2) := by rfl) : SGs X c (tg :: ts) (gCons t u) (gCs g h) (vs ++ us) where
  mon := fun d env Q Q' k q => by
    cases d with
    | nil => exact (show False from q).elim
    | cons d ds => exact hg.mon _ _ _ _ (fun e z => hh.mon _ _ _ _ k z) q
  loc := fun d env Q q => by
    cases d with
    | nil => exact (show False from q).elim
    | cons d ds => exact hg.mon _ _ _ _ (fun e z => hh.mon _ _ _ _ (fun e2 z2 => ⟨⟨z2.1.1.trans z.1.1, fun j hj => (z2.1.2 j fun m => hj (List.mem_append_right _ m)).trans (z.1.2 j fun m => hj (List.mem_append_left _ m))⟩, z2.2⟩) (hh.loc _ _ _ z.2)) (hg.loc _ _ _ q)
  pg := pgs_cons hg.pg hh.pg hs
  run := fun σ H v Q ω env tk d ok r q => by
    cases d with
    | nil => exact (show False from q).elim
    | cons d ds =>
      obtain ⟨v0, vr, rfl, a1, a2⟩ := Reps.cons_iff.mp r
      exact ⟨v0, vr, rfl, hg.run σ H v0 _ ω env tk d ok a1 (hg.mon _ _ _ _ (fun e z σ' f1 ok' => hh.run σ' H vr Q ω e tk ds ok' a2 (hh.mon _ _ _ _ (fun e2 z2 σ2 f2 ok2 => z2 σ2 (f1.app f2) ok2) z)) q)⟩
theorem sg_tup {es : List Expr} {k n : Nat} {t : TGs} {g : WGs} {vs : List Nat} (hK : c.K = X.K) (hc : X.calm = true) (hg : SGs X c es t g vs) (hn : (assignEach es X.env).length = n := by rfl) (hst : (assignEach es X.env).findIdx? (·.1) = none := by rfl) : SG X c (.Tuple es k pos) (gTup X.K n t) (gT n g) vs where
  mon := fun d env Q Q' k q => by cases d <;> first | exact (show False from q).elim | exact ⟨q.1, hg.mon _ _ _ _ k q.2⟩
  loc := fun d env Q q => by cases d <;> first | exact (show False from q).elim | exact ⟨q.1, hg.loc _ _ _ q.2⟩
  pg := pg_tup hc hg.pg hn hst
  run := fun σ H v Q ω env tk d ok r q => by
    cases d <;> first | exact (show False from q).elim | skip
    obtain ⟨a, vs, rfl, h1, h2⟩ := Rep.tup_iff.mp r
    rw [hK] at h1
    exact ⟨a, vs, rfl, sqT_mono ok.sub h1.1, by rw [h2.length]; exact q.1, hg.run σ H vs Q ω env tk _ ok h2 q.2⟩
def wAsg (w : WD) (g : WG) : WS := fun P env tk => w env tk fun d e t => g d e fun e' => P.nx e' t
theorem ss_asg {tg : Expr} {w : WD} {t : TG} {g : WG} {vs : List Nat} (h : SD X c e w) (hg : SG X c tg t g vs) (hs : swapsWithSole [tg] e pos.line X.env = pure false := by rfl) (hw : swappedStores [tg] e X.env = pure none := by rfl)
    (h1 : (assignEach [tg] X.env).map (·.2) = [assign tg X.env] := by rfl) : SS X c (.Assign [tg] e pos) (wAsg w g) := by
  refine ⟨fun P P' env tk l q => h.mon _ _ _ _ (fun d e t z => hg.mon _ _ _ _ (fun e' z => l.nx _ _ z) z) q, (ps_asg h.run hg.pg hs hw h1).wk fun D σ H ⟨ω, env, tk, ok, q⟩ => ?_⟩
  refine ⟨ω, env, tk, ok, h.mon _ _ _ _ (fun d e1 t1 z v ω' H' st ok' r => ?_) q⟩
  exact hg.run σ H' v _ ω' e1 t1 d ok' r (hg.mon _ _ _ _ (fun e' z σ' _ ok'' => z σ' ω' H' st.le ok'') z)
/-- a, b = x, y -/
def wPar (i j : Nat) (r : WA) : WS := fun P env tk => r env tk fun ds e t => match ds with
  | [x, y] => P.nx ((e.set i (some (.val x))).set j (some (.val y))) t
  | _ => False
def wPar3 (i j l : Nat) (r : WA) : WS := fun P env tk => r env tk fun ds e t => match ds with
  | [x, y, z] => P.nx (((e.set i (some (.val x))).set j (some (.val y))).set l (some (.val z))) t
  | _ => False
theorem MonS.par {i j : Nat} {r : WA} (m : Mon r) : MonS (wPar i j r) := fun P P' env tk l q => m _ _ _ _ (fun ds e t z => by
  match ds, z with
  | [x, y], z => exact l.nx _ _ z) q
theorem MonS.par3 {i j k : Nat} {r : WA} (m : Mon r) : MonS (wPar3 i j k r) := fun P P' env tk l q => m _ _ _ _ (fun ds e t z => by
  match ds, z with
  | [x, y, w], z => exact l.nx _ _ z) q
theorem run_par {i j : Nat} {r : WA} (m : Mon r) {D : Ends} {σ : L2.St} {H : Hp} (h : liftS c (wPar i j r) D σ H) : tPar i j (liftA c r) D σ H := by
  obtain ⟨ω, env, tk, ok, q⟩ := h
  refine ⟨ω, env, tk, ok, m _ _ _ _ (fun ds e t z vs ω' H' st ok' rr => ?_) q⟩
  match ds, z with
  | [x, y], z =>
    obtain ⟨v0, vr, rfl, a1, a2⟩ := Reps.cons_iff.mp rr
    obtain ⟨v1, vr, rfl, a3, a4⟩ := Reps.cons_iff.mp a2
    rw [Reps.nil_iff] at a4
    subst a4
    exact ⟨v0, v1, rfl, z _ ω' H' st.le ((ok'.set i (ev := .val x) a1).set j (ev := .val y) a3)⟩
theorem run_par3 {i j k : Nat} {r : WA} (m : Mon r) {D : Ends} {σ : L2.St} {H : Hp} (h : liftS c (wPar3 i j k r) D σ H) : tPar3 i j k (liftA c r) D σ H := by
  obtain ⟨ω, env, tk, ok, q⟩ := h
  refine ⟨ω, env, tk, ok, m _ _ _ _ (fun ds e t z vs ω' H' st ok' rr => ?_) q⟩
  match ds, z with
  | [x, y, w], z =>
    obtain ⟨v0, vr, rfl, a1, a2⟩ := Reps.cons_iff.mp rr
    obtain ⟨v1, vr, rfl, a3, a4⟩ := Reps.cons_iff.mp a2
    obtain ⟨v2, vr, rfl, a5, a6⟩ := Reps.cons_iff.mp a4
    rw [Reps.nil_iff] at a6
    subst a6
    exact ⟨v0, v1, v2, rfl, z _ ω' H' st.le (((ok'.set i (ev := .val x) a1).set j (ev := .val y) a3).set k (ev := .val w) a5)⟩
end
end DL

namespace DL
open PySem PySem.Spec PyProof.Rows L2

section
variable {X : Cx} {c : C} {st : Stmt} {rest : List Stmt} {a b : WS} {e : Expr} {pos apos p p2 : Pos} {x : Str}
/-! ### append, extend -/
theorem Ok.mut {ω : Wd} {H : Hp} {σ : L2.St} {env : En} {tk : Tk} (ok : Ok c ω H σ env tk) {i : Nat} {ds es : List D} {q : Addr} {us : List V} (he : env[i]? = some (some (.own ds))) (hp : σ[i]? = some (some (.ref q))) (r : Reps c.K ω es us) :
    Ok c ω (upd H q (.lst us)) σ (env.set i (some (.own es))) tk := by
  obtain ⟨v, hv, q', e, vs, a1, a2, a3, a4, a5⟩ := ok.slots i _ he
  rw [hp] at hv
  cases hv
  cases e
  have hl : i < env.length := (List.getElem?_eq_some_iff.mp he).1
  exact {
    len := by rw [List.length_set]; exact ok.len
    sub := fun b o h => by
      rw [upd_ne (fun e => by rw [e, a2] at h; cases h)]
      exact ok.sub b o h
    st := by
      rcases ok.st with z | ⟨a', k, e, e1, e0, nn, ns, e2, r1, r2⟩
      · exact .inl z
      · exact .inr ⟨a', k, e, e1, e0, nn, ns, by rw [upd_ne (fun z => a3 (by rw [e, z]))]; exact e2, r1, r2⟩
    slots := fun j ev hj => by
      by_cases hij : i = j
      · subst hij
        rw [List.getElem?_set_self hl] at hj
        cases hj
        exact ⟨_, hp, q, rfl, us, upd_same, a2, a3, a4, r⟩
      · rw [List.getElem?_set_ne hij] at hj
        obtain ⟨v, h1, h2⟩ := ok.slots j ev hj
        refine ⟨v, h1, ?_⟩
        cases ev with
        | val d => exact h2
        | own ls =>
          obtain ⟨t, rfl, ws, b1, b2⟩ := h2
          exact ⟨t, rfl, ws, by rw [upd_ne (fun z => hij (ok.dist i j q _ _ he hj hp (by rw [h1, z])))]; exact b1, b2⟩
        | dct t ls =>
          obtain ⟨rfl, ws, b1, b2⟩ := h2
          exact ⟨rfl, ws, by rw [upd_ne (dct_lst b1 a1)]; exact b1, b2⟩
    dist := fun j k t ls ms hj hk pj pk => by
      have g : ∀ (j : Nat) (ls : List D), (env.set i (some (.own es)))[j]? = some (some (.own ls)) → ∃ ls', env[j]? = some (some (.own ls')) := fun j ls h => by
        by_cases hij : i = j
        · subst hij
          exact ⟨ds, he⟩
        · rw [List.getElem?_set_ne hij] at h
          exact ⟨ls, h⟩
      obtain ⟨l1, g1⟩ := g j ls hj
      obtain ⟨l2, g2⟩ := g k ms hk
      exact ok.dist j k t l1 l2 g1 g2 pj pk
    one := fun j k t ls ms hj hk => by
      have g : ∀ (j : Nat) (ls : List (List Int × D)), (env.set i (some (.own es)))[j]? = some (some (.dct t ls)) → env[j]? = some (some (.dct t ls)) := fun j ls h => by
        by_cases hij : i = j
        · subst hij
          rw [List.getElem?_set_self hl] at h
          cases h
        · rw [List.getElem?_set_ne hij] at h
          exact h
      exact ok.one j k t ls ms (g j ls hj) (g k ms hk)
    new := ok.new
    ng := ok.ng
    fr := fun b o h n => by
      rw [upd_ne (ne_of_none h a4.1)]
      exact ok.fr b o h n
    le0 := ok.le0
    pr := fun b h => by
      obtain ⟨h1, h2, h3⟩ := ok.pr b h
      have hq : b ≠ q := fun z => a4.2 (by rw [← z]; exact h)
      exact ⟨by rw [upd_ne hq]; exact h1, h2, h3⟩ }
def wApp (i : Nat) (w : WD) : WS := fun P env tk => match env[i]? with
  | some (some (.own _)) => w env tk fun d e t => match e[i]? with
    | some (some (.own ds)) => ds.length < sizeLine ∧ P.nx (e.set i (some (.own (ds ++ [d])))) t
    | _ => False
  | _ => False
theorem MonS.app {i : Nat} {w : WD} (m : Mon w) : MonS (wApp i w) := fun P P' env tk l q => by
  unfold wApp at q ⊢
  split at q
  · refine m _ _ _ _ (fun d e t z => ?_) q
    split at z
    · exact ⟨z.1, l.nx _ _ z.2⟩
    · exact z
  · exact q
theorem ss_app (i : Nat) {w : WD} (h : PE X (.Name x p) (tVar i)) (hw : SD X c e w) (hline : (apos.endLine == pos.line) = true := by rfl) (hs : starEach [e] X.env = [(false, eval e X.env)] := by rfl)
    (hsw : swapsWith (.Call (.Attribute (.Name x p) "append" apos) [e] [] pos) none p2.line X.env = pure false := by rfl) (hbase : attributeBase (.Name x p) "append" X.env (eval (.Name x p) X.env) = eval (.Name x p) X.env := by rfl)
    (hfew : ((backTo pos (starEach [e] X.env)).all (fun x => !x.1) && (backToKw pos (keywordEach [] X.env)).all (fun x => x.1.isSome)
      && decide (([e] : List Expr).length + ([] : List Keyword).length + (if ([] : List Keyword).isEmpty then 0 else 1) < 30)) = true := by rfl) : SS X c (.Expr (.Call (.Attribute (.Name x p) "append" apos) [e] [] pos) p2) (wApp i w) := by
  refine ⟨.app hw.mon, (ps_expr (pe_bm PySem.F.plainAttrs_list PySem.F.slot_list_append PySem.F.type_list_append mt_append h (pa_cons hw.run pa_nil hs) hbase hfew hline hs rfl) hsw).wk fun D σ H ⟨ω, env, tk, ok, q⟩ => ?_⟩
  unfold wApp at q
  split at q
  · rename_i ds0 he0
    obtain ⟨v, hv, q0, rfl, vs0, a1, a2, a3, a4, a5⟩ := ok.slots i _ he0
    refine ⟨_, hv, .inl ⟨rfl, _, .of a1⟩, ω, env, tk, ok, hw.mon _ _ _ _ (fun d e1 t1 z v ω' H' st ok' r => ?_) q⟩
    split at z
    · rename_i ds he
      obtain ⟨z1, z2⟩ := z
      obtain ⟨v', hv', q1, rfl, vs, b1, b2, b3, b4, b5⟩ := ok'.slots i _ he
      rw [hv] at hv'
      cases hv'
      refine ⟨_, vs, v, rfl, rfl, b1, by rw [b5.length]; exact z1, z2 σ ω' _ st.le (ok'.mut he hv (b5.append (Reps.cons r Reps.nil)))⟩
    · exact z.elim
  · exact q.elim
def wExt (i : Nat) (w : WE) : WS := fun P env tk => match env[i]? with
  | some (some (.own _)) => w env tk fun ev e t => match e[i]?, ev with
    | some (some (.own ds)), .own es => ds.length + es.length ≤ sizeLine ∧ P.nx (e.set i (some (.own (ds ++ es)))) t
    | _, _ => False
  | _ => False
theorem MonS.ext {i : Nat} {w : WE} (m : Mon w) : MonS (wExt i w) := fun P P' env tk l q => by
  unfold wExt at q ⊢
  split at q
  · refine m _ _ _ _ (fun d e t z => ?_) q
    split at z
    · exact ⟨z.1, l.nx _ _ z.2⟩
    · exact z
  · exact q
theorem ss_ext (i : Nat) {w : WE} (h : PE X (.Name x p) (tVar i)) (hw : SE X c e w) (hline : (apos.endLine == pos.line) = true := by rfl) (hs : starEach [e] X.env = [(false, eval e X.env)] := by rfl)
    (hsw : swapsWith (.Call (.Attribute (.Name x p) "extend" apos) [e] [] pos) none p2.line X.env = pure false := by rfl) (hbase : attributeBase (.Name x p) "extend" X.env (eval (.Name x p) X.env) = eval (.Name x p) X.env := by rfl)
    (hfew : ((backTo pos (starEach [e] X.env)).all (fun x => !x.1) && (backToKw pos (keywordEach [] X.env)).all (fun x => x.1.isSome)
      && decide (([e] : List Expr).length + ([] : List Keyword).length + (if ([] : List Keyword).isEmpty then 0 else 1) < 30)) = true := by rfl) : SS X c (.Expr (.Call (.Attribute (.Name x p) "extend" apos) [e] [] pos) p2) (wExt i w) := by
  refine ⟨.ext hw.mon, (ps_expr (pe_bm PySem.F.plainAttrs_list PySem.F.slot_list_extend PySem.F.type_list_extend mt_extend h (pa_cons hw.run pa_nil hs) hbase hfew hline hs rfl) hsw).wk fun D σ H ⟨ω, env, tk, ok, q⟩ => ?_⟩
  unfold wExt at q
  split at q
  · rename_i ds0 he0
    obtain ⟨v, hv, q0, rfl, vs0, a1, a2, a3, a4, a5⟩ := ok.slots i _ he0
    refine ⟨_, hv, .inl ⟨rfl, _, .of a1⟩, ω, env, tk, ok, hw.mon _ _ _ _ (fun d e1 t1 z v ω' H' st ok' r => ?_) q⟩
    split at z
    · rename_i ds es he
      obtain ⟨z1, z2⟩ := z
      obtain ⟨v', hv', q1, rfl, vs, b1, b2, b3, b4, b5⟩ := ok'.slots i _ he
      rw [hv] at hv'
      cases hv'
      obtain ⟨q2, rfl, ⟨us, d1, d2, d3, d4, d5⟩, _⟩ := r
      refine ⟨_, q2, vs, us, rfl, rfl, b1, d1, by rw [b5.length, d5.length]; exact z1, z2 σ ω' _ st.le (ok'.mut he hv (b5.append d5))⟩
    · exact z.elim
  · exact q.elim
/-- a list just made, appended to and dropped -/
def wAppT (w : WE) : WS := fun P env tk => w env tk fun ev e t => match ev with
  | .own ds => ds.length < sizeLine ∧ P.nx e t
  | _ => False
theorem ss_appT {a : Expr} {w : WE} {v : V} (hw : SE X c e w) (hv : PE X a (tC v)) (hline : (apos.endLine == pos.line) = true := by rfl) (hs : starEach [a] X.env = [(false, eval a X.env)] := by rfl)
    (hsw : swapsWith (.Call (.Attribute e "append" apos) [a] [] pos) none p2.line X.env = pure false := by rfl) (hbase : attributeBase e "append" X.env (eval e X.env) = eval e X.env := by rfl)
    (hfew : ((backTo pos (starEach [a] X.env)).all (fun x => !x.1) && (backToKw pos (keywordEach [] X.env)).all (fun x => x.1.isSome)
      && decide (([a] : List Expr).length + ([] : List Keyword).length + (if ([] : List Keyword).isEmpty then 0 else 1) < 30)) = true := by rfl) : SS X c (.Expr (.Call (.Attribute e "append" apos) [a] [] pos) p2) (wAppT w) := by
  refine ⟨fun P P' env tk l q => hw.mon _ _ _ _ (fun ev e t z => by cases ev <;> first | exact (show False from z).elim | exact ⟨z.1, l.nx _ _ z.2⟩) q, (ps_expr (pe_bm PySem.F.plainAttrs_list PySem.F.slot_list_append PySem.F.type_list_append mt_append hw.run (pa_cons hv pa_nil hs) hbase hfew hline hs rfl) hsw).wk fun D σ H ⟨ω, env, tk, ok, q⟩ => ?_⟩
  refine ⟨ω, env, tk, ok, hw.mon _ _ _ _ (fun ev e1 t1 z u ω' H' st ok' r => ?_) q⟩
  cases ev with
  | val d => exact (show False from z).elim
  | dct p kvs => exact (show False from z).elim
  | own ds =>
    obtain ⟨q1, rfl, ⟨vs, b1, b2, b3, b4, b5⟩, hn⟩ := r
    obtain ⟨z1, z2⟩ := z
    refine ⟨.inl ⟨rfl, _, .of b1⟩, q1, vs, v, rfl, rfl, b1, by rw [b5.length]; exact z1, z2 σ ω' _ st.le ?_⟩
    exact {
      len := ok'.len
      sub := fun b o h => by
        rw [upd_ne (fun e => by rw [e, b2] at h; cases h)]
        exact ok'.sub b o h
      st := by
        rcases ok'.st with z | ⟨a', k, e, e1, e0, nn, ns, e2, r1, r2⟩
        · exact .inl z
        · exact .inr ⟨a', k, e, e1, e0, nn, ns, by rw [upd_ne (fun z => b3 (by rw [e, z]))]; exact e2, r1, r2⟩
      slots := fun j ev hj => by
        obtain ⟨v, h1, h2⟩ := ok'.slots j ev hj
        refine ⟨v, h1, ?_⟩
        cases ev with
        | val d => exact h2
        | own ls =>
          obtain ⟨t, rfl, ws, c1, c2⟩ := h2
          exact ⟨t, rfl, ws, by rw [upd_ne (fun z => hn j ls hj (by rw [h1, z]))]; exact c1, c2⟩
        | dct t ls =>
          obtain ⟨rfl, ws, c1, c2⟩ := h2
          exact ⟨rfl, ws, by rw [upd_ne (dct_lst c1 b1)]; exact c1, c2⟩
      dist := ok'.dist
      one := ok'.one
      new := ok'.new
      ng := ok'.ng
      fr := fun b o h n => by
        rw [upd_ne (ne_of_none h b4.1)]
        exact ok'.fr b o h n
      le0 := ok'.le0
      pr := fun b h => by
        obtain ⟨h1, h2, h3⟩ := ok'.pr b h
        have hq : b ≠ q1 := fun z => b4.2 (by rw [← z]; exact h)
        exact ⟨by rw [upd_ne hq]; exact h1, h2, h3⟩ }

/-! ### while -/
def wWhile (t : WT) (b : WS) : WS := fun P env tk => ∃ I : Nat → En → Tk → Prop, (∃ m, I m env tk) ∧ ∀ m e k, I m e k →
  t e k fun x e1 k1 => if x = true then b { P with nx := fun e2 k2 => ∃ m', m' < m ∧ I m' e2 k2, ct := fun e2 k2 => ∃ m', m' < m ∧ I m' e2 k2, bk := P.nx } e1 k1 else P.nx e1 k1
theorem MonS.while {t : WT} {b : WS} (mt : Mon t) (mb : MonS b) : MonS (wWhile t b) := fun P P' env tk l ⟨I, h0, h⟩ => ⟨I, h0, fun m e k hi => mt _ _ _ _ (fun x e1 k1 z => by
  cases x with
  | true => exact (if_pos rfl).mpr (mb _ _ _ _ (by exact ⟨fun _ _ z => z, l.rt, l.nx, fun _ _ z => z⟩) ((if_pos rfl).mp z))
  | false => exact (if_neg Bool.false_ne_true).mpr (l.nx _ _ ((if_neg Bool.false_ne_true).mp z))) (h m e k hi)⟩
theorem ss_while {t : WT} {body : List Stmt} (hp : PassesOwn (model X.prog X.w) X.A X.env X.xe) (ht : ST X c e t) (hb : SSs X c body b) : SS X c (.While e body [] pos) (wWhile t b) := by
  refine ⟨.while ht.mon hb.mon, (ps_while hp ht.run hb.run).wk fun D σ H ⟨ω, env, tk, ok, I, ⟨m0, h0⟩, h⟩ => ?_⟩
  refine ⟨fun m σ H => ∃ ω' e k, ω.le ω' ∧ Ok c ω' H σ e k ∧ I m e k, ⟨m0, ω, env, tk, .refl _, ok, h0⟩, fun m σ H ⟨ω1, e1, k1, l1, ok1, i1⟩ => ?_⟩
  refine ⟨ω1, e1, k1, ok1, ht.mon _ _ _ _ (fun x e2 k2 z v ω2 H2 st ok2 r => ?_) (h m e1 k1 i1)⟩
  subst r
  cases v with
  | true =>
    refine (if_pos rfl).mpr ⟨fun σ' H' => ∃ m', m' < m ∧ ∃ ω' e k, ω.le ω' ∧ Ok c ω' H' σ' e k ∧ I m' e k, fun _ _ z => z, ω2, e2, k2, ok2, hb.mon _ _ _ _ ?_ ((if_pos rfl).mp z)⟩
    have l2 : ω.le ω2 := l1.trans st.le
    exact ⟨fun e t ⟨m', hm, hi⟩ σ' ω' H' l' ok' => ⟨m', hm, ω', e, t, l2.trans l', ok', hi⟩, fun _ _ z => z, fun e t z => liftN_up l2 z, fun e t ⟨m', hm, hi⟩ σ' ω' H' l' ok' => ⟨m', hm, ω', e, t, l2.trans l', ok', hi⟩⟩
  | false => exact (if_neg Bool.false_ne_true).mpr (((if_neg Bool.false_ne_true).mp z) σ ω2 H2 (l1.trans st.le) ok2)

/-! ### what is walked -/
def Src (K : PySem.W.Frag) (ω : Wd) (J : It) (ds : List D) : Prop := ∀ (i : Nat) (ω' : Wd) (H : Hp), ω.le ω' → (∀ b o, ω'.hd b = some o → H b = some o) → (i < ds.length → J.go i H) ∧ (ds.length ≤ i → J.stop i H) ∧ ∀ x H', J.yld i H x H' → H' = H ∧ ∀ d, ds[i]? = some d → Rep K ω' d x
structure SI (X : Cx) (c : C) (tg it : Expr) (wi : TI) (w : WA) : Prop where
  mon : Mon w
  pi : PI X tg it wi
  run : ∀ (σ : L2.St) (H : Hp) (R : It → Hp → Prop), lift c (fun ω _ _ _ ds J => Src c.K ω J ds) w σ H R → wi σ H R
def iSeq (K : PySem.W.Frag) (tl : TE) : TI := fun σ H R => tl σ H fun x H1 => (∃ a, x = .ref a ∧ (∃ xs, SqL K H1 a xs) ∧ R (Itl K a) H1) ∨ (∃ a, x = .ref a ∧ (∃ xs, SqT K H1 a xs) ∧ R (Itt K a) H1)
theorem pi_seq {tg l : Expr} {tl : TE} (hl : PE X l tl) : PI X tg l (iSeq X.K tl) := by
  refine ⟨fun pins s σ H R I h => ?_⟩
  refine thn (hl.run pins s σ H _ I h) fun v s1 ⟨x, H1, I1, r1, q1⟩ => ?_
  rcases q1 with q1 | q1
  · exact (show wpAny _ _ (pyIter v) (PIE X pins σ tg R) X.xe s1 from by
      obtain ⟨a, e, ⟨xs, hq⟩, q⟩ := q1
      subst e
      cases r1
      obtain ⟨its, rv, p, hz⟩ := I1.list hq
      refine wpAny_pyIter_list p.isList ?_
      refine ⟨s1.heap.objs.size, [s1.heap.objs.size], _, _, H1, rfl, I1.kept (t' := s1.toks) fun b o e => Heap.get?_push_of_some _ e, turn_list a _, ⟨_, Heap.get?_push_size _ rfl, rfl, rfl⟩, fun b hb => ?_, q⟩
      have e : b = s1.heap.objs.size := by simpa using hb
      subst e
      exact I1.fpOk (Nat.le_refl _) (I1.hok.fresh (Nat.le_refl _)))
  · obtain ⟨a, e, ⟨xs, hq⟩, q⟩ := q1
    subst e
    cases r1
    obtain ⟨its, rv, p, hz⟩ := I1.tuple hq
    refine wpAny_pyIter_tuple (show s1.heap.IsTuple a its.toArray from p) ?_
    refine ⟨s1.heap.objs.size, [s1.heap.objs.size], _, _, H1, rfl, I1.kept (t' := s1.toks) fun b o e => Heap.get?_push_of_some _ e, turn_tuple a _, ⟨_, Heap.get?_push_size _ rfl, rfl, rfl⟩, fun b hb => ?_, q⟩
    have e : b = s1.heap.objs.size := by simpa using hb
    subst e
    exact I1.fpOk (Nat.le_refl _) (I1.hok.fresh (Nat.le_refl _))
def wSrc (w : WD) : WA := fun env tk Q => w env tk fun d e t => match d with
  | .lst ds => Q ds e t
  | .tup ds => Q ds e t
  | _ => False
theorem Mon.src {w : WD} (m : Mon w) : Mon (wSrc w) := fun env tk Q Q' h q => m _ _ _ _ (fun d e t z => by cases d <;> first | exact (show False from z).elim | exact h _ _ _ z) q
/-- the content is told by the place alone -/
def OneL (K : PySem.W.Frag) (H : Hp) (a : Addr) : Prop := ∀ xs ys, SqL K H a xs → SqL K H a ys → xs = ys
theorem si_seq {tg : Expr} {w : WD} (hK : c.K = X.K) (h : SD X c e w) : SI X c tg e (iSeq X.K (liftD c w)) (wSrc w) := by
  refine ⟨.src h.mon, pi_seq h.run, fun σ H R ⟨ω, env, tk, ok, q⟩ => ?_⟩
  refine ⟨ω, env, tk, ok, h.mon _ _ _ _ (fun d e1 t1 z v ω' H' st ok' r => ?_) q⟩
  cases d <;> first | exact (show False from z).elim | skip
  · obtain ⟨a, vs, rfl, h1, h2⟩ := Rep.tup_iff.mp r
    refine .inr ⟨a, rfl, ⟨vs, by rw [← hK]; exact sqT_mono ok'.sub h1.1⟩, z _ ω' H' st ok' fun i ω2 H2 l sub => ?_⟩
    have h3 : SqT X.K H2 a vs := by rw [← hK]; exact sqT_mono (fun b o h => sub b o (l.hd b o h)) h1.1
    refine ⟨fun hi => ?_, fun hi => ⟨vs, h3, by rw [h2.length]; exact hi⟩, fun x H3 y => ⟨y.1, fun d hd => ?_⟩⟩
    · have hi' : i < vs.length := by rw [h2.length]; exact hi
      exact ⟨vs, vs[i], h3, List.getElem?_eq_getElem hi'⟩
    · obtain ⟨u, hu, ru⟩ := h2.get hd
      have := y.2 vs h3
      rw [hu] at this
      cases this
      exact ru.mono l
  · obtain ⟨a, vs, rfl, h1, h2⟩ := Rep.lst_iff.mp r
    refine .inl ⟨a, rfl, ⟨vs, by rw [← hK]; exact sqL_mono ok'.sub h1⟩, z _ ω' H' st ok' fun i ω2 H2 l sub => ?_⟩
    have h3 : SqL X.K H2 a vs := by rw [← hK]; exact sqL_mono (fun b o h => sub b o (l.hd b o h)) h1
    refine ⟨fun hi => ?_, fun hi => ⟨vs, h3, by rw [h2.length]; exact hi⟩, fun x H3 y => ⟨y.1, fun d hd => ?_⟩⟩
    · have hi' : i < vs.length := by rw [h2.length]; exact hi
      exact ⟨vs, vs[i], h3, List.getElem?_eq_getElem hi'⟩
    · obtain ⟨u, hu, ru⟩ := h2.get hd
      have := y.2 vs h3
      rw [hu] at this
      cases this
      exact ru.mono l
def rngD (lo : Int) (n : Nat) : List D := (List.range n).map fun (i : Nat) => D.int (lo + (i : Int))
theorem src_rng {K : PySem.W.Frag} {ω : Wd} {lo : Int} {n : Nat} : Src K ω (Itr lo n) (rngD lo n) := fun i ω' H l sub => by
  have hl : (rngD lo n).length = n := by unfold rngD; rw [List.length_map, List.length_range]
  rw [hl]
  refine ⟨fun h => h, fun h => h, fun x H' y => ⟨y.1, fun d hd => ?_⟩⟩
  have hi : i < n := by rw [← hl]; exact (List.getElem?_eq_some_iff.mp hd).1
  unfold rngD at hd
  rw [List.getElem?_map, List.getElem?_range hi] at hd
  cases hd
  rw [y.2]
  exact Rep.int_iff.mpr rfl
def wR1 (a : WD) : WA := fun env tk Q => a env tk fun x e t => match x with
  | .int j => -(2 ^ 62) ≤ j ∧ j < 2 ^ 62 ∧ Q (rngD 0 j.toNat) e t
  | _ => False
def wR2 (a b : WD) : WA := fun env tk Q => a env tk fun x e1 t1 => b e1 t1 fun y e2 t2 => match x, y with
  | .int i, .int j => (-(2 ^ 62) ≤ i ∧ i < 2 ^ 62 ∧ -(2 ^ 62) ≤ j ∧ j < 2 ^ 62) ∧ Q (rngD i (j - i).toNat) e2 t2
  | _, _ => False
theorem si_r1 {tg a : Expr} {w : WD} (hg : Gl X "range") (hm : X.mg "range" = none) (h : SP X c a w) (hs : starEach [a] X.env = [(false, eval a X.env)] := by rfl) : SI X c tg (.Call (.Name "range" p) [a] [] pos) (iRng1 (tCons (liftP c w) tNil)) (wR1 w) := by
  refine ⟨fun env tk Q Q' k q => h.mon _ _ _ _ (fun x e t z => by cases x <;> first | exact (show False from z).elim | exact ⟨z.1, z.2.1, k _ _ _ z.2.2⟩) q, pi_range1 hg hm (pa_cons h.run pa_nil hs) hs, fun σ H R ⟨ω, env, tk, ok, q⟩ => ?_⟩
  refine ⟨ω, env, tk, ok, h.mon _ _ _ _ (fun d e1 t1 z v ω' H' st ok' r => ?_) q⟩
  cases d <;> first | exact (show False from z).elim | skip
  exact ⟨_, by rw [r.int], z.1, z.2.1, z.2.2 _ ω' H' st ok' src_rng⟩
theorem si_r2 {tg a b : Expr} {wa wb : WD} (hg : Gl X "range") (hm : X.mg "range" = none) (ha : SP X c a wa) (hb : SP X c b wb) (hs : starEach [a, b] X.env = [(false, eval a X.env), (false, eval b X.env)] := by rfl) (hs2 : starEach [b] X.env = [(false, eval b X.env)] := by rfl) :
    SI X c tg (.Call (.Name "range" p) [a, b] [] pos) (iRng2 (tCons (liftP c wa) (tCons (liftP c wb) tNil))) (wR2 wa wb) := by
  refine ⟨fun env tk Q Q' k q => ha.mon _ _ _ _ (fun x e t z => hb.mon _ _ _ _ (fun y e2 t2 z => by cases x <;> first | exact (show False from z).elim | (cases y <;> first | exact (show False from z).elim | exact ⟨z.1, k _ _ _ z.2⟩)) z) q, pi_range2 hg hm (pa_cons ha.run (pa_cons hb.run pa_nil hs2) (by rw [hs, hs2])) hs hs2, fun σ H R ⟨ω, env, tk, ok, q⟩ => ?_⟩
  refine ⟨ω, env, tk, ok, ha.mon _ _ _ _ (fun d e1 t1 z v ω1 H1 s1 ok1 r1 => ?_) q⟩
  refine ⟨ω1, e1, t1, ok1, hb.mon _ _ _ _ (fun d2 e2 t2 z u ω2 H2 s2 ok2 r2 => ?_) z⟩
  cases d <;> first | exact (show False from z).elim | (cases d2 <;> first | exact (show False from z).elim | skip)
  exact ⟨_, _, by rw [r1.int, r2.int], z.1, z.2 _ ω2 H2 (s1.trans s2) ok2 src_rng⟩

/-! ### for -/
def forGo (g : WG) (b : WS) (P : Post) : List D → En → Tk → Prop
  | [], e, t => P.nx e t
  | d :: ds, e, t => g d e fun e' => b { P with nx := fun e2 t2 => forGo g b P ds e2 t2, ct := fun e2 t2 => forGo g b P ds e2 t2, bk := P.nx } e' t
def wFor (src : WA) (g : WG) (b : WS) : WS := fun P env tk => src env tk fun ds e t => forGo g b P ds e t
theorem forGo_mono {g : WG} {b : WS} (mg : ∀ d env Q Q', (∀ e, Q e → Q' e) → g d env Q → g d env Q') (mb : MonS b) {P P' : Post} (l : P.le P') : ∀ (ds : List D) (e : En) (t : Tk), forGo g b P ds e t → forGo g b P' ds e t
  | [], e, t, h => l.nx _ _ h
  | d :: ds, e, t, h => mg _ _ _ _ (fun e' z => mb { P with nx := fun e2 t2 => forGo g b P ds e2 t2, ct := fun e2 t2 => forGo g b P ds e2 t2, bk := P.nx } _ _ _ ⟨fun e2 t2 z => forGo_mono mg mb l ds e2 t2 z, l.rt, l.nx, fun e2 t2 z => forGo_mono mg mb l ds e2 t2 z⟩ z) h
theorem ss_for {tg it : Expr} {wi : TI} {src : WA} {t : TG} {g : WG} {vs : List Nat} {body : List Stmt} (hp : PassesOwn (model X.prog X.w) X.A X.env X.xe) (hc : X.calm = true) (hi : SI X c tg it wi src) (hg : SG X c tg t g vs) (hb : SSs X c body b)
    (hs : ∀ x, foldedSetIterable it X.env x = pure x := by intro _; rfl) : SS X c (.For tg it body [] pos) (wFor src g b) := by
  refine ⟨fun P P' env tk l q => hi.mon _ _ _ _ (fun ds e t z => forGo_mono hg.mon hb.mon l ds e t z) q, (ps_for hp hc hi.pi hg.pg hb.run hs).wk fun D σ H ⟨ω, env, tk, ok, q⟩ => ?_⟩
  refine hi.run σ H _ ⟨ω, env, tk, ok, hi.mon _ _ _ _ (fun ds e1 t1 z J ω1 H1 st ok1 src => ?_) q⟩
  refine ⟨fun i m σ H => m = ds.length - i ∧ ∃ ω' e t, ω1.le ω' ∧ Ok c ω' H σ e t ∧ forGo g b (postOf c ω D) (ds.drop i) e t, ⟨ds.length, rfl, ω1, e1, t1, .refl _, ok1, z⟩, fun i m σ H ⟨hm, ω2, e2, t2, l2, ok2, z2⟩ => ?_⟩
  obtain ⟨s1, s2, s3⟩ := src i ω2 H l2 ok2.sub
  have l3 : ω.le ω2 := st.le.trans l2
  by_cases hi : i < ds.length
  · refine .inr ⟨s1 hi, fun σ' H' => m = ds.length - i ∧ ∃ ω' e t, ω1.le ω' ∧ Ok c ω' H' σ' e t ∧ forGo g b (postOf c ω D) (ds.drop (i + 1)) e t, fun σ' H' ⟨h1, h2⟩ => ⟨ds.length - (i + 1), by omega, rfl, h2⟩, fun x H' y => ?_⟩
    obtain ⟨rfl, hx⟩ := s3 x H' y
    have hd : ds.drop i = ds[i] :: ds.drop (i + 1) := List.drop_eq_getElem_cons hi
    rw [hd] at z2
    refine hg.run σ H' x _ ω2 e2 t2 ds[i] ok2 (hx _ (List.getElem?_eq_getElem hi)) (hg.mon _ _ _ _ (fun e' z σ' _ ok' => ?_) z2)
    refine ⟨ω2, e', t2, ok', hb.mon { postOf c ω D with nx := fun e2 t2 => forGo g b (postOf c ω D) (ds.drop (i + 1)) e2 t2, ct := fun e2 t2 => forGo g b (postOf c ω D) (ds.drop (i + 1)) e2 t2, bk := (postOf c ω D).nx } _ _ _ ?_ z⟩
    exact ⟨fun e t z σ' ω' H' l ok' => ⟨hm, ω', e, t, l2.trans l, ok', z⟩, fun _ _ z => z, fun e t z => liftN_up l3 z, fun e t z σ' ω' H' l ok' => ⟨hm, ω', e, t, l2.trans l, ok', z⟩⟩
  · refine .inl ⟨s2 (by omega), ?_⟩
    rw [List.drop_eq_nil_of_le (by omega)] at z2
    exact z2 σ ω2 H l3 ok2
end
end DL

namespace DL
open PySem PySem.Spec PyProof.Rows L2

/-! ### a comprehension's block -/
def wipeE (e : En) : List Nat → En
  | [] => e
  | v :: vs => (wipeE e vs).set v none
theorem wipeE_len (e : En) : ∀ vs : List Nat, (wipeE e vs).length = e.length
  | [] => rfl
  | v :: vs => by unfold wipeE; rw [List.length_set, wipeE_len e vs]
theorem wipeE_out {e : En} {i : Nat} : ∀ {vs : List Nat}, i ∉ vs → (wipeE e vs)[i]? = e[i]?
  | [], _ => rfl
  | v :: vs, h => by
    unfold wipeE
    rw [List.getElem?_set_ne (fun q => h (by rw [q]; exact List.mem_cons_self)), wipeE_out fun q => h (List.mem_cons_of_mem _ q)]
theorem wipeE_in {e : En} {i : Nat} : ∀ {vs : List Nat}, i ∈ vs → ∀ x, (wipeE e vs)[i]? ≠ some (some x)
  | v :: vs, h, x, q => by
    unfold wipeE at q
    by_cases hv : v = i
    · subst hv
      by_cases hl : v < (wipeE e vs).length
      · rw [List.getElem?_set_self hl] at q; cases q
      · rw [List.getElem?_eq_none (by rw [List.length_set]; omega)] at q; cases q
    · rw [List.getElem?_set_ne hv] at q
      exact wipeE_in (by rcases List.mem_cons.mp h with z | z; exact absurd z.symm hv; exact z) x q
theorem wipe_in {σ : L2.St} {i : Nat} : ∀ {vs : List Nat}, i ∈ vs → (wipe σ vs)[i]? = if i < σ.length then some none else none
  | v :: vs, h => by
    unfold wipe
    by_cases hv : v = i
    · subst hv
      by_cases hl : v < σ.length
      · rw [List.getElem?_set_self (by rw [wipe_length]; exact hl), if_pos hl]
      · rw [List.getElem?_eq_none (by rw [List.length_set, wipe_length]; omega), if_neg hl]
    · rw [List.getElem?_set_ne hv]
      exact wipe_in (by rcases List.mem_cons.mp h with z | z; exact absurd z.symm hv; exact z)
theorem wipe_off {σ : L2.St} {i : Nat} : ∀ {vs : List Nat}, i ∉ vs → (wipe σ vs)[i]? = σ[i]?
  | [], _ => rfl
  | v :: vs, h => by
    unfold wipe
    rw [List.getElem?_set_ne (fun q => h (by rw [q]; exact List.mem_cons_self)), wipe_off fun q => h (List.mem_cons_of_mem _ q)]
theorem wipe_same {σ σ2 : L2.St} {us vs : List Nat} (h : Off us (wipe σ vs) σ2) (hs : ∀ i ∈ us, i ∈ vs) : wipe σ2 vs = wipe σ vs := by
  refine List.ext_getElem? fun i => ?_
  have hl : σ2.length = σ.length := h.1.trans (wipe_length σ vs)
  by_cases hi : i ∈ vs
  · rw [wipe_in hi, wipe_in hi, hl]
  · rw [wipe_off hi, h.2 i (fun q => hi (hs i q))]
theorem Ok.wipe {c : C} {ω : Wd} {H : Hp} {σ : L2.St} {env : En} {tk : Tk} (ok : Ok c ω H σ env tk) (vs : List Nat) : Ok c ω H (L2.wipe σ vs) (wipeE env vs) tk where
  len := by rw [wipe_length, wipeE_len]; exact ok.len
  sub := ok.sub
  st := ok.st
  slots := fun i e he => by
    by_cases hi : i ∈ vs
    · exact absurd he (wipeE_in hi e)
    · rw [wipeE_out hi] at he
      rw [wipe_off hi]
      exact ok.slots i e he
  dist := fun i j p ds es a b x y => by
    by_cases hi : i ∈ vs
    · exact absurd a (wipeE_in hi _)
    · by_cases hj : j ∈ vs
      · exact absurd b (wipeE_in hj _)
      · rw [wipeE_out hi] at a
        rw [wipeE_out hj] at b
        rw [wipe_off hi] at x
        rw [wipe_off hj] at y
        exact ok.dist i j p ds es a b x y
  one := fun i j p ds es a b => by
    by_cases hi : i ∈ vs
    · exact absurd a (wipeE_in hi _)
    · by_cases hj : j ∈ vs
      · exact absurd b (wipeE_in hj _)
      · rw [wipeE_out hi] at a
        rw [wipeE_out hj] at b
        exact ok.one i j p ds es a b
  new := ok.new
  ng := ok.ng
  fr := ok.fr
  le0 := ok.le0
  pr := ok.pr
/-- back from a block -/
theorem Ok.back {c : C} {ω ω' : Wd} {H H' : Hp} {σ σ2 : L2.St} {env e2 : En} {tk tk' : Tk} (ok : Ok c ω H σ env tk) (ok2 : Ok c ω' H' σ2 e2 tk') (l : ω.le ω') {vs : List Nat} (h1 : ∀ j, j ∉ vs → e2[j]? = env[j]?) (h2 : ∀ j, j ∉ vs → σ2[j]? = σ[j]?)
    (ho : ∀ j ∈ vs, (∀ ds, env[j]? ≠ some (some (.own ds))) ∧ ∀ p ds, env[j]? ≠ some (some (.dct p ds))) : Ok c ω' H' σ env tk' where
  len := ok.len
  sub := ok2.sub
  st := ok2.st
  slots := fun i e he => by
    cases e with
    | val d =>
      obtain ⟨v, g1, g2⟩ := ok.slots i _ he
      exact ⟨v, g1, Rep.mono l g2⟩
    | own ds =>
      have hi : i ∉ vs := fun q => (ho i q).1 ds he
      obtain ⟨v, g1, g2⟩ := ok2.slots i (.own ds) (by rw [h1 i hi]; exact he)
      exact ⟨v, by rw [← h2 i hi]; exact g1, g2⟩
    | dct p ds =>
      have hi : i ∉ vs := fun q => (ho i q).2 p ds he
      obtain ⟨v, g1, g2⟩ := ok2.slots i (.dct p ds) (by rw [h1 i hi]; exact he)
      exact ⟨v, by rw [← h2 i hi]; exact g1, g2⟩
  dist := ok.dist
  one := ok.one
  new := ok2.new
  ng := ok2.ng
  fr := ok2.fr
  le0 := ok2.le0
  pr := ok2.pr
/-- one place is held: it is not given away -/
abbrev C.hold (c : C) (D : Addr) : C := { c with pr := fun b => c.pr b ∨ b = D }
theorem Ok.hold {c : C} {ω : Wd} {H : Hp} {σ : L2.St} {env : En} {tk : Tk} {D : Addr} (ok : Ok c ω H σ env tk) (n : H D = none) (o : HO) : Ok (c.hold D) ω (upd H D o) σ env tk := by
  have ok' := ok.newL n o
  exact {
    len := ok'.len
    sub := ok'.sub
    st := ok'.st
    slots := fun i e he => by
      obtain ⟨v, g1, g2⟩ := ok'.slots i e he
      refine ⟨v, g1, ?_⟩
      cases e with
      | val d => exact g2
      | own ds =>
        obtain ⟨p, rfl, us, a1, a2, a3, a4, a5⟩ := g2
        refine ⟨p, rfl, us, a1, a2, a3, ⟨a4.1, fun q => ?_⟩, a5⟩
        rcases q with q | q
        · exact a4.2 q
        · subst q
          exact ok.noslot (.inl n) i ds he g1
      | dct p ds =>
        obtain ⟨rfl, us, a1, a2, a3, a4, a5⟩ := g2
        refine ⟨rfl, us, a1, a2, a3, ⟨a4.1, fun q => ?_⟩, a5⟩
        rcases q with q | q
        · exact a4.2 q
        · subst q
          obtain ⟨v', k1, k2, us', b1, _⟩ := ok.slots i _ he
          rw [n] at b1
          cases b1
    dist := ok'.dist
    one := ok'.one
    new := ok'.new
    ng := ok'.ng
    fr := ok'.fr
    le0 := ok'.le0
    pr := fun b q => by
      rcases q with q | q
      · exact ok'.pr b q
      · subst q
        exact ⟨by rw [upd_same]; exact fun z => (nomatch z), ok.nohd n, ok.nog n⟩ }
theorem Ok.unhold {c : C} {ω : Wd} {H : Hp} {σ : L2.St} {env : En} {tk : Tk} {D : Addr} (ok : Ok (c.hold D) ω H σ env tk) : Ok c ω H σ env tk where
  len := ok.len
  sub := ok.sub
  st := ok.st
  slots := fun i e he => by
    obtain ⟨v, g1, g2⟩ := ok.slots i e he
    refine ⟨v, g1, ?_⟩
    cases e with
    | val d => exact g2
    | own ds =>
      obtain ⟨p, rfl, us, a1, a2, a3, a4, a5⟩ := g2
      exact ⟨p, rfl, us, a1, a2, a3, ⟨a4.1, fun q => a4.2 (.inl q)⟩, a5⟩
    | dct p ds =>
      obtain ⟨rfl, us, a1, a2, a3, a4, a5⟩ := g2
      exact ⟨rfl, us, a1, a2, a3, ⟨a4.1, fun q => a4.2 (.inl q)⟩, a5⟩
  dist := ok.dist
  one := ok.one
  new := ok.new
  ng := ok.ng
  fr := ok.fr
  le0 := ok.le0
  pr := fun b q => ok.pr b (.inl q)
/-- the held place may turn -/
theorem Ok.turnP {c : C} {ω : Wd} {H : Hp} {σ : L2.St} {env : En} {tk : Tk} {D : Addr} (ok : Ok (c.hold D) ω H σ env tk) (n0 : c.H0 D = none) (o : HO) : Ok (c.hold D) ω (upd H D o) σ env tk := by
  obtain ⟨p1, p2, p3⟩ := ok.pr D (.inr rfl)
  exact {
    len := ok.len
    sub := fun b u h => by
      rw [upd_ne (fun e => by rw [e, p2] at h; cases h)]
      exact ok.sub b u h
    st := by
      rcases ok.st with z | ⟨a', k, e, e1, e0, nn, ns, e2, r1, r2⟩
      · exact .inl z
      · exact .inr ⟨a', k, e, e1, e0, nn, ns, by rw [upd_ne (fun z => p3 (by rw [e, z]))]; exact e2, r1, r2⟩
    slots := fun i e he => by
      obtain ⟨v, g1, g2⟩ := ok.slots i e he
      refine ⟨v, g1, ?_⟩
      cases e with
      | val d => exact g2
      | own ds =>
        obtain ⟨p, rfl, us, a1, a2, a3, a4, a5⟩ := g2
        exact ⟨p, rfl, us, by rw [upd_ne (fun z => a4.2 (.inr z))]; exact a1, a2, a3, a4, a5⟩
      | dct p ds =>
        obtain ⟨rfl, us, a1, a2, a3, a4, a5⟩ := g2
        exact ⟨rfl, us, by rw [upd_ne (fun z => a4.2 (.inr z))]; exact a1, a2, a3, a4, a5⟩
    dist := ok.dist
    one := ok.one
    new := ok.new
    ng := ok.ng
    fr := fun b u h n => by
      rw [upd_ne (ne_of_none h n0)]
      exact ok.fr b u h n
    le0 := ok.le0
    pr := fun b q => by
      obtain ⟨a1, a2, a3⟩ := ok.pr b q
      refine ⟨?_, a2, a3⟩
      by_cases hb : b = D
      · subst hb
        rw [upd_same]
        exact fun z => nomatch z
      · rw [upd_ne hb]; exact a1 }

/-! ### [elt for tg in it if ..] -/
structure STs (X : Cx) (c : C) (ifs : List Expr) (w : WT) : Prop where
  mon : Mon w
  run : PTs X ifs (liftT c w)
def wYes : WT := fun env tk Q => Q true env tk
theorem _root_.L2.PTs.wk {X : Cx} {e : List Expr} {t t' : TT} (h : PTs X e t) (k : ∀ σ H Q, t' σ H Q → t σ H Q) : PTs X e t' := ⟨fun pins s σ H Q I q => h.run pins s σ H Q I (k _ _ _ q)⟩
theorem sts_nil {X : Cx} {c : C} : STs X c [] wYes := ⟨fun _ _ _ _ h q => h _ _ _ q, pts_nil.wk fun σ H Q ⟨ω, env, tk, ok, h⟩ => h _ ω H (.refl _ _) ok rfl⟩
theorem sts_one {X : Cx} {c : C} {e : Expr} {w : WT} (h : ST X c e w) : STs X c [e] w := ⟨h.mon, pts_one h.run⟩
def lcGo (g : WG) (cond : WT) (elt : WE) (vs : List Nat) (env : En) : List D → List D → Tk → (List D → Tk → Prop) → Prop
  | [], acc, tk, K => K acc tk
  | d :: ds, acc, tk, K => g d (wipeE env vs) fun e1 => cond e1 tk fun b e2 t2 => e2 = e1 ∧
      if b = true then elt e1 t2 fun ev e3 t3 => e3 = e1 ∧ acc.length < sizeLine ∧ lcGo g cond elt vs env ds (acc ++ [ev.d]) t3 K else lcGo g cond elt vs env ds acc t2 K
def noOwn (env : En) (vs : List Nat) : Bool := vs.all fun v => match env[v]? with
  | some (some (.own _)) => false
  | some (some (.dct _ _)) => false
  | _ => true
theorem noOwn_at {env : En} {vs : List Nat} (h : noOwn env vs = true) : ∀ j ∈ vs, (∀ ds, env[j]? ≠ some (some (.own ds))) ∧ ∀ p ds, env[j]? ≠ some (some (.dct p ds)) := fun j hj => by
  have q := List.all_eq_true.mp h j hj
  refine ⟨fun ds e => ?_, fun p ds e => ?_⟩
  · rw [e] at q
    cases q
  · rw [e] at q
    cases q
def wLc (src : WA) (g : WG) (cond : WT) (elt : WE) (vs : List Nat) : WE := fun env tk Q => src env tk fun ds e t => noOwn e vs = true ∧ lcGo g cond elt vs e ds [] t fun acc t' => Q (.own acc) e t'
theorem lcGo_mono {g : WG} {cond : WT} {elt : WE} {vs : List Nat} {env : En} (mg : ∀ d env Q Q', (∀ e, Q e → Q' e) → g d env Q → g d env Q') (mc : Mon cond) (me : Mon elt) {K K' : List D → Tk → Prop} (h : ∀ a t, K a t → K' a t) :
    ∀ (ds acc : List D) (tk : Tk), lcGo g cond elt vs env ds acc tk K → lcGo g cond elt vs env ds acc tk K'
  | [], acc, tk, z => h _ _ z
  | d :: ds, acc, tk, z => mg _ _ _ _ (fun e1 z => mc _ _ _ _ (fun b e2 t2 z => ⟨z.1, by
    cases b with
    | true => exact (if_pos rfl).mpr (me _ _ _ _ (fun ev e3 t3 z => ⟨z.1, z.2.1, lcGo_mono mg mc me h ds _ t3 z.2.2⟩) ((if_pos rfl).mp z.2))
    | false => exact (if_neg Bool.false_ne_true).mpr (lcGo_mono mg mc me h ds acc t2 ((if_neg Bool.false_ne_true).mp z.2))⟩) z) z
/-- a reading that may choose -/
theorem pe_ex {X : Cx} {e : Expr} {α : Type} {t : α → TE} (h : ∀ a, PE X e (t a)) : PE X e fun σ H Q => ∃ a, t a σ H Q := ⟨fun pins s σ H Q I ⟨a, q⟩ => (h a).run pins s σ H Q I q⟩
theorem pts_ex {X : Cx} {e : List Expr} {α : Type} {t : α → TT} (h : ∀ a, PTs X e (t a)) : PTs X e fun σ H Q => ∃ a, t a σ H Q := ⟨fun pins s σ H Q I ⟨a, q⟩ => (h a).run pins s σ H Q I q⟩
section
variable {X : Cx} {c : C}
abbrev cxb (X : Cx) (scope : Scope) (s : Shared) (H : Hp) (C : Addr) (cl : List (Str × Addr)) (fp : List Addr) : Cx := X.blk s H scope (compEnvC scope cl C X.env) fp
/-- the turns of one clause; L: the new list -/
theorem lc_turns {J : It} {t : TG} {g : WG} {cond : WT} {elt : WE} {vs us : List Nat} {σ : L2.St} {Qd : Hp → Prop} {ω1 : Wd} {H1 : Hp} {e1 : En} {t1 : Tk} {L : Addr} {ds : List D}
    (ok1 : Ok c ω1 H1 σ e1 t1) (src : Src c.K ω1 J ds) (hL : H1 L = none) (hus : ∀ i ∈ us, i ∈ vs) (hno : noOwn e1 vs = true)
    (mg : ∀ d env Q Q', (∀ e, Q e → Q' e) → g d env Q → g d env Q') (lg : ∀ d env Q, g d env Q → g d env fun e => Offl us env e ∧ Q e)
    (rg : ∀ c' : C, c'.K = c.K → ∀ (σ : L2.St) (H : Hp) (v : V) (Q : L2.St → Hp → Prop) (ω : Wd) (env : En) (tk : Tk) (d : D), Ok c' ω H σ env tk → Rep c'.K ω d v → g d env (fun env' => ∀ σ', Off us σ σ' → Ok c' ω H σ' env' tk → Q σ' H) → t v σ H Q)
    (mc : Mon cond) (me : Mon elt) {K : List D → Tk → Prop} (z : lcGo g cond elt vs e1 ds [] t1 K) (hK : ∀ acc t' ω' H' (us : List V), K acc t' → Stp ω1 H1 ω' H' → Ok (c.hold L) ω' H' σ e1 t' → H' L = some (.lst us) → Reps c.K ω' acc us → Qd H') :
    ∃ W : Nat → Nat → Hp → Prop, (∃ m, W 0 m (upd H1 L (.lst []))) ∧ ∀ i m H, W i m H →
      (J.stop i H ∧ Qd H) ∨ (J.go i H ∧ ∃ Nx : Hp → Prop, (∀ H', Nx H' → ∃ m', m' < m ∧ W (i + 1) m' H') ∧ ∀ x H', J.yld i H x H' → t x (wipe σ vs) H' fun σ2 H2 => wipe σ2 vs = wipe σ vs ∧ (fun σ H Q => ∃ L, liftT (c.hold L) cond σ H Q) σ2 H2 fun b H3 =>
        if b = true then (fun σ H Q => ∃ L, liftE (c.hold L) elt σ H Q) σ2 H3 fun y H4 => ∃ acc, H4 L = some (.lst acc) ∧ acc.length < sizeLine ∧ Nx (upd H4 L (.lst (acc ++ [y]))) else Nx H3) := by
  have n0 : c.H0 L = none := ok1.noH0 hL
  have hown := noOwn_at hno
  refine ⟨fun i m H => m = ds.length - i ∧ ∃ ω' t' acc us, Stp ω1 H1 ω' H ∧ Ok (c.hold L) ω' H σ e1 t' ∧ H L = some (.lst us) ∧ Reps c.K ω' acc us ∧ lcGo g cond elt vs e1 (ds.drop i) acc t' K, ⟨ds.length, rfl, ω1, t1, [], [], .newL hL _, ok1.hold hL _, upd_same, .nil, z⟩, fun i m H ⟨hm, ω2, t2, acc, us2, s2, ok2, hl2, r2, z2⟩ => ?_⟩
  obtain ⟨j1, j2, j3⟩ := src i ω2 H s2.le ok2.sub
  by_cases hi : i < ds.length
  · refine .inr ⟨j1 hi, fun H => m = ds.length - i ∧ ∃ ω' t' acc us, Stp ω1 H1 ω' H ∧ Ok (c.hold L) ω' H σ e1 t' ∧ H L = some (.lst us) ∧ Reps c.K ω' acc us ∧ lcGo g cond elt vs e1 (ds.drop (i + 1)) acc t' K, fun H' ⟨_, h⟩ => ⟨ds.length - (i + 1), by omega, rfl, h⟩, fun x H' y => ?_⟩
    obtain ⟨rfl, hx⟩ := j3 x H' y
    have hd : ds.drop i = ds[i] :: ds.drop (i + 1) := List.drop_eq_getElem_cons hi
    rw [hd] at z2
    refine rg (c.hold L) rfl (wipe σ vs) H' x _ ω2 (wipeE e1 vs) t2 ds[i] (ok2.wipe vs) (hx _ (List.getElem?_eq_getElem hi)) (mg _ _ _ _ (fun e3 ⟨ofl, z3⟩ σ3 off ok3 => ?_) (lg _ _ _ z2))
    have c1 : ∀ j, j ∉ vs → e3[j]? = e1[j]? := fun j h => (ofl.2 j fun q => h (hus j q)).trans (wipeE_out h)
    have c2 : ∀ j, j ∉ vs → σ3[j]? = σ[j]? := fun j h => (off.2 j fun q => h (hus j q)).trans (wipe_off h)
    refine ⟨wipe_same off hus, L, ω2, e3, t2, ok3, mc _ _ _ _ (fun b e4 t4 z4 b' ω4 H4 s4 ok4 hb => ?_) z3⟩
    subst hb
    obtain ⟨rfl, z4⟩ := z4
    have hg2 : ω2.g ≠ some L := (ok2.pr L (.inr rfl)).2.2
    have hl4 : H4 L = some (.lst us2) := s4.fr L _ hl2 hg2
    cases b' with
    | false =>
      refine (if_neg Bool.false_ne_true).mpr ⟨hm, ω4, t4, acc, us2, s2.trans s4, ok2.back ok4 s4.le c1 c2 hown, hl4, r2.mono s4.le, (if_neg Bool.false_ne_true).mp z4⟩
    | true =>
      refine (if_pos rfl).mpr ⟨L, ω4, e4, t4, ok4, me _ _ _ _ (fun ev e5 t5 z5 y ω5 H5 s5 ok5 r5 => ?_) ((if_pos rfl).mp z4)⟩
      obtain ⟨rfl, zl, z5⟩ := z5
      obtain ⟨ω6, ok6, s6, r6⟩ := give ok5 r5
      have hg4 : ω4.g ≠ some L := (ok4.pr L (.inr rfl)).2.2
      have hl5 : H5 L = some (.lst us2) := s5.fr L _ hl4 hg4
      have s26 : Stp ω2 H' ω6 H5 := (s4.trans s5).trans s6
      have ok7 : Ok (c.hold L) ω6 H5 σ e1 t5 := ok2.back ok6 s26.le c1 c2 hown
      refine ⟨us2, hl5, by rw [r2.length]; exact zl, hm, ω6, t5, acc ++ [ev.d], us2 ++ [y], ⟨(s2.trans s26).le, fun b o h n => ?_, (s2.trans s26).ng⟩, ok7.turnP n0 _, upd_same, (r2.mono s26.le).append (Reps.cons r6 Reps.nil), z5⟩
      rw [upd_ne (ne_of_none h hL)]
      exact (s2.trans s26).fr b o h n
  · refine .inl ⟨j2 (by omega), ?_⟩
    rw [List.drop_eq_nil_of_le (by omega)] at z2
    exact hK acc t2 ω2 H us2 z2 s2 ok2 hl2 r2
theorem run_lc {tg it : Expr} {wi : TI} {src : WA} {t : TG} {g : WG} {cond : WT} {elt : WE} {vs us : List Nat} (hi : SI X c tg it wi src) (hus : ∀ i ∈ us, i ∈ vs)
    (mg : ∀ d env Q Q', (∀ e, Q e → Q' e) → g d env Q → g d env Q') (lg : ∀ d env Q, g d env Q → g d env fun e => Offl us env e ∧ Q e)
    (rg : ∀ c' : C, c'.K = c.K → ∀ (σ : L2.St) (H : Hp) (v : V) (Q : L2.St → Hp → Prop) (ω : Wd) (env : En) (tk : Tk) (d : D), Ok c' ω H σ env tk → Rep c'.K ω d v → g d env (fun env' => ∀ σ', Off us σ σ' → Ok c' ω H σ' env' tk → Q σ' H) → t v σ H Q)
    (mc : Mon cond) (me : Mon elt) {σ : L2.St} {H : Hp} {Q : VK} (h : liftE c (wLc src g cond elt vs) σ H Q) : tLc wi t (fun σ H Q => ∃ L, liftT (c.hold L) cond σ H Q) (fun σ H Q => ∃ L, liftE (c.hold L) elt σ H Q) vs σ H Q := by
  obtain ⟨ω, env, tk, ok, q⟩ := h
  refine hi.run σ H _ ⟨ω, env, tk, ok, hi.mon _ _ _ _ (fun ds e1 t1 z J ω1 H1 st ok1 src L hL => ?_) q⟩
  refine lc_turns ok1 src hL hus z.1 mg lg rg mc me z.2 fun acc t' ω' H' us' k s ok' hl r => ?_
  obtain ⟨p1, p2, p3⟩ := ok'.pr L (.inr rfl)
  exact k _ ω' H' (st.trans s) ok'.unhold ⟨L, rfl, ⟨us', hl, p2, p3, ⟨ok1.noH0 hL, ok1.nopr hL⟩, r⟩, fun i es he hp => by
    obtain ⟨v, g1, q, rfl, vs, a1, a2, a3, a4, a5⟩ := ok'.slots i _ he
    rw [hp] at g1
    cases g1
    exact a4.2 (.inr rfl)⟩
structure SLc (X : Cx) (c : C) (scope : Scope) (own : List (Str × Nat)) (tg : Expr) (t : TG) (g : WG) (us : List Nat) (ifs : List Expr) (cond : WT) (elt : Expr) (w : WE) : Prop where
  ok : BlkOk X.N X.env.scope scope own
  tgt : ∀ (c' : C) (hK : c'.K = c.K) (s : Shared) (H : Hp) (C : Addr) (cl : List (Str × Addr)) (fp : List Addr), SG (cxb X scope s H C cl fp) c' tg t g us
  ifs : ∀ (c' : C) (hK : c'.K = c.K) (s : Shared) (H : Hp) (C : Addr) (cl : List (Str × Addr)) (fp : List Addr), STs (cxb X scope s H C cl fp) c' ifs cond
  elt : ∀ (c' : C) (hK : c'.K = c.K) (s : Shared) (H : Hp) (C : Addr) (cl : List (Str × Addr)) (fp : List Addr), SE (cxb X scope s H C cl fp) c' elt w
  sub : ∀ i ∈ us, i ∈ own.map (·.2)
theorem Mon.lc {src : WA} {g : WG} {cond : WT} {elt : WE} {vs : List Nat} (ms : Mon src) (mg : ∀ d env Q Q', (∀ e, Q e → Q' e) → g d env Q → g d env Q') (mc : Mon cond) (me : Mon elt) : Mon (wLc src g cond elt vs) := fun env tk Q Q' h q =>
  ms _ _ _ _ (fun ds e t z => ⟨z.1, lcGo_mono mg mc me (fun a t' z => h _ _ _ z) ds [] t z.2⟩) q
variable {tg it elt : Expr} {ifs : List Expr} {scope : Scope} {own : List (Str × Nat)} {pos : Pos} {wi : TI} {src : WA} {t : TG} {g : WG} {cond : WT} {w : WE} {us : List Nat}
theorem se_lc (s0 : Shared) (hc : X.calm = true) (hN : X.N.Nodup) (hi : SI X c tg it wi src) (h : SLc X c scope own tg t g us ifs cond elt w) (hs : ∀ x, foldedSetIterable it X.env x = pure x := by intro _; rfl) :
    SE X c (.ListComp elt [⟨tg, it, ifs, 0⟩] scope pos) (wLc src g cond w (own.map (·.2))) := by
  have g0 := h.tgt c rfl s0 (fun _ => none) 0 [] []
  have c0 := h.ifs c rfl s0 (fun _ => none) 0 [] []
  have e0 := h.elt c rfl s0 (fun _ => none) 0 [] []
  refine ⟨.lc hi.mon g0.mon c0.mon e0.mon, (pe_lc hc hN hi.pi h.ok (fun s H C cl fp => (h.tgt c rfl s H C cl fp).pg) (fun s H C cl fp => pts_ex fun L => (h.ifs (c.hold L) rfl s H C cl fp).run) (fun s H C cl fp => pe_ex fun L => (h.elt (c.hold L) rfl s H C cl fp).run) hs).wk fun σ H Q q => ?_⟩
  exact run_lc hi h.sub g0.mon g0.loc (fun c' hK => (h.tgt c' hK s0 (fun _ => none) 0 [] []).run) c0.mon e0.mon q
theorem ss_setLc {i : Nat} {y : Str} {py spos : Pos} (s0 : Shared) (hc : X.calm = true) (hN : X.N.Nodup) (hy : X.N[i]? = some y) (hyl : X.env.scope.names.lookup y = some .local)
    (hsw : swapsWith (.ListComp elt [⟨tg, it, ifs, 0⟩] scope pos) (some (.Name y py)) spos.line X.env = pure true) (hi : SI X c tg it wi src) (h : SLc X c scope own tg t g us ifs cond elt w) (hs : ∀ x, foldedSetIterable it X.env x = pure x := by intro _; rfl) :
    SS X c (.Assign [.Name y py] (.ListComp elt [⟨tg, it, ifs, 0⟩] scope pos) spos) (wSet i (wLc src g cond w (own.map (·.2)))) := by
  have g0 := h.tgt c rfl s0 (fun _ => none) 0 [] []
  have c0 := h.ifs c rfl s0 (fun _ => none) 0 [] []
  have e0 := h.elt c rfl s0 (fun _ => none) 0 [] []
  have m : Mon (wLc src g cond w (own.map (·.2))) := .lc hi.mon g0.mon c0.mon e0.mon
  refine ⟨.set m, (ps_setLc hc hN hy hyl hsw hi.pi h.ok (fun s H C cl fp => (h.tgt c rfl s H C cl fp).pg) (fun s H C cl fp => pts_ex fun L => (h.ifs (c.hold L) rfl s H C cl fp).run) (fun s H C cl fp => pe_ex fun L => (h.elt (c.hold L) rfl s H C cl fp).run) hs).wk fun D σ H q => ?_⟩
  exact run_lc hi h.sub g0.mon g0.loc (fun c' hK => (h.tgt c' hK s0 (fun _ => none) 0 [] []).run) c0.mon e0.mon (run_set m q)
end

/-! ### a def -/
def start (n : Nat) (ds : List D) : En := ds.map (fun d => some (.val d)) ++ List.replicate (n - ds.length) none
theorem slots_start {c : C} {ω : Wd} {H : Hp} : ∀ {ds : List D} {vs : List V} {n i : Nat} {e : EV}, Reps c.K ω ds vs → (ds.map (fun d => some (EV.val d)) ++ List.replicate n none)[i]? = some (some e) → ∃ v, (vs.map some ++ List.replicate n none)[i]? = some (some v) ∧ SlotV c ω H e v
  | [], _, n, i, e, r, h => by
    rw [List.map_nil, List.nil_append, List.getElem?_replicate] at h
    split at h <;> cases h
  | d :: ds, _, n, 0, e, r, h => by
    obtain ⟨v, us, rfl, h1, h2⟩ := Reps.cons_iff.mp r
    cases h
    exact ⟨v, rfl, h1⟩
  | d :: ds, _, n, i + 1, e, r, h => by
    obtain ⟨v, us, rfl, h1, h2⟩ := Reps.cons_iff.mp r
    exact slots_start (i := i) h2 h
section
variable {P : Program} {w : World} {K : PySem.W.Frag} {mg : Str → Option Value} {base : Heap} {x qual : Str} {st : Stmt} {f : Addr} {fd : FuncData} {N ps : List Str} {k : Nat} {S : FSpec} {b : WS}
theorem fn_ok (F : Fun K x qual st f fd) (Sc : FnScope N ps (defScope st)) (len : ∀ ds tk Q, S ds tk Q → ds.length = ps.length)
    (hb : ∀ (cdv : Value) (A : Around) (outer : List Env) (s : Shared) (H : Hp) (E : XK) (c : C), c.K = K → Room k (A.deeper (envOfC qual (defScope st) s.heap.objs.size f cdv)) → SSs (cxOf CX0 P w K mg base N qual (defScope st) f cdv A outer s H E).nox c (defBody st) b)
    (hw : ∀ ds tk Q, S ds tk Q → b { nx := fun _ t => Q (.val .non) t, rt := Q } (start N.length ds) tk) : FnOk P w K mg base CX0 (k + 1) f fd ps (spD K S) := by
  refine F.ok Sc (fun vs H Q E h => ?_) (fun cdv A outer s H vs Q E hr h => ?_)
  · obtain ⟨ω, ds, tk, _, _, r, h⟩ := h
    rw [r.length]
    exact len ds tk _ h
  · obtain ⟨ω, ds, tk, sub, st', r, h⟩ := h
    have B := hb cdv A outer s H E ⟨K, ω, H, fun _ => False⟩ rfl hr
    have hNl : ps.length ≤ N.length := by
      have := congrArg List.length Sc.pre
      rw [List.length_take] at this
      omega
    refine ⟨_, B.run, ω, start N.length ds, tk, ?_, B.mon _ _ _ _ ?_ (hw ds tk _ h)⟩
    · have hl : vs.length = ds.length := r.length
      exact {
        len := by unfold L2.start start; simp only [List.length_append, List.length_map, List.length_replicate]; omega
        sub := sub
        st := st'
        slots := fun i e he => by
          unfold L2.start
          unfold start at he
          rw [hl]
          exact slots_start r he
        dist := fun i j p ds' es a b _ _ => by
          obtain ⟨v, h1, h2⟩ := slots_start (c := ⟨K, ω, H, fun _ => False⟩) (H := H) r (show (ds.map (fun d => some (EV.val d)) ++ List.replicate (N.length - ds.length) none)[i]? = some (some (.own ds')) from a)
          obtain ⟨q, rfl, vs', a1, a2, a3, a4, _⟩ := h2
          have a4' : H q = none := a4.1
          rw [a1] at a4'
          cases a4'
        one := fun i j p ds' es a b => by
          obtain ⟨v, h1, h2⟩ := slots_start (c := ⟨K, ω, H, fun _ => False⟩) (H := H) r (show (ds.map (fun d => some (EV.val d)) ++ List.replicate (N.length - ds.length) none)[i]? = some (some (.dct p ds')) from a)
          obtain ⟨rfl, vs', a1, a2, a3, a4, _⟩ := h2
          have a4' : H p = none := a4.1
          rw [a1] at a4'
          cases a4'
        new := fun b h => .inl h
        ng := fun a h => .inl h
        fr := fun b o h _ => h
        le0 := .refl _
        pr := fun b h => h.elim }
    · exact ⟨fun e t z σ' ω' H' l ok => z .non ω' H' (ok.ret (ev := .val .non) (show Rep K ω' .non .non from Rep.non_iff.mpr rfl)), fun ev t z => z, fun _ _ z => z.elim, fun _ _ z => z.elim⟩
theorem fn_in (F : Fun K x qual st f fd) (ok : FnOk P w K mg base CX0 k f fd ps (spD K S)) {y : Str} (hm : mg y = some (.ref f)) (hb : Binds K fd ps []) : FnIn P w K mg base k y S := ⟨f, fd, ps, ok, hm, F.kp, hb⟩
end
theorem hu_room {A : Around} {k : Nat} (hr : Room k A) : A.units + 100 < cLine := by have := hr.un; omega
end DL

namespace DL
open PySem PySem.Spec PyProof.Rows L2

/-! ### the words of the walk over data -/
theorem fAdd_int {i j : Int} {q : EV → Prop} : fAdd (.int i) (.int j) q = q (.val (.int (i + j))) := rfl
theorem fAdd_lst {i j : List D} {q : EV → Prop} : fAdd (.lst i) (.lst j) q = (i.length + j.length ≤ sizeLine ∧ q (.own (i ++ j))) := rfl
theorem fI_int {C : Int → Int → Prop} {g : Int → Int → D} {i j : Int} {q : EV → Prop} : fI C g (.int i) (.int j) q = (C i j ∧ q (.val (g i j))) := rfl
theorem fJ_int {g : Int → Int → D} {i j : Int} {q : EV → Prop} : fJ g (.int i) (.int j) q = q (.val (g i j)) := rfl
theorem fEq_int {i j : Int} {q : EV → Prop} : fEq (.int i) (.int j) q = q (.val (.bl (decide (i = j)))) := rfl
theorem fNe_int {i j : Int} {q : EV → Prop} : fNe (.int i) (.int j) q = q (.val (.bl (!decide (i = j)))) := rfl
theorem wT_bl {w : WE} {env : En} {tk : Tk} {Q : Bool → En → Tk → Prop} : wT w env tk Q = w env tk fun ev e t => match ev with
  | .val (.bl b) => Q b e t
  | _ => False := rfl
theorem start_def {n : Nat} {ds : List D} : start n ds = ds.map (fun d => some (EV.val d)) ++ List.replicate (n - ds.length) none := rfl
theorem fIdx_lst {ds : List D} {i : Int} {q : EV → Prop} : fIdx (.lst ds) (.int i) q = (match atI ds i with | some d => q (.val d) | none => False) := rfl
theorem fIdx_tup {ds : List D} {i : Int} {q : EV → Prop} : fIdx (.tup ds) (.int i) q = (match atI ds i with | some d => q (.val d) | none => False) := rfl
theorem atI_lit {ds : List D} {i : Nat} : atI ds (i : Int) = ds[i]? := by
  unfold atI ixN
  by_cases h : i < ds.length
  · rw [if_pos (Int.natCast_nonneg i), if_pos (by omega)]
    rfl
  · rw [if_pos (Int.natCast_nonneg i), if_neg (by omega), List.getElem?_eq_none (by omega)]
    rfl
theorem atI_some {ds : List D} {i : Int} (h : 0 ≤ i) (h2 : i < ds.length) : ∃ d, atI ds i = some d ∧ ds[i.toNat]? = some d := by
  have e : atI ds i = ds[i.toNat]? := by
    have : i = ((i.toNat : Nat) : Int) := by omega
    conv => lhs; rw [this]
    exact atI_lit
  rw [e, List.getElem?_eq_getElem (by omega)]
  exact ⟨_, rfl, rfl⟩
end DL
local macro_rules | `(tactic| walk_at "dl") => `(tactic| simp (config := { failIfUnchanged := false }) only [↓DL.wSeq, ↓DL.wSet, ↓DL.wIfS, ↓DL.wRet, ↓DL.wRetV, ↓DL.wRetN, ↓DL.wNext, ↓DL.wPk, ↓DL.wV, ↓DL.wC, ↓DL.fz, ↓DL.wOp, ↓DL.w1, ↓DL.EV.d, ↓DL.wT_bl, ↓DL.wAnd, ↓DL.wOr, ↓DL.wNot, ↓DL.wB, ↓DL.wIf, ↓DL.wCons, ↓DL.wNil, ↓DL.wTup, ↓DL.wLst, ↓DL.wPar, ↓DL.wPar3, ↓DL.wAsg, ↓DL.wCall, ↓DL.wDrop, ↓DL.gN, ↓DL.gT, ↓DL.gCs, ↓DL.gNl, ↓DL.wR1, ↓DL.wR2, ↓DL.wSrc, ↓DL.wBrk, ↓DL.wCnt, ↓DL.wApp, ↓DL.wFor, ↓DL.fAdd_int, ↓DL.fI_int, ↓DL.fJ_int, ↓DL.fEq_int, ↓DL.fNe_int, ↓DL.fIdx_lst, ↓DL.fIdx_tup, ↓DL.fNeg, ↓DL.fAbs, ↓DL.fInt, ↓DL.fLen, ↓DL.start_def, List.getElem?_cons_zero, List.getElem?_cons_succ, List.set_cons_zero, List.set_cons_succ, List.map_cons, List.map_nil, List.length_cons, List.length_nil, List.replicate_succ, List.replicate_zero, List.cons_append, List.nil_append, Nat.reduceAdd, Nat.reduceSub, Nat.zero_add, decide_eq_true_eq, true_and, and_true])
namespace DL
open PySem PySem.Spec PyProof.Rows L2
def sp_Lcell : FSpec := fun ds tk Q => ∃ (ns : List Int) (k : Int), ds = [.lst (ns.map D.int), .int k] ∧ 0 ≤ k ∧ ∀ v : Int, Q (.val (.int v)) tk
theorem mon_Lcell : MonFS sp_Lcell := fun ds tk Q Q' h ⟨ns, k, e, h0, q⟩ => ⟨ns, k, e, h0, fun v => h _ _ (q v)⟩
theorem len_Lcell : ∀ ds tk Q, sp_Lcell ds tk Q → ds.length = 2 := fun ds tk Q ⟨ns, k, e, _⟩ => by rw [e]; rfl
abbrev N_Lcell : List Str := ["_law_script", "_law_k"]
def c_Lcell : WS :=
  (wSeq (wIfS (wT (wOp fLt (wPk 1) (fz (w1 fLen (wPk 0))))) (wRet (wOp fIdx (wPk 0) (wPk 1))) wNext)
  (wRet (wC (.int 0))))
theorem map_at {ns : List Int} {k : Int} (h : 0 ≤ k) (h2 : k < (ns.length : Int)) : ∃ v : Int, atI (ns.map D.int) k = some (.int v) ∧ v ∈ ns := by
  obtain ⟨d, h1, h3⟩ := atI_some (ds := ns.map D.int) h (by rw [List.length_map]; exact h2)
  rw [List.getElem?_map] at h3
  cases z : ns[k.toNat]? with
  | none => rw [z] at h3; cases h3
  | some v =>
    rw [z] at h3
    cases h3
    exact ⟨v, h1, List.mem_of_getElem? z⟩
theorem hw_Lcell : ∀ ds tk Q, sp_Lcell ds tk Q → c_Lcell { nx := fun _ t => Q (.val .non) t, rt := Q } (start N_Lcell.length ds) tk := by
  rintro ds tk Q ⟨ns, k, rfl, h0, q⟩
  unfold c_Lcell
  walk_at "dl"
  split
  · rename_i h
    rw [List.length_map] at h
    obtain ⟨v, e, _⟩ := map_at h0 h
    rw [e]
    exact q v
  · exact q 0

def Small (ns : List Int) : Prop := ∀ x ∈ ns, (0 : Int) ≤ x ∧ x < 1000
def sp_Lnumbers : FSpec := fun ds tk Q => ∃ (n m : Int), ds = [.int n, .int m] ∧ 0 ≤ m ∧ m ≤ 1000 ∧ ∀ ns : List Int, ns.length = m.toNat → Small ns → Q (.own (ns.map D.int)) tk
theorem mon_Lnumbers : MonFS sp_Lnumbers := fun ds tk Q Q' h ⟨n, m, e, h0, h1, q⟩ => ⟨n, m, e, h0, h1, fun v a b => h _ _ (q v a b)⟩
theorem len_Lnumbers : ∀ ds tk Q, sp_Lnumbers ds tk Q → ds.length = 2 := fun ds tk Q ⟨n, m, e, _⟩ => by rw [e]; rfl
abbrev N_Lnumbers : List Str := ["_law_cell_here", "_law_many", "_law_rest", "_law_span", "_law_numbers_here", "_law_k", "_law_mixed"]
def c_Lnumbers : WS :=
  (wSeq (wSet 2 (w1 fAbs (wPk 0)))
  (wSeq (wSet 3 (wV 2))
  (wSeq (wSet 4 (wLst wNil))
  (wSeq (wFor (wR1 (wPk 1)) (gN 5) (wIfS (wAnd (wT (wOp fGe (wPk 3) (fz (wOp fPow (fz (wC (.int 10))) (fz (wC (.int 18))))))) (wT (wOp fGt (wPk 2) (fz (wC (.int 0)))))) (wSeq (wApp 4 (fz (wOp fMod (fz (w1 fInt (wPk 2))) (fz (wC (.int 1000))))))
  (wSet 2 (wOp fDiv (wPk 2) (fz (wC (.int 1000)))))) (wSeq (wSet 6 (wOp fMod (fz (w1 fInt (fz (wOp fAdd (fz (wOp fAdd (fz (wOp fMul (wPk 3) (fz (wC (.int 48271))))) (fz (wOp fMul (wPk 5) (fz (wC (.int 69621))))))) (fz (wC (.int 11))))))) (fz (wC (.int 2147483647)))))
  (wSeq (wSet 6 (wOp fMod (fz (w1 fInt (fz (wOp fAdd (fz (wOp fAdd (fz (wOp fMul (wPk 6) (wPk 6))) (fz (wOp fMul (fz (wC (.int 40692))) (wPk 5))))) (fz (wC (.int 3))))))) (fz (wC (.int 2147483629)))))
  (wApp 4 (fz (wOp fMod (fz (w1 fInt (fz (wOp fDiv (wPk 6) (fz (wC (.int 7))))))) (fz (wC (.int 1000))))))))))
  (wRetV 4)))))
theorem fmod_pos {a b : Int} (h : 0 < b) : 0 ≤ a.fmod b ∧ a.fmod b < b := ⟨Int.fmod_nonneg_of_pos a h, Int.fmod_lt_of_pos a h⟩
theorem divOk_lit {i j : Int} (h : j ≠ 0) (h2 : j.natAbs < 1073741824) : DivOk i j := ⟨h, by
  have := (Nat.log2_lt (k := 30) (n := j.natAbs) (by omega)).mpr (by omega)
  omega⟩
theorem mulOk_r {i j : Int} (h : -(2 ^ 64) < j ∧ j < 2 ^ 64) : MulOk i j := .inr (.inr h)
theorem mulOk_l {i j : Int} (h : -(2 ^ 64) < i ∧ i < 2 ^ 64) : MulOk i j := .inr (.inl h)
/-- for over any list, by an invariant -/
theorem forGo_inv {g : WG} {b : WS} {P : Post} (I : Nat → En → Tk → Prop) : ∀ {ds : List D} (hs : ∀ i d e t (R : En → Tk → Prop), ds[i]? = some d → I i e t → (∀ e t, I (i + 1) e t → R e t) → g d e fun e' => b { P with nx := R, ct := R, bk := P.nx } e' t)
    (hd : ∀ e t, I ds.length e t → P.nx e t) {e : En} {t : Tk} (h0 : I 0 e t), forGo g b P ds e t := by
  intro ds
  induction ds generalizing I with
  | nil => intro hs hd e t h0; exact hd e t h0
  | cons d ds ih =>
    intro hs hd e t h0
    exact hs 0 d e t _ rfl h0 fun e2 t2 h2 => ih (fun i => I (i + 1)) (fun i d' e t R hd' hi hR => hs (i + 1) d' e t R hd' hi hR) (fun e t h => hd e t h) h2
/-- for over a range -/
theorem forGo_rng {g : WG} {b : WS} {P : Post} {lo : Int} {n : Nat} (I : Nat → En → Tk → Prop) (hs : ∀ (i : Nat) e t (R : En → Tk → Prop), i < n → I i e t → (∀ e t, I (i + 1) e t → R e t) → g (.int (lo + (i : Int))) e fun e' => b { P with nx := R, ct := R, bk := P.nx } e' t)
    (hd : ∀ e t, I n e t → P.nx e t) {e : En} {t : Tk} (h0 : I 0 e t) : forGo g b P (rngD lo n) e t := by
  have hl : (rngD lo n).length = n := by unfold rngD; rw [List.length_map, List.length_range]
  refine forGo_inv I (fun i d e t R hd' hi hR => ?_) (fun e t h => hd e t (by rw [hl] at h; exact h)) h0
  have hi' : i < n := by rw [← hl]; exact (List.getElem?_eq_some_iff.mp hd').1
  unfold rngD at hd'
  rw [List.getElem?_map, List.getElem?_range hi'] at hd'
  cases hd'
  exact hs i e t R hi' hi hR
theorem sz1000 {n : Nat} (h : n ≤ 1000) : n < sizeLine := small1000 h
theorem hw_Lnumbers : ∀ ds tk Q, sp_Lnumbers ds tk Q → c_Lnumbers { nx := fun _ t => Q (.val .non) t, rt := Q } (start N_Lnumbers.length ds) tk := by
  rintro ds tk Q ⟨n, m, rfl, h0, h1, q⟩
  unfold c_Lnumbers
  walk_at "dl"
  refine ⟨rfl, by omega, by omega, ?_⟩
  refine forGo_rng (fun i e t => t = tk ∧ ∃ (r sp : Int) (ns : List Int) (x5 x6 : Option EV), ns.length = i ∧ Small ns ∧ e = [some (.val (.int n)), some (.val (.int m)), some (.val (.int r)), some (.val (.int sp)), some (.own (ns.map D.int)), x5, x6]) (fun i e t R hi hI hR => ?_) (fun e t hI => ?_) ⟨rfl, _, _, [], none, none, rfl, (fun x h => nomatch h), rfl⟩
  · obtain ⟨rfl, r, sp, ns, x5, x6, hl, hs, rfl⟩ := hI
    have hl' : (ns.map D.int).length < sizeLine := by rw [List.length_map]; exact sz1000 (by omega)
    have push : ∀ (v r' : Int) (y6 : Option EV), 0 ≤ v → v < 1000 → R [some (.val (.int n)), some (.val (.int m)), some (.val (.int r')), some (.val (.int sp)), some (.own (ns.map D.int ++ [.int v])), some (.val (.int (0 + (i : Int)))), y6] t := fun v r' y6 h1 h2 =>
      hR _ _ ⟨rfl, r', sp, ns ++ [v], _, y6, by rw [List.length_append, hl]; rfl, fun x hx => by
        rcases List.mem_append.mp hx with z | z
        · exact hs x z
        · rw [List.mem_singleton] at z; subst z; exact ⟨h1, h2⟩, by rw [List.map_append]; rfl⟩
    have mix : ∀ a : Int, MulOk (a.fmod 2147483647) (a.fmod 2147483647) := fun a => mulOk_r (by have := fmod_pos (a := a) (b := 2147483647) (by decide); omega)
    have mi : MulOk (0 + (i : Int)) 69621 := mulOk_r (by omega)
    have mi2 : MulOk 40692 (0 + (i : Int)) := mulOk_l (by omega)
    have ms : MulOk sp 48271 := mulOk_r (by omega)
    have p : ∀ a : Int, 0 ≤ a.fmod 1000 ∧ a.fmod 1000 < 1000 := fun a => fmod_pos (by decide)
    have slow : ∀ a b d : Int, 1000 ≠ (0 : Int) := fun _ _ _ => by decide
    walk_at "dl"
    refine ⟨⟨by decide, by decide, by decide⟩, ?_⟩
    split
    · split
      · exact ⟨by decide, hl', divOk_lit (by decide) (by decide), push _ _ _ (p _).1 (p _).2⟩
      · exact ⟨ms, mi, by decide, mix _, mi2, by decide, divOk_lit (by decide) (by decide), by decide, hl', push _ _ _ (p _).1 (p _).2⟩
    · split
      · rename_i h; exact absurd h (by decide)
      · exact ⟨ms, mi, by decide, mix _, mi2, by decide, divOk_lit (by decide) (by decide), by decide, hl', push _ _ _ (p _).1 (p _).2⟩
  · obtain ⟨rfl, r, sp, ns, x5, x6, hl, hs, rfl⟩ := hI
    walk_at "dl"
    exact q ns hl hs

/-! ### the law's state -/
def sp_Lstate0 : FSpec := fun ds tk Q => ∃ xs : List Int, ds = [.lst (xs.map D.int)] ∧ ∀ ns : List Int, ns.length = 120 → Small ns → Q (.own [.lst (ns.map D.int), .int 0]) tk
def sp_Lstate : FSpec := fun ds tk Q => ∃ xs : List Int, ds = [.lst (xs.map D.int)] ∧ tk = none ∧ Q (.val .st) (some 0)
theorem mon_Lstate : MonFS sp_Lstate := fun ds tk Q Q' h ⟨xs, e, e2, q⟩ => ⟨xs, e, e2, h _ _ q⟩
theorem len_Lstate0 : ∀ ds tk Q, sp_Lstate0 ds tk Q → ds.length = 1 := fun ds tk Q ⟨n, e, _⟩ => by rw [e]; rfl
abbrev N_Lstate : List Str := ["_law_script", "_law_numbers_here", "_law_k"]
def c_Lstate : WS :=
  (wSeq (wSet 1 (wLst wNil))
  (wSeq (wFor (wR1 (fz (wC (.int 3)))) (gN 2) (wSet 1 (wOp fAdd (wPk 1) (fz (wCall sp_Lnumbers (wCons (fz (wOp fAdd (fz (w1 fAbs (fz (wCall sp_Lcell (wCons (fz (wV 0)) (wCons (fz (wV 2)) wNil)))))) (fz (wOp fMul (fz (wC (.int 7919))) (wPk 2))))) (wCons (fz (wC (.int 40))) wNil)))))))
  (wRet (wLst (wCons (fz (wV 1)) (wCons (fz (wC (.int 0))) wNil))))))
theorem hw_Lstate0 : ∀ ds tk Q, sp_Lstate0 ds tk Q → c_Lstate { nx := fun _ t => Q (.val .non) t, rt := Q } (start N_Lstate.length ds) tk := by
  rintro ds tk Q ⟨xs, rfl, q⟩
  unfold c_Lstate
  walk_at "dl"
  refine ⟨rfl, by decide, by decide, ?_⟩
  refine forGo_rng (fun i e t => t = tk ∧ ∃ (ns : List Int) (x2 : Option EV), ns.length = 40 * i ∧ Small ns ∧ e = [some (.val (.lst (xs.map D.int))), some (.own (ns.map D.int)), x2]) (fun i e t R hi hI hR => ?_) (fun e t hI => ?_) ⟨rfl, [], none, rfl, (fun x h => nomatch h), rfl⟩
  · obtain ⟨rfl, ns, x2, hl, hs, rfl⟩ := hI
    walk_at "dl"
    refine ⟨xs, _, rfl, by omega, fun v => ?_⟩
    walk_at "dl"
    have hi' : i < 3 := hi
    refine ⟨mulOk_l (by decide), _, _, rfl, by decide, by decide, fun ms h1 h2 => ?_⟩
    walk_at "dl"
    simp only [fAdd_lst]
    have h1' : ms.length = 40 := h1
    refine ⟨Nat.le_of_lt (sz1000 (by rw [List.length_map, List.length_map]; omega)), hR _ _ ⟨rfl, ns ++ ms, _, by rw [List.length_append]; omega, fun x hx => ?_, by rw [List.map_append]⟩⟩
    rcases List.mem_append.mp hx with z | z
    · exact hs x z
    · exact h2 x z
  · obtain ⟨rfl, ns, x2, hl, hs, rfl⟩ := hI
    walk_at "dl"
    exact ⟨rfl, q ns hl hs⟩
theorem imp_Lstate {K : PySem.W.Frag} : ∀ vs H Q E, spD K sp_Lstate vs H Q E → spD K sp_Lstate0 vs H Q E := by
  rintro vs H Q E ⟨ω, ds, tk, sub, st, r, xs, rfl, rfl, q⟩
  refine ⟨ω, _, none, sub, st, r, xs, rfl, fun ns hl hs v ω' H' ret => ?_⟩
  obtain ⟨p, rfl, us, a1, a2, a3, a4, a5⟩ := ret.v
  obtain ⟨v0, vr, rfl, b1, b2⟩ := Reps.cons_iff.mp a5
  obtain ⟨v1, vr, rfl, b3, b4⟩ := Reps.cons_iff.mp b2
  rw [Reps.nil_iff] at b4
  subst b4
  rw [Rep.int_iff] at b3
  subst b3
  obtain ⟨n, ws, rfl, c1, c2⟩ := Rep.lst_iff.mp b1
  have e := asInts_reps (asInts_map ns) c2
  subst e
  have hg : ω'.g = none := by
    rcases ret.st with ⟨z, _⟩ | ⟨_, _, _, z, _⟩
    · exact z
    · cases z
  have h0 : H p = none := a4.1
  refine q (.ref p) ⟨some p, ω'.hd⟩ H' ⟨ret.sub, .inr ⟨p, 0, rfl, rfl, a2, n, ns, a1, c1, hl, hs⟩, ret.new, fun a h => ?_, ret.fr, ⟨fun a h => ?_, ret.le0.hd⟩, ?_⟩
  · cases h
    exact .inr h0
  · have := ret.le0.g a h
    rw [hg] at this
    cases this
  · exact (show Rep K ⟨some p, ω'.hd⟩ .st (.ref p) from Rep.st_iff.mpr ⟨p, rfl, rfl⟩)

def sp_Lnext : FSpec := fun ds tk Q => ∃ (m : Int) (c : Nat), ds = [.st, .int m] ∧ tk = some c ∧ 0 < m ∧ c < 2 ^ 50 ∧ ∀ v : Int, 0 ≤ v → v < m → Q (.val (.int v)) (some (c + 1))
theorem mon_Lnext : MonFS sp_Lnext := fun ds tk Q Q' h ⟨m, c, e, e2, h0, h1, q⟩ => ⟨m, c, e, e2, h0, h1, fun v a b => h _ _ (q v a b)⟩
abbrev N_Lnext : List Str := ["_law_state_here", "_law_many", "_law_number"]
theorem ret_Lnext {K : PySem.W.Frag} {ω : Wd} {H : Hp} {a n : Addr} {c : Nat} {ns : List Int} {v : Int} (sub : ∀ b o, ω.hd b = some o → H b = some o) (hg : ω.g = some a) (ha : ω.hd a = none) (e : H a = some (.lst [.ref n, .int (c : Int)])) (hn : SqL K ω.hd n (ns.map V.int)) (hl : ns.length = 120) (hs : ∀ x ∈ ns, (0 : Int) ≤ x ∧ x < 1000) :
    Ret ⟨K, ω, H, fun _ => False⟩ ω (upd H a (.lst [.ref n, .int ((c : Int) + 1)])) (some (c + 1)) (.val (.int v)) (.int v) where
  sub := fun b o h => by
    rw [upd_ne (fun z => by rw [z, ha] at h; cases h)]
    exact sub b o h
  st := .inr ⟨a, c + 1, hg, rfl, ha, n, ns, upd_same, hn, hl, hs⟩
  new := fun b h => .inl h
  ng := fun b h => .inl h
  fr := fun b o h q => by
    rw [upd_ne (fun z => q (by rw [z]; exact hg))]
    exact h
  le0 := .refl _
  v := show Rep K ω (.int v) (.int v) from Rep.int_iff.mpr rfl
def sp_Lwide : FSpec := fun ds tk Q => ∃ (m : Int) (c : Nat), ds = [.st, .int m] ∧ tk = some c ∧ 0 < m ∧ c + 6 < 2 ^ 50 ∧ ∀ v : Int, 0 ≤ v → v < m → Q (.val (.int v)) (some (c + 6))
theorem mon_Lwide : MonFS sp_Lwide := fun ds tk Q Q' h ⟨m, c, e, e2, h0, h1, q⟩ => ⟨m, c, e, e2, h0, h1, fun v a b => h _ _ (q v a b)⟩
theorem len_Lwide : ∀ ds tk Q, sp_Lwide ds tk Q → ds.length = 2 := fun ds tk Q ⟨n, c, e, _⟩ => by rw [e]; rfl
abbrev N_Lwide : List Str := ["_law_state_here", "_law_many", "_law_total", "_law_k"]
def c_Lwide : WS :=
  (wSeq (wSet 2 (wC (.int 0)))
  (wSeq (wFor (wR1 (fz (wC (.int 6)))) (gN 3) (wSet 2 (wOp fAdd (fz (wOp fMul (wPk 2) (fz (wC (.int 1000))))) (fz (wCall sp_Lnext (wCons (fz (wV 0)) (wCons (fz (wC (.int 1000))) wNil)))))))
  (wRet (wOp fMod (wPk 2) (wPk 1)))))
theorem hw_Lwide : ∀ ds tk Q, sp_Lwide ds tk Q → c_Lwide { nx := fun _ t => Q (.val .non) t, rt := Q } (start N_Lwide.length ds) tk := by
  rintro ds tk Q ⟨m, c, rfl, rfl, h0, h1, q⟩
  unfold c_Lwide
  walk_at "dl"
  refine ⟨by decide, by decide, ?_⟩
  refine forGo_rng (fun i e t => t = some (c + i) ∧ ∃ (x : Int) (x3 : Option EV), e = [some (.val .st), some (.val (.int m)), some (.val (.int x)), x3]) (fun i e t R hi hI hR => ?_) (fun e t hI => ?_) ⟨rfl, 0, none, rfl⟩
  · obtain ⟨rfl, x, x3, rfl⟩ := hI
    have hi' : i < 6 := hi
    walk_at "dl"
    refine ⟨mulOk_r (by decide), 1000, c + i, rfl, rfl, by decide, by omega, fun v _ _ => ?_⟩
    walk_at "dl"
    exact hR _ _ ⟨rfl, _, _, rfl⟩
  · obtain ⟨rfl, x, x3, rfl⟩ := hI
    walk_at "dl"
    exact ⟨by omega, q _ (fmod_pos h0).1 (fmod_pos h0).2⟩
end DL

namespace DL
open PySem PySem.Spec PyProof.Rows L2

/-! ### isinstance of a built-in class -/
def tyS : D → Option String
  | .non => some "NoneType"
  | .bl _ => some "bool"
  | .int _ => some "int"
  | .str _ => some "str"
  | .st => none
  | .tup _ => some "tuple"
  | .lst _ => some "list"
  | .adr _ => none
  | .hls _ => none
theorem RepP.tyX {c : C} {ω : Wd} {H : Hp} {d : D} {v : V} {t : String} (sub : ∀ b o, ω.hd b = some o → H b = some o) (h : RepP c ω H d v) (e : tyS d = some t) : TyX c.K H v (.type t) := by
  cases d with
  | non => cases e; rw [h.non]; exact .base .non
  | bl b => cases e; rw [h.bl]; exact .base (.bl b)
  | int b => cases e; rw [h.int]; exact .base (.int b)
  | str b => cases e; rw [h.str]; exact .base (.str b)
  | st => cases e
  | tup xs =>
    cases e
    obtain ⟨p, vs, rfl, sx, _⟩ := h.tup sub
    rcases sx with (sx | ⟨o, sx⟩) | ⟨o, its, n, sx, sc, _⟩
    · exact .base (.tup sx)
    · exact .fTuple sx
    · exact .kTuple sx sc
  | lst xs =>
    cases e
    obtain ⟨p, vs, rfl, sx, _⟩ := h.lst sub
    rcases sx with (sx | ⟨o, sx⟩) | ⟨o, its, n, sx, sc, _⟩
    · exact .base (.lst sx)
    · exact .base (.frz sx)
    · exact .kList sx sc
  | adr p => cases e
  | hls xs => cases e
def isiB (T : String) (d : D) : Option Bool := (tyS d).bind fun t => if t = T then some true else if T = "int" && t = "bool" then some true else some false
def fIsi (T : String) : F1 := fun d q => match isiB T d with
  | some b => q (.val (.bl b))
  | none => False
theorem MonF1.isi {T : String} : MonF1 (fIsi T) := fun x _ _ h z => by
  unfold fIsi at z ⊢
  split at z
  · exact h _ z
  · exact z.elim
abbrev fIsi_bool := fIsi "bool"
abbrev fIsi_tuple := fIsi "tuple"
abbrev fIsi_list := fIsi "list"
abbrev fIsi_int := fIsi "int"
abbrev fIsi_str := fIsi "str"
/-- the classes that are asked -/
def KitOk (T : String) : Prop := ∀ t ∈ ["NoneType", "bool", "int", "str", "tuple", "list"], kitB t T = some (if t = T then true else if T = "int" && t = "bool" then true else false)
theorem kit_bool : KitOk "bool" := by unfold KitOk; decide +kernel
theorem kit_tuple : KitOk "tuple" := by unfold KitOk; decide +kernel
theorem kit_list : KitOk "list" := by unfold KitOk; decide +kernel
theorem kit_int : KitOk "int" := by unfold KitOk; decide +kernel
theorem kit_str : KitOk "str" := by unfold KitOk; decide +kernel
theorem tyS_mem {d : D} {t : String} (h : tyS d = some t) : t ∈ ["NoneType", "bool", "int", "str", "tuple", "list"] := by
  cases d <;> cases h <;> decide
section
variable {X : Cx} {c : C} {a : Expr} {wa : WD} {pos p p2 : Pos} {x y : Str}
theorem se_isi {T : String} (kt : KitOk T) (hK : c.K = X.K) (hg : Gl X "isinstance") (hm : X.mg "isinstance" = none) (hg2 : Gl X y) (hm2 : X.mg y = none) (hv : bootBuiltins y = some (.type T)) (ha : SP X c a wa) (hn : y ≠ "__name__" := by decide) (hdb : (y == ("__debug__" : Str)) = false := by decide)
    (he : starEach [a, .Name y p2] X.env = [(false, eval a X.env), (false, eval (.Name y p2) X.env)] := by rfl) : SE X c (.Call (.Name "isinstance" p) [a, .Name y p2] [] pos) (w1 (fIsi T) wa) := by
  have hb : PE X (.Name y p2) (tC (.ty T)) := pe_bltn hg2 hm2 hv (show RelV (.ty T) (.type T) from rfl) hn hdb
  have he2 : starEach [(.Name y p2 : Expr)] X.env = [(false, eval (.Name y p2) X.env)] := rfl
  refine ⟨.w1 .isi ha.mon, (pe_callB call_isi hg hm (by decide +kernel) (pa_cons ha.run (pa_cons hb pa_nil he2) (by rw [he, he2])) (by decide) (by decide) (by rw [he, he2]) (by rw [he2]; rfl)).wk fun σ H Q h => ?_⟩
  refine run_1 (r := fun v H Q => rIsi X.K [v, .ty T] H Q) .isi (fun ω H σ env tk x v q Q ok rx h hr => ?_) ha h
  unfold fIsi isiB at h
  cases z : tyS x with
  | none => rw [z] at h; exact h.elim
  | some t =>
    rw [z] at h
    have k := kt t (tyS_mem z)
    have ty := rx.tyX ok.sub z
    rw [hK] at ty
    refine ⟨v, .ty T, .type t, .type T, _, rfl, .ty T, ty, kit_ty k, ?_⟩
    simp only [Option.bind_some] at h
    by_cases e1 : t = T
    · rw [if_pos e1] at h ⊢
      exact hr.bl ok h
    · rw [if_neg e1] at h ⊢
      by_cases e2 : (decide (T = "int") && decide (t = "bool")) = true
      · rw [if_pos e2] at h ⊢
        exact hr.bl ok h
      · rw [if_neg e2] at h ⊢
        exact hr.bl ok h
theorem se_isi_bool (hK : c.K = X.K) (hg : Gl X "isinstance") (hm : X.mg "isinstance" = none) (hg2 : Gl X "bool") (hm2 : X.mg "bool" = none) (ha : SP X c a wa)
    (he : starEach [a, .Name "bool" p2] X.env = [(false, eval a X.env), (false, eval (.Name "bool" p2) X.env)] := by rfl) : SE X c (.Call (.Name "isinstance" p) [a, .Name "bool" p2] [] pos) (w1 fIsi_bool wa) := se_isi kit_bool hK hg hm hg2 hm2 (by decide +kernel) ha (he := he)
theorem se_isi_tuple (hK : c.K = X.K) (hg : Gl X "isinstance") (hm : X.mg "isinstance" = none) (hg2 : Gl X "tuple") (hm2 : X.mg "tuple" = none) (ha : SP X c a wa)
    (he : starEach [a, .Name "tuple" p2] X.env = [(false, eval a X.env), (false, eval (.Name "tuple" p2) X.env)] := by rfl) : SE X c (.Call (.Name "isinstance" p) [a, .Name "tuple" p2] [] pos) (w1 fIsi_tuple wa) := se_isi kit_tuple hK hg hm hg2 hm2 (by decide +kernel) ha (he := he)
theorem se_isi_list (hK : c.K = X.K) (hg : Gl X "isinstance") (hm : X.mg "isinstance" = none) (hg2 : Gl X "list") (hm2 : X.mg "list" = none) (ha : SP X c a wa)
    (he : starEach [a, .Name "list" p2] X.env = [(false, eval a X.env), (false, eval (.Name "list" p2) X.env)] := by rfl) : SE X c (.Call (.Name "isinstance" p) [a, .Name "list" p2] [] pos) (w1 fIsi_list wa) := se_isi kit_list hK hg hm hg2 hm2 (by decide +kernel) ha (he := he)
/-- a constant of the module -/
structure Kon (K : PySem.W.Frag) (mg : Str → Option Value) (x : Str) (d : D) : Prop where
  ex : ∃ v u, mg x = some u ∧ RelV v u ∧ ∀ ω, Rep K ω d v
theorem se_k {d : D} (hK : c.K = X.K) (hg : Gl X x) (k : Kon X.K X.mg x d) (hd : (x == ("__debug__" : Str)) = false := by decide) : SE X c (.Name x pos) (wC d) := by
  obtain ⟨v, u, hm, r, h⟩ := k.ex
  exact se_c (pe_glob hg hm r hd) fun ω => by rw [hK]; exact h ω
end
/-! ### the law's own end -/
def sp_law : FSpec := fun ds tk Q => ∃ xs : List Int, ds = [.lst (xs.map D.int)] ∧ xs.length ≤ 63 ∧ tk = none ∧ ∀ t, Q (.val (.bl true)) t
theorem len_law : ∀ ds tk Q, sp_law ds tk Q → ds.length = 1 := fun ds tk Q ⟨n, e, _⟩ => by rw [e]; rfl
theorem law_in {K : PySem.W.Frag} {H : Hp} {a : Addr} {ns : List Int} (hl : ns.length ≤ 63) (hS : SqL K H a (ns.map V.int)) : spD K sp_law [.ref a] H (fun v _ => v = .bl true) fun _ _ _ => False :=
  ⟨⟨none, H⟩, [.lst (ns.map D.int)], none, fun _ _ h => h, .inl ⟨rfl, rfl⟩, Reps.cons (Rep.lst_iff.mpr ⟨a, _, rfl, hS, reps_ints ns⟩) Reps.nil, ns, rfl, hl, rfl, fun t v ω' H' ret => Rep.bl_iff.mp (show Rep K ω' (.bl true) v from ret.v)⟩
end DL
namespace DL
open PySem PySem.Spec PyProof.Rows L2
/-! ### comprehensions of two clauses -/
def lcGo2 (g : WG) (cond : WT) (src1 : WA) (g1 : WG) (cond1 : WT) (elt : WE) (vs vs1 : List Nat) (env : En) : List D → List D → Tk → (List D → Tk → Prop) → Prop
  | [], acc, tk, K => K acc tk
  | d :: ds, acc, tk, K => g d (wipeE env vs) fun e1 => cond e1 tk fun b e2 t2 => e2 = e1 ∧
      if b = true then src1 e1 t2 fun ds1 e3 t3 => e3 = e1 ∧ noOwn e1 vs1 = true ∧ lcGo g1 cond1 elt vs1 e1 ds1 acc t3 fun acc' t4 => lcGo2 g cond src1 g1 cond1 elt vs vs1 env ds acc' t4 K
      else lcGo2 g cond src1 g1 cond1 elt vs vs1 env ds acc t2 K
def wLc2 (src : WA) (g : WG) (cond : WT) (src1 : WA) (g1 : WG) (cond1 : WT) (elt : WE) (vs vs1 : List Nat) : WE := fun env tk Q => src env tk fun ds e t => noOwn e vs = true ∧ lcGo2 g cond src1 g1 cond1 elt vs vs1 e ds [] t fun acc t' => Q (.own acc) e t'
theorem lcGo2_mono {g g1 : WG} {cond cond1 : WT} {src1 : WA} {elt : WE} {vs vs1 : List Nat} {env : En} (mg : ∀ d env Q Q', (∀ e, Q e → Q' e) → g d env Q → g d env Q') (mg1 : ∀ d env Q Q', (∀ e, Q e → Q' e) → g1 d env Q → g1 d env Q') (mc : Mon cond) (mc1 : Mon cond1) (ms1 : Mon src1) (me : Mon elt) {K K' : List D → Tk → Prop} (h : ∀ a t, K a t → K' a t) :
    ∀ (ds acc : List D) (tk : Tk), lcGo2 g cond src1 g1 cond1 elt vs vs1 env ds acc tk K → lcGo2 g cond src1 g1 cond1 elt vs vs1 env ds acc tk K'
  | [], acc, tk, z => h _ _ z
  | d :: ds, acc, tk, z => mg _ _ _ _ (fun e1 z => mc _ _ _ _ (fun b e2 t2 z => ⟨z.1, by
    cases b with
    | true => exact (if_pos rfl).mpr (ms1 _ _ _ _ (fun ds1 e3 t3 z => ⟨z.1, z.2.1, lcGo_mono mg1 mc1 me (fun a t z => lcGo2_mono mg mg1 mc mc1 ms1 me h ds a t z) ds1 acc t3 z.2.2⟩) ((if_pos rfl).mp z.2))
    | false => exact (if_neg Bool.false_ne_true).mpr (lcGo2_mono mg mg1 mc mc1 ms1 me h ds acc t2 ((if_neg Bool.false_ne_true).mp z.2))⟩) z) z
theorem pi_ex {X : Cx} {tg e : Expr} {α : Type} {t : α → TI} (h : ∀ a, PI X tg e (t a)) : PI X tg e fun σ H R => ∃ a, t a σ H R := ⟨fun pins s σ H R I ⟨a, q⟩ => (h a).run pins s σ H R I q⟩
section
variable {X : Cx} {c : C}
/-- the turns of one clause, the list already held -/
theorem lc_inner {J : It} {t : TG} {g : WG} {cond : WT} {elt : WE} {vs us : List Nat} {σ : L2.St} {Qd : Hp → Prop} {ωb ω1 : Wd} {Hb H1 : Hp} {e1 : En} {t1 : Tk} {L : Addr} {ds acc0 : List D} {us0 : List V}
    (ok1 : Ok (c.hold L) ω1 H1 σ e1 t1) (src : Src c.K ω1 J ds) (n0 : c.H0 L = none) (hLb : Hb L = none) (s0 : Stp ωb Hb ω1 H1) (hl0 : H1 L = some (.lst us0)) (r0 : Reps c.K ω1 acc0 us0) (hus : ∀ i ∈ us, i ∈ vs) (hno : noOwn e1 vs = true)
    (mg : ∀ d env Q Q', (∀ e, Q e → Q' e) → g d env Q → g d env Q') (lg : ∀ d env Q, g d env Q → g d env fun e => Offl us env e ∧ Q e)
    (rg : ∀ c' : C, c'.K = c.K → ∀ (σ : L2.St) (H : Hp) (v : V) (Q : L2.St → Hp → Prop) (ω : Wd) (env : En) (tk : Tk) (d : D), Ok c' ω H σ env tk → Rep c'.K ω d v → g d env (fun env' => ∀ σ', Off us σ σ' → Ok c' ω H σ' env' tk → Q σ' H) → t v σ H Q)
    (mc : Mon cond) (me : Mon elt) {K : List D → Tk → Prop} (z : lcGo g cond elt vs e1 ds acc0 t1 K)
    (hK : ∀ acc t' ω' H' (us : List V), K acc t' → ω1.le ω' → Stp ωb Hb ω' H' → Ok (c.hold L) ω' H' σ e1 t' → H' L = some (.lst us) → Reps c.K ω' acc us → Qd H') :
    ∃ W : Nat → Nat → Hp → Prop, (∃ m, W 0 m H1) ∧ ∀ i m H, W i m H →
      (J.stop i H ∧ Qd H) ∨ (J.go i H ∧ ∃ Nx : Hp → Prop, (∀ H', Nx H' → ∃ m', m' < m ∧ W (i + 1) m' H') ∧ ∀ x H', J.yld i H x H' → t x (wipe σ vs) H' fun σ2 H2 => wipe σ2 vs = wipe σ vs ∧ (fun σ H Q => ∃ L, liftT (c.hold L) cond σ H Q) σ2 H2 fun b H3 =>
        if b = true then (fun σ H Q => ∃ L, liftE (c.hold L) elt σ H Q) σ2 H3 fun y H4 => ∃ acc, H4 L = some (.lst acc) ∧ acc.length < sizeLine ∧ Nx (upd H4 L (.lst (acc ++ [y]))) else Nx H3) := by
  have hown := noOwn_at hno
  refine ⟨fun i m H => m = ds.length - i ∧ ∃ ω' t' acc us, ω1.le ω' ∧ Stp ωb Hb ω' H ∧ Ok (c.hold L) ω' H σ e1 t' ∧ H L = some (.lst us) ∧ Reps c.K ω' acc us ∧ lcGo g cond elt vs e1 (ds.drop i) acc t' K, ⟨ds.length, rfl, ω1, t1, acc0, us0, .refl _, s0, ok1, hl0, r0, z⟩, fun i m H ⟨hm, ω2, t2, acc, us2, le2, s2, ok2, hl2, r2, z2⟩ => ?_⟩
  obtain ⟨j1, j2, j3⟩ := src i ω2 H le2 ok2.sub
  by_cases hi : i < ds.length
  · refine .inr ⟨j1 hi, fun H => m = ds.length - i ∧ ∃ ω' t' acc us, ω1.le ω' ∧ Stp ωb Hb ω' H ∧ Ok (c.hold L) ω' H σ e1 t' ∧ H L = some (.lst us) ∧ Reps c.K ω' acc us ∧ lcGo g cond elt vs e1 (ds.drop (i + 1)) acc t' K, fun H' ⟨_, h⟩ => ⟨ds.length - (i + 1), by omega, rfl, h⟩, fun x H' y => ?_⟩
    obtain ⟨rfl, hx⟩ := j3 x H' y
    have hd : ds.drop i = ds[i] :: ds.drop (i + 1) := List.drop_eq_getElem_cons hi
    rw [hd] at z2
    refine rg (c.hold L) rfl (wipe σ vs) H' x _ ω2 (wipeE e1 vs) t2 ds[i] (ok2.wipe vs) (hx _ (List.getElem?_eq_getElem hi)) (mg _ _ _ _ (fun e3 ⟨ofl, z3⟩ σ3 off ok3 => ?_) (lg _ _ _ z2))
    have c1 : ∀ j, j ∉ vs → e3[j]? = e1[j]? := fun j h => (ofl.2 j fun q => h (hus j q)).trans (wipeE_out h)
    have c2 : ∀ j, j ∉ vs → σ3[j]? = σ[j]? := fun j h => (off.2 j fun q => h (hus j q)).trans (wipe_off h)
    refine ⟨wipe_same off hus, L, ω2, e3, t2, ok3, mc _ _ _ _ (fun b e4 t4 z4 b' ω4 H4 s4 ok4 hb => ?_) z3⟩
    subst hb
    obtain ⟨rfl, z4⟩ := z4
    have hg2 : ω2.g ≠ some L := (ok2.pr L (.inr rfl)).2.2
    have hl4 : H4 L = some (.lst us2) := s4.fr L _ hl2 hg2
    cases b' with
    | false =>
      refine (if_neg Bool.false_ne_true).mpr ⟨hm, ω4, t4, acc, us2, le2.trans s4.le, s2.trans s4, ok2.back ok4 s4.le c1 c2 hown, hl4, r2.mono s4.le, (if_neg Bool.false_ne_true).mp z4⟩
    | true =>
      refine (if_pos rfl).mpr ⟨L, ω4, e4, t4, ok4, me _ _ _ _ (fun ev e5 t5 z5 y ω5 H5 s5 ok5 r5 => ?_) ((if_pos rfl).mp z4)⟩
      obtain ⟨rfl, zl, z5⟩ := z5
      obtain ⟨ω6, ok6, s6, r6⟩ := give ok5 r5
      have hg4 : ω4.g ≠ some L := (ok4.pr L (.inr rfl)).2.2
      have hl5 : H5 L = some (.lst us2) := s5.fr L _ hl4 hg4
      have s26 : Stp ω2 H' ω6 H5 := (s4.trans s5).trans s6
      have ok7 : Ok (c.hold L) ω6 H5 σ e1 t5 := ok2.back ok6 s26.le c1 c2 hown
      refine ⟨us2, hl5, by rw [r2.length]; exact zl, hm, ω6, t5, acc ++ [ev.d], us2 ++ [y], le2.trans s26.le, ⟨(s2.trans s26).le, fun b o h n => ?_, (s2.trans s26).ng⟩, ok7.turnP n0 _, upd_same, (r2.mono s26.le).append (Reps.cons r6 Reps.nil), z5⟩
      rw [upd_ne (ne_of_none h hLb)]
      exact (s2.trans s26).fr b o h n
  · refine .inl ⟨j2 (by omega), ?_⟩
    rw [List.drop_eq_nil_of_le (by omega)] at z2
    exact hK acc t2 ω2 H us2 z2 le2 s2 ok2 hl2 r2
theorem run_lc2 {tg it tg1 it1 : Expr} {X' : Cx} {wi : TI} {wi1 : C → TI} {src src1 : WA} {t t1 : TG} {g g1 : WG} {cond cond1 : WT} {elt : WE} {vs us vs1 us1 : List Nat} (hi : SI X c tg it wi src) (hi1 : ∀ c' : C, c'.K = c.K → SI X' c' tg1 it1 (wi1 c') src1) (hus : ∀ i ∈ us, i ∈ vs) (hus1 : ∀ i ∈ us1, i ∈ vs1)
    (mg : ∀ d env Q Q', (∀ e, Q e → Q' e) → g d env Q → g d env Q') (lg : ∀ d env Q, g d env Q → g d env fun e => Offl us env e ∧ Q e)
    (rg : ∀ c' : C, c'.K = c.K → ∀ (σ : L2.St) (H : Hp) (v : V) (Q : L2.St → Hp → Prop) (ω : Wd) (env : En) (tk : Tk) (d : D), Ok c' ω H σ env tk → Rep c'.K ω d v → g d env (fun env' => ∀ σ', Off us σ σ' → Ok c' ω H σ' env' tk → Q σ' H) → t v σ H Q)
    (mg1 : ∀ d env Q Q', (∀ e, Q e → Q' e) → g1 d env Q → g1 d env Q') (lg1 : ∀ d env Q, g1 d env Q → g1 d env fun e => Offl us1 env e ∧ Q e)
    (rg1 : ∀ c' : C, c'.K = c.K → ∀ (σ : L2.St) (H : Hp) (v : V) (Q : L2.St → Hp → Prop) (ω : Wd) (env : En) (tk : Tk) (d : D), Ok c' ω H σ env tk → Rep c'.K ω d v → g1 d env (fun env' => ∀ σ', Off us1 σ σ' → Ok c' ω H σ' env' tk → Q σ' H) → t1 v σ H Q)
    (mc : Mon cond) (mc1 : Mon cond1) (me : Mon elt) {σ : L2.St} {H : Hp} {Q : VK} (h : liftE c (wLc2 src g cond src1 g1 cond1 elt vs vs1) σ H Q) :
    tLc2 wi t (fun σ H Q => ∃ L, liftT (c.hold L) cond σ H Q) (fun σ H R => ∃ L, wi1 (c.hold L) σ H R) t1 (fun σ H Q => ∃ L, liftT (c.hold L) cond1 σ H Q) (fun σ H Q => ∃ L, liftE (c.hold L) elt σ H Q) vs vs1 σ H Q := by
  obtain ⟨ω, env, tk, ok, q⟩ := h
  refine hi.run σ H _ ⟨ω, env, tk, ok, hi.mon _ _ _ _ (fun ds e1 tk1 z J ω1 H1 st ok1 srcJ L hL => ?_) q⟩
  obtain ⟨hno, z⟩ := z
  have n0 : c.H0 L = none := ok1.noH0 hL
  have hown := noOwn_at hno
  refine ⟨fun i m Hz => m = ds.length - i ∧ ∃ ω' t' acc us, Stp ω1 H1 ω' Hz ∧ Ok (c.hold L) ω' Hz σ e1 t' ∧ Hz L = some (.lst us) ∧ Reps c.K ω' acc us ∧ lcGo2 g cond src1 g1 cond1 elt vs vs1 e1 (ds.drop i) acc t' (fun acc t' => ∀ v ω' H', Stp ω H ω' H' → Ok c ω' H' σ e1 t' → RepE c ω' H' σ e1 (.own acc) v → Q v H'), ⟨ds.length, rfl, ω1, tk1, [], [], .newL hL _, ok1.hold hL _, upd_same, .nil, ?_⟩, fun i m H2 ⟨hm, ω2, t2, acc, us2, s2, ok2, hl2, r2, z2⟩ => ?_⟩
  · exact z
  obtain ⟨j1, j2, j3⟩ := srcJ i ω2 H2 s2.le ok2.sub
  by_cases hlt : i < ds.length
  · refine .inr ⟨j1 hlt, fun Hz => m = ds.length - i ∧ ∃ ω' t' acc us, Stp ω1 H1 ω' Hz ∧ Ok (c.hold L) ω' Hz σ e1 t' ∧ Hz L = some (.lst us) ∧ Reps c.K ω' acc us ∧ lcGo2 g cond src1 g1 cond1 elt vs vs1 e1 (ds.drop (i + 1)) acc t' _, fun H' ⟨_, h⟩ => ⟨ds.length - (i + 1), by omega, rfl, h⟩, fun x H' y => ?_⟩
    obtain ⟨rfl, hx⟩ := j3 x H' y
    have hd : ds.drop i = ds[i] :: ds.drop (i + 1) := List.drop_eq_getElem_cons hlt
    rw [hd] at z2
    refine rg (c.hold L) rfl (wipe σ vs) H' x _ ω2 (wipeE e1 vs) t2 ds[i] (ok2.wipe vs) (hx _ (List.getElem?_eq_getElem hlt)) (mg _ _ _ _ (fun e3 ⟨ofl, z3⟩ σ3 off ok3 => ?_) (lg _ _ _ z2))
    have c1 : ∀ j, j ∉ vs → e3[j]? = e1[j]? := fun j h => (ofl.2 j fun q => h (hus j q)).trans (wipeE_out h)
    have c2 : ∀ j, j ∉ vs → σ3[j]? = σ[j]? := fun j h => (off.2 j fun q => h (hus j q)).trans (wipe_off h)
    refine ⟨wipe_same off hus, L, ω2, e3, t2, ok3, mc _ _ _ _ (fun b e4 t4 z4 b' ω4 H4 s4 ok4 hb => ?_) z3⟩
    subst hb
    obtain ⟨rfl, z4⟩ := z4
    have hg2 : ω2.g ≠ some L := (ok2.pr L (.inr rfl)).2.2
    have hl4 : H4 L = some (.lst us2) := s4.fr L _ hl2 hg2
    cases b' with
    | false =>
      refine (if_neg Bool.false_ne_true).mpr ⟨hm, ω4, t4, acc, us2, s2.trans s4, ok2.back ok4 s4.le c1 c2 hown, hl4, r2.mono s4.le, (if_neg Bool.false_ne_true).mp z4⟩
    | true =>
      refine (if_pos rfl).mpr ⟨L, (hi1 (c.hold L) rfl).run σ3 H4 _ ⟨ω4, e4, t4, ok4, (hi1 (c.hold L) rfl).mon _ _ _ _ (fun ds1 e5 t5 z5 J1 ω5 H5 s5 ok5 src5 => ?_) ((if_pos rfl).mp z4)⟩⟩
      obtain ⟨rfl, hno1, z5⟩ := z5
      have hg4 : ω4.g ≠ some L := (ok4.pr L (.inr rfl)).2.2
      have hl5 : H5 L = some (.lst us2) := s5.fr L _ hl4 hg4
      have s25 : Stp ω1 H1 ω5 H5 := (s2.trans s4).trans s5
      refine lc_inner (c := c) ok5 src5 n0 hL s25 hl5 (r2.mono (s4.le.trans s5.le)) hus1 hno1 mg1 lg1 rg1 mc1 me z5 fun acc' t6 ω6 H6 us6 k6 le6 s6 ok6 hl6 r6 => ?_
      exact ⟨hm, ω6, t6, acc', us6, s6, ok2.back ok6 ((s4.le.trans s5.le).trans le6) c1 c2 hown, hl6, r6, k6⟩
  · refine .inl ⟨j2 (by omega), ?_⟩
    rw [List.drop_eq_nil_of_le (by omega)] at z2
    obtain ⟨p1, p2, p3⟩ := ok2.pr L (.inr rfl)
    exact z2 _ ω2 H2 (st.trans s2) ok2.unhold ⟨L, rfl, ⟨us2, hl2, p2, p3, ⟨ok1.noH0 hL, ok1.nopr hL⟩, r2⟩, fun i es he hp => by
      obtain ⟨v, g1, q, rfl, vs, a1, a2, a3, a4, a5⟩ := ok2.slots i _ he
      rw [hp] at g1
      cases g1
      exact a4.2 (.inr rfl)⟩
structure SLc2 (X : Cx) (c : C) (scope : Scope) (own : List (Str × Nat)) (vs1 : List Nat) (tg : Expr) (t : TG) (g : WG) (us : List Nat) (ifs : List Expr) (cond : WT) (tg1 it1 : Expr) (wi1 : C → TI) (src1 : WA) (t1 : TG) (g1 : WG) (us1 : List Nat) (ifs1 : List Expr) (cond1 : WT) (elt : Expr) (w : WE) : Prop where
  ok : BlkOk X.N X.env.scope scope own
  tgt : ∀ (c' : C) (hK : c'.K = c.K) (s : Shared) (H : Hp) (C : Addr) (cl : List (Str × Addr)) (fp : List Addr), SG (cxb X scope s H C cl fp) c' tg t g us
  ifs : ∀ (c' : C) (hK : c'.K = c.K) (s : Shared) (H : Hp) (C : Addr) (cl : List (Str × Addr)) (fp : List Addr), STs (cxb X scope s H C cl fp) c' ifs cond
  src : ∀ (c' : C) (hK : c'.K = c.K) (s : Shared) (H : Hp) (C : Addr) (cl : List (Str × Addr)) (fp : List Addr), SI (cxb X scope s H C cl fp) c' tg1 it1 (wi1 c') src1
  tgt1 : ∀ (c' : C) (hK : c'.K = c.K) (s : Shared) (H : Hp) (C : Addr) (cl : List (Str × Addr)) (fp : List Addr), SG (cxb X scope s H C cl fp) c' tg1 t1 g1 us1
  ifs1 : ∀ (c' : C) (hK : c'.K = c.K) (s : Shared) (H : Hp) (C : Addr) (cl : List (Str × Addr)) (fp : List Addr), STs (cxb X scope s H C cl fp) c' ifs1 cond1
  elt : ∀ (c' : C) (hK : c'.K = c.K) (s : Shared) (H : Hp) (C : Addr) (cl : List (Str × Addr)) (fp : List Addr), SE (cxb X scope s H C cl fp) c' elt w
  sub : ∀ i ∈ us, i ∈ own.map (·.2)
  sub1 : ∀ i ∈ us1, i ∈ vs1
  subv : ∀ i ∈ vs1, i ∈ own.map (·.2)
theorem Mon.lc2 {src src1 : WA} {g g1 : WG} {cond cond1 : WT} {elt : WE} {vs vs1 : List Nat} (ms : Mon src) (mg : ∀ d env Q Q', (∀ e, Q e → Q' e) → g d env Q → g d env Q') (mg1 : ∀ d env Q Q', (∀ e, Q e → Q' e) → g1 d env Q → g1 d env Q') (mc : Mon cond) (mc1 : Mon cond1) (ms1 : Mon src1) (me : Mon elt) : Mon (wLc2 src g cond src1 g1 cond1 elt vs vs1) := fun env tk Q Q' h q =>
  ms _ _ _ _ (fun ds e t z => ⟨z.1, lcGo2_mono mg mg1 mc mc1 ms1 me (fun a t' z => h _ _ _ z) ds [] t z.2⟩) q
variable {tg it tg1 it1 elt : Expr} {ifs ifs1 : List Expr} {scope : Scope} {own : List (Str × Nat)} {vs1 : List Nat} {pos : Pos} {wi : TI} {wi1 : C → TI} {src src1 : WA} {t t1 : TG} {g g1 : WG} {cond cond1 : WT} {w : WE} {us us1 : List Nat}
theorem se_lc2 (s0 : Shared) (hc : X.calm = true) (hN : X.N.Nodup) (hi : SI X c tg it wi src) (h : SLc2 X c scope own vs1 tg t g us ifs cond tg1 it1 wi1 src1 t1 g1 us1 ifs1 cond1 elt w) (hs : ∀ x, foldedSetIterable it X.env x = pure x := by intro _; rfl) (hs1 : ∀ env x, foldedSetIterable it1 env x = pure x := by intro _ _; rfl) :
    SE X c (.ListComp elt [⟨tg, it, ifs, 0⟩, ⟨tg1, it1, ifs1, 0⟩] scope pos) (wLc2 src g cond src1 g1 cond1 w (own.map (·.2)) vs1) := by
  have g0 := h.tgt c rfl s0 (fun _ => none) 0 [] []
  have c0 := h.ifs c rfl s0 (fun _ => none) 0 [] []
  have e0 := h.elt c rfl s0 (fun _ => none) 0 [] []
  have g10 := h.tgt1 c rfl s0 (fun _ => none) 0 [] []
  have c10 := h.ifs1 c rfl s0 (fun _ => none) 0 [] []
  have i10 := h.src c rfl s0 (fun _ => none) 0 [] []
  refine ⟨.lc2 hi.mon g0.mon g10.mon c0.mon c10.mon i10.mon e0.mon, (pe_lc2 hc hN hi.pi h.ok h.subv (fun s H C cl fp => (h.tgt c rfl s H C cl fp).pg) (fun s H C cl fp => pts_ex fun L => (h.ifs (c.hold L) rfl s H C cl fp).run) (fun s H C cl fp => pi_ex fun L => (h.src (c.hold L) rfl s H C cl fp).pi) (fun s H C cl fp => (h.tgt1 c rfl s H C cl fp).pg) (fun s H C cl fp => pts_ex fun L => (h.ifs1 (c.hold L) rfl s H C cl fp).run) (fun s H C cl fp => pe_ex fun L => (h.elt (c.hold L) rfl s H C cl fp).run) hs hs1).wk fun σ H Q q => ?_⟩
  exact run_lc2 hi (fun c' hK => h.src c' hK s0 (fun _ => none) 0 [] []) h.sub h.sub1 g0.mon g0.loc (fun c' hK => (h.tgt c' hK s0 (fun _ => none) 0 [] []).run) g10.mon g10.loc (fun c' hK => (h.tgt1 c' hK s0 (fun _ => none) 0 [] []).run) c0.mon c10.mon e0.mon q
theorem ss_setLc2 {i : Nat} {y : Str} {py spos : Pos} (s0 : Shared) (hc : X.calm = true) (hN : X.N.Nodup) (hy : X.N[i]? = some y) (hyl : X.env.scope.names.lookup y = some .local)
    (hsw : swapsWith (.ListComp elt [⟨tg, it, ifs, 0⟩, ⟨tg1, it1, ifs1, 0⟩] scope pos) (some (.Name y py)) spos.line X.env = pure true) (hi : SI X c tg it wi src) (h : SLc2 X c scope own vs1 tg t g us ifs cond tg1 it1 wi1 src1 t1 g1 us1 ifs1 cond1 elt w) (hs : ∀ x, foldedSetIterable it X.env x = pure x := by intro _; rfl) (hs1 : ∀ env x, foldedSetIterable it1 env x = pure x := by intro _ _; rfl) :
    SS X c (.Assign [.Name y py] (.ListComp elt [⟨tg, it, ifs, 0⟩, ⟨tg1, it1, ifs1, 0⟩] scope pos) spos) (wSet i (wLc2 src g cond src1 g1 cond1 w (own.map (·.2)) vs1)) := by
  have g0 := h.tgt c rfl s0 (fun _ => none) 0 [] []
  have c0 := h.ifs c rfl s0 (fun _ => none) 0 [] []
  have e0 := h.elt c rfl s0 (fun _ => none) 0 [] []
  have g10 := h.tgt1 c rfl s0 (fun _ => none) 0 [] []
  have c10 := h.ifs1 c rfl s0 (fun _ => none) 0 [] []
  have i10 := h.src c rfl s0 (fun _ => none) 0 [] []
  have m : Mon (wLc2 src g cond src1 g1 cond1 w (own.map (·.2)) vs1) := .lc2 hi.mon g0.mon g10.mon c0.mon c10.mon i10.mon e0.mon
  refine ⟨.set m, (ps_setLc2 hc hN hy hyl hsw hi.pi h.ok h.subv (fun s H C cl fp => (h.tgt c rfl s H C cl fp).pg) (fun s H C cl fp => pts_ex fun L => (h.ifs (c.hold L) rfl s H C cl fp).run) (fun s H C cl fp => pi_ex fun L => (h.src (c.hold L) rfl s H C cl fp).pi) (fun s H C cl fp => (h.tgt1 c rfl s H C cl fp).pg) (fun s H C cl fp => pts_ex fun L => (h.ifs1 (c.hold L) rfl s H C cl fp).run) (fun s H C cl fp => pe_ex fun L => (h.elt (c.hold L) rfl s H C cl fp).run) hs hs1).wk fun D σ H q => ?_⟩
  exact run_lc2 hi (fun c' hK => h.src c' hK s0 (fun _ => none) 0 [] []) h.sub h.sub1 g0.mon g0.loc (fun c' hK => (h.tgt c' hK s0 (fun _ => none) 0 [] []).run) g10.mon g10.loc (fun c' hK => (h.tgt1 c' hK s0 (fun _ => none) 0 [] []).run) c0.mon c10.mon e0.mon (run_set m q)
end
end DL
namespace DL
open PySem PySem.Spec PyProof.Rows L2
section
variable {X : Cx} {c : C} {a b d e : Expr} {wa wb wd we : WD} {pos p p2 : Pos}
/-! ### a op b op d op e -/
def tChain3 (r r' r2 : R2) (ta tb tc td : TE) : TE := fun σ H Q => ta σ H fun x H1 => tb σ H1 fun y H2 => r x y H2 fun z H3 => ∃ k, z = .bl k ∧
  (if k = true then tc σ H3 fun y' H4 => r' y y' H4 fun z' H5 => ∃ k', z' = .bl k' ∧ (if k' = true then td σ H5 fun w' H6 => r2 y' w' H6 Q else Q (.bl false) H5) else Q (.bl false) H3)
theorem pe_chain3 {op op' op2 : CmpOp} {r r' r2 : R2} {ta tb tc td : TE} (ho : OpR X (compareOp op) r) (ho' : OpR X (compareOp op') r') (ho2 : OpR X (compareOp op2) r2) (ha : PE X a ta) (hb : PE X b tb) (hc : PE X d tc) (hd : PE X e td)
    (hm : lastMarks [op, op', op2] [b, d, e] = false := by with_unfolding_all rfl) : PE X (.Compare a [op, op', op2] [b, d, e] pos) (tChain3 r r' r2 ta tb tc td) := by
  refine ⟨fun pins s σ H Q I h => ?_⟩
  refine Compare_chain (thn (ha.run pins s σ H _ I h) fun v s1 ⟨x, H1, I1, r1, q1⟩ => chain_link (thn (hb.run pins s1 σ H1 _ I1 q1) fun u s2 ⟨y, H2, I2, rr2, q2⟩ =>
    thn (ho pins s2 σ H2 x y v u _ I2 r1 rr2 q2) fun _ s3 ⟨z, H3, I3, r3, k, ek, q3⟩ => ?_)) hm
  subst ek
  cases r3
  refine wpAny_truthy_bool ?_
  cases k with
  | false => exact ite_ff ⟨.bl false, H3, I3, rfl, q3⟩
  | true =>
    refine ite_tt (chain_link (thn (hc.run pins s3 σ H3 _ I3 q3) fun u' s4 ⟨y', H4, I4, r4, q4⟩ => thn (ho' pins s4 σ H4 y y' u u' _ I4 rr2 r4 q4) fun _ s5 ⟨z', H5, I5, r5, k', ek', q5⟩ => ?_))
    subst ek'
    cases r5
    refine wpAny_truthy_bool ?_
    cases k' with
    | false => exact ite_ff ⟨.bl false, H5, I5, rfl, q5⟩
    | true => exact ite_tt (chain_last (thn (hd.run pins s5 σ H5 _ I5 q5) fun w' s6 ⟨z', H6, I6, r6, q6⟩ => ho2 pins s6 σ H6 y' z' u' w' Q I6 r4 r6 q6))
theorem pt_chain3 {op op' op2 : CmpOp} {r r' r2 : R2} {ta tb tc td : TE} (ho : OpR X (compareOp op) r) (ho' : OpR X (compareOp op') r') (ho2 : OpR X (compareOp op2) r2) (ha : PE X a ta) (hb : PE X b tb) (hc : PE X d tc) (hd : PE X e td)
    (hm : lastMarks [op, op', op2] [b, d, e] = false := by with_unfolding_all rfl) : PT X (.Compare a [op, op', op2] [b, d, e] pos) (tTest (tChain3 r r' r2 ta tb tc td)) := by
  refine ⟨fun pins s σ H Q I h => ?_⟩
  refine isTrue_chain (thn (ha.run pins s σ H _ I h) fun v s1 ⟨x, H1, I1, r1, q1⟩ => test_link (thn (hb.run pins s1 σ H1 _ I1 q1) fun u s2 ⟨y, H2, I2, rr2, q2⟩ =>
    thn (ho pins s2 σ H2 x y v u _ I2 r1 rr2 q2) fun _ s3 ⟨z, H3, I3, r3, k, ek, q3⟩ => ?_)) hm
  subst ek
  cases r3
  refine wpAny_truthy_bool ?_
  cases k with
  | false =>
    obtain ⟨k', e', q'⟩ := q3
    cases e'
    exact ite_ff ⟨H3, I3, q'⟩
  | true =>
    refine ite_tt (test_link (thn (hc.run pins s3 σ H3 _ I3 q3) fun u' s4 ⟨y', H4, I4, r4, q4⟩ => thn (ho' pins s4 σ H4 y y' u u' _ I4 rr2 r4 q4) fun _ s5 ⟨z', H5, I5, r5, k', ek', q5⟩ => ?_))
    subst ek'
    cases r5
    refine wpAny_truthy_bool ?_
    cases k' with
    | false =>
      obtain ⟨k', e', q'⟩ := q5
      cases e'
      exact ite_ff ⟨H5, I5, q'⟩
    | true =>
      refine ite_tt (test_last (thn (hd.run pins s5 σ H5 _ I5 q5) fun w' s6 ⟨z', H6, I6, r6, q6⟩ => thn (ho2 pins s6 σ H6 y' z' u' w' _ I6 r4 r6 q6) fun _ s7 ⟨z2, H7, I7, r7, k2, e2, q7⟩ => ?_))
      subst e2
      cases r7
      exact wpAny_truthy_bool ⟨H7, I7, q7⟩
def wChain3 (f g h : FOp) (a b d e : WD) : WE := fun env tk Q => a env tk fun x e1 t1 => b e1 t1 fun y e2 t2 => f x y fun ev => match ev with
  | .val (.bl k) => if k = true then d e2 t2 fun z e3 t3 => g y z fun ev => (match ev with
      | .val (.bl k) => if k = true then e e3 t3 fun w e4 t4 => h z w fun ev => Q ev e4 t4 else Q (.val (.bl false)) e3 t3
      | _ => False) else Q (.val (.bl false)) e2 t2
  | _ => False
theorem Mon.chain3 {f g h : FOp} {a b d e : WD} (mf : MonF f) (mg : MonF g) (mh : MonF h) (ma : Mon a) (mb : Mon b) (md : Mon d) (me : Mon e) : Mon (wChain3 f g h a b d e) := fun env tk Q Q' hh q =>
  ma _ _ _ _ (fun x e1 t1 h1 => mb _ _ _ _ (fun y e2 t2 h2 => mf _ _ _ _ (fun ev z => by
    cases ev with
    | own ds => exact z
    | dct p k => exact z
    | val v => cases v <;> first | exact (show False from z).elim | (rename_i k; cases k with
      | true =>
        refine (if_pos rfl).mpr (md _ _ _ _ (fun w e3 t3 h3 => mg _ _ _ _ (fun ev z => ?_) h3) ((if_pos rfl).mp z))
        cases ev with
        | own ds => exact z
        | dct p k => exact z
        | val v => cases v <;> first | exact (show False from z).elim | (rename_i k; cases k with
          | true => exact (if_pos rfl).mpr (me _ _ _ _ (fun w e4 t4 h4 => mh _ _ _ _ (fun ev => hh ev e4 t4) h4) ((if_pos rfl).mp z))
          | false => exact (if_neg Bool.false_ne_true).mpr (hh _ _ _ ((if_neg Bool.false_ne_true).mp z)))
      | false => exact (if_neg Bool.false_ne_true).mpr (hh _ _ _ ((if_neg Bool.false_ne_true).mp z)))) h2) h1) q
theorem run_chain3 {r r' r2 : R2} {f g h : FOp} (mf : MonF f) (mg : MonF g) (mh : MonF h) (od : OpD c r f) (od' : OpD c r' g) (od2 : OpD c r2 h) (ha : SP X c a wa) (hb : SP X c b wb) (hd : SP X c d wd) (he : SP X c e we) {σ : L2.St} {H : Hp} {Q : VK} (h0 : liftE c (wChain3 f g h wa wb wd we) σ H Q) :
    tChain3 r r' r2 (liftP c wa) (liftP c wb) (liftP c wd) (liftP c we) σ H Q := by
  obtain ⟨ω, env, tk, ok, h0⟩ := h0
  refine ⟨ω, env, tk, ok, ha.mon _ _ _ _ (fun x e1 t1 h1 v ω1 H1 s1 ok1 r1 => ?_) h0⟩
  refine ⟨ω1, e1, t1, ok1, hb.mon _ _ _ _ (fun y e2 t2 h2 u ω2 H2 s2 ok2 r2 => ?_) h1⟩
  refine od ω2 H2 σ e2 t2 x y v u _ _ ok2 (r1.step s2) r2 h2 fun ev v' ω' H' q st ok' r' => ?_
  cases ev with
  | own ds => exact (show False from q).elim
  | dct p k => exact (show False from q).elim
  | val dd => cases dd <;> first
      | exact (show False from q).elim
      | (have r'' := r'.bl
         subst r''
         rename_i k
         refine ⟨k, rfl, ?_⟩
         cases k with
         | false => exact (if_neg Bool.false_ne_true).mpr (((if_neg Bool.false_ne_true).mp q) _ ω' H' ((s1.trans s2).trans st) ok' RepE.mkbl)
         | true =>
           refine (if_pos rfl).mpr ⟨ω', e2, t2, ok', hd.mon _ _ _ _ (fun z e3 t3 h3 w ω3 H3 s3 ok3 r3 => ?_) ((if_pos rfl).mp q)⟩
           refine od' ω3 H3 σ e3 t3 y z u w _ _ ok3 ((r2.step st).step s3) r3 h3 fun ev2 v2 ω4 H4 q4 st4 ok4 r4 => ?_
           cases ev2 with
           | own ds => exact (show False from q4).elim
           | dct p k => exact (show False from q4).elim
           | val dd2 => cases dd2 <;> first
               | exact (show False from q4).elim
               | (have r4' := r4.bl
                  subst r4'
                  rename_i k4
                  refine ⟨k4, rfl, ?_⟩
                  cases k4 with
                  | false => exact (if_neg Bool.false_ne_true).mpr (((if_neg Bool.false_ne_true).mp q4) _ ω4 H4 ((((s1.trans s2).trans st).trans s3).trans st4) ok4 RepE.mkbl)
                  | true =>
                    refine (if_pos rfl).mpr ⟨ω4, e3, t3, ok4, he.mon _ _ _ _ (fun z5 e5 t5 h5 w5 ω5 H5 s5 ok5 r5 => ?_) ((if_pos rfl).mp q4)⟩
                    exact od2 ω5 H5 σ e5 t5 z z5 w w5 _ Q ok5 ((r3.step st4).step s5) r5 h5 fun ev v' ω' H' q st' ok' r' => q v' ω' H' ((((((s1.trans s2).trans st).trans s3).trans st4).trans s5).trans st') ok' r'))
theorem se_chain3 {op op' op2 : CmpOp} {r r' r2 : R2} {f g h : FOp} (ho : OpR X (compareOp op) r) (ho' : OpR X (compareOp op') r') (ho2 : OpR X (compareOp op2) r2) (mf : MonF f) (mg : MonF g) (mh : MonF h) (od : OpD c r f) (od' : OpD c r' g) (od2 : OpD c r2 h) (ha : SP X c a wa) (hb : SP X c b wb) (hd : SP X c d wd) (he : SP X c e we)
    (hm : lastMarks [op, op', op2] [b, d, e] = false := by with_unfolding_all rfl) : SE X c (.Compare a [op, op', op2] [b, d, e] pos) (wChain3 f g h wa wb wd we) :=
  ⟨.chain3 mf mg mh ha.mon hb.mon hd.mon he.mon, (pe_chain3 ho ho' ho2 ha.run hb.run hd.run he.run hm).wk fun _ _ _ q => run_chain3 mf mg mh od od' od2 ha hb hd he q⟩
theorem st_chain3 {op op' op2 : CmpOp} {r r' r2 : R2} {f g h : FOp} (ho : OpR X (compareOp op) r) (ho' : OpR X (compareOp op') r') (ho2 : OpR X (compareOp op2) r2) (mf : MonF f) (mg : MonF g) (mh : MonF h) (od : OpD c r f) (od' : OpD c r' g) (od2 : OpD c r2 h) (ha : SP X c a wa) (hb : SP X c b wb) (hd : SP X c d wd) (he : SP X c e we)
    (hm : lastMarks [op, op', op2] [b, d, e] = false := by with_unfolding_all rfl) : ST X c (.Compare a [op, op', op2] [b, d, e] pos) (wT (wChain3 f g h wa wb wd we)) :=
  ⟨(Mon.chain3 mf mg mh ha.mon hb.mon hd.mon he.mon).t, (pt_chain3 ho ho' ho2 ha.run hb.run hd.run he.run hm).wk fun _ _ _ q => run_chain3 mf mg mh od od' od2 ha hb hd he (liftE_bl (.chain3 mf mg mh ha.mon hb.mon hd.mon he.mon) q)⟩

/-! ### a list just made, appended to and dropped -/
theorem Ok.holdOwn {ω : Wd} {H : Hp} {σ : L2.St} {env : En} {tk : Tk} {q : Addr} {ds : List D} (ok : Ok c ω H σ env tk) (o : OwnAt c ω H q ds) (hn : ∀ (i : Nat) (es : List D), env[i]? = some (some (.own es)) → σ[i]? ≠ some (some (.ref q))) : Ok (c.hold q) ω H σ env tk where
  len := ok.len
  sub := ok.sub
  st := ok.st
  slots := fun i e he => by
    obtain ⟨v, g1, g2⟩ := ok.slots i e he
    refine ⟨v, g1, ?_⟩
    cases e with
    | val d => exact g2
    | own ds =>
      obtain ⟨t, rfl, us, a1, a2, a3, a4, a5⟩ := g2
      refine ⟨t, rfl, us, a1, a2, a3, ⟨a4.1, fun z => ?_⟩, a5⟩
      rcases z with z | z
      · exact a4.2 z
      · subst z
        exact hn i ds he g1
    | dct t ds =>
      obtain ⟨rfl, us, a1, a2, a3, a4, a5⟩ := g2
      refine ⟨rfl, us, a1, a2, a3, ⟨a4.1, fun z => ?_⟩, a5⟩
      rcases z with z | z
      · exact a4.2 z
      · obtain ⟨ws, b1, _⟩ := o
        exact dct_lst a1 b1 z
  dist := ok.dist
  one := ok.one
  new := ok.new
  ng := ok.ng
  fr := ok.fr
  le0 := ok.le0
  pr := fun b z => by
    rcases z with z | z
    · exact ok.pr b z
    · subst z
      obtain ⟨us, a1, a2, a3, a4, a5⟩ := o
      exact ⟨by rw [a1]; exact fun z => (nomatch z), a2, a3⟩
def wAppX (w : WE) (u : WD) : WS := fun P env tk => w env tk fun ev e t => match ev with
  | .own ds => ds.length < sizeLine ∧ u e t fun _ e' t' => P.nx e' t'
  | _ => False
theorem ss_appX {apos : Pos} {w : WE} {u : WD} (hw : SE X c e w) (hv : ∀ c' : C, c'.K = c.K → SD X c' a u) (hline : (apos.endLine == pos.line) = true := by rfl) (hs : starEach [a] X.env = [(false, eval a X.env)] := by rfl)
    (hsw : swapsWith (.Call (.Attribute e "append" apos) [a] [] pos) none p2.line X.env = pure false := by rfl) (hbase : attributeBase e "append" X.env (eval e X.env) = eval e X.env := by rfl)
    (hfew : ((backTo pos (starEach [a] X.env)).all (fun x => !x.1) && (backToKw pos (keywordEach [] X.env)).all (fun x => x.1.isSome)
      && decide (([a] : List Expr).length + ([] : List Keyword).length + (if ([] : List Keyword).isEmpty then 0 else 1) < 30)) = true := by rfl) : SS X c (.Expr (.Call (.Attribute e "append" apos) [a] [] pos) p2) (wAppX w u) := by
  have m1 := (hv c rfl).mon
  have hv' : PE X a fun σ H Q => ∃ q, liftD (c.hold q) u σ H Q := pe_ex fun q => (hv (c.hold q) rfl).run
  refine ⟨fun P P' env tk l q => hw.mon _ _ _ _ (fun ev e t z => by cases ev <;> first | exact (show False from z).elim | exact ⟨z.1, m1 _ _ _ _ (fun _ _ _ z => l.nx _ _ z) z.2⟩) q, (ps_expr (pe_bm PySem.F.plainAttrs_list PySem.F.slot_list_append PySem.F.type_list_append mt_append hw.run (pa_cons hv' pa_nil hs) hbase hfew hline hs rfl) hsw).wk fun D σ H ⟨ω, env, tk, ok, q⟩ => ?_⟩
  refine ⟨ω, env, tk, ok, hw.mon _ _ _ _ (fun ev e1 t1 z u1 ω' H' st ok' r => ?_) q⟩
  cases ev with
  | val d => exact (show False from z).elim
  | dct p k => exact (show False from z).elim
  | own ds =>
    obtain ⟨q1, rfl, o, hn⟩ := r
    have o' := o
    obtain ⟨vs, b1, b2, b3, b4, b5⟩ := o
    obtain ⟨z1, z2⟩ := z
    refine ⟨.inl ⟨rfl, _, .of b1⟩, q1, ω', e1, t1, ok'.holdOwn o' hn, m1 _ _ _ _ (fun d e2 t2 z v ω2 H2 s2 ok2 r2 => ?_) z2⟩
    obtain ⟨p1, p2, p3⟩ := ok2.pr q1 (.inr rfl)
    have hl2 : H2 q1 = some (.lst vs) := s2.fr q1 _ b1 b3
    refine ⟨q1, vs, v, rfl, rfl, hl2, by rw [b5.length]; exact z1, z σ ω2 _ (st.le.trans s2.le) ?_⟩
    exact (ok2.turnP b4.1 _).unhold
end
end DL
namespace DL
open PySem PySem.Spec PyProof.Rows L2
/-! ### a, b = x, a tuple or a list -/
def gU (n : Nat) (g : WGs) : WG := fun d env Q => match d with
  | .tup ds => ds.length = n ∧ g ds env Q
  | .lst ds => ds.length = n ∧ g ds env Q
  | _ => False
section
variable {X : Cx} {c : C} {pos : Pos}
theorem sg_any {es : List Expr} {k n : Nat} {t : TGs} {g : WGs} {vs : List Nat} (hK : c.K = X.K) (hc : X.calm = true) (hg : SGs X c es t g vs) (hn : (assignEach es X.env).length = n := by rfl) (hst : (assignEach es X.env).findIdx? (·.1) = none := by rfl) : SG X c (.Tuple es k pos) (fun v σ H Q => gTup X.K n t v σ H Q ∨ gLst X.K n t v σ H Q) (gU n g) vs where
  mon := fun d env Q Q' k q => by cases d <;> first | exact (show False from q).elim | exact ⟨q.1, hg.mon _ _ _ _ k q.2⟩
  loc := fun d env Q q => by cases d <;> first | exact (show False from q).elim | exact ⟨q.1, hg.loc _ _ _ q.2⟩
  pg := ⟨fun pins s σ H v u Q I r hw => hw.elim (fun h => (pg_tup hc hg.pg hn hst).run pins s σ H v u Q I r h) (fun h => (pg_lst hc hg.pg hn hst).run pins s σ H v u Q I r h)⟩
  run := fun σ H v Q ω env tk d ok r q => by
    cases d <;> first | exact (show False from q).elim | skip
    · obtain ⟨a, vs, rfl, h1, h2⟩ := Rep.tup_iff.mp r
      rw [hK] at h1
      exact .inl ⟨a, vs, rfl, sqT_mono ok.sub h1.1, by rw [h2.length]; exact q.1, hg.run σ H vs Q ω env tk _ ok h2 q.2⟩
    · obtain ⟨a, vs, rfl, h1, h2⟩ := Rep.lst_iff.mp r
      rw [hK] at h1
      exact .inr ⟨a, vs, rfl, sqL_mono ok.sub h1, by rw [h2.length]; exact q.1, hg.run σ H vs Q ω env tk _ ok h2 q.2⟩
end
end DL
namespace DL
open PySem PySem.Spec PyProof.Rows L2
/-! ### sorted, of data of any make -/
section
variable {β : Type} {K : PySem.W.Frag} {H : Hp}
/-- what the items stand for -/
structure Pz (K : PySem.W.Frag) (H : Hp) (val : β → V) (enc : β → PyData) (bs : List β) : Prop where
  dp : ∀ b ∈ bs, Dp K H (val b) (enc b)
theorem each_vals {val : β → V} : ∀ {bs : List β} {us : List Value}, Vals (bs.map val) us → PySem.W.EachIs (fun u b => RelV (val b) u) us bs
  | [], _, .nil => .nil
  | _ :: _, _, .cons r t => .cons r (each_vals t)
theorem vals_each {val : β → V} : ∀ {bs : List β} {us : List Value}, PySem.W.EachIs (fun u b => RelV (val b) u) us bs → Vals (bs.map val) us
  | _, _, .nil => .nil
  | _, _, .cons r t => .cons r (vals_each t)
variable {X : Cx}
theorem each_reads {pins : List (Addr × Obj)} {s : Shared} {σ : L2.St} {H : Hp} (I : Inv X pins σ H s) {val : β → V} {enc : β → PyData} : ∀ {bs : List β} {us : List Value}, (∀ b ∈ bs, Dp X.K H (val b) (enc b)) → Vals (bs.map val) us → PySem.W.EachIs (fun u b => ∃ as, Reads s.heap u (enc b) as) us bs
  | [], _, _, .nil => .nil
  | b :: _, _, h, .cons r t => .cons (Dp.reads I _ _ _ (h b List.mem_cons_self) r) (each_reads I (fun b hb => h b (List.mem_cons_of_mem _ hb)) t)
def rSortedD (β : Type) (K : PySem.W.Frag) : List V → Hp → VK → Prop := fun xs H Q => ∃ (l : Addr) (bs : List β) (val : β → V) (enc : β → PyData), xs = [V.ref l] ∧ SqL K H l (bs.map val) ∧ (∀ b ∈ bs, Dp K H (val b) (enc b)) ∧ PySem.W.AllAlike (bs.map enc) ∧ PySem.W.Sortable (bs.map enc) ∧ (∀ b ∈ bs, (enc b).depth ≤ 60) ∧
  ∀ p, H p = none → Q (.ref p) (upd H p (.lst ((bs.mergeSort (PySem.W.dataLe false enc)).map val)))
theorem cr_sortedD (hu : X.A.units + 100 < cLine) : CallR X (.builtin "sorted") (rSortedD β X.K) := by
  intro pins s σ H xs us Q I r h
  obtain ⟨l, bs, val, enc, rfl, hl, hd, hal, hk, hdep, q⟩ := h
  rw [Vals.ref1 r]
  obtain ⟨its, rv, p, hz⟩ := I.list hl
  rw [List.length_map] at hz
  refine PySem.W.sorted_data (enc := enc) p.isList (each_vals rv) (each_reads I hd rv) hal hk hz (fun b hb => by have := hdep b hb; omega) fun out ho he => ?_
  obtain ⟨ep, he'⟩ := PyProof.Rows.sortedAll_at s.heap its out.toArray
  refine ⟨.ref _, upd H (s.heap.objs.size + 1) (.lst ((bs.mergeSort (PySem.W.dataLe false enc)).map val)), I.laid (t' := s.toks) (fun _ _ => PyProof.Rows.sortedAll_old) (Nat.le_succ _) ⟨?_, out, ep, vals_each he, he'⟩, rfl, q _ (I.hok.fresh (Nat.le_succ _))⟩
  rw [List.length_map, List.length_mergeSort]
  exact hz
end
end DL
namespace DL
open PySem PySem.Spec PyProof.Rows L2
/-! ### sorted, of whatever has been gathered -/
theorem each_perm {α β : Type} {R : α → β → Prop} : ∀ {vs us : List α}, us.Perm vs → ∀ {bs : List β}, PySem.W.EachIs R vs bs → ∃ cs : List β, cs.Perm bs ∧ PySem.W.EachIs R us cs := by
  intro vs us h
  induction h with
  | nil => intro bs e; exact ⟨bs, .refl _, e⟩
  | cons x p ih =>
    intro bs e
    cases e with
    | cons r t =>
      obtain ⟨cs, hp, he⟩ := ih t
      exact ⟨_ :: cs, hp.cons _, .cons r he⟩
  | swap x y l =>
    intro bs e
    cases e with
    | cons r t =>
      cases t with
      | cons r2 t2 => exact ⟨_ :: _ :: _, .swap _ _ _, .cons r2 (.cons r t2)⟩
  | trans p1 p2 ih1 ih2 =>
    intro bs e
    obtain ⟨cs, hp, he⟩ := ih2 e
    obtain ⟨ds, hp2, he2⟩ := ih1 he
    exact ⟨ds, hp2.trans hp, he2⟩
section
variable {prog : Program} {w : World} {A : Around} {E : Value → Shared → Prop} {s : Shared} {β : Type} {bs : List β} {enc : β → PyData} {R : Value → β → Prop}
/-- s' has grown out of s -/
structure Grown (s s' : Shared) : Prop where
  old : ∀ b o, s.heap.get? b = some o → s'.heap.get? b = some o
  size : s.heap.objs.size ≤ s'.heap.objs.size
  gens : s'.gens = s.gens
  os : s'.os = s.os
theorem sort_got {src : Addr} {Q : Value → Shared → Prop} (hal : PySem.W.AllAlike (bs.map enc)) (hk : PySem.W.Sortable (bs.map enc)) (hL : bs.length ≤ sizeLine) (hu : ∀ b ∈ bs, A.units + 10 + (enc b).depth < cLine)
    (col : ∀ Q' : List Value → Shared → Prop, (∀ s1 vs cs, Grown s s1 → cs.Perm bs → PySem.W.EachIs R vs cs → PySem.W.EachIs (fun v b => ∃ as, Reads s1.heap v (enc b) as) vs cs → Q' vs s1) → wpAny (model prog w) A.in1 (collect (.ref src)) Q' E s)
    (hQ : ∀ s' p c (out : List Value) (cs : List β), Grown s s' → s.heap.objs.size ≤ p → s'.heap.get? p = some (seqObj "list" out.toArray c) → cs.Perm bs → PySem.W.EachIs R out (cs.mergeSort (PySem.W.dataLe false enc)) → Q (.ref p) s') :
    wpAny (model prog w) A (call (.builtin "sorted") [.ref src]) Q E s := by
  refine Calls.call_function_entry kind_sorted plain_sorted entry_sorted (args_sorted1 _) ?_
  unfold Builtin.«sorted»
  refine wpAny_bind (m := checkCount "sorted" 1 1 _) (wpAny_pure ?_)
  refine wpAny_bind (col _ fun s1 vs cs g pm e er => ?_)
  have vl : vs.length = bs.length := by rw [e.length, pm.length_eq]
  refine wpAny_bind (wpAny_newList ?_ (by rw [vl]; exact hL))
  have there : (s1.heap.push (seqObj "list" vs.toArray 0)).get? s1.heap.objs.size = some (seqObj "list" vs.toArray 0) := Heap.get?_push_size _ rfl
  have keep : ∀ b o, s1.heap.get? b = some o → (PySem.W.sortingHeap (s1.heap.push (seqObj "list" vs.toArray 0)) s1.heap.objs.size vs).get? b = some o := fun b o h =>
    PySem.W.sortingHeap_old (Nat.ne_of_lt (Heap.lt_size h)) (Heap.get?_push_of_some _ h)
  have er2 : PySem.W.EachIs (fun v b => ∃ as, Reads (PySem.W.sortingHeap (s1.heap.push (seqObj "list" vs.toArray 0)) s1.heap.objs.size vs) v (enc b) as) vs cs := er.mono fun _ _ ⟨as, r⟩ => ⟨as, PyProof.Rows.Reads.keeps keep r⟩
  have hal2 : PySem.W.AllAlike (cs.map enc) := fun d hd d' hd' => hal d ((pm.map enc).mem_iff.mp hd) d' ((pm.map enc).mem_iff.mp hd')
  have hk2 : PySem.W.Sortable (cs.map enc) := hk.imp (fun h d hd => h d ((pm.map enc).mem_iff.mp hd)) fun h d hd => h d ((pm.map enc).mem_iff.mp hd)
  refine wpAny_bind (wpAny_holding (wpAny_call_entry slot_list_sort ⟨_, there, rfl⟩ entry_list_sort (PySem.W.list_sort_vals (κ := PySem.W.dataKind (PySem.W.sortingHeap (s1.heap.push (seqObj "list" vs.toArray 0)) s1.heap.objs.size vs) (cs.map enc)) there
    (PySem.W.SortsAt.data (s := { s1 with heap := PySem.W.sortingHeap (s1.heap.push (seqObj "list" vs.toArray 0)) s1.heap.objs.size vs }) (PySem.W.each_map (R := fun v d => ∃ as, Reads (PySem.W.sortingHeap (s1.heap.push (seqObj "list" vs.toArray 0)) s1.heap.objs.size vs) v d as) enc er2) hal2 hk2 (PySem.W.bound_map fun b hb => ?_)) (by rw [vl]; exact hL) ⟨.none, rfl, ?_⟩) (args_list_sort _)))
  · have := hu b (pm.mem_iff.mp hb)
    show A.in1.in1.units + _ < _
    simp only [Around.in1]
    omega
  · have sv := PySem.W.sortVals_data false e er2 hal2
    obtain ⟨c, hc⟩ := sortedHeap_at (out := (PySem.W.sortVals (PySem.W.dataKind (PySem.W.sortingHeap (s1.heap.push (seqObj "list" vs.toArray 0)) s1.heap.objs.size vs) (cs.map enc)) false vs vs).toArray) there
    refine wpAny_pure ⟨_, rfl, hQ _ s1.heap.objs.size c _ cs ⟨fun b o h => ?_, ?_, g.gens, g.os⟩ g.size hc pm sv⟩
    · have h1 := g.old b o h
      have lt := Heap.lt_size h1
      show (sortedHeap (s1.heap.push (seqObj "list" vs.toArray 0)) s1.heap.objs.size vs _).get? b = some o
      rw [sortedHeap_old (Nat.ne_of_lt lt) (by rw [size_push']; exact Nat.lt_succ_of_lt lt)]
      exact Heap.get?_push_of_some _ h1
    · have := Heap.lt_size hc
      exact Nat.le_trans g.size (Nat.le_of_lt this)
end
section
variable {prog : Program} {w : World} {A : Around} {E : Value → Shared → Prop} {s : Shared}
theorem col_tup {Q : List Value → Shared → Prop} {a : Addr} {o : Obj} {items : Array Value} {n : Nat} (ho : s.heap.get? a = some o) (hc : o.cls = .type "tuple") (hd : o.data = .seq items n) (hz : items.size ≤ sizeLine)
    (k : ∀ s1, Grown s s1 → Q items.toList s1) : wpAny (model prog w) A (collect (.ref a)) Q E s := by
  have new : (s.heap.push { cls := .type "list", data := .seq ([] : List Value).toArray }).get? s.heap.objs.size = some { cls := .type "list", data := .seq #[] 0 } := Heap.get?_push_size _ rfl
  have new2 := Heap.get?_update_self (Obj.mapSeq (· ++ items)) new rfl
  have grown : Grown s { s with heap := (s.heap.push { cls := .type "list", data := .seq ([] : List Value).toArray }).update s.heap.objs.size (Obj.mapSeq (· ++ items)) } :=
    ⟨fun b u hb => (Heap.get?_update_other _ _ (Nat.ne_of_gt (Heap.lt_size hb))).trans (Heap.get?_push_of_some _ hb), by
      show s.heap.objs.size ≤ (Heap.update _ _ _).objs.size
      rw [Heap.size_update, size_push']
      exact Nat.le_succ _, rfl, rfl⟩
  have last : wpAny (model prog w) A (match Value.ref s.heap.objs.size with
      | Value.ref a => do
        match (← load a).data with
          | Data.seq xs _ => pure xs.toList
          | _ => unsupported "internal:collect"
      | _ => unsupported "internal:collect") Q E
      { s with heap := (s.heap.push { cls := .type "list", data := .seq ([] : List Value).toArray }).update s.heap.objs.size (Obj.mapSeq (· ++ items)) } := by
    refine wpAny_bind (m := load s.heap.objs.size) (wpAny_load new2 (wpAny_pure ?_))
    have e2 : ((#[] : Array Value) ++ items).toList = items.toList := by simp
    have k2 := k _ grown
    rw [← e2] at k2
    exact k2
  unfold collect
  refine wpAny_bind (wpAny_runValue (codeAny_builtin F.entry_proto_collect ?_))
  rw [Around.under_plainId F.plain_proto_collect _]
  refine wpAny_bind (m := newList []) (wpAny_newObj_type ?_)
  refine wpAny_pure ⟨plainId_quiet F.plain_list_iadd _, codeAny_builtin F.entry_list_iadd ?_⟩
  rw [Around.under_plainId F.plain_list_iadd _]
  refine wpAny_mono (t := Builtin.List.listExtendWith (.ref s.heap.objs.size) (.ref a) (.ref s.heap.objs.size)) (wpAny_extend_seq (hsz := hz) (A := A) (R := fun r s' => r = .ok (.ret (.ref s.heap.objs.size)) ∧
      s' = { s with heap := (s.heap.push { cls := .type "list", data := .seq ([] : List Value).toArray }).update s.heap.objs.size (Obj.mapSeq (· ++ items)) })
    (s := { s with heap := s.heap.push { cls := .type "list", data := .seq ([] : List Value).toArray } }) _ a _ 0 (.inr rfl) new (Heap.get?_push_of_some _ ho) hc hd ⟨rfl, rfl⟩) (fun fin s' h => ?_) fun e s' h => absurd h.1 (by simp)
  cases fin with
  | done f => obtain ⟨e, rfl⟩ := h; cases e; exact last
  | again c' => exact ⟨h.1, codeAny_mono h.2 fun r s2 hr => by obtain ⟨rfl, rfl⟩ := hr; exact last⟩
end
def rSortedDT (β : Type) (K : PySem.W.Frag) : List V → Hp → VK → Prop := fun xs H Q => ∃ (l : Addr) (bs : List β) (val : β → V) (enc : β → PyData), xs = [V.ref l] ∧ SqT K H l (bs.map val) ∧ (∀ b ∈ bs, Dp K H (val b) (enc b)) ∧ PySem.W.AllAlike (bs.map enc) ∧ PySem.W.Sortable (bs.map enc) ∧ (∀ b ∈ bs, (enc b).depth ≤ 60) ∧
  ∀ (p : Addr) (cs : List β), cs.Perm bs → H p = none → Q (.ref p) (upd H p (.lst ((cs.mergeSort (PySem.W.dataLe false enc)).map val)))
theorem inv_grown {X : Cx} {pins : List (Addr × Obj)} {σ : L2.St} {H : Hp} {s s' : Shared} (I : Inv X pins σ H s) (g : Grown s s') {p : Addr} {o : HO} (hp : s.heap.objs.size ≤ p) (ho : ObjOk X.prog X.w (upd H p o) s'.heap p o) : Inv X pins σ (upd H p o) s' := by
  have hn : H p = none := I.hok.fresh hp
  have J : Inv X pins σ (upd H p o) { s with heap := s'.heap, gens := s'.gens, drawn := s'.drawn, toks := s'.toks } :=
    I.call (ch := []) (Un.laid g.old hp hn) (I.hok.laid g.old hp ho) (by rw [g.gens]; exact I.bare) (fun _ z => nomatch z)
  have e : s' = { s with heap := s'.heap, gens := s'.gens, drawn := s'.drawn, toks := s'.toks } := by
    have := g.os
    cases s'
    cases s
    cases this
    rfl
  rw [e]
  exact J
theorem cr_sortedDT {X : Cx} {β : Type} (hu : X.A.units + 100 < cLine) : CallR X (.builtin "sorted") (rSortedDT β X.K) := by
  intro pins s σ H xs us Q I r h
  obtain ⟨l, bs, val, enc, rfl, hl, hd, hal, hk, hdep, q⟩ := h
  rw [Vals.ref1 r]
  obtain ⟨its, rv, ⟨o, ho, hc, ⟨n, hd'⟩⟩, hz⟩ := I.tuple hl
  rw [List.length_map] at hz
  refine sort_got (R := fun u b => RelV (val b) u) (bs := bs) (enc := enc) hal hk hz (fun b hb => by have := hdep b hb; omega) (fun Q' k => ?_) fun s' p c out cs g hp hg pm e => ?_
  · have len : its.length = bs.length := by rw [← rv.length, List.length_map]
    refine col_tup ho hc hd' (by rw [List.size_toArray, len]; exact hz) fun s1 g => ?_
    exact k s1 its bs g (.refl _) (each_vals rv) ((each_reads I hd rv).mono fun _ _ ⟨as, r⟩ => ⟨as, PyProof.Rows.Reads.keeps g.old r⟩)
  · have vl := vals_each e
    exact ⟨.ref p, _, inv_grown I g hp (o := .lst ((cs.mergeSort (PySem.W.dataLe false enc)).map val)) ⟨by rw [List.length_map, List.length_mergeSort, pm.length_eq]; exact hz, out, c, vl, hg⟩, rfl, q p cs pm (I.hok.fresh hp)⟩
end DL
namespace DL
open PySem PySem.Spec PyProof.Rows L2
/-! #### over D -/
def dLt (x y : D) : Bool := PySem.W.dataLt x.p y.p
def alikeD (x y : D) : Bool := PySem.W.alike x.p y.p
/-- what may be sorted: alike, not too deep, all tuples or no tuple -/
def SortOk (ds : List D) : Prop := (∀ x ∈ ds, D.ok x = true) ∧ (∀ x ∈ ds, ∀ y ∈ ds, alikeD x y = true) ∧ ((∀ x ∈ ds, ∃ y r, x = .tup (y :: r)) ∨ ∀ x ∈ ds, x ≠ .non ∧ ∀ r, x ≠ .tup r)
def fSorted : F1
  | .lst ds, q => SortOk ds ∧ ∀ ds', List.Perm ds' ds → ds'.Pairwise (fun a b => dLt b a = false) → q (.own ds')
  | .tup ds, q => SortOk ds ∧ ∀ ds', List.Perm ds' ds → ds'.Pairwise (fun a b => dLt b a = false) → q (.own ds')
  | _, _ => False
theorem MonF1.sorted : MonF1 fSorted := fun x _ _ h z => by
  cases x <;> first | exact (show False from z).elim | exact ⟨z.1, fun ds' a b => h _ (z.2 ds' a b)⟩
theorem reps_zip {K : PySem.W.Frag} {ω : Wd} : ∀ {ds : List D} {vs : List V}, Reps K ω ds vs → (vs.zip ds).map Prod.fst = vs ∧ (vs.zip ds).map Prod.snd = ds ∧ ∀ b ∈ vs.zip ds, Rep K ω b.2 b.1
  | [], _, h => by rw [Reps.nil_iff] at h; subst h; exact ⟨rfl, rfl, fun b hb => nomatch hb⟩
  | d :: ds, _, h => by
    obtain ⟨v, r, rfl, h1, h2⟩ := Reps.cons_iff.mp h
    obtain ⟨a, b, c⟩ := reps_zip h2
    refine ⟨by rw [List.zip_cons_cons, List.map_cons, a], by rw [List.zip_cons_cons, List.map_cons, b], fun x hx => ?_⟩
    rw [List.zip_cons_cons] at hx
    rcases List.mem_cons.mp hx with z | z
    · subst z; exact h1
    · exact c x z
theorem reps_pairs {K : PySem.W.Frag} {ω : Wd} : ∀ {bs : List (V × D)}, (∀ b ∈ bs, Rep K ω b.2 b.1) → Reps K ω (bs.map Prod.snd) (bs.map Prod.fst)
  | [], _ => Reps.nil
  | b :: bs, h => Reps.cons (h b List.mem_cons_self) (reps_pairs fun x hx => h x (List.mem_cons_of_mem _ hx))
theorem ok_shape {d : D} (h : d.ok = true) : d.p.depth ≤ 60 := (okN_lay d 60 h).2
theorem p_tup {y : D} {r : List D} : D.p (.tup (y :: r)) = .tuple (y.p :: D.ps r) := by conv => lhs; unfold D.p; unfold D.ps
theorem p_non {d : D} (h : d ≠ .non) (h2 : d ≠ .st) : d.p ≠ .none := by
  cases d <;> first | exact absurd rfl h | (unfold D.p; exact fun z => nomatch z)
theorem p_ntup {d : D} (h : ∀ r, d ≠ .tup r) : ∀ xs, d.p ≠ .tuple xs := fun xs z => by
  cases d with
  | tup r => exact absurd rfl (h r)
  | non => unfold D.p at z; cases z
  | bl b => unfold D.p at z; cases z
  | int b => unfold D.p at z; cases z
  | str b => unfold D.p at z; cases z
  | st => unfold D.p at z; cases z
  | lst b => unfold D.p at z; cases z
  | adr b => unfold D.p at z; cases z
  | hls b => unfold D.p at z; cases z
section
variable {X : Cx} {c : C} {a : Expr} {wa : WD} {pos p : Pos}
/-- what sorting asks of the pairs of a value and its data, and what it leaves -/
theorem sort_pairs {K : PySem.W.Frag} {ω : Wd} {ds : List D} {vs : List V} (qx : Reps K ω ds vs) (h : SortOk ds) : (∀ b ∈ vs.zip ds, Rep K ω b.2 b.1 ∧ b.2.ok = true) ∧ PySem.W.AllAlike ((vs.zip ds).map fun b => b.2.p) ∧ PySem.W.Sortable ((vs.zip ds).map fun b => b.2.p) ∧ (∀ b ∈ vs.zip ds, b.2.p.depth ≤ 60) ∧
    ∀ cs : List (V × D), cs.Perm (vs.zip ds) → Reps K ω ((cs.mergeSort (PySem.W.dataLe false fun b : V × D => b.2.p)).map Prod.snd) ((cs.mergeSort (PySem.W.dataLe false fun b : V × D => b.2.p)).map Prod.fst) ∧
      ((cs.mergeSort (PySem.W.dataLe false fun b : V × D => b.2.p)).map Prod.snd).Perm ds ∧ ((cs.mergeSort (PySem.W.dataLe false fun b : V × D => b.2.p)).map Prod.snd).Pairwise (fun a b => dLt b a = false) := by
  obtain ⟨h1, h2, h3⟩ := h
  obtain ⟨z1, z2, z3⟩ := reps_zip qx
  have hmem : ∀ b ∈ vs.zip ds, b.2 ∈ ds := fun b hb => by
    have : b.2 ∈ (vs.zip ds).map Prod.snd := List.mem_map.mpr ⟨b, hb, rfl⟩
    rw [z2] at this
    exact this
  refine ⟨fun b hb => ⟨z3 b hb, h1 _ (hmem b hb)⟩, ?_, ?_, fun b hb => ok_shape (h1 _ (hmem b hb)), fun cs hp => ?_⟩
  · intro d hd d' hd'
    obtain ⟨b, hb, rfl⟩ := List.mem_map.mp hd
    obtain ⟨b', hb', rfl⟩ := List.mem_map.mp hd'
    exact h2 _ (hmem b hb) _ (hmem b' hb')
  · rcases h3 with h3 | h3
    · refine .inl fun d hd => ?_
      obtain ⟨b, hb, rfl⟩ := List.mem_map.mp hd
      obtain ⟨y, r, e⟩ := h3 _ (hmem b hb)
      exact ⟨y.p, D.ps r, by show b.2.p = _; rw [e]; exact p_tup⟩
    · refine .inr fun d hd => ?_
      obtain ⟨b, hb, rfl⟩ := List.mem_map.mp hd
      obtain ⟨k1, k2⟩ := h3 _ (hmem b hb)
      exact ⟨p_non k1 (fun e => by have := h1 _ (hmem b hb); rw [e] at this; unfold D.ok okN at this; cases this), p_ntup k2⟩
  · have pm : (cs.mergeSort (PySem.W.dataLe false fun b : V × D => b.2.p)).Perm cs := List.mergeSort_perm _ _
    have pw := PySem.W.sort_pairwise (PySem.W.sortLe_total (PyProof.Rows.listOrd PyProof.Rows.itemOrd) false fun b : V × D => PySem.W.keyToks b.2.p) cs
    refine ⟨reps_pairs fun b hb => z3 b (hp.mem_iff.mp (pm.mem_iff.mp hb)), ?_, ?_⟩
    · have := (pm.trans hp).map Prod.snd
      rw [z2] at this
      exact this
    · refine List.pairwise_map.mpr (pw.imp fun {x y} e => ?_)
      have e : (!dLt y.2 x.2) = true := e
      rw [Bool.not_eq_true'] at e
      exact e
/-- one less deep than what == may meet -/
theorem se_sorted (hK : c.K = X.K) (hu : X.A.units + 100 < cLine) (hg : Gl X "sorted") (hm : X.mg "sorted" = none) (ha : SP X c a wa) (he : starEach [a] X.env = [(false, eval a X.env)] := by rfl) : SE X c (.Call (.Name "sorted" p) [a] [] pos) (w1 fSorted wa) :=
  se_b1 ((cr_sortedD (β := V × D) hu).or (cr_sortedDT (β := V × D) hu)) hg hm (by decide +kernel) .sorted (by
    rw [← hK]
    exact fun ω H σ env tk x v q Q ok rx h hr => by
      cases x <;> first | exact (show False from h).elim | skip
      · rename_i ds
        obtain ⟨t, vs, rfl, sx, qx⟩ := rx.tup ok.sub
        obtain ⟨z1, z2, z3⟩ := reps_zip qx
        obtain ⟨k1, k2, k3, k4, k5⟩ := sort_pairs qx h.1
        refine .inr ⟨t, vs.zip ds, Prod.fst, fun b => b.2.p, rfl, by rw [z1]; exact sx, fun b hb => Rep.dp ok.sub b.2 60 b.1 (k1 b hb).2 (k1 b hb).1, k2, k3, k4, fun l cs hp n => ?_⟩
        obtain ⟨a1, a2, a3⟩ := k5 cs hp
        exact hr.lst ok (h.2 _ a2 a3) a1 n
      · rename_i ds
        obtain ⟨t, vs, rfl, sx, qx⟩ := rx.lst ok.sub
        obtain ⟨z1, z2, z3⟩ := reps_zip qx
        obtain ⟨k1, k2, k3, k4, k5⟩ := sort_pairs qx h.1
        refine .inl ⟨t, vs.zip ds, Prod.fst, fun b => b.2.p, rfl, by rw [z1]; exact sx, fun b hb => Rep.dp ok.sub b.2 60 b.1 (k1 b hb).2 (k1 b hb).1, k2, k3, k4, fun l n => ?_⟩
        obtain ⟨a1, a2, a3⟩ := k5 _ (.refl _)
        exact hr.lst ok (h.2 _ a2 a3) a1 n) ha (he := he)
end
end DL
namespace DL
open PySem PySem.Spec PyProof.Rows L2
/-! ### min, of data of any make -/
theorem minD_least : ∀ (xs : List PyData) (x : PyData), PySem.W.minD x xs ∈ x :: xs ∧ ∀ y ∈ x :: xs, PySem.W.dataLt y (PySem.W.minD x xs) = false := by
  have T : PySem.W.TotalLe (PySem.W.dataLe false fun b : PyData => b) := PySem.W.sortLe_total (PyProof.Rows.listOrd PyProof.Rows.itemOrd) false fun b : PyData => PySem.W.keyToks b
  have le_iff : ∀ a b : PyData, PySem.W.dataLe false (fun b : PyData => b) a b = true ↔ PySem.W.dataLt b a = false := fun a b => by
    show (!PySem.W.dataLt b a) = true ↔ _
    rw [Bool.not_eq_true']
  have tr : ∀ a b c : PyData, PySem.W.dataLt b a = false → PySem.W.dataLt c b = false → PySem.W.dataLt c a = false := fun a b c h1 h2 => (le_iff _ _).mp (T.trans a b c ((le_iff _ _).mpr h1) ((le_iff _ _).mpr h2))
  have as : ∀ a b : PyData, PySem.W.dataLt a b = true → PySem.W.dataLt b a = false := fun a b h => by
    rcases T.total a b with z | z
    · exact (le_iff _ _).mp z
    · rw [le_iff, h] at z; cases z
  have rf : ∀ a : PyData, PySem.W.dataLt a a = false := fun a => by
    rcases T.total a a with z | z <;> exact (le_iff _ _).mp z
  intro xs
  induction xs with
  | nil =>
    intro x
    refine ⟨List.mem_cons_self, fun y hy => ?_⟩
    rw [List.mem_singleton] at hy
    subst hy
    exact rf y
  | cons z xs ih =>
    intro x
    by_cases h : PySem.W.dataLt z x = true
    · have e : PySem.W.minD x (z :: xs) = PySem.W.minD z xs := by
        show List.foldl _ (if PySem.W.dataLt z x then z else x) xs = _
        rw [if_pos h]; rfl
      rw [e]
      obtain ⟨i1, i2⟩ := ih z
      refine ⟨List.mem_cons_of_mem _ i1, fun y hy => ?_⟩
      rcases List.mem_cons.mp hy with rfl | hy
      · exact tr _ _ _ (i2 z List.mem_cons_self) (as _ _ h)
      · exact i2 y hy
    · have h' : PySem.W.dataLt z x = false := Bool.eq_false_iff.mpr h
      have e : PySem.W.minD x (z :: xs) = PySem.W.minD x xs := by
        show List.foldl _ (if PySem.W.dataLt z x then z else x) xs = _
        rw [if_neg h]; rfl
      rw [e]
      obtain ⟨i1, i2⟩ := ih x
      refine ⟨?_, fun y hy => ?_⟩
      · rcases List.mem_cons.mp i1 with z | z
        · rw [z]; exact List.mem_cons_self
        · exact List.mem_cons_of_mem _ (List.mem_cons_of_mem _ z)
      · rcases List.mem_cons.mp hy with rfl | hy
        · exact i2 y List.mem_cons_self
        · rcases List.mem_cons.mp hy with rfl | hy
          · exact tr _ _ _ (i2 x List.mem_cons_self) h'
          · exact i2 y (List.mem_cons_of_mem _ hy)
theorem depthAll_le {n : Nat} : ∀ xs : List PyData, (∀ x ∈ xs, x.depth ≤ n) → PyData.depthAll xs ≤ n
  | [], _ => by unfold PyData.depthAll; exact Nat.zero_le n
  | x :: xs, h => by
    unfold PyData.depthAll
    exact Nat.max_le.mpr ⟨h x List.mem_cons_self, depthAll_le xs fun y hy => h y (List.mem_cons_of_mem _ hy)⟩
section
variable {β : Type} {X : Cx}
theorem dpAll_of {K : PySem.W.Frag} {H : Hp} {val : β → V} {enc : β → PyData} : ∀ {bs : List β}, (∀ b ∈ bs, Dp K H (val b) (enc b)) → DpAll K H (bs.map val) (bs.map enc)
  | [], _ => .nil
  | b :: _, h => .cons (h b List.mem_cons_self) (dpAll_of fun b hb => h b (List.mem_cons_of_mem _ hb))
theorem vals_at {val : β → V} : ∀ {bs : List β} {us : List Value} {i : Nat} {u : Value}, Vals (bs.map val) us → us[i]? = some u → ∃ b ∈ bs, RelV (val b) u
  | [], _, _, _, .nil, h => by simp at h
  | b :: _, _, 0, u, .cons r _, h => by
    have e := Option.some.inj h
    subst e
    exact ⟨b, List.mem_cons_self, r⟩
  | b :: _, _, i + 1, u, .cons _ t, h => by
    obtain ⟨b', m, r⟩ := vals_at t h
    exact ⟨b', List.mem_cons_of_mem _ m, r⟩
def rMinD (β : Type) (K : PySem.W.Frag) : List V → Hp → VK → Prop := fun xs H Q => ∃ (l : Addr) (bs : List β) (val : β → V) (enc : β → PyData), xs = [V.ref l] ∧ SqL K H l (bs.map val) ∧ bs ≠ [] ∧ (∀ b ∈ bs, Dp K H (val b) (enc b)) ∧ PySem.W.AlikeAll (bs.map enc) ∧ (∀ b ∈ bs, (enc b).canLay0 = true ∧ (enc b).depth ≤ 60) ∧
  ∀ b ∈ bs, (∀ y ∈ bs, PySem.W.dataLt (enc y) (enc b) = false) → Q (val b) H
theorem cr_minD (hc : X.calm = true) (hu : X.A.units + 100 < cLine) : CallR X (.builtin "min") (rMinD β X.K) := by
  intro pins s σ H xs us Q I r h
  obtain ⟨l, bs, val, enc, rfl, hl, hne, hd, hal, hk, q⟩ := h
  rw [Vals.ref1 r]
  obtain ⟨its, rv, p, hz⟩ := I.list hl
  obtain ⟨as, hr⟩ := Dp.readsAll I (bs.map enc) (bs.map val) its (dpAll_of hd) rv
  obtain ⟨b0, bs', rfl⟩ := List.exists_cons_of_ne_nil hne
  have hdep : PyData.depthAll (enc b0 :: bs'.map enc) ≤ 60 := depthAll_le _ fun x hx => by
    have hx : x ∈ (b0 :: bs').map enc := hx
    obtain ⟨b, hb, rfl⟩ := List.mem_map.mp hx
    exact (hk b hb).2
  refine PySem.W.min_list_data (x := enc b0) (xs := bs'.map enc) (I.ok.hd hc) p.isList hr hal (by omega) fun i v h' tk as' hv hread hkeep => ?_
  have hv : its[i]? = some v := by
    rw [List.getElem?_toArray] at hv
    exact hv
  obtain ⟨b, hb, rb⟩ := vals_at rv hv
  obtain ⟨as2, r2⟩ := Dp.reads I _ _ _ (hd b hb) rb
  have e : enc b = PySem.W.minD (enc b0) (bs'.map enc) := ((Reads.unique (PySem.W.reads_keeps hkeep r2)) _ _ hread).1
  refine ⟨val b, H, I.kept hkeep, rb, q b hb fun y hy => ?_⟩
  rw [e]
  exact (minD_least _ _).2 _ (List.mem_map.mpr ⟨y, hy, rfl⟩ : enc y ∈ (b0 :: bs').map enc)
end
/-- what a least one may be asked of: alike, not too deep, no None -/
def MinOk (ds : List D) : Prop := ds ≠ [] ∧ (∀ x ∈ ds, D.ok x = true) ∧ (∀ x ∈ ds, ∀ y ∈ ds, alikeD x y = true) ∧ ∀ x ∈ ds, x ≠ .non
def fMin1 : F1
  | .lst ds, q => MinOk ds ∧ ∀ d ∈ ds, (∀ y ∈ ds, dLt y d = false) → q (.val d)
  | _, _ => False
theorem MonF1.min1 : MonF1 fMin1 := fun x _ _ h z => by
  cases x <;> first | exact (show False from z).elim | skip
  exact ⟨z.1, fun d hd hm => h _ (z.2 d hd hm)⟩
section
variable {X : Cx} {c : C} {a : Expr} {wa : WD} {pos p : Pos}
theorem se_min1 (hK : c.K = X.K) (hu : X.A.units + 100 < cLine) (hc : X.calm = true) (hg : Gl X "min") (hm : X.mg "min" = none) (ha : SP X c a wa) (he : starEach [a] X.env = [(false, eval a X.env)] := by rfl) : SE X c (.Call (.Name "min" p) [a] [] pos) (w1 fMin1 wa) :=
  se_b1 (cr_minD (β := V × D) hc hu) hg hm (by decide +kernel) .min1 (by
    rw [← hK]
    exact fun ω H σ env tk x v q Q ok rx h hr => by
      cases x <;> first | exact (show False from h).elim | skip
      rename_i ds
      obtain ⟨⟨h0, h1, h2, h3⟩, h4⟩ := h
      obtain ⟨t, vs, rfl, sx, qx⟩ := rx.lst ok.sub
      obtain ⟨z1, z2, z3⟩ := reps_zip qx
      have hmem : ∀ b ∈ vs.zip ds, b.2 ∈ ds := fun b hb => by
        have : b.2 ∈ (vs.zip ds).map Prod.snd := List.mem_map.mpr ⟨b, hb, rfl⟩
        rw [z2] at this
        exact this
      refine ⟨t, vs.zip ds, Prod.fst, fun b => b.2.p, rfl, by rw [z1]; exact sx, ?_, fun b hb => Rep.dp ok.sub b.2 60 b.1 (h1 _ (hmem b hb)) (z3 b hb), ⟨?_, ?_⟩, fun b hb => okN_lay b.2 60 (h1 _ (hmem b hb)), fun b hb hl => ?_⟩
      · intro e
        rw [e] at z2
        exact h0 z2.symm
      · intro d hd d' hd'
        obtain ⟨b, hb, rfl⟩ := List.mem_map.mp hd
        obtain ⟨b', hb', rfl⟩ := List.mem_map.mp hd'
        exact h2 _ (hmem b hb) _ (hmem b' hb')
      · intro d hd
        obtain ⟨b, hb, rfl⟩ := List.mem_map.mp hd
        exact p_non (h3 _ (hmem b hb)) (fun e => by have := h1 _ (hmem b hb); rw [e] at this; unfold D.ok okN at this; cases this)
      · have k : q (.val b.2) := h4 b.2 (hmem b hb) fun y hy => by
          rw [← z2] at hy
          obtain ⟨b', hb', rfl⟩ := List.mem_map.mp hy
          exact hl b' hb'
        exact hr.val ok k (z3 b hb)) ha (he := he)
end
end DL
namespace DL
open PySem PySem.Spec PyProof.Rows L2
/-! ### x in a tuple of ints -/
def fInT : FOp
  | .int i, .tup ds, q => ∃ ns, asInts ds = some ns ∧ q (.val (.bl (decide (i ∈ ns))))
  | _, _, _ => False
theorem MonF.inT : MonF fInT := fun x y _ _ h z => by
  cases x <;> first | exact (show False from z).elim | (cases y <;> first | exact (show False from z).elim | exact ⟨z.choose, z.choose_spec.1, h _ z.choose_spec.2⟩)
theorem inV_ints (i : Int) : ∀ ns : List Int, inV (.int i) (ns.map V.int) = decide (i ∈ ns)
  | [] => rfl
  | n :: ns => by
    have ih := inV_ints i ns
    unfold inV at ih ⊢
    rw [List.map_cons, List.any_cons, ih]
    have e : eqV (.int n) (.int i) = decide (n = i) := by
      by_cases h : n = i
      · subst h; rw [decide_eq_true rfl]; exact (beq_self_eq_true n)
      · rw [decide_eq_false h]; exact beq_eq_false_iff_ne.mpr h
    rw [e]
    by_cases h : n = i <;> by_cases h2 : i ∈ ns <;> first | (simp [h, h2]; done) | (simp [h, h2]; exact fun z => h z.symm)
theorem flat_ints : ∀ ns : List Int, (ns.map V.int).all flatV = true
  | [] => rfl
  | _ :: ns => by rw [List.map_cons, List.all_cons, flat_ints ns]; rfl
theorem od_inT {c : C} : OpD c (rIn c.K false) fInT := fun ω H σ env tk x y v u q Q ok rx ry h hr => by
  cases x <;> first | exact (show False from h).elim | skip
  cases y <;> first | exact (show False from h).elim | skip
  rename_i i ds
  obtain ⟨ns, e, k⟩ := h
  obtain ⟨p, vs, rfl, sx, qx⟩ := ry.tup ok.sub
  have ev := asInts_reps e qx
  subst ev
  rw [rx.int]
  refine ⟨p, ns.map V.int, rfl, .inr sx, rfl, flat_ints ns, ?_⟩
  show Q (.bl (inV (.int i) (ns.map V.int))) _
  rw [inV_ints]
  exact hr.bl ok k
section
variable {X : Cx} {c : C} {a b : Expr} {wa wb : WD} {pos : Pos}
theorem se_inT (hK : c.K = X.K) (ha : SP X c a wa) (hb : SP X c b wb) (hm : behindInMarks .In b = false) : SE X c (.Compare a [.In] [b] pos) (wOp fInT wa wb) := se_cmp op_in_seq .inT (by rw [← hK]; exact od_inT) ha hb hm
theorem st_inT (hK : c.K = X.K) (ha : SP X c a wa) (hb : SP X c b wb) (hm : behindInMarks .In b = false) : ST X c (.Compare a [.In] [b] pos) (wT (wOp fInT wa wb)) := run_cmp op_in_seq .inT (by rw [← hK]; exact od_inT) ha hb hm
end
/-- a tuple as a comprehension's target: the frame is named, so that nothing of the inner place stands in it -/
theorem sg_tupK {X : Cx} {c : C} {K' : PySem.W.Frag} {es : List Expr} {k n : Nat} {t : TGs} {g : WGs} {vs : List Nat} {pos : Pos} (hX : X.K = K') (hK : c.K = K') (hc : X.calm = true) (hg : SGs X c es t g vs) (hn : (assignEach es X.env).length = n := by rfl) (hst : (assignEach es X.env).findIdx? (·.1) = none := by rfl) : SG X c (.Tuple es k pos) (gTup K' n t) (gT n g) vs := by
  subst hX
  exact sg_tup hK hc hg hn hst
end DL
namespace L2
open PySem PySem.Spec PyProof.Rows
section
variable {X : Cx}
/-- a choice by a text: the first case of that text -/
def tMc (z : Str) : List (Str × TS) → TS
  | [] => fun D σ H => D.nx σ H
  | (x, t) :: cs => fun D σ H => if z = x then t D σ H else tMc z cs D σ H
def tMatch (te : TE) (cs : List (Str × TS)) : TS := fun D σ H => te σ H fun v H1 => ∃ z, v = .str z ∧ tMc z cs D σ H1
inductive PMs (X : Cx) : List MatchCase → List (Str × TS) → Prop
  | nil : PMs X [] []
  | cons {x : Str} {j : Nat} {p pos : Pos} {body : List Stmt} {rest : List MatchCase} {t : TS} {cs : List (Str × TS)} : PSs X body t → PMs X rest cs → PMs X (⟨.MatchValue (.Constant (.str x) j p) pos, none, body⟩ :: rest) ((x, t) :: cs)
theorem mc_run {pins : List (Addr × Obj)} {σ : St} {D : Ends} {z : Str} : ∀ {cases : List MatchCase} {cs : List (Str × TS)}, PMs X cases cs → ∀ {s : Shared} {H : Hp} {u : Value} {first : Bool}, Inv X pins σ H s → RelV (.str z) u → tMc z cs D σ H →
    wpAny (model X.prog X.w) X.A (matchCases cases X.env u first) (SP X pins D) X.xe s
  | _, _, .nil, s, H, u, first, I, r, q => wpAny_matchCases_nil ⟨σ, H, I, q⟩
  | _, _, .cons (x := x) (t := t) (cs := cs) hb hr, s, H, u, first, I, r, q => by
    refine wpAny_matchCases_cons (wpAny_matchPattern_Value ?_)
    refine thn (pe_str.run pins s σ H (fun v H1 => v = .str x ∧ H1 = H) I ⟨rfl, rfl⟩) fun w s1 ⟨v, H1, I1, r1, e1, e2⟩ => ?_
    subst e1 e2
    refine thn (op_eq pins s1 σ H1 (.str z) (.str x) u w (fun v H2 => v = .bl (decide (z = x)) ∧ H2 = H1) I1 r r1 ⟨rfl, ?_, rfl⟩) fun w2 s2 ⟨v, H2, I2, r2, e3, e4⟩ => ?_
    · show V.bl _ = V.bl _
      exact congrArg V.bl (decide_eq_decide.mpr ⟨fun e => by injection e, fun e => by rw [e]⟩)
    subst e3 e4
    cases r2
    refine wpAny_truthy_bool ?_
    by_cases h : z = x
    · have q : t D σ H2 := (if_pos h).mp q
      rw [decide_eq_true h]
      exact wpAny_assignInOrder_none (hb.run pins s2 σ H2 D I2 q)
    · have q : tMc z cs D σ H2 := (if_neg h).mp q
      rw [decide_eq_false h]
      exact mc_run hr I2 r q
theorem ps_match {e : Expr} {te : TE} {cases : List MatchCase} {cs : List (Str × TS)} {pos : Pos} (he : PE X e te) (hc : PMs X cases cs) : PS X (.Match e cases pos) (tMatch te cs) := by
  refine ⟨fun pins s σ H D I h => ?_⟩
  exact wpAny_Match (thn (he.run pins s σ H _ I h) fun v s1 ⟨x, H1, I1, r1, z, e1, q1⟩ => mc_run hc I1 (e1 ▸ r1) q1)
end
end L2
namespace DL
open PySem PySem.Spec PyProof.Rows L2
def mcGo (z : Str) : List (Str × WS) → WS
  | [], P, e, t => P.nx e t
  | (x, w) :: cs, P, e, t => if z = x then w P e t else mcGo z cs P e t
def wMatch (w : WE) (cs : List (Str × WS)) : WS := fun P env tk => w env tk fun ev e t => match ev with
  | .val (.str z) => mcGo z cs P e t
  | _ => False
section
variable {X : Cx} {c : C} {e : Expr} {pos : Pos}
structure SMs (X : Cx) (c : C) (cases : List MatchCase) (cs : List (Str × WS)) : Prop where
  mon : ∀ z, MonS (mcGo z cs)
  run : PMs X cases (cs.map fun p => (p.1, liftS c p.2))
  up : ∀ p ∈ cs, MonS p.2
theorem sm_nil : SMs X c [] [] := ⟨fun z P P' env tk l q => l.nx _ _ q, .nil, fun p h => by cases h⟩
theorem sm_cons {x : Str} {j : Nat} {p pos : Pos} {body : List Stmt} {rest : List MatchCase} {w : WS} {cs : List (Str × WS)} (hb : SSs X c body w) (hr : SMs X c rest cs) : SMs X c (⟨.MatchValue (.Constant (.str x) j p) pos, none, body⟩ :: rest) ((x, w) :: cs) :=
  ⟨fun z P P' env tk l q => by
    by_cases h : z = x
    · exact (if_pos h).mpr (hb.mon _ _ _ _ l ((if_pos h).mp q))
    · exact (if_neg h).mpr (hr.mon z _ _ _ _ l ((if_neg h).mp q)), .cons hb.run hr.run, fun p hp => by
    rcases List.mem_cons.mp hp with rfl | hp
    · exact hb.mon
    · exact hr.up p hp⟩
theorem mc_up {z : Str} {ω ω' : Wd} {D : Ends} {σ : L2.St} {H' : Hp} {e1 : En} {t1 : Tk} (le : ω.le ω') (ok : Ok c ω' H' σ e1 t1) : ∀ {cs : List (Str × WS)}, (∀ p ∈ cs, MonS p.2) → mcGo z cs (postOf c ω D) e1 t1 → tMc z (cs.map fun p => (p.1, liftS c p.2)) D σ H'
  | [], _, q => q σ ω' H' le ok
  | (x, w) :: cs, h, q => by
    by_cases hz : z = x
    · exact (if_pos hz).mpr ⟨ω', e1, t1, ok, h (x, w) List.mem_cons_self _ _ _ _ (postOf_up le D) ((if_pos hz).mp q)⟩
    · exact (if_neg hz).mpr (mc_up le ok (fun p hp => h p (List.mem_cons_of_mem _ hp)) ((if_neg hz).mp q))
theorem ss_match {w : WE} {cases : List MatchCase} {cs : List (Str × WS)} (h : SE X c e w) (hc : SMs X c cases cs) : SS X c (.Match e cases pos) (wMatch w cs) :=
  ⟨fun P P' env tk l q => h.mon _ _ _ _ (fun ev e t z => by
    cases ev with
    | val d => cases d <;> first | exact (show False from z).elim | exact hc.mon _ _ _ _ _ l z
    | dct p k => exact (show False from z).elim
    | own ds => exact (show False from z).elim) q, (ps_match h.run hc.run).wk fun D σ H ⟨ω, env, tk, ok, q⟩ =>
    ⟨ω, env, tk, ok, h.mon _ _ _ _ (fun ev e t z v ω' H' st ok' r => by
      cases ev with
      | val d =>
        cases d <;> first | exact (show False from z).elim | skip
        rename_i x
        exact ⟨x, r, mc_up st.le ok' hc.up z⟩
      | dct p k => exact (show False from z).elim
      | own ds => exact (show False from z).elim) q⟩⟩
end
end DL
namespace DL
open PySem PySem.Spec PyProof.Rows L2
/-! ### list(range(a, b, step)) -/
def rg3V (i c : Int) (n : Nat) : List V := (List.range n).map fun t => V.int (i + (t : Nat) * c)
def rg3D (i c : Int) (n : Nat) : List D := (List.range n).map fun t => D.int (i + (t : Nat) * c)
theorem rg3V_len (i c : Int) (n : Nat) : (rg3V i c n).length = n := by unfold rg3V; rw [List.length_map, List.length_range]
theorem rg3_vals {i c : Int} {n : Nat} {out : Array Value} (h : ItemsOf (fun j v => ∃ t, v = .int (i + j * c) t) out n) : Vals (rg3V i c n) out.toList := by
  have len : out.toList.length = n := by rw [Array.length_toList]; exact h.1
  unfold rg3V
  rw [← len]
  exact vals_of_get out.toList _ fun j u hj => by
    obtain ⟨t, rfl⟩ := h.2 j u (by rw [← hj, Array.getElem?_toList])
    exact ⟨t, rfl⟩
/-- what list(range(..)) asks of its three numbers -/
def RgD (i j k : Int) (n : Nat) : Prop := k ≠ 0 ∧ k.natAbs.log2 < 9000 ∧ Builtin.Range.small i j k = true ∧ Builtin.Range.rangeSize i j k = n
def tLR3 (ta : TA) : TE := fun σ H Q => ta σ H fun vs H1 => ∃ (i j c : Int) (n : Nat), vs = [.int i, .int j, .int c] ∧ RgD i j c n ∧ n ≤ 2 ^ 24 ∧ ∀ q, H1 q = none → Q (.ref q) (upd H1 q (.lst (rg3V i c n)))
section
variable {X : Cx} {c : C} {x y z : Expr} {p p2 pos pos2 : Pos}
theorem pe_lr3 {ta : TA} (calm : X.calm = true) (gl : Gl X "list") (ml : X.mg "list" = none) (gr : Gl X "range") (mr : X.mg "range" = none) (pa : PA X [x, y, z] ta)
    (s3 : starEach [x, y, z] X.env = (false, eval x X.env) :: starEach [y, z] X.env := by rfl) (np : (backTo pos2 (starEach [y, z] X.env)).any (·.1) = false := by rfl)
    (s1 : starEach [.Call (.Name "range" p2) [x, y, z] [] pos2] X.env = (false, eval (.Call (.Name "range" p2) [x, y, z] [] pos2) X.env) :: starEach [] X.env := by rfl) :
    PE X (.Call (.Name "list" p) [.Call (.Name "range" p2) [x, y, z] [] pos2] [] pos) (tLR3 ta) := by
  constructor
  intro pins s σ H Q I h
  have inner : wpAny (model X.prog X.w) X.A (eval (.Call (.Name "range" p2) [x, y, z] [] pos2) X.env) (fun v s' => ∃ (r : Addr) (i j k : Int) (n : Nat) (t t' t'' : Tok) (H' : Hp), v = .ref r ∧ IsRange s'.heap r i j k t t' t'' ∧ Inv X pins σ H' s' ∧ RgD i j k n ∧ n ≤ 2 ^ 24 ∧
      ∀ q, H' q = none → Q (.ref q) (upd H' q (.lst (rg3V i k n)))) X.xe s := by
    refine Call_ (ld_blt I gr mr boot_range (PyProof.Rows.callWith_type1 (thn (pa.run pos2 pins s σ H _ I h) ?_) s3 np))
    rintro us sB ⟨vs, HB, IB, rB, i, j, k, n, rfl, rg, nl, qB⟩
    obtain ⟨c0, c1, c2, c3⟩ := id rg
    rcases rB with _ | ⟨r0, rB⟩
    rcases rB with _ | ⟨r1, rB⟩
    rcases rB with _ | ⟨r2, rB⟩
    cases rB
    obtain ⟨t, rfl⟩ := r0
    obtain ⟨t', rfl⟩ := r1
    obtain ⟨t'', rfl⟩ := r2
    refine call_range_3 c0 ?_ (.inl (PyProof.noPylong_of_log2 c1))
    exact ⟨_, i, j, k, n, _, _, _, HB, rfl, IsRange.new .., IB.kept (t' := sB.toks) fun b o e => Heap.get?_push_of_some _ e, rg, nl, qB⟩
  refine Call_ (ld_blt I gl ml boot_list (PyProof.Rows.callWith_type1 (args_cons (thn inner ?_) s1) s1))
  rintro v sC ⟨r, i, j, k, n, t, t', t'', HC, rfl, hr, IC, ⟨c0, c1, c2, c3⟩, nl, qC⟩
  refine args_nil (call_list_range (n := n) (IC.ok.hd calm) hr c2 c3 nl fun hp tk out ct keep he hi => ?_)
  have ok : ObjOk X.prog X.w (upd HC sC.heap.objs.size (.lst (rg3V i k n))) hp sC.heap.objs.size (.lst (rg3V i k n)) := ⟨by rw [rg3V_len, sizeLine_eq]; omega, out.toList, ct, rg3_vals hi, by rw [Array.toArray_toList]; exact he⟩
  exact ⟨.ref sC.heap.objs.size, _, IC.laid keep (Nat.le_refl _) ok, rfl, qC _ (IC.hok.fresh (Nat.le_refl _))⟩
def wLR3 (r : WA) : WE := fun env tk Q => r env tk fun ds e t => match ds with
  | [.int i, .int j, .int k] => ∃ n : Nat, RgD i j k n ∧ n ≤ 2 ^ 24 ∧ Q (.own (rg3D i k n)) e t
  | _ => False
theorem Mon.lr3 {r : WA} (m : Mon r) : Mon (wLR3 r) := fun env tk Q Q' h q => m _ _ _ _ (fun ds e t z => by
  unfold wLR3 at *
  split at z
  · obtain ⟨n, a, b, z⟩ := z
    exact ⟨n, a, b, h _ _ _ z⟩
  · exact z.elim) q
theorem rg3_reps {K : PySem.W.Frag} {ω : Wd} (i k : Int) : ∀ l : List Nat, Reps K ω (l.map fun t => D.int (i + (t : Nat) * k)) (l.map fun t => V.int (i + (t : Nat) * k))
  | [] => Reps.nil
  | t :: l => Reps.cons (Rep.int_iff.mpr rfl) (rg3_reps i k l)
theorem se_lr3 {r : WA} (calm : X.calm = true) (gl : Gl X "list") (ml : X.mg "list" = none) (gr : Gl X "range") (mr : X.mg "range" = none) (h : SA X c [x, y, z] r)
    (s3 : starEach [x, y, z] X.env = (false, eval x X.env) :: starEach [y, z] X.env := by rfl) (np : (backTo pos2 (starEach [y, z] X.env)).any (·.1) = false := by rfl)
    (s1 : starEach [.Call (.Name "range" p2) [x, y, z] [] pos2] X.env = (false, eval (.Call (.Name "range" p2) [x, y, z] [] pos2) X.env) :: starEach [] X.env := by rfl) :
    SE X c (.Call (.Name "list" p) [.Call (.Name "range" p2) [x, y, z] [] pos2] [] pos) (wLR3 r) := ⟨h.mon.lr3, (pe_lr3 calm gl ml gr mr h.run s3 np s1).wk fun σ H Q ⟨ω, env, tk, ok, q⟩ => ⟨ω, env, tk, ok, h.mon _ _ _ _ (fun ds e t w vs ω' H' st ok' r => by
  split at w
  · obtain ⟨n, a, b, w⟩ := w
    obtain ⟨v0, vr, rfl, b1, b2⟩ := Reps.cons_iff.mp r
    obtain ⟨v1, vr, rfl, b3, b4⟩ := Reps.cons_iff.mp b2
    obtain ⟨v2, vr, rfl, b5, b6⟩ := Reps.cons_iff.mp b4
    rw [Reps.nil_iff] at b6
    rw [Rep.int_iff] at b1 b3 b5
    subst b6 b1 b3 b5
    refine ⟨_, _, _, n, rfl, a, b, fun p n => ?_⟩
    exact w _ _ _ (st.trans (.newL n _)) (ok'.newL n _) (ok'.own n (rg3_reps _ _ _))
  · exact w.elim) q⟩⟩
end
/-- by ones or more, up -/
theorem rgC_up {j k : Int} {n : Nat} (k0 : 0 < k) (k1 : k < 2 ^ 60) (hj : j = n * k) (jb : j < 2 ^ 60) : RgD 0 j k n := by
  have j0 : 0 ≤ j := by rw [hj]; exact Int.mul_nonneg (by omega) (by omega)
  have nj : (n : Int) ≤ j := by
    have := Int.mul_le_mul_of_nonneg_left (show 1 ≤ k by omega) (show 0 ≤ (n : Int) by omega)
    omega
  have sz : Builtin.Range.rangeSize 0 j k = n := by
    unfold Builtin.Range.rangeSize
    rw [if_pos k0]
    by_cases z : n = 0
    · rw [if_neg (by rw [hj, z]; omega), z]; rfl
    · have jp : 0 < j := by rw [hj]; exact Int.mul_pos (by omega) k0
      rw [if_pos jp]
      have e : j - 0 - 1 = (k - 1) + k * ((n : Int) - 1) := by rw [hj]; grind
      rw [e, Int.add_mul_ediv_left _ _ (by omega), Int.ediv_eq_zero_of_lt (by omega) (by omega)]
      omega
  refine ⟨by omega, (Nat.log2_lt (by omega)).mpr (Nat.lt_of_lt_of_le (show k.natAbs < 2 ^ 60 by omega) (Nat.pow_le_pow_right (by decide) (by decide))), ?_, sz⟩
  unfold Builtin.Range.small
  rw [sz, if_pos k0]
  simp only [Builtin.Range.rangeFitsLong, Bool.and_eq_true, Bool.or_eq_true, decide_eq_true_eq, beq_iff_eq]
  omega
end DL
namespace DL
open PySem PySem.Spec PyProof.Rows L2
/-! ### a fresh list inside a tuple -/
/-- an own list given away, known as a list of the heap -/
def fzH (w : WE) : WD := fun env tk Q => w env tk fun ev e t => match ev with
  | .own ds => Q (.hls ds) e t
  | _ => False
theorem Mon.fzH {w : WE} (m : Mon w) : Mon (DL.fzH w) := fun env tk Q Q' h q => m env tk _ _ (fun ev e t z => by
  cases ev with
  | val d => exact z
  | dct p k => exact z
  | own ds => exact h _ _ _ z) q
theorem SE.fzH {X : Cx} {c : C} {e : Expr} {w : WE} (h : SE X c e w) : SD X c e (DL.fzH w) := ⟨h.mon.fzH, h.run.wk fun σ H Q ⟨ω, env, tk, ok, q⟩ => ⟨ω, env, tk, ok, h.mon _ _ _ _ (fun ev e t k v ω' H' st ok' r => by
  cases ev with
  | val d => exact (show False from k).elim
  | dct p k2 => exact (show False from k).elim
  | own ds =>
    obtain ⟨p, rfl, ⟨vs, h1, h2, h3, h4, h5⟩, hs⟩ := r
    refine k (.ref p) _ H' (st.trans (.freeze h2)) (ok'.freeze h1 h2 h3 h4 hs) (Rep.hls_iff.mpr ⟨p, vs, rfl, ?_, h5.mono (le_upd h2)⟩)
    show upd ω'.hd p (.lst vs) p = _
    exact upd_same) q⟩⟩
/-- data in which no list stands -/
def flat1 : D → Bool
  | .non => true
  | .bl _ => true
  | .int _ => true
  | .str _ => true
  | _ => false
def flatD : D → Bool
  | .tup xs => xs.all flat1
  | d => flat1 d
def noL : Option HO → Option HO
  | some (.lst _) => none
  | x => x
section
variable {K : PySem.W.Frag} {ω : Wd}
theorem rep_flat1 {d : D} {v : V} (f : flat1 d = true) (h : Rep K ω d v) (ω' : Wd) : Rep K ω' d v := by
  cases d <;> first | (exact (Bool.false_ne_true f).elim) | skip
  · rw [Rep.non_iff] at h ⊢; exact h
  · rw [Rep.bl_iff] at h ⊢; exact h
  · rw [Rep.int_iff] at h ⊢; exact h
  · rw [Rep.str_iff] at h ⊢; exact h
theorem reps_flat1 : ∀ {ds : List D} {vs : List V}, ds.all flat1 = true → Reps K ω ds vs → ∀ ω' : Wd, Reps K ω' ds vs
  | [], vs, _, h, ω' => by rw [Reps.nil_iff] at h ⊢; exact h
  | d :: ds, vs, f, h, ω' => by
    rw [List.all_cons, Bool.and_eq_true] at f
    obtain ⟨v, r, rfl, h1, h2⟩ := Reps.cons_iff.mp h
    exact Reps.cons (rep_flat1 f.1 h1 ω') (reps_flat1 f.2 h2 ω')
theorem noL_keep {x : Option HO} {o : HO} (h : x = some o) (n : ∀ vs, o ≠ .lst vs) : noL x = some o := by
  subst h
  cases o <;> first | rfl | exact absurd rfl (n _)
theorem noL_sub {x : Option HO} {o : HO} (h : noL x = some o) : x = some o ∧ ∀ vs, o ≠ .lst vs := by
  unfold noL at h
  split at h
  · cases h
  · rename_i n
    exact ⟨h, fun vs e => n vs (by rw [h, e])⟩
theorem rep_flat {d : D} {v : V} (f : flatD d = true) (h : Rep K ω d v) : Rep K ⟨none, fun b => noL (ω.hd b)⟩ d v := by
  cases d
  case tup xs =>
    obtain ⟨a, vs, rfl, h1, h2⟩ := Rep.tup_iff.mp h
    obtain ⟨h1, hd⟩ := h1
    refine Rep.tup_iff.mpr ⟨a, vs, rfl, ⟨?_, ?_⟩, reps_flat1 f h2 _⟩
    · rcases h1 with (h1 | ⟨o, h1⟩) | h1
      · exact .inl (.inl (noL_keep h1 fun _ z => nomatch z))
      · exact .inl (.inr ⟨o, noL_keep h1 fun _ z => nomatch z⟩)
      · exact .inr h1
    · rcases hd with ⟨o, u, hd, e⟩ | hd
      · exact .inl ⟨o, u, noL_keep hd (fun _ z => nomatch z), e⟩
      · exact .inr hd
  all_goals (unfold flatD at f; exact rep_flat1 f h _)
theorem reps_flat : ∀ {ds : List D} {vs : List V}, ds.all flatD = true → Reps K ω ds vs → Reps K ⟨none, fun b => noL (ω.hd b)⟩ ds vs
  | [], vs, _, h => by rw [Reps.nil_iff] at h ⊢; exact h
  | d :: ds, vs, f, h => by
    rw [List.all_cons, Bool.and_eq_true] at f
    obtain ⟨v, r, rfl, h1, h2⟩ := Reps.cons_iff.mp h
    exact Reps.cons (rep_flat f.1 h1) (reps_flat f.2 h2)
end
section
variable {X : Cx} {c : C} {a e : Expr} {es : List Expr} {p p2 pos pos2 pos3 apos : Pos}
theorem Ok.nodct {ω : Wd} {H : Hp} {σ : L2.St} {env : En} {tk : Tk} {p : Addr} (ok : Ok c ω H σ env tk) (n : H p = none) : ∀ (i : Nat) (es : List (List Int × D)), env[i]? ≠ some (some (.dct p es)) := fun i es he => by
  obtain ⟨v, g1, _, us, a1, _⟩ := ok.slots i _ he
  rw [n] at a1
  cases a1
/-- more objects -/
theorem Ok.ext {ω : Wd} {H H' : Hp} {σ : L2.St} {env : En} {tk : Tk} (ok : Ok c ω H σ env tk) (h : ∀ b o, H b = some o → H' b = some o) : Ok c ω H' σ env tk where
  len := ok.len
  sub := fun b o z => h b o (ok.sub b o z)
  st := by
    rcases ok.st with z | ⟨a', k, e, e1, e0, nn, ns, e2, r1, r2⟩
    · exact .inl z
    · exact .inr ⟨a', k, e, e1, e0, nn, ns, h _ _ e2, r1, r2⟩
  slots := fun i e he => by
    obtain ⟨v, g1, g2⟩ := ok.slots i e he
    refine ⟨v, g1, ?_⟩
    cases e with
    | val d => exact g2
    | own ds =>
      obtain ⟨t, rfl, us, a1, a2, a3, a4, a5⟩ := g2
      exact ⟨t, rfl, us, h _ _ a1, a2, a3, a4, a5⟩
    | dct t ds =>
      obtain ⟨rfl, us, a1, a2, a3, a4, a5⟩ := g2
      exact ⟨rfl, us, h _ _ a1, a2, a3, a4, a5⟩
  dist := ok.dist
  one := ok.one
  new := ok.new
  ng := ok.ng
  fr := fun b o z n => h b o (ok.fr b o z n)
  le0 := ok.le0
  pr := fun b z => by
    obtain ⟨a1, a2, a3⟩ := ok.pr b z
    refine ⟨?_, a2, a3⟩
    cases y : H b with
    | none => exact absurd y a1
    | some o => rw [h b o y]; exact fun z => nomatch z
/-- a place that is no slot's is held -/
theorem Ok.holdNew {ω : Wd} {H : Hp} {σ : L2.St} {env : En} {tk : Tk} {q : Addr} (ok : Ok c ω H σ env tk) (n1 : H q ≠ none) (n2 : ω.hd q = none) (n3 : ω.g ≠ some q) (hn : ∀ (i : Nat) (es : List D), env[i]? = some (some (.own es)) → σ[i]? ≠ some (some (.ref q))) (hd : ∀ (i : Nat) (es : List (List Int × D)), env[i]? ≠ some (some (.dct q es))) : Ok (c.hold q) ω H σ env tk where
  len := ok.len
  sub := ok.sub
  st := ok.st
  slots := fun i e he => by
    obtain ⟨v, g1, g2⟩ := ok.slots i e he
    refine ⟨v, g1, ?_⟩
    cases e with
    | val d => exact g2
    | own ds =>
      obtain ⟨t, rfl, us, a1, a2, a3, a4, a5⟩ := g2
      refine ⟨t, rfl, us, a1, a2, a3, ⟨a4.1, fun z => ?_⟩, a5⟩
      rcases z with z | z
      · exact a4.2 z
      · subst z
        exact hn i ds he g1
    | dct t ds =>
      obtain ⟨rfl, us, a1, a2, a3, a4, a5⟩ := g2
      refine ⟨rfl, us, a1, a2, a3, ⟨a4.1, fun z => ?_⟩, a5⟩
      rcases z with z | z
      · exact a4.2 z
      · subst z
        exact hd i ds he
  dist := ok.dist
  one := ok.one
  new := ok.new
  ng := ok.ng
  fr := ok.fr
  le0 := ok.le0
  pr := fun b z => by
    rcases z with z | z
    · exact ok.pr b z
    · subst z
      exact ⟨n1, n2, n3⟩
/-- f(..)[i].append(u), the list fresh -/
def wAppF (S : FSpec) (r : WA) (i : Int) (u : WD) : WS := fun P env tk => r env tk fun ds e1 t1 => ds.all flatD = true ∧ S ds none (fun ev _ => ∃ es xs, ev = .val (.tup es) ∧ L2.atI es i = some (.hls xs) ∧ xs.length < sizeLine) ∧ u e1 t1 fun _ e2 t2 => P.nx e2 t2
theorem ss_appF {S : FSpec} {r : WA} {u : WD} {x : Str} {k : Nat} {i : Int} {j : Nat} (hK : c.K = X.K) (G : FnIn X.prog X.w X.K X.mg X.base k x S) (ms : MonFS S) (hr : Room k X.A) (hg : Gl X x) (ha : SA X c (e :: es) r) (hv : ∀ c' : C, c'.K = c.K → SD X c' a u)
    (hix : PlainIx (.Constant (.int i) j pos3)) (hdb : (x == ("__debug__" : Str)) = false := by decide)
    (he : starEach (e :: es) X.env = (false, eval e X.env) :: starEach es X.env := by rfl) (hpl : (backTo pos2 (starEach es X.env)).any (·.1) = false := by rfl)
    (hline : (apos.endLine == pos.line) = true := by rfl) (hs : starEach [a] X.env = [(false, eval a X.env)] := by rfl)
    (hsw : swapsWith (.Call (.Attribute (.Subscript (.Call (.Name x p) (e :: es) [] pos2) (.Constant (.int i) j pos3) p2) "append" apos) [a] [] pos) none pos.line X.env = pure false := by rfl)
    (hbase : attributeBase (.Subscript (.Call (.Name x p) (e :: es) [] pos2) (.Constant (.int i) j pos3) p2) "append" X.env (eval (.Subscript (.Call (.Name x p) (e :: es) [] pos2) (.Constant (.int i) j pos3) p2) X.env) = eval (.Subscript (.Call (.Name x p) (e :: es) [] pos2) (.Constant (.int i) j pos3) p2) X.env := by rfl)
    (hfew : ((backTo pos (starEach [a] X.env)).all (fun x => !x.1) && (backToKw pos (keywordEach [] X.env)).all (fun x => x.1.isSome)
      && decide (([a] : List Expr).length + ([] : List Keyword).length + (if ([] : List Keyword).isEmpty then 0 else 1) < 30)) = true := by rfl) {q2 : Pos} (hq2 : q2.line = pos.line := by rfl) :
    SS X c (.Expr (.Call (.Attribute (.Subscript (.Call (.Name x p) (e :: es) [] pos2) (.Constant (.int i) j pos3) p2) "append" apos) [a] [] pos) q2) (wAppF S r i u) := by
  obtain ⟨f, fd, ps, F, hm, hk, hb⟩ := G.ex
  have m1 := (hv c rfl).mon
  have hv' : PE X a fun σ H Q => ∃ q, liftD (c.hold q) u σ H Q := pe_ex fun q => (hv (c.hold q) rfl).run
  have recv : PE X (.Subscript (.Call (.Name x p) (e :: es) [] pos2) (.Constant (.int i) j pos3) p2) _ := pe_ix ix_seq (pe_call F hr hg hm hk hb .nil pass0 ha.run hdb he hpl) pe_int hix
  refine ⟨fun P P' env tk l q => ha.mon _ _ _ _ (fun ds e1 t1 z => ⟨z.1, z.2.1, m1 _ _ _ _ (fun _ _ _ z => l.nx _ _ z) z.2.2⟩) q, (ps_expr (pe_bm PySem.F.plainAttrs_list PySem.F.slot_list_append PySem.F.type_list_append mt_append recv (pa_cons hv' pa_nil hs) hbase hfew hline hs rfl) (by rw [hq2]; exact hsw)).wk fun Dn σ H ⟨ω, env, tk, ok, q⟩ => ?_⟩
  refine ⟨ω, env, tk, ok, ha.mon _ _ _ _ (fun ds e1 t1 z vs ω1 H1 st1 ok1 r1 => ?_) q⟩
  obtain ⟨z1, z2, z3⟩ := z
  show spD X.K S (vs ++ []) H1 _ E0
  rw [List.append_nil, ← hK]
  refine ⟨⟨none, fun b => noL (ω1.hd b)⟩, ds, none, fun b o h => ok1.sub b o (noL_sub h).1, .inl ⟨rfl, rfl⟩, reps_flat z1 r1, ms _ _ _ _ (fun ev t2 h2 v ω' H' ret => ?_) z2⟩
  obtain ⟨es', xs, rfl, hat, hlen⟩ := h2
  obtain ⟨aa, ws, rfl, sq, rw'⟩ := Rep.tup_iff.mp (show Rep c.K ω' (.tup es') v from ret.v)
  obtain ⟨w1, hw1, hw2⟩ := rw'.atI hat
  obtain ⟨pp, us, rfl, hu1, hu2⟩ := Rep.hls_iff.mp hw2
  have hfresh : H1 pp = none := by
    rcases ret.new pp (by rw [hu1]; exact fun z => nomatch z) with y | y
    · have y' : noL (ω1.hd pp) ≠ none := y
      cases y2 : noL (ω1.hd pp) with
      | none => exact absurd y2 y'
      | some o =>
        have h3 := ret.le0.hd pp o y2
        rw [hu1] at h3
        cases h3
        exact absurd rfl ((noL_sub y2).2 us)
    · exact y
  have hup : H' pp = some (.lst us) := ret.sub _ _ hu1
  have fr : ∀ b o, H1 b = some o → H' b = some o := fun b o h => ret.fr b o h (fun z => nomatch z)
  have ok2 := ok1.ext fr
  refine .inr (.inl ⟨aa, ws, i, .ref pp, rfl, rfl, by first | (rw [hK]; exact sqT_mono ret.sub sq.1) | exact sqT_mono ret.sub sq.1, hw1, ?_⟩)
  have n2 : ω1.hd pp = none := ok1.nohd hfresh
  have n3 : ω1.g ≠ some pp := ok1.nog hfresh
  have hsl : ∀ (i : Nat) (es : List D), e1[i]? = some (some (.own es)) → σ[i]? ≠ some (some (.ref pp)) := ok1.noslot (.inl hfresh)
  have ok3 := ok2.holdNew (by rw [hup]; exact fun z => nomatch z) n2 n3 hsl (ok1.nodct hfresh)
  refine ⟨.inl ⟨rfl, us, .of hup⟩, pp, ω1, e1, t1, ok3, m1 _ _ _ _ (fun d e2 t2 z v ω2 H2 s2 ok4 r2 => ?_) z3⟩
  have hl2 : H2 pp = some (.lst us) := s2.fr pp _ hup n3
  refine ⟨pp, us, v, rfl, rfl, hl2, by rw [hu2.length]; exact hlen, z σ ω2 _ (st1.le.trans s2.le) ?_⟩
  exact (ok4.turnP (ok1.noH0 hfresh) _).unhold
/-! ### a walk over an own list that stays own -/
def wForO (i : Nat) (g : WG) (b : WS) : WS := fun P env tk => match env[i]? with
  | some (some (.own ds)) => ∀ p : Addr, forGo g b { P with nx := fun e t => e[i]? = some (some (.val (.adr p))) ∧ P.nx (e.set i (some (.own ds))) t, bk := fun _ _ => False, ct := fun _ _ => False } ds (env.set i (some (.val (.adr p)))) tk
  | _ => False
theorem MonS.forO {i : Nat} {g : WG} {b : WS} (mg : ∀ d env Q Q', (∀ e, Q e → Q' e) → g d env Q → g d env Q') (mb : MonS b) : MonS (wForO i g b) := fun P P' env tk l q => by
  unfold wForO at q ⊢
  split at q
  · intro p
    refine forGo_mono mg mb (P := { P with nx := _, bk := _, ct := _ }) ?_ _ _ _ (q p)
    exact ⟨fun e t z => ⟨z.1, l.nx _ _ z.2⟩, l.rt, fun _ _ z => z.elim, fun _ _ z => z.elim⟩
  · exact q
/-- what the body sees: the list's object as it stood -/
abbrev C.keep (c : C) (p : Addr) (vs : List V) : C := { c with H0 := upd c.H0 p (.lst vs) }
theorem Ok.keep {ω : Wd} {H : Hp} {σ : L2.St} {env : En} {tk : Tk} {i : Nat} {ds : List D} {p : Addr} {vs : List V} (ok : Ok c ω H σ env tk) (he : env[i]? = some (some (.own ds))) (hp : σ[i]? = some (some (.ref p))) (h1 : H p = some (.lst vs)) (h2 : ω.hd p = none) (h3 : ω.g ≠ some p) :
    Ok (c.keep p vs) ω H σ (env.set i (some (.val (.adr p)))) tk where
  len := by rw [List.length_set]; exact ok.len
  sub := ok.sub
  st := ok.st
  slots := fun j e hj => by
    have hl : i < env.length := (List.getElem?_eq_some_iff.mp he).1
    by_cases hij : i = j
    · subst hij
      rw [List.getElem?_set_self hl] at hj
      cases hj
      exact ⟨_, hp, (show Rep c.K ω (.adr p) (.ref p) from Rep.adr_iff.mpr rfl)⟩
    · rw [List.getElem?_set_ne hij] at hj
      obtain ⟨v, g1, g2⟩ := ok.slots j e hj
      refine ⟨v, g1, ?_⟩
      cases e with
      | val d => exact g2
      | own es =>
        obtain ⟨t, rfl, us, a1, a2, a3, a4, a5⟩ := g2
        refine ⟨t, rfl, us, a1, a2, a3, ⟨?_, a4.2⟩, a5⟩
        show upd c.H0 p (.lst vs) t = none
        rw [upd_ne fun z => hij (ok.dist i j p ds es he hj hp (by rw [g1, z]))]
        exact a4.1
      | dct t es =>
        obtain ⟨rfl, us, a1, a2, a3, a4, a5⟩ := g2
        refine ⟨rfl, us, a1, a2, a3, ⟨?_, a4.2⟩, a5⟩
        show upd c.H0 p (.lst vs) t = none
        rw [upd_ne (dct_lst a1 h1)]
        exact a4.1
  dist := fun j k q es fs a b x y => by
    have g : ∀ (j : Nat) (ls : List D), (env.set i (some (.val (.adr p))))[j]? = some (some (.own ls)) → env[j]? = some (some (.own ls)) := fun j ls h => by
      by_cases hij : i = j
      · subst hij
        by_cases hl : i < env.length
        · rw [List.getElem?_set_self hl] at h; cases h
        · rw [List.getElem?_eq_none (by rw [List.length_set]; omega)] at h; cases h
      · rw [List.getElem?_set_ne hij] at h; exact h
    exact ok.dist j k q es fs (g j es a) (g k fs b) x y
  one := fun j k q es fs a b => by
    have g : ∀ (j : Nat) (ls : List (List Int × D)), (env.set i (some (.val (.adr p))))[j]? = some (some (.dct q ls)) → env[j]? = some (some (.dct q ls)) := fun j ls h => by
      by_cases hij : i = j
      · subst hij
        by_cases hl : i < env.length
        · rw [List.getElem?_set_self hl] at h; cases h
        · rw [List.getElem?_eq_none (by rw [List.length_set]; omega)] at h; cases h
      · rw [List.getElem?_set_ne hij] at h; exact h
    exact ok.one j k q es fs (g j es a) (g k fs b)
  new := fun b h => by
    rcases ok.new b h with z | z
    · exact .inl z
    · by_cases e : b = p
      · subst e
        exact absurd h2 h
      · right
        show upd c.H0 p (.lst vs) b = none
        rw [upd_ne e]; exact z
  ng := fun b h => by
    rcases ok.ng b h with z | z
    · exact .inl z
    · right
      show upd c.H0 p (.lst vs) b = none
      rw [upd_ne fun e => h3 (by rw [← e]; exact h)]
      exact z
  fr := fun b o h n => by
    by_cases e : b = p
    · subst e
      have h' : upd c.H0 b (.lst vs) b = some o := h
      rw [upd_same] at h'
      rw [h1]; exact h'
    · have h' : upd c.H0 p (.lst vs) b = some o := h
      rw [upd_ne e] at h'
      exact ok.fr b o h' n
  le0 := ok.le0
  pr := ok.pr
theorem Ok.unkeep {ω ω' : Wd} {H : Hp} {σ : L2.St} {env : En} {tk : Tk} {i : Nat} {ds : List D} {p : Addr} {vs : List V} (ok : Ok (c.keep p vs) ω' H σ env tk) (he : env[i]? = some (some (.val (.adr p)))) (n0 : c.H0 p = none ∧ ¬ c.pr p) (l : ω.le ω') (lw : c.w0.le ω) (h2 : ω.hd p = none) (h3 : ω.g ≠ some p) (r : Reps c.K ω ds vs) :
    Ok c ω' H σ (env.set i (some (.own ds))) tk := by
  have k0 : (c.keep p vs).H0 p = some (.lst vs) := upd_same
  have hH : H p = some (.lst vs) := ok.fr p _ k0 fun z => h3 (lw.g p z)
  have hh : ω'.hd p = none := by
    cases y : ω'.hd p with
    | none => rfl
    | some o =>
      rcases ok.new p (by rw [y]; exact fun z => nomatch z) with z | z
      · cases y2 : c.w0.hd p with
        | none => exact absurd y2 z
        | some o2 => rw [lw.hd p o2 y2] at h2; cases h2
      · rw [k0] at z; cases z
  have hg : ω'.g ≠ some p := fun z => by
    rcases ok.ng p z with y | y
    · exact h3 (lw.g p y)
    · rw [k0] at y; cases y
  have hl : i < env.length := (List.getElem?_eq_some_iff.mp he).1
  have sl : ∀ (j : Nat) (es : List D), env[j]? = some (some (.own es)) → ∃ t, σ[j]? = some (some (.ref t)) ∧ OwnAt c ω' H t es ∧ t ≠ p := fun j es hj => by
    obtain ⟨v, g1, t, rfl, us, a1, a2, a3, a4, a5⟩ := ok.slots j _ hj
    have tp : t ≠ p := fun z => by
      subst z
      have := a4.1
      rw [k0] at this
      cases this
    refine ⟨t, g1, ⟨us, a1, a2, a3, ⟨?_, a4.2⟩, a5⟩, tp⟩
    have : upd c.H0 p (.lst vs) t = none := a4.1
    rw [upd_ne tp] at this
    exact this
  obtain ⟨vi, gi, ri⟩ := ok.slots i _ he
  have ri : vi = .ref p := Rep.adr_iff.mp (show Rep c.K ω' (.adr p) vi from ri)
  subst ri
  exact {
    len := by rw [List.length_set]; exact ok.len
    sub := ok.sub
    st := ok.st
    slots := fun j e hj => by
      by_cases hij : i = j
      · subst hij
        rw [List.getElem?_set_self hl] at hj
        cases hj
        exact ⟨_, gi, p, rfl, vs, hH, hh, hg, n0, r.mono l⟩
      · rw [List.getElem?_set_ne hij] at hj
        cases e with
        | val d =>
          obtain ⟨v, g1, g2⟩ := ok.slots j _ hj
          exact ⟨v, g1, g2⟩
        | own es =>
          obtain ⟨t, g1, g2, _⟩ := sl j es hj
          exact ⟨_, g1, t, rfl, g2⟩
        | dct t es =>
          obtain ⟨v, g1, rfl, us, a1, a2, a3, a4, a5⟩ := ok.slots j _ hj
          have tp : t ≠ p := fun z => by
            subst z
            have := a4.1
            rw [k0] at this
            cases this
          refine ⟨_, g1, rfl, us, a1, a2, a3, ⟨?_, a4.2⟩, a5⟩
          have : upd c.H0 p (.lst vs) t = none := a4.1
          rw [upd_ne tp] at this
          exact this
    dist := fun j k q es fs a b x y => by
      have g : ∀ (j : Nat) (ls : List D), (env.set i (some (.own ds)))[j]? = some (some (.own ls)) → σ[j]? = some (some (.ref q)) → (i = j ∧ q = p) ∨ (i ≠ j ∧ env[j]? = some (some (.own ls)) ∧ q ≠ p) := fun j ls h hσ => by
        by_cases hij : i = j
        · subst hij
          rw [gi] at hσ
          cases hσ
          exact .inl ⟨rfl, rfl⟩
        · rw [List.getElem?_set_ne hij] at h
          obtain ⟨t, g1, _, tp⟩ := sl j ls h
          rw [g1] at hσ
          cases hσ
          exact .inr ⟨hij, h, tp⟩
      rcases g j es a x with ⟨e1, e2⟩ | ⟨_, h1, e2⟩ <;> rcases g k fs b y with ⟨e3, e4⟩ | ⟨_, h2, e4⟩
      · omega
      · exact absurd e2 e4
      · exact absurd e4 e2
      · exact ok.dist j k q es fs h1 h2 x y
    one := fun j k q es fs a b => by
      have g : ∀ (j : Nat) (ls : List (List Int × D)), (env.set i (some (.own ds)))[j]? = some (some (.dct q ls)) → env[j]? = some (some (.dct q ls)) := fun j ls h => by
        by_cases hij : i = j
        · subst hij
          rw [List.getElem?_set_self hl] at h; cases h
        · rw [List.getElem?_set_ne hij] at h; exact h
      exact ok.one j k q es fs (g j es a) (g k fs b)
    new := fun b h => by
      rcases ok.new b h with z | z
      · exact .inl z
      · by_cases e : b = p
        · subst e; exact absurd hh h
        · have z' : upd c.H0 p (.lst vs) b = none := z
          rw [upd_ne e] at z'
          exact .inr z'
    ng := fun b h => by
      rcases ok.ng b h with z | z
      · exact .inl z
      · have z' : upd c.H0 p (.lst vs) b = none := z
        rw [upd_ne fun e => hg (by rw [← e]; exact h)] at z'
        exact .inr z'
    fr := fun b o h n => ok.fr b o (by
      show upd c.H0 p (.lst vs) b = some o
      rw [upd_ne (ne_of_none h n0.1)]
      exact h) n
    le0 := ok.le0
    pr := ok.pr }
theorem Ret.unkeep {ω : Wd} {H : Hp} {tk : Tk} {ev : EV} {v : V} {p : Addr} {vs : List V} (r : Ret (c.keep p vs) ω H tk ev v) (n0 : c.H0 p = none) : Ret c ω H tk ev v where
  sub := r.sub
  st := r.st
  new := fun b h => by
    rcases r.new b h with z | z
    · exact .inl z
    · by_cases e : b = p
      · subst e; exact .inr n0
      · have z' : upd c.H0 p (.lst vs) b = none := z
        rw [upd_ne e] at z'
        exact .inr z'
  ng := fun b h => by
    rcases r.ng b h with z | z
    · exact .inl z
    · by_cases e : b = p
      · subst e; exact .inr n0
      · have z' : upd c.H0 p (.lst vs) b = none := z
        rw [upd_ne e] at z'
        exact .inr z'
  fr := fun b o h n => r.fr b o (by
    show upd c.H0 p (.lst vs) b = some o
    rw [upd_ne (ne_of_none h n0)]
    exact h) n
  le0 := r.le0
  v := by
    have hv := r.v
    cases ev with
    | val d => exact hv
    | own ds =>
      obtain ⟨t, e, us, a1, a2, a3, a4, a5⟩ := hv
      refine ⟨t, e, us, a1, a2, a3, ⟨?_, a4.2⟩, a5⟩
      by_cases tp : t = p
      · subst tp; exact n0
      · have z' : upd c.H0 p (.lst vs) t = none := a4.1
        rw [upd_ne tp] at z'
        exact z'
    | dct t ds =>
      obtain ⟨e, us, a1, a2, a3, a4, a5⟩ := hv
      refine ⟨e, us, a1, a2, a3, ⟨?_, a4.2⟩, a5⟩
      by_cases tp : t = p
      · subst tp; exact n0
      · have z' : upd c.H0 p (.lst vs) t = none := a4.1
        rw [upd_ne tp] at z'
        exact z'
theorem pss_exF {body : List Stmt} {α : Type} {t : α → TS} (h : ∀ a, PSs X body (t a)) : PSs X body fun D σ H => ∃ a, t a D σ H := ⟨fun pins s σ H D I ⟨a, q⟩ => (h a).run pins s σ H D I q⟩
theorem ss_forO (i : Nat) {tg : Expr} {x : Str} {t : TG} {g : WG} {b : WS} {us : List Nat} {body : List Stmt} (hp : PassesOwn (model X.prog X.w) X.A X.env X.xe) (hc : X.calm = true) (hK : c.K = X.K) (hx : PE X (.Name x p) (tVar i)) (hg : ∀ c' : C, c'.K = c.K → SG X c' tg t g us) (hb : ∀ c' : C, c'.K = c.K → SSs X c' body b)
    (hs : ∀ y, foldedSetIterable (.Name x p) X.env y = pure y := by intro _; rfl) : SS X c (.For tg (.Name x p) body [] pos) (wForO i g b) := by
  have mg := (hg c rfl).mon
  have mb := (hb c rfl).mon
  refine ⟨.forO mg mb, (ps_for hp hc (pi_seq hx) (hg c rfl).pg (pss_exF fun (y : Addr × List V) => (hb (c.keep y.1 y.2) rfl).run) hs).wk fun Dn σ H ⟨ω, env, tk, ok, q⟩ => ?_⟩
  unfold wForO at q
  split at q
  rotate_left
  · exact q.elim
  rename_i ds he
  obtain ⟨v, hv, pp, rfl, vs, h1, h2, h3, h4, h5⟩ := ok.slots i _ he
  have q := q pp
  refine ⟨_, hv, .inl ⟨pp, rfl, ⟨vs, .of h1⟩, ?_⟩⟩
  have okk := ok.keep he hv h1 h2 h3
  have w0 : ∀ {ω' : Wd} {H' : Hp} {σ' : L2.St} {e : En} {t : Tk}, Ok (c.keep pp vs) ω' H' σ' e t → H' pp = some (.lst vs) := fun ok' => ok'.fr pp _ upd_same fun z => h3 (ok.le0.g pp z)
  have sq : ∀ {H' : Hp}, H' pp = some (.lst vs) → SqL X.K H' pp vs := fun h => .of h
  have uniq : ∀ {H' : Hp} {xs : List V}, H' pp = some (.lst vs) → SqL X.K H' pp xs → True := fun _ _ => trivial
  obtain ⟨Pd, hPd⟩ : ∃ Pd : Post, Pd = { nx := fun e t => e[i]? = some (some (.val (.adr pp))) ∧ (postOf c ω Dn).nx (e.set i (some (.own ds))) t, rt := (postOf c ω Dn).rt, bk := fun _ _ => False, ct := fun _ _ => False } := ⟨_, rfl⟩
  have q : forGo g b Pd ds (env.set i (some (.val (.adr pp)))) tk := by rw [hPd]; exact q
  have fin : ∀ σ' ω' H' e t, ω.le ω' → Ok (c.keep pp vs) ω' H' σ' e t → Pd.nx e t → Dn.nx σ' H' := fun σ' ω' H' e t l ok' z => by
    rw [hPd] at z
    exact z.2 σ' ω' H' l (ok'.unkeep z.1 h4 l ok.le0 h2 h3 h5)
  refine ⟨fun n m σ H => m = ds.length - n ∧ ∃ ω' e t, ω.le ω' ∧ Ok (c.keep pp vs) ω' H σ e t ∧ forGo g b Pd (ds.drop n) e t, ⟨ds.length, rfl, ω, _, tk, .refl _, okk, q⟩, fun n m σ H ⟨hm, ω2, e2, t2, l2, ok2, z2⟩ => ?_⟩
  have hH := w0 ok2
  have hlen : vs.length = ds.length := h5.length
  by_cases hi : n < ds.length
  · have hi' : n < vs.length := by rw [hlen]; exact hi
    refine .inr ⟨⟨vs, vs[n], sq hH, List.getElem?_eq_getElem hi'⟩, fun σ' H' => m = ds.length - n ∧ ∃ ω' e t, ω.le ω' ∧ Ok (c.keep pp vs) ω' H' σ' e t ∧ forGo g b Pd (ds.drop (n + 1)) e t, fun σ' H' ⟨a, h⟩ => ⟨ds.length - (n + 1), by omega, rfl, h⟩, fun y H' yl => ?_⟩
    obtain ⟨rfl, hy⟩ := yl
    have hy := hy vs (sq hH)
    obtain ⟨v', e', rv⟩ := h5.get (i := n) (d := ds[n]) (List.getElem?_eq_getElem hi)
    rw [hy] at e'
    cases e'
    have hd : ds.drop n = ds[n] :: ds.drop (n + 1) := List.drop_eq_getElem_cons hi
    rw [hd] at z2
    have gg := hg (c.keep pp vs) rfl
    refine gg.run σ H' y _ ω2 e2 t2 ds[n] ok2 (rv.mono l2) (gg.mon _ _ _ _ (fun e' z σ' _ ok' => ?_) z2)
    refine ⟨(pp, vs), ω2, e', t2, ok', mb { Pd with nx := fun e2 t2 => forGo g b Pd (ds.drop (n + 1)) e2 t2, ct := fun e2 t2 => forGo g b Pd (ds.drop (n + 1)) e2 t2, bk := Pd.nx } _ _ _ ?_ z⟩
    refine ⟨fun e t z σ' ω' H' l ok' => ⟨hm, ω', e, t, l2.trans l, ok', z⟩, fun ev t z v ω' H' r => ?_, fun e t z σ' ω' H' l ok' => fin σ' ω' H' e t (l2.trans l) ok' z, fun e t z σ' ω' H' l ok' => ⟨hm, ω', e, t, l2.trans l, ok', z⟩⟩
    rw [hPd] at z
    exact z v ω' H' (r.unkeep h4.1)
  · refine .inl ⟨⟨vs, sq hH, by omega⟩, ?_⟩
    rw [List.drop_eq_nil_of_le (by omega)] at z2
    exact fin σ ω2 H e2 t2 l2 ok2 z2
end
end DL
namespace DL
open PySem PySem.Spec PyProof.Rows L2
/-! ### an own dict: its keys any tuples of ints -/
def dGet (kvs : List (List Int × D)) (js : List Int) : Option D := (kvs.find? fun e => decide (e.1 = js)).map Prod.snd
def dPut (kvs : List (List Int × D)) (js : List Int) (d : D) : List (List Int × D) := if (dGet kvs js).isSome then kvs.map fun e => if e.1 = js then (e.1, d) else e else kvs ++ [(js, d)]
theorem keyI_inj {a b : List Int} (h : (a.map Sum.inl : List Key) = b.map Sum.inl) : a = b := by
  induction a generalizing b with
  | nil => cases b with
    | nil => rfl
    | cons y b => cases h
  | cons x a ih => cases b with
    | nil => cases h
    | cons y b =>
      injection h with h1 h2
      injection h1 with h1
      rw [h1, ih h2]
theorem keyI_v (js : List Int) : (js.map Sum.inl : List Key).map kV = js.map V.int := by
  induction js with
  | nil => rfl
  | cons x l ih => rw [List.map_cons, List.map_cons, List.map_cons, ih]; rfl
theorem reps_intsV {K : PySem.W.Frag} {ω : Wd} : ∀ {ns : List Int} {vs : List V}, Reps K ω (ns.map D.int) vs → vs = ns.map V.int
  | [], vs, h => Reps.nil_iff.mp h
  | n :: ns, vs, h => by
    obtain ⟨v, r, rfl, h1, h2⟩ := Reps.cons_iff.mp h
    rw [Rep.int_iff.mp h1, reps_intsV h2]
    rfl
theorem ints_injD {a b : List Int} (h : a.map D.int = b.map D.int) : a = b := by
  induction a generalizing b with
  | nil => cases b with
    | nil => rfl
    | cons y b => cases h
  | cons x a ih => cases b with
    | nil => cases h
    | cons y b =>
      injection h with h1 h2
      injection h1 with h1
      rw [h1, ih h2]
def kx (x : List Int × Addr × Value) : List Key × Addr × Value := (x.1.map Sum.inl, x.2)
theorem DP.keys {kvs : List (List Int × D)} {vs : List V} {xs : List (List Int × Addr × Value)} (h : DP kvs vs xs) : xs.map Prod.fst = kvs.map Prod.fst := by
  induction h with
  | nil => rfl
  | cons h t ih => rw [List.map_cons, List.map_cons, ih]
theorem dEnt_kx (P : Program) (w : World) (x : List Int × Addr × Value) : entryOfKey (tupleKind (mixKind P w)) (kx x) = dEnt x := by
  have e : (x.1.map Sum.inl : List Key).map (mixKind P w).hash = x.1.map hashInt := by rw [List.map_map]; rfl
  show (⟨tupleKeyHash (mixKind P w) (x.1.map Sum.inl), .ref x.2.1, x.2.2⟩ : DictEntry) = dEnt x
  unfold tupleKeyHash dEnt
  rw [e]
theorem kx_keys (xs : List (List Int × Addr × Value)) : (xs.map kx).map (·.1) = (xs.map Prod.fst).map fun l => (l.map Sum.inl : List Key) := by rw [List.map_map, List.map_map]; rfl
theorem kx_nodup {xs : List (List Int × Addr × Value)} (h : (xs.map Prod.fst).Nodup) : ((xs.map kx).map (·.1)).Nodup := by
  rw [kx_keys]
  exact List.pairwise_map.mpr (h.imp fun ne e => ne (keyI_inj e))
section
variable {K : PySem.W.Frag} {ω : Wd}
theorem dctD_cons (k : List Int) (d : D) (kvs : List (List Int × D)) : dctD ((k, d) :: kvs) = .tup (k.map D.int) :: d :: dctD kvs := rfl
theorem DP.at {kvs : List (List Int × D)} {vs : List V} {xs : List (List Int × Addr × Value)} (h : DP kvs vs xs) (r : Reps K ω (dctD kvs) vs) (js : List Int) :
    (dGet kvs js = none ∧ atKey (xs.map kx) (js.map Sum.inl) = none) ∨ ∃ d v b u, dGet kvs js = some d ∧ atKey (xs.map kx) (js.map Sum.inl) = some (b, u) ∧ RelV v u ∧ Rep K ω d v := by
  induction h with
  | nil => exact .inl ⟨rfl, rfl⟩
  | @cons k d b v u kvs vs xs hv t ih =>
    rw [dctD_cons] at r
    obtain ⟨v1, r1, e, h1, h2⟩ := Reps.cons_iff.mp r
    injection e with e1 e
    subst e1 e
    obtain ⟨v2, r2, e, h3, h4⟩ := Reps.cons_iff.mp h2
    injection e with e1 e
    subst e1 e
    by_cases z : k = js
    · right
      refine ⟨d, _, b, u, ?_, ?_, hv, h3⟩
      · unfold dGet
        rw [List.find?_cons_of_pos (by exact decide_eq_true z)]
        rfl
      · unfold atKey kx
        rw [List.map_cons, List.find?_cons_of_pos (by exact decide_eq_true (by rw [z]))]
        rfl
    · have e1 : dGet ((k, d) :: kvs) js = dGet kvs js := by
        unfold dGet
        rw [List.find?_cons_of_neg (by rw [decide_eq_true_eq]; exact z)]
      have e2 : atKey (((k, b, u) :: xs).map kx) (js.map Sum.inl) = atKey (xs.map kx) (js.map Sum.inl) := by
        unfold atKey
        rw [List.map_cons, List.find?_cons_of_neg (by rw [decide_eq_true_eq]; exact fun w => z (keyI_inj w))]
      rw [e1, e2]
      exact ih h4
theorem DP.key_at {X : Cx} {pins : List (Addr × Obj)} {σ : L2.St} {H : Hp} {s : Shared} (I : Inv X pins σ H s) (hK : K = X.K) (sub : ∀ b o, ω.hd b = some o → H b = some o) {b : Addr} {js : List Int} (h : Rep K ω (.tup (js.map D.int)) (.ref b)) : (tupleKind (mixKind X.prog X.w)).is s.heap (js.map Sum.inl) b := by
  obtain ⟨a, us, e, h1, h2⟩ := Rep.tup_iff.mp h
  cases e
  have eu := reps_intsV h2
  subst eu
  rw [hK] at h1
  obtain ⟨its, r, ⟨o, ho, hc, n, hd⟩, _⟩ := I.tuple (sqT_mono sub h1.1)
  exact ⟨o, its.toArray, n, ho, hc, hd, by simpa using items_are (by rw [keyI_v]; exact r)⟩
theorem DP.is {X : Cx} {pins : List (Addr × Obj)} {σ : L2.St} {H : Hp} {s : Shared} (I : Inv X pins σ H s) (hK : K = X.K) (sub : ∀ b o, ω.hd b = some o → H b = some o) {kvs : List (List Int × D)} {vs : List V} {xs : List (List Int × Addr × Value)} (h : DP kvs vs xs) (r : Reps K ω (dctD kvs) vs) : ∀ x ∈ xs.map kx, (tupleKind (mixKind X.prog X.w)).is s.heap x.1 x.2.1 := by
  induction h with
  | nil => intro x hx; exact nomatch hx
  | @cons k d b v u kvs vs xs hv t ih =>
    rw [dctD_cons] at r
    obtain ⟨v1, r1, e, h1, h2⟩ := Reps.cons_iff.mp r
    injection e with e1 e
    subst e1 e
    obtain ⟨v2, r2, e, h3, h4⟩ := Reps.cons_iff.mp h2
    injection e with e1 e
    subst e1 e
    intro x hx
    rcases List.mem_cons.mp (show x ∈ kx (k, b, u) :: xs.map kx from hx) with e | hx
    · subst e
      exact DP.key_at I hK sub h1
    · exact ih h4 x hx
theorem dct_heap {X : Cx} {pins : List (Addr × Obj)} {σ : L2.St} {H : Hp} {s : Shared} (I : Inv X pins σ H s) (hK : K = X.K) (sub : ∀ b o, ω.hd b = some o → H b = some o) {p : Addr} {kvs : List (List Int × D)} {vs : List V} (hH : H p = some (dctO p kvs vs)) (r : Reps K ω (dctD kvs) vs) :
    ∃ xs, DP kvs vs xs ∧ kvs.length ≤ sizeLine ∧ (p == sysModules) = false ∧ (kvs.map Prod.fst).Nodup ∧ s.heap.DictOfH (tupleKind (mixKind X.prog X.w)) p (xs.map kx) := by
  obtain ⟨⟨h1, h2, h3, xs, dp, o, es, ep, g1, g2, g3, g4⟩, _⟩ := (show ObjOk X.prog X.w H s.heap p (.ext (dctF p kvs vs)) from I.hok p _ hH)
  refine ⟨xs, dp, h1, h2, h3, o, es, ep, g1, g2, g3, ?_, DP.is I hK sub dp r, kx_nodup (by rw [dp.keys]; exact h3)⟩
  rw [g4, List.map_map]
  exact (List.map_congr_left fun x _ => dEnt_kx _ _ x).symm
theorem DP.len {kvs : List (List Int × D)} {vs : List V} {xs : List (List Int × Addr × Value)} (h : DP kvs vs xs) : xs.length = kvs.length := by
  have := congrArg List.length h.keys
  rw [List.length_map, List.length_map] at this
  exact this
theorem dGet_mem {kvs : List (List Int × D)} {js : List Int} : (dGet kvs js).isSome = true ↔ js ∈ kvs.map Prod.fst := by
  unfold dGet
  rw [Option.isSome_map, List.find?_isSome, List.mem_map]
  constructor
  · rintro ⟨e, he, h⟩
    exact ⟨e, he, of_decide_eq_true h⟩
  · rintro ⟨e, he, rfl⟩
    exact ⟨e, he, decide_eq_true rfl⟩
/-- a row is put: the old key stays, the new one stands last -/
theorem DP.repl {kvs : List (List Int × D)} {vs : List V} {xs : List (List Int × Addr × Value)} (h : DP kvs vs xs) (r : Reps K ω (dctD kvs) vs) (js : List Int) {d : D} {v : V} {u : Value} (hd : Rep K ω d v) (hv : RelV v u) :
    ∃ vs' xs', DP (kvs.map fun e => if e.1 = js then (e.1, d) else e) vs' xs' ∧ Reps K ω (dctD (kvs.map fun e => if e.1 = js then (e.1, d) else e)) vs' ∧ (xs.map kx).map (putAt (js.map Sum.inl) u) = xs'.map kx := by
  induction h with
  | nil => exact ⟨[], [], .nil, r, rfl⟩
  | @cons k d0 b v0 u0 kvs vs xs hv0 t ih =>
    rw [dctD_cons] at r
    obtain ⟨v1, r1, e, h1, h2⟩ := Reps.cons_iff.mp r
    injection e with e1 e
    subst e1 e
    obtain ⟨v2, r2, e, h3, h4⟩ := Reps.cons_iff.mp h2
    injection e with e1 e
    subst e e1
    obtain ⟨vs', xs', a1, a2, a3⟩ := ih h4
    by_cases z : k = js
    · refine ⟨.ref b :: v :: vs', (k, b, u) :: xs', ?_, ?_, ?_⟩
      · rw [List.map_cons, if_pos z]
        exact .cons hv a1
      · rw [List.map_cons, if_pos z, dctD_cons]
        exact Reps.cons h1 (Reps.cons hd a2)
      · rw [List.map_cons, List.map_cons, List.map_cons, a3]
        unfold putAt kx
        rw [if_pos (by rw [z])]
    · refine ⟨.ref b :: v0 :: vs', (k, b, u0) :: xs', ?_, ?_, ?_⟩
      rotate_left
      · rw [List.map_cons, if_neg z, dctD_cons]
        exact Reps.cons h1 (Reps.cons h3 a2)
      · rw [List.map_cons, List.map_cons, List.map_cons, a3]
        unfold putAt kx
        rw [if_neg (fun w => z (keyI_inj w))]
      · rw [List.map_cons, if_neg z]
        exact .cons hv0 a1
theorem DP.snoc {kvs : List (List Int × D)} {vs : List V} {xs : List (List Int × Addr × Value)} (h : DP kvs vs xs) {k : List Int} {d : D} {b : Addr} {v : V} {u : Value} (hv : RelV v u) : DP (kvs ++ [(k, d)]) (vs ++ [.ref b, v]) (xs ++ [(k, b, u)]) := by
  induction h with
  | nil => exact .cons hv .nil
  | cons h t ih => exact .cons h ih
theorem DP.put {kvs : List (List Int × D)} {vs : List V} {xs : List (List Int × Addr × Value)} (h : DP kvs vs xs) (r : Reps K ω (dctD kvs) vs) (js : List Int) {d : D} {v : V} {u : Value} {b : Addr} (hb : Rep K ω (.tup (js.map D.int)) (.ref b)) (hd : Rep K ω d v) (hv : RelV v u) :
    ∃ vs' xs', DP (dPut kvs js d) vs' xs' ∧ Reps K ω (dctD (dPut kvs js d)) vs' ∧ storedH (xs.map kx) (js.map Sum.inl) b u = xs'.map kx := by
  unfold dPut storedH
  rcases h.at r js with ⟨e1, e2⟩ | ⟨d', v', b', u', e1, e2, _, _⟩
  · rw [e1, e2]
    refine ⟨vs ++ [.ref b, v], xs ++ [(js, b, u)], h.snoc hv, ?_, ?_⟩
    · have e : dctD (kvs ++ [(js, d)]) = dctD kvs ++ [.tup (js.map D.int), d] := by
        unfold dctD
        rw [List.flatMap_append]
        rfl
      rw [if_neg (show ¬ ((none : Option D).isSome = true) from Bool.false_ne_true), e]
      exact r.append (Reps.cons hb (Reps.cons hd Reps.nil))
    · rw [if_neg (show ¬ ((none : Option (Addr × Value)).isSome = true) from Bool.false_ne_true), List.map_append]
      rfl
  · rw [e1, e2]
    rw [if_pos (show (some d').isSome = true from rfl), if_pos (show (some (b', u')).isSome = true from rfl)]
    exact h.repl r js hd hv
theorem dPut_nodup {kvs : List (List Int × D)} (h : (kvs.map Prod.fst).Nodup) (js : List Int) (d : D) : ((dPut kvs js d).map Prod.fst).Nodup := by
  unfold dPut
  split
  · have e : (kvs.map fun e => if e.1 = js then (e.1, d) else e).map Prod.fst = kvs.map Prod.fst := by
      rw [List.map_map]
      refine List.map_congr_left fun e _ => ?_
      show (if e.1 = js then (e.1, d) else e).1 = e.1
      split <;> rfl
    rw [e]; exact h
  · rename_i hn
    rw [List.map_append]
    refine List.nodup_append.mpr ⟨h, by simp, fun a ha b hb e => ?_⟩
    rw [List.map_cons, List.map_nil, List.mem_singleton] at hb
    rw [e, hb] at ha
    exact hn (dGet_mem.mpr ha)
theorem dPut_len (kvs : List (List Int × D)) (js : List Int) (d : D) : (dPut kvs js d).length ≤ kvs.length + 1 := by
  unfold dPut
  split
  · rw [List.length_map]; omega
  · rw [List.length_append]; exact Nat.le_refl _
end
section
variable {X : Cx} {c : C}
theorem Ok.dput {ω : Wd} {H : Hp} {σ : L2.St} {env : En} {tk : Tk} {i : Nat} {p : Addr} {kvs kvs' : List (List Int × D)} {us us' : List V} (ok : Ok c ω H σ env tk) (he : env[i]? = some (some (.dct p kvs))) (hp : σ[i]? = some (some (.ref p))) (hH : H p = some (dctO p kvs us)) (a2 : ω.hd p = none) (a3 : ω.g ≠ some p) (a4 : c.H0 p = none ∧ ¬ c.pr p) (r : Reps c.K ω (dctD kvs') us') :
    Ok c ω (upd H p (dctO p kvs' us')) σ (env.set i (some (.dct p kvs'))) tk := by
  have hl : i < env.length := (List.getElem?_eq_some_iff.mp he).1
  exact {
    len := by rw [List.length_set]; exact ok.len
    sub := fun b o h => by
      rw [upd_ne (fun e => by rw [e, a2] at h; cases h)]
      exact ok.sub b o h
    st := by
      rcases ok.st with z | ⟨a', k, e, e1, e0, nn, ns, e2, r1, r2⟩
      · exact .inl z
      · exact .inr ⟨a', k, e, e1, e0, nn, ns, by rw [upd_ne (fun z => a3 (by rw [e, z]))]; exact e2, r1, r2⟩
    slots := fun j ev hj => by
      by_cases hij : i = j
      · subst hij
        rw [List.getElem?_set_self hl] at hj
        cases hj
        exact ⟨_, hp, rfl, us', upd_same, a2, a3, a4, r⟩
      · rw [List.getElem?_set_ne hij] at hj
        obtain ⟨v, h1, h2⟩ := ok.slots j ev hj
        refine ⟨v, h1, ?_⟩
        cases ev with
        | val d => exact h2
        | own ls =>
          obtain ⟨t, rfl, ws, b1, b2⟩ := h2
          exact ⟨t, rfl, ws, by rw [upd_ne (dct_lst hH b1).symm]; exact b1, b2⟩
        | dct t ls =>
          obtain ⟨rfl, ws, b1, b2⟩ := h2
          exact ⟨rfl, ws, by rw [upd_ne (fun z => hij (ok.one i j p _ _ he (by rw [← z]; exact hj)))]; exact b1, b2⟩
    dist := fun j k t ls ms hj hk pj pk => by
      have g : ∀ (j : Nat) (ls : List D), (env.set i (some (.dct p kvs')))[j]? = some (some (.own ls)) → env[j]? = some (some (.own ls)) := fun j ls h => by
        by_cases hij : i = j
        · subst hij
          rw [List.getElem?_set_self hl] at h
          cases h
        · rw [List.getElem?_set_ne hij] at h
          exact h
      exact ok.dist j k t ls ms (g j ls hj) (g k ms hk) pj pk
    one := fun j k t ls ms hj hk => by
      have g : ∀ (j : Nat) (ls : List (List Int × D)), (env.set i (some (.dct p kvs')))[j]? = some (some (.dct t ls)) → ∃ ls', env[j]? = some (some (.dct t ls')) := fun j ls h => by
        by_cases hij : i = j
        · subst hij
          rw [List.getElem?_set_self hl] at h
          cases h
          exact ⟨kvs, he⟩
        · rw [List.getElem?_set_ne hij] at h
          exact ⟨ls, h⟩
      obtain ⟨l1, g1⟩ := g j ls hj
      obtain ⟨l2, g2⟩ := g k ms hk
      exact ok.one j k t l1 l2 g1 g2
    new := ok.new
    ng := ok.ng
    fr := fun b o h n => by
      rw [upd_ne (ne_of_none h a4.1)]
      exact ok.fr b o h n
    le0 := ok.le0
    pr := fun b h => by
      obtain ⟨h1, h2, h3⟩ := ok.pr b h
      have hq : b ≠ p := fun z => a4.2 (by rw [← z]; exact h)
      exact ⟨by rw [upd_ne hq]; exact h1, h2, h3⟩ }
/-- {} -/
def wDNew : WE := fun env tk Q => ∀ p, Q (.dct p []) env tk
theorem dct_ok {P : Program} {w : World} {H : Hp} {h : Heap} {p : Addr} {kvs : List (List Int × D)} {vs : List V} (f : dctF p kvs vs h) : ObjOk P w H h p (dctO p kvs vs) := by
  refine ⟨f, ?_, ?_⟩
  · obtain ⟨_, _, _, xs, _, o, es, ep, g, _⟩ := f
    exact ⟨o, g⟩
  · rintro h1 h2 ⟨a1, a2, a3, xs, dp, o, es, ep, g1, g2⟩ k
    exact ⟨a1, a2, a3, xs, dp, o, es, ep, k _ g1, g2⟩
theorem pe_dnew {pos : Pos} : PE X (.Dict [] [] pos) (fun σ H Q => ∀ p, H p = none → Q (.ref p) (upd H p (dctO p [] []))) := ⟨fun pins s σ H Q I h =>
  wpAny_Dict_empty ⟨.ref s.heap.objs.size, _, I.laid (a := s.heap.objs.size) (o := dctO s.heap.objs.size [] []) (t' := s.toks) (fun _ _ q => Heap.get?_push_of_some _ q) (Nat.le_refl _)
    (dct_ok ⟨Nat.zero_le _, beq_eq_false_iff_ne.mpr (Ne.symm (Nat.ne_of_lt I.big)), List.nodup_nil, [], .nil, _, #[], 0, Heap.get?_push_size _ rfl, ⟨rfl, rfl, rfl⟩, rfl, rfl⟩), rfl, h _ (I.hok.fresh (Nat.le_refl _))⟩⟩
theorem se_dnew {pos : Pos} : SE X c (.Dict [] [] pos) wDNew := ⟨fun env tk Q Q' h q p => h _ _ _ (q p), pe_dnew.wk fun σ H Q ⟨ω, env, tk, ok, q⟩ => fun p n =>
  q p (.ref p) ω _ (.newL n _) (ok.newL n _) ⟨rfl, ⟨[], upd_same, ok.nohd n, ok.nog n, ⟨ok.noH0 n, ok.nopr n⟩, Reps.nil⟩, fun i es he => by
    obtain ⟨v, g1, _, us, a1, _⟩ := ok.slots i _ he
    rw [n] at a1
    cases a1⟩⟩
/-- a key as data -/
theorem rep_key {K : PySem.W.Frag} {ω : Wd} {js : List Int} {v : V} (h : Rep K ω (.tup (js.map D.int)) v) : ∃ b, v = .ref b := by
  obtain ⟨a, us, e, _⟩ := Rep.tup_iff.mp h
  exact ⟨a, e⟩
/-- key in d -/
def wDIn (i : Nat) (w : WD) : WT := fun env tk Q => w env tk fun d e1 t1 => match e1[i]? with
  | some (some (.dct _ kvs)) => ∃ js : List Int, d = .tup (js.map D.int) ∧ Q (dGet kvs js).isSome e1 t1
  | _ => False
theorem Mon.din {i : Nat} {w : WD} (m : Mon w) : Mon (wDIn i w) := fun env tk Q Q' h q => m _ _ _ _ (fun d e t z => by
  revert z
  split
  · rintro ⟨js, e, z⟩
    exact ⟨js, e, h _ _ _ z⟩
  · exact fun z => z) q
theorem st_din (i : Nat) {x : Str} {p1 pos : Pos} {k : Expr} {w : WD} (hu : X.A.units + 1 < cLine) (hK : c.K = X.K) (h : PE X (.Name x p1) (tVar i)) (hk : SD X c k w) (hm : behindInMarks .In (.Name x p1) = false := by rfl) : ST X c (.Compare k [.In] [.Name x p1] pos) (wDIn i w) := by
  refine ⟨.din hk.mon, (pt_cmp (t := fun σ H Q => liftT c (wDIn i w) σ H fun b H' => Q (.bl b) H') ⟨fun pins s σ H Q I ⟨ω, env, tk, ok, q⟩ => ?_⟩ hm).wk fun σ H Q ⟨ω, env, tk, ok, q⟩ => ⟨ω, env, tk, ok, (Mon.din hk.mon) _ _ _ _ (fun b e t z v ω' H' st ok' r => by subst r; exact ⟨_, rfl, z _ ω' H' st ok' rfl⟩) q⟩⟩
  refine thn (hk.run.run pins s σ H (fun v H1 => ∃ p kvs us js b, v = .ref b ∧ σ[i]? = some (some (.ref p)) ∧ (∃ ω1 env1 tk1, Ok c ω1 H1 σ env1 tk1 ∧ H1 p = some (dctO p kvs us) ∧ Reps c.K ω1 (dctD kvs) us ∧ Rep c.K ω1 (.tup (js.map D.int)) (.ref b)) ∧ Q (.bl (dGet kvs js).isSome) H1) I ⟨ω, env, tk, ok, hk.mon _ _ _ _ (fun d e1 t1 z v ω1 H1 s1 ok1 r1 => ?_) q⟩) fun iv s1 ⟨y, H1, I1, ry, p, kvs, us, js, b, ey, hp, ⟨ω1, env1, tk1, ok1, hH, hr, hb⟩, q1⟩ => ?_
  · revert z
    split
    · rename_i p kvs he
      rintro ⟨js, rfl, z⟩
      obtain ⟨v2, g1, rfl, us, a1, a2, a3, a4, a5⟩ := ok1.slots i _ he
      obtain ⟨b, rfl⟩ := rep_key r1
      exact ⟨p, kvs, us, js, b, rfl, g1, ⟨ω1, e1, t1, ok1, a1, a5, r1⟩, z _ ω1 H1 s1 ok1 rfl⟩
    · exact fun z => z.elim
  subst ey
  cases (show iv = Value.ref b from ry)
  refine thn (h.run pins s1 σ H1 (fun v H2 => v = .ref p ∧ H2 = H1) I1 ⟨.ref p, hp, rfl, rfl⟩) fun u s2 ⟨x, H2, I2, rx, ex, eH⟩ => ?_
  subst ex eH
  cases (show u = Value.ref p from rx)
  obtain ⟨xs, dp, _, hs, _, dd⟩ := dct_heap I2 hK ok1.sub hH hr
  refine wpAny_in_heap (tupleKind_room_in1 hu) (DP.key_at I2 hK ok1.sub hb) hs dd ?_
  have e : (atKey (xs.map kx) (js.map Sum.inl)).isSome = (dGet kvs js).isSome := by
    rcases dp.at hr js with ⟨e1, e2⟩ | ⟨_, _, _, _, e1, e2, _⟩ <;> rw [e1, e2] <;> rfl
  rw [e]
  exact ⟨.bl (dGet kvs js).isSome, _, I2.tok _, rfl, q1⟩
/-- d[key] -/
def wDAt (i : Nat) (w : WD) : WE := fun env tk Q => match env[i]? with
  | some (some (.dct _ _)) => w env tk fun k e1 t1 => match e1[i]? with
    | some (some (.dct _ kvs)) => ∃ (js : List Int) (d : D), k = .tup (js.map D.int) ∧ dGet kvs js = some d ∧ Q (.val d) e1 t1
    | _ => False
  | _ => False
theorem Mon.dat {i : Nat} {w : WD} (m : Mon w) : Mon (wDAt i w) := fun env tk Q Q' h q => by
  unfold wDAt at q ⊢
  revert q
  split
  · exact fun q => m _ _ _ _ (fun d e t z => by
      revert z
      split
      · rintro ⟨js, d, e, e2, z⟩
        exact ⟨js, d, e, e2, h _ _ _ z⟩
      · exact fun z => z) q
  · exact fun q => q
theorem se_dat (i : Nat) {x : Str} {p1 pos : Pos} {k : Expr} {w : WD} (hu : X.A.units + 1 < cLine) (hK : c.K = X.K) (h : PE X (.Name x p1) (tVar i)) (hk : SD X c k w) (hs : NoSl k) : SE X c (.Subscript (.Name x p1) k pos) (wDAt i w) := by
  refine ⟨.dat hk.mon, ⟨fun pins s σ H Q I ⟨ω, env, tk, ok, q⟩ => ?_⟩⟩
  unfold wDAt at q
  revert q
  split
  · rename_i p kvs0 he0
    intro q
    obtain ⟨v0, g0, rfl, us0, _⟩ := ok.slots i _ he0
    refine subD_of PySem.F.slot_dict_getitem.lookup hs (thn (h.run pins s σ H (fun v H1 => v = .ref p ∧ H1 = H) I ⟨.ref p, g0, rfl, rfl⟩) fun u s1 ⟨x, H1, I1, rx, ex, eH⟩ => ?_)
    subst ex eH
    cases (show u = Value.ref p from rx)
    refine thn (hk.run.run pins s1 σ H1 (fun v H2 => ∃ kvs us js b d, v = .ref b ∧ dGet kvs js = some d ∧ (∃ ω1 env1 tk1, Ok c ω1 H2 σ env1 tk1 ∧ H2 p = some (dctO p kvs us) ∧ Reps c.K ω1 (dctD kvs) us ∧ Rep c.K ω1 (.tup (js.map D.int)) (.ref b) ∧ ∀ v', Rep c.K ω1 d v' → Q v' H2)) I1 ⟨ω, env, tk, ok, hk.mon _ _ _ _ (fun dk e1 t1 z v ω1 H2 s1 ok1 r1 => ?_) q⟩) fun iv s2 ⟨y, H2, I2, ry, kvs, us, js, b, d, ey, hd, ω1, env1, tk1, ok1, hH, hr, hb, q1⟩ => ?_
    · revert z
      split
      · rename_i p' kvs he
        rintro ⟨js, d, rfl, hd, z⟩
        obtain ⟨v2, g1, rfl, us, a1, a2, a3, a4, a5⟩ := ok1.slots i _ he
        rw [g0] at g1
        cases g1
        obtain ⟨b, rfl⟩ := rep_key r1
        exact ⟨kvs, us, js, b, d, rfl, hd, ω1, e1, t1, ok1, a1, a5, r1, fun v' hv' => z v' ω1 H2 s1 ok1 hv'⟩
      · exact fun z => z.elim
    subst ey
    cases (show iv = Value.ref b from ry)
    obtain ⟨xs, dp, _, hs2, _, dd⟩ := dct_heap I2 hK ok1.sub hH hr
    refine ⟨dd.typeIs, ?_⟩
    rcases dp.at hr js with ⟨e1, _⟩ | ⟨d', v', b', u', e1, e2, rv, rd⟩
    · rw [hd] at e1; cases e1
    · rw [hd] at e1
      cases e1
      refine wpAny_getItem_heap (tupleKind_room_in1 hu) (DP.key_at I2 hK ok1.sub hb) dd e2 ?_
      exact ⟨v', _, I2.tok _, rv, q1 v' rd⟩
  · exact fun q => q.elim
/-- d[key] = x -/
def wDSet (i : Nat) (w : WD) (wk : WD) : WS := fun P env tk => w env tk fun d e1 t1 => match e1[i]? with
  | some (some (.dct _ _)) => wk e1 t1 fun k e2 t2 => match e2[i]? with
    | some (some (.dct p kvs)) => ∃ js : List Int, k = .tup (js.map D.int) ∧ kvs.length < sizeLine ∧ P.nx (e2.set i (some (.dct p (dPut kvs js d)))) t2
    | _ => False
  | _ => False
theorem ss_dset (i : Nat) {x : Str} {p1 pos pos' : Pos} {k e : Expr} {w wk : WD} (hu : X.A.units + 1 < cLine) (hK : c.K = X.K) (h : PE X (.Name x p1) (tVar i)) (hk : SD X c k wk) (hw : SD X c e w)
    (hs : swapsWith e (some (.Subscript (.Name x p1) k pos')) pos.line X.env = pure false := by rfl) : SS X c (.Assign [.Subscript (.Name x p1) k pos'] e pos) (wDSet i w wk) := by
  refine ⟨fun P P' env tk l q => ?_, ⟨fun pins s σ H De I ⟨ω, env, tk, ok, q⟩ => ?_⟩⟩
  · refine hw.mon _ _ _ _ (fun d e1 t1 z => ?_) q
    revert z
    split
    · exact fun z => hk.mon _ _ _ _ (fun k e2 t2 z => by
        revert z
        split
        · rintro ⟨js, e, hl, z⟩
          exact ⟨js, e, hl, l.nx _ _ z⟩
        · exact fun z => z) z
    · exact fun z => z
  refine wpAny_Assign_Subscript (thn (hw.run.run pins s σ H (fun v H1 => ∃ d ω1 e1 t1 p kvs, Ok c ω1 H1 σ e1 t1 ∧ ω.le ω1 ∧ Rep c.K ω1 d v ∧ e1[i]? = some (some (.dct p kvs)) ∧ σ[i]? = some (some (.ref p)) ∧ wk e1 t1 fun k e2 t2 => match e2[i]? with
    | some (some (.dct p kvs)) => ∃ js : List Int, k = .tup (js.map D.int) ∧ kvs.length < sizeLine ∧ (postOf c ω De).nx (e2.set i (some (.dct p (dPut kvs js d)))) t2
    | _ => False) I ⟨ω, env, tk, ok, hw.mon _ _ _ _ (fun d e1 t1 z v ω1 H1 s1 ok1 r1 => ?_) q⟩) fun r s1 ⟨v, H1, I1, rv, d, ω1, e1, t1, p, kvs0, ok1, le1, rd, he1, g1, q1⟩ => ?_) hs
  · revert z
    split
    · rename_i p kvs he
      intro z
      obtain ⟨v2, g1, rfl, us, a1, _⟩ := ok1.slots i _ he
      exact ⟨d, ω1, e1, t1, p, kvs, ok1, s1.le, r1, he, g1, z⟩
    · exact fun z => z.elim
  refine thn (h.run pins s1 σ H1 (fun v H2 => v = .ref p ∧ H2 = H1) I1 ⟨.ref p, g1, rfl, rfl⟩) fun u s2 ⟨x, H2, I2, rx, ex, eH⟩ => ?_
  subst ex eH
  cases (show u = Value.ref p from rx)
  refine thn (hk.run.run pins s2 σ H2 (fun v H3 => ∃ kvs us js b ω2 e2 t2, v = .ref b ∧ Ok c ω2 H3 σ e2 t2 ∧ ω1.le ω2 ∧ e2[i]? = some (some (.dct p kvs)) ∧ H3 p = some (dctO p kvs us) ∧ ω2.hd p = none ∧ ω2.g ≠ some p ∧ (c.H0 p = none ∧ ¬ c.pr p) ∧ Reps c.K ω2 (dctD kvs) us ∧ Rep c.K ω2 (.tup (js.map D.int)) (.ref b) ∧ kvs.length < sizeLine ∧ (postOf c ω De).nx (e2.set i (some (.dct p (dPut kvs js d)))) t2) I2 ⟨ω1, e1, t1, ok1, hk.mon _ _ _ _ (fun dk e2 t2 z v ω2 H3 s2 ok2 r2 => ?_) q1⟩) fun iv s3 ⟨y, H3, I3, ry, kvs, us, js, b, ω2, e2, t2, ey, ok2, le2, he2, hH, a2, a3, a4, hr, hb, hl, q2⟩ => ?_
  · revert z
    split
    · rename_i p' kvs he
      rintro ⟨js, rfl, hl, z⟩
      obtain ⟨v2, g2, rfl, us, a1, a2, a3, a4, a5⟩ := ok2.slots i _ he
      rw [g1] at g2
      cases g2
      obtain ⟨b, rfl⟩ := rep_key r2
      exact ⟨kvs, us, js, b, ω2, e2, t2, rfl, ok2, s2.le, he, a1, a2, a3, a4, a5, r2, hl, z⟩
    · exact fun z => z.elim
  subst ey
  cases (show iv = Value.ref b from ry)
  obtain ⟨xs, dp, _, hs2, nd, dd⟩ := dct_heap I3 hK ok2.sub hH hr
  obtain ⟨us', xs', dp', hr', st⟩ := dp.put hr js hb (rd.mono le2) rv
  refine wpAny_setItem_heap (hsz := by rw [List.length_map, dp.len]; exact Nat.le_of_lt hl) (tupleKind_room_in1 hu) (DP.key_at I3 hK ok2.sub hb) dd fun h' dd' hsb => ?_
  obtain ⟨o, es, ep, g4, g5, g6, g7, _, _⟩ := dd'
  rw [st, List.map_map] at g7
  have f : dctF p (dPut kvs js d) us' h' := ⟨Nat.le_trans (dPut_len kvs js d) hl, hs2, dPut_nodup nd js d, xs', dp', o, es, ep, g4, g5, g6, by rw [g7]; exact List.map_congr_left fun x _ => dEnt_kx _ _ x⟩
  refine ⟨σ, upd H3 p (dctO p (dPut kvs js d) us'), I3.write (x := p) (e := p) (by rw [hH]; exact True.intro) (.inl rfl) (fun b q hb z => (hsb.2 b hb).trans z) ⟨o, g4⟩ (dct_ok f), ?_⟩
  exact q2 σ ω2 _ (le1.trans le2) (ok2.dput he2 g1 hH a2 a3 a4 hr')
end
end DL
namespace DL
open PySem PySem.Spec PyProof.Rows L2
/-! ### an own list, so many times -/
def wRepK (k : Nat) (w : WE) : WE := fun env tk Q => w env tk fun ev e t => match ev with
  | .own ds => ds.length * k ≤ sizeLine ∧ Q (.own (List.replicate k ds).flatten) e t
  | _ => False
theorem Mon.repK {k : Nat} {w : WE} (m : Mon w) : Mon (wRepK k w) := fun env tk Q Q' h q => m _ _ _ _ (fun ev e t z => by
  cases ev with
  | own ds => exact ⟨z.1, h _ _ _ z.2⟩
  | val d => exact z.elim
  | dct p kvs => exact z.elim) q
theorem reps_rep {K : PySem.W.Frag} {ω : Wd} {ds : List D} {vs : List V} (r : Reps K ω ds vs) : ∀ k : Nat, Reps K ω (List.replicate k ds).flatten (List.replicate k vs).flatten
  | 0 => Reps.nil_iff.mpr rfl
  | k + 1 => by
    rw [List.replicate_succ, List.replicate_succ, List.flatten_cons, List.flatten_cons]
    exact r.append (reps_rep r k)
section
variable {X : Cx} {c : C}
theorem se_repK {k j : Nat} {a : Expr} {wa : WE} {p pos : Pos} (ha : SE X c a wa) (hk : (k : Int) < 2 ^ 63 := by decide) : SE X c (.BinOp a .Mult (.Constant (.int (k : Int)) j p) pos) (wRepK k wa) := by
  refine ⟨.repK ha.mon, (pe_op op_rep ha.run pe_int).wk fun σ H Q h => ?_⟩
  obtain ⟨ω, env, tk, ok, h⟩ := h
  refine ⟨ω, env, tk, ok, ha.mon _ _ _ _ (fun ev e1 t1 h1 v ω1 H1 s1 ok1 r1 => ?_) h⟩
  cases ev with
  | val d => exact h1.elim
  | dct p kvs => exact h1.elim
  | own ds =>
    obtain ⟨p, rfl, ⟨vs, a1, a2, a3, a4, a5⟩, _⟩ := r1
    have l := a5.length
    refine ⟨p, k, vs, rfl, rfl, a1, by omega, hk, ?_, fun p' hp => ?_⟩
    · rw [Int.toNat_natCast, l]; exact h1.1
    · have r2 := reps_rep a5 k
      rw [Int.toNat_natCast]
      exact h1.2 _ _ _ (s1.trans (.newL hp _)) (ok1.newL hp _) (ok1.own hp r2)
end
end DL
set_option maxHeartbeats 1000000
namespace DL
open PySem PySem.Spec PyProof.Rows L2
/-- a comprehension that draws -/
theorem lcDraw {g : WG} {elt : WE} {vs : List Nat} {env : En} {K : List D → Tk → Prop} (mg : ∀ d e Q Q', (∀ x, Q x → Q' x) → g d e Q → g d e Q') : ∀ (ds : List D) (I : Nat → List D → Tk → Prop) (acc : List D) (t : Tk)
    (hs : ∀ i d a t (C : D → Tk → Prop), ds[i]? = some d → I i a t → (∀ v t', I (i + 1) (a ++ [v]) t' → C v t') → g d (wipeE env vs) fun e1 => e1 = e1 ∧ elt e1 t fun ev e3 t3 => e3 = e1 ∧ C ev.d t3)
    (hl : acc.length + ds.length < sizeLine) (k : ∀ a t', I ds.length a t' → K a t') (h0 : I 0 acc t), lcGo g wYes elt vs env ds acc t K
  | [], I, acc, t, _, _, k, h0 => k acc t h0
  | d :: ds, I, acc, t, hs, hl, k, h0 => by
    rw [List.length_cons] at hl
    have h := hs 0 d acc t (fun v t' => acc.length < sizeLine ∧ lcGo g wYes elt vs env ds (acc ++ [v]) t' K) rfl h0 (fun v t' hv => ⟨by omega, lcDraw mg ds (fun i => I (i + 1)) (acc ++ [v]) t' (fun i d a t C hd hi hC => hs (i + 1) d a t C hd hi hC) (by rw [List.length_append]; simp only [List.length_cons, List.length_nil]; omega) k hv⟩)
    refine mg _ _ _ _ (fun e1 z => ⟨rfl, ?_⟩) h
    exact (if_pos rfl).mpr z.2
/-- [f(x) for x in xs if p(x)], the items told by enc -/
theorem lcFil2 {α : Type} {g : WG} {cond : WT} {elt : WE} {vs : List Nat} {env : En} {tk : Tk} {K : List D → Tk → Prop} (enc : α → D) (p : α → Bool) (f : α → D) :
    ∀ (xs : List α) (acc : List D) (hs : ∀ x ∈ xs, ∀ (C : D → Tk → Prop) (B : Tk → Prop), (p x = true → C (f x) tk) → (p x = false → B tk) → g (enc x) (wipeE env vs) fun e1 => cond e1 tk fun b e2 t2 => e2 = e1 ∧ if b = true then elt e1 t2 fun ev e3 t3 => e3 = e1 ∧ C ev.d t3 else B t2),
      acc.length + xs.length < sizeLine → K (acc ++ (xs.filter p).map f) tk → lcGo g cond elt vs env (xs.map enc) acc tk K
  | [], acc, _, _, k => by
    rw [List.filter_nil, List.map_nil, List.append_nil] at k
    exact k
  | x :: xs, acc, hs, hl, k => by
    rw [List.length_cons] at hl
    refine hs x List.mem_cons_self (fun d t => acc.length < sizeLine ∧ lcGo g cond elt vs env (xs.map enc) (acc ++ [d]) t K) (fun t => lcGo g cond elt vs env (xs.map enc) acc t K) (fun h => ⟨by omega, ?_⟩) (fun h => ?_)
    · refine lcFil2 enc p f xs _ (fun y hy => hs y (List.mem_cons_of_mem _ hy)) (by rw [List.length_append]; simp only [List.length_cons, List.length_nil]; omega) ?_
      rw [List.filter_cons_of_pos h, List.map_cons] at k
      rw [List.append_assoc]
      exact k
    · refine lcFil2 enc p f xs _ (fun y hy => hs y (List.mem_cons_of_mem _ hy)) (by omega) ?_
      rw [List.filter_cons_of_neg (by rw [h]; decide)] at k
      exact k
end DL
namespace DL
open PySem PySem.Spec PyProof.Rows L2
@[irreducible] def sp_floor_root : FSpec := fun ds tk Q => ∃ (n : Int), ds = [.int n] ∧ (0 ≤ n) ∧ (n < 2 ^ 13000) ∧ ∀ (r : Int), ∀ (a : 0 ≤ r), ∀ (b : r * r ≤ n), ∀ (d : n < (r + 1) * (r + 1)), Q (.val (.int r)) tk
theorem op_floor_root {ds : List D} {tk : Tk} {Q : EV → Tk → Prop} (h : sp_floor_root ds tk Q) : ∃ (n : Int), ds = [.int n] ∧ (0 ≤ n) ∧ (n < 2 ^ 13000) ∧ ∀ (r : Int), ∀ (a : 0 ≤ r), ∀ (b : r * r ≤ n), ∀ (d : n < (r + 1) * (r + 1)), Q (.val (.int r)) tk := by unfold sp_floor_root at h; exact h
theorem mon_floor_root : MonFS sp_floor_root := fun ds tk Q Q' hq_ hs_ => by
  obtain ⟨n, e_, h0, h1, q_⟩ := op_floor_root hs_
  unfold sp_floor_root
  exact ⟨n, e_, h0, h1, fun r a b d => hq_ _ _ (q_ r a b d)⟩
theorem len_floor_root : ∀ ds tk Q, sp_floor_root ds tk Q → ds.length = 1 := fun ds tk Q hs_ => by
  obtain ⟨n, e_, h0, h1, q_⟩ := op_floor_root hs_
  rw [e_]; rfl
theorem cl_floor_root {tk : Tk} {Q : EV → Tk → Prop} {n : Int} (h0 : 0 ≤ n) (h1 : n < 2 ^ 13000) (q_ : ∀ (r : Int), ∀ (a : 0 ≤ r), ∀ (b : r * r ≤ n), ∀ (d : n < (r + 1) * (r + 1)), Q (.val (.int r)) tk) : sp_floor_root [.int n] tk Q := by
  unfold sp_floor_root
  exact ⟨n, rfl, h0, h1, q_⟩
theorem ce_floor_root {ds_ : List D} {tk : Tk} {Q : EV → Tk → Prop} {n : Int} (h0 : 0 ≤ n) (h1 : n < 2 ^ 13000) (e_ : ds_ = [.int n]) (q_ : ∀ (r : Int), ∀ (a : 0 ≤ r), ∀ (b : r * r ≤ n), ∀ (d : n < (r + 1) * (r + 1)), Q (.val (.int r)) tk) : sp_floor_root ds_ tk Q := by
  subst e_
  unfold sp_floor_root
  exact ⟨n, rfl, h0, h1, q_⟩
abbrev N_floor_root : List Str := ["n"]
def c_floor_root : WS :=
  (wRet (w1 fSqrt (wPk 0)))
theorem isq_spec {n : Int} (h : 0 ≤ n) : (0 : Int) ≤ ((Float64.isqrt n.toNat : Nat) : Int) ∧ ((Float64.isqrt n.toNat : Nat) : Int) * ((Float64.isqrt n.toNat : Nat) : Int) ≤ n ∧ n < (((Float64.isqrt n.toNat : Nat) : Int) + 1) * (((Float64.isqrt n.toNat : Nat) : Int) + 1) := by
  obtain ⟨a, b⟩ := Float64.isqrt_spec n.toNat
  generalize Float64.isqrt n.toNat = r at a b
  have e : ((n.toNat : Nat) : Int) = n := by omega
  refine ⟨Int.natCast_nonneg _, ?_, ?_⟩
  · have := Int.ofNat_le.mpr a
    rw [Int.natCast_mul, e] at this
    exact this
  · have := Int.ofNat_lt.mpr b
    rw [Int.natCast_mul, e] at this
    exact this
theorem log2_lt {n : Int} {k : Nat} (hk : 0 < k) (h0 : 0 ≤ n) (h : n < 2 ^ k) : n.toNat.log2 < k := by
  have h' : n.toNat < 2 ^ k := by
    have : (n.toNat : Int) < ((2 ^ k : Nat) : Int) := by
      rw [Int.natCast_pow, show (n.toNat : Int) = n by omega]
      exact h
    exact Int.ofNat_lt.mp this
  exact PySem.Flt.log2_lt_of hk h'
theorem hw_floor_root : ∀ ds tk Q, sp_floor_root ds tk Q → c_floor_root { nx := fun _ t => Q (.val .non) t, rt := Q } (start N_floor_root.length ds) tk := by
  intro ds tk Q h_
  obtain ⟨n, rfl, h0, h1, q⟩ := op_floor_root h_
  unfold c_floor_root
  walk_at "dl"
  obtain ⟨a, b, d⟩ := isq_spec h0
  exact ⟨h0, Nat.lt_of_lt_of_le (log2_lt (by decide) h0 h1) (by decide), q _ a b d⟩
/-- a root's square is the number exactly if it is a square -/
theorem root_sq {n r : Int} (h0 : 0 ≤ r) (h1 : r * r ≤ n) (h2 : n < (r + 1) * (r + 1)) : (r * r = n) ↔ ∃ s : Int, s * s = n := by
  constructor
  · intro h; exact ⟨r, h⟩
  · rintro ⟨s, rfl⟩
    have key : ∀ s : Int, 0 ≤ s → r * r ≤ s * s → s * s < (r + 1) * (r + 1) → r * r = s * s := by
      intro s hs a b
      have l1 : r ≤ s := by
        rcases Int.lt_or_le s r with z | z
        · exfalso
          have := Int.mul_le_mul (show s ≤ r by omega) (show s + 1 ≤ r by omega) (by omega) h0
          have e2 : s * (s + 1) = s * s + s := by rw [Int.mul_add, Int.mul_one]
          have := Int.mul_le_mul (show s + 1 ≤ r by omega) (show s + 1 ≤ r by omega) (by omega) h0
          have e3 : (s + 1) * (s + 1) = s * s + 2 * s + 1 := by rw [Int.add_mul, Int.mul_add, Int.mul_one, Int.one_mul]; omega
          omega
        · exact z
      have l2 : s < r + 1 := by
        rcases Int.lt_or_le s (r + 1) with z | z
        · exact z
        · have := Int.mul_le_mul z z (by omega) (by omega)
          omega
      have : s = r := by omega
      rw [this]
    rcases Int.lt_or_le s 0 with z | z
    · have e : s * s = (-s) * (-s) := by rw [Int.neg_mul_neg]
      rw [e] at h1 h2 ⊢
      exact key (-s) (by omega) h1 h2
    · exact key s z h1 h2
def IsSq (n : Int) : Prop := ∃ s : Int, s * s = n
def isSqB (n : Int) : Bool := decide (0 ≤ n) && decide (((Float64.isqrt n.toNat : Nat) : Int) * ((Float64.isqrt n.toNat : Nat) : Int) = n)
theorem isSqB_iff {n : Int} : isSqB n = true ↔ IsSq n := by
  unfold isSqB
  rw [Bool.and_eq_true, decide_eq_true_eq, decide_eq_true_eq]
  constructor
  · rintro ⟨_, h⟩; exact ⟨_, h⟩
  · intro h
    have h0 : 0 ≤ n := by
      obtain ⟨s, rfl⟩ := h
      rcases Int.le_total 0 s with z | z
      · exact Int.mul_nonneg z z
      · exact Int.mul_nonneg_of_nonpos_of_nonpos z z
    obtain ⟨a, b, d⟩ := isq_spec h0
    exact ⟨h0, (root_sq a b d).mpr h⟩
@[irreducible] def sp_is_square : FSpec := fun ds tk Q => ∃ (n : Int), ds = [.int n] ∧ (n < 2 ^ 13000) ∧ Q (.val (.bl (isSqB n))) tk
theorem op_is_square {ds : List D} {tk : Tk} {Q : EV → Tk → Prop} (h : sp_is_square ds tk Q) : ∃ (n : Int), ds = [.int n] ∧ (n < 2 ^ 13000) ∧ Q (.val (.bl (isSqB n))) tk := by unfold sp_is_square at h; exact h
theorem mon_is_square : MonFS sp_is_square := fun ds tk Q Q' hq_ hs_ => by
  obtain ⟨n, e_, h1, q_⟩ := op_is_square hs_
  unfold sp_is_square
  exact ⟨n, e_, h1, hq_ _ _ q_⟩
theorem len_is_square : ∀ ds tk Q, sp_is_square ds tk Q → ds.length = 1 := fun ds tk Q hs_ => by
  obtain ⟨n, e_, h1, q_⟩ := op_is_square hs_
  rw [e_]; rfl
theorem cl_is_square {tk : Tk} {Q : EV → Tk → Prop} {n : Int} (h1 : n < 2 ^ 13000) (q_ : Q (.val (.bl (isSqB n))) tk) : sp_is_square [.int n] tk Q := by
  unfold sp_is_square
  exact ⟨n, rfl, h1, q_⟩
theorem ce_is_square {ds_ : List D} {tk : Tk} {Q : EV → Tk → Prop} {n : Int} (h1 : n < 2 ^ 13000) (e_ : ds_ = [.int n]) (q_ : Q (.val (.bl (isSqB n))) tk) : sp_is_square ds_ tk Q := by
  subst e_
  unfold sp_is_square
  exact ⟨n, rfl, h1, q_⟩
abbrev N_is_square : List Str := ["n"]
def c_is_square : WS :=
  (wRet (wB (wAnd (wT (wOp fGe (wPk 0) (fz (wC (.int 0))))) (wT (wOp fEq (fz (wOp fMul (fz (w1 fSqrt (wPk 0))) (fz (w1 fSqrt (wPk 0))))) (wPk 0))))))
theorem isSqB_true {n : Int} (h : IsSq n) : isSqB n = true := isSqB_iff.mpr h
theorem isSqB_false {n : Int} (h : ¬ IsSq n) : isSqB n = false := Bool.eq_false_iff.mpr fun e => h (isSqB_iff.mp e)
theorem isSqB_neg {n : Int} (h : n < 0) : isSqB n = false := isSqB_false fun ⟨s, e⟩ => by
  have : 0 ≤ s * s := by
    rcases Int.le_total 0 s with z | z
    · exact Int.mul_nonneg z z
    · exact Int.mul_nonneg_of_nonpos_of_nonpos z z
  omega
theorem hw_is_square : ∀ ds tk Q, sp_is_square ds tk Q → c_is_square { nx := fun _ t => Q (.val .non) t, rt := Q } (start N_is_square.length ds) tk := by
  intro ds tk Q h_
  obtain ⟨n, rfl, h1, q⟩ := op_is_square h_
  unfold c_is_square
  walk_at "dl"
  simp only [fSqrt]
  walk_at "dl"
  have sq : isSqB n = if 0 ≤ n then decide (((Float64.isqrt n.toNat : Nat) : Int) * ((Float64.isqrt n.toNat : Nat) : Int) = n) else false := by
    unfold isSqB
    split
    · rename_i h; rw [decide_eq_true h, Bool.true_and]
    · rename_i h; rw [decide_eq_false h, Bool.false_and]
  rw [sq] at q
  split
  · rename_i h0
    rw [if_pos h0] at q
    have hl : n.toNat.log2 < 13400 := Nat.lt_of_lt_of_le (log2_lt (by decide) h0 h1) (by decide)
    obtain ⟨a, b, d⟩ := isq_spec h0
    refine ⟨h0, hl, h0, hl, .inl ?_, q⟩
    have e : ((Float64.isqrt n.toNat : Nat) : Int).natAbs = Float64.isqrt n.toNat := rfl
    have hb : Float64.isqrt n.toNat ≤ n.toNat := by
      obtain ⟨a, _⟩ := Float64.isqrt_spec n.toNat
      refine Nat.le_trans ?_ a
      rcases Nat.eq_zero_or_pos (Float64.isqrt n.toNat) with z | z
      · rw [z]; exact Nat.le_refl 0
      · exact Nat.le_mul_of_pos_left _ z
    have hlog : (Float64.isqrt n.toNat).log2 ≤ n.toNat.log2 := by
      rcases Nat.eq_zero_or_pos (Float64.isqrt n.toNat) with z | z
      · rw [z, Nat.log2_zero]; exact Nat.zero_le _
      · exact (Nat.le_log2 (by omega)).mpr (Nat.le_trans (Nat.log2_self_le (by omega)) hb)
    unfold CMulW
    rw [e]
    omega
  · rename_i h0
    rw [if_neg h0] at q
    exact q
end DL
namespace DL
open PySem PySem.Spec PyProof.Rows L2
/-! ### rows for the walks of the laws -/
theorem eqv_bl {i j : Bool} : D.eqv (.bl i) (.bl j) = (i == j) := rfl
theorem ok_bl {i : Bool} : D.ok (.bl i) = true := by unfold D.ok okN; rfl
theorem fEq_bl {i j : Bool} {q : EV → Prop} (h : q (.val (.bl (i == j)))) : fEq (.bl i) (.bl j) q := ⟨ok_bl, ok_bl, h⟩
theorem mulOk_big {i j : Int} {a b : Nat} (ha : i.natAbs < 2 ^ a) (hb : j.natAbs < 2 ^ b) (h0 : 0 < a) (h1 : 0 < b) (h : a + b ≤ 1000000) : MulOk i j := .inl (wide_mul ha hb h0 h1 h)
theorem fIdx_of {ds : List D} {i : Int} {q : EV → Prop} (P : D → Prop) (h0 : 0 ≤ i) (h1 : i < (ds.length : Int)) (hp : ∀ d ∈ ds, P d) (k : ∀ d, P d → q (.val d)) : fIdx (.lst ds) (.int i) q := by
  obtain ⟨d, e, e2⟩ := atI_some h0 h1
  show (match atI ds i with | some d => q (.val d) | none => False)
  rw [e]
  exact k d (hp d (List.mem_of_getElem? e2))
theorem all1 {P : D → Prop} {a : D} (h1 : P a) : ∀ d ∈ [a], P d := fun d h => by rw [List.mem_singleton] at h; subst h; exact h1
theorem allc {P : D → Prop} {a : D} {l : List D} (h1 : P a) (h2 : ∀ d ∈ l, P d) : ∀ d ∈ a :: l, P d := fun d h => by
  rcases List.mem_cons.mp h with rfl | h
  · exact h1
  · exact h2 d h
theorem all2 {P : D → Prop} {a b : D} (h1 : P a) (h2 : P b) : ∀ d ∈ [a, b], P d := allc h1 (all1 h2)
theorem all3 {P : D → Prop} {a b e : D} (h1 : P a) (h2 : P b) (h3 : P e) : ∀ d ∈ [a, b, e], P d := allc h1 (all2 h2 h3)
/-- what holds between two statements -/
theorem seq_cut {a b : WS} {P : Post} {env : En} {tk : Tk} (I : En → Tk → Prop) (h1 : ∀ R : En → Tk → Prop, (∀ e t, I e t → R e t) → a { P with nx := R } env tk) (h2 : ∀ e t, I e t → b P e t) : wSeq a b P env tk := h1 _ h2
theorem ifT {c A B : Prop} [Decidable c] (h : c) (k : A) : if decide c = true then A else B := by rw [if_pos (decide_eq_true h)]; exact k
theorem ifF {c A B : Prop} [Decidable c] (h : ¬ c) (k : B) : if decide c = true then A else B := by rw [if_neg (by rw [decide_eq_true_eq]; exact h)]; exact k
theorem if2 {c A B : Prop} [Decidable c] (h : c → A) (k : ¬ c → B) : if decide c = true then A else B := by
  by_cases z : c
  · exact ifT z (h z)
  · exact ifF z (k z)
theorem ifB {b : Bool} {A B : Prop} (h : b = true) (k : A) : if b = true then A else B := by rw [if_pos h]; exact k
theorem ifBF {b : Bool} {A B : Prop} (h : b = false) (k : B) : if b = true then A else B := by rw [h]; exact k
theorem ifN {c A B : Prop} [Decidable c] (h : c) (k : B) : if (!decide c) = true then A else B := by rw [decide_eq_true h]; exact k
theorem ifNT {c A B : Prop} [Decidable c] (h : ¬ c) (k : A) : if (!decide c) = true then A else B := by rw [decide_eq_false h]; exact k
theorem ifN2 {c A B : Prop} [Decidable c] (h : ¬ c → A) (k : c → B) : if (!decide c) = true then A else B := by
  by_cases z : c
  · exact ifN z (k z)
  · exact ifNT z (h z)
/-- a test of != on equal data -/
theorem ifNB {b : Bool} {A B : Prop} (h : b = true) (k : B) : if (!b) = true then A else B := by rw [h]; exact k
theorem natAbs_lt {n : Int} {k : Nat} (h0 : 0 ≤ n) (h : n < 2 ^ k) : n.natAbs < 2 ^ k := by
  have : (n.natAbs : Int) < ((2 ^ k : Nat) : Int) := by
    rw [Int.natCast_pow, show (n.natAbs : Int) = n by omega]
    exact h
  exact Int.ofNat_lt.mp this
theorem int_lt_pow {n m : Nat} (h : n < m) {k : Nat} (hm : m ≤ 2 ^ k) : (n : Int) < 2 ^ k := by
  have : (n : Int) < ((2 ^ k : Nat) : Int) := Int.ofNat_lt.mpr (Nat.lt_of_lt_of_le h hm)
  rw [Int.natCast_pow] at this
  exact this
theorem pow_mono {m j k : Nat} (hm : 0 < m) (h : j ≤ k) : m ^ j ≤ m ^ k := Nat.pow_le_pow_right hm h
theorem ok_tup {xs : List D} (h : okNs 59 xs = true) : D.ok (.tup xs) = true := by unfold D.ok okN; exact h
theorem okNs_int {n : Nat} {i : Int} {l : List D} (h : okNs n l = true) : okNs n (.int i :: l) = true := by unfold okNs okN; exact h
theorem okNs_nil {n : Nat} : okNs n [] = true := by unfold okNs; rfl
theorem ok_t4 {a b c d : Int} : D.ok (.tup [.int a, .int b, .int c, .int d]) = true := ok_tup (okNs_int (okNs_int (okNs_int (okNs_int okNs_nil))))
theorem ok_t3 {a b c : Int} : D.ok (.tup [.int a, .int b, .int c]) = true := ok_tup (okNs_int (okNs_int (okNs_int okNs_nil)))
theorem ok_t2 {a b : Int} : D.ok (.tup [.int a, .int b]) = true := ok_tup (okNs_int (okNs_int okNs_nil))
theorem eqv_self {d : D} (h : d.ok = true) : d.eqv d = true := PySem.SeqAt.eqv_refl _ (okN_lay d 60 h).1
theorem eqv_eq {x y : D} (e : x = y) (h : x.ok = true) : x.eqv y = true := by subst e; exact eqv_self h
/-- equal: == tells True -/
theorem fEq_t {x y : D} {q : EV → Prop} (e : x = y) (h : x.ok = true) (k : q (.val (.bl true))) : fEq x y q := by
  subst e
  cases x <;> first | exact ⟨h, h, by rw [eqv_self h]; exact k⟩ | skip
  next i =>
    have z : decide (i = i) = true := decide_eq_true rfl
    show q (.val (.bl (decide (i = i))))
    rw [z]; exact k
/-- equal: != tells False -/
theorem fNe_f {x y : D} {q : EV → Prop} (e : x = y) (h : x.ok = true) (k : q (.val (.bl false))) : fNe x y q := by
  subst e
  cases x <;> first | exact ⟨h, h, by rw [eqv_self h]; exact k⟩ | skip
  next i =>
    have z : decide (i = i) = true := decide_eq_true rfl
    show q (.val (.bl (!decide (i = i))))
    rw [z]; exact k
theorem kon_t4 {K : PySem.W.Frag} {mg : Str → Option Value} {x : Str} {u : Addr} {a b c d : Int} {t1 t2 t3 t4 : Tok} {n : Nat} {sl : Array (Option Value)} (hm : mg x = some (.ref u)) (l : K.lookup u = some ⟨.type "tuple", none, .seq #[.int a t1, .int b t2, .int c t3, .int d t4] n, sl⟩) : Kon K mg x (.tup [.int a, .int b, .int c, .int d]) :=
  ⟨.ref u, .ref u, hm, rfl, fun ω => Rep.tup_iff.mpr ⟨u, [.int a, .int b, .int c, .int d], rfl, ⟨.inr ⟨_, _, n, l, rfl, rfl, (show 4 ≤ sizeLine by decide), .cons ⟨t1, rfl⟩ (.cons ⟨t2, rfl⟩ (.cons ⟨t3, rfl⟩ (.cons ⟨t4, rfl⟩ .nil)))⟩, .inr ⟨_, l, rfl⟩⟩, .cons (Rep.int_iff.mpr rfl) (.cons (Rep.int_iff.mpr rfl) (.cons (Rep.int_iff.mpr rfl) (.cons (Rep.int_iff.mpr rfl) .nil)))⟩⟩
/-! ### sizes -/
/-- a size that every product of a few such numbers still has room for -/
def Sm (k : Nat) (x : Int) : Prop := x.natAbs < 2 ^ k
theorem Sm.mulOk {x y : Int} {k j : Nat} (h : Sm k x) (h' : Sm j y) (hk : k ≤ 480000) (hj : j ≤ 480000) : MulOk x y := by
  refine .inl (wide_mul (a := k + 1) (b := j + 1) (Nat.lt_of_lt_of_le h (Nat.pow_le_pow_right (by decide) (by omega))) (Nat.lt_of_lt_of_le h' (Nat.pow_le_pow_right (by decide) (by omega))) (by omega) (by omega) (by omega))
theorem Sm.mono {x : Int} {k j : Nat} (h : Sm k x) (hk : k ≤ j) : Sm j x := Nat.lt_of_lt_of_le h (Nat.pow_le_pow_right (by decide) hk)
theorem Sm.mul {x y : Int} {k j : Nat} (h : Sm k x) (h' : Sm j y) : Sm (k + j) (x * y) := by
  unfold Sm at *
  rw [Int.natAbs_mul, Nat.pow_add]
  exact Nat.mul_lt_mul'' h h'
theorem Sm.add {x y : Int} {k : Nat} (h : Sm k x) (h' : Sm k y) : Sm (k + 1) (x + y) := by
  unfold Sm at *
  rw [Nat.pow_succ]
  omega
theorem Sm.sub {x y : Int} {k : Nat} (h : Sm k x) (h' : Sm k y) : Sm (k + 1) (x - y) := by
  unfold Sm at *
  rw [Nat.pow_succ]
  omega
theorem Sm.neg {x : Int} {k : Nat} (h : Sm k x) : Sm k (-x) := by unfold Sm at *; rw [Int.natAbs_neg]; exact h
theorem sm_of {x : Int} {k : Nat} (h0 : -(2 ^ k : Nat) < x) (h1 : x < (2 ^ k : Nat)) : Sm k x := by unfold Sm; omega
abbrev BG : Nat := 450000
/-- a small number -/
theorem sm_lit {x : Int} (h : x.natAbs < 2 ^ 64) : Sm BG x := Nat.lt_of_lt_of_le h (Nat.pow_le_pow_right (by decide) (by decide))
/-! ### a, b = x, y -/
section
variable {X : Cx} {c : C}
theorem ss_par {i j : Nat} {x y : Str} {a b : Expr} {r : WA} {px py pt pos : Pos} {kt k2 : Nat} {pt2 : Pos} (hc : X.calm = true) (hN : X.N.Nodup) (hi : X.N[i]? = some x) (hj : X.N[j]? = some y) (hij : i ≠ j)
    (hx : X.env.scope.names.lookup x = some .local) (hy : X.env.scope.names.lookup y = some .local) (ha : SA X c [a, b] r)
    (hw : swappedStores [.Tuple [.Name x px, .Name y py] kt pt] (.Tuple [a, b] k2 pt2) X.env = pure (some [x, y]) := by rfl)
    (hs : swapsWithSole [.Tuple [.Name x px, .Name y py] kt pt] (.Tuple [a, b] k2 pt2) pos.line X.env = pure false := by rfl) :
    SS X c (.Assign [.Tuple [.Name x px, .Name y py] kt pt] (.Tuple [a, b] k2 pt2) pos) (wPar i j r) :=
  ⟨.par ha.mon, (ps_par hc hN hi hj hij hx hy ha.run hw hs).wk fun _ _ _ q => run_par ha.mon q⟩
theorem ss_par3 {i j l : Nat} {x y z : Str} {a b d : Expr} {r : WA} {px py pz pt pos : Pos} {kt k2 : Nat} {pt2 : Pos} (hc : X.calm = true) (hN : X.N.Nodup) (hi : X.N[i]? = some x) (hj : X.N[j]? = some y) (hl : X.N[l]? = some z) (hij : i ≠ j) (hil : i ≠ l) (hjl : j ≠ l)
    (hx : X.env.scope.names.lookup x = some .local) (hy : X.env.scope.names.lookup y = some .local) (hz : X.env.scope.names.lookup z = some .local) (ha : SA X c [a, b, d] r)
    (hw : swappedStores [.Tuple [.Name x px, .Name y py, .Name z pz] kt pt] (.Tuple [a, b, d] k2 pt2) X.env = pure (some [x, y, z]) := by rfl)
    (hs : swapsWithSole [.Tuple [.Name x px, .Name y py, .Name z pz] kt pt] (.Tuple [a, b, d] k2 pt2) pos.line X.env = pure false := by rfl) :
    SS X c (.Assign [.Tuple [.Name x px, .Name y py, .Name z pz] kt pt] (.Tuple [a, b, d] k2 pt2) pos) (wPar3 i j l r) :=
  ⟨.par3 ha.mon, (ps_par3 hc hN hi hj hl hij hil hjl hx hy hz ha.run hw hs).wk fun _ _ _ q => run_par3 ha.mon q⟩
end
/-! ### a, b = [..] -/
def gL (n : Nat) (g : WGs) : WG := fun d env Q => match d with
  | .lst ds => ds.length = n ∧ g ds env Q
  | _ => False
section
variable {X : Cx} {c : C} {pos : Pos}
theorem sg_lst {es : List Expr} {k n : Nat} {t : TGs} {g : WGs} {vs : List Nat} (hK : c.K = X.K) (hc : X.calm = true) (hg : SGs X c es t g vs) (hn : (assignEach es X.env).length = n := by rfl) (hst : (assignEach es X.env).findIdx? (·.1) = none := by rfl) : SG X c (.Tuple es k pos) (gLst X.K n t) (gL n g) vs where
  mon := fun d env Q Q' k q => by cases d <;> first | exact (show False from q).elim | exact ⟨q.1, hg.mon _ _ _ _ k q.2⟩
  loc := fun d env Q q => by cases d <;> first | exact (show False from q).elim | exact ⟨q.1, hg.loc _ _ _ q.2⟩
  pg := pg_lst hc hg.pg hn hst
  run := fun σ H v Q ω env tk d ok r q => by
    cases d <;> first | exact (show False from q).elim | skip
    obtain ⟨a, vs, rfl, h1, h2⟩ := Rep.lst_iff.mp r
    rw [hK] at h1
    exact ⟨a, vs, rfl, sqL_mono ok.sub h1, by rw [h2.length]; exact q.1, hg.run σ H vs Q ω env tk _ ok h2 q.2⟩
end
end DL
namespace DL
open PySem PySem.Spec PyProof.Rows L2
/-! ### matrices, points, forms -/
structure M4 where
  p : Int
  q : Int
  r : Int
  s : Int
  deriving DecidableEq
def M4.D (m : M4) : D := .tup [.int m.p, .int m.q, .int m.r, .int m.s]
structure P2 where
  x : Int
  y : Int
  deriving DecidableEq
def P2.D (m : P2) : D := .tup [.int m.x, .int m.y]
structure F3 where
  a : Int
  b : Int
  c : Int
  deriving DecidableEq
def F3.D (m : F3) : D := .tup [.int m.a, .int m.b, .int m.c]
def M4.Sm (k : Nat) (m : M4) : Prop := DL.Sm k m.p ∧ DL.Sm k m.q ∧ DL.Sm k m.r ∧ DL.Sm k m.s
def M4.mul (m n : M4) : M4 := ⟨m.p * n.p + m.q * n.r, m.p * n.q + m.q * n.s, m.r * n.p + m.s * n.r, m.r * n.q + m.s * n.s⟩
def M4.one : M4 := ⟨1, 0, 0, 1⟩
def M4.det (m : M4) : Int := m.p * m.s - m.q * m.r
def M4.at (m : M4) (v : P2) : P2 := ⟨m.p * v.x + m.q * v.y, m.r * v.x + m.s * v.y⟩
def M4.neg (m : M4) : M4 := ⟨-m.p, -m.q, -m.r, -m.s⟩
def M4.inv (m : M4) : M4 := ⟨m.det * m.s, -m.det * m.q, -m.det * m.r, m.det * m.p⟩
def P2.Sm (k : Nat) (m : P2) : Prop := DL.Sm k m.x ∧ DL.Sm k m.y
def F3.Sm (k : Nat) (m : F3) : Prop := DL.Sm k m.a ∧ DL.Sm k m.b ∧ DL.Sm k m.c

def sp_multiply : FSpec := fun ds tk Q => ∃ m n : M4, ds = [m.D, n.D] ∧ m.Sm BG ∧ n.Sm BG ∧ Q (.val (m.mul n).D) tk
theorem mon_multiply : MonFS sp_multiply := fun ds tk Q Q' h ⟨m, n, e, h0, h1, q⟩ => ⟨m, n, e, h0, h1, h _ _ q⟩
theorem len_multiply : ∀ ds tk Q, sp_multiply ds tk Q → ds.length = 2 := fun ds tk Q ⟨m, n, e, _⟩ => by rw [e]; rfl
abbrev N_multiply : List Str := ["m", "n"]
def c_multiply : WS :=
  (wRet (wTup (wCons (fz (wOp fAdd (fz (wOp fMul (fz (wOp fIdx (wPk 0) (fz (wC (.int 0))))) (fz (wOp fIdx (wPk 1) (fz (wC (.int 0))))))) (fz (wOp fMul (fz (wOp fIdx (wPk 0) (fz (wC (.int 1))))) (fz (wOp fIdx (wPk 1) (fz (wC (.int 2))))))))) (wCons (fz (wOp fAdd (fz (wOp fMul (fz (wOp fIdx (wPk 0) (fz (wC (.int 0))))) (fz (wOp fIdx (wPk 1) (fz (wC (.int 1))))))) (fz (wOp fMul (fz (wOp fIdx (wPk 0) (fz (wC (.int 1))))) (fz (wOp fIdx (wPk 1) (fz (wC (.int 3))))))))) (wCons (fz (wOp fAdd (fz (wOp fMul (fz (wOp fIdx (wPk 0) (fz (wC (.int 2))))) (fz (wOp fIdx (wPk 1) (fz (wC (.int 0))))))) (fz (wOp fMul (fz (wOp fIdx (wPk 0) (fz (wC (.int 3))))) (fz (wOp fIdx (wPk 1) (fz (wC (.int 2))))))))) (wCons (fz (wOp fAdd (fz (wOp fMul (fz (wOp fIdx (wPk 0) (fz (wC (.int 2))))) (fz (wOp fIdx (wPk 1) (fz (wC (.int 1))))))) (fz (wOp fMul (fz (wOp fIdx (wPk 0) (fz (wC (.int 3))))) (fz (wOp fIdx (wPk 1) (fz (wC (.int 3))))))))) wNil))))))
theorem hw_multiply : ∀ ds tk Q, sp_multiply ds tk Q → c_multiply { nx := fun _ t => Q (.val .non) t, rt := Q } (start N_multiply.length ds) tk := by
  rintro ds tk Q ⟨m, n, rfl, ⟨a1, a2, a3, a4⟩, ⟨b1, b2, b3, b4⟩, q⟩
  have k : ∀ {x y : Int}, Sm BG x → Sm BG y → MulOk x y := fun h h' => h.mulOk h' (by decide) (by decide)
  exact ⟨k a1 b1, k a2 b3, k a1 b2, k a2 b4, k a3 b1, k a4 b3, k a3 b2, k a4 b4, rfl, q⟩
def sp_determinant : FSpec := fun ds tk Q => ∃ m : M4, ds = [m.D] ∧ m.Sm BG ∧ Q (.val (.int m.det)) tk
theorem mon_determinant : MonFS sp_determinant := fun ds tk Q Q' h ⟨m, e, h0, q⟩ => ⟨m, e, h0, h _ _ q⟩
theorem len_determinant : ∀ ds tk Q, sp_determinant ds tk Q → ds.length = 1 := fun ds tk Q ⟨m, e, _⟩ => by rw [e]; rfl
abbrev N_determinant : List Str := ["m"]
def c_determinant : WS :=
  (wRet (wOp fSub (fz (wOp fMul (fz (wOp fIdx (wPk 0) (fz (wC (.int 0))))) (fz (wOp fIdx (wPk 0) (fz (wC (.int 3))))))) (fz (wOp fMul (fz (wOp fIdx (wPk 0) (fz (wC (.int 1))))) (fz (wOp fIdx (wPk 0) (fz (wC (.int 2)))))))))
theorem hw_determinant : ∀ ds tk Q, sp_determinant ds tk Q → c_determinant { nx := fun _ t => Q (.val .non) t, rt := Q } (start N_determinant.length ds) tk := by
  rintro ds tk Q ⟨m, rfl, ⟨a1, a2, a3, a4⟩, q⟩
  have k : ∀ {x y : Int}, Sm BG x → Sm BG y → MulOk x y := fun h h' => h.mulOk h' (by decide) (by decide)
  exact ⟨k a1 a4, k a2 a3, q⟩
def sp_inverse : FSpec := fun ds tk Q => ∃ m : M4, ds = [m.D] ∧ m.Sm BG ∧ Sm BG m.det ∧ Q (.val m.inv.D) tk
theorem mon_inverse : MonFS sp_inverse := fun ds tk Q Q' h ⟨m, e, h0, h1, q⟩ => ⟨m, e, h0, h1, h _ _ q⟩
theorem len_inverse : ∀ ds tk Q, sp_inverse ds tk Q → ds.length = 1 := fun ds tk Q ⟨m, e, _⟩ => by rw [e]; rfl
abbrev N_inverse : List Str := ["m", "sign"]
def c_inverse : WS :=
  (wSeq (wSet 1 (wCall sp_determinant (wCons (fz (wV 0)) wNil)))
  (wRet (wTup (wCons (fz (wOp fMul (wPk 1) (fz (wOp fIdx (wPk 0) (fz (wC (.int 3))))))) (wCons (fz (wOp fMul (fz (w1 fNeg (wPk 1))) (fz (wOp fIdx (wPk 0) (fz (wC (.int 1))))))) (wCons (fz (wOp fMul (fz (w1 fNeg (wPk 1))) (fz (wOp fIdx (wPk 0) (fz (wC (.int 2))))))) (wCons (fz (wOp fMul (wPk 1) (fz (wOp fIdx (wPk 0) (fz (wC (.int 0))))))) wNil)))))))
theorem hw_inverse : ∀ ds tk Q, sp_inverse ds tk Q → c_inverse { nx := fun _ t => Q (.val .non) t, rt := Q } (start N_inverse.length ds) tk := by
  rintro ds tk Q ⟨m, rfl, ⟨a1, a2, a3, a4⟩, hd, q⟩
  have k : ∀ {x y : Int}, Sm BG x → Sm BG y → MulOk x y := fun h h' => h.mulOk h' (by decide) (by decide)
  exact ⟨m, rfl, ⟨a1, a2, a3, a4⟩, k hd a4, k hd.neg a2, k hd.neg a3, k hd a1, rfl, q⟩
def sp_apply : FSpec := fun ds tk Q => ∃ (m : M4) (v : P2), ds = [m.D, v.D] ∧ m.Sm BG ∧ v.Sm BG ∧ Q (.val (m.at v).D) tk
theorem mon_apply : MonFS sp_apply := fun ds tk Q Q' h ⟨m, n, e, h0, h1, q⟩ => ⟨m, n, e, h0, h1, h _ _ q⟩
theorem len_apply : ∀ ds tk Q, sp_apply ds tk Q → ds.length = 2 := fun ds tk Q ⟨m, n, e, _⟩ => by rw [e]; rfl
abbrev N_apply : List Str := ["m", "point"]
def c_apply : WS :=
  (wRet (wTup (wCons (fz (wOp fAdd (fz (wOp fMul (fz (wOp fIdx (wPk 0) (fz (wC (.int 0))))) (fz (wOp fIdx (wPk 1) (fz (wC (.int 0))))))) (fz (wOp fMul (fz (wOp fIdx (wPk 0) (fz (wC (.int 1))))) (fz (wOp fIdx (wPk 1) (fz (wC (.int 1))))))))) (wCons (fz (wOp fAdd (fz (wOp fMul (fz (wOp fIdx (wPk 0) (fz (wC (.int 2))))) (fz (wOp fIdx (wPk 1) (fz (wC (.int 0))))))) (fz (wOp fMul (fz (wOp fIdx (wPk 0) (fz (wC (.int 3))))) (fz (wOp fIdx (wPk 1) (fz (wC (.int 1))))))))) wNil))))
theorem hw_apply : ∀ ds tk Q, sp_apply ds tk Q → c_apply { nx := fun _ t => Q (.val .non) t, rt := Q } (start N_apply.length ds) tk := by
  rintro ds tk Q ⟨m, v, rfl, ⟨a1, a2, a3, a4⟩, ⟨b1, b2⟩, q⟩
  have k : ∀ {x y : Int}, Sm BG x → Sm BG y → MulOk x y := fun h h' => h.mulOk h' (by decide) (by decide)
  exact ⟨k a1 b1, k a2 b2, k a3 b1, k a4 b2, rfl, q⟩
def sp_negative : FSpec := fun ds tk Q => ∃ m : M4, ds = [m.D] ∧ Q (.val m.neg.D) tk
theorem mon_negative : MonFS sp_negative := fun ds tk Q Q' h ⟨m, e, q⟩ => ⟨m, e, h _ _ q⟩
theorem len_negative : ∀ ds tk Q, sp_negative ds tk Q → ds.length = 1 := fun ds tk Q ⟨m, e, _⟩ => by rw [e]; rfl
abbrev N_negative : List Str := ["m"]
def c_negative : WS :=
  (wRet (wTup (wCons (fz (w1 fNeg (fz (wOp fIdx (wPk 0) (fz (wC (.int 0))))))) (wCons (fz (w1 fNeg (fz (wOp fIdx (wPk 0) (fz (wC (.int 1))))))) (wCons (fz (w1 fNeg (fz (wOp fIdx (wPk 0) (fz (wC (.int 2))))))) (wCons (fz (w1 fNeg (fz (wOp fIdx (wPk 0) (fz (wC (.int 3))))))) wNil))))))
theorem hw_negative : ∀ ds tk Q, sp_negative ds tk Q → c_negative { nx := fun _ t => Q (.val .non) t, rt := Q } (start N_negative.length ds) tk := by
  rintro ds tk Q ⟨m, rfl, q⟩
  exact ⟨rfl, q⟩
/-! ### the law's own ones -/
def sp_Lmul : FSpec := fun ds tk Q => ∃ m n : M4, ds = [m.D, n.D] ∧ m.Sm BG ∧ n.Sm BG ∧ Q (.val (m.mul n).D) tk
theorem mon_Lmul : MonFS sp_Lmul := mon_multiply
theorem len_Lmul : ∀ ds tk Q, sp_Lmul ds tk Q → ds.length = 2 := len_multiply
abbrev N_Lmul : List Str := ["_law_m", "_law_n", "_law_top"]
def c_Lmul : WS :=
  (wSeq (wSet 2 (wLst (wCons (fz (wOp fAdd (fz (wOp fMul (fz (wOp fIdx (wPk 0) (fz (wC (.int 0))))) (fz (wOp fIdx (wPk 1) (fz (wC (.int 0))))))) (fz (wOp fMul (fz (wOp fIdx (wPk 0) (fz (wC (.int 1))))) (fz (wOp fIdx (wPk 1) (fz (wC (.int 2))))))))) (wCons (fz (wOp fAdd (fz (wOp fMul (fz (wOp fIdx (wPk 0) (fz (wC (.int 0))))) (fz (wOp fIdx (wPk 1) (fz (wC (.int 1))))))) (fz (wOp fMul (fz (wOp fIdx (wPk 0) (fz (wC (.int 1))))) (fz (wOp fIdx (wPk 1) (fz (wC (.int 3))))))))) wNil))))
  (wRet (w1 fTuple (fz (wOp fAdd (wPk 2) (fz (wLst (wCons (fz (wOp fAdd (fz (wOp fMul (fz (wOp fIdx (wPk 0) (fz (wC (.int 2))))) (fz (wOp fIdx (wPk 1) (fz (wC (.int 0))))))) (fz (wOp fMul (fz (wOp fIdx (wPk 0) (fz (wC (.int 3))))) (fz (wOp fIdx (wPk 1) (fz (wC (.int 2))))))))) (wCons (fz (wOp fAdd (fz (wOp fMul (fz (wOp fIdx (wPk 0) (fz (wC (.int 2))))) (fz (wOp fIdx (wPk 1) (fz (wC (.int 1))))))) (fz (wOp fMul (fz (wOp fIdx (wPk 0) (fz (wC (.int 3))))) (fz (wOp fIdx (wPk 1) (fz (wC (.int 3))))))))) wNil)))))))))
theorem hw_Lmul : ∀ ds tk Q, sp_Lmul ds tk Q → c_Lmul { nx := fun _ t => Q (.val .non) t, rt := Q } (start N_Lmul.length ds) tk := by
  rintro ds tk Q ⟨m, n, rfl, ⟨a1, a2, a3, a4⟩, ⟨b1, b2, b3, b4⟩, q⟩
  have k : ∀ {x y : Int}, Sm BG x → Sm BG y → MulOk x y := fun h h' => h.mulOk h' (by decide) (by decide)
  exact ⟨k a1 b1, k a2 b3, k a1 b2, k a2 b4, rfl, k a3 b1, k a4 b3, k a3 b2, k a4 b4, rfl, (show 2 + 2 ≤ sizeLine by decide), q⟩
def sp_Lat : FSpec := fun ds tk Q => ∃ (m : M4) (v : P2), ds = [m.D, .int v.x, .int v.y] ∧ m.Sm BG ∧ v.Sm BG ∧ Q (.val (m.at v).D) tk
theorem mon_Lat : MonFS sp_Lat := fun ds tk Q Q' h ⟨m, n, e, h0, h1, q⟩ => ⟨m, n, e, h0, h1, h _ _ q⟩
theorem len_Lat : ∀ ds tk Q, sp_Lat ds tk Q → ds.length = 3 := fun ds tk Q ⟨m, n, e, _⟩ => by rw [e]; rfl
abbrev N_Lat : List Str := ["_law_m", "_law_x", "_law_y"]
def c_Lat : WS :=
  (wRet (wTup (wCons (fz (wOp fAdd (fz (wOp fMul (fz (wOp fIdx (wPk 0) (fz (wC (.int 0))))) (wPk 1))) (fz (wOp fMul (fz (wOp fIdx (wPk 0) (fz (wC (.int 1))))) (wPk 2))))) (wCons (fz (wOp fAdd (fz (wOp fMul (fz (wOp fIdx (wPk 0) (fz (wC (.int 2))))) (wPk 1))) (fz (wOp fMul (fz (wOp fIdx (wPk 0) (fz (wC (.int 3))))) (wPk 2))))) wNil))))
theorem hw_Lat : ∀ ds tk Q, sp_Lat ds tk Q → c_Lat { nx := fun _ t => Q (.val .non) t, rt := Q } (start N_Lat.length ds) tk := by
  rintro ds tk Q ⟨m, v, rfl, ⟨a1, a2, a3, a4⟩, ⟨b1, b2⟩, q⟩
  have k : ∀ {x y : Int}, Sm BG x → Sm BG y → MulOk x y := fun h h' => h.mulOk h' (by decide) (by decide)
  exact ⟨k a1 b1, k a2 b2, k a3 b1, k a4 b2, rfl, q⟩
/-! ### norms -/
def M4.nrm (m : M4) : Nat := m.p.natAbs + m.q.natAbs + m.r.natAbs + m.s.natAbs
theorem nab (a b c d : Int) : (a * b + c * d).natAbs ≤ a.natAbs * b.natAbs + c.natAbs * d.natAbs := by
  rw [← Int.natAbs_mul, ← Int.natAbs_mul]
  exact Int.natAbs_add_le _ _
theorem M4.nrm_mul (m n : M4) : (m.mul n).nrm ≤ m.nrm * n.nrm := by
  unfold M4.nrm M4.mul
  have h1 := nab m.p n.p m.q n.r
  have h2 := nab m.p n.q m.q n.s
  have h3 := nab m.r n.p m.s n.r
  have h4 := nab m.r n.q m.s n.s
  simp only [Nat.add_mul, Nat.mul_add]
  omega
theorem M4.sm_of_nrm {m : M4} {k : Nat} (h : m.nrm < 2 ^ k) : m.Sm k := by
  unfold M4.nrm at h
  unfold M4.Sm DL.Sm
  omega
theorem M4.nrm_neg (m : M4) : m.neg.nrm = m.nrm := by unfold M4.nrm M4.neg; simp only [Int.natAbs_neg]
def M4.pow (m : M4) : Nat → M4
  | 0 => .one
  | n + 1 => (m.pow n).mul m
theorem M4.ext {m n : M4} (h1 : m.p = n.p) (h2 : m.q = n.q) (h3 : m.r = n.r) (h4 : m.s = n.s) : m = n := by cases m; cases n; simp only at h1 h2 h3 h4; subst h1 h2 h3 h4; rfl
theorem M4.mul_assoc (a b c : M4) : (a.mul b).mul c = a.mul (b.mul c) := by
  apply M4.ext <;> (unfold M4.mul; simp only [Int.add_mul, Int.mul_add, Int.mul_assoc]; omega)
theorem M4.one_mul (a : M4) : M4.one.mul a = a := by apply M4.ext <;> (unfold M4.mul M4.one; simp only [Int.one_mul, Int.zero_mul]; omega)
theorem M4.mul_one (a : M4) : a.mul M4.one = a := by apply M4.ext <;> (unfold M4.mul M4.one; simp only [Int.mul_one, Int.mul_zero]; omega)
theorem M4.det_mul (a b : M4) : (a.mul b).det = a.det * b.det := by
  unfold M4.mul M4.det
  grind
theorem M4.mul_inv {m : M4} (h : m.det = 1 ∨ m.det = -1) : m.mul m.inv = .one ∧ m.inv.mul m = .one := by
  have e : m.det = m.p * m.s - m.q * m.r := rfl
  rcases h with h | h
  · constructor <;> (apply M4.ext <;> (unfold M4.mul M4.inv M4.one; rw [h]; rw [h] at e; dsimp only; grind))
  · constructor <;> (apply M4.ext <;> (unfold M4.mul M4.inv M4.one; rw [h]; rw [h] at e; dsimp only; grind))
theorem M4.nrm_inv {m : M4} (h : m.det = 1 ∨ m.det = -1) : m.inv.nrm = m.nrm := by
  unfold M4.nrm M4.inv
  rcases h with h | h <;> (rw [h]; dsimp only; simp only [Int.one_mul, Int.neg_mul, Int.natAbs_neg, Int.neg_neg]; omega)
theorem M4.det_inv {m : M4} (h : m.det = 1 ∨ m.det = -1) : m.inv.det = m.det := by
  have e : m.det = m.p * m.s - m.q * m.r := rfl
  rcases h with h | h <;> (unfold M4.inv; rw [h]; rw [h] at e; unfold M4.det; dsimp only; grind)
theorem M4.pow_add (m : M4) (i : Nat) : ∀ j, m.pow (i + j) = (m.pow i).mul (m.pow j)
  | 0 => (M4.mul_one _).symm
  | j + 1 => by
    show (m.pow (i + j)).mul m = (m.pow i).mul ((m.pow j).mul m)
    rw [M4.pow_add m i j, M4.mul_assoc]
theorem M4.pow_two_mul (m : M4) (i : Nat) : (m.mul m).pow i = m.pow (2 * i) := by
  induction i with
  | zero => rfl
  | succ i ih =>
    show ((m.mul m).pow i).mul (m.mul m) = m.pow (2 * i + 1 + 1)
    rw [ih]
    show _ = ((m.pow (2 * i)).mul m).mul m
    rw [M4.mul_assoc]
theorem M4.nrm_pow {m : M4} {B : Nat} (h : m.nrm ≤ 2 ^ B) (k : Nat) : (m.pow k).nrm ≤ 2 * 2 ^ (B * k) := by
  induction k with
  | zero => exact Nat.le_refl _
  | succ k ih =>
    refine Nat.le_trans (M4.nrm_mul _ _) (Nat.le_trans (Nat.mul_le_mul ih h) ?_)
    rw [Nat.mul_succ, Nat.pow_add, Nat.mul_assoc]
    exact Nat.le_refl _
theorem M4.pow_one_mul (m : M4) (k : Nat) : m.mul (m.pow k) = (m.pow k).mul m := by
  induction k with
  | zero => show m.mul .one = M4.one.mul m; rw [M4.mul_one, M4.one_mul]
  | succ k ih =>
    show m.mul ((m.pow k).mul m) = ((m.pow k).mul m).mul m
    rw [← M4.mul_assoc, ih]
theorem M4.pow_det (m : M4) (k : Nat) : (m.pow k).det = m.det ^ k := by
  induction k with
  | zero => show M4.one.det = m.det ^ 0; rw [Int.pow_zero]; rfl
  | succ k ih => show ((m.pow k).mul m).det = _; rw [M4.det_mul, ih, Int.pow_succ]
theorem M4.inv_pow {m : M4} (h : m.det = 1 ∨ m.det = -1) (k : Nat) : (m.inv.pow k).mul (m.pow k) = .one := by
  induction k with
  | zero => rfl
  | succ k ih =>
    show ((m.inv.pow k).mul m.inv).mul ((m.pow k).mul m) = .one
    rw [← M4.pow_one_mul m k, M4.mul_assoc, ← M4.mul_assoc m.inv, (M4.mul_inv h).2, M4.one_mul, ih]
/-! ### powers -/
def kUNIT : D := M4.one.D
def wNeverE : WE := fun _ _ _ => False
theorem se_never {X : Cx} {c : C} {e : Expr} : SE X c e wNeverE := ⟨fun _ _ _ _ _ h => h, ⟨fun _ _ _ _ _ _ ⟨_, _, _, _, h⟩ => h.elim⟩⟩
def sp_raised0 : FSpec := fun ds tk Q => ∃ (m : M4) (z : Int) (k B : Nat), ds = [m.D, .int z] ∧ z = (k : Int) ∧ m.nrm ≤ 2 ^ B ∧ B * k + 2 ≤ BG ∧ Q (.val (m.pow k).D) tk
theorem mon_raised0 : MonFS sp_raised0 := fun ds tk Q Q' h ⟨m, z, k, B, e, e2, h0, h1, q⟩ => ⟨m, z, k, B, e, e2, h0, h1, h _ _ q⟩
theorem len_raised0 : ∀ ds tk Q, sp_raised0 ds tk Q → ds.length = 2 := fun ds tk Q ⟨m, z, k, B, e, _⟩ => by rw [e]; rfl
abbrev N_raised0 : List Str := ["m", "many", "found"]
def c_raised0 : WS :=
  (wSeq (wIfS (wT (wOp fLt (wPk 1) (fz (wC (.int 0))))) (wRet wNeverE) wNext)
  (wSeq (wSet 2 (wC kUNIT))
  (wSeq (wWhile (wT (wOp fGt (wPk 1) (fz (wC (.int 0))))) (wSeq (wIfS (wT (wOp fEq (fz (wOp fMod (wPk 1) (fz (wC (.int 2))))) (fz (wC (.int 1))))) (wSet 2 (wCall sp_multiply (wCons (fz (wV 2)) (wCons (fz (wV 0)) wNil)))) wNext)
  (wSeq (wSet 0 (wCall sp_multiply (wCons (fz (wV 0)) (wCons (fz (wV 0)) wNil))))
  (wSet 1 (wOp fDiv (wPk 1) (fz (wC (.int 2))))))))
  (wRetV 2))))
theorem sm_pow {m : M4} {B k : Nat} (h : m.nrm ≤ 2 ^ B) (hk : B * k + 2 ≤ BG) : (m.pow k).Sm BG := by
  refine M4.sm_of_nrm (Nat.lt_of_le_of_lt (M4.nrm_pow h k) ?_)
  rw [show 2 * 2 ^ (B * k) = 2 ^ (B * k + 1) from (by rw [Nat.pow_succ]; omega)]
  exact Nat.pow_lt_pow_right (by decide) (by omega)
/-- from behind the test -/
theorem raised_loop {m : M4} {z : Int} {k B : Nat} {P : Post} {tk : Tk} {Q : EV → Tk → Prop} (hz : z = (k : Int)) (hm : m.nrm ≤ 2 ^ B) (hB : B * k + 2 ≤ BG) (hP : ∀ v t, Q v t → P.rt v t) (q : Q (.val (m.pow k).D) tk) :
  (wSeq (wSet 2 (wC kUNIT))
  (wSeq (wWhile (wT (wOp fGt (wPk 1) (fz (wC (.int 0))))) (wSeq (wIfS (wT (wOp fEq (fz (wOp fMod (wPk 1) (fz (wC (.int 2))))) (fz (wC (.int 1))))) (wSet 2 (wCall sp_multiply (wCons (fz (wV 2)) (wCons (fz (wV 0)) wNil)))) wNext)
  (wSeq (wSet 0 (wCall sp_multiply (wCons (fz (wV 0)) (wCons (fz (wV 0)) wNil))))
  (wSet 1 (wOp fDiv (wPk 1) (fz (wC (.int 2))))))))
  (wRetV 2))) P [some (.val m.D), some (.val (.int z)), none] tk := by
  refine ⟨fun n e t => t = tk ∧ ∃ (i j : Nat) (z : Int), z = (n : Int) ∧ j + 2 ^ i * n = k ∧ e = [some (.val (m.pow (2 ^ i)).D), some (.val (.int z)), some (.val (m.pow j).D)], ⟨k, rfl, 0, 0, z, hz, by omega, by rw [show m.pow (2 ^ 0) = m from M4.one_mul m]; rfl⟩, ?_⟩
  rintro n e t ⟨rfl, i, j, z, hz, hk, rfl⟩
  refine if2 (fun h => ?_) (fun h => ?_)
  · have hp : 0 < n := by omega
    have h2i : 2 ^ i * 1 ≤ 2 ^ i * n := Nat.mul_le_mul_left _ hp
    have hBi : B * 2 ^ i + 2 ≤ BG := by
      have := Nat.mul_le_mul_left B (show 2 ^ i ≤ k by omega)
      omega
    have hBj : B * j + 2 ≤ BG := by
      have := Nat.mul_le_mul_left B (show j ≤ k by omega)
      omega
    have hs := sm_pow hm hBi
    have hd : z.fdiv 2 = ((n / 2 : Nat) : Int) := by rw [Int.fdiv_eq_ediv_of_nonneg _ (by decide), hz]; rfl
    have hmod : z.fmod 2 = ((n % 2 : Nat) : Int) := by rw [Int.fmod_eq_emod_of_nonneg _ (by decide), hz]; rfl
    have hp2 : 2 ^ (i + 1) = 2 * 2 ^ i := by rw [Nat.pow_succ, Nat.mul_comm]
    have hdm : 2 * (n / 2) + n % 2 = n := Nat.div_add_mod n 2
    have fin : ∀ j' : Nat, j' + 2 ^ (i + 1) * (n / 2) = k → ∀ t : Tk, ∃ m', m' < n ∧ t = t ∧ ∃ (i2 j2 : Nat) (z2 : Int), z2 = (m' : Int) ∧ j2 + 2 ^ i2 * m' = k ∧ ([some (.val (M4.D ((m.pow (2 ^ i)).mul (m.pow (2 ^ i))))), some (.val (.int (z.fdiv 2))), some (.val (m.pow j').D)] : En) = [some (.val (m.pow (2 ^ i2)).D), some (.val (.int z2)), some (.val (m.pow j2).D)] := fun j' hj' t => by
      refine ⟨n / 2, by omega, rfl, i + 1, j', z.fdiv 2, hd, hj', ?_⟩
      rw [← M4.pow_add, hp2, Nat.two_mul]
    refine ⟨(show (2 : Int) ≠ 0 by decide), ?_⟩
    have hsplit : 2 ^ i * n = 2 * 2 ^ i * (n / 2) + 2 ^ i * (n % 2) := by
      conv => lhs; rw [← hdm]
      rw [Nat.mul_add, ← Nat.mul_assoc, Nat.mul_comm (2 ^ i) 2]
    refine if2 (fun h1 => ?_) (fun h1 => ?_)
    · have hm1 : n % 2 = 1 := by rw [hmod] at h1; omega
      refine ⟨m.pow j, m.pow (2 ^ i), rfl, sm_pow hm hBj, hs, m.pow (2 ^ i), m.pow (2 ^ i), rfl, hs, hs, divOk_lit (by decide) (by decide), ?_⟩
      have := fin (j + 2 ^ i) (by rw [hp2]; rw [hm1, Nat.mul_one] at hsplit; omega) t
      rw [M4.pow_add m j (2 ^ i)] at this
      exact this
    · have hm0 : n % 2 = 0 := by rw [hmod] at h1; omega
      refine ⟨m.pow (2 ^ i), m.pow (2 ^ i), rfl, hs, hs, divOk_lit (by decide) (by decide), ?_⟩
      exact fin j (by rw [hp2]; rw [hm0, Nat.mul_zero] at hsplit; omega) t
  · have : n = 0 := by omega
    subst this
    have : j = k := by omega
    subst this
    exact hP _ _ q
theorem hw_raised0 : ∀ ds tk Q, sp_raised0 ds tk Q → c_raised0 { nx := fun _ t => Q (.val .non) t, rt := Q } (start N_raised0.length ds) tk := by
  rintro ds tk Q ⟨m, z, k, B, rfl, hz, hm, hB, q⟩
  refine ifF (show ¬ (z < 0) by omega) ?_
  exact raised_loop (Q := Q) hz hm hB (fun _ _ h => h) q
def sp_raised : FSpec := fun ds tk Q => ∃ (m : M4) (k : Int) (B : Nat), ds = [m.D, .int k] ∧ m.nrm ≤ 2 ^ B ∧ B * k.natAbs + 2 ≤ BG ∧ B + 2 ≤ BG ∧ (m.det = 1 ∨ m.det = -1) ∧ Q (.val (if k < 0 then m.inv.pow k.natAbs else m.pow k.natAbs).D) tk
theorem mon_raised : MonFS sp_raised := fun ds tk Q Q' h ⟨m, k, B, e, h0, h1, h2, h3, q⟩ => ⟨m, k, B, e, h0, h1, h2, h3, h _ _ q⟩
theorem len_raised : ∀ ds tk Q, sp_raised ds tk Q → ds.length = 2 := fun ds tk Q ⟨m, k, B, e, _⟩ => by rw [e]; rfl
abbrev N_raised : List Str := ["m", "many", "found"]
def c_raised : WS :=
  (wSeq (wIfS (wT (wOp fLt (wPk 1) (fz (wC (.int 0))))) (wRet (wCall sp_raised0 (wCons (fz (wCall sp_inverse (wCons (fz (wV 0)) wNil))) (wCons (fz (w1 fNeg (wPk 1))) wNil)))) wNext)
  (wSeq (wSet 2 (wC kUNIT))
  (wSeq (wWhile (wT (wOp fGt (wPk 1) (fz (wC (.int 0))))) (wSeq (wIfS (wT (wOp fEq (fz (wOp fMod (wPk 1) (fz (wC (.int 2))))) (fz (wC (.int 1))))) (wSet 2 (wCall sp_multiply (wCons (fz (wV 2)) (wCons (fz (wV 0)) wNil)))) wNext)
  (wSeq (wSet 0 (wCall sp_multiply (wCons (fz (wV 0)) (wCons (fz (wV 0)) wNil))))
  (wSet 1 (wOp fDiv (wPk 1) (fz (wC (.int 2))))))))
  (wRetV 2))))
theorem hw_raised : ∀ ds tk Q, sp_raised ds tk Q → c_raised { nx := fun _ t => Q (.val .non) t, rt := Q } (start N_raised.length ds) tk := by
  rintro ds tk Q ⟨m, k, B, rfl, hm, hB, hB1, hdet, q⟩
  have hsm : m.Sm BG := M4.sm_of_nrm (Nat.lt_of_le_of_lt hm (Nat.pow_lt_pow_right (by decide) (by omega)))
  refine if2 (fun h => ?_) (fun h => ?_)
  · rw [if_pos h] at q
    refine ⟨m, rfl, hsm, ?_, m.inv, -k, k.natAbs, B, rfl, by omega, by rw [M4.nrm_inv hdet]; exact hm, hB, q⟩
    rcases hdet with z | z <;> (rw [z]; exact sm_lit (by decide))
  · rw [if_neg h] at q
    exact raised_loop (Q := Q) (show k = ((k.natAbs : Nat) : Int) by omega) hm hB (fun _ _ h => h) q
end DL
namespace DL
open PySem PySem.Spec PyProof.Rows L2
/-! ### a drawn change of determinant 1 -/
/-- how large a change of so many steps is -/
def chB (m : Nat) : Nat := 4 ^ m + (1 - m)
theorem chB_up {i m : Nat} (h : i ≤ m) : chB i ≤ chB m := by
  unfold chB
  have p := Nat.pow_le_pow_right (show 0 < 4 by decide) h
  by_cases z : i = 0
  · subst z
    by_cases y : m = 0
    · subst y; exact Nat.le_refl _
    · have := Nat.pow_le_pow_right (show 0 < 4 by decide) (show 1 ≤ m by omega)
      omega
  · omega
theorem chB_le (m : Nat) : chB m ≤ 2 ^ (2 * m + 1) := by
  unfold chB
  rw [Nat.pow_succ, Nat.pow_mul]
  have := Nat.pow_le_pow_right (show 0 < 4 by decide) (show 0 ≤ m by omega)
  show 4 ^ m + (1 - m) ≤ 4 ^ m * 2
  omega
def sp_Lchange : FSpec := fun ds tk Q => ∃ (m : Int) (c : Nat), ds = [.st, .int m] ∧ tk = some c ∧ 0 ≤ m ∧ m < 1000 ∧ c + 10000 < 2 ^ 50 ∧ ∀ (a : M4) (c' : Nat), a.det = 1 → a.nrm ≤ chB m.toNat → c' ≤ c + 1 + 2 * m.toNat → Q (.val a.D) (some c')
theorem mon_Lchange : MonFS sp_Lchange := fun ds tk Q Q' h ⟨m, c, e, e2, h0, h1, h2, q⟩ => ⟨m, c, e, e2, h0, h1, h2, fun a c' x y z => h _ _ (q a c' x y z)⟩
theorem len_Lchange : ∀ ds tk Q, sp_Lchange ds tk Q → ds.length = 2 := fun ds tk Q ⟨m, c, e, _⟩ => by rw [e]; rfl
abbrev N_Lchange : List Str := ["_law_state_here", "_law_many", "_law_m", "_law_k", "_law_t"]
def c_Lchange : WS :=
  (wSeq (wSet 2 (wTup (wCons (fz (wC (.int 1))) (wCons (fz (wC (.int 0))) (wCons (fz (wC (.int 0))) (wCons (fz (wC (.int 1))) wNil))))))
  (wSeq (wFor (wR1 (fz (wCall sp_Lnext (wCons (fz (wV 0)) (wCons (fz (wOp fAdd (wPk 1) (fz (wC (.int 1))))) wNil))))) (gN 3) (wSeq (wSet 4 (wOp fSub (fz (wCall sp_Lnext (wCons (fz (wV 0)) (wCons (fz (wC (.int 5))) wNil)))) (fz (wC (.int 2)))))
  (wSet 2 (wCall sp_Lmul (wCons (fz (wV 2)) (wCons (fz (wOp fIdx (fz (wLst (wCons (fz (wTup (wCons (fz (wC (.int 1))) (wCons (fz (wV 4)) (wCons (fz (wC (.int 0))) (wCons (fz (wC (.int 1))) wNil)))))) (wCons (fz (wTup (wCons (fz (wC (.int 1))) (wCons (fz (wC (.int 0))) (wCons (fz (wV 4)) (wCons (fz (wC (.int 1))) wNil)))))) (wCons (fz (wTup (wCons (fz (wC (.int 0))) (wCons (fz (w1 fNeg (fz (wC (.int 1))))) (wCons (fz (wC (.int 1))) (wCons (fz (wC (.int 0))) wNil)))))) wNil))))) (fz (wCall sp_Lnext (wCons (fz (wV 0)) (wCons (fz (wC (.int 3))) wNil)))))) wNil))))))
  (wRetV 2)))
theorem hw_Lchange : ∀ ds tk Q, sp_Lchange ds tk Q → c_Lchange { nx := fun _ t => Q (.val .non) t, rt := Q } (start N_Lchange.length ds) tk := by
  rintro ds tk Q ⟨m, c, rfl, rfl, h0, h1, h2, q⟩
  refine ⟨rfl, ?_⟩
  refine ⟨_, _, rfl, rfl, by omega, by omega, fun v0 v0_0 v0_1 => ?_⟩
  refine ⟨by omega, by omega, ?_⟩
  refine forGo_rng (fun i e t => ∃ (a : M4) (x3 x4 : Option EV), a.det = 1 ∧ (a.nrm ≤ chB i ∧ (i = 0 → a = M4.one)) ∧ t = some (c + 1 + 2 * i) ∧ e = [some (.val .st), some (.val (.int m)), some (.val a.D), x3, x4]) (fun i e t R hi hI hR => ?_) (fun e t hI => ?_) ⟨M4.one, none, none, rfl, ⟨by decide, fun _ => rfl⟩, rfl, rfl⟩
  · obtain ⟨a, x3, x4, hd, ⟨hn0, h0'⟩, rfl, rfl⟩ := hI
    have hn := Nat.le_trans hn0 (chB_le i)
    have hi' : i < 1000 := by omega
    refine ⟨_, _, rfl, rfl, by first | decide | omega, by first | decide | omega, fun v1 v1_0 v1_1 => ?_⟩
    refine ⟨rfl, rfl, rfl, rfl, ?_⟩
    refine ⟨_, _, rfl, rfl, by first | decide | omega, by first | decide | omega, fun v2 v2_0 v2_1 => ?_⟩
    refine fIdx_of (fun d => ∃ b : M4, d = b.D ∧ b.det = 1 ∧ b.nrm ≤ 4) v2_0 v2_1 (all3 ⟨⟨1, v1 - 2, 0, 1⟩, rfl, ?_, ?_⟩ ⟨⟨1, 0, v1 - 2, 1⟩, rfl, ?_, ?_⟩ ⟨⟨0, -1, 1, 0⟩, rfl, by decide, by decide⟩) ?_
    · unfold M4.det; dsimp only; omega
    · unfold M4.nrm; dsimp only; omega
    · unfold M4.det; dsimp only; omega
    · unfold M4.nrm; dsimp only; omega
    rintro _ ⟨b, rfl, hbd, hbn⟩
    have hab : (a.mul b).nrm ≤ chB (i + 1) := by
      by_cases z : i = 0
      · have e1 : M4.one.mul b = b := by
          unfold M4.one M4.mul
          cases b
          simp
        rw [h0' z, e1, z]
        exact hbn
      · refine Nat.le_trans (M4.nrm_mul _ _) (Nat.le_trans (Nat.mul_le_mul hn0 hbn) ?_)
        unfold chB
        rw [Nat.pow_succ]
        omega
    refine ⟨a, b, rfl, M4.sm_of_nrm (Nat.lt_of_le_of_lt hn (Nat.pow_lt_pow_right (by decide) (show 2 * i + 1 < 450000 by omega))), M4.sm_of_nrm (Nat.lt_of_le_of_lt hbn (by exact Nat.lt_of_lt_of_le (show 4 < 2 ^ 3 by decide) (Nat.pow_le_pow_right (by decide) (by decide)))), ?_⟩
    exact hR _ _ ⟨a.mul b, _, _, by rw [M4.det_mul, hd, hbd]; rfl, ⟨hab, fun z => absurd z (Nat.succ_ne_zero i)⟩, rfl, rfl⟩
  · obtain ⟨a, x3, x4, hd, ⟨hn, _⟩, rfl, rfl⟩ := hI
    refine q a _ hd (Nat.le_trans hn (chB_up ?_)) ?_
    · omega
    · omega
end DL
namespace DL
open PySem PySem.Spec PyProof.Rows L2
/-! ### rows for the steps -/
theorem prf {p : Prop} (h : p) : p := h
theorem Sm.addm {x y : Int} {k j : Nat} (h : Sm k x) (h' : Sm j y) : Sm (max k j + 1) (x + y) := (h.mono (Nat.le_max_left _ _)).add (h'.mono (Nat.le_max_right _ _))
theorem Sm.subm {x y : Int} {k j : Nat} (h : Sm k x) (h' : Sm j y) : Sm (max k j + 1) (x - y) := (h.mono (Nat.le_max_left _ _)).sub (h'.mono (Nat.le_max_right _ _))
theorem Sm.ofB {x : Int} (h : -(2 ^ 64) < x) (h' : x < 2 ^ 64) : Sm 64 x := by unfold Sm; omega
theorem fdiv_abs {x y : Int} : (x.fdiv y).natAbs ≤ x.natAbs := by
  rcases Int.lt_trichotomy y 0 with h | h | h
  · have e : x.fdiv y = (-x).fdiv (-y) := (Int.neg_fdiv_neg x y).symm
    rw [e, Int.fdiv_eq_ediv_of_nonneg _ (by omega), ← Int.natAbs_neg x]
    exact Int.natAbs_ediv_le_natAbs _ _
  · subst h; rw [Int.fdiv_zero]; exact Nat.zero_le _
  · rw [Int.fdiv_eq_ediv_of_nonneg _ (by omega)]
    exact Int.natAbs_ediv_le_natAbs _ _
theorem Sm.fdiv {x y : Int} {k : Nat} (h : Sm k x) : Sm k (x.fdiv y) := Nat.lt_of_le_of_lt fdiv_abs h
theorem fmod_abs {x y : Int} (h : y ≠ 0) : (x.fmod y).natAbs < y.natAbs := by
  rcases Int.lt_or_gt_of_ne h with z | z
  · have h1 := Int.fmod_nonneg_of_pos (-x) (show 0 < -y by omega)
    have h2 := Int.fmod_lt_of_pos (-x) (show 0 < -y by omega)
    have e2 : (-x).fmod (-y) = -(x.fmod y) := by rw [Int.fmod_def, Int.fmod_def, Int.neg_fdiv_neg]; grind
    rw [e2] at h1 h2
    omega
  · have h1 := Int.fmod_nonneg_of_pos x z
    have h2 := Int.fmod_lt_of_pos x z
    omega
theorem Sm.fmod {x y : Int} {k : Nat} (h : Sm k y) (h0 : y ≠ 0) : Sm k (x.fmod y) := Nat.lt_trans (fmod_abs h0) h
theorem Sm.absif {x : Int} {k : Nat} (h : Sm k x) : Sm k (if x < 0 then -x else x) := by unfold Sm at *; split <;> omega
theorem MulOk.of {x y : Int} {k j : Nat} (h : Sm k x) (h' : Sm j y) (hk : Nat.ble (max k j) 480000 = true) : MulOk x y := by
  have h2 := Nat.le_of_ble_eq_true hk
  exact h.mulOk h' (Nat.le_trans (Nat.le_max_left _ _) h2) (Nat.le_trans (Nat.le_max_right _ _) h2)
theorem DivOk.of {x y : Int} {k : Nat} (h0 : y ≠ 0) (h : Sm k y) (hk : Nat.ble k 8999 = true) : DivOk x y := ⟨h0, by
  have h3 := Nat.le_of_ble_eq_true hk
  have := (Nat.log2_lt (k := k + 1) (n := y.natAbs) (by omega)).mpr (Nat.lt_of_lt_of_le h (Nat.pow_le_pow_right (by decide) (by omega)))
  omega⟩
theorem Sm.le {x : Int} {k j : Nat} (h : Sm k x) (hk : Nat.ble k j = true) : Sm j x := h.mono (Nat.le_of_ble_eq_true hk)
theorem szl {n : Nat} (h : n ≤ 30000) : n < sizeLine := Nat.lt_of_le_of_lt h (by decide)
end DL
set_option maxHeartbeats 1000000
namespace DL
/-! ### primes, plainly -/
def Pr (n : Nat) : Prop := 2 ≤ n ∧ ∀ d, d ∣ n → d = 1 ∨ d = n
theorem pr_dvd {p d : Nat} (h : Pr p) (hd : d ∣ p) (h2 : 2 ≤ d) : d = p := (h.2 d hd).resolve_left (by omega)
theorem pr_coprime {p a : Nat} (h : Pr p) (ha : ¬ p ∣ a) : Nat.Coprime p a := by
  rcases h.2 (Nat.gcd p a) (Nat.gcd_dvd_left p a) with e | e
  · exact e
  · exact absurd (by rw [← e]; exact Nat.gcd_dvd_right p a) ha
theorem euclid {p a b : Nat} (h : Pr p) (hd : p ∣ a * b) : p ∣ a ∨ p ∣ b := by
  by_cases z : p ∣ a
  · exact .inl z
  · exact .inr ((pr_coprime h z).dvd_of_dvd_mul_left hd)
theorem euclid_pow {p a k : Nat} (h : Pr p) (hd : p ∣ a ^ k) : p ∣ a := by
  induction k with
  | zero =>
    rw [Nat.pow_zero] at hd
    have := Nat.le_of_dvd (by omega) hd
    have := h.1
    omega
  | succ k ih =>
    rw [Nat.pow_succ] at hd
    exact (euclid h hd).elim ih id
theorem least_of {P : Nat → Prop} : ∀ n, P n → ∃ m, P m ∧ m ≤ n ∧ ∀ k, k < m → ¬ P k := by
  intro n
  induction n using Nat.strongRecOn with
  | ind n ih =>
    intro h
    by_cases z : ∃ k, k < n ∧ P k
    · obtain ⟨k, hk, hp⟩ := z
      obtain ⟨m, h1, h2, h3⟩ := ih k hk hp
      exact ⟨m, h1, by omega, h3⟩
    · exact ⟨n, h, Nat.le_refl n, fun k hk hp => z ⟨k, hk, hp⟩⟩
theorem least_prime {n : Nat} (h : 2 ≤ n) : ∃ p, Pr p ∧ p ∣ n := by
  obtain ⟨m, ⟨h1, h2⟩, _, h4⟩ := least_of (P := fun d => 2 ≤ d ∧ d ∣ n) n ⟨h, Nat.dvd_refl n⟩
  refine ⟨m, ⟨h1, fun d hd => ?_⟩, h2⟩
  have hm : d ≤ m := Nat.le_of_dvd (by omega) hd
  by_cases z : 2 ≤ d
  · by_cases z2 : d < m
    · exact absurd ⟨z, Nat.dvd_trans hd h2⟩ (h4 d z2)
    · exact .inr (by omega)
  · have : d ≠ 0 := fun e => by rw [e] at hd; have := Nat.eq_zero_of_zero_dvd hd; omega
    exact .inl (by omega)
/-- no small divisor: a prime -/
theorem pr_of_small {m p : Nat} (h2 : 2 ≤ m) (h : ∀ d, 2 ≤ d → d < p → ¬ d ∣ m) (hp : m < p * p) : Pr m := by
  refine ⟨h2, fun d hd => ?_⟩
  obtain ⟨e, rfl⟩ := hd
  have d0 : 0 < d := Nat.pos_of_ne_zero fun z => by rw [z, Nat.zero_mul] at h2; omega
  have e0 : 0 < e := Nat.pos_of_ne_zero fun z => by rw [z, Nat.mul_zero] at h2; omega
  by_cases d1 : d = 1
  · exact .inl d1
  · by_cases e1 : e = 1
    · exact .inr (by rw [e1, Nat.mul_one])
    · exfalso
      have a : p ≤ d := Nat.le_of_not_lt fun z => h d (by omega) z ⟨e, rfl⟩
      have b : p ≤ e := Nat.le_of_not_lt fun z => h e (by omega) z ⟨d, Nat.mul_comm _ _⟩
      have := Nat.mul_le_mul a b
      omega
/-! ### prime parts -/
def prodP : List (Nat × Nat) → Nat
  | [] => 1
  | x :: l => x.1 ^ x.2 * prodP l
theorem prodP_app : ∀ l m : List (Nat × Nat), prodP (l ++ m) = prodP l * prodP m
  | [], m => by rw [List.nil_append]; show prodP m = 1 * prodP m; rw [Nat.one_mul]
  | x :: l, m => by rw [List.cons_append]; show x.1 ^ x.2 * prodP (l ++ m) = x.1 ^ x.2 * prodP l * prodP m; rw [prodP_app l m, Nat.mul_assoc]
structure Parts (n : Nat) (l : List (Nat × Nat)) : Prop where
  pr : ∀ x ∈ l, Pr x.1 ∧ 1 ≤ x.2
  asc : l.Pairwise (fun a b => a.1 < b.1)
  eq : prodP l = n
theorem pr_prod {p : Nat} (h : Pr p) : ∀ {l : List (Nat × Nat)}, (∀ x ∈ l, Pr x.1) → p ∣ prodP l → ∃ x ∈ l, x.1 = p
  | [], _, hd => by
    have := Nat.le_of_dvd (by decide) (show p ∣ 1 from hd)
    have := h.1
    omega
  | x :: l, hl, hd => by
    rcases euclid h (show p ∣ x.1 ^ x.2 * prodP l from hd) with z | z
    · refine ⟨x, List.mem_cons_self, ?_⟩
      have := pr_dvd (hl x List.mem_cons_self) (euclid_pow h z) h.1
      exact this.symm
    · obtain ⟨y, h1, h2⟩ := pr_prod h (fun y hy => hl y (List.mem_cons_of_mem _ hy)) z
      exact ⟨y, List.mem_cons_of_mem _ h1, h2⟩
theorem prodP_pos : ∀ {l : List (Nat × Nat)}, (∀ x ∈ l, Pr x.1 ∧ 1 ≤ x.2) → 0 < prodP l
  | [], _ => Nat.one_pos
  | x :: l, h => Nat.mul_pos (Nat.pow_pos (by have := (h x List.mem_cons_self).1.1; omega)) (prodP_pos fun y hy => h y (List.mem_cons_of_mem _ hy))
theorem Parts.pos {n : Nat} {l : List (Nat × Nat)} (h : Parts n l) : 0 < n := by rw [← h.eq]; exact prodP_pos h.pr
theorem dvd_pow_self' {p k : Nat} (h : 1 ≤ k) : p ∣ p ^ k := by
  obtain ⟨j, rfl⟩ : ∃ j, k = j + 1 := ⟨k - 1, by omega⟩
  rw [Nat.pow_succ]; exact Nat.dvd_mul_left _ _
/-- the powers of one prime are told by the number -/
theorem pow_uniq {p a b j k : Nat} (h : Pr p) (ha : ¬ p ∣ a) (hb : ¬ p ∣ b) (e : p ^ j * a = p ^ k * b) : j = k ∧ a = b := by
  have p0 : 0 < p := by have := h.1; omega
  have key : ∀ {a b j k : Nat}, ¬ p ∣ a → p ^ j * a = p ^ k * b → k ≤ j := fun {a b j k} ha e => by
    rcases Nat.lt_or_ge j k with z | z
    · exfalso
      obtain ⟨i, rfl⟩ : ∃ i, k = j + (i + 1) := ⟨k - j - 1, by omega⟩
      rw [Nat.pow_add, Nat.mul_assoc] at e
      have := Nat.eq_of_mul_eq_mul_left (Nat.pow_pos p0) e
      apply ha
      rw [this, Nat.pow_succ]
      exact Nat.dvd_trans (Nat.dvd_mul_left _ _) (Nat.dvd_mul_right _ _)
    · exact z
  have e1 : j = k := Nat.le_antisymm (key hb e.symm) (key ha e)
  subst e1
  exact ⟨rfl, Nat.eq_of_mul_eq_mul_left (Nat.pow_pos p0) e⟩
theorem head_no {x : Nat × Nat} {l : List (Nat × Nat)} (h : ∀ y ∈ x :: l, Pr y.1 ∧ 1 ≤ y.2) (ha : (x :: l).Pairwise (fun a b => a.1 < b.1)) : ¬ x.1 ∣ prodP l := fun z => by
  obtain ⟨y, h1, h2⟩ := pr_prod (h x List.mem_cons_self).1 (fun y hy => (h y (List.mem_cons_of_mem _ hy)).1) z
  have := (List.pairwise_cons.mp ha).1 y h1
  omega
theorem parts_uniq : ∀ {l m : List (Nat × Nat)} {n : Nat}, Parts n l → Parts n m → l = m
  | [], [], _, _, _ => rfl
  | [], y :: m, n, hl, hm => by
    have e : prodP (y :: m) = 1 := hm.eq.trans hl.eq.symm
    have d : y.1 ∣ 1 := by rw [← e]; exact Nat.dvd_trans (dvd_pow_self' (hm.pr y List.mem_cons_self).2) (Nat.dvd_mul_right _ _)
    have := Nat.le_of_dvd (by decide) d
    have := (hm.pr y List.mem_cons_self).1.1
    omega
  | x :: l, [], n, hl, hm => by
    have e : prodP (x :: l) = 1 := hl.eq.trans hm.eq.symm
    have d : x.1 ∣ 1 := by rw [← e]; exact Nat.dvd_trans (dvd_pow_self' (hl.pr x List.mem_cons_self).2) (Nat.dvd_mul_right _ _)
    have := Nat.le_of_dvd (by decide) d
    have := (hl.pr x List.mem_cons_self).1.1
    omega
  | x :: l, y :: m, n, hl, hm => by
    have e : prodP (x :: l) = prodP (y :: m) := hl.eq.trans hm.eq.symm
    have le1 : ∀ {x y : Nat × Nat} {l m : List (Nat × Nat)}, Parts n (x :: l) → Parts n (y :: m) → y.1 ≤ x.1 := fun {x y l m} hl hm => by
      have d : x.1 ∣ prodP (y :: m) := by rw [hm.eq, ← hl.eq]; exact Nat.dvd_trans (dvd_pow_self' (hl.pr x List.mem_cons_self).2) (Nat.dvd_mul_right _ _)
      obtain ⟨z, h1, h2⟩ := pr_prod (hl.pr x List.mem_cons_self).1 (fun y hy => (hm.pr y hy).1) d
      rcases List.mem_cons.mp h1 with h1 | h1
      · rw [← h2, h1]; exact Nat.le_refl _
      · have := (List.pairwise_cons.mp hm.asc).1 z h1
        omega
    have e1 : x.1 = y.1 := Nat.le_antisymm (le1 hm hl) (le1 hl hm)
    have n1 := head_no hl.pr hl.asc
    have n2 := head_no hm.pr hm.asc
    have e2 : x.1 ^ x.2 * prodP l = x.1 ^ y.2 * prodP m := by rw [show x.1 ^ x.2 * prodP l = y.1 ^ y.2 * prodP m from e, e1]
    obtain ⟨k1, k2⟩ := pow_uniq (hl.pr x List.mem_cons_self).1 n1 (by rw [e1]; exact n2) e2
    have t := parts_uniq (l := l) (m := m) (n := prodP l) ⟨fun z hz => hl.pr z (List.mem_cons_of_mem _ hz), (List.pairwise_cons.mp hl.asc).2, rfl⟩ ⟨fun z hz => hm.pr z (List.mem_cons_of_mem _ hz), (List.pairwise_cons.mp hm.asc).2, k2.symm⟩
    rw [t]
    obtain ⟨x1, x2⟩ := x
    obtain ⟨y1, y2⟩ := y
    simp only at e1 k1
    subst e1 k1
    rfl
/-- the parts of a prime -/
theorem parts_prime {n : Nat} (h : Pr n) : Parts n [(n, 1)] := ⟨fun x hx => by rw [List.mem_singleton] at hx; subst hx; exact ⟨h, Nat.le_refl 1⟩, List.pairwise_singleton _ _, by show n ^ 1 * 1 = n; rw [Nat.pow_one, Nat.mul_one]⟩
/-- what one prime takes out -/
theorem take_out {p : Nat} (h : 2 ≤ p) : ∀ {g : Nat}, 0 < g → ∃ j a, g = p ^ j * a ∧ ¬ p ∣ a := by
  intro g
  induction g using Nat.strongRecOn with
  | ind g ih =>
    intro g0
    by_cases z : p ∣ g
    · obtain ⟨b, rfl⟩ := z
      have b0 : 0 < b := Nat.pos_of_ne_zero fun e => by rw [e, Nat.mul_zero] at g0; omega
      obtain ⟨j, a, e, ha⟩ := ih b (by have := Nat.mul_le_mul_right b h; omega) b0
      exact ⟨j + 1, a, by rw [e, Nat.pow_succ, Nat.mul_comm (p ^ j) p, Nat.mul_assoc], ha⟩
    · exact ⟨0, g, by rw [Nat.pow_zero, Nat.one_mul], z⟩
theorem coprime_pow_l {p a k : Nat} (h : Pr p) (ha : ¬ p ∣ a) : Nat.Coprime (p ^ k) a := by
  induction k with
  | zero => rw [Nat.pow_zero]; exact Nat.coprime_one_left a
  | succ k ih => rw [Nat.pow_succ]; exact Nat.Coprime.mul_left ih (pr_coprime h ha)
/-- square measures, one prime more -/
theorem sq_step {p k P g : Nat} (h : Pr p) (hP : ¬ p ∣ P) (P0 : 0 < P) : g * g ∣ P * p ^ k ↔ ∃ a j, a * a ∣ P ∧ j ≤ k / 2 ∧ g = a * p ^ j := by
  have p0 : 0 < p := by have := h.1; omega
  constructor
  · intro hd
    have g0 : 0 < g := Nat.pos_of_ne_zero fun e => by
      rw [e, Nat.zero_mul] at hd
      have := Nat.eq_zero_of_zero_dvd hd
      have := Nat.mul_pos P0 (Nat.pow_pos (n := k) p0)
      omega
    obtain ⟨j, a, rfl, ha⟩ := take_out h.1 g0
    have haa : ¬ p ∣ a * a := fun z => (euclid h z).elim ha ha
    have e : p ^ j * a * (p ^ j * a) = p ^ (2 * j) * (a * a) := by rw [Nat.two_mul, Nat.pow_add]; grind
    rw [e] at hd
    refine ⟨a, j, ?_, ?_, Nat.mul_comm _ _⟩
    · have : a * a ∣ P * p ^ k := Nat.dvd_trans (Nat.dvd_mul_left _ _) hd
      exact ((coprime_pow_l h haa).symm).dvd_of_dvd_mul_right this
    · have d2 : p ^ (2 * j) ∣ P * p ^ k := Nat.dvd_trans (Nat.dvd_mul_right _ _) hd
      have d3 : p ^ (2 * j) ∣ p ^ k := (coprime_pow_l h hP).dvd_of_dvd_mul_left d2
      have := (Nat.pow_dvd_pow_iff_le_right (show 1 < p by have := h.1; omega)).mp d3
      omega
  · rintro ⟨a, j, ha, hj, rfl⟩
    have e : a * p ^ j * (a * p ^ j) = a * a * p ^ (2 * j) := by rw [Nat.two_mul, Nat.pow_add]; grind
    rw [e]
    exact Nat.mul_dvd_mul ha (Nat.pow_dvd_pow p (by omega))
theorem sq_no {p P a : Nat} (h : Pr p) (hP : ¬ p ∣ P) (ha : a * a ∣ P) : ¬ p ∣ a := fun z => hP (Nat.dvd_trans z (Nat.dvd_trans (Nat.dvd_mul_right a a) ha))
/-- ascending lists with the same members -/
theorem asc_ext {α : Type} {lt : α → α → Prop} (tr : ∀ a b, lt a b → lt b a → False) : ∀ {l m : List α}, l.Pairwise lt → m.Pairwise lt → (∀ x, x ∈ l ↔ x ∈ m) → l = m
  | [], [], _, _, _ => rfl
  | [], y :: m, _, _, h => absurd ((h y).mpr List.mem_cons_self) (by intro z; cases z)
  | x :: l, [], _, _, h => absurd ((h x).mp List.mem_cons_self) (by intro z; cases z)
  | x :: l, y :: m, hl, hm, h => by
    obtain ⟨l1, l2⟩ := List.pairwise_cons.mp hl
    obtain ⟨m1, m2⟩ := List.pairwise_cons.mp hm
    have e : x = y := by
      rcases List.mem_cons.mp ((h x).mp List.mem_cons_self) with z | z
      · exact z
      · rcases List.mem_cons.mp ((h y).mpr List.mem_cons_self) with w | w
        · exact w.symm
        · exact absurd (m1 x z) fun q => tr _ _ q (l1 y w)
    subst e
    have irr : ¬ lt x x := fun q => tr _ _ q q
    rw [asc_ext tr l2 m2 fun z => ?_]
    constructor
    · intro hz
      rcases List.mem_cons.mp ((h z).mp (List.mem_cons_of_mem _ hz)) with w | w
      · subst w; exact absurd (l1 z hz) irr
      · exact w
    · intro hz
      rcases List.mem_cons.mp ((h z).mpr (List.mem_cons_of_mem _ hz)) with w | w
      · subst w; exact absurd (m1 z hz) irr
      · exact w
end DL
set_option maxHeartbeats 1000000
set_option pp.maxSteps 1200
local macro_rules | `(tactic| walk_at "sm") => `(tactic| first
  | assumption
  | (with_reducible refine' DL.Sm.ofB ?_ ?_ <;> omega)
  | (with_reducible refine' DL.Sm.mul ?s1 ?s2; (case s1 => walk_at "sm"); (case s2 => walk_at "sm"))
  | (with_reducible refine' DL.Sm.addm ?s1 ?s2; (case s1 => walk_at "sm"); (case s2 => walk_at "sm"))
  | (with_reducible refine' DL.Sm.subm ?s1 ?s2; (case s1 => walk_at "sm"); (case s2 => walk_at "sm"))
  | (with_reducible refine' DL.Sm.neg ?s1; (case s1 => walk_at "sm"))
  | (with_reducible refine' DL.Sm.fdiv ?s1; (case s1 => walk_at "sm"))
  | (with_reducible refine' DL.Sm.absif ?s1; (case s1 => walk_at "sm"))
  | (with_reducible refine' DL.Sm.fmod ?s1 ?s2; (case s1 => walk_at "sm"); (case s2 => first | assumption | omega)))
local macro_rules | `(tactic| walk_at "sd") => `(tactic| ((try dsimp only); first
  | with_reducible exact rfl
  | assumption
  | (with_reducible refine' DL.MulOk.of ?m1 ?m2 ?m3; (case m1 => walk_at "sm"); (case m2 => walk_at "sm"); (case m3 => decide))
  | (with_reducible refine' DL.DivOk.of ?m1 ?m2 ?m3; (case m1 => first | assumption | omega | decide); (case m2 => walk_at "sm"); (case m3 => decide))
  | (with_reducible refine' DL.Sm.le ?m1 ?m2; (case m1 => walk_at "sm"); (case m2 => decide))
  | omega
  | decide
  | exact rfl
  | (refine ⟨?_, ?_⟩ <;> walk_at "sd")))
local macro_rules | `(tactic| walk_at "go") => `(tactic| repeat (refine ⟨DL.prf (by walk_at "sd"), ?_⟩))
namespace DL
open PySem PySem.Spec PyProof.Rows L2
theorem natAbs_pow_lt {n k j : Nat} {x : Int} (h : x.natAbs < 2 ^ k) (hk : k ≤ j) : x.natAbs < 2 ^ j := Nat.lt_of_lt_of_le h (Nat.pow_le_pow_right (by decide) hk)
theorem pow_s (a k : Nat) : a ^ (k + 1) = a ^ k * a := Nat.pow_succ ..
theorem mod_iff {n p : Nat} : ((n : Int)).fmod (p : Int) = 0 ↔ p ∣ n := by
  rw [Int.fmod_eq_emod_of_nonneg _ (Int.natCast_nonneg _)]
  constructor
  · intro h
    exact Nat.dvd_of_mod_eq_zero (by omega)
  · intro h
    have := Nat.mod_eq_zero_of_dvd h
    omega
theorem fdiv_nat {n p : Nat} : ((n : Int)).fdiv (p : Int) = ((n / p : Nat) : Int) := by rw [Int.fdiv_eq_ediv_of_nonneg _ (Int.natCast_nonneg _)]; rfl
theorem fmod_natN {n p : Nat} : ((n : Int)).fmod (p : Int) = ((n % p : Nat) : Int) := by rw [Int.fmod_eq_emod_of_nonneg _ (Int.natCast_nonneg _)]; rfl
@[irreducible] def sp_Lroot : FSpec := fun ds tk Q => ∃ (n : Nat), ds = [.int (n : Int)] ∧ (n < 2 ^ 1000) ∧ ∀ (r : Nat), ∀ (a : r * r ≤ n), ∀ (b : n < (r + 1) * (r + 1)), Q (.val (.int (r : Int))) tk
theorem op_Lroot {ds : List D} {tk : Tk} {Q : EV → Tk → Prop} (h : sp_Lroot ds tk Q) : ∃ (n : Nat), ds = [.int (n : Int)] ∧ (n < 2 ^ 1000) ∧ ∀ (r : Nat), ∀ (a : r * r ≤ n), ∀ (b : n < (r + 1) * (r + 1)), Q (.val (.int (r : Int))) tk := by unfold sp_Lroot at h; exact h
theorem mon_Lroot : MonFS sp_Lroot := fun ds tk Q Q' hq_ hs_ => by
  obtain ⟨n, e_, h0, q_⟩ := op_Lroot hs_
  unfold sp_Lroot
  exact ⟨n, e_, h0, fun r a b => hq_ _ _ (q_ r a b)⟩
theorem len_Lroot : ∀ ds tk Q, sp_Lroot ds tk Q → ds.length = 1 := fun ds tk Q hs_ => by
  obtain ⟨n, e_, h0, q_⟩ := op_Lroot hs_
  rw [e_]; rfl
theorem cl_Lroot {tk : Tk} {Q : EV → Tk → Prop} {n : Nat} (h0 : n < 2 ^ 1000) (q_ : ∀ (r : Nat), ∀ (a : r * r ≤ n), ∀ (b : n < (r + 1) * (r + 1)), Q (.val (.int (r : Int))) tk) : sp_Lroot [.int (n : Int)] tk Q := by
  unfold sp_Lroot
  exact ⟨n, rfl, h0, q_⟩
theorem ce_Lroot {ds_ : List D} {tk : Tk} {Q : EV → Tk → Prop} {n : Nat} (h0 : n < 2 ^ 1000) (e_ : ds_ = [.int (n : Int)]) (q_ : ∀ (r : Nat), ∀ (a : r * r ≤ n), ∀ (b : n < (r + 1) * (r + 1)), Q (.val (.int (r : Int))) tk) : sp_Lroot ds_ tk Q := by
  subst e_
  unfold sp_Lroot
  exact ⟨n, rfl, h0, q_⟩
abbrev N_Lroot : List Str := ["_law_n", "_law_low", "_law_high", "_law_k", "_law_middle"]
def c_Lroot : WS :=
  (wSeq (wSet 1 (wC (.int 0)))
  (wSeq (wSet 2 (wOp fAdd (wPk 0) (fz (wC (.int 1)))))
  (wSeq (wFor (wR1 (fz (wC (.int 2000)))) (gN 3) (wSeq (wIfS (wT (wOp fLe (fz (wOp fSub (wPk 2) (wPk 1))) (fz (wC (.int 1))))) (wRetV 1) wNext)
  (wSeq (wSet 4 (wOp fDiv (fz (wOp fAdd (wPk 1) (wPk 2))) (fz (wC (.int 2)))))
  (wIfS (wT (wOp fLe (fz (wOp fMul (wPk 4) (wPk 4))) (wPk 0))) (wSet 1 (wV 4)) (wSet 2 (wV 4))))))
  (wRetV 1))))
theorem hw_Lroot : ∀ ds tk Q, sp_Lroot ds tk Q → c_Lroot { nx := fun _ t => Q (.val .non) t, rt := Q } (start N_Lroot.length ds) tk := by
  intro ds tk Q h_
  obtain ⟨n, rfl, h0, q⟩ := op_Lroot h_
  have hs : Sm 1001 (n : Int) := by unfold Sm; rw [Int.natAbs_natCast]; exact Nat.lt_of_lt_of_le h0 (Nat.pow_le_pow_right (by decide) (by decide))
  refine ⟨by decide, by decide, ?_⟩
  refine forGo_rng (fun i e t => t = tk ∧ ∃ (l h : Nat) (x3 x4 : Option EV), l < h ∧ l * l ≤ n ∧ n < h * h ∧ h ≤ n + 1 ∧ h * 2 ^ i ≤ l * 2 ^ i + 2 ^ 1001 + 2 ^ i ∧ e = [some (.val (.int (n))), some (.val (.int (l))), some (.val (.int (h))), x3, x4]) (fun i e t R hi hI hR => ?_) (fun e t hI => ?_) ⟨rfl, 0, n + 1, none, none, by omega, by omega, by have := Nat.mul_le_mul (show n + 1 ≤ n + 1 by omega) (show 1 ≤ n + 1 by omega); omega, by omega, by rw [Nat.pow_zero]; have : (2 : Nat) ^ 1001 = 2 ^ 1000 * 2 := pow_s 2 1000; omega, rfl⟩
  · obtain ⟨rfl, l, h, x3, x4, i0, i1, i2, i3, i4, rfl⟩ := hI
    refine if2 (fun z => ?_) (fun z => ?_)
    · have e : h = l + 1 := by omega
      subst e
      exact q l i1 i2
    · have hm : ((l : Int) + (h : Int)).fdiv 2 = (((l + h) / 2 : Nat) : Int) := by rw [Int.fdiv_eq_ediv_of_nonneg _ (by decide)]; omega
      have hk : MulOk (((l + h) / 2 : Nat) : Int) (((l + h) / 2 : Nat) : Int) := by
        have : Sm 1001 (((l + h) / 2 : Nat) : Int) := by unfold Sm at *; omega
        walk_at "sd"
      refine ⟨by walk_at "sd", ?_⟩
      simp only [gCs, gN, gNl, start_def, List.map_cons, List.map_nil, List.set_cons_zero, List.set_cons_succ, List.replicate_succ, List.replicate_zero, List.cons_append, List.nil_append, List.length_cons, List.length_nil, Nat.reduceAdd, Nat.reduceSub]
      rw [hm]
      refine ⟨hk, ?_⟩
      have dbl : 2 * ((l + h) / 2) ≤ l + h ∧ l + h ≤ 2 * ((l + h) / 2) + 1 := by omega
      generalize (l + h) / 2 = md at *
      have p1 : (2 : Nat) ^ (i + 1) = 2 ^ i * 2 := pow_s 2 i
      refine if2 (fun z2 => ?_) (fun z2 => ?_)
      · refine hR _ _ ⟨rfl, md, h, _, _, by omega, ?_, i2, i3, ?_, rfl⟩
        · have : ((md * md : Nat) : Int) ≤ n := by rw [Int.natCast_mul]; exact z2
          omega
        · rw [p1]
          have a1 : h * (2 ^ i * 2) = h * 2 ^ i + h * 2 ^ i := by grind
          have a2 : (l + h) * 2 ^ i ≤ (2 * md + 1) * 2 ^ i := Nat.mul_le_mul_right _ dbl.2
          have a3 : (l + h) * 2 ^ i = l * 2 ^ i + h * 2 ^ i := Nat.add_mul _ _ _
          have a4 : (2 * md + 1) * 2 ^ i = md * (2 ^ i * 2) + 2 ^ i := by grind
          omega
      · refine hR _ _ ⟨rfl, l, md, _, _, by omega, i1, ?_, by omega, ?_, rfl⟩
        · have : ¬ ((md * md : Nat) : Int) ≤ n := by rw [Int.natCast_mul]; exact z2
          omega
        · rw [p1]
          have a2 : 2 * md * 2 ^ i ≤ (l + h) * 2 ^ i := Nat.mul_le_mul_right _ dbl.1
          have a3 : (l + h) * 2 ^ i = l * 2 ^ i + h * 2 ^ i := Nat.add_mul _ _ _
          have a4 : 2 * md * 2 ^ i = md * (2 ^ i * 2) := by grind
          have a5 : l * (2 ^ i * 2) = l * 2 ^ i + l * 2 ^ i := by grind
          omega
  · obtain ⟨rfl, l, h, x3, x4, i0, i1, i2, i3, i4, rfl⟩ := hI
    have e : h = l + 1 := by
      have i4 : h * 2 ^ 2000 ≤ l * 2 ^ 2000 + 2 ^ 1001 + 2 ^ 2000 := i4
      have p : (2 : Nat) ^ 1001 < 2 ^ 2000 := Nat.pow_lt_pow_right (by decide) (by decide)
      generalize (2 : Nat) ^ 1001 = A at *
      generalize (2 : Nat) ^ 2000 = B at *
      rcases Nat.lt_or_ge h (l + 2) with z | z
      · omega
      · have := Nat.mul_le_mul_right B z
        rw [Nat.add_mul] at this
        omega
    subst e
    exact q l i1 i2
/-! ### primes by trying -/
theorem prime_try {n r : Nat} (h2 : 2 ≤ n) (hr : n < (r + 1) * (r + 1)) (h : ∀ d, 2 ≤ d → d < r + 1 → ¬ d ∣ n) : Pr n := pr_of_small h2 h hr
theorem not_pr {n d : Nat} (h : d ∣ n) (h2 : 2 ≤ d) (hd : d < n) : ¬ Pr n := fun p => by
  rcases p.2 d h with e | e <;> omega
open Classical in
noncomputable def prB (n : Nat) : Bool := decide (Pr n)
open Classical in
theorem prB_t {n : Nat} (h : Pr n) : prB n = true := decide_eq_true h
open Classical in
theorem prB_f {n : Nat} (h : ¬ Pr n) : prB n = false := decide_eq_false h
@[irreducible] def sp_Lprime : FSpec := fun ds tk Q => ∃ (n : Nat), ds = [.int (n : Int)] ∧ (n < 2 ^ 60) ∧ Q (.val (.bl (prB n))) tk
theorem op_Lprime {ds : List D} {tk : Tk} {Q : EV → Tk → Prop} (h : sp_Lprime ds tk Q) : ∃ (n : Nat), ds = [.int (n : Int)] ∧ (n < 2 ^ 60) ∧ Q (.val (.bl (prB n))) tk := by unfold sp_Lprime at h; exact h
theorem mon_Lprime : MonFS sp_Lprime := fun ds tk Q Q' hq_ hs_ => by
  obtain ⟨n, e_, h0, q_⟩ := op_Lprime hs_
  unfold sp_Lprime
  exact ⟨n, e_, h0, hq_ _ _ q_⟩
theorem len_Lprime : ∀ ds tk Q, sp_Lprime ds tk Q → ds.length = 1 := fun ds tk Q hs_ => by
  obtain ⟨n, e_, h0, q_⟩ := op_Lprime hs_
  rw [e_]; rfl
theorem cl_Lprime {tk : Tk} {Q : EV → Tk → Prop} {n : Nat} (h0 : n < 2 ^ 60) (q_ : Q (.val (.bl (prB n))) tk) : sp_Lprime [.int (n : Int)] tk Q := by
  unfold sp_Lprime
  exact ⟨n, rfl, h0, q_⟩
theorem ce_Lprime {ds_ : List D} {tk : Tk} {Q : EV → Tk → Prop} {n : Nat} (h0 : n < 2 ^ 60) (e_ : ds_ = [.int (n : Int)]) (q_ : Q (.val (.bl (prB n))) tk) : sp_Lprime ds_ tk Q := by
  subst e_
  unfold sp_Lprime
  exact ⟨n, rfl, h0, q_⟩
abbrev N_Lprime : List Str := ["_law_n", "_law_p"]
def c_Lprime : WS :=
  (wSeq (wIfS (wT (wOp fLt (wPk 0) (fz (wC (.int 2))))) (wRet (wC (.bl false))) wNext)
  (wSeq (wFor (wR2 (fz (wC (.int 2))) (fz (wOp fAdd (fz (wCall sp_Lroot (wCons (fz (wV 0)) wNil))) (fz (wC (.int 1)))))) (gN 1) (wIfS (wT (wOp fEq (fz (wOp fMod (wPk 0) (wPk 1))) (fz (wC (.int 0))))) (wRet (wC (.bl false))) wNext))
  (wRet (wC (.bl true)))))
theorem hw_Lprime : ∀ ds tk Q, sp_Lprime ds tk Q → c_Lprime { nx := fun _ t => Q (.val .non) t, rt := Q } (start N_Lprime.length ds) tk := by
  intro ds tk Q h_
  obtain ⟨n, rfl, h0, q⟩ := op_Lprime h_
  refine if2 (fun h => ?_) (fun h => ?_)
  · rw [prB_f (fun p => by have := p.1; omega)] at q
    exact q
  refine cl_Lroot (Nat.lt_trans h0 (Nat.pow_lt_pow_right (by decide) (by decide))) fun r ra rb => ?_
  have rn : r ≤ n := Nat.le_trans (Nat.le_mul_self r) ra
  refine ⟨by omega, ?_⟩
  have e0 : ((r : Int) + 1 - 2).toNat = r - 1 := by omega
  rw [e0]
  refine forGo_rng (fun i e t => t = tk ∧ (∀ d, 2 ≤ d → d < i + 2 → ¬ d ∣ n) ∧ ∃ x1 : Option EV, e = [some (.val (.int (n))), x1]) (fun i e t R hi hI hR => ?_) (fun e t hI => ?_) ⟨rfl, fun d a b => by omega, none, rfl⟩
  · obtain ⟨rfl, hd, x1, rfl⟩ := hI
    have e1 : (2 : Int) + (i : Int) = ((i + 2 : Nat) : Int) := by omega
    rw [e1]
    refine ⟨by omega, ?_⟩
    refine if2 (fun z => ?_) (fun z => ?_)
    · have dv : (i + 2) ∣ n := mod_iff.mp z
      have lt : i + 2 < n := by
        have : (i + 2) * 2 ≤ r * r := Nat.mul_le_mul (by omega) (by omega)
        omega
      rw [prB_f (not_pr dv (by omega) lt)] at q
      exact q
    · refine hR _ _ ⟨rfl, fun d a b => ?_, _, rfl⟩
      rcases Nat.lt_or_ge d (i + 2) with w | w
      · exact hd d a w
      · have : d = i + 2 := by omega
        subst this
        exact fun w => z (mod_iff.mpr w)
  · obtain ⟨rfl, hd, x1, rfl⟩ := hI
    rw [prB_t (prime_try (n := n) (r := r) (by omega) rb fun d a b => hd d a (by omega))] at q
    exact q
@[irreducible] def sp_Lprime_above : FSpec := fun ds tk Q => ∃ (n : Nat), ds = [.int (n : Int)] ∧ (n < 2 ^ 50) ∧ ∀ (m : Nat), ∀ (a : 2 ≤ m), ∀ (b : m ≤ n + 300), Q (.val (.int (m : Int))) tk
theorem op_Lprime_above {ds : List D} {tk : Tk} {Q : EV → Tk → Prop} (h : sp_Lprime_above ds tk Q) : ∃ (n : Nat), ds = [.int (n : Int)] ∧ (n < 2 ^ 50) ∧ ∀ (m : Nat), ∀ (a : 2 ≤ m), ∀ (b : m ≤ n + 300), Q (.val (.int (m : Int))) tk := by unfold sp_Lprime_above at h; exact h
theorem mon_Lprime_above : MonFS sp_Lprime_above := fun ds tk Q Q' hq_ hs_ => by
  obtain ⟨n, e_, h0, q_⟩ := op_Lprime_above hs_
  unfold sp_Lprime_above
  exact ⟨n, e_, h0, fun m a b => hq_ _ _ (q_ m a b)⟩
theorem len_Lprime_above : ∀ ds tk Q, sp_Lprime_above ds tk Q → ds.length = 1 := fun ds tk Q hs_ => by
  obtain ⟨n, e_, h0, q_⟩ := op_Lprime_above hs_
  rw [e_]; rfl
theorem cl_Lprime_above {tk : Tk} {Q : EV → Tk → Prop} {n : Nat} (h0 : n < 2 ^ 50) (q_ : ∀ (m : Nat), ∀ (a : 2 ≤ m), ∀ (b : m ≤ n + 300), Q (.val (.int (m : Int))) tk) : sp_Lprime_above [.int (n : Int)] tk Q := by
  unfold sp_Lprime_above
  exact ⟨n, rfl, h0, q_⟩
theorem ce_Lprime_above {ds_ : List D} {tk : Tk} {Q : EV → Tk → Prop} {n : Nat} (h0 : n < 2 ^ 50) (e_ : ds_ = [.int (n : Int)]) (q_ : ∀ (m : Nat), ∀ (a : 2 ≤ m), ∀ (b : m ≤ n + 300), Q (.val (.int (m : Int))) tk) : sp_Lprime_above ds_ tk Q := by
  subst e_
  unfold sp_Lprime_above
  exact ⟨n, rfl, h0, q_⟩
abbrev N_Lprime_above : List Str := ["_law_n", "_law_k"]
def c_Lprime_above : WS :=
  (wSeq (wFor (wR1 (fz (wC (.int 300)))) (gN 1) (wIfS (wT (wCall sp_Lprime (wCons (fz (wOp fAdd (wPk 0) (wPk 1))) wNil))) (wRet (wOp fAdd (wPk 0) (wPk 1))) wNext))
  (wRet (wC (.int 2))))
theorem hw_Lprime_above : ∀ ds tk Q, sp_Lprime_above ds tk Q → c_Lprime_above { nx := fun _ t => Q (.val .non) t, rt := Q } (start N_Lprime_above.length ds) tk := by
  intro ds tk Q h_
  obtain ⟨n, rfl, h0, q⟩ := op_Lprime_above h_
  refine ⟨by decide, by decide, ?_⟩
  refine forGo_rng (fun i e t => t = tk ∧ ∃ x1 : Option EV, e = [some (.val (.int (n))), x1]) (fun i e t R hi hI hR => ?_) (fun e t hI => ?_) ⟨rfl, none, rfl⟩
  · obtain ⟨rfl, x1, rfl⟩ := hI
    have hi : i < 300 := hi
    have e1 : (n : Int) + (0 + (i : Int)) = ((n + i : Nat) : Int) := by omega
    refine ce_Lprime (n := n + i) (by omega) (by rw [e1]; rfl) ?_
    by_cases z : Pr (n + i)
    · rw [prB_t z]
      refine ifB rfl ?_
      have := q (n + i) z.1 (by omega)
      rw [← e1] at this
      exact this
    · rw [prB_f z]
      exact ifBF rfl (hR _ _ ⟨rfl, _, rfl⟩)
  · obtain ⟨rfl, x1, rfl⟩ := hI
    exact q 2 (by omega) (by omega)
/-! ### prime parts -/
def encP (l : List (Nat × Nat)) : List D := l.map fun x => .tup [.int (x.1 : Int), .int (x.2 : Int)]
/-- the state of the search: found, what is left, the next try -/
structure PpI (n : Nat) (l : List (Nat × Nat)) (m p : Nat) : Prop where
  pr : ∀ x ∈ l, Pr x.1 ∧ 1 ≤ x.2 ∧ x.1 < p
  asc : l.Pairwise (fun a b => a.1 < b.1)
  eq : prodP l * m = n
  no : ∀ d, 2 ≤ d → d < p → ¬ d ∣ m
  p2 : 2 ≤ p
  odd : p = 2 ∨ p % 2 = 1
  m0 : 0 < m
theorem ppI_pr {n m p : Nat} {l : List (Nat × Nat)} (h : PpI n l m p) (hd : p ∣ m) : Pr p := by
  refine ⟨h.p2, fun d hd' => ?_⟩
  have := Nat.le_of_dvd (by have := h.p2; omega) hd'
  by_cases z : d < p
  · have d0 : d ≠ 0 := fun e => by rw [e] at hd'; have := Nat.eq_zero_of_zero_dvd hd'; have := h.p2; omega
    by_cases z1 : d = 1
    · exact .inl z1
    · exact absurd (Nat.dvd_trans hd' hd) (h.no d (by omega) z)
  · exact .inr (by omega)
theorem ppI_next {n m m' p k : Nat} {l : List (Nat × Nat)} (h : PpI n l m p) (e : m = p ^ k * m') (hn : ¬ p ∣ m') (hk : 1 ≤ k) : PpI n (l ++ [(p, k)]) m' (p + 1 + p % 2) := by
  have hp : Pr p := ppI_pr h (by rw [e]; exact Nat.dvd_trans (dvd_pow_self' hk) (Nat.dvd_mul_right _ _))
  have m0 : 0 < m' := Nat.pos_of_ne_zero fun z => by have := h.m0; rw [e, z, Nat.mul_zero] at this; omega
  refine ⟨fun x hx => ?_, ?_, ?_, fun d d2 dl hd => ?_, by have := h.p2; omega, by have := h.odd; omega, m0⟩
  · rcases List.mem_append.mp hx with z | z
    · obtain ⟨a, b, c⟩ := h.pr x z
      exact ⟨a, b, by omega⟩
    · rw [List.mem_singleton] at z; subst z
      exact ⟨hp, hk, by show p < p + 1 + p % 2; omega⟩
  · rw [List.pairwise_append]
    refine ⟨h.asc, List.pairwise_singleton _ _, fun a ha b hb => ?_⟩
    rw [List.mem_singleton] at hb; subst hb
    exact (h.pr a ha).2.2
  · rw [prodP_app, ← h.eq, e]
    show prodP l * (p ^ k * 1) * m' = _
    rw [Nat.mul_one, Nat.mul_assoc]
  · have hd2 : d ∣ m := by rw [e]; exact Nat.dvd_trans hd (Nat.dvd_mul_left _ _)
    rcases Nat.lt_trichotomy d p with z | z | z
    · exact h.no d d2 z hd2
    · subst z; exact hn hd
    · have e2 : d = p + 1 ∧ p % 2 = 1 := by omega
      obtain ⟨rfl, e3⟩ := e2
      have h2 : (2 : Nat) ∣ p + 1 := ⟨(p + 1) / 2, by omega⟩
      exact h.no 2 (by omega) (by have := h.p2; omega) (Nat.dvd_trans h2 hd2)
theorem ppI_skip {n m p : Nat} {l : List (Nat × Nat)} (h : PpI n l m p) (hn : ¬ p ∣ m) : PpI n l m (p + 1 + p % 2) := by
  refine ⟨fun x hx => ?_, h.asc, h.eq, fun d d2 dl hd => ?_, by have := h.p2; omega, by have := h.odd; omega, h.m0⟩
  · obtain ⟨a, b, c⟩ := h.pr x hx
    exact ⟨a, b, by omega⟩
  · rcases Nat.lt_trichotomy d p with z | z | z
    · exact h.no d d2 z hd
    · subst z; exact hn hd
    · have e2 : d = p + 1 ∧ p % 2 = 1 := by omega
      obtain ⟨rfl, e3⟩ := e2
      have h2 : (2 : Nat) ∣ p + 1 := ⟨(p + 1) / 2, by omega⟩
      exact h.no 2 (by omega) (by have := h.p2; omega) (Nat.dvd_trans h2 hd)
theorem ppI_one {n p : Nat} {l : List (Nat × Nat)} (h : PpI n l 1 p) : Parts n l := ⟨fun x hx => ⟨(h.pr x hx).1, (h.pr x hx).2.1⟩, h.asc, by rw [← h.eq, Nat.mul_one]⟩
theorem ppI_end {n m p : Nat} {l : List (Nat × Nat)} (h : PpI n l m p) (m2 : 2 ≤ m) (hp : m < p * p) : Parts n (l ++ [(m, 1)]) := by
  have hm : Pr m := pr_of_small m2 h.no hp
  have mp : p ≤ m := Nat.le_of_not_lt fun z => h.no m m2 z (Nat.dvd_refl m)
  refine ⟨fun x hx => ?_, ?_, ?_⟩
  · rcases List.mem_append.mp hx with z | z
    · exact ⟨(h.pr x z).1, (h.pr x z).2.1⟩
    · rw [List.mem_singleton] at z; subst z
      exact ⟨hm, Nat.le_refl 1⟩
  · rw [List.pairwise_append]
    refine ⟨h.asc, List.pairwise_singleton _ _, fun a ha b hb => ?_⟩
    rw [List.mem_singleton] at hb; subst hb
    exact Nat.lt_of_lt_of_le (h.pr a ha).2.2 mp
  · rw [prodP_app, ← h.eq]
    show prodP l * (m ^ 1 * 1) = _
    rw [Nat.pow_one, Nat.mul_one]
theorem len_asc : ∀ {l : List (Nat × Nat)} {p : Nat}, (∀ x ∈ l, 2 ≤ x.1 ∧ 1 ≤ x.2) → 2 ^ l.length ≤ prodP l
  | [], _, _ => Nat.le_refl 1
  | x :: l, p, h => by
    have h1 := len_asc (l := l) (p := p) fun y hy => h y (List.mem_cons_of_mem _ hy)
    obtain ⟨a, b⟩ := h x List.mem_cons_self
    have h2 : 2 ≤ x.1 ^ x.2 := Nat.le_trans a (Nat.le_trans (Nat.le_of_eq (Nat.pow_one _).symm) (Nat.pow_le_pow_right (by omega) b))
    show 2 ^ (l.length + 1) ≤ x.1 ^ x.2 * prodP l
    rw [pow_s, Nat.mul_comm]
    exact Nat.mul_le_mul h2 h1
theorem prodP_of {l : List (Nat × Nat)} {n m : Nat} (e : prodP l * m = n) (m0 : 0 < m) : prodP l ≤ n := by rw [← e]; exact Nat.le_mul_of_pos_right _ m0
@[irreducible] def sp_prime_parts : FSpec := fun ds tk Q => ∃ (n : Nat), ds = [.int (n : Int)] ∧ (1 ≤ n) ∧ (n < 2 ^ 100) ∧ ∀ (l : List (Nat × Nat)), ∀ (a : Parts n l), Q (.own (encP l)) tk
theorem op_prime_parts {ds : List D} {tk : Tk} {Q : EV → Tk → Prop} (h : sp_prime_parts ds tk Q) : ∃ (n : Nat), ds = [.int (n : Int)] ∧ (1 ≤ n) ∧ (n < 2 ^ 100) ∧ ∀ (l : List (Nat × Nat)), ∀ (a : Parts n l), Q (.own (encP l)) tk := by unfold sp_prime_parts at h; exact h
theorem mon_prime_parts : MonFS sp_prime_parts := fun ds tk Q Q' hq_ hs_ => by
  obtain ⟨n, e_, h0, h1, q_⟩ := op_prime_parts hs_
  unfold sp_prime_parts
  exact ⟨n, e_, h0, h1, fun l a => hq_ _ _ (q_ l a)⟩
theorem len_prime_parts : ∀ ds tk Q, sp_prime_parts ds tk Q → ds.length = 1 := fun ds tk Q hs_ => by
  obtain ⟨n, e_, h0, h1, q_⟩ := op_prime_parts hs_
  rw [e_]; rfl
theorem cl_prime_parts {tk : Tk} {Q : EV → Tk → Prop} {n : Nat} (h0 : 1 ≤ n) (h1 : n < 2 ^ 100) (q_ : ∀ (l : List (Nat × Nat)), ∀ (a : Parts n l), Q (.own (encP l)) tk) : sp_prime_parts [.int (n : Int)] tk Q := by
  unfold sp_prime_parts
  exact ⟨n, rfl, h0, h1, q_⟩
theorem ce_prime_parts {ds_ : List D} {tk : Tk} {Q : EV → Tk → Prop} {n : Nat} (h0 : 1 ≤ n) (h1 : n < 2 ^ 100) (e_ : ds_ = [.int (n : Int)]) (q_ : ∀ (l : List (Nat × Nat)), ∀ (a : Parts n l), Q (.own (encP l)) tk) : sp_prime_parts ds_ tk Q := by
  subst e_
  unfold sp_prime_parts
  exact ⟨n, rfl, h0, h1, q_⟩
abbrev N_prime_parts : List Str := ["n", "found", "p", "k"]
def c_prime_parts : WS :=
  (wSeq (wSet 1 (wLst wNil))
  (wSeq (wSet 2 (wC (.int 2)))
  (wSeq (wWhile (wT (wOp fLe (fz (wOp fMul (wPk 2) (wPk 2))) (wPk 0))) (wSeq (wSet 3 (wC (.int 0)))
  (wSeq (wWhile (wT (wOp fEq (fz (wOp fMod (wPk 0) (wPk 2))) (fz (wC (.int 0))))) (wSeq (wSet 0 (wOp fDiv (wPk 0) (wPk 2)))
  (wSet 3 (wOp fAdd (wPk 3) (fz (wC (.int 1)))))))
  (wSeq (wIfS (wT (wOp fGt (wPk 3) (fz (wC (.int 0))))) (wApp 1 (fz (wTup (wCons (fz (wV 2)) (wCons (fz (wV 3)) wNil))))) wNext)
  (wSet 2 (wOp fAdd (fz (wOp fAdd (wPk 2) (fz (wC (.int 1))))) (fz (wOp fMod (wPk 2) (fz (wC (.int 2)))))))))))
  (wSeq (wIfS (wT (wOp fGt (wPk 0) (fz (wC (.int 1))))) (wApp 1 (fz (wTup (wCons (fz (wV 0)) (wCons (fz (wC (.int 1))) wNil))))) wNext)
  (wRetV 1)))))
theorem hw_prime_parts : ∀ ds tk Q, sp_prime_parts ds tk Q → c_prime_parts { nx := fun _ t => Q (.val .non) t, rt := Q } (start N_prime_parts.length ds) tk := by
  intro ds tk Q h_
  obtain ⟨n, rfl, h0, h1, q⟩ := op_prime_parts h_
  have len_ok : ∀ {l : List (Nat × Nat)} {m p : Nat}, PpI n l m p → (encP l).length < sizeLine := fun {l m p} h => by
    unfold encP
    rw [List.length_map]
    have a := len_asc (l := l) (p := 0) fun x hx => ⟨(h.pr x hx).1.1, (h.pr x hx).2.1⟩
    have b := prodP_of h.eq h.m0
    have : 2 ^ l.length < 2 ^ 100 := Nat.lt_of_le_of_lt (Nat.le_trans a b) h1
    have := (Nat.pow_lt_pow_iff_right (a := 2) (by decide)).mp this
    exact szl (by omega)
  have le_n : ∀ {l : List (Nat × Nat)} {m p : Nat}, PpI n l m p → m ≤ n := fun {l m p} h => by
    rw [← h.eq]
    exact Nat.le_mul_of_pos_left _ (prodP_pos fun x hx => ⟨(h.pr x hx).1, (h.pr x hx).2.1⟩)
  have hsn : ∀ {x : Nat}, x ≤ n → Sm 100 (x : Int) := fun {x} h => by unfold Sm; rw [Int.natAbs_natCast]; exact Nat.lt_of_le_of_lt h h1
  refine ⟨rfl, ?_⟩
  refine ⟨fun μ e t => t = tk ∧ ∃ (l : List (Nat × Nat)) (m p : Nat) (x3 : Option EV), PpI n l m p ∧ p ≤ n + 3 ∧ μ = m - p ∧ e = [some (.val (.int (m))), some (.own (encP l)), some (.val (.int (p))), x3], ⟨_, rfl, [], n, 2, none, ⟨(fun x hx => nomatch hx), List.Pairwise.nil, by show 1 * n = n; omega, fun d a b => by omega, by omega, .inl rfl, h0⟩, by omega, rfl, rfl⟩, ?_⟩
  rintro μ e t ⟨rfl, l, m, p, x3, I, hpn, rfl, rfl⟩
  have sp : Sm 110 (p : Int) := by unfold Sm; rw [Int.natAbs_natCast]; have : (2 : Nat) ^ 100 + 3 ≤ 2 ^ 110 := by decide
                                   omega
  refine ⟨by walk_at "sd", ?_⟩
  have p2 := I.p2
  refine if2 (fun hz => ?_) (fun hz => ?_)
  · have hz : p * p ≤ m := by have : ((p * p : Nat) : Int) ≤ m := by rw [Int.natCast_mul]; exact hz
                              omega
    have pm : p < m := Nat.lt_of_lt_of_le (by have := Nat.mul_le_mul_right p p2; omega) hz
    refine ⟨fun ν e t' => t' = t ∧ ∃ (k m' : Nat), m = p ^ k * m' ∧ 0 < m' ∧ m' = ν ∧ e = [some (.val (.int (m'))), some (.own (encP l)), some (.val (.int (p))), some (.val (.int (k)))], ⟨_, rfl, 0, m, by rw [Nat.pow_zero, Nat.one_mul], I.m0, rfl, rfl⟩, ?_⟩
    rintro ν e t' ⟨rfl, k, m', em, m0', rfl, rfl⟩
    refine ⟨by omega, ?_⟩
    refine if2 (fun hd => ?_) (fun hd => ?_)
    · have hd := mod_iff.mp hd
      obtain ⟨b, rfl⟩ := hd
      have b0 : 0 < b := Nat.pos_of_ne_zero fun z => by rw [z, Nat.mul_zero] at m0'; omega
      refine ⟨by walk_at "sd", ?_⟩
      refine ⟨b, by have := Nat.mul_le_mul_right b p2; omega, rfl, k + 1, b, by rw [em, pow_s]; grind, b0, rfl, ?_⟩
      have ed : ((p * b : Nat) : Int).fdiv (p : Int) = (b : Int) := by rw [fdiv_nat, Nat.mul_div_cancel_left _ (show 0 < p by omega)]
      rw [← ed]
      rfl
    · have hd : ¬ p ∣ m' := fun w => hd (mod_iff.mpr w)
      have e5 : ((p : Int) + 1 + ((p : Int)).fmod 2) = ((p + 1 + p % 2 : Nat) : Int) := by rw [show (2 : Int) = ((2 : Nat) : Int) from rfl, fmod_natN]; omega
      have m'm : m' ≤ m := by rw [em]; exact Nat.le_mul_of_pos_left _ (Nat.pow_pos (by omega))
      refine if2 (fun hk => ?_) (fun hk => ?_)
      · have J := ppI_next I em hd (by omega)
        refine ⟨rfl, len_ok I, by walk_at "sd", ?_⟩
        refine ⟨m' - (p + 1 + p % 2), by omega, rfl, l ++ [(p, k)], m', p + 1 + p % 2, some (.val (.int k)), J, by have := le_n I; omega, rfl, ?_⟩
        rw [← e5]
        unfold encP
        rw [List.map_append]
        rfl
      · have k0 : k = 0 := by omega
        subst k0
        rw [Nat.pow_zero, Nat.one_mul] at em
        subst em
        have J := ppI_skip I hd
        refine ⟨by walk_at "sd", ?_⟩
        refine ⟨m - (p + 1 + p % 2), by omega, rfl, l, m, p + 1 + p % 2, some (.val (.int 0)), J, by have := le_n I; omega, rfl, ?_⟩
        rw [← e5]
        rfl
  · have hz : m < p * p := by have : ¬ ((p * p : Nat) : Int) ≤ m := by rw [Int.natCast_mul]; exact hz
                              omega
    refine if2 (fun h1 => ?_) (fun h1 => ?_)
    · refine ⟨rfl, len_ok I, ?_⟩
      have := q _ (ppI_end I (by omega) hz)
      unfold encP at this
      rw [List.map_append] at this
      exact this
    · have m1 : m = 1 := by have := I.m0; omega
      subst m1
      exact q _ (ppI_one I)
end DL
set_option maxHeartbeats 1000000
set_option pp.maxSteps 1200
namespace DL
open PySem PySem.Spec PyProof.Rows L2
/-! ### forms: values, changes -/
abbrev QB : Nat := 1000
abbrev VB : Nat := 130000
theorem q1 {x y : Int} {k j : Nat} (h : Sm k x) (h' : Sm j y) (hk : k ≤ 480000 := by decide) (hj : j ≤ 480000 := by decide) : MulOk x y := h.mulOk h' (by omega) (by omega)
theorem s2 : Sm 2 2 := show (2 : Int).natAbs < 2 ^ 2 by decide
theorem s4 : Sm 3 4 := show (4 : Int).natAbs < 2 ^ 3 by decide
def F3.worth (m : F3) (v : P2) : Int := m.a * v.x * v.x + m.b * v.x * v.y + m.c * v.y * v.y
def F3.act (f : F3) (m : M4) : F3 := ⟨f.worth ⟨m.p, m.r⟩, 2 * f.a * m.p * m.q + f.b * (m.p * m.s + m.q * m.r) + 2 * f.c * m.r * m.s, f.worth ⟨m.q, m.s⟩⟩
def F3.disc (f : F3) : Int := f.b * f.b - 4 * f.a * f.c
def F3.Lact (f : F3) (m : M4) : F3 := ⟨f.worth ⟨m.p, m.r⟩, f.worth ⟨m.p + m.q, m.r + m.s⟩ - f.worth ⟨m.p, m.r⟩ - f.worth ⟨m.q, m.s⟩, f.worth ⟨m.q, m.s⟩⟩
theorem F3.ext {f g : F3} (h1 : f.a = g.a) (h2 : f.b = g.b) (h3 : f.c = g.c) : f = g := by cases f; cases g; simp only at h1 h2 h3; subst h1 h2 h3; rfl
theorem F3.lact_eq (f : F3) (m : M4) : f.Lact m = f.act m := by
  apply F3.ext
  · rfl
  · unfold F3.Lact F3.act F3.worth; dsimp only; grind
  · rfl
@[irreducible] def sp_discriminant : FSpec := fun ds tk Q => ∃ (f : F3), ds = [f.D] ∧ (f.Sm QB) ∧ Q (.val (.int f.disc)) tk
theorem op_discriminant {ds : List D} {tk : Tk} {Q : EV → Tk → Prop} (h : sp_discriminant ds tk Q) : ∃ (f : F3), ds = [f.D] ∧ (f.Sm QB) ∧ Q (.val (.int f.disc)) tk := by unfold sp_discriminant at h; exact h
theorem mon_discriminant : MonFS sp_discriminant := fun ds tk Q Q' hq_ hs_ => by
  obtain ⟨f, e_, hf, q_⟩ := op_discriminant hs_
  unfold sp_discriminant
  exact ⟨f, e_, hf, hq_ _ _ q_⟩
theorem len_discriminant : ∀ ds tk Q, sp_discriminant ds tk Q → ds.length = 1 := fun ds tk Q hs_ => by
  obtain ⟨f, e_, hf, q_⟩ := op_discriminant hs_
  rw [e_]; rfl
theorem cl_discriminant {tk : Tk} {Q : EV → Tk → Prop} {f : F3} (hf : f.Sm QB) (q_ : Q (.val (.int f.disc)) tk) : sp_discriminant [f.D] tk Q := by
  unfold sp_discriminant
  exact ⟨f, rfl, hf, q_⟩
theorem ce_discriminant {ds_ : List D} {tk : Tk} {Q : EV → Tk → Prop} {f : F3} (hf : f.Sm QB) (e_ : ds_ = [f.D]) (q_ : Q (.val (.int f.disc)) tk) : sp_discriminant ds_ tk Q := by
  subst e_
  unfold sp_discriminant
  exact ⟨f, rfl, hf, q_⟩
abbrev N_discriminant : List Str := ["form"]
def c_discriminant : WS :=
  (wRet (wOp fSub (fz (wOp fMul (fz (wOp fIdx (wPk 0) (fz (wC (.int 1))))) (fz (wOp fIdx (wPk 0) (fz (wC (.int 1))))))) (fz (wOp fMul (fz (wOp fMul (fz (wC (.int 4))) (fz (wOp fIdx (wPk 0) (fz (wC (.int 0))))))) (fz (wOp fIdx (wPk 0) (fz (wC (.int 2)))))))))
theorem hw_discriminant : ∀ ds tk Q, sp_discriminant ds tk Q → c_discriminant { nx := fun _ t => Q (.val .non) t, rt := Q } (start N_discriminant.length ds) tk := by
  intro ds tk Q h_
  obtain ⟨f, rfl, hf, q⟩ := op_discriminant h_
  obtain ⟨a1, a2, a3⟩ := hf
  exact ⟨q1 a2 a2, q1 s4 a1, q1 (s4.mul a1) a3, q⟩
@[irreducible] def sp_worth : FSpec := fun ds tk Q => ∃ (f : F3) (v : P2), ds = [f.D, v.D] ∧ (f.Sm QB) ∧ (v.Sm VB) ∧ Q (.val (.int (f.worth v))) tk
theorem op_worth {ds : List D} {tk : Tk} {Q : EV → Tk → Prop} (h : sp_worth ds tk Q) : ∃ (f : F3) (v : P2), ds = [f.D, v.D] ∧ (f.Sm QB) ∧ (v.Sm VB) ∧ Q (.val (.int (f.worth v))) tk := by unfold sp_worth at h; exact h
theorem mon_worth : MonFS sp_worth := fun ds tk Q Q' hq_ hs_ => by
  obtain ⟨f, v, e_, hf, hv, q_⟩ := op_worth hs_
  unfold sp_worth
  exact ⟨f, v, e_, hf, hv, hq_ _ _ q_⟩
theorem len_worth : ∀ ds tk Q, sp_worth ds tk Q → ds.length = 2 := fun ds tk Q hs_ => by
  obtain ⟨f, v, e_, hf, hv, q_⟩ := op_worth hs_
  rw [e_]; rfl
theorem cl_worth {tk : Tk} {Q : EV → Tk → Prop} {f : F3} {v : P2} (hf : f.Sm QB) (hv : v.Sm VB) (q_ : Q (.val (.int (f.worth v))) tk) : sp_worth [f.D, v.D] tk Q := by
  unfold sp_worth
  exact ⟨f, v, rfl, hf, hv, q_⟩
theorem ce_worth {ds_ : List D} {tk : Tk} {Q : EV → Tk → Prop} {f : F3} {v : P2} (hf : f.Sm QB) (hv : v.Sm VB) (e_ : ds_ = [f.D, v.D]) (q_ : Q (.val (.int (f.worth v))) tk) : sp_worth ds_ tk Q := by
  subst e_
  unfold sp_worth
  exact ⟨f, v, rfl, hf, hv, q_⟩
abbrev N_worth : List Str := ["form", "point", "x", "y"]
def c_worth : WS :=
  (wSeq (wAsg (fz (wV 1)) (gT 2 (gCs (gN 2) (gCs (gN 3) gNl))))
  (wRet (wOp fAdd (fz (wOp fAdd (fz (wOp fMul (fz (wOp fMul (fz (wOp fIdx (wPk 0) (fz (wC (.int 0))))) (wPk 2))) (wPk 2))) (fz (wOp fMul (fz (wOp fMul (fz (wOp fIdx (wPk 0) (fz (wC (.int 1))))) (wPk 2))) (wPk 3))))) (fz (wOp fMul (fz (wOp fMul (fz (wOp fIdx (wPk 0) (fz (wC (.int 2))))) (wPk 3))) (wPk 3))))))
theorem hw_worth : ∀ ds tk Q, sp_worth ds tk Q → c_worth { nx := fun _ t => Q (.val .non) t, rt := Q } (start N_worth.length ds) tk := by
  intro ds tk Q h_
  obtain ⟨f, v, rfl, hf, hv, q⟩ := op_worth h_
  obtain ⟨a1, a2, a3⟩ := hf
  obtain ⟨b1, b2⟩ := hv
  exact ⟨rfl, q1 a1 b1, q1 (a1.mul b1) b1, q1 a2 b1, q1 (a2.mul b1) b2, q1 a3 b2, q1 (a3.mul b2) b2, q⟩
@[irreducible] def sp_act : FSpec := fun ds tk Q => ∃ (f : F3) (m : M4), ds = [f.D, m.D] ∧ (f.Sm QB) ∧ (m.Sm VB) ∧ Q (.val (f.act m).D) tk
theorem op_act {ds : List D} {tk : Tk} {Q : EV → Tk → Prop} (h : sp_act ds tk Q) : ∃ (f : F3) (m : M4), ds = [f.D, m.D] ∧ (f.Sm QB) ∧ (m.Sm VB) ∧ Q (.val (f.act m).D) tk := by unfold sp_act at h; exact h
theorem mon_act : MonFS sp_act := fun ds tk Q Q' hq_ hs_ => by
  obtain ⟨f, m, e_, hf, hm, q_⟩ := op_act hs_
  unfold sp_act
  exact ⟨f, m, e_, hf, hm, hq_ _ _ q_⟩
theorem len_act : ∀ ds tk Q, sp_act ds tk Q → ds.length = 2 := fun ds tk Q hs_ => by
  obtain ⟨f, m, e_, hf, hm, q_⟩ := op_act hs_
  rw [e_]; rfl
theorem cl_act {tk : Tk} {Q : EV → Tk → Prop} {f : F3} {m : M4} (hf : f.Sm QB) (hm : m.Sm VB) (q_ : Q (.val (f.act m).D) tk) : sp_act [f.D, m.D] tk Q := by
  unfold sp_act
  exact ⟨f, m, rfl, hf, hm, q_⟩
theorem ce_act {ds_ : List D} {tk : Tk} {Q : EV → Tk → Prop} {f : F3} {m : M4} (hf : f.Sm QB) (hm : m.Sm VB) (e_ : ds_ = [f.D, m.D]) (q_ : Q (.val (f.act m).D) tk) : sp_act ds_ tk Q := by
  subst e_
  unfold sp_act
  exact ⟨f, m, rfl, hf, hm, q_⟩
abbrev N_act : List Str := ["form", "m", "p", "q", "r", "s", "middle"]
def c_act : WS :=
  (wSeq (wAsg (fz (wV 1)) (gT 4 (gCs (gN 2) (gCs (gN 3) (gCs (gN 4) (gCs (gN 5) gNl))))))
  (wSeq (wSet 6 (wOp fAdd (fz (wOp fAdd (fz (wOp fMul (fz (wOp fMul (fz (wOp fMul (fz (wC (.int 2))) (fz (wOp fIdx (wPk 0) (fz (wC (.int 0))))))) (wPk 2))) (wPk 3))) (fz (wOp fMul (fz (wOp fIdx (wPk 0) (fz (wC (.int 1))))) (fz (wOp fAdd (fz (wOp fMul (wPk 2) (wPk 5))) (fz (wOp fMul (wPk 3) (wPk 4))))))))) (fz (wOp fMul (fz (wOp fMul (fz (wOp fMul (fz (wC (.int 2))) (fz (wOp fIdx (wPk 0) (fz (wC (.int 2))))))) (wPk 4))) (wPk 5)))))
  (wRet (wTup (wCons (fz (wCall sp_worth (wCons (fz (wV 0)) (wCons (fz (wTup (wCons (fz (wV 2)) (wCons (fz (wV 4)) wNil)))) wNil)))) (wCons (fz (wV 6)) (wCons (fz (wCall sp_worth (wCons (fz (wV 0)) (wCons (fz (wTup (wCons (fz (wV 3)) (wCons (fz (wV 5)) wNil)))) wNil)))) wNil)))))))
theorem hw_act : ∀ ds tk Q, sp_act ds tk Q → c_act { nx := fun _ t => Q (.val .non) t, rt := Q } (start N_act.length ds) tk := by
  intro ds tk Q h_
  obtain ⟨f, m, rfl, hf, hm, q⟩ := op_act h_
  have hf' := hf
  obtain ⟨a1, a2, a3⟩ := hf
  obtain ⟨b1, b2, b3, b4⟩ := hm
  refine ⟨rfl, q1 s2 a1, q1 (s2.mul a1) b1, q1 ((s2.mul a1).mul b1) b2, q1 b1 b4, q1 b2 b3, q1 a2 ((b1.mul b4).add (b2.mul b3)), q1 s2 a3, q1 (s2.mul a3) b3, q1 ((s2.mul a3).mul b3) b4, rfl, ?_⟩
  refine cl_worth (f := f) (v := ⟨m.p, m.r⟩) hf' ⟨b1, b3⟩ ?_
  refine ⟨rfl, ?_⟩
  refine cl_worth (f := f) (v := ⟨m.q, m.s⟩) hf' ⟨b2, b4⟩ ?_
  exact ⟨rfl, q⟩
@[irreducible] def sp_Lworth_v1 : FSpec := fun ds tk Q => ∃ (f : F3) (v : P2), ds = [f.D, .int v.x, .int v.y] ∧ (f.Sm QB) ∧ (v.Sm (VB + 1)) ∧ Q (.val (.int (f.worth v))) tk
theorem op_Lworth_v1 {ds : List D} {tk : Tk} {Q : EV → Tk → Prop} (h : sp_Lworth_v1 ds tk Q) : ∃ (f : F3) (v : P2), ds = [f.D, .int v.x, .int v.y] ∧ (f.Sm QB) ∧ (v.Sm (VB + 1)) ∧ Q (.val (.int (f.worth v))) tk := by unfold sp_Lworth_v1 at h; exact h
theorem mon_Lworth_v1 : MonFS sp_Lworth_v1 := fun ds tk Q Q' hq_ hs_ => by
  obtain ⟨f, v, e_, hf, hv, q_⟩ := op_Lworth_v1 hs_
  unfold sp_Lworth_v1
  exact ⟨f, v, e_, hf, hv, hq_ _ _ q_⟩
theorem len_Lworth_v1 : ∀ ds tk Q, sp_Lworth_v1 ds tk Q → ds.length = 3 := fun ds tk Q hs_ => by
  obtain ⟨f, v, e_, hf, hv, q_⟩ := op_Lworth_v1 hs_
  rw [e_]; rfl
theorem cl_Lworth_v1 {tk : Tk} {Q : EV → Tk → Prop} {f : F3} {v : P2} (hf : f.Sm QB) (hv : v.Sm (VB + 1)) (q_ : Q (.val (.int (f.worth v))) tk) : sp_Lworth_v1 [f.D, .int v.x, .int v.y] tk Q := by
  unfold sp_Lworth_v1
  exact ⟨f, v, rfl, hf, hv, q_⟩
theorem ce_Lworth_v1 {ds_ : List D} {tk : Tk} {Q : EV → Tk → Prop} {f : F3} {v : P2} (hf : f.Sm QB) (hv : v.Sm (VB + 1)) (e_ : ds_ = [f.D, .int v.x, .int v.y]) (q_ : Q (.val (.int (f.worth v))) tk) : sp_Lworth_v1 ds_ tk Q := by
  subst e_
  unfold sp_Lworth_v1
  exact ⟨f, v, rfl, hf, hv, q_⟩
abbrev N_Lworth_v1 : List Str := ["_law_form_here", "_law_x", "_law_y"]
def c_Lworth_v1 : WS :=
  (wRet (wOp fAdd (fz (wOp fAdd (fz (wOp fMul (fz (wOp fMul (fz (wOp fIdx (wPk 0) (fz (wC (.int 0))))) (wPk 1))) (wPk 1))) (fz (wOp fMul (fz (wOp fMul (fz (wOp fIdx (wPk 0) (fz (wC (.int 1))))) (wPk 1))) (wPk 2))))) (fz (wOp fMul (fz (wOp fMul (fz (wOp fIdx (wPk 0) (fz (wC (.int 2))))) (wPk 2))) (wPk 2)))))
theorem hw_Lworth_v1 : ∀ ds tk Q, sp_Lworth_v1 ds tk Q → c_Lworth_v1 { nx := fun _ t => Q (.val .non) t, rt := Q } (start N_Lworth_v1.length ds) tk := by
  intro ds tk Q h_
  obtain ⟨f, v, rfl, hf, hv, q⟩ := op_Lworth_v1 h_
  obtain ⟨a1, a2, a3⟩ := hf
  obtain ⟨b1, b2⟩ := hv
  exact ⟨q1 a1 b1, q1 (a1.mul b1) b1, q1 a2 b1, q1 (a2.mul b1) b2, q1 a3 b2, q1 (a3.mul b2) b2, q⟩
@[irreducible] def sp_Lact_v1 : FSpec := fun ds tk Q => ∃ (f : F3) (m : M4), ds = [f.D, m.D] ∧ (f.Sm QB) ∧ (m.Sm VB) ∧ Q (.val (f.act m).D) tk
theorem op_Lact_v1 {ds : List D} {tk : Tk} {Q : EV → Tk → Prop} (h : sp_Lact_v1 ds tk Q) : ∃ (f : F3) (m : M4), ds = [f.D, m.D] ∧ (f.Sm QB) ∧ (m.Sm VB) ∧ Q (.val (f.act m).D) tk := by unfold sp_Lact_v1 at h; exact h
theorem mon_Lact_v1 : MonFS sp_Lact_v1 := fun ds tk Q Q' hq_ hs_ => by
  obtain ⟨f, m, e_, hf, hm, q_⟩ := op_Lact_v1 hs_
  unfold sp_Lact_v1
  exact ⟨f, m, e_, hf, hm, hq_ _ _ q_⟩
theorem len_Lact_v1 : ∀ ds tk Q, sp_Lact_v1 ds tk Q → ds.length = 2 := fun ds tk Q hs_ => by
  obtain ⟨f, m, e_, hf, hm, q_⟩ := op_Lact_v1 hs_
  rw [e_]; rfl
theorem cl_Lact_v1 {tk : Tk} {Q : EV → Tk → Prop} {f : F3} {m : M4} (hf : f.Sm QB) (hm : m.Sm VB) (q_ : Q (.val (f.act m).D) tk) : sp_Lact_v1 [f.D, m.D] tk Q := by
  unfold sp_Lact_v1
  exact ⟨f, m, rfl, hf, hm, q_⟩
theorem ce_Lact_v1 {ds_ : List D} {tk : Tk} {Q : EV → Tk → Prop} {f : F3} {m : M4} (hf : f.Sm QB) (hm : m.Sm VB) (e_ : ds_ = [f.D, m.D]) (q_ : Q (.val (f.act m).D) tk) : sp_Lact_v1 ds_ tk Q := by
  subst e_
  unfold sp_Lact_v1
  exact ⟨f, m, rfl, hf, hm, q_⟩
abbrev N_Lact_v1 : List Str := ["_law_form_here", "_law_m", "_law_first", "_law_last"]
def c_Lact_v1 : WS :=
  (wSeq (wSet 2 (wCall sp_Lworth_v1 (wCons (fz (wV 0)) (wCons (fz (wOp fIdx (wPk 1) (fz (wC (.int 0))))) (wCons (fz (wOp fIdx (wPk 1) (fz (wC (.int 2))))) wNil)))))
  (wSeq (wSet 3 (wCall sp_Lworth_v1 (wCons (fz (wV 0)) (wCons (fz (wOp fIdx (wPk 1) (fz (wC (.int 1))))) (wCons (fz (wOp fIdx (wPk 1) (fz (wC (.int 3))))) wNil)))))
  (wRet (wTup (wCons (fz (wV 2)) (wCons (fz (wOp fSub (fz (wOp fSub (fz (wCall sp_Lworth_v1 (wCons (fz (wV 0)) (wCons (fz (wOp fAdd (fz (wOp fIdx (wPk 1) (fz (wC (.int 0))))) (fz (wOp fIdx (wPk 1) (fz (wC (.int 1))))))) (wCons (fz (wOp fAdd (fz (wOp fIdx (wPk 1) (fz (wC (.int 2))))) (fz (wOp fIdx (wPk 1) (fz (wC (.int 3))))))) wNil))))) (wPk 2))) (wPk 3))) (wCons (fz (wV 3)) wNil)))))))
theorem hw_Lact_v1 : ∀ ds tk Q, sp_Lact_v1 ds tk Q → c_Lact_v1 { nx := fun _ t => Q (.val .non) t, rt := Q } (start N_Lact_v1.length ds) tk := by
  intro ds tk Q h_
  obtain ⟨f, m, rfl, hf, hm, q⟩ := op_Lact_v1 h_
  obtain ⟨b1, b2, b3, b4⟩ := hm
  have up : ∀ {x : Int}, Sm VB x → Sm (VB + 1) x := fun h => h.mono (by decide)
  refine cl_Lworth_v1 (f := f) (v := ⟨m.p, m.r⟩) hf ⟨up b1, up b3⟩ ?_
  refine cl_Lworth_v1 (f := f) (v := ⟨m.q, m.s⟩) hf ⟨up b2, up b4⟩ ?_
  refine cl_Lworth_v1 (f := f) (v := ⟨m.p + m.q, m.r + m.s⟩) hf ⟨b1.add b2, b3.add b4⟩ ?_
  refine ⟨rfl, ?_⟩
  rw [← F3.lact_eq] at q
  exact q
end DL
set_option maxHeartbeats 1000000
namespace DL
open PySem PySem.Spec PyProof.Rows L2
/-! ### the continued fraction of a root: states, parts, convergents -/
theorem p2e {u v : P2} (h1 : u.x = v.x) (h2 : u.y = v.y) : u = v := by cases u; cases v; simp only at h1 h2; subst h1 h2; rfl
instance (f g : P2) : Decidable (f = g) := decidable_of_iff (f.x = g.x ∧ f.y = g.y) ⟨fun h => p2e h.1 h.2, fun h => by subst h; exact ⟨rfl, rfl⟩⟩
/-- w is the root of d -/
structure RootOf (d w : Int) : Prop where
  w0 : 0 < w
  lo : w * w < d
  hi : d < (w + 1) * (w + 1)
def cfA (w : Int) (s : P2) : Int := (s.x + w).fdiv s.y
def cfP (w : Int) (s : P2) : Int := cfA w s * s.y - s.x
def cfS (d w : Int) (s : P2) : P2 := ⟨cfP w s, (d - cfP w s * cfP w s).fdiv s.y⟩
structure RedSt (d w : Int) (s : P2) : Prop where
  p0 : 0 < s.x
  p1 : s.x ≤ w
  q0 : 0 < s.y
  lo : w - s.x < s.y
  hi : s.y ≤ w + s.x
  dv : ∃ r, d - s.x * s.x = s.y * r
theorem mul_lt_cancel {a b c : Int} (c0 : 0 < c) (h : c * a < c * b) : a < b := Int.lt_of_mul_lt_mul_left h (Int.le_of_lt c0)
theorem cfA_le {w : Int} {s : P2} (q0 : 0 < s.y) : cfA w s * s.y ≤ s.x + w ∧ s.x + w < cfA w s * s.y + s.y := by
  unfold cfA
  have e := Int.mul_fdiv_add_fmod (s.x + w) s.y
  have l := Int.fmod_nonneg_of_pos (s.x + w) q0
  have u := Int.fmod_lt_of_pos (s.x + w) q0
  have c := Int.mul_comm s.y ((s.x + w).fdiv s.y)
  omega
/-- the sizes of what stands before and behind: Q R = d - P P -/
theorem side_lo {d w P Q R : Int} (hr : RootOf d w) (e : Q * R = d - P * P) (q0 : 0 < Q) (p1 : P ≤ w) (pn : -w ≤ P) (hi : Q ≤ w + P) : w - P < R := by
  refine Int.not_le.mp fun z => ?_
  have k1 : Q * R ≤ Q * (w - P) := Int.mul_le_mul_of_nonneg_left z (by omega)
  have k2 : Q * (w - P) ≤ (w + P) * (w - P) := Int.mul_le_mul_of_nonneg_right hi (by omega)
  have e2 : (w + P) * (w - P) = w * w - P * P := by grind
  have := hr.lo
  omega
theorem side_hi {d w P Q R : Int} (hr : RootOf d w) (e : Q * R = d - P * P) (q0 : 0 < Q) (p1 : P ≤ w) (pn : -w ≤ P) (lo : w - P < Q) : R ≤ w + P := by
  refine Int.not_lt.mp fun z => ?_
  have k1 : Q * (w + P + 1) ≤ Q * R := Int.mul_le_mul_of_nonneg_left (by omega) (by omega)
  have k2 : (w - P + 1) * (w + P + 1) ≤ Q * (w + P + 1) := Int.mul_le_mul_of_nonneg_right (by omega) (by omega)
  have e2 : (w - P + 1) * (w + P + 1) = (w + 1) * (w + 1) - P * P := by grind
  have := hr.hi
  omega
theorem pos_of {d w P Q R : Int} (hr : RootOf d w) (e : Q * R = d - P * P) (q0 : 0 < Q) (p1 : P ≤ w) (pn : -w ≤ P) : 0 < R := by
  have h1 : P * P ≤ w * w := by
    have : 0 ≤ (w - P) * (w + P) := Int.mul_nonneg (by omega) (by omega)
    have e2 : (w - P) * (w + P) = w * w - P * P := by grind
    omega
  have := hr.lo
  refine Int.not_le.mp fun z => ?_
  have : Q * R ≤ Q * 0 := Int.mul_le_mul_of_nonneg_left z (by omega)
  omega
/-- a step: its parts -/
theorem cf_step {d w : Int} {s : P2} (q0 : s.y ≠ 0) (dv : ∃ r, d - s.x * s.x = s.y * r) : s.y * (cfS d w s).y = d - cfP w s * cfP w s := by
  obtain ⟨r, hr⟩ := dv
  show s.y * (d - cfP w s * cfP w s).fdiv s.y = _
  have e : d - cfP w s * cfP w s = s.y * (r - cfA w s * cfA w s * s.y + 2 * cfA w s * s.x) := by
    unfold cfP
    grind
  rw [e, Int.mul_fdiv_cancel_left _ q0]
theorem red_step {d w : Int} (hr : RootOf d w) {s : P2} (h : RedSt d w s) : RedSt d w (cfS d w s) ∧ 1 ≤ cfA w s ∧ cfA w s ≤ 2 * w := by
  obtain ⟨p0, p1, q0, lo, hi, dv⟩ := h
  obtain ⟨a1, a2⟩ := cfA_le (w := w) q0
  have e := cf_step (w := w) (by omega) dv
  have hp : cfP w s = cfA w s * s.y - s.x := rfl
  have A1 : 1 ≤ cfA w s := by
    refine Int.not_lt.mp fun z => ?_
    have : cfA w s * s.y ≤ 0 * s.y := Int.mul_le_mul_of_nonneg_right (by omega) (by omega)
    omega
  have A2 : s.y ≤ cfA w s * s.y := by
    have : 1 * s.y ≤ cfA w s * s.y := Int.mul_le_mul_of_nonneg_right A1 (by omega)
    omega
  have A3 : cfA w s ≤ cfA w s * s.y := by
    have : cfA w s * 1 ≤ cfA w s * s.y := Int.mul_le_mul_of_nonneg_left (by omega) (by omega)
    omega
  have P0 : 0 < cfP w s := by
    rcases Int.le_total s.y w with z | z <;> omega
  have P1 : cfP w s ≤ w := by omega
  have R0 := pos_of hr e q0 P1 (by omega)
  have s1 := side_lo hr e q0 P1 (by omega) (by omega)
  have s2 := side_hi hr e q0 P1 (by omega) (by omega)
  exact ⟨⟨P0, P1, R0, s1, s2, ⟨s.y, e.symm.trans (Int.mul_comm _ _)⟩⟩, A1, by omega⟩
theorem red_back {d w : Int} (hr : RootOf d w) {s t : P2} (hs : RedSt d w s) (ht : RedSt d w t) (e : cfS d w s = cfS d w t) : s = t := by
  have es := cf_step (w := w) (by have := hs.q0; omega) hs.dv
  have et := cf_step (w := w) (by have := ht.q0; omega) ht.dv
  have ep : cfP w s = cfP w t := congrArg P2.x e
  have eq : (cfS d w s).y = (cfS d w t).y := congrArg P2.y e
  have r0 := (red_step hr hs).1.q0
  rw [eq] at es r0
  rw [ep] at es
  have ey : s.y = t.y := Int.eq_of_mul_eq_mul_right (by omega) (es.trans et.symm)
  have hp : cfP w s = cfA w s * s.y - s.x := rfl
  have hq : cfP w t = cfA w t * t.y - t.x := rfl
  rw [ey] at hp
  have k : (cfA w s - cfA w t) * t.y = s.x - t.x := by grind
  obtain ⟨p0, p1, q0, lo, hi, dv⟩ := hs
  obtain ⟨p0', p1', q0', lo', hi', dv'⟩ := ht
  have z : cfA w s - cfA w t = 0 := by
    rcases Int.lt_trichotomy (cfA w s - cfA w t) 0 with z | z | z
    · have : (cfA w s - cfA w t) * t.y ≤ (-1) * t.y := Int.mul_le_mul_of_nonneg_right (by omega) (by omega)
      omega
    · exact z
    · have : 1 * t.y ≤ (cfA w s - cfA w t) * t.y := Int.mul_le_mul_of_nonneg_right (by omega) (by omega)
      omega
  rw [z, Int.zero_mul] at k
  exact p2e (by omega) ey
/-! the row of states from (0, 1) on -/
def cfR (d w : Int) : Nat → P2
  | 0 => ⟨0, 1⟩
  | n + 1 => cfS d w (cfR d w n)
theorem cfR_1 (d w : Int) : cfR d w 1 = ⟨w, d - w * w⟩ := by
  show cfS d w ⟨0, 1⟩ = _
  have a : cfA w ⟨0, 1⟩ = w := by show (0 + w).fdiv 1 = w; rw [Int.fdiv_one]; omega
  have p : cfP w ⟨0, 1⟩ = w := by unfold cfP; rw [a]; dsimp only; omega
  unfold cfS
  rw [p, Int.fdiv_one]
theorem red_1 {d w : Int} (hr : RootOf d w) : RedSt d w ⟨w, d - w * w⟩ := by
  obtain ⟨w0, lo, hi⟩ := hr
  have e : (w + 1) * (w + 1) = w * w + 2 * w + 1 := by grind
  exact ⟨w0, Int.le_refl _, by dsimp only; omega, by dsimp only; omega, by dsimp only; omega, ⟨1, by dsimp only; omega⟩⟩
theorem red_R {d w : Int} (hr : RootOf d w) : ∀ n, RedSt d w (cfR d w (1 + n))
  | 0 => by rw [Nat.add_zero, cfR_1]; exact red_1 hr
  | n + 1 => (red_step hr (red_R hr n)).1
/-! convergents as a matrix: (top, last top, bottom, last bottom) -/
def cvS (m : M4) (a : Int) : M4 := ⟨a * m.p + m.q, m.p, a * m.r + m.s, m.r⟩
def cvR (d w : Int) : Nat → M4
  | 0 => ⟨1, 0, 0, 1⟩
  | n + 1 => cvS (cvR d w n) (cfA w (cfR d w n))
/-- what is so at each place; g is 1 and -1 in turn -/
structure CvI (d : Int) (g : Int) (s : P2) (m : M4) : Prop where
  nn : m.p * m.p - d * m.r * m.r = g * s.y
  xx : m.p * m.q - d * m.r * m.s = -g * s.x
  ll : ∃ r, s.y * r = d - s.x * s.x ∧ m.q * m.q - d * m.s * m.s = -g * r
theorem sq_exp (a p q r s d : Int) : (a * p + q) * (a * p + q) - d * (a * r + s) * (a * r + s) = a * a * (p * p - d * r * r) + 2 * a * (p * q - d * r * s) + (q * q - d * s * s) := by grind
theorem xx_exp (a p q r s d : Int) : (a * p + q) * p - d * (a * r + s) * r = a * (p * p - d * r * r) + (p * q - d * r * s) := by grind
theorem neg_a (a g X Y R : Int) : a * a * (g * Y) + 2 * a * (-g * X) + -g * R = -g * (R - a * a * Y + 2 * a * X) := by rw [Int.neg_mul, Int.neg_mul, Int.neg_mul]; grind
theorem neg_b (a g X Y : Int) : a * (g * Y) + -g * X = - -g * (a * Y - X) := by rw [Int.neg_neg, Int.neg_mul]; grind
theorem cvI_step {d w g : Int} {s : P2} {m : M4} (q0 : s.y ≠ 0) (I : CvI d g s m) : CvI d (-g) (cfS d w s) (cvS m (cfA w s)) := by
  obtain ⟨nn, xx, r, hr, ll⟩ := I
  have e := cf_step (w := w) q0 ⟨r, hr.symm⟩
  have ex : (cfS d w s).x = cfA w s * s.y - s.x := rfl
  have hp : cfP w s = cfA w s * s.y - s.x := rfl
  have ey : (cfS d w s).y = r - cfA w s * cfA w s * s.y + 2 * cfA w s * s.x := by
    refine Int.eq_of_mul_eq_mul_left q0 ?_
    rw [e, hp]
    grind
  refine ⟨?_, ?_, s.y, ?_, ?_⟩
  · show (cfA w s * m.p + m.q) * (cfA w s * m.p + m.q) - d * (cfA w s * m.r + m.s) * (cfA w s * m.r + m.s) = _
    rw [ey, sq_exp, nn, xx, ll, neg_a]
  · show (cfA w s * m.p + m.q) * m.p - d * (cfA w s * m.r + m.s) * m.r = _
    rw [ex, xx_exp, nn, xx, neg_b]
  · rw [Int.mul_comm, e]; rfl
  · show m.p * m.p - d * m.r * m.r = _
    rw [nn, Int.neg_neg]
def sgn (n : Nat) : Int := if n % 2 = 0 then 1 else -1
theorem sgn_succ (n : Nat) : sgn (n + 1) = -sgn n := by
  unfold sgn
  rcases (by omega : n % 2 = 0 ∨ n % 2 = 1) with h | h
  · have k : (n + 1) % 2 = 1 := by omega
    rw [h, k]; rfl
  · have k : (n + 1) % 2 = 0 := by omega
    rw [h, k]; rfl
theorem cvI_R {d w : Int} (hr : RootOf d w) : ∀ n, CvI d (sgn n) (cfR d w n) (cvR d w n)
  | 0 => ⟨by unfold cvR cfR sgn; dsimp only; simp, by unfold cvR cfR sgn; dsimp only; simp, ⟨d, by unfold cfR; simp, by unfold cvR sgn; dsimp only; simp⟩⟩
  | n + 1 => by
    rw [sgn_succ]
    refine cvI_step ?_ (cvI_R hr n)
    rcases n with _ | n
    · show (1 : Int) ≠ 0; decide
    · have := (red_R hr n).q0
      rw [Nat.add_comm] at this
      omega
theorem R_pos {d w : Int} (hr : RootOf d w) (n : Nat) : 0 < (cfR d w n).y := by
  rcases n with _ | n
  · show (0 : Int) < 1; decide
  · rw [Nat.add_comm]; exact (red_R hr n).q0
/-- the value 1 comes where the place is even and the state has 1 below -/
theorem cv_one {d w : Int} (hr : RootOf d w) (n : Nat) : (cvR d w n).p * (cvR d w n).p - d * (cvR d w n).r * (cvR d w n).r = 1 ↔ n % 2 = 0 ∧ (cfR d w n).y = 1 := by
  rw [(cvI_R hr n).nn]
  have k := R_pos hr n
  unfold sgn
  rcases (by omega : n % 2 = 0 ∨ n % 2 = 1) with h | h
  · rw [h, if_pos rfl]; omega
  · rw [h, if_neg (by decide)]; omega
/-! the period -/
structure Per (d w : Int) (l : Nat) : Prop where
  l0 : 1 ≤ l
  back : cfR d w (1 + l) = cfR d w 1
  first : ∀ i, 1 ≤ i → i < l → cfR d w (1 + i) ≠ cfR d w 1
theorem per_add {d w : Int} {l : Nat} (h : cfR d w (1 + l) = cfR d w 1) : ∀ n, cfR d w (1 + l + n) = cfR d w (1 + n)
  | 0 => h
  | n + 1 => by
    show cfS d w (cfR d w (1 + l + n)) = cfS d w (cfR d w (1 + n))
    rw [per_add h n]
theorem per_mod {d w : Int} {l : Nat} (P : Per d w l) (n : Nat) : cfR d w (1 + n) = cfR d w (1 + n % l) := by
  induction n using Nat.strongRecOn with
  | ind n ih =>
    by_cases h : n < l
    · rw [Nat.mod_eq_of_lt h]
    · have l0 := P.l0
      have e := per_add P.back (n - l)
      rw [show 1 + l + (n - l) = 1 + n by omega] at e
      have k := Nat.mod_eq_sub_mod (show n ≥ l by omega)
      rw [e, ih (n - l) (by omega), k]
/-- 1 below: just at the multiples of the period -/
theorem one_below {d w : Int} (hr : RootOf d w) {n : Nat} (h : 1 ≤ n) : (cfR d w n).y = 1 ↔ cfR d w (1 + n) = cfR d w 1 := by
  obtain ⟨m, rfl⟩ : ∃ m, n = 1 + m := ⟨n - 1, by omega⟩
  have R := red_R hr m
  have e := cf_step (w := w) (by have := R.q0; omega) R.dv
  have es : cfR d w (1 + (1 + m)) = cfS d w (cfR d w (1 + m)) := by rw [show 1 + (1 + m) = (1 + m) + 1 by omega]; rfl
  rw [es]
  constructor
  · intro y1
    have ha : cfA w (cfR d w (1 + m)) = (cfR d w (1 + m)).x + w := by unfold cfA; rw [y1, Int.fdiv_one]
    have hp : cfP w (cfR d w (1 + m)) = w := by unfold cfP; rw [ha, y1]; omega
    rw [cfR_1]
    unfold cfS
    rw [hp, y1, Int.fdiv_one]
  · intro z
    rw [z, cfR_1] at e
    have hp : cfP w (cfR d w (1 + m)) = w := by
      have := congrArg P2.x z
      rw [cfR_1] at this
      exact this
    rw [hp] at e
    have k := (red_1 hr).q0
    dsimp only at e k
    have : (cfR d w (1 + m)).y * (d - w * w) = 1 * (d - w * w) := by omega
    exact Int.eq_of_mul_eq_mul_right (by omega) this
theorem per_dvd {d w : Int} (hr : RootOf d w) {l : Nat} (P : Per d w l) {n : Nat} (h : 1 ≤ n) : (cfR d w n).y = 1 ↔ n % l = 0 := by
  rw [one_below hr h, per_mod P]
  have l0 := P.l0
  have lt := Nat.mod_lt n (show 0 < l by omega)
  constructor
  · intro z
    refine Decidable.byContradiction fun k => ?_
    exact P.first (n % l) (by omega) lt z
  · intro z; rw [z]
def many (l : Nat) : Nat := if l % 2 = 1 then 2 * l else l
/-- the first place with the value 1 -/
theorem many_one {d w : Int} (hr : RootOf d w) {l : Nat} (P : Per d w l) : (cvR d w (many l)).p * (cvR d w (many l)).p - d * (cvR d w (many l)).r * (cvR d w (many l)).r = 1 := by
  have l0 := P.l0
  have m0 : 1 ≤ many l := by unfold many; split <;> omega
  rw [cv_one hr, per_dvd hr P m0]
  unfold many
  split
  · exact ⟨by omega, by rw [Nat.mul_mod_left]⟩
  · exact ⟨by omega, Nat.mod_self _⟩
theorem many_first {d w : Int} (hr : RootOf d w) {l : Nat} (P : Per d w l) {n : Nat} (h : 1 ≤ n) (hn : n < many l) : ¬ (cvR d w n).p * (cvR d w n).p - d * (cvR d w n).r * (cvR d w n).r = 1 := by
  rw [cv_one hr, per_dvd hr P h]
  rintro ⟨h1, h2⟩
  obtain ⟨k, rfl⟩ := Nat.dvd_of_mod_eq_zero h2
  have l0 := P.l0
  unfold many at hn
  rcases k with _ | _ | k
  · omega
  · rw [Nat.zero_add, Nat.mul_one] at *
    split at hn <;> omega
  · have : l * 2 ≤ l * (k + 1 + 1) := Nat.mul_le_mul_left l (by omega)
    split at hn <;> omega
end DL
set_option maxHeartbeats 1000000
namespace DL
open PySem PySem.Spec PyProof.Rows L2
/-! ### how long a period is, for d below 10000: few states -/
def cnt (q r : Nat) : List Nat := (List.range q).filter fun x => Nat.beq (Nat.mod (Nat.mul x x) q) r
def cap (q : Nat) : Nat := if q % 8 = 0 then 16 else 11
def cntAll : Bool := (List.range 100).all fun q => (List.range q).all fun r => Nat.ble (cnt q r).length (cap q)
theorem cnt_all : cntAll = true := by decide +kernel
theorem cnt_le {q r : Nat} (h : q < 100) (hr : r < q) : (cnt q r).length ≤ cap q := by
  have k := cnt_all
  unfold cntAll at k
  have k1 := List.all_eq_true.mp k q (List.mem_range.mpr h)
  have k2 := List.all_eq_true.mp k1 r (List.mem_range.mpr hr)
  exact Nat.le_of_ble_eq_true k2
theorem len_flat {α β : Type} (f : α → List β) (k : Nat) : ∀ l : List α, (∀ a ∈ l, (f a).length ≤ k) → (l.flatMap f).length ≤ l.length * k
  | [], _ => Nat.zero_le _
  | a :: l, h => by
    rw [List.flatMap_cons, List.length_append, List.length_cons, Nat.succ_mul]
    have := h a List.mem_cons_self
    have := len_flat f k l fun b hb => h b (List.mem_cons_of_mem _ hb)
    omega
theorem len_flat2 {α β : Type} (f : α → List β) (k : α → Nat) : ∀ l : List α, (∀ a ∈ l, (f a).length ≤ k a) → (l.flatMap f).length ≤ (l.map k).sum
  | [], _ => Nat.zero_le _
  | a :: l, h => by
    rw [List.flatMap_cons, List.length_append, List.map_cons, List.sum_cons]
    have := h a List.mem_cons_self
    have := len_flat2 f k l fun b hb => h b (List.mem_cons_of_mem _ hb)
    omega
theorem nodup_sub {α : Type} [DecidableEq α] : ∀ (c l : List α), l.Nodup → (∀ x ∈ l, x ∈ c) → l.length ≤ c.length
  | [], l, _, h => by
    rcases l with _ | ⟨x, l⟩
    · exact Nat.le_refl _
    · exact absurd (h x List.mem_cons_self) List.not_mem_nil
  | a :: c, l, hn, h => by
    rw [List.length_cons]
    by_cases z : a ∈ l
    · have := nodup_sub c (l.erase a) (hn.erase a) fun x hx => by
        have hx := (hn.mem_erase_iff).mp hx
        rcases List.mem_cons.mp (h x hx.2) with e | e
        · exact absurd e hx.1
        · exact e
      rw [List.length_erase_of_mem z] at this
      omega
    · have := nodup_sub c l hn fun x hx => by
        rcases List.mem_cons.mp (h x hx) with e | e
        · exact absurd (e ▸ hx) z
        · exact e
      omega
/-- the codes of states: which of the two below is small, that one, the upper one's rest -/
def codes (d : Nat) : List (Nat × Nat × Nat) := [0, 1].flatMap fun b => (List.range 100).flatMap fun q => if q = 0 then [] else (cnt q (d % q)).map fun x => (b, q, x)
theorem codes_len (d : Nat) : (codes d).length ≤ 2400 := by
  unfold codes
  refine Nat.le_trans (len_flat _ 1200 _ fun b _ => ?_) (by decide)
  refine Nat.le_trans (len_flat2 _ cap _ fun q hq => ?_) (by decide +kernel)
  split
  · exact Nat.zero_le _
  · rw [List.length_map]
    exact cnt_le (List.mem_range.mp hq) (Nat.mod_lt _ (by omega))
def stCode (d w : Int) (s : P2) : Nat × Nat × Nat :=
  if s.y ≤ w then (0, s.y.toNat, (s.x % s.y).toNat) else (1, ((d - s.x * s.x) / s.y).toNat, (s.x % ((d - s.x * s.x) / s.y)).toNat)
/-- the small one below and its sizes -/
theorem small_one {d w : Int} (hr : RootOf d w) {s : P2} (h : RedSt d w s) : ∃ r, s.y * r = d - s.x * s.x ∧ 0 < r ∧ w - s.x < r ∧ (d - s.x * s.x) / s.y = r ∧ (w < s.y → r ≤ w) := by
  obtain ⟨p0, p1, q0, lo, hi, r, e⟩ := h
  refine ⟨r, e.symm, pos_of hr e.symm q0 p1 (by omega), side_lo hr e.symm q0 p1 (by omega) hi, by rw [e, Int.mul_ediv_cancel_left _ (by omega)], fun z => ?_⟩
  refine Int.not_lt.mp fun k => ?_
  have k1 : (w + 1) * (w + 1) ≤ s.y * r := Int.mul_le_mul (by omega) (by omega) (by omega) (by omega)
  have k2 : 0 < s.x * s.x := Int.mul_pos p0 p0
  have := hr.hi
  omega
theorem mod_same {a b q w : Int} (q0 : 0 < q) (a1 : w - q < a) (a2 : a ≤ w) (b1 : w - q < b) (b2 : b ≤ w) (e : a % q = b % q) : a = b := by
  have k := Int.emod_emod_of_dvd
  have h1 := Int.mul_ediv_add_emod a q
  have h2 := Int.mul_ediv_add_emod b q
  have e2 : q * (a / q - b / q) = a - b := by rw [Int.mul_sub]; omega
  rcases Int.lt_trichotomy (a / q - b / q) 0 with z | z | z
  · have : q * (a / q - b / q) ≤ q * (-1) := Int.mul_le_mul_of_nonneg_left (by omega) (by omega)
    omega
  · rw [z] at e2; omega
  · have : q * 1 ≤ q * (a / q - b / q) := Int.mul_le_mul_of_nonneg_left (by omega) (by omega)
    omega
theorem code_inj {d w : Int} (hr : RootOf d w) {s t : P2} (hs : RedSt d w s) (ht : RedSt d w t) (e : stCode d w s = stCode d w t) : s = t := by
  obtain ⟨r, e1, r0, rl, rd, rw1⟩ := small_one hr hs
  obtain ⟨u, f1, u0, ul, ud, uw⟩ := small_one hr ht
  obtain ⟨p0, p1, q0, lo, hi, _⟩ := hs
  obtain ⟨p0', p1', q0', lo', hi', _⟩ := ht
  unfold stCode at e
  rw [rd, ud] at e
  have m1 := Int.emod_nonneg s.x (show s.y ≠ 0 by omega)
  have m2 := Int.emod_nonneg t.x (show t.y ≠ 0 by omega)
  have m3 := Int.emod_nonneg s.x (show r ≠ 0 by omega)
  have m4 := Int.emod_nonneg t.x (show u ≠ 0 by omega)
  by_cases h1 : s.y ≤ w
  · rw [if_pos h1] at e
    by_cases h2 : t.y ≤ w
    · rw [if_pos h2] at e
      injection e with _ e
      injection e with ea eb
      have ey : s.y = t.y := by omega
      rw [ey] at eb m1 lo
      exact p2e (mod_same q0' (by omega) p1 (by omega) p1' (by omega)) ey
    · rw [if_neg h2] at e
      injection e with e _
      exact absurd e (by decide)
  · rw [if_neg h1] at e
    by_cases h2 : t.y ≤ w
    · rw [if_pos h2] at e
      injection e with e _
      exact absurd e (by decide)
    · rw [if_neg h2] at e
      injection e with _ e
      injection e with ea eb
      have ey : r = u := by omega
      rw [ey] at eb m3 rl e1
      have ex : s.x = t.x := mod_same u0 (by omega) p1 (by omega) p1' (by omega)
      refine p2e ex ?_
      rw [ex] at e1
      exact Int.eq_of_mul_eq_mul_right (by omega) (e1.trans f1.symm)
theorem sq_mod_nat {x q : Int} {d : Nat} (q0 : 0 < q) (h : ∃ r, (d : Int) - x * x = q * r) : (x % q).toNat * (x % q).toNat % q.toNat = d % q.toNat := by
  obtain ⟨r, h⟩ := h
  have m1 := Int.emod_nonneg x (show q ≠ 0 by omega)
  have e : (((x % q).toNat * (x % q).toNat % q.toNat : Nat) : Int) = ((d % q.toNat : Nat) : Int) := by
    rw [Int.natCast_emod, Int.natCast_emod, Int.natCast_mul, Int.toNat_of_nonneg m1, Int.toNat_of_nonneg (by omega), ← Int.mul_emod]
    rw [show (d : Int) = x * x + q * r by omega, Int.add_mul_emod_self_left]
  omega
theorem code_mem {d : Nat} {w : Int} (hr : RootOf d w) (hd : w ≤ 99) {s : P2} (h : RedSt d w s) : stCode d w s ∈ codes d := by
  obtain ⟨r, e1, r0, rl, rd, rw1⟩ := small_one hr h
  obtain ⟨p0, p1, q0, lo, hi, dv⟩ := h
  have key : ∀ (b : Nat) (q : Int), (b = 0 ∨ b = 1) → 0 < q → q ≤ w → (∃ r, (d : Int) - s.x * s.x = q * r) → (b, q.toNat, (s.x % q).toNat) ∈ codes d := fun b q hb q0 qw dv => by
    unfold codes
    refine List.mem_flatMap.mpr ⟨b, by rcases hb with rfl | rfl <;> decide, ?_⟩
    refine List.mem_flatMap.mpr ⟨q.toNat, List.mem_range.mpr (by omega), ?_⟩
    rw [if_neg (by omega)]
    refine List.mem_map.mpr ⟨(s.x % q).toNat, ?_, rfl⟩
    unfold cnt
    rw [List.mem_filter, List.mem_range]
    have m1 := Int.emod_nonneg s.x (show q ≠ 0 by omega)
    have m2 := Int.emod_lt_of_pos s.x q0
    exact ⟨by omega, Nat.beq_eq.mpr (sq_mod_nat q0 dv)⟩
  unfold stCode
  rw [rd]
  split
  · exact key 0 s.y (.inl rfl) q0 (by assumption) dv
  · exact key 1 r (.inr rfl) r0 (rw1 (by omega)) ⟨s.y, e1.symm.trans (Int.mul_comm _ _)⟩
/-- some state of the first 2401 comes again, and so the first one -/
theorem back_to_first {d w : Int} (hr : RootOf d w) : ∀ {i j : Nat}, i < j → cfR d w (1 + i) = cfR d w (1 + j) → cfR d w (1 + (j - i)) = cfR d w 1
  | 0, j, _, e => by rw [Nat.sub_zero]; exact e.symm
  | i + 1, j + 1, h, e => by
    have := red_back hr (red_R hr i) (red_R hr j) e
    rw [Nat.add_sub_add_right]
    exact back_to_first hr (by omega) this
  | _ + 1, 0, h, _ => by omega
theorem least {p : Nat → Prop} : ∀ n, p n → ∃ m, m ≤ n ∧ p m ∧ ∀ i, i < m → ¬ p i := by
  intro n
  induction n using Nat.strongRecOn with
  | ind n ih =>
    intro h
    by_cases k : ∃ i, i < n ∧ p i
    · obtain ⟨i, hi, pi⟩ := k
      obtain ⟨m, hm, z⟩ := ih i hi pi
      exact ⟨m, by omega, z⟩
    · exact ⟨n, Nat.le_refl _, h, fun i hi z => k ⟨i, hi, z⟩⟩
theorem per_exists {d : Nat} {w : Int} (hr : RootOf d w) (hd : w ≤ 99) : ∃ l, Per d w l ∧ l ≤ 2400 := by
  have ex : ∃ i j, i < j ∧ j ≤ 2400 ∧ cfR d w (1 + i) = cfR d w (1 + j) := by
    refine Classical.byContradiction fun z => ?_
    have nd : ((List.range 2401).map fun i => stCode d w (cfR d w (1 + i))).Nodup := by
      refine List.pairwise_map.mpr ?_
      refine (List.pairwise_lt_range (n := 2401)).imp_of_mem fun {i j} hi hj lt e => z ⟨i, j, lt, by have := List.mem_range.mp hj; omega, code_inj hr (red_R hr i) (red_R hr j) e⟩
    have k := nodup_sub (codes d) _ nd fun x hx => by
      obtain ⟨i, _, rfl⟩ := List.mem_map.mp hx
      exact code_mem hr hd (red_R hr i)
    rw [List.length_map, List.length_range] at k
    have := codes_len d
    omega
  obtain ⟨i, j, h1, h2, h3⟩ := ex
  obtain ⟨m, hm, ⟨m0, mb⟩, fst⟩ := least (p := fun l => 1 ≤ l ∧ cfR d w (1 + l) = cfR d w 1) (j - i) ⟨by omega, back_to_first hr h1 h3⟩
  exact ⟨m, ⟨m0, mb, fun i i0 il e => fst i il ⟨i0, e⟩⟩, by omega⟩
end DL
set_option maxHeartbeats 1000000
namespace DL
open PySem PySem.Spec PyProof.Rows L2
/-! ### continued fractions of (p + root of d) / q, q of either sign -/
def cgA (w : Int) (s : P2) : Int := if 0 < s.y then (s.x + w).fdiv s.y else (s.x + w + 1).fdiv s.y
def cgP (w : Int) (s : P2) : Int := cgA w s * s.y - s.x
def cgS (d w : Int) (s : P2) : P2 := ⟨cgP w s, (d - cgP w s * cgP w s).fdiv s.y⟩
def cgR (d w : Int) (s : P2) : Nat → P2
  | 0 => s
  | n + 1 => cgS d w (cgR d w s n)
structure StC (d : Int) (s : P2) : Prop where
  y0 : s.y ≠ 0
  dv : ∃ r, d - s.x * s.x = s.y * r
theorem cg_pos {w : Int} {s : P2} (h : 0 < s.y) : cgA w s = cfA w s := by unfold cgA cfA; rw [if_pos h]
theorem cgS_pos {d w : Int} {s : P2} (h : 0 < s.y) : cgS d w s = cfS d w s := by unfold cgS cfS cgP cfP; rw [cg_pos h]
theorem cg_step {d w : Int} {s : P2} (h : StC d s) : s.y * (cgS d w s).y = d - cgP w s * cgP w s := by
  obtain ⟨q0, r, hr⟩ := h
  show s.y * (d - cgP w s * cgP w s).fdiv s.y = _
  have e : d - cgP w s * cgP w s = s.y * (r - cgA w s * cgA w s * s.y + 2 * cgA w s * s.x) := by
    unfold cgP
    grind
  rw [e, Int.mul_fdiv_cancel_left _ q0]
theorem sq_ne {d w : Int} (hr : RootOf d w) (x : Int) : d - x * x ≠ 0 := by
  intro z
  obtain ⟨w0, lo, hi⟩ := hr
  have key : ∀ y : Int, 0 ≤ y → d - y * y ≠ 0 := fun y y0 z => by
    rcases Int.lt_trichotomy y w with h | h | h
    · have := Int.mul_le_mul (show y ≤ w by omega) (show y ≤ w by omega) y0 (by omega)
      omega
    · subst h; omega
    · have := Int.mul_le_mul (show w + 1 ≤ y by omega) (show w + 1 ≤ y by omega) (by omega) (by omega)
      omega
  rcases Int.le_total 0 x with h | h
  · exact key x h z
  · exact key (-x) (by omega) (by rw [Int.neg_mul_neg]; exact z)
theorem stC_step {d w : Int} (hr : RootOf d w) {s : P2} (h : StC d s) : StC d (cgS d w s) := by
  have e := cg_step (w := w) h
  refine ⟨fun z => sq_ne hr (cgP w s) ?_, s.y, ?_⟩
  · rw [← e, z, Int.mul_zero]
  · show d - cgP w s * cgP w s = _
    rw [← e, Int.mul_comm]
theorem cg_up {w : Int} {s : P2} (q0 : 0 < s.y) : cgP w s ≤ w ∧ w + 1 ≤ cgP w s + s.y := by
  obtain ⟨a, b⟩ := cfA_le (w := w) q0
  unfold cgP
  rw [cg_pos q0]
  omega
theorem cg_dn {w : Int} {s : P2} (q0 : s.y < 0) : w + 1 ≤ cgP w s ∧ cgP w s + s.y ≤ w := by
  unfold cgP cgA
  rw [if_neg (by omega)]
  have e := Int.mul_fdiv_add_fmod (-(s.x + w + 1)) (-s.y)
  have l := Int.fmod_nonneg_of_pos (-(s.x + w + 1)) (show 0 < -s.y by omega)
  have u := Int.fmod_lt_of_pos (-(s.x + w + 1)) (show 0 < -s.y by omega)
  rw [Int.neg_fdiv_neg] at e
  have c := Int.mul_comm (-s.y) ((s.x + w + 1).fdiv s.y)
  rw [Int.mul_neg] at c
  omega
/-- the number is above 1 -/
def BigC (w : Int) (s : P2) : Prop := (0 < s.y ∧ s.y ≤ s.x + w) ∨ (s.y < 0 ∧ s.x + w + 1 ≤ s.y)
theorem big_one {w : Int} {s : P2} (h : BigC w s) : 1 ≤ cgA w s := by
  rcases h with ⟨q0, h⟩ | ⟨q0, h⟩
  · obtain ⟨a, b⟩ := cfA_le (w := w) q0
    rw [cg_pos q0]
    refine Int.not_lt.mp fun z => ?_
    have : cfA w s * s.y ≤ 0 * s.y := Int.mul_le_mul_of_nonneg_right (by omega) (by omega)
    omega
  · obtain ⟨a, b⟩ := cg_dn (w := w) q0
    unfold cgP at a b
    refine Int.not_lt.mp fun z => ?_
    have : -cgA w s * -s.y ≥ 0 := Int.mul_nonneg (by omega) (by omega)
    rw [Int.neg_mul_neg] at this
    omega
theorem neg_fact {Q R X : Int} (e : Q * R = X) : -Q * R = -X ∧ Q * -R = -X ∧ -Q * -R = X := by
  refine ⟨?_, ?_, ?_⟩
  · rw [Int.neg_mul, e]
  · rw [Int.mul_neg, e]
  · rw [Int.neg_mul_neg, e]
theorem mul_sgn {Q R : Int} (q0 : 0 < Q) (h : Q * R < 0) : R < 0 := by
  refine Int.not_le.mp fun z => ?_
  have := Int.mul_nonneg (show 0 ≤ Q by omega) z
  omega
/-- what the next state is -/
inductive NextC (d w : Int) (s : P2) : Prop
  | a (h : 0 < (cgS d w s).y) (h1 : -w ≤ (cgS d w s).x) (h2 : (cgS d w s).x ≤ w) (hs : 0 < s.y)
  | c (h : (cgS d w s).y < 0) (h1 : (cgS d w s).x ≤ -w - 1) (hs : 0 < s.y) (h2 : -(cgS d w s).y < s.y)
  | b (h : 0 < (cgS d w s).y) (h1 : w + 1 ≤ (cgS d w s).x) (hs : s.y < 0) (h2 : (cgS d w s).x + s.y ≤ w)
theorem next_c {d w : Int} (hr : RootOf d w) {s : P2} (h : StC d s) : NextC d w s ∧ BigC w (cgS d w s) := by
  have e := cg_step (w := w) h
  have y0 := h.y0
  have hx : (cgS d w s).x = cgP w s := rfl
  obtain ⟨w0, lo, hi⟩ := id hr
  have hi2 : (w + 1) * (w + 1) = w * w + 2 * w + 1 := by grind
  rcases Int.lt_or_gt_of_ne y0 with q0 | q0
  · obtain ⟨p1, p2⟩ := cg_dn (w := w) q0
    generalize hP : cgP w s = P at *
    obtain ⟨R, hR⟩ : ∃ R, (cgS d w s).y = R := ⟨_, rfl⟩
    rw [hR] at e
    have pp : (w + 1) * (w + 1) ≤ P * P := Int.mul_le_mul p1 p1 (by omega) (by omega)
    obtain ⟨n1, n2, n3⟩ := neg_fact e
    have R0 : 0 < R := by
      refine Int.not_le.mp fun z => ?_
      have := Int.mul_nonneg (show 0 ≤ -s.y by omega) (show 0 ≤ -R by omega)
      omega
    refine ⟨.b (by rw [hR]; exact R0) (by rw [hx]; exact p1) q0 (by rw [hx]; exact p2), .inl ⟨by rw [hR]; exact R0, ?_⟩⟩
    rw [hx, hR]
    refine Int.not_lt.mp fun z => ?_
    have k1 : (P - w) * (P + w + 1) ≤ -s.y * R := Int.mul_le_mul (by omega) (by omega) (by omega) (by omega)
    have k2 : (P - w) * (P + w + 1) = P * P + P - w * w - w := by grind
    omega
  · obtain ⟨p1, p2⟩ := cg_up (w := w) q0
    generalize hP : cgP w s = P at *
    obtain ⟨R, hR⟩ : ∃ R, (cgS d w s).y = R := ⟨_, rfl⟩
    rw [hR] at e
    by_cases pn : -w ≤ P
    · have R0 := pos_of hr e q0 p1 pn
      have hh := side_hi hr e q0 p1 pn (by omega)
      exact ⟨.a (by rw [hR]; exact R0) (by rw [hx]; exact pn) (by rw [hx]; exact p1) q0, .inl ⟨by rw [hR]; exact R0, by rw [hx, hR]; omega⟩⟩
    · have pp : (w + 1) * (w + 1) ≤ -P * -P := Int.mul_le_mul (by omega) (by omega) (by omega) (by omega)
      rw [Int.neg_mul_neg] at pp
      have R0 : R < 0 := mul_sgn q0 (by omega)
      obtain ⟨n1, n2, n3⟩ := neg_fact e
      have big : P + w + 1 ≤ R := by
        refine Int.not_lt.mp fun z => ?_
        have k1 : (w + 1 - P) * (-P - w) ≤ s.y * -R := Int.mul_le_mul (by omega) (by omega) (by omega) (by omega)
        have k2 : (w + 1 - P) * (-P - w) = P * P - P - w * w - w := by grind
        omega
      refine ⟨.c (by rw [hR]; exact R0) (by rw [hx]; omega) q0 (by rw [hR]; omega), .inr ⟨by rw [hR]; exact R0, by rw [hx, hR]; exact big⟩⟩
/-- behind a state with |P| at most w and a number above 1 the states are reduced -/
theorem red_next {d w : Int} (hr : RootOf d w) {s : P2} (h : StC d s) (q0 : 0 < s.y) (h1 : -w ≤ s.x) (h2 : s.x ≤ w) (big : BigC w s) : RedSt d w (cgS d w s) := by
  have e := cg_step (w := w) h
  have a1 := big_one big
  obtain ⟨p1, p2⟩ := cg_up (w := w) q0
  have k : 1 * s.y ≤ cgA w s * s.y := Int.mul_le_mul_of_nonneg_right a1 (by omega)
  have hp : cgP w s = cgA w s * s.y - s.x := rfl
  have hx : (cgS d w s).x = cgP w s := rfl
  have p3 : 0 < cgP w s := by
    rcases Int.le_total s.y w with z | z <;> omega
  have R0 := pos_of hr e q0 p1 (by omega)
  exact ⟨p3, p1, R0, side_lo hr e q0 p1 (by omega) (by omega), side_hi hr e q0 p1 (by omega) (by omega), ⟨s.y, e.symm.trans (Int.mul_comm _ _)⟩⟩
theorem cgR_succ (d w : Int) (s : P2) : ∀ n, cgR d w s (n + 1) = cgR d w (cgS d w s) n
  | 0 => rfl
  | n + 1 => by
    show cgS d w (cgR d w s (n + 1)) = cgS d w (cgR d w (cgS d w s) n)
    rw [cgR_succ d w s n]
theorem cgR_add (d w : Int) (s : P2) (m : Nat) : ∀ n, cgR d w s (m + n) = cgR d w (cgR d w s m) n
  | 0 => rfl
  | n + 1 => by
    show cgS d w (cgR d w s (m + n)) = cgS d w (cgR d w (cgR d w s m) n)
    rw [cgR_add d w s m n]
def ReachC (d w : Int) (n : Nat) (s : P2) : Prop := ∃ k, k ≤ n ∧ RedSt d w (cgR d w s k)
theorem reach_up {d w : Int} {n : Nat} {s : P2} (h : ReachC d w n (cgS d w s)) : ReachC d w (n + 1) s := by
  obtain ⟨k, hk, r⟩ := h
  exact ⟨k + 1, by omega, by rw [cgR_succ]; exact r⟩
theorem reach_mono {d w : Int} {n m : Nat} {s : P2} (h : ReachC d w n s) (l : n ≤ m) : ReachC d w m s := by
  obtain ⟨k, hk, r⟩ := h
  exact ⟨k, by omega, r⟩
theorem reach_c {d w : Int} (hr : RootOf d w) : ∀ (q : Nat) {s : P2}, StC d s → s.y.natAbs ≤ q → ReachC d w (q + 3) s := by
  intro q
  induction q using Nat.strongRecOn with
  | ind q ih =>
    intro s h hq
    obtain ⟨nx, big⟩ := next_c hr h
    have h' := stC_step hr h
    have redA : ∀ {t : P2}, StC d t → 0 < t.y → -w ≤ t.x → t.x ≤ w → BigC w t → ReachC d w 1 t := fun ht a b c e => ⟨1, Nat.le_refl _, red_next hr ht a b c e⟩
    rcases nx with ⟨a, b, c, _⟩ | ⟨a, b, s0, c⟩ | ⟨a, b, s0, c⟩
    · exact reach_mono (reach_up (redA h' a b c big)) (by omega)
    · have := ih (q - 1) (by omega) h' (by omega)
      exact reach_mono (reach_up this) (by omega)
    · by_cases z : (cgS d w s).y < -s.y
      · have := ih (q - 1) (by omega) h' (by omega)
        exact reach_mono (reach_up this) (by omega)
      · obtain ⟨nx2, big2⟩ := next_c hr h'
        have h2 := stC_step hr h'
        have a1 := big_one big
        have k : 1 * (cgS d w s).y ≤ cgA w (cgS d w s) * (cgS d w s).y := Int.mul_le_mul_of_nonneg_right a1 (by omega)
        have hx : (cgS d w (cgS d w s)).x = cgA w (cgS d w s) * (cgS d w s).y - (cgS d w s).x := rfl
        obtain ⟨u1, u2⟩ := cg_up (w := w) a
        have lo : -w ≤ (cgS d w (cgS d w s)).x := by omega
        have up : (cgS d w (cgS d w s)).x ≤ w := u1
        have pos : 0 < (cgS d w (cgS d w s)).y := pos_of hr (cg_step h') a up lo
        exact reach_mono (reach_up (reach_up (redA h2 pos lo up big2))) (by omega)
/-! sizes -/
theorem cg_size {d w : Int} (hr : RootOf d w) {s : P2} (h : StC d s) : (cgS d w s).x.natAbs ≤ w.natAbs + s.y.natAbs ∧ (cgS d w s).y.natAbs ≤ 2 * w.natAbs + s.y.natAbs := by
  obtain ⟨nx, big⟩ := next_c hr h
  have w0 := hr.w0
  have hx : (cgS d w s).x = cgP w s := rfl
  rcases nx with ⟨a, b, c, s0⟩ | ⟨a, b, s0, c⟩ | ⟨a, b, s0, c⟩
  · rcases big with ⟨_, k⟩ | ⟨z, _⟩ <;> omega
  · obtain ⟨u1, u2⟩ := cg_up (w := w) s0
    rcases big with ⟨z, _⟩ | ⟨_, k⟩ <;> omega
  · rcases big with ⟨_, k⟩ | ⟨z, _⟩ <;> omega
theorem cgR_st {d w : Int} (hr : RootOf d w) {s : P2} (h : StC d s) : ∀ n, StC d (cgR d w s n)
  | 0 => h
  | n + 1 => stC_step hr (cgR_st hr h n)
theorem cgR_y {d w : Int} (hr : RootOf d w) {s : P2} (h : StC d s) : ∀ n, (cgR d w s n).y.natAbs ≤ 2 * w.natAbs * n + s.y.natAbs
  | 0 => by show s.y.natAbs ≤ _; omega
  | n + 1 => by
    have a := (cg_size hr (cgR_st hr h n)).2
    have b := cgR_y hr h n
    show (cgS d w (cgR d w s n)).y.natAbs ≤ _
    rw [Nat.mul_succ]
    omega
theorem cgR_x {d w : Int} (hr : RootOf d w) {s : P2} (h : StC d s) (n : Nat) : (cgR d w s (n + 1)).x.natAbs ≤ 2 * w.natAbs * n + s.y.natAbs + w.natAbs := by
  have a := (cg_size hr (cgR_st hr h n)).1
  have b := cgR_y hr h n
  show (cgS d w (cgR d w s n)).x.natAbs ≤ _
  omega
theorem cgR_red {d w : Int} (hr : RootOf d w) {s : P2} (h : RedSt d w s) : ∀ n, RedSt d w (cgR d w s n)
  | 0 => h
  | n + 1 => by
    have k := cgR_red hr h n
    show RedSt d w (cgS d w (cgR d w s n))
    rw [cgS_pos k.q0]
    exact (red_step hr k).1
/-- the first parts and the period -/
structure ExpC (d w : Int) (s : P2) (m l : Nat) : Prop where
  m1 : m ≤ s.y.natAbs + 3
  no : ∀ i, i < m → ¬ RedSt d w (cgR d w s i)
  red : RedSt d w (cgR d w s m)
  l0 : 1 ≤ l
  l1 : l ≤ 2400
  back : cgR d w s (m + l) = cgR d w s m
  first : ∀ i, 1 ≤ i → i < l → cgR d w s (m + i) ≠ cgR d w s m
theorem back_red {d w : Int} (hr : RootOf d w) {s : P2} (h : RedSt d w s) : ∀ {i j : Nat}, i < j → cgR d w s i = cgR d w s j → cgR d w s (j - i) = s
  | 0, j, _, e => by rw [Nat.sub_zero]; exact e.symm
  | i + 1, j + 1, hl, e => by
    have a := cgR_red hr h i
    have b := cgR_red hr h j
    have e : cgS d w (cgR d w s i) = cgS d w (cgR d w s j) := e
    rw [cgS_pos a.q0, cgS_pos b.q0] at e
    have := red_back hr a b e
    rw [Nat.add_sub_add_right]
    exact back_red hr h (by omega) this
  | _ + 1, 0, hl, _ => by omega
theorem per_red {d : Nat} {w : Int} (hr : RootOf d w) (hd : w ≤ 99) {s : P2} (h : RedSt d w s) : ∃ l, 1 ≤ l ∧ l ≤ 2400 ∧ cgR d w s l = s ∧ ∀ i, 1 ≤ i → i < l → cgR d w s i ≠ s := by
  have ex : ∃ i j, i < j ∧ j ≤ 2400 ∧ cgR d w s i = cgR d w s j := by
    refine Classical.byContradiction fun z => ?_
    have nd : ((List.range 2401).map fun i => stCode d w (cgR d w s i)).Nodup := by
      refine List.pairwise_map.mpr ?_
      refine (List.pairwise_lt_range (n := 2401)).imp_of_mem fun {i j} hi hj lt e => z ⟨i, j, lt, by have := List.mem_range.mp hj; omega, code_inj hr (cgR_red hr h i) (cgR_red hr h j) e⟩
    have k := nodup_sub (codes d) _ nd fun x hx => by
      obtain ⟨i, _, rfl⟩ := List.mem_map.mp hx
      exact code_mem hr hd (cgR_red hr h i)
    rw [List.length_map, List.length_range] at k
    have := codes_len d
    omega
  obtain ⟨i, j, h1, h2, h3⟩ := ex
  obtain ⟨m, hm, ⟨m0, mb⟩, fst⟩ := least (p := fun l => 1 ≤ l ∧ cgR d w s l = s) (j - i) ⟨by omega, back_red hr h h1 h3⟩
  exact ⟨m, m0, by omega, mb, fun i i0 il e => fst i il ⟨i0, e⟩⟩
theorem exp_ex {d : Nat} {w : Int} (hr : RootOf d w) (hd : w ≤ 99) {s : P2} (h : StC d s) : ∃ m l, ExpC d w s m l := by
  obtain ⟨k, hk, r⟩ := reach_c hr s.y.natAbs h (Nat.le_refl _)
  obtain ⟨m, hm, rm, fst⟩ := least (p := fun i => RedSt d w (cgR d w s i)) k r
  obtain ⟨l, l0, l1, bk, fi⟩ := per_red hr hd rm
  exact ⟨m, l, by omega, fst, rm, l0, l1, by rw [cgR_add]; exact bk, fun i i0 il e => fi i i0 il (by rw [← cgR_add]; exact e)⟩
/-- the states ahead of the first that comes again are unlike -/
theorem exp_inj {d w : Int} (hr : RootOf d w) {s : P2} {m l : Nat} (E : ExpC d w s m l) {i j : Nat} (ij : i < j) (jl : j < m + l) : cgR d w s i ≠ cgR d w s j := by
  intro e
  have sh : ∀ t, cgR d w s (i + t) = cgR d w s (j + t) := fun t => by rw [cgR_add, cgR_add, e]
  by_cases c : i < m
  · by_cases c2 : j < m
    · have k := sh (m - j)
      rw [show j + (m - j) = m by omega] at k
      exact E.no (i + (m - j)) (by omega) (by rw [k]; exact E.red)
    · refine E.no i c ?_
      rw [e, show j = m + (j - m) by omega, cgR_add]
      exact cgR_red hr E.red _
  · have k := back_red hr E.red (i := i - m) (j := j - m) (by omega) (by rw [← cgR_add, ← cgR_add, show m + (i - m) = i by omega, show m + (j - m) = j by omega]; exact e)
    rw [← cgR_add] at k
    exact E.first (j - m - (i - m)) (by omega) (by omega) k
end DL
set_option maxHeartbeats 1000000
set_option pp.maxSteps 1200
namespace DL
open PySem PySem.Spec PyProof.Rows L2
/-! ### squares, kinds, drawn forms: exactly -/
theorem eqv_str {x y : Str} : D.eqv (.str x) (.str y) = (x == y) := rfl
theorem ok_str1 : D.ok (.str "definite") = true := by decide +kernel
theorem ok_str2 : D.ok (.str "flat") = true := by decide +kernel
theorem ok_str3 : D.ok (.str "indefinite") = true := by decide +kernel
theorem ok_str4 : D.ok (.str "split") = true := by decide +kernel
theorem isSqB_nat {n r : Nat} (a : r * r ≤ n) (b : n < (r + 1) * (r + 1)) : isSqB (n : Int) = decide ((r : Int) * (r : Int) = (n : Int)) := by
  have h1 : (r : Int) * r ≤ n := by rw [← Int.natCast_mul]; omega
  have h2 : (n : Int) < ((r : Int) + 1) * ((r : Int) + 1) := by
    have : ((n : Nat) : Int) < (((r + 1) * (r + 1) : Nat) : Int) := by omega
    rw [Int.natCast_mul, Int.natCast_add] at this
    exact this
  have k := root_sq (Int.natCast_nonneg r) h1 h2
  by_cases z : IsSq (n : Int)
  · rw [isSqB_true z, decide_eq_true (k.mpr z)]
  · rw [isSqB_false z, decide_eq_false fun w => z (k.mp w)]
theorem root_uniq {n r s : Nat} (a : r * r ≤ n) (b : n < (r + 1) * (r + 1)) (c : s * s ≤ n) (d : n < (s + 1) * (s + 1)) : r = s := by
  have key : ∀ {r s : Nat}, r * r ≤ n → n < (s + 1) * (s + 1) → r ≤ s := fun {r s} a d => by
    refine Nat.le_of_not_lt fun z => ?_
    have := Nat.mul_le_mul (show s + 1 ≤ r from z) (show s + 1 ≤ r from z)
    omega
  exact Nat.le_antisymm (key a d) (key c b)
@[irreducible] def sp_Lsquare : FSpec := fun ds tk Q => ∃ (n : Int), ds = [.int n] ∧ (Sm 999 n) ∧ Q (.val (.bl (isSqB n))) tk
theorem op_Lsquare {ds : List D} {tk : Tk} {Q : EV → Tk → Prop} (h : sp_Lsquare ds tk Q) : ∃ (n : Int), ds = [.int n] ∧ (Sm 999 n) ∧ Q (.val (.bl (isSqB n))) tk := by unfold sp_Lsquare at h; exact h
theorem mon_Lsquare : MonFS sp_Lsquare := fun ds tk Q Q' hq_ hs_ => by
  obtain ⟨n, e_, h0, q_⟩ := op_Lsquare hs_
  unfold sp_Lsquare
  exact ⟨n, e_, h0, hq_ _ _ q_⟩
theorem len_Lsquare : ∀ ds tk Q, sp_Lsquare ds tk Q → ds.length = 1 := fun ds tk Q hs_ => by
  obtain ⟨n, e_, h0, q_⟩ := op_Lsquare hs_
  rw [e_]; rfl
theorem cl_Lsquare {tk : Tk} {Q : EV → Tk → Prop} {n : Int} (h0 : Sm 999 n) (q_ : Q (.val (.bl (isSqB n))) tk) : sp_Lsquare [.int n] tk Q := by
  unfold sp_Lsquare
  exact ⟨n, rfl, h0, q_⟩
theorem ce_Lsquare {ds_ : List D} {tk : Tk} {Q : EV → Tk → Prop} {n : Int} (h0 : Sm 999 n) (e_ : ds_ = [.int n]) (q_ : Q (.val (.bl (isSqB n))) tk) : sp_Lsquare ds_ tk Q := by
  subst e_
  unfold sp_Lsquare
  exact ⟨n, rfl, h0, q_⟩
abbrev N_Lsquare : List Str := ["_law_n"]
def c_Lsquare : WS :=
  (wRet (wB (wAnd (wT (wOp fGe (wPk 0) (fz (wC (.int 0))))) (wT (wOp fEq (fz (wOp fMul (fz (wCall sp_Lroot (wCons (fz (wV 0)) wNil))) (fz (wCall sp_Lroot (wCons (fz (wV 0)) wNil))))) (wPk 0))))))
theorem hw_Lsquare : ∀ ds tk Q, sp_Lsquare ds tk Q → c_Lsquare { nx := fun _ t => Q (.val .non) t, rt := Q } (start N_Lsquare.length ds) tk := by
  intro ds tk Q h_
  obtain ⟨n, rfl, h0, q⟩ := op_Lsquare h_
  refine if2 (fun h => ?_) (fun h => ?_)
  · have h : 0 ≤ n := h
    obtain ⟨m, rfl⟩ : ∃ m : Nat, n = m := ⟨n.toNat, by omega⟩
    have hm : m < 2 ^ 1000 := by unfold Sm at h0; rw [Int.natAbs_natCast] at h0; exact Nat.lt_of_lt_of_le h0 (Nat.pow_le_pow_right (by decide) (by decide))
    refine cl_Lroot hm fun r ra rb => cl_Lroot hm fun r' ra' rb' => ?_
    have e := root_uniq ra rb ra' rb'
    subst e
    have hr : r ≤ m := Nat.le_trans (Nat.le_mul_self r) ra
    have sr : Sm 1000 (r : Int) := by unfold Sm; rw [Int.natAbs_natCast]; omega
    refine ⟨by walk_at "sd", ?_⟩
    rw [isSqB_nat ra rb] at q
    exact q
  · rw [isSqB_neg (by omega)] at q
    exact q
def kindS (f : F3) : Str := if f.disc < 0 then "definite" else if f.disc = 0 then "flat" else if isSqB f.disc then "split" else "indefinite"
theorem kindS_1 {f : F3} (h : f.disc < 0) : kindS f = "definite" := if_pos h
theorem kindS_2 {f : F3} (h : f.disc = 0) : kindS f = "flat" := by unfold kindS; rw [if_neg (by omega), if_pos h]
theorem kindS_3 {f : F3} (h : 0 < f.disc) (hs : IsSq f.disc) : kindS f = "split" := by unfold kindS; rw [if_neg (by omega), if_neg (by omega), if_pos (isSqB_true hs)]
theorem kindS_4 {f : F3} (h : ¬ f.disc < 0) (hs : ¬ IsSq f.disc) : kindS f = "indefinite" := by
  unfold kindS
  rw [if_neg (by omega), if_neg (fun z => hs ⟨0, by rw [z]; rfl⟩), if_neg (by rw [isSqB_false hs]; decide)]
theorem kind_def {f : F3} (h : kindS f = "definite") : f.disc < 0 := by
  unfold kindS at h
  split at h
  · assumption
  · split at h
    · exact absurd h (by decide)
    · split at h <;> exact absurd h (by decide)
theorem kind_ind {f : F3} (h : kindS f = "indefinite") : 0 < f.disc ∧ ¬ IsSq f.disc := by
  unfold kindS at h
  split at h
  · exact absurd h (by decide)
  · split at h
    · exact absurd h (by decide)
    · split at h
      · exact absurd h (by decide)
      · rename_i h1 h2 h3
        exact ⟨by omega, fun z => h3 (isSqB_true z)⟩
theorem kindS_ok (f : F3) : D.ok (.str (kindS f)) = true := by
  unfold kindS
  split
  · exact ok_str1
  · split
    · exact ok_str2
    · split
      · exact ok_str4
      · exact ok_str3
theorem disc_sm {f : F3} {k : Nat} (h : f.Sm k) (hk : k ≤ 490) : Sm 999 f.disc := by
  obtain ⟨a1, a2, a3⟩ := h
  have s4 : Sm 3 4 := show (4 : Int).natAbs < 2 ^ 3 by decide
  exact (((a2.mul a2).mono (show k + k ≤ 990 by omega)).sub (((s4.mul a1).mul a3).mono (show 3 + k + k ≤ 990 by omega))).mono (by decide)
@[irreducible] def sp_Lkind : FSpec := fun ds tk Q => ∃ (f : F3), ds = [f.D] ∧ (f.Sm 400) ∧ Q (.val (.str (kindS f))) tk
theorem op_Lkind {ds : List D} {tk : Tk} {Q : EV → Tk → Prop} (h : sp_Lkind ds tk Q) : ∃ (f : F3), ds = [f.D] ∧ (f.Sm 400) ∧ Q (.val (.str (kindS f))) tk := by unfold sp_Lkind at h; exact h
theorem mon_Lkind : MonFS sp_Lkind := fun ds tk Q Q' hq_ hs_ => by
  obtain ⟨f, e_, hf, q_⟩ := op_Lkind hs_
  unfold sp_Lkind
  exact ⟨f, e_, hf, hq_ _ _ q_⟩
theorem len_Lkind : ∀ ds tk Q, sp_Lkind ds tk Q → ds.length = 1 := fun ds tk Q hs_ => by
  obtain ⟨f, e_, hf, q_⟩ := op_Lkind hs_
  rw [e_]; rfl
theorem cl_Lkind {tk : Tk} {Q : EV → Tk → Prop} {f : F3} (hf : f.Sm 400) (q_ : Q (.val (.str (kindS f))) tk) : sp_Lkind [f.D] tk Q := by
  unfold sp_Lkind
  exact ⟨f, rfl, hf, q_⟩
theorem ce_Lkind {ds_ : List D} {tk : Tk} {Q : EV → Tk → Prop} {f : F3} (hf : f.Sm 400) (e_ : ds_ = [f.D]) (q_ : Q (.val (.str (kindS f))) tk) : sp_Lkind ds_ tk Q := by
  subst e_
  unfold sp_Lkind
  exact ⟨f, rfl, hf, q_⟩
abbrev N_Lkind : List Str := ["_law_form_here", "_law_d"]
def c_Lkind : WS :=
  (wSeq (wSet 1 (wOp fSub (fz (wOp fMul (fz (wOp fIdx (wPk 0) (fz (wC (.int 1))))) (fz (wOp fIdx (wPk 0) (fz (wC (.int 1))))))) (fz (wOp fMul (fz (wOp fMul (fz (wC (.int 4))) (fz (wOp fIdx (wPk 0) (fz (wC (.int 0))))))) (fz (wOp fIdx (wPk 0) (fz (wC (.int 2)))))))))
  (wSeq (wIfS (wT (wOp fLt (wPk 1) (fz (wC (.int 0))))) (wRet (wC (.str "definite"))) wNext)
  (wSeq (wIfS (wT (wOp fEq (wPk 1) (fz (wC (.int 0))))) (wRet (wC (.str "flat"))) wNext)
  (wRet (wOp fIdx (fz (wLst (wCons (fz (wC (.str "indefinite"))) (wCons (fz (wC (.str "split"))) wNil)))) (fz (w1 fInt (fz (wCall sp_Lsquare (wCons (fz (wV 1)) wNil))))))))))
theorem hw_Lkind : ∀ ds tk Q, sp_Lkind ds tk Q → c_Lkind { nx := fun _ t => Q (.val .non) t, rt := Q } (start N_Lkind.length ds) tk := by
  intro ds tk Q h_
  obtain ⟨f, rfl, hf, q⟩ := op_Lkind h_
  have hd := disc_sm hf (by decide)
  obtain ⟨a1, a2, a3⟩ := hf
  have s4 : Sm 3 4 := show (4 : Int).natAbs < 2 ^ 3 by decide
  refine ⟨q1 a2 a2, q1 s4 a1, q1 (s4.mul a1) a3, ?_⟩
  refine if2 (fun h => ?_) (fun h => ?_)
  · rw [kindS_1 h] at q
    exact q
  refine if2 (fun h2 => ?_) (fun h2 => ?_)
  · rw [kindS_2 h2] at q
    exact q
  refine ⟨rfl, ?_⟩
  refine ce_Lsquare (n := f.disc) hd rfl ?_
  have h : ¬ f.disc < 0 := h
  have h2 : f.disc ≠ 0 := h2
  by_cases z : IsSq f.disc
  · rw [isSqB_true z]
    rw [kindS_3 (by omega) z] at q
    exact q
  · rw [isSqB_false z]
    rw [kindS_4 h z] at q
    exact q
/-- a product of two unlike lines -/
theorem mul_bdF {x y : Int} {b c : Int} (hx : -b ≤ x ∧ x ≤ b) (hy : -c ≤ y ∧ y ≤ c) : -(b * c) ≤ x * y ∧ x * y ≤ b * c := by
  have h1 := Int.mul_nonneg (show 0 ≤ b - x by omega) (show 0 ≤ c + y by omega)
  have h2 := Int.mul_nonneg (show 0 ≤ b + x by omega) (show 0 ≤ c - y by omega)
  have h3 := Int.mul_nonneg (show 0 ≤ b - x by omega) (show 0 ≤ c - y by omega)
  have h4 := Int.mul_nonneg (show 0 ≤ b + x by omega) (show 0 ≤ c + y by omega)
  have e1 : (b - x) * (c + y) = b * c + b * y - x * c - x * y := by grind
  have e2 : (b + x) * (c - y) = b * c - b * y + x * c - x * y := by grind
  have e3 : (b - x) * (c - y) = b * c - b * y - x * c + x * y := by grind
  have e4 : (b + x) * (c + y) = b * c + b * y + x * c + x * y := by grind
  omega
theorem det18 {p q r s : Int} (hp : -3 ≤ p ∧ p ≤ 3) (hq : -3 ≤ q ∧ q ≤ 3) (hr : -3 ≤ r ∧ r ≤ 3) (hs : -3 ≤ s ∧ s ≤ 3) : -18 ≤ p * s - q * r ∧ p * s - q * r ≤ 18 := by
  have h1 := mul_bdF hp hs
  have h2 := mul_bdF hq hr
  omega
def SplitOf (f : F3) : Prop := ∃ p q r s g : Int, f = ⟨g * p * r, g * (p * s + q * r), g * q * s⟩ ∧ p * s ≠ q * r ∧ 1 ≤ g ∧ g ≤ 2 ∧ (-5 ≤ p ∧ p ≤ 5) ∧ (-5 ≤ q ∧ q ≤ 5) ∧ (-5 ≤ r ∧ r ≤ 5) ∧ (-5 ≤ s ∧ s ≤ 5) ∧ (-18 ≤ p * s - q * r ∧ p * s - q * r ≤ 18)
def FlatOf (f : F3) : Prop := ∃ p q g : Int, f = ⟨g * p * p, 2 * g * p * q, g * q * q⟩ ∧ ¬ (p = 0 ∧ q = 0) ∧ g ≠ 0 ∧ (-3 ≤ g ∧ g ≤ 2) ∧ (-3 ≤ p ∧ p ≤ 3) ∧ (-3 ≤ q ∧ q ≤ 3)
theorem i4_lst {b0 b1 b2 b3 : Int} : True := trivial
@[irreducible] def sp_Lsplit : FSpec := fun ds tk Q => ∃ (tc : Nat), ds = [.st] ∧ tk = some tc ∧ tc + 20 < 2 ^ 50 ∧ ∀ (f : F3), ∀ (hf : SplitOf f), ∀ tc' : Nat, tc' ≤ tc + 20 → Q (.val f.D) (some tc')
theorem op_Lsplit {ds : List D} {tk : Tk} {Q : EV → Tk → Prop} (h : sp_Lsplit ds tk Q) : ∃ (tc : Nat), ds = [.st] ∧ tk = some tc ∧ tc + 20 < 2 ^ 50 ∧ ∀ (f : F3), ∀ (hf : SplitOf f), ∀ tc' : Nat, tc' ≤ tc + 20 → Q (.val f.D) (some tc') := by unfold sp_Lsplit at h; exact h
theorem mon_Lsplit : MonFS sp_Lsplit := fun ds tk Q Q' hq_ hs_ => by
  obtain ⟨tc, e_, e2_, tch, q_⟩ := op_Lsplit hs_
  unfold sp_Lsplit
  exact ⟨tc, e_, e2_, tch, fun f hf tc_ tc_h => hq_ _ _ (q_ f hf tc_ tc_h)⟩
theorem len_Lsplit : ∀ ds tk Q, sp_Lsplit ds tk Q → ds.length = 1 := fun ds tk Q hs_ => by
  obtain ⟨tc, e_, e2_, tch, q_⟩ := op_Lsplit hs_
  rw [e_]; rfl
theorem cl_Lsplit  {Q : EV → Tk → Prop} {tc : Nat} (tch : tc + 20 < 2 ^ 50) (q_ : ∀ (f : F3), ∀ (hf : SplitOf f), ∀ tc' : Nat, tc' ≤ tc + 20 → Q (.val f.D) (some tc')) : sp_Lsplit [.st] (some tc) Q := by
  unfold sp_Lsplit
  exact ⟨tc, rfl, rfl, tch, q_⟩
theorem ce_Lsplit {ds_ : List D}  {Q : EV → Tk → Prop} {tc : Nat} (tch : tc + 20 < 2 ^ 50) (e_ : ds_ = [.st]) (q_ : ∀ (f : F3), ∀ (hf : SplitOf f), ∀ tc' : Nat, tc' ≤ tc + 20 → Q (.val f.D) (some tc')) : sp_Lsplit ds_ (some tc) Q := by
  subst e_
  unfold sp_Lsplit
  exact ⟨tc, rfl, rfl, tch, q_⟩
abbrev N_Lsplit : List Str := ["_law_state_here", "_law_p", "_law_q", "_law_r", "_law_s", "_law_g", "_law_k"]
def c_Lsplit : WS :=
  (wSeq (wAsg (fz (wLc (wR1 (fz (wC (.int 4)))) (gN 6) wYes (wOp fSub (fz (wCall sp_Lnext (wCons (fz (wV 0)) (wCons (fz (wC (.int 7))) wNil)))) (fz (wC (.int 3)))) [6])) (gL 4 (gCs (gN 1) (gCs (gN 2) (gCs (gN 3) (gCs (gN 4) gNl))))))
  (wSeq (wIfS (wT (wOp fEq (fz (wOp fMul (wPk 1) (wPk 4))) (fz (wOp fMul (wPk 2) (wPk 3))))) (wAsg (fz (wTup (wCons (fz (wC (.int 1))) (wCons (fz (wCall sp_Lnext (wCons (fz (wV 0)) (wCons (fz (wC (.int 3))) wNil)))) (wCons (fz (wC (.int 1))) (wCons (fz (wOp fAdd (fz (wC (.int 3))) (fz (wCall sp_Lnext (wCons (fz (wV 0)) (wCons (fz (wC (.int 3))) wNil)))))) wNil)))))) (gT 4 (gCs (gN 1) (gCs (gN 2) (gCs (gN 3) (gCs (gN 4) gNl)))))) wNext)
  (wSeq (wSet 5 (wOp fAdd (fz (wC (.int 1))) (fz (wOp fDiv (fz (wCall sp_Lnext (wCons (fz (wV 0)) (wCons (fz (wC (.int 4))) wNil)))) (fz (wC (.int 3)))))))
  (wRet (wTup (wCons (fz (wOp fMul (fz (wOp fMul (wPk 5) (wPk 1))) (wPk 3))) (wCons (fz (wOp fMul (wPk 5) (fz (wOp fAdd (fz (wOp fMul (wPk 1) (wPk 4))) (fz (wOp fMul (wPk 2) (wPk 3))))))) (wCons (fz (wOp fMul (fz (wOp fMul (wPk 5) (wPk 2))) (wPk 4))) wNil))))))))
theorem hw_Lsplit : ∀ ds tk Q, sp_Lsplit ds tk Q → c_Lsplit { nx := fun _ t => Q (.val .non) t, rt := Q } (start N_Lsplit.length ds) tk := by
  intro ds tk Q h_
  obtain ⟨tc, rfl, rfl, tch, q⟩ := op_Lsplit h_
  refine ⟨by decide, by decide, rfl, rfl, ifB rfl ?_⟩
  refine ⟨_, _, rfl, rfl, by first | decide | omega, by first | decide | omega, fun b0 b0_0 b0_1 => ?_⟩
  refine ⟨rfl, (show 0 < sizeLine by decide), rfl, ifB rfl ?_⟩
  refine ⟨_, _, rfl, rfl, by first | decide | omega, by first | decide | omega, fun b1 b1_0 b1_1 => ?_⟩
  refine ⟨rfl, (show 1 < sizeLine by decide), rfl, ifB rfl ?_⟩
  refine ⟨_, _, rfl, rfl, by first | decide | omega, by first | decide | omega, fun b2 b2_0 b2_1 => ?_⟩
  refine ⟨rfl, (show 2 < sizeLine by decide), rfl, ifB rfl ?_⟩
  refine ⟨_, _, rfl, rfl, by first | decide | omega, by first | decide | omega, fun b3 b3_0 b3_1 => ?_⟩
  refine ⟨rfl, (show 3 < sizeLine by decide), ?_⟩
  refine ⟨rfl, ?_⟩
  simp only [gCs, gN, gNl, start_def, List.map_cons, List.map_nil, List.set_cons_zero, List.set_cons_succ, List.replicate_succ, List.replicate_zero, List.cons_append, List.nil_append, List.length_cons, List.length_nil, Nat.reduceAdd, Nat.reduceSub]
  refine seq_cut (a := wIfS _ _ _) (fun e t => ∃ (p q r s : Int) (c' : Nat), (-18 ≤ p * s - q * r ∧ p * s - q * r ≤ 18) ∧ p * s ≠ q * r ∧ (-5 ≤ p ∧ p ≤ 5) ∧ (-5 ≤ q ∧ q ≤ 5) ∧ (-5 ≤ r ∧ r ≤ 5) ∧ (-5 ≤ s ∧ s ≤ 5) ∧ c' ≤ tc + 10 ∧ t = some c' ∧ e = [some (.val .st), some (.val (.int p)), some (.val (.int q)), some (.val (.int r)), some (.val (.int s)), none, none]) (fun R hR => ?_) ?_
  · refine ⟨by walk_at "sd", by walk_at "sd", ?_⟩
    refine if2 (fun h => ?_) (fun h => ?_)
    · refine ⟨_, _, rfl, rfl, by first | decide | omega, by first | decide | omega, fun d0 d0_0 d0_1 => ?_⟩
      refine ⟨_, _, rfl, rfl, by first | decide | omega, by first | decide | omega, fun d1 d1_0 d1_1 => ?_⟩
      refine ⟨rfl, rfl, ?_⟩
      exact hR _ _ ⟨1, d0, 1, 3 + d1, _, by omega, by omega, by omega, by omega, by omega, by omega, (show tc + 1 + 1 + 1 + 1 + 1 + 1 ≤ tc + 10 by omega), rfl, rfl⟩
    · exact hR _ _ ⟨b0 - 3, b1 - 3, b2 - 3, b3 - 3, _, det18 (by omega) (by omega) (by omega) (by omega), h, by omega, by omega, by omega, by omega, (show tc + 1 + 1 + 1 + 1 ≤ tc + 10 by omega), rfl, rfl⟩
  rintro e t ⟨p, qq, r, s, c', h18, hps, hp, hq, hr, hs, hc, rfl, rfl⟩
  refine ⟨_, _, rfl, rfl, by first | decide | omega, by first | decide | omega, fun g g_0 g_1 => ?_⟩
  refine ⟨divOk_lit (by decide) (by decide), ?_⟩
  have hg : 1 ≤ 1 + g.fdiv 3 ∧ 1 + g.fdiv 3 ≤ 2 := by
    rw [Int.fdiv_eq_ediv_of_nonneg _ (by decide)]
    omega
  obtain ⟨hg1, hg2⟩ := hg
  have sp : Sm 5 p := show p.natAbs < 2 ^ 5 by omega
  have sq : Sm 5 qq := show qq.natAbs < 2 ^ 5 by omega
  have sr : Sm 5 r := show r.natAbs < 2 ^ 5 by omega
  have ss : Sm 5 s := show s.natAbs < 2 ^ 5 by omega
  have sg : Sm 5 (1 + g.fdiv 3) := show (1 + g.fdiv 3).natAbs < 2 ^ 5 by omega
  refine ⟨by walk_at "sd", by walk_at "sd", by walk_at "sd", by walk_at "sd", by walk_at "sd", by walk_at "sd", by walk_at "sd", rfl, ?_⟩
  exact q ⟨(1 + g.fdiv 3) * p * r, (1 + g.fdiv 3) * (p * s + qq * r), (1 + g.fdiv 3) * qq * s⟩ ⟨p, qq, r, s, 1 + g.fdiv 3, rfl, hps, hg1, hg2, hp, hq, hr, hs, h18⟩ (c' + 1) (by omega)
@[irreducible] def sp_Lflat : FSpec := fun ds tk Q => ∃ (tc : Nat), ds = [.st] ∧ tk = some tc ∧ tc + 20 < 2 ^ 50 ∧ ∀ (f : F3), ∀ (hf : FlatOf f), ∀ tc' : Nat, tc' ≤ tc + 20 → Q (.val f.D) (some tc')
theorem op_Lflat {ds : List D} {tk : Tk} {Q : EV → Tk → Prop} (h : sp_Lflat ds tk Q) : ∃ (tc : Nat), ds = [.st] ∧ tk = some tc ∧ tc + 20 < 2 ^ 50 ∧ ∀ (f : F3), ∀ (hf : FlatOf f), ∀ tc' : Nat, tc' ≤ tc + 20 → Q (.val f.D) (some tc') := by unfold sp_Lflat at h; exact h
theorem mon_Lflat : MonFS sp_Lflat := fun ds tk Q Q' hq_ hs_ => by
  obtain ⟨tc, e_, e2_, tch, q_⟩ := op_Lflat hs_
  unfold sp_Lflat
  exact ⟨tc, e_, e2_, tch, fun f hf tc_ tc_h => hq_ _ _ (q_ f hf tc_ tc_h)⟩
theorem len_Lflat : ∀ ds tk Q, sp_Lflat ds tk Q → ds.length = 1 := fun ds tk Q hs_ => by
  obtain ⟨tc, e_, e2_, tch, q_⟩ := op_Lflat hs_
  rw [e_]; rfl
theorem cl_Lflat  {Q : EV → Tk → Prop} {tc : Nat} (tch : tc + 20 < 2 ^ 50) (q_ : ∀ (f : F3), ∀ (hf : FlatOf f), ∀ tc' : Nat, tc' ≤ tc + 20 → Q (.val f.D) (some tc')) : sp_Lflat [.st] (some tc) Q := by
  unfold sp_Lflat
  exact ⟨tc, rfl, rfl, tch, q_⟩
theorem ce_Lflat {ds_ : List D}  {Q : EV → Tk → Prop} {tc : Nat} (tch : tc + 20 < 2 ^ 50) (e_ : ds_ = [.st]) (q_ : ∀ (f : F3), ∀ (hf : FlatOf f), ∀ tc' : Nat, tc' ≤ tc + 20 → Q (.val f.D) (some tc')) : sp_Lflat ds_ (some tc) Q := by
  subst e_
  unfold sp_Lflat
  exact ⟨tc, rfl, rfl, tch, q_⟩
abbrev N_Lflat : List Str := ["_law_state_here", "_law_p", "_law_q", "_law_g"]
def c_Lflat : WS :=
  (wSeq (wSet 1 (wOp fSub (fz (wCall sp_Lnext (wCons (fz (wV 0)) (wCons (fz (wC (.int 7))) wNil)))) (fz (wC (.int 3)))))
  (wSeq (wSet 2 (wOp fSub (fz (wCall sp_Lnext (wCons (fz (wV 0)) (wCons (fz (wC (.int 7))) wNil)))) (fz (wC (.int 3)))))
  (wSeq (wSet 3 (wOp fIdx (fz (wLst (wCons (fz (wC (.int 1))) (wCons (fz (wC (.int 1))) (wCons (fz (w1 fNeg (fz (wC (.int 1))))) (wCons (fz (wC (.int 2))) (wCons (fz (w1 fNeg (fz (wC (.int 3))))) wNil))))))) (fz (wCall sp_Lnext (wCons (fz (wV 0)) (wCons (fz (wC (.int 5))) wNil))))))
  (wSeq (wIfS (wAnd (wT (wOp fEq (wPk 1) (fz (wC (.int 0))))) (wT (wOp fEq (wPk 2) (fz (wC (.int 0)))))) (wSet 2 (wC (.int 1))) wNext)
  (wRet (wTup (wCons (fz (wOp fMul (fz (wOp fMul (wPk 3) (wPk 1))) (wPk 1))) (wCons (fz (wOp fMul (fz (wOp fMul (fz (wOp fMul (fz (wC (.int 2))) (wPk 3))) (wPk 1))) (wPk 2))) (wCons (fz (wOp fMul (fz (wOp fMul (wPk 3) (wPk 2))) (wPk 2))) wNil)))))))))
theorem hw_Lflat : ∀ ds tk Q, sp_Lflat ds tk Q → c_Lflat { nx := fun _ t => Q (.val .non) t, rt := Q } (start N_Lflat.length ds) tk := by
  intro ds tk Q h_
  obtain ⟨tc, rfl, rfl, tch, q⟩ := op_Lflat h_
  refine ⟨_, _, rfl, rfl, by first | decide | omega, by first | decide | omega, fun b0 b0_0 b0_1 => ?_⟩
  refine ⟨_, _, rfl, rfl, by first | decide | omega, by first | decide | omega, fun b1 b1_0 b1_1 => ?_⟩
  refine ⟨rfl, ?_⟩
  refine ⟨_, _, rfl, rfl, by first | decide | omega, by first | decide | omega, fun b2 b2_0 b2_1 => ?_⟩
  refine fIdx_of (fun d => ∃ z : Int, d = .int z ∧ z ≠ 0 ∧ -3 ≤ z ∧ z ≤ 2) b2_0 b2_1 (allc ⟨1, rfl, by decide⟩ (allc ⟨1, rfl, by decide⟩ (all3 ⟨-1, rfl, by decide⟩ ⟨2, rfl, by decide⟩ ⟨-3, rfl, by decide⟩))) ?_
  rintro _ ⟨g, rfl, hg0, hg1, hg2⟩
  simp only [gCs, gN, gNl, start_def, List.map_cons, List.map_nil, List.set_cons_zero, List.set_cons_succ, List.replicate_succ, List.replicate_zero, List.cons_append, List.nil_append, List.length_cons, List.length_nil, Nat.reduceAdd, Nat.reduceSub]
  refine seq_cut (a := wIfS _ _ _) (fun e t => ∃ p q : Int, (-3 ≤ p ∧ p ≤ 3) ∧ (-3 ≤ q ∧ q ≤ 3) ∧ ¬ (p = 0 ∧ q = 0) ∧ t = some (tc + 1 + 1 + 1) ∧ e = [some (.val .st), some (.val (.int p)), some (.val (.int q)), some (.val (.int g))]) (fun R hR => ?_) ?_
  · refine if2 (fun h => if2 (fun h2 => ?_) (fun h2 => ?_)) (fun h => ?_)
    · exact hR _ _ ⟨b0 - 3, 1, by omega, by omega, by omega, rfl, rfl⟩
    · exact hR _ _ ⟨b0 - 3, b1 - 3, by omega, by omega, fun z => h2 z.2, rfl, rfl⟩
    · exact hR _ _ ⟨b0 - 3, b1 - 3, by omega, by omega, fun z => h z.1, rfl, rfl⟩
  rintro e t ⟨p, qq, hp, hq, hpq, rfl, rfl⟩
  have sp : Sm 5 p := show p.natAbs < 2 ^ 5 by omega
  have sq : Sm 5 qq := show qq.natAbs < 2 ^ 5 by omega
  have sg : Sm 5 g := show g.natAbs < 2 ^ 5 by omega
  refine ⟨by walk_at "sd", by walk_at "sd", by walk_at "sd", by walk_at "sd", by walk_at "sd", by walk_at "sd", by walk_at "sd", rfl, ?_⟩
  exact q ⟨g * p * p, 2 * g * p * qq, g * qq * qq⟩ ⟨p, qq, g, rfl, hpq, hg0, ⟨hg1, hg2⟩, hp, hq⟩ (tc + 1 + 1 + 1) (by omega)
def KindOf (s : Str) (f : F3) : Prop := kindS f = s ∧ f.a ≠ 0 ∧ f.c ≠ 0 ∧ (-5 ≤ f.a ∧ f.a ≤ 5) ∧ (-6 ≤ f.b ∧ f.b ≤ 6) ∧ (-5 ≤ f.c ∧ f.c ≤ 5)
def FormOf (s : Str) (f : F3) : Prop := (s = "split" ∧ SplitOf f) ∨ (s = "flat" ∧ FlatOf f) ∨ ((s = "definite" ∨ s = "indefinite") ∧ KindOf s f)
theorem sort_ok {s : Str} (h : s = "split" ∨ s = "flat" ∨ s = "definite" ∨ s = "indefinite") : D.ok (.str s) = true := by
  rcases h with rfl | rfl | rfl | rfl
  · exact ok_str4
  · exact ok_str2
  · exact ok_str1
  · exact ok_str3
@[irreducible] def sp_Lform : FSpec := fun ds tk Q => ∃ (s : Str) (tc : Nat), ds = [.st, .str s] ∧ tk = some tc ∧ tc + 200 < 2 ^ 50 ∧ (s = "split" ∨ s = "flat" ∨ s = "definite" ∨ s = "indefinite") ∧ ∀ (f : F3), ∀ (hf : FormOf s f), ∀ tc' : Nat, tc' ≤ tc + 200 → Q (.val f.D) (some tc')
theorem op_Lform {ds : List D} {tk : Tk} {Q : EV → Tk → Prop} (h : sp_Lform ds tk Q) : ∃ (s : Str) (tc : Nat), ds = [.st, .str s] ∧ tk = some tc ∧ tc + 200 < 2 ^ 50 ∧ (s = "split" ∨ s = "flat" ∨ s = "definite" ∨ s = "indefinite") ∧ ∀ (f : F3), ∀ (hf : FormOf s f), ∀ tc' : Nat, tc' ≤ tc + 200 → Q (.val f.D) (some tc') := by unfold sp_Lform at h; exact h
theorem mon_Lform : MonFS sp_Lform := fun ds tk Q Q' hq_ hs_ => by
  obtain ⟨s, tc, e_, e2_, tch, hs, q_⟩ := op_Lform hs_
  unfold sp_Lform
  exact ⟨s, tc, e_, e2_, tch, hs, fun f hf tc_ tc_h => hq_ _ _ (q_ f hf tc_ tc_h)⟩
theorem len_Lform : ∀ ds tk Q, sp_Lform ds tk Q → ds.length = 2 := fun ds tk Q hs_ => by
  obtain ⟨s, tc, e_, e2_, tch, hs, q_⟩ := op_Lform hs_
  rw [e_]; rfl
theorem cl_Lform  {Q : EV → Tk → Prop} {s : Str} {tc : Nat} (tch : tc + 200 < 2 ^ 50) (hs : s = "split" ∨ s = "flat" ∨ s = "definite" ∨ s = "indefinite") (q_ : ∀ (f : F3), ∀ (hf : FormOf s f), ∀ tc' : Nat, tc' ≤ tc + 200 → Q (.val f.D) (some tc')) : sp_Lform [.st, .str s] (some tc) Q := by
  unfold sp_Lform
  exact ⟨s, tc, rfl, rfl, tch, hs, q_⟩
theorem ce_Lform {ds_ : List D}  {Q : EV → Tk → Prop} {s : Str} {tc : Nat} (tch : tc + 200 < 2 ^ 50) (hs : s = "split" ∨ s = "flat" ∨ s = "definite" ∨ s = "indefinite") (e_ : ds_ = [.st, .str s]) (q_ : ∀ (f : F3), ∀ (hf : FormOf s f), ∀ tc' : Nat, tc' ≤ tc + 200 → Q (.val f.D) (some tc')) : sp_Lform ds_ (some tc) Q := by
  subst e_
  unfold sp_Lform
  exact ⟨s, tc, rfl, rfl, tch, hs, q_⟩
abbrev N_Lform : List Str := ["_law_state_here", "_law_sort", "_law_k", "_law_a", "_law_c", "_law_form_here"]
def c_Lform : WS :=
  (wSeq (wIfS (wT (wOp fEq (wPk 1) (fz (wC (.str "split"))))) (wRet (wCall sp_Lsplit (wCons (fz (wV 0)) wNil))) wNext)
  (wSeq (wIfS (wT (wOp fEq (wPk 1) (fz (wC (.str "flat"))))) (wRet (wCall sp_Lflat (wCons (fz (wV 0)) wNil))) wNext)
  (wSeq (wFor (wR1 (fz (wC (.int 30)))) (gN 2) (wSeq (wSet 3 (wOp fMul (fz (wOp fAdd (fz (wC (.int 1))) (fz (wCall sp_Lnext (wCons (fz (wV 0)) (wCons (fz (wC (.int 5))) wNil)))))) (fz (wOp fIdx (fz (wLst (wCons (fz (wC (.int 1))) (wCons (fz (w1 fNeg (fz (wC (.int 1))))) wNil)))) (fz (wCall sp_Lnext (wCons (fz (wV 0)) (wCons (fz (wC (.int 2))) wNil))))))))
  (wSeq (wSet 4 (wOp fMul (fz (wOp fAdd (fz (wC (.int 1))) (fz (wCall sp_Lnext (wCons (fz (wV 0)) (wCons (fz (wC (.int 5))) wNil)))))) (fz (wOp fIdx (fz (wLst (wCons (fz (wC (.int 1))) (wCons (fz (w1 fNeg (fz (wC (.int 1))))) wNil)))) (fz (wCall sp_Lnext (wCons (fz (wV 0)) (wCons (fz (wC (.int 2))) wNil))))))))
  (wSeq (wSet 5 (wTup (wCons (fz (wV 3)) (wCons (fz (wOp fSub (fz (wCall sp_Lnext (wCons (fz (wV 0)) (wCons (fz (wC (.int 13))) wNil)))) (fz (wC (.int 6))))) (wCons (fz (wV 4)) wNil)))))
  (wIfS (wT (wOp fEq (fz (wCall sp_Lkind (wCons (fz (wV 5)) wNil))) (wPk 1))) (wRetV 5) wNext)))))
  (wRet (wOp fIdx (fz (wLst (wCons (fz (wTup (wCons (fz (wC (.int 1))) (wCons (fz (wC (.int 1))) (wCons (fz (wC (.int 2))) wNil))))) (wCons (fz (wTup (wCons (fz (wC (.int 1))) (wCons (fz (wC (.int 0))) (wCons (fz (w1 fNeg (fz (wC (.int 2))))) wNil))))) wNil)))) (fz (w1 fInt (fz (wOp fEq (wPk 1) (fz (wC (.str "indefinite"))))))))))))
theorem hw_Lform : ∀ ds tk Q, sp_Lform ds tk Q → c_Lform { nx := fun _ t => Q (.val .non) t, rt := Q } (start N_Lform.length ds) tk := by
  intro ds tk Q h_
  obtain ⟨s, tc, rfl, rfl, tch, hs, q⟩ := op_Lform h_
  refine ⟨sort_ok hs, ok_str4, ?_⟩
  by_cases h1 : s = "split"
  · subst h1
    refine ifB rfl ?_
    exact cl_Lsplit (by omega) fun f hf c' hc => q f (.inl ⟨rfl, hf⟩) c' (by omega)
  refine ifBF (beq_eq_false_iff_ne.mpr h1) ?_
  refine ⟨sort_ok hs, ok_str2, ?_⟩
  by_cases h2 : s = "flat"
  · subst h2
    refine ifB rfl ?_
    exact cl_Lflat (by omega) fun f hf c' hc => q f (.inr (.inl ⟨rfl, hf⟩)) c' (by omega)
  refine ifBF (beq_eq_false_iff_ne.mpr h2) ?_
  have hs2 : s = "definite" ∨ s = "indefinite" := (hs.resolve_left h1).resolve_left h2
  refine ⟨by decide, by decide, ?_⟩
  refine forGo_rng (fun i e t => ∃ (x2 x3 x4 x5 : Option EV), t = some (tc + 5 * i) ∧ e = [some (.val .st), some (.val (.str s)), x2, x3, x4, x5]) (fun i e t R hi hI hR => ?_) (fun e t hI => ?_) ⟨none, none, none, none, rfl, rfl⟩
  · obtain ⟨x2, x3, x4, x5, rfl, rfl⟩ := hI
    have hi' : i < 30 := hi
    refine ⟨_, _, rfl, rfl, by first | decide | omega, by first | decide | omega, fun a0 a0_0 a0_1 => ?_⟩
    refine ⟨rfl, ?_⟩
    refine ⟨_, _, rfl, rfl, by first | decide | omega, by first | decide | omega, fun a1 a1_0 a1_1 => ?_⟩
    refine fIdx_of (fun d => ∃ z : Int, d = .int z ∧ (z = 1 ∨ z = -1)) a1_0 a1_1 (all2 ⟨1, rfl, .inl rfl⟩ ⟨-1, rfl, .inr rfl⟩) ?_
    rintro _ ⟨g1, rfl, hg1⟩
    refine ⟨by walk_at "sd", ?_⟩
    refine ⟨_, _, rfl, rfl, by first | decide | omega, by first | decide | omega, fun c0 c0_0 c0_1 => ?_⟩
    refine ⟨rfl, ?_⟩
    refine ⟨_, _, rfl, rfl, by first | decide | omega, by first | decide | omega, fun c1 c1_0 c1_1 => ?_⟩
    refine fIdx_of (fun d => ∃ z : Int, d = .int z ∧ (z = 1 ∨ z = -1)) c1_0 c1_1 (all2 ⟨1, rfl, .inl rfl⟩ ⟨-1, rfl, .inr rfl⟩) ?_
    rintro _ ⟨g2, rfl, hg2⟩
    refine ⟨by walk_at "sd", ?_⟩
    refine ⟨_, _, rfl, rfl, by first | decide | omega, by first | decide | omega, fun b0 b0_0 b0_1 => ?_⟩
    refine ⟨rfl, ?_⟩
    simp only [gCs, gN, gNl, start_def, List.map_cons, List.map_nil, List.set_cons_zero, List.set_cons_succ, List.replicate_succ, List.replicate_zero, List.cons_append, List.nil_append, List.length_cons, List.length_nil, Nat.reduceAdd, Nat.reduceSub]
    have ha : (-5 ≤ (1 + a0) * g1 ∧ (1 + a0) * g1 ≤ 5) ∧ (1 + a0) * g1 ≠ 0 := by rcases hg1 with rfl | rfl <;> omega
    have hc : (-5 ≤ (1 + c0) * g2 ∧ (1 + c0) * g2 ≤ 5) ∧ (1 + c0) * g2 ≠ 0 := by rcases hg2 with rfl | rfl <;> omega
    generalize (1 + a0) * g1 = a at ha ⊢
    generalize (1 + c0) * g2 = c at hc ⊢
    obtain ⟨f, hf⟩ : ∃ f : F3, f = ⟨a, b0 - 6, c⟩ := ⟨_, rfl⟩
    have fs : f.Sm 400 := by rw [hf]; exact ⟨by walk_at "sd", by walk_at "sd", by walk_at "sd"⟩
    refine ce_Lkind (f := f) fs (by rw [hf]; rfl) ?_
    refine ⟨kindS_ok f, sort_ok hs, ?_⟩
    by_cases z : kindS f = s
    · refine ifB (show (kindS f == s) = true by rw [z]; exact beq_self_eq_true s) ?_
      have r := q f (.inr (.inr ⟨hs2, z, by rw [hf]; exact ha.2, by rw [hf]; exact hc.2, by rw [hf]; exact ha.1, by rw [hf]; show -6 ≤ b0 - 6 ∧ b0 - 6 ≤ 6; omega, by rw [hf]; exact hc.1⟩)) (tc + 5 * i + 1 + 1 + 1 + 1 + 1) (by omega)
      rw [hf] at r
      exact r
    · refine ifBF (beq_eq_false_iff_ne.mpr z) ?_
      exact hR _ _ ⟨_, _, _, _, rfl, rfl⟩
  · obtain ⟨x2, x3, x4, x5, rfl, rfl⟩ := hI
    refine ⟨rfl, rfl, rfl, sort_ok hs, ok_str3, ?_⟩
    have d1 : F3.disc ⟨1, 1, 2⟩ < 0 := by decide
    have d2 : ¬ F3.disc ⟨1, 0, -2⟩ < 0 := by decide
    have n8 : ¬ IsSq (F3.disc ⟨1, 0, -2⟩) := by
      intro w
      have : isSqB 8 = true := isSqB_true w
      exact absurd this (by decide +kernel)
    rcases hs2 with rfl | rfl
    · exact q ⟨1, 1, 2⟩ (.inr (.inr ⟨.inl rfl, kindS_1 d1, by decide, by decide, by decide, by decide, by decide⟩)) _ (by show tc + 5 * 30 ≤ tc + 200; omega)
    · exact q ⟨1, 0, -2⟩ (.inr (.inr ⟨.inr rfl, kindS_4 d2 n8, by decide, by decide, by decide, by decide, by decide⟩)) _ (by show tc + 5 * 30 ≤ tc + 200; omega)
end DL
set_option maxHeartbeats 1000000
namespace DL
/-! ### forms and changes, plainly -/
theorem F3.act_mul (f : F3) (m n : M4) : (f.act m).act n = f.act (m.mul n) := by
  apply F3.ext <;> (unfold F3.act F3.worth M4.mul; dsimp only; grind)
theorem F3.act_one (f : F3) : f.act M4.one = f := by
  apply F3.ext <;> (unfold F3.act F3.worth M4.one; dsimp only; grind)
theorem F3.disc_act (f : F3) (m : M4) : (f.act m).disc = f.disc * (m.det * m.det) := by
  unfold F3.disc F3.act F3.worth M4.det; dsimp only; grind
theorem F3.disc_act1 (f : F3) {m : M4} (h : m.det = 1) : (f.act m).disc = f.disc := by rw [F3.disc_act, h]; omega
theorem F3.worth_act (f : F3) (m : M4) (v : P2) : (f.act m).worth v = f.worth (m.at v) := by
  unfold F3.act F3.worth M4.at; dsimp only; grind
/-- the inverse of a change of determinant 1 -/
def M4.adj (m : M4) : M4 := ⟨m.s, -m.q, -m.r, m.p⟩
theorem M4.mul_adj {m : M4} (h : m.det = 1) : m.mul m.adj = M4.one := by
  unfold M4.det at h
  apply M4.ext <;> (unfold M4.mul M4.adj M4.one; dsimp only; grind)
theorem M4.adj_mul {m : M4} (h : m.det = 1) : m.adj.mul m = M4.one := by
  unfold M4.det at h
  apply M4.ext <;> (unfold M4.mul M4.adj M4.one; dsimp only; grind)
theorem M4.det_adj (m : M4) : m.adj.det = m.det := by unfold M4.det M4.adj; dsimp only; grind
theorem M4.det_mul1 {m n : M4} (h : m.det = 1) (h' : n.det = 1) : (m.mul n).det = 1 := by rw [M4.det_mul, h, h']; rfl
theorem F3.back {f g : F3} {m : M4} (h : m.det = 1) (e : f.act m = g) : g.act m.adj = f := by rw [← e, F3.act_mul, M4.mul_adj h, F3.act_one]
theorem M4.inv_adj {m : M4} (h : m.det = 1) : m.inv = m.adj := by
  apply M4.ext <;> (unfold M4.inv M4.adj; dsimp only; rw [h]; omega)
def F3.scale (f : F3) (n : Int) : F3 := ⟨f.a * n, f.b * n, f.c * n⟩
theorem F3.scale_act (f : F3) (n : Int) (m : M4) : (f.scale n).act m = (f.act m).scale n := by
  apply F3.ext <;> (unfold F3.act F3.scale F3.worth; dsimp only; grind)
theorem F3.scale_disc (f : F3) (n : Int) : (f.scale n).disc = f.disc * (n * n) := by unfold F3.disc F3.scale; dsimp only; grind
theorem F3.scale_neg (f : F3) : (f.scale (-1)).scale (-1) = f := by apply F3.ext <;> (unfold F3.scale; dsimp only; omega)
/-! ### sizes -/
theorem F3.Sm.up {f : F3} {k j : Nat} (h : f.Sm k) (hk : k ≤ j) : f.Sm j := ⟨h.1.mono hk, h.2.1.mono hk, h.2.2.mono hk⟩
theorem M4.Sm.up {f : M4} {k j : Nat} (h : f.Sm k) (hk : k ≤ j) : f.Sm j := ⟨h.1.mono hk, h.2.1.mono hk, h.2.2.1.mono hk, h.2.2.2.mono hk⟩
theorem worth_size {f : F3} {v : P2} {k j : Nat} (hf : f.Sm k) (hv : v.Sm j) : DL.Sm (k + 2 * j + 2) (f.worth v) := by
  obtain ⟨a1, a2, a3⟩ := hf
  obtain ⟨c1, c2⟩ := hv
  have h1 := ((a1.mul c1).mul c1).mono (show k + j + j ≤ k + 2 * j by omega)
  have h2 := ((a2.mul c1).mul c2).mono (show k + j + j ≤ k + 2 * j by omega)
  have h3 := ((a3.mul c2).mul c2).mono (show k + j + j ≤ k + 2 * j + 1 by omega)
  exact (h1.add h2).add h3
theorem act_size {f : F3} {m : M4} {k j : Nat} (hf : f.Sm k) (hm : m.Sm j) : (f.act m).Sm (k + 2 * j + 4) := by
  obtain ⟨b1, b2, b3, b4⟩ := hm
  have w1 := worth_size (v := ⟨m.p, m.r⟩) hf ⟨b1, b3⟩
  have w2 := worth_size (v := ⟨m.q, m.s⟩) hf ⟨b2, b4⟩
  refine ⟨w1.mono (by omega), ?_, w2.mono (by omega)⟩
  obtain ⟨a1, a2, a3⟩ := hf
  have s2 : DL.Sm 2 2 := show (2 : Int).natAbs < 2 ^ 2 by decide
  have h1 := (((s2.mul a1).mul b1).mul b2).mono (show 2 + k + j + j ≤ k + 2 * j + 2 by omega)
  have h2 := (a2.mul ((b1.mul b4).add (b2.mul b3))).mono (show k + (j + j + 1) ≤ k + 2 * j + 2 by omega)
  have h3 := (((s2.mul a3).mul b3).mul b4).mono (show 2 + k + j + j ≤ k + 2 * j + 3 by omega)
  exact (h1.add h2).add h3
theorem mul_size {m n : M4} {k j : Nat} (hf : m.Sm k) (hm : n.Sm j) : (m.mul n).Sm (k + j + 1) := by
  obtain ⟨a1, a2, a3, a4⟩ := hf
  obtain ⟨b1, b2, b3, b4⟩ := hm
  exact ⟨(a1.mul b1).add (a2.mul b3), (a1.mul b2).add (a2.mul b4), (a3.mul b1).add (a4.mul b3), (a3.mul b2).add (a4.mul b4)⟩
theorem kind_size {s : PySem.Str} {f : F3} (h : KindOf s f) : f.Sm 3 := by
  obtain ⟨_, _, _, h1, h2, h3⟩ := h
  exact ⟨show f.a.natAbs < 2 ^ 3 by omega, show f.b.natAbs < 2 ^ 3 by omega, show f.c.natAbs < 2 ^ 3 by omega⟩
theorem split_size {f : F3} (h : SplitOf f) : f.Sm 20 := by
  obtain ⟨p, q, r, s, g, rfl, _, h1, h2, hp, hq, hr, hs, _⟩ := h
  have sp : Sm 5 p := show p.natAbs < 2 ^ 5 by omega
  have sq : Sm 5 q := show q.natAbs < 2 ^ 5 by omega
  have sr : Sm 5 r := show r.natAbs < 2 ^ 5 by omega
  have ss : Sm 5 s := show s.natAbs < 2 ^ 5 by omega
  have sg : Sm 5 g := show g.natAbs < 2 ^ 5 by omega
  exact ⟨((sg.mul sp).mul sr).mono (by decide), (sg.mul ((sp.mul ss).add (sq.mul sr))).mono (by decide), ((sg.mul sq).mul ss).mono (by decide)⟩
theorem flat_size {f : F3} (h : FlatOf f) : f.Sm 20 := by
  obtain ⟨p, q, g, rfl, _, _, h1, hp, hq⟩ := h
  have sp : Sm 5 p := show p.natAbs < 2 ^ 5 by omega
  have sq : Sm 5 q := show q.natAbs < 2 ^ 5 by omega
  have sg : Sm 5 g := show g.natAbs < 2 ^ 5 by omega
  have s2 : DL.Sm 2 2 := show (2 : Int).natAbs < 2 ^ 2 by decide
  exact ⟨((sg.mul sp).mul sp).mono (by decide), (((s2.mul sg).mul sp).mul sq).mono (by decide), ((sg.mul sq).mul sq).mono (by decide)⟩
theorem form_size {s : PySem.Str} {f : F3} (h : FormOf s f) : f.Sm 20 := by
  rcases h with ⟨_, h⟩ | ⟨_, h⟩ | ⟨_, h⟩
  · exact split_size h
  · exact flat_size h
  · exact (kind_size h).up (by decide)
/-! ### reduced positive forms -/
def Red (f : F3) : Prop := -f.a < f.b ∧ f.b ≤ f.a ∧ f.a ≤ f.c ∧ (0 ≤ f.b ∨ f.a < f.c)
instance (f : F3) : Decidable (Red f) := by unfold Red; infer_instance
theorem sq_nn (x : Int) : 0 ≤ x * x := by
  rcases Int.le_total 0 x with z | z
  · exact Int.mul_nonneg z z
  · exact Int.mul_nonneg_of_nonpos_of_nonpos z z
theorem sq_pos {x : Int} (h : x ≠ 0) : 1 ≤ x * x := by
  have h1 := sq_nn x
  have h2 : x * x ≠ 0 := fun z => h ((Int.mul_eq_zero.mp z).elim id id)
  omega
/-- the values of a reduced form off its first axis are at least its last number -/
theorem red_val {a b c x y : Int} (a0 : 0 < a) (h1 : -a ≤ b) (h2 : b ≤ a) (h3 : a ≤ c) (hy : y ≠ 0) : c ≤ a * x * x + b * x * y + c * y * y := by
  have hz : ∃ z : Int, 0 ≤ z ∧ -(a * z) ≤ b * (x * y) ∧ z * z = (x * y) * (x * y) ∧ 2 * z ≤ x * x + y * y := by
    rcases Int.le_total 0 (x * y) with w | w
    · refine ⟨x * y, w, ?_, rfl, ?_⟩
      · have := Int.mul_le_mul_of_nonneg_right h1 w
        rw [Int.neg_mul] at this
        exact this
      · have := sq_nn (x - y)
        have e : (x - y) * (x - y) = x * x + y * y - 2 * (x * y) := by grind
        omega
    · refine ⟨-(x * y), by omega, ?_, by grind, ?_⟩
      · have := Int.mul_le_mul_of_nonpos_right h2 w
        rw [Int.mul_neg, Int.neg_neg]
        exact this
      · have := sq_nn (x + y)
        have e : (x + y) * (x + y) = x * x + y * y + 2 * (x * y) := by grind
        omega
  obtain ⟨z, z0, z1, _, z2⟩ := hz
  have y1 := sq_pos hy
  have x0 := sq_nn x
  have e1 : a * x * x + b * x * y + c * y * y = a * (x * x - z + y * y - 1) + a * z + b * (x * y) + (c - a) * (y * y - 1) + c := by grind
  have p1 : 0 ≤ a * (x * x - z + y * y - 1) := Int.mul_nonneg (by omega) (by omega)
  have p2 : 0 ≤ (c - a) * (y * y - 1) := Int.mul_nonneg (by omega) (by omega)
  omega
theorem red_min {f : F3} {v : P2} (a0 : 0 < f.a) (h : Red f) (hv : v.x ≠ 0 ∨ v.y ≠ 0) : f.a ≤ f.worth v ∧ (v.y ≠ 0 → f.c ≤ f.worth v) := by
  obtain ⟨h1, h2, h3, _⟩ := h
  have k : v.y ≠ 0 → f.c ≤ f.worth v := fun hy => red_val a0 (by omega) h2 h3 hy
  refine ⟨?_, k⟩
  by_cases hy : v.y = 0
  · have hx : v.x ≠ 0 := hv.resolve_right fun z => z hy
    unfold F3.worth
    rw [hy]
    have := Int.mul_le_mul_of_nonneg_left (sq_pos hx) (show 0 ≤ f.a by omega)
    have e : f.a * v.x * v.x + f.b * v.x * 0 + f.c * 0 * 0 = f.a * (v.x * v.x) := by grind
    omega
  · have := k hy
    omega
theorem det_col {m : M4} (h : m.det = 1) : m.p ≠ 0 ∨ m.r ≠ 0 := by
  refine Decidable.byContradiction fun z => ?_
  have : m.p = 0 ∧ m.r = 0 := by omega
  unfold M4.det at h
  rw [this.1, this.2, Int.zero_mul, Int.mul_zero] at h
  omega
/-- a form has one reduced one -/
theorem red_uniq {f g : F3} {m : M4} (fa : 0 < f.a) (ga : 0 < g.a) (hf : Red f) (hg : Red g) (hd : m.det = 1) (e : f.act m = g) : f = g := by
  have hd' : m.adj.det = 1 := by rw [M4.det_adj]; exact hd
  have e' := F3.back hd e
  have ea : g.a = f.worth ⟨m.p, m.r⟩ := by rw [← e]; rfl
  have eb : f.a = g.worth ⟨m.s, -m.r⟩ := by rw [← e']; rfl
  have k1 := red_min (v := ⟨m.p, m.r⟩) fa hf (det_col hd)
  have k2 := red_min (v := ⟨m.s, -m.r⟩) ga hg (det_col hd')
  have eq : f.a = g.a := by have := k1.1; have := k2.1; omega
  have dd : g.disc = f.disc := by rw [← e]; exact F3.disc_act1 f hd
  unfold F3.disc at dd
  by_cases hr : m.r = 0
  · have hps : m.p * m.s = 1 := by unfold M4.det at hd; rw [hr, Int.mul_zero] at hd; omega
    have hgb : g.b = f.b + 2 * f.a * (m.p * m.q) := by
      rw [← e]
      show 2 * f.a * m.p * m.q + f.b * (m.p * m.s + m.q * m.r) + 2 * f.c * m.r * m.s = _
      rw [hr, hps]; grind
    have hb : f.b = g.b := by
      obtain ⟨h1, h2, _, _⟩ := hf
      obtain ⟨h3, h4, _, _⟩ := hg
      have z : m.p * m.q = 0 := by
        rcases Int.lt_trichotomy (m.p * m.q) 0 with z | z | z
        · exfalso
          have := Int.mul_le_mul_of_nonneg_left (show m.p * m.q ≤ -1 by omega) (show 0 ≤ 2 * f.a by omega)
          omega
        · exact z
        · exfalso
          have := Int.mul_le_mul_of_nonneg_left (show 1 ≤ m.p * m.q by omega) (show 0 ≤ 2 * f.a by omega)
          omega
      rw [z, Int.mul_zero] at hgb
      omega
    refine F3.ext eq hb ?_
    rw [← eq, ← hb] at dd
    have : (4 * f.a) * (f.c - g.c) = 0 := by grind
    rcases Int.mul_eq_zero.mp this with z | z <;> omega
  · have c1 : f.c ≤ f.a := by have := k1.2 hr; omega
    have c2 : g.c ≤ g.a := by have := k2.2 (show -m.r ≠ 0 by omega); omega
    obtain ⟨h1, h2, h3, h4⟩ := hf
    obtain ⟨h5, h6, h7, h8⟩ := hg
    have fc : f.c = f.a := by omega
    have gc : g.c = g.a := by omega
    have hb : f.b = g.b := by
      have b1 : 0 ≤ f.b := h4.resolve_right (by omega)
      have b2 : 0 ≤ g.b := h8.resolve_right (by omega)
      rw [fc, gc, ← eq] at dd
      have : (g.b - f.b) * (g.b + f.b) = 0 := by grind
      rcases Int.mul_eq_zero.mp this with z | z <;> omega
    exact F3.ext eq hb (by omega)
/-! ### the way to the reduced form -/
def redFlag (f : F3) : Nat := if -f.a < f.b ∧ f.b ≤ f.a then 0 else 2
def redMeas (f : F3) : Nat := 4 * f.a.toNat + redFlag f + (if f.b < 0 then 1 else 0)
def swapM : M4 := ⟨0, -1, 1, 0⟩
def tranM (t : Int) : M4 := ⟨1, t, 0, 1⟩
theorem act_swap (f : F3) : f.act swapM = ⟨f.c, -f.b, f.a⟩ := by apply F3.ext <;> (unfold F3.act F3.worth swapM; dsimp only; omega)
theorem act_tran (f : F3) (t : Int) : f.act (tranM t) = ⟨f.a, f.b + 2 * f.a * t, f.a * t * t + f.b * t + f.c⟩ := by apply F3.ext <;> (unfold F3.act F3.worth tranM; dsimp only; grind)
theorem flag_le (f : F3) : redFlag f ≤ 2 := by unfold redFlag; split <;> omega
theorem swap_less {f : F3} (a0 : 0 < f.a) (c0 : 0 < f.c) (h : f.c < f.a ∨ (f.a = f.c ∧ f.b < 0)) : redMeas (f.act swapM) < redMeas f := by
  rw [act_swap]
  rcases h with h | ⟨h, h2⟩
  · have := flag_le ⟨f.c, -f.b, f.a⟩
    unfold redMeas
    dsimp only
    split <;> split <;> omega
  · unfold redMeas redFlag
    dsimp only
    split <;> split <;> split <;> (try split) <;> omega
theorem tran_b {a b : Int} (a0 : 0 < a) : -a < b + 2 * a * (a - b).fdiv (2 * a) ∧ b + 2 * a * (a - b).fdiv (2 * a) ≤ a := by
  have h1 := Int.mul_fdiv_add_fmod (a - b) (2 * a)
  have h2 := Int.fmod_nonneg_of_pos (a - b) (show 0 < 2 * a by omega)
  have h3 := Int.fmod_lt_of_pos (a - b) (show 0 < 2 * a by omega)
  omega
theorem tran_less {f : F3} (a0 : 0 < f.a) (h : ¬ Red f) (h2 : ¬ (f.c < f.a ∨ (f.a = f.c ∧ f.b < 0))) : redMeas (f.act (tranM ((f.a - f.b).fdiv (2 * f.a)))) < redMeas f := by
  have t := tran_b (b := f.b) a0
  rw [act_tran]
  unfold redMeas redFlag
  dsimp only
  rw [if_pos t]
  have : ¬ (-f.a < f.b ∧ f.b ≤ f.a) := fun z => h ⟨z.1, z.2, by omega, by omega⟩
  rw [if_neg this]
  split <;> split <;> omega
/-- sizes on the way -/
theorem def_c {f : F3} (hd : f.disc < 0) (a0 : 0 < f.a) : 0 < f.c := by
  refine Int.not_le.mp fun z => ?_
  unfold F3.disc at hd
  have h1 := sq_nn f.b
  have h2 := Int.mul_nonneg (show 0 ≤ 4 * f.a by omega) (show 0 ≤ -f.c by omega)
  rw [Int.mul_neg] at h2
  omega
theorem def_b {f : F3} (hd : f.disc < 0) : f.b * f.b ≤ 4 * f.a * f.c := by unfold F3.disc at hd; omega
theorem sq_le_abs {x y : Int} (h : x * x ≤ y) : x.natAbs ≤ y.natAbs := by
  have e : (x.natAbs * x.natAbs : Nat) = (x * x).natAbs := (Int.natAbs_mul x x).symm
  have : x.natAbs * x.natAbs ≤ y.natAbs := by
    rw [e]
    have := sq_nn x
    omega
  exact Nat.le_trans (Nat.le_mul_self _) this
theorem tran_c {f : F3} {t : Int} (a0 : 0 < f.a) (hb : -f.a < f.b + 2 * f.a * t ∧ f.b + 2 * f.a * t ≤ f.a) : f.a * t * t + f.b * t + f.c ≤ f.a - f.disc ∨ 0 ≤ f.disc := by
  by_cases z : 0 ≤ f.disc
  · exact .inr z
  left
  have hd : (f.act (tranM t)).disc = f.disc := F3.disc_act1 f (by unfold M4.det tranM; dsimp only; omega)
  rw [act_tran] at hd
  unfold F3.disc at hd z ⊢
  dsimp only at hd
  generalize f.b + 2 * f.a * t = b' at *
  generalize f.a * t * t + f.b * t + f.c = c' at *
  generalize f.b * f.b - 4 * f.a * f.c = dd at *
  -- 4 a c' = b'^2 - dd <= a^2 - dd
  have h1 : b' * b' ≤ f.a * f.a := by
    have h2 : 0 ≤ (f.a - b') * (f.a + b') := Int.mul_nonneg (by omega) (by omega)
    have e : (f.a - b') * (f.a + b') = f.a * f.a - b' * b' := by grind
    omega
  refine Int.not_lt.mp fun w => ?_
  have h3 : 4 * f.a * (f.a - dd + 1) ≤ 4 * f.a * c' := Int.mul_le_mul_of_nonneg_left (by omega) (by omega)
  have h4 : 4 * f.a * (f.a - dd + 1) = 4 * (f.a * f.a) + 4 * f.a * (-dd) + 4 * f.a := by grind
  have h5 : 1 * (-dd) ≤ 4 * f.a * (-dd) := Int.mul_le_mul_of_nonneg_right (by omega) (by omega)
  have h6 := sq_nn f.a
  omega
/-- what leads from a positive form to values below a bound is small -/
theorem col_small {f : F3} {v : P2} (a0 : 0 < f.a) (hd : f.disc < 0) : v.y * v.y ≤ 4 * f.a * f.worth v ∧ v.x * v.x ≤ 4 * f.c * f.worth v := by
  have c0 := def_c hd a0
  have e1 : 4 * f.a * f.worth v = (2 * f.a * v.x + f.b * v.y) * (2 * f.a * v.x + f.b * v.y) + (-f.disc) * (v.y * v.y) := by unfold F3.worth F3.disc; grind
  have e2 : 4 * f.c * f.worth v = (2 * f.c * v.y + f.b * v.x) * (2 * f.c * v.y + f.b * v.x) + (-f.disc) * (v.x * v.x) := by unfold F3.worth F3.disc; grind
  have h1 := sq_nn (2 * f.a * v.x + f.b * v.y)
  have h2 := sq_nn (2 * f.c * v.y + f.b * v.x)
  have h3 : 1 * (v.y * v.y) ≤ (-f.disc) * (v.y * v.y) := Int.mul_le_mul_of_nonneg_right (by omega) (sq_nn _)
  have h4 : 1 * (v.x * v.x) ≤ (-f.disc) * (v.x * v.x) := Int.mul_le_mul_of_nonneg_right (by omega) (sq_nn _)
  omega
end DL
set_option maxHeartbeats 1000000
namespace DL
open PySem PySem.Spec PyProof.Rows L2
/-! ### the order of tuples of ints -/
def tI (xs : List Int) : D := .tup (xs.map D.int)
theorem ps_map : ∀ ds : List D, D.ps ds = ds.map D.p
  | [] => by unfold D.ps; rfl
  | d :: ds => by unfold D.ps; rw [ps_map ds]; rfl
theorem p_tI (xs : List Int) : (tI xs).p = .tuple (xs.map .int) := by
  unfold tI
  conv => lhs; unfold D.p
  rw [ps_map, List.map_map]
  rfl
theorem dLt_tI (xs ys : List Int) : dLt (tI xs) (tI ys) = decide (xs < ys) := by
  unfold dLt
  rw [p_tI, p_tI]
  exact PySem.W.dataLt_ints xs ys
theorem alike_tI (xs ys : List Int) : alikeD (tI xs) (tI ys) = true := by
  unfold alikeD
  rw [p_tI, p_tI]
  exact PySem.W.alike_ints xs ys
theorem ok_tI (xs : List Int) : D.ok (tI xs) = true := ok_tup (by
  have : ∀ (n : Nat) (xs : List Int), okNs n (xs.map D.int) = true := fun n xs => by
    induction xs with
    | nil => exact okNs_nil
    | cons x xs ih => exact okNs_int ih
  exact this 59 xs)
theorem eqvAll_int : ∀ xs ys : List Int, PyData.eqvAll (xs.map .int) (ys.map .int) = decide (xs = ys)
  | [], [] => rfl
  | [], y :: ys => by
    rw [decide_eq_false (by intro h; cases h)]
    rfl
  | x :: xs, [] => by
    rw [decide_eq_false (by intro h; cases h)]
    rfl
  | x :: xs, y :: ys => by
    have e : PyData.eqvAll ((x :: xs).map .int) ((y :: ys).map .int) = (PyData.eqv (.int x) (.int y) && PyData.eqvAll (xs.map .int) (ys.map .int)) := by
      rw [List.map_cons, List.map_cons]
      conv => lhs; unfold PyData.eqvAll
    rw [e, eqvAll_int xs ys, show PyData.eqv (.int x) (.int y) = decide (x = y) from eqv_int]
    by_cases h1 : x = y <;> by_cases h2 : xs = ys <;> simp [h1, h2]
theorem eqv_tI (xs ys : List Int) : D.eqv (tI xs) (tI ys) = decide (xs = ys) := by
  unfold D.eqv
  rw [p_tI, p_tI]
  show PyData.eqvAll (xs.map .int) (ys.map .int) = _
  exact eqvAll_int xs ys
theorem tI_inj {xs ys : List Int} (h : tI xs = tI ys) : xs = ys := by
  unfold tI at h
  injection h with h
  exact List.map_inj_right (fun a b e => by injection e) |>.mp h
theorem sortOk_tI {l : List (List Int)} (h : ∀ x ∈ l, x ≠ []) : SortOk (l.map tI) := by
  refine ⟨fun x hx => ?_, fun x hx y hy => ?_, .inl fun x hx => ?_⟩
  · obtain ⟨a, _, rfl⟩ := List.mem_map.mp hx; exact ok_tI a
  · obtain ⟨a, _, rfl⟩ := List.mem_map.mp hx
    obtain ⟨b, _, rfl⟩ := List.mem_map.mp hy
    exact alike_tI a b
  · obtain ⟨a, ha, rfl⟩ := List.mem_map.mp hx
    cases a with
    | nil => exact absurd rfl (h _ ha)
    | cons y r => exact ⟨.int y, r.map D.int, rfl⟩
def unI : D → Option Int
  | D.int i => some i
  | _ => none
def unT : D → List Int
  | D.tup xs => xs.filterMap unI
  | _ => []
theorem unT_tI : ∀ xs : List Int, unT (tI xs) = xs := fun xs => by
  show (xs.map D.int).filterMap unI = xs
  induction xs with
  | nil => rfl
  | cons x xs ih => rw [List.map_cons, List.filterMap_cons]; show x :: (xs.map D.int).filterMap unI = _; rw [ih]
theorem perm_map_tI : ∀ {l : List (List Int)} {ds : List D}, List.Perm ds (l.map tI) → ∃ m : List (List Int), ds = m.map tI ∧ List.Perm m l := by
  intro l ds h
  have : ∀ (ds : List D), (∀ d ∈ ds, ∃ x ∈ l, d = tI x) → ∃ m : List (List Int), ds = m.map tI := by
    intro ds
    induction ds with
    | nil => intro _; exact ⟨[], rfl⟩
    | cons d ds ih =>
      intro h
      obtain ⟨x, _, e⟩ := h d List.mem_cons_self
      obtain ⟨m, e2⟩ := ih fun d hd => h d (List.mem_cons_of_mem _ hd)
      exact ⟨x :: m, by rw [List.map_cons, e, e2]⟩
  obtain ⟨m, e⟩ := this ds fun d hd => by
    obtain ⟨x, hx, e⟩ := List.mem_map.mp (h.mem_iff.mp hd)
    exact ⟨x, hx, e.symm⟩
  subst e
  refine ⟨m, rfl, ?_⟩
  have k := h.map unT
  have i1 : ∀ l : List (List Int), (l.map tI).map unT = l := fun l => by
    induction l with
    | nil => rfl
    | cons x l ih => rw [List.map_cons, List.map_cons, ih, unT_tI]
  rw [i1, i1] at k
  exact k
/-- what sorted gives of a list of tuples of ints -/
theorem sorted_tI {l : List (List Int)} {q : EV → Prop} (h : ∀ x ∈ l, x ≠ []) (k : ∀ m : List (List Int), List.Perm m l → m.Pairwise (· ≤ ·) → q (.own (m.map tI))) : fSorted (.lst (l.map tI)) q := by
  refine ⟨sortOk_tI h, fun ds' hp hs => ?_⟩
  obtain ⟨m, rfl, pm⟩ := perm_map_tI hp
  refine k m pm ?_
  refine (List.pairwise_map.mp hs).imp fun {x y} e => ?_
  rw [dLt_tI] at e
  exact List.not_lt.mp (of_decide_eq_false e)
/-- sorted lists with the same members are one -/
theorem asc_perm {l m : List (List Int)} (pm : List.Perm l m) (hl : l.Pairwise (· ≤ ·)) (hm : m.Pairwise (· ≤ ·)) : l = m :=
  pm.eq_of_pairwise (fun a b _ _ h1 h2 => List.le_antisymm h1 h2) hl hm
theorem perm_of_mem {l m : List (List Int)} (nl : l.Nodup) (nm : m.Nodup) (h : ∀ x, x ∈ l ↔ x ∈ m) : List.Perm l m := (List.perm_ext_iff_of_nodup nl nm).mpr h
def F3.L (f : F3) : List Int := [f.a, f.b, f.c]
def M4.L (m : M4) : List Int := [m.p, m.q, m.r, m.s]
def P2.L (m : P2) : List Int := [m.x, m.y]
theorem F3.tI (f : F3) : f.D = DL.tI f.L := rfl
theorem M4.tI (f : M4) : f.D = DL.tI f.L := rfl
theorem P2.tI (f : P2) : f.D = DL.tI f.L := rfl
theorem F3.L_inj {f g : F3} (h : f.L = g.L) : f = g := by
  unfold F3.L at h
  injection h with h1 h
  injection h with h2 h
  injection h with h3 h
  exact F3.ext h1 h2 h3
theorem M4.L_inj {f g : M4} (h : f.L = g.L) : f = g := by
  unfold M4.L at h
  injection h with h1 h
  injection h with h2 h
  injection h with h3 h
  injection h with h4 h
  exact M4.ext h1 h2 h3 h4
theorem map_D {α : Type} {D_ : α → D} {L_ : α → List Int} (e : ∀ x, D_ x = tI (L_ x)) (l : List α) : l.map D_ = (l.map L_).map tI := by
  rw [List.map_map]
  exact List.map_congr_left fun x _ => e x
theorem nodup_map {α β : Type} {f : α → β} (hf : ∀ a b, f a = f b → a = b) {l : List α} (h : l.Nodup) : (l.map f).Nodup := List.pairwise_map.mpr (h.imp fun {a b} hne e => hne (hf a b e))
end DL
namespace DL
open PySem PySem.Spec PyProof.Rows L2
/-! ### an error of the program's own, with a field: isinstance, the field -/
section
open PySem.W PySem.Calls
variable {prog : Program} {w : World} {A : Around} {E : Value → Shared → Prop} {s : Shared} {K : Frag} {x D : Addr} {ox : Obj} {od : Option Obj}
theorem exFound {nm : Str} {a g : Value} (h1 : (clsIn K D).isSome = true) (h2 : findIn K (.ref D) nm = some (some a)) (h3 : specialIn K a "__get__" = some (some g)) (h4 : takesIn K a = some true) : findObj K D od nm = some (.bind g a) := by
  obtain ⟨cd, e⟩ := Option.isSome_iff_exists.mp h1
  unfold findObj
  rw [e, Option.bind_some, h2, Option.bind_some]
  simp [h3, h4]
theorem exSome (h : hasDictIn K D = true) : (clsIn K D).isSome = true := by
  obtain ⟨cd, e, _⟩ := any_some h
  rw [e]; rfl
theorem exClass {Q : Option Value → Shared → Prop} (C : ExcC K D) (X : K.In s.heap) (I : InstAt s.heap x ox D od) (h : Q (some (.ref D)) { s with toks := s.toks + 1 }) : wpAny (model prog w) A (getAttr? (.ref x) "__class__") Q E s := by
  have hf : findObj K D od "__class__" = some (.bind (.builtin "getset_descriptor.__get__") (.builtin "object.__class__")) := exFound (exSome C.hd) C.ha C.hn C.ht
  obtain ⟨hp, g, d, t, os⟩ := s
  have T0 := I.type (M := model prog w)
  have T1 := looks_findIn (M := model prog w) X C.hg
  have T2 := looks_findIn (M := model prog w) X C.hk
  have T3 := looks_find (M := model prog w) X I hf
  have sub : Looks (model prog w) hp (isInstance (.ref x) (.type "BaseException")) true := T0.andThen (looks_subIn X C.hs)
  have z0 : (false && onTheHeap (Value.builtin "BaseException.__getattribute__")) = false := rfl
  have z2 : (Value.builtin "BaseException.__getattribute__" == Value.builtin "object.__getattribute__") = false := by decide +kernel
  have z1 : (onTheHeap (Value.ref D) && Value.builtin "BaseException.__getattribute__" == Value.builtin "object.__getattribute__") = false := by rw [z2]; rfl
  unfold getAttr? getAttrBy? getAttrBy
  refine wpAny_bind (wpAny_mkText (wpAny_bind (wpAny_attempt (wpAny_holding (wpAny_bind (T0.at (wpAny_bind (T1.at ?_))))))))
  show wpAny _ _ (if (onTheHeap (Value.ref D) && Value.builtin "BaseException.__getattribute__" == Value.builtin "object.__getattribute__") = true then _ else _) _ _ _
  rw [z1, if_neg Bool.false_ne_true]
  unfold getAttrByItsOwn hookBefore
  refine wpAny_bind ?_
  rw [if_pos (show onTheHeap (Value.ref D) = true from rfl)]
  refine T2.at ?_
  refine wpAny_bind (wpAny_attempt (wpAny_holding ?_))
  unfold callGetattribute
  rw [z0, if_neg Bool.false_ne_true]
  unfold boundAndCalled
  rw [PySem.F.excAttr_ValueError.ga.bind (.ref x)]
  refine wpAny_bind (wpAny_pure ?_)
  show wpAny _ _ (call (.builtin "BaseException.__getattribute__") [.ref x, .str "__class__" t]) _ _ _
  refine wpAny_call (codeAny_call_builtin PySem.F.excAttr_ValueError.ga.plain PySem.F.entry_bexc_ga ?_)
  refine @check_slot (model prog w) _ _ ⟨hp, g, d, t + 1, os⟩ "BaseException.__getattribute__" "BaseException" "__getattribute__" (.ref x) [.str "__class__" t] [] _ (by decide +kernel) (by decide +kernel) sub (PySem.F.args_bexc_ga (.ref x) (.str "__class__" t)) ?_
  unfold Builtin.«object.__getattribute__»
  refine wpAny_bind (wpAny_of_eq (a := ((Value.ref x : Value), [Value.str "__class__" t])) (by first | rfl | (simp only [slotArgs]; rfl)) ?_)
  refine wpAny_bind (wpAny_pure (wpAny_bind (T0.at (wpAny_bind (T3.at ?_)))))
  show wpAny _ _ (holding [Value.builtin "object.__class__"] (call (.builtin "getset_descriptor.__get__") [.builtin "object.__class__", .ref x, .ref D]) >>= ret) _ _ _
  refine wpAny_bind (wpAny_holding (wpAny_call (class_get (s := ⟨hp, g, d, t + 1, os⟩) (ox := ox) (od := od) X I C.hm ?_)))
  refine wpAny_pure ?_
  show wpAny _ _ (handedOut (.ref D)) _ _ _
  rw [handedOut_of (v := .ref D) rfl]
  first
    | exact wpAny_pure (wpAny_pure h)
    | exact wpAny_pure h
    | exact wpAny_pure (wpAny_bind (wpAny_pure (wpAny_pure h)))
theorem exKit (C : ExcC K D) : KitX K (.ref x) (.ref D) (fun h => InstAt h x ox D od) where
  ty := fun _ _ _ I => I.type
  it := fun _ _ X _ => by
    have e := exSome C.hd
    unfold clsIn at e
    split at e
    · rename_i c' d' cd' sl' ho
      intro A' Q' E' s' k q
      unfold isType loadHead
      exact wpAny_bind (wpAny_loadPart (k _ _ (X _ _ ho)) (wpAny_pure q))
    · cases e
  ne := fun h tp dd its n sl X htp => by
    refine Bool.eq_false_iff.mpr fun q => ?_
    have eD : D = tp := Value.ref.inj (beq_iff_eq.mp q)
    subst eD
    have e := exSome C.hd
    unfold clsIn at e
    split at e
    · rename_i c' d' cd' sl' ho
      have z := (X _ _ ho).symm.trans htp
      cases z
    · cases e
  ca := fun X I k => exClass C X I k
end
/-- what the written part says of the error's class -/
structure BfC (K : PySem.W.Frag) (C fI : Addr) : Prop where
  o : OexC K C
  e : ExcC K C
  nw : PySem.W.findIn K (.ref C) "what" = some none
  iC : PySem.W.findIn K (.ref C) "__init__" = some (some (.ref fI))
  tI : PySem.W.typeIn K (.ref fI) = some (.type "function")
section
variable {X : Cx} {a C fI : Addr} {oe : Obj} {pn : List (Addr × Obj)}
/-- the error's own dict, as the heap has it -/
theorem exInst {pins : List (Addr × Obj)} {σ : L2.St} {H : Hp} {s : Shared} {dd : Addr} {v : V} (I : Inv (X.suite a ((a, oe) :: pn)) pins σ H s) (hz : Zc (.ref C) (some dd) oe) (hf : ∃ vs, oe.data = .fields vs) (hd : H dd = some (.xd [(("what" : Str), v)])) :
    ∃ od u, PySem.W.InstAt s.heap a oe C (some od) ∧ PySem.W.lookIn "what" od = some (some u) ∧ RelV v u := by
  obtain ⟨hget, _⟩ := I.pin (a, oe) (List.mem_append.mpr (.inl List.mem_cons_self))
  obtain ⟨vs, hv⟩ := hf
  have ho : ObjOk X.prog X.w H s.heap dd (.xd [(("what" : Str), v)]) := I.hok dd _ hd
  obtain ⟨mA, hns, hr⟩ := ho
  obtain ⟨od, hod, hl⟩ := lookIn_ns hns
  have l : List.lookup ("what" : Str) [(("what" : Str), v)] = some v := by simp [List.lookup]
  obtain ⟨u, hu, ru⟩ := RelO.some_of (v := v) (o := mA "what") (by rw [← l]; exact hr "what")
  exact ⟨od, u, ⟨hget, hz.1, by unfold PySem.W.notCls; rw [hv] <;> rfl, by rw [hz.2]; exact hod⟩, by rw [hl, hu], ru⟩
def rIsX (K : PySem.W.Frag) (C a dd : Addr) : List V → Hp → VK → Prop := fun xs H Q => ∃ (T : Addr) (v : V) (b : Bool), xs = [.ref a, .ref T] ∧ H dd = some (.xd [(("what" : Str), v)]) ∧ PySem.W.kitOne K (.ref C) (.ref T) = some b ∧ Q (.bl b) H
theorem call_isX {dd : Addr} (B : ExcC X.K C) (hz : Zc (.ref C) (some dd) oe) (hf : ∃ vs, oe.data = .fields vs) : CallR (X.suite a ((a, oe) :: pn)) (.builtin "isinstance") (rIsX X.K C a dd) := by
  intro pins s σ H xs us Q I r h
  obtain ⟨T, v, b, rfl, hd, e, q⟩ := h
  obtain ⟨u1, u2, rfl, r1, r2⟩ := vals2 r
  cases (show u1 = Value.ref a from r1)
  cases (show u2 = Value.ref T from r2)
  obtain ⟨od, u, J, _, _⟩ := exInst I hz hf hd
  exact PySem.W.kia_one (exKit B) I.kIn J e (fun z => nomatch z) fun tk => ⟨.bl b, H, I.tok tk, rfl, q⟩
/-- e.what -/
def tWhat (a dd : Addr) (te : TE) : TE := fun σ H Q => te σ H fun x H1 => x = .ref a ∧ ∃ v : V, H1 dd = some (.xd [(("what" : Str), v)]) ∧ Q v H1
theorem pe_what {dd : Addr} {e : Expr} {te : TE} {pos : Pos} (B : BfC X.K C fI) (hz : Zc (.ref C) (some dd) oe) (hf : ∃ vs, oe.data = .fields vs) (he : PE (X.suite a ((a, oe) :: pn)) e te)
    (hb : attributeBase e "what" X.env (eval e X.env) = eval e X.env := by rfl) : PE (X.suite a ((a, oe) :: pn)) (.Attribute e "what" pos) (tWhat a dd te) := by
  refine ⟨fun pins s σ H Q I h => ?_⟩
  refine attr_of hb (thn (he.run pins s σ H _ I h) fun u s1 hh => ?_)
  obtain ⟨x, H1, I1, rx, ex, v, hd, q⟩ := hh
  subst ex
  obtain rfl : u = Value.ref a := rx
  obtain ⟨od, u2, J, hl, ru⟩ := exInst I1 hz hf hd
  exact HandSPX.exc_get I1.kIn J B.e.hg B.e.hk B.e.hs (PySem.W.findObj_own B.e.hd B.nw rfl hl) (handed_of ru) ⟨v, H1, I1.tok _, ru, q⟩
end
end DL
set_option maxHeartbeats 1000000
set_option pp.maxSteps 1200
namespace DL
open PySem PySem.Spec PyProof.Rows L2
theorem at_nx5 {P : Post} {e : En} {t : Tk} (h : P.nx e t) : wNext P e t := h
theorem ifNF5 {b : Bool} {A B : Prop} (h : b = false) (k : A) : if (!b) = true then A else B := by rw [h]; exact k
theorem root_eq5 {d w r : Int} (hr : RootOf d w) (a : 0 ≤ r) (b : r * r ≤ d) (c : d < (r + 1) * (r + 1)) : r = w := by
  obtain ⟨w0, lo, hi⟩ := hr
  rcases Int.lt_trichotomy r w with z | z | z
  · have := Int.mul_le_mul (show r + 1 ≤ w by omega) (show r + 1 ≤ w by omega) (by omega) (by omega)
    omega
  · exact z
  · have := Int.mul_le_mul (show w + 1 ≤ r by omega) (show w + 1 ≤ r by omega) (by omega) (by omega)
    omega
theorem root_nsq5 {d w : Int} (hr : RootOf d w) : ¬ IsSq d := by
  rintro ⟨k, hk⟩
  exact sq_ne hr k (by omega)
def redStB (w : Int) (s : P2) : Bool := decide (0 < s.x ∧ s.x ≤ w ∧ 0 < s.y ∧ w - s.x < s.y ∧ s.y ≤ w + s.x)
theorem redSt_iff {d w : Int} {s : P2} (h : StC d s) : redStB w s = true ↔ RedSt d w s := by
  unfold redStB
  rw [decide_eq_true_iff]
  exact ⟨fun ⟨a, b, c, e, f⟩ => ⟨a, b, c, e, f, h.dv⟩, fun r => ⟨r.p0, r.p1, r.q0, r.lo, r.hi⟩⟩
@[irreducible] def sp_floor_of : FSpec := fun ds tk Q => ∃ (s : P2) (w : Int), ds = [.int s.x, .int s.y, .int w] ∧ (s.y ≠ 0) ∧ (s.Sm 1000) ∧ (Sm 1000 w) ∧ Q (.val (.int (cgA w s))) tk
theorem op_floor_of {ds : List D} {tk : Tk} {Q : EV → Tk → Prop} (h : sp_floor_of ds tk Q) : ∃ (s : P2) (w : Int), ds = [.int s.x, .int s.y, .int w] ∧ (s.y ≠ 0) ∧ (s.Sm 1000) ∧ (Sm 1000 w) ∧ Q (.val (.int (cgA w s))) tk := by unfold sp_floor_of at h; exact h
theorem mon_floor_of : MonFS sp_floor_of := fun ds tk Q Q' hq_ hs_ => by
  obtain ⟨s, w, e_, q0, hs, hw, q_⟩ := op_floor_of hs_
  unfold sp_floor_of
  exact ⟨s, w, e_, q0, hs, hw, hq_ _ _ q_⟩
theorem len_floor_of : ∀ ds tk Q, sp_floor_of ds tk Q → ds.length = 3 := fun ds tk Q hs_ => by
  obtain ⟨s, w, e_, q0, hs, hw, q_⟩ := op_floor_of hs_
  rw [e_]; rfl
theorem cl_floor_of {tk : Tk} {Q : EV → Tk → Prop} {s : P2} {w : Int} (q0 : s.y ≠ 0) (hs : s.Sm 1000) (hw : Sm 1000 w) (q_ : Q (.val (.int (cgA w s))) tk) : sp_floor_of [.int s.x, .int s.y, .int w] tk Q := by
  unfold sp_floor_of
  exact ⟨s, w, rfl, q0, hs, hw, q_⟩
theorem ce_floor_of {ds_ : List D} {tk : Tk} {Q : EV → Tk → Prop} {s : P2} {w : Int} (q0 : s.y ≠ 0) (hs : s.Sm 1000) (hw : Sm 1000 w) (e_ : ds_ = [.int s.x, .int s.y, .int w]) (q_ : Q (.val (.int (cgA w s))) tk) : sp_floor_of ds_ tk Q := by
  subst e_
  unfold sp_floor_of
  exact ⟨s, w, rfl, q0, hs, hw, q_⟩
abbrev N_floor_of : List Str := ["p", "q", "root"]
def c_floor_of : WS :=
  (wSeq (wIfS (wT (wOp fGt (wPk 1) (fz (wC (.int 0))))) (wRet (wOp fDiv (fz (wOp fAdd (wPk 0) (wPk 2))) (wPk 1))) wNext)
  (wRet (wOp fDiv (fz (wOp fAdd (fz (wOp fAdd (wPk 0) (wPk 2))) (fz (wC (.int 1))))) (wPk 1))))
theorem hw_floor_of : ∀ ds tk Q, sp_floor_of ds tk Q → c_floor_of { nx := fun _ t => Q (.val .non) t, rt := Q } (start N_floor_of.length ds) tk := by
  intro ds tk Q h_
  obtain ⟨s, w, rfl, q0, hs, hw, q⟩ := op_floor_of h_
  obtain ⟨s1, s2⟩ := hs
  refine if2 (fun h => ?_) (fun h => ?_)
  · have h : 0 < s.y := h
    rw [show cgA w s = (s.x + w).fdiv s.y from if_pos h] at q
    exact ⟨DivOk.of (k := 1000) (by omega) s2 (by decide), q⟩
  · have h : ¬ 0 < s.y := h
    rw [show cgA w s = (s.x + w + 1).fdiv s.y from if_neg h] at q
    exact ⟨DivOk.of (k := 1000) (by omega) s2 (by decide), q⟩
theorem cgA_sm {w : Int} {s : P2} {k : Nat} (hs : s.Sm k) (hw : Sm k w) (k1 : 1 ≤ k) : Sm (k + 2) (cgA w s) := by
  unfold cgA
  split
  · exact ((hs.1.add hw).fdiv).mono (by omega)
  · exact (((hs.1.add hw).add (show Sm (k + 1) 1 from Sm.mono (show (1 : Int).natAbs < 2 ^ 1 by decide) (by omega))).fdiv).mono (by omega)
@[irreducible] def sp_next_state : FSpec := fun ds tk Q => ∃ (s : P2) (d w : Int), ds = [s.D, .int d, .int w] ∧ (s.y ≠ 0) ∧ (s.Sm 1000) ∧ (Sm 5000 d) ∧ (Sm 1000 w) ∧ Q (.val (.tup [.int (cgA w s), (cgS d w s).D])) tk
theorem op_next_state {ds : List D} {tk : Tk} {Q : EV → Tk → Prop} (h : sp_next_state ds tk Q) : ∃ (s : P2) (d w : Int), ds = [s.D, .int d, .int w] ∧ (s.y ≠ 0) ∧ (s.Sm 1000) ∧ (Sm 5000 d) ∧ (Sm 1000 w) ∧ Q (.val (.tup [.int (cgA w s), (cgS d w s).D])) tk := by unfold sp_next_state at h; exact h
theorem mon_next_state : MonFS sp_next_state := fun ds tk Q Q' hq_ hs_ => by
  obtain ⟨s, d, w, e_, q0, hs, hd, hw, q_⟩ := op_next_state hs_
  unfold sp_next_state
  exact ⟨s, d, w, e_, q0, hs, hd, hw, hq_ _ _ q_⟩
theorem len_next_state : ∀ ds tk Q, sp_next_state ds tk Q → ds.length = 3 := fun ds tk Q hs_ => by
  obtain ⟨s, d, w, e_, q0, hs, hd, hw, q_⟩ := op_next_state hs_
  rw [e_]; rfl
theorem cl_next_state {tk : Tk} {Q : EV → Tk → Prop} {s : P2} {d w : Int} (q0 : s.y ≠ 0) (hs : s.Sm 1000) (hd : Sm 5000 d) (hw : Sm 1000 w) (q_ : Q (.val (.tup [.int (cgA w s), (cgS d w s).D])) tk) : sp_next_state [s.D, .int d, .int w] tk Q := by
  unfold sp_next_state
  exact ⟨s, d, w, rfl, q0, hs, hd, hw, q_⟩
theorem ce_next_state {ds_ : List D} {tk : Tk} {Q : EV → Tk → Prop} {s : P2} {d w : Int} (q0 : s.y ≠ 0) (hs : s.Sm 1000) (hd : Sm 5000 d) (hw : Sm 1000 w) (e_ : ds_ = [s.D, .int d, .int w]) (q_ : Q (.val (.tup [.int (cgA w s), (cgS d w s).D])) tk) : sp_next_state ds_ tk Q := by
  subst e_
  unfold sp_next_state
  exact ⟨s, d, w, rfl, q0, hs, hd, hw, q_⟩
abbrev N_next_state : List Str := ["state", "d", "root", "p", "q", "part"]
def c_next_state : WS :=
  (wSeq (wAsg (fz (wV 0)) (gT 2 (gCs (gN 3) (gCs (gN 4) gNl))))
  (wSeq (wSet 5 (wCall sp_floor_of (wCons (fz (wV 3)) (wCons (fz (wV 4)) (wCons (fz (wV 2)) wNil)))))
  (wSeq (wSet 3 (wOp fSub (fz (wOp fMul (wPk 5) (wPk 4))) (wPk 3)))
  (wRet (wTup (wCons (fz (wV 5)) (wCons (fz (wTup (wCons (fz (wV 3)) (wCons (fz (wOp fDiv (fz (wOp fSub (wPk 1) (fz (wOp fMul (wPk 3) (wPk 3))))) (wPk 4))) wNil)))) wNil)))))))
theorem hw_next_state : ∀ ds tk Q, sp_next_state ds tk Q → c_next_state { nx := fun _ t => Q (.val .non) t, rt := Q } (start N_next_state.length ds) tk := by
  intro ds tk Q h_
  obtain ⟨s, d, w, rfl, q0, hs, hd, hw, q⟩ := op_next_state h_
  have hs' := hs
  obtain ⟨s1, s2⟩ := hs
  refine ⟨rfl, ?_⟩
  refine cl_floor_of (s := s) (w := w) q0 hs' hw ?_
  have sa : Sm 1002 (cgA w s) := cgA_sm hs' hw (by decide)
  have sp : Sm 2003 (cgP w s) := ((sa.mul s2).sub (s1.mono (by decide))).mono (by decide)
  refine ⟨q1 sa s2, q1 sp sp, DivOk.of (k := 1000) (by omega) s2 (by decide), rfl, rfl, q⟩
@[irreducible] def sp_is_reduced_state : FSpec := fun ds tk Q => ∃ (s : P2) (w : Int), ds = [s.D, .int w] ∧ Q (.val (.bl (redStB w s))) tk
theorem op_is_reduced_state {ds : List D} {tk : Tk} {Q : EV → Tk → Prop} (h : sp_is_reduced_state ds tk Q) : ∃ (s : P2) (w : Int), ds = [s.D, .int w] ∧ Q (.val (.bl (redStB w s))) tk := by unfold sp_is_reduced_state at h; exact h
theorem mon_is_reduced_state : MonFS sp_is_reduced_state := fun ds tk Q Q' hq_ hs_ => by
  obtain ⟨s, w, e_, q_⟩ := op_is_reduced_state hs_
  unfold sp_is_reduced_state
  exact ⟨s, w, e_, hq_ _ _ q_⟩
theorem len_is_reduced_state : ∀ ds tk Q, sp_is_reduced_state ds tk Q → ds.length = 2 := fun ds tk Q hs_ => by
  obtain ⟨s, w, e_, q_⟩ := op_is_reduced_state hs_
  rw [e_]; rfl
theorem cl_is_reduced_state {tk : Tk} {Q : EV → Tk → Prop} {s : P2} {w : Int} (q_ : Q (.val (.bl (redStB w s))) tk) : sp_is_reduced_state [s.D, .int w] tk Q := by
  unfold sp_is_reduced_state
  exact ⟨s, w, rfl, q_⟩
theorem ce_is_reduced_state {ds_ : List D} {tk : Tk} {Q : EV → Tk → Prop} {s : P2} {w : Int} (e_ : ds_ = [s.D, .int w]) (q_ : Q (.val (.bl (redStB w s))) tk) : sp_is_reduced_state ds_ tk Q := by
  subst e_
  unfold sp_is_reduced_state
  exact ⟨s, w, rfl, q_⟩
abbrev N_is_reduced_state : List Str := ["state", "root", "p", "q"]
def c_is_reduced_state : WS :=
  (wSeq (wAsg (fz (wV 0)) (gT 2 (gCs (gN 2) (gCs (gN 3) gNl))))
  (wRet (wB (wAnd (wT (wChain fLt fLe (fz (wC (.int 0))) (wPk 2) (wPk 1))) (wAnd (wT (wOp fGt (wPk 3) (fz (wC (.int 0))))) (wT (wChain fLt fLe (fz (wOp fSub (wPk 1) (wPk 2))) (wPk 3) (fz (wOp fAdd (wPk 1) (wPk 2))))))))))
theorem hw_is_reduced_state : ∀ ds tk Q, sp_is_reduced_state ds tk Q → c_is_reduced_state { nx := fun _ t => Q (.val .non) t, rt := Q } (start N_is_reduced_state.length ds) tk := by
  intro ds tk Q h_
  obtain ⟨s, w, rfl, q⟩ := op_is_reduced_state h_
  refine ⟨rfl, ?_⟩
  have fn : ∀ {p : Prop}, ¬ p → ((0 < s.x ∧ s.x ≤ w ∧ 0 < s.y ∧ w - s.x < s.y ∧ s.y ≤ w + s.x) → p) → redStB w s = false := fun h k => decide_eq_false fun z => h (k z)
  have yes : (0 < s.x ∧ s.x ≤ w ∧ 0 < s.y ∧ w - s.x < s.y ∧ s.y ≤ w + s.x) → redStB w s = true := fun h => decide_eq_true h
  refine if2 (fun h1 => ?_) (fun h1 => ?_)
  rotate_left
  · rw [fn h1 fun z => z.1] at q; exact q
  refine if2 (fun h2 => ?_) (fun h2 => ?_)
  rotate_left
  · rw [fn h2 fun z => z.2.1] at q; exact q
  refine if2 (fun h3 => ?_) (fun h3 => ?_)
  rotate_left
  · rw [fn h3 fun z => z.2.2.1] at q; exact q
  refine if2 (fun h4 => ?_) (fun h4 => ?_)
  rotate_left
  · rw [fn h4 fun z => z.2.2.2.1] at q; exact q
  rw [show redStB w s = decide (s.y ≤ w + s.x) from decide_eq_decide.mpr ⟨fun z => z.2.2.2.2, fun z => ⟨h1, h2, h3, h4, z⟩⟩] at q
  exact q
/-- the parts from place a on -/
def prtsL (d w : Int) (s : P2) (a n : Nat) : List D := (List.range n).map fun i => .int (cgA w (cgR d w s (a + i)))
theorem prtsL_succ (d w : Int) (s : P2) (a n : Nat) : prtsL d w s a (n + 1) = prtsL d w s a n ++ [.int (cgA w (cgR d w s (a + n)))] := by
  unfold prtsL; rw [List.range_succ, List.map_append]; rfl
theorem prtsL_len (d w : Int) (s : P2) (a n : Nat) : (prtsL d w s a n).length = n := by unfold prtsL; rw [List.length_map, List.length_range]
theorem prtsL_ok (d w : Int) (s : P2) (a n : Nat) (k : Nat) : okNs k (prtsL d w s a n) = true := by
  unfold prtsL
  generalize List.range n = l
  induction l with
  | nil => exact okNs_nil
  | cons x xs ih => exact okNs_int ih
theorem p2_ok5 (m : P2) : m.D.ok = true := ok_t2
theorem eqp5 (f g : P2) : f.D.eqv g.D = decide (f = g) := by
  have e : ∀ f : P2, f.D = tI [f.x, f.y] := fun _ => rfl
  rw [e, e, eqv_tI]
  by_cases h : f = g
  · subst h
    rw [decide_eq_true rfl, decide_eq_true rfl]
  · rw [decide_eq_false h, decide_eq_false fun z => h ?_]
    injection z with z1 z
    injection z with z2 z
    exact p2e z1 z2
theorem cgR_sm {d w : Int} (hr : RootOf d w) (hw : w ≤ 99) {s : P2} (h : StC d s) (sm : s.Sm 40) {n : Nat} (hn : n ≤ 6000) : (cgR d w s n).Sm 41 := by
  have w0 := hr.w0
  have wa : w.natAbs ≤ 99 := by omega
  have a := cgR_y hr h n
  have b : 2 * w.natAbs * n ≤ 198 * 6000 := Nat.mul_le_mul (by omega) hn
  obtain ⟨s1, s2⟩ := sm
  unfold Sm at s1 s2
  have e40 : (2 : Nat) ^ 40 = 1099511627776 := by decide
  have e60 : (2 : Nat) ^ 41 = 2199023255552 := by decide
  rw [e40] at s1 s2
  refine ⟨?_, ?_⟩
  · unfold Sm
    rw [e60]
    cases n with
    | zero => show s.x.natAbs < _; omega
    | succ n =>
      have c := cgR_x hr h n
      have b2 : 2 * w.natAbs * n ≤ 198 * 6000 := Nat.mul_le_mul (by omega) (by omega)
      omega
  · unfold Sm
    rw [e60]
    omega
@[irreducible] def sp_expand : FSpec := fun ds tk Q => ∃ (d : Nat) (w : Int) (s : P2) (m l : Nat), ds = [.int s.x, .int s.y, .int (d : Int)] ∧ (RootOf d w) ∧ (w ≤ 99) ∧ (StC d s) ∧ (s.Sm 40) ∧ (ExpC d w s m l) ∧ (m ≤ 3000) ∧ Q (.val (.tup [.tup (prtsL d w s 0 m), .tup (prtsL d w s m l)])) tk
theorem op_expand {ds : List D} {tk : Tk} {Q : EV → Tk → Prop} (h : sp_expand ds tk Q) : ∃ (d : Nat) (w : Int) (s : P2) (m l : Nat), ds = [.int s.x, .int s.y, .int (d : Int)] ∧ (RootOf d w) ∧ (w ≤ 99) ∧ (StC d s) ∧ (s.Sm 40) ∧ (ExpC d w s m l) ∧ (m ≤ 3000) ∧ Q (.val (.tup [.tup (prtsL d w s 0 m), .tup (prtsL d w s m l)])) tk := by unfold sp_expand at h; exact h
theorem mon_expand : MonFS sp_expand := fun ds tk Q Q' hq_ hs_ => by
  obtain ⟨d, w, s, m, l, e_, hr, hw, hs, sm, E, m3, q_⟩ := op_expand hs_
  unfold sp_expand
  exact ⟨d, w, s, m, l, e_, hr, hw, hs, sm, E, m3, hq_ _ _ q_⟩
theorem len_expand : ∀ ds tk Q, sp_expand ds tk Q → ds.length = 3 := fun ds tk Q hs_ => by
  obtain ⟨d, w, s, m, l, e_, hr, hw, hs, sm, E, m3, q_⟩ := op_expand hs_
  rw [e_]; rfl
theorem cl_expand {tk : Tk} {Q : EV → Tk → Prop} {d : Nat} {w : Int} {s : P2} {m l : Nat} (hr : RootOf d w) (hw : w ≤ 99) (hs : StC d s) (sm : s.Sm 40) (E : ExpC d w s m l) (m3 : m ≤ 3000) (q_ : Q (.val (.tup [.tup (prtsL d w s 0 m), .tup (prtsL d w s m l)])) tk) : sp_expand [.int s.x, .int s.y, .int (d : Int)] tk Q := by
  unfold sp_expand
  exact ⟨d, w, s, m, l, rfl, hr, hw, hs, sm, E, m3, q_⟩
theorem ce_expand {ds_ : List D} {tk : Tk} {Q : EV → Tk → Prop} {d : Nat} {w : Int} {s : P2} {m l : Nat} (hr : RootOf d w) (hw : w ≤ 99) (hs : StC d s) (sm : s.Sm 40) (E : ExpC d w s m l) (m3 : m ≤ 3000) (e_ : ds_ = [.int s.x, .int s.y, .int (d : Int)]) (q_ : Q (.val (.tup [.tup (prtsL d w s 0 m), .tup (prtsL d w s m l)])) tk) : sp_expand ds_ tk Q := by
  subst e_
  unfold sp_expand
  exact ⟨d, w, s, m, l, rfl, hr, hw, hs, sm, E, m3, q_⟩
abbrev N_expand : List Str := ["p", "q", "d", "root", "first", "state", "start", "period", "part"]
def c_expand : WS :=
  (wSeq (wIfS (wOr (wT (wCall sp_is_square (wCons (fz (wV 2)) wNil))) (wOr (wT (wOp fEq (wPk 1) (fz (wC (.int 0))))) (wT (wOp fNe (fz (wOp fMod (fz (wOp fSub (wPk 2) (fz (wOp fMul (wPk 0) (wPk 0))))) (wPk 1))) (fz (wC (.int 0))))))) wNever wNext)
  (wSeq (wSet 3 (wCall sp_floor_root (wCons (fz (wV 2)) wNil)))
  (wSeq (wSet 4 (wLst wNil))
  (wSeq (wSet 5 (wTup (wCons (fz (wV 0)) (wCons (fz (wV 1)) wNil))))
  (wSeq (wWhile (wNot (wT (wCall sp_is_reduced_state (wCons (fz (wV 5)) (wCons (fz (wV 3)) wNil))))) (wSeq (wAsg (fz (wCall sp_next_state (wCons (fz (wV 5)) (wCons (fz (wV 2)) (wCons (fz (wV 3)) wNil))))) (gT 2 (gCs (gN 8) (gCs (gN 5) gNl))))
  (wApp 4 (fz (wV 8)))))
  (wSeq (wSet 6 (wV 5))
  (wSeq (wSet 7 (wLst wNil))
  (wSeq (wAsg (fz (wCall sp_next_state (wCons (fz (wV 5)) (wCons (fz (wV 2)) (wCons (fz (wV 3)) wNil))))) (gT 2 (gCs (gN 8) (gCs (gN 5) gNl))))
  (wSeq (wApp 7 (fz (wV 8)))
  (wSeq (wWhile (wT (wOp fNe (wPk 5) (wPk 6))) (wSeq (wAsg (fz (wCall sp_next_state (wCons (fz (wV 5)) (wCons (fz (wV 2)) (wCons (fz (wV 3)) wNil))))) (gT 2 (gCs (gN 8) (gCs (gN 5) gNl))))
  (wApp 7 (fz (wV 8)))))
  (wRet (wTup (wCons (fz (w1 fTuple (wPk 4))) (wCons (fz (w1 fTuple (wPk 7))) wNil))))))))))))))
theorem hw_expand : ∀ ds tk Q, sp_expand ds tk Q → c_expand { nx := fun _ t => Q (.val .non) t, rt := Q } (start N_expand.length ds) tk := by
  intro ds tk Q h_
  obtain ⟨d, w, s, m, l, rfl, hr, hw, hs, sm, E, m3, q⟩ := op_expand h_
  have hd : (d : Int) < 10000 := by
    have := hr.hi
    have w0 := hr.w0
    have := Int.mul_le_mul (show w + 1 ≤ 100 by omega) (show w + 1 ≤ 100 by omega) (by omega) (by omega)
    omega
  have sd : Sm 14 (d : Int) := show (d : Int).natAbs < 2 ^ 14 by omega
  have sw : Sm 7 w := show w.natAbs < 2 ^ 7 by have := hr.w0; omega
  have l1 := E.l1
  refine cl_is_square (n := (d : Int)) (Int.lt_of_lt_of_le hd (by decide +kernel)) ?_
  refine ifBF (isSqB_false (root_nsq5 hr)) ?_
  refine if2 (fun h => absurd h hs.y0) (fun _ => ?_)
  have md : ((d : Int) - s.x * s.x).fmod s.y = 0 := by
    obtain ⟨r, e⟩ := hs.dv
    rw [e]
    exact Int.fmod_eq_zero_of_dvd ⟨r, rfl⟩
  refine ⟨q1 sm.1 sm.1, hs.y0, ?_⟩
  refine ifN2 (fun h => absurd md h) (fun _ => at_nx5 ?_)
  dsimp only
  refine cl_floor_root (n := (d : Int)) (by omega) (Int.lt_of_lt_of_le hd (by decide +kernel)) fun r r0 ra rb => ?_
  obtain rfl := root_eq5 hr r0 ra rb
  refine ⟨rfl, rfl, ?_⟩
  simp only [gCs, gN, gNl, start_def, List.map_cons, List.map_nil, List.set_cons_zero, List.set_cons_succ, List.replicate_succ, List.replicate_zero, List.cons_append, List.nil_append, List.length_cons, List.length_nil, Nat.reduceAdd, Nat.reduceSub]
  have sr : Sm 1000 r := sw.mono (by decide)
  have sd5 : Sm 5000 (d : Int) := sd.mono (by decide)
  have sml : ∀ n, n ≤ 6000 → (cgR d r s n).Sm 1000 := fun n hn => ⟨(cgR_sm hr hw hs sm hn).1.mono (by decide), (cgR_sm hr hw hs sm hn).2.mono (by decide)⟩
  have ne0 : ∀ n, (cgR d r s n).y ≠ 0 := fun n => (cgR_st hr hs n).y0
  refine seq_cut (a := wWhile _ _) (fun e t => t = tk ∧ ∃ x8 : Option EV, e = [some (.val (.int (s.x))), some (.val (.int (s.y))), some (.val (.int ((d:Int)))), some (.val (.int (r))), some (.own ((prtsL d r s 0 m))), some (.val ((cgR d r s m).D)), none, none, x8]) (fun R0 hR0 => ?_) ?_
  · refine ⟨fun μ e t => t = tk ∧ ∃ (i : Nat) (x8 : Option EV), i ≤ m ∧ μ = m - i ∧ e = [some (.val (.int (s.x))), some (.val (.int (s.y))), some (.val (.int ((d:Int)))), some (.val (.int (r))), some (.own ((prtsL d r s 0 i))), some (.val ((cgR d r s i).D)), none, none, x8], ⟨_, rfl, 0, none, Nat.zero_le _, rfl, rfl⟩, ?_⟩
    rintro μ e t ⟨rfl, i, x8, im, rfl, rfl⟩
    refine cl_is_reduced_state (s := cgR d r s i) (w := r) ?_
    by_cases hi : i = m
    · subst hi
      refine ifNB ((redSt_iff (cgR_st hr hs i)).mpr E.red) ?_
      exact hR0 _ _ ⟨rfl, x8, rfl⟩
    · have e0 : redStB r (cgR d r s i) = false := by
        cases h : redStB r (cgR d r s i) with
        | false => rfl
        | true => exact absurd ((redSt_iff (cgR_st hr hs i)).mp h) (E.no i (by omega))
      refine ifNF5 e0 ?_
      refine cl_next_state (s := cgR d r s i) (d := (d : Int)) (w := r) (ne0 i) (sml i (by omega)) sd5 sr ?_
      exact ⟨rfl, by rw [prtsL_len]; exact szl (by omega), m - (i + 1), by omega, rfl, i + 1, _, by omega, rfl, by rw [prtsL_succ, Nat.zero_add]; rfl⟩
  rintro e t ⟨rfl, x8, rfl⟩
  refine ⟨rfl, ?_⟩
  refine cl_next_state (s := cgR d r s m) (d := (d : Int)) (w := r) (ne0 m) (sml m (by omega)) sd5 sr ?_
  refine ⟨rfl, (show 0 < sizeLine by decide), ?_⟩
  simp only [gCs, gN, gNl, start_def, List.map_cons, List.map_nil, List.set_cons_zero, List.set_cons_succ, List.replicate_succ, List.replicate_zero, List.cons_append, List.nil_append, List.length_cons, List.length_nil, Nat.reduceAdd, Nat.reduceSub]
  have l0 := E.l0
  refine seq_cut (a := wWhile _ _) (fun e t' => t' = t ∧ ∃ x5 x8 : Option EV, e = [some (.val (.int (s.x))), some (.val (.int (s.y))), some (.val (.int ((d:Int)))), some (.val (.int (r))), some (.own ((prtsL d r s 0 m))), x5, some (.val ((cgR d r s m).D)), some (.own ((prtsL d r s m l))), x8]) (fun R0 hR0 => ?_) ?_
  · refine ⟨fun μ e t' => t' = t ∧ ∃ i : Nat, 1 ≤ i ∧ i ≤ l ∧ μ = l - i ∧ ∃ x8 : Option EV, e = [some (.val (.int (s.x))), some (.val (.int (s.y))), some (.val (.int ((d:Int)))), some (.val (.int (r))), some (.own ((prtsL d r s 0 m))), some (.val ((cgR d r s (m + i)).D)), some (.val ((cgR d r s m).D)), some (.own ((prtsL d r s m i))), x8], ⟨_, rfl, 1, Nat.le_refl 1, l0, rfl, _, rfl⟩, ?_⟩
    rintro μ e t' ⟨rfl, i, i1, il, rfl, x8, rfl⟩
    refine ⟨p2_ok5 _, p2_ok5 _, ?_⟩
    by_cases hi : i = l
    · subst hi
      refine ifNB (eqv_eq (by rw [E.back]) (p2_ok5 _)) ?_
      exact hR0 _ _ ⟨rfl, _, x8, rfl⟩
    · refine ifNF5 ((eqp5 _ _).trans (decide_eq_false (E.first i i1 (by omega)))) ?_
      refine cl_next_state (s := cgR d r s (m + i)) (d := (d : Int)) (w := r) (ne0 _) (sml _ (by omega)) sd5 sr ?_
      exact ⟨rfl, by rw [prtsL_len]; exact szl (by omega), l - (i + 1), by omega, rfl, i + 1, by omega, by omega, rfl, some (.val (.int (cgA r (cgR d r s (m + i))))), by rw [prtsL_succ]; rfl⟩
  rintro e t' ⟨rfl, x5, x8, rfl⟩
  exact ⟨rfl, q⟩
@[irreducible] def sp_part_at : FSpec := fun ds tk Q => ∃ (as bs : List D) (k : Nat) (x : D), ds = [.tup [.tup as, .tup bs], .int (k : Int)] ∧ (as.length ≤ 10000) ∧ (bs.length ≤ 10000) ∧ (1 ≤ bs.length) ∧ ((if k < as.length then as[k]? else bs[(k - as.length) % bs.length]?) = some x) ∧ (k ≤ 10000) ∧ Q (.val x) tk
theorem op_part_at {ds : List D} {tk : Tk} {Q : EV → Tk → Prop} (h : sp_part_at ds tk Q) : ∃ (as bs : List D) (k : Nat) (x : D), ds = [.tup [.tup as, .tup bs], .int (k : Int)] ∧ (as.length ≤ 10000) ∧ (bs.length ≤ 10000) ∧ (1 ≤ bs.length) ∧ ((if k < as.length then as[k]? else bs[(k - as.length) % bs.length]?) = some x) ∧ (k ≤ 10000) ∧ Q (.val x) tk := by unfold sp_part_at at h; exact h
theorem mon_part_at : MonFS sp_part_at := fun ds tk Q Q' hq_ hs_ => by
  obtain ⟨as, bs, k, x, e_, la, lb, b0, hx, hk, q_⟩ := op_part_at hs_
  unfold sp_part_at
  exact ⟨as, bs, k, x, e_, la, lb, b0, hx, hk, hq_ _ _ q_⟩
theorem len_part_at : ∀ ds tk Q, sp_part_at ds tk Q → ds.length = 2 := fun ds tk Q hs_ => by
  obtain ⟨as, bs, k, x, e_, la, lb, b0, hx, hk, q_⟩ := op_part_at hs_
  rw [e_]; rfl
theorem cl_part_at {tk : Tk} {Q : EV → Tk → Prop} {as bs : List D} {k : Nat} {x : D} (la : as.length ≤ 10000) (lb : bs.length ≤ 10000) (b0 : 1 ≤ bs.length) (hx : (if k < as.length then as[k]? else bs[(k - as.length) % bs.length]?) = some x) (hk : k ≤ 10000) (q_ : Q (.val x) tk) : sp_part_at [.tup [.tup as, .tup bs], .int (k : Int)] tk Q := by
  unfold sp_part_at
  exact ⟨as, bs, k, x, rfl, la, lb, b0, hx, hk, q_⟩
theorem ce_part_at {ds_ : List D} {tk : Tk} {Q : EV → Tk → Prop} {as bs : List D} {k : Nat} {x : D} (la : as.length ≤ 10000) (lb : bs.length ≤ 10000) (b0 : 1 ≤ bs.length) (hx : (if k < as.length then as[k]? else bs[(k - as.length) % bs.length]?) = some x) (hk : k ≤ 10000) (e_ : ds_ = [.tup [.tup as, .tup bs], .int (k : Int)]) (q_ : Q (.val x) tk) : sp_part_at ds_ tk Q := by
  subst e_
  unfold sp_part_at
  exact ⟨as, bs, k, x, rfl, la, lb, b0, hx, hk, q_⟩
abbrev N_part_at : List Str := ["expansion", "index", "first", "period"]
def c_part_at : WS :=
  (wSeq (wAsg (fz (wV 0)) (gT 2 (gCs (gN 2) (gCs (gN 3) gNl))))
  (wSeq (wIfS (wT (wOp fLt (wPk 1) (fz (w1 fLen (wPk 2))))) (wRet (wOp fIdx (wPk 2) (wPk 1))) wNext)
  (wRet (wOp fIdx (wPk 3) (fz (wOp fMod (fz (wOp fSub (wPk 1) (fz (w1 fLen (wPk 2))))) (fz (w1 fLen (wPk 3)))))))))
theorem hw_part_at : ∀ ds tk Q, sp_part_at ds tk Q → c_part_at { nx := fun _ t => Q (.val .non) t, rt := Q } (start N_part_at.length ds) tk := by
  intro ds tk Q h_
  obtain ⟨as, bs, k, x, rfl, la, lb, b0, hx, hk, q⟩ := op_part_at h_
  refine ⟨rfl, ?_⟩
  simp only [gCs, gN, gNl, start_def, List.map_cons, List.map_nil, List.set_cons_zero, List.set_cons_succ, List.replicate_succ, List.replicate_zero, List.cons_append, List.nil_append, List.length_cons, List.length_nil, Nat.reduceAdd, Nat.reduceSub]
  refine seq_cut (a := wIfS _ _ _) (fun e t => t = tk ∧ ¬ k < as.length ∧ e = [some (.val (.tup [.tup as, .tup bs])), some (.val (.int ((k:Int)))), some (.val (.tup as)), some (.val (.tup bs))]) (fun R hR => ?_) ?_
  · refine if2 (fun h => ?_) (fun h => ?_)
    · have h : (k : Int) < (as.length : Int) := h
      rw [if_pos (show k < as.length by omega)] at hx
      refine (show fIdx (.tup as) (.int (k : Int)) (fun ev => Q ev tk) from ?_)
      unfold fIdx
      dsimp only
      rw [atI_nat hx]
      exact q
    · have h : ¬ (k : Int) < (as.length : Int) := h
      exact hR _ _ ⟨rfl, by omega, rfl⟩
  rintro e t ⟨rfl, hk2, rfl⟩
  rw [if_neg hk2] at hx
  have e : ((k : Int) - (as.length : Int)).fmod (bs.length : Int) = (((k - as.length) % bs.length : Nat) : Int) := by
    rw [show (k : Int) - (as.length : Int) = ((k - as.length : Nat) : Int) by omega]
    exact fmod_natN
  refine ⟨(show (bs.length : Int) ≠ 0 by omega), ?_⟩
  show fIdx (.tup bs) (.int (((k : Int) - (as.length : Int)).fmod (bs.length : Int))) _
  rw [e]
  unfold fIdx
  dsimp only
  rw [atI_nat hx]
  exact q
theorem most_iff {d : Nat} {w n : Int} {s : P2} (hr : RootOf d w) (q0 : s.y ≠ 0) : (if 0 < s.y then n * s.y - s.x < 0 ∨ (n * s.y - s.x) * (n * s.y - s.x) ≤ d else n * s.y - s.x > 0 ∧ (n * s.y - s.x) * (n * s.y - s.x) ≥ d) ↔ n ≤ cgA w s := by
  obtain ⟨w0, lo, hi⟩ := id hr
  generalize hR : n * s.y - s.x = R
  split
  · rename_i p
    have k : n ≤ cgA w s ↔ R ≤ w := by
      obtain ⟨a, b⟩ := cg_up (w := w) p
      unfold cgP at a b
      constructor
      · intro z
        have := Int.mul_le_mul_of_nonneg_right z (show 0 ≤ s.y by omega)
        omega
      · intro z
        refine Int.not_lt.mp fun y => ?_
        have := Int.mul_le_mul_of_nonneg_right (show cgA w s + 1 ≤ n by omega) (show 0 ≤ s.y by omega)
        rw [Int.add_mul, Int.one_mul] at this
        omega
    rw [k]
    constructor
    · rintro (z | z)
      · omega
      · refine Int.not_lt.mp fun y => ?_
        have := Int.mul_le_mul (show w + 1 ≤ R by omega) (show w + 1 ≤ R by omega) (by omega) (by omega)
        omega
    · intro z
      rcases (by omega : R < 0 ∨ 0 ≤ R) with y | y
      · exact .inl y
      · have := Int.mul_le_mul z z y (by omega)
        exact .inr (by omega)
  · rename_i p
    have p : s.y < 0 := by omega
    have k : n ≤ cgA w s ↔ w + 1 ≤ R := by
      obtain ⟨a, b⟩ := cg_dn (w := w) p
      unfold cgP at a b
      constructor
      · intro z
        have := Int.mul_le_mul_of_nonneg_right z (show 0 ≤ -s.y by omega)
        rw [Int.mul_neg, Int.mul_neg] at this
        omega
      · intro z
        refine Int.not_lt.mp fun y => ?_
        have := Int.mul_le_mul_of_nonneg_right (show cgA w s + 1 ≤ n by omega) (show 0 ≤ -s.y by omega)
        rw [Int.add_mul, Int.one_mul, Int.mul_neg, Int.mul_neg] at this
        omega
    rw [k]
    constructor
    · rintro ⟨y, z⟩
      refine Int.not_lt.mp fun v => ?_
      have := Int.mul_le_mul (show R ≤ w by omega) (show R ≤ w by omega) (by omega) (by omega)
      omega
    · intro z
      have := Int.mul_le_mul z z (by omega) (by omega)
      exact ⟨by omega, by omega⟩
theorem cgA_bd {d : Nat} {w : Int} {s : P2} (hr : RootOf d w) (q0 : s.y ≠ 0) : (cgA w s).natAbs ≤ s.x.natAbs + w.natAbs + 1 := by
  have w0 := hr.w0
  rcases Int.lt_or_gt_of_ne q0 with p | p
  · obtain ⟨a, b⟩ := cg_dn (w := w) p
    unfold cgP at a b
    generalize cgA w s = A at *
    rcases Int.lt_trichotomy A 0 with z | z | z
    · have := Int.mul_le_mul_of_nonneg_left (show 1 ≤ -s.y by omega) (show 0 ≤ -A - 1 by omega)
      have e : (-A - 1) * s.y = -(A * s.y) - s.y := by rw [Int.sub_mul, Int.neg_mul, Int.one_mul]
      rw [Int.mul_neg, e] at this
      omega
    · omega
    · have := Int.mul_le_mul_of_nonneg_left (show 1 ≤ -s.y by omega) (show 0 ≤ A by omega)
      rw [Int.mul_neg] at this
      omega
  · obtain ⟨a, b⟩ := cg_up (w := w) p
    unfold cgP at a b
    generalize cgA w s = A at *
    rcases Int.lt_trichotomy A 0 with z | z | z
    · have := Int.mul_le_mul_of_nonneg_left (show 1 ≤ s.y by omega) (show 0 ≤ -A - 1 by omega)
      have e : (-A - 1) * s.y = -(A * s.y) - s.y := by rw [Int.sub_mul, Int.neg_mul, Int.one_mul]
      rw [e] at this
      omega
    · omega
    · have := Int.mul_le_mul_of_nonneg_left (show 1 ≤ s.y by omega) (show 0 ≤ A by omega)
      omega
@[irreducible] def sp_Lis_at_most : FSpec := fun ds tk Q => ∃ (n : Int) (s : P2) (d : Nat) (w : Int), ds = [.int n, .int s.x, .int s.y, .int (d : Int)] ∧ (RootOf d w) ∧ (s.y ≠ 0) ∧ (s.Sm 1000) ∧ (Sm 1000 n) ∧ Q (.val (.bl (decide (n ≤ cgA w s)))) tk
theorem op_Lis_at_most {ds : List D} {tk : Tk} {Q : EV → Tk → Prop} (h : sp_Lis_at_most ds tk Q) : ∃ (n : Int) (s : P2) (d : Nat) (w : Int), ds = [.int n, .int s.x, .int s.y, .int (d : Int)] ∧ (RootOf d w) ∧ (s.y ≠ 0) ∧ (s.Sm 1000) ∧ (Sm 1000 n) ∧ Q (.val (.bl (decide (n ≤ cgA w s)))) tk := by unfold sp_Lis_at_most at h; exact h
theorem mon_Lis_at_most : MonFS sp_Lis_at_most := fun ds tk Q Q' hq_ hs_ => by
  obtain ⟨n, s, d, w, e_, hr, q0, sm, sn, q_⟩ := op_Lis_at_most hs_
  unfold sp_Lis_at_most
  exact ⟨n, s, d, w, e_, hr, q0, sm, sn, hq_ _ _ q_⟩
theorem len_Lis_at_most : ∀ ds tk Q, sp_Lis_at_most ds tk Q → ds.length = 4 := fun ds tk Q hs_ => by
  obtain ⟨n, s, d, w, e_, hr, q0, sm, sn, q_⟩ := op_Lis_at_most hs_
  rw [e_]; rfl
theorem cl_Lis_at_most {tk : Tk} {Q : EV → Tk → Prop} {n : Int} {s : P2} {d : Nat} {w : Int} (hr : RootOf d w) (q0 : s.y ≠ 0) (sm : s.Sm 1000) (sn : Sm 1000 n) (q_ : Q (.val (.bl (decide (n ≤ cgA w s)))) tk) : sp_Lis_at_most [.int n, .int s.x, .int s.y, .int (d : Int)] tk Q := by
  unfold sp_Lis_at_most
  exact ⟨n, s, d, w, rfl, hr, q0, sm, sn, q_⟩
theorem ce_Lis_at_most {ds_ : List D} {tk : Tk} {Q : EV → Tk → Prop} {n : Int} {s : P2} {d : Nat} {w : Int} (hr : RootOf d w) (q0 : s.y ≠ 0) (sm : s.Sm 1000) (sn : Sm 1000 n) (e_ : ds_ = [.int n, .int s.x, .int s.y, .int (d : Int)]) (q_ : Q (.val (.bl (decide (n ≤ cgA w s)))) tk) : sp_Lis_at_most ds_ tk Q := by
  subst e_
  unfold sp_Lis_at_most
  exact ⟨n, s, d, w, rfl, hr, q0, sm, sn, q_⟩
abbrev N_Lis_at_most : List Str := ["_law_n", "_law_p", "_law_q", "_law_d", "_law_rest"]
def c_Lis_at_most : WS :=
  (wSeq (wSet 4 (wOp fSub (fz (wOp fMul (wPk 0) (wPk 2))) (wPk 1)))
  (wSeq (wIfS (wT (wOp fGt (wPk 2) (fz (wC (.int 0))))) (wRet (wB (wOr (wT (wOp fLt (wPk 4) (fz (wC (.int 0))))) (wT (wOp fLe (fz (wOp fMul (wPk 4) (wPk 4))) (wPk 3)))))) wNext)
  (wRet (wB (wAnd (wT (wOp fGt (wPk 4) (fz (wC (.int 0))))) (wT (wOp fGe (fz (wOp fMul (wPk 4) (wPk 4))) (wPk 3))))))))
theorem hw_Lis_at_most : ∀ ds tk Q, sp_Lis_at_most ds tk Q → c_Lis_at_most { nx := fun _ t => Q (.val .non) t, rt := Q } (start N_Lis_at_most.length ds) tk := by
  intro ds tk Q h_
  obtain ⟨n, s, d, w, rfl, hr, q0, sm, sn, q⟩ := op_Lis_at_most h_
  obtain ⟨s1, s2⟩ := sm
  have k := most_iff (n := n) hr q0
  have sR : Sm 2001 (n * s.y - s.x) := ((sn.mul s2).sub (s1.mono (by decide))).mono (by decide)
  refine seq_cut (a := wSet _ _) (fun e t => t = tk ∧ e = [some (.val (.int (n))), some (.val (.int (s.x))), some (.val (.int (s.y))), some (.val (.int ((d:Int)))), some (.val (.int ((n * s.y - s.x))))]) (fun R hR => ⟨q1 sn s2, hR _ _ ⟨rfl, rfl⟩⟩) ?_
  rintro e t ⟨rfl, rfl⟩
  refine seq_cut (a := wIfS _ _ _) (fun e t' => t' = t ∧ s.y < 0 ∧ e = [some (.val (.int (n))), some (.val (.int (s.x))), some (.val (.int (s.y))), some (.val (.int ((d:Int)))), some (.val (.int ((n * s.y - s.x))))]) (fun R hR => ?_) ?_
  · refine if2 (fun h => ?_) (fun h => ?_)
    · have h : 0 < s.y := h
      rw [if_pos h] at k
      rw [show decide (n ≤ cgA w s) = decide (n * s.y - s.x < 0 ∨ (n * s.y - s.x) * (n * s.y - s.x) ≤ d) from decide_eq_decide.mpr k.symm] at q
      refine if2 (fun h1 => ?_) (fun h1 => ?_)
      · rw [decide_eq_true (.inl h1)] at q
        exact q
      · refine ⟨q1 sR sR, ?_⟩
        rw [show decide (n * s.y - s.x < 0 ∨ (n * s.y - s.x) * (n * s.y - s.x) ≤ d) = decide ((n * s.y - s.x) * (n * s.y - s.x) ≤ d) from decide_eq_decide.mpr ⟨fun z => z.resolve_left h1, .inr⟩] at q
        exact q
    · exact hR _ _ ⟨rfl, by have h : ¬ s.y > 0 := h; omega, rfl⟩
  rintro e t ⟨rfl, h, rfl⟩
  rw [if_neg (by omega)] at k
  rw [show decide (n ≤ cgA w s) = decide (n * s.y - s.x > 0 ∧ (n * s.y - s.x) * (n * s.y - s.x) ≥ d) from decide_eq_decide.mpr k.symm] at q
  refine if2 (fun h1 => ?_) (fun h1 => ?_)
  · refine ⟨q1 sR sR, ?_⟩
    rw [show decide (n * s.y - s.x > 0 ∧ (n * s.y - s.x) * (n * s.y - s.x) ≥ d) = decide ((n * s.y - s.x) * (n * s.y - s.x) ≥ d) from decide_eq_decide.mpr ⟨fun z => z.2, fun z => ⟨h1, z⟩⟩] at q
    exact q
  · rw [decide_eq_false fun z => h1 z.1] at q
    exact q
@[irreducible] def sp_Lpart : FSpec := fun ds tk Q => ∃ (s : P2) (d : Nat) (w : Int), ds = [.int s.x, .int s.y, .int (d : Int)] ∧ (RootOf d w) ∧ (s.y ≠ 0) ∧ (s.x.natAbs ≤ 2 ^ 50) ∧ (Sm 1000 s.y) ∧ (d ≤ 10000) ∧ Q (.val (.int (cgA w s))) tk
theorem op_Lpart {ds : List D} {tk : Tk} {Q : EV → Tk → Prop} (h : sp_Lpart ds tk Q) : ∃ (s : P2) (d : Nat) (w : Int), ds = [.int s.x, .int s.y, .int (d : Int)] ∧ (RootOf d w) ∧ (s.y ≠ 0) ∧ (s.x.natAbs ≤ 2 ^ 50) ∧ (Sm 1000 s.y) ∧ (d ≤ 10000) ∧ Q (.val (.int (cgA w s))) tk := by unfold sp_Lpart at h; exact h
theorem mon_Lpart : MonFS sp_Lpart := fun ds tk Q Q' hq_ hs_ => by
  obtain ⟨s, d, w, e_, hr, q0, sx, sy, hd, q_⟩ := op_Lpart hs_
  unfold sp_Lpart
  exact ⟨s, d, w, e_, hr, q0, sx, sy, hd, hq_ _ _ q_⟩
theorem len_Lpart : ∀ ds tk Q, sp_Lpart ds tk Q → ds.length = 3 := fun ds tk Q hs_ => by
  obtain ⟨s, d, w, e_, hr, q0, sx, sy, hd, q_⟩ := op_Lpart hs_
  rw [e_]; rfl
theorem cl_Lpart {tk : Tk} {Q : EV → Tk → Prop} {s : P2} {d : Nat} {w : Int} (hr : RootOf d w) (q0 : s.y ≠ 0) (sx : s.x.natAbs ≤ 2 ^ 50) (sy : Sm 1000 s.y) (hd : d ≤ 10000) (q_ : Q (.val (.int (cgA w s))) tk) : sp_Lpart [.int s.x, .int s.y, .int (d : Int)] tk Q := by
  unfold sp_Lpart
  exact ⟨s, d, w, rfl, hr, q0, sx, sy, hd, q_⟩
theorem ce_Lpart {ds_ : List D} {tk : Tk} {Q : EV → Tk → Prop} {s : P2} {d : Nat} {w : Int} (hr : RootOf d w) (q0 : s.y ≠ 0) (sx : s.x.natAbs ≤ 2 ^ 50) (sy : Sm 1000 s.y) (hd : d ≤ 10000) (e_ : ds_ = [.int s.x, .int s.y, .int (d : Int)]) (q_ : Q (.val (.int (cgA w s))) tk) : sp_Lpart ds_ tk Q := by
  subst e_
  unfold sp_Lpart
  exact ⟨s, d, w, rfl, hr, q0, sx, sy, hd, q_⟩
abbrev N_Lpart : List Str := ["_law_p", "_law_q", "_law_d", "_law_low", "_law_high", "_law_k", "_law_middle"]
def c_Lpart : WS :=
  (wSeq (wSet 3 (wOp fSub (fz (wOp fSub (fz (w1 fNeg (fz (w1 fAbs (wPk 0))))) (wPk 2))) (fz (wC (.int 2)))))
  (wSeq (wSet 4 (wOp fAdd (fz (wOp fAdd (fz (w1 fAbs (wPk 0))) (wPk 2))) (fz (wC (.int 2)))))
  (wSeq (wFor (wR1 (fz (wC (.int 60)))) (gN 5) (wSeq (wIfS (wT (wOp fLe (fz (wOp fSub (wPk 4) (wPk 3))) (fz (wC (.int 1))))) (wRetV 3) wNext)
  (wSeq (wSet 6 (wOp fDiv (fz (wOp fAdd (wPk 3) (wPk 4))) (fz (wC (.int 2)))))
  (wIfS (wT (wCall sp_Lis_at_most (wCons (fz (wV 6)) (wCons (fz (wV 0)) (wCons (fz (wV 1)) (wCons (fz (wV 2)) wNil)))))) (wSet 3 (wV 6)) (wSet 4 (wV 6))))))
  (wRetV 3))))
theorem hw_Lpart : ∀ ds tk Q, sp_Lpart ds tk Q → c_Lpart { nx := fun _ t => Q (.val .non) t, rt := Q } (start N_Lpart.length ds) tk := by
  intro ds tk Q h_
  obtain ⟨s, d, w, rfl, hr, q0, sx, sy, hd, q⟩ := op_Lpart h_
  have w0 := hr.w0
  have wd : w < d := by
    have := hr.lo
    have := Int.mul_le_mul_of_nonneg_left (show 1 ≤ w by omega) (show 0 ≤ w by omega)
    omega
  have bd := cgA_bd hr q0
  have sx2 : Sm 1000 s.x := Nat.lt_of_le_of_lt sx (by decide +kernel)
  refine seq_cut (a := wSet _ _) (fun e t => t = tk ∧ ∃ lo : Int, (lo ≤ cgA w s ∧ lo = -(s.x.natAbs : Int) - d - 2) ∧ e = [some (.val (.int (s.x))), some (.val (.int (s.y))), some (.val (.int ((d:Int)))), some (.val (.int (lo))), none, none, none]) (fun R hR => ?_) ?_
  · refine hR _ _ ⟨rfl, -(if s.x < 0 then -s.x else s.x) - d - 2, ⟨?_, ?_⟩, rfl⟩
    · split <;> omega
    · split <;> omega
  rintro e t ⟨rfl, lo, ⟨lo1, lo2⟩, rfl⟩
  refine seq_cut (a := wSet _ _) (fun e t' => t' = t ∧ ∃ hi : Int, (cgA w s < hi ∧ hi = (s.x.natAbs : Int) + d + 2) ∧ e = [some (.val (.int (s.x))), some (.val (.int (s.y))), some (.val (.int ((d:Int)))), some (.val (.int (lo))), some (.val (.int (hi))), none, none]) (fun R hR => ?_) ?_
  · refine hR _ _ ⟨rfl, (if s.x < 0 then -s.x else s.x) + d + 2, ⟨?_, ?_⟩, rfl⟩
    · split <;> omega
    · split <;> omega
  rintro e t' ⟨rfl, hi, ⟨hi1, hi2⟩, rfl⟩
  have e50 : (2 : Nat) ^ 50 = 1125899906842624 := by decide
  have e59 : (2 : Nat) ^ 59 = 576460752303423488 := by decide
  rw [e50] at sx
  refine seq_cut (a := wFor _ _ _) (fun e t => t = t' ∧ ∃ (hi : Int) (x5 x6 : Option EV), e = [some (.val (.int (s.x))), some (.val (.int (s.y))), some (.val (.int ((d:Int)))), some (.val (.int ((cgA w s)))), some (.val (.int (hi))), x5, x6]) (fun R0 hR0 => ?_) ?_
  · refine ⟨by decide, by decide, ?_⟩
    refine forGo_rng (lo := 0) (n := 60) (fun i e t => t = t' ∧ ∃ (lo hi : Int) (x5 x6 : Option EV), (lo ≤ cgA w s ∧ cgA w s < hi ∧ hi - lo ≤ ((2 ^ (59 - i) : Nat) : Int) ∧ lo.natAbs ≤ 2 ^ 60 ∧ hi.natAbs ≤ 2 ^ 60) ∧ e = [some (.val (.int (s.x))), some (.val (.int (s.y))), some (.val (.int ((d:Int)))), some (.val (.int (lo))), some (.val (.int (hi))), x5, x6]) (fun i e t R hi60 hI hR => ?_) (fun e t hI => ?_) ⟨rfl, lo, hi, none, none, ⟨lo1, hi1, by rw [Nat.sub_zero, e59]; omega, by omega, by omega⟩, rfl⟩
    rotate_left
    · obtain ⟨rfl, lo, hi, x5, x6, ⟨a, b, c, _, _⟩, rfl⟩ := hI
      have c : hi - lo ≤ 1 := c
      have e : lo = cgA w s := by omega
      subst e
      exact hR0 _ _ ⟨rfl, hi, x5, x6, rfl⟩
    obtain ⟨rfl, lo, hi, x5, x6, ⟨a, b, c, d1, d2⟩, rfl⟩ := hI
    refine seq_cut (a := wIfS _ _ _) (fun e t2 => t2 = t ∧ 1 < hi - lo ∧ e = [some (.val (.int (s.x))), some (.val (.int (s.y))), some (.val (.int ((d:Int)))), some (.val (.int (lo))), some (.val (.int (hi))), some (.val (.int ((0 + (i : Int))))), x6]) (fun R3 hR3 => ?_) ?_
    · refine if2 (fun h => ?_) (fun h => ?_)
      · have h : hi - lo ≤ 1 := h
        have e : lo = cgA w s := by omega
        subst e
        exact q
      · exact hR3 _ _ ⟨rfl, by have h : ¬ hi - lo ≤ 1 := h; omega, rfl⟩
    rintro e t2 ⟨rfl, wd2, rfl⟩
    have i58 : i ≤ 58 := by
      refine Nat.not_lt.mp fun z => ?_
      have e : (59 - i) = 0 := by omega
      rw [e] at c
      omega
    obtain ⟨j, ej⟩ : ∃ j, 59 - i = j + 1 := ⟨58 - i, by omega⟩
    have ej2 : 59 - (i + 1) = j := by omega
    rw [ej, Nat.pow_succ] at c
    have md := Int.mul_fdiv_add_fmod (lo + hi) 2
    have m1 := Int.fmod_nonneg_of_pos (lo + hi) (show (0 : Int) < 2 by decide)
    have m2 := Int.fmod_lt_of_pos (lo + hi) (show (0 : Int) < 2 by decide)
    obtain ⟨M, hM⟩ : ∃ M, M = (lo + hi).fdiv 2 := ⟨_, rfl⟩
    rw [← hM] at md
    have e60 : (2 : Nat) ^ 60 = 1152921504606846976 := by decide
    refine seq_cut (a := wSet _ _) (fun e t3 => t3 = t2 ∧ e = [some (.val (.int (s.x))), some (.val (.int (s.y))), some (.val (.int ((d:Int)))), some (.val (.int (lo))), some (.val (.int (hi))), some (.val (.int ((0 + (i : Int))))), some (.val (.int (M)))]) (fun R3 hR3 => ?_) ?_
    · refine ⟨DivOk.of (k := 2) (by decide) (show (2 : Int).natAbs < 2 ^ 2 by decide) (by decide), ?_⟩
      subst hM
      exact hR3 _ _ ⟨rfl, rfl⟩
    rintro e t3 ⟨rfl, rfl⟩
    refine cl_Lis_at_most (n := M) (s := s) (d := d) (w := w) hr q0 ⟨sx2, sy⟩ (Nat.lt_of_le_of_lt (show M.natAbs ≤ 2 ^ 60 by rw [e60] at *; omega) (by decide +kernel)) ?_
    refine if2 (fun h => ?_) (fun h => ?_)
    · refine hR _ _ ⟨rfl, M, hi, _, _, ⟨h, b, by rw [ej2]; omega, by rw [e60] at *; omega, d2⟩, rfl⟩
    · refine hR _ _ ⟨rfl, lo, M, _, _, ⟨a, by omega, by rw [ej2]; omega, d1, by rw [e60] at *; omega⟩, rfl⟩
  rintro e t ⟨rfl, hi, x5, x6, rfl⟩
  exact q
@[irreducible] def sp_Lrefused : FSpec := fun ds tk Q => ∃ (p y : Int) (d : Nat), ds = [.int p, .int y, .int (d : Int)] ∧ (Sm 1000 p) ∧ (Sm 1000 y) ∧ (d ≤ 10000) ∧ (IsSq d ∨ y = 0 ∨ ¬ y ∣ (d : Int) - p * p) ∧ Q (.val (.bl true)) tk
theorem op_Lrefused {ds : List D} {tk : Tk} {Q : EV → Tk → Prop} (h : sp_Lrefused ds tk Q) : ∃ (p y : Int) (d : Nat), ds = [.int p, .int y, .int (d : Int)] ∧ (Sm 1000 p) ∧ (Sm 1000 y) ∧ (d ≤ 10000) ∧ (IsSq d ∨ y = 0 ∨ ¬ y ∣ (d : Int) - p * p) ∧ Q (.val (.bl true)) tk := by unfold sp_Lrefused at h; exact h
theorem mon_Lrefused : MonFS sp_Lrefused := fun ds tk Q Q' hq_ hs_ => by
  obtain ⟨p, y, d, e_, sp, sy, hd, bad, q_⟩ := op_Lrefused hs_
  unfold sp_Lrefused
  exact ⟨p, y, d, e_, sp, sy, hd, bad, hq_ _ _ q_⟩
theorem len_Lrefused : ∀ ds tk Q, sp_Lrefused ds tk Q → ds.length = 3 := fun ds tk Q hs_ => by
  obtain ⟨p, y, d, e_, sp, sy, hd, bad, q_⟩ := op_Lrefused hs_
  rw [e_]; rfl
theorem cl_Lrefused {tk : Tk} {Q : EV → Tk → Prop} {p y : Int} {d : Nat} (sp : Sm 1000 p) (sy : Sm 1000 y) (hd : d ≤ 10000) (bad : IsSq d ∨ y = 0 ∨ ¬ y ∣ (d : Int) - p * p) (q_ : Q (.val (.bl true)) tk) : sp_Lrefused [.int p, .int y, .int (d : Int)] tk Q := by
  unfold sp_Lrefused
  exact ⟨p, y, d, rfl, sp, sy, hd, bad, q_⟩
theorem ce_Lrefused {ds_ : List D} {tk : Tk} {Q : EV → Tk → Prop} {p y : Int} {d : Nat} (sp : Sm 1000 p) (sy : Sm 1000 y) (hd : d ≤ 10000) (bad : IsSq d ∨ y = 0 ∨ ¬ y ∣ (d : Int) - p * p) (e_ : ds_ = [.int p, .int y, .int (d : Int)]) (q_ : Q (.val (.bl true)) tk) : sp_Lrefused ds_ tk Q := by
  subst e_
  unfold sp_Lrefused
  exact ⟨p, y, d, rfl, sp, sy, hd, bad, q_⟩
end DL
set_option maxHeartbeats 1000000
namespace DL
open PySem PySem.Spec PyProof.Rows L2
/-! ### lists of tuples of ints: the same, in -/
theorem okN_tI (xs : List Int) (n : Nat) : okN (n + 1) (tI xs) = true := by
  have : ∀ (n : Nat) (xs : List Int), okNs n (xs.map D.int) = true := fun n xs => by
    induction xs with
    | nil => exact okNs_nil
    | cons x xs ih => exact okNs_int ih
  unfold tI okN
  exact this n xs
theorem okL_tI (l : List (List Int)) : D.ok (.lst (l.map tI)) = true := by
  unfold D.ok okN
  induction l with
  | nil => exact okNs_nil
  | cons x l ih =>
    rw [List.map_cons]
    unfold okNs
    rw [okN_tI x 58, ih]
    rfl
theorem okL_i (xs : List Int) : D.ok (.lst (xs.map D.int)) = true := by
  unfold D.ok okN
  induction xs with
  | nil => exact okNs_nil
  | cons x xs ih => exact okNs_int ih
theorem p_lst (ds : List D) : (D.lst ds).p = .list (ds.map D.p) := by
  conv => lhs; unfold D.p
  rw [ps_map]
theorem eqvL_i (xs ys : List Int) : D.eqv (.lst (xs.map D.int)) (.lst (ys.map D.int)) = decide (xs = ys) := by
  unfold D.eqv
  rw [p_lst, p_lst, List.map_map, List.map_map]
  show PyData.eqvAll (xs.map .int) (ys.map .int) = _
  exact eqvAll_int xs ys
theorem eqvAll_tI : ∀ l m : List (List Int), PyData.eqvAll (l.map fun x => (tI x).p) (m.map fun x => (tI x).p) = decide (l = m)
  | [], [] => rfl
  | [], y :: ys => by
    rw [decide_eq_false (by intro h; cases h)]
    rfl
  | x :: xs, [] => by
    rw [decide_eq_false (by intro h; cases h)]
    rfl
  | x :: xs, y :: ys => by
    have e : PyData.eqvAll ((x :: xs).map fun x => (tI x).p) ((y :: ys).map fun x => (tI x).p) = (D.eqv (tI x) (tI y) && PyData.eqvAll (xs.map fun x => (tI x).p) (ys.map fun x => (tI x).p)) := by
      rw [List.map_cons, List.map_cons]
      conv => lhs; unfold PyData.eqvAll
      rfl
    rw [e, eqvAll_tI xs ys, eqv_tI]
    by_cases h1 : x = y <;> by_cases h2 : xs = ys <;> simp [h1, h2]
theorem eqvL_tI (l m : List (List Int)) : D.eqv (.lst (l.map tI)) (.lst (m.map tI)) = decide (l = m) := by
  unfold D.eqv
  rw [p_lst, p_lst, List.map_map, List.map_map]
  exact eqvAll_tI l m
theorem any_tI (x : List Int) : ∀ l : List (List Int), ((l.map tI).any fun z => z.eqv (tI x)) = decide (x ∈ l)
  | [] => rfl
  | y :: l => by
    rw [List.map_cons, List.any_cons, any_tI x l, eqv_tI]
    by_cases h1 : y = x
    · subst h1; simp
    · by_cases h2 : x ∈ l
      · simp [h2]
      · have h3 : ¬ x = y := fun z => h1 z.symm
        simp [h1, h2, h3]
end DL
set_option maxHeartbeats 1000000
set_option pp.maxSteps 1200
namespace DL
open PySem PySem.Spec PyProof.Rows L2
theorem alike_i5 (a b : Int) : alikeD (.int a) (.int b) = true := by
  have e : ∀ x : Int, (D.int x).p = .int x := fun x => by unfold D.p; rfl
  unfold alikeD
  rw [e, e]
  rfl
theorem dLt_i5 (a b : Int) : dLt (.int a) (.int b) = decide (a < b) := by
  have e : ∀ x : Int, (D.int x).p = .int x := fun x => by unfold D.p; rfl
  unfold dLt
  rw [e, e]
  exact PySem.W.dataLt_int a b
theorem min2_5 {a b : Int} {q : EV → Prop} (h : ∀ z : Int, (z = a ∨ z = b) → z ≤ a → z ≤ b → q (.val (.int z))) : fMin1 (.lst [.int a, .int b]) q := by
  have two : ∀ {P : D → Prop}, P (.int a) → P (.int b) → ∀ x ∈ [D.int a, D.int b], P x := fun {P} h1 h2 x hx => by
    rcases List.mem_cons.mp hx with rfl | hx
    · exact h1
    · rw [List.mem_singleton] at hx; subst hx; exact h2
  refine ⟨⟨by simp, two ok_int ok_int, two (two (alike_i5 _ _) (alike_i5 _ _)) (two (alike_i5 _ _) (alike_i5 _ _)), two (fun z => nomatch z) (fun z => nomatch z)⟩, two (fun hm => ?_) (fun hm => ?_)⟩
  · have := hm (.int b) (by simp)
    rw [dLt_i5] at this
    have := of_decide_eq_false this
    exact h a (.inl rfl) (Int.le_refl _) (by omega)
  · have := hm (.int a) (by simp)
    rw [dLt_i5] at this
    have := of_decide_eq_false this
    exact h b (.inr rfl) (by omega) (Int.le_refl _)
theorem okL_i5 (xs : List Int) : D.ok (.lst (xs.map D.int)) = true := okL_i xs
theorem idx_bb5 {b : Bool} {x y : D} {q : EV → Prop} (h1 : b = true → q (.val y)) (h2 : b = false → q (.val x)) : fIdx (.lst [x, y]) (.int (if b = true then 1 else 0)) q := by
  cases b
  · exact h2 rfl
  · exact h1 rfl
theorem szL5 {n : Nat} (h : n ≤ 1000000) : n ≤ sizeLine := Nat.le_trans h (by decide)
def dkv (d w : Int) (s : P2) (i : Nat) : List (List Int × D) := (List.range i).map fun j => ([(cgR d w s j).x, (cgR d w s j).y], D.int (j : Int))
theorem dkv_succ (d w : Int) (s : P2) (i : Nat) : dkv d w s (i + 1) = dkv d w s i ++ [([(cgR d w s i).x, (cgR d w s i).y], D.int (i : Int))] := by
  unfold dkv; rw [List.range_succ, List.map_append]; rfl
theorem dkv_len (d w : Int) (s : P2) (i : Nat) : (dkv d w s i).length = i := by unfold dkv; rw [List.length_map, List.length_range]
theorem dkv_key {d w : Int} {s : P2} {i : Nat} {P : P2} : (dGet (dkv d w s i) [P.x, P.y]).isSome = true ↔ ∃ j, j < i ∧ cgR d w s j = P := by
  rw [dGet_mem]
  unfold dkv
  rw [List.map_map, List.mem_map]
  constructor
  · rintro ⟨j, hj, e⟩
    refine ⟨j, List.mem_range.mp hj, ?_⟩
    injection e with e1 e2
    injection e2 with e2 _
    exact p2e e1 e2
  · rintro ⟨j, hj, e⟩
    exact ⟨j, List.mem_range.mpr hj, by rw [← e]; rfl⟩
theorem dkv_put {d w : Int} {s : P2} {i : Nat} (h : ∀ j, j < i → cgR d w s j ≠ cgR d w s i) : dPut (dkv d w s i) [(cgR d w s i).x, (cgR d w s i).y] (.int (i : Int)) = dkv d w s (i + 1) := by
  have e : (dGet (dkv d w s i) [(cgR d w s i).x, (cgR d w s i).y]).isSome ≠ true := fun z => by
    obtain ⟨j, hj, e⟩ := dkv_key.mp z
    exact h j hj e
  unfold dPut
  rw [if_neg e, dkv_succ]
theorem dGet_in5 {kvs : List (List Int × D)} {js : List Int} {d : D} (h : dGet kvs js = some d) : (js, d) ∈ kvs := by
  unfold dGet at h
  obtain ⟨e, he, rfl⟩ := Option.map_eq_some_iff.mp h
  have h1 := List.find?_some he
  have h2 := List.mem_of_find?_eq_some he
  have h1 : e.1 = js := of_decide_eq_true h1
  rw [← h1]
  exact h2
theorem dkv_get {d w : Int} {s : P2} {m l : Nat} (hr : RootOf d w) (E : ExpC d w s m l) : dGet (dkv d w s (m + l)) [(cgR d w s (m + l)).x, (cgR d w s (m + l)).y] = some (.int (m : Int)) := by
  have l0 := E.l0
  have k : (dGet (dkv d w s (m + l)) [(cgR d w s (m + l)).x, (cgR d w s (m + l)).y]).isSome = true := dkv_key.mpr ⟨m, by omega, E.back.symm⟩
  obtain ⟨x, hx⟩ := Option.isSome_iff_exists.mp k
  rw [hx]
  have h := dGet_in5 hx
  unfold dkv at h
  obtain ⟨j, hj, e⟩ := List.mem_map.mp h
  have hj := List.mem_range.mp hj
  injection e with e1 e2
  injection e1 with e3 e4
  injection e4 with e4 _
  have ej : cgR d w s j = cgR d w s m := (p2e e3 e4).trans E.back
  have jm : j = m := by
    rcases Nat.lt_trichotomy j m with z | z | z
    · exact absurd ej (exp_inj hr E z (by omega))
    · exact z
    · exact absurd ej.symm (exp_inj hr E z hj)
  rw [← e2, jm]
theorem prtsL_at {d w : Int} {s : P2} {a n k : Nat} (h : k < n) : (prtsL d w s a n)[k]? = some (.int (cgA w (cgR d w s (a + k)))) := by
  unfold prtsL
  rw [List.getElem?_map, List.getElem?_range h]
  rfl
theorem prtsL_split (d w : Int) (s : P2) (m : Nat) : ∀ l, prtsL d w s 0 (m + l) = prtsL d w s 0 m ++ prtsL d w s m l
  | 0 => by rw [Nat.add_zero]; exact (List.append_nil _).symm
  | l + 1 => by rw [← Nat.add_assoc, prtsL_succ, prtsL_split d w s m l, prtsL_succ, List.append_assoc, Nat.zero_add]
theorem cut_t5 (d w : Int) (s : P2) (m l : Nat) : cutG (prtsL d w s 0 (m + l)) none (some (m : Int)) = prtsL d w s 0 m := by
  unfold cutG
  rw [prtsL_len, HT.sIx_nat]
  show ((prtsL d w s 0 (m + l)).drop 0).take (min m (m + l) - 0) = _
  rw [List.drop_zero, Nat.sub_zero, Nat.min_eq_left (by omega), prtsL_split]
  have e := List.take_left' (l₁ := prtsL d w s 0 m) (l₂ := prtsL d w s m l) (prtsL_len d w s 0 m)
  exact e
theorem cut_d5 (d w : Int) (s : P2) (m l : Nat) : cutG (prtsL d w s 0 (m + l)) (some (m : Int)) none = prtsL d w s m l := by
  unfold cutG
  rw [prtsL_len, HT.sIx_nat]
  show ((prtsL d w s 0 (m + l)).drop (min m (m + l))).take (m + l - min m (m + l)) = _
  rw [Nat.min_eq_left (by omega), prtsL_split]
  have e := List.drop_left' (l₁ := prtsL d w s 0 m) (l₂ := prtsL d w s m l) (prtsL_len d w s 0 m)
  rw [e]
  exact List.take_of_length_le (by rw [prtsL_len]; omega)
theorem rep_at {ds : List D} (h0 : 1 ≤ ds.length) : ∀ (n j : Nat), j < n * ds.length → (List.replicate n ds).flatten[j]? = ds[j % ds.length]?
  | 0, j, h => by omega
  | n + 1, j, h => by
    rw [List.replicate_succ, List.flatten_cons]
    rw [Nat.succ_mul] at h
    by_cases c : j < ds.length
    · rw [List.getElem?_append_left c, Nat.mod_eq_of_lt c]
    · rw [List.getElem?_append_right (by omega), rep_at h0 n (j - ds.length) (by omega), ← Nat.mod_eq_sub_mod (show j ≥ ds.length by omega)]
def vAt (m l k : Nat) : Nat := if k < m then k else m + (k - m) % l
theorem due_at {d w : Int} {s : P2} {m l k : Nat} (l0 : 1 ≤ l) (hk : k < 60) : (prtsL d w s 0 (m + l) ++ (List.replicate 60 (prtsL d w s m l)).flatten)[k]? = some (.int (cgA w (cgR d w s (vAt m l k)))) := by
  unfold vAt
  by_cases c : k < m + l
  · rw [List.getElem?_append_left (by rw [prtsL_len]; exact c), prtsL_at c, Nat.zero_add]
    split
    · rfl
    · rw [Nat.mod_eq_of_lt (by omega), show m + (k - m) = k by omega]
  · have hl : (prtsL d w s m l).length = l := prtsL_len _ _ _ _ _
    rw [List.getElem?_append_right (by rw [prtsL_len]; omega), prtsL_len, rep_at (by omega) 60 _ (by rw [hl]; have := Nat.mul_le_mul_left 60 l0; omega), hl, if_neg (by omega)]
    rw [prtsL_at (Nat.mod_lt _ (by omega)), show k - m = (k - (m + l)) + l by omega, Nat.add_mod_right]
theorem part_is {d w : Int} {s : P2} {m l k : Nat} (l0 : 1 ≤ l) : (if k < (prtsL d w s 0 m).length then (prtsL d w s 0 m)[k]? else (prtsL d w s m l)[(k - (prtsL d w s 0 m).length) % (prtsL d w s m l).length]?) = some (.int (cgA w (cgR d w s (vAt m l k)))) := by
  unfold vAt
  rw [prtsL_len, prtsL_len]
  split
  · rename_i c
    rw [prtsL_at c, Nat.zero_add]
  · rw [prtsL_at (Nat.mod_lt _ (by omega))]
theorem okT5 (a b : List D) (ha : okNs 58 a = true) (hb : okNs 58 b = true) : D.ok (.tup [.tup a, .tup b]) = true := by
  unfold D.ok okN okNs okNs okNs
  rw [show okN 59 (.tup a) = true from by unfold okN; exact ha, show okN 59 (.tup b) = true from by unfold okN; exact hb]
  rfl
theorem due_set5 {ds bs : List D} {n k : Nat} {x : D} {P : Post} {env : En} {tk : Tk} (h10 : env[10]? = some (some (.own ds))) (h13 : env[13]? = some (some (.val (.int (n : Int))))) (h12 : env[12]? = some (some (.val (.int (k : Int)))))
    (e2 : cutG ds (some (n : Int)) none = bs) (l1 : ds.length ≤ 10000) (l2 : bs.length ≤ 10000) (hx : (ds ++ (List.replicate 60 bs).flatten)[k]? = some x) (h : P.nx (env.set 15 (some (.val x))) tk) :
    wSet 15 (wOp fIdx (fz (wOp fAdd (wPk 10) (fz (wRepK 60 (wSl (wPk 10) (wSo (wPk 13)) wNo))))) (wPk 12)) P env tk := by
  simp only [wSet, wOp, fz, wPk, wRepK, wSl, wSo, wNo, h10, h13, h12]
  dsimp only [EV.d]
  unfold fSl
  dsimp only [EV.d]
  rw [e2]
  have fl : (List.replicate 60 bs).flatten.length = 60 * bs.length := by
    rw [List.length_flatten, List.map_replicate, List.sum_replicate_nat]
  refine ⟨szL5 (by omega), ?_⟩
  refine ⟨szL5 (by rw [fl]; omega), ?_⟩
  show fIdx (.lst (ds ++ (List.replicate 60 bs).flatten)) (.int (k : Int)) _
  unfold fIdx
  dsimp only
  rw [atI_nat hx]
  exact h
theorem ne_told5 {ds as bs : List D} {n : Int} {env : En} {tk : Tk} {K : Bool → En → Tk → Prop} (h14 : env[14]? = some (some (.val (.tup [.tup as, .tup bs])))) (h10 : env[10]? = some (some (.own ds))) (h13 : env[13]? = some (some (.val (.int n))))
    (e1 : cutG ds none (some n) = as) (e2 : cutG ds (some n) none = bs) (ok : D.ok (.tup [.tup as, .tup bs]) = true) (h : K false env tk) :
    wT (wOp fNe (wPk 14) (fz (wTup (wCons (fz (w1 fTuple (fz (wSl (wPk 10) wNo (wSo (wPk 13)))))) (wCons (fz (w1 fTuple (fz (wSl (wPk 10) (wSo (wPk 13)) wNo)))) wNil))))) env tk K := by
  simp only [wT, wOp, fz, w1, wPk, wTup, wCons, wNil, wSl, wNo, wSo, h14, h10, h13]
  dsimp only [EV.d]
  unfold fSl fTuple
  dsimp only [EV.d]
  rw [e1, e2]
  refine ⟨rfl, ok, ok, ?_⟩
  dsimp only [EV.d]
  rw [eqv_self ok]
  exact h
abbrev N_law_v5 : List Str := ["_law_script", "_law_state_here", "_law_d", "_law_p", "_law_root_here", "_law_square", "_law_top", "_law_menu", "_law_q", "_law_seen", "_law_parts", "_law_at", "_law_k", "_law_first", "_law_told", "_law_due", "_law_part_here", "_law_after"]
def c_law_v5 : WS :=
  (wSeq (wSet 1 (wCall sp_Lstate (wCons (fz (wV 0)) wNil)))
  (wSeq (wSet 2 (wOp fAdd (fz (wOp fIdx (fz (wLst (wCons (fz (wC (.int 2))) (wCons (fz (wC (.int 0))) wNil)))) (fz (w1 fInt (fz (wOp fEq (fz (wCall sp_Lnext (wCons (fz (wV 1)) (wCons (fz (wC (.int 12))) wNil)))) (fz (wC (.int 0))))))))) (fz (wCall sp_Lnext (wCons (fz (wV 1)) (wCons (fz (wOp fIdx (fz (wLst (wCons (fz (wC (.int 60))) (wCons (fz (wC (.int 3000))) (wCons (fz (wC (.int 3))) wNil))))) (fz (wCall sp_Lnext (wCons (fz (wV 1)) (wCons (fz (wC (.int 3))) wNil)))))) wNil))))))
  (wSeq (wSet 3 (wOp fIdx (fz (wLst (wCons (fz (wOp fSub (fz (wCall sp_Lnext (wCons (fz (wV 1)) (wCons (fz (wC (.int 60))) wNil)))) (fz (wC (.int 30))))) (wCons (fz (wOp fSub (fz (wCall sp_Lwide (wCons (fz (wV 1)) (wCons (fz (wOp fPow (fz (wC (.int 10))) (fz (wC (.int 6))))) wNil)))) (fz (wC (.int 500000))))) wNil)))) (fz (w1 fInt (fz (wOp fEq (fz (wCall sp_Lnext (wCons (fz (wV 1)) (wCons (fz (wC (.int 6))) wNil)))) (fz (wC (.int 0)))))))))
  (wSeq (wSet 4 (wCall sp_Lroot (wCons (fz (wV 2)) wNil)))
  (wSeq (wSet 5 (wOp fEq (fz (wOp fMul (wPk 4) (wPk 4))) (wPk 2)))
  (wSeq (wSet 6 (w1 fAbs (fz (wOp fSub (wPk 2) (fz (wOp fMul (wPk 3) (wPk 3)))))))
  (wSeq (wSet 7 (wLc (wR2 (fz (wC (.int 1))) (fz (wOp fAdd (fz (w1 fMin1 (fz (wLst (wCons (fz (wV 6)) (wCons (fz (wC (.int 200))) wNil)))))) (fz (wC (.int 1)))))) (gN 8) (wT (wOp fEq (fz (wOp fMod (wPk 6) (wPk 8))) (fz (wC (.int 0))))) (wV 8) [8]))
  (wSeq (wSet 8 (wOp fIdx (fz (wLst (wCons (fz (w1 fNeg (fz (wC (.int 1))))) (wCons (fz (wC (.int 1))) wNil)))) (fz (wCall sp_Lnext (wCons (fz (wV 1)) (wCons (fz (wC (.int 2))) wNil))))))
  (wSeq (wIfS (wT (wOp fNe (wPk 7) (fz (wLst wNil)))) (wSet 8 (wOp fMul (wPk 8) (fz (wOp fIdx (wPk 7) (fz (wCall sp_Lnext (wCons (fz (wV 1)) (wCons (fz (w1 fLen (wPk 7))) wNil)))))))) wNext)
  (wSeq (wIfS (wT (wOp fEq (fz (wCall sp_Lnext (wCons (fz (wV 1)) (wCons (fz (wC (.int 8))) wNil)))) (fz (wC (.int 0))))) (wSet 8 (wOp fSub (fz (wCall sp_Lnext (wCons (fz (wV 1)) (wCons (fz (wC (.int 40))) wNil)))) (fz (wC (.int 20))))) wNext)
  (wSeq (wIfS (wOr (wT (wV 5)) (wOr (wT (wOp fEq (wPk 8) (fz (wC (.int 0))))) (wT (wOp fNe (fz (wOp fMod (fz (wOp fSub (wPk 2) (fz (wOp fMul (wPk 3) (wPk 3))))) (wPk 8))) (fz (wC (.int 0))))))) (wRet (wCall sp_Lrefused (wCons (fz (wV 3)) (wCons (fz (wV 8)) (wCons (fz (wV 2)) wNil))))) wNext)
  (wSeq (wSet 9 wDNew)
  (wSeq (wSet 10 (wLst wNil))
  (wSeq (wSet 11 (wTup (wCons (fz (wV 3)) (wCons (fz (wV 8)) wNil))))
  (wSeq (wFor (wR1 (fz (wC (.int 3000)))) (gN 12) (wSeq (wIfS (wDIn 9 (fz (wV 11))) wBrk wNext)
  (wSeq (wDSet 9 (fz (w1 fLen (wPk 10))) (fz (wV 11)))
  (wSeq (wSet 16 (wCall sp_Lpart (wCons (fz (wOp fIdx (wPk 11) (fz (wC (.int 0))))) (wCons (fz (wOp fIdx (wPk 11) (fz (wC (.int 1))))) (wCons (fz (wV 2)) wNil)))))
  (wSeq (wApp 10 (fz (wV 16)))
  (wSeq (wSet 17 (wOp fSub (fz (wOp fMul (wPk 16) (fz (wOp fIdx (wPk 11) (fz (wC (.int 1))))))) (fz (wOp fIdx (wPk 11) (fz (wC (.int 0)))))))
  (wSet 11 (wTup (wCons (fz (wV 17)) (wCons (fz (wOp fDiv (fz (wOp fSub (wPk 2) (fz (wOp fMul (wPk 17) (wPk 17))))) (fz (wOp fIdx (wPk 11) (fz (wC (.int 1))))))) wNil))))))))))
  (wSeq (wSet 13 (wDAt 9 (fz (wV 11))))
  (wSeq (wSet 14 (wCall sp_expand (wCons (fz (wV 3)) (wCons (fz (wV 8)) (wCons (fz (wV 2)) wNil)))))
  (wSeq (wIfS (wT (wOp fNe (wPk 14) (fz (wTup (wCons (fz (w1 fTuple (fz (wSl (wPk 10) wNo (wSo (wPk 13)))))) (wCons (fz (w1 fTuple (fz (wSl (wPk 10) (wSo (wPk 13)) wNo)))) wNil)))))) (wRet (wC (.bl false))) wNext)
  (wSeq (wSet 12 (wCall sp_Lnext (wCons (fz (wV 1)) (wCons (fz (wC (.int 60))) wNil))))
  (wSeq (wSet 15 (wOp fIdx (fz (wOp fAdd (wPk 10) (fz (wRepK 60 (wSl (wPk 10) (wSo (wPk 13)) wNo))))) (wPk 12)))
  (wRet (wOp fEq (fz (wCall sp_part_at (wCons (fz (wV 14)) (wCons (fz (wV 12)) wNil)))) (wPk 15)))))))))))))))))))))))
theorem hw_law_v5 : ∀ ds tk Q, sp_law ds tk Q → c_law_v5 { nx := fun _ t => Q (.val .non) t, rt := Q } (start N_law_v5.length ds) tk := by
  rintro ds tk Q ⟨xs, rfl, hl, rfl, q⟩
  refine ⟨xs, rfl, rfl, ?_⟩
  simp only [gCs, gN, gNl, start_def, List.map_cons, List.map_nil, List.set_cons_zero, List.set_cons_succ, List.replicate_succ, List.replicate_zero, List.cons_append, List.nil_append, List.length_cons, List.length_nil, Nat.reduceAdd, Nat.reduceSub]
  refine seq_cut (a := wSet _ _) (fun e t => ∃ (d c : Nat), t = some c ∧ (c ≤ 3 ∧ d ≤ 3100) ∧ e = [some (.val (.lst (xs.map D.int))), some (.val .st), some (.val (.int ((d:Int)))), none, none, none, none, none, none, none, none, none, none, none, none, none, none, none]) (fun R hR => ?_) ?_
  · refine ⟨rfl, ?_⟩
    refine ⟨_, _, rfl, rfl, by first | decide | omega, by first | decide | omega, fun v0 v0_0 v0_1 => ?_⟩
    dsimp only [fz, wC, wOp, w1, EV.d, fEq, fInt]
    refine idx_bb5 (fun h => ?_) (fun h => ?_)
    all_goals (
      dsimp only [fz, wC, wOp, w1, EV.d, wLst, wCons, wNil]
      refine ⟨rfl, ?_⟩
      refine ⟨_, _, rfl, rfl, by first | decide | omega, by first | decide | omega, fun v1 v1_0 v1_1 => ?_⟩
      rcases (by omega : v1 = 0 ∨ v1 = 1 ∨ v1 = 2) with rfl | rfl | rfl
      all_goals (
        refine ⟨_, _, rfl, rfl, by first | decide | omega, by first | decide | omega, fun v2 v2_0 v2_1 => ?_⟩
        first
        | exact hR _ _ ⟨(v2 + 2).toNat, _, rfl, ⟨by omega, by omega⟩, by rw [show (((v2 + 2).toNat : Nat) : Int) = 2 + v2 by omega]; rfl⟩
        | exact hR _ _ ⟨(v2 + 0).toNat, _, rfl, ⟨by omega, by omega⟩, by rw [show (((v2 + 0).toNat : Nat) : Int) = 0 + v2 by omega]; rfl⟩))

  rintro e t ⟨d, c0, rfl, ⟨hc0, hd⟩, rfl⟩
  refine seq_cut (a := wSet _ _) (fun e t => ∃ (p : Int) (c : Nat), t = some c ∧ (c ≤ 20 ∧ p.natAbs ≤ 500000) ∧ e = [some (.val (.lst (xs.map D.int))), some (.val .st), some (.val (.int ((d:Int)))), some (.val (.int (p))), none, none, none, none, none, none, none, none, none, none, none, none, none, none]) (fun R hR => ?_) ?_
  · refine ⟨_, _, rfl, rfl, by first | decide | omega, by first | decide | omega, fun v0 v0_0 v0_1 => ?_⟩
    refine ⟨⟨by decide, by decide, by decide⟩, ?_⟩
    refine ⟨_, _, rfl, rfl, by first | decide | omega, by first | decide | omega, fun v1 v1_0 v1_1 => ?_⟩
    have v1b : v1 < 1000000 := v1_1
    refine ⟨rfl, ?_⟩
    refine ⟨_, _, rfl, rfl, by first | decide | omega, by first | decide | omega, fun v2 v2_0 v2_1 => ?_⟩
    dsimp only [fz, wC, wOp, w1, EV.d, fEq, fInt]
    refine idx_bb5 (fun h => ?_) (fun h => ?_)
    · exact hR _ _ ⟨v1 - 500000, _, rfl, ⟨by omega, by omega⟩, rfl⟩
    · exact hR _ _ ⟨v0 - 30, _, rfl, ⟨by omega, by omega⟩, rfl⟩
  rintro e t ⟨p, c1, rfl, ⟨hc1, hp⟩, rfl⟩
  refine seq_cut (a := wSet _ _) (fun e t => t = some c1 ∧ ∃ r : Nat, (r * r ≤ d ∧ d < (r + 1) * (r + 1)) ∧ e = [some (.val (.lst (xs.map D.int))), some (.val .st), some (.val (.int ((d:Int)))), some (.val (.int (p))), some (.val (.int ((r:Int)))), none, none, none, none, none, none, none, none, none, none, none, none, none]) (fun R hR => ?_) ?_
  · refine cl_Lroot (n := d) (Nat.lt_of_le_of_lt hd (by decide +kernel)) fun r ra rb => ?_
    exact hR _ _ ⟨rfl, r, ⟨ra, rb⟩, rfl⟩
  rintro e t ⟨rfl, r, ⟨ra, rb⟩, rfl⟩
  have r55 : r ≤ 55 := by
    refine Nat.not_lt.mp fun z => ?_
    have := Nat.mul_le_mul z z
    omega
  have sd : Sm 20 (d : Int) := show (d : Int).natAbs < 2 ^ 20 by omega
  have sp : Sm 20 p := show p.natAbs < 2 ^ 20 by omega
  have spp := sp.mul sp
  refine seq_cut (a := wSet _ _) (fun e t => t = some c1 ∧ ∃ sqb : Bool, (sqb = true ↔ r * r = d) ∧ e = [some (.val (.lst (xs.map D.int))), some (.val .st), some (.val (.int ((d:Int)))), some (.val (.int (p))), some (.val (.int ((r:Int)))), some (.val (.bl sqb)), none, none, none, none, none, none, none, none, none, none, none, none]) (fun R hR => ?_) ?_
  · have sr : Sm 6 (r : Int) := show (r : Int).natAbs < 2 ^ 6 by omega
    refine ⟨q1 sr sr, hR _ _ ⟨rfl, _, ?_, rfl⟩⟩
    rw [decide_eq_true_iff]
    constructor
    · intro h
      have h : ((r * r : Nat) : Int) = d := by rw [Int.natCast_mul]; exact h
      omega
    · intro h
      rw [← h, Int.natCast_mul]
  rintro e t ⟨rfl, sqb, hsq, rfl⟩
  refine seq_cut (a := wSet _ _) (fun e t => t = some c1 ∧ e = [some (.val (.lst (xs.map D.int))), some (.val .st), some (.val (.int ((d:Int)))), some (.val (.int (p))), some (.val (.int ((r:Int)))), some (.val (.bl sqb)), some (.val (.int ((((d : Int) - p * p).natAbs : Int)))), none, none, none, none, none, none, none, none, none, none, none]) (fun R hR => ?_) ?_
  · refine ⟨q1 sp sp, ?_⟩
    have ea : (if (d : Int) - p * p < 0 then -((d : Int) - p * p) else (d : Int) - p * p) = (((d : Int) - p * p).natAbs : Int) := by split <;> omega
    have f := hR [some (.val (.lst (xs.map D.int))), some (.val .st), some (.val (.int ((d:Int)))), some (.val (.int (p))), some (.val (.int ((r:Int)))), some (.val (.bl sqb)), some (.val (.int ((((d : Int) - p * p).natAbs : Int)))), none, none, none, none, none, none, none, none, none, none, none] _ ⟨rfl, rfl⟩
    rw [← ea] at f
    exact f
  rintro e t ⟨rfl, rfl⟩
  have st : Sm 41 (((d : Int) - p * p).natAbs : Int) := by
    have k : Sm 41 ((d : Int) - p * p) := ((sd.mono (by decide)).sub (spp.mono (show 20 + 20 ≤ 40 by decide)))
    unfold Sm at k ⊢
    omega
  obtain ⟨top, htop⟩ : ∃ top, top = ((d : Int) - p * p).natAbs := ⟨_, rfl⟩
  rw [← htop] at st ⊢
  refine seq_cut (a := wSet _ _) (fun e t => t = some c1 ∧ ∃ (ms : List Int), (ms.length ≤ 200 ∧ ∀ x ∈ ms, 1 ≤ x ∧ x ≤ 200) ∧ e = [some (.val (.lst (xs.map D.int))), some (.val .st), some (.val (.int ((d:Int)))), some (.val (.int (p))), some (.val (.int ((r:Int)))), some (.val (.bl sqb)), some (.val (.int ((top : Int)))), some (.own ((ms.map D.int))), none, none, none, none, none, none, none, none, none, none]) (fun R hR => ?_) ?_
  · refine ⟨rfl, ?_⟩
    dsimp only [EV.d]
    refine min2_5 fun z hz h1 h2 => ?_
    have z0 : 0 ≤ z := by rcases hz with rfl | rfl <;> omega
    refine ⟨⟨by decide, by decide, by omega, by omega⟩, rfl, ?_⟩
    obtain ⟨zn, rfl⟩ : ∃ zn : Nat, z = (zn : Int) := ⟨z.toNat, by omega⟩
    have rz : rngD 1 (((zn : Int) + 1) - 1).toNat = (List.range zn).map (fun i : Nat => D.int (1 + (i : Int))) := by
      rw [show ((zn : Int) + 1) - 1 = zn by omega, Int.toNat_natCast]; rfl
    rw [rz]
    refine lcFil2 (g := gN 8) (fun i : Nat => D.int (1 + (i : Int))) (fun i => decide ((top : Int).fmod (1 + (i : Int)) = 0)) (fun i : Nat => D.int (1 + (i : Int))) (List.range zn) [] (fun i hi C B cT cF => ?_) (by rw [List.length_range, List.length_nil]; exact szl (by omega)) ?_
    · refine ⟨show (1 : Int) + (i : Int) ≠ 0 by omega, rfl, ?_⟩
      by_cases y : (top : Int).fmod (1 + (i : Int)) = 0
      · exact ifT y ⟨rfl, cT (decide_eq_true y)⟩
      · exact ifF y (cF (decide_eq_false y))
    · refine hR _ _ ⟨rfl, ((List.range zn).filter (fun i : Nat => decide ((top : Int).fmod (1 + (i : Int)) = 0))).map (fun i : Nat => 1 + (i : Int)), ⟨?_, ?_⟩, ?_⟩
      · rw [List.length_map]
        have := List.length_filter_le (fun i : Nat => decide ((top : Int).fmod (1 + (i : Int)) = 0)) (List.range zn)
        rw [List.length_range] at this
        omega
      · intro x hx
        obtain ⟨i, hi, rfl⟩ := List.mem_map.mp hx
        have := List.mem_range.mp (List.mem_filter.mp hi).1
        omega
      · rw [List.nil_append, List.map_map]
        rfl
  rintro e t ⟨rfl, ms, ⟨ml, hms⟩, rfl⟩

  refine seq_cut (a := wSet _ _) (fun e t => ∃ (y : Int) (c : Nat), t = some c ∧ (c ≤ 30 ∧ y.natAbs = 1) ∧ e = [some (.val (.lst (xs.map D.int))), some (.val .st), some (.val (.int ((d:Int)))), some (.val (.int (p))), some (.val (.int ((r:Int)))), some (.val (.bl sqb)), some (.val (.int ((top : Int)))), some (.own ((ms.map D.int))), some (.val (.int (y))), none, none, none, none, none, none, none, none, none]) (fun R hR => ?_) ?_
  · refine ⟨rfl, ?_⟩
    refine ⟨_, _, rfl, rfl, by first | decide | omega, by first | decide | omega, fun v0 v0_0 v0_1 => ?_⟩
    rcases (by omega : v0 = 0 ∨ v0 = 1) with rfl | rfl
    · exact hR _ _ ⟨-1, _, rfl, ⟨by omega, rfl⟩, rfl⟩
    · exact hR _ _ ⟨1, _, rfl, ⟨by omega, rfl⟩, rfl⟩
  rintro e t ⟨y, c2, rfl, ⟨hc2, hy⟩, rfl⟩
  refine seq_cut (a := wIfS _ _ _) (fun e t => ∃ (y : Int) (c : Nat), t = some c ∧ (c ≤ 40 ∧ y.natAbs ≤ 200) ∧ e = [some (.val (.lst (xs.map D.int))), some (.val .st), some (.val (.int ((d:Int)))), some (.val (.int (p))), some (.val (.int ((r:Int)))), some (.val (.bl sqb)), some (.val (.int ((top : Int)))), some (.own ((ms.map D.int))), some (.val (.int (y))), none, none, none, none, none, none, none, none, none]) (fun R hR => ?_) ?_
  · refine ⟨rfl, okL_i ms, (show D.ok (.lst []) = true by decide +kernel), ?_⟩
    by_cases h0 : ms = []
    · subst h0
      refine ifNB (show D.eqv (.lst []) (.lst []) = true by decide +kernel) ?_
      exact hR _ _ ⟨y, _, rfl, ⟨by omega, by omega⟩, rfl⟩
    · refine ifNF5 ((eqvL_i ms []).trans (decide_eq_false h0)) ?_
      have m0 := List.length_pos_iff.mpr h0
      refine ⟨_, _, rfl, rfl, (show 0 < (((ms.map D.int).length : Nat) : Int) by rw [List.length_map]; omega), by omega, fun v1 v1_0 v1_1 => ?_⟩
      refine fIdx_of (ds := ms.map D.int) (fun dd => ∃ z : Int, dd = .int z ∧ 1 ≤ z ∧ z ≤ 200) v1_0 v1_1 (fun dd hdd => ?_) ?_
      · obtain ⟨z, hz, rfl⟩ := List.mem_map.mp hdd
        exact ⟨z, rfl, hms z hz⟩
      rintro _ ⟨z, rfl, z1, z2⟩
      have sy1 : Sm 1 y := show y.natAbs < 2 ^ 1 by omega
      have sz1 : Sm 8 z := show z.natAbs < 2 ^ 8 by omega
      refine ⟨q1 sy1 sz1, ?_⟩
      exact hR _ _ ⟨y * z, _, rfl, ⟨by omega, by rw [Int.natAbs_mul, hy, Nat.one_mul]; omega⟩, rfl⟩
  rintro e t ⟨y1, c3, rfl, ⟨hc3, hy1⟩, rfl⟩
  clear hy y
  refine seq_cut (a := wIfS _ _ _) (fun e t => ∃ (y : Int) (c : Nat), t = some c ∧ (c ≤ 50 ∧ y.natAbs ≤ 200) ∧ e = [some (.val (.lst (xs.map D.int))), some (.val .st), some (.val (.int ((d:Int)))), some (.val (.int (p))), some (.val (.int ((r:Int)))), some (.val (.bl sqb)), some (.val (.int ((top : Int)))), some (.own ((ms.map D.int))), some (.val (.int (y))), none, none, none, none, none, none, none, none, none]) (fun R hR => ?_) ?_
  · refine ⟨_, _, rfl, rfl, by first | decide | omega, by first | decide | omega, fun v0 v0_0 v0_1 => ?_⟩
    refine if2 (fun _ => ?_) (fun _ => hR _ _ ⟨y1, _, rfl, ⟨by omega, hy1⟩, rfl⟩)
    refine ⟨_, _, rfl, rfl, by first | decide | omega, by first | decide | omega, fun v1 v1_0 v1_1 => ?_⟩
    exact hR _ _ ⟨v1 - 20, _, rfl, ⟨by omega, by omega⟩, rfl⟩
  clear hy1 y1
  rintro e t ⟨y, c4, rfl, ⟨hc4, hy⟩, rfl⟩
  obtain ⟨t4, ht4⟩ : ∃ t4 : Tk, t4 = some c4 := ⟨_, rfl⟩
  rw [← ht4]
  have sy : Sm 9 y := show y.natAbs < 2 ^ 9 by omega
  refine seq_cut (a := wIfS _ _ _) (fun e t => t = t4 ∧ (r * r ≠ d ∧ y ≠ 0 ∧ y ∣ (d : Int) - p * p) ∧ e = [some (.val (.lst (xs.map D.int))), some (.val .st), some (.val (.int ((d:Int)))), some (.val (.int (p))), some (.val (.int ((r:Int)))), some (.val (.bl sqb)), some (.val (.int ((top : Int)))), some (.own ((ms.map D.int))), some (.val (.int (y))), none, none, none, none, none, none, none, none, none]) (fun R hR => ?_) ?_
  · have bad : IsSq d ∨ y = 0 ∨ ¬ y ∣ (d : Int) - p * p → sp_Lrefused [.int p, .int y, .int (d : Int)] t4 (fun ev t => Q ev t) := fun h => by
      refine cl_Lrefused (p := p) (y := y) (d := d) (sp.mono (by decide)) (sy.mono (by decide)) (by omega) h ?_
      exact q _
    by_cases s1 : sqb = true
    · refine ifB s1 ?_
      refine ifB rfl ?_
      exact bad (.inl ⟨(r : Int), by rw [← hsq.mp s1, Int.natCast_mul]⟩)
    · refine ifBF (by cases sqb <;> simp_all) ?_
      refine if2 (fun h => ?_) (fun h => ?_)
      · exact bad (.inr (.inl h))
      · refine ⟨q1 sp sp, h, ?_⟩
        refine ifN2 (fun z => ?_) (fun z => ?_)
        · exact bad (.inr (.inr fun z2 => z (Int.fmod_eq_zero_of_dvd z2)))
        · exact hR _ _ ⟨rfl, ⟨fun z2 => s1 (hsq.mpr z2), h, Int.dvd_of_fmod_eq_zero z⟩, rfl⟩
  rintro e t ⟨rfl, ⟨nsq, y0, dv⟩, rfl⟩
  obtain ⟨s, hs⟩ : ∃ s : P2, s = ⟨p, y⟩ := ⟨_, rfl⟩
  have hr : RootOf (d : Int) (r : Int) := by
    refine ⟨?_, ?_, ?_⟩
    · rcases Nat.eq_zero_or_pos r with z | z
      · exfalso; rw [z] at nsq rb; omega
      · omega
    · have : ((r * r : Nat) : Int) = (r : Int) * r := Int.natCast_mul _ _
      omega
    · have : (((r + 1) * (r + 1) : Nat) : Int) = ((r : Int) + 1) * ((r : Int) + 1) := by rw [Int.natCast_mul]; rfl
      omega
  have stc : StC (d : Int) s := by rw [hs]; exact ⟨y0, dv⟩
  have ssm : s.Sm 40 := by rw [hs]; exact ⟨sp.mono (by decide), sy.mono (by decide)⟩
  obtain ⟨m, l, E⟩ := exp_ex hr (by omega) stc
  have m3 : m ≤ 203 := by have := E.m1; rw [hs] at this; dsimp only at this; omega
  have l1 := E.l1
  have l0 := E.l0
  have sml : ∀ n, n ≤ 6000 → (cgR d r s n).Sm 41 := fun n hn => cgR_sm hr (by omega) stc ssm hn
  have ne0 : ∀ n, (cgR d r s n).y ≠ 0 := fun n => (cgR_st hr stc n).y0
  refine seq_cut (a := wSet _ _) (fun e t' => t' = t ∧ ∃ pd : Addr, e = [some (.val (.lst (xs.map D.int))), some (.val .st), some (.val (.int ((d:Int)))), some (.val (.int (p))), some (.val (.int ((r:Int)))), some (.val (.bl sqb)), some (.val (.int ((top : Int)))), some (.own ((ms.map D.int))), some (.val (.int (y))), (some (.dct pd (dkv d r s 0))), none, none, none, none, none, none, none, none]) (fun R hR => fun pd => hR _ _ ⟨rfl, pd, rfl⟩) ?_
  rintro e t' ⟨rfl, pd, rfl⟩
  refine seq_cut (a := wSet _ _) (fun e t => t = t' ∧ e = [some (.val (.lst (xs.map D.int))), some (.val .st), some (.val (.int ((d:Int)))), some (.val (.int (p))), some (.val (.int ((r:Int)))), some (.val (.bl sqb)), some (.val (.int ((top : Int)))), some (.own ((ms.map D.int))), some (.val (.int (y))), (some (.dct pd (dkv d r s 0))), some (.own ((prtsL d r s 0 0))), none, none, none, none, none, none, none]) (fun R hR => ⟨rfl, hR _ _ ⟨rfl, rfl⟩⟩) ?_
  rintro e t ⟨rfl, rfl⟩
  refine seq_cut (a := wSet _ _) (fun e t' => t' = t ∧ e = [some (.val (.lst (xs.map D.int))), some (.val .st), some (.val (.int ((d:Int)))), some (.val (.int (p))), some (.val (.int ((r:Int)))), some (.val (.bl sqb)), some (.val (.int ((top : Int)))), some (.own ((ms.map D.int))), some (.val (.int (y))), (some (.dct pd (dkv d r s 0))), some (.own ((prtsL d r s 0 0))), some (.val ((cgR d r s 0).D)), none, none, none, none, none, none]) (fun R hR => ⟨rfl, hR _ _ ⟨rfl, by rw [hs]; rfl⟩⟩) ?_
  rintro e t' ⟨rfl, rfl⟩
  refine seq_cut (a := wFor _ _ _) (fun e t => t = t' ∧ ∃ x12 x16 x17 : Option EV, e = [some (.val (.lst (xs.map D.int))), some (.val .st), some (.val (.int ((d:Int)))), some (.val (.int (p))), some (.val (.int ((r:Int)))), some (.val (.bl sqb)), some (.val (.int ((top : Int)))), some (.own ((ms.map D.int))), some (.val (.int (y))), (some (.dct pd (dkv d r s (m + l)))), some (.own ((prtsL d r s 0 (m + l)))), some (.val ((cgR d r s (m + l)).D)), x12, none, none, none, x16, x17]) (fun R0 hR0 => ?_) ?_
  · refine ⟨by decide, by decide, ?_⟩
    refine forGo_rng (lo := 0) (n := 3000) (fun i e t => t = t' ∧ ∃ x12 x16 x17 : Option EV, i ≤ m + l ∧ e = [some (.val (.lst (xs.map D.int))), some (.val .st), some (.val (.int ((d:Int)))), some (.val (.int (p))), some (.val (.int ((r:Int)))), some (.val (.bl sqb)), some (.val (.int ((top : Int)))), some (.own ((ms.map D.int))), some (.val (.int (y))), (some (.dct pd (dkv d r s (i)))), some (.own ((prtsL d r s 0 (i)))), some (.val ((cgR d r s (i)).D)), x12, none, none, none, x16, x17]) (fun i e t R hi hI hR => ?_) (fun e t hI => ?_) ⟨rfl, none, none, none, Nat.zero_le _, rfl⟩
    rotate_left
    · obtain ⟨_, _, _, _, h, _⟩ := hI
      have h : 3000 ≤ m + l := h
      omega
    obtain ⟨rfl, x12, x16, x17, il, rfl⟩ := hI
    have si := sml i (by omega)
    refine seq_cut (a := wIfS _ _ _) (fun e t2 => t2 = t ∧ i < m + l ∧ e = [some (.val (.lst (xs.map D.int))), some (.val .st), some (.val (.int ((d:Int)))), some (.val (.int (p))), some (.val (.int ((r:Int)))), some (.val (.bl sqb)), some (.val (.int ((top : Int)))), some (.own ((ms.map D.int))), some (.val (.int (y))), (some (.dct pd (dkv d r s (i)))), some (.own ((prtsL d r s 0 (i)))), some (.val ((cgR d r s (i)).D)), some (.val (.int ((0 + (i : Int))))), none, none, none, x16, x17]) (fun R2 hR2 => ?_) ?_
    · refine ⟨[(cgR d r s i).x, (cgR d r s i).y], rfl, ?_⟩
      by_cases c : i = m + l
      · rw [c]
        refine ifB (dkv_key.mpr ⟨m, by omega, E.back.symm⟩) ?_
        exact hR0 _ _ ⟨rfl, _, _, _, rfl⟩
      · refine ifBF ?_ (hR2 _ _ ⟨rfl, by omega, rfl⟩)
        refine Bool.eq_false_iff.mpr fun z => ?_
        obtain ⟨j, hj, e⟩ := dkv_key.mp z
        exact exp_inj hr E hj (by omega) e
    rintro e t2 ⟨rfl, ilt, rfl⟩
    have put := dkv_put (fun j hj => exp_inj hr E hj ilt)
    refine seq_cut (a := wDSet _ _ _) (fun e t => t = t2 ∧ e = [some (.val (.lst (xs.map D.int))), some (.val .st), some (.val (.int ((d:Int)))), some (.val (.int (p))), some (.val (.int ((r:Int)))), some (.val (.bl sqb)), some (.val (.int ((top : Int)))), some (.own ((ms.map D.int))), some (.val (.int (y))), (some (.dct pd (dkv d r s (i + 1)))), some (.own ((prtsL d r s 0 (i)))), some (.val ((cgR d r s (i)).D)), some (.val (.int ((0 + (i : Int))))), none, none, none, x16, x17]) (fun R2 hR2 => ?_) ?_
    · refine ⟨[(cgR d r s i).x, (cgR d r s i).y], rfl, by rw [dkv_len]; exact szl (by omega), ?_⟩
      have f := hR2 _ _ ⟨rfl, rfl⟩
      rw [← put] at f
      rw [prtsL_len]
      exact f
    rintro e t3 ⟨rfl, rfl⟩
    refine seq_cut (a := wSet _ _) (fun e t => t = t3 ∧ e = [some (.val (.lst (xs.map D.int))), some (.val .st), some (.val (.int ((d:Int)))), some (.val (.int (p))), some (.val (.int ((r:Int)))), some (.val (.bl sqb)), some (.val (.int ((top : Int)))), some (.own ((ms.map D.int))), some (.val (.int (y))), (some (.dct pd (dkv d r s (i + 1)))), some (.own ((prtsL d r s 0 (i)))), some (.val ((cgR d r s (i)).D)), some (.val (.int ((0 + (i : Int))))), none, none, none, some (.val (.int ((cgA r (cgR d r s i))))), x17]) (fun R2 hR2 => ?_) ?_
    · refine cl_Lpart (s := cgR d r s i) (d := d) (w := (r : Int)) hr (ne0 i) ?_ (si.2.mono (by decide)) (by omega) (hR2 _ _ ⟨rfl, rfl⟩)
      have := si.1
      unfold Sm at this
      exact Nat.le_of_lt (Nat.lt_of_lt_of_le this (by decide +kernel))
    rintro e t4 ⟨rfl, rfl⟩
    have sA : Sm 43 (cgA (r : Int) (cgR d r s i)) := cgA_sm si (show Sm 41 (r : Int) from Nat.lt_of_le_of_lt (show (r : Int).natAbs ≤ 55 by omega) (by decide)) (by decide)
    have sP : Sm 85 (cgP (r : Int) (cgR d r s i)) := ((sA.mul si.2).sub (si.1.mono (by decide))).mono (by decide)
    refine seq_cut (a := wApp _ _) (fun e t => t = t4 ∧ e = [some (.val (.lst (xs.map D.int))), some (.val .st), some (.val (.int ((d:Int)))), some (.val (.int (p))), some (.val (.int ((r:Int)))), some (.val (.bl sqb)), some (.val (.int ((top : Int)))), some (.own ((ms.map D.int))), some (.val (.int (y))), (some (.dct pd (dkv d r s (i + 1)))), some (.own ((prtsL d r s 0 (i + 1)))), some (.val ((cgR d r s (i)).D)), some (.val (.int ((0 + (i : Int))))), none, none, none, some (.val (.int ((cgA r (cgR d r s i))))), x17]) (fun R2 hR2 => ?_) ?_
    · exact ⟨by rw [prtsL_len]; exact szl (by omega), hR2 _ _ ⟨rfl, by rw [prtsL_succ, Nat.zero_add]; rfl⟩⟩
    rintro e t5 ⟨rfl, rfl⟩
    refine seq_cut (a := wSet _ _) (fun e t => t = t5 ∧ e = [some (.val (.lst (xs.map D.int))), some (.val .st), some (.val (.int ((d:Int)))), some (.val (.int (p))), some (.val (.int ((r:Int)))), some (.val (.bl sqb)), some (.val (.int ((top : Int)))), some (.own ((ms.map D.int))), some (.val (.int (y))), (some (.dct pd (dkv d r s (i + 1)))), some (.own ((prtsL d r s 0 (i + 1)))), some (.val ((cgR d r s (i)).D)), some (.val (.int ((0 + (i : Int))))), none, none, none, some (.val (.int ((cgA r (cgR d r s i))))), some (.val (.int ((cgP r (cgR d r s i)))))]) (fun R2 hR2 => ?_) ?_
    · exact ⟨q1 sA si.2, hR2 _ _ ⟨rfl, rfl⟩⟩
    rintro e t6 ⟨rfl, rfl⟩
    refine ⟨q1 sP sP, DivOk.of (k := 41) (ne0 i) si.2 (by decide), rfl, ?_⟩
    exact hR _ _ ⟨rfl, _, _, _, by omega, rfl⟩
  rintro e t ⟨rfl, x12, x16, x17, rfl⟩
  refine seq_cut (a := wSet _ _) (fun e t' => t' = t ∧ e = [some (.val (.lst (xs.map D.int))), some (.val .st), some (.val (.int ((d:Int)))), some (.val (.int (p))), some (.val (.int ((r:Int)))), some (.val (.bl sqb)), some (.val (.int ((top : Int)))), some (.own ((ms.map D.int))), some (.val (.int (y))), (some (.dct pd (dkv d r s (m + l)))), some (.own ((prtsL d r s 0 (m + l)))), some (.val ((cgR d r s (m + l)).D)), x12, some (.val (.int ((m : Int)))), none, none, x16, x17]) (fun R hR => ?_) ?_
  · exact ⟨[(cgR d r s (m + l)).x, (cgR d r s (m + l)).y], .int (m : Int), rfl, dkv_get hr E, hR _ _ ⟨rfl, rfl⟩⟩
  rintro e t' ⟨rfl, rfl⟩
  refine seq_cut (a := wSet _ _) (fun e t => t = t' ∧ e = [some (.val (.lst (xs.map D.int))), some (.val .st), some (.val (.int ((d:Int)))), some (.val (.int (p))), some (.val (.int ((r:Int)))), some (.val (.bl sqb)), some (.val (.int ((top : Int)))), some (.own ((ms.map D.int))), some (.val (.int (y))), (some (.dct pd (dkv d r s (m + l)))), some (.own ((prtsL d r s 0 (m + l)))), some (.val ((cgR d r s (m + l)).D)), x12, some (.val (.int ((m : Int)))), some (.val (.tup [.tup (prtsL d r s 0 m), .tup (prtsL d r s m l)])), none, x16, x17]) (fun R hR => ?_) ?_
  · have f := hR [some (.val (.lst (xs.map D.int))), some (.val .st), some (.val (.int ((d:Int)))), some (.val (.int (p))), some (.val (.int ((r:Int)))), some (.val (.bl sqb)), some (.val (.int ((top : Int)))), some (.own ((ms.map D.int))), some (.val (.int (y))), (some (.dct pd (dkv d r s (m + l)))), some (.own ((prtsL d r s 0 (m + l)))), some (.val ((cgR d r s (m + l)).D)), x12, some (.val (.int ((m : Int)))), some (.val (.tup [.tup (prtsL d r s 0 m), .tup (prtsL d r s m l)])), none, x16, x17] _ ⟨rfl, rfl⟩
    have k := cl_expand (d := d) (w := (r : Int)) (s := s) (m := m) (l := l) (tk := t') (Q := fun ev t => R (List.set [some (.val (.lst (xs.map D.int))), some (.val .st), some (.val (.int ((d:Int)))), some (.val (.int (p))), some (.val (.int ((r:Int)))), some (.val (.bl sqb)), some (.val (.int ((top : Int)))), some (.own ((ms.map D.int))), some (.val (.int (y))), (some (.dct pd (dkv d r s (m + l)))), some (.own ((prtsL d r s 0 (m + l)))), some (.val ((cgR d r s (m + l)).D)), x12, some (.val (.int ((m : Int)))), none, none, x16, x17] 14 (some ev)) t) hr (by omega) stc ssm E (by omega) f
    rw [show s.x = p from by rw [hs], show s.y = y from by rw [hs]] at k
    exact k
  rintro e t ⟨rfl, rfl⟩
  have ok2 := okT5 (prtsL d r s 0 m) (prtsL d r s m l) (prtsL_ok _ _ _ _ _ _) (prtsL_ok _ _ _ _ _ _)
  refine seq_cut (a := wIfS _ _ _) (fun e t' => t' = t ∧ e = [some (.val (.lst (xs.map D.int))), some (.val .st), some (.val (.int ((d:Int)))), some (.val (.int (p))), some (.val (.int ((r:Int)))), some (.val (.bl sqb)), some (.val (.int ((top : Int)))), some (.own ((ms.map D.int))), some (.val (.int (y))), (some (.dct pd (dkv d r s (m + l)))), some (.own ((prtsL d r s 0 (m + l)))), some (.val ((cgR d r s (m + l)).D)), x12, some (.val (.int ((m : Int)))), some (.val (.tup [.tup (prtsL d r s 0 m), .tup (prtsL d r s m l)])), none, x16, x17]) (fun R hR => ?_) ?_
  · refine ne_told5 (ds := prtsL d r s 0 (m + l)) (n := (m : Int)) rfl rfl rfl (cut_t5 _ _ _ _ _) (cut_d5 _ _ _ _ _) ok2 ?_
    refine ifBF rfl ?_
    exact hR _ _ ⟨rfl, rfl⟩
  rintro e t' ⟨rfl, rfl⟩
  obtain ⟨t9, ht9⟩ : ∃ t9, t9 = t' := ⟨_, rfl⟩
  refine seq_cut (a := wSet _ _) (fun e t => ∃ k : Nat, k < 60 ∧ e = [some (.val (.lst (xs.map D.int))), some (.val .st), some (.val (.int ((d:Int)))), some (.val (.int (p))), some (.val (.int ((r:Int)))), some (.val (.bl sqb)), some (.val (.int ((top : Int)))), some (.own ((ms.map D.int))), some (.val (.int (y))), (some (.dct pd (dkv d r s (m + l)))), some (.own ((prtsL d r s 0 (m + l)))), some (.val ((cgR d r s (m + l)).D)), some (.val (.int ((k : Int)))), some (.val (.int ((m : Int)))), some (.val (.tup [.tup (prtsL d r s 0 m), .tup (prtsL d r s m l)])), none, x16, x17]) (fun R hR => ?_) ?_
  · rw [ht4]
    refine ⟨_, _, rfl, rfl, by first | decide | omega, by first | decide | omega, fun v0 v0_0 v0_1 => ?_⟩
    obtain ⟨k, rfl⟩ : ∃ k : Nat, v0 = (k : Int) := ⟨v0.toNat, by omega⟩
    exact hR _ _ ⟨k, by omega, rfl⟩
  rintro e t ⟨k, hk, rfl⟩
  refine seq_cut (a := wSet _ _) (fun e t' => t' = t ∧ e = [some (.val (.lst (xs.map D.int))), some (.val .st), some (.val (.int ((d:Int)))), some (.val (.int (p))), some (.val (.int ((r:Int)))), some (.val (.bl sqb)), some (.val (.int ((top : Int)))), some (.own ((ms.map D.int))), some (.val (.int (y))), (some (.dct pd (dkv d r s (m + l)))), some (.own ((prtsL d r s 0 (m + l)))), some (.val ((cgR d r s (m + l)).D)), some (.val (.int ((k : Int)))), some (.val (.int ((m : Int)))), some (.val (.tup [.tup (prtsL d r s 0 m), .tup (prtsL d r s m l)])), some (.val (.int ((cgA r (cgR d r s (vAt m l k)))))), x16, x17]) (fun R hR => ?_) ?_
  · refine due_set5 (ds := prtsL d r s 0 (m + l)) (bs := prtsL d r s m l) (n := m) (k := k) rfl rfl rfl (cut_d5 _ _ _ _ _) (by rw [prtsL_len]; omega) (by rw [prtsL_len]; omega) (due_at l0 hk) ?_
    exact hR _ _ ⟨rfl, rfl⟩
  rintro e t' ⟨rfl, rfl⟩
  refine cl_part_at (as := prtsL d r s 0 m) (bs := prtsL d r s m l) (k := k) (x := .int (cgA r (cgR d r s (vAt m l k)))) (by rw [prtsL_len]; omega) (by rw [prtsL_len]; omega) (by rw [prtsL_len]; exact l0) (part_is l0) (by omega) ?_
  have f := q t'
  rw [show true = decide ((cgA r (cgR d r s (vAt m l k))) = (cgA r (cgR d r s (vAt m l k)))) from (decide_eq_true rfl).symm] at f
  exact f
end DL
namespace DL
open PySem PySem.Spec PyProof.Rows L2
/-! ### a def that raises an error of its own, and one that catches it -/
theorem pss_out {X : Cx} {l : List Stmt} : PSs X l (fun _ _ _ => False) := ⟨fun _ _ _ _ _ _ h => h.elim⟩
/-- the place of the data as a def starts -/
theorem ok_start {K : PySem.W.Frag} {ω : Wd} {H : Hp} {ds : List D} {vs : List V} {tk : Tk} {N : List Str} (hN : ds.length ≤ N.length) (sub : ∀ b o, ω.hd b = some o → H b = some o) (st : StOk K ω H tk) (r : Reps K ω ds vs) :
    Ok ⟨K, ω, H, fun _ => False⟩ ω H (L2.start N vs) (start N.length ds) tk := by
  have hl : vs.length = ds.length := r.length
  exact {
    len := by unfold L2.start start; simp only [List.length_append, List.length_map, List.length_replicate]; omega
    sub := sub
    st := st
    slots := fun i e he => by
      unfold L2.start
      unfold start at he
      rw [hl]
      exact slots_start r he
    dist := fun i j p ds' es a b _ _ => by
      obtain ⟨v, h1, h2⟩ := slots_start (c := ⟨K, ω, H, fun _ => False⟩) (H := H) r (show (ds.map (fun d => some (EV.val d)) ++ List.replicate (N.length - ds.length) none)[i]? = some (some (.own ds')) from a)
      obtain ⟨q, rfl, vs', a1, a2, a3, a4, _⟩ := h2
      have a5 : H q = none := a4.1
      rw [a1] at a5
      cases a5
    one := fun i j p ds' es a b => by
      obtain ⟨v, h1, h2⟩ := slots_start (c := ⟨K, ω, H, fun _ => False⟩) (H := H) r (show (ds.map (fun d => some (EV.val d)) ++ List.replicate (N.length - ds.length) none)[i]? = some (some (.dct p ds')) from a)
      obtain ⟨rfl, vs', a1, a2, a3, a4, _⟩ := h2
      have a5 : H p = none := a4.1
      rw [a1] at a5
      cases a5
    new := fun b h => .inl h
    ng := fun a h => .inl h
    fr := fun b o h _ => h
    le0 := .refl _
    pr := fun b h => h.elim }
/-- self.what = what, self an error that is being made -/
def spInit (K : PySem.W.Frag) : Sp := fun vs H Q _ => ∃ (a C : Addr) (v : V), vs = [.ref a, v] ∧ OexC K C ∧ PySem.W.findIn K (.ref C) "what" = some none ∧ H a = some (exo a C none) ∧
  ∀ dx, H dx = none → dx ≠ a → Q .non (upd (upd H dx (exd dx [(("what" : Str), v)])) a (exo a C (some dx)))
/-- an error of the class at C with what = v goes out, all else stays -/
def outX (C : Addr) (v : V) (H : Hp) (E : XK) : Prop := ∀ (H' : Hp) (dd : Addr), (∀ b o, H b = some o → H' b = some o) → H' dd = none → E (.ref C) (some dd) (upd H' dd (.xd [(("what" : Str), v)]))
/-- the making of the error -/
theorem mk_read {K : PySem.W.Frag} {C fI a : Addr} {v : V} {H : Hp} {E : XK} (B : BfC K C fI) (ha : H a = none) (e : ∀ dd, H dd = none → E (.ref C) (some dd) (upd H dd (.xd [(("what" : Str), v)]))) :
    spInit K [.ref a, v] (upd H a (exo a C none)) (fun u H2 => u = .non ∧ ∃ (d : Addr) (fs : List (Str × V)), H2 a = some (exo a C (some d)) ∧ H2 d = some (exd d fs) ∧ H d = none ∧ E (.ref C) (some d) (upd (del H2 a) d (.xd fs))) (fun _ _ _ => False) := by
  refine ⟨a, C, v, rfl, B.o, B.nw, upd_same, fun dx hdx dne => ⟨rfl, dx, [(("what" : Str), v)], upd_same, by rw [upd_ne dne, upd_same], ?_, ?_⟩⟩
  · rw [upd_ne dne] at hdx; exact hdx
  · have hd : H dx = none := by rw [upd_ne dne] at hdx; exact hdx
    have eq : upd (del (upd (upd (upd H a (exo a C none)) dx (exd dx [(("what" : Str), v)])) a (exo a C (some dx))) a) dx (.xd [(("what" : Str), v)]) = upd H dx (.xd [(("what" : Str), v)]) := by
      funext b
      by_cases b1 : b = dx
      · rw [b1, upd_same, upd_same]
      · rw [upd_ne b1, upd_ne b1]
        by_cases b2 : b = a
        · rw [b2, del_same, ha]
        · rw [del_ne b2, upd_ne b2, upd_ne b1, upd_ne b2]
    rw [eq]
    exact e dx hd
/-- the facts of the three classes -/
structure BfAll (K : PySem.W.Frag) (C B T fI : Addr) : Prop where
  b : BfC K C fI
  k1 : PySem.W.kitOne K (.ref C) (.ref C) = some true
  k2 : PySem.W.kitOne K (.ref C) (.ref T) = some false
  te : PySem.W.exmOne K (.ref C) (.ref B) = some true
def bfCls (K : PySem.W.Frag) (C : Addr) : Bool := match K.lookup C with
  | some ⟨.type c, _, .cls cd, sl⟩ => (match cd.mro, sl.toList with
    | .ref C' :: bm, [_, _, _, _, some (.builtin n), _] => decide (c = "type") && (decide (C' = C) && (decide (n = "ValueError.__new__") && (!cd.hasDel && (cd.hasDict && PySem.HandSPX.refsVE bm))))
    | _, _ => false)
  | _ => false
theorem bfCls_ok {K : PySem.W.Frag} {C : Addr} (h : bfCls K C = true) : ∃ nm q N bs bm sn sub ab col dd k0 k1 k2 k3 k5, K.lookup C = some (excClassObj nm q C N bs bm true sn sub ab col dd k0 k1 k2 k3 k5 "ValueError.__new__") ∧ PySem.HandSPX.refsVE bm = true := by
  unfold bfCls at h
  split at h
  · rename_i c dd cd sl ho
    split at h
    · rename_i C' bm k0 k1 k2 k3 n k5 hm hs
      simp only [Bool.and_eq_true, decide_eq_true_eq, Bool.not_eq_true'] at h
      obtain ⟨rfl, rfl, rfl, hdel, hd, hr⟩ := h
      obtain ⟨nm, bs, mro, ns, qn, hdd, sn, sb, ab, col, del⟩ := cd
      dsimp only at hm hdel hd
      subst hm hdel hd
      obtain ⟨l⟩ := sl
      simp only at hs
      subst hs
      exact ⟨nm, qn, ns, bs, bm, sn, sb, ab, col, dd, k0, k1, k2, k3, k5, ho, hr⟩
    · cases h
  · cases h
def bfB (K : PySem.W.Frag) (C B T fI : Addr) : List Bool := [bfCls K C,
  decide (PySem.W.findIn K (.ref C) "__setattr__" = some (some (.builtin "object.__setattr__"))),
  decide (PySem.W.subIn K (.ref C) (.type "BaseException") = some true),
  decide (PySem.W.typeIn K (.ref C) = some (.type "type")),
  PySem.W.keepIn K (.ref C),
  decide (PySem.W.findIn K (.ref C) "__getattribute__" = some (some (.builtin "BaseException.__getattribute__"))),
  decide (PySem.W.findIn K (.ref C) "__getattr__" = some none),
  PySem.W.hasDictIn K C,
  decide (PySem.W.findIn K (.ref C) "__class__" = some (some (.builtin "object.__class__"))),
  decide (PySem.W.specialIn K (.builtin "object.__class__") "__get__" = some (some (.builtin "getset_descriptor.__get__"))),
  decide (PySem.W.takesIn K (.builtin "object.__class__") = some true),
  decide (PySem.W.mroIn K C (.type "object") = some true),
  decide (PySem.W.findIn K (.ref C) "what" = some none),
  decide (PySem.W.findIn K (.ref C) "__init__" = some (some (.ref fI))),
  decide (PySem.W.typeIn K (.ref fI) = some (.type "function")),
  decide (PySem.W.kitOne K (.ref C) (.ref C) = some true),
  decide (PySem.W.kitOne K (.ref C) (.ref T) = some false),
  decide (PySem.W.exmOne K (.ref C) (.ref B) = some true)]
theorem bfB_ok {K : PySem.W.Frag} {C B T fI : Addr} (h : (bfB K C B T fI).all id = true) : BfAll K C B T fI := by
  unfold bfB at h
  simp only [List.all_cons, List.all_nil, id, Bool.and_eq_true, decide_eq_true_eq] at h
  obtain ⟨a1, a2, a3, a4, a5, a6, a7, a8, a9, a10, a11, a12, a13, a14, a15, a16, a17, a18, _⟩ := h
  exact ⟨⟨⟨bfCls_ok a1, a2, a3, a4, a5⟩, ⟨a6, a7, a3, a8, a9, a10, a11, a12⟩, a13, a14, a15⟩, a16, a17, a18⟩
/-- what the suite asks: the error is the class's, its what is y -/
def tSui (C a : Addr) (cls : Value) (d : Option Addr) (i j : Nat) : TS := fun D σ H => cls = .ref C ∧ ∃ (dd : Addr) (y : Int), d = some dd ∧ σ[i]? = some (some (.ref a)) ∧ σ[j]? = some (some (.int y)) ∧ H dd = some (.xd [(("what" : Str), .int y)]) ∧ D.rt (.bl true) H
section
variable {X : Cx} {a C B T fI : Addr} {oe : Obj} {cls : Value} {d : Option Addr} {pn : List (Addr × Obj)} {e1 e2 e3 e4 : Expr} {i j : Nat} {pos p1 p2 p3 p4 p5 p6 p7 p8 : Pos}
theorem ps_sui (A : BfAll X.K C B T fI) (gC : X.mg "BadForm" = some (.ref C)) (gT : X.mg "BadText" = some (.ref T)) (mi : X.mg "isinstance" = none) (hz : Zc cls d oe) (hf : ∃ vs, oe.data = .fields vs)
    (h : ∀ dd, cls = .ref C → d = some dd → ∃ t : TS, PS (X.suite a ((a, oe) :: pn)) (.Return (some e1) pos) t ∧ ∀ D σ H y, σ[i]? = some (some (.ref a)) → σ[j]? = some (some (.int y)) → H dd = some (.xd [(("what" : Str), .int y)]) → D.rt (.bl true) H → t D σ H) :
    PS (X.suite a ((a, oe) :: pn)) (.Return (some e1) pos) (tSui C a cls d i j) := by
  refine ⟨fun pins s σ H D I q => ?_⟩
  obtain ⟨ec, dd, y, ed, h1, h2, h3, h4⟩ := q
  obtain ⟨t, ht, k⟩ := h dd ec ed
  exact ht.run pins s σ H D I (k D σ H y h1 h2 h3 h4)
end
theorem stOk_keep {K : PySem.W.Frag} {ω : Wd} {H H' : Hp} {tk : Tk} (h : StOk K ω H tk) (k : ∀ b o, H b = some o → H' b = some o) : StOk K ω H' tk := by
  rcases h with h | ⟨a, n, h1, h2, h3, n2, ns, h4, h5⟩
  · exact .inl h
  · exact .inr ⟨a, n, h1, h2, h3, n2, ns, k _ _ h4, h5⟩
theorem ret_true {K : PySem.W.Frag} {ω : Wd} {H H' : Hp} {tk : Tk} (sub : ∀ b o, ω.hd b = some o → H b = some o) (st : StOk K ω H tk) (k : ∀ b o, H b = some o → H' b = some o) : Ret ⟨K, ω, H, fun _ => False⟩ ω H' tk (.val (.bl true)) (.bl true) :=
  ⟨fun b o h => k b o (sub b o h), stOk_keep st k, fun b h => .inl h, fun a h => .inl h, fun b o h _ => k b o h, .refl _, (show Rep K ω (.bl true) (.bl true) from Rep.bl_iff.mpr rfl)⟩
end DL
namespace DL
open PySem PySem.Spec PyProof.Rows L2
section
variable {P : Program} {w : World} {K : PySem.W.Frag} {mg : Str → Option Value} {base : Heap}
theorem sc_floor_root : FnScope N_floor_root ["n"] (defScope s_floor_root) := ⟨rfl, rfl, rfl, by decide +kernel, rfl, by decide +kernel, by decide +kernel⟩
theorem ok_floor_root {k : Nat} {f : Addr} {fd : FuncData} (F : Fun K "floor_root" "floor_root" s_floor_root f fd) (m_isqrt : mg "isqrt" = some (.builtin "math.isqrt")) : FnOk P w K mg base CX0 (k + 1) f fd ["n"] (spD K sp_floor_root) :=
  fn_ok F sc_floor_root len_floor_root (fun cdv A outer s H E c hK hr => by
    unfold c_floor_root
    have nd := sc_floor_root.nd
    exact (ss_one (ss_ret (se_sqrt (by rfl) m_isqrt (sp_v 0 (pv 0)))))) hw_floor_root

theorem sc_is_square : FnScope N_is_square ["n"] (defScope s_is_square) := ⟨rfl, rfl, rfl, by decide +kernel, rfl, by decide +kernel, by decide +kernel⟩
theorem ok_is_square {k : Nat} {f : Addr} {fd : FuncData} (F : Fun K "is_square" "is_square" s_is_square f fd) (m_isqrt : mg "isqrt" = some (.builtin "math.isqrt")) : FnOk P w K mg base CX0 (k + 1) f fd ["n"] (spD K sp_is_square) :=
  fn_ok F sc_is_square len_is_square (fun cdv A outer s H E c hK hr => by
    unfold c_is_square
    have nd := sc_is_square.nd
    exact (ss_one (ss_ret (se_sv (sv_and (se_ge (sp_v 0 (pv 0)) (SE.pk se_int)) (sv_one (se_eq hK (hu_room hr) (SE.pk (se_mul (SE.pk (se_sqrt (by rfl) m_isqrt (sp_v 0 (pv 0)))) (SE.pk (se_sqrt (by rfl) m_isqrt (sp_v 0 (pv 0)))))) (sp_v 0 (pv 0))))))))) hw_is_square

theorem sc_floor_of : FnScope N_floor_of ["p", "q", "root"] (defScope s_floor_of) := ⟨rfl, rfl, rfl, by decide +kernel, rfl, by decide +kernel, by decide +kernel⟩
theorem ok_floor_of {k : Nat} {f : Addr} {fd : FuncData} (F : Fun K "floor_of" "floor_of" s_floor_of f fd) : FnOk P w K mg base CX0 (k + 1) f fd ["p", "q", "root"] (spD K sp_floor_of) :=
  fn_ok F sc_floor_of len_floor_of (fun cdv A outer s H E c hK hr => by
    unfold c_floor_of
    have nd := sc_floor_of.nd
    exact (ss_cons (ss_if (st_gt (sp_v 1 (pv 1)) (SE.pk se_int)) (ss_one (ss_ret (se_div (SE.pk (se_add hK (sp_v 0 (pv 0)) (sp_v 2 (pv 2)))) (sp_v 1 (pv 1))))) ss_nil)
      (ss_one (ss_ret (se_div (SE.pk (se_add hK (SE.pk (se_add hK (sp_v 0 (pv 0)) (sp_v 2 (pv 2)))) (SE.pk se_int))) (sp_v 1 (pv 1))))))) hw_floor_of

theorem sc_next_state : FnScope N_next_state ["state", "d", "root"] (defScope s_next_state) := ⟨rfl, rfl, rfl, by decide +kernel, rfl, by decide +kernel, by decide +kernel⟩
theorem ok_next_state {k : Nat} {f : Addr} {fd : FuncData} (F : Fun K "next_state" "next_state" s_next_state f fd) (G_floor_of : FnIn P w K mg base k "floor_of" sp_floor_of) : FnOk P w K mg base CX0 (k + 1) f fd ["state", "d", "root"] (spD K sp_next_state) :=
  fn_ok F sc_next_state len_next_state (fun cdv A outer s H E c hK hr => by
    unfold c_next_state
    have nd := sc_next_state.nd
    exact (ss_cons (ss_asg (SE.fz (se_v 0 (pv 0))) (sg_tup hK rfl (sg_cons (sg_n (i := 3) nd rfl (by first | exact Or.inl rfl | exact Or.inr rfl)) (sg_cons (sg_n (i := 4) nd rfl (by first | exact Or.inl rfl | exact Or.inr rfl)) sg_nil))))
      (ss_cons (ss_set (i := 5) nd rfl (by first | exact Or.inl rfl | exact Or.inr rfl) (se_call hK G_floor_of mon_floor_of hr (by rfl) (sa_cons (SE.fz (se_v 3 (pv 3))) (sa_cons (SE.fz (se_v 4 (pv 4))) (sa_cons (SE.fz (se_v 2 (pv 2))) sa_nil)))))
      (ss_cons (ss_set (i := 3) nd rfl (by first | exact Or.inl rfl | exact Or.inr rfl) (se_sub (SE.pk (se_mul (sp_v 5 (pv 5)) (sp_v 4 (pv 4)))) (sp_v 3 (pv 3))))
      (ss_one (ss_ret (se_tup (sa_cons (SE.fz (se_v 5 (pv 5))) (sa_cons (SE.fz (se_tup (sa_cons (SE.fz (se_v 3 (pv 3))) (sa_cons (SE.fz (se_div (SE.pk (se_sub (sp_v 1 (pv 1)) (SE.pk (se_mul (sp_v 3 (pv 3)) (sp_v 3 (pv 3)))))) (sp_v 4 (pv 4)))) sa_nil)))) sa_nil))))))))) hw_next_state

theorem sc_is_reduced_state : FnScope N_is_reduced_state ["state", "root"] (defScope s_is_reduced_state) := ⟨rfl, rfl, rfl, by decide +kernel, rfl, by decide +kernel, by decide +kernel⟩
theorem ok_is_reduced_state {k : Nat} {f : Addr} {fd : FuncData} (F : Fun K "is_reduced_state" "is_reduced_state" s_is_reduced_state f fd) : FnOk P w K mg base CX0 (k + 1) f fd ["state", "root"] (spD K sp_is_reduced_state) :=
  fn_ok F sc_is_reduced_state len_is_reduced_state (fun cdv A outer s H E c hK hr => by
    unfold c_is_reduced_state
    have nd := sc_is_reduced_state.nd
    exact (ss_cons (ss_asg (SE.fz (se_v 0 (pv 0))) (sg_tup hK rfl (sg_cons (sg_n (i := 2) nd rfl (by first | exact Or.inl rfl | exact Or.inr rfl)) (sg_cons (sg_n (i := 3) nd rfl (by first | exact Or.inl rfl | exact Or.inr rfl)) sg_nil))))
      (ss_one (ss_ret (se_sv (sv_and (se_chain op_lt op_le .j .j od_b0 od_b0 (SE.pk se_int) (sp_v 2 (pv 2)) (sp_v 1 (pv 1))) (sv_and (se_gt (sp_v 3 (pv 3)) (SE.pk se_int)) (sv_one (se_chain op_lt op_le .j .j od_b0 od_b0 (SE.pk (se_sub (sp_v 1 (pv 1)) (sp_v 2 (pv 2)))) (sp_v 3 (pv 3)) (SE.pk (se_add hK (sp_v 1 (pv 1)) (sp_v 2 (pv 2))))))))))))) hw_is_reduced_state

theorem sc_expand : FnScope N_expand ["p", "q", "d"] (defScope s_expand) := ⟨rfl, rfl, rfl, by decide +kernel, rfl, by decide +kernel, by decide +kernel⟩
theorem ok_expand {k : Nat} {f : Addr} {fd : FuncData} (F : Fun K "expand" "expand" s_expand f fd) (m_tuple : mg "tuple" = none) (G_is_square : FnIn P w K mg base k "is_square" sp_is_square) (G_floor_root : FnIn P w K mg base k "floor_root" sp_floor_root) (G_is_reduced_state : FnIn P w K mg base k "is_reduced_state" sp_is_reduced_state) (G_next_state : FnIn P w K mg base k "next_state" sp_next_state) : FnOk P w K mg base CX0 (k + 1) f fd ["p", "q", "d"] (spD K sp_expand) :=
  fn_ok F sc_expand len_expand (fun cdv A outer s H E c hK hr => by
    unfold c_expand
    have nd := sc_expand.nd
    exact (ss_cons (ss_if (st_w (sw_or (st_v (se_call hK G_is_square mon_is_square hr (by rfl) (sa_cons (SE.fz (se_v 2 (pv 2))) sa_nil))) (sw_or (st_eq hK (hu_room hr) (sp_v 1 (pv 1)) (SE.pk se_int)) (sw_or1 (st_ne hK (hu_room hr) (SE.pk (se_mod (SE.pk (se_sub (sp_v 2 (pv 2)) (SE.pk (se_mul (sp_v 0 (pv 0)) (sp_v 0 (pv 0)))))) (sp_v 1 (pv 1)))) (SE.pk se_int)))))) (ss_one ss_never) ss_nil)
      (ss_cons (ss_set (i := 3) nd rfl (by first | exact Or.inl rfl | exact Or.inr rfl) (se_call hK G_floor_root mon_floor_root hr (by rfl) (sa_cons (SE.fz (se_v 2 (pv 2))) sa_nil)))
      (ss_cons (ss_set (i := 4) nd rfl (by first | exact Or.inl rfl | exact Or.inr rfl) (se_lst sa_nil))
      (ss_cons (ss_set (i := 5) nd rfl (by first | exact Or.inl rfl | exact Or.inr rfl) (se_tup (sa_cons (SE.fz (se_v 0 (pv 0))) (sa_cons (SE.fz (se_v 1 (pv 1))) sa_nil))))
      (ss_cons (ss_while PassesOwn.never (st_not (st_v (se_call hK G_is_reduced_state mon_is_reduced_state hr (by rfl) (sa_cons (SE.fz (se_v 5 (pv 5))) (sa_cons (SE.fz (se_v 3 (pv 3))) sa_nil))))) (ss_cons (ss_asg (SE.fz (se_call hK G_next_state mon_next_state hr (by rfl) (sa_cons (SE.fz (se_v 5 (pv 5))) (sa_cons (SE.fz (se_v 2 (pv 2))) (sa_cons (SE.fz (se_v 3 (pv 3))) sa_nil))))) (sg_tup hK rfl (sg_cons (sg_n (i := 8) nd rfl (by first | exact Or.inl rfl | exact Or.inr rfl)) (sg_cons (sg_n (i := 5) nd rfl (by first | exact Or.inl rfl | exact Or.inr rfl)) sg_nil))))
      (ss_one (ss_app 4 (pv 4) (SE.fz (se_v 8 (pv 8)))))))
      (ss_cons (ss_set (i := 6) nd rfl (by first | exact Or.inl rfl | exact Or.inr rfl) (se_v 5 (pv 5)))
      (ss_cons (ss_set (i := 7) nd rfl (by first | exact Or.inl rfl | exact Or.inr rfl) (se_lst sa_nil))
      (ss_cons (ss_asg (SE.fz (se_call hK G_next_state mon_next_state hr (by rfl) (sa_cons (SE.fz (se_v 5 (pv 5))) (sa_cons (SE.fz (se_v 2 (pv 2))) (sa_cons (SE.fz (se_v 3 (pv 3))) sa_nil))))) (sg_tup hK rfl (sg_cons (sg_n (i := 8) nd rfl (by first | exact Or.inl rfl | exact Or.inr rfl)) (sg_cons (sg_n (i := 5) nd rfl (by first | exact Or.inl rfl | exact Or.inr rfl)) sg_nil))))
      (ss_cons (ss_app 7 (pv 7) (SE.fz (se_v 8 (pv 8))))
      (ss_cons (ss_while PassesOwn.never (st_ne hK (hu_room hr) (sp_v 5 (pv 5)) (sp_v 6 (pv 6))) (ss_cons (ss_asg (SE.fz (se_call hK G_next_state mon_next_state hr (by rfl) (sa_cons (SE.fz (se_v 5 (pv 5))) (sa_cons (SE.fz (se_v 2 (pv 2))) (sa_cons (SE.fz (se_v 3 (pv 3))) sa_nil))))) (sg_tup hK rfl (sg_cons (sg_n (i := 8) nd rfl (by first | exact Or.inl rfl | exact Or.inr rfl)) (sg_cons (sg_n (i := 5) nd rfl (by first | exact Or.inl rfl | exact Or.inr rfl)) sg_nil))))
      (ss_one (ss_app 7 (pv 7) (SE.fz (se_v 8 (pv 8)))))))
      (ss_one (ss_ret (se_tup (sa_cons (SE.fz (se_tuple hK (by rfl) m_tuple (sp_v 4 (pv 4)))) (sa_cons (SE.fz (se_tuple hK (by rfl) m_tuple (sp_v 7 (pv 7)))) sa_nil)))))))))))))))) hw_expand

theorem sc_part_at : FnScope N_part_at ["expansion", "index"] (defScope s_part_at) := ⟨rfl, rfl, rfl, by decide +kernel, rfl, by decide +kernel, by decide +kernel⟩
theorem ok_part_at {k : Nat} {f : Addr} {fd : FuncData} (F : Fun K "part_at" "part_at" s_part_at f fd) (m_len : mg "len" = none) : FnOk P w K mg base CX0 (k + 1) f fd ["expansion", "index"] (spD K sp_part_at) :=
  fn_ok F sc_part_at len_part_at (fun cdv A outer s H E c hK hr => by
    unfold c_part_at
    have nd := sc_part_at.nd
    exact (ss_cons (ss_asg (SE.fz (se_v 0 (pv 0))) (sg_tup hK rfl (sg_cons (sg_n (i := 2) nd rfl (by first | exact Or.inl rfl | exact Or.inr rfl)) (sg_cons (sg_n (i := 3) nd rfl (by first | exact Or.inl rfl | exact Or.inr rfl)) sg_nil))))
      (ss_cons (ss_if (st_lt (sp_v 1 (pv 1)) (SE.pk (se_len hK (by rfl) m_len (sp_v 2 (pv 2))))) (ss_one (ss_ret (se_ix hK (sp_v 2 (pv 2)) (sp_v 1 (pv 1)) (fun _ _ => rfl)))) ss_nil)
      (ss_one (ss_ret (se_ix hK (sp_v 3 (pv 3)) (SE.pk (se_mod (SE.pk (se_sub (sp_v 1 (pv 1)) (SE.pk (se_len hK (by rfl) m_len (sp_v 2 (pv 2)))))) (SE.pk (se_len hK (by rfl) m_len (sp_v 3 (pv 3)))))) (fun _ _ => rfl))))))) hw_part_at

theorem sc_Lcell : FnScope N_Lcell ["_law_script", "_law_k"] (defScope s_Lcell) := ⟨rfl, rfl, rfl, by decide +kernel, rfl, by decide +kernel, by decide +kernel⟩
theorem ok_Lcell {k : Nat} {f : Addr} {fd : FuncData} (F : Fun K "_law_cell" "_law_cell" s_Lcell f fd) (m_len : mg "len" = none) : FnOk P w K mg base CX0 (k + 1) f fd ["_law_script", "_law_k"] (spD K sp_Lcell) :=
  fn_ok F sc_Lcell len_Lcell (fun cdv A outer s H E c hK hr => by
    unfold c_Lcell
    have nd := sc_Lcell.nd
    exact (ss_cons (ss_if (st_lt (sp_v 1 (pv 1)) (SE.pk (se_len hK (by rfl) m_len (sp_v 0 (pv 0))))) (ss_one (ss_ret (se_ix hK (sp_v 0 (pv 0)) (sp_v 1 (pv 1)) (fun _ _ => rfl)))) ss_nil)
      (ss_one (ss_ret se_int)))) hw_Lcell

theorem sc_Lnumbers : FnScope N_Lnumbers ["_law_cell_here", "_law_many"] (defScope s_Lnumbers) := ⟨rfl, rfl, rfl, by decide +kernel, rfl, by decide +kernel, by decide +kernel⟩
theorem ok_Lnumbers {k : Nat} {f : Addr} {fd : FuncData} (F : Fun K "_law_numbers" "_law_numbers" s_Lnumbers f fd) (m_abs : mg "abs" = none) (m_range : mg "range" = none) (m_int : mg "int" = none) : FnOk P w K mg base CX0 (k + 1) f fd ["_law_cell_here", "_law_many"] (spD K sp_Lnumbers) :=
  fn_ok F sc_Lnumbers len_Lnumbers (fun cdv A outer s H E c hK hr => by
    unfold c_Lnumbers
    have nd := sc_Lnumbers.nd
    exact (ss_cons (ss_set (i := 2) nd rfl (by first | exact Or.inl rfl | exact Or.inr rfl) (se_abs (by rfl) m_abs (sp_v 0 (pv 0))))
      (ss_cons (ss_set (i := 3) nd rfl (by first | exact Or.inl rfl | exact Or.inr rfl) (se_v 2 (pv 2)))
      (ss_cons (ss_set (i := 4) nd rfl (by first | exact Or.inl rfl | exact Or.inr rfl) (se_lst sa_nil))
      (ss_cons (ss_for PassesOwn.never rfl (si_r1 (by rfl) m_range (sp_v 1 (pv 1))) (sg_n (i := 5) nd rfl (by first | exact Or.inl rfl | exact Or.inr rfl)) (ss_one (ss_if (st_w (sw_and (st_ge (sp_v 3 (pv 3)) (SE.pk (se_pow (SE.pk se_int) (SE.pk se_int)))) (sw_and1 (st_gt (sp_v 2 (pv 2)) (SE.pk se_int))))) (ss_cons (ss_app 4 (pv 4) (SE.fz (se_mod (SE.pk (se_toInt (by rfl) m_int (sp_v 2 (pv 2)))) (SE.pk se_int))))
      (ss_one (ss_set (i := 2) nd rfl (by first | exact Or.inl rfl | exact Or.inr rfl) (se_div (sp_v 2 (pv 2)) (SE.pk se_int))))) (ss_cons (ss_set (i := 6) nd rfl (by first | exact Or.inl rfl | exact Or.inr rfl) (se_mod (SE.pk (se_toInt (by rfl) m_int (SE.pk (se_add hK (SE.pk (se_add hK (SE.pk (se_mul (sp_v 3 (pv 3)) (SE.pk se_int))) (SE.pk (se_mul (sp_v 5 (pv 5)) (SE.pk se_int))))) (SE.pk se_int))))) (SE.pk se_int)))
      (ss_cons (ss_set (i := 6) nd rfl (by first | exact Or.inl rfl | exact Or.inr rfl) (se_mod (SE.pk (se_toInt (by rfl) m_int (SE.pk (se_add hK (SE.pk (se_add hK (SE.pk (se_mul (sp_v 6 (pv 6)) (sp_v 6 (pv 6)))) (SE.pk (se_mul (SE.pk se_int) (sp_v 5 (pv 5)))))) (SE.pk se_int))))) (SE.pk se_int)))
      (ss_one (ss_app 4 (pv 4) (SE.fz (se_mod (SE.pk (se_toInt (by rfl) m_int (SE.pk (se_div (sp_v 6 (pv 6)) (SE.pk se_int))))) (SE.pk se_int))))))))))
      (ss_one (ss_retV 4 (pv 4)))))))) hw_Lnumbers

theorem sc_Lstate : FnScope N_Lstate ["_law_script"] (defScope s_Lstate) := ⟨rfl, rfl, rfl, by decide +kernel, rfl, by decide +kernel, by decide +kernel⟩
theorem ok_Lstate0 {k : Nat} {f : Addr} {fd : FuncData} (F : Fun K "_law_state" "_law_state" s_Lstate f fd) (m_range : mg "range" = none) (m_abs : mg "abs" = none) (G_Lnumbers : FnIn P w K mg base k "_law_numbers" sp_Lnumbers) (G_Lcell : FnIn P w K mg base k "_law_cell" sp_Lcell) : FnOk P w K mg base CX0 (k + 1) f fd ["_law_script"] (spD K sp_Lstate0) :=
  fn_ok F sc_Lstate len_Lstate0 (fun cdv A outer s H E c hK hr => by
    unfold c_Lstate
    have nd := sc_Lstate.nd
    exact (ss_cons (ss_set (i := 1) nd rfl (by first | exact Or.inl rfl | exact Or.inr rfl) (se_lst sa_nil))
      (ss_cons (ss_for PassesOwn.never rfl (si_r1 (by rfl) m_range (SE.pk se_int)) (sg_n (i := 2) nd rfl (by first | exact Or.inl rfl | exact Or.inr rfl)) (ss_one (ss_set (i := 1) nd rfl (by first | exact Or.inl rfl | exact Or.inr rfl) (se_add hK (sp_v 1 (pv 1)) (SE.pk (se_call hK G_Lnumbers mon_Lnumbers hr (by rfl) (sa_cons (SE.fz (se_add hK (SE.pk (se_abs (by rfl) m_abs (SE.pk (se_call hK G_Lcell mon_Lcell hr (by rfl) (sa_cons (SE.fz (se_v 0 (pv 0))) (sa_cons (SE.fz (se_v 2 (pv 2))) sa_nil)))))) (SE.pk (se_mul (SE.pk se_int) (sp_v 2 (pv 2)))))) (sa_cons (SE.fz se_int) sa_nil))))))))
      (ss_one (ss_ret (se_lst (sa_cons (SE.fz (se_v 1 (pv 1))) (sa_cons (SE.fz se_int) sa_nil)))))))) hw_Lstate0

theorem sc_Lnext : FnScope N_Lnext ["_law_state_here", "_law_many"] (defScope s_Lnext) := ⟨rfl, rfl, rfl, by decide +kernel, rfl, by decide +kernel, by decide +kernel⟩
theorem ok_Lnext {k : Nat} {f : Addr} {fd : FuncData} (F : Fun K "_law_next" "_law_next" s_Lnext f fd) (m_len : mg "len" = none) (m_int : mg "int" = none) : FnOk P w K mg base CX0 (k + 1) f fd ["_law_state_here", "_law_many"] (spD K sp_Lnext) := by
  refine F.ok sc_Lnext (fun vs H Q E h => ?_) (fun cdv A outer s H vs Q E hr h => ?_)
  · obtain ⟨ω, ds, tk, _, _, r, m, c, rfl, _⟩ := h
    rw [r.length]; rfl
  · obtain ⟨ω, ds, tk, sub, st, r, m, c, rfl, rfl, h0, h1, q⟩ := h
    obtain ⟨v0, vr, rfl, b1, b2⟩ := Reps.cons_iff.mp r
    obtain ⟨v1, vr, rfl, b3, b4⟩ := Reps.cons_iff.mp b2
    rw [Reps.nil_iff] at b4; subst b4
    rw [Rep.int_iff] at b3; subst b3
    obtain ⟨a, hg, rfl⟩ := Rep.st_iff.mp b1
    rcases st with ⟨z, _⟩ | ⟨a', k', e, e1, e0, n, ns, e2, hn, hl, hs⟩
    · rw [hg] at z; cases z
    rw [hg] at e; cases e
    cases e1
    refine ⟨_, pss_cons (ps_asg (pe_op op_add (pe_ix ix_list (pv 0) pe_int (fun _ _ => rfl)) pe_int) (pg_sub (pv 0) pe_int set_list))
      (pss_cons (ps_set (i := 2) sc_Lnext.nd rfl (.inl rfl) (pe_op op_add (pe_ix ix_list (pe_ix ix_list (pv 0) pe_int (fun _ _ => rfl)) (pe_op op_modN (pe_callTy call_int1 (by rfl) m_int (by decide +kernel) (pa_cons (pe_op op_mulA (pe_ix ix_list (pv 0) pe_int (fun _ _ => rfl)) pe_int) pa_nil)) (pe_callB call_len_seq (by rfl) m_len PySem.boot_len (pa_cons (pe_ix ix_list (pv 0) pe_int (fun _ _ => rfl)) pa_nil))) (fun _ _ => rfl))
        (pe_op op_mulA (pe_op op_mulA pe_int (pe_ix ix_list (pv 0) pe_int (fun _ _ => rfl))) (pe_op op_add pe_int (pe_op op_fdivN (pe_ix ix_list (pv 0) pe_int (fun _ _ => rfl)) (pe_callB call_len_seq (by rfl) m_len PySem.boot_len (pa_cons (pe_ix ix_list (pv 0) pe_int (fun _ _ => rfl)) pa_nil)))))))
      (pss_one (ps_ret (pe_op op_modN (pe_callTy call_int1 (by rfl) m_int (by decide +kernel) (pa_cons (pv 2) pa_nil)) (pv 1))))), ?_⟩
    have e3 : (upd H a (.lst [.ref n, .int ((c : Int) + 1)])) a = some (.lst [.ref n, .int ((c : Int) + 1)]) := upd_same
    have hn1 : SqL K (upd H a (.lst [.ref n, .int ((c : Int) + 1)])) n (ns.map V.int) := sqL_mono (fun b o h => by
      rw [upd_ne (fun z => by rw [z, e0] at h; cases h)]
      exact sub b o h) hn
    refine ⟨_, rfl, a, _, 1, .int c, rfl, rfl, .of e2, rfl, c, 1, rfl, rfl, _, rfl, a, _, 1, 1, rfl, rfl, e2, rfl, ?_⟩
    have hlen : ((ns.map V.int).length : Int) = 120 := by rw [List.length_map, hl]; rfl
    have hp : 0 ≤ (((c : Int) + 1) * 7).fmod 120 ∧ (((c : Int) + 1) * 7).fmod 120 < 120 := fmod_pos (by decide)
    obtain ⟨x, hx⟩ : ∃ x : Int, atI (ns.map V.int) ((((c : Int) + 1) * 7).fmod 120) = some (.int x) := by
      obtain ⟨j, e⟩ : ∃ j : Nat, (((c : Int) + 1) * 7).fmod 120 = (j : Int) := ⟨((((c : Int) + 1) * 7).fmod 120).toNat, by omega⟩
      have hi : j < ns.length := by omega
      rw [e]
      exact ⟨ns[j], atI_nat (by rw [List.getElem?_map, List.getElem?_eq_getElem hi]; rfl)⟩
    refine ⟨_, rfl, a, _, 0, .ref n, rfl, rfl, .of e3, rfl, _, rfl, a, _, 1, .int ((c : Int) + 1), rfl, rfl, .of e3, rfl, (c : Int) + 1, 7, rfl, rfl, mulOk_r (by decide), .inl ⟨_, rfl, ?_⟩⟩
    refine ⟨_, rfl, a, _, 0, .ref n, rfl, rfl, .of e3, rfl, n, _, rfl, .inl hn1, _, _, rfl, rfl, by rw [hlen]; exact (show (120 : Int) ≠ 0 by decide), ?_⟩
    refine ⟨n, _, _, .int x, rfl, rfl, hn1, by rw [hlen]; exact hx, _, rfl, a, _, 1, .int ((c : Int) + 1), rfl, rfl, .of e3, rfl, 13, (c : Int) + 1, rfl, rfl, mulOk_l (by decide), ?_⟩
    refine ⟨_, rfl, a, _, 1, .int ((c : Int) + 1), rfl, rfl, .of e3, rfl, _, rfl, a, _, 0, .ref n, rfl, rfl, .of e3, rfl, n, _, rfl, .inl hn1, (c : Int) + 1, _, rfl, rfl, ⟨by rw [hlen]; exact (show (120 : Int) ≠ 0 by decide), by rw [hlen]; exact (show (120 : Int).natAbs < 1073741824 by decide)⟩, 1, _, rfl, rfl, _, _, rfl, rfl, mulOk_l (by omega), _, _, rfl, rfl, ?_⟩
    refine ⟨_, rfl, .inl ⟨_, rfl, _, rfl, _, m, rfl, rfl, by omega, ?_⟩⟩
    exact q _ (fmod_pos h0).1 (fmod_pos h0).2 _ ω _ (ret_Lnext sub hg e0 e2 hn hl hs)

theorem sc_Lwide : FnScope N_Lwide ["_law_state_here", "_law_many"] (defScope s_Lwide) := ⟨rfl, rfl, rfl, by decide +kernel, rfl, by decide +kernel, by decide +kernel⟩
theorem ok_Lwide {k : Nat} {f : Addr} {fd : FuncData} (F : Fun K "_law_wide" "_law_wide" s_Lwide f fd) (m_range : mg "range" = none) (G_Lnext : FnIn P w K mg base k "_law_next" sp_Lnext) : FnOk P w K mg base CX0 (k + 1) f fd ["_law_state_here", "_law_many"] (spD K sp_Lwide) :=
  fn_ok F sc_Lwide len_Lwide (fun cdv A outer s H E c hK hr => by
    unfold c_Lwide
    have nd := sc_Lwide.nd
    exact (ss_cons (ss_set (i := 2) nd rfl (by first | exact Or.inl rfl | exact Or.inr rfl) se_int)
      (ss_cons (ss_for PassesOwn.never rfl (si_r1 (by rfl) m_range (SE.pk se_int)) (sg_n (i := 3) nd rfl (by first | exact Or.inl rfl | exact Or.inr rfl)) (ss_one (ss_set (i := 2) nd rfl (by first | exact Or.inl rfl | exact Or.inr rfl) (se_add hK (SE.pk (se_mul (sp_v 2 (pv 2)) (SE.pk se_int))) (SE.pk (se_call hK G_Lnext mon_Lnext hr (by rfl) (sa_cons (SE.fz (se_v 0 (pv 0))) (sa_cons (SE.fz se_int) sa_nil))))))))
      (ss_one (ss_ret (se_mod (sp_v 2 (pv 2)) (sp_v 1 (pv 1)))))))) hw_Lwide

theorem sc_Lroot : FnScope N_Lroot ["_law_n"] (defScope s_Lroot) := ⟨rfl, rfl, rfl, by decide +kernel, rfl, by decide +kernel, by decide +kernel⟩
theorem ok_Lroot {k : Nat} {f : Addr} {fd : FuncData} (F : Fun K "_law_root" "_law_root" s_Lroot f fd) (m_range : mg "range" = none) : FnOk P w K mg base CX0 (k + 1) f fd ["_law_n"] (spD K sp_Lroot) :=
  fn_ok F sc_Lroot len_Lroot (fun cdv A outer s H E c hK hr => by
    unfold c_Lroot
    have nd := sc_Lroot.nd
    exact (ss_cons (ss_set (i := 1) nd rfl (by first | exact Or.inl rfl | exact Or.inr rfl) se_int)
      (ss_cons (ss_set (i := 2) nd rfl (by first | exact Or.inl rfl | exact Or.inr rfl) (se_add hK (sp_v 0 (pv 0)) (SE.pk se_int)))
      (ss_cons (ss_for PassesOwn.never rfl (si_r1 (by rfl) m_range (SE.pk se_int)) (sg_n (i := 3) nd rfl (by first | exact Or.inl rfl | exact Or.inr rfl)) (ss_cons (ss_if (st_le (SE.pk (se_sub (sp_v 2 (pv 2)) (sp_v 1 (pv 1)))) (SE.pk se_int)) (ss_one (ss_retV 1 (pv 1))) ss_nil)
      (ss_cons (ss_set (i := 4) nd rfl (by first | exact Or.inl rfl | exact Or.inr rfl) (se_div (SE.pk (se_add hK (sp_v 1 (pv 1)) (sp_v 2 (pv 2)))) (SE.pk se_int)))
      (ss_one (ss_if (st_le (SE.pk (se_mul (sp_v 4 (pv 4)) (sp_v 4 (pv 4)))) (sp_v 0 (pv 0))) (ss_one (ss_set (i := 1) nd rfl (by first | exact Or.inl rfl | exact Or.inr rfl) (se_v 4 (pv 4)))) (ss_one (ss_set (i := 2) nd rfl (by first | exact Or.inl rfl | exact Or.inr rfl) (se_v 4 (pv 4)))))))))
      (ss_one (ss_retV 1 (pv 1))))))) hw_Lroot

theorem sc_Lis_at_most : FnScope N_Lis_at_most ["_law_n", "_law_p", "_law_q", "_law_d"] (defScope s_Lis_at_most) := ⟨rfl, rfl, rfl, by decide +kernel, rfl, by decide +kernel, by decide +kernel⟩
theorem ok_Lis_at_most {k : Nat} {f : Addr} {fd : FuncData} (F : Fun K "_law_is_at_most" "_law_is_at_most" s_Lis_at_most f fd) : FnOk P w K mg base CX0 (k + 1) f fd ["_law_n", "_law_p", "_law_q", "_law_d"] (spD K sp_Lis_at_most) :=
  fn_ok F sc_Lis_at_most len_Lis_at_most (fun cdv A outer s H E c hK hr => by
    unfold c_Lis_at_most
    have nd := sc_Lis_at_most.nd
    exact (ss_cons (ss_set (i := 4) nd rfl (by first | exact Or.inl rfl | exact Or.inr rfl) (se_sub (SE.pk (se_mul (sp_v 0 (pv 0)) (sp_v 2 (pv 2)))) (sp_v 1 (pv 1))))
      (ss_cons (ss_if (st_gt (sp_v 2 (pv 2)) (SE.pk se_int)) (ss_one (ss_ret (se_sv (sv_or (se_lt (sp_v 4 (pv 4)) (SE.pk se_int)) (sv_one (se_le (SE.pk (se_mul (sp_v 4 (pv 4)) (sp_v 4 (pv 4)))) (sp_v 3 (pv 3)))))))) ss_nil)
      (ss_one (ss_ret (se_sv (sv_and (se_gt (sp_v 4 (pv 4)) (SE.pk se_int)) (sv_one (se_ge (SE.pk (se_mul (sp_v 4 (pv 4)) (sp_v 4 (pv 4)))) (sp_v 3 (pv 3))))))))))) hw_Lis_at_most

theorem sc_Lpart : FnScope N_Lpart ["_law_p", "_law_q", "_law_d"] (defScope s_Lpart) := ⟨rfl, rfl, rfl, by decide +kernel, rfl, by decide +kernel, by decide +kernel⟩
theorem ok_Lpart {k : Nat} {f : Addr} {fd : FuncData} (F : Fun K "_law_part" "_law_part" s_Lpart f fd) (m_abs : mg "abs" = none) (m_range : mg "range" = none) (G_Lis_at_most : FnIn P w K mg base k "_law_is_at_most" sp_Lis_at_most) : FnOk P w K mg base CX0 (k + 1) f fd ["_law_p", "_law_q", "_law_d"] (spD K sp_Lpart) :=
  fn_ok F sc_Lpart len_Lpart (fun cdv A outer s H E c hK hr => by
    unfold c_Lpart
    have nd := sc_Lpart.nd
    exact (ss_cons (ss_set (i := 3) nd rfl (by first | exact Or.inl rfl | exact Or.inr rfl) (se_sub (SE.pk (se_sub (SE.pk (se_neg (SE.pk (se_abs (by rfl) m_abs (sp_v 0 (pv 0)))))) (sp_v 2 (pv 2)))) (SE.pk se_int)))
      (ss_cons (ss_set (i := 4) nd rfl (by first | exact Or.inl rfl | exact Or.inr rfl) (se_add hK (SE.pk (se_add hK (SE.pk (se_abs (by rfl) m_abs (sp_v 0 (pv 0)))) (sp_v 2 (pv 2)))) (SE.pk se_int)))
      (ss_cons (ss_for PassesOwn.never rfl (si_r1 (by rfl) m_range (SE.pk se_int)) (sg_n (i := 5) nd rfl (by first | exact Or.inl rfl | exact Or.inr rfl)) (ss_cons (ss_if (st_le (SE.pk (se_sub (sp_v 4 (pv 4)) (sp_v 3 (pv 3)))) (SE.pk se_int)) (ss_one (ss_retV 3 (pv 3))) ss_nil)
      (ss_cons (ss_set (i := 6) nd rfl (by first | exact Or.inl rfl | exact Or.inr rfl) (se_div (SE.pk (se_add hK (sp_v 3 (pv 3)) (sp_v 4 (pv 4)))) (SE.pk se_int)))
      (ss_one (ss_if (st_v (se_call hK G_Lis_at_most mon_Lis_at_most hr (by rfl) (sa_cons (SE.fz (se_v 6 (pv 6))) (sa_cons (SE.fz (se_v 0 (pv 0))) (sa_cons (SE.fz (se_v 1 (pv 1))) (sa_cons (SE.fz (se_v 2 (pv 2))) sa_nil)))))) (ss_one (ss_set (i := 3) nd rfl (by first | exact Or.inl rfl | exact Or.inr rfl) (se_v 6 (pv 6)))) (ss_one (ss_set (i := 4) nd rfl (by first | exact Or.inl rfl | exact Or.inr rfl) (se_v 6 (pv 6)))))))))
      (ss_one (ss_retV 3 (pv 3))))))) hw_Lpart

theorem sc_ConicInit : FnScope ["self", "what"] ["self", "what"] (defScope s_ConicInit) := ⟨rfl, rfl, rfl, by decide +kernel, rfl, by decide +kernel, by decide +kernel⟩
theorem ok_ConicInit {f : Addr} {fd : FuncData} (F : FunD K "__init__" "ConicError.__init__" (defArgs s_ConicInit) (defBody s_ConicInit) (defScope s_ConicInit) [.non] [] f fd) : FnOk P w K mg base CX0 1 f fd ["self", "what"] (spInit K) := by
  refine F.ok sc_ConicInit (fun vs H Q E h => by obtain ⟨a, C, v, rfl, _⟩ := h; rfl) (fun cdv A outer s H vs Q E hr h => ?_)
  obtain ⟨a, C, v, rfl, T, hno, ha, q⟩ := h
  refine ⟨_, pss_one (ps_ost (pv 0) (pv 1)), ?_⟩
  exact ⟨v, rfl, .ref a, rfl, a, C, rfl, T, hno, .inl ⟨ha, q⟩⟩
theorem b_ConicInit {f : Addr} {fd : FuncData} (F : FunD K "__init__" "ConicError.__init__" (defArgs s_ConicInit) (defBody s_ConicInit) (defScope s_ConicInit) [.non] [] f fd) : Binds K fd ["self", "what"] [] := by
  obtain ⟨ds, h1, h2⟩ := F.binds1 (ps := ["self", "what"]) 2 1 (List.cons_ne_nil _ _) rfl (fun T kV doc pm an cdv ct us its hl hi => match us, its, hl, hi with | [_, _], [_], _, _ => ⟨_, rfl, rfl⟩)
  cases h1
  exact h2
def spX (C : Addr) : Sp := fun vs H _ E => ∃ (p y : Int) (d : Nat), vs = [.int p, .int y, .int (d : Int)] ∧ (Sm 1000 p ∧ Sm 1000 y ∧ d ≤ 10000) ∧ (IsSq (d : Int) ∨ y = 0 ∨ ¬ y ∣ (d : Int) - p * p) ∧ outX C (.int y) H E
theorem ok_expandX {k : Nat} {f fI C : Addr} {fd fdI : FuncData} (F : Fun K "expand" "expand" s_expand f fd) (B : BfC K C fI) (gC : mg "BadForm" = some (.ref C)) (FI : FnOk P w K mg base CX0 1 fI fdI ["self", "what"] (spInit K)) (bI : Binds K fdI ["self", "what"] []) (G_is_square : FnIn P w K mg base (k + 2) "is_square" sp_is_square) : FnOk P w K mg base (L2.CX P w) (k + 3) f fd ["p", "q", "d"] (spX C) := by
  refine F.okX sc_expand (fun vs H Q E h => by obtain ⟨p, y, d, rfl, _⟩ := h; rfl) (fun cdv A outer s H vs Q E hr h => ?_)
  obtain ⟨p, y, d, rfl, ⟨sp, sy, hd⟩, bad, e⟩ := h
  obtain ⟨c, hc⟩ : ∃ c : DL.C, c = (⟨K, ⟨none, fun _ => none⟩, H, fun _ => False⟩ : DL.C) := ⟨_, rfl⟩
  have hK : c.K = K := by rw [hc]
  have nd := sc_expand.nd
  refine ⟨_, pss_cons (ps_if (PT.nox (st_w (c := c) (sw_or (st_v (se_call hK G_is_square mon_is_square hr (by rfl) (sa_cons (SE.fz (se_v 2 (pv 2))) sa_nil))) (sw_or (st_eq hK (hu_room hr) (sp_v 1 (pv 1)) (SE.pk se_int)) (sw_or1 (st_ne hK (hu_room hr) (SE.pk (se_mod (SE.pk (se_sub (sp_v 2 (pv 2)) (SE.pk (se_mul (sp_v 0 (pv 0)) (sp_v 0 (pv 0)))))) (sp_v 1 (pv 1)))) (SE.pk se_int)))))).run)
    (pss_one (ps_raise rfl (takes_of rfl rfl rfl rfl) (pmk_oex B.o B.iC B.tI FI (hr.mono (by omega)) bI .nil pass0 (by rfl) gC (by exact (pa_cons (pv 1) pa_nil))))) pss_nil) pss_out, ?_⟩
  subst hc
  have r0 : Reps K (⟨none, fun _ => none⟩ : Wd) [.int p, .int y, .int (d : Int)] [.int p, .int y, .int (d : Int)] := .cons (Rep.int_iff.mpr rfl) (.cons (Rep.int_iff.mpr rfl) (.cons (Rep.int_iff.mpr rfl) (Reps.nil_iff.mpr rfl)))
  refine ⟨⟨none, fun _ => none⟩, start 9 [.int p, .int y, .int (d : Int)], none, ok_start (N := N_expand) (show 3 ≤ 9 by decide) (fun b o h => nomatch h) (.inl ⟨rfl, rfl⟩) r0, ?_⟩
  have fin : ∀ (ω' : Wd) (H' : Hp), Stp (⟨none, fun _ => none⟩ : Wd) H ω' H' → ∀ dd, H' dd = none → E (.ref C) (some dd) (upd H' dd (.xd [(("what" : Str), .int y)])) := fun ω' H' st dd h => e H' dd (fun b o hb => st.fr b o hb (fun z => nomatch z)) h
  have rd : ∀ (v : Bool) (ω' : Wd) (H' : Hp), Stp (⟨none, fun _ => none⟩ : Wd) H ω' H' → v = true → ∀ {α : Prop}, α → (tMkO C (spInit K) [] (tCons (tVar 1) tNil) (L2.start N_expand [.int p, .int y, .int (d : Int)]) H' fun cls d H' => E cls d H') := fun v ω' H' st hv {α} _ => by
    refine ⟨.int y, rfl, (show 1 ≤ 1000 by decide), fun a ha => ?_⟩
    exact mk_read B ha (fin ω' H' st)
  have hd2 : (d : Int) < 2 ^ 13000 := Int.lt_of_lt_of_le (show (d : Int) < 10001 by omega) (by decide +kernel)
  have sd : Sm 1000 (d : Int) := Nat.lt_of_le_of_lt (show (d : Int).natAbs ≤ 10000 by omega) (by decide +kernel)
  refine cl_is_square (n := (d : Int)) hd2 ?_
  by_cases s1 : IsSq (d : Int)
  · refine ifB (isSqB_true s1) ?_
    intro v ω' H' st ok hv
    subst hv
    exact (if_pos rfl).mpr (rd true ω' H' st rfl trivial)
  · refine ifBF (isSqB_false s1) ?_
    refine if2 (fun h => ?_) (fun h => ?_)
    · intro v ω' H' st ok hv
      subst hv
      exact (if_pos rfl).mpr (rd true ω' H' st rfl trivial)
    · have nd : ¬ y ∣ (d : Int) - p * p := (bad.resolve_left s1).resolve_left h
      refine ⟨q1 sp sp, h, ?_⟩
      intro v ω' H' st ok hv
      have e2 : (!decide (((d : Int) - p * p).fmod y = 0)) = true := by
        rw [decide_eq_false (fun z => nd (Int.dvd_of_fmod_eq_zero z))]; rfl
      subst hv
      exact (if_pos e2).mpr (rd true ω' H' st rfl trivial)
abbrev N_Lrefused : List Str := ["_law_p", "_law_q", "_law_d", "e"]
theorem sc_Lrefused : FnScope N_Lrefused ["_law_p", "_law_q", "_law_d"] (defScope s_Lrefused) := ⟨rfl, rfl, rfl, by decide +kernel, rfl, by decide +kernel, by decide +kernel⟩
theorem ok_Lrefused {k : Nat} {f fI fE C B T : Addr} {fd fdE : FuncData} (F : Fun K "_law_refused" "_law_refused" s_Lrefused f fd) (FX : FnOk P w K mg base (L2.CX P w) (k + 3) fE fdE ["p", "q", "d"] (spX C)) (gE : mg "expand" = some (.ref fE)) (kE : PySem.W.keepIn K (.ref fE) = true) (bE : Binds K fdE ["p", "q", "d"] [])
    (A : BfAll K C B T fI) (gC : mg "BadForm" = some (.ref C)) (gB : mg "ConicError" = some (.ref B)) (gT : mg "BadText" = some (.ref T)) (m_isinstance : mg "isinstance" = none) : FnOk P w K mg base CX0 (k + 4) f fd ["_law_p", "_law_q", "_law_d"] (spD K sp_Lrefused) := by
  refine F.ok sc_Lrefused (fun vs H Q E h => ?_) (fun cdv A2 outer s H vs Q E hr h => ?_)
  · obtain ⟨ω, ds, tk, _, _, r, h⟩ := h
    rw [r.length]
    exact len_Lrefused _ _ _ h
  · obtain ⟨ω, ds, tk, sub, st, r, h⟩ := h
    unfold sp_Lrefused at h
    obtain ⟨p, y, d, rfl, sp, sy, hd, bad, q⟩ := h
    obtain ⟨v0, vr, rfl, b1, b2⟩ := Reps.cons_iff.mp r
    obtain ⟨v1, vr, rfl, b3, b4⟩ := Reps.cons_iff.mp b2
    obtain ⟨v2, vr, rfl, b5, b6⟩ := Reps.cons_iff.mp b4
    rw [Reps.nil_iff] at b6; subst b6
    rw [Rep.int_iff] at b1 b3 b5; subst b1 b3 b5
    have nd := sc_Lrefused.nd
    refine ⟨_, pss_cons (ps_try_as (i := 3) (tb := fun W => tDrop (tCallS (spX C) (L2.WE W) (tCons (tVar 0) (tCons (tVar 1) (tCons (tVar 2) tNil))))) (ts := fun a cls d => tSui C a cls d 3 1) (Wout := fun _ _ _ _ => False) rfl rfl nd rfl rfl ⟨rfl, by decide, .inl gB⟩ takes0
      (fun W pn xe tk _ => pss_one (ps_expr (pe_callS FX hr rfl gE kE bE (fun σ => passAt tk σ) (by exact (pa_cons (pv 0) (pa_cons (pv 1) (pa_cons (pv 2) pa_nil)))))))
      (fun a oe cls d pn hz hf => pss_one (ps_sui (i := 3) (j := 1) A gC gT m_isinstance hz hf (fun dd ec ed => by
        subst ec ed
        refine ⟨_, ps_ret (pe_and (pe_callB (call_isX A.b.e hz hf) (by rfl) m_isinstance PyProof.Rows.boot_isinstance (pa_cons (pv 3) (pa_cons (pe_glob (v := .ref C) rfl gC rfl) pa_nil)))
          (pe_and (pe_not (pe_callB (call_isX A.b.e hz hf) (by rfl) m_isinstance PyProof.Rows.boot_isinstance (pa_cons (pv 3) (pa_cons (pe_glob (v := .ref T) rfl gT rfl) pa_nil))))
          (pe_one (pe_cmpR op_eq (pe_what A.b hz hf (pv 3)) (pv 1) (nomark _))))), fun D σ H y h1 h2 h3 h4 => ?_⟩
        refine ⟨.ref a, h1, C, .int y, true, rfl, h3, A.k1, true, rfl, (if_pos rfl).mpr ?_⟩
        refine ⟨.ref a, h1, T, .int y, false, rfl, h3, A.k2, false, rfl, true, rfl, (if_pos rfl).mpr ?_⟩
        refine ⟨.ref a, h1, rfl, .int y, h3, .int y, h2, rfl, ?_⟩
        rw [decide_eq_true rfl]
        exact h4)))) (pss_one ps_never), ?_⟩
    refine ⟨.int p, rfl, .int y, rfl, .int (d : Int), rfl, p, y, d, rfl, ⟨sp, sy, hd⟩, bad, fun H' dd hk hn => ?_⟩
    refine ⟨true, A.te, fun _ a ha => ?_, fun z => nomatch z⟩
    refine ⟨rfl, dd, y, rfl, rfl, rfl, upd_same, ?_⟩
    exact q _ _ _ (ret_true sub st fun b o h => by
      have h2 := hk b o h
      rw [upd_ne (fun z => by rw [z, hn] at h2; cases h2)]
      exact h2)

theorem sc_law_v5 : FnScope N_law_v5 ["_law_script"] (defScope s_law_v5) := ⟨rfl, rfl, rfl, by decide +kernel, rfl, by decide +kernel, by decide +kernel⟩
theorem ok_law_v5 {k : Nat} {f : Addr} {fd : FuncData} (F : Fun K "law" "law" s_law_v5 f fd) (m_int : mg "int" = none) (m_abs : mg "abs" = none) (m_min : mg "min" = none) (m_range : mg "range" = none) (m_len : mg "len" = none) (m_tuple : mg "tuple" = none) (G_Lstate : FnIn P w K mg base k "_law_state" sp_Lstate) (G_Lnext : FnIn P w K mg base k "_law_next" sp_Lnext) (G_Lwide : FnIn P w K mg base k "_law_wide" sp_Lwide) (G_Lroot : FnIn P w K mg base k "_law_root" sp_Lroot) (G_Lrefused : FnIn P w K mg base k "_law_refused" sp_Lrefused) (G_Lpart : FnIn P w K mg base k "_law_part" sp_Lpart) (G_expand : FnIn P w K mg base k "expand" sp_expand) (G_part_at : FnIn P w K mg base k "part_at" sp_part_at) : FnOk P w K mg base CX0 (k + 1) f fd ["_law_script"] (spD K sp_law) :=
  fn_ok F sc_law_v5 len_law (fun cdv A outer s H E c hK hr => by
    unfold c_law_v5
    have nd := sc_law_v5.nd
    exact (ss_cons (ss_set (i := 1) nd rfl (by first | exact Or.inl rfl | exact Or.inr rfl) (se_call hK G_Lstate mon_Lstate hr (by rfl) (sa_cons (SE.fz (se_v 0 (pv 0))) sa_nil)))
      (ss_cons (ss_set (i := 2) nd rfl (by first | exact Or.inl rfl | exact Or.inr rfl) (se_add hK (SE.pk (se_ix hK (SE.pk (se_lst (sa_cons (SE.fz se_int) (sa_cons (SE.fz se_int) sa_nil)))) (SE.pk (se_toInt (by rfl) m_int (SE.pk (se_eq hK (hu_room hr) (SE.pk (se_call hK G_Lnext mon_Lnext hr (by rfl) (sa_cons (SE.fz (se_v 1 (pv 1))) (sa_cons (SE.fz se_int) sa_nil)))) (SE.pk se_int))))) (fun _ _ => rfl))) (SE.pk (se_call hK G_Lnext mon_Lnext hr (by rfl) (sa_cons (SE.fz (se_v 1 (pv 1))) (sa_cons (SE.fz (se_ix hK (SE.pk (se_lst (sa_cons (SE.fz se_int) (sa_cons (SE.fz se_int) (sa_cons (SE.fz se_int) sa_nil))))) (SE.pk (se_call hK G_Lnext mon_Lnext hr (by rfl) (sa_cons (SE.fz (se_v 1 (pv 1))) (sa_cons (SE.fz se_int) sa_nil)))) (fun _ _ => rfl))) sa_nil))))))
      (ss_cons (ss_set (i := 3) nd rfl (by first | exact Or.inl rfl | exact Or.inr rfl) (se_ix hK (SE.pk (se_lst (sa_cons (SE.fz (se_sub (SE.pk (se_call hK G_Lnext mon_Lnext hr (by rfl) (sa_cons (SE.fz (se_v 1 (pv 1))) (sa_cons (SE.fz se_int) sa_nil)))) (SE.pk se_int))) (sa_cons (SE.fz (se_sub (SE.pk (se_call hK G_Lwide mon_Lwide hr (by rfl) (sa_cons (SE.fz (se_v 1 (pv 1))) (sa_cons (SE.fz (se_pow (SE.pk se_int) (SE.pk se_int))) sa_nil)))) (SE.pk se_int))) sa_nil)))) (SE.pk (se_toInt (by rfl) m_int (SE.pk (se_eq hK (hu_room hr) (SE.pk (se_call hK G_Lnext mon_Lnext hr (by rfl) (sa_cons (SE.fz (se_v 1 (pv 1))) (sa_cons (SE.fz se_int) sa_nil)))) (SE.pk se_int))))) (fun _ _ => rfl)))
      (ss_cons (ss_set (i := 4) nd rfl (by first | exact Or.inl rfl | exact Or.inr rfl) (se_call hK G_Lroot mon_Lroot hr (by rfl) (sa_cons (SE.fz (se_v 2 (pv 2))) sa_nil)))
      (ss_cons (ss_set (i := 5) nd rfl (by first | exact Or.inl rfl | exact Or.inr rfl) (se_eq hK (hu_room hr) (SE.pk (se_mul (sp_v 4 (pv 4)) (sp_v 4 (pv 4)))) (sp_v 2 (pv 2))))
      (ss_cons (ss_set (i := 6) nd rfl (by first | exact Or.inl rfl | exact Or.inr rfl) (se_abs (by rfl) m_abs (SE.pk (se_sub (sp_v 2 (pv 2)) (SE.pk (se_mul (sp_v 3 (pv 3)) (sp_v 3 (pv 3))))))))
      (ss_cons (ss_setLc (i := 7) s rfl nd rfl rfl (sw_true rfl rfl rfl (by decide +kernel)) (si_r2 (by rfl) m_range (SE.pk se_int) (SE.pk (se_add hK (SE.pk (se_min1 hK (hu_room hr) rfl (by rfl) m_min (SE.pk (se_lst (sa_cons (SE.fz (se_v 6 (pv 6))) (sa_cons (SE.fz se_int) sa_nil)))))) (SE.pk se_int)))) (own := [("_law_q", 8)]) ⟨(blkOk_by (N := N_law_v5) (show blkC N_law_v5 (defScope s_law_v5) _ _ = true by decide +kernel)), (fun c' hK' s' H' C' cl' fp' => (sg_n (i := 8) nd rfl (by first | exact Or.inl rfl | exact Or.inr rfl))), (fun c' hK' s' H' C' cl' fp' => (sts_one (st_eq (hK'.trans hK) (hu_room hr) (SE.pk (se_mod (sp_v 6 (pv 6)) (sp_v 8 (pv 8)))) (SE.pk se_int)))), (fun c' hK' s' H' C' cl' fp' => (se_v 8 (pv 8))), by decide⟩)
      (ss_cons (ss_set (i := 8) nd rfl (by first | exact Or.inl rfl | exact Or.inr rfl) (se_ix hK (SE.pk (se_lst (sa_cons (SE.fz (se_neg (SE.pk se_int))) (sa_cons (SE.fz se_int) sa_nil)))) (SE.pk (se_call hK G_Lnext mon_Lnext hr (by rfl) (sa_cons (SE.fz (se_v 1 (pv 1))) (sa_cons (SE.fz se_int) sa_nil)))) (fun _ _ => rfl)))
      (ss_cons (ss_if (st_ne hK (hu_room hr) (sp_v 7 (pv 7)) (SE.pk (se_lst sa_nil))) (ss_one (ss_set (i := 8) nd rfl (by first | exact Or.inl rfl | exact Or.inr rfl) (se_mul (sp_v 8 (pv 8)) (SE.pk (se_ix hK (sp_v 7 (pv 7)) (SE.pk (se_call hK G_Lnext mon_Lnext hr (by rfl) (sa_cons (SE.fz (se_v 1 (pv 1))) (sa_cons (SE.fz (se_len hK (by rfl) m_len (sp_v 7 (pv 7)))) sa_nil)))) (fun _ _ => rfl)))))) ss_nil)
      (ss_cons (ss_if (st_eq hK (hu_room hr) (SE.pk (se_call hK G_Lnext mon_Lnext hr (by rfl) (sa_cons (SE.fz (se_v 1 (pv 1))) (sa_cons (SE.fz se_int) sa_nil)))) (SE.pk se_int)) (ss_one (ss_set (i := 8) nd rfl (by first | exact Or.inl rfl | exact Or.inr rfl) (se_sub (SE.pk (se_call hK G_Lnext mon_Lnext hr (by rfl) (sa_cons (SE.fz (se_v 1 (pv 1))) (sa_cons (SE.fz se_int) sa_nil)))) (SE.pk se_int)))) ss_nil)
      (ss_cons (ss_if (st_w (sw_or (st_v (se_v 5 (pv 5))) (sw_or (st_eq hK (hu_room hr) (sp_v 8 (pv 8)) (SE.pk se_int)) (sw_or1 (st_ne hK (hu_room hr) (SE.pk (se_mod (SE.pk (se_sub (sp_v 2 (pv 2)) (SE.pk (se_mul (sp_v 3 (pv 3)) (sp_v 3 (pv 3)))))) (sp_v 8 (pv 8)))) (SE.pk se_int)))))) (ss_one (ss_ret (se_call hK G_Lrefused mon_Lrefused hr (by rfl) (sa_cons (SE.fz (se_v 3 (pv 3))) (sa_cons (SE.fz (se_v 8 (pv 8))) (sa_cons (SE.fz (se_v 2 (pv 2))) sa_nil)))))) ss_nil)
      (ss_cons (ss_set (i := 9) nd rfl (by first | exact Or.inl rfl | exact Or.inr rfl) se_dnew)
      (ss_cons (ss_set (i := 10) nd rfl (by first | exact Or.inl rfl | exact Or.inr rfl) (se_lst sa_nil))
      (ss_cons (ss_set (i := 11) nd rfl (by first | exact Or.inl rfl | exact Or.inr rfl) (se_tup (sa_cons (SE.fz (se_v 3 (pv 3))) (sa_cons (SE.fz (se_v 8 (pv 8))) sa_nil))))
      (ss_cons (ss_for PassesOwn.never rfl (si_r1 (by rfl) m_range (SE.pk se_int)) (sg_n (i := 12) nd rfl (by first | exact Or.inl rfl | exact Or.inr rfl)) (ss_cons (ss_if (st_din 9 (hu_of hr) hK (pv 9) (SE.fz (se_v 11 (pv 11)))) (ss_one ss_brk) ss_nil)
      (ss_cons (ss_dset 9 (hu_of hr) hK (pv 9) (SE.fz (se_v 11 (pv 11))) (SE.fz (se_len hK (by rfl) m_len (sp_v 10 (pv 10)))))
      (ss_cons (ss_set (i := 16) nd rfl (by first | exact Or.inl rfl | exact Or.inr rfl) (se_call hK G_Lpart mon_Lpart hr (by rfl) (sa_cons (SE.fz (se_ix hK (sp_v 11 (pv 11)) (SE.pk se_int) (fun _ _ => rfl))) (sa_cons (SE.fz (se_ix hK (sp_v 11 (pv 11)) (SE.pk se_int) (fun _ _ => rfl))) (sa_cons (SE.fz (se_v 2 (pv 2))) sa_nil)))))
      (ss_cons (ss_app 10 (pv 10) (SE.fz (se_v 16 (pv 16))))
      (ss_cons (ss_set (i := 17) nd rfl (by first | exact Or.inl rfl | exact Or.inr rfl) (se_sub (SE.pk (se_mul (sp_v 16 (pv 16)) (SE.pk (se_ix hK (sp_v 11 (pv 11)) (SE.pk se_int) (fun _ _ => rfl))))) (SE.pk (se_ix hK (sp_v 11 (pv 11)) (SE.pk se_int) (fun _ _ => rfl)))))
      (ss_one (ss_set (i := 11) nd rfl (by first | exact Or.inl rfl | exact Or.inr rfl) (se_tup (sa_cons (SE.fz (se_v 17 (pv 17))) (sa_cons (SE.fz (se_div (SE.pk (se_sub (sp_v 2 (pv 2)) (SE.pk (se_mul (sp_v 17 (pv 17)) (sp_v 17 (pv 17)))))) (SE.pk (se_ix hK (sp_v 11 (pv 11)) (SE.pk se_int) (fun _ _ => rfl))))) sa_nil)))))))))))
      (ss_cons (ss_set (i := 13) nd rfl (by first | exact Or.inl rfl | exact Or.inr rfl) (se_dat 9 (hu_of hr) hK (pv 9) (SE.fz (se_v 11 (pv 11))) (fun _ _ => rfl)))
      (ss_cons (ss_set (i := 14) nd rfl (by first | exact Or.inl rfl | exact Or.inr rfl) (se_call hK G_expand mon_expand hr (by rfl) (sa_cons (SE.fz (se_v 3 (pv 3))) (sa_cons (SE.fz (se_v 8 (pv 8))) (sa_cons (SE.fz (se_v 2 (pv 2))) sa_nil)))))
      (ss_cons (ss_if (st_ne hK (hu_room hr) (sp_v 14 (pv 14)) (SE.pk (se_tup (sa_cons (SE.fz (se_tuple hK (by rfl) m_tuple (SE.pk (se_sl hK (sp_v 10 (pv 10)) so_none (so_some (sp_v 13 (pv 13))))))) (sa_cons (SE.fz (se_tuple hK (by rfl) m_tuple (SE.pk (se_sl hK (sp_v 10 (pv 10)) (so_some (sp_v 13 (pv 13))) so_none)))) sa_nil))))) (ss_one (ss_ret se_bl)) ss_nil)
      (ss_cons (ss_set (i := 12) nd rfl (by first | exact Or.inl rfl | exact Or.inr rfl) (se_call hK G_Lnext mon_Lnext hr (by rfl) (sa_cons (SE.fz (se_v 1 (pv 1))) (sa_cons (SE.fz se_int) sa_nil))))
      (ss_cons (ss_set (i := 15) nd rfl (by first | exact Or.inl rfl | exact Or.inr rfl) (se_ix hK (SE.pk (se_add hK (sp_v 10 (pv 10)) (SE.pk (se_repK (k := 60) (se_sl hK (sp_v 10 (pv 10)) (so_some (sp_v 13 (pv 13))) so_none))))) (sp_v 12 (pv 12)) (fun _ _ => rfl)))
      (ss_one (ss_ret (se_eq hK (hu_room hr) (SE.pk (se_call hK G_part_at mon_part_at hr (by rfl) (sa_cons (SE.fz (se_v 14 (pv 14))) (sa_cons (SE.fz (se_v 12 (pv 12))) sa_nil)))) (sp_v 15 (pv 15)))))))))))))))))))))))))) hw_law_v5

end
theorem Fun.ofD {K : PySem.W.Frag} {x q : Str} {st : Stmt} {f : Addr} {fd : FuncData} (F : FunD K x q (defArgs st) (defBody st) (defScope st) [] [] f fd) : Fun K x q st f fd := by
  obtain ⟨oc, od, dV, kV, doc, pm, an, cdv, ct, osl, e, lk, hcd, hD, hK⟩ := F.ex
  rcases hD with ⟨_, rfl⟩ | ⟨z, _⟩
  · exact ⟨⟨oc, od, kV, doc, pm, an, cdv, ct, osl, e, lk, hcd⟩, F.kp⟩
  · exact absurd rfl z
theorem hdFacts {P : Program} {w : World} {K : PySem.W.Frag} {h : Heap} {mg : Str → Option Value} {f : Addr} (X : K.In h) (G : h.Ns mainGlobals mg) (hfa : mg ("law" : Str) = some (.ref f)) (cx : hdEx K = [true, true]) (c : He.SaysD hdFa hdFn K) :
    ∃ fd : FuncData, (∀ (s : Shared) (v : Value), BindsTo s fd ⟨[v], []⟩ [("_law_script", v)]) ∧ ∀ base : Heap, K.In base → base.Ns mainGlobals mg → FnOk P w K mg base CX0 5 f fd ["_law_script"] (spD K sp_law) := by
  unfold hdEx at cx
  simp only [List.cons.injEq, and_true] at cx
  obtain ⟨x_0, x_1⟩ := cx
  have m_isqrt : mg "isqrt" = some (.builtin "math.isqrt") := PySem.W.mg_of X G (of_decide_eq_true x_0)
  have m_abs : mg "abs" = none := He.free_ok X G (c.fact 17 (f := .free "abs") rfl)
  have m_range : mg "range" = none := He.free_ok X G (c.fact 18 (f := .free "range") rfl)
  have m_int : mg "int" = none := He.free_ok X G (c.fact 19 (f := .free "int") rfl)
  have m_len : mg "len" = none := He.free_ok X G (c.fact 20 (f := .free "len") rfl)
  have m_tuple : mg "tuple" = none := He.free_ok X G (c.fact 21 (f := .free "tuple") rfl)
  have m_isinstance : mg "isinstance" = none := He.free_ok X G (c.fact 22 (f := .free "isinstance") rfl)
  have m_min : mg "min" = none := He.free_ok X G (c.fact 23 (f := .free "min") rfl)
  obtain ⟨fd_law_v5, FD_law_v5⟩ := c.def_ 16 (d := dD_law_v5) rfl
  have F_law_v5 : Fun K "law" "law" s_law_v5 (He.ga K "law") fd_law_v5 := Fun.ofD FD_law_v5
  have a_law_v5 : mg "law" = some (.ref (He.ga K "law")) := He.glo_ok X G (c.fact 16 (f := .glo "law") rfl)
  have e := hfa.symm.trans a_law_v5
  cases e
  refine ⟨fd_law_v5, fun s v => FunD.bindsA (ps := ["_law_script"]) FD_law_v5 (fun _ _ _ _ _ _ us hl => match us, hl with | [_], _ => rfl) s [v] rfl, fun base _ _ => ?_⟩
  obtain ⟨fd_Lnumbers, FD_Lnumbers⟩ := c.def_ 0 (d := dD_Lnumbers) rfl
  have F_Lnumbers : Fun K "_law_numbers" "_law_numbers" s_Lnumbers (He.ga K "_law_numbers") fd_Lnumbers := Fun.ofD FD_Lnumbers
  have a_Lnumbers : mg "_law_numbers" = some (.ref (He.ga K "_law_numbers")) := He.glo_ok X G (c.fact 0 (f := .glo "_law_numbers") rfl)
  have b_Lnumbers := F_Lnumbers.binds (ps := ["_law_cell_here", "_law_many"]) fun _ _ _ _ _ _ us hl => match us, hl with | [_, _], _ => rfl
  have I_Lnumbers : FnIn P w K mg base 1 "_law_numbers" sp_Lnumbers := fn_in F_Lnumbers (ok_Lnumbers (P := P) (w := w) (base := base) (k := 0) F_Lnumbers m_abs m_range m_int) a_Lnumbers b_Lnumbers
  obtain ⟨fd_Lcell, FD_Lcell⟩ := c.def_ 1 (d := dD_Lcell) rfl
  have F_Lcell : Fun K "_law_cell" "_law_cell" s_Lcell (He.ga K "_law_cell") fd_Lcell := Fun.ofD FD_Lcell
  have a_Lcell : mg "_law_cell" = some (.ref (He.ga K "_law_cell")) := He.glo_ok X G (c.fact 1 (f := .glo "_law_cell") rfl)
  have b_Lcell := F_Lcell.binds (ps := ["_law_script", "_law_k"]) fun _ _ _ _ _ _ us hl => match us, hl with | [_, _], _ => rfl
  have I_Lcell : FnIn P w K mg base 1 "_law_cell" sp_Lcell := fn_in F_Lcell (ok_Lcell (P := P) (w := w) (base := base) (k := 0) F_Lcell m_len) a_Lcell b_Lcell
  obtain ⟨fd_Lstate, FD_Lstate⟩ := c.def_ 2 (d := dD_Lstate) rfl
  have F_Lstate : Fun K "_law_state" "_law_state" s_Lstate (He.ga K "_law_state") fd_Lstate := Fun.ofD FD_Lstate
  have a_Lstate : mg "_law_state" = some (.ref (He.ga K "_law_state")) := He.glo_ok X G (c.fact 2 (f := .glo "_law_state") rfl)
  have b_Lstate := F_Lstate.binds (ps := ["_law_script"]) fun _ _ _ _ _ _ us hl => match us, hl with | [_], _ => rfl
  have I_Lstate : FnIn P w K mg base 2 "_law_state" sp_Lstate := fn_in F_Lstate ((ok_Lstate0 (P := P) (w := w) (base := base) (k := 1) F_Lstate m_range m_abs (I_Lnumbers.mono (by decide)) (I_Lcell.mono (by decide))).imp imp_Lstate) a_Lstate b_Lstate
  obtain ⟨fd_Lnext, FD_Lnext⟩ := c.def_ 3 (d := dD_Lnext) rfl
  have F_Lnext : Fun K "_law_next" "_law_next" s_Lnext (He.ga K "_law_next") fd_Lnext := Fun.ofD FD_Lnext
  have a_Lnext : mg "_law_next" = some (.ref (He.ga K "_law_next")) := He.glo_ok X G (c.fact 3 (f := .glo "_law_next") rfl)
  have b_Lnext := F_Lnext.binds (ps := ["_law_state_here", "_law_many"]) fun _ _ _ _ _ _ us hl => match us, hl with | [_, _], _ => rfl
  have I_Lnext : FnIn P w K mg base 1 "_law_next" sp_Lnext := fn_in F_Lnext (ok_Lnext (P := P) (w := w) (base := base) (k := 0) F_Lnext m_len m_int) a_Lnext b_Lnext
  obtain ⟨fd_Lwide, FD_Lwide⟩ := c.def_ 4 (d := dD_Lwide) rfl
  have F_Lwide : Fun K "_law_wide" "_law_wide" s_Lwide (He.ga K "_law_wide") fd_Lwide := Fun.ofD FD_Lwide
  have a_Lwide : mg "_law_wide" = some (.ref (He.ga K "_law_wide")) := He.glo_ok X G (c.fact 4 (f := .glo "_law_wide") rfl)
  have b_Lwide := F_Lwide.binds (ps := ["_law_state_here", "_law_many"]) fun _ _ _ _ _ _ us hl => match us, hl with | [_, _], _ => rfl
  have I_Lwide : FnIn P w K mg base 2 "_law_wide" sp_Lwide := fn_in F_Lwide (ok_Lwide (P := P) (w := w) (base := base) (k := 1) F_Lwide m_range (I_Lnext.mono (by decide))) a_Lwide b_Lwide
  obtain ⟨fd_Lroot, FD_Lroot⟩ := c.def_ 5 (d := dD_Lroot) rfl
  have F_Lroot : Fun K "_law_root" "_law_root" s_Lroot (He.ga K "_law_root") fd_Lroot := Fun.ofD FD_Lroot
  have a_Lroot : mg "_law_root" = some (.ref (He.ga K "_law_root")) := He.glo_ok X G (c.fact 5 (f := .glo "_law_root") rfl)
  have b_Lroot := F_Lroot.binds (ps := ["_law_n"]) fun _ _ _ _ _ _ us hl => match us, hl with | [_], _ => rfl
  have I_Lroot : FnIn P w K mg base 1 "_law_root" sp_Lroot := fn_in F_Lroot (ok_Lroot (P := P) (w := w) (base := base) (k := 0) F_Lroot m_range) a_Lroot b_Lroot
  obtain ⟨fd_is_square, FD_is_square⟩ := c.def_ 6 (d := dD_is_square) rfl
  have F_is_square : Fun K "is_square" "is_square" s_is_square (He.ga K "is_square") fd_is_square := Fun.ofD FD_is_square
  have a_is_square : mg "is_square" = some (.ref (He.ga K "is_square")) := He.glo_ok X G (c.fact 6 (f := .glo "is_square") rfl)
  have b_is_square := F_is_square.binds (ps := ["n"]) fun _ _ _ _ _ _ us hl => match us, hl with | [_], _ => rfl
  have I_is_square : FnIn P w K mg base 1 "is_square" sp_is_square := fn_in F_is_square (ok_is_square (P := P) (w := w) (base := base) (k := 0) F_is_square m_isqrt) a_is_square b_is_square
  obtain ⟨fd_floor_root, FD_floor_root⟩ := c.def_ 7 (d := dD_floor_root) rfl
  have F_floor_root : Fun K "floor_root" "floor_root" s_floor_root (He.ga K "floor_root") fd_floor_root := Fun.ofD FD_floor_root
  have a_floor_root : mg "floor_root" = some (.ref (He.ga K "floor_root")) := He.glo_ok X G (c.fact 7 (f := .glo "floor_root") rfl)
  have b_floor_root := F_floor_root.binds (ps := ["n"]) fun _ _ _ _ _ _ us hl => match us, hl with | [_], _ => rfl
  have I_floor_root : FnIn P w K mg base 1 "floor_root" sp_floor_root := fn_in F_floor_root (ok_floor_root (P := P) (w := w) (base := base) (k := 0) F_floor_root m_isqrt) a_floor_root b_floor_root
  obtain ⟨fd_is_reduced_state, FD_is_reduced_state⟩ := c.def_ 8 (d := dD_is_reduced_state) rfl
  have F_is_reduced_state : Fun K "is_reduced_state" "is_reduced_state" s_is_reduced_state (He.ga K "is_reduced_state") fd_is_reduced_state := Fun.ofD FD_is_reduced_state
  have a_is_reduced_state : mg "is_reduced_state" = some (.ref (He.ga K "is_reduced_state")) := He.glo_ok X G (c.fact 8 (f := .glo "is_reduced_state") rfl)
  have b_is_reduced_state := F_is_reduced_state.binds (ps := ["state", "root"]) fun _ _ _ _ _ _ us hl => match us, hl with | [_, _], _ => rfl
  have I_is_reduced_state : FnIn P w K mg base 1 "is_reduced_state" sp_is_reduced_state := fn_in F_is_reduced_state (ok_is_reduced_state (P := P) (w := w) (base := base) (k := 0) F_is_reduced_state) a_is_reduced_state b_is_reduced_state
  obtain ⟨fd_floor_of, FD_floor_of⟩ := c.def_ 9 (d := dD_floor_of) rfl
  have F_floor_of : Fun K "floor_of" "floor_of" s_floor_of (He.ga K "floor_of") fd_floor_of := Fun.ofD FD_floor_of
  have a_floor_of : mg "floor_of" = some (.ref (He.ga K "floor_of")) := He.glo_ok X G (c.fact 9 (f := .glo "floor_of") rfl)
  have b_floor_of := F_floor_of.binds (ps := ["p", "q", "root"]) fun _ _ _ _ _ _ us hl => match us, hl with | [_, _, _], _ => rfl
  have I_floor_of : FnIn P w K mg base 1 "floor_of" sp_floor_of := fn_in F_floor_of (ok_floor_of (P := P) (w := w) (base := base) (k := 0) F_floor_of) a_floor_of b_floor_of
  obtain ⟨fd_next_state, FD_next_state⟩ := c.def_ 10 (d := dD_next_state) rfl
  have F_next_state : Fun K "next_state" "next_state" s_next_state (He.ga K "next_state") fd_next_state := Fun.ofD FD_next_state
  have a_next_state : mg "next_state" = some (.ref (He.ga K "next_state")) := He.glo_ok X G (c.fact 10 (f := .glo "next_state") rfl)
  have b_next_state := F_next_state.binds (ps := ["state", "d", "root"]) fun _ _ _ _ _ _ us hl => match us, hl with | [_, _, _], _ => rfl
  have I_next_state : FnIn P w K mg base 2 "next_state" sp_next_state := fn_in F_next_state (ok_next_state (P := P) (w := w) (base := base) (k := 1) F_next_state (I_floor_of.mono (by decide))) a_next_state b_next_state
  obtain ⟨fd_expand, FD_expand⟩ := c.def_ 11 (d := dD_expand) rfl
  have F_expand : Fun K "expand" "expand" s_expand (He.ga K "expand") fd_expand := Fun.ofD FD_expand
  have a_expand : mg "expand" = some (.ref (He.ga K "expand")) := He.glo_ok X G (c.fact 11 (f := .glo "expand") rfl)
  have b_expand := F_expand.binds (ps := ["p", "q", "d"]) fun _ _ _ _ _ _ us hl => match us, hl with | [_, _, _], _ => rfl
  have I_expand : FnIn P w K mg base 3 "expand" sp_expand := fn_in F_expand (ok_expand (P := P) (w := w) (base := base) (k := 2) F_expand m_tuple (I_is_square.mono (by decide)) (I_floor_root.mono (by decide)) (I_is_reduced_state.mono (by decide)) (I_next_state.mono (by decide))) a_expand b_expand
  obtain ⟨fd_Lrefused, FD_Lrefused⟩ := c.def_ 12 (d := dD_Lrefused) rfl
  have F_Lrefused : Fun K "_law_refused" "_law_refused" s_Lrefused (He.ga K "_law_refused") fd_Lrefused := Fun.ofD FD_Lrefused
  have a_Lrefused : mg "_law_refused" = some (.ref (He.ga K "_law_refused")) := He.glo_ok X G (c.fact 12 (f := .glo "_law_refused") rfl)
  have b_Lrefused := F_Lrefused.binds (ps := ["_law_p", "_law_q", "_law_d"]) fun _ _ _ _ _ _ us hl => match us, hl with | [_, _, _], _ => rfl
  obtain ⟨fd_CI, FD_CI⟩ := c.def_ 17 (d := dD_ConicInit) rfl
  have A_bf : BfAll K (He.ga K "BadForm") (He.ga K "ConicError") (He.ga K "BadText") (He.fAd K ("ConicError", some "__init__")) := bfB_ok x_1
  have g_BadForm : mg "BadForm" = some (.ref (He.ga K "BadForm")) := He.glo_ok X G (c.fact 24 (f := .glo "BadForm") rfl)
  have g_ConicError : mg "ConicError" = some (.ref (He.ga K "ConicError")) := He.glo_ok X G (c.fact 25 (f := .glo "ConicError") rfl)
  have g_BadText : mg "BadText" = some (.ref (He.ga K "BadText")) := He.glo_ok X G (c.fact 26 (f := .glo "BadText") rfl)
  have X_expand := ok_expandX (P := P) (w := w) (base := base) (k := 0) F_expand A_bf.b g_BadForm (ok_ConicInit FD_CI) (b_ConicInit FD_CI) (I_is_square.mono (by decide))
  have I_Lrefused : FnIn P w K mg base 4 "_law_refused" sp_Lrefused := fn_in F_Lrefused (ok_Lrefused (P := P) (w := w) (base := base) (k := 0) F_Lrefused X_expand a_expand F_expand.kp b_expand A_bf g_BadForm g_ConicError g_BadText m_isinstance) a_Lrefused b_Lrefused
  obtain ⟨fd_Lis_at_most, FD_Lis_at_most⟩ := c.def_ 13 (d := dD_Lis_at_most) rfl
  have F_Lis_at_most : Fun K "_law_is_at_most" "_law_is_at_most" s_Lis_at_most (He.ga K "_law_is_at_most") fd_Lis_at_most := Fun.ofD FD_Lis_at_most
  have a_Lis_at_most : mg "_law_is_at_most" = some (.ref (He.ga K "_law_is_at_most")) := He.glo_ok X G (c.fact 13 (f := .glo "_law_is_at_most") rfl)
  have b_Lis_at_most := F_Lis_at_most.binds (ps := ["_law_n", "_law_p", "_law_q", "_law_d"]) fun _ _ _ _ _ _ us hl => match us, hl with | [_, _, _, _], _ => rfl
  have I_Lis_at_most : FnIn P w K mg base 1 "_law_is_at_most" sp_Lis_at_most := fn_in F_Lis_at_most (ok_Lis_at_most (P := P) (w := w) (base := base) (k := 0) F_Lis_at_most) a_Lis_at_most b_Lis_at_most
  obtain ⟨fd_Lpart, FD_Lpart⟩ := c.def_ 14 (d := dD_Lpart) rfl
  have F_Lpart : Fun K "_law_part" "_law_part" s_Lpart (He.ga K "_law_part") fd_Lpart := Fun.ofD FD_Lpart
  have a_Lpart : mg "_law_part" = some (.ref (He.ga K "_law_part")) := He.glo_ok X G (c.fact 14 (f := .glo "_law_part") rfl)
  have b_Lpart := F_Lpart.binds (ps := ["_law_p", "_law_q", "_law_d"]) fun _ _ _ _ _ _ us hl => match us, hl with | [_, _, _], _ => rfl
  have I_Lpart : FnIn P w K mg base 2 "_law_part" sp_Lpart := fn_in F_Lpart (ok_Lpart (P := P) (w := w) (base := base) (k := 1) F_Lpart m_abs m_range (I_Lis_at_most.mono (by decide))) a_Lpart b_Lpart
  obtain ⟨fd_part_at, FD_part_at⟩ := c.def_ 15 (d := dD_part_at) rfl
  have F_part_at : Fun K "part_at" "part_at" s_part_at (He.ga K "part_at") fd_part_at := Fun.ofD FD_part_at
  have a_part_at : mg "part_at" = some (.ref (He.ga K "part_at")) := He.glo_ok X G (c.fact 15 (f := .glo "part_at") rfl)
  have b_part_at := F_part_at.binds (ps := ["expansion", "index"]) fun _ _ _ _ _ _ us hl => match us, hl with | [_, _], _ => rfl
  have I_part_at : FnIn P w K mg base 1 "part_at" sp_part_at := fn_in F_part_at (ok_part_at (P := P) (w := w) (base := base) (k := 0) F_part_at m_len) a_part_at b_part_at
  exact ok_law_v5 (P := P) (w := w) (base := base) (k := 4) F_law_v5 m_int m_abs m_min m_range m_len m_tuple (I_Lstate.mono (by decide)) (I_Lnext.mono (by decide)) (I_Lwide.mono (by decide)) (I_Lroot.mono (by decide)) (I_Lrefused.mono (by decide)) (I_Lpart.mono (by decide)) (I_expand.mono (by decide)) (I_part_at.mono (by decide))
end DL
open PySem PySem.W PySem.Calls PyProof.Rows
set_option maxRecDepth 100000 in
set_option maxHeartbeats 0 in
theorem PySem.Challenge.cw_wholeconic_k05_continued_fractions_holds : PySem.Challenge.rw_wholeconic_k05_continued_fractions.Holds := by
  refine DL.hdLaw fun said => ?_
  refine HandSHeadRun.head_imp (r := OpenLaw.row PySem.Challenge.rw_wholeconic_k05_continued_fractions) (q := view (OpenLaw.row PySem.Challenge.rw_wholeconic_k05_continued_fractions).prog [0, 24]) (H := DL.hdHook) (ob := DL.hdOb) (M := 6000) (loose := DL.hdLo) (d := HandSHeadRun.topDef (OpenLaw.row PySem.Challenge.rw_wholeconic_k05_continued_fractions).prog 24) (kwd := []) DL.hdOb_eq
    DL.hdRun (by kernel_rfl) (by kernel_rfl) (by kernel_rfl) (by rfl) said DL.hdOk DL.hdBare ?hw ?hc
  case hw => w_witness2
  case hc =>
    refine L2.walk_ofE (l := PySem.Challenge.rw_wholeconic_k05_continued_fractions) (n := 63) (k := 5) (x := "_law_script") (CX := L2.CX0) rfl (by decide) (by kernel_rfl) ⟨rfl, by decide, by decide⟩ ?F (fun _ _ _ _ z => z)
    intro w mg fa h Y G hmg0
    obtain ⟨K, KX, cx, c⟩ := Y
    have hmg : mg ("law" : PySem.Str) = some (.ref fa) := by
      have e : (HandSHeadRun.topDef (OpenLaw.row PySem.Challenge.rw_wholeconic_k05_continued_fractions).prog 24).name = ("law" : PySem.Str) := by kernel_rfl
      rw [← e]
      exact hmg0
    obtain ⟨fd, hb, hF⟩ := DL.hdFacts (P := (PySem.Challenge.rw_wholeconic_k05_continued_fractions).prog) (w := w) KX G hmg cx c
    exact ⟨K, fd, DL.spD K DL.sp_law, KX, hb, fun H a ns hl _ hS => DL.law_in hl hS, hF⟩
