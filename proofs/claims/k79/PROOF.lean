import PyProof.Rows.All
import Wide.All
import OpenK.AllK
import Wide.FinOn
import HandS.ForMost
import HandS.Wide
import HandS.IsInst
import HandS.Deep
import HandS.Conv
import HandS.Flow
import HandS.TupAny
import HandS.SortInts
import HandS.Small
import HandS.Codes
import HandS.TupMul
import HandS.TupLe
import HandS.Walk
import KE.GoesMore
import HandS.SetBool
import PyProof.Rows.SortShellAny
import HandS.SetFor
import HandS.Text
import HandS.OwnEq
import PySem.Challenge.RW_surelydone_k79_whole_keen_runs_told_othe
import HandS.Defaults
set_option Elab.async false
set_option linter.all false
set_option maxRecDepth 100000
set_option maxHeartbeats 4000000
-- SdA
/-! data over the abstract heap: what a value is worth, what may be written, judgements over both -/
namespace Sd
open PySem PySem.Spec PyProof.Rows L2

/-- data: raw a is a bare reference -/
inductive D where
  | non | bl (b : Bool) | int (i : Int) | str (x : Str)
  | tup (xs : List D) | lst (xs : List D)
  | ins (C : Addr) (fs : List (Str × D))
  | raw (a : Addr)
  | scr (ns : List Int)
  | ty (n : String)

/-- in the heap F (never written) the value v is worth d -/
inductive Rep (K : PySem.W.Frag) (F : Hp) : V → D → Prop
  | non : Rep K F .non .non
  | bl (b : Bool) : Rep K F (.bl b) (.bl b)
  | int (i : Int) : Rep K F (.int i) (.int i)
  | str (x : Str) : Rep K F (.str x) (.str x)
  | raw (a : Addr) : Rep K F (.ref a) (.raw a)
  | ty (n : String) : Rep K F (.ty n) (.ty n)
  | scr {a : Addr} {ns : List Int} (h : SqL K F a (ns.map V.int)) : Rep K F (.ref a) (.scr ns)
  | tup {a : Addr} {vs : List V} {ds : List D} (h : F a = some (.tup vs)) (hl : vs.length = ds.length) (hr : ∀ (i : Nat) (v : V) (d : D), vs[i]? = some v → ds[i]? = some d → Rep K F v d) : Rep K F (.ref a) (.tup ds)
  | lst {a : Addr} {vs : List V} {ds : List D} (h : F a = some (.lst vs)) (hl : vs.length = ds.length) (hr : ∀ (i : Nat) (v : V) (d : D), vs[i]? = some v → ds[i]? = some d → Rep K F v d) : Rep K F (.ref a) (.lst ds)
  | ins {a C dx : Addr} {gs : List (Str × V)} {fs : List (Str × D)} (h : F a = some (.ins C dx gs)) (g : Str → V) (h1 : ∀ f d, fs.lookup f = some d → gs.lookup f = some (g f)) (h0 : ∀ f, fs.lookup f = none → gs.lookup f = none)
      (hr : ∀ (f : Str) (d : D), fs.lookup f = some d → Rep K F (g f) d) : Rep K F (.ref a) (.ins C fs)

/-- lists of them -/
def Reps (K : PySem.W.Frag) (F : Hp) (vs : List V) (ds : List D) : Prop := vs.length = ds.length ∧ ∀ (i : Nat) (v : V) (d : D), vs[i]? = some v → ds[i]? = some d → Rep K F v d

theorem Rep.mono {K : PySem.W.Frag} {F F' : Hp} (e : Same F F') {v : V} {d : D} (h : Rep K F v d) : Rep K F' v d := by
  induction h with
  | non => exact .non
  | bl b => exact .bl b
  | int i => exact .int i
  | str x => exact .str x
  | raw a => exact .raw a
  | ty n => exact .ty n
  | scr h => exact .scr (e.seq h)
  | tup h hl _ ih => exact .tup (e _ _ h) hl ih
  | lst h hl _ ih => exact .lst (e _ _ h) hl ih
  | ins h g h1 h0 _ ih => exact .ins (e _ _ h) g h1 h0 ih
theorem Reps.mono {K : PySem.W.Frag} {F F' : Hp} (e : Same F F') {vs : List V} {ds : List D} (h : Reps K F vs ds) : Reps K F' vs ds := ⟨h.1, fun i v d a b => (h.2 i v d a b).mono e⟩
theorem Reps.nil {K : PySem.W.Frag} {F : Hp} : Reps K F [] [] := ⟨rfl, fun i v d a => by simp at a⟩
theorem Reps.cons {K : PySem.W.Frag} {F : Hp} {v : V} {d : D} {vs : List V} {ds : List D} (h : Rep K F v d) (t : Reps K F vs ds) : Reps K F (v :: vs) (d :: ds) := by
  refine ⟨by simp [t.1], fun i v' d' a b => ?_⟩
  cases i with
  | zero => simp at a b; subst a; subst b; exact h
  | succ i => exact t.2 i v' d' (by simpa using a) (by simpa using b)
theorem Reps.head {K : PySem.W.Frag} {F : Hp} {v : V} {d : D} {vs : List V} {ds : List D} (t : Reps K F (v :: vs) (d :: ds)) : Rep K F v d := t.2 0 v d rfl rfl
theorem Reps.tail {K : PySem.W.Frag} {F : Hp} {v : V} {d : D} {vs : List V} {ds : List D} (t : Reps K F (v :: vs) (d :: ds)) : Reps K F vs ds :=
  ⟨by simpa using t.1, fun i v' d' a b => t.2 (i + 1) v' d' (by simpa using a) (by simpa using b)⟩
theorem Reps.uncons {K : PySem.W.Frag} {F : Hp} {d : D} {vs : List V} {ds : List D} (t : Reps K F vs (d :: ds)) : ∃ v r, vs = v :: r ∧ Rep K F v d ∧ Reps K F r ds := by
  cases vs with
  | nil => have := t.1; simp at this
  | cons v r => exact ⟨v, r, rfl, t.head, t.tail⟩
theorem Reps.unnil {K : PySem.W.Frag} {F : Hp} {vs : List V} (t : Reps K F vs []) : vs = [] := by
  cases vs with
  | nil => rfl
  | cons v r => have := t.1; simp at this
theorem Reps.get {K : PySem.W.Frag} {F : Hp} {vs : List V} {ds : List D} (t : Reps K F vs ds) {i : Nat} {d : D} (h : ds[i]? = some d) : ∃ v, vs[i]? = some v ∧ Rep K F v d := by
  have hi : i < vs.length := by rw [t.1]; exact (List.getElem?_eq_some_iff.mp h).1
  exact ⟨vs[i], by simp [hi], t.2 i _ d (by simp [hi]) h⟩
theorem Reps.app {K : PySem.W.Frag} {F : Hp} {vs ws : List V} {ds es : List D} (a : Reps K F vs ds) (b : Reps K F ws es) : Reps K F (vs ++ ws) (ds ++ es) := by
  induction vs generalizing ds with
  | nil => cases ds with
    | nil => exact b
    | cons d r => have := a.1; simp at this
  | cons v r ih => cases ds with
    | nil => have := a.1; simp at this
    | cons d s => exact Reps.cons a.head (ih a.tail)
theorem Reps.take {K : PySem.W.Frag} {F : Hp} {vs : List V} {ds : List D} (n : Nat) (a : Reps K F vs ds) : Reps K F (vs.take n) (ds.take n) := by
  refine ⟨by simp [a.1], fun i v d h1 h2 => ?_⟩
  rw [List.getElem?_take] at h1 h2
  split at h1
  · rename_i hi
    rw [if_pos hi] at h2
    exact a.2 i v d h1 h2
  · cases h1
theorem Reps.drop {K : PySem.W.Frag} {F : Hp} {vs : List V} {ds : List D} (n : Nat) (a : Reps K F vs ds) : Reps K F (vs.drop n) (ds.drop n) := by
  refine ⟨by simp [a.1], fun i v d h1 h2 => ?_⟩
  rw [List.getElem?_drop] at h1 h2
  exact a.2 _ v d h1 h2
theorem Reps.set {K : PySem.W.Frag} {F : Hp} {vs : List V} {ds : List D} {v : V} {d : D} (n : Nat) (a : Reps K F vs ds) (h : Rep K F v d) : Reps K F (vs.set n v) (ds.set n d) := by
  refine ⟨by simp [a.1], fun i v' d' h1 h2 => ?_⟩
  rw [List.getElem?_set] at h1 h2
  split at h1
  · rename_i hi
    rw [if_pos hi] at h2
    split at h1
    · split at h2
      · cases h1; cases h2; exact h
      · cases h2
    · cases h1
  · rename_i hi
    rw [if_neg hi] at h2
    exact a.2 _ _ _ h1 h2

/-- what is written: a list, an instance, a dict with keys of ints -/
inductive OC where
  | lst (ds : List D)
  | ins (C : Addr) (fs : List (Str × D))
  | dct (g : List Int → Option D) (n : Nat)
  | obj (o : HO)
abbrev Own := Addr → Option OC
def setO (O : Own) (a : Addr) (c : OC) : Own := fun b => if b = a then some c else O b
def delO (O : Own) (a : Addr) : Own := fun b => if b = a then none else O b
theorem setO_same {O : Own} {a : Addr} {c : OC} : setO O a c a = some c := if_pos rfl
theorem setO_ne {O : Own} {a b : Addr} {c : OC} (h : b ≠ a) : setO O a c b = O b := if_neg h
theorem setO_set {O : Own} {a : Addr} {c c' : OC} : setO (setO O a c) a c' = setO O a c' := by
  funext b; unfold setO; split <;> rfl
theorem delO_same {O : Own} {a : Addr} : delO O a a = none := if_pos rfl
theorem delO_ne {O : Own} {a b : Addr} (h : b ≠ a) : delO O a b = O b := if_neg h

def HoldsO (K : PySem.W.Frag) (F H : Hp) (a : Addr) : OC → Prop
  | .lst ds => ∃ vs, H a = some (.lst vs) ∧ Reps K F vs ds
  | .ins C fs => ∃ dx gs, H a = some (.ins C dx gs) ∧ gs.map (·.1) = fs.map (·.1) ∧ ∃ g : Str → V, (∀ f d, fs.lookup f = some d → gs.lookup f = some (g f)) ∧ (∀ f, fs.lookup f = none → gs.lookup f = none) ∧ ∀ f d, fs.lookup f = some d → Rep K F (g f) d
  | .dct g n => ∃ kws, H a = some (.dT kws) ∧ kws.length ≤ n ∧ (∀ (k : List Int) (d : D), g k = some d → ∃ v, valV kws (k.map Sum.inl) = some v ∧ Rep K F v d) ∧ ∀ k : List Int, g k = none → valV kws (k.map Sum.inl) = none
  | .obj o => H a = some o ∧ Mut (some o)
theorem HoldsO.mono {K : PySem.W.Frag} {F F' H H' : Hp} {a : Addr} {c : OC} (e : Same F F') (hh : H' a = H a) (h : HoldsO K F H a c) : HoldsO K F' H' a c := by
  cases c with
  | lst ds => obtain ⟨vs, h1, h2⟩ := h; exact ⟨vs, hh.trans h1, h2.mono e⟩
  | ins C fs => obtain ⟨dx, gs, h1, hl, g, h2, h3, h4⟩ := h; exact ⟨dx, gs, hh.trans h1, hl, g, h2, h3, fun f d q => (h4 f d q).mono e⟩
  | obj o => exact ⟨hh.trans h.1, h.2⟩
  | dct g n => obtain ⟨kws, h1, h2, h3, h4⟩ := h; exact ⟨kws, hh.trans h1, h2, fun k d q => let ⟨v, a, b⟩ := h3 k d q; ⟨v, a, b.mono e⟩, h4⟩
theorem HoldsO.here {K : PySem.W.Frag} {F H : Hp} {a : Addr} {c : OC} (h : HoldsO K F H a c) : ∃ o, H a = some o ∧ Mut (some o) := by
  cases c with
  | lst ds => obtain ⟨vs, h1, _⟩ := h; exact ⟨_, h1, trivial⟩
  | ins C fs => obtain ⟨dx, gs, h1, _⟩ := h; exact ⟨_, h1, trivial⟩
  | dct g n => obtain ⟨kws, h1, _⟩ := h; exact ⟨_, h1, trivial⟩
  | obj o => exact ⟨o, h.1, h.2⟩

structure Ok (K : PySem.W.Frag) (F : Hp) (O : Own) (H : Hp) : Prop where
  ex : Same F H
  own : ∀ a c, O a = some c → F a = none ∧ HoldsO K F H a c
/-- from (F, O, H) to (F', O', H'): F grows, what is not ours stays -/
structure Stp (F : Hp) (O : Own) (H F' : Hp) (O' : Own) (H' : Hp) : Prop where
  fr : Same F F'
  kp : ∀ a o, H a = some o → O a = none → H' a = some o ∧ O' a = none ∧ F' a = F a
theorem Stp.refl {F : Hp} {O : Own} {H : Hp} : Stp F O H F O H := ⟨Same.refl F, fun a o h n => ⟨h, n, rfl⟩⟩
theorem Stp.trans {F F1 F2 : Hp} {O O1 O2 : Own} {H H1 H2 : Hp} (a : Stp F O H F1 O1 H1) (b : Stp F1 O1 H1 F2 O2 H2) : Stp F O H F2 O2 H2 :=
  ⟨a.fr.trans b.fr, fun x o h n => let ⟨h1, n1, e1⟩ := a.kp x o h n; let ⟨h2, n2, e2⟩ := b.kp x o h1 n1; ⟨h2, n2, e2.trans e1⟩⟩
theorem Ok.at {K : PySem.W.Frag} {F : Hp} {O : Own} {H : Hp} (k : Ok K F O H) {a : Addr} {c : OC} (h : O a = some c) : ∃ o, H a = some o := let ⟨o, e, _⟩ := (k.own a c h).2.here; ⟨o, e⟩
theorem Ok.fresh {K : PySem.W.Frag} {F : Hp} {O : Own} {H : Hp} (k : Ok K F O H) {p : Addr} (h : H p = none) : F p = none ∧ O p = none := by
  refine ⟨k.ex.free h, ?_⟩
  cases q : O p with
  | none => rfl
  | some c => obtain ⟨o, e⟩ := k.at q; rw [h] at e; cases e
/-- the heap grows by things that we do not follow -/
theorem Ok.grow {K : PySem.W.Frag} {F : Hp} {O : Own} {H H' : Hp} (k : Ok K F O H) (e : Same H H') : Ok K F O H' ∧ Stp F O H F O H' :=
  ⟨⟨k.ex.trans e, fun a c q => ⟨(k.own a c q).1, let ⟨o, h⟩ := k.at q; (k.own a c q).2.mono (Same.refl F) ((e a o h).trans h.symm)⟩⟩, Same.refl F, fun a o h n => ⟨e a o h, n, rfl⟩⟩
/-- a new thing that never changes -/
theorem Ok.lay {K : PySem.W.Frag} {F : Hp} {O : Own} {H : Hp} (k : Ok K F O H) {p : Addr} {o : HO} (hp : H p = none) : Ok K (upd F p o) O (upd H p o) ∧ Stp F O H (upd F p o) O (upd H p o) ∧ Same F (upd F p o) := by
  obtain ⟨fp, op⟩ := k.fresh hp
  have sF : Same F (upd F p o) := fun a u h => by rw [upd_ne (ne_of_none h fp)]; exact h
  refine ⟨⟨fun a u h => ?_, fun a c q => ?_⟩, ⟨sF, fun a u h n => ?_⟩, sF⟩
  · by_cases e : a = p
    · subst e; rw [upd_same] at h ⊢; exact h
    · rw [upd_ne e] at h ⊢; exact k.ex a u h
  · obtain ⟨u, hu⟩ := k.at q
    have e : a ≠ p := ne_of_none hu hp
    exact ⟨by rw [upd_ne e]; exact (k.own a c q).1, (k.own a c q).2.mono sF (upd_ne e)⟩
  · have e : a ≠ p := ne_of_none h hp
    exact ⟨by rw [upd_ne e]; exact h, n, upd_ne e⟩
/-- a new thing of ours -/
theorem Ok.mine {K : PySem.W.Frag} {F : Hp} {O : Own} {H : Hp} (k : Ok K F O H) {p : Addr} {o : HO} {c : OC} (hp : H p = none) (hh : HoldsO K F (upd H p o) p c) : Ok K F (setO O p c) (upd H p o) ∧ Stp F O H F (setO O p c) (upd H p o) := by
  obtain ⟨fp, op⟩ := k.fresh hp
  refine ⟨⟨fun a u h => ?_, fun a c' q => ?_⟩, ⟨Same.refl F, fun a u h n => ?_⟩⟩
  · rw [upd_ne (ne_of_none h fp)]; exact k.ex a u h
  · by_cases e : a = p
    · subst e; rw [setO_same] at q; cases q; exact ⟨fp, hh⟩
    · rw [setO_ne e] at q
      exact ⟨(k.own a c' q).1, (k.own a c' q).2.mono (Same.refl F) (upd_ne e)⟩
  · have e : a ≠ p := ne_of_none h hp
    exact ⟨by rw [upd_ne e]; exact h, by rw [setO_ne e]; exact n, rfl⟩
/-- a thing of ours is written -/
theorem Ok.wr {K : PySem.W.Frag} {F : Hp} {O : Own} {H : Hp} (k : Ok K F O H) {p : Addr} {o : HO} {c c' : OC} (hp : O p = some c) (hh : HoldsO K F (upd H p o) p c') : Ok K F (setO O p c') (upd H p o) ∧ Stp F O H F (setO O p c') (upd H p o) := by
  have fp := (k.own p c hp).1
  refine ⟨⟨fun a u h => ?_, fun a c' q => ?_⟩, ⟨Same.refl F, fun a u h n => ?_⟩⟩
  · rw [upd_ne (ne_of_none h fp)]; exact k.ex a u h
  · by_cases e : a = p
    · subst e; rw [setO_same] at q; cases q; exact ⟨fp, hh⟩
    · rw [setO_ne e] at q
      exact ⟨(k.own a c' q).1, (k.own a c' q).2.mono (Same.refl F) (upd_ne e)⟩
  · have e : a ≠ p := fun z => by subst z; rw [hp] at n; cases n
    exact ⟨by rw [upd_ne e]; exact h, by rw [setO_ne e]; exact n, rfl⟩
/-- less is ours -/
def Sub (O O' : Own) : Prop := ∀ a c, O a = some c → O' a = some c
theorem Sub.refl (O : Own) : Sub O O := fun _ _ h => h
theorem Sub.trans {O O1 O2 : Own} (a : Sub O O1) (b : Sub O1 O2) : Sub O O2 := fun x c h => b x c (a x c h)
theorem Sub.set {O O' : Own} {a : Addr} {c : OC} (s : Sub O O') (h : O a = none) : Sub O (setO O' a c) := fun b d q => by
  have : b ≠ a := fun z => by subst z; rw [h] at q; cases q
  rw [setO_ne this]; exact s b d q
theorem Sub.set2 {O O' : Own} {a : Addr} {c : OC} (s : Sub O O') : Sub (setO O a c) (setO O' a c) := fun b d q => by
  by_cases e : b = a
  · subst e; rw [setO_same] at q ⊢; exact q
  · rw [setO_ne e] at q ⊢; exact s b d q
theorem Sub.del {O O' : Own} {a : Addr} (s : Sub O O') (h : O a = none) : Sub O (delO O' a) := fun b d q => by
  have : b ≠ a := fun z => by subst z; rw [h] at q; cases q
  rw [delO_ne this]; exact s b d q
theorem Sub.delL {O : Own} {a : Addr} : Sub (delO O a) O := fun b d q => by
  by_cases e : b = a
  · subst e; rw [delO_same] at q; cases q
  · rw [delO_ne e] at q; exact q
theorem Sub.none {O O' : Own} (s : Sub O O') {a : Addr} (h : O' a = none) : O a = none := by
  cases q : O a with
  | none => rfl
  | some c => rw [s a c q] at h; cases h
theorem Ok.drop {K : PySem.W.Frag} {F : Hp} {O O' : Own} {H : Hp} (k : Ok K F O H) (s : Sub O' O) : Ok K F O' H ∧ Stp F O H F O' H :=
  ⟨⟨k.ex, fun a c q => k.own a c (s a c q)⟩, Same.refl F, fun a o h n => ⟨h, s.none n, rfl⟩⟩
/-- a list of ours is given out: it will not be written any more -/
theorem Ok.freeze {K : PySem.W.Frag} {F : Hp} {O : Own} {H : Hp} (k : Ok K F O H) {p : Addr} {ds : List D} (hp : O p = some (.lst ds)) :
    ∃ F', Ok K F' (delO O p) H ∧ Stp F O H F' (delO O p) H ∧ Rep K F' (.ref p) (.lst ds) := by
  obtain ⟨fp, vs, hv, hr⟩ := k.own p _ hp
  have sF : Same F (upd F p (.lst vs)) := fun a u h => by rw [upd_ne (ne_of_none h fp)]; exact h
  refine ⟨upd F p (.lst vs), ⟨fun a u h => ?_, fun a c q => ?_⟩, ⟨sF, fun a u h n => ?_⟩, .lst upd_same hr.1 fun i v d a b => (hr.2 i v d a b).mono sF⟩
  · by_cases e : a = p
    · subst e; rw [upd_same] at h; cases h; exact hv
    · rw [upd_ne e] at h; exact k.ex a u h
  · have e : a ≠ p := fun z => by subst z; rw [delO_same] at q; cases q
    rw [delO_ne e] at q
    exact ⟨by rw [upd_ne e]; exact (k.own a c q).1, (k.own a c q).2.mono sF rfl⟩
  · have e : a ≠ p := fun z => by subst z; rw [hp] at n; cases n
    exact ⟨h, by rw [delO_ne e]; exact n, upd_ne e⟩
theorem Ok.freezeI {K : PySem.W.Frag} {F : Hp} {O : Own} {H : Hp} (k : Ok K F O H) {p C : Addr} {fs : List (Str × D)} (hp : O p = some (.ins C fs)) :
    ∃ F', Ok K F' (delO O p) H ∧ Stp F O H F' (delO O p) H ∧ Rep K F' (.ref p) (.ins C fs) := by
  obtain ⟨fp, dx, gs, hv, hl, g, h1, h0, hr⟩ := k.own p _ hp
  have sF : Same F (upd F p (.ins C dx gs)) := fun a u h => by rw [upd_ne (ne_of_none h fp)]; exact h
  refine ⟨upd F p (.ins C dx gs), ⟨fun a u h => ?_, fun a c q => ?_⟩, ⟨sF, fun a u h n => ?_⟩, .ins upd_same g h1 h0 fun f d q => (hr f d q).mono sF⟩
  · by_cases e : a = p
    · subst e; rw [upd_same] at h; cases h; exact hv
    · rw [upd_ne e] at h; exact k.ex a u h
  · have e : a ≠ p := fun z => by subst z; rw [delO_same] at q; cases q
    rw [delO_ne e] at q
    exact ⟨by rw [upd_ne e]; exact (k.own a c q).1, (k.own a c q).2.mono sF rfl⟩
  · have e : a ≠ p := fun z => by subst z; rw [hp] at n; cases n
    exact ⟨h, by rw [delO_ne e]; exact n, upd_ne e⟩
end Sd

-- SdB
/-! judgements over data: expressions, tests, arguments, statements -/
namespace Sd
open PySem PySem.Spec PyProof.Rows L2

abbrev Env := List (Option D)
structure EnvOk (K : PySem.W.Frag) (F : Hp) (σ : L2.St) (ρ : Env) : Prop where
  len : ρ.length = σ.length
  at_ : ∀ (i : Nat) (d : D), ρ[i]? = some (some d) → ∃ v, σ[i]? = some (some v) ∧ Rep K F v d
theorem EnvOk.mono {K : PySem.W.Frag} {F F' : Hp} (e : Same F F') {σ : L2.St} {ρ : Env} (h : EnvOk K F σ ρ) : EnvOk K F' σ ρ := ⟨h.len, fun i d q => let ⟨v, a, b⟩ := h.at_ i d q; ⟨v, a, b.mono e⟩⟩
theorem EnvOk.set {K : PySem.W.Frag} {F : Hp} {σ : L2.St} {ρ : Env} (h : EnvOk K F σ ρ) {v : V} {d : D} (r : Rep K F v d) (i : Nat) : EnvOk K F (σ.set i (some v)) (ρ.set i (some d)) := by
  refine ⟨by simp [h.len], fun j e q => ?_⟩
  rw [List.getElem?_set] at q ⊢
  split at q
  · rename_i hij
    rw [if_pos hij]
    split at q
    · rename_i hl
      cases q
      rw [if_pos (by rw [← h.len]; exact hl)]
      exact ⟨v, rfl, r⟩
    · cases q
  · rename_i hij
    rw [if_neg hij]
    exact h.at_ j e q
def wipeD (ρ : Env) : List Nat → Env
  | [] => ρ
  | v :: vs => (wipeD ρ vs).set v none
theorem EnvOk.wipe {K : PySem.W.Frag} {F : Hp} {σ : L2.St} {ρ : Env} (h : EnvOk K F σ ρ) : ∀ vs, EnvOk K F (wipe σ vs) (wipeD ρ vs)
  | [] => h
  | v :: vs => by
    have ih := h.wipe vs
    refine ⟨by simp [L2.wipe, wipeD, ih.len], fun j e q => ?_⟩
    unfold wipeD at q
    unfold L2.wipe
    rw [List.getElem?_set] at q ⊢
    split at q
    · split at q <;> cases q
    · rename_i hij
      rw [if_neg hij]
      exact ih.at_ j e q
/-- forgetting -/
theorem EnvOk.none {K : PySem.W.Frag} {F : Hp} {σ : L2.St} {ρ : Env} (h : EnvOk K F σ ρ) (i : Nat) : EnvOk K F σ (ρ.set i none) := by
  refine ⟨by simp [h.len], fun j e q => ?_⟩
  rw [List.getElem?_set] at q
  split at q
  · split at q <;> cases q
  · exact h.at_ j e q

abbrev DK := D → Own → Prop
/-! ### the weakest readings -/
section
variable (X : Cx)
def can (e : Expr) : TE := fun σ H Q => ∀ (pins : List (Addr × Obj)) (s : Shared), Inv X pins σ H s → wpAny (model X.prog X.w) X.A (eval e X.env) (EP X pins σ Q) X.xe s
def canT (e : Expr) : TT := fun σ H Q => ∀ (pins : List (Addr × Obj)) (s : Shared), Inv X pins σ H s → wpAny (model X.prog X.w) X.A (isTrue e X.env (eval e X.env)) (TP X pins σ Q) X.xe s
def canW (e : Expr) : TT := fun σ H Q => ∀ (whole : Sem Value) (pins : List (Addr × Obj)) (s : Shared), Inv X pins σ H s → wpAny (model X.prog X.w) X.A (isTrue e X.env whole) (TP X pins σ Q) X.xe s
def canTs (ifs : List Expr) : TT := fun σ H Q => ∃ t, PTs X ifs t ∧ t σ H Q
def canA (es : List Expr) : TA := fun σ H Q => ∀ (pos : Pos) (pins : List (Addr × Obj)) (s : Shared), Inv X pins σ H s → wpAny (model X.prog X.w) X.A (spliced (backTo pos (starEach es X.env))) (AP X pins σ Q) X.xe s
def canS (st : Stmt) : TS := fun D σ H => ∀ (pins : List (Addr × Obj)) (s : Shared), Inv X pins σ H s → wpAny (model X.prog X.w) X.A (exec st X.env) (SP X pins D) X.xe s
def canSs (st : List Stmt) : TS := fun D σ H => ∀ (pins : List (Addr × Obj)) (s : Shared), Inv X pins σ H s → wpAny (model X.prog X.w) X.A (execs st X.env) (SP X pins D) X.xe s
def canI (tg iter : Expr) : TI := fun σ H R => ∀ (pins : List (Addr × Obj)) (s : Shared), Inv X pins σ H s → wpAny (model X.prog X.w) X.A (eval iter X.env) (fun v s1 => wpAny (model X.prog X.w) X.A (pyIter v) (PIE X pins σ tg R) X.xe s1) X.xe s
end
section
variable {X : Cx}
theorem pe_can {e : Expr} : PE X e (can X e) := ⟨fun pins s _ _ _ I h => h pins s I⟩
theorem pt_can {e : Expr} : PT X e (canT X e) := ⟨fun pins s _ _ _ I h => h pins s I⟩
theorem pw_can {e : Expr} : PW X e (canW X e) := ⟨fun wh pins s _ _ _ I h => h wh pins s I⟩
theorem pts_can {ifs : List Expr} : PTs X ifs (canTs X ifs) := ⟨fun pins s σ H Q I ⟨_, p, q⟩ => p.run pins s σ H Q I q⟩
theorem pa_can {es : List Expr} : PA X es (canA X es) := ⟨fun pos pins s _ _ _ I h => h pos pins s I⟩
theorem ps_can {st : Stmt} : PS X st (canS X st) := ⟨fun pins s _ _ _ I h => h pins s I⟩
theorem pss_can {st : List Stmt} : PSs X st (canSs X st) := ⟨fun pins s _ _ _ I h => h pins s I⟩
theorem pi_can {tg iter : Expr} : PI X tg iter (canI X tg iter) := ⟨fun pins s _ _ _ I h => h pins s I⟩
theorem PE.to {e : Expr} {t : TE} (p : PE X e t) {σ : L2.St} {H : Hp} {Q : VK} (h : t σ H Q) : can X e σ H Q := fun pins s I => p.run pins s σ H Q I h
theorem PT.to {e : Expr} {t : TT} (p : PT X e t) {σ : L2.St} {H : Hp} {Q : Bool → Hp → Prop} (h : t σ H Q) : canT X e σ H Q := fun pins s I => p.run pins s σ H Q I h
theorem PW.to {e : Expr} {t : TT} (p : PW X e t) {σ : L2.St} {H : Hp} {Q : Bool → Hp → Prop} (h : t σ H Q) : canW X e σ H Q := fun wh pins s I => p.run wh pins s σ H Q I h
theorem PA.to {es : List Expr} {t : TA} (p : PA X es t) {σ : L2.St} {H : Hp} {Q : List V → Hp → Prop} (h : t σ H Q) : canA X es σ H Q := fun pos pins s I => p.run pos pins s σ H Q I h
theorem PS.to {st : Stmt} {t : TS} (p : PS X st t) {σ : L2.St} {H : Hp} {D : Ends} (h : t D σ H) : canS X st D σ H := fun pins s I => p.run pins s σ H D I h
theorem PSs.to {st : List Stmt} {t : TS} (p : PSs X st t) {σ : L2.St} {H : Hp} {D : Ends} (h : t D σ H) : canSs X st D σ H := fun pins s I => p.run pins s σ H D I h
theorem PI.to {tg iter : Expr} {t : TI} (p : PI X tg iter t) {σ : L2.St} {H : Hp} {R : It → Hp → Prop} (h : t σ H R) : canI X tg iter σ H R := fun pins s I => p.run pins s σ H R I h
end

/-! ### the judgements -/
/-- what may follow on a value -/
def KE (K : PySem.W.Frag) (F : Hp) (O : Own) (H : Hp) (Q : DK) (R : VK) : Prop := ∀ F' O' H' v d, Stp F O H F' O' H' → Ok K F' O' H' → Rep K F' v d → Q d O' → R v H'
def KB (K : PySem.W.Frag) (F : Hp) (O : Own) (H : Hp) (Q : Bool → Own → Prop) (R : Bool → Hp → Prop) : Prop := ∀ F' O' H' b, Stp F O H F' O' H' → Ok K F' O' H' → Q b O' → R b H'
def KA (K : PySem.W.Frag) (F : Hp) (O : Own) (H : Hp) (Q : List D → Own → Prop) (R : List V → Hp → Prop) : Prop := ∀ F' O' H' vs ds, Stp F O H F' O' H' → Ok K F' O' H' → Reps K F' vs ds → Q ds O' → R vs H'
theorem KE.fwd {K : PySem.W.Frag} {F F1 : Hp} {O O1 : Own} {H H1 : Hp} {Q : DK} {R : VK} (k : KE K F O H Q R) (s : Stp F O H F1 O1 H1) : KE K F1 O1 H1 Q R := fun F' O' H' v d s' => k F' O' H' v d (s.trans s')
theorem KB.fwd {K : PySem.W.Frag} {F F1 : Hp} {O O1 : Own} {H H1 : Hp} {Q : Bool → Own → Prop} {R : Bool → Hp → Prop} (k : KB K F O H Q R) (s : Stp F O H F1 O1 H1) : KB K F1 O1 H1 Q R := fun F' O' H' b s' => k F' O' H' b (s.trans s')
theorem KA.fwd {K : PySem.W.Frag} {F F1 : Hp} {O O1 : Own} {H H1 : Hp} {Q : List D → Own → Prop} {R : List V → Hp → Prop} (k : KA K F O H Q R) (s : Stp F O H F1 O1 H1) : KA K F1 O1 H1 Q R := fun F' O' H' v d s' => k F' O' H' v d (s.trans s')
def WE (X : Cx) (e : Expr) (ρ : Env) (O : Own) (Q : DK) : Prop := ∀ F σ H R, EnvOk X.K F σ ρ → Ok X.K F O H → KE X.K F O H Q R → can X e σ H R
def WT (X : Cx) (e : Expr) (ρ : Env) (O : Own) (Q : Bool → Own → Prop) : Prop := ∀ F σ H R, EnvOk X.K F σ ρ → Ok X.K F O H → KB X.K F O H Q R → canT X e σ H R
def WW (X : Cx) (e : Expr) (ρ : Env) (O : Own) (Q : Bool → Own → Prop) : Prop := ∀ F σ H R, EnvOk X.K F σ ρ → Ok X.K F O H → KB X.K F O H Q R → canW X e σ H R
def WTs (X : Cx) (es : List Expr) (ρ : Env) (O : Own) (Q : Bool → Own → Prop) : Prop := ∀ F σ H R, EnvOk X.K F σ ρ → Ok X.K F O H → KB X.K F O H Q R → canTs X es σ H R
def WA (X : Cx) (es : List Expr) (ρ : Env) (O : Own) (Q : List D → Own → Prop) : Prop := ∀ F σ H R, EnvOk X.K F σ ρ → Ok X.K F O H → KA X.K F O H Q R → canA X es σ H R
structure En where
  nx : Env → Own → Prop
  rt : DK
  bk : Env → Own → Prop := fun _ _ => False
  ct : Env → Own → Prop := fun _ _ => False
structure KS (K : PySem.W.Frag) (F : Hp) (O : Own) (H : Hp) (E : En) (D : Ends) : Prop where
  nx : ∀ F' O' H' σ' ρ', Stp F O H F' O' H' → Ok K F' O' H' → EnvOk K F' σ' ρ' → E.nx ρ' O' → D.nx σ' H'
  bk : ∀ F' O' H' σ' ρ', Stp F O H F' O' H' → Ok K F' O' H' → EnvOk K F' σ' ρ' → E.bk ρ' O' → D.bk σ' H'
  ct : ∀ F' O' H' σ' ρ', Stp F O H F' O' H' → Ok K F' O' H' → EnvOk K F' σ' ρ' → E.ct ρ' O' → D.ct σ' H'
  rt : KE K F O H E.rt D.rt
theorem KS.fwd {K : PySem.W.Frag} {F F1 : Hp} {O O1 : Own} {H H1 : Hp} {E : En} {D : Ends} (k : KS K F O H E D) (s : Stp F O H F1 O1 H1) : KS K F1 O1 H1 E D :=
  ⟨fun F' O' H' σ' ρ' s' => k.nx F' O' H' σ' ρ' (s.trans s'), fun F' O' H' σ' ρ' s' => k.bk F' O' H' σ' ρ' (s.trans s'), fun F' O' H' σ' ρ' s' => k.ct F' O' H' σ' ρ' (s.trans s'), k.rt.fwd s⟩
def WS (X : Cx) (st : Stmt) (ρ : Env) (O : Own) (E : En) : Prop := ∀ F σ H D, EnvOk X.K F σ ρ → Ok X.K F O H → KS X.K F O H E D → canS X st D σ H
def WSs (X : Cx) (st : List Stmt) (ρ : Env) (O : Own) (E : En) : Prop := ∀ F σ H D, EnvOk X.K F σ ρ → Ok X.K F O H → KS X.K F O H E D → canSs X st D σ H

/-- a choice of two -/
def brn (b : Bool) (p q : Prop) : Prop := match b with | true => p | false => q
theorem brn_i {b : Bool} {p q : Prop} (h1 : b = true → p) (h2 : b = false → q) : brn b p q := by cases b with | true => exact h1 rfl | false => exact h2 rfl
theorem brn_dec {c p q : Prop} [Decidable c] (h1 : c → p) (h2 : ¬ c → q) : brn (decide c) p q := by
  by_cases h : c
  · rw [decide_eq_true h]; exact h1 h
  · rw [decide_eq_false h]; exact h2 h
theorem brn_ndec {c p q : Prop} [Decidable c] (h1 : ¬ c → p) (h2 : c → q) : brn (!decide c) p q := by
  by_cases h : c
  · rw [decide_eq_true h]; exact h2 h
  · rw [decide_eq_false h]; exact h1 h
theorem brn_t {p q : Prop} (h : p) : brn true p q := h
theorem brn_f {p q : Prop} (h : q) : brn false p q := h
theorem brn_is {b c : Bool} {p q : Prop} (e : b = c) (h : brn c p q) : brn b p q := e ▸ h
theorem brn_if {b : Bool} {p q : Prop} (h : brn b p q) : if b = true then p else q := by cases b with | true => exact h | false => exact h

section
variable {X : Cx} {ρ : Env} {O : Own} {Q : DK} {e a b c : Expr} {pos p : Pos} {QT : Bool → Own → Prop}
/-! ### names, constants -/
theorem we_name {x : Str} {i : Nat} {d : D} (hN : X.N[i]? = some x) (hv : Vis X.env.scope x) (hd : (x == ("__debug__" : Str)) = false) (hcd : (x == ("__classdict__" : Str)) = false) (hρ : ρ[i]? = some (some d)) (h : Q d O) : WE X (.Name x pos) ρ O Q := by
  intro F σ H R E k kk
  obtain ⟨v, hv', r⟩ := E.at_ i d hρ
  exact PE.to (pe_var hN hv hd hcd) ⟨v, hv', kk _ _ _ _ _ .refl k r h⟩
theorem we_glob {x : Str} {v : V} {d : D} (hg : Gl X x) (hm : ∃ u, X.mg x = some u ∧ RelV v u) (hr : ∀ K F, Rep K F v d) (hd : (x == ("__debug__" : Str)) = false) (h : Q d O) : WE X (.Name x pos) ρ O Q := by
  intro F σ H R E k kk
  obtain ⟨u, hm, r⟩ := hm
  exact PE.to (pe_glob hg hm r hd) (kk _ _ _ _ _ .refl k (hr _ _) h)
theorem we_int {i : Int} {j} (h : Q (.int i) O) : WE X (.Constant (.int i) j pos) ρ O Q := fun F σ H R E k kk => PE.to pe_int (kk _ _ _ _ _ .refl k (.int i) h)
theorem we_bl {i : Bool} {j} (h : Q (.bl i) O) : WE X (.Constant (.bool i) j pos) ρ O Q := fun F σ H R E k kk => PE.to pe_bl (kk _ _ _ _ _ .refl k (.bl i) h)
theorem we_non {j} (h : Q .non O) : WE X (.Constant .none j pos) ρ O Q := fun F σ H R E k kk => PE.to pe_non (kk _ _ _ _ _ .refl k .non h)
theorem we_str {x : Str} {j} (h : Q (.str x) O) : WE X (.Constant (.str x) j pos) ρ O Q := fun F σ H R E k kk => PE.to pe_str (kk _ _ _ _ _ .refl k (.str x) h)

/-! ### operators by values -/
def lR (K : PySem.W.Frag) (r : R2) (x y : D) (O : Own) (Q : DK) : Prop := ∀ F H vx vy R, Ok K F O H → Rep K F vx x → Rep K F vy y → KE K F O H Q R → r vx vy H R
def lU (K : PySem.W.Frag) (r : V → Hp → VK → Prop) (x : D) (O : Own) (Q : DK) : Prop := ∀ F H vx R, Ok K F O H → Rep K F vx x → KE K F O H Q R → r vx H R
def lC (K : PySem.W.Frag) (r : List V → Hp → VK → Prop) (xs : List D) (O : Own) (Q : DK) : Prop := ∀ F H vs R, Ok K F O H → Reps K F vs xs → KE K F O H Q R → r vs H R
theorem two {ta tb : TE} {r : R2} (ha : WE X a ρ O fun x O1 => WE X b ρ O1 fun y O2 => lR X.K r x y O2 Q) {F : Hp} {σ : L2.St} {H : Hp} {R : VK} (E : EnvOk X.K F σ ρ) (k : Ok X.K F O H) (kk : KE X.K F O H Q R) : tOp r (can X a) (can X b) σ H R := by
  refine ha F σ H _ E k fun F1 O1 H1 vx x s1 k1 rx q1 => ?_
  refine q1 F1 σ H1 _ (E.mono s1.fr) k1 fun F2 O2 H2 vy y s2 k2 ry q2 => ?_
  exact q2 F2 H2 vx vy R k2 (rx.mono s2.fr) ry (kk.fwd (s1.trans s2))
theorem we_bin {op : Operator} {r : R2} (ho : OpR X (binaryOp op) r) (h : WE X a ρ O fun x O1 => WE X b ρ O1 fun y O2 => lR X.K r x y O2 Q) : WE X (.BinOp a op b pos) ρ O Q :=
  fun F σ H R E k kk => PE.to (pe_op ho pe_can pe_can) (two (ta := can X a) (tb := can X b) h E k kk)
theorem we_cmpR {op : CmpOp} {r : R2} (ho : OpR X (compareOp op) r) (hm : behindInMarks op b = false) (h : WE X a ρ O fun x O1 => WE X b ρ O1 fun y O2 => lR X.K r x y O2 Q) : WE X (.Compare a [op] [b] pos) ρ O Q :=
  fun F σ H R E k kk => PE.to (pe_cmpR ho pe_can pe_can hm) (two (ta := can X a) (tb := can X b) h E k kk)
/-- the outcome is a bool -/
def isB (Q : Bool → Own → Prop) : DK := fun d O => ∃ b, d = .bl b ∧ Q b O
theorem rep_bl {K : PySem.W.Frag} {F : Hp} {v : V} {b : Bool} (r : Rep K F v (.bl b)) : v = .bl b := by cases r; rfl
theorem isB_to {K : PySem.W.Frag} {F : Hp} {O : Own} {H : Hp} {R : Bool → Hp → Prop} (kk : KB K F O H QT R) : KE K F O H (isB QT) (fun x H' => ∃ k, x = .bl k ∧ R k H') := by
  intro F' O' H' v d s k r q
  obtain ⟨b, rfl, q⟩ := q
  exact ⟨b, rep_bl r, kk _ _ _ _ s k q⟩
theorem wt_cmpR {op : CmpOp} {r : R2} (ho : OpR X (compareOp op) r) (hm : behindInMarks op b = false) (h : WE X a ρ O fun x O1 => WE X b ρ O1 fun y O2 => lR X.K r x y O2 (isB QT)) : WT X (.Compare a [op] [b] pos) ρ O QT :=
  fun F σ H R E k kk => PT.to (pt_cmpR ho pe_can pe_can hm) (two (ta := can X a) (tb := can X b) h E k (isB_to kk))
theorem we_chain {op op' : CmpOp} {r r' : R2} (ho : OpR X (compareOp op) r) (ho' : OpR X (compareOp op') r') (hm : lastMarks [op, op'] [b, c] = false)
    (h : WE X a ρ O fun x O1 => WE X b ρ O1 fun y O2 => lR X.K r x y O2 (isB fun k O3 => brn k (WE X c ρ O3 fun z O4 => lR X.K r' y z O4 Q) (Q (.bl false) O3))) : WE X (.Compare a [op, op'] [b, c] pos) ρ O Q := by
  intro F σ H R E k kk
  refine PE.to (pe_chain ho ho' pe_can pe_can pe_can hm) ?_
  refine h F σ H _ E k fun F1 O1 H1 vx x s1 k1 rx q1 => ?_
  refine q1 F1 σ H1 _ (E.mono s1.fr) k1 fun F2 O2 H2 vy y s2 k2 ry q2 => ?_
  refine q2 F2 H2 vx vy _ k2 (rx.mono s2.fr) ry fun F3 O3 H3 vz z s3 k3 rz q3 => ?_
  obtain ⟨b', rfl, q3⟩ := q3
  refine ⟨b', rep_bl rz, ?_⟩
  cases b' with
  | true =>
    rw [if_pos rfl]
    refine q3 F3 σ H3 _ (E.mono ((s1.trans s2).trans s3).fr) k3 fun F4 O4 H4 vw w' s4 k4 rw' q4 => ?_
    exact q4 F4 H4 vy vw R k4 (ry.mono (s3.trans s4).fr) rw' (kk.fwd (((s1.trans s2).trans s3).trans s4))
  | false =>
    rw [if_neg Bool.false_ne_true]
    exact kk _ _ _ _ _ ((s1.trans s2).trans s3) k3 (.bl false) q3
theorem wt_chain {op op' : CmpOp} {r r' : R2} (ho : OpR X (compareOp op) r) (ho' : OpR X (compareOp op') r') (hm : lastMarks [op, op'] [b, c] = false)
    (h : WE X a ρ O fun x O1 => WE X b ρ O1 fun y O2 => lR X.K r x y O2 (isB fun k O3 => brn k (WE X c ρ O3 fun z O4 => lR X.K r' y z O4 (isB QT)) (QT false O3))) : WT X (.Compare a [op, op'] [b, c] pos) ρ O QT := by
  intro F σ H R E k kk
  refine PT.to (pt_chain ho ho' pe_can pe_can pe_can hm) ?_
  refine h F σ H _ E k fun F1 O1 H1 vx x s1 k1 rx q1 => ?_
  refine q1 F1 σ H1 _ (E.mono s1.fr) k1 fun F2 O2 H2 vy y s2 k2 ry q2 => ?_
  refine q2 F2 H2 vx vy _ k2 (rx.mono s2.fr) ry fun F3 O3 H3 vz z s3 k3 rz q3 => ?_
  obtain ⟨b', rfl, q3⟩ := q3
  refine ⟨b', rep_bl rz, ?_⟩
  cases b' with
  | true =>
    rw [if_pos rfl]
    refine q3 F3 σ H3 _ (E.mono ((s1.trans s2).trans s3).fr) k3 fun F4 O4 H4 vw w' s4 k4 rw' q4 => ?_
    exact q4 F4 H4 vy vw _ k4 (ry.mono (s3.trans s4).fr) rw' (isB_to (kk.fwd (((s1.trans s2).trans s3).trans s4)))
  | false =>
    rw [if_neg Bool.false_ne_true]
    exact ⟨false, rfl, kk _ _ _ _ ((s1.trans s2).trans s3) k3 q3⟩

/-! ### truth, and, or, not -/
def asL (O : Own) : D → Option (List D)
  | .lst ds => some ds
  | .tup ds => some ds
  | .scr ns => some (ns.map .int)
  | .raw a => match O a with | some (.lst ds) => some ds | _ => none
  | _ => none
theorem reps_ints {K : PySem.W.Frag} {F : Hp} (ns : List Int) : Reps K F (ns.map V.int) (ns.map D.int) := by
  refine ⟨by simp, fun i v d h1 h2 => ?_⟩
  rw [List.getElem?_map] at h1 h2
  cases e : ns[i]? with
  | none => rw [e] at h1; cases h1
  | some n => rw [e] at h1 h2; cases h1; cases h2; exact .int n
/-- the sequence behind a value -/
theorem asL_of {K : PySem.W.Frag} {F H : Hp} {O : Own} (k : Ok K F O H) {v : V} {d : D} (r : Rep K F v d) {ds : List D} (h : asL O d = some ds) : ∃ p vs, v = .ref p ∧ (SqL K H p vs ∨ SqT K H p vs) ∧ Reps K F vs ds := by
  cases r with
  | tup hF hl hr => cases h; exact ⟨_, _, rfl, .inr (SqT.of (k.ex _ _ hF)), hl, hr⟩
  | lst hF hl hr => cases h; exact ⟨_, _, rfl, .inl (SqL.of (k.ex _ _ hF)), hl, hr⟩
  | scr hs => cases h; exact ⟨_, _, rfl, .inl (k.ex.seq hs), reps_ints _⟩
  | raw p =>
    unfold asL at h
    simp only at h
    split at h
    · rename_i ds' q
      cases h
      obtain ⟨_, vs, hv, hr⟩ := k.own _ _ q
      exact ⟨p, vs, rfl, .inl (SqL.of hv), hr⟩
    · cases h
  | non => cases h
  | bl => cases h
  | int => cases h
  | str => cases h
  | ins => cases h
  | ty => cases h
def truD (O : Own) : D → Option Bool
  | .non => some false
  | .bl b => some b
  | .int i => some (i != 0)
  | d => (asL O d).map fun ds => !ds.isEmpty
theorem reps_emp {K : PySem.W.Frag} {F : Hp} {vs : List V} {ds : List D} (r : Reps K F vs ds) : vs.isEmpty = ds.isEmpty := by
  have := r.1
  cases vs <;> cases ds <;> simp_all
theorem truV_of {K : PySem.W.Frag} {F H : Hp} {O : Own} (k : Ok K F O H) {v : V} {d : D} (r : Rep K F v d) {b : Bool} (h : truD O d = some b) : TruV K v H b := by
  have seq : ∀ {ds : List D}, asL O d = some ds → b = !ds.isEmpty → TruV K v H b := fun {ds} q e => by
    obtain ⟨p, vs, rfl, hs, hr⟩ := asL_of k r q
    subst e
    rw [← reps_emp hr]
    rcases hs with hs | hs
    · exact .inl ⟨vs, hs, rfl⟩
    · exact .inr (.inl ⟨vs, hs, rfl⟩)
  cases r with
  | non => cases h; rfl
  | bl => cases h; rfl
  | int => cases h; rfl
  | str => simp [truD, asL] at h
  | ins => simp [truD, asL] at h
  | ty => simp [truD, asL] at h
  | tup => simp only [truD, asL, Option.map_some, Option.some.injEq] at h; exact seq rfl h.symm
  | lst => simp only [truD, asL, Option.map_some, Option.some.injEq] at h; exact seq rfl h.symm
  | scr => simp only [truD, asL, Option.map_some, Option.some.injEq] at h; exact seq rfl h.symm
  | raw p =>
    unfold truD at h
    simp only at h
    cases q : asL O (.raw p) with
    | none => rw [q] at h; cases h
    | some ds => rw [q] at h; simp only [Option.map_some, Option.some.injEq] at h; exact seq q h.symm
/-- any expression as a test, by its value's truth -/
theorem wt_val (he : ∀ whole, isTrue e X.env whole = (do let v ← whole; standAt e.pos; holding [v] (truthy v))) (h : WE X e ρ O fun d O1 => ∃ k, truD O1 d = some k ∧ QT k O1) : WT X e ρ O QT := by
  intro F σ H R E k kk
  refine PT.to (pt_truth pe_can he) ?_
  refine h F σ H _ E k fun F1 O1 H1 v d s1 k1 r q => ?_
  obtain ⟨b, hb, q⟩ := q
  exact ⟨b, truV_of k1 r hb, kk _ _ _ _ s1 k1 q⟩
theorem wt_not (h : WT X a ρ O fun b O1 => QT (!b) O1) : WT X (.UnaryOp .Not a pos) ρ O QT := by
  intro F σ H R E k kk
  refine PT.to (pt_not pt_can) ?_
  exact h F σ H _ E k fun F1 O1 H1 b s1 k1 q => kk _ _ _ _ s1 k1 q
theorem wt_ww (h : WW X e ρ O QT) : WT X e ρ O QT := by
  intro F σ H R E k kk
  exact PT.to (PW.pt pw_can) (h F σ H R E k kk)
variable {rest : List Expr}
theorem ww_and1 (h : WT X a ρ O QT) : WW X (.BoolOp .And [a] pos) ρ O QT := fun F σ H R E k kk => PW.to (pw_and1 pt_can) (h F σ H R E k kk)
theorem ww_or1 (h : WT X a ρ O QT) : WW X (.BoolOp .Or [a] pos) ρ O QT := fun F σ H R E k kk => PW.to (pw_or1 pt_can) (h F σ H R E k kk)
theorem ww_and (h : WT X a ρ O fun k O1 => brn k (WW X (.BoolOp .And (b :: rest) pos) ρ O1 QT) (QT false O1)) : WW X (.BoolOp .And (a :: b :: rest) pos) ρ O QT := by
  intro F σ H R E k kk
  refine PW.to (pw_and pt_can pw_can) ?_
  refine h F σ H _ E k fun F1 O1 H1 b s1 k1 q => ?_
  cases b with
  | true => rw [if_pos rfl]; exact q F1 σ H1 R (E.mono s1.fr) k1 (kk.fwd s1)
  | false => rw [if_neg Bool.false_ne_true]; exact kk _ _ _ _ s1 k1 q
theorem ww_or (h : WT X a ρ O fun k O1 => brn k (QT true O1) (WW X (.BoolOp .Or (b :: rest) pos) ρ O1 QT)) : WW X (.BoolOp .Or (a :: b :: rest) pos) ρ O QT := by
  intro F σ H R E k kk
  refine PW.to (pw_or pt_can pw_can) ?_
  refine h F σ H _ E k fun F1 O1 H1 b s1 k1 q => ?_
  cases b with
  | true => rw [if_pos rfl]; exact kk _ _ _ _ s1 k1 q
  | false => rw [if_neg Bool.false_ne_true]; exact q F1 σ H1 R (E.mono s1.fr) k1 (kk.fwd s1)
theorem we_one {op} (h : WE X a ρ O Q) : WE X (.BoolOp op [a] pos) ρ O Q := fun F σ H R E k kk => PE.to (pe_one pe_can) (h F σ H R E k kk)
theorem we_and (h : WE X a ρ O fun d O1 => ∃ k, truD O1 d = some k ∧ brn k (WE X (.BoolOp .And (b :: rest) pos) ρ O1 Q) (Q d O1)) : WE X (.BoolOp .And (a :: b :: rest) pos) ρ O Q := by
  intro F σ H R E k kk
  refine PE.to (pe_andT pe_can pe_can) ?_
  refine h F σ H _ E k fun F1 O1 H1 v d s1 k1 r q => ?_
  obtain ⟨b, hb, q⟩ := q
  refine ⟨b, truV_of k1 r hb, ?_⟩
  cases b with
  | true => rw [if_pos rfl]; exact q F1 σ H1 R (E.mono s1.fr) k1 (kk.fwd s1)
  | false => rw [if_neg Bool.false_ne_true]; exact kk _ _ _ _ _ s1 k1 r q
theorem we_or (h : WE X a ρ O fun d O1 => ∃ k, truD O1 d = some k ∧ brn k (Q d O1) (WE X (.BoolOp .Or (b :: rest) pos) ρ O1 Q)) : WE X (.BoolOp .Or (a :: b :: rest) pos) ρ O Q := by
  intro F σ H R E k kk
  refine PE.to (pe_orT pe_can pe_can) ?_
  refine h F σ H _ E k fun F1 O1 H1 v d s1 k1 r q => ?_
  obtain ⟨b, hb, q⟩ := q
  refine ⟨b, truV_of k1 r hb, ?_⟩
  cases b with
  | true => rw [if_pos rfl]; exact kk _ _ _ _ _ s1 k1 r q
  | false => rw [if_neg Bool.false_ne_true]; exact q F1 σ H1 R (E.mono s1.fr) k1 (kk.fwd s1)
theorem we_not (h : WE X a ρ O fun d O1 => ∃ k, truD O1 d = some k ∧ Q (.bl (!k)) O1) : WE X (.UnaryOp .Not a pos) ρ O Q := by
  intro F σ H R E k kk
  refine PE.to (pe_notT pe_can) ?_
  refine h F σ H _ E k fun F1 O1 H1 v d s1 k1 r q => ?_
  obtain ⟨b, hb, q⟩ := q
  exact ⟨b, truV_of k1 r hb, kk _ _ _ _ _ s1 k1 (.bl _) q⟩
theorem we_if (h : WT X c ρ O fun k O1 => brn k (WE X a ρ O1 Q) (WE X b ρ O1 Q)) : WE X (.IfExp c a b pos) ρ O Q := by
  intro F σ H R E k kk
  refine PE.to (pe_ifExp pt_can pe_can pe_can) ?_
  refine h F σ H _ E k fun F1 O1 H1 b s1 k1 q => ?_
  cases b with
  | true => rw [if_pos rfl]; exact q F1 σ H1 R (E.mono s1.fr) k1 (kk.fwd s1)
  | false => rw [if_neg Bool.false_ne_true]; exact q F1 σ H1 R (E.mono s1.fr) k1 (kk.fwd s1)

/-! ### arguments, displays -/
variable {es : List Expr} {QA : List D → Own → Prop}
theorem wa_nil (h : QA [] O) : WA X [] ρ O QA := fun F σ H R E k kk => PA.to pa_nil (kk _ _ _ _ _ .refl k .nil h)
theorem wa_cons (hs : starEach (e :: es) X.env = (false, eval e X.env) :: starEach es X.env) (h : WE X e ρ O fun d O1 => WA X es ρ O1 fun ds O2 => QA (d :: ds) O2) : WA X (e :: es) ρ O QA := by
  intro F σ H R E k kk
  refine PA.to (pa_cons pe_can pa_can hs) ?_
  refine h F σ H _ E k fun F1 O1 H1 v d s1 k1 r q => ?_
  refine q F1 σ H1 _ (E.mono s1.fr) k1 fun F2 O2 H2 vs ds s2 k2 rs q2 => ?_
  exact kk _ _ _ _ _ (s1.trans s2) k2 (.cons (r.mono s2.fr) rs) q2
theorem we_tup {x1} (h : WA X es ρ O fun ds O1 => ds.length ≤ 1000 ∧ Q (.tup ds) O1) : WE X (.Tuple es x1 pos) ρ O Q := by
  intro F σ H R E k kk
  refine PE.to (pe_tup pa_can) ?_
  refine h F σ H _ E k fun F1 O1 H1 vs ds s1 k1 r q => ⟨?_, fun p hp => ?_⟩
  · rw [r.1]; exact Nat.le_trans q.1 (by decide)
  · obtain ⟨k2, s2, sF⟩ := k1.lay (o := .tup vs) hp
    exact kk _ _ _ _ _ (s1.trans s2) k2 (.tup upd_same r.1 fun i v d a b => (r.2 i v d a b).mono sF) q.2
/-- a list that is not written any more -/
theorem we_lst (h : WA X es ρ O fun ds O1 => ds.length ≤ 1000 ∧ Q (.lst ds) O1) : WE X (.List es pos) ρ O Q := by
  intro F σ H R E k kk
  refine PE.to (pe_lst pa_can) ?_
  refine h F σ H _ E k fun F1 O1 H1 vs ds s1 k1 r q => ⟨?_, fun p hp => ?_⟩
  · rw [r.1]; exact Nat.le_trans q.1 (by decide)
  · obtain ⟨k2, s2, sF⟩ := k1.lay (o := .lst vs) hp
    exact kk _ _ _ _ _ (s1.trans s2) k2 (.lst upd_same r.1 fun i v d a b => (r.2 i v d a b).mono sF) q.2
/-- a list of ours -/
theorem we_lstO (h : WA X es ρ O fun ds O1 => ds.length ≤ 1000 ∧ ∀ p, O1 p = none → Q (.raw p) (setO O1 p (.lst ds))) : WE X (.List es pos) ρ O Q := by
  intro F σ H R E k kk
  refine PE.to (pe_lst pa_can) ?_
  refine h F σ H _ E k fun F1 O1 H1 vs ds s1 k1 r q => ⟨?_, fun p hp => ?_⟩
  · rw [r.1]; exact Nat.le_trans q.1 (by decide)
  · obtain ⟨k2, s2⟩ := k1.mine (o := .lst vs) (c := .lst ds) hp ⟨vs, upd_same, r⟩
    exact kk _ _ _ _ _ (s1.trans s2) k2 (.raw p) (q.2 p (k1.fresh hp).2)
end
end Sd

-- SdC
/-! operators over data -/
namespace Sd
open PySem PySem.Spec PyProof.Rows L2

theorem rep_int {K : PySem.W.Frag} {F : Hp} {v : V} {i : Int} (r : Rep K F v (.int i)) : v = .int i := by cases r; rfl
theorem rep_str {K : PySem.W.Frag} {F : Hp} {v : V} {i : Str} (r : Rep K F v (.str i)) : v = .str i := by cases r; rfl
theorem rep_non {K : PySem.W.Frag} {F : Hp} {v : V} (r : Rep K F v .non) : v = .non := by cases r; rfl
theorem rep_raw {K : PySem.W.Frag} {F : Hp} {v : V} {a : Addr} (r : Rep K F v (.raw a)) : v = .ref a := by cases r; rfl
theorem rep_ty {K : PySem.W.Frag} {F : Hp} {v : V} {a : String} (r : Rep K F v (.ty a)) : v = .ty a := by cases r; rfl
theorem rep_tup {K : PySem.W.Frag} {F : Hp} {v : V} {ds : List D} (r : Rep K F v (.tup ds)) : ∃ a vs, v = .ref a ∧ F a = some (.tup vs) ∧ Reps K F vs ds := by
  cases r with | tup h hl hr => exact ⟨_, _, rfl, h, hl, hr⟩
theorem rep_lst {K : PySem.W.Frag} {F : Hp} {v : V} {ds : List D} (r : Rep K F v (.lst ds)) : ∃ a vs, v = .ref a ∧ F a = some (.lst vs) ∧ Reps K F vs ds := by
  cases r with | lst h hl hr => exact ⟨_, _, rfl, h, hl, hr⟩
theorem reps_int_eq {K : PySem.W.Frag} {F : Hp} : ∀ {ns : List Int} {vs : List V}, Reps K F vs (ns.map .int) → vs = ns.map V.int
  | [], vs, r => r.unnil
  | n :: ns, vs, r => by obtain ⟨v, t, rfl, h1, h2⟩ := Reps.uncons (d := .int n) (ds := ns.map .int) r; rw [rep_int h1, reps_int_eq h2]; rfl
theorem reps_str_eq {K : PySem.W.Frag} {F : Hp} : ∀ {ns : List Str} {vs : List V}, Reps K F vs (ns.map .str) → vs = ns.map V.str
  | [], vs, r => r.unnil
  | n :: ns, vs, r => by obtain ⟨v, t, rfl, h1, h2⟩ := Reps.uncons (d := .str n) (ds := ns.map .str) r; rw [rep_str h1, reps_str_eq h2]; rfl
theorem reps_strs {K : PySem.W.Frag} {F : Hp} (ns : List Str) : Reps K F (ns.map V.str) (ns.map D.str) := by
  refine ⟨by simp, fun i v d h1 h2 => ?_⟩
  rw [List.getElem?_map] at h1 h2
  cases e : ns[i]? with
  | none => rw [e] at h1; cases h1
  | some n => rw [e] at h1 h2; cases h1; cases h2; exact .str n

open PySem.AutoSeq1 (wpAny_loadPart') in
/-- t * k where t itself comes back -/
theorem mulT_self (l : Addr) (items : Array Value) (n : Nat) (dd : Option Addr) (sl : Array (Option Value)) (x : Int) (u : Tok) (h0 : (decide (x < -(2 ^ 63)) || decide (x ≥ 2 ^ 63)) = false) (h1 : (items.isEmpty || x == 1) = true) :
    Meets (Builtin.«tuple.__mul__» ⟨[.ref l, .int x u], []⟩) (fun _ R s => s.heap.get? l = some { cls := .type "tuple", dict := dd, data := .seq items n, slots := sl } ∧ R (.ok (.ret (Value.ref l))) s) :=
  .of_wp fun prog w A R s h => by
    obtain ⟨hq, gn, dr, tk, oo⟩ := s
    obtain ⟨hl, h⟩ := h
    have fi := AutoSeq1.idx_int
    wp_walk using wpAny_loadPart' hl
    repeat (first
      | (refine wpAny_ite_false (decide_eq_false (by rw [h0]; decide)) ?_; wp_walk using wpAny_loadPart' hl)
      | (refine wpAny_ite_true (decide_eq_true h1) ?_; wp_walk using wpAny_loadPart' hl))
    exact ⟨_, rfl, h⟩
def rRepU (K : PySem.W.Frag) : R2 := fun x y H Q => ∃ l k xs, x = .ref l ∧ y = .int k ∧ SqT K H l xs ∧ 0 < k ∧ k ≤ 100000 ∧ xs.length * k.toNat ≤ 100000 ∧ (((xs = [] ∨ k = 1) ∧ Q (.ref l) H) ∨ (xs ≠ [] ∧ 2 ≤ k ∧ ∀ p, H p = none → Q (.ref p) (upd H p (.tup (List.replicate k.toNat xs).flatten))))
section
variable {X : Cx}
theorem op_repU : OpR X (binaryOp .Mult) (rRepU X.K) := by
  intro pins s σ H x y v u Q I rx ry h
  obtain ⟨l, k, xs, rfl, rfl, hT, hk0, hk1, hz, q⟩ := h
  cases rx
  obtain ⟨t, rfl⟩ := ry
  obtain ⟨its, r, ⟨⟨cls, dd, data, sl⟩, ho, hc, n, hd⟩, hs⟩ := I.tuple hT
  simp only at hc hd
  subst hc hd
  have hle : its.length = xs.length := r.length.symm
  have big : (100000 : Nat) ≤ sizeLine := by decide
  have hrange : (decide (k < -(2 ^ 63)) || decide (k ≥ 2 ^ 63)) = false := by
    rw [decide_eq_false (by omega), decide_eq_false (by omega)] <;> rfl
  rcases q with ⟨e, q⟩ | ⟨hne, hk2, q⟩
  · have h1 : (its.toArray.isEmpty || k == 1) = true := by
      rcases e with e | e
      · subst e
        have : its = [] := List.eq_nil_of_length_eq_zero (by rw [hle]; rfl)
        subst this; rfl
      · subst e; simp
    exact wpAny_binaryOp_repeat_ref (T := "tuple") (U := "int") (by decide) ⟨_, ho, rfl⟩ (fun s' => typeIs_int s' k t) noFill_tuple_mul F.fills_int_mul F.slot_int_rmul repeat_tuple F.slot_int_index.lookup
      (call_meets F.slot_int_rmul (typeIs_int s k t) F.entry_int_rmul (F.args_int_rmul_2 _ _) (int_rmul_tuple k t l its.toArray n dd sl)
        ⟨ho, rfl, ⟨_, ho, rfl⟩, call_meets F.slot_tuple_mul ⟨_, ho, rfl⟩ F.entry_tuple_mul (F.args_tuple_mul_2 _ _) (mulT_self l its.toArray n dd sl k t hrange h1) ⟨ho, ⟨.ref l, H, I, rfl, q⟩⟩⟩)
  · have hn : its ≠ [] := fun e => hne (by subst e; exact List.eq_nil_of_length_eq_zero hle.symm)
    have hi : its.toArray.isEmpty = false := by
      cases its with
      | nil => exact absurd rfl hn
      | cons a b => rfl
    have hsz0 : its.toArray.size = xs.length := by rw [List.size_toArray, hle]
    have hzi : ((xs.length : Nat) : Int) * k ≤ 100000 := by
      have e1 : k = ((k.toNat : Nat) : Int) := by omega
      rw [e1, ← Int.natCast_mul]
      omega
    have hm : ((its.toArray.size : Nat) : Int) * k ≤ 100000 := by rw [hsz0]; exact hzi
    have flen : (List.replicate k.toNat its).flatten.length ≤ 100000 := by
      rw [PyProof.Rows.lm_len_rep_flat, hle, Nat.mul_comm]; exact hz
    have n1 : (its.toArray.isEmpty || k == 1) = false := by
      rw [hi, Bool.false_or]
      exact beq_eq_false_iff_ne.mpr (by omega)
    have n2 : (decide (k ≤ 0) || its.toArray.isEmpty) = false := by
      rw [hi, Bool.or_false]
      exact decide_eq_false (by omega)
    have n4 : Builtin.Tuple.tupleTooMany (((its.toArray.size : Nat) : Int) * k) = false := by
      unfold Builtin.Tuple.tupleTooMany
      rw [sizeLine_eq]
      exact decide_eq_false (by omega)
    refine wpAny_binaryOp_repeat_ref (T := "tuple") (U := "int") (by decide) ⟨_, ho, rfl⟩ (fun s' => typeIs_int s' k t) noFill_tuple_mul F.fills_int_mul F.slot_int_rmul repeat_tuple F.slot_int_index.lookup
      (call_meets F.slot_int_rmul (typeIs_int s k t) F.entry_int_rmul (F.args_int_rmul_2 _ _) (int_rmul_tuple k t l its.toArray n dd sl)
        ⟨ho, rfl, ⟨_, ho, rfl⟩, call_meets F.slot_tuple_mul ⟨_, ho, rfl⟩ F.entry_tuple_mul (F.args_tuple_mul_2 _ _) (tuple_mulW l its.toArray n dd sl k t hrange n1 n2 (by omega) n4 (by rw [size_rep, List.size_toArray]; omega)) ⟨ho, ?_⟩⟩)
    rw [size_rep]
    refine ⟨.ref s.heap.objs.size, _, I.laid (t' := s.toks) (o := .tup (List.replicate k.toNat xs).flatten) (fun b ob w => Heap.get?_push_of_some _ w) (Nat.le_refl _) ?_, rfl, q _ (I.hok.fresh (Nat.le_refl _))⟩
    exact ⟨by rw [PyProof.Rows.lm_len_rep_flat, Nat.mul_comm]; omega, _, r.rep k.toNat, IsTup.new _ _⟩
end
theorem reps_rep {K : PySem.W.Frag} {F : Hp} {vs : List V} {ds : List D} (r : Reps K F vs ds) : ∀ m, Reps K F (List.replicate m vs).flatten (List.replicate m ds).flatten
  | 0 => .nil
  | m + 1 => by
    rw [List.replicate_succ, List.replicate_succ, List.flatten_cons, List.flatten_cons]
    exact r.app (reps_rep r m)
theorem flat1 {α : Type} (xs : List α) : (List.replicate 1 xs).flatten = xs := by simp
theorem flat0 {α : Type} (m : Nat) : (List.replicate m ([] : List α)).flatten = [] := by
  induction m with
  | zero => rfl
  | succ m ih => rw [List.replicate_succ, List.flatten_cons, ih]; rfl
section
variable {K : PySem.W.Frag} {O : Own} {Q : DK} {X : Cx}
/-! ### + -/
def rAddU (K : PySem.W.Frag) : R2 := fun x y H Q => (rI0 fun i j => .int (i + j)) x y H Q ∨ (∃ i j, x = .str i ∧ y = .str j ∧ i.length + j.length ≤ sizeLine ∧ Q (.str (i ++ j)) H) ∨ rCatA K x y H Q ∨ rCat x y H Q
theorem op_addU : OpR X (binaryOp .Add) (rAddU X.K) := op_add.or (op_add_str.or (op_catA.or op_cat))
theorem add_ii {i j : Int} (h : Q (.int (i + j)) O) : lR K (rAddU K) (.int i) (.int j) O Q := fun F H vx vy R k rx ry kk =>
  .inl ⟨i, j, rep_int rx, rep_int ry, kk _ _ _ _ _ .refl k (.int _) h⟩
theorem add_ss {a b : Str} (hl : a.length + b.length ≤ 1000) (h : Q (.str (a ++ b)) O) : lR K (rAddU K) (.str a) (.str b) O Q := fun F H vx vy R k rx ry kk =>
  .inr (.inl ⟨a, b, rep_str rx, rep_str ry, Nat.le_trans hl (by decide), kk _ _ _ _ _ .refl k (.str _) h⟩)
theorem add_tt {xs ys : List D} (hl : xs.length + ys.length ≤ 100000) (h : Q (.tup (xs ++ ys)) O) : lR K (rAddU K) (.tup xs) (.tup ys) O Q := fun F H vx vy R k rx ry kk => by
  obtain ⟨a, vs, rfl, ha, hv⟩ := rep_tup rx
  obtain ⟨b, ws, rfl, hb, hw⟩ := rep_tup ry
  refine .inr (.inr (.inl ⟨a, b, vs, ws, rfl, rfl, SqT.of (k.ex _ _ ha), SqT.of (k.ex _ _ hb), by rw [hv.1, hw.1]; exact Nat.le_trans hl (by decide), fun e => ?_, fun _ e => ?_, fun _ _ p hp => ?_⟩))
  · subst e
    have e2 : xs = [] := by have := hv.1; cases xs <;> simp_all
    subst e2
    exact kk _ _ _ _ _ .refl k ry h
  · subst e
    have e2 : ys = [] := by have := hw.1; cases ys <;> simp_all
    subst e2
    rw [List.append_nil] at h
    exact kk _ _ _ _ _ .refl k rx h
  · obtain ⟨k2, s2, sF⟩ := k.lay (o := .tup (vs ++ ws)) hp
    have r := (hv.app hw).mono sF
    exact kk _ _ _ _ _ s2 k2 (.tup upd_same r.1 r.2) h
theorem add_ll {xs ys : List D} (hl : xs.length + ys.length ≤ 100000) (h : Q (.lst (xs ++ ys)) O) : lR K (rAddU K) (.lst xs) (.lst ys) O Q := fun F H vx vy R k rx ry kk => by
  obtain ⟨a, vs, rfl, ha, hv⟩ := rep_lst rx
  obtain ⟨b, ws, rfl, hb, hw⟩ := rep_lst ry
  refine .inr (.inr (.inr ⟨a, b, vs, ws, rfl, rfl, k.ex _ _ ha, k.ex _ _ hb, by rw [hv.1, hw.1]; exact Nat.le_trans hl (by decide), fun p hp => ?_⟩))
  obtain ⟨k2, s2, sF⟩ := k.lay (o := .lst (vs ++ ws)) hp
  have r := (hv.app hw).mono sF
  exact kk _ _ _ _ _ s2 k2 (.lst upd_same r.1 r.2) h
/-! ### ints -/
theorem sub_ii {i j : Int} (h : Q (.int (i - j)) O) : lR K (rI0 fun i j => .int (i - j)) (.int i) (.int j) O Q := fun F H vx vy R k rx ry kk => ⟨i, j, rep_int rx, rep_int ry, kk _ _ _ _ _ .refl k (.int _) h⟩
theorem rI_ii {C : Int → Int → Prop} {g : Int → Int → Int} {i j : Int} (hc : C i j) (h : Q (.int (g i j)) O) : lR K (rI C fun i j => .int (g i j)) (.int i) (.int j) O Q := fun F H vx vy R k rx ry kk => ⟨i, j, rep_int rx, rep_int ry, hc, kk _ _ _ _ _ .refl k (.int _) h⟩
theorem rB_ii {g : Int → Int → Bool} {i j : Int} (h : Q (.bl (g i j)) O) : lR K (rI0 fun i j => .bl (g i j)) (.int i) (.int j) O Q := fun F H vx vy R k rx ry kk => ⟨i, j, rep_int rx, rep_int ry, kk _ _ _ _ _ .refl k (.bl _) h⟩
def rMulU (K : PySem.W.Frag) : R2 := fun x y H Q => rI CMul (fun i j => .int (i * j)) x y H Q ∨ rI CMulW (fun i j => .int (i * j)) x y H Q ∨ rRepU K x y H Q
theorem op_mulU : OpR X (binaryOp .Mult) (rMulU X.K) := op_mul.or (op_mulW.or op_repU)
theorem mul_ii {i j : Int} (hc : CMul i j ∨ CMulW i j) (h : Q (.int (i * j)) O) : lR K (rMulU K) (.int i) (.int j) O Q := fun F H vx vy R k rx ry kk => by
  rcases hc with hc | hc
  · exact .inl (rI_ii hc h F H vx vy R k rx ry kk)
  · exact .inr (.inl (rI_ii hc h F H vx vy R k rx ry kk))
theorem rep_t {ds : List D} {k : Int} (h0 : 0 < k) (h1 : k ≤ 100000) (hz : ds.length * k.toNat ≤ 100000) (h : Q (.tup (List.replicate k.toNat ds).flatten) O) : lR K (rMulU K) (.tup ds) (.int k) O Q := fun F H vx vy R ok rx ry kk => by
  obtain ⟨a, vs, rfl, ha, hv⟩ := rep_tup rx
  refine .inr (.inr ?_)
  refine ⟨a, k, vs, rfl, rep_int ry, SqT.of (ok.ex _ _ ha), h0, h1, by rw [hv.1]; exact hz, ?_⟩
  by_cases e : vs = [] ∨ k = 1
  · refine .inl ⟨e, kk _ _ _ _ _ .refl ok rx ?_⟩
    rcases e with e | e
    · subst e
      have : ds = [] := by have := hv.1; cases ds <;> simp_all
      subst this
      rw [flat0] at h; exact h
    · subst e
      have e1 : (1 : Int).toNat = 1 := rfl
      rw [e1, flat1] at h; exact h
  · refine .inr ⟨fun z => e (.inl z), by have : k ≠ 1 := fun z => e (.inr z); omega, fun q hq => ?_⟩
    obtain ⟨k2, s2, sF⟩ := ok.lay (o := .tup (List.replicate k.toNat vs).flatten) hq
    have r := (reps_rep hv k.toNat).mono sF
    exact kk _ _ _ _ _ s2 k2 (.tup upd_same r.1 r.2) h
/-! ### is None, is True, is False -/
def isNone : D → Bool
  | .non => true
  | _ => false
def isBD (b : Bool) : D → Bool
  | .bl a => a == b
  | _ => false
theorem isNone_V {F : Hp} {v : V} {d : D} (r : Rep K F v d) : decide (v = .non) = isNone d := by cases r <;> first | rfl | simp [isNone]
theorem isBD_V {F : Hp} {v : V} {d : D} {b : Bool} (r : Rep K F v d) : decide (v = .bl b) = isBD b d := by cases r <;> simp [isBD, Bool.beq_eq_decide_eq]
/-- x is None, x is True, x is False -/
def rIsU (neg : Bool) : R2 := fun x y H Q => (y = .non ∧ Q (.bl (if neg then !decide (x = .non) else decide (x = .non))) H) ∨ ∃ b, y = .bl b ∧ Q (.bl (if neg then !decide (x = .bl b) else decide (x = .bl b))) H
theorem beq_bl {x : V} {v : Value} {b : Bool} (r : RelV x v) : (v == Value.bool b) = decide (x = .bl b) := by
  cases x with
  | bl a =>
    have e : v = Value.bool a := r
    subst e
    by_cases h : a = b
    · subst h; simp
    · rw [beq_eq_false_iff_ne.mpr (fun z => h (Value.bool.inj z)), decide_eq_false fun z => h (V.bl.inj z)]
  | non => have e : v = Value.none := r; subst e; rfl
  | ty n => have e : v = Value.type n := r; subst e; rfl
  | ref a => have e : v = Value.ref a := r; subst e; rfl
  | _ => obtain ⟨t, rfl⟩ := r; rfl
theorem plain_bl {x : V} {v : Value} {b : Bool} (r : RelV x v) : plainIs v (Value.bool b) = true := by
  cases x with
  | bl a => have e : v = Value.bool a := r; subst e; rfl
  | non => have e : v = Value.none := r; subst e; rfl
  | ty n => have e : v = Value.type n := r; subst e; rfl
  | ref a => have e : v = Value.ref a := r; subst e; rfl
  | _ => obtain ⟨t, rfl⟩ := r; rfl
theorem op_isU : OpR X (compareOp .Is) (rIsU false) := by
  intro pins s σ H x y v u Q I rx ry h
  rcases h with ⟨rfl, q⟩ | ⟨b, rfl, q⟩
  · exact op_isN pins s σ H x .non v u Q I rx ry ⟨rfl, q⟩
  · cases (show u = Value.bool b from ry)
    exact wpAny_is_plain (plain_bl rx) (by rw [beq_bl rx]; exact ⟨.bl _, H, I, rfl, q⟩)
theorem op_notU : OpR X (compareOp .IsNot) (rIsU true) := by
  intro pins s σ H x y v u Q I rx ry h
  rcases h with ⟨rfl, q⟩ | ⟨b, rfl, q⟩
  · exact op_notN pins s σ H x .non v u Q I rx ry ⟨rfl, q⟩
  · cases (show u = Value.bool b from ry)
    exact wpAny_isNot_plain (plain_bl rx) (by rw [beq_bl rx]; exact ⟨.bl _, H, I, rfl, q⟩)
theorem isN_r {x : D} (h : Q (.bl (isNone x)) O) : lR K (rIsU false) x .non O Q := fun F H vx vy R k rx ry kk => by
  refine .inl ⟨rep_non ry, ?_⟩
  rw [isNone_V rx]
  exact kk _ _ _ _ _ .refl k (.bl _) h
theorem notN_r {x : D} (h : Q (.bl (!isNone x)) O) : lR K (rIsU true) x .non O Q := fun F H vx vy R k rx ry kk => by
  refine .inl ⟨rep_non ry, ?_⟩
  rw [isNone_V rx]
  exact kk _ _ _ _ _ .refl k (.bl _) h
theorem isB_r {x : D} {b : Bool} (h : Q (.bl (isBD b x)) O) : lR K (rIsU false) x (.bl b) O Q := fun F H vx vy R k rx ry kk => by
  refine .inr ⟨b, rep_bl ry, ?_⟩
  rw [isBD_V rx]
  exact kk _ _ _ _ _ .refl k (.bl _) h
theorem notB_r {x : D} {b : Bool} (h : Q (.bl (!isBD b x)) O) : lR K (rIsU true) x (.bl b) O Q := fun F H vx vy R k rx ry kk => by
  refine .inr ⟨b, rep_bl ry, ?_⟩
  rw [isBD_V rx]
  exact kk _ _ _ _ _ .refl k (.bl _) h

/-! ### data as the library's data -/
mutual
def pyD : D → Option PyData
  | .non => some .none
  | .bl b => some (.bool b)
  | .int i => some (.int i)
  | .str x => some (.str x)
  | .tup xs => (pyDs xs).map .tuple
  | .lst xs => (pyDs xs).map .list
  | .ins _ _ => none
  | .raw _ => none
  | .scr _ => none
  | .ty _ => none
def pyDs : List D → Option (List PyData)
  | [] => some []
  | d :: ds => match pyD d, pyDs ds with
    | some p, some ps => some (p :: ps)
    | _, _ => none
end
theorem pyDs_cons {d : D} {ds : List D} {qs : List PyData} (h : pyDs (d :: ds) = some qs) : ∃ p ps, pyD d = some p ∧ pyDs ds = some ps ∧ qs = p :: ps := by
  unfold pyDs at h
  split at h
  · rename_i p ps h1 h2
    cases h
    exact ⟨p, ps, h1, h2, rfl⟩
  · cases h
theorem pyDs_map {α : Type} {f : α → D} {g : α → PyData} : ∀ {xs : List α}, (∀ x ∈ xs, pyD (f x) = some (g x)) → pyDs (xs.map f) = some (xs.map g)
  | [], _ => by simp [pyDs]
  | x :: xs, h => by
    rw [List.map_cons, List.map_cons]
    unfold pyDs
    rw [h x List.mem_cons_self, pyDs_map fun y hy => h y (List.mem_cons_of_mem _ hy)]
theorem dpAll_of {H : Hp} : ∀ {ds : List D} {vs : List V} {ps : List PyData}, (∀ (i : Nat) (v : V) (d : D), vs[i]? = some v → ds[i]? = some d → ∀ p, pyD d = some p → Dp K H v p) → vs.length = ds.length → pyDs ds = some ps → DpAll K H vs ps
  | [], vs, ps, _, hl, h => by
    unfold pyDs at h
    cases h
    cases vs with
    | nil => exact .nil
    | cons => simp at hl
  | d :: ds, vs, ps, ih, hl, h => by
    obtain ⟨p, qs, h1, h2, rfl⟩ := pyDs_cons h
    cases vs with
    | nil => simp at hl
    | cons v vs => exact .cons (ih 0 v d rfl rfl p h1) (dpAll_of (fun i v' d' a b => ih (i + 1) v' d' (by simpa using a) (by simpa using b)) (by simpa using hl) h2)
theorem dp_of {F H : Hp} (e : Same F H) {v : V} {d : D} (r : Rep K F v d) : ∀ p, pyD d = some p → Dp K H v p := by
  induction r with
  | non => intro p h; unfold pyD at h; cases h; exact .non
  | bl b => intro p h; unfold pyD at h; cases h; exact .bl b
  | int b => intro p h; unfold pyD at h; cases h; exact .int b
  | str b => intro p h; unfold pyD at h; cases h; exact .str b
  | raw a => intro p h; unfold pyD at h; cases h
  | ty a => intro p h; unfold pyD at h; cases h
  | scr hs => intro p h; unfold pyD at h; cases h
  | ins => intro p h; unfold pyD at h; cases h
  | @tup a vs ds hF hl hr ih =>
    intro p h
    unfold pyD at h
    cases q : pyDs ds with
    | none => rw [q] at h; cases h
    | some ps => rw [q] at h; cases h; exact .tup (SqT.of (e _ _ hF)) (dpAll_of ih hl q)
  | @lst a vs ds hF hl hr ih =>
    intro p h
    unfold pyD at h
    cases q : pyDs ds with
    | none => rw [q] at h; cases h
    | some ps => rw [q] at h; cases h; exact .lst (SqL.of (e _ _ hF)) (dpAll_of ih hl q)

/-! ### == -/
def rEqU (K : PySem.W.Frag) : R2 := fun x y H Q => rEq x y H Q ∨ rEqD K x y H Q
def rNeU (K : PySem.W.Frag) : R2 := fun x y H Q => rNe x y H Q ∨ rNeD K x y H Q
theorem op_eqU (hu : X.A.units + 64 < cLine) : OpR X (compareOp .Eq) (rEqU X.K) := op_eq.or (op_eqD hu)
theorem op_neU (hu : X.A.units + 64 < cLine) : OpR X (compareOp .NotEq) (rNeU X.K) := op_ne.or (op_neD hu)
theorem eq_ii {i j : Int} (h : Q (.bl (decide (i = j))) O) : lR K (rEqU K) (.int i) (.int j) O Q := fun F H vx vy R k rx ry kk => by
  cases rx; cases ry
  exact .inl ⟨rfl, by rw [dec_int, Bool.beq_eq_decide_eq]; exact kk _ _ _ _ _ .refl k (.bl _) h⟩
theorem ne_ii {i j : Int} (h : Q (.bl (!decide (i = j))) O) : lR K (rNeU K) (.int i) (.int j) O Q := fun F H vx vy R k rx ry kk => by
  cases rx; cases ry
  exact .inl ⟨rfl, by rw [dec_int, Bool.beq_eq_decide_eq]; exact kk _ _ _ _ _ .refl k (.bl _) h⟩
theorem eq_ss {i j : Str} (h : Q (.bl (decide (i = j))) O) : lR K (rEqU K) (.str i) (.str j) O Q := fun F H vx vy R k rx ry kk => by
  cases rx; cases ry
  exact .inl ⟨rfl, by rw [dec_str, Bool.beq_eq_decide_eq]; exact kk _ _ _ _ _ .refl k (.bl _) h⟩
theorem eq_bb {i j : Bool} (h : Q (.bl (i == j)) O) : lR K (rEqU K) (.bl i) (.bl j) O Q := fun F H vx vy R k rx ry kk => by
  cases rx; cases ry
  exact .inl ⟨rfl, by rw [dec_bl]; exact kk _ _ _ _ _ .refl k (.bl _) h⟩
theorem ne_bb {i j : Bool} (h : Q (.bl (!(i == j))) O) : lR K (rNeU K) (.bl i) (.bl j) O Q := fun F H vx vy R k rx ry kk => by
  cases rx; cases ry
  exact .inl ⟨rfl, by rw [dec_bl]; exact kk _ _ _ _ _ .refl k (.bl _) h⟩
theorem eq_dd {x y : D} {p q : PyData} {b : Bool} (hx : pyD x = some p) (hy : pyD y = some q) (sp : SeqAt.shaped p = true) (sq : SeqAt.shaped q = true) (e : PyData.eqv p q = b) (h : Q (.bl b) O) : lR K (rEqU K) x y O Q := fun F H vx vy R k rx ry kk =>
  .inr ⟨p, q, dp_of k.ex rx p hx, dp_of k.ex ry q hy, sp, sq, by rw [e]; exact kk _ _ _ _ _ .refl k (.bl _) h⟩
theorem ne_dd {x y : D} {p q : PyData} {b : Bool} (hx : pyD x = some p) (hy : pyD y = some q) (sp : SeqAt.shaped p = true) (sq : SeqAt.shaped q = true) (e : PyData.eqv p q = b) (h : Q (.bl (!b)) O) : lR K (rNeU K) x y O Q := fun F H vx vy R k rx ry kk =>
  .inr ⟨p, q, dp_of k.ex rx p hx, dp_of k.ex ry q hy, sp, sq, by rw [e]; exact kk _ _ _ _ _ .refl k (.bl _) h⟩

/-! ### in -/
def eqF : D → D → Bool
  | .non, .non => true
  | .bl a, .bl b => a == b
  | .bl a, .int b => (if a then 1 else 0) == b
  | .int a, .bl b => a == (if b then 1 else 0)
  | .int a, .int b => a == b
  | .str a, .str b => a == b
  | _, _ => false
def flatD : D → Bool
  | .non => true | .bl _ => true | .int _ => true | .str _ => true | _ => false
theorem flatD_V {F : Hp} {v : V} {d : D} (r : Rep K F v d) (h : flatD d = true) : flatV v = true := by cases r <;> first | rfl | (exact absurd h (by simp [flatD]))
theorem eqF_V {F : Hp} {v w : V} {d e : D} (r : Rep K F v d) (s : Rep K F w e) (h1 : flatD d = true) (h2 : flatD e = true) : eqV v w = eqF d e := by
  cases r <;> first | cases h1 | skip
  all_goals (cases s <;> first | cases h2 | skip)
  all_goals rfl
theorem inF_V {F : Hp} {w : V} {e : D} (s : Rep K F w e) (h2 : flatD e = true) : ∀ {vs : List V} {ds : List D}, Reps K F vs ds → ds.all flatD = true → vs.all flatV = true ∧ inV w vs = ds.any fun y => eqF y e
  | vs, [], r, _ => by rw [r.unnil]; exact ⟨rfl, rfl⟩
  | vs, d :: ds, r, h => by
    obtain ⟨v, t, rfl, r1, r2⟩ := r.uncons
    rw [List.all_cons, Bool.and_eq_true] at h
    obtain ⟨i1, i2⟩ := inF_V s h2 r2 h.2
    refine ⟨by rw [List.all_cons, flatD_V r1 h.1, i1]; rfl, ?_⟩
    show (eqV v w || inV w t) = (eqF d e || _)
    rw [eqF_V r1 s h.1 h2, i2]
def rInDct (neg : Bool) : R2 := fun x y H Q => ∃ a o, y = .ref a ∧ DGet H a x o ∧ Q (.bl (if neg then !o.isSome else o.isSome)) H
theorem op_inDct (hu : X.A.units + 1 < cLine) : OpR X (compareOp .In) (rInDct false) := by
  intro pins s σ H x y v u Q I rx ry h
  obtain ⟨a, o, rfl, g, q⟩ := h
  obtain rfl : u = Value.ref a := ry
  exact d_in hu I g rx fun s3 I3 => ⟨.bl o.isSome, H, I3, rfl, q⟩
theorem op_notInDct (hu : X.A.units + 1 < cLine) : OpR X (compareOp .NotIn) (rInDct true) := by
  intro pins s σ H x y v u Q I rx ry h
  obtain ⟨a, o, rfl, g, q⟩ := h
  obtain rfl : u = Value.ref a := ry
  exact d_notIn hu I g rx fun s3 I3 => ⟨.bl (!o.isSome), H, I3, rfl, q⟩
def rInU (K : PySem.W.Frag) (neg : Bool) : R2 := fun x y H Q => rIn K neg x y H Q ∨ (if neg then rNotInD K x y H Q else rInD K x y H Q) ∨ (∃ i j, x = .str i ∧ y = .str j ∧ Q (.bl (if neg then !(!(Builtin.Str.occurrences j i 0 j.length 1).isEmpty) else !(Builtin.Str.occurrences j i 0 j.length 1).isEmpty)) H) ∨ rInDct neg x y H Q
theorem op_inU (hu : X.A.units + 65 < cLine) : OpR X (compareOp .In) (rInU X.K false) := op_in_seq.or ((op_inD hu).or (op_in_str.or (op_inDct (by omega))))
theorem op_notInU (hu : X.A.units + 65 < cLine) : OpR X (compareOp .NotIn) (rInU X.K true) := op_notIn_seq.or ((op_notInD hu).or (op_notin_str.or (op_notInDct (by omega))))
theorem in_flat {neg : Bool} {x y : D} {ds : List D} {b : Bool} (hy : asL O y = some ds) (fx : flatD x = true) (fd : ds.all flatD = true) (e : (ds.any fun z => eqF z x) = b) (h : Q (.bl (if neg then !b else b)) O) : lR K (rInU K neg) x y O Q := fun F H vx vy R k rx ry kk => by
  obtain ⟨p, vs, rfl, hs, hr⟩ := asL_of k ry hy
  obtain ⟨i1, i2⟩ := inF_V rx fx hr fd
  refine .inl ⟨p, vs, rfl, hs, flatD_V rx fx, i1, ?_⟩
  rw [i2, e]
  exact kk _ _ _ _ _ .refl k (.bl _) h
theorem in_deep {neg : Bool} {x y : D} {ds : List D} {p : PyData} {ps : List PyData} {b : Bool} (hy : (y = .lst ds) ∨ ∃ a, y = .raw a ∧ O a = some (.lst ds)) (hx : pyD x = some p) (hd : pyDs ds = some ps) (sx : SeqAt.shaped p = true) (sd : SeqAt.shaped (.list ps) = true)
    (e : (ps.any fun z => PyData.eqv z p) = b) (h : Q (.bl (if neg then !b else b)) O) : lR K (rInU K neg) x y O Q := fun F H vx vy R k rx ry kk => by
  obtain ⟨a, vs, rfl, hH, hr⟩ : ∃ a vs, vy = .ref a ∧ H a = some (.lst vs) ∧ Reps K F vs ds := by
    rcases hy with rfl | ⟨a, rfl, ha⟩
    · obtain ⟨a, vs, e1, e2, e3⟩ := rep_lst ry
      exact ⟨a, vs, e1, k.ex _ _ e2, e3⟩
    · obtain ⟨_, vs, h1, h2⟩ := k.own _ _ ha
      exact ⟨a, vs, rep_raw ry, h1, h2⟩
  have d1 : Dp K H vx p := dp_of k.ex rx p hx
  have d2 : Dp K H (.ref a) (.list ps) := .lst (SqL.of hH) (dpAll_of (fun i v d h1 h2 q hq => dp_of k.ex (hr.2 i v d h1 h2) q hq) hr.1 hd)
  refine .inr (.inl ?_)
  cases neg with
  | true => exact ⟨p, ps, d1, d2, sx, sd, by rw [e]; exact kk _ _ _ _ _ .refl k (.bl _) h⟩
  | false => exact ⟨p, ps, d1, d2, sx, sd, by rw [e]; exact kk _ _ _ _ _ .refl k (.bl _) h⟩
theorem in_str' {neg : Bool} {i j : Str} {b : Bool} (e : (!(Builtin.Str.occurrences j i 0 j.length 1).isEmpty) = b) (h : Q (.bl (if neg then !b else b)) O) : lR K (rInU K neg) (.str i) (.str j) O Q := fun F H vx vy R k rx ry kk => by
  refine .inr (.inr (.inl ⟨i, j, rep_str rx, rep_str ry, ?_⟩))
  rw [e]
  exact kk _ _ _ _ _ .refl k (.bl _) h
theorem dget_of {F H : Hp} (k : Ok K F O H) {a : Addr} {g : List Int → Option D} {n : Nat} (ho : O a = some (.dct g n)) {v : V} {ks : List Int} (r : Rep K F v (.tup (ks.map .int))) :
    ∃ o, DGet H a v o ∧ (∀ d, g ks = some d → ∃ w, o = some w ∧ Rep K F w d) ∧ (g ks = none → o = none) := by
  obtain ⟨_, kws, h1, h2, h3, h4⟩ := k.own _ _ ho
  obtain ⟨b, vs, rfl, hF, hr⟩ := rep_tup r
  have e := reps_int_eq hr
  subst e
  have hk : (ks.map V.int) = (ks.map Sum.inl).map kV := by rw [List.map_map]; rfl
  refine ⟨valV kws (ks.map Sum.inl), .inr ⟨kws, ks.map Sum.inl, b, Rd.of h1, rfl, by rw [← hk]; exact k.ex _ _ hF, rfl⟩, fun d hd => h3 ks d hd, h4 ks⟩
theorem in_dct {neg : Bool} {a : Addr} {g : List Int → Option D} {n : Nat} {ks : List Int} (ho : O a = some (.dct g n)) (h : Q (.bl (if neg then !(g ks).isSome else (g ks).isSome)) O) : lR K (rInU K neg) (.tup (ks.map .int)) (.raw a) O Q := fun F H vx vy R k rx ry kk => by
  obtain ⟨o, hd, h1, h2⟩ := dget_of k ho rx
  refine .inr (.inr (.inr ⟨a, o, rep_raw ry, hd, ?_⟩))
  have e : o.isSome = (g ks).isSome := by
    cases q : g ks with
    | none => rw [h2 q] <;> rfl
    | some d => obtain ⟨w, rfl, _⟩ := h1 d q; rfl
  rw [e]
  exact kk _ _ _ _ _ .refl k (.bl _) h

/-! ### [] -/
def rIxDct : R2 := fun x y H Q => ∃ a v, x = .ref a ∧ DGet H a y (some v) ∧ Q v H
theorem ix_dct0 (hu : X.A.units + 1 < cLine) : IxR X rIxDct := by
  intro value slice pins s σ H x y v u Q I rx ry h hs
  obtain ⟨a, w, rfl, g, q⟩ := h
  obtain rfl : v = Value.ref a := rx
  exact tail_any (dict_typeIs I g) PySem.F.slot_dict_getitem.lookup (d_getItem hu I g ry fun w' s3 I3 rw' => ⟨w, H, I3, rw', q⟩) hs
def rIxU (K : PySem.W.Frag) : R2 := fun x y H Q => rIx K x y H Q ∨ rIxDct x y H Q
theorem ix_U (hu : X.A.units + 1 < cLine) : IxR X (rIxU X.K) := ix_seq.or (ix_dct0 hu)
theorem at_reps {F : Hp} {vs : List V} {ds : List D} (r : Reps K F vs ds) {i : Int} {d : D} (h : atI ds i = some d) : ∃ v, atI vs i = some v ∧ Rep K F v d := by
  unfold atI at h ⊢
  rw [r.1]
  cases q : ixN ds.length i with
  | none => rw [q] at h; cases h
  | some j => rw [q] at h; exact r.get h
theorem ix_sq {x : D} {ds : List D} {i : Int} {d : D} (hx : asL O x = some ds) (hi : atI ds i = some d) (h : Q d O) : lR K (rIxU K) x (.int i) O Q := fun F H vx vy R k rx ry kk => by
  obtain ⟨p, vs, rfl, hs, hr⟩ := asL_of k rx hx
  obtain ⟨v, hv, rv⟩ := at_reps hr hi
  rcases hs with hs | hs
  · exact .inl (.inl ⟨p, vs, i, v, rfl, rep_int ry, hs, hv, kk _ _ _ _ _ .refl k rv h⟩)
  · exact .inl (.inr (.inl ⟨p, vs, i, v, rfl, rep_int ry, hs, hv, kk _ _ _ _ _ .refl k rv h⟩))
theorem ix_st {z : Str} {i : Int} {c : Nat} (hz : z.length ≤ 1000) (hi : atI z.cps.toList i = some c) (h : Q (.str ⟨#[c]⟩) O) : lR K (rIxU K) (.str z) (.int i) O Q := fun F H vx vy R k rx ry kk =>
  .inl (.inr (.inr ⟨z, i, c, rep_str rx, rep_int ry, Nat.le_trans hz (by decide), hi, kk _ _ _ _ _ .refl k (.str _) h⟩))
theorem ix_dc {a : Addr} {g : List Int → Option D} {n : Nat} {ks : List Int} {d : D} (ho : O a = some (.dct g n)) (hd : g ks = some d) (h : Q d O) : lR K (rIxU K) (.raw a) (.tup (ks.map .int)) O Q := fun F H vx vy R k rx ry kk => by
  obtain ⟨o, hg, h1, _⟩ := dget_of k ho ry
  obtain ⟨w, rfl, rw'⟩ := h1 d hd
  exact .inr ⟨a, w, rep_raw rx, hg, kk _ _ _ _ _ .refl k rw' h⟩
end
section
variable {X : Cx} {ρ : Env} {O : Own} {Q : DK} {e a b c : Expr} {pos p : Pos} {QT : Bool → Own → Prop}
theorem we_ix (hu : X.A.units + 65 < cLine) (hs : PlainIx b) (h : WE X a ρ O fun x O1 => WE X b ρ O1 fun y O2 => lR X.K (rIxU X.K) x y O2 Q) : WE X (.Subscript a b pos) ρ O Q :=
  fun F σ H R E k kk => PE.to (pe_ix (ix_U (by omega)) pe_can pe_can hs) (two (ta := can X a) (tb := can X b) h E k kk)

/-! ### slices -/
def canO (X : Cx) (e : Option Expr) : TO := fun σ H Q => ∀ (pins : List (Addr × Obj)) (s : Shared), Inv X pins σ H s → wpAny (model X.prog X.w) X.A (evalPart e X.env) (fun u s' => ∃ o H', Inv X pins σ H' s' ∧ IsPart u o ∧ Q o H') X.xe s
theorem po_can {e : Option Expr} : PO X e (canO X e) := ⟨fun pins s _ _ _ I h => h pins s I⟩
theorem PO.to {e : Option Expr} {t : TO} (p : PO X e t) {σ : L2.St} {H : Hp} {R : Option Int → Hp → Prop} (h : t σ H R) : canO X e σ H R := fun pins s I => p.run pins s σ H R I h
def KO (K : PySem.W.Frag) (F : Hp) (O : Own) (H : Hp) (Q : Option Int → Own → Prop) (R : Option Int → Hp → Prop) : Prop := ∀ F' O' H' o, Stp F O H F' O' H' → Ok K F' O' H' → Q o O' → R o H'
def WO (X : Cx) (e : Option Expr) (ρ : Env) (O : Own) (Q : Option Int → Own → Prop) : Prop := ∀ F σ H R, EnvOk X.K F σ ρ → Ok X.K F O H → KO X.K F O H Q R → canO X e σ H R
theorem wo_none {QO : Option Int → Own → Prop} (h : QO none O) : WO X none ρ O QO := fun F σ H R E k kk => PO.to po_none (kk _ _ _ _ .refl k h)
theorem wo_some {QO : Option Int → Own → Prop} (h : WE X e ρ O fun d O1 => ∃ i, d = .int i ∧ QO (some i) O1) : WO X (some e) ρ O QO := by
  intro F σ H R E k kk
  refine PO.to (po_some pe_can) ?_
  refine h F σ H _ E k fun F1 O1 H1 v d s1 k1 r q => ?_
  obtain ⟨i, rfl, q⟩ := q
  exact ⟨i, rep_int r, kk _ _ _ _ s1 k1 q⟩
def cutD {α : Type} (xs : List α) (lo hi : Option Int) : List α := (xs.drop (HT.sIx xs.length 0 lo)).take (HT.sIx xs.length xs.length hi - HT.sIx xs.length 0 lo)
theorem cutD_map {α β : Type} (f : α → β) (xs : List α) (lo hi : Option Int) : cutD (xs.map f) lo hi = (cutD xs lo hi).map f := by
  unfold cutD
  rw [List.length_map, List.map_take, List.map_drop]
theorem cutV_reps {K : PySem.W.Frag} {F : Hp} {vs : List V} {ds : List D} (r : Reps K F vs ds) (lo hi : Option Int) : Reps K F (cutV vs lo hi) (cutD ds lo hi) := by
  unfold cutV cutD
  rw [r.1]
  exact (r.drop _).take _
def rSlU (K : PySem.W.Frag) : V → Option Int → Option Int → Hp → VK → Prop := fun x lo hi H Q => rSlL K x lo hi H Q ∨ rSlA K x lo hi H Q ∨ rSlS x lo hi H Q
theorem sl_U : SlR X (rSlU X.K) := sl_list.or (sl_tupA.or sl_str)
def lS (K : PySem.W.Frag) (x : D) (l u : Option Int) (O : Own) (Q : DK) : Prop := ∀ F H vx R, Ok K F O H → Rep K F vx x → KE K F O H Q R → rSlU K vx l u H R
theorem we_slice {lo hi : Option Expr} {p2 : Pos} (h : WE X e ρ O fun x O1 => WO X lo ρ O1 fun l O2 => WO X hi ρ O2 fun u O3 => lS X.K x l u O3 Q) : WE X (.Subscript e (.Slice lo hi none p2) pos) ρ O Q := by
  intro F σ H R E k kk
  refine PE.to (pe_slice sl_U pe_can po_can po_can) ?_
  refine h F σ H _ E k fun F1 O1 H1 vx x s1 k1 rx q1 => ?_
  refine q1 F1 σ H1 _ (E.mono s1.fr) k1 fun F2 O2 H2 l s2 k2 q2 => ?_
  refine q2 F2 σ H2 _ (E.mono (s1.trans s2).fr) k2 fun F3 O3 H3 u s3 k3 q3 => ?_
  exact q3 F3 H3 vx R k3 (rx.mono (s2.trans s3).fr) (kk.fwd ((s1.trans s2).trans s3))
variable {K : PySem.W.Frag}
theorem sl_l {ds : List D} {l u : Option Int} (h : Q (.lst (cutD ds l u)) O) : lS K (.lst ds) l u O Q := fun F H vx R k rx kk => by
  obtain ⟨a, vs, rfl, hF, hr⟩ := rep_lst rx
  refine .inl ⟨a, vs, rfl, SqL.of (k.ex _ _ hF), fun p hp => ?_⟩
  obtain ⟨k2, s2, sF⟩ := k.lay (o := .lst (cutV vs l u)) hp
  have r := (cutV_reps hr l u).mono sF
  exact kk _ _ _ _ _ s2 k2 (.lst upd_same r.1 r.2) h
theorem sl_sc {ns : List Int} {l u : Option Int} (h : Q (.lst ((cutD ns l u).map .int)) O) : lS K (.scr ns) l u O Q := fun F H vx R k rx kk => by
  cases rx with
  | scr hs =>
    refine .inl ⟨_, _, rfl, k.ex.seq hs, fun p hp => ?_⟩
    obtain ⟨k2, s2, sF⟩ := k.lay (o := .lst (cutV (ns.map V.int) l u)) hp
    have r := (cutV_reps (reps_ints (K := K) (F := F) ns) l u).mono sF
    rw [cutD_map] at r
    exact kk _ _ _ _ _ s2 k2 (.lst upd_same r.1 r.2) h
theorem sl_t {ds : List D} {l u : Option Int} (h : Q (.tup (cutD ds l u)) O) : lS K (.tup ds) l u O Q := fun F H vx R k rx kk => by
  obtain ⟨a, vs, rfl, hF, hr⟩ := rep_tup rx
  refine .inr (.inl ⟨a, vs, rfl, SqT.of (k.ex _ _ hF), fun hw => ?_, fun _ p hp => ?_⟩)
  · have e : cutD ds l u = ds := by
      unfold cutD
      rw [← hr.1, hw.1, hw.2, List.drop_zero, Nat.sub_zero, hr.1, List.take_length]
    rw [e] at h
    exact kk _ _ _ _ _ .refl k rx h
  · obtain ⟨k2, s2, sF⟩ := k.lay (o := .tup (cutV vs l u)) hp
    have r := (cutV_reps hr l u).mono sF
    exact kk _ _ _ _ _ s2 k2 (.tup upd_same r.1 r.2) h
theorem sl_s {z : Str} {l u : Option Int} (hz : z.length ≤ 1000) (h : Q (.str (cutS z l u)) O) : lS K (.str z) l u O Q := fun F H vx R k rx kk =>
  .inr (.inr ⟨z, rep_str rx, Nat.le_trans hz (by decide), kk _ _ _ _ _ .refl k (.str _) h⟩)

/-! ### e.f -/
/-- the class at C may be asked for the attribute f -/
structure Fld (K : PySem.W.Frag) (C : Addr) (f : Str) : Prop where
  cl : Cls K C
  na : NoAttr K C f
theorem we_fld {f : Str} (hb : attributeBase e f X.env (eval e X.env) = eval e X.env) (h : WE X e ρ O fun x O1 => ∃ C fs d, x = .ins C fs ∧ fs.lookup f = some d ∧ Fld X.K C f ∧ Q d O1) : WE X (.Attribute e f pos) ρ O Q := by
  intro F σ H R E k kk
  refine PE.to (pe_fld pe_can hb) ?_
  refine h F σ H _ E k fun F1 O1 H1 v x s1 k1 r q => ?_
  obtain ⟨C, fs, d, rfl, hl, fl, q⟩ := q
  cases r with
  | @ins a _ dx gs _ hF g h1 h0 hr =>
    exact ⟨a, C, dx, gs, g f, rfl, k1.ex _ _ hF, fl.cl, fl.na, h1 f d hl, kk _ _ _ _ _ s1 k1 (hr f d hl) q⟩

/-! ### calls -/
/-- a contract: the arguments, what is ours, what is wanted -/
abbrev Ct := List D → Own → DK → Prop
def spC (K : PySem.W.Frag) (ct : Ct) : Sp := fun vs H R _ => ∃ F O ds Q, Reps K F vs ds ∧ Ok K F O H ∧ ct ds O Q ∧ KE K F O H Q R
variable {es : List Expr} {x m : Str} {ct : Ct} {k j : Nat} {apos : Pos} {o : Expr} {C : Addr}
theorem we_call (cl : C8.Cal X.prog X.w X.K X.mg X.base k x (spC X.K ct) []) (hr : Room j X.A) (hk : k ≤ j) (hg : Gl X x) (hdb : (x == ("__debug__" : Str)) = false)
    (he : starEach (e :: es) X.env = (false, eval e X.env) :: starEach es X.env) (hpl : (backTo pos (starEach es X.env)).any (·.1) = false) (h : WA X (e :: es) ρ O fun ds O1 => ct ds O1 Q) : WE X (.Call (.Name x p) (e :: es) [] pos) ρ O Q := by
  intro F σ H R E k kk
  refine PE.to (C8.pe_c cl hr hk hg pa_can hdb he hpl) ?_
  refine h F σ H _ E k fun F1 O1 H1 vs ds s1 k1 r q => ?_
  exact ⟨F1, O1, ds, Q, by rw [List.append_nil]; exact r, k1, q, kk.fwd s1⟩
theorem we_callB {id : String} {r : List V → Hp → VK → Prop} (hc : CallR X (.builtin id) r) (hg : Gl X x) (hm : X.mg x = none) (hv : bootBuiltins x = some (.builtin id)) (hn : x ≠ "__name__") (hdb : (x == ("__debug__" : Str)) = false)
    (he : starEach (e :: es) X.env = (false, eval e X.env) :: starEach es X.env) (hpl : (backTo pos (starEach es X.env)).any (·.1) = false) (h : WA X (e :: es) ρ O fun ds O1 => lC X.K r ds O1 Q) : WE X (.Call (.Name x p) (e :: es) [] pos) ρ O Q := by
  intro F σ H R E k kk
  refine PE.to (pe_callB hc hg hm hv pa_can hn hdb he hpl) ?_
  refine h F σ H _ E k fun F1 O1 H1 vs ds s1 k1 r q => ?_
  exact q F1 H1 vs R k1 r (kk.fwd s1)
theorem we_callTy {T : String} {r : List V → Hp → VK → Prop} (hc : CallR X (.type T) r) (hg : Gl X x) (hm : X.mg x = none) (hv : bootBuiltins x = some (.type T)) (hn : x ≠ "__name__") (hdb : (x == ("__debug__" : Str)) = false)
    (he : starEach (e :: es) X.env = (false, eval e X.env) :: starEach es X.env) (hpl : (backTo pos (starEach es X.env)).any (·.1) = false) (h : WA X (e :: es) ρ O fun ds O1 => lC X.K r ds O1 Q) : WE X (.Call (.Name x p) (e :: es) [] pos) ρ O Q := by
  intro F σ H R E k kk
  refine PE.to (pe_callTy hc hg hm hv pa_can hn hdb he hpl) ?_
  refine h F σ H _ E k fun F1 O1 H1 vs ds s1 k1 r q => ?_
  exact q F1 H1 vs R k1 r (kk.fwd s1)
theorem holds_new {K : PySem.W.Frag} {F H : Hp} {C y : Addr} (dx : Addr) : HoldsO K F (upd H y (.ins C dx [])) y (.ins C []) := by
  refine ⟨dx, [], upd_same, rfl, fun _ => .non, ?_, ?_, ?_⟩
  · intro f d z; cases z
  · intro f _; rfl
  · intro f d z; cases z
/-- C(..): the new thing is written by __init__ alone -/
theorem we_make (cl : C8.Mak X.prog X.w X.K X.mg X.base k x C (spC X.K ct) []) (hr : Room j X.A) (hk : k + 1 ≤ j) (hg : Gl X x) (hdb : (x == ("__debug__" : Str)) = false)
    (he : starEach (e :: es) X.env = (false, eval e X.env) :: starEach es X.env) (hpl : (backTo pos (starEach es X.env)).any (·.1) = false)
    (h : WA X (e :: es) ρ O fun ds O1 => ∀ q, O1 q = none → ct (.raw q :: ds) (setO O1 q (.ins C [])) fun d O2 => d = .non ∧ ∃ fs, O2 q = some (.ins C fs) ∧ Q (.ins C fs) (delO O2 q)) : WE X (.Call (.Name x p) (e :: es) [] pos) ρ O Q := by
  intro F σ H R E k kk
  refine PE.to (C8.pe_mk cl hr hk hg pa_can hdb he hpl) ?_
  refine h F σ H _ E k fun F1 O1 H1 vs ds s1 k1 r q => ?_
  intro y dx hy hdx ne
  have g : Same H1 (upd H1 dx (.own y)) := fun a u z => by rw [upd_ne (ne_of_none z hdx)]; exact z
  obtain ⟨k2, s2⟩ := k1.grow g
  have hy2 : upd H1 dx (.own y) y = none := by rw [upd_ne (Ne.symm ne)]; exact hy
  obtain ⟨k3, s3⟩ := k2.mine (o := .ins C dx []) (c := .ins C []) hy2 (holds_new dx)
  refine ⟨F1, setO O1 y (.ins C []), .raw y :: ds, _, ?_, k3, q y (k1.fresh hy).2, ?_⟩
  · rw [List.append_nil]; exact .cons (.raw y) r
  · intro F4 O4 H4 v d s4 k4 rd q4
    obtain ⟨rfl, fs, hfs, q4⟩ := q4
    refine ⟨rep_non rd, ?_⟩
    obtain ⟨F5, k5, s5, r5⟩ := k4.freezeI hfs
    exact kk _ _ _ _ _ ((((s1.trans s2).trans s3).trans s4).trans s5) k5 r5 q4
/-- e.m(..) of an own instance -/
theorem we_meth {pl : Sem Bool} (cl : C8.Met X.prog X.w X.K X.mg X.base k C m (spC X.K ct) []) (hr : Room j X.A) (hk : k ≤ j)
    (hst : starEach (e :: es) X.env = (false, eval e X.env) :: starEach es X.env) (hpl : (backTo pos (starEach es X.env)).any (·.1) = false)
    (ht : eval (.Call (.Attribute o m apos) (e :: es) [] pos) X.env = (do
      let ov ← eval o X.env
      standAt apos.atName
      let (f, first) ← holding [ov] (getMethod ov m pl)
      callWith pos f first (backTo pos (starEach (e :: es) X.env)) (backToKw pos (keywordEach [] X.env))))
    (h : WE X o ρ O fun y O1 => ∃ fs, y = .ins C fs ∧ fs.lookup m = none ∧ WA X (e :: es) ρ O1 fun ds O2 => ct (y :: ds) O2 Q) : WE X (.Call (.Attribute o m apos) (e :: es) [] pos) ρ O Q := by
  intro F σ H R E k kk
  refine PE.to (C8.pe_mt cl hr hk pe_can pa_can hst hpl ht) ?_
  refine h F σ H _ E k fun F1 O1 H1 v x s1 k1 r q => ?_
  obtain ⟨fs, rfl, hl, q⟩ := q
  have r' := r
  cases r with
  | @ins a _ dx gs _ hF g h1 h0 hr =>
    refine ⟨a, dx, gs, rfl, k1.ex _ _ hF, h0 m hl, ?_⟩
    refine q F1 σ H1 _ (E.mono s1.fr) k1 fun F2 O2 H2 vs ds s2 k2 rs q2 => ?_
    exact ⟨F2, O2, .ins C fs :: ds, Q, by rw [List.append_nil]; exact .cons (r'.mono s2.fr) rs, k2, q2, kk.fwd (s1.trans s2)⟩
end
end Sd

-- SdD
/-! statements over data -/
namespace Sd
open PySem PySem.Spec PyProof.Rows L2

/-! ### enumerate over a tuple -/
theorem enumNewT (l : Addr) (ws : Array Value) (n : Nat) (dc : Option Addr) (sl : Array (Option Value)) :
    Meets (Builtin.«enumerate.__new__» ⟨[.type "enumerate", .ref l], []⟩) (fun _ R s => s.heap.get? l = some ⟨.type "tuple", dc, .seq ws n, sl⟩ ∧
      R (.ok (.ret (.ref (s.heap.push { cls := .type "tuple_iterator", data := .fields #[.ref l, .int 0 0] }).objs.size)))
        { s with heap := (s.heap.push { cls := .type "tuple_iterator", data := .fields #[.ref l, .int 0 0] }).push { cls := .type "enumerate", data := .fields #[.none, .bool false, .ref s.heap.objs.size, rawInt 0, .none, .none] } }) :=
  .of_wp fun prog w A R s h => by
    obtain ⟨hq, ge, dr, tk, oo⟩ := s
    obtain ⟨hl, h⟩ := h
    have sub_e := sub_enumerate
    have tT : Heap.IsTuple (Shared.heap ⟨hq, ge, dr, tk, oo⟩) l ws := ⟨_, hl, rfl, n, rfl⟩
    wp_walk using AutoSeq1.wpAny_loadPart' hl
    refine wpAny_stack_any (fun _ => wpAny_pure ?_)
    split
    · rename_i k0 _ _ _ _ _
      cases (k0 == Value.type "enumerate")
      · wp_walk using AutoSeq1.wpAny_loadPart' hl, wpAny_pyIter_tuple tT
        exact ⟨_, rfl, h⟩
      · wp_walk using AutoSeq1.wpAny_loadPart' hl, wpAny_pyIter_tuple tT
        exact ⟨_, rfl, h⟩
    · wp_walk using AutoSeq1.wpAny_loadPart' hl, wpAny_pyIter_tuple tT
      exact ⟨_, rfl, h⟩
theorem call_enumT {prog : Program} {w : World} {A : Around} {E : Value → Shared → Prop} {s : Shared} {l : Addr} {ws : Array Value} {Q : Value → Shared → Prop} (tT : s.heap.IsTuple l ws)
    (h : ∀ h2, IsEnum h2 (s.heap.objs.size + 1) s.heap.objs.size 0 .none → h2.IsTupleIter s.heap.objs.size l 0 → h2.objs.size = s.heap.objs.size + 2 →
      (∀ b ob, s.heap.get? b = some ob → h2.get? b = some ob) → Q (.ref (s.heap.objs.size + 1)) { s with heap := h2 }) : wpAny (model prog w) A (call (.type "enumerate") [.ref l]) Q E s := by
  obtain ⟨⟨ct, dc, dt, sl⟩, hl, hct, n, hdt⟩ := tT
  replace hct : ct = .type "tuple" := hct
  replace hdt : dt = .seq ws n := hdt
  subst hct hdt
  refine callType_new F.called_enumerate (by decide) (F.typeCall_enumerate_1 _) (F.newCall_enumerate_1 _) (fun ob => F.args_object_init_2 ob _) F.entry_enumerate_new (enumNewT l ws n dc sl) ⟨hl, ?_⟩
  have hz1 : (s.heap.push { cls := .type "tuple_iterator", data := .fields #[.ref l, .int 0 0] }).objs.size = s.heap.objs.size + 1 := Heap.size_push ..
  show _ ∧ _
  rw [hz1]
  have he1 : IsEnum ((s.heap.push { cls := .type "tuple_iterator", data := .fields #[.ref l, .int 0 0] }).push { cls := .type "enumerate", data := .fields #[.none, .bool false, .ref s.heap.objs.size, rawInt 0, .none, .none] }) (s.heap.objs.size + 1) s.heap.objs.size 0 .none := by
    have q := Heap.get?_push_size (s.heap.push { cls := .type "tuple_iterator", data := .fields #[.ref l, .int 0 0] }) (o := { cls := .type "enumerate", data := .fields #[.none, .bool false, .ref s.heap.objs.size, rawInt 0, .none, .none] }) rfl
    rw [hz1] at q; exact q
  refine ⟨⟨_, he1, rfl⟩, h _ he1 ⟨_, Heap.get?_push_of_some _ (Heap.get?_push_size _ rfl), rfl, rfl⟩ (by rw [Heap.size_push, hz1]) fun b ob x => Heap.get?_push_of_some _ (Heap.get?_push_of_some _ x)⟩
/-- the tuple at a, its items in new pairs with their places -/
def IteT (K : PySem.W.Frag) (a : Addr) : It :=
  ⟨fun i H => ∃ (xs : List V) (x : V), SqT K H a xs ∧ xs[i]? = some x, fun i H v H' => ∃ T x, v = .ref T ∧ H T = none ∧ H' = upd H T (.tup [.int (i : Nat), x]) ∧ ∀ xs, SqT K H a xs → xs[i]? = some x, fun i H => ∃ xs : List V, SqT K H a xs ∧ xs.length ≤ i⟩
theorem turn_enumT {P : Program} {w : World} {K : PySem.W.Frag} {elts : List Expr} {kk : Nat} {tpos : Pos} (a en it : Addr) :
    Turn P w K (.Tuple elts kk tpos) (IteT K a) [en, it] en (fun i h => (∃ old, IsEnum h en it ((i : Nat) : Int) old) ∧ h.IsTupleIter it a i ∧ en ≠ it ∧ a ≠ it ∧ en ≠ a) where
  mem := by simp
  obj := fun i h st b hb => by
    obtain ⟨⟨old, he⟩, ⟨o, ho, hc, hd⟩, _⟩ := st
    have q : b = en ∨ b = it := by simpa using hb
    rcases q with z | z
    · rw [z]; exact ⟨_, he, fun v y => nomatch y⟩
    · rw [z]; exact ⟨o, ho, fun v y => by rw [hd] at y; cases y⟩
  keep := fun i h h' st k => let ⟨⟨old, he⟩, hi, hne⟩ := st; ⟨⟨old, k en (by simp) _ he⟩, hi.at fun o y => k it (by simp) o y, hne⟩
  item := by
    intro X hP hw hK hc i pins s σ H E I hf st hg
    subst hP hw hK
    obtain ⟨⟨old, he⟩, hit, hne, hai, hea⟩ := st
    obtain ⟨xs, x, hq, hx⟩ := hg
    obtain ⟨jts, rv, pt, hz⟩ := I.tuple hq
    have hlen := rv.length
    have hi : i < jts.toArray.size := by
      have := (List.getElem?_eq_some_iff.mp hx).1
      rw [List.size_toArray]; omega
    obtain ⟨u, hu, ru⟩ := rv.get hx
    have hel : en < s.heap.objs.size := Heap.lt_size he
    have hil : it < s.heap.objs.size := by obtain ⟨_, q, _⟩ := hit; exact Heap.lt_size q
    refine wpAny_pyNext_enum_itemD (Draws.tuple (by have := I.ok.hd hc; exact this) it a hai jts.toArray) he ⟨hit, pt⟩ hi hne (by simp [hne, hea]) fun u2 h' tk hu2 ho hst hT hsz hk => ?_
    have e2 : u2 = u := by
      have : jts.toArray[i]? = some u2 := hu2
      rw [List.getElem?_toArray, hu] at this
      exact (Option.some.inj this).symm
    subst e2
    refine ⟨_, rfl, wpAny_letOwnedTupleGo_enum (s := { s with heap := h', toks := tk + 1 }) ho fun h2 he2 sb => ?_⟩
    have hT2 : h2.get? s.heap.objs.size = some { cls := .type "tuple", data := .seq #[.int i tk, u2] } := (sb.2 _ (Nat.ne_of_gt hel)).trans hT
    have new : ObjOk X.prog X.w (upd H s.heap.objs.size (.tup [.int (i : Nat), x])) h2 s.heap.objs.size (.tup [.int (i : Nat), x]) :=
      ⟨by show 2 ≤ sizeLine; decide, [.int i tk, u2], .cons ⟨_, rfl⟩ (.cons ru .nil), ⟨_, hT2, rfl, _, rfl⟩⟩
    have I1 : Inv X pins σ (upd H s.heap.objs.size (.tup [.int (i : Nat), x])) { s with heap := h2, toks := tk + 1 } :=
      I.turnedNew (ch := [en, it]) (fun b ob hb y => (sb.2 b (fun z => hb (by simp [z]))).trans (hk b ob (fun z => hb (by simp [z])) (fun z => hb (by simp [z])) y)) hf (Nat.le_refl _) new
    refine ⟨.ref s.heap.objs.size, _, I1, rfl, ⟨_, x, rfl, I.hok.fresh (Nat.le_refl _), rfl, fun ys hy => by rw [I.tuple_inj hy hq]; exact hx⟩, ⟨⟨u2, ?_⟩, hst.1.at fun o y => (sb.2 it (Ne.symm hne)).trans y, hne, hai, hea⟩, fun b hb => ?_⟩
    · have e1 : ((i + 1 : Nat) : Int) = (i : Int) + 1 := by omega
      rw [e1]; exact he2
    · have hb' : b < s.heap.objs.size := by
        have q : b = en ∨ b = it := by simpa using hb
        rcases q with z | z
        · rw [z]; exact hel
        · rw [z]; exact hil
      rw [upd_ne (Nat.ne_of_lt hb')]
      exact (hf b hb).1
  done := by
    intro X hP hw hK hc i pins s σ H E I hf st hg
    subst hP hw hK
    obtain ⟨⟨old, he⟩, hit, hne, hai, hea⟩ := st
    obtain ⟨xs, hq, hx⟩ := hg
    obtain ⟨jts, rv, pt, hz⟩ := I.tuple hq
    obtain ⟨f0, f1, f2, f3, f4, f5⟩ := hf it (by simp)
    have hl := rv.length
    have hT : s.TypeIs (.ref en) "enumerate" := ⟨_, he, rfl⟩
    unfold pyNext
    refine wpAny_bind (wpAny_attempt (wpAny_callSpecial?_slot (name := Str.ofString "__next__") hT F.slot_enumerate_next (wpAny_call_entry F.slot_enumerate_next hT F.entry_enumerate_next ?_ (F.args_enumerate_next_1 _))))
    show wpAny _ _ (field (.ref en) 2 >>= _) _ _ _
    refine wpAny_bind (wpAny_field he rfl (x := .ref it) rfl ?_)
    refine wpAny_bind (wpAny_nextOf_tuple_end (by have := I.ok.hd hc; exact this) hit pt (by rw [List.getElem?_toArray]; exact List.getElem?_eq_none (by omega)) fun h' ex ext hex => ?_)
    obtain ⟨o, ho, hc2⟩ := hex
    refine wpAny_bind (wpAny_isInstance (T := "StopIteration") (b := true) ⟨o, ho, hc2⟩ isSubtype_stop ?_)
    exact wpAny_pure ⟨rfl, I.turned (t' := s.toks) (fun b o hb y => ext b o hb y) f0 f1 f3 f4 f5⟩
  self := fun A i s Q E st h => let ⟨⟨_, he⟩, _⟩ := st; wpAny_pyIter_enum he h
theorem Inv.fresh2 {X : Cx} {pins : List (Addr × Obj)} {σ : L2.St} {H : Hp} {s : Shared} (I : Inv X pins σ H s) {b : Addr} (h : b = s.heap.objs.size + 1 ∨ b = s.heap.objs.size) : FpOk X pins H b := by
  have le : s.heap.objs.size ≤ b := by
    rcases h with z | z
    · rw [z]; exact Nat.le_add_right _ _
    · rw [z]; exact Nat.le_refl _
  exact I.fpOk le (I.hok.fresh le)
/-- enumerate(list or tuple) -/
def iEnumU (K : PySem.W.Frag) (ta : TA) : TI := fun σ H R => ta σ H fun vs H1 => ∃ a, vs = [.ref a] ∧ ((∃ xs, SqL K H1 a xs) ∧ R (Ite K a) H1 ∨ (∃ xs, SqT K H1 a xs) ∧ R (IteT K a) H1)
theorem pi_enumU {X : Cx} {e : Expr} {ta : TA} {p pos tpos : Pos} {elts : List Expr} {kk : Nat} (hg : Gl X "enumerate") (hm : X.mg "enumerate" = none) (ha : PA X [e] ta) (hs : starEach [e] X.env = [(false, eval e X.env)]) :
    PI X (.Tuple elts kk tpos) (.Call (.Name "enumerate" p) [e] [] pos) (iEnumU X.K ta) := by
  refine ⟨fun pins s σ H R I h => Call_ (ld_blt I hg hm boot_enumerate (PyProof.Rows.callWith_type1 (thn (ha.run pos pins s σ H _ I h) fun us s1 z => ?_) hs rfl))⟩
  obtain ⟨vs, H1, I1, r1, a, rfl, q⟩ := z
  obtain ⟨u, rfl, ru⟩ := vals1 r1
  cases ru
  rcases q with ⟨⟨xs, hq⟩, q⟩ | ⟨⟨xs, hq⟩, q⟩
  · obtain ⟨jts, rv, pl, hz⟩ := I1.list hq
    refine call_enumerate_list pl.isList fun h' he hit hsz hk => wpAny_pyIter_enum he ?_
    exact ⟨s1.heap.objs.size + 1, [s1.heap.objs.size + 1, s1.heap.objs.size], _, _, H1, rfl, I1.kept (t' := s1.toks) hk, turn_enum a (s1.heap.objs.size + 1) s1.heap.objs.size, ⟨⟨.none, he⟩, hit, Nat.succ_ne_self _⟩, fun b hb => Inv.fresh2 I1 (by simpa using hb), q⟩
  · obtain ⟨jts, rv, pl, hz⟩ := I1.tuple hq
    have hal : a < s1.heap.objs.size := pl.lt
    refine call_enumT pl fun h' he hit hsz hk => wpAny_pyIter_enum he ?_
    exact ⟨s1.heap.objs.size + 1, [s1.heap.objs.size + 1, s1.heap.objs.size], _, _, H1, rfl, I1.kept (t' := s1.toks) hk, turn_enumT a (s1.heap.objs.size + 1) s1.heap.objs.size, ⟨⟨.none, he⟩, hit, Nat.succ_ne_self _, Nat.ne_of_lt hal, Nat.ne_of_gt (Nat.lt_succ_of_lt hal)⟩, fun b hb => Inv.fresh2 I1 (by simpa using hb), q⟩
/-- a list or a tuple -/
def iSeqU (K : PySem.W.Frag) (tl : TE) : TI := fun σ H R => tl σ H fun x H1 => (∃ a, x = .ref a ∧ ((∃ xs, SqL K H1 a xs) ∧ R (Itl K a) H1 ∨ (∃ xs, SqT K H1 a xs) ∧ R (Itt K a) H1)) ∨ ∃ z, x = .str z ∧ R (Its z) H1
theorem pi_seqU {X : Cx} {tg l : Expr} {tl : TE} (hl : PE X l tl) : PI X tg l (iSeqU X.K tl) := by
  refine ⟨fun pins s σ H R I h => thn (hl.run pins s σ H _ I h) fun v s1 z => ?_⟩
  obtain ⟨x, H1, I1, r1, q⟩ := z
  rcases q with ⟨a, rfl, q⟩ | ⟨y, rfl, q⟩
  · cases r1
    have one : ∀ b, b ∈ [s1.heap.objs.size] → FpOk X pins H1 b := fun b hb => Inv.fresh2 I1 (.inr (by simpa using hb))
    rcases q with ⟨⟨xs, hq⟩, q⟩ | ⟨⟨xs, hq⟩, q⟩
    · obtain ⟨jts, rv, pl, hz⟩ := I1.list hq
      exact wpAny_pyIter_list pl.isList ⟨_, [_], _, _, H1, rfl, I1.kept (t' := s1.toks) fun b o e => Heap.get?_push_of_some _ e, turn_list a _, ⟨_, Heap.get?_push_size _ rfl, rfl, rfl⟩, one, q⟩
    · obtain ⟨jts, rv, pl, hz⟩ := I1.tuple hq
      exact wpAny_pyIter_tuple (show s1.heap.IsTuple a jts.toArray from pl) ⟨_, [_], _, _, H1, rfl, I1.kept (t' := s1.toks) fun b o e => Heap.get?_push_of_some _ e, turn_tuple a _, ⟨_, Heap.get?_push_size _ rfl, rfl, rfl⟩, one, q⟩
  · obtain ⟨t, rfl⟩ := r1
    cases ha : y.cps.all (· < 128)
    · exact wpAny_pyIter_wide ha (pi_one (tk := s1.toks) I1 _ (turn_str _ y t "str_iterator" (.inr rfl)) ⟨_, Heap.get?_push_size _ rfl, rfl, rfl⟩ q)
    · exact wpAny_pyIter_ascii ha (pi_one (tk := s1.toks) I1 _ (turn_str _ y t "str_ascii_iterator" (.inl rfl)) ⟨_, Heap.get?_push_size _ rfl, rfl, rfl⟩ q)
end Sd

-- SdE
/-! statements, loops, comprehensions, the end of a def -/
namespace Sd
open PySem PySem.Spec PyProof.Rows L2

/-! ### sources -/
structure Src (K : PySem.W.Frag) (F : Hp) (O : Own) (H : Hp) (J : It) (ds : List D) (Gd : Own → Prop) : Prop where
  go : ∀ i F2 O2 H2, i < ds.length → Stp F O H F2 O2 H2 → Ok K F2 O2 H2 → Gd O2 → J.go i H2
  stop : ∀ F2 O2 H2, Stp F O H F2 O2 H2 → Ok K F2 O2 H2 → Gd O2 → J.stop ds.length H2
  yld : ∀ i F2 O2 H2 x H3, i < ds.length → Stp F O H F2 O2 H2 → Ok K F2 O2 H2 → Gd O2 → J.yld i H2 x H3 → ∃ F3 d, Stp F2 O2 H2 F3 O2 H3 ∧ Ok K F3 O2 H3 ∧ ds[i]? = some d ∧ Rep K F3 x d
abbrev QI := List D → (Own → Prop) → Own → Prop
def WI (X : Cx) (tg iter : Expr) (ρ : Env) (O : Own) (Q : QI) : Prop := ∀ F σ H R, EnvOk X.K F σ ρ → Ok X.K F O H →
  (∀ F' O' H' J ds Gd, Stp F O H F' O' H' → Ok X.K F' O' H' → Src X.K F' O' H' J ds Gd → Q ds Gd O' → R J H') → canI X tg iter σ H R
section
variable {X : Cx} {ρ : Env} {O : Own} {e tg : Expr} {Q : QI} {pos p : Pos}
/-- what the sequence behind v is, later on -/
theorem seq_later {K : PySem.W.Frag} {F F2 : Hp} {O O2 : Own} {H H2 : Hp} {d : D} {v : V} {ds : List D} (r : Rep K F v d) (s : Stp F O H F2 O2 H2) (k : Ok K F2 O2 H2) (g : asL O2 d = some ds) : ∃ p vs, v = .ref p ∧ (SqL K H2 p vs ∨ SqT K H2 p vs) ∧ Reps K F2 vs ds := asL_of k (r.mono s.fr) g
/-- a value is a list for ever, or a tuple -/
inductive Kind (K : PySem.W.Frag) : D → Addr → Bool → Prop
  | lst {ds a} : Kind K (.lst ds) a true
  | tup {ds a} : Kind K (.tup ds) a false
  | scr {ns a} : Kind K (.scr ns) a true
  | raw {a} : Kind K (.raw a) a true
theorem asL_kind {K : PySem.W.Frag} {F H : Hp} {O : Own} (k : Ok K F O H) {v : V} {d : D} (r : Rep K F v d) {ds : List D} (h : asL O d = some ds) : ∃ p b, v = .ref p ∧ Kind K d p b ∧ ∀ F2 O2 H2, Stp F O H F2 O2 H2 → Ok K F2 O2 H2 → asL O2 d = some ds → ∃ vs, (if b then SqL K H2 p vs else SqT K H2 p vs) ∧ Reps K F2 vs ds := by
  have gen : ∀ {p : Addr} {b : Bool}, v = .ref p → Kind K d p b → (∀ F2 O2 H2, Ok K F2 O2 H2 → Rep K F2 v d → asL O2 d = some ds → ∃ vs, (if b then SqL K H2 p vs else SqT K H2 p vs) ∧ Reps K F2 vs ds) → ∃ p b, v = .ref p ∧ Kind K d p b ∧ ∀ F2 O2 H2, Stp F O H F2 O2 H2 → Ok K F2 O2 H2 → asL O2 d = some ds → ∃ vs, (if b then SqL K H2 p vs else SqT K H2 p vs) ∧ Reps K F2 vs ds :=
    fun {p b} e kd f => ⟨p, b, e, kd, fun F2 O2 H2 s k2 g => f F2 O2 H2 k2 (r.mono s.fr) g⟩
  cases d with
  | lst es =>
    obtain ⟨a, vs, rfl, hF, hr⟩ := rep_lst r
    refine gen rfl .lst fun F2 O2 H2 k2 r2 g => ?_
    cases g
    obtain ⟨a', vs', e, hF', hr'⟩ := rep_lst r2
    cases e
    exact ⟨vs', SqL.of (k2.ex _ _ hF'), hr'⟩
  | tup es =>
    obtain ⟨a, vs, rfl, hF, hr⟩ := rep_tup r
    refine gen rfl .tup fun F2 O2 H2 k2 r2 g => ?_
    cases g
    obtain ⟨a', vs', e, hF', hr'⟩ := rep_tup r2
    cases e
    exact ⟨vs', SqT.of (k2.ex _ _ hF'), hr'⟩
  | scr ns =>
    cases r with
    | scr hs =>
      refine gen rfl .scr fun F2 O2 H2 k2 r2 g => ?_
      cases g
      cases r2 with
      | scr hs2 => exact ⟨_, k2.ex.seq hs2, reps_ints _⟩
  | raw a =>
    have := rep_raw r
    subst this
    refine gen rfl .raw fun F2 O2 H2 k2 r2 g => ?_
    unfold asL at g
    simp only at g
    split at g
    · rename_i es q
      cases g
      obtain ⟨_, ws, hv, hr⟩ := k2.own _ _ q
      exact ⟨ws, SqL.of hv, hr⟩
    · cases g
  | _ => cases h
/-- a list or a tuple, item by item; a text, sign by sign -/
theorem wi_seq (h : WE X e ρ O fun d O1 => (∃ ds, asL O1 d = some ds ∧ Q ds (fun O2 => asL O2 d = some ds) O1) ∨ ∃ z, d = .str z ∧ Q (z.cps.toList.map fun c => D.str ⟨#[c]⟩) (fun _ => True) O1) : WI X tg e ρ O Q := by
  intro F σ H R E k kk
  refine PI.to (pi_seqU pe_can) ?_
  refine h F σ H _ E k fun F1 O1 H1 v d s1 k1 r q => ?_
  rcases q with ⟨ds, hd, q⟩ | ⟨z, rfl, q⟩
  · obtain ⟨p, b, rfl, _, later⟩ := asL_kind k1 r hd
    obtain ⟨vs0, hs0, hr0⟩ := later F1 O1 H1 .refl k1 hd
    refine .inl ⟨p, rfl, ?_⟩
    cases b with
    | true =>
      refine .inl ⟨⟨vs0, hs0⟩, kk _ _ _ _ ds _ s1 k1 ⟨fun i F2 O2 H2 hi s2 k2 g => ?_, fun F2 O2 H2 s2 k2 g => ?_, fun i F2 O2 H2 x H3 hi s2 k2 g y => ?_⟩ q⟩
      · obtain ⟨vs, hs, hr⟩ := later F2 O2 H2 s2 k2 g
        exact ⟨vs, vs[i]'(by rw [hr.1]; exact hi), hs, by simp [hr.1, hi]⟩
      · obtain ⟨vs, hs, hr⟩ := later F2 O2 H2 s2 k2 g
        exact ⟨vs, hs, Nat.le_of_eq hr.1⟩
      · obtain ⟨vs, hs, hr⟩ := later F2 O2 H2 s2 k2 g
        obtain ⟨rfl, y⟩ := y
        exact ⟨F2, ds[i], .refl, k2, by simp [hi], hr.2 i x _ (y vs hs) (by simp [hi])⟩
    | false =>
      refine .inr ⟨⟨vs0, hs0⟩, kk _ _ _ _ ds _ s1 k1 ⟨fun i F2 O2 H2 hi s2 k2 g => ?_, fun F2 O2 H2 s2 k2 g => ?_, fun i F2 O2 H2 x H3 hi s2 k2 g y => ?_⟩ q⟩
      · obtain ⟨vs, hs, hr⟩ := later F2 O2 H2 s2 k2 g
        exact ⟨vs, vs[i]'(by rw [hr.1]; exact hi), hs, by simp [hr.1, hi]⟩
      · obtain ⟨vs, hs, hr⟩ := later F2 O2 H2 s2 k2 g
        exact ⟨vs, hs, Nat.le_of_eq hr.1⟩
      · obtain ⟨vs, hs, hr⟩ := later F2 O2 H2 s2 k2 g
        obtain ⟨rfl, y⟩ := y
        exact ⟨F2, ds[i], .refl, k2, by simp [hi], hr.2 i x _ (y vs hs) (by simp [hi])⟩
  · refine .inr ⟨z, rep_str r, kk _ _ _ _ _ _ s1 k1 ⟨fun i F2 O2 H2 hi _ _ _ => ?_, fun F2 O2 H2 _ _ _ => ?_, fun i F2 O2 H2 x H3 hi s2 k2 g y => ?_⟩ q⟩
    · have hi' : i < z.cps.size := by simpa using hi
      exact hi'
    · show z.cps.size ≤ _
      simp
    · obtain ⟨rfl, c, hc, rfl⟩ := y
      refine ⟨F2, .str ⟨#[c]⟩, .refl, k2, ?_, .str _⟩
      rw [List.getElem?_map, Array.getElem?_toList, hc]; rfl
/-- range(n), range(a, b) -/
theorem src_range {K : PySem.W.Frag} {F H : Hp} {lo : Int} {n : Nat} : Src K F O H (Itr lo n) ((List.range n).map fun (i : Nat) => D.int (lo + (i : Int))) (fun _ => True) := by
  refine ⟨fun i F2 O2 H2 hi _ _ _ => ?_, fun F2 O2 H2 _ _ _ => ?_, fun i F2 O2 H2 x H3 hi s2 k2 g y => ?_⟩
  · show i < n
    simpa using hi
  · show n ≤ _
    simp
  · obtain ⟨rfl, rfl⟩ := y
    refine ⟨F2, .int (lo + i), .refl, k2, ?_, .int _⟩
    have hi' : i < n := by simpa using hi
    simp [hi']
theorem wi_range1 {a : Expr} (hg : Gl X "range") (hm : X.mg "range" = none) (hs : starEach [a] X.env = [(false, eval a X.env)])
    (h : WE X a ρ O fun d O1 => ∃ j : Int, d = .int j ∧ -1000000 ≤ j ∧ j ≤ 1000000 ∧ Q ((List.range j.toNat).map fun (i : Nat) => D.int (0 + (i : Int))) (fun _ => True) O1) : WI X tg (.Call (.Name "range" p) [a] [] pos) ρ O Q := by
  intro F σ H R E k kk
  refine PI.to (pi_range1 hg hm (pa_cons pe_can pa_nil hs) hs) ?_
  refine h F σ H _ E k fun F1 O1 H1 v d s1 k1 r q => ?_
  obtain ⟨j, rfl, h1, h2, q⟩ := q
  exact ⟨j, by rw [rep_int r], by omega, by omega, kk _ _ _ _ _ _ s1 k1 src_range q⟩
theorem wi_range2 {a b : Expr} (hg : Gl X "range") (hm : X.mg "range" = none) (hs : starEach [a, b] X.env = [(false, eval a X.env), (false, eval b X.env)]) (hs2 : starEach [b] X.env = [(false, eval b X.env)])
    (h : WE X a ρ O fun d O1 => WE X b ρ O1 fun d2 O2 => ∃ i j : Int, d = .int i ∧ d2 = .int j ∧ (-1000000 ≤ i ∧ i ≤ 1000000 ∧ -1000000 ≤ j ∧ j ≤ 1000000) ∧ Q ((List.range (j - i).toNat).map fun (n : Nat) => D.int (i + (n : Int))) (fun _ => True) O2) : WI X tg (.Call (.Name "range" p) [a, b] [] pos) ρ O Q := by
  intro F σ H R E k kk
  refine PI.to (pi_range2 hg hm (pa_cons pe_can (pa_cons pe_can pa_nil hs2) (by rw [hs, hs2])) hs hs2) ?_
  refine h F σ H _ E k fun F1 O1 H1 v d s1 k1 r q => ?_
  refine q F1 σ H1 _ (E.mono s1.fr) k1 fun F2 O2 H2 v2 d2 s2 k2 r2 q => ?_
  obtain ⟨i, j, rfl, rfl, h1, q⟩ := q
  exact ⟨i, j, by rw [rep_int r, rep_int r2], by omega, kk _ _ _ _ _ _ (s1.trans s2) k2 src_range q⟩
/-- enumerate -/
theorem wi_enum {elts : List Expr} {kn : Nat} {tpos : Pos} (hg : Gl X "enumerate") (hm : X.mg "enumerate" = none) (hs : starEach [e] X.env = [(false, eval e X.env)])
    (h : WE X e ρ O fun d O1 => ∃ ds, asL O1 d = some ds ∧ Q (ds.mapIdx fun (i : Nat) x => D.tup [.int (i : Int), x]) (fun O2 => asL O2 d = some ds) O1) : WI X (.Tuple elts kn tpos) (.Call (.Name "enumerate" p) [e] [] pos) ρ O Q := by
  intro F σ H R E k kk
  refine PI.to (pi_enumU hg hm (pa_cons pe_can pa_nil hs) hs) ?_
  refine h F σ H _ E k fun F1 O1 H1 v d s1 k1 r q => ?_
  obtain ⟨ds, hd, q⟩ := q
  obtain ⟨p, b, rfl, _, later⟩ := asL_kind k1 r hd
  obtain ⟨vs0, hs0, hr0⟩ := later F1 O1 H1 .refl k1 hd
  refine ⟨p, rfl, ?_⟩
  have hlen : (ds.mapIdx fun (i : Nat) x => D.tup [.int (i : Int), x]).length = ds.length := List.length_mapIdx
  have pair : ∀ {i : Nat} {F2 : Hp} {O2 : Own} {H2 : Hp} {T : Addr} {x : V} {vs : List V}, i < ds.length → Ok X.K F2 O2 H2 → Reps X.K F2 vs ds → vs[i]? = some x → H2 T = none →
      ∃ F3 d, Stp F2 O2 H2 F3 O2 (upd H2 T (.tup [.int (i : Nat), x])) ∧ Ok X.K F3 O2 (upd H2 T (.tup [.int (i : Nat), x])) ∧ (ds.mapIdx fun (i : Nat) x => D.tup [.int (i : Int), x])[i]? = some d ∧ Rep X.K F3 (.ref T) d := by
    intro i F2 O2 H2 T x vs hi k2 hr hx hT
    obtain ⟨k3, s3, sF⟩ := k2.lay (o := .tup [.int (i : Nat), x]) hT
    have hdi : ds[i]? = some ds[i] := by simp [hi]
    have rx := (hr.2 i x _ hx hdi).mono sF
    refine ⟨_, .tup [.int (i : Int), ds[i]], s3, k3, by simp [hi], .tup upd_same rfl ?_⟩
    exact (Reps.cons (.int _) (.cons rx .nil)).2
  cases b with
  | true =>
    refine .inl ⟨⟨vs0, hs0⟩, kk _ _ _ _ _ _ s1 k1 ⟨fun i F2 O2 H2 hi s2 k2 g => ?_, fun F2 O2 H2 s2 k2 g => ?_, fun i F2 O2 H2 x H3 hi s2 k2 g y => ?_⟩ q⟩
    · rw [hlen] at hi
      obtain ⟨vs, hs, hr⟩ := later F2 O2 H2 s2 k2 g
      exact ⟨vs, vs[i]'(by rw [hr.1]; exact hi), hs, by simp [hr.1, hi]⟩
    · obtain ⟨vs, hs, hr⟩ := later F2 O2 H2 s2 k2 g
      exact ⟨vs, hs, by rw [hlen]; exact Nat.le_of_eq hr.1⟩
    · rw [hlen] at hi
      obtain ⟨vs, hs, hr⟩ := later F2 O2 H2 s2 k2 g
      obtain ⟨T, x1, rfl, hT, rfl, y⟩ := y
      exact pair hi k2 hr (y vs hs) hT
  | false =>
    refine .inr ⟨⟨vs0, hs0⟩, kk _ _ _ _ _ _ s1 k1 ⟨fun i F2 O2 H2 hi s2 k2 g => ?_, fun F2 O2 H2 s2 k2 g => ?_, fun i F2 O2 H2 x H3 hi s2 k2 g y => ?_⟩ q⟩
    · rw [hlen] at hi
      obtain ⟨vs, hs, hr⟩ := later F2 O2 H2 s2 k2 g
      exact ⟨vs, vs[i]'(by rw [hr.1]; exact hi), hs, by simp [hr.1, hi]⟩
    · obtain ⟨vs, hs, hr⟩ := later F2 O2 H2 s2 k2 g
      exact ⟨vs, hs, by rw [hlen]; exact Nat.le_of_eq hr.1⟩
    · rw [hlen] at hi
      obtain ⟨vs, hs, hr⟩ := later F2 O2 H2 s2 k2 g
      obtain ⟨T, x1, rfl, hT, rfl, y⟩ := y
      exact pair hi k2 hr (y vs hs) hT
end

/-! ### targets -/
structure TgS (K : PySem.W.Frag) (g : TG) (slots : List Nat) (bind : D → Env → Option Env) : Prop where
  st : ∀ (F : Hp) (σ : L2.St) (ρ : Env) (H : Hp) (v : V) (d : D) (ρ' : Env) (R : L2.St → Hp → Prop), EnvOk K F σ ρ → Same F H → Rep K F v d → bind d ρ = some ρ' →
    (∀ σ', EnvOk K F σ' ρ' → (∀ vs : List Nat, (∀ i ∈ slots, i ∈ vs) → wipe σ' vs = wipe σ vs) → R σ' H) → g v σ H R
structure Tg (X : Cx) (tg : Expr) (g : TG) (slots : List Nat) (bind : D → Env → Option Env) : Prop extends TgS X.K g slots bind where
  pg : PG X tg g
theorem wipe_get {σ : L2.St} {i : Nat} : ∀ {vs : List Nat}, (wipe σ vs)[i]? = if i ∈ vs then (if i < σ.length then some none else none) else σ[i]?
  | [] => by simp [L2.wipe]
  | v :: vs => by
    unfold L2.wipe
    rw [List.getElem?_set, wipe_get (vs := vs), wipe_length]
    by_cases h : v = i
    · subst h; simp
    · rw [if_neg h]
      have : (i ∈ v :: vs) ↔ i ∈ vs := by simp [Ne.symm h]
      by_cases h2 : i ∈ vs
      · rw [if_pos h2, if_pos (this.mpr h2)]
      · rw [if_neg h2, if_neg (fun z => h2 (this.mp z))]
theorem wipe_set {σ : L2.St} {i : Nat} {x : Option V} {vs : List Nat} (h : i ∈ vs) : wipe (σ.set i x) vs = wipe σ vs := by
  apply List.ext_getElem?
  intro j
  rw [wipe_get, wipe_get, List.length_set, List.getElem?_set]
  by_cases hj : j ∈ vs
  · rw [if_pos hj, if_pos hj]
  · rw [if_neg hj, if_neg hj]
    have : i ≠ j := fun z => hj (z ▸ h)
    rw [if_neg this]
def setAll (ρ : Env) : List Nat → List D → Env
  | i :: is, d :: ds => setAll (ρ.set i (some d)) is ds
  | _, _ => ρ
def bindT (slots : List Nat) (d : D) (ρ : Env) : Option Env := match d with
  | .tup ds => if ds.length = slots.length then some (setAll ρ slots ds) else none
  | _ => none
section
variable {X : Cx} {pos : Pos}
theorem tgs_name {K : PySem.W.Frag} {i : Nat} : TgS K (gName i) [i] (fun d ρ => some (ρ.set i (some d))) :=
  ⟨fun F σ ρ H v d ρ' R E _ r hb k => by
    cases hb
    exact k _ (E.set r i) fun vs hv => wipe_set (hv i (by simp))⟩
theorem tg_name {i : Nat} {x : Str} (hN : X.N.Nodup) (hi : X.N[i]? = some x) (hx : Loc X.env.scope x) (hf : X.fn x = true ∨ X.env.scope.names.lookup x = some .local) : Tg X (.Name x pos) (gName i) [i] (fun d ρ => some (ρ.set i (some d))) :=
  ⟨tgs_name, pg_name hN hi hx hf⟩
def gNames : List Nat → TGs
  | [] => gNil
  | i :: is => gCons (gName i) (gNames is)
theorem gNames_st {K : PySem.W.Frag} {F H : Hp} {R : L2.St → Hp → Prop} : ∀ (is : List Nat) (ds : List D) (vs : List V) (σ : L2.St) (ρ : Env), EnvOk K F σ ρ → Reps K F vs ds → ds.length = is.length →
    (∀ σ', EnvOk K F σ' (setAll ρ is ds) → (∀ ws : List Nat, (∀ i ∈ is, i ∈ ws) → wipe σ' ws = wipe σ ws) → R σ' H) → gNames is vs σ H R
  | [], ds, vs, σ, ρ, E, r, hl, k => by
    have e : ds = [] := by cases ds <;> simp_all
    subst e
    exact ⟨r.unnil, k σ E fun _ _ => rfl⟩
  | i :: is, ds, vs, σ, ρ, E, r, hl, k => by
    cases ds with
    | nil => simp at hl
    | cons d ds =>
      obtain ⟨v, t, rfl, r1, r2⟩ := r.uncons
      refine ⟨v, t, rfl, ?_⟩
      refine gNames_st is ds t _ _ (E.set r1 i) r2 (by simpa using hl) fun σ' E' hw => k σ' E' fun ws hws => ?_
      rw [hw ws fun j hj => hws j (List.mem_cons_of_mem _ hj), wipe_set (hws i List.mem_cons_self)]
theorem tgs_tup {K : PySem.W.Frag} {is : List Nat} : TgS K (gTup K is.length (gNames is)) is (bindT is) :=
  ⟨fun F σ ρ H v d ρ' R E sF r hb kk => by
    unfold bindT at hb
    split at hb
    · rename_i ds
      split at hb
      · rename_i hl
        cases hb
        obtain ⟨a, vs, rfl, hF, hr⟩ := rep_tup r
        exact ⟨a, vs, rfl, SqT.of (sF _ _ hF), by rw [hr.1]; exact hl, gNames_st is ds vs σ ρ E hr hl kk⟩
      · cases hb
    · cases hb⟩
theorem tg_tup {es : List Expr} {k : Nat} {is : List Nat} (hc : X.calm = true) (h : PGs X es (gNames is)) (hn : (assignEach es X.env).length = is.length) (hst : (assignEach es X.env).findIdx? (·.1) = none) :
    Tg X (.Tuple es k pos) (gTup X.K is.length (gNames is)) is (bindT is) := ⟨tgs_tup, pg_tup hc h hn hst⟩
theorem pgs_one {x : Str} {es : List Expr} {i : Nat} {is : List Nat} (hN : X.N.Nodup) (hi : X.N[i]? = some x) (hx : Loc X.env.scope x) (hf : X.fn x = true ∨ X.env.scope.names.lookup x = some .local) (h : PGs X es (gNames is))
    (hs : (assignEach (.Name x pos :: es) X.env).map (·.2) = assign (.Name x pos) X.env :: (assignEach es X.env).map (·.2)) : PGs X (.Name x pos :: es) (gNames (i :: is)) := pgs_cons (pg_name hN hi hx hf) h hs
end
end Sd

-- SdF
/-! statements, loops, comprehensions, the end of a def -/
namespace Sd
open PySem PySem.Spec PyProof.Rows L2
theorem wipe_wipe {σ : L2.St} {vs : List Nat} : wipe (wipe σ vs) vs = wipe σ vs := by
  apply List.ext_getElem?
  intro j
  rw [wipe_get, wipe_length, wipe_get]
  by_cases h : j ∈ vs
  · rw [if_pos h, if_pos h]
  · rw [if_neg h, if_neg h]
section
variable {X : Cx} {ρ : Env} {O : Own} {E : En} {e a b c tg iter : Expr} {pos p p' : Pos} {st : Stmt} {rest body bd : List Stmt}
theorem wss_nil (h : E.nx ρ O) : WSs X [] ρ O E := fun F σ H D Ve k kk => PSs.to pss_nil (kk.nx _ _ _ _ _ .refl k Ve h)
theorem wss_cons (h : WS X st ρ O { E with nx := fun ρ' O' => WSs X rest ρ' O' E }) : WSs X (st :: rest) ρ O E := by
  intro F σ H D Ve k kk
  refine PSs.to (pss_cons ps_can pss_can) ?_
  exact h F σ H _ Ve k ⟨fun F' O' H' σ' ρ' s k' V' q => q F' σ' H' D V' k' (kk.fwd s), kk.bk, kk.ct, kk.rt⟩
theorem ws_pass (h : E.nx ρ O) : WS X (.Pass pos) ρ O E := fun F σ H D Ve k kk => PS.to ps_pass (kk.nx _ _ _ _ _ .refl k Ve h)
theorem ws_break (h : E.bk ρ O) : WS X (.Break pos) ρ O E := fun F σ H D Ve k kk => PS.to ps_break (kk.bk _ _ _ _ _ .refl k Ve h)
theorem ws_cont (h : E.ct ρ O) : WS X (.Continue pos) ρ O E := fun F σ H D Ve k kk => PS.to ps_continue (kk.ct _ _ _ _ _ .refl k Ve h)
theorem ws_expr (hs : swapsWith e none pos.line X.env = pure false) (h : WE X e ρ O fun _ O1 => E.nx ρ O1) : WS X (.Expr e pos) ρ O E := by
  intro F σ H D Ve k kk
  refine PS.to (ps_expr pe_can hs) ?_
  exact h F σ H _ Ve k fun F1 O1 H1 v d s1 k1 r q => kk.nx _ _ _ _ _ s1 k1 (Ve.mono s1.fr) q
theorem ws_ret (h : WE X e ρ O E.rt) : WS X (.Return (some e) pos) ρ O E := by
  intro F σ H D Ve k kk
  refine PS.to (ps_ret pe_can) ?_
  exact h F σ H _ Ve k kk.rt
theorem ws_retN (h : E.rt .non O) : WS X (.Return none pos) ρ O E := fun F σ H D Ve k kk => PS.to ps_retN (kk.rt _ _ _ _ _ .refl k .non h)
theorem ws_if (h : WT X c ρ O fun k O1 => brn k (WSs X body ρ O1 E) (WSs X bd ρ O1 E)) : WS X (.If c body bd pos) ρ O E := by
  intro F σ H D Ve k kk
  refine PS.to (ps_if pt_can pss_can pss_can) ?_
  refine h F σ H _ Ve k fun F1 O1 H1 b s1 k1 q => ?_
  cases b with
  | true => rw [if_pos rfl]; exact q F1 σ H1 D (Ve.mono s1.fr) k1 (kk.fwd s1)
  | false => rw [if_neg Bool.false_ne_true]; exact q F1 σ H1 D (Ve.mono s1.fr) k1 (kk.fwd s1)
/-- a value given to a name: a list of ours may be given away -/
def giv (d : D) (O : Own) (Q : DK) : Prop := Q d O ∨ ∃ a, d = .raw a ∧ ((∃ ds, O a = some (.lst ds) ∧ Q (.lst ds) (delO O a)) ∨ ∃ C fs, O a = some (.ins C fs) ∧ Q (.ins C fs) (delO O a))
theorem giv_o {d : D} {Q : DK} (h : Q d O) : giv d O Q := .inl h
theorem giv_l {a : Addr} {ds : List D} {Q : DK} (h : O a = some (.lst ds)) (q : Q (.lst ds) (delO O a)) : giv (.raw a) O Q := .inr ⟨a, rfl, .inl ⟨ds, h, q⟩⟩
/-- an expression's value given away -/
theorem we_giv {Q : DK} (h : WE X e ρ O fun d O1 => giv d O1 Q) : WE X e ρ O Q := by
  intro F σ H R Ve k kk
  refine h F σ H _ Ve k fun F1 O1 H1 v d s1 k1 r q => ?_
  rcases q with q | ⟨a, rfl, ⟨ds, ho, q⟩ | ⟨C, fs, ho, q⟩⟩
  · exact kk _ _ _ _ _ s1 k1 r q
  · obtain ⟨F2, k2, s2, r2⟩ := k1.freeze ho
    rw [rep_raw r]
    exact kk _ _ _ _ _ (s1.trans s2) k2 r2 q
  · obtain ⟨F2, k2, s2, r2⟩ := k1.freezeI ho
    rw [rep_raw r]
    exact kk _ _ _ _ _ (s1.trans s2) k2 r2 q
theorem ws_set {x : Str} {i : Nat} (hN : X.N.Nodup) (hi : X.N[i]? = some x) (hx : Loc X.env.scope x) (hs : swapsWith e (some (.Name x p')) pos.line X.env = pure false) (hf : X.fn x = true ∨ X.env.scope.names.lookup x = some .local)
    (h : WE X e ρ O fun d O1 => E.nx (ρ.set i (some d)) O1) : WS X (.Assign [.Name x p'] e pos) ρ O E := by
  intro F σ H D Ve k kk
  refine PS.to (ps_set hN hi hx pe_can hs hf) ?_
  exact h F σ H _ Ve k fun F1 O1 H1 v d s1 k1 r q => kk.nx _ _ _ _ _ s1 k1 ((Ve.mono s1.fr).set r i) q
theorem ws_setT {es : List Expr} {tk : Nat} {tp : Pos} {g : TG} {sl : List Nat} {bind : D → Env → Option Env} (T : Tg X (.Tuple es tk tp) g sl bind) (hs : swapsWithSole [.Tuple es tk tp] e pos.line X.env = pure false) (hw : swappedStores [.Tuple es tk tp] e X.env = pure none)
    (h1 : (assignEach [.Tuple es tk tp] X.env).map (·.2) = [assign (.Tuple es tk tp) X.env]) (h : WE X e ρ O fun d O1 => ∃ ρ2, bind d ρ = some ρ2 ∧ E.nx ρ2 O1) : WS X (.Assign [.Tuple es tk tp] e pos) ρ O E := by
  intro F σ H D Ve k kk
  refine PS.to (ps_asg pe_can T.pg hs hw h1) ?_
  refine h F σ H _ Ve k fun F1 O1 H1 v d s1 k1 r q => ?_
  obtain ⟨ρ2, hb, q⟩ := q
  exact T.st F1 σ ρ H1 v d ρ2 _ (Ve.mono s1.fr) k1.ex r hb fun σ' V' _ => kk.nx _ _ _ _ _ s1 k1 V' q
theorem ws_aug {x : Str} {i : Nat} {v0 : Int} (hN : X.N.Nodup) (hi : X.N[i]? = some x) (hx : Loc X.env.scope x) (hf : X.fn x = true ∨ X.env.scope.names.lookup x = some .local) (hv : ρ[i]? = some (some (.int v0)))
    (h : WE X e ρ O fun d O1 => ∃ j, d = .int j ∧ E.nx (ρ.set i (some (.int (v0 + j)))) O1) : WS X (.AugAssign (.Name x p') .Add e pos) ρ O E := by
  intro F σ H D Ve k kk
  refine PS.to (ps_aug hN hi hx pe_can ip_add hf) ?_
  obtain ⟨v, hv1, hv2⟩ := Ve.at_ i _ hv
  rw [rep_int hv2] at hv1
  refine ⟨_, hv1, ?_⟩
  refine h F σ H _ Ve k fun F1 O1 H1 v d s1 k1 r q => ?_
  obtain ⟨j, rfl, q⟩ := q
  exact ⟨v0, j, rfl, rep_int r, kk.nx _ _ _ _ _ s1 k1 ((Ve.mono s1.fr).set (.int _) i) q⟩
/-! ### o[i] = v -/
def rSetU : TSet := fun o i v H Q => rSetL o i v H Q ∨ rSetD o i v H Q
theorem set_U (hu : X.A.units + 1 < cLine) : PSet X rSetU := by
  intro pins s σ H o i v ov iv u Q I ro ri rv h
  rcases h with h | h
  · exact set_list pins s σ H o i v ov iv u Q I ro ri rv h
  · exact set_dict hu pins s σ H o i v ov iv u Q I ro ri rv h
def lSet (o i v : D) (O : Own) (Q : Own → Prop) : Prop :=
  (∃ a ds k j, o = .raw a ∧ i = .int k ∧ O a = some (.lst ds) ∧ ixN ds.length k = some j ∧ Q (setO O a (.lst (ds.set j v)))) ∨
  ∃ a g n ks, o = .raw a ∧ i = .tup (ks.map .int) ∧ O a = some (.dct g n) ∧ n < 1000000 ∧ Q (setO O a (.dct (fun k => if k = ks then some v else g k) (n + 1)))
theorem inl_inj {k ks : List Int} (h : k.map (Sum.inl : Int → Key) = ks.map Sum.inl) : k = ks := List.map_inj_right (fun _ _ q => Sum.inl.inj q) |>.mp h
theorem ws_sub {o i : Expr} {spos : Pos} (hu : X.A.units + 65 < cLine) (ha : ∀ v, assign (.Subscript o i spos) X.env v = (do
      let ov ← eval o X.env |> holding [v]
      let iv ← holding [v, ov] (eval i X.env)
      standAt spos
      holding [v, ov, iv] (setItem ov iv v)
      release [v, ov, iv] [])) (hs : swapsWithSole [.Subscript o i spos] e pos.line X.env = pure false) (hw : swappedStores [.Subscript o i spos] e X.env = pure none)
    (h1 : (assignEach [.Subscript o i spos] X.env).map (·.2) = [assign (.Subscript o i spos) X.env])
    (h : WE X e ρ O fun v O1 => WE X o ρ O1 fun ov O2 => WE X i ρ O2 fun iv O3 => lSet ov iv v O3 fun O4 => E.nx ρ O4) : WS X (.Assign [.Subscript o i spos] e pos) ρ O E := by
  intro F σ H D Ve k kk
  refine PS.to (ps_asg pe_can (pg_sub pe_can pe_can (set_U (by omega)) ha) hs hw h1) ?_
  refine h F σ H _ Ve k fun F1 O1 H1 vv v s1 k1 rv q => ?_
  refine q F1 σ H1 _ (Ve.mono s1.fr) k1 fun F2 O2 H2 vo ov s2 k2 ro q => ?_
  refine q F2 σ H2 _ (Ve.mono (s1.trans s2).fr) k2 fun F3 O3 H3 vi iv s3 k3 ri q => ?_
  have rv3 := rv.mono (s2.trans s3).fr
  have s13 := (s1.trans s2).trans s3
  rcases q with ⟨a, ds, n, j, rfl, rfl, ho, hj, q⟩ | ⟨a, g, n, ks, rfl, rfl, ho, hn, q⟩
  · obtain ⟨_, vs, hv, hr⟩ := k3.own _ _ ho
    obtain ⟨k4, s4⟩ := k3.wr (o := .lst (vs.set j vv)) (c' := .lst (ds.set j v)) ho ⟨_, upd_same, hr.set j rv3⟩
    exact .inl ⟨a, vs, n, j, rep_raw ro, rep_int ri, hv, by rw [hr.1]; exact hj, kk.nx _ _ _ _ _ (s13.trans s4) k4 (Ve.mono (s13.trans s4).fr) q⟩
  · obtain ⟨_, kws, hv, hl, hg, hn0⟩ := k3.own _ _ ho
    obtain ⟨b, us, rfl, hF, hr⟩ := rep_tup ri
    have e := reps_int_eq hr
    subst e
    have hk : (ks.map L2.V.int) = (ks.map Sum.inl).map kV := by rw [List.map_map]; rfl
    have big : (2000000 : Nat) ≤ sizeLine := by decide
    obtain ⟨k4, s4⟩ := k3.wr (o := .dT (putK kws (ks.map Sum.inl) vv)) (c' := .dct (fun k => if k = ks then some v else g k) (n + 1)) ho (by
      refine ⟨_, upd_same, ?_, fun k d hk2 => ?_, fun k hk2 => ?_⟩
      · have := length_putK kws (ks.map Sum.inl) vv
        omega
      · change (if k = ks then some v else g k) = some d at hk2
        rw [L2.valV_put]
        by_cases z : k = ks
        · rw [if_pos z] at hk2; cases hk2
          rw [if_pos (by rw [z])]
          exact ⟨vv, rfl, rv3⟩
        · rw [if_neg z] at hk2
          rw [if_neg fun y => z (inl_inj y)]
          exact hg k d hk2
      · change (if k = ks then some v else g k) = none at hk2
        rw [L2.valV_put]
        by_cases z : k = ks
        · rw [if_pos z] at hk2; cases hk2
        · rw [if_neg z] at hk2
          rw [if_neg fun y => z (inl_inj y)]
          exact hn0 k hk2)
    exact .inr ⟨a, _, rep_raw ro, .inr ⟨kws, ks.map Sum.inl, b, hv, rfl, by rw [← hk]; exact k3.ex _ _ hF, by omega, rfl⟩, kk.nx _ _ _ _ _ (s13.trans s4) k4 (Ve.mono (s13.trans s4).fr) q⟩
/-! ### o.f = v -/
def putD (f : Str) (v : D) : List (Str × D) → List (Str × D)
  | [] => [(f, v)]
  | (g, x) :: r => if g = f then (g, v) :: r else (g, x) :: putD f v r
theorem lookup_putD (f g : Str) (v : D) : ∀ fs : List (Str × D), (putD f v fs).lookup g = if g = f then some v else fs.lookup g
  | [] => by
    show List.lookup g [(f, v)] = _
    rw [List.lookup_cons, List.lookup_nil]
    by_cases h : g = f
    · rw [if_pos h, h, beq_self_eq_true]
    · rw [if_neg h, beq_eq_false_iff_ne.mpr h]
  | (k, x) :: r => by
    unfold putD
    by_cases hk : k = f
    · rw [if_pos hk, List.lookup_cons, List.lookup_cons, hk]
      by_cases h : g = f
      · rw [if_pos h, h, beq_self_eq_true]
      · rw [if_neg h, beq_eq_false_iff_ne.mpr h]
    · rw [if_neg hk, List.lookup_cons, List.lookup_cons, lookup_putD f g v r]
      by_cases h : g = k
      · subst h
        simp [hk]
      · simp [beq_eq_false_iff_ne.mpr h]
theorem keys_put (f : Str) (v : L2.V) (d : D) : ∀ (gs : List (Str × L2.V)) (fs : List (Str × D)), gs.map (·.1) = fs.map (·.1) → (putF f v gs).map (·.1) = (putD f d fs).map (·.1)
  | [], [], _ => rfl
  | [], _ :: _, h => by simp at h
  | _ :: _, [], h => by simp at h
  | (k, x) :: gs, (j, y) :: fs, h => by
    simp only [List.map_cons, List.cons.injEq] at h
    obtain ⟨rfl, h⟩ := h
    unfold putF putD
    by_cases z : k = f
    · rw [if_pos z, if_pos z, List.map_cons, List.map_cons, h]
    · rw [if_neg z, if_neg z, List.map_cons, List.map_cons, keys_put f v d gs fs h]
theorem ws_fld {o : Expr} {f : Str} {ap : Pos} (hs : swapsWith e (some (.Attribute o f ap)) pos.line X.env = pure false)
    (h : WE X e ρ O fun v O1 => WE X o ρ O1 fun ov O2 => ∃ a C fs, ov = .raw a ∧ O2 a = some (.ins C fs) ∧ Fld X.K C f ∧ fs.length < 15 ∧ E.nx ρ (setO O2 a (.ins C (putD f v fs)))) : WS X (.Assign [.Attribute o f ap] e pos) ρ O E := by
  intro F σ H D Ve k kk
  refine PS.to (ps_fld pe_can pe_can hs) ?_
  refine h F σ H _ Ve k fun F1 O1 H1 vv v s1 k1 rv q => ?_
  refine q F1 σ H1 _ (Ve.mono s1.fr) k1 fun F2 O2 H2 vo ov s2 k2 ro q => ?_
  obtain ⟨a, C, fs, rfl, ho, fl, hl, q⟩ := q
  obtain ⟨_, dx, gs, hv, hgl, g, h1, h0, hr⟩ := k2.own _ _ ho
  have rv2 := rv.mono s2.fr
  obtain ⟨k3, s3⟩ := k2.wr (o := .ins C dx (putF f vv gs)) (c' := .ins C (putD f v fs)) ho (by
    refine ⟨dx, putF f vv gs, upd_same, keys_put f vv v gs fs hgl, fun j => if j = f then vv else g j, fun j d hj => ?_, fun j hj => ?_, fun j d hj => ?_⟩
    · rw [lookup_putD] at hj
      rw [lookup_putF]
      show _ = some (if j = f then vv else g j)
      by_cases z : j = f
      · rw [if_pos z, if_pos z]
      · rw [if_neg z] at hj
        rw [if_neg z, if_neg z]
        exact h1 j d hj
    · rw [lookup_putD] at hj
      rw [lookup_putF]
      by_cases z : j = f
      · rw [if_pos z] at hj; cases hj
      · rw [if_neg z] at hj
        rw [if_neg z]
        exact h0 j hj
    · rw [lookup_putD] at hj
      show Rep X.K F2 (if j = f then vv else g j) d
      by_cases z : j = f
      · rw [if_pos z] at hj; cases hj
        rw [if_pos z]; exact rv2
      · rw [if_neg z] at hj
        rw [if_neg z]; exact hr j d hj)
  exact ⟨a, C, dx, gs, rep_raw ro, hv, fl.cl, fl.na, by have q := congrArg List.length hgl; simp only [List.length_map] at q; omega, kk.nx _ _ _ _ _ ((s1.trans s2).trans s3) k3 (Ve.mono ((s1.trans s2).trans s3).fr) q⟩

/-! ### while, for -/
theorem ws_while (hp : PassesOwn (model X.prog X.w) X.A X.env X.xe) (W : Nat → Env → Own → Prop) (m0 : Nat) (h0 : W m0 ρ O)
    (h : ∀ m ρ' O', W m ρ' O' → WT X c ρ' O' fun b O1 => brn b (WSs X body ρ' O1 { E with nx := fun ρ2 O2 => ∃ m', m' < m ∧ W m' ρ2 O2, ct := fun ρ2 O2 => ∃ m', m' < m ∧ W m' ρ2 O2, bk := E.nx }) (E.nx ρ' O1)) : WS X (.While c body [] pos) ρ O E := by
  intro F σ H D Ve k kk
  refine PS.to (ps_while hp pt_can pss_can) ?_
  refine ⟨fun m σ' H' => ∃ F' O' ρ', Stp F O H F' O' H' ∧ Ok X.K F' O' H' ∧ EnvOk X.K F' σ' ρ' ∧ W m ρ' O', ⟨m0, F, O, ρ, .refl, k, Ve, h0⟩, ?_⟩
  rintro m σ' H' ⟨F1, O1, ρ1, s1, k1, V1, w1⟩
  refine h m ρ1 O1 w1 F1 σ' H' _ V1 k1 fun F2 O2 H2 b s2 k2 q => ?_
  have kk2 := kk.fwd (s1.trans s2)
  cases b with
  | false => rw [if_neg Bool.false_ne_true]; exact kk2.nx _ _ _ _ _ .refl k2 (V1.mono s2.fr) q
  | true =>
    rw [if_pos rfl]
    refine ⟨fun σ3 H3 => ∃ m', m' < m ∧ ∃ F' O' ρ', Stp F O H F' O' H3 ∧ Ok X.K F' O' H3 ∧ EnvOk X.K F' σ3 ρ' ∧ W m' ρ' O', fun σ3 H3 z => z, ?_⟩
    refine q F2 σ' H2 _ (V1.mono s2.fr) k2 ⟨fun F3 O3 H3 σ3 ρ3 s3 k3 V3 q3 => ?_, fun F3 O3 H3 σ3 ρ3 s3 k3 V3 q3 => kk2.nx _ _ _ _ _ s3 k3 V3 q3, fun F3 O3 H3 σ3 ρ3 s3 k3 V3 q3 => ?_, kk2.rt⟩
    · obtain ⟨m', hm, w3⟩ := q3
      exact ⟨m', hm, F3, O3, ρ3, (s1.trans s2).trans s3, k3, V3, w3⟩
    · obtain ⟨m', hm, w3⟩ := q3
      exact ⟨m', hm, F3, O3, ρ3, (s1.trans s2).trans s3, k3, V3, w3⟩
theorem ws_for {g : TG} {sl : List Nat} {bind : D → Env → Option Env} (hp : PassesOwn (model X.prog X.w) X.A X.env X.xe) (hc : X.calm = true) (T : Tg X tg g sl bind) (hs : ∀ x, foldedSetIterable iter X.env x = pure x)
    (h : WI X tg iter ρ O fun ds Gd O1 => ∃ W : Nat → Env → Own → Prop, W 0 ρ O1 ∧ (∀ i ρ' O', i ≤ ds.length → W i ρ' O' → Gd O') ∧
      (∀ i d ρ' O', ds[i]? = some d → W i ρ' O' → ∃ ρ2, bind d ρ' = some ρ2 ∧ WSs X body ρ2 O' { E with nx := W (i + 1), ct := W (i + 1), bk := E.nx }) ∧ ∀ ρ' O', W ds.length ρ' O' → E.nx ρ' O') : WS X (.For tg iter body [] pos) ρ O E := by
  intro F σ H D Ve k kk
  refine PS.to (ps_for hp hc pi_can T.pg pss_can hs) ?_
  refine h F σ H _ Ve k fun F1 O1 H1 J ds Gd s1 k1 S q => ?_
  obtain ⟨W, w0, hG, turn, fin⟩ := q
  refine ⟨fun i m σ' H' => m = ds.length - i ∧ i ≤ ds.length ∧ ∃ F' O' ρ', Stp F1 O1 H1 F' O' H' ∧ Ok X.K F' O' H' ∧ EnvOk X.K F' σ' ρ' ∧ W i ρ' O', ⟨ds.length, by simp, Nat.zero_le _, F1, O1, ρ, .refl, k1, Ve.mono s1.fr, w0⟩, ?_⟩
  rintro i m σ' H' ⟨rfl, hi, F2, O2, ρ2, s2, k2, V2, w2⟩
  have gd := hG i ρ2 O2 hi w2
  have kk2 := kk.fwd (s1.trans s2)
  by_cases hlt : i < ds.length
  · refine .inr ⟨S.go i F2 O2 H' hlt s2 k2 gd, fun σ3 H3 => ∃ F' O' ρ', Stp F1 O1 H1 F' O' H3 ∧ Ok X.K F' O' H3 ∧ EnvOk X.K F' σ3 ρ' ∧ W (i + 1) ρ' O', fun σ3 H3 z => ⟨ds.length - (i + 1), by omega, rfl, hlt, z⟩, fun x H3 y => ?_⟩
    obtain ⟨F3, d, s3, k3, hd, r3⟩ := S.yld i F2 O2 H' x H3 hlt s2 k2 gd y
    obtain ⟨ρ3, hb, q3⟩ := turn i d ρ2 O2 hd w2
    refine T.st F3 σ' ρ2 H3 x d ρ3 _ (V2.mono s3.fr) k3.ex r3 hb fun σ4 V4 _ => ?_
    have kk3 := kk2.fwd s3
    exact q3 F3 σ4 H3 _ V4 k3 ⟨fun F5 O5 H5 σ5 ρ5 s5 k5 V5 q5 => ⟨F5, O5, ρ5, (s2.trans s3).trans s5, k5, V5, q5⟩, fun F5 O5 H5 σ5 ρ5 s5 k5 V5 q5 => kk3.nx _ _ _ _ _ s5 k5 V5 q5, fun F5 O5 H5 σ5 ρ5 s5 k5 V5 q5 => ⟨F5, O5, ρ5, (s2.trans s3).trans s5, k5, V5, q5⟩, kk3.rt⟩
  · have e : i = ds.length := by omega
    subst e
    exact .inl ⟨S.stop F2 O2 H' s2 k2 gd, kk2.nx _ _ _ _ _ .refl k2 V2 (fin ρ2 O2 w2)⟩

/-! ### comprehensions -/
theorem wts_nil {Q : Bool → Own → Prop} (h : Q true O) : WTs X [] ρ O Q := fun F σ H R Ve k kk => ⟨tYes, pts_nil, kk _ _ _ _ .refl k h⟩
theorem wts_one {Q : Bool → Own → Prop} (h : WT X c ρ O Q) : WTs X [c] ρ O Q := fun F σ H R Ve k kk => ⟨_, pts_one pt_can, h F σ H R Ve k kk⟩
def blkE (X : Cx) (scope : Scope) (e : Expr) : TE := fun σ H Q => ∀ (s : Shared) (H0 : Hp) (C : Addr) (cl : List (Str × Addr)) (fp : List Addr), can (X.blk s H0 scope (compEnvC scope cl C X.env) fp) e σ H Q
def blkT (X : Cx) (scope : Scope) (ifs : List Expr) : TT := fun σ H Q => ∀ (s : Shared) (H0 : Hp) (C : Addr) (cl : List (Str × Addr)) (fp : List Addr), canTs (X.blk s H0 scope (compEnvC scope cl C X.env) fp) ifs σ H Q
theorem Stp.updF {F F' : Hp} {O O' : Own} {H H' : Hp} {D0 : Addr} {o : HO} (s : Stp F O H F' O' H') (hD : H D0 = none) : Stp F O H F' O' (upd H' D0 o) :=
  ⟨s.fr, fun a u h n => by rw [upd_ne (ne_of_none h hD)]; exact s.kp a u h n⟩
theorem Ok.updF {K : PySem.W.Frag} {F : Hp} {O : Own} {H : Hp} {D0 : Addr} {o : HO} (k : Ok K F O H) (fD : F D0 = none) (oD : O D0 = none) : Ok K F O (upd H D0 o) :=
  ⟨fun a u h => by rw [upd_ne (ne_of_none h fD)]; exact k.ex a u h, fun a c h => by
    have e : a ≠ D0 := fun z => by rw [z, oD] at h; cases h
    exact ⟨(k.own a c h).1, (k.own a c h).2.mono (Same.refl F) (upd_ne e)⟩⟩
/-- what a list comprehension's source, targets and turns have to give -/
def LcT (X : Cx) (elt : Expr) (ifs : List Expr) (scope : Scope) (own : List (Str × Nat)) (bind : D → Env → Option Env) (ρ : Env) (ds : List D) (Gd : Own → Prop) (O1 : Own) (Q : DK) : Prop :=
  ∃ W : Nat → List D → Own → Prop, W 0 [] O1 ∧ (∀ i acc O', i ≤ ds.length → W i acc O' → Gd O' ∧ acc.length ≤ 100000) ∧
      (∀ i d acc O', ds[i]? = some d → W i acc O' → ∃ ρ2, bind d (wipeD ρ (own.map (·.2))) = some ρ2 ∧ ∀ (s : Shared) (H0 : Hp) (C : Addr) (cl : List (Str × Addr)) (fp : List Addr),
        WTs (X.blk s H0 scope (compEnvC scope cl C X.env) fp) ifs ρ2 O' fun b O2 => brn b (∀ (s : Shared) (H0 : Hp) (C : Addr) (cl : List (Str × Addr)) (fp : List Addr), WE (X.blk s H0 scope (compEnvC scope cl C X.env) fp) elt ρ2 O2 fun y O3 => W (i + 1) (acc ++ [y]) O3) (W (i + 1) acc O2)) ∧
      ∀ acc O', W ds.length acc O' → Q (.lst acc) O'
abbrev LcH (X : Cx) (elt tg iter : Expr) (ifs : List Expr) (scope : Scope) (own : List (Str × Nat)) (bind : D → Env → Option Env) (ρ : Env) (O : Own) (Q : DK) : Prop :=
  WI X tg iter ρ O fun ds Gd O1 => LcT X elt ifs scope own bind ρ ds Gd O1 Q
theorem lc_to {elt : Expr} {ifs : List Expr} {scope : Scope} {own : List (Str × Nat)} {g : TG} {sl : List Nat} {bind : D → Env → Option Env} {Q : DK} (T : TgS X.K g sl bind) (hsl : ∀ i ∈ sl, i ∈ own.map (·.2))
    (h : LcH X elt tg iter ifs scope own bind ρ O Q) {F : Hp} {σ : L2.St} {H : Hp} {R : VK} (Ve : EnvOk X.K F σ ρ) (k : Ok X.K F O H) (kk : KE X.K F O H Q R) : tLc (canI X tg iter) g (blkT X scope ifs) (blkE X scope elt) (own.map (·.2)) σ H R := by
  refine h F σ H _ Ve k fun F1 O1 H1 J ds Gd s1 k1 S q D0 hD => ?_
  obtain ⟨W, w0, hG, turn, fin⟩ := q
  obtain ⟨fD, oD⟩ := k1.fresh hD
  refine ⟨fun i m H' => m = ds.length - i ∧ i ≤ ds.length ∧ ∃ F' O' acc vs, Stp F1 O1 H1 F' O' H' ∧ Ok X.K F' O' H' ∧ F' D0 = none ∧ O' D0 = none ∧ H' D0 = some (.lst vs) ∧ Reps X.K F' vs acc ∧ W i acc O',
    ⟨ds.length, by simp, Nat.zero_le _, F1, O1, [], [], Stp.refl.updF hD, k1.updF fD oD, fD, oD, upd_same, .nil, w0⟩, ?_⟩
  rintro i m H' ⟨rfl, hi, F2, O2, acc, vs, s2, k2, fD2, oD2, hD2, hr2, w2⟩
  obtain ⟨gd, hacc⟩ := hG i acc O2 hi w2
  by_cases hlt : i < ds.length
  · refine .inr ⟨S.go i F2 O2 H' hlt s2 k2 gd, fun H3 => ∃ F' O' acc vs, Stp F1 O1 H1 F' O' H3 ∧ Ok X.K F' O' H3 ∧ F' D0 = none ∧ O' D0 = none ∧ H3 D0 = some (.lst vs) ∧ Reps X.K F' vs acc ∧ W (i + 1) acc O', fun H3 z => ⟨ds.length - (i + 1), by omega, rfl, hlt, z⟩, fun x H3 y => ?_⟩
    obtain ⟨F3, d, s3, k3, hd, r3⟩ := S.yld i F2 O2 H' x H3 hlt s2 k2 gd y
    obtain ⟨ρ3, hb, q3⟩ := turn i d acc O2 hd w2
    obtain ⟨kp3, op3, ff3⟩ := s3.kp D0 _ hD2 oD2
    have Vw := ((Ve.mono s1.fr).mono (s2.trans s3).fr).wipe (own.map (·.2))
    refine T.st F3 _ _ H3 x d ρ3 _ Vw k3.ex r3 hb fun σ4 V4 hw4 => ⟨?_, fun s H0 C cl fp => ?_⟩
    · have := hw4 (own.map (·.2)) hsl
      rw [this]
      exact wipe_wipe
    · refine q3 s H0 C cl fp F3 σ4 H3 _ V4 k3 fun F4 O4 H4 b s4 k4 q4 => ?_
      obtain ⟨kp4, op4, ff4⟩ := s4.kp D0 _ kp3 op3
      cases b with
      | false => rw [if_neg Bool.false_ne_true]; exact ⟨F4, O4, acc, vs, (s2.trans s3).trans s4, k4, ff4.trans (ff3.trans fD2), op4, kp4, hr2.mono (s3.trans s4).fr, q4⟩
      | true =>
        rw [if_pos rfl]
        intro s H0 C cl fp
        refine q4 s H0 C cl fp F4 σ4 H4 _ (V4.mono s4.fr) k4 fun F5 O5 H5 v y' s5 k5 r5 q5 => ?_
        obtain ⟨kp5, op5, ff5⟩ := s5.kp D0 _ kp4 op4
        have fD5 : F5 D0 = none := ff5.trans (ff4.trans (ff3.trans fD2))
        refine ⟨vs, kp5, ?_, F5, O5, acc ++ [y'], vs ++ [v], (((s2.trans s3).trans s4).trans s5).updF hD, k5.updF fD5 op5, fD5, op5, upd_same, (hr2.mono ((s3.trans s4).trans s5).fr).app (.cons r5 .nil), q5⟩
        have big : (200000 : Nat) ≤ sizeLine := by decide
        have e := hr2.1
        omega
  · have e : i = ds.length := by omega
    subst e
    refine .inl ⟨S.stop F2 O2 H' s2 k2 gd, ?_⟩
    have sF : Same F2 (upd F2 D0 (.lst vs)) := fun a u h => by rw [upd_ne (ne_of_none h fD2)]; exact h
    refine kk (upd F2 D0 (.lst vs)) O2 H' _ (.lst acc) (s1.trans ⟨s2.fr.trans sF, fun a u hu n => ?_⟩) ⟨fun a u hu => ?_, fun a c hc2 => ?_⟩ (.lst upd_same hr2.1 fun i v d z1 z2 => (hr2.2 i v d z1 z2).mono sF) (fin acc O2 w2)
    · obtain ⟨z1, z2, z3⟩ := s2.kp a u hu n
      exact ⟨z1, z2, by rw [upd_ne (ne_of_none hu hD)]; exact z3⟩
    · by_cases z : a = D0
      · subst z; rw [upd_same] at hu; cases hu; exact hD2
      · rw [upd_ne z] at hu; exact k2.ex a u hu
    · have z : a ≠ D0 := fun z => by rw [z, oD2] at hc2; cases hc2
      exact ⟨by rw [upd_ne z]; exact (k2.own a c hc2).1, (k2.own a c hc2).2.mono sF rfl⟩

theorem we_lc {elt : Expr} {ifs : List Expr} {scope : Scope} {own : List (Str × Nat)} {g : TG} {sl : List Nat} {bind : D → Env → Option Env} {Q : DK} (hc : X.calm = true) (hN : X.N.Nodup) (ok : BlkOk X.N X.env.scope scope own)
    (T : TgS X.K g sl bind) (hpg : ∀ (s : Shared) (H0 : Hp) (C : Addr) (cl : List (Str × Addr)) (fp : List Addr), PG (X.blk s H0 scope (compEnvC scope cl C X.env) fp) tg g) (hsl : ∀ i ∈ sl, i ∈ own.map (·.2)) (hs : ∀ x, foldedSetIterable iter X.env x = pure x)
    (h : LcH X elt tg iter ifs scope own bind ρ O Q) : WE X (.ListComp elt [⟨tg, iter, ifs, 0⟩] scope pos) ρ O Q := by
  intro F σ H R Ve k kk
  exact PE.to (pe_lc hc hN pi_can ok hpg (tt := blkT X scope ifs) (te := blkE X scope elt) (fun s H0 C cl fp => ⟨fun pins s' σ' H' Q' I hh => pts_can.run pins s' σ' H' Q' I (hh s H0 C cl fp)⟩) (fun s H0 C cl fp => ⟨fun pins s' σ' H' Q' I hh => hh s H0 C cl fp pins s' I⟩) hs) (lc_to T hsl h Ve k kk)
/-- x = [..] in one row -/
theorem ws_setLc {elt : Expr} {ifs : List Expr} {scope : Scope} {own : List (Str × Nat)} {g : TG} {sl : List Nat} {bind : D → Env → Option Env} {y : Str} {i : Nat} {py spos : Pos} (hc : X.calm = true) (hN : X.N.Nodup) (hy : X.N[i]? = some y) (hyl : X.env.scope.names.lookup y = some .local)
    (hsw : swapsWith (.ListComp elt [⟨tg, iter, ifs, 0⟩] scope pos) (some (.Name y py)) spos.line X.env = pure true) (ok : BlkOk X.N X.env.scope scope own)
    (T : TgS X.K g sl bind) (hpg : ∀ (s : Shared) (H0 : Hp) (C : Addr) (cl : List (Str × Addr)) (fp : List Addr), PG (X.blk s H0 scope (compEnvC scope cl C X.env) fp) tg g) (hsl : ∀ i ∈ sl, i ∈ own.map (·.2)) (hs : ∀ x, foldedSetIterable iter X.env x = pure x)
    (h : LcH X elt tg iter ifs scope own bind ρ O fun d O1 => E.nx (ρ.set i (some d)) O1) : WS X (.Assign [.Name y py] (.ListComp elt [⟨tg, iter, ifs, 0⟩] scope pos) spos) ρ O E := by
  intro F σ H D Ve k kk
  refine PS.to (ps_setLc hc hN hy hyl hsw pi_can ok hpg (tt := blkT X scope ifs) (te := blkE X scope elt) (fun s H0 C cl fp => ⟨fun pins s' σ' H' Q' I hh => pts_can.run pins s' σ' H' Q' I (hh s H0 C cl fp)⟩) (fun s H0 C cl fp => ⟨fun pins s' σ' H' Q' I hh => hh s H0 C cl fp pins s' I⟩) hs) ?_
  exact lc_to T hsl h Ve k fun F1 O1 H1 v d s1 k1 r q => kk.nx _ _ _ _ _ s1 k1 ((Ve.mono s1.fr).set r i) q
end
end Sd

-- SdG
/-! the end of a def, built-ins -/
namespace Sd
open PySem PySem.Spec PyProof.Rows L2

/-- what is handed back: less may be ours, a list or an instance of ours may be given away -/
def retQ (Q : DK) : DK := fun d O => (∃ O', Sub O' O ∧ Q d O') ∨ (∃ a ds O', d = .raw a ∧ O a = some (.lst ds) ∧ Sub O' (delO O a) ∧ Q (.lst ds) O')
theorem ret_s {Q : DK} {d : D} {O O' : Own} (s : Sub O' O) (h : Q d O') : retQ Q d O := .inl ⟨O', s, h⟩
theorem ret_l {Q : DK} {a : Addr} {ds : List D} {O O' : Own} (ho : O a = some (.lst ds)) (s : Sub O' (delO O a)) (h : Q (.lst ds) O') : retQ Q (.raw a) O := .inr ⟨a, ds, O', rfl, ho, s, h⟩
theorem retQ_to {K : PySem.W.Frag} {F : Hp} {O : Own} {H : Hp} {Q : DK} {R : VK} (kk : KE K F O H Q R) : KE K F O H (retQ Q) R := by
  intro F1 O1 H1 v d s1 k1 r q
  rcases q with ⟨O2, hs, q⟩ | ⟨a, ds, O2, rfl, ho, hs, q⟩
  · obtain ⟨k2, s2⟩ := k1.drop hs
    exact kk _ _ _ _ _ (s1.trans s2) k2 r q
  · obtain ⟨F2, k2, s2, r2⟩ := k1.freeze ho
    obtain ⟨k3, s3⟩ := k2.drop hs
    rw [rep_raw r]
    exact kk _ _ _ _ _ ((s1.trans s2).trans s3) k3 r2 q
def startD (N : List Str) (ds : List D) : Env := ds.map some ++ List.replicate (N.length - ds.length) none
theorem env_start {K : PySem.W.Frag} {F : Hp} {N : List Str} {vs : List V} {ds : List D} (r : Reps K F vs ds) : EnvOk K F (L2.start N vs) (startD N ds) := by
  unfold L2.start startD
  refine ⟨by simp [r.1], fun i d h => ?_⟩
  by_cases hi : i < ds.length
  · rw [List.getElem?_append_left (by simpa using hi), List.getElem?_map] at h
    rw [List.getElem?_append_left (by simpa [r.1] using hi), List.getElem?_map]
    cases e : ds[i]? with
    | none => rw [e] at h; cases h
    | some d' =>
      rw [e] at h
      cases h
      obtain ⟨v, hv, rv⟩ := r.get e
      exact ⟨v, by rw [hv]; rfl, rv⟩
  · rw [List.getElem?_append_right (by simpa using hi), List.getElem?_replicate] at h
    split at h <;> cases h
section
variable {P : Program} {w : World} {K : PySem.W.Frag} {mg : Str → Option Value} {base : Heap} {ct : Ct} {st : Stmt} {f C : Addr} {fd : FuncData} {N ps : List Str} {k : Nat} {x qual m : Str}
abbrev bodyE (Q : DK) : En := { nx := fun _ O' => retQ Q .non O', rt := retQ Q }
/-- a body keeps its contract, from wherever it is entered -/
def BodyOk (P : Program) (w : World) (K : PySem.W.Frag) (mg : Str → Option Value) (base : Heap) (ct : Ct) (st : Stmt) (f : Addr) (N : List Str) (k : Nat) (qual : Str) : Prop :=
  ∀ (cdv : Value) (A : Around) (outer : List PySem.Env) (s : Shared) (H : Hp) (E : XK), Room k (A.deeper (envOfC qual (C8.fnScope st) s.heap.objs.size f cdv)) → ∀ ds O Q, ct ds O Q →
    WSs (cxOf CX0 P w K mg base N qual (C8.fnScope st) f cdv A outer s H E).nox (C8.fnBody st) (startD N ds) O (bodyE Q)
theorem body_to (S : BodyOk P w K mg base ct st f N k qual) (cdv : Value) (A : Around) (outer : List PySem.Env) (s : Shared) (H : Hp) (vs : List V) (R : VK) (E : XK) (hr : Room k (A.deeper (envOfC qual (C8.fnScope st) s.heap.objs.size f cdv))) (h : spC K ct vs H R E) :
    ∃ t, PSs (cxOf CX0 P w K mg base N qual (C8.fnScope st) f cdv A outer s H E).nox (C8.fnBody st) t ∧ t { nx := fun _ H' => R .non H', rt := R } (L2.start N vs) H := by
  obtain ⟨F, O, ds, Q, r, k1, hc, kk⟩ := h
  refine ⟨_, pss_can, ?_⟩
  refine S cdv A outer s H E hr ds O Q hc F (L2.start N vs) H _ (env_start r) k1 ⟨fun F' O' H' σ' ρ' s' k' _ q => ?_, fun _ _ _ _ _ _ _ _ q => q.elim, fun _ _ _ _ _ _ _ _ q => q.elim, retQ_to kk⟩
  exact retQ_to kk F' O' H' .non .non s' k' .non q
theorem len_ct (hl : ∀ ds O Q, ct ds O Q → ds.length = ps.length) : ∀ (vs : List V) (H : Hp) (R : VK) (E : XK), spC K ct vs H R E → vs.length = ps.length := fun vs H R E h => by
  obtain ⟨F, O, ds, Q, r, k1, hc, kk⟩ := h
  rw [r.1]; exact hl ds O Q hc
theorem cal_ok (F : C8.Def K mg x st f fd) (b : Binds K fd ps []) (S : FnScope N ps (C8.fnScope st)) (hl : ∀ ds O Q, ct ds O Q → ds.length = ps.length) (h : BodyOk P w K mg base ct st f N k x) : C8.Cal P w K mg base (k + 1) x (spC K ct) [] :=
  C8.cal0 F b .nil S (len_ct hl) (body_to h)
theorem mak_ok (M : Mk K C f) (hm : mg x = some (.ref C)) (F : C8.Fun K "__init__" qual st f fd) (b : Binds K fd ps []) (S : FnScope N ps (C8.fnScope st)) (hl : ∀ ds O Q, ct ds O Q → ds.length = ps.length) (h : BodyOk P w K mg base ct st f N k qual) : C8.Mak P w K mg base (k + 1) x C (spC K ct) [] :=
  C8.mak0 M hm F b .nil S (len_ct hl) (body_to h)
theorem met_ok (c : Cls K C) (me : Meth K C m f) (F : C8.Fun K m qual st f fd) (b : Binds K fd ps []) (S : FnScope N ps (C8.fnScope st)) (hl : ∀ ds O Q, ct ds O Q → ds.length = ps.length) (h : BodyOk P w K mg base ct st f N k qual) : C8.Met P w K mg base (k + 1) C m (spC K ct) [] :=
  C8.met0 c me F b S (len_ct hl) (body_to h)
end
theorem room65 {k : Nat} {A : Around} (h : Room k A) : A.units + 65 < cLine := by have := h.un; omega
theorem room64 {k : Nat} {A : Around} (h : Room k A) : A.units + 64 < cLine := by have := h.un; omega

section
variable {X : Cx} {ρ : Env} {O : Own} {Q : DK} {e a b c : Expr} {pos p : Pos} {K : PySem.W.Frag}
/-! ### built-in functions -/
theorem one_rep {F : Hp} {vs : List V} {d : D} (r : Reps K F vs [d]) : ∃ v, vs = [v] ∧ Rep K F v d := by
  obtain ⟨v, t, rfl, h1, h2⟩ := r.uncons
  rw [h2.unnil]; exact ⟨v, rfl, h1⟩
theorem two_rep {F : Hp} {vs : List V} {d d2 : D} (r : Reps K F vs [d, d2]) : ∃ v v2, vs = [v, v2] ∧ Rep K F v d ∧ Rep K F v2 d2 := by
  obtain ⟨v, t, rfl, h1, h2⟩ := r.uncons
  obtain ⟨v2, rfl, h3⟩ := one_rep h2
  exact ⟨v, v2, rfl, h1, h3⟩
theorem len_s {d : D} {ds : List D} (hd : asL O d = some ds) (h : Q (.int (ds.length : Int)) O) : lC K (fun xs H Q => ∃ x n, xs = [x] ∧ LenV K x H n ∧ Q (.int n) H) [d] O Q := fun F H vs R k r kk => by
  obtain ⟨v, rfl, rv⟩ := one_rep r
  obtain ⟨p, ws, rfl, hs, hr⟩ := asL_of k rv hd
  refine ⟨.ref p, ds.length, rfl, ?_, kk _ _ _ _ _ .refl k (.int _) h⟩
  rcases hs with hs | hs
  · exact .inl ⟨ws, hs, hr.1.symm⟩
  · exact .inr ⟨ws, hs, hr.1.symm⟩
theorem len_t {z : Str} (hz : z.length ≤ 1000000) (h : Q (.int (z.length : Int)) O) : lC K (fun xs H Q => ∃ x n, xs = [x] ∧ LenV K x H n ∧ Q (.int n) H) [.str z] O Q := fun F H vs R k r kk => by
  obtain ⟨v, rfl, rv⟩ := one_rep r
  rw [rep_str rv]
  exact ⟨.str z, z.length, rfl, ⟨Nat.le_trans hz (by decide), rfl⟩, kk _ _ _ _ _ .refl k (.int _) h⟩
theorem int_i {i : Int} (h : Q (.int i) O) : lC K (fun xs H Q => (∃ i, xs = [.int i] ∧ Q (.int i) H) ∨ ∃ k, xs = [.bl k] ∧ Q (.int (if k then 1 else 0)) H) [.int i] O Q := fun F H vs R k r kk => by
  obtain ⟨v, rfl, rv⟩ := one_rep r
  rw [rep_int rv]
  exact .inl ⟨i, rfl, kk _ _ _ _ _ .refl k (.int _) h⟩
theorem int_b {i : Bool} (h : Q (.int (if i then 1 else 0)) O) : lC K (fun xs H Q => (∃ i, xs = [.int i] ∧ Q (.int i) H) ∨ ∃ k, xs = [.bl k] ∧ Q (.int (if k then 1 else 0)) H) [.bl i] O Q := fun F H vs R k r kk => by
  obtain ⟨v, rfl, rv⟩ := one_rep r
  rw [rep_bl rv]
  exact .inr ⟨i, rfl, kk _ _ _ _ _ .refl k (.int _) h⟩
theorem list_s {d : D} {ds : List D} (hd : asL O d = some ds) (h : Q (.lst ds) O) : lC K (fun xs H Q => ∃ p ys, xs = [.ref p] ∧ (SqL K H p ys ∨ SqT K H p ys) ∧ ∀ l, H l = none → Q (.ref l) (upd H l (.lst ys))) [d] O Q := fun F H vs R k r kk => by
  obtain ⟨v, rfl, rv⟩ := one_rep r
  obtain ⟨p, ws, rfl, hs, hr⟩ := asL_of k rv hd
  refine ⟨p, ws, rfl, hs, fun l hl => ?_⟩
  obtain ⟨k2, s2, sF⟩ := k.lay (o := .lst ws) hl
  exact kk _ _ _ _ _ s2 k2 (.lst upd_same hr.1 fun i v d z1 z2 => (hr.2 i v d z1 z2).mono sF) h
theorem tuple_s {d : D} {ds : List D} (hd : asL O d = some ds) (h : Q (.tup ds) O) : lC K (fun xs H Q => ∃ p ys, xs = [.ref p] ∧ ((SqL K H p ys ∧ ∀ l, H l = none → Q (.ref l) (upd H l (.tup ys))) ∨ (SqT K H p ys ∧ Q (.ref p) H))) [d] O Q := fun F H vs R k r kk => by
  obtain ⟨v, rfl, rv⟩ := one_rep r
  have lay : ∀ {p : Addr} {ws : List V}, SqL K H p ws → Reps K F ws ds → ∃ p' ys, [V.ref p] = [V.ref p'] ∧ ((SqL K H p' ys ∧ ∀ l, H l = none → R (.ref l) (upd H l (.tup ys))) ∨ (SqT K H p' ys ∧ R (.ref p') H)) := fun {p ws} hs hr => by
    refine ⟨p, ws, rfl, .inl ⟨hs, fun l hl => ?_⟩⟩
    obtain ⟨k2, s2, sF⟩ := k.lay (o := .tup ws) hl
    exact kk _ _ _ _ _ s2 k2 (.tup upd_same hr.1 fun i v d z1 z2 => (hr.2 i v d z1 z2).mono sF) h
  obtain ⟨p, b, rfl, kd, later⟩ := asL_kind k rv hd
  obtain ⟨ws, hs, hr⟩ := later F O H .refl k hd
  cases kd with
  | tup => cases hd; exact ⟨p, ws, rfl, .inr ⟨hs, kk _ _ _ _ _ .refl k rv h⟩⟩
  | lst => exact lay hs hr
  | scr => exact lay hs hr
  | raw => exact lay hs hr
theorem sum_i {d : D} {ns : List Int} (hd : asL O d = some (ns.map .int)) (hk : ∀ ds, d ≠ .tup ds) (h : Q (.int ns.sum) O) : lC K (rSum K) [d] O Q := fun F H vs R k r kk => by
  obtain ⟨v, rfl, rv⟩ := one_rep r
  obtain ⟨p, b, rfl, kd, later⟩ := asL_kind k rv hd
  obtain ⟨ws, hs, hr⟩ := later F O H .refl k hd
  have e := reps_int_eq hr
  subst e
  cases kd with
  | tup => exact absurd rfl (hk _)
  | lst => exact ⟨p, ns, rfl, hs, kk _ _ _ _ _ .refl k (.int _) h⟩
  | scr => exact ⟨p, ns, rfl, hs, kk _ _ _ _ _ .refl k (.int _) h⟩
  | raw => exact ⟨p, ns, rfl, hs, kk _ _ _ _ _ .refl k (.int _) h⟩
theorem min2_i {i j : Int} (h : Q (.int (if j < i then j else i)) O) : lC K (fun xs H Q => ∃ i j, xs = [.int i, .int j] ∧ Q (.int (if j < i then j else i)) H) [.int i, .int j] O Q := fun F H vs R k r kk => by
  obtain ⟨v, v2, rfl, r1, r2⟩ := two_rep r
  rw [rep_int r1, rep_int r2]
  exact ⟨i, j, rfl, kk _ _ _ _ _ .refl k (.int _) h⟩
/-- sorted of ints, of texts -/
def rSrtU (K : PySem.W.Frag) : List V → Hp → VK → Prop := fun xs H Q => rSortedI K xs H Q ∨ rSortedS K xs H Q
theorem CallR.or {f : Value} {r r' : List V → Hp → VK → Prop} (h : CallR X f r) (h' : CallR X f r') : CallR X f (fun xs H Q => r xs H Q ∨ r' xs H Q) := fun pins s σ H xs us Q I rs q =>
  q.elim (fun z => h pins s σ H xs us Q I rs z) fun z => h' pins s σ H xs us Q I rs z
theorem cr_srtU : CallR X (.builtin "sorted") (rSrtU X.K) := CallR.or cr_sortedI cr_sortedS
theorem sorted_i {d : D} {ns : List Int} (hd : asL O d = some (ns.map .int)) (hk : ∀ ds, d ≠ .tup ds) (h : ∀ ms : List Int, ms.Perm ns → ms.Pairwise (· ≤ ·) → Q (.lst (ms.map .int)) O) : lC K (rSrtU K) [d] O Q := fun F H vs R k r kk => by
  obtain ⟨v, rfl, rv⟩ := one_rep r
  obtain ⟨p, b, rfl, kd, later⟩ := asL_kind k rv hd
  obtain ⟨ws, hs, hr⟩ := later F O H .refl k hd
  have e := reps_int_eq hr
  subst e
  have fin : SqL K H p (ns.map V.int) → rSrtU K [.ref p] H R := fun hs => .inl ⟨p, ns, rfl, hs, fun ms q pm pw hq => by
    obtain ⟨k2, s2, sF⟩ := k.lay (o := .lst (ms.map V.int)) hq
    have rr := (reps_ints (K := K) (F := F) ms).mono sF
    exact kk _ _ _ _ _ s2 k2 (.lst upd_same rr.1 rr.2) (h ms pm pw)⟩
  cases kd with
  | tup => exact absurd rfl (hk _)
  | lst => exact fin hs
  | scr => exact fin hs
  | raw => exact fin hs
theorem sorted_s {d : D} {ns : List Str} (hd : asL O d = some (ns.map .str)) (hk : ∀ ds, d ≠ .tup ds) (h64 : ns.length < 64) (h : ∀ ms : List Str, ms.Perm ns → sortedS ms = true → Q (.lst (ms.map .str)) O) : lC K (rSrtU K) [d] O Q := fun F H vs R k r kk => by
  obtain ⟨v, rfl, rv⟩ := one_rep r
  obtain ⟨p, b, rfl, kd, later⟩ := asL_kind k rv hd
  obtain ⟨ws, hs, hr⟩ := later F O H .refl k hd
  have e := reps_str_eq hr
  subst e
  have fin : SqL K H p (ns.map V.str) → rSrtU K [.ref p] H R := fun hs => .inr ⟨p, ns, rfl, hs, h64, fun ms q pm pw hq => by
    obtain ⟨k2, s2, sF⟩ := k.lay (o := .lst (ms.map V.str)) hq
    have rr := (reps_strs (K := K) (F := F) ms).mono sF
    exact kk _ _ _ _ _ s2 k2 (.lst upd_same rr.1 rr.2) (h ms pm pw)⟩
  cases kd with
  | tup => exact absurd rfl (hk _)
  | lst => exact fin hs
  | scr => exact fin hs
  | raw => exact fin hs

/-! ### isinstance -/
def tyD (O : Own) : D → Option String
  | .non => some "NoneType"
  | .bl _ => some "bool"
  | .int _ => some "int"
  | .str _ => some "str"
  | .tup _ => some "tuple"
  | .lst _ => some "list"
  | .raw a => match O a with | some (.lst _) => some "list" | some (.dct _ _) => some "dict" | _ => none
  | _ => none
theorem tyD_of {F H : Hp} (k : Ok K F O H) {v : V} {d : D} (r : Rep K F v d) {t : String} (h : tyD O d = some t) : TyX K H v (.type t) := by
  cases d with
  | non => cases h; rw [rep_non r]; exact .base .non
  | bl b => cases h; rw [rep_bl r]; exact .base (.bl b)
  | int i => cases h; rw [rep_int r]; exact .base (.int i)
  | str i => cases h; rw [rep_str r]; exact .base (.str i)
  | tup ds => cases h; obtain ⟨a, vs, rfl, hF, _⟩ := rep_tup r; exact .base (.tup (k.ex _ _ hF))
  | lst ds => cases h; obtain ⟨a, vs, rfl, hF, _⟩ := rep_lst r; exact .base (.lst (k.ex _ _ hF))
  | raw a =>
    rw [rep_raw r]
    unfold tyD at h
    simp only at h
    split at h
    · rename_i q; cases h; obtain ⟨_, vs, hv, _⟩ := k.own _ _ q; exact .base (.lst hv)
    · rename_i q; cases h; obtain ⟨_, vs, hv, _⟩ := k.own _ _ q; exact .base (.dT hv)
    · cases h
  | _ => cases h
def rIsiU (K : PySem.W.Frag) : List V → Hp → VK → Prop := fun xs H Q => rIsi K xs H Q ∨ rIsiT K xs H Q
theorem cr_isiU : CallR X (.builtin "isinstance") (rIsiU X.K) := CallR.or call_isi call_isiT
theorem isi_b {d : D} {t u : String} {r : Bool} (hd : tyD O d = some t) (e : kitB t u = some r) (h : Q (.bl r) O) : lC K (rIsiU K) [d, .ty u] O Q := fun F H vs R k rs kk => by
  obtain ⟨v, v2, rfl, r1, r2⟩ := two_rep rs
  rw [rep_ty r2]
  exact .inl ⟨v, .ty u, .type t, .type u, r, rfl, .ty u, tyD_of k r1 hd, kit_ty e, kk _ _ _ _ _ .refl k (.bl _) h⟩
/-- one of two built-in types -/
theorem isi_2 {d : D} {t u u2 : String} {r r2 : Bool} (hd : tyD O d = some t) (e : kitB t u = some r) (e2 : kitB t u2 = some r2) (h : Q (.bl (r || r2)) O) : lC K (rIsiU K) [d, .tup [.ty u, .ty u2]] O Q := fun F H vs R k rs kk => by
  obtain ⟨v, v2, rfl, r1, rt⟩ := two_rep rs
  obtain ⟨a, ws, rfl, hF, hw⟩ := rep_tup rt
  obtain ⟨w1, w2, rfl, q1, q2⟩ := two_rep hw
  rw [rep_ty q1, rep_ty q2] at hF
  refine .inr ⟨v, a, [.ty u, .ty u2], .type t, [.type u, .type u2], r || r2, rfl, k.ex _ _ hF, .cons (.ty u) (.cons (.ty u2) .nil), tyD_of k r1 hd, ?_, kk _ _ _ _ _ .refl k (.bl _) h⟩
  refine kitAny_cons (kit_ty e) (fun hr => ?_) (fun hr => by rw [hr]; rfl)
  rw [hr]
  refine kitAny_cons (kit_ty e2) (fun hr2 => ?_) (fun hr2 => by rw [hr2]; rfl)
  rw [hr2]; exact kitAny_nil
/-- an instance of an own class that may be looked at -/
structure InsT (K : PySem.W.Frag) (C : Addr) : Prop where
  cl : Cls K C
  ha : PySem.W.findIn K (.ref C) "__class__" = some (some (.builtin "object.__class__"))
  hn : PySem.W.specialIn K (.builtin "object.__class__") "__get__" = some (some (.builtin "getset_descriptor.__get__"))
  htk : PySem.W.takesIn K (.builtin "object.__class__") = some true
  hm : PySem.W.mroIn K C (.type "object") = some true
theorem isi_own {C : Addr} {fs : List (Str × D)} (T : InsT K C) (h : Q (.bl true) O) : lC K (rIsiU K) [.ins C fs, .raw C] O Q := fun F H vs R k rs kk => by
  obtain ⟨v, v2, rfl, r1, r2⟩ := two_rep rs
  rw [rep_raw r2]
  cases r1 with
  | @ins a _ dx gs _ hF g h1 h0 hr =>
    refine .inl ⟨.ref a, .ref C, .ref C, .ref C, true, rfl, .own C, .base (.ins (k.ex _ _ hF) T.cl T.ha T.hn T.htk T.hm), ?_, kk _ _ _ _ _ .refl k (.bl _) h⟩
    unfold PySem.W.kitOne
    rw [beq_self_eq_true]; rfl
/-- a built-in type's name as a value -/
theorem we_ty {x : Str} {n : String} (hg : Gl X x) (hm : X.mg x = none) (hv : bootBuiltins x = some (.type n)) (hn : x ≠ "__name__") (hd : (x == ("__debug__" : Str)) = false) (h : Q (.ty n) O) : WE X (.Name x pos) ρ O Q := by
  intro F σ H R E k kk
  exact PE.to (pe_bltn (v := .ty n) hg hm hv rfl hn hd) (kk _ _ _ _ _ .refl k (.ty n) h)

/-! ### methods of built-in types -/
theorem we_bm {o : Expr} {es : List Expr} {name : Str} {T id : String} {apos cpos : Pos} {r : V → List V → Hp → VK → Prop} (pa : PlainAttrs T) (slot : Slot T name id) (hty : typeOf (.builtin id) = pure (.type "method_descriptor")) (hm : MtR X id r)
    (hbase : attributeBase o name X.env (eval o X.env) = eval o X.env)
    (hfew : ((backTo cpos (starEach (e :: es) X.env)).all (fun x => !x.1) && (backToKw cpos (keywordEach [] X.env)).all (fun x => x.1.isSome) && decide ((e :: es).length + ([] : List Keyword).length + (if ([] : List Keyword).isEmpty then 0 else 1) < 30)) = true)
    (hline : (apos.endLine == cpos.line) = true) (hs : starEach (e :: es) X.env = (false, eval e X.env) :: starEach es X.env) (hplain : (backTo cpos (starEach es X.env)).any (·.1) = false)
    (h : WE X o ρ O fun d O1 => (∀ F H v, Ok X.K F O1 H → Rep X.K F v d → tyV X.K T v H) ∧ WA X (e :: es) ρ O1 fun ds O2 => ∀ F H v vs R, Ok X.K F O2 H → Rep X.K F v d → Reps X.K F vs ds → KE X.K F O2 H Q R → r v vs H R) : WE X (.Call (.Attribute o name apos) (e :: es) [] cpos) ρ O Q := by
  intro F σ H R E k kk
  refine PE.to (pe_bm pa slot hty hm pe_can pa_can hbase hfew hline hs hplain) ?_
  refine h F σ H _ E k fun F1 O1 H1 v d s1 k1 rd q => ⟨q.1 F1 H1 v k1 rd, ?_⟩
  refine q.2 F1 σ H1 _ (E.mono s1.fr) k1 fun F2 O2 H2 vs ds s2 k2 rs q2 => ?_
  exact q2 F2 H2 v vs R k2 (rd.mono s2.fr) rs (kk.fwd (s1.trans s2))
/-- xs.append(e), xs ours; the item may be given away -/
theorem we_append {o : Expr} {apos cpos : Pos} (hbase : attributeBase o "append" X.env (eval o X.env) = eval o X.env)
    (hfew : ((backTo cpos (starEach [e] X.env)).all (fun x => !x.1) && (backToKw cpos (keywordEach [] X.env)).all (fun x => x.1.isSome) && decide ([e].length + ([] : List Keyword).length + (if ([] : List Keyword).isEmpty then 0 else 1) < 30)) = true)
    (hline : (apos.endLine == cpos.line) = true) (hs : starEach [e] X.env = (false, eval e X.env) :: starEach [] X.env) (hplain : (backTo cpos (starEach [] X.env)).any (·.1) = false)
    (h : WE X o ρ O fun d O1 => (∃ a ds, d = .raw a ∧ O1 a = some (.lst ds)) ∧ WE X e ρ O1 fun y O2 => ∃ a ds, d = .raw a ∧ O2 a = some (.lst ds) ∧ ds.length < 1000000 ∧ Q .non (setO O2 a (.lst (ds ++ [y])))) : WE X (.Call (.Attribute o "append" apos) [e] [] cpos) ρ O Q := by
  refine we_bm PySem.F.plainAttrs_list PySem.F.slot_list_append PySem.F.type_list_append mt_append hbase hfew hline hs hplain ?_
  intro F σ H R E k kk
  refine h F σ H R E k fun F1 O1 H1 v d s1 k1 r q => kk F1 O1 H1 v d s1 k1 r ⟨fun F2 H2 v2 k2 r2 => ?_, ?_⟩
  · obtain ⟨⟨a, ds, rfl, ho⟩, _⟩ := q
    obtain ⟨_, vs, hv, _⟩ := k2.own _ _ ho
    rw [rep_raw r2]
    exact .inl ⟨rfl, vs, SqL.of hv⟩
  · refine wa_cons hs ?_
    intro F2 σ2 H2 R2 E2 k2 kk2
    refine q.2 F2 σ2 H2 R2 E2 k2 fun F3 O3 H3 v3 y s3 k3 r3 q3 => kk2 F3 O3 H3 v3 y s3 k3 r3 (wa_nil ?_)
    intro F4 H4 v4 vs4 R4 k4 r4 rs4 kk4
    obtain ⟨a, ds, rfl, ho, hl, q4⟩ := q3
    obtain ⟨u, rfl, ru⟩ := one_rep rs4
    obtain ⟨_, vs, hv, hr⟩ := k4.own _ _ ho
    have big : (1000000 : Nat) ≤ sizeLine := by decide
    have e := hr.1
    refine ⟨a, vs, u, rep_raw r4, rfl, hv, by omega, ?_⟩
    obtain ⟨k5, s5⟩ := k4.wr (o := .lst (vs ++ [u])) (c' := .lst (ds ++ [y])) ho ⟨_, upd_same, hr.app (.cons ru .nil)⟩
    exact kk4 _ _ _ _ _ s5 k5 .non q4
/-- xs.extend(ys), xs ours, ys a list -/
theorem we_extend {o : Expr} {apos cpos : Pos} (hbase : attributeBase o "extend" X.env (eval o X.env) = eval o X.env)
    (hfew : ((backTo cpos (starEach [e] X.env)).all (fun x => !x.1) && (backToKw cpos (keywordEach [] X.env)).all (fun x => x.1.isSome) && decide ([e].length + ([] : List Keyword).length + (if ([] : List Keyword).isEmpty then 0 else 1) < 30)) = true)
    (hline : (apos.endLine == cpos.line) = true) (hs : starEach [e] X.env = (false, eval e X.env) :: starEach [] X.env) (hplain : (backTo cpos (starEach [] X.env)).any (·.1) = false)
    (h : WE X o ρ O fun d O1 => (∃ a ds, d = .raw a ∧ O1 a = some (.lst ds)) ∧ WE X e ρ O1 fun y O2 => ∃ a ds es, d = .raw a ∧ O2 a = some (.lst ds) ∧ y = .lst es ∧ ds.length + es.length ≤ 1000000 ∧ Q .non (setO O2 a (.lst (ds ++ es)))) : WE X (.Call (.Attribute o "extend" apos) [e] [] cpos) ρ O Q := by
  refine we_bm PySem.F.plainAttrs_list PySem.F.slot_list_extend PySem.F.type_list_extend mt_extend hbase hfew hline hs hplain ?_
  intro F σ H R E k kk
  refine h F σ H R E k fun F1 O1 H1 v d s1 k1 r q => kk F1 O1 H1 v d s1 k1 r ⟨fun F2 H2 v2 k2 r2 => ?_, ?_⟩
  · obtain ⟨⟨a, ds, rfl, ho⟩, _⟩ := q
    obtain ⟨_, vs, hv, _⟩ := k2.own _ _ ho
    rw [rep_raw r2]
    exact .inl ⟨rfl, vs, SqL.of hv⟩
  · refine wa_cons hs ?_
    intro F2 σ2 H2 R2 E2 k2 kk2
    refine q.2 F2 σ2 H2 R2 E2 k2 fun F3 O3 H3 v3 y s3 k3 r3 q3 => kk2 F3 O3 H3 v3 y s3 k3 r3 (wa_nil ?_)
    intro F4 H4 v4 vs4 R4 k4 r4 rs4 kk4
    obtain ⟨a, ds, es, rfl, ho, rfl, hl, q4⟩ := q3
    obtain ⟨u, rfl, ru⟩ := one_rep rs4
    obtain ⟨b, us, rfl, hF, hus⟩ := rep_lst ru
    obtain ⟨_, vs, hv, hr⟩ := k4.own _ _ ho
    have big : (1000000 : Nat) ≤ sizeLine := by decide
    have e1 := hr.1
    have e2 := hus.1
    refine ⟨a, b, vs, us, rep_raw r4, rfl, hv, k4.ex _ _ hF, by omega, ?_⟩
    obtain ⟨k5, s5⟩ := k4.wr (o := .lst (vs ++ us)) (c' := .lst (ds ++ es)) ho ⟨_, upd_same, hr.app hus⟩
    exact kk4 _ _ _ _ _ s5 k5 .non q4
end
end Sd

-- SdH
namespace Sd
open PySem PySem.Spec PyProof.Rows L2
section
variable {α : Type} {a b c d e f g h i j k l m n o p q : α} {r : List α}
theorem at0 : (a :: r)[0]? = some a := rfl
theorem at1 : (a :: b :: r)[1]? = some b := rfl
theorem at2 : (a :: b :: c :: r)[2]? = some c := rfl
theorem at3 : (a :: b :: c :: d :: r)[3]? = some d := rfl
theorem at4 : (a :: b :: c :: d :: e :: r)[4]? = some e := rfl
theorem at5 : (a :: b :: c :: d :: e :: f :: r)[5]? = some f := rfl
theorem at6 : (a :: b :: c :: d :: e :: f :: g :: r)[6]? = some g := rfl
theorem at7 : (a :: b :: c :: d :: e :: f :: g :: h :: r)[7]? = some h := rfl
theorem at8 : (a :: b :: c :: d :: e :: f :: g :: h :: i :: r)[8]? = some i := rfl
theorem at9 : (a :: b :: c :: d :: e :: f :: g :: h :: i :: j :: r)[9]? = some j := rfl
theorem at10 : (a :: b :: c :: d :: e :: f :: g :: h :: i :: j :: k :: r)[10]? = some k := rfl
theorem at11 : (a :: b :: c :: d :: e :: f :: g :: h :: i :: j :: k :: l :: r)[11]? = some l := rfl
theorem at12 : (a :: b :: c :: d :: e :: f :: g :: h :: i :: j :: k :: l :: m :: r)[12]? = some m := rfl
theorem at13 : (a :: b :: c :: d :: e :: f :: g :: h :: i :: j :: k :: l :: m :: n :: r)[13]? = some n := rfl
theorem at14 : (a :: b :: c :: d :: e :: f :: g :: h :: i :: j :: k :: l :: m :: n :: o :: r)[14]? = some o := rfl
theorem at15 : (a :: b :: c :: d :: e :: f :: g :: h :: i :: j :: k :: l :: m :: n :: o :: p :: r)[15]? = some p := rfl
end
theorem bt_len : bootBuiltins "len" = some (.builtin "len") := by decide +kernel
theorem bt_isinstance : bootBuiltins "isinstance" = some (.builtin "isinstance") := by decide +kernel
theorem bt_sum : bootBuiltins "sum" = some (.builtin "sum") := by decide +kernel
theorem bt_min : bootBuiltins "min" = some (.builtin "min") := by decide +kernel
theorem bt_max : bootBuiltins "max" = some (.builtin "max") := by decide +kernel
theorem bt_all : bootBuiltins "all" = some (.builtin "all") := by decide +kernel
theorem bt_any : bootBuiltins "any" = some (.builtin "any") := by decide +kernel
theorem bt_zip : bootBuiltins "zip" = some (.type "zip") := by decide +kernel
theorem bt_sorted : bootBuiltins "sorted" = some (.builtin "sorted") := by decide +kernel
theorem bt_int : bootBuiltins "int" = some (.type "int") := by decide +kernel
theorem bt_bool : bootBuiltins "bool" = some (.type "bool") := by decide +kernel
theorem bt_str : bootBuiltins "str" = some (.type "str") := by decide +kernel
theorem bt_list : bootBuiltins "list" = some (.type "list") := by decide +kernel
theorem bt_tuple : bootBuiltins "tuple" = some (.type "tuple") := by decide +kernel
theorem bt_set : bootBuiltins "set" = some (.type "set") := by decide +kernel
theorem asL_raw {O : Own} {a : Addr} {ds : List D} (h : O a = some (.lst ds)) : asL O (.raw a) = some ds := by
  unfold asL; simp only [h]
theorem brn_nt {p q : Prop} (h : q) : brn (!true) p q := h
theorem brn_nf {p q : Prop} (h : p) : brn (!false) p q := h
theorem isB_i {Q : Bool → Own → Prop} {b : Bool} {O : Own} (h : Q b O) : isB Q (.bl b) O := ⟨b, rfl, h⟩
theorem bt_range : bootBuiltins "range" = some (.type "range") := by decide +kernel
theorem bt_enumerate : bootBuiltins "enumerate" = some (.type "enumerate") := by decide +kernel
end Sd

-- SdL
/-! comprehensions that only read -/
namespace Sd
open PySem PySem.Spec PyProof.Rows L2
section
variable {X : Cx} {ρ : Env} {O : Own} {elt : Expr} {ifs : List Expr} {scope : Scope} {own : List (Str × Nat)} {bind : D → Env → Option Env} {Q : DK} {α β : Type}
/-- the turns of a comprehension that only reads -/
theorem lc_pure {xs : List α} {g : α → D} {Gd : Own → Prop} (sel : α → Option β) (h : β → D) (hl : xs.length ≤ 100000) (hG : Gd O)
    (turn : ∀ a ∈ xs, ∃ ρ2, bind (g a) (wipeD ρ (own.map (·.2))) = some ρ2 ∧ ∀ (s : Shared) (H0 : Hp) (C : Addr) (cl : List (Str × Addr)) (fp : List Addr),
      WTs (X.blk s H0 scope (compEnvC scope cl C X.env) fp) ifs ρ2 O fun b O2 => brn b (∀ (s : Shared) (H0 : Hp) (C : Addr) (cl : List (Str × Addr)) (fp : List Addr), WE (X.blk s H0 scope (compEnvC scope cl C X.env) fp) elt ρ2 O2 fun y O3 => O3 = O ∧ ∃ z, sel a = some z ∧ y = h z) (O2 = O ∧ sel a = none))
    (fin : Q (.lst ((xs.filterMap sel).map h)) O) :
    LcT X elt ifs scope own bind ρ (xs.map g) Gd O Q := by
  refine ⟨fun i acc O' => O' = O ∧ acc = ((xs.take i).filterMap sel).map h, ⟨rfl, by simp⟩, ?_, ?_, ?_⟩
  · rintro i acc O' hi ⟨rfl, rfl⟩
    refine ⟨hG, ?_⟩
    rw [List.length_map]
    have h1 := List.length_filterMap_le sel (xs.take i)
    have h2 : (xs.take i).length ≤ xs.length := by rw [List.length_take]; omega
    omega
  · rintro i d acc O' hd ⟨rfl, rfl⟩
    rw [List.getElem?_map] at hd
    cases ha : xs[i]? with
    | none => rw [ha] at hd; cases hd
    | some a =>
      rw [ha] at hd
      cases hd
      obtain ⟨ρ2, hb, tu⟩ := turn a (List.mem_of_getElem? ha)
      have ht : (xs.take (i + 1)).filterMap sel = (xs.take i).filterMap sel ++ [a].filterMap sel := by rw [List.take_add_one, ha, List.filterMap_append]; rfl
      refine ⟨ρ2, hb, fun s H0 C cl fp => ?_⟩
      intro F σ H R E k kk
      refine tu s H0 C cl fp F σ H R E k fun F' O1 H' b st k' q => kk F' O1 H' b st k' ?_
      cases b with
      | true =>
        intro s H0 C cl fp F1 σ1 H1 R1 E1 k1 kk1
        refine q s H0 C cl fp F1 σ1 H1 R1 E1 k1 fun F2 O2 H2 v d2 st2 k2 rd q2 => kk1 F2 O2 H2 v d2 st2 k2 rd ?_
        obtain ⟨rfl, z, hz, rfl⟩ := q2
        refine ⟨rfl, ?_⟩
        rw [ht]
        simp [List.filterMap_cons, hz]
      | false =>
        obtain ⟨rfl, hz⟩ := q
        refine ⟨rfl, ?_⟩
        rw [ht]
        simp [List.filterMap_cons, hz]
  · rintro acc O' ⟨rfl, rfl⟩
    rw [List.length_map, List.take_length]
    exact fin
end
/-- for enumerate -/
theorem enum_map {α : Type} (g : α → D) (xs : List α) : (xs.map g).mapIdx (fun (i : Nat) x => D.tup [.int (i : Int), x]) = xs.zipIdx.map fun p => D.tup [.int (p.2 : Int), g p.1] := by
  apply List.ext_getElem?
  intro i
  rw [List.getElem?_mapIdx, List.getElem?_map, List.getElem?_map, List.getElem?_zipIdx]
  cases xs[i]? <;> simp
end Sd

-- SdN
/-! what is compared by its contents -/
namespace Sd
open PySem PySem.Spec PyProof.Rows L2
def Sh (n : Nat) (p : PyData) : Prop := p.canLay0 = true ∧ p.depth ≤ n
theorem Sh.shaped {n : Nat} {p : PyData} (h : Sh n p) (hn : n ≤ 64) : SeqAt.shaped p = true := by
  unfold SeqAt.shaped
  rw [h.1, decide_eq_true (Nat.le_trans h.2 hn)]; rfl
theorem sh_all {n : Nat} : ∀ {ps : List PyData}, (∀ p ∈ ps, Sh n p) → PyData.canLayAll0 ps = true ∧ PyData.depthAll ps ≤ n
  | [], _ => ⟨by simp [PyData.canLayAll0], by simp [PyData.depthAll]⟩
  | p :: ps, h => by
    obtain ⟨a, b⟩ := h p List.mem_cons_self
    obtain ⟨c, d⟩ := sh_all fun q hq => h q (List.mem_cons_of_mem _ hq)
    exact ⟨by simp [PyData.canLayAll0, a, c], by simp only [PyData.depthAll]; omega⟩
theorem Sh.tup {n : Nat} {ps : List PyData} (h : ∀ p ∈ ps, Sh n p) : Sh (n + 1) (.tuple ps) := by
  obtain ⟨a, b⟩ := sh_all h
  exact ⟨by simp [PyData.canLay0, a], by simp only [PyData.depth]; omega⟩
theorem Sh.lst {n : Nat} {ps : List PyData} (h : ∀ p ∈ ps, Sh n p) : Sh (n + 1) (.list ps) := by
  obtain ⟨a, b⟩ := sh_all h
  exact ⟨by simp [PyData.canLay0, a], by simp only [PyData.depth]; omega⟩
theorem Sh.up {n m : Nat} {p : PyData} (h : Sh n p) (k : n ≤ m) : Sh m p := ⟨h.1, Nat.le_trans h.2 k⟩
/-- data that == compares as Lean does -/
structure Enc (α : Type) [DecidableEq α] (g : α → D) (p : α → PyData) (ok : α → Prop) (n : Nat) : Prop where
  py : ∀ a, pyD (g a) = some (p a)
  eq : ∀ a b, PyData.eqv (p a) (p b) = decide (a = b)
  sh : ∀ a, ok a → Sh n (p a)
theorem encI : Enc Int .int .int (fun _ => True) 0 := ⟨fun _ => rfl, fun a b => by simp [PyData.eqv, Bool.beq_eq_decide_eq], fun a _ => ⟨by simp [PyData.canLay0], by simp [PyData.depth]⟩⟩
theorem encS : Enc Str .str .str (fun z => PyData.strOk z = true) 0 := ⟨fun _ => rfl, fun a b => by simp [PyData.eqv, Bool.beq_eq_decide_eq], fun a h => ⟨by simp [PyData.canLay0, h], by simp [PyData.depth]⟩⟩
def pOpt : Option Int → PyData
  | none => .none
  | some i => .int i
def dOpt : Option Int → D
  | none => .non
  | some i => .int i
theorem encO : Enc (Option Int) dOpt pOpt (fun _ => True) 0 := ⟨fun a => by cases a <;> rfl, fun a b => by cases a <;> cases b <;> simp [pOpt, PyData.eqv, Bool.beq_eq_decide_eq], fun a _ => by cases a <;> exact ⟨by simp [pOpt, PyData.canLay0], by simp [pOpt, PyData.depth]⟩⟩
section
variable {α β : Type} [DecidableEq α] [DecidableEq β] {g : α → D} {p : α → PyData} {ok : α → Prop} {n m : Nat} {g2 : β → D} {p2 : β → PyData} {ok2 : β → Prop}
theorem Enc.all (e : Enc α g p ok n) : ∀ xs ys : List α, PyData.eqvAll (xs.map p) (ys.map p) = decide (xs = ys)
  | [], [] => by simp [PyData.eqvAll]
  | [], y :: ys => by simp [PyData.eqvAll]
  | x :: xs, [] => by simp [PyData.eqvAll]
  | x :: xs, y :: ys => by simp [PyData.eqvAll, e.eq, e.all xs ys, Bool.decide_and]
theorem Enc.tup (e : Enc α g p ok n) : Enc (List α) (fun xs => .tup (xs.map g)) (fun xs => .tuple (xs.map p)) (fun xs => ∀ x ∈ xs, ok x) (n + 1) := by
  refine ⟨fun xs => ?_, fun xs ys => ?_, fun xs h => Sh.tup fun q hq => ?_⟩
  · have : pyDs (xs.map g) = some (xs.map p) := pyDs_map fun x _ => e.py x
    simp only [pyD, this, Option.map_some]
  · simp only [PyData.eqv]; exact e.all xs ys
  · obtain ⟨x, hx, rfl⟩ := List.mem_map.mp hq
    exact e.sh x (h x hx)
theorem Enc.lst (e : Enc α g p ok n) : Enc (List α) (fun xs => .lst (xs.map g)) (fun xs => .list (xs.map p)) (fun xs => ∀ x ∈ xs, ok x) (n + 1) := by
  refine ⟨fun xs => ?_, fun xs ys => ?_, fun xs h => Sh.lst fun q hq => ?_⟩
  · have : pyDs (xs.map g) = some (xs.map p) := pyDs_map fun x _ => e.py x
    simp only [pyD, this, Option.map_some]
  · simp only [PyData.eqv]; exact e.all xs ys
  · obtain ⟨x, hx, rfl⟩ := List.mem_map.mp hq
    exact e.sh x (h x hx)
theorem Enc.pair (e : Enc α g p ok n) (e2 : Enc β g2 p2 ok2 n) : Enc (α × β) (fun x => .tup [g x.1, g2 x.2]) (fun x => .tuple [p x.1, p2 x.2]) (fun x => ok x.1 ∧ ok2 x.2) (n + 1) := by
  refine ⟨fun x => ?_, fun x y => ?_, fun x h => Sh.tup fun q hq => ?_⟩
  · simp only [pyD, pyDs, e.py, e2.py, Option.map_some]
  · cases x; cases y
    simp [PyData.eqv, PyData.eqvAll, e.eq, e2.eq, Bool.decide_and]
  · simp only [List.mem_cons, List.not_mem_nil, or_false] at hq
    rcases hq with rfl | rfl
    · exact e.sh _ h.1
    · exact e2.sh _ h.2
theorem Enc.up (e : Enc α g p ok n) (k : n ≤ m) : Enc α g p ok m := ⟨e.py, e.eq, fun a h => (e.sh a h).up k⟩
variable {K : PySem.W.Frag} {O : Own} {Q : DK}
theorem eq_enc (e : Enc α g p ok n) {a b : α} (ha : ok a) (hb : ok b) (hn : n ≤ 64) (h : Q (.bl (decide (a = b))) O) : lR K (rEqU K) (g a) (g b) O Q :=
  eq_dd (e.py a) (e.py b) ((e.sh a ha).shaped hn) ((e.sh b hb).shaped hn) (e.eq a b) h
theorem ne_enc (e : Enc α g p ok n) {a b : α} (ha : ok a) (hb : ok b) (hn : n ≤ 64) (h : Q (.bl (!decide (a = b))) O) : lR K (rNeU K) (g a) (g b) O Q :=
  ne_dd (e.py a) (e.py b) ((e.sh a ha).shaped hn) ((e.sh b hb).shaped hn) (e.eq a b) h
theorem Enc.any (e : Enc α g p ok n) (a : α) : ∀ xs : List α, ((xs.map p).any fun z => PyData.eqv z (p a)) = decide (a ∈ xs)
  | [] => by simp
  | x :: xs => by
    rw [List.map_cons, List.any_cons, e.eq, e.any a xs]
    by_cases h : a = x <;> by_cases h2 : a ∈ xs <;> simp [h, h2, eq_comm]
theorem Enc.any' (e : Enc α g p ok n) (a : α) (xs : List α) [Decidable (a ∈ xs)] : ((xs.map p).any fun z => PyData.eqv z (p a)) = decide (a ∈ xs) := (e.any a xs).trans (by congr)
theorem in_enc {neg : Bool} (e : Enc α g p ok n) {a : α} {xs : List α} [Decidable (a ∈ xs)] {y : D} (hy : (y = .lst (xs.map g)) ∨ ∃ b, y = .raw b ∧ O b = some (.lst (xs.map g))) (ha : ok a) (hx : ∀ x ∈ xs, ok x) (hn : n ≤ 63)
    (h : Q (.bl (if neg then !decide (a ∈ xs) else decide (a ∈ xs))) O) : lR K (rInU K neg) (g a) y O Q := by
  refine in_deep hy (e.py a) (pyDs_map fun x _ => e.py x) ((e.sh a ha).shaped (by omega)) ?_ (e.any' a xs) h
  exact ((Enc.lst e).sh xs hx).shaped (by omega)
theorem any_mem {g : α → D} (he : ∀ a b, eqF (g a) (g b) = decide (a = b)) (a : α) : ∀ xs : List α, ((xs.map g).any fun z => eqF z (g a)) = decide (a ∈ xs)
  | [] => by simp
  | x :: xs => by
    rw [List.map_cons, List.any_cons, he, any_mem he a xs]
    by_cases h : a = x <;> by_cases h2 : a ∈ xs <;> simp [h, h2, eq_comm]
theorem any_mem' {g : α → D} (he : ∀ a b, eqF (g a) (g b) = decide (a = b)) (a : α) (xs : List α) [Decidable (a ∈ xs)] : ((xs.map g).any fun z => eqF z (g a)) = decide (a ∈ xs) := (any_mem he a xs).trans (by congr)
theorem in_fl {neg : Bool} {g : α → D} {a : α} {xs : List α} [Decidable (a ∈ xs)] (hf : ∀ a, flatD (g a) = true) (he : ∀ a b, eqF (g a) (g b) = decide (a = b)) {y : D} (hy : asL O y = some (xs.map g)) (h : Q (.bl (if neg then !decide (a ∈ xs) else decide (a ∈ xs))) O) : lR K (rInU K neg) (g a) y O Q := by
  refine in_flat hy (hf a) ?_ (any_mem' he a xs) h
  rw [List.all_map]; exact List.all_eq_true.mpr fun x _ => hf x
end
section
variable {K : PySem.W.Frag} {O : Own} {Q : DK}
theorem nin_i {a : Int} {xs : List Int} [Decidable (a ∈ xs)] {y : D} (hy : asL O y = some (xs.map .int)) (h : Q (.bl (!decide (a ∈ xs))) O) : lR K (rInU K true) (.int a) y O Q :=
  in_fl (fun _ => rfl) (fun a b => by simp [eqF, Bool.beq_eq_decide_eq]) hy h
theorem in_i {a : Int} {xs : List Int} [Decidable (a ∈ xs)] {y : D} (hy : asL O y = some (xs.map .int)) (h : Q (.bl (decide (a ∈ xs))) O) : lR K (rInU K false) (.int a) y O Q :=
  in_fl (fun _ => rfl) (fun a b => by simp [eqF, Bool.beq_eq_decide_eq]) hy h
theorem nin_s {a : Str} {xs : List Str} [Decidable (a ∈ xs)] {y : D} (hy : asL O y = some (xs.map .str)) (h : Q (.bl (!decide (a ∈ xs))) O) : lR K (rInU K true) (.str a) y O Q :=
  in_fl (fun _ => rfl) (fun a b => by simp [eqF, Bool.beq_eq_decide_eq]) hy h
theorem in_s {a : Str} {xs : List Str} [Decidable (a ∈ xs)] {y : D} (hy : asL O y = some (xs.map .str)) (h : Q (.bl (decide (a ∈ xs))) O) : lR K (rInU K false) (.str a) y O Q :=
  in_fl (fun _ => rfl) (fun a b => by simp [eqF, Bool.beq_eq_decide_eq]) hy h
theorem eqF_opt (a b : Option Int) : eqF (dOpt a) (dOpt b) = decide (a = b) := by cases a <;> cases b <;> simp [dOpt, eqF, Bool.beq_eq_decide_eq]
theorem flat_opt (a : Option Int) : flatD (dOpt a) = true := by cases a <;> rfl
theorem nin_o {a : Option Int} {xs : List (Option Int)} [Decidable (a ∈ xs)] {y : D} (hy : asL O y = some (xs.map dOpt)) (h : Q (.bl (!decide (a ∈ xs))) O) : lR K (rInU K true) (dOpt a) y O Q :=
  in_fl (neg := true) flat_opt eqF_opt hy h
theorem in_o {a : Option Int} {xs : List (Option Int)} [Decidable (a ∈ xs)] {y : D} (hy : asL O y = some (xs.map dOpt)) (h : Q (.bl (decide (a ∈ xs))) O) : lR K (rInU K false) (dOpt a) y O Q :=
  in_fl (neg := false) flat_opt eqF_opt hy h
theorem nin_enc {α : Type} [DecidableEq α] {g : α → D} {p : α → PyData} {ok : α → Prop} {n : Nat} (e : Enc α g p ok n) {a : α} {xs : List α} [Decidable (a ∈ xs)] {y : D} (hy : (y = .lst (xs.map g)) ∨ ∃ b, y = .raw b ∧ O b = some (.lst (xs.map g))) (ha : ok a) (hx : ∀ x ∈ xs, ok x) (hn : n ≤ 63)
    (h : Q (.bl (!decide (a ∈ xs))) O) : lR K (rInU K true) (g a) y O Q := in_enc e hy ha hx hn h
theorem yin_enc {α : Type} [DecidableEq α] {g : α → D} {p : α → PyData} {ok : α → Prop} {n : Nat} (e : Enc α g p ok n) {a : α} {xs : List α} [Decidable (a ∈ xs)] {y : D} (hy : (y = .lst (xs.map g)) ∨ ∃ b, y = .raw b ∧ O b = some (.lst (xs.map g))) (ha : ok a) (hx : ∀ x ∈ xs, ok x) (hn : n ≤ 63)
    (h : Q (.bl (decide (a ∈ xs))) O) : lR K (rInU K false) (g a) y O Q := in_enc e hy ha hx hn h
end
end Sd

-- SdX
/-! sets of ints and texts: their members as a list -/
namespace Sd
open PySem PySem.Spec PyProof.Rows L2

def kEnt (u : Int × Value) : Key := match u.2 with
  | .int i _ => .inl i
  | .str z _ => .inr z
  | _ => .inl 0
def OkE (w : World) (u : Int × Value) : Prop := ∃ c, keyIs c u.2 = true ∧ u.1 = keyH w c
theorem kEnt_of {u : Int × Value} {c : Key} (h : keyIs c u.2 = true) : kEnt u = c := by
  unfold kEnt
  rcases keyIs_shape h with ⟨i, t, rfl, e⟩ | ⟨z, t, rfl, e⟩ <;> rw [e]
theorem key_scan {c : Key} {v : Value} (h : keyIs c v = true) : v.scannable = true := by
  rcases keyIs_shape h with ⟨i, t, rfl, rfl⟩ | ⟨z, t, rfl, rfl⟩ <;> rfl
/-- the set at a, its members ks -/
def SetK (w : World) (h : Heap) (a : Addr) (ks : List Key) : Prop := ∃ ob rows ep tb, h.get? a = some ob ∧ ob.ExactSet ∧ ob.data = .set rows ep tb ∧ (∀ u ∈ rows.toList, OkE w u) ∧
  (rows.toList.map kEnt).Perm ks ∧ ks.Nodup ∧ rows.size < scanBound ∧ tb.fits rows.size = true ∧ Ris tb.place.toList ∧ (w.params.followText "set-order" = true ∨ tb.led = true)
theorem SetK.keep {w : World} {h h' : Heap} {a : Addr} {ks : List Key} (R : SetK w h a ks) (k : ∀ o, h.get? a = some o → h'.get? a = some o) : SetK w h' a ks := by
  obtain ⟨ob, rows, ep, tb, ho, r⟩ := R
  exact ⟨ob, rows, ep, tb, k ob ho, r⟩
section
variable {P : Program} {w : World} {A : Around} {E : Value → Shared → Prop} {s : Shared} {a : Addr}
theorem okE_elems {rows : List (Int × Value)} (g : ∀ u ∈ rows, OkE w u) : ElemsOf (mixKind P w) rows := fun u hu => by
  obtain ⟨c, h1, h2⟩ := g u hu
  exact ⟨⟨c, h1, h2⟩, key_scan h1⟩
theorem is_kEnt {u : Int × Value} (g : OkE w u) (c : Key) : (mixKind P w).is c u.2 = true ↔ kEnt u = c := by
  obtain ⟨c0, h1, _⟩ := g
  rw [kEnt_of h1]
  exact ⟨fun h => (mixKind P w).inj _ _ _ h1 h, fun h => h ▸ h1⟩
/-- rows stored, and perhaps laid anew -/
theorem putK {give : Bool → Sem Unit} (hgive : ∀ (b : Bool) (t : Shared) (Q' : Unit → Shared → Prop), Q' () t → wpAny (model P w) A (give b) Q' E t) {ob : Obj} {rows rows1 : Array (Int × Value)} {ep : Nat} {tb tb1 : SetTable} {ks : List Key} {off : Bool} {R : Option Bool → Shared → Prop}
    (ho : s.heap.get? a = some ob) (hex : ob.ExactSet) (hd : ob.data = .set rows ep tb) (g1 : ∀ u ∈ rows1.toList, OkE w u) (pm : (rows1.toList.map kEnt).Perm ks) (nd : ks.Nodup) (room : rows1.size < scanBound) (fit : tb1.fits rows1.size = true) (ris : Ris tb1.place.toList)
    (led : w.params.followText "set-order" = true ∨ tb1.led = true) (hR : ∀ h', Heap.SameBut a s.heap h' → SetK w h' a ks → R (some true) { s with heap := h' }) :
    wpAny (model P w) A (do
      storeSet a rows1 tb1
      if (!off && tb1.tooFull) = true then do
          give (relayAll tb1 rows1 (SetTable.grown rows1.size)).2.2
          storeSet a (relayAll tb1 rows1 (SetTable.grown rows1.size)).1 (relayAll tb1 rows1 (SetTable.grown rows1.size)).2.1
          pure (some true)
        else pure (some true)) R E s := by
  have at1 := store_at (es' := rows1) (t' := tb1) ho hd
  have but1 := Heap.SameBut.update s.heap a (Obj.putSet rows1 tb1)
  refine wpAny_bind (wpAny_storeSet_of ho hd ?_ (fits_of_scanBound room))
  by_cases full : (!off && tb1.tooFull) = true
  · rw [if_pos full]
    have q1 := relayAll_perm tb1 rows1 (SetTable.grown rows1.size)
    have q2 := relayAll_fits tb1 rows1 (SetTable.grown rows1.size)
    have q3 := relayAll_ris tb1 rows1 (SetTable.grown rows1.size)
    have q4 := relayAll_led tb1 rows1 (SetTable.grown rows1.size)
    revert q1 q2 q3 q4
    generalize relayAll tb1 rows1 (SetTable.grown rows1.size) = L
    obtain ⟨rows2, tb2, gone⟩ := L
    intro q1 q2 q3 q4
    dsimp only at q1 q2 q3 q4 ⊢
    have same : rows2.size = rows1.size := by have := q1.length_eq; simpa using this
    have room2 : rows2.size < scanBound := same ▸ room
    have at2 := store_at (es' := rows2) (t' := tb2) at1 rfl
    refine wpAny_bind (hgive _ _ _ (wpAny_bind (wpAny_storeSet_of at1 rfl ?_ (fits_of_scanBound room2))))
    refine wpAny_pure (hR _ (but1.trans (Heap.SameBut.update _ a _)) ⟨_, rows2, _, tb2, at2, hex, rfl, fun u hu => g1 u (q1.mem_iff.mp hu), (q1.map kEnt).trans pm, nd, room2, q2, q3, ?_⟩)
    exact led.imp id fun z => by rw [q4]; exact z
  · rw [if_neg full]
    exact wpAny_pure (hR _ but1 ⟨_, rows1, _, tb1, at1, hex, rfl, g1, pm, nd, room, fit, ris, led⟩)
open Classical in
noncomputable def addK (ks : List Key) (c : Key) : List Key := if c ∈ ks then ks else ks ++ [c]
theorem setK_hashed {ks : List Key} {c : Key} {v : Value} {Q : Bool → Shared → Prop} (R : SetK w s.heap a ks) (hv : keyIs c v = true) (room : ks.length + 1 < scanBound)
    (hQ : ∀ (b : Bool) h', Heap.SameBut a s.heap h' → SetK w h' a (addK ks c) → Q b { s with heap := h' }) : wpAny (model P w) A (setAddHashed a v ((mixKind P w).hash c)) Q E s := by
  obtain ⟨ob, rows, ep, tb, ho, hex, hd, g, pm, nd, hb, fit, ris, led⟩ := R
  have hkey : (mixKind P w).is c v = true := hv
  have hsc := key_scan hv
  have els : ElemsOf (mixKind P w) rows.toList := okE_elems g
  have size : rows.size = ks.length := by have := pm.length_eq; simpa using this
  unfold setAddHashed setAddHashedIn
  refine wpAny_holding (wpAny_bind (wpAny_setState_of ho hd fit ?_))
  dsimp only
  rw [byScan_of hsc hb els]
  simp only [↓reduceIte]
  unfold setAddByScan
  refine wpAny_bind (wpAny_bind (wpAny_rule (wpAny_bind (wpAny_setScan_of hkey ho hd fit els ?_))))
  cases fnd : List.findIdx? (fun u => (mixKind P w).is c u.2) rows.toList with
  | some j =>
    obtain ⟨hj, pj, _⟩ := List.findIdx?_eq_some_iff_getElem.mp fnd
    have hm : c ∈ ks := pm.mem_iff.mp (List.mem_map.mpr ⟨_, List.getElem_mem hj, (is_kEnt (P := P) (g _ (List.getElem_mem hj)) c).mp pj⟩)
    have q := hQ false s.heap (Heap.SameBut.refl a s.heap)
    unfold addK at q
    rw [if_pos hm] at q
    exact wpAny_pure (wpAny_pure (q ⟨ob, rows, ep, tb, ho, hex, hd, g, pm, nd, hb, fit, ris, led⟩))
  | none =>
    have hm : c ∉ ks := fun z => by
      obtain ⟨u, hu, e⟩ := List.mem_map.mp (pm.mem_iff.mpr z)
      have no := List.findIdx?_eq_none_iff.mp fnd u hu
      rw [(is_kEnt (P := P) (g u hu) c).mpr e] at no
      cases no
    have say : ∀ (b : Bool) {t : Shared} {Q' : Unit → Shared → Prop}, Q' () t → wpAny (model P w) A (match b with | true => rule "set.scan.the-table-gave-way" | false => pure ()) Q' E t := fun b t Q' z => by
      cases b
      · exact wpAny_pure z
      · exact wpAny_rule z
    have say2 : ∀ (b : Bool) (t : Shared) (Q' : Unit → Shared → Prop), Q' () t → wpAny (model P w) A (match b with | true => rule "set.scan.the-table-gave-way" | false => pure ()) Q' E t := fun b t Q' z => say b z
    have l1 := layNew_perm tb rows ((mixKind P w).hash c) v
    have l2 := layNew_fits tb rows ((mixKind P w).hash c) v
    have l3 := layNew_ris tb rows ((mixKind P w).hash c) v ris
    have l4 := layNew_led tb rows ((mixKind P w).hash c) v
    dsimp only
    revert l1 l2 l3 l4
    generalize layNew tb rows ((mixKind P w).hash c) v = L
    obtain ⟨rows1, tb1, off, gone⟩ := L
    intro l1 l2 l3 l4
    dsimp only at l1 l2 l3 l4 ⊢
    have l1' : rows1.toList.Perm (rows.toList ++ [((mixKind P w).hash c, v)]) := by rw [← Array.toList_push]; exact l1
    have g1 : ∀ u ∈ rows1.toList, OkE w u := fun u hu => by
      rcases List.mem_append.mp (l1'.mem_iff.mp hu) with z | z
      · exact g u z
      · rw [List.mem_singleton.mp z]; exact ⟨c, hv, rfl⟩
    have pm1 : (rows1.toList.map kEnt).Perm (ks ++ [c]) := by
      refine (l1'.map kEnt).trans ?_
      rw [List.map_append]
      have e : List.map kEnt [((mixKind P w).hash c, v)] = [c] := by rw [List.map_cons, kEnt_of hv]; rfl
      rw [e]
      exact pm.append_right _
    have nd1 : (ks ++ [c]).Nodup := List.nodup_append.mpr ⟨nd, by simp, fun x hx y hy e => hm (by rw [← List.mem_singleton.mp hy, ← e]; exact hx)⟩
    have room1 : rows1.size < scanBound := by
      have := l1'.length_eq
      rw [List.length_append, Array.length_toList, Array.length_toList, size] at this
      simp only [List.length_cons, List.length_nil] at this
      omega
    have led1 : w.params.followText "set-order" = true ∨ tb1.led = true := led.imp id fun z => by rw [l4]; exact z
    have fin : ∀ h', Heap.SameBut a s.heap h' → SetK w h' a (ks ++ [c]) → Q true { s with heap := h' } := fun h' sb r => by
      have q := hQ true h' sb
      unfold addK at q
      rw [if_neg hm] at q
      exact q r
    refine wpAny_bind (say _ ?_)
    split
    · rw [hashByValue_scannable 8 hsc]
      refine wpAny_bind (wpAny_pure (putK say2 ho hex hd g1 pm1 nd1 room1 ?_ ?_ ?_ fun h' sb r => wpAny_pure (fin h' sb r)))
      · split
        · exact l2
        · exact SetTable.fits_plain_off l2
      · split <;> exact l3
      · split <;> exact led1
    · refine wpAny_bind (wpAny_pure ?_)
      simp only [↓reduceIte]
      exact putK say2 ho hex hd g1 pm1 nd1 room1 l2 l3 led1 fun h' sb r => wpAny_pure (fin h' sb r)
/-- set.add -/
theorem setK_add {ks : List Key} {c : Key} {v : Value} {Q : Value → Shared → Prop} (R : SetK w s.heap a ks) (hv : keyIs c v = true) (room : ks.length + 1 < scanBound)
    (hQ : ∀ h', Heap.SameBut a s.heap h' → SetK w h' a (addK ks c) → Q .none { s with heap := h', toks := s.toks + 1 }) : wpAny (model P w) A (call (.builtin "set.add") [.ref a, v]) Q E s := by
  have ty : s.TypeIs (.ref a) "set" := by
    obtain ⟨ob, _, _, _, ho, hex, _⟩ := R
    exact ⟨ob, ho, hex.1⟩
  refine wpAny_call_entry F.slot_set_add ty F.entry_set_add ?_ (F.args_set_add_2 _ _)
  unfold Builtin.«set.add» Builtin.Frozenset.oneOther
  simp only [List.isEmpty_nil, bind_assoc]
  unfold Builtin.Frozenset.addrOf setAdd
  refine wpAny_bind (wpAny_pure ?_)
  try dsimp only
  refine wpAny_bind (wpAny_pure ?_)
  try dsimp only
  refine wpAny_bind (wpAny_holding (wpAny_bind ((mixKind P w).pyHash hv ?_)))
  refine setK_hashed (s := { s with toks := s.toks + 1 }) R hv room fun b h' sb r => ?_
  show wpAny _ _ (ret Value.none) _ _ _
  exact wpAny_pure ⟨_, rfl, hQ h' sb r⟩
theorem setK_fresh {h : Heap} (w : World) (ho : h.get? a = some { cls := .type "set", dict := none, data := .set #[] 0 (.fresh 0 0 (!w.params.followText "set-order")) }) : SetK w h a [] := by
  refine ⟨_, #[], 0, _, ho, ⟨rfl, rfl, rfl⟩, rfl, fun u hu => by simp at hu, by simp, by simp, by decide, rfl, List.Pairwise.nil, ?_⟩
  show _ ∨ (!w.params.followText "set-order") = true
  cases w.params.followText "set-order"
  · exact .inr rfl
  · exact .inl rfl
end
/-! ### as a tracked thing -/
def SetKO (w : World) (a : Addr) (ks : List Key) : HO := .ext fun h => SetK w h a ks
theorem setKO_new {w : World} {P : Program} {H : Hp} {h : Heap} {a : Addr} {ks : List Key} (R : SetK w h a ks) : ObjOk P w H h a (SetKO w a ks) := by
  have ⟨o, _, _, _, ho, _⟩ := R
  exact ⟨R, ⟨o, ho⟩, fun h1 h2 p k => SetK.keep p k⟩
section
variable {X : Cx} {pins : List (Addr × Obj)} {σ : L2.St} {H : Hp} {s : Shared} {a : Addr} {ks : List Key}
theorem setKO_get (I : Inv X pins σ H s) (ha : H a = some (SetKO X.w a ks)) : SetK X.w s.heap a ks := (I.hok a _ ha).1
theorem rel_key {c : Key} {v : Value} (r : RelV (kV c) v) : keyIs c v = true := by
  cases c with
  | inl i => obtain ⟨t, rfl⟩ := r; exact keyIs_int i t
  | inr z => obtain ⟨t, rfl⟩ := r; exact keyIs_str z t
theorem addK_ok {E : Value → Shared → Prop} {c : Key} {v : Value} {Q : Value → Shared → Prop} (I : Inv X pins σ H s) (ha : H a = some (SetKO X.w a ks)) (r : RelV (kV c) v) (room : ks.length + 1 < scanBound)
    (h : ∀ s', Inv X pins σ (upd H a (SetKO X.w a (addK ks c))) s' → Q .none s') : wpAny (model X.prog X.w) X.A (call (.builtin "set.add") [.ref a, v]) Q E s := by
  refine setK_add (setKO_get I ha) (rel_key r) room fun h' sb new => ?_
  have he : ∃ u, h'.get? a = some u := let ⟨o, _, _, _, ho, _⟩ := new; ⟨o, ho⟩
  exact h _ (I.write (e := a) (t' := s.toks + 1) (by rw [ha]; trivial) (.inl rfl) (fun b u hb hu => (sb.2 b hb).trans hu) he (setKO_new new))
end
end Sd

-- SdW
/-! set comprehensions of one and of two clauses: one clause's loop, whatever it gives out -/
namespace Sd
open PySem PySem.Spec PyProof.Rows L2
/-- a turn of a clause -/
def turnOf (ip : Pos) (tg : Expr) (ifs : List Expr) (it : Value) (env : PySem.Env) (emit : Sem Unit) (nx : Code) : Sem PySem.Fin := do
  standAt ip
  match ← pyNext it with
  | none => pure (.done .next)
  | some v =>
    letOwnedTupleGo tg it v
    assign tg env v
    let mut ok := true
    for c in ifs do
      if ok then ok ← isTrue c env (eval c env)
    if ok then emit
    again nx
def emitAdd (elt : Expr) (acc : Value) (env : PySem.Env) : Sem Unit := do let v ← eval elt env; standAt elt.pos; let _ ← call (.builtin "set.add") [acc, v]
def emitIn (e : Expr) (i1 : Expr) (acc : Value) (env : PySem.Env) : Sem Unit := do
  let x ← eval i1 env
  standAt i1.pos
  let x ← foldedSetIterable i1 env x
  let _ ← runOwn (.compStart e 1 (← holding [x] (pyIter x)) acc env) env
theorem turn_1 (elt tg iter : Expr) (ifs : List Expr) (scope : Scope) (pos : Pos) (it acc : Value) (env : PySem.Env) :
    compTurn (.SetComp elt [⟨tg, iter, ifs, 0⟩] scope pos) 0 it acc env = turnOf iter.pos tg ifs it env (emitAdd elt acc env) (.compLoop (.SetComp elt [⟨tg, iter, ifs, 0⟩] scope pos) 0 it acc env) := by rfl
theorem turn_20 (elt t0 i0 t1 i1 : Expr) (f0 f1 : List Expr) (scope : Scope) (pos : Pos) (it acc : Value) (env : PySem.Env) :
    compTurn (.SetComp elt [⟨t0, i0, f0, 0⟩, ⟨t1, i1, f1, 0⟩] scope pos) 0 it acc env = turnOf i0.pos t0 f0 it env (emitIn (.SetComp elt [⟨t0, i0, f0, 0⟩, ⟨t1, i1, f1, 0⟩] scope pos) i1 acc env) (.compLoop (.SetComp elt [⟨t0, i0, f0, 0⟩, ⟨t1, i1, f1, 0⟩] scope pos) 0 it acc env) := by
  have flat : compTurn (.SetComp elt [⟨t0, i0, f0, 0⟩, ⟨t1, i1, f1, 0⟩] scope pos) 0 it acc env = (do
      standAt i0.pos
      match ← pyNext it with
      | none => pure (.done .next)
      | some v =>
        letOwnedTupleGo t0 it v
        assign t0 env v
        let mut ok := true
        for c in f0 do
          if ok then ok ← isTrue c env (eval c env)
        if ok then
          let x ← eval i1 env
          standAt i1.pos
          let x ← foldedSetIterable i1 env x
          let _ ← runOwn (.compStart (.SetComp elt [⟨t0, i0, f0, 0⟩, ⟨t1, i1, f1, 0⟩] scope pos) 1 (← holding [x] (pyIter x)) acc env) env
        again (.compLoop (.SetComp elt [⟨t0, i0, f0, 0⟩, ⟨t1, i1, f1, 0⟩] scope pos) 0 it acc env)) := by rfl
  rw [flat]
  unfold turnOf emitIn
  simp only [bind_assoc, pure_bind]
theorem turn_21 (elt t0 i0 t1 i1 : Expr) (f0 f1 : List Expr) (scope : Scope) (pos : Pos) (it acc : Value) (env : PySem.Env) :
    compTurn (.SetComp elt [⟨t0, i0, f0, 0⟩, ⟨t1, i1, f1, 0⟩] scope pos) 1 it acc env = turnOf i1.pos t1 f1 it env (emitAdd elt acc env) (.compLoop (.SetComp elt [⟨t0, i0, f0, 0⟩, ⟨t1, i1, f1, 0⟩] scope pos) 1 it acc env) := by rfl
/-- how a comprehension's loop and start are run -/
structure CompOk (P : Program) (w : World) (A : Around) (e : Expr) (d : Nat) (acc : Value) (env : PySem.Env) : Prop where
  u1 : ∀ it, A.under (.compLoop e d it acc env) = A
  u2 : ∀ it, A.under (.compStart e d it acc env) = A
  d1 : ∀ it, (model P w).den (.compLoop e d it acc env) = (compTurn e d it acc env).onRaise (fun x => do noteFrame x env; theTreesLotGoes x)
  d2 : ∀ it, (model P w).den (.compStart e d it acc env) = (compStart e d it acc env).onRaise (fun x => do noteFrame x env; standAt theWindowsPlace)
theorem compOk_set {P : Program} {w : World} {A : Around} {elt : Expr} {gens : List Comprehension} {scope : Scope} {pos : Pos} {d : Nat} {acc : Value} {env : PySem.Env} : CompOk P w A (.SetComp elt gens scope pos) d acc env :=
  ⟨fun _ => rfl, fun _ => rfl, fun _ => rfl, fun _ => rfl⟩
abbrev Nv : Value → Shared → Prop := fun _ _ => False
section
variable {P : Program} {w : World} {A : Around} {R : Result → Shared → Prop} {s : Shared} {env : PySem.Env} {e tg : Expr} {d : Nat} {it acc : Value} {ip : Pos} {ifs : List Expr} {emit : Sem Unit}
theorem loopAny (hu : CompOk P w A e d acc env) (ht : compTurn e d it acc env = turnOf ip tg ifs it env emit (.compLoop e d it acc env)) (W : Nat → Shared → Prop)
    (turn : ∀ n t, W n t → wpAny (model P w) A (pyNext it) (fun r t1 => match r with
      | none => R (.ok .next) t1
      | some v => wpAny (model P w) A (letOwnedTupleGo tg it v) (fun _ t2 => wpAny (model P w) A (assign tg env v) (fun _ t3 =>
          wpAny (model P w) A (forIn ifs true fun c r => if r = true then do let ok ← isTrue c env (eval c env); pure (ForInStep.yield ok) else pure (ForInStep.yield r)) (fun ok t4 =>
            if ok = true then wpAny (model P w) A emit (fun _ t5 => ∃ m, m < n ∧ W m t5) Nv t4 else ∃ m, m < n ∧ W m t4) Nv t3) Nv t2) Nv t1) Nv t)
    (n : Nat) (h : W n s) : codeAny (model P w) A (.compLoop e d it acc env) R s := by
  refine codeAny_loop rfl W (fun n t hW => ?_) n h
  rw [hu.u1, hu.d1]
  refine wpAny_noted ?_
  rw [ht]
  unfold turnOf
  refine wpAny_bind (wpAny_standAt (wpAny_bind (wpAny_mono (turn n t hW) (fun r t1 q => ?_) fun _ _ z => z.elim)))
  cases r with
  | none => exact wpAny_pure q
  | some v =>
    refine wpAny_bind (wpAny_mono q (fun _ t2 q2 => ?_) fun _ _ z => z.elim)
    refine wpAny_bind (wpAny_mono q2 (fun _ t3 q3 => wpAny_bind (wpAny_mono q3 (fun ok t4 q4 => ?_) fun _ _ z => z.elim)) fun _ _ z => z.elim)
    cases ok with
    | false => exact wpAny_pure ⟨rfl, q4⟩
    | true => exact wpAny_bind (wpAny_mono q4 (fun _ t5 q5 => wpAny_pure ⟨rfl, q5⟩) fun _ _ z => z.elim)
theorem startAny {c : Comprehension} (hu : CompOk P w A e d acc env) (hcl : (clausesOf e)[d]? = some c) (ha : c.is_async = 0) (h0 : codeAny (model P w) A (.compLoop e d it acc env) R s)
    (h : wpAny (model P w) A (pyIter it) (fun it' t => codeAny (model P w) A (.compLoop e d it' acc env) R t) Nv s) : codeAny (model P w) A (.compStart e d it acc env) R s := by
  refine codeAny_of_tree ?_
  rw [hu.u2, hu.d2]
  refine wpAny_notedAt ?_
  have h' : wpAny (model P w) A (pyIter it) (fun it' t => codeAny (model P w) A (.compLoop e d it' acc env) R t) (notedBy (model P w) A env fun x s' => R (.error x) s') s := wpAny_mono h (fun _ _ z => z) fun _ _ z => z.elim
  obtain ⟨ct, ci, cf, ca⟩ := c
  cases ha
  unfold compStart
  rw [hcl]
  show wpAny _ _ (ask >>= _) _ _ s
  refine wpAny_bind (wpAny_askSetting (wpAny_ite ?_))
  split
  · first
      | exact wpAny_bind (wpAny_pure (wpAny_pure ⟨rfl, h0⟩))
      | exact wpAny_pure ⟨rfl, h0⟩
  · first
      | exact wpAny_bind (wpAny_rule (wpAny_bind (wpAny_standAt (wpAny_bind (wpAny_mono h' (fun it' t z => wpAny_pure ⟨rfl, z⟩) fun _ _ x => x)))))
      | (refine wpAny_bind (wpAny_rule ?_); show wpAny _ _ (standAt _ >>= _) _ _ s; exact wpAny_bind (wpAny_standAt (wpAny_bind (wpAny_mono h' (fun it' t z => wpAny_pure ⟨rfl, z⟩) fun _ _ x => x))))
end
/-- the slots outside vs keep what they hold -/
def KeepS (vs : List Nat) (σ τ : L2.St) : Prop := τ.length = σ.length ∧ ∀ (j : Nat) (v : V), j ∉ vs → σ[j]? = some (some v) → τ[j]? = some (some v)
theorem KeepS.refl {vs : List Nat} {σ : L2.St} : KeepS vs σ σ := ⟨rfl, fun _ _ _ h => h⟩
/-- an item is given out: what holds afterwards, from the slots and the heap at the element -/
def EmitOk (Y : Cx) (vs : List Nat) (emit : Sem Unit) (EM : L2.St → Hp → (Hp → Prop) → Prop) : Prop := ∀ (pins : List (Addr × Obj)) (σ : L2.St) (H : Hp) (s : Shared) (Nx : Hp → Prop), Inv Y pins σ H s → EM σ H Nx →
  wpAny (model Y.prog Y.w) Y.A emit (fun _ t => ∃ σ' H', Inv Y pins σ' H' t ∧ KeepS vs σ σ' ∧ Nx H') Nv s
/-- what a clause's source asks, with the items' use EM -/
def ClT (J : It) (g : TG) (tt : TT) (EM : L2.St → Hp → (Hp → Prop) → Prop) (vs : List Nat) (σ0 : L2.St) (W : Nat → Nat → Hp → Prop) (Qd : Hp → Prop) : Prop := ∀ i m H, W i m H →
  (J.stop i H ∧ Qd H) ∨ (J.go i H ∧ ∃ Nx : Hp → Prop, (∀ H', Nx H' → ∃ m', m' < m ∧ W (i + 1) m' H') ∧ ∀ x H', J.yld i H x H' → g x σ0 H' fun σ2 H2 => wipe σ2 vs = σ0 ∧ tt σ2 H2 fun b H3 => if b = true then EM σ2 H3 Nx else Nx H3)
section
variable {Y : Cx} {tg : Expr} {ifs : List Expr} {g : TG} {tt : TT} {J : It} {fp : List Addr} {ita : Addr} {tn : Nat → Heap → Prop} {e : Expr} {d : Nat} {acc : Value} {ip : Pos} {emit : Sem Unit} {EM : L2.St → Hp → (Hp → Prop) → Prop}
  {pins : List (Addr × Obj)} {σ0 : L2.St} {vs : List Nat}
theorem clauseOk (hu : CompOk Y.prog Y.w Y.A e d acc Y.env) (hc : Y.calm = true) (hx : Y.xe = Nv) (pg : PG Y tg g) (pt : PTs Y ifs tt) (T : Turn Y.prog Y.w Y.K tg J fp ita tn) (ht : compTurn e d (.ref ita) acc Y.env = turnOf ip tg ifs (.ref ita) Y.env emit (.compLoop e d (.ref ita) acc Y.env))
    (em : EmitOk Y vs emit EM) {H0 : Hp} {s : Shared} (I : Inv Y pins σ0 H0 s) (st0 : tn 0 s.heap) (n0 : ∀ b ∈ fp, H0 b = none) (stat : ∀ {H' : Hp} {s' : Shared}, Inv Y pins σ0 H' s' → (∀ b ∈ fp, H' b = none) → ∀ b ∈ fp, FpOk Y pins H' b)
    {W : Nat → Nat → Hp → Prop} {Qd : Hp → Prop} (turn : ClT J g tt EM vs σ0 W Qd) {m0 : Nat} (w0 : W 0 m0 H0) {R : Result → Shared → Prop} (hR : ∀ H' s', Inv Y pins σ0 H' s' → Qd H' → R (.ok .next) s') :
    codeAny (model Y.prog Y.w) Y.A (.compLoop e d (.ref ita) acc Y.env) R s := by
  have thn' : ∀ {α : Type} {m : Sem α} {Q Q' : α → Shared → Prop} {t : Shared}, wpAny (model Y.prog Y.w) Y.A m Q Y.xe t → (∀ a t', Q a t' → Q' a t') → wpAny (model Y.prog Y.w) Y.A m Q' Nv t := fun h k => by
    rw [hx] at h; exact wpAny_mono h k fun _ _ z => z
  refine loopAny hu ht (fun n t => ∃ i H', Inv Y pins σ0 H' t ∧ tn i t.heap ∧ (∀ b ∈ fp, H' b = none) ∧ W i n H') ?_ m0 ⟨0, H0, I, st0, n0, w0⟩
  rintro n t ⟨i, H5, I5, st5, n5, w5⟩
  rcases turn i n H5 w5 with ⟨stop, q⟩ | ⟨go, Nx, hNx, step⟩
  · refine wpAny_mono (T.done Y rfl rfl rfl hc i pins t σ0 H5 Nv I5 (stat I5 n5) st5 stop) (fun r t1 ⟨hr, I6⟩ => ?_) fun _ _ z => z
    subst hr
    exact hR _ _ I6 q
  · refine wpAny_mono (T.item Y rfl rfl rfl hc i pins t σ0 H5 Nv I5 (stat I5 n5) st5 go) (fun r t1 ⟨u, hr, h6⟩ => ?_) fun _ _ z => z
    subst hr
    refine wpAny_mono h6 (fun _ t2 ⟨x, H7, I7, r7, y7, st7, n7⟩ => ?_) fun _ _ z => z
    have I7' := I7.pinned (stat I7 n7) (T.obj _ _ st7)
    refine thn' (pg.run _ t2 σ0 H7 x u _ I7' r7 (step x H7 y7)) fun _ t3 ⟨σ8, H8, I8, hw8, q8⟩ => ?_
    refine thn' (pt.run _ t3 σ8 H8 _ I8 q8) fun b t4 ⟨H9, I9, q9⟩ => ?_
    have fin : ∀ {σ9 : L2.St} {t' : Shared} {H' : Hp}, Inv Y (pins ++ pinsAt fp t2.heap) σ9 H' t' → KeepS vs σ8 σ9 → Nx H' → ∃ m, m < n ∧ ∃ i H', Inv Y pins σ0 H' t' ∧ tn i t'.heap ∧ (∀ b ∈ fp, H' b = none) ∧ W i m H' := fun {σ9 t' H'} I' ks nx => by
      obtain ⟨m', hm, w'⟩ := hNx H' nx
      have held : ∀ b ∈ fp, ∀ o, t2.heap.get? b = some o → t'.heap.get? b = some o ∧ H' b = none := fun b hb o z =>
        let y := I'.pin (b, o) (List.mem_append_right _ (List.mem_append_right _ (mem_pinsAt hb z)))
        ⟨y.1, y.2.1⟩
      refine ⟨m', hm, i + 1, H', I'.unpinned.weak ?_ (fun j v z => ?_), T.keep _ _ _ st7 fun b hb o z => (held b hb o z).1, fun b hb => ?_, w'⟩
      · rw [ks.1, ← hw8, wipe_length]
      · rw [← hw8] at z
        obtain ⟨z1, z2⟩ := wipe_some z
        exact ks.2 j v z2 z1
      · obtain ⟨o, z, _⟩ := T.obj _ _ st7 b hb
        exact (held b hb o z).2
    cases b with
    | false =>
      simp only [Bool.false_eq_true, if_false] at q9 ⊢
      exact fin I9 .refl q9
    | true =>
      simp only [if_true] at q9 ⊢
      exact wpAny_mono (em _ σ8 H9 t4 Nx I9 q9) (fun _ t5 ⟨σ', H', I', ks, nx⟩ => fin I' ks nx) fun _ _ z => z
/-- the element into the set at D -/
def EMa (w : World) (te : TE) (D : Addr) : L2.St → Hp → (Hp → Prop) → Prop := fun σ H Nx => te σ H fun y H4 => ∃ (c : Key) (ks : List Key), y = kV c ∧ H4 D = some (SetKO w D ks) ∧ ks.length + 1 < scanBound ∧ Nx (upd H4 D (SetKO w D (addK ks c)))
theorem emitAdd_ok (hx : Y.xe = Nv) {elt : Expr} {te : TE} {D : Addr} (pe : PE Y elt te) : EmitOk Y vs (emitAdd elt (.ref D) Y.env) (EMa Y.w te D) := by
  intro pins σ H s Nx I q
  unfold emitAdd
  have := pe.run pins s σ H _ I q
  rw [hx] at this
  refine wpAny_bind (wpAny_mono this (fun v t ⟨y, H4, I4, r4, c, ks, hy, hD, room, nx⟩ => ?_) fun _ _ z => z)
  subst hy
  refine wpAny_bind (wpAny_standAt (wpAny_bind (addK_ok (E := Nv) I4 hD r4 room fun t' I5 => wpAny_pure ⟨σ, _, I5, .refl, nx⟩)))
/-- a second clause within -/
def EMi (wi1 : TI) (g1 : TG) (tt1 : TT) (EM1 : L2.St → Hp → (Hp → Prop) → Prop) (vs1 : List Nat) : L2.St → Hp → (Hp → Prop) → Prop := fun σ H Nx => wi1 σ H fun J1 H4 => ∃ W1 : Nat → Nat → Hp → Prop, (∃ m, W1 0 m H4) ∧ ClT J1 g1 tt1 EM1 vs1 (wipe σ vs1) W1 Nx
theorem emitIn_ok (hu : CompOk Y.prog Y.w Y.A e 1 acc Y.env) (hc : Y.calm = true) (hx : Y.xe = Nv) {tg1 iter1 : Expr} {ifs1 : List Expr} {wi1 : TI} {g1 : TG} {tt1 : TT} {EM1 : L2.St → Hp → (Hp → Prop) → Prop} {vs1 : List Nat} (hv : ∀ i ∈ vs1, i ∈ vs) (pi1 : PI Y tg1 iter1 wi1) (pg1 : PG Y tg1 g1) (pt1 : PTs Y ifs1 tt1)
    (hcl : (clausesOf e)[1]? = some ⟨tg1, iter1, ifs1, 0⟩) (ht1 : ∀ it, compTurn e 1 it acc Y.env = turnOf ip tg1 ifs1 it Y.env emit (.compLoop e 1 it acc Y.env)) (em1 : EmitOk Y vs1 emit EM1) (hs1 : ∀ x, foldedSetIterable iter1 Y.env x = pure x) (frk : ∀ (pins : List (Addr × Obj)) (σ : L2.St) (H H' : Hp) (s s' : Shared) (fp : List Addr), (∀ b ∈ fp, FpOk Y pins H b) → (∀ b ∈ fp, H' b = none) → ∀ b ∈ fp, FpOk Y pins H' b) :
    EmitOk Y vs (emitIn e iter1 acc Y.env) (EMi wi1 g1 tt1 EM1 vs1) := by
  intro pins σ H s Nx I q
  unfold emitIn
  have run := pi1.run pins s σ H _ I q
  rw [hx] at run
  refine wpAny_bind (wpAny_mono run (fun xv t h1 => ?_) fun _ _ z => z)
  refine wpAny_bind (wpAny_standAt (wpAny_bind (wpAny_of_eq (hs1 xv) (wpAny_bind (wpAny_holding (wpAny_mono h1 (fun itv t2 h2 => ?_) fun _ _ z => z))))))
  obtain ⟨it1, fp1, tn1, J1, H2, e1, I2, T1, st2, f2, W1, ⟨m1, w1⟩, turn1⟩ := h2
  subst e1
  refine wpAny_bind (wpAny_runOwn ?_)
  rw [Around.mark_none]
  have I3 : Inv Y pins (wipe σ vs1) H2 t2 := I2.weak (wipe_length _ _) fun j v z => (wipe_some z).1
  have loop : codeAny (model Y.prog Y.w) Y.A (.compLoop e 1 (.ref it1) acc Y.env) (fun r t' => r = .ok .next ∧ ∃ σ' H', Inv Y pins σ' H' t' ∧ KeepS vs σ σ' ∧ Nx H') t2 := by
    refine clauseOk hu hc hx pg1 pt1 T1 (ht1 _) em1 I3 st2 (fun b hb => (f2 b hb).1) (fun {H' s'} I' n => frk pins (wipe σ vs1) H2 H' t2 s' fp1 f2 n) turn1 w1 fun H' s' I' nx => ⟨rfl, wipe σ vs1, H', I', ⟨wipe_length _ _, fun j v nj z => ?_⟩, nx⟩
    rw [wipe_out fun z2 => nj (hv j z2)]
    exact z
  refine codeAny_mono (startAny hu hcl rfl loop (T1.self Y.A 0 _ _ _ st2 loop)) fun r t' hr => ?_
  obtain ⟨rfl, hr⟩ := hr
  first
    | exact wpAny_pure hr
    | exact wpAny_bind (wpAny_pure (wpAny_pure hr))
end

/-! ### as a value -/
def tSK (w : World) (wi : TI) (g : TG) (tt : TT) (EM : Addr → L2.St → Hp → (Hp → Prop) → Prop) (vs : List Nat) : TE := fun σ H Q => wi σ H fun J H1 => ∀ D, H1 D = none → ∃ W : Nat → Nat → Hp → Prop, (∃ m, W 0 m (upd H1 D (SetKO w D []))) ∧ ClT J g tt (EM D) vs (wipe σ vs) W fun H => Q (.ref D) H
theorem pe_sK {X : Cx} {elt tg iter : Expr} {ifs : List Expr} {rest : List Comprehension} {scope : Scope} {own : List (Str × Nat)} {pos : Pos} {wi : TI} {g : TG} {tt : TT} {EM : Addr → L2.St → Hp → (Hp → Prop) → Prop} {emit : Value → PySem.Env → Sem Unit}
    (hc : X.calm = true) (hN : X.N.Nodup) (hi : PI X tg iter wi) (ok : BlkOk X.N X.env.scope scope own)
    (hg : ∀ (s : Shared) (H : Hp) (C : Addr) (cl : List (Str × Addr)) (fp : List Addr), PG (X.blk s H scope (compEnvC scope cl C X.env) fp) tg g) (ht : ∀ (s : Shared) (H : Hp) (C : Addr) (cl : List (Str × Addr)) (fp : List Addr), PTs (X.blk s H scope (compEnvC scope cl C X.env) fp) ifs tt)
    (htu : ∀ (it acc : Value) (env : PySem.Env), compTurn (.SetComp elt (⟨tg, iter, ifs, 0⟩ :: rest) scope pos) 0 it acc env = turnOf iter.pos tg ifs it env (emit acc env) (.compLoop (.SetComp elt (⟨tg, iter, ifs, 0⟩ :: rest) scope pos) 0 it acc env))
    (hem : ∀ (s : Shared) (H : Hp) (C : Addr) (cl : List (Str × Addr)) (fp : List Addr) (D : Addr), EmitOk (X.blk s H scope (compEnvC scope cl C X.env) fp) (own.map (·.2)) (emit (.ref D) (compEnvC scope cl C X.env)) (EM D))
    (hs : ∀ x, foldedSetIterable iter X.env x = pure x) : PE X (.SetComp elt (⟨tg, iter, ifs, 0⟩ :: rest) scope pos) (tSK X.w wi g tt EM (own.map (·.2))) := by
  refine ⟨fun pins s σ H Q I h => ?_⟩
  rw [PpSet.eval_SetComp]
  have cells : ∀ y ∈ scope.names, y.2 = .free → ∃ c, X.env.cells.lookup y.1 = some c := fun y hy z => (ok.free y hy z).elim (fun k => I.ok.has _ (.inl k)) fun k => I.ok.has _ (.inr k)
  show wpAny _ _ (comprehension (.SetComp elt (⟨tg, iter, ifs, 0⟩ :: rest) scope pos) scope X.env _ (newSet (.type "set")) false (eval iter X.env) none) _ _ s
  refine wpAny_comprehension_free (use := none) rfl hs (closure_ok cells) ok.kind (fun y hy z => by rw [ok.uniq y hy, z])
    (thn (hi.run pins s σ H _ I h) fun xv s1 hx => thn hx fun itv s2 h2 => ?_)
  obtain ⟨it, fp, tn, J, H2, e, I2, T, st2, f2, q⟩ := h2
  subst e
  refine PpSet.newSet_ok (newEnv_comp ?_)
  generalize hD : s2.heap.objs.size = D
  obtain ⟨W, ⟨m0, w0⟩, turn⟩ := q D (I2.hok.fresh (Nat.le_of_eq hD))
  generalize hs3 : ({ s2 with heap := s2.heap.push { cls := .type "set", dict := none, data := .set #[] 0 (.fresh 0 0 (!X.w.params.followText "set-order")) } } : Shared) = s3
  generalize hH3 : upd H2 D (SetKO X.w D []) = H3 at w0
  have up : ∀ b o, s2.heap.get? b = some o → s3.heap.get? b = some o := fun b o z => by rw [← hs3]; exact Heap.get?_push_of_some _ z
  have size3 : s3.heap.objs.size = s2.heap.objs.size + 1 := by rw [← hs3]; exact Heap.size_push ..
  have I3 : Inv X pins σ H3 s3 := by
    rw [← hH3, ← hs3]
    refine I2.laid (t' := s2.toks) (fun b o z => Heap.get?_push_of_some _ z) (Nat.le_of_eq hD) (setKO_new (setK_fresh X.w ?_))
    rw [← hD]; exact Heap.get?_push_size _ rfl
  have f3 : ∀ b ∈ fp, FpOk X pins H3 b ∧ b < s3.heap.objs.size := fun b hb => by
    obtain ⟨o, z, _⟩ := T.obj _ _ st2 b hb
    have lt := Heap.lt_size z
    refine ⟨⟨?_, (f2 b hb).2⟩, by rw [size3]; exact Nat.lt_succ_of_lt lt⟩
    rw [← hH3, upd_ne (by rw [← hD]; exact Nat.ne_of_lt lt)]
    exact (f2 b hb).1
  have I4 := block_start I3 ok hN f3
  have pg := hg s3 H3 s3.heap.objs.size (cellsFrom (s3.heap.objs.size + 1) scope.names (cloFrom X.env.cells scope.names [])) fp
  have pt := ht s3 H3 s3.heap.objs.size (cellsFrom (s3.heap.objs.size + 1) scope.names (cloFrom X.env.cells scope.names [])) fp
  have pe := hem s3 H3 s3.heap.objs.size (cellsFrom (s3.heap.objs.size + 1) scope.names (cloFrom X.env.cells scope.names [])) fp D
  show codeAny _ _ (.compStart (.SetComp elt (⟨tg, iter, ifs, 0⟩ :: rest) scope pos) 0 (.ref it) (.ref D) (compEnvC scope (cellsFrom (s3.heap.objs.size + 1) scope.names (cloFrom X.env.cells scope.names [])) s3.heap.objs.size X.env)) (compPost (model X.prog X.w) X.A X.xe none _ (.ref D) s3.heap.objs.size) { s3 with heap := pushCells (s3.heap.push { cls := .type "dict", data := .dict #[] }) scope.names }
  generalize hce : compEnvC scope (cellsFrom (s3.heap.objs.size + 1) scope.names (cloFrom X.env.cells scope.names [])) s3.heap.objs.size X.env = ce at I4 pg pt pe ⊢
  have cL : ce.locals = s3.heap.objs.size := by subst hce; rfl
  generalize hs4 : ({ s3 with heap := pushCells (s3.heap.push { cls := .type "dict", data := .dict #[] }) scope.names } : Shared) = s4 at I4 ⊢
  have st4 : tn 0 s4.heap := T.keep _ _ _ st2 fun b _ o z => by rw [← hs4]; exact pushCells_keeps _ _ _ _ (Heap.get?_push_of_some _ (up b o z))
  have stat : ∀ {H' : Hp} {s' : Shared}, Inv (X.blk s3 H3 scope ce fp) [] (wipe σ (own.map (·.2))) H' s' → (∀ b ∈ fp, H' b = none) → ∀ b ∈ fp, FpOk (X.blk s3 H3 scope ce fp) [] H' b := fun {H' s'} I' hn b hb =>
    ⟨hn b hb, (I'.ok.exf b hb).1, I'.ok.exfs b hb, .inl hb, fun x c z => (I'.ok.exf b hb).2 x c z, fun p hp => absurd (show p ∈ ([] : List (Addr × Obj)) ++ [] from hp) (by simp)⟩
  have loop : codeAny (model X.prog X.w) X.A (.compLoop (.SetComp elt (⟨tg, iter, ifs, 0⟩ :: rest) scope pos) 0 (.ref it) (.ref D) ce) (compPost (model X.prog X.w) X.A X.xe none (fun v s' => ∃ x H', Inv X pins σ H' s' ∧ RelV x v ∧ Q x H') (.ref D) s3.heap.objs.size) s4 := by
    refine clauseOk (Y := X.blk s3 H3 scope ce fp) compOk_set hc rfl pg pt T (htu _ _ _) pe I4 st4 (fun b hb => (f3 b hb).1.1) stat turn w0 fun H' s' I' q => ?_
    have I7 : Inv X pins σ H' s' := I3.call' (ch := fp) I'.os I'.base I'.hok I'.bare fun b hb => ⟨(f3 b hb).1.2.2.2.1, (f3 b hb).1.2.1, (f3 b hb).1.2.2.2.2.1, (f3 b hb).1.2.2.2.2.2⟩
    have nC : H' s3.heap.objs.size = none := by
      have z : H' ce.locals = none := I'.free
      rw [cL] at z; exact z
    obtain ⟨m, hn, _⟩ := I'.loc
    have hn : s'.heap.Ns ce.locals m := hn
    rw [cL] at hn
    obtain ⟨f0, f1, f2, f3, f4, f5⟩ := I3.fpOk (Nat.le_refl _) nC
    exact ⟨m, hn, fun h'' sb => ⟨.ref D, H', I7.turned (t' := s'.toks) (fun b o hb z => (sb.2 b hb).trans z) f0 f1 f3 f4 f5, rfl, q⟩⟩
  exact startAny (c := ⟨tg, iter, ifs, 0⟩) compOk_set rfl rfl loop (wpAny_mono (T.self X.A 0 s4 (fun it' t => codeAny (model X.prog X.w) X.A (.compLoop (.SetComp elt (⟨tg, iter, ifs, 0⟩ :: rest) scope pos) 0 it' (.ref D) ce) (compPost (model X.prog X.w) X.A X.xe none (fun v s' => ∃ x H', Inv X pins σ H' s' ∧ RelV x v ∧ Q x H') (.ref D) s3.heap.objs.size) t) Nv st4 loop) (fun _ _ z => z) fun _ _ z => z)
end Sd

-- SdY
/-! sorted(a set), set(a list) -/
namespace Sd
open PySem PySem.Spec PyProof.Rows L2
def kVal (v : Value) : Key := kEnt (0, v)
theorem kVal_of {c : Key} {v : Value} (h : keyIs c v = true) : kVal v = c := kEnt_of (u := (0, v)) h
/-- the values vs are the keys ks, in some order -/
def VKs (vs : List Value) (ks : List Key) : Prop := (∀ v ∈ vs, ∃ c, keyIs c v = true) ∧ (vs.map kVal).Perm ks
section
variable {P : Program} {w : World} {A : Around} {E : Value → Shared → Prop} {s : Shared} {a : Addr}
theorem sortedK {Out : List Value → Array Value → Prop} {ks : List Key} {Q : Value → Shared → Prop} (R : SetK w s.heap a ks) (hh : A.handled = none)
    (srt : ∀ (B : Around) (E' : Value → Shared → Prop) (t : Shared) (vs : List Value) (l : Addr) (Q' : PySem.Fin → Shared → Prop), VKs vs ks → vs.length ≤ sizeLine → t.heap.get? l = some (seqObj "list" vs.toArray 0) →
      (∀ out, Out vs out → Q' (.done (.ret .none)) { t with heap := sortedHeap t.heap l vs out }) → wpAny (model P w) B (Builtin.«list.sort» ⟨[.ref l], []⟩) Q' E' t)
    (hQ : ∀ s' p (out : Array Value) (c : Nat) (vs : List Value), (∀ b o, s.heap.get? b = some o → s'.heap.get? b = some o) → s'.gens = s.gens → s'.os = s.os → s.heap.objs.size ≤ p →
      s'.heap.get? p = some (seqObj "list" out c) → VKs vs ks → Out vs out → Q (.ref p) s') : wpAny (model P w) A (call (.builtin "sorted") [.ref a]) Q E s := by
  obtain ⟨ob, rows, ep, tb, ho, hex, hd, g, pm, nd, hb, fit, ris, led⟩ := R
  refine Calls.call_function_entry kind_sorted plain_sorted entry_sorted (args_sorted1 _) ?_
  unfold Builtin.«sorted»
  refine wpAny_bind (m := checkCount "sorted" 1 1 _) (wpAny_pure ?_)
  refine wpAny_bind (collect_set (A := A.in1) hh ⟨ob, ho, hex.1, hd⟩ fit hb ris led fun t vs kp sz ge oe pv => ?_)
  have hvs : VKs vs ks := by
    refine ⟨fun v hv => ?_, ?_⟩
    · obtain ⟨u, hu, rfl⟩ := List.mem_map.mp (pv.mem_iff.mp hv)
      obtain ⟨c, h1, _⟩ := g u hu
      exact ⟨c, h1⟩
    · have e := pv.map kVal
      rw [List.map_map] at e
      exact e.trans pm
  have hl : vs.length ≤ sizeLine := by
    have e : vs.length = rows.size := by have := pv.length_eq; simpa using this
    have := fits_of_scanBound hb
    omega
  refine wpAny_bind (wpAny_newList ?_ hl)
  have here : (t.heap.push (seqObj "list" vs.toArray 0)).get? t.heap.objs.size = some (seqObj "list" vs.toArray 0) := Heap.get?_push_size _ rfl
  refine wpAny_bind (wpAny_holding (wpAny_call_entry slot_list_sort ⟨_, here, rfl⟩ entry_list_sort (srt _ _ _ vs _ _ hvs hl here fun out ho => ⟨_, rfl, ?_⟩) (args_list_sort _)))
  obtain ⟨c, hc⟩ := sortedHeap_at (vs := vs) (out := out) here
  refine wpAny_pure ⟨_, rfl, hQ _ t.heap.objs.size out c vs (fun b u e => ?_) ge oe sz hc hvs ho⟩
  have old := kp b u e
  have lt := Heap.lt_size old
  show (sortedHeap (t.heap.push (seqObj "list" vs.toArray 0)) t.heap.objs.size vs out).get? b = some u
  rw [sortedHeap_old (Nat.ne_of_lt lt) (by rw [size_push']; exact Nat.lt_succ_of_lt lt)]
  exact Heap.get?_push_of_some _ old
theorem ints_of_keys : ∀ {vs : List Value} {ns : List Int}, (∀ v ∈ vs, ∃ c, keyIs c v = true) → (∀ v ∈ vs, ∃ i : Int, kVal v = .inl i) → ∃ ms, IntsAre vs ms ∧ vs.map kVal = ms.map Sum.inl
  | [], _, _, _ => ⟨[], .nil, rfl⟩
  | v :: vs, ns, h1, h2 => by
    obtain ⟨ms, m1, m2⟩ := ints_of_keys (ns := ns) (fun u hu => h1 u (List.mem_cons_of_mem _ hu)) fun u hu => h2 u (List.mem_cons_of_mem _ hu)
    obtain ⟨c, hc⟩ := h1 v List.mem_cons_self
    obtain ⟨i, hi⟩ := h2 v List.mem_cons_self
    rcases keyIs_shape hc with ⟨j, t, rfl, rfl⟩ | ⟨z, t, rfl, rfl⟩
    · exact ⟨j :: ms, .cons j t m1, by rw [List.map_cons, m2]; rfl⟩
    · cases hi
theorem strs_of_keys : ∀ {vs : List Value}, (∀ v ∈ vs, ∃ c, keyIs c v = true) → (∀ v ∈ vs, ∃ i : Str, kVal v = .inr i) → ∃ ms, StrsAre vs ms ∧ vs.map kVal = ms.map Sum.inr
  | [], _, _ => ⟨[], .nil, rfl⟩
  | v :: vs, h1, h2 => by
    obtain ⟨ms, m1, m2⟩ := strs_of_keys (fun u hu => h1 u (List.mem_cons_of_mem _ hu)) fun u hu => h2 u (List.mem_cons_of_mem _ hu)
    obtain ⟨c, hc⟩ := h1 v List.mem_cons_self
    obtain ⟨i, hi⟩ := h2 v List.mem_cons_self
    rcases keyIs_shape hc with ⟨j, t, rfl, rfl⟩ | ⟨z, t, rfl, rfl⟩
    · cases hi
    · exact ⟨z :: ms, .cons z t m1, by rw [List.map_cons, m2]; rfl⟩
theorem inl_perm {ms ns : List Int} (h : (ms.map (Sum.inl : Int → Key)).Perm (ns.map Sum.inl)) : ms.Perm ns := by
  have := h.map fun c : Key => match c with | .inl i => i | .inr _ => 0
  simpa [List.map_map, Function.comp_def] using this
theorem inr_perm {ms ns : List Str} (h : (ms.map (Sum.inr : Str → Key)).Perm (ns.map Sum.inr)) : ms.Perm ns := by
  have := h.map fun c : Key => match c with | .inr i => i | .inl _ => Str.empty
  simpa [List.map_map, Function.comp_def] using this
theorem vks_ints {vs : List Value} {ns : List Int} (h : VKs vs (ns.map Sum.inl)) : ∃ ms, IntsAre vs ms ∧ ms.Perm ns := by
  obtain ⟨ms, m1, m2⟩ := ints_of_keys (ns := ns) h.1 fun v hv => by
    obtain ⟨i, _, e⟩ := List.mem_map.mp (h.2.mem_iff.mp (List.mem_map_of_mem hv))
    exact ⟨i, e.symm⟩
  exact ⟨ms, m1, inl_perm (m2 ▸ h.2)⟩
theorem vks_strs {vs : List Value} {ns : List Str} (h : VKs vs (ns.map Sum.inr)) : ∃ ms, StrsAre vs ms ∧ ms.Perm ns := by
  obtain ⟨ms, m1, m2⟩ := strs_of_keys h.1 fun v hv => by
    obtain ⟨i, _, e⟩ := List.mem_map.mp (h.2.mem_iff.mp (List.mem_map_of_mem hv))
    exact ⟨i, e.symm⟩
  exact ⟨ms, m1, inr_perm (m2 ▸ h.2)⟩
end
section
variable {X : Cx}
def rSrtK (w : World) : List V → Hp → VK → Prop := fun vs H Q => (∃ (a : Addr) (ns : List Int), vs = [V.ref a] ∧ H a = some (SetKO w a (ns.map Sum.inl)) ∧ ∀ (ms : List Int) (p : Addr), ms.Perm ns → ms.Pairwise (· ≤ ·) → H p = none → Q (.ref p) (upd H p (.lst (ms.map V.int)))) ∨
  (∃ (a : Addr) (ns : List Str), vs = [V.ref a] ∧ H a = some (SetKO w a (ns.map Sum.inr)) ∧ ∀ (ms : List Str) (p : Addr), ms.Perm ns → sortedS ms = true → H p = none → Q (.ref p) (upd H p (.lst (ms.map V.str))))
theorem laidK {pins : List (Addr × Obj)} {σ : L2.St} {H : Hp} {s s' : Shared} {p : Addr} {o : HO} (I : Inv X pins σ H s) (k : ∀ b o, s.heap.get? b = some o → s'.heap.get? b = some o) (g : s'.gens = s.gens) (oe : s'.os = s.os) (hp : s.heap.objs.size ≤ p)
    (ok : ObjOk X.prog X.w (upd H p o) s'.heap p o) : Inv X pins σ (upd H p o) s' := by
  have hn : H p = none := I.hok.fresh hp
  have J : Inv X pins σ (upd H p o) { s with heap := s'.heap, gens := s'.gens, drawn := s'.drawn, toks := s'.toks } := I.call (ch := []) (Un.laid k hp hn) (I.hok.laid k hp ok) (by rw [g]; exact I.bare) (fun _ z => nomatch z)
  have e : s' = { s with heap := s'.heap, gens := s'.gens, drawn := s'.drawn, toks := s'.toks } := by
    cases s'; cases s; cases oe; rfl
  rw [e]; exact J
theorem cr_srtK (hc : X.calm = true) : CallR X (.builtin "sorted") (rSrtK X.w) := by
  intro pins s σ H vs us Q I r h
  rcases h with ⟨a, ns, rfl, ha, q⟩ | ⟨a, ns, rfl, ha, q⟩
  · rw [Vals.ref1 r]
    refine sortedK (Out := fun vs out => ∃ ms, IntsAre out.toList ms ∧ ms.Perm ns ∧ ms.Pairwise (· ≤ ·)) (setKO_get I ha) (I.ok.hd hc) (fun B E' t vs l Q' hv hl ho hq => ?_) fun s' p out c vs k g oe hp hg _ ⟨ms, m1, m2, m3⟩ => ?_
    · obtain ⟨ms, i1, i2⟩ := vks_ints hv
      refine SrtO.list_sort_ord SrtO.swo_int ho hl (fun h2 => SrtO.ints_sortable i1 h2) fun out h1 h2 => hq _ ?_
      obtain ⟨k1, k2, k3⟩ := SrtO.ints_out i1 h1 h2
      exact ⟨_, k1, k2.trans i2, k3⟩
    · have hlen : (ms.map V.int).length ≤ sizeLine := by
        obtain ⟨_, _, _, _, _, _, _, _, pm, _, hb, _⟩ := setKO_get I ha
        have e := pm.length_eq
        rw [List.length_map, List.length_map, Array.length_toList] at e
        rw [List.length_map, m2.length_eq, ← e]; exact fits_of_scanBound hb
      exact ⟨.ref p, _, laidK (o := .lst (ms.map V.int)) I k g oe hp ⟨hlen, out.toList, c, vals_of_ints m1, hg⟩, rfl, q ms p m2 m3 (I.hok.fresh hp)⟩
  · rw [Vals.ref1 r]
    refine sortedK (Out := fun vs out => ∃ ms, StrsAre out.toList ms ∧ ms.Perm ns ∧ sortedS ms = true) (setKO_get I ha) (I.ok.hd hc) (fun B E' t vs l Q' hv hl ho hq => ?_) fun s' p out c vs k g oe hp hg _ ⟨ms, m1, m2, m3⟩ => ?_
    · obtain ⟨ms, i1, i2⟩ := vks_strs hv
      refine list_sort_treeKAny strKind_oneLt ho i1.keysOf (fun v₁ v₂ rest e => keyKind_strs (by rw [← e]; exact i1)) hl fun st' hp hs => hq _ ?_
      obtain ⟨ss, h1, h2, h3⟩ := sorted_out_str i1 hp hs
      exact ⟨ss, h1, h2.trans i2, h3⟩
    · have hlen : (ms.map V.str).length ≤ sizeLine := by
        obtain ⟨_, _, _, _, _, _, _, _, pm, _, hb, _⟩ := setKO_get I ha
        have e := pm.length_eq
        rw [List.length_map, List.length_map, Array.length_toList] at e
        rw [List.length_map, m2.length_eq, ← e]; exact fits_of_scanBound hb
      exact ⟨.ref p, _, laidK (o := .lst (ms.map V.str)) I k g oe hp ⟨hlen, out.toList, c, vals_of_strs m1, hg⟩, rfl, q ms p m2 m3 (I.hok.fresh hp)⟩
end
end Sd

-- SdZ
/-! set(a list of ints or texts) -/
namespace Sd
open PySem PySem.Spec PyProof.Rows L2
noncomputable def accK (cs : List Key) : List Key := cs.foldl addK []
theorem accK_snoc (cs : List Key) (c : Key) : accK (cs ++ [c]) = addK (accK cs) c := by unfold accK; rw [List.foldl_append]; rfl
theorem mem_addK {ks : List Key} {c x : Key} : x ∈ addK ks c ↔ x ∈ ks ∨ x = c := by
  unfold addK
  split
  · rename_i h
    exact ⟨.inl, fun z => z.elim id fun e => e ▸ h⟩
  · simp
theorem nodup_addK {ks : List Key} {c : Key} (h : ks.Nodup) : (addK ks c).Nodup := by
  unfold addK
  split
  · exact h
  · rename_i n
    exact List.nodup_append.mpr ⟨h, by simp, fun x hx y hy e => n (by rw [← List.mem_singleton.mp hy, ← e]; exact hx)⟩
theorem length_addK {ks : List Key} {c : Key} : (addK ks c).length ≤ ks.length + 1 := by
  unfold addK
  split
  · omega
  · simp
theorem foldK : ∀ (cs ks : List Key), (∀ x, x ∈ cs.foldl addK ks ↔ x ∈ ks ∨ x ∈ cs) ∧ (ks.Nodup → (cs.foldl addK ks).Nodup) ∧ (cs.foldl addK ks).length ≤ ks.length + cs.length
  | [], ks => ⟨fun x => by simp, id, by simp⟩
  | c :: cs, ks => by
    obtain ⟨a, b, d⟩ := foldK cs (addK ks c)
    refine ⟨fun x => ?_, fun h => b (nodup_addK h), ?_⟩
    · rw [List.foldl_cons, a, mem_addK, List.mem_cons]
      constructor
      · rintro ((h | h) | h)
        · exact .inl h
        · exact .inr (.inl h)
        · exact .inr (.inr h)
      · rintro (h | h | h)
        · exact .inl (.inl h)
        · exact .inl (.inr h)
        · exact .inr h
    · have := length_addK (ks := ks) (c := c)
      rw [List.foldl_cons, List.length_cons]; omega
theorem mem_accK {cs : List Key} {x : Key} : x ∈ accK cs ↔ x ∈ cs := by unfold accK; rw [(foldK cs []).1]; simp
theorem nodup_accK {cs : List Key} : (accK cs).Nodup := (foldK cs []).2.1 List.nodup_nil
theorem length_accK {cs : List Key} : (accK cs).length ≤ cs.length := by have := (foldK cs []).2.2; simpa [accK] using this
section
variable {P : Program} {w : World} {A : Around} {E : Value → Shared → Prop} {s : Shared}
theorem updK {J : Addr} {fp wr : List Addr} {G : Array GenState → Array GenState → Prop} {n : Nat} {Pv : Nat → Value → Prop} {St : Nat → Shared → Prop} {R : Result → Shared → Prop}
    (W : WalksS P w A.in1 J fp wr G n Pv St) (S : Addr) (hS : S ∉ fp) (cs : List Key) (hn : n = cs.length) (hb : cs.length + 1 < scanBound) (hv : ∀ i v, Pv i v → ∃ c, cs[i]? = some c ∧ keyIs c v = true) :
    ∀ (k i : Nat) (t : Shared), n - i = k → i ≤ n → St i t → SetK w t.heap S (accK (cs.take i)) → (∀ t', Moved (S :: wr) G t t' → SetK w t'.heap S (accK cs) → R (.ok (.ret .none)) t') →
      codeAny (model P w) A (.builtin "set.update.loop" ⟨[.ref S, .ref J], []⟩) R t := by
  have out : S ∉ wr := fun h => hS (W.sub _ h)
  have more : ∀ b ∈ wr, b ∈ S :: wr := fun b h => List.mem_cons_of_mem _ h
  intro k
  induction k with
  | zero =>
    intro i t e le st R0 fin
    have : i = n := by omega
    subst this
    refine codeAny_builtin F.entry_set_update_loop ?_
    rw [Around.under_plainId F.plain_set_update_loop _]
    show wpAny _ A.in1 (pyNext (.ref J) >>= _) _ _ t
    refine wpAny_bind (W.done t _ _ st fun t' mv => ?_)
    rw [List.take_of_length_le (by omega)] at R0
    show wpAny _ A.in1 (ret Value.none) _ _ t'
    exact wpAny_pure (fin t' (mv.mono more) (R0.keep fun o h => mv.heap S o out h))
  | succ k ih =>
    intro i t e le st R0 fin
    have lt : i < n := by omega
    refine codeAny_builtin F.entry_set_update_loop ?_
    rw [Around.under_plainId F.plain_set_update_loop _]
    show wpAny _ A.in1 (pyNext (.ref J) >>= _) _ _ t
    refine wpAny_bind (W.item i t _ _ lt st fun v t1 pv st1 mv => ?_)
    obtain ⟨c, hc, kc⟩ := hv i v pv
    have R1 : SetK w t1.heap S (accK (cs.take i)) := R0.keep fun o h => mv.heap S o out h
    have small : (accK (cs.take i)).length + 1 < scanBound := by
      have := length_accK (cs := cs.take i)
      rw [List.length_take] at this
      omega
    show wpAny _ A.in1 (holding [v] (setAdd S v) >>= _) _ _ t1
    refine wpAny_bind (wpAny_holding ?_)
    unfold setAdd
    refine wpAny_holding (wpAny_bind ((mixKind P w).pyHash (k := c) kc ?_))
    refine setK_hashed (s := { t1 with toks := t1.toks + 1 }) R1 kc small fun _ h' but R2 => ?_
    have R3 : SetK w h' S (accK (cs.take (i + 1))) := by
      rw [List.take_add_one, hc]
      show SetK w h' S (accK (cs.take i ++ [c]))
      rw [accK_snoc]; exact R2
    refine wpAny_pure ⟨plainId_quiet F.plain_set_update_loop _, ih (i + 1) _ (by omega) lt (W.frame _ t1 _ _ st1 (Nat.le_succ _) fun b hb o z => ?_) R3 fun t2 mv2 R4 => ?_⟩
    · rw [but.2 b (fun h => hS (by rw [← h]; exact hb))]; exact z
    · refine fin t2 (Moved.trans W.gtrans ((mv.mono more).then_heap (Nat.le_succ _) fun b o hb z => ?_) mv2) R4
      rw [but.2 b (fun h => hb (by rw [h]; exact List.mem_cons_self))]; exact z
/-- the values vs are the keys cs -/
inductive Keyed' : List Value → List Key → Prop
  | nil : Keyed' [] []
  | cons {v : Value} {c : Key} {vs : List Value} {cs : List Key} : keyIs c v = true → Keyed' vs cs → Keyed' (v :: vs) (c :: cs)
theorem Keyed'.length {vs : List Value} {cs : List Key} (h : Keyed' vs cs) : vs.length = cs.length := by
  induction h with
  | nil => rfl
  | cons _ _ ih => rw [List.length_cons, List.length_cons, ih]
theorem Keyed'.at {vs : List Value} {cs : List Key} (h : Keyed' vs cs) : ∀ (i : Nat) (v : Value), vs[i]? = some v → ∃ c, cs[i]? = some c ∧ keyIs c v = true := by
  induction h with
  | nil => intro i v e; simp at e
  | cons h1 _ ih =>
    intro i v e
    cases i with
    | zero => simp at e; subst e; exact ⟨_, rfl, h1⟩
    | succ i => exact ih i v (by simpa using e)
theorem setOfK {l : Addr} {items : Array Value} (cs : List Key) {Q : Value → Shared → Prop} (hh : A.handled = none) (hl : s.heap.IsList l items) (hit : Keyed' items.toList cs) (hb : cs.length + 1 < scanBound)
    (h : ∀ (h' : Heap) (tk : Nat), SetK w h' s.heap.objs.size (accK cs) → (∀ b o, s.heap.get? b = some o → h'.get? b = some o) → Q (.ref s.heap.objs.size) { s with heap := h', toks := tk }) :
    wpAny (model P w) A (call (.type "set") [.ref l]) Q E s := by
  have size : items.size = cs.length := by have := hit.length; simpa using this
  obtain ⟨c, tl, hmro⟩ := F.called_set.mro
  have hmade := F.called_set.made
  have hsub := F.called_set.sub
  have h1 := F.called_set.notType
  have h2 := F.called_set.canCreate
  have hct := F.typeCall_set_1 (.ref l)
  refine wpAny_call (codeAny_of_tree ?_)
  show wpAny _ _ (callAny (.type "set") _) _ _ _
  refine wpAny_pure ⟨Code.quiet_builtin _ (by decide +kernel), codeAny_builtin F.entry_type_call ?_⟩
  rw [Around.under_plain (weight_type_call_type "set" [.ref l] []) rfl]
  generalize hnew : ({ cls := .type "set", dict := none, data := .set #[] 0 (.fresh 0 0 (!w.params.followText "set-order")) } : Obj) = new
  repeat (any_goals (first | assumption | wp_step))
  refine codeAny_mono (code_set_led1 (.ref l) (E := E) (Q₁ := fun obj t => obj = .ref s.heap.objs.size ∧ t = { s with heap := s.heap.push new }) ⟨rfl, by rw [← hnew]⟩) fun r t hr => ?_
  cases r with
  | error e => exact hr
  | ok fl =>
  cases fl with
  | ret obj =>
    obtain ⟨rfl, rfl⟩ := hr
    have here : (s.heap.push new).get? s.heap.objs.size = some new := Heap.get?_push_size _ (by rw [← hnew]; rfl)
    have hT : Shared.TypeIs { s with heap := s.heap.push new } (.ref s.heap.objs.size) "set" := ⟨_, here, by rw [← hnew]⟩
    have hli := F.called_set.init.lookup
    have hbi := F.called_set.init.bind (.ref s.heap.objs.size)
    repeat (any_goals (first | assumption | wp_step))
    refine codeAny_mono (codeAny_call_builtin (R := wants (fun r t2 => r = .none ∧ ∃ h' tk, t2 = { s with heap := h', toks := tk } ∧ SetK w h' s.heap.objs.size (accK cs) ∧ (∀ b o, s.heap.get? b = some o → h'.get? b = some o)) E)
      F.called_set.init.plain F.entry_set_init (check_set_init_1 hT ?_)) fun r2 t2 hr2 => ?_
    · obtain ⟨ol, hol, hcl, nl, hdl⟩ := hl
      obtain ⟨ocls, odict, odata, oslots⟩ := ol
      simp only at hcl hdl
      subst hcl; subst hdl
      have lt : l < s.heap.objs.size := Heap.lt_size hol
      have hol' : (s.heap.push new).get? l = some { cls := .type "list", dict := odict, data := .seq items nl, slots := oslots } := Heap.get?_push_of_some _ hol
      have hl1 : (s.heap.push new).IsList l items := ⟨_, hol', rfl, nl, rfl⟩
      have hsls := F.sub_list_set
      have hslf := F.sub_list_frozenset
      have hne : (Value.type "list" == Value.type "dict") = false := by decide
      subst hnew
      unfold Builtin.«set.__init__» noKeywords Builtin.Frozenset.updateFrom
      generalize hPI : pyIter = PI
      wp_walk
      subst hPI
      refine wpAny_pyIter_list hl1 ?_
      refine wpAny_bind (wpAny_runValue ?_)
      have quiet : A.in1.in1.in1.handled = none := by simp [hh]
      have neI : l ≠ (s.heap.push { cls := .type "set", dict := none, data := .set #[] 0 (.fresh 0 0 (!w.params.followText "set-order")) }).objs.size := by rw [Heap.size_push]; exact Nat.ne_of_lt (Nat.lt_succ_of_lt lt)
      have nofp : s.heap.objs.size ∉ [(s.heap.push { cls := .type "set", dict := none, data := .set #[] 0 (.fresh 0 0 (!w.params.followText "set-order")) }).objs.size, l] := by
        rw [Heap.size_push]
        simp only [List.mem_cons, List.mem_singleton, List.not_mem_nil, or_false, not_or]
        exact ⟨Nat.ne_of_lt (Nat.lt_succ_self _), Nat.ne_of_gt lt⟩
      refine updK ((Walks.list quiet _ l neI items).toS) s.heap.objs.size nofp cs size hb (fun i v hv => hit.at i v (by rw [Array.getElem?_toList]; exact hv)) (items.size - 0) 0 _ rfl (Nat.zero_le _)
        ⟨⟨_, Heap.get?_push_size _ rfl, rfl, rfl⟩, hl1.push _⟩ (setK_fresh w (Heap.get?_push_of_some _ here)) fun t' mv R => ?_
      obtain ⟨h', g2, d', tk', os'⟩ := t'
      have e1 : g2 = s.gens := mv.gens
      have e2 : d' = s.drawn := mv.drawn
      have e3 : os' = s.os := mv.os
      subst e1; subst e2; subst e3
      show wpAny _ _ _ _ _ _
      refine wpAny_pure ?_
      show wpAny _ _ (ret Value.none) _ _ _
      refine wpAny_pure ⟨rfl, h', tk', rfl, R, fun b o z => ?_⟩
      have b0 : b < s.heap.objs.size := Heap.lt_size z
      refine mv.heap b o ?_ (Heap.get?_push_of_some _ (Heap.get?_push_of_some _ z))
      simp only [List.mem_cons, List.mem_singleton, List.not_mem_nil, or_false, not_or]
      exact ⟨Nat.ne_of_lt b0, by rw [Heap.size_push]; exact Nat.ne_of_lt (Nat.lt_succ_of_lt b0)⟩
    · cases r2 with
      | error e => exact hr2
      | ok fl2 =>
      cases fl2 with
      | ret r =>
        obtain ⟨rfl, h', tk, rfl, R, keep⟩ := hr2
        repeat (any_goals (first | assumption | wp_step))
        exact h _ _ R keep
      | _ => exact hr2.elim
  | _ => exact hr.elim
end
end Sd

-- SdS
/-! sets over data -/
namespace Sd
open PySem PySem.Spec PyProof.Rows L2
def dK : Key → D
  | .inl i => .int i
  | .inr z => .str z
theorem rep_dK {K : PySem.W.Frag} {F : Hp} {v : V} {c : Key} (r : Rep K F v (dK c)) : v = kV c := by
  cases c with
  | inl i => exact rep_int r
  | inr z => exact rep_str r
theorem Stp.newO {F F1 : Hp} {O O1 : Own} {H H1 : Hp} {D0 : Addr} {c : OC} (s : Stp F O H F1 O1 H1) (hD : H D0 = none) : Stp F O H F1 (setO O1 D0 c) H1 :=
  ⟨s.fr, fun a u hu n => let ⟨z1, z2, z3⟩ := s.kp a u hu n; ⟨z1, by rw [setO_ne (ne_of_none hu hD)]; exact z2, z3⟩⟩
theorem Ok.newO {K : PySem.W.Frag} {F : Hp} {O : Own} {H : Hp} {D0 : Addr} {c : OC} (k : Ok K F O H) (fD : F D0 = none) (h : HoldsO K F H D0 c) : Ok K F (setO O D0 c) H := by
  refine ⟨k.ex, fun a d q => ?_⟩
  by_cases e : a = D0
  · subst e; rw [setO_same] at q; cases q; exact ⟨fD, h⟩
  · rw [setO_ne e] at q; exact k.own a d q
section
variable {X : Cx} {ρ : Env} {O : Own} {E : En} {elt tg iter tg1 iter1 : Expr} {pos : Pos} {scope : Scope} {own : List (Str × Nat)} {g g1 : TG} {sl sl1 : List Nat} {bind bind1 : D → Env → Option Env} {Q : DK} {α β : Type}
abbrev Blks (X : Cx) (scope : Scope) (f : Cx → Prop) : Prop := ∀ (s : Shared) (H0 : Hp) (C : Addr) (cl : List (Str × Addr)) (fp : List Addr), f (X.blk s H0 scope (compEnvC scope cl C X.env) fp)
theorem we_sc1 (hc : X.calm = true) (hN : X.N.Nodup) (ok : BlkOk X.N X.env.scope scope own) (T : TgS X.K g sl bind) (hpg : Blks X scope fun Y => PG Y tg g) (hsl : ∀ i ∈ sl, i ∈ own.map (·.2)) (hs : ∀ x, foldedSetIterable iter X.env x = pure x)
    (h : WI X tg iter ρ O fun ds Gd O1 => ∃ (xs : List α) (gd : α → D) (sel : α → Key), ds = xs.map gd ∧ Gd O1 ∧ xs.length ≤ 4000 ∧
      (∀ a ∈ xs, ∃ ρ2, bind (gd a) (wipeD ρ (own.map (·.2))) = some ρ2 ∧ Blks X scope fun Y => WE Y elt ρ2 O1 fun y O3 => O3 = O1 ∧ y = dK (sel a)) ∧
      ∀ p, O1 p = none → Q (.raw p) (setO O1 p (.obj (SetKO X.w p (accK (xs.map sel)))))) : WE X (.SetComp elt [⟨tg, iter, [], 0⟩] scope pos) ρ O Q := by
  intro F σ H R Ve k kk
  refine PE.to (pe_sK (tt := tYes) (EM := EMa X.w (blkE X scope elt)) (emit := emitAdd elt) hc hN pi_can ok hpg (fun _ _ _ _ _ => pts_nil) (fun it acc env => turn_1 elt tg iter [] scope pos it acc env)
    (fun s H0 C cl fp D => emitAdd_ok rfl ⟨fun pins s' σ' H' Q' I hh => hh s H0 C cl fp pins s' I⟩) hs) ?_
  refine h F σ H _ Ve k fun F1 O1 H1 J ds Gd s1 k1 S q D0 hD => ?_
  obtain ⟨xs, gd, sel, rfl, gd1, hl, turn, fin⟩ := q
  obtain ⟨fD, oD⟩ := k1.fresh hD
  have nl : (xs.map gd).length = xs.length := List.length_map ..
  refine ⟨fun i m H' => m = xs.length - i ∧ i ≤ xs.length ∧ ∃ F', Stp F1 O1 H1 F' O1 H' ∧ Ok X.K F' O1 H' ∧ F' D0 = none ∧ H' D0 = some (SetKO X.w D0 (accK ((xs.take i).map sel))),
    ⟨xs.length, by simp, Nat.zero_le _, F1, Stp.refl.updF hD, k1.updF fD oD, fD, upd_same⟩, ?_⟩
  rintro i m H' ⟨rfl, hi, F2, s2, k2, fD2, hD2⟩
  by_cases hlt : i < xs.length
  · refine .inr ⟨S.go i F2 O1 H' (by omega) s2 k2 gd1, fun H3 => ∃ F', Stp F1 O1 H1 F' O1 H3 ∧ Ok X.K F' O1 H3 ∧ F' D0 = none ∧ H3 D0 = some (SetKO X.w D0 (accK ((xs.take (i + 1)).map sel))), fun H3 z => ⟨xs.length - (i + 1), by omega, rfl, hlt, z⟩, fun x H3 y => ?_⟩
    obtain ⟨F3, d, s3, k3, hd, r3⟩ := S.yld i F2 O1 H' x H3 (by omega) s2 k2 gd1 y
    have ha : xs[i]? = some xs[i] := List.getElem?_eq_getElem hlt
    rw [List.getElem?_map, ha] at hd
    cases hd
    obtain ⟨ρ3, hb, q3⟩ := turn xs[i] (List.getElem_mem hlt)
    obtain ⟨kp3, _, ff3⟩ := s3.kp D0 _ hD2 oD
    have Vw := ((Ve.mono s1.fr).mono (s2.trans s3).fr).wipe (own.map (·.2))
    refine T.st F3 _ _ H3 x _ ρ3 _ Vw k3.ex r3 hb fun σ4 V4 hw4 => ⟨?_, ?_⟩
    · rw [hw4 (own.map (·.2)) hsl]; exact wipe_wipe
    · unfold tYes
      simp only [↓reduceIte]
      intro s H0 C cl fp
      refine q3 s H0 C cl fp F3 σ4 H3 _ V4 k3 fun F5 O5 H5 v y' s5 k5 r5 q5 => ?_
      obtain ⟨rfl, rfl⟩ := q5
      obtain ⟨kp5, _, ff5⟩ := s5.kp D0 _ kp3 oD
      have fD5 : F5 D0 = none := ff5.trans (ff3.trans fD2)
      refine ⟨sel xs[i], _, rep_dK r5, kp5, ?_, F5, ((s2.trans s3).trans s5).updF hD, k5.updF fD5 oD, fD5, ?_⟩
      · have := length_accK (cs := (xs.take i).map sel)
        rw [List.length_map, List.length_take] at this
        have : (4096 : Nat) ≤ scanBound := by decide
        omega
      · rw [upd_same, List.take_add_one, ha, List.map_append]
        show _ = some (SetKO X.w D0 (accK ((xs.take i).map sel ++ [sel xs[i]])))
        rw [accK_snoc]
  · have e : i = xs.length := by omega
    subst e
    refine .inl ⟨by have := S.stop F2 O1 H' s2 k2 gd1; rwa [nl] at this, ?_⟩
    rw [List.take_length] at hD2
    exact kk F2 _ H' _ (.raw D0) (s1.trans (s2.newO hD)) (k2.newO (c := .obj _) fD2 ⟨hD2, trivial⟩) (.raw D0) (fin D0 oD)
def blkI (X : Cx) (scope : Scope) (tg iter : Expr) : TI := fun σ H R => ∀ (s : Shared) (H0 : Hp) (C : Addr) (cl : List (Str × Addr)) (fp : List Addr), canI (X.blk s H0 scope (compEnvC scope cl C X.env) fp) tg iter σ H R
theorem setO_sub {O : Own} {p : Addr} {c : OC} (h : O p = none) : Sub O (setO O p c) := (Sub.refl O).set h
theorem we_sc2 (hc : X.calm = true) (hN : X.N.Nodup) (ok : BlkOk X.N X.env.scope scope own) (T : TgS X.K g sl bind) (hpg : Blks X scope fun Y => PG Y tg g) (hsl : ∀ i ∈ sl, i ∈ own.map (·.2)) (hs : ∀ x, foldedSetIterable iter X.env x = pure x)
    (T1 : TgS X.K g1 sl1 bind1) (hpg1 : Blks X scope fun Y => PG Y tg1 g1) (hsl1 : ∀ i ∈ sl1, i ∈ own.map (·.2)) (hs1 : ∀ env x, foldedSetIterable iter1 env x = pure x)
    (h : WI X tg iter ρ O fun ds Gd O1 => ∃ (xs : List α) (gd : α → D) (ys : α → List β) (gd1 : β → D) (sel : β → Key), ds = xs.map gd ∧ Gd O1 ∧ (xs.flatMap ys).length ≤ 4000 ∧
      (∀ a ∈ xs, ∃ ρ2, bind (gd a) (wipeD ρ (own.map (·.2))) = some ρ2 ∧ ∀ p c, O1 p = none → Blks X scope fun Y => WI Y tg1 iter1 ρ2 (setO O1 p c) fun ds1 Gd1 O2 => O2 = setO O1 p c ∧ (∀ c', Gd1 (setO O1 p c')) ∧ ds1 = (ys a).map gd1 ∧
        ∀ b ∈ ys a, ∃ ρ3, bind1 (gd1 b) (wipeD ρ2 sl1) = some ρ3 ∧ ∀ c', Blks X scope fun Y => WE Y elt ρ3 (setO O1 p c') fun y O3 => O3 = setO O1 p c' ∧ y = dK (sel b)) ∧
      ∀ p, O1 p = none → Q (.raw p) (setO O1 p (.obj (SetKO X.w p (accK ((xs.flatMap ys).map sel)))))) : WE X (.SetComp elt [⟨tg, iter, [], 0⟩, ⟨tg1, iter1, [], 0⟩] scope pos) ρ O Q := by
  intro F σ H R Ve k kk
  refine PE.to (pe_sK (tt := tYes) (EM := fun D => EMi (blkI X scope tg1 iter1) g1 tYes (EMa X.w (blkE X scope elt) D) sl1) (emit := fun acc env => emitIn (.SetComp elt [⟨tg, iter, [], 0⟩, ⟨tg1, iter1, [], 0⟩] scope pos) iter1 acc env) hc hN pi_can ok hpg (fun _ _ _ _ _ => pts_nil)
    (fun it acc env => turn_20 elt tg iter tg1 iter1 [] [] scope pos it acc env)
    (fun s H0 C cl fp D => emitIn_ok (Y := X.blk s H0 scope (compEnvC scope cl C X.env) fp) compOk_set hc rfl hsl1 (wi1 := blkI X scope tg1 iter1) ⟨fun pins s' σ' H' R' I hh => hh s H0 C cl fp pins s' I⟩ (hpg1 s H0 C cl fp) pts_nil rfl (fun it => turn_21 elt tg iter tg1 iter1 [] [] scope pos it _ _)
      (emitAdd_ok (Y := X.blk s H0 scope (compEnvC scope cl C X.env) fp) rfl (te := blkE X scope elt) ⟨fun pins s' σ' H' Q' I hh => hh s H0 C cl fp pins s' I⟩) (hs1 _) (fun pins σ H H' s s' fp f n b hb => ⟨n b hb, (f b hb).2⟩)) hs) ?_
  refine h F σ H _ Ve k fun F1 O1 H1 J ds Gd s1 k1 S q D0 hD => ?_
  obtain ⟨xs, gd, ys, gd1, sel, rfl, gdo, hl, turn, fin⟩ := q
  obtain ⟨fD, oD⟩ := k1.fresh hD
  have nl : (xs.map gd).length = xs.length := List.length_map ..
  -- the state: the set at D0 is ours
  have st : ∀ (cs : List Key), OC := fun cs => .obj (SetKO X.w D0 (accK cs))
  refine ⟨fun i m H' => m = xs.length - i ∧ i ≤ xs.length ∧ ∃ F', Stp F1 O1 H1 F' O1 H' ∧ Ok X.K F' (setO O1 D0 (.obj (SetKO X.w D0 (accK (((xs.take i).flatMap ys).map sel))))) H',
    ⟨xs.length, by simp, Nat.zero_le _, F1, Stp.refl.updF hD, (k1.updF fD oD).newO (c := .obj _) fD ⟨upd_same, trivial⟩⟩, ?_⟩
  rintro i m H' ⟨rfl, hi, F2, s2, kO2⟩
  obtain ⟨k2, _⟩ := kO2.drop (setO_sub oD)
  by_cases hlt : i < xs.length
  · refine .inr ⟨S.go i F2 O1 H' (by omega) s2 k2 gdo, fun H3 => ∃ F', Stp F1 O1 H1 F' O1 H3 ∧ Ok X.K F' (setO O1 D0 (.obj (SetKO X.w D0 (accK (((xs.take (i + 1)).flatMap ys).map sel))))) H3, fun H3 z => ⟨xs.length - (i + 1), by omega, rfl, hlt, z⟩, fun x H3 y => ?_⟩
    obtain ⟨F3, d, s3, k3, hd, r3⟩ := S.yld i F2 O1 H' x H3 (by omega) s2 k2 gdo y
    have ha : xs[i]? = some xs[i] := List.getElem?_eq_getElem hlt
    rw [List.getElem?_map, ha] at hd
    cases hd
    obtain ⟨ρ3, hb, q3⟩ := turn xs[i] (List.getElem_mem hlt)
    obtain ⟨fD2, hD2, _⟩ := kO2.own D0 _ setO_same
    obtain ⟨kp3, _, ff3⟩ := s3.kp D0 _ hD2 oD
    have kO3 := k3.newO (c := .obj (SetKO X.w D0 (accK (((xs.take i).flatMap ys).map sel)))) (ff3.trans fD2) ⟨kp3, trivial⟩
    have Vw := ((Ve.mono s1.fr).mono (s2.trans s3).fr).wipe (own.map (·.2))
    have tk : (xs.take (i + 1)).flatMap ys = (xs.take i).flatMap ys ++ ys xs[i] := by rw [List.take_add_one, ha, List.flatMap_append]; simp
    have le : ((xs.take i).flatMap ys).length + (ys xs[i]).length ≤ 4000 := by
      have := congrArg (fun l => (l.flatMap ys).length) (List.take_append_drop (i + 1) xs)
      simp only [List.flatMap_append, List.length_append, tk] at this
      omega
    refine T.st F3 _ _ H3 x _ ρ3 _ Vw k3.ex r3 hb fun σ4 V4 hw4 => ⟨?_, ?_⟩
    · rw [hw4 (own.map (·.2)) hsl]; exact wipe_wipe
    · unfold tYes
      simp only [↓reduceIte]
      intro s H0 C cl fp
      refine q3 D0 _ oD s H0 C cl fp F3 σ4 H3 _ V4 kO3 fun F5 O5 H5 J1 ds1 Gd1 s5 k5 S1 q5 => ?_
      obtain ⟨rfl, gq, rfl, turn1⟩ := q5
      have nl1 : ((ys xs[i]).map gd1).length = (ys xs[i]).length := List.length_map ..
      refine ⟨fun j m H' => m = (ys xs[i]).length - j ∧ j ≤ (ys xs[i]).length ∧ ∃ F', Stp F5 (setO O1 D0 (.obj (SetKO X.w D0 (accK (((xs.take i).flatMap ys).map sel))))) H5 F' (setO O1 D0 (.obj (SetKO X.w D0 (accK ((((xs.take i).flatMap ys) ++ (ys xs[i]).take j).map sel))))) H' ∧ Ok X.K F' (setO O1 D0 (.obj (SetKO X.w D0 (accK ((((xs.take i).flatMap ys) ++ (ys xs[i]).take j).map sel))))) H',
        ⟨_, rfl, Nat.zero_le _, F5, by rw [List.take_zero, List.append_nil]; exact ⟨.refl, k5⟩⟩, ?_⟩
      rintro j m H6 ⟨rfl, hj, F6, s6, k6⟩
      by_cases hjl : j < (ys xs[i]).length
      · refine .inr ⟨S1.go j F6 _ H6 (by omega) s6 k6 (gq _), fun H7 => ∃ F', Stp F5 (setO O1 D0 (.obj (SetKO X.w D0 (accK (((xs.take i).flatMap ys).map sel))))) H5 F' (setO O1 D0 (.obj (SetKO X.w D0 (accK ((((xs.take i).flatMap ys) ++ (ys xs[i]).take (j + 1)).map sel))))) H7 ∧ Ok X.K F' (setO O1 D0 (.obj (SetKO X.w D0 (accK ((((xs.take i).flatMap ys) ++ (ys xs[i]).take (j + 1)).map sel))))) H7,
          fun H7 z => ⟨_, by omega, rfl, hjl, z⟩, fun x7 H7 y7 => ?_⟩
        obtain ⟨F7, d7, s7, k7, hd7, r7⟩ := S1.yld j F6 _ H6 x7 H7 (by omega) s6 k6 (gq _) y7
        have hbb : (ys xs[i])[j]? = some (ys xs[i])[j] := List.getElem?_eq_getElem hjl
        rw [List.getElem?_map, hbb] at hd7
        cases hd7
        obtain ⟨ρ8, hb8, q8⟩ := turn1 _ (List.getElem_mem hjl)
        have V7 := ((V4.mono s5.fr).mono (s6.trans s7).fr).wipe sl1
        refine T1.st F7 _ _ H7 x7 _ ρ8 _ V7 k7.ex r7 hb8 fun σ8 V8 hw8 => ⟨?_, ?_⟩
        · rw [hw8 sl1 fun i h => h]; exact wipe_wipe
        · simp only [↓reduceIte]
          intro s H0 C cl fp
          refine q8 _ s H0 C cl fp F7 σ8 H7 _ V8 k7 fun F9 O9 H9 v y' s9 k9 r9 q9 => ?_
          obtain ⟨rfl, rfl⟩ := q9
          obtain ⟨_, hD9, _⟩ := k9.own D0 _ setO_same
          obtain ⟨kW, sW⟩ := k9.wr (o := SetKO X.w D0 (addK (accK ((((xs.take i).flatMap ys) ++ (ys xs[i]).take j).map sel)) (sel (ys xs[i])[j]))) (c' := .obj _) setO_same ⟨upd_same, trivial⟩
          have e : accK ((((xs.take i).flatMap ys) ++ (ys xs[i]).take (j + 1)).map sel) = addK (accK ((((xs.take i).flatMap ys) ++ (ys xs[i]).take j).map sel)) (sel (ys xs[i])[j]) := by
            rw [← accK_snoc, List.take_add_one, hbb, ← List.append_assoc, List.map_append (l₂ := (some (ys xs[i])[j]).toList)]; rfl
          rw [setO_set] at kW sW
          refine ⟨sel (ys xs[i])[j], _, rep_dK r9, hD9, ?_, F9, ?_⟩
          · have h1 := length_accK (cs := ((((xs.take i).flatMap ys) ++ (ys xs[i]).take j).map sel))
            rw [List.length_map, List.length_append, List.length_take] at h1
            have : (4096 : Nat) ≤ scanBound := by decide
            omega
          · rw [e]; exact ⟨((s6.trans s7).trans s9).trans sW, kW⟩
      · have e : j = (ys xs[i]).length := by omega
        subst e
        have halt := S1.stop F6 _ H6 s6 k6 (gq _)
        rw [nl1] at halt
        rw [List.take_length, ← tk] at s6 k6
        refine .inl ⟨halt, F6, ?_, k6⟩
        have back : Stp F1 O1 H1 F6 (setO O1 D0 _) H6 := ((((s2.trans s3).newO hD).trans s5)).trans s6
        exact ⟨back.fr, fun a u hu n => let ⟨z1, _, z3⟩ := back.kp a u hu n; ⟨z1, n, z3⟩⟩
  · have e : i = xs.length := by omega
    subst e
    refine .inl ⟨by have := S.stop F2 O1 H' s2 k2 gdo; rwa [nl] at this, ?_⟩
    rw [List.take_length] at kO2
    exact kk F2 _ H' _ (.raw D0) (s1.trans (s2.newO hD)) kO2 (.raw D0) (fin D0 oD)
end

/-! ### set(xs), sorted -/
section
variable {X : Cx} {K : PySem.W.Frag} {O : Own} {Q : DK} {w : World}
def rSetL (K : PySem.W.Frag) (w : World) : List V → Hp → VK → Prop := fun xs H Q => ∃ (l : Addr) (cs : List Key), xs = [V.ref l] ∧ SqL K H l (cs.map kV) ∧ cs.length ≤ 4000 ∧ ∀ p, H p = none → Q (.ref p) (upd H p (SetKO w p (accK cs)))
theorem keyed_of : ∀ {cs : List Key} {us : List Value}, Vals (cs.map kV) us → Keyed' us cs
  | [], us, r => by cases r; exact .nil
  | c :: cs, us, r => by
    cases r with
    | cons h t => exact .cons (rel_key h) (keyed_of t)
theorem cr_setL (hc : X.calm = true) : CallR X (.type "set") (rSetL X.K X.w) := by
  intro pins s σ H xs us Q I r h
  obtain ⟨l, cs, rfl, hs, small, q⟩ := h
  obtain ⟨its, rv, hl, _⟩ := I.list hs
  rw [Vals.ref1 r]
  have big : (4096 : Nat) ≤ scanBound := by decide
  refine setOfK cs (I.ok.hd hc) hl.isList (by simpa using keyed_of rv) (by omega) fun h' tk R keep => ?_
  exact ⟨.ref _, upd H s.heap.objs.size (SetKO X.w s.heap.objs.size (accK cs)), I.laid (t' := tk) keep (Nat.le_refl _) (setKO_new R), rfl, q _ (I.hok.fresh (Nat.le_refl _))⟩
theorem reps_keys {F : Hp} : ∀ {cs : List Key} {vs : List V}, Reps K F vs (cs.map dK) → vs = cs.map kV
  | [], vs, r => r.unnil
  | c :: cs, vs, r => by obtain ⟨v, t, rfl, h1, h2⟩ := Reps.uncons (d := dK c) (ds := cs.map dK) r; rw [rep_dK h1, reps_keys h2]; rfl
theorem set_l {d : D} {cs : List Key} (hd : asL O d = some (cs.map dK)) (hk : ∀ ds, d ≠ .tup ds) (hl : cs.length ≤ 4000) (h : ∀ p, O p = none → Q (.raw p) (setO O p (.obj (SetKO w p (accK cs))))) : lC K (rSetL K w) [d] O Q := fun F H vs R k r kk => by
  obtain ⟨v, rfl, rv⟩ := one_rep r
  obtain ⟨p, b, rfl, kd, later⟩ := asL_kind k rv hd
  obtain ⟨ws, hs, hr⟩ := later F O H .refl k hd
  have e := reps_keys hr
  subst e
  have fin : SqL K H p (cs.map kV) → rSetL K w [.ref p] H R := fun hs => ⟨p, cs, rfl, hs, hl, fun q hq => by
    obtain ⟨k2, s2⟩ := k.mine (o := SetKO w q (accK cs)) (c := .obj (SetKO w q (accK cs))) hq ⟨upd_same, trivial⟩
    exact kk _ _ _ _ _ s2 k2 (.raw q) (h q (k.fresh hq).2)⟩
  cases kd with
  | tup => exact absurd rfl (hk _)
  | lst => exact fin hs
  | scr => exact fin hs
  | raw => exact fin hs
def rSrtW (K : PySem.W.Frag) (w : World) : List V → Hp → VK → Prop := fun xs H Q => rSrtU K xs H Q ∨ rSrtK w xs H Q
theorem cr_srtW (hc : X.calm = true) : CallR X (.builtin "sorted") (rSrtW X.K X.w) := CallR.or cr_srtU (cr_srtK hc)
theorem srt_i {d : D} {ns : List Int} (hd : asL O d = some (ns.map .int)) (hk : ∀ ds, d ≠ .tup ds) (h : ∀ ms : List Int, ms.Perm ns → ms.Pairwise (· ≤ ·) → Q (.lst (ms.map .int)) O) : lC K (rSrtW K w) [d] O Q := fun F H vs R k r kk => .inl (sorted_i hd hk h F H vs R k r kk)
theorem srt_s {d : D} {ns : List Str} (hd : asL O d = some (ns.map .str)) (hk : ∀ ds, d ≠ .tup ds) (h64 : ns.length < 64) (h : ∀ ms : List Str, ms.Perm ns → sortedS ms = true → Q (.lst (ms.map .str)) O) : lC K (rSrtW K w) [d] O Q := fun F H vs R k r kk => .inl (sorted_s hd hk h64 h F H vs R k r kk)
theorem srt_ki {a : Addr} {ks : List Key} {ns : List Int} (ho : O a = some (.obj (SetKO w a ks))) (e : ks = ns.map Sum.inl) (h : ∀ ms : List Int, ms.Perm ns → ms.Pairwise (· ≤ ·) → Q (.lst (ms.map .int)) O) : lC K (rSrtW K w) [.raw a] O Q := fun F H vs R k r kk => by
  obtain ⟨v, rfl, rv⟩ := one_rep r
  rw [rep_raw rv]
  subst e
  refine .inr (.inl ⟨a, ns, rfl, (k.own _ _ ho).2.1, fun ms q pm pw hq => ?_⟩)
  obtain ⟨k2, s2, sF⟩ := k.lay (o := .lst (ms.map V.int)) hq
  have rr := (reps_ints (K := K) (F := F) ms).mono sF
  exact kk _ _ _ _ _ s2 k2 (.lst upd_same rr.1 rr.2) (h ms pm pw)
theorem srt_ks {a : Addr} {ks : List Key} {ns : List Str} (ho : O a = some (.obj (SetKO w a ks))) (e : ks = ns.map Sum.inr) (h : ∀ ms : List Str, ms.Perm ns → sortedS ms = true → Q (.lst (ms.map .str)) O) : lC K (rSrtW K w) [.raw a] O Q := fun F H vs R k r kk => by
  obtain ⟨v, rfl, rv⟩ := one_rep r
  rw [rep_raw rv]
  subst e
  refine .inr (.inr ⟨a, ns, rfl, (k.own _ _ ho).2.1, fun ms q pm pw hq => ?_⟩)
  obtain ⟨k2, s2, sF⟩ := k.lay (o := .lst (ms.map V.str)) hq
  have rr := (reps_strs (K := K) (F := F) ms).mono sF
  exact kk _ _ _ _ _ s2 k2 (.lst upd_same rr.1 rr.2) (h ms pm pw)
/-- the members of a set of ints, of texts -/
theorem acc_ints (ns : List Int) : ∃ ms : List Int, accK (ns.map Sum.inl) = ms.map Sum.inl ∧ ms.Nodup ∧ ∀ x, x ∈ ms ↔ x ∈ ns := by
  have gen : ∀ ks : List Key, (∀ k ∈ ks, k ∈ ns.map (Sum.inl : Int → Key)) → ∃ ms : List Int, ks = ms.map Sum.inl := fun ks => by
    induction ks with
    | nil => exact fun _ => ⟨[], rfl⟩
    | cons k ks ih =>
      intro h
      obtain ⟨ms, e⟩ := ih fun x hx => h x (List.mem_cons_of_mem _ hx)
      obtain ⟨i, _, e2⟩ := List.mem_map.mp (h k List.mem_cons_self)
      exact ⟨i :: ms, by rw [List.map_cons, e2, e]⟩
  obtain ⟨ms, e⟩ := gen (accK (ns.map Sum.inl)) fun k hk => mem_accK.mp hk
  refine ⟨ms, e, ?_, fun x => ?_⟩
  · have := nodup_accK (cs := ns.map Sum.inl)
    rw [e] at this
    exact List.Pairwise.of_map _ (fun _ _ h z => h (by rw [z])) this
  · have := mem_accK (cs := ns.map Sum.inl) (x := .inl x)
    rw [e] at this
    simpa using this
theorem acc_strs (ns : List Str) : ∃ ms : List Str, accK (ns.map Sum.inr) = ms.map Sum.inr ∧ ms.Nodup ∧ ∀ x, x ∈ ms ↔ x ∈ ns := by
  have gen : ∀ ks : List Key, (∀ k ∈ ks, k ∈ ns.map (Sum.inr : Str → Key)) → ∃ ms : List Str, ks = ms.map Sum.inr := fun ks => by
    induction ks with
    | nil => exact fun _ => ⟨[], rfl⟩
    | cons k ks ih =>
      intro h
      obtain ⟨ms, e⟩ := ih fun x hx => h x (List.mem_cons_of_mem _ hx)
      obtain ⟨i, _, e2⟩ := List.mem_map.mp (h k List.mem_cons_self)
      exact ⟨i :: ms, by rw [List.map_cons, e2, e]⟩
  obtain ⟨ms, e⟩ := gen (accK (ns.map Sum.inr)) fun k hk => mem_accK.mp hk
  refine ⟨ms, e, ?_, fun x => ?_⟩
  · have := nodup_accK (cs := ns.map Sum.inr)
    rw [e] at this
    exact List.Pairwise.of_map _ (fun _ _ h z => h (by rw [z])) this
  · have := mem_accK (cs := ns.map Sum.inr) (x := .inr x)
    rw [e] at this
    simpa using this
end
end Sd

-- SdK
/-! the program's data, and what its defs are worth -/
namespace Sd
open PySem PySem.Spec PyProof.Rows L2

structure Step where
  a : Int
  w : Str
  b : Int
  deriving DecidableEq
def dSt (s : Step) : D := .tup [.int s.a, .str s.w, .int s.b]
def pSt (s : Step) : PyData := .tuple [.int s.a, .str s.w, .int s.b]
theorem encSt : Enc Step dSt pSt (fun s => PyData.strOk s.w = true) 1 := by
  refine ⟨fun _ => rfl, fun x y => ?_, fun x h => Sh.tup fun q hq => ?_⟩
  · cases x with | mk a1 w1 b1 => cases y with | mk a2 w2 b2 =>
    simp [pSt, PyData.eqv, PyData.eqvAll, Step.mk.injEq, Bool.decide_and, Bool.beq_eq_decide_eq]
  · simp only [List.mem_cons, List.not_mem_nil, or_false] at hq
    rcases hq with rfl | rfl | rfl
    · exact encI.sh _ trivial
    · exact encS.sh _ h
    · exact encI.sh _ trivial
structure HandR where
  start : Int
  steps : List Step
  words : List Str
  states : List Int
def handF (h : HandR) : List (Str × D) :=
  putD "states" (.tup (h.states.map .int)) (putD "words" (.tup (h.words.map .str)) (putD "steps" (.tup (h.steps.map dSt)) (putD "start" (.int h.start) [])))
def dHand (C : Addr) (h : HandR) : D := .ins C (handF h)
structure SysR where
  hands : List HandR
  dil : List Int
  words : List Str
  start : List Int
def sysF (CH : Addr) (s : SysR) : List (Str × D) :=
  putD "start" (.tup (s.start.map .int)) (putD "words" (.tup (s.words.map .str)) (putD "diligent" (.tup (s.dil.map .int)) (putD "hands" (.tup (s.hands.map (dHand CH))) [])))
def dSys (CS CH : Addr) (s : SysR) : D := .ins CS (sysF CH s)
structure Move where
  w : Str
  nums : List (Option Int)
  deriving DecidableEq
def dMove (m : Move) : D := .tup [.str m.w, .tup (m.nums.map dOpt)]
def dPl (p : List Int) : D := .tup (p.map .int)

section
variable (h : HandR)
theorem ne1 : ¬ (("start" : Str) = "states") := by decide +kernel
theorem ne2 : ¬ (("start" : Str) = "words") := by decide +kernel
theorem ne3 : ¬ (("start" : Str) = "steps") := by decide +kernel
theorem ne4 : ¬ (("steps" : Str) = "states") := by decide +kernel
theorem ne5 : ¬ (("steps" : Str) = "words") := by decide +kernel
theorem ne6 : ¬ (("words" : Str) = "states") := by decide +kernel
theorem ne7 : ¬ (("hands" : Str) = "start") := by decide +kernel
theorem ne8 : ¬ (("hands" : Str) = "words") := by decide +kernel
theorem ne9 : ¬ (("hands" : Str) = "diligent") := by decide +kernel
theorem ne10 : ¬ (("diligent" : Str) = "start") := by decide +kernel
theorem ne11 : ¬ (("diligent" : Str) = "words") := by decide +kernel
theorem ne12 : ¬ (("words" : Str) = "start") := by decide +kernel
theorem hand_start : (handF h).lookup ("start" : Str) = some (.int h.start) := by
  unfold handF
  rw [lookup_putD, if_neg ne1, lookup_putD, if_neg ne2, lookup_putD, if_neg ne3, lookup_putD, if_pos rfl]
theorem hand_steps : (handF h).lookup ("steps" : Str) = some (.tup (h.steps.map dSt)) := by
  unfold handF
  rw [lookup_putD, if_neg ne4, lookup_putD, if_neg ne5, lookup_putD, if_pos rfl]
theorem hand_words : (handF h).lookup ("words" : Str) = some (.tup (h.words.map .str)) := by
  unfold handF
  rw [lookup_putD, if_neg ne6, lookup_putD, if_pos rfl]
theorem hand_states : (handF h).lookup ("states" : Str) = some (.tup (h.states.map .int)) := by
  unfold handF
  rw [lookup_putD, if_pos rfl]
theorem hand_no {m : Str} (h1 : ¬ m = "states") (h2 : ¬ m = "words") (h3 : ¬ m = "steps") (h4 : ¬ m = "start") : (handF h).lookup m = none := by
  unfold handF
  rw [lookup_putD, if_neg h1, lookup_putD, if_neg h2, lookup_putD, if_neg h3, lookup_putD, if_neg h4]
  rfl
end
section
variable {CH : Addr} (s : SysR)
theorem sys_hands : (sysF CH s).lookup ("hands" : Str) = some (.tup (s.hands.map (dHand CH))) := by
  unfold sysF
  rw [lookup_putD, if_neg ne7, lookup_putD, if_neg ne8, lookup_putD, if_neg ne9, lookup_putD, if_pos rfl]
theorem sys_dil : (sysF CH s).lookup ("diligent" : Str) = some (.tup (s.dil.map .int)) := by
  unfold sysF
  rw [lookup_putD, if_neg ne10, lookup_putD, if_neg ne11, lookup_putD, if_pos rfl]
theorem sys_words : (sysF CH s).lookup ("words" : Str) = some (.tup (s.words.map .str)) := by
  unfold sysF
  rw [lookup_putD, if_neg ne12, lookup_putD, if_pos rfl]
theorem sys_start : (sysF CH s).lookup ("start" : Str) = some (.tup (s.start.map .int)) := by
  unfold sysF
  rw [lookup_putD, if_pos rfl]
theorem sys_no {m : Str} (h1 : ¬ m = "start") (h2 : ¬ m = "words") (h3 : ¬ m = "diligent") (h4 : ¬ m = "hands") : (sysF CH s).lookup m = none := by
  unfold sysF
  rw [lookup_putD, if_neg h1, lookup_putD, if_neg h2, lookup_putD, if_neg h3, lookup_putD, if_neg h4]
  rfl
end

/-! ### what the top has -/
structure Bs (mg : Str → Option Value) : Prop where
  isi : mg "isinstance" = none
  int : mg "int" = none
  bool : mg "bool" = none
  str : mg "str" = none
  list : mg "list" = none
  tuple : mg "tuple" = none
  len : mg "len" = none
  enumerate : mg "enumerate" = none
  sorted : mg "sorted" = none
  set : mg "set" = none
  range : mg "range" = none
  sum : mg "sum" = none
  min : mg "min" = none
  max : mg "max" = none
  zip : mg "zip" = none
  all : mg "all" = none
  any : mg "any" = none
/-- a constant of the module -/
abbrev Gi (mg : Str → Option Value) (x : Str) (i : Int) : Prop := ∃ u, mg x = some u ∧ RelV (.int i) u
abbrev Gs (mg : Str → Option Value) (x : Str) (z : Str) : Prop := ∃ u, mg x = some u ∧ RelV (.str z) u
abbrev Gr (mg : Str → Option Value) (x : Str) (a : Addr) : Prop := ∃ u, mg x = some u ∧ RelV (.ref a) u
structure HT (K : PySem.W.Frag) (mg : Str → Option Value) (CH : Addr) : Prop where
  ins : InsT K CH
  nm : Gr mg "Hand" CH
  start : Fld K CH "start"
  steps : Fld K CH "steps"
  words : Fld K CH "words"
  states : Fld K CH "states"
structure ST (K : PySem.W.Frag) (mg : Str → Option Value) (CS : Addr) : Prop where
  ins : InsT K CS
  nm : Gr mg "System" CS
  hands : Fld K CS "hands"
  dil : Fld K CS "diligent"
  words : Fld K CS "words"
  start : Fld K CS "start"

/-! ### checks -/
def isIntD : D → Bool
  | .int _ => true
  | _ => false
def okSt (i : Int) : Prop := 0 ≤ i ∧ i ≤ 99
def az : Str := "abcdefghijklmnopqrstuvwxyz"
def okName (z : Str) : Prop := 1 ≤ z.length ∧ z.length ≤ 12 ∧ ∀ c ∈ z.cps.toList, 97 ≤ c ∧ c ≤ 122
theorem okName.so {z : Str} (h : okName z) : PyData.strOk z = true := by
  unfold PyData.strOk
  rw [← Array.all_toList]
  exact List.all_eq_true.mpr fun c hc => by have := (h.2.2 c hc).2; simp; omega
def okStep (s : Step) : Prop := okSt s.a ∧ okName s.w ∧ okSt s.b
theorem okSt_b {i : Int} (h : okSt i) : (decide (0 ≤ i) && decide (i ≤ 99)) = true := by
  obtain ⟨h1, h2⟩ := h
  simp [h1, h2]
def cIsInt : Ct := fun ds O Q => ∃ d t, ds = [d] ∧ tyD O d = some t ∧ Q (.bl (isIntD d)) O
def cIsState : Ct := fun ds O Q => ∃ i, ds = [.int i] ∧ Q (.bl (decide (0 ≤ i) && decide (i ≤ 99))) O
def cIsName : Ct := fun ds O Q => ∃ z, ds = [.str z] ∧ okName z ∧ Q (.bl true) O
def cIsRow : Ct := fun ds O Q => ∃ d t, ds = [d] ∧ tyD O d = some t ∧ Q (.bl (t == "list" || t == "tuple")) O
def cIsStep : Ct := fun ds O Q => ∃ s, ds = [dSt s] ∧ okStep s ∧ Q (.bl true) O
/-! ### hands -/
def leav (xs : List Step) (st : Int) : List Step := xs.filter fun s => decide (s.a = st)
def cLeaving : Ct := fun ds O Q => ∃ d xs st, ds = [d, .int st] ∧ asL O d = some (xs.map dSt) ∧ xs.length ≤ 100 ∧ Q (.int ((leav xs st).length : Int)) O
def okSteps (xs : List Step) : Prop := 1 ≤ xs.length ∧ xs.length ≤ 24 ∧ (∀ s ∈ xs, okStep s) ∧ xs.Nodup ∧ ∀ st, (leav xs st).length ≤ 4
def cChkSteps : Ct := fun ds O Q => ∃ d xs, ds = [d] ∧ asL O d = some (xs.map dSt) ∧ (∀ ns, d ≠ .scr ns) ∧ okSteps xs ∧ Q (.tup (xs.map dSt)) O
inductive Reach (st : Int) (xs : List Step) : Int → Prop
  | here : Reach st xs st
  | step {s : Step} : s ∈ xs → Reach st xs s.a → Reach st xs s.b
def cReached : Ct := fun ds O Q => ∃ d xs st, ds = [.int st, d] ∧ asL O d = some (xs.map dSt) ∧ xs.length ≤ 100 ∧ ∀ ms : List Int, ms.Pairwise (· < ·) → (∀ x, x ∈ ms ↔ Reach st xs x) → Q (.tup (ms.map .int)) O
def sWords (xs : List Step) (ws : List Str) : Prop := ws.Nodup ∧ sortedS ws = true ∧ ∀ z, z ∈ ws ↔ ∃ s ∈ xs, s.w = z
structure OkH (h : HandR) : Prop where
  st : okSt h.start
  steps : okSteps h.steps
  words : sWords h.steps h.words
  wl : h.words.length ≤ 8
  sl : h.states.length ≤ 8
  sp : h.states.Pairwise (· < ·)
  states : ∀ x, x ∈ h.states ↔ Reach h.start h.steps x
def cHandInit (CH : Addr) : Ct := fun ds O Q => ∃ p st d xs, ds = [.raw p, .int st, d] ∧ O p = some (.ins CH []) ∧ asL O d = some (xs.map dSt) ∧ (∀ ns, d ≠ .scr ns) ∧ okSt st ∧ okSteps xs ∧
  (∀ ws, sWords xs ws → ws.length ≤ 8) ∧ (∀ ms : List Int, ms.Pairwise (· < ·) → (∀ x, x ∈ ms ↔ Reach st xs x) → ms.length ≤ 8) ∧
  ∀ h, OkH h → h.start = st → h.steps = xs → Q .non (setO O p (.ins CH (handF h)))
end Sd

-- SdM
/-! systems: what the defs are worth -/
namespace Sd
open PySem PySem.Spec PyProof.Rows L2
/-- the numbers that may stand in a move -/
def nums (h : HandR) (x : Int) (z : Str) : List (Option Int) :=
  if z ∈ h.words then h.steps.zipIdx.filterMap fun p => if p.1.a = x ∧ p.1.w = z then some (some (p.2 : Int)) else none else [none]
structure OkSys (s : SysR) : Prop where
  lo : 1 ≤ s.hands.length
  hi : s.hands.length ≤ 4
  hands : ∀ h ∈ s.hands, OkH h
  dil : s.dil.Pairwise (· < ·)
  dilr : ∀ i ∈ s.dil, 0 ≤ i ∧ i < s.hands.length
  nd : s.words.Nodup
  srt : sortedS s.words = true
  words : ∀ z, z ∈ s.words ↔ ∃ h ∈ s.hands, z ∈ h.words
  wl : s.words.length ≤ 12
  start : s.start = s.hands.map (·.start)
/-- a standing -/
def Stand (s : SysR) (p : List Int) : Prop := p.length = s.hands.length ∧ ∀ (k : Nat) (h : HandR) (x : Int), s.hands[k]? = some h → p[k]? = some x → x ∈ h.states
structure MoveOk (s : SysR) (p : List Int) (m : Move) : Prop where
  w : m.w ∈ s.words
  len : m.nums.length = s.hands.length
  num : ∀ (k : Nat) (h : HandR) (x : Int) (n : Option Int), s.hands[k]? = some h → p[k]? = some x → m.nums[k]? = some n → n ∈ nums h x m.w
def led1 (h : HandR) (x : Int) : Option Int → Int
  | none => x
  | some i => ((h.steps[i.toNat]?).map (·.b)).getD 0
def led (s : SysR) (p : List Int) (m : Move) : List Int := (s.hands.zip (p.zip m.nums)).map fun t => led1 t.1 t.2.1 t.2.2
def Free (s : SysR) (p : List Int) (z : Str) : Prop := ∀ (k : Nat) (h : HandR) (x : Int), s.hands[k]? = some h → p[k]? = some x → z ∈ h.words → nums h x z ≠ []
/-- hand k is able at p -/
def AbleK (s : SysR) (p : List Int) (k : Nat) : Prop := ∃ z ∈ s.words, Free s p z ∧ ∃ h, s.hands[k]? = some h ∧ z ∈ h.words
def walkP (s : SysR) (p : List Int) : List Move → List (List Int)
  | [] => [p]
  | m :: ms => p :: walkP s (led s p m) ms
def RunOk (s : SysR) (p : List Int) : List Move → Prop
  | [] => Stand s p
  | m :: ms => Stand s p ∧ MoveOk s p m ∧ RunOk s (led s p m) ms
def takes (ms : List Move) (k : Nat) : Prop := ∃ m ∈ ms, ∃ i, m.nums[k]? = some (some i)

section
variable (CH CS : Addr)
def cNums : Ct := fun ds O Q => ∃ h x z, ds = [dHand CH h, .int x, .str z] ∧ h.steps.length ≤ 100 ∧ Q (.lst ((nums h x z).map dOpt)) O
def cChkHands : Ct := fun ds O Q => ∃ (d : D) (hs : List HandR), ds = [d] ∧ asL O d = some (hs.map (dHand CH)) ∧ (∀ ns, d ≠ .scr ns) ∧ 1 ≤ hs.length ∧ hs.length ≤ 4 ∧ Q (.tup (hs.map (dHand CH))) O
/-- what names hands -/
def DilArg (O : Own) (d : D) (n : Nat) (is : List Int) : Prop := (d = .non ∧ is = (List.range n).map fun (i : Nat) => (i : Int)) ∨
  (asL O d = some (is.map .int) ∧ (∀ ns, d ≠ .scr ns) ∧ is.Nodup ∧ ∀ i ∈ is, 0 ≤ i ∧ i < n)
def cChkDil : Ct := fun ds O Q => ∃ d n is, ds = [d, .int (n : Nat)] ∧ n ≤ 100 ∧ DilArg O d n is ∧ ∀ ms : List Int, ms.Pairwise (· < ·) → (∀ x, x ∈ ms ↔ x ∈ is) → Q (.tup (ms.map .int)) O
def cChkStand : Ct := fun ds O Q => ∃ s p, ds = [dSys CS CH s, dPl p] ∧ Stand s p ∧ s.hands.length ≤ 4 ∧ Q .non O
def cIsMove : Ct := fun ds O Q => ∃ s p m, ds = [dSys CS CH s, dPl p, dMove m] ∧ OkSys s ∧ Stand s p ∧ MoveOk s p m ∧ Q (.bl true) O
def cLedTo : Ct := fun ds O Q => ∃ s p m, ds = [dSys CS CH s, dPl p, dMove m] ∧ OkSys s ∧ Stand s p ∧ MoveOk s p m ∧ Q (dPl (led s p m)) O
def cSysInit : Ct := fun ds O Q => ∃ p dh dd hs is, ds = [.raw p, dh, dd] ∧ O p = some (.ins CS []) ∧ asL O dh = some (hs.map (dHand CH)) ∧ (∀ ns, dh ≠ .scr ns) ∧ 1 ≤ hs.length ∧ hs.length ≤ 4 ∧ (∀ h ∈ hs, OkH h) ∧ DilArg O dd hs.length is ∧
  (∀ ws : List Str, ws.Nodup → (∀ z, z ∈ ws ↔ ∃ h ∈ hs, z ∈ h.words) → ws.length ≤ 12) ∧ ∀ s, OkSys s → s.hands = hs → (∀ x, x ∈ s.dil ↔ x ∈ is) → Q .non (setO O p (.ins CS (sysF CH s)))
def cAble : Ct := fun ds O Q => ∃ s p, ds = [dSys CS CH s, dPl p] ∧ OkSys s ∧ Stand s p ∧ ∀ ms : List Int, ms.Pairwise (· < ·) → (∀ k : Nat, (k : Int) ∈ ms ↔ AbleK s p k) → (∀ x ∈ ms, 0 ≤ x) → Q (.lst (ms.map .int)) O
def cWithDil : Ct := fun ds O Q => ∃ s dd is, ds = [dSys CS CH s, dd] ∧ OkSys s ∧ DilArg O dd s.hands.length is ∧ ∀ t : SysR, OkSys t → t.hands = s.hands → t.start = s.start → (∀ x, x ∈ t.dil ↔ x ∈ is) → Q (dSys CS CH t) O
/-! ### runs, keen -/
def cWalked : Ct := fun ds O Q => ∃ s ms, ds = [dSys CS CH s, .tup (ms.map dMove)] ∧ OkSys s ∧ RunOk s s.start ms ∧ ms.length ≤ 5000 ∧ Q (.lst ((walkP s s.start ms).map dPl)) O
def cTakes : Ct := fun ds O Q => ∃ (ms : List Move) (k : Nat), ds = [.tup (ms.map dMove), .int (k : Int)] ∧ (∀ m ∈ ms, k < m.nums.length) ∧ ∀ b : Bool, (b = true ↔ takes ms k) → Q (.bl b) O
def cAlways : Ct := fun ds O Q => ∃ (s : SysR) (ps : List (List Int)) (k : Nat), ds = [dSys CS CH s, .lst (ps.map dPl), .int (k : Int)] ∧ OkSys s ∧ (∀ p ∈ ps, Stand s p) ∧ ∀ b : Bool, (b = true ↔ ∀ p ∈ ps, AbleK s p k) → Q (.bl b) O
def cSomewhere : Ct := fun ds O Q => ∃ (s : SysR) (ps : List (List Int)) (k : Nat), ds = [dSys CS CH s, .lst (ps.map dPl), .int (k : Int)] ∧ OkSys s ∧ (∀ p ∈ ps, Stand s p) ∧ ∀ b : Bool, (b = true ↔ ∃ p ∈ ps, AbleK s p k) → Q (.bl b) O
/-- the standings round the loop -/
def around (s : SysR) (stem loop : List Move) : List (List Int) := (walkP s s.start (stem ++ loop)).drop stem.length
def Fair (s : SysR) (stem loop : List Move) : Prop := (around s stem loop).getLast? = (around s stem loop).head? ∧ ∀ k : Nat, (k : Int) ∈ s.dil → (∀ p ∈ around s stem loop, AbleK s p k) → takes loop k
def cFair : Ct := fun ds O Q => ∃ s stem loop, ds = [dSys CS CH s, .tup (stem.map dMove), .tup (loop.map dMove)] ∧ OkSys s ∧ RunOk s s.start (stem ++ loop) ∧ (stem ++ loop).length ≤ 5000 ∧ ∀ b : Bool, (b = true ↔ Fair s stem loop) → Q (.bl b) O
def cEither : Ct := fun ds O Q => ∃ xs ys : List Int, ds = [.tup (xs.map .int), .tup (ys.map .int)] ∧ xs.length ≤ 1000 ∧ ys.length ≤ 1000 ∧ ∀ ms : List Int, ms.Pairwise (· < ·) → (∀ x, x ∈ ms ↔ x ∈ xs ∨ x ∈ ys) → Q (.lst (ms.map .int)) O
def KeenFair (s : SysR) (keen : List Int) (stem loop : List Move) : Prop := (around s stem loop).getLast? = (around s stem loop).head? ∧
  (∀ k : Nat, (k : Int) ∈ s.dil → (∀ p ∈ around s stem loop, AbleK s p k) → takes loop k) ∧ ∀ k : Nat, (k : Int) ∈ keen → (∃ p ∈ around s stem loop, AbleK s p k) → takes loop k
def cKeenFair : Ct := fun ds O Q => ∃ s dk is stem loop, ds = [dSys CS CH s, dk, .tup (stem.map dMove), .tup (loop.map dMove)] ∧ OkSys s ∧ DilArg O dk s.hands.length is ∧ RunOk s s.start (stem ++ loop) ∧ (stem ++ loop).length ≤ 5000 ∧
  ∀ b : Bool, (b = true ↔ KeenFair s is stem loop) → Q (.bl b) O
end
/-! ### plain facts -/
theorem zip3_len {s : SysR} {p : List Int} {m : Move} (h1 : p.length = s.hands.length) (h2 : m.nums.length = s.hands.length) : (led s p m).length = s.hands.length := by
  unfold led
  rw [List.length_map, List.length_zip, List.length_zip]; omega
theorem led_get {s : SysR} {p : List Int} {m : Move} {k : Nat} {h : HandR} {x : Int} {n : Option Int} (h1 : s.hands[k]? = some h) (h2 : p[k]? = some x) (h3 : m.nums[k]? = some n) : (led s p m)[k]? = some (led1 h x n) := by
  unfold led
  rw [List.getElem?_map, (List.getElem?_zip_eq_some (z := (h, (x, n)))).mpr ⟨h1, (List.getElem?_zip_eq_some (z := (x, n))).mpr ⟨h2, h3⟩⟩]; rfl
theorem led1_some {h : HandR} {x : Int} {i : Nat} {s : Step} (e : h.steps[i]? = some s) : led1 h x (some (i : Int)) = s.b := by
  show ((h.steps[((i : Int)).toNat]?).map (·.b)).getD 0 = s.b
  rw [Int.toNat_natCast, e]; rfl
theorem nums_mem {h : HandR} {x : Int} {z : Str} {n : Option Int} (hn : n ∈ nums h x z) : (n = none ∧ z ∉ h.words) ∨ ∃ (i : Nat) (s : Step), n = some (i : Int) ∧ h.steps[i]? = some s ∧ s.a = x ∧ s.w = z ∧ z ∈ h.words := by
  unfold nums at hn
  split at hn
  · rename_i hz
    obtain ⟨p, hp, e⟩ := List.mem_filterMap.mp hn
    split at e
    · rename_i c
      cases e
      have hp2 := List.mem_zipIdx_iff_getElem?.mp hp
      exact .inr ⟨p.2, p.1, rfl, hp2, c.1, c.2, hz⟩
    · cases e
  · rename_i hz
    exact .inl ⟨List.mem_singleton.mp hn, hz⟩
theorem led_ok {s : SysR} (ok : OkSys s) {p : List Int} {m : Move} (hp : Stand s p) (hm : MoveOk s p m) : Stand s (led s p m) := by
  refine ⟨zip3_len hp.1 hm.len, fun k h y hh hy => ?_⟩
  have hk : k < s.hands.length := (List.getElem?_eq_some_iff.mp hh).1
  have hx := List.getElem?_eq_getElem (l := p) (i := k) (by rw [hp.1]; exact hk)
  have hn := List.getElem?_eq_getElem (l := m.nums) (i := k) (by rw [hm.len]; exact hk)
  rw [led_get hh hx hn] at hy
  cases hy
  have hin := hp.2 k h _ hh hx
  rcases nums_mem (hm.num k h _ _ hh hx hn) with ⟨e, _⟩ | ⟨i, st, e, h1, h2, h3, h4⟩
  · rw [e]; exact hin
  · rw [e]
    have oh := ok.hands h (List.mem_of_getElem? hh)
    rw [led1_some h1]
    refine (oh.states _).mpr (.step (List.mem_of_getElem? h1) ?_)
    rw [h2]
    exact (oh.states _).mp hin
theorem start_ok {s : SysR} (ok : OkSys s) : Stand s s.start := by
  refine ⟨by rw [ok.start, List.length_map], fun k h x hh hx => ?_⟩
  rw [ok.start, List.getElem?_map, hh] at hx
  cases hx
  exact ((ok.hands h (List.mem_of_getElem? hh)).states _).mpr .here
theorem walkP_len (s : SysR) : ∀ (ms : List Move) (p : List Int), (walkP s p ms).length = ms.length + 1
  | [], p => rfl
  | m :: ms, p => by unfold walkP; rw [List.length_cons, walkP_len s ms]; rfl
theorem RunOk.stand {s : SysR} : ∀ {ms : List Move} {p : List Int}, RunOk s p ms → ∀ q ∈ walkP s p ms, Stand s q
  | [], p, h, q, hq => by rw [List.mem_singleton.mp hq]; exact h
  | m :: ms, p, h, q, hq => by
    rcases List.mem_cons.mp hq with e | e
    · rw [e]; exact h.1
    · exact RunOk.stand h.2.2 q e
end Sd

-- SdQ
/-! more rules -/
namespace Sd
open PySem PySem.Spec PyProof.Rows L2
section
variable {X : Cx} {ρ : Env} {O : Own} {Q : DK} {a : Expr} {p p2 pos pos2 : Pos}
theorem we_tupRg (hc : X.calm = true) (hg : Gl X "tuple") (hm : X.mg "tuple" = none) (hg2 : Gl X "range") (hm2 : X.mg "range" = none) (na2 : starEach [a] X.env = (false, eval a X.env) :: starEach [] X.env)
    (na : starEach [(.Call (.Name "range" p2) [a] [] pos2 : Expr)] X.env = (false, eval (.Call (.Name "range" p2) [a] [] pos2) X.env) :: starEach [] X.env)
    (h : WE X a ρ O fun d O1 => ∃ n : Nat, d = .int (n : Int) ∧ n ≤ 1000000 ∧ Q (.tup ((List.range n).map fun (i : Nat) => D.int (i : Int))) O1) : WE X (.Call (.Name "tuple" p) [.Call (.Name "range" p2) [a] [] pos2] [] pos) ρ O Q := by
  intro F σ H R Ve k kk
  refine PE.to (pe_tupRg hc hg hm (prg_1 hg2 hm2 pe_can na2) na) ?_
  refine h F σ H _ Ve k fun F1 O1 H1 v d s1 k1 r q => ?_
  obtain ⟨n, rfl, hn, q⟩ := q
  refine ⟨n, by rw [rep_int r], RgOk.of_le (by omega) (by omega) (by omega) (by omega), fun q0 hq => ?_⟩
  obtain ⟨k2, s2, sF⟩ := k1.lay (o := .tup (rgV 0 n)) hq
  refine kk _ _ _ _ _ (s1.trans s2) k2 (.tup upd_same (by rw [rgV_length, List.length_map, List.length_range]; omega) fun i v d h1 h2 => ?_) q
  unfold rgV at h1
  rw [List.getElem?_map] at h1 h2
  have e : ((n : Int) - 0).toNat = n := by omega
  rw [e] at h1
  cases hi : (List.range n)[i]? with
  | none => rw [hi] at h1; cases h1
  | some j =>
    rw [hi] at h1 h2
    cases h1; cases h2
    show Rep X.K _ (V.int (0 + (j : Int))) (D.int (j : Int))
    rw [Int.zero_add]; exact .int _
end
end Sd

-- SdR
/-! runs: plain facts -/
namespace Sd
open PySem PySem.Spec PyProof.Rows L2
def endP (s : SysR) (p : List Int) (ms : List Move) : List Int := ms.foldl (led s) p
theorem walkP_snoc (s : SysR) : ∀ (ms : List Move) (p : List Int) (m : Move), walkP s p (ms ++ [m]) = walkP s p ms ++ [led s (endP s p ms) m]
  | [], p, m => rfl
  | x :: ms, p, m => by
    show p :: walkP s (led s p x) (ms ++ [m]) = p :: walkP s (led s p x) ms ++ _
    rw [walkP_snoc s ms]; rfl
theorem walkP_last (s : SysR) : ∀ (ms : List Move) (p : List Int), (walkP s p ms).getLast? = some (endP s p ms)
  | [], p => rfl
  | x :: ms, p => by
    show (p :: walkP s (led s p x) ms).getLast? = _
    have h := walkP_last s ms (led s p x)
    cases hw : walkP s (led s p x) ms with
    | nil => have := walkP_len s ms (led s p x); rw [hw] at this; simp at this
    | cons a r => rw [List.getLast?_cons_cons, ← hw, h]; rfl
theorem RunOk.mid {s : SysR} : ∀ {as : List Move} {p : List Int} {m : Move} {bs : List Move}, RunOk s p (as ++ m :: bs) → Stand s (endP s p as) ∧ MoveOk s (endP s p as) m
  | [], p, m, bs, h => ⟨h.1, h.2.1⟩
  | a :: as, p, m, bs, h => RunOk.mid (as := as) (p := led s p a) h.2.2
theorem RunOk.at {s : SysR} {ms : List Move} {p : List Int} (h : RunOk s p ms) {i : Nat} {m : Move} (hm : ms[i]? = some m) : Stand s (endP s p (ms.take i)) ∧ MoveOk s (endP s p (ms.take i)) m := by
  have hi := (List.getElem?_eq_some_iff.mp hm).1
  have e : ms = ms.take i ++ m :: ms.drop (i + 1) := by
    have := (List.take_append_drop i ms).symm
    rw [List.drop_eq_getElem_cons hi, (List.getElem?_eq_some_iff.mp hm).2] at this
    exact this
  rw [e] at h
  exact h.mid
theorem RunOk.len {s : SysR} {ms : List Move} {p : List Int} (h : RunOk s p ms) : ∀ m ∈ ms, m.nums.length = s.hands.length := fun m hm => by
  obtain ⟨i, hi⟩ := List.getElem?_of_mem hm
  exact (h.at hi).2.len
theorem RunOk.app {s : SysR} : ∀ {as : List Move} {p : List Int} {bs : List Move}, RunOk s p (as ++ bs) → RunOk s (endP s p as) bs
  | [], p, bs, h => h
  | a :: as, p, bs, h => RunOk.app (as := as) (p := led s p a) h.2.2
theorem walkP_drop (s : SysR) : ∀ (as : List Move) (p : List Int) (bs : List Move), (walkP s p (as ++ bs)).drop as.length = walkP s (endP s p as) bs
  | [], p, bs => rfl
  | a :: as, p, bs => by
    show (p :: walkP s (led s p a) (as ++ bs)).drop (as.length + 1) = _
    rw [List.drop_succ_cons]
    exact walkP_drop s as (led s p a) bs
theorem around_eq (s : SysR) (stem loop : List Move) : around s stem loop = walkP s (endP s s.start stem) loop := walkP_drop s stem s.start loop
theorem around_ne (s : SysR) (stem loop : List Move) : around s stem loop ≠ [] := fun h => by
  have := walkP_len s loop (endP s s.start stem)
  rw [← around_eq, h] at this; simp at this
/-! ### the same hands -/
structure SameS (s t : SysR) : Prop where
  h : t.hands = s.hands
  w : ∀ z, z ∈ t.words ↔ z ∈ s.words
  st : t.start = s.start
theorem SameS.of {s t : SysR} (os : OkSys s) (ot : OkSys t) (h : t.hands = s.hands) (st : t.start = s.start) : SameS s t := ⟨h, fun z => by rw [ot.words, os.words, h], st⟩
theorem SameS.led {s t : SysR} (e : SameS s t) : Sd.led t = Sd.led s := by funext p m; unfold Sd.led; rw [e.h]
theorem SameS.walk {s t : SysR} (e : SameS s t) : ∀ (ms : List Move) (p : List Int), walkP t p ms = walkP s p ms
  | [], p => rfl
  | m :: ms, p => by
    show p :: walkP t (Sd.led t p m) ms = p :: walkP s (Sd.led s p m) ms
    rw [e.led, e.walk ms]
theorem SameS.stand {s t : SysR} (e : SameS s t) (p : List Int) : Stand t p ↔ Stand s p := by unfold Stand; rw [e.h]
theorem SameS.free {s t : SysR} (e : SameS s t) (p : List Int) (z : Str) : Free t p z ↔ Free s p z := by unfold Free; rw [e.h]
theorem SameS.able {s t : SysR} (e : SameS s t) (p : List Int) (k : Nat) : AbleK t p k ↔ AbleK s p k := by
  unfold AbleK
  constructor
  · rintro ⟨z, h1, h2, h, h3, h4⟩
    exact ⟨z, (e.w z).mp h1, (e.free p z).mp h2, h, e.h ▸ h3, h4⟩
  · rintro ⟨z, h1, h2, h, h3, h4⟩
    exact ⟨z, (e.w z).mpr h1, (e.free p z).mpr h2, h, e.h ▸ h3, h4⟩
theorem SameS.move {s t : SysR} (e : SameS s t) {p : List Int} {m : Move} (h : MoveOk s p m) : MoveOk t p m :=
  ⟨(e.w _).mpr h.w, by rw [e.h]; exact h.len, fun k hd x n h1 h2 h3 => h.num k hd x n (by rw [← e.h]; exact h1) h2 h3⟩
theorem SameS.run {s t : SysR} (e : SameS s t) : ∀ {ms : List Move} {p : List Int}, RunOk s p ms → RunOk t p ms
  | [], p, h => (e.stand p).mpr h
  | m :: ms, p, h => ⟨(e.stand p).mpr h.1, e.move h.2.1, by rw [e.led]; exact e.run h.2.2⟩
theorem SameS.around {s t : SysR} (e : SameS s t) (stem loop : List Move) : Sd.around t stem loop = Sd.around s stem loop := by unfold Sd.around; rw [e.st, e.walk]
/-! ### the ends of lists -/
theorem atI_last {α : Type} {xs : List α} {d : α} (h : xs.getLast? = some d) : atI xs (-1) = some d := by
  have ne : xs ≠ [] := fun e => by rw [e] at h; cases h
  have hl : 0 < xs.length := List.length_pos_iff.mpr ne
  unfold atI ixN
  rw [if_neg (by decide), if_pos (by omega)]
  show xs[((-1 : Int) + (xs.length : Int)).toNat]? = some d
  rw [List.getLast?_eq_getElem?] at h
  rw [show ((-1 : Int) + (xs.length : Int)).toNat = xs.length - 1 by omega]
  exact h
theorem atI_head {α : Type} {xs : List α} {d : α} (h : xs.head? = some d) : atI xs 0 = some d := by
  cases xs with
  | nil => cases h
  | cons x r =>
    cases h
    unfold atI ixN
    simp
theorem cutD_drop {α : Type} (xs : List α) (n : Nat) : cutD xs (some (n : Int)) none = xs.drop n := by
  unfold cutD
  rw [HT.sIx_nat, HT.sIx_none]
  by_cases h : n ≤ xs.length
  · rw [Nat.min_eq_left h, List.take_of_length_le (by rw [List.length_drop]; omega)]
  · rw [Nat.min_eq_right (by omega), Nat.sub_self, List.take_zero, List.drop_eq_nil_of_le (by omega)]
theorem cutD_take {α : Type} (xs : List α) (n : Nat) : cutD xs none (some (n : Int)) = xs.take n := by
  unfold cutD
  rw [HT.sIx_nat, HT.sIx_none, List.drop_zero, Nat.sub_zero]
  by_cases h : n ≤ xs.length
  · rw [Nat.min_eq_left h]
  · rw [Nat.min_eq_right (by omega), List.take_length, List.take_of_length_le (by omega)]
theorem cutD_mid {α : Type} (xs : List α) (a b : Nat) : cutD xs (some (a : Int)) (some (b : Int)) = (xs.drop a).take (b - a) := by
  unfold cutD
  rw [HT.sIx_nat, HT.sIx_nat]
  by_cases h : a ≤ xs.length
  · rw [Nat.min_eq_left h]
    by_cases h2 : b ≤ xs.length
    · rw [Nat.min_eq_left h2]
    · rw [Nat.min_eq_right (by omega), List.take_of_length_le (by rw [List.length_drop]; omega), List.take_of_length_le (by rw [List.length_drop]; omega)]
  · rw [show min a xs.length = xs.length by omega, List.drop_eq_nil_of_le (Nat.le_refl _), List.drop_eq_nil_of_le (by omega)]; simp
section
variable {X : Cx} {ρ : Env} {O : Own} {Q : DK} {e : Expr} {pos : Pos}
theorem we_neg (h : WE X e ρ O fun d O1 => ∃ i, d = .int i ∧ Q (.int (-i)) O1) : WE X (.UnaryOp .USub e pos) ρ O Q := by
  intro F σ H R Ve k kk
  refine PE.to (pe_un un_neg pe_can) ?_
  refine h F σ H _ Ve k fun F1 O1 H1 v d s1 k1 r q => ?_
  obtain ⟨i, rfl, q⟩ := q
  exact ⟨i, rep_int r, kk _ _ _ _ _ s1 k1 (.int _) q⟩
end
end Sd

-- SdV
/-! what the law draws -/
namespace Sd
open PySem PySem.Spec PyProof.Rows L2
/-- the list from which is drawn -/
def Drw (O : Own) (p : Addr) : Prop := ∃ a b c : Int, O p = some (.lst [.int a, .int b, .int c])
/-- drawn: all else is as it was -/
structure Dr (p : Addr) (O O' : Own) : Prop where
  d : Drw O' p
  o : ∀ x, x ≠ p → O' x = O x
theorem Dr.refl {p : Addr} {O : Own} (h : Drw O p) : Dr p O O := ⟨h, fun _ _ => rfl⟩
theorem Dr.trans {p : Addr} {O O1 O2 : Own} (a : Dr p O O1) (b : Dr p O1 O2) : Dr p O O2 := ⟨b.d, fun x h => (b.o x h).trans (a.o x h)⟩
theorem Dr.at {p : Addr} {O O' : Own} (h : Dr p O O') {q : Addr} (hq : q ≠ p) {c : OC} (e : O q = some c) : O' q = some c := (h.o q hq).trans e
theorem Dr.none {p : Addr} {O O' : Own} (h : Dr p O O') {q : Addr} (hd : Drw O p) : O' q = Option.none → O q = Option.none := fun e => by
  by_cases hq : q = p
  · subst hq; obtain ⟨a, b, c, z⟩ := h.d; rw [z] at e; cases e
  · rw [← h.o q hq]; exact e
theorem Drw.ne {O : Own} {p q : Addr} (h : Drw O p) (hq : O q = Option.none) : q ≠ p := fun e => by
  subst e; obtain ⟨a, b, c, z⟩ := h; rw [hq] at z; cases z
theorem Drw.set {O : Own} {p q : Addr} {c : OC} (h : Drw O p) (hq : q ≠ p) : Drw (setO O q c) p := by
  obtain ⟨a, b, d, z⟩ := h
  exact ⟨a, b, d, by rw [setO_ne (Ne.symm hq)]; exact z⟩
def cOpen : Ct := fun ds O Q => ∃ (ns : List Int) (k : Int), ds = [.scr ns, .int k] ∧ 0 ≤ k ∧ ns.length ≤ 63 ∧ ∀ (p : Addr) (a b c : Int), O p = none → Q (.raw p) (setO O p (.lst [.int a, .int b, .int c]))
def cDraw : Ct := fun ds O Q => ∃ (p : Addr) (m : Int), ds = [.raw p, .int m] ∧ Drw O p ∧ 0 < m ∧ m < 1000000 ∧ ∀ (r : Int) (O' : Own), 0 ≤ r → r < m → Dr p O O' → Q (.int r) O'
def cName : Ct := fun ds O Q => ∃ p : Addr, ds = [.raw p] ∧ Drw O p ∧ ∀ (z : Str) (O' : Own), okName z → Dr p O O' → Q (.str z) O'
def cNames : Ct := fun ds O Q => ∃ (p : Addr) (m : Nat), ds = [.raw p, .int (m : Int)] ∧ Drw O p ∧ m ≤ 20 ∧ ∀ (zs : List Str) (O' : Own), zs.Nodup → (∀ z ∈ zs, okName z) → zs.length = m → Dr p O O' → Q (.lst (zs.map .str)) O'
def cStates : Ct := fun ds O Q => ∃ (p : Addr) (m : Nat), ds = [.raw p, .int (m : Int)] ∧ Drw O p ∧ 1 ≤ m ∧ m ≤ 4 ∧ ∀ (ps : List Int) (O' : Own), ps.Nodup → (∀ x ∈ ps, okSt x) → ps.length = m → Dr p O O' → Q (.lst (ps.map .int)) O'
theorem Dr.close {O O' : Own} {p q : Addr} (hq : O q = Option.none) (hqp : q ≠ p) (hd : Drw O' p) (k : ∀ x, x ≠ p → x ≠ q → O' x = O x) : Dr p O (delO O' q) := by
  obtain ⟨a, b, c, e⟩ := hd
  refine ⟨⟨a, b, c, by rw [delO_ne (Ne.symm hqp)]; exact e⟩, fun x hx => ?_⟩
  by_cases h : x = q
  · subst h; rw [delO_same, hq]
  · rw [delO_ne h]; exact k x hx h
/-- a hand as the law draws it -/
structure LHand (ws : List Str) (x0 : Int) (xs : List Step) : Prop where
  st : okSt x0
  steps : okSteps xs
  w : ∀ s ∈ xs, s.w ∈ ws
  pl : ∃ pl : List Int, pl.length ≤ 8 ∧ x0 ∈ pl ∧ ∀ s ∈ xs, s.b ∈ pl
def dLH (h : Int × List Step) : D := .tup [.int h.1, .lst (h.2.map dSt)]
def cLHand : Ct := fun ds O Q => ∃ (p : Addr) (ws : List Str) (most : Int), ds = [.raw p, .lst (ws.map .str), .int most] ∧ Drw O p ∧ ws ≠ [] ∧ ws.length ≤ 100 ∧ (∀ z ∈ ws, okName z) ∧ 1 ≤ most ∧ most ≤ 4 ∧
  ∀ (h : Int × List Step) (O' : Own), LHand ws h.1 h.2 → Dr p O O' → Q (dLH h) O'
/-- the law's plan -/
structure PlanR (mh mw : Int) (zs : List Str) (hs : List (Int × List Step)) (dil : List Int) : Prop where
  znd : zs.Nodup
  zok : ∀ z ∈ zs, okName z
  z1 : 1 ≤ zs.length
  z2 : (zs.length : Int) ≤ mw
  h1 : 1 ≤ hs.length
  h2 : (hs.length : Int) ≤ mh
  hands : ∀ h ∈ hs, LHand zs h.1 h.2
  dp : dil.Pairwise (· < ·)
  dr : ∀ i ∈ dil, 0 ≤ i ∧ i < hs.length
def dPlan (zs : List Str) (hs : List (Int × List Step)) (dil : List Int) : D := .tup [.lst (zs.map .str), .lst (hs.map dLH), .lst (dil.map .int)]
def cPlan : Ct := fun ds O Q => ∃ (ns : List Int) (mh ms mw : Int), ds = [.scr ns, .int mh, .int ms, .int mw] ∧ ns.length ≤ 63 ∧ 1 ≤ mh ∧ mh ≤ 4 ∧ 1 ≤ ms ∧ ms ≤ 4 ∧ 1 ≤ mw ∧ mw ≤ 8 ∧
  ∀ (zs : List Str) (hs : List (Int × List Step)) (dil : List Int), PlanR mh mw zs hs dil → Q (dPlan zs hs dil) O
theorem Sub.dr {O O1 O2 : Own} {p : Addr} (s : Sub O O1) (h : O p = Option.none) (d : Dr p O1 O2) : Sub O O2 := fun a c q => by
  have : a ≠ p := fun e => by subst e; rw [h] at q; cases q
  rw [d.o a this]; exact s a c q
theorem LHand.mono {ws zs : List Str} {x0 : Int} {xs : List Step} (h : LHand ws x0 xs) (hs : ∀ z ∈ ws, z ∈ zs) : LHand zs x0 xs := ⟨h.st, h.steps, fun s m => hs _ (h.w s m), h.pl⟩
/-! ### texts -/
theorem str_app_cps (a b : Str) : (a ++ b).cps.toList = a.cps.toList ++ b.cps.toList := by
  show (a.cps ++ b.cps).toList = _
  simp
theorem join_chars : ∀ cs : List Nat, (Txt.join Str.empty (cs.map fun c => (⟨#[c]⟩ : Str))).cps.toList = cs := by
  intro cs
  have e : Txt.join Str.empty (cs.map fun c => (⟨#[c]⟩ : Str)) = Str.join Str.empty (cs.map fun c => (⟨#[c]⟩ : Str)) := PySem.StrLaws.glued_eq_join _ _
  rw [e]
  clear e
  induction cs with
  | nil => rfl
  | cons c cs ih =>
    cases cs with
    | nil => rfl
    | cons d ds =>
      show ((⟨#[c]⟩ : Str) ++ Str.empty ++ Str.join Str.empty ((d :: ds).map fun c => (⟨#[c]⟩ : Str))).cps.toList = _
      rw [str_app_cps, str_app_cps, ih]; rfl
section
variable {X : Cx} {ρ : Env} {O : Own} {Q : DK} {o e : Expr} {apos pos : Pos}
theorem we_join (hs : starEach [e] X.env = [(false, eval e X.env)]) (hbase : attributeBase o "join" X.env (eval o X.env) = eval o X.env) (hline : (apos.endLine == pos.line) = true)
    (h : WE X o ρ O fun d O1 => ∃ a, d = .str a ∧ WE X e ρ O1 fun y O2 => ∃ ys : List Str, asL O2 y = some (ys.map .str) ∧ (ys.map (·.length)).sum + ys.length * a.length ≤ 16777216 ∧ Q (.str (Txt.join a ys)) O2) : WE X (.Call (.Attribute o "join" apos) [e] [] pos) ρ O Q := by
  intro F σ H R Ve k kk
  refine PE.to (pe_join pe_can pe_can hs hbase hline) ?_
  refine h F σ H _ Ve k fun F1 O1 H1 v d s1 k1 r q => ?_
  obtain ⟨a, rfl, q⟩ := q
  refine ⟨⟨a, rep_str r⟩, ?_⟩
  refine q F1 σ H1 _ (Ve.mono s1.fr) k1 fun F2 O2 H2 v2 y s2 k2 r2 q2 => ?_
  obtain ⟨ys, hy, sm, q2⟩ := q2
  obtain ⟨p, vs, rfl, hsq, hr⟩ := asL_of k2 r2 hy
  have e2 := reps_str_eq hr
  subst e2
  exact ⟨a, p, ys, rep_str r, rfl, hsq, sm, kk _ _ _ _ _ (s1.trans s2) k2 (.str _) q2⟩
end
end Sd

-- SdJ
/-! the law's own system: contracts -/
namespace Sd
open PySem PySem.Spec PyProof.Rows L2
/-- the law's hands are the system's -/
def Link (hs : List (Int × List Step)) (s : SysR) : Prop := s.hands.map (fun h => (h.start, h.steps)) = hs
theorem Link.len {hs : List (Int × List Step)} {s : SysR} (l : Link hs s) : hs.length = s.hands.length := by rw [← l, List.length_map]
theorem Link.at {hs : List (Int × List Step)} {s : SysR} (l : Link hs s) {k : Nat} {h : HandR} (e : s.hands[k]? = some h) : hs[k]? = some (h.start, h.steps) := by rw [← l, List.getElem?_map, e]; rfl
theorem Link.at' {hs : List (Int × List Step)} {s : SysR} (l : Link hs s) {k : Nat} (hk : k < hs.length) : ∃ h, s.hands[k]? = some h ∧ hs[k]? = some (h.start, h.steps) := by
  have h2 : k < s.hands.length := by rw [← l.len]; exact hk
  exact ⟨_, List.getElem?_eq_getElem h2, l.at (List.getElem?_eq_getElem h2)⟩
def lnum (xs : List Step) (x : Int) (z : Str) : List (Option Int) :=
  if z ∈ xs.map (·.w) then (List.range xs.length).filterMap fun i => match xs[i]? with | some s => if s.a = x ∧ s.w = z then some (some (i : Int)) else none | none => none else [none]
theorem mem_lnum {h : HandR} (ok : OkH h) {x : Int} {z : Str} {n : Option Int} : n ∈ lnum h.steps x z ↔ n ∈ nums h x z := by
  have hw : z ∈ h.steps.map (·.w) ↔ z ∈ h.words := by rw [ok.words.2.2, List.mem_map]
  unfold lnum nums
  by_cases hz : z ∈ h.words
  · rw [if_pos hz, if_pos (hw.mpr hz), List.mem_filterMap, List.mem_filterMap]
    constructor
    · rintro ⟨i, hi, e⟩
      cases hs : h.steps[i]? with
      | none => rw [hs] at e; cases e
      | some s =>
        rw [hs] at e
        exact ⟨(s, i), List.mem_zipIdx_iff_getElem?.mpr hs, e⟩
    · rintro ⟨⟨s, i⟩, hi, e⟩
      have hs : h.steps[i]? = some s := List.mem_zipIdx_iff_getElem?.mp hi
      exact ⟨i, List.mem_range.mpr (List.getElem?_eq_some_iff.mp hs).1, by rw [hs]; exact e⟩
  · rw [if_neg hz, if_neg fun h => hz (hw.mp h)]
theorem lnum_len {h : HandR} (ok : OkH h) (x : Int) (z : Str) : (lnum h.steps x z).length ≤ 4 := by
  unfold lnum
  split
  · have h4 := ok.steps.2.2.2.2 x
    refine Nat.le_trans ?_ h4
    have gen : ∀ (xs : List Step), ((List.range xs.length).filterMap fun i => match xs[i]? with | some s => if s.a = x ∧ s.w = z then some (some (i : Int)) else none | none => none).length ≤ (leav xs x).length := by
      intro xs
      have e : ((List.range xs.length).filterMap fun i => match xs[i]? with | some s => if s.a = x ∧ s.w = z then some (some (i : Int)) else none | none => none).length = ((List.range xs.length).filterMap fun i => match xs[i]? with | some s => if s.a = x ∧ s.w = z then some s else none | none => none).length := by
        generalize List.range xs.length = l
        induction l with
        | nil => rfl
        | cons i l ih =>
          rw [List.filterMap_cons, List.filterMap_cons]
          cases xs[i]? with
          | none => exact ih
          | some s =>
            by_cases c : s.a = x ∧ s.w = z
            · simp only [if_pos c, List.length_cons, ih]
            · simp only [if_neg c, ih]
      rw [e]
      have e2 : ((List.range xs.length).filterMap fun i => match xs[i]? with | some s => if s.a = x ∧ s.w = z then some s else none | none => none) = xs.filter fun s => decide (s.a = x ∧ s.w = z) := by
        have : ∀ ys : List Step, ((List.range ys.length).filterMap fun i => match ys[i]? with | some s => if s.a = x ∧ s.w = z then some s else none | none => none) = ys.filter fun s => decide (s.a = x ∧ s.w = z) := by
          intro ys
          induction ys with
          | nil => rfl
          | cons y ys ih =>
            rw [List.length_cons, List.range_succ_eq_map, List.filterMap_cons, List.filterMap_map]
            have e3 : (List.filterMap ((fun i => match (y :: ys)[i]? with | some s => if s.a = x ∧ s.w = z then some s else none | none => none) ∘ Nat.succ) (List.range ys.length)) = ys.filter fun s => decide (s.a = x ∧ s.w = z) := by
              rw [← ih]; rfl
            rw [e3, List.filter_cons]
            by_cases c : y.a = x ∧ y.w = z
            · simp [c]
            · simp [c]
        exact this xs
      rw [e2]
      unfold leav
      rw [← List.countP_eq_length_filter, ← List.countP_eq_length_filter]
      exact List.countP_mono_left fun s _ h => by simp at h ⊢; exact h.1
    exact gen h.steps
  · simp
section
variable (CH CS : Addr)
def cLSys : Ct := fun ds O Q => ∃ (zs : List Str) (hs : List (Int × List Step)) (dil : List Int), ds = [.lst (hs.map dLH), .lst (dil.map .int)] ∧ PlanR 4 8 zs hs dil ∧ ∀ t, OkSys t → Link hs t → (∀ x, x ∈ t.dil ↔ x ∈ dil) → Q (dSys CS CH t) O
end
def cLWords : Ct := fun ds O Q => ∃ (hs : List (Int × List Step)) (zs : List Str), ds = [.lst (hs.map dLH)] ∧ zs.length ≤ 12 ∧ (∀ h ∈ hs, ∀ s ∈ h.2, s.w ∈ zs) ∧
  ∀ ws : List Str, ws.Nodup → (∀ z, z ∈ ws ↔ ∃ h ∈ hs, ∃ s ∈ h.2, s.w = z) → Q (.lst (ws.map .str)) O
def cLNum : Ct := fun ds O Q => ∃ (h : Int × List Step) (x : Int) (z : Str), ds = [dLH h, .int x, .str z] ∧ h.2.length ≤ 100 ∧ (∀ s ∈ h.2, okName s.w) ∧ okName z ∧ Q (.lst ((lnum h.2 x z).map dOpt)) O
def cLBehind : Ct := fun ds O Q => ∃ (hs : List (Int × List Step)) (s : SysR) (p : List Int) (m : Move), ds = [.lst (hs.map dLH), dPl p, dMove m] ∧ Link hs s ∧ OkSys s ∧ Stand s p ∧ MoveOk s p m ∧ Q (dPl (led s p m)) O
end Sd

-- SdI
/-! the law's ways -/
namespace Sd
open PySem PySem.Spec PyProof.Rows L2
/-- a list of ours will not be written any more; its name knows it -/
theorem wss_frz {X : Cx} {st : List Stmt} {ρ : Env} {O : Own} {E : En} {q : Addr} {ds : List D} {i : Nat} (hi : ρ[i]? = some (some (.raw q))) (ho : O q = some (.lst ds)) (h : WSs X st (ρ.set i (some (.lst ds))) (delO O q) E) : WSs X st ρ O E := by
  intro F σ H Dn Ve k kk
  obtain ⟨F2, k2, s2, r2⟩ := k.freeze ho
  refine h F2 σ H Dn ⟨by rw [List.length_set]; exact Ve.len, fun j d q2 => ?_⟩ k2 (kk.fwd s2)
  rw [List.getElem?_set] at q2
  split at q2
  · rename_i e
    subst e
    split at q2
    · cases q2
      obtain ⟨v, hv, rv⟩ := Ve.at_ i _ hi
      rw [rep_raw rv] at hv
      exact ⟨_, hv, r2⟩
    · cases q2
  · obtain ⟨v, hv, rv⟩ := Ve.at_ j d q2
    exact ⟨v, hv, rv.mono s2.fr⟩
abbrev Way := Move × List Int
def dWay (v : Way) : D := .tup [dMove v.1, dPl v.2]
structure WaysOk (s : SysR) (p : List Int) (vs : List Way) : Prop where
  mv : ∀ v ∈ vs, MoveOk s p v.1 ∧ v.2 = led s p v.1
  all : ∀ k, AbleK s p k → ∃ v ∈ vs, ∃ i, v.1.nums[k]? = some (some i)
  len : vs.length ≤ 10000
  full : ∀ m, MoveOk s p m → ∃ v ∈ vs, v.1 = m
/-- the memo -/
def GroundOk (s : SysR) (O : Own) (g : Addr) : Prop := ∃ (G : List Int → Option D) (n : Nat) (ks : List (List Int)), O g = some (.dct G n) ∧ ks.Nodup ∧ n ≤ ks.length ∧ (∀ k ∈ ks, Stand s k ∧ ∃ d, G k = some d) ∧ ∀ p d, G p = some d → p ∈ ks ∧ ∃ vs, d = .lst (vs.map dWay) ∧ WaysOk s p vs
structure Gr2 (s : SysR) (g : Addr) (O O' : Own) : Prop where
  gr : GroundOk s O' g
  o : ∀ x, x ≠ g → O' x = O x
theorem Gr2.refl {s : SysR} {g : Addr} {O : Own} (h : GroundOk s O g) : Gr2 s g O O := ⟨h, fun _ _ => rfl⟩
theorem Gr2.trans {s : SysR} {g : Addr} {O O1 O2 : Own} (a : Gr2 s g O O1) (b : Gr2 s g O1 O2) : Gr2 s g O O2 := ⟨b.gr, fun x h => (b.o x h).trans (a.o x h)⟩
def cLWays : Ct := fun ds O Q => ∃ (hs : List (Int × List Step)) (s : SysR) (g : Addr) (p : List Int), ds = [.lst (hs.map dLH), .raw g, dPl p] ∧ Link hs s ∧ OkSys s ∧ Stand s p ∧ GroundOk s O g ∧
  ∀ (vs : List Way) (O' : Own), WaysOk s p vs → Gr2 s g O O' → Q (.lst (vs.map dWay)) O'
def cLAble : Ct := fun ds O Q => ∃ (hs : List (Int × List Step)) (s : SysR) (g : Addr) (p : List Int) (k : Nat), ds = [.lst (hs.map dLH), .raw g, dPl p, .int (k : Int)] ∧ Link hs s ∧ OkSys s ∧ Stand s p ∧ GroundOk s O g ∧ k < s.hands.length ∧
  ∀ (b : Bool) (O' : Own), (b = true ↔ AbleK s p k) → Gr2 s g O O' → Q (.bl b) O'
theorem len_sub' {α : Type} [BEq α] [LawfulBEq α] : ∀ {xs ys : List α}, xs.Nodup → (∀ x ∈ xs, x ∈ ys) → xs.length ≤ ys.length
  | [], _, _, _ => Nat.zero_le _
  | x :: xs, ys, hn, h => by
    obtain ⟨h1, h2⟩ := List.nodup_cons.mp hn
    have hx := h x List.mem_cons_self
    have := len_sub' (ys := ys.erase x) h2 fun z hz => (List.mem_erase_of_ne (fun e => h1 (by rw [← e]; exact hz))).mpr (h z (List.mem_cons_of_mem _ hz))
    rw [List.length_erase_of_mem hx] at this
    have := List.length_pos_of_mem hx
    rw [List.length_cons]; omega
/-! ### rows -/
def rowsX (hs : List (Int × List Step)) (p : List Int) (z : Str) : Nat → List (List (Option Int))
  | 0 => [[]]
  | k + 1 => (rowsX hs p z k).flatMap fun r => (lnum ((hs.getD k (0, [])).2) (p.getD k 0) z).map fun n => r ++ [n]
theorem rowsX_mem {hs : List (Int × List Step)} {p : List Int} {z : Str} : ∀ {k : Nat} {r : List (Option Int)}, r ∈ rowsX hs p z k → r.length = k ∧ ∀ (j : Nat) (n : Option Int), r[j]? = some n → n ∈ lnum ((hs.getD j (0, [])).2) (p.getD j 0) z
  | 0, r, h => by rw [List.mem_singleton.mp h]; exact ⟨rfl, fun j n e => by simp at e⟩
  | k + 1, r, h => by
    obtain ⟨r0, h0, h1⟩ := List.mem_flatMap.mp h
    obtain ⟨n, hn, rfl⟩ := List.mem_map.mp h1
    obtain ⟨l, ih⟩ := rowsX_mem h0
    refine ⟨by rw [List.length_append, l]; rfl, fun j m e => ?_⟩
    by_cases hj : j < r0.length
    · rw [List.getElem?_append_left hj] at e; exact ih j m e
    · have hj2 : j < (r0 ++ [n]).length := (List.getElem?_eq_some_iff.mp e).1
      rw [List.length_append] at hj2
      have : j = k := by simp at hj2; omega
      subst this
      rw [List.getElem?_append_right (by omega), l, Nat.sub_self] at e
      cases e; exact hn
theorem rowsX_all {hs : List (Int × List Step)} {p : List Int} {z : Str} (f : Nat → Option Int) : ∀ {k : Nat}, (∀ j, j < k → f j ∈ lnum ((hs.getD j (0, [])).2) (p.getD j 0) z) → (List.range k).map f ∈ rowsX hs p z k
  | 0, _ => by simp [rowsX]
  | k + 1, h => by
    rw [List.range_succ, List.map_append]
    exact List.mem_flatMap.mpr ⟨_, rowsX_all f fun j hj => h j (by omega), List.mem_map.mpr ⟨f k, h k (by omega), rfl⟩⟩
theorem rowsX_len {hs : List (Int × List Step)} {p : List Int} {z : Str} : ∀ {k : Nat}, (∀ j, j < k → (lnum ((hs.getD j (0, [])).2) (p.getD j 0) z).length ≤ 4) → (rowsX hs p z k).length ≤ 4 ^ k
  | 0, _ => by simp [rowsX]
  | k + 1, h => by
    have ih := rowsX_len (hs := hs) (p := p) (z := z) (k := k) fun j hj => h j (by omega)
    have gen : ∀ (L : List (List (Option Int))) (N : List (Option Int)), N.length ≤ 4 → (L.flatMap fun r => N.map fun n => r ++ [n]).length ≤ 4 * L.length := fun L N hN => by
      induction L with
      | nil => simp
      | cons r L ihL => rw [List.flatMap_cons, List.length_append, List.length_map, List.length_cons]; omega
    have := gen (rowsX hs p z k) _ (h k (by omega))
    show (List.flatMap _ (rowsX hs p z k)).length ≤ 4 ^ (k + 1)
    rw [Nat.pow_succ]; omega
def waysX (s : SysR) (hs : List (Int × List Step)) (p : List Int) (ws : List Str) : List Way := ws.flatMap fun z => (rowsX hs p z hs.length).map fun r => (⟨z, r⟩, led s p ⟨z, r⟩)
section
variable {s : SysR} {hs : List (Int × List Step)} {p : List Int}
theorem link_get (lk : Link hs s) (hp : Stand s p) {k : Nat} (hk : k < hs.length) : ∃ (h : HandR) (x : Int), s.hands[k]? = some h ∧ p[k]? = some x ∧ (hs.getD k (0, [])) = (h.start, h.steps) ∧ p.getD k 0 = x := by
  obtain ⟨h, h1, h2⟩ := lk.at' hk
  have hkp : k < p.length := by rw [hp.1, ← lk.len]; exact hk
  refine ⟨h, p[k], h1, List.getElem?_eq_getElem hkp, ?_, ?_⟩
  · rw [List.getD_eq_getElem?_getD, h2]; rfl
  · rw [List.getD_eq_getElem?_getD, List.getElem?_eq_getElem hkp]; rfl
theorem row_move (lk : Link hs s) (ok : OkSys s) (hp : Stand s p) {z : Str} (hz : z ∈ s.words) {r : List (Option Int)} (hr : r ∈ rowsX hs p z hs.length) : MoveOk s p ⟨z, r⟩ := by
  obtain ⟨l, h⟩ := rowsX_mem hr
  refine ⟨hz, by show r.length = _; rw [l, lk.len], fun k hd x n h1 h2 h3 => ?_⟩
  have hk : k < hs.length := by rw [lk.len]; exact (List.getElem?_eq_some_iff.mp h1).1
  obtain ⟨h', x', e1, e2, e3, e4⟩ := link_get lk hp hk
  rw [h1] at e1; cases e1
  rw [h2] at e2; cases e2
  have := h k n h3
  rw [e3, e4] at this
  exact (mem_lnum (ok.hands hd (List.mem_of_getElem? h1))).mp this
theorem able_row (lk : Link hs s) (ok : OkSys s) (hp : Stand s p) {z : Str} (hf : Free s p z) {k : Nat} {h : HandR} (hk : s.hands[k]? = some h) (hz : z ∈ h.words) : ∃ r ∈ rowsX hs p z hs.length, ∃ i, r[k]? = some (some i) := by
  have pick : ∀ j, ∃ n : Option Int, j < hs.length → n ∈ lnum ((hs.getD j (0, [])).2) (p.getD j 0) z ∧ (j = k → ∃ i, n = some i) := fun j => by
    by_cases hj : j < hs.length
    · obtain ⟨h', x', e1, e2, e3, e4⟩ := link_get lk hp hj
      have oh := ok.hands h' (List.mem_of_getElem? e1)
      by_cases hzz : z ∈ h'.words
      · obtain ⟨n, hn⟩ := List.exists_mem_of_ne_nil _ (hf j h' x' e1 e2 hzz)
        refine ⟨n, fun _ => ⟨by rw [e3, e4]; exact (mem_lnum oh).mpr hn, fun _ => ?_⟩⟩
        rcases nums_mem hn with ⟨_, e⟩ | ⟨i, st, e, _⟩
        · exact absurd hzz e
        · exact ⟨_, e⟩
      · refine ⟨none, fun _ => ⟨by rw [e3, e4]; refine (mem_lnum oh).mpr ?_; unfold nums; rw [if_neg hzz]; exact List.mem_singleton.mpr rfl, fun e => ?_⟩⟩
        subst e
        rw [hk] at e1; cases e1
        exact absurd hz hzz
    · exact ⟨none, fun h => absurd h hj⟩
  obtain ⟨f, hfx⟩ := Classical.axiomOfChoice pick
  refine ⟨(List.range hs.length).map f, rowsX_all f fun j hj => (hfx j hj).1, ?_⟩
  have hkl : k < hs.length := by rw [lk.len]; exact (List.getElem?_eq_some_iff.mp hk).1
  obtain ⟨i, hi⟩ := (hfx k hkl).2 rfl
  exact ⟨i, by rw [List.getElem?_map, List.getElem?_range hkl, ← hi]; rfl⟩
theorem waysX_ok (lk : Link hs s) (ok : OkSys s) (hp : Stand s p) {ws : List Str} (hw : ∀ z, z ∈ ws ↔ z ∈ s.words) (nd : ws.Nodup) : WaysOk s p (waysX s hs p ws) := by
  refine ⟨fun v hv => ?_, fun k hk => ?_, ?_, fun m hm => ?_⟩
  rotate_right
  · have hr : m.nums ∈ rowsX hs p m.w hs.length := by
      have e : m.nums = (List.range hs.length).map fun j => m.nums.getD j none := by
        apply List.ext_getElem?
        intro j
        rw [List.getElem?_map]
        by_cases hj : j < hs.length
        · have hjm : j < m.nums.length := by rw [hm.len, ← lk.len]; exact hj
          rw [List.getElem?_range hj, List.getElem?_eq_getElem hjm]
          show _ = some (m.nums.getD j none)
          rw [List.getD_eq_getElem?_getD, List.getElem?_eq_getElem hjm]; rfl
        · rw [List.getElem?_eq_none (by rw [hm.len, ← lk.len]; omega), List.getElem?_eq_none (by rw [List.length_range]; omega)]; rfl
      rw [e]
      refine rowsX_all _ fun j hj => ?_
      obtain ⟨h', x', e1, e2, e3, e4⟩ := link_get lk hp hj
      have hjm : j < m.nums.length := by rw [hm.len, ← lk.len]; exact hj
      have hn := List.getElem?_eq_getElem hjm
      have : m.nums.getD j none = m.nums[j] := by rw [List.getD_eq_getElem?_getD, hn]; rfl
      rw [this, e3, e4]
      exact (mem_lnum (ok.hands h' (List.mem_of_getElem? e1))).mpr (hm.num j h' x' _ e1 e2 hn)
    exact ⟨(m, led s p m), List.mem_flatMap.mpr ⟨m.w, (hw m.w).mpr hm.w, List.mem_map.mpr ⟨m.nums, hr, rfl⟩⟩, rfl⟩
  · obtain ⟨z, hz, h1⟩ := List.mem_flatMap.mp hv
    obtain ⟨r, hr, rfl⟩ := List.mem_map.mp h1
    exact ⟨row_move lk ok hp ((hw z).mp hz) hr, rfl⟩
  · obtain ⟨z, hz, hf, h, h1, h2⟩ := hk
    obtain ⟨r, hr, i, hi⟩ := able_row lk ok hp hf h1 h2
    exact ⟨(⟨z, r⟩, led s p ⟨z, r⟩), List.mem_flatMap.mpr ⟨z, (hw z).mpr hz, List.mem_map.mpr ⟨r, hr, rfl⟩⟩, i, hi⟩
  · have l12 : ws.length ≤ 12 := Nat.le_trans (len_sub' nd fun z hz => (hw z).mp hz) ok.wl
    have l256 : ∀ z, (rowsX hs p z hs.length).length ≤ 256 := fun z => by
      have h4 : hs.length ≤ 4 := by rw [lk.len]; exact ok.hi
      have := rowsX_len (hs := hs) (p := p) (z := z) (k := hs.length) fun j hj => by
        obtain ⟨h', x', e1, e2, e3, e4⟩ := link_get lk hp hj
        rw [e3]
        exact lnum_len (ok.hands h' (List.mem_of_getElem? e1)) _ _
      exact Nat.le_trans this (Nat.pow_le_pow_right (by decide) h4)
    have gen : ∀ us : List Str, (waysX s hs p us).length ≤ 256 * us.length := fun us => by
      induction us with
      | nil => simp [waysX]
      | cons u us ih =>
        show (List.flatMap _ (u :: us)).length ≤ _
        rw [List.flatMap_cons, List.length_append, List.length_map, List.length_cons]
        have := l256 u
        have ih' : (List.flatMap (fun z => (rowsX hs p z hs.length).map fun r => ((⟨z, r⟩, led s p ⟨z, r⟩) : Way)) us).length ≤ 256 * us.length := ih
        omega
    have := gen ws
    omega
theorem able_of_move (ok : OkSys s) {m : Move} (hm : MoveOk s p m) (hp : Stand s p) {k : Nat} {i : Int} (h : m.nums[k]? = some (some i)) : AbleK s p k := by
  have hk : k < s.hands.length := by rw [← hm.len]; exact (List.getElem?_eq_some_iff.mp h).1
  refine ⟨m.w, hm.w, fun j hd x h1 h2 hz e => ?_, s.hands[k], List.getElem?_eq_getElem hk, ?_⟩
  · have hj : j < m.nums.length := by rw [hm.len]; exact (List.getElem?_eq_some_iff.mp h1).1
    have := hm.num j hd x _ h1 h2 (List.getElem?_eq_getElem hj)
    rw [e] at this; cases this
  · have hkp : k < p.length := by rw [hp.1]; exact hk
    have := hm.num k _ _ _ (List.getElem?_eq_getElem hk) (List.getElem?_eq_getElem hkp) h
    rcases nums_mem this with ⟨e, _⟩ | ⟨_, _, _, _, _, _, hz⟩
    · cases e
    · exact hz
end
/-! ### few standings -/
def prodL : List (List Int) → List (List Int)
  | [] => [[]]
  | x :: r => x.flatMap fun a => (prodL r).map fun t => a :: t
theorem prodL_mem : ∀ {xs : List (List Int)} {t : List Int}, t.length = xs.length → (∀ (k : Nat) (a : Int) (x : List Int), t[k]? = some a → xs[k]? = some x → a ∈ x) → t ∈ prodL xs
  | [], t, hl, _ => by cases t with | nil => simp [prodL] | cons => simp at hl
  | x :: r, t, hl, h => by
    cases t with
    | nil => simp at hl
    | cons a t =>
      exact List.mem_flatMap.mpr ⟨a, h 0 a x rfl rfl, List.mem_map.mpr ⟨t, prodL_mem (by simpa using hl) fun k b y h1 h2 => h (k + 1) b y (by simpa using h1) (by simpa using h2), rfl⟩⟩
theorem prodL_len : ∀ {xs : List (List Int)}, (∀ x ∈ xs, x.length ≤ 8) → (prodL xs).length ≤ 8 ^ xs.length
  | [], _ => by simp [prodL]
  | x :: r, h => by
    have ih := prodL_len (xs := r) fun y hy => h y (List.mem_cons_of_mem _ hy)
    have hx := h x List.mem_cons_self
    have gen : ∀ us : List Int, (us.flatMap fun a => (prodL r).map fun t => a :: t).length = us.length * (prodL r).length := fun us => by
      induction us with
      | nil => simp
      | cons u us ihu => rw [List.flatMap_cons, List.length_append, List.length_map, ihu, List.length_cons, Nat.succ_mul]; omega
    show (List.flatMap _ x).length ≤ _
    rw [gen, List.length_cons, Nat.pow_succ]
    calc x.length * (prodL r).length ≤ 8 * (8 ^ r.length) := Nat.mul_le_mul hx ih
      _ = 8 ^ r.length * 8 := Nat.mul_comm _ _
theorem few {s : SysR} (ok : OkSys s) {ks : List (List Int)} (nd : ks.Nodup) (h : ∀ k ∈ ks, Stand s k) : ks.length ≤ 4096 := by
  have h1 := len_sub' (ys := prodL (s.hands.map (·.states))) nd fun t ht => by
    have st := h t ht
    refine prodL_mem (by rw [List.length_map]; exact st.1) fun k a x e1 e2 => ?_
    rw [List.getElem?_map] at e2
    cases e3 : s.hands[k]? with
    | none => rw [e3] at e2; cases e2
    | some hd =>
      rw [e3] at e2; cases e2
      exact st.2 k hd a e3 e1
  have h2 := prodL_len (xs := s.hands.map (·.states)) fun x hx => by
    obtain ⟨hd, h3, rfl⟩ := List.mem_map.mp hx
    exact (ok.hands hd h3).sl
  rw [List.length_map] at h2
  have h3 : 8 ^ s.hands.length ≤ 8 ^ 4 := Nat.pow_le_pow_right (by decide) ok.hi
  have : (8 : Nat) ^ 4 = 4096 := by decide
  omega
end Sd

-- SdU
/-! the rest of the law: contracts -/
namespace Sd
open PySem PySem.Spec PyProof.Rows L2
def cRove : Ct := fun ds O Q => ∃ (ns : List Int) (a b : Nat) (hs : List (Int × List Step)) (g : Addr) (s : SysR), ds = [.scr ns, .int (a : Int), .int (b : Int), .lst (hs.map dLH), .raw g] ∧ ns.length ≤ 63 ∧ a ≤ 100 ∧ b ≤ 100 ∧ Link hs s ∧ OkSys s ∧ GroundOk s O g ∧
  ∀ (ms : List Move) (O' : Own), RunOk s s.start ms → ms.length ≤ 200 → Gr2 s g O O' → Q (.tup [.tup (ms.map dMove), .lst ((walkP s s.start ms).map dPl)]) O'
def cCut : Ct := fun ds O Q => ∃ (p : Addr) (ps : List (List Int)), ds = [.raw p, .lst (ps.map dPl)] ∧ Drw O p ∧ ps ≠ [] ∧ ps.length ≤ 1000 ∧
  ∀ (a b : Nat) (O' : Own), a ≤ b → b < ps.length → ps[a]? = ps[b]? → Dr p O O' → Q (.tup [.int (a : Int), .int (b : Int)]) O'
def cKeen : Ct := fun ds O Q => ∃ (p : Addr) (n : Nat), ds = [.raw p, .int (n : Int)] ∧ Drw O p ∧ n ≤ 4 ∧ ∀ (ks : List Int) (O' : Own), ks.Nodup → (∀ x ∈ ks, 0 ≤ x ∧ x < n) → Dr p O O' → Q (.lst (ks.map .int)) O'
def cForm : Ct := fun ds O Q => ∃ (p : Addr) (ks : List Int) (n : Nat), ds = [.raw p, .lst (ks.map .int), .int (n : Int)] ∧ Drw O p ∧
  ∀ (d : D) (O' : Own), ((d = .non ∧ ks.length = n) ∨ d = .tup (ks.map .int) ∨ d = .lst (ks.map .int)) → Dr p O O' → Q d O'
/-- the clauses -/
def Due (s : SysR) (dil keen : List Int) (ps : List (List Int)) (loop : List Move) : Prop := ps.head? = ps.getLast? ∧ ∀ k : Nat, k < s.hands.length →
  ((k : Int) ∈ keen → (∃ p ∈ ps, AbleK s p k) → takes loop k) ∧ ((k : Int) ∈ dil → (∀ p ∈ ps, AbleK s p k) → takes loop k)
def cDue : Ct := fun ds O Q => ∃ (hs : List (Int × List Step)) (s : SysR) (g : Addr) (dil keen : List Int) (dk : D) (ps : List (List Int)) (loop : List Move),
  ds = [.lst (hs.map dLH), .raw g, .lst (dil.map .int), dk, .lst (ps.map dPl), .tup (loop.map dMove)] ∧ Link hs s ∧ OkSys s ∧ GroundOk s O g ∧ (∀ O', Gr2 s g O O' → asL O' dk = some (keen.map .int)) ∧ ps ≠ [] ∧ ps.length ≤ 1000 ∧ (∀ p ∈ ps, Stand s p) ∧
  loop.length ≤ 1000 ∧ (∀ m ∈ loop, m.nums.length = s.hands.length) ∧ ∀ (b : Bool) (O' : Own), (b = true ↔ Due s dil keen ps loop) → Gr2 s g O O' → Q (.bl b) O'
/-- what holds for a plan, a walk, a place -/
def cHolds (CH CS : Addr) : Ct := fun ds O Q => ∃ (hs : List (Int × List Step)) (s : SysR) (g st : Addr) (dil : List Int) (ms : List Move) (a b : Nat),
  ds = [.tup [.lst (hs.map dLH), .raw g, .lst (dil.map .int)], dSys CS CH s, .raw st, .tup [.tup (ms.map dMove), .lst ((walkP s s.start ms).map dPl)], .int (a : Int), .int (b : Int)] ∧ Link hs s ∧ OkSys s ∧ (∀ x, x ∈ s.dil ↔ x ∈ dil) ∧ dil.length ≤ 4 ∧ GroundOk s O g ∧ Drw O st ∧ st ≠ g ∧
  RunOk s s.start ms ∧ ms.length ≤ 200 ∧ a ≤ b ∧ b ≤ ms.length ∧ ∀ O', GroundOk s O' g → Drw O' st → (∀ x, x ≠ g → x ≠ st → O' x = O x) → Q (.bl true) O'
def cLaw : Ct := fun ds O Q => ∃ ns : List Int, ds = [.scr ns] ∧ ns.length ≤ 63 ∧ Q (.bl true) O
/-! ### plain facts -/
theorem endP_snoc (s : SysR) (p : List Int) (ms : List Move) (m : Move) : endP s p (ms ++ [m]) = led s (endP s p ms) m := by unfold endP; rw [List.foldl_append]; rfl
theorem RunOk.snoc {s : SysR} (ok : OkSys s) : ∀ {ms : List Move} {p : List Int} {m : Move}, RunOk s p ms → MoveOk s (endP s p ms) m → RunOk s p (ms ++ [m])
  | [], p, m, h, hm => ⟨h, hm, led_ok ok h hm⟩
  | x :: ms, p, m, h, hm => ⟨h.1, h.2.1, RunOk.snoc ok (ms := ms) (p := led s p x) h.2.2 hm⟩
theorem RunOk.endS {s : SysR} : ∀ {ms : List Move} {p : List Int}, RunOk s p ms → Stand s (endP s p ms)
  | [], p, h => h
  | x :: ms, p, h => RunOk.endS (ms := ms) (p := led s p x) h.2.2
theorem RunOk.pre {s : SysR} : ∀ {as : List Move} {p : List Int} {bs : List Move}, RunOk s p (as ++ bs) → RunOk s p as
  | [], p, bs, h => by
    cases bs with
    | nil => exact h
    | cons b bs => exact h.1
  | a :: as, p, bs, h => ⟨h.1, h.2.1, RunOk.pre (as := as) (p := led s p a) (bs := bs) h.2.2⟩
theorem walkP_at (s : SysR) : ∀ (ms : List Move) (p : List Int) (i : Nat), i ≤ ms.length → (walkP s p ms)[i]? = some (endP s p (ms.take i))
  | ms, p, 0, _ => by cases ms <;> rfl
  | [], p, i + 1, h => by simp at h
  | m :: ms, p, i + 1, h => walkP_at s ms (led s p m) i (by simpa using h)
theorem walkP_take (s : SysR) : ∀ (ms : List Move) (p : List Int) (n : Nat), n ≤ ms.length → (walkP s p ms).take (n + 1) = walkP s p (ms.take n)
  | ms, p, 0, _ => by cases ms <;> rfl
  | [], p, n + 1, h => by simp at h
  | m :: ms, p, n + 1, h => by
    show (p :: walkP s (led s p m) ms).take (n + 1 + 1) = p :: walkP s (led s p m) (ms.take n)
    rw [List.take_succ_cons, walkP_take s ms _ n (by simpa using h)]
/-- the part of the walk from a to b is the way round -/
theorem walk_part (s : SysR) (ms : List Move) {a b : Nat} (hab : a ≤ b) (hb : b ≤ ms.length) : ((walkP s s.start ms).drop a).take (b + 1 - a) = around s (ms.take a) ((ms.drop a).take (b - a)) := by
  have e : ms.take a ++ (ms.drop a).take (b - a) = ms.take b := by
    have : b = a + (b - a) := by omega
    conv => rhs; rw [this]
    rw [List.take_add]
  unfold around
  rw [e, ← walkP_take s ms s.start b hb, List.length_take, Nat.min_eq_left (by omega), List.drop_take]
theorem Drw.gr {s : SysR} {O O' : Own} {p g : Addr} (h : Drw O p) (hpg : p ≠ g) (d : Gr2 s g O O') : Drw O' p := by
  obtain ⟨a, b, c, e⟩ := h
  exact ⟨a, b, c, by rw [d.o p hpg]; exact e⟩
theorem GroundOk.of {s : SysR} {O O' : Own} {g : Addr} (h : GroundOk s O g) (e : O' g = O g) : GroundOk s O' g := by
  obtain ⟨G, n, ks, h1, h2⟩ := h
  exact ⟨G, n, ks, e.trans h1, h2⟩
theorem GroundOk.ne {s : SysR} {O : Own} {p g : Addr} (h : GroundOk s O g) (hp : Drw O p) : p ≠ g := fun e => by
  obtain ⟨G, n, ks, h1, _⟩ := h
  obtain ⟨a, b, c, h2⟩ := hp
  rw [e, h1] at h2; cases h2
theorem GroundOk.here {s : SysR} {O : Own} {q g : Addr} (h : GroundOk s O g) (hq : O q = none) : q ≠ g := fun e => by
  obtain ⟨G, n, ks, h1, _⟩ := h
  rw [e, h1] at hq; cases hq
/-- bools among themselves -/
theorem in_b {K : PySem.W.Frag} {O : Own} {Q : DK} {a : Bool} {xs : List Bool} [Decidable (a ∈ xs)] {y : D} (hy : asL O y = some (xs.map .bl)) (h : Q (.bl (decide (a ∈ xs))) O) : lR K (rInU K false) (.bl a) y O Q :=
  in_fl (fun _ => rfl) (fun a b => by cases a <;> cases b <;> rfl) hy h
theorem nin_b {K : PySem.W.Frag} {O : Own} {Q : DK} {a : Bool} {xs : List Bool} [Decidable (a ∈ xs)] {y : D} (hy : asL O y = some (xs.map .bl)) (h : Q (.bl (!decide (a ∈ xs))) O) : lR K (rInU K true) (.bl a) y O Q :=
  in_fl (fun _ => rfl) (fun a b => by cases a <;> cases b <;> rfl) hy h
def mixO (O O' : Own) (g : Addr) : Own := fun x => if x = g then O' g else O x
theorem mixO_sub {O O' : Own} {g : Addr} (h : ∀ x c, x ≠ g → O x = some c → O' x = some c) : Sub (mixO O O' g) O' := fun x c e => by
  unfold mixO at e
  by_cases z : x = g
  · rw [if_pos z] at e; rw [z]; exact e
  · rw [if_neg z] at e; exact h x c z e
theorem mixO_gr {s : SysR} {O O' : Own} {g : Addr} (h : GroundOk s O' g) : Gr2 s g O (mixO O O' g) := ⟨h.of (by unfold mixO; rw [if_pos rfl]), fun x hx => by unfold mixO; rw [if_neg hx]⟩
def mix2 (O O' : Own) (g p : Addr) : Own := fun x => if x = g then O' g else if x = p then O' p else O x
theorem mix2_sub {O O' : Own} {g p : Addr} (h : ∀ x c, x ≠ g → x ≠ p → O x = some c → O' x = some c) : Sub (mix2 O O' g p) O' := fun x c e => by
  unfold mix2 at e
  by_cases z : x = g
  · rw [if_pos z] at e; rw [z]; exact e
  · rw [if_neg z] at e
    by_cases y : x = p
    · rw [if_pos y] at e; rw [y]; exact e
    · rw [if_neg y] at e; exact h x c z y e
theorem mix2_g {O O' : Own} {g p : Addr} : mix2 O O' g p g = O' g := if_pos rfl
theorem mix2_p {O O' : Own} {g p : Addr} (h : p ≠ g) : mix2 O O' g p p = O' p := by unfold mix2; rw [if_neg h, if_pos rfl]
theorem mix2_o {O O' : Own} {g p x : Addr} (h : x ≠ g) (h2 : x ≠ p) : mix2 O O' g p x = O x := by unfold mix2; rw [if_neg h, if_neg h2]
theorem Drw.of {O O' : Own} {p : Addr} (h : Drw O p) (e : O' p = O p) : Drw O' p := by
  obtain ⟨a, b, c, z⟩ := h
  exact ⟨a, b, c, e.trans z⟩
theorem keen_due {s : SysR} (ok : OkSys s) {dil ks : List Int} (hd : ∀ x, x ∈ s.dil ↔ x ∈ dil) (hk : ∀ x ∈ ks, 0 ≤ x ∧ x < s.hands.length) (stem loop : List Move) : KeenFair s ks stem loop ↔ Due s dil ks (around s stem loop) loop := by
  unfold KeenFair Due
  constructor
  · rintro ⟨h1, h2, h3⟩
    exact ⟨h1.symm, fun k _ => ⟨h3 k, fun h => h2 k ((hd _).mpr h)⟩⟩
  · rintro ⟨h1, h2⟩
    refine ⟨h1.symm, fun k hk2 => (h2 k ?_).2 ((hd _).mp hk2), fun k hk2 => (h2 k ?_).1 hk2⟩
    · have := ok.dilr _ hk2; omega
    · have := hk _ hk2; omega
theorem all_in {ks : List Int} {n : Nat} (nd : ks.Nodup) (h : ∀ x ∈ ks, 0 ≤ x ∧ x < n) (hl : ks.length = n) : ∀ x : Int, x ∈ ks ↔ x ∈ (List.range n).map fun (i : Nat) => (i : Int) := fun x => by
  constructor
  · intro hx
    have := h x hx
    exact List.mem_map.mpr ⟨x.toNat, List.mem_range.mpr (by omega), by omega⟩
  · intro hx
    refine Classical.byContradiction fun hn => ?_
    obtain ⟨k, hk, rfl⟩ := List.mem_map.mp hx
    have hk := List.mem_range.mp hk
    have := len_sub' (xs := (k : Int) :: ks) (ys := (List.range n).map fun (i : Nat) => (i : Int)) (List.nodup_cons.mpr ⟨hn, nd⟩) fun y hy => by
      rcases List.mem_cons.mp hy with e | e
      · rw [e]; exact hx
      · have := h y e
        exact List.mem_map.mpr ⟨y.toNat, List.mem_range.mpr (by omega), by omega⟩
    rw [List.length_cons, List.length_map, List.length_range] at this
    omega
theorem wt_mono {X : Cx} {e : Expr} {ρ : Env} {O : Own} {Q Q' : Bool → Own → Prop} (h : WT X e ρ O Q) (k : ∀ b O', Q b O' → Q' b O') : WT X e ρ O Q' := fun F σ H R Ve ok kk => h F σ H R Ve ok fun F' O' H' b s k' q => kk F' O' H' b s k' (k b O' q)
end Sd

-- SdPl
/-! keenly fair, told otherwise: plain -/
namespace Sd
open PySem PySem.Spec PyProof.Rows L2
/-- keenly fair round a loop from p -/
def KF (s : SysR) (dil keen : List Int) (p : List Int) (loop : List Move) : Prop := endP s p loop = p ∧
  (∀ k : Nat, (k : Int) ∈ dil → (∀ q ∈ walkP s p loop, AbleK s q k) → takes loop k) ∧ ∀ k : Nat, (k : Int) ∈ keen → (∃ q ∈ walkP s p loop, AbleK s q k) → takes loop k
theorem keen_KF {s : SysR} {keen : List Int} {stem loop : List Move} : KeenFair s keen stem loop ↔ KF s s.dil keen (endP s s.start stem) loop := by
  unfold KeenFair KF
  rw [around_eq, walkP_last]
  have : (walkP s (endP s s.start stem) loop).head? = some (endP s s.start stem) := by cases loop <;> rfl
  rw [this, Option.some.injEq]
theorem endP_app (s : SysR) (p : List Int) (a b : List Move) : endP s p (a ++ b) = endP s (endP s p a) b := by unfold endP; rw [List.foldl_append]
theorem walkP_head (s : SysR) (p : List Int) (a : List Move) : p ∈ walkP s p a := by cases a <;> simp [walkP]
theorem walkP_end (s : SysR) (p : List Int) (a : List Move) : endP s p a ∈ walkP s p a := List.mem_of_getLast? (walkP_last s a p)
theorem walkP_app (s : SysR) : ∀ (a : List Move) (p : List Int) (b : List Move) (q : List Int), q ∈ walkP s p (a ++ b) ↔ q ∈ walkP s p a ∨ q ∈ walkP s (endP s p a) b
  | [], p, b, q => by
    show q ∈ walkP s p b ↔ q ∈ [p] ∨ q ∈ walkP s p b
    constructor
    · exact .inr
    · rintro (h | h)
      · rw [List.mem_singleton.mp h]; exact walkP_head s p b
      · exact h
  | m :: a, p, b, q => by
    show q ∈ p :: walkP s (led s p m) (a ++ b) ↔ q ∈ p :: walkP s (led s p m) a ∨ q ∈ walkP s (endP s (led s p m) a) b
    rw [List.mem_cons, List.mem_cons, walkP_app s a (led s p m) b q]
    constructor
    · rintro (h | h | h)
      · exact .inl (.inl h)
      · exact .inl (.inr h)
      · exact .inr h
    · rintro ((h | h) | h)
      · exact .inl h
      · exact .inr (.inl h)
      · exact .inr (.inr h)
theorem takes_app {a b : List Move} {k : Nat} : takes (a ++ b) k ↔ takes a k ∨ takes b k := by
  unfold takes
  constructor
  · rintro ⟨m, h, r⟩
    rcases List.mem_append.mp h with h | h
    · exact .inl ⟨m, h, r⟩
    · exact .inr ⟨m, h, r⟩
  · rintro (⟨m, h, r⟩ | ⟨m, h, r⟩)
    · exact ⟨m, List.mem_append_left _ h, r⟩
    · exact ⟨m, List.mem_append_right _ h, r⟩
/-- the same standings, the same hands taken along -/
theorem KF_of {s : SysR} {dil keen : List Int} {p p' : List Int} {a b : List Move} (e1 : endP s p a = p) (e2 : endP s p' b = p') (hw : ∀ q, q ∈ walkP s p' b ↔ q ∈ walkP s p a) (ht : ∀ k, takes b k ↔ takes a k) : KF s dil keen p' b ↔ KF s dil keen p a := by
  unfold KF
  simp only [hw, ht, e1, e2]
theorem KF_twice {s : SysR} {dil keen : List Int} {p : List Int} {a : List Move} (e : endP s p a = p) : KF s dil keen p (a ++ a) ↔ KF s dil keen p a :=
  KF_of e (by rw [endP_app, e, e]) (fun q => by rw [walkP_app, e]; exact or_self_iff) fun k => by rw [takes_app]; exact or_self_iff
theorem endP_many {s : SysR} {p : List Int} {a : List Move} (e : endP s p a = p) : ∀ n, endP s p (List.replicate n a).flatten = p
  | 0 => rfl
  | n + 1 => by rw [List.replicate_succ, List.flatten_cons, endP_app, e]; exact endP_many e n
theorem KF_many {s : SysR} {dil keen : List Int} {p : List Int} {a : List Move} (e : endP s p a = p) (n : Nat) : KF s dil keen p (List.replicate (n + 1) a).flatten ↔ KF s dil keen p a := by
  have hw : ∀ n q, q ∈ walkP s p (List.replicate (n + 1) a).flatten ↔ q ∈ walkP s p a := fun n => by
    induction n with
    | zero => intro q; simp
    | succ n ih => intro q; rw [List.replicate_succ, List.flatten_cons, walkP_app, e, ih]; exact or_self_iff
  have ht : ∀ n k, takes (List.replicate (n + 1) a).flatten k ↔ takes a k := fun n => by
    induction n with
    | zero => intro k; simp
    | succ n ih => intro k; rw [List.replicate_succ, List.flatten_cons, takes_app, ih]; exact or_self_iff
  exact KF_of e (endP_many e _) (hw n) (ht n)
theorem KF_turn {s : SysR} {dil keen : List Int} {p : List Int} {a b : List Move} (e : endP s p (a ++ b) = p) : KF s dil keen (endP s p a) (b ++ a) ↔ KF s dil keen p (a ++ b) := by
  have e' : endP s (endP s p a) b = p := by rw [← endP_app]; exact e
  refine KF_of e (by rw [endP_app, e']) (fun q => ?_) fun k => by rw [takes_app, takes_app]; exact Or.comm
  rw [walkP_app, walkP_app, e']; exact Or.comm
/-- keen hands diligent, too, or lazy -/
theorem KF_dil {s : SysR} {dil dil' keen : List Int} {p : List Int} {a : List Move} (h : ∀ k : Nat, (k : Int) ∉ keen → ((k : Int) ∈ dil' ↔ (k : Int) ∈ dil)) : KF s dil' keen p a ↔ KF s dil keen p a := by
  have one : ∀ {d d' : List Int}, (∀ k : Nat, (k : Int) ∉ keen → (k : Int) ∈ d' → (k : Int) ∈ d) → KF s d keen p a → KF s d' keen p a := fun {d d'} hd ⟨h1, h2, h3⟩ => by
    refine ⟨h1, fun k hk hall => ?_, h3⟩
    by_cases hkk : (k : Int) ∈ keen
    · exact h3 k hkk ⟨p, walkP_head s p a, hall p (walkP_head s p a)⟩
    · exact h2 k (hd k hkk hk) hall
  exact ⟨one fun k hk => (h k hk).mpr, one fun k hk => (h k hk).mp⟩
end Sd

-- SdPm
/-! a system started elsewhere; contracts of k79 -/
namespace Sd
open PySem PySem.Spec PyProof.Rows L2
/-- the same steps, hand by hand; the starts may differ -/
structure SameK (s t : SysR) : Prop where
  len : t.hands.length = s.hands.length
  at_ : ∀ (k : Nat) (h g : HandR), s.hands[k]? = some h → t.hands[k]? = some g → g.steps = h.steps ∧ ∀ z, z ∈ g.words ↔ z ∈ h.words
  w : ∀ z, z ∈ t.words ↔ z ∈ s.words
theorem SameK.get {s t : SysR} (e : SameK s t) {k : Nat} {h : HandR} (hk : s.hands[k]? = some h) : ∃ g, t.hands[k]? = some g ∧ g.steps = h.steps ∧ ∀ z, z ∈ g.words ↔ z ∈ h.words := by
  have hl : k < t.hands.length := by rw [e.len]; exact (List.getElem?_eq_some_iff.mp hk).1
  exact ⟨_, List.getElem?_eq_getElem hl, e.at_ k h _ hk (List.getElem?_eq_getElem hl)⟩
theorem SameK.symm {s t : SysR} (e : SameK s t) : SameK t s := ⟨e.len.symm, fun k h g h1 h2 => let ⟨a, b⟩ := e.at_ k g h h2 h1; ⟨a.symm, fun z => (b z).symm⟩, fun z => (e.w z).symm⟩
theorem nums_same {h g : HandR} (e1 : g.steps = h.steps) (e2 : ∀ z, z ∈ g.words ↔ z ∈ h.words) (x : Int) (z : Str) : nums g x z = nums h x z := by
  unfold nums
  rw [e1]
  by_cases hz : z ∈ h.words
  · rw [if_pos hz, if_pos ((e2 z).mpr hz)]
  · rw [if_neg hz, if_neg fun c => hz ((e2 z).mp c)]
theorem led1_same {h g : HandR} (e : g.steps = h.steps) (x : Int) (n : Option Int) : led1 g x n = led1 h x n := by
  cases n with
  | none => rfl
  | some i => unfold led1; rw [e]
theorem SameK.led {s t : SysR} (e : SameK s t) (p : List Int) (m : Move) : Sd.led t p m = Sd.led s p m := by
  unfold Sd.led
  apply List.ext_getElem?
  intro k
  rw [List.getElem?_map, List.getElem?_map]
  cases hs : s.hands[k]? with
  | none =>
    have ht : t.hands[k]? = none := by rw [List.getElem?_eq_none_iff, e.len, ← List.getElem?_eq_none_iff]; exact hs
    rw [List.getElem?_eq_none (by rw [List.length_zip]; have := List.getElem?_eq_none_iff.mp ht; omega), List.getElem?_eq_none (by rw [List.length_zip]; have := List.getElem?_eq_none_iff.mp hs; omega)]
  | some h =>
    obtain ⟨g, hg, e1, _⟩ := e.get hs
    cases hz : (p.zip m.nums)[k]? with
    | none => rw [List.getElem?_eq_none (by rw [List.length_zip]; have := List.getElem?_eq_none_iff.mp hz; omega), List.getElem?_eq_none (by rw [List.length_zip]; have := List.getElem?_eq_none_iff.mp hz; omega)]
    | some y =>
      rw [(List.getElem?_zip_eq_some (z := (g, y))).mpr ⟨hg, hz⟩, (List.getElem?_zip_eq_some (z := (h, y))).mpr ⟨hs, hz⟩]
      show some (led1 g y.1 y.2) = some (led1 h y.1 y.2)
      rw [led1_same e1]
theorem SameK.endP {s t : SysR} (e : SameK s t) : ∀ (ms : List Move) (p : List Int), Sd.endP t p ms = Sd.endP s p ms
  | [], p => rfl
  | m :: ms, p => by
    show Sd.endP t (Sd.led t p m) ms = Sd.endP s (Sd.led s p m) ms
    rw [e.led, e.endP ms]
theorem SameK.walk {s t : SysR} (e : SameK s t) : ∀ (ms : List Move) (p : List Int), walkP t p ms = walkP s p ms
  | [], p => rfl
  | m :: ms, p => by
    show p :: walkP t (Sd.led t p m) ms = p :: walkP s (Sd.led s p m) ms
    rw [e.led, e.walk ms]
theorem SameK.free {s t : SysR} (e : SameK s t) {p : List Int} {z : Str} (h : Free s p z) : Free t p z := fun k g x hg hx hz => by
  obtain ⟨h0, hh, e1, e2⟩ := e.symm.get hg
  rw [nums_same e1.symm fun z => (e2 z).symm]
  exact h k h0 x hh hx ((e2 z).mpr hz)
theorem SameK.able {s t : SysR} (e : SameK s t) {p : List Int} {k : Nat} (h : AbleK s p k) : AbleK t p k := by
  obtain ⟨z, h1, h2, hd, h3, h4⟩ := h
  obtain ⟨g, hg, _, e2⟩ := e.get h3
  exact ⟨z, (e.w z).mpr h1, e.free h2, g, hg, (e2 z).mpr h4⟩
theorem SameK.ableI {s t : SysR} (e : SameK s t) (p : List Int) (k : Nat) : AbleK t p k ↔ AbleK s p k := ⟨e.symm.able, e.able⟩
theorem SameK.move {s t : SysR} (e : SameK s t) {p : List Int} {m : Move} (h : MoveOk s p m) : MoveOk t p m :=
  ⟨(e.w _).mpr h.w, by rw [e.len]; exact h.len, fun k g x n h1 h2 h3 => by
    obtain ⟨h0, hh, e1, e2⟩ := e.symm.get h1
    rw [nums_same e1.symm fun z => (e2 z).symm]
    exact h.num k h0 x n hh h2 h3⟩
theorem SameK.run {s t : SysR} (e : SameK s t) (ok : OkSys t) : ∀ {ms : List Move} {p : List Int}, Stand t p → RunOk s p ms → RunOk t p ms
  | [], p, hp, h => hp
  | m :: ms, p, hp, h => ⟨hp, e.move h.2.1, by rw [e.led]; exact SameK.run e ok (by rw [← e.led]; exact led_ok ok hp (e.move h.2.1)) h.2.2⟩
theorem SameK.KF {s t : SysR} (e : SameK s t) {dil keen : List Int} {p : List Int} {a : List Move} : Sd.KF t dil keen p a ↔ Sd.KF s dil keen p a := by
  unfold Sd.KF
  rw [e.endP, e.walk]
  simp only [e.ableI]
def cStartedAt (CH CS : Addr) : Ct := fun ds O Q => ∃ s p, ds = [dSys CS CH s, dPl p] ∧ OkSys s ∧ Stand s p ∧ ∀ t, OkSys t → SameK s t → t.start = p → (∀ x, x ∈ t.dil ↔ x ∈ s.dil) → Q (dSys CS CH t) O
end Sd

-- SdPn
namespace Sd
open PySem PySem.Spec PyProof.Rows L2
def pMove (m : Move) : PyData := .tuple [.str m.w, .tuple (m.nums.map pOpt)]
theorem encMove : Enc Move dMove pMove (fun m => PyData.strOk m.w = true) 2 := by
  have e := (encS.up (show 0 ≤ 1 by decide)).pair encO.tup
  refine ⟨fun m => e.py (m.w, m.nums), fun a b => ?_, fun m h => e.sh (m.w, m.nums) ⟨h, fun _ _ => trivial⟩⟩
  have := e.eq (a.w, a.nums) (b.w, b.nums)
  cases a with | mk aw an => cases b with | mk bw bn =>
  simp only [Move.mk.injEq, Prod.mk.injEq] at this ⊢
  exact this
def cWhole : Ct := fun ds O Q => ∃ i : Int, ds = [.int i] ∧ Q (.bl true) O
def cLIsMove : Ct := fun ds O Q => ∃ (hs : List (Int × List Step)) (s : SysR) (g : Addr) (p : List Int) (m : Move), ds = [.lst (hs.map dLH), .raw g, dPl p, dMove m] ∧ Link hs s ∧ OkSys s ∧ Stand s p ∧ MoveOk s p m ∧ GroundOk s O g ∧
  ∀ O', Gr2 s g O O' → Q (.bl true) O'
def cPassed : Ct := fun ds O Q => ∃ (hs : List (Int × List Step)) (s : SysR) (g : Addr) (ms : List Move), ds = [.lst (hs.map dLH), .raw g, .tup (ms.map dMove)] ∧ Link hs s ∧ OkSys s ∧ RunOk s s.start ms ∧ ms.length ≤ 5000 ∧ GroundOk s O g ∧
  ∀ O', Gr2 s g O O' → Q (.lst ((walkP s s.start ms).map dPl)) O'
def cLKeenly : Ct := fun ds O Q => ∃ (hs : List (Int × List Step)) (s : SysR) (g : Addr) (dil keen : List Int) (stem loop : List Move), ds = [.lst (hs.map dLH), .raw g, .lst (dil.map .int), .lst (keen.map .int), .tup (stem.map dMove), .tup (loop.map dMove)] ∧
  Link hs s ∧ OkSys s ∧ RunOk s s.start (stem ++ loop) ∧ (stem ++ loop).length ≤ 1000 ∧ GroundOk s O g ∧ (∀ x, x ∈ s.dil ↔ x ∈ dil) ∧ (∀ x ∈ keen, 0 ≤ x ∧ x < s.hands.length) ∧
  ∀ (b : Bool) O', (b = true ↔ KeenFair s keen stem loop) → Gr2 s g O O' → Q (.bl b) O'
/-- told: is_keenly_fair says what is due -/
def cTold (CH CS : Addr) : Ct := fun ds O Q => ∃ (s : SysR) (dk : D) (is : List Int) (stem loop : List Move) (due : Bool), ds = [dSys CS CH s, dk, .tup (stem.map dMove), .tup (loop.map dMove), .bl due] ∧ OkSys s ∧ DilArg O dk s.hands.length is ∧ RunOk s s.start (stem ++ loop) ∧ (stem ++ loop).length ≤ 5000 ∧
  (due = true ↔ KeenFair s is stem loop) ∧ Q (.bl true) O
end Sd

-- SdPr
/-! rules for k79: tuple * int, is True, max of two -/
namespace Sd
open PySem PySem.Spec PyProof.Rows L2
section
variable {K : PySem.W.Frag} {O : Own} {Q : DK}
theorem max2_i {i j : Int} (h : Q (.int (if j > i then j else i)) O) : lC K (fun xs H Q => ∃ i j, xs = [.int i, .int j] ∧ Q (.int (if j > i then j else i)) H) [.int i, .int j] O Q := fun F H vs R ok r kk => by
  obtain ⟨v, v2, rfl, r1, r2⟩ := two_rep r
  rw [rep_int r1, rep_int r2]
  exact ⟨i, j, rfl, kk _ _ _ _ _ .refl ok (.int _) h⟩
end
end Sd
namespace Sd
open PySem PySem.Spec PyProof.Rows L2
/-! ### contracts, runs -/
theorem RunOk.join {s : SysR} : ∀ {as : List Move} {p : List Int} {bs : List Move}, RunOk s p as → RunOk s (endP s p as) bs → RunOk s p (as ++ bs)
  | [], p, bs, _, h => h
  | a :: as, p, bs, h1, h2 => ⟨h1.1, h1.2.1, RunOk.join (as := as) (p := led s p a) h1.2.2 h2⟩
theorem endP_app' (s : SysR) (p : List Int) (a b : List Move) : endP s p (a ++ b) = endP s (endP s p a) b := by unfold endP; rw [List.foldl_append]
/-- a run, and a loop that comes back -/
structure Back (s : SysR) (stem loop : List Move) : Prop where
  run : RunOk s s.start (stem ++ loop)
  back : endP s (endP s s.start stem) loop = endP s s.start stem
  l1 : stem.length ≤ 200
  l2 : loop.length ≤ 200
def cWritten (CH CS : Addr) : Ct := fun ds O Q => ∃ (st : Addr) (s : SysR) (ks : List Int) (stem loop : List Move) (due : Bool), ds = [.raw st, dSys CS CH s, .lst (ks.map .int), .tup (stem.map dMove), .tup (loop.map dMove), .bl due] ∧ Drw O st ∧ OkSys s ∧
  ks.Nodup ∧ (∀ x ∈ ks, 0 ≤ x ∧ x < s.hands.length) ∧ Back s stem loop ∧ (due = true ↔ KeenFair s ks stem loop) ∧ ∀ O', Dr st O O' → Q (.bl true) O'
def cOther (CH CS : Addr) : Ct := fun ds O Q => ∃ (s : SysR) (ks : List Int) (stem loop : List Move) (due : Bool), ds = [dSys CS CH s, .lst (ks.map .int), .tup (stem.map dMove), .tup (loop.map dMove), dPl (endP s s.start stem), .bl due] ∧ OkSys s ∧
  ks.Nodup ∧ (∀ x ∈ ks, 0 ≤ x ∧ x < s.hands.length) ∧ Back s stem loop ∧ (due = true ↔ KeenFair s ks stem loop) ∧ Q (.bl true) O
theorem lst_arg {O : Own} {ks : List Int} {n : Nat} (nd : ks.Nodup) (h : ∀ x ∈ ks, 0 ≤ x ∧ x < n) : DilArg O (.lst (ks.map .int)) n ks := .inr ⟨rfl, (fun ns e => by cases e), nd, h⟩
theorem Back.many {s : SysR} {stem loop : List Move} (b : Back s stem loop) : ∀ n, RunOk s (endP s s.start stem) (List.replicate (n + 1) loop).flatten
  | 0 => by rw [flat1]; exact b.run.app
  | n + 1 => by
    rw [List.replicate_succ, List.flatten_cons]
    refine RunOk.join b.run.app ?_
    rw [b.back]; exact b.many n
end Sd

-- SdO
/-! == of own instances, where it is True; {} -/
namespace Sd
open PySem PySem.Spec PyProof.Rows L2
/-- two things of the class at C are d1, d2 with T d1 d2 -/
def RIns (K : PySem.W.Frag) (C : Addr) (T : List (Str × D) → List (Str × D) → Prop) (a b : Addr) (H : Hp) : Prop := ∃ F O fs gs, Ok K F O H ∧ Rep K F (.ref a) (.ins C fs) ∧ Rep K F (.ref b) (.ins C gs) ∧ T fs gs
theorem RIns.mono {K : PySem.W.Frag} {C : Addr} {T : List (Str × D) → List (Str × D) → Prop} : ∀ a b H H', Ext H H' → RIns K C T a b H → RIns K C T a b H' := fun a b H H' e ⟨F, O, fs, gs, k, r1, r2, t⟩ => ⟨F, O, fs, gs, (k.grow e).1, r1, r2, t⟩
theorem eq_to {K : PySem.W.Frag} {C : Addr} {T : List (Str × D) → List (Str × D) → Prop} {ct : Ct} (h : ∀ fs gs O Q, T fs gs → Q (.bl true) O → ct [.ins C fs, .ins C gs] O Q) : ∀ vs H Q E, spEq (RIns K C T) vs H Q E → spC K ct vs H Q E := by
  rintro vs H Q E ⟨a, b, rfl, ⟨F, O, fs, gs, k, r1, r2, t⟩, q⟩
  obtain ⟨k2, _⟩ := k.drop (O' := fun _ => none) (fun _ _ z => by cases z)
  refine ⟨F, fun _ => none, [.ins C fs, .ins C gs], fun d O' => d = .bl true, .cons r1 (.cons r2 .nil), k2, h fs gs _ _ t rfl, fun F' O' H' v d st k' rd e => ?_⟩
  subst e
  rw [rep_bl rd]
  exact q H' fun a o z => (st.kp a o z rfl).1
section
variable {X : Cx} {C : Addr} {T : List (Str × D) → List (Str × D) → Prop} {ct : Ct} {n : Nat}
theorem rc_own (m : C8.Met X.prog X.w X.K X.mg X.base n C "__eq__" (spC X.K ct) []) (h : ∀ fs gs O Q, T fs gs → Q (.bl true) O → ct [.ins C fs, .ins C gs] O Q) : RcG X n (DIns C (RIns X.K C T)) := by
  obtain ⟨f, fd, ps, ds, c, me, F, b, d⟩ := m.ex
  cases d
  exact rcG_ins (F.imp (eq_to h)) me.at_ me.fn b pass0
theorem rc_owns (m : C8.Met X.prog X.w X.K X.mg X.base n C "__eq__" (spC X.K ct) []) (h : ∀ fs gs O Q, T fs gs → Q (.bl true) O → ct [.ins C fs, .ins C gs] O Q) : RcG X (n + 1) (DTup X.K (DIns C (RIns X.K C T))) := by
  obtain ⟨f, fd, ps, ds, c, me, F, b, d⟩ := m.ex
  cases d
  exact rcG_tup (mon_ins RIns.mono) (eqG_ins (F.imp (eq_to h)) me.at_ me.fn b pass0)
end
section
variable {K : PySem.W.Frag} {C : Addr} {T : List (Str × D) → List (Str × D) → Prop} {O : Own} {Q : DK}
theorem dins_of {F H : Hp} (k : Ok K F O H) {vx vy : V} {fs gs : List (Str × D)} (rx : Rep K F vx (.ins C fs)) (ry : Rep K F vy (.ins C gs)) (t : T fs gs) : DIns C (RIns K C T) vx vy H := by
  have rx' := rx
  have ry' := ry
  cases rx with
  | ins h1 =>
    cases ry with
    | ins h2 => exact ⟨_, _, _, _, _, _, rfl, rfl, k.ex _ _ h1, k.ex _ _ h2, F, O, fs, gs, k, rx', ry', t⟩
theorem eq_own {fs gs : List (Str × D)} (t : T fs gs) (h : Q (.bl true) O) : lR K (rEqG (DIns C (RIns K C T))) (.ins C fs) (.ins C gs) O Q := fun F H vx vy R k rx ry kk =>
  ⟨dins_of k rx ry t, fun H' e => let ⟨k2, s2⟩ := k.grow e; kk _ _ _ _ _ s2 k2 (.bl true) h⟩
theorem eq_owns {fss gss : List (List (Str × D))} (hl : fss.length = gss.length) (t : ∀ (i : Nat) fs gs, fss[i]? = some fs → gss[i]? = some gs → T fs gs) (h : Q (.bl true) O) : lR K (rEqG (DTup K (DIns C (RIns K C T)))) (.tup (fss.map (.ins C))) (.tup (gss.map (.ins C))) O Q := fun F H vx vy R k rx ry kk => by
  obtain ⟨a, vs, rfl, ha, hv⟩ := rep_tup rx
  obtain ⟨b, ws, rfl, hb, hw⟩ := rep_tup ry
  refine ⟨⟨a, b, vs, ws, rfl, rfl, SqT.of (k.ex _ _ ha), SqT.of (k.ex _ _ hb), by rw [hv.1, hw.1, List.length_map, List.length_map, hl], fun i x y h1 h2 => ?_⟩, fun H' e => let ⟨k2, s2⟩ := k.grow e; kk _ _ _ _ _ s2 k2 (.bl true) h⟩
  have i1 : i < fss.length := by have := (List.getElem?_eq_some_iff.mp h1).1; rw [hv.1, List.length_map] at this; exact this
  have i2 : i < gss.length := by omega
  have e1 := List.getElem?_eq_getElem i1
  have e2 := List.getElem?_eq_getElem i2
  exact dins_of k (hv.2 i x _ h1 (by rw [List.getElem?_map, e1]; rfl)) (hw.2 i y _ h2 (by rw [List.getElem?_map, e2]; rfl)) (t i _ _ e1 e2)
end
section
variable {X : Cx} {ρ : Env} {O : Own} {Q : DK} {pos : Pos}
/-- {}: a dict of ours with keys of ints -/
theorem we_dnew (h : ∀ p, O p = none → Q (.raw p) (setO O p (.dct (fun _ => none) 0))) : WE X (.Dict [] [] pos) ρ O Q := by
  intro F σ H R Ve k kk
  refine PE.to pe_dnewT fun p hp => ?_
  obtain ⟨k2, s2⟩ := k.mine (o := .dT []) (c := .dct (fun _ => none) 0) hp ⟨[], upd_same, Nat.le_refl _, (fun k d q => absurd q (by simp)), fun k _ => rfl⟩
  exact kk _ _ _ _ _ s2 k2 (.raw p) (h p (k.fresh hp).2)
end
end Sd

-- SdTop
namespace Sd
open PySem L2

def top (i : Nat) : Stmt := PySem.Challenge.pw_surelydone_k79_whole_keen_runs_told_othe.main.body.getD i (.Pass ⟨0, 0, 0, 0⟩)
def d_is_integer : { st : Stmt // st = top 3 } := by
  refine ⟨?a, ?b⟩
  case b => (conv => rhs; whnf)
abbrev s_is_integer : Stmt := d_is_integer.1
abbrev N_is_integer : List Str := ["thing"]
theorem S_is_integer : FnScope N_is_integer ["thing"] (C8.fnScope s_is_integer) := C8.fnScope_by (by decide +kernel)
def d_is_state : { st : Stmt // st = top 4 } := by
  refine ⟨?a, ?b⟩
  case b => (conv => rhs; whnf)
abbrev s_is_state : Stmt := d_is_state.1
abbrev N_is_state : List Str := ["thing"]
theorem S_is_state : FnScope N_is_state ["thing"] (C8.fnScope s_is_state) := C8.fnScope_by (by decide +kernel)
def d_is_name : { st : Stmt // st = top 5 } := by
  refine ⟨?a, ?b⟩
  case b => (conv => rhs; whnf)
abbrev s_is_name : Stmt := d_is_name.1
abbrev N_is_name : List Str := ["thing", "letter"]
theorem S_is_name : FnScope N_is_name ["thing"] (C8.fnScope s_is_name) := C8.fnScope_by (by decide +kernel)
def d_is_row : { st : Stmt // st = top 6 } := by
  refine ⟨?a, ?b⟩
  case b => (conv => rhs; whnf)
abbrev s_is_row : Stmt := d_is_row.1
abbrev N_is_row : List Str := ["thing"]
theorem S_is_row : FnScope N_is_row ["thing"] (C8.fnScope s_is_row) := C8.fnScope_by (by decide +kernel)
def d_is_step : { st : Stmt // st = top 7 } := by
  refine ⟨?a, ?b⟩
  case b => (conv => rhs; whnf)
abbrev s_is_step : Stmt := d_is_step.1
abbrev N_is_step : List Str := ["thing"]
theorem S_is_step : FnScope N_is_step ["thing"] (C8.fnScope s_is_step) := C8.fnScope_by (by decide +kernel)
def d_leaving : { st : Stmt // st = top 23 } := by
  refine ⟨?a, ?b⟩
  case b => (conv => rhs; whnf)
abbrev s_leaving : Stmt := d_leaving.1
abbrev N_leaving : List Str := ["steps", "state", "step"]
theorem S_leaving : FnScope N_leaving ["steps", "state"] (C8.fnScope s_leaving) := C8.fnScope_by (by decide +kernel)
def d_checked_steps : { st : Stmt // st = top 24 } := by
  refine ⟨?a, ?b⟩
  case b => (conv => rhs; whnf)
abbrev s_checked_steps : Stmt := d_checked_steps.1
abbrev N_checked_steps : List Str := ["steps", "kept", "at", "step"]
theorem S_checked_steps : FnScope N_checked_steps ["steps"] (C8.fnScope s_checked_steps) := C8.fnScope_by (by decide +kernel)
def d_reached_states : { st : Stmt // st = top 25 } := by
  refine ⟨?a, ?b⟩
  case b => (conv => rhs; whnf)
abbrev s_reached_states : Stmt := d_reached_states.1
abbrev N_reached_states : List Str := ["start", "steps", "found", "at", "step"]
theorem S_reached_states : FnScope N_reached_states ["start", "steps"] (C8.fnScope s_reached_states) := C8.fnScope_by (by decide +kernel)
def d_Hand_init : { st : Stmt // st = (C8.clsBody (top 26)).getD 0 (.Pass ⟨0, 0, 0, 0⟩) } := by
  refine ⟨?a, ?b⟩
  case b => (conv => rhs; whnf)
abbrev s_Hand_init : Stmt := d_Hand_init.1
abbrev N_Hand_init : List Str := ["self", "start", "steps", "kept", "words", "states", "step"]
theorem S_Hand_init : FnScope N_Hand_init ["self", "start", "steps"] (C8.fnScope s_Hand_init) := C8.fnScope_by (by decide +kernel)
def d_Hand_eq : { st : Stmt // st = (C8.clsBody (top 26)).getD 2 (.Pass ⟨0, 0, 0, 0⟩) } := by
  refine ⟨?a, ?b⟩
  case b => (conv => rhs; whnf)
abbrev s_Hand_eq : Stmt := d_Hand_eq.1
abbrev N_Hand_eq : List Str := ["self", "other"]
theorem S_Hand_eq : FnScope N_Hand_eq ["self", "other"] (C8.fnScope s_Hand_eq) := C8.fnScope_by (by decide +kernel)
def d_checked_hands : { st : Stmt // st = top 30 } := by
  refine ⟨?a, ?b⟩
  case b => (conv => rhs; whnf)
abbrev s_checked_hands : Stmt := d_checked_hands.1
abbrev N_checked_hands : List Str := ["hands", "at", "hand"]
theorem S_checked_hands : FnScope N_checked_hands ["hands"] (C8.fnScope s_checked_hands) := C8.fnScope_by (by decide +kernel)
def d_checked_diligent : { st : Stmt // st = top 31 } := by
  refine ⟨?a, ?b⟩
  case b => (conv => rhs; whnf)
abbrev s_checked_diligent : Stmt := d_checked_diligent.1
abbrev N_checked_diligent : List Str := ["row", "many", "kept", "item"]
theorem S_checked_diligent : FnScope N_checked_diligent ["row", "many"] (C8.fnScope s_checked_diligent) := C8.fnScope_by (by decide +kernel)
def d_check_standing : { st : Stmt // st = top 32 } := by
  refine ⟨?a, ?b⟩
  case b => (conv => rhs; whnf)
abbrev s_check_standing : Stmt := d_check_standing.1
abbrev N_check_standing : List Str := ["system", "states", "at", "hand"]
theorem S_check_standing : FnScope N_check_standing ["system", "states"] (C8.fnScope s_check_standing) := C8.fnScope_by (by decide +kernel)
def d_step_numbers : { st : Stmt // st = top 33 } := by
  refine ⟨?a, ?b⟩
  case b => (conv => rhs; whnf)
abbrev s_step_numbers : Stmt := d_step_numbers.1
abbrev N_step_numbers : List Str := ["hand", "state", "word", "at", "step"]
theorem S_step_numbers : FnScope N_step_numbers ["hand", "state", "word"] (C8.fnScope s_step_numbers) := C8.fnScope_by (by decide +kernel)
def d_is_move : { st : Stmt // st = top 34 } := by
  refine ⟨?a, ?b⟩
  case b => (conv => rhs; whnf)
abbrev s_is_move : Stmt := d_is_move.1
abbrev N_is_move : List Str := ["system", "states", "move", "word", "numbers", "at", "hand", "number"]
theorem S_is_move : FnScope N_is_move ["system", "states", "move"] (C8.fnScope s_is_move) := C8.fnScope_by (by decide +kernel)
def d_led_to : { st : Stmt // st = top 35 } := by
  refine ⟨?a, ?b⟩
  case b => (conv => rhs; whnf)
abbrev s_led_to : Stmt := d_led_to.1
abbrev N_led_to : List Str := ["system", "states", "move", "found", "at", "hand", "number"]
theorem S_led_to : FnScope N_led_to ["system", "states", "move"] (C8.fnScope s_led_to) := C8.fnScope_by (by decide +kernel)
def d_as_system : { st : Stmt // st = top 36 } := by
  refine ⟨?a, ?b⟩
  case b => (conv => rhs; whnf)
abbrev s_as_system : Stmt := d_as_system.1
abbrev N_as_system : List Str := ["thing"]
theorem S_as_system : FnScope N_as_system ["thing"] (C8.fnScope s_as_system) := C8.fnScope_by (by decide +kernel)
def d_joined : { st : Stmt // st = top 37 } := by
  refine ⟨?a, ?b⟩
  case b => (conv => rhs; whnf)
abbrev s_joined : Stmt := d_joined.1
abbrev N_joined : List Str := ["left", "right", "one", "other", "many", "later", "at"]
theorem S_joined : FnScope N_joined ["left", "right"] (C8.fnScope s_joined) := C8.fnScope_by (by decide +kernel)
def d_System_init : { st : Stmt // st = (C8.clsBody (top 38)).getD 0 (.Pass ⟨0, 0, 0, 0⟩) } := by
  refine ⟨?a, ?b⟩
  case b => (conv => rhs; whnf)
abbrev s_System_init : Stmt := d_System_init.1
abbrev N_System_init : List Str := ["self", "hands", "diligent", "kept", "chosen", "words", "hand", "word"]
theorem S_System_init : FnScope N_System_init ["self", "hands", "diligent"] (C8.fnScope s_System_init) := C8.fnScope_by (by decide +kernel)
def d_System_eq : { st : Stmt // st = (C8.clsBody (top 38)).getD 1 (.Pass ⟨0, 0, 0, 0⟩) } := by
  refine ⟨?a, ?b⟩
  case b => (conv => rhs; whnf)
abbrev s_System_eq : Stmt := d_System_eq.1
abbrev N_System_eq : List Str := ["self", "other"]
theorem S_System_eq : FnScope N_System_eq ["self", "other"] (C8.fnScope s_System_eq) := C8.fnScope_by (by decide +kernel)
def d_System_add : { st : Stmt // st = (C8.clsBody (top 38)).getD 2 (.Pass ⟨0, 0, 0, 0⟩) } := by
  refine ⟨?a, ?b⟩
  case b => (conv => rhs; whnf)
abbrev s_System_add : Stmt := d_System_add.1
abbrev N_System_add : List Str := ["self", "other"]
theorem S_System_add : FnScope N_System_add ["self", "other"] (C8.fnScope s_System_add) := C8.fnScope_by (by decide +kernel)
def d_System_radd : { st : Stmt // st = (C8.clsBody (top 38)).getD 3 (.Pass ⟨0, 0, 0, 0⟩) } := by
  refine ⟨?a, ?b⟩
  case b => (conv => rhs; whnf)
abbrev s_System_radd : Stmt := d_System_radd.1
abbrev N_System_radd : List Str := ["self", "other"]
theorem S_System_radd : FnScope N_System_radd ["self", "other"] (C8.fnScope s_System_radd) := C8.fnScope_by (by decide +kernel)
def d_System_moves : { st : Stmt // st = (C8.clsBody (top 38)).getD 4 (.Pass ⟨0, 0, 0, 0⟩) } := by
  refine ⟨?a, ?b⟩
  case b => (conv => rhs; whnf)
abbrev s_System_moves : Stmt := d_System_moves.1
abbrev N_System_moves : List Str := ["self", "states", "found", "word", "rows", "at", "hand", "numbers", "row", "number"]
theorem S_System_moves : FnScope N_System_moves ["self", "states"] (C8.fnScope s_System_moves) := C8.fnScope_by (by decide +kernel)
def d_System_behind : { st : Stmt // st = (C8.clsBody (top 38)).getD 5 (.Pass ⟨0, 0, 0, 0⟩) } := by
  refine ⟨?a, ?b⟩
  case b => (conv => rhs; whnf)
abbrev s_System_behind : Stmt := d_System_behind.1
abbrev N_System_behind : List Str := ["self", "states", "move"]
theorem S_System_behind : FnScope N_System_behind ["self", "states", "move"] (C8.fnScope s_System_behind) := C8.fnScope_by (by decide +kernel)
def d_System_able : { st : Stmt // st = (C8.clsBody (top 38)).getD 6 (.Pass ⟨0, 0, 0, 0⟩) } := by
  refine ⟨?a, ?b⟩
  case b => (conv => rhs; whnf)
abbrev s_System_able : Stmt := d_System_able.1
abbrev N_System_able : List Str := ["self", "states", "free", "word", "holders", "stuck", "at", "hand"]
theorem S_System_able : FnScope N_System_able ["self", "states"] (C8.fnScope s_System_able) := C8.fnScope_by (by decide +kernel)
def d_System_with_diligent : { st : Stmt // st = (C8.clsBody (top 38)).getD 7 (.Pass ⟨0, 0, 0, 0⟩) } := by
  refine ⟨?a, ?b⟩
  case b => (conv => rhs; whnf)
abbrev s_System_with_diligent : Stmt := d_System_with_diligent.1
abbrev N_System_with_diligent : List Str := ["self", "row"]
theorem S_System_with_diligent : FnScope N_System_with_diligent ["self", "row"] (C8.fnScope s_System_with_diligent) := C8.fnScope_by (by decide +kernel)
def d_System_started_at : { st : Stmt // st = (C8.clsBody (top 38)).getD 8 (.Pass ⟨0, 0, 0, 0⟩) } := by
  refine ⟨?a, ?b⟩
  case b => (conv => rhs; whnf)
abbrev s_System_started_at : Stmt := d_System_started_at.1
abbrev N_System_started_at : List Str := ["self", "states", "hands", "at", "hand"]
theorem S_System_started_at : FnScope N_System_started_at ["self", "states"] (C8.fnScope s_System_started_at) := C8.fnScope_by (by decide +kernel)
def d_walked : { st : Stmt // st = top 40 } := by
  refine ⟨?a, ?b⟩
  case b => (conv => rhs; whnf)
abbrev s_walked : Stmt := d_walked.1
abbrev N_walked : List Str := ["system", "run", "found", "at", "move"]
theorem S_walked : FnScope N_walked ["system", "run"] (C8.fnScope s_walked) := C8.fnScope_by (by decide +kernel)
def d_takes_along : { st : Stmt // st = top 41 } := by
  refine ⟨?a, ?b⟩
  case b => (conv => rhs; whnf)
abbrev s_takes_along : Stmt := d_takes_along.1
abbrev N_takes_along : List Str := ["moves", "hand", "move"]
theorem S_takes_along : FnScope N_takes_along ["moves", "hand"] (C8.fnScope s_takes_along) := C8.fnScope_by (by decide +kernel)
def d_always_able : { st : Stmt // st = top 42 } := by
  refine ⟨?a, ?b⟩
  case b => (conv => rhs; whnf)
abbrev s_always_able : Stmt := d_always_able.1
abbrev N_always_able : List Str := ["system", "places", "hand", "states"]
theorem S_always_able : FnScope N_always_able ["system", "places", "hand"] (C8.fnScope s_always_able) := C8.fnScope_by (by decide +kernel)
def d_is_fair : { st : Stmt // st = top 43 } := by
  refine ⟨?a, ?b⟩
  case b => (conv => rhs; whnf)
abbrev s_is_fair : Stmt := d_is_fair.1
abbrev N_is_fair : List Str := ["system", "stem", "loop", "found", "around", "hand"]
theorem S_is_fair : FnScope N_is_fair ["system", "stem", "loop"] (C8.fnScope s_is_fair) := C8.fnScope_by (by decide +kernel)
def d_either : { st : Stmt // st = top 45 } := by
  refine ⟨?a, ?b⟩
  case b => (conv => rhs; whnf)
abbrev s_either : Stmt := d_either.1
abbrev N_either : List Str := ["diligent", "keen"]
theorem S_either : FnScope N_either ["diligent", "keen"] (C8.fnScope s_either) := C8.fnScope_by (by decide +kernel)
def d_able_somewhere : { st : Stmt // st = top 46 } := by
  refine ⟨?a, ?b⟩
  case b => (conv => rhs; whnf)
abbrev s_able_somewhere : Stmt := d_able_somewhere.1
abbrev N_able_somewhere : List Str := ["system", "places", "hand", "states"]
theorem S_able_somewhere : FnScope N_able_somewhere ["system", "places", "hand"] (C8.fnScope s_able_somewhere) := C8.fnScope_by (by decide +kernel)
def d_is_keenly_fair : { st : Stmt // st = top 47 } := by
  refine ⟨?a, ?b⟩
  case b => (conv => rhs; whnf)
abbrev s_is_keenly_fair : Stmt := d_is_keenly_fair.1
abbrev N_is_keenly_fair : List Str := ["system", "keen", "stem", "loop", "chosen", "around", "hand"]
theorem S_is_keenly_fair : FnScope N_is_keenly_fair ["system", "keen", "stem", "loop"] (C8.fnScope s_is_keenly_fair) := C8.fnScope_by (by decide +kernel)
def d_law_open : { st : Stmt // st = top 49 } := by
  refine ⟨?a, ?b⟩
  case b => (conv => rhs; whnf)
abbrev s_law_open : Stmt := d_law_open.1
abbrev N_law_open : List Str := ["script", "place", "cell"]
theorem S_law_open : FnScope N_law_open ["script", "place"] (C8.fnScope s_law_open) := C8.fnScope_by (by decide +kernel)
def d_law_draw : { st : Stmt // st = top 50 } := by
  refine ⟨?a, ?b⟩
  case b => (conv => rhs; whnf)
abbrev s_law_draw : Stmt := d_law_draw.1
abbrev N_law_draw : List Str := ["state", "many", "number", "one", "two", "three"]
theorem S_law_draw : FnScope N_law_draw ["state", "many"] (C8.fnScope s_law_draw) := C8.fnScope_by (by decide +kernel)
def d_law_name : { st : Stmt // st = top 51 } := by
  refine ⟨?a, ?b⟩
  case b => (conv => rhs; whnf)
abbrev s_law_name : Stmt := d_law_name.1
abbrev N_law_name : List Str := ["state", "size", "k"]
theorem S_law_name : FnScope N_law_name ["state"] (C8.fnScope s_law_name) := C8.fnScope_by (by decide +kernel)
def d_law_names : { st : Stmt // st = top 52 } := by
  refine ⟨?a, ?b⟩
  case b => (conv => rhs; whnf)
abbrev s_law_names : Stmt := d_law_names.1
abbrev N_law_names : List Str := ["state", "many", "names", "k", "name", "letters", "one"]
theorem S_law_names : FnScope N_law_names ["state", "many"] (C8.fnScope s_law_names) := C8.fnScope_by (by decide +kernel)
def d_law_states : { st : Stmt // st = top 53 } := by
  refine ⟨?a, ?b⟩
  case b => (conv => rhs; whnf)
abbrev s_law_states : Stmt := d_law_states.1
abbrev N_law_states : List Str := ["state", "many", "places", "k"]
theorem S_law_states : FnScope N_law_states ["state", "many"] (C8.fnScope s_law_states) := C8.fnScope_by (by decide +kernel)
def d_law_hand : { st : Stmt // st = top 54 } := by
  refine ⟨?a, ?b⟩
  case b => (conv => rhs; whnf)
abbrev s_law_hand : Stmt := d_law_hand.1
abbrev N_law_hand : List Str := ["state", "words", "most", "shape", "places", "steps", "k", "leaves", "step", "word", "old"]
theorem S_law_hand : FnScope N_law_hand ["state", "words", "most"] (C8.fnScope s_law_hand) := C8.fnScope_by (by decide +kernel)
def d_law_plan : { st : Stmt // st = top 55 } := by
  refine ⟨?a, ?b⟩
  case b => (conv => rhs; whnf)
abbrev s_law_plan : Stmt := d_law_plan.1
abbrev N_law_plan : List Str := ["script", "most_hands", "most_states", "most_words", "state", "many", "diligent", "words", "hands", "k", "hand", "own", "at"]
theorem S_law_plan : FnScope N_law_plan ["script", "most_hands", "most_states", "most_words"] (C8.fnScope s_law_plan) := C8.fnScope_by (by decide +kernel)
def d_law_system : { st : Stmt // st = top 56 } := by
  refine ⟨?a, ?b⟩
  case b => (conv => rhs; whnf)
abbrev s_law_system : Stmt := d_law_system.1
abbrev N_law_system : List Str := ["hands", "diligent", "one"]
theorem S_law_system : FnScope N_law_system ["hands", "diligent"] (C8.fnScope s_law_system) := C8.fnScope_by (by decide +kernel)
def d_law_words : { st : Stmt // st = top 57 } := by
  refine ⟨?a, ?b⟩
  case b => (conv => rhs; whnf)
abbrev s_law_words : Stmt := d_law_words.1
abbrev N_law_words : List Str := ["hands", "words", "hand", "step"]
theorem S_law_words : FnScope N_law_words ["hands"] (C8.fnScope s_law_words) := C8.fnScope_by (by decide +kernel)
def d_law_numbers : { st : Stmt // st = top 58 } := by
  refine ⟨?a, ?b⟩
  case b => (conv => rhs; whnf)
abbrev s_law_numbers : Stmt := d_law_numbers.1
abbrev N_law_numbers : List Str := ["hand", "state", "word", "at", "step"]
theorem S_law_numbers : FnScope N_law_numbers ["hand", "state", "word"] (C8.fnScope s_law_numbers) := C8.fnScope_by (by decide +kernel)
def d_law_behind : { st : Stmt // st = top 59 } := by
  refine ⟨?a, ?b⟩
  case b => (conv => rhs; whnf)
abbrev s_law_behind : Stmt := d_law_behind.1
abbrev N_law_behind : List Str := ["hands", "states", "move", "ahead", "k"]
theorem S_law_behind : FnScope N_law_behind ["hands", "states", "move"] (C8.fnScope s_law_behind) := C8.fnScope_by (by decide +kernel)
def d_law_ways : { st : Stmt // st = top 60 } := by
  refine ⟨?a, ?b⟩
  case b => (conv => rhs; whnf)
abbrev s_law_ways : Stmt := d_law_ways.1
abbrev N_law_ways : List Str := ["hands", "ground", "states", "ways", "word", "rows", "k", "longer", "row", "at"]
theorem S_law_ways : FnScope N_law_ways ["hands", "ground", "states"] (C8.fnScope s_law_ways) := C8.fnScope_by (by decide +kernel)
def d_law_able : { st : Stmt // st = top 61 } := by
  refine ⟨?a, ?b⟩
  case b => (conv => rhs; whnf)
abbrev s_law_able : Stmt := d_law_able.1
abbrev N_law_able : List Str := ["hands", "ground", "states", "hand", "way"]
theorem S_law_able : FnScope N_law_able ["hands", "ground", "states", "hand"] (C8.fnScope s_law_able) := C8.fnScope_by (by decide +kernel)
def d_law_whole : { st : Stmt // st = top 62 } := by
  refine ⟨?a, ?b⟩
  case b => (conv => rhs; whnf)
abbrev s_law_whole : Stmt := d_law_whole.1
abbrev N_law_whole : List Str := ["thing"]
theorem S_law_whole : FnScope N_law_whole ["thing"] (C8.fnScope s_law_whole) := C8.fnScope_by (by decide +kernel)
def d_law_is_move : { st : Stmt // st = top 63 } := by
  refine ⟨?a, ?b⟩
  case b => (conv => rhs; whnf)
abbrev s_law_is_move : Stmt := d_law_is_move.1
abbrev N_law_is_move : List Str := ["hands", "ground", "states", "thing", "number", "way"]
theorem S_law_is_move : FnScope N_law_is_move ["hands", "ground", "states", "thing"] (C8.fnScope s_law_is_move) := C8.fnScope_by (by decide +kernel)
def d_law_passed : { st : Stmt // st = top 64 } := by
  refine ⟨?a, ?b⟩
  case b => (conv => rhs; whnf)
abbrev s_law_passed : Stmt := d_law_passed.1
abbrev N_law_passed : List Str := ["hands", "ground", "moves", "rows", "move", "hand"]
theorem S_law_passed : FnScope N_law_passed ["hands", "ground", "moves"] (C8.fnScope s_law_passed) := C8.fnScope_by (by decide +kernel)
def d_law_keenly_fair : { st : Stmt // st = top 65 } := by
  refine ⟨?a, ?b⟩
  case b => (conv => rhs; whnf)
abbrev s_law_keenly_fair : Stmt := d_law_keenly_fair.1
abbrev N_law_keenly_fair : List Str := ["hands", "ground", "diligent", "keen", "stem", "loop", "rows", "around", "hand", "taken", "ready", "states", "move"]
theorem S_law_keenly_fair : FnScope N_law_keenly_fair ["hands", "ground", "diligent", "keen", "stem", "loop"] (C8.fnScope s_law_keenly_fair) := C8.fnScope_by (by decide +kernel)
def d_law_rove : { st : Stmt // st = top 66 } := by
  refine ⟨?a, ?b⟩
  case b => (conv => rhs; whnf)
abbrev s_law_rove : Stmt := d_law_rove.1
abbrev N_law_rove : List Str := ["script", "first", "last", "hands", "ground", "states", "moves", "rows", "place", "state", "k", "ways", "hand", "move"]
theorem S_law_rove : FnScope N_law_rove ["script", "first", "last", "hands", "ground"] (C8.fnScope s_law_rove) := C8.fnScope_by (by decide +kernel)
def d_law_cut : { st : Stmt // st = top 67 } := by
  refine ⟨?a, ?b⟩
  case b => (conv => rhs; whnf)
abbrev s_law_cut : Stmt := d_law_cut.1
abbrev N_law_cut : List Str := ["state", "rows", "first", "backs", "k"]
theorem S_law_cut : FnScope N_law_cut ["state", "rows"] (C8.fnScope s_law_cut) := C8.fnScope_by (by decide +kernel)
def d_law_keen : { st : Stmt // st = top 68 } := by
  refine ⟨?a, ?b⟩
  case b => (conv => rhs; whnf)
abbrev s_law_keen : Stmt := d_law_keen.1
abbrev N_law_keen : List Str := ["state", "many", "keen", "turn", "hand"]
theorem S_law_keen : FnScope N_law_keen ["state", "many"] (C8.fnScope s_law_keen) := C8.fnScope_by (by decide +kernel)
def d_law_told : { st : Stmt // st = top 69 } := by
  refine ⟨?a, ?b⟩
  case b => (conv => rhs; whnf)
abbrev s_law_told : Stmt := d_law_told.1
abbrev N_law_told : List Str := ["system", "keen", "stem", "loop", "due", "told"]
theorem S_law_told : FnScope N_law_told ["system", "keen", "stem", "loop", "due"] (C8.fnScope s_law_told) := C8.fnScope_by (by decide +kernel)
def d_law_written_otherwise : { st : Stmt // st = top 70 } := by
  refine ⟨?a, ?b⟩
  case b => (conv => rhs; whnf)
abbrev s_law_written_otherwise : Stmt := d_law_written_otherwise.1
abbrev N_law_written_otherwise : List Str := ["state", "system", "keen", "stem", "loop", "due", "turn", "many"]
theorem S_law_written_otherwise : FnScope N_law_written_otherwise ["state", "system", "keen", "stem", "loop", "due"] (C8.fnScope s_law_written_otherwise) := C8.fnScope_by (by decide +kernel)
def d_law_other_systems : { st : Stmt // st = top 71 } := by
  refine ⟨?a, ?b⟩
  case b => (conv => rhs; whnf)
abbrev s_law_other_systems : Stmt := d_law_other_systems.1
abbrev N_law_other_systems : List Str := ["system", "keen", "stem", "loop", "behind", "due", "rest", "both", "hand"]
theorem S_law_other_systems : FnScope N_law_other_systems ["system", "keen", "stem", "loop", "behind", "due"] (C8.fnScope s_law_other_systems) := C8.fnScope_by (by decide +kernel)
def d_law_hand_by_hand : { st : Stmt // st = top 72 } := by
  refine ⟨?a, ?b⟩
  case b => (conv => rhs; whnf)
abbrev s_law_hand_by_hand : Stmt := d_law_hand_by_hand.1
abbrev N_law_hand_by_hand : List Str := ["state", "system", "keen", "stem", "loop", "due", "plain", "flags", "few", "hand"]
theorem S_law_hand_by_hand : FnScope N_law_hand_by_hand ["state", "system", "keen", "stem", "loop", "due"] (C8.fnScope s_law_hand_by_hand) := C8.fnScope_by (by decide +kernel)
def d_law : { st : Stmt // st = top 73 } := by
  refine ⟨?a, ?b⟩
  case b => (conv => rhs; whnf)
abbrev s_law : Stmt := d_law.1
abbrev N_law : List Str := ["script", "system", "ground", "walk", "state", "again", "words", "hands", "diligent", "keen", "stem", "loop", "due", "first", "last"]
theorem S_law : FnScope N_law ["script"] (C8.fnScope s_law) := C8.fnScope_by (by decide +kernel)
end Sd

-- the walk
open PySem PySem.Spec PyProof.Rows L2 Sd
local macro_rules | `(tactic| w_dflts v_slot) => `(tactic| first | exact at0 | exact at1 | exact at2 | exact at3 | exact at4 | exact at5 | exact at6 | exact at7 | exact at8 | exact at9 | exact at10 | exact at11 | exact at12 | exact at13 | exact at14 | exact at15)
local macro_rules | `(tactic| w_dflts v_vis) => `(tactic| first | exact Or.inl rfl | exact Or.inr (Or.inl rfl) | exact Or.inr (Or.inr rfl))
local macro_rules | `(tactic| w_dflts v_loc) => `(tactic| first | exact Or.inl rfl | exact Or.inr rfl)
local macro_rules | `(tactic| w_dflts v_hu) => `(tactic| first | exact room65 (by assumption) | exact room64 (by assumption))
local macro_rules | `(tactic| w_dflts v_name) => `(tactic| ((with_reducible refine' we_name ?hN ?hv ?hd ?hcd ?hr ?_); (case hN => w_dflts v_slot); (case hv => w_dflts v_vis); (case hd => decide); (case hcd => decide); (case hr => rfl)))
local macro_rules | `(tactic| w_dflts v_glob) => `(tactic| ((with_reducible refine' we_glob ?hg ?hm ?hr ?hd ?_); (case hg => rfl); (case hm => assumption); (case hr => (intros; first | exact .int _ | exact .str _ | exact .raw _)); (case hd => decide)))
local macro_rules | `(tactic| w_dflts v_ty) => `(tactic| ((first
  | with_reducible refine' we_ty (x := "int") ?hg ?hm bt_int ?hn ?hd ?_
  | with_reducible refine' we_ty (x := "bool") ?hg ?hm bt_bool ?hn ?hd ?_
  | with_reducible refine' we_ty (x := "str") ?hg ?hm bt_str ?hn ?hd ?_
  | with_reducible refine' we_ty (x := "list") ?hg ?hm bt_list ?hn ?hd ?_
  | with_reducible refine' we_ty (x := "tuple") ?hg ?hm bt_tuple ?hn ?hd ?_); (case hg => rfl); (case hm => assumption); (case hn => decide); (case hd => decide)))
local macro_rules | `(tactic| w_dflts v_args) => `(tactic| ((case hg => rfl); (case hdb => decide); (case he => rfl); (case hpl => rfl)))
local macro_rules | `(tactic| w_dflts v_callB) => `(tactic| first
  | with_reducible refine' we_callB (x := "len") call_len ?hg ?hm bt_len ?hn ?hdb ?he ?hpl ?_
  | with_reducible refine' we_callB (x := "isinstance") cr_isiU ?hg ?hm bt_isinstance ?hn ?hdb ?he ?hpl ?_
  | with_reducible refine' we_callTy (x := "int") call_int1 ?hg ?hm bt_int ?hn ?hdb ?he ?hpl ?_
  | with_reducible refine' we_callTy (x := "tuple") call_tuple_of ?hg ?hm bt_tuple ?hn ?hdb ?he ?hpl ?_
  | with_reducible refine' we_callTy (x := "list") call_list_of ?hg ?hm bt_list ?hn ?hdb ?he ?hpl ?_
  | with_reducible refine' we_callB (x := "sum") (cr_sum rfl) ?hg ?hm bt_sum ?hn ?hdb ?he ?hpl ?_
  | with_reducible refine' we_callB (x := "min") (call_min2 rfl) ?hg ?hm bt_min ?hn ?hdb ?he ?hpl ?_
  | with_reducible refine' we_callB (x := "max") (call_max2 rfl) ?hg ?hm bt_max ?hn ?hdb ?he ?hpl ?_
  | with_reducible refine' we_callB (x := "sorted") (cr_srtW rfl) ?hg ?hm bt_sorted ?hn ?hdb ?he ?hpl ?_
  | with_reducible refine' we_callTy (x := "set") (cr_setL rfl) ?hg ?hm bt_set ?hn ?hdb ?he ?hpl ?_)
local macro_rules | `(tactic| w_dflts v_callB1) => `(tactic| (w_dflts v_callB; (case hg => rfl); (case hm => assumption); (case hn => decide); (case hdb => decide); (case he => rfl); (case hpl => rfl)))
local macro_rules | `(tactic| w_dflts v_call) => `(tactic| ((with_reducible refine' we_call ?cl ?hr ?hk ?hg ?hdb ?he ?hpl ?_); (case cl => assumption); (case hr => assumption); (case hk => decide); (case hg => rfl); (case hdb => decide); (case he => rfl); (case hpl => rfl)))
local macro_rules | `(tactic| w_dflts v_make) => `(tactic| ((with_reducible refine' we_make ?cl ?hr ?hk ?hg ?hdb ?he ?hpl ?_); (case cl => assumption); (case hr => assumption); (case hk => decide); (case hg => rfl); (case hdb => decide); (case he => rfl); (case hpl => rfl)))
local macro_rules | `(tactic| w_dflts v_meth) => `(tactic| ((with_reducible refine' we_meth ?cl ?hr ?hk ?hst ?hpl ?ht ?_); (case cl => assumption); (case hr => assumption); (case hk => decide); (case hst => rfl); (case hpl => rfl); (case ht => rfl)))
local macro_rules | `(tactic| w_dflts v_acons) => `(tactic| ((with_reducible refine' wa_cons ?hs ?_); (case hs => rfl)))
local macro_rules | `(tactic| w_dflts v_ix) => `(tactic| ((with_reducible refine' we_ix ?hu ?hs ?_); (case hu => w_dflts v_hu); (case hs => exact fun _ _ => rfl)))
local macro_rules | `(tactic| w_dflts v_fld) => `(tactic| ((with_reducible refine' we_fld ?hb ?_); (case hb => rfl)))
local macro_rules | `(tactic| w_dflts v_cmpE) => `(tactic| first
  | ((with_reducible refine' we_cmpR (op := CmpOp.Eq) (op_eqU ?hu) (nomark _) ?_); (case hu => w_dflts v_hu))
  | ((with_reducible refine' we_cmpR (op := CmpOp.NotEq) (op_neU ?hu) (nomark _) ?_); (case hu => w_dflts v_hu))
  | ((with_reducible refine' we_cmpR (op := CmpOp.In) (op_inU ?hu) ?hm ?_); (case hu => w_dflts v_hu); (case hm => rfl))
  | ((with_reducible refine' we_cmpR (op := CmpOp.NotIn) (op_notInU ?hu) ?hm ?_); (case hu => w_dflts v_hu); (case hm => rfl))
  | with_reducible refine' we_cmpR (op := CmpOp.Lt) op_lt (nomark _) ?_
  | with_reducible refine' we_cmpR (op := CmpOp.LtE) op_le (nomark _) ?_
  | with_reducible refine' we_cmpR (op := CmpOp.Gt) op_gt (nomark _) ?_
  | with_reducible refine' we_cmpR (op := CmpOp.GtE) op_ge (nomark _) ?_
  | with_reducible refine' we_cmpR (op := CmpOp.Is) op_isU (nomark _) ?_
  | with_reducible refine' we_cmpR (op := CmpOp.IsNot) op_notU (nomark _) ?_
  | with_reducible refine' we_chain op_le op_le rfl ?_
  | with_reducible refine' we_chain op_le op_lt rfl ?_)
local macro_rules | `(tactic| w_dflts v_cmpT) => `(tactic| first
  | ((with_reducible refine' wt_cmpR (op := CmpOp.Eq) (op_eqU ?hu) (nomark _) ?_); (case hu => w_dflts v_hu))
  | ((with_reducible refine' wt_cmpR (op := CmpOp.NotEq) (op_neU ?hu) (nomark _) ?_); (case hu => w_dflts v_hu))
  | ((with_reducible refine' wt_cmpR (op := CmpOp.In) (op_inU ?hu) ?hm ?_); (case hu => w_dflts v_hu); (case hm => rfl))
  | ((with_reducible refine' wt_cmpR (op := CmpOp.NotIn) (op_notInU ?hu) ?hm ?_); (case hu => w_dflts v_hu); (case hm => rfl))
  | with_reducible refine' wt_cmpR (op := CmpOp.Lt) op_lt (nomark _) ?_
  | with_reducible refine' wt_cmpR (op := CmpOp.LtE) op_le (nomark _) ?_
  | with_reducible refine' wt_cmpR (op := CmpOp.Gt) op_gt (nomark _) ?_
  | with_reducible refine' wt_cmpR (op := CmpOp.GtE) op_ge (nomark _) ?_
  | with_reducible refine' wt_cmpR (op := CmpOp.Is) op_isU (nomark _) ?_
  | with_reducible refine' wt_cmpR (op := CmpOp.IsNot) op_notU (nomark _) ?_
  | with_reducible refine' wt_chain op_le op_le rfl ?_
  | with_reducible refine' wt_chain op_le op_lt rfl ?_)
local macro_rules | `(tactic| w_dflts v_bin) => `(tactic| first
  | with_reducible refine' we_bin (op := Operator.Add) op_addU ?_
  | with_reducible refine' we_bin (op := Operator.Sub) op_sub ?_
  | with_reducible refine' we_bin (op := Operator.Mult) op_mulU ?_
  | with_reducible refine' we_bin (op := Operator.FloorDiv) op_fdiv ?_
  | with_reducible refine' we_bin (op := Operator.Mod) op_mod ?_
  | with_reducible refine' we_bin (op := Operator.Pow) op_pow ?_)
local macro_rules | `(tactic| w_dflts v_e1) => `(tactic| first
  | w_dflts v_name
  | with_reducible refine we_int ?_
  | w_dflts v_ix
  | w_dflts v_fld
  | ((with_reducible refine' we_tupRg ?hc ?hg ?hm ?hg2 ?hm2 ?na2 ?na ?_); (case hc => rfl); (case hg => rfl); (case hm => assumption); (case hg2 => rfl); (case hm2 => assumption); (case na2 => rfl); (case na => rfl))
  | w_dflts v_callB1
  | w_dflts v_call
  | w_dflts v_append
  | w_dflts v_extend
  | w_dflts v_join
  | w_dflts v_meth
  | w_dflts v_make
  | w_dflts v_acons
  | with_reducible refine wa_nil ?_
  | w_dflts v_cmpE
  | w_dflts v_bin
  | with_reducible refine we_and ?_
  | with_reducible refine we_or ?_
  | with_reducible refine we_one ?_
  | with_reducible refine we_not ?_
  | with_reducible refine we_neg ?_
  | with_reducible refine we_tup ?_
  | with_reducible refine we_bl ?_
  | with_reducible refine we_non ?_
  | with_reducible refine we_str ?_
  | with_reducible refine we_if ?_
  | with_reducible refine we_slice ?_
  | with_reducible refine we_lstO ?_
  | with_reducible refine wo_none ?_
  | with_reducible refine wo_some ?_
  | w_dflts v_glob
  | w_dflts v_ty)
local macro_rules | `(tactic| w_dflts v_t1) => `(tactic| first
  | w_dflts v_cmpT
  | with_reducible refine wt_not ?_
  | (with_reducible refine wt_ww ?_; first | with_reducible refine ww_and ?_ | with_reducible refine ww_or ?_)
  | with_reducible refine ww_and ?_
  | with_reducible refine ww_or ?_
  | with_reducible refine ww_and1 ?_
  | with_reducible refine ww_or1 ?_
  | (with_reducible refine wt_val (fun _ => rfl) ?_)
  | with_reducible refine wts_nil ?_
  | with_reducible refine wts_one ?_)
local macro_rules | `(tactic| w_dflts v_nd) => `(tactic| exact FnScope.nd (by assumption))
local macro_rules | `(tactic| w_dflts v_set) => `(tactic| ((with_reducible refine' ws_set ?hN ?hi ?hx ?hs ?hf ?_); (case hN => assumption); (case hi => w_dflts v_slot); (case hx => w_dflts v_loc); (case hs => rfl); (case hf => w_dflts v_loc)))
local macro_rules | `(tactic| w_dflts v_aug) => `(tactic| ((with_reducible refine' ws_aug ?hN ?hi ?hx ?hf ?hv ?_); (case hN => assumption); (case hi => w_dflts v_slot); (case hx => w_dflts v_loc); (case hf => w_dflts v_loc); (case hv => rfl)))
local macro_rules | `(tactic| w_dflts v_for) => `(tactic| ((with_reducible refine' ws_for ?hp ?hc (tg_name ?hN ?hi ?hx ?hf) ?hs ?_); (case hp => exact PassesOwn.never); (case hc => rfl); (case hN => assumption); (case hi => w_dflts v_slot); (case hx => w_dflts v_loc); (case hf => w_dflts v_loc); (case hs => exact fun _ => rfl)))
local macro_rules | `(tactic| w_dflts v_for2) => `(tactic| ((with_reducible refine' ws_for ?hp ?hc (tg_tup (is := [_, _]) ?ht (pgs_one ?hN ?hi ?hx ?hf (pgs_one ?hN2 ?hi2 ?hx2 ?hf2 pgs_nil ?hs2) ?hs1) ?hn ?hst) ?hs ?_); (case hp => exact PassesOwn.never); (case hc => rfl); (case ht => rfl); (case hN => assumption); (case hi => w_dflts v_slot); (case hx => w_dflts v_loc); (case hf => w_dflts v_loc); (case hN2 => assumption); (case hi2 => w_dflts v_slot); (case hx2 => w_dflts v_loc); (case hf2 => w_dflts v_loc); (case hs1 => rfl); (case hs2 => rfl); (case hn => rfl); (case hst => rfl); (case hs => exact fun _ => rfl)))
local macro_rules | `(tactic| w_dflts v_wi) => `(tactic| first
  | ((with_reducible refine' wi_range1 ?hg ?hm ?hs ?_); (case hg => rfl); (case hm => assumption); (case hs => rfl))
  | ((with_reducible refine' wi_range2 ?hg ?hm ?hs ?hs2 ?_); (case hg => rfl); (case hm => assumption); (case hs => rfl); (case hs2 => rfl))
  | ((with_reducible refine' wi_enum ?hg ?hm ?hs ?_); (case hg => rfl); (case hm => assumption); (case hs => rfl))
  | with_reducible refine wi_seq ?_)
local macro_rules | `(tactic| w_dflts v_append) => `(tactic| ((with_reducible refine' we_append ?hb ?hw ?hl ?hs ?hp ?_); (case hb => rfl); (case hw => rfl); (case hl => rfl); (case hs => rfl); (case hp => rfl)))
local macro_rules | `(tactic| w_dflts v_extend) => `(tactic| ((with_reducible refine' we_extend ?hb ?hw ?hl ?hs ?hp ?_); (case hb => rfl); (case hw => rfl); (case hl => rfl); (case hs => rfl); (case hp => rfl)))
local macro_rules | `(tactic| w_dflts v_setT3) => `(tactic| ((with_reducible refine' ws_setT (tg_tup (is := [_, _, _]) ?ht (pgs_one ?hN ?hi ?hx ?hf (pgs_one ?hN2 ?hi2 ?hx2 ?hf2 (pgs_one ?hN3 ?hi3 ?hx3 ?hf3 pgs_nil ?hs3) ?hs2) ?hs1) ?hn ?hst) ?hs ?hw ?h1 ?_); (case ht => rfl); (case hN => assumption); (case hi => w_dflts v_slot); (case hx => w_dflts v_loc); (case hf => w_dflts v_loc); (case hN2 => assumption); (case hi2 => w_dflts v_slot); (case hx2 => w_dflts v_loc); (case hf2 => w_dflts v_loc); (case hN3 => assumption); (case hi3 => w_dflts v_slot); (case hx3 => w_dflts v_loc); (case hf3 => w_dflts v_loc); (case hs1 => rfl); (case hs2 => rfl); (case hs3 => rfl); (case hn => rfl); (case hst => rfl); (case hs => rfl); (case hw => rfl); (case h1 => rfl)))
local macro_rules | `(tactic| w_dflts v_ssub) => `(tactic| ((with_reducible refine' ws_sub ?hu ?ha ?hs ?hw ?h1 ?_); (case hu => w_dflts v_hu); (case ha => exact fun _ => rfl); (case hs => rfl); (case hw => rfl); (case h1 => rfl)))
local macro_rules | `(tactic| w_dflts v_join) => `(tactic| ((with_reducible refine' we_join ?hs ?hb ?hl ?_); (case hs => rfl); (case hb => rfl); (case hl => rfl)))
local macro_rules | `(tactic| w_dflts v_setT) => `(tactic| ((with_reducible refine' ws_setT (tg_tup (is := [_, _]) ?ht (pgs_one ?hN ?hi ?hx ?hf (pgs_one ?hN2 ?hi2 ?hx2 ?hf2 pgs_nil ?hs2) ?hs1) ?hn ?hst) ?hs ?hw ?h1 ?_); (case ht => rfl); (case hN => assumption); (case hi => w_dflts v_slot); (case hx => w_dflts v_loc); (case hf => w_dflts v_loc); (case hN2 => assumption); (case hi2 => w_dflts v_slot); (case hx2 => w_dflts v_loc); (case hf2 => w_dflts v_loc); (case hs1 => rfl); (case hs2 => rfl); (case hn => rfl); (case hst => rfl); (case hs => rfl); (case hw => rfl); (case h1 => rfl)))
local macro_rules | `(tactic| w_dflts v_sfld) => `(tactic| ((with_reducible refine' ws_fld ?hs ?_); (case hs => rfl)))
local macro_rules | `(tactic| w_dflts v_lstO) => `(tactic| with_reducible refine we_lstO ?_)
local macro_rules | `(tactic| w_dflts v_s0) => `(tactic| first
  | with_reducible refine wss_nil ?_
  | with_reducible refine ws_if ?_
  | with_reducible refine ws_ret ?_
  | w_dflts v_set
  | ((with_reducible refine' ws_expr ?hs ?_); (case hs => rfl))
  | w_dflts v_aug
  | with_reducible refine ws_pass ?_
  | with_reducible refine ws_break ?_
  | with_reducible refine ws_cont ?_
  | w_dflts v_setT
  | w_dflts v_setT3
  | w_dflts v_ssub
  | w_dflts v_sfld
  | w_dflts v_for
  | w_dflts v_for2
  | w_dflts v_wi)
local macro_rules | `(tactic| w_dflts v_seq) => `(tactic| first | rfl | assumption | exact asL_raw (by assumption) | exact asL_raw setO_same)
local macro_rules | `(tactic| w_dflts v_osq) => `(tactic| first
  | ((with_reducible refine' len_s ?h1 ?_); (case h1 => w_dflts v_seq))
  | ((with_reducible refine' ix_sq ?h1 ?h2 ?_); (case h1 => w_dflts v_seq); (case h2 => rfl))
  | ((with_reducible refine' tuple_s ?h1 ?_); (case h1 => w_dflts v_seq))
  | ((with_reducible refine' list_s ?h1 ?_); (case h1 => w_dflts v_seq)))
local macro_rules | `(tactic| w_dflts v_s1) => `(tactic| first
  | with_reducible refine wss_cons ?_
  | w_dflts v_s0)
/-- one step that asks nothing -/
local macro_rules | `(tactic| w_dflts v_o1) => `(tactic| first
  | with_reducible refine add_ii ?_
  | with_reducible refine sub_ii ?_
  | with_reducible refine rB_ii ?_
  | with_reducible refine isN_r ?_
  | with_reducible refine notN_r ?_
  | with_reducible refine isB_r ?_
  | with_reducible refine notB_r ?_
  | with_reducible refine eq_ii ?_
  | with_reducible refine ne_ii ?_
  | with_reducible refine eq_ss ?_
  | with_reducible refine eq_bb ?_
  | with_reducible refine ne_bb ?_
  | with_reducible refine int_i ?_
  | with_reducible refine int_b ?_
  | with_reducible refine brn_t ?_
  | with_reducible refine brn_f ?_
  | with_reducible refine brn_nt ?_
  | with_reducible refine brn_nf ?_
  | with_reducible refine isB_i ?_
  | w_dflts v_osq
  | ((with_reducible refine' mul_ii ?hc ?_); (case hc => first | exact .inl (.inl ⟨by decide, by decide⟩) | exact .inl (.inr ⟨by decide, by decide⟩)))
  | ((with_reducible refine' rI_ii ?hc ?_); (case hc => first | decide | exact ⟨by decide, by decide⟩ | exact ⟨by decide, by decide, by decide⟩))
  | with_reducible refine ⟨_, rfl, ?_⟩)
local macro_rules | `(tactic| w_dflts v_v1) => `(tactic| first
  | w_dflts v_s1
  | w_dflts v_e1
  | w_dflts v_t1
  | w_dflts v_o1)
local macro_rules | `(tactic| w_dflts v_v) => `(tactic| repeat w_dflts v_v1)
local macro_rules | `(tactic| w_dflts v_u1) => `(tactic| first
  | w_dflts v_s0
  | w_dflts v_e1
  | w_dflts v_t1
  | w_dflts v_o1)
local macro_rules | `(tactic| w_dflts v_u) => `(tactic| repeat w_dflts v_u1)

-- B2

namespace Sd
section
variable {P : Program} {w : World} {K : PySem.W.Frag} {mg : Str → Option Value} {base : Heap} {f : Addr}
theorem asL_set {O : Own} {p : Addr} {c : OC} {d : D} {ds : List D} (hp : O p = none) (h : asL O d = some ds) : asL (setO O p c) d = some ds := by
  cases d with
  | raw a =>
    unfold asL at h ⊢
    simp only at h ⊢
    have : a ≠ p := fun e => by rw [e, hp] at h; cases h
    rw [setO_ne this]; exact h
  | _ => exact h
theorem ty_row {O : Own} {d : D} {ds : List D} (h : asL O d = some ds) (hs : ∀ ns, d ≠ .scr ns) : ∃ t, tyD O d = some t ∧ (t == "list" || t == "tuple") = true := by
  cases d with
  | raw a =>
    unfold asL at h; unfold tyD
    simp only at h ⊢
    split at h
    · rename_i q
      exact ⟨"list", by rw [q], by decide +kernel⟩
    · cases h
  | scr ns => exact absurd rfl (hs ns)
  | tup => exact ⟨"tuple", rfl, by decide +kernel⟩
  | lst => exact ⟨"list", rfl, by decide +kernel⟩
  | _ => cases h
theorem lv (xs : List Step) (st : Int) : (xs.filterMap fun s : Step => if s.a = st then some s else none) = leav xs st := by
  unfold leav
  induction xs with
  | nil => rfl
  | cons x xs ih =>
    by_cases hx : x.a = st
    · rw [List.filterMap_cons, if_pos hx, List.filter_cons, if_pos (decide_eq_true hx), ih]
    · rw [List.filterMap_cons, if_neg hx, List.filter_cons, if_neg (by simpa using hx), ih]
theorem b_leaving (T : Bs mg) : BodyOk P w K mg base cLeaving s_leaving f N_leaving 0 "leaving" := by
  intro cdv A outer s H E hr ds O Q hc
  obtain ⟨d, xs, st, rfl, hd, hl, hq⟩ := hc
  have hN := S_leaving.nd
  obtain ⟨_, _, _, _, _, _, _, _, _, _, _, _, _⟩ := T
  refine wss_cons ?_
  w_dflts v_v
  refine we_lc (own := [("step", 2)]) rfl hN (blkOk_by (N := N_leaving) (sc := C8.fnScope s_leaving) (by decide +kernel)) tgs_name (fun _ _ _ _ _ => pg_name (i := 2) hN rfl (Or.inl rfl)) (by decide) (fun _ => rfl) ?_
  w_dflts v_v
  refine .inl ⟨_, hd, lc_pure (fun s : Step => if s.a = st then some s else none) dSt (Nat.le_trans hl (by decide)) hd (fun a ha => ⟨_, rfl, fun _ _ _ _ _ => ?_⟩) ?_⟩
  · w_dflts v_v
    refine brn_dec (fun e => ?_) (fun e => ?_)
    · intro _ _ _ _ _
      w_dflts v_v
      exact ⟨rfl, a, by rw [if_pos e], rfl⟩
    · exact ⟨rfl, by rw [if_neg e]⟩
  · w_dflts v_v
    refine ret_s (Sub.refl _) ?_
    rw [lv xs st, List.length_map]
    exact hq

theorem leav_app (xs ys : List Step) (st : Int) : leav (xs ++ ys) st = leav xs st ++ leav ys st := by unfold leav; rw [List.filter_append]
theorem leav_take (xs : List Step) (i : Nat) (st : Int) : (leav (xs.take i) st).length ≤ (leav xs st).length := by
  have h := leav_app (xs.take i) (xs.drop i) st
  rw [List.take_append_drop] at h
  rw [h, List.length_append]; omega
theorem not_mem_take {α : Type} {xs : List α} (hn : xs.Nodup) {i : Nat} {a : α} (h : xs[i]? = some a) : a ∉ xs.take i := by
  intro hm
  obtain ⟨j, hj, e⟩ := List.mem_take_iff_getElem.mp hm
  have hi := (List.getElem?_eq_some_iff.mp h).1
  have e2 := (List.getElem?_eq_some_iff.mp h).2
  have := (List.getElem_inj hn (h₀ := by omega) (h₁ := hi)).mp (e.trans e2.symm)
  omega
theorem take_one {α : Type} {xs : List α} {i : Nat} {a : α} (h : xs[i]? = some a) : xs.take (i + 1) = xs.take i ++ [a] := by rw [List.take_add_one, h]; rfl
theorem b_checked_steps (T : Bs mg) (g1 : Gi mg "MOST_STEPS" 24) (g2 : Gi mg "MOST_LEAVING" 4) (c1 : C8.Cal P w K mg base 1 "is_row" (spC K cIsRow) []) (c2 : C8.Cal P w K mg base 3 "is_step" (spC K cIsStep) []) (c3 : C8.Cal P w K mg base 1 "leaving" (spC K cLeaving) []) :
    BodyOk P w K mg base cChkSteps s_checked_steps f N_checked_steps 3 "checked_steps" := by
  intro cdv A outer s H E hr ds O Q hc
  obtain ⟨d, xs, rfl, hd, hs, ⟨h1, h2, h3, h4, h5⟩, hq⟩ := hc
  have hN := S_checked_steps.nd
  obtain ⟨_, _, _, _, _, _, _, _, _, _, _, _, _⟩ := T
  obtain ⟨t, ht, ht2⟩ := ty_row hd hs
  refine wss_cons ?_
  w_dflts v_v
  refine ⟨d, t, rfl, ht, ?_⟩
  rw [ht2]
  w_dflts v_v
  refine brn_is (c := true) (by simp; omega) (brn_t ?_)
  w_dflts v_v
  refine brn_is (c := false) (by simp; omega) ?_
  w_dflts v_v
  refine ⟨by decide, fun p hp => ?_⟩
  w_dflts v_v
  refine ⟨_, asL_set hp hd, ?_⟩
  rw [enum_map]
  have ok : ∀ x ∈ xs, PyData.strOk x.w = true := fun x hx => (h3 x hx).2.1.so
  refine ⟨fun i ρ' O' => O' = setO O p (.lst ((xs.take i).map dSt)) ∧ ∃ x y, ρ' = [some d, some (.raw p), x, y], ⟨rfl, none, none, rfl⟩, ?_, ?_, ?_⟩
  · rintro i ρ' O' _ ⟨rfl, x, y, rfl⟩
    exact asL_set hp hd
  · rintro i e ρ' O' he ⟨rfl, x, y, rfl⟩
    rw [List.getElem?_map, List.getElem?_zipIdx] at he
    cases ha : xs[i]? with
    | none => rw [ha] at he; cases he
    | some a =>
    rw [ha] at he
    cases he
    have hm := List.mem_of_getElem? ha
    refine ⟨_, rfl, ?_⟩
    w_dflts v_v
    refine ⟨a, rfl, h3 a hm, ?_⟩
    w_dflts v_v
    refine yin_enc encSt (.inr ⟨p, rfl, setO_same⟩) (ok a hm) (fun x hx => ok x (List.mem_of_mem_take hx)) (by decide) ?_
    rw [decide_eq_false (not_mem_take h4 ha)]
    w_dflts v_v
    refine ⟨.raw p, xs.take i, a.a, rfl, asL_raw setO_same, by rw [List.length_take]; omega, ?_⟩
    w_dflts v_v
    have hl := h5 a.a
    have hl2 := leav_take xs (i + 1) a.a
    rw [take_one ha, leav_app, List.length_append] at hl2
    have hl3 : (leav [a] a.a).length = 1 := by simp [leav]
    refine brn_is (c := false) (by simp; omega) ?_
    w_dflts v_v
    refine ⟨⟨p, _, rfl, setO_same⟩, ?_⟩
    w_dflts v_v
    refine ⟨p, _, rfl, setO_same, by rw [List.length_map, List.length_take]; omega, ?_⟩
    w_dflts v_v
    refine ⟨?_, _, _, rfl⟩
    rw [setO_set, take_one ha, List.map_append]; rfl
  · rintro ρ' O' ⟨rfl, x, y, rfl⟩
    w_dflts v_v
    rw [List.length_map, List.length_zipIdx, List.take_length]
    exact ret_s ((Sub.refl O).set hp) hq
theorem len_sub {α : Type} [BEq α] [LawfulBEq α] : ∀ {xs ys : List α}, xs.Nodup → (∀ x ∈ xs, x ∈ ys) → xs.length ≤ ys.length
  | [], _, _, _ => Nat.zero_le _
  | x :: xs, ys, hn, h => by
    obtain ⟨h1, h2⟩ := List.nodup_cons.mp hn
    have hx := h x List.mem_cons_self
    have := len_sub (ys := ys.erase x) h2 fun z hz => (List.mem_erase_of_ne (fun e => h1 (by rw [← e]; exact hz))).mpr (h z (List.mem_cons_of_mem _ hz))
    rw [List.length_erase_of_mem hx] at this
    have := List.length_pos_of_mem hx
    rw [List.length_cons]; omega
theorem atI_nat {xs : List D} {i : Nat} {d : D} (h : xs[i]? = some d) : atI xs (i : Int) = some d := by
  have hi := (List.getElem?_eq_some_iff.mp h).1
  unfold atI ixN
  simp [hi]
  exact (List.getElem?_eq_some_iff.mp h).2
theorem Reach.mem {st : Int} {xs : List Step} {x : Int} (h : Reach st xs x) : x ∈ st :: xs.map (·.b) := by
  cases h with
  | here => exact List.mem_cons_self
  | step hs _ => exact List.mem_cons_of_mem _ (List.mem_map_of_mem hs)
theorem b_reached_states (T : Bs mg) : BodyOk P w K mg base cReached s_reached_states f N_reached_states 0 "reached_states" := by
  intro cdv A outer s H E hr ds O Q hc
  obtain ⟨d, xs, st, rfl, hd, hl, hq⟩ := hc
  have hN := S_reached_states.nd
  obtain ⟨_, _, _, _, _, _, _, _, _, _, _, _, _⟩ := T
  refine wss_cons ?_
  w_dflts v_v
  refine ⟨by simp, fun p hp => ?_⟩
  w_dflts v_v
  have hlen : ∀ fs : List Int, fs.Nodup → (∀ x ∈ fs, Reach st xs x) → fs.length ≤ xs.length + 1 := fun fs h1 h2 => by
    have := len_sub h1 fun x hx => (h2 x hx).mem
    simpa using this
  refine ws_while PassesOwn.never (fun m ρ' O' => ∃ (fs : List Int) (i : Nat) (y : Option D), O' = setO O p (.lst (fs.map .int)) ∧ ρ' = [some (.int st), some d, some (.raw p), some (.int i), y] ∧
    fs.Nodup ∧ st ∈ fs ∧ (∀ x ∈ fs, Reach st xs x) ∧ i ≤ fs.length ∧ (∀ (j : Nat) (v : Int), j < i → fs[j]? = some v → ∀ s ∈ xs, s.a = v → s.b ∈ fs) ∧ m = xs.length + 2 - i) (xs.length + 2)
    ⟨[st], 0, none, rfl, rfl, by simp, by simp, (fun x hx => by rw [List.mem_singleton.mp hx]; exact .here), by simp, (fun j v hj => absurd hj (Nat.not_lt_zero _)), rfl⟩ ?_
  rintro m ρ' O' ⟨fs, i, y, rfl, rfl, nd, hst, hre, hi, hcl, rfl⟩
  w_dflts v_v
  rw [List.length_map]
  refine brn_dec (fun hlt => ?_) (fun hge => ?_)
  · have hlt : i < fs.length := by omega
    obtain ⟨v, hv⟩ : ∃ v, fs[i]? = some v := ⟨_, List.getElem?_eq_getElem hlt⟩
    w_dflts v_v
    refine .inl ⟨_, asL_set hp hd, fun j ρ' O' => ∃ (gs : List Int) (y : Option D), O' = setO O p (.lst (gs.map .int)) ∧ ρ' = [some (.int st), some d, some (.raw p), some (.int i), y] ∧
      gs.Nodup ∧ (∃ r, gs = fs ++ r) ∧ (∀ x ∈ gs, Reach st xs x) ∧ (∀ s ∈ xs.take j, s.a = v → s.b ∈ gs), ⟨fs, y, rfl, rfl, nd, ⟨[], by simp⟩, hre, by simp⟩, ?_, ?_, ?_⟩
    · rintro j ρ' O' _ ⟨gs, y, rfl, rfl, _⟩
      exact asL_set hp hd
    · rintro j e ρ' O' he ⟨gs, y, rfl, rfl, gnd, ⟨r, rfl⟩, gre, gcl⟩
      rw [List.getElem?_map] at he
      cases ha : xs[j]? with
      | none => rw [ha] at he; cases he
      | some a =>
      rw [ha] at he
      cases he
      have hm := List.mem_of_getElem? ha
      have hv2 : (fs ++ r)[i]? = some v := by rw [List.getElem?_append_left hlt]; exact hv
      refine ⟨_, rfl, ?_⟩
      w_dflts v_v
      refine ix_sq (asL_raw setO_same) (atI_nat (d := .int v) (by rw [List.getElem?_map, hv2]; rfl)) ?_
      w_dflts v_v
      have skip : (a.a = v → a.b ∈ fs ++ r) → ∀ s ∈ xs.take (j + 1), s.a = v → s.b ∈ fs ++ r := fun h s hs e => by
        rw [take_one ha] at hs
        rcases List.mem_append.mp hs with h1 | h1
        · exact gcl s h1 e
        · rw [List.mem_singleton.mp h1] at e ⊢; exact h e
      refine brn_dec (fun e1 => ?_) (fun e1 => ?_)
      · w_dflts v_v
        refine nin_i (asL_raw setO_same) ?_
        w_dflts v_v
        refine brn_ndec (fun e2 => ?_) (fun e2 => ?_)
        · w_dflts v_v
          refine ⟨⟨p, _, rfl, setO_same⟩, ?_⟩
          w_dflts v_v
          have hr2 : ∀ x ∈ (fs ++ r) ++ [a.b], Reach st xs x := fun x hx => by
            rcases List.mem_append.mp hx with h1 | h1
            · exact gre x h1
            · rw [List.mem_singleton.mp h1]
              refine .step hm ?_
              rw [e1]
              exact gre v (List.mem_of_getElem? hv2)
          have hnd2 : ((fs ++ r) ++ [a.b]).Nodup := List.nodup_append.mpr ⟨gnd, by simp, fun x hx z hz e => by rw [List.mem_singleton.mp hz] at e; exact e2 (e ▸ hx)⟩
          refine ⟨p, _, rfl, setO_same, by have := hlen _ gnd gre; rw [List.length_map]; omega, ?_⟩
          w_dflts v_v
          refine ⟨(fs ++ r) ++ [a.b], _, ?_, rfl, hnd2, ⟨r ++ [a.b], by simp⟩, hr2, ?_⟩
          · rw [setO_set, List.map_append (l₂ := [a.b])]; rfl
          · intro s hs e
            rw [take_one ha] at hs
            rcases List.mem_append.mp hs with h1 | h1
            · exact List.mem_append_left _ (gcl s h1 e)
            · rw [List.mem_singleton.mp h1]; simp
        · w_dflts v_v
          have e2 : a.b ∈ fs ++ r := by simpa using e2
          exact ⟨fs ++ r, _, rfl, rfl, gnd, ⟨r, rfl⟩, gre, skip fun _ => e2⟩
      · w_dflts v_v
        exact ⟨fs ++ r, _, rfl, rfl, gnd, ⟨r, rfl⟩, gre, skip fun e => absurd e e1⟩
    · rintro ρ' O' ⟨gs, y, rfl, rfl, gnd, ⟨r, rfl⟩, gre, gcl⟩
      w_dflts v_v
      have hb := hlen _ nd hre
      refine ⟨xs.length + 2 - (i + 1), by omega, fs ++ r, i + 1, y, rfl, rfl, gnd, List.mem_append_left _ hst, gre, by rw [List.length_append]; omega, ?_, rfl⟩
      intro j u hj hu s hs e
      by_cases hji : j < i
      · rw [List.getElem?_append_left (by omega)] at hu
        exact List.mem_append_left _ (hcl j u hji hu s hs e)
      · have : j = i := by omega
        subst this
        rw [List.getElem?_append_left hlt, hv] at hu
        cases hu
        exact gcl s (by rw [List.length_map, List.take_length]; exact hs) e
  · have hge : i = fs.length := by omega
    subst hge
    w_dflts v_v
    refine srt_i (asL_raw setO_same) (fun ds e => by cases e) fun ms pm pw => ?_
    w_dflts v_v
    refine ret_s ((Sub.refl O).set hp) (hq ms (lt_of_le_nodup ms pw (pm.nodup_iff.mpr nd)) fun x => ⟨fun hx => hre x (pm.mem_iff.mp hx), fun hx => pm.mem_iff.mpr ?_⟩)
    induction hx with
    | here => exact hst
    | step hs _ ih =>
      obtain ⟨j, hj⟩ := List.getElem?_of_mem ih
      exact hcl j _ (List.getElem?_eq_some_iff.mp hj).1 hj _ hs rfl
end

end Sd

-- L1

namespace Sd
section
variable {P : Program} {w : World} {K : PySem.W.Frag} {mg : Str → Option Value} {base : Heap} {f : Addr}
theorem b_law_open (T : Bs mg) : BodyOk P w K mg base cOpen s_law_open f N_law_open 0 "_law_open" := by
  intro cdv A outer s' H E hr ds O Q hc
  obtain ⟨ns, k, rfl, hk, hl, hq⟩ := hc
  have hN := S_law_open.nd
  obtain ⟨_, _, _, _, _, _, _, _, _, _, _, _, _⟩ := T
  refine wss_cons ?_
  w_dflts v_v
  refine sl_sc ?_
  w_dflts v_v
  refine sum_i rfl (fun ds e => by cases e) ?_
  w_dflts v_v
  refine brn_dec (fun e => ?_) (fun e => ?_)
  · rw [List.length_map] at e
    obtain ⟨j, rfl⟩ : ∃ j : Nat, k = (j : Int) := ⟨k.toNat, by omega⟩
    have hj : j < ns.length := by omega
    w_dflts v_v
    refine ix_sq (ds := ns.map .int) rfl (atI_nat (d := .int ns[j]) (by rw [List.getElem?_map, List.getElem?_eq_getElem hj]; rfl)) ?_
    w_dflts v_v
    refine brn_dec (fun e => ?_) (fun e => ?_)
    · w_dflts v_v
      exact ⟨by simp, fun p hp => ret_s (Sub.refl _) (hq p _ _ _ hp)⟩
    · w_dflts v_v
      exact ⟨by simp, fun p hp => ret_s (Sub.refl _) (hq p _ _ _ hp)⟩
  · w_dflts v_v
    refine brn_dec (fun e => ?_) (fun e => ?_)
    · w_dflts v_v
      exact ⟨by simp, fun p hp => ret_s (Sub.refl _) (hq p _ _ _ hp)⟩
    · w_dflts v_v
      exact ⟨by simp, fun p hp => ret_s (Sub.refl _) (hq p _ _ _ hp)⟩
theorem b_law_draw (T : Bs mg) : BodyOk P w K mg base cDraw s_law_draw f N_law_draw 0 "_law_draw" := by
  intro cdv A outer s' H E hr ds O Q hc
  obtain ⟨p, m, rfl, ⟨a, b, c, hp⟩, hm, hm2, hq⟩ := hc
  have hN := S_law_draw.nd
  obtain ⟨_, _, _, _, _, _, _, _, _, _, _, _, _⟩ := T
  have dr : ∀ a' c' : Int, Dr p O (setO O p (.lst [.int a', .int b, .int c'])) := fun a' c' => ⟨⟨_, _, _, setO_same⟩, fun x h => setO_ne h⟩
  have mod : ∀ x : Int, 0 ≤ x % m ∧ x % m < m := fun x => ⟨Int.emod_nonneg _ (by omega), Int.emod_lt_of_pos _ hm⟩
  refine wss_cons ?_
  w_dflts v_v
  refine brn_dec (fun e => ?_) (fun e => ?_)
  · w_dflts v_v
    refine rI_ii ⟨hm, by omega⟩ ?_
    w_dflts v_v
    refine .inl ⟨p, _, 0, 0, rfl, rfl, hp, rfl, ?_⟩
    w_dflts v_v
    refine rI_ii hm ?_
    exact ret_s (Sub.refl _) (hq _ _ (mod a).1 (mod a).2 (dr _ _))
  · w_dflts v_v
    refine .inl ⟨p, _, 2, 2, rfl, rfl, hp, rfl, ?_⟩
    w_dflts v_v
    have bd : ∀ x : Int, 0 ≤ x % 2147483647 ∧ x % 2147483647 < 2147483647 := fun x => ⟨Int.emod_nonneg _ (by decide), Int.emod_lt_of_pos _ (by decide)⟩
    have cm : ∀ x : Int, 0 ≤ x → x < 2147483647 → ∀ y, CMul x y := fun x h1 h2 y => .inl ⟨by omega, by omega⟩
    obtain ⟨o1, o2⟩ := bd ((b + 7919 * (c + 64) + 1) * 48271)
    generalize (b + 7919 * (c + 64) + 1) * 48271 % 2147483647 = one at o1 o2 ⊢
    refine mul_ii (.inl (cm _ o1 o2 _)) ?_
    w_dflts v_v
    obtain ⟨t1, t2⟩ := bd (one * (one / 1009 + 69621))
    generalize one * (one / 1009 + 69621) % 2147483647 = two at t1 t2 ⊢
    refine mul_ii (.inl (cm _ t1 t2 _)) ?_
    w_dflts v_v
    refine rI_ii hm ?_
    exact ret_s (Sub.refl _) (hq _ _ (mod _).1 (mod _).2 (dr _ _))
theorem az_at : ∀ r < 26, az.cps.toList[r]? = some (97 + r) := by decide +kernel
theorem az_len : az.length = 26 := by decide +kernel
theorem az_nodup : az.cps.toList.Nodup := by decide +kernel
theorem az_mem : ∀ c ∈ az.cps.toList, 97 ≤ c ∧ c ≤ 122 := by decide +kernel
theorem b_law_name (T : Bs mg) (c1 : C8.Cal P w K mg base 1 "_law_draw" (spC K cDraw) []) : BodyOk P w K mg base cName s_law_name f N_law_name 1 "_law_name" := by
  intro cdv A outer s' H E hr ds O Q hc
  obtain ⟨p, rfl, hp, hq⟩ := hc
  have hN := S_law_name.nd
  obtain ⟨_, _, _, _, _, _, _, _, _, _, _, _, _⟩ := T
  refine wss_cons ?_
  w_dflts v_v
  refine ⟨p, 12, rfl, hp, by decide, by decide, fun r O1 r0 r1 d1 => ?_⟩
  w_dflts v_v
  refine we_lc (own := [("k", 2)]) rfl hN (blkOk_by (N := N_law_name) (sc := C8.fnScope s_law_name) (by decide +kernel)) tgs_name (fun _ _ _ _ _ => pg_name (i := 2) hN rfl (Or.inl rfl)) (by decide) (fun _ => rfl) ?_
  w_dflts v_v
  refine ⟨by omega, by omega, fun i acc O' => Dr p O1 O' ∧ ∃ cs : List Nat, acc = cs.map (fun c => D.str ⟨#[c]⟩) ∧ cs.length = i ∧ ∀ c ∈ cs, 97 ≤ c ∧ c ≤ 122, ⟨.refl d1.d, [], rfl, rfl, by simp⟩, ?_, ?_, ?_⟩
  · rintro i acc O' hi ⟨_, cs, rfl, hcl, _⟩
    rw [List.length_map, List.length_range] at hi
    exact ⟨trivial, by rw [List.length_map]; omega⟩
  · rintro i d acc O' hd ⟨dr, cs, rfl, hcl, hcs⟩
    refine ⟨_, rfl, fun _ _ _ _ _ => ?_⟩
    w_dflts v_v
    intro _ _ _ _ _
    w_dflts v_v
    refine ⟨p, 26, rfl, dr.d, by decide, by decide, fun x O2 x0 x1 d2 => ?_⟩
    w_dflts v_v
    obtain ⟨n, rfl⟩ : ∃ n : Nat, x = (n : Int) := ⟨x.toNat, by omega⟩
    have hn : n < 26 := by omega
    have hat : atI az.cps.toList (n : Int) = some (97 + n) := by
      have h := az_at n hn
      have hl := (List.getElem?_eq_some_iff.mp h).1
      unfold atI ixN
      rw [if_pos (by omega), if_pos (by omega)]
      exact h
    refine ix_st (z := az) (by rw [az_len]; decide) hat ?_
    refine ⟨dr.trans d2, cs ++ [97 + n], by rw [List.map_append]; rfl, by rw [List.length_append, hcl]; rfl, fun c hc => ?_⟩
    rcases List.mem_append.mp hc with h | h
    · exact hcs c h
    · rw [List.mem_singleton.mp h]; omega
  · rintro acc O' ⟨dr, cs, rfl, hcl, hcs⟩
    rw [List.length_map, List.length_range] at hcl
    refine ⟨cs.map fun c => (⟨#[c]⟩ : Str), by rw [List.map_map]; rfl, ?_, ?_⟩
    · have e1 : ∀ l : List Nat, ((l.map fun c => (⟨#[c]⟩ : Str)).map (·.length)).sum = l.length := fun l => by
        induction l with
        | nil => rfl
        | cons c l ih =>
          rw [List.map_cons, List.map_cons, List.sum_cons, ih, List.length_cons]
          show 1 + l.length = _
          omega
      rw [e1, List.length_map]
      show cs.length + cs.length * 0 ≤ _
      omega
    have e := join_chars cs
    have el : (Txt.join Str.empty (cs.map fun c => (⟨#[c]⟩ : Str))).length = cs.length := by
      show (Txt.join Str.empty _).cps.size = _
      rw [← Array.length_toList, e]
    refine ret_s (Sub.refl _) (hq _ _ ⟨?_, ?_, ?_⟩ (d1.trans dr))
    · show 1 ≤ (Txt.join Str.empty _).length
      rw [el]; omega
    · show (Txt.join Str.empty _).length ≤ 12
      rw [el]; omega
    · intro c hc
      have hc : c ∈ (Txt.join Str.empty (cs.map fun c => (⟨#[c]⟩ : Str))).cps.toList := hc
      rw [e] at hc
      exact hcs c hc
end

end Sd

-- L2

namespace Sd
section
variable {P : Program} {w : World} {K : PySem.W.Frag} {mg : Str → Option Value} {base : Heap} {f : Addr}
theorem app_one_inj {u : Str} {c d : Nat} (h : u ++ (⟨#[c]⟩ : Str) = u ++ ⟨#[d]⟩) : c = d := by
  have := congrArg (fun z : Str => z.cps.toList) h
  simp only [str_app_cps] at this
  have := List.append_cancel_left this
  simpa using this
theorem pick_one {u : Str} {zs : List Str} (h : zs.length < 26) : ∃ c ∈ az.cps.toList, u ++ (⟨#[c]⟩ : Str) ∉ zs := by
  refine Classical.byContradiction fun no => ?_
  have all : ∀ c ∈ az.cps.toList, u ++ (⟨#[c]⟩ : Str) ∈ zs := fun c hc => Classical.byContradiction fun n => no ⟨c, hc, n⟩
  have nd : (az.cps.toList.map fun c => u ++ (⟨#[c]⟩ : Str)).Nodup := List.pairwise_map.mpr (az_nodup.imp fun hne e => hne (app_one_inj e))
  have := len_sub (ys := zs) nd fun z hz => by
    obtain ⟨c, hc, rfl⟩ := List.mem_map.mp hz
    exact all c hc
  rw [List.length_map] at this
  have l : az.cps.toList.length = 26 := by decide +kernel
  omega
theorem cut11 (z : Str) : (cutS z none (some 11)).cps.toList = z.cps.toList.take 11 := by
  show ((z.cps.toList.drop (HT.sIx z.length 0 none)).take (HT.sIx z.length z.length (some ((11 : Nat) : Int)) - HT.sIx z.length 0 none)).toArray.toList = _
  rw [HT.sIx_nat, HT.sIx_none, List.drop_zero, Nat.sub_zero]
  have l : z.length = z.cps.toList.length := by show z.cps.size = _; simp
  by_cases h : 11 ≤ z.length
  · rw [Nat.min_eq_left h]
  · rw [Nat.min_eq_right (by omega), l, List.take_length, List.take_of_length_le (by omega)]
theorem b_law_names (T : Bs mg) (c1 : C8.Cal P w K mg base 2 "_law_name" (spC K cName) []) : BodyOk P w K mg base cNames s_law_names f N_law_names 2 "_law_names" := by
  intro cdv A outer s' H E hr ds O Q hc
  obtain ⟨p, m, rfl, hp, hm, hq⟩ := hc
  have hN := S_law_names.nd
  obtain ⟨_, _, _, _, _, _, _, _, _, _, _, _, _⟩ := T
  refine wss_cons ?_
  w_dflts v_v
  refine ⟨by decide, fun q hq2 => ?_⟩
  have hqp := hp.ne hq2
  w_dflts v_v
  refine ⟨by omega, by omega, fun i ρ' O' => ∃ zs : List Str, O' q = some (.lst (zs.map .str)) ∧ Dr p (setO O q (.lst [])) (setO O' q (.lst [])) ∧ zs.Nodup ∧ (∀ z ∈ zs, okName z) ∧ zs.length = i ∧ Drw O' p ∧
    ∃ x y u, ρ' = [some (.raw p), some (.int (m : Int)), some (.raw q), x, y, u, none], ⟨[], setO_same, ⟨by rw [setO_set]; exact hp.set hqp, fun x hx => by rw [setO_set]⟩, by simp, by simp, rfl, hp.set hqp, none, none, none, rfl⟩, ?_, ?_, ?_⟩
  · intro i ρ' O' _ _
    trivial
  · rintro i d ρ' O' hd ⟨zs, hzq, dr, nd, okz, hl, hp', x, y, u, rfl⟩
    have him : i < m := by
      have := (List.getElem?_eq_some_iff.mp hd).1
      rw [List.length_map, List.length_range] at this
      omega
    refine ⟨_, rfl, ?_⟩
    w_dflts v_v
    refine ⟨p, rfl, hp', fun z O2 okz2 d2 => ?_⟩
    have hzq2 : O2 q = some (.lst (zs.map .str)) := d2.at hqp hzq
    have dr2 : Dr p (setO O q (.lst [])) (setO O2 q (.lst [])) := ⟨d2.d.set hqp, fun v hv => by
      by_cases e : v = q
      · subst e; rw [setO_same, setO_same]
      · rw [setO_ne e, setO_ne e, d2.o v hv]
        have := dr.o v hv
        rw [setO_ne e, setO_ne e] at this
        exact this⟩
    w_dflts v_v
    refine in_s (asL_raw hzq2) ?_
    w_dflts v_v
    have fin : ∀ (v : Str) (O3 : Own) (ys : List Str), okName v → v ∉ zs → O3 = O2 → ∃ zs' : List Str, setO O3 q (.lst (zs.map .str ++ [.str v])) q = some (.lst (zs'.map .str)) ∧ Dr p (setO O q (.lst [])) (setO (setO O3 q (.lst (zs.map .str ++ [.str v]))) q (.lst [])) ∧ zs'.Nodup ∧ (∀ z ∈ zs', okName z) ∧ zs'.length = i + 1 ∧ Drw (setO O3 q (.lst (zs.map .str ++ [.str v]))) p := by
      rintro v O3 _ ov nv rfl
      refine ⟨zs ++ [v], by rw [setO_same, List.map_append]; rfl, by rw [setO_set]; exact dr2, List.nodup_append.mpr ⟨nd, by simp, fun a ha b hb e => nv (by rw [← List.mem_singleton.mp hb, ← e]; exact ha)⟩, fun a ha => ?_, by rw [List.length_append, hl]; rfl, d2.d.set hqp⟩
      rcases List.mem_append.mp ha with h | h
      · exact okz a h
      · rw [List.mem_singleton.mp h]; exact ov
    refine brn_dec (fun e => ?_) (fun e => ?_)
    · w_dflts v_v
      refine we_lc (own := [("one", 6)]) rfl hN (blkOk_by (N := N_law_names) (sc := C8.fnScope s_law_names) (by decide +kernel)) tgs_name (fun _ _ _ _ _ => pg_name (i := 6) hN rfl (Or.inl rfl)) (by decide) (fun _ => rfl) ?_
      w_dflts v_v
      refine .inr ⟨az, rfl, lc_pure (xs := az.cps.toList) (β := Str) (fun c => if cutS z none (some 11) ++ (⟨#[c]⟩ : Str) ∉ zs then some (cutS z none (some 11) ++ (⟨#[c]⟩ : Str)) else none) .str (by decide +kernel) trivial (fun c hc => ⟨_, rfl, fun _ _ _ _ _ => ?_⟩) ?_⟩
      · have lz := okz2.2.1
        have lc : (cutS z none (some 11)).length ≤ 1000 - 1 := by
          show (cutS z none (some 11)).cps.size ≤ _
          rw [← Array.length_toList, cut11, List.length_take]; omega
        have l1 : (⟨#[c]⟩ : Str).length = 1 := rfl
        w_dflts v_v
        refine sl_s (by omega) ?_
        w_dflts v_v
        refine add_ss (by rw [l1]; omega) ?_
        w_dflts v_v
        refine nin_s (asL_raw hzq2) ?_
        w_dflts v_v
        refine brn_ndec (fun e1 => ?_) (fun e1 => ?_)
        · intro _ _ _ _ _
          w_dflts v_v
          refine sl_s (by omega) ?_
          w_dflts v_v
          refine add_ss (by rw [l1]; omega) ?_
          exact ⟨rfl, _, by rw [if_pos e1], rfl⟩
        · exact ⟨rfl, by rw [if_neg fun h => h e1]⟩
      · w_dflts v_v
        obtain ⟨c, hc, hno⟩ := pick_one (u := cutS z none (some 11)) (zs := zs) (by omega)
        generalize hL : (az.cps.toList.filterMap fun c => if cutS z none (some 11) ++ (⟨#[c]⟩ : Str) ∉ zs then some (cutS z none (some 11) ++ (⟨#[c]⟩ : Str)) else none) = L
        have hLm : ∀ v, v ∈ L ↔ ∃ c ∈ az.cps.toList, cutS z none (some 11) ++ (⟨#[c]⟩ : Str) ∉ zs ∧ v = cutS z none (some 11) ++ (⟨#[c]⟩ : Str) := fun v => by
          rw [← hL, List.mem_filterMap]
          constructor
          · rintro ⟨c, h1, h2⟩
            split at h2
            · rename_i h3; cases h2; exact ⟨c, h1, h3, rfl⟩
            · cases h2
          · rintro ⟨c, h1, h2, rfl⟩
            exact ⟨c, h1, by rw [if_pos h2]⟩
        cases L with
        | nil => exact absurd ((hLm _).mpr ⟨c, hc, hno, rfl⟩) (by simp)
        | cons v r =>
          obtain ⟨c2, h1, h2, rfl⟩ := (hLm v).mp List.mem_cons_self
          refine ix_sq (i := 0) rfl (atI_head (d := D.str (cutS z none (some 11) ++ (⟨#[c2]⟩ : Str))) rfl) ?_
          w_dflts v_v
          refine ⟨⟨q, _, rfl, hzq2⟩, ?_⟩
          w_dflts v_v
          refine ⟨q, _, rfl, hzq2, by rw [List.length_map]; omega, ?_⟩
          w_dflts v_v
          have ov : okName (cutS z none (some 11) ++ (⟨#[c2]⟩ : Str)) := by
            have e : (cutS z none (some 11) ++ (⟨#[c2]⟩ : Str)).cps.toList = z.cps.toList.take 11 ++ [c2] := by rw [str_app_cps, cut11]
            have l : (cutS z none (some 11) ++ (⟨#[c2]⟩ : Str)).length = (z.cps.toList.take 11).length + 1 := by
              show (cutS z none (some 11) ++ (⟨#[c2]⟩ : Str)).cps.size = _
              rw [← Array.length_toList, e, List.length_append]; rfl
            refine ⟨by omega, by rw [l, List.length_take]; omega, fun a ha => ?_⟩
            rw [e] at ha
            rcases List.mem_append.mp ha with h | h
            · exact okz2.2.2 a (List.mem_of_mem_take h)
            · rw [List.mem_singleton.mp h]; exact az_mem c2 h1
          obtain ⟨zs', k1, k2, k3, k4, k5, k6⟩ := fin _ O2 [] ov h2 rfl
          exact ⟨zs', k1, k2, k3, k4, k5, k6, _, _, _, rfl⟩
    · w_dflts v_v
      refine ⟨⟨q, _, rfl, hzq2⟩, ?_⟩
      w_dflts v_v
      refine ⟨q, _, rfl, hzq2, by rw [List.length_map]; omega, ?_⟩
      w_dflts v_v
      obtain ⟨zs', k1, k2, k3, k4, k5, k6⟩ := fin z O2 [] okz2 e rfl
      exact ⟨zs', k1, k2, k3, k4, k5, k6, _, _, _, rfl⟩
  · rintro ρ' O' ⟨zs, hzq, dr, nd, okz, hl, hp', x, y, u, rfl⟩
    rw [List.length_map, List.length_range] at hl
    w_dflts v_v
    have hz2 : O' p = (delO O' q) p := (delO_ne (Ne.symm hqp)).symm
    refine ret_l hzq (Sub.refl _) (hq zs _ nd okz (by omega) ⟨?_, fun v hv => ?_⟩)
    · obtain ⟨a, b, c, e⟩ := hp'
      exact ⟨a, b, c, by rw [← hz2]; exact e⟩
    · by_cases e : v = q
      · subst e; rw [delO_same, hq2]
      · have := dr.o v hv
        rw [setO_ne e, setO_ne e] at this
        rw [delO_ne e]; exact this
end

end Sd

-- L3

namespace Sd
section
variable {P : Program} {w : World} {K : PySem.W.Frag} {mg : Str → Option Value} {base : Heap} {f : Addr}
theorem b_law_states (T : Bs mg) (c1 : C8.Cal P w K mg base 1 "_law_draw" (spC K cDraw) []) : BodyOk P w K mg base cStates s_law_states f N_law_states 1 "_law_states" := by
  intro cdv A outer s' H E hr ds O Q hc
  obtain ⟨p, m, rfl, hp, h1, h4, hq⟩ := hc
  have hN := S_law_states.nd
  obtain ⟨_, _, _, _, _, _, _, _, _, _, _, _, _⟩ := T
  refine wss_cons ?_
  w_dflts v_v
  refine ⟨p, 100, rfl, hp, by decide, by decide, fun x0 O1 x1 x2 d1 => ?_⟩
  w_dflts v_v
  refine ⟨by simp, fun q hq2 => ?_⟩
  have hqp := d1.d.ne hq2
  have hq0 : O q = none := d1.none hp hq2
  w_dflts v_v
  refine ⟨by omega, by omega, fun i ρ' O' => ∃ (ds : List Nat) (l : Nat), O' q = some (.lst (ds.map fun (d : Nat) => D.int ((x0 + (d : Int)) % 100))) ∧ ds.length = i + 1 ∧ ds.Pairwise (· < ·) ∧ ds.getLast? = some l ∧ (∀ d ∈ ds, d ≤ l) ∧ l ≤ 24 * i ∧ Drw O' p ∧ (∀ x, x ≠ p → x ≠ q → O' x = O x) ∧
    ∃ y, ρ' = [some (.raw p), some (.int (m : Int)), some (.raw q), y], ⟨[0], 0, ?_, rfl, by simp, rfl, by simp, by omega, d1.d.set hqp, fun x hx hxq => by rw [setO_ne hxq, d1.o x hx], none, rfl⟩, ?_, ?_, ?_⟩
  · rw [setO_same]
    have : x0 % 100 = x0 := Int.emod_eq_of_lt x1 x2
    show _ = some (OC.lst [D.int ((x0 + 0) % 100)])
    rw [Int.add_zero, this]
  · intro i ρ' O' _ _
    trivial
  · rintro i d ρ' O' hd ⟨ds, l, hds, hlen, hpw, hlast, hle, hl, hp', hk, y, rfl⟩
    refine ⟨_, rfl, ?_⟩
    w_dflts v_v
    refine ⟨⟨q, _, rfl, hds⟩, ?_⟩
    w_dflts v_v
    refine ix_sq (i := -1) (asL_raw hds) (atI_last (d := D.int ((x0 + (l : Int)) % 100)) (by rw [List.getLast?_map, hlast]; rfl)) ?_
    w_dflts v_v
    refine ⟨p, 24, rfl, hp', by decide, by decide, fun r O2 r0 r1 d2 => ?_⟩
    w_dflts v_v
    obtain ⟨n, rfl⟩ : ∃ n : Nat, r = (n : Int) := ⟨r.toNat, by omega⟩
    have hds2 := d2.at hqp hds
    refine ⟨q, _, rfl, hds2, by rw [List.length_map, hlen]; have := (List.getElem?_eq_some_iff.mp hd).1; rw [List.length_map, List.length_range] at this; omega, ?_⟩
    w_dflts v_v
    refine ⟨ds ++ [l + 1 + n], l + 1 + n, ?_, by rw [List.length_append, hlen]; rfl, ?_, by simp, ?_, by omega, d2.d.set hqp, fun x hx hxq => by rw [setO_ne hxq, d2.o x hx]; exact hk x hx hxq, _, rfl⟩
    · rw [setO_same, List.map_append]
      have : ((x0 + (l : Int)) % 100 + 1 + (n : Int)) % 100 = (x0 + ((l + 1 + n : Nat) : Int)) % 100 := by omega
      rw [this]; rfl
    · refine List.pairwise_append.mpr ⟨hpw, by simp, fun a ha b hb => ?_⟩
      have := hle a ha
      rw [List.mem_singleton.mp hb]; omega
    · intro d hd
      rcases List.mem_append.mp hd with h | h
      · have := hle d h; omega
      · rw [List.mem_singleton.mp h]; exact Nat.le_refl _
  · rintro ρ' O' ⟨ds, l, hds, hlen, hpw, hlast, hle, hl, hp', hk, y, rfl⟩
    rw [List.length_map, List.length_range] at hlen hl
    w_dflts v_v
    have e : (ds.map fun (d : Nat) => D.int ((x0 + (d : Int)) % 100)) = (ds.map fun d : Nat => (x0 + (d : Int)) % 100).map D.int := by rw [List.map_map]; rfl
    rw [e] at hds
    refine ret_l hds (Sub.refl _) (hq _ _ ?_ (fun x hx => ?_) (by rw [List.length_map, hlen]; omega) (Dr.close hq0 hqp hp' hk))
    · refine List.pairwise_map.mpr (hpw.imp_of_mem fun {a b} ha hb hab => ?_)
      have h1 := hle a ha
      have h2 := hle b hb
      omega
    · obtain ⟨d, _, rfl⟩ := List.mem_map.mp hx
      have h1 := Int.emod_nonneg (x0 + (d : Int)) (show (100 : Int) ≠ 0 by decide)
      have h2 := Int.emod_lt_of_pos (x0 + (d : Int)) (show (0 : Int) < 100 by decide)
      exact ⟨h1, by omega⟩
end

end Sd

-- L4

namespace Sd
section
variable {P : Program} {w : World} {K : PySem.W.Frag} {mg : Str → Option Value} {base : Heap} {f : Addr}
theorem pickD {α : Type} {xs : List α} {g : α → D} {r : Int} (h0 : 0 ≤ r) (h1 : r < (xs.length : Int)) : ∃ a, xs[r.toNat]? = some a ∧ a ∈ xs ∧ atI (xs.map g) r = some (g a) := by
  have h : r.toNat < xs.length := by omega
  refine ⟨xs[r.toNat], List.getElem?_eq_getElem h, List.getElem_mem h, ?_⟩
  have := atI_nat (xs := xs.map g) (i := r.toNat) (d := g xs[r.toNat]) (by rw [List.getElem?_map, List.getElem?_eq_getElem h]; rfl)
  rw [Int.toNat_of_nonneg h0] at this
  exact this
theorem range_at {n i : Nat} {d : D} (h : ((List.range n).map fun (i : Nat) => D.int (0 + (i : Int)))[i]? = some d) : i < n ∧ d = .int (i : Int) := by
  have hi := (List.getElem?_eq_some_iff.mp h).1
  rw [List.length_map, List.length_range] at hi
  rw [List.getElem?_map, List.getElem?_eq_getElem (by rw [List.length_range]; exact hi), List.getElem_range] at h
  cases h
  exact ⟨hi, by show D.int (0 + (i : Int)) = D.int (i : Int); rw [Int.zero_add]⟩
theorem leav_snoc (xs : List Step) (s : Step) (v : Int) : (leav (xs ++ [s]) v).length = (leav xs v).length + if s.a = v then 1 else 0 := by
  unfold leav
  rw [List.filter_append, List.length_append]
  by_cases h : s.a = v
  · simp [h]
  · simp [h]
theorem leav_one {xs : List Step} (nd : (xs.map (·.a)).Nodup) (v : Int) : (leav xs v).length ≤ 1 := by
  induction xs with
  | nil => simp [leav]
  | cons x xs ih =>
    rw [List.map_cons, List.nodup_cons] at nd
    have h := ih nd.2
    unfold leav at h ⊢
    rw [List.filter_cons]
    by_cases hx : x.a = v
    · rw [if_pos (decide_eq_true hx)]
      have : xs.filter (fun s => decide (s.a = v)) = [] := List.filter_eq_nil_iff.mpr fun s hs => by
        have := fun e : s.a = v => nd.1 (List.mem_map.mpr ⟨s, hs, e.trans hx.symm⟩)
        simpa using this
      rw [this]; simp
    · rw [if_neg (by simpa using hx)]; exact h
/-- the steps while they are drawn -/
structure Made (ws : List Str) (pl : List Int) (xs : List Step) : Prop where
  ok : ∀ s ∈ xs, okStep s
  nd : xs.Nodup
  lv : ∀ v, (leav xs v).length ≤ 4
  w : ∀ s ∈ xs, s.w ∈ ws
  b : ∀ s ∈ xs, s.b ∈ pl
theorem Made.add {ws : List Str} {pl : List Int} {xs : List Step} (h : Made ws pl xs) {s : Step} (hs : okStep s) (hn : s ∉ xs) (hl : (leav xs s.a).length < 4) (hw : s.w ∈ ws) (hb : s.b ∈ pl) : Made ws pl (xs ++ [s]) := by
  have mem : ∀ {p : Step → Prop}, (∀ t ∈ xs, p t) → p s → ∀ t ∈ xs ++ [s], p t := fun h1 h2 t ht => (List.mem_append.mp ht).elim (h1 t) fun z => by rw [List.mem_singleton.mp z]; exact h2
  refine ⟨mem h.ok hs, List.nodup_append.mpr ⟨h.nd, by simp, fun a ha b hb e => hn (by rw [← List.mem_singleton.mp hb, ← e]; exact ha)⟩, fun v => ?_, mem h.w hw, mem h.b hb⟩
  rw [leav_snoc]
  split
  · rename_i e; subst e; omega
  · exact h.lv v
theorem b_law_hand (T : Bs mg) (c1 : C8.Cal P w K mg base 1 "_law_draw" (spC K cDraw) []) (c2 : C8.Cal P w K mg base 2 "_law_states" (spC K cStates) []) : BodyOk P w K mg base cLHand s_law_hand f N_law_hand 2 "_law_hand" := by
  intro cdv A outer s' H E hr ds O Q hc
  obtain ⟨p, ws, most, rfl, hp, hwne, hwl, hwok, m1, m4, hq⟩ := hc
  have hN := S_law_hand.nd
  obtain ⟨_, _, _, _, _, _, _, _, _, _, _, _, _⟩ := T
  have hw0 : 0 < ws.length := List.length_pos_iff.mpr hwne
  refine wss_cons ?_
  w_dflts v_v
  refine ⟨p, 3, rfl, hp, by decide, by decide, fun sh O1 sh0 sh1 d1 => ?_⟩
  w_dflts v_v
  refine ⟨p, most, rfl, d1.d, by omega, by omega, fun r O2 r0 r1 d2 => ?_⟩
  w_dflts v_v
  refine ⟨p, (1 + r).toNat, by rw [Int.toNat_of_nonneg (by omega)], d2.d, by omega, by omega, fun pl O3 plnd plok pll d3 => ?_⟩
  have d13 := (d1.trans d2).trans d3
  have hpl1 : 1 ≤ pl.length := by omega
  have hpl4 : pl.length ≤ 4 := by omega
  w_dflts v_v
  refine ⟨by decide, fun q hq2 => ?_⟩
  have hqp := d3.d.ne hq2
  have hq0 : O q = none := d13.none hp hq2
  -- behind the first loop
  have second : ∀ (xs : List Step) (O4 : Own) (x1 x2 x3 x4 x5 : Option D), O4 q = some (.lst (xs.map dSt)) → Drw O4 p → (∀ x, x ≠ p → x ≠ q → O4 x = O x) → Made ws pl xs → xs.length ≤ 4 → (xs = [] → sh = 2) →
      WSs (cxOf CX0 P w K mg base N_law_hand "_law_hand" (C8.fnScope s_law_hand) f cdv A outer s' H E).nox ((C8.fnBody s_law_hand).drop 4) [some (.raw p), some (.lst (ws.map .str)), some (.int most), some (.int sh), some (.lst (pl.map .int)), some (.raw q), x1, x2, x3, x4, x5] O4 (bodyE Q) := by
    intro xs O4 x1 x2 x3 x4 x5 hxs hp4 hk mk hx4 hne
    refine wss_cons ?_
    w_dflts v_v
    refine ⟨p, 6, rfl, hp4, by decide, by decide, fun t O5 t0 t1 d5 => ?_⟩
    w_dflts v_v
    generalize hte : (t + if decide (sh = 2) = true then (1 : Int) else 0) = tot
    have ht2 : tot ≤ 6 ∧ 0 ≤ tot ∧ (sh = 2 → 1 ≤ tot) := by
      by_cases h : sh = 2
      · rw [decide_eq_true h, if_pos rfl] at hte; omega
      · rw [decide_eq_false h, if_neg Bool.false_ne_true] at hte; omega
    refine ⟨by omega, by omega, fun i ρ' O' => ∃ xs : List Step, O' q = some (.lst (xs.map dSt)) ∧ Drw O' p ∧ (∀ x, x ≠ p → x ≠ q → O' x = O x) ∧ Made ws pl xs ∧ xs.length ≤ 4 + i ∧ (xs = [] → sh = 2 ∧ i = 0) ∧
      ∃ x1 x2 x3 x4 x5, ρ' = [some (.raw p), some (.lst (ws.map .str)), some (.int most), some (.int sh), some (.lst (pl.map .int)), some (.raw q), x1, x2, x3, x4, x5],
      ⟨xs, d5.at hqp hxs, d5.d, fun x hx hxq => (d5.o x hx).trans (hk x hx hxq), mk, hx4, fun h => ⟨hne h, rfl⟩, x1, x2, x3, x4, x5, rfl⟩, ?_, ?_, ?_⟩
    · intro i ρ' O' _ _
      trivial
    · rintro i d ρ' O' hd ⟨xs, hxs, hp', hk, mk, hxl, hne, x1, x2, x3, x4, x5, rfl⟩
      have hi6 : i < tot.toNat := by
        have := (List.getElem?_eq_some_iff.mp hd).1
        rw [List.length_map, List.length_range] at this
        exact this
      refine ⟨_, rfl, ?_⟩
      w_dflts v_v
      refine ⟨p, _, rfl, hp', by rw [List.length_map]; omega, by rw [List.length_map]; omega, fun a Oa a0 a1 da => ?_⟩
      rw [List.length_map] at a1
      obtain ⟨va, _, hva, ata⟩ := pickD (g := D.int) a0 a1
      refine ix_sq (ds := pl.map .int) rfl ata ?_
      w_dflts v_v
      refine ⟨p, _, rfl, da.d, by rw [List.length_map]; omega, by rw [List.length_map]; omega, fun b Ob b0 b1 db => ?_⟩
      rw [List.length_map] at b1
      obtain ⟨vb, _, hvb, atb⟩ := pickD (g := D.str) b0 b1
      refine ix_sq (ds := ws.map .str) rfl atb ?_
      w_dflts v_v
      refine ⟨p, _, rfl, db.d, by rw [List.length_map]; omega, by rw [List.length_map]; omega, fun c Oc c0 c1 dc => ?_⟩
      rw [List.length_map] at c1
      obtain ⟨vc, _, hvc, atc⟩ := pickD (g := D.int) c0 c1
      refine ix_sq (ds := pl.map .int) rfl atc ?_
      w_dflts v_v
      refine ⟨by simp, ?_⟩
      have dd := (da.trans db).trans dc
      have hxc := dd.at hqp hxs
      have hkc : ∀ x, x ≠ p → x ≠ q → Oc x = O x := fun x hx hxq => (dd.o x hx).trans (hk x hx hxq)
      have oks : okStep ⟨va, vb, vc⟩ := ⟨plok va hva, hwok vb hvb, plok vc hvc⟩
      w_dflts v_v
      refine nin_enc encSt (a := (⟨va, vb, vc⟩ : Step)) (.inr ⟨q, rfl, hxc⟩) oks.2.1.so (fun s hs => (mk.ok s hs).2.1.so) (by decide) ?_
      w_dflts v_v
      refine brn_ndec (fun e => ?_) (fun e => ?_)
      · w_dflts v_v
        refine we_lc (own := [("old", 10)]) rfl hN (blkOk_by (N := N_law_hand) (sc := C8.fnScope s_law_hand) (by decide +kernel)) tgs_name (fun _ _ _ _ _ => pg_name (i := 10) hN rfl (Or.inl rfl)) (by decide) (fun _ => rfl) ?_
        w_dflts v_v
        refine .inl ⟨_, asL_raw hxc, lc_pure (xs := xs) (β := Step) (fun s => if s.a = va then some s else none) (fun _ => .int 1) (by omega) (asL_raw hxc) (fun s hs => ⟨_, rfl, fun _ _ _ _ _ => ?_⟩) ?_⟩
        · w_dflts v_v
          refine brn_dec (fun e1 => ?_) (fun e1 => ?_)
          · intro _ _ _ _ _
            w_dflts v_v
            exact ⟨rfl, s, by rw [if_pos e1], rfl⟩
          · exact ⟨rfl, by rw [if_neg e1]⟩
        w_dflts v_v
        rw [List.length_map, lv]
        refine brn_dec (fun e2 => ?_) (fun e2 => ?_)
        · w_dflts v_v
          refine ⟨⟨q, _, rfl, hxc⟩, ?_⟩
          w_dflts v_v
          refine ⟨q, _, rfl, hxc, by rw [List.length_map]; omega, ?_⟩
          w_dflts v_v
          refine ⟨xs ++ [⟨va, vb, vc⟩], ?_, dc.d.set hqp, fun x hx hxq => by rw [setO_ne hxq]; exact hkc x hx hxq, mk.add oks e (by show (leav xs va).length < 4; omega) hvb hvc, by rw [List.length_append]; simp; omega, fun h => by simp at h, _, _, _, _, _, rfl⟩
          rw [setO_same, List.map_append]; rfl
        · w_dflts v_v
          refine ⟨xs, hxc, dc.d, hkc, mk, by omega, fun h => ?_, _, _, _, _, _, rfl⟩
          subst h
          exact absurd (show (((leav [] va).length : Nat) : Int) < 4 by simp [leav]) e2
      · w_dflts v_v
        refine ⟨xs, hxc, dc.d, hkc, mk, by omega, fun h => ?_, _, _, _, _, _, rfl⟩
        subst h
        simp at e
    · rintro ρ' O' ⟨xs, hxs, hp', hk, mk, hxl, hne, x1, x2, x3, x4, x5, rfl⟩
      rw [List.length_map, List.length_range] at hxl hne
      w_dflts v_v
      refine ⟨p, _, rfl, hp', by rw [List.length_map]; omega, by rw [List.length_map]; omega, fun a Oa a0 a1 da => ?_⟩
      rw [List.length_map] at a1
      obtain ⟨va, _, hva, ata⟩ := pickD (g := D.int) a0 a1
      refine ix_sq (ds := pl.map .int) rfl ata ?_
      refine wa_cons rfl (we_giv ?_)
      w_dflts v_v
      refine giv_l (da.at hqp hxs) ?_
      w_dflts v_v
      refine ⟨by simp, ?_⟩
      have hne1 : xs ≠ [] := fun h => by
        obtain ⟨h1, h2⟩ := hne h
        have := ht2.2.2 h1
        omega
      refine ret_s (Sub.refl _) (hq (va, xs) _ ⟨plok va hva, ⟨List.length_pos_iff.mpr hne1, by show xs.length ≤ 24; omega, mk.ok, mk.nd, mk.lv⟩, mk.w, pl, by omega, hva, mk.b⟩ (Dr.close hq0 hqp da.d fun x hx hxq => (da.o x hx).trans (hk x hx hxq)))
  w_dflts v_v
  have hO3 : ∀ x, x ≠ p → x ≠ q → setO O3 q (.lst []) x = O x := fun x hx hxq => by rw [setO_ne hxq]; exact d13.o x hx
  refine brn_dec (fun e => ?_) (fun e => ?_)
  · w_dflts v_v
    rw [List.length_map]
    refine ⟨by omega, by omega, fun i ρ' O' => ∃ xs : List Step, O' q = some (.lst (xs.map dSt)) ∧ Drw O' p ∧ (∀ x, x ≠ p → x ≠ q → O' x = O x) ∧ Made ws pl xs ∧ xs.map (·.a) = pl.take i ∧
      ∃ x1 x2 x3 x4 x5, ρ' = [some (.raw p), some (.lst (ws.map .str)), some (.int most), some (.int sh), some (.lst (pl.map .int)), some (.raw q), x1, x2, x3, x4, x5],
      ⟨[], setO_same, d3.d.set hqp, hO3, ⟨by simp, by simp, by simp [leav], by simp, by simp⟩, by simp, none, none, none, none, none, rfl⟩, ?_, ?_, ?_⟩
    · intro i ρ' O' _ _
      trivial
    · rintro i d ρ' O' hd ⟨xs, hxs, hp', hk, mk, hxa, x1, x2, x3, x4, x5, rfl⟩
      obtain ⟨hi, rfl⟩ := range_at hd
      have hi : i < pl.length := by omega
      refine ⟨_, rfl, ?_⟩
      w_dflts v_v
      refine ⟨p, _, rfl, hp', by rw [List.length_map]; omega, by rw [List.length_map]; omega, fun b Ob b0 b1 db => ?_⟩
      rw [List.length_map] at b1
      obtain ⟨vb, _, hvb, atb⟩ := pickD (g := D.str) b0 b1
      refine ix_sq (ds := ws.map .str) rfl atb ?_
      w_dflts v_v
      have hxb := db.at hqp hxs
      refine ⟨⟨q, _, rfl, hxb⟩, ?_⟩
      w_dflts v_v
      have hgi := List.getElem?_eq_getElem hi
      refine ix_sq (ds := pl.map .int) rfl (atI_nat (d := .int pl[i]) (by rw [List.getElem?_map, hgi]; rfl)) ?_
      w_dflts v_v
      have hm0 : (0 : Int) < (((pl.map D.int).length : Nat) : Int) := by rw [List.length_map]; omega
      refine rI_ii hm0 ?_
      have c0 := Int.emod_nonneg ((i : Int) + 1) (show (((pl.map D.int).length : Nat) : Int) ≠ 0 by omega)
      have c1 := Int.emod_lt_of_pos ((i : Int) + 1) hm0
      rw [List.length_map] at c0 c1
      obtain ⟨vc, _, hvc, atc⟩ := pickD (g := D.int) c0 c1
      rw [List.length_map]
      refine ix_sq (ds := pl.map .int) rfl atc ?_
      w_dflts v_v
      refine ⟨by simp, ?_⟩
      have hlen : xs.length ≤ i := by
        have := congrArg List.length hxa
        rw [List.length_map, List.length_take] at this
        omega
      refine ⟨q, _, rfl, hxb, by rw [List.length_map]; omega, ?_⟩
      w_dflts v_v
      have hpi : pl[i] ∈ pl := List.getElem_mem hi
      have hno : pl[i] ∉ xs.map (·.a) := by rw [hxa]; exact not_mem_take plnd hgi
      have hxnd : (xs.map (·.a)).Nodup := by rw [hxa]; exact (List.take_sublist _ _).nodup plnd
      refine ⟨xs ++ [⟨pl[i], vb, vc⟩], ?_, db.d.set hqp, fun x hx hxq => by rw [setO_ne hxq]; exact (db.o x hx).trans (hk x hx hxq), mk.add ⟨plok _ hpi, hwok vb hvb, plok vc hvc⟩ (fun h => hno (List.mem_map_of_mem (f := (·.a)) h)) (by have := leav_one hxnd pl[i]; show (leav xs pl[i]).length < 4; omega) hvb hvc, ?_, _, _, _, _, _, rfl⟩
      · rw [setO_same, List.map_append]; rfl
      · rw [List.map_append, hxa, take_one hgi]; rfl
    · rintro ρ' O' ⟨xs, hxs, hp', hk, mk, hxa, x1, x2, x3, x4, x5, rfl⟩
      rw [List.length_map, List.length_range] at hxa
      have hl := congrArg List.length hxa
      rw [List.length_map, List.length_take] at hl
      w_dflts v_u
      refine second xs _ _ _ _ _ _ hxs hp' hk mk (by omega) fun h => ?_
      subst h
      simp at hl
      omega
  · w_dflts v_u
    exact second [] _ _ _ _ _ _ setO_same (d3.d.set hqp) hO3 ⟨by simp, by simp, by simp [leav], by simp, by simp⟩ (by simp) fun _ => by omega
end

end Sd

-- L5

namespace Sd
section
variable {P : Program} {w : World} {K : PySem.W.Frag} {mg : Str → Option Value} {base : Heap} {f : Addr}
theorem b_law_plan (T : Bs mg) (c0 : C8.Cal P w K mg base 1 "_law_open" (spC K cOpen) []) (c1 : C8.Cal P w K mg base 1 "_law_draw" (spC K cDraw) []) (c2 : C8.Cal P w K mg base 3 "_law_names" (spC K cNames) []) (c3 : C8.Cal P w K mg base 3 "_law_hand" (spC K cLHand) []) :
    BodyOk P w K mg base cPlan s_law_plan f N_law_plan 3 "_law_plan" := by
  intro cdv A outer s' H E hr ds O Q hc
  obtain ⟨ns, mh, ms, mw, rfl, hns, mh1, mh4, ms1, ms4, mw1, mw8, hq⟩ := hc
  have hN := S_law_plan.nd
  obtain ⟨_, _, _, _, _, _, _, _, _, _, _, _, _⟩ := T
  refine wss_cons ?_
  w_dflts v_v
  refine ⟨ns, 0, rfl, by decide, hns, fun p a b c hp0 => ?_⟩
  have hp : Drw (setO O p (.lst [.int a, .int b, .int c])) p := ⟨a, b, c, setO_same⟩
  have sub0 : Sub O (setO O p (.lst [.int a, .int b, .int c])) := (Sub.refl O).set hp0
  w_dflts v_v
  refine ⟨p, mh, rfl, hp, by omega, by omega, fun r O1 r0 r1 d1 => ?_⟩
  w_dflts v_u
  refine wss_cons ?_
  obtain ⟨m, hm⟩ : ∃ m : Nat, 1 + r = (m : Int) := ⟨(1 + r).toNat, by omega⟩
  rw [hm]
  refine ws_setLc (i := 6) (own := [("k", 9)]) rfl hN rfl rfl (sw_true rfl rfl rfl (by decide +kernel)) (blkOk_by (N := N_law_plan) (sc := C8.fnScope s_law_plan) (by decide +kernel)) tgs_name (fun _ _ _ _ _ => pg_name (i := 9) hN rfl (Or.inl rfl)) (by decide) (fun _ => rfl) ?_
  w_dflts v_v
  refine ⟨by omega, by omega, fun i acc O' => Dr p O1 O' ∧ ∃ ks : List Int, acc = ks.map .int ∧ ks.length ≤ i ∧ ks.Pairwise (· < ·) ∧ ∀ x ∈ ks, 0 ≤ x ∧ x < i, ⟨.refl d1.d, [], rfl, by simp, by simp, by simp⟩, ?_, ?_, ?_⟩
  · rintro i acc O' hi ⟨_, ks, rfl, hkl, _⟩
    rw [List.length_map, List.length_range] at hi
    exact ⟨trivial, by rw [List.length_map]; omega⟩
  · rintro i d acc O' hd ⟨dr, ks, rfl, hkl, hkp, hkr⟩
    obtain ⟨hi, rfl⟩ := range_at hd
    refine ⟨_, rfl, fun _ _ _ _ _ => ?_⟩
    w_dflts v_v
    refine ⟨p, 4, rfl, dr.d, by decide, by decide, fun x O2 x0 x1 d2 => ?_⟩
    w_dflts v_v
    refine brn_dec (fun e => ?_) (fun e => ?_)
    · intro _ _ _ _ _
      w_dflts v_v
      refine ⟨dr.trans d2, ks ++ [(i : Int)], by rw [List.map_append]; rfl, by rw [List.length_append]; simp; omega, List.pairwise_append.mpr ⟨hkp, by simp, fun u hu v hv => ?_⟩, fun u hu => ?_⟩
      · have := hkr u hu
        rw [List.mem_singleton.mp hv]; omega
      · rcases List.mem_append.mp hu with h | h
        · have := hkr u h; omega
        · rw [List.mem_singleton.mp h]; omega
    · exact ⟨dr.trans d2, ks, rfl, by omega, hkp, fun u hu => by have := hkr u hu; omega⟩
  rintro acc O2 ⟨d2, dil, rfl, _, dpw, drg⟩
  rw [List.length_map, List.length_range] at drg
  have hmt : ((m : Int)).toNat = m := by omega
  rw [hmt] at drg
  show WSs _ _ _ _ _
  w_dflts v_v
  refine ⟨p, mw, rfl, d2.d, by omega, by omega, fun t O3 t0 t1 d3 => ?_⟩
  w_dflts v_v
  refine ⟨p, (1 + t).toNat, by rw [Int.toNat_of_nonneg (by omega)], d3.d, by omega, fun zs O4 znd zok zl d4 => ?_⟩
  have sub4 : Sub O O4 := (((sub0.dr hp0 d1).dr hp0 d2).dr hp0 d3).dr hp0 d4
  have hz1 : 1 ≤ zs.length := by omega
  w_dflts v_v
  refine ⟨by decide, fun q hq2 => ?_⟩
  have hq0 := sub4.none hq2
  w_dflts v_v
  refine ⟨by omega, by omega, fun i ρ' O' => ∃ hs : List (Int × List Step), O' q = some (.lst (hs.map dLH)) ∧ hs.length = i ∧ (∀ h ∈ hs, LHand zs h.1 h.2) ∧ Sub O (delO O' q) ∧
    ∃ x y u, ρ' = [some (.scr ns), some (.int mh), some (.int ms), some (.int mw), some (.raw p), some (.int (m : Int)), some (.lst (dil.map .int)), some (.lst (zs.map .str)), some (.raw q), x, y, u, none],
    ⟨[], setO_same, rfl, by simp, ((sub4.set hq0).del hq0), none, none, none, rfl⟩, ?_, ?_, ?_⟩
  · intro i ρ' O' _ _
    trivial
  · rintro i d ρ' O' hd ⟨hs, hhs, hhl, hok, hsub, x, y, u, rfl⟩
    obtain ⟨hi, rfl⟩ := range_at hd
    refine ⟨_, rfl, ?_⟩
    w_dflts v_v
    refine ⟨ns, _, rfl, by omega, hns, fun g ga gb gc hg0 => ?_⟩
    have hgq : g ≠ q := fun e => by rw [e, hhs] at hg0; cases hg0
    have hgO : O g = none := by
      cases e : O g with
      | none => rfl
      | some c =>
        have := hsub g c e
        rw [delO_ne hgq, hg0] at this; cases this
    w_dflts v_u
    refine wss_cons ?_
    refine ws_setLc (i := 11) (own := [("at", 12)]) rfl hN rfl rfl (sw_true rfl rfl rfl (by decide +kernel)) (blkOk_by (N := N_law_plan) (sc := C8.fnScope s_law_plan) (by decide +kernel)) tgs_name (fun _ _ _ _ _ => pg_name (i := 12) hN rfl (Or.inl rfl)) (by decide) (fun _ => rfl) ?_
    w_dflts v_v
    rw [List.length_map]
    refine ⟨by omega, by omega, fun j acc O2 => Dr g (setO O' g (.lst [.int ga, .int gb, .int gc])) O2 ∧ ∃ ys : List Str, acc = ys.map .str ∧ ys.length ≤ j ∧ ∀ z ∈ ys, z ∈ zs, ⟨.refl ⟨_, _, _, setO_same⟩, [], rfl, by simp, by simp⟩, ?_, ?_, ?_⟩
    · rintro j acc O2 hj ⟨_, ys, rfl, hyl, _⟩
      rw [List.length_map, List.length_range] at hj
      exact ⟨trivial, by rw [List.length_map]; omega⟩
    · rintro j d acc O2 hd2 ⟨dr, ys, rfl, hyl, hym⟩
      obtain ⟨hj, rfl⟩ := range_at hd2
      have hjz : j < zs.length := by omega
      have elt : ∀ O3 : Own, Dr g (setO O' g (.lst [.int ga, .int gb, .int gc])) O3 → Dr g (setO O' g (.lst [.int ga, .int gb, .int gc])) O3 ∧ ∃ ys' : List Str, ys.map .str ++ [D.str zs[j]] = ys'.map .str ∧ ys'.length ≤ j + 1 ∧ ∀ z ∈ ys', z ∈ zs := fun O3 h =>
        ⟨h, ys ++ [zs[j]], by rw [List.map_append]; rfl, by rw [List.length_append]; simp; omega, fun z hz => (List.mem_append.mp hz).elim (hym z) fun h => by rw [List.mem_singleton.mp h]; exact List.getElem_mem hjz⟩
      have hat := atI_nat (xs := zs.map D.str) (i := j) (d := .str zs[j]) (by rw [List.getElem?_map, List.getElem?_eq_getElem hjz]; rfl)
      refine ⟨_, rfl, fun _ _ _ _ _ => ?_⟩
      w_dflts v_v
      refine rI_ii (show (0 : Int) < (m : Int) by omega) ?_
      w_dflts v_v
      refine brn_dec (fun e => ?_) (fun e => ?_)
      · refine brn_t ?_
        intro _ _ _ _ _
        w_dflts v_v
        refine ix_sq (ds := zs.map .str) rfl hat ?_
        exact elt O2 dr
      · w_dflts v_v
        refine ⟨g, 3, rfl, dr.d, by decide, by decide, fun v O3 v0 v1 d5 => ?_⟩
        w_dflts v_v
        refine brn_dec (fun e => ?_) (fun e => ?_)
        · intro _ _ _ _ _
          w_dflts v_v
          refine ix_sq (ds := zs.map .str) rfl hat ?_
          exact elt O3 (dr.trans d5)
        · exact ⟨dr.trans d5, ys, rfl, by omega, hym⟩
    rintro acc O2 ⟨d5, ys, rfl, hyl, hym⟩
    rw [List.length_map, List.length_range] at hyl
    have hhs2 : O2 q = some (.lst (hs.map dLH)) := d5.at (Ne.symm hgq) (by rw [setO_ne (Ne.symm hgq)]; exact hhs)
    have hsub2 : Sub O (delO O2 q) := fun v c e => by
      have hvq : v ≠ q := fun z => by subst z; rw [hq0] at e; cases e
      have hvg : v ≠ g := fun z => by subst z; rw [hgO] at e; cases e
      rw [delO_ne hvq, d5.o v hvg, setO_ne hvg]
      have := hsub v c e
      rw [delO_ne hvq] at this; exact this
    show WSs _ _ _ _ _
    w_dflts v_v
    refine ⟨⟨q, _, rfl, hhs2⟩, ?_⟩
    w_dflts v_v
    have call : ∀ (vs : List Str), vs ≠ [] → vs.length ≤ 100 → (∀ z ∈ vs, z ∈ zs) → ∀ R : DK, (∀ (h : Int × List Step) (O3 : Own), LHand zs h.1 h.2 → Dr g O2 O3 → R (dLH h) O3) → cLHand [.raw g, .lst (vs.map .str), .int ms] O2 R := fun vs v0 v1 v2 R h =>
      ⟨g, vs, ms, rfl, d5.d, v0, v1, fun z hz => zok z (v2 z hz), ms1, ms4, fun h' O3 l d => h h' O3 (l.mono v2) d⟩
    have fin : ∀ (h : Int × List Step) (O3 : Own), LHand zs h.1 h.2 → Dr g O2 O3 → O3 q = some (.lst (hs.map dLH)) ∧ ∃ hs' : List (Int × List Step), setO O3 q (.lst (hs.map dLH ++ [dLH h])) q = some (.lst (hs'.map dLH)) ∧ hs'.length = i + 1 ∧ (∀ h ∈ hs', LHand zs h.1 h.2) ∧ Sub O (delO (setO O3 q (.lst (hs.map dLH ++ [dLH h]))) q) := fun h O3 l d => by
      refine ⟨d.at (Ne.symm hgq) hhs2, hs ++ [h], by rw [setO_same, List.map_append]; rfl, by rw [List.length_append, hhl]; rfl, fun k hk => (List.mem_append.mp hk).elim (hok k) fun e => by rw [List.mem_singleton.mp e]; exact l, fun v c e => ?_⟩
      have hvq : v ≠ q := fun z => by subst z; rw [hq0] at e; cases e
      have hvg : v ≠ g := fun z => by subst z; rw [hgO] at e; cases e
      rw [delO_ne hvq, setO_ne hvq, d.o v hvg]
      have := hsub2 v c e
      rw [delO_ne hvq] at this; exact this
    have hsl : (hs.map dLH).length < 1000000 := by rw [List.length_map]; omega
    cases hy : ys with
    | nil =>
      refine brn_f ?_
      w_dflts v_v
      refine call zs (List.length_pos_iff.mp (by omega)) (by omega) (fun _ h => h) _ fun h O3 l d => ?_
      obtain ⟨k0, hs', k1, k2, k3, k4⟩ := fin h O3 l d
      refine ⟨q, _, rfl, k0, hsl, ?_⟩
      w_dflts v_v
      exact ⟨hs', k1, k2, k3, k4, _, _, _, rfl⟩
    | cons y0 yr =>
      refine brn_t ?_
      rw [hy] at hym hyl
      refine wa_cons rfl ?_
      w_dflts v_v
      refine call (y0 :: yr) (by simp) (by omega) hym _ fun h O3 l d => ?_
      obtain ⟨k0, hs', k1, k2, k3, k4⟩ := fin h O3 l d
      refine ⟨q, _, rfl, k0, hsl, ?_⟩
      w_dflts v_v
      exact ⟨hs', k1, k2, k3, k4, _, _, _, rfl⟩
  · rintro ρ' O' ⟨hs, hhs, hhl, hok, hsub, x, y, u, rfl⟩
    rw [List.length_map, List.length_range, hmt] at hhl
    w_dflts v_u
    refine wss_cons (ws_ret (we_tup (wa_cons rfl ?_)))
    w_dflts v_name
    refine wa_cons rfl (we_giv ?_)
    w_dflts v_name
    refine giv_l hhs ?_
    w_dflts v_v
    refine ⟨by simp, ?_⟩
    exact ret_s hsub (hq zs hs dil ⟨znd, zok, hz1, by omega, by omega, by omega, hok, dpw, fun i hi => by have := drg i hi; omega⟩)
end

end Sd

-- B1

namespace Sd
section
variable {P : Program} {w : World} {K : PySem.W.Frag} {mg : Str → Option Value} {base : Heap} {f : Addr}
def intLike : D → Bool
  | .int _ => true
  | .bl _ => true
  | _ => false
def blLike : D → Bool
  | .bl _ => true
  | _ => false
theorem kb1 : kitB "NoneType" "int" = some false ∧ kitB "bool" "int" = some true ∧ kitB "int" "int" = some true ∧ kitB "str" "int" = some false ∧ kitB "tuple" "int" = some false ∧ kitB "list" "int" = some false ∧ kitB "dict" "int" = some false := by decide +kernel
theorem kb2 : kitB "NoneType" "bool" = some false ∧ kitB "bool" "bool" = some true ∧ kitB "int" "bool" = some false ∧ kitB "str" "bool" = some false ∧ kitB "tuple" "bool" = some false ∧ kitB "list" "bool" = some false ∧ kitB "dict" "bool" = some false := by decide +kernel
theorem kit_int {O : Own} {d : D} {t : String} (h : tyD O d = some t) : kitB t "int" = some (intLike d) := by
  obtain ⟨h1, h2, h3, h4, h5, h6, h7⟩ := kb1
  cases d with
  | raw a =>
    unfold tyD at h
    simp only at h
    split at h <;> cases h <;> assumption
  | ins => cases h
  | scr => cases h
  | ty => cases h
  | _ => cases h; assumption
theorem kit_bool {O : Own} {d : D} {t : String} (h : tyD O d = some t) : kitB t "bool" = some (blLike d) := by
  obtain ⟨h1, h2, h3, h4, h5, h6, h7⟩ := kb2
  cases d with
  | raw a =>
    unfold tyD at h
    simp only at h
    split at h <;> cases h <;> assumption
  | ins => cases h
  | scr => cases h
  | ty => cases h
  | _ => cases h; assumption
theorem b_is_integer (T : Bs mg) : BodyOk P w K mg base cIsInt s_is_integer f N_is_integer 0 "is_integer" := by
  intro cdv A outer s H E hr ds O Q hc
  obtain ⟨d, t, rfl, ht, hq⟩ := hc
  have hN := S_is_integer.nd
  obtain ⟨_, _, _, _, _, _, _, _, _, _, _, _, _⟩ := T
  refine wss_cons ?_
  w_dflts v_v
  refine isi_b ht (kit_int ht) ?_
  refine ⟨_, rfl, ?_⟩
  refine brn_i (fun e => ?_) (fun e => ?_)
  · w_dflts v_v
    refine isi_b ht (kit_bool ht) ?_
    w_dflts v_v
    refine ret_s (Sub.refl _) ?_
    have e2 : (!blLike d) = isIntD d := by cases d <;> first | rfl | cases e
    rw [e2]; exact hq
  · rw [e]
    refine ret_s (Sub.refl _) ?_
    have e2 : false = isIntD d := by cases d <;> first | rfl | cases e
    rw [e2]; exact hq
theorem b_is_state (T : Bs mg) (c1 : C8.Cal P w K mg base 1 "is_integer" (spC K cIsInt) []) : BodyOk P w K mg base cIsState s_is_state f N_is_state 1 "is_state" := by
  intro cdv A outer s H E hr ds O Q hc
  obtain ⟨i, rfl, hq⟩ := hc
  have hN := S_is_state.nd
  refine wss_cons ?_
  w_dflts v_v
  refine ⟨.int i, "int", rfl, rfl, ?_⟩
  w_dflts v_v
  refine brn_t ?_
  w_dflts v_v
  refine brn_i (fun e => ?_) (fun e => ?_)
  · rw [e] at hq
    w_dflts v_v
    exact ret_s (Sub.refl _) hq
  · rw [e] at hq
    exact ret_s (Sub.refl _) hq
theorem occ_az : ∀ c < 26, (!(Builtin.Str.occurrences az (⟨#[97 + c]⟩ : Str) 0 az.length 1).isEmpty) = true := by decide +kernel
theorem b_is_name (T : Bs mg) (gl : Gs mg "LETTERS" az) : BodyOk P w K mg base cIsName s_is_name f N_is_name 1 "is_name" := by
  intro cdv A outer s H E hr ds O Q hc
  obtain ⟨z, rfl, hz, hq⟩ := hc
  have hN := S_is_name.nd
  obtain ⟨_, _, _, _, _, _, _, _, _, _, _, _, _⟩ := T
  refine wss_cons ?_
  w_dflts v_v
  refine isi_b (t := "str") rfl (r := true) (by decide +kernel) ?_
  w_dflts v_v
  refine len_t (z := z) (by have := hz.2.1; omega) ?_
  w_dflts v_v
  refine brn_is (c := true) (by have := hz.1; simp; omega) (brn_t ?_)
  w_dflts v_v
  refine brn_is (c := false) (by have := hz.2.1; simp; omega) (brn_f ?_)
  w_dflts v_v
  refine .inr ⟨z, rfl, fun i ρ' O' => O' = O ∧ ∃ x, ρ' = [some (.str z), x], ⟨rfl, none, rfl⟩, fun _ _ _ _ _ => trivial, ?_, ?_⟩
  · rintro i d ρ' O' hd ⟨rfl, x, rfl⟩
    refine ⟨_, rfl, ?_⟩
    rw [List.getElem?_map] at hd
    cases hc : z.cps.toList[i]? with
    | none => rw [hc] at hd; cases hd
    | some c =>
    rw [hc] at hd
    cases hd
    have hm := hz.2.2 c (List.mem_of_getElem? hc)
    w_dflts v_v
    refine in_str' (b := true) ?_ ?_
    · have := occ_az (c - 97) (by omega)
      rw [show 97 + (c - 97) = c by omega] at this
      exact this
    w_dflts v_v
    refine brn_is (c := false) rfl ?_
    w_dflts v_v
    exact ⟨rfl, _, rfl⟩
  · rintro ρ' O' ⟨rfl, x, rfl⟩
    w_dflts v_v
    exact ret_s (Sub.refl _) hq
theorem kb3 : kitB "NoneType" "list" = some false ∧ kitB "bool" "list" = some false ∧ kitB "int" "list" = some false ∧ kitB "str" "list" = some false ∧ kitB "tuple" "list" = some false ∧ kitB "list" "list" = some true ∧ kitB "dict" "list" = some false := by decide +kernel
theorem kb4 : kitB "NoneType" "tuple" = some false ∧ kitB "bool" "tuple" = some false ∧ kitB "int" "tuple" = some false ∧ kitB "str" "tuple" = some false ∧ kitB "tuple" "tuple" = some true ∧ kitB "list" "tuple" = some false ∧ kitB "dict" "tuple" = some false := by decide +kernel
theorem kb5 : (("NoneType" : String) == "list") = false ∧ (("bool" : String) == "list") = false ∧ (("int" : String) == "list") = false ∧ (("str" : String) == "list") = false ∧ (("tuple" : String) == "list") = false ∧ (("list" : String) == "list") = true ∧ (("dict" : String) == "list") = false := by decide +kernel
theorem kb6 : (("NoneType" : String) == "tuple") = false ∧ (("bool" : String) == "tuple") = false ∧ (("int" : String) == "tuple") = false ∧ (("str" : String) == "tuple") = false ∧ (("tuple" : String) == "tuple") = true ∧ (("list" : String) == "tuple") = false ∧ (("dict" : String) == "tuple") = false := by decide +kernel
theorem kit_row {O : Own} {d : D} {t : String} (h : tyD O d = some t) : kitB t "list" = some (t == "list") ∧ kitB t "tuple" = some (t == "tuple") := by
  obtain ⟨a1, a2, a3, a4, a5, a6, a7⟩ := kb3
  obtain ⟨b1, b2, b3, b4, b5, b6, b7⟩ := kb4
  obtain ⟨c1, c2, c3, c4, c5, c6, c7⟩ := kb5
  obtain ⟨d1, d2, d3, d4, d5, d6, d7⟩ := kb6
  cases d with
  | raw a =>
    unfold tyD at h
    simp only at h
    split at h
    · cases h; rw [a6, b6, c6, d6]; exact ⟨rfl, rfl⟩
    · cases h; rw [a7, b7, c7, d7]; exact ⟨rfl, rfl⟩
    · cases h
  | ins => cases h
  | scr => cases h
  | ty => cases h
  | non => cases h; rw [a1, b1, c1, d1]; exact ⟨rfl, rfl⟩
  | bl => cases h; rw [a2, b2, c2, d2]; exact ⟨rfl, rfl⟩
  | int => cases h; rw [a3, b3, c3, d3]; exact ⟨rfl, rfl⟩
  | str => cases h; rw [a4, b4, c4, d4]; exact ⟨rfl, rfl⟩
  | tup => cases h; rw [a5, b5, c5, d5]; exact ⟨rfl, rfl⟩
  | lst => cases h; rw [a6, b6, c6, d6]; exact ⟨rfl, rfl⟩
theorem b_is_row (T : Bs mg) : BodyOk P w K mg base cIsRow s_is_row f N_is_row 0 "is_row" := by
  intro cdv A outer s H E hr ds O Q hc
  obtain ⟨d, t, rfl, ht, hq⟩ := hc
  have hN := S_is_row.nd
  obtain ⟨_, _, _, _, _, _, _, _, _, _, _, _, _⟩ := T
  refine wss_cons ?_
  w_dflts v_v
  refine ⟨by decide, ?_⟩
  w_dflts v_v
  refine isi_2 ht (kit_row ht).1 (kit_row ht).2 ?_
  exact ret_s (Sub.refl _) hq
theorem b_is_step (T : Bs mg) (c1 : C8.Cal P w K mg base 2 "is_state" (spC K cIsState) []) (c2 : C8.Cal P w K mg base 2 "is_name" (spC K cIsName) []) : BodyOk P w K mg base cIsStep s_is_step f N_is_step 2 "is_step" := by
  intro cdv A outer s H E hr ds O Q hc
  obtain ⟨st, rfl, ⟨h1, h2, h3⟩, hq⟩ := hc
  have hN := S_is_step.nd
  obtain ⟨_, _, _, _, _, _, _, _, _, _, _, _, _⟩ := T
  refine wss_cons ?_
  w_dflts v_v
  refine isi_b (t := "tuple") rfl (r := true) (by decide +kernel) ?_
  w_dflts v_v
  refine brn_is (c := false) rfl ?_
  w_dflts v_v
  refine ⟨_, rfl, ?_⟩
  rw [okSt_b h1]
  w_dflts v_v
  refine ⟨_, rfl, h2, ?_⟩
  w_dflts v_v
  refine ⟨_, rfl, ?_⟩
  rw [okSt_b h3]
  exact ret_s (Sub.refl _) hq
end

end Sd

-- B3

namespace Sd
section
variable {P : Program} {w : World} {K : PySem.W.Frag} {mg : Str → Option Value} {base : Heap} {f : Addr} {CH : Addr}
theorem lt_put {f : Str} {v : D} : ∀ {fs : List (Str × D)} {k : Nat}, fs.length < k → (putD f v fs).length < k + 1
  | [], k, h => by unfold putD; simp at h ⊢; exact h
  | (j, x) :: r, k, h => by
    unfold putD
    split
    · simp at h ⊢; omega
    · simp only [List.length_cons] at h ⊢
      have := lt_put (f := f) (v := v) (fs := r) (k := k - 1) (by omega)
      omega
theorem b_Hand_init (T : Bs mg) (HH : HT K mg CH) (g1 : Gi mg "MOST_WORDS_hands" 8) (g2 : Gi mg "MOST_STATES" 8) (c1 : C8.Cal P w K mg base 2 "is_state" (spC K cIsState) []) (c2 : C8.Cal P w K mg base 4 "checked_steps" (spC K cChkSteps) [])
    (c3 : C8.Cal P w K mg base 1 "reached_states" (spC K cReached) []) : BodyOk P w K mg base (cHandInit CH) s_Hand_init f N_Hand_init 4 "Hand.__init__" := by
  intro cdv A outer s H E hr ds O Q hc
  obtain ⟨p, st, d, xs, rfl, hp, hd, hs, h1, h2, hw8, hs8, hq⟩ := hc
  have hN := S_Hand_init.nd
  obtain ⟨_, _, _, _, _, _, _, _, _, _, _, _, _⟩ := T
  have h100 : xs.length ≤ 100 := Nat.le_trans h2.2.1 (by decide)
  refine wss_cons ?_
  w_dflts v_v
  refine ⟨st, rfl, ?_⟩
  rw [okSt_b h1]
  w_dflts v_v
  refine ⟨d, xs, rfl, hd, hs, h2, ?_⟩
  w_dflts v_v
  refine we_sc1 (α := Step) (own := [("step", 6)]) rfl hN (blkOk_by (N := N_Hand_init) (sc := C8.fnScope s_Hand_init) (by decide +kernel)) tgs_name (fun _ _ _ _ _ => pg_name (i := 6) hN rfl (Or.inl rfl)) (by decide) (fun _ => rfl) ?_
  w_dflts v_v
  refine .inl ⟨_, rfl, xs, dSt, (fun s => .inr s.w), rfl, rfl, by omega, fun a ha => ⟨_, rfl, fun _ _ _ _ _ => ?_⟩, fun q hq2 => ?_⟩
  · w_dflts v_v
    exact ⟨rfl, rfl⟩
  have hqp : p ≠ q := fun e => by rw [← e, hp] at hq2; cases hq2
  obtain ⟨ns, e1, e2, e3⟩ := acc_strs (xs.map (·.w))
  rw [List.map_map] at e1
  w_dflts v_v
  refine srt_ks setO_same e1 fun ws pm sw => ?_
  have hsw : sWords xs ws := ⟨pm.nodup_iff.mpr e2, sw, fun z => by rw [pm.mem_iff, e3, List.mem_map]⟩
  have hl8 := hw8 ws hsw
  w_dflts v_v
  refine brn_is (c := false) (by simp; omega) ?_
  w_dflts v_v
  refine ⟨_, xs, st, rfl, rfl, h100, fun ms mp mm => ?_⟩
  have hm8 := hs8 ms mp mm
  w_dflts v_v
  refine brn_is (c := false) (by simp; omega) ?_
  w_dflts v_v
  have hp2 : ∀ c, setO O q c p = some (.ins CH []) := fun c => by rw [setO_ne hqp]; exact hp
  refine ⟨p, CH, _, rfl, hp2 _, HH.start, by decide, ?_⟩
  w_dflts v_v
  refine ⟨p, CH, _, rfl, setO_same, HH.steps, lt_put (by decide), ?_⟩
  w_dflts v_v
  refine ⟨p, CH, _, rfl, setO_same, HH.words, lt_put (lt_put (by decide)), ?_⟩
  w_dflts v_v
  refine ⟨p, CH, _, rfl, setO_same, HH.states, lt_put (lt_put (lt_put (by decide))), ?_⟩
  w_dflts v_v
  rw [setO_set, setO_set, setO_set]
  refine ret_s ?_ (hq ⟨st, xs, ws, ms⟩ ⟨h1, h2, hsw, hl8, hm8, mp, mm⟩ rfl rfl)
  exact Sub.set2 ((Sub.refl O).set hq2)
def cHandEq (CH : Addr) : Ct := fun ds O Q => ∃ h g : HandR, ds = [dHand CH h, dHand CH g] ∧ (∀ s ∈ h.steps, okStep s) ∧ (∀ s ∈ g.steps, okStep s) ∧ Q (.bl (decide (h.start = g.start) && decide (h.steps = g.steps))) O
theorem b_Hand_eq (T : Bs mg) (HH : HT K mg CH) : BodyOk P w K mg base (cHandEq CH) s_Hand_eq f N_Hand_eq 0 "Hand.__eq__" := by
  intro cdv A outer s H E hr ds O Q hc
  obtain ⟨h, g, rfl, o1, o2, hq⟩ := hc
  have hN := S_Hand_eq.nd
  obtain ⟨_, _, _, _, _, _, _, _, _, _, _, _, _⟩ := T
  have hnm := HH.nm
  refine wss_cons ?_
  w_dflts v_v
  refine isi_own HH.ins ?_
  w_dflts v_v
  refine ⟨_, _, _, rfl, hand_start h, HH.start, ?_⟩
  w_dflts v_v
  refine ⟨_, _, _, rfl, hand_start g, HH.start, ?_⟩
  w_dflts v_v
  refine brn_i (fun e => ?_) (fun e => ?_)
  · rw [e] at hq
    w_dflts v_v
    refine ⟨_, _, _, rfl, hand_steps h, HH.steps, ?_⟩
    w_dflts v_v
    refine ⟨_, _, _, rfl, hand_steps g, HH.steps, ?_⟩
    refine eq_enc encSt.tup (fun s hs => (o1 s hs).2.1.so) (fun s hs => (o2 s hs).2.1.so) (by decide) ?_
    exact ret_s (Sub.refl _) (by simpa using hq)
  · rw [e] at hq ⊢
    exact ret_s (Sub.refl _) (by simpa using hq)
end

end Sd

-- B4

namespace Sd
section
variable {P : Program} {w : World} {K : PySem.W.Frag} {mg : Str → Option Value} {base : Heap} {f : Addr} {CH CS : Addr}
theorem b_checked_hands (T : Bs mg) (HH : HT K mg CH) (g1 : Gi mg "MOST_HANDS" 4) (c1 : C8.Cal P w K mg base 1 "is_row" (spC K cIsRow) []) : BodyOk P w K mg base (cChkHands CH) s_checked_hands f N_checked_hands 1 "checked_hands" := by
  intro cdv A outer s H E hr ds O Q hc
  obtain ⟨d, hs, rfl, hd, hns, h1, h2, hq⟩ := hc
  have hN := S_checked_hands.nd
  obtain ⟨_, _, _, _, _, _, _, _, _, _, _, _, _⟩ := T
  have hnm := HH.nm
  obtain ⟨t, ht, ht2⟩ := ty_row hd hns
  refine wss_cons ?_
  w_dflts v_v
  refine ⟨d, t, rfl, ht, ?_⟩
  rw [ht2]
  w_dflts v_v
  refine brn_is (c := true) (by simp; omega) (brn_t ?_)
  w_dflts v_v
  refine brn_is (c := false) (by simp; omega) ?_
  w_dflts v_v
  refine ⟨_, hd, ?_⟩
  rw [enum_map]
  refine ⟨fun i ρ' O' => O' = O ∧ ∃ x y, ρ' = [some d, x, y], ⟨rfl, none, none, rfl⟩, ?_, ?_, ?_⟩
  · rintro i ρ' O' _ ⟨rfl, _⟩
    exact hd
  · rintro i e ρ' O' he ⟨rfl, x, y, rfl⟩
    rw [List.getElem?_map, List.getElem?_zipIdx] at he
    cases ha : hs[i]? with
    | none => rw [ha] at he; cases he
    | some a =>
    rw [ha] at he
    cases he
    refine ⟨_, rfl, ?_⟩
    w_dflts v_v
    refine isi_own HH.ins ?_
    w_dflts v_v
    exact ⟨rfl, _, _, rfl⟩
  · rintro ρ' O' ⟨rfl, x, y, rfl⟩
    w_dflts v_v
    exact ret_s (Sub.refl _) hq
theorem b_checked_diligent (T : Bs mg) (c1 : C8.Cal P w K mg base 1 "is_row" (spC K cIsRow) []) (c2 : C8.Cal P w K mg base 1 "is_integer" (spC K cIsInt) []) : BodyOk P w K mg base cChkDil s_checked_diligent f N_checked_diligent 1 "checked_diligent" := by
  intro cdv A outer s H E hr ds O Q hc
  obtain ⟨d, n, is, rfl, hn, had, hq⟩ := hc
  have hN := S_checked_diligent.nd
  obtain ⟨_, _, _, _, _, _, _, _, _, _, _, _, _⟩ := T
  refine wss_cons ?_
  w_dflts v_v
  rcases had with ⟨rfl, rfl⟩ | ⟨hd, hns, nd, rng⟩
  · refine brn_is (c := true) rfl ?_
    w_dflts v_v
    refine ⟨by omega, ?_⟩
    have e : (List.range n).map (fun (i : Nat) => D.int (i : Int)) = (((List.range n).map fun (i : Nat) => (i : Int)).map .int) := by rw [List.map_map]; rfl
    rw [e]
    refine ret_s (Sub.refl _) (hq _ ?_ fun x => Iff.rfl)
    exact List.pairwise_map.mpr (List.pairwise_lt_range.imp fun h => by omega)
  · refine brn_is (c := false) (by cases d <;> first | rfl | cases hd) ?_
    w_dflts v_v
    obtain ⟨t, ht, ht2⟩ := ty_row hd hns
    refine ⟨d, t, rfl, ht, ?_⟩
    rw [ht2]
    w_dflts v_v
    refine ⟨by decide, fun p hp => ?_⟩
    w_dflts v_v
    refine .inl ⟨_, asL_set hp hd, fun i ρ' O' => O' = setO O p (.lst ((is.take i).map .int)) ∧ ∃ x, ρ' = [some d, some (.int n), some (.raw p), x], ⟨rfl, none, rfl⟩, ?_, ?_, ?_⟩
    · rintro i ρ' O' _ ⟨rfl, x, rfl⟩
      exact asL_set hp hd
    · rintro i e ρ' O' he ⟨rfl, x, rfl⟩
      rw [List.getElem?_map] at he
      cases ha : is[i]? with
      | none => rw [ha] at he; cases he
      | some a =>
      rw [ha] at he
      cases he
      have hm := rng a (List.mem_of_getElem? ha)
      refine ⟨_, rfl, ?_⟩
      w_dflts v_v
      refine ⟨.int a, "int", rfl, rfl, ?_⟩
      w_dflts v_v
      refine brn_is (c := false) rfl ?_
      w_dflts v_v
      refine brn_is (c := true) (by simp; omega) ?_
      w_dflts v_v
      refine brn_is (c := false) (by simp; omega) ?_
      w_dflts v_v
      refine in_i (asL_raw setO_same) ?_
      rw [decide_eq_false (not_mem_take nd ha)]
      w_dflts v_v
      refine ⟨⟨p, _, rfl, setO_same⟩, ?_⟩
      w_dflts v_v
      refine ⟨p, _, rfl, setO_same, ?_, ?_⟩
      · have hsub := len_sub (ys := (List.range n).map fun (i : Nat) => (i : Int)) nd fun x hx => by
          have := rng x hx
          exact List.mem_map.mpr ⟨x.toNat, List.mem_range.mpr (by omega), by omega⟩
        rw [List.length_map, List.length_range] at hsub
        rw [List.length_map, List.length_take]; omega
      w_dflts v_v
      refine ⟨?_, _, rfl⟩
      rw [setO_set, take_one ha, List.map_append]; rfl
    · rintro ρ' O' ⟨rfl, x, rfl⟩
      w_dflts v_v
      rw [List.length_map, List.take_length]
      refine srt_i (asL_raw setO_same) (fun ds e => by cases e) fun ms pm pw => ?_
      w_dflts v_v
      exact ret_s ((Sub.refl O).set hp) (hq ms (lt_of_le_nodup ms pw (pm.nodup_iff.mpr nd)) fun x => pm.mem_iff)
end

end Sd

-- B6

namespace Sd
section
variable {P : Program} {w : World} {K : PySem.W.Frag} {mg : Str → Option Value} {base : Heap} {f : Addr} {CH CS : Addr}
theorem fm_map {α β : Type} (f : α → β) (xs : List α) : (xs.filterMap fun a => some (f a)) = xs.map f := by rw [← List.filterMap_eq_map]; rfl
theorem b_System_init (T : Bs mg) (HH : HT K mg CH) (SS : ST K mg CS) (g1 : Gi mg "MOST_WORDS_systems" 12) (c1 : C8.Cal P w K mg base 2 "checked_hands" (spC K (cChkHands CH)) []) (c2 : C8.Cal P w K mg base 2 "checked_diligent" (spC K cChkDil) []) :
    BodyOk P w K mg base (cSysInit CH CS) s_System_init f N_System_init 2 "System.__init__" := by
  intro cdv A outer s' H E hr ds O Q hc
  obtain ⟨p, dh, dd, hs, is, rfl, hp, hd, hns, h1, h4, okh, had, hw12, hq⟩ := hc
  have hN := S_System_init.nd
  obtain ⟨_, _, _, _, _, _, _, _, _, _, _, _, _⟩ := T
  refine wss_cons ?_
  w_dflts v_v
  refine ⟨dh, hs, rfl, hd, hns, h1, h4, ?_⟩
  w_dflts v_v
  rw [List.length_map]
  refine ⟨dd, hs.length, is, rfl, by omega, had, fun ms mp mm => ?_⟩
  w_dflts v_v
  refine we_sc2 (α := HandR) (β := Str) (own := [("hand", 6), ("word", 7)]) rfl hN (blkOk_by (N := N_System_init) (sc := C8.fnScope s_System_init) (by decide +kernel)) tgs_name (fun _ _ _ _ _ => pg_name (i := 6) hN rfl (Or.inl rfl)) (by decide) (fun _ => rfl) tgs_name (fun _ _ _ _ _ => pg_name (i := 7) hN rfl (Or.inl rfl)) (by decide) (fun _ _ => rfl) ?_
  w_dflts v_v
  have hfl : (hs.flatMap (·.words)).length ≤ 4000 := by
    have : ∀ ks : List HandR, (∀ h ∈ ks, OkH h) → (ks.flatMap (·.words)).length ≤ 8 * ks.length := fun ks => by
      induction ks with
      | nil => intro _; simp
      | cons k ks ih =>
        intro h
        have := ih fun x hx => h x (List.mem_cons_of_mem _ hx)
        have := (h k List.mem_cons_self).wl
        rw [List.flatMap_cons, List.length_append, List.length_cons]; omega
    have := this hs okh
    omega
  refine .inl ⟨_, rfl, hs, dHand CH, (fun h => h.words), D.str, Sum.inr, rfl, rfl, hfl, fun a ha => ⟨_, rfl, fun r c hr2 _ _ _ _ _ => ?_⟩, fun q hq2 => ?_⟩
  · w_dflts v_v
    refine ⟨_, _, _, rfl, hand_words a, HH.words, ?_⟩
    refine .inl ⟨_, rfl, rfl, fun c' => rfl, rfl, fun b hb => ⟨_, rfl, fun c' _ _ _ _ _ => ?_⟩⟩
    w_dflts v_v
    exact ⟨rfl, rfl⟩
  have hqp : p ≠ q := fun e => by rw [← e, hp] at hq2; cases hq2
  obtain ⟨ns, e1, e2, e3⟩ := acc_strs (hs.flatMap (·.words))
  w_dflts v_v
  refine srt_ks setO_same e1 fun ws pm sw => ?_
  have nd := pm.nodup_iff.mpr e2
  have hwm : ∀ z, z ∈ ws ↔ ∃ h ∈ hs, z ∈ h.words := fun z => by rw [pm.mem_iff, e3, List.mem_flatMap]
  have h12 := hw12 ws nd hwm
  w_dflts v_v
  refine brn_is (c := false) (by simp; omega) ?_
  w_dflts v_v
  have hp2 : ∀ c, setO O q c p = some (.ins CS []) := fun c => by rw [setO_ne hqp]; exact hp
  refine ⟨p, CS, _, rfl, hp2 _, SS.hands, by decide, ?_⟩
  w_dflts v_v
  refine ⟨p, CS, _, rfl, setO_same, SS.dil, lt_put (by decide), ?_⟩
  w_dflts v_v
  refine ⟨p, CS, _, rfl, setO_same, SS.words, lt_put (lt_put (by decide)), ?_⟩
  w_dflts v_v
  refine we_lc (own := [("hand", 6)]) rfl hN (blkOk_by (N := N_System_init) (sc := C8.fnScope s_System_init) (by decide +kernel)) tgs_name (fun _ _ _ _ _ => pg_name (i := 6) hN rfl (Or.inl rfl)) (by decide) (fun _ => rfl) ?_
  w_dflts v_v
  refine .inl ⟨_, rfl, lc_pure (fun h : HandR => some h.start) .int (Nat.le_trans h4 (by decide)) rfl (fun a ha => ⟨_, rfl, fun _ _ _ _ _ => ?_⟩) ?_⟩
  · w_dflts v_v
    intro _ _ _ _ _
    w_dflts v_v
    exact ⟨_, _, _, rfl, hand_start a, HH.start, rfl, a.start, rfl, rfl⟩
  w_dflts v_v
  refine ⟨p, CS, _, rfl, setO_same, SS.start, lt_put (lt_put (lt_put (by decide))), ?_⟩
  w_dflts v_v
  rw [setO_set, setO_set, setO_set, fm_map]
  refine ret_s ?_ (hq ⟨hs, ms, ws, hs.map (·.start)⟩ ⟨h1, h4, okh, mp, fun i hi => ?_, nd, sw, hwm, h12, rfl⟩ rfl mm)
  · exact Sub.set2 ((Sub.refl O).set hq2)
  · have hi := (mm i).mp hi
    rcases had with ⟨_, rfl⟩ | ⟨_, _, _, rng⟩
    · obtain ⟨k, hk, rfl⟩ := List.mem_map.mp hi
      have := List.mem_range.mp hk
      show 0 ≤ (k : Int) ∧ (k : Int) < (hs.length : Int)
      omega
    · exact rng i hi
theorem b_System_with_diligent (T : Bs mg) (SS : ST K mg CS) (c1 : C8.Mak P w K mg base 3 "System" CS (spC K (cSysInit CH CS)) []) : BodyOk P w K mg base (cWithDil CH CS) s_System_with_diligent f N_System_with_diligent 4 "System.with_diligent" := by
  intro cdv A outer s' H E hr ds O Q hc
  obtain ⟨s, dd, is, rfl, ok, had, hq⟩ := hc
  have hN := S_System_with_diligent.nd
  refine wss_cons ?_
  w_dflts v_v
  refine ⟨_, _, _, rfl, sys_hands s, SS.hands, ?_⟩
  w_dflts v_v
  intro q hq2
  have had2 : DilArg (setO O q (.ins CS [])) dd s.hands.length is := had.imp id fun h => ⟨asL_set hq2 h.1, h.2⟩
  refine ⟨q, _, dd, s.hands, is, rfl, setO_same, rfl, (fun ns e => by cases e), ok.lo, ok.hi, ok.hands, had2, fun ws nd hw => ?_, fun t okt e1 e2 => ⟨rfl, _, setO_same, ?_⟩⟩
  · have := len_sub nd fun z hz => (ok.words z).mpr ((hw z).mp hz)
    exact Nat.le_trans this ok.wl
  · rw [setO_set]
    refine ret_s (((Sub.refl O).set hq2).del hq2) (hq t okt e1 (by rw [okt.start, ok.start, e1]) e2)
end

end Sd

-- L6

namespace Sd
section
variable {P : Program} {w : World} {K : PySem.W.Frag} {mg : Str → Option Value} {base : Heap} {f : Addr} {CH CS : Addr}
theorem delO_setO {O : Own} {p : Addr} {c : OC} (h : O p = none) : delO (setO O p c) p = O := by
  funext b
  by_cases e : b = p
  · subst e; rw [delO_same, h]
  · rw [delO_ne e, setO_ne e]
theorem b_law_system (T : Bs mg) (HH : HT K mg CH) (SS : ST K mg CS) (c1 : C8.Mak P w K mg base 5 "Hand" CH (spC K (cHandInit CH)) []) (c2 : C8.Mak P w K mg base 3 "System" CS (spC K (cSysInit CH CS)) []) :
    BodyOk P w K mg base (cLSys CH CS) s_law_system f N_law_system 6 "_law_system" := by
  intro cdv A outer s' H E hr ds O Q hc
  obtain ⟨zs, hs, dil, rfl, pr, hq⟩ := hc
  have hN := S_law_system.nd
  obtain ⟨_, _, _, _, _, _, _, _, _, _, _, _, _⟩ := T
  have hh4 := pr.h2
  have hz8 := pr.z2
  refine wss_cons ?_
  w_dflts v_v
  refine we_lc (own := [("one", 2)]) rfl hN (blkOk_by (N := N_law_system) (sc := C8.fnScope s_law_system) (by decide +kernel)) tgs_name (fun _ _ _ _ _ => pg_name (i := 2) hN rfl (Or.inl rfl)) (by decide) (fun _ => rfl) ?_
  w_dflts v_v
  refine .inl ⟨_, rfl, fun i acc O' => O' = O ∧ ∃ rs : List HandR, acc = rs.map (dHand CH) ∧ (∀ r ∈ rs, OkH r ∧ ∀ z ∈ r.words, z ∈ zs) ∧ rs.map (fun h => (h.start, h.steps)) = hs.take i, ⟨rfl, [], rfl, by simp, by simp⟩, ?_, ?_, ?_⟩
  · rintro i acc O' hi ⟨rfl, rs, rfl, _, e⟩
    have := congrArg List.length e
    rw [List.length_map, List.length_take] at this
    exact ⟨rfl, by rw [List.length_map]; omega⟩
  · rintro i d acc O' hd ⟨rfl, rs, rfl, hrs, hre⟩
    rw [List.getElem?_map] at hd
    cases ha : hs[i]? with
    | none => rw [ha] at hd; cases hd
    | some h =>
    rw [ha] at hd
    cases hd
    have lh := pr.hands h (List.mem_of_getElem? ha)
    refine ⟨_, rfl, fun _ _ _ _ _ => ?_⟩
    w_dflts v_v
    intro _ _ _ _ _
    w_dflts v_v
    intro q hq2
    obtain ⟨pl, pl8, plst, plb⟩ := lh.pl
    refine ⟨q, h.1, _, h.2, rfl, setO_same, rfl, (fun ns e => by cases e), lh.st, lh.steps, fun ws hw => ?_, fun ms mp mm => ?_, fun g gok g1 g2 => ⟨rfl, _, setO_same, ?_⟩⟩
    · have := len_sub (ys := zs) hw.1 fun z hz => by
        obtain ⟨s, hs, e⟩ := (hw.2.2 z).mp hz
        rw [← e]; exact lh.w s hs
      omega
    · have nd : ms.Nodup := mp.imp fun h => by omega
      have := len_sub (ys := pl) nd fun x hx => by
        have := (mm x).mp hx
        cases this with
        | here => exact plst
        | step hs _ => exact plb _ hs
      omega
    · rw [setO_set, delO_setO hq2]
      refine ⟨rfl, rs ++ [g], by rw [List.map_append]; rfl, fun r hr => ?_, ?_⟩
      · rcases List.mem_append.mp hr with h2 | h2
        · exact hrs r h2
        · rw [List.mem_singleton.mp h2]
          refine ⟨gok, fun z hz => ?_⟩
          obtain ⟨s, hs, e⟩ := (gok.words.2.2 z).mp hz
          rw [g2] at hs
          rw [← e]; exact lh.w s hs
      · rw [List.map_append, hre, take_one ha, List.map_cons, List.map_nil, g1, g2]
  rintro acc O' ⟨rfl, rs, rfl, hrs, hre⟩
  rw [List.length_map, List.take_length] at hre
  have hl : rs.length = hs.length := by rw [← hre, List.length_map]
  w_dflts v_v
  intro q hq2
  have had : DilArg (setO O' q (.ins CS [])) (.lst (dil.map .int)) rs.length dil := .inr ⟨rfl, (fun ns e => by cases e), pr.dp.imp fun h => by omega, fun i hi => by have := pr.dr i hi; rw [hl]; exact this⟩
  refine ⟨q, _, _, rs, dil, rfl, setO_same, rfl, (fun ns e => by cases e), by rw [hl]; exact pr.h1, by rw [hl]; omega, fun r hr => (hrs r hr).1, had, fun ws nd hw => ?_, fun t okt e1 e2 => ⟨rfl, _, setO_same, ?_⟩⟩
  · have := len_sub (ys := zs) nd fun z hz => by
      obtain ⟨r, h1, h2⟩ := (hw z).mp hz
      exact (hrs r h1).2 z h2
    omega
  · rw [setO_set, delO_setO hq2]
    exact ret_s (Sub.refl _) (hq t okt (by unfold Link; rw [e1]; exact hre) e2)
theorem b_law_words (T : Bs mg) : BodyOk P w K mg base cLWords s_law_words f N_law_words 0 "_law_words" := by
  intro cdv A outer s' H E hr ds O Q hc
  obtain ⟨hs, zs, rfl, hz, hw, hq⟩ := hc
  have hN := S_law_words.nd
  obtain ⟨_, _, _, _, _, _, _, _, _, _, _, _, _⟩ := T
  refine wss_cons ?_
  w_dflts v_v
  refine ⟨by decide, fun q hq2 => ?_⟩
  w_dflts v_v
  refine .inl ⟨_, rfl, fun i ρ' O' => ∃ ws : List Str, O' = setO O q (.lst (ws.map .str)) ∧ ws.Nodup ∧ (∀ z, z ∈ ws ↔ ∃ h ∈ hs.take i, ∃ s ∈ h.2, s.w = z) ∧ ∃ x y, ρ' = [some (.lst (hs.map dLH)), some (.raw q), x, y], ⟨[], rfl, by simp, by simp, none, none, rfl⟩, ?_, ?_, ?_⟩
  · intro i ρ' O' _ _
    rfl
  · rintro i d ρ' O' hd ⟨ws, rfl, nd, hm, x, y, rfl⟩
    rw [List.getElem?_map] at hd
    cases ha : hs[i]? with
    | none => rw [ha] at hd; cases hd
    | some h =>
    rw [ha] at hd
    cases hd
    have hh := List.mem_of_getElem? ha
    refine ⟨_, rfl, ?_⟩
    w_dflts v_v
    refine .inl ⟨_, rfl, fun j ρ' O' => ∃ ws : List Str, O' = setO O q (.lst (ws.map .str)) ∧ ws.Nodup ∧ (∀ z, z ∈ ws ↔ (∃ h ∈ hs.take i, ∃ s ∈ h.2, s.w = z) ∨ ∃ s ∈ h.2.take j, s.w = z) ∧ ∃ y, ρ' = [some (.lst (hs.map dLH)), some (.raw q), some (dLH h), y], ⟨ws, rfl, nd, by simpa using hm, y, rfl⟩, ?_, ?_, ?_⟩
    · intro j ρ' O' _ _
      rfl
    · rintro j e ρ' O' he ⟨ws, rfl, nd, hm, y, rfl⟩
      rw [List.getElem?_map] at he
      cases hb : h.2[j]? with
      | none => rw [hb] at he; cases he
      | some s =>
      rw [hb] at he
      cases he
      have hsm := List.mem_of_getElem? hb
      have sub : ∀ z ∈ ws, z ∈ zs := fun z hz2 => by
        rcases (hm z).mp hz2 with ⟨h', h1, s', h2, e⟩ | ⟨s', h2, e⟩
        · rw [← e]; exact hw h' (List.mem_of_mem_take h1) s' h2
        · rw [← e]; exact hw h hh s' (List.mem_of_mem_take h2)
      have hwl := len_sub nd sub
      refine ⟨_, rfl, ?_⟩
      w_dflts v_v
      refine nin_s (asL_raw setO_same) ?_
      w_dflts v_v
      refine brn_ndec (fun e => ?_) (fun e => ?_)
      · w_dflts v_v
        refine ⟨⟨q, _, rfl, setO_same⟩, ?_⟩
        w_dflts v_v
        refine ⟨q, _, rfl, setO_same, by rw [List.length_map]; omega, ?_⟩
        w_dflts v_v
        refine ⟨ws ++ [s.w], by rw [setO_set, List.map_append]; rfl, List.nodup_append.mpr ⟨nd, by simp, fun a ha b hb e2 => e (by rw [← List.mem_singleton.mp hb, ← e2]; exact ha)⟩, fun z => ?_, _, rfl⟩
        rw [List.mem_append, hm, take_one hb, List.mem_singleton]
        constructor
        · rintro ((h1 | ⟨s', h2, e2⟩) | h3)
          · exact .inl h1
          · exact .inr ⟨s', List.mem_append_left _ h2, e2⟩
          · exact .inr ⟨s, by simp, h3.symm⟩
        · rintro (h1 | ⟨s', h2, e2⟩)
          · exact .inl (.inl h1)
          · rcases List.mem_append.mp h2 with h2 | h2
            · exact .inl (.inr ⟨s', h2, e2⟩)
            · rw [List.mem_singleton.mp h2] at e2; exact .inr e2.symm
      · w_dflts v_v
        have e : s.w ∈ ws := by simpa using e
        refine ⟨nd, fun z => ?_, _, rfl⟩
        rw [hm, take_one hb]
        constructor
        · rintro (h1 | ⟨s', h2, e2⟩)
          · exact .inl h1
          · exact .inr ⟨s', List.mem_append_left _ h2, e2⟩
        · rintro (h1 | ⟨s', h2, e2⟩)
          · exact .inl h1
          · rcases List.mem_append.mp h2 with h2 | h2
            · exact .inr ⟨s', h2, e2⟩
            · rw [List.mem_singleton.mp h2] at e2
              rw [e2] at e
              exact (hm z).mp e
    · rintro ρ' O' ⟨ws, rfl, nd, hm, y, rfl⟩
      rw [List.length_map, List.take_length] at hm
      w_dflts v_v
      refine ⟨nd, fun z => ?_, _, _, rfl⟩
      rw [hm, take_one ha]
      constructor
      · rintro (⟨h', h1, r⟩ | r)
        · exact ⟨h', List.mem_append_left _ h1, r⟩
        · exact ⟨h, by simp, r⟩
      · rintro ⟨h', h1, r⟩
        rcases List.mem_append.mp h1 with h1 | h1
        · exact .inl ⟨h', h1, r⟩
        · rw [List.mem_singleton.mp h1] at r; exact .inr r
  · rintro ρ' O' ⟨ws, rfl, nd, hm, x, y, rfl⟩
    rw [List.length_map, List.take_length] at hm
    have hwl := len_sub (ys := zs) nd fun z hz2 => by
      obtain ⟨h', h1, s', h2, e⟩ := (hm z).mp hz2
      rw [← e]; exact hw h' h1 s' h2
    w_dflts v_v
    refine srt_s (asL_raw setO_same) (fun ds e => by cases e) (by omega) fun ms pm sm => ?_
    exact ret_s ((Sub.refl O).set hq2) (hq ms (pm.nodup_iff.mpr nd) fun z => by rw [pm.mem_iff, hm])
end

end Sd

-- L7

namespace Sd
section
variable {P : Program} {w : World} {K : PySem.W.Frag} {mg : Str → Option Value} {base : Heap} {f : Addr} {CH CS : Addr}
theorem atI_nat0 {xs : List D} {i : Nat} {d : D} (h : xs[i]? = some d) : atI xs (0 + (i : Int)) = some d := by rw [Int.zero_add]; exact atI_nat h
theorem fmS {α β : Type} (f : α → β) (xs : List α) : (xs.filterMap fun a => some (f a)) = xs.map f := by rw [← List.filterMap_eq_map]; rfl
theorem b_law_numbers (T : Bs mg) : BodyOk P w K mg base cLNum s_law_numbers f N_law_numbers 0 "_law_numbers" := by
  intro cdv A outer s' H E hr ds O Q hc
  obtain ⟨h, x, z, rfl, hl, hok, hz, hq⟩ := hc
  have hN := S_law_numbers.nd
  obtain ⟨_, _, _, _, _, _, _, _, _, _, _, _, _⟩ := T
  unfold lnum at hq
  refine wss_cons ?_
  w_dflts v_v
  refine we_lc (own := [("step", 4)]) rfl hN (blkOk_by (N := N_law_numbers) (sc := C8.fnScope s_law_numbers) (by decide +kernel)) tgs_name (fun _ _ _ _ _ => pg_name (i := 4) hN rfl (Or.inl rfl)) (by decide) (fun _ => rfl) ?_
  w_dflts v_v
  refine .inl ⟨_, rfl, lc_pure (xs := h.2) (g := dSt) (fun s : Step => some s.w) .str (Nat.le_trans hl (by decide)) rfl (fun a ha => ⟨_, rfl, fun _ _ _ _ _ => ?_⟩) ?_⟩
  · w_dflts v_v
    intro _ _ _ _ _
    w_dflts v_v
    exact ⟨rfl, a.w, rfl, rfl⟩
  rw [fmS]
  refine nin_s (xs := h.2.map (·.w)) rfl ?_
  w_dflts v_v
  refine brn_ndec (fun e => ?_) (fun e => ?_)
  · rw [if_neg e] at hq
    w_dflts v_v
    refine ⟨by decide, fun p hp => ?_⟩
    exact ret_l setO_same (((Sub.refl O).set hp).del hp) hq
  · rw [if_pos e] at hq
    w_dflts v_v
    refine we_lc (own := [("at", 3)]) rfl hN (blkOk_by (N := N_law_numbers) (sc := C8.fnScope s_law_numbers) (by decide +kernel)) tgs_name (fun _ _ _ _ _ => pg_name (i := 3) hN rfl (Or.inl rfl)) (by decide) (fun _ => rfl) ?_
    w_dflts v_v
    rw [List.length_map]
    refine ⟨by omega, by omega, lc_pure (xs := List.range (h.2.length : Int).toNat) (β := Option Int) (fun i => match h.2[i]? with | some s => if s.a = x ∧ s.w = z then some (some (i : Int)) else none | none => none) dOpt (by rw [List.length_range]; omega) trivial (fun i hi => ⟨_, rfl, fun _ _ _ _ _ => ?_⟩) ?_⟩
    · have hi : i < h.2.length := by have := List.mem_range.mp hi; omega
      have hs := List.getElem?_eq_getElem hi
      generalize h.2[i] = s at hs
      have hsm := List.mem_of_getElem? hs
      w_dflts v_v
      refine ix_sq (ds := h.2.map dSt) rfl (atI_nat0 (d := dSt s) (by rw [List.getElem?_map, hs]; rfl)) ?_
      w_dflts v_v
      refine sl_t ?_
      have cut : cutD [D.int s.a, D.str s.w, D.int s.b] none (some 2) = [D.int s.a, D.str s.w] := by
        have := cutD_take [D.int s.a, D.str s.w, D.int s.b] 2
        exact this
      rw [cut]
      w_dflts v_v
      refine ⟨by simp, ?_⟩
      refine eq_enc (encI.pair encS) (a := (s.a, s.w)) (b := (x, z)) ⟨trivial, (hok s hsm).so⟩ ⟨trivial, hz.so⟩ (by decide) ?_
      w_dflts v_v
      refine brn_dec (fun e => ?_) (fun e => ?_)
      · intro _ _ _ _ _
        w_dflts v_v
        refine ⟨rfl, some (i : Int), ?_, by rw [Int.zero_add]; rfl⟩
        have e : (s.a, s.w) = (x, z) := e
        rw [hs]
        simp only [Prod.mk.injEq] at e
        show (if s.a = x ∧ s.w = z then some (some (i : Int)) else none) = _
        rw [if_pos e]
      · refine ⟨rfl, ?_⟩
        rw [hs]
        show (if s.a = x ∧ s.w = z then some (some (i : Int)) else none) = _
        rw [if_neg fun c => e (by rw [c.1, c.2])]
    · refine ret_s (Sub.refl _) ?_
      rw [Int.toNat_natCast]
      exact hq
theorem b_law_behind (T : Bs mg) : BodyOk P w K mg base cLBehind s_law_behind f N_law_behind 0 "_law_behind" := by
  intro cdv A outer s' H E hr ds O Q hc
  obtain ⟨hs, s, p, m, rfl, lk, ok, hp, hm, hq⟩ := hc
  have hN := S_law_behind.nd
  obtain ⟨_, _, _, _, _, _, _, _, _, _, _, _, _⟩ := T
  have hlen := zip3_len hp.1 hm.len
  have hi4 := ok.hi
  have hll := lk.len
  refine wss_cons ?_
  w_dflts v_v
  refine ⟨by decide, fun q hq2 => ?_⟩
  w_dflts v_v
  rw [List.length_map]
  refine ⟨by omega, by omega, fun i ρ' O' => O' = setO O q (.lst (((led s p m).take i).map .int)) ∧ ∃ x, ρ' = [some (.lst (hs.map dLH)), some (dPl p), some (dMove m), some (.raw q), x], ⟨rfl, none, rfl⟩, ?_, ?_, ?_⟩
  · intro i ρ' O' _ _
    trivial
  · rintro i d ρ' O' hd ⟨rfl, x, rfl⟩
    obtain ⟨hi, rfl⟩ := range_at hd
    rw [Int.toNat_natCast] at hi
    obtain ⟨h, ha, hb⟩ := lk.at' hi
    have hlt := (List.getElem?_eq_some_iff.mp ha).1
    have hpi : i < p.length := by rw [hp.1]; exact hlt
    have hmi : i < m.nums.length := by rw [hm.len]; exact hlt
    have hx := List.getElem?_eq_getElem hpi
    have hn := List.getElem?_eq_getElem hmi
    have hin := hm.num i h _ _ ha hx hn
    have hl := led_get ha hx hn
    have fin : ∀ y : Int, led1 h p[i] m.nums[i] = y → setO (setO O q (.lst (((led s p m).take i).map .int))) q (.lst (((led s p m).take i).map .int ++ [D.int y])) = setO O q (.lst (((led s p m).take (i + 1)).map .int)) := fun y e => by
      rw [setO_set, take_one hl, List.map_append, e]; rfl
    have small : (((led s p m).take i).map D.int).length < 1000000 := by rw [List.length_map, List.length_take]; omega
    refine ⟨_, rfl, ?_⟩
    w_dflts v_v
    refine ix_sq (ds := m.nums.map dOpt) rfl (atI_nat (d := dOpt m.nums[i]) (by rw [List.getElem?_map, hn]; rfl)) ?_
    w_dflts v_v
    have hat := atI_nat (xs := m.nums.map dOpt) (i := i) (d := dOpt m.nums[i]) (by rw [List.getElem?_map, hn]; rfl)
    generalize hnn : m.nums[i] = n at hin fin hat
    cases n with
    | none =>
      refine brn_is (c := true) rfl ?_
      w_dflts v_v
      refine ⟨⟨q, _, rfl, setO_same⟩, ?_⟩
      w_dflts v_v
      refine ix_sq (x := dPl p) (ds := p.map .int) rfl (atI_nat (d := .int p[i]) (by rw [List.getElem?_map, hx]; rfl)) ?_
      refine ⟨q, _, rfl, setO_same, small, ?_⟩
      w_dflts v_v
      exact ⟨fin _ rfl, _, rfl⟩
    | some j =>
      rcases nums_mem hin with ⟨e, _⟩ | ⟨i2, st, e, h1, h2, h3, h4⟩
      · cases e
      cases e
      refine brn_is (c := false) rfl ?_
      w_dflts v_v
      refine ⟨⟨q, _, rfl, setO_same⟩, ?_⟩
      w_dflts v_v
      refine ix_sq (ds := hs.map dLH) rfl (atI_nat (d := dLH (h.start, h.steps)) (by rw [List.getElem?_map, hb]; rfl)) ?_
      w_dflts v_v
      refine ix_sq (ds := m.nums.map dOpt) rfl hat ?_
      w_dflts v_v
      refine ix_sq (ds := h.steps.map dSt) rfl (atI_nat (d := dSt st) (by rw [List.getElem?_map, h1]; rfl)) ?_
      w_dflts v_v
      refine ⟨q, _, rfl, setO_same, small, ?_⟩
      w_dflts v_v
      exact ⟨fin _ (led1_some h1), _, rfl⟩
  · rintro ρ' O' ⟨rfl, x, rfl⟩
    w_dflts v_v
    rw [List.length_map, List.length_range, List.take_of_length_le (by rw [hlen]; omega)]
    exact ret_s ((Sub.refl O).set hq2) hq
end

end Sd

-- L8

namespace Sd
section
variable {P : Program} {w : World} {K : PySem.W.Frag} {mg : Str → Option Value} {base : Heap} {f : Addr} {CH CS : Addr}
def dRow (r : List (Option Int)) : D := .tup (r.map dOpt)
theorem fm_map' {α β : Type} (f : α → β) (xs : List α) : (xs.filterMap fun a => some (f a)) = xs.map f := by rw [← List.filterMap_eq_map]; rfl
theorem b_law_ways (T : Bs mg) (c1 : C8.Cal P w K mg base 1 "_law_words" (spC K cLWords) []) (c2 : C8.Cal P w K mg base 1 "_law_numbers" (spC K cLNum) []) (c3 : C8.Cal P w K mg base 1 "_law_behind" (spC K cLBehind) []) :
    BodyOk P w K mg base cLWays s_law_ways f N_law_ways 1 "_law_ways" := by
  intro cdv A outer s' H E hr ds O Q hc
  obtain ⟨hs, s, g, p, rfl, lk, ok, hp, ⟨G, n, ks, hg, knd, hn, kst, hG⟩, hq⟩ := hc
  have hN := S_law_ways.nd
  obtain ⟨_, _, _, _, _, _, _, _, _, _, _, _, _⟩ := T
  have h4 : hs.length ≤ 4 := by rw [lk.len]; exact ok.hi
  have hw12 := ok.wl
  have hfew := few ok knd fun k hk => (kst k hk).1
  have gok : GroundOk s O g := ⟨G, n, ks, hg, knd, hn, kst, hG⟩
  have hwords : ∀ h ∈ hs, ∀ st ∈ h.2, st.w ∈ s.words := fun h hh st hst => by
    obtain ⟨k, hk⟩ := List.getElem?_of_mem hh
    have hkl := (List.getElem?_eq_some_iff.mp hk).1
    obtain ⟨hd, e1, e2⟩ := lk.at' hkl
    rw [hk] at e2; cases e2
    have oh := ok.hands hd (List.mem_of_getElem? e1)
    exact (ok.words _).mpr ⟨hd, List.mem_of_getElem? e1, (oh.words.2.2 _).mpr ⟨st, hst, rfl⟩⟩
  have hwall : ∀ z ∈ s.words, ∃ h ∈ hs, ∃ st ∈ h.2, st.w = z := fun z hz => by
    obtain ⟨hd, h1, h2⟩ := (ok.words z).mp hz
    obtain ⟨k, hk⟩ := List.getElem?_of_mem h1
    obtain ⟨st, h3, h5⟩ := ((ok.hands hd h1).words.2.2 z).mp h2
    exact ⟨_, List.mem_of_getElem? (lk.at hk), st, h3, h5⟩
  have hname : ∀ z ∈ s.words, okName z := fun z hz => by
    obtain ⟨hd, h1, h2⟩ := (ok.words z).mp hz
    obtain ⟨st, h3, h5⟩ := ((ok.hands hd h1).words.2.2 z).mp h2
    rw [← h5]; exact ((ok.hands hd h1).steps.2.2.1 st h3).2.1
  refine wss_cons ?_
  w_dflts v_v
  refine in_dct (ks := p) hg ?_
  w_dflts v_v
  cases hGp : G p with
  | some d =>
    refine brn_is (c := true) rfl ?_
    obtain ⟨_, vs, rfl, hvs⟩ := hG p d hGp
    w_dflts v_v
    refine ix_dc (ks := p) hg hGp ?_
    exact ret_s (Sub.refl _) (hq vs O hvs (.refl gok))
  | none =>
  refine brn_is (c := false) rfl ?_
  w_dflts v_v
  refine ⟨by decide, fun q hq2 => ?_⟩
  have hqg : q ≠ g := fun e => by rw [e, hg] at hq2; cases hq2
  w_dflts v_v
  refine ⟨hs, s.words, rfl, hw12, hwords, fun ws wnd wm => ?_⟩
  have wm2 : ∀ z, z ∈ ws ↔ z ∈ s.words := fun z => (wm z).trans ⟨fun ⟨h, h1, st, h2, e⟩ => e ▸ hwords h h1 st h2, hwall z⟩
  have hwl := len_sub wnd fun z hz => (wm2 z).mp hz
  have wok := waysX_ok lk ok hp wm2 wnd
  refine .inl ⟨_, rfl, fun i ρ' O' => O' = setO O q (.lst ((waysX s hs p (ws.take i)).map dWay)) ∧ ∃ a b c d e f, ρ' = [some (.lst (hs.map dLH)), some (.raw g), some (dPl p), some (.raw q), a, b, c, d, e, f], ⟨rfl, none, none, none, none, none, none, rfl⟩, ?_, ?_, ?_⟩
  · intro i ρ' O' _ _
    rfl
  · rintro i d ρ' O' hd ⟨rfl, e1, e2, e3, e4, e5, e6, rfl⟩
    rw [List.getElem?_map] at hd
    cases ha : ws[i]? with
    | none => rw [ha] at hd; cases hd
    | some z =>
    rw [ha] at hd
    cases hd
    have hzs := (wm2 z).mp (List.mem_of_getElem? ha)
    have hi := (List.getElem?_eq_some_iff.mp ha).1
    refine ⟨_, rfl, ?_⟩
    refine wss_cons ?_
    w_dflts v_set
    refine we_lst ?_
    w_dflts v_v
    refine ⟨by simp, ?_⟩
    w_dflts v_v
    refine ⟨by simp, ?_⟩
    w_dflts v_v
    rw [List.length_map]
    have r256 : ∀ k, k ≤ hs.length → (rowsX hs p z k).length ≤ 256 := fun k hk => by
      have := rowsX_len (hs := hs) (p := p) (z := z) (k := k) fun j hj => by
        obtain ⟨h', x', e1, e2, e3, e4⟩ := link_get lk hp (show j < hs.length by omega)
        rw [e3]
        exact lnum_len (ok.hands h' (List.mem_of_getElem? e1)) _ _
      exact Nat.le_trans this (Nat.pow_le_pow_right (show 4 > 0 by decide) (show k ≤ 4 by omega))
    refine ⟨by omega, by omega, fun k ρ' O' => O' = setO O q (.lst ((waysX s hs p (ws.take i)).map dWay)) ∧ ∃ c d e f, ρ' = [some (.lst (hs.map dLH)), some (.raw g), some (dPl p), some (.raw q), some (.str z), some (.lst ((rowsX hs p z k).map dRow)), c, d, e, f], ⟨rfl, e3, e4, e5, e6, rfl⟩, ?_, ?_, ?_⟩
    · intro i ρ' O' _ _
      trivial
    · rintro k d ρ' O' hd ⟨rfl, e3, e4, e5, e6, rfl⟩
      obtain ⟨hk, rfl⟩ := range_at hd
      rw [Int.toNat_natCast] at hk
      obtain ⟨hd, x, l1, l2, l3, l4⟩ := link_get lk hp hk
      have hat : (hs.map dLH)[k]? = some (dLH (hd.start, hd.steps)) := by rw [List.getElem?_map, lk.at l1]; rfl
      have oh := ok.hands hd (List.mem_of_getElem? l1)
      have n4 := lnum_len oh x z
      have rk := r256 k (by omega)
      refine ⟨_, rfl, ?_⟩
      w_dflts v_v
      refine ⟨by decide, fun q2 hq3 => ?_⟩
      w_dflts v_u
      refine wss_cons ?_
      w_dflts v_u
      have hstep : ∀ j, ((rowsX hs p z k).take j).flatMap (fun r => (lnum hd.steps x z).map fun n => r ++ [n]) = ((rowsX hs p z k).take j).flatMap (fun r => (lnum ((hs.getD k (0, [])).2) (p.getD k 0) z).map fun n => r ++ [n]) := fun j => by rw [l3, l4]
      have lenL : ∀ (L : List (List (Option Int))), (L.flatMap fun r => (lnum hd.steps x z).map fun n => r ++ [n]).length ≤ 4 * L.length := fun L => by
        induction L with
        | nil => simp
        | cons r L ihL => rw [List.flatMap_cons, List.length_append, List.length_map, List.length_cons]; omega
      refine .inl ⟨_, rfl, fun j ρ' O' => O' = setO (setO O q (.lst ((waysX s hs p (ws.take i)).map dWay))) q2 (.lst ((((rowsX hs p z k).take j).flatMap fun r => (lnum hd.steps x z).map fun n => r ++ [n]).map dRow)) ∧
        ∃ e f, ρ' = [some (.lst (hs.map dLH)), some (.raw g), some (dPl p), some (.raw q), some (.str z), some (.lst ((rowsX hs p z k).map dRow)), some (.int (k : Int)), some (.raw q2), e, f], ⟨rfl, e5, e6, rfl⟩, ?_, ?_, ?_⟩
      · intro j ρ' O' _ _
        rfl
      · rintro j e ρ' O' he ⟨rfl, e5, e6, rfl⟩
        rw [List.getElem?_map] at he
        cases hb : (rowsX hs p z k)[j]? with
        | none => rw [hb] at he; cases he
        | some r =>
        rw [hb] at he
        cases he
        have hj := (List.getElem?_eq_some_iff.mp hb).1
        have hrl := (rowsX_mem (List.mem_of_getElem? hb)).1
        refine ⟨_, rfl, ?_⟩
        w_dflts v_v
        refine ix_sq (ds := hs.map dLH) rfl (atI_nat hat) ?_
        w_dflts v_v
        refine ix_sq (x := dPl p) (ds := p.map .int) rfl (atI_nat (d := .int x) (by rw [List.getElem?_map, l2]; rfl)) ?_
        w_dflts v_v
        refine ⟨(hd.start, hd.steps), x, z, rfl, Nat.le_trans oh.steps.2.1 (by decide), fun st hst => (oh.steps.2.2.1 st hst).2.1, hname z hzs, ?_⟩
        refine .inl ⟨_, rfl, fun t ρ' O' => O' = setO (setO O q (.lst ((waysX s hs p (ws.take i)).map dWay))) q2 (.lst (((((rowsX hs p z k).take j).flatMap fun r => (lnum hd.steps x z).map fun n => r ++ [n]) ++ ((lnum hd.steps x z).take t).map fun n => r ++ [n]).map dRow)) ∧
          ∃ f, ρ' = [some (.lst (hs.map dLH)), some (.raw g), some (dPl p), some (.raw q), some (.str z), some (.lst ((rowsX hs p z k).map dRow)), some (.int (k : Int)), some (.raw q2), some (dRow r), f], ⟨by rw [List.take_zero, List.map_nil, List.append_nil], e6, rfl⟩, ?_, ?_, ?_⟩
        · intro j ρ' O' _ _
          rfl
        · rintro t e ρ' O' he ⟨rfl, e6, rfl⟩
          rw [List.getElem?_map] at he
          cases hm : (lnum hd.steps x z)[t]? with
          | none => rw [hm] at he; cases he
          | some nn =>
          rw [hm] at he
          cases he
          have ht := (List.getElem?_eq_some_iff.mp hm).1
          refine ⟨_, rfl, ?_⟩
          w_dflts v_v
          refine ⟨⟨q2, _, rfl, setO_same⟩, ?_⟩
          w_dflts v_v
          refine ⟨by simp, ?_⟩
          refine add_tt (by rw [List.length_map, hrl]; simp; omega) ?_
          refine ⟨q2, _, rfl, setO_same, ?_, ?_⟩
          · have := lenL ((rowsX hs p z k).take j)
            rw [List.length_take] at this
            rw [List.length_map, List.length_append, List.length_map, List.length_take]; omega
          w_dflts v_v
          refine ⟨?_, _, rfl⟩
          rw [setO_set, take_one hm, List.map_append (l₂ := [nn]), ← List.append_assoc, List.map_append (l₂ := [nn].map fun n => r ++ [n])]
          have : [nn].map (fun n => r ++ [n]) = [r ++ [nn]] := rfl
          rw [this]
          have e2 : [r ++ [nn]].map dRow = [D.tup (r.map dOpt ++ [dOpt nn])] := by show [dRow (r ++ [nn])] = _; unfold dRow; rw [List.map_append]; rfl
          rw [e2]
        · rintro ρ' O' ⟨rfl, e6, rfl⟩
          rw [List.length_map, List.take_length]
          w_dflts v_v
          refine ⟨?_, _, _, rfl⟩
          rw [take_one hb, List.flatMap_append]
          simp only [List.flatMap_cons, List.flatMap_nil, List.append_nil]
      · rintro ρ' O' ⟨rfl, e5, e6, rfl⟩
        rw [List.length_map, List.take_length]
        w_dflts v_u
        refine wss_frz (i := 7) (q := q2) rfl setO_same ?_
        rw [delO_setO hq3]
        w_dflts v_v
        refine ⟨rfl, some (.int (k : Int)), some (.lst (((rowsX hs p z k).flatMap fun r => (lnum hd.steps x z).map fun n => r ++ [n]).map dRow)), e5, e6, ?_⟩
        have : rowsX hs p z (k + 1) = (rowsX hs p z k).flatMap fun r => (lnum hd.steps x z).map fun n => r ++ [n] := by
          show List.flatMap _ _ = _
          rw [l3, l4]
        rw [this]
        rfl
    · rintro ρ' O' ⟨rfl, e3, e4, e5, e6, rfl⟩
      rw [List.length_map, List.length_range, Int.toNat_natCast]
      have rk := r256 hs.length (Nat.le_refl _)
      w_dflts v_v
      refine ⟨⟨q, _, rfl, setO_same⟩, ?_⟩
      refine we_lc (own := [("row", 8)]) rfl hN (blkOk_by (N := N_law_ways) (sc := C8.fnScope s_law_ways) (by decide +kernel)) tgs_name (fun _ _ _ _ _ => pg_name (i := 8) hN rfl (Or.inl rfl)) (by decide) (fun _ => rfl) ?_
      w_dflts v_v
      refine .inl ⟨_, rfl, lc_pure (xs := rowsX hs p z hs.length) (β := Way) (fun r => some ((⟨z, r⟩, led s p ⟨z, r⟩) : Way)) dWay (by omega) rfl (fun r hr => ⟨_, rfl, fun _ _ _ _ _ => ?_⟩) ?_⟩
      · w_dflts v_v
        intro _ _ _ _ _
        w_dflts v_v
        refine ⟨by simp, ?_⟩
        w_dflts v_v
        refine ⟨by simp, ?_⟩
        w_dflts v_v
        refine ⟨hs, s, p, ⟨z, r⟩, rfl, lk, ok, hp, row_move lk ok hp hzs hr, ?_⟩
        w_dflts v_v
        refine ⟨by simp, ?_⟩
        exact ⟨rfl, _, rfl, rfl⟩
      rw [fm_map']
      refine ⟨q, _, _, rfl, setO_same, rfl, ?_, ?_⟩
      · have h1 := (waysX_ok lk ok hp wm2 wnd).len
        have h2 : (waysX s hs p (ws.take i)).length ≤ (waysX s hs p ws).length := by
          have e : waysX s hs p ws = waysX s hs p (ws.take i) ++ waysX s hs p (ws.drop i) := by
            unfold waysX
            rw [← List.flatMap_append, List.take_append_drop]
          rw [e, List.length_append]; omega
        rw [List.length_map, List.length_map, List.length_map]; omega
      w_dflts v_v
      refine ⟨?_, _, _, _, _, _, _, rfl⟩
      rw [setO_set, take_one ha]
      unfold waysX
      rw [List.flatMap_append, List.map_append]
      simp only [List.flatMap_cons, List.flatMap_nil, List.append_nil]
  · rintro ρ' O' ⟨rfl, e1, e2, e3, e4, e5, e6, rfl⟩
    rw [List.length_map, List.take_length]
    w_dflts v_u
    refine wss_frz (i := 3) (q := q) rfl setO_same ?_
    rw [delO_setO hq2]
    w_dflts v_v
    refine .inr ⟨g, G, n, p, rfl, rfl, hg, by omega, ?_⟩
    w_dflts v_v
    refine ret_s (Sub.refl _) (hq (waysX s hs p ws) _ wok ⟨⟨_, n + 1, p :: ks, setO_same, List.nodup_cons.mpr ⟨fun hm => ?_, knd⟩, by rw [List.length_cons]; omega, fun k hk => ?_, fun p' d hd => ?_⟩, fun x hx => setO_ne hx⟩)
    · obtain ⟨_, d, e⟩ := kst p hm
      rw [hGp] at e; cases e
    · by_cases e : k = p
      · exact ⟨e ▸ hp, by rw [if_pos e]; exact ⟨_, rfl⟩⟩
      · rw [if_neg e]
        exact kst k ((List.mem_cons.mp hk).resolve_left e)
    · by_cases e : p' = p
      · rw [if_pos e] at hd
        cases hd
        exact ⟨by rw [e]; exact List.mem_cons_self, _, rfl, by rw [e]; exact wok⟩
      · rw [if_neg e] at hd
        obtain ⟨h1, h2⟩ := hG p' d hd
        exact ⟨List.mem_cons_of_mem _ h1, h2⟩
end

end Sd

-- L10

namespace Sd
section
variable {P : Program} {w : World} {K : PySem.W.Frag} {mg : Str → Option Value} {base : Heap} {f : Addr} {CH CS : Addr}
theorem start_link {hs : List (Int × List Step)} {s : SysR} (lk : Link hs s) (ok : OkSys s) : s.start = hs.map (·.1) := by rw [ok.start, ← lk, List.map_map]; rfl
theorem fmR {α β : Type} (f : α → β) (xs : List α) : (xs.filterMap fun a => some (f a)) = xs.map f := by rw [← List.filterMap_eq_map]; rfl
theorem b_law_rove (T : Bs mg) (c0 : C8.Cal P w K mg base 1 "_law_open" (spC K cOpen) []) (c1 : C8.Cal P w K mg base 1 "_law_draw" (spC K cDraw) []) (c2 : C8.Cal P w K mg base 2 "_law_ways" (spC K cLWays) []) : BodyOk P w K mg base cRove s_law_rove f N_law_rove 2 "_law_rove" := by
  intro cdv A outer s' H E hr ds O Q hc
  obtain ⟨ns, fa, la, hs, g, s, rfl, hns, hfa, hla, lk, ok, gok, hq⟩ := hc
  have hN := S_law_rove.nd
  obtain ⟨_, _, _, _, _, _, _, _, _, _, _, _, _⟩ := T
  have h4 : hs.length ≤ 4 := by rw [lk.len]; exact ok.hi
  refine wss_cons ?_
  w_dflts v_v
  refine we_lc (own := [("hand", 12)]) rfl hN (blkOk_by (N := N_law_rove) (sc := C8.fnScope s_law_rove) (by decide +kernel)) tgs_name (fun _ _ _ _ _ => pg_name (i := 12) hN rfl (Or.inl rfl)) (by decide) (fun _ => rfl) ?_
  w_dflts v_v
  refine .inl ⟨_, rfl, lc_pure (xs := hs) (g := dLH) (fun h : Int × List Step => some h.1) .int (by omega) rfl (fun a ha => ⟨_, rfl, fun _ _ _ _ _ => ?_⟩) ?_⟩
  · w_dflts v_v
    intro _ _ _ _ _
    w_dflts v_v
    exact ⟨rfl, a.1, rfl, rfl⟩
  rw [fmR, ← start_link lk ok]
  w_dflts v_v
  refine ⟨by decide, fun q1 hq1 => ?_⟩
  w_dflts v_v
  refine ⟨by simp, fun q2 hq2 => ?_⟩
  have h21 : q2 ≠ q1 := fun e => by rw [e, setO_same] at hq2; cases hq2
  have hq20 : O q2 = none := by rw [setO_ne h21] at hq2; exact hq2
  have g1 := gok.here hq1
  have g2 := gok.here hq20
  -- what holds all the time
  have keep0 : ∀ x c, x ≠ g → O x = some c → setO (setO O q1 (.lst [])) q2 (.lst [dPl s.start]) x = some c := fun x c hx e => by
    have n1 : x ≠ q1 := fun z => by rw [z, hq1] at e; cases e
    have n2 : x ≠ q2 := fun z => by rw [z, hq20] at e; cases e
    rw [setO_ne n2, setO_ne n1]; exact e
  have fin : ∀ (ms : List Move) (O' : Own) (x8 x9 x10 x11 x12 x13 : Option D), RunOk s s.start ms → ms.length ≤ 200 → O' q1 = some (.lst (ms.map dMove)) → O' q2 = some (.lst ((walkP s s.start ms).map dPl)) → GroundOk s O' g → (∀ x c, x ≠ g → O x = some c → O' x = some c) →
      WSs (cxOf CX0 P w K mg base N_law_rove "_law_rove" (C8.fnScope s_law_rove) f cdv A outer s' H E).nox ((C8.fnBody s_law_rove).drop 4) [some (.scr ns), some (.int (fa : Int)), some (.int (la : Int)), some (.lst (hs.map dLH)), some (.raw g), some (dPl (endP s s.start ms)), some (.raw q1), some (.raw q2), x8, x9, x10, x11, x12, x13] O' (bodyE Q) := by
    intro ms O' x8 x9 x10 x11 x12 x13 run ml e1 e2 go keep
    refine wss_frz (i := 7) (q := q2) rfl e2 ?_
    have e1' : delO O' q2 q1 = some (.lst (ms.map dMove)) := by rw [delO_ne (Ne.symm h21)]; exact e1
    refine wss_cons ?_
    w_dflts v_v
    refine ⟨by simp, ?_⟩
    have keep2 : ∀ x c, x ≠ g → O x = some c → delO O' q2 x = some c := fun x c hx e => by
      have n2 : x ≠ q2 := fun z => by rw [z, hq20] at e; cases e
      rw [delO_ne n2]; exact keep x c hx e
    exact ret_s (mixO_sub keep2) (hq ms _ run ml (mixO_gr (go.of (delO_ne (Ne.symm g2)))))
  w_dflts v_u
  refine wss_cons ?_
  w_dflts v_v
  refine min2_i ?_
  rw [List.length_map]
  generalize hmin : (if (ns.length : Int) < (la : Int) then (ns.length : Int) else (la : Int)) = mn
  have hmn : 0 ≤ mn ∧ mn ≤ 63 := by split at hmin <;> omega
  refine ⟨fa, mn, rfl, rfl, by omega, ?_⟩
  refine ⟨fun i ρ' O' => ∃ ms : List Move, RunOk s s.start ms ∧ ms.length ≤ 3 * i ∧ O' q1 = some (.lst (ms.map dMove)) ∧ O' q2 = some (.lst ((walkP s s.start ms).map dPl)) ∧ GroundOk s O' g ∧ (∀ x c, x ≠ g → O x = some c → O' x = some c) ∧
    ∃ x8 x9 x10 x11 x13, ρ' = [some (.scr ns), some (.int (fa : Int)), some (.int (la : Int)), some (.lst (hs.map dLH)), some (.raw g), some (dPl (endP s s.start ms)), some (.raw q1), some (.raw q2), x8, x9, x10, x11, none, x13],
    ⟨[], start_ok ok, by simp, by rw [setO_ne (Ne.symm h21), setO_same]; rfl, setO_same, (gok.of (by rw [setO_ne (Ne.symm g2), setO_ne (Ne.symm g1)])), keep0, none, none, none, none, none, rfl⟩, ?_, ?_, ?_⟩
  · intro i ρ' O' _ _
    trivial
  · rintro i d ρ' O' hd ⟨ms, run, ml, e1, e2, go, keep, x8, x9, x10, x11, x13, rfl⟩
    have hi := (List.getElem?_eq_some_iff.mp hd).1
    rw [List.length_map, List.length_range] at hi
    rw [List.getElem?_map, List.getElem?_eq_getElem (by rw [List.length_range]; exact hi), List.getElem_range] at hd
    cases hd
    refine ⟨_, rfl, ?_⟩
    w_dflts v_v
    refine ⟨ns, _, rfl, by omega, hns, fun q3 a b c hq3 => ?_⟩
    have n31 : q1 ≠ q3 := fun e => by rw [e, hq3] at e1; cases e1
    have n32 : q2 ≠ q3 := fun e => by rw [e, hq3] at e2; cases e2
    have n3g := go.here hq3
    have hq30 : O q3 = none := by
      cases z : O q3 with
      | none => rfl
      | some c => have := keep q3 c n3g z; rw [hq3] at this; cases this
    w_dflts v_v
    refine ⟨q3, 3, rfl, ⟨a, b, c, setO_same⟩, by decide, by decide, fun r O1 r0 r1 d1 => ?_⟩
    w_dflts v_v
    refine ⟨by omega, by omega, fun k ρ' O' => ∃ ms : List Move, RunOk s s.start ms ∧ ms.length ≤ 3 * i + k ∧ O' q1 = some (.lst (ms.map dMove)) ∧ O' q2 = some (.lst ((walkP s s.start ms).map dPl)) ∧ GroundOk s O' g ∧ (∀ x c, x ≠ g → O x = some c → O' x = some c) ∧ Drw O' q3 ∧
      ∃ x8 x10 x11 x13, ρ' = [some (.scr ns), some (.int (fa : Int)), some (.int (la : Int)), some (.lst (hs.map dLH)), some (.raw g), some (dPl (endP s s.start ms)), some (.raw q1), some (.raw q2), x8, some (.raw q3), x10, x11, none, x13],
      ⟨ms, run, by omega, d1.at n31 (by rw [setO_ne n31]; exact e1), d1.at n32 (by rw [setO_ne n32]; exact e2), go.of (by rw [d1.o g (Ne.symm n3g), setO_ne (Ne.symm n3g)]), fun x c hx e => ?_, d1.d, _, _, _, _, rfl⟩, ?_, ?_, ?_⟩
    · have nx : x ≠ q3 := fun z => by
        have := keep x c hx e
        rw [z, hq3] at this; cases this
      rw [d1.o x nx, setO_ne nx]
      exact keep x c hx e
    · intro i ρ' O' _ _
      trivial
    · rintro k d ρ' O' hd ⟨ms, run, ml, e1, e2, go, keep, hdr, x8, x10, x11, x13, rfl⟩
      have hk := (List.getElem?_eq_some_iff.mp hd).1
      rw [List.length_map, List.length_range] at hk
      refine ⟨_, rfl, ?_⟩
      w_dflts v_v
      refine ⟨hs, s, g, _, rfl, lk, ok, run.endS, go, fun vs O2 vok gr => ?_⟩
      have f1 := (gr.o q1 g1).trans e1
      have f2 := (gr.o q2 g2).trans e2
      have fk : ∀ x c, x ≠ g → O x = some c → O2 x = some c := fun x c hx e => (gr.o x hx).trans (keep x c hx e)
      have fd := hdr.gr n3g gr
      w_dflts v_v
      rw [List.length_map]
      refine brn_dec (fun e => ?_) (fun e => ?_)
      · w_dflts v_v
        refine ⟨q3, _, rfl, fd, by rw [List.length_map]; omega, by have := vok.len; rw [List.length_map]; omega, fun t O3 t0 t1 d3 => ?_⟩
        rw [List.length_map] at t1
        obtain ⟨v, _, hv, atv⟩ := pickD (g := dWay) t0 t1
        obtain ⟨hmv, hled⟩ := vok.mv v hv
        refine ix_sq (ds := vs.map dWay) rfl atv ?_
        w_dflts v_v
        have h1 := d3.at n31 f1
        have h2 := d3.at n32 f2
        refine ⟨⟨q1, _, rfl, h1⟩, ?_⟩
        w_dflts v_v
        refine ⟨q1, _, rfl, h1, by rw [List.length_map]; omega, ?_⟩
        w_dflts v_v
        have h2' : setO O3 q1 (.lst (ms.map dMove ++ [dMove v.1])) q2 = some (.lst ((walkP s s.start ms).map dPl)) := by rw [setO_ne h21]; exact h2
        refine ⟨⟨q2, _, rfl, h2'⟩, ?_⟩
        w_dflts v_v
        refine ⟨q2, _, rfl, h2', by rw [List.length_map, walkP_len]; omega, ?_⟩
        w_dflts v_v
        refine ⟨ms ++ [v.1], run.snoc ok hmv, by rw [List.length_append]; simp; omega, ?_, ?_, gr.gr.of ?_, fun x c hx e => ?_, ?_, x8, some d, some (.lst (vs.map dWay)), some (dMove v.1), ?_⟩
        · rw [setO_ne (Ne.symm h21), setO_same, List.map_append]; rfl
        · rw [setO_same, walkP_snoc, List.map_append, hled]; rfl
        · rw [setO_ne (Ne.symm g2), setO_ne (Ne.symm g1), d3.o g (Ne.symm n3g)]
        · have m1 : x ≠ q1 := fun z => by rw [z, hq1] at e; cases e
          have m2 : x ≠ q2 := fun z => by rw [z, hq20] at e; cases e
          rw [setO_ne m2, setO_ne m1]
          have m3 : x ≠ q3 := fun z => by rw [z, hq30] at e; cases e
          rw [d3.o x m3]; exact fk x c hx e
        · exact (d3.d.set n31).set n32
        · rw [endP_snoc, ← hled]; rfl
      · w_dflts v_v
        exact ⟨ms, run, by omega, f1, f2, gr.gr, fk, fd, _, _, _, _, rfl⟩
    · rintro ρ' O' ⟨ms, run, ml, e1, e2, go, keep, hdr, x8, x10, x11, x13, rfl⟩
      rw [List.length_map, List.length_range] at ml
      w_dflts v_v
      exact ⟨ms, run, by omega, e1, e2, go, keep, _, _, _, _, _, rfl⟩
  · rintro ρ' O' ⟨ms, run, ml, e1, e2, go, keep, x8, x9, x10, x11, x13, rfl⟩
    rw [List.length_map, List.length_range] at ml
    w_dflts v_u
    exact fin ms O' _ _ _ _ _ _ run (by omega) e1 e2 go keep
end

end Sd

-- L9

namespace Sd
section
variable {P : Program} {w : World} {K : PySem.W.Frag} {mg : Str → Option Value} {base : Heap} {f : Addr} {CH CS : Addr}
theorem b_law_able (T : Bs mg) (c1 : C8.Cal P w K mg base 2 "_law_ways" (spC K cLWays) []) : BodyOk P w K mg base cLAble s_law_able f N_law_able 2 "_law_able" := by
  intro cdv A outer s' H E hr ds O Q hc
  obtain ⟨hs, s, g, p, k, rfl, lk, ok, hp, gok, hk, hq⟩ := hc
  have hN := S_law_able.nd
  obtain ⟨_, _, _, _, _, _, _, _, _, _, _, _, _⟩ := T
  refine wss_cons ?_
  w_dflts v_v
  refine we_lc (own := [("way", 4)]) rfl hN (blkOk_by (N := N_law_able) (sc := C8.fnScope s_law_able) (by decide +kernel)) tgs_name (fun _ _ _ _ _ => pg_name (i := 4) hN rfl (Or.inl rfl)) (by decide) (fun _ => rfl) ?_
  w_dflts v_v
  refine ⟨hs, s, g, p, rfl, lk, ok, hp, gok, fun vs O' vok gr => ?_⟩
  refine .inl ⟨_, rfl, lc_pure (xs := vs) (β := Way) (fun v => match v.1.nums[k]? with | some (some _) => some v | _ => none) (fun _ => .int 1) (Nat.le_trans vok.len (by decide)) rfl (fun v hv => ⟨_, rfl, fun _ _ _ _ _ => ?_⟩) ?_⟩
  · obtain ⟨hm, _⟩ := vok.mv v hv
    have hkl : k < v.1.nums.length := by rw [hm.len]; exact hk
    have hkm := List.getElem?_eq_getElem hkl
    generalize v.1.nums[k] = n at hkm
    w_dflts v_v
    refine ix_sq (ds := v.1.nums.map dOpt) rfl (atI_nat (d := dOpt n) (by rw [List.getElem?_map, hkm]; rfl)) ?_
    w_dflts v_v
    cases n with
    | none =>
      refine brn_is (c := false) rfl ?_
      exact ⟨rfl, by rw [hkm]⟩
    | some i =>
      refine brn_is (c := true) rfl ?_
      refine brn_t ?_
      intro _ _ _ _ _
      w_dflts v_v
      exact ⟨rfl, v, by rw [hkm], rfl⟩
  w_dflts v_v
  rw [List.length_map]
  refine ret_s (Sub.refl _) (hq _ O' ?_ gr)
  rw [decide_eq_true_iff]
  constructor
  · intro h
    have h0 : 0 < (vs.filterMap fun v : Way => match v.1.nums[k]? with | some (some _) => some v | _ => none).length := Int.natCast_pos.mp h
    obtain ⟨v, hv⟩ := List.exists_mem_of_length_pos h0
    obtain ⟨v', h1, h2⟩ := List.mem_filterMap.mp hv
    split at h2
    · rename_i i e
      exact able_of_move ok (vok.mv v' h1).1 hp e
    · cases h2
  · intro h
    obtain ⟨v, h1, i, h2⟩ := vok.all k h
    have : v ∈ vs.filterMap fun v : Way => match v.1.nums[k]? with | some (some _) => some v | _ => none := List.mem_filterMap.mpr ⟨v, h1, by rw [h2]⟩
    have := List.length_pos_of_mem this
    exact Int.natCast_pos.mpr this
theorem b_law_cut (T : Bs mg) (c1 : C8.Cal P w K mg base 1 "_law_draw" (spC K cDraw) []) : BodyOk P w K mg base cCut s_law_cut f N_law_cut 1 "_law_cut" := by
  intro cdv A outer s' H E hr ds O Q hc
  obtain ⟨p, ps, rfl, hp, hne, hl, hq⟩ := hc
  have hN := S_law_cut.nd
  obtain ⟨_, _, _, _, _, _, _, _, _, _, _, _, _⟩ := T
  have hl0 : 0 < ps.length := List.length_pos_iff.mpr hne
  refine wss_cons ?_
  w_dflts v_v
  refine ⟨p, _, rfl, hp, by rw [List.length_map]; omega, by rw [List.length_map]; omega, fun r O1 r0 r1 d1 => ?_⟩
  rw [List.length_map] at r1
  obtain ⟨a, rfl⟩ : ∃ a : Nat, r = (a : Int) := ⟨r.toNat, by omega⟩
  have ha : a < ps.length := by omega
  w_dflts v_u
  refine wss_cons ?_
  refine ws_setLc (i := 3) (own := [("k", 4)]) rfl hN rfl rfl (sw_true rfl rfl rfl (by decide +kernel)) (blkOk_by (N := N_law_cut) (sc := C8.fnScope s_law_cut) (by decide +kernel)) tgs_name (fun _ _ _ _ _ => pg_name (i := 4) hN rfl (Or.inl rfl)) (by decide) (fun _ => rfl) ?_
  w_dflts v_v
  rw [List.length_map]
  refine ⟨a, _, rfl, rfl, by omega, ?_⟩
  have hn : ((ps.length : Int) - (a : Int)).toNat = ps.length - a := by omega
  rw [hn]
  refine lc_pure (xs := List.range (ps.length - a)) (g := fun (n : Nat) => D.int ((a : Int) + (n : Int))) (β := Nat) (fun n => if ps[a + n]? = ps[a]? then some (a + n) else none) (fun k => .int (k : Int)) (by rw [List.length_range]; omega) trivial (fun n hn => ⟨_, rfl, fun _ _ _ _ _ => ?_⟩) ?_
  · have hn := List.mem_range.mp hn
    have h1 : a + n < ps.length := by omega
    have e1 := List.getElem?_eq_getElem h1
    have e2 := List.getElem?_eq_getElem ha
    have ec : ((a : Int) + (n : Int)) = ((a + n : Nat) : Int) := by omega
    w_dflts v_v
    refine ix_sq (ds := ps.map dPl) rfl (by rw [ec]; exact atI_nat (d := dPl ps[a + n]) (by rw [List.getElem?_map, e1]; rfl)) ?_
    w_dflts v_v
    refine ix_sq (ds := ps.map dPl) rfl (atI_nat (d := dPl ps[a]) (by rw [List.getElem?_map, e2]; rfl)) ?_
    refine eq_enc encI.tup (fun _ _ => trivial) (fun _ _ => trivial) (by decide) ?_
    w_dflts v_v
    refine brn_dec (fun e => ?_) (fun e => ?_)
    · intro _ _ _ _ _
      w_dflts v_v
      refine ⟨rfl, a + n, ?_, by rw [ec]⟩
      rw [if_pos]
      rw [e1, e2]; exact congrArg some e
    · refine ⟨rfl, ?_⟩
      rw [if_neg]
      rw [e1, e2]
      exact fun h => e (Option.some.inj h)
  generalize hB : ((List.range (ps.length - a)).filterMap fun n => if ps[a + n]? = ps[a]? then some (a + n) else none) = B
  have hBm : ∀ b ∈ B, a ≤ b ∧ b < ps.length ∧ ps[a]? = ps[b]? := fun b hb => by
    rw [← hB] at hb
    obtain ⟨n, h1, h2⟩ := List.mem_filterMap.mp hb
    have h1 := List.mem_range.mp h1
    split at h2
    · rename_i e; cases h2; exact ⟨by omega, by omega, e.symm⟩
    · cases h2
  have hB0 : a ∈ B := by
    rw [← hB]
    exact List.mem_filterMap.mpr ⟨0, List.mem_range.mpr (by omega), by simp⟩
  have hBl := List.length_pos_of_mem hB0
  have hBl2 : B.length ≤ ps.length := by
    rw [← hB]
    have := List.length_filterMap_le (fun n => if ps[a + n]? = ps[a]? then some (a + n) else none) (List.range (ps.length - a))
    rw [List.length_range] at this
    omega
  show WSs _ _ _ _ _
  w_dflts v_v
  refine ⟨p, _, rfl, d1.d, by rw [List.length_map]; omega, by rw [List.length_map]; omega, fun t O2 t0 t1 d2 => ?_⟩
  rw [List.length_map] at t1
  obtain ⟨b, _, hb, atb⟩ := pickD (g := fun (k : Nat) => D.int (k : Int)) t0 t1
  obtain ⟨h1, h2, h3⟩ := hBm b hb
  refine ix_sq (ds := B.map fun (k : Nat) => D.int (k : Int)) rfl atb ?_
  w_dflts v_v
  refine ⟨by simp, ?_⟩
  exact ret_s (Sub.refl _) (hq a b O2 h1 h2 h3 (d1.trans d2))
theorem b_law_keen (T : Bs mg) (c1 : C8.Cal P w K mg base 1 "_law_draw" (spC K cDraw) []) : BodyOk P w K mg base cKeen s_law_keen f N_law_keen 1 "_law_keen" := by
  intro cdv A outer s' H E hr ds O Q hc
  obtain ⟨p, n, rfl, hp, hn4, hq⟩ := hc
  have hN := S_law_keen.nd
  obtain ⟨_, _, _, _, _, _, _, _, _, _, _, _, _⟩ := T
  refine wss_cons ?_
  refine ws_setLc (i := 2) (own := [("hand", 4)]) rfl hN rfl rfl (sw_true rfl rfl rfl (by decide +kernel)) (blkOk_by (N := N_law_keen) (sc := C8.fnScope s_law_keen) (by decide +kernel)) tgs_name (fun _ _ _ _ _ => pg_name (i := 4) hN rfl (Or.inl rfl)) (by decide) (fun _ => rfl) ?_
  w_dflts v_v
  refine ⟨by omega, by omega, fun i acc O' => Dr p O O' ∧ ∃ ks : List Int, acc = ks.map .int ∧ ks.length ≤ i ∧ ks.Pairwise (· < ·) ∧ ∀ x ∈ ks, 0 ≤ x ∧ x < i, ⟨.refl hp, [], rfl, by simp, by simp, by simp⟩, ?_, ?_, ?_⟩
  · rintro i acc O' hi ⟨_, ks, rfl, hkl, _⟩
    rw [List.length_map, List.length_range] at hi
    exact ⟨trivial, by rw [List.length_map]; omega⟩
  · rintro i d acc O' hd ⟨dr, ks, rfl, hkl, hkp, hkr⟩
    obtain ⟨hi, rfl⟩ := range_at hd
    refine ⟨_, rfl, fun _ _ _ _ _ => ?_⟩
    w_dflts v_v
    refine ⟨p, 2, rfl, dr.d, by decide, by decide, fun x O2 x0 x1 d2 => ?_⟩
    w_dflts v_v
    refine brn_dec (fun e => ?_) (fun e => ?_)
    · intro _ _ _ _ _
      w_dflts v_v
      refine ⟨dr.trans d2, ks ++ [(i : Int)], by rw [List.map_append]; rfl, by rw [List.length_append]; simp; omega, List.pairwise_append.mpr ⟨hkp, by simp, fun u hu v hv => ?_⟩, fun u hu => ?_⟩
      · have := hkr u hu
        rw [List.mem_singleton.mp hv]; omega
      · rcases List.mem_append.mp hu with h | h
        · have := hkr u h; omega
        · rw [List.mem_singleton.mp h]; omega
    · exact ⟨dr.trans d2, ks, rfl, by omega, hkp, fun u hu => by have := hkr u hu; omega⟩
  rintro acc O1 ⟨d1, ks, rfl, hkl, hkp, hkr⟩
  rw [List.length_map, List.length_range, Int.toNat_natCast] at hkl hkr
  show WSs _ _ _ _ _
  w_dflts v_v
  refine ⟨p, _, rfl, d1.d, by rw [List.length_map]; omega, by rw [List.length_map]; omega, fun t O2 t0 t1 d2 => ?_⟩
  obtain ⟨j, rfl⟩ : ∃ j : Nat, t = (j : Int) := ⟨t.toNat, by omega⟩
  w_dflts v_v
  refine sl_l ?_
  w_dflts v_v
  refine sl_l ?_
  rw [cutD_drop, cutD_take]
  refine add_ll (by rw [List.length_drop, List.length_take, List.length_map]; omega) ?_
  rw [← List.map_drop, ← List.map_take, ← List.map_append]
  have nd : ks.Nodup := hkp.imp fun h => by omega
  have pm : (ks.drop j ++ ks.take j).Perm ks := List.perm_append_comm.trans (by rw [List.take_append_drop])
  exact ret_s (Sub.refl _) (hq _ O2 (pm.nodup_iff.mpr nd) (fun x hx => hkr x (pm.mem_iff.mp hx)) (d1.trans d2))
end

end Sd

-- K2

namespace Sd
section
variable {P : Program} {w : World} {K : PySem.W.Frag} {mg : Str → Option Value} {base : Heap} {f : Addr} {CH CS : Addr}
theorem b_law_whole (T : Bs mg) : BodyOk P w K mg base cWhole s_law_whole f N_law_whole 0 "_law_whole" := by
  intro cdv A outer s' H E hr ds O Q hc
  obtain ⟨i, rfl, hq⟩ := hc
  have hN := S_law_whole.nd
  obtain ⟨_, _, _, _, _, _, _, _, _, _, _, _, _⟩ := T
  refine wss_cons ?_
  w_dflts v_v
  refine isi_b (t := "int") rfl (r := true) (by decide +kernel) ?_
  w_dflts v_v
  refine isi_b (t := "int") rfl (r := false) (by decide +kernel) ?_
  w_dflts v_v
  exact ret_s (Sub.refl _) hq
theorem b_law_is_move (T : Bs mg) (c1 : C8.Cal P w K mg base 1 "_law_whole" (spC K cWhole) []) (c2 : C8.Cal P w K mg base 2 "_law_ways" (spC K cLWays) []) : BodyOk P w K mg base cLIsMove s_law_is_move f N_law_is_move 2 "_law_is_move" := by
  intro cdv A outer s' H E hr ds O Q hc
  obtain ⟨hs, s, g, p, m, rfl, lk, ok, hp, hm, gok, hq⟩ := hc
  have hN := S_law_is_move.nd
  obtain ⟨_, _, _, _, _, _, _, _, _, _, _, _, _⟩ := T
  have so : ∀ m', MoveOk s p m' → PyData.strOk m'.w = true := fun m' h => by
    obtain ⟨hd, h1, h2⟩ := (ok.words m'.w).mp h.w
    obtain ⟨st, h3, h5⟩ := ((ok.hands hd h1).words.2.2 _).mp h2
    rw [← h5]; exact ((ok.hands hd h1).steps.2.2.1 st h3).2.1.so
  refine wss_cons ?_
  w_dflts v_v
  refine isi_b (t := "tuple") rfl (r := true) (by decide +kernel) ?_
  w_dflts v_v
  refine brn_is (c := false) rfl ?_
  w_dflts v_v
  refine isi_b (t := "str") rfl (r := true) (by decide +kernel) ?_
  w_dflts v_v
  refine isi_b (t := "tuple") rfl (r := true) (by decide +kernel) ?_
  w_dflts v_v
  refine .inl ⟨_, rfl, fun i ρ' O' => O' = O ∧ ∃ x, ρ' = [some (.lst (hs.map dLH)), some (.raw g), some (dPl p), some (dMove m), x, none], ⟨rfl, none, rfl⟩, ?_, ?_, ?_⟩
  · rintro i ρ' O' _ ⟨rfl, _⟩
    rfl
  · rintro i d ρ' O' hd ⟨rfl, x, rfl⟩
    rw [List.getElem?_map] at hd
    cases ha : m.nums[i]? with
    | none => rw [ha] at hd; cases hd
    | some n =>
    rw [ha] at hd
    cases hd
    refine ⟨_, rfl, ?_⟩
    w_dflts v_v
    cases n with
    | none =>
      refine brn_is (c := false) rfl ?_
      w_dflts v_v
      exact ⟨rfl, _, rfl⟩
    | some j =>
      refine brn_is (c := true) rfl ?_
      w_dflts v_v
      refine ⟨j, rfl, ?_⟩
      w_dflts v_v
      exact ⟨rfl, _, rfl⟩
  · rintro ρ' O' ⟨rfl, x, rfl⟩
    w_dflts v_v
    refine we_lc (own := [("way", 5)]) rfl hN (blkOk_by (N := N_law_is_move) (sc := C8.fnScope s_law_is_move) (by decide +kernel)) tgs_name (fun _ _ _ _ _ => pg_name (i := 5) hN rfl (Or.inl rfl)) (by decide) (fun _ => rfl) ?_
    w_dflts v_v
    refine ⟨hs, s, g, p, rfl, lk, ok, hp, gok, fun vs O2 vok gr => ?_⟩
    refine .inl ⟨_, rfl, lc_pure (xs := vs) (g := dWay) (β := Move) (fun v => some v.1) dMove (Nat.le_trans vok.len (by decide)) rfl (fun v hv => ⟨_, rfl, fun _ _ _ _ _ => ?_⟩) ?_⟩
    · w_dflts v_v
      intro _ _ _ _ _
      w_dflts v_v
      exact ⟨rfl, v.1, rfl, rfl⟩
    have e : (vs.filterMap fun v : Way => some v.1) = vs.map (·.1) := by rw [← List.filterMap_eq_map]; rfl
    rw [e]
    refine yin_enc encMove (a := m) (xs := vs.map (·.1)) (.inl rfl) (so m hm) (fun m' hm' => ?_) (by decide) ?_
    · obtain ⟨v, h1, rfl⟩ := List.mem_map.mp hm'
      exact so _ (vok.mv v h1).1
    rw [decide_eq_true (by obtain ⟨v, h1, h2⟩ := vok.full m hm; exact List.mem_map.mpr ⟨v, h1, h2⟩)]
    exact ret_s (Sub.refl _) (hq O2 gr)
end

end Sd

-- K3

namespace Sd
section
variable {P : Program} {w : World} {K : PySem.W.Frag} {mg : Str → Option Value} {base : Heap} {f : Addr} {CH CS : Addr}
theorem b_law_passed (T : Bs mg) (c1 : C8.Cal P w K mg base 3 "_law_is_move" (spC K cLIsMove) []) (c2 : C8.Cal P w K mg base 1 "_law_behind" (spC K cLBehind) []) : BodyOk P w K mg base cPassed s_law_passed f N_law_passed 3 "_law_passed" := by
  intro cdv A outer s' H E hr ds O Q hc
  obtain ⟨hs, s, g, ms, rfl, lk, ok, run, hml, gok, hq⟩ := hc
  have hN := S_law_passed.nd
  obtain ⟨_, _, _, _, _, _, _, _, _, _, _, _, _⟩ := T
  have h4 : hs.length ≤ 4 := by rw [lk.len]; exact ok.hi
  refine wss_cons ?_
  w_dflts v_v
  refine we_lc (own := [("hand", 5)]) rfl hN (blkOk_by (N := N_law_passed) (sc := C8.fnScope s_law_passed) (by decide +kernel)) tgs_name (fun _ _ _ _ _ => pg_name (i := 5) hN rfl (Or.inl rfl)) (by decide) (fun _ => rfl) ?_
  w_dflts v_v
  refine .inl ⟨_, rfl, lc_pure (xs := hs) (g := dLH) (fun h : Int × List Step => some h.1) .int (by omega) rfl (fun a ha => ⟨_, rfl, fun _ _ _ _ _ => ?_⟩) ?_⟩
  · w_dflts v_v
    intro _ _ _ _ _
    w_dflts v_v
    exact ⟨rfl, a.1, rfl, rfl⟩
  rw [fmR, ← start_link lk ok]
  w_dflts v_v
  refine ⟨by simp, fun q hq1 => ?_⟩
  have qg := gok.here hq1
  w_dflts v_v
  refine .inl ⟨_, rfl, fun i ρ' O' => O' q = some (.lst ((walkP s s.start (ms.take i)).map dPl)) ∧ GroundOk s O' g ∧ (∀ x, x ≠ g → x ≠ q → O' x = O x) ∧ ∃ x, ρ' = [some (.lst (hs.map dLH)), some (.raw g), some (.tup (ms.map dMove)), some (.raw q), x, none],
    ⟨setO_same, gok.of (setO_ne (Ne.symm qg)), fun x h1 h2 => setO_ne h2, none, rfl⟩, ?_, ?_, ?_⟩
  · rintro i ρ' O' _ _
    rfl
  · rintro i d ρ' O' hd ⟨e1, go, hO, x, rfl⟩
    rw [List.getElem?_map] at hd
    cases ha : ms[i]? with
    | none => rw [ha] at hd; cases hd
    | some m =>
    rw [ha] at hd
    cases hd
    obtain ⟨hst, hmv⟩ := run.at ha
    have hi := (List.getElem?_eq_some_iff.mp ha).1
    have elast : ((walkP s s.start (ms.take i)).map dPl).getLast? = some (dPl (endP s s.start (ms.take i))) := by rw [List.getLast?_map, walkP_last]; rfl
    refine ⟨_, rfl, ?_⟩
    w_dflts v_v
    refine ix_sq (asL_raw e1) (atI_last elast) ?_
    w_dflts v_v
    refine ⟨hs, s, g, _, m, rfl, lk, ok, hst, hmv, go, fun O2 gr => ?_⟩
    have e2 := (gr.o q qg).trans e1
    w_dflts v_v
    refine ⟨⟨q, _, rfl, e2⟩, ?_⟩
    w_dflts v_v
    refine ix_sq (asL_raw e2) (atI_last elast) ?_
    w_dflts v_v
    refine ⟨hs, s, _, m, rfl, lk, ok, hst, hmv, ?_⟩
    w_dflts v_v
    refine ⟨q, _, rfl, e2, by rw [List.length_map, walkP_len, List.length_take]; omega, ?_⟩
    w_dflts v_v
    refine ⟨?_, gr.gr.of (setO_ne (Ne.symm qg)), fun x h1 h2 => by rw [setO_ne h2, gr.o x h1]; exact hO x h1 h2, _, rfl⟩
    rw [setO_same, List.take_add_one, ha]
    show some _ = some (OC.lst ((walkP s s.start (ms.take i ++ [m])).map dPl))
    rw [walkP_snoc, List.map_append]; rfl
  · rintro ρ' O' ⟨e1, go, hO, x, rfl⟩
    rw [List.length_map, List.take_length] at e1
    w_dflts v_v
    refine ret_l e1 (fun x c e => ?_) (hq (mixO O O' g) (mixO_gr go))
    by_cases z : x = g
    · subst z
      rw [delO_ne (Ne.symm qg)]
      unfold mixO at e
      rw [if_pos rfl] at e; exact e
    · unfold mixO at e
      rw [if_neg z] at e
      have n : x ≠ q := fun y => by rw [y, hq1] at e; cases e
      rw [delO_ne n, hO x z n]; exact e
theorem filt_id {bs : List Bool} : (0 < (bs.filter id).length ↔ true ∈ bs) ∧ ((bs.filter id).length = bs.length ↔ false ∉ bs) := by
  induction bs with
  | nil => simp
  | cons b bs ih =>
    have h2 := List.length_filter_le id bs
    cases b with
    | true => simp [ih.2]
    | false => simp [ih.1]; omega
theorem b_law_keenly_fair (T : Bs mg) (c1 : C8.Cal P w K mg base 4 "_law_passed" (spC K cPassed) []) (c2 : C8.Cal P w K mg base 3 "_law_able" (spC K cLAble) []) : BodyOk P w K mg base cLKeenly s_law_keenly_fair f N_law_keenly_fair 4 "_law_keenly_fair" := by
  intro cdv A outer s' H E hr ds O Q hc
  obtain ⟨hs, s, g, dil, keen, stem, loop, rfl, lk, ok, run, hml, gok, hdil, hkr, hq⟩ := hc
  have hN := S_law_keenly_fair.nd
  obtain ⟨_, _, _, _, _, _, _, _, _, _, _, _, _⟩ := T
  have h4 : hs.length ≤ 4 := by rw [lk.len]; exact ok.hi
  have hll := hml
  rw [List.length_append] at hll
  have hnl : ∀ m ∈ loop, m.nums.length = s.hands.length := fun m h => run.len m (List.mem_append_right _ h)
  refine wss_cons ?_
  w_dflts v_v
  refine isi_b (t := "tuple") rfl (r := true) (by decide +kernel) ?_
  w_dflts v_v
  refine isi_b (t := "tuple") rfl (r := true) (by decide +kernel) ?_
  w_dflts v_v
  refine add_tt (by rw [List.length_map, List.length_map]; omega) ?_
  rw [← List.map_append]
  w_dflts v_v
  refine ⟨hs, s, g, stem ++ loop, rfl, lk, ok, run, by omega, gok, fun O1 gr1 => ?_⟩
  have eps : (walkP s s.start (stem ++ loop)).drop stem.length = around s stem loop := rfl
  generalize hps : walkP s s.start (stem ++ loop) = rows at eps
  have hrl : rows.length = stem.length + loop.length + 1 := by rw [← hps, walkP_len, List.length_append]
  have hst : ∀ p ∈ around s stem loop, Stand s p := fun p h => by
    rw [← eps, ← hps] at h
    exact run.stand p (List.mem_of_mem_drop h)
  have hpl : (around s stem loop).length = loop.length + 1 := by rw [← eps, List.length_drop]; omega
  obtain ⟨pe, hpe⟩ : ∃ p, rows.getLast? = some p := by
    rw [← hps, walkP_last]; exact ⟨_, rfl⟩
  have hk0 : stem.length < rows.length := by omega
  have hph := List.getElem?_eq_getElem hk0
  have ahead : (around s stem loop).head? = some rows[stem.length] := by rw [← eps, List.head?_drop]; exact hph
  have alast : (around s stem loop).getLast? = some pe := by
    rw [← eps, List.getLast?_drop, if_neg (by omega)]; exact hpe
  w_dflts v_v
  refine brn_is (c := false) rfl ?_
  w_dflts v_v
  refine ix_sq (ds := rows.map dPl) rfl (atI_last (d := dPl pe) (by rw [List.getLast?_map, hpe]; rfl)) ?_
  w_dflts v_v
  rw [List.length_map]
  refine ix_sq (ds := rows.map dPl) rfl (atI_nat (d := dPl rows[stem.length]) (by rw [List.getElem?_map, hph]; rfl)) ?_
  refine ne_enc encI.tup (fun _ _ => trivial) (fun _ _ => trivial) (by decide) ?_
  w_dflts v_v
  refine brn_ndec (fun e => ?_) (fun e => ?_)
  · w_dflts v_v
    refine ret_s (Sub.refl _) (hq false O1 ⟨fun h => (by cases h), fun h => ?_⟩ gr1)
    have := h.1
    rw [alast, ahead] at this
    exact absurd (Option.some.inj this) e
  have e : pe = rows[stem.length] := by simpa using e
  w_dflts v_v
  rw [List.length_map]
  refine sl_l ?_
  rw [cutD_drop, ← List.map_drop, eps]
  generalize hap : around s stem loop = ps at hst hpl ahead alast
  w_dflts v_v
  rw [List.length_map]
  refine ⟨by omega, by omega, fun i ρ' O' => Gr2 s g O O' ∧ (∀ k : Nat, k < i → ((k : Int) ∈ keen → (∃ p ∈ ps, AbleK s p k) → takes loop k) ∧ ((k : Int) ∈ dil → (∀ p ∈ ps, AbleK s p k) → takes loop k)) ∧
    ∃ a b c, ρ' = [some (.lst (hs.map dLH)), some (.raw g), some (.lst (dil.map .int)), some (.lst (keen.map .int)), some (.tup (stem.map dMove)), some (.tup (loop.map dMove)), some (.lst (rows.map dPl)), some (.lst (ps.map dPl)), a, b, c, none, none], ⟨gr1, fun k hk => absurd hk (Nat.not_lt_zero _), none, none, none, rfl⟩, ?_, ?_, ?_⟩
  · intro i ρ' O' _ _
    trivial
  · rintro i d ρ' O' hd ⟨gr, hall, a, b, c, rfl⟩
    obtain ⟨hi, rfl⟩ := range_at hd
    rw [Int.toNat_natCast] at hi
    have his : i < s.hands.length := by rw [← lk.len]; exact hi
    refine ⟨_, rfl, ?_⟩
    w_dflts v_v
    refine we_lc (own := [("move", 12)]) rfl hN (blkOk_by (N := N_law_keenly_fair) (sc := C8.fnScope s_law_keenly_fair) (by decide +kernel)) tgs_name (fun _ _ _ _ _ => pg_name (i := 12) hN rfl (Or.inl rfl)) (by decide) (fun _ => rfl) ?_
    w_dflts v_v
    refine .inl ⟨_, rfl, lc_pure (xs := loop) (g := dMove) (β := Move) (fun m => match m.nums[i]? with | some (some _) => some m | _ => none) (fun _ => .int 1) (by omega) rfl (fun m hm => ⟨_, rfl, fun _ _ _ _ _ => ?_⟩) ?_⟩
    · have hkl : i < m.nums.length := by rw [hnl m hm]; exact his
      have hkm := List.getElem?_eq_getElem hkl
      generalize m.nums[i] = n at hkm
      w_dflts v_v
      refine ix_sq (ds := m.nums.map dOpt) rfl (atI_nat (d := dOpt n) (by rw [List.getElem?_map, hkm]; rfl)) ?_
      w_dflts v_v
      cases n with
      | none =>
        refine brn_is (c := false) rfl ?_
        exact ⟨rfl, by rw [hkm]⟩
      | some j =>
        refine brn_is (c := true) rfl ?_
        refine brn_t ?_
        intro _ _ _ _ _
        w_dflts v_v
        exact ⟨rfl, m, by rw [hkm], rfl⟩
    generalize hTk : (loop.filterMap fun m : Move => match m.nums[i]? with | some (some _) => some m | _ => none) = Tk
    have htk : 0 < Tk.length ↔ takes loop i := by
      rw [List.length_pos_iff, ne_eq, ← hTk, List.filterMap_eq_nil_iff]
      constructor
      · intro h
        refine Classical.byContradiction fun h2 => h fun m hm => ?_
        cases hn : m.nums[i]? with
        | none => rfl
        | some n =>
          cases n with
          | none => rfl
          | some j => exact absurd ⟨m, hm, j, hn⟩ h2
      · rintro ⟨m, h1, j, h2⟩ h
        have := h m h1
        rw [h2] at this; cases this
    w_dflts v_v
    rw [List.length_map]
    w_dflts v_v
    refine we_lc (own := [("states", 11)]) rfl hN (blkOk_by (N := N_law_keenly_fair) (sc := C8.fnScope s_law_keenly_fair) (by decide +kernel)) tgs_name (fun _ _ _ _ _ => pg_name (i := 11) hN rfl (Or.inl rfl)) (by decide) (fun _ => rfl) ?_
    w_dflts v_v
    refine .inl ⟨_, rfl, fun j acc O2 => Gr2 s g O O2 ∧ ∃ bs : List Bool, acc = (bs.filter id).map (fun _ => .int 1) ∧ bs.length = j ∧ ∀ (t : Nat) (b : Bool) (p : List Int), bs[t]? = some b → ps[t]? = some p → (b = true ↔ AbleK s p i), ⟨gr, [], rfl, rfl, by simp⟩, ?_, ?_, ?_⟩
    · rintro j acc O2 hj ⟨_, bs, rfl, hbl, _⟩
      rw [List.length_map] at hj
      have := List.length_filter_le id bs
      exact ⟨rfl, by rw [List.length_map]; omega⟩
    · rintro j d acc O2 hd2 ⟨gr2, bs, rfl, hbl, hbs⟩
      rw [List.getElem?_map] at hd2
      cases hb : ps[j]? with
      | none => rw [hb] at hd2; cases hd2
      | some p =>
      rw [hb] at hd2
      cases hd2
      have nxt : ∀ b' : Bool, (b' = true ↔ AbleK s p i) → ∀ (t : Nat) (b2 : Bool) (p2 : List Int), (bs ++ [b'])[t]? = some b2 → ps[t]? = some p2 → (b2 = true ↔ AbleK s p2 i) := fun b' hb' t b2 p2 h1 h2 => by
        by_cases ht : t < bs.length
        · rw [List.getElem?_append_left ht] at h1; exact hbs t b2 p2 h1 h2
        · have ht2 := (List.getElem?_eq_some_iff.mp h1).1
          rw [List.length_append] at ht2
          have : t = j := by simp at ht2; omega
          subst this
          rw [List.getElem?_append_right (by omega), hbl, Nat.sub_self] at h1
          cases h1
          rw [hb] at h2; cases h2
          exact hb'
      refine ⟨_, rfl, fun _ _ _ _ _ => ?_⟩
      w_dflts v_v
      refine ⟨hs, s, g, p, i, rfl, lk, ok, hst p (List.mem_of_getElem? hb), gr2.gr, his, fun b' O3 hb' gr3 => ?_⟩
      w_dflts v_v
      cases b' with
      | true =>
        refine brn_t ?_
        intro _ _ _ _ _
        w_dflts v_v
        exact ⟨gr2.trans gr3, bs ++ [true], by rw [List.filter_append, List.map_append]; rfl, by rw [List.length_append, hbl]; rfl, nxt true hb'⟩
      | false =>
        refine brn_f ?_
        exact ⟨gr2.trans gr3, bs ++ [false], by rw [List.filter_append, List.map_append]; simp, by rw [List.length_append, hbl]; rfl, nxt false hb'⟩
    rintro acc O2 ⟨gr2, bs, rfl, hbl, hbs⟩
    rw [List.length_map] at hbl
    have hT : true ∈ bs ↔ ∃ p ∈ ps, AbleK s p i := by
      constructor
      · intro h
        obtain ⟨t, ht⟩ := List.getElem?_of_mem h
        have htl := (List.getElem?_eq_some_iff.mp ht).1
        have hp := List.getElem?_eq_getElem (l := ps) (i := t) (by omega)
        exact ⟨_, List.mem_of_getElem? hp, (hbs t _ _ ht hp).mp rfl⟩
      · rintro ⟨p, h1, h2⟩
        obtain ⟨t, ht⟩ := List.getElem?_of_mem h1
        have htl := (List.getElem?_eq_some_iff.mp ht).1
        have hb := List.getElem?_eq_getElem (l := bs) (i := t) (by omega)
        have := (hbs t _ _ hb ht).mpr h2
        rw [this] at hb
        exact List.mem_of_getElem? hb
    have hF : false ∉ bs ↔ ∀ p ∈ ps, AbleK s p i := by
      constructor
      · intro h p h1
        obtain ⟨t, ht⟩ := List.getElem?_of_mem h1
        have htl := (List.getElem?_eq_some_iff.mp ht).1
        have hb := List.getElem?_eq_getElem (l := bs) (i := t) (by omega)
        refine (hbs t _ _ hb ht).mp ?_
        cases hv : bs[t] with
        | true => rfl
        | false => rw [hv] at hb; exact absurd (List.mem_of_getElem? hb) h
      · intro h h1
        obtain ⟨t, ht⟩ := List.getElem?_of_mem h1
        have htl := (List.getElem?_eq_some_iff.mp ht).1
        have hp := List.getElem?_eq_getElem (l := ps) (i := t) (by omega)
        have := (hbs t _ _ ht hp).mpr (h _ (List.mem_of_getElem? hp))
        cases this
    obtain ⟨f1, f2⟩ := filt_id (bs := bs)
    rw [hT] at f1
    rw [hF] at f2
    have next : (((i : Int) ∈ keen → (∃ p ∈ ps, AbleK s p i) → takes loop i) ∧ ((i : Int) ∈ dil → (∀ p ∈ ps, AbleK s p i) → takes loop i)) → ∀ k : Nat, k < i + 1 → ((k : Int) ∈ keen → (∃ p ∈ ps, AbleK s p k) → takes loop k) ∧ ((k : Int) ∈ dil → (∀ p ∈ ps, AbleK s p k) → takes loop k) := fun h k hk => by
      by_cases hki : k = i
      · rw [hki]; exact h
      · exact hall k (by omega)
    w_dflts v_u
    rw [List.length_map]
    w_dflts v_u
    generalize hgt : decide ((Tk.length : Int) > 0) = tb
    have htb : tb = true ↔ takes loop i := by
      rw [← hgt, decide_eq_true_iff, ← htk]; omega
    show WSs _ _ _ _ _
    refine wss_cons (ws_if (wt_mono (Q := fun k O3 => O3 = O2 ∧ (k = true ↔ ¬ takes loop i ∧ (i : Int) ∈ keen ∧ ∃ p ∈ ps, AbleK s p i)) ?_ fun b1 O3 h1 => ?_))
    · w_dflts v_v
      refine in_i (xs := keen) rfl ?_
      w_dflts v_v
      refine brn_dec (fun e2 => ?_) (fun e2 => ?_)
      · w_dflts v_v
        refine brn_dec (fun e3 => ?_) (fun e3 => ?_)
        · w_dflts v_v
          refine ⟨rfl, ?_⟩
          rw [Bool.not_eq_true', ← Bool.not_eq_true, htb]
          exact ⟨fun h => ⟨h, e2, f1.mp (by omega)⟩, fun h => h.1⟩
        · exact ⟨rfl, fun h => (by cases h), fun h => absurd (f1.mpr h.2.2) (by omega)⟩
      · exact ⟨rfl, fun h => (by cases h), fun h => absurd h.2.1 e2⟩
    obtain ⟨rfl, h1⟩ := h1
    cases b1 with
    | true =>
      obtain ⟨n1, n2, n3⟩ := h1.mp rfl
      w_dflts v_v
      refine ret_s (Sub.refl _) (hq false _ ⟨fun h => (by cases h), fun h => ?_⟩ gr2)
      rw [keen_due ok hdil hkr stem loop, hap] at h
      exact absurd ((h.2 i his).1 n2 n3) n1
    | false =>
    have g1 : (i : Int) ∈ keen → (∃ p ∈ ps, AbleK s p i) → takes loop i := fun a b => Classical.byContradiction fun c => by
      have := h1.mpr ⟨c, a, b⟩
      cases this
    w_dflts v_u
    refine wss_cons (ws_if (wt_mono (Q := fun k O4 => O4 = O3 ∧ (k = true ↔ ¬ takes loop i ∧ (i : Int) ∈ dil ∧ ∀ p ∈ ps, AbleK s p i)) ?_ fun b2 O4 h2 => ?_))
    · w_dflts v_v
      refine in_i (xs := dil) rfl ?_
      w_dflts v_v
      refine brn_dec (fun e2 => ?_) (fun e2 => ?_)
      · w_dflts v_v
        rw [List.length_map]
        w_dflts v_v
        refine brn_dec (fun e3 => ?_) (fun e3 => ?_)
        · w_dflts v_v
          refine ⟨rfl, ?_⟩
          rw [Bool.not_eq_true', ← Bool.not_eq_true, htb]
          exact ⟨fun h => ⟨h, e2, f2.mp (by omega)⟩, fun h => h.1⟩
        · exact ⟨rfl, fun h => (by cases h), fun h => absurd (f2.mpr h.2.2) (by omega)⟩
      · exact ⟨rfl, fun h => (by cases h), fun h => absurd h.2.1 e2⟩
    obtain ⟨rfl, h2⟩ := h2
    cases b2 with
    | true =>
      obtain ⟨n1, n2, n3⟩ := h2.mp rfl
      w_dflts v_v
      refine ret_s (Sub.refl _) (hq false _ ⟨fun h => (by cases h), fun h => ?_⟩ gr2)
      rw [keen_due ok hdil hkr stem loop, hap] at h
      exact absurd ((h.2 i his).2 n2 n3) n1
    | false =>
    have g2 : (i : Int) ∈ dil → (∀ p ∈ ps, AbleK s p i) → takes loop i := fun a b => Classical.byContradiction fun c => by
      have := h2.mpr ⟨c, a, b⟩
      cases this
    w_dflts v_v
    exact ⟨gr2, next ⟨g1, g2⟩, _, _, _, rfl⟩
  · rintro ρ' O' ⟨gr, hall, a, b, c, rfl⟩
    rw [List.length_map, List.length_range, Int.toNat_natCast] at hall
    w_dflts v_v
    refine ret_s (Sub.refl _) (hq true O' ⟨fun _ => ?_, fun _ => rfl⟩ gr)
    rw [keen_due ok hdil hkr stem loop, hap]
    exact ⟨by rw [ahead, alast, e], fun k hk => hall k (by rw [lk.len]; exact hk)⟩
end

end Sd

-- B5

namespace Sd
section
variable {P : Program} {w : World} {K : PySem.W.Frag} {mg : Str → Option Value} {base : Heap} {f : Addr} {CH CS : Addr}
theorem b_check_standing (T : Bs mg) (HH : HT K mg CH) (SS : ST K mg CS) (c1 : C8.Cal P w K mg base 1 "is_integer" (spC K cIsInt) []) : BodyOk P w K mg base (cChkStand CH CS) s_check_standing f N_check_standing 1 "check_standing" := by
  intro cdv A outer s' H E hr ds O Q hc
  obtain ⟨s, p, rfl, hp, h4, hq⟩ := hc
  have hN := S_check_standing.nd
  obtain ⟨_, _, _, _, _, _, _, _, _, _, _, _, _⟩ := T
  refine wss_cons ?_
  w_dflts v_v
  refine isi_b (t := "tuple") rfl (r := true) (by decide +kernel) ?_
  w_dflts v_v
  refine ⟨_, _, _, rfl, sys_hands s, SS.hands, ?_⟩
  w_dflts v_v
  refine brn_is (c := false) (by simp [hp.1]) ?_
  w_dflts v_v
  refine ⟨_, _, _, rfl, sys_hands s, SS.hands, ?_⟩
  w_dflts v_v
  rw [enum_map]
  refine ⟨fun i ρ' O' => O' = O ∧ ∃ x y, ρ' = [some (dSys CS CH s), some (dPl p), x, y], ⟨rfl, none, none, rfl⟩, ?_, ?_, ?_⟩
  · rintro i ρ' O' _ ⟨rfl, _⟩
    rfl
  · rintro i e ρ' O' he ⟨rfl, x, y, rfl⟩
    rw [List.getElem?_map, List.getElem?_zipIdx] at he
    cases ha : s.hands[i]? with
    | none => rw [ha] at he; cases he
    | some h =>
    rw [ha] at he
    cases he
    have hi : i < p.length := by rw [hp.1]; exact (List.getElem?_eq_some_iff.mp ha).1
    have hx := List.getElem?_eq_getElem hi
    refine ⟨_, rfl, ?_⟩
    w_dflts v_v
    refine ix_sq (x := dPl p) (ds := p.map .int) rfl (atI_nat (d := .int p[i]) (by rw [List.getElem?_map, Nat.zero_add, hx]; rfl)) ?_
    w_dflts v_v
    refine ⟨.int p[i], "int", rfl, rfl, ?_⟩
    w_dflts v_v
    refine brn_is (c := false) rfl ?_
    w_dflts v_v
    refine ix_sq (x := dPl p) (ds := p.map .int) rfl (atI_nat (d := .int p[i]) (by rw [List.getElem?_map, Nat.zero_add, hx]; rfl)) ?_
    w_dflts v_v
    refine ⟨_, _, _, rfl, hand_states h, HH.states, ?_⟩
    refine nin_i (xs := h.states) rfl ?_
    rw [decide_eq_true (hp.2 i h _ ha hx)]
    w_dflts v_v
    exact ⟨rfl, _, _, rfl⟩
  · rintro ρ' O' ⟨rfl, x, y, rfl⟩
    w_dflts v_v
    exact ret_s (Sub.refl _) hq
theorem b_step_numbers (T : Bs mg) (HH : HT K mg CH) : BodyOk P w K mg base (cNums CH) s_step_numbers f N_step_numbers 0 "step_numbers" := by
  intro cdv A outer s' H E hr ds O Q hc
  obtain ⟨h, x, z, rfl, h100, hq⟩ := hc
  have hN := S_step_numbers.nd
  obtain ⟨_, _, _, _, _, _, _, _, _, _, _, _, _⟩ := T
  refine wss_cons ?_
  w_dflts v_v
  refine ⟨_, _, _, rfl, hand_words h, HH.words, ?_⟩
  refine nin_s (xs := h.words) rfl ?_
  w_dflts v_v
  unfold nums at hq
  refine brn_ndec (fun e => ?_) (fun e => ?_)
  · rw [if_neg e] at hq
    w_dflts v_v
    refine ⟨by decide, fun p hp => ?_⟩
    exact ret_l setO_same (((Sub.refl O).set hp).del hp) hq
  · rw [if_pos e] at hq
    w_dflts v_v
    refine we_lc (own := [("at", 3), ("step", 4)]) rfl hN (blkOk_by (N := N_step_numbers) (sc := C8.fnScope s_step_numbers) (by decide +kernel)) tgs_tup (fun _ _ _ _ _ => (tg_tup (is := [3, 4]) rfl (pgs_one hN rfl (Or.inl rfl) (Or.inr rfl) (pgs_one hN rfl (Or.inl rfl) (Or.inr rfl) pgs_nil rfl) rfl) rfl rfl).pg) (by decide) (fun _ => rfl) ?_
    w_dflts v_v
    refine ⟨_, _, _, rfl, hand_steps h, HH.steps, ?_⟩
    w_dflts v_v
    rw [enum_map]
    refine lc_pure (fun p : Step × Nat => if p.1.a = x ∧ p.1.w = z then some (some (p.2 : Int)) else none) dOpt (by rw [List.length_zipIdx]; omega) rfl (fun a ha => ⟨_, rfl, fun _ _ _ _ _ => ?_⟩) ?_
    · w_dflts v_v
      refine brn_dec (fun e1 => ?_) (fun e1 => ?_)
      · w_dflts v_v
        refine brn_dec (fun e2 => ?_) (fun e2 => ?_)
        · intro _ _ _ _ _
          w_dflts v_v
          exact ⟨rfl, some (a.2 : Int), by rw [if_pos ⟨e1, e2⟩], rfl⟩
        · exact ⟨rfl, by rw [if_neg fun c => e2 c.2]⟩
      · exact ⟨rfl, by rw [if_neg fun c => e1 c.1]⟩
    · exact ret_s (Sub.refl _) hq
theorem b_is_move (T : Bs mg) (HH : HT K mg CH) (SS : ST K mg CS) (c1 : C8.Cal P w K mg base 1 "is_integer" (spC K cIsInt) []) (c2 : C8.Cal P w K mg base 1 "step_numbers" (spC K (cNums CH)) []) : BodyOk P w K mg base (cIsMove CH CS) s_is_move f N_is_move 1 "is_move" := by
  intro cdv A outer s' H E hr ds O Q hc
  obtain ⟨s, p, m, rfl, ok, hp, hm, hq⟩ := hc
  have hN := S_is_move.nd
  obtain ⟨_, _, _, _, _, _, _, _, _, _, _, _, _⟩ := T
  refine wss_cons ?_
  w_dflts v_v
  refine isi_b (t := "tuple") rfl (r := true) (by decide +kernel) ?_
  w_dflts v_v
  refine brn_is (c := false) rfl ?_
  w_dflts v_v
  refine isi_b (t := "str") rfl (r := true) (by decide +kernel) ?_
  w_dflts v_v
  refine ⟨_, _, _, rfl, sys_words s, SS.words, ?_⟩
  refine nin_s (xs := s.words) rfl ?_
  rw [decide_eq_true hm.w]
  w_dflts v_v
  refine isi_b (t := "tuple") rfl (r := true) (by decide +kernel) ?_
  w_dflts v_v
  refine ⟨_, _, _, rfl, sys_hands s, SS.hands, ?_⟩
  w_dflts v_v
  refine brn_is (c := false) (by simp [hm.len]) ?_
  w_dflts v_v
  refine ⟨_, _, _, rfl, sys_hands s, SS.hands, ?_⟩
  w_dflts v_v
  rw [enum_map]
  refine ⟨fun i ρ' O' => O' = O ∧ ∃ x y u, ρ' = [some (dSys CS CH s), some (dPl p), some (dMove m), some (.str m.w), some (.tup (m.nums.map dOpt)), x, y, u], ⟨rfl, none, none, none, rfl⟩, ?_, ?_, ?_⟩
  · rintro i ρ' O' _ ⟨rfl, _⟩
    rfl
  · rintro i e ρ' O' he ⟨rfl, x, y, u, rfl⟩
    rw [List.getElem?_map, List.getElem?_zipIdx] at he
    cases ha : s.hands[i]? with
    | none => rw [ha] at he; cases he
    | some h =>
    rw [ha] at he
    cases he
    have hlt := (List.getElem?_eq_some_iff.mp ha).1
    have hpi : i < p.length := by rw [hp.1]; exact hlt
    have hmi : i < m.nums.length := by rw [hm.len]; exact hlt
    have hx := List.getElem?_eq_getElem hpi
    have hn := List.getElem?_eq_getElem hmi
    have hin := hm.num i h _ _ ha hx hn
    have h100 : h.steps.length ≤ 100 := Nat.le_trans (ok.hands h (List.mem_of_getElem? ha)).steps.2.1 (by decide)
    refine ⟨_, rfl, ?_⟩
    w_dflts v_v
    refine ix_sq (ds := m.nums.map dOpt) rfl (atI_nat (d := dOpt m.nums[i]) (by rw [List.getElem?_map, Nat.zero_add, hn]; rfl)) ?_
    w_dflts v_v
    generalize hnn : m.nums[i] = n at hin
    have go : ∀ {Y : Prop}, Y → brn (!isNone (dOpt n)) Y Y := fun h => by cases n <;> exact h
    cases n with
    | none =>
      refine brn_is (c := false) rfl ?_
      w_dflts v_v
      refine ix_sq (x := dPl p) (ds := p.map .int) rfl (atI_nat (d := .int p[i]) (by rw [List.getElem?_map, Nat.zero_add, hx]; rfl)) ?_
      w_dflts v_v
      refine ⟨h, p[i], m.w, rfl, h100, ?_⟩
      refine nin_o (a := none) (xs := nums h p[i] m.w) rfl ?_
      rw [decide_eq_true hin]
      w_dflts v_v
      exact ⟨rfl, _, _, _, rfl⟩
    | some j =>
      refine brn_is (c := true) rfl ?_
      w_dflts v_v
      refine ⟨.int j, "int", rfl, rfl, ?_⟩
      w_dflts v_v
      refine brn_is (c := false) rfl ?_
      w_dflts v_v
      refine ix_sq (x := dPl p) (ds := p.map .int) rfl (atI_nat (d := .int p[i]) (by rw [List.getElem?_map, Nat.zero_add, hx]; rfl)) ?_
      w_dflts v_v
      refine ⟨h, p[i], m.w, rfl, h100, ?_⟩
      refine nin_o (a := some j) (xs := nums h p[i] m.w) rfl ?_
      rw [decide_eq_true hin]
      w_dflts v_v
      exact ⟨rfl, _, _, _, rfl⟩
  · rintro ρ' O' ⟨rfl, x, y, u, rfl⟩
    w_dflts v_v
    exact ret_s (Sub.refl _) hq
theorem b_led_to (T : Bs mg) (HH : HT K mg CH) (SS : ST K mg CS) : BodyOk P w K mg base (cLedTo CH CS) s_led_to f N_led_to 0 "led_to" := by
  intro cdv A outer s' H E hr ds O Q hc
  obtain ⟨s, p, m, rfl, ok, hp, hm, hq⟩ := hc
  have hN := S_led_to.nd
  obtain ⟨_, _, _, _, _, _, _, _, _, _, _, _, _⟩ := T
  have hlen := zip3_len hp.1 hm.len
  have hi4 := ok.hi
  refine wss_cons ?_
  w_dflts v_v
  refine ⟨by decide, fun q hq2 => ?_⟩
  w_dflts v_v
  refine ⟨_, _, _, rfl, sys_hands s, SS.hands, ?_⟩
  w_dflts v_v
  rw [enum_map]
  refine ⟨fun i ρ' O' => O' = setO O q (.lst (((led s p m).take i).map .int)) ∧ ∃ x y u, ρ' = [some (dSys CS CH s), some (dPl p), some (dMove m), some (.raw q), x, y, u], ⟨rfl, none, none, none, rfl⟩, ?_, ?_, ?_⟩
  · rintro i ρ' O' _ ⟨rfl, _⟩
    rfl
  · rintro i e ρ' O' he ⟨rfl, x, y, u, rfl⟩
    rw [List.getElem?_map, List.getElem?_zipIdx] at he
    cases ha : s.hands[i]? with
    | none => rw [ha] at he; cases he
    | some h =>
    rw [ha] at he
    cases he
    have hlt := (List.getElem?_eq_some_iff.mp ha).1
    have hpi : i < p.length := by rw [hp.1]; exact hlt
    have hmi : i < m.nums.length := by rw [hm.len]; exact hlt
    have hx := List.getElem?_eq_getElem hpi
    have hn := List.getElem?_eq_getElem hmi
    have hin := hm.num i h _ _ ha hx hn
    have hl := led_get ha hx hn
    refine ⟨_, rfl, ?_⟩
    w_dflts v_v
    refine ix_sq (ds := m.nums.map dOpt) rfl (atI_nat (d := dOpt m.nums[i]) (by rw [List.getElem?_map, Nat.zero_add, hn]; rfl)) ?_
    w_dflts v_v
    have fin : ∀ y : Int, led1 h p[i] m.nums[i] = y → setO (setO O q (.lst (((led s p m).take i).map .int))) q (.lst (((led s p m).take i).map .int ++ [D.int y])) = setO O q (.lst (((led s p m).take (i + 1)).map .int)) := fun y e => by
      rw [setO_set, take_one hl, List.map_append, e]; rfl
    have small : (((led s p m).take i).map D.int).length < 1000000 := by rw [List.length_map, List.length_take]; omega
    generalize hnn : m.nums[i] = n at hin fin
    cases n with
    | none =>
      refine brn_is (c := true) rfl ?_
      w_dflts v_v
      refine ⟨⟨q, _, rfl, setO_same⟩, ?_⟩
      w_dflts v_v
      refine ix_sq (x := dPl p) (ds := p.map .int) rfl (atI_nat (d := .int p[i]) (by rw [List.getElem?_map, Nat.zero_add, hx]; rfl)) ?_
      refine ⟨q, _, rfl, setO_same, small, ?_⟩
      w_dflts v_v
      exact ⟨fin _ rfl, _, _, _, rfl⟩
    | some j =>
      rcases nums_mem hin with ⟨e, _⟩ | ⟨i2, st, e, h1, h2, h3, h4⟩
      · cases e
      cases e
      refine brn_is (c := false) rfl ?_
      w_dflts v_v
      refine ⟨⟨q, _, rfl, setO_same⟩, ?_⟩
      w_dflts v_v
      refine ⟨_, _, _, rfl, hand_steps h, HH.steps, ?_⟩
      w_dflts v_v
      refine ix_sq (ds := h.steps.map dSt) rfl (atI_nat (d := dSt st) (by rw [List.getElem?_map, h1]; rfl)) ?_
      w_dflts v_v
      refine ⟨q, _, rfl, setO_same, small, ?_⟩
      w_dflts v_v
      exact ⟨fin _ (led1_some h1), _, _, _, rfl⟩
  · rintro ρ' O' ⟨rfl, x, y, u, rfl⟩
    w_dflts v_v
    rw [List.length_map, List.length_zipIdx, List.take_of_length_le (by omega)]
    exact ret_s ((Sub.refl O).set hq2) hq
end

end Sd

-- B8

namespace Sd
section
variable {P : Program} {w : World} {K : PySem.W.Frag} {mg : Str → Option Value} {base : Heap} {f : Addr} {CH CS : Addr}
theorem pl_last {s : SysR} {ms : List Move} {p : List Int} : ((walkP s p ms).map dPl).getLast? = some (dPl (endP s p ms)) := by rw [List.getLast?_map, walkP_last]; rfl
theorem b_walked (T : Bs mg) (SS : ST K mg CS) (c1 : C8.Cal P w K mg base 2 "is_move" (spC K (cIsMove CH CS)) []) (c2 : C8.Cal P w K mg base 1 "led_to" (spC K (cLedTo CH CS)) []) : BodyOk P w K mg base (cWalked CH CS) s_walked f N_walked 2 "walked" := by
  intro cdv A outer s' H E hr ds O Q hc
  obtain ⟨s, ms, rfl, ok, run, hl, hq⟩ := hc
  have hN := S_walked.nd
  obtain ⟨_, _, _, _, _, _, _, _, _, _, _, _, _⟩ := T
  refine wss_cons ?_
  w_dflts v_v
  refine isi_b (t := "tuple") rfl (r := true) (by decide +kernel) ?_
  w_dflts v_v
  refine ⟨_, _, _, rfl, sys_start s, SS.start, ?_⟩
  w_dflts v_v
  refine ⟨by simp, fun q hq2 => ?_⟩
  w_dflts v_v
  rw [enum_map]
  refine ⟨fun i ρ' O' => O' = setO O q (.lst ((walkP s s.start (ms.take i)).map dPl)) ∧ ∃ x y, ρ' = [some (dSys CS CH s), some (.tup (ms.map dMove)), some (.raw q), x, y], ⟨rfl, none, none, rfl⟩, ?_, ?_, ?_⟩
  · rintro i ρ' O' _ ⟨rfl, _⟩
    rfl
  · rintro i e ρ' O' he ⟨rfl, x, y, rfl⟩
    rw [List.getElem?_map, List.getElem?_zipIdx] at he
    cases ha : ms[i]? with
    | none => rw [ha] at he; cases he
    | some m =>
    rw [ha] at he
    cases he
    obtain ⟨hst, hmv⟩ := run.at ha
    have hi := (List.getElem?_eq_some_iff.mp ha).1
    refine ⟨_, rfl, ?_⟩
    w_dflts v_v
    refine ix_sq (i := -1) (asL_raw setO_same) (atI_last pl_last) ?_
    w_dflts v_v
    refine ⟨s, _, m, rfl, ok, hst, hmv, ?_⟩
    w_dflts v_v
    refine ⟨⟨q, _, rfl, setO_same⟩, ?_⟩
    w_dflts v_v
    refine ix_sq (i := -1) (asL_raw setO_same) (atI_last pl_last) ?_
    w_dflts v_v
    refine ⟨s, _, m, rfl, ok, hst, hmv, ?_⟩
    refine ⟨q, _, rfl, setO_same, by rw [List.length_map, walkP_len, List.length_take]; omega, ?_⟩
    w_dflts v_v
    refine ⟨?_, _, _, rfl⟩
    rw [setO_set, take_one ha, walkP_snoc, List.map_append]; rfl
  · rintro ρ' O' ⟨rfl, x, y, rfl⟩
    w_dflts v_v
    rw [List.length_map, List.length_zipIdx, List.take_length]
    exact ret_l setO_same (((Sub.refl O).set hq2).del hq2) hq
theorem b_takes_along (T : Bs mg) : BodyOk P w K mg base cTakes s_takes_along f N_takes_along 0 "takes_along" := by
  intro cdv A outer s' H E hr ds O Q hc
  obtain ⟨ms, k, rfl, hk, hq⟩ := hc
  have hN := S_takes_along.nd
  refine wss_cons ?_
  w_dflts v_v
  refine .inl ⟨_, rfl, fun i ρ' O' => O' = O ∧ (¬ takes (ms.take i) k) ∧ ∃ x, ρ' = [some (.tup (ms.map dMove)), some (.int (k : Int)), x], ⟨rfl, (fun ⟨m, h, _⟩ => by simp at h), none, rfl⟩, ?_, ?_, ?_⟩
  · rintro i ρ' O' _ ⟨rfl, _⟩
    rfl
  · rintro i e ρ' O' he ⟨rfl, hno, x, rfl⟩
    rw [List.getElem?_map] at he
    cases ha : ms[i]? with
    | none => rw [ha] at he; cases he
    | some m =>
    rw [ha] at he
    cases he
    have hm := List.mem_of_getElem? ha
    have hkl := hk m hm
    have hkm := List.getElem?_eq_getElem hkl
    refine ⟨_, rfl, ?_⟩
    w_dflts v_v
    refine ix_sq (ds := m.nums.map dOpt) rfl (atI_nat (d := dOpt m.nums[k]) (by rw [List.getElem?_map, hkm]; rfl)) ?_
    w_dflts v_v
    cases hn : m.nums[k] with
    | none =>
      refine brn_is (c := false) rfl ?_
      w_dflts v_v
      refine ⟨rfl, ?_, _, rfl⟩
      rintro ⟨m', h1, i', h2⟩
      rw [take_one ha] at h1
      rcases List.mem_append.mp h1 with h1 | h1
      · exact hno ⟨m', h1, i', h2⟩
      · rw [List.mem_singleton.mp h1, hkm, hn] at h2; cases h2
    | some j =>
      refine brn_is (c := true) rfl ?_
      w_dflts v_v
      exact ret_s (Sub.refl _) (hq true ⟨fun _ => ⟨m, hm, j, by rw [hkm, hn]⟩, fun _ => rfl⟩)
  · rintro ρ' O' ⟨rfl, hno, x, rfl⟩
    rw [List.length_map, List.take_length] at hno
    w_dflts v_v
    exact ret_s (Sub.refl _) (hq false ⟨fun h => (by cases h), fun h => absurd h hno⟩)
theorem sys_able {s : SysR} : (sysF CH s).lookup ("able" : Str) = none := sys_no s (by decide +kernel) (by decide +kernel) (by decide +kernel) (by decide +kernel)
theorem b_always_able (T : Bs mg) (c1 : C8.Met P w K mg base 3 CS "able" (spC K (cAble CH CS)) []) : BodyOk P w K mg base (cAlways CH CS) s_always_able f N_always_able 3 "always_able" := by
  intro cdv A outer s' H E hr ds O Q hc
  obtain ⟨s, ps, k, rfl, ok, hst, hq⟩ := hc
  have hN := S_always_able.nd
  refine wss_cons ?_
  w_dflts v_v
  refine .inl ⟨_, rfl, fun i ρ' O' => O' = O ∧ (∀ p ∈ ps.take i, AbleK s p k) ∧ ∃ x, ρ' = [some (dSys CS CH s), some (.lst (ps.map dPl)), some (.int (k : Int)), x], ⟨rfl, (fun p h => by simp at h), none, rfl⟩, ?_, ?_, ?_⟩
  · rintro i ρ' O' _ ⟨rfl, _⟩
    rfl
  · rintro i e ρ' O' he ⟨rfl, hall, x, rfl⟩
    rw [List.getElem?_map] at he
    cases ha : ps[i]? with
    | none => rw [ha] at he; cases he
    | some p =>
    rw [ha] at he
    cases he
    have hm := List.mem_of_getElem? ha
    refine ⟨_, rfl, ?_⟩
    w_dflts v_v
    refine ⟨sys_able, ?_⟩
    w_dflts v_v
    refine ⟨s, p, rfl, ok, hst p hm, fun ms mp mm _ => ?_⟩
    refine nin_i (xs := ms) rfl ?_
    w_dflts v_v
    refine brn_ndec (fun e => ?_) (fun e => ?_)
    · w_dflts v_v
      exact ret_s (Sub.refl _) (hq false ⟨fun h => (by cases h), fun h => absurd ((mm k).mpr (h p hm)) e⟩)
    · w_dflts v_v
      refine ⟨rfl, fun p' h => ?_, _, rfl⟩
      rw [take_one ha] at h
      rcases List.mem_append.mp h with h | h
      · exact hall p' h
      · rw [List.mem_singleton.mp h]; exact (mm k).mp e
  · rintro ρ' O' ⟨rfl, hall, x, rfl⟩
    rw [List.length_map, List.take_length] at hall
    w_dflts v_v
    exact ret_s (Sub.refl _) (hq true ⟨fun _ => hall, fun _ => rfl⟩)
theorem b_able_somewhere (T : Bs mg) (c1 : C8.Met P w K mg base 3 CS "able" (spC K (cAble CH CS)) []) : BodyOk P w K mg base (cSomewhere CH CS) s_able_somewhere f N_able_somewhere 3 "able_somewhere" := by
  intro cdv A outer s' H E hr ds O Q hc
  obtain ⟨s, ps, k, rfl, ok, hst, hq⟩ := hc
  have hN := S_able_somewhere.nd
  refine wss_cons ?_
  w_dflts v_v
  refine .inl ⟨_, rfl, fun i ρ' O' => O' = O ∧ (∀ p ∈ ps.take i, ¬ AbleK s p k) ∧ ∃ x, ρ' = [some (dSys CS CH s), some (.lst (ps.map dPl)), some (.int (k : Int)), x], ⟨rfl, (fun p h => by simp at h), none, rfl⟩, ?_, ?_, ?_⟩
  · rintro i ρ' O' _ ⟨rfl, _⟩
    rfl
  · rintro i e ρ' O' he ⟨rfl, hall, x, rfl⟩
    rw [List.getElem?_map] at he
    cases ha : ps[i]? with
    | none => rw [ha] at he; cases he
    | some p =>
    rw [ha] at he
    cases he
    have hm := List.mem_of_getElem? ha
    refine ⟨_, rfl, ?_⟩
    w_dflts v_v
    refine ⟨sys_able, ?_⟩
    w_dflts v_v
    refine ⟨s, p, rfl, ok, hst p hm, fun ms mp mm _ => ?_⟩
    refine in_i (xs := ms) rfl ?_
    w_dflts v_v
    refine brn_dec (fun e => ?_) (fun e => ?_)
    · w_dflts v_v
      exact ret_s (Sub.refl _) (hq true ⟨fun _ => ⟨p, hm, (mm k).mp e⟩, fun _ => rfl⟩)
    · w_dflts v_v
      refine ⟨rfl, fun p' h => ?_, _, rfl⟩
      rw [take_one ha] at h
      rcases List.mem_append.mp h with h | h
      · exact hall p' h
      · rw [List.mem_singleton.mp h]; exact fun z => e ((mm k).mpr z)
  · rintro ρ' O' ⟨rfl, hall, x, rfl⟩
    rw [List.length_map, List.take_length] at hall
    w_dflts v_v
    exact ret_s (Sub.refl _) (hq false ⟨fun h => (by cases h), fun ⟨p, h1, h2⟩ => absurd h2 (hall p h1)⟩)
theorem b_either (T : Bs mg) : BodyOk P w K mg base cEither s_either f N_either 0 "either" := by
  intro cdv A outer s' H E hr ds O Q hc
  obtain ⟨xs, ys, rfl, hx, hy, hq⟩ := hc
  have hN := S_either.nd
  obtain ⟨_, _, _, _, _, _, _, _, _, _, _, _, _⟩ := T
  refine wss_cons ?_
  w_dflts v_v
  refine add_ll (by rw [List.length_map, List.length_map]; omega) ?_
  w_dflts v_v
  refine set_l (cs := (xs ++ ys).map Sum.inl) (by rw [List.map_map, ← List.map_append]; rfl) (fun ds e => by cases e) (by rw [List.length_map, List.length_append]; omega) fun r hr2 => ?_
  w_dflts v_v
  obtain ⟨ns, e1, e2, e3⟩ := acc_ints (xs ++ ys)
  refine srt_ki setO_same e1 fun ms pm pw => ?_
  exact ret_s ((Sub.refl O).set hr2) (hq ms (lt_of_le_nodup ms pw (pm.nodup_iff.mpr e2)) fun x => by rw [pm.mem_iff, e3, List.mem_append])
end

end Sd

-- B7

namespace Sd
section
variable {P : Program} {w : World} {K : PySem.W.Frag} {mg : Str → Option Value} {base : Heap} {f : Addr} {CH CS : Addr}
/-- the hands that have the word, with their places -/
def holdP (s : SysR) (z : Str) : List (HandR × Nat) := s.hands.zipIdx.filterMap fun q => if z ∈ q.1.words then some q else none
theorem holdP_mem {s : SysR} {z : Str} {q : HandR × Nat} : q ∈ holdP s z ↔ s.hands[q.2]? = some q.1 ∧ z ∈ q.1.words := by
  unfold holdP
  rw [List.mem_filterMap]
  constructor
  · rintro ⟨a, ha, e⟩
    split at e
    · rename_i c
      cases e
      exact ⟨List.mem_zipIdx_iff_getElem?.mp ha, c⟩
    · cases e
  · rintro ⟨h1, h2⟩
    exact ⟨q, List.mem_zipIdx_iff_getElem?.mpr h1, by rw [if_pos h2]⟩
def stuckP (s : SysR) (p : List Int) (z : Str) : List (HandR × Nat) := (holdP s z).filterMap fun q => if nums q.1 (p.getD q.2 0) z = [] then some q else none
theorem stuck_free {s : SysR} {p : List Int} (hp : p.length = s.hands.length) {z : Str} : stuckP s p z = [] ↔ Free s p z := by
  unfold stuckP
  rw [List.filterMap_eq_nil_iff]
  constructor
  · intro h k hd x hh hx hz e
    have := h (hd, k) (holdP_mem.mpr ⟨hh, hz⟩)
    have ex : p.getD k 0 = x := by rw [List.getD_eq_getElem?_getD, hx]; rfl
    simp only [ex, e] at this
    simp at this
  · intro h q hq
    obtain ⟨h1, h2⟩ := holdP_mem.mp hq
    have hk : q.2 < p.length := by rw [hp]; exact (List.getElem?_eq_some_iff.mp h1).1
    have hx := List.getElem?_eq_getElem hk
    have ex : p.getD q.2 0 = p[q.2] := by rw [List.getD_eq_getElem?_getD, hx]; rfl
    rw [ex, if_neg (h q.2 q.1 _ h1 hx h2)]
theorem holdP_len {s : SysR} {z : Str} : (holdP s z).length ≤ s.hands.length := by
  have := List.length_filterMap_le (fun q : HandR × Nat => if z ∈ q.1.words then some q else none) s.hands.zipIdx
  rw [List.length_zipIdx] at this
  exact this
theorem keys_dK (fs : List Int) : (fs.map (Sum.inl : Int → Key)).map dK = fs.map D.int := by rw [List.map_map]; rfl
theorem b_System_able (T : Bs mg) (HH : HT K mg CH) (SS : ST K mg CS) (c1 : C8.Cal P w K mg base 2 "check_standing" (spC K (cChkStand CH CS)) []) (c2 : C8.Cal P w K mg base 1 "step_numbers" (spC K (cNums CH)) []) :
    BodyOk P w K mg base (cAble CH CS) s_System_able f N_System_able 2 "System.able" := by
  intro cdv A outer s' H E hr ds O Q hc
  obtain ⟨s, p, rfl, ok, hp, hq⟩ := hc
  have hN := S_System_able.nd
  obtain ⟨_, _, _, _, _, _, _, _, _, _, _, _, _⟩ := T
  have h4 := ok.hi
  have h12 := ok.wl
  refine wss_cons ?_
  w_dflts v_v
  refine ⟨s, p, rfl, hp, h4, ?_⟩
  w_dflts v_v
  refine ⟨by decide, fun q hq2 => ?_⟩
  w_dflts v_v
  refine ⟨_, _, _, rfl, sys_words s, SS.words, ?_⟩
  refine .inl ⟨_, rfl, fun i ρ' O' => ∃ fs : List Int, O' = setO O q (.lst (fs.map .int)) ∧ (∀ x, x ∈ fs ↔ ∃ z ∈ s.words.take i, Free s p z ∧ ∃ (k : Nat) (h : HandR), s.hands[k]? = some h ∧ z ∈ h.words ∧ x = (k : Int)) ∧ fs.length ≤ 4 * i ∧
    ∃ x y u, ρ' = [some (dSys CS CH s), some (dPl p), some (.raw q), x, y, u, none, none], ⟨[], rfl, by simp, by simp, none, none, none, rfl⟩, ?_, ?_, ?_⟩
  · rintro i ρ' O' _ ⟨fs, rfl, _⟩
    rfl
  · rintro i e ρ' O' he ⟨fs, rfl, hfs, hfl, x, y, u, rfl⟩
    rw [List.getElem?_map] at he
    cases ha : s.words[i]? with
    | none => rw [ha] at he; cases he
    | some z =>
    rw [ha] at he
    cases he
    have hi : i < s.words.length := (List.getElem?_eq_some_iff.mp ha).1
    refine ⟨_, rfl, ?_⟩
    refine wss_cons ?_
    refine ws_setLc (i := 4) (own := [("at", 6), ("hand", 7)]) rfl hN rfl rfl (sw_true rfl rfl rfl (by decide +kernel)) (blkOk_by (N := N_System_able) (sc := C8.fnScope s_System_able) (by decide +kernel)) tgs_tup (fun _ _ _ _ _ => (tg_tup (is := [6, 7]) rfl (pgs_one hN rfl (Or.inl rfl) (Or.inr rfl) (pgs_one hN rfl (Or.inl rfl) (Or.inr rfl) pgs_nil rfl) rfl) rfl rfl).pg) (by decide) (fun _ => rfl) ?_
    w_dflts v_v
    refine ⟨_, _, _, rfl, sys_hands s, SS.hands, ?_⟩
    w_dflts v_v
    rw [enum_map]
    refine lc_pure (β := HandR × Nat) (fun q => if z ∈ q.1.words then some q else none) (fun q => .int (q.2 : Int)) (by rw [List.length_zipIdx]; omega) rfl (fun a ha => ⟨_, rfl, fun _ _ _ _ _ => ?_⟩) ?_
    · w_dflts v_v
      refine ⟨_, _, _, rfl, hand_words a.1, HH.words, ?_⟩
      refine in_s (xs := a.1.words) rfl ?_
      w_dflts v_v
      refine brn_dec (fun e1 => ?_) (fun e1 => ?_)
      · intro _ _ _ _ _
        w_dflts v_v
        exact ⟨rfl, a, by rw [if_pos e1], rfl⟩
      · exact ⟨rfl, by rw [if_neg e1]⟩
    show WSs _ _ _ _ _
    refine wss_cons ?_
    refine ws_setLc (i := 5) (own := [("at", 6)]) rfl hN rfl rfl (sw_true rfl rfl rfl (by decide +kernel)) (blkOk_by (N := N_System_able) (sc := C8.fnScope s_System_able) (by decide +kernel)) tgs_name (fun _ _ _ _ _ => pg_name (i := 6) hN rfl (Or.inl rfl)) (by decide) (fun _ => rfl) ?_
    w_dflts v_v
    have hl1 := holdP_len (s := s) (z := z)
    refine .inl ⟨_, rfl, lc_pure (xs := holdP s z) (β := HandR × Nat) (fun q => if nums q.1 (p.getD q.2 0) z = [] then some q else none) (fun q => .int (q.2 : Int)) (by omega) rfl (fun a ha => ⟨_, rfl, fun _ _ _ _ _ => ?_⟩) ?_⟩
    · obtain ⟨h1, h2⟩ := holdP_mem.mp ha
      have hk := (List.getElem?_eq_some_iff.mp h1).1
      have hkp : a.2 < p.length := by rw [hp.1]; exact hk
      have hx := List.getElem?_eq_getElem hkp
      have ex : p.getD a.2 0 = p[a.2] := by rw [List.getD_eq_getElem?_getD, hx]; rfl
      w_dflts v_v
      refine ⟨_, _, _, rfl, sys_hands s, SS.hands, ?_⟩
      w_dflts v_v
      refine ix_sq (ds := s.hands.map (dHand CH)) rfl (atI_nat (d := dHand CH a.1) (by rw [List.getElem?_map, h1]; rfl)) ?_
      w_dflts v_v
      refine ix_sq (x := dPl p) (ds := p.map .int) rfl (atI_nat (d := .int p[a.2]) (by rw [List.getElem?_map, hx]; rfl)) ?_
      w_dflts v_v
      refine ⟨a.1, p[a.2], z, rfl, Nat.le_trans (ok.hands _ (List.mem_of_getElem? h1)).steps.2.1 (by decide), ?_⟩
      rw [ex]
      refine ⟨_, rfl, ?_⟩
      cases hn : nums a.1 p[a.2] z with
      | nil =>
        refine brn_is (c := true) rfl ?_
        refine brn_t ?_
        intro _ _ _ _ _
        w_dflts v_v
        exact ⟨rfl, a, by simp, rfl⟩
      | cons n ns =>
        refine brn_is (c := false) rfl ?_
        exact ⟨rfl, by simp⟩
    show WSs _ _ _ _ _
    w_dflts v_v
    have hsf := stuck_free hp.1 (z := z)
    refine brn_i (fun e => ?_) (fun e => ?_)
    · have hfree : Free s p z := hsf.mp (by
        have e : (!(!((stuckP s p z).map fun q : HandR × Nat => D.int (q.2 : Int)).isEmpty)) = true := e
        simpa using e)
      w_dflts v_v
      refine ⟨⟨q, _, rfl, setO_same⟩, ?_⟩
      w_dflts v_v
      have hl2 : ((holdP s z).map fun q : HandR × Nat => D.int (q.2 : Int)).length ≤ 4 := by rw [List.length_map]; omega
      refine ⟨q, _, _, rfl, setO_same, rfl, ?_, ?_⟩
      · have : ((holdP s z).map fun q : HandR × Nat => D.int (q.2 : Int)).length ≤ 4 := hl2
        have h5 : (fs.map D.int).length ≤ 4 * i := by rw [List.length_map]; exact hfl
        show (fs.map D.int).length + ((holdP s z).map fun q : HandR × Nat => D.int (q.2 : Int)).length ≤ 1000000
        omega
      w_dflts v_v
      refine ⟨fs ++ (holdP s z).map (fun q => (q.2 : Int)), ?_, fun v => ?_, ?_, _, _, _, rfl⟩
      · rw [setO_set, List.map_append, List.map_map]; rfl
      · rw [List.mem_append, hfs, take_one ha, List.mem_map]
        constructor
        · rintro (⟨z', h1, h2⟩ | ⟨a, h1, rfl⟩)
          · exact ⟨z', List.mem_append_left _ h1, h2⟩
          · obtain ⟨h2, h3⟩ := holdP_mem.mp h1
            exact ⟨z, by simp, hfree, a.2, a.1, h2, h3, rfl⟩
        · rintro ⟨z', h1, h2, k, h, h3, h5, rfl⟩
          rcases List.mem_append.mp h1 with h1 | h1
          · exact .inl ⟨z', h1, h2, k, h, h3, h5, rfl⟩
          · rw [List.mem_singleton.mp h1] at h5
            exact .inr ⟨(h, k), holdP_mem.mpr ⟨h3, h5⟩, rfl⟩
      · rw [List.length_append, List.length_map]; omega
    · have hfree : ¬ Free s p z := fun h => by
        have e : (!(!((stuckP s p z).map fun q : HandR × Nat => D.int (q.2 : Int)).isEmpty)) = false := e
        rw [hsf.mpr h] at e
        cases e
      w_dflts v_v
      refine ⟨fun v => ?_, by omega, _, _, _, rfl⟩
      rw [hfs, take_one ha]
      constructor
      · rintro ⟨z', h1, h2⟩
        exact ⟨z', List.mem_append_left _ h1, h2⟩
      · rintro ⟨z', h1, h2, h3⟩
        rcases List.mem_append.mp h1 with h1 | h1
        · exact ⟨z', h1, h2, h3⟩
        · rw [List.mem_singleton.mp h1] at h2
          exact absurd h2 hfree
  · rintro ρ' O' ⟨fs, rfl, hfs, hfl, x, y, u, rfl⟩
    rw [List.length_map, List.take_length] at hfs
    rw [List.length_map] at hfl
    w_dflts v_v
    refine set_l (cs := fs.map Sum.inl) (by rw [keys_dK]; exact asL_raw setO_same) (fun ds e => by cases e) (by rw [List.length_map]; omega) fun r hr2 => ?_
    w_dflts v_v
    obtain ⟨ns, e1, e2, e3⟩ := acc_ints fs
    refine srt_ki setO_same e1 fun ms pm pw => ?_
    have hmem : ∀ x, x ∈ ms ↔ x ∈ fs := fun x => by rw [pm.mem_iff, e3]
    refine ret_s (((Sub.refl O).set hq2).set (by rw [← Sub.none (setO_sub hq2) hr2])) (hq ms (lt_of_le_nodup ms pw (pm.nodup_iff.mpr e2)) (fun k => ?_) fun x hx => ?_)
    · rw [hmem, hfs]
      constructor
      · rintro ⟨z, h1, h2, k', h, h3, h5, h6⟩
        have : k = k' := by omega
        subst this
        exact ⟨z, h1, h2, h, h3, h5⟩
      · rintro ⟨z, h1, h2, h, h3, h5⟩
        exact ⟨z, h1, h2, k, h, h3, h5, rfl⟩
    · obtain ⟨z, _, _, k, h, _, _, rfl⟩ := (hfs x).mp ((hmem x).mp hx)
      omega
end

end Sd

-- B9

namespace Sd
section
variable {P : Program} {w : World} {K : PySem.W.Frag} {mg : Str → Option Value} {base : Heap} {f : Addr} {CH CS : Addr}
theorem moves_app (a b : List Move) : a.map dMove ++ b.map dMove = (a ++ b).map dMove := by rw [List.map_append]
theorem sys_wd {s : SysR} : (sysF CH s).lookup ("with_diligent" : Str) = none := sys_no s (by decide +kernel) (by decide +kernel) (by decide +kernel) (by decide +kernel)
theorem b_is_fair (T : Bs mg) (SS : ST K mg CS) (c1 : C8.Cal P w K mg base 3 "walked" (spC K (cWalked CH CS)) []) (c2 : C8.Cal P w K mg base 4 "always_able" (spC K (cAlways CH CS)) []) (c3 : C8.Cal P w K mg base 1 "takes_along" (spC K cTakes) []) :
    BodyOk P w K mg base (cFair CH CS) s_is_fair f N_is_fair 4 "is_fair" := by
  intro cdv A outer s' H E hr ds O Q hc
  obtain ⟨s, stem, loop, rfl, ok, run, hl, hq⟩ := hc
  have hN := S_is_fair.nd
  obtain ⟨_, _, _, _, _, _, _, _, _, _, _, _, _⟩ := T
  have hst : ∀ p ∈ around s stem loop, Stand s p := fun p h => run.stand p (List.mem_of_mem_drop h)
  have hh : (around s stem loop).head? = some (endP s s.start stem) := by rw [around_eq]; cases loop <;> rfl
  have hlast : (around s stem loop).getLast? = some (endP s (endP s s.start stem) loop) := by rw [around_eq]; exact walkP_last ..
  have hll := run.app.len
  have hll2 : ∀ m ∈ loop, m.nums.length = s.hands.length := fun m h => run.len m (List.mem_append_right _ h)
  rw [List.length_append] at hl
  refine wss_cons ?_
  w_dflts v_v
  refine isi_b (t := "tuple") rfl (r := true) (by decide +kernel) ?_
  w_dflts v_v
  refine isi_b (t := "tuple") rfl (r := true) (by decide +kernel) ?_
  w_dflts v_v
  refine add_tt (by rw [List.length_map, List.length_map]; omega) ?_
  rw [moves_app]
  w_dflts v_v
  refine ⟨s, _, rfl, ok, run, by rw [List.length_append]; omega, ?_⟩
  w_dflts v_v
  refine sl_l ?_
  rw [List.length_map, cutD_drop, ← List.map_drop]
  show WSs _ _ _ _ _
  w_dflts v_v
  refine ix_sq (ds := (around s stem loop).map dPl) (i := -1) rfl (atI_last (d := dPl (endP s (endP s s.start stem) loop)) (by rw [List.getLast?_map, hlast]; rfl)) ?_
  w_dflts v_v
  refine ix_sq (ds := (around s stem loop).map dPl) (i := 0) rfl (atI_head (d := dPl (endP s s.start stem)) (by rw [List.head?_map, hh]; rfl)) ?_
  refine ne_enc encI.tup (fun _ _ => trivial) (fun _ _ => trivial) (by decide) ?_
  w_dflts v_v
  refine brn_ndec (fun e => ?_) (fun e => ?_)
  · w_dflts v_v
    refine ret_s (Sub.refl _) (hq false ⟨fun h => (by cases h), fun h => ?_⟩)
    have := h.1
    rw [hlast, hh] at this
    exact absurd (Option.some.inj this) e
  w_dflts v_v
  refine ⟨_, _, _, rfl, sys_dil s, SS.dil, ?_⟩
  refine .inl ⟨_, rfl, fun i ρ' O' => O' = O ∧ (∀ k : Nat, (k : Int) ∈ s.dil.take i → (∀ p ∈ around s stem loop, AbleK s p k) → takes loop k) ∧ ∃ x y, ρ' = [some (dSys CS CH s), some (.tup (stem.map dMove)), some (.tup (loop.map dMove)), y, some (.lst ((around s stem loop).map dPl)), x], ⟨rfl, (fun k h => by simp at h), none, _, rfl⟩, ?_, ?_, ?_⟩
  · rintro i ρ' O' _ ⟨rfl, _⟩
    rfl
  · rintro i e ρ' O' he ⟨rfl, hall, x, y, rfl⟩
    rw [List.getElem?_map] at he
    cases ha : s.dil[i]? with
    | none => rw [ha] at he; cases he
    | some j =>
    rw [ha] at he
    cases he
    obtain ⟨j0, j1⟩ := ok.dilr j (List.mem_of_getElem? ha)
    obtain ⟨k, rfl⟩ : ∃ k : Nat, j = (k : Int) := ⟨j.toNat, by omega⟩
    refine ⟨_, rfl, ?_⟩
    w_dflts v_v
    refine ⟨s, _, k, rfl, ok, hst, fun b hb => ?_⟩
    have skip : ((∀ p ∈ around s stem loop, AbleK s p k) → takes loop k) → ∀ k' : Nat, (k' : Int) ∈ s.dil.take (i + 1) → (∀ p ∈ around s stem loop, AbleK s p k') → takes loop k' := fun h k' hk => by
      rw [take_one ha] at hk
      rcases List.mem_append.mp hk with hk | hk
      · exact hall k' hk
      · have : k' = k := by have := List.mem_singleton.mp hk; omega
        rw [this]; exact h
    w_dflts v_v
    refine brn_i (fun eb => ?_) (fun eb => ?_)
    · w_dflts v_v
      refine ⟨loop, k, rfl, fun m hm => by rw [hll2 m hm]; omega, fun b2 hb2 => ?_⟩
      w_dflts v_v
      cases b2 with
      | true =>
        w_dflts v_v
        exact ⟨rfl, skip fun _ => hb2.mp rfl, _, _, rfl⟩
      | false =>
        w_dflts v_v
        refine ret_s (Sub.refl _) (hq false ⟨fun h => (by cases h), fun h => ?_⟩)
        have := hb2.mpr (h.2 k (List.mem_of_getElem? ha) (hb.mp eb))
        cases this
    · w_dflts v_v
      refine ⟨rfl, skip fun h => ?_, _, _, rfl⟩
      rw [hb.mpr h] at eb
      cases eb
  · rintro ρ' O' ⟨rfl, hall, x, y, rfl⟩
    rw [List.length_map, List.take_length] at hall
    w_dflts v_v
    refine ret_s (Sub.refl _) (hq true ⟨fun _ => ⟨?_, hall⟩, fun _ => rfl⟩)
    have e : endP s (endP s s.start stem) loop = endP s s.start stem := by simpa using e
    rw [hlast, hh, e]
theorem b_is_keenly_fair (T : Bs mg) (SS : ST K mg CS) (c0 : C8.Cal P w K mg base 2 "checked_diligent" (spC K cChkDil) []) (c1 : C8.Cal P w K mg base 3 "walked" (spC K (cWalked CH CS)) []) (c2 : C8.Cal P w K mg base 5 "is_fair" (spC K (cFair CH CS)) []) (c3 : C8.Cal P w K mg base 1 "takes_along" (spC K cTakes) [])
    (c4 : C8.Cal P w K mg base 4 "able_somewhere" (spC K (cSomewhere CH CS)) []) (c5 : C8.Cal P w K mg base 1 "either" (spC K cEither) []) (c6 : C8.Met P w K mg base 5 CS "with_diligent" (spC K (cWithDil CH CS)) []) :
    BodyOk P w K mg base (cKeenFair CH CS) s_is_keenly_fair f N_is_keenly_fair 5 "is_keenly_fair" := by
  intro cdv A outer s' H E hr ds O Q hc
  obtain ⟨s, dk, is, stem, loop, rfl, ok, had, run, hl, hq⟩ := hc
  have hN := S_is_keenly_fair.nd
  obtain ⟨_, _, _, _, _, _, _, _, _, _, _, _, _⟩ := T
  have hst : ∀ p ∈ around s stem loop, Stand s p := fun p h => run.stand p (List.mem_of_mem_drop h)
  have hll2 : ∀ m ∈ loop, m.nums.length = s.hands.length := fun m h => run.len m (List.mem_append_right _ h)
  have h4 := ok.hi
  rw [List.length_append] at hl
  refine wss_cons ?_
  w_dflts v_v
  refine ⟨_, _, _, rfl, sys_hands s, SS.hands, ?_⟩
  w_dflts v_v
  rw [List.length_map]
  refine ⟨dk, s.hands.length, is, rfl, by omega, had, fun ms mp mm => ?_⟩
  have hrange : ∀ i ∈ ms, 0 ≤ i ∧ i < s.hands.length := fun i hi => by
    have hi := (mm i).mp hi
    rcases had with ⟨_, rfl⟩ | ⟨_, _, _, rng⟩
    · obtain ⟨k, hk, rfl⟩ := List.mem_map.mp hi
      have := List.mem_range.mp hk
      omega
    · exact rng i hi
  have short : ∀ zs : List Int, zs.Pairwise (· < ·) → (∀ i ∈ zs, 0 ≤ i ∧ i < s.hands.length) → zs.length ≤ 4 := fun zs h1 h2 => by
    have nd : zs.Nodup := h1.imp fun h => by omega
    have := len_sub (ys := (List.range s.hands.length).map fun (i : Nat) => (i : Int)) nd fun x hx => by
      have := h2 x hx
      exact List.mem_map.mpr ⟨x.toNat, List.mem_range.mpr (by omega), by omega⟩
    rw [List.length_map, List.length_range] at this
    omega
  have l1 := short ms mp hrange
  have l2 := short s.dil ok.dil ok.dilr
  w_dflts v_v
  refine ⟨sys_wd, ?_⟩
  w_dflts v_v
  refine ⟨_, _, _, rfl, sys_dil s, SS.dil, ?_⟩
  w_dflts v_v
  refine ⟨s.dil, ms, rfl, by omega, by omega, fun bs bp bm => ?_⟩
  have had2 : DilArg O (.lst (bs.map .int)) s.hands.length bs := .inr ⟨rfl, (fun ns e => by cases e), bp.imp fun h => by omega, fun i hi => ((bm i).mp hi).elim (ok.dilr i) (hrange i)⟩
  w_dflts v_v
  refine ⟨s, _, bs, rfl, ok, had2, fun t okt th tst td => ?_⟩
  have same := SameS.of ok okt th tst
  w_dflts v_v
  refine ⟨t, stem, loop, rfl, okt, by rw [tst]; exact same.run run, by rw [List.length_append]; omega, fun b hb => ?_⟩
  have hb' : b = true ↔ ((around s stem loop).getLast? = (around s stem loop).head? ∧ ∀ k : Nat, ((k : Int) ∈ s.dil ∨ (k : Int) ∈ is) → (∀ p ∈ around s stem loop, AbleK s p k) → takes loop k) := by
    rw [hb]
    unfold Fair
    rw [same.around]
    refine and_congr Iff.rfl (forall_congr' fun k => ?_)
    rw [td, bm, mm]
    simp only [same.able]
  w_dflts v_v
  cases b with
  | false =>
    w_dflts v_v
    refine ret_s (Sub.refl _) (hq false ⟨fun h => (by cases h), fun h => ?_⟩)
    refine hb'.mpr ⟨h.1, fun k hk hall => ?_⟩
    rcases hk with hk | hk
    · exact h.2.1 k hk hall
    · obtain ⟨p, hp⟩ := List.exists_mem_of_ne_nil _ (around_ne s stem loop)
      exact h.2.2 k hk ⟨p, hp, hall p hp⟩
  | true =>
  obtain ⟨f1, f2⟩ := hb'.mp rfl
  w_dflts v_v
  refine add_tt (by rw [List.length_map, List.length_map]; omega) ?_
  rw [moves_app]
  w_dflts v_v
  refine ⟨s, _, rfl, ok, run, by rw [List.length_append]; omega, ?_⟩
  w_dflts v_v
  refine sl_l ?_
  rw [List.length_map, cutD_drop, ← List.map_drop]
  show WSs _ _ _ _ _
  w_dflts v_v
  refine .inl ⟨_, rfl, fun i ρ' O' => O' = O ∧ (∀ k : Nat, (k : Int) ∈ ms.take i → (∃ p ∈ around s stem loop, AbleK s p k) → takes loop k) ∧ ∃ x, ρ' = [some (dSys CS CH s), some dk, some (.tup (stem.map dMove)), some (.tup (loop.map dMove)), some (.tup (ms.map .int)), some (.lst ((around s stem loop).map dPl)), x], ⟨rfl, (fun k h => by simp at h), none, rfl⟩, ?_, ?_, ?_⟩
  · rintro i ρ' O' _ ⟨rfl, _⟩
    rfl
  · rintro i e ρ' O' he ⟨rfl, hall, x, rfl⟩
    rw [List.getElem?_map] at he
    cases ha : ms[i]? with
    | none => rw [ha] at he; cases he
    | some j =>
    rw [ha] at he
    cases he
    obtain ⟨j0, j1⟩ := hrange j (List.mem_of_getElem? ha)
    obtain ⟨k, rfl⟩ : ∃ k : Nat, j = (k : Int) := ⟨j.toNat, by omega⟩
    have skip : ((∃ p ∈ around s stem loop, AbleK s p k) → takes loop k) → ∀ k' : Nat, (k' : Int) ∈ ms.take (i + 1) → (∃ p ∈ around s stem loop, AbleK s p k') → takes loop k' := fun h k' hk => by
      rw [take_one ha] at hk
      rcases List.mem_append.mp hk with hk | hk
      · exact hall k' hk
      · have : k' = k := by have := List.mem_singleton.mp hk; omega
        rw [this]; exact h
    refine ⟨_, rfl, ?_⟩
    w_dflts v_v
    refine ⟨loop, k, rfl, fun m hm => by rw [hll2 m hm]; omega, fun b2 hb2 => ?_⟩
    w_dflts v_v
    cases b2 with
    | true =>
      w_dflts v_v
      exact ⟨rfl, skip fun _ => hb2.mp rfl, _, rfl⟩
    | false =>
      w_dflts v_v
      refine ⟨s, _, k, rfl, ok, hst, fun b3 hb3 => ?_⟩
      w_dflts v_v
      cases b3 with
      | true =>
        w_dflts v_v
        refine ret_s (Sub.refl _) (hq false ⟨fun h => (by cases h), fun h => ?_⟩)
        have := hb2.mpr (h.2.2 k ((mm _).mp (List.mem_of_getElem? ha)) (hb3.mp rfl))
        cases this
      | false =>
        w_dflts v_v
        refine ⟨rfl, skip fun h => ?_, _, rfl⟩
        have := hb3.mpr h
        cases this
  · rintro ρ' O' ⟨rfl, hall, x, rfl⟩
    rw [List.length_map, List.take_length] at hall
    w_dflts v_v
    refine ret_s (Sub.refl _) (hq true ⟨fun _ => ⟨f1, fun k hk => f2 k (.inl hk), fun k hk => hall k ((mm _).mpr hk)⟩, fun _ => rfl⟩)
end

end Sd

-- K4

namespace Sd
section
variable {P : Program} {w : World} {K : PySem.W.Frag} {mg : Str → Option Value} {base : Heap} {f : Addr} {CH CS : Addr}
theorem b_law_told (T : Bs mg) (c1 : C8.Cal P w K mg base 6 "is_keenly_fair" (spC K (cKeenFair CH CS)) []) : BodyOk P w K mg base (cTold CH CS) s_law_told f N_law_told 6 "_law_told" := by
  intro cdv A outer s' H E hr ds O Q hc
  obtain ⟨s, dk, is, stem, loop, due, rfl, ok, hd, run, hl, hdue, hq⟩ := hc
  have hN := S_law_told.nd
  obtain ⟨_, _, _, _, _, _, _, _, _, _, _, _, _⟩ := T
  refine wss_cons ?_
  w_dflts v_v
  refine ⟨s, dk, is, stem, loop, rfl, ok, hd, run, hl, fun b hb => ?_⟩
  have e : b = due := Bool.eq_iff_iff.mpr (hb.trans hdue.symm)
  subst e
  w_dflts v_v
  refine isi_b (t := "bool") rfl (r := true) (by decide +kernel) ?_
  w_dflts v_v
  rw [show (b == b) = true by cases b <;> rfl]
  exact ret_s (Sub.refl _) hq
theorem b_law_written_otherwise (T : Bs mg) (c0 : C8.Cal P w K mg base 1 "_law_draw" (spC K cDraw) []) (c1 : C8.Cal P w K mg base 7 "_law_told" (spC K (cTold CH CS)) []) : BodyOk P w K mg base (cWritten CH CS) s_law_written_otherwise f N_law_written_otherwise 7 "_law_written_otherwise" := by
  intro cdv A outer s' H E hr ds O Q hc
  obtain ⟨st, s, ks, stem, loop, due, rfl, hdr, ok, nd, hkr, bk, hdue, hq⟩ := hc
  have hN := S_law_written_otherwise.nd
  obtain ⟨_, _, _, _, _, _, _, _, _, _, _, _, _⟩ := T
  have l1 := bk.l1
  have l2 := bk.l2
  have lrun := bk.run.app
  have hda : ∀ O', DilArg O' (.lst (ks.map .int)) s.hands.length ks := fun O' => lst_arg nd hkr
  rw [keen_KF] at hdue
  refine wss_cons ?_
  w_dflts v_v
  rw [List.length_map]
  refine ⟨st, _, rfl, hdr, by omega, by omega, fun r O1 r0 r1 d1 => ?_⟩
  obtain ⟨t, rfl⟩ : ∃ t : Nat, r = (t : Int) := ⟨r.toNat, by omega⟩
  w_dflts v_v
  refine ⟨st, 6, rfl, d1.d, by decide, by decide, fun r2 O2 _ _ d2 => ?_⟩
  have d12 := d1.trans d2
  w_dflts v_v
  rw [List.length_map]
  refine max2_i ?_
  generalize hmx : (if (loop.length : Int) > 1 then (loop.length : Int) else 1) = mx
  have hmx1 : 1 ≤ mx ∧ mx ≤ 200 ∧ (loop.length : Int) ≤ mx := by split at hmx <;> omega
  generalize hbb : (1100 * if decide (r2 = 0) = true then (1 : Int) else 0) = bb
  have hbb1 : 0 ≤ bb ∧ bb ≤ 1100 := by split at hbb <;> omega
  refine rI_ii ⟨by omega, by omega⟩ ?_
  w_dflts v_v
  obtain ⟨mn, hmn, hml, hm2⟩ : ∃ mn : Nat, (1 + bb / mx) = ((mn + 1 : Nat) : Int) ∧ loop.length * (mn + 1) ≤ 1400 ∧ mn ≤ 1100 := by
    have hd0 : 0 ≤ bb / mx := Int.ediv_nonneg hbb1.1 (by omega)
    have hd1 : bb / mx * mx ≤ bb := Int.ediv_mul_le _ (by omega)
    have h5 : bb / mx ≤ bb := Int.le_trans (Int.le_of_eq (Int.mul_one _).symm) (Int.le_trans (Int.mul_le_mul_of_nonneg_left hmx1.1 hd0) hd1)
    refine ⟨(bb / mx).toNat, by omega, ?_, by omega⟩
    have h3 : (loop.length : Int) * (bb / mx) ≤ mx * (bb / mx) := Int.mul_le_mul_of_nonneg_right hmx1.2.2 hd0
    have e : (loop.length * ((bb / mx).toNat + 1) : Nat) = loop.length * (bb / mx).toNat + loop.length := Nat.mul_succ _ _
    have e2 : ((loop.length * (bb / mx).toNat : Nat) : Int) = (loop.length : Int) * (bb / mx) := by
      rw [Int.natCast_mul, Int.toNat_of_nonneg hd0]
    have e3 : mx * (bb / mx) = bb / mx * mx := Int.mul_comm _ _
    omega
  rw [hmn]
  refine ⟨s, _, ks, stem, loop, due, rfl, ok, hda _, bk.run, by rw [List.length_append]; omega, by rw [keen_KF]; exact hdue, ?_⟩
  w_dflts v_v
  refine add_tt (by rw [List.length_map, List.length_map]; omega) ?_
  rw [← List.map_append]
  w_dflts v_v
  have e2 : endP s s.start (stem ++ loop) = endP s s.start stem := by rw [endP_app', bk.back]
  refine ⟨s, _, ks, stem ++ loop, loop, due, rfl, ok, hda _, RunOk.join bk.run (by rw [e2]; exact lrun), by rw [List.length_append, List.length_append]; omega, by rw [keen_KF, e2]; exact hdue, ?_⟩
  w_dflts v_v
  refine add_tt (by rw [List.length_map]; omega) ?_
  rw [← List.map_append]
  w_dflts v_v
  refine ⟨s, _, ks, stem, loop ++ loop, due, rfl, ok, hda _, (by rw [← List.append_assoc]; exact RunOk.join bk.run (by rw [e2]; exact lrun)), by rw [List.length_append, List.length_append]; omega, by rw [keen_KF, KF_twice bk.back]; exact hdue, ?_⟩
  w_dflts v_v
  refine rep_t (by omega) (by omega) (by rw [List.length_map, Int.toNat_natCast]; omega) ?_
  rw [Int.toNat_natCast, ← List.map_replicate, ← List.map_flatten]
  w_dflts v_v
  have lf : (List.replicate (mn + 1) loop).flatten.length ≤ 1400 := by rw [PyProof.Rows.lm_len_rep_flat, Nat.mul_comm]; exact hml
  refine ⟨s, _, ks, stem, _, due, rfl, ok, hda _, RunOk.join bk.run.pre (bk.many mn), by rw [List.length_append]; omega, by rw [keen_KF, KF_many bk.back]; exact hdue, ?_⟩
  w_dflts v_v
  refine sl_t ?_
  rw [cutD_take, ← List.map_take]
  refine add_tt (by rw [List.length_map, List.length_map, List.length_take]; omega) ?_
  rw [← List.map_append]
  w_dflts v_v
  refine sl_t ?_
  rw [cutD_drop, ← List.map_drop]
  w_dflts v_v
  refine sl_t ?_
  rw [cutD_take, ← List.map_take]
  refine add_tt (by rw [List.length_map, List.length_map, List.length_take, List.length_drop]; omega) ?_
  rw [← List.map_append]
  w_dflts v_v
  have e3 : loop.take t ++ loop.drop t = loop := List.take_append_drop t loop
  have e4 : endP s (endP s s.start stem) (loop.take t ++ loop.drop t) = endP s s.start stem := by rw [e3]; exact bk.back
  have r4 : RunOk s (endP s s.start stem) (loop.take t ++ loop.drop t) := by rw [e3]; exact lrun
  have e5 : endP s (endP s (endP s s.start stem) (loop.take t)) (loop.drop t) = endP s s.start stem := by rw [← endP_app']; exact e4
  refine ⟨s, _, ks, stem ++ loop.take t, loop.drop t ++ loop.take t, due, rfl, ok, hda _, ?_, by simp only [List.length_append, List.length_take, List.length_drop]; omega, ?_, ?_⟩
  · rw [List.append_assoc]
    refine RunOk.join bk.run.pre (RunOk.join r4.pre ?_)
    refine RunOk.join r4.app ?_
    rw [e5]; exact r4.pre
  · rw [keen_KF, endP_app', KF_turn e4, e3]; exact hdue
  w_dflts v_v
  exact ret_s (Sub.refl _) (hq _ d12)
end

end Sd

-- K1

namespace Sd
section
variable {P : Program} {w : World} {K : PySem.W.Frag} {mg : Str → Option Value} {base : Heap} {f : Addr} {CH CS : Addr}
theorem reach_sub {x0 x1 : Int} {xs : List Step} (h : Reach x0 xs x1) {y : Int} (r : Reach x1 xs y) : Reach x0 xs y := by
  induction r with
  | here => exact h
  | step hs _ ih => exact .step hs ih
theorem reach_ok {x0 : Int} {xs : List Step} (h0 : okSt x0) (hs : ∀ s ∈ xs, okStep s) {y : Int} (r : Reach x0 xs y) : okSt y := by
  cases r with
  | here => exact h0
  | step h _ => exact (hs _ h).2.2
theorem delO_set0 {O : Own} {p : Addr} {c : OC} (h : O p = none) : delO (setO O p c) p = O := by
  funext b
  by_cases e : b = p
  · subst e; rw [delO_same, h]
  · rw [delO_ne e, setO_ne e]
theorem b_System_started_at (T : Bs mg) (HH : HT K mg CH) (SS : ST K mg CS) (c1 : C8.Cal P w K mg base 2 "check_standing" (spC K (cChkStand CH CS)) []) (c2 : C8.Mak P w K mg base 5 "Hand" CH (spC K (cHandInit CH)) []) (c3 : C8.Mak P w K mg base 3 "System" CS (spC K (cSysInit CH CS)) []) :
    BodyOk P w K mg base (cStartedAt CH CS) s_System_started_at f N_System_started_at 6 "System.started_at" := by
  intro cdv A outer s' H E hr ds O Q hc
  obtain ⟨s, p, rfl, ok, hp, hq⟩ := hc
  have hN := S_System_started_at.nd
  obtain ⟨_, _, _, _, _, _, _, _, _, _, _, _, _⟩ := T
  have h4 := ok.hi
  refine wss_cons ?_
  w_dflts v_v
  refine ⟨s, p, rfl, hp, h4, ?_⟩
  w_dflts v_u
  refine wss_cons ?_
  refine ws_setLc (i := 2) (own := [("at", 3), ("hand", 4)]) rfl hN rfl rfl (sw_true rfl rfl rfl (by decide +kernel)) (blkOk_by (N := N_System_started_at) (sc := C8.fnScope s_System_started_at) (by decide +kernel)) tgs_tup (fun _ _ _ _ _ => (tg_tup (is := [3, 4]) rfl (pgs_one hN rfl (Or.inl rfl) (Or.inr rfl) (pgs_one hN rfl (Or.inl rfl) (Or.inr rfl) pgs_nil rfl) rfl) rfl rfl).pg) (by decide) (fun _ => rfl) ?_
  w_dflts v_v
  refine ⟨_, _, _, rfl, sys_hands s, SS.hands, ?_⟩
  w_dflts v_v
  rw [enum_map]
  refine ⟨fun i acc O' => O' = O ∧ ∃ rs : List HandR, acc = rs.map (dHand CH) ∧ (∀ r ∈ rs, OkH r) ∧ rs.length = i ∧ ∀ (k : Nat) (g h : HandR) (x : Int), rs[k]? = some g → s.hands[k]? = some h → p[k]? = some x → g.start = x ∧ g.steps = h.steps, ⟨rfl, [], rfl, by simp, rfl, by simp⟩, ?_, ?_, ?_⟩
  · rintro i acc O' hi ⟨rfl, rs, rfl, _, hl, _⟩
    rw [List.length_map, List.length_zipIdx] at hi
    exact ⟨rfl, by rw [List.length_map]; omega⟩
  · rintro i d acc O' hd ⟨rfl, rs, rfl, hrs, hl, hre⟩
    rw [List.getElem?_map, List.getElem?_zipIdx] at hd
    cases ha : s.hands[i]? with
    | none => rw [ha] at hd; cases hd
    | some h =>
    rw [ha] at hd
    cases hd
    have oh := ok.hands h (List.mem_of_getElem? ha)
    have hpi : i < p.length := by rw [hp.1]; exact (List.getElem?_eq_some_iff.mp ha).1
    have hx := List.getElem?_eq_getElem hpi
    have hin := hp.2 i h _ ha hx
    have hre0 := (oh.states _).mp hin
    refine ⟨_, rfl, fun _ _ _ _ _ => ?_⟩
    w_dflts v_v
    intro _ _ _ _ _
    w_dflts v_v
    refine ix_sq (x := dPl p) (ds := p.map .int) rfl (atI_nat (d := .int p[i]) (by rw [List.getElem?_map, Nat.zero_add, hx]; rfl)) ?_
    w_dflts v_v
    refine ⟨_, _, _, rfl, hand_steps h, HH.steps, ?_⟩
    w_dflts v_v
    intro q hq2
    refine ⟨q, p[i], _, h.steps, rfl, setO_same, rfl, (fun ns e => by cases e), reach_ok oh.st oh.steps.2.2.1 hre0, oh.steps, fun ws hw => ?_, fun ms mp mm => ?_, fun g gok g1 g2 => ⟨rfl, _, setO_same, ?_⟩⟩
    · have := len_sub (ys := h.words) hw.1 fun z hz => (oh.words.2.2 z).mpr ((hw.2.2 z).mp hz)
      exact Nat.le_trans this oh.wl
    · have nd : ms.Nodup := mp.imp fun h => by omega
      have := len_sub (ys := h.states) nd fun y hy => (oh.states y).mpr (reach_sub hre0 ((mm y).mp hy))
      exact Nat.le_trans this oh.sl
    · rw [setO_set, delO_set0 hq2]
      refine ⟨rfl, rs ++ [g], by rw [List.map_append]; rfl, fun r hr => ?_, by rw [List.length_append, hl]; rfl, fun k g' h' x' e1 e2 e3 => ?_⟩
      · rcases List.mem_append.mp hr with h2 | h2
        · exact hrs r h2
        · rw [List.mem_singleton.mp h2]; exact gok
      · by_cases hk : k < rs.length
        · rw [List.getElem?_append_left hk] at e1
          exact hre k g' h' x' e1 e2 e3
        · have hk2 := (List.getElem?_eq_some_iff.mp e1).1
          rw [List.length_append] at hk2
          have : k = i := by simp at hk2; omega
          subst this
          rw [List.getElem?_append_right (by omega), hl, Nat.sub_self] at e1
          cases e1
          rw [ha] at e2; cases e2
          rw [hx] at e3; cases e3
          exact ⟨g1, g2⟩
  rintro acc O' ⟨rfl, rs, rfl, hrs, hl, hre⟩
  rw [List.length_map, List.length_zipIdx] at hl
  show WSs _ _ _ _ _
  w_dflts v_v
  refine ⟨_, _, _, rfl, sys_dil s, SS.dil, ?_⟩
  w_dflts v_v
  intro q hq2
  have at2 : ∀ (k : Nat) (h g : HandR), s.hands[k]? = some h → rs[k]? = some g → g.steps = h.steps ∧ ∀ z, z ∈ g.words ↔ z ∈ h.words := fun k h g e1 e2 => by
    have hk : k < p.length := by rw [hp.1]; exact (List.getElem?_eq_some_iff.mp e1).1
    have e := (hre k g h _ e2 e1 (List.getElem?_eq_getElem hk)).2
    refine ⟨e, fun z => ?_⟩
    rw [(hrs g (List.mem_of_getElem? e2)).words.2.2, (ok.hands h (List.mem_of_getElem? e1)).words.2.2, e]
  have wmem : ∀ z, (∃ g ∈ rs, z ∈ g.words) ↔ ∃ h ∈ s.hands, z ∈ h.words := fun z => by
    constructor
    · rintro ⟨g, h1, h2⟩
      obtain ⟨k, hk⟩ := List.getElem?_of_mem h1
      have hks : k < s.hands.length := by rw [← hl]; exact (List.getElem?_eq_some_iff.mp hk).1
      have e := List.getElem?_eq_getElem hks
      exact ⟨_, List.mem_of_getElem? e, ((at2 k _ g e hk).2 z).mp h2⟩
    · rintro ⟨h, h1, h2⟩
      obtain ⟨k, hk⟩ := List.getElem?_of_mem h1
      have hks : k < rs.length := by rw [hl]; exact (List.getElem?_eq_some_iff.mp hk).1
      have e := List.getElem?_eq_getElem hks
      exact ⟨_, List.mem_of_getElem? e, ((at2 k h _ hk e).2 z).mpr h2⟩
  have had : DilArg (setO O' q (.ins CS [])) (.tup (s.dil.map .int)) rs.length s.dil := .inr ⟨rfl, (fun ns e => by cases e), ok.dil.imp fun h => by omega, fun i hi => by rw [hl]; exact ok.dilr i hi⟩
  refine ⟨q, _, _, rs, s.dil, rfl, setO_same, rfl, (fun ns e => by cases e), by rw [hl]; exact ok.lo, by rw [hl]; exact h4, hrs, had, fun ws nd hw => ?_, fun t okt e1 e2 => ⟨rfl, _, setO_same, ?_⟩⟩
  · have := len_sub nd fun z hz => (ok.words z).mpr ((wmem z).mp ((hw z).mp hz))
    exact Nat.le_trans this ok.wl
  · rw [setO_set, delO_set0 hq2]
    refine ret_s (Sub.refl _) (hq t okt ⟨by rw [e1, hl], fun k h g h1 h2 => at2 k h g h1 (e1 ▸ h2), fun z => ?_⟩ ?_ e2)
    · rw [okt.words, ok.words, e1]; exact wmem z
    · rw [okt.start, e1]
      apply List.ext_getElem?
      intro k
      rw [List.getElem?_map]
      by_cases hk : k < rs.length
      · have hks : k < s.hands.length := by omega
        have hkp : k < p.length := by rw [hp.1]; exact hks
        rw [List.getElem?_eq_getElem hk, List.getElem?_eq_getElem hkp]
        exact congrArg some (hre k _ _ _ (List.getElem?_eq_getElem hk) (List.getElem?_eq_getElem hks) (List.getElem?_eq_getElem hkp)).1
      · rw [List.getElem?_eq_none (by omega), List.getElem?_eq_none (by rw [hp.1]; omega)]; rfl
end

end Sd

-- K5

namespace Sd
section
variable {P : Program} {w : World} {K : PySem.W.Frag} {mg : Str → Option Value} {base : Heap} {f : Addr} {CH CS : Addr}
theorem SameK.of {s t : SysR} (os : OkSys s) (ot : OkSys t) (h : t.hands = s.hands) : SameK s t :=
  ⟨by rw [h], fun k a b h1 h2 => by rw [h, h1] at h2; cases h2; exact ⟨rfl, fun _ => Iff.rfl⟩, fun z => by rw [ot.words, os.words, h]⟩
theorem keen_same {s t : SysR} (e : SameK s t) (st : t.start = s.start) {ks : List Int} {stem loop : List Move} (h : ∀ k : Nat, (k : Int) ∉ ks → ((k : Int) ∈ t.dil ↔ (k : Int) ∈ s.dil)) : KeenFair t ks stem loop ↔ KeenFair s ks stem loop := by
  rw [keen_KF, keen_KF, st, e.endP, e.KF, KF_dil h]
theorem keen_fair {s : SysR} {stem loop : List Move} : KeenFair s [] stem loop ↔ Fair s stem loop := by
  unfold KeenFair Fair
  exact ⟨fun h => ⟨h.1, h.2.1⟩, fun h => ⟨h.1, h.2, fun k hk => by simp at hk⟩⟩
theorem sys_sa {s : SysR} : (sysF CH s).lookup ("started_at" : Str) = none := sys_no s (by decide +kernel) (by decide +kernel) (by decide +kernel) (by decide +kernel)
theorem sys_wd2 {s : SysR} : (sysF CH s).lookup ("with_diligent" : Str) = none := sys_no s (by decide +kernel) (by decide +kernel) (by decide +kernel) (by decide +kernel)
theorem b_law_other_systems (T : Bs mg) (SS : ST K mg CS) (c1 : C8.Cal P w K mg base 7 "_law_told" (spC K (cTold CH CS)) []) (c2 : C8.Met P w K mg base 7 CS "started_at" (spC K (cStartedAt CH CS)) []) (c3 : C8.Met P w K mg base 5 CS "with_diligent" (spC K (cWithDil CH CS)) []) (c4 : C8.Cal P w K mg base 5 "is_fair" (spC K (cFair CH CS)) []) : BodyOk P w K mg base (cOther CH CS) s_law_other_systems f N_law_other_systems 7 "_law_other_systems" := by
  intro cdv A outer s' H E hr ds O Q hc
  obtain ⟨s, ks, stem, loop, due, rfl, ok, nd, hkr, bk, hdue, hq⟩ := hc
  have hN := S_law_other_systems.nd
  obtain ⟨_, _, _, _, _, _, _, _, _, _, _, _, _⟩ := T
  have l1 := bk.l1
  have l2 := bk.l2
  have h4 := ok.hi
  have dnd : s.dil.Nodup := ok.dil.imp fun h => by omega
  have dl : s.dil.length ≤ 4 := by
    have := len_sub (ys := (List.range s.hands.length).map fun (i : Nat) => (i : Int)) dnd fun x hx => by
      have := ok.dilr x hx
      exact List.mem_map.mpr ⟨x.toNat, List.mem_range.mpr (by omega), by omega⟩
    rw [List.length_map, List.length_range] at this
    omega
  have kl : ks.length ≤ 4 := by
    have := len_sub (ys := (List.range s.hands.length).map fun (i : Nat) => (i : Int)) nd fun x hx => by
      have := hkr x hx
      exact List.mem_map.mpr ⟨x.toNat, List.mem_range.mpr (by omega), by omega⟩
    rw [List.length_map, List.length_range] at this
    omega
  refine wss_cons ?_
  refine ws_setLc (i := 6) (own := [("hand", 8)]) rfl hN rfl rfl (sw_true rfl rfl rfl (by decide +kernel)) (blkOk_by (N := N_law_other_systems) (sc := C8.fnScope s_law_other_systems) (by decide +kernel)) tgs_name (fun _ _ _ _ _ => pg_name (i := 8) hN rfl (Or.inl rfl)) (by decide) (fun _ => rfl) ?_
  w_dflts v_v
  refine ⟨_, _, _, rfl, sys_dil s, SS.dil, ?_⟩
  refine .inl ⟨_, rfl, lc_pure (xs := s.dil) (g := .int) (β := Int) (fun x => if x ∈ ks then none else some x) .int (by omega) rfl (fun x hx => ⟨_, rfl, fun _ _ _ _ _ => ?_⟩) ?_⟩
  · w_dflts v_v
    refine nin_i (xs := ks) rfl ?_
    w_dflts v_v
    refine brn_ndec (fun e => ?_) (fun e => ?_)
    · intro _ _ _ _ _
      w_dflts v_v
      exact ⟨rfl, x, by rw [if_neg e], rfl⟩
    · exact ⟨rfl, by rw [if_pos (by simpa using e)]⟩
  generalize hrest : (s.dil.filterMap fun x => if x ∈ ks then none else some x) = rest
  have rmem : ∀ x, x ∈ rest ↔ x ∈ s.dil ∧ x ∉ ks := fun x => by
    rw [← hrest, List.mem_filterMap]
    constructor
    · rintro ⟨y, h1, h2⟩
      split at h2
      · cases h2
      · cases h2; exact ⟨h1, ‹_›⟩
    · rintro ⟨h1, h2⟩
      exact ⟨x, h1, by rw [if_neg h2]⟩
  have rnd : rest.Nodup := by
    rw [← hrest]
    have : (s.dil.filterMap fun x => if x ∈ ks then none else some x) = s.dil.filter fun x => decide (x ∉ ks) := by
      rw [← List.filterMap_eq_filter]
      congr 1
      funext x
      by_cases h : x ∈ ks <;> simp [h, Option.guard]
    rw [this]
    exact dnd.filter _
  w_dflts v_u
  refine wss_cons ?_
  w_dflts v_v
  refine ⟨_, _, _, rfl, sys_dil s, SS.dil, ?_⟩
  w_dflts v_v
  refine add_ll (by rw [List.length_map, List.length_map]; omega) ?_
  w_dflts v_v
  refine set_l (cs := (s.dil ++ ks).map Sum.inl) (by rw [List.map_map, ← List.map_append]; rfl) (fun ds e => by cases e) (by rw [List.length_map, List.length_append]; omega) fun r hr2 => ?_
  w_dflts v_v
  obtain ⟨ns, e1, e2, e3⟩ := acc_ints (s.dil ++ ks)
  refine srt_ki setO_same e1 fun ms pm pw => ?_
  have bmem : ∀ x, x ∈ ms ↔ x ∈ s.dil ∨ x ∈ ks := fun x => by rw [pm.mem_iff, e3, List.mem_append]
  have bnd : ms.Nodup := pm.nodup_iff.mpr e2
  have bin : ∀ x ∈ ms, 0 ≤ x ∧ x < s.hands.length := fun x hx => by
    rcases (bmem x).mp hx with h | h
    · exact ok.dilr x h
    · exact hkr x h
  w_dflts v_v
  refine ⟨sys_sa, ?_⟩
  w_dflts v_v
  refine ⟨s, _, rfl, ok, bk.run.pre.endS, fun t okt sk tst tdil => ?_⟩
  have tl : t.hands.length = s.hands.length := sk.len
  have tkr : ∀ x ∈ ks, 0 ≤ x ∧ x < t.hands.length := fun x hx => by rw [tl]; exact hkr x hx
  have trun : RunOk t t.start ([] ++ loop) := by
    rw [List.nil_append]
    exact sk.run okt (start_ok okt) (by rw [tst]; exact bk.run.app)
  have tfair : KeenFair t ks [] loop ↔ KeenFair s ks stem loop := by
    rw [keen_KF, keen_KF]
    show KF t t.dil ks t.start loop ↔ _
    rw [tst, sk.KF]
    exact KF_dil fun k _ => tdil k
  w_dflts v_v
  refine ⟨by simp, ?_⟩
  w_dflts v_v
  refine ⟨t, _, ks, [], loop, due, rfl, okt, lst_arg nd tkr, trun, by simp; omega, hdue.trans tfair.symm, ?_⟩
  w_dflts v_v
  refine ⟨sys_wd2, ?_⟩
  w_dflts v_v
  have lsum : (stem ++ loop).length ≤ 5000 := by rw [List.length_append]; omega
  refine ⟨s, _, rest, rfl, ok, lst_arg rnd (fun x hx => ok.dilr x ((rmem x).mp hx).1), fun u oku uh ust ud => ?_⟩
  have su := SameK.of ok oku uh
  have ufair : KeenFair u ks stem loop ↔ KeenFair s ks stem loop := keen_same su ust fun k hk => by rw [ud, rmem]; exact ⟨fun h => h.1, fun h => ⟨h, hk⟩⟩
  w_dflts v_v
  refine ⟨u, _, ks, stem, loop, due, rfl, oku, lst_arg nd (fun x hx => by rw [uh]; exact hkr x hx), (SameS.of ok oku uh ust).run (by rw [ust]; exact bk.run), lsum, hdue.trans ufair.symm, ?_⟩
  w_dflts v_v
  refine ⟨sys_wd2, ?_⟩
  w_dflts v_v
  refine ⟨s, _, ms, rfl, ok, lst_arg bnd bin, fun v okv vh vst vd => ?_⟩
  have sv := SameK.of ok okv vh
  have vrun : RunOk v v.start (stem ++ loop) := (SameS.of ok okv vh vst).run (by rw [vst]; exact bk.run)
  have vfair : KeenFair v ks stem loop ↔ KeenFair s ks stem loop := keen_same sv vst fun k hk => by rw [vd, bmem]; exact ⟨fun h => h.resolve_right hk, fun h => .inl h⟩
  w_dflts v_v
  refine ⟨v, _, ks, stem, loop, due, rfl, okv, lst_arg nd (fun x hx => by rw [vh]; exact hkr x hx), vrun, lsum, hdue.trans vfair.symm, ?_⟩
  w_dflts v_v
  cases due with
  | false => exact ret_s ((Sub.refl O).set hr2) hq
  | true =>
  w_dflts v_v
  refine ⟨sys_wd2, ?_⟩
  w_dflts v_v
  refine ⟨s, _, ms, rfl, ok, lst_arg bnd bin, fun x okx xh xst xd => ?_⟩
  w_dflts v_v
  refine ⟨x, stem, loop, rfl, okx, (SameS.of ok okx xh xst).run (by rw [xst]; exact bk.run), lsum, fun b1 hb1 => ?_⟩
  have xf : Fair x stem loop := by
    have h1 : KeenFair x ks stem loop := (keen_same (SameK.of ok okx xh) xst fun k hk => by rw [xd, bmem]; exact ⟨fun h => h.resolve_right hk, fun h => .inl h⟩).mpr (hdue.mp rfl)
    exact keen_fair.mp ⟨h1.1, h1.2.1, fun k hk => by simp at hk⟩
  have e : b1 = true := hb1.mpr xf
  subst e
  w_dflts v_v
  exact ret_s ((Sub.refl O).set hr2) hq
theorem b_law_hand_by_hand (T : Bs mg) (c0 : C8.Cal P w K mg base 1 "_law_draw" (spC K cDraw) []) (c1 : C8.Cal P w K mg base 6 "is_keenly_fair" (spC K (cKeenFair CH CS)) []) (c4 : C8.Cal P w K mg base 5 "is_fair" (spC K (cFair CH CS)) []) : BodyOk P w K mg base (cWritten CH CS) s_law_hand_by_hand f N_law_hand_by_hand 6 "_law_hand_by_hand" := by
  intro cdv A outer s' H E hr ds O Q hc
  obtain ⟨st, s, ks, stem, loop, due, rfl, hdr, ok, nd, hkr, bk, hdue, hq⟩ := hc
  have hN := S_law_hand_by_hand.nd
  obtain ⟨_, _, _, _, _, _, _, _, _, _, _, _, _⟩ := T
  have l1 := bk.l1
  have l2 := bk.l2
  have h4 := ok.hi
  have lsum : (stem ++ loop).length ≤ 5000 := by rw [List.length_append]; omega
  have kl : ks.length ≤ 4 := by
    have := len_sub (ys := (List.range s.hands.length).map fun (i : Nat) => (i : Int)) nd fun x hx => by
      have := hkr x hx
      exact List.mem_map.mpr ⟨x.toNat, List.mem_range.mpr (by omega), by omega⟩
    rw [List.length_map, List.length_range] at this
    omega
  refine wss_cons ?_
  w_dflts v_v
  refine ⟨s, stem, loop, rfl, ok, bk.run, lsum, fun pl hpl => ?_⟩
  w_dflts v_u
  refine wss_cons ?_
  refine ws_setLc (i := 7) (own := [("hand", 9)]) rfl hN rfl rfl (sw_true rfl rfl rfl (by decide +kernel)) (blkOk_by (N := N_law_hand_by_hand) (sc := C8.fnScope s_law_hand_by_hand) (by decide +kernel)) tgs_name (fun _ _ _ _ _ => pg_name (i := 9) hN rfl (Or.inl rfl)) (by decide) (fun _ => rfl) ?_
  w_dflts v_v
  refine .inl ⟨_, rfl, fun i acc O' => Sub O O' ∧ Drw O' st ∧ ∃ bs : List Bool, acc = bs.map .bl ∧ bs.length = i ∧ ∀ (t : Nat) (b : Bool) (x : Int), bs[t]? = some b → ks[t]? = some x → (b = true ↔ KeenFair s [x] stem loop), ⟨Sub.refl _, hdr, [], rfl, rfl, by simp⟩, ?_, ?_, ?_⟩
  · rintro i acc O' hi ⟨_, _, bs, rfl, hbl, _⟩
    rw [List.length_map] at hi
    exact ⟨rfl, by rw [List.length_map]; omega⟩
  · rintro i d acc O' hd ⟨sub, dr, bs, rfl, hbl, hbs⟩
    rw [List.getElem?_map] at hd
    cases hx : ks[i]? with
    | none => rw [hx] at hd; cases hd
    | some x =>
    rw [hx] at hd
    cases hd
    refine ⟨_, rfl, fun _ _ _ _ _ => ?_⟩
    w_dflts v_v
    intro _ _ _ _ _
    w_dflts v_v
    refine ⟨by simp, fun q hq1 => ?_⟩
    w_dflts v_v
    refine ⟨s, _, [x], stem, loop, rfl, ok, .inr ⟨asL_raw setO_same, (fun ns e => by cases e), by simp, fun y hy => by rw [List.mem_singleton.mp hy]; exact hkr x (List.mem_of_getElem? hx)⟩, bk.run, lsum, fun b' hb' => ?_⟩
    refine ⟨sub.set (sub.none hq1), dr.set (dr.ne hq1), bs ++ [b'], by rw [List.map_append]; rfl, by rw [List.length_append, hbl]; rfl, fun t b2 x2 h1 h2 => ?_⟩
    by_cases ht : t < bs.length
    · rw [List.getElem?_append_left ht] at h1; exact hbs t b2 x2 h1 h2
    · have ht2 := (List.getElem?_eq_some_iff.mp h1).1
      rw [List.length_append] at ht2
      have : t = i := by simp at ht2; omega
      subst this
      rw [List.getElem?_append_right (by omega), hbl, Nat.sub_self] at h1
      cases h1
      rw [hx] at h2; cases h2
      exact hb'
  rintro acc O1 ⟨sub, dr, bs, rfl, hbl, hbs⟩
  rw [List.length_map] at hbl
  have hF : false ∉ bs ↔ ∀ x ∈ ks, KeenFair s [x] stem loop := by
    constructor
    · intro h x h1
      obtain ⟨t, ht⟩ := List.getElem?_of_mem h1
      have htl := (List.getElem?_eq_some_iff.mp ht).1
      have hb := List.getElem?_eq_getElem (l := bs) (i := t) (by omega)
      refine (hbs t _ _ hb ht).mp ?_
      cases hv : bs[t] with
      | true => rfl
      | false => rw [hv] at hb; exact absurd (List.mem_of_getElem? hb) h
    · intro h h1
      obtain ⟨t, ht⟩ := List.getElem?_of_mem h1
      have htl := (List.getElem?_eq_some_iff.mp ht).1
      have hx := List.getElem?_eq_getElem (l := ks) (i := t) (by omega)
      have := (hbs t _ _ ht hx).mpr (h _ (List.mem_of_getElem? hx))
      cases this
  have hall : KeenFair s ks stem loop ↔ Fair s stem loop ∧ ∀ x ∈ ks, KeenFair s [x] stem loop := by
    constructor
    · rintro ⟨h1, h2, h3⟩
      refine ⟨⟨h1, h2⟩, fun x hx => ⟨h1, h2, fun k hk => h3 k ?_⟩⟩
      rw [List.mem_singleton.mp hk]; exact hx
    · rintro ⟨⟨h1, h2⟩, h3⟩
      exact ⟨h1, h2, fun k hk => (h3 k hk).2.2 k (List.mem_singleton.mpr rfl)⟩
  have hd2 : due = (pl && decide (false ∉ bs)) := by
    apply Bool.eq_iff_iff.mpr
    rw [hdue, hall, Bool.and_eq_true, hpl, decide_eq_true_iff, hF]
  show WSs _ _ _ _ _
  refine wss_cons (ws_if (wt_mono (Q := fun k O4 => k = false ∧ O4 = O1) ?_ fun k O4 h => ?_))
  · w_dflts v_v
    cases pl with
    | true =>
      w_dflts v_v
      refine nin_b (xs := bs) rfl ?_
      w_dflts v_v
      refine ⟨?_, rfl⟩
      rw [hd2, Bool.true_and]
      by_cases h : false ∈ bs <;> simp [h]
    | false =>
      w_dflts v_v
      refine ⟨?_, rfl⟩
      rw [hd2]; rfl
  obtain ⟨rfl, rfl⟩ := h
  w_dflts v_u
  refine wss_cons ?_
  refine ws_setLc (i := 8) (own := [("hand", 9)]) rfl hN rfl rfl (sw_true rfl rfl rfl (by decide +kernel)) (blkOk_by (N := N_law_hand_by_hand) (sc := C8.fnScope s_law_hand_by_hand) (by decide +kernel)) tgs_name (fun _ _ _ _ _ => pg_name (i := 9) hN rfl (Or.inl rfl)) (by decide) (fun _ => rfl) ?_
  w_dflts v_v
  refine .inl ⟨_, rfl, fun i acc O' => Dr st O4 O' ∧ ∃ fs : List Int, acc = fs.map .int ∧ fs.Sublist (ks.take i), ⟨.refl dr, [], rfl, by simp⟩, ?_, ?_, ?_⟩
  · rintro i acc O' hi ⟨_, fs, rfl, hfl⟩
    have := hfl.length_le
    rw [List.length_take] at this
    exact ⟨rfl, by rw [List.length_map]; omega⟩
  · rintro i d acc O' hd ⟨d1, fs, rfl, hfl⟩
    rw [List.getElem?_map] at hd
    cases hx : ks[i]? with
    | none => rw [hx] at hd; cases hd
    | some x =>
    rw [hx] at hd
    cases hd
    have htk : ks.take (i + 1) = ks.take i ++ [x] := by rw [List.take_add_one, hx]; rfl
    refine ⟨_, rfl, fun _ _ _ _ _ => ?_⟩
    w_dflts v_v
    refine ⟨st, 2, rfl, d1.d, by decide, by decide, fun r O2 _ _ d2 => ?_⟩
    w_dflts v_v
    refine brn_dec (fun e => ?_) (fun e => ?_)
    · intro _ _ _ _ _
      w_dflts v_v
      refine ⟨d1.trans d2, fs ++ [x], by rw [List.map_append]; rfl, ?_⟩
      rw [htk]; exact hfl.append_right _ |>.trans (List.Sublist.refl _)
    · refine ⟨d1.trans d2, fs, rfl, ?_⟩
      rw [htk]; exact hfl.trans (List.sublist_append_left _ _)
  rintro acc O2 ⟨d2, fs, rfl, hfl⟩
  rw [List.length_map, List.take_length] at hfl
  have stay : ∀ x c, x ≠ st → O x = some c → O2 x = some c := fun x c hx e => by rw [d2.o x hx]; exact sub x c e
  have fin : ∀ O', O' = O2 → retQ Q (.bl true) O' := fun O' e => by
    subst e
    refine ret_s (mixO_sub (g := st) stay) (hq _ ⟨?_, fun x hx => by unfold mixO; rw [if_neg hx]⟩)
    obtain ⟨a, b, c, z⟩ := d2.d
    exact ⟨a, b, c, by unfold mixO; rw [if_pos rfl]; exact z⟩
  show WSs _ _ _ _ _
  w_dflts v_v
  cases hdb : due with
  | false => exact fin _ rfl
  | true =>
  w_dflts v_v
  refine ⟨s, _, fs, stem, loop, rfl, ok, lst_arg (hfl.nodup nd) (fun x hx => hkr x (hfl.subset hx)), bk.run, lsum, fun b' hb' => ?_⟩
  have hk := hdue.mp hdb
  have e : b' = true := hb'.mpr ⟨hk.1, hk.2.1, fun k hk2 => hk.2.2 k (hfl.subset hk2)⟩
  subst e
  w_dflts v_v
  exact fin _ rfl
end

end Sd

-- B10

namespace Sd
section
variable {P : Program} {w : World} {K : PySem.W.Frag} {mg : Str → Option Value} {base : Heap} {f : Addr} {CH CS : Addr}
def THand (fs gs : List (Str × D)) : Prop := ∃ h g : HandR, fs = handF h ∧ gs = handF g ∧ h.start = g.start ∧ h.steps = g.steps ∧ (∀ s ∈ h.steps, okStep s)
theorem hand_ct : ∀ fs gs O Q, THand fs gs → Q (.bl true) O → cHandEq CH [.ins CH fs, .ins CH gs] O Q := by
  rintro fs gs O Q ⟨h, g, rfl, rfl, e1, e2, o⟩ q
  refine ⟨h, g, rfl, o, e2 ▸ o, ?_⟩
  rw [decide_eq_true e1, decide_eq_true e2]
  exact q
def TSys (CH : Addr) (fs gs : List (Str × D)) : Prop := ∃ s t : SysR, fs = sysF CH s ∧ gs = sysF CH t ∧ s.hands.map (fun h => (h.start, h.steps)) = t.hands.map (fun h => (h.start, h.steps)) ∧ (∀ h ∈ s.hands, ∀ x ∈ h.steps, okStep x) ∧ s.dil = t.dil
def cSysEq (CH CS : Addr) : Ct := fun ds O Q => ∃ s t : SysR, ds = [dSys CS CH s, dSys CS CH t] ∧ TSys CH (sysF CH s) (sysF CH t) ∧ s.hands.map (fun h => (h.start, h.steps)) = t.hands.map (fun h => (h.start, h.steps)) ∧ (∀ h ∈ s.hands, ∀ x ∈ h.steps, okStep x) ∧ s.dil = t.dil ∧ Q (.bl true) O
theorem sys_ct : ∀ fs gs O Q, TSys CH fs gs → Q (.bl true) O → cSysEq CH CS [.ins CS fs, .ins CS gs] O Q := by
  rintro fs gs O Q ⟨s, t, rfl, rfl, e1, o, e2⟩ q
  exact ⟨s, t, rfl, ⟨s, t, rfl, rfl, e1, o, e2⟩, e1, o, e2, q⟩
theorem b_System_eq (T : Bs mg) (SS : ST K mg CS) (c1 : C8.Met P w K mg base 1 CH "__eq__" (spC K (cHandEq CH)) []) : BodyOk P w K mg base (cSysEq CH CS) s_System_eq f N_System_eq 2 "System.__eq__" := by
  intro cdv A outer s' H E hr ds O Q hc
  obtain ⟨s, t, rfl, _, e1, o, e2, hq⟩ := hc
  have hN := S_System_eq.nd
  obtain ⟨_, _, _, _, _, _, _, _, _, _, _, _, _⟩ := T
  have hnm := SS.nm
  refine wss_cons ?_
  w_dflts v_u
  refine isi_own SS.ins ?_
  w_dflts v_u
  refine wss_cons (ws_ret (we_and (we_cmpR (op := CmpOp.Eq) (op_eqG (rc_owns c1 hand_ct) hr) (nomark _) ?_)))
  w_dflts v_v
  refine ⟨_, _, _, rfl, sys_hands s, SS.hands, ?_⟩
  w_dflts v_v
  refine ⟨_, _, _, rfl, sys_hands t, SS.hands, ?_⟩
  have sh : ∀ hs : List HandR, hs.map (dHand CH) = (hs.map handF).map (.ins CH) := fun hs => by rw [List.map_map]; rfl
  rw [sh, sh]
  refine eq_owns (T := THand) (by have := congrArg List.length e1; simpa using this) (fun i fs gs h1 h2 => ?_) ?_
  · rw [List.getElem?_map] at h1 h2
    cases a1 : s.hands[i]? with
    | none => rw [a1] at h1; cases h1
    | some h =>
    cases a2 : t.hands[i]? with
    | none => rw [a2] at h2; cases h2
    | some g =>
    rw [a1] at h1; rw [a2] at h2
    cases h1; cases h2
    have := congrArg (fun l => l[i]?) e1
    simp only [List.getElem?_map, a1, a2, Option.map_some, Option.some.injEq, Prod.mk.injEq] at this
    exact ⟨h, g, rfl, rfl, this.1, this.2, o h (List.mem_of_getElem? a1)⟩
  w_dflts v_v
  refine ⟨_, _, _, rfl, sys_dil s, SS.dil, ?_⟩
  w_dflts v_v
  refine ⟨_, _, _, rfl, sys_dil t, SS.dil, ?_⟩
  refine eq_enc encI.tup (a := s.dil) (b := t.dil) (fun _ _ => trivial) (fun _ _ => trivial) (by decide) ?_
  rw [decide_eq_true e2]
  exact ret_s (Sub.refl _) hq
end

end Sd

-- K6

namespace Sd
section
variable {P : Program} {w : World} {K : PySem.W.Frag} {mg : Str → Option Value} {base : Heap} {f : Addr} {CH CS : Addr}
theorem lt_unique : ∀ {xs ys : List Int}, xs.Pairwise (· < ·) → ys.Pairwise (· < ·) → (∀ x, x ∈ xs ↔ x ∈ ys) → xs = ys
  | [], [], _, _, _ => rfl
  | [], y :: ys, _, _, h => absurd ((h y).mpr List.mem_cons_self) (by simp)
  | x :: xs, [], _, _, h => absurd ((h x).mp List.mem_cons_self) (by simp)
  | x :: xs, y :: ys, h1, h2, h => by
    obtain ⟨a1, b1⟩ := List.pairwise_cons.mp h1
    obtain ⟨a2, b2⟩ := List.pairwise_cons.mp h2
    have e : x = y := by
      rcases List.mem_cons.mp ((h x).mp List.mem_cons_self) with e | e
      · exact e
      · rcases List.mem_cons.mp ((h y).mpr List.mem_cons_self) with e2 | e2
        · exact e2.symm
        · have := a1 y e2
          have := a2 x e
          omega
    subst e
    congr 1
    refine lt_unique b1 b2 fun z => ⟨fun hz => ?_, fun hz => ?_⟩
    · rcases List.mem_cons.mp ((h z).mp (List.mem_cons_of_mem _ hz)) with e | e
      · have := a1 z hz; omega
      · exact e
    · rcases List.mem_cons.mp ((h z).mpr (List.mem_cons_of_mem _ hz)) with e | e
      · have := a2 z hz; omega
      · exact e
theorem b_law (T : Bs mg) (c1 : C8.Cal P w K mg base 4 "_law_plan" (spC K cPlan) []) (c2 : C8.Cal P w K mg base 7 "_law_system" (spC K (cLSys CH CS)) []) (c3 : C8.Cal P w K mg base 3 "_law_rove" (spC K cRove) []) (c4 : C8.Cal P w K mg base 1 "_law_open" (spC K cOpen) []) (c5 : C8.Cal P w K mg base 2 "_law_cut" (spC K cCut) [])
    (c6 : C8.Cal P w K mg base 2 "_law_keen" (spC K cKeen) []) (c7 : C8.Cal P w K mg base 5 "_law_keenly_fair" (spC K cLKeenly) []) (c9 : C8.Cal P w K mg base 8 "_law_written_otherwise" (spC K (cWritten CH CS)) []) (c10 : C8.Cal P w K mg base 8 "_law_other_systems" (spC K (cOther CH CS)) []) (c11 : C8.Cal P w K mg base 7 "_law_hand_by_hand" (spC K (cWritten CH CS)) []) (c8 : C8.Met P w K mg base 3 CS "__eq__" (spC K (cSysEq CH CS)) []) : BodyOk P w K mg base cLaw s_law f N_law 8 "law" := by
  intro cdv A outer s' H E hr ds O Q hc
  obtain ⟨ns, rfl, hns, hq⟩ := hc
  have hN := S_law.nd
  obtain ⟨_, _, _, _, _, _, _, _, _, _, _, _, _⟩ := T
  refine wss_cons ?_
  w_dflts v_v
  refine ⟨ns, 3, 3, 4, rfl, hns, by decide, by decide, by decide, by decide, by decide, by decide, fun zs hs dil pr => ?_⟩
  have pr2 : PlanR 4 8 zs hs dil := ⟨pr.znd, pr.zok, pr.z1, by have := pr.z2; omega, pr.h1, by have := pr.h2; omega, pr.hands, pr.dp, pr.dr⟩
  w_dflts v_v
  refine ⟨zs, hs, dil, rfl, pr2, fun s ok lk sd => ?_⟩
  w_dflts v_u
  refine wss_cons ?_
  w_dflts v_set
  refine we_dnew fun g hg0 => ?_
  have gok0 : GroundOk s (setO O g (.dct (fun _ => none) 0)) g := ⟨fun _ => none, 0, [], setO_same, by simp, by simp, by simp, fun p d e => by cases e⟩
  w_dflts v_v
  refine ⟨ns, 5, 36, hs, g, s, rfl, hns, by decide, by decide, lk, ok, gok0, fun ms O1 run ml gr1 => ?_⟩
  w_dflts v_v
  refine ⟨ns, 4, rfl, by decide, hns, fun st a b c hst0 => ?_⟩
  have stg : st ≠ g := gr1.gr.here hst0
  have keep1 : ∀ x c', O x = some c' → setO O1 st (.lst [.int a, .int b, .int c]) x = some c' := fun x c' e => by
    have n1 : x ≠ g := fun z => by rw [z, hg0] at e; cases e
    have e1 : O1 x = some c' := by rw [gr1.o x n1, setO_ne n1]; exact e
    have n2 : x ≠ st := fun z => by rw [z, hst0] at e1; cases e1
    rw [setO_ne n2]; exact e1
  have hstO : O st = none := by
    cases z : O st with
    | none => rfl
    | some c' =>
      have n1 : st ≠ g := stg
      have e1 : O1 st = some c' := by rw [gr1.o st n1, setO_ne n1]; exact z
      rw [hst0] at e1; cases e1
  have sd' : ∀ x, x ∈ s.dil ↔ x ∈ dil := sd
  have drK : ∀ {O' O2 : Own}, Dr st O' O2 → GroundOk s O' g → (∀ x c', O x = some c' → O' x = some c') → GroundOk s O2 g ∧ ∀ x c', O x = some c' → O2 x = some c' := fun {O' O2} d go kp =>
    ⟨go.of (d.o g (Ne.symm stg)), fun x c' e => by
      have n2 : x ≠ st := fun z => by rw [z, hstO] at e; cases e
      rw [d.o x n2]; exact kp x c' e⟩
  w_dflts v_v
  refine ⟨by decide, by decide, fun i ρ' O' => GroundOk s O' g ∧ Drw O' st ∧ (∀ x c', O x = some c' → O' x = some c') ∧ ∃ x5 x9 x10 x11 x12 x13 x14, ρ' = [some (.scr ns), some (dSys CS CH s), some (.raw g), some (.tup [.tup (ms.map dMove), .lst ((walkP s s.start ms).map dPl)]), some (.raw st), x5, some (.lst (zs.map .str)), some (.lst (hs.map dLH)), some (.lst (dil.map .int)), x9, x10, x11, x12, x13, x14],
    ⟨gr1.gr.of (setO_ne (Ne.symm stg)), ⟨_, _, _, setO_same⟩, keep1, none, none, none, none, none, none, none, rfl⟩, ?_, ?_, ?_⟩
  · intro i ρ' O' _ _
    trivial
  · rintro i d ρ' O' hd ⟨go, dr, kp, x5, x9, x10, x11, x12, x13, x14, rfl⟩
    refine ⟨_, rfl, ?_⟩
    w_dflts v_v
    refine ⟨st, walkP s s.start ms, rfl, dr, (fun h => by have := walkP_len s ms s.start; rw [h] at this; simp at this), by rw [walkP_len]; omega, fun e1 e2 O2 h1 h2 he d2 => ?_⟩
    rw [walkP_len] at h2
    obtain ⟨go2, kp2⟩ := drK d2 go kp
    have hsl : ms.take e1 ++ (ms.drop e1).take (e2 - e1) = ms.take e2 := by
      have : e2 = e1 + (e2 - e1) := by omega
      conv => rhs; rw [this]
      rw [List.take_add]
    have run2 : RunOk s s.start (ms.take e1 ++ (ms.drop e1).take (e2 - e1)) := by
      rw [hsl]
      have : ms = ms.take e2 ++ ms.drop e2 := (List.take_append_drop e2 ms).symm
      rw [this] at run
      exact run.pre
    have l1 : (ms.take e1).length ≤ 200 := by rw [List.length_take]; omega
    have l2 : ((ms.drop e1).take (e2 - e1)).length ≤ 200 := by rw [List.length_take, List.length_drop]; omega
    have hwf := walkP_at s ms s.start e1 (by omega)
    have bk : Back s (ms.take e1) ((ms.drop e1).take (e2 - e1)) := by
      refine ⟨run2, ?_, l1, l2⟩
      rw [← endP_app', hsl]
      rw [hwf, walkP_at s ms s.start e2 (by omega)] at he
      exact (Option.some.inj he).symm
    w_dflts v_v
    rw [List.length_map]
    refine ⟨st, hs.length, rfl, d2.d, by rw [lk.len]; exact ok.hi, fun ks O3 knd kr d3 => ?_⟩
    have hkr : ∀ x ∈ ks, 0 ≤ x ∧ x < s.hands.length := fun x hx => by have := kr x hx; rw [← lk.len]; exact this
    obtain ⟨go3, kp3⟩ := drK d3 go2 kp2
    w_dflts v_v
    refine sl_t ?_
    rw [cutD_take, ← List.map_take]
    w_dflts v_v
    refine sl_t ?_
    rw [cutD_mid, ← List.map_drop, ← List.map_take]
    generalize hstem : ms.take e1 = stem at bk run2 l1 hwf ⊢
    generalize (ms.drop e1).take (e2 - e1) = loop at bk run2 l2 ⊢
    w_dflts v_v
    refine ⟨hs, s, g, dil, ks, stem, loop, rfl, lk, ok, run2, by rw [List.length_append]; omega, go3, sd', hkr, fun b O4 hb gr4 => ?_⟩
    have dr4 : Drw O4 st := d3.d.gr stg gr4
    have kp4 : ∀ x c', O x = some c' → O4 x = some c' := fun x c' e => by
      have n1 : x ≠ g := fun z => by rw [z, hg0] at e; cases e
      rw [gr4.o x n1]; exact kp3 x c' e
    w_dflts v_v
    refine ⟨st, s, ks, stem, loop, b, rfl, dr4, ok, knd, hkr, bk, hb, fun O5 d5 => ?_⟩
    obtain ⟨go5, kp5⟩ := drK d5 gr4.gr kp4
    w_dflts v_v
    refine ix_sq (ds := (walkP s s.start ms).map dPl) rfl (atI_nat (d := dPl (endP s s.start stem)) (by rw [List.getElem?_map, hwf]; rfl)) ?_
    w_dflts v_v
    refine ⟨s, ks, stem, loop, b, rfl, ok, knd, hkr, bk, hb, ?_⟩
    w_dflts v_v
    refine ⟨st, s, ks, stem, loop, b, rfl, d5.d, ok, knd, hkr, bk, hb, fun O6 d6 => ?_⟩
    obtain ⟨go6, kp6⟩ := drK d6 go5 kp5
    w_dflts v_v
    exact ⟨go6, d6.d, kp6, _, _, _, _, _, _, _, rfl⟩
  · rintro ρ' O' ⟨go, dr, kp, x5, x9, x10, x11, x12, x13, x14, rfl⟩
    w_dflts v_u
    refine wss_cons (ws_ret (we_cmpR (op := CmpOp.Eq) (op_eqG (rc_own c8 sys_ct) (hr.mono (by decide))) (nomark _) ?_))
    w_dflts v_v
    refine ⟨zs, hs, dil, rfl, pr2, fun t okt lkt sdt => ?_⟩
    refine eq_own (T := TSys CH) ⟨s, t, rfl, rfl, lk.trans lkt.symm, fun h hh x hx => (ok.hands h hh).steps.2.2.1 x hx, lt_unique ok.dil okt.dil fun x => (sd x).trans (sdt x).symm⟩ ?_
    exact ret_s kp hq
end

end Sd

-- SdEndA
namespace Sd
open PySem PySem.Spec PyProof.Rows L2
theorem len_law_open : ∀ ds O Q, cOpen ds O Q → ds.length = (["script", "place"] : List Str).length := by
  intro ds O Q h
  first | (obtain ⟨rfl, _⟩ := h; rfl) | (obtain ⟨_, rfl, _⟩ := h; rfl) | (obtain ⟨_, _, rfl, _⟩ := h; rfl) | (obtain ⟨_, _, _, rfl, _⟩ := h; rfl) | (obtain ⟨_, _, _, _, rfl, _⟩ := h; rfl) | (obtain ⟨_, _, _, _, _, rfl, _⟩ := h; rfl) | (obtain ⟨_, _, _, _, _, _, rfl, _⟩ := h; rfl) | (obtain ⟨_, _, _, _, _, _, _, rfl, _⟩ := h; rfl) | (obtain ⟨_, _, _, _, _, _, _, _, rfl, _⟩ := h; rfl) | (obtain ⟨_, _, _, _, _, _, _, _, _, rfl, _⟩ := h; rfl) | (obtain ⟨_, _, _, _, _, _, _, _, _, _, rfl, _⟩ := h; rfl) | (obtain ⟨_, _, _, _, _, _, _, _, _, _, _, rfl, _⟩ := h; rfl) | (obtain ⟨_, _, _, _, _, _, _, _, _, _, _, _, rfl, _⟩ := h; rfl) | (obtain ⟨_, _, _, _, _, _, _, _, _, _, _, _, _, rfl, _⟩ := h; rfl)
theorem len_law_draw : ∀ ds O Q, cDraw ds O Q → ds.length = (["state", "many"] : List Str).length := by
  intro ds O Q h
  first | (obtain ⟨rfl, _⟩ := h; rfl) | (obtain ⟨_, rfl, _⟩ := h; rfl) | (obtain ⟨_, _, rfl, _⟩ := h; rfl) | (obtain ⟨_, _, _, rfl, _⟩ := h; rfl) | (obtain ⟨_, _, _, _, rfl, _⟩ := h; rfl) | (obtain ⟨_, _, _, _, _, rfl, _⟩ := h; rfl) | (obtain ⟨_, _, _, _, _, _, rfl, _⟩ := h; rfl) | (obtain ⟨_, _, _, _, _, _, _, rfl, _⟩ := h; rfl) | (obtain ⟨_, _, _, _, _, _, _, _, rfl, _⟩ := h; rfl) | (obtain ⟨_, _, _, _, _, _, _, _, _, rfl, _⟩ := h; rfl) | (obtain ⟨_, _, _, _, _, _, _, _, _, _, rfl, _⟩ := h; rfl) | (obtain ⟨_, _, _, _, _, _, _, _, _, _, _, rfl, _⟩ := h; rfl) | (obtain ⟨_, _, _, _, _, _, _, _, _, _, _, _, rfl, _⟩ := h; rfl) | (obtain ⟨_, _, _, _, _, _, _, _, _, _, _, _, _, rfl, _⟩ := h; rfl)
theorem len_law_name : ∀ ds O Q, cName ds O Q → ds.length = (["state"] : List Str).length := by
  intro ds O Q h
  first | (obtain ⟨rfl, _⟩ := h; rfl) | (obtain ⟨_, rfl, _⟩ := h; rfl) | (obtain ⟨_, _, rfl, _⟩ := h; rfl) | (obtain ⟨_, _, _, rfl, _⟩ := h; rfl) | (obtain ⟨_, _, _, _, rfl, _⟩ := h; rfl) | (obtain ⟨_, _, _, _, _, rfl, _⟩ := h; rfl) | (obtain ⟨_, _, _, _, _, _, rfl, _⟩ := h; rfl) | (obtain ⟨_, _, _, _, _, _, _, rfl, _⟩ := h; rfl) | (obtain ⟨_, _, _, _, _, _, _, _, rfl, _⟩ := h; rfl) | (obtain ⟨_, _, _, _, _, _, _, _, _, rfl, _⟩ := h; rfl) | (obtain ⟨_, _, _, _, _, _, _, _, _, _, rfl, _⟩ := h; rfl) | (obtain ⟨_, _, _, _, _, _, _, _, _, _, _, rfl, _⟩ := h; rfl) | (obtain ⟨_, _, _, _, _, _, _, _, _, _, _, _, rfl, _⟩ := h; rfl) | (obtain ⟨_, _, _, _, _, _, _, _, _, _, _, _, _, rfl, _⟩ := h; rfl)
theorem len_law_names : ∀ ds O Q, cNames ds O Q → ds.length = (["state", "many"] : List Str).length := by
  intro ds O Q h
  first | (obtain ⟨rfl, _⟩ := h; rfl) | (obtain ⟨_, rfl, _⟩ := h; rfl) | (obtain ⟨_, _, rfl, _⟩ := h; rfl) | (obtain ⟨_, _, _, rfl, _⟩ := h; rfl) | (obtain ⟨_, _, _, _, rfl, _⟩ := h; rfl) | (obtain ⟨_, _, _, _, _, rfl, _⟩ := h; rfl) | (obtain ⟨_, _, _, _, _, _, rfl, _⟩ := h; rfl) | (obtain ⟨_, _, _, _, _, _, _, rfl, _⟩ := h; rfl) | (obtain ⟨_, _, _, _, _, _, _, _, rfl, _⟩ := h; rfl) | (obtain ⟨_, _, _, _, _, _, _, _, _, rfl, _⟩ := h; rfl) | (obtain ⟨_, _, _, _, _, _, _, _, _, _, rfl, _⟩ := h; rfl) | (obtain ⟨_, _, _, _, _, _, _, _, _, _, _, rfl, _⟩ := h; rfl) | (obtain ⟨_, _, _, _, _, _, _, _, _, _, _, _, rfl, _⟩ := h; rfl) | (obtain ⟨_, _, _, _, _, _, _, _, _, _, _, _, _, rfl, _⟩ := h; rfl)
theorem len_law_states : ∀ ds O Q, cStates ds O Q → ds.length = (["state", "many"] : List Str).length := by
  intro ds O Q h
  first | (obtain ⟨rfl, _⟩ := h; rfl) | (obtain ⟨_, rfl, _⟩ := h; rfl) | (obtain ⟨_, _, rfl, _⟩ := h; rfl) | (obtain ⟨_, _, _, rfl, _⟩ := h; rfl) | (obtain ⟨_, _, _, _, rfl, _⟩ := h; rfl) | (obtain ⟨_, _, _, _, _, rfl, _⟩ := h; rfl) | (obtain ⟨_, _, _, _, _, _, rfl, _⟩ := h; rfl) | (obtain ⟨_, _, _, _, _, _, _, rfl, _⟩ := h; rfl) | (obtain ⟨_, _, _, _, _, _, _, _, rfl, _⟩ := h; rfl) | (obtain ⟨_, _, _, _, _, _, _, _, _, rfl, _⟩ := h; rfl) | (obtain ⟨_, _, _, _, _, _, _, _, _, _, rfl, _⟩ := h; rfl) | (obtain ⟨_, _, _, _, _, _, _, _, _, _, _, rfl, _⟩ := h; rfl) | (obtain ⟨_, _, _, _, _, _, _, _, _, _, _, _, rfl, _⟩ := h; rfl) | (obtain ⟨_, _, _, _, _, _, _, _, _, _, _, _, _, rfl, _⟩ := h; rfl)
theorem len_law_hand : ∀ ds O Q, cLHand ds O Q → ds.length = (["state", "words", "most"] : List Str).length := by
  intro ds O Q h
  first | (obtain ⟨rfl, _⟩ := h; rfl) | (obtain ⟨_, rfl, _⟩ := h; rfl) | (obtain ⟨_, _, rfl, _⟩ := h; rfl) | (obtain ⟨_, _, _, rfl, _⟩ := h; rfl) | (obtain ⟨_, _, _, _, rfl, _⟩ := h; rfl) | (obtain ⟨_, _, _, _, _, rfl, _⟩ := h; rfl) | (obtain ⟨_, _, _, _, _, _, rfl, _⟩ := h; rfl) | (obtain ⟨_, _, _, _, _, _, _, rfl, _⟩ := h; rfl) | (obtain ⟨_, _, _, _, _, _, _, _, rfl, _⟩ := h; rfl) | (obtain ⟨_, _, _, _, _, _, _, _, _, rfl, _⟩ := h; rfl) | (obtain ⟨_, _, _, _, _, _, _, _, _, _, rfl, _⟩ := h; rfl) | (obtain ⟨_, _, _, _, _, _, _, _, _, _, _, rfl, _⟩ := h; rfl) | (obtain ⟨_, _, _, _, _, _, _, _, _, _, _, _, rfl, _⟩ := h; rfl) | (obtain ⟨_, _, _, _, _, _, _, _, _, _, _, _, _, rfl, _⟩ := h; rfl)
theorem len_law_plan : ∀ ds O Q, cPlan ds O Q → ds.length = (["script", "most_hands", "most_states", "most_words"] : List Str).length := by
  intro ds O Q h
  first | (obtain ⟨rfl, _⟩ := h; rfl) | (obtain ⟨_, rfl, _⟩ := h; rfl) | (obtain ⟨_, _, rfl, _⟩ := h; rfl) | (obtain ⟨_, _, _, rfl, _⟩ := h; rfl) | (obtain ⟨_, _, _, _, rfl, _⟩ := h; rfl) | (obtain ⟨_, _, _, _, _, rfl, _⟩ := h; rfl) | (obtain ⟨_, _, _, _, _, _, rfl, _⟩ := h; rfl) | (obtain ⟨_, _, _, _, _, _, _, rfl, _⟩ := h; rfl) | (obtain ⟨_, _, _, _, _, _, _, _, rfl, _⟩ := h; rfl) | (obtain ⟨_, _, _, _, _, _, _, _, _, rfl, _⟩ := h; rfl) | (obtain ⟨_, _, _, _, _, _, _, _, _, _, rfl, _⟩ := h; rfl) | (obtain ⟨_, _, _, _, _, _, _, _, _, _, _, rfl, _⟩ := h; rfl) | (obtain ⟨_, _, _, _, _, _, _, _, _, _, _, _, rfl, _⟩ := h; rfl) | (obtain ⟨_, _, _, _, _, _, _, _, _, _, _, _, _, rfl, _⟩ := h; rfl)
theorem len_is_integer : ∀ ds O Q, cIsInt ds O Q → ds.length = (["thing"] : List Str).length := by
  intro ds O Q h
  first | (obtain ⟨rfl, _⟩ := h; rfl) | (obtain ⟨_, rfl, _⟩ := h; rfl) | (obtain ⟨_, _, rfl, _⟩ := h; rfl) | (obtain ⟨_, _, _, rfl, _⟩ := h; rfl) | (obtain ⟨_, _, _, _, rfl, _⟩ := h; rfl) | (obtain ⟨_, _, _, _, _, rfl, _⟩ := h; rfl) | (obtain ⟨_, _, _, _, _, _, rfl, _⟩ := h; rfl) | (obtain ⟨_, _, _, _, _, _, _, rfl, _⟩ := h; rfl) | (obtain ⟨_, _, _, _, _, _, _, _, rfl, _⟩ := h; rfl) | (obtain ⟨_, _, _, _, _, _, _, _, _, rfl, _⟩ := h; rfl) | (obtain ⟨_, _, _, _, _, _, _, _, _, _, rfl, _⟩ := h; rfl) | (obtain ⟨_, _, _, _, _, _, _, _, _, _, _, rfl, _⟩ := h; rfl) | (obtain ⟨_, _, _, _, _, _, _, _, _, _, _, _, rfl, _⟩ := h; rfl) | (obtain ⟨_, _, _, _, _, _, _, _, _, _, _, _, _, rfl, _⟩ := h; rfl)
theorem len_is_state : ∀ ds O Q, cIsState ds O Q → ds.length = (["thing"] : List Str).length := by
  intro ds O Q h
  first | (obtain ⟨rfl, _⟩ := h; rfl) | (obtain ⟨_, rfl, _⟩ := h; rfl) | (obtain ⟨_, _, rfl, _⟩ := h; rfl) | (obtain ⟨_, _, _, rfl, _⟩ := h; rfl) | (obtain ⟨_, _, _, _, rfl, _⟩ := h; rfl) | (obtain ⟨_, _, _, _, _, rfl, _⟩ := h; rfl) | (obtain ⟨_, _, _, _, _, _, rfl, _⟩ := h; rfl) | (obtain ⟨_, _, _, _, _, _, _, rfl, _⟩ := h; rfl) | (obtain ⟨_, _, _, _, _, _, _, _, rfl, _⟩ := h; rfl) | (obtain ⟨_, _, _, _, _, _, _, _, _, rfl, _⟩ := h; rfl) | (obtain ⟨_, _, _, _, _, _, _, _, _, _, rfl, _⟩ := h; rfl) | (obtain ⟨_, _, _, _, _, _, _, _, _, _, _, rfl, _⟩ := h; rfl) | (obtain ⟨_, _, _, _, _, _, _, _, _, _, _, _, rfl, _⟩ := h; rfl) | (obtain ⟨_, _, _, _, _, _, _, _, _, _, _, _, _, rfl, _⟩ := h; rfl)
theorem len_is_row : ∀ ds O Q, cIsRow ds O Q → ds.length = (["thing"] : List Str).length := by
  intro ds O Q h
  first | (obtain ⟨rfl, _⟩ := h; rfl) | (obtain ⟨_, rfl, _⟩ := h; rfl) | (obtain ⟨_, _, rfl, _⟩ := h; rfl) | (obtain ⟨_, _, _, rfl, _⟩ := h; rfl) | (obtain ⟨_, _, _, _, rfl, _⟩ := h; rfl) | (obtain ⟨_, _, _, _, _, rfl, _⟩ := h; rfl) | (obtain ⟨_, _, _, _, _, _, rfl, _⟩ := h; rfl) | (obtain ⟨_, _, _, _, _, _, _, rfl, _⟩ := h; rfl) | (obtain ⟨_, _, _, _, _, _, _, _, rfl, _⟩ := h; rfl) | (obtain ⟨_, _, _, _, _, _, _, _, _, rfl, _⟩ := h; rfl) | (obtain ⟨_, _, _, _, _, _, _, _, _, _, rfl, _⟩ := h; rfl) | (obtain ⟨_, _, _, _, _, _, _, _, _, _, _, rfl, _⟩ := h; rfl) | (obtain ⟨_, _, _, _, _, _, _, _, _, _, _, _, rfl, _⟩ := h; rfl) | (obtain ⟨_, _, _, _, _, _, _, _, _, _, _, _, _, rfl, _⟩ := h; rfl)
theorem len_is_name : ∀ ds O Q, cIsName ds O Q → ds.length = (["thing"] : List Str).length := by
  intro ds O Q h
  first | (obtain ⟨rfl, _⟩ := h; rfl) | (obtain ⟨_, rfl, _⟩ := h; rfl) | (obtain ⟨_, _, rfl, _⟩ := h; rfl) | (obtain ⟨_, _, _, rfl, _⟩ := h; rfl) | (obtain ⟨_, _, _, _, rfl, _⟩ := h; rfl) | (obtain ⟨_, _, _, _, _, rfl, _⟩ := h; rfl) | (obtain ⟨_, _, _, _, _, _, rfl, _⟩ := h; rfl) | (obtain ⟨_, _, _, _, _, _, _, rfl, _⟩ := h; rfl) | (obtain ⟨_, _, _, _, _, _, _, _, rfl, _⟩ := h; rfl) | (obtain ⟨_, _, _, _, _, _, _, _, _, rfl, _⟩ := h; rfl) | (obtain ⟨_, _, _, _, _, _, _, _, _, _, rfl, _⟩ := h; rfl) | (obtain ⟨_, _, _, _, _, _, _, _, _, _, _, rfl, _⟩ := h; rfl) | (obtain ⟨_, _, _, _, _, _, _, _, _, _, _, _, rfl, _⟩ := h; rfl) | (obtain ⟨_, _, _, _, _, _, _, _, _, _, _, _, _, rfl, _⟩ := h; rfl)
theorem len_is_step : ∀ ds O Q, cIsStep ds O Q → ds.length = (["thing"] : List Str).length := by
  intro ds O Q h
  first | (obtain ⟨rfl, _⟩ := h; rfl) | (obtain ⟨_, rfl, _⟩ := h; rfl) | (obtain ⟨_, _, rfl, _⟩ := h; rfl) | (obtain ⟨_, _, _, rfl, _⟩ := h; rfl) | (obtain ⟨_, _, _, _, rfl, _⟩ := h; rfl) | (obtain ⟨_, _, _, _, _, rfl, _⟩ := h; rfl) | (obtain ⟨_, _, _, _, _, _, rfl, _⟩ := h; rfl) | (obtain ⟨_, _, _, _, _, _, _, rfl, _⟩ := h; rfl) | (obtain ⟨_, _, _, _, _, _, _, _, rfl, _⟩ := h; rfl) | (obtain ⟨_, _, _, _, _, _, _, _, _, rfl, _⟩ := h; rfl) | (obtain ⟨_, _, _, _, _, _, _, _, _, _, rfl, _⟩ := h; rfl) | (obtain ⟨_, _, _, _, _, _, _, _, _, _, _, rfl, _⟩ := h; rfl) | (obtain ⟨_, _, _, _, _, _, _, _, _, _, _, _, rfl, _⟩ := h; rfl) | (obtain ⟨_, _, _, _, _, _, _, _, _, _, _, _, _, rfl, _⟩ := h; rfl)
theorem len_leaving : ∀ ds O Q, cLeaving ds O Q → ds.length = (["steps", "state"] : List Str).length := by
  intro ds O Q h
  first | (obtain ⟨rfl, _⟩ := h; rfl) | (obtain ⟨_, rfl, _⟩ := h; rfl) | (obtain ⟨_, _, rfl, _⟩ := h; rfl) | (obtain ⟨_, _, _, rfl, _⟩ := h; rfl) | (obtain ⟨_, _, _, _, rfl, _⟩ := h; rfl) | (obtain ⟨_, _, _, _, _, rfl, _⟩ := h; rfl) | (obtain ⟨_, _, _, _, _, _, rfl, _⟩ := h; rfl) | (obtain ⟨_, _, _, _, _, _, _, rfl, _⟩ := h; rfl) | (obtain ⟨_, _, _, _, _, _, _, _, rfl, _⟩ := h; rfl) | (obtain ⟨_, _, _, _, _, _, _, _, _, rfl, _⟩ := h; rfl) | (obtain ⟨_, _, _, _, _, _, _, _, _, _, rfl, _⟩ := h; rfl) | (obtain ⟨_, _, _, _, _, _, _, _, _, _, _, rfl, _⟩ := h; rfl) | (obtain ⟨_, _, _, _, _, _, _, _, _, _, _, _, rfl, _⟩ := h; rfl) | (obtain ⟨_, _, _, _, _, _, _, _, _, _, _, _, _, rfl, _⟩ := h; rfl)
theorem len_checked_steps : ∀ ds O Q, cChkSteps ds O Q → ds.length = (["steps"] : List Str).length := by
  intro ds O Q h
  first | (obtain ⟨rfl, _⟩ := h; rfl) | (obtain ⟨_, rfl, _⟩ := h; rfl) | (obtain ⟨_, _, rfl, _⟩ := h; rfl) | (obtain ⟨_, _, _, rfl, _⟩ := h; rfl) | (obtain ⟨_, _, _, _, rfl, _⟩ := h; rfl) | (obtain ⟨_, _, _, _, _, rfl, _⟩ := h; rfl) | (obtain ⟨_, _, _, _, _, _, rfl, _⟩ := h; rfl) | (obtain ⟨_, _, _, _, _, _, _, rfl, _⟩ := h; rfl) | (obtain ⟨_, _, _, _, _, _, _, _, rfl, _⟩ := h; rfl) | (obtain ⟨_, _, _, _, _, _, _, _, _, rfl, _⟩ := h; rfl) | (obtain ⟨_, _, _, _, _, _, _, _, _, _, rfl, _⟩ := h; rfl) | (obtain ⟨_, _, _, _, _, _, _, _, _, _, _, rfl, _⟩ := h; rfl) | (obtain ⟨_, _, _, _, _, _, _, _, _, _, _, _, rfl, _⟩ := h; rfl) | (obtain ⟨_, _, _, _, _, _, _, _, _, _, _, _, _, rfl, _⟩ := h; rfl)
theorem len_reached_states : ∀ ds O Q, cReached ds O Q → ds.length = (["start", "steps"] : List Str).length := by
  intro ds O Q h
  first | (obtain ⟨rfl, _⟩ := h; rfl) | (obtain ⟨_, rfl, _⟩ := h; rfl) | (obtain ⟨_, _, rfl, _⟩ := h; rfl) | (obtain ⟨_, _, _, rfl, _⟩ := h; rfl) | (obtain ⟨_, _, _, _, rfl, _⟩ := h; rfl) | (obtain ⟨_, _, _, _, _, rfl, _⟩ := h; rfl) | (obtain ⟨_, _, _, _, _, _, rfl, _⟩ := h; rfl) | (obtain ⟨_, _, _, _, _, _, _, rfl, _⟩ := h; rfl) | (obtain ⟨_, _, _, _, _, _, _, _, rfl, _⟩ := h; rfl) | (obtain ⟨_, _, _, _, _, _, _, _, _, rfl, _⟩ := h; rfl) | (obtain ⟨_, _, _, _, _, _, _, _, _, _, rfl, _⟩ := h; rfl) | (obtain ⟨_, _, _, _, _, _, _, _, _, _, _, rfl, _⟩ := h; rfl) | (obtain ⟨_, _, _, _, _, _, _, _, _, _, _, _, rfl, _⟩ := h; rfl) | (obtain ⟨_, _, _, _, _, _, _, _, _, _, _, _, _, rfl, _⟩ := h; rfl)
theorem len_Hand_init {CH : Addr} : ∀ ds O Q, (cHandInit CH) ds O Q → ds.length = (["self", "start", "steps"] : List Str).length := by
  intro ds O Q h
  first | (obtain ⟨rfl, _⟩ := h; rfl) | (obtain ⟨_, rfl, _⟩ := h; rfl) | (obtain ⟨_, _, rfl, _⟩ := h; rfl) | (obtain ⟨_, _, _, rfl, _⟩ := h; rfl) | (obtain ⟨_, _, _, _, rfl, _⟩ := h; rfl) | (obtain ⟨_, _, _, _, _, rfl, _⟩ := h; rfl) | (obtain ⟨_, _, _, _, _, _, rfl, _⟩ := h; rfl) | (obtain ⟨_, _, _, _, _, _, _, rfl, _⟩ := h; rfl) | (obtain ⟨_, _, _, _, _, _, _, _, rfl, _⟩ := h; rfl) | (obtain ⟨_, _, _, _, _, _, _, _, _, rfl, _⟩ := h; rfl) | (obtain ⟨_, _, _, _, _, _, _, _, _, _, rfl, _⟩ := h; rfl) | (obtain ⟨_, _, _, _, _, _, _, _, _, _, _, rfl, _⟩ := h; rfl) | (obtain ⟨_, _, _, _, _, _, _, _, _, _, _, _, rfl, _⟩ := h; rfl) | (obtain ⟨_, _, _, _, _, _, _, _, _, _, _, _, _, rfl, _⟩ := h; rfl)
theorem len_checked_hands {CH : Addr} : ∀ ds O Q, (cChkHands CH) ds O Q → ds.length = (["hands"] : List Str).length := by
  intro ds O Q h
  first | (obtain ⟨rfl, _⟩ := h; rfl) | (obtain ⟨_, rfl, _⟩ := h; rfl) | (obtain ⟨_, _, rfl, _⟩ := h; rfl) | (obtain ⟨_, _, _, rfl, _⟩ := h; rfl) | (obtain ⟨_, _, _, _, rfl, _⟩ := h; rfl) | (obtain ⟨_, _, _, _, _, rfl, _⟩ := h; rfl) | (obtain ⟨_, _, _, _, _, _, rfl, _⟩ := h; rfl) | (obtain ⟨_, _, _, _, _, _, _, rfl, _⟩ := h; rfl) | (obtain ⟨_, _, _, _, _, _, _, _, rfl, _⟩ := h; rfl) | (obtain ⟨_, _, _, _, _, _, _, _, _, rfl, _⟩ := h; rfl) | (obtain ⟨_, _, _, _, _, _, _, _, _, _, rfl, _⟩ := h; rfl) | (obtain ⟨_, _, _, _, _, _, _, _, _, _, _, rfl, _⟩ := h; rfl) | (obtain ⟨_, _, _, _, _, _, _, _, _, _, _, _, rfl, _⟩ := h; rfl) | (obtain ⟨_, _, _, _, _, _, _, _, _, _, _, _, _, rfl, _⟩ := h; rfl)
theorem len_checked_diligent : ∀ ds O Q, cChkDil ds O Q → ds.length = (["row", "many"] : List Str).length := by
  intro ds O Q h
  first | (obtain ⟨rfl, _⟩ := h; rfl) | (obtain ⟨_, rfl, _⟩ := h; rfl) | (obtain ⟨_, _, rfl, _⟩ := h; rfl) | (obtain ⟨_, _, _, rfl, _⟩ := h; rfl) | (obtain ⟨_, _, _, _, rfl, _⟩ := h; rfl) | (obtain ⟨_, _, _, _, _, rfl, _⟩ := h; rfl) | (obtain ⟨_, _, _, _, _, _, rfl, _⟩ := h; rfl) | (obtain ⟨_, _, _, _, _, _, _, rfl, _⟩ := h; rfl) | (obtain ⟨_, _, _, _, _, _, _, _, rfl, _⟩ := h; rfl) | (obtain ⟨_, _, _, _, _, _, _, _, _, rfl, _⟩ := h; rfl) | (obtain ⟨_, _, _, _, _, _, _, _, _, _, rfl, _⟩ := h; rfl) | (obtain ⟨_, _, _, _, _, _, _, _, _, _, _, rfl, _⟩ := h; rfl) | (obtain ⟨_, _, _, _, _, _, _, _, _, _, _, _, rfl, _⟩ := h; rfl) | (obtain ⟨_, _, _, _, _, _, _, _, _, _, _, _, _, rfl, _⟩ := h; rfl)
theorem len_System_init {CH CS : Addr} : ∀ ds O Q, (cSysInit CH CS) ds O Q → ds.length = (["self", "hands", "diligent"] : List Str).length := by
  intro ds O Q h
  first | (obtain ⟨rfl, _⟩ := h; rfl) | (obtain ⟨_, rfl, _⟩ := h; rfl) | (obtain ⟨_, _, rfl, _⟩ := h; rfl) | (obtain ⟨_, _, _, rfl, _⟩ := h; rfl) | (obtain ⟨_, _, _, _, rfl, _⟩ := h; rfl) | (obtain ⟨_, _, _, _, _, rfl, _⟩ := h; rfl) | (obtain ⟨_, _, _, _, _, _, rfl, _⟩ := h; rfl) | (obtain ⟨_, _, _, _, _, _, _, rfl, _⟩ := h; rfl) | (obtain ⟨_, _, _, _, _, _, _, _, rfl, _⟩ := h; rfl) | (obtain ⟨_, _, _, _, _, _, _, _, _, rfl, _⟩ := h; rfl) | (obtain ⟨_, _, _, _, _, _, _, _, _, _, rfl, _⟩ := h; rfl) | (obtain ⟨_, _, _, _, _, _, _, _, _, _, _, rfl, _⟩ := h; rfl) | (obtain ⟨_, _, _, _, _, _, _, _, _, _, _, _, rfl, _⟩ := h; rfl) | (obtain ⟨_, _, _, _, _, _, _, _, _, _, _, _, _, rfl, _⟩ := h; rfl)
theorem len_law_system {CH CS : Addr} : ∀ ds O Q, (cLSys CH CS) ds O Q → ds.length = (["hands", "diligent"] : List Str).length := by
  intro ds O Q h
  first | (obtain ⟨rfl, _⟩ := h; rfl) | (obtain ⟨_, rfl, _⟩ := h; rfl) | (obtain ⟨_, _, rfl, _⟩ := h; rfl) | (obtain ⟨_, _, _, rfl, _⟩ := h; rfl) | (obtain ⟨_, _, _, _, rfl, _⟩ := h; rfl) | (obtain ⟨_, _, _, _, _, rfl, _⟩ := h; rfl) | (obtain ⟨_, _, _, _, _, _, rfl, _⟩ := h; rfl) | (obtain ⟨_, _, _, _, _, _, _, rfl, _⟩ := h; rfl) | (obtain ⟨_, _, _, _, _, _, _, _, rfl, _⟩ := h; rfl) | (obtain ⟨_, _, _, _, _, _, _, _, _, rfl, _⟩ := h; rfl) | (obtain ⟨_, _, _, _, _, _, _, _, _, _, rfl, _⟩ := h; rfl) | (obtain ⟨_, _, _, _, _, _, _, _, _, _, _, rfl, _⟩ := h; rfl) | (obtain ⟨_, _, _, _, _, _, _, _, _, _, _, _, rfl, _⟩ := h; rfl) | (obtain ⟨_, _, _, _, _, _, _, _, _, _, _, _, _, rfl, _⟩ := h; rfl)
theorem len_law_words : ∀ ds O Q, cLWords ds O Q → ds.length = (["hands"] : List Str).length := by
  intro ds O Q h
  first | (obtain ⟨rfl, _⟩ := h; rfl) | (obtain ⟨_, rfl, _⟩ := h; rfl) | (obtain ⟨_, _, rfl, _⟩ := h; rfl) | (obtain ⟨_, _, _, rfl, _⟩ := h; rfl) | (obtain ⟨_, _, _, _, rfl, _⟩ := h; rfl) | (obtain ⟨_, _, _, _, _, rfl, _⟩ := h; rfl) | (obtain ⟨_, _, _, _, _, _, rfl, _⟩ := h; rfl) | (obtain ⟨_, _, _, _, _, _, _, rfl, _⟩ := h; rfl) | (obtain ⟨_, _, _, _, _, _, _, _, rfl, _⟩ := h; rfl) | (obtain ⟨_, _, _, _, _, _, _, _, _, rfl, _⟩ := h; rfl) | (obtain ⟨_, _, _, _, _, _, _, _, _, _, rfl, _⟩ := h; rfl) | (obtain ⟨_, _, _, _, _, _, _, _, _, _, _, rfl, _⟩ := h; rfl) | (obtain ⟨_, _, _, _, _, _, _, _, _, _, _, _, rfl, _⟩ := h; rfl) | (obtain ⟨_, _, _, _, _, _, _, _, _, _, _, _, _, rfl, _⟩ := h; rfl)
theorem len_law_numbers : ∀ ds O Q, cLNum ds O Q → ds.length = (["hand", "state", "word"] : List Str).length := by
  intro ds O Q h
  first | (obtain ⟨rfl, _⟩ := h; rfl) | (obtain ⟨_, rfl, _⟩ := h; rfl) | (obtain ⟨_, _, rfl, _⟩ := h; rfl) | (obtain ⟨_, _, _, rfl, _⟩ := h; rfl) | (obtain ⟨_, _, _, _, rfl, _⟩ := h; rfl) | (obtain ⟨_, _, _, _, _, rfl, _⟩ := h; rfl) | (obtain ⟨_, _, _, _, _, _, rfl, _⟩ := h; rfl) | (obtain ⟨_, _, _, _, _, _, _, rfl, _⟩ := h; rfl) | (obtain ⟨_, _, _, _, _, _, _, _, rfl, _⟩ := h; rfl) | (obtain ⟨_, _, _, _, _, _, _, _, _, rfl, _⟩ := h; rfl) | (obtain ⟨_, _, _, _, _, _, _, _, _, _, rfl, _⟩ := h; rfl) | (obtain ⟨_, _, _, _, _, _, _, _, _, _, _, rfl, _⟩ := h; rfl) | (obtain ⟨_, _, _, _, _, _, _, _, _, _, _, _, rfl, _⟩ := h; rfl) | (obtain ⟨_, _, _, _, _, _, _, _, _, _, _, _, _, rfl, _⟩ := h; rfl)
theorem len_law_behind : ∀ ds O Q, cLBehind ds O Q → ds.length = (["hands", "states", "move"] : List Str).length := by
  intro ds O Q h
  first | (obtain ⟨rfl, _⟩ := h; rfl) | (obtain ⟨_, rfl, _⟩ := h; rfl) | (obtain ⟨_, _, rfl, _⟩ := h; rfl) | (obtain ⟨_, _, _, rfl, _⟩ := h; rfl) | (obtain ⟨_, _, _, _, rfl, _⟩ := h; rfl) | (obtain ⟨_, _, _, _, _, rfl, _⟩ := h; rfl) | (obtain ⟨_, _, _, _, _, _, rfl, _⟩ := h; rfl) | (obtain ⟨_, _, _, _, _, _, _, rfl, _⟩ := h; rfl) | (obtain ⟨_, _, _, _, _, _, _, _, rfl, _⟩ := h; rfl) | (obtain ⟨_, _, _, _, _, _, _, _, _, rfl, _⟩ := h; rfl) | (obtain ⟨_, _, _, _, _, _, _, _, _, _, rfl, _⟩ := h; rfl) | (obtain ⟨_, _, _, _, _, _, _, _, _, _, _, rfl, _⟩ := h; rfl) | (obtain ⟨_, _, _, _, _, _, _, _, _, _, _, _, rfl, _⟩ := h; rfl) | (obtain ⟨_, _, _, _, _, _, _, _, _, _, _, _, _, rfl, _⟩ := h; rfl)
theorem len_law_ways : ∀ ds O Q, cLWays ds O Q → ds.length = (["hands", "ground", "states"] : List Str).length := by
  intro ds O Q h
  first | (obtain ⟨rfl, _⟩ := h; rfl) | (obtain ⟨_, rfl, _⟩ := h; rfl) | (obtain ⟨_, _, rfl, _⟩ := h; rfl) | (obtain ⟨_, _, _, rfl, _⟩ := h; rfl) | (obtain ⟨_, _, _, _, rfl, _⟩ := h; rfl) | (obtain ⟨_, _, _, _, _, rfl, _⟩ := h; rfl) | (obtain ⟨_, _, _, _, _, _, rfl, _⟩ := h; rfl) | (obtain ⟨_, _, _, _, _, _, _, rfl, _⟩ := h; rfl) | (obtain ⟨_, _, _, _, _, _, _, _, rfl, _⟩ := h; rfl) | (obtain ⟨_, _, _, _, _, _, _, _, _, rfl, _⟩ := h; rfl) | (obtain ⟨_, _, _, _, _, _, _, _, _, _, rfl, _⟩ := h; rfl) | (obtain ⟨_, _, _, _, _, _, _, _, _, _, _, rfl, _⟩ := h; rfl) | (obtain ⟨_, _, _, _, _, _, _, _, _, _, _, _, rfl, _⟩ := h; rfl) | (obtain ⟨_, _, _, _, _, _, _, _, _, _, _, _, _, rfl, _⟩ := h; rfl)
theorem len_law_rove : ∀ ds O Q, cRove ds O Q → ds.length = (["script", "first", "last", "hands", "ground"] : List Str).length := by
  intro ds O Q h
  first | (obtain ⟨rfl, _⟩ := h; rfl) | (obtain ⟨_, rfl, _⟩ := h; rfl) | (obtain ⟨_, _, rfl, _⟩ := h; rfl) | (obtain ⟨_, _, _, rfl, _⟩ := h; rfl) | (obtain ⟨_, _, _, _, rfl, _⟩ := h; rfl) | (obtain ⟨_, _, _, _, _, rfl, _⟩ := h; rfl) | (obtain ⟨_, _, _, _, _, _, rfl, _⟩ := h; rfl) | (obtain ⟨_, _, _, _, _, _, _, rfl, _⟩ := h; rfl) | (obtain ⟨_, _, _, _, _, _, _, _, rfl, _⟩ := h; rfl) | (obtain ⟨_, _, _, _, _, _, _, _, _, rfl, _⟩ := h; rfl) | (obtain ⟨_, _, _, _, _, _, _, _, _, _, rfl, _⟩ := h; rfl) | (obtain ⟨_, _, _, _, _, _, _, _, _, _, _, rfl, _⟩ := h; rfl) | (obtain ⟨_, _, _, _, _, _, _, _, _, _, _, _, rfl, _⟩ := h; rfl) | (obtain ⟨_, _, _, _, _, _, _, _, _, _, _, _, _, rfl, _⟩ := h; rfl)
theorem len_law_cut : ∀ ds O Q, cCut ds O Q → ds.length = (["state", "rows"] : List Str).length := by
  intro ds O Q h
  first | (obtain ⟨rfl, _⟩ := h; rfl) | (obtain ⟨_, rfl, _⟩ := h; rfl) | (obtain ⟨_, _, rfl, _⟩ := h; rfl) | (obtain ⟨_, _, _, rfl, _⟩ := h; rfl) | (obtain ⟨_, _, _, _, rfl, _⟩ := h; rfl) | (obtain ⟨_, _, _, _, _, rfl, _⟩ := h; rfl) | (obtain ⟨_, _, _, _, _, _, rfl, _⟩ := h; rfl) | (obtain ⟨_, _, _, _, _, _, _, rfl, _⟩ := h; rfl) | (obtain ⟨_, _, _, _, _, _, _, _, rfl, _⟩ := h; rfl) | (obtain ⟨_, _, _, _, _, _, _, _, _, rfl, _⟩ := h; rfl) | (obtain ⟨_, _, _, _, _, _, _, _, _, _, rfl, _⟩ := h; rfl) | (obtain ⟨_, _, _, _, _, _, _, _, _, _, _, rfl, _⟩ := h; rfl) | (obtain ⟨_, _, _, _, _, _, _, _, _, _, _, _, rfl, _⟩ := h; rfl) | (obtain ⟨_, _, _, _, _, _, _, _, _, _, _, _, _, rfl, _⟩ := h; rfl)
theorem len_law_keen : ∀ ds O Q, cKeen ds O Q → ds.length = (["state", "many"] : List Str).length := by
  intro ds O Q h
  first | (obtain ⟨rfl, _⟩ := h; rfl) | (obtain ⟨_, rfl, _⟩ := h; rfl) | (obtain ⟨_, _, rfl, _⟩ := h; rfl) | (obtain ⟨_, _, _, rfl, _⟩ := h; rfl) | (obtain ⟨_, _, _, _, rfl, _⟩ := h; rfl) | (obtain ⟨_, _, _, _, _, rfl, _⟩ := h; rfl) | (obtain ⟨_, _, _, _, _, _, rfl, _⟩ := h; rfl) | (obtain ⟨_, _, _, _, _, _, _, rfl, _⟩ := h; rfl) | (obtain ⟨_, _, _, _, _, _, _, _, rfl, _⟩ := h; rfl) | (obtain ⟨_, _, _, _, _, _, _, _, _, rfl, _⟩ := h; rfl) | (obtain ⟨_, _, _, _, _, _, _, _, _, _, rfl, _⟩ := h; rfl) | (obtain ⟨_, _, _, _, _, _, _, _, _, _, _, rfl, _⟩ := h; rfl) | (obtain ⟨_, _, _, _, _, _, _, _, _, _, _, _, rfl, _⟩ := h; rfl) | (obtain ⟨_, _, _, _, _, _, _, _, _, _, _, _, _, rfl, _⟩ := h; rfl)
theorem len_law_whole : ∀ ds O Q, cWhole ds O Q → ds.length = (["thing"] : List Str).length := by
  intro ds O Q h
  first | (obtain ⟨rfl, _⟩ := h; rfl) | (obtain ⟨_, rfl, _⟩ := h; rfl) | (obtain ⟨_, _, rfl, _⟩ := h; rfl) | (obtain ⟨_, _, _, rfl, _⟩ := h; rfl) | (obtain ⟨_, _, _, _, rfl, _⟩ := h; rfl) | (obtain ⟨_, _, _, _, _, rfl, _⟩ := h; rfl) | (obtain ⟨_, _, _, _, _, _, rfl, _⟩ := h; rfl) | (obtain ⟨_, _, _, _, _, _, _, rfl, _⟩ := h; rfl) | (obtain ⟨_, _, _, _, _, _, _, _, rfl, _⟩ := h; rfl) | (obtain ⟨_, _, _, _, _, _, _, _, _, rfl, _⟩ := h; rfl) | (obtain ⟨_, _, _, _, _, _, _, _, _, _, rfl, _⟩ := h; rfl) | (obtain ⟨_, _, _, _, _, _, _, _, _, _, _, rfl, _⟩ := h; rfl) | (obtain ⟨_, _, _, _, _, _, _, _, _, _, _, _, rfl, _⟩ := h; rfl) | (obtain ⟨_, _, _, _, _, _, _, _, _, _, _, _, _, rfl, _⟩ := h; rfl)
theorem len_law_is_move : ∀ ds O Q, cLIsMove ds O Q → ds.length = (["hands", "ground", "states", "thing"] : List Str).length := by
  intro ds O Q h
  first | (obtain ⟨rfl, _⟩ := h; rfl) | (obtain ⟨_, rfl, _⟩ := h; rfl) | (obtain ⟨_, _, rfl, _⟩ := h; rfl) | (obtain ⟨_, _, _, rfl, _⟩ := h; rfl) | (obtain ⟨_, _, _, _, rfl, _⟩ := h; rfl) | (obtain ⟨_, _, _, _, _, rfl, _⟩ := h; rfl) | (obtain ⟨_, _, _, _, _, _, rfl, _⟩ := h; rfl) | (obtain ⟨_, _, _, _, _, _, _, rfl, _⟩ := h; rfl) | (obtain ⟨_, _, _, _, _, _, _, _, rfl, _⟩ := h; rfl) | (obtain ⟨_, _, _, _, _, _, _, _, _, rfl, _⟩ := h; rfl) | (obtain ⟨_, _, _, _, _, _, _, _, _, _, rfl, _⟩ := h; rfl) | (obtain ⟨_, _, _, _, _, _, _, _, _, _, _, rfl, _⟩ := h; rfl) | (obtain ⟨_, _, _, _, _, _, _, _, _, _, _, _, rfl, _⟩ := h; rfl) | (obtain ⟨_, _, _, _, _, _, _, _, _, _, _, _, _, rfl, _⟩ := h; rfl)
theorem len_law_passed : ∀ ds O Q, cPassed ds O Q → ds.length = (["hands", "ground", "moves"] : List Str).length := by
  intro ds O Q h
  first | (obtain ⟨rfl, _⟩ := h; rfl) | (obtain ⟨_, rfl, _⟩ := h; rfl) | (obtain ⟨_, _, rfl, _⟩ := h; rfl) | (obtain ⟨_, _, _, rfl, _⟩ := h; rfl) | (obtain ⟨_, _, _, _, rfl, _⟩ := h; rfl) | (obtain ⟨_, _, _, _, _, rfl, _⟩ := h; rfl) | (obtain ⟨_, _, _, _, _, _, rfl, _⟩ := h; rfl) | (obtain ⟨_, _, _, _, _, _, _, rfl, _⟩ := h; rfl) | (obtain ⟨_, _, _, _, _, _, _, _, rfl, _⟩ := h; rfl) | (obtain ⟨_, _, _, _, _, _, _, _, _, rfl, _⟩ := h; rfl) | (obtain ⟨_, _, _, _, _, _, _, _, _, _, rfl, _⟩ := h; rfl) | (obtain ⟨_, _, _, _, _, _, _, _, _, _, _, rfl, _⟩ := h; rfl) | (obtain ⟨_, _, _, _, _, _, _, _, _, _, _, _, rfl, _⟩ := h; rfl) | (obtain ⟨_, _, _, _, _, _, _, _, _, _, _, _, _, rfl, _⟩ := h; rfl)
theorem len_law_able : ∀ ds O Q, cLAble ds O Q → ds.length = (["hands", "ground", "states", "hand"] : List Str).length := by
  intro ds O Q h
  first | (obtain ⟨rfl, _⟩ := h; rfl) | (obtain ⟨_, rfl, _⟩ := h; rfl) | (obtain ⟨_, _, rfl, _⟩ := h; rfl) | (obtain ⟨_, _, _, rfl, _⟩ := h; rfl) | (obtain ⟨_, _, _, _, rfl, _⟩ := h; rfl) | (obtain ⟨_, _, _, _, _, rfl, _⟩ := h; rfl) | (obtain ⟨_, _, _, _, _, _, rfl, _⟩ := h; rfl) | (obtain ⟨_, _, _, _, _, _, _, rfl, _⟩ := h; rfl) | (obtain ⟨_, _, _, _, _, _, _, _, rfl, _⟩ := h; rfl) | (obtain ⟨_, _, _, _, _, _, _, _, _, rfl, _⟩ := h; rfl) | (obtain ⟨_, _, _, _, _, _, _, _, _, _, rfl, _⟩ := h; rfl) | (obtain ⟨_, _, _, _, _, _, _, _, _, _, _, rfl, _⟩ := h; rfl) | (obtain ⟨_, _, _, _, _, _, _, _, _, _, _, _, rfl, _⟩ := h; rfl) | (obtain ⟨_, _, _, _, _, _, _, _, _, _, _, _, _, rfl, _⟩ := h; rfl)
theorem len_law_keenly_fair : ∀ ds O Q, cLKeenly ds O Q → ds.length = (["hands", "ground", "diligent", "keen", "stem", "loop"] : List Str).length := by
  intro ds O Q h
  first | (obtain ⟨rfl, _⟩ := h; rfl) | (obtain ⟨_, rfl, _⟩ := h; rfl) | (obtain ⟨_, _, rfl, _⟩ := h; rfl) | (obtain ⟨_, _, _, rfl, _⟩ := h; rfl) | (obtain ⟨_, _, _, _, rfl, _⟩ := h; rfl) | (obtain ⟨_, _, _, _, _, rfl, _⟩ := h; rfl) | (obtain ⟨_, _, _, _, _, _, rfl, _⟩ := h; rfl) | (obtain ⟨_, _, _, _, _, _, _, rfl, _⟩ := h; rfl) | (obtain ⟨_, _, _, _, _, _, _, _, rfl, _⟩ := h; rfl) | (obtain ⟨_, _, _, _, _, _, _, _, _, rfl, _⟩ := h; rfl) | (obtain ⟨_, _, _, _, _, _, _, _, _, _, rfl, _⟩ := h; rfl) | (obtain ⟨_, _, _, _, _, _, _, _, _, _, _, rfl, _⟩ := h; rfl) | (obtain ⟨_, _, _, _, _, _, _, _, _, _, _, _, rfl, _⟩ := h; rfl) | (obtain ⟨_, _, _, _, _, _, _, _, _, _, _, _, _, rfl, _⟩ := h; rfl)
theorem len_step_numbers {CH : Addr} : ∀ ds O Q, (cNums CH) ds O Q → ds.length = (["hand", "state", "word"] : List Str).length := by
  intro ds O Q h
  first | (obtain ⟨rfl, _⟩ := h; rfl) | (obtain ⟨_, rfl, _⟩ := h; rfl) | (obtain ⟨_, _, rfl, _⟩ := h; rfl) | (obtain ⟨_, _, _, rfl, _⟩ := h; rfl) | (obtain ⟨_, _, _, _, rfl, _⟩ := h; rfl) | (obtain ⟨_, _, _, _, _, rfl, _⟩ := h; rfl) | (obtain ⟨_, _, _, _, _, _, rfl, _⟩ := h; rfl) | (obtain ⟨_, _, _, _, _, _, _, rfl, _⟩ := h; rfl) | (obtain ⟨_, _, _, _, _, _, _, _, rfl, _⟩ := h; rfl) | (obtain ⟨_, _, _, _, _, _, _, _, _, rfl, _⟩ := h; rfl) | (obtain ⟨_, _, _, _, _, _, _, _, _, _, rfl, _⟩ := h; rfl) | (obtain ⟨_, _, _, _, _, _, _, _, _, _, _, rfl, _⟩ := h; rfl) | (obtain ⟨_, _, _, _, _, _, _, _, _, _, _, _, rfl, _⟩ := h; rfl) | (obtain ⟨_, _, _, _, _, _, _, _, _, _, _, _, _, rfl, _⟩ := h; rfl)
theorem len_is_move {CH CS : Addr} : ∀ ds O Q, (cIsMove CH CS) ds O Q → ds.length = (["system", "states", "move"] : List Str).length := by
  intro ds O Q h
  first | (obtain ⟨rfl, _⟩ := h; rfl) | (obtain ⟨_, rfl, _⟩ := h; rfl) | (obtain ⟨_, _, rfl, _⟩ := h; rfl) | (obtain ⟨_, _, _, rfl, _⟩ := h; rfl) | (obtain ⟨_, _, _, _, rfl, _⟩ := h; rfl) | (obtain ⟨_, _, _, _, _, rfl, _⟩ := h; rfl) | (obtain ⟨_, _, _, _, _, _, rfl, _⟩ := h; rfl) | (obtain ⟨_, _, _, _, _, _, _, rfl, _⟩ := h; rfl) | (obtain ⟨_, _, _, _, _, _, _, _, rfl, _⟩ := h; rfl) | (obtain ⟨_, _, _, _, _, _, _, _, _, rfl, _⟩ := h; rfl) | (obtain ⟨_, _, _, _, _, _, _, _, _, _, rfl, _⟩ := h; rfl) | (obtain ⟨_, _, _, _, _, _, _, _, _, _, _, rfl, _⟩ := h; rfl) | (obtain ⟨_, _, _, _, _, _, _, _, _, _, _, _, rfl, _⟩ := h; rfl) | (obtain ⟨_, _, _, _, _, _, _, _, _, _, _, _, _, rfl, _⟩ := h; rfl)
theorem len_led_to {CH CS : Addr} : ∀ ds O Q, (cLedTo CH CS) ds O Q → ds.length = (["system", "states", "move"] : List Str).length := by
  intro ds O Q h
  first | (obtain ⟨rfl, _⟩ := h; rfl) | (obtain ⟨_, rfl, _⟩ := h; rfl) | (obtain ⟨_, _, rfl, _⟩ := h; rfl) | (obtain ⟨_, _, _, rfl, _⟩ := h; rfl) | (obtain ⟨_, _, _, _, rfl, _⟩ := h; rfl) | (obtain ⟨_, _, _, _, _, rfl, _⟩ := h; rfl) | (obtain ⟨_, _, _, _, _, _, rfl, _⟩ := h; rfl) | (obtain ⟨_, _, _, _, _, _, _, rfl, _⟩ := h; rfl) | (obtain ⟨_, _, _, _, _, _, _, _, rfl, _⟩ := h; rfl) | (obtain ⟨_, _, _, _, _, _, _, _, _, rfl, _⟩ := h; rfl) | (obtain ⟨_, _, _, _, _, _, _, _, _, _, rfl, _⟩ := h; rfl) | (obtain ⟨_, _, _, _, _, _, _, _, _, _, _, rfl, _⟩ := h; rfl) | (obtain ⟨_, _, _, _, _, _, _, _, _, _, _, _, rfl, _⟩ := h; rfl) | (obtain ⟨_, _, _, _, _, _, _, _, _, _, _, _, _, rfl, _⟩ := h; rfl)
theorem len_walked {CH CS : Addr} : ∀ ds O Q, (cWalked CH CS) ds O Q → ds.length = (["system", "run"] : List Str).length := by
  intro ds O Q h
  first | (obtain ⟨rfl, _⟩ := h; rfl) | (obtain ⟨_, rfl, _⟩ := h; rfl) | (obtain ⟨_, _, rfl, _⟩ := h; rfl) | (obtain ⟨_, _, _, rfl, _⟩ := h; rfl) | (obtain ⟨_, _, _, _, rfl, _⟩ := h; rfl) | (obtain ⟨_, _, _, _, _, rfl, _⟩ := h; rfl) | (obtain ⟨_, _, _, _, _, _, rfl, _⟩ := h; rfl) | (obtain ⟨_, _, _, _, _, _, _, rfl, _⟩ := h; rfl) | (obtain ⟨_, _, _, _, _, _, _, _, rfl, _⟩ := h; rfl) | (obtain ⟨_, _, _, _, _, _, _, _, _, rfl, _⟩ := h; rfl) | (obtain ⟨_, _, _, _, _, _, _, _, _, _, rfl, _⟩ := h; rfl) | (obtain ⟨_, _, _, _, _, _, _, _, _, _, _, rfl, _⟩ := h; rfl) | (obtain ⟨_, _, _, _, _, _, _, _, _, _, _, _, rfl, _⟩ := h; rfl) | (obtain ⟨_, _, _, _, _, _, _, _, _, _, _, _, _, rfl, _⟩ := h; rfl)
theorem len_check_standing {CH CS : Addr} : ∀ ds O Q, (cChkStand CH CS) ds O Q → ds.length = (["system", "states"] : List Str).length := by
  intro ds O Q h
  first | (obtain ⟨rfl, _⟩ := h; rfl) | (obtain ⟨_, rfl, _⟩ := h; rfl) | (obtain ⟨_, _, rfl, _⟩ := h; rfl) | (obtain ⟨_, _, _, rfl, _⟩ := h; rfl) | (obtain ⟨_, _, _, _, rfl, _⟩ := h; rfl) | (obtain ⟨_, _, _, _, _, rfl, _⟩ := h; rfl) | (obtain ⟨_, _, _, _, _, _, rfl, _⟩ := h; rfl) | (obtain ⟨_, _, _, _, _, _, _, rfl, _⟩ := h; rfl) | (obtain ⟨_, _, _, _, _, _, _, _, rfl, _⟩ := h; rfl) | (obtain ⟨_, _, _, _, _, _, _, _, _, rfl, _⟩ := h; rfl) | (obtain ⟨_, _, _, _, _, _, _, _, _, _, rfl, _⟩ := h; rfl) | (obtain ⟨_, _, _, _, _, _, _, _, _, _, _, rfl, _⟩ := h; rfl) | (obtain ⟨_, _, _, _, _, _, _, _, _, _, _, _, rfl, _⟩ := h; rfl) | (obtain ⟨_, _, _, _, _, _, _, _, _, _, _, _, _, rfl, _⟩ := h; rfl)
theorem len_System_able {CH CS : Addr} : ∀ ds O Q, (cAble CH CS) ds O Q → ds.length = (["self", "states"] : List Str).length := by
  intro ds O Q h
  first | (obtain ⟨rfl, _⟩ := h; rfl) | (obtain ⟨_, rfl, _⟩ := h; rfl) | (obtain ⟨_, _, rfl, _⟩ := h; rfl) | (obtain ⟨_, _, _, rfl, _⟩ := h; rfl) | (obtain ⟨_, _, _, _, rfl, _⟩ := h; rfl) | (obtain ⟨_, _, _, _, _, rfl, _⟩ := h; rfl) | (obtain ⟨_, _, _, _, _, _, rfl, _⟩ := h; rfl) | (obtain ⟨_, _, _, _, _, _, _, rfl, _⟩ := h; rfl) | (obtain ⟨_, _, _, _, _, _, _, _, rfl, _⟩ := h; rfl) | (obtain ⟨_, _, _, _, _, _, _, _, _, rfl, _⟩ := h; rfl) | (obtain ⟨_, _, _, _, _, _, _, _, _, _, rfl, _⟩ := h; rfl) | (obtain ⟨_, _, _, _, _, _, _, _, _, _, _, rfl, _⟩ := h; rfl) | (obtain ⟨_, _, _, _, _, _, _, _, _, _, _, _, rfl, _⟩ := h; rfl) | (obtain ⟨_, _, _, _, _, _, _, _, _, _, _, _, _, rfl, _⟩ := h; rfl)
theorem len_always_able {CH CS : Addr} : ∀ ds O Q, (cAlways CH CS) ds O Q → ds.length = (["system", "places", "hand"] : List Str).length := by
  intro ds O Q h
  first | (obtain ⟨rfl, _⟩ := h; rfl) | (obtain ⟨_, rfl, _⟩ := h; rfl) | (obtain ⟨_, _, rfl, _⟩ := h; rfl) | (obtain ⟨_, _, _, rfl, _⟩ := h; rfl) | (obtain ⟨_, _, _, _, rfl, _⟩ := h; rfl) | (obtain ⟨_, _, _, _, _, rfl, _⟩ := h; rfl) | (obtain ⟨_, _, _, _, _, _, rfl, _⟩ := h; rfl) | (obtain ⟨_, _, _, _, _, _, _, rfl, _⟩ := h; rfl) | (obtain ⟨_, _, _, _, _, _, _, _, rfl, _⟩ := h; rfl) | (obtain ⟨_, _, _, _, _, _, _, _, _, rfl, _⟩ := h; rfl) | (obtain ⟨_, _, _, _, _, _, _, _, _, _, rfl, _⟩ := h; rfl) | (obtain ⟨_, _, _, _, _, _, _, _, _, _, _, rfl, _⟩ := h; rfl) | (obtain ⟨_, _, _, _, _, _, _, _, _, _, _, _, rfl, _⟩ := h; rfl) | (obtain ⟨_, _, _, _, _, _, _, _, _, _, _, _, _, rfl, _⟩ := h; rfl)
theorem len_takes_along : ∀ ds O Q, cTakes ds O Q → ds.length = (["moves", "hand"] : List Str).length := by
  intro ds O Q h
  first | (obtain ⟨rfl, _⟩ := h; rfl) | (obtain ⟨_, rfl, _⟩ := h; rfl) | (obtain ⟨_, _, rfl, _⟩ := h; rfl) | (obtain ⟨_, _, _, rfl, _⟩ := h; rfl) | (obtain ⟨_, _, _, _, rfl, _⟩ := h; rfl) | (obtain ⟨_, _, _, _, _, rfl, _⟩ := h; rfl) | (obtain ⟨_, _, _, _, _, _, rfl, _⟩ := h; rfl) | (obtain ⟨_, _, _, _, _, _, _, rfl, _⟩ := h; rfl) | (obtain ⟨_, _, _, _, _, _, _, _, rfl, _⟩ := h; rfl) | (obtain ⟨_, _, _, _, _, _, _, _, _, rfl, _⟩ := h; rfl) | (obtain ⟨_, _, _, _, _, _, _, _, _, _, rfl, _⟩ := h; rfl) | (obtain ⟨_, _, _, _, _, _, _, _, _, _, _, rfl, _⟩ := h; rfl) | (obtain ⟨_, _, _, _, _, _, _, _, _, _, _, _, rfl, _⟩ := h; rfl) | (obtain ⟨_, _, _, _, _, _, _, _, _, _, _, _, _, rfl, _⟩ := h; rfl)
theorem len_is_fair {CH CS : Addr} : ∀ ds O Q, (cFair CH CS) ds O Q → ds.length = (["system", "stem", "loop"] : List Str).length := by
  intro ds O Q h
  first | (obtain ⟨rfl, _⟩ := h; rfl) | (obtain ⟨_, rfl, _⟩ := h; rfl) | (obtain ⟨_, _, rfl, _⟩ := h; rfl) | (obtain ⟨_, _, _, rfl, _⟩ := h; rfl) | (obtain ⟨_, _, _, _, rfl, _⟩ := h; rfl) | (obtain ⟨_, _, _, _, _, rfl, _⟩ := h; rfl) | (obtain ⟨_, _, _, _, _, _, rfl, _⟩ := h; rfl) | (obtain ⟨_, _, _, _, _, _, _, rfl, _⟩ := h; rfl) | (obtain ⟨_, _, _, _, _, _, _, _, rfl, _⟩ := h; rfl) | (obtain ⟨_, _, _, _, _, _, _, _, _, rfl, _⟩ := h; rfl) | (obtain ⟨_, _, _, _, _, _, _, _, _, _, rfl, _⟩ := h; rfl) | (obtain ⟨_, _, _, _, _, _, _, _, _, _, _, rfl, _⟩ := h; rfl) | (obtain ⟨_, _, _, _, _, _, _, _, _, _, _, _, rfl, _⟩ := h; rfl) | (obtain ⟨_, _, _, _, _, _, _, _, _, _, _, _, _, rfl, _⟩ := h; rfl)
theorem len_able_somewhere {CH CS : Addr} : ∀ ds O Q, (cSomewhere CH CS) ds O Q → ds.length = (["system", "places", "hand"] : List Str).length := by
  intro ds O Q h
  first | (obtain ⟨rfl, _⟩ := h; rfl) | (obtain ⟨_, rfl, _⟩ := h; rfl) | (obtain ⟨_, _, rfl, _⟩ := h; rfl) | (obtain ⟨_, _, _, rfl, _⟩ := h; rfl) | (obtain ⟨_, _, _, _, rfl, _⟩ := h; rfl) | (obtain ⟨_, _, _, _, _, rfl, _⟩ := h; rfl) | (obtain ⟨_, _, _, _, _, _, rfl, _⟩ := h; rfl) | (obtain ⟨_, _, _, _, _, _, _, rfl, _⟩ := h; rfl) | (obtain ⟨_, _, _, _, _, _, _, _, rfl, _⟩ := h; rfl) | (obtain ⟨_, _, _, _, _, _, _, _, _, rfl, _⟩ := h; rfl) | (obtain ⟨_, _, _, _, _, _, _, _, _, _, rfl, _⟩ := h; rfl) | (obtain ⟨_, _, _, _, _, _, _, _, _, _, _, rfl, _⟩ := h; rfl) | (obtain ⟨_, _, _, _, _, _, _, _, _, _, _, _, rfl, _⟩ := h; rfl) | (obtain ⟨_, _, _, _, _, _, _, _, _, _, _, _, _, rfl, _⟩ := h; rfl)
theorem len_either : ∀ ds O Q, cEither ds O Q → ds.length = (["diligent", "keen"] : List Str).length := by
  intro ds O Q h
  first | (obtain ⟨rfl, _⟩ := h; rfl) | (obtain ⟨_, rfl, _⟩ := h; rfl) | (obtain ⟨_, _, rfl, _⟩ := h; rfl) | (obtain ⟨_, _, _, rfl, _⟩ := h; rfl) | (obtain ⟨_, _, _, _, rfl, _⟩ := h; rfl) | (obtain ⟨_, _, _, _, _, rfl, _⟩ := h; rfl) | (obtain ⟨_, _, _, _, _, _, rfl, _⟩ := h; rfl) | (obtain ⟨_, _, _, _, _, _, _, rfl, _⟩ := h; rfl) | (obtain ⟨_, _, _, _, _, _, _, _, rfl, _⟩ := h; rfl) | (obtain ⟨_, _, _, _, _, _, _, _, _, rfl, _⟩ := h; rfl) | (obtain ⟨_, _, _, _, _, _, _, _, _, _, rfl, _⟩ := h; rfl) | (obtain ⟨_, _, _, _, _, _, _, _, _, _, _, rfl, _⟩ := h; rfl) | (obtain ⟨_, _, _, _, _, _, _, _, _, _, _, _, rfl, _⟩ := h; rfl) | (obtain ⟨_, _, _, _, _, _, _, _, _, _, _, _, _, rfl, _⟩ := h; rfl)
theorem len_System_with_diligent {CH CS : Addr} : ∀ ds O Q, (cWithDil CH CS) ds O Q → ds.length = (["self", "row"] : List Str).length := by
  intro ds O Q h
  first | (obtain ⟨rfl, _⟩ := h; rfl) | (obtain ⟨_, rfl, _⟩ := h; rfl) | (obtain ⟨_, _, rfl, _⟩ := h; rfl) | (obtain ⟨_, _, _, rfl, _⟩ := h; rfl) | (obtain ⟨_, _, _, _, rfl, _⟩ := h; rfl) | (obtain ⟨_, _, _, _, _, rfl, _⟩ := h; rfl) | (obtain ⟨_, _, _, _, _, _, rfl, _⟩ := h; rfl) | (obtain ⟨_, _, _, _, _, _, _, rfl, _⟩ := h; rfl) | (obtain ⟨_, _, _, _, _, _, _, _, rfl, _⟩ := h; rfl) | (obtain ⟨_, _, _, _, _, _, _, _, _, rfl, _⟩ := h; rfl) | (obtain ⟨_, _, _, _, _, _, _, _, _, _, rfl, _⟩ := h; rfl) | (obtain ⟨_, _, _, _, _, _, _, _, _, _, _, rfl, _⟩ := h; rfl) | (obtain ⟨_, _, _, _, _, _, _, _, _, _, _, _, rfl, _⟩ := h; rfl) | (obtain ⟨_, _, _, _, _, _, _, _, _, _, _, _, _, rfl, _⟩ := h; rfl)
theorem len_is_keenly_fair {CH CS : Addr} : ∀ ds O Q, (cKeenFair CH CS) ds O Q → ds.length = (["system", "keen", "stem", "loop"] : List Str).length := by
  intro ds O Q h
  first | (obtain ⟨rfl, _⟩ := h; rfl) | (obtain ⟨_, rfl, _⟩ := h; rfl) | (obtain ⟨_, _, rfl, _⟩ := h; rfl) | (obtain ⟨_, _, _, rfl, _⟩ := h; rfl) | (obtain ⟨_, _, _, _, rfl, _⟩ := h; rfl) | (obtain ⟨_, _, _, _, _, rfl, _⟩ := h; rfl) | (obtain ⟨_, _, _, _, _, _, rfl, _⟩ := h; rfl) | (obtain ⟨_, _, _, _, _, _, _, rfl, _⟩ := h; rfl) | (obtain ⟨_, _, _, _, _, _, _, _, rfl, _⟩ := h; rfl) | (obtain ⟨_, _, _, _, _, _, _, _, _, rfl, _⟩ := h; rfl) | (obtain ⟨_, _, _, _, _, _, _, _, _, _, rfl, _⟩ := h; rfl) | (obtain ⟨_, _, _, _, _, _, _, _, _, _, _, rfl, _⟩ := h; rfl) | (obtain ⟨_, _, _, _, _, _, _, _, _, _, _, _, rfl, _⟩ := h; rfl) | (obtain ⟨_, _, _, _, _, _, _, _, _, _, _, _, _, rfl, _⟩ := h; rfl)
theorem len_law_told {CH CS : Addr} : ∀ ds O Q, (cTold CH CS) ds O Q → ds.length = (["system", "keen", "stem", "loop", "due"] : List Str).length := by
  intro ds O Q h
  first | (obtain ⟨rfl, _⟩ := h; rfl) | (obtain ⟨_, rfl, _⟩ := h; rfl) | (obtain ⟨_, _, rfl, _⟩ := h; rfl) | (obtain ⟨_, _, _, rfl, _⟩ := h; rfl) | (obtain ⟨_, _, _, _, rfl, _⟩ := h; rfl) | (obtain ⟨_, _, _, _, _, rfl, _⟩ := h; rfl) | (obtain ⟨_, _, _, _, _, _, rfl, _⟩ := h; rfl) | (obtain ⟨_, _, _, _, _, _, _, rfl, _⟩ := h; rfl) | (obtain ⟨_, _, _, _, _, _, _, _, rfl, _⟩ := h; rfl) | (obtain ⟨_, _, _, _, _, _, _, _, _, rfl, _⟩ := h; rfl) | (obtain ⟨_, _, _, _, _, _, _, _, _, _, rfl, _⟩ := h; rfl) | (obtain ⟨_, _, _, _, _, _, _, _, _, _, _, rfl, _⟩ := h; rfl) | (obtain ⟨_, _, _, _, _, _, _, _, _, _, _, _, rfl, _⟩ := h; rfl) | (obtain ⟨_, _, _, _, _, _, _, _, _, _, _, _, _, rfl, _⟩ := h; rfl)
theorem len_law_written_otherwise {CH CS : Addr} : ∀ ds O Q, (cWritten CH CS) ds O Q → ds.length = (["state", "system", "keen", "stem", "loop", "due"] : List Str).length := by
  intro ds O Q h
  first | (obtain ⟨rfl, _⟩ := h; rfl) | (obtain ⟨_, rfl, _⟩ := h; rfl) | (obtain ⟨_, _, rfl, _⟩ := h; rfl) | (obtain ⟨_, _, _, rfl, _⟩ := h; rfl) | (obtain ⟨_, _, _, _, rfl, _⟩ := h; rfl) | (obtain ⟨_, _, _, _, _, rfl, _⟩ := h; rfl) | (obtain ⟨_, _, _, _, _, _, rfl, _⟩ := h; rfl) | (obtain ⟨_, _, _, _, _, _, _, rfl, _⟩ := h; rfl) | (obtain ⟨_, _, _, _, _, _, _, _, rfl, _⟩ := h; rfl) | (obtain ⟨_, _, _, _, _, _, _, _, _, rfl, _⟩ := h; rfl) | (obtain ⟨_, _, _, _, _, _, _, _, _, _, rfl, _⟩ := h; rfl) | (obtain ⟨_, _, _, _, _, _, _, _, _, _, _, rfl, _⟩ := h; rfl) | (obtain ⟨_, _, _, _, _, _, _, _, _, _, _, _, rfl, _⟩ := h; rfl) | (obtain ⟨_, _, _, _, _, _, _, _, _, _, _, _, _, rfl, _⟩ := h; rfl)
theorem len_System_started_at {CH CS : Addr} : ∀ ds O Q, (cStartedAt CH CS) ds O Q → ds.length = (["self", "states"] : List Str).length := by
  intro ds O Q h
  first | (obtain ⟨rfl, _⟩ := h; rfl) | (obtain ⟨_, rfl, _⟩ := h; rfl) | (obtain ⟨_, _, rfl, _⟩ := h; rfl) | (obtain ⟨_, _, _, rfl, _⟩ := h; rfl) | (obtain ⟨_, _, _, _, rfl, _⟩ := h; rfl) | (obtain ⟨_, _, _, _, _, rfl, _⟩ := h; rfl) | (obtain ⟨_, _, _, _, _, _, rfl, _⟩ := h; rfl) | (obtain ⟨_, _, _, _, _, _, _, rfl, _⟩ := h; rfl) | (obtain ⟨_, _, _, _, _, _, _, _, rfl, _⟩ := h; rfl) | (obtain ⟨_, _, _, _, _, _, _, _, _, rfl, _⟩ := h; rfl) | (obtain ⟨_, _, _, _, _, _, _, _, _, _, rfl, _⟩ := h; rfl) | (obtain ⟨_, _, _, _, _, _, _, _, _, _, _, rfl, _⟩ := h; rfl) | (obtain ⟨_, _, _, _, _, _, _, _, _, _, _, _, rfl, _⟩ := h; rfl) | (obtain ⟨_, _, _, _, _, _, _, _, _, _, _, _, _, rfl, _⟩ := h; rfl)
theorem len_law_other_systems {CH CS : Addr} : ∀ ds O Q, (cOther CH CS) ds O Q → ds.length = (["system", "keen", "stem", "loop", "behind", "due"] : List Str).length := by
  intro ds O Q h
  first | (obtain ⟨rfl, _⟩ := h; rfl) | (obtain ⟨_, rfl, _⟩ := h; rfl) | (obtain ⟨_, _, rfl, _⟩ := h; rfl) | (obtain ⟨_, _, _, rfl, _⟩ := h; rfl) | (obtain ⟨_, _, _, _, rfl, _⟩ := h; rfl) | (obtain ⟨_, _, _, _, _, rfl, _⟩ := h; rfl) | (obtain ⟨_, _, _, _, _, _, rfl, _⟩ := h; rfl) | (obtain ⟨_, _, _, _, _, _, _, rfl, _⟩ := h; rfl) | (obtain ⟨_, _, _, _, _, _, _, _, rfl, _⟩ := h; rfl) | (obtain ⟨_, _, _, _, _, _, _, _, _, rfl, _⟩ := h; rfl) | (obtain ⟨_, _, _, _, _, _, _, _, _, _, rfl, _⟩ := h; rfl) | (obtain ⟨_, _, _, _, _, _, _, _, _, _, _, rfl, _⟩ := h; rfl) | (obtain ⟨_, _, _, _, _, _, _, _, _, _, _, _, rfl, _⟩ := h; rfl) | (obtain ⟨_, _, _, _, _, _, _, _, _, _, _, _, _, rfl, _⟩ := h; rfl)
theorem len_law_hand_by_hand {CH CS : Addr} : ∀ ds O Q, (cWritten CH CS) ds O Q → ds.length = (["state", "system", "keen", "stem", "loop", "due"] : List Str).length := by
  intro ds O Q h
  first | (obtain ⟨rfl, _⟩ := h; rfl) | (obtain ⟨_, rfl, _⟩ := h; rfl) | (obtain ⟨_, _, rfl, _⟩ := h; rfl) | (obtain ⟨_, _, _, rfl, _⟩ := h; rfl) | (obtain ⟨_, _, _, _, rfl, _⟩ := h; rfl) | (obtain ⟨_, _, _, _, _, rfl, _⟩ := h; rfl) | (obtain ⟨_, _, _, _, _, _, rfl, _⟩ := h; rfl) | (obtain ⟨_, _, _, _, _, _, _, rfl, _⟩ := h; rfl) | (obtain ⟨_, _, _, _, _, _, _, _, rfl, _⟩ := h; rfl) | (obtain ⟨_, _, _, _, _, _, _, _, _, rfl, _⟩ := h; rfl) | (obtain ⟨_, _, _, _, _, _, _, _, _, _, rfl, _⟩ := h; rfl) | (obtain ⟨_, _, _, _, _, _, _, _, _, _, _, rfl, _⟩ := h; rfl) | (obtain ⟨_, _, _, _, _, _, _, _, _, _, _, _, rfl, _⟩ := h; rfl) | (obtain ⟨_, _, _, _, _, _, _, _, _, _, _, _, _, rfl, _⟩ := h; rfl)
theorem len_Hand_eq {CH : Addr} : ∀ ds O Q, (cHandEq CH) ds O Q → ds.length = (["self", "other"] : List Str).length := by
  intro ds O Q h
  first | (obtain ⟨rfl, _⟩ := h; rfl) | (obtain ⟨_, rfl, _⟩ := h; rfl) | (obtain ⟨_, _, rfl, _⟩ := h; rfl) | (obtain ⟨_, _, _, rfl, _⟩ := h; rfl) | (obtain ⟨_, _, _, _, rfl, _⟩ := h; rfl) | (obtain ⟨_, _, _, _, _, rfl, _⟩ := h; rfl) | (obtain ⟨_, _, _, _, _, _, rfl, _⟩ := h; rfl) | (obtain ⟨_, _, _, _, _, _, _, rfl, _⟩ := h; rfl) | (obtain ⟨_, _, _, _, _, _, _, _, rfl, _⟩ := h; rfl) | (obtain ⟨_, _, _, _, _, _, _, _, _, rfl, _⟩ := h; rfl) | (obtain ⟨_, _, _, _, _, _, _, _, _, _, rfl, _⟩ := h; rfl) | (obtain ⟨_, _, _, _, _, _, _, _, _, _, _, rfl, _⟩ := h; rfl) | (obtain ⟨_, _, _, _, _, _, _, _, _, _, _, _, rfl, _⟩ := h; rfl) | (obtain ⟨_, _, _, _, _, _, _, _, _, _, _, _, _, rfl, _⟩ := h; rfl)
theorem len_System_eq {CH CS : Addr} : ∀ ds O Q, (cSysEq CH CS) ds O Q → ds.length = (["self", "other"] : List Str).length := by
  intro ds O Q h
  first | (obtain ⟨rfl, _⟩ := h; rfl) | (obtain ⟨_, rfl, _⟩ := h; rfl) | (obtain ⟨_, _, rfl, _⟩ := h; rfl) | (obtain ⟨_, _, _, rfl, _⟩ := h; rfl) | (obtain ⟨_, _, _, _, rfl, _⟩ := h; rfl) | (obtain ⟨_, _, _, _, _, rfl, _⟩ := h; rfl) | (obtain ⟨_, _, _, _, _, _, rfl, _⟩ := h; rfl) | (obtain ⟨_, _, _, _, _, _, _, rfl, _⟩ := h; rfl) | (obtain ⟨_, _, _, _, _, _, _, _, rfl, _⟩ := h; rfl) | (obtain ⟨_, _, _, _, _, _, _, _, _, rfl, _⟩ := h; rfl) | (obtain ⟨_, _, _, _, _, _, _, _, _, _, rfl, _⟩ := h; rfl) | (obtain ⟨_, _, _, _, _, _, _, _, _, _, _, rfl, _⟩ := h; rfl) | (obtain ⟨_, _, _, _, _, _, _, _, _, _, _, _, rfl, _⟩ := h; rfl) | (obtain ⟨_, _, _, _, _, _, _, _, _, _, _, _, _, rfl, _⟩ := h; rfl)
theorem len_law : ∀ ds O Q, cLaw ds O Q → ds.length = (["script"] : List Str).length := by
  intro ds O Q h
  first | (obtain ⟨rfl, _⟩ := h; rfl) | (obtain ⟨_, rfl, _⟩ := h; rfl) | (obtain ⟨_, _, rfl, _⟩ := h; rfl) | (obtain ⟨_, _, _, rfl, _⟩ := h; rfl) | (obtain ⟨_, _, _, _, rfl, _⟩ := h; rfl) | (obtain ⟨_, _, _, _, _, rfl, _⟩ := h; rfl) | (obtain ⟨_, _, _, _, _, _, rfl, _⟩ := h; rfl) | (obtain ⟨_, _, _, _, _, _, _, rfl, _⟩ := h; rfl) | (obtain ⟨_, _, _, _, _, _, _, _, rfl, _⟩ := h; rfl) | (obtain ⟨_, _, _, _, _, _, _, _, _, rfl, _⟩ := h; rfl) | (obtain ⟨_, _, _, _, _, _, _, _, _, _, rfl, _⟩ := h; rfl) | (obtain ⟨_, _, _, _, _, _, _, _, _, _, _, rfl, _⟩ := h; rfl) | (obtain ⟨_, _, _, _, _, _, _, _, _, _, _, _, rfl, _⟩ := h; rfl) | (obtain ⟨_, _, _, _, _, _, _, _, _, _, _, _, _, rfl, _⟩ := h; rfl)
theorem nil_of {xs : List Value} (h : Vals [] xs) : xs = [] := by cases h; rfl
def spL (K : PySem.W.Frag) : Sp := spC K cLaw
theorem all_mk {P : Program} {w : World} {K : PySem.W.Frag} {h : Heap} {mg : Str → Option Value} {fa CH CS TD f_law_open f_law_draw f_law_name f_law_names f_law_states f_law_hand f_law_plan f_is_integer f_is_state f_is_row f_is_name f_is_step f_leaving f_checked_steps f_reached_states f_Hand_init f_checked_hands f_checked_diligent f_System_init f_law_system f_law_words f_law_numbers f_law_behind f_law_ways f_law_rove f_law_cut f_law_keen f_law_whole f_law_is_move f_law_passed f_law_able f_law_keenly_fair f_step_numbers f_is_move f_led_to f_walked f_check_standing f_System_able f_always_able f_takes_along f_is_fair f_able_somewhere f_either f_System_with_diligent f_is_keenly_fair f_law_told f_law_written_otherwise f_System_started_at f_law_other_systems f_law_hand_by_hand f_Hand_eq f_System_eq f_law : Addr} (X : K.In h) (G : h.Ns mainGlobals mg) (hfa : mg "law" = some (.ref fa))
    {od_law_open an_law_open od_law_draw an_law_draw od_law_name an_law_name od_law_names an_law_names od_law_states an_law_states od_law_hand an_law_hand od_law_plan an_law_plan od_is_integer an_is_integer od_is_state an_is_state od_is_row an_is_row od_is_name an_is_name od_is_step an_is_step od_leaving an_leaving od_checked_steps an_checked_steps od_reached_states an_reached_states od_Hand_init an_Hand_init od_checked_hands an_checked_hands od_checked_diligent an_checked_diligent od_System_init an_System_init od_law_system an_law_system od_law_words an_law_words od_law_numbers an_law_numbers od_law_behind an_law_behind od_law_ways an_law_ways od_law_rove an_law_rove od_law_cut an_law_cut od_law_keen an_law_keen od_law_whole an_law_whole od_law_is_move an_law_is_move od_law_passed an_law_passed od_law_able an_law_able od_law_keenly_fair an_law_keenly_fair od_step_numbers an_step_numbers od_is_move an_is_move od_led_to an_led_to od_walked an_walked od_check_standing an_check_standing od_System_able an_System_able od_always_able an_always_able od_takes_along an_takes_along od_is_fair an_is_fair od_able_somewhere an_able_somewhere od_either an_either od_System_with_diligent an_System_with_diligent od_is_keenly_fair an_is_keenly_fair od_law_told an_law_told od_law_written_otherwise an_law_written_otherwise od_System_started_at an_System_started_at od_law_other_systems an_law_other_systems od_law_hand_by_hand an_law_hand_by_hand od_Hand_eq an_Hand_eq od_System_eq an_System_eq od_law an_law oTd : Option Addr} {sl_law_open sl_law_draw sl_law_name sl_law_names sl_law_states sl_law_hand sl_law_plan sl_is_integer sl_is_state sl_is_row sl_is_name sl_is_step sl_leaving sl_checked_steps sl_reached_states sl_Hand_init sl_checked_hands sl_checked_diligent sl_System_init sl_law_system sl_law_words sl_law_numbers sl_law_behind sl_law_ways sl_law_rove sl_law_cut sl_law_keen sl_law_whole sl_law_is_move sl_law_passed sl_law_able sl_law_keenly_fair sl_step_numbers sl_is_move sl_led_to sl_walked sl_check_standing sl_System_able sl_always_able sl_takes_along sl_is_fair sl_able_somewhere sl_either sl_System_with_diligent sl_is_keenly_fair sl_law_told sl_law_written_otherwise sl_System_started_at sl_law_other_systems sl_law_hand_by_hand sl_Hand_eq sl_System_eq sl_law oTs : Array (Option Value)} {v_LETTERS v_MOST_STEPS v_MOST_LEAVING v_MOST_WORDS_hands v_MOST_STATES v_MOST_HANDS v_MOST_WORDS_systems oc_law_open kV_law_open dc_law_open pm_law_open cd_law_open ct_law_open oc_law_draw kV_law_draw dc_law_draw pm_law_draw cd_law_draw ct_law_draw oc_law_name kV_law_name dc_law_name pm_law_name cd_law_name ct_law_name oc_law_names kV_law_names dc_law_names pm_law_names cd_law_names ct_law_names oc_law_states kV_law_states dc_law_states pm_law_states cd_law_states ct_law_states oc_law_hand kV_law_hand dc_law_hand pm_law_hand cd_law_hand ct_law_hand oc_law_plan kV_law_plan dc_law_plan pm_law_plan cd_law_plan ct_law_plan oc_is_integer kV_is_integer dc_is_integer pm_is_integer cd_is_integer ct_is_integer oc_is_state kV_is_state dc_is_state pm_is_state cd_is_state ct_is_state oc_is_row kV_is_row dc_is_row pm_is_row cd_is_row ct_is_row oc_is_name kV_is_name dc_is_name pm_is_name cd_is_name ct_is_name oc_is_step kV_is_step dc_is_step pm_is_step cd_is_step ct_is_step oc_leaving kV_leaving dc_leaving pm_leaving cd_leaving ct_leaving oc_checked_steps kV_checked_steps dc_checked_steps pm_checked_steps cd_checked_steps ct_checked_steps oc_reached_states kV_reached_states dc_reached_states pm_reached_states cd_reached_states ct_reached_states oc_Hand_init kV_Hand_init dc_Hand_init pm_Hand_init cd_Hand_init ct_Hand_init oc_checked_hands kV_checked_hands dc_checked_hands pm_checked_hands cd_checked_hands ct_checked_hands oc_checked_diligent kV_checked_diligent dc_checked_diligent pm_checked_diligent cd_checked_diligent ct_checked_diligent oc_System_init kV_System_init dc_System_init pm_System_init cd_System_init ct_System_init oc_law_system kV_law_system dc_law_system pm_law_system cd_law_system ct_law_system oc_law_words kV_law_words dc_law_words pm_law_words cd_law_words ct_law_words oc_law_numbers kV_law_numbers dc_law_numbers pm_law_numbers cd_law_numbers ct_law_numbers oc_law_behind kV_law_behind dc_law_behind pm_law_behind cd_law_behind ct_law_behind oc_law_ways kV_law_ways dc_law_ways pm_law_ways cd_law_ways ct_law_ways oc_law_rove kV_law_rove dc_law_rove pm_law_rove cd_law_rove ct_law_rove oc_law_cut kV_law_cut dc_law_cut pm_law_cut cd_law_cut ct_law_cut oc_law_keen kV_law_keen dc_law_keen pm_law_keen cd_law_keen ct_law_keen oc_law_whole kV_law_whole dc_law_whole pm_law_whole cd_law_whole ct_law_whole oc_law_is_move kV_law_is_move dc_law_is_move pm_law_is_move cd_law_is_move ct_law_is_move oc_law_passed kV_law_passed dc_law_passed pm_law_passed cd_law_passed ct_law_passed oc_law_able kV_law_able dc_law_able pm_law_able cd_law_able ct_law_able oc_law_keenly_fair kV_law_keenly_fair dc_law_keenly_fair pm_law_keenly_fair cd_law_keenly_fair ct_law_keenly_fair oc_step_numbers kV_step_numbers dc_step_numbers pm_step_numbers cd_step_numbers ct_step_numbers oc_is_move kV_is_move dc_is_move pm_is_move cd_is_move ct_is_move oc_led_to kV_led_to dc_led_to pm_led_to cd_led_to ct_led_to oc_walked kV_walked dc_walked pm_walked cd_walked ct_walked oc_check_standing kV_check_standing dc_check_standing pm_check_standing cd_check_standing ct_check_standing oc_System_able kV_System_able dc_System_able pm_System_able cd_System_able ct_System_able oc_always_able kV_always_able dc_always_able pm_always_able cd_always_able ct_always_able oc_takes_along kV_takes_along dc_takes_along pm_takes_along cd_takes_along ct_takes_along oc_is_fair kV_is_fair dc_is_fair pm_is_fair cd_is_fair ct_is_fair oc_able_somewhere kV_able_somewhere dc_able_somewhere pm_able_somewhere cd_able_somewhere ct_able_somewhere oc_either kV_either dc_either pm_either cd_either ct_either oc_System_with_diligent kV_System_with_diligent dc_System_with_diligent pm_System_with_diligent cd_System_with_diligent ct_System_with_diligent oc_is_keenly_fair kV_is_keenly_fair dc_is_keenly_fair pm_is_keenly_fair cd_is_keenly_fair ct_is_keenly_fair oc_law_told kV_law_told dc_law_told pm_law_told cd_law_told ct_law_told oc_law_written_otherwise kV_law_written_otherwise dc_law_written_otherwise pm_law_written_otherwise cd_law_written_otherwise ct_law_written_otherwise oc_System_started_at kV_System_started_at dc_System_started_at pm_System_started_at cd_System_started_at ct_System_started_at oc_law_other_systems kV_law_other_systems dc_law_other_systems pm_law_other_systems cd_law_other_systems ct_law_other_systems oc_law_hand_by_hand kV_law_hand_by_hand dc_law_hand_by_hand pm_law_hand_by_hand cd_law_hand_by_hand ct_law_hand_by_hand oc_Hand_eq kV_Hand_eq dc_Hand_eq pm_Hand_eq cd_Hand_eq ct_Hand_eq oc_System_eq kV_System_eq dc_System_eq pm_System_eq cd_System_eq ct_System_eq oc_law kV_law dc_law pm_law cd_law ct_law oTc : Value} {itT : Array Value} {nT : Nat}
    (a_LETTERS : PySem.W.nsIn K mainGlobals "LETTERS" = some (some v_LETTERS))
    (r_LETTERS : RelV (.str az : V) v_LETTERS)
    (a_MOST_STEPS : PySem.W.nsIn K mainGlobals "MOST_STEPS" = some (some v_MOST_STEPS))
    (r_MOST_STEPS : RelV (.int 24 : V) v_MOST_STEPS)
    (a_MOST_LEAVING : PySem.W.nsIn K mainGlobals "MOST_LEAVING" = some (some v_MOST_LEAVING))
    (r_MOST_LEAVING : RelV (.int 4 : V) v_MOST_LEAVING)
    (a_MOST_WORDS_hands : PySem.W.nsIn K mainGlobals "MOST_WORDS_hands" = some (some v_MOST_WORDS_hands))
    (r_MOST_WORDS_hands : RelV (.int 8 : V) v_MOST_WORDS_hands)
    (a_MOST_STATES : PySem.W.nsIn K mainGlobals "MOST_STATES" = some (some v_MOST_STATES))
    (r_MOST_STATES : RelV (.int 8 : V) v_MOST_STATES)
    (a_MOST_HANDS : PySem.W.nsIn K mainGlobals "MOST_HANDS" = some (some v_MOST_HANDS))
    (r_MOST_HANDS : RelV (.int 4 : V) v_MOST_HANDS)
    (a_MOST_WORDS_systems : PySem.W.nsIn K mainGlobals "MOST_WORDS_systems" = some (some v_MOST_WORDS_systems))
    (r_MOST_WORDS_systems : RelV (.int 12 : V) v_MOST_WORDS_systems)
    (z_isinstance : PySem.W.nsIn K mainGlobals "isinstance" = some none)
    (z_int : PySem.W.nsIn K mainGlobals "int" = some none)
    (z_bool : PySem.W.nsIn K mainGlobals "bool" = some none)
    (z_str : PySem.W.nsIn K mainGlobals "str" = some none)
    (z_list : PySem.W.nsIn K mainGlobals "list" = some none)
    (z_tuple : PySem.W.nsIn K mainGlobals "tuple" = some none)
    (z_len : PySem.W.nsIn K mainGlobals "len" = some none)
    (z_enumerate : PySem.W.nsIn K mainGlobals "enumerate" = some none)
    (z_sorted : PySem.W.nsIn K mainGlobals "sorted" = some none)
    (z_set : PySem.W.nsIn K mainGlobals "set" = some none)
    (z_range : PySem.W.nsIn K mainGlobals "range" = some none)
    (z_sum : PySem.W.nsIn K mainGlobals "sum" = some none)
    (z_min : PySem.W.nsIn K mainGlobals "min" = some none)
    (z_max : PySem.W.nsIn K mainGlobals "max" = some none)
    (z_zip : PySem.W.nsIn K mainGlobals "zip" = some none)
    (z_all : PySem.W.nsIn K mainGlobals "all" = some none)
    (z_any : PySem.W.nsIn K mainGlobals "any" = some none)
    (a_Hand : PySem.W.nsIn K mainGlobals "Hand" = some (some (.ref CH)))
    (pg_CH : PySem.W.plainGet K CH Str.empty = true)
    (hd_CH : PySem.W.hasDictIn K CH = true)
    (po_CH : PySem.W.plainOver K CH = true)
    (sa_CH : PySem.W.findIn K (.ref CH) "__setattr__" = some (some (.builtin "object.__setattr__")))
    (mk_CH : PySem.W.makesIn K CH = true)
    (kc_CH : PySem.W.keepIn K (.ref CH) = true)
    (ha_CH : PySem.W.findIn K (.ref CH) "__class__" = some (some (.builtin "object.__class__")))
    (hm_CH : PySem.W.mroIn K CH (.type "object") = some true)
    (n_CH_start : PySem.W.findIn K (.ref CH) "start" = some none)
    (n_CH_steps : PySem.W.findIn K (.ref CH) "steps" = some none)
    (n_CH_words : PySem.W.findIn K (.ref CH) "words" = some none)
    (n_CH_states : PySem.W.findIn K (.ref CH) "states" = some none)
    (a_System : PySem.W.nsIn K mainGlobals "System" = some (some (.ref CS)))
    (pg_CS : PySem.W.plainGet K CS Str.empty = true)
    (hd_CS : PySem.W.hasDictIn K CS = true)
    (po_CS : PySem.W.plainOver K CS = true)
    (sa_CS : PySem.W.findIn K (.ref CS) "__setattr__" = some (some (.builtin "object.__setattr__")))
    (mk_CS : PySem.W.makesIn K CS = true)
    (kc_CS : PySem.W.keepIn K (.ref CS) = true)
    (ha_CS : PySem.W.findIn K (.ref CS) "__class__" = some (some (.builtin "object.__class__")))
    (hm_CS : PySem.W.mroIn K CS (.type "object") = some true)
    (n_CS_hands : PySem.W.findIn K (.ref CS) "hands" = some none)
    (n_CS_diligent : PySem.W.findIn K (.ref CS) "diligent" = some none)
    (n_CS_words : PySem.W.findIn K (.ref CS) "words" = some none)
    (n_CS_start : PySem.W.findIn K (.ref CS) "start" = some none)
    (hn : PySem.W.specialIn K (.builtin "object.__class__") "__get__" = some (some (.builtin "getset_descriptor.__get__")))
    (htk : PySem.W.takesIn K (.builtin "object.__class__") = some true)
    (a_law_open : PySem.W.nsIn K mainGlobals "_law_open" = some (some (.ref f_law_open)))
    (l_law_open : K.lookup f_law_open = some ⟨oc_law_open, od_law_open, .func (PySem.W.fnOf "_law_open" "_law_open" (C8.fnArgs s_law_open) (C8.fnBody s_law_open) (C8.fnScope s_law_open) .none kV_law_open dc_law_open pm_law_open an_law_open cd_law_open ct_law_open), sl_law_open⟩)
    (c_law_open : PySem.W.codeIn K cd_law_open "_law_open" = true)
    (k_law_open : PySem.W.keepIn K (.ref f_law_open) = true)
    (a_law_draw : PySem.W.nsIn K mainGlobals "_law_draw" = some (some (.ref f_law_draw)))
    (l_law_draw : K.lookup f_law_draw = some ⟨oc_law_draw, od_law_draw, .func (PySem.W.fnOf "_law_draw" "_law_draw" (C8.fnArgs s_law_draw) (C8.fnBody s_law_draw) (C8.fnScope s_law_draw) .none kV_law_draw dc_law_draw pm_law_draw an_law_draw cd_law_draw ct_law_draw), sl_law_draw⟩)
    (c_law_draw : PySem.W.codeIn K cd_law_draw "_law_draw" = true)
    (k_law_draw : PySem.W.keepIn K (.ref f_law_draw) = true)
    (a_law_name : PySem.W.nsIn K mainGlobals "_law_name" = some (some (.ref f_law_name)))
    (l_law_name : K.lookup f_law_name = some ⟨oc_law_name, od_law_name, .func (PySem.W.fnOf "_law_name" "_law_name" (C8.fnArgs s_law_name) (C8.fnBody s_law_name) (C8.fnScope s_law_name) .none kV_law_name dc_law_name pm_law_name an_law_name cd_law_name ct_law_name), sl_law_name⟩)
    (c_law_name : PySem.W.codeIn K cd_law_name "_law_name" = true)
    (k_law_name : PySem.W.keepIn K (.ref f_law_name) = true)
    (a_law_names : PySem.W.nsIn K mainGlobals "_law_names" = some (some (.ref f_law_names)))
    (l_law_names : K.lookup f_law_names = some ⟨oc_law_names, od_law_names, .func (PySem.W.fnOf "_law_names" "_law_names" (C8.fnArgs s_law_names) (C8.fnBody s_law_names) (C8.fnScope s_law_names) .none kV_law_names dc_law_names pm_law_names an_law_names cd_law_names ct_law_names), sl_law_names⟩)
    (c_law_names : PySem.W.codeIn K cd_law_names "_law_names" = true)
    (k_law_names : PySem.W.keepIn K (.ref f_law_names) = true)
    (a_law_states : PySem.W.nsIn K mainGlobals "_law_states" = some (some (.ref f_law_states)))
    (l_law_states : K.lookup f_law_states = some ⟨oc_law_states, od_law_states, .func (PySem.W.fnOf "_law_states" "_law_states" (C8.fnArgs s_law_states) (C8.fnBody s_law_states) (C8.fnScope s_law_states) .none kV_law_states dc_law_states pm_law_states an_law_states cd_law_states ct_law_states), sl_law_states⟩)
    (c_law_states : PySem.W.codeIn K cd_law_states "_law_states" = true)
    (k_law_states : PySem.W.keepIn K (.ref f_law_states) = true)
    (a_law_hand : PySem.W.nsIn K mainGlobals "_law_hand" = some (some (.ref f_law_hand)))
    (l_law_hand : K.lookup f_law_hand = some ⟨oc_law_hand, od_law_hand, .func (PySem.W.fnOf "_law_hand" "_law_hand" (C8.fnArgs s_law_hand) (C8.fnBody s_law_hand) (C8.fnScope s_law_hand) .none kV_law_hand dc_law_hand pm_law_hand an_law_hand cd_law_hand ct_law_hand), sl_law_hand⟩)
    (c_law_hand : PySem.W.codeIn K cd_law_hand "_law_hand" = true)
    (k_law_hand : PySem.W.keepIn K (.ref f_law_hand) = true)
    (a_law_plan : PySem.W.nsIn K mainGlobals "_law_plan" = some (some (.ref f_law_plan)))
    (l_law_plan : K.lookup f_law_plan = some ⟨oc_law_plan, od_law_plan, .func (PySem.W.fnOf "_law_plan" "_law_plan" (C8.fnArgs s_law_plan) (C8.fnBody s_law_plan) (C8.fnScope s_law_plan) .none kV_law_plan dc_law_plan pm_law_plan an_law_plan cd_law_plan ct_law_plan), sl_law_plan⟩)
    (c_law_plan : PySem.W.codeIn K cd_law_plan "_law_plan" = true)
    (k_law_plan : PySem.W.keepIn K (.ref f_law_plan) = true)
    (a_is_integer : PySem.W.nsIn K mainGlobals "is_integer" = some (some (.ref f_is_integer)))
    (l_is_integer : K.lookup f_is_integer = some ⟨oc_is_integer, od_is_integer, .func (PySem.W.fnOf "is_integer" "is_integer" (C8.fnArgs s_is_integer) (C8.fnBody s_is_integer) (C8.fnScope s_is_integer) .none kV_is_integer dc_is_integer pm_is_integer an_is_integer cd_is_integer ct_is_integer), sl_is_integer⟩)
    (c_is_integer : PySem.W.codeIn K cd_is_integer "is_integer" = true)
    (k_is_integer : PySem.W.keepIn K (.ref f_is_integer) = true)
    (a_is_state : PySem.W.nsIn K mainGlobals "is_state" = some (some (.ref f_is_state)))
    (l_is_state : K.lookup f_is_state = some ⟨oc_is_state, od_is_state, .func (PySem.W.fnOf "is_state" "is_state" (C8.fnArgs s_is_state) (C8.fnBody s_is_state) (C8.fnScope s_is_state) .none kV_is_state dc_is_state pm_is_state an_is_state cd_is_state ct_is_state), sl_is_state⟩)
    (c_is_state : PySem.W.codeIn K cd_is_state "is_state" = true)
    (k_is_state : PySem.W.keepIn K (.ref f_is_state) = true)
    (a_is_row : PySem.W.nsIn K mainGlobals "is_row" = some (some (.ref f_is_row)))
    (l_is_row : K.lookup f_is_row = some ⟨oc_is_row, od_is_row, .func (PySem.W.fnOf "is_row" "is_row" (C8.fnArgs s_is_row) (C8.fnBody s_is_row) (C8.fnScope s_is_row) .none kV_is_row dc_is_row pm_is_row an_is_row cd_is_row ct_is_row), sl_is_row⟩)
    (c_is_row : PySem.W.codeIn K cd_is_row "is_row" = true)
    (k_is_row : PySem.W.keepIn K (.ref f_is_row) = true)
    (a_is_name : PySem.W.nsIn K mainGlobals "is_name" = some (some (.ref f_is_name)))
    (l_is_name : K.lookup f_is_name = some ⟨oc_is_name, od_is_name, .func (PySem.W.fnOf "is_name" "is_name" (C8.fnArgs s_is_name) (C8.fnBody s_is_name) (C8.fnScope s_is_name) .none kV_is_name dc_is_name pm_is_name an_is_name cd_is_name ct_is_name), sl_is_name⟩)
    (c_is_name : PySem.W.codeIn K cd_is_name "is_name" = true)
    (k_is_name : PySem.W.keepIn K (.ref f_is_name) = true)
    (a_is_step : PySem.W.nsIn K mainGlobals "is_step" = some (some (.ref f_is_step)))
    (l_is_step : K.lookup f_is_step = some ⟨oc_is_step, od_is_step, .func (PySem.W.fnOf "is_step" "is_step" (C8.fnArgs s_is_step) (C8.fnBody s_is_step) (C8.fnScope s_is_step) .none kV_is_step dc_is_step pm_is_step an_is_step cd_is_step ct_is_step), sl_is_step⟩)
    (c_is_step : PySem.W.codeIn K cd_is_step "is_step" = true)
    (k_is_step : PySem.W.keepIn K (.ref f_is_step) = true)
    (a_leaving : PySem.W.nsIn K mainGlobals "leaving" = some (some (.ref f_leaving)))
    (l_leaving : K.lookup f_leaving = some ⟨oc_leaving, od_leaving, .func (PySem.W.fnOf "leaving" "leaving" (C8.fnArgs s_leaving) (C8.fnBody s_leaving) (C8.fnScope s_leaving) .none kV_leaving dc_leaving pm_leaving an_leaving cd_leaving ct_leaving), sl_leaving⟩)
    (c_leaving : PySem.W.codeIn K cd_leaving "leaving" = true)
    (k_leaving : PySem.W.keepIn K (.ref f_leaving) = true)
    (a_checked_steps : PySem.W.nsIn K mainGlobals "checked_steps" = some (some (.ref f_checked_steps)))
    (l_checked_steps : K.lookup f_checked_steps = some ⟨oc_checked_steps, od_checked_steps, .func (PySem.W.fnOf "checked_steps" "checked_steps" (C8.fnArgs s_checked_steps) (C8.fnBody s_checked_steps) (C8.fnScope s_checked_steps) .none kV_checked_steps dc_checked_steps pm_checked_steps an_checked_steps cd_checked_steps ct_checked_steps), sl_checked_steps⟩)
    (c_checked_steps : PySem.W.codeIn K cd_checked_steps "checked_steps" = true)
    (k_checked_steps : PySem.W.keepIn K (.ref f_checked_steps) = true)
    (a_reached_states : PySem.W.nsIn K mainGlobals "reached_states" = some (some (.ref f_reached_states)))
    (l_reached_states : K.lookup f_reached_states = some ⟨oc_reached_states, od_reached_states, .func (PySem.W.fnOf "reached_states" "reached_states" (C8.fnArgs s_reached_states) (C8.fnBody s_reached_states) (C8.fnScope s_reached_states) .none kV_reached_states dc_reached_states pm_reached_states an_reached_states cd_reached_states ct_reached_states), sl_reached_states⟩)
    (c_reached_states : PySem.W.codeIn K cd_reached_states "reached_states" = true)
    (k_reached_states : PySem.W.keepIn K (.ref f_reached_states) = true)
    (a_Hand_init : PySem.W.findIn K (.ref CH) "__init__" = some (some (.ref f_Hand_init)))
    (i_Hand_init : PySem.W.isFn K (.ref f_Hand_init) = true)
    (l_Hand_init : K.lookup f_Hand_init = some ⟨oc_Hand_init, od_Hand_init, .func (PySem.W.fnOf "__init__" "Hand.__init__" (C8.fnArgs s_Hand_init) (C8.fnBody s_Hand_init) (C8.fnScope s_Hand_init) .none kV_Hand_init dc_Hand_init pm_Hand_init an_Hand_init cd_Hand_init ct_Hand_init), sl_Hand_init⟩)
    (c_Hand_init : PySem.W.codeIn K cd_Hand_init "Hand.__init__" = true)
    (k_Hand_init : PySem.W.keepIn K (.ref f_Hand_init) = true)
    (a_checked_hands : PySem.W.nsIn K mainGlobals "checked_hands" = some (some (.ref f_checked_hands)))
    (l_checked_hands : K.lookup f_checked_hands = some ⟨oc_checked_hands, od_checked_hands, .func (PySem.W.fnOf "checked_hands" "checked_hands" (C8.fnArgs s_checked_hands) (C8.fnBody s_checked_hands) (C8.fnScope s_checked_hands) .none kV_checked_hands dc_checked_hands pm_checked_hands an_checked_hands cd_checked_hands ct_checked_hands), sl_checked_hands⟩)
    (c_checked_hands : PySem.W.codeIn K cd_checked_hands "checked_hands" = true)
    (k_checked_hands : PySem.W.keepIn K (.ref f_checked_hands) = true)
    (a_checked_diligent : PySem.W.nsIn K mainGlobals "checked_diligent" = some (some (.ref f_checked_diligent)))
    (l_checked_diligent : K.lookup f_checked_diligent = some ⟨oc_checked_diligent, od_checked_diligent, .func (PySem.W.fnOf "checked_diligent" "checked_diligent" (C8.fnArgs s_checked_diligent) (C8.fnBody s_checked_diligent) (C8.fnScope s_checked_diligent) .none kV_checked_diligent dc_checked_diligent pm_checked_diligent an_checked_diligent cd_checked_diligent ct_checked_diligent), sl_checked_diligent⟩)
    (c_checked_diligent : PySem.W.codeIn K cd_checked_diligent "checked_diligent" = true)
    (k_checked_diligent : PySem.W.keepIn K (.ref f_checked_diligent) = true)
    (a_System_init : PySem.W.findIn K (.ref CS) "__init__" = some (some (.ref f_System_init)))
    (i_System_init : PySem.W.isFn K (.ref f_System_init) = true)
    (l_System_init : K.lookup f_System_init = some ⟨oc_System_init, od_System_init, .func (PySem.W.fnOf "__init__" "System.__init__" (C8.fnArgs s_System_init) (C8.fnBody s_System_init) (C8.fnScope s_System_init) (.ref TD) kV_System_init dc_System_init pm_System_init an_System_init cd_System_init ct_System_init), sl_System_init⟩)
    (c_System_init : PySem.W.codeIn K cd_System_init "System.__init__" = true)
    (k_System_init : PySem.W.keepIn K (.ref f_System_init) = true)
    (a_law_system : PySem.W.nsIn K mainGlobals "_law_system" = some (some (.ref f_law_system)))
    (l_law_system : K.lookup f_law_system = some ⟨oc_law_system, od_law_system, .func (PySem.W.fnOf "_law_system" "_law_system" (C8.fnArgs s_law_system) (C8.fnBody s_law_system) (C8.fnScope s_law_system) .none kV_law_system dc_law_system pm_law_system an_law_system cd_law_system ct_law_system), sl_law_system⟩)
    (c_law_system : PySem.W.codeIn K cd_law_system "_law_system" = true)
    (k_law_system : PySem.W.keepIn K (.ref f_law_system) = true)
    (a_law_words : PySem.W.nsIn K mainGlobals "_law_words" = some (some (.ref f_law_words)))
    (l_law_words : K.lookup f_law_words = some ⟨oc_law_words, od_law_words, .func (PySem.W.fnOf "_law_words" "_law_words" (C8.fnArgs s_law_words) (C8.fnBody s_law_words) (C8.fnScope s_law_words) .none kV_law_words dc_law_words pm_law_words an_law_words cd_law_words ct_law_words), sl_law_words⟩)
    (c_law_words : PySem.W.codeIn K cd_law_words "_law_words" = true)
    (k_law_words : PySem.W.keepIn K (.ref f_law_words) = true)
    (a_law_numbers : PySem.W.nsIn K mainGlobals "_law_numbers" = some (some (.ref f_law_numbers)))
    (l_law_numbers : K.lookup f_law_numbers = some ⟨oc_law_numbers, od_law_numbers, .func (PySem.W.fnOf "_law_numbers" "_law_numbers" (C8.fnArgs s_law_numbers) (C8.fnBody s_law_numbers) (C8.fnScope s_law_numbers) .none kV_law_numbers dc_law_numbers pm_law_numbers an_law_numbers cd_law_numbers ct_law_numbers), sl_law_numbers⟩)
    (c_law_numbers : PySem.W.codeIn K cd_law_numbers "_law_numbers" = true)
    (k_law_numbers : PySem.W.keepIn K (.ref f_law_numbers) = true)
    (a_law_behind : PySem.W.nsIn K mainGlobals "_law_behind" = some (some (.ref f_law_behind)))
    (l_law_behind : K.lookup f_law_behind = some ⟨oc_law_behind, od_law_behind, .func (PySem.W.fnOf "_law_behind" "_law_behind" (C8.fnArgs s_law_behind) (C8.fnBody s_law_behind) (C8.fnScope s_law_behind) .none kV_law_behind dc_law_behind pm_law_behind an_law_behind cd_law_behind ct_law_behind), sl_law_behind⟩)
    (c_law_behind : PySem.W.codeIn K cd_law_behind "_law_behind" = true)
    (k_law_behind : PySem.W.keepIn K (.ref f_law_behind) = true)
    (a_law_ways : PySem.W.nsIn K mainGlobals "_law_ways" = some (some (.ref f_law_ways)))
    (l_law_ways : K.lookup f_law_ways = some ⟨oc_law_ways, od_law_ways, .func (PySem.W.fnOf "_law_ways" "_law_ways" (C8.fnArgs s_law_ways) (C8.fnBody s_law_ways) (C8.fnScope s_law_ways) .none kV_law_ways dc_law_ways pm_law_ways an_law_ways cd_law_ways ct_law_ways), sl_law_ways⟩)
    (c_law_ways : PySem.W.codeIn K cd_law_ways "_law_ways" = true)
    (k_law_ways : PySem.W.keepIn K (.ref f_law_ways) = true)
    (a_law_rove : PySem.W.nsIn K mainGlobals "_law_rove" = some (some (.ref f_law_rove)))
    (l_law_rove : K.lookup f_law_rove = some ⟨oc_law_rove, od_law_rove, .func (PySem.W.fnOf "_law_rove" "_law_rove" (C8.fnArgs s_law_rove) (C8.fnBody s_law_rove) (C8.fnScope s_law_rove) .none kV_law_rove dc_law_rove pm_law_rove an_law_rove cd_law_rove ct_law_rove), sl_law_rove⟩)
    (c_law_rove : PySem.W.codeIn K cd_law_rove "_law_rove" = true)
    (k_law_rove : PySem.W.keepIn K (.ref f_law_rove) = true)
    (a_law_cut : PySem.W.nsIn K mainGlobals "_law_cut" = some (some (.ref f_law_cut)))
    (l_law_cut : K.lookup f_law_cut = some ⟨oc_law_cut, od_law_cut, .func (PySem.W.fnOf "_law_cut" "_law_cut" (C8.fnArgs s_law_cut) (C8.fnBody s_law_cut) (C8.fnScope s_law_cut) .none kV_law_cut dc_law_cut pm_law_cut an_law_cut cd_law_cut ct_law_cut), sl_law_cut⟩)
    (c_law_cut : PySem.W.codeIn K cd_law_cut "_law_cut" = true)
    (k_law_cut : PySem.W.keepIn K (.ref f_law_cut) = true)
    (a_law_keen : PySem.W.nsIn K mainGlobals "_law_keen" = some (some (.ref f_law_keen)))
    (l_law_keen : K.lookup f_law_keen = some ⟨oc_law_keen, od_law_keen, .func (PySem.W.fnOf "_law_keen" "_law_keen" (C8.fnArgs s_law_keen) (C8.fnBody s_law_keen) (C8.fnScope s_law_keen) .none kV_law_keen dc_law_keen pm_law_keen an_law_keen cd_law_keen ct_law_keen), sl_law_keen⟩)
    (c_law_keen : PySem.W.codeIn K cd_law_keen "_law_keen" = true)
    (k_law_keen : PySem.W.keepIn K (.ref f_law_keen) = true)
    (a_law_whole : PySem.W.nsIn K mainGlobals "_law_whole" = some (some (.ref f_law_whole)))
    (l_law_whole : K.lookup f_law_whole = some ⟨oc_law_whole, od_law_whole, .func (PySem.W.fnOf "_law_whole" "_law_whole" (C8.fnArgs s_law_whole) (C8.fnBody s_law_whole) (C8.fnScope s_law_whole) .none kV_law_whole dc_law_whole pm_law_whole an_law_whole cd_law_whole ct_law_whole), sl_law_whole⟩)
    (c_law_whole : PySem.W.codeIn K cd_law_whole "_law_whole" = true)
    (k_law_whole : PySem.W.keepIn K (.ref f_law_whole) = true)
    (a_law_is_move : PySem.W.nsIn K mainGlobals "_law_is_move" = some (some (.ref f_law_is_move)))
    (l_law_is_move : K.lookup f_law_is_move = some ⟨oc_law_is_move, od_law_is_move, .func (PySem.W.fnOf "_law_is_move" "_law_is_move" (C8.fnArgs s_law_is_move) (C8.fnBody s_law_is_move) (C8.fnScope s_law_is_move) .none kV_law_is_move dc_law_is_move pm_law_is_move an_law_is_move cd_law_is_move ct_law_is_move), sl_law_is_move⟩)
    (c_law_is_move : PySem.W.codeIn K cd_law_is_move "_law_is_move" = true)
    (k_law_is_move : PySem.W.keepIn K (.ref f_law_is_move) = true)
    (a_law_passed : PySem.W.nsIn K mainGlobals "_law_passed" = some (some (.ref f_law_passed)))
    (l_law_passed : K.lookup f_law_passed = some ⟨oc_law_passed, od_law_passed, .func (PySem.W.fnOf "_law_passed" "_law_passed" (C8.fnArgs s_law_passed) (C8.fnBody s_law_passed) (C8.fnScope s_law_passed) .none kV_law_passed dc_law_passed pm_law_passed an_law_passed cd_law_passed ct_law_passed), sl_law_passed⟩)
    (c_law_passed : PySem.W.codeIn K cd_law_passed "_law_passed" = true)
    (k_law_passed : PySem.W.keepIn K (.ref f_law_passed) = true)
    (a_law_able : PySem.W.nsIn K mainGlobals "_law_able" = some (some (.ref f_law_able)))
    (l_law_able : K.lookup f_law_able = some ⟨oc_law_able, od_law_able, .func (PySem.W.fnOf "_law_able" "_law_able" (C8.fnArgs s_law_able) (C8.fnBody s_law_able) (C8.fnScope s_law_able) .none kV_law_able dc_law_able pm_law_able an_law_able cd_law_able ct_law_able), sl_law_able⟩)
    (c_law_able : PySem.W.codeIn K cd_law_able "_law_able" = true)
    (k_law_able : PySem.W.keepIn K (.ref f_law_able) = true)
    (a_law_keenly_fair : PySem.W.nsIn K mainGlobals "_law_keenly_fair" = some (some (.ref f_law_keenly_fair)))
    (l_law_keenly_fair : K.lookup f_law_keenly_fair = some ⟨oc_law_keenly_fair, od_law_keenly_fair, .func (PySem.W.fnOf "_law_keenly_fair" "_law_keenly_fair" (C8.fnArgs s_law_keenly_fair) (C8.fnBody s_law_keenly_fair) (C8.fnScope s_law_keenly_fair) .none kV_law_keenly_fair dc_law_keenly_fair pm_law_keenly_fair an_law_keenly_fair cd_law_keenly_fair ct_law_keenly_fair), sl_law_keenly_fair⟩)
    (c_law_keenly_fair : PySem.W.codeIn K cd_law_keenly_fair "_law_keenly_fair" = true)
    (k_law_keenly_fair : PySem.W.keepIn K (.ref f_law_keenly_fair) = true)
    (a_step_numbers : PySem.W.nsIn K mainGlobals "step_numbers" = some (some (.ref f_step_numbers)))
    (l_step_numbers : K.lookup f_step_numbers = some ⟨oc_step_numbers, od_step_numbers, .func (PySem.W.fnOf "step_numbers" "step_numbers" (C8.fnArgs s_step_numbers) (C8.fnBody s_step_numbers) (C8.fnScope s_step_numbers) .none kV_step_numbers dc_step_numbers pm_step_numbers an_step_numbers cd_step_numbers ct_step_numbers), sl_step_numbers⟩)
    (c_step_numbers : PySem.W.codeIn K cd_step_numbers "step_numbers" = true)
    (k_step_numbers : PySem.W.keepIn K (.ref f_step_numbers) = true)
    (a_is_move : PySem.W.nsIn K mainGlobals "is_move" = some (some (.ref f_is_move)))
    (l_is_move : K.lookup f_is_move = some ⟨oc_is_move, od_is_move, .func (PySem.W.fnOf "is_move" "is_move" (C8.fnArgs s_is_move) (C8.fnBody s_is_move) (C8.fnScope s_is_move) .none kV_is_move dc_is_move pm_is_move an_is_move cd_is_move ct_is_move), sl_is_move⟩)
    (c_is_move : PySem.W.codeIn K cd_is_move "is_move" = true)
    (k_is_move : PySem.W.keepIn K (.ref f_is_move) = true)
    (a_led_to : PySem.W.nsIn K mainGlobals "led_to" = some (some (.ref f_led_to)))
    (l_led_to : K.lookup f_led_to = some ⟨oc_led_to, od_led_to, .func (PySem.W.fnOf "led_to" "led_to" (C8.fnArgs s_led_to) (C8.fnBody s_led_to) (C8.fnScope s_led_to) .none kV_led_to dc_led_to pm_led_to an_led_to cd_led_to ct_led_to), sl_led_to⟩)
    (c_led_to : PySem.W.codeIn K cd_led_to "led_to" = true)
    (k_led_to : PySem.W.keepIn K (.ref f_led_to) = true)
    (a_walked : PySem.W.nsIn K mainGlobals "walked" = some (some (.ref f_walked)))
    (l_walked : K.lookup f_walked = some ⟨oc_walked, od_walked, .func (PySem.W.fnOf "walked" "walked" (C8.fnArgs s_walked) (C8.fnBody s_walked) (C8.fnScope s_walked) .none kV_walked dc_walked pm_walked an_walked cd_walked ct_walked), sl_walked⟩)
    (c_walked : PySem.W.codeIn K cd_walked "walked" = true)
    (k_walked : PySem.W.keepIn K (.ref f_walked) = true)
    (a_check_standing : PySem.W.nsIn K mainGlobals "check_standing" = some (some (.ref f_check_standing)))
    (l_check_standing : K.lookup f_check_standing = some ⟨oc_check_standing, od_check_standing, .func (PySem.W.fnOf "check_standing" "check_standing" (C8.fnArgs s_check_standing) (C8.fnBody s_check_standing) (C8.fnScope s_check_standing) .none kV_check_standing dc_check_standing pm_check_standing an_check_standing cd_check_standing ct_check_standing), sl_check_standing⟩)
    (c_check_standing : PySem.W.codeIn K cd_check_standing "check_standing" = true)
    (k_check_standing : PySem.W.keepIn K (.ref f_check_standing) = true)
    (a_System_able : PySem.W.findIn K (.ref CS) "able" = some (some (.ref f_System_able)))
    (i_System_able : PySem.W.isFn K (.ref f_System_able) = true)
    (l_System_able : K.lookup f_System_able = some ⟨oc_System_able, od_System_able, .func (PySem.W.fnOf "able" "System.able" (C8.fnArgs s_System_able) (C8.fnBody s_System_able) (C8.fnScope s_System_able) .none kV_System_able dc_System_able pm_System_able an_System_able cd_System_able ct_System_able), sl_System_able⟩)
    (c_System_able : PySem.W.codeIn K cd_System_able "System.able" = true)
    (k_System_able : PySem.W.keepIn K (.ref f_System_able) = true)
    (a_always_able : PySem.W.nsIn K mainGlobals "always_able" = some (some (.ref f_always_able)))
    (l_always_able : K.lookup f_always_able = some ⟨oc_always_able, od_always_able, .func (PySem.W.fnOf "always_able" "always_able" (C8.fnArgs s_always_able) (C8.fnBody s_always_able) (C8.fnScope s_always_able) .none kV_always_able dc_always_able pm_always_able an_always_able cd_always_able ct_always_able), sl_always_able⟩)
    (c_always_able : PySem.W.codeIn K cd_always_able "always_able" = true)
    (k_always_able : PySem.W.keepIn K (.ref f_always_able) = true)
    (a_takes_along : PySem.W.nsIn K mainGlobals "takes_along" = some (some (.ref f_takes_along)))
    (l_takes_along : K.lookup f_takes_along = some ⟨oc_takes_along, od_takes_along, .func (PySem.W.fnOf "takes_along" "takes_along" (C8.fnArgs s_takes_along) (C8.fnBody s_takes_along) (C8.fnScope s_takes_along) .none kV_takes_along dc_takes_along pm_takes_along an_takes_along cd_takes_along ct_takes_along), sl_takes_along⟩)
    (c_takes_along : PySem.W.codeIn K cd_takes_along "takes_along" = true)
    (k_takes_along : PySem.W.keepIn K (.ref f_takes_along) = true)
    (a_is_fair : PySem.W.nsIn K mainGlobals "is_fair" = some (some (.ref f_is_fair)))
    (l_is_fair : K.lookup f_is_fair = some ⟨oc_is_fair, od_is_fair, .func (PySem.W.fnOf "is_fair" "is_fair" (C8.fnArgs s_is_fair) (C8.fnBody s_is_fair) (C8.fnScope s_is_fair) .none kV_is_fair dc_is_fair pm_is_fair an_is_fair cd_is_fair ct_is_fair), sl_is_fair⟩)
    (c_is_fair : PySem.W.codeIn K cd_is_fair "is_fair" = true)
    (k_is_fair : PySem.W.keepIn K (.ref f_is_fair) = true)
    (a_able_somewhere : PySem.W.nsIn K mainGlobals "able_somewhere" = some (some (.ref f_able_somewhere)))
    (l_able_somewhere : K.lookup f_able_somewhere = some ⟨oc_able_somewhere, od_able_somewhere, .func (PySem.W.fnOf "able_somewhere" "able_somewhere" (C8.fnArgs s_able_somewhere) (C8.fnBody s_able_somewhere) (C8.fnScope s_able_somewhere) .none kV_able_somewhere dc_able_somewhere pm_able_somewhere an_able_somewhere cd_able_somewhere ct_able_somewhere), sl_able_somewhere⟩)
    (c_able_somewhere : PySem.W.codeIn K cd_able_somewhere "able_somewhere" = true)
    (k_able_somewhere : PySem.W.keepIn K (.ref f_able_somewhere) = true)
    (a_either : PySem.W.nsIn K mainGlobals "either" = some (some (.ref f_either)))
    (l_either : K.lookup f_either = some ⟨oc_either, od_either, .func (PySem.W.fnOf "either" "either" (C8.fnArgs s_either) (C8.fnBody s_either) (C8.fnScope s_either) .none kV_either dc_either pm_either an_either cd_either ct_either), sl_either⟩)
    (c_either : PySem.W.codeIn K cd_either "either" = true)
    (k_either : PySem.W.keepIn K (.ref f_either) = true)
    (a_System_with_diligent : PySem.W.findIn K (.ref CS) "with_diligent" = some (some (.ref f_System_with_diligent)))
    (i_System_with_diligent : PySem.W.isFn K (.ref f_System_with_diligent) = true)
    (l_System_with_diligent : K.lookup f_System_with_diligent = some ⟨oc_System_with_diligent, od_System_with_diligent, .func (PySem.W.fnOf "with_diligent" "System.with_diligent" (C8.fnArgs s_System_with_diligent) (C8.fnBody s_System_with_diligent) (C8.fnScope s_System_with_diligent) .none kV_System_with_diligent dc_System_with_diligent pm_System_with_diligent an_System_with_diligent cd_System_with_diligent ct_System_with_diligent), sl_System_with_diligent⟩)
    (c_System_with_diligent : PySem.W.codeIn K cd_System_with_diligent "System.with_diligent" = true)
    (k_System_with_diligent : PySem.W.keepIn K (.ref f_System_with_diligent) = true)
    (a_is_keenly_fair : PySem.W.nsIn K mainGlobals "is_keenly_fair" = some (some (.ref f_is_keenly_fair)))
    (l_is_keenly_fair : K.lookup f_is_keenly_fair = some ⟨oc_is_keenly_fair, od_is_keenly_fair, .func (PySem.W.fnOf "is_keenly_fair" "is_keenly_fair" (C8.fnArgs s_is_keenly_fair) (C8.fnBody s_is_keenly_fair) (C8.fnScope s_is_keenly_fair) .none kV_is_keenly_fair dc_is_keenly_fair pm_is_keenly_fair an_is_keenly_fair cd_is_keenly_fair ct_is_keenly_fair), sl_is_keenly_fair⟩)
    (c_is_keenly_fair : PySem.W.codeIn K cd_is_keenly_fair "is_keenly_fair" = true)
    (k_is_keenly_fair : PySem.W.keepIn K (.ref f_is_keenly_fair) = true)
    (a_law_told : PySem.W.nsIn K mainGlobals "_law_told" = some (some (.ref f_law_told)))
    (l_law_told : K.lookup f_law_told = some ⟨oc_law_told, od_law_told, .func (PySem.W.fnOf "_law_told" "_law_told" (C8.fnArgs s_law_told) (C8.fnBody s_law_told) (C8.fnScope s_law_told) .none kV_law_told dc_law_told pm_law_told an_law_told cd_law_told ct_law_told), sl_law_told⟩)
    (c_law_told : PySem.W.codeIn K cd_law_told "_law_told" = true)
    (k_law_told : PySem.W.keepIn K (.ref f_law_told) = true)
    (a_law_written_otherwise : PySem.W.nsIn K mainGlobals "_law_written_otherwise" = some (some (.ref f_law_written_otherwise)))
    (l_law_written_otherwise : K.lookup f_law_written_otherwise = some ⟨oc_law_written_otherwise, od_law_written_otherwise, .func (PySem.W.fnOf "_law_written_otherwise" "_law_written_otherwise" (C8.fnArgs s_law_written_otherwise) (C8.fnBody s_law_written_otherwise) (C8.fnScope s_law_written_otherwise) .none kV_law_written_otherwise dc_law_written_otherwise pm_law_written_otherwise an_law_written_otherwise cd_law_written_otherwise ct_law_written_otherwise), sl_law_written_otherwise⟩)
    (c_law_written_otherwise : PySem.W.codeIn K cd_law_written_otherwise "_law_written_otherwise" = true)
    (k_law_written_otherwise : PySem.W.keepIn K (.ref f_law_written_otherwise) = true)
    (a_System_started_at : PySem.W.findIn K (.ref CS) "started_at" = some (some (.ref f_System_started_at)))
    (i_System_started_at : PySem.W.isFn K (.ref f_System_started_at) = true)
    (l_System_started_at : K.lookup f_System_started_at = some ⟨oc_System_started_at, od_System_started_at, .func (PySem.W.fnOf "started_at" "System.started_at" (C8.fnArgs s_System_started_at) (C8.fnBody s_System_started_at) (C8.fnScope s_System_started_at) .none kV_System_started_at dc_System_started_at pm_System_started_at an_System_started_at cd_System_started_at ct_System_started_at), sl_System_started_at⟩)
    (c_System_started_at : PySem.W.codeIn K cd_System_started_at "System.started_at" = true)
    (k_System_started_at : PySem.W.keepIn K (.ref f_System_started_at) = true)
    (a_law_other_systems : PySem.W.nsIn K mainGlobals "_law_other_systems" = some (some (.ref f_law_other_systems)))
    (l_law_other_systems : K.lookup f_law_other_systems = some ⟨oc_law_other_systems, od_law_other_systems, .func (PySem.W.fnOf "_law_other_systems" "_law_other_systems" (C8.fnArgs s_law_other_systems) (C8.fnBody s_law_other_systems) (C8.fnScope s_law_other_systems) .none kV_law_other_systems dc_law_other_systems pm_law_other_systems an_law_other_systems cd_law_other_systems ct_law_other_systems), sl_law_other_systems⟩)
    (c_law_other_systems : PySem.W.codeIn K cd_law_other_systems "_law_other_systems" = true)
    (k_law_other_systems : PySem.W.keepIn K (.ref f_law_other_systems) = true)
    (a_law_hand_by_hand : PySem.W.nsIn K mainGlobals "_law_hand_by_hand" = some (some (.ref f_law_hand_by_hand)))
    (l_law_hand_by_hand : K.lookup f_law_hand_by_hand = some ⟨oc_law_hand_by_hand, od_law_hand_by_hand, .func (PySem.W.fnOf "_law_hand_by_hand" "_law_hand_by_hand" (C8.fnArgs s_law_hand_by_hand) (C8.fnBody s_law_hand_by_hand) (C8.fnScope s_law_hand_by_hand) .none kV_law_hand_by_hand dc_law_hand_by_hand pm_law_hand_by_hand an_law_hand_by_hand cd_law_hand_by_hand ct_law_hand_by_hand), sl_law_hand_by_hand⟩)
    (c_law_hand_by_hand : PySem.W.codeIn K cd_law_hand_by_hand "_law_hand_by_hand" = true)
    (k_law_hand_by_hand : PySem.W.keepIn K (.ref f_law_hand_by_hand) = true)
    (a_Hand_eq : PySem.W.findIn K (.ref CH) "__eq__" = some (some (.ref f_Hand_eq)))
    (i_Hand_eq : PySem.W.isFn K (.ref f_Hand_eq) = true)
    (l_Hand_eq : K.lookup f_Hand_eq = some ⟨oc_Hand_eq, od_Hand_eq, .func (PySem.W.fnOf "__eq__" "Hand.__eq__" (C8.fnArgs s_Hand_eq) (C8.fnBody s_Hand_eq) (C8.fnScope s_Hand_eq) .none kV_Hand_eq dc_Hand_eq pm_Hand_eq an_Hand_eq cd_Hand_eq ct_Hand_eq), sl_Hand_eq⟩)
    (c_Hand_eq : PySem.W.codeIn K cd_Hand_eq "Hand.__eq__" = true)
    (k_Hand_eq : PySem.W.keepIn K (.ref f_Hand_eq) = true)
    (a_System_eq : PySem.W.findIn K (.ref CS) "__eq__" = some (some (.ref f_System_eq)))
    (i_System_eq : PySem.W.isFn K (.ref f_System_eq) = true)
    (l_System_eq : K.lookup f_System_eq = some ⟨oc_System_eq, od_System_eq, .func (PySem.W.fnOf "__eq__" "System.__eq__" (C8.fnArgs s_System_eq) (C8.fnBody s_System_eq) (C8.fnScope s_System_eq) .none kV_System_eq dc_System_eq pm_System_eq an_System_eq cd_System_eq ct_System_eq), sl_System_eq⟩)
    (c_System_eq : PySem.W.codeIn K cd_System_eq "System.__eq__" = true)
    (k_System_eq : PySem.W.keepIn K (.ref f_System_eq) = true)
    (a_law : PySem.W.nsIn K mainGlobals "law" = some (some (.ref f_law)))
    (l_law : K.lookup f_law = some ⟨oc_law, od_law, .func (PySem.W.fnOf "law" "law" (C8.fnArgs s_law) (C8.fnBody s_law) (C8.fnScope s_law) .none kV_law dc_law pm_law an_law cd_law ct_law), sl_law⟩)
    (c_law : PySem.W.codeIn K cd_law "law" = true)
    (k_law : PySem.W.keepIn K (.ref f_law) = true)
    (lT : K.lookup TD = some ⟨oTc, oTd, .seq itT nT, oTs⟩)
    (eT : itT = [Value.none].toArray) :
    ∃ fd : FuncData, (∀ (s : Shared) (v : Value), BindsTo s fd ⟨[v], []⟩ [("script", v)]) ∧ ∀ base : Heap, K.In base → base.Ns mainGlobals mg → FnOk P w K mg base C8.CX0 9 fa fd ["script"] (spL K) := by
  have e : f_law = fa := by
    have := (PySem.W.mg_of X G a_law).symm.trans hfa
    cases this; rfl
  subst e
  have T : Bs mg := ⟨PySem.W.mg_none_of X G z_isinstance, PySem.W.mg_none_of X G z_int, PySem.W.mg_none_of X G z_bool, PySem.W.mg_none_of X G z_str, PySem.W.mg_none_of X G z_list, PySem.W.mg_none_of X G z_tuple, PySem.W.mg_none_of X G z_len, PySem.W.mg_none_of X G z_enumerate, PySem.W.mg_none_of X G z_sorted, PySem.W.mg_none_of X G z_set, PySem.W.mg_none_of X G z_range, PySem.W.mg_none_of X G z_sum, PySem.W.mg_none_of X G z_min, PySem.W.mg_none_of X G z_max, PySem.W.mg_none_of X G z_zip, PySem.W.mg_none_of X G z_all, PySem.W.mg_none_of X G z_any⟩
  have g_LETTERS := (⟨v_LETTERS, PySem.W.mg_of X G a_LETTERS, r_LETTERS⟩ : ∃ u, mg "LETTERS" = some u ∧ RelV (.str az : V) u)
  have g_MOST_STEPS := (⟨v_MOST_STEPS, PySem.W.mg_of X G a_MOST_STEPS, r_MOST_STEPS⟩ : ∃ u, mg "MOST_STEPS" = some u ∧ RelV (.int 24 : V) u)
  have g_MOST_LEAVING := (⟨v_MOST_LEAVING, PySem.W.mg_of X G a_MOST_LEAVING, r_MOST_LEAVING⟩ : ∃ u, mg "MOST_LEAVING" = some u ∧ RelV (.int 4 : V) u)
  have g_MOST_WORDS_hands := (⟨v_MOST_WORDS_hands, PySem.W.mg_of X G a_MOST_WORDS_hands, r_MOST_WORDS_hands⟩ : ∃ u, mg "MOST_WORDS_hands" = some u ∧ RelV (.int 8 : V) u)
  have g_MOST_STATES := (⟨v_MOST_STATES, PySem.W.mg_of X G a_MOST_STATES, r_MOST_STATES⟩ : ∃ u, mg "MOST_STATES" = some u ∧ RelV (.int 8 : V) u)
  have g_MOST_HANDS := (⟨v_MOST_HANDS, PySem.W.mg_of X G a_MOST_HANDS, r_MOST_HANDS⟩ : ∃ u, mg "MOST_HANDS" = some u ∧ RelV (.int 4 : V) u)
  have g_MOST_WORDS_systems := (⟨v_MOST_WORDS_systems, PySem.W.mg_of X G a_MOST_WORDS_systems, r_MOST_WORDS_systems⟩ : ∃ u, mg "MOST_WORDS_systems" = some u ∧ RelV (.int 12 : V) u)
  have cl_CH : Cls K CH := ⟨pg_CH, hd_CH, po_CH, sa_CH⟩
  have HH : HT K mg CH := ⟨⟨cl_CH, ha_CH, hn, htk, hm_CH⟩, ⟨.ref CH, PySem.W.mg_of X G a_Hand, rfl⟩, ⟨cl_CH, n_CH_start⟩, ⟨cl_CH, n_CH_steps⟩, ⟨cl_CH, n_CH_words⟩, ⟨cl_CH, n_CH_states⟩⟩
  have cl_CS : Cls K CS := ⟨pg_CS, hd_CS, po_CS, sa_CS⟩
  have SS : ST K mg CS := ⟨⟨cl_CS, ha_CS, hn, htk, hm_CS⟩, ⟨.ref CS, PySem.W.mg_of X G a_System, rfl⟩, ⟨cl_CS, n_CS_hands⟩, ⟨cl_CS, n_CS_diligent⟩, ⟨cl_CS, n_CS_words⟩, ⟨cl_CS, n_CS_start⟩⟩
  have F_law_open : C8.Fun K "_law_open" "_law_open" s_law_open f_law_open (PySem.W.fnOf "_law_open" "_law_open" (C8.fnArgs s_law_open) (C8.fnBody s_law_open) (C8.fnScope s_law_open) .none kV_law_open dc_law_open pm_law_open an_law_open cd_law_open ct_law_open) := ⟨⟨oc_law_open, od_law_open, .none, kV_law_open, dc_law_open, pm_law_open, an_law_open, cd_law_open, ct_law_open, sl_law_open, rfl, l_law_open, c_law_open⟩⟩
  have b_xlaw_open := F_law_open.binds rfl (ps := ["script", "place"]) fun _ _ _ _ _ _ us hl => match us, hl with | [_, _], _ => rfl
  have F_law_draw : C8.Fun K "_law_draw" "_law_draw" s_law_draw f_law_draw (PySem.W.fnOf "_law_draw" "_law_draw" (C8.fnArgs s_law_draw) (C8.fnBody s_law_draw) (C8.fnScope s_law_draw) .none kV_law_draw dc_law_draw pm_law_draw an_law_draw cd_law_draw ct_law_draw) := ⟨⟨oc_law_draw, od_law_draw, .none, kV_law_draw, dc_law_draw, pm_law_draw, an_law_draw, cd_law_draw, ct_law_draw, sl_law_draw, rfl, l_law_draw, c_law_draw⟩⟩
  have b_xlaw_draw := F_law_draw.binds rfl (ps := ["state", "many"]) fun _ _ _ _ _ _ us hl => match us, hl with | [_, _], _ => rfl
  have F_law_name : C8.Fun K "_law_name" "_law_name" s_law_name f_law_name (PySem.W.fnOf "_law_name" "_law_name" (C8.fnArgs s_law_name) (C8.fnBody s_law_name) (C8.fnScope s_law_name) .none kV_law_name dc_law_name pm_law_name an_law_name cd_law_name ct_law_name) := ⟨⟨oc_law_name, od_law_name, .none, kV_law_name, dc_law_name, pm_law_name, an_law_name, cd_law_name, ct_law_name, sl_law_name, rfl, l_law_name, c_law_name⟩⟩
  have b_xlaw_name := F_law_name.binds rfl (ps := ["state"]) fun _ _ _ _ _ _ us hl => match us, hl with | [_], _ => rfl
  have F_law_names : C8.Fun K "_law_names" "_law_names" s_law_names f_law_names (PySem.W.fnOf "_law_names" "_law_names" (C8.fnArgs s_law_names) (C8.fnBody s_law_names) (C8.fnScope s_law_names) .none kV_law_names dc_law_names pm_law_names an_law_names cd_law_names ct_law_names) := ⟨⟨oc_law_names, od_law_names, .none, kV_law_names, dc_law_names, pm_law_names, an_law_names, cd_law_names, ct_law_names, sl_law_names, rfl, l_law_names, c_law_names⟩⟩
  have b_xlaw_names := F_law_names.binds rfl (ps := ["state", "many"]) fun _ _ _ _ _ _ us hl => match us, hl with | [_, _], _ => rfl
  have F_law_states : C8.Fun K "_law_states" "_law_states" s_law_states f_law_states (PySem.W.fnOf "_law_states" "_law_states" (C8.fnArgs s_law_states) (C8.fnBody s_law_states) (C8.fnScope s_law_states) .none kV_law_states dc_law_states pm_law_states an_law_states cd_law_states ct_law_states) := ⟨⟨oc_law_states, od_law_states, .none, kV_law_states, dc_law_states, pm_law_states, an_law_states, cd_law_states, ct_law_states, sl_law_states, rfl, l_law_states, c_law_states⟩⟩
  have b_xlaw_states := F_law_states.binds rfl (ps := ["state", "many"]) fun _ _ _ _ _ _ us hl => match us, hl with | [_, _], _ => rfl
  have F_law_hand : C8.Fun K "_law_hand" "_law_hand" s_law_hand f_law_hand (PySem.W.fnOf "_law_hand" "_law_hand" (C8.fnArgs s_law_hand) (C8.fnBody s_law_hand) (C8.fnScope s_law_hand) .none kV_law_hand dc_law_hand pm_law_hand an_law_hand cd_law_hand ct_law_hand) := ⟨⟨oc_law_hand, od_law_hand, .none, kV_law_hand, dc_law_hand, pm_law_hand, an_law_hand, cd_law_hand, ct_law_hand, sl_law_hand, rfl, l_law_hand, c_law_hand⟩⟩
  have b_xlaw_hand := F_law_hand.binds rfl (ps := ["state", "words", "most"]) fun _ _ _ _ _ _ us hl => match us, hl with | [_, _, _], _ => rfl
  have F_law_plan : C8.Fun K "_law_plan" "_law_plan" s_law_plan f_law_plan (PySem.W.fnOf "_law_plan" "_law_plan" (C8.fnArgs s_law_plan) (C8.fnBody s_law_plan) (C8.fnScope s_law_plan) .none kV_law_plan dc_law_plan pm_law_plan an_law_plan cd_law_plan ct_law_plan) := ⟨⟨oc_law_plan, od_law_plan, .none, kV_law_plan, dc_law_plan, pm_law_plan, an_law_plan, cd_law_plan, ct_law_plan, sl_law_plan, rfl, l_law_plan, c_law_plan⟩⟩
  have b_xlaw_plan := F_law_plan.binds rfl (ps := ["script", "most_hands", "most_states", "most_words"]) fun _ _ _ _ _ _ us hl => match us, hl with | [_, _, _, _], _ => rfl
  have F_is_integer : C8.Fun K "is_integer" "is_integer" s_is_integer f_is_integer (PySem.W.fnOf "is_integer" "is_integer" (C8.fnArgs s_is_integer) (C8.fnBody s_is_integer) (C8.fnScope s_is_integer) .none kV_is_integer dc_is_integer pm_is_integer an_is_integer cd_is_integer ct_is_integer) := ⟨⟨oc_is_integer, od_is_integer, .none, kV_is_integer, dc_is_integer, pm_is_integer, an_is_integer, cd_is_integer, ct_is_integer, sl_is_integer, rfl, l_is_integer, c_is_integer⟩⟩
  have b_xis_integer := F_is_integer.binds rfl (ps := ["thing"]) fun _ _ _ _ _ _ us hl => match us, hl with | [_], _ => rfl
  have F_is_state : C8.Fun K "is_state" "is_state" s_is_state f_is_state (PySem.W.fnOf "is_state" "is_state" (C8.fnArgs s_is_state) (C8.fnBody s_is_state) (C8.fnScope s_is_state) .none kV_is_state dc_is_state pm_is_state an_is_state cd_is_state ct_is_state) := ⟨⟨oc_is_state, od_is_state, .none, kV_is_state, dc_is_state, pm_is_state, an_is_state, cd_is_state, ct_is_state, sl_is_state, rfl, l_is_state, c_is_state⟩⟩
  have b_xis_state := F_is_state.binds rfl (ps := ["thing"]) fun _ _ _ _ _ _ us hl => match us, hl with | [_], _ => rfl
  have F_is_row : C8.Fun K "is_row" "is_row" s_is_row f_is_row (PySem.W.fnOf "is_row" "is_row" (C8.fnArgs s_is_row) (C8.fnBody s_is_row) (C8.fnScope s_is_row) .none kV_is_row dc_is_row pm_is_row an_is_row cd_is_row ct_is_row) := ⟨⟨oc_is_row, od_is_row, .none, kV_is_row, dc_is_row, pm_is_row, an_is_row, cd_is_row, ct_is_row, sl_is_row, rfl, l_is_row, c_is_row⟩⟩
  have b_xis_row := F_is_row.binds rfl (ps := ["thing"]) fun _ _ _ _ _ _ us hl => match us, hl with | [_], _ => rfl
  have F_is_name : C8.Fun K "is_name" "is_name" s_is_name f_is_name (PySem.W.fnOf "is_name" "is_name" (C8.fnArgs s_is_name) (C8.fnBody s_is_name) (C8.fnScope s_is_name) .none kV_is_name dc_is_name pm_is_name an_is_name cd_is_name ct_is_name) := ⟨⟨oc_is_name, od_is_name, .none, kV_is_name, dc_is_name, pm_is_name, an_is_name, cd_is_name, ct_is_name, sl_is_name, rfl, l_is_name, c_is_name⟩⟩
  have b_xis_name := F_is_name.binds rfl (ps := ["thing"]) fun _ _ _ _ _ _ us hl => match us, hl with | [_], _ => rfl
  have F_is_step : C8.Fun K "is_step" "is_step" s_is_step f_is_step (PySem.W.fnOf "is_step" "is_step" (C8.fnArgs s_is_step) (C8.fnBody s_is_step) (C8.fnScope s_is_step) .none kV_is_step dc_is_step pm_is_step an_is_step cd_is_step ct_is_step) := ⟨⟨oc_is_step, od_is_step, .none, kV_is_step, dc_is_step, pm_is_step, an_is_step, cd_is_step, ct_is_step, sl_is_step, rfl, l_is_step, c_is_step⟩⟩
  have b_xis_step := F_is_step.binds rfl (ps := ["thing"]) fun _ _ _ _ _ _ us hl => match us, hl with | [_], _ => rfl
  have F_leaving : C8.Fun K "leaving" "leaving" s_leaving f_leaving (PySem.W.fnOf "leaving" "leaving" (C8.fnArgs s_leaving) (C8.fnBody s_leaving) (C8.fnScope s_leaving) .none kV_leaving dc_leaving pm_leaving an_leaving cd_leaving ct_leaving) := ⟨⟨oc_leaving, od_leaving, .none, kV_leaving, dc_leaving, pm_leaving, an_leaving, cd_leaving, ct_leaving, sl_leaving, rfl, l_leaving, c_leaving⟩⟩
  have b_xleaving := F_leaving.binds rfl (ps := ["steps", "state"]) fun _ _ _ _ _ _ us hl => match us, hl with | [_, _], _ => rfl
  have F_checked_steps : C8.Fun K "checked_steps" "checked_steps" s_checked_steps f_checked_steps (PySem.W.fnOf "checked_steps" "checked_steps" (C8.fnArgs s_checked_steps) (C8.fnBody s_checked_steps) (C8.fnScope s_checked_steps) .none kV_checked_steps dc_checked_steps pm_checked_steps an_checked_steps cd_checked_steps ct_checked_steps) := ⟨⟨oc_checked_steps, od_checked_steps, .none, kV_checked_steps, dc_checked_steps, pm_checked_steps, an_checked_steps, cd_checked_steps, ct_checked_steps, sl_checked_steps, rfl, l_checked_steps, c_checked_steps⟩⟩
  have b_xchecked_steps := F_checked_steps.binds rfl (ps := ["steps"]) fun _ _ _ _ _ _ us hl => match us, hl with | [_], _ => rfl
  have F_reached_states : C8.Fun K "reached_states" "reached_states" s_reached_states f_reached_states (PySem.W.fnOf "reached_states" "reached_states" (C8.fnArgs s_reached_states) (C8.fnBody s_reached_states) (C8.fnScope s_reached_states) .none kV_reached_states dc_reached_states pm_reached_states an_reached_states cd_reached_states ct_reached_states) := ⟨⟨oc_reached_states, od_reached_states, .none, kV_reached_states, dc_reached_states, pm_reached_states, an_reached_states, cd_reached_states, ct_reached_states, sl_reached_states, rfl, l_reached_states, c_reached_states⟩⟩
  have b_xreached_states := F_reached_states.binds rfl (ps := ["start", "steps"]) fun _ _ _ _ _ _ us hl => match us, hl with | [_, _], _ => rfl
  have F_Hand_init : C8.Fun K "__init__" "Hand.__init__" s_Hand_init f_Hand_init (PySem.W.fnOf "__init__" "Hand.__init__" (C8.fnArgs s_Hand_init) (C8.fnBody s_Hand_init) (C8.fnScope s_Hand_init) .none kV_Hand_init dc_Hand_init pm_Hand_init an_Hand_init cd_Hand_init ct_Hand_init) := ⟨⟨oc_Hand_init, od_Hand_init, .none, kV_Hand_init, dc_Hand_init, pm_Hand_init, an_Hand_init, cd_Hand_init, ct_Hand_init, sl_Hand_init, rfl, l_Hand_init, c_Hand_init⟩⟩
  have b_xHand_init := F_Hand_init.binds rfl (ps := ["self", "start", "steps"]) fun _ _ _ _ _ _ us hl => match us, hl with | [_, _, _], _ => rfl
  have F_checked_hands : C8.Fun K "checked_hands" "checked_hands" s_checked_hands f_checked_hands (PySem.W.fnOf "checked_hands" "checked_hands" (C8.fnArgs s_checked_hands) (C8.fnBody s_checked_hands) (C8.fnScope s_checked_hands) .none kV_checked_hands dc_checked_hands pm_checked_hands an_checked_hands cd_checked_hands ct_checked_hands) := ⟨⟨oc_checked_hands, od_checked_hands, .none, kV_checked_hands, dc_checked_hands, pm_checked_hands, an_checked_hands, cd_checked_hands, ct_checked_hands, sl_checked_hands, rfl, l_checked_hands, c_checked_hands⟩⟩
  have b_xchecked_hands := F_checked_hands.binds rfl (ps := ["hands"]) fun _ _ _ _ _ _ us hl => match us, hl with | [_], _ => rfl
  have F_checked_diligent : C8.Fun K "checked_diligent" "checked_diligent" s_checked_diligent f_checked_diligent (PySem.W.fnOf "checked_diligent" "checked_diligent" (C8.fnArgs s_checked_diligent) (C8.fnBody s_checked_diligent) (C8.fnScope s_checked_diligent) .none kV_checked_diligent dc_checked_diligent pm_checked_diligent an_checked_diligent cd_checked_diligent ct_checked_diligent) := ⟨⟨oc_checked_diligent, od_checked_diligent, .none, kV_checked_diligent, dc_checked_diligent, pm_checked_diligent, an_checked_diligent, cd_checked_diligent, ct_checked_diligent, sl_checked_diligent, rfl, l_checked_diligent, c_checked_diligent⟩⟩
  have b_xchecked_diligent := F_checked_diligent.binds rfl (ps := ["row", "many"]) fun _ _ _ _ _ _ us hl => match us, hl with | [_, _], _ => rfl
  have F_System_init : C8.Fun K "__init__" "System.__init__" s_System_init f_System_init (PySem.W.fnOf "__init__" "System.__init__" (C8.fnArgs s_System_init) (C8.fnBody s_System_init) (C8.fnScope s_System_init) (.ref TD) kV_System_init dc_System_init pm_System_init an_System_init cd_System_init ct_System_init) := ⟨⟨oc_System_init, od_System_init, (.ref TD), kV_System_init, dc_System_init, pm_System_init, an_System_init, cd_System_init, ct_System_init, sl_System_init, rfl, l_System_init, c_System_init⟩⟩
  have D_System_init : FunD K "__init__" "System.__init__" (C8.fnArgs s_System_init) (C8.fnBody s_System_init) (C8.fnScope s_System_init) [.non] [] f_System_init (PySem.W.fnOf "__init__" "System.__init__" (C8.fnArgs s_System_init) (C8.fnBody s_System_init) (C8.fnScope s_System_init) (.ref TD) kV_System_init dc_System_init pm_System_init an_System_init cd_System_init ct_System_init) :=
    ⟨⟨oc_System_init, od_System_init, .ref TD, kV_System_init, dc_System_init, pm_System_init, an_System_init, cd_System_init, ct_System_init, sl_System_init, rfl, l_System_init, c_System_init, .inr ⟨by simp, TD, _, [Value.none], nT, rfl, lT, by rw [eT], .cons rfl .nil⟩, .inl rfl⟩, k_System_init⟩
  obtain ⟨dsS, vS, bS⟩ := D_System_init.binds1 (ps := ["self", "hands", "diligent"]) 3 1 (by simp) rfl fun _ _ _ _ _ _ _ us its hl hi => match us, hl, its, hi with | [_, _, _], _, [_], _ => ⟨_, rfl, rfl⟩
  have eS := nil_of vS
  subst eS
  have F_law_system : C8.Fun K "_law_system" "_law_system" s_law_system f_law_system (PySem.W.fnOf "_law_system" "_law_system" (C8.fnArgs s_law_system) (C8.fnBody s_law_system) (C8.fnScope s_law_system) .none kV_law_system dc_law_system pm_law_system an_law_system cd_law_system ct_law_system) := ⟨⟨oc_law_system, od_law_system, .none, kV_law_system, dc_law_system, pm_law_system, an_law_system, cd_law_system, ct_law_system, sl_law_system, rfl, l_law_system, c_law_system⟩⟩
  have b_xlaw_system := F_law_system.binds rfl (ps := ["hands", "diligent"]) fun _ _ _ _ _ _ us hl => match us, hl with | [_, _], _ => rfl
  have F_law_words : C8.Fun K "_law_words" "_law_words" s_law_words f_law_words (PySem.W.fnOf "_law_words" "_law_words" (C8.fnArgs s_law_words) (C8.fnBody s_law_words) (C8.fnScope s_law_words) .none kV_law_words dc_law_words pm_law_words an_law_words cd_law_words ct_law_words) := ⟨⟨oc_law_words, od_law_words, .none, kV_law_words, dc_law_words, pm_law_words, an_law_words, cd_law_words, ct_law_words, sl_law_words, rfl, l_law_words, c_law_words⟩⟩
  have b_xlaw_words := F_law_words.binds rfl (ps := ["hands"]) fun _ _ _ _ _ _ us hl => match us, hl with | [_], _ => rfl
  have F_law_numbers : C8.Fun K "_law_numbers" "_law_numbers" s_law_numbers f_law_numbers (PySem.W.fnOf "_law_numbers" "_law_numbers" (C8.fnArgs s_law_numbers) (C8.fnBody s_law_numbers) (C8.fnScope s_law_numbers) .none kV_law_numbers dc_law_numbers pm_law_numbers an_law_numbers cd_law_numbers ct_law_numbers) := ⟨⟨oc_law_numbers, od_law_numbers, .none, kV_law_numbers, dc_law_numbers, pm_law_numbers, an_law_numbers, cd_law_numbers, ct_law_numbers, sl_law_numbers, rfl, l_law_numbers, c_law_numbers⟩⟩
  have b_xlaw_numbers := F_law_numbers.binds rfl (ps := ["hand", "state", "word"]) fun _ _ _ _ _ _ us hl => match us, hl with | [_, _, _], _ => rfl
  have F_law_behind : C8.Fun K "_law_behind" "_law_behind" s_law_behind f_law_behind (PySem.W.fnOf "_law_behind" "_law_behind" (C8.fnArgs s_law_behind) (C8.fnBody s_law_behind) (C8.fnScope s_law_behind) .none kV_law_behind dc_law_behind pm_law_behind an_law_behind cd_law_behind ct_law_behind) := ⟨⟨oc_law_behind, od_law_behind, .none, kV_law_behind, dc_law_behind, pm_law_behind, an_law_behind, cd_law_behind, ct_law_behind, sl_law_behind, rfl, l_law_behind, c_law_behind⟩⟩
  have b_xlaw_behind := F_law_behind.binds rfl (ps := ["hands", "states", "move"]) fun _ _ _ _ _ _ us hl => match us, hl with | [_, _, _], _ => rfl
  have F_law_ways : C8.Fun K "_law_ways" "_law_ways" s_law_ways f_law_ways (PySem.W.fnOf "_law_ways" "_law_ways" (C8.fnArgs s_law_ways) (C8.fnBody s_law_ways) (C8.fnScope s_law_ways) .none kV_law_ways dc_law_ways pm_law_ways an_law_ways cd_law_ways ct_law_ways) := ⟨⟨oc_law_ways, od_law_ways, .none, kV_law_ways, dc_law_ways, pm_law_ways, an_law_ways, cd_law_ways, ct_law_ways, sl_law_ways, rfl, l_law_ways, c_law_ways⟩⟩
  have b_xlaw_ways := F_law_ways.binds rfl (ps := ["hands", "ground", "states"]) fun _ _ _ _ _ _ us hl => match us, hl with | [_, _, _], _ => rfl
  have F_law_rove : C8.Fun K "_law_rove" "_law_rove" s_law_rove f_law_rove (PySem.W.fnOf "_law_rove" "_law_rove" (C8.fnArgs s_law_rove) (C8.fnBody s_law_rove) (C8.fnScope s_law_rove) .none kV_law_rove dc_law_rove pm_law_rove an_law_rove cd_law_rove ct_law_rove) := ⟨⟨oc_law_rove, od_law_rove, .none, kV_law_rove, dc_law_rove, pm_law_rove, an_law_rove, cd_law_rove, ct_law_rove, sl_law_rove, rfl, l_law_rove, c_law_rove⟩⟩
  have b_xlaw_rove := F_law_rove.binds rfl (ps := ["script", "first", "last", "hands", "ground"]) fun _ _ _ _ _ _ us hl => match us, hl with | [_, _, _, _, _], _ => rfl
  have F_law_cut : C8.Fun K "_law_cut" "_law_cut" s_law_cut f_law_cut (PySem.W.fnOf "_law_cut" "_law_cut" (C8.fnArgs s_law_cut) (C8.fnBody s_law_cut) (C8.fnScope s_law_cut) .none kV_law_cut dc_law_cut pm_law_cut an_law_cut cd_law_cut ct_law_cut) := ⟨⟨oc_law_cut, od_law_cut, .none, kV_law_cut, dc_law_cut, pm_law_cut, an_law_cut, cd_law_cut, ct_law_cut, sl_law_cut, rfl, l_law_cut, c_law_cut⟩⟩
  have b_xlaw_cut := F_law_cut.binds rfl (ps := ["state", "rows"]) fun _ _ _ _ _ _ us hl => match us, hl with | [_, _], _ => rfl
  have F_law_keen : C8.Fun K "_law_keen" "_law_keen" s_law_keen f_law_keen (PySem.W.fnOf "_law_keen" "_law_keen" (C8.fnArgs s_law_keen) (C8.fnBody s_law_keen) (C8.fnScope s_law_keen) .none kV_law_keen dc_law_keen pm_law_keen an_law_keen cd_law_keen ct_law_keen) := ⟨⟨oc_law_keen, od_law_keen, .none, kV_law_keen, dc_law_keen, pm_law_keen, an_law_keen, cd_law_keen, ct_law_keen, sl_law_keen, rfl, l_law_keen, c_law_keen⟩⟩
  have b_xlaw_keen := F_law_keen.binds rfl (ps := ["state", "many"]) fun _ _ _ _ _ _ us hl => match us, hl with | [_, _], _ => rfl
  have F_law_whole : C8.Fun K "_law_whole" "_law_whole" s_law_whole f_law_whole (PySem.W.fnOf "_law_whole" "_law_whole" (C8.fnArgs s_law_whole) (C8.fnBody s_law_whole) (C8.fnScope s_law_whole) .none kV_law_whole dc_law_whole pm_law_whole an_law_whole cd_law_whole ct_law_whole) := ⟨⟨oc_law_whole, od_law_whole, .none, kV_law_whole, dc_law_whole, pm_law_whole, an_law_whole, cd_law_whole, ct_law_whole, sl_law_whole, rfl, l_law_whole, c_law_whole⟩⟩
  have b_xlaw_whole := F_law_whole.binds rfl (ps := ["thing"]) fun _ _ _ _ _ _ us hl => match us, hl with | [_], _ => rfl
  have F_law_is_move : C8.Fun K "_law_is_move" "_law_is_move" s_law_is_move f_law_is_move (PySem.W.fnOf "_law_is_move" "_law_is_move" (C8.fnArgs s_law_is_move) (C8.fnBody s_law_is_move) (C8.fnScope s_law_is_move) .none kV_law_is_move dc_law_is_move pm_law_is_move an_law_is_move cd_law_is_move ct_law_is_move) := ⟨⟨oc_law_is_move, od_law_is_move, .none, kV_law_is_move, dc_law_is_move, pm_law_is_move, an_law_is_move, cd_law_is_move, ct_law_is_move, sl_law_is_move, rfl, l_law_is_move, c_law_is_move⟩⟩
  have b_xlaw_is_move := F_law_is_move.binds rfl (ps := ["hands", "ground", "states", "thing"]) fun _ _ _ _ _ _ us hl => match us, hl with | [_, _, _, _], _ => rfl
  have F_law_passed : C8.Fun K "_law_passed" "_law_passed" s_law_passed f_law_passed (PySem.W.fnOf "_law_passed" "_law_passed" (C8.fnArgs s_law_passed) (C8.fnBody s_law_passed) (C8.fnScope s_law_passed) .none kV_law_passed dc_law_passed pm_law_passed an_law_passed cd_law_passed ct_law_passed) := ⟨⟨oc_law_passed, od_law_passed, .none, kV_law_passed, dc_law_passed, pm_law_passed, an_law_passed, cd_law_passed, ct_law_passed, sl_law_passed, rfl, l_law_passed, c_law_passed⟩⟩
  have b_xlaw_passed := F_law_passed.binds rfl (ps := ["hands", "ground", "moves"]) fun _ _ _ _ _ _ us hl => match us, hl with | [_, _, _], _ => rfl
  have F_law_able : C8.Fun K "_law_able" "_law_able" s_law_able f_law_able (PySem.W.fnOf "_law_able" "_law_able" (C8.fnArgs s_law_able) (C8.fnBody s_law_able) (C8.fnScope s_law_able) .none kV_law_able dc_law_able pm_law_able an_law_able cd_law_able ct_law_able) := ⟨⟨oc_law_able, od_law_able, .none, kV_law_able, dc_law_able, pm_law_able, an_law_able, cd_law_able, ct_law_able, sl_law_able, rfl, l_law_able, c_law_able⟩⟩
  have b_xlaw_able := F_law_able.binds rfl (ps := ["hands", "ground", "states", "hand"]) fun _ _ _ _ _ _ us hl => match us, hl with | [_, _, _, _], _ => rfl
  have F_law_keenly_fair : C8.Fun K "_law_keenly_fair" "_law_keenly_fair" s_law_keenly_fair f_law_keenly_fair (PySem.W.fnOf "_law_keenly_fair" "_law_keenly_fair" (C8.fnArgs s_law_keenly_fair) (C8.fnBody s_law_keenly_fair) (C8.fnScope s_law_keenly_fair) .none kV_law_keenly_fair dc_law_keenly_fair pm_law_keenly_fair an_law_keenly_fair cd_law_keenly_fair ct_law_keenly_fair) := ⟨⟨oc_law_keenly_fair, od_law_keenly_fair, .none, kV_law_keenly_fair, dc_law_keenly_fair, pm_law_keenly_fair, an_law_keenly_fair, cd_law_keenly_fair, ct_law_keenly_fair, sl_law_keenly_fair, rfl, l_law_keenly_fair, c_law_keenly_fair⟩⟩
  have b_xlaw_keenly_fair := F_law_keenly_fair.binds rfl (ps := ["hands", "ground", "diligent", "keen", "stem", "loop"]) fun _ _ _ _ _ _ us hl => match us, hl with | [_, _, _, _, _, _], _ => rfl
  have F_step_numbers : C8.Fun K "step_numbers" "step_numbers" s_step_numbers f_step_numbers (PySem.W.fnOf "step_numbers" "step_numbers" (C8.fnArgs s_step_numbers) (C8.fnBody s_step_numbers) (C8.fnScope s_step_numbers) .none kV_step_numbers dc_step_numbers pm_step_numbers an_step_numbers cd_step_numbers ct_step_numbers) := ⟨⟨oc_step_numbers, od_step_numbers, .none, kV_step_numbers, dc_step_numbers, pm_step_numbers, an_step_numbers, cd_step_numbers, ct_step_numbers, sl_step_numbers, rfl, l_step_numbers, c_step_numbers⟩⟩
  have b_xstep_numbers := F_step_numbers.binds rfl (ps := ["hand", "state", "word"]) fun _ _ _ _ _ _ us hl => match us, hl with | [_, _, _], _ => rfl
  have F_is_move : C8.Fun K "is_move" "is_move" s_is_move f_is_move (PySem.W.fnOf "is_move" "is_move" (C8.fnArgs s_is_move) (C8.fnBody s_is_move) (C8.fnScope s_is_move) .none kV_is_move dc_is_move pm_is_move an_is_move cd_is_move ct_is_move) := ⟨⟨oc_is_move, od_is_move, .none, kV_is_move, dc_is_move, pm_is_move, an_is_move, cd_is_move, ct_is_move, sl_is_move, rfl, l_is_move, c_is_move⟩⟩
  have b_xis_move := F_is_move.binds rfl (ps := ["system", "states", "move"]) fun _ _ _ _ _ _ us hl => match us, hl with | [_, _, _], _ => rfl
  have F_led_to : C8.Fun K "led_to" "led_to" s_led_to f_led_to (PySem.W.fnOf "led_to" "led_to" (C8.fnArgs s_led_to) (C8.fnBody s_led_to) (C8.fnScope s_led_to) .none kV_led_to dc_led_to pm_led_to an_led_to cd_led_to ct_led_to) := ⟨⟨oc_led_to, od_led_to, .none, kV_led_to, dc_led_to, pm_led_to, an_led_to, cd_led_to, ct_led_to, sl_led_to, rfl, l_led_to, c_led_to⟩⟩
  have b_xled_to := F_led_to.binds rfl (ps := ["system", "states", "move"]) fun _ _ _ _ _ _ us hl => match us, hl with | [_, _, _], _ => rfl
  have F_walked : C8.Fun K "walked" "walked" s_walked f_walked (PySem.W.fnOf "walked" "walked" (C8.fnArgs s_walked) (C8.fnBody s_walked) (C8.fnScope s_walked) .none kV_walked dc_walked pm_walked an_walked cd_walked ct_walked) := ⟨⟨oc_walked, od_walked, .none, kV_walked, dc_walked, pm_walked, an_walked, cd_walked, ct_walked, sl_walked, rfl, l_walked, c_walked⟩⟩
  have b_xwalked := F_walked.binds rfl (ps := ["system", "run"]) fun _ _ _ _ _ _ us hl => match us, hl with | [_, _], _ => rfl
  have F_check_standing : C8.Fun K "check_standing" "check_standing" s_check_standing f_check_standing (PySem.W.fnOf "check_standing" "check_standing" (C8.fnArgs s_check_standing) (C8.fnBody s_check_standing) (C8.fnScope s_check_standing) .none kV_check_standing dc_check_standing pm_check_standing an_check_standing cd_check_standing ct_check_standing) := ⟨⟨oc_check_standing, od_check_standing, .none, kV_check_standing, dc_check_standing, pm_check_standing, an_check_standing, cd_check_standing, ct_check_standing, sl_check_standing, rfl, l_check_standing, c_check_standing⟩⟩
  have b_xcheck_standing := F_check_standing.binds rfl (ps := ["system", "states"]) fun _ _ _ _ _ _ us hl => match us, hl with | [_, _], _ => rfl
  have F_System_able : C8.Fun K "able" "System.able" s_System_able f_System_able (PySem.W.fnOf "able" "System.able" (C8.fnArgs s_System_able) (C8.fnBody s_System_able) (C8.fnScope s_System_able) .none kV_System_able dc_System_able pm_System_able an_System_able cd_System_able ct_System_able) := ⟨⟨oc_System_able, od_System_able, .none, kV_System_able, dc_System_able, pm_System_able, an_System_able, cd_System_able, ct_System_able, sl_System_able, rfl, l_System_able, c_System_able⟩⟩
  have b_xSystem_able := F_System_able.binds rfl (ps := ["self", "states"]) fun _ _ _ _ _ _ us hl => match us, hl with | [_, _], _ => rfl
  have F_always_able : C8.Fun K "always_able" "always_able" s_always_able f_always_able (PySem.W.fnOf "always_able" "always_able" (C8.fnArgs s_always_able) (C8.fnBody s_always_able) (C8.fnScope s_always_able) .none kV_always_able dc_always_able pm_always_able an_always_able cd_always_able ct_always_able) := ⟨⟨oc_always_able, od_always_able, .none, kV_always_able, dc_always_able, pm_always_able, an_always_able, cd_always_able, ct_always_able, sl_always_able, rfl, l_always_able, c_always_able⟩⟩
  have b_xalways_able := F_always_able.binds rfl (ps := ["system", "places", "hand"]) fun _ _ _ _ _ _ us hl => match us, hl with | [_, _, _], _ => rfl
  have F_takes_along : C8.Fun K "takes_along" "takes_along" s_takes_along f_takes_along (PySem.W.fnOf "takes_along" "takes_along" (C8.fnArgs s_takes_along) (C8.fnBody s_takes_along) (C8.fnScope s_takes_along) .none kV_takes_along dc_takes_along pm_takes_along an_takes_along cd_takes_along ct_takes_along) := ⟨⟨oc_takes_along, od_takes_along, .none, kV_takes_along, dc_takes_along, pm_takes_along, an_takes_along, cd_takes_along, ct_takes_along, sl_takes_along, rfl, l_takes_along, c_takes_along⟩⟩
  have b_xtakes_along := F_takes_along.binds rfl (ps := ["moves", "hand"]) fun _ _ _ _ _ _ us hl => match us, hl with | [_, _], _ => rfl
  have F_is_fair : C8.Fun K "is_fair" "is_fair" s_is_fair f_is_fair (PySem.W.fnOf "is_fair" "is_fair" (C8.fnArgs s_is_fair) (C8.fnBody s_is_fair) (C8.fnScope s_is_fair) .none kV_is_fair dc_is_fair pm_is_fair an_is_fair cd_is_fair ct_is_fair) := ⟨⟨oc_is_fair, od_is_fair, .none, kV_is_fair, dc_is_fair, pm_is_fair, an_is_fair, cd_is_fair, ct_is_fair, sl_is_fair, rfl, l_is_fair, c_is_fair⟩⟩
  have b_xis_fair := F_is_fair.binds rfl (ps := ["system", "stem", "loop"]) fun _ _ _ _ _ _ us hl => match us, hl with | [_, _, _], _ => rfl
  have F_able_somewhere : C8.Fun K "able_somewhere" "able_somewhere" s_able_somewhere f_able_somewhere (PySem.W.fnOf "able_somewhere" "able_somewhere" (C8.fnArgs s_able_somewhere) (C8.fnBody s_able_somewhere) (C8.fnScope s_able_somewhere) .none kV_able_somewhere dc_able_somewhere pm_able_somewhere an_able_somewhere cd_able_somewhere ct_able_somewhere) := ⟨⟨oc_able_somewhere, od_able_somewhere, .none, kV_able_somewhere, dc_able_somewhere, pm_able_somewhere, an_able_somewhere, cd_able_somewhere, ct_able_somewhere, sl_able_somewhere, rfl, l_able_somewhere, c_able_somewhere⟩⟩
  have b_xable_somewhere := F_able_somewhere.binds rfl (ps := ["system", "places", "hand"]) fun _ _ _ _ _ _ us hl => match us, hl with | [_, _, _], _ => rfl
  have F_either : C8.Fun K "either" "either" s_either f_either (PySem.W.fnOf "either" "either" (C8.fnArgs s_either) (C8.fnBody s_either) (C8.fnScope s_either) .none kV_either dc_either pm_either an_either cd_either ct_either) := ⟨⟨oc_either, od_either, .none, kV_either, dc_either, pm_either, an_either, cd_either, ct_either, sl_either, rfl, l_either, c_either⟩⟩
  have b_xeither := F_either.binds rfl (ps := ["diligent", "keen"]) fun _ _ _ _ _ _ us hl => match us, hl with | [_, _], _ => rfl
  have F_System_with_diligent : C8.Fun K "with_diligent" "System.with_diligent" s_System_with_diligent f_System_with_diligent (PySem.W.fnOf "with_diligent" "System.with_diligent" (C8.fnArgs s_System_with_diligent) (C8.fnBody s_System_with_diligent) (C8.fnScope s_System_with_diligent) .none kV_System_with_diligent dc_System_with_diligent pm_System_with_diligent an_System_with_diligent cd_System_with_diligent ct_System_with_diligent) := ⟨⟨oc_System_with_diligent, od_System_with_diligent, .none, kV_System_with_diligent, dc_System_with_diligent, pm_System_with_diligent, an_System_with_diligent, cd_System_with_diligent, ct_System_with_diligent, sl_System_with_diligent, rfl, l_System_with_diligent, c_System_with_diligent⟩⟩
  have b_xSystem_with_diligent := F_System_with_diligent.binds rfl (ps := ["self", "row"]) fun _ _ _ _ _ _ us hl => match us, hl with | [_, _], _ => rfl
  have F_is_keenly_fair : C8.Fun K "is_keenly_fair" "is_keenly_fair" s_is_keenly_fair f_is_keenly_fair (PySem.W.fnOf "is_keenly_fair" "is_keenly_fair" (C8.fnArgs s_is_keenly_fair) (C8.fnBody s_is_keenly_fair) (C8.fnScope s_is_keenly_fair) .none kV_is_keenly_fair dc_is_keenly_fair pm_is_keenly_fair an_is_keenly_fair cd_is_keenly_fair ct_is_keenly_fair) := ⟨⟨oc_is_keenly_fair, od_is_keenly_fair, .none, kV_is_keenly_fair, dc_is_keenly_fair, pm_is_keenly_fair, an_is_keenly_fair, cd_is_keenly_fair, ct_is_keenly_fair, sl_is_keenly_fair, rfl, l_is_keenly_fair, c_is_keenly_fair⟩⟩
  have b_xis_keenly_fair := F_is_keenly_fair.binds rfl (ps := ["system", "keen", "stem", "loop"]) fun _ _ _ _ _ _ us hl => match us, hl with | [_, _, _, _], _ => rfl
  have F_law_told : C8.Fun K "_law_told" "_law_told" s_law_told f_law_told (PySem.W.fnOf "_law_told" "_law_told" (C8.fnArgs s_law_told) (C8.fnBody s_law_told) (C8.fnScope s_law_told) .none kV_law_told dc_law_told pm_law_told an_law_told cd_law_told ct_law_told) := ⟨⟨oc_law_told, od_law_told, .none, kV_law_told, dc_law_told, pm_law_told, an_law_told, cd_law_told, ct_law_told, sl_law_told, rfl, l_law_told, c_law_told⟩⟩
  have b_xlaw_told := F_law_told.binds rfl (ps := ["system", "keen", "stem", "loop", "due"]) fun _ _ _ _ _ _ us hl => match us, hl with | [_, _, _, _, _], _ => rfl
  have F_law_written_otherwise : C8.Fun K "_law_written_otherwise" "_law_written_otherwise" s_law_written_otherwise f_law_written_otherwise (PySem.W.fnOf "_law_written_otherwise" "_law_written_otherwise" (C8.fnArgs s_law_written_otherwise) (C8.fnBody s_law_written_otherwise) (C8.fnScope s_law_written_otherwise) .none kV_law_written_otherwise dc_law_written_otherwise pm_law_written_otherwise an_law_written_otherwise cd_law_written_otherwise ct_law_written_otherwise) := ⟨⟨oc_law_written_otherwise, od_law_written_otherwise, .none, kV_law_written_otherwise, dc_law_written_otherwise, pm_law_written_otherwise, an_law_written_otherwise, cd_law_written_otherwise, ct_law_written_otherwise, sl_law_written_otherwise, rfl, l_law_written_otherwise, c_law_written_otherwise⟩⟩
  have b_xlaw_written_otherwise := F_law_written_otherwise.binds rfl (ps := ["state", "system", "keen", "stem", "loop", "due"]) fun _ _ _ _ _ _ us hl => match us, hl with | [_, _, _, _, _, _], _ => rfl
  have F_System_started_at : C8.Fun K "started_at" "System.started_at" s_System_started_at f_System_started_at (PySem.W.fnOf "started_at" "System.started_at" (C8.fnArgs s_System_started_at) (C8.fnBody s_System_started_at) (C8.fnScope s_System_started_at) .none kV_System_started_at dc_System_started_at pm_System_started_at an_System_started_at cd_System_started_at ct_System_started_at) := ⟨⟨oc_System_started_at, od_System_started_at, .none, kV_System_started_at, dc_System_started_at, pm_System_started_at, an_System_started_at, cd_System_started_at, ct_System_started_at, sl_System_started_at, rfl, l_System_started_at, c_System_started_at⟩⟩
  have b_xSystem_started_at := F_System_started_at.binds rfl (ps := ["self", "states"]) fun _ _ _ _ _ _ us hl => match us, hl with | [_, _], _ => rfl
  have F_law_other_systems : C8.Fun K "_law_other_systems" "_law_other_systems" s_law_other_systems f_law_other_systems (PySem.W.fnOf "_law_other_systems" "_law_other_systems" (C8.fnArgs s_law_other_systems) (C8.fnBody s_law_other_systems) (C8.fnScope s_law_other_systems) .none kV_law_other_systems dc_law_other_systems pm_law_other_systems an_law_other_systems cd_law_other_systems ct_law_other_systems) := ⟨⟨oc_law_other_systems, od_law_other_systems, .none, kV_law_other_systems, dc_law_other_systems, pm_law_other_systems, an_law_other_systems, cd_law_other_systems, ct_law_other_systems, sl_law_other_systems, rfl, l_law_other_systems, c_law_other_systems⟩⟩
  have b_xlaw_other_systems := F_law_other_systems.binds rfl (ps := ["system", "keen", "stem", "loop", "behind", "due"]) fun _ _ _ _ _ _ us hl => match us, hl with | [_, _, _, _, _, _], _ => rfl
  have F_law_hand_by_hand : C8.Fun K "_law_hand_by_hand" "_law_hand_by_hand" s_law_hand_by_hand f_law_hand_by_hand (PySem.W.fnOf "_law_hand_by_hand" "_law_hand_by_hand" (C8.fnArgs s_law_hand_by_hand) (C8.fnBody s_law_hand_by_hand) (C8.fnScope s_law_hand_by_hand) .none kV_law_hand_by_hand dc_law_hand_by_hand pm_law_hand_by_hand an_law_hand_by_hand cd_law_hand_by_hand ct_law_hand_by_hand) := ⟨⟨oc_law_hand_by_hand, od_law_hand_by_hand, .none, kV_law_hand_by_hand, dc_law_hand_by_hand, pm_law_hand_by_hand, an_law_hand_by_hand, cd_law_hand_by_hand, ct_law_hand_by_hand, sl_law_hand_by_hand, rfl, l_law_hand_by_hand, c_law_hand_by_hand⟩⟩
  have b_xlaw_hand_by_hand := F_law_hand_by_hand.binds rfl (ps := ["state", "system", "keen", "stem", "loop", "due"]) fun _ _ _ _ _ _ us hl => match us, hl with | [_, _, _, _, _, _], _ => rfl
  have F_Hand_eq : C8.Fun K "__eq__" "Hand.__eq__" s_Hand_eq f_Hand_eq (PySem.W.fnOf "__eq__" "Hand.__eq__" (C8.fnArgs s_Hand_eq) (C8.fnBody s_Hand_eq) (C8.fnScope s_Hand_eq) .none kV_Hand_eq dc_Hand_eq pm_Hand_eq an_Hand_eq cd_Hand_eq ct_Hand_eq) := ⟨⟨oc_Hand_eq, od_Hand_eq, .none, kV_Hand_eq, dc_Hand_eq, pm_Hand_eq, an_Hand_eq, cd_Hand_eq, ct_Hand_eq, sl_Hand_eq, rfl, l_Hand_eq, c_Hand_eq⟩⟩
  have b_xHand_eq := F_Hand_eq.binds rfl (ps := ["self", "other"]) fun _ _ _ _ _ _ us hl => match us, hl with | [_, _], _ => rfl
  have F_System_eq : C8.Fun K "__eq__" "System.__eq__" s_System_eq f_System_eq (PySem.W.fnOf "__eq__" "System.__eq__" (C8.fnArgs s_System_eq) (C8.fnBody s_System_eq) (C8.fnScope s_System_eq) .none kV_System_eq dc_System_eq pm_System_eq an_System_eq cd_System_eq ct_System_eq) := ⟨⟨oc_System_eq, od_System_eq, .none, kV_System_eq, dc_System_eq, pm_System_eq, an_System_eq, cd_System_eq, ct_System_eq, sl_System_eq, rfl, l_System_eq, c_System_eq⟩⟩
  have b_xSystem_eq := F_System_eq.binds rfl (ps := ["self", "other"]) fun _ _ _ _ _ _ us hl => match us, hl with | [_, _], _ => rfl
  have F_law : C8.Fun K "law" "law" s_law f_law (PySem.W.fnOf "law" "law" (C8.fnArgs s_law) (C8.fnBody s_law) (C8.fnScope s_law) .none kV_law dc_law pm_law an_law cd_law ct_law) := ⟨⟨oc_law, od_law, .none, kV_law, dc_law, pm_law, an_law, cd_law, ct_law, sl_law, rfl, l_law, c_law⟩⟩
  have b_xlaw := F_law.binds rfl (ps := ["script"]) fun _ _ _ _ _ _ us hl => match us, hl with | [_], _ => rfl
  refine ⟨PySem.W.fnOf "law" "law" (C8.fnArgs s_law) (C8.fnBody s_law) (C8.fnScope s_law) .none kV_law dc_law pm_law an_law cd_law ct_law, fun s v => .of_eq rfl, fun base _ _ => ?_⟩
  have j_law_open : C8.Cal P w K mg base 1 "_law_open" (spC K cOpen) [] := cal_ok ⟨F_law_open, PySem.W.mg_of X G a_law_open, k_law_open⟩ b_xlaw_open S_law_open (len_law_open) (b_law_open T)
  have j_law_draw : C8.Cal P w K mg base 1 "_law_draw" (spC K cDraw) [] := cal_ok ⟨F_law_draw, PySem.W.mg_of X G a_law_draw, k_law_draw⟩ b_xlaw_draw S_law_draw (len_law_draw) (b_law_draw T)
  have j_law_name : C8.Cal P w K mg base 2 "_law_name" (spC K cName) [] := cal_ok ⟨F_law_name, PySem.W.mg_of X G a_law_name, k_law_name⟩ b_xlaw_name S_law_name (len_law_name) (b_law_name T j_law_draw)
  have j_law_names : C8.Cal P w K mg base 3 "_law_names" (spC K cNames) [] := cal_ok ⟨F_law_names, PySem.W.mg_of X G a_law_names, k_law_names⟩ b_xlaw_names S_law_names (len_law_names) (b_law_names T j_law_name)
  have j_law_states : C8.Cal P w K mg base 2 "_law_states" (spC K cStates) [] := cal_ok ⟨F_law_states, PySem.W.mg_of X G a_law_states, k_law_states⟩ b_xlaw_states S_law_states (len_law_states) (b_law_states T j_law_draw)
  have j_law_hand : C8.Cal P w K mg base 3 "_law_hand" (spC K cLHand) [] := cal_ok ⟨F_law_hand, PySem.W.mg_of X G a_law_hand, k_law_hand⟩ b_xlaw_hand S_law_hand (len_law_hand) (b_law_hand T j_law_draw j_law_states)
  have j_law_plan : C8.Cal P w K mg base 4 "_law_plan" (spC K cPlan) [] := cal_ok ⟨F_law_plan, PySem.W.mg_of X G a_law_plan, k_law_plan⟩ b_xlaw_plan S_law_plan (len_law_plan) (b_law_plan T j_law_open j_law_draw j_law_names j_law_hand)
  have j_is_integer : C8.Cal P w K mg base 1 "is_integer" (spC K cIsInt) [] := cal_ok ⟨F_is_integer, PySem.W.mg_of X G a_is_integer, k_is_integer⟩ b_xis_integer S_is_integer (len_is_integer) (b_is_integer T)
  have j_is_state : C8.Cal P w K mg base 2 "is_state" (spC K cIsState) [] := cal_ok ⟨F_is_state, PySem.W.mg_of X G a_is_state, k_is_state⟩ b_xis_state S_is_state (len_is_state) (b_is_state T j_is_integer)
  have j_is_row : C8.Cal P w K mg base 1 "is_row" (spC K cIsRow) [] := cal_ok ⟨F_is_row, PySem.W.mg_of X G a_is_row, k_is_row⟩ b_xis_row S_is_row (len_is_row) (b_is_row T)
  have j_is_name : C8.Cal P w K mg base 2 "is_name" (spC K cIsName) [] := cal_ok ⟨F_is_name, PySem.W.mg_of X G a_is_name, k_is_name⟩ b_xis_name S_is_name (len_is_name) (b_is_name T g_LETTERS)
  have j_is_step : C8.Cal P w K mg base 3 "is_step" (spC K cIsStep) [] := cal_ok ⟨F_is_step, PySem.W.mg_of X G a_is_step, k_is_step⟩ b_xis_step S_is_step (len_is_step) (b_is_step T j_is_state j_is_name)
  have j_leaving : C8.Cal P w K mg base 1 "leaving" (spC K cLeaving) [] := cal_ok ⟨F_leaving, PySem.W.mg_of X G a_leaving, k_leaving⟩ b_xleaving S_leaving (len_leaving) (b_leaving T)
  have j_checked_steps : C8.Cal P w K mg base 4 "checked_steps" (spC K cChkSteps) [] := cal_ok ⟨F_checked_steps, PySem.W.mg_of X G a_checked_steps, k_checked_steps⟩ b_xchecked_steps S_checked_steps (len_checked_steps) (b_checked_steps T g_MOST_STEPS g_MOST_LEAVING j_is_row j_is_step j_leaving)
  have j_reached_states : C8.Cal P w K mg base 1 "reached_states" (spC K cReached) [] := cal_ok ⟨F_reached_states, PySem.W.mg_of X G a_reached_states, k_reached_states⟩ b_xreached_states S_reached_states (len_reached_states) (b_reached_states T)
  have j_Hand_init : C8.Mak P w K mg base 5 "Hand" CH (spC K (cHandInit CH)) [] := mak_ok ⟨mk_CH, a_Hand_init, i_Hand_init, kc_CH⟩ (PySem.W.mg_of X G a_Hand) F_Hand_init b_xHand_init S_Hand_init (len_Hand_init (CH := CH)) (b_Hand_init T HH g_MOST_WORDS_hands g_MOST_STATES j_is_state j_checked_steps j_reached_states)
  have j_checked_hands : C8.Cal P w K mg base 2 "checked_hands" (spC K (cChkHands CH)) [] := cal_ok ⟨F_checked_hands, PySem.W.mg_of X G a_checked_hands, k_checked_hands⟩ b_xchecked_hands S_checked_hands (len_checked_hands (CH := CH)) (b_checked_hands T HH g_MOST_HANDS j_is_row)
  have j_checked_diligent : C8.Cal P w K mg base 2 "checked_diligent" (spC K cChkDil) [] := cal_ok ⟨F_checked_diligent, PySem.W.mg_of X G a_checked_diligent, k_checked_diligent⟩ b_xchecked_diligent S_checked_diligent (len_checked_diligent) (b_checked_diligent T j_is_row j_is_integer)
  have j_System_init : C8.Mak P w K mg base 3 "System" CS (spC K (cSysInit CH CS)) [] := mak_ok ⟨mk_CS, a_System_init, i_System_init, kc_CS⟩ (PySem.W.mg_of X G a_System) F_System_init bS S_System_init (len_System_init (CH := CH) (CS := CS)) (b_System_init T HH SS g_MOST_WORDS_systems j_checked_hands j_checked_diligent)
  have j_law_system : C8.Cal P w K mg base 7 "_law_system" (spC K (cLSys CH CS)) [] := cal_ok ⟨F_law_system, PySem.W.mg_of X G a_law_system, k_law_system⟩ b_xlaw_system S_law_system (len_law_system (CH := CH) (CS := CS)) (b_law_system T HH SS j_Hand_init j_System_init)
  have j_law_words : C8.Cal P w K mg base 1 "_law_words" (spC K cLWords) [] := cal_ok ⟨F_law_words, PySem.W.mg_of X G a_law_words, k_law_words⟩ b_xlaw_words S_law_words (len_law_words) (b_law_words T)
  have j_law_numbers : C8.Cal P w K mg base 1 "_law_numbers" (spC K cLNum) [] := cal_ok ⟨F_law_numbers, PySem.W.mg_of X G a_law_numbers, k_law_numbers⟩ b_xlaw_numbers S_law_numbers (len_law_numbers) (b_law_numbers T)
  have j_law_behind : C8.Cal P w K mg base 1 "_law_behind" (spC K cLBehind) [] := cal_ok ⟨F_law_behind, PySem.W.mg_of X G a_law_behind, k_law_behind⟩ b_xlaw_behind S_law_behind (len_law_behind) (b_law_behind T)
  have j_law_ways : C8.Cal P w K mg base 2 "_law_ways" (spC K cLWays) [] := cal_ok ⟨F_law_ways, PySem.W.mg_of X G a_law_ways, k_law_ways⟩ b_xlaw_ways S_law_ways (len_law_ways) (b_law_ways T j_law_words j_law_numbers j_law_behind)
  have j_law_rove : C8.Cal P w K mg base 3 "_law_rove" (spC K cRove) [] := cal_ok ⟨F_law_rove, PySem.W.mg_of X G a_law_rove, k_law_rove⟩ b_xlaw_rove S_law_rove (len_law_rove) (b_law_rove T j_law_open j_law_draw j_law_ways)
  have j_law_cut : C8.Cal P w K mg base 2 "_law_cut" (spC K cCut) [] := cal_ok ⟨F_law_cut, PySem.W.mg_of X G a_law_cut, k_law_cut⟩ b_xlaw_cut S_law_cut (len_law_cut) (b_law_cut T j_law_draw)
  have j_law_keen : C8.Cal P w K mg base 2 "_law_keen" (spC K cKeen) [] := cal_ok ⟨F_law_keen, PySem.W.mg_of X G a_law_keen, k_law_keen⟩ b_xlaw_keen S_law_keen (len_law_keen) (b_law_keen T j_law_draw)
  have j_law_whole : C8.Cal P w K mg base 1 "_law_whole" (spC K cWhole) [] := cal_ok ⟨F_law_whole, PySem.W.mg_of X G a_law_whole, k_law_whole⟩ b_xlaw_whole S_law_whole (len_law_whole) (b_law_whole T)
  have j_law_is_move : C8.Cal P w K mg base 3 "_law_is_move" (spC K cLIsMove) [] := cal_ok ⟨F_law_is_move, PySem.W.mg_of X G a_law_is_move, k_law_is_move⟩ b_xlaw_is_move S_law_is_move (len_law_is_move) (b_law_is_move T j_law_whole j_law_ways)
  have j_law_passed : C8.Cal P w K mg base 4 "_law_passed" (spC K cPassed) [] := cal_ok ⟨F_law_passed, PySem.W.mg_of X G a_law_passed, k_law_passed⟩ b_xlaw_passed S_law_passed (len_law_passed) (b_law_passed T j_law_is_move j_law_behind)
  have j_law_able : C8.Cal P w K mg base 3 "_law_able" (spC K cLAble) [] := cal_ok ⟨F_law_able, PySem.W.mg_of X G a_law_able, k_law_able⟩ b_xlaw_able S_law_able (len_law_able) (b_law_able T j_law_ways)
  have j_law_keenly_fair : C8.Cal P w K mg base 5 "_law_keenly_fair" (spC K cLKeenly) [] := cal_ok ⟨F_law_keenly_fair, PySem.W.mg_of X G a_law_keenly_fair, k_law_keenly_fair⟩ b_xlaw_keenly_fair S_law_keenly_fair (len_law_keenly_fair) (b_law_keenly_fair T j_law_passed j_law_able)
  have j_step_numbers : C8.Cal P w K mg base 1 "step_numbers" (spC K (cNums CH)) [] := cal_ok ⟨F_step_numbers, PySem.W.mg_of X G a_step_numbers, k_step_numbers⟩ b_xstep_numbers S_step_numbers (len_step_numbers (CH := CH)) (b_step_numbers T HH)
  have j_is_move : C8.Cal P w K mg base 2 "is_move" (spC K (cIsMove CH CS)) [] := cal_ok ⟨F_is_move, PySem.W.mg_of X G a_is_move, k_is_move⟩ b_xis_move S_is_move (len_is_move (CH := CH) (CS := CS)) (b_is_move T HH SS j_is_integer j_step_numbers)
  have j_led_to : C8.Cal P w K mg base 1 "led_to" (spC K (cLedTo CH CS)) [] := cal_ok ⟨F_led_to, PySem.W.mg_of X G a_led_to, k_led_to⟩ b_xled_to S_led_to (len_led_to (CH := CH) (CS := CS)) (b_led_to T HH SS)
  have j_walked : C8.Cal P w K mg base 3 "walked" (spC K (cWalked CH CS)) [] := cal_ok ⟨F_walked, PySem.W.mg_of X G a_walked, k_walked⟩ b_xwalked S_walked (len_walked (CH := CH) (CS := CS)) (b_walked T SS j_is_move j_led_to)
  have j_check_standing : C8.Cal P w K mg base 2 "check_standing" (spC K (cChkStand CH CS)) [] := cal_ok ⟨F_check_standing, PySem.W.mg_of X G a_check_standing, k_check_standing⟩ b_xcheck_standing S_check_standing (len_check_standing (CH := CH) (CS := CS)) (b_check_standing T HH SS j_is_integer)
  have j_System_able : C8.Met P w K mg base 3 CS "able" (spC K (cAble CH CS)) [] := met_ok cl_CS ⟨a_System_able, i_System_able, k_System_able⟩ F_System_able b_xSystem_able S_System_able (len_System_able (CH := CH) (CS := CS)) (b_System_able T HH SS j_check_standing j_step_numbers)
  have j_always_able : C8.Cal P w K mg base 4 "always_able" (spC K (cAlways CH CS)) [] := cal_ok ⟨F_always_able, PySem.W.mg_of X G a_always_able, k_always_able⟩ b_xalways_able S_always_able (len_always_able (CH := CH) (CS := CS)) (b_always_able T j_System_able)
  have j_takes_along : C8.Cal P w K mg base 1 "takes_along" (spC K cTakes) [] := cal_ok ⟨F_takes_along, PySem.W.mg_of X G a_takes_along, k_takes_along⟩ b_xtakes_along S_takes_along (len_takes_along) (b_takes_along T)
  have j_is_fair : C8.Cal P w K mg base 5 "is_fair" (spC K (cFair CH CS)) [] := cal_ok ⟨F_is_fair, PySem.W.mg_of X G a_is_fair, k_is_fair⟩ b_xis_fair S_is_fair (len_is_fair (CH := CH) (CS := CS)) (b_is_fair T SS j_walked j_always_able j_takes_along)
  have j_able_somewhere : C8.Cal P w K mg base 4 "able_somewhere" (spC K (cSomewhere CH CS)) [] := cal_ok ⟨F_able_somewhere, PySem.W.mg_of X G a_able_somewhere, k_able_somewhere⟩ b_xable_somewhere S_able_somewhere (len_able_somewhere (CH := CH) (CS := CS)) (b_able_somewhere T j_System_able)
  have j_either : C8.Cal P w K mg base 1 "either" (spC K cEither) [] := cal_ok ⟨F_either, PySem.W.mg_of X G a_either, k_either⟩ b_xeither S_either (len_either) (b_either T)
  have j_System_with_diligent : C8.Met P w K mg base 5 CS "with_diligent" (spC K (cWithDil CH CS)) [] := met_ok cl_CS ⟨a_System_with_diligent, i_System_with_diligent, k_System_with_diligent⟩ F_System_with_diligent b_xSystem_with_diligent S_System_with_diligent (len_System_with_diligent (CH := CH) (CS := CS)) (b_System_with_diligent T SS j_System_init)
  have j_is_keenly_fair : C8.Cal P w K mg base 6 "is_keenly_fair" (spC K (cKeenFair CH CS)) [] := cal_ok ⟨F_is_keenly_fair, PySem.W.mg_of X G a_is_keenly_fair, k_is_keenly_fair⟩ b_xis_keenly_fair S_is_keenly_fair (len_is_keenly_fair (CH := CH) (CS := CS)) (b_is_keenly_fair T SS j_checked_diligent j_walked j_is_fair j_takes_along j_able_somewhere j_either j_System_with_diligent)
  have j_law_told : C8.Cal P w K mg base 7 "_law_told" (spC K (cTold CH CS)) [] := cal_ok ⟨F_law_told, PySem.W.mg_of X G a_law_told, k_law_told⟩ b_xlaw_told S_law_told (len_law_told (CH := CH) (CS := CS)) (b_law_told T j_is_keenly_fair)
  have j_law_written_otherwise : C8.Cal P w K mg base 8 "_law_written_otherwise" (spC K (cWritten CH CS)) [] := cal_ok ⟨F_law_written_otherwise, PySem.W.mg_of X G a_law_written_otherwise, k_law_written_otherwise⟩ b_xlaw_written_otherwise S_law_written_otherwise (len_law_written_otherwise (CH := CH) (CS := CS)) (b_law_written_otherwise T j_law_draw j_law_told)
  have j_System_started_at : C8.Met P w K mg base 7 CS "started_at" (spC K (cStartedAt CH CS)) [] := met_ok cl_CS ⟨a_System_started_at, i_System_started_at, k_System_started_at⟩ F_System_started_at b_xSystem_started_at S_System_started_at (len_System_started_at (CH := CH) (CS := CS)) (b_System_started_at T HH SS j_check_standing j_Hand_init j_System_init)
  have j_law_other_systems : C8.Cal P w K mg base 8 "_law_other_systems" (spC K (cOther CH CS)) [] := cal_ok ⟨F_law_other_systems, PySem.W.mg_of X G a_law_other_systems, k_law_other_systems⟩ b_xlaw_other_systems S_law_other_systems (len_law_other_systems (CH := CH) (CS := CS)) (b_law_other_systems T SS j_law_told j_System_started_at j_System_with_diligent j_is_fair)
  have j_law_hand_by_hand : C8.Cal P w K mg base 7 "_law_hand_by_hand" (spC K (cWritten CH CS)) [] := cal_ok ⟨F_law_hand_by_hand, PySem.W.mg_of X G a_law_hand_by_hand, k_law_hand_by_hand⟩ b_xlaw_hand_by_hand S_law_hand_by_hand (len_law_hand_by_hand (CH := CH) (CS := CS)) (b_law_hand_by_hand T j_law_draw j_is_keenly_fair j_is_fair)
  have j_Hand_eq : C8.Met P w K mg base 1 CH "__eq__" (spC K (cHandEq CH)) [] := met_ok cl_CH ⟨a_Hand_eq, i_Hand_eq, k_Hand_eq⟩ F_Hand_eq b_xHand_eq S_Hand_eq (len_Hand_eq (CH := CH)) (b_Hand_eq T HH)
  have j_System_eq : C8.Met P w K mg base 3 CS "__eq__" (spC K (cSysEq CH CS)) [] := met_ok cl_CS ⟨a_System_eq, i_System_eq, k_System_eq⟩ F_System_eq b_xSystem_eq S_System_eq (len_System_eq (CH := CH) (CS := CS)) (b_System_eq T SS j_Hand_eq)
  exact C8.fn0 F_law S_law (len_ct (ps := ["script"]) len_law) (body_to (b_law (CH := CH) (CS := CS) T j_law_plan j_law_system j_law_rove j_law_open j_law_cut j_law_keen j_law_keenly_fair j_law_written_otherwise j_law_other_systems j_law_hand_by_hand j_System_eq))
theorem walk {l : PySem.W.OpenLaw} {q : Program} {loose : List Str} {XP : (Str → Option Value) → Heap → Prop} {YP : World → Heap → Prop} {d : DefRec} {K : Params → PySem.W.Frag} (hn : l.most = some 63) (hdf : d.params.defaults = [])
    (hY : ∀ (w : World) (h : Heap), YP w h → (K w.params).In h)
    (F : ∀ (w : World) (mg : Str → Option Value) (fa : Addr) (h : Heap), (K w.params).In h → h.Ns mainGlobals mg → mg d.name = some (.ref fa) →
      ∃ fd : FuncData, (∀ (s : Shared) (u : Value), BindsTo s fd ⟨[u], []⟩ [("script", u)]) ∧ ∀ base : Heap, (K w.params).In base → base.Ns mainGlobals mg → FnOk l.prog w (K w.params) mg base C8.CX0 9 fa fd ["script"] (spL (K w.params))) :
    PySem.W.WalkO q loose XP YP l.row.toRowW d [] (fun f vs => PySem.call f vs) := by
  refine L2.walk_of (n := 63) (k := 9) (x := "script") (CX := fun _ => C8.CX0) (sp := fun w => spL (K w.params)) hn (by decide) hdf ⟨rfl, by decide, by decide⟩ hY F (fun w H a ns hl _ hS => ?_) fun _ _ _ _ _ z => z
  refine ⟨H, fun _ => none, [.scr ns], fun d _ => d = .bl true, .cons (.scr hS) .nil, ⟨fun _ _ z => z, fun _ _ z => by cases z⟩, ⟨ns, rfl, hl, rfl⟩, fun F' O' H' v d _ _ r e => ?_⟩
  subst e
  exact rep_bl r
end Sd


open PySem PySem.W PyProof.Rows in
set_option maxRecDepth 100000 in
set_option maxHeartbeats 0 in
theorem PySem.Challenge.cw_surelydone_k79_whole_keen_runs_told_othe_holds : PySem.Challenge.rw_surelydone_k79_whole_keen_runs_told_othe.Holds := by
  w_on; o_law; k_head; (case hw => w_witness2)
  k_fill
  refine Sd.walk (l := PySem.Challenge.rw_surelydone_k79_whole_keen_runs_told_othe) rfl rfl (fun w h Y => PySem.W.kIn_of Y) ?F
  case F =>
    intro w mg fa h KX G hmg
    refine' Sd.all_mk KX G hmg ?a_LETTERS ?r_LETTERS ?a_MOST_STEPS ?r_MOST_STEPS ?a_MOST_LEAVING ?r_MOST_LEAVING ?a_MOST_WORDS_hands ?r_MOST_WORDS_hands ?a_MOST_STATES ?r_MOST_STATES ?a_MOST_HANDS ?r_MOST_HANDS ?a_MOST_WORDS_systems ?r_MOST_WORDS_systems ?z_isinstance ?z_int ?z_bool ?z_str ?z_list ?z_tuple ?z_len ?z_enumerate ?z_sorted ?z_set ?z_range ?z_sum ?z_min ?z_max ?z_zip ?z_all ?z_any ?a_Hand ?pg_CH ?hd_CH ?po_CH ?sa_CH ?mk_CH ?kc_CH ?ha_CH ?hm_CH ?n_CH_start ?n_CH_steps ?n_CH_words ?n_CH_states ?a_System ?pg_CS ?hd_CS ?po_CS ?sa_CS ?mk_CS ?kc_CS ?ha_CS ?hm_CS ?n_CS_hands ?n_CS_diligent ?n_CS_words ?n_CS_start ?hn ?htk ?a_law_open ?l_law_open ?c_law_open ?k_law_open ?a_law_draw ?l_law_draw ?c_law_draw ?k_law_draw ?a_law_name ?l_law_name ?c_law_name ?k_law_name ?a_law_names ?l_law_names ?c_law_names ?k_law_names ?a_law_states ?l_law_states ?c_law_states ?k_law_states ?a_law_hand ?l_law_hand ?c_law_hand ?k_law_hand ?a_law_plan ?l_law_plan ?c_law_plan ?k_law_plan ?a_is_integer ?l_is_integer ?c_is_integer ?k_is_integer ?a_is_state ?l_is_state ?c_is_state ?k_is_state ?a_is_row ?l_is_row ?c_is_row ?k_is_row ?a_is_name ?l_is_name ?c_is_name ?k_is_name ?a_is_step ?l_is_step ?c_is_step ?k_is_step ?a_leaving ?l_leaving ?c_leaving ?k_leaving ?a_checked_steps ?l_checked_steps ?c_checked_steps ?k_checked_steps ?a_reached_states ?l_reached_states ?c_reached_states ?k_reached_states ?a_Hand_init ?i_Hand_init ?l_Hand_init ?c_Hand_init ?k_Hand_init ?a_checked_hands ?l_checked_hands ?c_checked_hands ?k_checked_hands ?a_checked_diligent ?l_checked_diligent ?c_checked_diligent ?k_checked_diligent ?a_System_init ?i_System_init ?l_System_init ?c_System_init ?k_System_init ?a_law_system ?l_law_system ?c_law_system ?k_law_system ?a_law_words ?l_law_words ?c_law_words ?k_law_words ?a_law_numbers ?l_law_numbers ?c_law_numbers ?k_law_numbers ?a_law_behind ?l_law_behind ?c_law_behind ?k_law_behind ?a_law_ways ?l_law_ways ?c_law_ways ?k_law_ways ?a_law_rove ?l_law_rove ?c_law_rove ?k_law_rove ?a_law_cut ?l_law_cut ?c_law_cut ?k_law_cut ?a_law_keen ?l_law_keen ?c_law_keen ?k_law_keen ?a_law_whole ?l_law_whole ?c_law_whole ?k_law_whole ?a_law_is_move ?l_law_is_move ?c_law_is_move ?k_law_is_move ?a_law_passed ?l_law_passed ?c_law_passed ?k_law_passed ?a_law_able ?l_law_able ?c_law_able ?k_law_able ?a_law_keenly_fair ?l_law_keenly_fair ?c_law_keenly_fair ?k_law_keenly_fair ?a_step_numbers ?l_step_numbers ?c_step_numbers ?k_step_numbers ?a_is_move ?l_is_move ?c_is_move ?k_is_move ?a_led_to ?l_led_to ?c_led_to ?k_led_to ?a_walked ?l_walked ?c_walked ?k_walked ?a_check_standing ?l_check_standing ?c_check_standing ?k_check_standing ?a_System_able ?i_System_able ?l_System_able ?c_System_able ?k_System_able ?a_always_able ?l_always_able ?c_always_able ?k_always_able ?a_takes_along ?l_takes_along ?c_takes_along ?k_takes_along ?a_is_fair ?l_is_fair ?c_is_fair ?k_is_fair ?a_able_somewhere ?l_able_somewhere ?c_able_somewhere ?k_able_somewhere ?a_either ?l_either ?c_either ?k_either ?a_System_with_diligent ?i_System_with_diligent ?l_System_with_diligent ?c_System_with_diligent ?k_System_with_diligent ?a_is_keenly_fair ?l_is_keenly_fair ?c_is_keenly_fair ?k_is_keenly_fair ?a_law_told ?l_law_told ?c_law_told ?k_law_told ?a_law_written_otherwise ?l_law_written_otherwise ?c_law_written_otherwise ?k_law_written_otherwise ?a_System_started_at ?i_System_started_at ?l_System_started_at ?c_System_started_at ?k_System_started_at ?a_law_other_systems ?l_law_other_systems ?c_law_other_systems ?k_law_other_systems ?a_law_hand_by_hand ?l_law_hand_by_hand ?c_law_hand_by_hand ?k_law_hand_by_hand ?a_Hand_eq ?i_Hand_eq ?l_Hand_eq ?c_Hand_eq ?k_Hand_eq ?a_System_eq ?i_System_eq ?l_System_eq ?c_System_eq ?k_System_eq ?a_law ?l_law ?c_law ?k_law ?lT ?eT
    (case a_LETTERS => k_is)
    (case r_LETTERS => exact ⟨_, rfl⟩)
    (case a_MOST_STEPS => k_is)
    (case r_MOST_STEPS => exact ⟨_, rfl⟩)
    (case a_MOST_LEAVING => k_is)
    (case r_MOST_LEAVING => exact ⟨_, rfl⟩)
    (case a_MOST_WORDS_hands => k_is)
    (case r_MOST_WORDS_hands => exact ⟨_, rfl⟩)
    (case a_MOST_STATES => k_is)
    (case r_MOST_STATES => exact ⟨_, rfl⟩)
    (case a_MOST_HANDS => k_is)
    (case r_MOST_HANDS => exact ⟨_, rfl⟩)
    (case a_MOST_WORDS_systems => k_is)
    (case r_MOST_WORDS_systems => exact ⟨_, rfl⟩)
    (case z_isinstance => k_is)
    (case z_int => k_is)
    (case z_bool => k_is)
    (case z_str => k_is)
    (case z_list => k_is)
    (case z_tuple => k_is)
    (case z_len => k_is)
    (case z_enumerate => k_is)
    (case z_sorted => k_is)
    (case z_set => k_is)
    (case z_range => k_is)
    (case z_sum => k_is)
    (case z_min => k_is)
    (case z_max => k_is)
    (case z_zip => k_is)
    (case z_all => k_is)
    (case z_any => k_is)
    (case a_Hand => k_is)
    (case pg_CH => k_is)
    (case hd_CH => k_is)
    (case po_CH => k_is)
    (case sa_CH => k_is)
    (case mk_CH => k_is)
    (case kc_CH => k_is)
    (case ha_CH => k_is)
    (case hm_CH => k_is)
    (case n_CH_start => k_is)
    (case n_CH_steps => k_is)
    (case n_CH_words => k_is)
    (case n_CH_states => k_is)
    (case a_System => k_is)
    (case pg_CS => k_is)
    (case hd_CS => k_is)
    (case po_CS => k_is)
    (case sa_CS => k_is)
    (case mk_CS => k_is)
    (case kc_CS => k_is)
    (case ha_CS => k_is)
    (case hm_CS => k_is)
    (case n_CS_hands => k_is)
    (case n_CS_diligent => k_is)
    (case n_CS_words => k_is)
    (case n_CS_start => k_is)
    (case hn => k_is)
    (case htk => k_is)
    (case a_law_open => k_is)
    (case l_law_open => k_is)
    (case c_law_open => k_is)
    (case k_law_open => k_is)
    (case a_law_draw => k_is)
    (case l_law_draw => k_is)
    (case c_law_draw => k_is)
    (case k_law_draw => k_is)
    (case a_law_name => k_is)
    (case l_law_name => k_is)
    (case c_law_name => k_is)
    (case k_law_name => k_is)
    (case a_law_names => k_is)
    (case l_law_names => k_is)
    (case c_law_names => k_is)
    (case k_law_names => k_is)
    (case a_law_states => k_is)
    (case l_law_states => k_is)
    (case c_law_states => k_is)
    (case k_law_states => k_is)
    (case a_law_hand => k_is)
    (case l_law_hand => k_is)
    (case c_law_hand => k_is)
    (case k_law_hand => k_is)
    (case a_law_plan => k_is)
    (case l_law_plan => k_is)
    (case c_law_plan => k_is)
    (case k_law_plan => k_is)
    (case a_is_integer => k_is)
    (case l_is_integer => k_is)
    (case c_is_integer => k_is)
    (case k_is_integer => k_is)
    (case a_is_state => k_is)
    (case l_is_state => k_is)
    (case c_is_state => k_is)
    (case k_is_state => k_is)
    (case a_is_row => k_is)
    (case l_is_row => k_is)
    (case c_is_row => k_is)
    (case k_is_row => k_is)
    (case a_is_name => k_is)
    (case l_is_name => k_is)
    (case c_is_name => k_is)
    (case k_is_name => k_is)
    (case a_is_step => k_is)
    (case l_is_step => k_is)
    (case c_is_step => k_is)
    (case k_is_step => k_is)
    (case a_leaving => k_is)
    (case l_leaving => k_is)
    (case c_leaving => k_is)
    (case k_leaving => k_is)
    (case a_checked_steps => k_is)
    (case l_checked_steps => k_is)
    (case c_checked_steps => k_is)
    (case k_checked_steps => k_is)
    (case a_reached_states => k_is)
    (case l_reached_states => k_is)
    (case c_reached_states => k_is)
    (case k_reached_states => k_is)
    (case a_Hand_init => k_is)
    (case i_Hand_init => k_is)
    (case l_Hand_init => k_is)
    (case c_Hand_init => k_is)
    (case k_Hand_init => k_is)
    (case a_checked_hands => k_is)
    (case l_checked_hands => k_is)
    (case c_checked_hands => k_is)
    (case k_checked_hands => k_is)
    (case a_checked_diligent => k_is)
    (case l_checked_diligent => k_is)
    (case c_checked_diligent => k_is)
    (case k_checked_diligent => k_is)
    (case a_System_init => k_is)
    (case i_System_init => k_is)
    (case l_System_init => k_is)
    (case c_System_init => k_is)
    (case k_System_init => k_is)
    (case a_law_system => k_is)
    (case l_law_system => k_is)
    (case c_law_system => k_is)
    (case k_law_system => k_is)
    (case a_law_words => k_is)
    (case l_law_words => k_is)
    (case c_law_words => k_is)
    (case k_law_words => k_is)
    (case a_law_numbers => k_is)
    (case l_law_numbers => k_is)
    (case c_law_numbers => k_is)
    (case k_law_numbers => k_is)
    (case a_law_behind => k_is)
    (case l_law_behind => k_is)
    (case c_law_behind => k_is)
    (case k_law_behind => k_is)
    (case a_law_ways => k_is)
    (case l_law_ways => k_is)
    (case c_law_ways => k_is)
    (case k_law_ways => k_is)
    (case a_law_rove => k_is)
    (case l_law_rove => k_is)
    (case c_law_rove => k_is)
    (case k_law_rove => k_is)
    (case a_law_cut => k_is)
    (case l_law_cut => k_is)
    (case c_law_cut => k_is)
    (case k_law_cut => k_is)
    (case a_law_keen => k_is)
    (case l_law_keen => k_is)
    (case c_law_keen => k_is)
    (case k_law_keen => k_is)
    (case a_law_whole => k_is)
    (case l_law_whole => k_is)
    (case c_law_whole => k_is)
    (case k_law_whole => k_is)
    (case a_law_is_move => k_is)
    (case l_law_is_move => k_is)
    (case c_law_is_move => k_is)
    (case k_law_is_move => k_is)
    (case a_law_passed => k_is)
    (case l_law_passed => k_is)
    (case c_law_passed => k_is)
    (case k_law_passed => k_is)
    (case a_law_able => k_is)
    (case l_law_able => k_is)
    (case c_law_able => k_is)
    (case k_law_able => k_is)
    (case a_law_keenly_fair => k_is)
    (case l_law_keenly_fair => k_is)
    (case c_law_keenly_fair => k_is)
    (case k_law_keenly_fair => k_is)
    (case a_step_numbers => k_is)
    (case l_step_numbers => k_is)
    (case c_step_numbers => k_is)
    (case k_step_numbers => k_is)
    (case a_is_move => k_is)
    (case l_is_move => k_is)
    (case c_is_move => k_is)
    (case k_is_move => k_is)
    (case a_led_to => k_is)
    (case l_led_to => k_is)
    (case c_led_to => k_is)
    (case k_led_to => k_is)
    (case a_walked => k_is)
    (case l_walked => k_is)
    (case c_walked => k_is)
    (case k_walked => k_is)
    (case a_check_standing => k_is)
    (case l_check_standing => k_is)
    (case c_check_standing => k_is)
    (case k_check_standing => k_is)
    (case a_System_able => k_is)
    (case i_System_able => k_is)
    (case l_System_able => k_is)
    (case c_System_able => k_is)
    (case k_System_able => k_is)
    (case a_always_able => k_is)
    (case l_always_able => k_is)
    (case c_always_able => k_is)
    (case k_always_able => k_is)
    (case a_takes_along => k_is)
    (case l_takes_along => k_is)
    (case c_takes_along => k_is)
    (case k_takes_along => k_is)
    (case a_is_fair => k_is)
    (case l_is_fair => k_is)
    (case c_is_fair => k_is)
    (case k_is_fair => k_is)
    (case a_able_somewhere => k_is)
    (case l_able_somewhere => k_is)
    (case c_able_somewhere => k_is)
    (case k_able_somewhere => k_is)
    (case a_either => k_is)
    (case l_either => k_is)
    (case c_either => k_is)
    (case k_either => k_is)
    (case a_System_with_diligent => k_is)
    (case i_System_with_diligent => k_is)
    (case l_System_with_diligent => k_is)
    (case c_System_with_diligent => k_is)
    (case k_System_with_diligent => k_is)
    (case a_is_keenly_fair => k_is)
    (case l_is_keenly_fair => k_is)
    (case c_is_keenly_fair => k_is)
    (case k_is_keenly_fair => k_is)
    (case a_law_told => k_is)
    (case l_law_told => k_is)
    (case c_law_told => k_is)
    (case k_law_told => k_is)
    (case a_law_written_otherwise => k_is)
    (case l_law_written_otherwise => k_is)
    (case c_law_written_otherwise => k_is)
    (case k_law_written_otherwise => k_is)
    (case a_System_started_at => k_is)
    (case i_System_started_at => k_is)
    (case l_System_started_at => k_is)
    (case c_System_started_at => k_is)
    (case k_System_started_at => k_is)
    (case a_law_other_systems => k_is)
    (case l_law_other_systems => k_is)
    (case c_law_other_systems => k_is)
    (case k_law_other_systems => k_is)
    (case a_law_hand_by_hand => k_is)
    (case l_law_hand_by_hand => k_is)
    (case c_law_hand_by_hand => k_is)
    (case k_law_hand_by_hand => k_is)
    (case a_Hand_eq => k_is)
    (case i_Hand_eq => k_is)
    (case l_Hand_eq => k_is)
    (case c_Hand_eq => k_is)
    (case k_Hand_eq => k_is)
    (case a_System_eq => k_is)
    (case i_System_eq => k_is)
    (case l_System_eq => k_is)
    (case c_System_eq => k_is)
    (case k_System_eq => k_is)
    (case a_law => k_is)
    (case l_law => k_is)
    (case c_law => k_is)
    (case k_law => k_is)
    (case lT => k_is)
    (case eT => rfl)
