import PyProof.Rows.All
import Wide.All
import OpenK.AllK
import Wide.FinOn
import HandS.ForMost
import HandS.TupAny
import HandS.Flow
import HandS.Wide
import HandS.Deep
import HandS.SortInts
import HandS.Conv
import KE.GoesEnum
import HandS.TryOnly
import HandS.Zip
import HandS.Rev
import HandS.Style
import HandS.IsInst
import KE.KIndexOf
import HandS.SortOrd
import PyProof.TupleOfSeq
import PyProof.WalksMore
import HandS.More
import PyProof.ReprRoads
import PyProof.Rows.RegFStrParts
import HandS.Gcd
import HandS.TupMul
import HandS.TupSets
import KE.DataMinMax
import KE.SortData
import PySem.Challenge.RW_manysheets_k32_whole_equal_forms
set_option Elab.async false
set_option linter.all false
set_option maxRecDepth 100000
set_option maxHeartbeats 4000000
namespace MP
open PySem PySem.Spec PyProof.Rows L2

abbrev Dat := PyData
abbrev Fg := PySem.W.Frag

/-! ### data and values -/
/-- a tuple whose object is known to bear no dict -/
def TupD (F : Hp) (a : Addr) (xs : List V) : Prop := ∃ o : Obj, F a = some (.frz o (.tup xs)) ∧ o.dict = none
theorem TupD.sqT {K : Fg} {F : Hp} {a : Addr} {xs : List V} (h : TupD F a xs) : SqT K F a xs := by
  obtain ⟨o, e, _⟩ := h
  exact .inl (.inr ⟨o, e⟩)
theorem TupD.mono {F F' : Hp} {a : Addr} {xs : List V} (e : Same F F') (h : TupD F a xs) : TupD F' a xs := by
  obtain ⟨o, h1, h2⟩ := h
  exact ⟨o, e _ _ h1, h2⟩
/- the empty dict stands for the law's state; a dict of one entry for a pair that a walk hands out; a dict of two for a list from outside (the script) -/
mutual
def Rel (K : Fg) (F : Hp) (T : Addr) : Dat → V → Prop
  | .none, v => v = .non
  | .bool b, v => v = .bl b
  | .int i, v => v = .int i
  | .str x, v => v = .str x
  | .list ds, v => ∃ a xs, v = .ref a ∧ F a = some (.lst xs) ∧ RelL K F T ds xs
  | .tuple ds, v => ∃ a xs, v = .ref a ∧ TupD F a xs ∧ RelL K F T ds xs
  | .dict [], v => v = .ref T
  | .dict [(d, e)], v => ∃ a x y, v = .ref a ∧ SqT K F a [x, y] ∧ Rel K F T d x ∧ Rel K F T e y
  | .dict (_ :: (_, .list ds) :: _), v => ∃ a xs, v = .ref a ∧ SqL K F a xs ∧ RelL K F T ds xs
  | .dict _, _ => False
def RelL (K : Fg) (F : Hp) (T : Addr) : List Dat → List V → Prop
  | [], xs => xs = []
  | d :: ds, xs => ∃ y ys, xs = y :: ys ∧ Rel K F T d y ∧ RelL K F T ds ys
end

theorem seqL {K : Fg} {H H' : Hp} {a : Addr} {xs : List V} (e : Same H H') (h : SqL K H a xs) : SqL K H' a xs := by
  rcases h with (h | ⟨o, h⟩) | h
  · exact .inl (.inl (e _ _ h))
  · exact .inl (.inr ⟨o, e _ _ h⟩)
  · exact .inr h
theorem seqT {K : Fg} {H H' : Hp} {a : Addr} {xs : List V} (e : Same H H') (h : SqT K H a xs) : SqT K H' a xs := by
  rcases h with (h | ⟨o, h⟩) | h
  · exact .inl (.inl (e _ _ h))
  · exact .inl (.inr ⟨o, e _ _ h⟩)
  · exact .inr h

section
variable {K : Fg} {F F' : Hp} {T : Addr}
mutual
theorem Rel.mono (e : Same F F') : ∀ (d : Dat) (v : V), Rel K F T d v → Rel K F' T d v
  | .none, _, h => h
  | .bool _, _, h => h
  | .int _, _, h => h
  | .str _, _, h => h
  | .list ds, _, h => by
    unfold Rel at h ⊢
    obtain ⟨a, xs, e1, h1, h2⟩ := h
    exact ⟨a, xs, e1, e _ _ h1, RelL.mono e ds xs h2⟩
  | .tuple ds, _, h => by
    unfold Rel at h ⊢
    obtain ⟨a, xs, e1, h1, h2⟩ := h
    exact ⟨a, xs, e1, h1.mono e, RelL.mono e ds xs h2⟩
  | .dict [], _, h => h
  | .dict [(d, d')], _, h => by
    unfold Rel at h ⊢
    obtain ⟨a, x, y, e1, h1, h2, h3⟩ := h
    exact ⟨a, x, y, e1, seqT e h1, Rel.mono e d x h2, Rel.mono e d' y h3⟩
  | .dict (_ :: (_, .list ds) :: _), _, h => by
    unfold Rel at h ⊢
    obtain ⟨a, xs, e1, h1, h2⟩ := h
    exact ⟨a, xs, e1, seqL e h1, RelL.mono e ds xs h2⟩
  | .dict (_ :: (_, .none) :: _), _, h => by unfold Rel at h; exact h.elim
  | .dict (_ :: (_, .bool _) :: _), _, h => by unfold Rel at h; exact h.elim
  | .dict (_ :: (_, .int _) :: _), _, h => by unfold Rel at h; exact h.elim
  | .dict (_ :: (_, .str _) :: _), _, h => by unfold Rel at h; exact h.elim
  | .dict (_ :: (_, .tuple _) :: _), _, h => by unfold Rel at h; exact h.elim
  | .dict (_ :: (_, .dict _) :: _), _, h => by unfold Rel at h; exact h.elim
theorem RelL.mono (e : Same F F') : ∀ (ds : List Dat) (xs : List V), RelL K F T ds xs → RelL K F' T ds xs
  | [], _, h => h
  | d :: ds, _, h => by
    unfold RelL at h ⊢
    obtain ⟨y, ys, e1, h1, h2⟩ := h
    exact ⟨y, ys, e1, Rel.mono e d y h1, RelL.mono e ds ys h2⟩
end

theorem RelL.nil : RelL K F T [] [] := by unfold RelL; rfl
theorem RelL.cons {d ds v vs} (h : Rel K F T d v) (t : RelL K F T ds vs) : RelL K F T (d :: ds) (v :: vs) := by unfold RelL; exact ⟨v, vs, rfl, h, t⟩
theorem RelL.len : ∀ {ds : List Dat} {vs : List V}, RelL K F T ds vs → vs.length = ds.length
  | [], _, h => by unfold RelL at h; subst h; rfl
  | d :: ds, _, h => by
    unfold RelL at h
    obtain ⟨y, ys, rfl, _, h2⟩ := h
    simp [h2.len]
theorem RelL.get : ∀ {ds : List Dat} {vs : List V} {i : Nat} {d : Dat}, RelL K F T ds vs → ds[i]? = some d → ∃ v, vs[i]? = some v ∧ Rel K F T d v
  | [], _, i, d, _, e => by simp at e
  | d :: ds, _, 0, d', h, e => by
    unfold RelL at h
    obtain ⟨y, ys, rfl, h1, h2⟩ := h
    simp at e
    subst e
    exact ⟨y, rfl, h1⟩
  | d :: ds, _, i + 1, d', h, e => by
    unfold RelL at h
    obtain ⟨y, ys, rfl, h1, h2⟩ := h
    simp at e
    obtain ⟨v, e2, r⟩ := h2.get e
    exact ⟨v, by simpa using e2, r⟩
theorem RelL.getV : ∀ {ds : List Dat} {vs : List V} {i : Nat} {v : V}, RelL K F T ds vs → vs[i]? = some v → ∃ d, ds[i]? = some d ∧ Rel K F T d v
  | [], _, i, d, h, e => by unfold RelL at h; subst h; simp at e
  | d :: ds, _, 0, d', h, e => by
    unfold RelL at h
    obtain ⟨y, ys, rfl, h1, h2⟩ := h
    simp at e
    subst e
    exact ⟨d, rfl, h1⟩
  | d :: ds, _, i + 1, d', h, e => by
    unfold RelL at h
    obtain ⟨y, ys, rfl, h1, h2⟩ := h
    simp at e
    obtain ⟨v, e2, r⟩ := h2.getV e
    exact ⟨v, by simpa using e2, r⟩
theorem RelL.append : ∀ {ds es : List Dat} {vs ws : List V}, RelL K F T ds vs → RelL K F T es ws → RelL K F T (ds ++ es) (vs ++ ws)
  | [], _, _, _, h, h' => by unfold RelL at h; subst h; exact h'
  | d :: ds, _, _, _, h, h' => by
    unfold RelL at h
    obtain ⟨y, ys, rfl, h1, h2⟩ := h
    exact .cons h1 (h2.append h')
theorem RelL.take : ∀ {ds : List Dat} {vs : List V} (n : Nat), RelL K F T ds vs → RelL K F T (ds.take n) (vs.take n)
  | _, _, 0, _ => by simpa using RelL.nil
  | [], _, n + 1, h => by unfold RelL at h; subst h; exact RelL.nil
  | d :: ds, _, n + 1, h => by
    unfold RelL at h
    obtain ⟨y, ys, rfl, h1, h2⟩ := h
    exact .cons h1 (h2.take n)
theorem RelL.drop : ∀ {ds : List Dat} {vs : List V} (n : Nat), RelL K F T ds vs → RelL K F T (ds.drop n) (vs.drop n)
  | _, _, 0, h => h
  | [], _, n + 1, h => by unfold RelL at h; subst h; exact RelL.nil
  | d :: ds, _, n + 1, h => by
    unfold RelL at h
    obtain ⟨y, ys, rfl, h1, h2⟩ := h
    exact h2.drop n
theorem RelL.set : ∀ {ds : List Dat} {vs : List V} {d : Dat} {v : V} (n : Nat), RelL K F T ds vs → Rel K F T d v → RelL K F T (ds.set n d) (vs.set n v)
  | [], _, _, _, n, h, _ => by unfold RelL at h; subst h; exact RelL.nil
  | d :: ds, _, _, _, 0, h, r => by
    unfold RelL at h
    obtain ⟨y, ys, rfl, h1, h2⟩ := h
    exact .cons r h2
  | d :: ds, _, _, _, n + 1, h, r => by
    unfold RelL at h
    obtain ⟨y, ys, rfl, h1, h2⟩ := h
    exact .cons h1 (h2.set n r)
theorem RelL.eraseIdx : ∀ {ds : List Dat} {vs : List V} (n : Nat), RelL K F T ds vs → RelL K F T (ds.eraseIdx n) (vs.eraseIdx n)
  | [], _, n, h => by unfold RelL at h; subst h; exact RelL.nil
  | d :: ds, _, 0, h => by
    unfold RelL at h
    obtain ⟨y, ys, rfl, h1, h2⟩ := h
    exact h2
  | d :: ds, _, n + 1, h => by
    unfold RelL at h
    obtain ⟨y, ys, rfl, h1, h2⟩ := h
    exact .cons h1 (h2.eraseIdx n)
theorem RelL.reverse {ds : List Dat} {vs : List V} (h : RelL K F T ds vs) : RelL K F T ds.reverse vs.reverse := by
  induction ds generalizing vs with
  | nil => unfold RelL at h; subst h; exact RelL.nil
  | cons d ds ih =>
    unfold RelL at h
    obtain ⟨y, ys, rfl, h1, h2⟩ := h
    rw [List.reverse_cons, List.reverse_cons]
    exact (ih h2).append (.cons h1 .nil)
theorem RelL.rep {ds : List Dat} {vs : List V} (h : RelL K F T ds vs) : ∀ k : Nat, RelL K F T (List.replicate k ds).flatten (List.replicate k vs).flatten
  | 0 => RelL.nil
  | k + 1 => by
    rw [List.replicate_succ, List.replicate_succ, List.flatten_cons, List.flatten_cons]
    exact h.append (h.rep k)
theorem RelL.nil_iff {ds : List Dat} {vs : List V} (h : RelL K F T ds vs) : vs = [] ↔ ds = [] := by
  have e := h.len
  constructor
  · rintro rfl
    exact List.eq_nil_of_length_eq_zero e.symm
  · rintro rfl
    exact List.eq_nil_of_length_eq_zero e
end

/-! ### the state -/
/-- a slot: nothing known, data that never changes any more, a list of the frame's own -/
inductive Sl where
  | un
  | fr (d : Dat)
  | ow (ds : List Dat)
/-- the law's draws: cells and a seed; or a place and a rest -/
inductive Dr where
  | no
  | A (cells : List Int) (seed : Int)
  | B (k c : Int)
structure PS where
  sl : List Sl
  dr : Dr
/-- the entry -/
structure Ctl where
  H0 : Hp
  F0 : Hp
  T : Addr
  C : Addr
  st : Bool
def Ctl.ex (G : Ctl) (a : Addr) : Prop := G.st = true ∧ (a = G.T ∨ a = G.C)
def DrAt (T C : Addr) (H : Hp) : Dr → Prop
  | .no => False
  | .A cs s => T ≠ C ∧ H T = some (.lst [.ref C, .int s]) ∧ H C = some (.lst (cs.map V.int))
  | .B k c => H T = some (.lst [.int k, .int c]) ∧ C = T
theorem DrAt.T {T C : Addr} {H : Hp} {d : Dr} (h : DrAt T C H d) : H T ≠ none := by
  cases d with
  | no => exact h.elim
  | A cs s => rw [h.2.1]; simp
  | B k c => rw [h.1]; simp
theorem DrAt.C {T C : Addr} {H : Hp} {d : Dr} (h : DrAt T C H d) : H C ≠ none := by
  cases d with
  | no => exact h.elim
  | A cs s => rw [h.2.2]; simp
  | B k c => rw [h.2, h.1]; simp
theorem DrAt.keep {T C : Addr} {H H' : Hp} {d : Dr} (h : DrAt T C H d) (k : ∀ a o, H a = some o → (a = T ∨ a = C) → H' a = some o) : DrAt T C H' d := by
  cases d with
  | no => exact h.elim
  | A cs s => exact ⟨h.1, k _ _ h.2.1 (.inl rfl), k _ _ h.2.2 (.inr rfl)⟩
  | B k' c => exact ⟨k _ _ h.1 (.inl rfl), h.2⟩

def SlOk (G : Ctl) (K : Fg) (F H : Hp) : Sl → Option V → Prop
  | .un, _ => True
  | .fr d, o => ∃ v, o = some v ∧ Rel K F G.T d v
  | .ow ds, o => ∃ p vs, o = some (.ref p) ∧ H p = some (.lst vs) ∧ F p = none ∧ G.H0 p = none ∧ RelL K F G.T ds vs

structure Rep (G : Ctl) (K : Fg) (F : Hp) (ps : PS) (σ : L2.St) (H : Hp) : Prop where
  len : σ.length = ps.sl.length
  slots : ∀ (i : Nat) (s : Sl), ps.sl[i]? = some s → ∃ o, σ[i]? = some o ∧ SlOk G K F H s o
  sep : ∀ (i j : Nat) (di dj : List Dat) (p : Addr), ps.sl[i]? = some (.ow di) → ps.sl[j]? = some (.ow dj) → σ[i]? = some (some (.ref p)) → σ[j]? = some (some (.ref p)) → i = j
  dr : G.st = true → DrAt G.T G.C H ps.dr
  ft : G.st = true → F G.T = none ∧ F G.C = none ∧ G.H0 G.T ≠ none ∧ G.H0 G.C ≠ none
  fh : Same F H
  kp : ∀ a o, G.H0 a = some o → ¬ G.ex a → H a = some o
  f0 : ∀ a, G.H0 a ≠ none → F a = G.F0 a
  ff : Same G.F0 F
  nd : G.st = false → ps.dr = .no

/-- p is an own list's place -/
def Own (ps : PS) (σ : L2.St) (p : Addr) : Prop := ∃ (i : Nat) (ds : List Dat), ps.sl[i]? = some (.ow ds) ∧ σ[i]? = some (some (.ref p))

structure Post (G : Ctl) (K : Fg) (F : Hp) (ps : PS) (σ : L2.St) (H : Hp) (F' : Hp) (ps' : PS) (H' : Hp) : Prop where
  rep : Rep G K F' ps' σ H'
  same : Same F F'
  fresh : ∀ p vs, H p = some (.lst vs) → F p = none → G.H0 p = none → ¬ Own ps σ p → H' p = some (.lst vs) ∧ F' p = none ∧ ¬ Own ps' σ p
  dom : ∀ a, H' a = none → H a = none

section
variable {G : Ctl} {K : Fg} {F F1 F2 : Hp} {ps ps1 ps2 : PS} {σ : L2.St} {H H1 H2 : Hp}
theorem Post.refl (r : Rep G K F ps σ H) : Post G K F ps σ H F ps H := ⟨r, Same.refl F, fun p vs h1 h2 h3 h4 => ⟨h1, h2, h4⟩, fun _ h => h⟩
theorem Post.trans (a : Post G K F ps σ H F1 ps1 H1) (b : Post G K F1 ps1 σ H1 F2 ps2 H2) : Post G K F ps σ H F2 ps2 H2 :=
  ⟨b.rep, a.same.trans b.same, fun p vs h1 h2 h3 h4 =>
    let ⟨q1, q2, q3⟩ := a.fresh p vs h1 h2 h3 h4
    b.fresh p vs q1 q2 h3 q3, fun p h => a.dom p (b.dom p h)⟩

theorem Rep.h0 (r : Rep G K F ps σ H) {p : Addr} (h : H p = none) : G.H0 p = none := by
  cases q : G.H0 p with
  | none => rfl
  | some o =>
    by_cases e : G.ex p
    · obtain ⟨e1, e2⟩ := e
      have d := r.dr e1
      rcases e2 with rfl | rfl
      · exact absurd h d.T
      · exact absurd h d.C
    · rw [r.kp p o q e] at h
      cases h
theorem Rep.fn (r : Rep G K F ps σ H) {p : Addr} (h : H p = none) : F p = none := r.fh.free h

theorem SlOk.mono {s : Sl} {o : Option V} (h : SlOk G K F H s o) (fs : Same F F1) (k : ∀ p vs ds, s = .ow ds → o = some (.ref p) → H p = some (.lst vs) → F p = none → G.H0 p = none → H1 p = some (.lst vs) ∧ F1 p = none) : SlOk G K F1 H1 s o := by
  cases s with
  | un => trivial
  | fr d =>
    obtain ⟨v, e, q⟩ := h
    exact ⟨v, e, Rel.mono fs _ _ q⟩
  | ow ds =>
    obtain ⟨p, vs, e, h1, h2, h3, q⟩ := h
    obtain ⟨a, b⟩ := k p vs ds rfl e h1 h2 h3
    exact ⟨p, vs, e, a, b, h3, RelL.mono fs _ _ q⟩

/-- objects are added and frozen; nothing else changes -/
theorem Rep.grow (r : Rep G K F ps σ H) (fs : Same F F1) (fh : Same F1 H1) (k : ∀ a o, H a = some o → H1 a = some o) (nf : ∀ a, F1 a ≠ none → F a = none → G.H0 a = none ∧ ¬ Own ps σ a) : Rep G K F1 ps σ H1 where
  len := r.len
  slots := fun i s e => by
    obtain ⟨o, e1, q⟩ := r.slots i s e
    refine ⟨o, e1, q.mono fs fun p vs ds es eo h1 h2 h3 => ⟨k _ _ h1, ?_⟩⟩
    cases z : F1 p with
    | none => rfl
    | some u =>
      exact absurd ⟨i, ds, by rw [e, es], by rw [e1, eo]⟩ (nf p (by rw [z]; simp) h2).2
  sep := r.sep
  dr := fun h => (r.dr h).keep fun a o e _ => k a o e
  ft := fun h => by
    obtain ⟨a, b, c, d⟩ := r.ft h
    refine ⟨?_, ?_, c, d⟩
    · cases z : F1 G.T with
      | none => rfl
      | some u => exact absurd (nf _ (by rw [z]; simp) a).1 c
    · cases z : F1 G.C with
      | none => rfl
      | some u => exact absurd (nf _ (by rw [z]; simp) b).1 d
  fh := fh
  kp := fun a o e x => k _ _ (r.kp a o e x)
  f0 := fun a e => by
    have e1 := r.f0 a e
    cases z : F1 a with
    | none =>
      cases y : F a with
      | none => rw [← e1, y]
      | some u =>
        rw [fs _ _ y] at z
        cases z
    | some u =>
      cases y : F a with
      | none => exact absurd (nf a (by rw [z]; simp) y).1 e
      | some w =>
        rw [fs _ _ y] at z
        rw [← e1, y, ← z]
  ff := r.ff.trans fs
  nd := r.nd

theorem Rep.ownH (r : Rep G K F ps σ H) {p : Addr} (o : Own ps σ p) : ∃ vs, H p = some (.lst vs) ∧ F p = none ∧ G.H0 p = none := by
  obtain ⟨i, ds, e1, e2⟩ := o
  obtain ⟨o, e3, q⟩ := r.slots i _ e1
  obtain ⟨p', vs, e4, h1, h2, h3, _⟩ := q
  rw [e3, e4] at e2
  cases e2
  exact ⟨vs, h1, h2, h3⟩

theorem same_upd {H : Hp} {p : Addr} {o : HO} (h : H p = none) : Same H (upd H p o) := fun b x e => by
  rw [upd_ne (ne_of_none e h)]
  exact e

/-- a new list, not yet anyone's -/
theorem Rep.newL (r : Rep G K F ps σ H) {p : Addr} {vs : List V} (hp : H p = none) : Post G K F ps σ H F ps (upd H p (.lst vs)) := by
  have hs := same_upd (o := .lst vs) hp
  refine ⟨r.grow (Same.refl F) (r.fh.trans hs) hs (fun a h1 h2 => absurd h2 h1), Same.refl F, fun q ws h1 h2 h3 h4 => ⟨hs _ _ h1, h2, h4⟩, fun _ => hs.free⟩
/-- a new object, frozen at once -/
theorem Rep.newF (r : Rep G K F ps σ H) {p : Addr} {o : HO} (hp : H p = none) : Post G K F ps σ H (upd F p o) ps (upd H p o) := by
  have hs := same_upd (o := o) hp
  have fs := same_upd (o := o) (r.fn hp)
  refine ⟨r.grow fs (fun b x e => ?_) hs (fun a h1 h2 => ?_), fs, fun q ws h1 h2 h3 h4 => ⟨hs _ _ h1, ?_, h4⟩, fun _ => hs.free⟩
  · by_cases hb : b = p
    · subst hb
      rw [upd_same] at e ⊢
      exact e
    · rw [upd_ne hb] at e ⊢
      exact r.fh _ _ e
  · have e : a = p := by
      by_cases hb : a = p
      · exact hb
      · rw [upd_ne hb] at h1
        exact absurd h2 h1
    subst e
    refine ⟨r.h0 hp, fun o => ?_⟩
    obtain ⟨vs, q, _⟩ := r.ownH o
    rw [hp] at q
    cases q
  · rw [upd_ne (ne_of_none h1 hp)]
    exact h2
/-- a list that is nobody's is frozen -/
theorem Rep.frz (r : Rep G K F ps σ H) {p : Addr} {vs : List V} (hp : H p = some (.lst vs)) (f : F p = none) (h0 : G.H0 p = none) (no : ¬ Own ps σ p) : Rep G K (upd F p (.lst vs)) ps σ H := by
  have fs := same_upd (o := .lst vs) f
  refine r.grow fs (fun b x e => ?_) (fun _ _ e => e) (fun a h1 h2 => ?_)
  · by_cases hb : b = p
    · subst hb
      rw [upd_same] at e
      cases e
      exact hp
    · rw [upd_ne hb] at e
      exact r.fh _ _ e
  · have e : a = p := by
      by_cases hb : a = p
      · exact hb
      · rw [upd_ne hb] at h1
        exact absurd h2 h1
    subst e
    exact ⟨h0, no⟩
theorem getSet {α : Type} {l : List α} {i j : Nat} {x y : α} (h : (l.set i x)[j]? = some y) : (j = i ∧ x = y ∧ i < l.length) ∨ (j ≠ i ∧ l[j]? = some y) := by
  by_cases e : j = i
  · subst e
    by_cases hl : j < l.length
    · rw [List.getElem?_set_self hl] at h
      exact .inl ⟨rfl, Option.some.inj h, hl⟩
    · rw [List.getElem?_eq_none (by simp; omega)] at h
      cases h
  · rw [List.getElem?_set_ne (Ne.symm e)] at h
    exact .inr ⟨e, h⟩
theorem ltOf {α : Type} {l : List α} {i : Nat} {x : α} (h : l[i]? = some x) : i < l.length := (List.getElem?_eq_some_iff.mp h).1

/-- an own list at slot i is frozen -/
def PS.put (ps : PS) (i : Nat) (s : Sl) : PS := { ps with sl := ps.sl.set i s }
theorem Rep.frzSl (r : Rep G K F ps σ H) {i : Nat} {ds : List Dat} (e : ps.sl[i]? = some (.ow ds)) :
    ∃ p vs, σ[i]? = some (some (.ref p)) ∧ H p = some (.lst vs) ∧ Post G K F ps σ H (upd F p (.lst vs)) (ps.put i (.fr (.list ds))) H ∧ Rel K (upd F p (.lst vs)) G.T (.list ds) (.ref p) := by
  obtain ⟨o, e1, p, vs, rfl, hp, hf, h0, rl⟩ := r.slots i _ e
  have fs := same_upd (o := .lst vs) hf
  have fh : Same (upd F p (.lst vs)) H := fun b x e => by
    by_cases hb : b = p
    · subst hb
      rw [upd_same] at e
      cases e
      exact hp
    · rw [upd_ne hb] at e
      exact r.fh _ _ e
  have rl' : Rel K (upd F p (.lst vs)) G.T (.list ds) (.ref p) := by
    unfold Rel
    exact ⟨p, vs, rfl, upd_same, RelL.mono fs _ _ rl⟩
  have own' : ∀ q, Own (ps.put i (.fr (.list ds))) σ q → Own ps σ q ∧ q ≠ p := by
    rintro q ⟨j, dj, e2, e3⟩
    rcases getSet e2 with ⟨rfl, z, _⟩ | ⟨hj, e2⟩
    · cases z
    · refine ⟨⟨j, dj, e2, e3⟩, fun z => ?_⟩
      subst z
      exact hj (r.sep _ _ _ _ _ e2 e e3 e1)
  refine ⟨p, vs, e1, hp, ⟨⟨?_, fun j s e2 => ?_, fun a b da db q ha hb hqa hqb => ?_, r.dr, fun h => ?_, fh, r.kp, fun a ha => ?_, r.ff.trans fs, r.nd⟩, fs, fun q ws h1 h2 h3 h4 => ⟨h1, ?_, fun z => h4 (own' q z).1⟩, fun _ h => h⟩, rl'⟩
  · show σ.length = (ps.sl.set i _).length
    rw [List.length_set]
    exact r.len
  · rcases getSet e2 with ⟨rfl, rfl, _⟩ | ⟨hj, e2⟩
    · exact ⟨_, e1, _, rfl, rl'⟩
    · obtain ⟨o, e3, q⟩ := r.slots j s e2
      refine ⟨o, e3, q.mono fs fun q ws ds' es eo h1 h2 h3 => ⟨h1, ?_⟩⟩
      rw [upd_ne]
      · exact h2
      · rintro rfl
        exact hj (r.sep _ _ _ _ _ (by rw [e2, es]) e (by rw [e3, eo]) e1)
  · rcases getSet ha with ⟨_, z, _⟩ | ⟨_, ha⟩
    · cases z
    · rcases getSet hb with ⟨_, z, _⟩ | ⟨_, hb⟩
      · cases z
      · exact r.sep _ _ _ _ _ ha hb hqa hqb
  · obtain ⟨a, b, c, d⟩ := r.ft h
    refine ⟨?_, ?_, c, d⟩
    · rw [upd_ne]
      · exact a
      · rintro rfl
        exact c h0
    · rw [upd_ne]
      · exact b
      · rintro rfl
        exact d h0
  · rw [upd_ne]
    · exact r.f0 a ha
    · rintro rfl
      exact ha h0
  · rw [upd_ne]
    · exact h2
    · rintro rfl
      exact h4 ⟨i, ds, e, e1⟩
/-- an own list is written -/
theorem Rep.wr (r : Rep G K F ps σ H) {i : Nat} {ds ds' : List Dat} {p : Addr} {vs' : List V} (e : ps.sl[i]? = some (.ow ds)) (ep : σ[i]? = some (some (.ref p))) (rl : RelL K F G.T ds' vs') :
    Post G K F ps σ H F (ps.put i (.ow ds')) (upd H p (.lst vs')) := by
  obtain ⟨o, e1, p', vs, rfl, hp, hf, h0, _⟩ := r.slots i _ e
  rw [e1] at ep
  cases ep
  have own' : ∀ q, Own (ps.put i (.ow ds')) σ q → Own ps σ q := by
    rintro q ⟨j, dj, e2, e3⟩
    rcases getSet e2 with ⟨rfl, z, _⟩ | ⟨hj, e2⟩
    · exact ⟨j, ds, e, e3⟩
    · exact ⟨j, dj, e2, e3⟩
  refine ⟨⟨?_, fun j s e2 => ?_, fun a b da db q ha hb hqa hqb => ?_, fun h => ?_, r.ft, fun b x e2 => ?_, fun a o ha hx => ?_, r.f0, r.ff, r.nd⟩, Same.refl F, fun q ws h1 h2 h3 h4 => ⟨?_, h2, fun z => h4 (own' q z)⟩, fun a h => ?_⟩
  · show σ.length = (ps.sl.set i _).length
    rw [List.length_set]
    exact r.len
  · rcases getSet e2 with ⟨rfl, rfl, _⟩ | ⟨hj, e2⟩
    · exact ⟨_, e1, p, vs', rfl, upd_same, hf, h0, rl⟩
    · obtain ⟨o, e3, q⟩ := r.slots j s e2
      refine ⟨o, e3, q.mono (Same.refl F) fun q ws ds' es eo h1 h2 h3 => ⟨?_, h2⟩⟩
      rw [upd_ne]
      · exact h1
      · rintro rfl
        exact hj (r.sep _ _ _ _ _ (by rw [e2, es]) e (by rw [e3, eo]) e1)
  · have f1 : ∃ d, ps.sl[a]? = some (.ow d) := by
      rcases getSet ha with ⟨rfl, z, _⟩ | ⟨_, ha⟩
      · exact ⟨_, e⟩
      · exact ⟨_, ha⟩
    have f2 : ∃ d, ps.sl[b]? = some (.ow d) := by
      rcases getSet hb with ⟨rfl, z, _⟩ | ⟨_, hb⟩
      · exact ⟨_, e⟩
      · exact ⟨_, hb⟩
    obtain ⟨_, f1⟩ := f1
    obtain ⟨_, f2⟩ := f2
    exact r.sep _ _ _ _ _ f1 f2 hqa hqb
  · refine (r.dr h).keep fun a o ha hx => ?_
    rw [upd_ne]
    · exact ha
    · obtain ⟨_, _, c, d⟩ := r.ft h
      rintro rfl
      rcases hx with rfl | rfl
      · exact c h0
      · exact d h0
  · have hb : b ≠ p := by
      rintro rfl
      rw [hf] at e2
      cases e2
    rw [upd_ne hb]
    exact r.fh _ _ e2
  · rw [upd_ne]
    · exact r.kp a o ha hx
    · rintro rfl
      rw [h0] at ha
      cases ha
  · rw [upd_ne]
    · exact h1
    · rintro rfl
      exact h4 ⟨i, ds, e, e1⟩
  · by_cases ha : a = p
    · subst ha
      rw [upd_same] at h
      cases h
    · rwa [upd_ne ha] at h
end

/-! ### values within an expression -/
/-- data; a new list that is nobody's; what a slot holds -/
inductive RV where
  | im (d : Dat)
  | nw (ds : List Dat)
  | sl (i : Nat)
def RVok (G : Ctl) (K : Fg) (F : Hp) (ps : PS) (σ : L2.St) (Hs H : Hp) : RV → V → Prop
  | .im d, v => Rel K F G.T d v
  | .nw ds, v => ∃ p vs, v = .ref p ∧ H p = some (.lst vs) ∧ F p = none ∧ G.H0 p = none ∧ ¬ Own ps σ p ∧ RelL K F G.T ds vs ∧ Hs p = none
  | .sl i, v => σ[i]? = some (some v)
theorem RVok.post {G : Ctl} {K : Fg} {F F' : Hp} {ps ps' : PS} {σ : L2.St} {Hs H H' : Hp} {r : RV} {v : V} (h : RVok G K F ps σ Hs H r v) (p : Post G K F ps σ H F' ps' H') : RVok G K F' ps' σ Hs H' r v := by
  cases r with
  | im d => exact Rel.mono p.same _ _ h
  | nw ds =>
    obtain ⟨q, vs, e, h1, h2, h3, h4, h5, h6⟩ := h
    obtain ⟨a, b, c⟩ := p.fresh q vs h1 h2 h3 h4
    exact ⟨q, vs, e, a, b, h3, c, RelL.mono p.same _ _ h5, h6⟩
  | sl i => exact h
theorem RVok.back {G : Ctl} {K : Fg} {F : Hp} {ps : PS} {σ : L2.St} {Hs Hs' H : Hp} {r : RV} {v : V} (h : RVok G K F ps σ Hs' H r v) (d : ∀ a, Hs' a = none → Hs a = none) : RVok G K F ps σ Hs H r v := by
  cases r with
  | im d => exact h
  | nw ds =>
    obtain ⟨q, vs, e, h1, h2, h3, h4, h5, h6⟩ := h
    exact ⟨q, vs, e, h1, h2, h3, h4, h5, d _ h6⟩
  | sl i => exact h

/-- data as it is read now: an own list's items are frozen, the list itself need not be -/
def BRel (K : Fg) (F H : Hp) (T : Addr) : Dat → V → Prop
  | .list ds, v => ∃ a xs, v = .ref a ∧ H a = some (.lst xs) ∧ RelL K F T ds xs
  | d, v => Rel K F T d v
theorem BRel.of {K : Fg} {F H : Hp} {T : Addr} (s : Same F H) {d : Dat} {v : V} (h : Rel K F T d v) : BRel K F H T d v := by
  cases d with
  | list ds =>
    unfold Rel at h
    obtain ⟨a, xs, e, h1, h2⟩ := h
    exact ⟨a, xs, e, s _ _ h1, h2⟩
  | _ => exact h
theorem BRel.rel {K : Fg} {F H : Hp} {T : Addr} (s : Same F H) {d : Dat} {v : V} (h : BRel K F H T d v) : Rel K H T d v := by
  cases d with
  | list ds =>
    unfold Rel
    obtain ⟨a, xs, e, h1, h2⟩ := h
    exact ⟨a, xs, e, h1, RelL.mono s _ _ h2⟩
  | _ => exact Rel.mono s _ _ h

def brw (r : RV) (ps : PS) : Option Dat :=
  match r with
  | .im d => some d
  | .nw ds => some (.list ds)
  | .sl i => match ps.sl[i]? with
    | some (.fr d) => some d
    | some (.ow ds) => some (.list ds)
    | _ => none
theorem brw_ok {G : Ctl} {K : Fg} {F : Hp} {ps : PS} {σ : L2.St} {Hs H : Hp} {r : RV} {v : V} {d : Dat} (R : Rep G K F ps σ H) (h : RVok G K F ps σ Hs H r v) (e : brw r ps = some d) : BRel K F H G.T d v := by
  cases r with
  | im d' => cases e; exact .of R.fh h
  | nw ds =>
    cases e
    obtain ⟨q, vs, e, h1, h2, h3, h4, h5, _⟩ := h
    exact ⟨q, vs, e, h1, h5⟩
  | sl i =>
    have h : σ[i]? = some (some v) := h
    unfold brw at e
    cases q : ps.sl[i]? with
    | none => simp [q] at e
    | some s =>
      obtain ⟨o, e1, z⟩ := R.slots i s q
      rw [h] at e1
      cases e1
      cases s with
      | un => simp [q] at e
      | fr d' =>
        simp [q] at e
        subst e
        obtain ⟨v', e2, z⟩ := z
        cases e2
        exact .of R.fh z
      | ow ds =>
        simp [q] at e
        subst e
        obtain ⟨p, vs, e2, h1, h2, h3, h5⟩ := z
        cases e2
        exact ⟨p, vs, rfl, h1, h5⟩

/-- a new list that waits is frozen -/
def settle : RV → RV
  | .nw ds => .im (.list ds)
  | r => r
theorem settle_ok {G : Ctl} {K : Fg} {F F1 : Hp} {ps ps1 : PS} {σ : L2.St} {H H1 : Hp} {r : RV} {v : V} (P : Post G K F ps σ H F1 ps1 H1) (h : RVok G K F1 ps1 σ H H1 r v) : ∃ F', Post G K F ps σ H F' ps1 H1 ∧ RVok G K F' ps1 σ H H1 (settle r) v := by
  cases r with
  | im d => exact ⟨F1, P, h⟩
  | sl i => exact ⟨F1, P, h⟩
  | nw ds =>
    obtain ⟨p, vs, rfl, h1, h2, h3, h4, h5, h6⟩ := h
    have fs := same_upd (o := .lst vs) h2
    refine ⟨upd F1 p (.lst vs), ⟨P.rep.frz h1 h2 h3 h4, P.same.trans fs, fun q ws a b c d => ?_, P.dom⟩, ?_⟩
    · obtain ⟨x, y, z⟩ := P.fresh q ws a b c d
      refine ⟨x, ?_, z⟩
      rw [upd_ne]
      · exact y
      · rintro rfl
        rw [h6] at a
        cases a
    · show Rel _ _ _ _ _
      unfold Rel
      exact ⟨p, vs, rfl, upd_same, RelL.mono fs _ _ h5⟩

/-- a value that is kept: frozen -/
def keepV (r : RV) (ps : PS) : Option (Dat × PS) :=
  match r with
  | .im d => some (d, ps)
  | .nw ds => some (.list ds, ps)
  | .sl i => match ps.sl[i]? with
    | some (.fr d) => some (d, ps)
    | some (.ow ds) => some (.list ds, ps.put i (.fr (.list ds)))
    | _ => none
theorem keepV_ok {G : Ctl} {K : Fg} {F F1 : Hp} {ps ps1 ps2 : PS} {σ : L2.St} {H H1 : Hp} {r : RV} {v : V} {d : Dat} (P : Post G K F ps σ H F1 ps1 H1) (h : RVok G K F1 ps1 σ H H1 r v) (e : keepV r ps1 = some (d, ps2)) :
    ∃ F', Post G K F ps σ H F' ps2 H1 ∧ Rel K F' G.T d v := by
  cases r with
  | im d' => cases e; exact ⟨F1, P, h⟩
  | nw ds =>
    cases e
    obtain ⟨F', P', h'⟩ := settle_ok P h
    exact ⟨F', P', h'⟩
  | sl i =>
    have h : σ[i]? = some (some v) := h
    unfold keepV at e
    cases q : ps1.sl[i]? with
    | none => simp [q] at e
    | some s =>
      obtain ⟨o, e1, z⟩ := P.rep.slots i s q
      cases s with
      | un => simp [q] at e
      | fr d' =>
        simp [q] at e
        obtain ⟨rfl, rfl⟩ := e
        rw [h] at e1
        cases e1
        obtain ⟨v', e2, z⟩ := z
        cases e2
        exact ⟨F1, P, z⟩
      | ow ds =>
        simp [q] at e
        obtain ⟨rfl, rfl⟩ := e
        obtain ⟨p, vs, e3, hp, P', rl⟩ := P.rep.frzSl q
        rw [h] at e3
        cases e3
        exact ⟨_, P.trans P', rl⟩
end MP

namespace MP
open PySem PySem.Spec PyProof.Rows L2

/-! ### denotations -/
abbrev M (α : Type) := PS → Option (α × PS)
def M.ret {α : Type} (a : α) : M α := fun ps => some (a, ps)
def M.bnd {α β : Type} (m : M α) (k : α → M β) : M β := fun ps => (m ps).bind fun x => k x.1 x.2

/-- a new tuple, its object known -/
def NewT (H : Hp) (xs : List V) (Q : VK) : Prop := ∀ (p : Addr) (o : Obj), H p = none → o.dict = none → Q (.ref p) (upd H p (.frz o (.tup xs)))
theorem NewT.put {X : Cx} {pins : List (Addr × Obj)} {s : Shared} {σ : L2.St} {H : Hp} {Q : VK} {xs : List V} {its : List Value} (q : NewT H xs Q) (I : Inv X pins σ H s) (r : Vals xs its) (hz : xs.length ≤ sizeLine) :
    EP X pins σ Q (.ref s.heap.objs.size) { s with heap := s.heap.push { cls := .type "tuple", data := .seq its.toArray } } := by
  have I2 := I.laid (t' := s.toks) (a := s.heap.objs.size) (h' := s.heap.push { cls := .type "tuple", data := .seq its.toArray }) (o := .frz { cls := .type "tuple", data := .seq its.toArray } (.tup xs)) (fun b o e => Heap.get?_push_of_some _ e) (Nat.le_refl _) ⟨Heap.get?_push_size _ rfl, hz, its, r, IsTup.new _ _⟩
  exact ⟨V.ref s.heap.objs.size, _, I2, rfl, q _ _ (I.hok.fresh (Nat.le_refl _)) rfl⟩

structure SndE (K : Fg) (t : TE) (f : M RV) : Prop where
  go : ∀ (G : Ctl) (F : Hp) (ps : PS) (σ : L2.St) (H : Hp) (r : RV) (ps' : PS) (Q : VK), Rep G K F ps σ H → f ps = some (r, ps') →
    (∀ v F' H', Post G K F ps σ H F' ps' H' → RVok G K F' ps' σ H H' r v → Q v H') → t σ H Q
structure SndT (K : Fg) (t : TT) (f : M Bool) : Prop where
  go : ∀ (G : Ctl) (F : Hp) (ps : PS) (σ : L2.St) (H : Hp) (b : Bool) (ps' : PS) (Q : Bool → Hp → Prop), Rep G K F ps σ H → f ps = some (b, ps') →
    (∀ F' H', Post G K F ps σ H F' ps' H' → Q b H') → t σ H Q
/-- kept arguments -/
structure SndA (K : Fg) (t : TA) (f : M (List Dat)) : Prop where
  go : ∀ (G : Ctl) (F : Hp) (ps : PS) (σ : L2.St) (H : Hp) (ds : List Dat) (ps' : PS) (Q : List V → Hp → Prop), Rep G K F ps σ H → f ps = some (ds, ps') →
    (∀ vs F' H', Post G K F ps σ H F' ps' H' → RelL K F' G.T ds vs → Q vs H') → t σ H Q
structure DE (X : Cx) (e : Expr) (t : TE) (f : M RV) : Prop where
  pe : PE X e t
  sn : SndE X.K t f
structure DT (X : Cx) (e : Expr) (t : TT) (f : M Bool) : Prop where
  pe : PT X e t
  sn : SndT X.K t f
/-- a test within and, or -/
structure DW (X : Cx) (e : Expr) (t : TT) (f : M Bool) : Prop where
  pe : PW X e t
  sn : SndT X.K t f
structure DA (X : Cx) (es : List Expr) (t : TA) (f : M (List Dat)) : Prop where
  pe : PA X es t
  sn : SndA X.K t f

/-! ### names, constants -/
def rdV (i : Nat) : M RV := fun ps => match ps.sl[i]? with
  | some (.fr d) => some (.im d, ps)
  | some (.ow _) => some (.sl i, ps)
  | _ => none
theorem snd_var {K : Fg} (i : Nat) : SndE K (tVar i) (rdV i) := by
  refine ⟨fun G F ps σ H r ps' Q R e q => ?_⟩
  unfold rdV at e
  cases z : ps.sl[i]? with
  | none => simp [z] at e
  | some s =>
    obtain ⟨o, e1, y⟩ := R.slots i s z
    cases s with
    | un => simp [z] at e
    | fr d =>
      simp [z] at e
      obtain ⟨rfl, rfl⟩ := e
      obtain ⟨v, rfl, y⟩ := y
      exact ⟨v, e1, q v F H (.refl R) y⟩
    | ow ds =>
      simp [z] at e
      obtain ⟨rfl, rfl⟩ := e
      obtain ⟨p, vs, rfl, _⟩ := y
      exact ⟨.ref p, e1, q _ F H (.refl R) e1⟩
def kst (d : Dat) : M RV := fun ps => some (.im d, ps)
theorem snd_kst {K : Fg} {d : Dat} {v : V} (h : ∀ F T, Rel K F T d v) : SndE K (tC v) (kst d) := by
  refine ⟨fun G F ps σ H r ps' Q R e q => ?_⟩
  cases e
  exact q v F H (.refl R) (h F G.T)
section
variable {X : Cx} {a b c e : Expr} {ta tb tc te : TE} {fa fb fc fe : M RV} {pos : Pos}
theorem de_var {i : Nat} {x : Str} (hN : X.N[i]? = some x) (hv : Vis X.env.scope x) (hd : (x == ("__debug__" : Str)) = false := by decide) (hcd : (x == ("__classdict__" : Str)) = false := by decide) : DE X (.Name x pos) (tVar i) (rdV i) :=
  ⟨pe_var hN hv hd hcd, snd_var i⟩
theorem de_int {i j} : DE X (.Constant (.int i) j pos) (tC (.int i)) (kst (.int i)) := ⟨pe_int, snd_kst fun _ _ => by unfold Rel; rfl⟩
theorem de_bl {k j} : DE X (.Constant (.bool k) j pos) (tC (.bl k)) (kst (.bool k)) := ⟨pe_bl, snd_kst fun _ _ => by unfold Rel; rfl⟩
theorem de_non {j} : DE X (.Constant .none j pos) (tC .non) (kst .none) := ⟨pe_non, snd_kst fun _ _ => by unfold Rel; rfl⟩
theorem de_str {x j} : DE X (.Constant (.str x) j pos) (tC (.str x)) (kst (.str x)) := ⟨pe_str, snd_kst fun _ _ => by unfold Rel; rfl⟩

/-! ### operations on data -/
def OpSnd (K : Fg) (r : R2) (g : Dat → Dat → Option RV) : Prop :=
  ∀ (G : Ctl) (F : Hp) (ps : PS) (σ : L2.St) (H : Hp) (x y : V) (d e : Dat) (out : RV) (Q : VK), Rep G K F ps σ H → BRel K F H G.T d x → BRel K F H G.T e y → g d e = some out →
    (∀ v F' H', Post G K F ps σ H F' ps H' → RVok G K F' ps σ H H' out v → Q v H') → r x y H Q
def UnSnd (K : Fg) (r : V → Hp → VK → Prop) (g : Dat → Option RV) : Prop :=
  ∀ (G : Ctl) (F : Hp) (ps : PS) (σ : L2.St) (H : Hp) (x : V) (d : Dat) (out : RV) (Q : VK), Rep G K F ps σ H → BRel K F H G.T d x → g d = some out →
    (∀ v F' H', Post G K F ps σ H F' ps H' → RVok G K F' ps σ H H' out v → Q v H') → r x H Q
def opM (g : Dat → Dat → Option RV) (fa fb : M RV) : M RV := fun ps =>
  (fa ps).bind fun x => (fb x.2).bind fun y => (brw (settle x.1) y.2).bind fun d => (brw y.1 y.2).bind fun e => (g d e).bind fun r => some (r, y.2)
def unM (g : Dat → Option RV) (fa : M RV) : M RV := fun ps =>
  (fa ps).bind fun x => (brw x.1 x.2).bind fun d => (g d).bind fun r => some (r, x.2)
theorem snd_op {K : Fg} {r : R2} {g : Dat → Dat → Option RV} (hg : OpSnd K r g) (ha : SndE K ta fa) (hb : SndE K tb fb) : SndE K (tOp r ta tb) (opM g fa fb) := by
  refine ⟨fun G F ps σ H out ps' Q R e q => ?_⟩
  unfold opM at e
  obtain ⟨⟨ra, ps1⟩, e1, e⟩ := Option.bind_eq_some_iff.mp e
  obtain ⟨⟨rb, ps2⟩, e2, e⟩ := Option.bind_eq_some_iff.mp e
  obtain ⟨d, e3, e⟩ := Option.bind_eq_some_iff.mp e
  obtain ⟨d', e4, e⟩ := Option.bind_eq_some_iff.mp e
  obtain ⟨out', e5, e⟩ := Option.bind_eq_some_iff.mp e
  cases e
  refine ha.go G F ps σ H ra ps1 _ R e1 fun x F1 H1 P1 r1 => ?_
  obtain ⟨F1', P1', r1'⟩ := settle_ok P1 r1
  refine hb.go G F1' ps1 σ H1 rb ps2 _ P1'.rep e2 fun y F2 H2 P2 r2 => ?_
  refine hg G F2 ps2 σ H2 x y d d' out Q P2.rep (brw_ok P2.rep (r1'.post P2) e3) (brw_ok P2.rep r2 e4) e5 fun v F' H' P3 r3 => ?_
  have P := (P1'.trans P2).trans P3
  exact q v F' H' P (r3.back (P1'.trans P2).dom)
theorem snd_un {K : Fg} {r : V → Hp → VK → Prop} {g : Dat → Option RV} (hg : UnSnd K r g) (ha : SndE K ta fa) : SndE K (tUn r ta) (unM g fa) := by
  refine ⟨fun G F ps σ H out ps' Q R e q => ?_⟩
  unfold unM at e
  obtain ⟨⟨ra, ps1⟩, e1, e⟩ := Option.bind_eq_some_iff.mp e
  obtain ⟨d, e3, e⟩ := Option.bind_eq_some_iff.mp e
  obtain ⟨out', e5, e⟩ := Option.bind_eq_some_iff.mp e
  cases e
  refine ha.go G F ps σ H ra ps1 _ R e1 fun x F1 H1 P1 r1 => ?_
  refine hg G F1 ps1 σ H1 x d out Q P1.rep (brw_ok P1.rep r1 e3) e5 fun v F' H' P3 r3 => ?_
  exact q v F' H' (P1.trans P3) (r3.back P1.dom)
end
/-! ### ways out -/
section
variable {G : Ctl} {K : Fg} {F : Hp} {ps : PS} {σ : L2.St} {H : Hp} {Q : VK}
theorem out_im {d : Dat} {v : V} (R : Rep G K F ps σ H) (h : Rel K F G.T d v) (q : ∀ v F' H', Post G K F ps σ H F' ps H' → RVok G K F' ps σ H H' (.im d) v → Q v H') : Q v H := q v F H (.refl R) h
theorem out_nw {ds : List Dat} {vs : List V} (R : Rep G K F ps σ H) (h : RelL K F G.T ds vs) (q : ∀ v F' H', Post G K F ps σ H F' ps H' → RVok G K F' ps σ H H' (.nw ds) v → Q v H') : ∀ p, H p = none → Q (.ref p) (upd H p (.lst vs)) := fun p hp => by
  have P := R.newL (vs := vs) hp
  refine q _ _ _ P ⟨p, vs, rfl, upd_same, R.fn hp, R.h0 hp, fun o => ?_, h, hp⟩
  obtain ⟨ws, z, _⟩ := R.ownH o
  rw [hp] at z
  cases z
theorem out_tp {ds : List Dat} {vs : List V} (R : Rep G K F ps σ H) (h : RelL K F G.T ds vs) (q : ∀ v F' H', Post G K F ps σ H F' ps H' → RVok G K F' ps σ H H' (.im (.tuple ds)) v → Q v H') : NewT H vs Q := fun p o hp ho => by
  have P := R.newF (o := .frz o (.tup vs)) hp
  refine q _ _ _ P ?_
  show Rel _ _ _ _ _
  unfold Rel
  exact ⟨p, vs, rfl, ⟨o, upd_same, ho⟩, RelL.mono P.same _ _ h⟩
end
theorem rInt {K : Fg} {F : Hp} {T : Addr} {i : Int} {v : V} : Rel K F T (.int i) v ↔ v = .int i := by unfold Rel; exact Iff.rfl
theorem rBl {K : Fg} {F : Hp} {T : Addr} {i : Bool} {v : V} : Rel K F T (.bool i) v ↔ v = .bl i := by unfold Rel; exact Iff.rfl
theorem rStr {K : Fg} {F : Hp} {T : Addr} {i : Str} {v : V} : Rel K F T (.str i) v ↔ v = .str i := by unfold Rel; exact Iff.rfl
theorem rNon {K : Fg} {F : Hp} {T : Addr} {v : V} : Rel K F T .none v ↔ v = .non := by unfold Rel; exact Iff.rfl
theorem rTupE {K : Fg} {F : Hp} {T : Addr} {ds : List Dat} {v : V} (h : Rel K F T (.tuple ds) v) : ∃ a xs, v = .ref a ∧ SqT K F a xs ∧ RelL K F T ds xs := by
  unfold Rel at h
  obtain ⟨a, xs, e, h1, h2⟩ := h
  exact ⟨a, xs, e, h1.sqT, h2⟩
theorem rTupD {K : Fg} {F : Hp} {T : Addr} {ds : List Dat} {v : V} (h : Rel K F T (.tuple ds) v) : ∃ a xs, v = .ref a ∧ TupD F a xs ∧ RelL K F T ds xs := by
  unfold Rel at h
  exact h
theorem rLst {K : Fg} {F : Hp} {T : Addr} {ds : List Dat} {v : V} : Rel K F T (.list ds) v ↔ ∃ a xs, v = .ref a ∧ F a = some (.lst xs) ∧ RelL K F T ds xs := by rw [Rel]
section
variable {K : Fg} {F H : Hp} {T : Addr} {v : V}
theorem bInt {i : Int} (h : BRel K F H T (.int i) v) : v = .int i := (rInt (K := K) (F := F) (T := T)).mp h
theorem bBl {i : Bool} (h : BRel K F H T (.bool i) v) : v = .bl i := (rBl (K := K) (F := F) (T := T)).mp h
theorem bStr {i : Str} (h : BRel K F H T (.str i) v) : v = .str i := (rStr (K := K) (F := F) (T := T)).mp h
theorem bNon (h : BRel K F H T .none v) : v = .non := (rNon (K := K) (F := F) (T := T)).mp h
theorem bTup {ds : List Dat} (s : Same F H) (h : BRel K F H T (.tuple ds) v) : ∃ a xs, v = .ref a ∧ SqT K H a xs ∧ RelL K F T ds xs := by
  obtain ⟨a, xs, e, h1, h2⟩ := rTupE (K := K) (F := F) (T := T) h
  exact ⟨a, xs, e, seqT s h1, h2⟩
theorem bLst {ds : List Dat} (h : BRel K F H T (.list ds) v) : ∃ a xs, v = .ref a ∧ H a = some (.lst xs) ∧ RelL K F T ds xs := h
theorem bDic {y : Dat × Dat} {z : Dat} {l : List (Dat × Dat)} {ds : List Dat} (s : Same F H) (h : BRel K F H T (.dict (y :: (z, .list ds) :: l)) v) : ∃ a xs, v = .ref a ∧ SqL K H a xs ∧ RelL K F T ds xs := by
  have h : Rel K F T (.dict (y :: (z, .list ds) :: l)) v := h
  unfold Rel at h
  obtain ⟨a, xs, e, h1, h2⟩ := h
  exact ⟨a, xs, e, seqL s h1, h2⟩
end

/-! ### + - * // % -/
def line (n : Nat) : Bool := decide (n ≤ sizeLine)
def addD : Dat → Dat → Option RV
  | .int i, .int j => some (.im (.int (i + j)))
  | .str x, .str y => if line (x.length + y.length) then some (.im (.str (x ++ y))) else none
  | .list xs, .list ys => if line (xs.length + ys.length) then some (.nw (xs ++ ys)) else none
  | .tuple xs, .tuple ys => if line (xs.length + ys.length) then some (.im (.tuple (xs ++ ys))) else none
  | _, _ => none

abbrev R2or (r r' : R2) : R2 := fun x y H Q => r x y H Q ∨ r' x y H Q
def rInt2 (g : Int → Int → V) : R2 := rI0 g
def rStrAdd : R2 := fun x y H Q => ∃ i j, x = .str i ∧ y = .str j ∧ i.length + j.length ≤ sizeLine ∧ Q (.str (i ++ j)) H
/-- two tuples made one; the empty one adds nothing -/
def rCatD (K : Fg) : R2 := fun x y H Q => ∃ (a b : Addr) (xs ys : List V), x = .ref a ∧ y = .ref b ∧ SqT K H a xs ∧ SqT K H b ys ∧ xs.length + ys.length ≤ sizeLine ∧ (xs = [] → Q (.ref b) H) ∧ (xs ≠ [] → ys = [] → Q (.ref a) H) ∧ (xs ≠ [] → ys ≠ [] → NewT H (xs ++ ys) Q)
theorem op_catD {X : Cx} : OpR X (binaryOp .Add) (rCatD X.K) := by
  rintro pins s σ H x y v u Q I rx ry ⟨a, b, xs, ys, rfl, rfl, ha, hb, hz, q0, q1, q2⟩
  cases rx
  cases ry
  obtain ⟨us, ru, pu, _⟩ := I.tuple ha
  obtain ⟨ws, rw', pw, _⟩ := I.tuple hb
  rcases Classical.em (xs = []) with rfl | hx
  · cases ru
    exact cat_tup0 pu pw ⟨V.ref b, H, I, rfl, q0 rfl⟩
  · refine HT.cat_tup pu pw (fun z => hx (ru.nil_iff.mp z)) (fun z => ⟨V.ref a, H, I, rfl, q1 hx (rw'.nil_iff.mp z)⟩) (fun z => ?_) (by rw [← ru.length, ← rw'.length]; exact hz)
    exact (q2 hx fun y => z (rw'.nil_iff.mpr y)).put I (ru.append rw') (by rw [List.length_append]; exact hz)
def rAddD (K : Fg) : R2 := R2or (rI0 fun i j => .int (i + j)) (R2or rStrAdd (R2or rCat (rCatD K)))
theorem op_addD {X : Cx} : OpR X (binaryOp .Add) (rAddD X.K) := op_add.or (op_add_str.or (op_cat.or op_catD))
theorem line_le {n : Nat} (h : line n = true) : n ≤ sizeLine := of_decide_eq_true h
theorem addD_ok {K : Fg} : OpSnd K (rAddD K) addD := by
  intro G F ps σ H x y d e out Q R hx hy hg q
  unfold addD at hg
  split at hg
  · cases hg
    rw [bInt hx, bInt hy]
    exact .inl ⟨_, _, rfl, rfl, out_im R (by unfold Rel; rfl) q⟩
  · split at hg
    · rename_i hl
      cases hg
      rw [bStr hx, bStr hy]
      exact .inr (.inl ⟨_, _, rfl, rfl, line_le hl, out_im R (by unfold Rel; rfl) q⟩)
    · cases hg
  · split at hg
    · rename_i xs ys hl
      cases hg
      obtain ⟨a, vs, rfl, h1, h2⟩ := bLst hx
      obtain ⟨b, ws, rfl, h3, h4⟩ := bLst hy
      refine .inr (.inr (.inl ⟨a, b, vs, ws, rfl, rfl, h1, h3, ?_, out_nw R (h2.append h4) q⟩))
      rw [h2.len, h4.len]
      exact line_le hl
    · cases hg
  · split at hg
    · rename_i xs ys hl
      cases hg
      obtain ⟨a, vs, rfl, h1, h2⟩ := bTup R.fh hx
      obtain ⟨b, ws, rfl, h3, h4⟩ := bTup R.fh hy
      refine .inr (.inr (.inr ⟨a, b, vs, ws, rfl, rfl, h1, h3, ?_, fun ez => ?_, fun _ ez => ?_, fun _ _ => out_tp R (h2.append h4) q⟩))
      · rw [h2.len, h4.len]
        exact line_le hl
      · have e1 : xs = [] := h2.nil_iff.mp ez
        subst e1
        exact out_im R hy q
      · have e1 : ys = [] := h4.nil_iff.mp ez
        subst e1
        refine out_im R ?_ q
        rw [List.append_nil]
        exact hx
    · cases hg
  · cases hg
def subD : Dat → Dat → Option RV
  | .int i, .int j => some (.im (.int (i - j)))
  | _, _ => none
theorem subD_ok {K : Fg} : OpSnd K (rI0 fun i j => .int (i - j)) subD := by
  intro G F ps σ H x y d e out Q R hx hy hg q
  unfold subD at hg
  split at hg
  · cases hg
    rw [bInt hx, bInt hy]
    exact ⟨_, _, rfl, rfl, out_im R (by unfold Rel; rfl) q⟩
  · cases hg
/-- below 2 ^ 64 -/
def sm64 (i : Int) : Bool := decide (i.natAbs < 2 ^ 64)
theorem sm64_iff {i : Int} : sm64 i = true ↔ -(2 ^ 64) < i ∧ i < 2 ^ 64 := by
  unfold sm64
  rw [decide_eq_true_eq]
  omega
/-- told by natAbs: the kernel must never count down from a great number -/
def b62 (i : Int) : Bool := decide (i.natAbs < 2 ^ 62)
theorem b62_iff {i : Int} : b62 i = true ↔ -(2 ^ 62) < i ∧ i < 2 ^ 62 := by
  unfold b62
  rw [decide_eq_true_eq]
  omega
theorem b62_63 {i : Int} (h : b62 i = true) : -(2 ^ 63) ≤ i ∧ i < 2 ^ 63 := by
  have := b62_iff.mp h
  omega
def mulD : Dat → Dat → Option RV
  | .int i, .int j => if sm64 i || sm64 j then some (.im (.int (i * j))) else none
  | .list xs, .int k => if b62 k && line (xs.length * k.toNat) then some (.nw (List.replicate k.toNat xs).flatten) else none
  | _, _ => none
def rMulD : R2 := R2or (rI CMul fun i j => .int (i * j)) rRep
theorem op_mulD {X : Cx} : OpR X (binaryOp .Mult) rMulD := op_mul.or op_rep
theorem mulD_ok {K : Fg} : OpSnd K rMulD mulD := by
  intro G F ps σ H x y d e out Q R hx hy hg q
  unfold mulD at hg
  split at hg
  · split at hg
    · rename_i hl
      cases hg
      rw [bInt hx, bInt hy]
      refine .inl ⟨_, _, rfl, rfl, ?_, out_im R (by unfold Rel; rfl) q⟩
      rcases Bool.or_eq_true_iff.mp hl with h | h
      · exact .inl (sm64_iff.mp h)
      · exact .inr (sm64_iff.mp h)
    · cases hg
  · split at hg
    · rename_i xs k hl
      cases hg
      obtain ⟨a, vs, rfl, h1, h2⟩ := bLst hx
      rw [bInt hy]
      simp only [Bool.and_eq_true] at hl
      refine .inr ⟨a, k, vs, rfl, rfl, h1, (b62_63 hl.1).1, (b62_63 hl.1).2, ?_, out_nw R (h2.rep _) q⟩
      rw [h2.len]
      exact line_le hl.2
    · cases hg
  · cases hg
def fdivD : Dat → Dat → Option RV
  | .int i, .int j => if decide (j ≠ 0) && decide (j.natAbs < 1073741824) then some (.im (.int (i.fdiv j))) else none
  | _, _ => none
theorem fdivD_ok {K : Fg} : OpSnd K (rI CDivN fun i j => .int (i.fdiv j)) fdivD := by
  intro G F ps σ H x y d e out Q R hx hy hg q
  unfold fdivD at hg
  split at hg
  · split at hg
    · rename_i hl
      cases hg
      rw [bInt hx, bInt hy]
      simp only [Bool.and_eq_true, decide_eq_true_eq] at hl
      exact ⟨_, _, rfl, rfl, hl, out_im R (by unfold Rel; rfl) q⟩
    · cases hg
  · cases hg
def modD : Dat → Dat → Option RV
  | .int i, .int j => if decide (j ≠ 0) then some (.im (.int (i.fmod j))) else none
  | _, _ => none
theorem modD_ok {K : Fg} : OpSnd K (rI (fun _ j => j ≠ 0) fun i j => .int (i.fmod j)) modD := by
  intro G F ps σ H x y d e out Q R hx hy hg q
  unfold modD at hg
  split at hg
  · split at hg
    · rename_i hl
      cases hg
      rw [bInt hx, bInt hy]
      simp only [decide_eq_true_eq] at hl
      exact ⟨_, _, rfl, rfl, hl, out_im R (by unfold Rel; rfl) q⟩
    · cases hg
  · cases hg
def powD : Dat → Dat → Option RV
  | .int i, .int j => if decide (0 ≤ j) && decide (j ≤ 1000000) && decide (i.natAbs < 2 ^ 64) then some (.im (.int (i ^ j.toNat))) else none
  | _, _ => none
theorem powD_ok {K : Fg} : OpSnd K (rI CPow fun i j => .int (i ^ j.toNat)) powD := by
  intro G F ps σ H x y d e out Q R hx hy hg q
  unfold powD at hg
  split at hg
  · split at hg
    · rename_i hl
      cases hg
      rw [bInt hx, bInt hy]
      simp only [Bool.and_eq_true, decide_eq_true_eq] at hl
      exact ⟨_, _, rfl, rfl, ⟨hl.1.1, hl.1.2, hl.2⟩, out_im R (by unfold Rel; rfl) q⟩
    · cases hg
  · cases hg
def negD : Dat → Option RV
  | .int i => some (.im (.int (-i)))
  | _ => none
theorem negD_ok {K : Fg} : UnSnd K (rU fun i => .int (-i)) negD := by
  intro G F ps σ H x d out Q R hx hg q
  unfold negD at hg
  split at hg
  · cases hg
    rw [bInt hx]
    exact ⟨_, rfl, out_im R (by unfold Rel; rfl) q⟩
  · cases hg

/-! ### comparisons -/
mutual
theorem dp_of {K : Fg} {H : Hp} {T : Addr} : ∀ (d : Dat) (v : V), d.canLay0 = true → Rel K H T d v → Dp K H v d
  | .none, _, _, h => by unfold Rel at h; subst h; exact .non
  | .bool b, _, _, h => by unfold Rel at h; subst h; exact .bl b
  | .int b, _, _, h => by unfold Rel at h; subst h; exact .int b
  | .str b, _, _, h => by unfold Rel at h; subst h; exact .str b
  | .list ds, _, c, h => by
    unfold Rel at h
    obtain ⟨a, xs, rfl, h1, h2⟩ := h
    exact .lst (SqL.of h1) (dps_of ds xs (by simpa [PyData.canLay0] using c) h2)
  | .tuple ds, _, c, h => by
    unfold Rel at h
    obtain ⟨a, xs, rfl, h1, h2⟩ := h
    exact .tup h1.sqT (dps_of ds xs (by simpa [PyData.canLay0] using c) h2)
  | .dict _, _, c, _ => by simp [PyData.canLay0] at c
theorem dps_of {K : Fg} {H : Hp} {T : Addr} : ∀ (ds : List Dat) (vs : List V), PyData.canLayAll0 ds = true → RelL K H T ds vs → DpAll K H vs ds
  | [], _, _, h => by unfold RelL at h; subst h; exact .nil
  | d :: ds, _, c, h => by
    unfold RelL at h
    obtain ⟨y, ys, rfl, h1, h2⟩ := h
    have c' : d.canLay0 = true ∧ PyData.canLayAll0 ds = true := by simpa [PyData.canLayAll0] using c
    exact .cons (dp_of d y c'.1 h1) (dps_of ds ys c'.2 h2)
end
theorem BRel.dp {K : Fg} {F H : Hp} {T : Addr} {d : Dat} {v : V} (s : Same F H) (c : SeqAt.shaped d = true) (h : BRel K F H T d v) : Dp K H v d := dp_of d v (SeqAt.canLay_of_shaped c) (h.rel s)

def eqD (d e : Dat) : Option RV := if SeqAt.shaped d && SeqAt.shaped e then some (.im (.bool (PyData.eqv d e))) else none
def neD (d e : Dat) : Option RV := if SeqAt.shaped d && SeqAt.shaped e then some (.im (.bool (!PyData.eqv d e))) else none
theorem eqD_ok {K : Fg} : OpSnd K (rEqD K) eqD := by
  intro G F ps σ H x y d e out Q R hx hy hg q
  unfold eqD at hg
  split at hg
  · rename_i hl
    cases hg
    simp only [Bool.and_eq_true] at hl
    exact ⟨d, e, hx.dp R.fh hl.1, hy.dp R.fh hl.2, hl.1, hl.2, out_im R (by unfold Rel; rfl) q⟩
  · cases hg
theorem neD_ok {K : Fg} : OpSnd K (rNeD K) neD := by
  intro G F ps σ H x y d e out Q R hx hy hg q
  unfold neD at hg
  split at hg
  · rename_i hl
    cases hg
    simp only [Bool.and_eq_true] at hl
    exact ⟨d, e, hx.dp R.fh hl.1, hy.dp R.fh hl.2, hl.1, hl.2, out_im R (by unfold Rel; rfl) q⟩
  · cases hg
def cmpI (p : Int → Int → Bool) : Dat → Dat → Option RV
  | .int i, .int j => some (.im (.bool (p i j)))
  | _, _ => none
theorem cmpI_ok {K : Fg} {p : Int → Int → Bool} : OpSnd K (rI0 fun i j => .bl (p i j)) (cmpI p) := by
  intro G F ps σ H x y d e out Q R hx hy hg q
  unfold cmpI at hg
  split at hg
  · cases hg
    rw [bInt hx, bInt hy]
    exact ⟨_, _, rfl, rfl, out_im R (by unfold Rel; rfl) q⟩
  · cases hg
/-- all ints -/
def ints? : List Dat → Option (List Int)
  | [] => some []
  | .int i :: ds => (ints? ds).map (i :: ·)
  | _ :: _ => none
theorem ints_rel {K : Fg} {F : Hp} {T : Addr} : ∀ {ds : List Dat} {ns : List Int} {vs : List V}, ints? ds = some ns → RelL K F T ds vs → vs = ns.map V.int
  | [], ns, vs, h, r => by
    cases h
    unfold RelL at r
    exact r
  | .int i :: ds, ns, vs, h, r => by
    unfold ints? at h
    obtain ⟨ms, e1, rfl⟩ := Option.map_eq_some_iff.mp h
    unfold RelL at r
    obtain ⟨y, ys, rfl, r1, r2⟩ := r
    rw [rInt.mp r1, ints_rel e1 r2]
    rfl
  | .none :: ds, ns, vs, h, r => by cases h
  | .bool _ :: ds, ns, vs, h, r => by cases h
  | .str _ :: ds, ns, vs, h, r => by cases h
  | .list _ :: ds, ns, vs, h, r => by cases h
  | .tuple _ :: ds, ns, vs, h, r => by cases h
  | .dict _ :: ds, ns, vs, h, r => by cases h
theorem ints_relL {K : Fg} {F : Hp} {T : Addr} : ∀ (ns : List Int), RelL K F T (ns.map PyData.int) (ns.map V.int)
  | [] => .nil
  | n :: ns => .cons (by unfold Rel; rfl) (ints_relL ns)
theorem ints_of : ∀ (ns : List Int), ints? (ns.map PyData.int) = some ns
  | [] => rfl
  | n :: ns => by
    show (ints? (ns.map PyData.int)).map (n :: ·) = some (n :: ns)
    rw [ints_of ns]
    rfl
/-- ints, or tuples of ints -/
def ltD : Dat → Dat → Option RV
  | .int i, .int j => some (.im (.bool (decide (i < j))))
  | .tuple xs, .tuple ys => (ints? xs).bind fun ns => (ints? ys).bind fun ms => some (.im (.bool (HT.lexLt ns ms)))
  | _, _ => none
def rLtD (K : Fg) : R2 := R2or (rI0 fun i j => .bl (decide (i < j))) (rLtT K)
theorem op_ltD {X : Cx} (hu : X.A.units < cLine) : OpR X (compareOp .Lt) (rLtD X.K) := op_lt.or (op_ltT hu)
theorem ltD_ok {K : Fg} : OpSnd K (rLtD K) ltD := by
  intro G F ps σ H x y d e out Q R hx hy hg q
  unfold ltD at hg
  split at hg
  · cases hg
    rw [bInt hx, bInt hy]
    exact .inl ⟨_, _, rfl, rfl, out_im R (by unfold Rel; rfl) q⟩
  · obtain ⟨ns, e1, hg⟩ := Option.bind_eq_some_iff.mp hg
    obtain ⟨ms, e2, hg⟩ := Option.bind_eq_some_iff.mp hg
    cases hg
    obtain ⟨a, vs, rfl, h1, h2⟩ := bTup R.fh hx
    obtain ⟨b, ws, rfl, h3, h4⟩ := bTup R.fh hy
    rw [ints_rel e1 h2] at h1
    rw [ints_rel e2 h4] at h3
    exact .inr ⟨a, b, ns, ms, rfl, rfl, h1, h3, out_im R (by unfold Rel; rfl) q⟩
  · cases hg
def isN : Dat → Bool
  | .none => true
  | _ => false
def isND (d e : Dat) : Option RV := match e with
  | .none => some (.im (.bool (isN d)))
  | _ => none
def notND (d e : Dat) : Option RV := match e with
  | .none => some (.im (.bool (!isN d)))
  | _ => none
theorem non_iff {K : Fg} {F H : Hp} {T : Addr} : ∀ {d : Dat} {v : V}, BRel K F H T d v → decide (v = V.non) = isN d
  | .none, v, h => by rw [bNon h]; rfl
  | .bool b, v, h => by rw [bBl h]; rfl
  | .int b, v, h => by rw [bInt h]; rfl
  | .str b, v, h => by rw [bStr h]; rfl
  | .list b, v, h => by
    obtain ⟨a, xs, rfl, _⟩ := bLst h
    rfl
  | .tuple b, v, h => by
    obtain ⟨a, xs, rfl, _⟩ := rTupE (K := K) (F := F) (T := T) h
    rfl
  | .dict [], v, h => by
    have h : Rel K F T (.dict []) v := h
    unfold Rel at h
    subst h
    rfl
  | .dict [(d, e)], v, h => by
    have h : Rel K F T (.dict [(d, e)]) v := h
    unfold Rel at h
    obtain ⟨a, x, y, rfl, _⟩ := h
    rfl
  | .dict (y :: (z, d) :: l), v, h => by
    have h : Rel K F T (.dict (y :: (z, d) :: l)) v := h
    cases d <;> unfold Rel at h <;> first
      | exact h.elim
      | (obtain ⟨a, xs, rfl, _⟩ := h
         rfl)
theorem isND_ok {K : Fg} : OpSnd K (fun x y H Q => y = .non ∧ Q (.bl (decide (x = .non))) H) isND := by
  intro G F ps σ H x y d e out Q R hx hy hg q
  unfold isND at hg
  split at hg
  · cases hg
    refine ⟨bNon hy, ?_⟩
    rw [non_iff hx]
    exact out_im R (by unfold Rel; rfl) q
  · cases hg
theorem notND_ok {K : Fg} : OpSnd K (fun x y H Q => y = .non ∧ Q (.bl (!decide (x = .non))) H) notND := by
  intro G F ps σ H x y d e out Q R hx hy hg q
  unfold notND at hg
  split at hg
  · cases hg
    refine ⟨bNon hy, ?_⟩
    rw [non_iff hx]
    exact out_im R (by unfold Rel; rfl) q
  · cases hg

/-! ### in, not in -/
def flatD : Dat → Bool
  | .none | .bool _ | .int _ | .str _ => true
  | _ => false
theorem flat_rel {K : Fg} {F : Hp} {T : Addr} {d : Dat} {v : V} (f : flatD d = true) (h : Rel K F T d v) : flatV v = true := by
  cases d <;> first
    | (unfold Rel at h; subst h; rfl)
    | cases f
theorem flat_eqV {K : Fg} {F : Hp} {T : Addr} {d e : Dat} {v w : V} (f : flatD d = true) (f' : flatD e = true) (h : Rel K F T d v) (h' : Rel K F T e w) : eqV v w = PyData.eqv d e := by
  cases d <;> first
    | (unfold Rel at h; subst h
       cases e <;> first
        | (unfold Rel at h'; subst h'; simp [eqV, PyData.eqv])
        | cases f')
    | cases f
theorem flats_rel {K : Fg} {F : Hp} {T : Addr} : ∀ {ds : List Dat} {vs : List V}, ds.all flatD = true → RelL K F T ds vs → vs.all flatV = true
  | [], _, _, h => by unfold RelL at h; subst h; rfl
  | d :: ds, _, f, h => by
    unfold RelL at h
    obtain ⟨y, ys, rfl, h1, h2⟩ := h
    simp only [List.all_cons, Bool.and_eq_true] at f ⊢
    exact ⟨flat_rel f.1 h1, flats_rel f.2 h2⟩
theorem flats_any {K : Fg} {F : Hp} {T : Addr} {e : Dat} {w : V} (f' : flatD e = true) (h' : Rel K F T e w) : ∀ {ds : List Dat} {vs : List V}, ds.all flatD = true → RelL K F T ds vs → inV w vs = ds.any fun z => PyData.eqv z e
  | [], _, _, h => by unfold RelL at h; subst h; rfl
  | d :: ds, _, f, h => by
    unfold RelL at h
    obtain ⟨y, ys, rfl, h1, h2⟩ := h
    simp only [List.all_cons, Bool.and_eq_true] at f
    show (eqV y w || inV w ys) = (PyData.eqv d e || ds.any fun z => PyData.eqv z e)
    rw [flat_eqV f.1 f' h1 h', flats_any f' h' f.2 h2]
def inR (neg : Bool) : Dat → Dat → Option RV
  | d, .list ds => if SeqAt.shaped d && SeqAt.shaped (.list ds) then some (.im (.bool (if neg then !ds.any fun z => PyData.eqv z d else ds.any fun z => PyData.eqv z d))) else none
  | d, .tuple ds => if flatD d && ds.all flatD then some (.im (.bool (if neg then !ds.any fun z => PyData.eqv z d else ds.any fun z => PyData.eqv z d))) else none
  | _, _ => none
def inD : Dat → Dat → Option RV := inR false
def ninD : Dat → Dat → Option RV := inR true
def rInA (K : Fg) : R2 := R2or (rInD K) (rIn K false)
def rNinA (K : Fg) : R2 := R2or (rNotInD K) (rIn K true)
theorem op_inA {X : Cx} (hu : X.A.units + 65 < cLine) : OpR X (compareOp .In) (rInA X.K) := (op_inD hu).or op_in_seq
theorem op_ninA {X : Cx} (hu : X.A.units + 65 < cLine) : OpR X (compareOp .NotIn) (rNinA X.K) := (op_notInD hu).or op_notIn_seq
theorem inD_ok {K : Fg} : OpSnd K (rInA K) inD := by
  intro G F ps σ H x y d e out Q R hx hy hg q
  unfold inD inR at hg
  split at hg
  · split at hg
    · rename_i ds hl
      cases hg
      simp only [Bool.and_eq_true] at hl
      exact .inl ⟨d, ds, hx.dp R.fh hl.1, hy.dp R.fh hl.2, hl.1, hl.2, out_im R (by unfold Rel; rfl) q⟩
    · cases hg
  · split at hg
    · rename_i ds hl
      cases hg
      simp only [Bool.and_eq_true] at hl
      obtain ⟨b, ws, rfl, h3, h4⟩ := bTup R.fh hy
      refine .inr ⟨b, ws, rfl, .inr h3, flat_rel hl.1 (hx.rel R.fh), flats_rel hl.2 h4, ?_⟩
      rw [if_neg Bool.false_ne_true, flats_any hl.1 (hx.rel R.fh) hl.2 (RelL.mono R.fh _ _ h4)]
      exact out_im R (by unfold Rel; rfl) q
    · cases hg
  · cases hg
theorem ninD_ok {K : Fg} : OpSnd K (rNinA K) ninD := by
  intro G F ps σ H x y d e out Q R hx hy hg q
  unfold ninD inR at hg
  split at hg
  · split at hg
    · rename_i ds hl
      cases hg
      simp only [Bool.and_eq_true] at hl
      exact .inl ⟨d, ds, hx.dp R.fh hl.1, hy.dp R.fh hl.2, hl.1, hl.2, out_im R (by unfold Rel; rfl) q⟩
    · cases hg
  · split at hg
    · rename_i ds hl
      cases hg
      simp only [Bool.and_eq_true] at hl
      obtain ⟨b, ws, rfl, h3, h4⟩ := bTup R.fh hy
      refine .inr ⟨b, ws, rfl, .inr h3, flat_rel hl.1 (hx.rel R.fh), flats_rel hl.2 h4, ?_⟩
      rw [if_pos rfl, flats_any hl.1 (hx.rel R.fh) hl.2 (RelL.mono R.fh _ _ h4)]
      exact out_im R (by unfold Rel; rfl) q
    · cases hg
  · cases hg

/-! ### subscripts, slices -/
def ixD : Dat → Dat → Option RV
  | .list ds, .int i => (atI ds i).bind fun d => some (.im d)
  | .tuple ds, .int i => (atI ds i).bind fun d => some (.im d)
  | .dict (_ :: (_, .list ds) :: _), .int i => (atI ds i).bind fun d => some (.im d)
  | _, _ => none
theorem atI_rel {K : Fg} {F : Hp} {T : Addr} {ds : List Dat} {vs : List V} {i : Int} {d : Dat} (r : RelL K F T ds vs) (h : atI ds i = some d) : ∃ v, atI vs i = some v ∧ Rel K F T d v := by
  unfold atI at h ⊢
  rw [r.len]
  obtain ⟨j, e, h⟩ := Option.bind_eq_some_iff.mp h
  obtain ⟨v, h1, h2⟩ := r.get h
  exact ⟨v, by rw [e]; exact h1, h2⟩
theorem ixD_ok {K : Fg} : OpSnd K (rIx K) ixD := by
  intro G F ps σ H x y d e out Q R hx hy hg q
  unfold ixD at hg
  split at hg
  · obtain ⟨z, e1, hg⟩ := Option.bind_eq_some_iff.mp hg
    cases hg
    obtain ⟨a, vs, rfl, h1, h2⟩ := bLst hx
    rw [bInt hy]
    obtain ⟨v, h3, h4⟩ := atI_rel h2 e1
    exact .inl ⟨a, vs, _, v, rfl, rfl, SqL.of h1, h3, out_im R h4 q⟩
  · obtain ⟨z, e1, hg⟩ := Option.bind_eq_some_iff.mp hg
    cases hg
    obtain ⟨a, vs, rfl, h1, h2⟩ := bTup R.fh hx
    rw [bInt hy]
    obtain ⟨v, h3, h4⟩ := atI_rel h2 e1
    exact .inr (.inl ⟨a, vs, _, v, rfl, rfl, h1, h3, out_im R h4 q⟩)
  · obtain ⟨z, e1, hg⟩ := Option.bind_eq_some_iff.mp hg
    cases hg
    obtain ⟨a, vs, rfl, h1, h2⟩ := bDic R.fh hx
    rw [bInt hy]
    obtain ⟨v, h3, h4⟩ := atI_rel h2 e1
    exact .inl ⟨a, vs, _, v, rfl, rfl, h1, h3, out_im R h4 q⟩
  · cases hg
def cutD (ds : List Dat) (lo hi : Option Int) : List Dat := (ds.drop (HT.sIx ds.length 0 lo)).take (HT.sIx ds.length ds.length hi - HT.sIx ds.length 0 lo)
theorem cut_rel {K : Fg} {F : Hp} {T : Addr} {ds : List Dat} {vs : List V} (lo hi : Option Int) (r : RelL K F T ds vs) : RelL K F T (cutD ds lo hi) (cutV vs lo hi) := by
  unfold cutD cutV
  rw [r.len]
  exact (r.drop _).take _
def slD (d : Dat) (lo hi : Option Int) : Option RV := match d with
  | .list ds => some (.nw (cutD ds lo hi))
  | .tuple ds => some (.im (.tuple (cutD ds lo hi)))
  | _ => none
/-- a part of a tuple; the whole of it is itself -/
def rSlTD (K : Fg) : V → Option Int → Option Int → Hp → VK → Prop := fun x lo hi H Q => ∃ (a : Addr) (xs : List V), x = .ref a ∧ SqT K H a xs ∧ (HT.sIx xs.length 0 lo = 0 ∧ HT.sIx xs.length xs.length hi = xs.length → Q (.ref a) H) ∧ (¬ (HT.sIx xs.length 0 lo = 0 ∧ HT.sIx xs.length xs.length hi = xs.length) → NewT H (cutV xs lo hi) Q)
theorem sl_tupD {X : Cx} : SlR X (rSlTD X.K) := by
  rintro pins s σ H x v vl vu lo hi sl Q I rx hs pl pu ⟨a, xs, rfl, hx, q1, q2⟩
  cases rx
  obtain ⟨us, r, ht, hz⟩ := I.tuple hx
  have len : us.toArray.size = xs.length := by rw [List.size_toArray, ← r.length]
  refine ⟨"tuple", _, PyProof.Rows.slot_tuple_getitem.lookup, ht.typeIs, ?_⟩
  rcases Classical.em (HT.sIx xs.length 0 lo = 0 ∧ HT.sIx xs.length xs.length hi = xs.length) with hw | hw
  · exact getItem_tuple_whole ht hs pl pu (by rw [len]; exact hw) ⟨V.ref a, H, I, rfl, q1 hw⟩
  · refine HT.getItem_tuple_cut ht hs pl pu (by rw [len]; exact hw) ?_ (by rw [len]; exact hz)
    rw [len]
    exact (q2 hw).put I ((r.drop _).take _) (Nat.le_trans (cutV_length xs lo hi) hz)
def rSlD (K : Fg) : V → Option Int → Option Int → Hp → VK → Prop := fun x lo hi H Q => rSlL K x lo hi H Q ∨ rSlTD K x lo hi H Q
theorem sl_D {X : Cx} : SlR X (rSlD X.K) := sl_list.or sl_tupD
theorem slD_ok {K : Fg} {G : Ctl} {F : Hp} {ps : PS} {σ : L2.St} {H : Hp} {x : V} {d : Dat} {lo hi : Option Int} {out : RV} {Q : VK} (R : Rep G K F ps σ H) (hx : BRel K F H G.T d x) (hg : slD d lo hi = some out)
    (q : ∀ v F' H', Post G K F ps σ H F' ps H' → RVok G K F' ps σ H H' out v → Q v H') : rSlD K x lo hi H Q := by
  unfold slD at hg
  split at hg
  · cases hg
    obtain ⟨a, vs, rfl, h1, h2⟩ := bLst hx
    exact .inl ⟨a, vs, rfl, SqL.of h1, out_nw R (cut_rel lo hi h2) q⟩
  · rename_i ds
    cases hg
    obtain ⟨a, vs, rfl, h1, h2⟩ := bTup R.fh hx
    refine .inr ⟨a, vs, rfl, h1, fun hw => ?_, fun _ => out_tp R (cut_rel lo hi h2) q⟩
    refine out_im R ?_ q
    have e : cutD ds lo hi = ds := by
      unfold cutD
      rw [h2.len] at hw
      rw [hw.1, hw.2]
      simp
    rw [e]
    exact hx
  · cases hg
structure SndO (K : Fg) (t : TO) (f : M (Option Int)) : Prop where
  go : ∀ (G : Ctl) (F : Hp) (ps : PS) (σ : L2.St) (H : Hp) (b : Option Int) (ps' : PS) (Q : Option Int → Hp → Prop), Rep G K F ps σ H → f ps = some (b, ps') →
    (∀ F' H', Post G K F ps σ H F' ps' H' → Q b H') → t σ H Q
structure DO (X : Cx) (e : Option Expr) (t : TO) (f : M (Option Int)) : Prop where
  pe : PO X e t
  sn : SndO X.K t f
def partM (fa : M RV) : M (Option Int) := fun ps => (fa ps).bind fun x => match x.1 with
  | .im (.int i) => some (some i, x.2)
  | _ => none
section
variable {X : Cx} {a b c e : Expr} {ta tb tc te : TE} {fa fb fc fe : M RV} {pos : Pos} {tl th : TO} {fl fh : M (Option Int)} {lo hi : Option Expr}
theorem do_none : DO X none tNoPart (M.ret none) := ⟨po_none, ⟨fun G F ps σ H b ps' Q R e q => by
  cases e
  exact q F H (.refl R)⟩⟩
theorem do_some (h : DE X e te fe) : DO X (some e) (tPart te) (partM fe) := ⟨po_some h.pe, ⟨fun G F ps σ H b ps' Q R e q => by
  unfold partM at e
  obtain ⟨⟨ra, ps1⟩, e1, e⟩ := Option.bind_eq_some_iff.mp e
  refine h.sn.go G F ps σ H ra ps1 _ R e1 fun x F1 H1 P1 r1 => ?_
  split at e
  · rename_i i hi
    cases e
    have hi : ra = .im (.int i) := hi
    subst hi
    have r1 : Rel X.K F1 G.T (.int i) x := r1
    exact ⟨i, rInt.mp r1, q F1 H1 P1⟩
  · cases e⟩⟩
def slM (fa : M RV) (fl fh : M (Option Int)) : M RV := fun ps =>
  (fa ps).bind fun x => (fl x.2).bind fun l => (fh l.2).bind fun h => (brw (settle x.1) h.2).bind fun d => (slD d l.1 h.1).bind fun r => some (r, h.2)
theorem de_slice {p2} (h : DE X e te fe) (hl : DO X lo tl fl) (hh : DO X hi th fh) : DE X (.Subscript e (.Slice lo hi none p2) pos) (tSl (rSlD X.K) te tl th) (slM fe fl fh) := by
  refine ⟨pe_slice sl_D h.pe hl.pe hh.pe, ⟨fun G F ps σ H out ps' Q R e q => ?_⟩⟩
  unfold slM at e
  obtain ⟨⟨ra, ps1⟩, e1, e⟩ := Option.bind_eq_some_iff.mp e
  obtain ⟨⟨l, ps2⟩, e2, e⟩ := Option.bind_eq_some_iff.mp e
  obtain ⟨⟨u, ps3⟩, e3, e⟩ := Option.bind_eq_some_iff.mp e
  obtain ⟨d, e4, e⟩ := Option.bind_eq_some_iff.mp e
  obtain ⟨out', e5, e⟩ := Option.bind_eq_some_iff.mp e
  cases e
  refine h.sn.go G F ps σ H ra ps1 _ R e1 fun x F1 H1 P1 r1 => ?_
  obtain ⟨F1', P1', r1'⟩ := settle_ok P1 r1
  refine hl.sn.go G F1' ps1 σ H1 l ps2 _ P1'.rep e2 fun F2 H2 P2 => ?_
  refine hh.sn.go G F2 ps2 σ H2 u ps3 _ P2.rep e3 fun F3 H3 P3 => ?_
  have P := (P1'.trans P2).trans P3
  exact slD_ok P3.rep (brw_ok P3.rep ((r1'.post P2).post P3) e4) e5 fun v F' H' P4 r4 => q v F' H' (P.trans P4) (r4.back P.dom)

/-! ### the rules of operations -/
theorem de_add (ha : DE X a ta fa) (hb : DE X b tb fb) : DE X (.BinOp a .Add b pos) (tOp (rAddD X.K) ta tb) (opM addD fa fb) := ⟨pe_op op_addD ha.pe hb.pe, snd_op addD_ok ha.sn hb.sn⟩
theorem de_sub (ha : DE X a ta fa) (hb : DE X b tb fb) : DE X (.BinOp a .Sub b pos) (tOp (rI0 fun i j => .int (i - j)) ta tb) (opM subD fa fb) := ⟨pe_op op_sub ha.pe hb.pe, snd_op subD_ok ha.sn hb.sn⟩
theorem de_mul (ha : DE X a ta fa) (hb : DE X b tb fb) : DE X (.BinOp a .Mult b pos) (tOp rMulD ta tb) (opM mulD fa fb) := ⟨pe_op op_mulD ha.pe hb.pe, snd_op mulD_ok ha.sn hb.sn⟩
theorem de_fdiv (ha : DE X a ta fa) (hb : DE X b tb fb) : DE X (.BinOp a .FloorDiv b pos) (tOp (rI CDivN fun i j => .int (i.fdiv j)) ta tb) (opM fdivD fa fb) := ⟨pe_op op_fdivN ha.pe hb.pe, snd_op fdivD_ok ha.sn hb.sn⟩
theorem de_mod (ha : DE X a ta fa) (hb : DE X b tb fb) : DE X (.BinOp a .Mod b pos) (tOp (rI (fun _ j => j ≠ 0) fun i j => .int (i.fmod j)) ta tb) (opM modD fa fb) := ⟨pe_op op_modN ha.pe hb.pe, snd_op modD_ok ha.sn hb.sn⟩
theorem de_pow (ha : DE X a ta fa) (hb : DE X b tb fb) : DE X (.BinOp a .Pow b pos) (tOp (rI CPow fun i j => .int (i ^ j.toNat)) ta tb) (opM powD fa fb) := ⟨pe_op op_pow ha.pe hb.pe, snd_op powD_ok ha.sn hb.sn⟩
theorem de_neg (ha : DE X a ta fa) : DE X (.UnaryOp .USub a pos) (tUn (rU fun i => .int (-i)) ta) (unM negD fa) := ⟨pe_un un_neg ha.pe, snd_un negD_ok ha.sn⟩
theorem de_ix (ha : DE X a ta fa) (hb : DE X b tb fb) (hs : PlainIx b) : DE X (.Subscript a b pos) (tOp (rIx X.K) ta tb) (opM ixD fa fb) := ⟨pe_ix ix_seq ha.pe hb.pe hs, snd_op ixD_ok ha.sn hb.sn⟩
theorem de_eq (hu : X.A.units + 65 < cLine) (ha : DE X a ta fa) (hb : DE X b tb fb) : DE X (.Compare a [.Eq] [b] pos) (tOp (rEqD X.K) ta tb) (opM eqD fa fb) := ⟨pe_cmpR (op_eqD (by omega)) ha.pe hb.pe (nomark _), snd_op eqD_ok ha.sn hb.sn⟩
theorem de_ne (hu : X.A.units + 65 < cLine) (ha : DE X a ta fa) (hb : DE X b tb fb) : DE X (.Compare a [.NotEq] [b] pos) (tOp (rNeD X.K) ta tb) (opM neD fa fb) := ⟨pe_cmpR (op_neD (by omega)) ha.pe hb.pe (nomark _), snd_op neD_ok ha.sn hb.sn⟩
theorem de_lt (hu : X.A.units + 65 < cLine) (ha : DE X a ta fa) (hb : DE X b tb fb) : DE X (.Compare a [.Lt] [b] pos) (tOp (rLtD X.K) ta tb) (opM ltD fa fb) := ⟨pe_cmpR (op_ltD (by omega)) ha.pe hb.pe (nomark _), snd_op ltD_ok ha.sn hb.sn⟩
abbrev leD := cmpI fun i j => decide (i ≤ j)
abbrev gtD := cmpI fun i j => decide (j < i)
abbrev geD := cmpI fun i j => decide (j ≤ i)
abbrev ltI := cmpI fun i j => decide (i < j)
theorem de_le (ha : DE X a ta fa) (hb : DE X b tb fb) : DE X (.Compare a [.LtE] [b] pos) (tOp (rI0 fun i j => .bl (decide (i ≤ j))) ta tb) (opM leD fa fb) := ⟨pe_cmpR op_le ha.pe hb.pe (nomark _), snd_op cmpI_ok ha.sn hb.sn⟩
theorem de_gt (ha : DE X a ta fa) (hb : DE X b tb fb) : DE X (.Compare a [.Gt] [b] pos) (tOp (rI0 fun i j => .bl (decide (j < i))) ta tb) (opM gtD fa fb) := ⟨pe_cmpR op_gt ha.pe hb.pe (nomark _), snd_op cmpI_ok ha.sn hb.sn⟩
theorem de_ge (ha : DE X a ta fa) (hb : DE X b tb fb) : DE X (.Compare a [.GtE] [b] pos) (tOp (rI0 fun i j => .bl (decide (j ≤ i))) ta tb) (opM geD fa fb) := ⟨pe_cmpR op_ge ha.pe hb.pe (nomark _), snd_op cmpI_ok ha.sn hb.sn⟩
theorem de_isN (ha : DE X a ta fa) (hb : DE X b tb fb) : DE X (.Compare a [.Is] [b] pos) (tOp (fun x y H Q => y = .non ∧ Q (.bl (decide (x = .non))) H) ta tb) (opM isND fa fb) := ⟨pe_cmpR op_isN ha.pe hb.pe (nomark _), snd_op isND_ok ha.sn hb.sn⟩
theorem de_notN (ha : DE X a ta fa) (hb : DE X b tb fb) : DE X (.Compare a [.IsNot] [b] pos) (tOp (fun x y H Q => y = .non ∧ Q (.bl (!decide (x = .non))) H) ta tb) (opM notND fa fb) := ⟨pe_cmpR op_notN ha.pe hb.pe (nomark _), snd_op notND_ok ha.sn hb.sn⟩
theorem de_in (hu : X.A.units + 65 < cLine) (ha : DE X a ta fa) (hb : DE X b tb fb) (hm : behindInMarks .In b = false) : DE X (.Compare a [.In] [b] pos) (tOp (rInA X.K) ta tb) (opM inD fa fb) := ⟨pe_cmpR (op_inA hu) ha.pe hb.pe hm, snd_op inD_ok ha.sn hb.sn⟩
theorem de_nin (hu : X.A.units + 65 < cLine) (ha : DE X a ta fa) (hb : DE X b tb fb) (hm : behindInMarks .NotIn b = false) : DE X (.Compare a [.NotIn] [b] pos) (tOp (rNinA X.K) ta tb) (opM ninD fa fb) := ⟨pe_cmpR (op_ninA hu) ha.pe hb.pe hm, snd_op ninD_ok ha.sn hb.sn⟩
end
end MP

namespace MP
open PySem PySem.Spec PyProof.Rows L2

theorem u64 {n c : Nat} (h : n + 65 < c) : n + 64 < c := by omega
theorem u0 {n c : Nat} (h : n + 65 < c) : n < c := by omega

/-! ### tests -/
def asB : RV → Option Bool
  | .im (.bool b) => some b
  | _ => none
theorem asB_ok {r : RV} {b : Bool} (h : asB r = some b) : r = .im (.bool b) := by
  unfold asB at h
  split at h
  · cases h; rfl
  · cases h
def tstM (f : M RV) : M Bool := fun ps => (f ps).bind fun x => (asB x.1).bind fun b => some (b, x.2)
theorem snd_tst {K : Fg} {t : TE} {f : M RV} (h : SndE K t f) : SndT K (tTest t) (tstM f) := by
  refine ⟨fun G F ps σ H b ps' Q R e q => ?_⟩
  unfold tstM at e
  obtain ⟨⟨r, ps1⟩, e1, e⟩ := Option.bind_eq_some_iff.mp e
  obtain ⟨b', e2, e⟩ := Option.bind_eq_some_iff.mp e
  cases e
  refine h.go G F ps σ H r ps1 _ R e1 fun x F1 H1 P1 r1 => ?_
  have e2 := asB_ok e2
  subst e2
  have r1 : Rel K F1 G.T (.bool b) x := r1
  exact ⟨b, rBl.mp r1, q F1 H1 P1⟩
def truD : Dat → Option Bool
  | .none => some false
  | .bool b => some b
  | .int i => some (i != 0)
  | .str y => if line y.length then some ((y.length : Int) != 0) else none
  | .list ds => some (!ds.isEmpty)
  | .tuple ds => some (!ds.isEmpty)
  | .dict (_ :: (_, .list ds) :: _) => some (!ds.isEmpty)
  | .dict _ => none
theorem emp_rel {K : Fg} {F : Hp} {T : Addr} {ds : List Dat} {vs : List V} (r : RelL K F T ds vs) : ds.isEmpty = vs.isEmpty := by
  cases ds with
  | nil => unfold RelL at r; subst r; rfl
  | cons d ds =>
    unfold RelL at r
    obtain ⟨y, ys, rfl, _⟩ := r
    rfl
theorem truD_ok {K : Fg} {F H : Hp} {T : Addr} {d : Dat} {v : V} {b : Bool} (s : Same F H) (h : BRel K F H T d v) (e : truD d = some b) : TruV K v H b := by
  cases d with
  | none => rw [bNon h]; cases e; rfl
  | bool c => rw [bBl h]; cases e; rfl
  | int c => rw [bInt h]; cases e; rfl
  | str c =>
    rw [bStr h]
    unfold truD at e
    simp only at e
    split at e
    · rename_i hl
      cases e
      exact ⟨line_le hl, rfl⟩
    · cases e
  | list c =>
    obtain ⟨a, xs, rfl, h1, h2⟩ := bLst h
    cases e
    exact .inl ⟨xs, SqL.of h1, by rw [emp_rel h2]⟩
  | tuple c =>
    obtain ⟨a, xs, rfl, h1, h2⟩ := bTup s h
    cases e
    exact .inr (.inl ⟨xs, h1, by rw [emp_rel h2]⟩)
  | dict c =>
    unfold truD at e
    split at e <;> first
      | cases e; done
      | skip
    all_goals (rename_i hc; first | cases hc; done | skip)
    rename_i ds l
    rw [hc] at h
    obtain ⟨a, xs, rfl, h1, h2⟩ := bDic s h
    cases e
    exact .inl ⟨xs, h1, by rw [emp_rel h2]⟩
def truM (f : M RV) : M Bool := fun ps => (f ps).bind fun x => (brw x.1 x.2).bind fun d => (truD d).bind fun b => some (b, x.2)
section
variable {X : Cx} {a b c e : Expr} {ta tb tc te : TE} {fa fb fc fe : M RV} {pos : Pos} {ca cb : TT} {ga gb : M Bool} {rest : List Expr}
theorem dt_truth (h : DE X a ta fa) (he : ∀ whole, isTrue a X.env whole = (do let v ← whole; standAt a.pos; holding [v] (truthy v))) :
    DT X a (fun σ H Q => ta σ H fun x H' => ∃ k, TruV X.K x H' k ∧ Q k H') (truM fa) := by
  refine ⟨pt_truth h.pe he, ⟨fun G F ps σ H b ps' Q R e q => ?_⟩⟩
  unfold truM at e
  obtain ⟨⟨r, ps1⟩, e1, e⟩ := Option.bind_eq_some_iff.mp e
  obtain ⟨d, e2, e⟩ := Option.bind_eq_some_iff.mp e
  obtain ⟨b', e3, e⟩ := Option.bind_eq_some_iff.mp e
  cases e
  refine h.sn.go G F ps σ H r ps1 _ R e1 fun x F1 H1 P1 r1 => ?_
  exact ⟨b, truD_ok P1.rep.fh (brw_ok P1.rep r1 e2) e3, q F1 H1 P1⟩
theorem dt_cmp {op : CmpOp} {r : R2} {g : Dat → Dat → Option RV} (ho : OpR X (compareOp op) r) (hg : OpSnd X.K r g) (ha : DE X a ta fa) (hb : DE X b tb fb) (hm : behindInMarks op b = false) :
    DT X (.Compare a [op] [b] pos) (tTest (tOp r ta tb)) (tstM (opM g fa fb)) := ⟨pt_cmpR ho ha.pe hb.pe hm, snd_tst (snd_op hg ha.sn hb.sn)⟩
theorem de_cmp {op : CmpOp} {r : R2} {g : Dat → Dat → Option RV} (ho : OpR X (compareOp op) r) (hg : OpSnd X.K r g) (ha : DE X a ta fa) (hb : DE X b tb fb) (hm : behindInMarks op b = false) :
    DE X (.Compare a [op] [b] pos) (tOp r ta tb) (opM g fa fb) := ⟨pe_cmpR ho ha.pe hb.pe hm, snd_op hg ha.sn hb.sn⟩
def andM (f g : M Bool) : M Bool := fun ps => (f ps).bind fun x => if x.1 then g x.2 else some (false, x.2)
def orM (f g : M Bool) : M Bool := fun ps => (f ps).bind fun x => if x.1 then some (true, x.2) else g x.2
def notM (f : M Bool) : M Bool := fun ps => (f ps).bind fun x => some (!x.1, x.2)
theorem snd_and {K : Fg} (h1 : SndT K ca ga) (h2 : SndT K cb gb) : SndT K (tAnd ca cb) (andM ga gb) := by
  refine ⟨fun G F ps σ H b ps' Q R e q => ?_⟩
  unfold andM at e
  obtain ⟨⟨r, ps1⟩, e1, e⟩ := Option.bind_eq_some_iff.mp e
  refine h1.go G F ps σ H r ps1 _ R e1 fun F1 H1 P1 => ?_
  cases r with
  | true =>
    rw [if_pos rfl] at e
    refine iteT (h2.go G F1 ps1 σ H1 b ps' _ P1.rep e fun F2 H2 P2 => q F2 H2 (P1.trans P2))
  | false =>
    rw [if_neg Bool.false_ne_true] at e
    cases e
    exact iteF (q F1 H1 P1)
theorem snd_or {K : Fg} (h1 : SndT K ca ga) (h2 : SndT K cb gb) : SndT K (tOr ca cb) (orM ga gb) := by
  refine ⟨fun G F ps σ H b ps' Q R e q => ?_⟩
  unfold orM at e
  obtain ⟨⟨r, ps1⟩, e1, e⟩ := Option.bind_eq_some_iff.mp e
  refine h1.go G F ps σ H r ps1 _ R e1 fun F1 H1 P1 => ?_
  cases r with
  | true =>
    rw [if_pos rfl] at e
    cases e
    exact iteT (q F1 H1 P1)
  | false =>
    rw [if_neg Bool.false_ne_true] at e
    refine iteF (h2.go G F1 ps1 σ H1 b ps' _ P1.rep e fun F2 H2 P2 => q F2 H2 (P1.trans P2))
theorem snd_not {K : Fg} (h1 : SndT K ca ga) : SndT K (tNot ca) (notM ga) := by
  refine ⟨fun G F ps σ H b ps' Q R e q => ?_⟩
  unfold notM at e
  obtain ⟨⟨r, ps1⟩, e1, e⟩ := Option.bind_eq_some_iff.mp e
  cases e
  exact h1.go G F ps σ H r ps1 _ R e1 fun F1 H1 P1 => q F1 H1 P1
theorem dw_and1 (h : DT X a ca ga) : DW X (.BoolOp .And [a] pos) ca ga := ⟨pw_and1 h.pe, h.sn⟩
theorem dw_or1 (h : DT X a ca ga) : DW X (.BoolOp .Or [a] pos) ca ga := ⟨pw_or1 h.pe, h.sn⟩
theorem dw_and (h : DT X a ca ga) (h2 : DW X (.BoolOp .And (b :: rest) pos) cb gb) : DW X (.BoolOp .And (a :: b :: rest) pos) (tAnd ca cb) (andM ga gb) := ⟨pw_and h.pe h2.pe, snd_and h.sn h2.sn⟩
theorem dw_or (h : DT X a ca ga) (h2 : DW X (.BoolOp .Or (b :: rest) pos) cb gb) : DW X (.BoolOp .Or (a :: b :: rest) pos) (tOr ca cb) (orM ga gb) := ⟨pw_or h.pe h2.pe, snd_or h.sn h2.sn⟩
theorem DW.dt (h : DW X e ca ga) : DT X e ca ga := ⟨h.pe.pt, h.sn⟩
theorem dt_not (h : DT X a ca ga) : DT X (.UnaryOp .Not a pos) (tNot ca) (notM ga) := ⟨pt_not h.pe, snd_not h.sn⟩
/-! as values -/
def andVM (f g : M RV) : M RV := fun ps => (f ps).bind fun x => (asB x.1).bind fun b => if b then g x.2 else some (.im (.bool false), x.2)
def orVM (f g : M RV) : M RV := fun ps => (f ps).bind fun x => (asB x.1).bind fun b => if b then some (.im (.bool true), x.2) else g x.2
def notVM (f : M RV) : M RV := fun ps => (f ps).bind fun x => (asB x.1).bind fun b => some (.im (.bool (!b)), x.2)
theorem de_one {op} (h : DE X a ta fa) : DE X (.BoolOp op [a] pos) ta fa := ⟨pe_one h.pe, h.sn⟩
theorem de_and (ha : DE X a ta fa) (hb : DE X (.BoolOp .And (b :: rest) pos) tb fb) : DE X (.BoolOp .And (a :: b :: rest) pos) (tAndV ta tb) (andVM fa fb) := by
  refine ⟨pe_and ha.pe hb.pe, ⟨fun G F ps σ H r ps' Q R e q => ?_⟩⟩
  unfold andVM at e
  obtain ⟨⟨r1, ps1⟩, e1, e⟩ := Option.bind_eq_some_iff.mp e
  obtain ⟨k, e2, e⟩ := Option.bind_eq_some_iff.mp e
  have e2 := asB_ok e2
  refine ha.sn.go G F ps σ H r1 ps1 _ R e1 fun x F1 H1 P1 y => ?_
  subst e2
  have y : Rel X.K F1 G.T (.bool k) x := y
  refine ⟨k, rBl.mp y, ?_⟩
  cases k with
  | true =>
    rw [if_pos rfl] at e
    exact iteT (hb.sn.go G F1 ps1 σ H1 r ps' _ P1.rep e fun v F2 H2 P2 z => q v F2 H2 (P1.trans P2) (z.back P1.dom))
  | false =>
    rw [if_neg Bool.false_ne_true] at e
    cases e
    exact iteF (q _ F1 H1 P1 (show Rel _ _ _ _ _ by unfold Rel; rfl))
theorem de_or (ha : DE X a ta fa) (hb : DE X (.BoolOp .Or (b :: rest) pos) tb fb) : DE X (.BoolOp .Or (a :: b :: rest) pos) (tOrV ta tb) (orVM fa fb) := by
  refine ⟨pe_or ha.pe hb.pe, ⟨fun G F ps σ H r ps' Q R e q => ?_⟩⟩
  unfold orVM at e
  obtain ⟨⟨r1, ps1⟩, e1, e⟩ := Option.bind_eq_some_iff.mp e
  obtain ⟨k, e2, e⟩ := Option.bind_eq_some_iff.mp e
  have e2 := asB_ok e2
  refine ha.sn.go G F ps σ H r1 ps1 _ R e1 fun x F1 H1 P1 y => ?_
  subst e2
  have y : Rel X.K F1 G.T (.bool k) x := y
  refine ⟨k, rBl.mp y, ?_⟩
  cases k with
  | true =>
    rw [if_pos rfl] at e
    cases e
    exact iteT (q _ F1 H1 P1 (show Rel _ _ _ _ _ by unfold Rel; rfl))
  | false =>
    rw [if_neg Bool.false_ne_true] at e
    exact iteF (hb.sn.go G F1 ps1 σ H1 r ps' _ P1.rep e fun v F2 H2 P2 z => q v F2 H2 (P1.trans P2) (z.back P1.dom))
theorem de_not (ha : DE X a ta fa) : DE X (.UnaryOp .Not a pos) (tNotV ta) (notVM fa) := by
  refine ⟨pe_not ha.pe, ⟨fun G F ps σ H r ps' Q R e q => ?_⟩⟩
  unfold notVM at e
  obtain ⟨⟨r1, ps1⟩, e1, e⟩ := Option.bind_eq_some_iff.mp e
  obtain ⟨k, e2, e⟩ := Option.bind_eq_some_iff.mp e
  have e2 := asB_ok e2
  cases e
  refine ha.sn.go G F ps σ H r1 ps1 _ R e1 fun x F1 H1 P1 y => ?_
  subst e2
  have y : Rel X.K F1 G.T (.bool k) x := y
  exact ⟨k, rBl.mp y, q _ F1 H1 P1 (show Rel _ _ _ _ _ by unfold Rel; rfl)⟩
def ifM (c : M Bool) (f g : M RV) : M RV := fun ps => (c ps).bind fun x => if x.1 then f x.2 else g x.2
theorem de_if (hc : DT X c ca ga) (ha : DE X a ta fa) (hb : DE X b tb fb) : DE X (.IfExp c a b pos) (tIf ca ta tb) (ifM ga fa fb) := by
  refine ⟨pe_ifExp hc.pe ha.pe hb.pe, ⟨fun G F ps σ H r ps' Q R e q => ?_⟩⟩
  unfold ifM at e
  obtain ⟨⟨k, ps1⟩, e1, e⟩ := Option.bind_eq_some_iff.mp e
  refine hc.sn.go G F ps σ H k ps1 _ R e1 fun F1 H1 P1 => ?_
  cases k with
  | true =>
    rw [if_pos rfl] at e
    exact iteT (ha.sn.go G F1 ps1 σ H1 r ps' _ P1.rep e fun v F2 H2 P2 z => q v F2 H2 (P1.trans P2) (z.back P1.dom))
  | false =>
    rw [if_neg Bool.false_ne_true] at e
    exact iteF (hb.sn.go G F1 ps1 σ H1 r ps' _ P1.rep e fun v F2 H2 P2 z => q v F2 H2 (P1.trans P2) (z.back P1.dom))
/-! chains: the middle one is kept -/
def chainM (g g' : Dat → Dat → Option RV) (fa fb fc : M RV) : M RV := fun ps =>
  (fa ps).bind fun x => (fb x.2).bind fun y => (brw (settle x.1) y.2).bind fun d => (brw (settle y.1) y.2).bind fun e => (g d e).bind fun r => (asB r).bind fun k =>
    if k then (fc y.2).bind fun z => (brw (settle y.1) z.2).bind fun e2 => (brw z.1 z.2).bind fun e3 => (g' e2 e3).bind fun r' => some (r', z.2) else some (.im (.bool false), y.2)
theorem snd_chain {K : Fg} {r r' : R2} {g g' : Dat → Dat → Option RV} (hg : OpSnd K r g) (hg' : OpSnd K r' g') (ha : SndE K ta fa) (hb : SndE K tb fb) (hc : SndE K tc fc) : SndE K (tChain r r' ta tb tc) (chainM g g' fa fb fc) := by
  refine ⟨fun G F ps σ H out ps' Q R e q => ?_⟩
  unfold chainM at e
  obtain ⟨⟨ra, ps1⟩, e1, e⟩ := Option.bind_eq_some_iff.mp e
  obtain ⟨⟨rb, ps2⟩, e2, e⟩ := Option.bind_eq_some_iff.mp e
  obtain ⟨d, e3, e⟩ := Option.bind_eq_some_iff.mp e
  obtain ⟨d', e4, e⟩ := Option.bind_eq_some_iff.mp e
  obtain ⟨o1, e5, e⟩ := Option.bind_eq_some_iff.mp e
  obtain ⟨k, e6, eF⟩ := Option.bind_eq_some_iff.mp e
  have e6 := asB_ok e6
  subst e6
  refine ha.go G F ps σ H ra ps1 _ R e1 fun x F1 H1 P1 r1 => ?_
  obtain ⟨F1', P1', r1'⟩ := settle_ok P1 r1
  refine hb.go G F1' ps1 σ H1 rb ps2 _ P1'.rep e2 fun y F2 H2 P2 r2 => ?_
  obtain ⟨F2', P2', r2'⟩ := settle_ok P2 r2
  refine hg G F2' ps2 σ H2 x y d d' _ _ P2'.rep (brw_ok P2'.rep (r1'.post P2') e3) (brw_ok P2'.rep r2' e4) e5 fun v F3 H3 P3 r3 => ?_
  have r3 : Rel K F3 G.T (.bool k) v := r3
  refine ⟨k, rBl.mp r3, ?_⟩
  have P := (P1'.trans P2').trans P3
  cases k with
  | true =>
    rw [if_pos rfl] at eF
    obtain ⟨⟨rc, ps4⟩, e7, e⟩ := Option.bind_eq_some_iff.mp eF
    obtain ⟨d2, e8, e⟩ := Option.bind_eq_some_iff.mp e
    obtain ⟨d3, e9, e⟩ := Option.bind_eq_some_iff.mp e
    obtain ⟨o2, e10, e⟩ := Option.bind_eq_some_iff.mp e
    cases e
    refine iteT (hc.go G F3 ps2 σ H3 rc ps4 _ P3.rep e7 fun w F4 H4 P4 r4 => ?_)
    have q2 := ((r2'.post P3).post P4)
    exact hg' G F4 ps4 σ H4 y w d2 d3 out Q P4.rep (brw_ok P4.rep q2 e8) (brw_ok P4.rep r4 e9) e10 fun v' F5 H5 P5 r5 => q v' F5 H5 ((P.trans P4).trans P5) (r5.back (P.trans P4).dom)
  | false =>
    rw [if_neg Bool.false_ne_true] at eF
    cases eF
    exact iteF (q _ F3 H3 P (show Rel _ _ _ _ _ by unfold Rel; rfl))
theorem de_chain {op op' : CmpOp} {r r' : R2} {g g' : Dat → Dat → Option RV} (ho : OpR X (compareOp op) r) (hg : OpSnd X.K r g) (ho' : OpR X (compareOp op') r') (hg' : OpSnd X.K r' g') (ha : DE X a ta fa) (hb : DE X b tb fb) (hc : DE X c tc fc)
    (hm : lastMarks [op, op'] [b, c] = false := by with_unfolding_all rfl) : DE X (.Compare a [op, op'] [b, c] pos) (tChain r r' ta tb tc) (chainM g g' fa fb fc) := ⟨pe_chain ho ho' ha.pe hb.pe hc.pe hm, snd_chain hg hg' ha.sn hb.sn hc.sn⟩
theorem dt_chain {op op' : CmpOp} {r r' : R2} {g g' : Dat → Dat → Option RV} (ho : OpR X (compareOp op) r) (hg : OpSnd X.K r g) (ho' : OpR X (compareOp op') r') (hg' : OpSnd X.K r' g') (ha : DE X a ta fa) (hb : DE X b tb fb) (hc : DE X c tc fc)
    (hm : lastMarks [op, op'] [b, c] = false := by with_unfolding_all rfl) : DT X (.Compare a [op, op'] [b, c] pos) (tTest (tChain r r' ta tb tc)) (tstM (chainM g g' fa fb fc)) := ⟨pt_chain ho ho' ha.pe hb.pe hc.pe hm, snd_tst (snd_chain hg hg' ha.sn hb.sn hc.sn)⟩

/-! ### arguments, displays -/
def keepM (f : M RV) : M Dat := fun ps => (f ps).bind fun x => keepV x.1 x.2
def consM (f : M RV) (g : M (List Dat)) : M (List Dat) := fun ps => (keepM f ps).bind fun x => (g x.2).bind fun y => some (x.1 :: y.1, y.2)
theorem keepM_go {K : Fg} (h : SndE K ta fa) {G : Ctl} {F : Hp} {ps : PS} {σ : L2.St} {H : Hp} {d : Dat} {ps' : PS} {Q : VK} (R : Rep G K F ps σ H) (e : keepM fa ps = some (d, ps')) (q : ∀ v F' H', Post G K F ps σ H F' ps' H' → Rel K F' G.T d v → Q v H') : ta σ H Q := by
  unfold keepM at e
  obtain ⟨⟨r, ps1⟩, e1, e⟩ := Option.bind_eq_some_iff.mp e
  refine h.go G F ps σ H r ps1 _ R e1 fun v F1 H1 P1 r1 => ?_
  obtain ⟨F', P', r'⟩ := keepV_ok P1 r1 e
  exact q v F' H1 P' r'
variable {es : List Expr} {t : TA} {g : M (List Dat)}
theorem da_nil : DA X [] tNil (M.ret []) := ⟨pa_nil, ⟨fun G F ps σ H ds ps' Q R e q => by
  cases e
  exact q [] F H (.refl R) .nil⟩⟩
theorem da_cons (ha : DE X e te fe) (hr : DA X es t g) (hs : starEach (e :: es) X.env = (false, eval e X.env) :: starEach es X.env := by rfl) : DA X (e :: es) (tCons te t) (consM fe g) := by
  refine ⟨pa_cons ha.pe hr.pe hs, ⟨fun G F ps σ H ds ps' Q R e q => ?_⟩⟩
  unfold consM at e
  obtain ⟨⟨d, ps1⟩, e1, e⟩ := Option.bind_eq_some_iff.mp e
  obtain ⟨⟨ds', ps2⟩, e2, e⟩ := Option.bind_eq_some_iff.mp e
  cases e
  refine keepM_go ha.sn R e1 fun v F1 H1 P1 r1 => ?_
  refine hr.sn.go G F1 ps1 σ H1 ds' ps2 _ P1.rep e2 fun vs F2 H2 P2 r2 => ?_
  exact q (v :: vs) F2 H2 (P1.trans P2) (.cons (Rel.mono P2.same _ _ r1) r2)
def tupM (g : M (List Dat)) : M RV := fun ps => (g ps).bind fun x => if line x.1.length then some (.im (.tuple x.1), x.2) else none
def lstM (g : M (List Dat)) : M RV := fun ps => (g ps).bind fun x => if line x.1.length then some (.nw x.1, x.2) else none
def tTupD (t : TA) : TE := fun σ H Q => t σ H fun xs H1 => xs.length ≤ sizeLine ∧ NewT H1 xs Q
theorem pe_tupD {es : List Expr} {t : TA} {pos : Pos} {X : Cx} {x1} (h : PA X es t) : PE X (.Tuple es x1 pos) (tTupD t) := by
  constructor
  intro pins s σ H Q I hq
  refine wpAny_Tuple_spliced (thn (h.run pos pins s σ H _ I hq) fun us s1 hu => ?_)
  obtain ⟨xs, H1, I1, r, hz, q⟩ := hu
  exact ⟨by rw [← r.length]; exact hz, q.put I1 r hz⟩
/-- tuple(x): of a list a new one, of a tuple itself -/
def rTupOf (K : Fg) : List V → Hp → VK → Prop := fun xs H Q => ∃ (p : Addr) (ys : List V), xs = [.ref p] ∧ ((SqL K H p ys ∧ NewT H ys Q) ∨ (SqT K H p ys ∧ Q (.ref p) H))
theorem call_tupleD {X : Cx} : CallR X (.type "tuple") (rTupOf X.K) := by
  rintro pins s σ H xs us Q I r ⟨p, ys, rfl, h⟩
  obtain ⟨u, rfl, rx⟩ := vals1 r
  cases rx
  rcases h with ⟨hq, q⟩ | ⟨hq, q⟩
  · obtain ⟨ws, rv, pl, hz⟩ := I.list hq
    refine call_tuple_list pl.isList (fun h' kp => ?_) (by rw [List.size_toArray, ← rv.length]; exact hz)
    exact q.put (s := { s with heap := h' }) (I.kept (t' := s.toks) kp) rv hz
  · obtain ⟨ws, rv, pl, hz⟩ := I.tuple hq
    exact call_tuple_same pl ⟨V.ref p, H, I, rfl, q⟩
theorem de_tup {x1} (h : DA X es t g) : DE X (.Tuple es x1 pos) (tTupD t) (tupM g) := by
  refine ⟨pe_tupD h.pe, ⟨fun G F ps σ H r ps' Q R e q => ?_⟩⟩
  unfold tupM at e
  obtain ⟨⟨ds, ps1⟩, e1, e⟩ := Option.bind_eq_some_iff.mp e
  split at e
  · rename_i hl
    cases e
    refine h.sn.go G F ps σ H ds ps1 _ R e1 fun vs F1 H1 P1 r1 => ⟨?_, out_tp P1.rep r1 fun v F2 H2 P2 r2 => q v F2 H2 (P1.trans P2) (r2.back P1.dom)⟩
    rw [r1.len]
    exact line_le hl
  · cases e
theorem de_lst (h : DA X es t g) : DE X (.List es pos) (tLst t) (lstM g) := by
  refine ⟨pe_lst h.pe, ⟨fun G F ps σ H r ps' Q R e q => ?_⟩⟩
  unfold lstM at e
  obtain ⟨⟨ds, ps1⟩, e1, e⟩ := Option.bind_eq_some_iff.mp e
  split at e
  · rename_i hl
    cases e
    refine h.sn.go G F ps σ H ds ps1 _ R e1 fun vs F1 H1 P1 r1 => ⟨?_, out_nw P1.rep r1 fun v F2 H2 P2 r2 => q v F2 H2 (P1.trans P2) (r2.back P1.dom)⟩
    rw [r1.len]
    exact line_le hl
  · cases e

/-! ### calls of built-ins -/
/-- one argument, read where it stands -/
def C1Snd (K : Fg) (r : List V → Hp → VK → Prop) (g : Dat → Option RV) : Prop := UnSnd K (fun x H Q => r [x] H Q) g
def t1 (ta : TE) : TA := tCons ta tNil
theorem snd_call1 {K : Fg} {r : List V → Hp → VK → Prop} {g : Dat → Option RV} (hg : C1Snd K r g) (ha : SndE K ta fa) : SndE K (tCB r (t1 ta)) (unM g fa) := ⟨(snd_un hg ha).go⟩
theorem de_callB1 {r : List V → Hp → VK → Prop} {g : Dat → Option RV} {x : Str} {id : String} {p : Pos} (hc : CallR X (.builtin id) r) (hs : C1Snd X.K r g) (hgl : Gl X x) (hm : X.mg x = none) (hv : bootBuiltins x = some (.builtin id)) (ha : DE X a ta fa)
    (hn : x ≠ "__name__" := by decide) (hdb : (x == ("__debug__" : Str)) = false := by decide) (he : starEach [a] X.env = (false, eval a X.env) :: starEach [] X.env := by rfl) (hp : (backTo pos (starEach [] X.env)).any (·.1) = false := by rfl) :
    DE X (.Call (.Name x p) [a] [] pos) (tCB r (t1 ta)) (unM g fa) := ⟨pe_callB hc hgl hm hv (pa_cons ha.pe pa_nil he) hn hdb he hp, snd_call1 hs ha.sn⟩
theorem de_callT1 {r : List V → Hp → VK → Prop} {g : Dat → Option RV} {x : Str} {T : String} {p : Pos} (hc : CallR X (.type T) r) (hs : C1Snd X.K r g) (hgl : Gl X x) (hm : X.mg x = none) (hv : bootBuiltins x = some (.type T)) (ha : DE X a ta fa)
    (hn : x ≠ "__name__" := by decide) (hdb : (x == ("__debug__" : Str)) = false := by decide) (he : starEach [a] X.env = (false, eval a X.env) :: starEach [] X.env := by rfl) (hp : (backTo pos (starEach [] X.env)).any (·.1) = false := by rfl) :
    DE X (.Call (.Name x p) [a] [] pos) (tCB r (t1 ta)) (unM g fa) := ⟨pe_callTy hc hgl hm hv (pa_cons ha.pe pa_nil he) hn hdb he hp, snd_call1 hs ha.sn⟩
/-- several arguments, kept -/
def CNSnd (K : Fg) (r : List V → Hp → VK → Prop) (g : List Dat → Option RV) : Prop :=
  ∀ (G : Ctl) (F : Hp) (ps : PS) (σ : L2.St) (H : Hp) (vs : List V) (ds : List Dat) (out : RV) (Q : VK), Rep G K F ps σ H → RelL K F G.T ds vs → g ds = some out →
    (∀ v F' H', Post G K F ps σ H F' ps H' → RVok G K F' ps σ H H' out v → Q v H') → r vs H Q
def cnM (g : List Dat → Option RV) (f : M (List Dat)) : M RV := fun ps => (f ps).bind fun x => (g x.1).bind fun r => some (r, x.2)
theorem snd_callN {K : Fg} {r : List V → Hp → VK → Prop} {gg : List Dat → Option RV} (hg : CNSnd K r gg) (ha : SndA K t g) : SndE K (tCB r t) (cnM gg g) := by
  refine ⟨fun G F ps σ H out ps' Q R e q => ?_⟩
  unfold cnM at e
  obtain ⟨⟨ds, ps1⟩, e1, e⟩ := Option.bind_eq_some_iff.mp e
  obtain ⟨o, e2, e⟩ := Option.bind_eq_some_iff.mp e
  cases e
  refine ha.go G F ps σ H ds ps1 _ R e1 fun vs F1 H1 P1 r1 => ?_
  exact hg G F1 ps1 σ H1 vs ds out Q P1.rep r1 e2 fun v F2 H2 P2 r2 => q v F2 H2 (P1.trans P2) (r2.back P1.dom)
theorem de_callBN {r : List V → Hp → VK → Prop} {gg : List Dat → Option RV} {x : Str} {id : String} {p : Pos} (hc : CallR X (.builtin id) r) (hs : CNSnd X.K r gg) (hgl : Gl X x) (hm : X.mg x = none) (hv : bootBuiltins x = some (.builtin id)) (ha : DA X (e :: es) t g)
    (hn : x ≠ "__name__" := by decide) (hdb : (x == ("__debug__" : Str)) = false := by decide) (he : starEach (e :: es) X.env = (false, eval e X.env) :: starEach es X.env := by rfl) (hp : (backTo pos (starEach es X.env)).any (·.1) = false := by rfl) :
    DE X (.Call (.Name x p) (e :: es) [] pos) (tCB r t) (cnM gg g) := ⟨pe_callB hc hgl hm hv ha.pe hn hdb he hp, snd_callN hs ha.sn⟩
end

def lenD : Dat → Option RV
  | .list ds => some (.im (.int ds.length))
  | .tuple ds => some (.im (.int ds.length))
  | .dict (_ :: (_, .list ds) :: _) => some (.im (.int ds.length))
  | _ => none
theorem lenD_ok {K : Fg} : C1Snd K (fun xs H Q => ∃ p ys, xs = [.ref p] ∧ (SqL K H p ys ∨ SqT K H p ys) ∧ Q (.int ys.length) H) lenD := by
  intro G F ps σ H x d out Q R hx hg q
  unfold lenD at hg
  split at hg
  · rename_i ds
    cases hg
    obtain ⟨a, vs, rfl, h1, h2⟩ := bLst hx
    exact ⟨a, vs, rfl, .inl (SqL.of h1), by rw [h2.len]; exact out_im R (by unfold Rel; rfl) q⟩
  · rename_i ds
    cases hg
    obtain ⟨a, vs, rfl, h1, h2⟩ := bTup R.fh hx
    exact ⟨a, vs, rfl, .inr h1, by rw [h2.len]; exact out_im R (by unfold Rel; rfl) q⟩
  · rename_i ds _
    cases hg
    obtain ⟨a, vs, rfl, h1, h2⟩ := bDic R.fh hx
    exact ⟨a, vs, rfl, .inl h1, by rw [h2.len]; exact out_im R (by unfold Rel; rfl) q⟩
  · cases hg
def listD : Dat → Option RV
  | .list ds => some (.nw ds)
  | .tuple ds => some (.nw ds)
  | _ => none
theorem listD_ok {K : Fg} : C1Snd K (fun xs H Q => ∃ p ys, xs = [.ref p] ∧ (SqL K H p ys ∨ SqT K H p ys) ∧ ∀ l, H l = none → Q (.ref l) (upd H l (.lst ys))) listD := by
  intro G F ps σ H x d out Q R hx hg q
  unfold listD at hg
  split at hg
  · cases hg
    obtain ⟨a, vs, rfl, h1, h2⟩ := bLst hx
    exact ⟨a, vs, rfl, .inl (SqL.of h1), out_nw R h2 q⟩
  · cases hg
    obtain ⟨a, vs, rfl, h1, h2⟩ := bTup R.fh hx
    exact ⟨a, vs, rfl, .inr h1, out_nw R h2 q⟩
  · cases hg
def tupleD : Dat → Option RV
  | .list ds => some (.im (.tuple ds))
  | .tuple ds => some (.im (.tuple ds))
  | _ => none
theorem tupleD_ok {K : Fg} : C1Snd K (rTupOf K) tupleD := by
  intro G F ps σ H x d out Q R hx hg q
  unfold tupleD at hg
  split at hg
  · cases hg
    obtain ⟨a, vs, rfl, h1, h2⟩ := bLst hx
    exact ⟨a, vs, rfl, .inl ⟨SqL.of h1, out_tp R h2 q⟩⟩
  · cases hg
    obtain ⟨a, vs, rfl, h1, h2⟩ := bTup R.fh hx
    exact ⟨a, vs, rfl, .inr ⟨h1, out_im R hx q⟩⟩
  · cases hg
def intD : Dat → Option RV
  | .int i => some (.im (.int i))
  | .bool k => some (.im (.int (if k then 1 else 0)))
  | _ => none
theorem intD_ok {K : Fg} : C1Snd K (fun xs H Q => (∃ i, xs = [.int i] ∧ Q (.int i) H) ∨ ∃ k, xs = [.bl k] ∧ Q (.int (if k then 1 else 0)) H) intD := by
  intro G F ps σ H x d out Q R hx hg q
  unfold intD at hg
  split at hg
  · cases hg
    rw [bInt hx]
    exact .inl ⟨_, rfl, out_im R (by unfold Rel; rfl) q⟩
  · cases hg
    rw [bBl hx]
    exact .inr ⟨_, rfl, out_im R (by unfold Rel; rfl) q⟩
  · cases hg
def absD : Dat → Option RV
  | .int i => some (.im (.int (if i < 0 then -i else i)))
  | _ => none
theorem absD_ok {K : Fg} : C1Snd K (fun xs H Q => ∃ i, xs = [.int i] ∧ Q (.int (if i < 0 then -i else i)) H) absD := by
  intro G F ps σ H x d out Q R hx hg q
  unfold absD at hg
  split at hg
  · cases hg
    rw [bInt hx]
    exact ⟨_, rfl, out_im R (by unfold Rel; rfl) q⟩
  · cases hg
def sumD : Dat → Option RV
  | .list ds => (ints? ds).bind fun ns => some (.im (.int ns.sum))
  | _ => none
theorem sumD_ok {K : Fg} : C1Snd K (rSum K) sumD := by
  intro G F ps σ H x d out Q R hx hg q
  unfold sumD at hg
  split at hg
  · obtain ⟨ns, e1, hg⟩ := Option.bind_eq_some_iff.mp hg
    cases hg
    obtain ⟨a, vs, rfl, h1, h2⟩ := bLst hx
    rw [ints_rel e1 h2] at h1
    exact ⟨a, ns, rfl, SqL.of h1, out_im R (by unfold Rel; rfl) q⟩
  · cases hg
def min2D : List Dat → Option RV
  | [.int i, .int j] => some (.im (.int (if j < i then j else i)))
  | _ => none
theorem two_int {K : Fg} {F : Hp} {T : Addr} {i j : Int} {vs : List V} (h : RelL K F T [.int i, .int j] vs) : vs = [.int i, .int j] := by
  unfold RelL at h
  obtain ⟨y, ys, rfl, h1, h2⟩ := h
  unfold RelL at h2
  obtain ⟨z, zs, rfl, h3, h4⟩ := h2
  unfold RelL at h4
  rw [rInt.mp h1, rInt.mp h3, h4]
theorem min2D_ok {K : Fg} : CNSnd K (fun xs H Q => ∃ i j, xs = [.int i, .int j] ∧ Q (.int (if j < i then j else i)) H) min2D := by
  intro G F ps σ H vs ds out Q R hx hg q
  unfold min2D at hg
  split at hg
  · cases hg
    exact ⟨_, _, two_int hx, out_im R (by unfold Rel; rfl) q⟩
  · cases hg
def max2D : List Dat → Option RV
  | [.int i, .int j] => some (.im (.int (if j > i then j else i)))
  | _ => none
theorem max2D_ok {K : Fg} : CNSnd K (fun xs H Q => ∃ i j, xs = [.int i, .int j] ∧ Q (.int (if j > i then j else i)) H) max2D := by
  intro G F ps σ H vs ds out Q R hx hg q
  unfold max2D at hg
  split at hg
  · cases hg
    exact ⟨_, _, two_int hx, out_im R (by unfold Rel; rfl) q⟩
  · cases hg

/-! ### calls of defs -/
/-- what is handed back -/
def RetOk (K : Fg) (F' : Hp) (T : Addr) (H0 H' : Hp) : RV → V → Prop
  | .im d, v => Rel K F' T d v
  | .nw ds, v => ∃ p vs, v = .ref p ∧ H' p = some (.lst vs) ∧ F' p = none ∧ H0 p = none ∧ RelL K F' T ds vs
  | .sl _, _ => False
abbrev Fn := List Dat → Dr → Option (RV × Dr)
def spM (K : Fg) (n : Nat) (g : Fn) : Sp := fun vs H Q E => ∃ (G : Ctl) (F : Hp) (dr dr' : Dr) (ds : List Dat) (r : RV), vs.length = n ∧ Same F H ∧ (G.st = true → DrAt G.T G.C H dr ∧ F G.T = none ∧ F G.C = none) ∧ (G.st = false → dr = .no) ∧ RelL K F G.T ds vs ∧ g ds dr = some (r, dr') ∧
  ∀ v F' H', Same F F' → Same F' H' → (∀ a o, H a = some o → ¬ G.ex a → H' a = some o) → (∀ a, H a ≠ none → F' a = F a) → (G.st = true → DrAt G.T G.C H' dr') → (G.st = false → dr' = .no) → (∀ a, H' a = none → H a = none) → RetOk K F' G.T H H' r v → Q v H'
def callM (fn : Fn) (g : M (List Dat)) : M RV := fun ps => (g ps).bind fun x => (fn x.1 x.2.dr).bind fun y => some (y.1, { x.2 with dr := y.2 })
theorem snd_call {K : Fg} {n : Nat} {fn : Fn} {t : TA} {g : M (List Dat)} {E : XK} (ha : SndA K t g) (hl : ∀ ps ds ps', g ps = some (ds, ps') → ds.length = n) : SndE K (tCall (spM K n fn) [] E t) (callM fn g) := by
  refine ⟨fun G F ps σ H out ps' Q R e q => ?_⟩
  unfold callM at e
  obtain ⟨⟨ds, ps1⟩, e1, e⟩ := Option.bind_eq_some_iff.mp e
  obtain ⟨⟨r, dr'⟩, e2, e⟩ := Option.bind_eq_some_iff.mp e
  obtain ⟨rfl, rfl⟩ : r = out ∧ { ps1 with dr := dr' } = ps' := by
    injection e with e
    injection e with e3 e4
    exact ⟨e3, e4⟩
  refine ha.go G F ps σ H ds ps1 _ R e1 fun vs F1 H1 P1 r1 => ?_
  show spM K n fn (vs ++ []) H1 Q E
  rw [List.append_nil]
  refine ⟨G, F1, ps1.dr, dr', ds, r, ?_, P1.rep.fh, fun hs => ⟨P1.rep.dr hs, (P1.rep.ft hs).1, (P1.rep.ft hs).2.1⟩, P1.rep.nd, r1, e2, fun v F2 H2 fs fh k nf hd hnd dm hr => ?_⟩
  · rw [r1.len]
    exact hl _ _ _ e1
  · have R1 := P1.rep
    have ownK : ∀ p, Own ps1 σ p → ∀ vs, H1 p = some (.lst vs) → H2 p = some (.lst vs) ∧ F2 p = F1 p := fun p o vs hp => by
      obtain ⟨ws, h1, h2, h3⟩ := R1.ownH o
      refine ⟨k p _ hp fun ⟨hs, he⟩ => ?_, nf p (by rw [hp]; simp)⟩
      obtain ⟨_, _, c, d⟩ := R1.ft hs
      rcases he with rfl | rfl
      · exact c h3
      · exact d h3
    have R2 : Rep G K F2 { ps1 with dr := dr' } σ H2 := by
      refine ⟨R1.len, fun i s e => ?_, R1.sep, hd, fun hs => ?_, fh, fun a o h1 h2 => k a o (R1.kp a o h1 h2) h2, fun a h => ?_, R1.ff.trans fs, hnd⟩
      · obtain ⟨o, e3, y⟩ := R1.slots i s e
        refine ⟨o, e3, y.mono fs fun p vs ds' es eo h1 h2 h3 => ?_⟩
        obtain ⟨z1, z2⟩ := ownK p ⟨i, ds', by rw [← es]; exact e, by rw [e3, eo]⟩ vs h1
        exact ⟨z1, by rw [z2]; exact h2⟩
      · obtain ⟨a, b, c, d⟩ := R1.ft hs
        have dd := R1.dr hs
        exact ⟨by rw [nf _ dd.T]; exact a, by rw [nf _ dd.C]; exact b, c, d⟩
      · rw [← R1.f0 a h]
        refine nf a fun z => ?_
        exact h (R1.h0 z)
    have P2 : Post G K F1 ps1 σ H1 F2 { ps1 with dr := dr' } H2 := by
      refine ⟨R2, fs, fun p vs h1 h2 h3 h4 => ⟨k p _ h1 fun ⟨hs, he⟩ => ?_, by rw [nf p (by rw [h1]; simp)]; exact h2, h4⟩, dm⟩
      obtain ⟨_, _, c, d⟩ := R1.ft hs
      rcases he with rfl | rfl
      · exact c h3
      · exact d h3
    refine q v F2 H2 (P1.trans P2) ?_
    cases r with
    | im d => exact hr
    | sl i => exact hr.elim
    | nw ds' =>
      obtain ⟨p, ws, e3, h1, h2, h3, h4⟩ := hr
      refine ⟨p, ws, e3, h1, h2, R1.h0 h3, fun o => ?_, h4, P1.dom p h3⟩
      obtain ⟨_, z, _⟩ := R1.ownH (σ := σ) (p := p) o
      rw [h3] at z
      cases z
section
variable {X : Cx} {CX : CXT} {k : Nat} {f : Addr} {fd : FuncData} {nms : List Str} {E : XK} {x : Str} {p pos : Pos} {e : Expr} {es : List Expr} {t : TA} {g : M (List Dat)} {n : Nat} {fn : Fn}
theorem da_len0 : ∀ ps ds ps', (M.ret [] : M (List Dat)) ps = some (ds, ps') → ds.length = 0 := fun ps ds ps' h => by cases h; rfl
theorem da_len1 {fe : M RV} (hg : ∀ ps ds ps', g ps = some (ds, ps') → ds.length = n) : ∀ ps ds ps', consM fe g ps = some (ds, ps') → ds.length = n + 1 := fun ps ds ps' h => by
  unfold consM at h
  obtain ⟨⟨d, ps1⟩, e1, h⟩ := Option.bind_eq_some_iff.mp h
  obtain ⟨⟨ds', ps2⟩, e2, h⟩ := Option.bind_eq_some_iff.mp h
  cases h
  rw [List.length_cons, hg _ _ _ e2]
theorem de_call (F : FnOk X.prog X.w X.K X.mg X.base CX k f fd nms (spM X.K n fn)) (hr : Room k X.A) (hg : Gl X x) (hm : X.mg x = some (.ref f)) (hk : PySem.W.keepIn X.K (.ref f) = true) (hb : Binds X.K fd nms []) (hx : Passes CX X E)
    (ha : DA X (e :: es) t g) (hl : ∀ ps ds ps', g ps = some (ds, ps') → ds.length = n) (hdb : (x == ("__debug__" : Str)) = false := by decide) (he : starEach (e :: es) X.env = (false, eval e X.env) :: starEach es X.env := by rfl) (hpl : (backTo pos (starEach es X.env)).any (·.1) = false := by rfl) :
    DE X (.Call (.Name x p) (e :: es) [] pos) (tCall (spM X.K n fn) [] E t) (callM fn g) := ⟨pe_call F hr hg hm hk hb .nil hx ha.pe hdb he hpl, snd_call ha.sn hl⟩
end
end MP

/-! enumerate of a tuple: the library's WalksT.enumFrom carried to a Turn of the layer -/
namespace MP
open PySem PySem.Spec
open PyProof.Rows L2

/-- a walk that hands out new tuples, as a Turn: z is the thing walked as it stands, src what the heap must hold of it -/
theorem turn_ofT {P : Program} {w : World} {K : Fg} {elts : List Expr} {kk : Nat} {tp : Pos} {I : Addr} {fp own wr : List Addr} {n : Nat} {ζ : Type} {Pt : ζ → Nat → Array Value → Prop} {St : ζ → Nat → Heap → Prop} {tn : Nat → Heap → Prop} {Mid : ζ → Nat → Addr → Heap → Prop}
    {src : ζ → Heap → Prop} {hold : Hp → Prop} {YV : Nat → List V → Prop} (hI : I ∈ own) (hwr : ∀ b ∈ wr, b ∈ own)
    (W : ∀ (z : ζ) (A : Around), A.handled = none → WalksT P w A I fp wr n (Pt z) (St z) (Mid z))
    (obj : ∀ i h, tn i h → ∀ b ∈ own, ∃ o, h.get? b = some o ∧ ∀ v, o.data ≠ .cell v)
    (keep : ∀ i h h', tn i h → (∀ b ∈ own, ∀ o, h.get? b = some o → h'.get? b = some o) → tn i h')
    (into : ∀ z i h, tn i h → src z h → St z i h) (out : ∀ z i h, St z i h → tn i h)
    (hsrc : ∀ (X : Cx) (pins : List (Addr × Obj)) (s : Shared) (σ : L2.St) (H : Hp), X.prog = P → X.w = w → X.K = K → Inv X pins σ H s → hold H → ∃ z, src z s.heap ∧ ∀ i us, Pt z i us → ∃ xs, Vals xs us.toList ∧ xs.length ≤ 2 ∧ YV i xs)
    (self : ∀ (A : Around) (i : Nat) (s : Shared) (Q : Value → Shared → Prop) (E : Value → Shared → Prop), tn i s.heap → Q (.ref I) s → wpAny (model P w) A (pyIter (.ref I)) Q E s) :
    Turn P w K (.Tuple elts kk tp) ⟨fun i H => i < n ∧ hold H, fun i H v H' => ∃ T xs, v = V.ref T ∧ H T = none ∧ H' = upd H T (.tup xs) ∧ YV i xs, fun i H => i = n ∧ hold H⟩ own I tn where
  mem := hI
  obj := obj
  keep := keep
  self := self
  done := fun X hP hw hK hc i pins s σ H E inv hf st ⟨e, hh⟩ => by
    subst e
    obtain ⟨z, sz, _⟩ := hsrc X pins s σ H hP hw hK inv hh
    refine (W z X.A (inv.ok.hd hc)).done s _ _ (into z _ _ st sz) fun h' tk k => ⟨rfl, ?_⟩
    exact inv.turnedL (ch := own) (fun b o hb z => k b o (fun y => hb (hwr b y)) z) hf
  item := fun X hP hw hK hc i pins s σ H E inv hf st ⟨hi, hh⟩ => by
    obtain ⟨z, sz, vals⟩ := hsrc X pins s σ H hP hw hK inv hh
    have WA := W z X.A (inv.ok.hd hc)
    have live : ∀ b ∈ own, b < s.heap.objs.size := fun b hb => by
      obtain ⟨o, z, _⟩ := obj i _ st b hb
      exact Heap.lt_size z
    refine WA.item i s _ _ hi (into z _ _ st sz) fun T us h' tk pt hT tup mid k1 => ⟨_, rfl, ?_⟩
    have tN : T ∉ wr := fun z => absurd (live T (hwr T z)) (Nat.not_lt_of_le hT)
    refine WA.go elts kk tp i T { s with heap := h', toks := tk } _ _ mid fun h2 st2 k2 => ?_
    obtain ⟨xs, rv, hl, yv⟩ := vals i us pt
    have hT2 : h2.IsTuple T us.toList.toArray := by
      obtain ⟨o, z1, z2⟩ := tup
      exact ⟨o, k2 T o tN z1, by simpa using z2⟩
    have new : ObjOk X.prog X.w (upd H T (.tup xs)) h2 T (.tup xs) := ⟨Nat.le_trans hl (by decide), us.toList, rv, hT2⟩
    have inv2 : Inv X pins σ (upd H T (.tup xs)) { s with heap := h2, toks := tk } :=
      inv.turnedNew (ch := own) (fun b o hb z => k2 b o (fun y => hb (hwr b y)) (k1 b o (fun y => hb (hwr b y)) z)) hf hT new
    refine ⟨V.ref T, _, inv2, rfl, ⟨T, xs, rfl, inv.hok.fresh hT, rfl, yv⟩, out z _ _ st2, fun b hb => ?_⟩
    have q : b ≠ T := Nat.ne_of_lt (Nat.lt_of_lt_of_le (live b hb) hT)
    rw [upd_ne q]
    exact (hf b hb).1

/-- what a walk over the tuple at a hands out -/
def ItE (K : Fg) (a : Addr) (xs : List V) : It :=
  ⟨fun i H => i < xs.length ∧ SqT K H a xs, fun i H v H' => ∃ T ys, v = V.ref T ∧ H T = none ∧ H' = upd H T (.tup ys) ∧ ∃ x, xs[i]? = some x ∧ ys = [.int (i : Nat), x], fun i H => i = xs.length ∧ SqT K H a xs⟩
theorem kind_apart {h : Heap} {a b : Addr} {T U : String} (h1 : ∃ o, h.get? a = some o ∧ o.cls = .type T) (h2 : ∃ o, h.get? b = some o ∧ o.cls = .type U) (d : T ≠ U) : a ≠ b := by
  rintro rfl
  obtain ⟨o1, e1, c1⟩ := h1
  obtain ⟨o2, e2, c2⟩ := h2
  rw [e1] at e2
  cases e2
  rw [c1] at c2
  exact d (Value.type.inj c2)
theorem turn_enumT {P : Program} {w : World} {K : Fg} {elts : List Expr} {kk : Nat} {tp : Pos} (a e it : Addr) (xs : List V) (d1 : e ≠ it) (d2 : e ≠ a) (d3 : a ≠ it) :
    Turn P w K (.Tuple elts kk tp) (ItE K a xs) [e, it] e (fun i h => (∃ old, IsEnum h e it (0 + (i : Int)) old) ∧ h.IsTupleIter it a i) := by
  have T := turn_ofT (P := P) (w := w) (K := K) (elts := elts) (kk := kk) (tp := tp) (I := e) (own := [e, it]) (n := xs.length) (ζ := { its : List Value // Vals xs its })
    (tn := fun i h => (∃ old, IsEnum h e it (0 + (i : Int)) old) ∧ h.IsTupleIter it a i) (src := fun z h => h.IsTuple a z.1.toArray) (hold := fun H => SqT K H a xs)
    (YV := fun i ys => ∃ x, xs[i]? = some x ∧ ys = [.int (i : Nat), x]) (by simp) (fun b hb => hb)
    (fun z A hA => by
      have D := Draws.tuple (prog := P) (w := w) (A := A.in1) (by exact hA) it a d3 z.1.toArray
      rw [List.size_toArray, ← z.2.length] at D
      exact WalksT.enumFrom 0 D e d1 (by simp [d1, d2]) (by simp))
    (fun i h ⟨⟨old, h1⟩, o, h2, _, h3⟩ b hb => by
      rcases List.mem_cons.mp hb with rfl | hb
      · exact ⟨_, h1, fun v q => nomatch q⟩
      · rw [List.mem_singleton.mp hb]
        exact ⟨o, h2, fun v q => by rw [h3] at q; cases q⟩)
    (fun i h h' ⟨⟨old, h1⟩, h2⟩ k => ⟨⟨old, k e (by simp) _ h1⟩, h2.at fun o q => k it (by simp) o q⟩)
    (by intro z i h h1 h3; exact ⟨h1.1, h1.2, h3⟩) (by intro z i h h1; exact ⟨h1.1, h1.2.1⟩)
    (fun X pins s σ H hP hw hK inv hh => by
      subst hK
      obtain ⟨its, rv, tup, _⟩ := inv.tuple hh
      refine ⟨⟨its, rv⟩, tup, fun i us ⟨t, u, hu, e1⟩ => ?_⟩
      have hu : its.toArray[i]? = some u := hu
      rw [List.getElem?_toArray] at hu
      have hx : ∃ x, xs[i]? = some x := by
        have hl := rv.length
        have := ltOf hu
        exact ⟨_, List.getElem?_eq_getElem (by omega)⟩
      obtain ⟨x, hx⟩ := hx
      obtain ⟨u', hu', rx⟩ := rv.get hx
      rw [hu] at hu'
      cases hu'
      subst e1
      refine ⟨[.int (i : Nat), x], .cons ⟨t, ?_⟩ (.cons rx .nil), by simp, x, hx, rfl⟩
      simp)
    (fun A i s Q E ⟨⟨_, h1⟩, _⟩ q => wpAny_pyIter_enum h1 q)
  exact T

/-! ### enumerate(..) begins, one argument -/
theorem enumB1 {v : Value} {o : Obj} {H : Heap → Prop} (B : Begins v o H) :
    Meets (Builtin.«enumerate.__new__» ⟨[.type "enumerate", v], []⟩) (fun _ R s => H s.heap ∧
      R (.ok (.ret (.ref (s.heap.push o).objs.size))) { s with heap := (s.heap.push o).push { cls := .type "enumerate", data := .fields #[.none, .bool false, .ref s.heap.objs.size, rawInt 0, .none, .none] } }) := by
  refine Meets.of_wp fun prog w A R s ⟨hs, hR⟩ => ?_
  have sub := sub_enumerate
  have step : ∀ {B' : Around} {E Q : Value → Shared → Prop}, Q (.ref s.heap.objs.size) { s with heap := s.heap.push o } → wpAny (model prog w) B' (pyIter v) Q E s := fun q => B.iter prog w _ _ s _ hs q
  obtain ⟨hp, gs, dr, tk, os⟩ := s
  wp_walk using step
  refine wpAny_stack_any fun frs => wpAny_pure ?_
  split
  next c _ _ _ _ _ =>
    rcases Bool.eq_false_or_eq_true (c == Value.type "enumerate") with hc | hc <;> rw [hc] <;> (wp_walk using step; exact ⟨_, rfl, hR⟩)
  next =>
    wp_walk using step
    exact ⟨_, rfl, hR⟩
theorem enum_begins1 {prog : Program} {w : World} {A : Around} {E : Value → Shared → Prop} {s : Shared} {v : Value} {o : Obj} {H : Heap → Prop} {Q : Value → Shared → Prop} (B : Begins v o H) (h1 : H s.heap)
    (h : IsEnum ((s.heap.push o).push { cls := .type "enumerate", data := .fields #[.none, .bool false, .ref s.heap.objs.size, rawInt 0, .none, .none] }) (s.heap.objs.size + 1) s.heap.objs.size 0 .none →
      Q (.ref (s.heap.objs.size + 1)) { s with heap := (s.heap.push o).push { cls := .type "enumerate", data := .fields #[.none, .bool false, .ref s.heap.objs.size, rawInt 0, .none, .none] } }) :
    wpAny (model prog w) A (call (.type "enumerate") [v]) Q E s := by
  have sz : (s.heap.push o).objs.size = s.heap.objs.size + 1 := Heap.size_push ..
  have isE := Heap.get?_push_size (s.heap.push o) (o := { cls := .type "enumerate", data := .fields #[.none, .bool false, .ref s.heap.objs.size, rawInt 0, .none, .none] }) rfl
  rw [sz] at isE
  exact callType_new F.called_enumerate (by decide) (F.typeCall_enumerate_1 _) (F.newCall_enumerate_1 _) (fun ob => F.args_object_init_2 ob _) F.entry_enumerate_new (enumB1 B)
    ⟨h1, by show _ ∧ _; rw [sz]; exact ⟨⟨_, isE, rfl⟩, h isE⟩⟩

def iEnumA (K : Fg) (te : TE) : TI := fun σ H R => te σ H fun v H1 => ∃ a xs, v = V.ref a ∧ ((SqL K H1 a xs ∧ R (Ite K a) H1) ∨ (SqT K H1 a xs ∧ R (ItE K a xs) H1))
theorem pi_enumA {X : Cx} {e : Expr} {te : TE} {p pos tpos : Pos} {elts : List Expr} {kk : Nat} (hg : Gl X "enumerate") (hm : X.mg "enumerate" = none) (he : PE X e te) (hs : starEach [e] X.env = (false, eval e X.env) :: starEach [] X.env := by rfl)
    (hs1 : starEach [e] X.env = [(false, eval e X.env)] := by rfl) : PI X (.Tuple elts kk tpos) (.Call (.Name "enumerate" p) [e] [] pos) (iEnumA X.K te) where
  run := fun pins s σ H R inv h => by
    refine Call_ (ld_blt inv hg hm boot_enumerate (PyProof.Rows.callWith_type1 (thn ((pa_cons he pa_nil hs).run pos pins s σ H (fun vs H1 => match vs with | [v] => ∃ (a : Addr) (xs : List V), v = V.ref a ∧ ((SqL X.K H1 a xs ∧ R (Ite X.K a) H1) ∨ (SqT X.K H1 a xs ∧ R (ItE X.K a xs) H1)) | _ => False) inv h) fun us s1 ⟨vs, H1, inv1, r1, q0⟩ => ?_) hs1 rfl))
    obtain ⟨v, ex, a, xs, ev, q1⟩ : ∃ v, vs = [v] ∧ ∃ (a : Addr) (xs : List V), v = V.ref a ∧ ((SqL X.K H1 a xs ∧ R (Ite X.K a) H1) ∨ (SqT X.K H1 a xs ∧ R (ItE X.K a xs) H1)) := by
      match vs, q0 with
      | [v], q => exact ⟨v, rfl, q⟩
    subst ex ev
    clear q0
    obtain ⟨u, rfl, ru⟩ := vals1 r1
    cases ru
    have new2 : ∀ b ∈ [s1.heap.objs.size + 1, s1.heap.objs.size], FpOk X pins H1 b := fun b hb => by
      have hle : s1.heap.objs.size ≤ b := by
        rcases List.mem_cons.mp hb with rfl | hb
        · exact Nat.le_succ _
        · rw [List.mem_singleton.mp hb]
          exact Nat.le_refl _
      exact inv1.fpOk hle (inv1.hok.fresh hle)
    rcases q1 with ⟨hq, q⟩ | ⟨hq, q⟩
    · obtain ⟨its, _, pl, _⟩ := inv1.list hq
      exact call_enumerate_list pl.isList fun h' hE hit _ hk => wpAny_pyIter_enum hE
        ⟨s1.heap.objs.size + 1, _, _, _, H1, rfl, inv1.kept (t' := s1.toks) hk, turn_enum a (s1.heap.objs.size + 1) s1.heap.objs.size, ⟨⟨.none, hE⟩, hit, Nat.succ_ne_self _⟩, new2, q⟩
    · obtain ⟨its, rv, tup, _⟩ := inv1.tuple hq
      have al : a < s1.heap.objs.size := tup.lt
      refine enum_begins1 (begins_tuple a its.toArray) tup fun hE => wpAny_pyIter_enum hE ?_
      refine ⟨s1.heap.objs.size + 1, _, _, _, H1, rfl, inv1.kept (t' := s1.toks) fun b o z => Heap.get?_push_of_some _ (Heap.get?_push_of_some _ z), turn_enumT a (s1.heap.objs.size + 1) s1.heap.objs.size xs (Nat.succ_ne_self _) (Nat.ne_of_gt (Nat.lt_succ_of_lt al)) (Nat.ne_of_lt al),
        ⟨⟨.none, hE⟩, ⟨_, Heap.get?_push_of_some _ (Heap.get?_push_size _ rfl), rfl, rfl⟩⟩, new2, q⟩
end MP

namespace MP
open PySem PySem.Spec PyProof.Rows L2

/-! ### slots written -/
section
variable {G : Ctl} {K : Fg} {F : Hp} {ps : PS} {σ : L2.St} {H : Hp}
theorem Rep.setFr (R : Rep G K F ps σ H) {i : Nat} {d : Dat} {v : V} (h : Rel K F G.T d v) : Rep G K F (ps.put i (.fr d)) (σ.set i (some v)) H := by
  refine ⟨?_, fun j s e => ?_, fun a b da db q ha hb hqa hqb => ?_, R.dr, R.ft, R.fh, R.kp, R.f0, R.ff, R.nd⟩
  · show (σ.set i (some v)).length = (ps.sl.set i _).length
    rw [List.length_set, List.length_set]
    exact R.len
  · rcases getSet e with ⟨rfl, rfl, hl⟩ | ⟨hj, e⟩
    · refine ⟨some v, List.getElem?_set_self (by rw [R.len]; exact hl), v, rfl, h⟩
    · obtain ⟨o, e1, q⟩ := R.slots j s e
      exact ⟨o, by rw [List.getElem?_set_ne (Ne.symm hj)]; exact e1, q⟩
  · rcases getSet ha with ⟨_, z, _⟩ | ⟨na, ha⟩
    · cases z
    · rcases getSet hb with ⟨_, z, _⟩ | ⟨nb, hb⟩
      · cases z
      · rw [List.getElem?_set_ne (Ne.symm na)] at hqa
        rw [List.getElem?_set_ne (Ne.symm nb)] at hqb
        exact R.sep _ _ _ _ _ ha hb hqa hqb
theorem Rep.setOw (R : Rep G K F ps σ H) {i : Nat} {ds : List Dat} {p : Addr} {vs : List V} (h1 : H p = some (.lst vs)) (h2 : F p = none) (h3 : G.H0 p = none) (h4 : ¬ Own ps σ p) (h5 : RelL K F G.T ds vs) : Rep G K F (ps.put i (.ow ds)) (σ.set i (some (.ref p))) H := by
  refine ⟨?_, fun j s e => ?_, fun a b da db q ha hb hqa hqb => ?_, R.dr, R.ft, R.fh, R.kp, R.f0, R.ff, R.nd⟩
  · show (σ.set i _).length = (ps.sl.set i _).length
    rw [List.length_set, List.length_set]
    exact R.len
  · rcases getSet e with ⟨rfl, rfl, hl⟩ | ⟨hj, e⟩
    · refine ⟨some (.ref p), List.getElem?_set_self (by rw [R.len]; exact hl), p, vs, rfl, h1, h2, h3, h5⟩
    · obtain ⟨o, e1, q⟩ := R.slots j s e
      exact ⟨o, by rw [List.getElem?_set_ne (Ne.symm hj)]; exact e1, q⟩
  · rcases getSet ha with ⟨ea, za, la⟩ | ⟨na, ha⟩
    · rcases getSet hb with ⟨eb, zb, _⟩ | ⟨nb, hb⟩
      · rw [ea, eb]
      · rw [ea, List.getElem?_set_self (by rw [R.len]; exact la)] at hqa
        cases hqa
        rw [List.getElem?_set_ne (Ne.symm nb)] at hqb
        exact absurd ⟨b, db, hb, hqb⟩ h4
    · rw [List.getElem?_set_ne (Ne.symm na)] at hqa
      rcases getSet hb with ⟨eb, zb, lb⟩ | ⟨nb, hb⟩
      · rw [eb, List.getElem?_set_self (by rw [R.len]; exact lb)] at hqb
        cases hqb
        exact absurd ⟨a, da, ha, hqa⟩ h4
      · rw [List.getElem?_set_ne (Ne.symm nb)] at hqb
        exact R.sep _ _ _ _ _ ha hb hqa hqb
end

/-! ### targets: names -/
structure SndG (K : Fg) (g : TG) (is : List Nat) (f : Dat → PS → Option PS) : Prop where
  go : ∀ (G : Ctl) (F : Hp) (ps : PS) (σ : L2.St) (H : Hp) (d : Dat) (v : V) (ps' : PS) (Q : L2.St → Hp → Prop), Rep G K F ps σ H → Rel K F G.T d v → f d ps = some ps' →
    (∀ σ', Rep G K F ps' σ' H → (∀ j, j ∉ is → σ'[j]? = σ[j]?) → σ'.length = σ.length → (∀ p, Own ps' σ' p → Own ps σ p) → Q σ' H) → g v σ H Q
structure SndGs (K : Fg) (g : TGs) (is : List Nat) (f : List Dat → PS → Option PS) : Prop where
  go : ∀ (G : Ctl) (F : Hp) (ps : PS) (σ : L2.St) (H : Hp) (ds : List Dat) (vs : List V) (ps' : PS) (Q : L2.St → Hp → Prop), Rep G K F ps σ H → RelL K F G.T ds vs → f ds ps = some ps' →
    (∀ σ', Rep G K F ps' σ' H → (∀ j, j ∉ is → σ'[j]? = σ[j]?) → σ'.length = σ.length → (∀ p, Own ps' σ' p → Own ps σ p) → Q σ' H) → g vs σ H Q
structure DG (X : Cx) (tg : Expr) (g : TG) (is : List Nat) (f : Dat → PS → Option PS) : Prop where
  pe : PG X tg g
  sn : SndG X.K g is f
structure DGs (X : Cx) (tgs : List Expr) (g : TGs) (is : List Nat) (f : List Dat → PS → Option PS) : Prop where
  pe : PGs X tgs g
  sn : SndGs X.K g is f
def nmT (i : Nat) (d : Dat) (ps : PS) : Option PS := some (ps.put i (.fr d))
theorem own_put {ps : PS} {σ : L2.St} {i : Nat} {d : Dat} {v : V} {p : Addr} (h : Own (ps.put i (.fr d)) (σ.set i (some v)) p) : Own ps σ p := by
  obtain ⟨j, dj, e1, e2⟩ := h
  rcases getSet e1 with ⟨_, z, _⟩ | ⟨hj, e1⟩
  · cases z
  · rw [List.getElem?_set_ne (Ne.symm hj)] at e2
    exact ⟨j, dj, e1, e2⟩
theorem sng_name {K : Fg} (i : Nat) : SndG K (gName i) [i] (nmT i) := by
  refine ⟨fun G F ps σ H d v ps' Q R r e q => ?_⟩
  cases e
  refine q _ (R.setFr r) (fun j hj => ?_) (by simp) fun p o => own_put o
  rw [List.getElem?_set_ne]
  intro z
  exact hj (by simp [z])
def nilTs (ds : List Dat) (ps : PS) : Option PS := match ds with
  | [] => some ps
  | _ => none
def consTs (f : Dat → PS → Option PS) (g : List Dat → PS → Option PS) (ds : List Dat) (ps : PS) : Option PS := match ds with
  | d :: r => (f d ps).bind fun ps1 => g r ps1
  | _ => none
theorem sngs_nil {K : Fg} : SndGs K gNil [] nilTs := by
  refine ⟨fun G F ps σ H ds vs ps' Q R r e q => ?_⟩
  unfold nilTs at e
  split at e
  · cases e
    unfold RelL at r
    exact ⟨r, q σ R (fun _ _ => rfl) rfl fun _ o => o⟩
  · cases e
theorem sngs_cons {K : Fg} {g : TG} {gs : TGs} {is js : List Nat} {f : Dat → PS → Option PS} {fs : List Dat → PS → Option PS} (h : SndG K g is f) (hs : SndGs K gs js fs) : SndGs K (gCons g gs) (is ++ js) (consTs f fs) := by
  refine ⟨fun G F ps σ H ds vs ps' Q R r e q => ?_⟩
  unfold consTs at e
  split at e
  · rename_i d r'
    obtain ⟨ps1, e1, e⟩ := Option.bind_eq_some_iff.mp e
    unfold RelL at r
    obtain ⟨y, ys, rfl, h1, h2⟩ := r
    refine ⟨y, ys, rfl, h.go G F ps σ H d y ps1 _ R h1 e1 fun σ1 R1 k1 l1 o1 => ?_⟩
    refine hs.go G F ps1 σ1 H r' ys ps' _ R1 h2 e fun σ2 R2 k2 l2 o2 => ?_
    refine q σ2 R2 (fun j hj => ?_) (l2.trans l1) fun p o => o1 p (o2 p o)
    rw [List.mem_append] at hj
    rw [k2 j (fun z => hj (.inr z)), k1 j (fun z => hj (.inl z))]
  · cases e
def tupT (n : Nat) (f : List Dat → PS → Option PS) (d : Dat) (ps : PS) : Option PS := match d with
  | .tuple ds => if ds.length = n then f ds ps else none
  | .list ds => if ds.length = n then f ds ps else none
  | .dict [(x, y)] => if 2 = n then f [x, y] ps else none
  | _ => none
/-- unpacked from a tuple or from a list -/
def gTL (K : PySem.W.Frag) (n : Nat) (t : TGs) : TG := fun v σ H Q => gTup K n t v σ H Q ∨ gLst K n t v σ H Q
theorem pg_tl {X : Cx} {pos : Pos} {es : List Expr} {k : Nat} {t : TGs} {n : Nat} (hc : X.calm = true) (h : PGs X es t)
    (hn : (assignEach es X.env).length = n := by rfl) (hst : (assignEach es X.env).findIdx? (·.1) = none := by rfl) : PG X (.Tuple es k pos) (gTL X.K n t) := by
  refine ⟨fun pins s σ H v u Q I r hw => ?_⟩
  rcases hw with hw | hw
  · exact (pg_tup hc h hn hst).run pins s σ H v u Q I r hw
  · exact (pg_lst hc h hn hst).run pins s σ H v u Q I r hw
theorem sng_tup {K : Fg} {n : Nat} {gs : TGs} {is : List Nat} {fs : List Dat → PS → Option PS} (h : SndGs K gs is fs) : SndG K (gTL K n gs) is (tupT n fs) := by
  refine ⟨fun G F ps σ H d v ps' Q R r e q => ?_⟩
  unfold tupT at e
  split at e
  · rename_i ds
    split at e
    · rename_i hl
      obtain ⟨a, xs, rfl, h1, h2⟩ := rTupE r
      exact .inl ⟨a, xs, rfl, seqT R.fh h1, by rw [h2.len]; exact hl, h.go G F ps σ H ds xs ps' Q R h2 e q⟩
    · cases e
  · rename_i ds
    split at e
    · rename_i hl
      obtain ⟨a, xs, rfl, h1, h2⟩ := rLst.mp r
      exact .inr ⟨a, xs, rfl, SqL.of (R.fh _ _ h1), by rw [h2.len]; exact hl, h.go G F ps σ H ds xs ps' Q R h2 e q⟩
    · cases e
  · split at e
    · rename_i x y hl
      unfold Rel at r
      obtain ⟨a, x', y', rfl, h1, h2, h3⟩ := r
      exact .inl ⟨a, [x', y'], rfl, seqT R.fh h1, hl, h.go G F ps σ H [x, y] [x', y'] ps' Q R (.cons h2 (.cons h3 .nil)) e q⟩
    · cases e
  · cases e
section
variable {X : Cx} {pos : Pos}
theorem dg_name {i : Nat} {x : Str} (hN : X.N.Nodup) (hi : X.N[i]? = some x) (hx : Loc X.env.scope x) (hf : X.fn x = true ∨ X.env.scope.names.lookup x = some .local := by first | exact .inl rfl | exact .inr rfl | assumption) : DG X (.Name x pos) (gName i) [i] (nmT i) := ⟨pg_name hN hi hx hf, sng_name i⟩
theorem dgs_nil : DGs X [] gNil [] nilTs := ⟨pgs_nil, sngs_nil⟩
theorem dgs_cons {e : Expr} {es : List Expr} {g : TG} {gs : TGs} {is js : List Nat} {f : Dat → PS → Option PS} {fs : List Dat → PS → Option PS} (h : DG X e g is f) (hs : DGs X es gs js fs)
    (hq : (assignEach (e :: es) X.env).map (·.2) = assign e X.env :: (assignEach es X.env).map (·.2) := by rfl) : DGs X (e :: es) (gCons g gs) (is ++ js) (consTs f fs) := ⟨pgs_cons h.pe hs.pe hq, sngs_cons h.sn hs.sn⟩
theorem dg_tup {es : List Expr} {k : Nat} {gs : TGs} {is : List Nat} {fs : List Dat → PS → Option PS} {n : Nat} (hc : X.calm = true) (h : DGs X es gs is fs)
    (hn : (assignEach es X.env).length = n := by rfl) (hst : (assignEach es X.env).findIdx? (·.1) = none := by rfl) : DG X (.Tuple es k pos) (gTL X.K n gs) is (tupT n fs) := ⟨pg_tl hc h.pe hn hst, sng_tup h.sn⟩
end

/-! ### what is walked -/
def Wlk (G : Ctl) (K : Fg) (J : It) (ds : List Dat) (F' : Hp) : Prop :=
  (∀ (i : Nat) (d : Dat), ds[i]? = some d → ∀ (F2 : Hp) (ps : PS) (σ : L2.St) (H2 : Hp), Rep G K F2 ps σ H2 → Same F' F2 → J.go i H2 ∧ ∀ x H3, J.yld i H2 x H3 → ∃ F3, Post G K F2 ps σ H2 F3 ps H3 ∧ Rel K F3 G.T d x) ∧
  ∀ (F2 : Hp) (ps : PS) (σ : L2.St) (H2 : Hp), Rep G K F2 ps σ H2 → Same F' F2 → J.stop ds.length H2
structure SndI (K : Fg) (wi : TI) (f : M (List Dat)) : Prop where
  go : ∀ (G : Ctl) (F : Hp) (ps : PS) (σ : L2.St) (H : Hp) (ds : List Dat) (ps' : PS) (R : It → Hp → Prop), Rep G K F ps σ H → f ps = some (ds, ps') →
    (∀ J F' H', Post G K F ps σ H F' ps' H' → Wlk G K J ds F' → R J H') → wi σ H R
structure DI (X : Cx) (tg e : Expr) (wi : TI) (f : M (List Dat)) : Prop where
  pe : PI X tg e wi
  sn : SndI X.K wi f
def iSeq (K : Fg) (te : TE) : TI := fun σ H R => te σ H fun x H1 => ∃ a, x = .ref a ∧ (((∃ xs, SqL K H1 a xs) ∧ R (Itl K a) H1) ∨ ((∃ xs, SqT K H1 a xs) ∧ R (Itt K a) H1))
theorem pi_seq {X : Cx} {tg l : Expr} {tl : TE} (hl : PE X l tl) : PI X tg l (iSeq X.K tl) where
  run := fun pins s σ H R inv h => by
    refine thn (hl.run pins s σ H _ inv h) fun v s1 ⟨x, H1, inv1, rx, a, ex, q⟩ => ?_
    subst ex
    cases rx
    have fresh1 : ∀ b ∈ [s1.heap.objs.size], FpOk X pins H1 b := fun b hb => by
      rw [List.mem_singleton.mp hb]
      exact inv1.fpOk (Nat.le_refl _) (inv1.hok.fresh (Nat.le_refl _))
    rcases q with ⟨⟨xs, hq⟩, q⟩ | ⟨⟨xs, hq⟩, q⟩
    · obtain ⟨its, _, pl, _⟩ := inv1.list hq
      exact wpAny_pyIter_list pl.isList ⟨_, _, _, _, H1, rfl, inv1.kept (t' := s1.toks) (fun b o z => Heap.get?_push_of_some _ z), turn_list a _, ⟨_, Heap.get?_push_size _ rfl, rfl, rfl⟩, fresh1, q⟩
    · obtain ⟨its, _, tup, _⟩ := inv1.tuple hq
      have tup : s1.heap.IsTuple a its.toArray := tup
      exact wpAny_pyIter_tuple tup ⟨_, _, _, _, H1, rfl, inv1.kept (t' := s1.toks) (fun b o z => Heap.get?_push_of_some _ z), turn_tuple a _, ⟨_, Heap.get?_push_size _ rfl, rfl, rfl⟩, fresh1, q⟩
def items? : Dat → Option (List Dat)
  | .list ds => some ds
  | .tuple ds => some ds
  | _ => none
theorem items_ok {d : Dat} {ds : List Dat} (h : items? d = some ds) : d = .list ds ∨ d = .tuple ds := by
  cases d <;> first
    | (cases h; exact .inl rfl)
    | (cases h; exact .inr rfl)
    | cases h
def seqIt (fe : M RV) : M (List Dat) := fun ps => (keepM fe ps).bind fun x => (items? x.1).bind fun ds => some (ds, x.2)
theorem wlk_l {G : Ctl} {K : Fg} {a : Addr} {ds : List Dat} {xs : List V} {F' : Hp} (h1 : F' a = some (.lst xs)) (h2 : RelL K F' G.T ds xs) : Wlk G K (Itl K a) ds F' := by
  refine ⟨fun i d e F2 ps σ H2 R s => ?_, fun F2 ps σ H2 R s => ?_⟩
  · obtain ⟨v, e1, r⟩ := h2.get e
    have hl : SqL K H2 a xs := SqL.of (R.fh _ _ (s _ _ h1))
    refine ⟨⟨xs, v, hl, e1⟩, fun x H3 y => ?_⟩
    obtain ⟨rfl, y⟩ := y
    have e2 := y xs hl
    rw [e1] at e2
    cases e2
    exact ⟨F2, .refl R, Rel.mono s _ _ r⟩
  · exact ⟨xs, SqL.of (R.fh _ _ (s _ _ h1)), by rw [h2.len]; exact Nat.le_refl _⟩
theorem wlk_t {G : Ctl} {K : Fg} {a : Addr} {ds : List Dat} {xs : List V} {F' : Hp} (h1 : SqT K F' a xs) (h2 : RelL K F' G.T ds xs) : Wlk G K (Itt K a) ds F' := by
  refine ⟨fun i d e F2 ps σ H2 R s => ?_, fun F2 ps σ H2 R s => ?_⟩
  · obtain ⟨v, e1, r⟩ := h2.get e
    have hl : SqT K H2 a xs := seqT (s.trans R.fh) h1
    refine ⟨⟨xs, v, hl, e1⟩, fun x H3 y => ?_⟩
    obtain ⟨rfl, y⟩ := y
    have e2 := y xs hl
    rw [e1] at e2
    cases e2
    exact ⟨F2, .refl R, Rel.mono s _ _ r⟩
  · exact ⟨xs, seqT (s.trans R.fh) h1, by rw [h2.len]; exact Nat.le_refl _⟩
theorem di_seq {X : Cx} {tg e : Expr} {te : TE} {fe : M RV} (h : DE X e te fe) : DI X tg e (iSeq X.K te) (seqIt fe) := by
  refine ⟨pi_seq h.pe, ⟨fun G F ps σ H ds ps' R Rp e q => ?_⟩⟩
  unfold seqIt at e
  obtain ⟨⟨d, ps1⟩, e1, e⟩ := Option.bind_eq_some_iff.mp e
  obtain ⟨ds', e2, e⟩ := Option.bind_eq_some_iff.mp e
  cases e
  refine keepM_go h.sn Rp e1 fun v F1 H1 P1 r1 => ?_
  rcases items_ok e2 with e2 | e2
  · have e2 : d = .list _ := e2
    subst e2
    obtain ⟨a, xs, rfl, h1, h2⟩ := rLst.mp r1
    exact ⟨a, rfl, .inl ⟨⟨xs, SqL.of (P1.rep.fh _ _ h1)⟩, q _ F1 H1 P1 (wlk_l h1 h2)⟩⟩
  · have e2 : d = .tuple _ := e2
    subst e2
    obtain ⟨a, xs, rfl, h1, h2⟩ := rTupE r1
    exact ⟨a, rfl, .inr ⟨⟨xs, seqT P1.rep.fh h1⟩, q _ F1 H1 P1 (wlk_t h1 h2)⟩⟩
/-- ranges -/
def rgD (lo : Int) (n : Nat) : List Dat := (List.range n).map fun i => .int (lo + (i : Nat))
theorem wlk_r {G : Ctl} {K : Fg} {lo : Int} {n : Nat} {F' : Hp} : Wlk G K (Itr lo n) (rgD lo n) F' := by
  refine ⟨fun i d e F2 ps σ H2 R s => ?_, fun F2 ps σ H2 R s => ?_⟩
  · unfold rgD at e
    rw [List.getElem?_map] at e
    obtain ⟨j, e1, rfl⟩ := Option.map_eq_some_iff.mp e
    obtain ⟨hl, e2⟩ := List.getElem?_eq_some_iff.mp e1
    rw [List.getElem_range] at e2
    subst e2
    refine ⟨show i < n by simpa using hl, fun x H3 y => ?_⟩
    obtain ⟨rfl, rfl⟩ := y
    exact ⟨F2, .refl R, by unfold Rel; rfl⟩
  · show n ≤ (rgD lo n).length
    unfold rgD
    simp
def rng1 (g : M (List Dat)) : M (List Dat) := fun ps => (g ps).bind fun x => match x.1 with
  | [.int j] => if b62 j then some (rgD 0 j.toNat, x.2) else none
  | _ => none
def rng2 (g : M (List Dat)) : M (List Dat) := fun ps => (g ps).bind fun x => match x.1 with
  | [.int i, .int j] => if b62 i && b62 j then some (rgD i (j - i).toNat, x.2) else none
  | _ => none
theorem one_int {K : Fg} {F : Hp} {T : Addr} {i : Int} {vs : List V} (h : RelL K F T [.int i] vs) : vs = [.int i] := by
  unfold RelL at h
  obtain ⟨y, ys, rfl, h1, h2⟩ := h
  unfold RelL at h2
  rw [rInt.mp h1, h2]
section
variable {X : Cx} {tg a b c e : Expr} {t : TA} {g : M (List Dat)} {p pos tpos : Pos} {te : TE} {fe : M RV}
theorem di_range1 (hg : Gl X "range") (hm : X.mg "range" = none) (ha : DA X [a] t g) (hs : starEach [a] X.env = [(false, eval a X.env)] := by rfl) : DI X tg (.Call (.Name "range" p) [a] [] pos) (iRng1 t) (rng1 g) := by
  refine ⟨pi_range1 hg hm ha.pe hs, ⟨fun G F ps σ H ds ps' R Rp e q => ?_⟩⟩
  unfold rng1 at e
  obtain ⟨⟨ds', ps1⟩, e1, e⟩ := Option.bind_eq_some_iff.mp e
  simp only at e
  split at e
  · rename_i j
    split at e
    · rename_i hb
      cases e
      refine ha.sn.go G F ps σ H _ _ _ Rp e1 fun vs F1 H1 P1 r1 => ?_
      exact ⟨j, one_int r1, Int.le_of_lt (b62_iff.mp hb).1, (b62_iff.mp hb).2, q _ F1 H1 P1 wlk_r⟩
    · cases e
  · cases e
theorem di_range2 (hg : Gl X "range") (hm : X.mg "range" = none) (ha : DA X [a, b] t g) (hs : starEach [a, b] X.env = [(false, eval a X.env), (false, eval b X.env)] := by rfl) (hs2 : starEach [b] X.env = [(false, eval b X.env)] := by rfl) : DI X tg (.Call (.Name "range" p) [a, b] [] pos) (iRng2 t) (rng2 g) := by
  refine ⟨pi_range2 hg hm ha.pe hs hs2, ⟨fun G F ps σ H ds ps' R Rp e q => ?_⟩⟩
  unfold rng2 at e
  obtain ⟨⟨ds', ps1⟩, e1, e⟩ := Option.bind_eq_some_iff.mp e
  simp only at e
  split at e
  · rename_i i j
    split at e
    · rename_i hb
      cases e
      simp only [Bool.and_eq_true, b62_iff] at hb
      refine ha.sn.go G F ps σ H _ _ _ Rp e1 fun vs F1 H1 P1 r1 => ?_
      exact ⟨i, j, two_int r1, ⟨Int.le_of_lt hb.1.1, hb.1.2, Int.le_of_lt hb.2.1, hb.2.2⟩, q _ F1 H1 P1 wlk_r⟩
    · cases e
  · cases e
/-- enumerate -/
def enL (ds : List Dat) : List Dat := ds.zipIdx.map fun z => .dict [(.int (z.2 : Nat), z.1)]
def enIt (fe : M RV) : M (List Dat) := fun ps => (keepM fe ps).bind fun x => (items? x.1).bind fun ds => some (enL ds, x.2)
theorem enL_get {ds : List Dat} {i : Nat} {d : Dat} (h : (enL ds)[i]? = some d) : ∃ z, ds[i]? = some z ∧ d = .dict [(.int (i : Nat), z)] := by
  unfold enL at h
  rw [List.getElem?_map, List.getElem?_zipIdx] at h
  cases q : ds[i]? with
  | none => rw [q] at h; cases h
  | some z =>
    rw [q] at h
    simp at h
    exact ⟨z, rfl, h.symm⟩
theorem yld_pair {G : Ctl} {K : Fg} {F2 : Hp} {ps : PS} {σ : L2.St} {H2 H3 : Hp} {T : Addr} {x y v : V} {d d' : Dat} (R : Rep G K F2 ps σ H2) (hv : v = .ref T) (hT : H2 T = none) (hH : H3 = upd H2 T (.tup [x, y])) (r : Rel K F2 G.T d x) (r' : Rel K F2 G.T d' y) :
    ∃ F3, Post G K F2 ps σ H2 F3 ps H3 ∧ Rel K F3 G.T (.dict [(d, d')]) v := by
  subst hv hH
  have P := R.newF (o := .tup [x, y]) hT
  refine ⟨_, P, ?_⟩
  unfold Rel
  exact ⟨T, x, y, rfl, SqT.of upd_same, Rel.mono P.same _ _ r, Rel.mono P.same _ _ r'⟩
theorem di_enum {elts : List Expr} {kk : Nat} (hg : Gl X "enumerate") (hm : X.mg "enumerate" = none) (h : DE X e te fe) (hs : starEach [e] X.env = (false, eval e X.env) :: starEach [] X.env := by rfl)
    (hs1 : starEach [e] X.env = [(false, eval e X.env)] := by rfl) : DI X (.Tuple elts kk tpos) (.Call (.Name "enumerate" p) [e] [] pos) (iEnumA X.K te) (enIt fe) := by
  refine ⟨pi_enumA hg hm h.pe hs hs1, ⟨fun G F ps σ H ds ps' R Rp e q => ?_⟩⟩
  unfold enIt at e
  obtain ⟨⟨d, ps1⟩, e1, e⟩ := Option.bind_eq_some_iff.mp e
  obtain ⟨ds', e2, e⟩ := Option.bind_eq_some_iff.mp e
  cases e
  refine keepM_go h.sn Rp e1 fun v F1 H1 P1 r1 => ?_
  rcases items_ok e2 with e2 | e2
  · have e2 : d = .list _ := e2
    subst e2
    obtain ⟨a, xs, rfl, h1, h2⟩ := rLst.mp r1
    refine ⟨a, xs, rfl, .inl ⟨SqL.of (P1.rep.fh _ _ h1), q _ F1 H1 P1 ⟨fun i d e F2 ps σ H2 R s => ?_, fun F2 ps σ H2 R s => ?_⟩⟩⟩
    · obtain ⟨z, e3, rfl⟩ := enL_get e
      obtain ⟨u, e4, r⟩ := h2.get e3
      have hl : SqL X.K H2 a xs := SqL.of (R.fh _ _ (s _ _ h1))
      refine ⟨⟨xs, u, hl, e4⟩, fun x H3 ⟨T, y, ev, hT, hH, hy⟩ => ?_⟩
      have e5 := hy xs hl
      rw [e4] at e5
      cases e5
      exact yld_pair R ev hT hH (by unfold Rel; rfl) (Rel.mono s _ _ r)
    · refine ⟨xs, SqL.of (R.fh _ _ (s _ _ h1)), ?_⟩
      unfold enL
      rw [h2.len]
      simp
  · have e2 : d = .tuple _ := e2
    subst e2
    obtain ⟨a, xs, rfl, h1, h2⟩ := rTupE r1
    refine ⟨a, xs, rfl, .inr ⟨seqT P1.rep.fh h1, q _ F1 H1 P1 ⟨fun i d e F2 ps σ H2 R s => ?_, fun F2 ps σ H2 R s => ⟨?_, seqT (s.trans R.fh) h1⟩⟩⟩⟩
    · obtain ⟨z, e3, rfl⟩ := enL_get e
      obtain ⟨u, e4, r⟩ := h2.get e3
      refine ⟨⟨ltOf e4, seqT (s.trans R.fh) h1⟩, fun x H3 ⟨T, ys, ev, hT, hH, u', e5, ey⟩ => ?_⟩
      rw [e4] at e5
      cases e5
      subst ey
      exact yld_pair R ev hT hH (by unfold Rel; rfl) (Rel.mono s _ _ r)
    · unfold enL
      rw [h2.len]
      simp
end
end MP

namespace MP
open PySem PySem.Spec PyProof.Rows L2

/-! ### statements -/
inductive SOut where
  | nx (ps : PS)
  | rt (r : RV) (ps : PS)
  | bk (ps : PS)
  | ct (ps : PS)
abbrev SM := PS → Option SOut
def EndOk (G : Ctl) (K : Fg) (F : Hp) (D : Ends) : SOut → Prop
  | .nx ps' => ∀ F' σ' H', Rep G K F' ps' σ' H' → Same F F' → D.nx σ' H'
  | .bk ps' => ∀ F' σ' H', Rep G K F' ps' σ' H' → Same F F' → D.bk σ' H'
  | .ct ps' => ∀ F' σ' H', Rep G K F' ps' σ' H' → Same F F' → D.ct σ' H'
  | .rt r ps' => ∀ v F' σ' H', Rep G K F' ps' σ' H' → Same F F' → RetOk K F' G.T G.H0 H' r v → D.rt v H'
theorem EndOk.mono {G : Ctl} {K : Fg} {F F' : Hp} {D : Ends} {o : SOut} (h : EndOk G K F D o) (s : Same F F') : EndOk G K F' D o := by
  cases o with
  | nx ps => exact fun F2 σ' H' r s2 => h F2 σ' H' r (s.trans s2)
  | bk ps => exact fun F2 σ' H' r s2 => h F2 σ' H' r (s.trans s2)
  | ct ps => exact fun F2 σ' H' r s2 => h F2 σ' H' r (s.trans s2)
  | rt r ps => exact fun v F2 σ' H' r s2 q => h v F2 σ' H' r (s.trans s2) q
structure SndS (K : Fg) (t : TS) (f : SM) : Prop where
  go : ∀ (G : Ctl) (F : Hp) (ps : PS) (σ : L2.St) (H : Hp) (o : SOut) (D : Ends), Rep G K F ps σ H → f ps = some o → EndOk G K F D o → t D σ H
structure DS (X : Cx) (st : Stmt) (t : TS) (f : SM) : Prop where
  pe : L2.PS X st t
  sn : SndS X.K t f
structure DSs (X : Cx) (st : List Stmt) (t : TS) (f : SM) : Prop where
  pe : PSs X st t
  sn : SndS X.K t f
def nxM : SM := fun ps => some (.nx ps)
def seqM (f g : SM) : SM := fun ps => (f ps).bind fun o => match o with
  | .nx ps' => g ps'
  | o => some o
theorem snd_seq {K : Fg} {t u : TS} {f g : SM} (h : SndS K t f) (h2 : SndS K u g) : SndS K (tSeq t u) (seqM f g) := by
  refine ⟨fun G F ps σ H o D R e q => ?_⟩
  unfold seqM at e
  obtain ⟨o1, e1, e⟩ := Option.bind_eq_some_iff.mp e
  refine h.go G F ps σ H o1 { D with nx := u D } R e1 ?_
  cases o1 with
  | nx ps' => exact fun F' σ' H' R' s => h2.go G F' ps' σ' H' o D R' e (q.mono s)
  | bk ps' => cases e; exact q
  | ct ps' => cases e; exact q
  | rt r ps' => cases e; exact q
section
variable {X : Cx} {st : Stmt} {rest : List Stmt} {t u : TS} {f g : SM} {e a b c : Expr} {te ta tb : TE} {fe fa fb : M RV} {pos : Pos}
theorem dss_nil : DSs X [] tNext nxM := ⟨pss_nil, ⟨fun G F ps σ H o D R e q => by
  cases e
  exact q F σ H R (Same.refl F)⟩⟩
theorem dss_one (h : DS X st t f) : DSs X [st] t f := ⟨pss_one h.pe, h.sn⟩
theorem dss_cons (h : DS X st t f) (h2 : DSs X rest u g) : DSs X (st :: rest) (tSeq t u) (seqM f g) := ⟨pss_cons h.pe h2.pe, snd_seq h.sn h2.sn⟩
theorem ds_pass : DS X (.Pass pos) tNext nxM := ⟨ps_pass, ⟨fun G F ps σ H o D R e q => by
  cases e
  exact q F σ H R (Same.refl F)⟩⟩
theorem ds_break : DS X (.Break pos) tBreak (fun ps => some (.bk ps)) := ⟨ps_break, ⟨fun G F ps σ H o D R e q => by
  cases e
  exact q F σ H R (Same.refl F)⟩⟩
theorem ds_continue : DS X (.Continue pos) tCont (fun ps => some (.ct ps)) := ⟨ps_continue, ⟨fun G F ps σ H o D R e q => by
  cases e
  exact q F σ H R (Same.refl F)⟩⟩
/-- x = e -/
def setV (i : Nat) (r : RV) (ps : PS) : Option PS := match r with
  | .im d => some (ps.put i (.fr d))
  | .nw ds => some (ps.put i (.ow ds))
  | .sl j => (keepV (.sl j) ps).bind fun x => some (x.2.put i (.fr x.1))
def setM (i : Nat) (fe : M RV) : SM := fun ps => (fe ps).bind fun x => (setV i x.1 x.2).bind fun ps' => some (.nx ps')
theorem setV_ok {G : Ctl} {K : Fg} {F F1 : Hp} {ps ps1 ps2 : PS} {σ : L2.St} {H H1 : Hp} {r : RV} {v : V} {i : Nat} (P : Post G K F ps σ H F1 ps1 H1) (h : RVok G K F1 ps1 σ H H1 r v) (e : setV i r ps1 = some ps2) :
    ∃ F', Same F F' ∧ Rep G K F' ps2 (σ.set i (some v)) H1 := by
  cases r with
  | im d =>
    cases e
    exact ⟨F1, P.same, P.rep.setFr h⟩
  | nw ds =>
    cases e
    obtain ⟨p, vs, rfl, h1, h2, h3, h4, h5, _⟩ := h
    exact ⟨F1, P.same, P.rep.setOw h1 h2 h3 h4 h5⟩
  | sl j =>
    unfold setV at e
    obtain ⟨⟨d, ps3⟩, e1, e⟩ := Option.bind_eq_some_iff.mp e
    cases e
    obtain ⟨F', P', r'⟩ := keepV_ok P h e1
    exact ⟨F', P'.same, P'.rep.setFr r'⟩
theorem snd_set {K : Fg} {i : Nat} (h : SndE K te fe) : SndS K (tAsg te (gName i)) (setM i fe) := by
  refine ⟨fun G F ps σ H o D R e q => ?_⟩
  unfold setM at e
  obtain ⟨⟨r, ps1⟩, e1, e⟩ := Option.bind_eq_some_iff.mp e
  obtain ⟨ps2, e2, e⟩ := Option.bind_eq_some_iff.mp e
  cases e
  refine h.go G F ps σ H r ps1 _ R e1 fun v F1 H1 P1 r1 => ?_
  obtain ⟨F', s, R'⟩ := setV_ok P1 r1 e2
  exact q F' _ H1 R' s
theorem ds_set {i : Nat} {x : Str} {pos' : Pos} (hN : X.N.Nodup) (hi : X.N[i]? = some x) (hx : Loc X.env.scope x) (he : DE X e te fe) (hs : swapsWith e (some (.Name x pos')) pos.line X.env = pure false := by rfl) (hf : X.fn x = true ∨ X.env.scope.names.lookup x = some .local := by first | exact .inl rfl | exact .inr rfl | assumption) :
    DS X (.Assign [.Name x pos'] e pos) (tAsg te (gName i)) (setM i fe) := ⟨ps_set hN hi hx he.pe hs hf, snd_set he.sn⟩
/-- targets of several names -/
def asgM (tg : Dat → PS → Option PS) (fe : M RV) : SM := fun ps => (keepM fe ps).bind fun x => (tg x.1 x.2).bind fun ps' => some (.nx ps')
theorem ds_asg {tg : Expr} {g : TG} {is : List Nat} {ft : Dat → PS → Option PS} (he : DE X e te fe) (hg : DG X tg g is ft) (hs : swapsWithSole [tg] e pos.line X.env = pure false := by rfl) (hw : swappedStores [tg] e X.env = pure none := by rfl)
    (h1 : (assignEach [tg] X.env).map (·.2) = [assign tg X.env] := by rfl) : DS X (.Assign [tg] e pos) (tAsg te g) (asgM ft fe) := by
  refine ⟨ps_asg he.pe hg.pe hs hw h1, ⟨fun G F ps σ H o D R e q => ?_⟩⟩
  unfold asgM at e
  obtain ⟨⟨d, ps1⟩, e1, e⟩ := Option.bind_eq_some_iff.mp e
  obtain ⟨ps2, e2, e⟩ := Option.bind_eq_some_iff.mp e
  cases e
  refine keepM_go he.sn R e1 fun v F1 H1 P1 r1 => ?_
  exact hg.sn.go G F1 ps1 σ H1 d v ps2 _ P1.rep r1 e2 fun σ' R' _ _ _ => q F1 σ' H1 R' P1.same
/-- a, b = x, y -/
def slotV (r : RV) (ps : PS) : Option (Sl × PS) := match r with
  | .im d => some (.fr d, ps)
  | .nw ds => some (.ow ds, ps)
  | .sl j => (keepV (.sl j) ps).bind fun x => some (.fr x.1, x.2)
def parM (i j : Nat) (fa fb : M RV) : SM := fun ps => (fa ps).bind fun x => (fb x.2).bind fun y => (slotV x.1 y.2).bind fun u => (slotV y.1 u.2).bind fun w => some (.nx ((w.2.put i u.1).put j w.1))
/-- s may be put where v is -/
def SV (G : Ctl) (K : Fg) (F : Hp) (ps : PS) (σ : L2.St) (H Hs : Hp) (s : Sl) (v : V) : Prop := match s with
  | .un => False
  | .fr d => Rel K F G.T d v
  | .ow ds => ∃ p vs, v = .ref p ∧ H p = some (.lst vs) ∧ F p = none ∧ G.H0 p = none ∧ ¬ Own ps σ p ∧ RelL K F G.T ds vs ∧ Hs p = none
theorem slotV_ok {G : Ctl} {K : Fg} {F F1 : Hp} {ps ps1 ps2 : PS} {σ : L2.St} {Hs H H1 : Hp} {r : RV} {v : V} {s : Sl} (P : Post G K F ps σ H F1 ps1 H1) (h : RVok G K F1 ps1 σ Hs H1 r v) (e : slotV r ps1 = some (s, ps2)) :
    ∃ F', Post G K F ps σ H F' ps2 H1 ∧ SV G K F' ps2 σ H1 Hs s v ∧ ∀ s' v', SV G K F1 ps1 σ H1 Hs s' v' → SV G K F' ps2 σ H1 Hs s' v' := by
  cases r with
  | im d =>
    cases e
    exact ⟨F1, P, h, fun _ _ x => x⟩
  | nw ds =>
    cases e
    exact ⟨F1, P, h, fun _ _ x => x⟩
  | sl j =>
    unfold slotV at e
    obtain ⟨⟨d, ps3⟩, e1, e⟩ := Option.bind_eq_some_iff.mp e
    cases e
    have h : σ[j]? = some (some v) := h
    obtain ⟨F', P', r'⟩ := keepV_ok (.refl P.rep) (show RVok G K F1 ps1 σ H1 H1 (.sl j) v from h) e1
    refine ⟨F', P.trans P', r', fun s' v' x => ?_⟩
    cases s' with
    | un => exact x
    | fr d => exact Rel.mono P'.same _ _ x
    | ow ds =>
      obtain ⟨p, vs, ev, h1, h2, h3, h4, h5, h6⟩ := x
      obtain ⟨a, b, c⟩ := P'.fresh p vs h1 h2 h3 h4
      exact ⟨p, vs, ev, a, b, h3, c, RelL.mono P'.same _ _ h5, h6⟩
theorem rv_sv {G : Ctl} {K : Fg} {F F' : Hp} {ps ps' : PS} {σ : L2.St} {Hs H H' : Hp} {s : Sl} {v : V} (x : SV G K F ps σ H Hs s v) (P : Post G K F ps σ H F' ps' H') : SV G K F' ps' σ H' Hs s v := by
  cases s with
  | un => exact x
  | fr d => exact Rel.mono P.same _ _ x
  | ow ds =>
    obtain ⟨p, vs, ev, h1, h2, h3, h4, h5, h6⟩ := x
    obtain ⟨a, b, c⟩ := P.fresh p vs h1 h2 h3 h4
    exact ⟨p, vs, ev, a, b, h3, c, RelL.mono P.same _ _ h5, h6⟩
theorem Rep.setS {G : Ctl} {K : Fg} {F : Hp} {ps : PS} {σ : L2.St} {Hs H : Hp} {s : Sl} {v : V} {i : Nat} (R : Rep G K F ps σ H) (h : SV G K F ps σ H Hs s v) : Rep G K F (ps.put i s) (σ.set i (some v)) H := by
  cases s with
  | un => exact h.elim
  | fr d => exact R.setFr h
  | ow ds =>
    obtain ⟨p, vs, rfl, h1, h2, h3, h4, h5, _⟩ := h
    exact R.setOw h1 h2 h3 h4 h5
theorem ds_par {i j : Nat} {x y : Str} {px py pt : Pos} {kt k2 pt2} (hc : X.calm = true) (hN : X.N.Nodup) (hi : X.N[i]? = some x) (hj : X.N[j]? = some y) (hij : i ≠ j)
    (hx : X.env.scope.names.lookup x = some .local) (hy : X.env.scope.names.lookup y = some .local) (ha : DE X a ta fa) (hb : DE X b tb fb)
    (hw : swappedStores [.Tuple [.Name x px, .Name y py] kt pt] (.Tuple [a, b] k2 pt2) X.env = pure (some [x, y]))
    (hs : swapsWithSole [.Tuple [.Name x px, .Name y py] kt pt] (.Tuple [a, b] k2 pt2) pos.line X.env = pure false := by rfl)
    (h1 : starEach [a, b] X.env = (false, eval a X.env) :: starEach [b] X.env := by rfl) (h2 : starEach [b] X.env = (false, eval b X.env) :: starEach [] X.env := by rfl) :
    DS X (.Assign [.Tuple [.Name x px, .Name y py] kt pt] (.Tuple [a, b] k2 pt2) pos) (tPar i j (tCons ta (tCons tb tNil))) (parM i j fa fb) := by
  refine ⟨ps_par hc hN hi hj hij hx hy (pa_cons ha.pe (pa_cons hb.pe pa_nil h2) h1) hw hs, ⟨fun G F ps σ H o D R e q => ?_⟩⟩
  unfold parM at e
  obtain ⟨⟨r1, ps1⟩, e1, e⟩ := Option.bind_eq_some_iff.mp e
  obtain ⟨⟨r2, ps2⟩, e2, e⟩ := Option.bind_eq_some_iff.mp e
  obtain ⟨⟨s1, ps3⟩, e3, e⟩ := Option.bind_eq_some_iff.mp e
  obtain ⟨⟨s2, ps4⟩, e4, e⟩ := Option.bind_eq_some_iff.mp e
  cases e
  refine ha.sn.go G F ps σ H r1 ps1 _ R e1 fun v F1 H1 P1 q1 => ?_
  refine hb.sn.go G F1 ps1 σ H1 r2 ps2 _ P1.rep e2 fun w F2 H2 P2 q2 => ?_
  refine ⟨v, w, rfl, ?_⟩
  obtain ⟨F3, P3, sv1, _⟩ := slotV_ok (.refl P2.rep) (q1.post P2) e3
  obtain ⟨F4, P4, sv2, _⟩ := slotV_ok (.refl P3.rep) (q2.post P3) e4
  have sv1 := rv_sv sv1 P4
  have R4 := P4.rep
  have R5 : Rep G X.K F4 (ps4.put i s1) (σ.set i (some v)) H2 := R4.setS sv1
  have nown : ∀ p, (∃ ds, s1 = .ow ds ∧ v = .ref p) ∨ Own ps4 σ p ∨ ¬ Own (ps4.put i s1) (σ.set i (some v)) p := fun p => by
    by_cases ho : Own (ps4.put i s1) (σ.set i (some v)) p
    · obtain ⟨k, dk, z1, z2⟩ := ho
      rcases getSet z1 with ⟨ek, ez, hl⟩ | ⟨hk, z1⟩
      · subst ek
        rw [List.getElem?_set_self (by rw [R4.len]; exact hl)] at z2
        exact .inl ⟨dk, ez, Option.some.inj (Option.some.inj z2)⟩
      · rw [List.getElem?_set_ne (Ne.symm hk)] at z2
        exact .inr (.inl ⟨k, dk, z1, z2⟩)
    · exact .inr (.inr ho)
  have sv2' : SV G X.K F4 (ps4.put i s1) (σ.set i (some v)) H2 H1 s2 w := by
    cases s2 with
    | un => exact sv2
    | fr d => exact sv2
    | ow es =>
      obtain ⟨p, vs, ev, a1, a2, a3, a4, a5, a6⟩ := sv2
      refine ⟨p, vs, ev, a1, a2, a3, ?_, a5, a6⟩
      rcases nown p with ⟨ds, es1, ev1⟩ | z | z
      · exfalso
        subst es1
        -- the first one stood at H1 already
        cases r1 with
        | im d =>
          cases e3
        | nw ds' =>
          obtain ⟨p', vs', ev', b1, b2, _⟩ := q1
          rw [ev'] at ev1
          cases ev1
          rw [a6] at b1
          cases b1
        | sl k =>
          unfold slotV at e3
          obtain ⟨z, _, z2⟩ := Option.bind_eq_some_iff.mp e3
          cases z2
      · exact absurd z a4
      · exact z
  exact q F4 _ H2 (R5.setS sv2') (((P1.same.trans P2.same).trans P3.same).trans P4.same)
/-- x += e, two ints -/
def augM (i : Nat) (g : Dat → Dat → Option RV) (fe : M RV) : SM := fun ps => match ps.sl[i]? with
  | some (.fr d) => (keepM fe ps).bind fun x => (g d x.1).bind fun r => match r with
    | .im d' => some (.nx (x.2.put i (.fr d')))
    | _ => none
  | _ => none
def augI (f : Int → Int → Int) : Dat → Dat → Option RV
  | .int i, .int j => some (.im (.int (f i j)))
  | _, _ => none
theorem ds_aug {i : Nat} {x : Str} {op : Operator} {f : Int → Int → Int} {pos' : Pos} (hN : X.N.Nodup) (hi : X.N[i]? = some x) (hx : Loc X.env.scope x) (he : DE X e te fe) (ho : PIp X op (ipI f)) (hf : X.fn x = true ∨ X.env.scope.names.lookup x = some .local := by first | exact .inl rfl | exact .inr rfl | assumption) :
    DS X (.AugAssign (.Name x pos') op e pos) (tAug i te (ipI f)) (augM i (augI f) fe) := by
  refine ⟨ps_aug hN hi hx he.pe ho hf, ⟨fun G F ps σ H o D R e q => ?_⟩⟩
  unfold augM at e
  split at e
  · rename_i d ed
    obtain ⟨⟨d2, ps1⟩, e1, e⟩ := Option.bind_eq_some_iff.mp e
    obtain ⟨r, e2, e⟩ := Option.bind_eq_some_iff.mp e
    obtain ⟨o1, e3, v, rfl, rv⟩ := R.slots i _ ed
    refine ⟨v, e3, keepM_go he.sn R e1 fun w F1 H1 P1 r1 => ?_⟩
    have e2 : augI f d d2 = some r := e2
    unfold augI at e2
    split at e2
    · cases e2
      cases e
      have r1 := rInt.mp r1
      have rv := rInt.mp rv
      refine ⟨_, _, rv, r1, q F1 _ H1 (P1.rep.setFr (by unfold Rel; rfl)) P1.same⟩
    · cases e2
  · cases e
/-- x[i] = e -/
def stoM (j : Nat) (fi fe : M RV) : SM := fun ps => (keepM fe ps).bind fun x => match x.2.sl[j]? with
  | some (.ow _) => (keepM fi x.2).bind fun y => match y.1, y.2.sl[j]? with
    | .int k, some (.ow ds) => (ixN ds.length k).bind fun n => some (.nx (y.2.put j (.ow (ds.set n x.1))))
    | _, _ => none
  | _ => none
theorem snd_sto {K : Fg} {ti : TE} {fi : M RV} {j : Nat} (he : SndE K te fe) (hi : SndE K ti fi) : SndS K (tAsg te (gSub (tVar j) ti rSetL)) (stoM j fi fe) := by
  refine ⟨fun G F ps σ H o D R e q => ?_⟩
  unfold stoM at e
  obtain ⟨⟨d, ps1⟩, e1, e⟩ := Option.bind_eq_some_iff.mp e
  simp only at e
  split at e
  · rename_i ds0 ed0
    obtain ⟨⟨di, ps2⟩, e2, e⟩ := Option.bind_eq_some_iff.mp e
    simp only at e
    split at e
    · rename_i k ds ed
      obtain ⟨n, e3, e⟩ := Option.bind_eq_some_iff.mp e
      cases e
      refine keepM_go he R e1 fun v F1 H1 P1 r1 => ?_
      obtain ⟨o1, e4, p, vs0, rfl, _⟩ := P1.rep.slots j _ ed0
      refine ⟨.ref p, e4, keepM_go hi P1.rep e2 fun w F2 H2 P2 r2 => ?_⟩
      obtain ⟨o2, e5, p', vs, eo, h1, h2, h3, h4⟩ := P2.rep.slots j _ ed
      rw [e4] at e5
      cases e5
      cases eo
      have P3 := P2.rep.wr ed e4 (h4.set n (Rel.mono P2.same _ _ r1))
      refine ⟨p, vs, k, n, rfl, rInt.mp r2, h1, by rw [h4.len]; exact e3, q F2 σ _ P3.rep (P1.same.trans P2.same)⟩
    · cases e
  · cases e
theorem ds_sto {j : Nat} {x : Str} {i : Expr} {ti : TE} {fi : M RV} {px spos : Pos} (hN : X.N[j]? = some x) (hv : Vis X.env.scope x) (he : DE X e te fe) (hi : DE X i ti fi)
    (ha : ∀ v, assign (.Subscript (.Name x px) i spos) X.env v = (do
      let ov ← holding [v] (eval (.Name x px) X.env)
      let iv ← holding [v, ov] (eval i X.env)
      standAt spos
      holding [v, ov, iv] (setItem ov iv v)
      release [v, ov, iv] []) := by intro _; rfl)
    (hs : swapsWithSole [.Subscript (.Name x px) i spos] e pos.line X.env = pure false := by rfl) (hw : swappedStores [.Subscript (.Name x px) i spos] e X.env = pure none := by rfl)
    (h1 : (assignEach [.Subscript (.Name x px) i spos] X.env).map (·.2) = [assign (.Subscript (.Name x px) i spos) X.env] := by rfl)
    (hd : (x == ("__debug__" : Str)) = false := by decide) (hcd : (x == ("__classdict__" : Str)) = false := by decide) : DS X (.Assign [.Subscript (.Name x px) i spos] e pos) (tAsg te (gSub (tVar j) ti rSetL)) (stoM j fi fe) :=
  ⟨ps_asg he.pe (pg_sub (pe_var hN hv hd hcd) hi.pe set_list ha) hs hw h1, snd_sto he.sn hi.sn⟩
/-- x.append(e) -/
def appM (j : Nat) (fe : M RV) : SM := fun ps => match ps.sl[j]? with
  | some (.ow _) => (keepM fe ps).bind fun x => match x.2.sl[j]? with
    | some (.ow ds) => if decide (ds.length < sizeLine) then some (.nx (x.2.put j (.ow (ds ++ [x.1])))) else none
    | _ => none
  | _ => none
theorem snd_app {K : Fg} {j : Nat} (he : SndE K te fe) : SndS K (tDrop (tBM K "list" rAppend (tVar j) (tCons te tNil))) (appM j fe) := by
  refine ⟨fun G F ps σ H o D R e q => ?_⟩
  unfold appM at e
  split at e
  · rename_i ds0 ed0
    obtain ⟨⟨d, ps1⟩, e1, e⟩ := Option.bind_eq_some_iff.mp e
    simp only at e
    split at e
    · rename_i ds ed
      split at e
      · rename_i hl
        cases e
        obtain ⟨o1, e4, p, vs0, rfl, hp, _⟩ := R.slots j _ ed0
        refine ⟨.ref p, e4, .inl ⟨rfl, _, SqL.of hp⟩, keepM_go he R e1 fun v F1 H1 P1 r1 => ?_⟩
        obtain ⟨o2, e5, p', vs, eo, h1, h2, h3, h4⟩ := P1.rep.slots j _ ed
        rw [e4] at e5
        cases e5
        cases eo
        have P3 := P1.rep.wr ed e4 (h4.append (.cons r1 .nil))
        exact ⟨p, vs, v, rfl, rfl, h1, by rw [h4.len]; exact of_decide_eq_true hl, q F1 σ _ P3.rep P1.same⟩
      · cases e
    · cases e
  · cases e
theorem ds_app {j : Nat} {x : Str} {px apos cpos : Pos} (hN : X.N[j]? = some x) (hv : Vis X.env.scope x) (he : DE X e te fe)
    (hbase : attributeBase (.Name x px) "append" X.env (eval (.Name x px) X.env) = eval (.Name x px) X.env := by rfl)
    (hfew : ((backTo cpos (starEach (e :: []) X.env)).all (fun z => !z.1) && (backToKw cpos (keywordEach [] X.env)).all (fun z => z.1.isSome) && decide ((e :: []).length + ([] : List Keyword).length + (if ([] : List Keyword).isEmpty then 0 else 1) < 30)) = true := by rfl)
    (hline : (apos.endLine == cpos.line) = true := by rfl) (h1 : starEach [e] X.env = (false, eval e X.env) :: starEach [] X.env := by rfl) (hplain : (backTo cpos (starEach [] X.env)).any (·.1) = false := by rfl)
    (hs : swapsWith (.Call (.Attribute (.Name x px) "append" apos) [e] [] cpos) none pos.line X.env = pure false := by rfl)
    (hd : (x == ("__debug__" : Str)) = false := by decide) (hcd : (x == ("__classdict__" : Str)) = false := by decide) :
    DS X (.Expr (.Call (.Attribute (.Name x px) "append" apos) [e] [] cpos) pos) (tDrop (tBM X.K "list" rAppend (tVar j) (tCons te tNil))) (appM j fe) :=
  ⟨ps_expr (pe_bm PySem.F.plainAttrs_list PySem.F.slot_list_append PySem.F.type_list_append mt_append (pe_var hN hv hd hcd) (pa_cons he.pe pa_nil h1) hbase hfew hline h1 hplain) hs, snd_app he.sn⟩
/-- return -/
def retV (r : RV) (ps : PS) : Option SOut := match r with
  | .im d => some (.rt (.im d) ps)
  | .nw ds => some (.rt (.nw ds) ps)
  | .sl i => match ps.sl[i]? with
    | some (.fr d) => some (.rt (.im d) ps)
    | some (.ow ds) => some (.rt (.nw ds) ps)
    | _ => none
def retM (fe : M RV) : SM := fun ps => (fe ps).bind fun x => retV x.1 x.2
theorem ds_ret (he : DE X e te fe) : DS X (.Return (some e) pos) (tRet te) (retM fe) := by
  refine ⟨ps_ret he.pe, ⟨fun G F ps σ H o D R e q => ?_⟩⟩
  unfold retM at e
  obtain ⟨⟨r, ps1⟩, e1, e⟩ := Option.bind_eq_some_iff.mp e
  refine he.sn.go G F ps σ H r ps1 _ R e1 fun v F1 H1 P1 r1 => ?_
  cases r with
  | im d =>
    cases e
    exact q v F1 σ H1 P1.rep P1.same r1
  | nw ds =>
    cases e
    obtain ⟨p, vs, ev, h1, h2, h3, h4, h5, _⟩ := r1
    exact q v F1 σ H1 P1.rep P1.same ⟨p, vs, ev, h1, h2, h3, h5⟩
  | sl i =>
    have r1 : σ[i]? = some (some v) := r1
    unfold retV at e
    cases z : ps1.sl[i]? with
    | none => simp [z] at e
    | some s =>
      obtain ⟨o, e2, y⟩ := P1.rep.slots i s z
      rw [r1] at e2
      cases e2
      cases s with
      | un => simp [z] at e
      | fr d =>
        simp [z] at e
        subst e
        obtain ⟨v', ev, y⟩ := y
        cases ev
        exact q v F1 σ H1 P1.rep P1.same y
      | ow ds =>
        simp [z] at e
        subst e
        obtain ⟨p, vs, ev, h1, h2, h3, h4⟩ := y
        cases ev
        exact q _ F1 σ H1 P1.rep P1.same ⟨p, vs, rfl, h1, h2, h3, h4⟩
theorem ds_retN : DS X (.Return none pos) tRetN (fun ps => some (.rt (.im .none) ps)) := ⟨ps_retN, ⟨fun G F ps σ H o D R e q => by
  cases e
  exact q _ F σ H R (Same.refl F) (by show Rel _ _ _ _ _; unfold Rel; rfl)⟩⟩
/-- if -/
def iteM (c : M Bool) (f g : SM) : SM := fun ps => (c ps).bind fun x => if x.1 then f x.2 else g x.2
theorem ds_ite {c : Expr} {l1 l2 : List Stmt} {tc : TT} {fc : M Bool} (hc : DT X c tc fc) (h1 : DSs X l1 t f) (h2 : DSs X l2 u g) : DS X (.If c l1 l2 pos) (tIfS tc t u) (iteM fc f g) := by
  refine ⟨ps_if hc.pe h1.pe h2.pe, ⟨fun G F ps σ H o D R e q => ?_⟩⟩
  unfold iteM at e
  obtain ⟨⟨k, ps1⟩, e1, e⟩ := Option.bind_eq_some_iff.mp e
  refine hc.sn.go G F ps σ H k ps1 _ R e1 fun F1 H1 P1 => ?_
  cases k with
  | true =>
    rw [if_pos rfl] at e
    exact iteT (h1.sn.go G F1 ps1 σ H1 o D P1.rep e (q.mono P1.same))
  | false =>
    rw [if_neg Bool.false_ne_true] at e
    exact iteF (h2.sn.go G F1 ps1 σ H1 o D P1.rep e (q.mono P1.same))

/-! ### for, while -/
def forL (tgt : Dat → PS → Option PS) (body : SM) : List Dat → SM
  | [], ps => some (.nx ps)
  | d :: ds, ps => (tgt d ps).bind fun ps1 => (body ps1).bind fun o => match o with
    | .nx q => forL tgt body ds q
    | .ct q => forL tgt body ds q
    | .bk q => some (.nx q)
    | .rt r q => some (.rt r q)
def forSM (fi : M (List Dat)) (tgt : Dat → PS → Option PS) (body : SM) : SM := fun ps => (fi ps).bind fun x => forL tgt body x.1 x.2
theorem snd_for {K : Fg} {wi : TI} {gt : TG} {tb : TS} {fi : M (List Dat)} {tgt : Dat → PS → Option PS} {is : List Nat} {body : SM} (hi : SndI K wi fi) (hg : SndG K gt is tgt) (hb : SndS K tb body) : SndS K (tFor wi gt tb) (forSM fi tgt body) := by
  refine ⟨fun G F ps σ H o D R e q => ?_⟩
  unfold forSM at e
  obtain ⟨⟨ds, ps1⟩, e1, e⟩ := Option.bind_eq_some_iff.mp e
  have e : forL tgt body ds ps1 = some o := e
  refine hi.go G F ps σ H ds ps1 _ R e1 fun J F1 H1 P1 wk => ?_
  refine ⟨fun i m σ H => ∃ F ps, m = ds.length - i ∧ i ≤ ds.length ∧ Rep G K F ps σ H ∧ Same F1 F ∧ forL tgt body (ds.drop i) ps = some o, ⟨ds.length, F1, ps1, by simp, Nat.zero_le _, P1.rep, Same.refl _, e⟩, ?_⟩
  rintro i m σ2 H2 ⟨F2, ps2, rfl, hi', R2, s2, e2⟩
  by_cases hlt : i < ds.length
  · obtain ⟨go, step⟩ := wk.1 i ds[i] (List.getElem?_eq_getElem hlt) F2 ps2 σ2 H2 R2 s2
    rw [List.drop_eq_getElem_cons hlt] at e2
    unfold forL at e2
    obtain ⟨ps3, e3, e2⟩ := Option.bind_eq_some_iff.mp e2
    obtain ⟨o1, e4, e2⟩ := Option.bind_eq_some_iff.mp e2
    refine .inr ⟨go, fun σ' H' => ∃ F ps, Rep G K F ps σ' H' ∧ Same F1 F ∧ forL tgt body (ds.drop (i + 1)) ps = some o, fun σ' H' ⟨F', ps', a, b, c⟩ => ⟨ds.length - (i + 1), by omega, F', ps', rfl, hlt, a, b, c⟩, fun x H3 y => ?_⟩
    obtain ⟨F3, P3, rx⟩ := step x H3 y
    refine hg.go G F3 ps2 σ2 H3 _ x ps3 _ P3.rep rx e3 fun σ4 R4 _ _ _ => ?_
    refine hb.go G F3 ps3 σ4 H3 o1 _ R4 e4 ?_
    have s3 : Same F1 F3 := s2.trans P3.same
    cases o1 with
    | nx q4 => exact fun F' σ' H' R' s => ⟨F', q4, R', s3.trans s, e2⟩
    | ct q4 => exact fun F' σ' H' R' s => ⟨F', q4, R', s3.trans s, e2⟩
    | bk q4 =>
      cases e2
      exact fun F' σ' H' R' s => q F' σ' H' R' ((P1.same.trans s3).trans s)
    | rt r q4 =>
      cases e2
      exact fun v F' σ' H' R' s z => q v F' σ' H' R' ((P1.same.trans s3).trans s) z
  · have ei : i = ds.length := by omega
    subst ei
    rw [List.drop_length] at e2
    cases e2
    exact .inl ⟨wk.2 F2 ps2 σ2 H2 R2 s2, q F2 σ2 H2 R2 (P1.same.trans s2)⟩
theorem ds_for {tg iter : Expr} {body : List Stmt} {wi : TI} {gt : TG} {tb : TS} {fi : M (List Dat)} {tgt : Dat → PS → Option PS} {is : List Nat} {fb : SM} (hp : PassesOwn (model X.prog X.w) X.A X.env X.xe) (hc : X.calm = true) (hi : DI X tg iter wi fi) (hg : DG X tg gt is tgt) (hb : DSs X body tb fb)
    (hs : ∀ x, foldedSetIterable iter X.env x = pure x := by intro _; rfl) : DS X (.For tg iter body [] pos) (tFor wi gt tb) (forSM fi tgt fb) := ⟨ps_for hp hc hi.pe hg.pe hb.pe hs, snd_for hi.sn hg.sn hb.sn⟩
def whileN (c : M Bool) (b : SM) : Nat → SM
  | 0, _ => none
  | n + 1, ps => (c ps).bind fun x => if x.1 then (b x.2).bind fun o => match o with
    | .nx q => whileN c b n q
    | .ct q => whileN c b n q
    | .bk q => some (.nx q)
    | .rt r q => some (.rt r q)
    else some (.nx x.2)
open Classical in
noncomputable def whileM (c : M Bool) (b : SM) : SM := fun ps => if h : ∃ n o, whileN c b n ps = some o then some (Classical.choose (Classical.choose_spec h)) else none
theorem whileN_mono {c : M Bool} {b : SM} : ∀ {n : Nat} {ps : PS} {o : SOut}, whileN c b n ps = some o → whileN c b (n + 1) ps = some o
  | 0, _, _, h => by cases h
  | n + 1, ps, o, h => by
    unfold whileN at h
    unfold whileN
    obtain ⟨⟨k, ps1⟩, e1, h⟩ := Option.bind_eq_some_iff.mp h
    rw [e1]
    show (if k = true then _ else _) = _
    have h : (if k = true then _ else _) = some o := h
    cases k with
    | false =>
      rw [if_neg Bool.false_ne_true] at h ⊢
      exact h
    | true =>
      rw [if_pos rfl] at h ⊢
      obtain ⟨o1, e2, h⟩ := Option.bind_eq_some_iff.mp h
      rw [show b (true, ps1).2 = some o1 from e2]
      cases o1 with
      | nx q => exact whileN_mono h
      | ct q => exact whileN_mono h
      | bk q => exact h
      | rt r q => exact h
theorem whileN_le {c : M Bool} {b : SM} {n m : Nat} {ps : PS} {o : SOut} (h : whileN c b n ps = some o) (l : n ≤ m) : whileN c b m ps = some o := by
  induction l with
  | refl => exact h
  | step _ ih => exact whileN_mono ih
theorem whileM_of {c : M Bool} {b : SM} {n : Nat} {ps : PS} {o : SOut} (h : whileN c b n ps = some o) : whileM c b ps = some o := by
  have hx : ∃ n o, whileN c b n ps = some o := ⟨n, o, h⟩
  unfold whileM
  rw [dif_pos hx]
  have h2 := Classical.choose_spec (Classical.choose_spec hx)
  have a := whileN_le h (Nat.le_max_left n (Classical.choose hx))
  have b' := whileN_le h2 (Nat.le_max_right n (Classical.choose hx))
  rw [a] at b'
  exact b'.symm
theorem whileM_to {c : M Bool} {b : SM} {ps : PS} {o : SOut} (h : whileM c b ps = some o) : ∃ n, whileN c b n ps = some o := by
  unfold whileM at h
  split at h
  · rename_i hx
    have h2 := Classical.choose_spec (Classical.choose_spec hx)
    cases h
    exact ⟨_, h2⟩
  · cases h
/-- one turn -/
theorem whileM_eq {c : M Bool} {b : SM} {ps : PS} : whileM c b ps = (c ps).bind fun x => if x.1 then (b x.2).bind fun o => match o with
    | .nx q => whileM c b q
    | .ct q => whileM c b q
    | .bk q => some (.nx q)
    | .rt r q => some (.rt r q)
    else some (.nx x.2) := by
  have main : ∀ o, whileM c b ps = some o ↔ ((c ps).bind fun x => if x.1 then (b x.2).bind fun o => match o with
    | .nx q => whileM c b q
    | .ct q => whileM c b q
    | .bk q => some (.nx q)
    | .rt r q => some (.rt r q)
    else some (.nx x.2)) = some o := by
    intro o
    constructor
    · intro h
      obtain ⟨n, h⟩ := whileM_to h
      cases n with
      | zero => cases h
      | succ n =>
        unfold whileN at h
        obtain ⟨⟨k, ps1⟩, e1, h⟩ := Option.bind_eq_some_iff.mp h
        rw [e1]
        show (if k = true then _ else _) = _
        have h : (if k = true then _ else _) = some o := h
        cases k with
        | false =>
          rw [if_neg Bool.false_ne_true] at h ⊢
          exact h
        | true =>
          rw [if_pos rfl] at h ⊢
          obtain ⟨o1, e2, h⟩ := Option.bind_eq_some_iff.mp h
          rw [show b (true, ps1).2 = some o1 from e2]
          cases o1 with
          | nx q => exact whileM_of h
          | ct q => exact whileM_of h
          | bk q => exact h
          | rt r q => exact h
    · intro h
      obtain ⟨⟨k, ps1⟩, e1, h⟩ := Option.bind_eq_some_iff.mp h
      have h : (if k = true then _ else _) = some o := h
      cases k with
      | false =>
        rw [if_neg Bool.false_ne_true] at h
        refine whileM_of (n := 1) ?_
        unfold whileN
        rw [e1]
        exact h
      | true =>
        rw [if_pos rfl] at h
        obtain ⟨o1, e2, h⟩ := Option.bind_eq_some_iff.mp h
        have e2 : b ps1 = some o1 := e2
        have fin : ∀ n, (match o1 with
            | .nx q => whileN c b n q
            | .ct q => whileN c b n q
            | .bk q => some (.nx q)
            | .rt r q => some (.rt r q)) = some o → whileM c b ps = some o := fun n hn => by
          refine whileM_of (n := n + 1) ?_
          unfold whileN
          rw [e1, Option.bind_some, if_pos rfl, show b (true, ps1).2 = some o1 from e2]
          exact hn
        cases o1 with
        | nx q =>
          obtain ⟨n, h⟩ := whileM_to h
          exact fin n h
        | ct q =>
          obtain ⟨n, h⟩ := whileM_to h
          exact fin n h
        | bk q => exact fin 0 h
        | rt r q => exact fin 0 h
  cases h : whileM c b ps with
  | some o => exact ((main o).mp h).symm
  | none =>
    cases h2 : ((c ps).bind fun x => if x.1 then (b x.2).bind fun o => match o with
      | .nx q => whileM c b q
      | .ct q => whileM c b q
      | .bk q => some (.nx q)
      | .rt r q => some (.rt r q)
      else some (.nx x.2)) with
    | none => rfl
    | some o =>
      rw [(main o).mpr h2] at h
      cases h
theorem snd_while {K : Fg} {tc : TT} {tb : TS} {fc : M Bool} {body : SM} (hc : SndT K tc fc) (hb : SndS K tb body) : SndS K (tWhile tc tb) (whileM fc body) := by
  refine ⟨fun G F ps σ H o D R e q => ?_⟩
  obtain ⟨n, e⟩ := whileM_to e
  refine ⟨fun m σ H => ∃ F' ps, Rep G K F' ps σ H ∧ Same F F' ∧ whileN fc body m ps = some o, ⟨n, F, ps, R, Same.refl _, e⟩, ?_⟩
  rintro m σ2 H2 ⟨F2, ps2, R2, s2, e2⟩
  cases m with
  | zero => cases e2
  | succ m =>
    unfold whileN at e2
    obtain ⟨⟨k, ps3⟩, e3, e2⟩ := Option.bind_eq_some_iff.mp e2
    have e2 : (if k = true then _ else _) = some o := e2
    refine hc.go G F2 ps2 σ2 H2 k ps3 _ R2 e3 fun F3 H3 P3 => ?_
    have s3 := s2.trans P3.same
    cases k with
    | false =>
      rw [if_neg Bool.false_ne_true] at e2
      cases e2
      exact iteF (q F3 σ2 H3 P3.rep s3)
    | true =>
      rw [if_pos rfl] at e2
      obtain ⟨o1, e4, e2⟩ := Option.bind_eq_some_iff.mp e2
      refine iteT ⟨fun σ' H' => ∃ F' ps, Rep G K F' ps σ' H' ∧ Same F F' ∧ whileN fc body m ps = some o, fun σ' H' ⟨F', ps', a, b, c⟩ => ⟨m, Nat.lt_succ_self m, F', ps', a, b, c⟩, ?_⟩
      refine hb.go G F3 ps3 σ2 H3 o1 _ P3.rep e4 ?_
      cases o1 with
      | nx q4 => exact fun F' σ' H' R' s => ⟨F', q4, R', s3.trans s, e2⟩
      | ct q4 => exact fun F' σ' H' R' s => ⟨F', q4, R', s3.trans s, e2⟩
      | bk q4 =>
        cases e2
        exact fun F' σ' H' R' s => q F' σ' H' R' (s3.trans s)
      | rt r q4 =>
        cases e2
        exact fun v F' σ' H' R' s z => q v F' σ' H' R' (s3.trans s) z
theorem ds_while {c : Expr} {body : List Stmt} {tc : TT} {tb : TS} {fc : M Bool} {fb : SM} (hp : PassesOwn (model X.prog X.w) X.A X.env X.xe) (hc : DT X c tc fc) (hb : DSs X body tb fb) : DS X (.While c body [] pos) (tWhile tc tb) (whileM fc fb) := ⟨ps_while hp hc.pe hb.pe, snd_while hc.sn hb.sn⟩
end

/-! ### a def -/
def bodyFn (n : Nat) (b : SM) : Fn := fun ds dr => (b ⟨ds.map Sl.fr ++ List.replicate (n - ds.length) Sl.un, dr⟩).bind fun o => match o with
  | .rt r ps => some (r, ps.dr)
  | .nx ps => some (.im .none, ps.dr)
  | _ => none
theorem start_rep {G : Ctl} {K : Fg} {N : List Str} {dr : Dr} {ds : List Dat} {vs : List V} (fh : Same G.F0 G.H0) (r : RelL K G.F0 G.T ds vs) (hn : ds.length ≤ N.length) (hd : G.st = true → DrAt G.T G.C G.H0 dr ∧ G.F0 G.T = none ∧ G.F0 G.C = none) (hnd : G.st = false → dr = .no) :
    Rep G K G.F0 ⟨ds.map Sl.fr ++ List.replicate (N.length - ds.length) Sl.un, dr⟩ (start N vs) G.H0 := by
  have hl := r.len
  have noow : ∀ (i : Nat) (s : Sl), (ds.map Sl.fr ++ List.replicate (N.length - ds.length) Sl.un)[i]? = some s → (∃ d, ds[i]? = some d ∧ s = .fr d) ∨ (s = .un ∧ ds.length ≤ i ∧ i < N.length) := fun i s e => by
    by_cases h : i < ds.length
    · rw [List.getElem?_append_left (by simpa using h), List.getElem?_map] at e
      obtain ⟨d, e1, e2⟩ := Option.map_eq_some_iff.mp e
      exact .inl ⟨d, e1, e2.symm⟩
    · rw [List.getElem?_append_right (by simpa using Nat.le_of_not_lt h)] at e
      have h2 := List.mem_of_getElem? e
      rw [List.mem_replicate] at h2
      have h3 := ltOf e
      simp only [List.length_replicate, List.length_map] at h3
      exact .inr ⟨h2.2, Nat.le_of_not_lt h, by omega⟩
  refine ⟨?_, fun i s e => ?_, fun i j di dj p e1 e2 _ _ => ?_, fun h => (hd h).1, fun h => ⟨(hd h).2.1, (hd h).2.2, (hd h).1.T, (hd h).1.C⟩, fh, fun a o e _ => e, fun a _ => rfl, Same.refl _, hnd⟩
  · unfold L2.start
    simp [hl]
  · unfold L2.start
    rcases noow i s e with ⟨d, e1, rfl⟩ | ⟨rfl, h1, h2⟩
    · obtain ⟨v, e2, rv⟩ := r.get e1
      refine ⟨some v, ?_, v, rfl, rv⟩
      rw [List.getElem?_append_left (by simpa using ltOf e2), List.getElem?_map, e2]
      rfl
    · refine ⟨none, ?_, trivial⟩
      rw [List.getElem?_append_right (by simp; omega), List.getElem?_replicate, if_pos (by simp; omega)]
  · rcases noow i _ e1 with ⟨d, _, z⟩ | ⟨z, _⟩
    · cases z
    · cases z
theorem fn_ok {P : Program} {w : World} {K : Fg} {mg : Str → Option Value} {base : Heap} {x qual : Str} {st : Stmt} {f : Addr} {fd : FuncData} {N nms : List Str} {k n : Nat} {b : SM} (F : Fun K x qual st f fd) (S : FnScope N nms (defScope st)) (hn : nms.length = n) (hN : n ≤ N.length)
    (hd : ∀ (cdv : Value) (A : Around) (outer : List Env) (s : Shared) (H : Hp) (E : XK), Room k (A.deeper (envOfC qual (defScope st) s.heap.objs.size f cdv)) →
      ∃ t, DSs (cxOf CX0 P w K mg base N qual (defScope st) f cdv A outer s H E).nox (defBody st) t b) : FnOk P w K mg base CX0 (k + 1) f fd nms (spM K n (bodyFn N.length b)) := by
  refine F.ok S (fun vs H Q E h => ?_) (fun cdv A outer s H vs Q E hr h => ?_)
  · obtain ⟨G, F0, dr, dr', ds, r, hl, _⟩ := h
    rw [hl, hn]
  · obtain ⟨G, F0, dr, dr', ds, r, hl, fh, hd', hnd, rl, e, q⟩ := h
    obtain ⟨t, D⟩ := hd cdv A outer s H E hr
    refine ⟨t, D.pe, ?_⟩
    unfold bodyFn at e
    obtain ⟨o, e1, e⟩ := Option.bind_eq_some_iff.mp e
    have R := start_rep (G := ⟨H, F0, G.T, G.C, G.st⟩) (N := N) fh rl (by rw [← rl.len, hl]; exact hN) hd' hnd
    have fin : ∀ {F' : Hp} {ps' : PS} {σ' : L2.St} {H' : Hp} {r : RV} {v : V}, ps'.dr = dr' → Rep ⟨H, F0, G.T, G.C, G.st⟩ K F' ps' σ' H' → RetOk K F' G.T H H' r v → (∀ v F' H', Same F0 F' → Same F' H' → (∀ a o, H a = some o → ¬ G.ex a → H' a = some o) → (∀ a, H a ≠ none → F' a = F0 a) → (G.st = true → DrAt G.T G.C H' dr') → (G.st = false → dr' = .no) → (∀ a, H' a = none → H a = none) → RetOk K F' G.T H H' r v → Q v H') → Q v H' := fun {F' ps' σ' H' r v} ed R' hr q => by
      refine q v F' H' R'.ff R'.fh (fun a o h1 h2 => R'.kp a o h1 h2) (fun a h => R'.f0 a h) (fun h => by rw [← ed]; exact R'.dr h) (fun h => by rw [← ed]; exact R'.nd h) (fun a h => ?_) hr
      exact R'.h0 h
    refine D.sn.go ⟨H, F0, G.T, G.C, G.st⟩ F0 _ _ H o _ R e1 ?_
    cases o with
    | nx ps' =>
      cases e
      exact fun F' σ' H' R' s => fin rfl R' (show RetOk K F' G.T H H' (.im .none) V.non from (rNon (K := K) (F := F') (T := G.T)).mpr rfl) q
    | rt r' ps' =>
      cases e
      exact fun v F' σ' H' R' s hr => fin rfl R' hr q
    | bk ps' => cases e
    | ct ps' => cases e
end MP

namespace MP
open PySem PySem.Spec PyProof.Rows L2

/-! ### comprehensions -/
def wipeP (vs : List Nat) (ps : PS) : PS := { ps with sl := vs.foldr (fun v l => l.set v Sl.un) ps.sl }
def keepSl : Option Sl → Sl
  | some (.fr d) => .fr d
  | _ => .un
/-- the block's own names as they were -/
def restP (vs : List Nat) (ps0 ps : PS) : PS := { ps with sl := vs.foldr (fun v l => l.set v (keepSl ps0.sl[v]?)) ps.sl }
theorem foldr_set_len {α : Type} (f : Nat → α) (l : List α) : ∀ vs : List Nat, (vs.foldr (fun v l => l.set v (f v)) l).length = l.length
  | [] => rfl
  | v :: vs => by rw [List.foldr_cons, List.length_set, foldr_set_len f l vs]
theorem foldr_set_get {α : Type} (f : Nat → α) (l : List α) (j : Nat) : ∀ vs : List Nat, (vs.foldr (fun v l => l.set v (f v)) l)[j]? = if j ∈ vs ∧ j < l.length then some (f j) else l[j]?
  | [] => by simp
  | v :: vs => by
    rw [List.foldr_cons]
    by_cases e : j = v
    · subst e
      by_cases h : j < l.length
      · rw [List.getElem?_set_self (by rw [foldr_set_len]; exact h), if_pos ⟨by simp, h⟩]
      · rw [if_neg (fun z => h z.2), List.getElem?_eq_none (by rw [List.length_set, foldr_set_len]; omega), List.getElem?_eq_none (by omega)]
    · rw [List.getElem?_set_ne (Ne.symm e), foldr_set_get f l j vs]
      by_cases h : j ∈ vs ∧ j < l.length
      · rw [if_pos h, if_pos ⟨by simp [h.1], h.2⟩]
      · rw [if_neg h, if_neg (fun z => h ⟨by simpa [e] using z.1, z.2⟩)]
theorem wipe_get (σ : L2.St) (j : Nat) : ∀ vs : List Nat, (wipe σ vs)[j]? = if j ∈ vs ∧ j < σ.length then some none else σ[j]?
  | [] => by simp [wipe]
  | v :: vs => by
    unfold wipe
    by_cases e : j = v
    · subst e
      by_cases h : j < σ.length
      · rw [List.getElem?_set_self (by rw [wipe_length]; exact h), if_pos ⟨by simp, h⟩]
      · rw [if_neg (fun z => h z.2), List.getElem?_eq_none (by rw [List.length_set, wipe_length]; omega), List.getElem?_eq_none (by omega)]
    · rw [List.getElem?_set_ne (Ne.symm e), wipe_get σ j vs]
      by_cases h : j ∈ vs ∧ j < σ.length
      · rw [if_pos h, if_pos ⟨by simp [h.1], h.2⟩]
      · rw [if_neg h, if_neg (fun z => h ⟨by simpa [e] using z.1, z.2⟩)]
theorem wipe_eq {σ σ2 : L2.St} {vs : List Nat} (hl : σ2.length = σ.length) (h : ∀ j, j ∉ vs → σ2[j]? = σ[j]?) : wipe σ2 vs = wipe σ vs := by
  apply List.ext_getElem?
  intro j
  rw [wipe_get, wipe_get, hl]
  by_cases hj : j ∈ vs
  · by_cases hl2 : j < σ.length
    · rw [if_pos ⟨hj, hl2⟩, if_pos ⟨hj, hl2⟩]
    · rw [if_neg (fun z => hl2 z.2), if_neg (fun z => hl2 z.2), List.getElem?_eq_none (by omega), List.getElem?_eq_none (by omega)]
  · rw [if_neg (fun z => hj z.1), if_neg (fun z => hj z.1), h j hj]
section
variable {G : Ctl} {K : Fg} {F : Hp} {ps : PS} {σ : L2.St} {H : Hp}
theorem wipeP_get (vs : List Nat) (ps : PS) (j : Nat) : (wipeP vs ps).sl[j]? = if j ∈ vs ∧ j < ps.sl.length then some .un else ps.sl[j]? := foldr_set_get (fun _ => Sl.un) ps.sl j vs
theorem restP_get (vs : List Nat) (ps0 ps : PS) (j : Nat) : (restP vs ps0 ps).sl[j]? = if j ∈ vs ∧ j < ps.sl.length then some (keepSl ps0.sl[j]?) else ps.sl[j]? := foldr_set_get (fun v => keepSl ps0.sl[v]?) ps.sl j vs
theorem own_wipe {vs : List Nat} {p : Addr} (h : Own (wipeP vs ps) (wipe σ vs) p) : Own ps σ p := by
  obtain ⟨i, ds, e1, e2⟩ := h
  rw [wipeP_get] at e1
  split at e1
  · cases e1
  · rename_i hn
    rw [wipe_get] at e2
    split at e2
    · cases e2
    · exact ⟨i, ds, e1, e2⟩
theorem Rep.wipe {vs : List Nat} (R : Rep G K F ps σ H) : Rep G K F (wipeP vs ps) (L2.wipe σ vs) H := by
  refine ⟨?_, fun i s e => ?_, fun i j di dj p e1 e2 h1 h2 => ?_, R.dr, R.ft, R.fh, R.kp, R.f0, R.ff, R.nd⟩
  · rw [wipe_length, R.len]
    exact (foldr_set_len (fun _ => Sl.un) ps.sl vs).symm
  · rw [wipeP_get] at e
    rw [wipe_get, R.len]
    split at e
    · rename_i h
      cases e
      rw [if_pos h]
      exact ⟨none, rfl, trivial⟩
    · rename_i h
      rw [if_neg h]
      exact R.slots i s e
  · rw [wipeP_get] at e1 e2
    split at e1
    · cases e1
    · rename_i n1
      split at e2
      · cases e2
      · rename_i n2
        rw [wipe_get, R.len, if_neg n1] at h1
        rw [wipe_get, R.len, if_neg n2] at h2
        exact R.sep _ _ _ _ _ e1 e2 h1 h2
/-- an object that is nobody's is written -/
theorem Rep.wrFree (R : Rep G K F ps σ H) {p : Addr} {vs vs' : List V} (h1 : H p = some (.lst vs)) (h2 : F p = none) (h3 : G.H0 p = none) (h4 : ¬ Own ps σ p) : Rep G K F ps σ (upd H p (.lst vs')) := by
  refine ⟨R.len, fun i s e => ?_, R.sep, fun h => ?_, R.ft, fun b x e => ?_, fun a o ha hx => ?_, R.f0, R.ff, R.nd⟩
  · obtain ⟨o, e1, q⟩ := R.slots i s e
    refine ⟨o, e1, q.mono (Same.refl F) fun q ws ds es eo a1 a2 a3 => ⟨?_, a2⟩⟩
    rw [upd_ne]
    · exact a1
    · rintro rfl
      exact h4 ⟨i, ds, by rw [← es]; exact e, by rw [e1, eo]⟩
  · refine (R.dr h).keep fun a o ha hx => ?_
    rw [upd_ne]
    · exact ha
    · obtain ⟨_, _, c, d⟩ := R.ft h
      rintro rfl
      rcases hx with rfl | rfl
      · exact c h3
      · exact d h3
  · rw [upd_ne]
    · exact R.fh _ _ e
    · rintro rfl
      rw [h2] at e
      cases e
  · rw [upd_ne]
    · exact R.kp a o ha hx
    · rintro rfl
      rw [h3] at ha
      cases ha
end
/-- p is a list that is nobody's -/
structure Loose (G : Ctl) (F : Hp) (ps : PS) (σ : L2.St) (H : Hp) (p : Addr) (vs : List V) : Prop where
  a : H p = some (.lst vs)
  b : F p = none
  c : G.H0 p = none
  d : ¬ Own ps σ p
theorem Loose.post {G : Ctl} {K : Fg} {F F' : Hp} {ps ps' : PS} {σ : L2.St} {H H' : Hp} {p : Addr} {vs : List V} (l : Loose G F ps σ H p vs) (P : Post G K F ps σ H F' ps' H') : Loose G F' ps' σ H' p vs := by
  obtain ⟨a, b, c⟩ := P.fresh p vs l.a l.b l.c l.d
  exact ⟨a, b, l.c, c⟩

def lcL (vs : List Nat) (tgt : Dat → PS → Option PS) (tst : M Bool) (elt : M RV) : List Dat → List Dat → PS → Option (List Dat × PS)
  | [], acc, ps => some (acc, ps)
  | d :: ds, acc, ps => (tgt d ps).bind fun ps1 => (tst ps1).bind fun x => if x.1 then
      (keepM elt x.2).bind fun y => if decide (acc.length < sizeLine) then lcL vs tgt tst elt ds (acc ++ [y.1]) (wipeP vs y.2) else none
    else lcL vs tgt tst elt ds acc (wipeP vs x.2)
def lcM (vs : List Nat) (fi : M (List Dat)) (tgt : Dat → PS → Option PS) (tst : M Bool) (elt : M RV) : M RV := fun ps =>
  (fi ps).bind fun x => (lcL vs tgt tst elt x.1 [] (wipeP vs x.2)).bind fun y => some (.nw y.1, restP vs x.2 y.2)
/-- a walk, as long as what is nobody's stays so -/
def WlkO (G : Ctl) (K : Fg) (J : It) (ds : List Dat) (F1 : Hp) (ps1 : PS) (σ1 : L2.St) (H1 : Hp) : Prop :=
  (∀ (i : Nat) (d : Dat), ds[i]? = some d → ∀ (F2 : Hp) (ps : PS) (σ : L2.St) (H2 : Hp), Rep G K F2 ps σ H2 → Same F1 F2 → (∀ p ws, Loose G F1 ps1 σ1 H1 p ws → Loose G F2 ps σ H2 p ws) → J.go i H2 ∧ ∀ x H3, J.yld i H2 x H3 → ∃ F3, Post G K F2 ps σ H2 F3 ps H3 ∧ Rel K F3 G.T d x) ∧
  ∀ (F2 : Hp) (ps : PS) (σ : L2.St) (H2 : Hp), Rep G K F2 ps σ H2 → Same F1 F2 → (∀ p ws, Loose G F1 ps1 σ1 H1 p ws → Loose G F2 ps σ H2 p ws) → J.stop ds.length H2
theorem Wlk.toO {G : Ctl} {K : Fg} {J : It} {ds : List Dat} {F1 : Hp} {ps1 : PS} {σ1 : L2.St} {H1 : Hp} (w : Wlk G K J ds F1) : WlkO G K J ds F1 ps1 σ1 H1 :=
  ⟨fun i d e F2 ps σ H2 R s _ => w.1 i d e F2 ps σ H2 R s, fun F2 ps σ H2 R s _ => w.2 F2 ps σ H2 R s⟩
theorem lc_gen {K : Fg} {wi : TI} {gt : TG} {tt : TT} {te : TE} {vs is : List Nat} {tgt : Dat → PS → Option PS} {tst : M Bool} {elt : M RV} (hg : SndG K gt is tgt) (hv : ∀ j ∈ is, j ∈ vs) (ht : SndT K tt tst) (he : SndE K te elt)
    {G : Ctl} {F H : Hp} {ps ps1 psE : PS} {σ : L2.St} {ds out : List Dat} {Q : VK} {C : Hp → Hp → Prop} (R : Rep G K F ps σ H) (hi : ∀ Rr : It → Hp → Prop, (∀ J F' H', C F' H' → Post G K F ps σ H F' ps1 H' → WlkO G K J ds F' ps1 σ H' → Rr J H') → wi σ H Rr)
    (e2 : lcL vs tgt tst elt ds [] (wipeP vs ps1) = some (out, psE))
    (q : ∀ v F1 H1 F' H', C F1 H1 → Post G K F ps σ H F1 ps1 H1 → Post G K F ps σ H F' (restP vs ps1 psE) H' → (∀ p ws, Loose G F1 ps1 σ H1 p ws → Loose G F' (restP vs ps1 psE) σ H' p ws) → RVok G K F' (restP vs ps1 psE) σ H H' (.nw out) v → Q v H') :
    tLc wi gt tt te vs σ H Q := by
  refine hi _ fun J F1 H1 cc P1 wk D hD => ?_
  have R1 := P1.rep
  have hs1 := same_upd (o := .lst []) hD
  have F1D : F1 D = none := R1.fn hD
  have G0D : G.H0 D = none := R1.h0 hD
  refine ⟨fun i m H2 => ∃ F2 ps2 acc accV, m = ds.length - i ∧ i ≤ ds.length ∧ Rep G K F2 ps2 (wipe σ vs) H2 ∧ Same F1 F2 ∧ Loose G F2 ps2 (wipe σ vs) H2 D accV ∧ RelL K F2 G.T acc accV ∧
      lcL vs tgt tst elt (ds.drop i) acc ps2 = some (out, psE) ∧ (∀ p ws, Loose G F1 ps1 σ H1 p ws → Loose G F2 ps2 (wipe σ vs) H2 p ws) ∧ (∀ a, H2 a = none → H1 a = none), ?_, ?_⟩
  · have R2 := (R1.newL (vs := []) hD).rep.wipe (vs := vs)
    refine ⟨ds.length, F1, wipeP vs ps1, [], [], by simp, Nat.zero_le _, R2, Same.refl _, ⟨upd_same, F1D, G0D, fun o => ?_⟩, .nil, e2, fun p ws l => ⟨hs1 _ _ l.a, l.b, l.c, fun o => l.d (own_wipe o)⟩, fun a h => hs1.free h⟩
    · obtain ⟨_, z, _⟩ := R1.ownH (own_wipe o)
      rw [hD] at z
      cases z
  · rintro i m H2 ⟨F2, ps2, acc, accV, rfl, hi', R2, s2, lD, rl, e3, fk, dm⟩
    by_cases hlt : i < ds.length
    · obtain ⟨go, step⟩ := wk.1 i ds[i] (List.getElem?_eq_getElem hlt) F2 ps2 (wipe σ vs) H2 R2 s2 fk
      rw [List.drop_eq_getElem_cons hlt] at e3
      unfold lcL at e3
      obtain ⟨ps3, e4, e3⟩ := Option.bind_eq_some_iff.mp e3
      obtain ⟨⟨b, ps4⟩, e5, e3⟩ := Option.bind_eq_some_iff.mp e3
      have e3 : (if b = true then _ else _) = some (out, psE) := e3
      refine .inr ⟨go, fun H' => ∃ F2 ps2 acc accV, Rep G K F2 ps2 (wipe σ vs) H' ∧ Same F1 F2 ∧ Loose G F2 ps2 (wipe σ vs) H' D accV ∧ RelL K F2 G.T acc accV ∧
        lcL vs tgt tst elt (ds.drop (i + 1)) acc ps2 = some (out, psE) ∧ (∀ p ws, Loose G F1 ps1 σ H1 p ws → Loose G F2 ps2 (wipe σ vs) H' p ws) ∧ (∀ a, H' a = none → H1 a = none), ?_, fun x H3 y => ?_⟩
      · rintro H' ⟨F', ps', acc', accV', a1, a2, a3, a4, a5, a6, a7⟩
        exact ⟨ds.length - (i + 1), by omega, F', ps', acc', accV', rfl, hlt, a1, a2, a3, a4, a5, a6, a7⟩
      · obtain ⟨F3, P3, rx⟩ := step x H3 y
        refine hg.go G F3 ps2 (wipe σ vs) H3 _ x ps3 _ P3.rep rx e4 fun σ4 R4 k4 l4 o4 => ?_
        have hw : wipe σ4 vs = wipe σ vs := by
          have h1 : wipe σ4 vs = wipe (wipe σ vs) vs := wipe_eq l4 fun j hj => k4 j fun z => hj (hv j z)
          rw [h1]
          refine wipe_eq (wipe_length σ vs) fun j hj => ?_
          rw [wipe_get, if_neg (fun z => hj z.1)]
        refine ⟨hw, ?_⟩
        have loose4 : ∀ {p ws}, Loose G F3 ps2 (wipe σ vs) H3 p ws → Loose G F3 ps3 σ4 H3 p ws := fun l => ⟨l.a, l.b, l.c, fun o => l.d (o4 _ o)⟩
        refine ht.go G F3 ps3 σ4 H3 b ps4 _ R4 e5 fun F5 H5 P5 => ?_
        have neD : ∀ {p ws}, Loose G F1 ps1 σ H1 p ws → p ≠ D := fun l z => by
          subst z
          have := l.a
          rw [hD] at this
          cases this
        cases b with
        | true =>
          rw [if_pos rfl] at e3
          obtain ⟨⟨d, ps5⟩, e6, e3⟩ := Option.bind_eq_some_iff.mp e3
          have e3 : (if decide (acc.length < sizeLine) = true then _ else _) = some (out, psE) := e3
          split at e3
          · rename_i hl
            refine iteT (keepM_go he P5.rep e6 fun v F6 H6 P6 r6 => ?_)
            have lD6 := ((loose4 (lD.post P3)).post P5).post P6
            have s6 : Same F2 F6 := (P3.same.trans P5.same).trans P6.same
            refine ⟨accV, lD6.a, by rw [rl.len]; exact of_decide_eq_true hl, F6, wipeP vs ps5, acc ++ [d], accV ++ [v], ?_, s2.trans s6, ⟨upd_same, lD6.b, lD6.c, fun o => ?_⟩, (RelL.mono s6 _ _ rl).append (.cons r6 .nil), e3, fun p ws l => ?_, fun a h => ?_⟩
            · rw [← hw]
              exact (P6.rep.wrFree lD6.a lD6.b lD6.c lD6.d).wipe
            · rw [← hw] at o
              exact lD6.d (own_wipe o)
            · have l6 := ((loose4 ((fk p ws l).post P3)).post P5).post P6
              refine ⟨by rw [upd_ne (neD l)]; exact l6.a, l6.b, l6.c, fun o => ?_⟩
              rw [← hw] at o
              exact l6.d (own_wipe o)
            · by_cases ha : a = D
              · subst ha
                rw [upd_same] at h
                cases h
              · rw [upd_ne ha] at h
                exact dm a (P3.dom a (P5.dom a (P6.dom a h)))
          · cases e3
        | false =>
          rw [if_neg Bool.false_ne_true] at e3
          have lD5 := (loose4 (lD.post P3)).post P5
          have s5 : Same F2 F5 := P3.same.trans P5.same
          refine iteF ⟨F5, wipeP vs ps4, acc, accV, ?_, s2.trans s5, ⟨lD5.a, lD5.b, lD5.c, fun o => ?_⟩, RelL.mono s5 _ _ rl, e3, fun p ws l => ?_, fun a h => dm a (P3.dom a (P5.dom a h))⟩
          · rw [← hw]
            exact P5.rep.wipe
          · rw [← hw] at o
            exact lD5.d (own_wipe o)
          · have l5 := (loose4 ((fk p ws l).post P3)).post P5
            refine ⟨l5.a, l5.b, l5.c, fun o => ?_⟩
            rw [← hw] at o
            exact l5.d (own_wipe o)
    · have ei : i = ds.length := by omega
      subst ei
      rw [List.drop_length] at e3
      cases e3
      refine .inl ⟨wk.2 F2 psE (wipe σ vs) H2 R2 s2 fk, ?_⟩
      have ownB : ∀ p, Own (restP vs ps1 psE) σ p → Own psE (wipe σ vs) p := fun p ⟨j, dj, z1, z2⟩ => by
        rw [restP_get] at z1
        split at z1
        · unfold keepSl at z1
          split at z1 <;> cases z1
        · rename_i hn
          refine ⟨j, dj, z1, ?_⟩
          rw [wipe_get, if_neg]
          · exact z2
          · intro z
            exact hn ⟨z.1, ltOf z1⟩
      have hlen : psE.sl.length = σ.length := by rw [← R2.len, wipe_length]
      have RE : Rep G K F2 (restP vs ps1 psE) σ H2 := by
        refine ⟨?_, fun j s z => ?_, fun a b da db p z1 z2 h1 h2 => ?_, R2.dr, R2.ft, R2.fh, R2.kp, R2.f0, R2.ff, R2.nd⟩
        · rw [← hlen]
          exact (foldr_set_len (fun v => keepSl ps1.sl[v]?) psE.sl vs).symm
        · rw [restP_get] at z
          split at z
          · rename_i hj
            cases z
            have hj1 : j < ps1.sl.length := by rw [← R1.len, ← hlen]; exact hj.2
            obtain ⟨o, y1, y2⟩ := R1.slots j _ (List.getElem?_eq_getElem hj1)
            refine ⟨o, y1, ?_⟩
            rw [List.getElem?_eq_getElem hj1]
            cases hs : ps1.sl[j] with
            | un => trivial
            | ow _ => trivial
            | fr d =>
              rw [hs] at y2
              obtain ⟨v, ev, rv⟩ := y2
              exact ⟨v, ev, Rel.mono s2 _ _ rv⟩
          · rename_i hn
            obtain ⟨o, y1, y2⟩ := R2.slots j s z
            refine ⟨o, ?_, y2⟩
            rw [wipe_get, if_neg] at y1
            · exact y1
            · intro w
              exact hn ⟨w.1, ltOf z⟩
        · have o1 : ∃ d, psE.sl[a]? = some (.ow d) ∧ (wipe σ vs)[a]? = some (some (.ref p)) := by
            rw [restP_get] at z1
            split at z1
            · unfold keepSl at z1
              split at z1 <;> cases z1
            · rename_i hn
              refine ⟨_, z1, ?_⟩
              rw [wipe_get, if_neg]
              · exact h1
              · intro w
                exact hn ⟨w.1, ltOf z1⟩
          have o2 : ∃ d, psE.sl[b]? = some (.ow d) ∧ (wipe σ vs)[b]? = some (some (.ref p)) := by
            rw [restP_get] at z2
            split at z2
            · unfold keepSl at z2
              split at z2 <;> cases z2
            · rename_i hn
              refine ⟨_, z2, ?_⟩
              rw [wipe_get, if_neg]
              · exact h2
              · intro w
                exact hn ⟨w.1, ltOf z2⟩
          obtain ⟨_, w1, w2⟩ := o1
          obtain ⟨_, w3, w4⟩ := o2
          exact R2.sep _ _ _ _ _ w1 w3 w2 w4
      refine q (.ref D) F1 H1 F2 H2 cc P1 ⟨RE, P1.same.trans s2, fun p ws h1 h2 h3 h4 => ?_, fun a h => P1.dom a (dm a h)⟩ (fun p ws l => ⟨(fk p ws l).a, (fk p ws l).b, (fk p ws l).c, fun o => (fk p ws l).d (ownB _ o)⟩) ⟨D, accV, rfl, lD.a, lD.b, lD.c, fun o => lD.d (ownB _ o), rl, P1.dom D hD⟩
      have l1 : Loose G F1 ps1 σ H1 p ws := (Loose.mk h1 h2 h3 h4 : Loose G F ps σ H p ws).post P1
      have l2 := fk p ws l1
      exact ⟨l2.a, l2.b, fun o => l2.d (ownB _ o)⟩
theorem snd_lc {K : Fg} {wi : TI} {gt : TG} {tt : TT} {te : TE} {vs is : List Nat} {fi : M (List Dat)} {tgt : Dat → PS → Option PS} {tst : M Bool} {elt : M RV} (hi : SndI K wi fi) (hg : SndG K gt is tgt) (hv : ∀ j ∈ is, j ∈ vs) (ht : SndT K tt tst) (he : SndE K te elt) :
    SndE K (tLc wi gt tt te vs) (lcM vs fi tgt tst elt) := by
  refine ⟨fun G F ps σ H r ps' Q R e q => ?_⟩
  unfold lcM at e
  obtain ⟨⟨ds, ps1⟩, e1, e⟩ := Option.bind_eq_some_iff.mp e
  obtain ⟨⟨out, psE⟩, e2, e⟩ := Option.bind_eq_some_iff.mp e
  have e2 : lcL vs tgt tst elt ds [] (wipeP vs ps1) = some (out, psE) := e2
  cases e
  exact lc_gen hg hv ht he (C := fun _ _ => True) R (fun Rr k => hi.go G F ps σ H ds ps1 _ R e1 fun J F' H' P wk => k J F' H' trivial P wk.toO) e2 fun v _ _ F' H' _ _ P _ r => q v F' H' P r
/-! ### a comprehension over a list of the frame's own, which stays its own -/
def oList (j : Nat) (ps : PS) : Option (List Dat) := match ps.sl[j]? with
  | some (.ow ds) => some ds
  | _ => none
def isUn (j : Nat) (ps : PS) : Bool := match ps.sl[j]? with
  | some .un => true
  | _ => false
def lcOM (j : Nat) (w : List Dat → List Dat) (vs : List Nat) (tgt : Dat → PS → Option PS) (tst : M Bool) (elt : M RV) : M RV := fun ps =>
  (oList j ps).bind fun ds => (lcL vs tgt tst elt (w ds) [] (wipeP vs (ps.put j .un))).bind fun y => if isUn j (restP vs (ps.put j .un) y.2) then some (.nw y.1, (restP vs (ps.put j .un) y.2).put j (.ow ds)) else none
section
variable {G : Ctl} {K : Fg} {F F' : Hp} {ps : PS} {σ : L2.St} {H H' : Hp}
theorem Rep.unown (R : Rep G K F ps σ H) {j : Nat} : Rep G K F (ps.put j .un) σ H := by
  refine ⟨?_, fun i s e => ?_, fun a b da db p e1 e2 h1 h2 => ?_, R.dr, R.ft, R.fh, R.kp, R.f0, R.ff, R.nd⟩
  · rw [R.len]
    show ps.sl.length = (ps.sl.set j .un).length
    rw [List.length_set]
  · rcases getSet e with ⟨rfl, rfl, hl⟩ | ⟨hj, e⟩
    · have hl : i < ps.sl.length := hl
      exact ⟨σ[i]'(by rw [R.len]; exact hl), List.getElem?_eq_getElem _, trivial⟩
    · exact R.slots i s e
  · rcases getSet e1 with ⟨_, z, _⟩ | ⟨_, e1⟩
    · cases z
    · rcases getSet e2 with ⟨_, z, _⟩ | ⟨_, e2⟩
      · cases z
      · exact R.sep a b da db p e1 e2 h1 h2
theorem Own.unown {j : Nat} {p : Addr} (o : Own (ps.put j .un) σ p) : Own ps σ p ∧ ∃ i ds, i ≠ j ∧ ps.sl[i]? = some (.ow ds) ∧ σ[i]? = some (some (.ref p)) := by
  obtain ⟨i, ds, e1, e2⟩ := o
  rcases getSet e1 with ⟨_, z, _⟩ | ⟨hj, e1⟩
  · cases z
  · exact ⟨⟨i, ds, e1, e2⟩, i, ds, hj, e1, e2⟩
theorem Rep.reown (R : Rep G K F ps σ H) {j : Nat} {ds : List Dat} {p : Addr} {ws : List V} (hj : σ[j]? = some (some (.ref p))) (l : Loose G F ps σ H p ws) (r : RelL K F G.T ds ws) : Rep G K F (ps.put j (.ow ds)) σ H := by
  refine ⟨?_, fun i s e => ?_, fun a b da db p' e1 e2 h1 h2 => ?_, R.dr, R.ft, R.fh, R.kp, R.f0, R.ff, R.nd⟩
  · rw [R.len]
    show ps.sl.length = (ps.sl.set j _).length
    rw [List.length_set]
  · rcases getSet e with ⟨rfl, rfl, hl⟩ | ⟨_, e⟩
    · exact ⟨_, hj, p, ws, rfl, l.a, l.b, l.c, r⟩
    · exact R.slots i s e
  · rcases getSet e1 with ⟨rfl, _, _⟩ | ⟨n1, e1⟩
    · rcases getSet e2 with ⟨rfl, _, _⟩ | ⟨n2, e2⟩
      · rfl
      · rw [hj] at h1
        cases h1
        exact absurd ⟨b, db, e2, h2⟩ l.d
    · have e1' : ps.sl[a]? = some (.ow da) := e1
      rcases getSet e2 with ⟨rfl, _, _⟩ | ⟨n2, e2⟩
      · rw [hj] at h2
        cases h2
        exact absurd ⟨a, da, e1', h1⟩ l.d
      · exact R.sep a b da db p' e1 e2 h1 h2
end
/-- what begins a walk over the own list at slot j -/
structure SndIo (K : Fg) (wi : TI) (j : Nat) (w : List Dat → List Dat) : Prop where
  go : ∀ (G : Ctl) (F : Hp) (ps1 : PS) (σ : L2.St) (H : Hp) (ds : List Dat) (p : Addr) (ws : List V) (R : It → Hp → Prop), Rep G K F ps1 σ H → σ[j]? = some (some (.ref p)) → Loose G F ps1 σ H p ws → RelL K F G.T ds ws →
    (∀ J, WlkO G K J (w ds) F ps1 σ H → R J H) → wi σ H R
theorem snd_lcO {K : Fg} {wi : TI} {gt : TG} {tt : TT} {te : TE} {vs is : List Nat} {j : Nat} {w : List Dat → List Dat} {tgt : Dat → PS → Option PS} {tst : M Bool} {elt : M RV} (hi : SndIo K wi j w) (hg : SndG K gt is tgt) (hv : ∀ j ∈ is, j ∈ vs) (ht : SndT K tt tst) (he : SndE K te elt) :
    SndE K (tLc wi gt tt te vs) (lcOM j w vs tgt tst elt) := by
  refine ⟨fun G F ps σ H r ps' Q R e q => ?_⟩
  unfold lcOM at e
  obtain ⟨ds, e1, e⟩ := Option.bind_eq_some_iff.mp e
  obtain ⟨⟨out, psE⟩, e2, e⟩ := Option.bind_eq_some_iff.mp e
  have e : (if isUn j (restP vs (ps.put j .un) psE) = true then some (RV.nw out, (restP vs (ps.put j .un) psE).put j (.ow ds)) else none) = some (r, ps') := e
  have e2 : lcL vs tgt tst elt (w ds) [] (wipeP vs (ps.put j .un)) = some (out, psE) := e2
  obtain ⟨rfl, rfl⟩ : RV.nw out = r ∧ (restP vs (ps.put j .un) psE).put j (.ow ds) = ps' := by
    by_cases hu : isUn j (restP vs (ps.put j .un) psE) = true
    · rw [if_pos hu] at e
      cases e
      exact ⟨rfl, rfl⟩
    · rw [if_neg hu] at e
      cases e
  have ej : ps.sl[j]? = some (.ow ds) := by
    unfold oList at e1
    cases z : ps.sl[j]? with
    | none => rw [z] at e1; cases e1
    | some s =>
      rw [z] at e1
      cases s with
      | ow d => cases e1; rfl
      | un => cases e1
      | fr d => cases e1
  obtain ⟨o, es, p, ws, eo, h1, h2, h3, h4⟩ := R.slots j _ ej
  subst eo
  have RU : Rep G K F (ps.put j .un) σ H := R.unown
  have lo : Loose G F (ps.put j .un) σ H p ws := ⟨h1, h2, h3, fun o => by
    obtain ⟨_, i, di, hij, e3, e4⟩ := o.unown
    exact hij (R.sep i j _ _ p e3 ej e4 es)⟩
  have PU : Post G K F ps σ H F (ps.put j .un) H := ⟨RU, Same.refl F, fun p vs a b c d => ⟨a, b, fun o => d o.unown.1⟩, fun _ h => h⟩
  refine lc_gen hg hv ht he (C := fun F1 H1 => F1 = F ∧ H1 = H) R (ps1 := ps.put j .un) (fun Rr k => hi.go G F _ σ H ds p ws _ RU es lo h4 fun J wk => k J F H ⟨rfl, rfl⟩ PU wk) e2 fun v F1 H1 F' H' cc P1 P lk r => ?_
  obtain ⟨rfl, rfl⟩ := cc
  have l2 := lk p ws lo
  have pOwn : Own ps σ p := ⟨j, ds, ej, es⟩
  have back : ∀ p', Own ((restP vs (ps.put j .un) psE).put j (.ow ds)) σ p' → p' = p ∨ Own (restP vs (ps.put j .un) psE) σ p' := fun p' ⟨i, di, z1, z2⟩ => by
    rcases getSet z1 with ⟨rfl, _, _⟩ | ⟨_, z1⟩
    · rw [es] at z2
      cases z2
      exact .inl rfl
    · exact .inr ⟨i, di, z1, z2⟩
  refine q v F' H' ⟨P.rep.reown es l2 (RelL.mono P.same _ _ h4), P.same, fun p' vs a b c d => ?_, P.dom⟩ ?_
  · obtain ⟨x, y, z⟩ := P.fresh p' vs a b c d
    refine ⟨x, y, fun o => ?_⟩
    rcases back p' o with rfl | o
    · exact d pOwn
    · exact z o
  · obtain ⟨D, vs', rfl, a, b, c, d, rl, hD⟩ := r
    refine ⟨D, vs', rfl, a, b, c, fun o => ?_, rl, hD⟩
    rcases back D o with rfl | o
    · rw [h1] at hD
      cases hD
    · exact d o
/-- tests of a comprehension -/
structure DTs (X : Cx) (es : List Expr) (t : TT) (f : M Bool) : Prop where
  pe : PTs X es t
  sn : SndT X.K t f

section
variable {X : Cx} {pos spos py : Pos} {elt tg iter : Expr} {ifs : List Expr} {scope : Scope} {own : List (Str × Nat)} {wi : TI} {g : TG} {tt : TT} {te : TE} {is : List Nat} {fi : M (List Dat)} {ft : Dat → PS → Option PS} {ftt : M Bool} {fe : M RV}
theorem dts_nil : DTs X [] tYes (M.ret true) := ⟨pts_nil, ⟨fun G F ps σ H b ps' Q R e q => by
  cases e
  exact q F H (.refl R)⟩⟩
theorem dts_one {c : Expr} {t : TT} {f : M Bool} (h : DT X c t f) : DTs X [c] t f := ⟨pts_one h.pe, h.sn⟩
/-- somewhere there is a block -/
theorem de_lc (hc : X.calm = true) (hN : X.N.Nodup) (hi : DI X tg iter wi fi) (ok : BlkOk X.N X.env.scope scope own)
    (hg : ∀ (s : Shared) (H : Hp) (C : Addr) (cl : List (Str × Addr)) (fp : List Addr), DG (X.blk s H scope (compEnvC scope cl C X.env) fp) tg g is ft) (hv : ∀ j ∈ is, j ∈ own.map (·.2)) (ht : ∀ (s : Shared) (H : Hp) (C : Addr) (cl : List (Str × Addr)) (fp : List Addr), DTs (X.blk s H scope (compEnvC scope cl C X.env) fp) ifs tt ftt)
    (he : ∀ (s : Shared) (H : Hp) (C : Addr) (cl : List (Str × Addr)) (fp : List Addr), DE (X.blk s H scope (compEnvC scope cl C X.env) fp) elt te fe) (hs : ∀ x, foldedSetIterable iter X.env x = pure x := by intro _; rfl) :
    DE X (.ListComp elt [⟨tg, iter, ifs, 0⟩] scope pos) (tLc wi g tt te (own.map (·.2))) (lcM (own.map (·.2)) fi ft ftt fe) :=
  ⟨pe_lc hc hN hi.pe ok (fun s H C cl fp => (hg s H C cl fp).pe) (fun s H C cl fp => (ht s H C cl fp).pe) (fun s H C cl fp => (he s H C cl fp).pe) hs,
    snd_lc hi.sn (hg ⟨X.s_0.heap, X.s_0.gens, X.s_0.drawn, X.s_0.toks, X.s_0.os⟩ X.H_0 0 [] []).sn hv (ht X.s_0 X.H_0 0 [] []).sn (he X.s_0 X.H_0 0 [] []).sn⟩
theorem ds_lc {i : Nat} {y : Str} (hc : X.calm = true) (hN : X.N.Nodup) (hy : X.N[i]? = some y) (hyl : X.env.scope.names.lookup y = some .local)
    (hsw : swapsWith (.ListComp elt [⟨tg, iter, ifs, 0⟩] scope pos) (some (.Name y py)) spos.line X.env = pure true) (hi : DI X tg iter wi fi) (ok : BlkOk X.N X.env.scope scope own)
    (hg : ∀ (s : Shared) (H : Hp) (C : Addr) (cl : List (Str × Addr)) (fp : List Addr), DG (X.blk s H scope (compEnvC scope cl C X.env) fp) tg g is ft) (hv : ∀ j ∈ is, j ∈ own.map (·.2)) (ht : ∀ (s : Shared) (H : Hp) (C : Addr) (cl : List (Str × Addr)) (fp : List Addr), DTs (X.blk s H scope (compEnvC scope cl C X.env) fp) ifs tt ftt)
    (he : ∀ (s : Shared) (H : Hp) (C : Addr) (cl : List (Str × Addr)) (fp : List Addr), DE (X.blk s H scope (compEnvC scope cl C X.env) fp) elt te fe) (hs : ∀ x, foldedSetIterable iter X.env x = pure x := by intro _; rfl) :
    DS X (.Assign [.Name y py] (.ListComp elt [⟨tg, iter, ifs, 0⟩] scope pos) spos) (tAsg (tLc wi g tt te (own.map (·.2))) (gName i)) (setM i (lcM (own.map (·.2)) fi ft ftt fe)) :=
  ⟨ps_setLc hc hN hy hyl hsw hi.pe ok (fun s H C cl fp => (hg s H C cl fp).pe) (fun s H C cl fp => (ht s H C cl fp).pe) (fun s H C cl fp => (he s H C cl fp).pe) hs,
    snd_set (snd_lc hi.sn (hg X.s_0 X.H_0 0 [] []).sn hv (ht X.s_0 X.H_0 0 [] []).sn (he X.s_0 X.H_0 0 [] []).sn)⟩
end
end MP

namespace MP
open PySem PySem.Spec PyProof.Rows L2

/-! ### targets that write -/
structure SndGh (K : Fg) (g : TG) (f : Dat → PS → Option PS) : Prop where
  go : ∀ (G : Ctl) (F : Hp) (ps : PS) (σ : L2.St) (H : Hp) (d : Dat) (v : V) (ps' : PS) (Q : L2.St → Hp → Prop), Rep G K F ps σ H → Rel K F G.T d v → f d ps = some ps' →
    (∀ F' σ' H', Rep G K F' ps' σ' H' → Same F F' → Q σ' H') → g v σ H Q
structure SndGhs (K : Fg) (g : TGs) (f : List Dat → PS → Option PS) : Prop where
  go : ∀ (G : Ctl) (F : Hp) (ps : PS) (σ : L2.St) (H : Hp) (ds : List Dat) (vs : List V) (ps' : PS) (Q : L2.St → Hp → Prop), Rep G K F ps σ H → RelL K F G.T ds vs → f ds ps = some ps' →
    (∀ F' σ' H', Rep G K F' ps' σ' H' → Same F F' → Q σ' H') → g vs σ H Q
structure DGh (X : Cx) (tg : Expr) (g : TG) (f : Dat → PS → Option PS) : Prop where
  pe : PG X tg g
  sn : SndGh X.K g f
structure DGhs (X : Cx) (tgs : List Expr) (g : TGs) (f : List Dat → PS → Option PS) : Prop where
  pe : PGs X tgs g
  sn : SndGhs X.K g f
theorem SndG.h {K : Fg} {g : TG} {is : List Nat} {f : Dat → PS → Option PS} (h : SndG K g is f) : SndGh K g f :=
  ⟨fun G F ps σ H d v ps' Q R r e q => h.go G F ps σ H d v ps' Q R r e fun σ' R' _ _ _ => q F σ' H R' (Same.refl F)⟩
theorem DG.h {X : Cx} {tg : Expr} {g : TG} {is : List Nat} {f : Dat → PS → Option PS} (h : DG X tg g is f) : DGh X tg g f := ⟨h.pe, h.sn.h⟩
theorem snghs_nil {K : Fg} : SndGhs K gNil nilTs :=
  ⟨fun G F ps σ H ds vs ps' Q R r e q => sngs_nil.go G F ps σ H ds vs ps' Q R r e fun σ' R' _ _ _ => q F σ' H R' (Same.refl F)⟩
theorem snghs_cons {K : Fg} {g : TG} {gs : TGs} {f : Dat → PS → Option PS} {fs : List Dat → PS → Option PS} (h : SndGh K g f) (hs : SndGhs K gs fs) : SndGhs K (gCons g gs) (consTs f fs) := by
  refine ⟨fun G F ps σ H ds vs ps' Q R r e q => ?_⟩
  unfold consTs at e
  split at e
  · rename_i d r'
    obtain ⟨ps1, e1, e⟩ := Option.bind_eq_some_iff.mp e
    unfold RelL at r
    obtain ⟨y, ys, rfl, h1, h2⟩ := r
    refine ⟨y, ys, rfl, h.go G F ps σ H d y ps1 _ R h1 e1 fun F1 σ1 H1 R1 s1 => ?_⟩
    exact hs.go G F1 ps1 σ1 H1 r' ys ps' _ R1 (RelL.mono s1 _ _ h2) e fun F2 σ2 H2 R2 s2 => q F2 σ2 H2 R2 (s1.trans s2)
  · cases e
theorem sngh_tup {K : Fg} {n : Nat} {gs : TGs} {fs : List Dat → PS → Option PS} (h : SndGhs K gs fs) : SndGh K (gTL K n gs) (tupT n fs) := by
  refine ⟨fun G F ps σ H d v ps' Q R r e q => ?_⟩
  unfold tupT at e
  split at e
  · rename_i ds
    split at e
    · rename_i hl
      obtain ⟨a, xs, rfl, h1, h2⟩ := rTupE r
      exact .inl ⟨a, xs, rfl, seqT R.fh h1, by rw [h2.len]; exact hl, h.go G F ps σ H ds xs ps' Q R h2 e q⟩
    · cases e
  · rename_i ds
    split at e
    · rename_i hl
      obtain ⟨a, xs, rfl, h1, h2⟩ := rLst.mp r
      exact .inr ⟨a, xs, rfl, SqL.of (R.fh _ _ h1), by rw [h2.len]; exact hl, h.go G F ps σ H ds xs ps' Q R h2 e q⟩
    · cases e
  · split at e
    · rename_i x y hl
      unfold Rel at r
      obtain ⟨a, x', y', rfl, h1, h2, h3⟩ := r
      exact .inl ⟨a, [x', y'], rfl, seqT R.fh h1, hl, h.go G F ps σ H [x, y] [x', y'] ps' Q R (.cons h2 (.cons h3 .nil)) e q⟩
    · cases e
  · cases e
/-- x[i] as a target -/
def subT (j : Nat) (fi : M RV) (d : Dat) (ps : PS) : Option PS := match ps.sl[j]? with
  | some (.ow _) => (keepM fi ps).bind fun y => match y.1, y.2.sl[j]? with
    | .int k, some (.ow ds) => (ixN ds.length k).bind fun n => some (y.2.put j (.ow (ds.set n d)))
    | _, _ => none
  | _ => none
theorem sngh_sub {K : Fg} {ti : TE} {fi : M RV} {j : Nat} (hi : SndE K ti fi) : SndGh K (gSub (tVar j) ti rSetL) (subT j fi) := by
  refine ⟨fun G F ps σ H d v ps' Q R r e q => ?_⟩
  unfold subT at e
  split at e
  · rename_i ds0 ed0
    obtain ⟨⟨di, ps2⟩, e2, e⟩ := Option.bind_eq_some_iff.mp e
    simp only at e
    split at e
    · rename_i k ds ed
      obtain ⟨n, e3, e⟩ := Option.bind_eq_some_iff.mp e
      cases e
      obtain ⟨o1, e4, p, vs0, rfl, _⟩ := R.slots j _ ed0
      refine ⟨.ref p, e4, keepM_go hi R e2 fun w F2 H2 P2 r2 => ?_⟩
      obtain ⟨o2, e5, p', vs, eo, h1, h2, h3, h4⟩ := P2.rep.slots j _ ed
      rw [e4] at e5
      cases e5
      cases eo
      have P3 := P2.rep.wr ed e4 (h4.set n (Rel.mono P2.same _ _ r))
      exact ⟨p, vs, k, n, rfl, rInt.mp r2, h1, by rw [h4.len]; exact e3, q F2 σ _ P3.rep P2.same⟩
    · cases e
  · cases e
section
variable {X : Cx} {pos : Pos} {e : Expr} {te : TE} {fe : M RV}
theorem dghs_nil : DGhs X [] gNil nilTs := ⟨pgs_nil, snghs_nil⟩
theorem dghs_cons {e : Expr} {es : List Expr} {g : TG} {gs : TGs} {f : Dat → PS → Option PS} {fs : List Dat → PS → Option PS} (h : DGh X e g f) (hs : DGhs X es gs fs)
    (hq : (assignEach (e :: es) X.env).map (·.2) = assign e X.env :: (assignEach es X.env).map (·.2) := by rfl) : DGhs X (e :: es) (gCons g gs) (consTs f fs) := ⟨pgs_cons h.pe hs.pe hq, snghs_cons h.sn hs.sn⟩
theorem dgh_tup {es : List Expr} {k : Nat} {gs : TGs} {fs : List Dat → PS → Option PS} {n : Nat} (hc : X.calm = true) (h : DGhs X es gs fs)
    (hn : (assignEach es X.env).length = n := by rfl) (hst : (assignEach es X.env).findIdx? (·.1) = none := by rfl) : DGh X (.Tuple es k pos) (gTL X.K n gs) (tupT n fs) := ⟨pg_tl hc h.pe hn hst, sngh_tup h.sn⟩
theorem dgh_sub {j : Nat} {x : Str} {i : Expr} {ti : TE} {fi : M RV} {px : Pos} (hN : X.N[j]? = some x) (hv : Vis X.env.scope x) (hi : DE X i ti fi)
    (ha : ∀ v, assign (.Subscript (.Name x px) i pos) X.env v = (holding [v] (eval (.Name x px) X.env) >>= fun ov => holding [v, ov] (eval i X.env) >>= fun iv => standAt pos >>= fun _ => holding [v, ov, iv] (setItem ov iv v) >>= fun _ => release [v, ov, iv] []) := by intro _; rfl)
    (hd : (x == ("__debug__" : Str)) = false := by decide) (hcd : (x == ("__classdict__" : Str)) = false := by decide) : DGh X (.Subscript (.Name x px) i pos) (gSub (tVar j) ti rSetL) (subT j fi) := ⟨pg_sub (pe_var hN hv hd hcd) hi.pe set_list ha, sngh_sub hi.sn⟩
theorem ds_asgH {tg : Expr} {g : TG} {ft : Dat → PS → Option PS} (he : DE X e te fe) (hg : DGh X tg g ft) (hs : swapsWithSole [tg] e pos.line X.env = pure false := by rfl) (hw : swappedStores [tg] e X.env = pure none := by rfl)
    (h1 : (assignEach [tg] X.env).map (·.2) = [assign tg X.env] := by rfl) : DS X (.Assign [tg] e pos) (tAsg te g) (asgM ft fe) := by
  refine ⟨ps_asg he.pe hg.pe hs hw h1, ⟨fun G F ps σ H o D R e q => ?_⟩⟩
  unfold asgM at e
  obtain ⟨⟨d, ps1⟩, e1, e⟩ := Option.bind_eq_some_iff.mp e
  obtain ⟨ps2, e2, e⟩ := Option.bind_eq_some_iff.mp e
  cases e
  refine keepM_go he.sn R e1 fun v F1 H1 P1 r1 => ?_
  exact hg.sn.go G F1 ps1 σ H1 d v ps2 _ P1.rep r1 e2 fun F' σ' H' R' s => q F' σ' H' R' (P1.same.trans s)

/-! ### methods of lists at a name -/
def popM (j : Nat) (fe : M RV) : M RV := fun ps => match ps.sl[j]? with
  | some (.ow _) => (keepM fe ps).bind fun x => match x.1, x.2.sl[j]? with
    | .int i, some (.ow ds) => if b62 i then (seqIndex? i ds.length).bind fun k => ds[k]?.bind fun y => some (.im y, x.2.put j (.ow (ds.eraseIdx k))) else none
    | _, _ => none
  | _ => none
theorem snd_pop {K : Fg} {j : Nat} (he : SndE K te fe) : SndE K (tBM K "list" rPopAt (tVar j) (tCons te tNil)) (popM j fe) := by
  refine ⟨fun G F ps σ H r ps' Q R e q => ?_⟩
  unfold popM at e
  split at e
  · rename_i ds0 ed0
    obtain ⟨⟨d, ps1⟩, e1, e⟩ := Option.bind_eq_some_iff.mp e
    simp only at e
    split at e
    · rename_i i ds ed
      split at e
      · rename_i hb
        obtain ⟨k, e2, e⟩ := Option.bind_eq_some_iff.mp e
        obtain ⟨y, e3, e⟩ := Option.bind_eq_some_iff.mp e
        cases e
        obtain ⟨o1, e4, p, vs0, rfl, hp, _⟩ := R.slots j _ ed0
        refine ⟨.ref p, e4, .inl ⟨rfl, _, SqL.of hp⟩, keepM_go he R e1 fun v F1 H1 P1 r1 => ?_⟩
        obtain ⟨o2, e5, p', vs, eo, h1, h2, h3, h4⟩ := P1.rep.slots j _ ed
        rw [e4] at e5
        cases e5
        cases eo
        obtain ⟨w, e6, rw6⟩ := h4.get e3
        have P3 := P1.rep.wr ed e4 (h4.eraseIdx k)
        exact ⟨p, vs, i, k, w, rfl, by rw [rInt.mp r1], h1, (b62_63 hb).1, (b62_63 hb).2, by rw [h4.len]; exact e2, e6, q w F1 _ (P1.trans P3) rw6⟩
      · cases e
    · cases e
  · cases e
theorem de_pop {j : Nat} {x : Str} {px apos cpos : Pos} (hN : X.N[j]? = some x) (hv : Vis X.env.scope x) (he : DE X e te fe)
    (hbase : attributeBase (.Name x px) "pop" X.env (eval (.Name x px) X.env) = eval (.Name x px) X.env := by rfl)
    (hfew : ((backTo cpos (starEach (e :: []) X.env)).all (fun z => !z.1) && (backToKw cpos (keywordEach [] X.env)).all (fun z => z.1.isSome) && decide ((e :: []).length + ([] : List Keyword).length + (if ([] : List Keyword).isEmpty then 0 else 1) < 30)) = true := by rfl)
    (hline : (apos.endLine == cpos.line) = true := by rfl) (h1 : starEach [e] X.env = (false, eval e X.env) :: starEach [] X.env := by rfl) (hplain : (backTo cpos (starEach [] X.env)).any (·.1) = false := by rfl)
    (hd : (x == ("__debug__" : Str)) = false := by decide) (hcd : (x == ("__classdict__" : Str)) = false := by decide) :
    DE X (.Call (.Attribute (.Name x px) "pop" apos) [e] [] cpos) (tBM X.K "list" rPopAt (tVar j) (tCons te tNil)) (popM j fe) :=
  ⟨pe_bm PySem.F.plainAttrs_list PySem.F.slot_list_pop PySem.F.type_list_pop mt_popAt (pe_var hN hv hd hcd) (pa_cons he.pe pa_nil h1) hbase hfew hline h1 hplain, snd_pop he.sn⟩
def popL (j : Nat) : M RV := fun ps => match ps.sl[j]? with
  | some (.ow ds) => ds[ds.length - 1]?.bind fun y => some (.im y, ps.put j (.ow ds.dropLast))
  | _ => none
theorem dropLast_rel {K : Fg} {F : Hp} {T : Addr} {ds : List Dat} {vs : List V} (h : RelL K F T ds vs) : RelL K F T ds.dropLast vs.dropLast := by
  rw [List.dropLast_eq_take, List.dropLast_eq_take, h.len]
  exact h.take _
theorem snd_popL {K : Fg} {j : Nat} : SndE K (tBM0 K "list" rPop (tVar j)) (popL j) := by
  refine ⟨fun G F ps σ H r ps' Q R e q => ?_⟩
  unfold popL at e
  split at e
  · rename_i ds ed
    obtain ⟨y, e3, e⟩ := Option.bind_eq_some_iff.mp e
    cases e
    obtain ⟨o1, e4, p, vs, rfl, h1, h2, h3, h4⟩ := R.slots j _ ed
    obtain ⟨w, e6, rw6⟩ := h4.get e3
    have P3 := R.wr ed e4 (dropLast_rel h4)
    exact ⟨.ref p, e4, .inl ⟨rfl, _, SqL.of h1⟩, p, vs, w, rfl, rfl, h1, by rw [h4.len]; exact e6, q w F _ P3 rw6⟩
  · cases e

/-! ### is, of truth values -/
def isBD : Dat → Dat → Option RV
  | .bool a, .bool b => some (.im (.bool (decide (a = b))))
  | _, _ => none
theorem isBD_ok {K : Fg} : OpSnd K rIsB isBD := by
  intro G F ps σ H x y d e out Q R hx hy hg q
  unfold isBD at hg
  split at hg
  · cases hg
    rw [bBl hx, bBl hy]
    exact ⟨_, _, rfl, rfl, out_im R (by unfold Rel; rfl) q⟩
  · cases hg
def notBD : Dat → Dat → Option RV
  | .bool a, .bool b => some (.im (.bool (!decide (a = b))))
  | _, _ => none
theorem notBD_ok {K : Fg} : OpSnd K rNotB notBD := by
  intro G F ps σ H x y d e out Q R hx hy hg q
  unfold notBD at hg
  split at hg
  · cases hg
    rw [bBl hx, bBl hy]
    exact ⟨_, _, rfl, rfl, out_im R (by unfold Rel; rfl) q⟩
  · cases hg

/-! ### xs[::-1] -/
def revD : Dat → Option RV
  | .list ds => some (.nw ds.reverse)
  | _ => none
theorem de_revL {k : Nat} {p1 p2 p3 : Pos} (he : DE X e te fe) : DE X (.Subscript e (.Slice none none (some (.UnaryOp .USub (.Constant (.int 1) k p1) p2)) p3) pos) (tRevL X.K te) (unM revD fe) := by
  refine ⟨pe_revL he.pe, ⟨fun G F ps σ H out ps' Q R e q => ?_⟩⟩
  unfold unM at e
  obtain ⟨⟨ra, ps1⟩, e1, e⟩ := Option.bind_eq_some_iff.mp e
  obtain ⟨d, e3, e⟩ := Option.bind_eq_some_iff.mp e
  obtain ⟨out', e5, e⟩ := Option.bind_eq_some_iff.mp e
  cases e
  refine he.sn.go G F ps σ H ra ps1 _ R e1 fun x F1 H1 P1 r1 => ?_
  have b := brw_ok P1.rep r1 e3
  unfold revD at e5
  split at e5
  · cases e5
    obtain ⟨a, xs, rfl, h1, h2⟩ := bLst b
    exact ⟨a, xs, rfl, SqL.of h1, out_nw P1.rep h2.reverse fun v F' H' P3 r3 => q v F' H' (P1.trans P3) (r3.back P1.dom)⟩
  · cases e5

/-! ### sorted, of ints -/
def isort (ns : List Int) : List Int := ns.mergeSort (fun a b => decide (a ≤ b))
theorem isort_perm (ns : List Int) : (isort ns).Perm ns := List.mergeSort_perm ns _
theorem isort_sorted (ns : List Int) : (isort ns).Pairwise (· ≤ ·) := by
  have h := List.pairwise_mergeSort (le := fun a b : Int => decide (a ≤ b)) (fun a b c h1 h2 => by simp only [decide_eq_true_eq] at *; omega) (fun a b => by simp only [Bool.or_eq_true, decide_eq_true_eq]; omega) ns
  exact h.imp fun {a b} h => of_decide_eq_true h
theorem isort_uniq {ns ms : List Int} (h : ms.Perm ns) (s : ms.Pairwise (· ≤ ·)) : ms = isort ns :=
  List.Perm.eq_of_pairwise (le := (· ≤ ·)) (fun a b _ _ h1 h2 => Int.le_antisymm h1 h2) s (isort_sorted ns) (h.trans (isort_perm ns).symm)
def sortD : Dat → Option RV
  | .list ds => (ints? ds).bind fun ns => some (.nw ((isort ns).map PyData.int))
  | _ => none
theorem sortD_ok {K : Fg} : C1Snd K (rSortedI K) sortD := by
  intro G F ps σ H x d out Q R hx hg q
  unfold sortD at hg
  split at hg
  · obtain ⟨ns, e1, hg⟩ := Option.bind_eq_some_iff.mp hg
    cases hg
    obtain ⟨a, vs, rfl, h1, h2⟩ := bLst hx
    rw [ints_rel e1 h2] at h1
    refine ⟨a, ns, rfl, SqL.of h1, fun ms p hp hs hn => ?_⟩
    rw [isort_uniq hp hs]
    exact out_nw R (ints_relL (isort ns)) q p hn
  · cases hg

/-! ### isinstance -/
inductive Ty6 where
  | list | tuple | bool | int | str | none
  deriving DecidableEq
def Ty6.nm : Ty6 → String
  | .list => "list" | .tuple => "tuple" | .bool => "bool" | .int => "int" | .str => "str" | .none => "NoneType"
def tyD : Dat → Option Ty6
  | .none => some .none | .bool _ => some .bool | .int _ => some .int | .str _ => some .str | .list _ => some .list | .tuple _ => some .tuple | .dict _ => none
def isTy (a b : Ty6) : Bool := decide (a = b) || (decide (a = .bool) && decide (b = .int))
theorem kit_all (a b : Ty6) (h : b ≠ .none) : kitB a.nm b.nm = some (isTy a b) := by
  cases a <;> cases b <;> first
    | (exact absurd rfl h)
    | decide +kernel
theorem tyX_of {K : Fg} {H : Hp} {T : Addr} {d : Dat} {v : V} {t : Ty6} (h : Rel K H T d v) (e : tyD d = some t) : TyX K H v (.type t.nm) := by
  cases d with
  | none => cases e; rw [rNon.mp h]; exact .base .non
  | bool b => cases e; rw [rBl.mp h]; exact .base (.bl b)
  | int b => cases e; rw [rInt.mp h]; exact .base (.int b)
  | str b => cases e; rw [rStr.mp h]; exact .base (.str b)
  | list ds =>
    cases e
    obtain ⟨a, xs, rfl, h1, _⟩ := rLst.mp h
    exact .base (.lst h1)
  | tuple ds =>
    cases e
    obtain ⟨a, xs, rfl, h1, _⟩ := rTupE h
    rcases h1 with (h1 | ⟨o, h1⟩) | ⟨o, its, n, h1, h2, _⟩
    · exact .base (.tup h1)
    · exact .fTuple h1
    · exact .kTuple h1 h2
  | dict _ => cases e
def isiD (T : Ty6) (d : Dat) : Option RV := (tyD d).bind fun t => some (.im (.bool (isTy t T)))
theorem de_isi {a : Expr} {ta : TE} {fa : M RV} {p p2 : Pos} {T : Ty6} {x : Str} (hT : T ≠ .none) (hgl : Gl X "isinstance") (hm : X.mg "isinstance" = none) (hg2 : Gl X x) (hm2 : X.mg x = none) (hx : x = T.nm) (hv2 : bootBuiltins x = some (.type T.nm)) (ha : DE X a ta fa)
    (hn2 : x ≠ "__name__" := by decide) (hd2 : (x == ("__debug__" : Str)) = false := by decide)
    (he : starEach [a, .Name x p2] X.env = (false, eval a X.env) :: starEach [.Name x p2] X.env := by rfl) (he2 : starEach [.Name x p2] X.env = (false, eval (.Name x p2) X.env) :: starEach [] X.env := by rfl) (hp : (backTo pos (starEach [.Name x p2] X.env)).any (·.1) = false := by rfl) :
    DE X (.Call (.Name "isinstance" p) [a, .Name x p2] [] pos) (tCB (rIsi X.K) (tCons ta (tCons (tC (.ty T.nm)) tNil))) (unM (isiD T) fa) := by
  refine ⟨pe_callB call_isi hgl hm (by decide +kernel) (pa_cons ha.pe (pa_cons (pe_bltn (v := .ty T.nm) hg2 hm2 hv2 rfl hn2 hd2) pa_nil he2) he) (by decide) (by decide) he hp, ⟨fun G F ps σ H out ps' Q R e q => ?_⟩⟩
  unfold unM at e
  obtain ⟨⟨ra, ps1⟩, e1, e⟩ := Option.bind_eq_some_iff.mp e
  obtain ⟨d, e3, e⟩ := Option.bind_eq_some_iff.mp e
  obtain ⟨out', e5, e⟩ := Option.bind_eq_some_iff.mp e
  cases e
  refine ha.sn.go G F ps σ H ra ps1 _ R e1 fun x F1 H1 P1 r1 => ?_
  have b := (brw_ok P1.rep r1 e3).rel P1.rep.fh
  unfold isiD at e5
  obtain ⟨t, e6, e5⟩ := Option.bind_eq_some_iff.mp e5
  cases e5
  exact ⟨x, _, _, _, _, rfl, .ty _, tyX_of b e6, kit_ty (kit_all t T hT), q _ F1 H1 P1 (show Rel _ _ _ _ _ by unfold Rel; rfl)⟩
/-- an int that the module keeps -/
theorem de_globI {x : Str} {i : Int} {tk : Tok} {p : Pos} (hg : Gl X x) (hm : X.mg x = some (.int i tk)) (hd : (x == ("__debug__" : Str)) = false := by decide) : DE X (.Name x p) (tC (.int i)) (kst (.int i)) :=
  ⟨pe_glob hg hm ⟨_, rfl⟩ hd, snd_kst fun _ _ => by unfold Rel; rfl⟩
end
end MP

namespace MP
open PySem PySem.Spec PyProof.Rows L2

/-- an expression as a statement -/
def exprM (fe : M RV) : SM := fun ps => (fe ps).bind fun x => some (.nx x.2)
theorem ds_expr {X : Cx} {e : Expr} {te : TE} {fe : M RV} {pos : Pos} (he : DE X e te fe) (hs : swapsWith e none pos.line X.env = pure false := by rfl) : DS X (.Expr e pos) (tDrop te) (exprM fe) := by
  refine ⟨ps_expr he.pe hs, ⟨fun G F ps σ H o D R e q => ?_⟩⟩
  unfold exprM at e
  obtain ⟨⟨r, ps1⟩, e1, e⟩ := Option.bind_eq_some_iff.mp e
  cases e
  exact he.sn.go G F ps σ H r ps1 _ R e1 fun v F1 H1 P1 r1 => q F1 σ H1 P1.rep P1.same

/-! ### the law's draws, the first sort -/
def drawA : Fn := fun ds dr => match ds, dr with
  | [.dict [], .int many], .A cells seed => if decide (many ≠ 0) && decide (many.natAbs < 1073741824) then
      (match cells.dropWhile (· == 0) with
        | v :: r => some (.im (.int (v.fmod many)), .A (v.fdiv many :: r) seed)
        | [] => some (.im (.int ((((seed * 48271 + 12345).fmod 2147483647).fdiv 64).fmod many)), .A [] ((seed * 48271 + 12345).fmod 2147483647)))
    else none
  | _, _ => none
/-- what the law's state is made of -/
def seedA : List Int → Int → Int
  | [], s => s
  | c :: r, s => seedA r ((s * 31 + c).fmod 1000003)
def stateA (ns : List Int) : Dr := .A (ns.map fun c => if c < 0 then -c else c) (seedA ns 7 + 1)

theorem upd_self {H : Hp} {a : Addr} {o : HO} (h : H a = some o) : upd H a o = H := by
  funext b
  by_cases e : b = a
  · subst e
    rw [upd_same, h]
  · rw [upd_ne e]
theorem upd_comm {H : Hp} {a b : Addr} {o u : HO} (n : a ≠ b) : upd (upd H a o) b u = upd (upd H b u) a o := by
  funext c
  by_cases ea : c = a
  · subst ea
    rw [upd_ne n, upd_same, upd_same]
  · by_cases eb : c = b
    · subst eb
      rw [upd_same, upd_ne ea, upd_same]
    · rw [upd_ne eb, upd_ne ea, upd_ne ea, upd_ne eb]
theorem dropW_cons {v : Int} {r : List Int} : (v :: r).dropWhile (· == 0) = if v = 0 then r.dropWhile (· == 0) else v :: r := by
  rw [List.dropWhile_cons]
  by_cases h : v = 0 <;> simp [h]
/-- behind a draw -/
theorem draw_end {K : Fg} {G : Ctl} {F H H' : Hp} {Q : VK} {cs cs' : List Int} {seed seed' : Int} {r : Int} (st : G.st = true) (fh : Same F H) (ft : F G.T = none ∧ F G.C = none) (da : DrAt G.T G.C H (.A cs seed)) (eH : H' = upd (upd H G.C (.lst (cs'.map V.int))) G.T (.lst [.ref G.C, .int seed']))
    (q : ∀ v F' H', Same F F' → Same F' H' → (∀ a o, H a = some o → ¬ G.ex a → H' a = some o) → (∀ a, H a ≠ none → F' a = F a) → (G.st = true → DrAt G.T G.C H' (.A cs' seed')) → (G.st = false → Dr.A cs' seed' = .no) → (∀ a, H' a = none → H a = none) → RetOk K F' G.T H H' (.im (.int r)) v → Q v H') : Q (.int r) H' := by
  obtain ⟨tc, h1, h2⟩ := da
  subst eH
  refine q _ F _ (Same.refl F) (fun b x e => ?_) (fun a o e nx => ?_) (fun _ _ => rfl) (fun _ => ⟨tc, upd_same, by rw [upd_ne tc.symm, upd_same]⟩) (fun h => by rw [st] at h; cases h) (fun a h => ?_) (show RetOk K F G.T H _ (.im (.int r)) (V.int r) from (rInt (K := K) (F := F) (T := G.T)).mpr rfl)
  · have b1 : b ≠ G.T := by rintro rfl; rw [ft.1] at e; cases e
    have b2 : b ≠ G.C := by rintro rfl; rw [ft.2] at e; cases e
    rw [upd_ne b1, upd_ne b2]
    exact fh _ _ e
  · have b1 : a ≠ G.T := fun z => nx ⟨st, .inl z⟩
    have b2 : a ≠ G.C := fun z => nx ⟨st, .inr z⟩
    rw [upd_ne b1, upd_ne b2]
    exact e
  · by_cases b1 : a = G.T
    · subst b1; rw [upd_same] at h; cases h
    · by_cases b2 : a = G.C
      · subst b2; rw [upd_ne b1, upd_same] at h; cases h
      · rwa [upd_ne b1, upd_ne b2] at h

/-! ### the law's helpers -/
def spState (K : Fg) : Sp := fun vs H Q _ => ∃ (a : Addr) (ns : List Int), vs = [.ref a] ∧ SqL K H a (ns.map V.int) ∧ ns.length ≤ 63 ∧ ∀ p c H', DrAt p c H' (stateA ns) → Q (.ref p) H'
def spLaw (K : Fg) : Sp := fun vs H Q _ => ∃ (a : Addr) (ns : List Int), vs = [.ref a] ∧ SqL K H a (ns.map V.int) ∧ ns.length ≤ 63 ∧ ∀ H', Q (.bl true) H'
theorem seedA_snoc : ∀ (ns : List Int) (c s : Int), seedA (ns ++ [c]) s = (seedA ns s * 31 + c).fmod 1000003
  | [], c, s => rfl
  | n :: ns, c, s => seedA_snoc ns c _
theorem take_snoc {α : Type} {l : List α} {i : Nat} {x : α} (h : l[i]? = some x) : l.take (i + 1) = l.take i ++ [x] := by
  rw [List.take_add_one, h]
  rfl
theorem mapInt_get {ns : List Int} {i : Nat} {x : V} (h : (ns.map V.int)[i]? = some x) : ∃ c, ns[i]? = some c ∧ x = V.int c := by
  rw [List.getElem?_map] at h
  obtain ⟨c, h1, h2⟩ := Option.map_eq_some_iff.mp h
  exact ⟨c, h1, h2.symm⟩
theorem draw_args {ds : List Dat} {dr dr' : Dr} {r : RV} (e : drawA ds dr = some (r, dr')) : ∃ (many : Int) (cs : List Int) (seed : Int), ds = [.dict [], .int many] ∧ dr = .A cs seed ∧ (many ≠ 0 ∧ many.natAbs < 1073741824) := by
  unfold drawA at e
  split at e
  · split at e
    · rename_i h
      simp only [Bool.and_eq_true, decide_eq_true_eq] at h
      exact ⟨_, _, _, rfl, rfl, h⟩
    · cases e
  · cases e
theorem draw_nil {many seed : Int} {cs : List Int} {r : RV} {dr' : Dr} (hm : many ≠ 0 ∧ many.natAbs < 1073741824) (hc : cs.dropWhile (· == 0) = []) (e : drawA [.dict [], .int many] (.A cs seed) = some (r, dr')) :
    r = .im (.int ((((seed * 48271 + 12345).fmod 2147483647).fdiv 64).fmod many)) ∧ dr' = .A [] ((seed * 48271 + 12345).fmod 2147483647) := by
  unfold drawA at e
  simp only [hm.1, hm.2, ne_eq, not_false_eq_true, decide_true, Bool.and_self, if_true, hc] at e
  cases e
  exact ⟨rfl, rfl⟩
theorem draw_cons {many seed v : Int} {cs l : List Int} {r : RV} {dr' : Dr} (hm : many ≠ 0 ∧ many.natAbs < 1073741824) (hc : cs.dropWhile (· == 0) = v :: l) (e : drawA [.dict [], .int many] (.A cs seed) = some (r, dr')) :
    r = .im (.int (v.fmod many)) ∧ dr' = .A (v.fdiv many :: l) seed := by
  unfold drawA at e
  simp only [hm.1, hm.2, ne_eq, not_false_eq_true, decide_true, Bool.and_self, if_true, hc] at e
  cases e
  exact ⟨rfl, rfl⟩
theorem draw_vals {K : Fg} {F : Hp} {T : Addr} {many : Int} {vs : List V} (h : RelL K F T [.dict [], .int many] vs) : vs = [.ref T, .int many] := by
  unfold RelL at h
  obtain ⟨y, ys, rfl, h1, h2⟩ := h
  unfold RelL at h2
  obtain ⟨z, zs, rfl, h3, h4⟩ := h2
  unfold RelL at h4
  unfold Rel at h1
  rw [h1, rInt.mp h3, h4]

theorem len_pos {v : Int} {l : List Int} : V.bl (decide ((0 : Int) < (((v :: l).map V.int).length : Nat))) = V.bl true := by
  rw [decide_eq_true]
  rw [List.length_map, List.length_cons]
  omega

/-! ### the law itself, behind its state -/
/-- the law's own state lies at T; nothing else is known -/
theorem law_rest {K : Fg} {t : TS} {f : SM} (h : SndS K t f) {N : Nat} {i : Nat} (hi : i < N) {T C : Addr} {cs : List Int} {seed : Int} {σ : L2.St} {H : Hp} (hl : σ.length = N) (hs : σ[i]? = some (some (.ref T)))
    (da : DrAt T C H (.A cs seed)) {ps' : PS} (e : f ⟨(List.replicate N Sl.un).set i (.fr (.dict [])), .A cs seed⟩ = some (.rt (.im (.bool true)) ps')) {D : Ends} (q : ∀ H', D.rt (.bl true) H') : t D σ H := by
  have R : Rep ⟨H, fun _ => none, T, C, true⟩ K (fun _ => none) ⟨(List.replicate N Sl.un).set i (.fr (.dict [])), .A cs seed⟩ σ H := by
    refine ⟨by simp [hl], fun j s e => ?_, fun a b da db p ha hb _ _ => ?_, fun _ => da, fun _ => ⟨rfl, rfl, da.T, da.C⟩, fun _ _ e => (nomatch e), fun a o e _ => e, fun _ _ => rfl, Same.refl _, fun h => (nomatch h)⟩
    · rcases getSet e with ⟨rfl, rfl, _⟩ | ⟨hj, e⟩
      · exact ⟨_, hs, _, rfl, by unfold Rel; rfl⟩
      · have z := List.mem_of_getElem? e
        rw [List.mem_replicate] at z
        have hlt := ltOf e
        rw [List.length_replicate] at hlt
        rw [z.2]
        exact ⟨σ[j]'(by omega), List.getElem?_eq_getElem (by omega), trivial⟩
    · exfalso
      rcases getSet ha with ⟨_, z, _⟩ | ⟨_, z⟩
      · cases z
      · have w := List.mem_of_getElem? z
        rw [List.mem_replicate] at w
        exact nomatch w.2
  refine h.go _ _ _ σ H _ D R e ?_
  intro v F' σ' H' _ _ hr
  have hr : Rel K F' T (.bool true) v := hr
  rw [rBl.mp hr]
  exact q H'
end MP

/-! the rules with the written part told by its own name (within a block it must not hang on the block) -/
namespace MP
open PySem PySem.Spec PyProof.Rows L2
section
variable {X : Cx} {K : Fg} {a b c e tg iter : Expr} {ta tb tc te : TE} {fa fb fc fe : M RV} {pos p : Pos} {es : List Expr} {t : TA} {g : M (List Dat)}
theorem k_add (hK : X.K = K) (ha : DE X a ta fa) (hb : DE X b tb fb) : DE X (.BinOp a .Add b pos) (tOp (rAddD K) ta tb) (opM addD fa fb) := by subst hK; exact de_add ha hb
theorem k_ix (hK : X.K = K) (ha : DE X a ta fa) (hb : DE X b tb fb) (hs : PlainIx b) : DE X (.Subscript a b pos) (tOp (rIx K) ta tb) (opM ixD fa fb) := by subst hK; exact de_ix ha hb hs
theorem k_slice {p2} {tl th : TO} {fl fh : M (Option Int)} {lo hi : Option Expr} (hK : X.K = K) (h : DE X e te fe) (hl : DO X lo tl fl) (hh : DO X hi th fh) : DE X (.Subscript e (.Slice lo hi none p2) pos) (tSl (rSlD K) te tl th) (slM fe fl fh) := by subst hK; exact de_slice h hl hh
theorem k_revL {k : Nat} {p1 p2 p3 : Pos} (hK : X.K = K) (he : DE X e te fe) : DE X (.Subscript e (.Slice none none (some (.UnaryOp .USub (.Constant (.int 1) k p1) p2)) p3) pos) (tRevL K te) (unM revD fe) := by subst hK; exact de_revL he
theorem k_truth (hK : X.K = K) (h : DE X a ta fa) (he : ∀ whole, isTrue a X.env whole = (do let v ← whole; standAt a.pos; holding [v] (truthy v))) :
    DT X a (fun σ H Q => ta σ H fun x H' => ∃ k, TruV K x H' k ∧ Q k H') (truM fa) := by subst hK; exact dt_truth h he
theorem ko_eq (hK : X.K = K) (hu : X.A.units + 65 < cLine) : OpR X (compareOp .Eq) (rEqD K) := by subst hK; exact op_eqD (u64 hu)
theorem ko_ne (hK : X.K = K) (hu : X.A.units + 65 < cLine) : OpR X (compareOp .NotEq) (rNeD K) := by subst hK; exact op_neD (u64 hu)
theorem ko_lt (hK : X.K = K) (hu : X.A.units + 65 < cLine) : OpR X (compareOp .Lt) (rLtD K) := by subst hK; exact op_ltD (u0 hu)
theorem ko_in (hK : X.K = K) (hu : X.A.units + 65 < cLine) : OpR X (compareOp .In) (rInA K) := by subst hK; exact op_inA hu
theorem ko_nin (hK : X.K = K) (hu : X.A.units + 65 < cLine) : OpR X (compareOp .NotIn) (rNinA K) := by subst hK; exact op_ninA hu
theorem k_cmp {op : CmpOp} {r : R2} {g : Dat → Dat → Option RV} (hK : X.K = K) (ho : OpR X (compareOp op) r) (hg : OpSnd K r g) (ha : DE X a ta fa) (hb : DE X b tb fb) (hm : behindInMarks op b = false) :
    DE X (.Compare a [op] [b] pos) (tOp r ta tb) (opM g fa fb) := by subst hK; exact de_cmp ho hg ha hb hm
theorem kt_cmp {op : CmpOp} {r : R2} {g : Dat → Dat → Option RV} (hK : X.K = K) (ho : OpR X (compareOp op) r) (hg : OpSnd K r g) (ha : DE X a ta fa) (hb : DE X b tb fb) (hm : behindInMarks op b = false) :
    DT X (.Compare a [op] [b] pos) (tTest (tOp r ta tb)) (tstM (opM g fa fb)) := by subst hK; exact dt_cmp ho hg ha hb hm
theorem k_chain {op op' : CmpOp} {r r' : R2} {g g' : Dat → Dat → Option RV} (hK : X.K = K) (ho : OpR X (compareOp op) r) (hg : OpSnd K r g) (ho' : OpR X (compareOp op') r') (hg' : OpSnd K r' g') (ha : DE X a ta fa) (hb : DE X b tb fb) (hc : DE X c tc fc)
    (hm : lastMarks [op, op'] [b, c] = false := by with_unfolding_all rfl) : DE X (.Compare a [op, op'] [b, c] pos) (tChain r r' ta tb tc) (chainM g g' fa fb fc) := by subst hK; exact de_chain ho hg ho' hg' ha hb hc hm
theorem kt_chain {op op' : CmpOp} {r r' : R2} {g g' : Dat → Dat → Option RV} (hK : X.K = K) (ho : OpR X (compareOp op) r) (hg : OpSnd K r g) (ho' : OpR X (compareOp op') r') (hg' : OpSnd K r' g') (ha : DE X a ta fa) (hb : DE X b tb fb) (hc : DE X c tc fc)
    (hm : lastMarks [op, op'] [b, c] = false := by with_unfolding_all rfl) : DT X (.Compare a [op, op'] [b, c] pos) (tTest (tChain r r' ta tb tc)) (tstM (chainM g g' fa fb fc)) := by subst hK; exact dt_chain ho hg ho' hg' ha hb hc hm
theorem kc_len (hK : X.K = K) : CallR X (.builtin "len") (fun xs H Q => ∃ p ys, xs = [.ref p] ∧ (SqL K H p ys ∨ SqT K H p ys) ∧ Q (.int ys.length) H) := by subst hK; exact call_len_seq
theorem kc_list (hK : X.K = K) : CallR X (.type "list") (fun xs H Q => ∃ p ys, xs = [.ref p] ∧ (SqL K H p ys ∨ SqT K H p ys) ∧ ∀ l, H l = none → Q (.ref l) (upd H l (.lst ys))) := by subst hK; exact call_list_of
theorem kc_tuple (hK : X.K = K) : CallR X (.type "tuple") (rTupOf K) := by subst hK; exact call_tupleD
theorem kc_int (hK : X.K = K) : CallR X (.type "int") (fun xs H Q => (∃ i, xs = [.int i] ∧ Q (.int i) H) ∨ ∃ k, xs = [.bl k] ∧ Q (.int (if k then 1 else 0)) H) := call_int1
theorem kc_abs (hK : X.K = K) : CallR X (.builtin "abs") (fun xs H Q => ∃ i, xs = [.int i] ∧ Q (.int (if i < 0 then -i else i)) H) := call_abs
theorem kc_sum (hK : X.K = K) (hc : X.calm = true := by rfl) : CallR X (.builtin "sum") (rSum K) := by subst hK; exact cr_sum hc
theorem kc_sorted (hK : X.K = K) : CallR X (.builtin "sorted") (rSortedI K) := by subst hK; exact cr_sortedI
theorem k_callB1 {r : List V → Hp → VK → Prop} {g : Dat → Option RV} {x : Str} {id : String} (hK : X.K = K) (hc : CallR X (.builtin id) r) (hs : C1Snd K r g) (hgl : Gl X x) (hm : X.mg x = none) (hv : bootBuiltins x = some (.builtin id)) (ha : DE X a ta fa)
    (hn : x ≠ "__name__" := by decide) (hdb : (x == ("__debug__" : Str)) = false := by decide) (he : starEach [a] X.env = (false, eval a X.env) :: starEach [] X.env := by rfl) (hp : (backTo pos (starEach [] X.env)).any (·.1) = false := by rfl) :
    DE X (.Call (.Name x p) [a] [] pos) (tCB r (t1 ta)) (unM g fa) := by subst hK; exact de_callB1 hc hs hgl hm hv ha hn hdb he hp
theorem k_callT1 {r : List V → Hp → VK → Prop} {g : Dat → Option RV} {x : Str} {T : String} (hK : X.K = K) (hc : CallR X (.type T) r) (hs : C1Snd K r g) (hgl : Gl X x) (hm : X.mg x = none) (hv : bootBuiltins x = some (.type T)) (ha : DE X a ta fa)
    (hn : x ≠ "__name__" := by decide) (hdb : (x == ("__debug__" : Str)) = false := by decide) (he : starEach [a] X.env = (false, eval a X.env) :: starEach [] X.env := by rfl) (hp : (backTo pos (starEach [] X.env)).any (·.1) = false := by rfl) :
    DE X (.Call (.Name x p) [a] [] pos) (tCB r (t1 ta)) (unM g fa) := by subst hK; exact de_callT1 hc hs hgl hm hv ha hn hdb he hp
theorem k_callBN {r : List V → Hp → VK → Prop} {gg : List Dat → Option RV} {x : Str} {id : String} (hK : X.K = K) (hc : CallR X (.builtin id) r) (hs : CNSnd K r gg) (hgl : Gl X x) (hm : X.mg x = none) (hv : bootBuiltins x = some (.builtin id)) (ha : DA X (e :: es) t g)
    (hn : x ≠ "__name__" := by decide) (hdb : (x == ("__debug__" : Str)) = false := by decide) (he : starEach (e :: es) X.env = (false, eval e X.env) :: starEach es X.env := by rfl) (hp : (backTo pos (starEach es X.env)).any (·.1) = false := by rfl) :
    DE X (.Call (.Name x p) (e :: es) [] pos) (tCB r t) (cnM gg g) := by subst hK; exact de_callBN hc hs hgl hm hv ha hn hdb he hp
theorem k_call {CX : CXT} {k n : Nat} {f : Addr} {fd : FuncData} {nms : List Str} {E : XK} {x : Str} {fn : Fn} (hK : X.K = K) (F : FnOk X.prog X.w K X.mg X.base CX k f fd nms (spM K n fn)) (hr : Room k X.A) (hg : Gl X x) (hm : X.mg x = some (.ref f)) (hk : PySem.W.keepIn K (.ref f) = true) (hb : Binds K fd nms []) (hx : Passes CX X E)
    (ha : DA X (e :: es) t g) (hl : ∀ ps ds ps', g ps = some (ds, ps') → ds.length = n) (hdb : (x == ("__debug__" : Str)) = false := by decide) (he : starEach (e :: es) X.env = (false, eval e X.env) :: starEach es X.env := by rfl) (hpl : (backTo pos (starEach es X.env)).any (·.1) = false := by rfl) :
    DE X (.Call (.Name x p) (e :: es) [] pos) (tCall (spM K n fn) [] E t) (callM fn g) := by subst hK; exact de_call F hr hg hm hk hb hx ha hl hdb he hpl
theorem k_isi {p2 : Pos} {T : Ty6} {x : Str} (hK : X.K = K) (hT : T ≠ .none) (hgl : Gl X "isinstance") (hm : X.mg "isinstance" = none) (hg2 : Gl X x) (hm2 : X.mg x = none) (hx : x = T.nm) (hv2 : bootBuiltins x = some (.type T.nm)) (ha : DE X a ta fa)
    (hn2 : x ≠ "__name__" := by decide) (hd2 : (x == ("__debug__" : Str)) = false := by decide)
    (he : starEach [a, .Name x p2] X.env = (false, eval a X.env) :: starEach [.Name x p2] X.env := by rfl) (he2 : starEach [.Name x p2] X.env = (false, eval (.Name x p2) X.env) :: starEach [] X.env := by rfl) (hp : (backTo pos (starEach [.Name x p2] X.env)).any (·.1) = false := by rfl) :
    DE X (.Call (.Name "isinstance" p) [a, .Name x p2] [] pos) (tCB (rIsi K) (tCons ta (tCons (tC (.ty T.nm)) tNil))) (unM (isiD T) fa) := by subst hK; exact de_isi hT hgl hm hg2 hm2 hx hv2 ha hn2 hd2 he he2 hp
theorem k_seq (hK : X.K = K) (h : DE X e te fe) : DI X tg e (iSeq K te) (seqIt fe) := by subst hK; exact di_seq h
theorem k_enum {elts : List Expr} {kk : Nat} {tpos : Pos} (hK : X.K = K) (hg : Gl X "enumerate") (hm : X.mg "enumerate" = none) (h : DE X e te fe) (hs : starEach [e] X.env = (false, eval e X.env) :: starEach [] X.env := by rfl)
    (hs1 : starEach [e] X.env = [(false, eval e X.env)] := by rfl) : DI X (.Tuple elts kk tpos) (.Call (.Name "enumerate" p) [e] [] pos) (iEnumA K te) (enIt fe) := by subst hK; exact di_enum hg hm h hs hs1
theorem k_gtup {es : List Expr} {k : Nat} {gs : TGs} {is : List Nat} {fs : List Dat → PS → Option PS} {n : Nat} (hK : X.K = K) (hc : X.calm = true) (h : DGs X es gs is fs)
    (hn : (assignEach es X.env).length = n := by rfl) (hst : (assignEach es X.env).findIdx? (·.1) = none := by rfl) : DG X (.Tuple es k pos) (gTL K n gs) is (tupT n fs) := by subst hK; exact dg_tup hc h hn hst
end
end MP

/-! more rules: .index of ints, list(range(..)), tuple(range(..)), sorted of a tuple of ints -/
namespace MP
open PySem PySem.Spec PyProof.Rows L2

/-! ### index -/
section
variable {X : Cx} {o e : Expr} {to te : TE} {fo fe : M RV} {apos cpos : Pos}
def tIdx (K : Fg) (to te : TE) : TE := fun σ H Q => to σ H fun x H1 => ∃ a : Addr, x = .ref a ∧
  (((∃ ys, SqL K H1 a ys) ∧ te σ H1 fun y H2 => ∃ (ns : List Int) (k : Int), y = .int k ∧ SqL K H2 a (ns.map V.int) ∧ k ∈ ns ∧ Q (.int (ns.idxOf k : Nat)) H2) ∨
   ((∃ ys, TupD H1 a ys) ∧ te σ H1 fun y H2 => ∃ (ns : List Int) (k : Int), y = .int k ∧ SqT K H2 a (ns.map V.int) ∧ k ∈ ns ∧ Q (.int (ns.idxOf k : Nat)) H2))
theorem pe_idx (ho : PE X o to) (ha : PE X e te) (hbase : attributeBase o "index" X.env (eval o X.env) = eval o X.env)
    (hfew : ((backTo cpos (starEach [e] X.env)).all (fun z => !z.1) && (backToKw cpos (keywordEach [] X.env)).all (fun z => z.1.isSome) && decide ([e].length + ([] : List Keyword).length + (if ([] : List Keyword).isEmpty then 0 else 1) < 30)) = true)
    (hline : (apos.endLine == cpos.line) = true) (hs : starEach [e] X.env = (false, eval e X.env) :: starEach [] X.env) (hplain : (backTo cpos (starEach [] X.env)).any (·.1) = false) :
    PE X (.Call (.Attribute o "index" apos) [e] [] cpos) (tIdx X.K to te) := by
  constructor
  intro pins s σ H Q I h
  refine wpAny_Call_method_late hbase hfew hline rfl (thn (ho.run pins s σ H _ I h) fun v s1 hv => ?_)
  obtain ⟨x, H1, I1, r1, a, rfl, q⟩ := hv
  obtain rfl : v = .ref a := r1
  have args : ∀ {P1 : V → Hp → Prop} {id : String}, te σ H1 P1 → (∀ (u : Value) (s2 : Shared) (y : V) (H2 : Hp), Inv X pins σ H2 s2 → RelV y u → P1 y H2 → wpAny (model X.prog X.w) X.A (call (.builtin id) [.ref a, u]) (EP X pins σ Q) X.xe s2) →
      wpAny (model X.prog X.w) X.A (callWith cpos (.builtin id) [.ref a] (backTo cpos (starEach [e] X.env)) []) (EP X pins σ Q) X.xe s1 := by
    intro P1 id hq fin
    have hA := (pa_cons ha pa_nil hs).run cpos pins s1 σ H1 (fun vs H2 => match vs with | [y] => P1 y H2 | _ => False) I1 hq
    rw [hs] at hA ⊢
    refine Calls.callWith_builtin (by show (false || (backTo cpos (starEach [] X.env)).any (·.1)) = false; rw [hplain]; rfl) (Calls.evalArgs_plain (thn hA fun us s2 z => ?_))
    obtain ⟨vs, H2, I2, r2, q2⟩ := z
    match vs, r2, q2 with
    | [y], .cons ry .nil, q2 => exact fin _ s2 y H2 I2 ry q2
  rcases q with ⟨⟨ys, hy⟩, q⟩ | ⟨⟨ys, ob, hy, hd⟩, q⟩
  · obtain ⟨us, _, ⟨ob, n, e1, e2, e3, e4⟩, _⟩ := I1.list hy
    refine ⟨"list", "list.index", PySem.F.plainAttrs_list, PySem.F.slot_list_index, PySem.F.type_list_index, ⟨ob, e1, e2⟩, (fun b eb => by cases eb; exact ⟨ob, e1, e3⟩), args q fun u s2 y H2 I2 ry q2 => ?_⟩
    obtain ⟨ns, k, rfl, hq, hk, q3⟩ := q2
    obtain ⟨t, rfl⟩ := ry
    obtain ⟨its, rv, hl, hz⟩ := I2.list hq
    exact PySem.SeqAt.list_index_ints hl.isList rv.ints (by rw [List.length_map] at hz; exact hz) hk ⟨.int _, H2, I2.tok _, ⟨_, rfl⟩, q3⟩
  · obtain ⟨e1, _, us, _, ⟨ob', e2, e3, n, e4⟩⟩ := I1.hok a _ hy
    rw [e1] at e2
    cases e2
    refine ⟨"tuple", "tuple.index", PySem.F.plainAttrs_tuple, PySem.F.slot_tuple_index, PySem.F.type_tuple_index, ⟨ob, e1, e3⟩, (fun b eb => by cases eb; exact ⟨ob, e1, hd⟩), args q fun u s2 y H2 I2 ry q2 => ?_⟩
    obtain ⟨ns, k, rfl, hq, hk, q3⟩ := q2
    obtain ⟨t, rfl⟩ := ry
    obtain ⟨its, rv, hl, hz⟩ := I2.tuple hq
    exact PySem.SeqAt.tuple_index_ints hl rv.ints hk ⟨.int _, H2, I2.tok _, ⟨_, rfl⟩, q3⟩
def idxM (fo fe : M RV) : M RV := fun ps => (keepM fo ps).bind fun x => (items? x.1).bind fun ds => (fe x.2).bind fun y => match y.1 with
  | .im (.int k) => (ints? ds).bind fun ns => if decide (k ∈ ns) then some (.im (.int (ns.idxOf k : Nat)), y.2) else none
  | _ => none
theorem snd_idx {K : Fg} (ho : SndE K to fo) (he : SndE K te fe) : SndE K (tIdx K to te) (idxM fo fe) := by
  refine ⟨fun G F ps σ H r ps' Q R e q => ?_⟩
  unfold idxM at e
  obtain ⟨⟨d, ps1⟩, e1, e⟩ := Option.bind_eq_some_iff.mp e
  obtain ⟨ds, e2, e⟩ := Option.bind_eq_some_iff.mp e
  obtain ⟨⟨rr, ps2⟩, e3, e⟩ := Option.bind_eq_some_iff.mp e
  simp only at e
  split at e
  · rename_i k
    obtain ⟨ns, e4, e⟩ := Option.bind_eq_some_iff.mp e
    split at e
    · rename_i hk
      cases e
      have hk := of_decide_eq_true hk
      refine keepM_go ho R e1 fun v F1 H1 P1 r1 => ?_
      rcases items_ok e2 with e5 | e5
      · have e5 : d = .list ds := e5
        subst e5
        obtain ⟨a, xs, rfl, h1, h2⟩ := rLst.mp r1
        refine ⟨a, rfl, .inl ⟨⟨xs, SqL.of (P1.rep.fh _ _ h1)⟩, he.go G F1 ps1 σ H1 _ _ _ P1.rep e3 fun v F2 H2 P2 r2 => ?_⟩⟩
        have r2 : Rel _ _ _ _ _ := r2
        have h3 := ints_rel e4 h2
        subst h3
        exact ⟨ns, k, rInt.mp r2, SqL.of (P2.rep.fh _ _ (P2.same _ _ h1)), hk, q _ F2 H2 (P1.trans P2) (by show Rel _ _ _ _ _; unfold Rel; rfl)⟩
      · have e5 : d = .tuple ds := e5
        subst e5
        obtain ⟨a, xs, rfl, h1, h2⟩ := rTupD r1
        refine ⟨a, rfl, .inr ⟨⟨xs, h1.mono P1.rep.fh⟩, he.go G F1 ps1 σ H1 _ _ _ P1.rep e3 fun v F2 H2 P2 r2 => ?_⟩⟩
        have r2 : Rel _ _ _ _ _ := r2
        have h3 := ints_rel e4 h2
        subst h3
        exact ⟨ns, k, rInt.mp r2, ((h1.mono P2.same).mono P2.rep.fh).sqT, hk, q _ F2 H2 (P1.trans P2) (by show Rel _ _ _ _ _; unfold Rel; rfl)⟩
    · cases e
  · cases e
theorem k_index {K : Fg} (hK : X.K = K) (ho : DE X o to fo) (he : DE X e te fe) (hbase : attributeBase o "index" X.env (eval o X.env) = eval o X.env := by rfl)
    (hfew : ((backTo cpos (starEach [e] X.env)).all (fun z => !z.1) && (backToKw cpos (keywordEach [] X.env)).all (fun z => z.1.isSome) && decide ([e].length + ([] : List Keyword).length + (if ([] : List Keyword).isEmpty then 0 else 1) < 30)) = true := by rfl)
    (hline : (apos.endLine == cpos.line) = true := by rfl) (hs : starEach [e] X.env = (false, eval e X.env) :: starEach [] X.env := by rfl) (hplain : (backTo cpos (starEach [] X.env)).any (·.1) = false := by rfl) :
    DE X (.Call (.Attribute o "index" apos) [e] [] cpos) (tIdx K to te) (idxM fo fe) := by
  subst hK
  exact ⟨pe_idx ho.pe he.pe hbase hfew hline hs hplain, snd_idx ho.sn he.sn⟩
end

/-! ### list(range(..)), tuple(range(..)) -/
theorem rg_rel {K : Fg} {F : Hp} {T : Addr} {a b : Int} : RelL K F T (rgD a (b - a).toNat) (rgV a b) := by
  unfold rgD rgV
  generalize (b - a).toNat = n
  induction n with
  | zero => exact .nil
  | succ n ih =>
    rw [List.range_succ, List.map_append, List.map_append]
    exact ih.append (.cons (by unfold Rel; rfl) .nil)
abbrev TR := L2.St → Hp → (Int → Int → Hp → Prop) → Prop
structure DR (X : Cx) (e : Expr) (t : TR) (f : M (Int × Int)) : Prop where
  pe : PRg X e t
  go : ∀ (G : Ctl) (F : Hp) (ps : PS) (σ : L2.St) (H : Hp) (z : Int × Int) (ps' : PS) (Q : Int → Int → Hp → Prop), Rep G X.K F ps σ H → f ps = some (z, ps') → (∀ F' H', Post G X.K F ps σ H F' ps' H' → Q z.1 z.2 H') → t σ H Q
def asI : RV → Option Int
  | .im (.int n) => some n
  | _ => none
def rg1M (fa : M RV) : M (Int × Int) := fun ps => (fa ps).bind fun x => (asI x.1).bind fun n => some ((0, n), x.2)
def rg2M (fa fb : M RV) : M (Int × Int) := fun ps => (fa ps).bind fun x => (asI x.1).bind fun i => (fb x.2).bind fun y => (asI y.1).bind fun j => some ((i, j), y.2)
theorem asI_ok {G : Ctl} {K : Fg} {F : Hp} {ps : PS} {σ : L2.St} {Hs H : Hp} {r : RV} {v : V} {n : Int} (h : asI r = some n) (k : RVok G K F ps σ Hs H r v) : v = .int n := by
  unfold asI at h
  split at h
  · cases h
    have k : Rel _ _ _ _ _ := k
    exact rInt.mp k
  · cases h
section
variable {X : Cx} {a b e : Expr} {ta tb : TE} {fa fb : M RV} {t : TR} {f : M (Int × Int)} {p q1 pos : Pos}
theorem dr_1 (hg : Gl X "range") (hm : X.mg "range" = none) (ha : DE X a ta fa) (na : starEach [a] X.env = (false, eval a X.env) :: starEach [] X.env := by rfl) : DR X (.Call (.Name "range" p) [a] [] pos) (tRg1 ta) (rg1M fa) := by
  refine ⟨prg_1 hg hm ha.pe na, fun G F ps σ H z ps' Q R e q => ?_⟩
  unfold rg1M at e
  obtain ⟨⟨r, ps1⟩, e1, e⟩ := Option.bind_eq_some_iff.mp e
  obtain ⟨n, e2, e⟩ := Option.bind_eq_some_iff.mp e
  cases e
  exact ha.sn.go G F ps σ H _ _ _ R e1 fun v F1 H1 P1 r1 => ⟨n, asI_ok e2 r1, q F1 H1 P1⟩
theorem dr_2 (hg : Gl X "range") (hm : X.mg "range" = none) (ha : DE X a ta fa) (hb : DE X b tb fb) (na : starEach [a, b] X.env = (false, eval a X.env) :: starEach [b] X.env := by rfl)
    (nb : starEach [b] X.env = (false, eval b X.env) :: starEach [] X.env := by rfl) (hp : (backTo pos (starEach [b] X.env)).any (·.1) = false := by rfl) : DR X (.Call (.Name "range" p) [a, b] [] pos) (tRg2 ta tb) (rg2M fa fb) := by
  refine ⟨prg_2 hg hm ha.pe hb.pe na nb hp, fun G F ps σ H z ps' Q R e q => ?_⟩
  unfold rg2M at e
  obtain ⟨⟨r, ps1⟩, e1, e⟩ := Option.bind_eq_some_iff.mp e
  obtain ⟨i, e2, e⟩ := Option.bind_eq_some_iff.mp e
  obtain ⟨⟨r', ps2⟩, e3, e⟩ := Option.bind_eq_some_iff.mp e
  obtain ⟨j, e4, e⟩ := Option.bind_eq_some_iff.mp e
  cases e
  exact ha.sn.go G F ps σ H _ _ _ R e1 fun v F1 H1 P1 r1 => hb.sn.go G F1 ps1 σ H1 _ _ _ P1.rep e3 fun u F2 H2 P2 r2 => ⟨i, j, asI_ok e2 r1, asI_ok e4 r2, q F2 H2 (P1.trans P2)⟩
def rgB (z : Int × Int) : Bool := decide (z.1.natAbs ≤ 8388608) && decide (z.2.natAbs ≤ 8388608)
theorem rgB_ok {z : Int × Int} (h : rgB z = true) : RgOk z.1 z.2 := by
  unfold rgB at h
  simp only [Bool.and_eq_true, decide_eq_true_eq] at h
  exact ⟨by omega, by omega, by omega, by omega, by omega⟩
def listRgM (f : M (Int × Int)) : M RV := fun ps => (f ps).bind fun x => if rgB x.1 then some (.nw (rgD x.1.1 (x.1.2 - x.1.1).toNat), x.2) else none
def tupleRgM (f : M (Int × Int)) : M RV := fun ps => (f ps).bind fun x => if rgB x.1 then some (.im (.tuple (rgD x.1.1 (x.1.2 - x.1.1).toNat)), x.2) else none
theorem de_listRg (hc : X.calm = true) (hg : Gl X "list") (hm : X.mg "list" = none) (h : DR X e t f) (na : starEach [e] X.env = (false, eval e X.env) :: starEach [] X.env := by rfl) :
    DE X (.Call (.Name "list" p) [e] [] pos) (tLstRg t) (listRgM f) := by
  refine ⟨pe_listRg hc hg hm h.pe na, ⟨fun G F ps σ H r ps' Q R e q => ?_⟩⟩
  unfold listRgM at e
  obtain ⟨⟨z, ps1⟩, e1, e⟩ := Option.bind_eq_some_iff.mp e
  split at e
  · rename_i hz
    cases e
    exact h.go G F ps σ H _ _ _ R e1 fun F1 H1 P1 => ⟨rgB_ok hz, out_nw P1.rep rg_rel fun v F2 H2 P2 r3 => q v F2 H2 (P1.trans P2) (r3.back P1.dom)⟩
  · cases e
def tTupRgD (te : TR) : TE := fun σ H Q => te σ H fun a b H1 => RgOk a b ∧ NewT H1 (rgV a b) Q
theorem de_tupleRg (hc : X.calm = true) (hg : Gl X "tuple") (hm : X.mg "tuple" = none) (h : DR X e t f) (na : starEach [e] X.env = (false, eval e X.env) :: starEach [] X.env := by rfl) :
    DE X (.Call (.Name "tuple" p) [e] [] pos) (tTupRgD t) (tupleRgM f) := by
  refine ⟨⟨fun pins s σ H Q I hq => ?_⟩, ⟨fun G F ps σ H r ps' Q R e q => ?_⟩⟩
  · refine Call_ (ld_blt I hg hm boot_tuple (PyProof.Rows.callWith_type1 (args_cons (thn (h.pe pins s σ H _ I hq) fun x s1 hx => args_nil ?_) na) na))
    obtain ⟨r, a, b, t, u, v, H1, rfl, hr, I1, ok, q⟩ := hx
    refine call_tuple_range (n := (b - a).toNat) (I1.ok.hd hc) hr (small_one ok.1 ok.2.1 ok.2.2.1 ok.2.2.2.1) (rangeSize_nat a b) ok.2.2.2.2 fun h' tk acc hk hi => ?_
    have hz : (rgV a b).length ≤ sizeLine := by
      have := ok.2.2.2.2
      rw [rgV_length, sizeLine_eq]
      omega
    have := q.put (s := { s1 with heap := h', toks := tk }) (I1.kept hk) (vals_rg hi) hz
    rw [Array.toArray_toList] at this
    exact this
  · unfold tupleRgM at e
    obtain ⟨⟨z, ps1⟩, e1, e⟩ := Option.bind_eq_some_iff.mp e
    split at e
    · rename_i hz
      cases e
      exact h.go G F ps σ H _ _ _ R e1 fun F1 H1 P1 => ⟨rgB_ok hz, out_tp P1.rep rg_rel fun v F2 H2 P2 r3 => q v F2 H2 (P1.trans P2) (r3.back P1.dom)⟩
    · cases e
end

/-! ### sorted, of a list or a tuple of ints -/
theorem sorted_seq {prog : Program} {w : World} {A : Around} {E : Value → Shared → Prop} {s : Shared} {l : Addr} {vs : List Value} {ns : List Int} {Q : Value → Shared → Prop} (ht : IsTup s.heap l vs.toArray) (hi : IntsAre vs ns) (hz : vs.length ≤ sizeLine)
    (h : ∀ (h0 h1 : Heap) (p : Addr) (out : List Value) (ms : List Int), (∀ b o, s.heap.get? b = some o → h0.get? b = some o) → (∀ b o, h0.get? b = some o → h1.get? b = some o) → h0.objs.size ≤ p → (∃ n, h1.get? p = some (seqObj "list" out.toArray n)) → IntsAre out ms → ms.Perm ns → ms.Pairwise (· ≤ ·) → Q (.ref p) { s with heap := h1 }) :
    wpAny (model prog w) A (call (.builtin "sorted") [.ref l]) Q E s := by
  obtain ⟨o, ho, hc, n, hd⟩ := ht
  refine Calls.call_function_entry kind_sorted plain_sorted entry_sorted (args_sorted1 _) ?_
  unfold Builtin.«sorted»
  refine wpAny_bind (m := checkCount "sorted" 1 1 _) (wpAny_pure (wpAny_bind (wpAny_collect_seq l (.inr rfl) ho hc hd (fun h1 k1 => ?_) (by rw [List.size_toArray]; exact hz))))
  refine wpAny_bind (wpAny_newList ?_ hz)
  have at1 : (h1.push (seqObj "list" vs.toArray 0)).get? h1.objs.size = some (seqObj "list" vs.toArray 0) := Heap.get?_push_size _ rfl
  refine wpAny_bind (wpAny_holding (wpAny_call_entry slot_list_sort ⟨_, at1, rfl⟩ entry_list_sort (SrtO.list_sort_ord SrtO.swo_int at1 hz (fun h2 => SrtO.ints_sortable hi h2) fun out hs hb => ⟨_, rfl, ?_⟩) (args_list_sort _)))
  obtain ⟨j1, j2, j3⟩ := SrtO.ints_out hi hs hb
  refine wpAny_pure ⟨_, rfl, h h1 _ _ out _ k1 (fun b o e => ?_) (Nat.le_refl _) (sortedHeap_at at1) j1 j2 j3⟩
  have z : (h1.push (seqObj "list" vs.toArray 0)).get? b = some o := Heap.get?_push_of_some _ e
  exact (sortedHeap_old (Nat.ne_of_lt (Heap.lt_size e)) (Heap.lt_size z)).trans z
def rSortedA (K : Fg) : List V → Hp → VK → Prop := fun vs H Q => rSortedI K vs H Q ∨ ∃ (a : Addr) (ns : List Int), vs = [V.ref a] ∧ SqT K H a (ns.map V.int) ∧ ∀ (ms : List Int) (p : Addr), ms.Perm ns → ms.Pairwise (· ≤ ·) → H p = none → Q (.ref p) (upd H p (.lst (ms.map V.int)))
theorem call_sortedA {X : Cx} : CallR X (.builtin "sorted") (rSortedA X.K) := by
  intro pins s σ H vs us Q I r h
  rcases h with h | ⟨a, ns, rfl, hs, q⟩
  · exact cr_sortedI pins s σ H vs us Q I r h
  · obtain ⟨its, rv, ht, hz⟩ := I.tuple hs
    rw [Vals.ref1 r]
    refine sorted_seq ht rv.ints (by rw [← rv.length]; exact hz) fun h0 h1 p out ms k1 k2 hp hg j1 j2 j3 => ?_
    obtain ⟨n, hg⟩ := hg
    have I1 : Inv X pins σ H { s with heap := h0 } := I.kept (t' := s.toks) k1
    have hl : (ms.map V.int).length ≤ sizeLine := by
      rw [List.length_map] at hz ⊢
      rw [j2.length_eq]
      exact hz
    exact ⟨.ref p, _, I1.laid (t' := s.toks) (o := .lst (ms.map V.int)) k2 hp ⟨hl, out, n, vals_of_ints j1, hg⟩, rfl, q ms p j2 j3 (I1.hok.fresh hp)⟩
def sortAD : Dat → Option RV
  | .list ds => (ints? ds).bind fun ns => some (.nw ((isort ns).map PyData.int))
  | .tuple ds => (ints? ds).bind fun ns => some (.nw ((isort ns).map PyData.int))
  | _ => none
theorem sortAD_ok {K : Fg} : C1Snd K (rSortedA K) sortAD := by
  intro G F ps σ H x d out Q R hx hg q
  unfold sortAD at hg
  split at hg
  · rename_i ds
    exact .inl (sortD_ok (K := K) G F ps σ H x (.list ds) out Q R hx hg q)
  · obtain ⟨ns, e1, hg⟩ := Option.bind_eq_some_iff.mp hg
    cases hg
    obtain ⟨a, vs, rfl, h1, h2⟩ := bTup R.fh hx
    rw [ints_rel e1 h2] at h1
    refine .inr ⟨a, ns, rfl, h1, fun ms p hp hs hn => ?_⟩
    rw [isort_uniq hp hs]
    exact out_nw R (ints_relL (isort ns)) q p hn
  · cases hg
theorem kc_sortedA {X : Cx} {K : Fg} (hK : X.K = K) : CallR X (.builtin "sorted") (rSortedA K) := by subst hK; exact call_sortedA

/-! ### a, b, c = x, y, z : all kept -/
def par3M (i j l : Nat) (g : M (List Dat)) : SM := fun ps => (g ps).bind fun x => match x.1 with
  | [a, b, c] => some (.nx (((x.2.put i (.fr a)).put j (.fr b)).put l (.fr c)))
  | _ => none
theorem ds_par3 {X : Cx} {i j l : Nat} {x y z : Str} {a b c : Expr} {ta : TA} {g : M (List Dat)} {px py pz pt pos : Pos} {kt k2 pt2} (hc : X.calm = true) (hN : X.N.Nodup) (hi : X.N[i]? = some x) (hj : X.N[j]? = some y) (hl : X.N[l]? = some z) (hij : i ≠ j) (hil : i ≠ l) (hjl : j ≠ l)
    (hx : X.env.scope.names.lookup x = some .local) (hy : X.env.scope.names.lookup y = some .local) (hz : X.env.scope.names.lookup z = some .local) (ha : DA X [a, b, c] ta g)
    (hw : swappedStores [.Tuple [.Name x px, .Name y py, .Name z pz] kt pt] (.Tuple [a, b, c] k2 pt2) X.env = pure (some [x, y, z]))
    (hs : swapsWithSole [.Tuple [.Name x px, .Name y py, .Name z pz] kt pt] (.Tuple [a, b, c] k2 pt2) pos.line X.env = pure false := by rfl) :
    DS X (.Assign [.Tuple [.Name x px, .Name y py, .Name z pz] kt pt] (.Tuple [a, b, c] k2 pt2) pos) (tPar3 i j l ta) (par3M i j l g) := by
  refine ⟨ps_par3 hc hN hi hj hl hij hil hjl hx hy hz ha.pe hw hs, ⟨fun G F ps σ H o D R e q => ?_⟩⟩
  unfold par3M at e
  obtain ⟨⟨ds, ps1⟩, e1, e⟩ := Option.bind_eq_some_iff.mp e
  simp only at e
  split at e
  · rename_i d1 d2 d3
    cases e
    refine ha.sn.go G F ps σ H _ _ _ R e1 fun vs F1 H1 P1 r1 => ?_
    unfold RelL at r1
    obtain ⟨v1, vs1, rfl, h1, r1⟩ := r1
    unfold RelL at r1
    obtain ⟨v2, vs2, rfl, h2, r1⟩ := r1
    unfold RelL at r1
    obtain ⟨v3, vs3, rfl, h3, r1⟩ := r1
    unfold RelL at r1
    subst r1
    exact ⟨v1, v2, v3, rfl, q F1 _ H1 (((P1.rep.setFr h1).setFr h2).setFr h3) P1.same⟩
  · cases e

/-! ### sum, max, min of a row of ints, list or tuple -/
section
variable {prog : Program} {w : World} {A : Around} {E : Value → Shared → Prop} {s : Shared} {l : Addr} {xs : Array (Int × Tok)}
theorem iter_tup {Q : Value → Shared → Prop} (ht : s.heap.IsTuple l (intItems xs))
    (h : ∀ s2 : Shared, s2 = { s with heap := s.heap.push { cls := .type "tuple_iterator", data := .fields #[.ref l, .int 0 0] } } → (s2.heap.IsTupleIter s.heap.objs.size l 0 ∧ s2.heap.IsTuple l (intItems xs)) → (∀ b ∈ [s.heap.objs.size, l], b < s2.heap.objs.size) → l ≠ s.heap.objs.size → Q (.ref s.heap.objs.size) s2) :
    wpAny (model prog w) A (pyIter (.ref l)) Q E s := by
  obtain ⟨o, e, r⟩ := id ht
  have lt : l < s.heap.objs.size := Heap.lt_size e
  refine wpAny_pyIter_tuple ht (h _ rfl ⟨⟨_, Heap.get?_push_size _ rfl, rfl, rfl⟩, ⟨o, Heap.get?_push_of_some _ e, r⟩⟩ (fun b hb => ?_) (Nat.ne_of_lt lt))
  show b < (s.heap.push _).objs.size
  rw [Heap.size_push]
  simp only [List.mem_cons, List.not_mem_nil, or_false] at hb
  rcases hb with rfl | rfl
  · exact Nat.lt_succ_self _
  · exact Nat.lt_succ_of_lt lt
theorem kept_tup {h h' : Heap} {ob : Obj} (hk : ∀ b o, b ∉ [h.objs.size] → (h.push ob).get? b = some o → h'.get? b = some o) : ∀ b o, h.get? b = some o → h'.get? b = some o := fun b o e =>
  hk b o (fun z => Nat.lt_irrefl b (by have := Heap.lt_size e; rw [← List.mem_singleton.mp z] at this; exact this)) (Heap.get?_push_of_some _ e)
theorem sum_tupG {Q : Value → Shared → Prop} (hh : A.handled = none) (ht : s.heap.IsTuple l (intItems xs))
    (h : ∀ h' tk t', (∀ b o, s.heap.get? b = some o → h'.get? b = some o) → Q (.int (preSum (numAt xs) xs.size) t') { s with heap := h', toks := tk }) : wpAny (model prog w) A (call (.builtin "sum") [.ref l]) Q E s := by
  refine call_sum_walkG (iter_tup ht fun s2 e st fp ne => ?_)
  subst e
  refine ⟨_, _, _, _, _, _, numAt xs, rfl, Walks.tuple (A := A.in1) hh _ l ne (intItems xs), st, fp, (fun _ _ => intItems_at), fun h' tk t' hk => ?_⟩
  have := h h' tk t' (kept_tup hk)
  simpa [intItems] using this
theorem max_tupG {Q : Value → Shared → Prop} (hh : A.handled = none) (ht : s.heap.IsTuple l (intItems xs)) (hne : 0 < xs.size)
    (h : ∀ v h' tk, (intItems xs)[argBest (fun i j => decide (numAt xs i > numAt xs j)) (xs.size - 1)]? = some v → (∀ b o, s.heap.get? b = some o → h'.get? b = some o) → Q v { s with heap := h', toks := tk }) : wpAny (model prog w) A (call (.builtin "max") [.ref l]) Q E s := by
  refine call_max_walk (iter_tup ht fun s2 e st fp ne => ?_)
  subst e
  exact ⟨_, _, _, _, _, _, _, rfl, Walks.tuple (A := A.in1) hh _ l ne (intItems xs), st, fp, by simpa [intItems] using hne, CmpOf.ints_gt (numAt xs) (fun _ _ => intItems_at), fun v h' tk hP hk => h v h' tk (by simpa [intItems] using hP) (kept_tup hk)⟩
theorem sum_tup {its : List Value} {ns : List Int} {Q : Value → Shared → Prop} (hh : A.handled = none) (ht : s.heap.IsTuple l its.toArray) (hi : IntsAre its ns)
    (h : ∀ h' tk t', (∀ b o, s.heap.get? b = some o → h'.get? b = some o) → Q (.int ns.sum t') { s with heap := h', toks := tk }) : wpAny (model prog w) A (call (.builtin "sum") [.ref l]) Q E s := by
  obtain ⟨xs, e⟩ := hi.allInts.items
  have hn : numsOf (intItems xs).toList = ns := by rw [← e]; exact hi.numsOf
  rw [nums_intItems] at hn
  rw [e] at ht
  refine sum_tupG hh ht fun h' tk t' hk => ?_
  rw [preSum_eq, List.take_of_length_le (by simp), hn]
  exact h h' tk t' hk
end
def rSumA (K : Fg) : List V → Hp → VK → Prop := fun vs H Q => rSum K vs H Q ∨ ∃ (a : Addr) (ns : List Int), vs = [V.ref a] ∧ SqT K H a (ns.map V.int) ∧ Q (.int ns.sum) H
theorem call_sumA {X : Cx} (hc : X.calm = true) : CallR X (.builtin "sum") (rSumA X.K) := by
  intro pins s σ H vs us Q I r h
  rcases h with h | ⟨a, ns, rfl, hs, q⟩
  · exact cr_sum hc pins s σ H vs us Q I r h
  · obtain ⟨its, rv, ht, _⟩ := I.tuple hs
    rw [Vals.ref1 r]
    exact sum_tup (I.ok.hd hc) ht rv.ints fun h' tk t' hk => ⟨.int _, H, I.kept hk, ⟨_, rfl⟩, q⟩
def sumAD : Dat → Option RV
  | .list ds => (ints? ds).bind fun ns => some (.im (.int ns.sum))
  | .tuple ds => (ints? ds).bind fun ns => some (.im (.int ns.sum))
  | _ => none
theorem sumAD_ok {K : Fg} : C1Snd K (rSumA K) sumAD := by
  intro G F ps σ H x d out Q R hx hg q
  unfold sumAD at hg
  split at hg
  · rename_i ds
    exact .inl (sumD_ok (K := K) G F ps σ H x (.list ds) out Q R hx hg q)
  · obtain ⟨ns, e1, hg⟩ := Option.bind_eq_some_iff.mp hg
    cases hg
    obtain ⟨a, vs, rfl, h1, h2⟩ := bTup R.fh hx
    rw [ints_rel e1 h2] at h1
    exact .inr ⟨a, ns, rfl, h1, out_im R (by unfold Rel; rfl) q⟩
  · cases hg
theorem kc_sumA {X : Cx} {K : Fg} (hK : X.K = K) (hc : X.calm = true := by rfl) : CallR X (.builtin "sum") (rSumA K) := by subst hK; exact call_sumA hc
end MP

/-! more rules: any and all of a list of truth values, insert -/
namespace MP
open PySem PySem.Spec PyProof.Rows L2

/-! ### any, all -/
def bools? : List Dat → Option (List Bool)
  | [] => some []
  | .bool i :: ds => (bools? ds).map (i :: ·)
  | _ :: _ => none
theorem bools_rel {K : Fg} {F : Hp} {T : Addr} : ∀ {ds : List Dat} {bs : List Bool} {vs : List V}, bools? ds = some bs → RelL K F T ds vs → vs = bs.map V.bl
  | [], bs, vs, e, h => by
    cases e
    unfold RelL at h
    rw [h]
    rfl
  | d :: ds, bs, vs, e, h => by
    unfold RelL at h
    obtain ⟨y, ys, rfl, h1, h2⟩ := h
    cases d with
    | bool b =>
      obtain ⟨bs', e1, e2⟩ := Option.map_eq_some_iff.mp (show (bools? ds).map (b :: ·) = some bs from e)
      subst e2
      rw [rBl.mp h1, bools_rel e1 h2]
      rfl
    | none => cases e
    | int _ => cases e
    | str _ => cases e
    | list _ => cases e
    | tuple _ => cases e
    | dict _ => cases e
def anyD : Dat → Option RV
  | .list ds => (bools? ds).bind fun bs => some (.im (.bool (bs.any id)))
  | _ => none
def allD : Dat → Option RV
  | .list ds => (bools? ds).bind fun bs => some (.im (.bool (bs.all id)))
  | _ => none
theorem anyD_ok {K : Fg} : C1Snd K (rAny K) anyD := by
  intro G F ps σ H x d out Q R hx hg q
  unfold anyD at hg
  split at hg
  · obtain ⟨bs, e1, hg⟩ := Option.bind_eq_some_iff.mp hg
    cases hg
    obtain ⟨a, vs, rfl, h1, h2⟩ := bLst hx
    rw [bools_rel e1 h2] at h1
    exact ⟨a, bs, rfl, SqL.of h1, out_im R (by unfold Rel; rfl) q⟩
  · cases hg
theorem allD_ok {K : Fg} : C1Snd K (rAll K) allD := by
  intro G F ps σ H x d out Q R hx hg q
  unfold allD at hg
  split at hg
  · obtain ⟨bs, e1, hg⟩ := Option.bind_eq_some_iff.mp hg
    cases hg
    obtain ⟨a, vs, rfl, h1, h2⟩ := bLst hx
    rw [bools_rel e1 h2] at h1
    exact ⟨a, bs, rfl, SqL.of h1, out_im R (by unfold Rel; rfl) q⟩
  · cases hg
theorem kc_any {X : Cx} {K : Fg} (hK : X.K = K) (hc : X.calm = true := by rfl) : CallR X (.builtin "any") (rAny K) := by subst hK; exact cr_any hc
theorem kc_all {X : Cx} {K : Fg} (hK : X.K = K) (hc : X.calm = true := by rfl) : CallR X (.builtin "all") (rAll K) := by subst hK; exact cr_all hc

/-! ### l.insert(i, x) -/
def insM (j : Nat) (g : M (List Dat)) : SM := fun ps => match ps.sl[j]? with
  | some (.ow _) => (g ps).bind fun x => match x.1, x.2.sl[j]? with
    | [.int i, d], some (.ow ds) => if decide (0 ≤ i) && b62 i && decide (ds.length < sizeLine) then some (.nx (x.2.put j (.ow (ds.take i.toNat ++ [d] ++ ds.drop i.toNat)))) else none
    | _, _ => none
  | _ => none
def rInsert : V → List V → Hp → VK → Prop := fun x vs H Q => ∃ (l : Addr) (xs : List V) (i : Int) (y : V), x = .ref l ∧ vs = [.int i, y] ∧ H l = some (.lst xs) ∧ xs.length < sizeLine ∧ 0 ≤ i ∧ i < 2 ^ 63 ∧ Q .non (upd H l (.lst (xs.take i.toNat ++ [y] ++ xs.drop i.toNat)))
theorem snd_ins {K : Fg} {j : Nat} {t : TA} {g : M (List Dat)} (he : SndA K t g) : SndS K (tDrop (tBM K "list" rInsert (tVar j) t)) (insM j g) := by
  refine ⟨fun G F ps σ H o D R e q => ?_⟩
  unfold insM at e
  split at e
  · rename_i ds0 ed0
    obtain ⟨⟨ds', ps1⟩, e1, e⟩ := Option.bind_eq_some_iff.mp e
    simp only at e
    split at e
    · rename_i i d ds ed
      split at e
      · rename_i hl
        cases e
        simp only [Bool.and_eq_true, decide_eq_true_eq] at hl
        obtain ⟨o1, e4, p, vs0, rfl, hp, _⟩ := R.slots j _ ed0
        refine ⟨.ref p, e4, .inl ⟨rfl, _, SqL.of hp⟩, he.go G F ps σ H _ _ _ R e1 fun ws F1 H1 P1 r1 => ?_⟩
        unfold RelL at r1
        obtain ⟨v1, ws1, rfl, r1a, r1⟩ := r1
        unfold RelL at r1
        obtain ⟨v2, ws2, rfl, r1b, r1⟩ := r1
        unfold RelL at r1
        subst r1
        obtain ⟨o2, e5, p', vs, eo, h1, h2, h3, h4⟩ := P1.rep.slots j _ ed
        rw [e4] at e5
        cases e5
        cases eo
        have P3 := P1.rep.wr ed e4 (((h4.take i.toNat).append (.cons r1b .nil)).append (h4.drop i.toNat))
        exact ⟨p, vs, i, v2, rfl, by rw [rInt.mp r1a], h1, by rw [h4.len]; exact hl.2, hl.1.1, (b62_63 hl.1.2).2, q F1 σ _ P3.rep P1.same⟩
      · cases e
    · cases e
  · cases e
section
variable {X : Cx} {e1 e2 : Expr} {t : TA} {g : M (List Dat)}
theorem ds_ins {j : Nat} {x : Str} {px apos cpos pos : Pos} (hN : X.N[j]? = some x) (hv : Vis X.env.scope x) (he : DA X [e1, e2] t g)
    (hbase : attributeBase (.Name x px) "insert" X.env (eval (.Name x px) X.env) = eval (.Name x px) X.env := by rfl)
    (hfew : ((backTo cpos (starEach [e1, e2] X.env)).all (fun z => !z.1) && (backToKw cpos (keywordEach [] X.env)).all (fun z => z.1.isSome) && decide ([e1, e2].length + ([] : List Keyword).length + (if ([] : List Keyword).isEmpty then 0 else 1) < 30)) = true := by rfl)
    (hline : (apos.endLine == cpos.line) = true := by rfl) (h1 : starEach [e1, e2] X.env = (false, eval e1 X.env) :: starEach [e2] X.env := by rfl) (hplain : (backTo cpos (starEach [e2] X.env)).any (·.1) = false := by rfl)
    (hs : swapsWith (.Call (.Attribute (.Name x px) "insert" apos) [e1, e2] [] cpos) none pos.line X.env = pure false := by rfl)
    (hd : (x == ("__debug__" : Str)) = false := by decide) (hcd : (x == ("__classdict__" : Str)) = false := by decide) :
    DS X (.Expr (.Call (.Attribute (.Name x px) "insert" apos) [e1, e2] [] cpos) pos) (tDrop (tBM X.K "list" rInsert (tVar j) t)) (insM j g) :=
  ⟨ps_expr (pe_bm PySem.F.plainAttrs_list PySem.F.slot_list_insert PySem.F.type_list_insert mt_insert (pe_var hN hv hd hcd) he.pe hbase hfew hline h1 hplain) hs, snd_ins he.sn⟩
end

/-! ### for x in reversed(row) -/
theorem rev_get {α : Type} {ds : List α} {i : Nat} {d : α} (h : ds.reverse[i]? = some d) : i < ds.length ∧ ds[ds.length - 1 - i]? = some d := by
  have hi : i < ds.length := by
    rcases Nat.lt_or_ge i ds.length with z | z
    · exact z
    · rw [List.getElem?_eq_none (by rw [List.length_reverse]; exact z)] at h
      cases h
  rw [List.getElem?_reverse hi] at h
  exact ⟨hi, h⟩
theorem wlk_rl {G : Ctl} {K : Fg} {a : Addr} {ds : List Dat} {xs : List V} {F' : Hp} (h1 : F' a = some (.lst xs)) (h2 : RelL K F' G.T ds xs) : Wlk G K (Itv K a xs.length) ds.reverse F' := by
  refine ⟨fun i d e F2 ps σ H2 R s => ?_, fun F2 ps σ H2 R s => ?_⟩
  · obtain ⟨hi, e⟩ := rev_get e
    rw [← h2.len] at hi e
    obtain ⟨v, e1, r⟩ := h2.get e
    have hl : SqL K H2 a xs := SqL.of (R.fh _ _ (s _ _ h1))
    refine ⟨⟨hi, xs, v, hl, e1⟩, fun x H3 y => ?_⟩
    obtain ⟨rfl, y⟩ := y
    have e2 := y xs hl
    rw [e1] at e2
    cases e2
    exact ⟨F2, .refl R, Rel.mono s _ _ r⟩
  · show xs.length ≤ ds.reverse.length
    rw [List.length_reverse, h2.len]
    exact Nat.le_refl _
theorem wlk_rt {G : Ctl} {K : Fg} {a : Addr} {ds : List Dat} {xs : List V} {F' : Hp} (h1 : SqT K F' a xs) (h2 : RelL K F' G.T ds xs) : Wlk G K (RT.ItvT K a xs.length) ds.reverse F' := by
  refine ⟨fun i d e F2 ps σ H2 R s => ?_, fun F2 ps σ H2 R s => ?_⟩
  · obtain ⟨hi, e⟩ := rev_get e
    rw [← h2.len] at hi e
    obtain ⟨v, e1, r⟩ := h2.get e
    have hl : SqT K H2 a xs := seqT (s.trans R.fh) h1
    refine ⟨⟨hi, xs, v, hl, e1⟩, fun x H3 y => ?_⟩
    obtain ⟨rfl, y⟩ := y
    have e2 := y xs hl
    rw [e1] at e2
    cases e2
    exact ⟨F2, .refl R, Rel.mono s _ _ r⟩
  · show xs.length ≤ ds.reverse.length
    rw [List.length_reverse, h2.len]
    exact Nat.le_refl _
def revIt (fe : M RV) : M (List Dat) := fun ps => (keepM fe ps).bind fun x => (items? x.1).bind fun ds => some (ds.reverse, x.2)
theorem k_rev {X : Cx} {K : Fg} {tg e : Expr} {te : TE} {fe : M RV} {p pos : Pos} (hK : X.K = K) (hg : Gl X "reversed") (hm : X.mg "reversed" = none) (h : DE X e te fe) (hs : starEach [e] X.env = (false, eval e X.env) :: starEach [] X.env := by rfl) :
    DI X tg (.Call (.Name "reversed" p) [e] [] pos) (RT.iRevA K te) (revIt fe) := by
  subst hK
  refine ⟨RT.pi_revA hg hm h.pe hs, ⟨fun G F ps σ H ds ps' R Rp e q => ?_⟩⟩
  unfold revIt at e
  obtain ⟨⟨d, ps1⟩, e1, e⟩ := Option.bind_eq_some_iff.mp e
  obtain ⟨ds', e2, e⟩ := Option.bind_eq_some_iff.mp e
  cases e
  refine keepM_go h.sn Rp e1 fun v F1 H1 P1 r1 => ?_
  rcases items_ok e2 with e2 | e2
  · have e2 : d = .list _ := e2
    subst e2
    obtain ⟨a, xs, rfl, h1, h2⟩ := rLst.mp r1
    exact ⟨a, xs, rfl, .inl ⟨SqL.of (P1.rep.fh _ _ h1), q _ F1 H1 P1 (wlk_rl h1 h2)⟩⟩
  · have e2 : d = .tuple _ := e2
    subst e2
    obtain ⟨a, xs, rfl, h1, h2⟩ := rTupE r1
    exact ⟨a, xs, rfl, .inr ⟨seqT P1.rep.fh h1, q _ F1 H1 P1 (wlk_rt h1 h2)⟩⟩

/-! ### l.index(x) of data in a list -/
def idxDD : Dat → Dat → Option RV
  | .list ds, d => if SeqAt.shaped (.list ds) && SeqAt.shaped d then (ds.findIdx? fun z => PyData.eqv z d).bind fun j => some (.im (.int (j : Nat))) else none
  | _, _ => none
def isLst : Dat → Bool
  | .list _ => true
  | _ => false
def idxDM (fa fb : M RV) : M RV := fun ps => (fa ps).bind fun x => (brw (settle x.1) x.2).bind fun d0 => if isLst d0 then (fb x.2).bind fun y => (brw (settle x.1) y.2).bind fun d => (brw y.1 y.2).bind fun e => (idxDD d e).bind fun r => some (r, y.2) else none
theorem idxDD_ok {K : Fg} {G : Ctl} {F : Hp} {ps : PS} {σ : L2.St} {H : Hp} {x y : V} {d e : Dat} {out : RV} {Q : VK} (R : Rep G K F ps σ H) (hx : BRel K F H G.T d x) (hy : BRel K F H G.T e y) (hg : idxDD d e = some out)
    (q : ∀ v F' H', Post G K F ps σ H F' ps H' → RVok G K F' ps σ H H' out v → Q v H') : rIndexD K x [y] H Q := by
  unfold idxDD at hg
  split at hg
  · rename_i ds
    split at hg
    · rename_i hs
      obtain ⟨j, ej, hg⟩ := Option.bind_eq_some_iff.mp hg
      cases hg
      simp only [Bool.and_eq_true] at hs
      have D := BRel.dp R.fh hs.1 hx
      have E := BRel.dp R.fh hs.2 hy
      obtain ⟨a, vs, rfl, _⟩ := bLst hx
      obtain ⟨hj, h1, h2⟩ := List.findIdx?_eq_some_iff_getElem.mp ej
      exact ⟨a, y, e, ds, j, ds[j], rfl, rfl, D, E, hs.1, hs.2, List.getElem?_eq_getElem hj, h1, fun m z hm hz => by
        have hmj : m < ds.length := by omega
        rw [List.getElem?_eq_getElem hmj] at hz
        rw [← Option.some.inj hz]
        simpa using h2 m hm, out_im R (by unfold Rel; rfl) q⟩
    · cases hg
  · cases hg
section
variable {X : Cx} {K : Fg} {o e : Expr} {to te : TE} {fo fe : M RV} {apos cpos : Pos}
theorem snd_idxD (ho : SndE K to fo) (he : SndE K te fe) : SndE K (tBM K "list" (rIndexD K) to (tCons te tNil)) (idxDM fo fe) := by
  refine ⟨fun G F ps σ H out ps' Q R e q => ?_⟩
  unfold idxDM at e
  obtain ⟨⟨ra, ps1⟩, e1, e⟩ := Option.bind_eq_some_iff.mp e
  obtain ⟨d0, e0, e⟩ := Option.bind_eq_some_iff.mp e
  split at e
  · rename_i hl
    obtain ⟨⟨rb, ps2⟩, e2, e⟩ := Option.bind_eq_some_iff.mp e
    obtain ⟨d, e3, e⟩ := Option.bind_eq_some_iff.mp e
    obtain ⟨d', e4, e⟩ := Option.bind_eq_some_iff.mp e
    obtain ⟨out', e5, e⟩ := Option.bind_eq_some_iff.mp e
    cases e
    refine ho.go G F ps σ H ra ps1 _ R e1 fun x F1 H1 P1 r1 => ?_
    obtain ⟨F1', P1', r1'⟩ := settle_ok P1 r1
    have b0 := brw_ok P1'.rep r1' e0
    cases d0 with
    | list ds0 =>
      obtain ⟨a, xs, rfl, h1, _⟩ := bLst b0
      refine ⟨.inl ⟨rfl, xs, SqL.of h1⟩, he.go G F1' ps1 σ H1 rb ps2 _ P1'.rep e2 fun y F2 H2 P2 r2 => ?_⟩
      refine idxDD_ok P2.rep (brw_ok P2.rep (r1'.post P2) e3) (brw_ok P2.rep r2 e4) e5 fun v F' H' P3 r3 => ?_
      exact q v F' H' ((P1'.trans P2).trans P3) (r3.back (P1'.trans P2).dom)
    | none => cases hl
    | bool _ => cases hl
    | int _ => cases hl
    | str _ => cases hl
    | tuple _ => cases hl
    | dict _ => cases hl
  · cases e
theorem k_indexD (hK : X.K = K) (hu : X.A.units + 65 < cLine) (ho : DE X o to fo) (he : DE X e te fe) (hbase : attributeBase o "index" X.env (eval o X.env) = eval o X.env := by rfl)
    (hfew : ((backTo cpos (starEach [e] X.env)).all (fun z => !z.1) && (backToKw cpos (keywordEach [] X.env)).all (fun z => z.1.isSome) && decide ([e].length + ([] : List Keyword).length + (if ([] : List Keyword).isEmpty then 0 else 1) < 30)) = true := by rfl)
    (hline : (apos.endLine == cpos.line) = true := by rfl) (hs : starEach [e] X.env = (false, eval e X.env) :: starEach [] X.env := by rfl) (hplain : (backTo cpos (starEach [] X.env)).any (·.1) = false := by rfl) :
    DE X (.Call (.Attribute o "index" apos) [e] [] cpos) (tBM K "list" (rIndexD K) to (tCons te tNil)) (idxDM fo fe) := by
  subst hK
  exact ⟨pe_bm PySem.F.plainAttrs_list PySem.F.slot_list_index PySem.F.type_list_index (mt_indexD hu) ho.pe (pa_cons he.pe pa_nil hs) hbase hfew hline hs hplain, snd_idxD ho.sn he.sn⟩
end

/-! ### isinstance(x, (A, B)) -/
def isi2D (T1 T2 : Ty6) (d : Dat) : Option RV := (tyD d).bind fun t => some (.im (.bool (isTy t T1 || isTy t T2)))
section
variable {X : Cx} {K : Fg} {a : Expr} {ta : TE} {fa : M RV} {p p1 p2 pt pos : Pos} {kk : Nat} {T1 T2 : Ty6} {x y : Str}
theorem k_isi2 (hK : X.K = K) (h1 : T1 ≠ .none) (h2 : T2 ≠ .none) (hgl : Gl X "isinstance") (hm : X.mg "isinstance" = none) (hg1 : Gl X x) (hm1 : X.mg x = none) (hv1 : bootBuiltins x = some (.type T1.nm)) (hg2 : Gl X y) (hm2 : X.mg y = none) (hv2 : bootBuiltins y = some (.type T2.nm)) (ha : DE X a ta fa)
    (hn1 : x ≠ "__name__" := by decide) (hd1 : (x == ("__debug__" : Str)) = false := by decide) (hn2 : y ≠ "__name__" := by decide) (hd2 : (y == ("__debug__" : Str)) = false := by decide)
    (he : starEach [a, .Tuple [.Name x p1, .Name y p2] kk pt] X.env = (false, eval a X.env) :: starEach [.Tuple [.Name x p1, .Name y p2] kk pt] X.env := by rfl)
    (he2 : starEach [.Tuple [.Name x p1, .Name y p2] kk pt] X.env = (false, eval (.Tuple [.Name x p1, .Name y p2] kk pt) X.env) :: starEach [] X.env := by rfl)
    (he3 : starEach [.Name x p1, .Name y p2] X.env = (false, eval (.Name x p1) X.env) :: starEach [.Name y p2] X.env := by rfl) (he4 : starEach [.Name y p2] X.env = (false, eval (.Name y p2) X.env) :: starEach [] X.env := by rfl)
    (hp : (backTo pos (starEach [.Tuple [.Name x p1, .Name y p2] kk pt] X.env)).any (·.1) = false := by rfl) :
    DE X (.Call (.Name "isinstance" p) [a, .Tuple [.Name x p1, .Name y p2] kk pt] [] pos) (tCB (rIsiT K) (tCons ta (tCons (tTup (tCons (tC (.ty T1.nm)) (tCons (tC (.ty T2.nm)) tNil))) tNil))) (unM (isi2D T1 T2) fa) := by
  subst hK
  refine ⟨pe_callB call_isiT hgl hm (by decide +kernel) (pa_cons ha.pe (pa_cons (pe_tup (pa_cons (pe_bltn (v := .ty T1.nm) hg1 hm1 hv1 rfl hn1 hd1) (pa_cons (pe_bltn (v := .ty T2.nm) hg2 hm2 hv2 rfl hn2 hd2) pa_nil he4) he3)) pa_nil he2) he) (by decide) (by decide) he hp, ⟨fun G F ps σ H out ps' Q R e q => ?_⟩⟩
  unfold unM at e
  obtain ⟨⟨ra, ps1⟩, e1, e⟩ := Option.bind_eq_some_iff.mp e
  obtain ⟨d, e3, e⟩ := Option.bind_eq_some_iff.mp e
  obtain ⟨out', e5, e⟩ := Option.bind_eq_some_iff.mp e
  cases e
  refine ha.sn.go G F ps σ H ra ps1 _ R e1 fun v F1 H1 P1 r1 => ?_
  refine ⟨by show 2 ≤ sizeLine; decide, fun tp hn => ?_⟩
  have b := (brw_ok P1.rep r1 e3).rel P1.rep.fh
  unfold isi2D at e5
  obtain ⟨t, e6, e5⟩ := Option.bind_eq_some_iff.mp e5
  cases e5
  have P3 := P1.rep.newF (o := .tup [.ty T1.nm, .ty T2.nm]) hn
  have k2 : PySem.W.kitAny X.K (.type t.nm) [.type T2.nm] = some (isTy t T2) := kitAny_cons (kit_ty (kit_all t T2 h2)) (fun z => by rw [z]; exact kitAny_nil) (fun z => z)
  have k1 : PySem.W.kitAny X.K (.type t.nm) [.type T1.nm, .type T2.nm] = some (isTy t T1 || isTy t T2) := kitAny_cons (kit_ty (kit_all t T1 h1)) (fun z => by rw [z, Bool.false_or]; exact k2) (fun z => by rw [z, Bool.true_or])
  have b2 : Rel X.K (upd H1 tp (.tup [.ty T1.nm, .ty T2.nm])) G.T d v := Rel.mono (same_upd hn) _ _ b
  exact ⟨v, tp, _, _, [.type T1.nm, .type T2.nm], _, rfl, upd_same, .cons (.ty _) (.cons (.ty _) .nil), tyX_of b2 e6, k1, q _ _ _ (P1.trans P3) (show Rel _ _ _ _ _ by unfold Rel; rfl)⟩
end
end MP

/-! ### row[::-1], list or tuple -/
namespace MP
open PySem PySem.Spec PyProof.Rows L2 HT
theorem fm_congr {α β : Type} {f g : α → Option β} : ∀ {l : List α}, (∀ x ∈ l, f x = g x) → l.filterMap f = l.filterMap g
  | [], _ => rfl
  | x :: l, h => by
    rw [List.filterMap_cons, List.filterMap_cons, h x (List.mem_cons_self ..), fm_congr fun y hy => h y (List.mem_cons_of_mem _ hy)]
section
variable {prog : Program} {w : World} {A : Around} {E : Value → Shared → Prop} {s : Shared}
theorem applied_rev {sl : Addr} {vl vu vs : Value} {n : Nat} {Q : Int × Int × Nat → Shared → Prop} (hs : s.heap.IsSliceOf sl vl vu vs) (pl : IsPart vl none) (pu : IsPart vu none) (ps : IsPart vs (some (-1)))
    (h : Q ((n : Int) - 1, -1, n) s) : wpAny (model prog w) A (Builtin.Slice.sliceApplied (.ref sl) (pure (n : Int))) Q E s := by
  obtain ⟨os, hos, hcs, hds⟩ := id hs
  unfold Builtin.Slice.sliceApplied Builtin.Slice.sliceFields
  refine wpAny_bind (wpAny_bind (wpAny_field hos hds (x := vl) rfl (wpAny_bind (wpAny_field hos hds (x := vu) rfl (wpAny_bind (wpAny_field hos hds (x := vs) rfl (wpAny_pure ?_)))))))
  refine wpAny_bind (slicePart_ ps ?_)
  show wpAny _ _ (if ((-1 : Int) == 0) = true then _ else _) _ _ s
  rw [if_neg (by decide)]
  refine wpAny_bind (slicePart_ pl (wpAny_bind (slicePart_ pu (wpAny_bind (wpAny_pure ?_)))))
  have e1 : Builtin.Slice.sliceAdjust none none ((some (-1 : Int)).getD 1) (n : Int) = ((n : Int) - 1, -1) := by
    unfold Builtin.Slice.sliceAdjust
    simp
  have e2 : Builtin.Slice.slicePlaces ((n : Int) - 1) (-1) (-1) = n := by
    unfold Builtin.Slice.slicePlaces
    by_cases h0 : n = 0
    · subst h0
      decide
    · have : (n : Int) - 1 > -1 := by omega
      simp
      omega
  rw [e1]
  show wpAny _ _ (pure ((n : Int) - 1, (-1 : Int), Builtin.Slice.slicePlaces ((n : Int) - 1) (-1) (-1))) _ _ s
  rw [e2]
  exact wpAny_pure h
theorem getItem_tuple_rev {t sl : Addr} {items : Array Value} {vl vu vs : Value} {Q : Value → Shared → Prop} (ht : IsTup s.heap t items) (hs : s.heap.IsSliceOf sl vl vu vs) (pl : IsPart vl none) (pu : IsPart vu none) (ps : IsPart vs (some (-1)))
    (h : Q (.ref s.heap.objs.size) { s with heap := s.heap.push { cls := .type "tuple", data := .seq items.toList.reverse.toArray } }) (hz : items.size ≤ sizeLine) : wpAny (model prog w) A (getItem (.ref t) (.ref sl)) Q E s := by
  have fits : sizeOk (.seq items.toList.reverse.toArray) := by
    show items.toList.reverse.toArray.size ≤ sizeLine
    rw [List.size_toArray, List.length_reverse, Array.length_toList]
    exact hz
  obtain ⟨os, hos, hcs, hds⟩ := id hs
  have kind : s.TypeIs (.ref sl) "slice" := ⟨os, hos, hcs⟩
  unfold getItem
  try with_reducible refine wpAny_holding ?_
  first | refine wpAny_bind (wpAny_pure ?_) | skip
  refine wpAny_bind (wpAny_sequenceKey ht.typeIs (by decide) ?_)
  refine wpAny_bind (wpAny_callSpecial?_slot (name := Str.ofString "__getitem__") ht.typeIs PyProof.Rows.slot_tuple_getitem (wpAny_call_entry PyProof.Rows.slot_tuple_getitem ht.typeIs entry_tuple_getitem ?_ (args_tuple_getitem _ _)))
  refine wpAny_bind (m := Builtin.Tuple.tupleItemsOf (.ref t)) (tupleItemsOf_ ht (wpAny_bind (wpAny_typeOf kind ?_)))
  rw [if_pos (by decide)]
  refine wpAny_bind (applied_rev hs pl pu ps ?_)
  have no : ¬ ((((items.size : Nat) : Int) - 1 == 0 && (-1 : Int) == 1 && items.size == items.size) = true) := by
    intro q
    rw [Bool.and_eq_true, Bool.and_eq_true] at q
    exact absurd (eq_of_beq q.1.2) (by decide)
  show wpAny _ _ (if (((items.size : Nat) : Int) - 1 == 0 && (-1 : Int) == 1 && items.size == items.size) = true then _ else _) _ _ s
  rw [if_neg no]
  have pk : ((List.range items.size).filterMap fun (m : Nat) => items[(((items.size : Nat) : Int) - 1 + (m : Int) * (-1)).toNat]?).toArray = items.toList.reverse.toArray := by
    have e : (List.range items.size).filterMap (fun (m : Nat) => items[(((items.size : Nat) : Int) - 1 + (m : Int) * (-1)).toNat]?) = ((List.range items.size).map fun k => items.size - 1 - k).filterMap (items[·]?) := by
      rw [List.filterMap_map]
      refine fm_congr fun m hm => ?_
      have := List.mem_range.mp hm
      show items[_]? = items[items.size - 1 - m]?
      congr 1
      omega
    rw [e, PySem.W.krv_range, List.filterMap_reverse, PySem.W.krv_all]
  rw [pk]
  first
    | exact wpAny_bind (m := Builtin.Tuple.tupleExact _) (wpAny_newObj_type (wpAny_pure ⟨_, rfl, wpAny_pure h⟩) fits)
    | exact wpAny_bind (m := Builtin.Tuple.tupleExact _) (wpAny_newObj_type (wpAny_bind (wpAny_pure (wpAny_pure ⟨_, rfl, wpAny_pure h⟩))) fits)
    | exact wpAny_bind (wpAny_bind (m := Builtin.Tuple.tupleExact _) (wpAny_newObj_type (wpAny_pure (wpAny_pure ⟨_, rfl, wpAny_pure h⟩)) fits))
    | exact wpAny_bind (wpAny_bind (m := Builtin.Tuple.tupleExact _) (wpAny_newObj_type (wpAny_pure ⟨_, rfl, wpAny_pure h⟩) fits))
end

def tRevA (K : Fg) (te : TE) : TE := fun σ H Q => te σ H fun x H1 => ∃ (a : Addr) (xs : List V), x = .ref a ∧ ((SqL K H1 a xs ∧ ∀ p, H1 p = none → Q (.ref p) (upd H1 p (.lst xs.reverse))) ∨ (SqT K H1 a xs ∧ NewT H1 xs.reverse Q))
theorem pe_revA {X : Cx} {te : TE} {e : Expr} {k : Nat} {p1 p2 p3 pos : Pos} (he : PE X e te) : PE X (.Subscript e (.Slice none none (some (.UnaryOp .USub (.Constant (.int 1) k p1) p2)) p3) pos) (tRevA X.K te) := by
  constructor
  intro pins s σ H Q I h
  refine Subscript_ (thn (he.run pins s σ H _ I h) fun v s1 hv => ?_)
  obtain ⟨x, H1, I1, r1, a, xs, rfl, q⟩ := hv
  obtain rfl : v = .ref a := r1
  have minus : PO X (some (.UnaryOp .USub (.Constant (.int 1) k p1) p2)) (tPart (tUn (rU fun i => .int (-i)) (tC (.int 1)))) := po_some (pe_un un_neg pe_int)
  refine wpAny_Slice (thn (po_none.run pins s1 σ H1 (fun o Hn => o = none ∧ Hn = H1) I1 ⟨rfl, rfl⟩) fun vl s2 hl => ?_)
  obtain ⟨l, H2, I2, pl, rfl, rfl⟩ := hl
  refine thn (po_none.run pins s2 σ H2 (fun o Hn => o = none ∧ Hn = H2) I2 ⟨rfl, rfl⟩) fun vu s3 hu => ?_
  obtain ⟨u, H3, I3, pu, rfl, rfl⟩ := hu
  refine thn (minus.run pins s3 σ H3 (fun o Hn => o = some (-1) ∧ Hn = H3) I3 ⟨1, rfl, -1, rfl, rfl, rfl⟩) fun vs s4 hs => ?_
  obtain ⟨o, H4, I4, ps, rfl, rfl⟩ := hs
  have I5 : Inv X pins σ H4 { s4 with heap := s4.heap.push { cls := .type "slice", data := .fields #[vl, vu, vs] } } := I4.kept (t' := s4.toks) fun b ob z => Heap.get?_push_of_some _ z
  show wpAny (model X.prog X.w) X.A (subscriptTail e (.Slice none none (some (.UnaryOp .USub (.Constant (.int 1) k p1) p2)) p3) (.ref a) (.ref s4.heap.objs.size)) (EP X pins σ Q) X.xe _
  rcases q with ⟨hx, q⟩ | ⟨hx, q⟩
  · obtain ⟨its, r, ht, hz⟩ := I5.list hx
    have len := r.length
    refine tail_any (ops := [.ref a, .ref s4.heap.objs.size]) ht.isList.typeIs (PySem.slot_list_getitem.lookup) (wpAny_getItem_list_slice ht.isList (Heap.IsSliceOf.new _ vl vu vs) pl pu ps (by decide) ?_ (by rw [List.size_toArray]; omega)) (by with_unfolding_all rfl)
    rw [PySem.W.krv_pick]
    refine ⟨V.ref _, _, I5.laid (t' := s4.toks) (o := .lst xs.reverse) (fun b ob z => Heap.get?_push_of_some _ z) (Nat.le_refl _) ⟨by rw [List.length_reverse]; exact hz, _, 0, r.reverse, Heap.get?_push_size _ rfl⟩, rfl, q _ (I5.hok.fresh (Nat.le_refl _))⟩
  · obtain ⟨its, r, ht, hz⟩ := I5.tuple hx
    refine tail_any (ops := [.ref a, .ref s4.heap.objs.size]) ht.typeIs (PyProof.Rows.slot_tuple_getitem.lookup) (getItem_tuple_rev ht (Heap.IsSliceOf.new _ vl vu vs) pl pu ps ?_ (by rw [List.size_toArray, ← r.length]; exact hz)) (by with_unfolding_all rfl)
    exact q.put I5 r.reverse (by rw [List.length_reverse]; exact hz)
def revAD : Dat → Option RV
  | .list ds => some (.nw ds.reverse)
  | .tuple ds => some (.im (.tuple ds.reverse))
  | _ => none
theorem k_revA {X : Cx} {K : Fg} {te : TE} {fe : M RV} {e : Expr} {k : Nat} {p1 p2 p3 pos : Pos} (hK : X.K = K) (he : DE X e te fe) : DE X (.Subscript e (.Slice none none (some (.UnaryOp .USub (.Constant (.int 1) k p1) p2)) p3) pos) (tRevA K te) (unM revAD fe) := by
  subst hK
  refine ⟨pe_revA he.pe, ⟨fun G F ps σ H out ps' Q R e q => ?_⟩⟩
  unfold unM at e
  obtain ⟨⟨ra, ps1⟩, e1, e⟩ := Option.bind_eq_some_iff.mp e
  obtain ⟨d, e3, e⟩ := Option.bind_eq_some_iff.mp e
  obtain ⟨out', e5, e⟩ := Option.bind_eq_some_iff.mp e
  cases e
  refine he.sn.go G F ps σ H ra ps1 _ R e1 fun x F1 H1 P1 r1 => ?_
  have b := brw_ok P1.rep r1 e3
  unfold revAD at e5
  split at e5
  · cases e5
    obtain ⟨a, xs, rfl, h1, h2⟩ := bLst b
    exact ⟨a, xs, rfl, .inl ⟨SqL.of h1, out_nw P1.rep h2.reverse fun v F' H' P3 r3 => q v F' H' (P1.trans P3) (r3.back P1.dom)⟩⟩
  · cases e5
    obtain ⟨a, xs, rfl, h1, h2⟩ := bTup P1.rep.fh b
    exact ⟨a, xs, rfl, .inr ⟨h1, out_tp P1.rep h2.reverse fun v F' H' P3 r3 => q v F' H' (P1.trans P3) (r3.back P1.dom)⟩⟩
  · cases e5
end MP

/-! the denotations worked out: rules for plain Lean, no heap in sight -/
namespace MP
open PySem PySem.Spec PyProof.Rows L2

section
variable {ps : PS} {f g : SM} {fe fa fb : M RV} {ga : M (List Dat)} {i j : Nat} {sl : List Sl} {dr : Dr}
@[simp] theorem e_seq : seqM f g ps = (f ps).bind fun o => match o with | .nx ps' => g ps' | o => some o := rfl
@[simp] theorem e_set : setM i fe ps = (fe ps).bind fun x => (setV i x.1 x.2).bind fun ps' => some (.nx ps') := rfl
@[simp] theorem e_kst {d : Dat} : kst d ps = some (.im d, ps) := rfl
@[simp] theorem e_rd : rdV i ⟨sl, dr⟩ = match sl[i]? with | some (.fr d) => some (.im d, ⟨sl, dr⟩) | some (.ow _) => some (.sl i, ⟨sl, dr⟩) | _ => none := rfl
@[simp] theorem e_op {g : Dat → Dat → Option RV} : opM g fa fb ps = (fa ps).bind fun x => (fb x.2).bind fun y => (brw (settle x.1) y.2).bind fun d => (brw y.1 y.2).bind fun e => (g d e).bind fun r => some (r, y.2) := rfl
@[simp] theorem e_un {g : Dat → Option RV} : unM g fa ps = (fa ps).bind fun x => (brw x.1 x.2).bind fun d => (g d).bind fun r => some (r, x.2) := rfl
@[simp] theorem e_bim {d : Dat} : brw (.im d) ps = some d := rfl
@[simp] theorem e_bnw {ds : List Dat} : brw (.nw ds) ps = some (.list ds) := rfl
@[simp] theorem e_bsl : brw (.sl i) ⟨sl, dr⟩ = match sl[i]? with | some (.fr d) => some d | some (.ow ds) => some (.list ds) | _ => none := rfl
@[simp] theorem e_sim {d : Dat} : settle (.im d) = .im d := rfl
@[simp] theorem e_snw {ds : List Dat} : settle (.nw ds) = .im (.list ds) := rfl
@[simp] theorem e_ssl : settle (.sl i) = .sl i := rfl
@[simp] theorem e_kim {d : Dat} : keepV (.im d) ps = some (d, ps) := rfl
@[simp] theorem e_knw {ds : List Dat} : keepV (.nw ds) ps = some (.list ds, ps) := rfl
@[simp] theorem e_ksl : keepV (.sl i) ⟨sl, dr⟩ = match sl[i]? with | some (.fr d) => some (d, ⟨sl, dr⟩) | some (.ow ds) => some (.list ds, ⟨sl.set i (.fr (.list ds)), dr⟩) | _ => none := rfl
@[simp] theorem e_keep : keepM fe ps = (fe ps).bind fun x => keepV x.1 x.2 := rfl
@[simp] theorem e_cons : consM fe ga ps = (keepM fe ps).bind fun x => (ga x.2).bind fun y => some (x.1 :: y.1, y.2) := rfl
@[simp] theorem e_nil : (M.ret [] : M (List Dat)) ps = some ([], ps) := rfl
@[simp] theorem e_retb {b : Bool} : (M.ret b : M Bool) ps = some (b, ps) := rfl
@[simp] theorem e_retn : (M.ret none : M (Option Int)) ps = some (none, ps) := rfl
@[simp] theorem e_tup : tupM ga ps = (ga ps).bind fun x => if line x.1.length then some (.im (.tuple x.1), x.2) else none := rfl
@[simp] theorem e_lst : lstM ga ps = (ga ps).bind fun x => if line x.1.length then some (.nw x.1, x.2) else none := rfl
@[simp] theorem e_cn {g : List Dat → Option RV} {f : M (List Dat)} : cnM g f ps = (f ps).bind fun x => (g x.1).bind fun r => some (r, x.2) := rfl
@[simp] theorem e_svi {d : Dat} : setV i (.im d) ⟨sl, dr⟩ = some ⟨sl.set i (.fr d), dr⟩ := rfl
@[simp] theorem e_svn {ds : List Dat} : setV i (.nw ds) ⟨sl, dr⟩ = some ⟨sl.set i (.ow ds), dr⟩ := rfl
@[simp] theorem e_svs : setV i (.sl j) ⟨sl, dr⟩ = (keepV (.sl j) ⟨sl, dr⟩).bind fun x => some (x.2.put i (.fr x.1)) := rfl
@[simp] theorem e_put {s : Sl} : PS.put ⟨sl, dr⟩ i s = ⟨sl.set i s, dr⟩ := rfl
@[simp] theorem e_nm {d : Dat} : nmT i d ⟨sl, dr⟩ = some ⟨sl.set i (.fr d), dr⟩ := rfl
@[simp] theorem e_tst {f : M RV} : tstM f ps = (f ps).bind fun x => (asB x.1).bind fun b => some (b, x.2) := rfl
@[simp] theorem e_asB {b : Bool} : asB (.im (.bool b)) = some b := rfl
@[simp] theorem e_tru {f : M RV} : truM f ps = (f ps).bind fun x => (brw x.1 x.2).bind fun d => (truD d).bind fun b => some (b, x.2) := rfl
@[simp] theorem e_truB {b : Bool} : truD (.bool b) = some b := rfl
@[simp] theorem e_and {f g : M Bool} : andM f g ps = (f ps).bind fun x => if x.1 then g x.2 else some (false, x.2) := rfl
@[simp] theorem e_or {f g : M Bool} : orM f g ps = (f ps).bind fun x => if x.1 then some (true, x.2) else g x.2 := rfl
@[simp] theorem e_not {f : M Bool} : notM f ps = (f ps).bind fun x => some (!x.1, x.2) := rfl
@[simp] theorem e_andV {f g : M RV} : andVM f g ps = (f ps).bind fun x => (asB x.1).bind fun b => if b then g x.2 else some (.im (.bool false), x.2) := rfl
@[simp] theorem e_orV {f g : M RV} : orVM f g ps = (f ps).bind fun x => (asB x.1).bind fun b => if b then some (.im (.bool true), x.2) else g x.2 := rfl
@[simp] theorem e_notV {f : M RV} : notVM f ps = (f ps).bind fun x => (asB x.1).bind fun b => some (.im (.bool (!b)), x.2) := rfl
@[simp] theorem e_if {c : M Bool} {f g : M RV} : ifM c f g ps = (c ps).bind fun x => if x.1 then f x.2 else g x.2 := rfl
@[simp] theorem e_ite {c : M Bool} {f g : SM} : iteM c f g ps = (c ps).bind fun x => if x.1 then f x.2 else g x.2 := rfl
@[simp] theorem e_nx : nxM ps = some (.nx ps) := rfl
@[simp] theorem e_ret : retM fe ps = (fe ps).bind fun x => retV x.1 x.2 := rfl
@[simp] theorem e_ri {d : Dat} : retV (.im d) ps = some (.rt (.im d) ps) := rfl
@[simp] theorem e_rn {ds : List Dat} : retV (.nw ds) ps = some (.rt (.nw ds) ps) := rfl
@[simp] theorem e_rs : retV (.sl i) ⟨sl, dr⟩ = match sl[i]? with | some (.fr d) => some (.rt (.im d) ⟨sl, dr⟩) | some (.ow ds) => some (.rt (.nw ds) ⟨sl, dr⟩) | _ => none := rfl
@[simp] theorem e_call {fn : Fn} : callM fn ga ps = (ga ps).bind fun x => (fn x.1 x.2.dr).bind fun y => some (y.1, { x.2 with dr := y.2 }) := rfl
@[simp] theorem e_app : appM j fe ⟨sl, dr⟩ = match sl[j]? with
  | some (.ow _) => (keepM fe ⟨sl, dr⟩).bind fun x => match x.2.sl[j]? with
    | some (.ow ds) => if decide (ds.length < sizeLine) then some (.nx (x.2.put j (.ow (ds ++ [x.1])))) else none
    | _ => none
  | _ => none := rfl
@[simp] theorem e_sto {fi : M RV} : stoM j fi fe ps = (keepM fe ps).bind fun x => match x.2.sl[j]? with
  | some (.ow _) => (keepM fi x.2).bind fun y => match y.1, y.2.sl[j]? with
    | .int k, some (.ow ds) => (ixN ds.length k).bind fun n => some (.nx (y.2.put j (.ow (ds.set n x.1))))
    | _, _ => none
  | _ => none := rfl
@[simp] theorem e_pop : popM j fe ⟨sl, dr⟩ = match sl[j]? with
  | some (.ow _) => (keepM fe ⟨sl, dr⟩).bind fun x => match x.1, x.2.sl[j]? with
    | .int i, some (.ow ds) => if b62 i then (seqIndex? i ds.length).bind fun k => ds[k]?.bind fun y => some (.im y, x.2.put j (.ow (ds.eraseIdx k))) else none
    | _, _ => none
  | _ => none := rfl
@[simp] theorem e_for {fi : M (List Dat)} {tgt : Dat → PS → Option PS} {body : SM} : forSM fi tgt body ps = (fi ps).bind fun x => forL tgt body x.1 x.2 := rfl
@[simp] theorem e_seqI : seqIt fe ps = (keepM fe ps).bind fun x => (items? x.1).bind fun ds => some (ds, x.2) := rfl
@[simp] theorem e_itl {ds : List Dat} : items? (.list ds) = some ds := rfl
@[simp] theorem e_itt {ds : List Dat} : items? (.tuple ds) = some ds := rfl
@[simp] theorem e_lc {vs : List Nat} {fi : M (List Dat)} {tgt : Dat → PS → Option PS} {tst : M Bool} {elt : M RV} : lcM vs fi tgt tst elt ps = (fi ps).bind fun x => (lcL vs tgt tst elt x.1 [] (wipeP vs x.2)).bind fun y => some (.nw y.1, restP vs x.2 y.2) := rfl
@[simp] theorem e_wipe {vs : List Nat} : wipeP vs ⟨sl, dr⟩ = ⟨vs.foldr (fun v l => l.set v Sl.un) sl, dr⟩ := rfl
@[simp] theorem e_rest {vs : List Nat} {ps0 : PS} : restP vs ps0 ⟨sl, dr⟩ = ⟨vs.foldr (fun v l => l.set v (keepSl ps0.sl[v]?)) sl, dr⟩ := rfl
@[simp] theorem e_keepF {d : Dat} : keepSl (some (.fr d)) = .fr d := rfl
@[simp] theorem e_keepU : keepSl (some .un) = .un := rfl
@[simp] theorem e_keepO {ds : List Dat} : keepSl (some (.ow ds)) = .un := rfl
@[simp] theorem e_asg {tg : Dat → PS → Option PS} : asgM tg fe ps = (keepM fe ps).bind fun x => (tg x.1 x.2).bind fun ps' => some (.nx ps') := rfl
@[simp] theorem e_tupT {n : Nat} {f : List Dat → PS → Option PS} {ds : List Dat} : tupT n f (.tuple ds) ps = if ds.length = n then f ds ps else none := rfl
@[simp] theorem e_tupTL {n : Nat} {f : List Dat → PS → Option PS} {ds : List Dat} : tupT n f (.list ds) ps = if ds.length = n then f ds ps else none := rfl
@[simp] theorem e_tupP {n : Nat} {f : List Dat → PS → Option PS} {x y : Dat} : tupT n f (.dict [(x, y)]) ps = if 2 = n then f [x, y] ps else none := rfl
@[simp] theorem e_consT {f : Dat → PS → Option PS} {g : List Dat → PS → Option PS} {d : Dat} {r : List Dat} : consTs f g (d :: r) ps = (f d ps).bind fun ps1 => g r ps1 := rfl
@[simp] theorem e_nilT : nilTs [] ps = some ps := rfl
@[simp] theorem e_subT {fi : M RV} {d : Dat} : subT j fi d ⟨sl, dr⟩ = match sl[j]? with
  | some (.ow _) => (keepM fi ⟨sl, dr⟩).bind fun y => match y.1, y.2.sl[j]? with
    | .int k, some (.ow ds) => (ixN ds.length k).bind fun n => some (y.2.put j (.ow (ds.set n d)))
    | _, _ => none
  | _ => none := rfl
@[simp] theorem e_part : partM fa ps = (fa ps).bind fun x => match x.1 with | .im (.int i) => some (some i, x.2) | _ => none := rfl
@[simp] theorem e_sl {fl fh : M (Option Int)} : slM fa fl fh ps = (fa ps).bind fun x => (fl x.2).bind fun l => (fh l.2).bind fun h => (brw (settle x.1) h.2).bind fun d => (slD d l.1 h.1).bind fun r => some (r, h.2) := rfl
@[simp] theorem e_slL {ds : List Dat} {lo hi : Option Int} : slD (.list ds) lo hi = some (.nw (cutD ds lo hi)) := rfl
@[simp] theorem e_slT {ds : List Dat} {lo hi : Option Int} : slD (.tuple ds) lo hi = some (.im (.tuple (cutD ds lo hi))) := rfl
@[simp] theorem e_rng1 : rng1 ga ps = (ga ps).bind fun x => match x.1 with | [.int j] => if b62 j then some (rgD 0 j.toNat, x.2) else none | _ => none := rfl
@[simp] theorem e_rng2 : rng2 ga ps = (ga ps).bind fun x => match x.1 with | [.int i, .int j] => if b62 i && b62 j then some (rgD i (j - i).toNat, x.2) else none | _ => none := rfl
@[simp] theorem e_addI {i j : Int} : addD (.int i) (.int j) = some (.im (.int (i + j))) := rfl
@[simp] theorem e_subI {i j : Int} : subD (.int i) (.int j) = some (.im (.int (i - j))) := rfl
@[simp] theorem e_addL {xs ys : List Dat} : addD (.list xs) (.list ys) = if line (xs.length + ys.length) then some (.nw (xs ++ ys)) else none := rfl
@[simp] theorem e_addT {xs ys : List Dat} : addD (.tuple xs) (.tuple ys) = if line (xs.length + ys.length) then some (.im (.tuple (xs ++ ys))) else none := rfl
@[simp] theorem e_ltI {i j : Int} : ltD (.int i) (.int j) = some (.im (.bool (decide (i < j)))) := rfl
@[simp] theorem e_cmpI {p : Int → Int → Bool} {i j : Int} : cmpI p (.int i) (.int j) = some (.im (.bool (p i j))) := rfl
@[simp] theorem e_lenL {ds : List Dat} : lenD (.list ds) = some (.im (.int ds.length)) := rfl
@[simp] theorem e_lenT {ds : List Dat} : lenD (.tuple ds) = some (.im (.int ds.length)) := rfl
@[simp] theorem e_truTok {y : Dat × Dat} {z : Dat} {l : List (Dat × Dat)} {ds : List Dat} : truD (.dict (y :: (z, .list ds) :: l)) = some (!ds.isEmpty) := rfl
@[simp] theorem e_lenTok {y : Dat × Dat} {z : Dat} {l : List (Dat × Dat)} {ds : List Dat} : lenD (.dict (y :: (z, .list ds) :: l)) = some (.im (.int ds.length)) := rfl
@[simp] theorem e_ixTok {y : Dat × Dat} {z : Dat} {l : List (Dat × Dat)} {ds : List Dat} {i : Int} : ixD (.dict (y :: (z, .list ds) :: l)) (.int i) = (atI ds i).bind fun d => some (.im d) := rfl
@[simp] theorem e_listL {ds : List Dat} : listD (.list ds) = some (.nw ds) := rfl
@[simp] theorem e_listT {ds : List Dat} : listD (.tuple ds) = some (.nw ds) := rfl
@[simp] theorem e_tupL {ds : List Dat} : tupleD (.list ds) = some (.im (.tuple ds)) := rfl
@[simp] theorem e_tupT2 {ds : List Dat} : tupleD (.tuple ds) = some (.im (.tuple ds)) := rfl
@[simp] theorem e_intI {i : Int} : intD (.int i) = some (.im (.int i)) := rfl
@[simp] theorem e_ixL {ds : List Dat} {i : Int} : ixD (.list ds) (.int i) = (atI ds i).bind fun d => some (.im d) := rfl
@[simp] theorem e_ixT {ds : List Dat} {i : Int} : ixD (.tuple ds) (.int i) = (atI ds i).bind fun d => some (.im d) := rfl
@[simp] theorem e_min2 {i j : Int} : min2D [.int i, .int j] = some (.im (.int (if j < i then j else i))) := rfl
@[simp] theorem e_max2 {i j : Int} : max2D [.int i, .int j] = some (.im (.int (if j > i then j else i))) := rfl
@[simp] theorem e_isB {a b : Bool} : isBD (.bool a) (.bool b) = some (.im (.bool (decide (a = b)))) := rfl
@[simp] theorem e_expr : exprM fe ps = (fe ps).bind fun x => some (.nx x.2) := rfl
@[simp] theorem e_aug {g : Dat → Dat → Option RV} : augM i g fe ⟨sl, dr⟩ = match sl[i]? with
  | some (.fr d) => (keepM fe ⟨sl, dr⟩).bind fun x => (g d x.1).bind fun r => match r with
    | .im d' => some (.nx (x.2.put i (.fr d')))
    | _ => none
  | _ => none := rfl
@[simp] theorem e_augI {f : Int → Int → Int} {i j : Int} : augI f (.int i) (.int j) = some (.im (.int (f i j))) := rfl
@[simp] theorem e_par : parM i j fa fb ps = (fa ps).bind fun x => (fb x.2).bind fun y => (slotV x.1 y.2).bind fun u => (slotV y.1 u.2).bind fun w => some (.nx ((w.2.put i u.1).put j w.1)) := rfl
@[simp] theorem e_sli {d : Dat} : slotV (.im d) ps = some (.fr d, ps) := rfl
@[simp] theorem e_sln {ds : List Dat} : slotV (.nw ds) ps = some (.ow ds, ps) := rfl
@[simp] theorem e_sls : slotV (.sl j) ps = (keepV (.sl j) ps).bind fun x => some (.fr x.1, x.2) := rfl
@[simp] theorem e_body {n : Nat} {b : SM} {ds : List Dat} {dr : Dr} : bodyFn n b ds dr = (b ⟨ds.map Sl.fr ++ List.replicate (n - ds.length) Sl.un, dr⟩).bind fun o => match o with | .rt r ps => some (r, ps.dr) | .nx ps => some (.im .none, ps.dr) | _ => none := rfl
@[simp] theorem e_par3 {l : Nat} : par3M i j l ga ps = (ga ps).bind fun x => match x.1 with
  | [a, b, c] => some (.nx (((x.2.put i (.fr a)).put j (.fr b)).put l (.fr c)))
  | _ => none := rfl
@[simp] theorem e_idx : idxM fa fb ps = (keepM fa ps).bind fun x => (items? x.1).bind fun ds => (fb x.2).bind fun y => match y.1 with
  | .im (.int k) => (ints? ds).bind fun ns => if decide (k ∈ ns) then some (.im (.int (ns.idxOf k : Nat)), y.2) else none
  | _ => none := rfl
@[simp] theorem e_rg1 : rg1M fa ps = (fa ps).bind fun x => (asI x.1).bind fun n => some ((0, n), x.2) := rfl
@[simp] theorem e_rg2 : rg2M fa fb ps = (fa ps).bind fun x => (asI x.1).bind fun i => (fb x.2).bind fun y => (asI y.1).bind fun j => some ((i, j), y.2) := rfl
@[simp] theorem e_asI {n : Int} : asI (.im (.int n)) = some n := rfl
@[simp] theorem e_listRg {f : M (Int × Int)} : listRgM f ps = (f ps).bind fun x => if rgB x.1 then some (.nw (rgD x.1.1 (x.1.2 - x.1.1).toNat), x.2) else none := rfl
@[simp] theorem e_tupRg {f : M (Int × Int)} : tupleRgM f ps = (f ps).bind fun x => if rgB x.1 then some (.im (.tuple (rgD x.1.1 (x.1.2 - x.1.1).toNat)), x.2) else none := rfl
@[simp] theorem e_enI : enIt fe ps = (keepM fe ps).bind fun x => (items? x.1).bind fun ds => some (enL ds, x.2) := rfl
@[simp] theorem e_chain {g g' : Dat → Dat → Option RV} {fc : M RV} : chainM g g' fa fb fc ps = (fa ps).bind fun x => (fb x.2).bind fun y => (brw (settle x.1) y.2).bind fun d => (brw (settle y.1) y.2).bind fun e => (g d e).bind fun r => (asB r).bind fun k =>
    if k then (fc y.2).bind fun z => (brw (settle y.1) z.2).bind fun e2 => (brw z.1 z.2).bind fun e3 => (g' e2 e3).bind fun r' => some (r', z.2) else some (.im (.bool false), y.2) := rfl
@[simp] theorem e_intB {k : Bool} : intD (.bool k) = some (.im (.int (if k then 1 else 0))) := rfl
@[simp] theorem e_sumT {ds : List Dat} : sumAD (.tuple ds) = (ints? ds).bind fun ns => some (.im (.int ns.sum)) := rfl
@[simp] theorem e_sumL {ds : List Dat} : sumAD (.list ds) = (ints? ds).bind fun ns => some (.im (.int ns.sum)) := rfl
@[simp] theorem e_ins : insM j ga ⟨sl, dr⟩ = match sl[j]? with
  | some (.ow _) => (ga ⟨sl, dr⟩).bind fun x => match x.1, x.2.sl[j]? with
    | [.int i, d], some (.ow ds) => if decide (0 ≤ i) && b62 i && decide (ds.length < sizeLine) then some (.nx (x.2.put j (.ow (ds.take i.toNat ++ [d] ++ ds.drop i.toNat)))) else none
    | _, _ => none
  | _ => none := rfl
@[simp] theorem e_revI : revIt fe ps = (keepM fe ps).bind fun x => (items? x.1).bind fun ds => some (ds.reverse, x.2) := rfl
@[simp] theorem e_anyL {ds : List Dat} : anyD (.list ds) = (bools? ds).bind fun bs => some (.im (.bool (bs.any id))) := rfl
@[simp] theorem e_allL {ds : List Dat} : allD (.list ds) = (bools? ds).bind fun bs => some (.im (.bool (bs.all id))) := rfl
@[simp] theorem e_revAL {ds : List Dat} : revAD (.list ds) = some (.nw ds.reverse) := rfl
@[simp] theorem e_revAT {ds : List Dat} : revAD (.tuple ds) = some (.im (.tuple ds.reverse)) := rfl
@[simp] theorem e_abs {i : Int} : absD (.int i) = some (.im (.int (if i < 0 then -i else i))) := rfl
@[simp] theorem e_neg {i : Int} : negD (.int i) = some (.im (.int (-i))) := rfl
end

/-! ### loops -/
theorem forL_inv {α : Type} {f : α → Dat} {xs : List α} {tgt : Dat → PS → Option PS} {body : SM} (I : List α → PS → Prop)
    (step : ∀ pre x post ps, xs = pre ++ x :: post → I pre ps → ∃ ps1 ps2, tgt (f x) ps = some ps1 ∧ (body ps1 = some (.nx ps2) ∨ body ps1 = some (.ct ps2)) ∧ I (pre ++ [x]) ps2) {ps : PS} (h0 : I [] ps) :
    ∃ ps', forL tgt body (xs.map f) ps = some (.nx ps') ∧ I xs ps' := by
  suffices h : ∀ post pre ps, xs = pre ++ post → I pre ps → ∃ ps', forL tgt body (post.map f) ps = some (.nx ps') ∧ I xs ps' from h xs [] ps rfl h0
  intro post
  induction post with
  | nil =>
    intro pre ps e h
    rw [List.append_nil] at e
    subst e
    exact ⟨ps, rfl, h⟩
  | cons x post ih =>
    intro pre ps e h
    obtain ⟨ps1, ps2, e1, e2, h2⟩ := step pre x post ps e h
    obtain ⟨ps', e3, h3⟩ := ih (pre ++ [x]) ps2 (by rw [e]; simp) h2
    refine ⟨ps', ?_, h3⟩
    rcases e2 with e2 | e2 <;> simp only [List.map_cons, forL, e1, e2, Option.bind_some, e3]

theorem whileM_inv {c : M Bool} {b : SM} (I : Nat → PS → Prop) (D : PS → Prop)
    (step : ∀ n ps, I n ps → ∃ k ps1, c ps = some (k, ps1) ∧ (k = false → D ps1) ∧ (k = true → ∃ ps2 m, (b ps1 = some (.nx ps2) ∨ b ps1 = some (.ct ps2)) ∧ m < n ∧ I m ps2)) {n : Nat} {ps : PS} (h0 : I n ps) :
    ∃ ps', whileM c b ps = some (.nx ps') ∧ D ps' := by
  induction n using Nat.strongRecOn generalizing ps with
  | ind n ih =>
    obtain ⟨k, ps1, e1, hf, ht⟩ := step n ps h0
    rw [whileM_eq, e1]
    cases k with
    | false => exact ⟨ps1, rfl, hf rfl⟩
    | true =>
      obtain ⟨ps2, m, e2, hm, h2⟩ := ht rfl
      obtain ⟨ps', e3, h3⟩ := ih m hm h2
      refine ⟨ps', ?_, h3⟩
      rcases e2 with e2 | e2 <;> simp only [Option.bind_some, if_true, e2, e3]

theorem lcL_inv {α : Type} {f : α → Dat} {xs : List α} {vs : List Nat} {tgt : Dat → PS → Option PS} {tst : M Bool} {elt : M RV} (I : List α → List Dat → PS → Prop) (hl : xs.length ≤ sizeLine)
    (step : ∀ pre x post acc ps, xs = pre ++ x :: post → I pre acc ps → ∃ ps1 k ps2, tgt (f x) ps = some ps1 ∧ tst ps1 = some (k, ps2) ∧ (k = false → I (pre ++ [x]) acc (wipeP vs ps2)) ∧ (k = true → ∃ d ps3, keepM elt ps2 = some (d, ps3) ∧ I (pre ++ [x]) (acc ++ [d]) (wipeP vs ps3))) {ps : PS} (h0 : I [] [] ps) :
    ∃ acc ps', lcL vs tgt tst elt (xs.map f) [] ps = some (acc, ps') ∧ I xs acc ps' := by
  suffices h : ∀ post pre acc ps, xs = pre ++ post → acc.length ≤ pre.length → I pre acc ps → ∃ acc' ps', lcL vs tgt tst elt (post.map f) acc ps = some (acc', ps') ∧ I xs acc' ps' from h xs [] [] ps rfl (Nat.le_refl _) h0
  intro post
  induction post with
  | nil =>
    intro pre acc ps e _ h
    rw [List.append_nil] at e
    subst e
    exact ⟨acc, ps, rfl, h⟩
  | cons x post ih =>
    intro pre acc ps e hle h
    obtain ⟨ps1, k, ps2, e1, e2, hf, ht⟩ := step pre x post acc ps e h
    have hlen : acc.length < sizeLine := by
      have : xs.length = pre.length + (post.length + 1) := by rw [e]; simp
      omega
    cases k with
    | false =>
      obtain ⟨acc', ps', e3, h3⟩ := ih (pre ++ [x]) acc _ (by rw [e]; simp) (by simp; omega) (hf rfl)
      refine ⟨acc', ps', ?_, h3⟩
      rw [List.map_cons]
      show ((tgt (f x) ps).bind fun ps1 => (tst ps1).bind fun x => if x.1 then (keepM elt x.2).bind fun y => if decide (acc.length < sizeLine) then lcL vs tgt tst elt (post.map f) (acc ++ [y.1]) (wipeP vs y.2) else none else lcL vs tgt tst elt (post.map f) acc (wipeP vs x.2)) = _
      rw [e1, Option.bind_some, e2, Option.bind_some, if_neg (show ¬ ((false : Bool) = true) from Bool.false_ne_true), e3]
    | true =>
      obtain ⟨d, ps3, e4, h4⟩ := ht rfl
      obtain ⟨acc', ps', e3, h3⟩ := ih (pre ++ [x]) (acc ++ [d]) _ (by rw [e]; simp) (by simp; omega) h4
      refine ⟨acc', ps', ?_, h3⟩
      rw [List.map_cons]
      show ((tgt (f x) ps).bind fun ps1 => (tst ps1).bind fun x => if x.1 then (keepM elt x.2).bind fun y => if decide (acc.length < sizeLine) then lcL vs tgt tst elt (post.map f) (acc ++ [y.1]) (wipeP vs y.2) else none else lcL vs tgt tst elt (post.map f) acc (wipeP vs x.2)) = _
      rw [e1, Option.bind_some, e2, Option.bind_some, if_pos rfl, e4, Option.bind_some, if_pos (decide_eq_true hlen), e3]

/-- a comprehension that leaves everything as it was -/
theorem lcL_map {α : Type} {f : α → Dat} {xs : List α} {vs : List Nat} {tgt : Dat → PS → Option PS} {tst : M Bool} {elt : M RV} {ps : PS} (p : α → Bool) (g : α → Dat) (hl : xs.length ≤ sizeLine)
    (step : ∀ x, x ∈ xs → ∃ ps1 ps2, tgt (f x) ps = some ps1 ∧ tst ps1 = some (p x, ps2) ∧ (p x = false → wipeP vs ps2 = ps) ∧ (p x = true → ∃ ps3, keepM elt ps2 = some (g x, ps3) ∧ wipeP vs ps3 = ps)) :
    lcL vs tgt tst elt (xs.map f) [] ps = some ((xs.filter p).map g, ps) := by
  obtain ⟨acc, ps', e, e1, e2⟩ := lcL_inv (f := f) (xs := xs) (vs := vs) (tgt := tgt) (tst := tst) (elt := elt) (fun pre acc q => acc = (pre.filter p).map g ∧ q = ps) hl (fun pre x post acc q hx ⟨ea, eq⟩ => by
    subst ea eq
    obtain ⟨ps1, ps2, h1, h2, hf, ht⟩ := step x (by rw [hx]; simp)
    refine ⟨ps1, p x, ps2, h1, h2, fun k => ⟨by rw [List.filter_append, List.filter_cons_of_neg (by simp [k])]; simp, hf k⟩, fun k => ?_⟩
    obtain ⟨ps3, h3, h4⟩ := ht k
    exact ⟨g x, ps3, h3, by rw [List.filter_append, List.filter_cons_of_pos k]; simp, h4⟩) (ps := ps) ⟨rfl, rfl⟩
  subst e1 e2
  exact e

/-! ### numbers in rows -/
def nL (xs : List Nat) : List Dat := xs.map fun (k : Nat) => PyData.int (k : Int)
theorem nL_nil : nL [] = [] := rfl
@[simp] theorem nL_len {xs : List Nat} : (nL xs).length = xs.length := List.length_map _
theorem nL_app {xs ys : List Nat} : nL (xs ++ ys) = nL xs ++ nL ys := List.map_append
theorem nL_snoc {xs : List Nat} {k : Nat} : nL xs ++ [.int (k : Int)] = nL (xs ++ [k]) := (nL_app (ys := [k])).symm
theorem nL_get {xs : List Nat} {i : Nat} : (nL xs)[i]? = xs[i]?.map fun (k : Nat) => PyData.int (k : Int) := List.getElem?_map
theorem nL_at {xs : List Nat} {i v : Nat} (h : xs[i]? = some v) : atI (nL xs) (i : Int) = some (.int (v : Int)) := atI_nat (by rw [nL_get, h]; rfl)
theorem nL_set {xs : List Nat} {i v : Nat} : (nL xs).set i (.int (v : Int)) = nL (xs.set i v) := (List.map_set).symm
theorem nL_erase : ∀ {xs : List Nat} {i : Nat}, (nL xs).eraseIdx i = nL (xs.eraseIdx i)
  | [], i => by simp [nL]
  | x :: xs, 0 => rfl
  | x :: xs, i + 1 => congrArg (PyData.int (x : Int) :: ·) (nL_erase (xs := xs) (i := i))
theorem perm_erase {α : Type} : ∀ {xs : List α} {i : Nat} {v : α}, xs[i]? = some v → (v :: xs.eraseIdx i).Perm xs
  | [], i, v, h => by cases h
  | x :: xs, 0, v, h => by
    cases h
    exact List.Perm.refl _
  | x :: xs, i + 1, v, h => by
    have := perm_erase (xs := xs) (i := i) (v := v) h
    exact (List.Perm.swap x v _).trans (this.cons x)
theorem ixN_nat {n i : Nat} (h : i < n) : ixN n (i : Int) = some i := by
  unfold ixN
  rw [if_pos (by omega), if_pos (by omega), Int.toNat_natCast]
theorem seqI_nat {n i : Nat} (h : i < n) : seqIndex? (i : Int) n = some i := by
  unfold seqIndex?
  have h0 : (if (i : Int) < 0 then (i : Int) + (n : Int) else (i : Int)) = (i : Int) := if_neg (by omega)
  simp only [h0]
  have : (decide (0 ≤ (i : Int)) && decide ((i : Int) < (n : Int))) = true := by simp; omega
  rw [if_pos this, Int.toNat_natCast]
theorem rgD_nat {n : Nat} : rgD 0 n = nL (List.range n) := by
  unfold rgD nL
  refine List.map_congr_left fun i _ => ?_
  rw [Int.zero_add]
theorem b62_nat {n : Nat} (h : n ≤ 1000000) : b62 (n : Int) = true := by
  unfold b62
  rw [decide_eq_true_eq]
  omega
theorem line_of {n : Nat} (h : n ≤ 1000000) : line n = true := decide_eq_true (by have : sizeLine = 16777216 := rfl; omega)
theorem sz_of {n : Nat} (h : n ≤ 1000000) : n < sizeLine := by have : sizeLine = 16777216 := rfl; omega
theorem eqv_int {i j : Int} : PyData.eqv (.int i) (.int j) = decide (i = j) := by
  rw [PyData.eqv]
  by_cases h : i = j <;> simp [h]
theorem eqv_nat {i j : Nat} : PyData.eqv (.int (i : Int)) (.int (j : Int)) = decide (i = j) := by
  rw [eqv_int]
  exact decide_eq_decide.mpr Int.ofNat_inj
theorem any_nL {xs : List Nat} {k : Nat} : ((nL xs).any fun z => PyData.eqv z (.int (k : Int))) = decide (k ∈ xs) := by
  induction xs with
  | nil => simp [nL]
  | cons x xs ih =>
    show (PyData.eqv (.int (x : Int)) (.int (k : Int)) || (nL xs).any fun z => PyData.eqv z (.int (k : Int))) = _
    rw [eqv_nat, ih]
    by_cases h : x = k
    · simp [h]
    · have : ¬ k = x := fun z => h z.symm
      simp [h, this]

/-! what equality takes: flat rows of numbers, rows of such rows -/
theorem sh_int {i : Int} : SeqAt.shaped (.int i) = true := by
  unfold SeqAt.shaped
  rw [PyData.canLay0, PyData.depth]
  rfl
theorem sh_bool {b : Bool} : SeqAt.shaped (.bool b) = true := by
  unfold SeqAt.shaped
  rw [PyData.canLay0, PyData.depth]
  rfl
/-- shaped, of a depth -/
def shd (n : Nat) (d : Dat) : Prop := d.canLay0 = true ∧ d.depth ≤ n
theorem shd_ok {n : Nat} {d : Dat} (h : shd n d) (hn : n ≤ 64) : SeqAt.shaped d = true := by
  unfold SeqAt.shaped
  rw [h.1, decide_eq_true (Nat.le_trans h.2 hn)]
  rfl
theorem shd_int {n : Nat} {i : Int} : shd n (.int i) := ⟨by rw [PyData.canLay0], by rw [PyData.depth]; exact Nat.zero_le _⟩
theorem shd_bool {n : Nat} {b : Bool} : shd n (.bool b) := ⟨by rw [PyData.canLay0], by rw [PyData.depth]; exact Nat.zero_le _⟩
theorem shd_none {n : Nat} : shd n .none := ⟨by rw [PyData.canLay0], by rw [PyData.depth]; exact Nat.zero_le _⟩
theorem shd_all {n : Nat} : ∀ {ds : List Dat}, (∀ d ∈ ds, shd n d) → PyData.canLayAll0 ds = true ∧ PyData.depthAll ds ≤ n
  | [], _ => ⟨by rw [PyData.canLayAll0], by rw [PyData.depthAll]; exact Nat.zero_le _⟩
  | d :: ds, h => by
    have h1 := h d (List.mem_cons_self ..)
    have h2 := shd_all (ds := ds) fun x hx => h x (List.mem_cons_of_mem _ hx)
    exact ⟨by rw [PyData.canLayAll0, h1.1, h2.1]; rfl, by rw [PyData.depthAll]; exact Nat.max_le.mpr ⟨h1.2, h2.2⟩⟩
theorem shd_list {n : Nat} {ds : List Dat} (h : ∀ d ∈ ds, shd n d) : shd (n + 1) (.list ds) :=
  ⟨by rw [PyData.canLay0]; exact (shd_all h).1, by rw [PyData.depth]; exact Nat.succ_le_succ (shd_all h).2⟩
theorem shd_tuple {n : Nat} {ds : List Dat} (h : ∀ d ∈ ds, shd n d) : shd (n + 1) (.tuple ds) :=
  ⟨by rw [PyData.canLay0]; exact (shd_all h).1, by rw [PyData.depth]; exact Nat.succ_le_succ (shd_all h).2⟩
theorem shd_nL {n : Nat} {xs : List Nat} : ∀ d ∈ nL xs, shd n d := by
  intro d hd
  obtain ⟨k, _, rfl⟩ := List.mem_map.mp hd
  exact shd_int
theorem nin_nL {xs : List Nat} {k : Nat} : ninD (.int (k : Int)) (.list (nL xs)) = some (.im (.bool (!decide (k ∈ xs)))) := by
  show (if SeqAt.shaped _ && SeqAt.shaped _ then _ else _) = _
  rw [sh_int, shd_ok (shd_list (n := 0) shd_nL) (by decide), Bool.and_self, if_pos rfl, if_pos rfl, any_nL]
theorem in_nL {xs : List Nat} {k : Nat} : inD (.int (k : Int)) (.list (nL xs)) = some (.im (.bool (decide (k ∈ xs)))) := by
  show (if SeqAt.shaped _ && SeqAt.shaped _ then _ else _) = _
  rw [sh_int, shd_ok (shd_list (n := 0) shd_nL) (by decide), Bool.and_self, if_pos rfl, if_neg (by decide), any_nL]
theorem qe_int {i j : Int} : eqD (.int i) (.int j) = some (.im (.bool (decide (i = j)))) := by
  unfold eqD
  rw [sh_int, sh_int, Bool.and_self, if_pos rfl, eqv_int]
theorem qn_int {i j : Int} : neD (.int i) (.int j) = some (.im (.bool (!decide (i = j)))) := by
  unfold neD
  rw [sh_int, sh_int, Bool.and_self, if_pos rfl, eqv_int]
mutual
theorem eqv_refl : ∀ d : Dat, d.canLay0 = true → PyData.eqv d d = true
  | .none, _ => by rw [PyData.eqv]
  | .bool _, _ => by rw [PyData.eqv]; simp
  | .int _, _ => by rw [PyData.eqv]; simp
  | .str _, _ => by rw [PyData.eqv]; simp
  | .list xs, h => by
    rw [PyData.eqv]
    rw [PyData.canLay0] at h
    exact eqvAll_refl xs h
  | .tuple xs, h => by
    rw [PyData.eqv]
    rw [PyData.canLay0] at h
    exact eqvAll_refl xs h
  | .dict _, h => by rw [PyData.canLay0] at h; cases h
theorem eqvAll_refl : ∀ xs : List Dat, PyData.canLayAll0 xs = true → PyData.eqvAll xs xs = true
  | [], _ => by rw [PyData.eqvAll]
  | x :: xs, h => by
    rw [PyData.canLayAll0, Bool.and_eq_true] at h
    rw [PyData.eqvAll, eqv_refl x h.1, eqvAll_refl xs h.2]
    rfl
end
theorem qe_self {n : Nat} {d : Dat} (h : shd n d) (hn : n ≤ 64) : eqD d d = some (.im (.bool true)) := by
  unfold eqD
  rw [shd_ok h hn, Bool.and_self, if_pos rfl, eqv_refl d h.1]
theorem qn_self {n : Nat} {d : Dat} (h : shd n d) (hn : n ≤ 64) : neD d d = some (.im (.bool false)) := by
  unfold neD
  rw [shd_ok h hn, Bool.and_self, if_pos rfl, eqv_refl d h.1]
  rfl
theorem qe_bool {a b : Bool} : eqD (.bool a) (.bool b) = some (.im (.bool (decide (a = b)))) := by
  unfold eqD
  rw [sh_bool, sh_bool, Bool.and_self, if_pos rfl]
  cases a <;> cases b <;> rfl
theorem qn_bool {a b : Bool} : neD (.bool a) (.bool b) = some (.im (.bool (!decide (a = b)))) := by
  unfold neD
  rw [sh_bool, sh_bool, Bool.and_self, if_pos rfl]
  cases a <;> cases b <;> rfl
theorem ints_nL {xs : List Nat} : ints? (nL xs) = some (xs.map fun (k : Nat) => (k : Int)) := by
  induction xs with
  | nil => rfl
  | cons x xs ih =>
    show (ints? (nL xs)).map ((x : Int) :: ·) = _
    rw [ih]
    rfl

/-! ### draws -/
def isA (dr : Dr) : Prop := ∃ cs s, dr = .A cs s
theorem draw_ok {m : Nat} {dr : Dr} (h : isA dr) (h0 : 0 < m) (h1 : m ≤ 1000000) : ∃ (r : Nat) (dr' : Dr), drawA [.dict [], .int (m : Int)] dr = some (.im (.int (r : Int)), dr') ∧ r < m ∧ isA dr' := by
  obtain ⟨cs, s, rfl⟩ := h
  have hc : (decide ((m : Int) ≠ 0) && decide ((m : Int).natAbs < 1073741824)) = true := by
    rw [Bool.and_eq_true, decide_eq_true_eq, decide_eq_true_eq]
    omega
  have hm : ∀ z : Int, ∃ r : Nat, z.fmod (m : Int) = (r : Int) ∧ r < m := by
    intro z
    have h2 : 0 ≤ z.fmod (m : Int) := by rw [Int.fmod_eq_emod_of_nonneg _ (by omega)]; exact Int.emod_nonneg _ (by omega)
    have h3 : z.fmod (m : Int) < (m : Int) := Int.fmod_lt_of_pos z (by omega)
    exact ⟨(z.fmod (m : Int)).toNat, by omega, by omega⟩
  unfold drawA
  simp only [hc, if_true]
  cases cs.dropWhile (· == 0) with
  | nil =>
    obtain ⟨r, e, hr⟩ := hm (((s * 48271 + 12345).fmod 2147483647).fdiv 64)
    exact ⟨r, _, by rw [e], hr, _, _, rfl⟩
  | cons v l =>
    obtain ⟨r, e, hr⟩ := hm v
    exact ⟨r, .A (v.fdiv m :: l) s, by show some (RV.im (PyData.int (v.fmod (m : Int))), _) = _; rw [e], hr, _, _, rfl⟩
theorem isA_state {ns : List Int} : isA (stateA ns) := ⟨_, _, rfl⟩

/-! ### from the end backwards -/
def W (f : SM) (ps : PS) (Q : SOut → Prop) : Prop := ∃ o, f ps = some o ∧ Q o
def EV (f : M RV) (ps : PS) (Q : RV → PS → Prop) : Prop := ∃ r ps', f ps = some (r, ps') ∧ Q r ps'
def TV (f : M Bool) (ps : PS) (Q : Bool → PS → Prop) : Prop := ∃ k ps', f ps = some (k, ps') ∧ Q k ps'
def CV (fn : Fn) (ds : List Dat) (dr : Dr) (Q : RV → Dr → Prop) : Prop := ∃ r dr', fn ds dr = some (r, dr') ∧ Q r dr'
section
variable {ps : PS} {f g : SM} {Q : SOut → Prop} {fe fa fb : M RV} {P : RV → PS → Prop}
theorem w_det {o : SOut} (e : f ps = some o) (h : Q o) : W f ps Q := ⟨o, e, h⟩
theorem w_seq (h : W f ps fun o => match o with | .nx ps' => W g ps' Q | o => Q o) : W (seqM f g) ps Q := by
  obtain ⟨o, e, h⟩ := h
  cases o with
  | nx ps' =>
    obtain ⟨o2, e2, h2⟩ := h
    exact ⟨o2, by rw [e_seq, e]; exact e2, h2⟩
  | rt r ps' => exact ⟨_, by rw [e_seq, e]; rfl, h⟩
  | bk ps' => exact ⟨_, by rw [e_seq, e]; rfl, h⟩
  | ct ps' => exact ⟨_, by rw [e_seq, e]; rfl, h⟩
/-- a statement that goes on, then the rest -/
theorem w_nx {ps1 : PS} (e : f ps = some (.nx ps1)) (h : W g ps1 Q) : W (seqM f g) ps Q := w_seq (w_det e h)
theorem w_set {i : Nat} (h : EV fe ps fun r ps1 => ∃ ps2, setV i r ps1 = some ps2 ∧ Q (.nx ps2)) : W (setM i fe) ps Q := by
  obtain ⟨r, ps1, e, ps2, e2, h⟩ := h
  exact ⟨_, by rw [e_set, e]; show (setV i r ps1).bind _ = _; rw [e2]; rfl, h⟩
theorem w_ret (h : EV fe ps fun r ps1 => ∃ o, retV r ps1 = some o ∧ Q o) : W (retM fe) ps Q := by
  obtain ⟨r, ps1, e, o, e2, h⟩ := h
  exact ⟨o, by rw [e_ret, e]; exact e2, h⟩
theorem w_ite {c : M Bool} (h : TV c ps fun k ps1 => if k then W f ps1 Q else W g ps1 Q) : W (iteM c f g) ps Q := by
  obtain ⟨k, ps1, e, h⟩ := h
  cases k with
  | true =>
    obtain ⟨o, e2, h⟩ := h
    exact ⟨o, by rw [e_ite, e]; exact e2, h⟩
  | false =>
    obtain ⟨o, e2, h⟩ := h
    exact ⟨o, by rw [e_ite, e]; exact e2, h⟩
theorem w_for {α : Type} {fi : M (List Dat)} {tgt : Dat → PS → Option PS} {body : SM} (k : α → Dat) (xs : List α) {ps1 : PS} (e : fi ps = some (xs.map k, ps1)) (I : List α → PS → Prop) (h0 : I [] ps1)
    (step : ∀ pre x post q, xs = pre ++ x :: post → I pre q → ∃ q1, tgt (k x) q = some q1 ∧ W body q1 fun o => match o with | .nx q2 => I (pre ++ [x]) q2 | .ct q2 => I (pre ++ [x]) q2 | _ => False)
    (fin : ∀ q, I xs q → Q (.nx q)) : W (forSM fi tgt body) ps Q := by
  obtain ⟨ps', e2, h2⟩ := forL_inv (f := k) (xs := xs) (tgt := tgt) (body := body) I (fun pre x post q hx hI => by
    obtain ⟨q1, e1, o, e2, h⟩ := step pre x post q hx hI
    cases o with
    | nx q2 => exact ⟨q1, q2, e1, .inl e2, h⟩
    | ct q2 => exact ⟨q1, q2, e1, .inr e2, h⟩
    | bk q2 => exact absurd h id
    | rt r q2 => exact absurd h id) h0
  exact ⟨_, by rw [e_for, e]; exact e2, fin _ h2⟩
theorem w_while {c : M Bool} {b : SM} (n : Nat) (I : Nat → PS → Prop) (h0 : I n ps)
    (step : ∀ n q, I n q → TV c q fun k q1 => (k = false → Q (.nx q1)) ∧ (k = true → W b q1 fun o => match o with | .nx q2 => ∃ m, m < n ∧ I m q2 | .ct q2 => ∃ m, m < n ∧ I m q2 | _ => False)) : W (whileM c b) ps Q := by
  obtain ⟨ps', e, h⟩ := whileM_inv (c := c) (b := b) I (fun q => Q (.nx q)) (fun n q hI => by
    obtain ⟨k, q1, e1, hf, ht⟩ := step n q hI
    refine ⟨k, q1, e1, hf, fun z => ?_⟩
    obtain ⟨o, e2, h⟩ := ht z
    cases o with
    | nx q2 => obtain ⟨m, hm, h⟩ := h; exact ⟨q2, m, .inl e2, hm, h⟩
    | ct q2 => obtain ⟨m, hm, h⟩ := h; exact ⟨q2, m, .inr e2, hm, h⟩
    | bk q2 => exact absurd h id
    | rt r q2 => exact absurd h id) h0
  exact ⟨_, e, h⟩
theorem w_app {j : Nat} {ds0 : List Dat} (h0 : ps.sl[j]? = some (.ow ds0)) (h : EV fe ps fun r ps1 => ∃ d ps2 ds, keepV r ps1 = some (d, ps2) ∧ ps2.sl[j]? = some (.ow ds) ∧ ds.length ≤ 1000000 ∧ Q (.nx (ps2.put j (.ow (ds ++ [d]))))) : W (appM j fe) ps Q := by
  obtain ⟨r, ps1, e, d, ps2, ds, e1, e2, hl, h⟩ := h
  refine ⟨_, ?_, h⟩
  have ek : keepM fe ps = some (d, ps2) := by rw [e_keep, e]; exact e1
  unfold appM
  simp only [h0, ek, Option.bind_some, e2]
  rw [if_pos (decide_eq_true (sz_of hl))]
theorem v_det {r : RV} {ps1 : PS} (e : fe ps = some (r, ps1)) (h : P r ps1) : EV fe ps P := ⟨r, ps1, e, h⟩
theorem t_det {c : M Bool} {k : Bool} {ps1 : PS} {R : Bool → PS → Prop} (e : c ps = some (k, ps1)) (h : R k ps1) : TV c ps R := ⟨k, ps1, e, h⟩
theorem v_lc {α : Type} {vs : List Nat} {fi : M (List Dat)} {tgt : Dat → PS → Option PS} {tst : M Bool} {elt : M RV} (k : α → Dat) (xs : List α) {ps1 : PS} (e : fi ps = some (xs.map k, ps1)) (hl : xs.length ≤ 1000000) (I : List α → List Dat → PS → Prop) (h0 : I [] [] (wipeP vs ps1))
    (step : ∀ pre x post acc q, xs = pre ++ x :: post → I pre acc q → ∃ q1, tgt (k x) q = some q1 ∧ TV tst q1 fun b q2 => (b = false → I (pre ++ [x]) acc (wipeP vs q2)) ∧ (b = true → ∃ d q3, keepM elt q2 = some (d, q3) ∧ I (pre ++ [x]) (acc ++ [d]) (wipeP vs q3)))
    (fin : ∀ acc q, I xs acc q → P (.nw acc) (restP vs ps1 q)) : EV (lcM vs fi tgt tst elt) ps P := by
  obtain ⟨acc, q, e2, h⟩ := lcL_inv (f := k) (xs := xs) (vs := vs) (tgt := tgt) (tst := tst) (elt := elt) I (Nat.le_of_lt (sz_of hl)) (fun pre x post acc q hx hI => by
    obtain ⟨q1, e1, b, q2, e2, hf, ht⟩ := step pre x post acc q hx hI
    exact ⟨q1, b, q2, e1, e2, hf, ht⟩) h0
  exact ⟨_, _, by rw [e_lc, e]; show (lcL vs tgt tst elt (xs.map k) [] (wipeP vs ps1)).bind _ = _; rw [e2]; rfl, fin _ _ h⟩
/-- a comprehension that leaves all as it was -/
theorem v_lcm {α : Type} {vs : List Nat} {fi : M (List Dat)} {tgt : Dat → PS → Option PS} {tst : M Bool} {elt : M RV} (k : α → Dat) (xs : List α) {ps1 : PS} (e : fi ps = some (xs.map k, ps1)) (hl : xs.length ≤ 1000000) (p : α → Bool) (g : α → Dat)
    (step : ∀ x, x ∈ xs → ∃ q1 q2, tgt (k x) (wipeP vs ps1) = some q1 ∧ tst q1 = some (p x, q2) ∧ (p x = false → wipeP vs q2 = wipeP vs ps1) ∧ (p x = true → ∃ q3, keepM elt q2 = some (g x, q3) ∧ wipeP vs q3 = wipeP vs ps1))
    (fin : P (.nw ((xs.filter p).map g)) (restP vs ps1 (wipeP vs ps1))) : EV (lcM vs fi tgt tst elt) ps P :=
  ⟨_, _, by rw [e_lc, e]; show (lcL vs tgt tst elt (xs.map k) [] (wipeP vs ps1)).bind _ = _; rw [lcL_map (f := k) p g (Nat.le_of_lt (sz_of hl)) step]; rfl, fin⟩
theorem v_map {α : Type} {vs : List Nat} {fi : M (List Dat)} {tgt : Dat → PS → Option PS} {elt : M RV} (k : α → Dat) (xs : List α) {ps1 : PS} (e : fi ps = some (xs.map k, ps1)) (hl : xs.length ≤ 1000000) (g : α → Dat)
    (step : ∀ x, x ∈ xs → ∃ q1 q3, tgt (k x) (wipeP vs ps1) = some q1 ∧ keepM elt q1 = some (g x, q3) ∧ wipeP vs q3 = wipeP vs ps1)
    (fin : P (.nw (xs.map g)) (restP vs ps1 (wipeP vs ps1))) : EV (lcM vs fi tgt (M.ret true) elt) ps P :=
  v_lcm k xs e hl (fun _ => true) g (fun x hx => by
    obtain ⟨q1, q3, e1, e2, e3⟩ := step x hx
    exact ⟨q1, q1, e1, rfl, (fun z => absurd z.symm Bool.false_ne_true), fun _ => ⟨q3, e2, e3⟩⟩) (by rw [List.filter_eq_self.mpr fun _ _ => rfl]; exact fin)
theorem v_un {g : Dat → Option RV} (h : EV fa ps fun r ps1 => ∃ d, brw r ps1 = some d ∧ ∃ r', g d = some r' ∧ P r' ps1) : EV (unM g fa) ps P := by
  obtain ⟨r, ps1, e, d, e1, r', e2, h⟩ := h
  exact ⟨r', ps1, by rw [e_un, e]; show (brw r ps1).bind _ = _; rw [e1]; show (g d).bind _ = _; rw [e2]; rfl, h⟩
theorem c_body {n : Nat} {b : SM} {ds : List Dat} {dr : Dr} {R : RV → Dr → Prop} (h : W b ⟨ds.map Sl.fr ++ List.replicate (n - ds.length) Sl.un, dr⟩ fun o => match o with | .rt r q => R r q.dr | .nx q => R (.im .none) q.dr | _ => False) : CV (bodyFn n b) ds dr R := by
  obtain ⟨o, e, h⟩ := h
  cases o with
  | rt r q => exact ⟨r, q.dr, by rw [e_body, e]; rfl, h⟩
  | nx q => exact ⟨_, q.dr, by rw [e_body, e]; rfl, h⟩
  | bk q => exact absurd h id
  | ct q => exact absurd h id
end
end MP

/-! the law's own body at the very caller, of whom is known that no repr is under way; repr -/
namespace MP
open PySem PySem.Spec PyProof.Rows L2

/-- the law's def, run where the claim runs it -/
def LawRun (P : Program) (w : World) (K : Fg) (mg : Str → Option Value) (base : Heap) (f : Addr) (fd : FuncData) (nms : List Str) (sp : Sp) : Prop :=
  ∀ (s : Shared) (H : Hp) (args : Args) (us : List Value) (vs : List V) (Q : VK) (E : XK), Env0 P w K mg base callerA [] s H → BindsTo s fd args (nms.zip us) → Vals vs us → sp vs H Q E →
    codeAny (model P w) callerA (.call (.ref f) args) (CR CX0 [] P w H s Q E) s

theorem lawrun_mk {P : Program} {w : World} {K : Fg} {mg : Str → Option Value} {base : Heap} {x qual : Str} {st : Stmt} {f : Addr} {fd : FuncData} {N nms : List Str} {k : Nat} {sp : Sp} (F : Fun K x qual st f fd) (S : FnScope N nms (defScope st)) (hk : Room (k + 1) callerA)
    (len : ∀ vs H Q E, sp vs H Q E → vs.length = nms.length)
    (body : ∀ (cdv : Value) (s : Shared) (H : Hp) (vs : List V) (Q : VK) (E : XK), Room k (callerA.deeper (envOfC qual (defScope st) s.heap.objs.size f cdv)) → (callerA.deeper (envOfC qual (defScope st) s.heap.objs.size f cdv)).guards = some [] → sp vs H Q E →
      ∃ t, PSs (cxOf CX0 P w K mg base N qual (defScope st) f cdv callerA [] s H E).nox (defBody st) t ∧ t { nx := fun _ H' => Q .non H', rt := Q } (start N vs) H) : LawRun P w K mg base f fd nms sp := by
  obtain ⟨oc, od, kV, doc, pm, an, cdv, ct, osl, rfl, lk, hcd⟩ := F.ex
  intro s H args us vs Q E e0 bd rv hs
  have held : K.In s.heap := e0.mod.kin.keeps fun b o z => (e0.bs b o z).1
  have nolim : s.heap.NoLimit := e0.mod.nolimit.keeps fun b o z => (e0.bs b o z).1
  have kinds : ∀ y ∈ nms.zip us, (defScope st).names.lookup y.1 = some .local ∨ ((defScope st).names.lookup y.1 = some .cell ∧ ((cellsFrom (s.heap.objs.size + 1) (defScope st).names []).lookup y.1).isSome = true) := by
    intro y hy
    cases S.par y.1 (List.of_mem_zip (b := y.2) hy).1 with
    | inl z => exact Or.inl z
    | inr z => exact Or.inr ⟨z, PySem.W.cellsFrom_some _ _ _ (Or.inl z)⟩
  refine codeAny_call_function hk.depth (held _ _ lk) rfl S.co S.gen rfl (PySem.W.codeRec_of held hcd) (bd _ _ _ _ (wpAny_newFunctionEnv_cells S.kind kinds ?_))
  intro env he s1 st1
  subst he
  refine ⟨nolim.keeps st1.toInCall.keep, codeAny_func ?_⟩
  obtain ⟨t, ht, hq⟩ := body cdv s H vs Q E (hk.deeper _) rfl hs
  have J0 : Inv (cxOf CX0 P w K mg base N qual (defScope st) f cdv callerA [] s H E) [] (start N vs) H s1 := inv_start S hk.hd e0 (len _ _ _ _ hs) rv st1
  have out : ∀ {σ' : L2.St} {H' : Hp} {v : V} {u : Value} {s'}, Inv (cxOf CX0 P w K mg base N qual (defScope st) f cdv callerA [] s H E) [] σ' H' s' → RelV v u → Q v H' → CE [] P w H s Q u s' := fun J r z => ⟨_, _, J.os, J.bare, J.base, J.hok, r, z⟩
  refine wpAny_mono (ht.nox.run [] s1 (start N vs) H _ J0 hq) ?_ fun _ _ z => z
  intro fl s' z
  cases fl with
  | brk => exact (z.elim fun _ z => z.elim fun _ z => z.2).elim
  | cont => exact (z.elim fun _ z => z.elim fun _ z => z.2).elim
  | ret u => exact z.elim fun v z => z.elim fun σ' z => z.elim fun H' z => out z.1 z.2.1 z.2.2
  | next => exact z.elim fun σ' z => z.elim fun H' z => out (v := V.non) (u := Value.none) z.1 rfl z.2

/-- what is tracked at the start: the script alone, unless it is the module's own -/
noncomputable def startH (K : Fg) (a : Addr) (vs : List Value) (ns : List Int) : Hp := fun b => if b = a ∧ K.lookup a = none then some (.frz { cls := .type "list", data := .seq vs.toArray } (.lst (ns.map V.int))) else none
theorem startH_some {K : Fg} {a : Addr} {vs : List Value} {ns : List Int} {b : Addr} {u : HO} (h : startH K a vs ns b = some u) : b = a ∧ K.lookup a = none ∧ u = .frz { cls := .type "list", data := .seq vs.toArray } (.lst (ns.map V.int)) := by
  unfold startH at h
  split at h
  · rename_i z
    exact ⟨z.1, z.2, (Option.some.inj h).symm⟩
  · cases h

theorem head_run {P : Program} {w : World} {K : Fg} {mg mb : Str → Option Value} {fa a : Addr} {fd : FuncData} {x : Str} {s : Shared} {vs : List Value} {ns : List Int} {sp : Sp}
    (inK : K.In s.heap) (gl : s.heap.Ns mainGlobals mg) (bl : s.heap.Ns builtinsNs mb) (bb : ∀ y : Str, y ≠ "__name__" → mb y = bootBuiltins y) (nl : s.heap.NoLimit) (g0 : s.gens = #[])
    (oa : s.heap.get? a = some { cls := .type "list", data := .seq vs.toArray }) (iv : IntsAre vs ns) (hz : ns.length ≤ sizeLine) (bd : ∀ (s : Shared) (u : Value), BindsTo s fd ⟨[u], []⟩ [(x, u)])
    (F : ∀ base : Heap, K.In base → base.Ns mainGlobals mg → LawRun P w K mg base fa fd [x] sp) (hs : ∀ H : Hp, SqL K H a (ns.map V.int) → sp [.ref a] H (fun v _ => v = .bl true) fun _ _ _ => False) :
    codeAny (model P w) callerA (.call (.ref fa) ⟨[.ref a], []⟩) (fun r s' => r = .ok (.ret (.bool true)) ∧ OldK s.heap s'.heap ∧ s'.os = s.os ∧ AllBare s'.gens) s := by
  have vv := vals_ints iv
  have same : ∀ {b : Addr} {o : Obj}, s.heap.get? b = some o → startH K a vs ns b = none → (hidT s.heap (startH K a vs ns)).get? b = some o := fun e n => hidT_get e n
  have free : ∀ {b : Addr} {o : Obj}, s.heap.get? b = some o → ¬ (b = a ∧ K.lookup a = none) → startH K a vs ns b = none := fun {b o} e n => if_neg n
  have nsp : ∀ {b : Addr} {m : Str → Option Value}, s.heap.Ns b m → (hidT s.heap (startH K a vs ns)).Ns b m := by
    rintro b m ⟨o, es, ep, e, d, r⟩
    refine ⟨o, es, ep, same e (free e ?_), d, r⟩
    rintro ⟨rfl, _⟩
    rw [oa] at e
    cases e
    cases (show Data.seq vs.toArray _ = Data.dict es ep from d)
  have inB : K.In (hidT s.heap (startH K a vs ns)) := by
    intro b o e
    refine same (inK b o e) (free (inK b o e) ?_)
    rintro ⟨rfl, z⟩
    rw [z] at e
    cases e
  have md : Mod K mg (hidT s.heap (startH K a vs ns)) := by
    obtain ⟨mc, h1, h2⟩ := nl
    exact ⟨inB, nsp gl, ⟨mb, nsp bl, bb⟩, mc, nsp h1, h2⟩
  have ho : HOk P w (startH K a vs ns) s.heap := by
    intro b u z
    obtain ⟨rfl, _, rfl⟩ := startH_some z
    exact ⟨oa, by rw [List.length_map]; exact hz, vs, _, vv, oa⟩
  have sq : SqL K (startH K a vs ns) a (ns.map V.int) := by
    cases hk : K.lookup a with
    | none => exact .inl (.inr ⟨{ cls := .type "list", data := .seq vs.toArray }, if_pos ⟨rfl, hk⟩⟩)
    | some o =>
      have e := inK a o hk
      rw [oa] at e
      cases e
      exact .inr ⟨_, vs.toArray, _, hk, rfl, rfl, rfl, by rw [List.size_toArray, iv.length]; exact hz, by simpa using vv⟩
  have e0 : Env0 P w K mg (hidT s.heap (startH K a vs ns)) callerA [] s (startH K a vs ns) := ⟨rfl, md, fun b o e => of_hidT e, Nat.le_of_eq (hidT_size _ _), trivial, fun b hb => absurd (show b ∈ ([] : List Addr) from hb) (by simp), ho, .of_eq g0⟩
  refine codeAny_mono (F _ inB (nsp gl) s _ ⟨[.ref a], []⟩ [.ref a] [.ref a] _ _ e0 (bd s (.ref a)) (.cons rfl .nil) (hs _ sq)) ?_
  intro r s' h
  cases r with
  | error e => exact absurd h (fun z => by obtain ⟨_, _, _, _, _, _, z⟩ := z)
  | ok fl =>
    cases fl with
    | next => exact absurd h id
    | brk => exact absurd h id
    | cont => exact absurd h id
    | ret u =>
      obtain ⟨v, H', hos, hb, un, ok', rv, q⟩ := h
      obtain rfl : v = .bl true := q
      obtain rfl : u = Value.bool true := rv
      refine ⟨rfl, OldK.of_keep ?_, hos, hb⟩
      intro b o e
      cases z : startH K a vs ns b with
      | none => exact un.keep b o e z (fun y => absurd (show b ∈ ([] : List Addr) from y) (by simp)) (by simp)
      | some u =>
        obtain ⟨rfl, _, rfl⟩ := startH_some z
        obtain ⟨e2, _⟩ := ok' _ _ (un.frzs _ _ _ z)
        rw [oa] at e
        cases e
        exact e2

theorem walk_ofG {l : PySem.W.OpenLaw} {n : Nat} {q : Program} {loose : List Str} {XP : (Str → Option Value) → Heap → Prop} {YP : World → Heap → Prop} {d : DefRec} {K : Params → PySem.W.Frag} {x : Str}
    (hn : l.most = some n) (n2 : n ≤ sizeLine) (nd : d.params.defaults = []) (hY : ∀ (w : World) (h : Heap), YP w h → (K w.params).In h)
    (F : ∀ (w : World) (mg : Str → Option Value) (fa : Addr) (h : Heap), (K w.params).In h → h.Ns mainGlobals mg → mg d.name = some (.ref fa) →
      ∃ fd : FuncData, (∀ (s : Shared) (u : Value), BindsTo s fd ⟨[u], []⟩ [(x, u)]) ∧ ∀ base : Heap, (K w.params).In base → base.Ns mainGlobals mg → LawRun l.prog w (K w.params) mg base fa fd [x] (spLaw (K w.params)))
    (h63 : n ≤ 63) : PySem.W.WalkO q loose XP YP l.row.toRowW d [] (fun f vs => PySem.call f vs) := by
  refine Att.attach_call hn nd fun w s₀ s₁ mg mb fa o pm cd doc a vs ns G Y ho hd hcd hmg oa iv hlen g0 => ?_
  have inK := hY w _ Y
  obtain ⟨fd, bd, R⟩ := F w mg fa _ inK G.T.g hmg
  exact head_run inK G.T.g G.T.b G.T.builtins G.T.nolimit g0 oa iv (Nat.le_trans hlen n2) bd R fun H hS => ⟨a, ns, rfl, hS, Nat.le_trans hlen h63, fun _ => rfl⟩

/-! ### repr of rows -/
def rReprD (K : Fg) : List V → Hp → VK → Prop := fun xs H Q => ∃ (a : Addr) (d : Dat), xs = [.ref a] ∧ Dp K H (.ref a) d ∧ SeqAt.shaped d = true ∧ d.showable = true ∧ d.shown.length ≤ sizeLine ∧ Q (.str d.shown) H
theorem call_reprD {X : Cx} (hg : X.A.guards = some []) (hu : X.A.units + 65 < cLine) : CallR X (.builtin "repr") (rReprD X.K) := by
  intro pins s σ H xs us Q I r h
  obtain ⟨a, d, rfl, hd, hs, sh, hz, q⟩ := h
  rw [Vals.ref1 r]
  obtain ⟨as, rd⟩ := Dp.reads I d (.ref a) (.ref a) hd rfl
  have h1 := SeqAt.depth_of_shaped hs
  exact repr_of_reads' rd sh (PyData.noDict_hsm (PyData.hasDict_of_canLay d (SeqAt.canLay_of_shaped hs))) hg (by omega) (fun _ _ e => e) (fun h' u tk k => ⟨.str _, H, I.kept k, ⟨u, rfl⟩, q⟩) hz
def reprD : Dat → Option RV
  | .list ds => if SeqAt.shaped (.list ds) && PyData.showable (.list ds) && line (PyData.shown (.list ds)).length then some (.im (.str (PyData.shown (.list ds)))) else none
  | .tuple ds => if SeqAt.shaped (.tuple ds) && PyData.showable (.tuple ds) && line (PyData.shown (.tuple ds)).length then some (.im (.str (PyData.shown (.tuple ds)))) else none
  | _ => none
theorem reprD_ok {K : Fg} : C1Snd K (rReprD K) reprD := by
  intro G F ps σ H x d out Q R hx hg q
  unfold reprD at hg
  split at hg
  · split at hg
    · rename_i ds hc
      cases hg
      simp only [Bool.and_eq_true] at hc
      have D := BRel.dp R.fh hc.1.1 hx
      obtain ⟨a, vs, rfl, _⟩ := bLst hx
      exact ⟨a, _, rfl, D, hc.1.1, hc.1.2, line_le hc.2, out_im R (by unfold Rel; rfl) q⟩
    · cases hg
  · split at hg
    · rename_i ds hc
      cases hg
      simp only [Bool.and_eq_true] at hc
      have D := BRel.dp R.fh hc.1.1 hx
      obtain ⟨a, vs, rfl, _⟩ := bTup R.fh hx
      exact ⟨a, _, rfl, D, hc.1.1, hc.1.2, line_le hc.2, out_im R (by unfold Rel; rfl) q⟩
    · cases hg
  · cases hg
theorem kc_repr {X : Cx} {K : Fg} (hK : X.K = K) (hg : X.A.guards = some []) (hu : X.A.units + 65 < cLine) : CallR X (.builtin "repr") (rReprD K) := by subst hK; exact call_reprD hg hu

/-! ### texts of code points -/
def okS (x : Str) : Prop := ∀ c ∈ x.cps.toList, c < 0x110000
theorem okS.iff {x : Str} (h : okS x) : PyData.strOk x = true := by
  unfold PyData.strOk
  rw [Array.all_eq_true']
  intro c hc
  exact decide_eq_true (h c (by simpa using hc))
theorem okS.app {x y : Str} (h : okS x) (g : okS y) : okS (x ++ y) := by
  intro c hc
  rw [Str.cps_append, Array.toList_append, List.mem_append] at hc
  exact hc.elim (h c) (g c)
theorem okS.lit (s : String) : okS (Str.ofString s) := by
  intro c hc
  rw [Str.ofString_eq_toList] at hc
  obtain ⟨ch, _, rfl⟩ := List.mem_map.mp (show c ∈ s.toList.map Char.toNat by simpa using hc)
  have := ch.valid
  show ch.val.toNat < 1114112
  rcases this with h | h
  · exact Nat.lt_trans h (by decide)
  · exact h.2
theorem okS.from : ∀ {ts : List Str} {k : Nat} {acc : Str}, okS acc → (∀ t ∈ ts, okS t) → okS (textFrom k acc ts)
  | [], _, _, h, _ => h
  | t :: ts, k, acc, h, g => by
    show okS (textFrom (k + 1) (acc ++ Str.ofString (if k > 0 then ", " else "") ++ t) ts)
    exact okS.from (ts := ts) ((h.app (.lit _)).app (g t (List.mem_cons_self ..))) fun x hx => g x (List.mem_cons_of_mem _ hx)
theorem okS.join : ∀ {ts : List Str}, (∀ t ∈ ts, okS t) → okS (Str.join ", " ts)
  | [], _ => by
    intro c hc
    have hc : c ∈ (#[] : Array Nat).toList := hc
    simp at hc
  | [x], g => g x (List.mem_cons_self ..)
  | x :: y :: r, g => ((g x (List.mem_cons_self ..)).app (.lit _)).app (okS.join (ts := y :: r) fun z hz => g z (List.mem_cons_of_mem _ hz))
theorem okS_list {ts : List Str} (g : ∀ t ∈ ts, okS t) : okS (listText ts) := (okS.from (.lit _) g).app (.lit _)
theorem okS_tuple {ts : List Str} (g : ∀ t ∈ ts, okS t) : okS (tupleText ts) := by
  unfold tupleText
  exact ((okS.lit _).app (.join g)).app (.lit _)
theorem okS_int {i : Int} : okS (PyData.shown (.int i)) := by
  rw [PyData.shown]
  exact .lit _
/-! ### rows whose repr fits -/
structure Lit (k w : Nat) (d : Dat) : Prop where
  sh : shd k d
  wt : d.weight ≤ w
  st : d.intsShort 13 = true
  ok : d.showable = true
  os : okS d.shown
theorem Lit.int {i : Int} (h1 : -999999999999 ≤ i) (h2 : i ≤ 999999999999) : Lit 0 41 (.int i) := by
  refine ⟨shd_int, ?_, intsShort_of_noneOrInC (lo := i) (hi := i) h1 h2 (.int i) (by unfold noneOrInC; simp), ?_, okS_int⟩
  · rw [PyData.weight]
    split
    · omega
    · rename_i h
      have h0 : i.natAbs ≠ 0 := by
        intro z
        exact h (by have : i = 0 := by omega
                    rw [this]; rfl)
      have : i.natAbs.log2 < 40 := (Nat.log2_lt h0).mpr (by omega)
      omega
  · rw [PyData.showable, decide_eq_true_eq]
    by_cases h0 : i.natAbs = 0
    · rw [h0]
      decide
    · exact Nat.lt_of_lt_of_le ((Nat.log2_lt h0).mpr (show i.natAbs < 2 ^ 40 by omega)) (by decide)
theorem lit_all {k w : Nat} : ∀ {ds : List Dat}, (∀ d ∈ ds, Lit k w d) → PyData.weightAll ds ≤ ds.length * (w + 1) ∧ PyData.intsShortAll 13 ds = true ∧ PyData.showableAll ds = true ∧ ∀ t ∈ PyData.shownAll ds, okS t
  | [], _ => ⟨by rw [PyData.weightAll]; exact Nat.zero_le _, by rw [PyData.intsShortAll], by rw [PyData.showableAll], by rw [PyData.shownAll]; intro t ht; cases ht⟩
  | d :: ds, h => by
    have h1 := h d (List.mem_cons_self ..)
    obtain ⟨a, b, c, e⟩ := lit_all (ds := ds) fun x hx => h x (List.mem_cons_of_mem _ hx)
    refine ⟨?_, by rw [PyData.intsShortAll, h1.st, b]; rfl, by rw [PyData.showableAll, h1.ok, c]; rfl, ?_⟩
    rotate_left
    · rw [PyData.shownAll]
      intro t ht
      rcases List.mem_cons.mp ht with rfl | ht
      · exact h1.os
      · exact e t ht
    rw [PyData.weightAll, List.length_cons, Nat.add_mul, Nat.one_mul]
    have := h1.wt
    omega
theorem Lit.list {k w m : Nat} {ds : List Dat} (h : ∀ d ∈ ds, Lit k w d) (hm : ds.length * (w + 1) ≤ m) : Lit (k + 1) m (.list ds) := by
  obtain ⟨a, b, c, e⟩ := lit_all h
  exact ⟨shd_list fun d hd => (h d hd).sh, by rw [PyData.weight]; omega, by rw [PyData.intsShort]; exact b, by rw [PyData.showable]; exact c, by rw [PyData.shown]; exact okS_list e⟩
theorem Lit.tuple {k w m : Nat} {ds : List Dat} (h : ∀ d ∈ ds, Lit k w d) (hm : ds.length * (w + 1) ≤ m) : Lit (k + 1) m (.tuple ds) := by
  obtain ⟨a, b, c, e⟩ := lit_all h
  exact ⟨shd_tuple fun d hd => (h d hd).sh, by rw [PyData.weight]; omega, by rw [PyData.intsShort]; exact b, by rw [PyData.showable]; exact c, by rw [PyData.shown]; exact okS_tuple e⟩
theorem shd_str {n : Nat} {x : Str} (h : okS x) : shd n (.str x) := ⟨by rw [PyData.canLay0]; exact h.iff, by rw [PyData.depth]; exact Nat.zero_le _⟩
theorem Lit.line {k w : Nat} {d : Dat} (h : Lit k w d) (hk : k ≤ 64) (hw : w ≤ 1048576) : MP.line d.shown.length = true := by
  have h1 : PyData.layable0 d = true := by
    unfold PyData.layable0
    rw [h.sh.1, decide_eq_true (Nat.le_trans h.sh.2 hk), decide_eq_true (Nat.le_trans h.wt (Nat.le_trans hw (by decide)))]
    rfl
  have h2 := shown_le13 h1 h.st
  have : sizeLine = 16777216 := rfl
  exact decide_eq_true (by omega)
theorem reprD_lst {k w : Nat} {ds : List Dat} (h : Lit k w (.list ds)) (hk : k ≤ 64) (hw : w ≤ 1048576) : reprD (.list ds) = some (.im (.str (PyData.shown (.list ds)))) := by
  show (if _ then _ else _) = _
  rw [shd_ok h.sh hk, h.ok, h.line hk hw]
  rfl
theorem reprD_tpl {k w : Nat} {ds : List Dat} (h : Lit k w (.tuple ds)) (hk : k ≤ 64) (hw : w ≤ 1048576) : reprD (.tuple ds) = some (.im (.str (PyData.shown (.tuple ds)))) := by
  show (if _ then _ else _) = _
  rw [shd_ok h.sh hk, h.ok, h.line hk hw]
  rfl
theorem Lit.nL {xs : List Nat} (h : ∀ x ∈ xs, x ≤ 999999999999) : ∀ d ∈ MP.nL xs, Lit 0 41 d := by
  intro d hd
  obtain ⟨x, hx, rfl⟩ := List.mem_map.mp hd
  have := h x hx
  exact Lit.int (by omega) (by omega)
end MP

/-! small rules for the plain half -/
namespace MP
open PySem PySem.Spec PyProof.Rows L2
theorem sIx_min {n d k : Nat} : HT.sIx n d (some (k : Int)) = min k n := HT.sIx_nat ..
theorem cut0 {ds : List Dat} {a : Nat} : cutD ds none (some (a : Int)) = ds.take a := by
  unfold cutD
  rw [sIx_min]
  show (ds.drop 0).take (min a ds.length - 0) = _
  rw [List.drop_zero, Nat.sub_zero]
  rcases Nat.le_total a ds.length with h | h
  · rw [Nat.min_eq_left h]
  · rw [Nat.min_eq_right h, List.take_length, List.take_of_length_le h]
theorem cut1 {ds : List Dat} {a : Nat} : cutD ds (some (a : Int)) none = ds.drop a := by
  unfold cutD
  rw [sIx_min]
  show (ds.drop (min a ds.length)).take (ds.length - min a ds.length) = _
  rcases Nat.le_total a ds.length with h | h
  · rw [Nat.min_eq_left h, List.take_of_length_le (by rw [List.length_drop]; exact Nat.le_refl _)]
  · rw [Nat.min_eq_right h, List.drop_length, List.drop_of_length_le h, List.take_nil]
theorem cut2 {ds : List Dat} {a b : Nat} : cutD ds (some (a : Int)) (some (b : Int)) = (ds.drop a).take (b - a) := by
  unfold cutD
  rw [sIx_min, sIx_min]
  rcases Nat.le_total a ds.length with h | h
  · rw [Nat.min_eq_left h]
    rcases Nat.le_total b ds.length with h2 | h2
    · rw [Nat.min_eq_left h2]
    · rw [Nat.min_eq_right h2, List.take_of_length_le (by rw [List.length_drop]; exact Nat.le_refl _), List.take_of_length_le (by rw [List.length_drop]; omega)]
  · rw [Nat.min_eq_right h, List.drop_length, List.drop_of_length_le h, List.take_nil, List.take_nil]
theorem abs_nat {i : Int} : (if i < 0 then -i else i) = (i.natAbs : Int) := by
  split <;> omega
theorem eqD_sh {n m : Nat} {d e : Dat} (h : shd n d) (g : shd m e) (hn : n ≤ 64) (hm : m ≤ 64) : eqD d e = some (.im (.bool (PyData.eqv d e))) := by
  unfold eqD
  rw [shd_ok h hn, shd_ok g hm, Bool.and_self, if_pos rfl]
theorem neD_sh {n m : Nat} {d e : Dat} (h : shd n d) (g : shd m e) (hn : n ≤ 64) (hm : m ≤ 64) : neD d e = some (.im (.bool (!PyData.eqv d e))) := by
  unfold neD
  rw [shd_ok h hn, shd_ok g hm, Bool.and_self, if_pos rfl]
theorem eqvAll_map {α : Type} [DecidableEq α] {f : α → Dat} (hf : ∀ x y, PyData.eqv (f x) (f y) = decide (x = y)) : ∀ {xs ys : List α}, PyData.eqvAll (xs.map f) (ys.map f) = decide (xs = ys)
  | [], [] => by simp [PyData.eqvAll]
  | [], y :: ys => by simp [PyData.eqvAll]
  | x :: xs, [] => by simp [PyData.eqvAll]
  | x :: xs, y :: ys => by
    rw [List.map_cons, List.map_cons, PyData.eqvAll, hf, eqvAll_map hf]
    by_cases h : x = y <;> by_cases g : xs = ys <;> simp [h, g]
theorem eqv_tup {α : Type} [DecidableEq α] {f : α → Dat} (hf : ∀ x y, PyData.eqv (f x) (f y) = decide (x = y)) {xs ys : List α} : PyData.eqv (.tuple (xs.map f)) (.tuple (ys.map f)) = decide (xs = ys) := by
  rw [PyData.eqv, eqvAll_map hf]
theorem eqv_lst {α : Type} [DecidableEq α] {f : α → Dat} (hf : ∀ x y, PyData.eqv (f x) (f y) = decide (x = y)) {xs ys : List α} : PyData.eqv (.list (xs.map f)) (.list (ys.map f)) = decide (xs = ys) := by
  rw [PyData.eqv, eqvAll_map hf]
theorem eqv_nT {xs ys : List Nat} : PyData.eqv (.tuple (nL xs)) (.tuple (nL ys)) = decide (xs = ys) := eqv_tup fun _ _ => eqv_nat
theorem eqv_nLs {xs ys : List Nat} : PyData.eqv (.list (nL xs)) (.list (nL ys)) = decide (xs = ys) := eqv_lst fun _ _ => eqv_nat
/-- numbers in rows, with sign -/
def zL (xs : List Int) : List Dat := xs.map PyData.int
@[simp] theorem zL_len {xs : List Int} : (zL xs).length = xs.length := List.length_map _
theorem zL_app {xs ys : List Int} : zL (xs ++ ys) = zL xs ++ zL ys := List.map_append
theorem zL_at {xs : List Int} {i : Nat} {v : Int} (h : xs[i]? = some v) : atI (zL xs) (i : Int) = some (.int v) := atI_nat (by unfold zL; rw [List.getElem?_map, h]; rfl)
theorem zL_take {xs : List Int} {k : Nat} : (zL xs).take k = zL (xs.take k) := by unfold zL; rw [List.map_take]
theorem zL_drop {xs : List Int} {k : Nat} : (zL xs).drop k = zL (xs.drop k) := by unfold zL; rw [List.map_drop]
theorem zL_rev {xs : List Int} : (zL xs).reverse = zL xs.reverse := by unfold zL; rw [List.map_reverse]
theorem eqv_zT {xs ys : List Int} : PyData.eqv (.tuple (zL xs)) (.tuple (zL ys)) = decide (xs = ys) := eqv_tup fun _ _ => eqv_int
theorem eqv_zLs {xs ys : List Int} : PyData.eqv (.list (zL xs)) (.list (zL ys)) = decide (xs = ys) := eqv_lst fun _ _ => eqv_int
theorem shd_zL {n : Nat} {xs : List Int} : ∀ d ∈ zL xs, shd n d := by
  intro d hd
  obtain ⟨k, _, rfl⟩ := List.mem_map.mp hd
  exact shd_int
theorem nL_z {xs : List Nat} : nL xs = zL (xs.map fun (k : Nat) => (k : Int)) := by
  unfold nL zL
  rw [List.map_map]
  rfl
theorem ints_zL {xs : List Int} : ints? (zL xs) = some xs := by
  induction xs with
  | nil => rfl
  | cons x xs ih =>
    show (ints? (zL xs)).map (x :: ·) = _
    rw [ih]
    rfl
theorem law_true {b : SM} {ps : PS} (h : W b ps fun o => match o with | .rt r _ => r = .im (.bool true) | _ => False) : ∃ ps', b ps = some (.rt (.im (.bool true)) ps') := by
  obtain ⟨o, e, h⟩ := h
  cases o with
  | rt r ps => exact ⟨ps, by rw [e, h]⟩
  | nx _ => exact absurd h id
  | bk _ => exact absurd h id
  | ct _ => exact absurd h id
theorem cv_det {fn : Fn} {ds : List Dat} {dr dr1 : Dr} {r0 : RV} (h : CV fn ds dr fun r dr' => r = r0 ∧ dr' = dr1) : fn ds dr = some (r0, dr1) := by
  obtain ⟨r, dr', e, rfl, rfl⟩ := h
  exact e
/-- the return of one expression -/
theorem w_retw {fe : M RV} {ps ps1 : PS} {r : RV} {o : SOut} {Q : SOut → Prop} (e : fe ps = some (r, ps1)) (e2 : retV r ps1 = some o) (h : Q o) : W (retM fe) ps Q := ⟨o, by rw [e_ret, e]; exact e2, h⟩
/-- a comprehension, as an equation -/
theorem lc_eq {α : Type} {vs : List Nat} {fi : M (List Dat)} {tgt : Dat → PS → Option PS} {tst : M Bool} {elt : M RV} {ps ps1 : PS} (k : α → Dat) (xs : List α) (e : fi ps = some (xs.map k, ps1)) (hl : xs.length ≤ 1000000) (p : α → Bool) (g : α → Dat)
    (step : ∀ x, x ∈ xs → ∃ q1 q2, tgt (k x) (wipeP vs ps1) = some q1 ∧ tst q1 = some (p x, q2) ∧ (p x = false → wipeP vs q2 = wipeP vs ps1) ∧ (p x = true → ∃ q3, keepM elt q2 = some (g x, q3) ∧ wipeP vs q3 = wipeP vs ps1)) :
    lcM vs fi tgt tst elt ps = some (.nw ((xs.filter p).map g), restP vs ps1 (wipeP vs ps1)) := by
  rw [e_lc, e]
  show (lcL vs tgt tst elt (xs.map k) [] (wipeP vs ps1)).bind _ = _
  rw [lcL_map (f := k) p g (Nat.le_of_lt (sz_of hl)) step]
  rfl
theorem mp_eq {α : Type} {vs : List Nat} {fi : M (List Dat)} {tgt : Dat → PS → Option PS} {elt : M RV} {ps ps1 : PS} (k : α → Dat) (xs : List α) (e : fi ps = some (xs.map k, ps1)) (hl : xs.length ≤ 1000000) (g : α → Dat)
    (step : ∀ x, x ∈ xs → ∃ q1 q3, tgt (k x) (wipeP vs ps1) = some q1 ∧ keepM elt q1 = some (g x, q3) ∧ wipeP vs q3 = wipeP vs ps1) :
    lcM vs fi tgt (M.ret true) elt ps = some (.nw (xs.map g), restP vs ps1 (wipeP vs ps1)) := by
  have := lc_eq (vs := vs) (tgt := tgt) (tst := M.ret true) (elt := elt) k xs e hl (fun _ => true) g (fun x hx => by
    obtain ⟨q1, q3, e1, e2, e3⟩ := step x hx
    exact ⟨q1, q1, e1, rfl, (fun z => absurd z.symm Bool.false_ne_true), fun _ => ⟨q3, e2, e3⟩⟩)
  rw [List.filter_eq_self.mpr fun _ _ => rfl] at this
  exact this
/-! loops that may be left ahead of their end -/
theorem w_forR {α : Type} {ps : PS} {Q : SOut → Prop} {fi : M (List Dat)} {tgt : Dat → PS → Option PS} {body : SM} (k : α → Dat) (xs : List α) {ps1 : PS} (e : fi ps = some (xs.map k, ps1)) (I : List α → PS → Prop) (h0 : I [] ps1)
    (step : ∀ pre x post q, xs = pre ++ x :: post → I pre q → ∃ q1, tgt (k x) q = some q1 ∧ W body q1 fun o => match o with | .nx q2 => I (pre ++ [x]) q2 | .ct q2 => I (pre ++ [x]) q2 | .rt r q2 => Q (.rt r q2) | .bk q2 => Q (.nx q2))
    (fin : ∀ q, I xs q → Q (.nx q)) : W (forSM fi tgt body) ps Q := by
  suffices h : ∀ post pre q, xs = pre ++ post → I pre q → ∃ o, forL tgt body (post.map k) q = some o ∧ Q o by
    obtain ⟨o, e2, h2⟩ := h xs [] ps1 rfl h0
    exact ⟨o, by rw [e_for, e]; exact e2, h2⟩
  intro post
  induction post with
  | nil =>
    intro pre q hx h
    rw [List.append_nil] at hx
    subst hx
    exact ⟨_, rfl, fin q h⟩
  | cons x post ih =>
    intro pre q hx h
    obtain ⟨q1, e1, o, e2, h2⟩ := step pre x post q hx h
    cases o with
    | nx q2 =>
      obtain ⟨o, e3, h3⟩ := ih (pre ++ [x]) q2 (by rw [hx]; simp) h2
      exact ⟨o, by simp only [List.map_cons, forL, e1, e2, Option.bind_some, e3], h3⟩
    | ct q2 =>
      obtain ⟨o, e3, h3⟩ := ih (pre ++ [x]) q2 (by rw [hx]; simp) h2
      exact ⟨o, by simp only [List.map_cons, forL, e1, e2, Option.bind_some, e3], h3⟩
    | rt r q2 => exact ⟨_, by simp only [List.map_cons, forL, e1, e2, Option.bind_some], h2⟩
    | bk q2 => exact ⟨_, by simp only [List.map_cons, forL, e1, e2, Option.bind_some], h2⟩
theorem w_whileR {c : M Bool} {b : SM} {ps : PS} {Q : SOut → Prop} (n : Nat) (I : Nat → PS → Prop) (h0 : I n ps)
    (step : ∀ n q, I n q → TV c q fun k q1 => (k = false → Q (.nx q1)) ∧ (k = true → W b q1 fun o => match o with | .nx q2 => ∃ m, m < n ∧ I m q2 | .ct q2 => ∃ m, m < n ∧ I m q2 | .rt r q2 => Q (.rt r q2) | .bk q2 => Q (.nx q2))) : W (whileM c b) ps Q := by
  induction n using Nat.strongRecOn generalizing ps with
  | ind n ih =>
    obtain ⟨k, q1, e1, hf, ht⟩ := step n ps h0
    cases k with
    | false => exact ⟨.nx q1, by rw [whileM_eq, e1]; rfl, hf rfl⟩
    | true =>
      obtain ⟨o, e2, h2⟩ := ht rfl
      cases o with
      | nx q2 =>
        obtain ⟨m, hm, h2⟩ := h2
        obtain ⟨o, e3, h3⟩ := ih m hm h2
        exact ⟨o, by rw [whileM_eq, e1]; simp only [Option.bind_some, if_true, e2, e3], h3⟩
      | ct q2 =>
        obtain ⟨m, hm, h2⟩ := h2
        obtain ⟨o, e3, h3⟩ := ih m hm h2
        exact ⟨o, by rw [whileM_eq, e1]; simp only [Option.bind_some, if_true, e2, e3], h3⟩
      | rt r q2 => exact ⟨_, by rw [whileM_eq, e1]; simp only [Option.bind_some, if_true, e2], h2⟩
      | bk q2 => exact ⟨_, by rw [whileM_eq, e1]; simp only [Option.bind_some, if_true, e2], h2⟩
/-- a statement, worked out by rules -/
@[simp] theorem isi_bool_none  : isiD .bool .none = some (.im (.bool false)) := rfl
@[simp] theorem isi_bool_bool {b : Bool} : isiD .bool (.bool b) = some (.im (.bool true)) := rfl
@[simp] theorem isi_bool_int {i : Int} : isiD .bool (.int i) = some (.im (.bool false)) := rfl
@[simp] theorem isi_bool_str {x : Str} : isiD .bool (.str x) = some (.im (.bool false)) := rfl
@[simp] theorem isi_bool_list {ds : List Dat} : isiD .bool (.list ds) = some (.im (.bool false)) := rfl
@[simp] theorem isi_bool_tuple {ds : List Dat} : isiD .bool (.tuple ds) = some (.im (.bool false)) := rfl
@[simp] theorem isi_int_none  : isiD .int .none = some (.im (.bool false)) := rfl
@[simp] theorem isi_int_bool {b : Bool} : isiD .int (.bool b) = some (.im (.bool true)) := rfl
@[simp] theorem isi_int_int {i : Int} : isiD .int (.int i) = some (.im (.bool true)) := rfl
@[simp] theorem isi_int_str {x : Str} : isiD .int (.str x) = some (.im (.bool false)) := rfl
@[simp] theorem isi_int_list {ds : List Dat} : isiD .int (.list ds) = some (.im (.bool false)) := rfl
@[simp] theorem isi_int_tuple {ds : List Dat} : isiD .int (.tuple ds) = some (.im (.bool false)) := rfl
@[simp] theorem isi_str_none  : isiD .str .none = some (.im (.bool false)) := rfl
@[simp] theorem isi_str_bool {b : Bool} : isiD .str (.bool b) = some (.im (.bool false)) := rfl
@[simp] theorem isi_str_int {i : Int} : isiD .str (.int i) = some (.im (.bool false)) := rfl
@[simp] theorem isi_str_str {x : Str} : isiD .str (.str x) = some (.im (.bool true)) := rfl
@[simp] theorem isi_str_list {ds : List Dat} : isiD .str (.list ds) = some (.im (.bool false)) := rfl
@[simp] theorem isi_str_tuple {ds : List Dat} : isiD .str (.tuple ds) = some (.im (.bool false)) := rfl
@[simp] theorem isi_list_none  : isiD .list .none = some (.im (.bool false)) := rfl
@[simp] theorem isi_list_bool {b : Bool} : isiD .list (.bool b) = some (.im (.bool false)) := rfl
@[simp] theorem isi_list_int {i : Int} : isiD .list (.int i) = some (.im (.bool false)) := rfl
@[simp] theorem isi_list_str {x : Str} : isiD .list (.str x) = some (.im (.bool false)) := rfl
@[simp] theorem isi_list_list {ds : List Dat} : isiD .list (.list ds) = some (.im (.bool true)) := rfl
@[simp] theorem isi_list_tuple {ds : List Dat} : isiD .list (.tuple ds) = some (.im (.bool false)) := rfl
@[simp] theorem isi_tuple_none  : isiD .tuple .none = some (.im (.bool false)) := rfl
@[simp] theorem isi_tuple_bool {b : Bool} : isiD .tuple (.bool b) = some (.im (.bool false)) := rfl
@[simp] theorem isi_tuple_int {i : Int} : isiD .tuple (.int i) = some (.im (.bool false)) := rfl
@[simp] theorem isi_tuple_str {x : Str} : isiD .tuple (.str x) = some (.im (.bool false)) := rfl
@[simp] theorem isi_tuple_list {ds : List Dat} : isiD .tuple (.list ds) = some (.im (.bool false)) := rfl
@[simp] theorem isi_tuple_tuple {ds : List Dat} : isiD .tuple (.tuple ds) = some (.im (.bool true)) := rfl
@[simp] theorem isi2_lt_none  : isi2D .list .tuple .none = some (.im (.bool false)) := rfl
@[simp] theorem isN_none  : isND .none .none = some (.im (.bool true)) := rfl
@[simp] theorem notN_none  : notND .none .none = some (.im (.bool false)) := rfl
@[simp] theorem isi2_lt_bool {b : Bool} : isi2D .list .tuple (.bool b) = some (.im (.bool false)) := rfl
@[simp] theorem isN_bool {b : Bool} : isND (.bool b) .none = some (.im (.bool false)) := rfl
@[simp] theorem notN_bool {b : Bool} : notND (.bool b) .none = some (.im (.bool true)) := rfl
@[simp] theorem isi2_lt_int {i : Int} : isi2D .list .tuple (.int i) = some (.im (.bool false)) := rfl
@[simp] theorem isN_int {i : Int} : isND (.int i) .none = some (.im (.bool false)) := rfl
@[simp] theorem notN_int {i : Int} : notND (.int i) .none = some (.im (.bool true)) := rfl
@[simp] theorem isi2_lt_str {x : Str} : isi2D .list .tuple (.str x) = some (.im (.bool false)) := rfl
@[simp] theorem isN_str {x : Str} : isND (.str x) .none = some (.im (.bool false)) := rfl
@[simp] theorem notN_str {x : Str} : notND (.str x) .none = some (.im (.bool true)) := rfl
@[simp] theorem isi2_lt_list {ds : List Dat} : isi2D .list .tuple (.list ds) = some (.im (.bool true)) := rfl
@[simp] theorem isN_list {ds : List Dat} : isND (.list ds) .none = some (.im (.bool false)) := rfl
@[simp] theorem notN_list {ds : List Dat} : notND (.list ds) .none = some (.im (.bool true)) := rfl
@[simp] theorem isi2_lt_tuple {ds : List Dat} : isi2D .list .tuple (.tuple ds) = some (.im (.bool true)) := rfl
@[simp] theorem isN_tuple {ds : List Dat} : isND (.tuple ds) .none = some (.im (.bool false)) := rfl
@[simp] theorem notN_tuple {ds : List Dat} : notND (.tuple ds) .none = some (.im (.bool true)) := rfl
theorem mul_int {i j : Int} (h : i.natAbs ≤ 1000000 ∨ j.natAbs ≤ 1000000) : mulD (.int i) (.int j) = some (.im (.int (i * j))) := by
  show (if sm64 i || sm64 j then _ else _) = _
  rw [if_pos]
  rw [Bool.or_eq_true]
  unfold sm64
  rcases h with h | h
  · left; simp; omega
  · right; simp; omega
theorem mul_rep {ds : List Dat} {k : Nat} (hk : k ≤ 1000000) (h : ds.length * k ≤ 1000000) : mulD (.list ds) (.int (k : Int)) = some (.nw (List.replicate k ds).flatten) := by
  show (if b62 (k : Int) && line (ds.length * (k : Int).toNat) then some (RV.nw (List.replicate (k : Int).toNat ds).flatten) else none) = _
  rw [Int.toNat_natCast, b62_nat hk, line_of h]
  rfl
theorem bools_map {α : Type} {f : α → Bool} : ∀ {xs : List α}, bools? (xs.map fun x => PyData.bool (f x)) = some (xs.map f)
  | [] => rfl
  | x :: xs => by
    show (bools? (xs.map fun x => PyData.bool (f x))).map (f x :: ·) = _
    rw [bools_map]
    rfl
theorem rgB_n' {a b : Int} (h : a.natAbs ≤ 1000000) (h2 : b.natAbs ≤ 1000000) : rgB (a, b) = true := by
  unfold rgB
  simp only [Bool.and_eq_true, decide_eq_true_eq]
  omega
theorem rgD_z {i : Int} {n : Nat} : rgD i n = zL ((List.range n).map fun (k : Nat) => i + (k : Int)) := by
  unfold rgD zL
  rw [List.map_map]
  rfl
theorem b62_int {i : Int} (h : i.natAbs ≤ 1000000) : b62 i = true := by
  unfold b62
  rw [decide_eq_true_eq]
  omega
/-- an index from the end -/
theorem atI_neg {ds : List Dat} {k : Nat} {d : Dat} (hk : 0 < k) (h : ds[ds.length - k]? = some d) (hl : k ≤ ds.length) : atI ds (-(k : Int)) = some d := by
  unfold atI ixN
  rw [if_neg (by omega), if_pos (by omega)]
  have e : (-(k : Int) + (ds.length : Int)).toNat = ds.length - k := by omega
  rw [e]
  exact h
theorem ixN_neg {n k : Nat} (hk : 0 < k) (hl : k ≤ n) : ixN n (-(k : Int)) = some (n - k) := by
  unfold ixN
  rw [if_neg (by omega), if_pos (by omega)]
  have e : (-(k : Int) + (n : Int)).toNat = n - k := by omega
  rw [e]
theorem mod_posI {x y : Int} (h : 0 < y) : modD (.int x) (.int y) = some (.im (.int (x % y))) := by
  show (if decide (y ≠ 0) then _ else _) = _
  rw [if_pos (decide_eq_true (by omega))]
  show some (RV.im (.int (x.fmod y))) = _
  rw [Int.fmod_eq_emod_of_nonneg _ (by omega)]
theorem fdiv_posI {x y : Int} (h : 0 < y) (h2 : y ≤ 1000000) : fdivD (.int x) (.int y) = some (.im (.int (x / y))) := by
  show (if decide (y ≠ 0) && decide (y.natAbs < 1073741824) then _ else _) = _
  rw [decide_eq_true (show y ≠ 0 by omega), decide_eq_true (show y.natAbs < 1073741824 by omega), Bool.and_self, if_pos rfl]
  show some (RV.im (.int (x.fdiv y))) = _
  rw [Int.fdiv_eq_ediv_of_nonneg _ (by omega)]
theorem nin_map {α : Type} [DecidableEq α] {f : α → Dat} {k : Nat} (hk : k < 64) (hf : ∀ x y, PyData.eqv (f x) (f y) = decide (x = y)) (hs : ∀ x, shd k (f x)) {xs : List α} {x : α} : ninD (f x) (.list (xs.map f)) = some (.im (.bool (!decide (x ∈ xs)))) := by
  show (if SeqAt.shaped _ && SeqAt.shaped _ then _ else _) = _
  have h1 : SeqAt.shaped (.list (xs.map f)) = true := shd_ok (n := k + 1) (shd_list fun d hd => by
    obtain ⟨y, _, rfl⟩ := List.mem_map.mp hd
    exact hs y) (by omega)
  have h2 : ((xs.map f).any fun z => PyData.eqv z (f x)) = decide (x ∈ xs) := by
    rw [List.any_map]
    induction xs with
    | nil => simp
    | cons y ys ih =>
      have ih' := ih (shd_ok (n := k + 1) (shd_list fun d hd => by
        obtain ⟨y, _, rfl⟩ := List.mem_map.mp hd
        exact hs y) (by omega))
      rw [List.any_cons, ih']
      show (PyData.eqv (f y) (f x) || _) = _
      rw [hf]
      by_cases e : y = x
      · subst e; simp
      · have : ¬ x = y := fun z => e z.symm
        simp [e, this]
  rw [h1, shd_ok (hs x) (by omega), Bool.and_self, if_pos rfl]
  first
    | rw [if_pos rfl, h2]
    | rw [h2]
theorem in_map {α : Type} [DecidableEq α] {f : α → Dat} {k : Nat} (hk : k < 64) (hf : ∀ x y, PyData.eqv (f x) (f y) = decide (x = y)) (hs : ∀ x, shd k (f x)) {xs : List α} {x : α} : inD (f x) (.list (xs.map f)) = some (.im (.bool (decide (x ∈ xs)))) := by
  show (if SeqAt.shaped _ && SeqAt.shaped _ then _ else _) = _
  have h1 : SeqAt.shaped (.list (xs.map f)) = true := shd_ok (n := k + 1) (shd_list fun d hd => by
    obtain ⟨y, _, rfl⟩ := List.mem_map.mp hd
    exact hs y) (by omega)
  have h2 : ((xs.map f).any fun z => PyData.eqv z (f x)) = decide (x ∈ xs) := by
    rw [List.any_map]
    induction xs with
    | nil => simp
    | cons y ys ih =>
      have ih' := ih (shd_ok (n := k + 1) (shd_list fun d hd => by
        obtain ⟨y, _, rfl⟩ := List.mem_map.mp hd
        exact hs y) (by omega))
      rw [List.any_cons, ih']
      show (PyData.eqv (f y) (f x) || _) = _
      rw [hf]
      by_cases e : y = x
      · subst e; simp
      · have : ¬ x = y := fun z => e z.symm
        simp [e, this]
  rw [h1, shd_ok (hs x) (by omega), Bool.and_self, if_pos rfl]
  first
    | rw [if_neg (by decide), h2]
    | rw [h2]
/-- pairs of numbers -/
def p2 (z : Nat × Nat) : Dat := .tuple [.int (z.1 : Int), .int (z.2 : Int)]
theorem eqv_p2 (x y : Nat × Nat) : PyData.eqv (p2 x) (p2 y) = decide (x = y) := by
  obtain ⟨a, b⟩ := x
  obtain ⟨c, d⟩ := y
  show PyData.eqv (.tuple (nL [a, b])) (.tuple (nL [c, d])) = _
  rw [eqv_nT]
  exact decide_eq_decide.mpr ⟨fun h => by simp at h; rw [h.1, h.2], fun h => by cases h; rfl⟩
theorem shd_p2 (x : Nat × Nat) : shd 1 (p2 x) := shd_tuple (n := 0) (shd_nL (xs := [x.1, x.2]))
theorem w_cut {f : SM} {ps : PS} {R : SOut → Prop} (P : PS → Prop) (h : W f ps fun o => match o with | .nx q => P q | _ => False) (g : ∀ q, P q → R (.nx q)) : W f ps R := by
  obtain ⟨o, e, h⟩ := h
  cases o with
  | nx q => exact ⟨_, e, g q h⟩
  | rt r q => exact absurd h id
  | bk q => exact absurd h id
  | ct q => exact absurd h id
theorem w_imp {f : SM} {ps : PS} {R Q : SOut → Prop} (h : W f ps R) (g : ∀ o, R o → Q o) : W f ps Q := by
  obtain ⟨o, e, h⟩ := h
  exact ⟨o, e, g o h⟩
theorem idxOf_cast {s : Nat} : ∀ {p : List Nat}, (p.map fun (k : Nat) => (k : Int)).idxOf (s : Int) = p.idxOf s
  | [] => rfl
  | x :: p => by
    have e : ((x : Int) == (s : Int)) = (x == s) := by
      by_cases h : x = s
      · rw [h, beq_self_eq_true, beq_self_eq_true]
      · rw [beq_eq_false_iff_ne.mpr h, beq_eq_false_iff_ne.mpr (fun z => h (Int.ofNat_inj.mp z))]
    rw [List.map_cons, List.idxOf_cons, List.idxOf_cons, idxOf_cast (p := p), e]
end MP

/-! draws of the second sort: the state is a place and a rest, the script is read again and again -/
namespace MP
open PySem PySem.Spec PyProof.Rows L2
/-- the script, handed on -/
def tokB (ns : List Int) : Dat := .dict [(.none, .none), (.none, .list (zL ns))]
def drawB (rf : Fn) : Fn := fun ds dr => match ds, dr with
  | [.dict [], s, .int size], .B k c => if decide (size ≠ 0) && decide (size.natAbs < 1073741824) then
      (if c = 0 then (rf [s, .int k] .no).bind fun y => match y.1, y.2 with
        | .im (.int v), .no => some (.im (.int (v.fmod size)), .B (k + 1) (v.fdiv size))
        | _, _ => none
      else some (.im (.int (c.fmod size)), .B k (c.fdiv size)))
    else none
  | _, _ => none
theorem drawB_args {rf : Fn} {ds : List Dat} {dr dr' : Dr} {r : RV} (e : drawB rf ds dr = some (r, dr')) : ∃ (s : Dat) (size k c : Int), ds = [.dict [], s, .int size] ∧ dr = .B k c ∧ (size ≠ 0 ∧ size.natAbs < 1073741824) ∧
    ((c = 0 ∧ ∃ v, rf [s, .int k] .no = some (.im (.int v), .no) ∧ r = .im (.int (v.fmod size)) ∧ dr' = .B (k + 1) (v.fdiv size)) ∨ (c ≠ 0 ∧ r = .im (.int (c.fmod size)) ∧ dr' = .B k (c.fdiv size))) := by
  unfold drawB at e
  split at e
  · rename_i s size k c
    split at e
    · rename_i h
      simp only [Bool.and_eq_true, decide_eq_true_eq] at h
      refine ⟨s, size, k, c, rfl, rfl, h, ?_⟩
      split at e
      · rename_i hc
        obtain ⟨⟨y1, y2⟩, e1, e⟩ := Option.bind_eq_some_iff.mp e
        simp only at e
        split at e
        · cases e
          exact .inl ⟨hc, _, e1, rfl, rfl⟩
        · cases e
      · rename_i hc
        cases e
        exact .inr ⟨hc, rfl, rfl⟩
    · cases e
  · cases e
theorem drawB_vals {K : Fg} {F : Hp} {T : Addr} {s : Dat} {size : Int} {vs : List V} (h : RelL K F T [.dict [], s, .int size] vs) : ∃ u, vs = [.ref T, u, .int size] ∧ Rel K F T s u := by
  unfold RelL at h
  obtain ⟨y, ys, rfl, h1, h2⟩ := h
  unfold RelL at h2
  obtain ⟨z, zs, rfl, h3, h4⟩ := h2
  unfold RelL at h4
  obtain ⟨z4, zs4, rfl, h5, h6⟩ := h4
  unfold RelL at h6
  unfold Rel at h1
  rw [h1, rInt.mp h5, h6]
  exact ⟨z, rfl, h3⟩
/-- behind a draw -/
theorem draw_endB {K : Fg} {G : Ctl} {F F1 H H1 H' : Hp} {Q : VK} {k c k' c' r : Int} (st : G.st = true) (fs : Same F F1) (fh : Same F1 H1) (ft : F G.T = none ∧ F G.C = none) (da : DrAt G.T G.C H (.B k c)) (kp : ∀ a o, H a = some o → H1 a = some o) (nf : ∀ a, H a ≠ none → F1 a = F a)
    (dom : ∀ a, H1 a = none → H a = none) (eH : H' = upd H1 G.T (.lst [.int k', .int c']))
    (q : ∀ v F' H', Same F F' → Same F' H' → (∀ a o, H a = some o → ¬ G.ex a → H' a = some o) → (∀ a, H a ≠ none → F' a = F a) → (G.st = true → DrAt G.T G.C H' (.B k' c')) → (G.st = false → Dr.B k' c' = .no) → (∀ a, H' a = none → H a = none) → RetOk K F' G.T H H' (.im (.int r)) v → Q v H') : Q (.int r) H' := by
  obtain ⟨h1, h2⟩ := da
  subst eH
  have fT : F1 G.T = none := by rw [nf _ (by rw [h1]; simp)]; exact ft.1
  refine q _ F1 _ fs (fun b x e => ?_) (fun a o e nx => ?_) nf (fun _ => ⟨upd_same, h2⟩) (fun h => by rw [st] at h; cases h) (fun a h => ?_) (show RetOk K F1 G.T H _ (.im (.int r)) (V.int r) from (rInt (K := K) (F := F1) (T := G.T)).mpr rfl)
  · have b1 : b ≠ G.T := by rintro rfl; rw [fT] at e; cases e
    rw [upd_ne b1]
    exact fh _ _ e
  · have b1 : a ≠ G.T := fun z => nx ⟨st, .inl z⟩
    rw [upd_ne b1]
    exact kp _ _ e
  · by_cases b1 : a = G.T
    · subst b1; rw [upd_same] at h; cases h
    · rw [upd_ne b1] at h
      exact dom a h
theorem sql_new {K : Fg} {H : Hp} {p a : Addr} {o : HO} {xs : List V} (hS : SqL K H a xs) (hp : H p = none) : (Rd (upd H p o) a (.lst xs) ∧ a ≠ p) ∨ ∀ F : Hp, SqL K F a xs := by
  rcases hS with (h | ⟨u, h⟩) | h
  · have hn : a ≠ p := by rintro rfl; rw [hp] at h; cases h
    exact .inl ⟨.inl (by rw [upd_ne hn]; exact h), hn⟩
  · have hn : a ≠ p := by rintro rfl; rw [hp] at h; cases h
    exact .inl ⟨.inr ⟨u, by rw [upd_ne hn]; exact h⟩, hn⟩
  · exact .inr fun F => .inr h
/-- the law behind its state -/
theorem law_restB {K : Fg} {t : TS} {f : SM} (h : SndS K t f) {N i i0 : Nat} (hi : i < N) (hi0 : i0 < N) (hne : i0 ≠ i) {T a : Addr} {ns : List Int} {σ : L2.St} {H : Hp} (hl : σ.length = N) (hs : σ[i]? = some (some (.ref T))) (hs0 : σ[i0]? = some (some (.ref a)))
    (hT : H T = some (.lst [.int 0, .int 0])) (hS : (Rd H a (.lst (ns.map V.int)) ∧ a ≠ T) ∨ ∀ F : Hp, SqL K F a (ns.map V.int)) {ps' : PS} (e : f ⟨((List.replicate N Sl.un).set i0 (.fr (tokB ns))).set i (.fr (.dict [])), .B 0 0⟩ = some (.rt (.im (.bool true)) ps')) {D : Ends} (q : ∀ H', D.rt (.bl true) H') : t D σ H := by
  obtain ⟨F0, hF0T, hSF, same⟩ : ∃ F0 : Hp, F0 T = none ∧ SqL K F0 a (ns.map V.int) ∧ Same F0 H := by
    rcases hS with ⟨h, hTa⟩ | h
    · refine ⟨fun b => if b = a then H a else none, if_neg (Ne.symm hTa), ?_, fun b o e => ?_⟩
      · rcases h with h | ⟨o, h⟩
        · exact .inl (.inl ((if_pos rfl).trans h))
        · exact .inl (.inr ⟨o, (if_pos rfl).trans h⟩)
      · by_cases hb : b = a
        · have e : (if b = a then H a else none) = some o := e
          rw [if_pos hb] at e
          rw [hb]
          exact e
        · have e : (if b = a then H a else none) = some o := e
          rw [if_neg hb] at e
          cases e
    · exact ⟨fun _ => none, rfl, h _, fun b o e => nomatch e⟩
  have hrl : RelL K F0 T (zL ns) (ns.map V.int) := by
    clear hSF hS e same
    induction ns with
    | nil => unfold RelL zL; rfl
    | cons x ns ih =>
      show RelL K F0 T (.int x :: zL ns) (.int x :: ns.map V.int)
      exact .cons (rInt.mpr rfl) ih
  have R : Rep ⟨H, F0, T, T, true⟩ K F0 ⟨((List.replicate N Sl.un).set i0 (.fr (tokB ns))).set i (.fr (.dict [])), .B 0 0⟩ σ H := by
    refine ⟨by simp [hl], fun j s e => ?_, fun a b da db p ha hb _ _ => ?_, fun _ => ⟨hT, rfl⟩, fun _ => ⟨hF0T, hF0T, (show H T ≠ none by rw [hT]; simp), (show H T ≠ none by rw [hT]; simp)⟩, same, fun a o e _ => e, fun _ _ => rfl, Same.refl _, fun h => (nomatch h)⟩
    · rcases getSet e with ⟨rfl, rfl, _⟩ | ⟨hj, e⟩
      · exact ⟨_, hs, _, rfl, by unfold Rel; rfl⟩
      · rcases getSet e with ⟨rfl, rfl, _⟩ | ⟨hj0, e⟩
        · refine ⟨_, hs0, _, rfl, ?_⟩
          show Rel K F0 T (tokB ns) (.ref a)
          unfold tokB Rel
          exact ⟨a, _, rfl, hSF, hrl⟩
        · have z := List.mem_of_getElem? e
          rw [List.mem_replicate] at z
          have hlt := ltOf e
          rw [List.length_replicate] at hlt
          rw [z.2]
          exact ⟨σ[j]'(by omega), List.getElem?_eq_getElem (by omega), trivial⟩
    · exfalso
      rcases getSet ha with ⟨_, z, _⟩ | ⟨_, z⟩
      · cases z
      · rcases getSet z with ⟨_, z, _⟩ | ⟨_, z⟩
        · cases z
        · have w := List.mem_of_getElem? z
          rw [List.mem_replicate] at w
          exact nomatch w.2
  refine h.go _ _ _ σ H _ D R e ?_
  intro v F' σ' H' _ _ hr
  have hr : Rel K F' T (.bool true) v := hr
  rw [rBl.mp hr]
  exact q H'
end MP

/-! gcd -/
namespace MP
open PySem PySem.Spec PyProof.Rows L2
def gcdD : List Dat → Option RV
  | [.int i, .int j] => some (.im (.int ((Nat.gcd i.natAbs j.natAbs : Nat) : Int)))
  | _ => none
theorem gcdD_ok {K : Fg} : CNSnd K rGcd gcdD := by
  intro G F ps σ H vs ds out Q R r hg q
  unfold gcdD at hg
  split at hg
  · cases hg
    unfold RelL at r
    obtain ⟨y, ys, rfl, h1, h2⟩ := r
    unfold RelL at h2
    obtain ⟨z, zs, rfl, h3, h4⟩ := h2
    unfold RelL at h4
    subst h4
    rw [rInt.mp h1, rInt.mp h3]
    exact ⟨_, _, rfl, out_im R (by unfold Rel; rfl) q⟩
  · cases hg
section
variable {X : Cx} {e : Expr} {es : List Expr} {t : TA} {g : M (List Dat)} {pos p : Pos} {K : Fg}
theorem k_gcd {x : Str} (hK : X.K = K) (hgl : Gl X x) (hm : X.mg x = some (.builtin "math.gcd")) (ha : DA X (e :: es) t g)
    (hdb : (x == ("__debug__" : Str)) = false := by decide) (he : starEach (e :: es) X.env = (false, eval e X.env) :: starEach es X.env := by rfl) (hp : (backTo pos (starEach es X.env)).any (·.1) = false := by rfl) :
    DE X (.Call (.Name x p) (e :: es) [] pos) (tCB rGcd t) (cnM gcdD g) := by subst hK; exact ⟨pe_callBfun cr_gcd hgl hm ha.pe hdb he hp, snd_callN gcdD_ok ha.sn⟩
@[simp] theorem e_gcd {i j : Int} : gcdD [.int i, .int j] = some (.im (.int ((Nat.gcd i.natAbs j.natAbs : Nat) : Int))) := rfl
end
/-! ### a tuple many times over -/
set_option maxHeartbeats 4000000 in
theorem tuple_mul1W (l : Addr) (items : Array Value) (n : Nat) (dd : Option Addr) (sl : Array (Option Value)) (u : Tok) :
    Meets (Builtin.«tuple.__mul__» ⟨[.ref l, .int 1 u], []⟩) (fun _ R s => s.heap.get? l = some { cls := .type "tuple", dict := dd, data := .seq items n, slots := sl } ∧
      R (.ok (.ret (Value.ref l))) s) :=
  .of_wp fun prog w A R s h => by
    obtain ⟨hp, g, d, tk, os⟩ := s
    obtain ⟨hl, h⟩ := h
    have f1 := AutoSeq1.idx_int
    have c1 : (items.isEmpty || (1 : Int) == 1) = true := by simp
    have c0 : (decide ((1 : Int) < -(2 ^ 63)) || decide ((1 : Int) ≥ 2 ^ 63)) = false := by decide
    wp_walk using wpAny_loadPart' hl
    all_goals (first
      | (refine wpAny_ite_false (decide_eq_false (by rw [c0]; exact Bool.false_ne_true)) ?_; wp_walk using wpAny_loadPart' hl)
      | skip)
    all_goals (first
      | (refine wpAny_ite_true (decide_eq_true c1) ?_; wp_walk using wpAny_loadPart' hl)
      | skip)
    all_goals (first | exact ⟨_, rfl, h⟩ | skip)
/-- once: the tuple itself -/
def rRep1 (K : Fg) : R2 := fun x y H Q => ∃ l xs, x = .ref l ∧ y = .int 1 ∧ SqT K H l xs ∧ Q (.ref l) H
/-- a tuple many times over, tracked with its object -/
def rRepTD (K : Fg) : R2 := fun x y H Q => ∃ (l : Addr) (m : Nat) (xs : List V), x = .ref l ∧ y = .int (m : Int) ∧ SqT K H l xs ∧ 0 < xs.length ∧ 2 ≤ m ∧ m ≤ 1000 ∧ xs.length ≤ 1000 ∧ NewT H (List.replicate m xs).flatten Q
/-- the operator comes to the tuple's own method -/
theorem tup_times {X : Cx} {s : Shared} {Q : Value → Shared → Prop} {l : Addr} {us : Array Value} {n : Nat} {dd : Option Addr} {sl : Array (Option Value)} {i : Int} {tk : Tok}
    (ho : s.heap.get? l = some ⟨.type "tuple", dd, .seq us n, sl⟩) (go : wpAny (model X.prog X.w) X.A (call (.builtin "tuple.__mul__") [.ref l, .int i tk]) Q X.xe s) :
    wpAny (model X.prog X.w) X.A (binaryOp .Mult (.ref l) (.int i tk)) Q X.xe s := by
  have ty : s.TypeIs (.ref l) "tuple" := ⟨_, ho, rfl⟩
  have ti := fun z : Shared => typeIs_int z i tk
  refine wpAny_binaryOp_repeat_ref (by decide) ty ti noFill_tuple_mul F.fills_int_mul F.slot_int_rmul repeat_tuple F.slot_int_index.lookup ?_
  exact call_meets F.slot_int_rmul (ti s) F.entry_int_rmul (F.args_int_rmul_2 _ _) (int_rmul_tuple i tk l us n dd sl) ⟨ho, rfl, ty, go⟩
theorem op_rep1 {X : Cx} : OpR X (binaryOp .Mult) (rRep1 X.K) := by
  intro pins s σ H x y v u Q I rx ry h
  obtain ⟨l, xs, rfl, rfl, hT, q⟩ := h
  cases rx
  obtain ⟨t, rfl⟩ := ry
  obtain ⟨its, _, ⟨⟨c, dd, da, sl⟩, ho, h1, n, h2⟩, _⟩ := I.tuple hT
  have h1 : c = .type "tuple" := h1
  have h2 : da = .seq its.toArray n := h2
  rw [h1, h2] at ho
  have M := tuple_mul1W l its.toArray n dd sl t
  exact tup_times ho (call_meets F.slot_tuple_mul ⟨_, ho, rfl⟩ F.entry_tuple_mul (F.args_tuple_mul_2 _ _) M ⟨ho, .ref l, H, I, rfl, q⟩)
theorem op_repTD {X : Cx} : OpR X (binaryOp .Mult) (rRepTD X.K) := by
  intro pins s σ H x y v u Q I rx ry h
  obtain ⟨l, m, xs, rfl, rfl, hT, x0, m2, mz, xz, q⟩ := h
  cases rx
  obtain ⟨t, rfl⟩ := ry
  obtain ⟨its, rv, ⟨⟨c, dd, da, sl⟩, ho, h1, n, h2⟩, _⟩ := I.tuple hT
  have h1 : c = .type "tuple" := h1
  have h2 : da = .seq its.toArray n := h2
  rw [h1, h2] at ho
  have len : its.toArray.size = xs.length := List.size_toArray.trans rv.length.symm
  have all : m * xs.length ≤ 1000 * 1000 := Nat.mul_le_mul mz xz
  have line : sizeLine = 16777216 := rfl
  have flat : ∀ {α : Type} (ys : List α), (List.replicate m ys).flatten.length = m * ys.length := fun ys => PyProof.Rows.lm_len_rep_flat ..
  have prod : ((its.toArray.size : Nat) : Int) * (m : Int) = ((m * xs.length : Nat) : Int) := by
    rw [len, Nat.mul_comm m]
    exact (Int.natCast_mul _ _).symm
  have noE : its.toArray.isEmpty = false := by
    rw [Array.isEmpty_eq_false_iff_exists_mem]
    cases its with
    | nil =>
      have : 0 = xs.length := len
      omega
    | cons z zs => exact ⟨z, by simp⟩
  have M := tuple_mulW l its.toArray n dd sl (m : Int) t (by simp; omega) (by rw [noE]; simp; omega) (by rw [noE]; simp; omega) (by rw [prod]; omega) (by unfold Builtin.Tuple.tupleTooMany; rw [prod]; exact decide_eq_false (by omega))
    (by rw [Int.toNat_natCast, size_rep, List.size_toArray, flat, ← rv.length]; omega)
  refine tup_times ho (call_meets F.slot_tuple_mul ⟨_, ho, rfl⟩ F.entry_tuple_mul (F.args_tuple_mul_2 _ _) M ⟨ho, ?_⟩)
  rw [Int.toNat_natCast, size_rep]
  exact q.put I (rv.rep m) (by rw [flat]; omega)
def mulTD : Dat → Dat → Option RV
  | .tuple xs, .int k => if k = 1 then some (.im (.tuple xs)) else if decide (2 ≤ k) && decide (k ≤ 1000) && decide (xs.length ≤ 1000) && !xs.isEmpty then some (.im (.tuple (List.replicate k.toNat xs).flatten)) else none
  | _, _ => none
theorem mulTD_ok {K : Fg} : OpSnd K (R2or (rRepTD K) (rRep1 K)) mulTD := by
  intro G F ps σ H x y d e out Q R hx hy hg q
  unfold mulTD at hg
  split at hg
  · obtain ⟨a, vs, rfl, h1, h2⟩ := bTup R.fh hx
    rw [bInt hy]
    split at hg
    · rename_i hk
      cases hg
      subst hk
      exact .inr ⟨a, vs, rfl, rfl, h1, out_im R hx q⟩
    · split at hg
      · rename_i hk
        cases hg
        simp only [Bool.and_eq_true, decide_eq_true_eq, Bool.not_eq_true'] at hk
        obtain ⟨⟨⟨k1, k2⟩, k3⟩, k4⟩ := hk
        refine .inl ⟨a, (‹Int›).toNat, vs, rfl, by congr 1; omega, h1, ?_, by omega, by omega, by rw [h2.len]; exact k3, ?_⟩
        · rw [h2.len]
          exact List.length_pos_iff.mpr fun z => by rw [z] at k4; cases k4
        · exact out_tp R (h2.rep _) q
      · cases hg
  · cases hg
section
variable {X : Cx} {a b : Expr} {ta tb : TE} {fa fb : M RV} {pos : Pos} {K : Fg}
theorem k_mulT (hK : X.K = K) (ha : DE X a ta fa) (hb : DE X b tb fb) : DE X (.BinOp a .Mult b pos) (tOp (R2or (rRepTD K) (rRep1 K)) ta tb) (opM mulTD fa fb) := by subst hK; exact ⟨pe_op (op_repTD.or op_rep1) ha.pe hb.pe, snd_op mulTD_ok ha.sn hb.sn⟩
end
/-! ### zip of two lists, of two tuples -/
def zipL (ds es : List Dat) : List Dat := (ds.zip es).map fun z => PyData.dict [z]
theorem zipL_get {ds es : List Dat} {i : Nat} {d : Dat} (h : (zipL ds es)[i]? = some d) : ∃ x y, ds[i]? = some x ∧ es[i]? = some y ∧ d = .dict [(x, y)] := by
  unfold zipL at h
  rw [List.getElem?_map] at h
  obtain ⟨z, h1, h2⟩ := Option.map_eq_some_iff.mp h
  obtain ⟨h3, h4⟩ := List.getElem?_zip_eq_some.mp h1
  exact ⟨z.1, z.2, h3, h4, h2.symm⟩
def zipIt (g : M (List Dat)) : M (List Dat) := fun ps => (g ps).bind fun x => match x.1 with
  | [.list ds, .list es] => some (zipL ds es, x.2)
  | [.tuple ds, .tuple es] => some (zipL ds es, x.2)
  | _ => none
theorem rel_two {K : Fg} {F : Hp} {T : Addr} {d e : Dat} {vs : List V} (h : RelL K F T [d, e] vs) : ∃ x y, vs = [x, y] ∧ Rel K F T d x ∧ Rel K F T e y := by
  unfold RelL at h
  obtain ⟨y, ys, rfl, h1, h2⟩ := h
  unfold RelL at h2
  obtain ⟨z, zs, rfl, h3, h4⟩ := h2
  unfold RelL at h4
  subst h4
  exact ⟨y, z, rfl, h1, h3⟩
theorem snd_zip {K : Fg} {t : TA} {g : M (List Dat)} (ha : SndA K t g) : SndI K (RZ.iZipA K t) (zipIt g) := by
  refine ⟨fun G F ps σ H out ps' R Rp e q => ?_⟩
  unfold zipIt at e
  obtain ⟨⟨ws, ps1⟩, e1, e⟩ := Option.bind_eq_some_iff.mp e
  simp only at e
  refine ha.go G F ps σ H ws ps1 _ Rp e1 fun vs F1 H1 P1 r1 => ?_
  split at e
  · rename_i ds es
    cases e
    obtain ⟨x, y, rfl, rx, ry⟩ := rel_two r1
    obtain ⟨a, xs, rfl, h1, h2⟩ := rLst.mp rx
    obtain ⟨b, ys, rfl, h3, h4⟩ := rLst.mp ry
    have fx : ∀ {F2 ps σ H2}, Rep G K F2 ps σ H2 → Same F1 F2 → SqL K H2 a xs ∧ SqL K H2 b ys := fun R s => ⟨SqL.of (R.fh _ _ (s _ _ h1)), SqL.of (R.fh _ _ (s _ _ h3))⟩
    refine ⟨a, b, xs, ys, rfl, .inl ⟨SqL.of (P1.rep.fh _ _ h1), SqL.of (P1.rep.fh _ _ h3), q _ F1 H1 P1 ⟨fun i d e F2 ps σ H2 R s => ?_, fun F2 ps σ H2 R s => ?_⟩⟩⟩
    · obtain ⟨x, y, e2, e3, rfl⟩ := zipL_get e
      obtain ⟨u, e4, ru⟩ := h2.get e2
      obtain ⟨w, e5, rw'⟩ := h4.get e3
      obtain ⟨l1, l2⟩ := fx R s
      refine ⟨⟨xs, ys, u, w, l1, l2, e4, e5⟩, fun v H3 ⟨T, u', w', ev, hT, hH, hx, hy⟩ => ?_⟩
      have e6 := hx xs l1
      have e7 := hy ys l2
      rw [e4] at e6
      rw [e5] at e7
      cases e6
      cases e7
      exact yld_pair R ev hT hH (Rel.mono s _ _ ru) (Rel.mono s _ _ rw')
    · obtain ⟨l1, l2⟩ := fx R s
      refine ⟨xs, ys, l1, l2, ?_⟩
      unfold zipL
      rw [List.length_map, List.length_zip, h2.len, h4.len]
      omega
  · rename_i ds es
    cases e
    obtain ⟨x, y, rfl, rx, ry⟩ := rel_two r1
    obtain ⟨a, xs, rfl, h1, h2⟩ := rTupE rx
    obtain ⟨b, ys, rfl, h3, h4⟩ := rTupE ry
    have fx : ∀ {F2 ps σ H2}, Rep G K F2 ps σ H2 → Same F1 F2 → SqT K H2 a xs ∧ SqT K H2 b ys := fun R s => ⟨seqT (s.trans R.fh) h1, seqT (s.trans R.fh) h3⟩
    refine ⟨a, b, xs, ys, rfl, .inr ⟨seqT P1.rep.fh h1, seqT P1.rep.fh h3, q _ F1 H1 P1 ⟨fun i d e F2 ps σ H2 R s => ?_, fun F2 ps σ H2 R s => ?_⟩⟩⟩
    · obtain ⟨x, y, e2, e3, rfl⟩ := zipL_get e
      obtain ⟨u, e4, ru⟩ := h2.get e2
      obtain ⟨w, e5, rw'⟩ := h4.get e3
      obtain ⟨l1, l2⟩ := fx R s
      refine ⟨⟨xs, ys, u, w, l1, l2, e4, e5⟩, fun v H3 ⟨T, u', w', ev, hT, hH, hx, hy⟩ => ?_⟩
      have e6 := hx xs l1
      have e7 := hy ys l2
      rw [e4] at e6
      rw [e5] at e7
      cases e6
      cases e7
      exact yld_pair R ev hT hH (Rel.mono s _ _ ru) (Rel.mono s _ _ rw')
    · obtain ⟨l1, l2⟩ := fx R s
      refine ⟨xs, ys, l1, l2, ?_⟩
      unfold zipL
      rw [List.length_map, List.length_zip, h2.len, h4.len]
      omega
  · cases e
section
variable {X : Cx} {e e2 : Expr} {t : TA} {g : M (List Dat)} {p pos tpos : Pos} {K : Fg} {elts : List Expr} {kk : Nat}
theorem k_zip (hK : X.K = K) (hg : Gl X "zip") (hm : X.mg "zip" = none) (ha : DA X [e, e2] t g)
    (hs : starEach [e, e2] X.env = (false, eval e X.env) :: starEach [e2] X.env := by rfl) (hpl : (backTo pos (starEach [e2] X.env)).any (·.1) = false := by rfl) :
    DI X (.Tuple elts kk tpos) (.Call (.Name "zip" p) [e, e2] [] pos) (RZ.iZipA K t) (zipIt g) := by subst hK; exact ⟨RZ.pi_zipA hg hm ha.pe hs hpl, snd_zip ha.sn⟩
@[simp] theorem e_zip {ps : PS} : zipIt g ps = (g ps).bind fun x => match x.1 with
  | [.list ds, .list es] => some (zipL ds es, x.2)
  | [.tuple ds, .tuple es] => some (zipL ds es, x.2)
  | _ => none := rfl
@[simp] theorem e_mulT {xs : List Dat} {k : Int} : mulTD (.tuple xs) (.int k) = if k = 1 then some (.im (.tuple xs)) else if decide (2 ≤ k) && decide (k ≤ 1000) && decide (xs.length ≤ 1000) && !xs.isEmpty then some (.im (.tuple (List.replicate k.toNat xs).flatten)) else none := rfl
end
/-! ### walks over an own list in a comprehension -/
theorem sio_enum {K : Fg} {j : Nat} : SndIo K (iEnumA K (tVar j)) j enL := by
  refine ⟨fun G F ps1 σ H ds p ws R Rp es lo rl q => ?_⟩
  refine ⟨.ref p, es, p, ws, rfl, .inl ⟨SqL.of lo.a, q _ ⟨fun i d e F2 ps σ2 H2 R2 s lk => ?_, fun F2 ps σ2 H2 R2 s lk => ?_⟩⟩⟩
  · obtain ⟨z, e3, rfl⟩ := enL_get e
    obtain ⟨u, e4, r⟩ := rl.get e3
    have hl : SqL K H2 p ws := SqL.of (lk p ws lo).a
    refine ⟨⟨ws, u, hl, e4⟩, fun x H3 ⟨T, y, ev, hT, hH, hy⟩ => ?_⟩
    have e5 := hy ws hl
    rw [e4] at e5
    cases e5
    exact yld_pair R2 ev hT hH (by unfold Rel; rfl) (Rel.mono s _ _ r)
  · refine ⟨ws, SqL.of (lk p ws lo).a, ?_⟩
    unfold enL
    rw [rl.len]
    simp
section
variable {X : Cx} {pos p px cpos : Pos} {elt : Expr} {ifs : List Expr} {scope : Scope} {own : List (Str × Nat)} {g : TG} {tt : TT} {te : TE} {is : List Nat} {ft : Dat → PS → Option PS} {ftt : M Bool} {fe : M RV} {K : Fg} {elts : List Expr} {kk : Nat} {tpos : Pos}
theorem k_lcOE {j : Nat} {x : Str} (hK : X.K = K) (hj : X.N[j]? = some x) (hvis : Vis X.env.scope x) (hgl : Gl X "enumerate") (hm : X.mg "enumerate" = none) (hc : X.calm = true) (hN : X.N.Nodup) (ok : BlkOk X.N X.env.scope scope own)
    (hg : ∀ (s : Shared) (H : Hp) (C : Addr) (cl : List (Str × Addr)) (fp : List Addr), DG (X.blk s H scope (compEnvC scope cl C X.env) fp) (.Tuple elts kk tpos) g is ft) (hv : ∀ j ∈ is, j ∈ own.map (·.2)) (ht : ∀ (s : Shared) (H : Hp) (C : Addr) (cl : List (Str × Addr)) (fp : List Addr), DTs (X.blk s H scope (compEnvC scope cl C X.env) fp) ifs tt ftt)
    (he : ∀ (s : Shared) (H : Hp) (C : Addr) (cl : List (Str × Addr)) (fp : List Addr), DE (X.blk s H scope (compEnvC scope cl C X.env) fp) elt te fe) (hs : ∀ y, foldedSetIterable (.Call (.Name "enumerate" p) [.Name x px] [] pos) X.env y = pure y := by intro _; rfl)
    (hdb : (x == ("__debug__" : Str)) = false := by decide) (hcd : (x == ("__classdict__" : Str)) = false := by decide) (hs1 : starEach [.Name x px] X.env = (false, eval (.Name x px) X.env) :: starEach [] X.env := by rfl) (hs2 : starEach [.Name x px] X.env = [(false, eval (.Name x px) X.env)] := by rfl) :
    DE X (.ListComp elt [⟨.Tuple elts kk tpos, .Call (.Name "enumerate" p) [.Name x px] [] cpos, ifs, 0⟩] scope pos) (tLc (iEnumA K (tVar j)) g tt te (own.map (·.2))) (lcOM j enL (own.map (·.2)) ft ftt fe) := by
  subst hK
  exact ⟨pe_lc hc hN (pi_enumA hgl hm (pe_var hj hvis hdb hcd) hs1 hs2) ok (fun s H C cl fp => (hg s H C cl fp).pe) (fun s H C cl fp => (ht s H C cl fp).pe) (fun s H C cl fp => (he s H C cl fp).pe) hs,
    snd_lcO sio_enum (hg ⟨X.s_0.heap, X.s_0.gens, X.s_0.drawn, X.s_0.toks, X.s_0.os⟩ X.H_0 0 [] []).sn hv (ht X.s_0 X.H_0 0 [] []).sn (he X.s_0 X.H_0 0 [] []).sn⟩
end
theorem lc_eqO {α : Type} {j : Nat} {w : List Dat → List Dat} {vs : List Nat} {tgt : Dat → PS → Option PS} {tst : M Bool} {elt : M RV} {ps : PS} {ds : List Dat} (hj : ps.sl[j]? = some (.ow ds)) (k : α → Dat) (xs : List α) (e : w ds = xs.map k) (hl : xs.length ≤ 1000000) (p : α → Bool) (g : α → Dat)
    (step : ∀ x, x ∈ xs → ∃ q1 q2, tgt (k x) (wipeP vs (ps.put j .un)) = some q1 ∧ tst q1 = some (p x, q2) ∧ (p x = false → wipeP vs q2 = wipeP vs (ps.put j .un)) ∧ (p x = true → ∃ q3, keepM elt q2 = some (g x, q3) ∧ wipeP vs q3 = wipeP vs (ps.put j .un)))
    (hu : isUn j (restP vs (ps.put j .un) (wipeP vs (ps.put j .un))) = true) :
    lcOM j w vs tgt tst elt ps = some (.nw ((xs.filter p).map g), (restP vs (ps.put j .un) (wipeP vs (ps.put j .un))).put j (.ow ds)) := by
  unfold lcOM
  have h1 : oList j ps = some ds := by unfold oList; rw [hj]
  rw [h1, Option.bind_some, e, lcL_map (f := k) p g (Nat.le_of_lt (sz_of hl)) step, Option.bind_some]
  exact if_pos hu
end MP

/-! two `for` in a comprehension -/
namespace MP
open PySem PySem.Spec PyProof.Rows L2

def lcL2 (vs vs1 : List Nat) (tgt : Dat → PS → Option PS) (tst : M Bool) (fi1 : M (List Dat)) (tgt1 : Dat → PS → Option PS) (tst1 : M Bool) (elt : M RV) : List Dat → List Dat → PS → Option (List Dat × PS)
  | [], acc, ps => some (acc, ps)
  | d :: ds, acc, ps => (tgt d ps).bind fun ps1 => (tst ps1).bind fun x => if x.1 then
      (fi1 x.2).bind fun z => (lcL vs1 tgt1 tst1 elt z.1 acc (wipeP vs1 z.2)).bind fun y => lcL2 vs vs1 tgt tst fi1 tgt1 tst1 elt ds y.1 (wipeP vs y.2)
    else lcL2 vs vs1 tgt tst fi1 tgt1 tst1 elt ds acc (wipeP vs x.2)
def lcM2 (vs vs1 : List Nat) (fi : M (List Dat)) (tgt : Dat → PS → Option PS) (tst : M Bool) (fi1 : M (List Dat)) (tgt1 : Dat → PS → Option PS) (tst1 : M Bool) (elt : M RV) : M RV := fun ps =>
  (fi ps).bind fun x => (lcL2 vs vs1 tgt tst fi1 tgt1 tst1 elt x.1 [] (wipeP vs x.2)).bind fun y => some (.nw y.1, restP vs x.2 y.2)
theorem wipe_wipe {σ σ2 : L2.St} {vs vs1 : List Nat} (hv : ∀ j ∈ vs1, j ∈ vs) (h : wipe σ2 vs = wipe σ vs) : wipe (wipe σ2 vs1) vs = wipe σ vs := by
  rw [← h]
  refine wipe_eq (wipe_length σ2 vs1) fun j hj => ?_
  rw [wipe_get, if_neg (fun z => hj (hv j z.1))]
theorem rest_rep {G : Ctl} {K : Fg} {F1 F2 H1 H2 : Hp} {ps1 psE : PS} {σ : L2.St} {vs : List Nat} (R1 : Rep G K F1 ps1 σ H1) (R2 : Rep G K F2 psE (wipe σ vs) H2) (s2 : Same F1 F2) :
    Rep G K F2 (restP vs ps1 psE) σ H2 ∧ ∀ p, Own (restP vs ps1 psE) σ p → Own psE (wipe σ vs) p := by
  have ownB : ∀ (a : Nat) (da : List Dat) (p : Addr), (restP vs ps1 psE).sl[a]? = some (.ow da) → σ[a]? = some (some (.ref p)) → psE.sl[a]? = some (.ow da) ∧ (wipe σ vs)[a]? = some (some (.ref p)) := fun a da p z1 z2 => by
    rw [restP_get] at z1
    split at z1
    · unfold keepSl at z1
      split at z1 <;> cases z1
    · rename_i hn
      refine ⟨z1, ?_⟩
      rw [wipe_get, if_neg]
      · exact z2
      · intro z
        exact hn ⟨z.1, ltOf z1⟩
  have hlen : psE.sl.length = σ.length := by rw [← R2.len, wipe_length]
  refine ⟨⟨?_, fun j s z => ?_, fun a b da db p z1 z2 h1 h2 => ?_, R2.dr, R2.ft, R2.fh, R2.kp, R2.f0, R2.ff, R2.nd⟩, fun p ⟨j, dj, z1, z2⟩ => ⟨j, dj, ownB j dj p z1 z2⟩⟩
  · rw [← hlen]
    exact (foldr_set_len (fun v => keepSl ps1.sl[v]?) psE.sl vs).symm
  · rw [restP_get] at z
    split at z
    · rename_i hj
      cases z
      have hj1 : j < ps1.sl.length := by rw [← R1.len, ← hlen]; exact hj.2
      obtain ⟨o, y1, y2⟩ := R1.slots j _ (List.getElem?_eq_getElem hj1)
      refine ⟨o, y1, ?_⟩
      rw [List.getElem?_eq_getElem hj1]
      cases hs : ps1.sl[j] with
      | un => trivial
      | ow _ => trivial
      | fr d =>
        rw [hs] at y2
        obtain ⟨v, ev, rv⟩ := y2
        exact ⟨v, ev, Rel.mono s2 _ _ rv⟩
    · rename_i hn
      obtain ⟨o, y1, y2⟩ := R2.slots j s z
      refine ⟨o, ?_, y2⟩
      rw [wipe_get, if_neg] at y1
      · exact y1
      · intro w
        exact hn ⟨w.1, ltOf z⟩
  · obtain ⟨w1, w2⟩ := ownB a da p z1 h1
    obtain ⟨w3, w4⟩ := ownB b db p z2 h2
    exact R2.sep _ _ _ _ _ w1 w3 w2 w4
section
variable {K : Fg} {gt1 : TG} {tt1 : TT} {te : TE} {vs1 is1 : List Nat} {tgt1 : Dat → PS → Option PS} {tst1 : M Bool} {elt : M RV}
/-- the second clause's loop: D grows -/
theorem lc_inner {wi1 : TI} {fi1 : M (List Dat)} (hi1 : SndI K wi1 fi1) (hg1 : SndG K gt1 is1 tgt1) (hv1 : ∀ j ∈ is1, j ∈ vs1) (ht1 : SndT K tt1 tst1) (he : SndE K te elt)
    {G : Ctl} {F H : Hp} {ps psI psE : PS} {σ : L2.St} {ds acc out : List Dat} {accV : List V} {D : Addr} {Nx : Hp → Prop} (R : Rep G K F ps σ H) (lD : Loose G F ps σ H D accV) (ra : RelL K F G.T acc accV)
    (e1 : fi1 ps = some (ds, psI)) (e2 : lcL vs1 tgt1 tst1 elt ds acc (wipeP vs1 psI) = some (out, psE))
    (q : ∀ F' outV H', Rep G K F' psE (wipe σ vs1) H' → Same F F' → Loose G F' psE (wipe σ vs1) H' D outV → RelL K F' G.T out outV → (∀ p ws, p ≠ D → Loose G F ps σ H p ws → Loose G F' psE (wipe σ vs1) H' p ws) → (∀ a, H' a = none → H a = none) → Nx H') :
    wi1 σ H fun J1 H4 => ∃ W1 : Nat → Nat → Hp → Prop, (∃ m, W1 0 m H4) ∧ ∀ j k H, W1 j k H →
      (J1.stop j H ∧ Nx H) ∨ (J1.go j H ∧ ∃ Nx1 : Hp → Prop, (∀ H', Nx1 H' → ∃ k', k' < k ∧ W1 (j + 1) k' H') ∧ ∀ x H', J1.yld j H x H' → gt1 x (wipe σ vs1) H' fun σ3 H5 => wipe σ3 vs1 = wipe σ vs1 ∧ tt1 σ3 H5 fun b H6 =>
        if b = true then te σ3 H6 fun y H7 => ∃ acc, H7 D = some (.lst acc) ∧ acc.length < sizeLine ∧ Nx1 (upd H7 D (.lst (acc ++ [y]))) else Nx1 H6) := by
  refine hi1.go G F ps σ H ds psI _ R e1 fun J F1 H1 P1 wk => ?_
  have R1 := P1.rep
  refine ⟨fun i m H2 => ∃ F2 ps2 acc accV, m = ds.length - i ∧ i ≤ ds.length ∧ Rep G K F2 ps2 (wipe σ vs1) H2 ∧ Same F1 F2 ∧ Loose G F2 ps2 (wipe σ vs1) H2 D accV ∧ RelL K F2 G.T acc accV ∧
      lcL vs1 tgt1 tst1 elt (ds.drop i) acc ps2 = some (out, psE) ∧ (∀ p ws, p ≠ D → Loose G F ps σ H p ws → Loose G F2 ps2 (wipe σ vs1) H2 p ws) ∧ (∀ a, H2 a = none → H a = none), ?_, ?_⟩
  · have l1 := lD.post P1
    refine ⟨ds.length, F1, wipeP vs1 psI, acc, accV, by simp, Nat.zero_le _, R1.wipe, Same.refl _, ⟨l1.a, l1.b, l1.c, fun o => l1.d (own_wipe o)⟩, RelL.mono P1.same _ _ ra, e2, fun p ws _ l => ?_, P1.dom⟩
    have l := l.post P1
    exact ⟨l.a, l.b, l.c, fun o => l.d (own_wipe o)⟩
  · rintro i m H2 ⟨F2, ps2, acc, accV, rfl, hi', R2, s2, lD, rl, e3, fk, dm⟩
    by_cases hlt : i < ds.length
    · obtain ⟨go, step⟩ := wk.1 i ds[i] (List.getElem?_eq_getElem hlt) F2 ps2 (wipe σ vs1) H2 R2 s2
      rw [List.drop_eq_getElem_cons hlt] at e3
      unfold lcL at e3
      obtain ⟨ps3, e4, e3⟩ := Option.bind_eq_some_iff.mp e3
      obtain ⟨⟨b, ps4⟩, e5, e3⟩ := Option.bind_eq_some_iff.mp e3
      have e3 : (if b = true then _ else _) = some (out, psE) := e3
      refine .inr ⟨go, fun H' => ∃ F2 ps2 acc accV, Rep G K F2 ps2 (wipe σ vs1) H' ∧ Same F1 F2 ∧ Loose G F2 ps2 (wipe σ vs1) H' D accV ∧ RelL K F2 G.T acc accV ∧
        lcL vs1 tgt1 tst1 elt (ds.drop (i + 1)) acc ps2 = some (out, psE) ∧ (∀ p ws, p ≠ D → Loose G F ps σ H p ws → Loose G F2 ps2 (wipe σ vs1) H' p ws) ∧ (∀ a, H' a = none → H a = none), ?_, fun x H3 y => ?_⟩
      · rintro H' ⟨F', ps', acc', accV', a1, a2, a3, a4, a5, a6, a7⟩
        exact ⟨ds.length - (i + 1), by omega, F', ps', acc', accV', rfl, hlt, a1, a2, a3, a4, a5, a6, a7⟩
      · obtain ⟨F3, P3, rx⟩ := step x H3 y
        refine hg1.go G F3 ps2 (wipe σ vs1) H3 _ x ps3 _ P3.rep rx e4 fun σ4 R4 k4 l4 o4 => ?_
        have hw : wipe σ4 vs1 = wipe σ vs1 := by
          have h1 : wipe σ4 vs1 = wipe (wipe σ vs1) vs1 := wipe_eq l4 fun j hj => k4 j fun z => hj (hv1 j z)
          rw [h1]
          refine wipe_eq (wipe_length σ vs1) fun j hj => ?_
          rw [wipe_get, if_neg (fun z => hj z.1)]
        refine ⟨hw, ?_⟩
        have loose4 : ∀ {p ws}, Loose G F3 ps2 (wipe σ vs1) H3 p ws → Loose G F3 ps3 σ4 H3 p ws := fun l => ⟨l.a, l.b, l.c, fun o => l.d (o4 _ o)⟩
        refine ht1.go G F3 ps3 σ4 H3 b ps4 _ R4 e5 fun F5 H5 P5 => ?_
        cases b with
        | true =>
          rw [if_pos rfl] at e3
          obtain ⟨⟨d, ps5⟩, e6, e3⟩ := Option.bind_eq_some_iff.mp e3
          have e3 : (if decide (acc.length < sizeLine) = true then _ else _) = some (out, psE) := e3
          split at e3
          · rename_i hl
            refine iteT (keepM_go he P5.rep e6 fun v F6 H6 P6 r6 => ?_)
            have lD6 := ((loose4 (lD.post P3)).post P5).post P6
            have s6 : Same F2 F6 := (P3.same.trans P5.same).trans P6.same
            refine ⟨accV, lD6.a, by rw [rl.len]; exact of_decide_eq_true hl, F6, wipeP vs1 ps5, acc ++ [d], accV ++ [v], ?_, s2.trans s6, ⟨upd_same, lD6.b, lD6.c, fun o => ?_⟩, (RelL.mono s6 _ _ rl).append (.cons r6 .nil), e3, fun p ws ne l => ?_, fun a h => ?_⟩
            · rw [← hw]
              exact (P6.rep.wrFree lD6.a lD6.b lD6.c lD6.d).wipe
            · rw [← hw] at o
              exact lD6.d (own_wipe o)
            · have l6 := ((loose4 ((fk p ws ne l).post P3)).post P5).post P6
              refine ⟨by rw [upd_ne ne]; exact l6.a, l6.b, l6.c, fun o => ?_⟩
              rw [← hw] at o
              exact l6.d (own_wipe o)
            · by_cases ha : a = D
              · subst ha
                rw [upd_same] at h
                cases h
              · rw [upd_ne ha] at h
                exact dm a (P3.dom a (P5.dom a (P6.dom a h)))
          · cases e3
        | false =>
          rw [if_neg Bool.false_ne_true] at e3
          have lD5 := (loose4 (lD.post P3)).post P5
          have s5 : Same F2 F5 := P3.same.trans P5.same
          refine iteF ⟨F5, wipeP vs1 ps4, acc, accV, ?_, s2.trans s5, ⟨lD5.a, lD5.b, lD5.c, fun o => ?_⟩, RelL.mono s5 _ _ rl, e3, fun p ws ne l => ?_, fun a h => dm a (P3.dom a (P5.dom a h))⟩
          · rw [← hw]
            exact P5.rep.wipe
          · rw [← hw] at o
            exact lD5.d (own_wipe o)
          · have l5 := (loose4 ((fk p ws ne l).post P3)).post P5
            refine ⟨l5.a, l5.b, l5.c, fun o => ?_⟩
            rw [← hw] at o
            exact l5.d (own_wipe o)
    · have ei : i = ds.length := by omega
      subst ei
      rw [List.drop_length] at e3
      cases e3
      exact .inl ⟨wk.2 F2 psE (wipe σ vs1) H2 R2 s2, q F2 accV H2 R2 (P1.same.trans s2) lD rl fk dm⟩
end
theorem snd_lc2 {K : Fg} {wi wi1 : TI} {gt gt1 : TG} {tt tt1 : TT} {te : TE} {vs is vs1 is1 : List Nat} {fi fi1 : M (List Dat)} {tgt tgt1 : Dat → PS → Option PS} {tst tst1 : M Bool} {elt : M RV} (hi : SndI K wi fi) (hg : SndG K gt is tgt) (hv : ∀ j ∈ is, j ∈ vs) (ht : SndT K tt tst)
    (hi1 : SndI K wi1 fi1) (hg1 : SndG K gt1 is1 tgt1) (hv1 : ∀ j ∈ is1, j ∈ vs1) (hvv : ∀ j ∈ vs1, j ∈ vs) (ht1 : SndT K tt1 tst1) (he : SndE K te elt) :
    SndE K (tLc2 wi gt tt wi1 gt1 tt1 te vs vs1) (lcM2 vs vs1 fi tgt tst fi1 tgt1 tst1 elt) := by
  refine ⟨fun G F ps σ H r ps' Q R e q => ?_⟩
  unfold lcM2 at e
  obtain ⟨⟨ds, ps1⟩, e1, e⟩ := Option.bind_eq_some_iff.mp e
  obtain ⟨⟨out, psE⟩, e2, e⟩ := Option.bind_eq_some_iff.mp e
  have e2 : lcL2 vs vs1 tgt tst fi1 tgt1 tst1 elt ds [] (wipeP vs ps1) = some (out, psE) := e2
  cases e
  refine hi.go G F ps σ H ds ps1 _ R e1 fun J F1 H1 P1 wk D hD => ?_
  have R1 := P1.rep
  have hs1 := same_upd (o := .lst []) hD
  have F1D : F1 D = none := R1.fn hD
  have G0D : G.H0 D = none := R1.h0 hD
  refine ⟨fun i m H2 => ∃ F2 ps2 acc accV, m = ds.length - i ∧ i ≤ ds.length ∧ Rep G K F2 ps2 (wipe σ vs) H2 ∧ Same F1 F2 ∧ Loose G F2 ps2 (wipe σ vs) H2 D accV ∧ RelL K F2 G.T acc accV ∧
      lcL2 vs vs1 tgt tst fi1 tgt1 tst1 elt (ds.drop i) acc ps2 = some (out, psE) ∧ (∀ p ws, Loose G F1 ps1 σ H1 p ws → Loose G F2 ps2 (wipe σ vs) H2 p ws) ∧ (∀ a, H2 a = none → H1 a = none), ?_, ?_⟩
  · have R2 := (R1.newL (vs := []) hD).rep.wipe (vs := vs)
    refine ⟨ds.length, F1, wipeP vs ps1, [], [], by simp, Nat.zero_le _, R2, Same.refl _, ⟨upd_same, F1D, G0D, fun o => ?_⟩, .nil, e2, fun p ws l => ⟨hs1 _ _ l.a, l.b, l.c, fun o => l.d (own_wipe o)⟩, fun a h => hs1.free h⟩
    · obtain ⟨_, z, _⟩ := R1.ownH (own_wipe o)
      rw [hD] at z
      cases z
  · rintro i m H2 ⟨F2, ps2, acc, accV, rfl, hi', R2, s2, lD, rl, e3, fk, dm⟩
    by_cases hlt : i < ds.length
    · obtain ⟨go, step⟩ := wk.1 i ds[i] (List.getElem?_eq_getElem hlt) F2 ps2 (wipe σ vs) H2 R2 s2
      rw [List.drop_eq_getElem_cons hlt] at e3
      unfold lcL2 at e3
      obtain ⟨ps3, e4, e3⟩ := Option.bind_eq_some_iff.mp e3
      obtain ⟨⟨b, ps4⟩, e5, e3⟩ := Option.bind_eq_some_iff.mp e3
      have e3 : (if b = true then _ else _) = some (out, psE) := e3
      refine .inr ⟨go, fun H' => ∃ F2 ps2 acc accV, Rep G K F2 ps2 (wipe σ vs) H' ∧ Same F1 F2 ∧ Loose G F2 ps2 (wipe σ vs) H' D accV ∧ RelL K F2 G.T acc accV ∧
        lcL2 vs vs1 tgt tst fi1 tgt1 tst1 elt (ds.drop (i + 1)) acc ps2 = some (out, psE) ∧ (∀ p ws, Loose G F1 ps1 σ H1 p ws → Loose G F2 ps2 (wipe σ vs) H' p ws) ∧ (∀ a, H' a = none → H1 a = none), ?_, fun x H3 y => ?_⟩
      · rintro H' ⟨F', ps', acc', accV', a1, a2, a3, a4, a5, a6, a7⟩
        exact ⟨ds.length - (i + 1), by omega, F', ps', acc', accV', rfl, hlt, a1, a2, a3, a4, a5, a6, a7⟩
      · obtain ⟨F3, P3, rx⟩ := step x H3 y
        refine hg.go G F3 ps2 (wipe σ vs) H3 _ x ps3 _ P3.rep rx e4 fun σ4 R4 k4 l4 o4 => ?_
        have hw : wipe σ4 vs = wipe σ vs := by
          have h1 : wipe σ4 vs = wipe (wipe σ vs) vs := wipe_eq l4 fun j hj => k4 j fun z => hj (hv j z)
          rw [h1]
          refine wipe_eq (wipe_length σ vs) fun j hj => ?_
          rw [wipe_get, if_neg (fun z => hj z.1)]
        refine ⟨hw, ?_⟩
        have loose4 : ∀ {p ws}, Loose G F3 ps2 (wipe σ vs) H3 p ws → Loose G F3 ps3 σ4 H3 p ws := fun l => ⟨l.a, l.b, l.c, fun o => l.d (o4 _ o)⟩
        refine ht.go G F3 ps3 σ4 H3 b ps4 _ R4 e5 fun F5 H5 P5 => ?_
        have neD : ∀ {p ws}, Loose G F1 ps1 σ H1 p ws → p ≠ D := fun l z => by
          subst z
          have := l.a
          rw [hD] at this
          cases this
        have lD5 := (loose4 (lD.post P3)).post P5
        have s5 : Same F2 F5 := P3.same.trans P5.same
        cases b with
        | true =>
          rw [if_pos rfl] at e3
          obtain ⟨⟨ds1, psI⟩, e6, e3⟩ := Option.bind_eq_some_iff.mp e3
          obtain ⟨⟨acc', psF⟩, e7, e3⟩ := Option.bind_eq_some_iff.mp e3
          have e7 : lcL vs1 tgt1 tst1 elt ds1 acc (wipeP vs1 psI) = some (acc', psF) := e7
          have e3 : lcL2 vs vs1 tgt tst fi1 tgt1 tst1 elt (ds.drop (i + 1)) acc' (wipeP vs psF) = some (out, psE) := e3
          refine iteT (lc_inner hi1 hg1 hv1 ht1 he P5.rep lD5 (RelL.mono s5 _ _ rl) e6 e7 fun F6 outV H6 R6 s6 l6 r6 k6 d6 => ?_)
          have hw2 : wipe (wipe σ4 vs1) vs = wipe σ vs := wipe_wipe hvv hw
          refine ⟨F6, wipeP vs psF, acc', outV, ?_, s2.trans (s5.trans s6), ⟨l6.a, l6.b, l6.c, fun o => ?_⟩, r6, e3, fun p ws l => ?_, fun a h => dm a (P3.dom a (P5.dom a (d6 a h)))⟩
          · rw [← hw2]
            exact R6.wipe
          · rw [← hw2] at o
            exact l6.d (own_wipe o)
          · have l7 := k6 p ws (neD l) ((loose4 ((fk p ws l).post P3)).post P5)
            refine ⟨l7.a, l7.b, l7.c, fun o => ?_⟩
            rw [← hw2] at o
            exact l7.d (own_wipe o)
        | false =>
          rw [if_neg Bool.false_ne_true] at e3
          refine iteF ⟨F5, wipeP vs ps4, acc, accV, ?_, s2.trans s5, ⟨lD5.a, lD5.b, lD5.c, fun o => ?_⟩, RelL.mono s5 _ _ rl, e3, fun p ws l => ?_, fun a h => dm a (P3.dom a (P5.dom a h))⟩
          · rw [← hw]
            exact P5.rep.wipe
          · rw [← hw] at o
            exact lD5.d (own_wipe o)
          · have l5 := (loose4 ((fk p ws l).post P3)).post P5
            refine ⟨l5.a, l5.b, l5.c, fun o => ?_⟩
            rw [← hw] at o
            exact l5.d (own_wipe o)
    · have ei : i = ds.length := by omega
      subst ei
      rw [List.drop_length] at e3
      cases e3
      refine .inl ⟨wk.2 F2 psE (wipe σ vs) H2 R2 s2, ?_⟩
      obtain ⟨RE, ob⟩ := rest_rep (ps1 := ps1) R1 R2 s2
      refine q (.ref D) F2 H2 ⟨RE, P1.same.trans s2, fun p ws h1 h2 h3 h4 => ?_, fun a h => P1.dom a (dm a h)⟩ ⟨D, accV, rfl, lD.a, lD.b, lD.c, fun o => lD.d (ob _ o), rl, P1.dom D hD⟩
      have l1 : Loose G F1 ps1 σ H1 p ws := (Loose.mk h1 h2 h3 h4 : Loose G F ps σ H p ws).post P1
      have l2 := fk p ws l1
      exact ⟨l2.a, l2.b, fun o => l2.d (ob _ o)⟩
section
variable {X : Cx} {pos spos py : Pos} {elt tg iter tg1 iter1 : Expr} {ifs ifs1 : List Expr} {scope : Scope} {own : List (Str × Nat)} {wi wi1 : TI} {g g1 : TG} {tt tt1 : TT} {te : TE} {is vs1 is1 : List Nat} {fi fi1 : M (List Dat)} {ft ft1 : Dat → PS → Option PS} {ftt ftt1 : M Bool} {fe : M RV}
theorem de_lc2 (hc : X.calm = true) (hN : X.N.Nodup) (hi : DI X tg iter wi fi) (ok : BlkOk X.N X.env.scope scope own)
    (hg : ∀ (s : Shared) (H : Hp) (C : Addr) (cl : List (Str × Addr)) (fp : List Addr), DG (X.blk s H scope (compEnvC scope cl C X.env) fp) tg g is ft) (hv : ∀ j ∈ is, j ∈ own.map (·.2)) (ht : ∀ (s : Shared) (H : Hp) (C : Addr) (cl : List (Str × Addr)) (fp : List Addr), DTs (X.blk s H scope (compEnvC scope cl C X.env) fp) ifs tt ftt)
    (hi1 : ∀ (s : Shared) (H : Hp) (C : Addr) (cl : List (Str × Addr)) (fp : List Addr), DI (X.blk s H scope (compEnvC scope cl C X.env) fp) tg1 iter1 wi1 fi1)
    (hg1 : ∀ (s : Shared) (H : Hp) (C : Addr) (cl : List (Str × Addr)) (fp : List Addr), DG (X.blk s H scope (compEnvC scope cl C X.env) fp) tg1 g1 is1 ft1) (hv1 : ∀ j ∈ is1, j ∈ vs1) (hvv : ∀ j ∈ vs1, j ∈ own.map (·.2)) (ht1 : ∀ (s : Shared) (H : Hp) (C : Addr) (cl : List (Str × Addr)) (fp : List Addr), DTs (X.blk s H scope (compEnvC scope cl C X.env) fp) ifs1 tt1 ftt1)
    (he : ∀ (s : Shared) (H : Hp) (C : Addr) (cl : List (Str × Addr)) (fp : List Addr), DE (X.blk s H scope (compEnvC scope cl C X.env) fp) elt te fe) (hs : ∀ x, foldedSetIterable iter X.env x = pure x := by intro _; rfl) (hs1 : ∀ env x, foldedSetIterable iter1 env x = pure x := by intro _ _; rfl) :
    DE X (.ListComp elt [⟨tg, iter, ifs, 0⟩, ⟨tg1, iter1, ifs1, 0⟩] scope pos) (tLc2 wi g tt wi1 g1 tt1 te (own.map (·.2)) vs1) (lcM2 (own.map (·.2)) vs1 fi ft ftt fi1 ft1 ftt1 fe) :=
  ⟨pe_lc2 hc hN hi.pe ok hvv (fun s H C cl fp => (hg s H C cl fp).pe) (fun s H C cl fp => (ht s H C cl fp).pe) (fun s H C cl fp => (hi1 s H C cl fp).pe) (fun s H C cl fp => (hg1 s H C cl fp).pe) (fun s H C cl fp => (ht1 s H C cl fp).pe) (fun s H C cl fp => (he s H C cl fp).pe) hs hs1,
    snd_lc2 hi.sn (hg X.s_0 X.H_0 0 [] []).sn hv (ht X.s_0 X.H_0 0 [] []).sn (hi1 X.s_0 X.H_0 0 [] []).sn (hg1 X.s_0 X.H_0 0 [] []).sn hv1 hvv (ht1 X.s_0 X.H_0 0 [] []).sn (he X.s_0 X.H_0 0 [] []).sn⟩
theorem ds_lc2 {i : Nat} {y : Str} (hc : X.calm = true) (hN : X.N.Nodup) (hy : X.N[i]? = some y) (hyl : X.env.scope.names.lookup y = some .local)
    (hsw : swapsWith (.ListComp elt [⟨tg, iter, ifs, 0⟩, ⟨tg1, iter1, ifs1, 0⟩] scope pos) (some (.Name y py)) spos.line X.env = pure true) (hi : DI X tg iter wi fi) (ok : BlkOk X.N X.env.scope scope own)
    (hg : ∀ (s : Shared) (H : Hp) (C : Addr) (cl : List (Str × Addr)) (fp : List Addr), DG (X.blk s H scope (compEnvC scope cl C X.env) fp) tg g is ft) (hv : ∀ j ∈ is, j ∈ own.map (·.2)) (ht : ∀ (s : Shared) (H : Hp) (C : Addr) (cl : List (Str × Addr)) (fp : List Addr), DTs (X.blk s H scope (compEnvC scope cl C X.env) fp) ifs tt ftt)
    (hi1 : ∀ (s : Shared) (H : Hp) (C : Addr) (cl : List (Str × Addr)) (fp : List Addr), DI (X.blk s H scope (compEnvC scope cl C X.env) fp) tg1 iter1 wi1 fi1)
    (hg1 : ∀ (s : Shared) (H : Hp) (C : Addr) (cl : List (Str × Addr)) (fp : List Addr), DG (X.blk s H scope (compEnvC scope cl C X.env) fp) tg1 g1 is1 ft1) (hv1 : ∀ j ∈ is1, j ∈ vs1) (hvv : ∀ j ∈ vs1, j ∈ own.map (·.2)) (ht1 : ∀ (s : Shared) (H : Hp) (C : Addr) (cl : List (Str × Addr)) (fp : List Addr), DTs (X.blk s H scope (compEnvC scope cl C X.env) fp) ifs1 tt1 ftt1)
    (he : ∀ (s : Shared) (H : Hp) (C : Addr) (cl : List (Str × Addr)) (fp : List Addr), DE (X.blk s H scope (compEnvC scope cl C X.env) fp) elt te fe) (hs : ∀ x, foldedSetIterable iter X.env x = pure x := by intro _; rfl) (hs1 : ∀ env x, foldedSetIterable iter1 env x = pure x := by intro _ _; rfl) :
    DS X (.Assign [.Name y py] (.ListComp elt [⟨tg, iter, ifs, 0⟩, ⟨tg1, iter1, ifs1, 0⟩] scope pos) spos) (tAsg (tLc2 wi g tt wi1 g1 tt1 te (own.map (·.2)) vs1) (gName i)) (setM i (lcM2 (own.map (·.2)) vs1 fi ft ftt fi1 ft1 ftt1 fe)) :=
  ⟨ps_setLc2 hc hN hy hyl hsw hi.pe ok hvv (fun s H C cl fp => (hg s H C cl fp).pe) (fun s H C cl fp => (ht s H C cl fp).pe) (fun s H C cl fp => (hi1 s H C cl fp).pe) (fun s H C cl fp => (hg1 s H C cl fp).pe) (fun s H C cl fp => (ht1 s H C cl fp).pe) (fun s H C cl fp => (he s H C cl fp).pe) hs hs1,
    snd_set (snd_lc2 hi.sn (hg X.s_0 X.H_0 0 [] []).sn hv (ht X.s_0 X.H_0 0 [] []).sn (hi1 X.s_0 X.H_0 0 [] []).sn (hg1 X.s_0 X.H_0 0 [] []).sn hv1 hvv (ht1 X.s_0 X.H_0 0 [] []).sn (he X.s_0 X.H_0 0 [] []).sn)⟩
end
end MP

/-! sets of rows of ints: sorted(set(..)), len(set(..)) -/
namespace MP
open PySem PySem.Spec PyProof.Rows L2

def rowD (r : List Int) : Dat := .tuple (r.map PyData.int)
def row? : Dat → Option (List Int)
  | .tuple es => ints? es
  | _ => none
def rows? : List Dat → Option (List (List Int))
  | [] => some []
  | d :: ds => (row? d).bind fun r => (rows? ds).bind fun rs => some (r :: rs)
theorem rows_of : ∀ rs : List (List Int), rows? (rs.map rowD) = some rs
  | [] => rfl
  | r :: rs => by
    show (ints? (r.map PyData.int)).bind _ = _
    rw [ints_of, Option.bind_some, rows_of rs]
    rfl
theorem ints_inv : ∀ {ds : List Dat} {ns : List Int}, ints? ds = some ns → ds = ns.map PyData.int
  | [], ns, h => by cases h; rfl
  | .int i :: ds, ns, h => by
    unfold ints? at h
    obtain ⟨ms, e1, rfl⟩ := Option.map_eq_some_iff.mp h
    rw [ints_inv e1]
    rfl
  | .none :: _, _, h => by cases h
  | .bool _ :: _, _, h => by cases h
  | .str _ :: _, _, h => by cases h
  | .list _ :: _, _, h => by cases h
  | .tuple _ :: _, _, h => by cases h
  | .dict _ :: _, _, h => by cases h
theorem rows_inv : ∀ {ds : List Dat} {rs : List (List Int)}, rows? ds = some rs → ds = rs.map rowD
  | [], rs, h => by cases h; rfl
  | d :: ds, rs, h => by
    unfold rows? at h
    obtain ⟨r, e1, h⟩ := Option.bind_eq_some_iff.mp h
    obtain ⟨rs', e2, h⟩ := Option.bind_eq_some_iff.mp h
    cases h
    rw [rows_inv e2]
    cases d with
    | tuple es =>
      rw [ints_inv (show ints? es = some r from e1)]
      rfl
    | none => cases e1
    | bool _ => cases e1
    | int _ => cases e1
    | str _ => cases e1
    | list _ => cases e1
    | dict _ => cases e1

/-! ### rows by their codes -/
def CB : Int := 1000000
def bdB (r : List Int) : Bool := r.all fun m => decide (0 ≤ m) && decide (m.natAbs < 1000000)
theorem bd_of {r : List Int} (h : bdB r = true) : TS.Bd CB r := fun m hm => by
  have := List.all_eq_true.mp h m hm
  simp only [Bool.and_eq_true, decide_eq_true_eq] at this
  unfold CB
  omega
theorem code_inj {B : Int} : ∀ {r q : List Int}, r.length = q.length → TS.Bd B r → TS.Bd B q → TS.code B r = TS.code B q → r = q
  | [], [], _, _, _, _ => rfl
  | [], _ :: _, h, _, _, _ => by cases h
  | _ :: _, [], h, _, _, _ => by cases h
  | d :: r, e :: q, h, hr, hq, hc => by
    have hl : r.length = q.length := by simpa using h
    rcases Int.lt_trichotomy d e with z | rfl | z
    · have := TS.code_lt hl hr.tail hq.tail z
      omega
    · have : TS.code B r = TS.code B q := by
        unfold TS.code at hc
        rw [hl] at hc
        omega
      rw [code_inj hl hr.tail hq.tail this]
    · have := TS.code_lt hl.symm hq.tail hr.tail z
      omega
theorem uniq_codes {α : Type} {f : α → Int} : ∀ {A C : List α}, A.Pairwise (fun x y => f x < f y) → C.Pairwise (fun x y => f x < f y) → (∀ x, x ∈ A ↔ x ∈ C) → A = C
  | [], [], _, _, _ => rfl
  | [], c :: C, _, _, h => by have := (h c).mpr (by simp); cases this
  | a :: A, [], _, _, h => by have := (h a).mp (by simp); cases this
  | a :: A, c :: C, pa, pc, h => by
    obtain ⟨a1, a2⟩ := List.pairwise_cons.mp pa
    obtain ⟨c1, c2⟩ := List.pairwise_cons.mp pc
    have e : a = c := by
      rcases List.mem_cons.mp ((h a).mp (by simp)) with z | z
      · exact z
      · rcases List.mem_cons.mp ((h c).mpr (by simp)) with w | w
        · exact w.symm
        · have := a1 c w
          have := c1 a z
          omega
    subst e
    rw [uniq_codes a2 c2 fun x => ?_]
    constructor
    · intro hx
      rcases List.mem_cons.mp ((h x).mp (List.mem_cons_of_mem _ hx)) with rfl | z
      · have := a1 x hx
        omega
      · exact z
    · intro hx
      rcases List.mem_cons.mp ((h x).mpr (List.mem_cons_of_mem _ hx)) with rfl | z
      · have := c1 x hx
        omega
      · exact z
def insC (x : List Int) : List (List Int) → List (List Int)
  | [] => [x]
  | y :: ys => if TS.code CB x < TS.code CB y then x :: y :: ys else if TS.code CB x = TS.code CB y then y :: ys else y :: insC x ys
def sortC (rs : List (List Int)) : List (List Int) := rs.foldr insC []
theorem insC_sub {x : List Int} : ∀ {ys : List (List Int)} {z : List Int}, z ∈ insC x ys → z = x ∨ z ∈ ys
  | [], z, h => by
    rw [List.mem_singleton.mp h]
    exact .inl rfl
  | y :: ys, z, h => by
    unfold insC at h
    split at h
    · exact List.mem_cons.mp h
    · split at h
      · exact .inr h
      · rcases List.mem_cons.mp h with rfl | h
        · exact .inr (by simp)
        · rcases insC_sub h with h | h
          · exact .inl h
          · exact .inr (List.mem_cons_of_mem _ h)
theorem insC_sup {x : List Int} : ∀ {ys : List (List Int)} {z : List Int}, z ∈ ys → z ∈ insC x ys
  | y :: ys, z, h => by
    unfold insC
    split
    · exact List.mem_cons_of_mem _ h
    · split
      · exact h
      · rcases List.mem_cons.mp h with rfl | h
        · simp
        · exact List.mem_cons_of_mem _ (insC_sup h)
theorem insC_code {x : List Int} : ∀ ys : List (List Int), ∃ z ∈ insC x ys, TS.code CB z = TS.code CB x
  | [] => ⟨x, by simp [insC], rfl⟩
  | y :: ys => by
    unfold insC
    split
    · exact ⟨x, by simp, rfl⟩
    · split
      · rename_i h
        exact ⟨y, by simp, h.symm⟩
      · obtain ⟨z, hz, e⟩ := insC_code (x := x) ys
        exact ⟨z, List.mem_cons_of_mem _ hz, e⟩
theorem insC_asc {x : List Int} : ∀ {ys : List (List Int)}, ys.Pairwise (fun a b => TS.code CB a < TS.code CB b) → (insC x ys).Pairwise (fun a b => TS.code CB a < TS.code CB b)
  | [], _ => by simp [insC]
  | y :: ys, h => by
    obtain ⟨h1, h2⟩ := List.pairwise_cons.mp h
    unfold insC
    split
    · rename_i hlt
      refine List.pairwise_cons.mpr ⟨fun z hz => ?_, h⟩
      rcases List.mem_cons.mp hz with rfl | hz
      · exact hlt
      · have := h1 z hz
        omega
    · split
      · exact h
      · refine List.pairwise_cons.mpr ⟨fun z hz => ?_, insC_asc h2⟩
        rcases insC_sub hz with rfl | hz
        · omega
        · exact h1 z hz
theorem sortC_asc : ∀ rs : List (List Int), (sortC rs).Pairwise (fun a b => TS.code CB a < TS.code CB b)
  | [] => List.Pairwise.nil
  | r :: rs => insC_asc (sortC_asc rs)
theorem sortC_sub : ∀ {rs : List (List Int)} {z : List Int}, z ∈ sortC rs → z ∈ rs
  | r :: rs, z, h => by
    rcases insC_sub (show z ∈ insC r (sortC rs) from h) with rfl | h
    · simp
    · exact List.mem_cons_of_mem _ (sortC_sub h)
theorem sortC_code : ∀ {rs : List (List Int)} {z : List Int}, z ∈ rs → ∃ y ∈ sortC rs, TS.code CB y = TS.code CB z
  | r :: rs, z, h => by
    rcases List.mem_cons.mp h with rfl | h
    · exact insC_code (sortC rs)
    · obtain ⟨y, hy, e⟩ := sortC_code h
      exact ⟨y, insC_sup hy, e⟩
/-- all of one length, their entries small -/
def Flat (d : Nat) (rs : List (List Int)) : Prop := ∀ r ∈ rs, r.length = d ∧ bdB r = true
theorem Flat.inj {d : Nat} {rs : List (List Int)} (h : Flat d rs) {r q : List Int} (hr : r ∈ rs) (hq : q ∈ rs) (e : TS.code CB r = TS.code CB q) : r = q :=
  code_inj (by rw [(h r hr).1, (h q hq).1]) (bd_of (h r hr).2) (bd_of (h q hq).2) e
theorem mem_sortC {d : Nat} {rs : List (List Int)} (h : Flat d rs) {z : List Int} : z ∈ sortC rs ↔ z ∈ rs := by
  refine ⟨sortC_sub, fun hz => ?_⟩
  obtain ⟨y, hy, e⟩ := sortC_code hz
  rw [← h.inj (sortC_sub hy) hz e]
  exact hy
theorem sortC_uniq {d : Nat} {rs out : List (List Int)} (h : Flat d rs) (hm : ∀ z, z ∈ out ↔ z ∈ rs) (nd : out.Nodup) (hs : out.Pairwise fun a b => TS.code CB a ≤ TS.code CB b) : out = sortC rs := by
  refine uniq_codes (f := TS.code CB) ?_ (sortC_asc rs) fun x => (hm x).trans (mem_sortC h).symm
  refine List.Pairwise.imp_of_mem ?_ (hs.and nd)
  intro a b ha hb ⟨h1, h2⟩
  have : TS.code CB a ≠ TS.code CB b := fun e => h2 (h.inj ((hm a).mp ha) ((hm b).mp hb) e)
  omega
def dlen : List (List Int) → Nat
  | [] => 1
  | r :: _ => r.length
def flatB (rs : List (List Int)) : Bool := decide (rs.length < 64) && decide (1 ≤ dlen rs) && rs.all fun r => decide (r.length = dlen rs) && bdB r
theorem flat_of {rs : List (List Int)} (h : flatB rs = true) : rs.length < 64 ∧ 1 ≤ dlen rs ∧ Flat (dlen rs) rs := by
  unfold flatB at h
  simp only [Bool.and_eq_true, decide_eq_true_eq] at h
  refine ⟨h.1.1, h.1.2, fun r hr => ?_⟩
  have := List.all_eq_true.mp h.2 r hr
  simp only [Bool.and_eq_true, decide_eq_true_eq] at this
  exact this
def setRows (d : Dat) : Option (List (List Int)) := match d with
  | .list ds => (rows? ds).bind fun rs => if flatB rs then some rs else none
  | _ => none
def sortSetD (d : Dat) : Option RV := (setRows d).bind fun rs => some (.nw ((sortC rs).map rowD))
def lenSetD (d : Dat) : Option RV := (setRows d).bind fun rs => some (.im (.int (sortC rs).length))

/-! ### the walk -/
section
variable {G : Ctl} {K : Fg} {F : Hp} {ps : PS} {σ : L2.St} {H : Hp}
/-- a new object, not yet anyone's -/
theorem Rep.newO (r : Rep G K F ps σ H) {p : Addr} {o : HO} (hp : H p = none) : Post G K F ps σ H F ps (upd H p o) := by
  have hs := same_upd (o := o) hp
  refine ⟨r.grow (Same.refl F) (r.fh.trans hs) hs (fun a h1 h2 => absurd h2 h1), Same.refl F, fun q ws h1 h2 h3 h4 => ⟨hs _ _ h1, h2, h4⟩, fun _ => hs.free⟩
theorem row_rel {T : Addr} {r : List Int} {v : V} (h : Rel K F T (rowD r) v) : ∃ a, v = .ref a ∧ SqT K F a (r.map V.int) := by
  unfold rowD at h
  unfold Rel at h
  obtain ⟨a, xs, rfl, h1, h2⟩ := h
  rw [ints_rel (ints_of r) h2] at h1
  exact ⟨a, rfl, h1.sqT⟩
/-- the rows with their places; what lies at a place is the row's datum -/
theorem rows_ks {T : Addr} : ∀ {rs : List (List Int)} {vs : List V}, RelL K F T (rs.map rowD) vs → ∃ ks : List (Addr × List Int), vs = ks.map (fun p => V.ref p.1) ∧ ks.map (·.2) = rs ∧ ∀ p ∈ ks, Rel K F T (rowD p.2) (.ref p.1)
  | [], vs, h => by
    unfold RelL at h
    exact ⟨[], h, rfl, fun p hp => by cases hp⟩
  | r :: rs, vs, h => by
    rw [List.map_cons] at h
    unfold RelL at h
    obtain ⟨y, ys, rfl, h1, h2⟩ := h
    obtain ⟨a, rfl, _⟩ := row_rel h1
    obtain ⟨ks, rfl, e2, h3⟩ := rows_ks h2
    refine ⟨(a, r) :: ks, rfl, by rw [List.map_cons, e2], fun p hp => ?_⟩
    rcases List.mem_cons.mp hp with rfl | hp
    · exact h1
    · exact h3 p hp
theorem ks_rel {T : Addr} : ∀ {ks : List (Addr × List Int)}, (∀ p ∈ ks, Rel K F T (rowD p.2) (.ref p.1)) → RelL K F T ((ks.map (·.2)).map rowD) (ks.map fun p => V.ref p.1)
  | [], _ => .nil
  | p :: ks, h => .cons (h p (by simp)) (ks_rel fun q hq => h q (List.mem_cons_of_mem _ hq))
end
theorem setRows_eq {d : Dat} {rs : List (List Int)} (h : setRows d = some rs) : d = .list (rs.map rowD) ∧ flatB rs = true := by
  unfold setRows at h
  cases d with
  | list ds =>
    obtain ⟨rs', e1, h⟩ := Option.bind_eq_some_iff.mp h
    split at h
    · rename_i hf
      cases h
      exact ⟨by rw [rows_inv e1], hf⟩
    · cases h
  | none => cases h
  | bool _ => cases h
  | int _ => cases h
  | str _ => cases h
  | tuple _ => cases h
  | dict _ => cases h
def rSS (K : Fg) (P : Program) (w : World) : List V → Hp → VK → Prop := fun xs H Q => rSetOfT K P w xs H fun v H1 => rSortedT K P w [v] H1 Q
theorem sortSetD_ok {K : Fg} {P : Program} {w : World} : C1Snd K (rSS K P w) sortSetD := by
  intro G F ps σ H x d out Q R hx hg q
  unfold sortSetD at hg
  obtain ⟨rs, e1, hg⟩ := Option.bind_eq_some_iff.mp hg
  cases hg
  obtain ⟨rfl, hf⟩ := setRows_eq e1
  obtain ⟨f1, f2, f3⟩ := flat_of hf
  obtain ⟨a, vs, rfl, h1, h2⟩ := bLst hx
  obtain ⟨ks, rfl, rfl, hk⟩ := rows_ks h2
  refine ⟨a, ks, rfl, SqL.of h1, fun p hp => seqT R.fh (by obtain ⟨b, e, s⟩ := row_rel (hk p hp); cases e; exact s), by simpa using f1, fun b L hb sub all => ?_⟩
  have P1 := R.newO (o := SetTO P w b L) hb
  refine ⟨b, L, dlen (ks.map (·.2)), CB, rfl, upd_same, fun p hp => seqT P1.rep.fh (by obtain ⟨c, e, s⟩ := row_rel (hk p (sub p hp)); cases e; exact s), f2, fun p hp => ?_, fun L' p pm nd _ pw hp => ?_⟩
  · obtain ⟨g1, g2⟩ := f3 p.2 (List.mem_map.mpr ⟨p, sub p hp, rfl⟩)
    exact ⟨g1, bd_of g2⟩
  · have hL' : ∀ p ∈ L', Rel K F G.T (rowD p.2) (.ref p.1) := fun p hp => hk p (sub p (pm.mem_iff.mp hp))
    have e : L'.map (·.2) = sortC (ks.map (·.2)) := sortC_uniq f3 (fun z => ⟨fun hz => ?_, fun hz => ?_⟩) nd (List.pairwise_map.mpr pw)
    · have r := ks_rel hL'
      rw [e] at r
      exact out_nw P1.rep r (fun v F' H' P2 rv => q v F' H' (P1.trans P2) (rv.back P1.dom)) p hp
    · obtain ⟨q, hq, rfl⟩ := List.mem_map.mp hz
      exact List.mem_map.mpr ⟨q, sub q (pm.mem_iff.mp hq), rfl⟩
    · obtain ⟨q, hq, rfl⟩ := List.mem_map.mp hz
      obtain ⟨q', hq', e⟩ := List.mem_map.mp (all q hq)
      exact List.mem_map.mpr ⟨q', pm.mem_iff.mpr hq', e⟩
/-- len(set) -/
def rLenT (K : Fg) (P : Program) (w : World) : List V → Hp → VK → Prop := fun xs H Q => ∃ (a : Addr) (L : List (Addr × List Int)), xs = [V.ref a] ∧ H a = some (SetTO P w a L) ∧ (∀ p ∈ L, SqT K H p.1 (p.2.map V.int)) ∧ ((L.map (·.2)).Nodup → Q (.int L.length) H)
theorem cr_lenT {X : Cx} : CallR X (.builtin "len") (rLenT X.K X.prog X.w) := by
  intro pins s σ H xs us Q I r h
  obtain ⟨a, L, rfl, ha, hk, q⟩ := h
  have R0 : SetT0 X.prog X.w s.heap a L := (I.hok a _ ha).1
  obtain ⟨es, ep, t, R⟩ := R0.full fun p hp => I.isT (hk p hp)
  rw [Vals.ref1 r]
  obtain ⟨o, ho, hex, hd⟩ := R.ob
  have e := R.size
  have f := R.few
  refine call_len_set ho hex hd R.fits (by omega) ?_
  rw [e]
  exact ⟨.int L.length, H, I.kept (h' := s.heap) (fun _ _ e => e), ⟨_, rfl⟩, q R.nd⟩
def rLS (K : Fg) (P : Program) (w : World) : List V → Hp → VK → Prop := fun xs H Q => rSetOfT K P w xs H fun v H1 => rLenT K P w [v] H1 Q
theorem lenSetD_ok {K : Fg} {P : Program} {w : World} : C1Snd K (rLS K P w) lenSetD := by
  intro G F ps σ H x d out Q R hx hg q
  unfold lenSetD at hg
  obtain ⟨rs, e1, hg⟩ := Option.bind_eq_some_iff.mp hg
  cases hg
  obtain ⟨rfl, hf⟩ := setRows_eq e1
  obtain ⟨f1, f2, f3⟩ := flat_of hf
  obtain ⟨a, vs, rfl, h1, h2⟩ := bLst hx
  obtain ⟨ks, rfl, rfl, hk⟩ := rows_ks h2
  refine ⟨a, ks, rfl, SqL.of h1, fun p hp => seqT R.fh (by obtain ⟨b, e, s⟩ := row_rel (hk p hp); cases e; exact s), by simpa using f1, fun b L hb sub all => ?_⟩
  have P1 := R.newO (o := SetTO P w b L) hb
  refine ⟨b, L, rfl, upd_same, fun p hp => seqT P1.rep.fh (by obtain ⟨c, e, s⟩ := row_rel (hk p (sub p hp)); cases e; exact s), fun nd => ?_⟩
  have e : L.length = (sortC (ks.map (·.2))).length := by
    have m : ∀ z, z ∈ L.map (·.2) ↔ z ∈ sortC (ks.map (·.2)) := fun z => by
      rw [mem_sortC f3]
      constructor
      · intro hz
        obtain ⟨q, hq, rfl⟩ := List.mem_map.mp hz
        exact List.mem_map.mpr ⟨q, sub q hq, rfl⟩
      · intro hz
        obtain ⟨q, hq, rfl⟩ := List.mem_map.mp hz
        exact all q hq
    have nd2 : (sortC (ks.map (·.2))).Nodup := (sortC_asc _).imp fun {x y} h e => by rw [e] at h; omega
    have l1 := List.Nodup.length_le_of_subset nd fun z hz => (m z).mp hz
    have l2 := List.Nodup.length_le_of_subset nd2 fun z hz => (m z).mpr hz
    rw [List.length_map] at l1 l2
    omega
  rw [e]
  exact out_im P1.rep (by unfold Rel; rfl) fun v F' H' P2 rv => q v F' H' (P1.trans P2) (rv.back P1.dom)
section
variable {X : Cx} {K : Fg} {a : Expr} {ta : TE} {fa : M RV} {p p2 pos pos2 : Pos}
theorem k_sortSet (hK : X.K = K) (hc : X.calm = true) (hu : X.A.units + 65 < cLine) (hg : Gl X "sorted") (hm : X.mg "sorted" = none) (hg2 : Gl X "set") (hm2 : X.mg "set" = none) (ha : DE X a ta fa)
    (he : starEach [a] X.env = (false, eval a X.env) :: starEach [] X.env := by rfl) (hp : (backTo pos2 (starEach [] X.env)).any (·.1) = false := by rfl)
    (he2 : starEach [.Call (.Name "set" p2) [a] [] pos2] X.env = (false, eval (.Call (.Name "set" p2) [a] [] pos2) X.env) :: starEach [] X.env := by rfl) (hp2 : (backTo pos (starEach [] X.env)).any (·.1) = false := by rfl) :
    DE X (.Call (.Name "sorted" p) [.Call (.Name "set" p2) [a] [] pos2] [] pos) (tCB (rSortedT K X.prog X.w) (t1 (tCB (rSetOfT K X.prog X.w) (t1 ta)))) (unM sortSetD fa) := by
  subst hK
  have s := snd_call1 (r := rSS X.K X.prog X.w) sortSetD_ok ha.sn
  have pe2 := pe_callTy (pos := pos2) (p := p2) (cr_setOfT hc (by omega)) hg2 hm2 (by decide) (pa_cons ha.pe pa_nil he) (by decide) (by decide) he hp
  exact ⟨pe_callB (cr_sortedT hc) hg hm (by decide) (pa_cons pe2 pa_nil he2) (by decide) (by decide) he2 hp2, ⟨s.go⟩⟩
theorem k_lenSet (hK : X.K = K) (hc : X.calm = true) (hu : X.A.units + 65 < cLine) (hg : Gl X "len") (hm : X.mg "len" = none) (hg2 : Gl X "set") (hm2 : X.mg "set" = none) (ha : DE X a ta fa)
    (he : starEach [a] X.env = (false, eval a X.env) :: starEach [] X.env := by rfl) (hp : (backTo pos2 (starEach [] X.env)).any (·.1) = false := by rfl)
    (he2 : starEach [.Call (.Name "set" p2) [a] [] pos2] X.env = (false, eval (.Call (.Name "set" p2) [a] [] pos2) X.env) :: starEach [] X.env := by rfl) (hp2 : (backTo pos (starEach [] X.env)).any (·.1) = false := by rfl) :
    DE X (.Call (.Name "len" p) [.Call (.Name "set" p2) [a] [] pos2] [] pos) (tCB (rLenT K X.prog X.w) (t1 (tCB (rSetOfT K X.prog X.w) (t1 ta)))) (unM lenSetD fa) := by
  subst hK
  have s := snd_call1 (r := rLS X.K X.prog X.w) lenSetD_ok ha.sn
  have pe2 := pe_callTy (pos := pos2) (p := p2) (cr_setOfT hc (by omega)) hg2 hm2 (by decide) (pa_cons ha.pe pa_nil he) (by decide) (by decide) he hp
  exact ⟨pe_callB cr_lenT hg hm (by decide) (pa_cons pe2 pa_nil he2) (by decide) (by decide) he2 hp2, ⟨s.go⟩⟩
end

/-! ### the least and the greatest of a row of data -/
def alikeB (ds : List Dat) : Bool := (ds.all fun x => ds.all fun y => PySem.W.alike x y) && ds.all fun x => match x with | .none => false | _ => true
theorem alike_of {ds : List Dat} (h : alikeB ds = true) : PySem.W.AlikeAll ds := by
  unfold alikeB at h
  simp only [Bool.and_eq_true] at h
  refine ⟨fun x hx y hy => List.all_eq_true.mp (List.all_eq_true.mp h.1 x hx) y hy, fun x hx e => ?_⟩
  have := List.all_eq_true.mp h.2 x hx
  rw [e] at this
  cases this
def rBest (K : Fg) (best : Dat → List Dat → Dat) : List V → Hp → VK → Prop := fun xs H Q => ∃ (a : Addr) (vs : List V) (d : Dat) (ds : List Dat), xs = [.ref a] ∧ (SqL K H a vs ∨ SqT K H a vs) ∧ DpAll K H vs (d :: ds) ∧ PySem.W.AlikeAll (d :: ds) ∧ PyData.depthAll (d :: ds) ≤ 63 ∧
  ∀ (i : Nat) (v : V), vs[i]? = some v → (d :: ds)[i]? = some (best d ds) → Q v H
theorem vals_back {xs : List V} {us : List Value} {i : Nat} {u : Value} (r : Vals xs us) (h : us[i]? = some u) : ∃ x, xs[i]? = some x ∧ RelV x u := by
  have hl : i < xs.length := by
    have := r.length
    have := (List.getElem?_eq_some_iff.mp h).1
    omega
  obtain ⟨u', h', rv⟩ := Vals.get r (List.getElem?_eq_getElem hl)
  rw [h] at h'
  cases h'
  exact ⟨_, List.getElem?_eq_getElem hl, rv⟩
theorem cr_minB {X : Cx} (hc : X.calm = true) (hu : X.A.units + 65 < cLine) : CallR X (.builtin "min") (rBest X.K PySem.W.minD) := by
  intro pins s σ H xs us Q I r h
  obtain ⟨a, vs, d, ds, rfl, hs, hd, hal, hdep, q⟩ := h
  rw [Vals.ref1 r]
  rcases hs with hs | hs
  · obtain ⟨its, rv, hl, _⟩ := I.list hs
    obtain ⟨as, rs⟩ := Dp.readsAll I (d :: ds) vs its hd rv
    refine PySem.W.min_list_data (vs := its.toArray) (I.ok.hd hc) hl.isList rs hal (by omega) fun i v h' tk bs hi rd k => ?_
    obtain ⟨w, hw, rw_⟩ := vals_back rv (show its[i]? = some v by simpa using hi)
    obtain ⟨cs, rd2, hlt, _, _⟩ := PySem.W.readsAll_at rs i v (by simpa using hi)
    have e := (PySem.Reads.unique (PySem.W.reads_keeps k rd2) _ _ rd).1
    refine ⟨w, H, I.kept k, rw_, q i w hw ?_⟩
    rw [← e, List.getD_eq_getElem?_getD, List.getElem?_eq_getElem hlt]
    rfl
  · obtain ⟨its, rv, hl, _⟩ := I.tuple hs
    obtain ⟨as, rs⟩ := Dp.readsAll I (d :: ds) vs its hd rv
    refine PySem.W.min_tuple_data (vs := its.toArray) (I.ok.hd hc) hl rs hal (by omega) fun i v h' tk bs hi rd k => ?_
    obtain ⟨w, hw, rw_⟩ := vals_back rv (show its[i]? = some v by simpa using hi)
    obtain ⟨cs, rd2, hlt, _, _⟩ := PySem.W.readsAll_at rs i v (by simpa using hi)
    have e := (PySem.Reads.unique (PySem.W.reads_keeps k rd2) _ _ rd).1
    refine ⟨w, H, I.kept k, rw_, q i w hw ?_⟩
    rw [← e, List.getD_eq_getElem?_getD, List.getElem?_eq_getElem hlt]
    rfl
theorem cr_maxB {X : Cx} (hc : X.calm = true) (hu : X.A.units + 65 < cLine) : CallR X (.builtin "max") (rBest X.K PySem.W.maxD) := by
  intro pins s σ H xs us Q I r h
  obtain ⟨a, vs, d, ds, rfl, hs, hd, hal, hdep, q⟩ := h
  rw [Vals.ref1 r]
  rcases hs with hs | hs
  · obtain ⟨its, rv, hl, _⟩ := I.list hs
    obtain ⟨as, rs⟩ := Dp.readsAll I (d :: ds) vs its hd rv
    refine PySem.W.max_list_data (vs := its.toArray) (I.ok.hd hc) hl.isList rs hal (by omega) fun i v h' tk bs hi rd k => ?_
    obtain ⟨w, hw, rw_⟩ := vals_back rv (show its[i]? = some v by simpa using hi)
    obtain ⟨cs, rd2, hlt, _, _⟩ := PySem.W.readsAll_at rs i v (by simpa using hi)
    have e := (PySem.Reads.unique (PySem.W.reads_keeps k rd2) _ _ rd).1
    refine ⟨w, H, I.kept k, rw_, q i w hw ?_⟩
    rw [← e, List.getD_eq_getElem?_getD, List.getElem?_eq_getElem hlt]
    rfl
  · obtain ⟨its, rv, hl, _⟩ := I.tuple hs
    obtain ⟨as, rs⟩ := Dp.readsAll I (d :: ds) vs its hd rv
    refine PySem.W.max_tuple_data (vs := its.toArray) (I.ok.hd hc) hl rs hal (by omega) fun i v h' tk bs hi rd k => ?_
    obtain ⟨w, hw, rw_⟩ := vals_back rv (show its[i]? = some v by simpa using hi)
    obtain ⟨cs, rd2, hlt, _, _⟩ := PySem.W.readsAll_at rs i v (by simpa using hi)
    have e := (PySem.Reads.unique (PySem.W.reads_keeps k rd2) _ _ rd).1
    refine ⟨w, H, I.kept k, rw_, q i w hw ?_⟩
    rw [← e, List.getD_eq_getElem?_getD, List.getElem?_eq_getElem hlt]
    rfl
def bestD (best : Dat → List Dat → Dat) : Dat → Option RV
  | .list (d :: ds) => if SeqAt.shaped (.list (d :: ds)) && alikeB (d :: ds) then some (.im (best d ds)) else none
  | .tuple (d :: ds) => if SeqAt.shaped (.tuple (d :: ds)) && alikeB (d :: ds) then some (.im (best d ds)) else none
  | _ => none
theorem dp_all_l {K : Fg} {H : Hp} {v : V} {ds : List Dat} (h : Dp K H v (.list ds)) : ∃ a vs, v = .ref a ∧ SqL K H a vs ∧ DpAll K H vs ds := by
  cases h with
  | lst h1 h2 => exact ⟨_, _, rfl, h1, h2⟩
theorem bestD_ok {K : Fg} {best : Dat → List Dat → Dat} : C1Snd K (rBest K best) (bestD best) := by
  intro G F ps σ H x d out Q R hx hg q
  unfold bestD at hg
  split at hg
  · rename_i d0 ds
    split at hg
    · rename_i hc
      cases hg
      simp only [Bool.and_eq_true] at hc
      obtain ⟨a, vs, rfl, h1, h2⟩ := bLst hx
      have hl := SeqAt.canLay_of_shaped hc.1
      have dp := dps_of (d0 :: ds) vs (by simpa [PyData.canLay0] using hl) (RelL.mono R.fh _ _ h2)
      have dep : PyData.depthAll (d0 :: ds) + 1 ≤ 64 := SeqAt.depth_of_shaped hc.1
      refine ⟨a, vs, d0, ds, rfl, .inl (SqL.of h1), dp, alike_of hc.2, by omega, fun i v hv he => ?_⟩
      obtain ⟨w, hw, rw_⟩ := h2.get he
      rw [hv] at hw
      cases hw
      exact out_im R rw_ q
    · cases hg
  · rename_i d0 ds
    split at hg
    · rename_i hc
      cases hg
      simp only [Bool.and_eq_true] at hc
      obtain ⟨a, vs, rfl, h1, h2⟩ := bTup R.fh hx
      have hl := SeqAt.canLay_of_shaped hc.1
      have dp := dps_of (d0 :: ds) vs (by simpa [PyData.canLay0] using hl) (RelL.mono R.fh _ _ h2)
      have dep : PyData.depthAll (d0 :: ds) + 1 ≤ 64 := SeqAt.depth_of_shaped hc.1
      refine ⟨a, vs, d0, ds, rfl, .inr h1, dp, alike_of hc.2, by omega, fun i v hv he => ?_⟩
      obtain ⟨w, hw, rw_⟩ := h2.get he
      rw [hv] at hw
      cases hw
      exact out_im R rw_ q
    · cases hg
  · cases hg
def minBD : Dat → Option RV := bestD PySem.W.minD
def maxBD : Dat → Option RV := bestD PySem.W.maxD
theorem minBD_ok {K : Fg} : C1Snd K (rBest K PySem.W.minD) minBD := bestD_ok
theorem maxBD_ok {K : Fg} : C1Snd K (rBest K PySem.W.maxD) maxBD := bestD_ok
theorem kc_minB {X : Cx} {K : Fg} (hK : X.K = K) (hc : X.calm = true) (hu : X.A.units + 65 < cLine) : CallR X (.builtin "min") (rBest K PySem.W.minD) := by subst hK; exact cr_minB hc hu
theorem kc_maxB {X : Cx} {K : Fg} (hK : X.K = K) (hc : X.calm = true) (hu : X.A.units + 65 < cLine) : CallR X (.builtin "max") (rBest K PySem.W.maxD) := by subst hK; exact cr_maxB hc hu
end MP


namespace LK
open PySem PySem.Spec PyProof.Rows L2 MP
/-! ### the text by places -/
def topS (i : Nat) : Stmt := PySem.Challenge.pw_manysheets_k32_whole_equal_forms.main.body.getD i (.Pass ⟨0, 0, 0, 0⟩)
abbrev s_law_state : Stmt := topS 15
abbrev s_law_draw : Stmt := topS 16
abbrev s_law_forms : Stmt := topS 29
abbrev s_law_steps : Stmt := topS 24
abbrev s_law_times : Stmt := topS 18
abbrev s_law_all : Stmt := topS 20
abbrev s_law_back : Stmt := topS 19
abbrev s_law_letters_of : Stmt := topS 25
abbrev s_law_plain : Stmt := topS 26
abbrev s_law_cycles : Stmt := topS 21
abbrev s_law_form : Stmt := topS 27
abbrev s_law_turned : Stmt := topS 28
abbrev s_law_all_forms : Stmt := topS 30
abbrev s_least_form : Stmt := topS 11
abbrev s_is_regular_form : Stmt := topS 13
abbrev s_plain_steps : Stmt := topS 9
abbrev s_times : Stmt := topS 2
abbrev s_identity : Stmt := topS 1
abbrev s_product : Stmt := topS 3
abbrev s_inverse : Stmt := topS 4
abbrev s_two_squares_of : Stmt := topS 6
abbrev s_of_form : Stmt := topS 10
abbrev s_forms : Stmt := topS 8
abbrev s_classes : Stmt := topS 12
abbrev s_law : Stmt := topS 31
theorem sc_law_state : FnScope ["script", "seed", "cell"] ["script"] (defScope s_law_state) := ⟨rfl, rfl, rfl, by decide +kernel, rfl, by decide +kernel, by decide +kernel⟩
theorem sc_law_draw : FnScope ["state", "many", "cells", "value", "mixed"] ["state", "many"] (defScope s_law_draw) := ⟨rfl, rfl, rfl, by decide +kernel, rfl, by decide +kernel, by decide +kernel⟩
theorem sc_law_forms : FnScope ["n", "found", "k", "s"] ["n"] (defScope s_law_forms) := ⟨rfl, rfl, rfl, by decide +kernel, rfl, by decide +kernel, by decide +kernel⟩
theorem sc_law_steps : FnScope ["base", "form", "k", "s", "d", "x", "y", "i", "j", "other"] ["base", "form"] (defScope s_law_steps) := ⟨rfl, rfl, rfl, by decide +kernel, rfl, by decide +kernel, by decide +kernel⟩
theorem sc_law_times : FnScope ["one", "other", "sheet"] ["one", "other"] (defScope s_law_times) := ⟨rfl, rfl, rfl, by decide +kernel, rfl, by decide +kernel, by decide +kernel⟩
theorem sc_law_all : FnScope ["n", "rows", "told", "perm", "sheet"] ["n", "rows"] (defScope s_law_all) := ⟨rfl, rfl, rfl, by decide +kernel, rfl, by decide +kernel, by decide +kernel⟩
theorem sc_law_back : FnScope ["perm", "sheet"] ["perm"] (defScope s_law_back) := ⟨rfl, rfl, rfl, by decide +kernel, rfl, by decide +kernel, by decide +kernel⟩
theorem sc_law_letters_of : FnScope ["base", "x", "y"] ["base", "x", "y"] (defScope s_law_letters_of) := ⟨rfl, rfl, rfl, by decide +kernel, rfl, by decide +kernel, by decide +kernel⟩
theorem sc_law_plain : FnScope ["base", "one", "other", "y"] ["base", "one", "other"] (defScope s_law_plain) := ⟨rfl, rfl, rfl, by decide +kernel, rfl, by decide +kernel, by decide +kernel⟩
theorem sc_law_cycles : FnScope ["perm", "told", "seen", "sheet", "row"] ["perm"] (defScope s_law_cycles) := ⟨rfl, rfl, rfl, by decide +kernel, rfl, by decide +kernel, by decide +kernel⟩
theorem sc_law_form : FnScope ["base", "one", "other", "x", "y", "ring", "d", "k", "sheet", "turn", "s", "row"] ["base", "one", "other"] (defScope s_law_form) := ⟨rfl, rfl, rfl, by decide +kernel, rfl, by decide +kernel, by decide +kernel⟩
theorem sc_law_turned : FnScope ["perm", "by"] ["perm", "by"] (defScope s_law_turned) := ⟨rfl, rfl, rfl, by decide +kernel, rfl, by decide +kernel, by decide +kernel⟩
theorem sc_law_all_forms : FnScope ["base", "form", "n", "x", "y", "one", "other", "found", "sheet", "by", "at"] ["base", "form"] (defScope s_law_all_forms) := ⟨rfl, rfl, rfl, by decide +kernel, rfl, by decide +kernel, by decide +kernel⟩
theorem sc_least_form : FnScope ["base", "form", "many", "shift", "round_by"] ["base", "form"] (defScope s_least_form) := ⟨rfl, rfl, rfl, by decide +kernel, rfl, by decide +kernel, by decide +kernel⟩
theorem sc_is_regular_form : FnScope ["base", "form", "many", "shift", "round_by"] ["base", "form"] (defScope s_is_regular_form) := ⟨rfl, rfl, rfl, by decide +kernel, rfl, by decide +kernel, by decide +kernel⟩
theorem sc_plain_steps : FnScope ["base", "form", "many", "shift", "round_by", "back", "first", "second", "row", "at", "place"] ["base", "form"] (defScope s_plain_steps) := ⟨rfl, rfl, rfl, by decide +kernel, rfl, by decide +kernel, by decide +kernel⟩
theorem sc_times : FnScope ["one", "other", "sheet"] ["one", "other"] (defScope s_times) := ⟨rfl, rfl, rfl, by decide +kernel, rfl, by decide +kernel, by decide +kernel⟩
theorem sc_identity : FnScope ["n"] ["n"] (defScope s_identity) := ⟨rfl, rfl, rfl, by decide +kernel, rfl, by decide +kernel, by decide +kernel⟩
theorem sc_product : FnScope ["n", "rows", "told", "perm"] ["n", "rows"] (defScope s_product) := ⟨rfl, rfl, rfl, by decide +kernel, rfl, by decide +kernel, by decide +kernel⟩
theorem sc_inverse : FnScope ["perm", "told", "sheet", "goal"] ["perm"] (defScope s_inverse) := ⟨rfl, rfl, rfl, by decide +kernel, rfl, by decide +kernel, by decide +kernel⟩
theorem sc_two_squares_of : FnScope ["x", "y"] ["x", "y"] (defScope s_two_squares_of) := ⟨rfl, rfl, rfl, by decide +kernel, rfl, by decide +kernel, by decide +kernel⟩
theorem sc_of_form : FnScope ["base", "form", "first", "second"] ["base", "form"] (defScope s_of_form) := ⟨rfl, rfl, rfl, by decide +kernel, rfl, by decide +kernel, by decide +kernel⟩
theorem sc_forms : FnScope ["n", "k", "s"] ["n"] (defScope s_forms) := ⟨rfl, rfl, rfl, by decide +kernel, rfl, by decide +kernel, by decide +kernel⟩
theorem sc_classes : FnScope ["base", "n", "form"] ["base", "n"] (defScope s_classes) := ⟨rfl, rfl, rfl, by decide +kernel, rfl, by decide +kernel, by decide +kernel⟩
theorem sc_law : FnScope ["script", "state", "base", "n", "listed", "turn", "form", "found", "told", "few", "due"] ["script"] (defScope s_law) := ⟨rfl, rfl, rfl, by decide +kernel, rfl, by decide +kernel, by decide +kernel⟩
structure Txt (K : Fg) (mg : Str → Option Value) where
  a_law_state : Addr
  d_law_state : FuncData
  F_law_state : Fun K "_law_state" "_law_state" s_law_state a_law_state d_law_state
  g_law_state : mg "_law_state" = some (.ref a_law_state)
  a_law_draw : Addr
  d_law_draw : FuncData
  F_law_draw : Fun K "_law_draw" "_law_draw" s_law_draw a_law_draw d_law_draw
  g_law_draw : mg "_law_draw" = some (.ref a_law_draw)
  a_law_forms : Addr
  d_law_forms : FuncData
  F_law_forms : Fun K "_law_forms" "_law_forms" s_law_forms a_law_forms d_law_forms
  g_law_forms : mg "_law_forms" = some (.ref a_law_forms)
  a_law_steps : Addr
  d_law_steps : FuncData
  F_law_steps : Fun K "_law_steps" "_law_steps" s_law_steps a_law_steps d_law_steps
  g_law_steps : mg "_law_steps" = some (.ref a_law_steps)
  a_law_times : Addr
  d_law_times : FuncData
  F_law_times : Fun K "_law_times" "_law_times" s_law_times a_law_times d_law_times
  g_law_times : mg "_law_times" = some (.ref a_law_times)
  a_law_all : Addr
  d_law_all : FuncData
  F_law_all : Fun K "_law_all" "_law_all" s_law_all a_law_all d_law_all
  g_law_all : mg "_law_all" = some (.ref a_law_all)
  a_law_back : Addr
  d_law_back : FuncData
  F_law_back : Fun K "_law_back" "_law_back" s_law_back a_law_back d_law_back
  g_law_back : mg "_law_back" = some (.ref a_law_back)
  a_law_letters_of : Addr
  d_law_letters_of : FuncData
  F_law_letters_of : Fun K "_law_letters_of" "_law_letters_of" s_law_letters_of a_law_letters_of d_law_letters_of
  g_law_letters_of : mg "_law_letters_of" = some (.ref a_law_letters_of)
  a_law_plain : Addr
  d_law_plain : FuncData
  F_law_plain : Fun K "_law_plain" "_law_plain" s_law_plain a_law_plain d_law_plain
  g_law_plain : mg "_law_plain" = some (.ref a_law_plain)
  a_law_cycles : Addr
  d_law_cycles : FuncData
  F_law_cycles : Fun K "_law_cycles" "_law_cycles" s_law_cycles a_law_cycles d_law_cycles
  g_law_cycles : mg "_law_cycles" = some (.ref a_law_cycles)
  a_law_form : Addr
  d_law_form : FuncData
  F_law_form : Fun K "_law_form" "_law_form" s_law_form a_law_form d_law_form
  g_law_form : mg "_law_form" = some (.ref a_law_form)
  a_law_turned : Addr
  d_law_turned : FuncData
  F_law_turned : Fun K "_law_turned" "_law_turned" s_law_turned a_law_turned d_law_turned
  g_law_turned : mg "_law_turned" = some (.ref a_law_turned)
  a_law_all_forms : Addr
  d_law_all_forms : FuncData
  F_law_all_forms : Fun K "_law_all_forms" "_law_all_forms" s_law_all_forms a_law_all_forms d_law_all_forms
  g_law_all_forms : mg "_law_all_forms" = some (.ref a_law_all_forms)
  a_least_form : Addr
  d_least_form : FuncData
  F_least_form : Fun K "least_form" "least_form" s_least_form a_least_form d_least_form
  g_least_form : mg "least_form" = some (.ref a_least_form)
  a_is_regular_form : Addr
  d_is_regular_form : FuncData
  F_is_regular_form : Fun K "is_regular_form" "is_regular_form" s_is_regular_form a_is_regular_form d_is_regular_form
  g_is_regular_form : mg "is_regular_form" = some (.ref a_is_regular_form)
  a_plain_steps : Addr
  d_plain_steps : FuncData
  F_plain_steps : Fun K "plain_steps" "plain_steps" s_plain_steps a_plain_steps d_plain_steps
  g_plain_steps : mg "plain_steps" = some (.ref a_plain_steps)
  a_times : Addr
  d_times : FuncData
  F_times : Fun K "times" "times" s_times a_times d_times
  g_times : mg "times" = some (.ref a_times)
  a_identity : Addr
  d_identity : FuncData
  F_identity : Fun K "identity" "identity" s_identity a_identity d_identity
  g_identity : mg "identity" = some (.ref a_identity)
  a_product : Addr
  d_product : FuncData
  F_product : Fun K "product" "product" s_product a_product d_product
  g_product : mg "product" = some (.ref a_product)
  a_inverse : Addr
  d_inverse : FuncData
  F_inverse : Fun K "inverse" "inverse" s_inverse a_inverse d_inverse
  g_inverse : mg "inverse" = some (.ref a_inverse)
  a_two_squares_of : Addr
  d_two_squares_of : FuncData
  F_two_squares_of : Fun K "two_squares_of" "two_squares_of" s_two_squares_of a_two_squares_of d_two_squares_of
  g_two_squares_of : mg "two_squares_of" = some (.ref a_two_squares_of)
  a_of_form : Addr
  d_of_form : FuncData
  F_of_form : Fun K "of_form" "of_form" s_of_form a_of_form d_of_form
  g_of_form : mg "of_form" = some (.ref a_of_form)
  a_forms : Addr
  d_forms : FuncData
  F_forms : Fun K "forms" "forms" s_forms a_forms d_forms
  g_forms : mg "forms" = some (.ref a_forms)
  a_classes : Addr
  d_classes : FuncData
  F_classes : Fun K "classes" "classes" s_classes a_classes d_classes
  g_classes : mg "classes" = some (.ref a_classes)
  a_law : Addr
  d_law : FuncData
  F_law : Fun K "law" "law" s_law a_law d_law
  g_law : mg "law" = some (.ref a_law)
  z_abs : mg "abs" = none
  z_bool : mg "bool" = none
  z_enumerate : mg "enumerate" = none
  z_int : mg "int" = none
  z_isinstance : mg "isinstance" = none
  z_len : mg "len" = none
  z_list : mg "list" = none
  z_min : mg "min" = none
  z_range : mg "range" = none
  z_set : mg "set" = none
  z_sorted : mg "sorted" = none
  z_tuple : mg "tuple" = none
abbrev XX (P : Program) (w : World) (K : Fg) (mg : Str → Option Value) (base : Heap) (N : List Str) (qual : Str) (st : Stmt) (f : Addr) (cdv : Value) (A : Around) (outer : List Env) (s : Shared) (H : Hp) (E : XK) : Cx := (cxOf CX0 P w K mg base N qual (defScope st) f cdv A outer s H E).nox
section
variable {P : Program} {w : World} {K : Fg} {mg : Str → Option Value} {base : Heap}
theorem bind_law_state (T : Txt K mg) : Binds K T.d_law_state ["script"] [] := T.F_law_state.binds (ps := ["script"]) fun _ _ _ _ _ _ us hl => match us, hl with | [_], _ => rfl
theorem bind_law_draw (T : Txt K mg) : Binds K T.d_law_draw ["state", "many"] [] := T.F_law_draw.binds (ps := ["state", "many"]) fun _ _ _ _ _ _ us hl => match us, hl with | [_, _], _ => rfl
theorem bind_law_forms (T : Txt K mg) : Binds K T.d_law_forms ["n"] [] := T.F_law_forms.binds (ps := ["n"]) fun _ _ _ _ _ _ us hl => match us, hl with | [_], _ => rfl
theorem bind_law_steps (T : Txt K mg) : Binds K T.d_law_steps ["base", "form"] [] := T.F_law_steps.binds (ps := ["base", "form"]) fun _ _ _ _ _ _ us hl => match us, hl with | [_, _], _ => rfl
theorem bind_law_times (T : Txt K mg) : Binds K T.d_law_times ["one", "other"] [] := T.F_law_times.binds (ps := ["one", "other"]) fun _ _ _ _ _ _ us hl => match us, hl with | [_, _], _ => rfl
theorem bind_law_all (T : Txt K mg) : Binds K T.d_law_all ["n", "rows"] [] := T.F_law_all.binds (ps := ["n", "rows"]) fun _ _ _ _ _ _ us hl => match us, hl with | [_, _], _ => rfl
theorem bind_law_back (T : Txt K mg) : Binds K T.d_law_back ["perm"] [] := T.F_law_back.binds (ps := ["perm"]) fun _ _ _ _ _ _ us hl => match us, hl with | [_], _ => rfl
theorem bind_law_letters_of (T : Txt K mg) : Binds K T.d_law_letters_of ["base", "x", "y"] [] := T.F_law_letters_of.binds (ps := ["base", "x", "y"]) fun _ _ _ _ _ _ us hl => match us, hl with | [_, _, _], _ => rfl
theorem bind_law_plain (T : Txt K mg) : Binds K T.d_law_plain ["base", "one", "other"] [] := T.F_law_plain.binds (ps := ["base", "one", "other"]) fun _ _ _ _ _ _ us hl => match us, hl with | [_, _, _], _ => rfl
theorem bind_law_cycles (T : Txt K mg) : Binds K T.d_law_cycles ["perm"] [] := T.F_law_cycles.binds (ps := ["perm"]) fun _ _ _ _ _ _ us hl => match us, hl with | [_], _ => rfl
theorem bind_law_form (T : Txt K mg) : Binds K T.d_law_form ["base", "one", "other"] [] := T.F_law_form.binds (ps := ["base", "one", "other"]) fun _ _ _ _ _ _ us hl => match us, hl with | [_, _, _], _ => rfl
theorem bind_law_turned (T : Txt K mg) : Binds K T.d_law_turned ["perm", "by"] [] := T.F_law_turned.binds (ps := ["perm", "by"]) fun _ _ _ _ _ _ us hl => match us, hl with | [_, _], _ => rfl
theorem bind_law_all_forms (T : Txt K mg) : Binds K T.d_law_all_forms ["base", "form"] [] := T.F_law_all_forms.binds (ps := ["base", "form"]) fun _ _ _ _ _ _ us hl => match us, hl with | [_, _], _ => rfl
theorem bind_least_form (T : Txt K mg) : Binds K T.d_least_form ["base", "form"] [] := T.F_least_form.binds (ps := ["base", "form"]) fun _ _ _ _ _ _ us hl => match us, hl with | [_, _], _ => rfl
theorem bind_is_regular_form (T : Txt K mg) : Binds K T.d_is_regular_form ["base", "form"] [] := T.F_is_regular_form.binds (ps := ["base", "form"]) fun _ _ _ _ _ _ us hl => match us, hl with | [_, _], _ => rfl
theorem bind_plain_steps (T : Txt K mg) : Binds K T.d_plain_steps ["base", "form"] [] := T.F_plain_steps.binds (ps := ["base", "form"]) fun _ _ _ _ _ _ us hl => match us, hl with | [_, _], _ => rfl
theorem bind_times (T : Txt K mg) : Binds K T.d_times ["one", "other"] [] := T.F_times.binds (ps := ["one", "other"]) fun _ _ _ _ _ _ us hl => match us, hl with | [_, _], _ => rfl
theorem bind_identity (T : Txt K mg) : Binds K T.d_identity ["n"] [] := T.F_identity.binds (ps := ["n"]) fun _ _ _ _ _ _ us hl => match us, hl with | [_], _ => rfl
theorem bind_product (T : Txt K mg) : Binds K T.d_product ["n", "rows"] [] := T.F_product.binds (ps := ["n", "rows"]) fun _ _ _ _ _ _ us hl => match us, hl with | [_, _], _ => rfl
theorem bind_inverse (T : Txt K mg) : Binds K T.d_inverse ["perm"] [] := T.F_inverse.binds (ps := ["perm"]) fun _ _ _ _ _ _ us hl => match us, hl with | [_], _ => rfl
theorem bind_two_squares_of (T : Txt K mg) : Binds K T.d_two_squares_of ["x", "y"] [] := T.F_two_squares_of.binds (ps := ["x", "y"]) fun _ _ _ _ _ _ us hl => match us, hl with | [_, _], _ => rfl
theorem bind_of_form (T : Txt K mg) : Binds K T.d_of_form ["base", "form"] [] := T.F_of_form.binds (ps := ["base", "form"]) fun _ _ _ _ _ _ us hl => match us, hl with | [_, _], _ => rfl
theorem bind_forms (T : Txt K mg) : Binds K T.d_forms ["n"] [] := T.F_forms.binds (ps := ["n"]) fun _ _ _ _ _ _ us hl => match us, hl with | [_], _ => rfl
theorem bind_classes (T : Txt K mg) : Binds K T.d_classes ["base", "n"] [] := T.F_classes.binds (ps := ["base", "n"]) fun _ _ _ _ _ _ us hl => match us, hl with | [_, _], _ => rfl
theorem bind_law (T : Txt K mg) : Binds K T.d_law ["script"] [] := T.F_law.binds (ps := ["script"]) fun _ _ _ _ _ _ us hl => match us, hl with | [_], _ => rfl
end
/-! ### what the defs compute -/
def fn_law_draw : Fn := drawA
noncomputable def b_law_forms : SM := (seqM (setM 1 (lstM (M.ret [])))
  (seqM (forSM (rng2 (consM (kst (.int 1)) (consM (opM addD (rdV 0) (kst (.int 1))) (M.ret [])))) (nmT 2) (forSM (rng1 (consM (rdV 0) (M.ret []))) (nmT 3) (iteM (andM (tstM (opM eqD (opM modD (unM intD (rdV 0)) (rdV 2)) (kst (.int 0)))) (tstM (opM ltD (rdV 3) (opM fdivD (rdV 0) (rdV 2))))) (appM 1 (tupM (consM (rdV 2) (consM (rdV 3) (consM (opM fdivD (rdV 0) (rdV 2)) (M.ret [])))))) nxM)))
  (retM (rdV 1))))
noncomputable def fn_law_forms : Fn := bodyFn 4 b_law_forms
noncomputable def b_law_steps : SM := (seqM (asgM (tupT 3 (consTs (nmT 2) (consTs (nmT 3) (consTs (nmT 4) nilTs)))) (rdV 1))
  (seqM (parM 5 6 (opM mulD (lstM (consM (kst (.int 0)) (M.ret []))) (opM mulD (rdV 2) (rdV 4))) (opM mulD (lstM (consM (kst (.int 0)) (M.ret []))) (opM mulD (rdV 2) (rdV 4))))
  (seqM (forSM (rng1 (consM (rdV 2) (M.ret []))) (nmT 7) (forSM (rng1 (consM (rdV 4) (M.ret []))) (nmT 8) (seqM (setM 9 (ifM (tstM (opM eqD (opM ixD (rdV 0) (kst (.int 0))) (kst (.str ("N" : Str))))) (rdV 8) (unM negD (rdV 8))))
  (seqM (stoM 6 (opM addD (opM mulD (rdV 7) (rdV 4)) (rdV 8)) (opM addD (opM mulD (rdV 7) (rdV 4)) (opM modD (unM intD (opM addD (rdV 8) (kst (.int 1)))) (rdV 4))))
  (stoM 5 (opM addD (opM mulD (rdV 7) (rdV 4)) (rdV 8)) (ifM (tstM (opM eqD (rdV 7) (opM subD (rdV 2) (kst (.int 1))))) (opM modD (unM intD (opM subD (rdV 9) (rdV 3))) (rdV 4)) (opM addD (opM mulD (opM addD (rdV 7) (kst (.int 1))) (rdV 4)) (opM modD (unM intD (rdV 9)) (rdV 4)))))))))
  (retM (lstM (consM (unM tupleD (rdV 5)) (consM (unM tupleD (rdV 6)) (M.ret []))))))))
noncomputable def fn_law_steps : Fn := bodyFn 10 b_law_steps
noncomputable def b_law_times : SM := (retM (unM tupleD (lcM [2] (seqIt (rdV 0)) (nmT 2) (M.ret true) (opM ixD (rdV 1) (rdV 2)))))
noncomputable def fn_law_times : Fn := bodyFn 3 b_law_times
noncomputable def b_law_all : SM := (seqM (setM 2 (unM tupleD (lcM [4] (rng1 (consM (rdV 0) (M.ret []))) (nmT 4) (M.ret true) (rdV 4))))
  (seqM (forSM (seqIt (rdV 1)) (nmT 3) (setM 2 (callM fn_law_times (consM (rdV 2) (consM (rdV 3) (M.ret []))))))
  (retM (rdV 2))))
noncomputable def fn_law_all : Fn := bodyFn 5 b_law_all
noncomputable def b_law_back : SM := (retM (unM tupleD (lcM [1] (rng1 (consM (unM lenD (rdV 0)) (M.ret []))) (nmT 1) (M.ret true) (idxM (rdV 0) (rdV 1)))))
noncomputable def fn_law_back : Fn := bodyFn 2 b_law_back
noncomputable def b_law_letters_of : SM := (seqM (iteM (tstM (opM eqD (opM ixD (rdV 0) (kst (.int 0))) (kst (.str ("N" : Str))))) (retM (lstM (consM (rdV 1) (consM (rdV 2) (M.ret []))))) nxM)
  (retM (lstM (consM (callM fn_law_times (consM (rdV 1) (consM (rdV 2) (M.ret [])))) (consM (callM fn_law_all (consM (unM lenD (rdV 1)) (consM (lstM (consM (callM fn_law_back (consM (rdV 2) (M.ret []))) (consM (callM fn_law_back (consM (rdV 1) (M.ret []))) (consM (rdV 2) (M.ret []))))) (M.ret [])))) (M.ret []))))))
noncomputable def fn_law_letters_of : Fn := bodyFn 3 b_law_letters_of
noncomputable def b_law_plain : SM := (seqM (iteM (tstM (opM eqD (opM ixD (rdV 0) (kst (.int 0))) (kst (.str ("N" : Str))))) (retM (lstM (consM (rdV 1) (consM (rdV 2) (M.ret []))))) nxM)
  (seqM (setM 3 (callM fn_law_times (consM (rdV 1) (consM (rdV 2) (M.ret [])))))
  (retM (lstM (consM (callM fn_law_times (consM (rdV 1) (consM (callM fn_law_back (consM (rdV 3) (M.ret []))) (M.ret [])))) (consM (rdV 3) (M.ret [])))))))
noncomputable def fn_law_plain : Fn := bodyFn 4 b_law_plain
noncomputable def b_law_cycles : SM := (seqM (setM 1 (lstM (M.ret [])))
  (seqM (setM 2 (lstM (M.ret [])))
  (seqM (forSM (rng1 (consM (unM lenD (rdV 0)) (M.ret []))) (nmT 3) (iteM (tstM (opM ninD (rdV 3) (rdV 2))) (seqM (setM 4 (lstM (consM (rdV 3) (M.ret []))))
  (seqM (whileM (tstM (opM neD (opM ixD (rdV 0) (opM ixD (rdV 4) (unM negD (kst (.int 1))))) (rdV 3))) (appM 4 (opM ixD (rdV 0) (opM ixD (rdV 4) (unM negD (kst (.int 1)))))))
  (seqM (setM 2 (opM addD (rdV 2) (rdV 4)))
  (appM 1 (unM tupleD (rdV 4)))))) nxM))
  (retM (rdV 1)))))
noncomputable def fn_law_cycles : Fn := bodyFn 5 b_law_cycles
noncomputable def b_law_form : SM := (seqM (asgM (tupT 2 (consTs (nmT 3) (consTs (nmT 4) nilTs))) (callM fn_law_plain (consM (rdV 0) (consM (rdV 1) (consM (rdV 2) (M.ret []))))))
  (seqM (setM 5 (opM ixD (lcM [11] (seqIt (callM fn_law_cycles (consM (rdV 4) (M.ret [])))) (nmT 11) (tstM (opM inD (kst (.int 0)) (rdV 11))) (rdV 11)) (kst (.int 0))))
  (seqM (setM 6 (unM lenD (rdV 5)))
  (seqM (setM 7 (opM fdivD (unM lenD (rdV 3)) (rdV 6)))
  (seqM (setM 8 (kst (.int 0)))
  (seqM (forSM (rng1 (consM (rdV 7) (M.ret []))) (nmT 9) (setM 8 (opM ixD (rdV 3) (rdV 8))))
  (seqM (forSM (rng1 (consM (rdV 6) (M.ret []))) (nmT 10) (seqM (iteM (tstM (opM eqD (rdV 8) (kst (.int 0)))) (retM (tupM (consM (rdV 7) (consM (rdV 10) (consM (rdV 6) (M.ret [])))))) nxM)
  (setM 8 (opM ixD (rdV 4) (rdV 8)))))
  (retM (kst .none)))))))))
noncomputable def fn_law_form : Fn := bodyFn 12 b_law_form
noncomputable def b_law_turned : SM := (retM (callM fn_law_all (consM (unM lenD (rdV 1)) (consM (lstM (consM (callM fn_law_back (consM (rdV 1) (M.ret []))) (consM (rdV 0) (consM (rdV 1) (M.ret []))))) (M.ret [])))))
noncomputable def fn_law_turned : Fn := bodyFn 2 b_law_turned
noncomputable def b_law_all_forms : SM := (seqM (setM 2 (opM mulD (opM ixD (rdV 1) (kst (.int 0))) (opM ixD (rdV 1) (kst (.int 2)))))
  (seqM (asgM (tupT 2 (consTs (nmT 3) (consTs (nmT 4) nilTs))) (callM fn_law_steps (consM (rdV 0) (consM (rdV 1) (M.ret [])))))
  (seqM (asgM (tupT 2 (consTs (nmT 5) (consTs (nmT 6) nilTs))) (callM fn_law_letters_of (consM (rdV 0) (consM (rdV 3) (consM (rdV 4) (M.ret []))))))
  (seqM (setM 7 (lstM (M.ret [])))
  (seqM (forSM (rng1 (consM (rdV 2) (M.ret []))) (nmT 8) (seqM (setM 9 (unM tupleD (lcM [10] (rng1 (consM (rdV 2) (M.ret []))) (nmT 10) (M.ret true) (opM modD (unM intD (opM subD (opM addD (rdV 10) (rdV 2)) (rdV 8))) (rdV 2)))))
  (appM 7 (callM fn_law_form (consM (rdV 0) (consM (callM fn_law_turned (consM (rdV 5) (consM (rdV 9) (M.ret [])))) (consM (callM fn_law_turned (consM (rdV 6) (consM (rdV 9) (M.ret [])))) (M.ret []))))))))
  (retM (rdV 7)))))))
noncomputable def fn_law_all_forms : Fn := bodyFn 11 b_law_all_forms
noncomputable def b_least_form : SM := (seqM (asgM (tupT 3 (consTs (nmT 2) (consTs (nmT 3) (consTs (nmT 4) nilTs)))) (rdV 1))
  (seqM (iteM (tstM (opM eqD (opM ixD (rdV 0) (kst (.int 0))) (kst (.str ("N" : Str))))) (retM (rdV 1)) nxM)
  (seqM (iteM (tstM (opM eqD (opM modD (rdV 2) (kst (.int 2))) (kst (.int 1)))) (retM (tupM (consM (rdV 2) (consM (ifM (tstM (opM eqD (opM modD (rdV 4) (kst (.int 2))) (kst (.int 0)))) (opM modD (rdV 3) (kst (.int 2))) (kst (.int 0))) (consM (rdV 4) (M.ret [])))))) nxM)
  (retM (tupM (consM (rdV 2) (consM (cnM min2D (consM (rdV 3) (consM (opM modD (unM negD (rdV 3)) (rdV 4)) (M.ret [])))) (consM (rdV 4) (M.ret [])))))))))
noncomputable def fn_least_form : Fn := bodyFn 5 b_least_form
noncomputable def b_is_regular_form : SM := (seqM (asgM (tupT 3 (consTs (nmT 2) (consTs (nmT 3) (consTs (nmT 4) nilTs)))) (rdV 1))
  (seqM (iteM (tstM (opM eqD (opM ixD (rdV 0) (kst (.int 0))) (kst (.str ("N" : Str))))) (retM (kst (.bool true))) nxM)
  (retM (ifM (tstM (opM eqD (opM modD (rdV 2) (kst (.int 2))) (kst (.int 1)))) (opM leD (rdV 4) (kst (.int 2))) (opM eqD (opM modD (opM mulD (kst (.int 2)) (rdV 3)) (rdV 4)) (kst (.int 0)))))))
noncomputable def fn_is_regular_form : Fn := bodyFn 5 b_is_regular_form
noncomputable def b_plain_steps : SM := (seqM (asgM (tupT 3 (consTs (nmT 2) (consTs (nmT 3) (consTs (nmT 4) nilTs)))) (rdV 1))
  (seqM (setM 5 (opM eqD (opM ixD (rdV 0) (kst (.int 0))) (kst (.str ("M" : Str)))))
  (seqM (setM 6 (lstM (M.ret [])))
  (seqM (setM 7 (lstM (M.ret [])))
  (seqM (forSM (rng1 (consM (rdV 2) (M.ret []))) (nmT 8) (forSM (rng1 (consM (rdV 4) (M.ret []))) (nmT 9) (seqM (setM 10 (ifM (truM (rdV 5)) (unM negD (rdV 9)) (rdV 9)))
  (seqM (iteM (tstM (opM eqD (rdV 8) (opM subD (rdV 2) (kst (.int 1))))) (appM 6 (opM modD (opM subD (rdV 10) (rdV 3)) (rdV 4))) (appM 6 (opM addD (opM mulD (opM addD (rdV 8) (kst (.int 1))) (rdV 4)) (opM modD (rdV 10) (rdV 4)))))
  (appM 7 (opM addD (opM mulD (rdV 8) (rdV 4)) (opM modD (opM addD (rdV 9) (kst (.int 1))) (rdV 4))))))))
  (retM (tupM (consM (unM tupleD (rdV 6)) (consM (unM tupleD (rdV 7)) (M.ret []))))))))))
noncomputable def fn_plain_steps : Fn := bodyFn 11 b_plain_steps
noncomputable def b_times : SM := (retM (unM tupleD (lcM [2] (seqIt (rdV 0)) (nmT 2) (M.ret true) (opM ixD (rdV 1) (rdV 2)))))
noncomputable def fn_times : Fn := bodyFn 3 b_times
noncomputable def b_identity : SM := (retM (tupleRgM (rg1M (rdV 0))))
noncomputable def fn_identity : Fn := bodyFn 1 b_identity
noncomputable def b_product : SM := (seqM (setM 2 (callM fn_identity (consM (rdV 0) (M.ret []))))
  (seqM (forSM (seqIt (rdV 1)) (nmT 3) (setM 2 (callM fn_times (consM (rdV 2) (consM (rdV 3) (M.ret []))))))
  (retM (rdV 2))))
noncomputable def fn_product : Fn := bodyFn 4 b_product
noncomputable def b_inverse : SM := (seqM (setM 1 (opM mulD (lstM (consM (kst (.int 0)) (M.ret []))) (unM lenD (rdV 0))))
  (seqM (forSM (enIt (rdV 0)) (tupT 2 (consTs (nmT 2) (consTs (nmT 3) nilTs))) (stoM 1 (rdV 3) (rdV 2)))
  (retM (unM tupleD (rdV 1)))))
noncomputable def fn_inverse : Fn := bodyFn 4 b_inverse
noncomputable def b_two_squares_of : SM := (retM (tupM (consM (callM fn_times (consM (rdV 0) (consM (rdV 1) (M.ret [])))) (consM (callM fn_product (consM (unM lenD (rdV 0)) (consM (lstM (consM (callM fn_inverse (consM (rdV 1) (M.ret []))) (consM (callM fn_inverse (consM (rdV 0) (M.ret []))) (consM (rdV 1) (M.ret []))))) (M.ret [])))) (M.ret [])))))
noncomputable def fn_two_squares_of : Fn := bodyFn 2 b_two_squares_of
noncomputable def b_of_form : SM := (seqM (asgM (tupT 2 (consTs (nmT 2) (consTs (nmT 3) nilTs))) (callM fn_plain_steps (consM (rdV 0) (consM (rdV 1) (M.ret [])))))
  (seqM (iteM (tstM (opM eqD (opM ixD (rdV 0) (kst (.int 0))) (kst (.str ("N" : Str))))) (retM (tupM (consM (rdV 2) (consM (rdV 3) (M.ret []))))) nxM)
  (retM (callM fn_two_squares_of (consM (rdV 2) (consM (rdV 3) (M.ret [])))))))
noncomputable def fn_of_form : Fn := bodyFn 4 b_of_form
noncomputable def b_forms : SM := (retM (lcM2 [1, 2] [2] (rng2 (consM (kst (.int 1)) (consM (opM addD (rdV 0) (kst (.int 1))) (M.ret [])))) (nmT 1) (tstM (opM eqD (opM modD (rdV 0) (rdV 1)) (kst (.int 0)))) (rng1 (consM (opM fdivD (rdV 0) (rdV 1)) (M.ret []))) (nmT 2) (M.ret true) (tupM (consM (rdV 1) (consM (rdV 2) (consM (opM fdivD (rdV 0) (rdV 1)) (M.ret [])))))))
noncomputable def fn_forms : Fn := bodyFn 3 b_forms
noncomputable def b_classes : SM := (retM (lcM [2] (seqIt (callM fn_forms (consM (rdV 1) (M.ret [])))) (nmT 2) (tstM (opM eqD (callM fn_least_form (consM (rdV 0) (consM (rdV 2) (M.ret [])))) (rdV 2))) (rdV 2)))
noncomputable def fn_classes : Fn := bodyFn 3 b_classes
noncomputable def b_law : SM := (seqM (forSM (seqIt (lstM (consM (tupM (consM (kst (.str ("N" : Str))) (consM (kst (.int 1)) (M.ret [])))) (consM (tupM (consM (kst (.str ("M" : Str))) (consM (kst (.int 2)) (M.ret [])))) (M.ret []))))) (nmT 2) (seqM (setM 3 (opM addD (kst (.int 1)) (callM fn_law_draw (consM (rdV 1) (consM (opM ixD (lstM (consM (kst (.int 8)) (consM (kst (.int 24)) (M.ret [])))) (callM fn_law_draw (consM (rdV 1) (consM (kst (.int 2)) (M.ret []))))) (M.ret []))))))
  (seqM (setM 4 (callM fn_law_forms (consM (rdV 3) (M.ret []))))
  (seqM (forSM (rng1 (consM (kst (.int 4)) (M.ret []))) (nmT 5) (seqM (setM 6 (opM ixD (rdV 4) (callM fn_law_draw (consM (rdV 1) (consM (unM lenD (rdV 4)) (M.ret []))))))
  (seqM (setM 7 (callM fn_law_all_forms (consM (rdV 2) (consM (rdV 6) (M.ret [])))))
  (seqM (iteM (tstM (opM neD (callM fn_least_form (consM (rdV 2) (consM (rdV 6) (M.ret [])))) (unM minBD (rdV 7)))) (retM (kst (.bool false))) nxM)
  (seqM (setM 8 (callM fn_is_regular_form (consM (rdV 2) (consM (rdV 6) (M.ret [])))))
  (iteM (orM (notM (truM (unM (isiD .bool) (rdV 8)))) (orM (tstM (opM neD (rdV 8) (opM eqD (unM lenSetD (rdV 7)) (kst (.int 1))))) (tstM (opM neD (opM ixD (callM fn_of_form (consM (rdV 2) (consM (rdV 6) (M.ret [])))) (kst (.int 0))) (opM ixD (callM fn_law_letters_of (consM (rdV 2) (consM (opM ixD (callM fn_law_steps (consM (rdV 2) (consM (rdV 6) (M.ret [])))) (kst (.int 0))) (consM (opM ixD (callM fn_law_steps (consM (rdV 2) (consM (rdV 6) (M.ret [])))) (kst (.int 1))) (M.ret []))))) (kst (.int 0))))))) (retM (kst (.bool false))) nxM))))))
  (seqM (setM 9 (opM addD (kst (.int 1)) (callM fn_law_draw (consM (rdV 1) (consM (kst (.int 12)) (M.ret []))))))
  (seqM (setM 10 (unM sortSetD (lcM [6] (seqIt (callM fn_law_forms (consM (rdV 9) (M.ret [])))) (nmT 6) (M.ret true) (unM minBD (callM fn_law_all_forms (consM (rdV 2) (consM (rdV 6) (M.ret []))))))))
  (seqM (setM 8 (callM fn_classes (consM (rdV 2) (consM (rdV 9) (M.ret [])))))
  (iteM (orM (notM (truM (unM (isiD .list) (rdV 8)))) (tstM (opM neD (rdV 8) (rdV 10)))) (retM (kst (.bool false))) nxM))))))))
  (retM (kst (.bool true))))
end LK
/-! permutations as rows: plain facts -/
namespace LK
open PySem PySem.Spec PyProof.Rows L2 MP
/-! ### rows of sheets -/
def at' (p : List Nat) (a : Nat) : Nat := p.getD a 0
def OkP (n : Nat) (p : List Nat) : Prop := p.Perm (List.range n)
theorem OkP.len {n : Nat} {p : List Nat} (h : OkP n p) : p.length = n := by simpa using h.length_eq
theorem OkP.get {n a : Nat} {p : List Nat} (h : OkP n p) (ha : a < n) : p[a]? = some (at' p a) := by
  unfold at'
  have : a < p.length := by rw [h.len]; exact ha
  rw [List.getD_eq_getElem?_getD, List.getElem?_eq_getElem this]
  rfl
theorem OkP.lt {n a : Nat} {p : List Nat} (h : OkP n p) (ha : a < n) : at' p a < n :=
  List.mem_range.mp ((List.Perm.mem_iff h).mp (List.mem_of_getElem? (h.get ha)))
theorem OkP.nodup {n : Nat} {p : List Nat} (h : OkP n p) : p.Nodup := (List.Perm.nodup_iff h).mpr List.nodup_range
theorem OkP.inj {n a b : Nat} {p : List Nat} (h : OkP n p) (ha : a < n) (hb : b < n) (e : at' p a = at' p b) : a = b := by
  have h1 := h.get ha
  have h2 := h.get hb
  rw [← e] at h2
  have hn := h.nodup
  have ha' : a < p.length := by rw [h.len]; exact ha
  have hb' : b < p.length := by rw [h.len]; exact hb
  rw [List.getElem?_eq_getElem ha'] at h1
  rw [List.getElem?_eq_getElem hb'] at h2
  have h3 : p[a] = p[b] := by rw [Option.some.inj h1, Option.some.inj h2]
  rcases Nat.lt_trichotomy a b with z | z | z
  · exact absurd h3 (List.pairwise_iff_getElem.mp hn a b ha' hb' z)
  · exact z
  · exact absurd h3.symm (List.pairwise_iff_getElem.mp hn b a hb' ha' z)
theorem pig {l m : List Nat} (hl : l.Nodup) (hs : ∀ x ∈ l, x ∈ m) (hlen : m.length ≤ l.length) {x : Nat} (hx : x ∈ m) : x ∈ l := by
  refine Classical.byContradiction fun hn => ?_
  have := List.Nodup.length_le_of_subset (l₁ := x :: l) (l₂ := m) (List.nodup_cons.mpr ⟨hn, hl⟩) (fun y hy => by
    rcases List.mem_cons.mp hy with rfl | hy
    · exact hx
    · exact hs y hy)
  simp at this
  omega

theorem at_set {l : List Nat} {i v a : Nat} (hi : i < l.length) : at' (l.set i v) a = if a = i then v else at' l a := by
  unfold at'
  rw [List.getD_eq_getElem?_getD, List.getD_eq_getElem?_getD, List.getElem?_set]
  by_cases h : i = a
  · subst h
    simp [hi]
  · have : ¬ a = i := fun z => h z.symm
    simp [h, this]
theorem at_get {l : List Nat} {a : Nat} (h : a < l.length) : l[a]? = some (at' l a) := by
  unfold at'
  rw [List.getD_eq_getElem?_getD, List.getElem?_eq_getElem h]
  rfl
theorem perm_map_at {p q : List Nat} (h : q.Perm (List.range p.length)) : (q.map (at' p)).Perm p := by
  have h1 := h.map (at' p)
  have h2 : (List.range p.length).map (at' p) = p := by
    refine List.ext_getElem (by simp) fun i h3 h4 => ?_
    rw [List.getElem_map, List.getElem_range]
    unfold at'
    rw [List.getD_eq_getElem?_getD, List.getElem?_eq_getElem h4]
    rfl
  rw [h2] at h1
  exact h1
theorem eq_of_lt {l m : List Nat} (hl : l.Pairwise (· < ·)) (hm : m.Pairwise (· < ·)) (h : ∀ x, x ∈ l ↔ x ∈ m) : l = m :=
  List.Perm.eq_of_pairwise (le := (· < ·)) (fun a b _ _ h1 h2 => by omega) hl hm ((List.perm_ext_iff_of_nodup (hl.imp fun h => Nat.ne_of_lt h) (hm.imp fun h => Nat.ne_of_lt h)).mpr h)
theorem ok_of_nodup {n : Nat} {l : List Nat} (h1 : l.Nodup) (h2 : ∀ x ∈ l, x < n) (h3 : l.length = n) : OkP n l := by
  refine (List.perm_ext_iff_of_nodup h1 List.nodup_range).mpr fun x => ⟨fun h => List.mem_range.mpr (h2 x h), fun h => ?_⟩
  exact pig h1 (fun y hy => List.mem_range.mpr (h2 y hy)) (by rw [List.length_range, h3]; exact Nat.le_refl _) h
theorem range_split {n x : Nat} {pre post : List Nat} (h : List.range n = pre ++ x :: post) : pre = List.range x ∧ x < n ∧ pre.length = x := by
  have hl : n = pre.length + (post.length + 1) := by simpa using congrArg List.length h
  have h1 : (List.range n)[pre.length]? = some x := by rw [h]; simp
  rw [List.getElem?_range (by omega)] at h1
  have hx : pre.length = x := Option.some.inj h1
  have h2 : (List.range n).take pre.length = pre := by rw [h]; simp
  rw [List.take_range, Nat.min_eq_left (by omega), hx] at h2
  exact ⟨h2.symm, by omega, hx⟩
/-- rows as data -/
def rL (rows : List (List Nat)) : List Dat := rows.map fun p => .tuple (nL p)
theorem sIx_nat' {n d k : Nat} (h : k ≤ n) : HT.sIx n d (some (k : Int)) = k := by
  rw [HT.sIx_nat]
  exact Nat.min_eq_left h
theorem cut_nat {xs : List Nat} {a b : Nat} (h1 : a ≤ xs.length) (h2 : b ≤ xs.length) : MP.cutD (nL xs) (some (a : Int)) (some (b : Int)) = nL ((xs.drop a).take (b - a)) := by
  unfold MP.cutD
  rw [nL_len, sIx_nat' h1, sIx_nat' h2]
  unfold nL
  rw [← List.map_drop, ← List.map_take]
theorem mod_nat {a b : Nat} (h : 0 < b) : modD (.int (a : Int)) (.int (b : Int)) = some (.im (.int ((a % b : Nat) : Int))) := by
  show (if decide ((b : Int) ≠ 0) then _ else _) = _
  rw [if_pos (decide_eq_true (by omega))]
  show some (RV.im (.int ((a : Int).fmod (b : Int)))) = _
  rw [Int.fmod_eq_emod_of_nonneg _ (by omega)]
  rfl
theorem rL_len {rows : List (List Nat)} : (rL rows).length = rows.length := List.length_map _
theorem rL_app {rows : List (List Nat)} {p : List Nat} : rL rows ++ [.tuple (nL p)] = rL (rows ++ [p]) := by
  unfold rL
  rw [List.map_append]
  rfl
section
variable {rows : List (List Nat)} {d : Dat}
/-- rows as they are walked -/
def Rws (d : Dat) (rows : List (List Nat)) : Prop := d = .list (rL rows) ∨ d = .tuple (rL rows)
theorem Rws.items (h : Rws d rows) : MP.items? d = some (rL rows) := by
  rcases h with rfl | rfl <;> rfl
end
end LK

namespace LK
open PySem PySem.Spec PyProof.Rows L2 MP

/-! ### products -/
def tm (p q : List Nat) : List Nat := p.map (at' q)
theorem tm_ok {n : Nat} {p q : List Nat} (hp : OkP n p) (hq : OkP n q) : OkP n (tm p q) := by
  have h1 : (tm p q).Perm ((List.range n).map (at' q)) := hp.map _
  have h2 : (List.range n).map (at' q) = q := by
    refine List.ext_getElem (by simp [hq.len]) fun i h3 h4 => ?_
    rw [List.getElem_map, List.getElem_range]
    unfold at'
    rw [List.getD_eq_getElem?_getD, List.getElem?_eq_getElem h4]
    rfl
  rw [h2] at h1
  exact h1.trans hq
theorem tm_len {p q : List Nat} : (tm p q).length = p.length := List.length_map _
theorem OkP.mem_lt {n x : Nat} {p : List Nat} (h : OkP n p) (hx : x ∈ p) : x < n := List.mem_range.mp ((List.Perm.mem_iff h).mp hx)
theorem OkP.id {n : Nat} : OkP n (List.range n) := List.Perm.refl _
theorem at_range {n a : Nat} (h : a < n) : at' (List.range n) a = a := by
  unfold at'
  rw [List.getD_eq_getElem?_getD, List.getElem?_range h]
  rfl
theorem at_map {p : List Nat} {f : Nat → Nat} {a : Nat} (h : a < p.length) : at' (p.map f) a = f (at' p a) := by
  unfold at'
  rw [List.getD_eq_getElem?_getD, List.getD_eq_getElem?_getD, List.getElem?_map, List.getElem?_eq_getElem h]
  rfl
theorem ext_at {p q : List Nat} {n : Nat} (hp : p.length = n) (hq : q.length = n) (h : ∀ a, a < n → at' p a = at' q a) : p = q := by
  refine List.ext_getElem (by rw [hp, hq]) fun i h1 h2 => ?_
  have := h i (by omega)
  unfold at' at this
  rw [List.getD_eq_getElem?_getD, List.getD_eq_getElem?_getD, List.getElem?_eq_getElem h1, List.getElem?_eq_getElem h2] at this
  exact this
/-! ### the inverse -/
def inv (p : List Nat) : List Nat := (List.range p.length).map fun s => p.idxOf s
theorem inv_len {p : List Nat} : (inv p).length = p.length := by unfold inv; simp
theorem at_idx {p : List Nat} {s : Nat} (h : s ∈ p) : at' p (p.idxOf s) = s := by
  have := List.getElem_idxOf (List.idxOf_lt_length_of_mem h)
  unfold at'
  rw [List.getD_eq_getElem?_getD, List.getElem?_eq_getElem (List.idxOf_lt_length_of_mem h)]
  exact this
theorem OkP.mem {n s : Nat} {p : List Nat} (h : OkP n p) (hs : s < n) : s ∈ p := (List.Perm.mem_iff h).mpr (List.mem_range.mpr hs)
theorem idx_lt {n s : Nat} {p : List Nat} (h : OkP n p) (hs : s < n) : p.idxOf s < n := by
  have := List.idxOf_lt_length_of_mem (h.mem hs)
  rw [h.len] at this
  exact this
theorem at_inv {n s : Nat} {p : List Nat} (h : OkP n p) (hs : s < n) : at' (inv p) s = p.idxOf s := by
  unfold inv
  rw [at_map (by simp [h.len]; exact hs), at_range (by rw [h.len]; exact hs)]
theorem idx_at {n s : Nat} {p : List Nat} (h : OkP n p) (hs : s < n) : p.idxOf (at' p s) = s := by
  refine h.inj (idx_lt h (h.lt hs)) hs ?_
  exact at_idx (h.mem (h.lt hs))
theorem inv_ok {n : Nat} {p : List Nat} (h : OkP n p) : OkP n (inv p) := by
  refine ok_of_nodup ?_ (fun x hx => ?_) (by rw [inv_len, h.len])
  · unfold inv
    refine List.pairwise_map.mpr (List.Pairwise.imp_of_mem (fun {a b} ha hb hne e => hne ?_) List.nodup_range)
    have ha := List.mem_range.mp ha
    have hb := List.mem_range.mp hb
    rw [h.len] at ha hb
    rw [← at_idx (h.mem ha), ← at_idx (h.mem hb), e]
  · unfold inv at hx
    obtain ⟨a, ha, rfl⟩ := List.mem_map.mp hx
    have ha := List.mem_range.mp ha
    rw [h.len] at ha
    exact idx_lt h ha
theorem tm_inv {n : Nat} {p : List Nat} (h : OkP n p) : tm p (inv p) = List.range n := by
  refine ext_at (n := n) (by rw [tm_len, h.len]) (by simp) fun a ha => ?_
  unfold tm
  rw [at_map (by rw [h.len]; exact ha), at_inv h (h.lt ha), idx_at h ha, at_range ha]
/-- the product of rows -/
def prodR (n : Nat) (rows : List (List Nat)) : List Nat := rows.foldl tm (List.range n)
theorem prod_ok {n : Nat} {rows : List (List Nat)} (h : ∀ p ∈ rows, OkP n p) : OkP n (prodR n rows) := by
  unfold prodR
  suffices g : ∀ (rows : List (List Nat)) (p0 : List Nat), OkP n p0 → (∀ p ∈ rows, OkP n p) → OkP n (rows.foldl tm p0) from g rows _ .id h
  intro rows
  induction rows with
  | nil => exact fun p0 h0 _ => h0
  | cons p rows ih => exact fun p0 h0 h => ih _ (tm_ok h0 (h p (List.mem_cons_self ..))) fun q hq => h q (List.mem_cons_of_mem _ hq)
end LK

namespace LK
open PySem PySem.Spec PyProof.Rows L2 MP
section
variable {n : Nat} {p q : List Nat} {dr : Dr}
theorem law_times_ok (hn : n ≤ 100) (hp : OkP n p) (hq : OkP n q) : fn_law_times [.tuple (nL p), .tuple (nL q)] dr = some (.im (.tuple (nL (tm p q))), dr) := by
  have : CV fn_law_times [.tuple (nL p), .tuple (nL q)] dr fun r dr' => r = .im (.tuple (nL (tm p q))) ∧ dr' = dr := by
    refine c_body (w_ret (v_un (v_map (fun k : Nat => .int (k : Int)) p (ps1 := ⟨[.fr (.tuple (nL p)), .fr (.tuple (nL q)), .un], dr⟩) (by simp [nL]) (by rw [hp.len]; omega) (fun k => .int (at' q k : Int)) (fun k hk => ⟨_, ⟨[.fr (.tuple (nL p)), .fr (.tuple (nL q)), .fr (.int (k : Int))], dr⟩, rfl, ?_, by simp⟩) ?_)))
    · have := nL_at (hq.get (hp.mem_lt hk))
      simp [this]
    · refine ⟨.list (nL (tm p q)), ?_, .im (.tuple (nL (tm p q))), rfl, .rt (.im (.tuple (nL (tm p q)))) ⟨[.fr (.tuple (nL p)), .fr (.tuple (nL q)), .un], dr⟩, by simp, rfl, rfl⟩
      simp [nL, tm]
  obtain ⟨r, dr', e, rfl, rfl⟩ := this
  exact e
end
end LK

namespace LK
open PySem PySem.Spec PyProof.Rows L2 MP
section
variable {n : Nat} {dr : Dr} {d : Dat} {rows : List (List Nat)}
theorem prod_snoc {n : Nat} {rows : List (List Nat)} {p : List Nat} : prodR n (rows ++ [p]) = tm (prodR n rows) p := by
  unfold prodR
  rw [List.foldl_append]
  rfl
theorem law_all_ok (hn : n ≤ 100) (h : ∀ p ∈ rows, OkP n p) (hd : Rws d rows) : fn_law_all [.int (n : Int), d] dr = some (.im (.tuple (nL (prodR n rows))), dr) := by
  have : CV fn_law_all [.int (n : Int), d] dr fun r dr' => r = .im (.tuple (nL (prodR n rows))) ∧ dr' = dr := by
    have hb := b62_nat (n := n) (by omega)
    refine c_body (w_seq (w_set (v_un (v_map (fun k : Nat => .int (k : Int)) (List.range n) (by simp [hb, rgD_nat]; exact ⟨rfl, rfl⟩) (by simp; omega) (fun k => .int (k : Int)) (fun k hk => ⟨_, _, rfl, by simp; rfl, by simp⟩) ?_))))
    refine ⟨.list (nL (List.range n)), rfl, .im (.tuple (nL (List.range n))), rfl, ⟨[.fr (.int (n : Int)), .fr d, .fr (.tuple (nL (List.range n))), .un, .un], dr⟩, by simp, ?_⟩
    refine w_seq (w_for (fun p => .tuple (nL p)) rows (ps1 := ⟨[.fr (.int (n : Int)), .fr d, .fr (.tuple (nL (List.range n))), .un, .un], dr⟩) (by simp [hd.items, rL]) (fun pre q => ∃ z, q = ⟨[.fr (.int (n : Int)), .fr d, .fr (.tuple (nL (prodR n pre))), z, .un], dr⟩) ⟨_, rfl⟩ ?_ ?_)
    · rintro pre p post q hx ⟨z, rfl⟩
      have h1 : ∀ p ∈ pre, OkP n p := fun p hp => h p (by rw [hx]; simp [hp])
      have e := law_times_ok (dr := dr) hn (prod_ok h1) (h p (by rw [hx]; simp))
      refine ⟨_, rfl, w_det (o := .nx ⟨[.fr (.int (n : Int)), .fr d, .fr (.tuple (nL (prodR n (pre ++ [p])))), .fr (.tuple (nL p)), .un], dr⟩) (by simp [e, prod_snoc]) ⟨_, rfl⟩⟩
    · rintro q ⟨z, rfl⟩
      exact w_det (o := .rt (.im (.tuple (nL (prodR n rows)))) ⟨[.fr (.int (n : Int)), .fr d, .fr (.tuple (nL (prodR n rows))), z, .un], dr⟩) (by simp) ⟨rfl, rfl⟩
  obtain ⟨r, dr', e, rfl, rfl⟩ := this
  exact e
end
end LK

namespace LK
open PySem PySem.Spec PyProof.Rows L2 MP
section
variable {n : Nat} {p q : List Nat} {dr : Dr}
theorem idxOf_cast {s : Nat} : ∀ {p : List Nat}, (p.map fun (k : Nat) => (k : Int)).idxOf (s : Int) = p.idxOf s
  | [] => rfl
  | x :: p => by
    have e : ((x : Int) == (s : Int)) = (x == s) := by
      by_cases h : x = s
      · rw [h, beq_self_eq_true, beq_self_eq_true]
      · rw [beq_eq_false_iff_ne.mpr h, beq_eq_false_iff_ne.mpr (fun z => h (Int.ofNat_inj.mp z))]
    rw [List.map_cons, List.idxOf_cons, List.idxOf_cons, idxOf_cast (p := p), e]
theorem law_back_ok (hn : n ≤ 100) (hp : OkP n p) : fn_law_back [.tuple (nL p)] dr = some (.im (.tuple (nL (inv p))), dr) := by
  have : CV fn_law_back [.tuple (nL p)] dr fun r dr' => r = .im (.tuple (nL (inv p))) ∧ dr' = dr := by
    have hb := b62_nat (n := p.length) (by rw [hp.len]; omega)
    refine c_body (w_ret (v_un (v_map (fun k : Nat => .int (k : Int)) (List.range p.length) (ps1 := ⟨[.fr (.tuple (nL p)), .un], dr⟩) (by simp [hb, rgD_nat]; rfl) (by simp [hp.len]; omega) (fun k => .int (p.idxOf k : Int)) (fun k hk => ⟨_, ⟨[.fr (.tuple (nL p)), .fr (.int (k : Int))], dr⟩, rfl, ?_, by simp⟩) ?_)))
    · have hk' := List.mem_range.mp hk
      rw [hp.len] at hk'
      have hm : ∃ a, a ∈ p ∧ (a : Int) = (k : Int) := ⟨k, hp.mem hk', rfl⟩
      simp [ints_nL, idxOf_cast, hm]
    · refine ⟨.list (nL (inv p)), ?_, .im (.tuple (nL (inv p))), rfl, .rt (.im (.tuple (nL (inv p)))) ⟨[.fr (.tuple (nL p)), .un], dr⟩, by simp, rfl, rfl⟩
      simp [nL, inv]
  obtain ⟨r, dr', e, rfl, rfl⟩ := this
  exact e
end
end LK

namespace LK
open PySem PySem.Spec PyProof.Rows L2 MP
section
variable {n : Nat} {p q : List Nat} {dr : Dr}
def enN (p : List Nat) : List Dat := p.zipIdx.map fun z => PyData.dict [(.int (z.2 : Nat), .int (z.1 : Int))]
theorem enL_nL : enL (nL p) = enN p := by
  unfold enL enN nL
  rw [List.zipIdx_map, List.map_map]
  rfl
theorem zip_split {pre post : List (Nat × Nat)} {z : Nat × Nat} (h : p.zipIdx = pre ++ z :: post) : z.2 = pre.length ∧ p[pre.length]? = some z.1 := by
  have h1 : (p.zipIdx)[pre.length]? = some z := by rw [h]; simp
  rw [List.getElem?_zipIdx] at h1
  cases q : p[pre.length]? with
  | none => rw [q] at h1; cases h1
  | some x =>
    rw [q] at h1
    have := Option.some.inj h1
    rw [← this]
    exact ⟨by simp, rfl⟩
theorem zeros_ok {k : Nat} (h : k ≤ 1000) : mulD (.list [.int 0]) (.int (k : Int)) = some (.nw (nL (List.replicate k 0))) := by
  have hz : (List.replicate (k : Int).toNat [PyData.int 0]).flatten = nL (List.replicate k 0) := by
    rw [Int.toNat_natCast]
    unfold nL
    rw [List.map_replicate]
    exact List.flatten_replicate_singleton
  show (if b62 (k : Int) && line (1 * (k : Int).toNat) then some (RV.nw (List.replicate (k : Int).toNat [PyData.int 0]).flatten) else none) = _
  rw [hz, b62_nat (by omega), line_of (by simp; omega)]
  rfl
end
end LK

namespace LK
open PySem PySem.Spec PyProof.Rows L2 MP
section
variable {n : Nat} {p q : List Nat} {dr : Dr}
def psI (p told : List Nat) (a b : Sl) (dr : Dr) : PS := ⟨[.fr (.tuple (nL p)), .ow (nL told), a, b], dr⟩
theorem inverse_ok (hn : n ≤ 100) (hp : OkP n p) : fn_inverse [.tuple (nL p)] dr = some (.im (.tuple (nL (inv p))), dr) := by
  have hpl := hp.len
  have : CV fn_inverse [.tuple (nL p)] dr fun r dr' => r = .im (.tuple (nL (inv p))) ∧ dr' = dr := by
    refine c_body (w_nx (ps1 := psI p (List.replicate n 0) .un .un dr) (by simp [line_of, hpl, zeros_ok (k := n) (by omega), psI]) ?_)
    refine w_seq (w_for (fun z : Nat × Nat => PyData.dict [(.int (z.2 : Nat), .int (z.1 : Int))]) p.zipIdx (ps1 := psI p (List.replicate n 0) .un .un dr) (by simp [psI, enL_nL, enN]) (fun pre q => ∃ told a b, q = psI p told a b dr ∧ told.length = n ∧ ∀ j, j < pre.length → at' told (at' p j) = j) ⟨_, _, _, rfl, by simp, fun j hj => by simp at hj⟩ ?_ ?_)
    · rintro pre z post q hx ⟨told, a, b, rfl, hl, hj⟩
      obtain ⟨h1, h2⟩ := zip_split hx
      have hpre : pre.length < n := by
        have := congrArg List.length hx
        simp [hpl] at this
        omega
      have h3 : z.1 = at' p pre.length := by
        have := at_get (l := p) (a := pre.length) (by omega)
        rw [h2] at this
        exact Option.some.inj this
      have hz : z.1 < n := by rw [h3]; exact hp.lt hpre
      have i1 : ixN told.length (z.1 : Int) = some z.1 := ixN_nat (by omega)
      refine ⟨psI p told (.fr (.int (z.2 : Nat))) (.fr (.int (z.1 : Int))) dr, by simp [psI], w_det (o := .nx (psI p (told.set z.1 z.2) (.fr (.int (z.2 : Nat))) (.fr (.int (z.1 : Int))) dr)) (by simp [psI, i1, nL_set]) ?_⟩
      refine ⟨_, _, _, rfl, by simp [hl], fun j hjl => ?_⟩
      rw [at_set (by omega)]
      simp only [List.length_append, List.length_singleton] at hjl
      by_cases e : j = pre.length
      · rw [e, if_pos h3.symm, h1]
      · rw [if_neg (fun z' => e (hp.inj (by omega) hpre (by rw [← h3]; exact z'))), hj j (by omega)]
    · rintro q ⟨told, a, b, rfl, hl, hj⟩
      have e : told = inv p := by
        refine ext_at hl (by rw [inv_len, hpl]) fun s hs => ?_
        rw [at_inv hp hs]
        have h1 := hj (p.idxOf s) (by simp [hpl]; exact idx_lt hp hs)
        rw [at_idx (hp.mem hs)] at h1
        exact h1
      subst e
      refine w_det (by simp [psI]; rfl) ?_
      exact ⟨rfl, rfl⟩
  obtain ⟨r, dr', e, rfl, rfl⟩ := this
  exact e
end
end LK

namespace LK
open PySem PySem.Spec PyProof.Rows L2 MP
/-! ### forms -/
structure Fm where
  k : Nat
  s : Nat
  d : Nat
def Fm.n (f : Fm) : Nat := f.k * f.d
def Fm.Ok (f : Fm) : Prop := 0 < f.k ∧ 0 < f.d ∧ f.s < f.d
def sg (b : Bool) : Int := if b then 1 else -1
def pt (d r : Nat) (z : Int) : Nat := r * d + (z % (d : Int)).toNat
def sX (b : Bool) (f : Fm) (a : Nat) : Nat := if a / f.d = f.k - 1 then pt f.d 0 (sg b * ((a % f.d : Nat) : Int) - f.s) else pt f.d (a / f.d + 1) (sg b * ((a % f.d : Nat) : Int))
def sY (f : Fm) (a : Nat) : Nat := pt f.d (a / f.d) (((a % f.d : Nat) : Int) + 1)
section
variable {b : Bool} {f g h : Fm} {d r r' k a : Nat} {z z' : Int}
theorem pm_lt (hd : 0 < d) : (z % (d : Int)).toNat < d := by
  have h1 := Int.emod_nonneg z (show (d : Int) ≠ 0 by omega)
  have h2 := Int.emod_lt_of_pos z (show (0 : Int) < (d : Int) by omega)
  omega
theorem pt_lt (hd : 0 < d) (hr : r < k) : pt d r z < k * d := by
  unfold pt
  have h1 := pm_lt (z := z) hd
  have h2 : (r + 1) * d ≤ k * d := Nat.mul_le_mul_right _ hr
  rw [Nat.succ_mul] at h2
  omega
theorem pt_div (hd : 0 < d) : pt d r z / d = r := by
  unfold pt
  rw [Nat.mul_comm, Nat.mul_add_div hd, Nat.div_eq_of_lt (pm_lt hd), Nat.add_zero]
theorem pt_mod (hd : 0 < d) : pt d r z % d = (z % (d : Int)).toNat := by
  unfold pt
  rw [Nat.mul_comm, Nat.mul_add_mod, Nat.mod_eq_of_lt (pm_lt hd)]
theorem pt_modI (hd : 0 < d) : ((pt d r z % d : Nat) : Int) = z % (d : Int) := by
  rw [pt_mod hd]
  have h1 := Int.emod_nonneg z (show (d : Int) ≠ 0 by omega)
  omega
theorem pt_congr (h : z % (d : Int) = z' % (d : Int)) : pt d r z = pt d r z' := by
  unfold pt
  rw [h]
theorem pt_inj (hd : 0 < d) (h : pt d r z = pt d r' z') : r = r' ∧ z % (d : Int) = z' % (d : Int) := by
  constructor
  · have h1 : pt d r z / d = pt d r' z' / d := by rw [h]
    rwa [pt_div hd, pt_div hd] at h1
  · have h1 : ((pt d r z % d : Nat) : Int) = ((pt d r' z' % d : Nat) : Int) := by rw [h]
    rwa [pt_modI hd, pt_modI hd] at h1
theorem pt_self (hd : 0 < d) : pt d (a / d) ((a % d : Nat) : Int) = a := by
  unfold pt
  rw [Int.emod_eq_of_lt (by omega) (by have := Nat.mod_lt a hd; omega), Int.toNat_natCast, Nat.mul_comm]
  exact Nat.div_add_mod a d
theorem pt_mod' (hd : 0 < d) : pt d r (z % (d : Int)) = pt d r z := pt_congr (Int.emod_emod_of_dvd z (Int.dvd_refl _))
theorem sX_pt (hd : 0 < f.d) : sX b f (pt f.d r z) = if r = f.k - 1 then pt f.d 0 (sg b * z - f.s) else pt f.d (r + 1) (sg b * z) := by
  unfold sX
  rw [pt_div hd, pt_modI hd]
  have e : ∀ c : Int, (sg b * (z % (f.d : Int)) - c) % (f.d : Int) = (sg b * z - c) % (f.d : Int) := fun c => by
    rw [Int.sub_emod, Int.mul_emod, Int.emod_emod_of_dvd z (Int.dvd_refl _), ← Int.mul_emod, ← Int.sub_emod]
  split
  · exact pt_congr (e _)
  · exact pt_congr (by have := e 0; simpa using this)
theorem sY_pt (hd : 0 < f.d) : sY f (pt f.d r z) = pt f.d r (z + 1) := by
  unfold sY
  rw [pt_div hd, pt_modI hd]
  exact pt_congr (by rw [Int.add_emod, Int.emod_emod_of_dvd z (Int.dvd_refl _), ← Int.add_emod])
theorem div_lt (hd : 0 < d) (ha : a < k * d) : a / d < k := (Nat.div_lt_iff_lt_mul hd).mpr ha
theorem sX_lt (hf : f.Ok) (ha : a < f.n) : sX b f a < f.n := by
  have hr : a / f.d < f.k := div_lt hf.2.1 ha
  unfold sX
  generalize a / f.d = q at hr ⊢
  split
  · exact pt_lt hf.2.1 hf.1
  · exact pt_lt hf.2.1 (by omega)
theorem sY_lt (hf : f.Ok) (ha : a < f.n) : sY f a < f.n := pt_lt hf.2.1 (div_lt hf.2.1 ha)
theorem sg_sq : sg b * sg b = 1 := by cases b <;> rfl
theorem sg_cancel (h : (sg b * z - z') % (d : Int) = (sg b * r - z') % (d : Int)) : z % (d : Int) = r % (d : Int) := by
  have h1 := Int.emod_emod_of_dvd
  have h2 : (d : Int) ∣ sg b * z - z' - (sg b * r - z') := Int.dvd_of_emod_eq_zero (by rw [Int.sub_emod, h, Int.sub_self]; rfl)
  have h3 : sg b * z - z' - (sg b * r - z') = sg b * (z - r) := by rw [Int.mul_sub]; omega
  rw [h3] at h2
  have h4 : (d : Int) ∣ sg b * (sg b * (z - r)) := Int.dvd_mul_of_dvd_right h2
  rw [← Int.mul_assoc, sg_sq, Int.one_mul] at h4
  exact Int.emod_eq_emod_iff_emod_sub_eq_zero.mpr (Int.emod_eq_zero_of_dvd h4)
theorem sX_inj (hf : f.Ok) {a c : Nat} (ha : a < f.n) (hc : c < f.n) (e : sX b f a = sX b f c) : a = c := by
  have hd := hf.2.1
  have ra : a / f.d < f.k := div_lt hd ha
  have rc : c / f.d < f.k := div_lt hd hc
  obtain ⟨u, hu⟩ : ∃ u, u = a / f.d := ⟨_, rfl⟩
  obtain ⟨v, hv⟩ : ∃ v, v = c / f.d := ⟨_, rfl⟩
  have key : ∀ x : Int, (sg b * ((a % f.d : Nat) : Int) - x) % (f.d : Int) = (sg b * ((c % f.d : Nat) : Int) - x) % (f.d : Int) → a / f.d = c / f.d → a = c := fun x hx hq => by
    have h1 := sg_cancel (r := c % f.d) hx
    rw [← pt_self (a := a) hd, ← pt_self (a := c) hd, hq]
    exact pt_congr h1
  unfold sX at e
  rw [← hu] at ra e key
  rw [← hv] at rc e key
  split at e <;> split at e
  · exact key _ (pt_inj hd e).2 (by omega)
  · have := (pt_inj hd e).1
    omega
  · have := (pt_inj hd e).1
    omega
  · obtain ⟨h1, h2⟩ := pt_inj hd e
    exact key 0 (by simpa using h2) (by omega)
theorem sY_inj (hf : f.Ok) {a c : Nat} (e : sY f a = sY f c) : a = c := by
  have hd := hf.2.1
  obtain ⟨h1, h2⟩ := pt_inj hd e
  rw [← pt_self (a := a) hd, ← pt_self (a := c) hd, h1]
  refine pt_congr ?_
  have h3 := Int.emod_eq_emod_iff_emod_sub_eq_zero.mp h2
  rw [show ((a % f.d : Nat) : Int) + 1 - (((c % f.d : Nat) : Int) + 1) = ((a % f.d : Nat) : Int) - ((c % f.d : Nat) : Int) by omega] at h3
  exact Int.emod_eq_emod_iff_emod_sub_eq_zero.mpr h3
/-! ### both walked at once -/
inductive Orb (b : Bool) (f g : Fm) : Nat → Nat → Prop
  | zero : Orb b f g 0 0
  | x {a c} : Orb b f g a c → Orb b f g (sX b f a) (sX b g c)
  | y {a c} : Orb b f g a c → Orb b f g (sY f a) (sY g c)
  | xi {a c} : a < f.n → c < g.n → Orb b f g (sX b f a) (sX b g c) → Orb b f g a c
  | yi {a c} : a < f.n → c < g.n → Orb b f g (sY f a) (sY g c) → Orb b f g a c
theorem zero_lt (hf : f.Ok) : 0 < f.n := Nat.mul_pos hf.1 hf.2.1
theorem Orb.lt (hf : f.Ok) (hg : g.Ok) {a c : Nat} (o : Orb b f g a c) : a < f.n ∧ c < g.n := by
  induction o with
  | zero => exact ⟨zero_lt hf, zero_lt hg⟩
  | x _ ih => exact ⟨sX_lt hf ih.1, sX_lt hg ih.2⟩
  | y _ ih => exact ⟨sY_lt hf ih.1, sY_lt hg ih.2⟩
  | xi h1 h2 _ _ => exact ⟨h1, h2⟩
  | yi h1 h2 _ _ => exact ⟨h1, h2⟩
/-- a map that goes with the steps -/
structure Mp (b : Bool) (f g : Fm) (φ : Nat → Nat) : Prop where
  z : φ 0 = 0
  lt : ∀ a, a < f.n → φ a < g.n
  x : ∀ a, a < f.n → φ (sX b f a) = sX b g (φ a)
  y : ∀ a, a < f.n → φ (sY f a) = sY g (φ a)
theorem Mp.orb {φ : Nat → Nat} (m : Mp b f g φ) (hf : f.Ok) (hg : g.Ok) {a c : Nat} (o : Orb b f g a c) : c = φ a := by
  induction o with
  | zero => exact m.z.symm
  | x o ih => rw [ih, m.x _ (o.lt hf hg).1]
  | y o ih => rw [ih, m.y _ (o.lt hf hg).1]
  | xi h1 h2 _ ih => exact sX_inj hg h2 (m.lt _ h1) (ih.trans (m.x _ h1))
  | yi h1 h2 _ ih => exact sY_inj hg (ih.trans (m.y _ h1))
theorem Mp.comp {φ ψ : Nat → Nat} (m : Mp b f g φ) (n : Mp b g h ψ) : Mp b f h fun a => ψ (φ a) :=
  ⟨by show ψ (φ 0) = 0; rw [m.z, n.z], fun a ha => n.lt _ (m.lt a ha), fun a ha => by show ψ (φ _) = _; rw [m.x a ha, n.x _ (m.lt a ha)], fun a ha => by show ψ (φ _) = _; rw [m.y a ha, n.y _ (m.lt a ha)]⟩
theorem Mp.refl : Mp b f f fun a => a := ⟨rfl, fun _ h => h, fun _ _ => rfl, fun _ _ => rfl⟩
theorem pt_one {z : Int} : pt 1 0 z = 0 := by
  unfold pt
  rw [show ((1 : Nat) : Int) = 1 from rfl, Int.emod_one]
  rfl
theorem Mp.one : Mp b f ⟨1, 0, 1⟩ fun _ => 0 :=
  ⟨rfl, fun _ _ => Nat.one_pos, fun a _ => by show 0 = (if 0 / 1 = 1 - 1 then pt 1 0 _ else _); rw [if_pos (by decide), pt_one], fun a _ => by show 0 = pt 1 0 _; rw [pt_one]⟩
/-! ### when a form lies in another -/
def wn (b : Bool) (g : Fm) : Nat → Int
  | 0 => 0
  | i + 1 => if (i + 1) % g.k = 0 then sg b * wn b g i - g.s else sg b * wn b g i
def Cond (b : Bool) (f g : Fm) : Prop := g.d ∣ f.d ∧ g.k ∣ f.k ∧ (g.d : Int) ∣ wn b g f.k + f.s
theorem emod_dvd {z z' : Int} {d e : Nat} (h : d ∣ e) (hz : z % (e : Int) = z' % (e : Int)) : z % (d : Int) = z' % (d : Int) := by
  rw [← Int.emod_emod_of_dvd z (Int.ofNat_dvd.mpr h), hz, Int.emod_emod_of_dvd z' (Int.ofNat_dvd.mpr h)]
def phi (b : Bool) (f g : Fm) (a : Nat) : Nat := pt g.d (a / f.d % g.k) (wn b g (a / f.d) + ((a % f.d : Nat) : Int))
theorem phi_pt (hf : 0 < f.d) (hd : g.d ∣ f.d) : phi b f g (pt f.d r z) = pt g.d (r % g.k) (wn b g r + z) := by
  unfold phi
  rw [pt_div hf, pt_modI hf]
  refine pt_congr ?_
  rw [Int.add_emod, Int.emod_emod_of_dvd z (Int.ofNat_dvd.mpr hd), ← Int.add_emod]
theorem step_g (hg : g.Ok) {i : Nat} : sX b g (pt g.d (i % g.k) (wn b g i + z)) = pt g.d ((i + 1) % g.k) (wn b g (i + 1) + sg b * z) := by
  rw [sX_pt hg.2.1, wn]
  have hk := hg.1
  have hm := Nat.mod_lt i hk
  by_cases h : i % g.k = g.k - 1
  · have e : (i + 1) % g.k = 0 := by
      rw [Nat.add_mod, h]
      rcases Nat.lt_or_ge 1 g.k with h1 | h1
      · rw [Nat.mod_eq_of_lt h1, Nat.sub_add_cancel hk, Nat.mod_self]
      · rw [show g.k = 1 by omega]
    rw [if_pos h, if_pos e, e, Int.mul_add]
    exact pt_congr (congrArg (· % (g.d : Int)) (by omega))
  · have e : (i + 1) % g.k = i % g.k + 1 := by
      rw [Nat.add_mod]
      rcases Nat.lt_or_ge 1 g.k with h1 | h1
      · rw [Nat.mod_eq_of_lt h1, Nat.mod_eq_of_lt (by omega)]
      · omega
    rw [if_neg h, if_neg (by omega), e, Int.mul_add]
theorem cond_mp (hf : f.Ok) (hg : g.Ok) (c : Cond b f g) : Mp b f g (phi b f g) := by
  obtain ⟨c1, c2, c3⟩ := c
  have hd := hf.2.1
  refine ⟨?_, fun a ha => pt_lt hg.2.1 (Nat.mod_lt _ hg.1), fun a ha => ?_, fun a ha => ?_⟩
  · unfold phi
    rw [Nat.zero_div, Nat.zero_mod, Nat.zero_mod]
    show pt g.d 0 0 = 0
    unfold pt
    simp
  · have ra : a / f.d < f.k := div_lt hd ha
    have e : sX b f a = sX b f (pt f.d (a / f.d) ((a % f.d : Nat) : Int)) := by rw [pt_self hd]
    have e2 : phi b f g a = pt g.d (a / f.d % g.k) (wn b g (a / f.d) + ((a % f.d : Nat) : Int)) := rfl
    rw [e, e2, step_g hg, sX_pt hd]
    by_cases hr : a / f.d = f.k - 1
    · rw [if_pos hr, phi_pt hd c1, hr, Nat.sub_add_cancel hf.1, Nat.mod_eq_zero_of_dvd c2, Nat.zero_mod]
      refine pt_congr ?_
      show (0 + _) % _ = _
      refine Int.emod_eq_emod_iff_emod_sub_eq_zero.mpr (Int.emod_eq_zero_of_dvd ?_)
      have := Int.dvd_neg.mpr c3
      rw [show 0 + (sg b * ((a % f.d : Nat) : Int) - (f.s : Int)) - (wn b g f.k + sg b * ((a % f.d : Nat) : Int)) = -(wn b g f.k + f.s) by omega]
      exact this
    · rw [if_neg hr, phi_pt hd c1]
  · have e : sY f a = sY f (pt f.d (a / f.d) ((a % f.d : Nat) : Int)) := by rw [pt_self hd]
    have e2 : phi b f g a = pt g.d (a / f.d % g.k) (wn b g (a / f.d) + ((a % f.d : Nat) : Int)) := rfl
    rw [e, e2, sY_pt hd, sY_pt hg.2.1, phi_pt hd c1]
    exact pt_congr (congrArg (· % (g.d : Int)) (by omega))
theorem pt_zero (hd : 0 < d) (h : pt d r z = 0) : r = 0 ∧ (d : Int) ∣ z := by
  have : pt d r z = pt d 0 0 := by rw [h]; unfold pt; simp
  obtain ⟨h1, h2⟩ := pt_inj hd this
  exact ⟨h1, Int.dvd_of_emod_eq_zero (by rw [h2]; rfl)⟩
theorem orb_cond (hf : f.Ok) (hg : g.Ok) (o : ∀ c, Orb b f g 0 c → c = 0) : Cond b f g := by
  have hd := hf.2.1
  have hd' := hg.2.1
  have ys : ∀ (r r' : Nat) (z z' : Int), Orb b f g (pt f.d r z) (pt g.d r' z') → ∀ t : Nat, Orb b f g (pt f.d r (z + t)) (pt g.d r' (z' + t)) := by
    intro r r' z z' h t
    induction t with
    | zero => simpa using h
    | succ t ih =>
      have := ih.y
      rw [sY_pt hd, sY_pt hd'] at this
      rw [show z + ((t + 1 : Nat) : Int) = z + t + 1 by omega, show z' + ((t + 1 : Nat) : Int) = z' + t + 1 by omega]
      exact this
  have z1 : pt f.d 0 0 = 0 := by unfold pt; simp
  have z2 : pt g.d 0 0 = 0 := by unfold pt; simp
  have o0 : Orb b f g (pt f.d 0 0) (pt g.d 0 0) := by rw [z1, z2]; exact .zero
  have c1 : g.d ∣ f.d := by
    have h := ys 0 0 0 0 o0 f.d
    have e : pt f.d 0 (0 + (f.d : Int)) = 0 := by unfold pt; simp
    rw [e] at h
    have := (pt_zero hd' (o _ h)).2
    rw [Int.zero_add] at this
    exact Int.ofNat_dvd.mp this
  have xs : ∀ i, i < f.k → Orb b f g (pt f.d i 0) (pt g.d (i % g.k) (wn b g i)) := by
    intro i
    induction i with
    | zero =>
      intro _
      rw [Nat.zero_mod]
      exact o0
    | succ i ih =>
      intro hi
      have := (ih (by omega)).x
      have e := step_g (b := b) (z := 0) hg (i := i)
      rw [Int.add_zero, Int.mul_zero, Int.add_zero] at e
      rw [e, sX_pt hd, if_neg (by omega), Int.mul_zero] at this
      exact this
  have h := (xs (f.k - 1) (by have := hf.1; omega)).x
  have e := step_g (b := b) (z := 0) hg (i := f.k - 1)
  rw [Int.add_zero, Int.mul_zero, Int.add_zero, Nat.sub_add_cancel hf.1] at e
  rw [e, sX_pt hd, if_pos rfl, Int.mul_zero] at h
  have h2 := ys _ _ _ _ h f.s
  have e2 : pt f.d 0 (0 - (f.s : Int) + f.s) = 0 := by rw [show 0 - (f.s : Int) + f.s = 0 by omega]; exact z1
  rw [e2] at h2
  obtain ⟨k1, k2⟩ := pt_zero hd' (o _ h2)
  exact ⟨c1, Nat.dvd_of_mod_eq_zero k1, k2⟩
theorem cond_iff (hf : f.Ok) (hg : g.Ok) : Cond b f g ↔ ∀ c, Orb b f g 0 c → c = 0 :=
  ⟨fun h c o => by rw [(cond_mp hf hg h).orb hf hg o, (cond_mp hf hg h).z], orb_cond hf hg⟩
theorem Mp.cond {φ : Nat → Nat} (m : Mp b f g φ) (hf : f.Ok) (hg : g.Ok) : Cond b f g := orb_cond hf hg fun c o => by rw [m.orb hf hg o, m.z]
theorem cond_trans (hf : f.Ok) (hg : g.Ok) (hh : h.Ok) (c1 : Cond b f g) (c2 : Cond b g h) : Cond b f h := ((cond_mp hf hg c1).comp (cond_mp hg hh c2)).cond hf hh
/-! ### the shift, in closed form -/
def due (b : Bool) (g : Fm) (q : Nat) : Nat := if b = true ∨ g.k % 2 = 0 then g.s * q else g.s * (q % 2)
def sgk (b : Bool) (k : Nat) : Int := if b = true ∨ k % 2 = 0 then 1 else -1
theorem sgk_succ {b : Bool} {k : Nat} : sgk b (k + 1) = sg b * sgk b k := by
  unfold sgk sg
  cases b with
  | true => simp
  | false =>
    rcases Nat.mod_two_eq_zero_or_one k with h | h
    · have h2 : (k + 1) % 2 = 1 := by omega
      simp [h, h2]
    · have h2 : (k + 1) % 2 = 0 := by omega
      simp [h, h2]
theorem wn_row (hk : 0 < g.k) {q : Nat} : ∀ r, r < g.k → wn b g (g.k * q + r) = sgk b r * wn b g (g.k * q)
  | 0, _ => by
    show wn b g (g.k * q) = (if b = true ∨ 0 % 2 = 0 then 1 else -1) * _
    rw [if_pos (.inr rfl), Int.one_mul]
  | r + 1, h => by
    rw [← Nat.add_assoc, wn, if_neg, wn_row hk r (by omega), sgk_succ, Int.mul_assoc]
    rw [Nat.add_assoc, Nat.mul_add_mod, Nat.mod_eq_of_lt h]
    omega
theorem wn_next (hk : 0 < g.k) {q : Nat} : wn b g (g.k * (q + 1)) = sgk b g.k * wn b g (g.k * q) - g.s := by
  have e : g.k * (q + 1) = g.k * q + (g.k - 1) + 1 := by rw [Nat.mul_succ]; omega
  have e2 : (g.k * q + (g.k - 1) + 1) % g.k = 0 := by rw [← e]; exact Nat.mul_mod_right _ _
  rw [e, wn, if_pos e2, wn_row hk _ (by omega), ← Int.mul_assoc, ← sgk_succ, Nat.sub_add_cancel hk]
theorem wn_due (hk : 0 < g.k) : ∀ q, wn b g (g.k * q) = -(due b g q : Int)
  | 0 => by
    unfold due
    rw [Nat.mul_zero]
    split <;> simp [wn]
  | q + 1 => by
    rw [wn_next hk, wn_due hk q]
    unfold due sgk
    by_cases h : b = true ∨ g.k % 2 = 0
    · rw [if_pos h, if_pos h, if_pos h, Nat.mul_succ]
      omega
    · rw [if_neg h, if_neg h, if_neg h]
      rcases Nat.mod_two_eq_zero_or_one q with h1 | h1
      · rw [h1, show (q + 1) % 2 = 1 by omega]
        omega
      · rw [h1, show (q + 1) % 2 = 0 by omega]
        omega
theorem cond_due (hg : g.Ok) : Cond b f g ↔ g.d ∣ f.d ∧ g.k ∣ f.k ∧ (g.d : Int) ∣ (f.s : Int) - (due b g (f.k / g.k) : Int) := by
  unfold Cond
  constructor
  · rintro ⟨c1, c2, c3⟩
    refine ⟨c1, c2, ?_⟩
    obtain ⟨q, hq⟩ := c2
    rw [hq, wn_due hg.1] at c3
    rw [hq, Nat.mul_div_cancel_left _ hg.1]
    rw [show (f.s : Int) - (due b g q : Int) = -(due b g q : Int) + f.s by omega]
    exact c3
  · rintro ⟨c1, c2, c3⟩
    refine ⟨c1, c2, ?_⟩
    obtain ⟨q, hq⟩ := c2
    rw [hq, Nat.mul_div_cancel_left _ hg.1] at c3
    rw [hq, wn_due hg.1]
    rw [show (f.s : Int) - (due b g q : Int) = -(due b g q : Int) + f.s by omega] at c3
    exact c3
end
end LK

namespace LK
open PySem PySem.Spec PyProof.Rows L2 MP
def bD : Bool → Dat
  | true => .tuple [.str ("N" : Str), .int 1]
  | false => .tuple [.str ("M" : Str), .int 2]
def f3 (f : Fm) : Dat := .tuple [.int (f.k : Int), .int (f.s : Int), .int (f.d : Int)]
def XL (b : Bool) (f : Fm) : List Nat := (List.range f.n).map (sX b f)
def YL (f : Fm) : List Nat := (List.range f.n).map (sY f)
section
variable {b : Bool} {f g : Fm} {dr : Dr}
theorem isN_eq : eqD (.str ("N" : Str)) (.str ("N" : Str)) = some (.im (.bool true)) := by
  rw [eqD_sh (n := 0) (m := 0) (shd_str (okS.lit _)) (shd_str (okS.lit _)) (by decide) (by decide)]
  congr 3
theorem isM_eq : eqD (.str ("M" : Str)) (.str ("N" : Str)) = some (.im (.bool false)) := by
  rw [eqD_sh (n := 0) (m := 0) (shd_str (okS.lit _)) (shd_str (okS.lit _)) (by decide) (by decide)]
  congr 3
theorem bD0 : atI [PyData.str ("N" : Str), .int 1] 0 = some (.str ("N" : Str)) := rfl
theorem bD1 : atI [PyData.str ("M" : Str), .int 2] 0 = some (.str ("M" : Str)) := rfl
theorem f30 {x y z : Dat} : atI [x, y, z] 0 = some x := rfl
theorem f31 {x y z : Dat} : atI [x, y, z] 1 = some y := rfl
theorem f32 {x y z : Dat} : atI [x, y, z] 2 = some z := rfl
theorem XL_ok (hf : f.Ok) : OkP f.n (XL b f) := by
  refine ok_of_nodup ?_ (fun x hx => ?_) (by unfold XL; simp)
  · unfold XL
    refine List.pairwise_map.mpr (List.Pairwise.imp_of_mem (fun {x y} hx hy hne e => hne ?_) List.nodup_range)
    exact sX_inj hf (List.mem_range.mp hx) (List.mem_range.mp hy) e
  · obtain ⟨a, ha, rfl⟩ := List.mem_map.mp hx
    exact sX_lt hf (List.mem_range.mp ha)
theorem YL_ok (hf : f.Ok) : OkP f.n (YL f) := by
  refine ok_of_nodup ?_ (fun x hx => ?_) (by unfold YL; simp)
  · unfold YL
    refine List.pairwise_map.mpr (List.Pairwise.imp_of_mem (fun {x y} hx hy hne e => hne ?_) List.nodup_range)
    exact sY_inj hf e
  · obtain ⟨a, ha, rfl⟩ := List.mem_map.mp hx
    exact sY_lt hf (List.mem_range.mp ha)
theorem at_XL {a : Nat} (h : a < f.n) : at' (XL b f) a = sX b f a := by
  unfold XL
  rw [at_map (by simpa using h), at_range h]
theorem at_YL {a : Nat} (h : a < f.n) : at' (YL f) a = sY f a := by
  unfold YL
  rw [at_map (by simpa using h), at_range h]
/-! the steps of a form -/
def psF (b : Bool) (f : Fm) (X Y : List Nat) (u v w : Sl) (dr : Dr) : PS := ⟨[.fr (bD b), .fr (f3 f), .fr (.int (f.k : Int)), .fr (.int (f.s : Int)), .fr (.int (f.d : Int)), .ow (nL X), .ow (nL Y), u, v, w], dr⟩
theorem zeros_of {k : Nat} (h : k ≤ 1000) : mulD (.list [.int 0]) (.int (k : Int)) = some (.nw (nL (List.replicate k 0))) := by
  rw [mul_rep (by omega) (by simp; omega)]
  have : (List.replicate k [PyData.int 0]).flatten = nL (List.replicate k 0) := by
    unfold nL
    rw [List.map_replicate]
    exact List.flatten_replicate_singleton
  rw [this]
theorem pt_cast {d r : Nat} {z : Int} (hd : 0 < d) : ((pt d r z : Nat) : Int) = (r : Int) * (d : Int) + z % (d : Int) := by
  unfold pt
  have h1 := Int.emod_nonneg z (show (d : Int) ≠ 0 by omega)
  push_cast
  omega
theorem steps_ok (hf : f.Ok) (hn : f.n ≤ 1000) : fn_law_steps [bD b, f3 f] dr = some (.nw [.tuple (nL (XL b f)), .tuple (nL (YL f))], dr) := by
  have hd := hf.2.1
  have hk := hf.1
  have hkn : f.k ≤ f.n := Nat.le_mul_of_pos_right _ hd
  have hdn : f.d ≤ f.n := Nat.le_mul_of_pos_left _ hk
  have hbk := b62_nat (n := f.k) (by omega)
  have hbd := b62_nat (n := f.d) (by omega)
  have hz : mulD (.list [.int 0]) (.int ((f.k : Int) * (f.d : Int))) = some (.nw (nL (List.replicate f.n 0))) := zeros_of (k := f.n) hn
  have hkd : mulD (.int (f.k : Int)) (.int (f.d : Int)) = some (.im (.int ((f.k : Int) * (f.d : Int)))) := mul_int (.inl (by omega))
  refine cv_det (c_body ?_)
  refine w_nx (ps1 := ⟨[.fr (bD b), .fr (f3 f), .fr (.int (f.k : Int)), .fr (.int (f.s : Int)), .fr (.int (f.d : Int)), .un, .un, .un, .un, .un], dr⟩) (by simp [f3]) ?_
  refine w_nx (ps1 := psF b f (List.replicate f.n 0) (List.replicate f.n 0) .un .un .un dr) (by simp [psF, hkd, hz, line_of]) ?_
  refine w_seq (w_for (fun i : Nat => .int (i : Int)) (List.range f.k) (ps1 := psF b f (List.replicate f.n 0) (List.replicate f.n 0) .un .un .un dr) (by simp [psF, hbk, rgD_nat]; rfl) (fun pre q => ∃ X Y u v w, q = psF b f X Y u v w dr ∧ X.length = f.n ∧ Y.length = f.n ∧ ∀ a, a < pre.length * f.d → at' X a = sX b f a ∧ at' Y a = sY f a) ⟨_, _, _, _, _, rfl, by simp, by simp, fun a ha => by simp at ha⟩ ?_ ?_)
  · rintro pre i post q hx ⟨X, Y, u, v, w, rfl, hX, hY, hA⟩
    obtain ⟨_, hi, hpi⟩ := range_split hx
    refine ⟨psF b f X Y (.fr (.int (i : Int))) v w dr, rfl, ?_⟩
    refine w_for (fun j : Nat => .int (j : Int)) (List.range f.d) (ps1 := psF b f X Y (.fr (.int (i : Int))) v w dr) (by simp [psF, hbd, rgD_nat]; rfl) (fun pre2 q => ∃ X Y v w, q = psF b f X Y (.fr (.int (i : Int))) v w dr ∧ X.length = f.n ∧ Y.length = f.n ∧ ∀ a, a < i * f.d + pre2.length → at' X a = sX b f a ∧ at' Y a = sY f a) ⟨_, _, _, _, rfl, hX, hY, fun a ha => hA a (by rw [hpi]; simpa using ha)⟩ ?_ ?_
    · rintro pre2 j post2 q hx2 ⟨X, Y, v, w, rfl, hX, hY, hA⟩
      obtain ⟨_, hj, hpj⟩ := range_split hx2
      obtain ⟨t, ht⟩ : ∃ t, t = i * f.d + j := ⟨_, rfl⟩
      have htn : t < f.n := by
        have h2 : (i + 1) * f.d ≤ f.k * f.d := Nat.mul_le_mul_right _ hi
        rw [Nat.succ_mul] at h2
        show t < f.k * f.d
        omega
      have hti : (i : Int) * (f.d : Int) + (j : Int) = (t : Int) := by rw [ht]; push_cast; rfl
      have tdiv : t / f.d = i := by rw [ht, Nat.mul_comm, Nat.mul_add_div hd, Nat.div_eq_of_lt hj, Nat.add_zero]
      have tmod : t % f.d = j := by rw [ht, Nat.mul_comm, Nat.mul_add_mod, Nat.mod_eq_of_lt hj]
      have m1 : ∀ z : Int, mulD (.int z) (.int (f.d : Int)) = some (.im (.int (z * (f.d : Int)))) := fun z => mul_int (.inr (by omega))
      have m2 : ∀ z : Int, modD (.int z) (.int (f.d : Int)) = some (.im (.int (z % (f.d : Int)))) := fun z => mod_posI (by omega)
      have i1 : ixN Y.length (t : Int) = some t := ixN_nat (by omega)
      have i2 : ixN X.length (t : Int) = some t := ixN_nat (by omega)
      have vy : (i : Int) * (f.d : Int) + ((j : Int) + 1) % (f.d : Int) = (sY f t : Int) := by
        unfold sY
        rw [tdiv, tmod, pt_cast hd]
      have fin : ∀ o : Dat, o = .int (sg b * (j : Int)) → ∀ vx : Nat, vx = sX b f t → ∃ v' w', (∃ x, x = psF b f (X.set t vx) (Y.set t (sY f t)) (.fr (.int (i : Int))) v' w' dr) ∧ ∀ a, a < i * f.d + (pre2 ++ [j]).length → at' (X.set t vx) a = sX b f a ∧ at' (Y.set t (sY f t)) a = sY f a := by
        intro o _ vx hvx
        refine ⟨.fr (.int (j : Int)), .fr o, ⟨_, rfl⟩, fun a ha => ?_⟩
        rw [at_set (by omega), at_set (by omega)]
        by_cases e : a = t
        · rw [if_pos e, if_pos e, hvx, e]
          exact ⟨rfl, rfl⟩
        · rw [if_neg e, if_neg e]
          refine hA a ?_
          simp at ha
          omega
      refine ⟨psF b f X Y (.fr (.int (i : Int))) (.fr (.int (j : Int))) w dr, rfl, ?_⟩
      have so : ∃ o : Int, o = sg b * (j : Int) ∧ (ifM (tstM (opM eqD (opM ixD (rdV 0) (kst (.int 0))) (kst (.str ("N" : Str))))) (rdV 8) (unM negD (rdV 8))) (psF b f X Y (.fr (.int (i : Int))) (.fr (.int (j : Int))) w dr) = some (.im (.int o), psF b f X Y (.fr (.int (i : Int))) (.fr (.int (j : Int))) w dr) := by
        cases b with
        | true => exact ⟨j, by unfold sg; simp, by simp [psF, bD, bD0, isN_eq]⟩
        | false => exact ⟨-j, by unfold sg; simp, by simp [psF, bD, bD1, isM_eq]⟩
      obtain ⟨o, ho, eo⟩ := so
      refine w_nx (ps1 := psF b f X Y (.fr (.int (i : Int))) (.fr (.int (j : Int))) (.fr (.int o)) dr) (by rw [e_set, eo]; rfl) ?_
      refine w_nx (ps1 := psF b f X (Y.set t (sY f t)) (.fr (.int (i : Int))) (.fr (.int (j : Int))) (.fr (.int o)) dr) (by simp [psF, m1, m2, hti, i1, vy, nL_set]) ?_
      refine w_det (o := .nx (psF b f (X.set t (sX b f t)) (Y.set t (sY f t)) (.fr (.int (i : Int))) (.fr (.int (j : Int))) (.fr (.int o)) dr)) ?_ ?_
      · by_cases hi2 : i = f.k - 1
        · have hc : (i : Int) = (f.k : Int) - 1 := by omega
          have vx : (o - (f.s : Int)) % (f.d : Int) = (sX b f t : Int) := by
            unfold sX
            rw [tdiv, tmod, if_pos hi2, pt_cast hd, ho]
            simp
          simp [psF, qe_int, hc, m1, m2, vx]
          rw [← hc, hti, i2]
          simp [nL_set]
        · have hc : ¬ (i : Int) = (f.k : Int) - 1 := by omega
          have vx : ((i : Int) + 1) * (f.d : Int) + o % (f.d : Int) = (sX b f t : Int) := by
            unfold sX
            rw [tdiv, tmod, if_neg hi2, pt_cast hd, ho]
            push_cast
            rfl
          simp [psF, qe_int, hc, m1, m2, vx, hti, i2, nL_set]
      · obtain ⟨_, _, _, h⟩ := fin (.int o) (by rw [ho]) _ rfl
        exact ⟨_, _, _, _, rfl, by simp [hX], by simp [hY], h⟩
    · rintro q ⟨X, Y, v, w, rfl, hX, hY, hA⟩
      refine ⟨X, Y, _, v, w, rfl, hX, hY, fun a ha => hA a ?_⟩
      rw [List.length_append, List.length_singleton, hpi, Nat.succ_mul] at ha
      rw [List.length_range]
      exact ha
  · rintro q ⟨X, Y, u, v, w, rfl, hX, hY, hA⟩
    rw [List.length_range] at hA
    have eX : X = XL b f := ext_at hX (by unfold XL; simp) fun a ha => by rw [(hA a ha).1, at_XL ha]
    have eY : Y = YL f := ext_at hY (by unfold YL; simp) fun a ha => by rw [(hA a ha).2, at_YL ha]
    subst eX eY
    refine w_det (o := .rt (.nw [.tuple (nL (XL b f)), .tuple (nL (YL f))]) (psF b f (XL b f) (YL f) u v w dr)) (by simp [psF, line_of]) ⟨rfl, rfl⟩
end
end LK

namespace LK
open PySem PySem.Spec PyProof.Rows L2 MP
/-! ### turned by another -/
def cj (n : Nat) (p b : List Nat) : List Nat := prodR n [inv b, p, b]
section
variable {n : Nat} {p b x y : List Nat} {dr : Dr}
theorem cj_ok (hp : OkP n p) (hb : OkP n b) : OkP n (cj n p b) := prod_ok fun x hx => by
  simp at hx
  rcases hx with rfl | rfl | rfl
  · exact inv_ok hb
  · exact hp
  · exact hb
theorem at_tm {q : List Nat} {a : Nat} (hp : OkP n p) (ha : a < n) : at' (tm p q) a = at' q (at' p a) := at_map (by rw [hp.len]; exact ha)
theorem inv_at {s : Nat} (hp : OkP n p) (hs : s < n) : at' (inv p) (at' p s) = s := by rw [at_inv hp (hp.lt hs), idx_at hp hs]
theorem at_cj {s : Nat} (hp : OkP n p) (hb : OkP n b) (hs : s < n) : at' (cj n p b) (at' b s) = at' b (at' p s) := by
  have h1 : cj n p b = tm (tm (tm (List.range n) (inv b)) p) b := rfl
  have o1 := tm_ok (OkP.id (n := n)) (inv_ok hb)
  have hbs := hb.lt hs
  rw [h1, at_tm (tm_ok o1 hp) hbs, at_tm o1 hbs, at_tm .id hbs, at_range hbs, inv_at hb hs]
theorem cj_uniq {t : List Nat} (hp : OkP n p) (hb : OkP n b) (hl : t.length = n) (h : ∀ s, s < n → at' t (at' b s) = at' b (at' p s)) : t = cj n p b := by
  refine ext_at hl (cj_ok hp hb).len fun x hx => ?_
  have e := at_idx (hb.mem hx)
  have l := idx_lt hb hx
  rw [← e, h _ l, at_cj hp hb l]
theorem law_turned_ok (hn : n ≤ 100) (hp : OkP n p) (hb : OkP n b) : fn_law_turned [.tuple (nL p), .tuple (nL b)] dr = some (.im (.tuple (nL (cj n p b))), dr) := by
  have e1 := law_back_ok (dr := dr) hn hb
  have e2 := law_all_ok (dr := dr) (d := .list (rL [inv b, p, b])) hn (rows := [inv b, p, b]) (fun q hq => by
    simp at hq
    rcases hq with rfl | rfl | rfl
    · exact inv_ok hb
    · exact hp
    · exact hb) (.inl rfl)
  have hbl := hb.len
  have e3 : rL [inv b, p, b] = [.tuple (nL (inv b)), .tuple (nL p), .tuple (nL b)] := rfl
  rw [e3] at e2
  unfold fn_law_turned b_law_turned
  simp [e1, e2, hbl, line_of]
  rfl
/-- the letters of the Klein bottle's steps -/
def letM (n : Nat) (x y : List Nat) : List Nat := prodR n [inv y, inv x, y]
theorem letM_ok (hx : OkP n x) (hy : OkP n y) : OkP n (letM n x y) := prod_ok fun q hq => by
  simp at hq
  rcases hq with rfl | rfl | rfl
  · exact inv_ok hy
  · exact inv_ok hx
  · exact hy
theorem at_letM {s : Nat} (hx : OkP n x) (hy : OkP n y) (hs : s < n) : at' (letM n x y) (at' y (at' x s)) = at' y s := by
  have h1 : letM n x y = tm (tm (tm (List.range n) (inv y)) (inv x)) y := rfl
  have o1 := tm_ok (OkP.id (n := n)) (inv_ok hy)
  have hxs := hx.lt hs
  have hyx := hy.lt hxs
  rw [h1, at_tm (tm_ok o1 (inv_ok hx)) hyx, at_tm o1 hyx, at_tm .id hyx, at_range hyx, inv_at hy hxs, inv_at hx hs]
def L1 (b : Bool) (x y : List Nat) : List Nat := if b then x else tm x y
def L2' (b : Bool) (n : Nat) (x y : List Nat) : List Nat := if b then y else letM n x y
theorem L1_ok {c : Bool} (hx : OkP n x) (hy : OkP n y) : OkP n (L1 c x y) := by
  unfold L1
  split
  · exact hx
  · exact tm_ok hx hy
theorem L2_ok {c : Bool} (hx : OkP n x) (hy : OkP n y) : OkP n (L2' c n x y) := by
  unfold L2'
  split
  · exact hy
  · exact letM_ok hx hy
theorem letters_ok {c : Bool} (hn : n ≤ 100) (hx : OkP n x) (hy : OkP n y) : fn_law_letters_of [bD c, .tuple (nL x), .tuple (nL y)] dr = some (.nw [.tuple (nL (L1 c x y)), .tuple (nL (L2' c n x y))], dr) := by
  cases c with
  | true =>
    unfold fn_law_letters_of b_law_letters_of
    simp [bD, bD0, isN_eq, line_of, L1, L2']
  | false =>
    have e0 := law_times_ok (dr := dr) hn hx hy
    have e1 := law_back_ok (dr := dr) hn hy
    have e2 := law_back_ok (dr := dr) hn hx
    have e3 := law_all_ok (dr := dr) (d := .list (rL [inv y, inv x, y])) hn (rows := [inv y, inv x, y]) (fun q hq => by
      simp at hq
      rcases hq with rfl | rfl | rfl
      · exact inv_ok hy
      · exact inv_ok hx
      · exact hy) (.inl rfl)
    have hxl := hx.len
    have e4 : rL [inv y, inv x, y] = [.tuple (nL (inv y)), .tuple (nL (inv x)), .tuple (nL y)] := rfl
    rw [e4] at e3
    unfold fn_law_letters_of b_law_letters_of
    simp [bD, bD1, isM_eq, e0, e1, e2, e3, hxl, line_of, L1, L2', letM]
theorem plain_ok {c : Bool} {u : List Nat} (hn : n ≤ 100) (hx : OkP n x) (hy : OkP n y) (hu : OkP n u) :
    fn_law_plain [bD c, .tuple (nL (cj n (L1 c x y) u)), .tuple (nL (cj n (L2' c n x y) u))] dr = some (.nw [.tuple (nL (cj n x u)), .tuple (nL (cj n y u))], dr) := by
  cases c with
  | true =>
    unfold fn_law_plain b_law_plain
    simp [bD, bD0, isN_eq, line_of, L1, L2']
  | false =>
    have o1 := cj_ok (L1_ok (c := false) hx hy) hu
    have o2 := cj_ok (L2_ok (c := false) hx hy) hu
    have e1 := law_times_ok (dr := dr) hn o1 o2
    have ey : tm (cj n (L1 false x y) u) (cj n (L2' false n x y) u) = cj n y u := cj_uniq hy hu (by rw [tm_len, o1.len]) fun s hs => by
      rw [at_tm o1 (hu.lt hs), at_cj (L1_ok hx hy) hu hs, at_cj (L2_ok hx hy) hu ((L1_ok hx hy).lt hs)]
      congr 1
      show at' (letM n x y) (at' (tm x y) s) = _
      rw [at_tm hx hs, at_letM hx hy hs]
    rw [ey] at e1
    have e2 := law_back_ok (dr := dr) hn (cj_ok hy hu)
    have e3 := law_times_ok (dr := dr) hn o1 (inv_ok (cj_ok hy hu))
    have ex : tm (cj n (L1 false x y) u) (inv (cj n y u)) = cj n x u := cj_uniq hx hu (by rw [tm_len, o1.len]) fun s hs => by
      rw [at_tm o1 (hu.lt hs), at_cj (L1_ok hx hy) hu hs]
      show at' (inv (cj n y u)) (at' u (at' (tm x y) s)) = _
      rw [at_tm hx hs, ← at_cj hy hu (hx.lt hs), inv_at (cj_ok hy hu) (hu.lt (hx.lt hs))]
    rw [ex] at e3
    unfold fn_law_plain b_law_plain
    simp [bD, bD1, isM_eq, e1, e2, e3, line_of]
end
end LK

namespace LK
open PySem PySem.Spec PyProof.Rows L2 MP
section
variable {n : Nat} {p q : List Nat} {dr : Dr}
/-- a round of p -/
def Ring (n : Nat) (p row : List Nat) : Prop := row ≠ [] ∧ (∀ x ∈ row, x < n) ∧ ∀ i, i < row.length → at' p (at' row i) = at' row ((i + 1) % row.length)
/-- a way along p -/
def Way (n : Nat) (p row : List Nat) : Prop := row ≠ [] ∧ (∀ x ∈ row, x < n) ∧ row.Nodup ∧ ∀ i, i + 1 < row.length → at' row (i + 1) = at' p (at' row i)
theorem at_mem {row : List Nat} {i : Nat} (h : i < row.length) : at' row i ∈ row := List.mem_of_getElem? (at_get h)
theorem mem_at {row : List Nat} {x : Nat} (h : x ∈ row) : ∃ i, i < row.length ∧ at' row i = x := ⟨row.idxOf x, List.idxOf_lt_length_of_mem h, at_idx h⟩
theorem nodup_at {row : List Nat} {i j : Nat} (h : row.Nodup) (hi : i < row.length) (hj : j < row.length) (e : at' row i = at' row j) : i = j := by
  have e1 := at_get hi
  have e2 := at_get hj
  rw [List.getElem?_eq_getElem hi] at e1
  rw [List.getElem?_eq_getElem hj] at e2
  have e3 : row[i] = row[j] := by rw [Option.some.inj e1, Option.some.inj e2, e]
  rcases Nat.lt_trichotomy i j with z | z | z
  · exact absurd e3 (List.pairwise_iff_getElem.mp h i j hi hj z)
  · exact z
  · exact absurd e3.symm (List.pairwise_iff_getElem.mp h j i hj hi z)
theorem Way.len {row : List Nat} (h : Way n p row) : row.length ≤ n := by
  simpa using List.Nodup.length_le_of_subset (l₂ := List.range n) h.2.2.1 fun t ht => List.mem_range.mpr (h.2.1 t ht)
theorem Way.pos {row : List Nat} (h : Way n p row) : 0 < row.length := List.length_pos_iff.mpr h.1
theorem Way.one {s : Nat} (hs : s < n) : Way n p [s] := ⟨by simp, fun x hx => by rw [List.mem_singleton.mp hx]; exact hs, by simp, fun i hi => by simp at hi⟩
theorem at_app {l m : List Nat} {i : Nat} (h : i < l.length) : at' (l ++ m) i = at' l i := by
  unfold at'
  rw [List.getD_eq_getElem?_getD, List.getD_eq_getElem?_getD, List.getElem?_append_left h]
theorem at_last {l : List Nat} {x : Nat} : at' (l ++ [x]) l.length = x := by
  unfold at'
  rw [List.getD_eq_getElem?_getD, List.getElem?_append_right (Nat.le_refl _)]
  simp
/-- on: not yet home -/
theorem Way.go {row : List Nat} (hp : OkP n p) (h : Way n p row) (hne : at' p (at' row (row.length - 1)) ≠ at' row 0) : Way n p (row ++ [at' p (at' row (row.length - 1))]) := by
  have hpos := h.pos
  have hl : at' row (row.length - 1) < n := h.2.1 _ (at_mem (by omega))
  have hnew : at' p (at' row (row.length - 1)) ∉ row := fun hm => by
    obtain ⟨j, hj, ej⟩ := mem_at hm
    cases j with
    | zero => exact hne ej.symm
    | succ j =>
      rw [h.2.2.2 j hj] at ej
      have h1 := hp.inj (h.2.1 _ (at_mem (by omega))) hl ej
      have := nodup_at h.2.2.1 (by omega) (by omega) h1
      omega
  refine ⟨by simp, fun x hx => ?_, ?_, fun i hi => ?_⟩
  · rcases List.mem_append.mp hx with hx | hx
    · exact h.2.1 x hx
    · rw [List.mem_singleton.mp hx]
      exact hp.lt hl
  · refine List.nodup_append.mpr ⟨h.2.2.1, by simp, fun a ha b hb e => hnew ?_⟩
    rw [← List.mem_singleton.mp hb, ← e]
    exact ha
  · simp only [List.length_append, List.length_singleton] at hi
    by_cases hi2 : i + 1 < row.length
    · rw [at_app hi2, at_app (by omega)]
      exact h.2.2.2 i hi2
    · have e : i + 1 = row.length := by omega
      rw [e, at_last, at_app (by omega)]
      have : i = row.length - 1 := by omega
      rw [this]
/-- home -/
theorem Way.home {row : List Nat} (h : Way n p row) (he : at' p (at' row (row.length - 1)) = at' row 0) : Ring n p row := by
  have hpos := h.pos
  refine ⟨h.1, h.2.1, fun i hi => ?_⟩
  by_cases hi2 : i + 1 < row.length
  · rw [Nat.mod_eq_of_lt hi2]
    exact (h.2.2.2 i hi2).symm
  · have e : i + 1 = row.length := by omega
    have e2 : i = row.length - 1 := by omega
    rw [e, Nat.mod_self, e2]
    exact he
theorem atI_neg1 {xs : List Nat} (h : 0 < xs.length) : atI (nL xs) (-1) = some (.int (at' xs (xs.length - 1) : Int)) := by
  have e : xs = xs.take (xs.length - 1) ++ [at' xs (xs.length - 1)] := by
    have h1 : xs.length - 1 < xs.length := by omega
    have := List.take_append_getElem h1
    have h2 := at_get h1
    rw [List.getElem?_eq_getElem h1] at h2
    rw [← Option.some.inj h2, this]
    rw [show xs.length - 1 + 1 = xs.length by omega, List.take_length]
  have e3 : nL xs = nL (xs.take (xs.length - 1)) ++ [.int (at' xs (xs.length - 1) : Int)] := by
    rw [nL_snoc, ← e]
  rw [e3]
  exact atI_last _ _
def psC (p : List Nat) (told : List (List Nat)) (seen : List Nat) (a b : Sl) (dr : Dr) : PS := ⟨[.fr (.tuple (nL p)), .ow (rL told), .ow (nL seen), a, b], dr⟩
theorem cycles_ok (hn : n ≤ 100) (hp : OkP n p) : CV fn_law_cycles [.tuple (nL p)] dr fun r dr' => ∃ told : List (List Nat), r = .nw (rL told) ∧ dr' = dr ∧ told.length ≤ n ∧ ∀ row ∈ told, Ring n p row ∧ row.length ≤ n := by
  have hb := b62_nat (n := p.length) (by rw [hp.len]; omega)
  have hpl := hp.len
  refine c_body (w_nx (by simp [line_of]; rfl) (w_nx (by simp [line_of]; rfl) ?_))
  refine w_seq (w_for (fun k : Nat => .int (k : Int)) (List.range p.length) (ps1 := psC p [] [] .un .un dr) (by simp [hb, rgD_nat, psC, nL, rL]) (fun pre q => ∃ told seen a b, q = psC p told seen a b dr ∧ told.length ≤ pre.length ∧ seen.length ≤ pre.length * 100 ∧ ∀ row ∈ told, Ring n p row ∧ row.length ≤ n) ⟨[], [], _, _, rfl, Nat.le_refl _, by simp, fun r hr => by cases hr⟩ ?_ ?_)
  · rintro pre s post q hx ⟨told, seen, a, b, rfl, hl1, hl2, hr⟩
    obtain ⟨hpre, hsn, hpl'⟩ := range_split hx
    rw [hpl] at hsn
    refine ⟨_, rfl, w_ite (t_det (k := !decide (s ∈ seen)) (ps1 := psC p told seen (.fr (.int (s : Int))) b dr) (by simp [psC, nin_nL]) ?_)⟩
    by_cases hm : s ∈ seen
    · rw [if_neg (by simp [hm])]
      refine w_det rfl ?_
      exact ⟨told, seen, _, b, rfl, by simp; omega, by simp; omega, hr⟩
    · rw [if_pos (by simp [hm])]
      refine w_nx (ps1 := psC p told seen (.fr (.int (s : Int))) (.ow (nL [s])) dr) (by simp [psC, line_of, nL]) ?_
      refine w_seq (w_while n (fun m q => ∃ row, q = psC p told seen (.fr (.int (s : Int))) (.ow (nL row)) dr ∧ m + row.length = n + 1 ∧ Way n p row ∧ at' row 0 = s) ⟨[s], rfl, rfl, .one hsn, rfl⟩ ?_)
      rintro m q ⟨row, rfl, hme, hw, h0⟩
      have hpos := hw.pos
      have hlen := hw.len
      have hlast : at' row (row.length - 1) < n := hw.2.1 _ (at_mem (by omega))
      have a1 := atI_neg1 (xs := row) hpos
      have a2 := nL_at (hp.get hlast)
      refine t_det (k := !decide (at' p (at' row (row.length - 1)) = s)) (ps1 := psC p told seen (.fr (.int (s : Int))) (.ow (nL row)) dr) (by simp [psC, a1, a2, qn_int]; exact Int.ofNat_inj) ⟨fun hkf => ?_, fun hkt => ?_⟩
      · have he : at' p (at' row (row.length - 1)) = at' row 0 := by
          rw [h0]
          simpa using hkf
        have hring := hw.home he
        refine w_nx (ps1 := psC p told (seen ++ row) (.fr (.int (s : Int))) (.ow (nL row)) dr) (by simp [psC, nL_app, line_of (n := seen.length + row.length) (by have : pre.length * 100 ≤ 100 * 100 := Nat.mul_le_mul_right _ (by omega); omega)]) ?_
        refine w_det (o := .nx (psC p (told ++ [row]) (seen ++ row) (.fr (.int (s : Int))) (.ow (nL row)) dr)) ?_ ⟨_, _, _, _, rfl, by simp; omega, by simp; omega, fun r hr' => ?_⟩
        · have : (rL told).length < sizeLine := sz_of (by rw [rL_len]; omega)
          simp [psC, this, rL_app]
        · rcases List.mem_append.mp hr' with hr' | hr'
          · exact hr r hr'
          · rw [List.mem_singleton.mp hr']
            exact ⟨hring, hlen⟩
      · have hne : at' p (at' row (row.length - 1)) ≠ at' row 0 := by
          rw [h0]
          simpa using hkt
        have hg := hw.go hp hne
        have hgl := hg.len
        rw [List.length_append, List.length_singleton] at hgl
        refine w_det (o := .nx (psC p told seen (.fr (.int (s : Int))) (.ow (nL (row ++ [at' p (at' row (row.length - 1))]))) dr)) (by simp [psC, a1, a2, nL_snoc, sz_of (n := row.length) (by omega)]) ?_
        exact ⟨m - 1, by omega, _, rfl, by simp; omega, hg, by rw [at_app hpos]; exact h0⟩
  · rintro q ⟨told, seen, a, b, rfl, hl1, hl2, hr⟩
    refine w_det (by simp [psC]; rfl) ?_
    exact ⟨told, rfl, rfl, by rw [List.length_range, hpl] at hl1; exact hl1, hr⟩
end
end LK

namespace LK
open PySem PySem.Spec PyProof.Rows L2 MP
section
variable {n : Nat} {dr : Dr} {p : List Nat}
theorem cycles2_ok (hn : n ≤ 100) (hp : OkP n p) : CV fn_law_cycles [.tuple (nL p)] dr fun r dr' => ∃ told : List (List Nat), r = .nw (rL told) ∧ dr' = dr ∧ told.length ≤ n ∧ (∀ row ∈ told, Ring n p row ∧ row.length ≤ n ∧ row.Nodup) ∧ ∀ s, s < n → ∃ row ∈ told, s ∈ row := by
  have hb := b62_nat (n := p.length) (by rw [hp.len]; omega)
  have hpl := hp.len
  refine c_body (w_nx (by simp [line_of]; rfl) (w_nx (by simp [line_of]; rfl) ?_))
  refine w_seq (w_for (fun k : Nat => .int (k : Int)) (List.range p.length) (ps1 := psC p [] [] .un .un dr) (by simp [hb, rgD_nat, psC, nL, rL]) (fun pre q => ∃ told seen a b, q = psC p told seen a b dr ∧ told.length ≤ pre.length ∧ seen.length ≤ pre.length * 100 ∧ (∀ row ∈ told, Ring n p row ∧ row.length ≤ n ∧ row.Nodup) ∧ (∀ s ∈ seen, ∃ row ∈ told, s ∈ row) ∧ ∀ s ∈ pre, s ∈ seen) ⟨[], [], _, _, rfl, Nat.le_refl _, by simp, fun r hr => (by cases hr), fun r hr => (by cases hr), fun r hr => (by cases hr)⟩ ?_ ?_)
  · rintro pre s post q hx ⟨told, seen, a, b, rfl, hl1, hl2, hr, hs1, hs2⟩
    obtain ⟨hpre, hsn, hpl'⟩ := range_split hx
    rw [hpl] at hsn
    refine ⟨_, rfl, w_ite (t_det (k := !decide (s ∈ seen)) (ps1 := psC p told seen (.fr (.int (s : Int))) b dr) (by simp [psC, nin_nL]) ?_)⟩
    by_cases hm : s ∈ seen
    · rw [if_neg (by simp [hm])]
      refine w_det rfl ?_
      exact ⟨told, seen, _, b, rfl, by simp; omega, by simp; omega, hr, hs1, fun t ht => by
        rcases List.mem_append.mp ht with ht | ht
        · exact hs2 t ht
        · rw [List.mem_singleton.mp ht]
          exact hm⟩
    · rw [if_pos (by simp [hm])]
      refine w_nx (ps1 := psC p told seen (.fr (.int (s : Int))) (.ow (nL [s])) dr) (by simp [psC, line_of, nL]) ?_
      refine w_seq (w_while n (fun m q => ∃ row, q = psC p told seen (.fr (.int (s : Int))) (.ow (nL row)) dr ∧ m + row.length = n + 1 ∧ Way n p row ∧ at' row 0 = s) ⟨[s], rfl, rfl, .one hsn, rfl⟩ ?_)
      rintro m q ⟨row, rfl, hme, hw, h0⟩
      have hpos := hw.pos
      have hlen := hw.len
      have hlast : at' row (row.length - 1) < n := hw.2.1 _ (at_mem (by omega))
      have a1 := atI_neg1 (xs := row) hpos
      have a2 := nL_at (hp.get hlast)
      refine t_det (k := !decide (at' p (at' row (row.length - 1)) = s)) (ps1 := psC p told seen (.fr (.int (s : Int))) (.ow (nL row)) dr) (by simp [psC, a1, a2, qn_int]; exact Int.ofNat_inj) ⟨fun hkf => ?_, fun hkt => ?_⟩
      · have he : at' p (at' row (row.length - 1)) = at' row 0 := by
          rw [h0]
          simpa using hkf
        have hring := hw.home he
        refine w_nx (ps1 := psC p told (seen ++ row) (.fr (.int (s : Int))) (.ow (nL row)) dr) (by simp [psC, nL_app, line_of (n := seen.length + row.length) (by have : pre.length * 100 ≤ 100 * 100 := Nat.mul_le_mul_right _ (by omega); omega)]) ?_
        refine w_det (o := .nx (psC p (told ++ [row]) (seen ++ row) (.fr (.int (s : Int))) (.ow (nL row)) dr)) ?_ ⟨_, _, _, _, rfl, by simp; omega, by simp; omega, fun r hr' => ?_, fun t ht => ?_, fun t ht => ?_⟩
        · have : (rL told).length < sizeLine := sz_of (by rw [rL_len]; omega)
          simp [psC, this, rL_app]
        · rcases List.mem_append.mp hr' with hr' | hr'
          · exact hr r hr'
          · rw [List.mem_singleton.mp hr']
            exact ⟨hring, hlen, hw.2.2.1⟩
        · rcases List.mem_append.mp ht with ht | ht
          · obtain ⟨r, h1, h2⟩ := hs1 t ht
            exact ⟨r, List.mem_append_left _ h1, h2⟩
          · exact ⟨row, by simp, ht⟩
        · rcases List.mem_append.mp ht with ht | ht
          · exact List.mem_append_left _ (hs2 t ht)
          · rw [List.mem_singleton.mp ht, ← h0]
            exact List.mem_append_right _ (at_mem hpos)
      · have hne : at' p (at' row (row.length - 1)) ≠ at' row 0 := by
          rw [h0]
          simpa using hkt
        have hg := hw.go hp hne
        have hgl := hg.len
        rw [List.length_append, List.length_singleton] at hgl
        refine w_det (o := .nx (psC p told seen (.fr (.int (s : Int))) (.ow (nL (row ++ [at' p (at' row (row.length - 1))]))) dr)) (by simp [psC, a1, a2, nL_snoc, sz_of (n := row.length) (by omega)]) ?_
        exact ⟨m - 1, by omega, _, rfl, by simp; omega, hg, by rw [at_app hpos]; exact h0⟩
  · rintro q ⟨told, seen, a, b, rfl, hl1, hl2, hr, hs1, hs2⟩
    refine w_det (by simp [psC]; rfl) ?_
    exact ⟨told, rfl, rfl, by rw [List.length_range, hpl] at hl1; exact hl1, hr, fun s hs => hs1 s (hs2 s (List.mem_range.mpr (by rw [hpl]; exact hs)))⟩
/-- taken m times -/
def it (p : List Nat) : Nat → Nat → Nat
  | 0, a => a
  | m + 1, a => at' p (it p m a)
theorem it_lt {a : Nat} (hp : OkP n p) (ha : a < n) : ∀ m, it p m a < n
  | 0 => ha
  | m + 1 => hp.lt (it_lt hp ha m)
theorem ring_go {row : List Nat} (h : Ring n p row) {i : Nat} (hi : i < row.length) : ∀ m, it p m (at' row i) = at' row ((i + m) % row.length)
  | 0 => by rw [Nat.add_zero, Nat.mod_eq_of_lt hi]; rfl
  | m + 1 => by
    show at' p (it p m _) = _
    rw [ring_go h hi m, h.2.2 _ (Nat.mod_lt _ (by omega)), Nat.mod_add_mod, Nat.add_assoc]
theorem ring_len {row : List Nat} {d : Nat} (h : Ring n p row) (nd : row.Nodup) (h0 : 0 ∈ row) (hd : ∀ m, it p m 0 = 0 ↔ d ∣ m) : row.length = d := by
  obtain ⟨i, hi, e⟩ := mem_at h0
  have hpos : 0 < row.length := by omega
  have key : ∀ m, it p m 0 = 0 ↔ row.length ∣ m := fun m => by
    have g := ring_go h hi m
    rw [e] at g
    rw [g]
    constructor
    · intro z
      have := nodup_at nd (Nat.mod_lt _ hpos) hi (z.trans e.symm)
      have e2 : (i + m) % row.length = i % row.length := by rw [this, Nat.mod_eq_of_lt hi]
      obtain ⟨q, hq⟩ : row.length ∣ (i + m) - i := Nat.dvd_of_mod_eq_zero (Nat.sub_mod_eq_zero_of_mod_eq e2)
      exact ⟨q, by omega⟩
    · rintro ⟨q, rfl⟩
      rw [Nat.add_mul_mod_self_left, Nat.mod_eq_of_lt hi, e]
  exact Nat.dvd_antisymm ((key d).mp ((hd d).mpr (Nat.dvd_refl _))) ((hd _).mp ((key _).mpr (Nat.dvd_refl _)))
end
end LK

namespace LK
open PySem PySem.Spec PyProof.Rows L2 MP
theorem in_nLt {xs : List Nat} {k : Nat} : inD (.int (k : Int)) (.tuple (nL xs)) = some (.im (.bool (decide (k ∈ xs)))) := by
  have h : (nL xs).all flatD = true := List.all_eq_true.mpr fun d hd => by
    obtain ⟨k, _, rfl⟩ := List.mem_map.mp hd
    rfl
  show (if flatD (.int (k : Int)) && (nL xs).all flatD then _ else _) = _
  rw [h, Bool.and_true, show flatD (.int (k : Int)) = true from rfl, if_pos rfl, if_neg (by decide), any_nL]
section
variable {n k d t : Nat} {c : Bool} {dr : Dr} {X Y : List Nat} {o1 o2 : Dat}
def psG (c : Bool) (o1 o2 : Dat) (X Y : List Nat) (s5 s6 s7 s8 s9 s10 s11 : Sl) (dr : Dr) : PS := ⟨[.fr (bD c), .fr o1, .fr o2, .fr (.tuple (nL X)), .fr (.tuple (nL Y)), s5, s6, s7, s8, s9, s10, s11], dr⟩
theorem form_ok (hn : n ≤ 100) (hpl : fn_law_plain [bD c, o1, o2] dr = some (.nw [.tuple (nL X), .tuple (nL Y)], dr)) (hX : OkP n X) (hY : OkP n Y) (hk : n = k * d) (hd0 : 0 < d) (hk0 : 0 < k)
    (hd : ∀ m, it Y m 0 = 0 ↔ d ∣ m) (ht : t < d) (ht0 : it Y t (it X k 0) = 0) (hmin : ∀ m, m < t → it Y m (it X k 0) ≠ 0) :
    fn_law_form [bD c, o1, o2] dr = some (.im (.tuple [.int (k : Int), .int (t : Int), .int (d : Int)]), dr) := by
  have n0 : 0 < n := by rw [hk]; exact Nat.mul_pos hk0 hd0
  have hdn : d ≤ n := by rw [hk]; exact Nat.le_mul_of_pos_left _ hk0
  have hkn : k ≤ n := by rw [hk]; exact Nat.le_mul_of_pos_right _ hd0
  have hbk := b62_nat (n := k) (by omega)
  have hbd := b62_nat (n := d) (by omega)
  obtain ⟨_, d1, ec, told, rfl, hd1, tl, tr, tc⟩ := cycles2_ok (dr := dr) hn hY
  rw [hd1] at ec
  refine cv_det (c_body ?_)
  refine w_nx (ps1 := psG c o1 o2 X Y .un .un .un .un .un .un .un dr) (by simp [psG, hpl]) ?_
  have c1 := lc_eq (vs := [11]) (fi := seqIt (callM fn_law_cycles (consM (rdV 4) (M.ret [])))) (tgt := nmT 11) (tst := tstM (opM inD (kst (.int 0)) (rdV 11))) (elt := rdV 11) (ps := psG c o1 o2 X Y .un .un .un .un .un .un .un dr) (ps1 := psG c o1 o2 X Y .un .un .un .un .un .un .un dr) (fun row : List Nat => .tuple (nL row)) told (by simp [psG, ec]; rfl) (by omega) (fun row => decide (0 ∈ row)) (fun row => .tuple (nL row)) (fun row _ => by
    have i0 := in_nLt (xs := row) (k := 0)
    exact ⟨psG c o1 o2 X Y .un .un .un .un .un .un (.fr (.tuple (nL row))) dr, psG c o1 o2 X Y .un .un .un .un .un .un (.fr (.tuple (nL row))) dr, by simp [psG], by
      have i0' : inD (.int 0) (.tuple (nL row)) = some (.im (.bool (decide (0 ∈ row)))) := i0
      simp [psG, i0'], fun _ => by simp [psG], fun _ => ⟨psG c o1 o2 X Y .un .un .un .un .un .un (.fr (.tuple (nL row))) dr, by simp [psG], by simp [psG]⟩⟩)
  obtain ⟨row, rest, er⟩ : ∃ row rest, told.filter (fun row => decide (0 ∈ row)) = row :: rest := by
    obtain ⟨r, h1, h2⟩ := tc 0 n0
    cases z : told.filter (fun row => decide (0 ∈ row)) with
    | nil => exact absurd (List.mem_filter.mpr ⟨h1, decide_eq_true h2⟩) (by rw [z]; simp)
    | cons a l => exact ⟨a, l, rfl⟩
  have hrow : row ∈ told.filter (fun row => decide (0 ∈ row)) := by rw [er]; simp
  obtain ⟨hr1, hr2⟩ := List.mem_filter.mp hrow
  obtain ⟨g1, g2, g3⟩ := tr row hr1
  have rl : row.length = d := ring_len g1 g3 (of_decide_eq_true hr2) hd
  rw [er, List.map_cons] at c1
  obtain ⟨RR, hRR⟩ : ∃ RR, RR = rest.map fun row : List Nat => PyData.tuple (nL row) := ⟨_, rfl⟩
  rw [← hRR] at c1
  have a0 : atI (PyData.tuple (nL row) :: RR) 0 = some (.tuple (nL row)) := atI_nat (j := 0) rfl
  refine w_nx (ps1 := psG c o1 o2 X Y (.fr (.tuple (nL row))) .un .un .un .un .un .un dr) (by rw [e_set, e_op, c1]; simp [psG, a0]) ?_
  refine w_nx (ps1 := psG c o1 o2 X Y (.fr (.tuple (nL row))) (.fr (.int (d : Int))) .un .un .un .un .un dr) (by simp [psG, rl]) ?_
  have fd : fdivD (.int (n : Int)) (.int (d : Int)) = some (.im (.int (k : Int))) := by
    rw [fdiv_posI (by omega) (by omega), hk]
    have : ((k * d : Nat) : Int) / (d : Int) = (k : Int) := by norm_cast; exact Nat.mul_div_cancel _ hd0
    rw [this]
  have hXl := hX.len
  refine w_nx (ps1 := psG c o1 o2 X Y (.fr (.tuple (nL row))) (.fr (.int (d : Int))) (.fr (.int (k : Int))) .un .un .un .un dr) (by simp [psG, hXl, fd]) ?_
  refine w_nx (ps1 := psG c o1 o2 X Y (.fr (.tuple (nL row))) (.fr (.int (d : Int))) (.fr (.int (k : Int))) (.fr (.int ((it X 0 0 : Nat) : Int))) .un .un .un dr) (by simp [psG, it]) ?_
  refine w_seq (w_for (fun k : Nat => .int (k : Int)) (List.range k) (ps1 := psG c o1 o2 X Y (.fr (.tuple (nL row))) (.fr (.int (d : Int))) (.fr (.int (k : Int))) (.fr (.int ((it X 0 0 : Nat) : Int))) .un .un .un dr) (by simp [psG, hbk, rgD_nat]; rfl) (fun pre q => ∃ s9, q = psG c o1 o2 X Y (.fr (.tuple (nL row))) (.fr (.int (d : Int))) (.fr (.int (k : Int))) (.fr (.int ((it X pre.length 0 : Nat) : Int))) s9 .un .un dr) ⟨_, rfl⟩ ?_ ?_)
  · rintro pre j post q hx ⟨s9, rfl⟩
    have hl := it_lt hX n0 pre.length
    have ga := nL_at (hX.get hl)
    refine ⟨psG c o1 o2 X Y (.fr (.tuple (nL row))) (.fr (.int (d : Int))) (.fr (.int (k : Int))) (.fr (.int ((it X pre.length 0 : Nat) : Int))) (.fr (.int (j : Int))) .un .un dr, rfl, w_det (o := .nx (psG c o1 o2 X Y (.fr (.tuple (nL row))) (.fr (.int (d : Int))) (.fr (.int (k : Int))) (.fr (.int ((it X (pre.length + 1) 0 : Nat) : Int))) (.fr (.int (j : Int))) .un .un dr)) (by simp [psG, ga, it]) ⟨_, by rw [List.length_append]; rfl⟩⟩
  · rintro q ⟨s9, rfl⟩
    rw [List.length_range]
    have hs0 := it_lt hX n0 k
    obtain ⟨S, hS⟩ : ∃ S, S = it X k 0 := ⟨_, rfl⟩
    rw [← hS] at ht0 hmin hs0 ⊢
    refine w_seq (w_forR (fun k : Nat => .int (k : Int)) (List.range d) (ps1 := psG c o1 o2 X Y (.fr (.tuple (nL row))) (.fr (.int (d : Int))) (.fr (.int (k : Int))) (.fr (.int ((it Y 0 S : Nat) : Int))) s9 .un .un dr) (by simp [psG, hbd, rgD_nat, it]; rfl) (fun pre q => ∃ s10, q = psG c o1 o2 X Y (.fr (.tuple (nL row))) (.fr (.int (d : Int))) (.fr (.int (k : Int))) (.fr (.int ((it Y pre.length S : Nat) : Int))) s9 s10 .un dr ∧ pre.length ≤ t) ⟨_, rfl, Nat.zero_le _⟩ ?_ ?_)
    · rintro pre j post q hx ⟨s10, rfl, hpt⟩
      obtain ⟨_, hj, hpj⟩ := range_split hx
      have hl := it_lt hY hs0 pre.length
      have ga := nL_at (hY.get hl)
      refine ⟨psG c o1 o2 X Y (.fr (.tuple (nL row))) (.fr (.int (d : Int))) (.fr (.int (k : Int))) (.fr (.int ((it Y pre.length S : Nat) : Int))) s9 (.fr (.int (j : Int))) .un dr, rfl, ?_⟩
      by_cases hjt : pre.length = t
      · have z : it Y pre.length S = 0 := by rw [hjt]; exact ht0
        have ej : j = t := by omega
        refine w_seq (w_det (o := .rt (.im (.tuple [.int (k : Int), .int (t : Int), .int (d : Int)])) (psG c o1 o2 X Y (.fr (.tuple (nL row))) (.fr (.int (d : Int))) (.fr (.int (k : Int))) (.fr (.int ((it Y pre.length S : Nat) : Int))) s9 (.fr (.int (j : Int))) .un dr)) (by simp [psG, z, ej, qe_int, line_of]) ?_)
        exact ⟨rfl, rfl⟩
      · have z : it Y pre.length S ≠ 0 := hmin _ (by omega)
        refine w_nx (ps1 := psG c o1 o2 X Y (.fr (.tuple (nL row))) (.fr (.int (d : Int))) (.fr (.int (k : Int))) (.fr (.int ((it Y pre.length S : Nat) : Int))) s9 (.fr (.int (j : Int))) .un dr) (by simp [psG, qe_int, z]) ?_
        exact w_det (o := .nx (psG c o1 o2 X Y (.fr (.tuple (nL row))) (.fr (.int (d : Int))) (.fr (.int (k : Int))) (.fr (.int ((it Y (pre.length + 1) S : Nat) : Int))) s9 (.fr (.int (j : Int))) .un dr)) (by simp [psG, ga, it]) ⟨_, by rw [List.length_append]; rfl, by simp; omega⟩
    · rintro q ⟨s10, rfl, hpt⟩
      rw [List.length_range] at hpt
      omega
end
end LK

namespace LK
open PySem PySem.Spec PyProof.Rows L2 MP
section
variable {b : Bool} {f : Fm} {n d r sh : Nat} {z : Int} {p u : List Nat} {dr : Dr}
theorem it_add {p : List Nat} {x a : Nat} : ∀ c, it p (a + c) x = it p c (it p a x)
  | 0 => rfl
  | c + 1 => by
    show at' p (it p (a + c) x) = at' p (it p c (it p a x))
    rw [it_add c]
theorem it_cj {a : Nat} (hp : OkP n p) (hu : OkP n u) (ha : a < n) : ∀ m, it (cj n p u) m (at' u a) = at' u (it p m a)
  | 0 => rfl
  | m + 1 => by
    show at' (cj n p u) (it (cj n p u) m (at' u a)) = at' u (at' p (it p m a))
    rw [it_cj hp hu ha m, at_cj hp hu (it_lt hp ha m)]
theorem it_Y (hf : f.Ok) (hr : r < f.k) : ∀ m : Nat, it (YL f) m (pt f.d r z) = pt f.d r (z + m)
  | 0 => by show pt f.d r z = _; rw [show z + ((0 : Nat) : Int) = z by omega]
  | m + 1 => by
    show at' (YL f) (it (YL f) m (pt f.d r z)) = _
    rw [it_Y hf hr m, at_YL (pt_lt hf.2.1 hr), sY_pt hf.2.1]
    congr 1
    omega
theorem sgk_zero : sgk b 0 = 1 := if_pos (.inr rfl)
theorem sgk_add {a : Nat} : ∀ c, sgk b (a + c) = sgk b c * sgk b a
  | 0 => by rw [sgk_zero, Int.one_mul]; rfl
  | c + 1 => by rw [← Nat.add_assoc, sgk_succ, sgk_add c, sgk_succ, Int.mul_assoc]
theorem it_X (hf : f.Ok) (hr : r < f.k) : ∀ m : Nat, r + m < f.k → it (XL b f) m (pt f.d r z) = pt f.d (r + m) (sgk b m * z)
  | 0, _ => by show pt f.d r z = _; rw [sgk_zero, Int.one_mul]; rfl
  | m + 1, h => by
    show at' (XL b f) (it (XL b f) m (pt f.d r z)) = _
    rw [it_X hf hr m (by omega), at_XL (pt_lt hf.2.1 (by omega)), sX_pt hf.2.1, if_neg (by omega), sgk_succ, Int.mul_assoc]
    rfl
theorem it_Xk (hf : f.Ok) (hr : r < f.k) : it (XL b f) f.k (pt f.d r z) = pt f.d r (sgk b f.k * z - sgk b r * f.s) := by
  have e : f.k = (f.k - 1 - r) + (1 + r) := by omega
  have h1 := it_X (b := b) (z := z) hf hr (f.k - 1 - r) (by omega)
  have h2 : r + (f.k - 1 - r) = f.k - 1 := by omega
  rw [h2] at h1
  have h3 : it (XL b f) 1 (pt f.d (f.k - 1) (sgk b (f.k - 1 - r) * z)) = pt f.d 0 (sgk b (f.k - r) * z - f.s) := by
    show at' (XL b f) (pt f.d (f.k - 1) _) = _
    rw [at_XL (pt_lt hf.2.1 (by omega)), sX_pt hf.2.1, if_pos rfl, ← Int.mul_assoc, ← sgk_succ]
    congr 4
    omega
  have h4 := it_X (b := b) (z := sgk b (f.k - r) * z - f.s) (r := 0) hf hf.1 r (by omega)
  have h5 : sgk b f.k = sgk b r * sgk b (f.k - r) := by rw [← sgk_add]; congr 1; omega
  have h6 : it (XL b f) f.k (pt f.d r z) = it (XL b f) ((f.k - 1 - r) + (1 + r)) (pt f.d r z) := by rw [← e]
  rw [h6, it_add, h1, it_add, h3, h4, Nat.zero_add, h5, Int.mul_sub, Int.mul_assoc]
/-- the shift that is seen from the sheet in row r at z -/
def sp (b : Bool) (f : Fm) (r : Nat) (z : Int) : Nat := ((z - (sgk b f.k * z - sgk b r * f.s)) % (f.d : Int)).toNat
def seen (b : Bool) (f : Fm) (sh : Nat) : Fm := ⟨f.k, sp b f (sh / f.d) ((sh % f.d : Nat) : Int), f.d⟩
theorem sp_lt (hd : 0 < f.d) : sp b f r z < f.d := pm_lt hd
theorem sp_cast (hd : 0 < f.d) : ((sp b f r z : Nat) : Int) = (z - (sgk b f.k * z - sgk b r * f.s)) % (f.d : Int) := by
  unfold sp
  have h1 := Int.emod_nonneg (z - (sgk b f.k * z - sgk b r * f.s)) (show (f.d : Int) ≠ 0 by omega)
  omega
/-- the sheets counted from another one on -/
def U (n sh : Nat) : List Nat := (List.range n).map fun a => (a + n - sh) % n
theorem U_ok (hs : sh < n) : OkP n (U n sh) := by
  refine ok_of_nodup ?_ (fun x hx => ?_) (by unfold U; simp)
  · unfold U
    refine List.pairwise_map.mpr (List.Pairwise.imp_of_mem (fun {x y} hx hy hne e => hne ?_) List.nodup_range)
    have hx := List.mem_range.mp hx
    have hy := List.mem_range.mp hy
    have g : ∀ a, a < n → (a + n - sh) % n = if sh ≤ a then a - sh else a + n - sh := fun a ha => by
      split
      · rw [show a + n - sh = (a - sh) + n by omega, Nat.add_mod_right, Nat.mod_eq_of_lt (by omega)]
      · exact Nat.mod_eq_of_lt (by omega)
    rw [g x hx, g y hy] at e
    split at e <;> split at e <;> omega
  · obtain ⟨a, ha, rfl⟩ := List.mem_map.mp hx
    exact Nat.mod_lt _ (by omega)
theorem at_U (hs : sh < n) : at' (U n sh) sh = 0 := by
  unfold U
  rw [at_map (by simpa using hs), at_range hs, show sh + n - sh = n by omega, Nat.mod_self]
theorem pt_eq (hd : 0 < d) {w : Int} : pt d r w = pt d r z ↔ (d : Int) ∣ w - z :=
  ⟨fun h => Int.dvd_of_emod_eq_zero (Int.emod_eq_emod_iff_emod_sub_eq_zero.mp (pt_inj hd h).2), fun h => pt_congr (Int.emod_eq_emod_iff_emod_sub_eq_zero.mpr (Int.emod_eq_zero_of_dvd h))⟩
theorem seen_ok (hf : f.Ok) (hn : f.n ≤ 100) (hs : sh < f.n) :
    fn_law_form [bD b, .tuple (nL (cj f.n (L1 b (XL b f) (YL f)) (U f.n sh))), .tuple (nL (cj f.n (L2' b f.n (XL b f) (YL f)) (U f.n sh)))] dr = some (.im (f3 (seen b f sh)), dr) := by
  have hd := hf.2.1
  have oX := XL_ok (b := b) hf
  have oY := YL_ok hf
  have oU := U_ok hs
  have hr : sh / f.d < f.k := div_lt hd hs
  obtain ⟨r, er⟩ : ∃ r, r = sh / f.d := ⟨_, rfl⟩
  obtain ⟨z, ez⟩ : ∃ z : Int, z = ((sh % f.d : Nat) : Int) := ⟨_, rfl⟩
  have es : sh = pt f.d r z := by rw [er, ez, pt_self hd]
  rw [← er] at hr
  have e0 := at_U hs
  have zero : ∀ {p : List Nat} (op : OkP f.n p) (a : Nat), a < f.n → (at' (U f.n sh) a = 0 ↔ a = sh) := fun op a ha => ⟨fun h => oU.inj ha hs (h.trans e0.symm), fun h => by rw [h]; exact e0⟩
  have sc := sp_cast (b := b) (r := r) (z := z) hd
  have w0 : it (cj f.n (XL b f) (U f.n sh)) f.k 0 = at' (U f.n sh) (pt f.d r (sgk b f.k * z - sgk b r * f.s)) := by
    have := it_cj oX oU hs f.k
    rw [e0] at this
    rw [this]
    congr 1
    rw [es, it_Xk hf hr]
  have w1 : ∀ m, it (cj f.n (YL f) (U f.n sh)) m (it (cj f.n (XL b f) (U f.n sh)) f.k 0) = at' (U f.n sh) (pt f.d r (sgk b f.k * z - sgk b r * f.s + m)) := fun m => by
    rw [w0, it_cj oY oU (pt_lt hd hr), it_Y hf hr]
  have eseen : seen b f sh = ⟨f.k, sp b f r z, f.d⟩ := by rw [er, ez]; rfl
  rw [eseen]
  refine form_ok (k := f.k) (t := sp b f r z) (d := f.d) hn (plain_ok hn oX oY oU) (cj_ok oX oU) (cj_ok oY oU) rfl hd hf.1 (fun m => ?_) (sp_lt hd) ?_ fun m hm => ?_
  · have := it_cj oY oU hs m
    rw [e0] at this
    rw [this, zero oY _ (it_lt oY hs m), es, it_Y hf hr, pt_eq hd, show z + (m : Int) - z = (m : Int) by omega]
    exact Int.ofNat_dvd
  · rw [w1, zero oY _ (pt_lt hd hr), es, pt_eq hd, sc]
    have h := Int.emod_add_mul_ediv (z - (sgk b f.k * z - sgk b r * f.s)) (f.d : Int)
    refine ⟨-((z - (sgk b f.k * z - sgk b r * f.s)) / (f.d : Int)), ?_⟩
    rw [Int.mul_neg]
    omega
  · rw [w1, Ne, zero oY _ (pt_lt hd hr), es, pt_eq hd]
    intro h
    have h1 : (m : Int) % (f.d : Int) = (z - (sgk b f.k * z - sgk b r * f.s)) % (f.d : Int) := Int.emod_eq_emod_iff_emod_sub_eq_zero.mpr (Int.emod_eq_zero_of_dvd (by
      rw [show (m : Int) - (z - (sgk b f.k * z - sgk b r * f.s)) = sgk b f.k * z - sgk b r * f.s + m - z by omega]
      exact h))
    have := sp_lt (b := b) (f := f) (r := r) (z := z) hd
    rw [← sc, Int.emod_eq_of_lt (by omega) (by omega)] at h1
    omega
end
end LK

namespace LK
open PySem PySem.Spec PyProof.Rows L2 MP
section
variable {b : Bool} {f : Fm} {n sh : Nat} {dr : Dr}
def psA (b : Bool) (f : Fm) (s7 s8 s9 s10 : Sl) (dr : Dr) : PS := ⟨[.fr (bD b), .fr (f3 f), .fr (.int (f.n : Int)), .fr (.tuple (nL (XL b f))), .fr (.tuple (nL (YL f))), .fr (.tuple (nL (L1 b (XL b f) (YL f)))), .fr (.tuple (nL (L2' b f.n (XL b f) (YL f)))), s7, s8, s9, s10], dr⟩
theorem all_forms_ok (hf : f.Ok) (hn : f.n ≤ 100) : fn_law_all_forms [bD b, f3 f] dr = some (.nw ((List.range f.n).map fun sh => f3 (seen b f sh)), dr) := by
  have n0 := zero_lt hf
  have oX := XL_ok (b := b) hf
  have oY := YL_ok hf
  have hbn := b62_nat (n := f.n) (by omega)
  have st := steps_ok (b := b) (dr := dr) hf (by omega)
  have le := letters_ok (c := b) (dr := dr) hn oX oY
  have mu : mulD (.int (f.k : Int)) (.int (f.d : Int)) = some (.im (.int (f.n : Int))) := by
    rw [mul_int (i := (f.k : Int)) (j := (f.d : Int)) (.inl (by have : f.k ≤ f.n := Nat.le_mul_of_pos_right _ hf.2.1; omega))]
    unfold Fm.n
    push_cast
    rfl
  refine cv_det (c_body ?_)
  refine w_nx (ps1 := ⟨[.fr (bD b), .fr (f3 f), .fr (.int (f.n : Int)), .un, .un, .un, .un, .un, .un, .un, .un], dr⟩) (by simp [f3, f30, f32, mu]) ?_
  refine w_nx (ps1 := ⟨[.fr (bD b), .fr (f3 f), .fr (.int (f.n : Int)), .fr (.tuple (nL (XL b f))), .fr (.tuple (nL (YL f))), .un, .un, .un, .un, .un, .un], dr⟩) (by simp [st]) ?_
  refine w_nx (ps1 := psA b f .un .un .un .un dr) (by simp [le, psA]) ?_
  refine w_nx (ps1 := psA b f (.ow []) .un .un .un dr) (by simp [psA, line_of]) ?_
  refine w_seq (w_for (fun k : Nat => .int (k : Int)) (List.range f.n) (ps1 := psA b f (.ow []) .un .un .un dr) (by simp [psA, hbn, rgD_nat]; rfl) (fun pre q => ∃ s8 s9, q = psA b f (.ow (pre.map fun sh => f3 (seen b f sh))) s8 s9 .un dr) ⟨_, _, rfl⟩ ?_ ?_)
  · rintro pre sh post q hx ⟨s8, s9, rfl⟩
    obtain ⟨_, hs, hpl⟩ := range_split hx
    refine ⟨psA b f (.ow (pre.map fun sh => f3 (seen b f sh))) (.fr (.int (sh : Int))) s9 .un dr, rfl, ?_⟩
    have c1 := mp_eq (vs := [10]) (fi := rng1 (consM (rdV 2) (M.ret []))) (tgt := nmT 10) (elt := opM modD (unM intD (opM subD (opM addD (rdV 10) (rdV 2)) (rdV 8))) (rdV 2)) (ps := psA b f (.ow (pre.map fun sh => f3 (seen b f sh))) (.fr (.int (sh : Int))) s9 .un dr) (ps1 := psA b f (.ow (pre.map fun sh => f3 (seen b f sh))) (.fr (.int (sh : Int))) s9 .un dr) (fun k : Nat => .int (k : Int)) (List.range f.n) (by simp [psA, hbn, rgD_nat]; rfl) (by simp; omega) (fun a => .int (((a + f.n - sh) % f.n : Nat) : Int)) (fun a ha => by
      have ha := List.mem_range.mp ha
      have md : modD (.int ((a : Int) + (f.n : Int) - (sh : Int))) (.int (f.n : Int)) = some (.im (.int (((a + f.n - sh) % f.n : Nat) : Int))) := by
        have := mod_nat (a := a + f.n - sh) (b := f.n) n0
        rw [← this]
        congr 2
        omega
      obtain ⟨m, hm⟩ : ∃ m, m = (a + f.n - sh) % f.n := ⟨_, rfl⟩
      rw [← hm] at md ⊢
      exact ⟨psA b f (.ow (pre.map fun sh => f3 (seen b f sh))) (.fr (.int (sh : Int))) s9 (.fr (.int (a : Int))) dr, psA b f (.ow (pre.map fun sh => f3 (seen b f sh))) (.fr (.int (sh : Int))) s9 (.fr (.int (a : Int))) dr, by simp [psA], by simp [psA, md], by simp [psA]⟩)
    have eU : ((List.range f.n).map fun a => PyData.int (((a + f.n - sh) % f.n : Nat) : Int)) = nL (U f.n sh) := by
      unfold U nL
      rw [List.map_map]
      rfl
    rw [eU] at c1
    refine w_nx (ps1 := psA b f (.ow (pre.map fun sh => f3 (seen b f sh))) (.fr (.int (sh : Int))) (.fr (.tuple (nL (U f.n sh)))) .un dr) (by rw [e_set, e_un, c1]; simp [psA]) ?_
    have oU := U_ok hs
    have t1 := law_turned_ok (dr := dr) hn (L1_ok (c := b) oX oY) oU
    have t2 := law_turned_ok (dr := dr) hn (L2_ok (c := b) oX oY) oU
    have so := seen_ok (b := b) (dr := dr) hf hn hs
    refine w_det (o := .nx (psA b f (.ow ((pre ++ [sh]).map fun sh => f3 (seen b f sh))) (.fr (.int (sh : Int))) (.fr (.tuple (nL (U f.n sh)))) .un dr)) ?_ ⟨_, _, rfl⟩
    rw [List.map_append]
    have hsz : (pre.map fun sh => f3 (seen b f sh)).length < sizeLine := sz_of (by rw [List.length_map]; omega)
    obtain ⟨PM, hPM⟩ : ∃ PM, PM = pre.map fun sh => f3 (seen b f sh) := ⟨_, rfl⟩
    rw [← hPM] at hsz ⊢
    simp [psA, t1, t2, so, hsz]
  · rintro q ⟨s8, s9, rfl⟩
    exact w_det (o := .rt (.nw ((List.range f.n).map fun sh => f3 (seen b f sh))) (psA b f (.ow ((List.range f.n).map fun sh => f3 (seen b f sh))) s8 s9 .un dr)) (by simp [psA]) ⟨rfl, rfl⟩
end
end LK

namespace LK
open PySem PySem.Spec PyProof.Rows L2 MP
theorem nM_eq : eqD (.str ("N" : Str)) (.str ("M" : Str)) = some (.im (.bool false)) := by
  rw [eqD_sh (n := 0) (m := 0) (shd_str (okS.lit _)) (shd_str (okS.lit _)) (by decide) (by decide)]
  congr 3
theorem mM_eq : eqD (.str ("M" : Str)) (.str ("M" : Str)) = some (.im (.bool true)) := by
  rw [eqD_sh (n := 0) (m := 0) (shd_str (okS.lit _)) (shd_str (okS.lit _)) (by decide) (by decide)]
  congr 3
section
variable {b : Bool} {f : Fm} {n : Nat} {dr : Dr} {p q x y : List Nat}
/-! the program's least form -/
def nw (f : Fm) : Nat := ((-(f.s : Int)) % (f.d : Int)).toNat
def ls (b : Bool) (f : Fm) : Nat := if b then f.s else if f.k % 2 = 1 then (if f.d % 2 = 0 then f.s % 2 else 0) else (if nw f < f.s then nw f else f.s)
def least (b : Bool) (f : Fm) : Fm := ⟨f.k, ls b f, f.d⟩
theorem nw_cast (hd : 0 < f.d) : (-(f.s : Int)) % (f.d : Int) = (nw f : Int) := by
  unfold nw
  have h1 := Int.emod_nonneg (-(f.s : Int)) (show (f.d : Int) ≠ 0 by omega)
  omega
theorem least_ok (hf : f.Ok) : fn_least_form [bD b, f3 f] dr = some (.im (f3 (least b f)), dr) := by
  have hd := hf.2.1
  have m1 : modD (.int (f.k : Int)) (.int 2) = some (.im (.int ((f.k % 2 : Nat) : Int))) := mod_nat (a := f.k) (b := 2) (by decide)
  have m2 : modD (.int (f.d : Int)) (.int 2) = some (.im (.int ((f.d % 2 : Nat) : Int))) := mod_nat (a := f.d) (b := 2) (by decide)
  have m3 : modD (.int (f.s : Int)) (.int 2) = some (.im (.int ((f.s % 2 : Nat) : Int))) := mod_nat (a := f.s) (b := 2) (by decide)
  have m4 : modD (.int (-(f.s : Int))) (.int (f.d : Int)) = some (.im (.int (nw f : Int))) := by rw [mod_posI (by omega), nw_cast hd]
  cases b with
  | true =>
    unfold fn_least_form b_least_form
    simp [bD, bD0, isN_eq, f3, least, ls]
  | false =>
    obtain ⟨K, hK⟩ : ∃ K, K = f.k % 2 := ⟨_, rfl⟩
    obtain ⟨D, hD⟩ : ∃ D, D = f.d % 2 := ⟨_, rfl⟩
    obtain ⟨S, hS⟩ : ∃ S, S = f.s % 2 := ⟨_, rfl⟩
    obtain ⟨N, hN⟩ : ∃ N, N = nw f := ⟨_, rfl⟩
    rw [← hK] at m1
    rw [← hD] at m2
    rw [← hS] at m3
    rw [← hN] at m4
    have e : least false f = ⟨f.k, if K = 1 then (if D = 0 then S else 0) else (if N < f.s then N else f.s), f.d⟩ := by rw [hK, hD, hS, hN]; rfl
    rw [e]
    unfold fn_least_form b_least_form
    by_cases h : K = 1
    · have h' : (K : Int) = 1 := by omega
      by_cases h2 : D = 0
      · have h2' : (D : Int) = 0 := by omega
        simp [bD, bD1, isM_eq, f3, m1, m2, m3, qe_int, h, h2, line_of]
      · have h2' : ¬ (D : Int) = 0 := by omega
        simp [bD, bD1, isM_eq, f3, m1, m2, m3, qe_int, h, h2, h2', line_of]
    · have h' : ¬ (K : Int) = 1 := by omega
      by_cases h3 : N < f.s
      · have h3' : (N : Int) < (f.s : Int) := by omega
        simp [bD, bD1, isM_eq, f3, m1, m4, qe_int, h, h', h3, h3', line_of]
      · have h3' : ¬ (N : Int) < (f.s : Int) := by omega
        simp [bD, bD1, isM_eq, f3, m1, m4, qe_int, h, h', h3, h3', line_of]
def reg (b : Bool) (f : Fm) : Bool := if b then true else if f.k % 2 = 1 then decide (f.d ≤ 2) else decide ((2 * f.s) % f.d = 0)
theorem regular_ok (hf : f.Ok) : fn_is_regular_form [bD b, f3 f] dr = some (.im (.bool (reg b f)), dr) := by
  have hd := hf.2.1
  have m1 : modD (.int (f.k : Int)) (.int 2) = some (.im (.int ((f.k % 2 : Nat) : Int))) := mod_nat (a := f.k) (b := 2) (by decide)
  have mu : mulD (.int 2) (.int (f.s : Int)) = some (.im (.int ((2 * f.s : Nat) : Int))) := by
    rw [mul_int (i := 2) (j := (f.s : Int)) (.inl (by decide))]
    push_cast
    rfl
  have m2 : modD (.int ((2 * f.s : Nat) : Int)) (.int (f.d : Int)) = some (.im (.int ((2 * f.s % f.d : Nat) : Int))) := mod_nat hd
  cases b with
  | true =>
    unfold fn_is_regular_form b_is_regular_form
    simp [bD, bD0, isN_eq, f3, reg]
  | false =>
    obtain ⟨K, hK⟩ : ∃ K, K = f.k % 2 := ⟨_, rfl⟩
    obtain ⟨D, hD⟩ : ∃ D, D = 2 * f.s % f.d := ⟨_, rfl⟩
    obtain ⟨W, hW⟩ : ∃ W, W = 2 * f.s := ⟨_, rfl⟩
    rw [← hD] at m2
    rw [← hW] at m2 mu
    rw [← hK] at m1
    have e : reg false f = if K = 1 then decide (f.d ≤ 2) else decide (D = 0) := by rw [hK, hD]; rfl
    rw [e]
    unfold fn_is_regular_form b_is_regular_form
    by_cases h : K = 1
    · have h2 : decide ((f.d : Int) ≤ 2) = decide (f.d ≤ 2) := decide_eq_decide.mpr (by omega)
      simp [bD, bD1, isM_eq, f3, m1, qe_int, h, h2]
    · have h' : ¬ (K : Int) = 1 := by omega
      simp [bD, bD1, isM_eq, f3, m1, m2, mu, qe_int, h, h']
/-! the program's steps -/
theorem times_ok (hn : n ≤ 100) (hp : OkP n p) (hq : OkP n q) : fn_times [.tuple (nL p), .tuple (nL q)] dr = some (.im (.tuple (nL (tm p q))), dr) := law_times_ok hn hp hq
theorem identity_ok (hn : n ≤ 100) : fn_identity [.int (n : Int)] dr = some (.im (.tuple (nL (List.range n))), dr) := by
  have hr : rgB (0, (n : Int)) = true := rgB_n' (a := 0) (b := n) (by decide) (by omega)
  unfold fn_identity b_identity
  simp [hr, rgD_nat]
theorem product_ok {rows : List (List Nat)} {d : Dat} (hn : n ≤ 100) (h : ∀ p ∈ rows, OkP n p) (hd : Rws d rows) : fn_product [.int (n : Int), d] dr = some (.im (.tuple (nL (prodR n rows))), dr) := by
  have id := identity_ok (dr := dr) hn
  refine cv_det (c_body ?_)
  refine w_nx (ps1 := ⟨[.fr (.int (n : Int)), .fr d, .fr (.tuple (nL (prodR n []))), .un], dr⟩) (by simp [id, prodR]) ?_
  refine w_seq (w_for (fun p => .tuple (nL p)) rows (ps1 := ⟨[.fr (.int (n : Int)), .fr d, .fr (.tuple (nL (prodR n []))), .un], dr⟩) (by simp [hd.items, rL]) (fun pre q => ∃ z, q = ⟨[.fr (.int (n : Int)), .fr d, .fr (.tuple (nL (prodR n pre))), z], dr⟩) ⟨_, rfl⟩ ?_ ?_)
  · rintro pre p post q hx ⟨z, rfl⟩
    have h1 : ∀ p ∈ pre, OkP n p := fun p hp => h p (by rw [hx]; simp [hp])
    have e := times_ok (dr := dr) hn (prod_ok h1) (h p (by rw [hx]; simp))
    refine ⟨_, rfl, w_det (o := .nx ⟨[.fr (.int (n : Int)), .fr d, .fr (.tuple (nL (prodR n (pre ++ [p])))), .fr (.tuple (nL p))], dr⟩) (by simp [e, prod_snoc]) ⟨_, rfl⟩⟩
  · rintro q ⟨z, rfl⟩
    exact w_det (o := .rt (.im (.tuple (nL (prodR n rows)))) ⟨[.fr (.int (n : Int)), .fr d, .fr (.tuple (nL (prodR n rows))), z], dr⟩) (by simp) ⟨rfl, rfl⟩
theorem squares_ok (hn : n ≤ 100) (hx : OkP n x) (hy : OkP n y) : fn_two_squares_of [.tuple (nL x), .tuple (nL y)] dr = some (.im (.tuple [.tuple (nL (tm x y)), .tuple (nL (letM n x y))]), dr) := by
  have e0 := times_ok (dr := dr) hn hx hy
  have e1 := inverse_ok (dr := dr) hn hy
  have e2 := inverse_ok (dr := dr) hn hx
  have e3 := product_ok (dr := dr) (d := .list (rL [inv y, inv x, y])) hn (rows := [inv y, inv x, y]) (fun q hq => by
    simp at hq
    rcases hq with rfl | rfl | rfl
    · exact inv_ok hy
    · exact inv_ok hx
    · exact hy) (.inl rfl)
  have hxl := hx.len
  have e4 : rL [inv y, inv x, y] = [.tuple (nL (inv y)), .tuple (nL (inv x)), .tuple (nL y)] := rfl
  rw [e4] at e3
  unfold fn_two_squares_of b_two_squares_of
  simp [e0, e1, e2, e3, hxl, line_of, letM]
def psL (b : Bool) (f : Fm) (X Y : List Nat) (u v w : Sl) (dr : Dr) : PS := ⟨[.fr (bD b), .fr (f3 f), .fr (.int (f.k : Int)), .fr (.int (f.s : Int)), .fr (.int (f.d : Int)), .fr (.bool (!b)), .ow (nL X), .ow (nL Y), u, v, w], dr⟩
theorem plain_steps_ok (hf : f.Ok) (hn : f.n ≤ 1000) : fn_plain_steps [bD b, f3 f] dr = some (.im (.tuple [.tuple (nL (XL b f)), .tuple (nL (YL f))]), dr) := by
  have hd := hf.2.1
  have hk := hf.1
  have hkn : f.k ≤ f.n := Nat.le_mul_of_pos_right _ hd
  have hdn : f.d ≤ f.n := Nat.le_mul_of_pos_left _ hk
  have hbk := b62_nat (n := f.k) (by omega)
  have hbd := b62_nat (n := f.d) (by omega)
  refine cv_det (c_body ?_)
  refine w_nx (ps1 := ⟨[.fr (bD b), .fr (f3 f), .fr (.int (f.k : Int)), .fr (.int (f.s : Int)), .fr (.int (f.d : Int)), .un, .un, .un, .un, .un, .un], dr⟩) (by simp [f3]) ?_
  refine w_nx (ps1 := ⟨[.fr (bD b), .fr (f3 f), .fr (.int (f.k : Int)), .fr (.int (f.s : Int)), .fr (.int (f.d : Int)), .fr (.bool (!b)), .un, .un, .un, .un, .un], dr⟩) (by cases b <;> simp [bD, bD0, bD1, nM_eq, mM_eq]) ?_
  refine w_nx (ps1 := ⟨[.fr (bD b), .fr (f3 f), .fr (.int (f.k : Int)), .fr (.int (f.s : Int)), .fr (.int (f.d : Int)), .fr (.bool (!b)), .ow (nL []), .un, .un, .un, .un], dr⟩) (by simp [line_of, nL]) ?_
  refine w_nx (ps1 := psL b f [] [] .un .un .un dr) (by simp [line_of, nL, psL]) ?_
  refine w_seq (w_for (fun i : Nat => .int (i : Int)) (List.range f.k) (ps1 := psL b f [] [] .un .un .un dr) (by simp [psL, hbk, rgD_nat]; rfl) (fun pre q => ∃ u v w, q = psL b f ((List.range (pre.length * f.d)).map (sX b f)) ((List.range (pre.length * f.d)).map (sY f)) u v w dr) ⟨.un, .un, .un, by simp⟩ ?_ ?_)
  · rintro pre i post q hx ⟨u, v, w, rfl⟩
    obtain ⟨_, hi, hpi⟩ := range_split hx
    rw [hpi]
    refine ⟨psL b f ((List.range (i * f.d)).map (sX b f)) ((List.range (i * f.d)).map (sY f)) (.fr (.int (i : Int))) v w dr, rfl, ?_⟩
    refine w_for (fun j : Nat => .int (j : Int)) (List.range f.d) (ps1 := psL b f ((List.range (i * f.d)).map (sX b f)) ((List.range (i * f.d)).map (sY f)) (.fr (.int (i : Int))) v w dr) (by simp [psL, hbd, rgD_nat]; rfl) (fun pre2 q => ∃ v w, q = psL b f ((List.range (i * f.d + pre2.length)).map (sX b f)) ((List.range (i * f.d + pre2.length)).map (sY f)) (.fr (.int (i : Int))) v w dr) ⟨_, _, rfl⟩ ?_ ?_
    · rintro pre2 j post2 q hx2 ⟨v, w, rfl⟩
      obtain ⟨_, hj, hpj⟩ := range_split hx2
      rw [hpj]
      obtain ⟨t, ht⟩ : ∃ t, t = i * f.d + j := ⟨_, rfl⟩
      have htn : t < f.n := by
        have h2 : (i + 1) * f.d ≤ f.k * f.d := Nat.mul_le_mul_right _ hi
        rw [Nat.succ_mul] at h2
        show t < f.k * f.d
        omega
      have tdiv : t / f.d = i := by rw [ht, Nat.mul_comm, Nat.mul_add_div hd, Nat.div_eq_of_lt hj, Nat.add_zero]
      have tmod : t % f.d = j := by rw [ht, Nat.mul_comm, Nat.mul_add_mod, Nat.mod_eq_of_lt hj]
      have m1 : ∀ z : Int, mulD (.int z) (.int (f.d : Int)) = some (.im (.int (z * (f.d : Int)))) := fun z => mul_int (.inr (by omega))
      have m2 : ∀ z : Int, modD (.int z) (.int (f.d : Int)) = some (.im (.int (z % (f.d : Int)))) := fun z => mod_posI (by omega)
      have vy : (i : Int) * (f.d : Int) + ((j : Int) + 1) % (f.d : Int) = (sY f t : Int) := by
        unfold sY
        rw [tdiv, tmod, pt_cast hd]
      have len : t + 1 = i * f.d + (pre2 ++ [j]).length := by simp; omega
      rw [← ht]
      obtain ⟨PX, hPX⟩ : ∃ PX, PX = (List.range t).map (sX b f) := ⟨_, rfl⟩
      obtain ⟨PY, hPY⟩ : ∃ PY, PY = (List.range t).map (sY f) := ⟨_, rfl⟩
      have lX : PX.length < sizeLine := sz_of (by rw [hPX]; simp; omega)
      have lY : PY.length < sizeLine := sz_of (by rw [hPY]; simp; omega)
      have sx : (List.range (t + 1)).map (sX b f) = PX ++ [sX b f t] := by rw [List.range_succ, List.map_append, hPX]; rfl
      have sy : (List.range (t + 1)).map (sY f) = PY ++ [sY f t] := by rw [List.range_succ, List.map_append, hPY]; rfl
      rw [← hPX, ← hPY]
      refine ⟨psL b f PX PY (.fr (.int (i : Int))) (.fr (.int (j : Int))) w dr, rfl, ?_⟩
      have so : ∃ o : Int, o = sg b * (j : Int) ∧ (ifM (truM (rdV 5)) (unM negD (rdV 9)) (rdV 9)) (psL b f PX PY (.fr (.int (i : Int))) (.fr (.int (j : Int))) w dr) = some (.im (.int o), psL b f PX PY (.fr (.int (i : Int))) (.fr (.int (j : Int))) w dr) := by
        cases b with
        | true => exact ⟨j, by unfold sg; simp, by simp [psL]⟩
        | false => exact ⟨-j, by unfold sg; simp, by simp [psL]⟩
      obtain ⟨o, ho, eo⟩ := so
      refine w_nx (ps1 := psL b f PX PY (.fr (.int (i : Int))) (.fr (.int (j : Int))) (.fr (.int o)) dr) (by rw [e_set, eo]; rfl) ?_
      refine w_nx (ps1 := psL b f (PX ++ [sX b f t]) PY (.fr (.int (i : Int))) (.fr (.int (j : Int))) (.fr (.int o)) dr) ?_ ?_
      · by_cases hi2 : i = f.k - 1
        · have hc : (i : Int) = (f.k : Int) - 1 := by omega
          have vx : (o - (f.s : Int)) % (f.d : Int) = (sX b f t : Int) := by
            unfold sX
            rw [tdiv, tmod, if_pos hi2, pt_cast hd, ho]
            simp
          simp [psL, qe_int, hc, m2, vx, lX, nL_app]
          simp [nL]
        · have hc : ¬ (i : Int) = (f.k : Int) - 1 := by omega
          have vx : ((i : Int) + 1) * (f.d : Int) + o % (f.d : Int) = (sX b f t : Int) := by
            unfold sX
            rw [tdiv, tmod, if_neg hi2, pt_cast hd, ho]
            push_cast
            rfl
          simp [psL, qe_int, hc, m1, m2, vx, lX, nL_app]
          simp [nL]
      · refine w_det (o := .nx (psL b f (PX ++ [sX b f t]) (PY ++ [sY f t]) (.fr (.int (i : Int))) (.fr (.int (j : Int))) (.fr (.int o)) dr)) (by simp [psL, m1, m2, vy, lY, nL_app]; simp [nL]) ⟨.fr (.int (j : Int)), .fr (.int o), by rw [← len, sx, sy]⟩
    · rintro q ⟨v, w, rfl⟩
      exact ⟨.fr (.int (i : Int)), v, w, by rw [List.length_append, List.length_singleton, hpi, Nat.succ_mul, List.length_range]⟩
  · rintro q ⟨u, v, w, rfl⟩
    rw [List.length_range]
    exact w_det (o := .rt (.im (.tuple [.tuple (nL (XL b f)), .tuple (nL (YL f))])) (psL b f (XL b f) (YL f) u v w dr)) (by
      show _ = _
      have e1 : (List.range (f.k * f.d)).map (sX b f) = XL b f := rfl
      have e2 : (List.range (f.k * f.d)).map (sY f) = YL f := rfl
      rw [e1, e2]
      simp [psL, line_of]) ⟨rfl, rfl⟩
theorem of_form_ok (hf : f.Ok) (hn : f.n ≤ 100) : fn_of_form [bD b, f3 f] dr = some (.im (.tuple [.tuple (nL (L1 b (XL b f) (YL f))), .tuple (nL (L2' b f.n (XL b f) (YL f)))]), dr) := by
  have e1 := plain_steps_ok (b := b) (dr := dr) hf (by omega)
  cases b with
  | true =>
    unfold fn_of_form b_of_form
    simp only [bD] at e1 ⊢
    simp [e1, bD0, isN_eq, L1, L2', line_of]
  | false =>
    have e2 := squares_ok (dr := dr) hn (XL_ok (b := false) hf) (YL_ok hf)
    unfold fn_of_form b_of_form
    simp only [bD] at e1 ⊢
    simp [e1, bD1, isM_eq, e2, L1, L2']
end
end LK

namespace LK
open PySem PySem.Spec PyProof.Rows L2 MP
section
variable {α β : Type} {vs vs1 : List Nat} {tgt tgt1 : Dat → PS → Option PS} {tst : M Bool} {fi fi1 : M (List Dat)} {elt : M RV} {ps ps1 : PS}
theorem lcL_acc {k1 g : β → Dat} : ∀ (ys : List β) (acc : List Dat), acc.length + ys.length ≤ 1000000 → (∀ y ∈ ys, ∃ q1 q3, tgt (k1 y) ps = some q1 ∧ keepM elt q1 = some (g y, q3) ∧ wipeP vs q3 = ps) →
    lcL vs tgt (M.ret true) elt (ys.map k1) acc ps = some (acc ++ ys.map g, ps)
  | [], acc, _, _ => by
    show some (acc, ps) = _
    rw [List.map_nil, List.append_nil]
  | y :: ys, acc, hl, h => by
    rw [List.length_cons] at hl
    obtain ⟨q1, q3, e1, e2, e3⟩ := h y (by simp)
    rw [List.map_cons]
    unfold lcL
    rw [e1]
    show (keepM elt q1).bind _ = _
    rw [e2]
    show (if decide (acc.length < sizeLine) = true then _ else _) = _
    rw [if_pos (decide_eq_true (sz_of (by omega)))]
    show lcL vs tgt (M.ret true) elt (ys.map k1) (acc ++ [g y]) (wipeP vs q3) = _
    rw [e3, lcL_acc ys (acc ++ [g y]) (by rw [List.length_append, List.length_singleton]; omega) fun z hz => h z (List.mem_cons_of_mem _ hz), List.map_cons, List.append_assoc]
    rfl
theorem lcL2_acc {k : α → Dat} {k1 : β → Dat} {p : α → Bool} {ys : α → List β} {g : α → β → Dat} : ∀ (xs : List α) (acc : List Dat), acc.length + ((xs.filter p).flatMap fun x => (ys x).map (g x)).length ≤ 1000000 →
    (∀ x ∈ xs, ∃ q1 q2, tgt (k x) ps = some q1 ∧ tst q1 = some (p x, q2) ∧ (p x = false → wipeP vs q2 = ps) ∧ (p x = true → ∃ q3, fi1 q2 = some ((ys x).map k1, q3) ∧ (∀ y ∈ ys x, ∃ r1 r3, tgt1 (k1 y) (wipeP vs1 q3) = some r1 ∧ keepM elt r1 = some (g x y, r3) ∧ wipeP vs1 r3 = wipeP vs1 q3) ∧ wipeP vs (wipeP vs1 q3) = ps)) →
    lcL2 vs vs1 tgt tst fi1 tgt1 (M.ret true) elt (xs.map k) acc ps = some (acc ++ (xs.filter p).flatMap (fun x => (ys x).map (g x)), ps)
  | [], acc, _, _ => by
    show some (acc, ps) = _
    rw [List.filter_nil, List.flatMap_nil, List.append_nil]
  | x :: xs, acc, hl, h => by
    obtain ⟨q1, q2, e1, e2, hf, ht⟩ := h x (by simp)
    rw [List.map_cons]
    unfold lcL2
    rw [e1, Option.bind_some, e2, Option.bind_some]
    have h' : ∀ z ∈ xs, _ := fun z hz => h z (List.mem_cons_of_mem _ hz)
    cases hp : p x with
    | false =>
      rw [List.filter_cons_of_neg (by simp [hp])] at hl ⊢
      show lcL2 vs vs1 tgt tst fi1 tgt1 (M.ret true) elt (xs.map k) acc (wipeP vs q2) = _
      rw [hf hp]
      exact lcL2_acc xs acc hl h'
    | true =>
      rw [List.filter_cons_of_pos hp] at hl ⊢
      rw [List.flatMap_cons, List.length_append, List.length_map] at hl
      obtain ⟨q3, e3, e4, e5⟩ := ht hp
      show (fi1 q2).bind _ = _
      rw [e3, Option.bind_some, lcL_acc (ys x) acc (by omega) e4, Option.bind_some]
      show lcL2 vs vs1 tgt tst fi1 tgt1 (M.ret true) elt (xs.map k) (acc ++ (ys x).map (g x)) (wipeP vs (wipeP vs1 q3)) = _
      rw [e5, lcL2_acc xs _ (by rw [List.length_append, List.length_map]; omega) h', List.flatMap_cons, List.append_assoc]
theorem lc2_eq {k : α → Dat} {k1 : β → Dat} {p : α → Bool} {ys : α → List β} {g : α → β → Dat} (xs : List α) (e : fi ps = some (xs.map k, ps1)) (hl : ((xs.filter p).flatMap fun x => (ys x).map (g x)).length ≤ 1000000)
    (h : ∀ x ∈ xs, ∃ q1 q2, tgt (k x) (wipeP vs ps1) = some q1 ∧ tst q1 = some (p x, q2) ∧ (p x = false → wipeP vs q2 = wipeP vs ps1) ∧ (p x = true → ∃ q3, fi1 q2 = some ((ys x).map k1, q3) ∧ (∀ y ∈ ys x, ∃ r1 r3, tgt1 (k1 y) (wipeP vs1 q3) = some r1 ∧ keepM elt r1 = some (g x y, r3) ∧ wipeP vs1 r3 = wipeP vs1 q3) ∧ wipeP vs (wipeP vs1 q3) = wipeP vs ps1)) :
    lcM2 vs vs1 fi tgt tst fi1 tgt1 (M.ret true) elt ps = some (.nw ((xs.filter p).flatMap fun x => (ys x).map (g x)), restP vs ps1 (wipeP vs ps1)) := by
  unfold lcM2
  rw [e, Option.bind_some]
  show (lcL2 vs vs1 tgt tst fi1 tgt1 (M.ret true) elt (xs.map k) [] (wipeP vs ps1)).bind _ = _
  rw [lcL2_acc xs [] (by simpa using hl) h]
  rfl
end
/-! ### all forms -/
section
variable {n : Nat} {dr : Dr}
def mkF (n i j : Nat) : Fm := ⟨i + 1, j, n / (i + 1)⟩
def FS (n : Nat) : List Fm := ((List.range n).filter fun i => decide (n % (i + 1) = 0)).flatMap fun i => (List.range (n / (i + 1))).map (mkF n i)
theorem mem_FS {f : Fm} (h0 : 0 < n) : f ∈ FS n ↔ f.Ok ∧ f.n = n := by
  unfold FS
  constructor
  · intro h
    obtain ⟨i, hi, hq⟩ := List.mem_flatMap.mp h
    obtain ⟨j, hj, rfl⟩ := List.mem_map.mp hq
    obtain ⟨hi, hm⟩ := List.mem_filter.mp hi
    have hi := List.mem_range.mp hi
    have hj := List.mem_range.mp hj
    have hm : n % (i + 1) = 0 := of_decide_eq_true hm
    refine ⟨⟨Nat.succ_pos _, ?_, hj⟩, Nat.mul_div_cancel' (Nat.dvd_of_mod_eq_zero hm)⟩
    show 0 < n / (i + 1)
    omega
  · rintro ⟨⟨h1, h2, h3⟩, h4⟩
    obtain ⟨k, s, d⟩ := f
    have h1 : 0 < k := h1
    have h2 : 0 < d := h2
    have h3 : s < d := h3
    have h4 : k * d = n := h4
    have hk : k ≤ n := by rw [← h4]; exact Nat.le_mul_of_pos_right _ h2
    have e : n / (k - 1 + 1) = d := by rw [Nat.sub_add_cancel h1, ← h4, Nat.mul_div_cancel_left _ h1]
    refine List.mem_flatMap.mpr ⟨k - 1, List.mem_filter.mpr ⟨List.mem_range.mpr (by omega), decide_eq_true ?_⟩, List.mem_map.mpr ⟨s, List.mem_range.mpr (by rw [e]; exact h3), ?_⟩⟩
    · rw [Nat.sub_add_cancel h1, ← h4]
      exact Nat.mul_mod_right _ _
    · unfold mkF
      rw [e, Nat.sub_add_cancel h1]
theorem FS_len : (FS n).length ≤ n * n := by
  unfold FS
  have g : ∀ l : List Nat, (l.flatMap fun i => (List.range (n / (i + 1))).map (mkF n i)).length ≤ l.length * n := by
    intro l
    induction l with
    | nil => simp
    | cons x l ih =>
      rw [List.flatMap_cons, List.length_append, List.length_map, List.length_range, List.length_cons, Nat.succ_mul]
      have := Nat.div_le_self n (x + 1)
      omega
  refine Nat.le_trans (g _) (Nat.mul_le_mul_right _ ?_)
  exact Nat.le_trans (List.length_filter_le _ _) (by simp)
theorem forms_prog_ok (h0 : 0 < n) (hn : n ≤ 100) : fn_forms [.int (n : Int)] dr = some (.nw ((FS n).map f3), dr) := by
  have hb1 : b62 1 = true := by decide
  have hbn : b62 ((n : Int) + 1) = true := b62_nat (n := n + 1) (by omega)
  have hrg : rgD 1 n = (List.range n).map fun i : Nat => PyData.int ((i + 1 : Nat) : Int) := by
    rw [rgD_z]
    unfold zL
    rw [List.map_map]
    refine List.map_congr_left fun i _ => ?_
    show PyData.int (1 + (i : Int)) = PyData.int ((i + 1 : Nat) : Int)
    congr 1
    omega
  have hlen := FS_len (n := n)
  have hnn : n * n ≤ 100 * 100 := Nat.mul_le_mul hn hn
  have eF : (((List.range n).filter fun i => decide (n % (i + 1) = 0)).flatMap fun i => (List.range (n / (i + 1))).map fun j => f3 (mkF n i j)) = (FS n).map f3 := by
    unfold FS
    rw [List.map_flatMap]
    congr 1
    funext i
    rw [List.map_map]
    rfl
  have c1 := lc2_eq (vs := [1, 2]) (vs1 := [2]) (fi := rng2 (consM (kst (.int 1)) (consM (opM addD (rdV 0) (kst (.int 1))) (M.ret [])))) (tgt := nmT 1) (tst := tstM (opM eqD (opM modD (rdV 0) (rdV 1)) (kst (.int 0)))) (fi1 := rng1 (consM (opM fdivD (rdV 0) (rdV 1)) (M.ret []))) (tgt1 := nmT 2) (elt := tupM (consM (rdV 1) (consM (rdV 2) (consM (opM fdivD (rdV 0) (rdV 1)) (M.ret []))))) (ps := ⟨[.fr (.int (n : Int)), .un, .un], dr⟩) (ps1 := ⟨[.fr (.int (n : Int)), .un, .un], dr⟩)
    (k := fun i : Nat => PyData.int ((i + 1 : Nat) : Int)) (k1 := fun j : Nat => PyData.int (j : Int)) (p := fun i => decide (n % (i + 1) = 0)) (ys := fun i => List.range (n / (i + 1))) (g := fun i j => f3 (mkF n i j)) (List.range n) (by simp [hb1, hbn, hrg]) (by rw [eF, List.length_map]; omega) (fun i hi => by
    have hi := List.mem_range.mp hi
    have m1 : modD (.int (n : Int)) (.int ((i + 1 : Nat) : Int)) = some (.im (.int ((n % (i + 1) : Nat) : Int))) := mod_nat (by omega)
    have m2 : fdivD (.int (n : Int)) (.int ((i + 1 : Nat) : Int)) = some (.im (.int ((n / (i + 1) : Nat) : Int))) := by
      rw [fdiv_posI (by omega) (by omega)]
      norm_cast
    have hle := Nat.div_le_self n (i + 1)
    have mk : ∀ j, f3 (mkF n i j) = .tuple [.int ((i + 1 : Nat) : Int), .int (j : Int), .int ((n / (i + 1) : Nat) : Int)] := fun j => rfl
    obtain ⟨y, hy⟩ : ∃ y, y = i + 1 := ⟨_, rfl⟩
    obtain ⟨R, hR⟩ : ∃ R, R = n % (i + 1) := ⟨_, rfl⟩
    obtain ⟨Q, hQ⟩ : ∃ Q, Q = n / (i + 1) := ⟨_, rfl⟩
    simp only [← hQ, ← hR] at m1 m2 mk hle ⊢
    rw [← hy] at m1 m2 mk ⊢
    have hbq := b62_nat (n := Q) (by omega)
    refine ⟨⟨[.fr (.int (n : Int)), .fr (.int (y : Int)), .un], dr⟩, ⟨[.fr (.int (n : Int)), .fr (.int (y : Int)), .un], dr⟩, by simp, by simp [m1, qe_int], fun _ => by simp, fun _ => ⟨⟨[.fr (.int (n : Int)), .fr (.int (y : Int)), .un], dr⟩, by simp [m2, hbq, rgD_nat]; rfl, fun j _ => ⟨⟨[.fr (.int (n : Int)), .fr (.int (y : Int)), .fr (.int (j : Int))], dr⟩, ⟨[.fr (.int (n : Int)), .fr (.int (y : Int)), .fr (.int (j : Int))], dr⟩, by simp, by simp [m2, line_of, mk], by simp⟩, by simp⟩⟩)
  rw [eF] at c1
  refine cv_det (c_body ?_)
  refine w_det (o := .rt (.nw ((FS n).map f3)) ⟨[.fr (.int (n : Int)), .un, .un], dr⟩) ?_ ⟨rfl, rfl⟩
  show (retM _) ⟨[.fr (.int (n : Int)), .un, .un], dr⟩ = _
  rw [e_ret, c1]
  rfl
end
end LK

namespace LK
open PySem PySem.Spec PyProof.Rows L2 MP
section
variable {b : Bool} {f : Fm} {r sh : Nat} {z : Int}
theorem sp_N (hf : f.Ok) : sp true f r z = f.s := by
  have h := sp_cast (b := true) (f := f) (r := r) (z := z) hf.2.1
  have e1 : sgk true f.k = 1 := if_pos (.inl rfl)
  have e2 : sgk true r = 1 := if_pos (.inl rfl)
  have h3 := hf.2.2
  rw [e1, e2, show z - (1 * z - 1 * (f.s : Int)) = (f.s : Int) by omega, Int.emod_eq_of_lt (by omega) (by omega)] at h
  omega
theorem sp_even (hf : f.Ok) (hk : f.k % 2 = 0) : sp false f r z = if r % 2 = 0 then f.s else nw f := by
  have h := sp_cast (b := false) (f := f) (r := r) (z := z) hf.2.1
  have e1 : sgk false f.k = 1 := if_pos (.inr hk)
  have h3 := hf.2.2
  rw [e1] at h
  by_cases hr : r % 2 = 0
  · have e2 : sgk false r = 1 := if_pos (.inr hr)
    rw [e2, show z - (1 * z - 1 * (f.s : Int)) = (f.s : Int) by omega, Int.emod_eq_of_lt (by omega) (by omega)] at h
    rw [if_pos hr]
    omega
  · have e2 : sgk false r = -1 := if_neg (by simp [hr])
    rw [e2, show z - (1 * z - -1 * (f.s : Int)) = -(f.s : Int) by omega, nw_cast hf.2.1] at h
    rw [if_neg hr]
    omega
theorem sp_odd (hf : f.Ok) (hk : f.k % 2 = 1) : ((sp false f r z : Nat) : Int) = (2 * z + sgk false r * f.s) % (f.d : Int) := by
  have h := sp_cast (b := false) (f := f) (r := r) (z := z) hf.2.1
  have e1 : sgk false f.k = -1 := if_neg (by simp; omega)
  rw [e1] at h
  rw [h]
  congr 1
  generalize sgk false r * (f.s : Int) = c
  omega
theorem sp_mod (hf : f.Ok) : sp b f r (z % (f.d : Int)) = sp b f r z := by
  have hd := hf.2.1
  obtain ⟨q, hq⟩ : ∃ q, q = z / (f.d : Int) := ⟨_, rfl⟩
  have hz : z % (f.d : Int) = z - (f.d : Int) * q := by rw [hq, Int.emod_def]
  unfold sp
  congr 1
  rw [hz]
  refine Int.emod_eq_emod_iff_emod_sub_eq_zero.mpr (Int.emod_eq_zero_of_dvd ⟨sgk b f.k * q - q, ?_⟩)
  rw [Int.mul_sub, Int.mul_sub, Int.mul_left_comm]
  generalize sgk b f.k * z = A
  generalize (f.d : Int) * q = B
  generalize (f.d : Int) * (sgk b f.k * q) = C
  generalize sgk b r * (f.s : Int) = D
  generalize hBC : sgk b f.k * B = E
  omega
/-- each row and each place is a sheet -/
theorem sheet (hf : f.Ok) (hr : r < f.k) : ∃ sh, sh < f.n ∧ seen b f sh = ⟨f.k, sp b f r z, f.d⟩ := by
  have hd := hf.2.1
  refine ⟨pt f.d r z, pt_lt hd hr, ?_⟩
  unfold seen
  rw [pt_div hd, pt_modI hd, sp_mod hf]
theorem sheet_of (hf : f.Ok) (hs : sh < f.n) : ∃ r z, r < f.k ∧ seen b f sh = ⟨f.k, sp b f r z, f.d⟩ := ⟨_, _, div_lt hf.2.1 hs, rfl⟩
theorem odd_mod (hf : f.Ok) (hd2 : f.d % 2 = 0) {w : Int} : (w % (f.d : Int)) % 2 = w % 2 := Int.emod_emod_of_dvd w (by
  obtain ⟨q, hq⟩ := Nat.dvd_of_mod_eq_zero hd2
  exact ⟨(q : Int), by rw [hq]; push_cast; rfl⟩)
theorem sgk_par {c : Nat} : (sgk false r * (c : Int)) % 2 = (c : Int) % 2 := by
  unfold sgk
  split <;> omega
/-- the least shift that is seen -/
theorem ls_min (hf : f.Ok) (hs : sh < f.n) : (least b f).s ≤ (seen b f sh).s := by
  obtain ⟨r, z, hr, e⟩ := sheet_of (b := b) hf hs
  rw [e]
  show ls b f ≤ sp b f r z
  cases b with
  | true => rw [sp_N hf]; exact Nat.le_refl _
  | false =>
    rcases Nat.mod_two_eq_zero_or_one f.k with hk | hk
    · rw [sp_even hf hk]
      unfold ls
      rw [if_neg Bool.false_ne_true, if_neg (by omega)]
      split <;> split <;> omega
    · unfold ls
      rw [if_neg Bool.false_ne_true, if_pos hk]
      split
      · rename_i hd
        have h := sp_odd (r := r) (z := z) hf hk
        have h2 := odd_mod hf hd (w := 2 * z + sgk false r * f.s)
        rw [← h] at h2
        have h3 := sgk_par (r := r) (c := f.s)
        omega
      · exact Nat.zero_le _
theorem ls_seen (hf : f.Ok) : ∃ sh, sh < f.n ∧ seen b f sh = least b f := by
  suffices h : ∃ r z, r < f.k ∧ sp b f r z = ls b f by
    obtain ⟨r, z, hr, e⟩ := h
    obtain ⟨sh, h1, h2⟩ := sheet (b := b) (z := z) hf hr
    exact ⟨sh, h1, by rw [h2, e]; rfl⟩
  have hk0 := hf.1
  have hd := hf.2.1
  have hsd := hf.2.2
  cases b with
  | true => exact ⟨0, 0, hk0, sp_N hf⟩
  | false =>
    rcases Nat.mod_two_eq_zero_or_one f.k with hk | hk
    · have e : ls false f = if nw f < f.s then nw f else f.s := by
        unfold ls
        rw [if_neg Bool.false_ne_true, if_neg (by omega)]
      rw [e]
      by_cases h : nw f < f.s
      · exact ⟨1, 0, by omega, by rw [sp_even hf hk, if_pos h, if_neg (by decide)]⟩
      · exact ⟨0, 0, hk0, by rw [sp_even hf hk, if_neg h, if_pos rfl]⟩
    · unfold ls
      rw [if_neg Bool.false_ne_true, if_pos hk]
      rcases Nat.mod_two_eq_zero_or_one f.d with hd2 | hd2
      · rw [if_pos hd2]
        refine ⟨0, -((f.s / 2 : Nat) : Int), hk0, ?_⟩
        have h := sp_odd (r := 0) (z := -((f.s / 2 : Nat) : Int)) hf hk
        rw [sgk_zero, show 2 * -((f.s / 2 : Nat) : Int) + 1 * (f.s : Int) = ((f.s % 2 : Nat) : Int) by omega, Int.emod_eq_of_lt (by omega) (by omega)] at h
        omega
      · rw [if_neg (by omega)]
        refine ⟨0, -((f.s : Int) * (((f.d + 1) / 2 : Nat) : Int)), hk0, ?_⟩
        have h := sp_odd (r := 0) (z := -((f.s : Int) * (((f.d + 1) / 2 : Nat) : Int))) hf hk
        obtain ⟨m, hm⟩ : ∃ m, m = (f.d + 1) / 2 := ⟨_, rfl⟩
        have hm2 : (f.d : Int) + 1 = 2 * (m : Int) := by omega
        rw [← hm] at h ⊢
        have e : 2 * -((f.s : Int) * (m : Int)) + sgk false 0 * (f.s : Int) = (f.d : Int) * -(f.s : Int) := by
          rw [sgk_zero, Int.one_mul, Int.mul_neg, Int.mul_neg, Int.mul_left_comm, ← hm2, Int.mul_add, Int.mul_one, Int.mul_comm]
          omega
        rw [e, Int.mul_emod_right] at h
        omega
/-- all sheets see the same -/
theorem reg_iff (hf : f.Ok) : reg b f = true ↔ ∀ sh sh', sh < f.n → sh' < f.n → seen b f sh = seen b f sh' := by
  have hk0 := hf.1
  have hd := hf.2.1
  have hsd := hf.2.2
  have key : (∀ sh sh', sh < f.n → sh' < f.n → seen b f sh = seen b f sh') ↔ ∀ r r' z z', r < f.k → r' < f.k → sp b f r z = sp b f r' z' := by
    constructor
    · intro h r r' z z' hr hr'
      obtain ⟨s1, h1, e1⟩ := sheet (b := b) (z := z) hf hr
      obtain ⟨s2, h2, e2⟩ := sheet (b := b) (z := z') hf hr'
      have := h s1 s2 h1 h2
      rw [e1, e2] at this
      exact (Fm.mk.inj this).2.1
    · intro h s1 s2 h1 h2
      obtain ⟨r, z, hr, e1⟩ := sheet_of (b := b) hf h1
      obtain ⟨r', z', hr', e2⟩ := sheet_of (b := b) hf h2
      rw [e1, e2, h r r' z z' hr hr']
  rw [key]
  cases b with
  | true =>
    refine ⟨fun _ r r' z z' _ _ => by rw [sp_N hf, sp_N hf], fun _ => rfl⟩
  | false =>
    unfold reg
    rw [if_neg Bool.false_ne_true]
    rcases Nat.mod_two_eq_zero_or_one f.k with hk | hk
    · rw [if_neg (by omega), decide_eq_true_iff]
      have nwv : nw f = f.s ↔ 2 * f.s % f.d = 0 := by
        have h := nw_cast (f := f) hd
        have e : ((2 * f.s % f.d : Nat) : Int) = (2 * (f.s : Int)) % (f.d : Int) := by push_cast; rfl
        constructor
        · intro h1
          rw [h1] at h
          have h2 : (f.d : Int) ∣ -(f.s : Int) - (f.s : Int) := Int.dvd_of_emod_eq_zero (by
            have h3 : (-(f.s : Int)) % (f.d : Int) = (f.s : Int) % (f.d : Int) := by rw [h, Int.emod_eq_of_lt (by omega) (by omega)]
            exact Int.emod_eq_emod_iff_emod_sub_eq_zero.mp h3)
          have h4 : (f.d : Int) ∣ 2 * (f.s : Int) := by
            have := Int.dvd_neg.mpr h2
            rw [show -(-(f.s : Int) - (f.s : Int)) = 2 * (f.s : Int) by omega] at this
            exact this
          have := Int.emod_eq_zero_of_dvd h4
          omega
        · intro h1
          have h4 : (f.d : Int) ∣ 2 * (f.s : Int) := Int.dvd_of_emod_eq_zero (by omega)
          have h2 : (f.d : Int) ∣ -(f.s : Int) - (f.s : Int) := by
            have := Int.dvd_neg.mpr h4
            rw [show -(2 * (f.s : Int)) = -(f.s : Int) - (f.s : Int) by omega] at this
            exact this
          have h3 : (-(f.s : Int)) % (f.d : Int) = (f.s : Int) % (f.d : Int) := Int.emod_eq_emod_iff_emod_sub_eq_zero.mpr (Int.emod_eq_zero_of_dvd h2)
          rw [h, Int.emod_eq_of_lt (by omega) (by omega)] at h3
          omega
      rw [← nwv]
      constructor
      · intro h r r' z z' _ _
        rw [sp_even hf hk, sp_even hf hk, h]
        split <;> split <;> rfl
      · intro h
        have := h 1 0 0 0 (by omega) hk0
        rw [sp_even hf hk, sp_even hf hk, if_neg (by decide), if_pos rfl] at this
        exact this
    · rw [if_pos hk, decide_eq_true_iff]
      constructor
      · intro h r r' z z' _ _
        have l1 := sp_lt (b := false) (r := r) (z := z) hd
        have l2 := sp_lt (b := false) (r := r') (z := z') hd
        by_cases h1 : f.d = 1
        · omega
        · have h2 : f.d = 2 := by omega
          have a1 := sp_odd (r := r) (z := z) hf hk
          have a2 := sp_odd (r := r') (z := z') hf hk
          have p1 := sgk_par (r := r) (c := f.s)
          have p2 := sgk_par (r := r') (c := f.s)
          rw [h2] at a1 a2
          have c2 : ((2 : Nat) : Int) = 2 := rfl
          rw [c2] at a1 a2
          omega
      · intro h
        have := h 0 0 0 1 hk0 hk0
        have a1 := sp_odd (r := 0) (z := 0) hf hk
        have a2 := sp_odd (r := 0) (z := 1) hf hk
        rw [this, a2, sgk_zero] at a1
        have h2 := Int.dvd_of_emod_eq_zero (Int.emod_eq_emod_iff_emod_sub_eq_zero.mp a1)
        rw [show 2 * (1 : Int) + 1 * (f.s : Int) - (2 * 0 + 1 * (f.s : Int)) = 2 by omega] at h2
        have := Int.le_of_dvd (by decide) h2
        omega
end
end LK

namespace LK
open PySem PySem.Spec PyProof.Rows L2 MP
def row3 (f : Fm) : List Int := [(f.k : Int), (f.s : Int), (f.d : Int)]
theorem f3_row (f : Fm) : f3 f = rowD (row3 f) := rfl
theorem row3_inj {f g : Fm} : row3 f = row3 g ↔ f = g := by
  constructor
  · intro h
    obtain ⟨a, b, c⟩ := f
    obtain ⟨a', b', c'⟩ := g
    unfold row3 at h
    simp only [List.cons.injEq, and_true, Int.natCast_inj] at h
    obtain ⟨h1, h2, h3⟩ := h
    have h1 : a = a' := h1
    have h2 : b = b' := h2
    have h3 : c = c' := h3
    rw [h1, h2, h3]
  · intro h; rw [h]
theorem shd_f3 (f : Fm) : shd 1 (f3 f) := shd_tuple (n := 0) fun d hd => by
  rcases List.mem_cons.mp hd with rfl | hd
  · exact shd_int
  · rcases List.mem_cons.mp hd with rfl | hd
    · exact shd_int
    · rw [List.mem_singleton.mp hd]
      exact shd_int
theorem alike_f3 (f g : Fm) : PySem.W.alike (f3 f) (f3 g) = true := by
  show PySem.W.alike (.tuple [.int _, .int _, .int _]) (.tuple [.int _, .int _, .int _]) = true
  simp [PySem.W.alike, PySem.W.alikeAll]
theorem lt_f3 {f g : Fm} (hk : f.k = g.k) (hd : f.d = g.d) : PySem.W.dataLt (f3 f) (f3 g) = decide (f.s < g.s) := by
  have ai : ∀ a b : Int, PySem.W.alike (.int a) (.int b) = true := fun a b => by simp [PySem.W.alike]
  show PySem.W.dataLt (.tuple [.int (f.k : Int), .int (f.s : Int), .int (f.d : Int)]) (.tuple [.int (g.k : Int), .int (g.s : Int), .int (g.d : Int)]) = _
  have ev : ∀ a b : Int, PyData.eqv (.int a) (.int b) = decide (a = b) := fun a b => eqv_int
  rw [PySem.W.dataLt_tuple, PySem.W.dataLt_cons (ai _ _), PySem.W.dataLt_cons (ai _ _), PySem.W.dataLt_cons (ai _ _), PySem.W.dataLt_int, PySem.W.dataLt_int, PySem.W.dataLt_int, ev, ev, ev, hk, hd]
  have irr : PyProof.Rows.lexLt itemOrd (PySem.W.keyToksAll []) (PySem.W.keyToksAll []) = false := lex_irrefl _
  rw [irr]
  by_cases h : f.s = g.s
  · have h2 : ¬ f.s < g.s := by omega
    simp [h]
  · have h1 : ¬ (f.s : Int) = (g.s : Int) := by omega
    simp [h1]
theorem min_go : ∀ (gs : List Fm) (g0 : Fm), (∀ g ∈ gs, g.k = g0.k ∧ g.d = g0.d) → ∃ m, PySem.W.minD (f3 g0) (gs.map f3) = f3 m ∧ m ∈ g0 :: gs ∧ ∀ g ∈ g0 :: gs, m.s ≤ g.s
  | [], g0, _ => ⟨g0, rfl, by simp, fun g hg => by rw [List.mem_singleton.mp hg]; exact Nat.le_refl _⟩
  | y :: ys, g0, h => by
    obtain ⟨h1, h2⟩ := h y (by simp)
    have e : PySem.W.minD (f3 g0) ((y :: ys).map f3) = PySem.W.minD (if PySem.W.dataLt (f3 y) (f3 g0) then f3 y else f3 g0) (ys.map f3) := rfl
    rw [e, lt_f3 h1 h2]
    by_cases hl : y.s < g0.s
    · rw [if_pos (decide_eq_true hl)]
      obtain ⟨m, e1, e2, e3⟩ := min_go ys y fun g hg => by
        obtain ⟨a, b⟩ := h g (List.mem_cons_of_mem _ hg)
        exact ⟨a.trans h1.symm, b.trans h2.symm⟩
      refine ⟨m, e1, List.mem_cons_of_mem _ e2, fun g hg => ?_⟩
      rcases List.mem_cons.mp hg with rfl | hg
      · have := e3 y (by simp)
        omega
      · exact e3 g hg
    · rw [if_neg (by simpa using hl)]
      obtain ⟨m, e1, e2, e3⟩ := min_go ys g0 fun g hg => h g (List.mem_cons_of_mem _ hg)
      refine ⟨m, e1, ?_, fun g hg => ?_⟩
      · rcases List.mem_cons.mp e2 with rfl | e2
        · simp
        · exact List.mem_cons_of_mem _ (List.mem_cons_of_mem _ e2)
      · rcases List.mem_cons.mp hg with rfl | hg
        · exact e3 _ (by simp)
        · rcases List.mem_cons.mp hg with rfl | hg
          · have := e3 g0 (by simp)
            omega
          · exact e3 g (List.mem_cons_of_mem _ hg)
theorem min_list {gs : List Fm} {m : Fm} (hm : m ∈ gs) (hs : ∀ g ∈ gs, g.k = m.k ∧ g.d = m.d ∧ m.s ≤ g.s) : minBD (.list (gs.map f3)) = some (.im (f3 m)) := by
  cases gs with
  | nil => cases hm
  | cons g0 gs =>
    obtain ⟨k0, d0, _⟩ := hs g0 (by simp)
    obtain ⟨m', e1, e2, e3⟩ := min_go gs g0 fun g hg => by
      obtain ⟨a, b, _⟩ := hs g (List.mem_cons_of_mem _ hg)
      exact ⟨a.trans k0.symm, b.trans d0.symm⟩
    have e : m' = m := by
      obtain ⟨a, b, c⟩ := hs m' e2
      have := e3 m hm
      obtain ⟨x, y, z⟩ := m
      obtain ⟨x', y', z'⟩ := m'
      have a : x' = x := a
      have b : z' = z := b
      have c : y ≤ y' := c
      have this : y' ≤ y := this
      have d : y' = y := by omega
      rw [a, b, d]
    rw [e] at e1
    have sh : SeqAt.shaped (.list ((g0 :: gs).map f3)) = true := shd_ok (shd_list (n := 1) fun d hd => by
      obtain ⟨f, _, rfl⟩ := List.mem_map.mp hd
      exact shd_f3 f) (by decide)
    have al : alikeB ((g0 :: gs).map f3) = true := by
      unfold alikeB
      rw [Bool.and_eq_true]
      refine ⟨List.all_eq_true.mpr fun x hx => List.all_eq_true.mpr fun y hy => ?_, List.all_eq_true.mpr fun x hx => ?_⟩
      · obtain ⟨f, _, rfl⟩ := List.mem_map.mp hx
        obtain ⟨g, _, rfl⟩ := List.mem_map.mp hy
        exact alike_f3 f g
      · obtain ⟨f, _, rfl⟩ := List.mem_map.mp hx
        rfl
    show (if SeqAt.shaped (.list ((g0 :: gs).map f3)) && alikeB ((g0 :: gs).map f3) then some (RV.im (PySem.W.minD (f3 g0) (gs.map f3))) else none) = _
    rw [sh, al, Bool.and_self, if_pos rfl, e1]
theorem set_rows {gs : List Fm} (hl : gs.length < 64) (hb : ∀ g ∈ gs, g.k < 1000 ∧ g.s < 1000 ∧ g.d < 1000) : setRows (.list (gs.map f3)) = some (gs.map row3) ∧ Flat 3 (gs.map row3) := by
  have e : gs.map f3 = (gs.map row3).map rowD := by rw [List.map_map]; rfl
  have fl : Flat 3 (gs.map row3) := fun r hr => by
    obtain ⟨g, hg, rfl⟩ := List.mem_map.mp hr
    obtain ⟨a, b, c⟩ := hb g hg
    refine ⟨rfl, List.all_eq_true.mpr fun m hm => ?_⟩
    have : 0 ≤ m ∧ m.natAbs < 1000000 := by
      unfold row3 at hm
      simp only [List.mem_cons, List.not_mem_nil, or_false] at hm
      rcases hm with rfl | rfl | rfl <;> omega
    rw [decide_eq_true this.1, decide_eq_true this.2]
    rfl
  have hd : gs.map row3 ≠ [] → dlen (gs.map row3) = 3 := fun hne => by
    cases gs with
    | nil => exact absurd rfl hne
    | cons g gs => rfl
  have fb : MP.flatB (gs.map row3) = true := by
    unfold MP.flatB
    rw [Bool.and_eq_true, Bool.and_eq_true]
    refine ⟨⟨decide_eq_true (by rw [List.length_map]; exact hl), decide_eq_true ?_⟩, List.all_eq_true.mpr fun r hr => ?_⟩
    · by_cases z : gs.map row3 = []
      · rw [z]; decide
      · rw [hd z]; decide
    · have z : gs.map row3 ≠ [] := fun z => by rw [z] at hr; cases hr
      rw [hd z, decide_eq_true (fl r hr).1, (fl r hr).2]
      rfl
  refine ⟨?_, fl⟩
  unfold setRows
  rw [e]
  show (rows? ((gs.map row3).map rowD)).bind _ = _
  rw [rows_of, Option.bind_some, if_pos fb]
theorem sortC_one {rs : List (List Int)} (fl : Flat 3 rs) (hne : rs ≠ []) : (sortC rs).length = 1 ↔ ∀ x ∈ rs, ∀ y ∈ rs, x = y := by
  constructor
  · intro h x hx y hy
    obtain ⟨a, e⟩ := List.length_eq_one_iff.mp h
    have h1 := (mem_sortC fl).mpr hx
    have h2 := (mem_sortC fl).mpr hy
    rw [e] at h1 h2
    rw [List.mem_singleton.mp h1, List.mem_singleton.mp h2]
  · intro h
    obtain ⟨x, hx⟩ := List.exists_mem_of_ne_nil rs hne
    have h1 := (mem_sortC fl).mpr hx
    have asc := sortC_asc rs
    cases e : sortC rs with
    | nil => rw [e] at h1; cases h1
    | cons a l =>
      cases l with
      | nil => rfl
      | cons c l =>
        rw [e] at asc
        have lt := (List.pairwise_cons.mp asc).1 c (by simp)
        have ha := sortC_sub (rs := rs) (z := a) (by rw [e]; simp)
        have hc := sortC_sub (rs := rs) (z := c) (by rw [e]; simp)
        rw [h a ha c hc] at lt
        omega
end LK

namespace LK
open PySem PySem.Spec PyProof.Rows L2 MP
theorem FS_asc : ∀ n, n < 13 → ((FS n).map row3).Pairwise (fun a b => TS.code CB a < TS.code CB b) ∧ (FS n).length < 64 := by decide +kernel
section
variable {b : Bool} {f : Fm} {n : Nat} {dr : Dr}
theorem ls_lt (hf : f.Ok) : ls b f < f.d := by
  obtain ⟨sh, _, e⟩ := ls_seen (b := b) hf
  have h : (seen b f sh).s = ls b f := by rw [e]; rfl
  rw [← h]
  exact sp_lt hf.2.1
theorem least_mem (h0 : 0 < n) (h : f ∈ FS n) : least b f ∈ FS n := by
  obtain ⟨ok, e⟩ := (mem_FS h0).mp h
  exact (mem_FS h0).mpr ⟨⟨ok.1, ok.2.1, ls_lt ok⟩, e⟩
theorem nw_eq (hf : f.Ok) : nw f = if f.s = 0 then 0 else f.d - f.s := by
  have h := nw_cast (f := f) hf.2.1
  have hs := hf.2.2
  have hd := hf.2.1
  split
  · rename_i z
    rw [z] at h
    have h : (-((0 : Nat) : Int)) % (f.d : Int) = (nw f : Int) := h
    rw [show -((0 : Nat) : Int) = 0 from rfl, Int.zero_emod] at h
    omega
  · rename_i z
    have e : (-(f.s : Int)) % (f.d : Int) = ((f.d - f.s : Nat) : Int) := by
      have h1 : (-(f.s : Int)) % (f.d : Int) = ((f.d - f.s : Nat) : Int) % (f.d : Int) := Int.emod_eq_emod_iff_emod_sub_eq_zero.mpr (Int.emod_eq_zero_of_dvd ⟨-1, by omega⟩)
      rw [h1, Int.emod_eq_of_lt (by omega) (by omega)]
    omega
theorem least_idem (hf : f.Ok) : least b (least b f) = least b f := by
  have hl := ls_lt (b := b) hf
  have e : ls b (least b f) = ls b f := by
    have ok2 : (least b f).Ok := ⟨hf.1, hf.2.1, hl⟩
    have n1 := nw_eq hf
    have n2 := nw_eq ok2
    have hs := hf.2.2
    have e1 : (least b f).s = ls b f := rfl
    have e2 : (least b f).k = f.k := rfl
    have e3 : (least b f).d = f.d := rfl
    rw [e1, e3] at n2
    have u : ls b (least b f) = if b then ls b f else if f.k % 2 = 1 then (if f.d % 2 = 0 then ls b f % 2 else 0) else (if nw (least b f) < ls b f then nw (least b f) else ls b f) := rfl
    rw [u]
    cases b with
    | true => rfl
    | false =>
      have v : ls false f = if f.k % 2 = 1 then (if f.d % 2 = 0 then f.s % 2 else 0) else (if nw f < f.s then nw f else f.s) := rfl
      generalize hL : ls false f = L at *
      generalize nw (least false f) = N at *
      generalize nw f = M at *
      rw [if_neg Bool.false_ne_true]
      by_cases hk : f.k % 2 = 1
      · rw [if_pos hk] at v ⊢
        by_cases hd : f.d % 2 = 0
        · rw [if_pos hd] at v ⊢
          omega
        · rw [if_neg hd] at v ⊢
          exact v.symm
      · rw [if_neg hk] at v ⊢
        by_cases h1 : M < f.s
        · rw [if_pos h1] at v
          by_cases h2 : f.s = 0
          · omega
          · rw [if_neg h2] at n1
            by_cases h3 : L = 0
            · omega
            · rw [if_neg h3] at n2
              rw [if_neg (by omega)]
        · rw [if_neg h1] at v
          by_cases h3 : L = 0
          · rw [if_pos h3] at n2
            rw [if_neg (by omega)]
          · rw [if_neg h3] at n2
            by_cases h2 : f.s = 0
            · omega
            · rw [if_neg h2] at n1
              rw [if_neg (by omega)]
  show (⟨f.k, ls b (least b f), f.d⟩ : Fm) = ⟨f.k, ls b f, f.d⟩
  rw [e]
def isL (b : Bool) (f : Fm) : Bool := decide (row3 (least b f) = row3 f)
theorem isL_iff : isL b f = true ↔ least b f = f := by
  unfold isL
  rw [decide_eq_true_iff, row3_inj]
theorem FS_bound (h0 : 0 < n) (h : f ∈ FS n) : f.k ≤ n ∧ f.s < n + 1 ∧ f.d ≤ n := by
  obtain ⟨ok, e⟩ := (mem_FS h0).mp h
  have h1 : f.k ≤ n := by rw [← e]; exact Nat.le_mul_of_pos_right _ ok.2.1
  have h2 : f.d ≤ n := by rw [← e]; exact Nat.le_mul_of_pos_left _ ok.1
  have := ok.2.2
  omega
theorem due_eq (h0 : 0 < n) (hn : n < 13) : sortSetD (.list ((FS n).map fun f => f3 (least b f))) = some (.nw (((FS n).filter (isL b)).map f3)) := by
  obtain ⟨asc, len⟩ := FS_asc n hn
  have e0 : ((FS n).map fun f => f3 (least b f)) = ((FS n).map (least b)).map f3 := by rw [List.map_map]; rfl
  obtain ⟨s1, fl⟩ := set_rows (gs := (FS n).map (least b)) (by rw [List.length_map]; exact len) fun g hg => by
    obtain ⟨f, hf, rfl⟩ := List.mem_map.mp hg
    have := FS_bound h0 (least_mem (b := b) h0 hf)
    omega
  have asc2 : ((FS n).filter (isL b)).Pairwise (fun f g => TS.code CB (row3 f) < TS.code CB (row3 g)) := (List.pairwise_map.mp asc).filter _
  have u : ((FS n).filter (isL b)).map row3 = sortC (((FS n).map (least b)).map row3) := sortC_uniq fl (fun z => by
    constructor
    · intro hz
      obtain ⟨f, hf, rfl⟩ := List.mem_map.mp hz
      obtain ⟨h1, h2⟩ := List.mem_filter.mp hf
      exact List.mem_map.mpr ⟨least b f, List.mem_map.mpr ⟨f, h1, rfl⟩, by rw [isL_iff.mp h2]⟩
    · intro hz
      obtain ⟨g, hg, rfl⟩ := List.mem_map.mp hz
      obtain ⟨f, hf, rfl⟩ := List.mem_map.mp hg
      exact List.mem_map.mpr ⟨least b f, List.mem_filter.mpr ⟨least_mem h0 hf, isL_iff.mpr (least_idem ((mem_FS h0).mp hf).1)⟩, rfl⟩)
    (List.pairwise_map.mpr (asc2.imp fun {f g} h e => by rw [e] at h; omega)) (List.pairwise_map.mpr (asc2.imp fun {f g} h => by omega))
  unfold sortSetD
  rw [e0, s1, Option.bind_some, ← u, List.map_map]
  rfl
theorem eqD_f3 {f g : Fm} : eqD (f3 f) (f3 g) = some (.im (.bool (decide (row3 f = row3 g)))) := by
  rw [eqD_sh (shd_f3 f) (shd_f3 g) (by decide) (by decide)]
  have : PyData.eqv (f3 f) (f3 g) = decide (row3 f = row3 g) := eqv_zT (xs := row3 f) (ys := row3 g)
  rw [this]
theorem neD_f3 {f : Fm} : neD (f3 f) (f3 f) = some (.im (.bool false)) := qn_self (shd_f3 f) (by decide)
theorem classes_ok (h0 : 0 < n) (hn : n ≤ 100) : fn_classes [bD b, .int (n : Int)] dr = some (.nw (((FS n).filter (isL b)).map f3), dr) := by
  have fp := forms_prog_ok (dr := dr) h0 hn
  have hlen := FS_len (n := n)
  have hnn : n * n ≤ 100 * 100 := Nat.mul_le_mul hn hn
  have c1 := lc_eq (vs := [2]) (fi := seqIt (callM fn_forms (consM (rdV 1) (M.ret [])))) (tgt := nmT 2) (tst := tstM (opM eqD (callM fn_least_form (consM (rdV 0) (consM (rdV 2) (M.ret [])))) (rdV 2))) (elt := rdV 2) (ps := ⟨[.fr (bD b), .fr (.int (n : Int)), .un], dr⟩) (ps1 := ⟨[.fr (bD b), .fr (.int (n : Int)), .un], dr⟩) f3 (FS n) (by simp [fp]) (by omega) (isL b) f3 (fun f hf => by
    have le := least_ok (b := b) (dr := dr) ((mem_FS h0).mp hf).1
    exact ⟨⟨[.fr (bD b), .fr (.int (n : Int)), .fr (f3 f)], dr⟩, ⟨[.fr (bD b), .fr (.int (n : Int)), .fr (f3 f)], dr⟩, by simp, by simp [le, eqD_f3, isL], fun _ => by simp, fun _ => ⟨⟨[.fr (bD b), .fr (.int (n : Int)), .fr (f3 f)], dr⟩, by simp, by simp⟩⟩)
  refine cv_det (c_body ?_)
  refine w_det (o := .rt (.nw (((FS n).filter (isL b)).map f3)) ⟨[.fr (bD b), .fr (.int (n : Int)), .un], dr⟩) ?_ ⟨rfl, rfl⟩
  show (retM _) ⟨[.fr (bD b), .fr (.int (n : Int)), .un], dr⟩ = _
  rw [e_ret, c1]
  rfl
end
end LK

namespace LK
open PySem PySem.Spec PyProof.Rows L2 MP
section
variable {n : Nat} {dr : Dr}
def GF (n i : Nat) : List Fm := if n % (i + 1) = 0 then (List.range (n / (i + 1))).map (mkF n i) else []
def GH (n i m : Nat) : List Fm := if n % (i + 1) = 0 then (List.range (min m (n / (i + 1)))).map (mkF n i) else []
theorem GF_eq : ∀ l : List Nat, (l.flatMap (GF n)) = (l.filter fun i => decide (n % (i + 1) = 0)).flatMap fun i => (List.range (n / (i + 1))).map (mkF n i)
  | [] => rfl
  | i :: l => by
    rw [List.flatMap_cons, GF_eq l]
    unfold GF
    by_cases h : n % (i + 1) = 0
    · rw [if_pos h, List.filter_cons_of_pos (p := fun i => decide (n % (i + 1) = 0)) (decide_eq_true h), List.flatMap_cons]
    · rw [if_neg h, List.filter_cons_of_neg (p := fun i => decide (n % (i + 1) = 0)) (by simp [h])]
      rfl
theorem GH_succ {i m : Nat} (h1 : n % (i + 1) = 0) (h2 : m < n / (i + 1)) : GH n i (m + 1) = GH n i m ++ [mkF n i m] := by
  unfold GH
  rw [if_pos h1, if_pos h1, show min (m + 1) (n / (i + 1)) = m + 1 by omega, show min m (n / (i + 1)) = m by omega, List.range_succ, List.map_append]
  rfl
theorem GH_same {i m : Nat} (h : ¬ (n % (i + 1) = 0 ∧ m < n / (i + 1))) : GH n i (m + 1) = GH n i m := by
  unfold GH
  by_cases h1 : n % (i + 1) = 0
  · have h2 : ¬ m < n / (i + 1) := fun z => h ⟨h1, z⟩
    rw [if_pos h1, if_pos h1, show min (m + 1) (n / (i + 1)) = n / (i + 1) by omega, show min m (n / (i + 1)) = n / (i + 1) by omega]
  · rw [if_neg h1, if_neg h1]
theorem GH_len {i m : Nat} : (GH n i m).length ≤ m := by
  unfold GH
  split
  · rw [List.length_map, List.length_range]
    omega
  · simp
theorem GF_len : ∀ l : List Nat, (l.flatMap (GF n)).length ≤ l.length * n
  | [] => by simp
  | i :: l => by
    rw [List.flatMap_cons, List.length_append, List.length_cons, Nat.succ_mul]
    have h1 := GF_len l
    have h2 : (GF n i).length ≤ n := by
      unfold GF
      split
      · rw [List.length_map, List.length_range]
        exact Nat.div_le_self _ _
      · simp
    omega
theorem law_forms_ok (h0 : 0 < n) (hn : n ≤ 100) : fn_law_forms [.int (n : Int)] dr = some (.nw ((FS n).map f3), dr) := by
  have hb1 : b62 ((n : Int) + 1) = true := b62_nat (n := n + 1) (by omega)
  have hbn := b62_nat (n := n) (by omega)
  have hrg : rgD 1 n = (List.range n).map fun i : Nat => PyData.int (1 + (i : Int)) := rfl
  refine cv_det (c_body ?_)
  refine w_nx (by simp [line_of]; rfl) ?_
  refine w_seq (w_for (fun i : Nat => PyData.int (1 + (i : Int))) (List.range n) (ps1 := ⟨[.fr (.int (n : Int)), .ow [], .un, .un], dr⟩) (by simp [hb1, hrg, show b62 1 = true by decide]) (fun pre q => ∃ (z w : Sl), q = ⟨[.fr (.int (n : Int)), .ow ((pre.flatMap (GF n)).map f3), z, w], dr⟩) ⟨_, _, rfl⟩ ?_ ?_)
  · rintro pre i post q hx ⟨z, w, rfl⟩
    obtain ⟨_, hi, hpi⟩ := range_split hx
    refine ⟨_, rfl, ?_⟩
    have m1 : modD (.int (n : Int)) (.int (1 + (i : Int))) = some (.im (.int ((n : Int) % (1 + (i : Int))))) := mod_posI (by omega)
    have m2 : fdivD (.int (n : Int)) (.int (1 + (i : Int))) = some (.im (.int ((n : Int) / (1 + (i : Int))))) := fdiv_posI (by omega) (by omega)
    have hpn : pre.length * n ≤ 100 * 100 := Nat.mul_le_mul (by omega) hn
    have hgl := GF_len (n := n) pre
    obtain ⟨fs, hfs⟩ : ∃ fs, fs = pre.flatMap (GF n) := ⟨_, rfl⟩
    rw [← hfs] at hgl ⊢
    have mkd : ∀ j, f3 (mkF n i j) = .tuple [.int ((i + 1 : Nat) : Int), .int (j : Int), .int ((n / (i + 1) : Nat) : Int)] := fun j => rfl
    have gs := fun m => GH_succ (n := n) (i := i) (m := m)
    have gm := fun m => GH_same (n := n) (i := i) (m := m)
    have gl := fun m => GH_len (n := n) (i := i) (m := m)
    have gf : GH n i n = GF n i := by
      unfold GH GF
      have := Nat.div_le_self n (i + 1)
      rw [show min n (n / (i + 1)) = n / (i + 1) by omega]
    have g00 : GH n i 0 = [] := List.eq_nil_of_length_eq_zero (Nat.le_zero.mp (gl 0))
    obtain ⟨k, hk⟩ : ∃ k : Nat, k = i + 1 := ⟨_, rfl⟩
    have hki : (1 : Int) + (i : Int) = (k : Int) := by omega
    have hdk : ((n : Int) / (k : Int)) = ((n / k : Nat) : Int) := by norm_cast
    have hmk : ((n : Int) % (k : Int)) = ((n % k : Nat) : Int) := by norm_cast
    rw [hki] at m1 m2 ⊢
    rw [hmk] at m1
    rw [hdk] at m2
    obtain ⟨Q, hQ⟩ : ∃ Q, Q = n / k := ⟨_, rfl⟩
    obtain ⟨R, hR⟩ : ∃ R, R = n % k := ⟨_, rfl⟩
    simp only [← hk, ← hQ, ← hR] at m1 m2 mkd gs gm
    refine w_for (fun j : Nat => PyData.int (j : Int)) (List.range n) (ps1 := ⟨[.fr (.int (n : Int)), .ow (fs.map f3), .fr (.int (k : Int)), w], dr⟩) (by simp [hbn, rgD_nat]; rfl) (fun pre2 q => ∃ (w : Sl), q = ⟨[.fr (.int (n : Int)), .ow ((fs ++ GH n i pre2.length).map f3), .fr (.int (k : Int)), w], dr⟩) ⟨w, by rw [List.length_nil, g00, List.append_nil]⟩ ?_ ?_
    · rintro pre2 j post2 q hx2 ⟨w, rfl⟩
      obtain ⟨_, hj, hpj⟩ := range_split hx2
      rw [hpj]
      refine ⟨_, rfl, ?_⟩
      have el : (pre2 ++ [j]).length = j + 1 := by rw [List.length_append, hpj]; rfl
      have gj := gl j
      obtain ⟨acc, hacc⟩ : ∃ acc, acc = (fs ++ GH n i j).map f3 := ⟨_, rfl⟩
      have hlen : acc.length < sizeLine := sz_of (by rw [hacc, List.length_map, List.length_append]; omega)
      by_cases hc : R = 0 ∧ j < Q
      · obtain ⟨c1, c2⟩ := hc
        have c2' : (j : Int) < (Q : Int) := by omega
        refine w_det (o := .nx ⟨[.fr (.int (n : Int)), .ow (acc ++ [f3 (mkF n i j)]), .fr (.int (k : Int)), .fr (.int (j : Int))], dr⟩) ?_ ⟨.fr (.int (j : Int)), ?_⟩
        · rw [← hacc, mkd]
          simp only [nmT, PS.put, e_ite]
          simp [m1, m2, qe_int, c1, c2, c2', line_of, hlen]
        · rw [el, gs j c1 c2, ← List.append_assoc, List.map_append (l₁ := fs ++ GH n i j), hacc]
          rfl
      · refine w_det (o := .nx ⟨[.fr (.int (n : Int)), .ow acc, .fr (.int (k : Int)), .fr (.int (j : Int))], dr⟩) ?_ ⟨.fr (.int (j : Int)), ?_⟩
        · rw [← hacc]
          by_cases c1 : R = 0
          · have c2 : ¬ j < Q := fun z => hc ⟨c1, z⟩
            have c2' : ¬ (j : Int) < (Q : Int) := by omega
            simp [m1, m2, qe_int, c1, c2, c2']
          · have c1' : ¬ (R : Int) = 0 := by omega
            simp [m1, qe_int, c1, c1']
        · rw [el, gm j hc, hacc]
    · rintro q ⟨w, rfl⟩
      rw [List.length_range, gf]
      refine ⟨.fr (.int (k : Int)), w, ?_⟩
      rw [List.flatMap_append, ← hfs]
      simp
  · rintro q ⟨z, w, rfl⟩
    have e : (List.range n).flatMap (GF n) = FS n := GF_eq _
    rw [e]
    refine w_det (by simp; rfl) ?_
    exact ⟨rfl, rfl⟩
end
end LK

namespace LK
open PySem PySem.Spec PyProof.Rows L2 MP
section
variable {b : Bool} {f : Fm} {dr : Dr}
theorem found_min (hf : f.Ok) : minBD (.list ((List.range f.n).map fun sh => f3 (seen b f sh))) = some (.im (f3 (least b f))) := by
  have e : ((List.range f.n).map fun sh => f3 (seen b f sh)) = ((List.range f.n).map (seen b f)).map f3 := by rw [List.map_map]; rfl
  rw [e]
  obtain ⟨sh, h1, h2⟩ := ls_seen (b := b) hf
  refine min_list (List.mem_map.mpr ⟨sh, List.mem_range.mpr h1, h2⟩) fun g hg => ?_
  obtain ⟨s, hs, rfl⟩ := List.mem_map.mp hg
  exact ⟨rfl, rfl, ls_min hf (List.mem_range.mp hs)⟩
theorem found_set (hf : f.Ok) (hn : f.n < 64) : ∃ N : Nat, lenSetD (.list ((List.range f.n).map fun sh => f3 (seen b f sh))) = some (.im (.int (N : Int))) ∧ (N = 1 ↔ reg b f = true) := by
  have e : ((List.range f.n).map fun sh => f3 (seen b f sh)) = ((List.range f.n).map (seen b f)).map f3 := by rw [List.map_map]; rfl
  have h1 : f.k ≤ f.n := Nat.le_mul_of_pos_right _ hf.2.1
  have h2 : f.d ≤ f.n := Nat.le_mul_of_pos_left _ hf.1
  obtain ⟨s1, fl⟩ := set_rows (gs := (List.range f.n).map (seen b f)) (by simpa using hn) fun g hg => by
    obtain ⟨s, hs, rfl⟩ := List.mem_map.mp hg
    have h3 : (seen b f s).s < f.d := sp_lt hf.2.1
    have h4 : (seen b f s).k = f.k := rfl
    have h5 : (seen b f s).d = f.d := rfl
    omega
  have n0 := zero_lt hf
  have hne : ((List.range f.n).map (seen b f)).map row3 ≠ [] := fun z => by
    have := congrArg List.length z
    simp at this
    omega
  refine ⟨_, by unfold lenSetD; rw [e, s1, Option.bind_some], ?_⟩
  rw [sortC_one fl hne, reg_iff hf]
  constructor
  · intro h a c ha hc
    exact row3_inj.mp (h _ (List.mem_map.mpr ⟨_, List.mem_map.mpr ⟨a, List.mem_range.mpr ha, rfl⟩, rfl⟩) _ (List.mem_map.mpr ⟨_, List.mem_map.mpr ⟨c, List.mem_range.mpr hc, rfl⟩, rfl⟩))
  · intro h x hx y hy
    obtain ⟨g, hg, rfl⟩ := List.mem_map.mp hx
    obtain ⟨a, ha, rfl⟩ := List.mem_map.mp hg
    obtain ⟨g', hg', rfl⟩ := List.mem_map.mp hy
    obtain ⟨c, hc, rfl⟩ := List.mem_map.mp hg'
    rw [h a c (List.mem_range.mp ha) (List.mem_range.mp hc)]
end
def psM (b : Bool) (s3 s4 s5 s6 s7 s8 s9 s10 : Sl) (dr : Dr) : PS := ⟨[.un, .fr (.dict []), .fr (bD b), s3, s4, s5, s6, s7, s8, s9, s10], dr⟩
theorem main (ns : List Int) (hl : ns.length ≤ 63) : ∃ ps, b_law ⟨(List.replicate 11 Sl.un).set 1 (.fr (.dict [])), stateA ns⟩ = some (.rt (.im (.bool true)) ps) := by
  refine law_true ?_
  have hb4 : b62 4 = true := by decide
  have hr4 : rgD 0 4 = [0, 1, 2, 3].map (fun k : Nat => PyData.int (k : Int)) := rfl
  refine w_seq (w_for bD [true, false] (ps1 := ⟨[.un, .fr (.dict []), .un, .un, .un, .un, .un, .un, .un, .un, .un], stateA ns⟩) (by simp [line_of, bD]) (fun pre q => ∃ s2 s3 s4 s5 s6 s7 s8 s9 s10 d', q = ⟨[.un, .fr (.dict []), s2, s3, s4, s5, s6, s7, s8, s9, s10], d'⟩ ∧ isA d' ∧ keepSl (some s6) = s6) ⟨_, _, _, _, _, _, _, _, _, _, rfl, isA_state, rfl⟩ ?_ ?_)
  rotate_left
  · rintro q ⟨s2, s3, s4, s5, s6, s7, s8, s9, s10, d', rfl, hA, _⟩
    exact w_det (o := .rt (.im (.bool true)) ⟨[.un, .fr (.dict []), s2, s3, s4, s5, s6, s7, s8, s9, s10], d'⟩) (by simp) rfl
  rintro pre b post q hx ⟨s2, s3, s4, s5, s6, s7, s8, s9, s10, d0, rfl, hA0, k6⟩
  refine ⟨psM b s3 s4 s5 s6 s7 s8 s9 s10 d0, rfl, ?_⟩
  obtain ⟨r1, d1, e1, h1, hA1⟩ := draw_ok (m := 2) hA0 (by decide) (by decide)
  have e1' : drawA [.dict [], .int 2] d0 = some (.im (.int (r1 : Int)), d1) := e1
  obtain ⟨v, hv0, hv, ev⟩ : ∃ v : Nat, 0 < v ∧ v ≤ 24 ∧ atI [PyData.int 8, .int 24] (r1 : Int) = some (.int (v : Int)) := by
    rcases r1 with _ | _ | r1
    · exact ⟨8, by decide, by decide, rfl⟩
    · exact ⟨24, by decide, by decide, rfl⟩
    · omega
  obtain ⟨r2, d2, e2, h2, hA2⟩ := draw_ok (m := v) hA1 hv0 (by omega)
  obtain ⟨n, hn⟩ : ∃ n, n = r2 + 1 := ⟨_, rfl⟩
  have en : (1 : Int) + (r2 : Int) = (n : Int) := by omega
  have h0 : 0 < n := by omega
  refine w_nx (ps1 := psM b (.fr (.int (n : Int))) s4 s5 s6 s7 s8 s9 s10 d2) (by simp [psM, fn_law_draw, e1', line_of, ev, e2, en]) ?_
  have lf := law_forms_ok (dr := d2) h0 (show n ≤ 100 by omega)
  refine w_nx (ps1 := psM b (.fr (.int (n : Int))) (.ow ((FS n).map f3)) s5 s6 s7 s8 s9 s10 d2) (by simp [psM, lf]) ?_
  have FSp : 0 < (FS n).length := List.length_pos_of_mem ((mem_FS (f := ⟨1, 0, n⟩) h0).mpr ⟨⟨Nat.one_pos, h0, h0⟩, Nat.one_mul n⟩)
  have FSl := FS_len (n := n)
  have hnn : n * n ≤ 24 * 24 := Nat.mul_le_mul (by omega) (by omega)
  refine w_seq (w_for (fun k : Nat => .int (k : Int)) [0, 1, 2, 3] (ps1 := psM b (.fr (.int (n : Int))) (.ow ((FS n).map f3)) s5 s6 s7 s8 s9 s10 d2) (by simp [psM, hb4, hr4]) (fun pre q => ∃ s5 s6 s7 s8 d', q = psM b (.fr (.int (n : Int))) (.ow ((FS n).map f3)) s5 s6 s7 s8 s9 s10 d' ∧ isA d' ∧ keepSl (some s6) = s6) ⟨_, _, _, _, _, rfl, hA2, k6⟩ ?_ ?_)
  · rintro pre turn post q hx ⟨s5, s6, s7, s8, d3, rfl, hA3, k6⟩
    refine ⟨psM b (.fr (.int (n : Int))) (.ow ((FS n).map f3)) (.fr (.int (turn : Int))) s6 s7 s8 s9 s10 d3, rfl, ?_⟩
    obtain ⟨r4, d4, e4, h4, hA4⟩ := draw_ok (m := (FS n).length) hA3 FSp (by omega)
    obtain ⟨f, hf0⟩ : ∃ f, f = (FS n)[r4] := ⟨_, rfl⟩
    have hfm : f ∈ FS n := by rw [hf0]; exact List.getElem_mem h4
    obtain ⟨hf, hfn⟩ := (mem_FS h0).mp hfm
    have ga : atI ((FS n).map f3) (r4 : Int) = some (f3 f) := atI_nat (by rw [List.getElem?_map, List.getElem?_eq_getElem h4, ← hf0]; rfl)
    refine w_nx (ps1 := psM b (.fr (.int (n : Int))) (.ow ((FS n).map f3)) (.fr (.int (turn : Int))) (.fr (f3 f)) s7 s8 s9 s10 d4) (by simp [psM, fn_law_draw, e4, ga]) ?_
    have af := all_forms_ok (b := b) (dr := d4) hf (by omega)
    have fm := found_min (b := b) hf
    obtain ⟨N, fs, hN⟩ := found_set (b := b) hf (by omega)
    obtain ⟨FD, hFD⟩ : ∃ FD, FD = (List.range f.n).map fun sh => f3 (seen b f sh) := ⟨_, rfl⟩
    rw [← hFD] at af fm fs
    have lo := least_ok (b := b) (dr := d4) hf
    have ro := regular_ok (b := b) (dr := d4) hf
    have oo := of_form_ok (b := b) (dr := d4) hf (by omega)
    have so := steps_ok (b := b) (dr := d4) hf (by omega)
    have le := letters_ok (c := b) (dr := d4) (show f.n ≤ 100 by omega) (XL_ok (b := b) hf) (YL_ok hf)
    have nef := neD_f3 (f := least b f)
    refine w_nx (ps1 := psM b (.fr (.int (n : Int))) (.ow ((FS n).map f3)) (.fr (.int (turn : Int))) (.fr (f3 f)) (.ow FD) s8 s9 s10 d4) (by simp [psM, af]) ?_
    refine w_nx (ps1 := psM b (.fr (.int (n : Int))) (.ow ((FS n).map f3)) (.fr (.int (turn : Int))) (.fr (f3 f)) (.ow FD) s8 s9 s10 d4) (by simp [psM, lo, fm, nef]) ?_
    refine w_nx (ps1 := psM b (.fr (.int (n : Int))) (.ow ((FS n).map f3)) (.fr (.int (turn : Int))) (.fr (f3 f)) (.ow FD) (.fr (.bool (reg b f))) s9 s10 d4) (by simp [psM, ro]) ?_
    obtain ⟨A, hA⟩ : ∃ A, A = PyData.tuple (nL (L1 b (XL b f) (YL f))) := ⟨_, rfl⟩
    obtain ⟨B, hB⟩ : ∃ B, B = PyData.tuple (nL (L2' b f.n (XL b f) (YL f))) := ⟨_, rfl⟩
    have nA : neD A A = some (.im (.bool false)) := by
      rw [hA]
      exact qn_self (n := 1) (shd_tuple (n := 0) shd_nL) (by decide)
    rw [← hA, ← hB] at oo le
    have g0 : ∀ u v : Dat, atI [u, v] 0 = some u := fun u v => rfl
    have g1 : ∀ u v : Dat, atI [u, v] 1 = some v := fun u v => rfl
    have rg : decide (N = 1) = reg b f := by
      cases h : reg b f with
      | true => exact decide_eq_true (hN.mpr h)
      | false => exact decide_eq_false fun z => by have := hN.mp z; rw [h] at this; cases this
    have nb : neD (.bool (reg b f)) (.bool (decide (N = 1))) = some (.im (.bool false)) := by rw [rg, qn_bool]; simp
    have ib : isiD .bool (.bool (reg b f)) = some (.im (.bool true)) := rfl
    have q1 : eqD (.int (N : Int)) (.int 1) = some (.im (.bool (decide (N = 1)))) := by
      rw [qe_int]
      have : decide ((N : Int) = 1) = decide (N = 1) := decide_eq_decide.mpr (by omega)
      rw [this]
    exact w_det (o := .nx (psM b (.fr (.int (n : Int))) (.ow ((FS n).map f3)) (.fr (.int (turn : Int))) (.fr (f3 f)) (.ow FD) (.fr (.bool (reg b f))) s9 s10 d4)) (by simp [psM, ib, fs, q1, nb, oo, so, le, g0, g1, nA]) ⟨_, _, _, _, _, rfl, hA4, rfl⟩
  · rintro q ⟨s5, s6, s7, s8, d3, rfl, hA3, k6⟩
    obtain ⟨r4, d4, e4, h4, hA4⟩ := draw_ok (m := 12) hA3 (by decide) (by decide)
    have e4' : drawA [.dict [], .int 12] d3 = some (.im (.int (r4 : Int)), d4) := e4
    obtain ⟨m, hm⟩ : ∃ m, m = r4 + 1 := ⟨_, rfl⟩
    have em : (1 : Int) + (r4 : Int) = (m : Int) := by omega
    have m0 : 0 < m := by omega
    refine w_nx (ps1 := psM b (.fr (.int (n : Int))) (.ow ((FS n).map f3)) s5 s6 s7 s8 (.fr (.int (m : Int))) s10 d4) (by simp [psM, fn_law_draw, e4', em]) ?_
    have lf2 := law_forms_ok (dr := d4) m0 (show m ≤ 100 by omega)
    have FSl2 := FS_len (n := m)
    have hmm : m * m ≤ 12 * 12 := Nat.mul_le_mul (by omega) (by omega)
    have c1 := mp_eq (vs := [6]) (fi := seqIt (callM fn_law_forms (consM (rdV 9) (M.ret [])))) (tgt := nmT 6) (elt := unM minBD (callM fn_law_all_forms (consM (rdV 2) (consM (rdV 6) (M.ret []))))) (ps := psM b (.fr (.int (n : Int))) (.ow ((FS n).map f3)) s5 s6 s7 s8 (.fr (.int (m : Int))) s10 d4) (ps1 := psM b (.fr (.int (n : Int))) (.ow ((FS n).map f3)) s5 s6 s7 s8 (.fr (.int (m : Int))) s10 d4) f3 (FS m) (by simp [psM, lf2]) (by omega) (fun f => f3 (least b f)) (fun f hfm => by
      obtain ⟨hf, hfn⟩ := (mem_FS m0).mp hfm
      have af := all_forms_ok (b := b) (dr := d4) hf (by omega)
      have fm := found_min (b := b) hf
      obtain ⟨FD, hFD⟩ : ∃ FD, FD = (List.range f.n).map fun sh => f3 (seen b f sh) := ⟨_, rfl⟩
      rw [← hFD] at af fm
      exact ⟨psM b (.fr (.int (n : Int))) (.ow ((FS n).map f3)) s5 (.fr (f3 f)) s7 s8 (.fr (.int (m : Int))) s10 d4, psM b (.fr (.int (n : Int))) (.ow ((FS n).map f3)) s5 (.fr (f3 f)) s7 s8 (.fr (.int (m : Int))) s10 d4, by simp [psM], by simp [psM, af, fm], by simp [psM]⟩)
    have du := due_eq (b := b) m0 (show m < 13 by omega)
    have co := classes_ok (b := b) (dr := d4) m0 (show m ≤ 100 by omega)
    obtain ⟨DL, hDL⟩ : ∃ DL, DL = ((FS m).filter (isL b)).map f3 := ⟨_, rfl⟩
    have nD : neD (.list DL) (.list DL) = some (.im (.bool false)) := qn_self (n := 2) (shd_list (n := 1) fun d hd => by
      rw [hDL] at hd
      obtain ⟨f, _, rfl⟩ := List.mem_map.mp hd
      exact shd_f3 f) (by decide)
    rw [← hDL] at du co
    refine w_nx (ps1 := psM b (.fr (.int (n : Int))) (.ow ((FS n).map f3)) s5 s6 s7 s8 (.fr (.int (m : Int))) (.ow DL) d4) (by rw [e_set, e_un, c1]; simp [psM, du, k6]) ?_
    refine w_nx (ps1 := psM b (.fr (.int (n : Int))) (.ow ((FS n).map f3)) s5 s6 s7 (.ow DL) (.fr (.int (m : Int))) (.ow DL) d4) (by simp [psM, co]) ?_
    have il : isiD .list (.list DL) = some (.im (.bool true)) := rfl
    exact w_det (o := .nx (psM b (.fr (.int (n : Int))) (.ow ((FS n).map f3)) s5 s6 s7 (.ow DL) (.fr (.int (m : Int))) (.ow DL) d4)) (by simp [psM, il, nD]) ⟨_, _, _, _, _, _, _, _, _, _, rfl, hA4, k6⟩
end LK

namespace LK
open PySem PySem.Spec PyProof.Rows L2 MP
/-! ### the walk -/
section
variable {P : Program} {w : World} {K : Fg} {mg : Str → Option Value} {base : Heap}
theorem G_law_state (T : Txt K mg) : FnOk P w K mg base CX0 1 T.a_law_state T.d_law_state ["script"] (spState K) := by
  refine T.F_law_state.ok sc_law_state (fun vs H Q E h => ?_) (fun cdv A outer s H vs Q E hr h => ?_)
  · obtain ⟨a, ns, rfl, _⟩ := h
    rfl
  obtain ⟨a, ns, rfl, hS, hlen, q⟩ := h
  refine ⟨_, pss_cons (ps_set (i := 1) sc_law_state.nd rfl (.inl rfl) pe_int)
    (pss_cons (ps_for PassesOwn.never rfl (pi_list (pv 0)) (pg_name (i := 2) sc_law_state.nd rfl (.inl rfl))
      (pss_one (ps_set (i := 1) sc_law_state.nd rfl (.inl rfl) (pe_op op_modN (pe_callTy call_int1 (by rfl) T.z_int (by decide +kernel) (pa_cons (pe_op op_add (pe_op op_mul (pv 1) pe_int) (pv 2)) pa_nil)) pe_int))))
    (pss_one (ps_ret (pe_lst (pa_cons (pe_lc (own := [("cell", 2)]) (g := gName 2) (tt := tYes) rfl sc_law_state.nd (pi_list (pv 0)) (blkOk_by (N := ["script", "seed", "cell"]) (sc := defScope s_law_state) (by decide +kernel))
      (fun _ _ _ _ _ => pg_name (i := 2) sc_law_state.nd rfl (Or.inl rfl)) (fun _ _ _ _ _ => pts_nil) (fun _ _ _ _ _ => pe_callB call_abs (by rfl) T.z_abs (by decide +kernel) (pa_cons (pv 2) pa_nil)))
      (pa_cons (pe_op op_add (pv 1) pe_int) pa_nil)))))), ?_⟩
  refine ⟨_, rfl, a, rfl, ⟨_, hS⟩, for_list (K := K) (a := a) (xs := ns.map V.int) (fun i σ H' => H' = H ∧ ∃ y, σ = [some (.ref a), some (.int (seedA (ns.take i) 7)), y]) ⟨rfl, _, rfl⟩ (fun i σ H' _ h => by rw [h.1]; exact hS) ?_ ?_⟩
  · rintro i x σ H' hi ⟨rfl, y, rfl⟩
    obtain ⟨c, hc, rfl⟩ := mapInt_get hi
    refine ⟨_, rfl, _, _, rfl, rfl, .inr ⟨by decide, by decide⟩, _, rfl, _, _, rfl, rfl, .inl ⟨_, rfl, _, _, rfl, rfl, by show (1000003 : Int) ≠ 0; decide, rfl, some (.int c), ?_⟩⟩
    rw [take_snoc hc, seedA_snoc]
    rfl
  · rintro σ H' ⟨rfl, y, rfl⟩
    have et : ns.take (ns.map V.int).length = ns := by rw [List.length_map, List.take_length]
    rw [et]
    refine ⟨_, rfl, a, rfl, ⟨_, hS⟩, fun D hD => lc_list (K := K) (a := a) (xs := ns.map V.int) (fun i H2 => Same H' H2 ∧ H2 D = some (.lst (((ns.take i).map fun c => if c < 0 then -c else c).map V.int))) ⟨same_upd hD, upd_same⟩ (fun i H2 _ h => h.1.seq hS) ?_ ?_⟩
    · rintro i x H2 hi ⟨sm, hD2⟩
      obtain ⟨c, hc, rfl⟩ := mapInt_get hi
      refine ⟨rfl, ?_⟩
      unfold tYes
      dsimp only
      rw [if_pos rfl]
      refine ⟨_, rfl, _, rfl, _, hD2, ?_, fun b o z => ?_, ?_⟩
      · rw [List.length_map, List.length_map, List.length_take]
        have : (63 : Nat) < sizeLine := by decide
        omega
      · rw [upd_ne (ne_of_none z hD)]
        exact sm _ _ z
      · rw [upd_same, take_snoc hc, List.map_append, List.map_append]
        rfl
    · rintro H2 ⟨sm, hD2⟩
      rw [et] at hD2
      refine ⟨_, rfl, _, _, rfl, rfl, by show 2 ≤ sizeLine; decide, fun p hp => q p D _ ⟨?_, upd_same, ?_⟩⟩
      · rintro rfl
        rw [hD2] at hp
        cases hp
      · rw [upd_ne (ne_of_none hD2 hp)]
        exact hD2

theorem G_law_draw (T : Txt K mg) : FnOk P w K mg base CX0 1 T.a_law_draw T.d_law_draw ["state", "many"] (spM K 2 fn_law_draw) := by
  refine T.F_law_draw.ok sc_law_draw (fun vs H Q E h => ?_) (fun cdv A outer s H vs Q E hr h => ?_)
  · obtain ⟨G, F0, dr, dr', ds, r, hl, _⟩ := h
    exact hl
  obtain ⟨G, F0, dr, dr', ds, r, hl, fh, hd, hnd, rl, e, q⟩ := h
  obtain ⟨many, cs, seed, rfl, rfl, hm⟩ := draw_args e
  have hst : G.st = true := by
    cases z : G.st with
    | true => rfl
    | false => cases hnd z
  obtain ⟨da, ft⟩ := hd hst
  obtain ⟨tc, hT, hC⟩ := id da
  obtain rfl := draw_vals rl
  refine ⟨_, pss_cons (ps_set (i := 2) sc_law_draw.nd rfl (.inl rfl) (pe_ix ix_list (pv 0) pe_int (fun _ _ => rfl)))
    (pss_cons (ps_while PassesOwn.never (PW.pt (pw_and (pt_cmpR op_gt (pe_callB call_len_seq (by rfl) T.z_len PySem.boot_len (pa_cons (pv 2) pa_nil)) pe_int (nomark _))
        (pw_and1 (pt_cmpR op_eq (pe_ix ix_list (pv 2) pe_int (fun _ _ => rfl)) pe_int (nomark _)))))
        (pss_one (ps_expr (pe_bm PySem.F.plainAttrs_list PySem.F.slot_list_pop PySem.F.type_list_pop mt_popAt (pv 2) (pa_cons pe_int pa_nil)))))
    (pss_cons (ps_if (pt_cmpR op_gt (pe_callB call_len_seq (by rfl) T.z_len PySem.boot_len (pa_cons (pv 2) pa_nil)) pe_int (nomark _))
        (pss_cons (ps_set (i := 3) sc_law_draw.nd rfl (.inl rfl) (pe_ix ix_list (pv 2) pe_int (fun _ _ => rfl)))
        (pss_cons (ps_asg (pe_op op_fdivN (pv 3) (pv 1)) (pg_sub (pv 2) pe_int set_list))
        (pss_one (ps_ret (pe_op op_modN (pe_callTy call_int1 (by rfl) T.z_int (by decide +kernel) (pa_cons (pv 3) pa_nil)) (pv 1)))))) pss_nil)
    (pss_cons (ps_set (i := 4) sc_law_draw.nd rfl (.inl rfl) (pe_op op_modN (pe_callTy call_int1 (by rfl) T.z_int (by decide +kernel) (pa_cons (pe_op op_add (pe_op op_mul (pe_ix ix_list (pv 0) pe_int (fun _ _ => rfl)) pe_int) pe_int) pa_nil)) pe_int))
    (pss_cons (ps_asg (pv 4) (pg_sub (pv 0) pe_int set_list))
    (pss_one (ps_ret (pe_op op_modN (pe_callTy call_int1 (by rfl) T.z_int (by decide +kernel) (pa_cons (pe_op op_fdivN (pv 4) pe_int) pa_nil)) (pv 1)))))))), ?_⟩
  refine ⟨_, rfl, G.T, _, 0, .ref G.C, rfl, rfl, SqL.of hT, atI_nat (j := 0) rfl, ?_⟩
  -- the zeros ahead
  refine ⟨fun i σ H1 => ∃ l : List Int, i = l.length ∧ σ = [some (.ref G.T), some (.int many), some (.ref G.C), none, none] ∧ H1 = upd H G.C (.lst (l.map V.int)) ∧ l.dropWhile (· == 0) = cs.dropWhile (· == 0), ⟨cs.length, cs, rfl, rfl, (upd_self hC).symm, rfl⟩, ?_⟩
  rintro i σ H1 ⟨l, rfl, rfl, rfl, el⟩
  have cC : upd H G.C (.lst (l.map V.int)) G.C = some (.lst (l.map V.int)) := upd_same
  cases l with
  | nil =>
    refine ⟨.ref G.C, rfl, G.C, _, rfl, .inl (SqL.of cC), _, _, rfl, rfl, false, rfl, iteF (iteF ?_)⟩
    -- nothing is left
    refine ⟨.ref G.C, rfl, G.C, _, rfl, .inl (SqL.of cC), _, _, rfl, rfl, false, rfl, iteF ?_⟩
    have cT : upd H G.C (.lst (([] : List Int).map V.int)) G.T = some (.lst [.ref G.C, .int seed]) := by rw [upd_ne tc]; exact hT
    refine ⟨_, rfl, G.T, _, 1, .int seed, rfl, rfl, SqL.of cT, atI_nat (j := 1) rfl, seed, 48271, rfl, rfl, .inr ⟨by decide, by decide⟩, _, _, rfl, rfl, .inl ⟨_, rfl, _, _, rfl, rfl, by show (2147483647 : Int) ≠ 0; decide, ?_⟩⟩
    refine ⟨_, rfl, _, rfl, G.T, _, 1, 1, rfl, rfl, cT, rfl, ?_⟩
    refine ⟨_, rfl, _, 64, rfl, rfl, ⟨by decide, by decide⟩, .inl ⟨_, rfl, _, rfl, _, _, rfl, rfl, hm.1, ?_⟩⟩
    have e2 := draw_nil hm (el.symm : cs.dropWhile (· == 0) = []) e
    obtain ⟨rfl, rfl⟩ := e2
    exact draw_end hst fh ft da rfl q
  | cons v l =>
    refine ⟨.ref G.C, rfl, G.C, _, rfl, .inl (SqL.of cC), _, _, rfl, rfl, true, len_pos, iteT ?_⟩
    refine ⟨.ref G.C, rfl, G.C, _, 0, .int v, rfl, rfl, SqL.of cC, atI_nat (j := 0) rfl, rfl, _, rfl, ?_⟩
    by_cases hv : v = 0
    · subst hv
      refine iteT ⟨fun σ' H' => σ' = [some (.ref G.T), some (.int many), some (.ref G.C), none, none] ∧ H' = upd H G.C (.lst (l.map V.int)), fun σ' H' ⟨e1, e2⟩ => ⟨l.length, by simp, l, rfl, e1, e2, by rw [← el, dropW_cons, if_pos rfl]⟩, ?_⟩
      refine ⟨.ref G.C, rfl, .inl ⟨rfl, _, SqL.of cC⟩, G.C, _, 0, 0, .int 0, rfl, rfl, cC, by decide, by decide, by simp [seqIndex?], rfl, rfl, ?_⟩
      rw [upd_upd]
      rfl
    · have hd : decide (V.int v = V.int 0) = false := decide_eq_false (fun z => hv (V.int.inj z))
      rw [hd]
      refine iteF ?_
      refine ⟨.ref G.C, rfl, G.C, _, rfl, .inl (SqL.of cC), _, _, rfl, rfl, true, len_pos, iteT ?_⟩
      refine ⟨.ref G.C, rfl, G.C, _, 0, .int v, rfl, rfl, SqL.of cC, atI_nat (j := 0) rfl, ?_⟩
      refine ⟨_, rfl, _, rfl, v, many, rfl, rfl, hm, .ref G.C, rfl, G.C, _, 0, 0, rfl, rfl, cC, by simp [ixN], ?_⟩
      refine ⟨_, rfl, .inl ⟨_, rfl, _, rfl, v, many, rfl, rfl, hm.1, ?_⟩⟩
      have e2 := draw_cons hm (show cs.dropWhile (· == 0) = v :: l by rw [← el, dropW_cons, if_neg hv]) e
      obtain ⟨rfl, rfl⟩ := e2
      refine draw_end hst fh ft da ?_ q
      rw [upd_upd, upd_self (a := G.T)]
      · rfl
      · rw [upd_ne tc]
        exact hT

theorem G_law_forms (T : Txt K mg) : FnOk P w K mg base CX0 1 T.a_law_forms T.d_law_forms ["n"] (spM K 1 fn_law_forms) := by
  refine fn_ok T.F_law_forms sc_law_forms rfl (by decide) fun cdv A outer s H E (hr : Room 0 _) => ?_
  have hu : (XX P w K mg base ["n", "found", "k", "s"] "_law_forms" s_law_forms T.a_law_forms cdv A outer s H E).A.units + 65 < cLine := by
    show (A.deeper _).units + 65 < cLine
    have := hr.un
    omega
  have v0 : ∀ p, DE (XX P w K mg base ["n", "found", "k", "s"] "_law_forms" s_law_forms T.a_law_forms cdv A outer s H E) (.Name "n" p) (tVar 0) (rdV 0) := fun p => de_var rfl (Or.inl rfl)
  have v1 : ∀ p, DE (XX P w K mg base ["n", "found", "k", "s"] "_law_forms" s_law_forms T.a_law_forms cdv A outer s H E) (.Name "found" p) (tVar 1) (rdV 1) := fun p => de_var rfl (Or.inl rfl)
  have v2 : ∀ p, DE (XX P w K mg base ["n", "found", "k", "s"] "_law_forms" s_law_forms T.a_law_forms cdv A outer s H E) (.Name "k" p) (tVar 2) (rdV 2) := fun p => de_var rfl (Or.inl rfl)
  have v3 : ∀ p, DE (XX P w K mg base ["n", "found", "k", "s"] "_law_forms" s_law_forms T.a_law_forms cdv A outer s H E) (.Name "s" p) (tVar 3) (rdV 3) := fun p => de_var rfl (Or.inl rfl)
  exact ⟨_, (show DSs (XX P w K mg base ["n", "found", "k", "s"] "_law_forms" s_law_forms T.a_law_forms cdv A outer s H E) (defBody s_law_forms) _ b_law_forms from (dss_cons (ds_set (i := 1) sc_law_forms.nd rfl (Or.inl rfl) (de_lst da_nil))
  (dss_cons (ds_for PassesOwn.never rfl (di_range2 (by rfl) T.z_range (da_cons de_int (da_cons (k_add (K := K) (by rfl) (v0 _) de_int) da_nil))) (dg_name (i := 2) sc_law_forms.nd rfl (Or.inl rfl)) (dss_one (ds_for PassesOwn.never rfl (di_range1 (by rfl) T.z_range (da_cons (v0 _) da_nil)) (dg_name (i := 3) sc_law_forms.nd rfl (Or.inl rfl)) (dss_one (ds_ite (DW.dt (dw_and (kt_cmp (K := K) (by rfl) (ko_eq (K := K) (by rfl) (by exact hu)) eqD_ok (de_mod (k_callT1 (K := K) (by rfl) (kc_int (K := K) (by rfl)) intD_ok (by rfl) T.z_int (by decide +kernel) (v0 _)) (v2 _)) de_int (nomark _)) (dw_and1 (kt_cmp (K := K) (by rfl) (ko_lt (K := K) (by rfl) (by exact hu)) ltD_ok (v3 _) (de_fdiv (v0 _) (v2 _)) (nomark _))))) (dss_one (ds_app (j := 1) rfl (Or.inl rfl) (de_tup (da_cons (v2 _) (da_cons (v3 _) (da_cons (de_fdiv (v0 _) (v2 _)) da_nil)))))) dss_nil)))))
  (dss_one (ds_ret (v1 _))))))⟩
theorem G_law_steps (T : Txt K mg) : FnOk P w K mg base CX0 1 T.a_law_steps T.d_law_steps ["base", "form"] (spM K 2 fn_law_steps) := by
  refine fn_ok T.F_law_steps sc_law_steps rfl (by decide) fun cdv A outer s H E (hr : Room 0 _) => ?_
  have hu : (XX P w K mg base ["base", "form", "k", "s", "d", "x", "y", "i", "j", "other"] "_law_steps" s_law_steps T.a_law_steps cdv A outer s H E).A.units + 65 < cLine := by
    show (A.deeper _).units + 65 < cLine
    have := hr.un
    omega
  have v0 : ∀ p, DE (XX P w K mg base ["base", "form", "k", "s", "d", "x", "y", "i", "j", "other"] "_law_steps" s_law_steps T.a_law_steps cdv A outer s H E) (.Name "base" p) (tVar 0) (rdV 0) := fun p => de_var rfl (Or.inl rfl)
  have v1 : ∀ p, DE (XX P w K mg base ["base", "form", "k", "s", "d", "x", "y", "i", "j", "other"] "_law_steps" s_law_steps T.a_law_steps cdv A outer s H E) (.Name "form" p) (tVar 1) (rdV 1) := fun p => de_var rfl (Or.inl rfl)
  have v2 : ∀ p, DE (XX P w K mg base ["base", "form", "k", "s", "d", "x", "y", "i", "j", "other"] "_law_steps" s_law_steps T.a_law_steps cdv A outer s H E) (.Name "k" p) (tVar 2) (rdV 2) := fun p => de_var rfl (Or.inl rfl)
  have v3 : ∀ p, DE (XX P w K mg base ["base", "form", "k", "s", "d", "x", "y", "i", "j", "other"] "_law_steps" s_law_steps T.a_law_steps cdv A outer s H E) (.Name "s" p) (tVar 3) (rdV 3) := fun p => de_var rfl (Or.inl rfl)
  have v4 : ∀ p, DE (XX P w K mg base ["base", "form", "k", "s", "d", "x", "y", "i", "j", "other"] "_law_steps" s_law_steps T.a_law_steps cdv A outer s H E) (.Name "d" p) (tVar 4) (rdV 4) := fun p => de_var rfl (Or.inl rfl)
  have v5 : ∀ p, DE (XX P w K mg base ["base", "form", "k", "s", "d", "x", "y", "i", "j", "other"] "_law_steps" s_law_steps T.a_law_steps cdv A outer s H E) (.Name "x" p) (tVar 5) (rdV 5) := fun p => de_var rfl (Or.inl rfl)
  have v6 : ∀ p, DE (XX P w K mg base ["base", "form", "k", "s", "d", "x", "y", "i", "j", "other"] "_law_steps" s_law_steps T.a_law_steps cdv A outer s H E) (.Name "y" p) (tVar 6) (rdV 6) := fun p => de_var rfl (Or.inl rfl)
  have v7 : ∀ p, DE (XX P w K mg base ["base", "form", "k", "s", "d", "x", "y", "i", "j", "other"] "_law_steps" s_law_steps T.a_law_steps cdv A outer s H E) (.Name "i" p) (tVar 7) (rdV 7) := fun p => de_var rfl (Or.inl rfl)
  have v8 : ∀ p, DE (XX P w K mg base ["base", "form", "k", "s", "d", "x", "y", "i", "j", "other"] "_law_steps" s_law_steps T.a_law_steps cdv A outer s H E) (.Name "j" p) (tVar 8) (rdV 8) := fun p => de_var rfl (Or.inl rfl)
  have v9 : ∀ p, DE (XX P w K mg base ["base", "form", "k", "s", "d", "x", "y", "i", "j", "other"] "_law_steps" s_law_steps T.a_law_steps cdv A outer s H E) (.Name "other" p) (tVar 9) (rdV 9) := fun p => de_var rfl (Or.inl rfl)
  exact ⟨_, (show DSs (XX P w K mg base ["base", "form", "k", "s", "d", "x", "y", "i", "j", "other"] "_law_steps" s_law_steps T.a_law_steps cdv A outer s H E) (defBody s_law_steps) _ b_law_steps from (dss_cons (ds_asg (v1 _) (k_gtup (K := K) (by rfl) (by rfl) (dgs_cons (dg_name (i := 2) sc_law_steps.nd rfl (Or.inl rfl)) (dgs_cons (dg_name (i := 3) sc_law_steps.nd rfl (Or.inl rfl)) (dgs_cons (dg_name (i := 4) sc_law_steps.nd rfl (Or.inl rfl)) dgs_nil)))))
  (dss_cons (ds_par (i := 5) (j := 6) rfl sc_law_steps.nd rfl rfl (by decide) rfl rfl (de_mul (de_lst (da_cons de_int da_nil)) (de_mul (v2 _) (v4 _))) (de_mul (de_lst (da_cons de_int da_nil)) (de_mul (v2 _) (v4 _))) (by rfl))
  (dss_cons (ds_for PassesOwn.never rfl (di_range1 (by rfl) T.z_range (da_cons (v2 _) da_nil)) (dg_name (i := 7) sc_law_steps.nd rfl (Or.inl rfl)) (dss_one (ds_for PassesOwn.never rfl (di_range1 (by rfl) T.z_range (da_cons (v4 _) da_nil)) (dg_name (i := 8) sc_law_steps.nd rfl (Or.inl rfl)) (dss_cons (ds_set (i := 9) sc_law_steps.nd rfl (Or.inl rfl) (de_if (kt_cmp (K := K) (by rfl) (ko_eq (K := K) (by rfl) (by exact hu)) eqD_ok (k_ix (K := K) (by rfl) (v0 _) de_int (by intro _ _; rfl)) de_str (nomark _)) (v8 _) (de_neg (v8 _))))
  (dss_cons (ds_sto (j := 6) rfl (Or.inl rfl) (k_add (K := K) (by rfl) (de_mul (v7 _) (v4 _)) (de_mod (k_callT1 (K := K) (by rfl) (kc_int (K := K) (by rfl)) intD_ok (by rfl) T.z_int (by decide +kernel) (k_add (K := K) (by rfl) (v8 _) de_int)) (v4 _))) (k_add (K := K) (by rfl) (de_mul (v7 _) (v4 _)) (v8 _)))
  (dss_one (ds_sto (j := 5) rfl (Or.inl rfl) (de_if (kt_cmp (K := K) (by rfl) (ko_eq (K := K) (by rfl) (by exact hu)) eqD_ok (v7 _) (de_sub (v2 _) de_int) (nomark _)) (de_mod (k_callT1 (K := K) (by rfl) (kc_int (K := K) (by rfl)) intD_ok (by rfl) T.z_int (by decide +kernel) (de_sub (v9 _) (v3 _))) (v4 _)) (k_add (K := K) (by rfl) (de_mul (k_add (K := K) (by rfl) (v7 _) de_int) (v4 _)) (de_mod (k_callT1 (K := K) (by rfl) (kc_int (K := K) (by rfl)) intD_ok (by rfl) T.z_int (by decide +kernel) (v9 _)) (v4 _)))) (k_add (K := K) (by rfl) (de_mul (v7 _) (v4 _)) (v8 _)))))))))
  (dss_one (ds_ret (de_lst (da_cons (k_callT1 (K := K) (by rfl) (kc_tuple (K := K) (by rfl)) tupleD_ok (by rfl) T.z_tuple (by decide +kernel) (v5 _)) (da_cons (k_callT1 (K := K) (by rfl) (kc_tuple (K := K) (by rfl)) tupleD_ok (by rfl) T.z_tuple (by decide +kernel) (v6 _)) da_nil)))))))))⟩
theorem G_law_times (T : Txt K mg) : FnOk P w K mg base CX0 1 T.a_law_times T.d_law_times ["one", "other"] (spM K 2 fn_law_times) := by
  refine fn_ok T.F_law_times sc_law_times rfl (by decide) fun cdv A outer s H E (hr : Room 0 _) => ?_
  have hu : (XX P w K mg base ["one", "other", "sheet"] "_law_times" s_law_times T.a_law_times cdv A outer s H E).A.units + 65 < cLine := by
    show (A.deeper _).units + 65 < cLine
    have := hr.un
    omega
  have v0 : ∀ p, DE (XX P w K mg base ["one", "other", "sheet"] "_law_times" s_law_times T.a_law_times cdv A outer s H E) (.Name "one" p) (tVar 0) (rdV 0) := fun p => de_var rfl (Or.inl rfl)
  exact ⟨_, (show DSs (XX P w K mg base ["one", "other", "sheet"] "_law_times" s_law_times T.a_law_times cdv A outer s H E) (defBody s_law_times) _ b_law_times from (dss_one (ds_ret (k_callT1 (K := K) (by rfl) (kc_tuple (K := K) (by rfl)) tupleD_ok (by rfl) T.z_tuple (by decide +kernel) (de_lc (own := [("sheet", 2)]) (is := [2]) rfl sc_law_times.nd (k_seq (K := K) (by rfl) (v0 _)) (blkOk_by (own := [("sheet", 2)]) (N := ["one", "other", "sheet"]) (sc := defScope s_law_times) (by decide +kernel)) (fun _ _ _ _ _ => (dg_name (i := 2) sc_law_times.nd rfl (Or.inl rfl))) (by decide) (fun _ _ _ _ _ => dts_nil) (fun _ _ _ _ _ => (k_ix (K := K) (by rfl) (de_var (i := 1) (x := "other") rfl (Or.inr (Or.inl rfl))) (de_var (i := 2) (x := "sheet") rfl (Or.inl rfl)) (by intro _ _; rfl))))))))⟩
theorem G_law_all (T : Txt K mg) : FnOk P w K mg base CX0 2 T.a_law_all T.d_law_all ["n", "rows"] (spM K 2 fn_law_all) := by
  refine fn_ok T.F_law_all sc_law_all rfl (by decide) fun cdv A outer s H E (hr : Room 1 _) => ?_
  have hu : (XX P w K mg base ["n", "rows", "told", "perm", "sheet"] "_law_all" s_law_all T.a_law_all cdv A outer s H E).A.units + 65 < cLine := by
    show (A.deeper _).units + 65 < cLine
    have := hr.un
    omega
  have v0 : ∀ p, DE (XX P w K mg base ["n", "rows", "told", "perm", "sheet"] "_law_all" s_law_all T.a_law_all cdv A outer s H E) (.Name "n" p) (tVar 0) (rdV 0) := fun p => de_var rfl (Or.inl rfl)
  have v1 : ∀ p, DE (XX P w K mg base ["n", "rows", "told", "perm", "sheet"] "_law_all" s_law_all T.a_law_all cdv A outer s H E) (.Name "rows" p) (tVar 1) (rdV 1) := fun p => de_var rfl (Or.inl rfl)
  have v2 : ∀ p, DE (XX P w K mg base ["n", "rows", "told", "perm", "sheet"] "_law_all" s_law_all T.a_law_all cdv A outer s H E) (.Name "told" p) (tVar 2) (rdV 2) := fun p => de_var rfl (Or.inl rfl)
  have v3 : ∀ p, DE (XX P w K mg base ["n", "rows", "told", "perm", "sheet"] "_law_all" s_law_all T.a_law_all cdv A outer s H E) (.Name "perm" p) (tVar 3) (rdV 3) := fun p => de_var rfl (Or.inl rfl)
  exact ⟨_, (show DSs (XX P w K mg base ["n", "rows", "told", "perm", "sheet"] "_law_all" s_law_all T.a_law_all cdv A outer s H E) (defBody s_law_all) _ b_law_all from (dss_cons (ds_set (i := 2) sc_law_all.nd rfl (Or.inl rfl) (k_callT1 (K := K) (by rfl) (kc_tuple (K := K) (by rfl)) tupleD_ok (by rfl) T.z_tuple (by decide +kernel) (de_lc (own := [("sheet", 4)]) (is := [4]) rfl sc_law_all.nd (di_range1 (by rfl) T.z_range (da_cons (v0 _) da_nil)) (blkOk_by (own := [("sheet", 4)]) (N := ["n", "rows", "told", "perm", "sheet"]) (sc := defScope s_law_all) (by decide +kernel)) (fun _ _ _ _ _ => (dg_name (i := 4) sc_law_all.nd rfl (Or.inl rfl))) (by decide) (fun _ _ _ _ _ => dts_nil) (fun _ _ _ _ _ => (de_var (i := 4) (x := "sheet") rfl (Or.inl rfl))))))
  (dss_cons (ds_for PassesOwn.never rfl (k_seq (K := K) (by rfl) (v1 _)) (dg_name (i := 3) sc_law_all.nd rfl (Or.inl rfl)) (dss_one (ds_set (i := 2) sc_law_all.nd rfl (Or.inl rfl) (k_call (K := K) (by rfl) (G_law_times T) (by exact hr.mono (by decide)) (by rfl) T.g_law_times T.F_law_times.kp (bind_law_times T) pass0 (da_cons (v2 _) (da_cons (v3 _) da_nil)) (da_len1 (da_len1 da_len0))))))
  (dss_one (ds_ret (v2 _))))))⟩
theorem G_law_back (T : Txt K mg) : FnOk P w K mg base CX0 1 T.a_law_back T.d_law_back ["perm"] (spM K 1 fn_law_back) := by
  refine fn_ok T.F_law_back sc_law_back rfl (by decide) fun cdv A outer s H E (hr : Room 0 _) => ?_
  have hu : (XX P w K mg base ["perm", "sheet"] "_law_back" s_law_back T.a_law_back cdv A outer s H E).A.units + 65 < cLine := by
    show (A.deeper _).units + 65 < cLine
    have := hr.un
    omega
  have v0 : ∀ p, DE (XX P w K mg base ["perm", "sheet"] "_law_back" s_law_back T.a_law_back cdv A outer s H E) (.Name "perm" p) (tVar 0) (rdV 0) := fun p => de_var rfl (Or.inr (Or.inl rfl))
  exact ⟨_, (show DSs (XX P w K mg base ["perm", "sheet"] "_law_back" s_law_back T.a_law_back cdv A outer s H E) (defBody s_law_back) _ b_law_back from (dss_one (ds_ret (k_callT1 (K := K) (by rfl) (kc_tuple (K := K) (by rfl)) tupleD_ok (by rfl) T.z_tuple (by decide +kernel) (de_lc (own := [("sheet", 1)]) (is := [1]) rfl sc_law_back.nd (di_range1 (by rfl) T.z_range (da_cons (k_callB1 (K := K) (by rfl) (kc_len (K := K) (by rfl)) lenD_ok (by rfl) T.z_len PySem.boot_len (v0 _)) da_nil)) (blkOk_by (own := [("sheet", 1)]) (N := ["perm", "sheet"]) (sc := defScope s_law_back) (by decide +kernel)) (fun _ _ _ _ _ => (dg_name (i := 1) sc_law_back.nd rfl (Or.inl rfl))) (by decide) (fun _ _ _ _ _ => dts_nil) (fun _ _ _ _ _ => (k_index (K := K) (by rfl) (de_var (i := 0) (x := "perm") rfl (Or.inr (Or.inl rfl))) (de_var (i := 1) (x := "sheet") rfl (Or.inl rfl)))))))))⟩
theorem G_law_letters_of (T : Txt K mg) : FnOk P w K mg base CX0 3 T.a_law_letters_of T.d_law_letters_of ["base", "x", "y"] (spM K 3 fn_law_letters_of) := by
  refine fn_ok T.F_law_letters_of sc_law_letters_of rfl (by decide) fun cdv A outer s H E (hr : Room 2 _) => ?_
  have hu : (XX P w K mg base ["base", "x", "y"] "_law_letters_of" s_law_letters_of T.a_law_letters_of cdv A outer s H E).A.units + 65 < cLine := by
    show (A.deeper _).units + 65 < cLine
    have := hr.un
    omega
  have v0 : ∀ p, DE (XX P w K mg base ["base", "x", "y"] "_law_letters_of" s_law_letters_of T.a_law_letters_of cdv A outer s H E) (.Name "base" p) (tVar 0) (rdV 0) := fun p => de_var rfl (Or.inl rfl)
  have v1 : ∀ p, DE (XX P w K mg base ["base", "x", "y"] "_law_letters_of" s_law_letters_of T.a_law_letters_of cdv A outer s H E) (.Name "x" p) (tVar 1) (rdV 1) := fun p => de_var rfl (Or.inl rfl)
  have v2 : ∀ p, DE (XX P w K mg base ["base", "x", "y"] "_law_letters_of" s_law_letters_of T.a_law_letters_of cdv A outer s H E) (.Name "y" p) (tVar 2) (rdV 2) := fun p => de_var rfl (Or.inl rfl)
  exact ⟨_, (show DSs (XX P w K mg base ["base", "x", "y"] "_law_letters_of" s_law_letters_of T.a_law_letters_of cdv A outer s H E) (defBody s_law_letters_of) _ b_law_letters_of from (dss_cons (ds_ite (kt_cmp (K := K) (by rfl) (ko_eq (K := K) (by rfl) (by exact hu)) eqD_ok (k_ix (K := K) (by rfl) (v0 _) de_int (by intro _ _; rfl)) de_str (nomark _)) (dss_one (ds_ret (de_lst (da_cons (v1 _) (da_cons (v2 _) da_nil))))) dss_nil)
  (dss_one (ds_ret (de_lst (da_cons (k_call (K := K) (by rfl) (G_law_times T) (by exact hr.mono (by decide)) (by rfl) T.g_law_times T.F_law_times.kp (bind_law_times T) pass0 (da_cons (v1 _) (da_cons (v2 _) da_nil)) (da_len1 (da_len1 da_len0))) (da_cons (k_call (K := K) (by rfl) (G_law_all T) (by exact hr.mono (by decide)) (by rfl) T.g_law_all T.F_law_all.kp (bind_law_all T) pass0 (da_cons (k_callB1 (K := K) (by rfl) (kc_len (K := K) (by rfl)) lenD_ok (by rfl) T.z_len PySem.boot_len (v1 _)) (da_cons (de_lst (da_cons (k_call (K := K) (by rfl) (G_law_back T) (by exact hr.mono (by decide)) (by rfl) T.g_law_back T.F_law_back.kp (bind_law_back T) pass0 (da_cons (v2 _) da_nil) (da_len1 da_len0)) (da_cons (k_call (K := K) (by rfl) (G_law_back T) (by exact hr.mono (by decide)) (by rfl) T.g_law_back T.F_law_back.kp (bind_law_back T) pass0 (da_cons (v1 _) da_nil) (da_len1 da_len0)) (da_cons (v2 _) da_nil)))) da_nil)) (da_len1 (da_len1 da_len0))) da_nil)))))))⟩
theorem G_law_plain (T : Txt K mg) : FnOk P w K mg base CX0 2 T.a_law_plain T.d_law_plain ["base", "one", "other"] (spM K 3 fn_law_plain) := by
  refine fn_ok T.F_law_plain sc_law_plain rfl (by decide) fun cdv A outer s H E (hr : Room 1 _) => ?_
  have hu : (XX P w K mg base ["base", "one", "other", "y"] "_law_plain" s_law_plain T.a_law_plain cdv A outer s H E).A.units + 65 < cLine := by
    show (A.deeper _).units + 65 < cLine
    have := hr.un
    omega
  have v0 : ∀ p, DE (XX P w K mg base ["base", "one", "other", "y"] "_law_plain" s_law_plain T.a_law_plain cdv A outer s H E) (.Name "base" p) (tVar 0) (rdV 0) := fun p => de_var rfl (Or.inl rfl)
  have v1 : ∀ p, DE (XX P w K mg base ["base", "one", "other", "y"] "_law_plain" s_law_plain T.a_law_plain cdv A outer s H E) (.Name "one" p) (tVar 1) (rdV 1) := fun p => de_var rfl (Or.inl rfl)
  have v2 : ∀ p, DE (XX P w K mg base ["base", "one", "other", "y"] "_law_plain" s_law_plain T.a_law_plain cdv A outer s H E) (.Name "other" p) (tVar 2) (rdV 2) := fun p => de_var rfl (Or.inl rfl)
  have v3 : ∀ p, DE (XX P w K mg base ["base", "one", "other", "y"] "_law_plain" s_law_plain T.a_law_plain cdv A outer s H E) (.Name "y" p) (tVar 3) (rdV 3) := fun p => de_var rfl (Or.inl rfl)
  exact ⟨_, (show DSs (XX P w K mg base ["base", "one", "other", "y"] "_law_plain" s_law_plain T.a_law_plain cdv A outer s H E) (defBody s_law_plain) _ b_law_plain from (dss_cons (ds_ite (kt_cmp (K := K) (by rfl) (ko_eq (K := K) (by rfl) (by exact hu)) eqD_ok (k_ix (K := K) (by rfl) (v0 _) de_int (by intro _ _; rfl)) de_str (nomark _)) (dss_one (ds_ret (de_lst (da_cons (v1 _) (da_cons (v2 _) da_nil))))) dss_nil)
  (dss_cons (ds_set (i := 3) sc_law_plain.nd rfl (Or.inl rfl) (k_call (K := K) (by rfl) (G_law_times T) (by exact hr.mono (by decide)) (by rfl) T.g_law_times T.F_law_times.kp (bind_law_times T) pass0 (da_cons (v1 _) (da_cons (v2 _) da_nil)) (da_len1 (da_len1 da_len0))))
  (dss_one (ds_ret (de_lst (da_cons (k_call (K := K) (by rfl) (G_law_times T) (by exact hr.mono (by decide)) (by rfl) T.g_law_times T.F_law_times.kp (bind_law_times T) pass0 (da_cons (v1 _) (da_cons (k_call (K := K) (by rfl) (G_law_back T) (by exact hr.mono (by decide)) (by rfl) T.g_law_back T.F_law_back.kp (bind_law_back T) pass0 (da_cons (v3 _) da_nil) (da_len1 da_len0)) da_nil)) (da_len1 (da_len1 da_len0))) (da_cons (v3 _) da_nil))))))))⟩
theorem G_law_cycles (T : Txt K mg) : FnOk P w K mg base CX0 1 T.a_law_cycles T.d_law_cycles ["perm"] (spM K 1 fn_law_cycles) := by
  refine fn_ok T.F_law_cycles sc_law_cycles rfl (by decide) fun cdv A outer s H E (hr : Room 0 _) => ?_
  have hu : (XX P w K mg base ["perm", "told", "seen", "sheet", "row"] "_law_cycles" s_law_cycles T.a_law_cycles cdv A outer s H E).A.units + 65 < cLine := by
    show (A.deeper _).units + 65 < cLine
    have := hr.un
    omega
  have v0 : ∀ p, DE (XX P w K mg base ["perm", "told", "seen", "sheet", "row"] "_law_cycles" s_law_cycles T.a_law_cycles cdv A outer s H E) (.Name "perm" p) (tVar 0) (rdV 0) := fun p => de_var rfl (Or.inl rfl)
  have v1 : ∀ p, DE (XX P w K mg base ["perm", "told", "seen", "sheet", "row"] "_law_cycles" s_law_cycles T.a_law_cycles cdv A outer s H E) (.Name "told" p) (tVar 1) (rdV 1) := fun p => de_var rfl (Or.inl rfl)
  have v2 : ∀ p, DE (XX P w K mg base ["perm", "told", "seen", "sheet", "row"] "_law_cycles" s_law_cycles T.a_law_cycles cdv A outer s H E) (.Name "seen" p) (tVar 2) (rdV 2) := fun p => de_var rfl (Or.inl rfl)
  have v3 : ∀ p, DE (XX P w K mg base ["perm", "told", "seen", "sheet", "row"] "_law_cycles" s_law_cycles T.a_law_cycles cdv A outer s H E) (.Name "sheet" p) (tVar 3) (rdV 3) := fun p => de_var rfl (Or.inl rfl)
  have v4 : ∀ p, DE (XX P w K mg base ["perm", "told", "seen", "sheet", "row"] "_law_cycles" s_law_cycles T.a_law_cycles cdv A outer s H E) (.Name "row" p) (tVar 4) (rdV 4) := fun p => de_var rfl (Or.inl rfl)
  exact ⟨_, (show DSs (XX P w K mg base ["perm", "told", "seen", "sheet", "row"] "_law_cycles" s_law_cycles T.a_law_cycles cdv A outer s H E) (defBody s_law_cycles) _ b_law_cycles from (dss_cons (ds_set (i := 1) sc_law_cycles.nd rfl (Or.inl rfl) (de_lst da_nil))
  (dss_cons (ds_set (i := 2) sc_law_cycles.nd rfl (Or.inl rfl) (de_lst da_nil))
  (dss_cons (ds_for PassesOwn.never rfl (di_range1 (by rfl) T.z_range (da_cons (k_callB1 (K := K) (by rfl) (kc_len (K := K) (by rfl)) lenD_ok (by rfl) T.z_len PySem.boot_len (v0 _)) da_nil)) (dg_name (i := 3) sc_law_cycles.nd rfl (Or.inl rfl)) (dss_one (ds_ite (kt_cmp (K := K) (by rfl) (ko_nin (K := K) (by rfl) (by exact hu)) ninD_ok (v3 _) (v2 _) (by rfl)) (dss_cons (ds_set (i := 4) sc_law_cycles.nd rfl (Or.inl rfl) (de_lst (da_cons (v3 _) da_nil)))
  (dss_cons (ds_while PassesOwn.never (kt_cmp (K := K) (by rfl) (ko_ne (K := K) (by rfl) (by exact hu)) neD_ok (k_ix (K := K) (by rfl) (v0 _) (k_ix (K := K) (by rfl) (v4 _) (de_neg de_int) (by intro _ _; rfl)) (by intro _ _; rfl)) (v3 _) (nomark _)) (dss_one (ds_app (j := 4) rfl (Or.inl rfl) (k_ix (K := K) (by rfl) (v0 _) (k_ix (K := K) (by rfl) (v4 _) (de_neg de_int) (by intro _ _; rfl)) (by intro _ _; rfl)))))
  (dss_cons (ds_set (i := 2) sc_law_cycles.nd rfl (Or.inl rfl) (k_add (K := K) (by rfl) (v2 _) (v4 _)))
  (dss_one (ds_app (j := 1) rfl (Or.inl rfl) (k_callT1 (K := K) (by rfl) (kc_tuple (K := K) (by rfl)) tupleD_ok (by rfl) T.z_tuple (by decide +kernel) (v4 _))))))) dss_nil)))
  (dss_one (ds_ret (v1 _)))))))⟩
theorem G_law_form (T : Txt K mg) : FnOk P w K mg base CX0 3 T.a_law_form T.d_law_form ["base", "one", "other"] (spM K 3 fn_law_form) := by
  refine fn_ok T.F_law_form sc_law_form rfl (by decide) fun cdv A outer s H E (hr : Room 2 _) => ?_
  have hu : (XX P w K mg base ["base", "one", "other", "x", "y", "ring", "d", "k", "sheet", "turn", "s", "row"] "_law_form" s_law_form T.a_law_form cdv A outer s H E).A.units + 65 < cLine := by
    show (A.deeper _).units + 65 < cLine
    have := hr.un
    omega
  have v0 : ∀ p, DE (XX P w K mg base ["base", "one", "other", "x", "y", "ring", "d", "k", "sheet", "turn", "s", "row"] "_law_form" s_law_form T.a_law_form cdv A outer s H E) (.Name "base" p) (tVar 0) (rdV 0) := fun p => de_var rfl (Or.inl rfl)
  have v1 : ∀ p, DE (XX P w K mg base ["base", "one", "other", "x", "y", "ring", "d", "k", "sheet", "turn", "s", "row"] "_law_form" s_law_form T.a_law_form cdv A outer s H E) (.Name "one" p) (tVar 1) (rdV 1) := fun p => de_var rfl (Or.inl rfl)
  have v2 : ∀ p, DE (XX P w K mg base ["base", "one", "other", "x", "y", "ring", "d", "k", "sheet", "turn", "s", "row"] "_law_form" s_law_form T.a_law_form cdv A outer s H E) (.Name "other" p) (tVar 2) (rdV 2) := fun p => de_var rfl (Or.inl rfl)
  have v3 : ∀ p, DE (XX P w K mg base ["base", "one", "other", "x", "y", "ring", "d", "k", "sheet", "turn", "s", "row"] "_law_form" s_law_form T.a_law_form cdv A outer s H E) (.Name "x" p) (tVar 3) (rdV 3) := fun p => de_var rfl (Or.inl rfl)
  have v4 : ∀ p, DE (XX P w K mg base ["base", "one", "other", "x", "y", "ring", "d", "k", "sheet", "turn", "s", "row"] "_law_form" s_law_form T.a_law_form cdv A outer s H E) (.Name "y" p) (tVar 4) (rdV 4) := fun p => de_var rfl (Or.inl rfl)
  have v5 : ∀ p, DE (XX P w K mg base ["base", "one", "other", "x", "y", "ring", "d", "k", "sheet", "turn", "s", "row"] "_law_form" s_law_form T.a_law_form cdv A outer s H E) (.Name "ring" p) (tVar 5) (rdV 5) := fun p => de_var rfl (Or.inl rfl)
  have v6 : ∀ p, DE (XX P w K mg base ["base", "one", "other", "x", "y", "ring", "d", "k", "sheet", "turn", "s", "row"] "_law_form" s_law_form T.a_law_form cdv A outer s H E) (.Name "d" p) (tVar 6) (rdV 6) := fun p => de_var rfl (Or.inl rfl)
  have v7 : ∀ p, DE (XX P w K mg base ["base", "one", "other", "x", "y", "ring", "d", "k", "sheet", "turn", "s", "row"] "_law_form" s_law_form T.a_law_form cdv A outer s H E) (.Name "k" p) (tVar 7) (rdV 7) := fun p => de_var rfl (Or.inl rfl)
  have v8 : ∀ p, DE (XX P w K mg base ["base", "one", "other", "x", "y", "ring", "d", "k", "sheet", "turn", "s", "row"] "_law_form" s_law_form T.a_law_form cdv A outer s H E) (.Name "sheet" p) (tVar 8) (rdV 8) := fun p => de_var rfl (Or.inl rfl)
  have v10 : ∀ p, DE (XX P w K mg base ["base", "one", "other", "x", "y", "ring", "d", "k", "sheet", "turn", "s", "row"] "_law_form" s_law_form T.a_law_form cdv A outer s H E) (.Name "s" p) (tVar 10) (rdV 10) := fun p => de_var rfl (Or.inl rfl)
  exact ⟨_, (show DSs (XX P w K mg base ["base", "one", "other", "x", "y", "ring", "d", "k", "sheet", "turn", "s", "row"] "_law_form" s_law_form T.a_law_form cdv A outer s H E) (defBody s_law_form) _ b_law_form from (dss_cons (ds_asg (k_call (K := K) (by rfl) (G_law_plain T) (by exact hr.mono (by decide)) (by rfl) T.g_law_plain T.F_law_plain.kp (bind_law_plain T) pass0 (da_cons (v0 _) (da_cons (v1 _) (da_cons (v2 _) da_nil))) (da_len1 (da_len1 (da_len1 da_len0)))) (k_gtup (K := K) (by rfl) (by rfl) (dgs_cons (dg_name (i := 3) sc_law_form.nd rfl (Or.inl rfl)) (dgs_cons (dg_name (i := 4) sc_law_form.nd rfl (Or.inl rfl)) dgs_nil))))
  (dss_cons (ds_set (i := 5) sc_law_form.nd rfl (Or.inl rfl) (k_ix (K := K) (by rfl) (de_lc (own := [("row", 11)]) (is := [11]) rfl sc_law_form.nd (k_seq (K := K) (by rfl) (k_call (K := K) (by rfl) (G_law_cycles T) (by exact hr.mono (by decide)) (by rfl) T.g_law_cycles T.F_law_cycles.kp (bind_law_cycles T) pass0 (da_cons (v4 _) da_nil) (da_len1 da_len0))) (blkOk_by (own := [("row", 11)]) (N := ["base", "one", "other", "x", "y", "ring", "d", "k", "sheet", "turn", "s", "row"]) (sc := defScope s_law_form) (by decide +kernel)) (fun _ _ _ _ _ => (dg_name (i := 11) sc_law_form.nd rfl (Or.inl rfl))) (by decide) (fun _ _ _ _ _ => (dts_one (kt_cmp (K := K) (by rfl) (ko_in (K := K) (by rfl) (by exact hu)) inD_ok de_int (de_var (i := 11) (x := "row") rfl (Or.inl rfl)) (by rfl)))) (fun _ _ _ _ _ => (de_var (i := 11) (x := "row") rfl (Or.inl rfl)))) de_int (by intro _ _; rfl)))
  (dss_cons (ds_set (i := 6) sc_law_form.nd rfl (Or.inl rfl) (k_callB1 (K := K) (by rfl) (kc_len (K := K) (by rfl)) lenD_ok (by rfl) T.z_len PySem.boot_len (v5 _)))
  (dss_cons (ds_set (i := 7) sc_law_form.nd rfl (Or.inl rfl) (de_fdiv (k_callB1 (K := K) (by rfl) (kc_len (K := K) (by rfl)) lenD_ok (by rfl) T.z_len PySem.boot_len (v3 _)) (v6 _)))
  (dss_cons (ds_set (i := 8) sc_law_form.nd rfl (Or.inl rfl) de_int)
  (dss_cons (ds_for PassesOwn.never rfl (di_range1 (by rfl) T.z_range (da_cons (v7 _) da_nil)) (dg_name (i := 9) sc_law_form.nd rfl (Or.inl rfl)) (dss_one (ds_set (i := 8) sc_law_form.nd rfl (Or.inl rfl) (k_ix (K := K) (by rfl) (v3 _) (v8 _) (by intro _ _; rfl)))))
  (dss_cons (ds_for PassesOwn.never rfl (di_range1 (by rfl) T.z_range (da_cons (v6 _) da_nil)) (dg_name (i := 10) sc_law_form.nd rfl (Or.inl rfl)) (dss_cons (ds_ite (kt_cmp (K := K) (by rfl) (ko_eq (K := K) (by rfl) (by exact hu)) eqD_ok (v8 _) de_int (nomark _)) (dss_one (ds_ret (de_tup (da_cons (v7 _) (da_cons (v10 _) (da_cons (v6 _) da_nil)))))) dss_nil)
  (dss_one (ds_set (i := 8) sc_law_form.nd rfl (Or.inl rfl) (k_ix (K := K) (by rfl) (v4 _) (v8 _) (by intro _ _; rfl))))))
  (dss_one (ds_ret de_non))))))))))⟩
theorem G_law_turned (T : Txt K mg) : FnOk P w K mg base CX0 3 T.a_law_turned T.d_law_turned ["perm", "by"] (spM K 2 fn_law_turned) := by
  refine fn_ok T.F_law_turned sc_law_turned rfl (by decide) fun cdv A outer s H E (hr : Room 2 _) => ?_
  have hu : (XX P w K mg base ["perm", "by"] "_law_turned" s_law_turned T.a_law_turned cdv A outer s H E).A.units + 65 < cLine := by
    show (A.deeper _).units + 65 < cLine
    have := hr.un
    omega
  have v0 : ∀ p, DE (XX P w K mg base ["perm", "by"] "_law_turned" s_law_turned T.a_law_turned cdv A outer s H E) (.Name "perm" p) (tVar 0) (rdV 0) := fun p => de_var rfl (Or.inl rfl)
  have v1 : ∀ p, DE (XX P w K mg base ["perm", "by"] "_law_turned" s_law_turned T.a_law_turned cdv A outer s H E) (.Name "by" p) (tVar 1) (rdV 1) := fun p => de_var rfl (Or.inl rfl)
  exact ⟨_, (show DSs (XX P w K mg base ["perm", "by"] "_law_turned" s_law_turned T.a_law_turned cdv A outer s H E) (defBody s_law_turned) _ b_law_turned from (dss_one (ds_ret (k_call (K := K) (by rfl) (G_law_all T) (by exact hr.mono (by decide)) (by rfl) T.g_law_all T.F_law_all.kp (bind_law_all T) pass0 (da_cons (k_callB1 (K := K) (by rfl) (kc_len (K := K) (by rfl)) lenD_ok (by rfl) T.z_len PySem.boot_len (v1 _)) (da_cons (de_lst (da_cons (k_call (K := K) (by rfl) (G_law_back T) (by exact hr.mono (by decide)) (by rfl) T.g_law_back T.F_law_back.kp (bind_law_back T) pass0 (da_cons (v1 _) da_nil) (da_len1 da_len0)) (da_cons (v0 _) (da_cons (v1 _) da_nil)))) da_nil)) (da_len1 (da_len1 da_len0))))))⟩
theorem G_law_all_forms (T : Txt K mg) : FnOk P w K mg base CX0 4 T.a_law_all_forms T.d_law_all_forms ["base", "form"] (spM K 2 fn_law_all_forms) := by
  refine fn_ok T.F_law_all_forms sc_law_all_forms rfl (by decide) fun cdv A outer s H E (hr : Room 3 _) => ?_
  have hu : (XX P w K mg base ["base", "form", "n", "x", "y", "one", "other", "found", "sheet", "by", "at"] "_law_all_forms" s_law_all_forms T.a_law_all_forms cdv A outer s H E).A.units + 65 < cLine := by
    show (A.deeper _).units + 65 < cLine
    have := hr.un
    omega
  have v0 : ∀ p, DE (XX P w K mg base ["base", "form", "n", "x", "y", "one", "other", "found", "sheet", "by", "at"] "_law_all_forms" s_law_all_forms T.a_law_all_forms cdv A outer s H E) (.Name "base" p) (tVar 0) (rdV 0) := fun p => de_var rfl (Or.inl rfl)
  have v1 : ∀ p, DE (XX P w K mg base ["base", "form", "n", "x", "y", "one", "other", "found", "sheet", "by", "at"] "_law_all_forms" s_law_all_forms T.a_law_all_forms cdv A outer s H E) (.Name "form" p) (tVar 1) (rdV 1) := fun p => de_var rfl (Or.inl rfl)
  have v2 : ∀ p, DE (XX P w K mg base ["base", "form", "n", "x", "y", "one", "other", "found", "sheet", "by", "at"] "_law_all_forms" s_law_all_forms T.a_law_all_forms cdv A outer s H E) (.Name "n" p) (tVar 2) (rdV 2) := fun p => de_var rfl (Or.inr (Or.inl rfl))
  have v3 : ∀ p, DE (XX P w K mg base ["base", "form", "n", "x", "y", "one", "other", "found", "sheet", "by", "at"] "_law_all_forms" s_law_all_forms T.a_law_all_forms cdv A outer s H E) (.Name "x" p) (tVar 3) (rdV 3) := fun p => de_var rfl (Or.inl rfl)
  have v4 : ∀ p, DE (XX P w K mg base ["base", "form", "n", "x", "y", "one", "other", "found", "sheet", "by", "at"] "_law_all_forms" s_law_all_forms T.a_law_all_forms cdv A outer s H E) (.Name "y" p) (tVar 4) (rdV 4) := fun p => de_var rfl (Or.inl rfl)
  have v5 : ∀ p, DE (XX P w K mg base ["base", "form", "n", "x", "y", "one", "other", "found", "sheet", "by", "at"] "_law_all_forms" s_law_all_forms T.a_law_all_forms cdv A outer s H E) (.Name "one" p) (tVar 5) (rdV 5) := fun p => de_var rfl (Or.inl rfl)
  have v6 : ∀ p, DE (XX P w K mg base ["base", "form", "n", "x", "y", "one", "other", "found", "sheet", "by", "at"] "_law_all_forms" s_law_all_forms T.a_law_all_forms cdv A outer s H E) (.Name "other" p) (tVar 6) (rdV 6) := fun p => de_var rfl (Or.inl rfl)
  have v7 : ∀ p, DE (XX P w K mg base ["base", "form", "n", "x", "y", "one", "other", "found", "sheet", "by", "at"] "_law_all_forms" s_law_all_forms T.a_law_all_forms cdv A outer s H E) (.Name "found" p) (tVar 7) (rdV 7) := fun p => de_var rfl (Or.inl rfl)
  have v9 : ∀ p, DE (XX P w K mg base ["base", "form", "n", "x", "y", "one", "other", "found", "sheet", "by", "at"] "_law_all_forms" s_law_all_forms T.a_law_all_forms cdv A outer s H E) (.Name "by" p) (tVar 9) (rdV 9) := fun p => de_var rfl (Or.inl rfl)
  exact ⟨_, (show DSs (XX P w K mg base ["base", "form", "n", "x", "y", "one", "other", "found", "sheet", "by", "at"] "_law_all_forms" s_law_all_forms T.a_law_all_forms cdv A outer s H E) (defBody s_law_all_forms) _ b_law_all_forms from (dss_cons (ds_set (i := 2) sc_law_all_forms.nd rfl (Or.inr rfl) (de_mul (k_ix (K := K) (by rfl) (v1 _) de_int (by intro _ _; rfl)) (k_ix (K := K) (by rfl) (v1 _) de_int (by intro _ _; rfl))))
  (dss_cons (ds_asg (k_call (K := K) (by rfl) (G_law_steps T) (by exact hr.mono (by decide)) (by rfl) T.g_law_steps T.F_law_steps.kp (bind_law_steps T) pass0 (da_cons (v0 _) (da_cons (v1 _) da_nil)) (da_len1 (da_len1 da_len0))) (k_gtup (K := K) (by rfl) (by rfl) (dgs_cons (dg_name (i := 3) sc_law_all_forms.nd rfl (Or.inl rfl)) (dgs_cons (dg_name (i := 4) sc_law_all_forms.nd rfl (Or.inl rfl)) dgs_nil))))
  (dss_cons (ds_asg (k_call (K := K) (by rfl) (G_law_letters_of T) (by exact hr.mono (by decide)) (by rfl) T.g_law_letters_of T.F_law_letters_of.kp (bind_law_letters_of T) pass0 (da_cons (v0 _) (da_cons (v3 _) (da_cons (v4 _) da_nil))) (da_len1 (da_len1 (da_len1 da_len0)))) (k_gtup (K := K) (by rfl) (by rfl) (dgs_cons (dg_name (i := 5) sc_law_all_forms.nd rfl (Or.inl rfl)) (dgs_cons (dg_name (i := 6) sc_law_all_forms.nd rfl (Or.inl rfl)) dgs_nil))))
  (dss_cons (ds_set (i := 7) sc_law_all_forms.nd rfl (Or.inl rfl) (de_lst da_nil))
  (dss_cons (ds_for PassesOwn.never rfl (di_range1 (by rfl) T.z_range (da_cons (v2 _) da_nil)) (dg_name (i := 8) sc_law_all_forms.nd rfl (Or.inr rfl)) (dss_cons (ds_set (i := 9) sc_law_all_forms.nd rfl (Or.inl rfl) (k_callT1 (K := K) (by rfl) (kc_tuple (K := K) (by rfl)) tupleD_ok (by rfl) T.z_tuple (by decide +kernel) (de_lc (own := [("at", 10)]) (is := [10]) rfl sc_law_all_forms.nd (di_range1 (by rfl) T.z_range (da_cons (v2 _) da_nil)) (blkOk_by (own := [("at", 10)]) (N := ["base", "form", "n", "x", "y", "one", "other", "found", "sheet", "by", "at"]) (sc := defScope s_law_all_forms) (by decide +kernel)) (fun _ _ _ _ _ => (dg_name (i := 10) sc_law_all_forms.nd rfl (Or.inl rfl))) (by decide) (fun _ _ _ _ _ => dts_nil) (fun _ _ _ _ _ => (de_mod (k_callT1 (K := K) (by rfl) (kc_int (K := K) (by rfl)) intD_ok (by rfl) T.z_int (by decide +kernel) (de_sub (k_add (K := K) (by rfl) (de_var (i := 10) (x := "at") rfl (Or.inl rfl)) (de_var (i := 2) (x := "n") rfl (Or.inr (Or.inl rfl)))) (de_var (i := 8) (x := "sheet") rfl (Or.inr (Or.inl rfl))))) (de_var (i := 2) (x := "n") rfl (Or.inr (Or.inl rfl))))))))
  (dss_one (ds_app (j := 7) rfl (Or.inl rfl) (k_call (K := K) (by rfl) (G_law_form T) (by exact hr.mono (by decide)) (by rfl) T.g_law_form T.F_law_form.kp (bind_law_form T) pass0 (da_cons (v0 _) (da_cons (k_call (K := K) (by rfl) (G_law_turned T) (by exact hr.mono (by decide)) (by rfl) T.g_law_turned T.F_law_turned.kp (bind_law_turned T) pass0 (da_cons (v5 _) (da_cons (v9 _) da_nil)) (da_len1 (da_len1 da_len0))) (da_cons (k_call (K := K) (by rfl) (G_law_turned T) (by exact hr.mono (by decide)) (by rfl) T.g_law_turned T.F_law_turned.kp (bind_law_turned T) pass0 (da_cons (v6 _) (da_cons (v9 _) da_nil)) (da_len1 (da_len1 da_len0))) da_nil))) (da_len1 (da_len1 (da_len1 da_len0))))))))
  (dss_one (ds_ret (v7 _)))))))))⟩
theorem G_least_form (T : Txt K mg) : FnOk P w K mg base CX0 1 T.a_least_form T.d_least_form ["base", "form"] (spM K 2 fn_least_form) := by
  refine fn_ok T.F_least_form sc_least_form rfl (by decide) fun cdv A outer s H E (hr : Room 0 _) => ?_
  have hu : (XX P w K mg base ["base", "form", "many", "shift", "round_by"] "least_form" s_least_form T.a_least_form cdv A outer s H E).A.units + 65 < cLine := by
    show (A.deeper _).units + 65 < cLine
    have := hr.un
    omega
  have v0 : ∀ p, DE (XX P w K mg base ["base", "form", "many", "shift", "round_by"] "least_form" s_least_form T.a_least_form cdv A outer s H E) (.Name "base" p) (tVar 0) (rdV 0) := fun p => de_var rfl (Or.inl rfl)
  have v1 : ∀ p, DE (XX P w K mg base ["base", "form", "many", "shift", "round_by"] "least_form" s_least_form T.a_least_form cdv A outer s H E) (.Name "form" p) (tVar 1) (rdV 1) := fun p => de_var rfl (Or.inl rfl)
  have v2 : ∀ p, DE (XX P w K mg base ["base", "form", "many", "shift", "round_by"] "least_form" s_least_form T.a_least_form cdv A outer s H E) (.Name "many" p) (tVar 2) (rdV 2) := fun p => de_var rfl (Or.inl rfl)
  have v3 : ∀ p, DE (XX P w K mg base ["base", "form", "many", "shift", "round_by"] "least_form" s_least_form T.a_least_form cdv A outer s H E) (.Name "shift" p) (tVar 3) (rdV 3) := fun p => de_var rfl (Or.inl rfl)
  have v4 : ∀ p, DE (XX P w K mg base ["base", "form", "many", "shift", "round_by"] "least_form" s_least_form T.a_least_form cdv A outer s H E) (.Name "round_by" p) (tVar 4) (rdV 4) := fun p => de_var rfl (Or.inl rfl)
  exact ⟨_, (show DSs (XX P w K mg base ["base", "form", "many", "shift", "round_by"] "least_form" s_least_form T.a_least_form cdv A outer s H E) (defBody s_least_form) _ b_least_form from (dss_cons (ds_asg (v1 _) (k_gtup (K := K) (by rfl) (by rfl) (dgs_cons (dg_name (i := 2) sc_least_form.nd rfl (Or.inl rfl)) (dgs_cons (dg_name (i := 3) sc_least_form.nd rfl (Or.inl rfl)) (dgs_cons (dg_name (i := 4) sc_least_form.nd rfl (Or.inl rfl)) dgs_nil)))))
  (dss_cons (ds_ite (kt_cmp (K := K) (by rfl) (ko_eq (K := K) (by rfl) (by exact hu)) eqD_ok (k_ix (K := K) (by rfl) (v0 _) de_int (by intro _ _; rfl)) de_str (nomark _)) (dss_one (ds_ret (v1 _))) dss_nil)
  (dss_cons (ds_ite (kt_cmp (K := K) (by rfl) (ko_eq (K := K) (by rfl) (by exact hu)) eqD_ok (de_mod (v2 _) de_int) de_int (nomark _)) (dss_one (ds_ret (de_tup (da_cons (v2 _) (da_cons (de_if (kt_cmp (K := K) (by rfl) (ko_eq (K := K) (by rfl) (by exact hu)) eqD_ok (de_mod (v4 _) de_int) de_int (nomark _)) (de_mod (v3 _) de_int) de_int) (da_cons (v4 _) da_nil)))))) dss_nil)
  (dss_one (ds_ret (de_tup (da_cons (v2 _) (da_cons (k_callBN (K := K) (by rfl) (call_min2 (by rfl)) min2D_ok (by rfl) T.z_min (by decide +kernel) (da_cons (v3 _) (da_cons (de_mod (de_neg (v3 _)) (v4 _)) da_nil))) (da_cons (v4 _) da_nil))))))))))⟩
theorem G_is_regular_form (T : Txt K mg) : FnOk P w K mg base CX0 1 T.a_is_regular_form T.d_is_regular_form ["base", "form"] (spM K 2 fn_is_regular_form) := by
  refine fn_ok T.F_is_regular_form sc_is_regular_form rfl (by decide) fun cdv A outer s H E (hr : Room 0 _) => ?_
  have hu : (XX P w K mg base ["base", "form", "many", "shift", "round_by"] "is_regular_form" s_is_regular_form T.a_is_regular_form cdv A outer s H E).A.units + 65 < cLine := by
    show (A.deeper _).units + 65 < cLine
    have := hr.un
    omega
  have v0 : ∀ p, DE (XX P w K mg base ["base", "form", "many", "shift", "round_by"] "is_regular_form" s_is_regular_form T.a_is_regular_form cdv A outer s H E) (.Name "base" p) (tVar 0) (rdV 0) := fun p => de_var rfl (Or.inl rfl)
  have v1 : ∀ p, DE (XX P w K mg base ["base", "form", "many", "shift", "round_by"] "is_regular_form" s_is_regular_form T.a_is_regular_form cdv A outer s H E) (.Name "form" p) (tVar 1) (rdV 1) := fun p => de_var rfl (Or.inl rfl)
  have v2 : ∀ p, DE (XX P w K mg base ["base", "form", "many", "shift", "round_by"] "is_regular_form" s_is_regular_form T.a_is_regular_form cdv A outer s H E) (.Name "many" p) (tVar 2) (rdV 2) := fun p => de_var rfl (Or.inl rfl)
  have v3 : ∀ p, DE (XX P w K mg base ["base", "form", "many", "shift", "round_by"] "is_regular_form" s_is_regular_form T.a_is_regular_form cdv A outer s H E) (.Name "shift" p) (tVar 3) (rdV 3) := fun p => de_var rfl (Or.inl rfl)
  have v4 : ∀ p, DE (XX P w K mg base ["base", "form", "many", "shift", "round_by"] "is_regular_form" s_is_regular_form T.a_is_regular_form cdv A outer s H E) (.Name "round_by" p) (tVar 4) (rdV 4) := fun p => de_var rfl (Or.inl rfl)
  exact ⟨_, (show DSs (XX P w K mg base ["base", "form", "many", "shift", "round_by"] "is_regular_form" s_is_regular_form T.a_is_regular_form cdv A outer s H E) (defBody s_is_regular_form) _ b_is_regular_form from (dss_cons (ds_asg (v1 _) (k_gtup (K := K) (by rfl) (by rfl) (dgs_cons (dg_name (i := 2) sc_is_regular_form.nd rfl (Or.inl rfl)) (dgs_cons (dg_name (i := 3) sc_is_regular_form.nd rfl (Or.inl rfl)) (dgs_cons (dg_name (i := 4) sc_is_regular_form.nd rfl (Or.inl rfl)) dgs_nil)))))
  (dss_cons (ds_ite (kt_cmp (K := K) (by rfl) (ko_eq (K := K) (by rfl) (by exact hu)) eqD_ok (k_ix (K := K) (by rfl) (v0 _) de_int (by intro _ _; rfl)) de_str (nomark _)) (dss_one (ds_ret de_bl)) dss_nil)
  (dss_one (ds_ret (de_if (kt_cmp (K := K) (by rfl) (ko_eq (K := K) (by rfl) (by exact hu)) eqD_ok (de_mod (v2 _) de_int) de_int (nomark _)) (k_cmp (K := K) (by rfl) op_le cmpI_ok (v4 _) de_int (nomark _)) (k_cmp (K := K) (by rfl) (ko_eq (K := K) (by rfl) (by exact hu)) eqD_ok (de_mod (de_mul de_int (v3 _)) (v4 _)) de_int (nomark _))))))))⟩
theorem G_plain_steps (T : Txt K mg) : FnOk P w K mg base CX0 1 T.a_plain_steps T.d_plain_steps ["base", "form"] (spM K 2 fn_plain_steps) := by
  refine fn_ok T.F_plain_steps sc_plain_steps rfl (by decide) fun cdv A outer s H E (hr : Room 0 _) => ?_
  have hu : (XX P w K mg base ["base", "form", "many", "shift", "round_by", "back", "first", "second", "row", "at", "place"] "plain_steps" s_plain_steps T.a_plain_steps cdv A outer s H E).A.units + 65 < cLine := by
    show (A.deeper _).units + 65 < cLine
    have := hr.un
    omega
  have v0 : ∀ p, DE (XX P w K mg base ["base", "form", "many", "shift", "round_by", "back", "first", "second", "row", "at", "place"] "plain_steps" s_plain_steps T.a_plain_steps cdv A outer s H E) (.Name "base" p) (tVar 0) (rdV 0) := fun p => de_var rfl (Or.inl rfl)
  have v1 : ∀ p, DE (XX P w K mg base ["base", "form", "many", "shift", "round_by", "back", "first", "second", "row", "at", "place"] "plain_steps" s_plain_steps T.a_plain_steps cdv A outer s H E) (.Name "form" p) (tVar 1) (rdV 1) := fun p => de_var rfl (Or.inl rfl)
  have v2 : ∀ p, DE (XX P w K mg base ["base", "form", "many", "shift", "round_by", "back", "first", "second", "row", "at", "place"] "plain_steps" s_plain_steps T.a_plain_steps cdv A outer s H E) (.Name "many" p) (tVar 2) (rdV 2) := fun p => de_var rfl (Or.inl rfl)
  have v3 : ∀ p, DE (XX P w K mg base ["base", "form", "many", "shift", "round_by", "back", "first", "second", "row", "at", "place"] "plain_steps" s_plain_steps T.a_plain_steps cdv A outer s H E) (.Name "shift" p) (tVar 3) (rdV 3) := fun p => de_var rfl (Or.inl rfl)
  have v4 : ∀ p, DE (XX P w K mg base ["base", "form", "many", "shift", "round_by", "back", "first", "second", "row", "at", "place"] "plain_steps" s_plain_steps T.a_plain_steps cdv A outer s H E) (.Name "round_by" p) (tVar 4) (rdV 4) := fun p => de_var rfl (Or.inl rfl)
  have v5 : ∀ p, DE (XX P w K mg base ["base", "form", "many", "shift", "round_by", "back", "first", "second", "row", "at", "place"] "plain_steps" s_plain_steps T.a_plain_steps cdv A outer s H E) (.Name "back" p) (tVar 5) (rdV 5) := fun p => de_var rfl (Or.inl rfl)
  have v6 : ∀ p, DE (XX P w K mg base ["base", "form", "many", "shift", "round_by", "back", "first", "second", "row", "at", "place"] "plain_steps" s_plain_steps T.a_plain_steps cdv A outer s H E) (.Name "first" p) (tVar 6) (rdV 6) := fun p => de_var rfl (Or.inl rfl)
  have v7 : ∀ p, DE (XX P w K mg base ["base", "form", "many", "shift", "round_by", "back", "first", "second", "row", "at", "place"] "plain_steps" s_plain_steps T.a_plain_steps cdv A outer s H E) (.Name "second" p) (tVar 7) (rdV 7) := fun p => de_var rfl (Or.inl rfl)
  have v8 : ∀ p, DE (XX P w K mg base ["base", "form", "many", "shift", "round_by", "back", "first", "second", "row", "at", "place"] "plain_steps" s_plain_steps T.a_plain_steps cdv A outer s H E) (.Name "row" p) (tVar 8) (rdV 8) := fun p => de_var rfl (Or.inl rfl)
  have v9 : ∀ p, DE (XX P w K mg base ["base", "form", "many", "shift", "round_by", "back", "first", "second", "row", "at", "place"] "plain_steps" s_plain_steps T.a_plain_steps cdv A outer s H E) (.Name "at" p) (tVar 9) (rdV 9) := fun p => de_var rfl (Or.inl rfl)
  have v10 : ∀ p, DE (XX P w K mg base ["base", "form", "many", "shift", "round_by", "back", "first", "second", "row", "at", "place"] "plain_steps" s_plain_steps T.a_plain_steps cdv A outer s H E) (.Name "place" p) (tVar 10) (rdV 10) := fun p => de_var rfl (Or.inl rfl)
  exact ⟨_, (show DSs (XX P w K mg base ["base", "form", "many", "shift", "round_by", "back", "first", "second", "row", "at", "place"] "plain_steps" s_plain_steps T.a_plain_steps cdv A outer s H E) (defBody s_plain_steps) _ b_plain_steps from (dss_cons (ds_asg (v1 _) (k_gtup (K := K) (by rfl) (by rfl) (dgs_cons (dg_name (i := 2) sc_plain_steps.nd rfl (Or.inl rfl)) (dgs_cons (dg_name (i := 3) sc_plain_steps.nd rfl (Or.inl rfl)) (dgs_cons (dg_name (i := 4) sc_plain_steps.nd rfl (Or.inl rfl)) dgs_nil)))))
  (dss_cons (ds_set (i := 5) sc_plain_steps.nd rfl (Or.inl rfl) (k_cmp (K := K) (by rfl) (ko_eq (K := K) (by rfl) (by exact hu)) eqD_ok (k_ix (K := K) (by rfl) (v0 _) de_int (by intro _ _; rfl)) de_str (nomark _)))
  (dss_cons (ds_set (i := 6) sc_plain_steps.nd rfl (Or.inl rfl) (de_lst da_nil))
  (dss_cons (ds_set (i := 7) sc_plain_steps.nd rfl (Or.inl rfl) (de_lst da_nil))
  (dss_cons (ds_for PassesOwn.never rfl (di_range1 (by rfl) T.z_range (da_cons (v2 _) da_nil)) (dg_name (i := 8) sc_plain_steps.nd rfl (Or.inl rfl)) (dss_one (ds_for PassesOwn.never rfl (di_range1 (by rfl) T.z_range (da_cons (v4 _) da_nil)) (dg_name (i := 9) sc_plain_steps.nd rfl (Or.inl rfl)) (dss_cons (ds_set (i := 10) sc_plain_steps.nd rfl (Or.inl rfl) (de_if (k_truth (K := K) (by rfl) (v5 _) (by intro _; rfl)) (de_neg (v9 _)) (v9 _)))
  (dss_cons (ds_ite (kt_cmp (K := K) (by rfl) (ko_eq (K := K) (by rfl) (by exact hu)) eqD_ok (v8 _) (de_sub (v2 _) de_int) (nomark _)) (dss_one (ds_app (j := 6) rfl (Or.inl rfl) (de_mod (de_sub (v10 _) (v3 _)) (v4 _)))) (dss_one (ds_app (j := 6) rfl (Or.inl rfl) (k_add (K := K) (by rfl) (de_mul (k_add (K := K) (by rfl) (v8 _) de_int) (v4 _)) (de_mod (v10 _) (v4 _))))))
  (dss_one (ds_app (j := 7) rfl (Or.inl rfl) (k_add (K := K) (by rfl) (de_mul (v8 _) (v4 _)) (de_mod (k_add (K := K) (by rfl) (v9 _) de_int) (v4 _))))))))))
  (dss_one (ds_ret (de_tup (da_cons (k_callT1 (K := K) (by rfl) (kc_tuple (K := K) (by rfl)) tupleD_ok (by rfl) T.z_tuple (by decide +kernel) (v6 _)) (da_cons (k_callT1 (K := K) (by rfl) (kc_tuple (K := K) (by rfl)) tupleD_ok (by rfl) T.z_tuple (by decide +kernel) (v7 _)) da_nil)))))))))))⟩
theorem G_times (T : Txt K mg) : FnOk P w K mg base CX0 1 T.a_times T.d_times ["one", "other"] (spM K 2 fn_times) := by
  refine fn_ok T.F_times sc_times rfl (by decide) fun cdv A outer s H E (hr : Room 0 _) => ?_
  have hu : (XX P w K mg base ["one", "other", "sheet"] "times" s_times T.a_times cdv A outer s H E).A.units + 65 < cLine := by
    show (A.deeper _).units + 65 < cLine
    have := hr.un
    omega
  have v0 : ∀ p, DE (XX P w K mg base ["one", "other", "sheet"] "times" s_times T.a_times cdv A outer s H E) (.Name "one" p) (tVar 0) (rdV 0) := fun p => de_var rfl (Or.inl rfl)
  exact ⟨_, (show DSs (XX P w K mg base ["one", "other", "sheet"] "times" s_times T.a_times cdv A outer s H E) (defBody s_times) _ b_times from (dss_one (ds_ret (k_callT1 (K := K) (by rfl) (kc_tuple (K := K) (by rfl)) tupleD_ok (by rfl) T.z_tuple (by decide +kernel) (de_lc (own := [("sheet", 2)]) (is := [2]) rfl sc_times.nd (k_seq (K := K) (by rfl) (v0 _)) (blkOk_by (own := [("sheet", 2)]) (N := ["one", "other", "sheet"]) (sc := defScope s_times) (by decide +kernel)) (fun _ _ _ _ _ => (dg_name (i := 2) sc_times.nd rfl (Or.inl rfl))) (by decide) (fun _ _ _ _ _ => dts_nil) (fun _ _ _ _ _ => (k_ix (K := K) (by rfl) (de_var (i := 1) (x := "other") rfl (Or.inr (Or.inl rfl))) (de_var (i := 2) (x := "sheet") rfl (Or.inl rfl)) (by intro _ _; rfl))))))))⟩
theorem G_identity (T : Txt K mg) : FnOk P w K mg base CX0 1 T.a_identity T.d_identity ["n"] (spM K 1 fn_identity) := by
  refine fn_ok T.F_identity sc_identity rfl (by decide) fun cdv A outer s H E (hr : Room 0 _) => ?_
  have hu : (XX P w K mg base ["n"] "identity" s_identity T.a_identity cdv A outer s H E).A.units + 65 < cLine := by
    show (A.deeper _).units + 65 < cLine
    have := hr.un
    omega
  have v0 : ∀ p, DE (XX P w K mg base ["n"] "identity" s_identity T.a_identity cdv A outer s H E) (.Name "n" p) (tVar 0) (rdV 0) := fun p => de_var rfl (Or.inl rfl)
  exact ⟨_, (show DSs (XX P w K mg base ["n"] "identity" s_identity T.a_identity cdv A outer s H E) (defBody s_identity) _ b_identity from (dss_one (ds_ret (de_tupleRg rfl (by rfl) T.z_tuple (dr_1 (by rfl) T.z_range (v0 _))))))⟩
theorem G_product (T : Txt K mg) : FnOk P w K mg base CX0 2 T.a_product T.d_product ["n", "rows"] (spM K 2 fn_product) := by
  refine fn_ok T.F_product sc_product rfl (by decide) fun cdv A outer s H E (hr : Room 1 _) => ?_
  have hu : (XX P w K mg base ["n", "rows", "told", "perm"] "product" s_product T.a_product cdv A outer s H E).A.units + 65 < cLine := by
    show (A.deeper _).units + 65 < cLine
    have := hr.un
    omega
  have v0 : ∀ p, DE (XX P w K mg base ["n", "rows", "told", "perm"] "product" s_product T.a_product cdv A outer s H E) (.Name "n" p) (tVar 0) (rdV 0) := fun p => de_var rfl (Or.inl rfl)
  have v1 : ∀ p, DE (XX P w K mg base ["n", "rows", "told", "perm"] "product" s_product T.a_product cdv A outer s H E) (.Name "rows" p) (tVar 1) (rdV 1) := fun p => de_var rfl (Or.inl rfl)
  have v2 : ∀ p, DE (XX P w K mg base ["n", "rows", "told", "perm"] "product" s_product T.a_product cdv A outer s H E) (.Name "told" p) (tVar 2) (rdV 2) := fun p => de_var rfl (Or.inl rfl)
  have v3 : ∀ p, DE (XX P w K mg base ["n", "rows", "told", "perm"] "product" s_product T.a_product cdv A outer s H E) (.Name "perm" p) (tVar 3) (rdV 3) := fun p => de_var rfl (Or.inl rfl)
  exact ⟨_, (show DSs (XX P w K mg base ["n", "rows", "told", "perm"] "product" s_product T.a_product cdv A outer s H E) (defBody s_product) _ b_product from (dss_cons (ds_set (i := 2) sc_product.nd rfl (Or.inl rfl) (k_call (K := K) (by rfl) (G_identity T) (by exact hr.mono (by decide)) (by rfl) T.g_identity T.F_identity.kp (bind_identity T) pass0 (da_cons (v0 _) da_nil) (da_len1 da_len0)))
  (dss_cons (ds_for PassesOwn.never rfl (k_seq (K := K) (by rfl) (v1 _)) (dg_name (i := 3) sc_product.nd rfl (Or.inl rfl)) (dss_one (ds_set (i := 2) sc_product.nd rfl (Or.inl rfl) (k_call (K := K) (by rfl) (G_times T) (by exact hr.mono (by decide)) (by rfl) T.g_times T.F_times.kp (bind_times T) pass0 (da_cons (v2 _) (da_cons (v3 _) da_nil)) (da_len1 (da_len1 da_len0))))))
  (dss_one (ds_ret (v2 _))))))⟩
theorem G_inverse (T : Txt K mg) : FnOk P w K mg base CX0 1 T.a_inverse T.d_inverse ["perm"] (spM K 1 fn_inverse) := by
  refine fn_ok T.F_inverse sc_inverse rfl (by decide) fun cdv A outer s H E (hr : Room 0 _) => ?_
  have hu : (XX P w K mg base ["perm", "told", "sheet", "goal"] "inverse" s_inverse T.a_inverse cdv A outer s H E).A.units + 65 < cLine := by
    show (A.deeper _).units + 65 < cLine
    have := hr.un
    omega
  have v0 : ∀ p, DE (XX P w K mg base ["perm", "told", "sheet", "goal"] "inverse" s_inverse T.a_inverse cdv A outer s H E) (.Name "perm" p) (tVar 0) (rdV 0) := fun p => de_var rfl (Or.inl rfl)
  have v1 : ∀ p, DE (XX P w K mg base ["perm", "told", "sheet", "goal"] "inverse" s_inverse T.a_inverse cdv A outer s H E) (.Name "told" p) (tVar 1) (rdV 1) := fun p => de_var rfl (Or.inl rfl)
  have v2 : ∀ p, DE (XX P w K mg base ["perm", "told", "sheet", "goal"] "inverse" s_inverse T.a_inverse cdv A outer s H E) (.Name "sheet" p) (tVar 2) (rdV 2) := fun p => de_var rfl (Or.inl rfl)
  have v3 : ∀ p, DE (XX P w K mg base ["perm", "told", "sheet", "goal"] "inverse" s_inverse T.a_inverse cdv A outer s H E) (.Name "goal" p) (tVar 3) (rdV 3) := fun p => de_var rfl (Or.inl rfl)
  exact ⟨_, (show DSs (XX P w K mg base ["perm", "told", "sheet", "goal"] "inverse" s_inverse T.a_inverse cdv A outer s H E) (defBody s_inverse) _ b_inverse from (dss_cons (ds_set (i := 1) sc_inverse.nd rfl (Or.inl rfl) (de_mul (de_lst (da_cons de_int da_nil)) (k_callB1 (K := K) (by rfl) (kc_len (K := K) (by rfl)) lenD_ok (by rfl) T.z_len PySem.boot_len (v0 _))))
  (dss_cons (ds_for PassesOwn.never rfl (k_enum (K := K) (by rfl) (by rfl) T.z_enumerate (v0 _)) (k_gtup (K := K) (by rfl) (by rfl) (dgs_cons (dg_name (i := 2) sc_inverse.nd rfl (Or.inl rfl)) (dgs_cons (dg_name (i := 3) sc_inverse.nd rfl (Or.inl rfl)) dgs_nil))) (dss_one (ds_sto (j := 1) rfl (Or.inl rfl) (v2 _) (v3 _))))
  (dss_one (ds_ret (k_callT1 (K := K) (by rfl) (kc_tuple (K := K) (by rfl)) tupleD_ok (by rfl) T.z_tuple (by decide +kernel) (v1 _)))))))⟩
theorem G_two_squares_of (T : Txt K mg) : FnOk P w K mg base CX0 3 T.a_two_squares_of T.d_two_squares_of ["x", "y"] (spM K 2 fn_two_squares_of) := by
  refine fn_ok T.F_two_squares_of sc_two_squares_of rfl (by decide) fun cdv A outer s H E (hr : Room 2 _) => ?_
  have hu : (XX P w K mg base ["x", "y"] "two_squares_of" s_two_squares_of T.a_two_squares_of cdv A outer s H E).A.units + 65 < cLine := by
    show (A.deeper _).units + 65 < cLine
    have := hr.un
    omega
  have v0 : ∀ p, DE (XX P w K mg base ["x", "y"] "two_squares_of" s_two_squares_of T.a_two_squares_of cdv A outer s H E) (.Name "x" p) (tVar 0) (rdV 0) := fun p => de_var rfl (Or.inl rfl)
  have v1 : ∀ p, DE (XX P w K mg base ["x", "y"] "two_squares_of" s_two_squares_of T.a_two_squares_of cdv A outer s H E) (.Name "y" p) (tVar 1) (rdV 1) := fun p => de_var rfl (Or.inl rfl)
  exact ⟨_, (show DSs (XX P w K mg base ["x", "y"] "two_squares_of" s_two_squares_of T.a_two_squares_of cdv A outer s H E) (defBody s_two_squares_of) _ b_two_squares_of from (dss_one (ds_ret (de_tup (da_cons (k_call (K := K) (by rfl) (G_times T) (by exact hr.mono (by decide)) (by rfl) T.g_times T.F_times.kp (bind_times T) pass0 (da_cons (v0 _) (da_cons (v1 _) da_nil)) (da_len1 (da_len1 da_len0))) (da_cons (k_call (K := K) (by rfl) (G_product T) (by exact hr.mono (by decide)) (by rfl) T.g_product T.F_product.kp (bind_product T) pass0 (da_cons (k_callB1 (K := K) (by rfl) (kc_len (K := K) (by rfl)) lenD_ok (by rfl) T.z_len PySem.boot_len (v0 _)) (da_cons (de_lst (da_cons (k_call (K := K) (by rfl) (G_inverse T) (by exact hr.mono (by decide)) (by rfl) T.g_inverse T.F_inverse.kp (bind_inverse T) pass0 (da_cons (v1 _) da_nil) (da_len1 da_len0)) (da_cons (k_call (K := K) (by rfl) (G_inverse T) (by exact hr.mono (by decide)) (by rfl) T.g_inverse T.F_inverse.kp (bind_inverse T) pass0 (da_cons (v0 _) da_nil) (da_len1 da_len0)) (da_cons (v1 _) da_nil)))) da_nil)) (da_len1 (da_len1 da_len0))) da_nil))))))⟩
theorem G_of_form (T : Txt K mg) : FnOk P w K mg base CX0 4 T.a_of_form T.d_of_form ["base", "form"] (spM K 2 fn_of_form) := by
  refine fn_ok T.F_of_form sc_of_form rfl (by decide) fun cdv A outer s H E (hr : Room 3 _) => ?_
  have hu : (XX P w K mg base ["base", "form", "first", "second"] "of_form" s_of_form T.a_of_form cdv A outer s H E).A.units + 65 < cLine := by
    show (A.deeper _).units + 65 < cLine
    have := hr.un
    omega
  have v0 : ∀ p, DE (XX P w K mg base ["base", "form", "first", "second"] "of_form" s_of_form T.a_of_form cdv A outer s H E) (.Name "base" p) (tVar 0) (rdV 0) := fun p => de_var rfl (Or.inl rfl)
  have v1 : ∀ p, DE (XX P w K mg base ["base", "form", "first", "second"] "of_form" s_of_form T.a_of_form cdv A outer s H E) (.Name "form" p) (tVar 1) (rdV 1) := fun p => de_var rfl (Or.inl rfl)
  have v2 : ∀ p, DE (XX P w K mg base ["base", "form", "first", "second"] "of_form" s_of_form T.a_of_form cdv A outer s H E) (.Name "first" p) (tVar 2) (rdV 2) := fun p => de_var rfl (Or.inl rfl)
  have v3 : ∀ p, DE (XX P w K mg base ["base", "form", "first", "second"] "of_form" s_of_form T.a_of_form cdv A outer s H E) (.Name "second" p) (tVar 3) (rdV 3) := fun p => de_var rfl (Or.inl rfl)
  exact ⟨_, (show DSs (XX P w K mg base ["base", "form", "first", "second"] "of_form" s_of_form T.a_of_form cdv A outer s H E) (defBody s_of_form) _ b_of_form from (dss_cons (ds_asg (k_call (K := K) (by rfl) (G_plain_steps T) (by exact hr.mono (by decide)) (by rfl) T.g_plain_steps T.F_plain_steps.kp (bind_plain_steps T) pass0 (da_cons (v0 _) (da_cons (v1 _) da_nil)) (da_len1 (da_len1 da_len0))) (k_gtup (K := K) (by rfl) (by rfl) (dgs_cons (dg_name (i := 2) sc_of_form.nd rfl (Or.inl rfl)) (dgs_cons (dg_name (i := 3) sc_of_form.nd rfl (Or.inl rfl)) dgs_nil))))
  (dss_cons (ds_ite (kt_cmp (K := K) (by rfl) (ko_eq (K := K) (by rfl) (by exact hu)) eqD_ok (k_ix (K := K) (by rfl) (v0 _) de_int (by intro _ _; rfl)) de_str (nomark _)) (dss_one (ds_ret (de_tup (da_cons (v2 _) (da_cons (v3 _) da_nil))))) dss_nil)
  (dss_one (ds_ret (k_call (K := K) (by rfl) (G_two_squares_of T) (by exact hr.mono (by decide)) (by rfl) T.g_two_squares_of T.F_two_squares_of.kp (bind_two_squares_of T) pass0 (da_cons (v2 _) (da_cons (v3 _) da_nil)) (da_len1 (da_len1 da_len0))))))))⟩
theorem G_forms (T : Txt K mg) : FnOk P w K mg base CX0 1 T.a_forms T.d_forms ["n"] (spM K 1 fn_forms) := by
  refine fn_ok T.F_forms sc_forms rfl (by decide) fun cdv A outer s H E (hr : Room 0 _) => ?_
  have hu : (XX P w K mg base ["n", "k", "s"] "forms" s_forms T.a_forms cdv A outer s H E).A.units + 65 < cLine := by
    show (A.deeper _).units + 65 < cLine
    have := hr.un
    omega
  have v0 : ∀ p, DE (XX P w K mg base ["n", "k", "s"] "forms" s_forms T.a_forms cdv A outer s H E) (.Name "n" p) (tVar 0) (rdV 0) := fun p => de_var rfl (Or.inr (Or.inl rfl))
  exact ⟨_, (show DSs (XX P w K mg base ["n", "k", "s"] "forms" s_forms T.a_forms cdv A outer s H E) (defBody s_forms) _ b_forms from (dss_one (ds_ret (de_lc2 (own := [("k", 1), ("s", 2)]) (is := [1]) (vs1 := [2]) (is1 := [2]) rfl sc_forms.nd (di_range2 (by rfl) T.z_range (da_cons de_int (da_cons (k_add (K := K) (by rfl) (v0 _) de_int) da_nil))) (blkOk_by (own := [("k", 1), ("s", 2)]) (N := ["n", "k", "s"]) (sc := defScope s_forms) (by decide +kernel)) (fun _ _ _ _ _ => (dg_name (i := 1) sc_forms.nd rfl (Or.inl rfl))) (by decide) (fun _ _ _ _ _ => (dts_one (kt_cmp (K := K) (by rfl) (ko_eq (K := K) (by rfl) (by exact hu)) eqD_ok (de_mod (de_var (i := 0) (x := "n") rfl (Or.inr (Or.inl rfl))) (de_var (i := 1) (x := "k") rfl (Or.inl rfl))) de_int (nomark _)))) (fun _ _ _ _ _ => (di_range1 (by rfl) T.z_range (da_cons (de_fdiv (de_var (i := 0) (x := "n") rfl (Or.inr (Or.inl rfl))) (de_var (i := 1) (x := "k") rfl (Or.inl rfl))) da_nil))) (fun _ _ _ _ _ => (dg_name (i := 2) sc_forms.nd rfl (Or.inl rfl))) (by decide) (by decide) (fun _ _ _ _ _ => dts_nil) (fun _ _ _ _ _ => (de_tup (da_cons (de_var (i := 1) (x := "k") rfl (Or.inl rfl)) (da_cons (de_var (i := 2) (x := "s") rfl (Or.inl rfl)) (da_cons (de_fdiv (de_var (i := 0) (x := "n") rfl (Or.inr (Or.inl rfl))) (de_var (i := 1) (x := "k") rfl (Or.inl rfl))) da_nil)))))))))⟩
theorem G_classes (T : Txt K mg) : FnOk P w K mg base CX0 2 T.a_classes T.d_classes ["base", "n"] (spM K 2 fn_classes) := by
  refine fn_ok T.F_classes sc_classes rfl (by decide) fun cdv A outer s H E (hr : Room 1 _) => ?_
  have hu : (XX P w K mg base ["base", "n", "form"] "classes" s_classes T.a_classes cdv A outer s H E).A.units + 65 < cLine := by
    show (A.deeper _).units + 65 < cLine
    have := hr.un
    omega
  have v1 : ∀ p, DE (XX P w K mg base ["base", "n", "form"] "classes" s_classes T.a_classes cdv A outer s H E) (.Name "n" p) (tVar 1) (rdV 1) := fun p => de_var rfl (Or.inl rfl)
  exact ⟨_, (show DSs (XX P w K mg base ["base", "n", "form"] "classes" s_classes T.a_classes cdv A outer s H E) (defBody s_classes) _ b_classes from (dss_one (ds_ret (de_lc (own := [("form", 2)]) (is := [2]) rfl sc_classes.nd (k_seq (K := K) (by rfl) (k_call (K := K) (by rfl) (G_forms T) (by exact hr.mono (by decide)) (by rfl) T.g_forms T.F_forms.kp (bind_forms T) pass0 (da_cons (v1 _) da_nil) (da_len1 da_len0))) (blkOk_by (own := [("form", 2)]) (N := ["base", "n", "form"]) (sc := defScope s_classes) (by decide +kernel)) (fun _ _ _ _ _ => (dg_name (i := 2) sc_classes.nd rfl (Or.inl rfl))) (by decide) (fun _ _ _ _ _ => (dts_one (kt_cmp (K := K) (by rfl) (ko_eq (K := K) (by rfl) (by exact hu)) eqD_ok (k_call (K := K) (by rfl) (G_least_form T) (by exact hr.mono (by decide)) (by rfl) T.g_least_form T.F_least_form.kp (bind_least_form T) pass0 (da_cons (de_var (i := 0) (x := "base") rfl (Or.inr (Or.inl rfl))) (da_cons (de_var (i := 2) (x := "form") rfl (Or.inl rfl)) da_nil)) (da_len1 (da_len1 da_len0))) (de_var (i := 2) (x := "form") rfl (Or.inl rfl)) (nomark _)))) (fun _ _ _ _ _ => (de_var (i := 2) (x := "form") rfl (Or.inl rfl)))))))⟩
/-- the law is true -/
theorem G_law (T : Txt K mg) (main : ∀ ns : List Int, ns.length ≤ 63 → ∃ ps, b_law ⟨(List.replicate 11 Sl.un).set 1 (.fr (.dict [])), stateA ns⟩ = some (.rt (.im (.bool true)) ps)) : FnOk P w K mg base CX0 5 T.a_law T.d_law ["script"] (spLaw K) := by
  refine T.F_law.ok sc_law (fun vs H Q E h => ?_) (fun cdv A outer s H vs Q E (hr : Room 4 _) h => ?_)
  · obtain ⟨a, ns, rfl, _⟩ := h
    rfl
  obtain ⟨a, ns, rfl, hS, hlen, q⟩ := h
  have hu : (XX P w K mg base ["script", "state", "base", "n", "listed", "turn", "form", "found", "told", "few", "due"] "law" s_law T.a_law cdv A outer s H E).A.units + 65 < cLine := by
    show (A.deeper _).units + 65 < cLine
    have := hr.un
    omega
  have v1 : ∀ p, DE (XX P w K mg base ["script", "state", "base", "n", "listed", "turn", "form", "found", "told", "few", "due"] "law" s_law T.a_law cdv A outer s H E) (.Name "state" p) (tVar 1) (rdV 1) := fun p => de_var rfl (Or.inl rfl)
  have v2 : ∀ p, DE (XX P w K mg base ["script", "state", "base", "n", "listed", "turn", "form", "found", "told", "few", "due"] "law" s_law T.a_law cdv A outer s H E) (.Name "base" p) (tVar 2) (rdV 2) := fun p => de_var rfl (Or.inr (Or.inl rfl))
  have v3 : ∀ p, DE (XX P w K mg base ["script", "state", "base", "n", "listed", "turn", "form", "found", "told", "few", "due"] "law" s_law T.a_law cdv A outer s H E) (.Name "n" p) (tVar 3) (rdV 3) := fun p => de_var rfl (Or.inl rfl)
  have v4 : ∀ p, DE (XX P w K mg base ["script", "state", "base", "n", "listed", "turn", "form", "found", "told", "few", "due"] "law" s_law T.a_law cdv A outer s H E) (.Name "listed" p) (tVar 4) (rdV 4) := fun p => de_var rfl (Or.inl rfl)
  have v6 : ∀ p, DE (XX P w K mg base ["script", "state", "base", "n", "listed", "turn", "form", "found", "told", "few", "due"] "law" s_law T.a_law cdv A outer s H E) (.Name "form" p) (tVar 6) (rdV 6) := fun p => de_var rfl (Or.inl rfl)
  have v7 : ∀ p, DE (XX P w K mg base ["script", "state", "base", "n", "listed", "turn", "form", "found", "told", "few", "due"] "law" s_law T.a_law cdv A outer s H E) (.Name "found" p) (tVar 7) (rdV 7) := fun p => de_var rfl (Or.inl rfl)
  have v8 : ∀ p, DE (XX P w K mg base ["script", "state", "base", "n", "listed", "turn", "form", "found", "told", "few", "due"] "law" s_law T.a_law cdv A outer s H E) (.Name "told" p) (tVar 8) (rdV 8) := fun p => de_var rfl (Or.inl rfl)
  have v9 : ∀ p, DE (XX P w K mg base ["script", "state", "base", "n", "listed", "turn", "form", "found", "told", "few", "due"] "law" s_law T.a_law cdv A outer s H E) (.Name "few" p) (tVar 9) (rdV 9) := fun p => de_var rfl (Or.inl rfl)
  have v10 : ∀ p, DE (XX P w K mg base ["script", "state", "base", "n", "listed", "turn", "form", "found", "told", "few", "due"] "law" s_law T.a_law cdv A outer s H E) (.Name "due" p) (tVar 10) (rdV 10) := fun p => de_var rfl (Or.inl rfl)
  have D : DSs (XX P w K mg base ["script", "state", "base", "n", "listed", "turn", "form", "found", "told", "few", "due"] "law" s_law T.a_law cdv A outer s H E) ((defBody s_law).drop 1) _ b_law := (dss_cons (ds_for PassesOwn.never rfl (k_seq (K := K) (by rfl) (de_lst (da_cons (de_tup (da_cons de_str (da_cons de_int da_nil))) (da_cons (de_tup (da_cons de_str (da_cons de_int da_nil))) da_nil)))) (dg_name (i := 2) sc_law.nd rfl (Or.inr rfl)) (dss_cons (ds_set (i := 3) sc_law.nd rfl (Or.inl rfl) (k_add (K := K) (by rfl) de_int (k_call (K := K) (by rfl) (G_law_draw T) (by exact hr.mono (by decide)) (by rfl) T.g_law_draw T.F_law_draw.kp (bind_law_draw T) pass0 (da_cons (v1 _) (da_cons (k_ix (K := K) (by rfl) (de_lst (da_cons de_int (da_cons de_int da_nil))) (k_call (K := K) (by rfl) (G_law_draw T) (by exact hr.mono (by decide)) (by rfl) T.g_law_draw T.F_law_draw.kp (bind_law_draw T) pass0 (da_cons (v1 _) (da_cons de_int da_nil)) (da_len1 (da_len1 da_len0))) (by intro _ _; rfl)) da_nil)) (da_len1 (da_len1 da_len0)))))
  (dss_cons (ds_set (i := 4) sc_law.nd rfl (Or.inl rfl) (k_call (K := K) (by rfl) (G_law_forms T) (by exact hr.mono (by decide)) (by rfl) T.g_law_forms T.F_law_forms.kp (bind_law_forms T) pass0 (da_cons (v3 _) da_nil) (da_len1 da_len0)))
  (dss_cons (ds_for PassesOwn.never rfl (di_range1 (by rfl) T.z_range (da_cons de_int da_nil)) (dg_name (i := 5) sc_law.nd rfl (Or.inl rfl)) (dss_cons (ds_set (i := 6) sc_law.nd rfl (Or.inl rfl) (k_ix (K := K) (by rfl) (v4 _) (k_call (K := K) (by rfl) (G_law_draw T) (by exact hr.mono (by decide)) (by rfl) T.g_law_draw T.F_law_draw.kp (bind_law_draw T) pass0 (da_cons (v1 _) (da_cons (k_callB1 (K := K) (by rfl) (kc_len (K := K) (by rfl)) lenD_ok (by rfl) T.z_len PySem.boot_len (v4 _)) da_nil)) (da_len1 (da_len1 da_len0))) (by intro _ _; rfl)))
  (dss_cons (ds_set (i := 7) sc_law.nd rfl (Or.inl rfl) (k_call (K := K) (by rfl) (G_law_all_forms T) (by exact hr.mono (by decide)) (by rfl) T.g_law_all_forms T.F_law_all_forms.kp (bind_law_all_forms T) pass0 (da_cons (v2 _) (da_cons (v6 _) da_nil)) (da_len1 (da_len1 da_len0))))
  (dss_cons (ds_ite (kt_cmp (K := K) (by rfl) (ko_ne (K := K) (by rfl) (by exact hu)) neD_ok (k_call (K := K) (by rfl) (G_least_form T) (by exact hr.mono (by decide)) (by rfl) T.g_least_form T.F_least_form.kp (bind_least_form T) pass0 (da_cons (v2 _) (da_cons (v6 _) da_nil)) (da_len1 (da_len1 da_len0))) (k_callB1 (K := K) (by rfl) (kc_minB (K := K) (by rfl) (by rfl) (by exact hu)) minBD_ok (by rfl) T.z_min (by decide +kernel) (v7 _)) (nomark _)) (dss_one (ds_ret de_bl)) dss_nil)
  (dss_cons (ds_set (i := 8) sc_law.nd rfl (Or.inl rfl) (k_call (K := K) (by rfl) (G_is_regular_form T) (by exact hr.mono (by decide)) (by rfl) T.g_is_regular_form T.F_is_regular_form.kp (bind_is_regular_form T) pass0 (da_cons (v2 _) (da_cons (v6 _) da_nil)) (da_len1 (da_len1 da_len0))))
  (dss_one (ds_ite (DW.dt (dw_or (dt_not (k_truth (K := K) (by rfl) (k_isi (K := K) (by rfl) (T := .bool) (by decide) (by rfl) T.z_isinstance (by rfl) T.z_bool rfl (by decide +kernel) (v8 _)) (by intro _; rfl))) (dw_or (kt_cmp (K := K) (by rfl) (ko_ne (K := K) (by rfl) (by exact hu)) neD_ok (v8 _) (k_cmp (K := K) (by rfl) (ko_eq (K := K) (by rfl) (by exact hu)) eqD_ok (k_lenSet (K := K) (by rfl) (by rfl) (by exact hu) (by rfl) T.z_len (by rfl) T.z_set (v7 _)) de_int (nomark _)) (nomark _)) (dw_or1 (kt_cmp (K := K) (by rfl) (ko_ne (K := K) (by rfl) (by exact hu)) neD_ok (k_ix (K := K) (by rfl) (k_call (K := K) (by rfl) (G_of_form T) (by exact hr.mono (by decide)) (by rfl) T.g_of_form T.F_of_form.kp (bind_of_form T) pass0 (da_cons (v2 _) (da_cons (v6 _) da_nil)) (da_len1 (da_len1 da_len0))) de_int (by intro _ _; rfl)) (k_ix (K := K) (by rfl) (k_call (K := K) (by rfl) (G_law_letters_of T) (by exact hr.mono (by decide)) (by rfl) T.g_law_letters_of T.F_law_letters_of.kp (bind_law_letters_of T) pass0 (da_cons (v2 _) (da_cons (k_ix (K := K) (by rfl) (k_call (K := K) (by rfl) (G_law_steps T) (by exact hr.mono (by decide)) (by rfl) T.g_law_steps T.F_law_steps.kp (bind_law_steps T) pass0 (da_cons (v2 _) (da_cons (v6 _) da_nil)) (da_len1 (da_len1 da_len0))) de_int (by intro _ _; rfl)) (da_cons (k_ix (K := K) (by rfl) (k_call (K := K) (by rfl) (G_law_steps T) (by exact hr.mono (by decide)) (by rfl) T.g_law_steps T.F_law_steps.kp (bind_law_steps T) pass0 (da_cons (v2 _) (da_cons (v6 _) da_nil)) (da_len1 (da_len1 da_len0))) de_int (by intro _ _; rfl)) da_nil))) (da_len1 (da_len1 (da_len1 da_len0)))) de_int (by intro _ _; rfl)) (nomark _)))))) (dss_one (ds_ret de_bl)) dss_nil)))))))
  (dss_cons (ds_set (i := 9) sc_law.nd rfl (Or.inl rfl) (k_add (K := K) (by rfl) de_int (k_call (K := K) (by rfl) (G_law_draw T) (by exact hr.mono (by decide)) (by rfl) T.g_law_draw T.F_law_draw.kp (bind_law_draw T) pass0 (da_cons (v1 _) (da_cons de_int da_nil)) (da_len1 (da_len1 da_len0)))))
  (dss_cons (ds_set (i := 10) sc_law.nd rfl (Or.inl rfl) (k_sortSet (K := K) (by rfl) (by rfl) (by exact hu) (by rfl) T.z_sorted (by rfl) T.z_set (de_lc (own := [("form", 6)]) (is := [6]) rfl sc_law.nd (k_seq (K := K) (by rfl) (k_call (K := K) (by rfl) (G_law_forms T) (by exact hr.mono (by decide)) (by rfl) T.g_law_forms T.F_law_forms.kp (bind_law_forms T) pass0 (da_cons (v9 _) da_nil) (da_len1 da_len0))) (blkOk_by (own := [("form", 6)]) (N := ["script", "state", "base", "n", "listed", "turn", "form", "found", "told", "few", "due"]) (sc := defScope s_law) (by decide +kernel)) (fun _ _ _ _ _ => (dg_name (i := 6) sc_law.nd rfl (Or.inl rfl))) (by decide) (fun _ _ _ _ _ => dts_nil) (fun _ _ _ _ _ => (k_callB1 (K := K) (by rfl) (kc_minB (K := K) (by rfl) (by rfl) (by exact hu)) minBD_ok (by rfl) T.z_min (by decide +kernel) (k_call (K := K) (by rfl) (G_law_all_forms T) (by exact hr.mono (by decide)) (by rfl) T.g_law_all_forms T.F_law_all_forms.kp (bind_law_all_forms T) pass0 (da_cons (de_var (i := 2) (x := "base") rfl (Or.inr (Or.inl rfl))) (da_cons (de_var (i := 6) (x := "form") rfl (Or.inl rfl)) da_nil)) (da_len1 (da_len1 da_len0))))))))
  (dss_cons (ds_set (i := 8) sc_law.nd rfl (Or.inl rfl) (k_call (K := K) (by rfl) (G_classes T) (by exact hr.mono (by decide)) (by rfl) T.g_classes T.F_classes.kp (bind_classes T) pass0 (da_cons (v2 _) (da_cons (v9 _) da_nil)) (da_len1 (da_len1 da_len0))))
  (dss_one (ds_ite (DW.dt (dw_or (dt_not (k_truth (K := K) (by rfl) (k_isi (K := K) (by rfl) (T := .list) (by decide) (by rfl) T.z_isinstance (by rfl) T.z_list rfl (by decide +kernel) (v8 _)) (by intro _; rfl))) (dw_or1 (kt_cmp (K := K) (by rfl) (ko_ne (K := K) (by rfl) (by exact hu)) neD_ok (v8 _) (v10 _) (nomark _))))) (dss_one (ds_ret de_bl)) dss_nil)))))))))
  (dss_one (ds_ret de_bl)))
  refine ⟨_, pss_cons (ps_set (i := 1) sc_law.nd rfl (Or.inl rfl) (pe_call (G_law_state T) (hr.mono (by decide)) (by rfl) T.g_law_state T.F_law_state.kp (bind_law_state T) .nil pass0 (pa_cons (pv 0) pa_nil))) D.pe, ?_⟩
  obtain ⟨ps, e⟩ := main ns hlen
  exact ⟨.ref a, rfl, a, ns, rfl, hS, hlen, fun p c H1 da => law_rest D.sn (N := 11) (i := 1) (by decide) (by rfl) (by rfl) da e fun H2 => q H2⟩
end
/-! ### the end -/
theorem all_mk {l : PySem.W.OpenLaw} {w : World} {K : PySem.W.Frag} {h : Heap} {mg : Str → Option Value} {fa : Addr} (X : K.In h) (G : h.Ns mainGlobals mg) (hfa : mg "law" = some (.ref fa))
    {f0 : Addr} {od0 an0 : Option Addr} {sl0 : Array (Option Value)} {oc0 kV0 dc0 pm0 cd0 ct0 : Value}
    (a0 : PySem.W.nsIn K mainGlobals "_law_state" = some (some (.ref f0))) (l0 : K.lookup f0 = some ⟨oc0, od0, .func (PySem.W.fnOf "_law_state" "_law_state" (defArgs s_law_state) (defBody s_law_state) (defScope s_law_state) .none kV0 dc0 pm0 an0 cd0 ct0), sl0⟩) (c0 : PySem.W.codeIn K cd0 "_law_state" = true) (k0 : PySem.W.keepIn K (.ref f0) = true)
    {f1 : Addr} {od1 an1 : Option Addr} {sl1 : Array (Option Value)} {oc1 kV1 dc1 pm1 cd1 ct1 : Value}
    (a1 : PySem.W.nsIn K mainGlobals "_law_draw" = some (some (.ref f1))) (l1 : K.lookup f1 = some ⟨oc1, od1, .func (PySem.W.fnOf "_law_draw" "_law_draw" (defArgs s_law_draw) (defBody s_law_draw) (defScope s_law_draw) .none kV1 dc1 pm1 an1 cd1 ct1), sl1⟩) (c1 : PySem.W.codeIn K cd1 "_law_draw" = true) (k1 : PySem.W.keepIn K (.ref f1) = true)
    {f2 : Addr} {od2 an2 : Option Addr} {sl2 : Array (Option Value)} {oc2 kV2 dc2 pm2 cd2 ct2 : Value}
    (a2 : PySem.W.nsIn K mainGlobals "_law_forms" = some (some (.ref f2))) (l2 : K.lookup f2 = some ⟨oc2, od2, .func (PySem.W.fnOf "_law_forms" "_law_forms" (defArgs s_law_forms) (defBody s_law_forms) (defScope s_law_forms) .none kV2 dc2 pm2 an2 cd2 ct2), sl2⟩) (c2 : PySem.W.codeIn K cd2 "_law_forms" = true) (k2 : PySem.W.keepIn K (.ref f2) = true)
    {f3 : Addr} {od3 an3 : Option Addr} {sl3 : Array (Option Value)} {oc3 kV3 dc3 pm3 cd3 ct3 : Value}
    (a3 : PySem.W.nsIn K mainGlobals "_law_steps" = some (some (.ref f3))) (l3 : K.lookup f3 = some ⟨oc3, od3, .func (PySem.W.fnOf "_law_steps" "_law_steps" (defArgs s_law_steps) (defBody s_law_steps) (defScope s_law_steps) .none kV3 dc3 pm3 an3 cd3 ct3), sl3⟩) (c3 : PySem.W.codeIn K cd3 "_law_steps" = true) (k3 : PySem.W.keepIn K (.ref f3) = true)
    {f4 : Addr} {od4 an4 : Option Addr} {sl4 : Array (Option Value)} {oc4 kV4 dc4 pm4 cd4 ct4 : Value}
    (a4 : PySem.W.nsIn K mainGlobals "_law_times" = some (some (.ref f4))) (l4 : K.lookup f4 = some ⟨oc4, od4, .func (PySem.W.fnOf "_law_times" "_law_times" (defArgs s_law_times) (defBody s_law_times) (defScope s_law_times) .none kV4 dc4 pm4 an4 cd4 ct4), sl4⟩) (c4 : PySem.W.codeIn K cd4 "_law_times" = true) (k4 : PySem.W.keepIn K (.ref f4) = true)
    {f5 : Addr} {od5 an5 : Option Addr} {sl5 : Array (Option Value)} {oc5 kV5 dc5 pm5 cd5 ct5 : Value}
    (a5 : PySem.W.nsIn K mainGlobals "_law_all" = some (some (.ref f5))) (l5 : K.lookup f5 = some ⟨oc5, od5, .func (PySem.W.fnOf "_law_all" "_law_all" (defArgs s_law_all) (defBody s_law_all) (defScope s_law_all) .none kV5 dc5 pm5 an5 cd5 ct5), sl5⟩) (c5 : PySem.W.codeIn K cd5 "_law_all" = true) (k5 : PySem.W.keepIn K (.ref f5) = true)
    {f6 : Addr} {od6 an6 : Option Addr} {sl6 : Array (Option Value)} {oc6 kV6 dc6 pm6 cd6 ct6 : Value}
    (a6 : PySem.W.nsIn K mainGlobals "_law_back" = some (some (.ref f6))) (l6 : K.lookup f6 = some ⟨oc6, od6, .func (PySem.W.fnOf "_law_back" "_law_back" (defArgs s_law_back) (defBody s_law_back) (defScope s_law_back) .none kV6 dc6 pm6 an6 cd6 ct6), sl6⟩) (c6 : PySem.W.codeIn K cd6 "_law_back" = true) (k6 : PySem.W.keepIn K (.ref f6) = true)
    {f7 : Addr} {od7 an7 : Option Addr} {sl7 : Array (Option Value)} {oc7 kV7 dc7 pm7 cd7 ct7 : Value}
    (a7 : PySem.W.nsIn K mainGlobals "_law_letters_of" = some (some (.ref f7))) (l7 : K.lookup f7 = some ⟨oc7, od7, .func (PySem.W.fnOf "_law_letters_of" "_law_letters_of" (defArgs s_law_letters_of) (defBody s_law_letters_of) (defScope s_law_letters_of) .none kV7 dc7 pm7 an7 cd7 ct7), sl7⟩) (c7 : PySem.W.codeIn K cd7 "_law_letters_of" = true) (k7 : PySem.W.keepIn K (.ref f7) = true)
    {f8 : Addr} {od8 an8 : Option Addr} {sl8 : Array (Option Value)} {oc8 kV8 dc8 pm8 cd8 ct8 : Value}
    (a8 : PySem.W.nsIn K mainGlobals "_law_plain" = some (some (.ref f8))) (l8 : K.lookup f8 = some ⟨oc8, od8, .func (PySem.W.fnOf "_law_plain" "_law_plain" (defArgs s_law_plain) (defBody s_law_plain) (defScope s_law_plain) .none kV8 dc8 pm8 an8 cd8 ct8), sl8⟩) (c8 : PySem.W.codeIn K cd8 "_law_plain" = true) (k8 : PySem.W.keepIn K (.ref f8) = true)
    {f9 : Addr} {od9 an9 : Option Addr} {sl9 : Array (Option Value)} {oc9 kV9 dc9 pm9 cd9 ct9 : Value}
    (a9 : PySem.W.nsIn K mainGlobals "_law_cycles" = some (some (.ref f9))) (l9 : K.lookup f9 = some ⟨oc9, od9, .func (PySem.W.fnOf "_law_cycles" "_law_cycles" (defArgs s_law_cycles) (defBody s_law_cycles) (defScope s_law_cycles) .none kV9 dc9 pm9 an9 cd9 ct9), sl9⟩) (c9 : PySem.W.codeIn K cd9 "_law_cycles" = true) (k9 : PySem.W.keepIn K (.ref f9) = true)
    {f10 : Addr} {od10 an10 : Option Addr} {sl10 : Array (Option Value)} {oc10 kV10 dc10 pm10 cd10 ct10 : Value}
    (a10 : PySem.W.nsIn K mainGlobals "_law_form" = some (some (.ref f10))) (l10 : K.lookup f10 = some ⟨oc10, od10, .func (PySem.W.fnOf "_law_form" "_law_form" (defArgs s_law_form) (defBody s_law_form) (defScope s_law_form) .none kV10 dc10 pm10 an10 cd10 ct10), sl10⟩) (c10 : PySem.W.codeIn K cd10 "_law_form" = true) (k10 : PySem.W.keepIn K (.ref f10) = true)
    {f11 : Addr} {od11 an11 : Option Addr} {sl11 : Array (Option Value)} {oc11 kV11 dc11 pm11 cd11 ct11 : Value}
    (a11 : PySem.W.nsIn K mainGlobals "_law_turned" = some (some (.ref f11))) (l11 : K.lookup f11 = some ⟨oc11, od11, .func (PySem.W.fnOf "_law_turned" "_law_turned" (defArgs s_law_turned) (defBody s_law_turned) (defScope s_law_turned) .none kV11 dc11 pm11 an11 cd11 ct11), sl11⟩) (c11 : PySem.W.codeIn K cd11 "_law_turned" = true) (k11 : PySem.W.keepIn K (.ref f11) = true)
    {f12 : Addr} {od12 an12 : Option Addr} {sl12 : Array (Option Value)} {oc12 kV12 dc12 pm12 cd12 ct12 : Value}
    (a12 : PySem.W.nsIn K mainGlobals "_law_all_forms" = some (some (.ref f12))) (l12 : K.lookup f12 = some ⟨oc12, od12, .func (PySem.W.fnOf "_law_all_forms" "_law_all_forms" (defArgs s_law_all_forms) (defBody s_law_all_forms) (defScope s_law_all_forms) .none kV12 dc12 pm12 an12 cd12 ct12), sl12⟩) (c12 : PySem.W.codeIn K cd12 "_law_all_forms" = true) (k12 : PySem.W.keepIn K (.ref f12) = true)
    {f13 : Addr} {od13 an13 : Option Addr} {sl13 : Array (Option Value)} {oc13 kV13 dc13 pm13 cd13 ct13 : Value}
    (a13 : PySem.W.nsIn K mainGlobals "least_form" = some (some (.ref f13))) (l13 : K.lookup f13 = some ⟨oc13, od13, .func (PySem.W.fnOf "least_form" "least_form" (defArgs s_least_form) (defBody s_least_form) (defScope s_least_form) .none kV13 dc13 pm13 an13 cd13 ct13), sl13⟩) (c13 : PySem.W.codeIn K cd13 "least_form" = true) (k13 : PySem.W.keepIn K (.ref f13) = true)
    {f14 : Addr} {od14 an14 : Option Addr} {sl14 : Array (Option Value)} {oc14 kV14 dc14 pm14 cd14 ct14 : Value}
    (a14 : PySem.W.nsIn K mainGlobals "is_regular_form" = some (some (.ref f14))) (l14 : K.lookup f14 = some ⟨oc14, od14, .func (PySem.W.fnOf "is_regular_form" "is_regular_form" (defArgs s_is_regular_form) (defBody s_is_regular_form) (defScope s_is_regular_form) .none kV14 dc14 pm14 an14 cd14 ct14), sl14⟩) (c14 : PySem.W.codeIn K cd14 "is_regular_form" = true) (k14 : PySem.W.keepIn K (.ref f14) = true)
    {f15 : Addr} {od15 an15 : Option Addr} {sl15 : Array (Option Value)} {oc15 kV15 dc15 pm15 cd15 ct15 : Value}
    (a15 : PySem.W.nsIn K mainGlobals "plain_steps" = some (some (.ref f15))) (l15 : K.lookup f15 = some ⟨oc15, od15, .func (PySem.W.fnOf "plain_steps" "plain_steps" (defArgs s_plain_steps) (defBody s_plain_steps) (defScope s_plain_steps) .none kV15 dc15 pm15 an15 cd15 ct15), sl15⟩) (c15 : PySem.W.codeIn K cd15 "plain_steps" = true) (k15 : PySem.W.keepIn K (.ref f15) = true)
    {f16 : Addr} {od16 an16 : Option Addr} {sl16 : Array (Option Value)} {oc16 kV16 dc16 pm16 cd16 ct16 : Value}
    (a16 : PySem.W.nsIn K mainGlobals "times" = some (some (.ref f16))) (l16 : K.lookup f16 = some ⟨oc16, od16, .func (PySem.W.fnOf "times" "times" (defArgs s_times) (defBody s_times) (defScope s_times) .none kV16 dc16 pm16 an16 cd16 ct16), sl16⟩) (c16 : PySem.W.codeIn K cd16 "times" = true) (k16 : PySem.W.keepIn K (.ref f16) = true)
    {f17 : Addr} {od17 an17 : Option Addr} {sl17 : Array (Option Value)} {oc17 kV17 dc17 pm17 cd17 ct17 : Value}
    (a17 : PySem.W.nsIn K mainGlobals "identity" = some (some (.ref f17))) (l17 : K.lookup f17 = some ⟨oc17, od17, .func (PySem.W.fnOf "identity" "identity" (defArgs s_identity) (defBody s_identity) (defScope s_identity) .none kV17 dc17 pm17 an17 cd17 ct17), sl17⟩) (c17 : PySem.W.codeIn K cd17 "identity" = true) (k17 : PySem.W.keepIn K (.ref f17) = true)
    {f18 : Addr} {od18 an18 : Option Addr} {sl18 : Array (Option Value)} {oc18 kV18 dc18 pm18 cd18 ct18 : Value}
    (a18 : PySem.W.nsIn K mainGlobals "product" = some (some (.ref f18))) (l18 : K.lookup f18 = some ⟨oc18, od18, .func (PySem.W.fnOf "product" "product" (defArgs s_product) (defBody s_product) (defScope s_product) .none kV18 dc18 pm18 an18 cd18 ct18), sl18⟩) (c18 : PySem.W.codeIn K cd18 "product" = true) (k18 : PySem.W.keepIn K (.ref f18) = true)
    {f19 : Addr} {od19 an19 : Option Addr} {sl19 : Array (Option Value)} {oc19 kV19 dc19 pm19 cd19 ct19 : Value}
    (a19 : PySem.W.nsIn K mainGlobals "inverse" = some (some (.ref f19))) (l19 : K.lookup f19 = some ⟨oc19, od19, .func (PySem.W.fnOf "inverse" "inverse" (defArgs s_inverse) (defBody s_inverse) (defScope s_inverse) .none kV19 dc19 pm19 an19 cd19 ct19), sl19⟩) (c19 : PySem.W.codeIn K cd19 "inverse" = true) (k19 : PySem.W.keepIn K (.ref f19) = true)
    {f20 : Addr} {od20 an20 : Option Addr} {sl20 : Array (Option Value)} {oc20 kV20 dc20 pm20 cd20 ct20 : Value}
    (a20 : PySem.W.nsIn K mainGlobals "two_squares_of" = some (some (.ref f20))) (l20 : K.lookup f20 = some ⟨oc20, od20, .func (PySem.W.fnOf "two_squares_of" "two_squares_of" (defArgs s_two_squares_of) (defBody s_two_squares_of) (defScope s_two_squares_of) .none kV20 dc20 pm20 an20 cd20 ct20), sl20⟩) (c20 : PySem.W.codeIn K cd20 "two_squares_of" = true) (k20 : PySem.W.keepIn K (.ref f20) = true)
    {f21 : Addr} {od21 an21 : Option Addr} {sl21 : Array (Option Value)} {oc21 kV21 dc21 pm21 cd21 ct21 : Value}
    (a21 : PySem.W.nsIn K mainGlobals "of_form" = some (some (.ref f21))) (l21 : K.lookup f21 = some ⟨oc21, od21, .func (PySem.W.fnOf "of_form" "of_form" (defArgs s_of_form) (defBody s_of_form) (defScope s_of_form) .none kV21 dc21 pm21 an21 cd21 ct21), sl21⟩) (c21 : PySem.W.codeIn K cd21 "of_form" = true) (k21 : PySem.W.keepIn K (.ref f21) = true)
    {f22 : Addr} {od22 an22 : Option Addr} {sl22 : Array (Option Value)} {oc22 kV22 dc22 pm22 cd22 ct22 : Value}
    (a22 : PySem.W.nsIn K mainGlobals "forms" = some (some (.ref f22))) (l22 : K.lookup f22 = some ⟨oc22, od22, .func (PySem.W.fnOf "forms" "forms" (defArgs s_forms) (defBody s_forms) (defScope s_forms) .none kV22 dc22 pm22 an22 cd22 ct22), sl22⟩) (c22 : PySem.W.codeIn K cd22 "forms" = true) (k22 : PySem.W.keepIn K (.ref f22) = true)
    {f23 : Addr} {od23 an23 : Option Addr} {sl23 : Array (Option Value)} {oc23 kV23 dc23 pm23 cd23 ct23 : Value}
    (a23 : PySem.W.nsIn K mainGlobals "classes" = some (some (.ref f23))) (l23 : K.lookup f23 = some ⟨oc23, od23, .func (PySem.W.fnOf "classes" "classes" (defArgs s_classes) (defBody s_classes) (defScope s_classes) .none kV23 dc23 pm23 an23 cd23 ct23), sl23⟩) (c23 : PySem.W.codeIn K cd23 "classes" = true) (k23 : PySem.W.keepIn K (.ref f23) = true)
    {f24 : Addr} {od24 an24 : Option Addr} {sl24 : Array (Option Value)} {oc24 kV24 dc24 pm24 cd24 ct24 : Value}
    (a24 : PySem.W.nsIn K mainGlobals "law" = some (some (.ref f24))) (l24 : K.lookup f24 = some ⟨oc24, od24, .func (PySem.W.fnOf "law" "law" (defArgs s_law) (defBody s_law) (defScope s_law) .none kV24 dc24 pm24 an24 cd24 ct24), sl24⟩) (c24 : PySem.W.codeIn K cd24 "law" = true) (k24 : PySem.W.keepIn K (.ref f24) = true)
    (z_abs : PySem.W.nsIn K mainGlobals "abs" = some none)
    (z_bool : PySem.W.nsIn K mainGlobals "bool" = some none)
    (z_enumerate : PySem.W.nsIn K mainGlobals "enumerate" = some none)
    (z_int : PySem.W.nsIn K mainGlobals "int" = some none)
    (z_isinstance : PySem.W.nsIn K mainGlobals "isinstance" = some none)
    (z_len : PySem.W.nsIn K mainGlobals "len" = some none)
    (z_list : PySem.W.nsIn K mainGlobals "list" = some none)
    (z_min : PySem.W.nsIn K mainGlobals "min" = some none)
    (z_range : PySem.W.nsIn K mainGlobals "range" = some none)
    (z_set : PySem.W.nsIn K mainGlobals "set" = some none)
    (z_sorted : PySem.W.nsIn K mainGlobals "sorted" = some none)
    (z_tuple : PySem.W.nsIn K mainGlobals "tuple" = some none)
    (main : ∀ ns : List Int, ns.length ≤ 63 → ∃ ps, b_law ⟨(List.replicate 11 Sl.un).set 1 (.fr (.dict [])), stateA ns⟩ = some (.rt (.im (.bool true)) ps)) :
    ∃ fd : FuncData, (∀ (s : Shared) (v : Value), BindsTo s fd ⟨[v], []⟩ [("script", v)]) ∧ ∀ base : Heap, K.In base → base.Ns mainGlobals mg → FnOk l.prog w K mg base CX0 5 fa fd ["script"] (spLaw K) := by
  have e := hfa.symm.trans (PySem.W.mg_of X G a24)
  cases e
  let T : Txt K mg := ⟨_, _, fun_mk (st := s_law_state) l0 c0 k0, PySem.W.mg_of X G a0, _, _, fun_mk (st := s_law_draw) l1 c1 k1, PySem.W.mg_of X G a1, _, _, fun_mk (st := s_law_forms) l2 c2 k2, PySem.W.mg_of X G a2, _, _, fun_mk (st := s_law_steps) l3 c3 k3, PySem.W.mg_of X G a3, _, _, fun_mk (st := s_law_times) l4 c4 k4, PySem.W.mg_of X G a4, _, _, fun_mk (st := s_law_all) l5 c5 k5, PySem.W.mg_of X G a5, _, _, fun_mk (st := s_law_back) l6 c6 k6, PySem.W.mg_of X G a6, _, _, fun_mk (st := s_law_letters_of) l7 c7 k7, PySem.W.mg_of X G a7, _, _, fun_mk (st := s_law_plain) l8 c8 k8, PySem.W.mg_of X G a8, _, _, fun_mk (st := s_law_cycles) l9 c9 k9, PySem.W.mg_of X G a9, _, _, fun_mk (st := s_law_form) l10 c10 k10, PySem.W.mg_of X G a10, _, _, fun_mk (st := s_law_turned) l11 c11 k11, PySem.W.mg_of X G a11, _, _, fun_mk (st := s_law_all_forms) l12 c12 k12, PySem.W.mg_of X G a12, _, _, fun_mk (st := s_least_form) l13 c13 k13, PySem.W.mg_of X G a13, _, _, fun_mk (st := s_is_regular_form) l14 c14 k14, PySem.W.mg_of X G a14, _, _, fun_mk (st := s_plain_steps) l15 c15 k15, PySem.W.mg_of X G a15, _, _, fun_mk (st := s_times) l16 c16 k16, PySem.W.mg_of X G a16, _, _, fun_mk (st := s_identity) l17 c17 k17, PySem.W.mg_of X G a17, _, _, fun_mk (st := s_product) l18 c18 k18, PySem.W.mg_of X G a18, _, _, fun_mk (st := s_inverse) l19 c19 k19, PySem.W.mg_of X G a19, _, _, fun_mk (st := s_two_squares_of) l20 c20 k20, PySem.W.mg_of X G a20, _, _, fun_mk (st := s_of_form) l21 c21 k21, PySem.W.mg_of X G a21, _, _, fun_mk (st := s_forms) l22 c22 k22, PySem.W.mg_of X G a22, _, _, fun_mk (st := s_classes) l23 c23 k23, PySem.W.mg_of X G a23, _, _, fun_mk (st := s_law) l24 c24 k24, PySem.W.mg_of X G a24, PySem.W.mg_none_of X G z_abs, PySem.W.mg_none_of X G z_bool, PySem.W.mg_none_of X G z_enumerate, PySem.W.mg_none_of X G z_int, PySem.W.mg_none_of X G z_isinstance, PySem.W.mg_none_of X G z_len, PySem.W.mg_none_of X G z_list, PySem.W.mg_none_of X G z_min, PySem.W.mg_none_of X G z_range, PySem.W.mg_none_of X G z_set, PySem.W.mg_none_of X G z_sorted, PySem.W.mg_none_of X G z_tuple⟩
  exact ⟨T.d_law, fun s v => .of_eq rfl, fun base _ _ => G_law T main⟩
end LK
open PySem PySem.W PyProof.Rows
set_option maxHeartbeats 0 in
theorem PySem.Challenge.cw_manysheets_k32_whole_equal_forms_holds : PySem.Challenge.rw_manysheets_k32_whole_equal_forms.Holds := by
  w_on; o_law; k_head; (case hw => w_witness2)
  k_fill
  refine L2.walk_of (l := PySem.Challenge.rw_manysheets_k32_whole_equal_forms) (n := 63) (k := 5) (x := "script") (CX := fun _ => L2.CX0) (sp := fun w => MP.spLaw _) rfl (by decide) rfl ⟨rfl, by decide, by decide⟩ (fun w h Y => PySem.W.kIn_of Y) ?F (fun _ _ a ns hl _ hS => ⟨a, ns, rfl, hS, hl, fun _ => rfl⟩) (fun _ _ _ _ _ h => h)
  case F =>
    intro w mg fa h KX G hmg
    refine' LK.all_mk KX G hmg ?a0 ?l0 ?c0 ?k0 ?a1 ?l1 ?c1 ?k1 ?a2 ?l2 ?c2 ?k2 ?a3 ?l3 ?c3 ?k3 ?a4 ?l4 ?c4 ?k4 ?a5 ?l5 ?c5 ?k5 ?a6 ?l6 ?c6 ?k6 ?a7 ?l7 ?c7 ?k7 ?a8 ?l8 ?c8 ?k8 ?a9 ?l9 ?c9 ?k9 ?a10 ?l10 ?c10 ?k10 ?a11 ?l11 ?c11 ?k11 ?a12 ?l12 ?c12 ?k12 ?a13 ?l13 ?c13 ?k13 ?a14 ?l14 ?c14 ?k14 ?a15 ?l15 ?c15 ?k15 ?a16 ?l16 ?c16 ?k16 ?a17 ?l17 ?c17 ?k17 ?a18 ?l18 ?c18 ?k18 ?a19 ?l19 ?c19 ?k19 ?a20 ?l20 ?c20 ?k20 ?a21 ?l21 ?c21 ?k21 ?a22 ?l22 ?c22 ?k22 ?a23 ?l23 ?c23 ?k23 ?a24 ?l24 ?c24 ?k24 ?z_abs ?z_bool ?z_enumerate ?z_int ?z_isinstance ?z_len ?z_list ?z_min ?z_range ?z_set ?z_sorted ?z_tuple LK.main
    (case a0 => k_is); (case l0 => k_is); (case c0 => k_is); (case k0 => k_is); (case a1 => k_is); (case l1 => k_is); (case c1 => k_is); (case k1 => k_is); (case a2 => k_is); (case l2 => k_is); (case c2 => k_is); (case k2 => k_is); (case a3 => k_is); (case l3 => k_is); (case c3 => k_is); (case k3 => k_is); (case a4 => k_is); (case l4 => k_is); (case c4 => k_is); (case k4 => k_is); (case a5 => k_is); (case l5 => k_is); (case c5 => k_is); (case k5 => k_is); (case a6 => k_is); (case l6 => k_is); (case c6 => k_is); (case k6 => k_is); (case a7 => k_is); (case l7 => k_is); (case c7 => k_is); (case k7 => k_is); (case a8 => k_is); (case l8 => k_is); (case c8 => k_is); (case k8 => k_is); (case a9 => k_is); (case l9 => k_is); (case c9 => k_is); (case k9 => k_is); (case a10 => k_is); (case l10 => k_is); (case c10 => k_is); (case k10 => k_is); (case a11 => k_is); (case l11 => k_is); (case c11 => k_is); (case k11 => k_is); (case a12 => k_is); (case l12 => k_is); (case c12 => k_is); (case k12 => k_is); (case a13 => k_is); (case l13 => k_is); (case c13 => k_is); (case k13 => k_is); (case a14 => k_is); (case l14 => k_is); (case c14 => k_is); (case k14 => k_is); (case a15 => k_is); (case l15 => k_is); (case c15 => k_is); (case k15 => k_is); (case a16 => k_is); (case l16 => k_is); (case c16 => k_is); (case k16 => k_is); (case a17 => k_is); (case l17 => k_is); (case c17 => k_is); (case k17 => k_is); (case a18 => k_is); (case l18 => k_is); (case c18 => k_is); (case k18 => k_is); (case a19 => k_is); (case l19 => k_is); (case c19 => k_is); (case k19 => k_is); (case a20 => k_is); (case l20 => k_is); (case c20 => k_is); (case k20 => k_is); (case a21 => k_is); (case l21 => k_is); (case c21 => k_is); (case k21 => k_is); (case a22 => k_is); (case l22 => k_is); (case c22 => k_is); (case k22 => k_is); (case a23 => k_is); (case l23 => k_is); (case c23 => k_is); (case k23 => k_is); (case a24 => k_is); (case l24 => k_is); (case c24 => k_is); (case k24 => k_is); (case z_abs => k_is); (case z_bool => k_is); (case z_enumerate => k_is); (case z_int => k_is); (case z_isinstance => k_is); (case z_len => k_is); (case z_list => k_is); (case z_min => k_is); (case z_range => k_is); (case z_set => k_is); (case z_sorted => k_is); (case z_tuple => k_is)

