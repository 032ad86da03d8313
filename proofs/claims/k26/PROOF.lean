import PyProof.Rows.All
import Wide.All
import OpenK.AllK
import Wide.FinOn
import HandS.ForMost
import HandS.TupAny
import HandS.Flow
import HandS.Wide
import HandS.Deep
import HandS.SortInts
import HandS.Conv
import KE.GoesEnum
import HandS.TryOnly
import HandS.Zip
import HandS.Rev
import HandS.Style
import HandS.IsInst
import KE.KIndexOf
import HandS.SortOrd
import PyProof.TupleOfSeq
import PyProof.WalksMore
import HandS.More
import PyProof.ReprRoads
import PyProof.Rows.RegFStrParts
import HandS.Gcd
import HandS.TupMul
import PySem.Challenge.RW_manysheets_k26_whole_cyclic_coverings
set_option Elab.async false
set_option linter.all false
set_option maxRecDepth 100000
set_option maxHeartbeats 4000000
namespace MP
open PySem PySem.Spec PyProof.Rows L2

abbrev Dat := PyData
abbrev Fg := PySem.W.Frag

/-! ### data and values -/
/-- a tuple whose object is known to bear no dict -/
def TupD (F : Hp) (a : Addr) (xs : List V) : Prop := ∃ o : Obj, F a = some (.frz o (.tup xs)) ∧ o.dict = none
theorem TupD.sqT {K : Fg} {F : Hp} {a : Addr} {xs : List V} (h : TupD F a xs) : SqT K F a xs := by
  obtain ⟨o, e, _⟩ := h
  exact .inl (.inr ⟨o, e⟩)
theorem TupD.mono {F F' : Hp} {a : Addr} {xs : List V} (e : Same F F') (h : TupD F a xs) : TupD F' a xs := by
  obtain ⟨o, h1, h2⟩ := h
  exact ⟨o, e _ _ h1, h2⟩
/- the empty dict stands for the law's state; a dict of one entry for a pair that a walk hands out; a dict of two for a list from outside (the script) -/
mutual
def Rel (K : Fg) (F : Hp) (T : Addr) : Dat → V → Prop
  | .none, v => v = .non
  | .bool b, v => v = .bl b
  | .int i, v => v = .int i
  | .str x, v => v = .str x
  | .list ds, v => ∃ a xs, v = .ref a ∧ F a = some (.lst xs) ∧ RelL K F T ds xs
  | .tuple ds, v => ∃ a xs, v = .ref a ∧ TupD F a xs ∧ RelL K F T ds xs
  | .dict [], v => v = .ref T
  | .dict [(d, e)], v => ∃ a x y, v = .ref a ∧ SqT K F a [x, y] ∧ Rel K F T d x ∧ Rel K F T e y
  | .dict (_ :: (_, .list ds) :: _), v => ∃ a xs, v = .ref a ∧ SqL K F a xs ∧ RelL K F T ds xs
  | .dict _, _ => False
def RelL (K : Fg) (F : Hp) (T : Addr) : List Dat → List V → Prop
  | [], xs => xs = []
  | d :: ds, xs => ∃ y ys, xs = y :: ys ∧ Rel K F T d y ∧ RelL K F T ds ys
end

theorem seqL {K : Fg} {H H' : Hp} {a : Addr} {xs : List V} (e : Same H H') (h : SqL K H a xs) : SqL K H' a xs := by
  rcases h with (h | ⟨o, h⟩) | h
  · exact .inl (.inl (e _ _ h))
  · exact .inl (.inr ⟨o, e _ _ h⟩)
  · exact .inr h
theorem seqT {K : Fg} {H H' : Hp} {a : Addr} {xs : List V} (e : Same H H') (h : SqT K H a xs) : SqT K H' a xs := by
  rcases h with (h | ⟨o, h⟩) | h
  · exact .inl (.inl (e _ _ h))
  · exact .inl (.inr ⟨o, e _ _ h⟩)
  · exact .inr h

section
variable {K : Fg} {F F' : Hp} {T : Addr}
mutual
theorem Rel.mono (e : Same F F') : ∀ (d : Dat) (v : V), Rel K F T d v → Rel K F' T d v
  | .none, _, h => h
  | .bool _, _, h => h
  | .int _, _, h => h
  | .str _, _, h => h
  | .list ds, _, h => by
    unfold Rel at h ⊢
    obtain ⟨a, xs, e1, h1, h2⟩ := h
    exact ⟨a, xs, e1, e _ _ h1, RelL.mono e ds xs h2⟩
  | .tuple ds, _, h => by
    unfold Rel at h ⊢
    obtain ⟨a, xs, e1, h1, h2⟩ := h
    exact ⟨a, xs, e1, h1.mono e, RelL.mono e ds xs h2⟩
  | .dict [], _, h => h
  | .dict [(d, d')], _, h => by
    unfold Rel at h ⊢
    obtain ⟨a, x, y, e1, h1, h2, h3⟩ := h
    exact ⟨a, x, y, e1, seqT e h1, Rel.mono e d x h2, Rel.mono e d' y h3⟩
  | .dict (_ :: (_, .list ds) :: _), _, h => by
    unfold Rel at h ⊢
    obtain ⟨a, xs, e1, h1, h2⟩ := h
    exact ⟨a, xs, e1, seqL e h1, RelL.mono e ds xs h2⟩
  | .dict (_ :: (_, .none) :: _), _, h => by unfold Rel at h; exact h.elim
  | .dict (_ :: (_, .bool _) :: _), _, h => by unfold Rel at h; exact h.elim
  | .dict (_ :: (_, .int _) :: _), _, h => by unfold Rel at h; exact h.elim
  | .dict (_ :: (_, .str _) :: _), _, h => by unfold Rel at h; exact h.elim
  | .dict (_ :: (_, .tuple _) :: _), _, h => by unfold Rel at h; exact h.elim
  | .dict (_ :: (_, .dict _) :: _), _, h => by unfold Rel at h; exact h.elim
theorem RelL.mono (e : Same F F') : ∀ (ds : List Dat) (xs : List V), RelL K F T ds xs → RelL K F' T ds xs
  | [], _, h => h
  | d :: ds, _, h => by
    unfold RelL at h ⊢
    obtain ⟨y, ys, e1, h1, h2⟩ := h
    exact ⟨y, ys, e1, Rel.mono e d y h1, RelL.mono e ds ys h2⟩
end

theorem RelL.nil : RelL K F T [] [] := by unfold RelL; rfl
theorem RelL.cons {d ds v vs} (h : Rel K F T d v) (t : RelL K F T ds vs) : RelL K F T (d :: ds) (v :: vs) := by unfold RelL; exact ⟨v, vs, rfl, h, t⟩
theorem RelL.len : ∀ {ds : List Dat} {vs : List V}, RelL K F T ds vs → vs.length = ds.length
  | [], _, h => by unfold RelL at h; subst h; rfl
  | d :: ds, _, h => by
    unfold RelL at h
    obtain ⟨y, ys, rfl, _, h2⟩ := h
    simp [h2.len]
theorem RelL.get : ∀ {ds : List Dat} {vs : List V} {i : Nat} {d : Dat}, RelL K F T ds vs → ds[i]? = some d → ∃ v, vs[i]? = some v ∧ Rel K F T d v
  | [], _, i, d, _, e => by simp at e
  | d :: ds, _, 0, d', h, e => by
    unfold RelL at h
    obtain ⟨y, ys, rfl, h1, h2⟩ := h
    simp at e
    subst e
    exact ⟨y, rfl, h1⟩
  | d :: ds, _, i + 1, d', h, e => by
    unfold RelL at h
    obtain ⟨y, ys, rfl, h1, h2⟩ := h
    simp at e
    obtain ⟨v, e2, r⟩ := h2.get e
    exact ⟨v, by simpa using e2, r⟩
theorem RelL.getV : ∀ {ds : List Dat} {vs : List V} {i : Nat} {v : V}, RelL K F T ds vs → vs[i]? = some v → ∃ d, ds[i]? = some d ∧ Rel K F T d v
  | [], _, i, d, h, e => by unfold RelL at h; subst h; simp at e
  | d :: ds, _, 0, d', h, e => by
    unfold RelL at h
    obtain ⟨y, ys, rfl, h1, h2⟩ := h
    simp at e
    subst e
    exact ⟨d, rfl, h1⟩
  | d :: ds, _, i + 1, d', h, e => by
    unfold RelL at h
    obtain ⟨y, ys, rfl, h1, h2⟩ := h
    simp at e
    obtain ⟨v, e2, r⟩ := h2.getV e
    exact ⟨v, by simpa using e2, r⟩
theorem RelL.append : ∀ {ds es : List Dat} {vs ws : List V}, RelL K F T ds vs → RelL K F T es ws → RelL K F T (ds ++ es) (vs ++ ws)
  | [], _, _, _, h, h' => by unfold RelL at h; subst h; exact h'
  | d :: ds, _, _, _, h, h' => by
    unfold RelL at h
    obtain ⟨y, ys, rfl, h1, h2⟩ := h
    exact .cons h1 (h2.append h')
theorem RelL.take : ∀ {ds : List Dat} {vs : List V} (n : Nat), RelL K F T ds vs → RelL K F T (ds.take n) (vs.take n)
  | _, _, 0, _ => by simpa using RelL.nil
  | [], _, n + 1, h => by unfold RelL at h; subst h; exact RelL.nil
  | d :: ds, _, n + 1, h => by
    unfold RelL at h
    obtain ⟨y, ys, rfl, h1, h2⟩ := h
    exact .cons h1 (h2.take n)
theorem RelL.drop : ∀ {ds : List Dat} {vs : List V} (n : Nat), RelL K F T ds vs → RelL K F T (ds.drop n) (vs.drop n)
  | _, _, 0, h => h
  | [], _, n + 1, h => by unfold RelL at h; subst h; exact RelL.nil
  | d :: ds, _, n + 1, h => by
    unfold RelL at h
    obtain ⟨y, ys, rfl, h1, h2⟩ := h
    exact h2.drop n
theorem RelL.set : ∀ {ds : List Dat} {vs : List V} {d : Dat} {v : V} (n : Nat), RelL K F T ds vs → Rel K F T d v → RelL K F T (ds.set n d) (vs.set n v)
  | [], _, _, _, n, h, _ => by unfold RelL at h; subst h; exact RelL.nil
  | d :: ds, _, _, _, 0, h, r => by
    unfold RelL at h
    obtain ⟨y, ys, rfl, h1, h2⟩ := h
    exact .cons r h2
  | d :: ds, _, _, _, n + 1, h, r => by
    unfold RelL at h
    obtain ⟨y, ys, rfl, h1, h2⟩ := h
    exact .cons h1 (h2.set n r)
theorem RelL.eraseIdx : ∀ {ds : List Dat} {vs : List V} (n : Nat), RelL K F T ds vs → RelL K F T (ds.eraseIdx n) (vs.eraseIdx n)
  | [], _, n, h => by unfold RelL at h; subst h; exact RelL.nil
  | d :: ds, _, 0, h => by
    unfold RelL at h
    obtain ⟨y, ys, rfl, h1, h2⟩ := h
    exact h2
  | d :: ds, _, n + 1, h => by
    unfold RelL at h
    obtain ⟨y, ys, rfl, h1, h2⟩ := h
    exact .cons h1 (h2.eraseIdx n)
theorem RelL.reverse {ds : List Dat} {vs : List V} (h : RelL K F T ds vs) : RelL K F T ds.reverse vs.reverse := by
  induction ds generalizing vs with
  | nil => unfold RelL at h; subst h; exact RelL.nil
  | cons d ds ih =>
    unfold RelL at h
    obtain ⟨y, ys, rfl, h1, h2⟩ := h
    rw [List.reverse_cons, List.reverse_cons]
    exact (ih h2).append (.cons h1 .nil)
theorem RelL.rep {ds : List Dat} {vs : List V} (h : RelL K F T ds vs) : ∀ k : Nat, RelL K F T (List.replicate k ds).flatten (List.replicate k vs).flatten
  | 0 => RelL.nil
  | k + 1 => by
    rw [List.replicate_succ, List.replicate_succ, List.flatten_cons, List.flatten_cons]
    exact h.append (h.rep k)
theorem RelL.nil_iff {ds : List Dat} {vs : List V} (h : RelL K F T ds vs) : vs = [] ↔ ds = [] := by
  have e := h.len
  constructor
  · rintro rfl
    exact List.eq_nil_of_length_eq_zero e.symm
  · rintro rfl
    exact List.eq_nil_of_length_eq_zero e
end

/-! ### the state -/
/-- a slot: nothing known, data that never changes any more, a list of the frame's own -/
inductive Sl where
  | un
  | fr (d : Dat)
  | ow (ds : List Dat)
/-- the law's draws: cells and a seed; or a place and a rest -/
inductive Dr where
  | no
  | A (cells : List Int) (seed : Int)
  | B (k c : Int)
structure PS where
  sl : List Sl
  dr : Dr
/-- the entry -/
structure Ctl where
  H0 : Hp
  F0 : Hp
  T : Addr
  C : Addr
  st : Bool
def Ctl.ex (G : Ctl) (a : Addr) : Prop := G.st = true ∧ (a = G.T ∨ a = G.C)
def DrAt (T C : Addr) (H : Hp) : Dr → Prop
  | .no => False
  | .A cs s => T ≠ C ∧ H T = some (.lst [.ref C, .int s]) ∧ H C = some (.lst (cs.map V.int))
  | .B k c => H T = some (.lst [.int k, .int c]) ∧ C = T
theorem DrAt.T {T C : Addr} {H : Hp} {d : Dr} (h : DrAt T C H d) : H T ≠ none := by
  cases d with
  | no => exact h.elim
  | A cs s => rw [h.2.1]; simp
  | B k c => rw [h.1]; simp
theorem DrAt.C {T C : Addr} {H : Hp} {d : Dr} (h : DrAt T C H d) : H C ≠ none := by
  cases d with
  | no => exact h.elim
  | A cs s => rw [h.2.2]; simp
  | B k c => rw [h.2, h.1]; simp
theorem DrAt.keep {T C : Addr} {H H' : Hp} {d : Dr} (h : DrAt T C H d) (k : ∀ a o, H a = some o → (a = T ∨ a = C) → H' a = some o) : DrAt T C H' d := by
  cases d with
  | no => exact h.elim
  | A cs s => exact ⟨h.1, k _ _ h.2.1 (.inl rfl), k _ _ h.2.2 (.inr rfl)⟩
  | B k' c => exact ⟨k _ _ h.1 (.inl rfl), h.2⟩

def SlOk (G : Ctl) (K : Fg) (F H : Hp) : Sl → Option V → Prop
  | .un, _ => True
  | .fr d, o => ∃ v, o = some v ∧ Rel K F G.T d v
  | .ow ds, o => ∃ p vs, o = some (.ref p) ∧ H p = some (.lst vs) ∧ F p = none ∧ G.H0 p = none ∧ RelL K F G.T ds vs

structure Rep (G : Ctl) (K : Fg) (F : Hp) (ps : PS) (σ : L2.St) (H : Hp) : Prop where
  len : σ.length = ps.sl.length
  slots : ∀ (i : Nat) (s : Sl), ps.sl[i]? = some s → ∃ o, σ[i]? = some o ∧ SlOk G K F H s o
  sep : ∀ (i j : Nat) (di dj : List Dat) (p : Addr), ps.sl[i]? = some (.ow di) → ps.sl[j]? = some (.ow dj) → σ[i]? = some (some (.ref p)) → σ[j]? = some (some (.ref p)) → i = j
  dr : G.st = true → DrAt G.T G.C H ps.dr
  ft : G.st = true → F G.T = none ∧ F G.C = none ∧ G.H0 G.T ≠ none ∧ G.H0 G.C ≠ none
  fh : Same F H
  kp : ∀ a o, G.H0 a = some o → ¬ G.ex a → H a = some o
  f0 : ∀ a, G.H0 a ≠ none → F a = G.F0 a
  ff : Same G.F0 F
  nd : G.st = false → ps.dr = .no

/-- p is an own list's place -/
def Own (ps : PS) (σ : L2.St) (p : Addr) : Prop := ∃ (i : Nat) (ds : List Dat), ps.sl[i]? = some (.ow ds) ∧ σ[i]? = some (some (.ref p))

structure Post (G : Ctl) (K : Fg) (F : Hp) (ps : PS) (σ : L2.St) (H : Hp) (F' : Hp) (ps' : PS) (H' : Hp) : Prop where
  rep : Rep G K F' ps' σ H'
  same : Same F F'
  fresh : ∀ p vs, H p = some (.lst vs) → F p = none → G.H0 p = none → ¬ Own ps σ p → H' p = some (.lst vs) ∧ F' p = none ∧ ¬ Own ps' σ p
  dom : ∀ a, H' a = none → H a = none

section
variable {G : Ctl} {K : Fg} {F F1 F2 : Hp} {ps ps1 ps2 : PS} {σ : L2.St} {H H1 H2 : Hp}
theorem Post.refl (r : Rep G K F ps σ H) : Post G K F ps σ H F ps H := ⟨r, Same.refl F, fun p vs h1 h2 h3 h4 => ⟨h1, h2, h4⟩, fun _ h => h⟩
theorem Post.trans (a : Post G K F ps σ H F1 ps1 H1) (b : Post G K F1 ps1 σ H1 F2 ps2 H2) : Post G K F ps σ H F2 ps2 H2 :=
  ⟨b.rep, a.same.trans b.same, fun p vs h1 h2 h3 h4 =>
    let ⟨q1, q2, q3⟩ := a.fresh p vs h1 h2 h3 h4
    b.fresh p vs q1 q2 h3 q3, fun p h => a.dom p (b.dom p h)⟩

theorem Rep.h0 (r : Rep G K F ps σ H) {p : Addr} (h : H p = none) : G.H0 p = none := by
  cases q : G.H0 p with
  | none => rfl
  | some o =>
    by_cases e : G.ex p
    · obtain ⟨e1, e2⟩ := e
      have d := r.dr e1
      rcases e2 with rfl | rfl
      · exact absurd h d.T
      · exact absurd h d.C
    · rw [r.kp p o q e] at h
      cases h
theorem Rep.fn (r : Rep G K F ps σ H) {p : Addr} (h : H p = none) : F p = none := r.fh.free h

theorem SlOk.mono {s : Sl} {o : Option V} (h : SlOk G K F H s o) (fs : Same F F1) (k : ∀ p vs ds, s = .ow ds → o = some (.ref p) → H p = some (.lst vs) → F p = none → G.H0 p = none → H1 p = some (.lst vs) ∧ F1 p = none) : SlOk G K F1 H1 s o := by
  cases s with
  | un => trivial
  | fr d =>
    obtain ⟨v, e, q⟩ := h
    exact ⟨v, e, Rel.mono fs _ _ q⟩
  | ow ds =>
    obtain ⟨p, vs, e, h1, h2, h3, q⟩ := h
    obtain ⟨a, b⟩ := k p vs ds rfl e h1 h2 h3
    exact ⟨p, vs, e, a, b, h3, RelL.mono fs _ _ q⟩

/-- objects are added and frozen; nothing else changes -/
theorem Rep.grow (r : Rep G K F ps σ H) (fs : Same F F1) (fh : Same F1 H1) (k : ∀ a o, H a = some o → H1 a = some o) (nf : ∀ a, F1 a ≠ none → F a = none → G.H0 a = none ∧ ¬ Own ps σ a) : Rep G K F1 ps σ H1 where
  len := r.len
  slots := fun i s e => by
    obtain ⟨o, e1, q⟩ := r.slots i s e
    refine ⟨o, e1, q.mono fs fun p vs ds es eo h1 h2 h3 => ⟨k _ _ h1, ?_⟩⟩
    cases z : F1 p with
    | none => rfl
    | some u =>
      exact absurd ⟨i, ds, by rw [e, es], by rw [e1, eo]⟩ (nf p (by rw [z]; simp) h2).2
  sep := r.sep
  dr := fun h => (r.dr h).keep fun a o e _ => k a o e
  ft := fun h => by
    obtain ⟨a, b, c, d⟩ := r.ft h
    refine ⟨?_, ?_, c, d⟩
    · cases z : F1 G.T with
      | none => rfl
      | some u => exact absurd (nf _ (by rw [z]; simp) a).1 c
    · cases z : F1 G.C with
      | none => rfl
      | some u => exact absurd (nf _ (by rw [z]; simp) b).1 d
  fh := fh
  kp := fun a o e x => k _ _ (r.kp a o e x)
  f0 := fun a e => by
    have e1 := r.f0 a e
    cases z : F1 a with
    | none =>
      cases y : F a with
      | none => rw [← e1, y]
      | some u =>
        rw [fs _ _ y] at z
        cases z
    | some u =>
      cases y : F a with
      | none => exact absurd (nf a (by rw [z]; simp) y).1 e
      | some w =>
        rw [fs _ _ y] at z
        rw [← e1, y, ← z]
  ff := r.ff.trans fs
  nd := r.nd

theorem Rep.ownH (r : Rep G K F ps σ H) {p : Addr} (o : Own ps σ p) : ∃ vs, H p = some (.lst vs) ∧ F p = none ∧ G.H0 p = none := by
  obtain ⟨i, ds, e1, e2⟩ := o
  obtain ⟨o, e3, q⟩ := r.slots i _ e1
  obtain ⟨p', vs, e4, h1, h2, h3, _⟩ := q
  rw [e3, e4] at e2
  cases e2
  exact ⟨vs, h1, h2, h3⟩

theorem same_upd {H : Hp} {p : Addr} {o : HO} (h : H p = none) : Same H (upd H p o) := fun b x e => by
  rw [upd_ne (ne_of_none e h)]
  exact e

/-- a new list, not yet anyone's -/
theorem Rep.newL (r : Rep G K F ps σ H) {p : Addr} {vs : List V} (hp : H p = none) : Post G K F ps σ H F ps (upd H p (.lst vs)) := by
  have hs := same_upd (o := .lst vs) hp
  refine ⟨r.grow (Same.refl F) (r.fh.trans hs) hs (fun a h1 h2 => absurd h2 h1), Same.refl F, fun q ws h1 h2 h3 h4 => ⟨hs _ _ h1, h2, h4⟩, fun _ => hs.free⟩
/-- a new object, frozen at once -/
theorem Rep.newF (r : Rep G K F ps σ H) {p : Addr} {o : HO} (hp : H p = none) : Post G K F ps σ H (upd F p o) ps (upd H p o) := by
  have hs := same_upd (o := o) hp
  have fs := same_upd (o := o) (r.fn hp)
  refine ⟨r.grow fs (fun b x e => ?_) hs (fun a h1 h2 => ?_), fs, fun q ws h1 h2 h3 h4 => ⟨hs _ _ h1, ?_, h4⟩, fun _ => hs.free⟩
  · by_cases hb : b = p
    · subst hb
      rw [upd_same] at e ⊢
      exact e
    · rw [upd_ne hb] at e ⊢
      exact r.fh _ _ e
  · have e : a = p := by
      by_cases hb : a = p
      · exact hb
      · rw [upd_ne hb] at h1
        exact absurd h2 h1
    subst e
    refine ⟨r.h0 hp, fun o => ?_⟩
    obtain ⟨vs, q, _⟩ := r.ownH o
    rw [hp] at q
    cases q
  · rw [upd_ne (ne_of_none h1 hp)]
    exact h2
/-- a list that is nobody's is frozen -/
theorem Rep.frz (r : Rep G K F ps σ H) {p : Addr} {vs : List V} (hp : H p = some (.lst vs)) (f : F p = none) (h0 : G.H0 p = none) (no : ¬ Own ps σ p) : Rep G K (upd F p (.lst vs)) ps σ H := by
  have fs := same_upd (o := .lst vs) f
  refine r.grow fs (fun b x e => ?_) (fun _ _ e => e) (fun a h1 h2 => ?_)
  · by_cases hb : b = p
    · subst hb
      rw [upd_same] at e
      cases e
      exact hp
    · rw [upd_ne hb] at e
      exact r.fh _ _ e
  · have e : a = p := by
      by_cases hb : a = p
      · exact hb
      · rw [upd_ne hb] at h1
        exact absurd h2 h1
    subst e
    exact ⟨h0, no⟩
theorem getSet {α : Type} {l : List α} {i j : Nat} {x y : α} (h : (l.set i x)[j]? = some y) : (j = i ∧ x = y ∧ i < l.length) ∨ (j ≠ i ∧ l[j]? = some y) := by
  by_cases e : j = i
  · subst e
    by_cases hl : j < l.length
    · rw [List.getElem?_set_self hl] at h
      exact .inl ⟨rfl, Option.some.inj h, hl⟩
    · rw [List.getElem?_eq_none (by simp; omega)] at h
      cases h
  · rw [List.getElem?_set_ne (Ne.symm e)] at h
    exact .inr ⟨e, h⟩
theorem ltOf {α : Type} {l : List α} {i : Nat} {x : α} (h : l[i]? = some x) : i < l.length := (List.getElem?_eq_some_iff.mp h).1

/-- an own list at slot i is frozen -/
def PS.put (ps : PS) (i : Nat) (s : Sl) : PS := { ps with sl := ps.sl.set i s }
theorem Rep.frzSl (r : Rep G K F ps σ H) {i : Nat} {ds : List Dat} (e : ps.sl[i]? = some (.ow ds)) :
    ∃ p vs, σ[i]? = some (some (.ref p)) ∧ H p = some (.lst vs) ∧ Post G K F ps σ H (upd F p (.lst vs)) (ps.put i (.fr (.list ds))) H ∧ Rel K (upd F p (.lst vs)) G.T (.list ds) (.ref p) := by
  obtain ⟨o, e1, p, vs, rfl, hp, hf, h0, rl⟩ := r.slots i _ e
  have fs := same_upd (o := .lst vs) hf
  have fh : Same (upd F p (.lst vs)) H := fun b x e => by
    by_cases hb : b = p
    · subst hb
      rw [upd_same] at e
      cases e
      exact hp
    · rw [upd_ne hb] at e
      exact r.fh _ _ e
  have rl' : Rel K (upd F p (.lst vs)) G.T (.list ds) (.ref p) := by
    unfold Rel
    exact ⟨p, vs, rfl, upd_same, RelL.mono fs _ _ rl⟩
  have own' : ∀ q, Own (ps.put i (.fr (.list ds))) σ q → Own ps σ q ∧ q ≠ p := by
    rintro q ⟨j, dj, e2, e3⟩
    rcases getSet e2 with ⟨rfl, z, _⟩ | ⟨hj, e2⟩
    · cases z
    · refine ⟨⟨j, dj, e2, e3⟩, fun z => ?_⟩
      subst z
      exact hj (r.sep _ _ _ _ _ e2 e e3 e1)
  refine ⟨p, vs, e1, hp, ⟨⟨?_, fun j s e2 => ?_, fun a b da db q ha hb hqa hqb => ?_, r.dr, fun h => ?_, fh, r.kp, fun a ha => ?_, r.ff.trans fs, r.nd⟩, fs, fun q ws h1 h2 h3 h4 => ⟨h1, ?_, fun z => h4 (own' q z).1⟩, fun _ h => h⟩, rl'⟩
  · show σ.length = (ps.sl.set i _).length
    rw [List.length_set]
    exact r.len
  · rcases getSet e2 with ⟨rfl, rfl, _⟩ | ⟨hj, e2⟩
    · exact ⟨_, e1, _, rfl, rl'⟩
    · obtain ⟨o, e3, q⟩ := r.slots j s e2
      refine ⟨o, e3, q.mono fs fun q ws ds' es eo h1 h2 h3 => ⟨h1, ?_⟩⟩
      rw [upd_ne]
      · exact h2
      · rintro rfl
        exact hj (r.sep _ _ _ _ _ (by rw [e2, es]) e (by rw [e3, eo]) e1)
  · rcases getSet ha with ⟨_, z, _⟩ | ⟨_, ha⟩
    · cases z
    · rcases getSet hb with ⟨_, z, _⟩ | ⟨_, hb⟩
      · cases z
      · exact r.sep _ _ _ _ _ ha hb hqa hqb
  · obtain ⟨a, b, c, d⟩ := r.ft h
    refine ⟨?_, ?_, c, d⟩
    · rw [upd_ne]
      · exact a
      · rintro rfl
        exact c h0
    · rw [upd_ne]
      · exact b
      · rintro rfl
        exact d h0
  · rw [upd_ne]
    · exact r.f0 a ha
    · rintro rfl
      exact ha h0
  · rw [upd_ne]
    · exact h2
    · rintro rfl
      exact h4 ⟨i, ds, e, e1⟩
/-- an own list is written -/
theorem Rep.wr (r : Rep G K F ps σ H) {i : Nat} {ds ds' : List Dat} {p : Addr} {vs' : List V} (e : ps.sl[i]? = some (.ow ds)) (ep : σ[i]? = some (some (.ref p))) (rl : RelL K F G.T ds' vs') :
    Post G K F ps σ H F (ps.put i (.ow ds')) (upd H p (.lst vs')) := by
  obtain ⟨o, e1, p', vs, rfl, hp, hf, h0, _⟩ := r.slots i _ e
  rw [e1] at ep
  cases ep
  have own' : ∀ q, Own (ps.put i (.ow ds')) σ q → Own ps σ q := by
    rintro q ⟨j, dj, e2, e3⟩
    rcases getSet e2 with ⟨rfl, z, _⟩ | ⟨hj, e2⟩
    · exact ⟨j, ds, e, e3⟩
    · exact ⟨j, dj, e2, e3⟩
  refine ⟨⟨?_, fun j s e2 => ?_, fun a b da db q ha hb hqa hqb => ?_, fun h => ?_, r.ft, fun b x e2 => ?_, fun a o ha hx => ?_, r.f0, r.ff, r.nd⟩, Same.refl F, fun q ws h1 h2 h3 h4 => ⟨?_, h2, fun z => h4 (own' q z)⟩, fun a h => ?_⟩
  · show σ.length = (ps.sl.set i _).length
    rw [List.length_set]
    exact r.len
  · rcases getSet e2 with ⟨rfl, rfl, _⟩ | ⟨hj, e2⟩
    · exact ⟨_, e1, p, vs', rfl, upd_same, hf, h0, rl⟩
    · obtain ⟨o, e3, q⟩ := r.slots j s e2
      refine ⟨o, e3, q.mono (Same.refl F) fun q ws ds' es eo h1 h2 h3 => ⟨?_, h2⟩⟩
      rw [upd_ne]
      · exact h1
      · rintro rfl
        exact hj (r.sep _ _ _ _ _ (by rw [e2, es]) e (by rw [e3, eo]) e1)
  · have f1 : ∃ d, ps.sl[a]? = some (.ow d) := by
      rcases getSet ha with ⟨rfl, z, _⟩ | ⟨_, ha⟩
      · exact ⟨_, e⟩
      · exact ⟨_, ha⟩
    have f2 : ∃ d, ps.sl[b]? = some (.ow d) := by
      rcases getSet hb with ⟨rfl, z, _⟩ | ⟨_, hb⟩
      · exact ⟨_, e⟩
      · exact ⟨_, hb⟩
    obtain ⟨_, f1⟩ := f1
    obtain ⟨_, f2⟩ := f2
    exact r.sep _ _ _ _ _ f1 f2 hqa hqb
  · refine (r.dr h).keep fun a o ha hx => ?_
    rw [upd_ne]
    · exact ha
    · obtain ⟨_, _, c, d⟩ := r.ft h
      rintro rfl
      rcases hx with rfl | rfl
      · exact c h0
      · exact d h0
  · have hb : b ≠ p := by
      rintro rfl
      rw [hf] at e2
      cases e2
    rw [upd_ne hb]
    exact r.fh _ _ e2
  · rw [upd_ne]
    · exact r.kp a o ha hx
    · rintro rfl
      rw [h0] at ha
      cases ha
  · rw [upd_ne]
    · exact h1
    · rintro rfl
      exact h4 ⟨i, ds, e, e1⟩
  · by_cases ha : a = p
    · subst ha
      rw [upd_same] at h
      cases h
    · rwa [upd_ne ha] at h
end

/-! ### values within an expression -/
/-- data; a new list that is nobody's; what a slot holds -/
inductive RV where
  | im (d : Dat)
  | nw (ds : List Dat)
  | sl (i : Nat)
def RVok (G : Ctl) (K : Fg) (F : Hp) (ps : PS) (σ : L2.St) (Hs H : Hp) : RV → V → Prop
  | .im d, v => Rel K F G.T d v
  | .nw ds, v => ∃ p vs, v = .ref p ∧ H p = some (.lst vs) ∧ F p = none ∧ G.H0 p = none ∧ ¬ Own ps σ p ∧ RelL K F G.T ds vs ∧ Hs p = none
  | .sl i, v => σ[i]? = some (some v)
theorem RVok.post {G : Ctl} {K : Fg} {F F' : Hp} {ps ps' : PS} {σ : L2.St} {Hs H H' : Hp} {r : RV} {v : V} (h : RVok G K F ps σ Hs H r v) (p : Post G K F ps σ H F' ps' H') : RVok G K F' ps' σ Hs H' r v := by
  cases r with
  | im d => exact Rel.mono p.same _ _ h
  | nw ds =>
    obtain ⟨q, vs, e, h1, h2, h3, h4, h5, h6⟩ := h
    obtain ⟨a, b, c⟩ := p.fresh q vs h1 h2 h3 h4
    exact ⟨q, vs, e, a, b, h3, c, RelL.mono p.same _ _ h5, h6⟩
  | sl i => exact h
theorem RVok.back {G : Ctl} {K : Fg} {F : Hp} {ps : PS} {σ : L2.St} {Hs Hs' H : Hp} {r : RV} {v : V} (h : RVok G K F ps σ Hs' H r v) (d : ∀ a, Hs' a = none → Hs a = none) : RVok G K F ps σ Hs H r v := by
  cases r with
  | im d => exact h
  | nw ds =>
    obtain ⟨q, vs, e, h1, h2, h3, h4, h5, h6⟩ := h
    exact ⟨q, vs, e, h1, h2, h3, h4, h5, d _ h6⟩
  | sl i => exact h

/-- data as it is read now: an own list's items are frozen, the list itself need not be -/
def BRel (K : Fg) (F H : Hp) (T : Addr) : Dat → V → Prop
  | .list ds, v => ∃ a xs, v = .ref a ∧ H a = some (.lst xs) ∧ RelL K F T ds xs
  | d, v => Rel K F T d v
theorem BRel.of {K : Fg} {F H : Hp} {T : Addr} (s : Same F H) {d : Dat} {v : V} (h : Rel K F T d v) : BRel K F H T d v := by
  cases d with
  | list ds =>
    unfold Rel at h
    obtain ⟨a, xs, e, h1, h2⟩ := h
    exact ⟨a, xs, e, s _ _ h1, h2⟩
  | _ => exact h
theorem BRel.rel {K : Fg} {F H : Hp} {T : Addr} (s : Same F H) {d : Dat} {v : V} (h : BRel K F H T d v) : Rel K H T d v := by
  cases d with
  | list ds =>
    unfold Rel
    obtain ⟨a, xs, e, h1, h2⟩ := h
    exact ⟨a, xs, e, h1, RelL.mono s _ _ h2⟩
  | _ => exact Rel.mono s _ _ h

def brw (r : RV) (ps : PS) : Option Dat :=
  match r with
  | .im d => some d
  | .nw ds => some (.list ds)
  | .sl i => match ps.sl[i]? with
    | some (.fr d) => some d
    | some (.ow ds) => some (.list ds)
    | _ => none
theorem brw_ok {G : Ctl} {K : Fg} {F : Hp} {ps : PS} {σ : L2.St} {Hs H : Hp} {r : RV} {v : V} {d : Dat} (R : Rep G K F ps σ H) (h : RVok G K F ps σ Hs H r v) (e : brw r ps = some d) : BRel K F H G.T d v := by
  cases r with
  | im d' => cases e; exact .of R.fh h
  | nw ds =>
    cases e
    obtain ⟨q, vs, e, h1, h2, h3, h4, h5, _⟩ := h
    exact ⟨q, vs, e, h1, h5⟩
  | sl i =>
    have h : σ[i]? = some (some v) := h
    unfold brw at e
    cases q : ps.sl[i]? with
    | none => simp [q] at e
    | some s =>
      obtain ⟨o, e1, z⟩ := R.slots i s q
      rw [h] at e1
      cases e1
      cases s with
      | un => simp [q] at e
      | fr d' =>
        simp [q] at e
        subst e
        obtain ⟨v', e2, z⟩ := z
        cases e2
        exact .of R.fh z
      | ow ds =>
        simp [q] at e
        subst e
        obtain ⟨p, vs, e2, h1, h2, h3, h5⟩ := z
        cases e2
        exact ⟨p, vs, rfl, h1, h5⟩

/-- a new list that waits is frozen -/
def settle : RV → RV
  | .nw ds => .im (.list ds)
  | r => r
theorem settle_ok {G : Ctl} {K : Fg} {F F1 : Hp} {ps ps1 : PS} {σ : L2.St} {H H1 : Hp} {r : RV} {v : V} (P : Post G K F ps σ H F1 ps1 H1) (h : RVok G K F1 ps1 σ H H1 r v) : ∃ F', Post G K F ps σ H F' ps1 H1 ∧ RVok G K F' ps1 σ H H1 (settle r) v := by
  cases r with
  | im d => exact ⟨F1, P, h⟩
  | sl i => exact ⟨F1, P, h⟩
  | nw ds =>
    obtain ⟨p, vs, rfl, h1, h2, h3, h4, h5, h6⟩ := h
    have fs := same_upd (o := .lst vs) h2
    refine ⟨upd F1 p (.lst vs), ⟨P.rep.frz h1 h2 h3 h4, P.same.trans fs, fun q ws a b c d => ?_, P.dom⟩, ?_⟩
    · obtain ⟨x, y, z⟩ := P.fresh q ws a b c d
      refine ⟨x, ?_, z⟩
      rw [upd_ne]
      · exact y
      · rintro rfl
        rw [h6] at a
        cases a
    · show Rel _ _ _ _ _
      unfold Rel
      exact ⟨p, vs, rfl, upd_same, RelL.mono fs _ _ h5⟩

/-- a value that is kept: frozen -/
def keepV (r : RV) (ps : PS) : Option (Dat × PS) :=
  match r with
  | .im d => some (d, ps)
  | .nw ds => some (.list ds, ps)
  | .sl i => match ps.sl[i]? with
    | some (.fr d) => some (d, ps)
    | some (.ow ds) => some (.list ds, ps.put i (.fr (.list ds)))
    | _ => none
theorem keepV_ok {G : Ctl} {K : Fg} {F F1 : Hp} {ps ps1 ps2 : PS} {σ : L2.St} {H H1 : Hp} {r : RV} {v : V} {d : Dat} (P : Post G K F ps σ H F1 ps1 H1) (h : RVok G K F1 ps1 σ H H1 r v) (e : keepV r ps1 = some (d, ps2)) :
    ∃ F', Post G K F ps σ H F' ps2 H1 ∧ Rel K F' G.T d v := by
  cases r with
  | im d' => cases e; exact ⟨F1, P, h⟩
  | nw ds =>
    cases e
    obtain ⟨F', P', h'⟩ := settle_ok P h
    exact ⟨F', P', h'⟩
  | sl i =>
    have h : σ[i]? = some (some v) := h
    unfold keepV at e
    cases q : ps1.sl[i]? with
    | none => simp [q] at e
    | some s =>
      obtain ⟨o, e1, z⟩ := P.rep.slots i s q
      cases s with
      | un => simp [q] at e
      | fr d' =>
        simp [q] at e
        obtain ⟨rfl, rfl⟩ := e
        rw [h] at e1
        cases e1
        obtain ⟨v', e2, z⟩ := z
        cases e2
        exact ⟨F1, P, z⟩
      | ow ds =>
        simp [q] at e
        obtain ⟨rfl, rfl⟩ := e
        obtain ⟨p, vs, e3, hp, P', rl⟩ := P.rep.frzSl q
        rw [h] at e3
        cases e3
        exact ⟨_, P.trans P', rl⟩
end MP

namespace MP
open PySem PySem.Spec PyProof.Rows L2

/-! ### denotations -/
abbrev M (α : Type) := PS → Option (α × PS)
def M.ret {α : Type} (a : α) : M α := fun ps => some (a, ps)
def M.bnd {α β : Type} (m : M α) (k : α → M β) : M β := fun ps => (m ps).bind fun x => k x.1 x.2

/-- a new tuple, its object known -/
def NewT (H : Hp) (xs : List V) (Q : VK) : Prop := ∀ (p : Addr) (o : Obj), H p = none → o.dict = none → Q (.ref p) (upd H p (.frz o (.tup xs)))
theorem NewT.put {X : Cx} {pins : List (Addr × Obj)} {s : Shared} {σ : L2.St} {H : Hp} {Q : VK} {xs : List V} {its : List Value} (q : NewT H xs Q) (I : Inv X pins σ H s) (r : Vals xs its) (hz : xs.length ≤ sizeLine) :
    EP X pins σ Q (.ref s.heap.objs.size) { s with heap := s.heap.push { cls := .type "tuple", data := .seq its.toArray } } := by
  have I2 := I.laid (t' := s.toks) (a := s.heap.objs.size) (h' := s.heap.push { cls := .type "tuple", data := .seq its.toArray }) (o := .frz { cls := .type "tuple", data := .seq its.toArray } (.tup xs)) (fun b o e => Heap.get?_push_of_some _ e) (Nat.le_refl _) ⟨Heap.get?_push_size _ rfl, hz, its, r, IsTup.new _ _⟩
  exact ⟨V.ref s.heap.objs.size, _, I2, rfl, q _ _ (I.hok.fresh (Nat.le_refl _)) rfl⟩

structure SndE (K : Fg) (t : TE) (f : M RV) : Prop where
  go : ∀ (G : Ctl) (F : Hp) (ps : PS) (σ : L2.St) (H : Hp) (r : RV) (ps' : PS) (Q : VK), Rep G K F ps σ H → f ps = some (r, ps') →
    (∀ v F' H', Post G K F ps σ H F' ps' H' → RVok G K F' ps' σ H H' r v → Q v H') → t σ H Q
structure SndT (K : Fg) (t : TT) (f : M Bool) : Prop where
  go : ∀ (G : Ctl) (F : Hp) (ps : PS) (σ : L2.St) (H : Hp) (b : Bool) (ps' : PS) (Q : Bool → Hp → Prop), Rep G K F ps σ H → f ps = some (b, ps') →
    (∀ F' H', Post G K F ps σ H F' ps' H' → Q b H') → t σ H Q
/-- kept arguments -/
structure SndA (K : Fg) (t : TA) (f : M (List Dat)) : Prop where
  go : ∀ (G : Ctl) (F : Hp) (ps : PS) (σ : L2.St) (H : Hp) (ds : List Dat) (ps' : PS) (Q : List V → Hp → Prop), Rep G K F ps σ H → f ps = some (ds, ps') →
    (∀ vs F' H', Post G K F ps σ H F' ps' H' → RelL K F' G.T ds vs → Q vs H') → t σ H Q
structure DE (X : Cx) (e : Expr) (t : TE) (f : M RV) : Prop where
  pe : PE X e t
  sn : SndE X.K t f
structure DT (X : Cx) (e : Expr) (t : TT) (f : M Bool) : Prop where
  pe : PT X e t
  sn : SndT X.K t f
/-- a test within and, or -/
structure DW (X : Cx) (e : Expr) (t : TT) (f : M Bool) : Prop where
  pe : PW X e t
  sn : SndT X.K t f
structure DA (X : Cx) (es : List Expr) (t : TA) (f : M (List Dat)) : Prop where
  pe : PA X es t
  sn : SndA X.K t f

/-! ### names, constants -/
def rdV (i : Nat) : M RV := fun ps => match ps.sl[i]? with
  | some (.fr d) => some (.im d, ps)
  | some (.ow _) => some (.sl i, ps)
  | _ => none
theorem snd_var {K : Fg} (i : Nat) : SndE K (tVar i) (rdV i) := by
  refine ⟨fun G F ps σ H r ps' Q R e q => ?_⟩
  unfold rdV at e
  cases z : ps.sl[i]? with
  | none => simp [z] at e
  | some s =>
    obtain ⟨o, e1, y⟩ := R.slots i s z
    cases s with
    | un => simp [z] at e
    | fr d =>
      simp [z] at e
      obtain ⟨rfl, rfl⟩ := e
      obtain ⟨v, rfl, y⟩ := y
      exact ⟨v, e1, q v F H (.refl R) y⟩
    | ow ds =>
      simp [z] at e
      obtain ⟨rfl, rfl⟩ := e
      obtain ⟨p, vs, rfl, _⟩ := y
      exact ⟨.ref p, e1, q _ F H (.refl R) e1⟩
def kst (d : Dat) : M RV := fun ps => some (.im d, ps)
theorem snd_kst {K : Fg} {d : Dat} {v : V} (h : ∀ F T, Rel K F T d v) : SndE K (tC v) (kst d) := by
  refine ⟨fun G F ps σ H r ps' Q R e q => ?_⟩
  cases e
  exact q v F H (.refl R) (h F G.T)
section
variable {X : Cx} {a b c e : Expr} {ta tb tc te : TE} {fa fb fc fe : M RV} {pos : Pos}
theorem de_var {i : Nat} {x : Str} (hN : X.N[i]? = some x) (hv : Vis X.env.scope x) (hd : (x == ("__debug__" : Str)) = false := by decide) (hcd : (x == ("__classdict__" : Str)) = false := by decide) : DE X (.Name x pos) (tVar i) (rdV i) :=
  ⟨pe_var hN hv hd hcd, snd_var i⟩
theorem de_int {i j} : DE X (.Constant (.int i) j pos) (tC (.int i)) (kst (.int i)) := ⟨pe_int, snd_kst fun _ _ => by unfold Rel; rfl⟩
theorem de_bl {k j} : DE X (.Constant (.bool k) j pos) (tC (.bl k)) (kst (.bool k)) := ⟨pe_bl, snd_kst fun _ _ => by unfold Rel; rfl⟩
theorem de_non {j} : DE X (.Constant .none j pos) (tC .non) (kst .none) := ⟨pe_non, snd_kst fun _ _ => by unfold Rel; rfl⟩
theorem de_str {x j} : DE X (.Constant (.str x) j pos) (tC (.str x)) (kst (.str x)) := ⟨pe_str, snd_kst fun _ _ => by unfold Rel; rfl⟩

/-! ### operations on data -/
def OpSnd (K : Fg) (r : R2) (g : Dat → Dat → Option RV) : Prop :=
  ∀ (G : Ctl) (F : Hp) (ps : PS) (σ : L2.St) (H : Hp) (x y : V) (d e : Dat) (out : RV) (Q : VK), Rep G K F ps σ H → BRel K F H G.T d x → BRel K F H G.T e y → g d e = some out →
    (∀ v F' H', Post G K F ps σ H F' ps H' → RVok G K F' ps σ H H' out v → Q v H') → r x y H Q
def UnSnd (K : Fg) (r : V → Hp → VK → Prop) (g : Dat → Option RV) : Prop :=
  ∀ (G : Ctl) (F : Hp) (ps : PS) (σ : L2.St) (H : Hp) (x : V) (d : Dat) (out : RV) (Q : VK), Rep G K F ps σ H → BRel K F H G.T d x → g d = some out →
    (∀ v F' H', Post G K F ps σ H F' ps H' → RVok G K F' ps σ H H' out v → Q v H') → r x H Q
def opM (g : Dat → Dat → Option RV) (fa fb : M RV) : M RV := fun ps =>
  (fa ps).bind fun x => (fb x.2).bind fun y => (brw (settle x.1) y.2).bind fun d => (brw y.1 y.2).bind fun e => (g d e).bind fun r => some (r, y.2)
def unM (g : Dat → Option RV) (fa : M RV) : M RV := fun ps =>
  (fa ps).bind fun x => (brw x.1 x.2).bind fun d => (g d).bind fun r => some (r, x.2)
theorem snd_op {K : Fg} {r : R2} {g : Dat → Dat → Option RV} (hg : OpSnd K r g) (ha : SndE K ta fa) (hb : SndE K tb fb) : SndE K (tOp r ta tb) (opM g fa fb) := by
  refine ⟨fun G F ps σ H out ps' Q R e q => ?_⟩
  unfold opM at e
  obtain ⟨⟨ra, ps1⟩, e1, e⟩ := Option.bind_eq_some_iff.mp e
  obtain ⟨⟨rb, ps2⟩, e2, e⟩ := Option.bind_eq_some_iff.mp e
  obtain ⟨d, e3, e⟩ := Option.bind_eq_some_iff.mp e
  obtain ⟨d', e4, e⟩ := Option.bind_eq_some_iff.mp e
  obtain ⟨out', e5, e⟩ := Option.bind_eq_some_iff.mp e
  cases e
  refine ha.go G F ps σ H ra ps1 _ R e1 fun x F1 H1 P1 r1 => ?_
  obtain ⟨F1', P1', r1'⟩ := settle_ok P1 r1
  refine hb.go G F1' ps1 σ H1 rb ps2 _ P1'.rep e2 fun y F2 H2 P2 r2 => ?_
  refine hg G F2 ps2 σ H2 x y d d' out Q P2.rep (brw_ok P2.rep (r1'.post P2) e3) (brw_ok P2.rep r2 e4) e5 fun v F' H' P3 r3 => ?_
  have P := (P1'.trans P2).trans P3
  exact q v F' H' P (r3.back (P1'.trans P2).dom)
theorem snd_un {K : Fg} {r : V → Hp → VK → Prop} {g : Dat → Option RV} (hg : UnSnd K r g) (ha : SndE K ta fa) : SndE K (tUn r ta) (unM g fa) := by
  refine ⟨fun G F ps σ H out ps' Q R e q => ?_⟩
  unfold unM at e
  obtain ⟨⟨ra, ps1⟩, e1, e⟩ := Option.bind_eq_some_iff.mp e
  obtain ⟨d, e3, e⟩ := Option.bind_eq_some_iff.mp e
  obtain ⟨out', e5, e⟩ := Option.bind_eq_some_iff.mp e
  cases e
  refine ha.go G F ps σ H ra ps1 _ R e1 fun x F1 H1 P1 r1 => ?_
  refine hg G F1 ps1 σ H1 x d out Q P1.rep (brw_ok P1.rep r1 e3) e5 fun v F' H' P3 r3 => ?_
  exact q v F' H' (P1.trans P3) (r3.back P1.dom)
end
/-! ### ways out -/
section
variable {G : Ctl} {K : Fg} {F : Hp} {ps : PS} {σ : L2.St} {H : Hp} {Q : VK}
theorem out_im {d : Dat} {v : V} (R : Rep G K F ps σ H) (h : Rel K F G.T d v) (q : ∀ v F' H', Post G K F ps σ H F' ps H' → RVok G K F' ps σ H H' (.im d) v → Q v H') : Q v H := q v F H (.refl R) h
theorem out_nw {ds : List Dat} {vs : List V} (R : Rep G K F ps σ H) (h : RelL K F G.T ds vs) (q : ∀ v F' H', Post G K F ps σ H F' ps H' → RVok G K F' ps σ H H' (.nw ds) v → Q v H') : ∀ p, H p = none → Q (.ref p) (upd H p (.lst vs)) := fun p hp => by
  have P := R.newL (vs := vs) hp
  refine q _ _ _ P ⟨p, vs, rfl, upd_same, R.fn hp, R.h0 hp, fun o => ?_, h, hp⟩
  obtain ⟨ws, z, _⟩ := R.ownH o
  rw [hp] at z
  cases z
theorem out_tp {ds : List Dat} {vs : List V} (R : Rep G K F ps σ H) (h : RelL K F G.T ds vs) (q : ∀ v F' H', Post G K F ps σ H F' ps H' → RVok G K F' ps σ H H' (.im (.tuple ds)) v → Q v H') : NewT H vs Q := fun p o hp ho => by
  have P := R.newF (o := .frz o (.tup vs)) hp
  refine q _ _ _ P ?_
  show Rel _ _ _ _ _
  unfold Rel
  exact ⟨p, vs, rfl, ⟨o, upd_same, ho⟩, RelL.mono P.same _ _ h⟩
end
theorem rInt {K : Fg} {F : Hp} {T : Addr} {i : Int} {v : V} : Rel K F T (.int i) v ↔ v = .int i := by unfold Rel; exact Iff.rfl
theorem rBl {K : Fg} {F : Hp} {T : Addr} {i : Bool} {v : V} : Rel K F T (.bool i) v ↔ v = .bl i := by unfold Rel; exact Iff.rfl
theorem rStr {K : Fg} {F : Hp} {T : Addr} {i : Str} {v : V} : Rel K F T (.str i) v ↔ v = .str i := by unfold Rel; exact Iff.rfl
theorem rNon {K : Fg} {F : Hp} {T : Addr} {v : V} : Rel K F T .none v ↔ v = .non := by unfold Rel; exact Iff.rfl
theorem rTupE {K : Fg} {F : Hp} {T : Addr} {ds : List Dat} {v : V} (h : Rel K F T (.tuple ds) v) : ∃ a xs, v = .ref a ∧ SqT K F a xs ∧ RelL K F T ds xs := by
  unfold Rel at h
  obtain ⟨a, xs, e, h1, h2⟩ := h
  exact ⟨a, xs, e, h1.sqT, h2⟩
theorem rTupD {K : Fg} {F : Hp} {T : Addr} {ds : List Dat} {v : V} (h : Rel K F T (.tuple ds) v) : ∃ a xs, v = .ref a ∧ TupD F a xs ∧ RelL K F T ds xs := by
  unfold Rel at h
  exact h
theorem rLst {K : Fg} {F : Hp} {T : Addr} {ds : List Dat} {v : V} : Rel K F T (.list ds) v ↔ ∃ a xs, v = .ref a ∧ F a = some (.lst xs) ∧ RelL K F T ds xs := by rw [Rel]
section
variable {K : Fg} {F H : Hp} {T : Addr} {v : V}
theorem bInt {i : Int} (h : BRel K F H T (.int i) v) : v = .int i := (rInt (K := K) (F := F) (T := T)).mp h
theorem bBl {i : Bool} (h : BRel K F H T (.bool i) v) : v = .bl i := (rBl (K := K) (F := F) (T := T)).mp h
theorem bStr {i : Str} (h : BRel K F H T (.str i) v) : v = .str i := (rStr (K := K) (F := F) (T := T)).mp h
theorem bNon (h : BRel K F H T .none v) : v = .non := (rNon (K := K) (F := F) (T := T)).mp h
theorem bTup {ds : List Dat} (s : Same F H) (h : BRel K F H T (.tuple ds) v) : ∃ a xs, v = .ref a ∧ SqT K H a xs ∧ RelL K F T ds xs := by
  obtain ⟨a, xs, e, h1, h2⟩ := rTupE (K := K) (F := F) (T := T) h
  exact ⟨a, xs, e, seqT s h1, h2⟩
theorem bLst {ds : List Dat} (h : BRel K F H T (.list ds) v) : ∃ a xs, v = .ref a ∧ H a = some (.lst xs) ∧ RelL K F T ds xs := h
theorem bDic {y : Dat × Dat} {z : Dat} {l : List (Dat × Dat)} {ds : List Dat} (s : Same F H) (h : BRel K F H T (.dict (y :: (z, .list ds) :: l)) v) : ∃ a xs, v = .ref a ∧ SqL K H a xs ∧ RelL K F T ds xs := by
  have h : Rel K F T (.dict (y :: (z, .list ds) :: l)) v := h
  unfold Rel at h
  obtain ⟨a, xs, e, h1, h2⟩ := h
  exact ⟨a, xs, e, seqL s h1, h2⟩
end

/-! ### + - * // % -/
def line (n : Nat) : Bool := decide (n ≤ sizeLine)
def addD : Dat → Dat → Option RV
  | .int i, .int j => some (.im (.int (i + j)))
  | .str x, .str y => if line (x.length + y.length) then some (.im (.str (x ++ y))) else none
  | .list xs, .list ys => if line (xs.length + ys.length) then some (.nw (xs ++ ys)) else none
  | .tuple xs, .tuple ys => if line (xs.length + ys.length) then some (.im (.tuple (xs ++ ys))) else none
  | _, _ => none

abbrev R2or (r r' : R2) : R2 := fun x y H Q => r x y H Q ∨ r' x y H Q
def rInt2 (g : Int → Int → V) : R2 := rI0 g
def rStrAdd : R2 := fun x y H Q => ∃ i j, x = .str i ∧ y = .str j ∧ i.length + j.length ≤ sizeLine ∧ Q (.str (i ++ j)) H
/-- two tuples made one; the empty one adds nothing -/
def rCatD (K : Fg) : R2 := fun x y H Q => ∃ (a b : Addr) (xs ys : List V), x = .ref a ∧ y = .ref b ∧ SqT K H a xs ∧ SqT K H b ys ∧ xs.length + ys.length ≤ sizeLine ∧ (xs = [] → Q (.ref b) H) ∧ (xs ≠ [] → ys = [] → Q (.ref a) H) ∧ (xs ≠ [] → ys ≠ [] → NewT H (xs ++ ys) Q)
theorem op_catD {X : Cx} : OpR X (binaryOp .Add) (rCatD X.K) := by
  rintro pins s σ H x y v u Q I rx ry ⟨a, b, xs, ys, rfl, rfl, ha, hb, hz, q0, q1, q2⟩
  cases rx
  cases ry
  obtain ⟨us, ru, pu, _⟩ := I.tuple ha
  obtain ⟨ws, rw', pw, _⟩ := I.tuple hb
  rcases Classical.em (xs = []) with rfl | hx
  · cases ru
    exact cat_tup0 pu pw ⟨V.ref b, H, I, rfl, q0 rfl⟩
  · refine HT.cat_tup pu pw (fun z => hx (ru.nil_iff.mp z)) (fun z => ⟨V.ref a, H, I, rfl, q1 hx (rw'.nil_iff.mp z)⟩) (fun z => ?_) (by rw [← ru.length, ← rw'.length]; exact hz)
    exact (q2 hx fun y => z (rw'.nil_iff.mpr y)).put I (ru.append rw') (by rw [List.length_append]; exact hz)
def rAddD (K : Fg) : R2 := R2or (rI0 fun i j => .int (i + j)) (R2or rStrAdd (R2or rCat (rCatD K)))
theorem op_addD {X : Cx} : OpR X (binaryOp .Add) (rAddD X.K) := op_add.or (op_add_str.or (op_cat.or op_catD))
theorem line_le {n : Nat} (h : line n = true) : n ≤ sizeLine := of_decide_eq_true h
theorem addD_ok {K : Fg} : OpSnd K (rAddD K) addD := by
  intro G F ps σ H x y d e out Q R hx hy hg q
  unfold addD at hg
  split at hg
  · cases hg
    rw [bInt hx, bInt hy]
    exact .inl ⟨_, _, rfl, rfl, out_im R (by unfold Rel; rfl) q⟩
  · split at hg
    · rename_i hl
      cases hg
      rw [bStr hx, bStr hy]
      exact .inr (.inl ⟨_, _, rfl, rfl, line_le hl, out_im R (by unfold Rel; rfl) q⟩)
    · cases hg
  · split at hg
    · rename_i xs ys hl
      cases hg
      obtain ⟨a, vs, rfl, h1, h2⟩ := bLst hx
      obtain ⟨b, ws, rfl, h3, h4⟩ := bLst hy
      refine .inr (.inr (.inl ⟨a, b, vs, ws, rfl, rfl, h1, h3, ?_, out_nw R (h2.append h4) q⟩))
      rw [h2.len, h4.len]
      exact line_le hl
    · cases hg
  · split at hg
    · rename_i xs ys hl
      cases hg
      obtain ⟨a, vs, rfl, h1, h2⟩ := bTup R.fh hx
      obtain ⟨b, ws, rfl, h3, h4⟩ := bTup R.fh hy
      refine .inr (.inr (.inr ⟨a, b, vs, ws, rfl, rfl, h1, h3, ?_, fun ez => ?_, fun _ ez => ?_, fun _ _ => out_tp R (h2.append h4) q⟩))
      · rw [h2.len, h4.len]
        exact line_le hl
      · have e1 : xs = [] := h2.nil_iff.mp ez
        subst e1
        exact out_im R hy q
      · have e1 : ys = [] := h4.nil_iff.mp ez
        subst e1
        refine out_im R ?_ q
        rw [List.append_nil]
        exact hx
    · cases hg
  · cases hg
def subD : Dat → Dat → Option RV
  | .int i, .int j => some (.im (.int (i - j)))
  | _, _ => none
theorem subD_ok {K : Fg} : OpSnd K (rI0 fun i j => .int (i - j)) subD := by
  intro G F ps σ H x y d e out Q R hx hy hg q
  unfold subD at hg
  split at hg
  · cases hg
    rw [bInt hx, bInt hy]
    exact ⟨_, _, rfl, rfl, out_im R (by unfold Rel; rfl) q⟩
  · cases hg
/-- below 2 ^ 64 -/
def sm64 (i : Int) : Bool := decide (i.natAbs < 2 ^ 64)
theorem sm64_iff {i : Int} : sm64 i = true ↔ -(2 ^ 64) < i ∧ i < 2 ^ 64 := by
  unfold sm64
  rw [decide_eq_true_eq]
  omega
/-- told by natAbs: the kernel must never count down from a great number -/
def b62 (i : Int) : Bool := decide (i.natAbs < 2 ^ 62)
theorem b62_iff {i : Int} : b62 i = true ↔ -(2 ^ 62) < i ∧ i < 2 ^ 62 := by
  unfold b62
  rw [decide_eq_true_eq]
  omega
theorem b62_63 {i : Int} (h : b62 i = true) : -(2 ^ 63) ≤ i ∧ i < 2 ^ 63 := by
  have := b62_iff.mp h
  omega
def mulD : Dat → Dat → Option RV
  | .int i, .int j => if sm64 i || sm64 j then some (.im (.int (i * j))) else none
  | .list xs, .int k => if b62 k && line (xs.length * k.toNat) then some (.nw (List.replicate k.toNat xs).flatten) else none
  | _, _ => none
def rMulD : R2 := R2or (rI CMul fun i j => .int (i * j)) rRep
theorem op_mulD {X : Cx} : OpR X (binaryOp .Mult) rMulD := op_mul.or op_rep
theorem mulD_ok {K : Fg} : OpSnd K rMulD mulD := by
  intro G F ps σ H x y d e out Q R hx hy hg q
  unfold mulD at hg
  split at hg
  · split at hg
    · rename_i hl
      cases hg
      rw [bInt hx, bInt hy]
      refine .inl ⟨_, _, rfl, rfl, ?_, out_im R (by unfold Rel; rfl) q⟩
      rcases Bool.or_eq_true_iff.mp hl with h | h
      · exact .inl (sm64_iff.mp h)
      · exact .inr (sm64_iff.mp h)
    · cases hg
  · split at hg
    · rename_i xs k hl
      cases hg
      obtain ⟨a, vs, rfl, h1, h2⟩ := bLst hx
      rw [bInt hy]
      simp only [Bool.and_eq_true] at hl
      refine .inr ⟨a, k, vs, rfl, rfl, h1, (b62_63 hl.1).1, (b62_63 hl.1).2, ?_, out_nw R (h2.rep _) q⟩
      rw [h2.len]
      exact line_le hl.2
    · cases hg
  · cases hg
def fdivD : Dat → Dat → Option RV
  | .int i, .int j => if decide (j ≠ 0) && decide (j.natAbs < 1073741824) then some (.im (.int (i.fdiv j))) else none
  | _, _ => none
theorem fdivD_ok {K : Fg} : OpSnd K (rI CDivN fun i j => .int (i.fdiv j)) fdivD := by
  intro G F ps σ H x y d e out Q R hx hy hg q
  unfold fdivD at hg
  split at hg
  · split at hg
    · rename_i hl
      cases hg
      rw [bInt hx, bInt hy]
      simp only [Bool.and_eq_true, decide_eq_true_eq] at hl
      exact ⟨_, _, rfl, rfl, hl, out_im R (by unfold Rel; rfl) q⟩
    · cases hg
  · cases hg
def modD : Dat → Dat → Option RV
  | .int i, .int j => if decide (j ≠ 0) then some (.im (.int (i.fmod j))) else none
  | _, _ => none
theorem modD_ok {K : Fg} : OpSnd K (rI (fun _ j => j ≠ 0) fun i j => .int (i.fmod j)) modD := by
  intro G F ps σ H x y d e out Q R hx hy hg q
  unfold modD at hg
  split at hg
  · split at hg
    · rename_i hl
      cases hg
      rw [bInt hx, bInt hy]
      simp only [decide_eq_true_eq] at hl
      exact ⟨_, _, rfl, rfl, hl, out_im R (by unfold Rel; rfl) q⟩
    · cases hg
  · cases hg
def powD : Dat → Dat → Option RV
  | .int i, .int j => if decide (0 ≤ j) && decide (j ≤ 1000000) && decide (i.natAbs < 2 ^ 64) then some (.im (.int (i ^ j.toNat))) else none
  | _, _ => none
theorem powD_ok {K : Fg} : OpSnd K (rI CPow fun i j => .int (i ^ j.toNat)) powD := by
  intro G F ps σ H x y d e out Q R hx hy hg q
  unfold powD at hg
  split at hg
  · split at hg
    · rename_i hl
      cases hg
      rw [bInt hx, bInt hy]
      simp only [Bool.and_eq_true, decide_eq_true_eq] at hl
      exact ⟨_, _, rfl, rfl, ⟨hl.1.1, hl.1.2, hl.2⟩, out_im R (by unfold Rel; rfl) q⟩
    · cases hg
  · cases hg
def negD : Dat → Option RV
  | .int i => some (.im (.int (-i)))
  | _ => none
theorem negD_ok {K : Fg} : UnSnd K (rU fun i => .int (-i)) negD := by
  intro G F ps σ H x d out Q R hx hg q
  unfold negD at hg
  split at hg
  · cases hg
    rw [bInt hx]
    exact ⟨_, rfl, out_im R (by unfold Rel; rfl) q⟩
  · cases hg

/-! ### comparisons -/
mutual
theorem dp_of {K : Fg} {H : Hp} {T : Addr} : ∀ (d : Dat) (v : V), d.canLay0 = true → Rel K H T d v → Dp K H v d
  | .none, _, _, h => by unfold Rel at h; subst h; exact .non
  | .bool b, _, _, h => by unfold Rel at h; subst h; exact .bl b
  | .int b, _, _, h => by unfold Rel at h; subst h; exact .int b
  | .str b, _, _, h => by unfold Rel at h; subst h; exact .str b
  | .list ds, _, c, h => by
    unfold Rel at h
    obtain ⟨a, xs, rfl, h1, h2⟩ := h
    exact .lst (SqL.of h1) (dps_of ds xs (by simpa [PyData.canLay0] using c) h2)
  | .tuple ds, _, c, h => by
    unfold Rel at h
    obtain ⟨a, xs, rfl, h1, h2⟩ := h
    exact .tup h1.sqT (dps_of ds xs (by simpa [PyData.canLay0] using c) h2)
  | .dict _, _, c, _ => by simp [PyData.canLay0] at c
theorem dps_of {K : Fg} {H : Hp} {T : Addr} : ∀ (ds : List Dat) (vs : List V), PyData.canLayAll0 ds = true → RelL K H T ds vs → DpAll K H vs ds
  | [], _, _, h => by unfold RelL at h; subst h; exact .nil
  | d :: ds, _, c, h => by
    unfold RelL at h
    obtain ⟨y, ys, rfl, h1, h2⟩ := h
    have c' : d.canLay0 = true ∧ PyData.canLayAll0 ds = true := by simpa [PyData.canLayAll0] using c
    exact .cons (dp_of d y c'.1 h1) (dps_of ds ys c'.2 h2)
end
theorem BRel.dp {K : Fg} {F H : Hp} {T : Addr} {d : Dat} {v : V} (s : Same F H) (c : SeqAt.shaped d = true) (h : BRel K F H T d v) : Dp K H v d := dp_of d v (SeqAt.canLay_of_shaped c) (h.rel s)

def eqD (d e : Dat) : Option RV := if SeqAt.shaped d && SeqAt.shaped e then some (.im (.bool (PyData.eqv d e))) else none
def neD (d e : Dat) : Option RV := if SeqAt.shaped d && SeqAt.shaped e then some (.im (.bool (!PyData.eqv d e))) else none
theorem eqD_ok {K : Fg} : OpSnd K (rEqD K) eqD := by
  intro G F ps σ H x y d e out Q R hx hy hg q
  unfold eqD at hg
  split at hg
  · rename_i hl
    cases hg
    simp only [Bool.and_eq_true] at hl
    exact ⟨d, e, hx.dp R.fh hl.1, hy.dp R.fh hl.2, hl.1, hl.2, out_im R (by unfold Rel; rfl) q⟩
  · cases hg
theorem neD_ok {K : Fg} : OpSnd K (rNeD K) neD := by
  intro G F ps σ H x y d e out Q R hx hy hg q
  unfold neD at hg
  split at hg
  · rename_i hl
    cases hg
    simp only [Bool.and_eq_true] at hl
    exact ⟨d, e, hx.dp R.fh hl.1, hy.dp R.fh hl.2, hl.1, hl.2, out_im R (by unfold Rel; rfl) q⟩
  · cases hg
def cmpI (p : Int → Int → Bool) : Dat → Dat → Option RV
  | .int i, .int j => some (.im (.bool (p i j)))
  | _, _ => none
theorem cmpI_ok {K : Fg} {p : Int → Int → Bool} : OpSnd K (rI0 fun i j => .bl (p i j)) (cmpI p) := by
  intro G F ps σ H x y d e out Q R hx hy hg q
  unfold cmpI at hg
  split at hg
  · cases hg
    rw [bInt hx, bInt hy]
    exact ⟨_, _, rfl, rfl, out_im R (by unfold Rel; rfl) q⟩
  · cases hg
/-- all ints -/
def ints? : List Dat → Option (List Int)
  | [] => some []
  | .int i :: ds => (ints? ds).map (i :: ·)
  | _ :: _ => none
theorem ints_rel {K : Fg} {F : Hp} {T : Addr} : ∀ {ds : List Dat} {ns : List Int} {vs : List V}, ints? ds = some ns → RelL K F T ds vs → vs = ns.map V.int
  | [], ns, vs, h, r => by
    cases h
    unfold RelL at r
    exact r
  | .int i :: ds, ns, vs, h, r => by
    unfold ints? at h
    obtain ⟨ms, e1, rfl⟩ := Option.map_eq_some_iff.mp h
    unfold RelL at r
    obtain ⟨y, ys, rfl, r1, r2⟩ := r
    rw [rInt.mp r1, ints_rel e1 r2]
    rfl
  | .none :: ds, ns, vs, h, r => by cases h
  | .bool _ :: ds, ns, vs, h, r => by cases h
  | .str _ :: ds, ns, vs, h, r => by cases h
  | .list _ :: ds, ns, vs, h, r => by cases h
  | .tuple _ :: ds, ns, vs, h, r => by cases h
  | .dict _ :: ds, ns, vs, h, r => by cases h
theorem ints_relL {K : Fg} {F : Hp} {T : Addr} : ∀ (ns : List Int), RelL K F T (ns.map PyData.int) (ns.map V.int)
  | [] => .nil
  | n :: ns => .cons (by unfold Rel; rfl) (ints_relL ns)
theorem ints_of : ∀ (ns : List Int), ints? (ns.map PyData.int) = some ns
  | [] => rfl
  | n :: ns => by
    show (ints? (ns.map PyData.int)).map (n :: ·) = some (n :: ns)
    rw [ints_of ns]
    rfl
/-- ints, or tuples of ints -/
def ltD : Dat → Dat → Option RV
  | .int i, .int j => some (.im (.bool (decide (i < j))))
  | .tuple xs, .tuple ys => (ints? xs).bind fun ns => (ints? ys).bind fun ms => some (.im (.bool (HT.lexLt ns ms)))
  | _, _ => none
def rLtD (K : Fg) : R2 := R2or (rI0 fun i j => .bl (decide (i < j))) (rLtT K)
theorem op_ltD {X : Cx} (hu : X.A.units < cLine) : OpR X (compareOp .Lt) (rLtD X.K) := op_lt.or (op_ltT hu)
theorem ltD_ok {K : Fg} : OpSnd K (rLtD K) ltD := by
  intro G F ps σ H x y d e out Q R hx hy hg q
  unfold ltD at hg
  split at hg
  · cases hg
    rw [bInt hx, bInt hy]
    exact .inl ⟨_, _, rfl, rfl, out_im R (by unfold Rel; rfl) q⟩
  · obtain ⟨ns, e1, hg⟩ := Option.bind_eq_some_iff.mp hg
    obtain ⟨ms, e2, hg⟩ := Option.bind_eq_some_iff.mp hg
    cases hg
    obtain ⟨a, vs, rfl, h1, h2⟩ := bTup R.fh hx
    obtain ⟨b, ws, rfl, h3, h4⟩ := bTup R.fh hy
    rw [ints_rel e1 h2] at h1
    rw [ints_rel e2 h4] at h3
    exact .inr ⟨a, b, ns, ms, rfl, rfl, h1, h3, out_im R (by unfold Rel; rfl) q⟩
  · cases hg
def isN : Dat → Bool
  | .none => true
  | _ => false
def isND (d e : Dat) : Option RV := match e with
  | .none => some (.im (.bool (isN d)))
  | _ => none
def notND (d e : Dat) : Option RV := match e with
  | .none => some (.im (.bool (!isN d)))
  | _ => none
theorem non_iff {K : Fg} {F H : Hp} {T : Addr} : ∀ {d : Dat} {v : V}, BRel K F H T d v → decide (v = V.non) = isN d
  | .none, v, h => by rw [bNon h]; rfl
  | .bool b, v, h => by rw [bBl h]; rfl
  | .int b, v, h => by rw [bInt h]; rfl
  | .str b, v, h => by rw [bStr h]; rfl
  | .list b, v, h => by
    obtain ⟨a, xs, rfl, _⟩ := bLst h
    rfl
  | .tuple b, v, h => by
    obtain ⟨a, xs, rfl, _⟩ := rTupE (K := K) (F := F) (T := T) h
    rfl
  | .dict [], v, h => by
    have h : Rel K F T (.dict []) v := h
    unfold Rel at h
    subst h
    rfl
  | .dict [(d, e)], v, h => by
    have h : Rel K F T (.dict [(d, e)]) v := h
    unfold Rel at h
    obtain ⟨a, x, y, rfl, _⟩ := h
    rfl
  | .dict (y :: (z, d) :: l), v, h => by
    have h : Rel K F T (.dict (y :: (z, d) :: l)) v := h
    cases d <;> unfold Rel at h <;> first
      | exact h.elim
      | (obtain ⟨a, xs, rfl, _⟩ := h
         rfl)
theorem isND_ok {K : Fg} : OpSnd K (fun x y H Q => y = .non ∧ Q (.bl (decide (x = .non))) H) isND := by
  intro G F ps σ H x y d e out Q R hx hy hg q
  unfold isND at hg
  split at hg
  · cases hg
    refine ⟨bNon hy, ?_⟩
    rw [non_iff hx]
    exact out_im R (by unfold Rel; rfl) q
  · cases hg
theorem notND_ok {K : Fg} : OpSnd K (fun x y H Q => y = .non ∧ Q (.bl (!decide (x = .non))) H) notND := by
  intro G F ps σ H x y d e out Q R hx hy hg q
  unfold notND at hg
  split at hg
  · cases hg
    refine ⟨bNon hy, ?_⟩
    rw [non_iff hx]
    exact out_im R (by unfold Rel; rfl) q
  · cases hg

/-! ### in, not in -/
def flatD : Dat → Bool
  | .none | .bool _ | .int _ | .str _ => true
  | _ => false
theorem flat_rel {K : Fg} {F : Hp} {T : Addr} {d : Dat} {v : V} (f : flatD d = true) (h : Rel K F T d v) : flatV v = true := by
  cases d <;> first
    | (unfold Rel at h; subst h; rfl)
    | cases f
theorem flat_eqV {K : Fg} {F : Hp} {T : Addr} {d e : Dat} {v w : V} (f : flatD d = true) (f' : flatD e = true) (h : Rel K F T d v) (h' : Rel K F T e w) : eqV v w = PyData.eqv d e := by
  cases d <;> first
    | (unfold Rel at h; subst h
       cases e <;> first
        | (unfold Rel at h'; subst h'; simp [eqV, PyData.eqv])
        | cases f')
    | cases f
theorem flats_rel {K : Fg} {F : Hp} {T : Addr} : ∀ {ds : List Dat} {vs : List V}, ds.all flatD = true → RelL K F T ds vs → vs.all flatV = true
  | [], _, _, h => by unfold RelL at h; subst h; rfl
  | d :: ds, _, f, h => by
    unfold RelL at h
    obtain ⟨y, ys, rfl, h1, h2⟩ := h
    simp only [List.all_cons, Bool.and_eq_true] at f ⊢
    exact ⟨flat_rel f.1 h1, flats_rel f.2 h2⟩
theorem flats_any {K : Fg} {F : Hp} {T : Addr} {e : Dat} {w : V} (f' : flatD e = true) (h' : Rel K F T e w) : ∀ {ds : List Dat} {vs : List V}, ds.all flatD = true → RelL K F T ds vs → inV w vs = ds.any fun z => PyData.eqv z e
  | [], _, _, h => by unfold RelL at h; subst h; rfl
  | d :: ds, _, f, h => by
    unfold RelL at h
    obtain ⟨y, ys, rfl, h1, h2⟩ := h
    simp only [List.all_cons, Bool.and_eq_true] at f
    show (eqV y w || inV w ys) = (PyData.eqv d e || ds.any fun z => PyData.eqv z e)
    rw [flat_eqV f.1 f' h1 h', flats_any f' h' f.2 h2]
def inR (neg : Bool) : Dat → Dat → Option RV
  | d, .list ds => if SeqAt.shaped d && SeqAt.shaped (.list ds) then some (.im (.bool (if neg then !ds.any fun z => PyData.eqv z d else ds.any fun z => PyData.eqv z d))) else none
  | d, .tuple ds => if flatD d && ds.all flatD then some (.im (.bool (if neg then !ds.any fun z => PyData.eqv z d else ds.any fun z => PyData.eqv z d))) else none
  | _, _ => none
def inD : Dat → Dat → Option RV := inR false
def ninD : Dat → Dat → Option RV := inR true
def rInA (K : Fg) : R2 := R2or (rInD K) (rIn K false)
def rNinA (K : Fg) : R2 := R2or (rNotInD K) (rIn K true)
theorem op_inA {X : Cx} (hu : X.A.units + 65 < cLine) : OpR X (compareOp .In) (rInA X.K) := (op_inD hu).or op_in_seq
theorem op_ninA {X : Cx} (hu : X.A.units + 65 < cLine) : OpR X (compareOp .NotIn) (rNinA X.K) := (op_notInD hu).or op_notIn_seq
theorem inD_ok {K : Fg} : OpSnd K (rInA K) inD := by
  intro G F ps σ H x y d e out Q R hx hy hg q
  unfold inD inR at hg
  split at hg
  · split at hg
    · rename_i ds hl
      cases hg
      simp only [Bool.and_eq_true] at hl
      exact .inl ⟨d, ds, hx.dp R.fh hl.1, hy.dp R.fh hl.2, hl.1, hl.2, out_im R (by unfold Rel; rfl) q⟩
    · cases hg
  · split at hg
    · rename_i ds hl
      cases hg
      simp only [Bool.and_eq_true] at hl
      obtain ⟨b, ws, rfl, h3, h4⟩ := bTup R.fh hy
      refine .inr ⟨b, ws, rfl, .inr h3, flat_rel hl.1 (hx.rel R.fh), flats_rel hl.2 h4, ?_⟩
      rw [if_neg Bool.false_ne_true, flats_any hl.1 (hx.rel R.fh) hl.2 (RelL.mono R.fh _ _ h4)]
      exact out_im R (by unfold Rel; rfl) q
    · cases hg
  · cases hg
theorem ninD_ok {K : Fg} : OpSnd K (rNinA K) ninD := by
  intro G F ps σ H x y d e out Q R hx hy hg q
  unfold ninD inR at hg
  split at hg
  · split at hg
    · rename_i ds hl
      cases hg
      simp only [Bool.and_eq_true] at hl
      exact .inl ⟨d, ds, hx.dp R.fh hl.1, hy.dp R.fh hl.2, hl.1, hl.2, out_im R (by unfold Rel; rfl) q⟩
    · cases hg
  · split at hg
    · rename_i ds hl
      cases hg
      simp only [Bool.and_eq_true] at hl
      obtain ⟨b, ws, rfl, h3, h4⟩ := bTup R.fh hy
      refine .inr ⟨b, ws, rfl, .inr h3, flat_rel hl.1 (hx.rel R.fh), flats_rel hl.2 h4, ?_⟩
      rw [if_pos rfl, flats_any hl.1 (hx.rel R.fh) hl.2 (RelL.mono R.fh _ _ h4)]
      exact out_im R (by unfold Rel; rfl) q
    · cases hg
  · cases hg

/-! ### subscripts, slices -/
def ixD : Dat → Dat → Option RV
  | .list ds, .int i => (atI ds i).bind fun d => some (.im d)
  | .tuple ds, .int i => (atI ds i).bind fun d => some (.im d)
  | .dict (_ :: (_, .list ds) :: _), .int i => (atI ds i).bind fun d => some (.im d)
  | _, _ => none
theorem atI_rel {K : Fg} {F : Hp} {T : Addr} {ds : List Dat} {vs : List V} {i : Int} {d : Dat} (r : RelL K F T ds vs) (h : atI ds i = some d) : ∃ v, atI vs i = some v ∧ Rel K F T d v := by
  unfold atI at h ⊢
  rw [r.len]
  obtain ⟨j, e, h⟩ := Option.bind_eq_some_iff.mp h
  obtain ⟨v, h1, h2⟩ := r.get h
  exact ⟨v, by rw [e]; exact h1, h2⟩
theorem ixD_ok {K : Fg} : OpSnd K (rIx K) ixD := by
  intro G F ps σ H x y d e out Q R hx hy hg q
  unfold ixD at hg
  split at hg
  · obtain ⟨z, e1, hg⟩ := Option.bind_eq_some_iff.mp hg
    cases hg
    obtain ⟨a, vs, rfl, h1, h2⟩ := bLst hx
    rw [bInt hy]
    obtain ⟨v, h3, h4⟩ := atI_rel h2 e1
    exact .inl ⟨a, vs, _, v, rfl, rfl, SqL.of h1, h3, out_im R h4 q⟩
  · obtain ⟨z, e1, hg⟩ := Option.bind_eq_some_iff.mp hg
    cases hg
    obtain ⟨a, vs, rfl, h1, h2⟩ := bTup R.fh hx
    rw [bInt hy]
    obtain ⟨v, h3, h4⟩ := atI_rel h2 e1
    exact .inr (.inl ⟨a, vs, _, v, rfl, rfl, h1, h3, out_im R h4 q⟩)
  · obtain ⟨z, e1, hg⟩ := Option.bind_eq_some_iff.mp hg
    cases hg
    obtain ⟨a, vs, rfl, h1, h2⟩ := bDic R.fh hx
    rw [bInt hy]
    obtain ⟨v, h3, h4⟩ := atI_rel h2 e1
    exact .inl ⟨a, vs, _, v, rfl, rfl, h1, h3, out_im R h4 q⟩
  · cases hg
def cutD (ds : List Dat) (lo hi : Option Int) : List Dat := (ds.drop (HT.sIx ds.length 0 lo)).take (HT.sIx ds.length ds.length hi - HT.sIx ds.length 0 lo)
theorem cut_rel {K : Fg} {F : Hp} {T : Addr} {ds : List Dat} {vs : List V} (lo hi : Option Int) (r : RelL K F T ds vs) : RelL K F T (cutD ds lo hi) (cutV vs lo hi) := by
  unfold cutD cutV
  rw [r.len]
  exact (r.drop _).take _
def slD (d : Dat) (lo hi : Option Int) : Option RV := match d with
  | .list ds => some (.nw (cutD ds lo hi))
  | .tuple ds => some (.im (.tuple (cutD ds lo hi)))
  | _ => none
/-- a part of a tuple; the whole of it is itself -/
def rSlTD (K : Fg) : V → Option Int → Option Int → Hp → VK → Prop := fun x lo hi H Q => ∃ (a : Addr) (xs : List V), x = .ref a ∧ SqT K H a xs ∧ (HT.sIx xs.length 0 lo = 0 ∧ HT.sIx xs.length xs.length hi = xs.length → Q (.ref a) H) ∧ (¬ (HT.sIx xs.length 0 lo = 0 ∧ HT.sIx xs.length xs.length hi = xs.length) → NewT H (cutV xs lo hi) Q)
theorem sl_tupD {X : Cx} : SlR X (rSlTD X.K) := by
  rintro pins s σ H x v vl vu lo hi sl Q I rx hs pl pu ⟨a, xs, rfl, hx, q1, q2⟩
  cases rx
  obtain ⟨us, r, ht, hz⟩ := I.tuple hx
  have len : us.toArray.size = xs.length := by rw [List.size_toArray, ← r.length]
  refine ⟨"tuple", _, PyProof.Rows.slot_tuple_getitem.lookup, ht.typeIs, ?_⟩
  rcases Classical.em (HT.sIx xs.length 0 lo = 0 ∧ HT.sIx xs.length xs.length hi = xs.length) with hw | hw
  · exact getItem_tuple_whole ht hs pl pu (by rw [len]; exact hw) ⟨V.ref a, H, I, rfl, q1 hw⟩
  · refine HT.getItem_tuple_cut ht hs pl pu (by rw [len]; exact hw) ?_ (by rw [len]; exact hz)
    rw [len]
    exact (q2 hw).put I ((r.drop _).take _) (Nat.le_trans (cutV_length xs lo hi) hz)
def rSlD (K : Fg) : V → Option Int → Option Int → Hp → VK → Prop := fun x lo hi H Q => rSlL K x lo hi H Q ∨ rSlTD K x lo hi H Q
theorem sl_D {X : Cx} : SlR X (rSlD X.K) := sl_list.or sl_tupD
theorem slD_ok {K : Fg} {G : Ctl} {F : Hp} {ps : PS} {σ : L2.St} {H : Hp} {x : V} {d : Dat} {lo hi : Option Int} {out : RV} {Q : VK} (R : Rep G K F ps σ H) (hx : BRel K F H G.T d x) (hg : slD d lo hi = some out)
    (q : ∀ v F' H', Post G K F ps σ H F' ps H' → RVok G K F' ps σ H H' out v → Q v H') : rSlD K x lo hi H Q := by
  unfold slD at hg
  split at hg
  · cases hg
    obtain ⟨a, vs, rfl, h1, h2⟩ := bLst hx
    exact .inl ⟨a, vs, rfl, SqL.of h1, out_nw R (cut_rel lo hi h2) q⟩
  · rename_i ds
    cases hg
    obtain ⟨a, vs, rfl, h1, h2⟩ := bTup R.fh hx
    refine .inr ⟨a, vs, rfl, h1, fun hw => ?_, fun _ => out_tp R (cut_rel lo hi h2) q⟩
    refine out_im R ?_ q
    have e : cutD ds lo hi = ds := by
      unfold cutD
      rw [h2.len] at hw
      rw [hw.1, hw.2]
      simp
    rw [e]
    exact hx
  · cases hg
structure SndO (K : Fg) (t : TO) (f : M (Option Int)) : Prop where
  go : ∀ (G : Ctl) (F : Hp) (ps : PS) (σ : L2.St) (H : Hp) (b : Option Int) (ps' : PS) (Q : Option Int → Hp → Prop), Rep G K F ps σ H → f ps = some (b, ps') →
    (∀ F' H', Post G K F ps σ H F' ps' H' → Q b H') → t σ H Q
structure DO (X : Cx) (e : Option Expr) (t : TO) (f : M (Option Int)) : Prop where
  pe : PO X e t
  sn : SndO X.K t f
def partM (fa : M RV) : M (Option Int) := fun ps => (fa ps).bind fun x => match x.1 with
  | .im (.int i) => some (some i, x.2)
  | _ => none
section
variable {X : Cx} {a b c e : Expr} {ta tb tc te : TE} {fa fb fc fe : M RV} {pos : Pos} {tl th : TO} {fl fh : M (Option Int)} {lo hi : Option Expr}
theorem do_none : DO X none tNoPart (M.ret none) := ⟨po_none, ⟨fun G F ps σ H b ps' Q R e q => by
  cases e
  exact q F H (.refl R)⟩⟩
theorem do_some (h : DE X e te fe) : DO X (some e) (tPart te) (partM fe) := ⟨po_some h.pe, ⟨fun G F ps σ H b ps' Q R e q => by
  unfold partM at e
  obtain ⟨⟨ra, ps1⟩, e1, e⟩ := Option.bind_eq_some_iff.mp e
  refine h.sn.go G F ps σ H ra ps1 _ R e1 fun x F1 H1 P1 r1 => ?_
  split at e
  · rename_i i hi
    cases e
    have hi : ra = .im (.int i) := hi
    subst hi
    have r1 : Rel X.K F1 G.T (.int i) x := r1
    exact ⟨i, rInt.mp r1, q F1 H1 P1⟩
  · cases e⟩⟩
def slM (fa : M RV) (fl fh : M (Option Int)) : M RV := fun ps =>
  (fa ps).bind fun x => (fl x.2).bind fun l => (fh l.2).bind fun h => (brw (settle x.1) h.2).bind fun d => (slD d l.1 h.1).bind fun r => some (r, h.2)
theorem de_slice {p2} (h : DE X e te fe) (hl : DO X lo tl fl) (hh : DO X hi th fh) : DE X (.Subscript e (.Slice lo hi none p2) pos) (tSl (rSlD X.K) te tl th) (slM fe fl fh) := by
  refine ⟨pe_slice sl_D h.pe hl.pe hh.pe, ⟨fun G F ps σ H out ps' Q R e q => ?_⟩⟩
  unfold slM at e
  obtain ⟨⟨ra, ps1⟩, e1, e⟩ := Option.bind_eq_some_iff.mp e
  obtain ⟨⟨l, ps2⟩, e2, e⟩ := Option.bind_eq_some_iff.mp e
  obtain ⟨⟨u, ps3⟩, e3, e⟩ := Option.bind_eq_some_iff.mp e
  obtain ⟨d, e4, e⟩ := Option.bind_eq_some_iff.mp e
  obtain ⟨out', e5, e⟩ := Option.bind_eq_some_iff.mp e
  cases e
  refine h.sn.go G F ps σ H ra ps1 _ R e1 fun x F1 H1 P1 r1 => ?_
  obtain ⟨F1', P1', r1'⟩ := settle_ok P1 r1
  refine hl.sn.go G F1' ps1 σ H1 l ps2 _ P1'.rep e2 fun F2 H2 P2 => ?_
  refine hh.sn.go G F2 ps2 σ H2 u ps3 _ P2.rep e3 fun F3 H3 P3 => ?_
  have P := (P1'.trans P2).trans P3
  exact slD_ok P3.rep (brw_ok P3.rep ((r1'.post P2).post P3) e4) e5 fun v F' H' P4 r4 => q v F' H' (P.trans P4) (r4.back P.dom)

/-! ### the rules of operations -/
theorem de_add (ha : DE X a ta fa) (hb : DE X b tb fb) : DE X (.BinOp a .Add b pos) (tOp (rAddD X.K) ta tb) (opM addD fa fb) := ⟨pe_op op_addD ha.pe hb.pe, snd_op addD_ok ha.sn hb.sn⟩
theorem de_sub (ha : DE X a ta fa) (hb : DE X b tb fb) : DE X (.BinOp a .Sub b pos) (tOp (rI0 fun i j => .int (i - j)) ta tb) (opM subD fa fb) := ⟨pe_op op_sub ha.pe hb.pe, snd_op subD_ok ha.sn hb.sn⟩
theorem de_mul (ha : DE X a ta fa) (hb : DE X b tb fb) : DE X (.BinOp a .Mult b pos) (tOp rMulD ta tb) (opM mulD fa fb) := ⟨pe_op op_mulD ha.pe hb.pe, snd_op mulD_ok ha.sn hb.sn⟩
theorem de_fdiv (ha : DE X a ta fa) (hb : DE X b tb fb) : DE X (.BinOp a .FloorDiv b pos) (tOp (rI CDivN fun i j => .int (i.fdiv j)) ta tb) (opM fdivD fa fb) := ⟨pe_op op_fdivN ha.pe hb.pe, snd_op fdivD_ok ha.sn hb.sn⟩
theorem de_mod (ha : DE X a ta fa) (hb : DE X b tb fb) : DE X (.BinOp a .Mod b pos) (tOp (rI (fun _ j => j ≠ 0) fun i j => .int (i.fmod j)) ta tb) (opM modD fa fb) := ⟨pe_op op_modN ha.pe hb.pe, snd_op modD_ok ha.sn hb.sn⟩
theorem de_pow (ha : DE X a ta fa) (hb : DE X b tb fb) : DE X (.BinOp a .Pow b pos) (tOp (rI CPow fun i j => .int (i ^ j.toNat)) ta tb) (opM powD fa fb) := ⟨pe_op op_pow ha.pe hb.pe, snd_op powD_ok ha.sn hb.sn⟩
theorem de_neg (ha : DE X a ta fa) : DE X (.UnaryOp .USub a pos) (tUn (rU fun i => .int (-i)) ta) (unM negD fa) := ⟨pe_un un_neg ha.pe, snd_un negD_ok ha.sn⟩
theorem de_ix (ha : DE X a ta fa) (hb : DE X b tb fb) (hs : PlainIx b) : DE X (.Subscript a b pos) (tOp (rIx X.K) ta tb) (opM ixD fa fb) := ⟨pe_ix ix_seq ha.pe hb.pe hs, snd_op ixD_ok ha.sn hb.sn⟩
theorem de_eq (hu : X.A.units + 65 < cLine) (ha : DE X a ta fa) (hb : DE X b tb fb) : DE X (.Compare a [.Eq] [b] pos) (tOp (rEqD X.K) ta tb) (opM eqD fa fb) := ⟨pe_cmpR (op_eqD (by omega)) ha.pe hb.pe (nomark _), snd_op eqD_ok ha.sn hb.sn⟩
theorem de_ne (hu : X.A.units + 65 < cLine) (ha : DE X a ta fa) (hb : DE X b tb fb) : DE X (.Compare a [.NotEq] [b] pos) (tOp (rNeD X.K) ta tb) (opM neD fa fb) := ⟨pe_cmpR (op_neD (by omega)) ha.pe hb.pe (nomark _), snd_op neD_ok ha.sn hb.sn⟩
theorem de_lt (hu : X.A.units + 65 < cLine) (ha : DE X a ta fa) (hb : DE X b tb fb) : DE X (.Compare a [.Lt] [b] pos) (tOp (rLtD X.K) ta tb) (opM ltD fa fb) := ⟨pe_cmpR (op_ltD (by omega)) ha.pe hb.pe (nomark _), snd_op ltD_ok ha.sn hb.sn⟩
abbrev leD := cmpI fun i j => decide (i ≤ j)
abbrev gtD := cmpI fun i j => decide (j < i)
abbrev geD := cmpI fun i j => decide (j ≤ i)
abbrev ltI := cmpI fun i j => decide (i < j)
theorem de_le (ha : DE X a ta fa) (hb : DE X b tb fb) : DE X (.Compare a [.LtE] [b] pos) (tOp (rI0 fun i j => .bl (decide (i ≤ j))) ta tb) (opM leD fa fb) := ⟨pe_cmpR op_le ha.pe hb.pe (nomark _), snd_op cmpI_ok ha.sn hb.sn⟩
theorem de_gt (ha : DE X a ta fa) (hb : DE X b tb fb) : DE X (.Compare a [.Gt] [b] pos) (tOp (rI0 fun i j => .bl (decide (j < i))) ta tb) (opM gtD fa fb) := ⟨pe_cmpR op_gt ha.pe hb.pe (nomark _), snd_op cmpI_ok ha.sn hb.sn⟩
theorem de_ge (ha : DE X a ta fa) (hb : DE X b tb fb) : DE X (.Compare a [.GtE] [b] pos) (tOp (rI0 fun i j => .bl (decide (j ≤ i))) ta tb) (opM geD fa fb) := ⟨pe_cmpR op_ge ha.pe hb.pe (nomark _), snd_op cmpI_ok ha.sn hb.sn⟩
theorem de_isN (ha : DE X a ta fa) (hb : DE X b tb fb) : DE X (.Compare a [.Is] [b] pos) (tOp (fun x y H Q => y = .non ∧ Q (.bl (decide (x = .non))) H) ta tb) (opM isND fa fb) := ⟨pe_cmpR op_isN ha.pe hb.pe (nomark _), snd_op isND_ok ha.sn hb.sn⟩
theorem de_notN (ha : DE X a ta fa) (hb : DE X b tb fb) : DE X (.Compare a [.IsNot] [b] pos) (tOp (fun x y H Q => y = .non ∧ Q (.bl (!decide (x = .non))) H) ta tb) (opM notND fa fb) := ⟨pe_cmpR op_notN ha.pe hb.pe (nomark _), snd_op notND_ok ha.sn hb.sn⟩
theorem de_in (hu : X.A.units + 65 < cLine) (ha : DE X a ta fa) (hb : DE X b tb fb) (hm : behindInMarks .In b = false) : DE X (.Compare a [.In] [b] pos) (tOp (rInA X.K) ta tb) (opM inD fa fb) := ⟨pe_cmpR (op_inA hu) ha.pe hb.pe hm, snd_op inD_ok ha.sn hb.sn⟩
theorem de_nin (hu : X.A.units + 65 < cLine) (ha : DE X a ta fa) (hb : DE X b tb fb) (hm : behindInMarks .NotIn b = false) : DE X (.Compare a [.NotIn] [b] pos) (tOp (rNinA X.K) ta tb) (opM ninD fa fb) := ⟨pe_cmpR (op_ninA hu) ha.pe hb.pe hm, snd_op ninD_ok ha.sn hb.sn⟩
end
end MP

namespace MP
open PySem PySem.Spec PyProof.Rows L2

theorem u64 {n c : Nat} (h : n + 65 < c) : n + 64 < c := by omega
theorem u0 {n c : Nat} (h : n + 65 < c) : n < c := by omega

/-! ### tests -/
def asB : RV → Option Bool
  | .im (.bool b) => some b
  | _ => none
theorem asB_ok {r : RV} {b : Bool} (h : asB r = some b) : r = .im (.bool b) := by
  unfold asB at h
  split at h
  · cases h; rfl
  · cases h
def tstM (f : M RV) : M Bool := fun ps => (f ps).bind fun x => (asB x.1).bind fun b => some (b, x.2)
theorem snd_tst {K : Fg} {t : TE} {f : M RV} (h : SndE K t f) : SndT K (tTest t) (tstM f) := by
  refine ⟨fun G F ps σ H b ps' Q R e q => ?_⟩
  unfold tstM at e
  obtain ⟨⟨r, ps1⟩, e1, e⟩ := Option.bind_eq_some_iff.mp e
  obtain ⟨b', e2, e⟩ := Option.bind_eq_some_iff.mp e
  cases e
  refine h.go G F ps σ H r ps1 _ R e1 fun x F1 H1 P1 r1 => ?_
  have e2 := asB_ok e2
  subst e2
  have r1 : Rel K F1 G.T (.bool b) x := r1
  exact ⟨b, rBl.mp r1, q F1 H1 P1⟩
def truD : Dat → Option Bool
  | .none => some false
  | .bool b => some b
  | .int i => some (i != 0)
  | .str y => if line y.length then some ((y.length : Int) != 0) else none
  | .list ds => some (!ds.isEmpty)
  | .tuple ds => some (!ds.isEmpty)
  | .dict (_ :: (_, .list ds) :: _) => some (!ds.isEmpty)
  | .dict _ => none
theorem emp_rel {K : Fg} {F : Hp} {T : Addr} {ds : List Dat} {vs : List V} (r : RelL K F T ds vs) : ds.isEmpty = vs.isEmpty := by
  cases ds with
  | nil => unfold RelL at r; subst r; rfl
  | cons d ds =>
    unfold RelL at r
    obtain ⟨y, ys, rfl, _⟩ := r
    rfl
theorem truD_ok {K : Fg} {F H : Hp} {T : Addr} {d : Dat} {v : V} {b : Bool} (s : Same F H) (h : BRel K F H T d v) (e : truD d = some b) : TruV K v H b := by
  cases d with
  | none => rw [bNon h]; cases e; rfl
  | bool c => rw [bBl h]; cases e; rfl
  | int c => rw [bInt h]; cases e; rfl
  | str c =>
    rw [bStr h]
    unfold truD at e
    simp only at e
    split at e
    · rename_i hl
      cases e
      exact ⟨line_le hl, rfl⟩
    · cases e
  | list c =>
    obtain ⟨a, xs, rfl, h1, h2⟩ := bLst h
    cases e
    exact .inl ⟨xs, SqL.of h1, by rw [emp_rel h2]⟩
  | tuple c =>
    obtain ⟨a, xs, rfl, h1, h2⟩ := bTup s h
    cases e
    exact .inr (.inl ⟨xs, h1, by rw [emp_rel h2]⟩)
  | dict c =>
    unfold truD at e
    split at e <;> first
      | cases e; done
      | skip
    all_goals (rename_i hc; first | cases hc; done | skip)
    rename_i ds l
    rw [hc] at h
    obtain ⟨a, xs, rfl, h1, h2⟩ := bDic s h
    cases e
    exact .inl ⟨xs, h1, by rw [emp_rel h2]⟩
def truM (f : M RV) : M Bool := fun ps => (f ps).bind fun x => (brw x.1 x.2).bind fun d => (truD d).bind fun b => some (b, x.2)
section
variable {X : Cx} {a b c e : Expr} {ta tb tc te : TE} {fa fb fc fe : M RV} {pos : Pos} {ca cb : TT} {ga gb : M Bool} {rest : List Expr}
theorem dt_truth (h : DE X a ta fa) (he : ∀ whole, isTrue a X.env whole = (do let v ← whole; standAt a.pos; holding [v] (truthy v))) :
    DT X a (fun σ H Q => ta σ H fun x H' => ∃ k, TruV X.K x H' k ∧ Q k H') (truM fa) := by
  refine ⟨pt_truth h.pe he, ⟨fun G F ps σ H b ps' Q R e q => ?_⟩⟩
  unfold truM at e
  obtain ⟨⟨r, ps1⟩, e1, e⟩ := Option.bind_eq_some_iff.mp e
  obtain ⟨d, e2, e⟩ := Option.bind_eq_some_iff.mp e
  obtain ⟨b', e3, e⟩ := Option.bind_eq_some_iff.mp e
  cases e
  refine h.sn.go G F ps σ H r ps1 _ R e1 fun x F1 H1 P1 r1 => ?_
  exact ⟨b, truD_ok P1.rep.fh (brw_ok P1.rep r1 e2) e3, q F1 H1 P1⟩
theorem dt_cmp {op : CmpOp} {r : R2} {g : Dat → Dat → Option RV} (ho : OpR X (compareOp op) r) (hg : OpSnd X.K r g) (ha : DE X a ta fa) (hb : DE X b tb fb) (hm : behindInMarks op b = false) :
    DT X (.Compare a [op] [b] pos) (tTest (tOp r ta tb)) (tstM (opM g fa fb)) := ⟨pt_cmpR ho ha.pe hb.pe hm, snd_tst (snd_op hg ha.sn hb.sn)⟩
theorem de_cmp {op : CmpOp} {r : R2} {g : Dat → Dat → Option RV} (ho : OpR X (compareOp op) r) (hg : OpSnd X.K r g) (ha : DE X a ta fa) (hb : DE X b tb fb) (hm : behindInMarks op b = false) :
    DE X (.Compare a [op] [b] pos) (tOp r ta tb) (opM g fa fb) := ⟨pe_cmpR ho ha.pe hb.pe hm, snd_op hg ha.sn hb.sn⟩
def andM (f g : M Bool) : M Bool := fun ps => (f ps).bind fun x => if x.1 then g x.2 else some (false, x.2)
def orM (f g : M Bool) : M Bool := fun ps => (f ps).bind fun x => if x.1 then some (true, x.2) else g x.2
def notM (f : M Bool) : M Bool := fun ps => (f ps).bind fun x => some (!x.1, x.2)
theorem snd_and {K : Fg} (h1 : SndT K ca ga) (h2 : SndT K cb gb) : SndT K (tAnd ca cb) (andM ga gb) := by
  refine ⟨fun G F ps σ H b ps' Q R e q => ?_⟩
  unfold andM at e
  obtain ⟨⟨r, ps1⟩, e1, e⟩ := Option.bind_eq_some_iff.mp e
  refine h1.go G F ps σ H r ps1 _ R e1 fun F1 H1 P1 => ?_
  cases r with
  | true =>
    rw [if_pos rfl] at e
    refine iteT (h2.go G F1 ps1 σ H1 b ps' _ P1.rep e fun F2 H2 P2 => q F2 H2 (P1.trans P2))
  | false =>
    rw [if_neg Bool.false_ne_true] at e
    cases e
    exact iteF (q F1 H1 P1)
theorem snd_or {K : Fg} (h1 : SndT K ca ga) (h2 : SndT K cb gb) : SndT K (tOr ca cb) (orM ga gb) := by
  refine ⟨fun G F ps σ H b ps' Q R e q => ?_⟩
  unfold orM at e
  obtain ⟨⟨r, ps1⟩, e1, e⟩ := Option.bind_eq_some_iff.mp e
  refine h1.go G F ps σ H r ps1 _ R e1 fun F1 H1 P1 => ?_
  cases r with
  | true =>
    rw [if_pos rfl] at e
    cases e
    exact iteT (q F1 H1 P1)
  | false =>
    rw [if_neg Bool.false_ne_true] at e
    refine iteF (h2.go G F1 ps1 σ H1 b ps' _ P1.rep e fun F2 H2 P2 => q F2 H2 (P1.trans P2))
theorem snd_not {K : Fg} (h1 : SndT K ca ga) : SndT K (tNot ca) (notM ga) := by
  refine ⟨fun G F ps σ H b ps' Q R e q => ?_⟩
  unfold notM at e
  obtain ⟨⟨r, ps1⟩, e1, e⟩ := Option.bind_eq_some_iff.mp e
  cases e
  exact h1.go G F ps σ H r ps1 _ R e1 fun F1 H1 P1 => q F1 H1 P1
theorem dw_and1 (h : DT X a ca ga) : DW X (.BoolOp .And [a] pos) ca ga := ⟨pw_and1 h.pe, h.sn⟩
theorem dw_or1 (h : DT X a ca ga) : DW X (.BoolOp .Or [a] pos) ca ga := ⟨pw_or1 h.pe, h.sn⟩
theorem dw_and (h : DT X a ca ga) (h2 : DW X (.BoolOp .And (b :: rest) pos) cb gb) : DW X (.BoolOp .And (a :: b :: rest) pos) (tAnd ca cb) (andM ga gb) := ⟨pw_and h.pe h2.pe, snd_and h.sn h2.sn⟩
theorem dw_or (h : DT X a ca ga) (h2 : DW X (.BoolOp .Or (b :: rest) pos) cb gb) : DW X (.BoolOp .Or (a :: b :: rest) pos) (tOr ca cb) (orM ga gb) := ⟨pw_or h.pe h2.pe, snd_or h.sn h2.sn⟩
theorem DW.dt (h : DW X e ca ga) : DT X e ca ga := ⟨h.pe.pt, h.sn⟩
theorem dt_not (h : DT X a ca ga) : DT X (.UnaryOp .Not a pos) (tNot ca) (notM ga) := ⟨pt_not h.pe, snd_not h.sn⟩
/-! as values -/
def andVM (f g : M RV) : M RV := fun ps => (f ps).bind fun x => (asB x.1).bind fun b => if b then g x.2 else some (.im (.bool false), x.2)
def orVM (f g : M RV) : M RV := fun ps => (f ps).bind fun x => (asB x.1).bind fun b => if b then some (.im (.bool true), x.2) else g x.2
def notVM (f : M RV) : M RV := fun ps => (f ps).bind fun x => (asB x.1).bind fun b => some (.im (.bool (!b)), x.2)
theorem de_one {op} (h : DE X a ta fa) : DE X (.BoolOp op [a] pos) ta fa := ⟨pe_one h.pe, h.sn⟩
theorem de_and (ha : DE X a ta fa) (hb : DE X (.BoolOp .And (b :: rest) pos) tb fb) : DE X (.BoolOp .And (a :: b :: rest) pos) (tAndV ta tb) (andVM fa fb) := by
  refine ⟨pe_and ha.pe hb.pe, ⟨fun G F ps σ H r ps' Q R e q => ?_⟩⟩
  unfold andVM at e
  obtain ⟨⟨r1, ps1⟩, e1, e⟩ := Option.bind_eq_some_iff.mp e
  obtain ⟨k, e2, e⟩ := Option.bind_eq_some_iff.mp e
  have e2 := asB_ok e2
  refine ha.sn.go G F ps σ H r1 ps1 _ R e1 fun x F1 H1 P1 y => ?_
  subst e2
  have y : Rel X.K F1 G.T (.bool k) x := y
  refine ⟨k, rBl.mp y, ?_⟩
  cases k with
  | true =>
    rw [if_pos rfl] at e
    exact iteT (hb.sn.go G F1 ps1 σ H1 r ps' _ P1.rep e fun v F2 H2 P2 z => q v F2 H2 (P1.trans P2) (z.back P1.dom))
  | false =>
    rw [if_neg Bool.false_ne_true] at e
    cases e
    exact iteF (q _ F1 H1 P1 (show Rel _ _ _ _ _ by unfold Rel; rfl))
theorem de_or (ha : DE X a ta fa) (hb : DE X (.BoolOp .Or (b :: rest) pos) tb fb) : DE X (.BoolOp .Or (a :: b :: rest) pos) (tOrV ta tb) (orVM fa fb) := by
  refine ⟨pe_or ha.pe hb.pe, ⟨fun G F ps σ H r ps' Q R e q => ?_⟩⟩
  unfold orVM at e
  obtain ⟨⟨r1, ps1⟩, e1, e⟩ := Option.bind_eq_some_iff.mp e
  obtain ⟨k, e2, e⟩ := Option.bind_eq_some_iff.mp e
  have e2 := asB_ok e2
  refine ha.sn.go G F ps σ H r1 ps1 _ R e1 fun x F1 H1 P1 y => ?_
  subst e2
  have y : Rel X.K F1 G.T (.bool k) x := y
  refine ⟨k, rBl.mp y, ?_⟩
  cases k with
  | true =>
    rw [if_pos rfl] at e
    cases e
    exact iteT (q _ F1 H1 P1 (show Rel _ _ _ _ _ by unfold Rel; rfl))
  | false =>
    rw [if_neg Bool.false_ne_true] at e
    exact iteF (hb.sn.go G F1 ps1 σ H1 r ps' _ P1.rep e fun v F2 H2 P2 z => q v F2 H2 (P1.trans P2) (z.back P1.dom))
theorem de_not (ha : DE X a ta fa) : DE X (.UnaryOp .Not a pos) (tNotV ta) (notVM fa) := by
  refine ⟨pe_not ha.pe, ⟨fun G F ps σ H r ps' Q R e q => ?_⟩⟩
  unfold notVM at e
  obtain ⟨⟨r1, ps1⟩, e1, e⟩ := Option.bind_eq_some_iff.mp e
  obtain ⟨k, e2, e⟩ := Option.bind_eq_some_iff.mp e
  have e2 := asB_ok e2
  cases e
  refine ha.sn.go G F ps σ H r1 ps1 _ R e1 fun x F1 H1 P1 y => ?_
  subst e2
  have y : Rel X.K F1 G.T (.bool k) x := y
  exact ⟨k, rBl.mp y, q _ F1 H1 P1 (show Rel _ _ _ _ _ by unfold Rel; rfl)⟩
def ifM (c : M Bool) (f g : M RV) : M RV := fun ps => (c ps).bind fun x => if x.1 then f x.2 else g x.2
theorem de_if (hc : DT X c ca ga) (ha : DE X a ta fa) (hb : DE X b tb fb) : DE X (.IfExp c a b pos) (tIf ca ta tb) (ifM ga fa fb) := by
  refine ⟨pe_ifExp hc.pe ha.pe hb.pe, ⟨fun G F ps σ H r ps' Q R e q => ?_⟩⟩
  unfold ifM at e
  obtain ⟨⟨k, ps1⟩, e1, e⟩ := Option.bind_eq_some_iff.mp e
  refine hc.sn.go G F ps σ H k ps1 _ R e1 fun F1 H1 P1 => ?_
  cases k with
  | true =>
    rw [if_pos rfl] at e
    exact iteT (ha.sn.go G F1 ps1 σ H1 r ps' _ P1.rep e fun v F2 H2 P2 z => q v F2 H2 (P1.trans P2) (z.back P1.dom))
  | false =>
    rw [if_neg Bool.false_ne_true] at e
    exact iteF (hb.sn.go G F1 ps1 σ H1 r ps' _ P1.rep e fun v F2 H2 P2 z => q v F2 H2 (P1.trans P2) (z.back P1.dom))
/-! chains: the middle one is kept -/
def chainM (g g' : Dat → Dat → Option RV) (fa fb fc : M RV) : M RV := fun ps =>
  (fa ps).bind fun x => (fb x.2).bind fun y => (brw (settle x.1) y.2).bind fun d => (brw (settle y.1) y.2).bind fun e => (g d e).bind fun r => (asB r).bind fun k =>
    if k then (fc y.2).bind fun z => (brw (settle y.1) z.2).bind fun e2 => (brw z.1 z.2).bind fun e3 => (g' e2 e3).bind fun r' => some (r', z.2) else some (.im (.bool false), y.2)
theorem snd_chain {K : Fg} {r r' : R2} {g g' : Dat → Dat → Option RV} (hg : OpSnd K r g) (hg' : OpSnd K r' g') (ha : SndE K ta fa) (hb : SndE K tb fb) (hc : SndE K tc fc) : SndE K (tChain r r' ta tb tc) (chainM g g' fa fb fc) := by
  refine ⟨fun G F ps σ H out ps' Q R e q => ?_⟩
  unfold chainM at e
  obtain ⟨⟨ra, ps1⟩, e1, e⟩ := Option.bind_eq_some_iff.mp e
  obtain ⟨⟨rb, ps2⟩, e2, e⟩ := Option.bind_eq_some_iff.mp e
  obtain ⟨d, e3, e⟩ := Option.bind_eq_some_iff.mp e
  obtain ⟨d', e4, e⟩ := Option.bind_eq_some_iff.mp e
  obtain ⟨o1, e5, e⟩ := Option.bind_eq_some_iff.mp e
  obtain ⟨k, e6, eF⟩ := Option.bind_eq_some_iff.mp e
  have e6 := asB_ok e6
  subst e6
  refine ha.go G F ps σ H ra ps1 _ R e1 fun x F1 H1 P1 r1 => ?_
  obtain ⟨F1', P1', r1'⟩ := settle_ok P1 r1
  refine hb.go G F1' ps1 σ H1 rb ps2 _ P1'.rep e2 fun y F2 H2 P2 r2 => ?_
  obtain ⟨F2', P2', r2'⟩ := settle_ok P2 r2
  refine hg G F2' ps2 σ H2 x y d d' _ _ P2'.rep (brw_ok P2'.rep (r1'.post P2') e3) (brw_ok P2'.rep r2' e4) e5 fun v F3 H3 P3 r3 => ?_
  have r3 : Rel K F3 G.T (.bool k) v := r3
  refine ⟨k, rBl.mp r3, ?_⟩
  have P := (P1'.trans P2').trans P3
  cases k with
  | true =>
    rw [if_pos rfl] at eF
    obtain ⟨⟨rc, ps4⟩, e7, e⟩ := Option.bind_eq_some_iff.mp eF
    obtain ⟨d2, e8, e⟩ := Option.bind_eq_some_iff.mp e
    obtain ⟨d3, e9, e⟩ := Option.bind_eq_some_iff.mp e
    obtain ⟨o2, e10, e⟩ := Option.bind_eq_some_iff.mp e
    cases e
    refine iteT (hc.go G F3 ps2 σ H3 rc ps4 _ P3.rep e7 fun w F4 H4 P4 r4 => ?_)
    have q2 := ((r2'.post P3).post P4)
    exact hg' G F4 ps4 σ H4 y w d2 d3 out Q P4.rep (brw_ok P4.rep q2 e8) (brw_ok P4.rep r4 e9) e10 fun v' F5 H5 P5 r5 => q v' F5 H5 ((P.trans P4).trans P5) (r5.back (P.trans P4).dom)
  | false =>
    rw [if_neg Bool.false_ne_true] at eF
    cases eF
    exact iteF (q _ F3 H3 P (show Rel _ _ _ _ _ by unfold Rel; rfl))
theorem de_chain {op op' : CmpOp} {r r' : R2} {g g' : Dat → Dat → Option RV} (ho : OpR X (compareOp op) r) (hg : OpSnd X.K r g) (ho' : OpR X (compareOp op') r') (hg' : OpSnd X.K r' g') (ha : DE X a ta fa) (hb : DE X b tb fb) (hc : DE X c tc fc)
    (hm : lastMarks [op, op'] [b, c] = false := by with_unfolding_all rfl) : DE X (.Compare a [op, op'] [b, c] pos) (tChain r r' ta tb tc) (chainM g g' fa fb fc) := ⟨pe_chain ho ho' ha.pe hb.pe hc.pe hm, snd_chain hg hg' ha.sn hb.sn hc.sn⟩
theorem dt_chain {op op' : CmpOp} {r r' : R2} {g g' : Dat → Dat → Option RV} (ho : OpR X (compareOp op) r) (hg : OpSnd X.K r g) (ho' : OpR X (compareOp op') r') (hg' : OpSnd X.K r' g') (ha : DE X a ta fa) (hb : DE X b tb fb) (hc : DE X c tc fc)
    (hm : lastMarks [op, op'] [b, c] = false := by with_unfolding_all rfl) : DT X (.Compare a [op, op'] [b, c] pos) (tTest (tChain r r' ta tb tc)) (tstM (chainM g g' fa fb fc)) := ⟨pt_chain ho ho' ha.pe hb.pe hc.pe hm, snd_tst (snd_chain hg hg' ha.sn hb.sn hc.sn)⟩

/-! ### arguments, displays -/
def keepM (f : M RV) : M Dat := fun ps => (f ps).bind fun x => keepV x.1 x.2
def consM (f : M RV) (g : M (List Dat)) : M (List Dat) := fun ps => (keepM f ps).bind fun x => (g x.2).bind fun y => some (x.1 :: y.1, y.2)
theorem keepM_go {K : Fg} (h : SndE K ta fa) {G : Ctl} {F : Hp} {ps : PS} {σ : L2.St} {H : Hp} {d : Dat} {ps' : PS} {Q : VK} (R : Rep G K F ps σ H) (e : keepM fa ps = some (d, ps')) (q : ∀ v F' H', Post G K F ps σ H F' ps' H' → Rel K F' G.T d v → Q v H') : ta σ H Q := by
  unfold keepM at e
  obtain ⟨⟨r, ps1⟩, e1, e⟩ := Option.bind_eq_some_iff.mp e
  refine h.go G F ps σ H r ps1 _ R e1 fun v F1 H1 P1 r1 => ?_
  obtain ⟨F', P', r'⟩ := keepV_ok P1 r1 e
  exact q v F' H1 P' r'
variable {es : List Expr} {t : TA} {g : M (List Dat)}
theorem da_nil : DA X [] tNil (M.ret []) := ⟨pa_nil, ⟨fun G F ps σ H ds ps' Q R e q => by
  cases e
  exact q [] F H (.refl R) .nil⟩⟩
theorem da_cons (ha : DE X e te fe) (hr : DA X es t g) (hs : starEach (e :: es) X.env = (false, eval e X.env) :: starEach es X.env := by rfl) : DA X (e :: es) (tCons te t) (consM fe g) := by
  refine ⟨pa_cons ha.pe hr.pe hs, ⟨fun G F ps σ H ds ps' Q R e q => ?_⟩⟩
  unfold consM at e
  obtain ⟨⟨d, ps1⟩, e1, e⟩ := Option.bind_eq_some_iff.mp e
  obtain ⟨⟨ds', ps2⟩, e2, e⟩ := Option.bind_eq_some_iff.mp e
  cases e
  refine keepM_go ha.sn R e1 fun v F1 H1 P1 r1 => ?_
  refine hr.sn.go G F1 ps1 σ H1 ds' ps2 _ P1.rep e2 fun vs F2 H2 P2 r2 => ?_
  exact q (v :: vs) F2 H2 (P1.trans P2) (.cons (Rel.mono P2.same _ _ r1) r2)
def tupM (g : M (List Dat)) : M RV := fun ps => (g ps).bind fun x => if line x.1.length then some (.im (.tuple x.1), x.2) else none
def lstM (g : M (List Dat)) : M RV := fun ps => (g ps).bind fun x => if line x.1.length then some (.nw x.1, x.2) else none
def tTupD (t : TA) : TE := fun σ H Q => t σ H fun xs H1 => xs.length ≤ sizeLine ∧ NewT H1 xs Q
theorem pe_tupD {es : List Expr} {t : TA} {pos : Pos} {X : Cx} {x1} (h : PA X es t) : PE X (.Tuple es x1 pos) (tTupD t) := by
  constructor
  intro pins s σ H Q I hq
  refine wpAny_Tuple_spliced (thn (h.run pos pins s σ H _ I hq) fun us s1 hu => ?_)
  obtain ⟨xs, H1, I1, r, hz, q⟩ := hu
  exact ⟨by rw [← r.length]; exact hz, q.put I1 r hz⟩
/-- tuple(x): of a list a new one, of a tuple itself -/
def rTupOf (K : Fg) : List V → Hp → VK → Prop := fun xs H Q => ∃ (p : Addr) (ys : List V), xs = [.ref p] ∧ ((SqL K H p ys ∧ NewT H ys Q) ∨ (SqT K H p ys ∧ Q (.ref p) H))
theorem call_tupleD {X : Cx} : CallR X (.type "tuple") (rTupOf X.K) := by
  rintro pins s σ H xs us Q I r ⟨p, ys, rfl, h⟩
  obtain ⟨u, rfl, rx⟩ := vals1 r
  cases rx
  rcases h with ⟨hq, q⟩ | ⟨hq, q⟩
  · obtain ⟨ws, rv, pl, hz⟩ := I.list hq
    refine call_tuple_list pl.isList (fun h' kp => ?_) (by rw [List.size_toArray, ← rv.length]; exact hz)
    exact q.put (s := { s with heap := h' }) (I.kept (t' := s.toks) kp) rv hz
  · obtain ⟨ws, rv, pl, hz⟩ := I.tuple hq
    exact call_tuple_same pl ⟨V.ref p, H, I, rfl, q⟩
theorem de_tup {x1} (h : DA X es t g) : DE X (.Tuple es x1 pos) (tTupD t) (tupM g) := by
  refine ⟨pe_tupD h.pe, ⟨fun G F ps σ H r ps' Q R e q => ?_⟩⟩
  unfold tupM at e
  obtain ⟨⟨ds, ps1⟩, e1, e⟩ := Option.bind_eq_some_iff.mp e
  split at e
  · rename_i hl
    cases e
    refine h.sn.go G F ps σ H ds ps1 _ R e1 fun vs F1 H1 P1 r1 => ⟨?_, out_tp P1.rep r1 fun v F2 H2 P2 r2 => q v F2 H2 (P1.trans P2) (r2.back P1.dom)⟩
    rw [r1.len]
    exact line_le hl
  · cases e
theorem de_lst (h : DA X es t g) : DE X (.List es pos) (tLst t) (lstM g) := by
  refine ⟨pe_lst h.pe, ⟨fun G F ps σ H r ps' Q R e q => ?_⟩⟩
  unfold lstM at e
  obtain ⟨⟨ds, ps1⟩, e1, e⟩ := Option.bind_eq_some_iff.mp e
  split at e
  · rename_i hl
    cases e
    refine h.sn.go G F ps σ H ds ps1 _ R e1 fun vs F1 H1 P1 r1 => ⟨?_, out_nw P1.rep r1 fun v F2 H2 P2 r2 => q v F2 H2 (P1.trans P2) (r2.back P1.dom)⟩
    rw [r1.len]
    exact line_le hl
  · cases e

/-! ### calls of built-ins -/
/-- one argument, read where it stands -/
def C1Snd (K : Fg) (r : List V → Hp → VK → Prop) (g : Dat → Option RV) : Prop := UnSnd K (fun x H Q => r [x] H Q) g
def t1 (ta : TE) : TA := tCons ta tNil
theorem snd_call1 {K : Fg} {r : List V → Hp → VK → Prop} {g : Dat → Option RV} (hg : C1Snd K r g) (ha : SndE K ta fa) : SndE K (tCB r (t1 ta)) (unM g fa) := ⟨(snd_un hg ha).go⟩
theorem de_callB1 {r : List V → Hp → VK → Prop} {g : Dat → Option RV} {x : Str} {id : String} {p : Pos} (hc : CallR X (.builtin id) r) (hs : C1Snd X.K r g) (hgl : Gl X x) (hm : X.mg x = none) (hv : bootBuiltins x = some (.builtin id)) (ha : DE X a ta fa)
    (hn : x ≠ "__name__" := by decide) (hdb : (x == ("__debug__" : Str)) = false := by decide) (he : starEach [a] X.env = (false, eval a X.env) :: starEach [] X.env := by rfl) (hp : (backTo pos (starEach [] X.env)).any (·.1) = false := by rfl) :
    DE X (.Call (.Name x p) [a] [] pos) (tCB r (t1 ta)) (unM g fa) := ⟨pe_callB hc hgl hm hv (pa_cons ha.pe pa_nil he) hn hdb he hp, snd_call1 hs ha.sn⟩
theorem de_callT1 {r : List V → Hp → VK → Prop} {g : Dat → Option RV} {x : Str} {T : String} {p : Pos} (hc : CallR X (.type T) r) (hs : C1Snd X.K r g) (hgl : Gl X x) (hm : X.mg x = none) (hv : bootBuiltins x = some (.type T)) (ha : DE X a ta fa)
    (hn : x ≠ "__name__" := by decide) (hdb : (x == ("__debug__" : Str)) = false := by decide) (he : starEach [a] X.env = (false, eval a X.env) :: starEach [] X.env := by rfl) (hp : (backTo pos (starEach [] X.env)).any (·.1) = false := by rfl) :
    DE X (.Call (.Name x p) [a] [] pos) (tCB r (t1 ta)) (unM g fa) := ⟨pe_callTy hc hgl hm hv (pa_cons ha.pe pa_nil he) hn hdb he hp, snd_call1 hs ha.sn⟩
/-- several arguments, kept -/
def CNSnd (K : Fg) (r : List V → Hp → VK → Prop) (g : List Dat → Option RV) : Prop :=
  ∀ (G : Ctl) (F : Hp) (ps : PS) (σ : L2.St) (H : Hp) (vs : List V) (ds : List Dat) (out : RV) (Q : VK), Rep G K F ps σ H → RelL K F G.T ds vs → g ds = some out →
    (∀ v F' H', Post G K F ps σ H F' ps H' → RVok G K F' ps σ H H' out v → Q v H') → r vs H Q
def cnM (g : List Dat → Option RV) (f : M (List Dat)) : M RV := fun ps => (f ps).bind fun x => (g x.1).bind fun r => some (r, x.2)
theorem snd_callN {K : Fg} {r : List V → Hp → VK → Prop} {gg : List Dat → Option RV} (hg : CNSnd K r gg) (ha : SndA K t g) : SndE K (tCB r t) (cnM gg g) := by
  refine ⟨fun G F ps σ H out ps' Q R e q => ?_⟩
  unfold cnM at e
  obtain ⟨⟨ds, ps1⟩, e1, e⟩ := Option.bind_eq_some_iff.mp e
  obtain ⟨o, e2, e⟩ := Option.bind_eq_some_iff.mp e
  cases e
  refine ha.go G F ps σ H ds ps1 _ R e1 fun vs F1 H1 P1 r1 => ?_
  exact hg G F1 ps1 σ H1 vs ds out Q P1.rep r1 e2 fun v F2 H2 P2 r2 => q v F2 H2 (P1.trans P2) (r2.back P1.dom)
theorem de_callBN {r : List V → Hp → VK → Prop} {gg : List Dat → Option RV} {x : Str} {id : String} {p : Pos} (hc : CallR X (.builtin id) r) (hs : CNSnd X.K r gg) (hgl : Gl X x) (hm : X.mg x = none) (hv : bootBuiltins x = some (.builtin id)) (ha : DA X (e :: es) t g)
    (hn : x ≠ "__name__" := by decide) (hdb : (x == ("__debug__" : Str)) = false := by decide) (he : starEach (e :: es) X.env = (false, eval e X.env) :: starEach es X.env := by rfl) (hp : (backTo pos (starEach es X.env)).any (·.1) = false := by rfl) :
    DE X (.Call (.Name x p) (e :: es) [] pos) (tCB r t) (cnM gg g) := ⟨pe_callB hc hgl hm hv ha.pe hn hdb he hp, snd_callN hs ha.sn⟩
end

def lenD : Dat → Option RV
  | .list ds => some (.im (.int ds.length))
  | .tuple ds => some (.im (.int ds.length))
  | .dict (_ :: (_, .list ds) :: _) => some (.im (.int ds.length))
  | _ => none
theorem lenD_ok {K : Fg} : C1Snd K (fun xs H Q => ∃ p ys, xs = [.ref p] ∧ (SqL K H p ys ∨ SqT K H p ys) ∧ Q (.int ys.length) H) lenD := by
  intro G F ps σ H x d out Q R hx hg q
  unfold lenD at hg
  split at hg
  · rename_i ds
    cases hg
    obtain ⟨a, vs, rfl, h1, h2⟩ := bLst hx
    exact ⟨a, vs, rfl, .inl (SqL.of h1), by rw [h2.len]; exact out_im R (by unfold Rel; rfl) q⟩
  · rename_i ds
    cases hg
    obtain ⟨a, vs, rfl, h1, h2⟩ := bTup R.fh hx
    exact ⟨a, vs, rfl, .inr h1, by rw [h2.len]; exact out_im R (by unfold Rel; rfl) q⟩
  · rename_i ds _
    cases hg
    obtain ⟨a, vs, rfl, h1, h2⟩ := bDic R.fh hx
    exact ⟨a, vs, rfl, .inl h1, by rw [h2.len]; exact out_im R (by unfold Rel; rfl) q⟩
  · cases hg
def listD : Dat → Option RV
  | .list ds => some (.nw ds)
  | .tuple ds => some (.nw ds)
  | _ => none
theorem listD_ok {K : Fg} : C1Snd K (fun xs H Q => ∃ p ys, xs = [.ref p] ∧ (SqL K H p ys ∨ SqT K H p ys) ∧ ∀ l, H l = none → Q (.ref l) (upd H l (.lst ys))) listD := by
  intro G F ps σ H x d out Q R hx hg q
  unfold listD at hg
  split at hg
  · cases hg
    obtain ⟨a, vs, rfl, h1, h2⟩ := bLst hx
    exact ⟨a, vs, rfl, .inl (SqL.of h1), out_nw R h2 q⟩
  · cases hg
    obtain ⟨a, vs, rfl, h1, h2⟩ := bTup R.fh hx
    exact ⟨a, vs, rfl, .inr h1, out_nw R h2 q⟩
  · cases hg
def tupleD : Dat → Option RV
  | .list ds => some (.im (.tuple ds))
  | .tuple ds => some (.im (.tuple ds))
  | _ => none
theorem tupleD_ok {K : Fg} : C1Snd K (rTupOf K) tupleD := by
  intro G F ps σ H x d out Q R hx hg q
  unfold tupleD at hg
  split at hg
  · cases hg
    obtain ⟨a, vs, rfl, h1, h2⟩ := bLst hx
    exact ⟨a, vs, rfl, .inl ⟨SqL.of h1, out_tp R h2 q⟩⟩
  · cases hg
    obtain ⟨a, vs, rfl, h1, h2⟩ := bTup R.fh hx
    exact ⟨a, vs, rfl, .inr ⟨h1, out_im R hx q⟩⟩
  · cases hg
def intD : Dat → Option RV
  | .int i => some (.im (.int i))
  | .bool k => some (.im (.int (if k then 1 else 0)))
  | _ => none
theorem intD_ok {K : Fg} : C1Snd K (fun xs H Q => (∃ i, xs = [.int i] ∧ Q (.int i) H) ∨ ∃ k, xs = [.bl k] ∧ Q (.int (if k then 1 else 0)) H) intD := by
  intro G F ps σ H x d out Q R hx hg q
  unfold intD at hg
  split at hg
  · cases hg
    rw [bInt hx]
    exact .inl ⟨_, rfl, out_im R (by unfold Rel; rfl) q⟩
  · cases hg
    rw [bBl hx]
    exact .inr ⟨_, rfl, out_im R (by unfold Rel; rfl) q⟩
  · cases hg
def absD : Dat → Option RV
  | .int i => some (.im (.int (if i < 0 then -i else i)))
  | _ => none
theorem absD_ok {K : Fg} : C1Snd K (fun xs H Q => ∃ i, xs = [.int i] ∧ Q (.int (if i < 0 then -i else i)) H) absD := by
  intro G F ps σ H x d out Q R hx hg q
  unfold absD at hg
  split at hg
  · cases hg
    rw [bInt hx]
    exact ⟨_, rfl, out_im R (by unfold Rel; rfl) q⟩
  · cases hg
def sumD : Dat → Option RV
  | .list ds => (ints? ds).bind fun ns => some (.im (.int ns.sum))
  | _ => none
theorem sumD_ok {K : Fg} : C1Snd K (rSum K) sumD := by
  intro G F ps σ H x d out Q R hx hg q
  unfold sumD at hg
  split at hg
  · obtain ⟨ns, e1, hg⟩ := Option.bind_eq_some_iff.mp hg
    cases hg
    obtain ⟨a, vs, rfl, h1, h2⟩ := bLst hx
    rw [ints_rel e1 h2] at h1
    exact ⟨a, ns, rfl, SqL.of h1, out_im R (by unfold Rel; rfl) q⟩
  · cases hg
def min2D : List Dat → Option RV
  | [.int i, .int j] => some (.im (.int (if j < i then j else i)))
  | _ => none
theorem two_int {K : Fg} {F : Hp} {T : Addr} {i j : Int} {vs : List V} (h : RelL K F T [.int i, .int j] vs) : vs = [.int i, .int j] := by
  unfold RelL at h
  obtain ⟨y, ys, rfl, h1, h2⟩ := h
  unfold RelL at h2
  obtain ⟨z, zs, rfl, h3, h4⟩ := h2
  unfold RelL at h4
  rw [rInt.mp h1, rInt.mp h3, h4]
theorem min2D_ok {K : Fg} : CNSnd K (fun xs H Q => ∃ i j, xs = [.int i, .int j] ∧ Q (.int (if j < i then j else i)) H) min2D := by
  intro G F ps σ H vs ds out Q R hx hg q
  unfold min2D at hg
  split at hg
  · cases hg
    exact ⟨_, _, two_int hx, out_im R (by unfold Rel; rfl) q⟩
  · cases hg
def max2D : List Dat → Option RV
  | [.int i, .int j] => some (.im (.int (if j > i then j else i)))
  | _ => none
theorem max2D_ok {K : Fg} : CNSnd K (fun xs H Q => ∃ i j, xs = [.int i, .int j] ∧ Q (.int (if j > i then j else i)) H) max2D := by
  intro G F ps σ H vs ds out Q R hx hg q
  unfold max2D at hg
  split at hg
  · cases hg
    exact ⟨_, _, two_int hx, out_im R (by unfold Rel; rfl) q⟩
  · cases hg

/-! ### calls of defs -/
/-- what is handed back -/
def RetOk (K : Fg) (F' : Hp) (T : Addr) (H0 H' : Hp) : RV → V → Prop
  | .im d, v => Rel K F' T d v
  | .nw ds, v => ∃ p vs, v = .ref p ∧ H' p = some (.lst vs) ∧ F' p = none ∧ H0 p = none ∧ RelL K F' T ds vs
  | .sl _, _ => False
abbrev Fn := List Dat → Dr → Option (RV × Dr)
def spM (K : Fg) (n : Nat) (g : Fn) : Sp := fun vs H Q E => ∃ (G : Ctl) (F : Hp) (dr dr' : Dr) (ds : List Dat) (r : RV), vs.length = n ∧ Same F H ∧ (G.st = true → DrAt G.T G.C H dr ∧ F G.T = none ∧ F G.C = none) ∧ (G.st = false → dr = .no) ∧ RelL K F G.T ds vs ∧ g ds dr = some (r, dr') ∧
  ∀ v F' H', Same F F' → Same F' H' → (∀ a o, H a = some o → ¬ G.ex a → H' a = some o) → (∀ a, H a ≠ none → F' a = F a) → (G.st = true → DrAt G.T G.C H' dr') → (G.st = false → dr' = .no) → (∀ a, H' a = none → H a = none) → RetOk K F' G.T H H' r v → Q v H'
def callM (fn : Fn) (g : M (List Dat)) : M RV := fun ps => (g ps).bind fun x => (fn x.1 x.2.dr).bind fun y => some (y.1, { x.2 with dr := y.2 })
theorem snd_call {K : Fg} {n : Nat} {fn : Fn} {t : TA} {g : M (List Dat)} {E : XK} (ha : SndA K t g) (hl : ∀ ps ds ps', g ps = some (ds, ps') → ds.length = n) : SndE K (tCall (spM K n fn) [] E t) (callM fn g) := by
  refine ⟨fun G F ps σ H out ps' Q R e q => ?_⟩
  unfold callM at e
  obtain ⟨⟨ds, ps1⟩, e1, e⟩ := Option.bind_eq_some_iff.mp e
  obtain ⟨⟨r, dr'⟩, e2, e⟩ := Option.bind_eq_some_iff.mp e
  obtain ⟨rfl, rfl⟩ : r = out ∧ { ps1 with dr := dr' } = ps' := by
    injection e with e
    injection e with e3 e4
    exact ⟨e3, e4⟩
  refine ha.go G F ps σ H ds ps1 _ R e1 fun vs F1 H1 P1 r1 => ?_
  show spM K n fn (vs ++ []) H1 Q E
  rw [List.append_nil]
  refine ⟨G, F1, ps1.dr, dr', ds, r, ?_, P1.rep.fh, fun hs => ⟨P1.rep.dr hs, (P1.rep.ft hs).1, (P1.rep.ft hs).2.1⟩, P1.rep.nd, r1, e2, fun v F2 H2 fs fh k nf hd hnd dm hr => ?_⟩
  · rw [r1.len]
    exact hl _ _ _ e1
  · have R1 := P1.rep
    have ownK : ∀ p, Own ps1 σ p → ∀ vs, H1 p = some (.lst vs) → H2 p = some (.lst vs) ∧ F2 p = F1 p := fun p o vs hp => by
      obtain ⟨ws, h1, h2, h3⟩ := R1.ownH o
      refine ⟨k p _ hp fun ⟨hs, he⟩ => ?_, nf p (by rw [hp]; simp)⟩
      obtain ⟨_, _, c, d⟩ := R1.ft hs
      rcases he with rfl | rfl
      · exact c h3
      · exact d h3
    have R2 : Rep G K F2 { ps1 with dr := dr' } σ H2 := by
      refine ⟨R1.len, fun i s e => ?_, R1.sep, hd, fun hs => ?_, fh, fun a o h1 h2 => k a o (R1.kp a o h1 h2) h2, fun a h => ?_, R1.ff.trans fs, hnd⟩
      · obtain ⟨o, e3, y⟩ := R1.slots i s e
        refine ⟨o, e3, y.mono fs fun p vs ds' es eo h1 h2 h3 => ?_⟩
        obtain ⟨z1, z2⟩ := ownK p ⟨i, ds', by rw [← es]; exact e, by rw [e3, eo]⟩ vs h1
        exact ⟨z1, by rw [z2]; exact h2⟩
      · obtain ⟨a, b, c, d⟩ := R1.ft hs
        have dd := R1.dr hs
        exact ⟨by rw [nf _ dd.T]; exact a, by rw [nf _ dd.C]; exact b, c, d⟩
      · rw [← R1.f0 a h]
        refine nf a fun z => ?_
        exact h (R1.h0 z)
    have P2 : Post G K F1 ps1 σ H1 F2 { ps1 with dr := dr' } H2 := by
      refine ⟨R2, fs, fun p vs h1 h2 h3 h4 => ⟨k p _ h1 fun ⟨hs, he⟩ => ?_, by rw [nf p (by rw [h1]; simp)]; exact h2, h4⟩, dm⟩
      obtain ⟨_, _, c, d⟩ := R1.ft hs
      rcases he with rfl | rfl
      · exact c h3
      · exact d h3
    refine q v F2 H2 (P1.trans P2) ?_
    cases r with
    | im d => exact hr
    | sl i => exact hr.elim
    | nw ds' =>
      obtain ⟨p, ws, e3, h1, h2, h3, h4⟩ := hr
      refine ⟨p, ws, e3, h1, h2, R1.h0 h3, fun o => ?_, h4, P1.dom p h3⟩
      obtain ⟨_, z, _⟩ := R1.ownH (σ := σ) (p := p) o
      rw [h3] at z
      cases z
section
variable {X : Cx} {CX : CXT} {k : Nat} {f : Addr} {fd : FuncData} {nms : List Str} {E : XK} {x : Str} {p pos : Pos} {e : Expr} {es : List Expr} {t : TA} {g : M (List Dat)} {n : Nat} {fn : Fn}
theorem da_len0 : ∀ ps ds ps', (M.ret [] : M (List Dat)) ps = some (ds, ps') → ds.length = 0 := fun ps ds ps' h => by cases h; rfl
theorem da_len1 {fe : M RV} (hg : ∀ ps ds ps', g ps = some (ds, ps') → ds.length = n) : ∀ ps ds ps', consM fe g ps = some (ds, ps') → ds.length = n + 1 := fun ps ds ps' h => by
  unfold consM at h
  obtain ⟨⟨d, ps1⟩, e1, h⟩ := Option.bind_eq_some_iff.mp h
  obtain ⟨⟨ds', ps2⟩, e2, h⟩ := Option.bind_eq_some_iff.mp h
  cases h
  rw [List.length_cons, hg _ _ _ e2]
theorem de_call (F : FnOk X.prog X.w X.K X.mg X.base CX k f fd nms (spM X.K n fn)) (hr : Room k X.A) (hg : Gl X x) (hm : X.mg x = some (.ref f)) (hk : PySem.W.keepIn X.K (.ref f) = true) (hb : Binds X.K fd nms []) (hx : Passes CX X E)
    (ha : DA X (e :: es) t g) (hl : ∀ ps ds ps', g ps = some (ds, ps') → ds.length = n) (hdb : (x == ("__debug__" : Str)) = false := by decide) (he : starEach (e :: es) X.env = (false, eval e X.env) :: starEach es X.env := by rfl) (hpl : (backTo pos (starEach es X.env)).any (·.1) = false := by rfl) :
    DE X (.Call (.Name x p) (e :: es) [] pos) (tCall (spM X.K n fn) [] E t) (callM fn g) := ⟨pe_call F hr hg hm hk hb .nil hx ha.pe hdb he hpl, snd_call ha.sn hl⟩
end
end MP

/-! enumerate of a tuple: the library's WalksT.enumFrom carried to a Turn of the layer -/
namespace MP
open PySem PySem.Spec
open PyProof.Rows L2

/-- a walk that hands out new tuples, as a Turn: z is the thing walked as it stands, src what the heap must hold of it -/
theorem turn_ofT {P : Program} {w : World} {K : Fg} {elts : List Expr} {kk : Nat} {tp : Pos} {I : Addr} {fp own wr : List Addr} {n : Nat} {ζ : Type} {Pt : ζ → Nat → Array Value → Prop} {St : ζ → Nat → Heap → Prop} {tn : Nat → Heap → Prop} {Mid : ζ → Nat → Addr → Heap → Prop}
    {src : ζ → Heap → Prop} {hold : Hp → Prop} {YV : Nat → List V → Prop} (hI : I ∈ own) (hwr : ∀ b ∈ wr, b ∈ own)
    (W : ∀ (z : ζ) (A : Around), A.handled = none → WalksT P w A I fp wr n (Pt z) (St z) (Mid z))
    (obj : ∀ i h, tn i h → ∀ b ∈ own, ∃ o, h.get? b = some o ∧ ∀ v, o.data ≠ .cell v)
    (keep : ∀ i h h', tn i h → (∀ b ∈ own, ∀ o, h.get? b = some o → h'.get? b = some o) → tn i h')
    (into : ∀ z i h, tn i h → src z h → St z i h) (out : ∀ z i h, St z i h → tn i h)
    (hsrc : ∀ (X : Cx) (pins : List (Addr × Obj)) (s : Shared) (σ : L2.St) (H : Hp), X.prog = P → X.w = w → X.K = K → Inv X pins σ H s → hold H → ∃ z, src z s.heap ∧ ∀ i us, Pt z i us → ∃ xs, Vals xs us.toList ∧ xs.length ≤ 2 ∧ YV i xs)
    (self : ∀ (A : Around) (i : Nat) (s : Shared) (Q : Value → Shared → Prop) (E : Value → Shared → Prop), tn i s.heap → Q (.ref I) s → wpAny (model P w) A (pyIter (.ref I)) Q E s) :
    Turn P w K (.Tuple elts kk tp) ⟨fun i H => i < n ∧ hold H, fun i H v H' => ∃ T xs, v = V.ref T ∧ H T = none ∧ H' = upd H T (.tup xs) ∧ YV i xs, fun i H => i = n ∧ hold H⟩ own I tn where
  mem := hI
  obj := obj
  keep := keep
  self := self
  done := fun X hP hw hK hc i pins s σ H E inv hf st ⟨e, hh⟩ => by
    subst e
    obtain ⟨z, sz, _⟩ := hsrc X pins s σ H hP hw hK inv hh
    refine (W z X.A (inv.ok.hd hc)).done s _ _ (into z _ _ st sz) fun h' tk k => ⟨rfl, ?_⟩
    exact inv.turnedL (ch := own) (fun b o hb z => k b o (fun y => hb (hwr b y)) z) hf
  item := fun X hP hw hK hc i pins s σ H E inv hf st ⟨hi, hh⟩ => by
    obtain ⟨z, sz, vals⟩ := hsrc X pins s σ H hP hw hK inv hh
    have WA := W z X.A (inv.ok.hd hc)
    have live : ∀ b ∈ own, b < s.heap.objs.size := fun b hb => by
      obtain ⟨o, z, _⟩ := obj i _ st b hb
      exact Heap.lt_size z
    refine WA.item i s _ _ hi (into z _ _ st sz) fun T us h' tk pt hT tup mid k1 => ⟨_, rfl, ?_⟩
    have tN : T ∉ wr := fun z => absurd (live T (hwr T z)) (Nat.not_lt_of_le hT)
    refine WA.go elts kk tp i T { s with heap := h', toks := tk } _ _ mid fun h2 st2 k2 => ?_
    obtain ⟨xs, rv, hl, yv⟩ := vals i us pt
    have hT2 : h2.IsTuple T us.toList.toArray := by
      obtain ⟨o, z1, z2⟩ := tup
      exact ⟨o, k2 T o tN z1, by simpa using z2⟩
    have new : ObjOk X.prog X.w (upd H T (.tup xs)) h2 T (.tup xs) := ⟨Nat.le_trans hl (by decide), us.toList, rv, hT2⟩
    have inv2 : Inv X pins σ (upd H T (.tup xs)) { s with heap := h2, toks := tk } :=
      inv.turnedNew (ch := own) (fun b o hb z => k2 b o (fun y => hb (hwr b y)) (k1 b o (fun y => hb (hwr b y)) z)) hf hT new
    refine ⟨V.ref T, _, inv2, rfl, ⟨T, xs, rfl, inv.hok.fresh hT, rfl, yv⟩, out z _ _ st2, fun b hb => ?_⟩
    have q : b ≠ T := Nat.ne_of_lt (Nat.lt_of_lt_of_le (live b hb) hT)
    rw [upd_ne q]
    exact (hf b hb).1

/-- what a walk over the tuple at a hands out -/
def ItE (K : Fg) (a : Addr) (xs : List V) : It :=
  ⟨fun i H => i < xs.length ∧ SqT K H a xs, fun i H v H' => ∃ T ys, v = V.ref T ∧ H T = none ∧ H' = upd H T (.tup ys) ∧ ∃ x, xs[i]? = some x ∧ ys = [.int (i : Nat), x], fun i H => i = xs.length ∧ SqT K H a xs⟩
theorem kind_apart {h : Heap} {a b : Addr} {T U : String} (h1 : ∃ o, h.get? a = some o ∧ o.cls = .type T) (h2 : ∃ o, h.get? b = some o ∧ o.cls = .type U) (d : T ≠ U) : a ≠ b := by
  rintro rfl
  obtain ⟨o1, e1, c1⟩ := h1
  obtain ⟨o2, e2, c2⟩ := h2
  rw [e1] at e2
  cases e2
  rw [c1] at c2
  exact d (Value.type.inj c2)
theorem turn_enumT {P : Program} {w : World} {K : Fg} {elts : List Expr} {kk : Nat} {tp : Pos} (a e it : Addr) (xs : List V) (d1 : e ≠ it) (d2 : e ≠ a) (d3 : a ≠ it) :
    Turn P w K (.Tuple elts kk tp) (ItE K a xs) [e, it] e (fun i h => (∃ old, IsEnum h e it (0 + (i : Int)) old) ∧ h.IsTupleIter it a i) := by
  have T := turn_ofT (P := P) (w := w) (K := K) (elts := elts) (kk := kk) (tp := tp) (I := e) (own := [e, it]) (n := xs.length) (ζ := { its : List Value // Vals xs its })
    (tn := fun i h => (∃ old, IsEnum h e it (0 + (i : Int)) old) ∧ h.IsTupleIter it a i) (src := fun z h => h.IsTuple a z.1.toArray) (hold := fun H => SqT K H a xs)
    (YV := fun i ys => ∃ x, xs[i]? = some x ∧ ys = [.int (i : Nat), x]) (by simp) (fun b hb => hb)
    (fun z A hA => by
      have D := Draws.tuple (prog := P) (w := w) (A := A.in1) (by exact hA) it a d3 z.1.toArray
      rw [List.size_toArray, ← z.2.length] at D
      exact WalksT.enumFrom 0 D e d1 (by simp [d1, d2]) (by simp))
    (fun i h ⟨⟨old, h1⟩, o, h2, _, h3⟩ b hb => by
      rcases List.mem_cons.mp hb with rfl | hb
      · exact ⟨_, h1, fun v q => nomatch q⟩
      · rw [List.mem_singleton.mp hb]
        exact ⟨o, h2, fun v q => by rw [h3] at q; cases q⟩)
    (fun i h h' ⟨⟨old, h1⟩, h2⟩ k => ⟨⟨old, k e (by simp) _ h1⟩, h2.at fun o q => k it (by simp) o q⟩)
    (by intro z i h h1 h3; exact ⟨h1.1, h1.2, h3⟩) (by intro z i h h1; exact ⟨h1.1, h1.2.1⟩)
    (fun X pins s σ H hP hw hK inv hh => by
      subst hK
      obtain ⟨its, rv, tup, _⟩ := inv.tuple hh
      refine ⟨⟨its, rv⟩, tup, fun i us ⟨t, u, hu, e1⟩ => ?_⟩
      have hu : its.toArray[i]? = some u := hu
      rw [List.getElem?_toArray] at hu
      have hx : ∃ x, xs[i]? = some x := by
        have hl := rv.length
        have := ltOf hu
        exact ⟨_, List.getElem?_eq_getElem (by omega)⟩
      obtain ⟨x, hx⟩ := hx
      obtain ⟨u', hu', rx⟩ := rv.get hx
      rw [hu] at hu'
      cases hu'
      subst e1
      refine ⟨[.int (i : Nat), x], .cons ⟨t, ?_⟩ (.cons rx .nil), by simp, x, hx, rfl⟩
      simp)
    (fun A i s Q E ⟨⟨_, h1⟩, _⟩ q => wpAny_pyIter_enum h1 q)
  exact T

/-! ### enumerate(..) begins, one argument -/
theorem enumB1 {v : Value} {o : Obj} {H : Heap → Prop} (B : Begins v o H) :
    Meets (Builtin.«enumerate.__new__» ⟨[.type "enumerate", v], []⟩) (fun _ R s => H s.heap ∧
      R (.ok (.ret (.ref (s.heap.push o).objs.size))) { s with heap := (s.heap.push o).push { cls := .type "enumerate", data := .fields #[.none, .bool false, .ref s.heap.objs.size, rawInt 0, .none, .none] } }) := by
  refine Meets.of_wp fun prog w A R s ⟨hs, hR⟩ => ?_
  have sub := sub_enumerate
  have step : ∀ {B' : Around} {E Q : Value → Shared → Prop}, Q (.ref s.heap.objs.size) { s with heap := s.heap.push o } → wpAny (model prog w) B' (pyIter v) Q E s := fun q => B.iter prog w _ _ s _ hs q
  obtain ⟨hp, gs, dr, tk, os⟩ := s
  wp_walk using step
  refine wpAny_stack_any fun frs => wpAny_pure ?_
  split
  next c _ _ _ _ _ =>
    rcases Bool.eq_false_or_eq_true (c == Value.type "enumerate") with hc | hc <;> rw [hc] <;> (wp_walk using step; exact ⟨_, rfl, hR⟩)
  next =>
    wp_walk using step
    exact ⟨_, rfl, hR⟩
theorem enum_begins1 {prog : Program} {w : World} {A : Around} {E : Value → Shared → Prop} {s : Shared} {v : Value} {o : Obj} {H : Heap → Prop} {Q : Value → Shared → Prop} (B : Begins v o H) (h1 : H s.heap)
    (h : IsEnum ((s.heap.push o).push { cls := .type "enumerate", data := .fields #[.none, .bool false, .ref s.heap.objs.size, rawInt 0, .none, .none] }) (s.heap.objs.size + 1) s.heap.objs.size 0 .none →
      Q (.ref (s.heap.objs.size + 1)) { s with heap := (s.heap.push o).push { cls := .type "enumerate", data := .fields #[.none, .bool false, .ref s.heap.objs.size, rawInt 0, .none, .none] } }) :
    wpAny (model prog w) A (call (.type "enumerate") [v]) Q E s := by
  have sz : (s.heap.push o).objs.size = s.heap.objs.size + 1 := Heap.size_push ..
  have isE := Heap.get?_push_size (s.heap.push o) (o := { cls := .type "enumerate", data := .fields #[.none, .bool false, .ref s.heap.objs.size, rawInt 0, .none, .none] }) rfl
  rw [sz] at isE
  exact callType_new F.called_enumerate (by decide) (F.typeCall_enumerate_1 _) (F.newCall_enumerate_1 _) (fun ob => F.args_object_init_2 ob _) F.entry_enumerate_new (enumB1 B)
    ⟨h1, by show _ ∧ _; rw [sz]; exact ⟨⟨_, isE, rfl⟩, h isE⟩⟩

def iEnumA (K : Fg) (te : TE) : TI := fun σ H R => te σ H fun v H1 => ∃ a xs, v = V.ref a ∧ ((SqL K H1 a xs ∧ R (Ite K a) H1) ∨ (SqT K H1 a xs ∧ R (ItE K a xs) H1))
theorem pi_enumA {X : Cx} {e : Expr} {te : TE} {p pos tpos : Pos} {elts : List Expr} {kk : Nat} (hg : Gl X "enumerate") (hm : X.mg "enumerate" = none) (he : PE X e te) (hs : starEach [e] X.env = (false, eval e X.env) :: starEach [] X.env := by rfl)
    (hs1 : starEach [e] X.env = [(false, eval e X.env)] := by rfl) : PI X (.Tuple elts kk tpos) (.Call (.Name "enumerate" p) [e] [] pos) (iEnumA X.K te) where
  run := fun pins s σ H R inv h => by
    refine Call_ (ld_blt inv hg hm boot_enumerate (PyProof.Rows.callWith_type1 (thn ((pa_cons he pa_nil hs).run pos pins s σ H (fun vs H1 => match vs with | [v] => ∃ (a : Addr) (xs : List V), v = V.ref a ∧ ((SqL X.K H1 a xs ∧ R (Ite X.K a) H1) ∨ (SqT X.K H1 a xs ∧ R (ItE X.K a xs) H1)) | _ => False) inv h) fun us s1 ⟨vs, H1, inv1, r1, q0⟩ => ?_) hs1 rfl))
    obtain ⟨v, ex, a, xs, ev, q1⟩ : ∃ v, vs = [v] ∧ ∃ (a : Addr) (xs : List V), v = V.ref a ∧ ((SqL X.K H1 a xs ∧ R (Ite X.K a) H1) ∨ (SqT X.K H1 a xs ∧ R (ItE X.K a xs) H1)) := by
      match vs, q0 with
      | [v], q => exact ⟨v, rfl, q⟩
    subst ex ev
    clear q0
    obtain ⟨u, rfl, ru⟩ := vals1 r1
    cases ru
    have new2 : ∀ b ∈ [s1.heap.objs.size + 1, s1.heap.objs.size], FpOk X pins H1 b := fun b hb => by
      have hle : s1.heap.objs.size ≤ b := by
        rcases List.mem_cons.mp hb with rfl | hb
        · exact Nat.le_succ _
        · rw [List.mem_singleton.mp hb]
          exact Nat.le_refl _
      exact inv1.fpOk hle (inv1.hok.fresh hle)
    rcases q1 with ⟨hq, q⟩ | ⟨hq, q⟩
    · obtain ⟨its, _, pl, _⟩ := inv1.list hq
      exact call_enumerate_list pl.isList fun h' hE hit _ hk => wpAny_pyIter_enum hE
        ⟨s1.heap.objs.size + 1, _, _, _, H1, rfl, inv1.kept (t' := s1.toks) hk, turn_enum a (s1.heap.objs.size + 1) s1.heap.objs.size, ⟨⟨.none, hE⟩, hit, Nat.succ_ne_self _⟩, new2, q⟩
    · obtain ⟨its, rv, tup, _⟩ := inv1.tuple hq
      have al : a < s1.heap.objs.size := tup.lt
      refine enum_begins1 (begins_tuple a its.toArray) tup fun hE => wpAny_pyIter_enum hE ?_
      refine ⟨s1.heap.objs.size + 1, _, _, _, H1, rfl, inv1.kept (t' := s1.toks) fun b o z => Heap.get?_push_of_some _ (Heap.get?_push_of_some _ z), turn_enumT a (s1.heap.objs.size + 1) s1.heap.objs.size xs (Nat.succ_ne_self _) (Nat.ne_of_gt (Nat.lt_succ_of_lt al)) (Nat.ne_of_lt al),
        ⟨⟨.none, hE⟩, ⟨_, Heap.get?_push_of_some _ (Heap.get?_push_size _ rfl), rfl, rfl⟩⟩, new2, q⟩
end MP

namespace MP
open PySem PySem.Spec PyProof.Rows L2

/-! ### slots written -/
section
variable {G : Ctl} {K : Fg} {F : Hp} {ps : PS} {σ : L2.St} {H : Hp}
theorem Rep.setFr (R : Rep G K F ps σ H) {i : Nat} {d : Dat} {v : V} (h : Rel K F G.T d v) : Rep G K F (ps.put i (.fr d)) (σ.set i (some v)) H := by
  refine ⟨?_, fun j s e => ?_, fun a b da db q ha hb hqa hqb => ?_, R.dr, R.ft, R.fh, R.kp, R.f0, R.ff, R.nd⟩
  · show (σ.set i (some v)).length = (ps.sl.set i _).length
    rw [List.length_set, List.length_set]
    exact R.len
  · rcases getSet e with ⟨rfl, rfl, hl⟩ | ⟨hj, e⟩
    · refine ⟨some v, List.getElem?_set_self (by rw [R.len]; exact hl), v, rfl, h⟩
    · obtain ⟨o, e1, q⟩ := R.slots j s e
      exact ⟨o, by rw [List.getElem?_set_ne (Ne.symm hj)]; exact e1, q⟩
  · rcases getSet ha with ⟨_, z, _⟩ | ⟨na, ha⟩
    · cases z
    · rcases getSet hb with ⟨_, z, _⟩ | ⟨nb, hb⟩
      · cases z
      · rw [List.getElem?_set_ne (Ne.symm na)] at hqa
        rw [List.getElem?_set_ne (Ne.symm nb)] at hqb
        exact R.sep _ _ _ _ _ ha hb hqa hqb
theorem Rep.setOw (R : Rep G K F ps σ H) {i : Nat} {ds : List Dat} {p : Addr} {vs : List V} (h1 : H p = some (.lst vs)) (h2 : F p = none) (h3 : G.H0 p = none) (h4 : ¬ Own ps σ p) (h5 : RelL K F G.T ds vs) : Rep G K F (ps.put i (.ow ds)) (σ.set i (some (.ref p))) H := by
  refine ⟨?_, fun j s e => ?_, fun a b da db q ha hb hqa hqb => ?_, R.dr, R.ft, R.fh, R.kp, R.f0, R.ff, R.nd⟩
  · show (σ.set i _).length = (ps.sl.set i _).length
    rw [List.length_set, List.length_set]
    exact R.len
  · rcases getSet e with ⟨rfl, rfl, hl⟩ | ⟨hj, e⟩
    · refine ⟨some (.ref p), List.getElem?_set_self (by rw [R.len]; exact hl), p, vs, rfl, h1, h2, h3, h5⟩
    · obtain ⟨o, e1, q⟩ := R.slots j s e
      exact ⟨o, by rw [List.getElem?_set_ne (Ne.symm hj)]; exact e1, q⟩
  · rcases getSet ha with ⟨ea, za, la⟩ | ⟨na, ha⟩
    · rcases getSet hb with ⟨eb, zb, _⟩ | ⟨nb, hb⟩
      · rw [ea, eb]
      · rw [ea, List.getElem?_set_self (by rw [R.len]; exact la)] at hqa
        cases hqa
        rw [List.getElem?_set_ne (Ne.symm nb)] at hqb
        exact absurd ⟨b, db, hb, hqb⟩ h4
    · rw [List.getElem?_set_ne (Ne.symm na)] at hqa
      rcases getSet hb with ⟨eb, zb, lb⟩ | ⟨nb, hb⟩
      · rw [eb, List.getElem?_set_self (by rw [R.len]; exact lb)] at hqb
        cases hqb
        exact absurd ⟨a, da, ha, hqa⟩ h4
      · rw [List.getElem?_set_ne (Ne.symm nb)] at hqb
        exact R.sep _ _ _ _ _ ha hb hqa hqb
end

/-! ### targets: names -/
structure SndG (K : Fg) (g : TG) (is : List Nat) (f : Dat → PS → Option PS) : Prop where
  go : ∀ (G : Ctl) (F : Hp) (ps : PS) (σ : L2.St) (H : Hp) (d : Dat) (v : V) (ps' : PS) (Q : L2.St → Hp → Prop), Rep G K F ps σ H → Rel K F G.T d v → f d ps = some ps' →
    (∀ σ', Rep G K F ps' σ' H → (∀ j, j ∉ is → σ'[j]? = σ[j]?) → σ'.length = σ.length → (∀ p, Own ps' σ' p → Own ps σ p) → Q σ' H) → g v σ H Q
structure SndGs (K : Fg) (g : TGs) (is : List Nat) (f : List Dat → PS → Option PS) : Prop where
  go : ∀ (G : Ctl) (F : Hp) (ps : PS) (σ : L2.St) (H : Hp) (ds : List Dat) (vs : List V) (ps' : PS) (Q : L2.St → Hp → Prop), Rep G K F ps σ H → RelL K F G.T ds vs → f ds ps = some ps' →
    (∀ σ', Rep G K F ps' σ' H → (∀ j, j ∉ is → σ'[j]? = σ[j]?) → σ'.length = σ.length → (∀ p, Own ps' σ' p → Own ps σ p) → Q σ' H) → g vs σ H Q
structure DG (X : Cx) (tg : Expr) (g : TG) (is : List Nat) (f : Dat → PS → Option PS) : Prop where
  pe : PG X tg g
  sn : SndG X.K g is f
structure DGs (X : Cx) (tgs : List Expr) (g : TGs) (is : List Nat) (f : List Dat → PS → Option PS) : Prop where
  pe : PGs X tgs g
  sn : SndGs X.K g is f
def nmT (i : Nat) (d : Dat) (ps : PS) : Option PS := some (ps.put i (.fr d))
theorem own_put {ps : PS} {σ : L2.St} {i : Nat} {d : Dat} {v : V} {p : Addr} (h : Own (ps.put i (.fr d)) (σ.set i (some v)) p) : Own ps σ p := by
  obtain ⟨j, dj, e1, e2⟩ := h
  rcases getSet e1 with ⟨_, z, _⟩ | ⟨hj, e1⟩
  · cases z
  · rw [List.getElem?_set_ne (Ne.symm hj)] at e2
    exact ⟨j, dj, e1, e2⟩
theorem sng_name {K : Fg} (i : Nat) : SndG K (gName i) [i] (nmT i) := by
  refine ⟨fun G F ps σ H d v ps' Q R r e q => ?_⟩
  cases e
  refine q _ (R.setFr r) (fun j hj => ?_) (by simp) fun p o => own_put o
  rw [List.getElem?_set_ne]
  intro z
  exact hj (by simp [z])
def nilTs (ds : List Dat) (ps : PS) : Option PS := match ds with
  | [] => some ps
  | _ => none
def consTs (f : Dat → PS → Option PS) (g : List Dat → PS → Option PS) (ds : List Dat) (ps : PS) : Option PS := match ds with
  | d :: r => (f d ps).bind fun ps1 => g r ps1
  | _ => none
theorem sngs_nil {K : Fg} : SndGs K gNil [] nilTs := by
  refine ⟨fun G F ps σ H ds vs ps' Q R r e q => ?_⟩
  unfold nilTs at e
  split at e
  · cases e
    unfold RelL at r
    exact ⟨r, q σ R (fun _ _ => rfl) rfl fun _ o => o⟩
  · cases e
theorem sngs_cons {K : Fg} {g : TG} {gs : TGs} {is js : List Nat} {f : Dat → PS → Option PS} {fs : List Dat → PS → Option PS} (h : SndG K g is f) (hs : SndGs K gs js fs) : SndGs K (gCons g gs) (is ++ js) (consTs f fs) := by
  refine ⟨fun G F ps σ H ds vs ps' Q R r e q => ?_⟩
  unfold consTs at e
  split at e
  · rename_i d r'
    obtain ⟨ps1, e1, e⟩ := Option.bind_eq_some_iff.mp e
    unfold RelL at r
    obtain ⟨y, ys, rfl, h1, h2⟩ := r
    refine ⟨y, ys, rfl, h.go G F ps σ H d y ps1 _ R h1 e1 fun σ1 R1 k1 l1 o1 => ?_⟩
    refine hs.go G F ps1 σ1 H r' ys ps' _ R1 h2 e fun σ2 R2 k2 l2 o2 => ?_
    refine q σ2 R2 (fun j hj => ?_) (l2.trans l1) fun p o => o1 p (o2 p o)
    rw [List.mem_append] at hj
    rw [k2 j (fun z => hj (.inr z)), k1 j (fun z => hj (.inl z))]
  · cases e
def tupT (n : Nat) (f : List Dat → PS → Option PS) (d : Dat) (ps : PS) : Option PS := match d with
  | .tuple ds => if ds.length = n then f ds ps else none
  | .list ds => if ds.length = n then f ds ps else none
  | .dict [(x, y)] => if 2 = n then f [x, y] ps else none
  | _ => none
/-- unpacked from a tuple or from a list -/
def gTL (K : PySem.W.Frag) (n : Nat) (t : TGs) : TG := fun v σ H Q => gTup K n t v σ H Q ∨ gLst K n t v σ H Q
theorem pg_tl {X : Cx} {pos : Pos} {es : List Expr} {k : Nat} {t : TGs} {n : Nat} (hc : X.calm = true) (h : PGs X es t)
    (hn : (assignEach es X.env).length = n := by rfl) (hst : (assignEach es X.env).findIdx? (·.1) = none := by rfl) : PG X (.Tuple es k pos) (gTL X.K n t) := by
  refine ⟨fun pins s σ H v u Q I r hw => ?_⟩
  rcases hw with hw | hw
  · exact (pg_tup hc h hn hst).run pins s σ H v u Q I r hw
  · exact (pg_lst hc h hn hst).run pins s σ H v u Q I r hw
theorem sng_tup {K : Fg} {n : Nat} {gs : TGs} {is : List Nat} {fs : List Dat → PS → Option PS} (h : SndGs K gs is fs) : SndG K (gTL K n gs) is (tupT n fs) := by
  refine ⟨fun G F ps σ H d v ps' Q R r e q => ?_⟩
  unfold tupT at e
  split at e
  · rename_i ds
    split at e
    · rename_i hl
      obtain ⟨a, xs, rfl, h1, h2⟩ := rTupE r
      exact .inl ⟨a, xs, rfl, seqT R.fh h1, by rw [h2.len]; exact hl, h.go G F ps σ H ds xs ps' Q R h2 e q⟩
    · cases e
  · rename_i ds
    split at e
    · rename_i hl
      obtain ⟨a, xs, rfl, h1, h2⟩ := rLst.mp r
      exact .inr ⟨a, xs, rfl, SqL.of (R.fh _ _ h1), by rw [h2.len]; exact hl, h.go G F ps σ H ds xs ps' Q R h2 e q⟩
    · cases e
  · split at e
    · rename_i x y hl
      unfold Rel at r
      obtain ⟨a, x', y', rfl, h1, h2, h3⟩ := r
      exact .inl ⟨a, [x', y'], rfl, seqT R.fh h1, hl, h.go G F ps σ H [x, y] [x', y'] ps' Q R (.cons h2 (.cons h3 .nil)) e q⟩
    · cases e
  · cases e
section
variable {X : Cx} {pos : Pos}
theorem dg_name {i : Nat} {x : Str} (hN : X.N.Nodup) (hi : X.N[i]? = some x) (hx : Loc X.env.scope x) (hf : X.fn x = true ∨ X.env.scope.names.lookup x = some .local := by first | exact .inl rfl | exact .inr rfl | assumption) : DG X (.Name x pos) (gName i) [i] (nmT i) := ⟨pg_name hN hi hx hf, sng_name i⟩
theorem dgs_nil : DGs X [] gNil [] nilTs := ⟨pgs_nil, sngs_nil⟩
theorem dgs_cons {e : Expr} {es : List Expr} {g : TG} {gs : TGs} {is js : List Nat} {f : Dat → PS → Option PS} {fs : List Dat → PS → Option PS} (h : DG X e g is f) (hs : DGs X es gs js fs)
    (hq : (assignEach (e :: es) X.env).map (·.2) = assign e X.env :: (assignEach es X.env).map (·.2) := by rfl) : DGs X (e :: es) (gCons g gs) (is ++ js) (consTs f fs) := ⟨pgs_cons h.pe hs.pe hq, sngs_cons h.sn hs.sn⟩
theorem dg_tup {es : List Expr} {k : Nat} {gs : TGs} {is : List Nat} {fs : List Dat → PS → Option PS} {n : Nat} (hc : X.calm = true) (h : DGs X es gs is fs)
    (hn : (assignEach es X.env).length = n := by rfl) (hst : (assignEach es X.env).findIdx? (·.1) = none := by rfl) : DG X (.Tuple es k pos) (gTL X.K n gs) is (tupT n fs) := ⟨pg_tl hc h.pe hn hst, sng_tup h.sn⟩
end

/-! ### what is walked -/
def Wlk (G : Ctl) (K : Fg) (J : It) (ds : List Dat) (F' : Hp) : Prop :=
  (∀ (i : Nat) (d : Dat), ds[i]? = some d → ∀ (F2 : Hp) (ps : PS) (σ : L2.St) (H2 : Hp), Rep G K F2 ps σ H2 → Same F' F2 → J.go i H2 ∧ ∀ x H3, J.yld i H2 x H3 → ∃ F3, Post G K F2 ps σ H2 F3 ps H3 ∧ Rel K F3 G.T d x) ∧
  ∀ (F2 : Hp) (ps : PS) (σ : L2.St) (H2 : Hp), Rep G K F2 ps σ H2 → Same F' F2 → J.stop ds.length H2
structure SndI (K : Fg) (wi : TI) (f : M (List Dat)) : Prop where
  go : ∀ (G : Ctl) (F : Hp) (ps : PS) (σ : L2.St) (H : Hp) (ds : List Dat) (ps' : PS) (R : It → Hp → Prop), Rep G K F ps σ H → f ps = some (ds, ps') →
    (∀ J F' H', Post G K F ps σ H F' ps' H' → Wlk G K J ds F' → R J H') → wi σ H R
structure DI (X : Cx) (tg e : Expr) (wi : TI) (f : M (List Dat)) : Prop where
  pe : PI X tg e wi
  sn : SndI X.K wi f
def iSeq (K : Fg) (te : TE) : TI := fun σ H R => te σ H fun x H1 => ∃ a, x = .ref a ∧ (((∃ xs, SqL K H1 a xs) ∧ R (Itl K a) H1) ∨ ((∃ xs, SqT K H1 a xs) ∧ R (Itt K a) H1))
theorem pi_seq {X : Cx} {tg l : Expr} {tl : TE} (hl : PE X l tl) : PI X tg l (iSeq X.K tl) where
  run := fun pins s σ H R inv h => by
    refine thn (hl.run pins s σ H _ inv h) fun v s1 ⟨x, H1, inv1, rx, a, ex, q⟩ => ?_
    subst ex
    cases rx
    have fresh1 : ∀ b ∈ [s1.heap.objs.size], FpOk X pins H1 b := fun b hb => by
      rw [List.mem_singleton.mp hb]
      exact inv1.fpOk (Nat.le_refl _) (inv1.hok.fresh (Nat.le_refl _))
    rcases q with ⟨⟨xs, hq⟩, q⟩ | ⟨⟨xs, hq⟩, q⟩
    · obtain ⟨its, _, pl, _⟩ := inv1.list hq
      exact wpAny_pyIter_list pl.isList ⟨_, _, _, _, H1, rfl, inv1.kept (t' := s1.toks) (fun b o z => Heap.get?_push_of_some _ z), turn_list a _, ⟨_, Heap.get?_push_size _ rfl, rfl, rfl⟩, fresh1, q⟩
    · obtain ⟨its, _, tup, _⟩ := inv1.tuple hq
      have tup : s1.heap.IsTuple a its.toArray := tup
      exact wpAny_pyIter_tuple tup ⟨_, _, _, _, H1, rfl, inv1.kept (t' := s1.toks) (fun b o z => Heap.get?_push_of_some _ z), turn_tuple a _, ⟨_, Heap.get?_push_size _ rfl, rfl, rfl⟩, fresh1, q⟩
def items? : Dat → Option (List Dat)
  | .list ds => some ds
  | .tuple ds => some ds
  | _ => none
theorem items_ok {d : Dat} {ds : List Dat} (h : items? d = some ds) : d = .list ds ∨ d = .tuple ds := by
  cases d <;> first
    | (cases h; exact .inl rfl)
    | (cases h; exact .inr rfl)
    | cases h
def seqIt (fe : M RV) : M (List Dat) := fun ps => (keepM fe ps).bind fun x => (items? x.1).bind fun ds => some (ds, x.2)
theorem wlk_l {G : Ctl} {K : Fg} {a : Addr} {ds : List Dat} {xs : List V} {F' : Hp} (h1 : F' a = some (.lst xs)) (h2 : RelL K F' G.T ds xs) : Wlk G K (Itl K a) ds F' := by
  refine ⟨fun i d e F2 ps σ H2 R s => ?_, fun F2 ps σ H2 R s => ?_⟩
  · obtain ⟨v, e1, r⟩ := h2.get e
    have hl : SqL K H2 a xs := SqL.of (R.fh _ _ (s _ _ h1))
    refine ⟨⟨xs, v, hl, e1⟩, fun x H3 y => ?_⟩
    obtain ⟨rfl, y⟩ := y
    have e2 := y xs hl
    rw [e1] at e2
    cases e2
    exact ⟨F2, .refl R, Rel.mono s _ _ r⟩
  · exact ⟨xs, SqL.of (R.fh _ _ (s _ _ h1)), by rw [h2.len]; exact Nat.le_refl _⟩
theorem wlk_t {G : Ctl} {K : Fg} {a : Addr} {ds : List Dat} {xs : List V} {F' : Hp} (h1 : SqT K F' a xs) (h2 : RelL K F' G.T ds xs) : Wlk G K (Itt K a) ds F' := by
  refine ⟨fun i d e F2 ps σ H2 R s => ?_, fun F2 ps σ H2 R s => ?_⟩
  · obtain ⟨v, e1, r⟩ := h2.get e
    have hl : SqT K H2 a xs := seqT (s.trans R.fh) h1
    refine ⟨⟨xs, v, hl, e1⟩, fun x H3 y => ?_⟩
    obtain ⟨rfl, y⟩ := y
    have e2 := y xs hl
    rw [e1] at e2
    cases e2
    exact ⟨F2, .refl R, Rel.mono s _ _ r⟩
  · exact ⟨xs, seqT (s.trans R.fh) h1, by rw [h2.len]; exact Nat.le_refl _⟩
theorem di_seq {X : Cx} {tg e : Expr} {te : TE} {fe : M RV} (h : DE X e te fe) : DI X tg e (iSeq X.K te) (seqIt fe) := by
  refine ⟨pi_seq h.pe, ⟨fun G F ps σ H ds ps' R Rp e q => ?_⟩⟩
  unfold seqIt at e
  obtain ⟨⟨d, ps1⟩, e1, e⟩ := Option.bind_eq_some_iff.mp e
  obtain ⟨ds', e2, e⟩ := Option.bind_eq_some_iff.mp e
  cases e
  refine keepM_go h.sn Rp e1 fun v F1 H1 P1 r1 => ?_
  rcases items_ok e2 with e2 | e2
  · have e2 : d = .list _ := e2
    subst e2
    obtain ⟨a, xs, rfl, h1, h2⟩ := rLst.mp r1
    exact ⟨a, rfl, .inl ⟨⟨xs, SqL.of (P1.rep.fh _ _ h1)⟩, q _ F1 H1 P1 (wlk_l h1 h2)⟩⟩
  · have e2 : d = .tuple _ := e2
    subst e2
    obtain ⟨a, xs, rfl, h1, h2⟩ := rTupE r1
    exact ⟨a, rfl, .inr ⟨⟨xs, seqT P1.rep.fh h1⟩, q _ F1 H1 P1 (wlk_t h1 h2)⟩⟩
/-- ranges -/
def rgD (lo : Int) (n : Nat) : List Dat := (List.range n).map fun i => .int (lo + (i : Nat))
theorem wlk_r {G : Ctl} {K : Fg} {lo : Int} {n : Nat} {F' : Hp} : Wlk G K (Itr lo n) (rgD lo n) F' := by
  refine ⟨fun i d e F2 ps σ H2 R s => ?_, fun F2 ps σ H2 R s => ?_⟩
  · unfold rgD at e
    rw [List.getElem?_map] at e
    obtain ⟨j, e1, rfl⟩ := Option.map_eq_some_iff.mp e
    obtain ⟨hl, e2⟩ := List.getElem?_eq_some_iff.mp e1
    rw [List.getElem_range] at e2
    subst e2
    refine ⟨show i < n by simpa using hl, fun x H3 y => ?_⟩
    obtain ⟨rfl, rfl⟩ := y
    exact ⟨F2, .refl R, by unfold Rel; rfl⟩
  · show n ≤ (rgD lo n).length
    unfold rgD
    simp
def rng1 (g : M (List Dat)) : M (List Dat) := fun ps => (g ps).bind fun x => match x.1 with
  | [.int j] => if b62 j then some (rgD 0 j.toNat, x.2) else none
  | _ => none
def rng2 (g : M (List Dat)) : M (List Dat) := fun ps => (g ps).bind fun x => match x.1 with
  | [.int i, .int j] => if b62 i && b62 j then some (rgD i (j - i).toNat, x.2) else none
  | _ => none
theorem one_int {K : Fg} {F : Hp} {T : Addr} {i : Int} {vs : List V} (h : RelL K F T [.int i] vs) : vs = [.int i] := by
  unfold RelL at h
  obtain ⟨y, ys, rfl, h1, h2⟩ := h
  unfold RelL at h2
  rw [rInt.mp h1, h2]
section
variable {X : Cx} {tg a b c e : Expr} {t : TA} {g : M (List Dat)} {p pos tpos : Pos} {te : TE} {fe : M RV}
theorem di_range1 (hg : Gl X "range") (hm : X.mg "range" = none) (ha : DA X [a] t g) (hs : starEach [a] X.env = [(false, eval a X.env)] := by rfl) : DI X tg (.Call (.Name "range" p) [a] [] pos) (iRng1 t) (rng1 g) := by
  refine ⟨pi_range1 hg hm ha.pe hs, ⟨fun G F ps σ H ds ps' R Rp e q => ?_⟩⟩
  unfold rng1 at e
  obtain ⟨⟨ds', ps1⟩, e1, e⟩ := Option.bind_eq_some_iff.mp e
  simp only at e
  split at e
  · rename_i j
    split at e
    · rename_i hb
      cases e
      refine ha.sn.go G F ps σ H _ _ _ Rp e1 fun vs F1 H1 P1 r1 => ?_
      exact ⟨j, one_int r1, Int.le_of_lt (b62_iff.mp hb).1, (b62_iff.mp hb).2, q _ F1 H1 P1 wlk_r⟩
    · cases e
  · cases e
theorem di_range2 (hg : Gl X "range") (hm : X.mg "range" = none) (ha : DA X [a, b] t g) (hs : starEach [a, b] X.env = [(false, eval a X.env), (false, eval b X.env)] := by rfl) (hs2 : starEach [b] X.env = [(false, eval b X.env)] := by rfl) : DI X tg (.Call (.Name "range" p) [a, b] [] pos) (iRng2 t) (rng2 g) := by
  refine ⟨pi_range2 hg hm ha.pe hs hs2, ⟨fun G F ps σ H ds ps' R Rp e q => ?_⟩⟩
  unfold rng2 at e
  obtain ⟨⟨ds', ps1⟩, e1, e⟩ := Option.bind_eq_some_iff.mp e
  simp only at e
  split at e
  · rename_i i j
    split at e
    · rename_i hb
      cases e
      simp only [Bool.and_eq_true, b62_iff] at hb
      refine ha.sn.go G F ps σ H _ _ _ Rp e1 fun vs F1 H1 P1 r1 => ?_
      exact ⟨i, j, two_int r1, ⟨Int.le_of_lt hb.1.1, hb.1.2, Int.le_of_lt hb.2.1, hb.2.2⟩, q _ F1 H1 P1 wlk_r⟩
    · cases e
  · cases e
/-- enumerate -/
def enL (ds : List Dat) : List Dat := ds.zipIdx.map fun z => .dict [(.int (z.2 : Nat), z.1)]
def enIt (fe : M RV) : M (List Dat) := fun ps => (keepM fe ps).bind fun x => (items? x.1).bind fun ds => some (enL ds, x.2)
theorem enL_get {ds : List Dat} {i : Nat} {d : Dat} (h : (enL ds)[i]? = some d) : ∃ z, ds[i]? = some z ∧ d = .dict [(.int (i : Nat), z)] := by
  unfold enL at h
  rw [List.getElem?_map, List.getElem?_zipIdx] at h
  cases q : ds[i]? with
  | none => rw [q] at h; cases h
  | some z =>
    rw [q] at h
    simp at h
    exact ⟨z, rfl, h.symm⟩
theorem yld_pair {G : Ctl} {K : Fg} {F2 : Hp} {ps : PS} {σ : L2.St} {H2 H3 : Hp} {T : Addr} {x y v : V} {d d' : Dat} (R : Rep G K F2 ps σ H2) (hv : v = .ref T) (hT : H2 T = none) (hH : H3 = upd H2 T (.tup [x, y])) (r : Rel K F2 G.T d x) (r' : Rel K F2 G.T d' y) :
    ∃ F3, Post G K F2 ps σ H2 F3 ps H3 ∧ Rel K F3 G.T (.dict [(d, d')]) v := by
  subst hv hH
  have P := R.newF (o := .tup [x, y]) hT
  refine ⟨_, P, ?_⟩
  unfold Rel
  exact ⟨T, x, y, rfl, SqT.of upd_same, Rel.mono P.same _ _ r, Rel.mono P.same _ _ r'⟩
theorem di_enum {elts : List Expr} {kk : Nat} (hg : Gl X "enumerate") (hm : X.mg "enumerate" = none) (h : DE X e te fe) (hs : starEach [e] X.env = (false, eval e X.env) :: starEach [] X.env := by rfl)
    (hs1 : starEach [e] X.env = [(false, eval e X.env)] := by rfl) : DI X (.Tuple elts kk tpos) (.Call (.Name "enumerate" p) [e] [] pos) (iEnumA X.K te) (enIt fe) := by
  refine ⟨pi_enumA hg hm h.pe hs hs1, ⟨fun G F ps σ H ds ps' R Rp e q => ?_⟩⟩
  unfold enIt at e
  obtain ⟨⟨d, ps1⟩, e1, e⟩ := Option.bind_eq_some_iff.mp e
  obtain ⟨ds', e2, e⟩ := Option.bind_eq_some_iff.mp e
  cases e
  refine keepM_go h.sn Rp e1 fun v F1 H1 P1 r1 => ?_
  rcases items_ok e2 with e2 | e2
  · have e2 : d = .list _ := e2
    subst e2
    obtain ⟨a, xs, rfl, h1, h2⟩ := rLst.mp r1
    refine ⟨a, xs, rfl, .inl ⟨SqL.of (P1.rep.fh _ _ h1), q _ F1 H1 P1 ⟨fun i d e F2 ps σ H2 R s => ?_, fun F2 ps σ H2 R s => ?_⟩⟩⟩
    · obtain ⟨z, e3, rfl⟩ := enL_get e
      obtain ⟨u, e4, r⟩ := h2.get e3
      have hl : SqL X.K H2 a xs := SqL.of (R.fh _ _ (s _ _ h1))
      refine ⟨⟨xs, u, hl, e4⟩, fun x H3 ⟨T, y, ev, hT, hH, hy⟩ => ?_⟩
      have e5 := hy xs hl
      rw [e4] at e5
      cases e5
      exact yld_pair R ev hT hH (by unfold Rel; rfl) (Rel.mono s _ _ r)
    · refine ⟨xs, SqL.of (R.fh _ _ (s _ _ h1)), ?_⟩
      unfold enL
      rw [h2.len]
      simp
  · have e2 : d = .tuple _ := e2
    subst e2
    obtain ⟨a, xs, rfl, h1, h2⟩ := rTupE r1
    refine ⟨a, xs, rfl, .inr ⟨seqT P1.rep.fh h1, q _ F1 H1 P1 ⟨fun i d e F2 ps σ H2 R s => ?_, fun F2 ps σ H2 R s => ⟨?_, seqT (s.trans R.fh) h1⟩⟩⟩⟩
    · obtain ⟨z, e3, rfl⟩ := enL_get e
      obtain ⟨u, e4, r⟩ := h2.get e3
      refine ⟨⟨ltOf e4, seqT (s.trans R.fh) h1⟩, fun x H3 ⟨T, ys, ev, hT, hH, u', e5, ey⟩ => ?_⟩
      rw [e4] at e5
      cases e5
      subst ey
      exact yld_pair R ev hT hH (by unfold Rel; rfl) (Rel.mono s _ _ r)
    · unfold enL
      rw [h2.len]
      simp
end
end MP

namespace MP
open PySem PySem.Spec PyProof.Rows L2

/-! ### statements -/
inductive SOut where
  | nx (ps : PS)
  | rt (r : RV) (ps : PS)
  | bk (ps : PS)
  | ct (ps : PS)
abbrev SM := PS → Option SOut
def EndOk (G : Ctl) (K : Fg) (F : Hp) (D : Ends) : SOut → Prop
  | .nx ps' => ∀ F' σ' H', Rep G K F' ps' σ' H' → Same F F' → D.nx σ' H'
  | .bk ps' => ∀ F' σ' H', Rep G K F' ps' σ' H' → Same F F' → D.bk σ' H'
  | .ct ps' => ∀ F' σ' H', Rep G K F' ps' σ' H' → Same F F' → D.ct σ' H'
  | .rt r ps' => ∀ v F' σ' H', Rep G K F' ps' σ' H' → Same F F' → RetOk K F' G.T G.H0 H' r v → D.rt v H'
theorem EndOk.mono {G : Ctl} {K : Fg} {F F' : Hp} {D : Ends} {o : SOut} (h : EndOk G K F D o) (s : Same F F') : EndOk G K F' D o := by
  cases o with
  | nx ps => exact fun F2 σ' H' r s2 => h F2 σ' H' r (s.trans s2)
  | bk ps => exact fun F2 σ' H' r s2 => h F2 σ' H' r (s.trans s2)
  | ct ps => exact fun F2 σ' H' r s2 => h F2 σ' H' r (s.trans s2)
  | rt r ps => exact fun v F2 σ' H' r s2 q => h v F2 σ' H' r (s.trans s2) q
structure SndS (K : Fg) (t : TS) (f : SM) : Prop where
  go : ∀ (G : Ctl) (F : Hp) (ps : PS) (σ : L2.St) (H : Hp) (o : SOut) (D : Ends), Rep G K F ps σ H → f ps = some o → EndOk G K F D o → t D σ H
structure DS (X : Cx) (st : Stmt) (t : TS) (f : SM) : Prop where
  pe : L2.PS X st t
  sn : SndS X.K t f
structure DSs (X : Cx) (st : List Stmt) (t : TS) (f : SM) : Prop where
  pe : PSs X st t
  sn : SndS X.K t f
def nxM : SM := fun ps => some (.nx ps)
def seqM (f g : SM) : SM := fun ps => (f ps).bind fun o => match o with
  | .nx ps' => g ps'
  | o => some o
theorem snd_seq {K : Fg} {t u : TS} {f g : SM} (h : SndS K t f) (h2 : SndS K u g) : SndS K (tSeq t u) (seqM f g) := by
  refine ⟨fun G F ps σ H o D R e q => ?_⟩
  unfold seqM at e
  obtain ⟨o1, e1, e⟩ := Option.bind_eq_some_iff.mp e
  refine h.go G F ps σ H o1 { D with nx := u D } R e1 ?_
  cases o1 with
  | nx ps' => exact fun F' σ' H' R' s => h2.go G F' ps' σ' H' o D R' e (q.mono s)
  | bk ps' => cases e; exact q
  | ct ps' => cases e; exact q
  | rt r ps' => cases e; exact q
section
variable {X : Cx} {st : Stmt} {rest : List Stmt} {t u : TS} {f g : SM} {e a b c : Expr} {te ta tb : TE} {fe fa fb : M RV} {pos : Pos}
theorem dss_nil : DSs X [] tNext nxM := ⟨pss_nil, ⟨fun G F ps σ H o D R e q => by
  cases e
  exact q F σ H R (Same.refl F)⟩⟩
theorem dss_one (h : DS X st t f) : DSs X [st] t f := ⟨pss_one h.pe, h.sn⟩
theorem dss_cons (h : DS X st t f) (h2 : DSs X rest u g) : DSs X (st :: rest) (tSeq t u) (seqM f g) := ⟨pss_cons h.pe h2.pe, snd_seq h.sn h2.sn⟩
theorem ds_pass : DS X (.Pass pos) tNext nxM := ⟨ps_pass, ⟨fun G F ps σ H o D R e q => by
  cases e
  exact q F σ H R (Same.refl F)⟩⟩
theorem ds_break : DS X (.Break pos) tBreak (fun ps => some (.bk ps)) := ⟨ps_break, ⟨fun G F ps σ H o D R e q => by
  cases e
  exact q F σ H R (Same.refl F)⟩⟩
theorem ds_continue : DS X (.Continue pos) tCont (fun ps => some (.ct ps)) := ⟨ps_continue, ⟨fun G F ps σ H o D R e q => by
  cases e
  exact q F σ H R (Same.refl F)⟩⟩
/-- x = e -/
def setV (i : Nat) (r : RV) (ps : PS) : Option PS := match r with
  | .im d => some (ps.put i (.fr d))
  | .nw ds => some (ps.put i (.ow ds))
  | .sl j => (keepV (.sl j) ps).bind fun x => some (x.2.put i (.fr x.1))
def setM (i : Nat) (fe : M RV) : SM := fun ps => (fe ps).bind fun x => (setV i x.1 x.2).bind fun ps' => some (.nx ps')
theorem setV_ok {G : Ctl} {K : Fg} {F F1 : Hp} {ps ps1 ps2 : PS} {σ : L2.St} {H H1 : Hp} {r : RV} {v : V} {i : Nat} (P : Post G K F ps σ H F1 ps1 H1) (h : RVok G K F1 ps1 σ H H1 r v) (e : setV i r ps1 = some ps2) :
    ∃ F', Same F F' ∧ Rep G K F' ps2 (σ.set i (some v)) H1 := by
  cases r with
  | im d =>
    cases e
    exact ⟨F1, P.same, P.rep.setFr h⟩
  | nw ds =>
    cases e
    obtain ⟨p, vs, rfl, h1, h2, h3, h4, h5, _⟩ := h
    exact ⟨F1, P.same, P.rep.setOw h1 h2 h3 h4 h5⟩
  | sl j =>
    unfold setV at e
    obtain ⟨⟨d, ps3⟩, e1, e⟩ := Option.bind_eq_some_iff.mp e
    cases e
    obtain ⟨F', P', r'⟩ := keepV_ok P h e1
    exact ⟨F', P'.same, P'.rep.setFr r'⟩
theorem snd_set {K : Fg} {i : Nat} (h : SndE K te fe) : SndS K (tAsg te (gName i)) (setM i fe) := by
  refine ⟨fun G F ps σ H o D R e q => ?_⟩
  unfold setM at e
  obtain ⟨⟨r, ps1⟩, e1, e⟩ := Option.bind_eq_some_iff.mp e
  obtain ⟨ps2, e2, e⟩ := Option.bind_eq_some_iff.mp e
  cases e
  refine h.go G F ps σ H r ps1 _ R e1 fun v F1 H1 P1 r1 => ?_
  obtain ⟨F', s, R'⟩ := setV_ok P1 r1 e2
  exact q F' _ H1 R' s
theorem ds_set {i : Nat} {x : Str} {pos' : Pos} (hN : X.N.Nodup) (hi : X.N[i]? = some x) (hx : Loc X.env.scope x) (he : DE X e te fe) (hs : swapsWith e (some (.Name x pos')) pos.line X.env = pure false := by rfl) (hf : X.fn x = true ∨ X.env.scope.names.lookup x = some .local := by first | exact .inl rfl | exact .inr rfl | assumption) :
    DS X (.Assign [.Name x pos'] e pos) (tAsg te (gName i)) (setM i fe) := ⟨ps_set hN hi hx he.pe hs hf, snd_set he.sn⟩
/-- targets of several names -/
def asgM (tg : Dat → PS → Option PS) (fe : M RV) : SM := fun ps => (keepM fe ps).bind fun x => (tg x.1 x.2).bind fun ps' => some (.nx ps')
theorem ds_asg {tg : Expr} {g : TG} {is : List Nat} {ft : Dat → PS → Option PS} (he : DE X e te fe) (hg : DG X tg g is ft) (hs : swapsWithSole [tg] e pos.line X.env = pure false := by rfl) (hw : swappedStores [tg] e X.env = pure none := by rfl)
    (h1 : (assignEach [tg] X.env).map (·.2) = [assign tg X.env] := by rfl) : DS X (.Assign [tg] e pos) (tAsg te g) (asgM ft fe) := by
  refine ⟨ps_asg he.pe hg.pe hs hw h1, ⟨fun G F ps σ H o D R e q => ?_⟩⟩
  unfold asgM at e
  obtain ⟨⟨d, ps1⟩, e1, e⟩ := Option.bind_eq_some_iff.mp e
  obtain ⟨ps2, e2, e⟩ := Option.bind_eq_some_iff.mp e
  cases e
  refine keepM_go he.sn R e1 fun v F1 H1 P1 r1 => ?_
  exact hg.sn.go G F1 ps1 σ H1 d v ps2 _ P1.rep r1 e2 fun σ' R' _ _ _ => q F1 σ' H1 R' P1.same
/-- a, b = x, y -/
def slotV (r : RV) (ps : PS) : Option (Sl × PS) := match r with
  | .im d => some (.fr d, ps)
  | .nw ds => some (.ow ds, ps)
  | .sl j => (keepV (.sl j) ps).bind fun x => some (.fr x.1, x.2)
def parM (i j : Nat) (fa fb : M RV) : SM := fun ps => (fa ps).bind fun x => (fb x.2).bind fun y => (slotV x.1 y.2).bind fun u => (slotV y.1 u.2).bind fun w => some (.nx ((w.2.put i u.1).put j w.1))
/-- s may be put where v is -/
def SV (G : Ctl) (K : Fg) (F : Hp) (ps : PS) (σ : L2.St) (H Hs : Hp) (s : Sl) (v : V) : Prop := match s with
  | .un => False
  | .fr d => Rel K F G.T d v
  | .ow ds => ∃ p vs, v = .ref p ∧ H p = some (.lst vs) ∧ F p = none ∧ G.H0 p = none ∧ ¬ Own ps σ p ∧ RelL K F G.T ds vs ∧ Hs p = none
theorem slotV_ok {G : Ctl} {K : Fg} {F F1 : Hp} {ps ps1 ps2 : PS} {σ : L2.St} {Hs H H1 : Hp} {r : RV} {v : V} {s : Sl} (P : Post G K F ps σ H F1 ps1 H1) (h : RVok G K F1 ps1 σ Hs H1 r v) (e : slotV r ps1 = some (s, ps2)) :
    ∃ F', Post G K F ps σ H F' ps2 H1 ∧ SV G K F' ps2 σ H1 Hs s v ∧ ∀ s' v', SV G K F1 ps1 σ H1 Hs s' v' → SV G K F' ps2 σ H1 Hs s' v' := by
  cases r with
  | im d =>
    cases e
    exact ⟨F1, P, h, fun _ _ x => x⟩
  | nw ds =>
    cases e
    exact ⟨F1, P, h, fun _ _ x => x⟩
  | sl j =>
    unfold slotV at e
    obtain ⟨⟨d, ps3⟩, e1, e⟩ := Option.bind_eq_some_iff.mp e
    cases e
    have h : σ[j]? = some (some v) := h
    obtain ⟨F', P', r'⟩ := keepV_ok (.refl P.rep) (show RVok G K F1 ps1 σ H1 H1 (.sl j) v from h) e1
    refine ⟨F', P.trans P', r', fun s' v' x => ?_⟩
    cases s' with
    | un => exact x
    | fr d => exact Rel.mono P'.same _ _ x
    | ow ds =>
      obtain ⟨p, vs, ev, h1, h2, h3, h4, h5, h6⟩ := x
      obtain ⟨a, b, c⟩ := P'.fresh p vs h1 h2 h3 h4
      exact ⟨p, vs, ev, a, b, h3, c, RelL.mono P'.same _ _ h5, h6⟩
theorem rv_sv {G : Ctl} {K : Fg} {F F' : Hp} {ps ps' : PS} {σ : L2.St} {Hs H H' : Hp} {s : Sl} {v : V} (x : SV G K F ps σ H Hs s v) (P : Post G K F ps σ H F' ps' H') : SV G K F' ps' σ H' Hs s v := by
  cases s with
  | un => exact x
  | fr d => exact Rel.mono P.same _ _ x
  | ow ds =>
    obtain ⟨p, vs, ev, h1, h2, h3, h4, h5, h6⟩ := x
    obtain ⟨a, b, c⟩ := P.fresh p vs h1 h2 h3 h4
    exact ⟨p, vs, ev, a, b, h3, c, RelL.mono P.same _ _ h5, h6⟩
theorem Rep.setS {G : Ctl} {K : Fg} {F : Hp} {ps : PS} {σ : L2.St} {Hs H : Hp} {s : Sl} {v : V} {i : Nat} (R : Rep G K F ps σ H) (h : SV G K F ps σ H Hs s v) : Rep G K F (ps.put i s) (σ.set i (some v)) H := by
  cases s with
  | un => exact h.elim
  | fr d => exact R.setFr h
  | ow ds =>
    obtain ⟨p, vs, rfl, h1, h2, h3, h4, h5, _⟩ := h
    exact R.setOw h1 h2 h3 h4 h5
theorem ds_par {i j : Nat} {x y : Str} {px py pt : Pos} {kt k2 pt2} (hc : X.calm = true) (hN : X.N.Nodup) (hi : X.N[i]? = some x) (hj : X.N[j]? = some y) (hij : i ≠ j)
    (hx : X.env.scope.names.lookup x = some .local) (hy : X.env.scope.names.lookup y = some .local) (ha : DE X a ta fa) (hb : DE X b tb fb)
    (hw : swappedStores [.Tuple [.Name x px, .Name y py] kt pt] (.Tuple [a, b] k2 pt2) X.env = pure (some [x, y]))
    (hs : swapsWithSole [.Tuple [.Name x px, .Name y py] kt pt] (.Tuple [a, b] k2 pt2) pos.line X.env = pure false := by rfl)
    (h1 : starEach [a, b] X.env = (false, eval a X.env) :: starEach [b] X.env := by rfl) (h2 : starEach [b] X.env = (false, eval b X.env) :: starEach [] X.env := by rfl) :
    DS X (.Assign [.Tuple [.Name x px, .Name y py] kt pt] (.Tuple [a, b] k2 pt2) pos) (tPar i j (tCons ta (tCons tb tNil))) (parM i j fa fb) := by
  refine ⟨ps_par hc hN hi hj hij hx hy (pa_cons ha.pe (pa_cons hb.pe pa_nil h2) h1) hw hs, ⟨fun G F ps σ H o D R e q => ?_⟩⟩
  unfold parM at e
  obtain ⟨⟨r1, ps1⟩, e1, e⟩ := Option.bind_eq_some_iff.mp e
  obtain ⟨⟨r2, ps2⟩, e2, e⟩ := Option.bind_eq_some_iff.mp e
  obtain ⟨⟨s1, ps3⟩, e3, e⟩ := Option.bind_eq_some_iff.mp e
  obtain ⟨⟨s2, ps4⟩, e4, e⟩ := Option.bind_eq_some_iff.mp e
  cases e
  refine ha.sn.go G F ps σ H r1 ps1 _ R e1 fun v F1 H1 P1 q1 => ?_
  refine hb.sn.go G F1 ps1 σ H1 r2 ps2 _ P1.rep e2 fun w F2 H2 P2 q2 => ?_
  refine ⟨v, w, rfl, ?_⟩
  obtain ⟨F3, P3, sv1, _⟩ := slotV_ok (.refl P2.rep) (q1.post P2) e3
  obtain ⟨F4, P4, sv2, _⟩ := slotV_ok (.refl P3.rep) (q2.post P3) e4
  have sv1 := rv_sv sv1 P4
  have R4 := P4.rep
  have R5 : Rep G X.K F4 (ps4.put i s1) (σ.set i (some v)) H2 := R4.setS sv1
  have nown : ∀ p, (∃ ds, s1 = .ow ds ∧ v = .ref p) ∨ Own ps4 σ p ∨ ¬ Own (ps4.put i s1) (σ.set i (some v)) p := fun p => by
    by_cases ho : Own (ps4.put i s1) (σ.set i (some v)) p
    · obtain ⟨k, dk, z1, z2⟩ := ho
      rcases getSet z1 with ⟨ek, ez, hl⟩ | ⟨hk, z1⟩
      · subst ek
        rw [List.getElem?_set_self (by rw [R4.len]; exact hl)] at z2
        exact .inl ⟨dk, ez, Option.some.inj (Option.some.inj z2)⟩
      · rw [List.getElem?_set_ne (Ne.symm hk)] at z2
        exact .inr (.inl ⟨k, dk, z1, z2⟩)
    · exact .inr (.inr ho)
  have sv2' : SV G X.K F4 (ps4.put i s1) (σ.set i (some v)) H2 H1 s2 w := by
    cases s2 with
    | un => exact sv2
    | fr d => exact sv2
    | ow es =>
      obtain ⟨p, vs, ev, a1, a2, a3, a4, a5, a6⟩ := sv2
      refine ⟨p, vs, ev, a1, a2, a3, ?_, a5, a6⟩
      rcases nown p with ⟨ds, es1, ev1⟩ | z | z
      · exfalso
        subst es1
        -- the first one stood at H1 already
        cases r1 with
        | im d =>
          cases e3
        | nw ds' =>
          obtain ⟨p', vs', ev', b1, b2, _⟩ := q1
          rw [ev'] at ev1
          cases ev1
          rw [a6] at b1
          cases b1
        | sl k =>
          unfold slotV at e3
          obtain ⟨z, _, z2⟩ := Option.bind_eq_some_iff.mp e3
          cases z2
      · exact absurd z a4
      · exact z
  exact q F4 _ H2 (R5.setS sv2') (((P1.same.trans P2.same).trans P3.same).trans P4.same)
/-- x += e, two ints -/
def augM (i : Nat) (g : Dat → Dat → Option RV) (fe : M RV) : SM := fun ps => match ps.sl[i]? with
  | some (.fr d) => (keepM fe ps).bind fun x => (g d x.1).bind fun r => match r with
    | .im d' => some (.nx (x.2.put i (.fr d')))
    | _ => none
  | _ => none
def augI (f : Int → Int → Int) : Dat → Dat → Option RV
  | .int i, .int j => some (.im (.int (f i j)))
  | _, _ => none
theorem ds_aug {i : Nat} {x : Str} {op : Operator} {f : Int → Int → Int} {pos' : Pos} (hN : X.N.Nodup) (hi : X.N[i]? = some x) (hx : Loc X.env.scope x) (he : DE X e te fe) (ho : PIp X op (ipI f)) (hf : X.fn x = true ∨ X.env.scope.names.lookup x = some .local := by first | exact .inl rfl | exact .inr rfl | assumption) :
    DS X (.AugAssign (.Name x pos') op e pos) (tAug i te (ipI f)) (augM i (augI f) fe) := by
  refine ⟨ps_aug hN hi hx he.pe ho hf, ⟨fun G F ps σ H o D R e q => ?_⟩⟩
  unfold augM at e
  split at e
  · rename_i d ed
    obtain ⟨⟨d2, ps1⟩, e1, e⟩ := Option.bind_eq_some_iff.mp e
    obtain ⟨r, e2, e⟩ := Option.bind_eq_some_iff.mp e
    obtain ⟨o1, e3, v, rfl, rv⟩ := R.slots i _ ed
    refine ⟨v, e3, keepM_go he.sn R e1 fun w F1 H1 P1 r1 => ?_⟩
    have e2 : augI f d d2 = some r := e2
    unfold augI at e2
    split at e2
    · cases e2
      cases e
      have r1 := rInt.mp r1
      have rv := rInt.mp rv
      refine ⟨_, _, rv, r1, q F1 _ H1 (P1.rep.setFr (by unfold Rel; rfl)) P1.same⟩
    · cases e2
  · cases e
/-- x[i] = e -/
def stoM (j : Nat) (fi fe : M RV) : SM := fun ps => (keepM fe ps).bind fun x => match x.2.sl[j]? with
  | some (.ow _) => (keepM fi x.2).bind fun y => match y.1, y.2.sl[j]? with
    | .int k, some (.ow ds) => (ixN ds.length k).bind fun n => some (.nx (y.2.put j (.ow (ds.set n x.1))))
    | _, _ => none
  | _ => none
theorem snd_sto {K : Fg} {ti : TE} {fi : M RV} {j : Nat} (he : SndE K te fe) (hi : SndE K ti fi) : SndS K (tAsg te (gSub (tVar j) ti rSetL)) (stoM j fi fe) := by
  refine ⟨fun G F ps σ H o D R e q => ?_⟩
  unfold stoM at e
  obtain ⟨⟨d, ps1⟩, e1, e⟩ := Option.bind_eq_some_iff.mp e
  simp only at e
  split at e
  · rename_i ds0 ed0
    obtain ⟨⟨di, ps2⟩, e2, e⟩ := Option.bind_eq_some_iff.mp e
    simp only at e
    split at e
    · rename_i k ds ed
      obtain ⟨n, e3, e⟩ := Option.bind_eq_some_iff.mp e
      cases e
      refine keepM_go he R e1 fun v F1 H1 P1 r1 => ?_
      obtain ⟨o1, e4, p, vs0, rfl, _⟩ := P1.rep.slots j _ ed0
      refine ⟨.ref p, e4, keepM_go hi P1.rep e2 fun w F2 H2 P2 r2 => ?_⟩
      obtain ⟨o2, e5, p', vs, eo, h1, h2, h3, h4⟩ := P2.rep.slots j _ ed
      rw [e4] at e5
      cases e5
      cases eo
      have P3 := P2.rep.wr ed e4 (h4.set n (Rel.mono P2.same _ _ r1))
      refine ⟨p, vs, k, n, rfl, rInt.mp r2, h1, by rw [h4.len]; exact e3, q F2 σ _ P3.rep (P1.same.trans P2.same)⟩
    · cases e
  · cases e
theorem ds_sto {j : Nat} {x : Str} {i : Expr} {ti : TE} {fi : M RV} {px spos : Pos} (hN : X.N[j]? = some x) (hv : Vis X.env.scope x) (he : DE X e te fe) (hi : DE X i ti fi)
    (ha : ∀ v, assign (.Subscript (.Name x px) i spos) X.env v = (do
      let ov ← holding [v] (eval (.Name x px) X.env)
      let iv ← holding [v, ov] (eval i X.env)
      standAt spos
      holding [v, ov, iv] (setItem ov iv v)
      release [v, ov, iv] []) := by intro _; rfl)
    (hs : swapsWithSole [.Subscript (.Name x px) i spos] e pos.line X.env = pure false := by rfl) (hw : swappedStores [.Subscript (.Name x px) i spos] e X.env = pure none := by rfl)
    (h1 : (assignEach [.Subscript (.Name x px) i spos] X.env).map (·.2) = [assign (.Subscript (.Name x px) i spos) X.env] := by rfl)
    (hd : (x == ("__debug__" : Str)) = false := by decide) (hcd : (x == ("__classdict__" : Str)) = false := by decide) : DS X (.Assign [.Subscript (.Name x px) i spos] e pos) (tAsg te (gSub (tVar j) ti rSetL)) (stoM j fi fe) :=
  ⟨ps_asg he.pe (pg_sub (pe_var hN hv hd hcd) hi.pe set_list ha) hs hw h1, snd_sto he.sn hi.sn⟩
/-- x.append(e) -/
def appM (j : Nat) (fe : M RV) : SM := fun ps => match ps.sl[j]? with
  | some (.ow _) => (keepM fe ps).bind fun x => match x.2.sl[j]? with
    | some (.ow ds) => if decide (ds.length < sizeLine) then some (.nx (x.2.put j (.ow (ds ++ [x.1])))) else none
    | _ => none
  | _ => none
theorem snd_app {K : Fg} {j : Nat} (he : SndE K te fe) : SndS K (tDrop (tBM K "list" rAppend (tVar j) (tCons te tNil))) (appM j fe) := by
  refine ⟨fun G F ps σ H o D R e q => ?_⟩
  unfold appM at e
  split at e
  · rename_i ds0 ed0
    obtain ⟨⟨d, ps1⟩, e1, e⟩ := Option.bind_eq_some_iff.mp e
    simp only at e
    split at e
    · rename_i ds ed
      split at e
      · rename_i hl
        cases e
        obtain ⟨o1, e4, p, vs0, rfl, hp, _⟩ := R.slots j _ ed0
        refine ⟨.ref p, e4, .inl ⟨rfl, _, SqL.of hp⟩, keepM_go he R e1 fun v F1 H1 P1 r1 => ?_⟩
        obtain ⟨o2, e5, p', vs, eo, h1, h2, h3, h4⟩ := P1.rep.slots j _ ed
        rw [e4] at e5
        cases e5
        cases eo
        have P3 := P1.rep.wr ed e4 (h4.append (.cons r1 .nil))
        exact ⟨p, vs, v, rfl, rfl, h1, by rw [h4.len]; exact of_decide_eq_true hl, q F1 σ _ P3.rep P1.same⟩
      · cases e
    · cases e
  · cases e
theorem ds_app {j : Nat} {x : Str} {px apos cpos : Pos} (hN : X.N[j]? = some x) (hv : Vis X.env.scope x) (he : DE X e te fe)
    (hbase : attributeBase (.Name x px) "append" X.env (eval (.Name x px) X.env) = eval (.Name x px) X.env := by rfl)
    (hfew : ((backTo cpos (starEach (e :: []) X.env)).all (fun z => !z.1) && (backToKw cpos (keywordEach [] X.env)).all (fun z => z.1.isSome) && decide ((e :: []).length + ([] : List Keyword).length + (if ([] : List Keyword).isEmpty then 0 else 1) < 30)) = true := by rfl)
    (hline : (apos.endLine == cpos.line) = true := by rfl) (h1 : starEach [e] X.env = (false, eval e X.env) :: starEach [] X.env := by rfl) (hplain : (backTo cpos (starEach [] X.env)).any (·.1) = false := by rfl)
    (hs : swapsWith (.Call (.Attribute (.Name x px) "append" apos) [e] [] cpos) none pos.line X.env = pure false := by rfl)
    (hd : (x == ("__debug__" : Str)) = false := by decide) (hcd : (x == ("__classdict__" : Str)) = false := by decide) :
    DS X (.Expr (.Call (.Attribute (.Name x px) "append" apos) [e] [] cpos) pos) (tDrop (tBM X.K "list" rAppend (tVar j) (tCons te tNil))) (appM j fe) :=
  ⟨ps_expr (pe_bm PySem.F.plainAttrs_list PySem.F.slot_list_append PySem.F.type_list_append mt_append (pe_var hN hv hd hcd) (pa_cons he.pe pa_nil h1) hbase hfew hline h1 hplain) hs, snd_app he.sn⟩
/-- return -/
def retV (r : RV) (ps : PS) : Option SOut := match r with
  | .im d => some (.rt (.im d) ps)
  | .nw ds => some (.rt (.nw ds) ps)
  | .sl i => match ps.sl[i]? with
    | some (.fr d) => some (.rt (.im d) ps)
    | some (.ow ds) => some (.rt (.nw ds) ps)
    | _ => none
def retM (fe : M RV) : SM := fun ps => (fe ps).bind fun x => retV x.1 x.2
theorem ds_ret (he : DE X e te fe) : DS X (.Return (some e) pos) (tRet te) (retM fe) := by
  refine ⟨ps_ret he.pe, ⟨fun G F ps σ H o D R e q => ?_⟩⟩
  unfold retM at e
  obtain ⟨⟨r, ps1⟩, e1, e⟩ := Option.bind_eq_some_iff.mp e
  refine he.sn.go G F ps σ H r ps1 _ R e1 fun v F1 H1 P1 r1 => ?_
  cases r with
  | im d =>
    cases e
    exact q v F1 σ H1 P1.rep P1.same r1
  | nw ds =>
    cases e
    obtain ⟨p, vs, ev, h1, h2, h3, h4, h5, _⟩ := r1
    exact q v F1 σ H1 P1.rep P1.same ⟨p, vs, ev, h1, h2, h3, h5⟩
  | sl i =>
    have r1 : σ[i]? = some (some v) := r1
    unfold retV at e
    cases z : ps1.sl[i]? with
    | none => simp [z] at e
    | some s =>
      obtain ⟨o, e2, y⟩ := P1.rep.slots i s z
      rw [r1] at e2
      cases e2
      cases s with
      | un => simp [z] at e
      | fr d =>
        simp [z] at e
        subst e
        obtain ⟨v', ev, y⟩ := y
        cases ev
        exact q v F1 σ H1 P1.rep P1.same y
      | ow ds =>
        simp [z] at e
        subst e
        obtain ⟨p, vs, ev, h1, h2, h3, h4⟩ := y
        cases ev
        exact q _ F1 σ H1 P1.rep P1.same ⟨p, vs, rfl, h1, h2, h3, h4⟩
theorem ds_retN : DS X (.Return none pos) tRetN (fun ps => some (.rt (.im .none) ps)) := ⟨ps_retN, ⟨fun G F ps σ H o D R e q => by
  cases e
  exact q _ F σ H R (Same.refl F) (by show Rel _ _ _ _ _; unfold Rel; rfl)⟩⟩
/-- if -/
def iteM (c : M Bool) (f g : SM) : SM := fun ps => (c ps).bind fun x => if x.1 then f x.2 else g x.2
theorem ds_ite {c : Expr} {l1 l2 : List Stmt} {tc : TT} {fc : M Bool} (hc : DT X c tc fc) (h1 : DSs X l1 t f) (h2 : DSs X l2 u g) : DS X (.If c l1 l2 pos) (tIfS tc t u) (iteM fc f g) := by
  refine ⟨ps_if hc.pe h1.pe h2.pe, ⟨fun G F ps σ H o D R e q => ?_⟩⟩
  unfold iteM at e
  obtain ⟨⟨k, ps1⟩, e1, e⟩ := Option.bind_eq_some_iff.mp e
  refine hc.sn.go G F ps σ H k ps1 _ R e1 fun F1 H1 P1 => ?_
  cases k with
  | true =>
    rw [if_pos rfl] at e
    exact iteT (h1.sn.go G F1 ps1 σ H1 o D P1.rep e (q.mono P1.same))
  | false =>
    rw [if_neg Bool.false_ne_true] at e
    exact iteF (h2.sn.go G F1 ps1 σ H1 o D P1.rep e (q.mono P1.same))

/-! ### for, while -/
def forL (tgt : Dat → PS → Option PS) (body : SM) : List Dat → SM
  | [], ps => some (.nx ps)
  | d :: ds, ps => (tgt d ps).bind fun ps1 => (body ps1).bind fun o => match o with
    | .nx q => forL tgt body ds q
    | .ct q => forL tgt body ds q
    | .bk q => some (.nx q)
    | .rt r q => some (.rt r q)
def forSM (fi : M (List Dat)) (tgt : Dat → PS → Option PS) (body : SM) : SM := fun ps => (fi ps).bind fun x => forL tgt body x.1 x.2
theorem snd_for {K : Fg} {wi : TI} {gt : TG} {tb : TS} {fi : M (List Dat)} {tgt : Dat → PS → Option PS} {is : List Nat} {body : SM} (hi : SndI K wi fi) (hg : SndG K gt is tgt) (hb : SndS K tb body) : SndS K (tFor wi gt tb) (forSM fi tgt body) := by
  refine ⟨fun G F ps σ H o D R e q => ?_⟩
  unfold forSM at e
  obtain ⟨⟨ds, ps1⟩, e1, e⟩ := Option.bind_eq_some_iff.mp e
  have e : forL tgt body ds ps1 = some o := e
  refine hi.go G F ps σ H ds ps1 _ R e1 fun J F1 H1 P1 wk => ?_
  refine ⟨fun i m σ H => ∃ F ps, m = ds.length - i ∧ i ≤ ds.length ∧ Rep G K F ps σ H ∧ Same F1 F ∧ forL tgt body (ds.drop i) ps = some o, ⟨ds.length, F1, ps1, by simp, Nat.zero_le _, P1.rep, Same.refl _, e⟩, ?_⟩
  rintro i m σ2 H2 ⟨F2, ps2, rfl, hi', R2, s2, e2⟩
  by_cases hlt : i < ds.length
  · obtain ⟨go, step⟩ := wk.1 i ds[i] (List.getElem?_eq_getElem hlt) F2 ps2 σ2 H2 R2 s2
    rw [List.drop_eq_getElem_cons hlt] at e2
    unfold forL at e2
    obtain ⟨ps3, e3, e2⟩ := Option.bind_eq_some_iff.mp e2
    obtain ⟨o1, e4, e2⟩ := Option.bind_eq_some_iff.mp e2
    refine .inr ⟨go, fun σ' H' => ∃ F ps, Rep G K F ps σ' H' ∧ Same F1 F ∧ forL tgt body (ds.drop (i + 1)) ps = some o, fun σ' H' ⟨F', ps', a, b, c⟩ => ⟨ds.length - (i + 1), by omega, F', ps', rfl, hlt, a, b, c⟩, fun x H3 y => ?_⟩
    obtain ⟨F3, P3, rx⟩ := step x H3 y
    refine hg.go G F3 ps2 σ2 H3 _ x ps3 _ P3.rep rx e3 fun σ4 R4 _ _ _ => ?_
    refine hb.go G F3 ps3 σ4 H3 o1 _ R4 e4 ?_
    have s3 : Same F1 F3 := s2.trans P3.same
    cases o1 with
    | nx q4 => exact fun F' σ' H' R' s => ⟨F', q4, R', s3.trans s, e2⟩
    | ct q4 => exact fun F' σ' H' R' s => ⟨F', q4, R', s3.trans s, e2⟩
    | bk q4 =>
      cases e2
      exact fun F' σ' H' R' s => q F' σ' H' R' ((P1.same.trans s3).trans s)
    | rt r q4 =>
      cases e2
      exact fun v F' σ' H' R' s z => q v F' σ' H' R' ((P1.same.trans s3).trans s) z
  · have ei : i = ds.length := by omega
    subst ei
    rw [List.drop_length] at e2
    cases e2
    exact .inl ⟨wk.2 F2 ps2 σ2 H2 R2 s2, q F2 σ2 H2 R2 (P1.same.trans s2)⟩
theorem ds_for {tg iter : Expr} {body : List Stmt} {wi : TI} {gt : TG} {tb : TS} {fi : M (List Dat)} {tgt : Dat → PS → Option PS} {is : List Nat} {fb : SM} (hp : PassesOwn (model X.prog X.w) X.A X.env X.xe) (hc : X.calm = true) (hi : DI X tg iter wi fi) (hg : DG X tg gt is tgt) (hb : DSs X body tb fb)
    (hs : ∀ x, foldedSetIterable iter X.env x = pure x := by intro _; rfl) : DS X (.For tg iter body [] pos) (tFor wi gt tb) (forSM fi tgt fb) := ⟨ps_for hp hc hi.pe hg.pe hb.pe hs, snd_for hi.sn hg.sn hb.sn⟩
def whileN (c : M Bool) (b : SM) : Nat → SM
  | 0, _ => none
  | n + 1, ps => (c ps).bind fun x => if x.1 then (b x.2).bind fun o => match o with
    | .nx q => whileN c b n q
    | .ct q => whileN c b n q
    | .bk q => some (.nx q)
    | .rt r q => some (.rt r q)
    else some (.nx x.2)
open Classical in
noncomputable def whileM (c : M Bool) (b : SM) : SM := fun ps => if h : ∃ n o, whileN c b n ps = some o then some (Classical.choose (Classical.choose_spec h)) else none
theorem whileN_mono {c : M Bool} {b : SM} : ∀ {n : Nat} {ps : PS} {o : SOut}, whileN c b n ps = some o → whileN c b (n + 1) ps = some o
  | 0, _, _, h => by cases h
  | n + 1, ps, o, h => by
    unfold whileN at h
    unfold whileN
    obtain ⟨⟨k, ps1⟩, e1, h⟩ := Option.bind_eq_some_iff.mp h
    rw [e1]
    show (if k = true then _ else _) = _
    have h : (if k = true then _ else _) = some o := h
    cases k with
    | false =>
      rw [if_neg Bool.false_ne_true] at h ⊢
      exact h
    | true =>
      rw [if_pos rfl] at h ⊢
      obtain ⟨o1, e2, h⟩ := Option.bind_eq_some_iff.mp h
      rw [show b (true, ps1).2 = some o1 from e2]
      cases o1 with
      | nx q => exact whileN_mono h
      | ct q => exact whileN_mono h
      | bk q => exact h
      | rt r q => exact h
theorem whileN_le {c : M Bool} {b : SM} {n m : Nat} {ps : PS} {o : SOut} (h : whileN c b n ps = some o) (l : n ≤ m) : whileN c b m ps = some o := by
  induction l with
  | refl => exact h
  | step _ ih => exact whileN_mono ih
theorem whileM_of {c : M Bool} {b : SM} {n : Nat} {ps : PS} {o : SOut} (h : whileN c b n ps = some o) : whileM c b ps = some o := by
  have hx : ∃ n o, whileN c b n ps = some o := ⟨n, o, h⟩
  unfold whileM
  rw [dif_pos hx]
  have h2 := Classical.choose_spec (Classical.choose_spec hx)
  have a := whileN_le h (Nat.le_max_left n (Classical.choose hx))
  have b' := whileN_le h2 (Nat.le_max_right n (Classical.choose hx))
  rw [a] at b'
  exact b'.symm
theorem whileM_to {c : M Bool} {b : SM} {ps : PS} {o : SOut} (h : whileM c b ps = some o) : ∃ n, whileN c b n ps = some o := by
  unfold whileM at h
  split at h
  · rename_i hx
    have h2 := Classical.choose_spec (Classical.choose_spec hx)
    cases h
    exact ⟨_, h2⟩
  · cases h
/-- one turn -/
theorem whileM_eq {c : M Bool} {b : SM} {ps : PS} : whileM c b ps = (c ps).bind fun x => if x.1 then (b x.2).bind fun o => match o with
    | .nx q => whileM c b q
    | .ct q => whileM c b q
    | .bk q => some (.nx q)
    | .rt r q => some (.rt r q)
    else some (.nx x.2) := by
  have main : ∀ o, whileM c b ps = some o ↔ ((c ps).bind fun x => if x.1 then (b x.2).bind fun o => match o with
    | .nx q => whileM c b q
    | .ct q => whileM c b q
    | .bk q => some (.nx q)
    | .rt r q => some (.rt r q)
    else some (.nx x.2)) = some o := by
    intro o
    constructor
    · intro h
      obtain ⟨n, h⟩ := whileM_to h
      cases n with
      | zero => cases h
      | succ n =>
        unfold whileN at h
        obtain ⟨⟨k, ps1⟩, e1, h⟩ := Option.bind_eq_some_iff.mp h
        rw [e1]
        show (if k = true then _ else _) = _
        have h : (if k = true then _ else _) = some o := h
        cases k with
        | false =>
          rw [if_neg Bool.false_ne_true] at h ⊢
          exact h
        | true =>
          rw [if_pos rfl] at h ⊢
          obtain ⟨o1, e2, h⟩ := Option.bind_eq_some_iff.mp h
          rw [show b (true, ps1).2 = some o1 from e2]
          cases o1 with
          | nx q => exact whileM_of h
          | ct q => exact whileM_of h
          | bk q => exact h
          | rt r q => exact h
    · intro h
      obtain ⟨⟨k, ps1⟩, e1, h⟩ := Option.bind_eq_some_iff.mp h
      have h : (if k = true then _ else _) = some o := h
      cases k with
      | false =>
        rw [if_neg Bool.false_ne_true] at h
        refine whileM_of (n := 1) ?_
        unfold whileN
        rw [e1]
        exact h
      | true =>
        rw [if_pos rfl] at h
        obtain ⟨o1, e2, h⟩ := Option.bind_eq_some_iff.mp h
        have e2 : b ps1 = some o1 := e2
        have fin : ∀ n, (match o1 with
            | .nx q => whileN c b n q
            | .ct q => whileN c b n q
            | .bk q => some (.nx q)
            | .rt r q => some (.rt r q)) = some o → whileM c b ps = some o := fun n hn => by
          refine whileM_of (n := n + 1) ?_
          unfold whileN
          rw [e1, Option.bind_some, if_pos rfl, show b (true, ps1).2 = some o1 from e2]
          exact hn
        cases o1 with
        | nx q =>
          obtain ⟨n, h⟩ := whileM_to h
          exact fin n h
        | ct q =>
          obtain ⟨n, h⟩ := whileM_to h
          exact fin n h
        | bk q => exact fin 0 h
        | rt r q => exact fin 0 h
  cases h : whileM c b ps with
  | some o => exact ((main o).mp h).symm
  | none =>
    cases h2 : ((c ps).bind fun x => if x.1 then (b x.2).bind fun o => match o with
      | .nx q => whileM c b q
      | .ct q => whileM c b q
      | .bk q => some (.nx q)
      | .rt r q => some (.rt r q)
      else some (.nx x.2)) with
    | none => rfl
    | some o =>
      rw [(main o).mpr h2] at h
      cases h
theorem snd_while {K : Fg} {tc : TT} {tb : TS} {fc : M Bool} {body : SM} (hc : SndT K tc fc) (hb : SndS K tb body) : SndS K (tWhile tc tb) (whileM fc body) := by
  refine ⟨fun G F ps σ H o D R e q => ?_⟩
  obtain ⟨n, e⟩ := whileM_to e
  refine ⟨fun m σ H => ∃ F' ps, Rep G K F' ps σ H ∧ Same F F' ∧ whileN fc body m ps = some o, ⟨n, F, ps, R, Same.refl _, e⟩, ?_⟩
  rintro m σ2 H2 ⟨F2, ps2, R2, s2, e2⟩
  cases m with
  | zero => cases e2
  | succ m =>
    unfold whileN at e2
    obtain ⟨⟨k, ps3⟩, e3, e2⟩ := Option.bind_eq_some_iff.mp e2
    have e2 : (if k = true then _ else _) = some o := e2
    refine hc.go G F2 ps2 σ2 H2 k ps3 _ R2 e3 fun F3 H3 P3 => ?_
    have s3 := s2.trans P3.same
    cases k with
    | false =>
      rw [if_neg Bool.false_ne_true] at e2
      cases e2
      exact iteF (q F3 σ2 H3 P3.rep s3)
    | true =>
      rw [if_pos rfl] at e2
      obtain ⟨o1, e4, e2⟩ := Option.bind_eq_some_iff.mp e2
      refine iteT ⟨fun σ' H' => ∃ F' ps, Rep G K F' ps σ' H' ∧ Same F F' ∧ whileN fc body m ps = some o, fun σ' H' ⟨F', ps', a, b, c⟩ => ⟨m, Nat.lt_succ_self m, F', ps', a, b, c⟩, ?_⟩
      refine hb.go G F3 ps3 σ2 H3 o1 _ P3.rep e4 ?_
      cases o1 with
      | nx q4 => exact fun F' σ' H' R' s => ⟨F', q4, R', s3.trans s, e2⟩
      | ct q4 => exact fun F' σ' H' R' s => ⟨F', q4, R', s3.trans s, e2⟩
      | bk q4 =>
        cases e2
        exact fun F' σ' H' R' s => q F' σ' H' R' (s3.trans s)
      | rt r q4 =>
        cases e2
        exact fun v F' σ' H' R' s z => q v F' σ' H' R' (s3.trans s) z
theorem ds_while {c : Expr} {body : List Stmt} {tc : TT} {tb : TS} {fc : M Bool} {fb : SM} (hp : PassesOwn (model X.prog X.w) X.A X.env X.xe) (hc : DT X c tc fc) (hb : DSs X body tb fb) : DS X (.While c body [] pos) (tWhile tc tb) (whileM fc fb) := ⟨ps_while hp hc.pe hb.pe, snd_while hc.sn hb.sn⟩
end

/-! ### a def -/
def bodyFn (n : Nat) (b : SM) : Fn := fun ds dr => (b ⟨ds.map Sl.fr ++ List.replicate (n - ds.length) Sl.un, dr⟩).bind fun o => match o with
  | .rt r ps => some (r, ps.dr)
  | .nx ps => some (.im .none, ps.dr)
  | _ => none
theorem start_rep {G : Ctl} {K : Fg} {N : List Str} {dr : Dr} {ds : List Dat} {vs : List V} (fh : Same G.F0 G.H0) (r : RelL K G.F0 G.T ds vs) (hn : ds.length ≤ N.length) (hd : G.st = true → DrAt G.T G.C G.H0 dr ∧ G.F0 G.T = none ∧ G.F0 G.C = none) (hnd : G.st = false → dr = .no) :
    Rep G K G.F0 ⟨ds.map Sl.fr ++ List.replicate (N.length - ds.length) Sl.un, dr⟩ (start N vs) G.H0 := by
  have hl := r.len
  have noow : ∀ (i : Nat) (s : Sl), (ds.map Sl.fr ++ List.replicate (N.length - ds.length) Sl.un)[i]? = some s → (∃ d, ds[i]? = some d ∧ s = .fr d) ∨ (s = .un ∧ ds.length ≤ i ∧ i < N.length) := fun i s e => by
    by_cases h : i < ds.length
    · rw [List.getElem?_append_left (by simpa using h), List.getElem?_map] at e
      obtain ⟨d, e1, e2⟩ := Option.map_eq_some_iff.mp e
      exact .inl ⟨d, e1, e2.symm⟩
    · rw [List.getElem?_append_right (by simpa using Nat.le_of_not_lt h)] at e
      have h2 := List.mem_of_getElem? e
      rw [List.mem_replicate] at h2
      have h3 := ltOf e
      simp only [List.length_replicate, List.length_map] at h3
      exact .inr ⟨h2.2, Nat.le_of_not_lt h, by omega⟩
  refine ⟨?_, fun i s e => ?_, fun i j di dj p e1 e2 _ _ => ?_, fun h => (hd h).1, fun h => ⟨(hd h).2.1, (hd h).2.2, (hd h).1.T, (hd h).1.C⟩, fh, fun a o e _ => e, fun a _ => rfl, Same.refl _, hnd⟩
  · unfold L2.start
    simp [hl]
  · unfold L2.start
    rcases noow i s e with ⟨d, e1, rfl⟩ | ⟨rfl, h1, h2⟩
    · obtain ⟨v, e2, rv⟩ := r.get e1
      refine ⟨some v, ?_, v, rfl, rv⟩
      rw [List.getElem?_append_left (by simpa using ltOf e2), List.getElem?_map, e2]
      rfl
    · refine ⟨none, ?_, trivial⟩
      rw [List.getElem?_append_right (by simp; omega), List.getElem?_replicate, if_pos (by simp; omega)]
  · rcases noow i _ e1 with ⟨d, _, z⟩ | ⟨z, _⟩
    · cases z
    · cases z
theorem fn_ok {P : Program} {w : World} {K : Fg} {mg : Str → Option Value} {base : Heap} {x qual : Str} {st : Stmt} {f : Addr} {fd : FuncData} {N nms : List Str} {k n : Nat} {b : SM} (F : Fun K x qual st f fd) (S : FnScope N nms (defScope st)) (hn : nms.length = n) (hN : n ≤ N.length)
    (hd : ∀ (cdv : Value) (A : Around) (outer : List Env) (s : Shared) (H : Hp) (E : XK), Room k (A.deeper (envOfC qual (defScope st) s.heap.objs.size f cdv)) →
      ∃ t, DSs (cxOf CX0 P w K mg base N qual (defScope st) f cdv A outer s H E).nox (defBody st) t b) : FnOk P w K mg base CX0 (k + 1) f fd nms (spM K n (bodyFn N.length b)) := by
  refine F.ok S (fun vs H Q E h => ?_) (fun cdv A outer s H vs Q E hr h => ?_)
  · obtain ⟨G, F0, dr, dr', ds, r, hl, _⟩ := h
    rw [hl, hn]
  · obtain ⟨G, F0, dr, dr', ds, r, hl, fh, hd', hnd, rl, e, q⟩ := h
    obtain ⟨t, D⟩ := hd cdv A outer s H E hr
    refine ⟨t, D.pe, ?_⟩
    unfold bodyFn at e
    obtain ⟨o, e1, e⟩ := Option.bind_eq_some_iff.mp e
    have R := start_rep (G := ⟨H, F0, G.T, G.C, G.st⟩) (N := N) fh rl (by rw [← rl.len, hl]; exact hN) hd' hnd
    have fin : ∀ {F' : Hp} {ps' : PS} {σ' : L2.St} {H' : Hp} {r : RV} {v : V}, ps'.dr = dr' → Rep ⟨H, F0, G.T, G.C, G.st⟩ K F' ps' σ' H' → RetOk K F' G.T H H' r v → (∀ v F' H', Same F0 F' → Same F' H' → (∀ a o, H a = some o → ¬ G.ex a → H' a = some o) → (∀ a, H a ≠ none → F' a = F0 a) → (G.st = true → DrAt G.T G.C H' dr') → (G.st = false → dr' = .no) → (∀ a, H' a = none → H a = none) → RetOk K F' G.T H H' r v → Q v H') → Q v H' := fun {F' ps' σ' H' r v} ed R' hr q => by
      refine q v F' H' R'.ff R'.fh (fun a o h1 h2 => R'.kp a o h1 h2) (fun a h => R'.f0 a h) (fun h => by rw [← ed]; exact R'.dr h) (fun h => by rw [← ed]; exact R'.nd h) (fun a h => ?_) hr
      exact R'.h0 h
    refine D.sn.go ⟨H, F0, G.T, G.C, G.st⟩ F0 _ _ H o _ R e1 ?_
    cases o with
    | nx ps' =>
      cases e
      exact fun F' σ' H' R' s => fin rfl R' (show RetOk K F' G.T H H' (.im .none) V.non from (rNon (K := K) (F := F') (T := G.T)).mpr rfl) q
    | rt r' ps' =>
      cases e
      exact fun v F' σ' H' R' s hr => fin rfl R' hr q
    | bk ps' => cases e
    | ct ps' => cases e
end MP

namespace MP
open PySem PySem.Spec PyProof.Rows L2

/-! ### comprehensions -/
def wipeP (vs : List Nat) (ps : PS) : PS := { ps with sl := vs.foldr (fun v l => l.set v Sl.un) ps.sl }
def keepSl : Option Sl → Sl
  | some (.fr d) => .fr d
  | _ => .un
/-- the block's own names as they were -/
def restP (vs : List Nat) (ps0 ps : PS) : PS := { ps with sl := vs.foldr (fun v l => l.set v (keepSl ps0.sl[v]?)) ps.sl }
theorem foldr_set_len {α : Type} (f : Nat → α) (l : List α) : ∀ vs : List Nat, (vs.foldr (fun v l => l.set v (f v)) l).length = l.length
  | [] => rfl
  | v :: vs => by rw [List.foldr_cons, List.length_set, foldr_set_len f l vs]
theorem foldr_set_get {α : Type} (f : Nat → α) (l : List α) (j : Nat) : ∀ vs : List Nat, (vs.foldr (fun v l => l.set v (f v)) l)[j]? = if j ∈ vs ∧ j < l.length then some (f j) else l[j]?
  | [] => by simp
  | v :: vs => by
    rw [List.foldr_cons]
    by_cases e : j = v
    · subst e
      by_cases h : j < l.length
      · rw [List.getElem?_set_self (by rw [foldr_set_len]; exact h), if_pos ⟨by simp, h⟩]
      · rw [if_neg (fun z => h z.2), List.getElem?_eq_none (by rw [List.length_set, foldr_set_len]; omega), List.getElem?_eq_none (by omega)]
    · rw [List.getElem?_set_ne (Ne.symm e), foldr_set_get f l j vs]
      by_cases h : j ∈ vs ∧ j < l.length
      · rw [if_pos h, if_pos ⟨by simp [h.1], h.2⟩]
      · rw [if_neg h, if_neg (fun z => h ⟨by simpa [e] using z.1, z.2⟩)]
theorem wipe_get (σ : L2.St) (j : Nat) : ∀ vs : List Nat, (wipe σ vs)[j]? = if j ∈ vs ∧ j < σ.length then some none else σ[j]?
  | [] => by simp [wipe]
  | v :: vs => by
    unfold wipe
    by_cases e : j = v
    · subst e
      by_cases h : j < σ.length
      · rw [List.getElem?_set_self (by rw [wipe_length]; exact h), if_pos ⟨by simp, h⟩]
      · rw [if_neg (fun z => h z.2), List.getElem?_eq_none (by rw [List.length_set, wipe_length]; omega), List.getElem?_eq_none (by omega)]
    · rw [List.getElem?_set_ne (Ne.symm e), wipe_get σ j vs]
      by_cases h : j ∈ vs ∧ j < σ.length
      · rw [if_pos h, if_pos ⟨by simp [h.1], h.2⟩]
      · rw [if_neg h, if_neg (fun z => h ⟨by simpa [e] using z.1, z.2⟩)]
theorem wipe_eq {σ σ2 : L2.St} {vs : List Nat} (hl : σ2.length = σ.length) (h : ∀ j, j ∉ vs → σ2[j]? = σ[j]?) : wipe σ2 vs = wipe σ vs := by
  apply List.ext_getElem?
  intro j
  rw [wipe_get, wipe_get, hl]
  by_cases hj : j ∈ vs
  · by_cases hl2 : j < σ.length
    · rw [if_pos ⟨hj, hl2⟩, if_pos ⟨hj, hl2⟩]
    · rw [if_neg (fun z => hl2 z.2), if_neg (fun z => hl2 z.2), List.getElem?_eq_none (by omega), List.getElem?_eq_none (by omega)]
  · rw [if_neg (fun z => hj z.1), if_neg (fun z => hj z.1), h j hj]
section
variable {G : Ctl} {K : Fg} {F : Hp} {ps : PS} {σ : L2.St} {H : Hp}
theorem wipeP_get (vs : List Nat) (ps : PS) (j : Nat) : (wipeP vs ps).sl[j]? = if j ∈ vs ∧ j < ps.sl.length then some .un else ps.sl[j]? := foldr_set_get (fun _ => Sl.un) ps.sl j vs
theorem restP_get (vs : List Nat) (ps0 ps : PS) (j : Nat) : (restP vs ps0 ps).sl[j]? = if j ∈ vs ∧ j < ps.sl.length then some (keepSl ps0.sl[j]?) else ps.sl[j]? := foldr_set_get (fun v => keepSl ps0.sl[v]?) ps.sl j vs
theorem own_wipe {vs : List Nat} {p : Addr} (h : Own (wipeP vs ps) (wipe σ vs) p) : Own ps σ p := by
  obtain ⟨i, ds, e1, e2⟩ := h
  rw [wipeP_get] at e1
  split at e1
  · cases e1
  · rename_i hn
    rw [wipe_get] at e2
    split at e2
    · cases e2
    · exact ⟨i, ds, e1, e2⟩
theorem Rep.wipe {vs : List Nat} (R : Rep G K F ps σ H) : Rep G K F (wipeP vs ps) (L2.wipe σ vs) H := by
  refine ⟨?_, fun i s e => ?_, fun i j di dj p e1 e2 h1 h2 => ?_, R.dr, R.ft, R.fh, R.kp, R.f0, R.ff, R.nd⟩
  · rw [wipe_length, R.len]
    exact (foldr_set_len (fun _ => Sl.un) ps.sl vs).symm
  · rw [wipeP_get] at e
    rw [wipe_get, R.len]
    split at e
    · rename_i h
      cases e
      rw [if_pos h]
      exact ⟨none, rfl, trivial⟩
    · rename_i h
      rw [if_neg h]
      exact R.slots i s e
  · rw [wipeP_get] at e1 e2
    split at e1
    · cases e1
    · rename_i n1
      split at e2
      · cases e2
      · rename_i n2
        rw [wipe_get, R.len, if_neg n1] at h1
        rw [wipe_get, R.len, if_neg n2] at h2
        exact R.sep _ _ _ _ _ e1 e2 h1 h2
/-- an object that is nobody's is written -/
theorem Rep.wrFree (R : Rep G K F ps σ H) {p : Addr} {vs vs' : List V} (h1 : H p = some (.lst vs)) (h2 : F p = none) (h3 : G.H0 p = none) (h4 : ¬ Own ps σ p) : Rep G K F ps σ (upd H p (.lst vs')) := by
  refine ⟨R.len, fun i s e => ?_, R.sep, fun h => ?_, R.ft, fun b x e => ?_, fun a o ha hx => ?_, R.f0, R.ff, R.nd⟩
  · obtain ⟨o, e1, q⟩ := R.slots i s e
    refine ⟨o, e1, q.mono (Same.refl F) fun q ws ds es eo a1 a2 a3 => ⟨?_, a2⟩⟩
    rw [upd_ne]
    · exact a1
    · rintro rfl
      exact h4 ⟨i, ds, by rw [← es]; exact e, by rw [e1, eo]⟩
  · refine (R.dr h).keep fun a o ha hx => ?_
    rw [upd_ne]
    · exact ha
    · obtain ⟨_, _, c, d⟩ := R.ft h
      rintro rfl
      rcases hx with rfl | rfl
      · exact c h3
      · exact d h3
  · rw [upd_ne]
    · exact R.fh _ _ e
    · rintro rfl
      rw [h2] at e
      cases e
  · rw [upd_ne]
    · exact R.kp a o ha hx
    · rintro rfl
      rw [h3] at ha
      cases ha
end
/-- p is a list that is nobody's -/
structure Loose (G : Ctl) (F : Hp) (ps : PS) (σ : L2.St) (H : Hp) (p : Addr) (vs : List V) : Prop where
  a : H p = some (.lst vs)
  b : F p = none
  c : G.H0 p = none
  d : ¬ Own ps σ p
theorem Loose.post {G : Ctl} {K : Fg} {F F' : Hp} {ps ps' : PS} {σ : L2.St} {H H' : Hp} {p : Addr} {vs : List V} (l : Loose G F ps σ H p vs) (P : Post G K F ps σ H F' ps' H') : Loose G F' ps' σ H' p vs := by
  obtain ⟨a, b, c⟩ := P.fresh p vs l.a l.b l.c l.d
  exact ⟨a, b, l.c, c⟩

def lcL (vs : List Nat) (tgt : Dat → PS → Option PS) (tst : M Bool) (elt : M RV) : List Dat → List Dat → PS → Option (List Dat × PS)
  | [], acc, ps => some (acc, ps)
  | d :: ds, acc, ps => (tgt d ps).bind fun ps1 => (tst ps1).bind fun x => if x.1 then
      (keepM elt x.2).bind fun y => if decide (acc.length < sizeLine) then lcL vs tgt tst elt ds (acc ++ [y.1]) (wipeP vs y.2) else none
    else lcL vs tgt tst elt ds acc (wipeP vs x.2)
def lcM (vs : List Nat) (fi : M (List Dat)) (tgt : Dat → PS → Option PS) (tst : M Bool) (elt : M RV) : M RV := fun ps =>
  (fi ps).bind fun x => (lcL vs tgt tst elt x.1 [] (wipeP vs x.2)).bind fun y => some (.nw y.1, restP vs x.2 y.2)
/-- a walk, as long as what is nobody's stays so -/
def WlkO (G : Ctl) (K : Fg) (J : It) (ds : List Dat) (F1 : Hp) (ps1 : PS) (σ1 : L2.St) (H1 : Hp) : Prop :=
  (∀ (i : Nat) (d : Dat), ds[i]? = some d → ∀ (F2 : Hp) (ps : PS) (σ : L2.St) (H2 : Hp), Rep G K F2 ps σ H2 → Same F1 F2 → (∀ p ws, Loose G F1 ps1 σ1 H1 p ws → Loose G F2 ps σ H2 p ws) → J.go i H2 ∧ ∀ x H3, J.yld i H2 x H3 → ∃ F3, Post G K F2 ps σ H2 F3 ps H3 ∧ Rel K F3 G.T d x) ∧
  ∀ (F2 : Hp) (ps : PS) (σ : L2.St) (H2 : Hp), Rep G K F2 ps σ H2 → Same F1 F2 → (∀ p ws, Loose G F1 ps1 σ1 H1 p ws → Loose G F2 ps σ H2 p ws) → J.stop ds.length H2
theorem Wlk.toO {G : Ctl} {K : Fg} {J : It} {ds : List Dat} {F1 : Hp} {ps1 : PS} {σ1 : L2.St} {H1 : Hp} (w : Wlk G K J ds F1) : WlkO G K J ds F1 ps1 σ1 H1 :=
  ⟨fun i d e F2 ps σ H2 R s _ => w.1 i d e F2 ps σ H2 R s, fun F2 ps σ H2 R s _ => w.2 F2 ps σ H2 R s⟩
theorem lc_gen {K : Fg} {wi : TI} {gt : TG} {tt : TT} {te : TE} {vs is : List Nat} {tgt : Dat → PS → Option PS} {tst : M Bool} {elt : M RV} (hg : SndG K gt is tgt) (hv : ∀ j ∈ is, j ∈ vs) (ht : SndT K tt tst) (he : SndE K te elt)
    {G : Ctl} {F H : Hp} {ps ps1 psE : PS} {σ : L2.St} {ds out : List Dat} {Q : VK} {C : Hp → Hp → Prop} (R : Rep G K F ps σ H) (hi : ∀ Rr : It → Hp → Prop, (∀ J F' H', C F' H' → Post G K F ps σ H F' ps1 H' → WlkO G K J ds F' ps1 σ H' → Rr J H') → wi σ H Rr)
    (e2 : lcL vs tgt tst elt ds [] (wipeP vs ps1) = some (out, psE))
    (q : ∀ v F1 H1 F' H', C F1 H1 → Post G K F ps σ H F1 ps1 H1 → Post G K F ps σ H F' (restP vs ps1 psE) H' → (∀ p ws, Loose G F1 ps1 σ H1 p ws → Loose G F' (restP vs ps1 psE) σ H' p ws) → RVok G K F' (restP vs ps1 psE) σ H H' (.nw out) v → Q v H') :
    tLc wi gt tt te vs σ H Q := by
  refine hi _ fun J F1 H1 cc P1 wk D hD => ?_
  have R1 := P1.rep
  have hs1 := same_upd (o := .lst []) hD
  have F1D : F1 D = none := R1.fn hD
  have G0D : G.H0 D = none := R1.h0 hD
  refine ⟨fun i m H2 => ∃ F2 ps2 acc accV, m = ds.length - i ∧ i ≤ ds.length ∧ Rep G K F2 ps2 (wipe σ vs) H2 ∧ Same F1 F2 ∧ Loose G F2 ps2 (wipe σ vs) H2 D accV ∧ RelL K F2 G.T acc accV ∧
      lcL vs tgt tst elt (ds.drop i) acc ps2 = some (out, psE) ∧ (∀ p ws, Loose G F1 ps1 σ H1 p ws → Loose G F2 ps2 (wipe σ vs) H2 p ws) ∧ (∀ a, H2 a = none → H1 a = none), ?_, ?_⟩
  · have R2 := (R1.newL (vs := []) hD).rep.wipe (vs := vs)
    refine ⟨ds.length, F1, wipeP vs ps1, [], [], by simp, Nat.zero_le _, R2, Same.refl _, ⟨upd_same, F1D, G0D, fun o => ?_⟩, .nil, e2, fun p ws l => ⟨hs1 _ _ l.a, l.b, l.c, fun o => l.d (own_wipe o)⟩, fun a h => hs1.free h⟩
    · obtain ⟨_, z, _⟩ := R1.ownH (own_wipe o)
      rw [hD] at z
      cases z
  · rintro i m H2 ⟨F2, ps2, acc, accV, rfl, hi', R2, s2, lD, rl, e3, fk, dm⟩
    by_cases hlt : i < ds.length
    · obtain ⟨go, step⟩ := wk.1 i ds[i] (List.getElem?_eq_getElem hlt) F2 ps2 (wipe σ vs) H2 R2 s2 fk
      rw [List.drop_eq_getElem_cons hlt] at e3
      unfold lcL at e3
      obtain ⟨ps3, e4, e3⟩ := Option.bind_eq_some_iff.mp e3
      obtain ⟨⟨b, ps4⟩, e5, e3⟩ := Option.bind_eq_some_iff.mp e3
      have e3 : (if b = true then _ else _) = some (out, psE) := e3
      refine .inr ⟨go, fun H' => ∃ F2 ps2 acc accV, Rep G K F2 ps2 (wipe σ vs) H' ∧ Same F1 F2 ∧ Loose G F2 ps2 (wipe σ vs) H' D accV ∧ RelL K F2 G.T acc accV ∧
        lcL vs tgt tst elt (ds.drop (i + 1)) acc ps2 = some (out, psE) ∧ (∀ p ws, Loose G F1 ps1 σ H1 p ws → Loose G F2 ps2 (wipe σ vs) H' p ws) ∧ (∀ a, H' a = none → H1 a = none), ?_, fun x H3 y => ?_⟩
      · rintro H' ⟨F', ps', acc', accV', a1, a2, a3, a4, a5, a6, a7⟩
        exact ⟨ds.length - (i + 1), by omega, F', ps', acc', accV', rfl, hlt, a1, a2, a3, a4, a5, a6, a7⟩
      · obtain ⟨F3, P3, rx⟩ := step x H3 y
        refine hg.go G F3 ps2 (wipe σ vs) H3 _ x ps3 _ P3.rep rx e4 fun σ4 R4 k4 l4 o4 => ?_
        have hw : wipe σ4 vs = wipe σ vs := by
          have h1 : wipe σ4 vs = wipe (wipe σ vs) vs := wipe_eq l4 fun j hj => k4 j fun z => hj (hv j z)
          rw [h1]
          refine wipe_eq (wipe_length σ vs) fun j hj => ?_
          rw [wipe_get, if_neg (fun z => hj z.1)]
        refine ⟨hw, ?_⟩
        have loose4 : ∀ {p ws}, Loose G F3 ps2 (wipe σ vs) H3 p ws → Loose G F3 ps3 σ4 H3 p ws := fun l => ⟨l.a, l.b, l.c, fun o => l.d (o4 _ o)⟩
        refine ht.go G F3 ps3 σ4 H3 b ps4 _ R4 e5 fun F5 H5 P5 => ?_
        have neD : ∀ {p ws}, Loose G F1 ps1 σ H1 p ws → p ≠ D := fun l z => by
          subst z
          have := l.a
          rw [hD] at this
          cases this
        cases b with
        | true =>
          rw [if_pos rfl] at e3
          obtain ⟨⟨d, ps5⟩, e6, e3⟩ := Option.bind_eq_some_iff.mp e3
          have e3 : (if decide (acc.length < sizeLine) = true then _ else _) = some (out, psE) := e3
          split at e3
          · rename_i hl
            refine iteT (keepM_go he P5.rep e6 fun v F6 H6 P6 r6 => ?_)
            have lD6 := ((loose4 (lD.post P3)).post P5).post P6
            have s6 : Same F2 F6 := (P3.same.trans P5.same).trans P6.same
            refine ⟨accV, lD6.a, by rw [rl.len]; exact of_decide_eq_true hl, F6, wipeP vs ps5, acc ++ [d], accV ++ [v], ?_, s2.trans s6, ⟨upd_same, lD6.b, lD6.c, fun o => ?_⟩, (RelL.mono s6 _ _ rl).append (.cons r6 .nil), e3, fun p ws l => ?_, fun a h => ?_⟩
            · rw [← hw]
              exact (P6.rep.wrFree lD6.a lD6.b lD6.c lD6.d).wipe
            · rw [← hw] at o
              exact lD6.d (own_wipe o)
            · have l6 := ((loose4 ((fk p ws l).post P3)).post P5).post P6
              refine ⟨by rw [upd_ne (neD l)]; exact l6.a, l6.b, l6.c, fun o => ?_⟩
              rw [← hw] at o
              exact l6.d (own_wipe o)
            · by_cases ha : a = D
              · subst ha
                rw [upd_same] at h
                cases h
              · rw [upd_ne ha] at h
                exact dm a (P3.dom a (P5.dom a (P6.dom a h)))
          · cases e3
        | false =>
          rw [if_neg Bool.false_ne_true] at e3
          have lD5 := (loose4 (lD.post P3)).post P5
          have s5 : Same F2 F5 := P3.same.trans P5.same
          refine iteF ⟨F5, wipeP vs ps4, acc, accV, ?_, s2.trans s5, ⟨lD5.a, lD5.b, lD5.c, fun o => ?_⟩, RelL.mono s5 _ _ rl, e3, fun p ws l => ?_, fun a h => dm a (P3.dom a (P5.dom a h))⟩
          · rw [← hw]
            exact P5.rep.wipe
          · rw [← hw] at o
            exact lD5.d (own_wipe o)
          · have l5 := (loose4 ((fk p ws l).post P3)).post P5
            refine ⟨l5.a, l5.b, l5.c, fun o => ?_⟩
            rw [← hw] at o
            exact l5.d (own_wipe o)
    · have ei : i = ds.length := by omega
      subst ei
      rw [List.drop_length] at e3
      cases e3
      refine .inl ⟨wk.2 F2 psE (wipe σ vs) H2 R2 s2 fk, ?_⟩
      have ownB : ∀ p, Own (restP vs ps1 psE) σ p → Own psE (wipe σ vs) p := fun p ⟨j, dj, z1, z2⟩ => by
        rw [restP_get] at z1
        split at z1
        · unfold keepSl at z1
          split at z1 <;> cases z1
        · rename_i hn
          refine ⟨j, dj, z1, ?_⟩
          rw [wipe_get, if_neg]
          · exact z2
          · intro z
            exact hn ⟨z.1, ltOf z1⟩
      have hlen : psE.sl.length = σ.length := by rw [← R2.len, wipe_length]
      have RE : Rep G K F2 (restP vs ps1 psE) σ H2 := by
        refine ⟨?_, fun j s z => ?_, fun a b da db p z1 z2 h1 h2 => ?_, R2.dr, R2.ft, R2.fh, R2.kp, R2.f0, R2.ff, R2.nd⟩
        · rw [← hlen]
          exact (foldr_set_len (fun v => keepSl ps1.sl[v]?) psE.sl vs).symm
        · rw [restP_get] at z
          split at z
          · rename_i hj
            cases z
            have hj1 : j < ps1.sl.length := by rw [← R1.len, ← hlen]; exact hj.2
            obtain ⟨o, y1, y2⟩ := R1.slots j _ (List.getElem?_eq_getElem hj1)
            refine ⟨o, y1, ?_⟩
            rw [List.getElem?_eq_getElem hj1]
            cases hs : ps1.sl[j] with
            | un => trivial
            | ow _ => trivial
            | fr d =>
              rw [hs] at y2
              obtain ⟨v, ev, rv⟩ := y2
              exact ⟨v, ev, Rel.mono s2 _ _ rv⟩
          · rename_i hn
            obtain ⟨o, y1, y2⟩ := R2.slots j s z
            refine ⟨o, ?_, y2⟩
            rw [wipe_get, if_neg] at y1
            · exact y1
            · intro w
              exact hn ⟨w.1, ltOf z⟩
        · have o1 : ∃ d, psE.sl[a]? = some (.ow d) ∧ (wipe σ vs)[a]? = some (some (.ref p)) := by
            rw [restP_get] at z1
            split at z1
            · unfold keepSl at z1
              split at z1 <;> cases z1
            · rename_i hn
              refine ⟨_, z1, ?_⟩
              rw [wipe_get, if_neg]
              · exact h1
              · intro w
                exact hn ⟨w.1, ltOf z1⟩
          have o2 : ∃ d, psE.sl[b]? = some (.ow d) ∧ (wipe σ vs)[b]? = some (some (.ref p)) := by
            rw [restP_get] at z2
            split at z2
            · unfold keepSl at z2
              split at z2 <;> cases z2
            · rename_i hn
              refine ⟨_, z2, ?_⟩
              rw [wipe_get, if_neg]
              · exact h2
              · intro w
                exact hn ⟨w.1, ltOf z2⟩
          obtain ⟨_, w1, w2⟩ := o1
          obtain ⟨_, w3, w4⟩ := o2
          exact R2.sep _ _ _ _ _ w1 w3 w2 w4
      refine q (.ref D) F1 H1 F2 H2 cc P1 ⟨RE, P1.same.trans s2, fun p ws h1 h2 h3 h4 => ?_, fun a h => P1.dom a (dm a h)⟩ (fun p ws l => ⟨(fk p ws l).a, (fk p ws l).b, (fk p ws l).c, fun o => (fk p ws l).d (ownB _ o)⟩) ⟨D, accV, rfl, lD.a, lD.b, lD.c, fun o => lD.d (ownB _ o), rl, P1.dom D hD⟩
      have l1 : Loose G F1 ps1 σ H1 p ws := (Loose.mk h1 h2 h3 h4 : Loose G F ps σ H p ws).post P1
      have l2 := fk p ws l1
      exact ⟨l2.a, l2.b, fun o => l2.d (ownB _ o)⟩
theorem snd_lc {K : Fg} {wi : TI} {gt : TG} {tt : TT} {te : TE} {vs is : List Nat} {fi : M (List Dat)} {tgt : Dat → PS → Option PS} {tst : M Bool} {elt : M RV} (hi : SndI K wi fi) (hg : SndG K gt is tgt) (hv : ∀ j ∈ is, j ∈ vs) (ht : SndT K tt tst) (he : SndE K te elt) :
    SndE K (tLc wi gt tt te vs) (lcM vs fi tgt tst elt) := by
  refine ⟨fun G F ps σ H r ps' Q R e q => ?_⟩
  unfold lcM at e
  obtain ⟨⟨ds, ps1⟩, e1, e⟩ := Option.bind_eq_some_iff.mp e
  obtain ⟨⟨out, psE⟩, e2, e⟩ := Option.bind_eq_some_iff.mp e
  have e2 : lcL vs tgt tst elt ds [] (wipeP vs ps1) = some (out, psE) := e2
  cases e
  exact lc_gen hg hv ht he (C := fun _ _ => True) R (fun Rr k => hi.go G F ps σ H ds ps1 _ R e1 fun J F' H' P wk => k J F' H' trivial P wk.toO) e2 fun v _ _ F' H' _ _ P _ r => q v F' H' P r
/-! ### a comprehension over a list of the frame's own, which stays its own -/
def oList (j : Nat) (ps : PS) : Option (List Dat) := match ps.sl[j]? with
  | some (.ow ds) => some ds
  | _ => none
def isUn (j : Nat) (ps : PS) : Bool := match ps.sl[j]? with
  | some .un => true
  | _ => false
def lcOM (j : Nat) (w : List Dat → List Dat) (vs : List Nat) (tgt : Dat → PS → Option PS) (tst : M Bool) (elt : M RV) : M RV := fun ps =>
  (oList j ps).bind fun ds => (lcL vs tgt tst elt (w ds) [] (wipeP vs (ps.put j .un))).bind fun y => if isUn j (restP vs (ps.put j .un) y.2) then some (.nw y.1, (restP vs (ps.put j .un) y.2).put j (.ow ds)) else none
section
variable {G : Ctl} {K : Fg} {F F' : Hp} {ps : PS} {σ : L2.St} {H H' : Hp}
theorem Rep.unown (R : Rep G K F ps σ H) {j : Nat} : Rep G K F (ps.put j .un) σ H := by
  refine ⟨?_, fun i s e => ?_, fun a b da db p e1 e2 h1 h2 => ?_, R.dr, R.ft, R.fh, R.kp, R.f0, R.ff, R.nd⟩
  · rw [R.len]
    show ps.sl.length = (ps.sl.set j .un).length
    rw [List.length_set]
  · rcases getSet e with ⟨rfl, rfl, hl⟩ | ⟨hj, e⟩
    · have hl : i < ps.sl.length := hl
      exact ⟨σ[i]'(by rw [R.len]; exact hl), List.getElem?_eq_getElem _, trivial⟩
    · exact R.slots i s e
  · rcases getSet e1 with ⟨_, z, _⟩ | ⟨_, e1⟩
    · cases z
    · rcases getSet e2 with ⟨_, z, _⟩ | ⟨_, e2⟩
      · cases z
      · exact R.sep a b da db p e1 e2 h1 h2
theorem Own.unown {j : Nat} {p : Addr} (o : Own (ps.put j .un) σ p) : Own ps σ p ∧ ∃ i ds, i ≠ j ∧ ps.sl[i]? = some (.ow ds) ∧ σ[i]? = some (some (.ref p)) := by
  obtain ⟨i, ds, e1, e2⟩ := o
  rcases getSet e1 with ⟨_, z, _⟩ | ⟨hj, e1⟩
  · cases z
  · exact ⟨⟨i, ds, e1, e2⟩, i, ds, hj, e1, e2⟩
theorem Rep.reown (R : Rep G K F ps σ H) {j : Nat} {ds : List Dat} {p : Addr} {ws : List V} (hj : σ[j]? = some (some (.ref p))) (l : Loose G F ps σ H p ws) (r : RelL K F G.T ds ws) : Rep G K F (ps.put j (.ow ds)) σ H := by
  refine ⟨?_, fun i s e => ?_, fun a b da db p' e1 e2 h1 h2 => ?_, R.dr, R.ft, R.fh, R.kp, R.f0, R.ff, R.nd⟩
  · rw [R.len]
    show ps.sl.length = (ps.sl.set j _).length
    rw [List.length_set]
  · rcases getSet e with ⟨rfl, rfl, hl⟩ | ⟨_, e⟩
    · exact ⟨_, hj, p, ws, rfl, l.a, l.b, l.c, r⟩
    · exact R.slots i s e
  · rcases getSet e1 with ⟨rfl, _, _⟩ | ⟨n1, e1⟩
    · rcases getSet e2 with ⟨rfl, _, _⟩ | ⟨n2, e2⟩
      · rfl
      · rw [hj] at h1
        cases h1
        exact absurd ⟨b, db, e2, h2⟩ l.d
    · have e1' : ps.sl[a]? = some (.ow da) := e1
      rcases getSet e2 with ⟨rfl, _, _⟩ | ⟨n2, e2⟩
      · rw [hj] at h2
        cases h2
        exact absurd ⟨a, da, e1', h1⟩ l.d
      · exact R.sep a b da db p' e1 e2 h1 h2
end
/-- what begins a walk over the own list at slot j -/
structure SndIo (K : Fg) (wi : TI) (j : Nat) (w : List Dat → List Dat) : Prop where
  go : ∀ (G : Ctl) (F : Hp) (ps1 : PS) (σ : L2.St) (H : Hp) (ds : List Dat) (p : Addr) (ws : List V) (R : It → Hp → Prop), Rep G K F ps1 σ H → σ[j]? = some (some (.ref p)) → Loose G F ps1 σ H p ws → RelL K F G.T ds ws →
    (∀ J, WlkO G K J (w ds) F ps1 σ H → R J H) → wi σ H R
theorem snd_lcO {K : Fg} {wi : TI} {gt : TG} {tt : TT} {te : TE} {vs is : List Nat} {j : Nat} {w : List Dat → List Dat} {tgt : Dat → PS → Option PS} {tst : M Bool} {elt : M RV} (hi : SndIo K wi j w) (hg : SndG K gt is tgt) (hv : ∀ j ∈ is, j ∈ vs) (ht : SndT K tt tst) (he : SndE K te elt) :
    SndE K (tLc wi gt tt te vs) (lcOM j w vs tgt tst elt) := by
  refine ⟨fun G F ps σ H r ps' Q R e q => ?_⟩
  unfold lcOM at e
  obtain ⟨ds, e1, e⟩ := Option.bind_eq_some_iff.mp e
  obtain ⟨⟨out, psE⟩, e2, e⟩ := Option.bind_eq_some_iff.mp e
  have e : (if isUn j (restP vs (ps.put j .un) psE) = true then some (RV.nw out, (restP vs (ps.put j .un) psE).put j (.ow ds)) else none) = some (r, ps') := e
  have e2 : lcL vs tgt tst elt (w ds) [] (wipeP vs (ps.put j .un)) = some (out, psE) := e2
  obtain ⟨rfl, rfl⟩ : RV.nw out = r ∧ (restP vs (ps.put j .un) psE).put j (.ow ds) = ps' := by
    by_cases hu : isUn j (restP vs (ps.put j .un) psE) = true
    · rw [if_pos hu] at e
      cases e
      exact ⟨rfl, rfl⟩
    · rw [if_neg hu] at e
      cases e
  have ej : ps.sl[j]? = some (.ow ds) := by
    unfold oList at e1
    cases z : ps.sl[j]? with
    | none => rw [z] at e1; cases e1
    | some s =>
      rw [z] at e1
      cases s with
      | ow d => cases e1; rfl
      | un => cases e1
      | fr d => cases e1
  obtain ⟨o, es, p, ws, eo, h1, h2, h3, h4⟩ := R.slots j _ ej
  subst eo
  have RU : Rep G K F (ps.put j .un) σ H := R.unown
  have lo : Loose G F (ps.put j .un) σ H p ws := ⟨h1, h2, h3, fun o => by
    obtain ⟨_, i, di, hij, e3, e4⟩ := o.unown
    exact hij (R.sep i j _ _ p e3 ej e4 es)⟩
  have PU : Post G K F ps σ H F (ps.put j .un) H := ⟨RU, Same.refl F, fun p vs a b c d => ⟨a, b, fun o => d o.unown.1⟩, fun _ h => h⟩
  refine lc_gen hg hv ht he (C := fun F1 H1 => F1 = F ∧ H1 = H) R (ps1 := ps.put j .un) (fun Rr k => hi.go G F _ σ H ds p ws _ RU es lo h4 fun J wk => k J F H ⟨rfl, rfl⟩ PU wk) e2 fun v F1 H1 F' H' cc P1 P lk r => ?_
  obtain ⟨rfl, rfl⟩ := cc
  have l2 := lk p ws lo
  have pOwn : Own ps σ p := ⟨j, ds, ej, es⟩
  have back : ∀ p', Own ((restP vs (ps.put j .un) psE).put j (.ow ds)) σ p' → p' = p ∨ Own (restP vs (ps.put j .un) psE) σ p' := fun p' ⟨i, di, z1, z2⟩ => by
    rcases getSet z1 with ⟨rfl, _, _⟩ | ⟨_, z1⟩
    · rw [es] at z2
      cases z2
      exact .inl rfl
    · exact .inr ⟨i, di, z1, z2⟩
  refine q v F' H' ⟨P.rep.reown es l2 (RelL.mono P.same _ _ h4), P.same, fun p' vs a b c d => ?_, P.dom⟩ ?_
  · obtain ⟨x, y, z⟩ := P.fresh p' vs a b c d
    refine ⟨x, y, fun o => ?_⟩
    rcases back p' o with rfl | o
    · exact d pOwn
    · exact z o
  · obtain ⟨D, vs', rfl, a, b, c, d, rl, hD⟩ := r
    refine ⟨D, vs', rfl, a, b, c, fun o => ?_, rl, hD⟩
    rcases back D o with rfl | o
    · rw [h1] at hD
      cases hD
    · exact d o
/-- tests of a comprehension -/
structure DTs (X : Cx) (es : List Expr) (t : TT) (f : M Bool) : Prop where
  pe : PTs X es t
  sn : SndT X.K t f

section
variable {X : Cx} {pos spos py : Pos} {elt tg iter : Expr} {ifs : List Expr} {scope : Scope} {own : List (Str × Nat)} {wi : TI} {g : TG} {tt : TT} {te : TE} {is : List Nat} {fi : M (List Dat)} {ft : Dat → PS → Option PS} {ftt : M Bool} {fe : M RV}
theorem dts_nil : DTs X [] tYes (M.ret true) := ⟨pts_nil, ⟨fun G F ps σ H b ps' Q R e q => by
  cases e
  exact q F H (.refl R)⟩⟩
theorem dts_one {c : Expr} {t : TT} {f : M Bool} (h : DT X c t f) : DTs X [c] t f := ⟨pts_one h.pe, h.sn⟩
/-- somewhere there is a block -/
theorem de_lc (hc : X.calm = true) (hN : X.N.Nodup) (hi : DI X tg iter wi fi) (ok : BlkOk X.N X.env.scope scope own)
    (hg : ∀ (s : Shared) (H : Hp) (C : Addr) (cl : List (Str × Addr)) (fp : List Addr), DG (X.blk s H scope (compEnvC scope cl C X.env) fp) tg g is ft) (hv : ∀ j ∈ is, j ∈ own.map (·.2)) (ht : ∀ (s : Shared) (H : Hp) (C : Addr) (cl : List (Str × Addr)) (fp : List Addr), DTs (X.blk s H scope (compEnvC scope cl C X.env) fp) ifs tt ftt)
    (he : ∀ (s : Shared) (H : Hp) (C : Addr) (cl : List (Str × Addr)) (fp : List Addr), DE (X.blk s H scope (compEnvC scope cl C X.env) fp) elt te fe) (hs : ∀ x, foldedSetIterable iter X.env x = pure x := by intro _; rfl) :
    DE X (.ListComp elt [⟨tg, iter, ifs, 0⟩] scope pos) (tLc wi g tt te (own.map (·.2))) (lcM (own.map (·.2)) fi ft ftt fe) :=
  ⟨pe_lc hc hN hi.pe ok (fun s H C cl fp => (hg s H C cl fp).pe) (fun s H C cl fp => (ht s H C cl fp).pe) (fun s H C cl fp => (he s H C cl fp).pe) hs,
    snd_lc hi.sn (hg ⟨X.s_0.heap, X.s_0.gens, X.s_0.drawn, X.s_0.toks, X.s_0.os⟩ X.H_0 0 [] []).sn hv (ht X.s_0 X.H_0 0 [] []).sn (he X.s_0 X.H_0 0 [] []).sn⟩
theorem ds_lc {i : Nat} {y : Str} (hc : X.calm = true) (hN : X.N.Nodup) (hy : X.N[i]? = some y) (hyl : X.env.scope.names.lookup y = some .local)
    (hsw : swapsWith (.ListComp elt [⟨tg, iter, ifs, 0⟩] scope pos) (some (.Name y py)) spos.line X.env = pure true) (hi : DI X tg iter wi fi) (ok : BlkOk X.N X.env.scope scope own)
    (hg : ∀ (s : Shared) (H : Hp) (C : Addr) (cl : List (Str × Addr)) (fp : List Addr), DG (X.blk s H scope (compEnvC scope cl C X.env) fp) tg g is ft) (hv : ∀ j ∈ is, j ∈ own.map (·.2)) (ht : ∀ (s : Shared) (H : Hp) (C : Addr) (cl : List (Str × Addr)) (fp : List Addr), DTs (X.blk s H scope (compEnvC scope cl C X.env) fp) ifs tt ftt)
    (he : ∀ (s : Shared) (H : Hp) (C : Addr) (cl : List (Str × Addr)) (fp : List Addr), DE (X.blk s H scope (compEnvC scope cl C X.env) fp) elt te fe) (hs : ∀ x, foldedSetIterable iter X.env x = pure x := by intro _; rfl) :
    DS X (.Assign [.Name y py] (.ListComp elt [⟨tg, iter, ifs, 0⟩] scope pos) spos) (tAsg (tLc wi g tt te (own.map (·.2))) (gName i)) (setM i (lcM (own.map (·.2)) fi ft ftt fe)) :=
  ⟨ps_setLc hc hN hy hyl hsw hi.pe ok (fun s H C cl fp => (hg s H C cl fp).pe) (fun s H C cl fp => (ht s H C cl fp).pe) (fun s H C cl fp => (he s H C cl fp).pe) hs,
    snd_set (snd_lc hi.sn (hg X.s_0 X.H_0 0 [] []).sn hv (ht X.s_0 X.H_0 0 [] []).sn (he X.s_0 X.H_0 0 [] []).sn)⟩
end
end MP

namespace MP
open PySem PySem.Spec PyProof.Rows L2

/-! ### targets that write -/
structure SndGh (K : Fg) (g : TG) (f : Dat → PS → Option PS) : Prop where
  go : ∀ (G : Ctl) (F : Hp) (ps : PS) (σ : L2.St) (H : Hp) (d : Dat) (v : V) (ps' : PS) (Q : L2.St → Hp → Prop), Rep G K F ps σ H → Rel K F G.T d v → f d ps = some ps' →
    (∀ F' σ' H', Rep G K F' ps' σ' H' → Same F F' → Q σ' H') → g v σ H Q
structure SndGhs (K : Fg) (g : TGs) (f : List Dat → PS → Option PS) : Prop where
  go : ∀ (G : Ctl) (F : Hp) (ps : PS) (σ : L2.St) (H : Hp) (ds : List Dat) (vs : List V) (ps' : PS) (Q : L2.St → Hp → Prop), Rep G K F ps σ H → RelL K F G.T ds vs → f ds ps = some ps' →
    (∀ F' σ' H', Rep G K F' ps' σ' H' → Same F F' → Q σ' H') → g vs σ H Q
structure DGh (X : Cx) (tg : Expr) (g : TG) (f : Dat → PS → Option PS) : Prop where
  pe : PG X tg g
  sn : SndGh X.K g f
structure DGhs (X : Cx) (tgs : List Expr) (g : TGs) (f : List Dat → PS → Option PS) : Prop where
  pe : PGs X tgs g
  sn : SndGhs X.K g f
theorem SndG.h {K : Fg} {g : TG} {is : List Nat} {f : Dat → PS → Option PS} (h : SndG K g is f) : SndGh K g f :=
  ⟨fun G F ps σ H d v ps' Q R r e q => h.go G F ps σ H d v ps' Q R r e fun σ' R' _ _ _ => q F σ' H R' (Same.refl F)⟩
theorem DG.h {X : Cx} {tg : Expr} {g : TG} {is : List Nat} {f : Dat → PS → Option PS} (h : DG X tg g is f) : DGh X tg g f := ⟨h.pe, h.sn.h⟩
theorem snghs_nil {K : Fg} : SndGhs K gNil nilTs :=
  ⟨fun G F ps σ H ds vs ps' Q R r e q => sngs_nil.go G F ps σ H ds vs ps' Q R r e fun σ' R' _ _ _ => q F σ' H R' (Same.refl F)⟩
theorem snghs_cons {K : Fg} {g : TG} {gs : TGs} {f : Dat → PS → Option PS} {fs : List Dat → PS → Option PS} (h : SndGh K g f) (hs : SndGhs K gs fs) : SndGhs K (gCons g gs) (consTs f fs) := by
  refine ⟨fun G F ps σ H ds vs ps' Q R r e q => ?_⟩
  unfold consTs at e
  split at e
  · rename_i d r'
    obtain ⟨ps1, e1, e⟩ := Option.bind_eq_some_iff.mp e
    unfold RelL at r
    obtain ⟨y, ys, rfl, h1, h2⟩ := r
    refine ⟨y, ys, rfl, h.go G F ps σ H d y ps1 _ R h1 e1 fun F1 σ1 H1 R1 s1 => ?_⟩
    exact hs.go G F1 ps1 σ1 H1 r' ys ps' _ R1 (RelL.mono s1 _ _ h2) e fun F2 σ2 H2 R2 s2 => q F2 σ2 H2 R2 (s1.trans s2)
  · cases e
theorem sngh_tup {K : Fg} {n : Nat} {gs : TGs} {fs : List Dat → PS → Option PS} (h : SndGhs K gs fs) : SndGh K (gTL K n gs) (tupT n fs) := by
  refine ⟨fun G F ps σ H d v ps' Q R r e q => ?_⟩
  unfold tupT at e
  split at e
  · rename_i ds
    split at e
    · rename_i hl
      obtain ⟨a, xs, rfl, h1, h2⟩ := rTupE r
      exact .inl ⟨a, xs, rfl, seqT R.fh h1, by rw [h2.len]; exact hl, h.go G F ps σ H ds xs ps' Q R h2 e q⟩
    · cases e
  · rename_i ds
    split at e
    · rename_i hl
      obtain ⟨a, xs, rfl, h1, h2⟩ := rLst.mp r
      exact .inr ⟨a, xs, rfl, SqL.of (R.fh _ _ h1), by rw [h2.len]; exact hl, h.go G F ps σ H ds xs ps' Q R h2 e q⟩
    · cases e
  · split at e
    · rename_i x y hl
      unfold Rel at r
      obtain ⟨a, x', y', rfl, h1, h2, h3⟩ := r
      exact .inl ⟨a, [x', y'], rfl, seqT R.fh h1, hl, h.go G F ps σ H [x, y] [x', y'] ps' Q R (.cons h2 (.cons h3 .nil)) e q⟩
    · cases e
  · cases e
/-- x[i] as a target -/
def subT (j : Nat) (fi : M RV) (d : Dat) (ps : PS) : Option PS := match ps.sl[j]? with
  | some (.ow _) => (keepM fi ps).bind fun y => match y.1, y.2.sl[j]? with
    | .int k, some (.ow ds) => (ixN ds.length k).bind fun n => some (y.2.put j (.ow (ds.set n d)))
    | _, _ => none
  | _ => none
theorem sngh_sub {K : Fg} {ti : TE} {fi : M RV} {j : Nat} (hi : SndE K ti fi) : SndGh K (gSub (tVar j) ti rSetL) (subT j fi) := by
  refine ⟨fun G F ps σ H d v ps' Q R r e q => ?_⟩
  unfold subT at e
  split at e
  · rename_i ds0 ed0
    obtain ⟨⟨di, ps2⟩, e2, e⟩ := Option.bind_eq_some_iff.mp e
    simp only at e
    split at e
    · rename_i k ds ed
      obtain ⟨n, e3, e⟩ := Option.bind_eq_some_iff.mp e
      cases e
      obtain ⟨o1, e4, p, vs0, rfl, _⟩ := R.slots j _ ed0
      refine ⟨.ref p, e4, keepM_go hi R e2 fun w F2 H2 P2 r2 => ?_⟩
      obtain ⟨o2, e5, p', vs, eo, h1, h2, h3, h4⟩ := P2.rep.slots j _ ed
      rw [e4] at e5
      cases e5
      cases eo
      have P3 := P2.rep.wr ed e4 (h4.set n (Rel.mono P2.same _ _ r))
      exact ⟨p, vs, k, n, rfl, rInt.mp r2, h1, by rw [h4.len]; exact e3, q F2 σ _ P3.rep P2.same⟩
    · cases e
  · cases e
section
variable {X : Cx} {pos : Pos} {e : Expr} {te : TE} {fe : M RV}
theorem dghs_nil : DGhs X [] gNil nilTs := ⟨pgs_nil, snghs_nil⟩
theorem dghs_cons {e : Expr} {es : List Expr} {g : TG} {gs : TGs} {f : Dat → PS → Option PS} {fs : List Dat → PS → Option PS} (h : DGh X e g f) (hs : DGhs X es gs fs)
    (hq : (assignEach (e :: es) X.env).map (·.2) = assign e X.env :: (assignEach es X.env).map (·.2) := by rfl) : DGhs X (e :: es) (gCons g gs) (consTs f fs) := ⟨pgs_cons h.pe hs.pe hq, snghs_cons h.sn hs.sn⟩
theorem dgh_tup {es : List Expr} {k : Nat} {gs : TGs} {fs : List Dat → PS → Option PS} {n : Nat} (hc : X.calm = true) (h : DGhs X es gs fs)
    (hn : (assignEach es X.env).length = n := by rfl) (hst : (assignEach es X.env).findIdx? (·.1) = none := by rfl) : DGh X (.Tuple es k pos) (gTL X.K n gs) (tupT n fs) := ⟨pg_tl hc h.pe hn hst, sngh_tup h.sn⟩
theorem dgh_sub {j : Nat} {x : Str} {i : Expr} {ti : TE} {fi : M RV} {px : Pos} (hN : X.N[j]? = some x) (hv : Vis X.env.scope x) (hi : DE X i ti fi)
    (ha : ∀ v, assign (.Subscript (.Name x px) i pos) X.env v = (holding [v] (eval (.Name x px) X.env) >>= fun ov => holding [v, ov] (eval i X.env) >>= fun iv => standAt pos >>= fun _ => holding [v, ov, iv] (setItem ov iv v) >>= fun _ => release [v, ov, iv] []) := by intro _; rfl)
    (hd : (x == ("__debug__" : Str)) = false := by decide) (hcd : (x == ("__classdict__" : Str)) = false := by decide) : DGh X (.Subscript (.Name x px) i pos) (gSub (tVar j) ti rSetL) (subT j fi) := ⟨pg_sub (pe_var hN hv hd hcd) hi.pe set_list ha, sngh_sub hi.sn⟩
theorem ds_asgH {tg : Expr} {g : TG} {ft : Dat → PS → Option PS} (he : DE X e te fe) (hg : DGh X tg g ft) (hs : swapsWithSole [tg] e pos.line X.env = pure false := by rfl) (hw : swappedStores [tg] e X.env = pure none := by rfl)
    (h1 : (assignEach [tg] X.env).map (·.2) = [assign tg X.env] := by rfl) : DS X (.Assign [tg] e pos) (tAsg te g) (asgM ft fe) := by
  refine ⟨ps_asg he.pe hg.pe hs hw h1, ⟨fun G F ps σ H o D R e q => ?_⟩⟩
  unfold asgM at e
  obtain ⟨⟨d, ps1⟩, e1, e⟩ := Option.bind_eq_some_iff.mp e
  obtain ⟨ps2, e2, e⟩ := Option.bind_eq_some_iff.mp e
  cases e
  refine keepM_go he.sn R e1 fun v F1 H1 P1 r1 => ?_
  exact hg.sn.go G F1 ps1 σ H1 d v ps2 _ P1.rep r1 e2 fun F' σ' H' R' s => q F' σ' H' R' (P1.same.trans s)

/-! ### methods of lists at a name -/
def popM (j : Nat) (fe : M RV) : M RV := fun ps => match ps.sl[j]? with
  | some (.ow _) => (keepM fe ps).bind fun x => match x.1, x.2.sl[j]? with
    | .int i, some (.ow ds) => if b62 i then (seqIndex? i ds.length).bind fun k => ds[k]?.bind fun y => some (.im y, x.2.put j (.ow (ds.eraseIdx k))) else none
    | _, _ => none
  | _ => none
theorem snd_pop {K : Fg} {j : Nat} (he : SndE K te fe) : SndE K (tBM K "list" rPopAt (tVar j) (tCons te tNil)) (popM j fe) := by
  refine ⟨fun G F ps σ H r ps' Q R e q => ?_⟩
  unfold popM at e
  split at e
  · rename_i ds0 ed0
    obtain ⟨⟨d, ps1⟩, e1, e⟩ := Option.bind_eq_some_iff.mp e
    simp only at e
    split at e
    · rename_i i ds ed
      split at e
      · rename_i hb
        obtain ⟨k, e2, e⟩ := Option.bind_eq_some_iff.mp e
        obtain ⟨y, e3, e⟩ := Option.bind_eq_some_iff.mp e
        cases e
        obtain ⟨o1, e4, p, vs0, rfl, hp, _⟩ := R.slots j _ ed0
        refine ⟨.ref p, e4, .inl ⟨rfl, _, SqL.of hp⟩, keepM_go he R e1 fun v F1 H1 P1 r1 => ?_⟩
        obtain ⟨o2, e5, p', vs, eo, h1, h2, h3, h4⟩ := P1.rep.slots j _ ed
        rw [e4] at e5
        cases e5
        cases eo
        obtain ⟨w, e6, rw6⟩ := h4.get e3
        have P3 := P1.rep.wr ed e4 (h4.eraseIdx k)
        exact ⟨p, vs, i, k, w, rfl, by rw [rInt.mp r1], h1, (b62_63 hb).1, (b62_63 hb).2, by rw [h4.len]; exact e2, e6, q w F1 _ (P1.trans P3) rw6⟩
      · cases e
    · cases e
  · cases e
theorem de_pop {j : Nat} {x : Str} {px apos cpos : Pos} (hN : X.N[j]? = some x) (hv : Vis X.env.scope x) (he : DE X e te fe)
    (hbase : attributeBase (.Name x px) "pop" X.env (eval (.Name x px) X.env) = eval (.Name x px) X.env := by rfl)
    (hfew : ((backTo cpos (starEach (e :: []) X.env)).all (fun z => !z.1) && (backToKw cpos (keywordEach [] X.env)).all (fun z => z.1.isSome) && decide ((e :: []).length + ([] : List Keyword).length + (if ([] : List Keyword).isEmpty then 0 else 1) < 30)) = true := by rfl)
    (hline : (apos.endLine == cpos.line) = true := by rfl) (h1 : starEach [e] X.env = (false, eval e X.env) :: starEach [] X.env := by rfl) (hplain : (backTo cpos (starEach [] X.env)).any (·.1) = false := by rfl)
    (hd : (x == ("__debug__" : Str)) = false := by decide) (hcd : (x == ("__classdict__" : Str)) = false := by decide) :
    DE X (.Call (.Attribute (.Name x px) "pop" apos) [e] [] cpos) (tBM X.K "list" rPopAt (tVar j) (tCons te tNil)) (popM j fe) :=
  ⟨pe_bm PySem.F.plainAttrs_list PySem.F.slot_list_pop PySem.F.type_list_pop mt_popAt (pe_var hN hv hd hcd) (pa_cons he.pe pa_nil h1) hbase hfew hline h1 hplain, snd_pop he.sn⟩
def popL (j : Nat) : M RV := fun ps => match ps.sl[j]? with
  | some (.ow ds) => ds[ds.length - 1]?.bind fun y => some (.im y, ps.put j (.ow ds.dropLast))
  | _ => none
theorem dropLast_rel {K : Fg} {F : Hp} {T : Addr} {ds : List Dat} {vs : List V} (h : RelL K F T ds vs) : RelL K F T ds.dropLast vs.dropLast := by
  rw [List.dropLast_eq_take, List.dropLast_eq_take, h.len]
  exact h.take _
theorem snd_popL {K : Fg} {j : Nat} : SndE K (tBM0 K "list" rPop (tVar j)) (popL j) := by
  refine ⟨fun G F ps σ H r ps' Q R e q => ?_⟩
  unfold popL at e
  split at e
  · rename_i ds ed
    obtain ⟨y, e3, e⟩ := Option.bind_eq_some_iff.mp e
    cases e
    obtain ⟨o1, e4, p, vs, rfl, h1, h2, h3, h4⟩ := R.slots j _ ed
    obtain ⟨w, e6, rw6⟩ := h4.get e3
    have P3 := R.wr ed e4 (dropLast_rel h4)
    exact ⟨.ref p, e4, .inl ⟨rfl, _, SqL.of h1⟩, p, vs, w, rfl, rfl, h1, by rw [h4.len]; exact e6, q w F _ P3 rw6⟩
  · cases e

/-! ### is, of truth values -/
def isBD : Dat → Dat → Option RV
  | .bool a, .bool b => some (.im (.bool (decide (a = b))))
  | _, _ => none
theorem isBD_ok {K : Fg} : OpSnd K rIsB isBD := by
  intro G F ps σ H x y d e out Q R hx hy hg q
  unfold isBD at hg
  split at hg
  · cases hg
    rw [bBl hx, bBl hy]
    exact ⟨_, _, rfl, rfl, out_im R (by unfold Rel; rfl) q⟩
  · cases hg
def notBD : Dat → Dat → Option RV
  | .bool a, .bool b => some (.im (.bool (!decide (a = b))))
  | _, _ => none
theorem notBD_ok {K : Fg} : OpSnd K rNotB notBD := by
  intro G F ps σ H x y d e out Q R hx hy hg q
  unfold notBD at hg
  split at hg
  · cases hg
    rw [bBl hx, bBl hy]
    exact ⟨_, _, rfl, rfl, out_im R (by unfold Rel; rfl) q⟩
  · cases hg

/-! ### xs[::-1] -/
def revD : Dat → Option RV
  | .list ds => some (.nw ds.reverse)
  | _ => none
theorem de_revL {k : Nat} {p1 p2 p3 : Pos} (he : DE X e te fe) : DE X (.Subscript e (.Slice none none (some (.UnaryOp .USub (.Constant (.int 1) k p1) p2)) p3) pos) (tRevL X.K te) (unM revD fe) := by
  refine ⟨pe_revL he.pe, ⟨fun G F ps σ H out ps' Q R e q => ?_⟩⟩
  unfold unM at e
  obtain ⟨⟨ra, ps1⟩, e1, e⟩ := Option.bind_eq_some_iff.mp e
  obtain ⟨d, e3, e⟩ := Option.bind_eq_some_iff.mp e
  obtain ⟨out', e5, e⟩ := Option.bind_eq_some_iff.mp e
  cases e
  refine he.sn.go G F ps σ H ra ps1 _ R e1 fun x F1 H1 P1 r1 => ?_
  have b := brw_ok P1.rep r1 e3
  unfold revD at e5
  split at e5
  · cases e5
    obtain ⟨a, xs, rfl, h1, h2⟩ := bLst b
    exact ⟨a, xs, rfl, SqL.of h1, out_nw P1.rep h2.reverse fun v F' H' P3 r3 => q v F' H' (P1.trans P3) (r3.back P1.dom)⟩
  · cases e5

/-! ### sorted, of ints -/
def isort (ns : List Int) : List Int := ns.mergeSort (fun a b => decide (a ≤ b))
theorem isort_perm (ns : List Int) : (isort ns).Perm ns := List.mergeSort_perm ns _
theorem isort_sorted (ns : List Int) : (isort ns).Pairwise (· ≤ ·) := by
  have h := List.pairwise_mergeSort (le := fun a b : Int => decide (a ≤ b)) (fun a b c h1 h2 => by simp only [decide_eq_true_eq] at *; omega) (fun a b => by simp only [Bool.or_eq_true, decide_eq_true_eq]; omega) ns
  exact h.imp fun {a b} h => of_decide_eq_true h
theorem isort_uniq {ns ms : List Int} (h : ms.Perm ns) (s : ms.Pairwise (· ≤ ·)) : ms = isort ns :=
  List.Perm.eq_of_pairwise (le := (· ≤ ·)) (fun a b _ _ h1 h2 => Int.le_antisymm h1 h2) s (isort_sorted ns) (h.trans (isort_perm ns).symm)
def sortD : Dat → Option RV
  | .list ds => (ints? ds).bind fun ns => some (.nw ((isort ns).map PyData.int))
  | _ => none
theorem sortD_ok {K : Fg} : C1Snd K (rSortedI K) sortD := by
  intro G F ps σ H x d out Q R hx hg q
  unfold sortD at hg
  split at hg
  · obtain ⟨ns, e1, hg⟩ := Option.bind_eq_some_iff.mp hg
    cases hg
    obtain ⟨a, vs, rfl, h1, h2⟩ := bLst hx
    rw [ints_rel e1 h2] at h1
    refine ⟨a, ns, rfl, SqL.of h1, fun ms p hp hs hn => ?_⟩
    rw [isort_uniq hp hs]
    exact out_nw R (ints_relL (isort ns)) q p hn
  · cases hg

/-! ### isinstance -/
inductive Ty6 where
  | list | tuple | bool | int | str | none
  deriving DecidableEq
def Ty6.nm : Ty6 → String
  | .list => "list" | .tuple => "tuple" | .bool => "bool" | .int => "int" | .str => "str" | .none => "NoneType"
def tyD : Dat → Option Ty6
  | .none => some .none | .bool _ => some .bool | .int _ => some .int | .str _ => some .str | .list _ => some .list | .tuple _ => some .tuple | .dict _ => none
def isTy (a b : Ty6) : Bool := decide (a = b) || (decide (a = .bool) && decide (b = .int))
theorem kit_all (a b : Ty6) (h : b ≠ .none) : kitB a.nm b.nm = some (isTy a b) := by
  cases a <;> cases b <;> first
    | (exact absurd rfl h)
    | decide +kernel
theorem tyX_of {K : Fg} {H : Hp} {T : Addr} {d : Dat} {v : V} {t : Ty6} (h : Rel K H T d v) (e : tyD d = some t) : TyX K H v (.type t.nm) := by
  cases d with
  | none => cases e; rw [rNon.mp h]; exact .base .non
  | bool b => cases e; rw [rBl.mp h]; exact .base (.bl b)
  | int b => cases e; rw [rInt.mp h]; exact .base (.int b)
  | str b => cases e; rw [rStr.mp h]; exact .base (.str b)
  | list ds =>
    cases e
    obtain ⟨a, xs, rfl, h1, _⟩ := rLst.mp h
    exact .base (.lst h1)
  | tuple ds =>
    cases e
    obtain ⟨a, xs, rfl, h1, _⟩ := rTupE h
    rcases h1 with (h1 | ⟨o, h1⟩) | ⟨o, its, n, h1, h2, _⟩
    · exact .base (.tup h1)
    · exact .fTuple h1
    · exact .kTuple h1 h2
  | dict _ => cases e
def isiD (T : Ty6) (d : Dat) : Option RV := (tyD d).bind fun t => some (.im (.bool (isTy t T)))
theorem de_isi {a : Expr} {ta : TE} {fa : M RV} {p p2 : Pos} {T : Ty6} {x : Str} (hT : T ≠ .none) (hgl : Gl X "isinstance") (hm : X.mg "isinstance" = none) (hg2 : Gl X x) (hm2 : X.mg x = none) (hx : x = T.nm) (hv2 : bootBuiltins x = some (.type T.nm)) (ha : DE X a ta fa)
    (hn2 : x ≠ "__name__" := by decide) (hd2 : (x == ("__debug__" : Str)) = false := by decide)
    (he : starEach [a, .Name x p2] X.env = (false, eval a X.env) :: starEach [.Name x p2] X.env := by rfl) (he2 : starEach [.Name x p2] X.env = (false, eval (.Name x p2) X.env) :: starEach [] X.env := by rfl) (hp : (backTo pos (starEach [.Name x p2] X.env)).any (·.1) = false := by rfl) :
    DE X (.Call (.Name "isinstance" p) [a, .Name x p2] [] pos) (tCB (rIsi X.K) (tCons ta (tCons (tC (.ty T.nm)) tNil))) (unM (isiD T) fa) := by
  refine ⟨pe_callB call_isi hgl hm (by decide +kernel) (pa_cons ha.pe (pa_cons (pe_bltn (v := .ty T.nm) hg2 hm2 hv2 rfl hn2 hd2) pa_nil he2) he) (by decide) (by decide) he hp, ⟨fun G F ps σ H out ps' Q R e q => ?_⟩⟩
  unfold unM at e
  obtain ⟨⟨ra, ps1⟩, e1, e⟩ := Option.bind_eq_some_iff.mp e
  obtain ⟨d, e3, e⟩ := Option.bind_eq_some_iff.mp e
  obtain ⟨out', e5, e⟩ := Option.bind_eq_some_iff.mp e
  cases e
  refine ha.sn.go G F ps σ H ra ps1 _ R e1 fun x F1 H1 P1 r1 => ?_
  have b := (brw_ok P1.rep r1 e3).rel P1.rep.fh
  unfold isiD at e5
  obtain ⟨t, e6, e5⟩ := Option.bind_eq_some_iff.mp e5
  cases e5
  exact ⟨x, _, _, _, _, rfl, .ty _, tyX_of b e6, kit_ty (kit_all t T hT), q _ F1 H1 P1 (show Rel _ _ _ _ _ by unfold Rel; rfl)⟩
/-- an int that the module keeps -/
theorem de_globI {x : Str} {i : Int} {tk : Tok} {p : Pos} (hg : Gl X x) (hm : X.mg x = some (.int i tk)) (hd : (x == ("__debug__" : Str)) = false := by decide) : DE X (.Name x p) (tC (.int i)) (kst (.int i)) :=
  ⟨pe_glob hg hm ⟨_, rfl⟩ hd, snd_kst fun _ _ => by unfold Rel; rfl⟩
end
end MP

namespace MP
open PySem PySem.Spec PyProof.Rows L2

/-- an expression as a statement -/
def exprM (fe : M RV) : SM := fun ps => (fe ps).bind fun x => some (.nx x.2)
theorem ds_expr {X : Cx} {e : Expr} {te : TE} {fe : M RV} {pos : Pos} (he : DE X e te fe) (hs : swapsWith e none pos.line X.env = pure false := by rfl) : DS X (.Expr e pos) (tDrop te) (exprM fe) := by
  refine ⟨ps_expr he.pe hs, ⟨fun G F ps σ H o D R e q => ?_⟩⟩
  unfold exprM at e
  obtain ⟨⟨r, ps1⟩, e1, e⟩ := Option.bind_eq_some_iff.mp e
  cases e
  exact he.sn.go G F ps σ H r ps1 _ R e1 fun v F1 H1 P1 r1 => q F1 σ H1 P1.rep P1.same

/-! ### the law's draws, the first sort -/
def drawA : Fn := fun ds dr => match ds, dr with
  | [.dict [], .int many], .A cells seed => if decide (many ≠ 0) && decide (many.natAbs < 1073741824) then
      (match cells.dropWhile (· == 0) with
        | v :: r => some (.im (.int (v.fmod many)), .A (v.fdiv many :: r) seed)
        | [] => some (.im (.int ((((seed * 48271 + 12345).fmod 2147483647).fdiv 64).fmod many)), .A [] ((seed * 48271 + 12345).fmod 2147483647)))
    else none
  | _, _ => none
/-- what the law's state is made of -/
def seedA : List Int → Int → Int
  | [], s => s
  | c :: r, s => seedA r ((s * 31 + c).fmod 1000003)
def stateA (ns : List Int) : Dr := .A (ns.map fun c => if c < 0 then -c else c) (seedA ns 7 + 1)

theorem upd_self {H : Hp} {a : Addr} {o : HO} (h : H a = some o) : upd H a o = H := by
  funext b
  by_cases e : b = a
  · subst e
    rw [upd_same, h]
  · rw [upd_ne e]
theorem upd_comm {H : Hp} {a b : Addr} {o u : HO} (n : a ≠ b) : upd (upd H a o) b u = upd (upd H b u) a o := by
  funext c
  by_cases ea : c = a
  · subst ea
    rw [upd_ne n, upd_same, upd_same]
  · by_cases eb : c = b
    · subst eb
      rw [upd_same, upd_ne ea, upd_same]
    · rw [upd_ne eb, upd_ne ea, upd_ne ea, upd_ne eb]
theorem dropW_cons {v : Int} {r : List Int} : (v :: r).dropWhile (· == 0) = if v = 0 then r.dropWhile (· == 0) else v :: r := by
  rw [List.dropWhile_cons]
  by_cases h : v = 0 <;> simp [h]
/-- behind a draw -/
theorem draw_end {K : Fg} {G : Ctl} {F H H' : Hp} {Q : VK} {cs cs' : List Int} {seed seed' : Int} {r : Int} (st : G.st = true) (fh : Same F H) (ft : F G.T = none ∧ F G.C = none) (da : DrAt G.T G.C H (.A cs seed)) (eH : H' = upd (upd H G.C (.lst (cs'.map V.int))) G.T (.lst [.ref G.C, .int seed']))
    (q : ∀ v F' H', Same F F' → Same F' H' → (∀ a o, H a = some o → ¬ G.ex a → H' a = some o) → (∀ a, H a ≠ none → F' a = F a) → (G.st = true → DrAt G.T G.C H' (.A cs' seed')) → (G.st = false → Dr.A cs' seed' = .no) → (∀ a, H' a = none → H a = none) → RetOk K F' G.T H H' (.im (.int r)) v → Q v H') : Q (.int r) H' := by
  obtain ⟨tc, h1, h2⟩ := da
  subst eH
  refine q _ F _ (Same.refl F) (fun b x e => ?_) (fun a o e nx => ?_) (fun _ _ => rfl) (fun _ => ⟨tc, upd_same, by rw [upd_ne tc.symm, upd_same]⟩) (fun h => by rw [st] at h; cases h) (fun a h => ?_) (show RetOk K F G.T H _ (.im (.int r)) (V.int r) from (rInt (K := K) (F := F) (T := G.T)).mpr rfl)
  · have b1 : b ≠ G.T := by rintro rfl; rw [ft.1] at e; cases e
    have b2 : b ≠ G.C := by rintro rfl; rw [ft.2] at e; cases e
    rw [upd_ne b1, upd_ne b2]
    exact fh _ _ e
  · have b1 : a ≠ G.T := fun z => nx ⟨st, .inl z⟩
    have b2 : a ≠ G.C := fun z => nx ⟨st, .inr z⟩
    rw [upd_ne b1, upd_ne b2]
    exact e
  · by_cases b1 : a = G.T
    · subst b1; rw [upd_same] at h; cases h
    · by_cases b2 : a = G.C
      · subst b2; rw [upd_ne b1, upd_same] at h; cases h
      · rwa [upd_ne b1, upd_ne b2] at h

/-! ### the law's helpers -/
def spState (K : Fg) : Sp := fun vs H Q _ => ∃ (a : Addr) (ns : List Int), vs = [.ref a] ∧ SqL K H a (ns.map V.int) ∧ ns.length ≤ 63 ∧ ∀ p c H', DrAt p c H' (stateA ns) → Q (.ref p) H'
def spLaw (K : Fg) : Sp := fun vs H Q _ => ∃ (a : Addr) (ns : List Int), vs = [.ref a] ∧ SqL K H a (ns.map V.int) ∧ ns.length ≤ 63 ∧ ∀ H', Q (.bl true) H'
theorem seedA_snoc : ∀ (ns : List Int) (c s : Int), seedA (ns ++ [c]) s = (seedA ns s * 31 + c).fmod 1000003
  | [], c, s => rfl
  | n :: ns, c, s => seedA_snoc ns c _
theorem take_snoc {α : Type} {l : List α} {i : Nat} {x : α} (h : l[i]? = some x) : l.take (i + 1) = l.take i ++ [x] := by
  rw [List.take_add_one, h]
  rfl
theorem mapInt_get {ns : List Int} {i : Nat} {x : V} (h : (ns.map V.int)[i]? = some x) : ∃ c, ns[i]? = some c ∧ x = V.int c := by
  rw [List.getElem?_map] at h
  obtain ⟨c, h1, h2⟩ := Option.map_eq_some_iff.mp h
  exact ⟨c, h1, h2.symm⟩
theorem draw_args {ds : List Dat} {dr dr' : Dr} {r : RV} (e : drawA ds dr = some (r, dr')) : ∃ (many : Int) (cs : List Int) (seed : Int), ds = [.dict [], .int many] ∧ dr = .A cs seed ∧ (many ≠ 0 ∧ many.natAbs < 1073741824) := by
  unfold drawA at e
  split at e
  · split at e
    · rename_i h
      simp only [Bool.and_eq_true, decide_eq_true_eq] at h
      exact ⟨_, _, _, rfl, rfl, h⟩
    · cases e
  · cases e
theorem draw_nil {many seed : Int} {cs : List Int} {r : RV} {dr' : Dr} (hm : many ≠ 0 ∧ many.natAbs < 1073741824) (hc : cs.dropWhile (· == 0) = []) (e : drawA [.dict [], .int many] (.A cs seed) = some (r, dr')) :
    r = .im (.int ((((seed * 48271 + 12345).fmod 2147483647).fdiv 64).fmod many)) ∧ dr' = .A [] ((seed * 48271 + 12345).fmod 2147483647) := by
  unfold drawA at e
  simp only [hm.1, hm.2, ne_eq, not_false_eq_true, decide_true, Bool.and_self, if_true, hc] at e
  cases e
  exact ⟨rfl, rfl⟩
theorem draw_cons {many seed v : Int} {cs l : List Int} {r : RV} {dr' : Dr} (hm : many ≠ 0 ∧ many.natAbs < 1073741824) (hc : cs.dropWhile (· == 0) = v :: l) (e : drawA [.dict [], .int many] (.A cs seed) = some (r, dr')) :
    r = .im (.int (v.fmod many)) ∧ dr' = .A (v.fdiv many :: l) seed := by
  unfold drawA at e
  simp only [hm.1, hm.2, ne_eq, not_false_eq_true, decide_true, Bool.and_self, if_true, hc] at e
  cases e
  exact ⟨rfl, rfl⟩
theorem draw_vals {K : Fg} {F : Hp} {T : Addr} {many : Int} {vs : List V} (h : RelL K F T [.dict [], .int many] vs) : vs = [.ref T, .int many] := by
  unfold RelL at h
  obtain ⟨y, ys, rfl, h1, h2⟩ := h
  unfold RelL at h2
  obtain ⟨z, zs, rfl, h3, h4⟩ := h2
  unfold RelL at h4
  unfold Rel at h1
  rw [h1, rInt.mp h3, h4]

theorem len_pos {v : Int} {l : List Int} : V.bl (decide ((0 : Int) < (((v :: l).map V.int).length : Nat))) = V.bl true := by
  rw [decide_eq_true]
  rw [List.length_map, List.length_cons]
  omega

/-! ### the law itself, behind its state -/
/-- the law's own state lies at T; nothing else is known -/
theorem law_rest {K : Fg} {t : TS} {f : SM} (h : SndS K t f) {N : Nat} {i : Nat} (hi : i < N) {T C : Addr} {cs : List Int} {seed : Int} {σ : L2.St} {H : Hp} (hl : σ.length = N) (hs : σ[i]? = some (some (.ref T)))
    (da : DrAt T C H (.A cs seed)) {ps' : PS} (e : f ⟨(List.replicate N Sl.un).set i (.fr (.dict [])), .A cs seed⟩ = some (.rt (.im (.bool true)) ps')) {D : Ends} (q : ∀ H', D.rt (.bl true) H') : t D σ H := by
  have R : Rep ⟨H, fun _ => none, T, C, true⟩ K (fun _ => none) ⟨(List.replicate N Sl.un).set i (.fr (.dict [])), .A cs seed⟩ σ H := by
    refine ⟨by simp [hl], fun j s e => ?_, fun a b da db p ha hb _ _ => ?_, fun _ => da, fun _ => ⟨rfl, rfl, da.T, da.C⟩, fun _ _ e => (nomatch e), fun a o e _ => e, fun _ _ => rfl, Same.refl _, fun h => (nomatch h)⟩
    · rcases getSet e with ⟨rfl, rfl, _⟩ | ⟨hj, e⟩
      · exact ⟨_, hs, _, rfl, by unfold Rel; rfl⟩
      · have z := List.mem_of_getElem? e
        rw [List.mem_replicate] at z
        have hlt := ltOf e
        rw [List.length_replicate] at hlt
        rw [z.2]
        exact ⟨σ[j]'(by omega), List.getElem?_eq_getElem (by omega), trivial⟩
    · exfalso
      rcases getSet ha with ⟨_, z, _⟩ | ⟨_, z⟩
      · cases z
      · have w := List.mem_of_getElem? z
        rw [List.mem_replicate] at w
        exact nomatch w.2
  refine h.go _ _ _ σ H _ D R e ?_
  intro v F' σ' H' _ _ hr
  have hr : Rel K F' T (.bool true) v := hr
  rw [rBl.mp hr]
  exact q H'
end MP

/-! the rules with the written part told by its own name (within a block it must not hang on the block) -/
namespace MP
open PySem PySem.Spec PyProof.Rows L2
section
variable {X : Cx} {K : Fg} {a b c e tg iter : Expr} {ta tb tc te : TE} {fa fb fc fe : M RV} {pos p : Pos} {es : List Expr} {t : TA} {g : M (List Dat)}
theorem k_add (hK : X.K = K) (ha : DE X a ta fa) (hb : DE X b tb fb) : DE X (.BinOp a .Add b pos) (tOp (rAddD K) ta tb) (opM addD fa fb) := by subst hK; exact de_add ha hb
theorem k_ix (hK : X.K = K) (ha : DE X a ta fa) (hb : DE X b tb fb) (hs : PlainIx b) : DE X (.Subscript a b pos) (tOp (rIx K) ta tb) (opM ixD fa fb) := by subst hK; exact de_ix ha hb hs
theorem k_slice {p2} {tl th : TO} {fl fh : M (Option Int)} {lo hi : Option Expr} (hK : X.K = K) (h : DE X e te fe) (hl : DO X lo tl fl) (hh : DO X hi th fh) : DE X (.Subscript e (.Slice lo hi none p2) pos) (tSl (rSlD K) te tl th) (slM fe fl fh) := by subst hK; exact de_slice h hl hh
theorem k_revL {k : Nat} {p1 p2 p3 : Pos} (hK : X.K = K) (he : DE X e te fe) : DE X (.Subscript e (.Slice none none (some (.UnaryOp .USub (.Constant (.int 1) k p1) p2)) p3) pos) (tRevL K te) (unM revD fe) := by subst hK; exact de_revL he
theorem k_truth (hK : X.K = K) (h : DE X a ta fa) (he : ∀ whole, isTrue a X.env whole = (do let v ← whole; standAt a.pos; holding [v] (truthy v))) :
    DT X a (fun σ H Q => ta σ H fun x H' => ∃ k, TruV K x H' k ∧ Q k H') (truM fa) := by subst hK; exact dt_truth h he
theorem ko_eq (hK : X.K = K) (hu : X.A.units + 65 < cLine) : OpR X (compareOp .Eq) (rEqD K) := by subst hK; exact op_eqD (u64 hu)
theorem ko_ne (hK : X.K = K) (hu : X.A.units + 65 < cLine) : OpR X (compareOp .NotEq) (rNeD K) := by subst hK; exact op_neD (u64 hu)
theorem ko_lt (hK : X.K = K) (hu : X.A.units + 65 < cLine) : OpR X (compareOp .Lt) (rLtD K) := by subst hK; exact op_ltD (u0 hu)
theorem ko_in (hK : X.K = K) (hu : X.A.units + 65 < cLine) : OpR X (compareOp .In) (rInA K) := by subst hK; exact op_inA hu
theorem ko_nin (hK : X.K = K) (hu : X.A.units + 65 < cLine) : OpR X (compareOp .NotIn) (rNinA K) := by subst hK; exact op_ninA hu
theorem k_cmp {op : CmpOp} {r : R2} {g : Dat → Dat → Option RV} (hK : X.K = K) (ho : OpR X (compareOp op) r) (hg : OpSnd K r g) (ha : DE X a ta fa) (hb : DE X b tb fb) (hm : behindInMarks op b = false) :
    DE X (.Compare a [op] [b] pos) (tOp r ta tb) (opM g fa fb) := by subst hK; exact de_cmp ho hg ha hb hm
theorem kt_cmp {op : CmpOp} {r : R2} {g : Dat → Dat → Option RV} (hK : X.K = K) (ho : OpR X (compareOp op) r) (hg : OpSnd K r g) (ha : DE X a ta fa) (hb : DE X b tb fb) (hm : behindInMarks op b = false) :
    DT X (.Compare a [op] [b] pos) (tTest (tOp r ta tb)) (tstM (opM g fa fb)) := by subst hK; exact dt_cmp ho hg ha hb hm
theorem k_chain {op op' : CmpOp} {r r' : R2} {g g' : Dat → Dat → Option RV} (hK : X.K = K) (ho : OpR X (compareOp op) r) (hg : OpSnd K r g) (ho' : OpR X (compareOp op') r') (hg' : OpSnd K r' g') (ha : DE X a ta fa) (hb : DE X b tb fb) (hc : DE X c tc fc)
    (hm : lastMarks [op, op'] [b, c] = false := by with_unfolding_all rfl) : DE X (.Compare a [op, op'] [b, c] pos) (tChain r r' ta tb tc) (chainM g g' fa fb fc) := by subst hK; exact de_chain ho hg ho' hg' ha hb hc hm
theorem kt_chain {op op' : CmpOp} {r r' : R2} {g g' : Dat → Dat → Option RV} (hK : X.K = K) (ho : OpR X (compareOp op) r) (hg : OpSnd K r g) (ho' : OpR X (compareOp op') r') (hg' : OpSnd K r' g') (ha : DE X a ta fa) (hb : DE X b tb fb) (hc : DE X c tc fc)
    (hm : lastMarks [op, op'] [b, c] = false := by with_unfolding_all rfl) : DT X (.Compare a [op, op'] [b, c] pos) (tTest (tChain r r' ta tb tc)) (tstM (chainM g g' fa fb fc)) := by subst hK; exact dt_chain ho hg ho' hg' ha hb hc hm
theorem kc_len (hK : X.K = K) : CallR X (.builtin "len") (fun xs H Q => ∃ p ys, xs = [.ref p] ∧ (SqL K H p ys ∨ SqT K H p ys) ∧ Q (.int ys.length) H) := by subst hK; exact call_len_seq
theorem kc_list (hK : X.K = K) : CallR X (.type "list") (fun xs H Q => ∃ p ys, xs = [.ref p] ∧ (SqL K H p ys ∨ SqT K H p ys) ∧ ∀ l, H l = none → Q (.ref l) (upd H l (.lst ys))) := by subst hK; exact call_list_of
theorem kc_tuple (hK : X.K = K) : CallR X (.type "tuple") (rTupOf K) := by subst hK; exact call_tupleD
theorem kc_int (hK : X.K = K) : CallR X (.type "int") (fun xs H Q => (∃ i, xs = [.int i] ∧ Q (.int i) H) ∨ ∃ k, xs = [.bl k] ∧ Q (.int (if k then 1 else 0)) H) := call_int1
theorem kc_abs (hK : X.K = K) : CallR X (.builtin "abs") (fun xs H Q => ∃ i, xs = [.int i] ∧ Q (.int (if i < 0 then -i else i)) H) := call_abs
theorem kc_sum (hK : X.K = K) (hc : X.calm = true := by rfl) : CallR X (.builtin "sum") (rSum K) := by subst hK; exact cr_sum hc
theorem kc_sorted (hK : X.K = K) : CallR X (.builtin "sorted") (rSortedI K) := by subst hK; exact cr_sortedI
theorem k_callB1 {r : List V → Hp → VK → Prop} {g : Dat → Option RV} {x : Str} {id : String} (hK : X.K = K) (hc : CallR X (.builtin id) r) (hs : C1Snd K r g) (hgl : Gl X x) (hm : X.mg x = none) (hv : bootBuiltins x = some (.builtin id)) (ha : DE X a ta fa)
    (hn : x ≠ "__name__" := by decide) (hdb : (x == ("__debug__" : Str)) = false := by decide) (he : starEach [a] X.env = (false, eval a X.env) :: starEach [] X.env := by rfl) (hp : (backTo pos (starEach [] X.env)).any (·.1) = false := by rfl) :
    DE X (.Call (.Name x p) [a] [] pos) (tCB r (t1 ta)) (unM g fa) := by subst hK; exact de_callB1 hc hs hgl hm hv ha hn hdb he hp
theorem k_callT1 {r : List V → Hp → VK → Prop} {g : Dat → Option RV} {x : Str} {T : String} (hK : X.K = K) (hc : CallR X (.type T) r) (hs : C1Snd K r g) (hgl : Gl X x) (hm : X.mg x = none) (hv : bootBuiltins x = some (.type T)) (ha : DE X a ta fa)
    (hn : x ≠ "__name__" := by decide) (hdb : (x == ("__debug__" : Str)) = false := by decide) (he : starEach [a] X.env = (false, eval a X.env) :: starEach [] X.env := by rfl) (hp : (backTo pos (starEach [] X.env)).any (·.1) = false := by rfl) :
    DE X (.Call (.Name x p) [a] [] pos) (tCB r (t1 ta)) (unM g fa) := by subst hK; exact de_callT1 hc hs hgl hm hv ha hn hdb he hp
theorem k_callBN {r : List V → Hp → VK → Prop} {gg : List Dat → Option RV} {x : Str} {id : String} (hK : X.K = K) (hc : CallR X (.builtin id) r) (hs : CNSnd K r gg) (hgl : Gl X x) (hm : X.mg x = none) (hv : bootBuiltins x = some (.builtin id)) (ha : DA X (e :: es) t g)
    (hn : x ≠ "__name__" := by decide) (hdb : (x == ("__debug__" : Str)) = false := by decide) (he : starEach (e :: es) X.env = (false, eval e X.env) :: starEach es X.env := by rfl) (hp : (backTo pos (starEach es X.env)).any (·.1) = false := by rfl) :
    DE X (.Call (.Name x p) (e :: es) [] pos) (tCB r t) (cnM gg g) := by subst hK; exact de_callBN hc hs hgl hm hv ha hn hdb he hp
theorem k_call {CX : CXT} {k n : Nat} {f : Addr} {fd : FuncData} {nms : List Str} {E : XK} {x : Str} {fn : Fn} (hK : X.K = K) (F : FnOk X.prog X.w K X.mg X.base CX k f fd nms (spM K n fn)) (hr : Room k X.A) (hg : Gl X x) (hm : X.mg x = some (.ref f)) (hk : PySem.W.keepIn K (.ref f) = true) (hb : Binds K fd nms []) (hx : Passes CX X E)
    (ha : DA X (e :: es) t g) (hl : ∀ ps ds ps', g ps = some (ds, ps') → ds.length = n) (hdb : (x == ("__debug__" : Str)) = false := by decide) (he : starEach (e :: es) X.env = (false, eval e X.env) :: starEach es X.env := by rfl) (hpl : (backTo pos (starEach es X.env)).any (·.1) = false := by rfl) :
    DE X (.Call (.Name x p) (e :: es) [] pos) (tCall (spM K n fn) [] E t) (callM fn g) := by subst hK; exact de_call F hr hg hm hk hb hx ha hl hdb he hpl
theorem k_isi {p2 : Pos} {T : Ty6} {x : Str} (hK : X.K = K) (hT : T ≠ .none) (hgl : Gl X "isinstance") (hm : X.mg "isinstance" = none) (hg2 : Gl X x) (hm2 : X.mg x = none) (hx : x = T.nm) (hv2 : bootBuiltins x = some (.type T.nm)) (ha : DE X a ta fa)
    (hn2 : x ≠ "__name__" := by decide) (hd2 : (x == ("__debug__" : Str)) = false := by decide)
    (he : starEach [a, .Name x p2] X.env = (false, eval a X.env) :: starEach [.Name x p2] X.env := by rfl) (he2 : starEach [.Name x p2] X.env = (false, eval (.Name x p2) X.env) :: starEach [] X.env := by rfl) (hp : (backTo pos (starEach [.Name x p2] X.env)).any (·.1) = false := by rfl) :
    DE X (.Call (.Name "isinstance" p) [a, .Name x p2] [] pos) (tCB (rIsi K) (tCons ta (tCons (tC (.ty T.nm)) tNil))) (unM (isiD T) fa) := by subst hK; exact de_isi hT hgl hm hg2 hm2 hx hv2 ha hn2 hd2 he he2 hp
theorem k_seq (hK : X.K = K) (h : DE X e te fe) : DI X tg e (iSeq K te) (seqIt fe) := by subst hK; exact di_seq h
theorem k_enum {elts : List Expr} {kk : Nat} {tpos : Pos} (hK : X.K = K) (hg : Gl X "enumerate") (hm : X.mg "enumerate" = none) (h : DE X e te fe) (hs : starEach [e] X.env = (false, eval e X.env) :: starEach [] X.env := by rfl)
    (hs1 : starEach [e] X.env = [(false, eval e X.env)] := by rfl) : DI X (.Tuple elts kk tpos) (.Call (.Name "enumerate" p) [e] [] pos) (iEnumA K te) (enIt fe) := by subst hK; exact di_enum hg hm h hs hs1
theorem k_gtup {es : List Expr} {k : Nat} {gs : TGs} {is : List Nat} {fs : List Dat → PS → Option PS} {n : Nat} (hK : X.K = K) (hc : X.calm = true) (h : DGs X es gs is fs)
    (hn : (assignEach es X.env).length = n := by rfl) (hst : (assignEach es X.env).findIdx? (·.1) = none := by rfl) : DG X (.Tuple es k pos) (gTL K n gs) is (tupT n fs) := by subst hK; exact dg_tup hc h hn hst
end
end MP

/-! more rules: .index of ints, list(range(..)), tuple(range(..)), sorted of a tuple of ints -/
namespace MP
open PySem PySem.Spec PyProof.Rows L2

/-! ### index -/
section
variable {X : Cx} {o e : Expr} {to te : TE} {fo fe : M RV} {apos cpos : Pos}
def tIdx (K : Fg) (to te : TE) : TE := fun σ H Q => to σ H fun x H1 => ∃ a : Addr, x = .ref a ∧
  (((∃ ys, SqL K H1 a ys) ∧ te σ H1 fun y H2 => ∃ (ns : List Int) (k : Int), y = .int k ∧ SqL K H2 a (ns.map V.int) ∧ k ∈ ns ∧ Q (.int (ns.idxOf k : Nat)) H2) ∨
   ((∃ ys, TupD H1 a ys) ∧ te σ H1 fun y H2 => ∃ (ns : List Int) (k : Int), y = .int k ∧ SqT K H2 a (ns.map V.int) ∧ k ∈ ns ∧ Q (.int (ns.idxOf k : Nat)) H2))
theorem pe_idx (ho : PE X o to) (ha : PE X e te) (hbase : attributeBase o "index" X.env (eval o X.env) = eval o X.env)
    (hfew : ((backTo cpos (starEach [e] X.env)).all (fun z => !z.1) && (backToKw cpos (keywordEach [] X.env)).all (fun z => z.1.isSome) && decide ([e].length + ([] : List Keyword).length + (if ([] : List Keyword).isEmpty then 0 else 1) < 30)) = true)
    (hline : (apos.endLine == cpos.line) = true) (hs : starEach [e] X.env = (false, eval e X.env) :: starEach [] X.env) (hplain : (backTo cpos (starEach [] X.env)).any (·.1) = false) :
    PE X (.Call (.Attribute o "index" apos) [e] [] cpos) (tIdx X.K to te) := by
  constructor
  intro pins s σ H Q I h
  refine wpAny_Call_method_late hbase hfew hline rfl (thn (ho.run pins s σ H _ I h) fun v s1 hv => ?_)
  obtain ⟨x, H1, I1, r1, a, rfl, q⟩ := hv
  obtain rfl : v = .ref a := r1
  have args : ∀ {P1 : V → Hp → Prop} {id : String}, te σ H1 P1 → (∀ (u : Value) (s2 : Shared) (y : V) (H2 : Hp), Inv X pins σ H2 s2 → RelV y u → P1 y H2 → wpAny (model X.prog X.w) X.A (call (.builtin id) [.ref a, u]) (EP X pins σ Q) X.xe s2) →
      wpAny (model X.prog X.w) X.A (callWith cpos (.builtin id) [.ref a] (backTo cpos (starEach [e] X.env)) []) (EP X pins σ Q) X.xe s1 := by
    intro P1 id hq fin
    have hA := (pa_cons ha pa_nil hs).run cpos pins s1 σ H1 (fun vs H2 => match vs with | [y] => P1 y H2 | _ => False) I1 hq
    rw [hs] at hA ⊢
    refine Calls.callWith_builtin (by show (false || (backTo cpos (starEach [] X.env)).any (·.1)) = false; rw [hplain]; rfl) (Calls.evalArgs_plain (thn hA fun us s2 z => ?_))
    obtain ⟨vs, H2, I2, r2, q2⟩ := z
    match vs, r2, q2 with
    | [y], .cons ry .nil, q2 => exact fin _ s2 y H2 I2 ry q2
  rcases q with ⟨⟨ys, hy⟩, q⟩ | ⟨⟨ys, ob, hy, hd⟩, q⟩
  · obtain ⟨us, _, ⟨ob, n, e1, e2, e3, e4⟩, _⟩ := I1.list hy
    refine ⟨"list", "list.index", PySem.F.plainAttrs_list, PySem.F.slot_list_index, PySem.F.type_list_index, ⟨ob, e1, e2⟩, (fun b eb => by cases eb; exact ⟨ob, e1, e3⟩), args q fun u s2 y H2 I2 ry q2 => ?_⟩
    obtain ⟨ns, k, rfl, hq, hk, q3⟩ := q2
    obtain ⟨t, rfl⟩ := ry
    obtain ⟨its, rv, hl, hz⟩ := I2.list hq
    exact PySem.SeqAt.list_index_ints hl.isList rv.ints (by rw [List.length_map] at hz; exact hz) hk ⟨.int _, H2, I2.tok _, ⟨_, rfl⟩, q3⟩
  · obtain ⟨e1, _, us, _, ⟨ob', e2, e3, n, e4⟩⟩ := I1.hok a _ hy
    rw [e1] at e2
    cases e2
    refine ⟨"tuple", "tuple.index", PySem.F.plainAttrs_tuple, PySem.F.slot_tuple_index, PySem.F.type_tuple_index, ⟨ob, e1, e3⟩, (fun b eb => by cases eb; exact ⟨ob, e1, hd⟩), args q fun u s2 y H2 I2 ry q2 => ?_⟩
    obtain ⟨ns, k, rfl, hq, hk, q3⟩ := q2
    obtain ⟨t, rfl⟩ := ry
    obtain ⟨its, rv, hl, hz⟩ := I2.tuple hq
    exact PySem.SeqAt.tuple_index_ints hl rv.ints hk ⟨.int _, H2, I2.tok _, ⟨_, rfl⟩, q3⟩
def idxM (fo fe : M RV) : M RV := fun ps => (keepM fo ps).bind fun x => (items? x.1).bind fun ds => (fe x.2).bind fun y => match y.1 with
  | .im (.int k) => (ints? ds).bind fun ns => if decide (k ∈ ns) then some (.im (.int (ns.idxOf k : Nat)), y.2) else none
  | _ => none
theorem snd_idx {K : Fg} (ho : SndE K to fo) (he : SndE K te fe) : SndE K (tIdx K to te) (idxM fo fe) := by
  refine ⟨fun G F ps σ H r ps' Q R e q => ?_⟩
  unfold idxM at e
  obtain ⟨⟨d, ps1⟩, e1, e⟩ := Option.bind_eq_some_iff.mp e
  obtain ⟨ds, e2, e⟩ := Option.bind_eq_some_iff.mp e
  obtain ⟨⟨rr, ps2⟩, e3, e⟩ := Option.bind_eq_some_iff.mp e
  simp only at e
  split at e
  · rename_i k
    obtain ⟨ns, e4, e⟩ := Option.bind_eq_some_iff.mp e
    split at e
    · rename_i hk
      cases e
      have hk := of_decide_eq_true hk
      refine keepM_go ho R e1 fun v F1 H1 P1 r1 => ?_
      rcases items_ok e2 with e5 | e5
      · have e5 : d = .list ds := e5
        subst e5
        obtain ⟨a, xs, rfl, h1, h2⟩ := rLst.mp r1
        refine ⟨a, rfl, .inl ⟨⟨xs, SqL.of (P1.rep.fh _ _ h1)⟩, he.go G F1 ps1 σ H1 _ _ _ P1.rep e3 fun v F2 H2 P2 r2 => ?_⟩⟩
        have r2 : Rel _ _ _ _ _ := r2
        have h3 := ints_rel e4 h2
        subst h3
        exact ⟨ns, k, rInt.mp r2, SqL.of (P2.rep.fh _ _ (P2.same _ _ h1)), hk, q _ F2 H2 (P1.trans P2) (by show Rel _ _ _ _ _; unfold Rel; rfl)⟩
      · have e5 : d = .tuple ds := e5
        subst e5
        obtain ⟨a, xs, rfl, h1, h2⟩ := rTupD r1
        refine ⟨a, rfl, .inr ⟨⟨xs, h1.mono P1.rep.fh⟩, he.go G F1 ps1 σ H1 _ _ _ P1.rep e3 fun v F2 H2 P2 r2 => ?_⟩⟩
        have r2 : Rel _ _ _ _ _ := r2
        have h3 := ints_rel e4 h2
        subst h3
        exact ⟨ns, k, rInt.mp r2, ((h1.mono P2.same).mono P2.rep.fh).sqT, hk, q _ F2 H2 (P1.trans P2) (by show Rel _ _ _ _ _; unfold Rel; rfl)⟩
    · cases e
  · cases e
theorem k_index {K : Fg} (hK : X.K = K) (ho : DE X o to fo) (he : DE X e te fe) (hbase : attributeBase o "index" X.env (eval o X.env) = eval o X.env := by rfl)
    (hfew : ((backTo cpos (starEach [e] X.env)).all (fun z => !z.1) && (backToKw cpos (keywordEach [] X.env)).all (fun z => z.1.isSome) && decide ([e].length + ([] : List Keyword).length + (if ([] : List Keyword).isEmpty then 0 else 1) < 30)) = true := by rfl)
    (hline : (apos.endLine == cpos.line) = true := by rfl) (hs : starEach [e] X.env = (false, eval e X.env) :: starEach [] X.env := by rfl) (hplain : (backTo cpos (starEach [] X.env)).any (·.1) = false := by rfl) :
    DE X (.Call (.Attribute o "index" apos) [e] [] cpos) (tIdx K to te) (idxM fo fe) := by
  subst hK
  exact ⟨pe_idx ho.pe he.pe hbase hfew hline hs hplain, snd_idx ho.sn he.sn⟩
end

/-! ### list(range(..)), tuple(range(..)) -/
theorem rg_rel {K : Fg} {F : Hp} {T : Addr} {a b : Int} : RelL K F T (rgD a (b - a).toNat) (rgV a b) := by
  unfold rgD rgV
  generalize (b - a).toNat = n
  induction n with
  | zero => exact .nil
  | succ n ih =>
    rw [List.range_succ, List.map_append, List.map_append]
    exact ih.append (.cons (by unfold Rel; rfl) .nil)
abbrev TR := L2.St → Hp → (Int → Int → Hp → Prop) → Prop
structure DR (X : Cx) (e : Expr) (t : TR) (f : M (Int × Int)) : Prop where
  pe : PRg X e t
  go : ∀ (G : Ctl) (F : Hp) (ps : PS) (σ : L2.St) (H : Hp) (z : Int × Int) (ps' : PS) (Q : Int → Int → Hp → Prop), Rep G X.K F ps σ H → f ps = some (z, ps') → (∀ F' H', Post G X.K F ps σ H F' ps' H' → Q z.1 z.2 H') → t σ H Q
def asI : RV → Option Int
  | .im (.int n) => some n
  | _ => none
def rg1M (fa : M RV) : M (Int × Int) := fun ps => (fa ps).bind fun x => (asI x.1).bind fun n => some ((0, n), x.2)
def rg2M (fa fb : M RV) : M (Int × Int) := fun ps => (fa ps).bind fun x => (asI x.1).bind fun i => (fb x.2).bind fun y => (asI y.1).bind fun j => some ((i, j), y.2)
theorem asI_ok {G : Ctl} {K : Fg} {F : Hp} {ps : PS} {σ : L2.St} {Hs H : Hp} {r : RV} {v : V} {n : Int} (h : asI r = some n) (k : RVok G K F ps σ Hs H r v) : v = .int n := by
  unfold asI at h
  split at h
  · cases h
    have k : Rel _ _ _ _ _ := k
    exact rInt.mp k
  · cases h
section
variable {X : Cx} {a b e : Expr} {ta tb : TE} {fa fb : M RV} {t : TR} {f : M (Int × Int)} {p q1 pos : Pos}
theorem dr_1 (hg : Gl X "range") (hm : X.mg "range" = none) (ha : DE X a ta fa) (na : starEach [a] X.env = (false, eval a X.env) :: starEach [] X.env := by rfl) : DR X (.Call (.Name "range" p) [a] [] pos) (tRg1 ta) (rg1M fa) := by
  refine ⟨prg_1 hg hm ha.pe na, fun G F ps σ H z ps' Q R e q => ?_⟩
  unfold rg1M at e
  obtain ⟨⟨r, ps1⟩, e1, e⟩ := Option.bind_eq_some_iff.mp e
  obtain ⟨n, e2, e⟩ := Option.bind_eq_some_iff.mp e
  cases e
  exact ha.sn.go G F ps σ H _ _ _ R e1 fun v F1 H1 P1 r1 => ⟨n, asI_ok e2 r1, q F1 H1 P1⟩
theorem dr_2 (hg : Gl X "range") (hm : X.mg "range" = none) (ha : DE X a ta fa) (hb : DE X b tb fb) (na : starEach [a, b] X.env = (false, eval a X.env) :: starEach [b] X.env := by rfl)
    (nb : starEach [b] X.env = (false, eval b X.env) :: starEach [] X.env := by rfl) (hp : (backTo pos (starEach [b] X.env)).any (·.1) = false := by rfl) : DR X (.Call (.Name "range" p) [a, b] [] pos) (tRg2 ta tb) (rg2M fa fb) := by
  refine ⟨prg_2 hg hm ha.pe hb.pe na nb hp, fun G F ps σ H z ps' Q R e q => ?_⟩
  unfold rg2M at e
  obtain ⟨⟨r, ps1⟩, e1, e⟩ := Option.bind_eq_some_iff.mp e
  obtain ⟨i, e2, e⟩ := Option.bind_eq_some_iff.mp e
  obtain ⟨⟨r', ps2⟩, e3, e⟩ := Option.bind_eq_some_iff.mp e
  obtain ⟨j, e4, e⟩ := Option.bind_eq_some_iff.mp e
  cases e
  exact ha.sn.go G F ps σ H _ _ _ R e1 fun v F1 H1 P1 r1 => hb.sn.go G F1 ps1 σ H1 _ _ _ P1.rep e3 fun u F2 H2 P2 r2 => ⟨i, j, asI_ok e2 r1, asI_ok e4 r2, q F2 H2 (P1.trans P2)⟩
def rgB (z : Int × Int) : Bool := decide (z.1.natAbs ≤ 8388608) && decide (z.2.natAbs ≤ 8388608)
theorem rgB_ok {z : Int × Int} (h : rgB z = true) : RgOk z.1 z.2 := by
  unfold rgB at h
  simp only [Bool.and_eq_true, decide_eq_true_eq] at h
  exact ⟨by omega, by omega, by omega, by omega, by omega⟩
def listRgM (f : M (Int × Int)) : M RV := fun ps => (f ps).bind fun x => if rgB x.1 then some (.nw (rgD x.1.1 (x.1.2 - x.1.1).toNat), x.2) else none
def tupleRgM (f : M (Int × Int)) : M RV := fun ps => (f ps).bind fun x => if rgB x.1 then some (.im (.tuple (rgD x.1.1 (x.1.2 - x.1.1).toNat)), x.2) else none
theorem de_listRg (hc : X.calm = true) (hg : Gl X "list") (hm : X.mg "list" = none) (h : DR X e t f) (na : starEach [e] X.env = (false, eval e X.env) :: starEach [] X.env := by rfl) :
    DE X (.Call (.Name "list" p) [e] [] pos) (tLstRg t) (listRgM f) := by
  refine ⟨pe_listRg hc hg hm h.pe na, ⟨fun G F ps σ H r ps' Q R e q => ?_⟩⟩
  unfold listRgM at e
  obtain ⟨⟨z, ps1⟩, e1, e⟩ := Option.bind_eq_some_iff.mp e
  split at e
  · rename_i hz
    cases e
    exact h.go G F ps σ H _ _ _ R e1 fun F1 H1 P1 => ⟨rgB_ok hz, out_nw P1.rep rg_rel fun v F2 H2 P2 r3 => q v F2 H2 (P1.trans P2) (r3.back P1.dom)⟩
  · cases e
def tTupRgD (te : TR) : TE := fun σ H Q => te σ H fun a b H1 => RgOk a b ∧ NewT H1 (rgV a b) Q
theorem de_tupleRg (hc : X.calm = true) (hg : Gl X "tuple") (hm : X.mg "tuple" = none) (h : DR X e t f) (na : starEach [e] X.env = (false, eval e X.env) :: starEach [] X.env := by rfl) :
    DE X (.Call (.Name "tuple" p) [e] [] pos) (tTupRgD t) (tupleRgM f) := by
  refine ⟨⟨fun pins s σ H Q I hq => ?_⟩, ⟨fun G F ps σ H r ps' Q R e q => ?_⟩⟩
  · refine Call_ (ld_blt I hg hm boot_tuple (PyProof.Rows.callWith_type1 (args_cons (thn (h.pe pins s σ H _ I hq) fun x s1 hx => args_nil ?_) na) na))
    obtain ⟨r, a, b, t, u, v, H1, rfl, hr, I1, ok, q⟩ := hx
    refine call_tuple_range (n := (b - a).toNat) (I1.ok.hd hc) hr (small_one ok.1 ok.2.1 ok.2.2.1 ok.2.2.2.1) (rangeSize_nat a b) ok.2.2.2.2 fun h' tk acc hk hi => ?_
    have hz : (rgV a b).length ≤ sizeLine := by
      have := ok.2.2.2.2
      rw [rgV_length, sizeLine_eq]
      omega
    have := q.put (s := { s1 with heap := h', toks := tk }) (I1.kept hk) (vals_rg hi) hz
    rw [Array.toArray_toList] at this
    exact this
  · unfold tupleRgM at e
    obtain ⟨⟨z, ps1⟩, e1, e⟩ := Option.bind_eq_some_iff.mp e
    split at e
    · rename_i hz
      cases e
      exact h.go G F ps σ H _ _ _ R e1 fun F1 H1 P1 => ⟨rgB_ok hz, out_tp P1.rep rg_rel fun v F2 H2 P2 r3 => q v F2 H2 (P1.trans P2) (r3.back P1.dom)⟩
    · cases e
end

/-! ### sorted, of a list or a tuple of ints -/
theorem sorted_seq {prog : Program} {w : World} {A : Around} {E : Value → Shared → Prop} {s : Shared} {l : Addr} {vs : List Value} {ns : List Int} {Q : Value → Shared → Prop} (ht : IsTup s.heap l vs.toArray) (hi : IntsAre vs ns) (hz : vs.length ≤ sizeLine)
    (h : ∀ (h0 h1 : Heap) (p : Addr) (out : List Value) (ms : List Int), (∀ b o, s.heap.get? b = some o → h0.get? b = some o) → (∀ b o, h0.get? b = some o → h1.get? b = some o) → h0.objs.size ≤ p → (∃ n, h1.get? p = some (seqObj "list" out.toArray n)) → IntsAre out ms → ms.Perm ns → ms.Pairwise (· ≤ ·) → Q (.ref p) { s with heap := h1 }) :
    wpAny (model prog w) A (call (.builtin "sorted") [.ref l]) Q E s := by
  obtain ⟨o, ho, hc, n, hd⟩ := ht
  refine Calls.call_function_entry kind_sorted plain_sorted entry_sorted (args_sorted1 _) ?_
  unfold Builtin.«sorted»
  refine wpAny_bind (m := checkCount "sorted" 1 1 _) (wpAny_pure (wpAny_bind (wpAny_collect_seq l (.inr rfl) ho hc hd (fun h1 k1 => ?_) (by rw [List.size_toArray]; exact hz))))
  refine wpAny_bind (wpAny_newList ?_ hz)
  have at1 : (h1.push (seqObj "list" vs.toArray 0)).get? h1.objs.size = some (seqObj "list" vs.toArray 0) := Heap.get?_push_size _ rfl
  refine wpAny_bind (wpAny_holding (wpAny_call_entry slot_list_sort ⟨_, at1, rfl⟩ entry_list_sort (SrtO.list_sort_ord SrtO.swo_int at1 hz (fun h2 => SrtO.ints_sortable hi h2) fun out hs hb => ⟨_, rfl, ?_⟩) (args_list_sort _)))
  obtain ⟨j1, j2, j3⟩ := SrtO.ints_out hi hs hb
  refine wpAny_pure ⟨_, rfl, h h1 _ _ out _ k1 (fun b o e => ?_) (Nat.le_refl _) (sortedHeap_at at1) j1 j2 j3⟩
  have z : (h1.push (seqObj "list" vs.toArray 0)).get? b = some o := Heap.get?_push_of_some _ e
  exact (sortedHeap_old (Nat.ne_of_lt (Heap.lt_size e)) (Heap.lt_size z)).trans z
def rSortedA (K : Fg) : List V → Hp → VK → Prop := fun vs H Q => rSortedI K vs H Q ∨ ∃ (a : Addr) (ns : List Int), vs = [V.ref a] ∧ SqT K H a (ns.map V.int) ∧ ∀ (ms : List Int) (p : Addr), ms.Perm ns → ms.Pairwise (· ≤ ·) → H p = none → Q (.ref p) (upd H p (.lst (ms.map V.int)))
theorem call_sortedA {X : Cx} : CallR X (.builtin "sorted") (rSortedA X.K) := by
  intro pins s σ H vs us Q I r h
  rcases h with h | ⟨a, ns, rfl, hs, q⟩
  · exact cr_sortedI pins s σ H vs us Q I r h
  · obtain ⟨its, rv, ht, hz⟩ := I.tuple hs
    rw [Vals.ref1 r]
    refine sorted_seq ht rv.ints (by rw [← rv.length]; exact hz) fun h0 h1 p out ms k1 k2 hp hg j1 j2 j3 => ?_
    obtain ⟨n, hg⟩ := hg
    have I1 : Inv X pins σ H { s with heap := h0 } := I.kept (t' := s.toks) k1
    have hl : (ms.map V.int).length ≤ sizeLine := by
      rw [List.length_map] at hz ⊢
      rw [j2.length_eq]
      exact hz
    exact ⟨.ref p, _, I1.laid (t' := s.toks) (o := .lst (ms.map V.int)) k2 hp ⟨hl, out, n, vals_of_ints j1, hg⟩, rfl, q ms p j2 j3 (I1.hok.fresh hp)⟩
def sortAD : Dat → Option RV
  | .list ds => (ints? ds).bind fun ns => some (.nw ((isort ns).map PyData.int))
  | .tuple ds => (ints? ds).bind fun ns => some (.nw ((isort ns).map PyData.int))
  | _ => none
theorem sortAD_ok {K : Fg} : C1Snd K (rSortedA K) sortAD := by
  intro G F ps σ H x d out Q R hx hg q
  unfold sortAD at hg
  split at hg
  · rename_i ds
    exact .inl (sortD_ok (K := K) G F ps σ H x (.list ds) out Q R hx hg q)
  · obtain ⟨ns, e1, hg⟩ := Option.bind_eq_some_iff.mp hg
    cases hg
    obtain ⟨a, vs, rfl, h1, h2⟩ := bTup R.fh hx
    rw [ints_rel e1 h2] at h1
    refine .inr ⟨a, ns, rfl, h1, fun ms p hp hs hn => ?_⟩
    rw [isort_uniq hp hs]
    exact out_nw R (ints_relL (isort ns)) q p hn
  · cases hg
theorem kc_sortedA {X : Cx} {K : Fg} (hK : X.K = K) : CallR X (.builtin "sorted") (rSortedA K) := by subst hK; exact call_sortedA

/-! ### a, b, c = x, y, z : all kept -/
def par3M (i j l : Nat) (g : M (List Dat)) : SM := fun ps => (g ps).bind fun x => match x.1 with
  | [a, b, c] => some (.nx (((x.2.put i (.fr a)).put j (.fr b)).put l (.fr c)))
  | _ => none
theorem ds_par3 {X : Cx} {i j l : Nat} {x y z : Str} {a b c : Expr} {ta : TA} {g : M (List Dat)} {px py pz pt pos : Pos} {kt k2 pt2} (hc : X.calm = true) (hN : X.N.Nodup) (hi : X.N[i]? = some x) (hj : X.N[j]? = some y) (hl : X.N[l]? = some z) (hij : i ≠ j) (hil : i ≠ l) (hjl : j ≠ l)
    (hx : X.env.scope.names.lookup x = some .local) (hy : X.env.scope.names.lookup y = some .local) (hz : X.env.scope.names.lookup z = some .local) (ha : DA X [a, b, c] ta g)
    (hw : swappedStores [.Tuple [.Name x px, .Name y py, .Name z pz] kt pt] (.Tuple [a, b, c] k2 pt2) X.env = pure (some [x, y, z]))
    (hs : swapsWithSole [.Tuple [.Name x px, .Name y py, .Name z pz] kt pt] (.Tuple [a, b, c] k2 pt2) pos.line X.env = pure false := by rfl) :
    DS X (.Assign [.Tuple [.Name x px, .Name y py, .Name z pz] kt pt] (.Tuple [a, b, c] k2 pt2) pos) (tPar3 i j l ta) (par3M i j l g) := by
  refine ⟨ps_par3 hc hN hi hj hl hij hil hjl hx hy hz ha.pe hw hs, ⟨fun G F ps σ H o D R e q => ?_⟩⟩
  unfold par3M at e
  obtain ⟨⟨ds, ps1⟩, e1, e⟩ := Option.bind_eq_some_iff.mp e
  simp only at e
  split at e
  · rename_i d1 d2 d3
    cases e
    refine ha.sn.go G F ps σ H _ _ _ R e1 fun vs F1 H1 P1 r1 => ?_
    unfold RelL at r1
    obtain ⟨v1, vs1, rfl, h1, r1⟩ := r1
    unfold RelL at r1
    obtain ⟨v2, vs2, rfl, h2, r1⟩ := r1
    unfold RelL at r1
    obtain ⟨v3, vs3, rfl, h3, r1⟩ := r1
    unfold RelL at r1
    subst r1
    exact ⟨v1, v2, v3, rfl, q F1 _ H1 (((P1.rep.setFr h1).setFr h2).setFr h3) P1.same⟩
  · cases e

/-! ### sum, max, min of a row of ints, list or tuple -/
section
variable {prog : Program} {w : World} {A : Around} {E : Value → Shared → Prop} {s : Shared} {l : Addr} {xs : Array (Int × Tok)}
theorem iter_tup {Q : Value → Shared → Prop} (ht : s.heap.IsTuple l (intItems xs))
    (h : ∀ s2 : Shared, s2 = { s with heap := s.heap.push { cls := .type "tuple_iterator", data := .fields #[.ref l, .int 0 0] } } → (s2.heap.IsTupleIter s.heap.objs.size l 0 ∧ s2.heap.IsTuple l (intItems xs)) → (∀ b ∈ [s.heap.objs.size, l], b < s2.heap.objs.size) → l ≠ s.heap.objs.size → Q (.ref s.heap.objs.size) s2) :
    wpAny (model prog w) A (pyIter (.ref l)) Q E s := by
  obtain ⟨o, e, r⟩ := id ht
  have lt : l < s.heap.objs.size := Heap.lt_size e
  refine wpAny_pyIter_tuple ht (h _ rfl ⟨⟨_, Heap.get?_push_size _ rfl, rfl, rfl⟩, ⟨o, Heap.get?_push_of_some _ e, r⟩⟩ (fun b hb => ?_) (Nat.ne_of_lt lt))
  show b < (s.heap.push _).objs.size
  rw [Heap.size_push]
  simp only [List.mem_cons, List.not_mem_nil, or_false] at hb
  rcases hb with rfl | rfl
  · exact Nat.lt_succ_self _
  · exact Nat.lt_succ_of_lt lt
theorem kept_tup {h h' : Heap} {ob : Obj} (hk : ∀ b o, b ∉ [h.objs.size] → (h.push ob).get? b = some o → h'.get? b = some o) : ∀ b o, h.get? b = some o → h'.get? b = some o := fun b o e =>
  hk b o (fun z => Nat.lt_irrefl b (by have := Heap.lt_size e; rw [← List.mem_singleton.mp z] at this; exact this)) (Heap.get?_push_of_some _ e)
theorem sum_tupG {Q : Value → Shared → Prop} (hh : A.handled = none) (ht : s.heap.IsTuple l (intItems xs))
    (h : ∀ h' tk t', (∀ b o, s.heap.get? b = some o → h'.get? b = some o) → Q (.int (preSum (numAt xs) xs.size) t') { s with heap := h', toks := tk }) : wpAny (model prog w) A (call (.builtin "sum") [.ref l]) Q E s := by
  refine call_sum_walkG (iter_tup ht fun s2 e st fp ne => ?_)
  subst e
  refine ⟨_, _, _, _, _, _, numAt xs, rfl, Walks.tuple (A := A.in1) hh _ l ne (intItems xs), st, fp, (fun _ _ => intItems_at), fun h' tk t' hk => ?_⟩
  have := h h' tk t' (kept_tup hk)
  simpa [intItems] using this
theorem max_tupG {Q : Value → Shared → Prop} (hh : A.handled = none) (ht : s.heap.IsTuple l (intItems xs)) (hne : 0 < xs.size)
    (h : ∀ v h' tk, (intItems xs)[argBest (fun i j => decide (numAt xs i > numAt xs j)) (xs.size - 1)]? = some v → (∀ b o, s.heap.get? b = some o → h'.get? b = some o) → Q v { s with heap := h', toks := tk }) : wpAny (model prog w) A (call (.builtin "max") [.ref l]) Q E s := by
  refine call_max_walk (iter_tup ht fun s2 e st fp ne => ?_)
  subst e
  exact ⟨_, _, _, _, _, _, _, rfl, Walks.tuple (A := A.in1) hh _ l ne (intItems xs), st, fp, by simpa [intItems] using hne, CmpOf.ints_gt (numAt xs) (fun _ _ => intItems_at), fun v h' tk hP hk => h v h' tk (by simpa [intItems] using hP) (kept_tup hk)⟩
theorem sum_tup {its : List Value} {ns : List Int} {Q : Value → Shared → Prop} (hh : A.handled = none) (ht : s.heap.IsTuple l its.toArray) (hi : IntsAre its ns)
    (h : ∀ h' tk t', (∀ b o, s.heap.get? b = some o → h'.get? b = some o) → Q (.int ns.sum t') { s with heap := h', toks := tk }) : wpAny (model prog w) A (call (.builtin "sum") [.ref l]) Q E s := by
  obtain ⟨xs, e⟩ := hi.allInts.items
  have hn : numsOf (intItems xs).toList = ns := by rw [← e]; exact hi.numsOf
  rw [nums_intItems] at hn
  rw [e] at ht
  refine sum_tupG hh ht fun h' tk t' hk => ?_
  rw [preSum_eq, List.take_of_length_le (by simp), hn]
  exact h h' tk t' hk
end
def rSumA (K : Fg) : List V → Hp → VK → Prop := fun vs H Q => rSum K vs H Q ∨ ∃ (a : Addr) (ns : List Int), vs = [V.ref a] ∧ SqT K H a (ns.map V.int) ∧ Q (.int ns.sum) H
theorem call_sumA {X : Cx} (hc : X.calm = true) : CallR X (.builtin "sum") (rSumA X.K) := by
  intro pins s σ H vs us Q I r h
  rcases h with h | ⟨a, ns, rfl, hs, q⟩
  · exact cr_sum hc pins s σ H vs us Q I r h
  · obtain ⟨its, rv, ht, _⟩ := I.tuple hs
    rw [Vals.ref1 r]
    exact sum_tup (I.ok.hd hc) ht rv.ints fun h' tk t' hk => ⟨.int _, H, I.kept hk, ⟨_, rfl⟩, q⟩
def sumAD : Dat → Option RV
  | .list ds => (ints? ds).bind fun ns => some (.im (.int ns.sum))
  | .tuple ds => (ints? ds).bind fun ns => some (.im (.int ns.sum))
  | _ => none
theorem sumAD_ok {K : Fg} : C1Snd K (rSumA K) sumAD := by
  intro G F ps σ H x d out Q R hx hg q
  unfold sumAD at hg
  split at hg
  · rename_i ds
    exact .inl (sumD_ok (K := K) G F ps σ H x (.list ds) out Q R hx hg q)
  · obtain ⟨ns, e1, hg⟩ := Option.bind_eq_some_iff.mp hg
    cases hg
    obtain ⟨a, vs, rfl, h1, h2⟩ := bTup R.fh hx
    rw [ints_rel e1 h2] at h1
    exact .inr ⟨a, ns, rfl, h1, out_im R (by unfold Rel; rfl) q⟩
  · cases hg
theorem kc_sumA {X : Cx} {K : Fg} (hK : X.K = K) (hc : X.calm = true := by rfl) : CallR X (.builtin "sum") (rSumA K) := by subst hK; exact call_sumA hc
end MP

/-! more rules: any and all of a list of truth values, insert -/
namespace MP
open PySem PySem.Spec PyProof.Rows L2

/-! ### any, all -/
def bools? : List Dat → Option (List Bool)
  | [] => some []
  | .bool i :: ds => (bools? ds).map (i :: ·)
  | _ :: _ => none
theorem bools_rel {K : Fg} {F : Hp} {T : Addr} : ∀ {ds : List Dat} {bs : List Bool} {vs : List V}, bools? ds = some bs → RelL K F T ds vs → vs = bs.map V.bl
  | [], bs, vs, e, h => by
    cases e
    unfold RelL at h
    rw [h]
    rfl
  | d :: ds, bs, vs, e, h => by
    unfold RelL at h
    obtain ⟨y, ys, rfl, h1, h2⟩ := h
    cases d with
    | bool b =>
      obtain ⟨bs', e1, e2⟩ := Option.map_eq_some_iff.mp (show (bools? ds).map (b :: ·) = some bs from e)
      subst e2
      rw [rBl.mp h1, bools_rel e1 h2]
      rfl
    | none => cases e
    | int _ => cases e
    | str _ => cases e
    | list _ => cases e
    | tuple _ => cases e
    | dict _ => cases e
def anyD : Dat → Option RV
  | .list ds => (bools? ds).bind fun bs => some (.im (.bool (bs.any id)))
  | _ => none
def allD : Dat → Option RV
  | .list ds => (bools? ds).bind fun bs => some (.im (.bool (bs.all id)))
  | _ => none
theorem anyD_ok {K : Fg} : C1Snd K (rAny K) anyD := by
  intro G F ps σ H x d out Q R hx hg q
  unfold anyD at hg
  split at hg
  · obtain ⟨bs, e1, hg⟩ := Option.bind_eq_some_iff.mp hg
    cases hg
    obtain ⟨a, vs, rfl, h1, h2⟩ := bLst hx
    rw [bools_rel e1 h2] at h1
    exact ⟨a, bs, rfl, SqL.of h1, out_im R (by unfold Rel; rfl) q⟩
  · cases hg
theorem allD_ok {K : Fg} : C1Snd K (rAll K) allD := by
  intro G F ps σ H x d out Q R hx hg q
  unfold allD at hg
  split at hg
  · obtain ⟨bs, e1, hg⟩ := Option.bind_eq_some_iff.mp hg
    cases hg
    obtain ⟨a, vs, rfl, h1, h2⟩ := bLst hx
    rw [bools_rel e1 h2] at h1
    exact ⟨a, bs, rfl, SqL.of h1, out_im R (by unfold Rel; rfl) q⟩
  · cases hg
theorem kc_any {X : Cx} {K : Fg} (hK : X.K = K) (hc : X.calm = true := by rfl) : CallR X (.builtin "any") (rAny K) := by subst hK; exact cr_any hc
theorem kc_all {X : Cx} {K : Fg} (hK : X.K = K) (hc : X.calm = true := by rfl) : CallR X (.builtin "all") (rAll K) := by subst hK; exact cr_all hc

/-! ### l.insert(i, x) -/
def insM (j : Nat) (g : M (List Dat)) : SM := fun ps => match ps.sl[j]? with
  | some (.ow _) => (g ps).bind fun x => match x.1, x.2.sl[j]? with
    | [.int i, d], some (.ow ds) => if decide (0 ≤ i) && b62 i && decide (ds.length < sizeLine) then some (.nx (x.2.put j (.ow (ds.take i.toNat ++ [d] ++ ds.drop i.toNat)))) else none
    | _, _ => none
  | _ => none
def rInsert : V → List V → Hp → VK → Prop := fun x vs H Q => ∃ (l : Addr) (xs : List V) (i : Int) (y : V), x = .ref l ∧ vs = [.int i, y] ∧ H l = some (.lst xs) ∧ xs.length < sizeLine ∧ 0 ≤ i ∧ i < 2 ^ 63 ∧ Q .non (upd H l (.lst (xs.take i.toNat ++ [y] ++ xs.drop i.toNat)))
theorem snd_ins {K : Fg} {j : Nat} {t : TA} {g : M (List Dat)} (he : SndA K t g) : SndS K (tDrop (tBM K "list" rInsert (tVar j) t)) (insM j g) := by
  refine ⟨fun G F ps σ H o D R e q => ?_⟩
  unfold insM at e
  split at e
  · rename_i ds0 ed0
    obtain ⟨⟨ds', ps1⟩, e1, e⟩ := Option.bind_eq_some_iff.mp e
    simp only at e
    split at e
    · rename_i i d ds ed
      split at e
      · rename_i hl
        cases e
        simp only [Bool.and_eq_true, decide_eq_true_eq] at hl
        obtain ⟨o1, e4, p, vs0, rfl, hp, _⟩ := R.slots j _ ed0
        refine ⟨.ref p, e4, .inl ⟨rfl, _, SqL.of hp⟩, he.go G F ps σ H _ _ _ R e1 fun ws F1 H1 P1 r1 => ?_⟩
        unfold RelL at r1
        obtain ⟨v1, ws1, rfl, r1a, r1⟩ := r1
        unfold RelL at r1
        obtain ⟨v2, ws2, rfl, r1b, r1⟩ := r1
        unfold RelL at r1
        subst r1
        obtain ⟨o2, e5, p', vs, eo, h1, h2, h3, h4⟩ := P1.rep.slots j _ ed
        rw [e4] at e5
        cases e5
        cases eo
        have P3 := P1.rep.wr ed e4 (((h4.take i.toNat).append (.cons r1b .nil)).append (h4.drop i.toNat))
        exact ⟨p, vs, i, v2, rfl, by rw [rInt.mp r1a], h1, by rw [h4.len]; exact hl.2, hl.1.1, (b62_63 hl.1.2).2, q F1 σ _ P3.rep P1.same⟩
      · cases e
    · cases e
  · cases e
section
variable {X : Cx} {e1 e2 : Expr} {t : TA} {g : M (List Dat)}
theorem ds_ins {j : Nat} {x : Str} {px apos cpos pos : Pos} (hN : X.N[j]? = some x) (hv : Vis X.env.scope x) (he : DA X [e1, e2] t g)
    (hbase : attributeBase (.Name x px) "insert" X.env (eval (.Name x px) X.env) = eval (.Name x px) X.env := by rfl)
    (hfew : ((backTo cpos (starEach [e1, e2] X.env)).all (fun z => !z.1) && (backToKw cpos (keywordEach [] X.env)).all (fun z => z.1.isSome) && decide ([e1, e2].length + ([] : List Keyword).length + (if ([] : List Keyword).isEmpty then 0 else 1) < 30)) = true := by rfl)
    (hline : (apos.endLine == cpos.line) = true := by rfl) (h1 : starEach [e1, e2] X.env = (false, eval e1 X.env) :: starEach [e2] X.env := by rfl) (hplain : (backTo cpos (starEach [e2] X.env)).any (·.1) = false := by rfl)
    (hs : swapsWith (.Call (.Attribute (.Name x px) "insert" apos) [e1, e2] [] cpos) none pos.line X.env = pure false := by rfl)
    (hd : (x == ("__debug__" : Str)) = false := by decide) (hcd : (x == ("__classdict__" : Str)) = false := by decide) :
    DS X (.Expr (.Call (.Attribute (.Name x px) "insert" apos) [e1, e2] [] cpos) pos) (tDrop (tBM X.K "list" rInsert (tVar j) t)) (insM j g) :=
  ⟨ps_expr (pe_bm PySem.F.plainAttrs_list PySem.F.slot_list_insert PySem.F.type_list_insert mt_insert (pe_var hN hv hd hcd) he.pe hbase hfew hline h1 hplain) hs, snd_ins he.sn⟩
end

/-! ### for x in reversed(row) -/
theorem rev_get {α : Type} {ds : List α} {i : Nat} {d : α} (h : ds.reverse[i]? = some d) : i < ds.length ∧ ds[ds.length - 1 - i]? = some d := by
  have hi : i < ds.length := by
    rcases Nat.lt_or_ge i ds.length with z | z
    · exact z
    · rw [List.getElem?_eq_none (by rw [List.length_reverse]; exact z)] at h
      cases h
  rw [List.getElem?_reverse hi] at h
  exact ⟨hi, h⟩
theorem wlk_rl {G : Ctl} {K : Fg} {a : Addr} {ds : List Dat} {xs : List V} {F' : Hp} (h1 : F' a = some (.lst xs)) (h2 : RelL K F' G.T ds xs) : Wlk G K (Itv K a xs.length) ds.reverse F' := by
  refine ⟨fun i d e F2 ps σ H2 R s => ?_, fun F2 ps σ H2 R s => ?_⟩
  · obtain ⟨hi, e⟩ := rev_get e
    rw [← h2.len] at hi e
    obtain ⟨v, e1, r⟩ := h2.get e
    have hl : SqL K H2 a xs := SqL.of (R.fh _ _ (s _ _ h1))
    refine ⟨⟨hi, xs, v, hl, e1⟩, fun x H3 y => ?_⟩
    obtain ⟨rfl, y⟩ := y
    have e2 := y xs hl
    rw [e1] at e2
    cases e2
    exact ⟨F2, .refl R, Rel.mono s _ _ r⟩
  · show xs.length ≤ ds.reverse.length
    rw [List.length_reverse, h2.len]
    exact Nat.le_refl _
theorem wlk_rt {G : Ctl} {K : Fg} {a : Addr} {ds : List Dat} {xs : List V} {F' : Hp} (h1 : SqT K F' a xs) (h2 : RelL K F' G.T ds xs) : Wlk G K (RT.ItvT K a xs.length) ds.reverse F' := by
  refine ⟨fun i d e F2 ps σ H2 R s => ?_, fun F2 ps σ H2 R s => ?_⟩
  · obtain ⟨hi, e⟩ := rev_get e
    rw [← h2.len] at hi e
    obtain ⟨v, e1, r⟩ := h2.get e
    have hl : SqT K H2 a xs := seqT (s.trans R.fh) h1
    refine ⟨⟨hi, xs, v, hl, e1⟩, fun x H3 y => ?_⟩
    obtain ⟨rfl, y⟩ := y
    have e2 := y xs hl
    rw [e1] at e2
    cases e2
    exact ⟨F2, .refl R, Rel.mono s _ _ r⟩
  · show xs.length ≤ ds.reverse.length
    rw [List.length_reverse, h2.len]
    exact Nat.le_refl _
def revIt (fe : M RV) : M (List Dat) := fun ps => (keepM fe ps).bind fun x => (items? x.1).bind fun ds => some (ds.reverse, x.2)
theorem k_rev {X : Cx} {K : Fg} {tg e : Expr} {te : TE} {fe : M RV} {p pos : Pos} (hK : X.K = K) (hg : Gl X "reversed") (hm : X.mg "reversed" = none) (h : DE X e te fe) (hs : starEach [e] X.env = (false, eval e X.env) :: starEach [] X.env := by rfl) :
    DI X tg (.Call (.Name "reversed" p) [e] [] pos) (RT.iRevA K te) (revIt fe) := by
  subst hK
  refine ⟨RT.pi_revA hg hm h.pe hs, ⟨fun G F ps σ H ds ps' R Rp e q => ?_⟩⟩
  unfold revIt at e
  obtain ⟨⟨d, ps1⟩, e1, e⟩ := Option.bind_eq_some_iff.mp e
  obtain ⟨ds', e2, e⟩ := Option.bind_eq_some_iff.mp e
  cases e
  refine keepM_go h.sn Rp e1 fun v F1 H1 P1 r1 => ?_
  rcases items_ok e2 with e2 | e2
  · have e2 : d = .list _ := e2
    subst e2
    obtain ⟨a, xs, rfl, h1, h2⟩ := rLst.mp r1
    exact ⟨a, xs, rfl, .inl ⟨SqL.of (P1.rep.fh _ _ h1), q _ F1 H1 P1 (wlk_rl h1 h2)⟩⟩
  · have e2 : d = .tuple _ := e2
    subst e2
    obtain ⟨a, xs, rfl, h1, h2⟩ := rTupE r1
    exact ⟨a, xs, rfl, .inr ⟨seqT P1.rep.fh h1, q _ F1 H1 P1 (wlk_rt h1 h2)⟩⟩

/-! ### l.index(x) of data in a list -/
def idxDD : Dat → Dat → Option RV
  | .list ds, d => if SeqAt.shaped (.list ds) && SeqAt.shaped d then (ds.findIdx? fun z => PyData.eqv z d).bind fun j => some (.im (.int (j : Nat))) else none
  | _, _ => none
def isLst : Dat → Bool
  | .list _ => true
  | _ => false
def idxDM (fa fb : M RV) : M RV := fun ps => (fa ps).bind fun x => (brw (settle x.1) x.2).bind fun d0 => if isLst d0 then (fb x.2).bind fun y => (brw (settle x.1) y.2).bind fun d => (brw y.1 y.2).bind fun e => (idxDD d e).bind fun r => some (r, y.2) else none
theorem idxDD_ok {K : Fg} {G : Ctl} {F : Hp} {ps : PS} {σ : L2.St} {H : Hp} {x y : V} {d e : Dat} {out : RV} {Q : VK} (R : Rep G K F ps σ H) (hx : BRel K F H G.T d x) (hy : BRel K F H G.T e y) (hg : idxDD d e = some out)
    (q : ∀ v F' H', Post G K F ps σ H F' ps H' → RVok G K F' ps σ H H' out v → Q v H') : rIndexD K x [y] H Q := by
  unfold idxDD at hg
  split at hg
  · rename_i ds
    split at hg
    · rename_i hs
      obtain ⟨j, ej, hg⟩ := Option.bind_eq_some_iff.mp hg
      cases hg
      simp only [Bool.and_eq_true] at hs
      have D := BRel.dp R.fh hs.1 hx
      have E := BRel.dp R.fh hs.2 hy
      obtain ⟨a, vs, rfl, _⟩ := bLst hx
      obtain ⟨hj, h1, h2⟩ := List.findIdx?_eq_some_iff_getElem.mp ej
      exact ⟨a, y, e, ds, j, ds[j], rfl, rfl, D, E, hs.1, hs.2, List.getElem?_eq_getElem hj, h1, fun m z hm hz => by
        have hmj : m < ds.length := by omega
        rw [List.getElem?_eq_getElem hmj] at hz
        rw [← Option.some.inj hz]
        simpa using h2 m hm, out_im R (by unfold Rel; rfl) q⟩
    · cases hg
  · cases hg
section
variable {X : Cx} {K : Fg} {o e : Expr} {to te : TE} {fo fe : M RV} {apos cpos : Pos}
theorem snd_idxD (ho : SndE K to fo) (he : SndE K te fe) : SndE K (tBM K "list" (rIndexD K) to (tCons te tNil)) (idxDM fo fe) := by
  refine ⟨fun G F ps σ H out ps' Q R e q => ?_⟩
  unfold idxDM at e
  obtain ⟨⟨ra, ps1⟩, e1, e⟩ := Option.bind_eq_some_iff.mp e
  obtain ⟨d0, e0, e⟩ := Option.bind_eq_some_iff.mp e
  split at e
  · rename_i hl
    obtain ⟨⟨rb, ps2⟩, e2, e⟩ := Option.bind_eq_some_iff.mp e
    obtain ⟨d, e3, e⟩ := Option.bind_eq_some_iff.mp e
    obtain ⟨d', e4, e⟩ := Option.bind_eq_some_iff.mp e
    obtain ⟨out', e5, e⟩ := Option.bind_eq_some_iff.mp e
    cases e
    refine ho.go G F ps σ H ra ps1 _ R e1 fun x F1 H1 P1 r1 => ?_
    obtain ⟨F1', P1', r1'⟩ := settle_ok P1 r1
    have b0 := brw_ok P1'.rep r1' e0
    cases d0 with
    | list ds0 =>
      obtain ⟨a, xs, rfl, h1, _⟩ := bLst b0
      refine ⟨.inl ⟨rfl, xs, SqL.of h1⟩, he.go G F1' ps1 σ H1 rb ps2 _ P1'.rep e2 fun y F2 H2 P2 r2 => ?_⟩
      refine idxDD_ok P2.rep (brw_ok P2.rep (r1'.post P2) e3) (brw_ok P2.rep r2 e4) e5 fun v F' H' P3 r3 => ?_
      exact q v F' H' ((P1'.trans P2).trans P3) (r3.back (P1'.trans P2).dom)
    | none => cases hl
    | bool _ => cases hl
    | int _ => cases hl
    | str _ => cases hl
    | tuple _ => cases hl
    | dict _ => cases hl
  · cases e
theorem k_indexD (hK : X.K = K) (hu : X.A.units + 65 < cLine) (ho : DE X o to fo) (he : DE X e te fe) (hbase : attributeBase o "index" X.env (eval o X.env) = eval o X.env := by rfl)
    (hfew : ((backTo cpos (starEach [e] X.env)).all (fun z => !z.1) && (backToKw cpos (keywordEach [] X.env)).all (fun z => z.1.isSome) && decide ([e].length + ([] : List Keyword).length + (if ([] : List Keyword).isEmpty then 0 else 1) < 30)) = true := by rfl)
    (hline : (apos.endLine == cpos.line) = true := by rfl) (hs : starEach [e] X.env = (false, eval e X.env) :: starEach [] X.env := by rfl) (hplain : (backTo cpos (starEach [] X.env)).any (·.1) = false := by rfl) :
    DE X (.Call (.Attribute o "index" apos) [e] [] cpos) (tBM K "list" (rIndexD K) to (tCons te tNil)) (idxDM fo fe) := by
  subst hK
  exact ⟨pe_bm PySem.F.plainAttrs_list PySem.F.slot_list_index PySem.F.type_list_index (mt_indexD hu) ho.pe (pa_cons he.pe pa_nil hs) hbase hfew hline hs hplain, snd_idxD ho.sn he.sn⟩
end

/-! ### isinstance(x, (A, B)) -/
def isi2D (T1 T2 : Ty6) (d : Dat) : Option RV := (tyD d).bind fun t => some (.im (.bool (isTy t T1 || isTy t T2)))
section
variable {X : Cx} {K : Fg} {a : Expr} {ta : TE} {fa : M RV} {p p1 p2 pt pos : Pos} {kk : Nat} {T1 T2 : Ty6} {x y : Str}
theorem k_isi2 (hK : X.K = K) (h1 : T1 ≠ .none) (h2 : T2 ≠ .none) (hgl : Gl X "isinstance") (hm : X.mg "isinstance" = none) (hg1 : Gl X x) (hm1 : X.mg x = none) (hv1 : bootBuiltins x = some (.type T1.nm)) (hg2 : Gl X y) (hm2 : X.mg y = none) (hv2 : bootBuiltins y = some (.type T2.nm)) (ha : DE X a ta fa)
    (hn1 : x ≠ "__name__" := by decide) (hd1 : (x == ("__debug__" : Str)) = false := by decide) (hn2 : y ≠ "__name__" := by decide) (hd2 : (y == ("__debug__" : Str)) = false := by decide)
    (he : starEach [a, .Tuple [.Name x p1, .Name y p2] kk pt] X.env = (false, eval a X.env) :: starEach [.Tuple [.Name x p1, .Name y p2] kk pt] X.env := by rfl)
    (he2 : starEach [.Tuple [.Name x p1, .Name y p2] kk pt] X.env = (false, eval (.Tuple [.Name x p1, .Name y p2] kk pt) X.env) :: starEach [] X.env := by rfl)
    (he3 : starEach [.Name x p1, .Name y p2] X.env = (false, eval (.Name x p1) X.env) :: starEach [.Name y p2] X.env := by rfl) (he4 : starEach [.Name y p2] X.env = (false, eval (.Name y p2) X.env) :: starEach [] X.env := by rfl)
    (hp : (backTo pos (starEach [.Tuple [.Name x p1, .Name y p2] kk pt] X.env)).any (·.1) = false := by rfl) :
    DE X (.Call (.Name "isinstance" p) [a, .Tuple [.Name x p1, .Name y p2] kk pt] [] pos) (tCB (rIsiT K) (tCons ta (tCons (tTup (tCons (tC (.ty T1.nm)) (tCons (tC (.ty T2.nm)) tNil))) tNil))) (unM (isi2D T1 T2) fa) := by
  subst hK
  refine ⟨pe_callB call_isiT hgl hm (by decide +kernel) (pa_cons ha.pe (pa_cons (pe_tup (pa_cons (pe_bltn (v := .ty T1.nm) hg1 hm1 hv1 rfl hn1 hd1) (pa_cons (pe_bltn (v := .ty T2.nm) hg2 hm2 hv2 rfl hn2 hd2) pa_nil he4) he3)) pa_nil he2) he) (by decide) (by decide) he hp, ⟨fun G F ps σ H out ps' Q R e q => ?_⟩⟩
  unfold unM at e
  obtain ⟨⟨ra, ps1⟩, e1, e⟩ := Option.bind_eq_some_iff.mp e
  obtain ⟨d, e3, e⟩ := Option.bind_eq_some_iff.mp e
  obtain ⟨out', e5, e⟩ := Option.bind_eq_some_iff.mp e
  cases e
  refine ha.sn.go G F ps σ H ra ps1 _ R e1 fun v F1 H1 P1 r1 => ?_
  refine ⟨by show 2 ≤ sizeLine; decide, fun tp hn => ?_⟩
  have b := (brw_ok P1.rep r1 e3).rel P1.rep.fh
  unfold isi2D at e5
  obtain ⟨t, e6, e5⟩ := Option.bind_eq_some_iff.mp e5
  cases e5
  have P3 := P1.rep.newF (o := .tup [.ty T1.nm, .ty T2.nm]) hn
  have k2 : PySem.W.kitAny X.K (.type t.nm) [.type T2.nm] = some (isTy t T2) := kitAny_cons (kit_ty (kit_all t T2 h2)) (fun z => by rw [z]; exact kitAny_nil) (fun z => z)
  have k1 : PySem.W.kitAny X.K (.type t.nm) [.type T1.nm, .type T2.nm] = some (isTy t T1 || isTy t T2) := kitAny_cons (kit_ty (kit_all t T1 h1)) (fun z => by rw [z, Bool.false_or]; exact k2) (fun z => by rw [z, Bool.true_or])
  have b2 : Rel X.K (upd H1 tp (.tup [.ty T1.nm, .ty T2.nm])) G.T d v := Rel.mono (same_upd hn) _ _ b
  exact ⟨v, tp, _, _, [.type T1.nm, .type T2.nm], _, rfl, upd_same, .cons (.ty _) (.cons (.ty _) .nil), tyX_of b2 e6, k1, q _ _ _ (P1.trans P3) (show Rel _ _ _ _ _ by unfold Rel; rfl)⟩
end
end MP

/-! ### row[::-1], list or tuple -/
namespace MP
open PySem PySem.Spec PyProof.Rows L2 HT
theorem fm_congr {α β : Type} {f g : α → Option β} : ∀ {l : List α}, (∀ x ∈ l, f x = g x) → l.filterMap f = l.filterMap g
  | [], _ => rfl
  | x :: l, h => by
    rw [List.filterMap_cons, List.filterMap_cons, h x (List.mem_cons_self ..), fm_congr fun y hy => h y (List.mem_cons_of_mem _ hy)]
section
variable {prog : Program} {w : World} {A : Around} {E : Value → Shared → Prop} {s : Shared}
theorem applied_rev {sl : Addr} {vl vu vs : Value} {n : Nat} {Q : Int × Int × Nat → Shared → Prop} (hs : s.heap.IsSliceOf sl vl vu vs) (pl : IsPart vl none) (pu : IsPart vu none) (ps : IsPart vs (some (-1)))
    (h : Q ((n : Int) - 1, -1, n) s) : wpAny (model prog w) A (Builtin.Slice.sliceApplied (.ref sl) (pure (n : Int))) Q E s := by
  obtain ⟨os, hos, hcs, hds⟩ := id hs
  unfold Builtin.Slice.sliceApplied Builtin.Slice.sliceFields
  refine wpAny_bind (wpAny_bind (wpAny_field hos hds (x := vl) rfl (wpAny_bind (wpAny_field hos hds (x := vu) rfl (wpAny_bind (wpAny_field hos hds (x := vs) rfl (wpAny_pure ?_)))))))
  refine wpAny_bind (slicePart_ ps ?_)
  show wpAny _ _ (if ((-1 : Int) == 0) = true then _ else _) _ _ s
  rw [if_neg (by decide)]
  refine wpAny_bind (slicePart_ pl (wpAny_bind (slicePart_ pu (wpAny_bind (wpAny_pure ?_)))))
  have e1 : Builtin.Slice.sliceAdjust none none ((some (-1 : Int)).getD 1) (n : Int) = ((n : Int) - 1, -1) := by
    unfold Builtin.Slice.sliceAdjust
    simp
  have e2 : Builtin.Slice.slicePlaces ((n : Int) - 1) (-1) (-1) = n := by
    unfold Builtin.Slice.slicePlaces
    by_cases h0 : n = 0
    · subst h0
      decide
    · have : (n : Int) - 1 > -1 := by omega
      simp
      omega
  rw [e1]
  show wpAny _ _ (pure ((n : Int) - 1, (-1 : Int), Builtin.Slice.slicePlaces ((n : Int) - 1) (-1) (-1))) _ _ s
  rw [e2]
  exact wpAny_pure h
theorem getItem_tuple_rev {t sl : Addr} {items : Array Value} {vl vu vs : Value} {Q : Value → Shared → Prop} (ht : IsTup s.heap t items) (hs : s.heap.IsSliceOf sl vl vu vs) (pl : IsPart vl none) (pu : IsPart vu none) (ps : IsPart vs (some (-1)))
    (h : Q (.ref s.heap.objs.size) { s with heap := s.heap.push { cls := .type "tuple", data := .seq items.toList.reverse.toArray } }) (hz : items.size ≤ sizeLine) : wpAny (model prog w) A (getItem (.ref t) (.ref sl)) Q E s := by
  have fits : sizeOk (.seq items.toList.reverse.toArray) := by
    show items.toList.reverse.toArray.size ≤ sizeLine
    rw [List.size_toArray, List.length_reverse, Array.length_toList]
    exact hz
  obtain ⟨os, hos, hcs, hds⟩ := id hs
  have kind : s.TypeIs (.ref sl) "slice" := ⟨os, hos, hcs⟩
  unfold getItem
  try with_reducible refine wpAny_holding ?_
  first | refine wpAny_bind (wpAny_pure ?_) | skip
  refine wpAny_bind (wpAny_sequenceKey ht.typeIs (by decide) ?_)
  refine wpAny_bind (wpAny_callSpecial?_slot (name := Str.ofString "__getitem__") ht.typeIs PyProof.Rows.slot_tuple_getitem (wpAny_call_entry PyProof.Rows.slot_tuple_getitem ht.typeIs entry_tuple_getitem ?_ (args_tuple_getitem _ _)))
  refine wpAny_bind (m := Builtin.Tuple.tupleItemsOf (.ref t)) (tupleItemsOf_ ht (wpAny_bind (wpAny_typeOf kind ?_)))
  rw [if_pos (by decide)]
  refine wpAny_bind (applied_rev hs pl pu ps ?_)
  have no : ¬ ((((items.size : Nat) : Int) - 1 == 0 && (-1 : Int) == 1 && items.size == items.size) = true) := by
    intro q
    rw [Bool.and_eq_true, Bool.and_eq_true] at q
    exact absurd (eq_of_beq q.1.2) (by decide)
  show wpAny _ _ (if (((items.size : Nat) : Int) - 1 == 0 && (-1 : Int) == 1 && items.size == items.size) = true then _ else _) _ _ s
  rw [if_neg no]
  have pk : ((List.range items.size).filterMap fun (m : Nat) => items[(((items.size : Nat) : Int) - 1 + (m : Int) * (-1)).toNat]?).toArray = items.toList.reverse.toArray := by
    have e : (List.range items.size).filterMap (fun (m : Nat) => items[(((items.size : Nat) : Int) - 1 + (m : Int) * (-1)).toNat]?) = ((List.range items.size).map fun k => items.size - 1 - k).filterMap (items[·]?) := by
      rw [List.filterMap_map]
      refine fm_congr fun m hm => ?_
      have := List.mem_range.mp hm
      show items[_]? = items[items.size - 1 - m]?
      congr 1
      omega
    rw [e, PySem.W.krv_range, List.filterMap_reverse, PySem.W.krv_all]
  rw [pk]
  first
    | exact wpAny_bind (m := Builtin.Tuple.tupleExact _) (wpAny_newObj_type (wpAny_pure ⟨_, rfl, wpAny_pure h⟩) fits)
    | exact wpAny_bind (m := Builtin.Tuple.tupleExact _) (wpAny_newObj_type (wpAny_bind (wpAny_pure (wpAny_pure ⟨_, rfl, wpAny_pure h⟩))) fits)
    | exact wpAny_bind (wpAny_bind (m := Builtin.Tuple.tupleExact _) (wpAny_newObj_type (wpAny_pure (wpAny_pure ⟨_, rfl, wpAny_pure h⟩)) fits))
    | exact wpAny_bind (wpAny_bind (m := Builtin.Tuple.tupleExact _) (wpAny_newObj_type (wpAny_pure ⟨_, rfl, wpAny_pure h⟩) fits))
end

def tRevA (K : Fg) (te : TE) : TE := fun σ H Q => te σ H fun x H1 => ∃ (a : Addr) (xs : List V), x = .ref a ∧ ((SqL K H1 a xs ∧ ∀ p, H1 p = none → Q (.ref p) (upd H1 p (.lst xs.reverse))) ∨ (SqT K H1 a xs ∧ NewT H1 xs.reverse Q))
theorem pe_revA {X : Cx} {te : TE} {e : Expr} {k : Nat} {p1 p2 p3 pos : Pos} (he : PE X e te) : PE X (.Subscript e (.Slice none none (some (.UnaryOp .USub (.Constant (.int 1) k p1) p2)) p3) pos) (tRevA X.K te) := by
  constructor
  intro pins s σ H Q I h
  refine Subscript_ (thn (he.run pins s σ H _ I h) fun v s1 hv => ?_)
  obtain ⟨x, H1, I1, r1, a, xs, rfl, q⟩ := hv
  obtain rfl : v = .ref a := r1
  have minus : PO X (some (.UnaryOp .USub (.Constant (.int 1) k p1) p2)) (tPart (tUn (rU fun i => .int (-i)) (tC (.int 1)))) := po_some (pe_un un_neg pe_int)
  refine wpAny_Slice (thn (po_none.run pins s1 σ H1 (fun o Hn => o = none ∧ Hn = H1) I1 ⟨rfl, rfl⟩) fun vl s2 hl => ?_)
  obtain ⟨l, H2, I2, pl, rfl, rfl⟩ := hl
  refine thn (po_none.run pins s2 σ H2 (fun o Hn => o = none ∧ Hn = H2) I2 ⟨rfl, rfl⟩) fun vu s3 hu => ?_
  obtain ⟨u, H3, I3, pu, rfl, rfl⟩ := hu
  refine thn (minus.run pins s3 σ H3 (fun o Hn => o = some (-1) ∧ Hn = H3) I3 ⟨1, rfl, -1, rfl, rfl, rfl⟩) fun vs s4 hs => ?_
  obtain ⟨o, H4, I4, ps, rfl, rfl⟩ := hs
  have I5 : Inv X pins σ H4 { s4 with heap := s4.heap.push { cls := .type "slice", data := .fields #[vl, vu, vs] } } := I4.kept (t' := s4.toks) fun b ob z => Heap.get?_push_of_some _ z
  show wpAny (model X.prog X.w) X.A (subscriptTail e (.Slice none none (some (.UnaryOp .USub (.Constant (.int 1) k p1) p2)) p3) (.ref a) (.ref s4.heap.objs.size)) (EP X pins σ Q) X.xe _
  rcases q with ⟨hx, q⟩ | ⟨hx, q⟩
  · obtain ⟨its, r, ht, hz⟩ := I5.list hx
    have len := r.length
    refine tail_any (ops := [.ref a, .ref s4.heap.objs.size]) ht.isList.typeIs (PySem.slot_list_getitem.lookup) (wpAny_getItem_list_slice ht.isList (Heap.IsSliceOf.new _ vl vu vs) pl pu ps (by decide) ?_ (by rw [List.size_toArray]; omega)) (by with_unfolding_all rfl)
    rw [PySem.W.krv_pick]
    refine ⟨V.ref _, _, I5.laid (t' := s4.toks) (o := .lst xs.reverse) (fun b ob z => Heap.get?_push_of_some _ z) (Nat.le_refl _) ⟨by rw [List.length_reverse]; exact hz, _, 0, r.reverse, Heap.get?_push_size _ rfl⟩, rfl, q _ (I5.hok.fresh (Nat.le_refl _))⟩
  · obtain ⟨its, r, ht, hz⟩ := I5.tuple hx
    refine tail_any (ops := [.ref a, .ref s4.heap.objs.size]) ht.typeIs (PyProof.Rows.slot_tuple_getitem.lookup) (getItem_tuple_rev ht (Heap.IsSliceOf.new _ vl vu vs) pl pu ps ?_ (by rw [List.size_toArray, ← r.length]; exact hz)) (by with_unfolding_all rfl)
    exact q.put I5 r.reverse (by rw [List.length_reverse]; exact hz)
def revAD : Dat → Option RV
  | .list ds => some (.nw ds.reverse)
  | .tuple ds => some (.im (.tuple ds.reverse))
  | _ => none
theorem k_revA {X : Cx} {K : Fg} {te : TE} {fe : M RV} {e : Expr} {k : Nat} {p1 p2 p3 pos : Pos} (hK : X.K = K) (he : DE X e te fe) : DE X (.Subscript e (.Slice none none (some (.UnaryOp .USub (.Constant (.int 1) k p1) p2)) p3) pos) (tRevA K te) (unM revAD fe) := by
  subst hK
  refine ⟨pe_revA he.pe, ⟨fun G F ps σ H out ps' Q R e q => ?_⟩⟩
  unfold unM at e
  obtain ⟨⟨ra, ps1⟩, e1, e⟩ := Option.bind_eq_some_iff.mp e
  obtain ⟨d, e3, e⟩ := Option.bind_eq_some_iff.mp e
  obtain ⟨out', e5, e⟩ := Option.bind_eq_some_iff.mp e
  cases e
  refine he.sn.go G F ps σ H ra ps1 _ R e1 fun x F1 H1 P1 r1 => ?_
  have b := brw_ok P1.rep r1 e3
  unfold revAD at e5
  split at e5
  · cases e5
    obtain ⟨a, xs, rfl, h1, h2⟩ := bLst b
    exact ⟨a, xs, rfl, .inl ⟨SqL.of h1, out_nw P1.rep h2.reverse fun v F' H' P3 r3 => q v F' H' (P1.trans P3) (r3.back P1.dom)⟩⟩
  · cases e5
    obtain ⟨a, xs, rfl, h1, h2⟩ := bTup P1.rep.fh b
    exact ⟨a, xs, rfl, .inr ⟨h1, out_tp P1.rep h2.reverse fun v F' H' P3 r3 => q v F' H' (P1.trans P3) (r3.back P1.dom)⟩⟩
  · cases e5
end MP

/-! the denotations worked out: rules for plain Lean, no heap in sight -/
namespace MP
open PySem PySem.Spec PyProof.Rows L2

section
variable {ps : PS} {f g : SM} {fe fa fb : M RV} {ga : M (List Dat)} {i j : Nat} {sl : List Sl} {dr : Dr}
@[simp] theorem e_seq : seqM f g ps = (f ps).bind fun o => match o with | .nx ps' => g ps' | o => some o := rfl
@[simp] theorem e_set : setM i fe ps = (fe ps).bind fun x => (setV i x.1 x.2).bind fun ps' => some (.nx ps') := rfl
@[simp] theorem e_kst {d : Dat} : kst d ps = some (.im d, ps) := rfl
@[simp] theorem e_rd : rdV i ⟨sl, dr⟩ = match sl[i]? with | some (.fr d) => some (.im d, ⟨sl, dr⟩) | some (.ow _) => some (.sl i, ⟨sl, dr⟩) | _ => none := rfl
@[simp] theorem e_op {g : Dat → Dat → Option RV} : opM g fa fb ps = (fa ps).bind fun x => (fb x.2).bind fun y => (brw (settle x.1) y.2).bind fun d => (brw y.1 y.2).bind fun e => (g d e).bind fun r => some (r, y.2) := rfl
@[simp] theorem e_un {g : Dat → Option RV} : unM g fa ps = (fa ps).bind fun x => (brw x.1 x.2).bind fun d => (g d).bind fun r => some (r, x.2) := rfl
@[simp] theorem e_bim {d : Dat} : brw (.im d) ps = some d := rfl
@[simp] theorem e_bnw {ds : List Dat} : brw (.nw ds) ps = some (.list ds) := rfl
@[simp] theorem e_bsl : brw (.sl i) ⟨sl, dr⟩ = match sl[i]? with | some (.fr d) => some d | some (.ow ds) => some (.list ds) | _ => none := rfl
@[simp] theorem e_sim {d : Dat} : settle (.im d) = .im d := rfl
@[simp] theorem e_snw {ds : List Dat} : settle (.nw ds) = .im (.list ds) := rfl
@[simp] theorem e_ssl : settle (.sl i) = .sl i := rfl
@[simp] theorem e_kim {d : Dat} : keepV (.im d) ps = some (d, ps) := rfl
@[simp] theorem e_knw {ds : List Dat} : keepV (.nw ds) ps = some (.list ds, ps) := rfl
@[simp] theorem e_ksl : keepV (.sl i) ⟨sl, dr⟩ = match sl[i]? with | some (.fr d) => some (d, ⟨sl, dr⟩) | some (.ow ds) => some (.list ds, ⟨sl.set i (.fr (.list ds)), dr⟩) | _ => none := rfl
@[simp] theorem e_keep : keepM fe ps = (fe ps).bind fun x => keepV x.1 x.2 := rfl
@[simp] theorem e_cons : consM fe ga ps = (keepM fe ps).bind fun x => (ga x.2).bind fun y => some (x.1 :: y.1, y.2) := rfl
@[simp] theorem e_nil : (M.ret [] : M (List Dat)) ps = some ([], ps) := rfl
@[simp] theorem e_retb {b : Bool} : (M.ret b : M Bool) ps = some (b, ps) := rfl
@[simp] theorem e_retn : (M.ret none : M (Option Int)) ps = some (none, ps) := rfl
@[simp] theorem e_tup : tupM ga ps = (ga ps).bind fun x => if line x.1.length then some (.im (.tuple x.1), x.2) else none := rfl
@[simp] theorem e_lst : lstM ga ps = (ga ps).bind fun x => if line x.1.length then some (.nw x.1, x.2) else none := rfl
@[simp] theorem e_cn {g : List Dat → Option RV} {f : M (List Dat)} : cnM g f ps = (f ps).bind fun x => (g x.1).bind fun r => some (r, x.2) := rfl
@[simp] theorem e_svi {d : Dat} : setV i (.im d) ⟨sl, dr⟩ = some ⟨sl.set i (.fr d), dr⟩ := rfl
@[simp] theorem e_svn {ds : List Dat} : setV i (.nw ds) ⟨sl, dr⟩ = some ⟨sl.set i (.ow ds), dr⟩ := rfl
@[simp] theorem e_svs : setV i (.sl j) ⟨sl, dr⟩ = (keepV (.sl j) ⟨sl, dr⟩).bind fun x => some (x.2.put i (.fr x.1)) := rfl
@[simp] theorem e_put {s : Sl} : PS.put ⟨sl, dr⟩ i s = ⟨sl.set i s, dr⟩ := rfl
@[simp] theorem e_nm {d : Dat} : nmT i d ⟨sl, dr⟩ = some ⟨sl.set i (.fr d), dr⟩ := rfl
@[simp] theorem e_tst {f : M RV} : tstM f ps = (f ps).bind fun x => (asB x.1).bind fun b => some (b, x.2) := rfl
@[simp] theorem e_asB {b : Bool} : asB (.im (.bool b)) = some b := rfl
@[simp] theorem e_tru {f : M RV} : truM f ps = (f ps).bind fun x => (brw x.1 x.2).bind fun d => (truD d).bind fun b => some (b, x.2) := rfl
@[simp] theorem e_truB {b : Bool} : truD (.bool b) = some b := rfl
@[simp] theorem e_and {f g : M Bool} : andM f g ps = (f ps).bind fun x => if x.1 then g x.2 else some (false, x.2) := rfl
@[simp] theorem e_or {f g : M Bool} : orM f g ps = (f ps).bind fun x => if x.1 then some (true, x.2) else g x.2 := rfl
@[simp] theorem e_not {f : M Bool} : notM f ps = (f ps).bind fun x => some (!x.1, x.2) := rfl
@[simp] theorem e_andV {f g : M RV} : andVM f g ps = (f ps).bind fun x => (asB x.1).bind fun b => if b then g x.2 else some (.im (.bool false), x.2) := rfl
@[simp] theorem e_orV {f g : M RV} : orVM f g ps = (f ps).bind fun x => (asB x.1).bind fun b => if b then some (.im (.bool true), x.2) else g x.2 := rfl
@[simp] theorem e_notV {f : M RV} : notVM f ps = (f ps).bind fun x => (asB x.1).bind fun b => some (.im (.bool (!b)), x.2) := rfl
@[simp] theorem e_if {c : M Bool} {f g : M RV} : ifM c f g ps = (c ps).bind fun x => if x.1 then f x.2 else g x.2 := rfl
@[simp] theorem e_ite {c : M Bool} {f g : SM} : iteM c f g ps = (c ps).bind fun x => if x.1 then f x.2 else g x.2 := rfl
@[simp] theorem e_nx : nxM ps = some (.nx ps) := rfl
@[simp] theorem e_ret : retM fe ps = (fe ps).bind fun x => retV x.1 x.2 := rfl
@[simp] theorem e_ri {d : Dat} : retV (.im d) ps = some (.rt (.im d) ps) := rfl
@[simp] theorem e_rn {ds : List Dat} : retV (.nw ds) ps = some (.rt (.nw ds) ps) := rfl
@[simp] theorem e_rs : retV (.sl i) ⟨sl, dr⟩ = match sl[i]? with | some (.fr d) => some (.rt (.im d) ⟨sl, dr⟩) | some (.ow ds) => some (.rt (.nw ds) ⟨sl, dr⟩) | _ => none := rfl
@[simp] theorem e_call {fn : Fn} : callM fn ga ps = (ga ps).bind fun x => (fn x.1 x.2.dr).bind fun y => some (y.1, { x.2 with dr := y.2 }) := rfl
@[simp] theorem e_app : appM j fe ⟨sl, dr⟩ = match sl[j]? with
  | some (.ow _) => (keepM fe ⟨sl, dr⟩).bind fun x => match x.2.sl[j]? with
    | some (.ow ds) => if decide (ds.length < sizeLine) then some (.nx (x.2.put j (.ow (ds ++ [x.1])))) else none
    | _ => none
  | _ => none := rfl
@[simp] theorem e_sto {fi : M RV} : stoM j fi fe ps = (keepM fe ps).bind fun x => match x.2.sl[j]? with
  | some (.ow _) => (keepM fi x.2).bind fun y => match y.1, y.2.sl[j]? with
    | .int k, some (.ow ds) => (ixN ds.length k).bind fun n => some (.nx (y.2.put j (.ow (ds.set n x.1))))
    | _, _ => none
  | _ => none := rfl
@[simp] theorem e_pop : popM j fe ⟨sl, dr⟩ = match sl[j]? with
  | some (.ow _) => (keepM fe ⟨sl, dr⟩).bind fun x => match x.1, x.2.sl[j]? with
    | .int i, some (.ow ds) => if b62 i then (seqIndex? i ds.length).bind fun k => ds[k]?.bind fun y => some (.im y, x.2.put j (.ow (ds.eraseIdx k))) else none
    | _, _ => none
  | _ => none := rfl
@[simp] theorem e_for {fi : M (List Dat)} {tgt : Dat → PS → Option PS} {body : SM} : forSM fi tgt body ps = (fi ps).bind fun x => forL tgt body x.1 x.2 := rfl
@[simp] theorem e_seqI : seqIt fe ps = (keepM fe ps).bind fun x => (items? x.1).bind fun ds => some (ds, x.2) := rfl
@[simp] theorem e_itl {ds : List Dat} : items? (.list ds) = some ds := rfl
@[simp] theorem e_itt {ds : List Dat} : items? (.tuple ds) = some ds := rfl
@[simp] theorem e_lc {vs : List Nat} {fi : M (List Dat)} {tgt : Dat → PS → Option PS} {tst : M Bool} {elt : M RV} : lcM vs fi tgt tst elt ps = (fi ps).bind fun x => (lcL vs tgt tst elt x.1 [] (wipeP vs x.2)).bind fun y => some (.nw y.1, restP vs x.2 y.2) := rfl
@[simp] theorem e_wipe {vs : List Nat} : wipeP vs ⟨sl, dr⟩ = ⟨vs.foldr (fun v l => l.set v Sl.un) sl, dr⟩ := rfl
@[simp] theorem e_rest {vs : List Nat} {ps0 : PS} : restP vs ps0 ⟨sl, dr⟩ = ⟨vs.foldr (fun v l => l.set v (keepSl ps0.sl[v]?)) sl, dr⟩ := rfl
@[simp] theorem e_keepF {d : Dat} : keepSl (some (.fr d)) = .fr d := rfl
@[simp] theorem e_keepU : keepSl (some .un) = .un := rfl
@[simp] theorem e_keepO {ds : List Dat} : keepSl (some (.ow ds)) = .un := rfl
@[simp] theorem e_asg {tg : Dat → PS → Option PS} : asgM tg fe ps = (keepM fe ps).bind fun x => (tg x.1 x.2).bind fun ps' => some (.nx ps') := rfl
@[simp] theorem e_tupT {n : Nat} {f : List Dat → PS → Option PS} {ds : List Dat} : tupT n f (.tuple ds) ps = if ds.length = n then f ds ps else none := rfl
@[simp] theorem e_tupTL {n : Nat} {f : List Dat → PS → Option PS} {ds : List Dat} : tupT n f (.list ds) ps = if ds.length = n then f ds ps else none := rfl
@[simp] theorem e_tupP {n : Nat} {f : List Dat → PS → Option PS} {x y : Dat} : tupT n f (.dict [(x, y)]) ps = if 2 = n then f [x, y] ps else none := rfl
@[simp] theorem e_consT {f : Dat → PS → Option PS} {g : List Dat → PS → Option PS} {d : Dat} {r : List Dat} : consTs f g (d :: r) ps = (f d ps).bind fun ps1 => g r ps1 := rfl
@[simp] theorem e_nilT : nilTs [] ps = some ps := rfl
@[simp] theorem e_subT {fi : M RV} {d : Dat} : subT j fi d ⟨sl, dr⟩ = match sl[j]? with
  | some (.ow _) => (keepM fi ⟨sl, dr⟩).bind fun y => match y.1, y.2.sl[j]? with
    | .int k, some (.ow ds) => (ixN ds.length k).bind fun n => some (y.2.put j (.ow (ds.set n d)))
    | _, _ => none
  | _ => none := rfl
@[simp] theorem e_part : partM fa ps = (fa ps).bind fun x => match x.1 with | .im (.int i) => some (some i, x.2) | _ => none := rfl
@[simp] theorem e_sl {fl fh : M (Option Int)} : slM fa fl fh ps = (fa ps).bind fun x => (fl x.2).bind fun l => (fh l.2).bind fun h => (brw (settle x.1) h.2).bind fun d => (slD d l.1 h.1).bind fun r => some (r, h.2) := rfl
@[simp] theorem e_slL {ds : List Dat} {lo hi : Option Int} : slD (.list ds) lo hi = some (.nw (cutD ds lo hi)) := rfl
@[simp] theorem e_slT {ds : List Dat} {lo hi : Option Int} : slD (.tuple ds) lo hi = some (.im (.tuple (cutD ds lo hi))) := rfl
@[simp] theorem e_rng1 : rng1 ga ps = (ga ps).bind fun x => match x.1 with | [.int j] => if b62 j then some (rgD 0 j.toNat, x.2) else none | _ => none := rfl
@[simp] theorem e_rng2 : rng2 ga ps = (ga ps).bind fun x => match x.1 with | [.int i, .int j] => if b62 i && b62 j then some (rgD i (j - i).toNat, x.2) else none | _ => none := rfl
@[simp] theorem e_addI {i j : Int} : addD (.int i) (.int j) = some (.im (.int (i + j))) := rfl
@[simp] theorem e_subI {i j : Int} : subD (.int i) (.int j) = some (.im (.int (i - j))) := rfl
@[simp] theorem e_addL {xs ys : List Dat} : addD (.list xs) (.list ys) = if line (xs.length + ys.length) then some (.nw (xs ++ ys)) else none := rfl
@[simp] theorem e_addT {xs ys : List Dat} : addD (.tuple xs) (.tuple ys) = if line (xs.length + ys.length) then some (.im (.tuple (xs ++ ys))) else none := rfl
@[simp] theorem e_ltI {i j : Int} : ltD (.int i) (.int j) = some (.im (.bool (decide (i < j)))) := rfl
@[simp] theorem e_cmpI {p : Int → Int → Bool} {i j : Int} : cmpI p (.int i) (.int j) = some (.im (.bool (p i j))) := rfl
@[simp] theorem e_lenL {ds : List Dat} : lenD (.list ds) = some (.im (.int ds.length)) := rfl
@[simp] theorem e_lenT {ds : List Dat} : lenD (.tuple ds) = some (.im (.int ds.length)) := rfl
@[simp] theorem e_truTok {y : Dat × Dat} {z : Dat} {l : List (Dat × Dat)} {ds : List Dat} : truD (.dict (y :: (z, .list ds) :: l)) = some (!ds.isEmpty) := rfl
@[simp] theorem e_lenTok {y : Dat × Dat} {z : Dat} {l : List (Dat × Dat)} {ds : List Dat} : lenD (.dict (y :: (z, .list ds) :: l)) = some (.im (.int ds.length)) := rfl
@[simp] theorem e_ixTok {y : Dat × Dat} {z : Dat} {l : List (Dat × Dat)} {ds : List Dat} {i : Int} : ixD (.dict (y :: (z, .list ds) :: l)) (.int i) = (atI ds i).bind fun d => some (.im d) := rfl
@[simp] theorem e_listL {ds : List Dat} : listD (.list ds) = some (.nw ds) := rfl
@[simp] theorem e_listT {ds : List Dat} : listD (.tuple ds) = some (.nw ds) := rfl
@[simp] theorem e_tupL {ds : List Dat} : tupleD (.list ds) = some (.im (.tuple ds)) := rfl
@[simp] theorem e_tupT2 {ds : List Dat} : tupleD (.tuple ds) = some (.im (.tuple ds)) := rfl
@[simp] theorem e_intI {i : Int} : intD (.int i) = some (.im (.int i)) := rfl
@[simp] theorem e_ixL {ds : List Dat} {i : Int} : ixD (.list ds) (.int i) = (atI ds i).bind fun d => some (.im d) := rfl
@[simp] theorem e_ixT {ds : List Dat} {i : Int} : ixD (.tuple ds) (.int i) = (atI ds i).bind fun d => some (.im d) := rfl
@[simp] theorem e_min2 {i j : Int} : min2D [.int i, .int j] = some (.im (.int (if j < i then j else i))) := rfl
@[simp] theorem e_max2 {i j : Int} : max2D [.int i, .int j] = some (.im (.int (if j > i then j else i))) := rfl
@[simp] theorem e_isB {a b : Bool} : isBD (.bool a) (.bool b) = some (.im (.bool (decide (a = b)))) := rfl
@[simp] theorem e_expr : exprM fe ps = (fe ps).bind fun x => some (.nx x.2) := rfl
@[simp] theorem e_aug {g : Dat → Dat → Option RV} : augM i g fe ⟨sl, dr⟩ = match sl[i]? with
  | some (.fr d) => (keepM fe ⟨sl, dr⟩).bind fun x => (g d x.1).bind fun r => match r with
    | .im d' => some (.nx (x.2.put i (.fr d')))
    | _ => none
  | _ => none := rfl
@[simp] theorem e_augI {f : Int → Int → Int} {i j : Int} : augI f (.int i) (.int j) = some (.im (.int (f i j))) := rfl
@[simp] theorem e_par : parM i j fa fb ps = (fa ps).bind fun x => (fb x.2).bind fun y => (slotV x.1 y.2).bind fun u => (slotV y.1 u.2).bind fun w => some (.nx ((w.2.put i u.1).put j w.1)) := rfl
@[simp] theorem e_sli {d : Dat} : slotV (.im d) ps = some (.fr d, ps) := rfl
@[simp] theorem e_sln {ds : List Dat} : slotV (.nw ds) ps = some (.ow ds, ps) := rfl
@[simp] theorem e_sls : slotV (.sl j) ps = (keepV (.sl j) ps).bind fun x => some (.fr x.1, x.2) := rfl
@[simp] theorem e_body {n : Nat} {b : SM} {ds : List Dat} {dr : Dr} : bodyFn n b ds dr = (b ⟨ds.map Sl.fr ++ List.replicate (n - ds.length) Sl.un, dr⟩).bind fun o => match o with | .rt r ps => some (r, ps.dr) | .nx ps => some (.im .none, ps.dr) | _ => none := rfl
@[simp] theorem e_par3 {l : Nat} : par3M i j l ga ps = (ga ps).bind fun x => match x.1 with
  | [a, b, c] => some (.nx (((x.2.put i (.fr a)).put j (.fr b)).put l (.fr c)))
  | _ => none := rfl
@[simp] theorem e_idx : idxM fa fb ps = (keepM fa ps).bind fun x => (items? x.1).bind fun ds => (fb x.2).bind fun y => match y.1 with
  | .im (.int k) => (ints? ds).bind fun ns => if decide (k ∈ ns) then some (.im (.int (ns.idxOf k : Nat)), y.2) else none
  | _ => none := rfl
@[simp] theorem e_rg1 : rg1M fa ps = (fa ps).bind fun x => (asI x.1).bind fun n => some ((0, n), x.2) := rfl
@[simp] theorem e_rg2 : rg2M fa fb ps = (fa ps).bind fun x => (asI x.1).bind fun i => (fb x.2).bind fun y => (asI y.1).bind fun j => some ((i, j), y.2) := rfl
@[simp] theorem e_asI {n : Int} : asI (.im (.int n)) = some n := rfl
@[simp] theorem e_listRg {f : M (Int × Int)} : listRgM f ps = (f ps).bind fun x => if rgB x.1 then some (.nw (rgD x.1.1 (x.1.2 - x.1.1).toNat), x.2) else none := rfl
@[simp] theorem e_tupRg {f : M (Int × Int)} : tupleRgM f ps = (f ps).bind fun x => if rgB x.1 then some (.im (.tuple (rgD x.1.1 (x.1.2 - x.1.1).toNat)), x.2) else none := rfl
@[simp] theorem e_enI : enIt fe ps = (keepM fe ps).bind fun x => (items? x.1).bind fun ds => some (enL ds, x.2) := rfl
@[simp] theorem e_chain {g g' : Dat → Dat → Option RV} {fc : M RV} : chainM g g' fa fb fc ps = (fa ps).bind fun x => (fb x.2).bind fun y => (brw (settle x.1) y.2).bind fun d => (brw (settle y.1) y.2).bind fun e => (g d e).bind fun r => (asB r).bind fun k =>
    if k then (fc y.2).bind fun z => (brw (settle y.1) z.2).bind fun e2 => (brw z.1 z.2).bind fun e3 => (g' e2 e3).bind fun r' => some (r', z.2) else some (.im (.bool false), y.2) := rfl
@[simp] theorem e_intB {k : Bool} : intD (.bool k) = some (.im (.int (if k then 1 else 0))) := rfl
@[simp] theorem e_sumT {ds : List Dat} : sumAD (.tuple ds) = (ints? ds).bind fun ns => some (.im (.int ns.sum)) := rfl
@[simp] theorem e_sumL {ds : List Dat} : sumAD (.list ds) = (ints? ds).bind fun ns => some (.im (.int ns.sum)) := rfl
@[simp] theorem e_ins : insM j ga ⟨sl, dr⟩ = match sl[j]? with
  | some (.ow _) => (ga ⟨sl, dr⟩).bind fun x => match x.1, x.2.sl[j]? with
    | [.int i, d], some (.ow ds) => if decide (0 ≤ i) && b62 i && decide (ds.length < sizeLine) then some (.nx (x.2.put j (.ow (ds.take i.toNat ++ [d] ++ ds.drop i.toNat)))) else none
    | _, _ => none
  | _ => none := rfl
@[simp] theorem e_revI : revIt fe ps = (keepM fe ps).bind fun x => (items? x.1).bind fun ds => some (ds.reverse, x.2) := rfl
@[simp] theorem e_anyL {ds : List Dat} : anyD (.list ds) = (bools? ds).bind fun bs => some (.im (.bool (bs.any id))) := rfl
@[simp] theorem e_allL {ds : List Dat} : allD (.list ds) = (bools? ds).bind fun bs => some (.im (.bool (bs.all id))) := rfl
@[simp] theorem e_revAL {ds : List Dat} : revAD (.list ds) = some (.nw ds.reverse) := rfl
@[simp] theorem e_revAT {ds : List Dat} : revAD (.tuple ds) = some (.im (.tuple ds.reverse)) := rfl
@[simp] theorem e_abs {i : Int} : absD (.int i) = some (.im (.int (if i < 0 then -i else i))) := rfl
@[simp] theorem e_neg {i : Int} : negD (.int i) = some (.im (.int (-i))) := rfl
end

/-! ### loops -/
theorem forL_inv {α : Type} {f : α → Dat} {xs : List α} {tgt : Dat → PS → Option PS} {body : SM} (I : List α → PS → Prop)
    (step : ∀ pre x post ps, xs = pre ++ x :: post → I pre ps → ∃ ps1 ps2, tgt (f x) ps = some ps1 ∧ (body ps1 = some (.nx ps2) ∨ body ps1 = some (.ct ps2)) ∧ I (pre ++ [x]) ps2) {ps : PS} (h0 : I [] ps) :
    ∃ ps', forL tgt body (xs.map f) ps = some (.nx ps') ∧ I xs ps' := by
  suffices h : ∀ post pre ps, xs = pre ++ post → I pre ps → ∃ ps', forL tgt body (post.map f) ps = some (.nx ps') ∧ I xs ps' from h xs [] ps rfl h0
  intro post
  induction post with
  | nil =>
    intro pre ps e h
    rw [List.append_nil] at e
    subst e
    exact ⟨ps, rfl, h⟩
  | cons x post ih =>
    intro pre ps e h
    obtain ⟨ps1, ps2, e1, e2, h2⟩ := step pre x post ps e h
    obtain ⟨ps', e3, h3⟩ := ih (pre ++ [x]) ps2 (by rw [e]; simp) h2
    refine ⟨ps', ?_, h3⟩
    rcases e2 with e2 | e2 <;> simp only [List.map_cons, forL, e1, e2, Option.bind_some, e3]

theorem whileM_inv {c : M Bool} {b : SM} (I : Nat → PS → Prop) (D : PS → Prop)
    (step : ∀ n ps, I n ps → ∃ k ps1, c ps = some (k, ps1) ∧ (k = false → D ps1) ∧ (k = true → ∃ ps2 m, (b ps1 = some (.nx ps2) ∨ b ps1 = some (.ct ps2)) ∧ m < n ∧ I m ps2)) {n : Nat} {ps : PS} (h0 : I n ps) :
    ∃ ps', whileM c b ps = some (.nx ps') ∧ D ps' := by
  induction n using Nat.strongRecOn generalizing ps with
  | ind n ih =>
    obtain ⟨k, ps1, e1, hf, ht⟩ := step n ps h0
    rw [whileM_eq, e1]
    cases k with
    | false => exact ⟨ps1, rfl, hf rfl⟩
    | true =>
      obtain ⟨ps2, m, e2, hm, h2⟩ := ht rfl
      obtain ⟨ps', e3, h3⟩ := ih m hm h2
      refine ⟨ps', ?_, h3⟩
      rcases e2 with e2 | e2 <;> simp only [Option.bind_some, if_true, e2, e3]

theorem lcL_inv {α : Type} {f : α → Dat} {xs : List α} {vs : List Nat} {tgt : Dat → PS → Option PS} {tst : M Bool} {elt : M RV} (I : List α → List Dat → PS → Prop) (hl : xs.length ≤ sizeLine)
    (step : ∀ pre x post acc ps, xs = pre ++ x :: post → I pre acc ps → ∃ ps1 k ps2, tgt (f x) ps = some ps1 ∧ tst ps1 = some (k, ps2) ∧ (k = false → I (pre ++ [x]) acc (wipeP vs ps2)) ∧ (k = true → ∃ d ps3, keepM elt ps2 = some (d, ps3) ∧ I (pre ++ [x]) (acc ++ [d]) (wipeP vs ps3))) {ps : PS} (h0 : I [] [] ps) :
    ∃ acc ps', lcL vs tgt tst elt (xs.map f) [] ps = some (acc, ps') ∧ I xs acc ps' := by
  suffices h : ∀ post pre acc ps, xs = pre ++ post → acc.length ≤ pre.length → I pre acc ps → ∃ acc' ps', lcL vs tgt tst elt (post.map f) acc ps = some (acc', ps') ∧ I xs acc' ps' from h xs [] [] ps rfl (Nat.le_refl _) h0
  intro post
  induction post with
  | nil =>
    intro pre acc ps e _ h
    rw [List.append_nil] at e
    subst e
    exact ⟨acc, ps, rfl, h⟩
  | cons x post ih =>
    intro pre acc ps e hle h
    obtain ⟨ps1, k, ps2, e1, e2, hf, ht⟩ := step pre x post acc ps e h
    have hlen : acc.length < sizeLine := by
      have : xs.length = pre.length + (post.length + 1) := by rw [e]; simp
      omega
    cases k with
    | false =>
      obtain ⟨acc', ps', e3, h3⟩ := ih (pre ++ [x]) acc _ (by rw [e]; simp) (by simp; omega) (hf rfl)
      refine ⟨acc', ps', ?_, h3⟩
      rw [List.map_cons]
      show ((tgt (f x) ps).bind fun ps1 => (tst ps1).bind fun x => if x.1 then (keepM elt x.2).bind fun y => if decide (acc.length < sizeLine) then lcL vs tgt tst elt (post.map f) (acc ++ [y.1]) (wipeP vs y.2) else none else lcL vs tgt tst elt (post.map f) acc (wipeP vs x.2)) = _
      rw [e1, Option.bind_some, e2, Option.bind_some, if_neg (show ¬ ((false : Bool) = true) from Bool.false_ne_true), e3]
    | true =>
      obtain ⟨d, ps3, e4, h4⟩ := ht rfl
      obtain ⟨acc', ps', e3, h3⟩ := ih (pre ++ [x]) (acc ++ [d]) _ (by rw [e]; simp) (by simp; omega) h4
      refine ⟨acc', ps', ?_, h3⟩
      rw [List.map_cons]
      show ((tgt (f x) ps).bind fun ps1 => (tst ps1).bind fun x => if x.1 then (keepM elt x.2).bind fun y => if decide (acc.length < sizeLine) then lcL vs tgt tst elt (post.map f) (acc ++ [y.1]) (wipeP vs y.2) else none else lcL vs tgt tst elt (post.map f) acc (wipeP vs x.2)) = _
      rw [e1, Option.bind_some, e2, Option.bind_some, if_pos rfl, e4, Option.bind_some, if_pos (decide_eq_true hlen), e3]

/-- a comprehension that leaves everything as it was -/
theorem lcL_map {α : Type} {f : α → Dat} {xs : List α} {vs : List Nat} {tgt : Dat → PS → Option PS} {tst : M Bool} {elt : M RV} {ps : PS} (p : α → Bool) (g : α → Dat) (hl : xs.length ≤ sizeLine)
    (step : ∀ x, x ∈ xs → ∃ ps1 ps2, tgt (f x) ps = some ps1 ∧ tst ps1 = some (p x, ps2) ∧ (p x = false → wipeP vs ps2 = ps) ∧ (p x = true → ∃ ps3, keepM elt ps2 = some (g x, ps3) ∧ wipeP vs ps3 = ps)) :
    lcL vs tgt tst elt (xs.map f) [] ps = some ((xs.filter p).map g, ps) := by
  obtain ⟨acc, ps', e, e1, e2⟩ := lcL_inv (f := f) (xs := xs) (vs := vs) (tgt := tgt) (tst := tst) (elt := elt) (fun pre acc q => acc = (pre.filter p).map g ∧ q = ps) hl (fun pre x post acc q hx ⟨ea, eq⟩ => by
    subst ea eq
    obtain ⟨ps1, ps2, h1, h2, hf, ht⟩ := step x (by rw [hx]; simp)
    refine ⟨ps1, p x, ps2, h1, h2, fun k => ⟨by rw [List.filter_append, List.filter_cons_of_neg (by simp [k])]; simp, hf k⟩, fun k => ?_⟩
    obtain ⟨ps3, h3, h4⟩ := ht k
    exact ⟨g x, ps3, h3, by rw [List.filter_append, List.filter_cons_of_pos k]; simp, h4⟩) (ps := ps) ⟨rfl, rfl⟩
  subst e1 e2
  exact e

/-! ### numbers in rows -/
def nL (xs : List Nat) : List Dat := xs.map fun (k : Nat) => PyData.int (k : Int)
theorem nL_nil : nL [] = [] := rfl
@[simp] theorem nL_len {xs : List Nat} : (nL xs).length = xs.length := List.length_map _
theorem nL_app {xs ys : List Nat} : nL (xs ++ ys) = nL xs ++ nL ys := List.map_append
theorem nL_snoc {xs : List Nat} {k : Nat} : nL xs ++ [.int (k : Int)] = nL (xs ++ [k]) := (nL_app (ys := [k])).symm
theorem nL_get {xs : List Nat} {i : Nat} : (nL xs)[i]? = xs[i]?.map fun (k : Nat) => PyData.int (k : Int) := List.getElem?_map
theorem nL_at {xs : List Nat} {i v : Nat} (h : xs[i]? = some v) : atI (nL xs) (i : Int) = some (.int (v : Int)) := atI_nat (by rw [nL_get, h]; rfl)
theorem nL_set {xs : List Nat} {i v : Nat} : (nL xs).set i (.int (v : Int)) = nL (xs.set i v) := (List.map_set).symm
theorem nL_erase : ∀ {xs : List Nat} {i : Nat}, (nL xs).eraseIdx i = nL (xs.eraseIdx i)
  | [], i => by simp [nL]
  | x :: xs, 0 => rfl
  | x :: xs, i + 1 => congrArg (PyData.int (x : Int) :: ·) (nL_erase (xs := xs) (i := i))
theorem perm_erase {α : Type} : ∀ {xs : List α} {i : Nat} {v : α}, xs[i]? = some v → (v :: xs.eraseIdx i).Perm xs
  | [], i, v, h => by cases h
  | x :: xs, 0, v, h => by
    cases h
    exact List.Perm.refl _
  | x :: xs, i + 1, v, h => by
    have := perm_erase (xs := xs) (i := i) (v := v) h
    exact (List.Perm.swap x v _).trans (this.cons x)
theorem ixN_nat {n i : Nat} (h : i < n) : ixN n (i : Int) = some i := by
  unfold ixN
  rw [if_pos (by omega), if_pos (by omega), Int.toNat_natCast]
theorem seqI_nat {n i : Nat} (h : i < n) : seqIndex? (i : Int) n = some i := by
  unfold seqIndex?
  have h0 : (if (i : Int) < 0 then (i : Int) + (n : Int) else (i : Int)) = (i : Int) := if_neg (by omega)
  simp only [h0]
  have : (decide (0 ≤ (i : Int)) && decide ((i : Int) < (n : Int))) = true := by simp; omega
  rw [if_pos this, Int.toNat_natCast]
theorem rgD_nat {n : Nat} : rgD 0 n = nL (List.range n) := by
  unfold rgD nL
  refine List.map_congr_left fun i _ => ?_
  rw [Int.zero_add]
theorem b62_nat {n : Nat} (h : n ≤ 1000000) : b62 (n : Int) = true := by
  unfold b62
  rw [decide_eq_true_eq]
  omega
theorem line_of {n : Nat} (h : n ≤ 1000000) : line n = true := decide_eq_true (by have : sizeLine = 16777216 := rfl; omega)
theorem sz_of {n : Nat} (h : n ≤ 1000000) : n < sizeLine := by have : sizeLine = 16777216 := rfl; omega
theorem eqv_int {i j : Int} : PyData.eqv (.int i) (.int j) = decide (i = j) := by
  rw [PyData.eqv]
  by_cases h : i = j <;> simp [h]
theorem eqv_nat {i j : Nat} : PyData.eqv (.int (i : Int)) (.int (j : Int)) = decide (i = j) := by
  rw [eqv_int]
  exact decide_eq_decide.mpr Int.ofNat_inj
theorem any_nL {xs : List Nat} {k : Nat} : ((nL xs).any fun z => PyData.eqv z (.int (k : Int))) = decide (k ∈ xs) := by
  induction xs with
  | nil => simp [nL]
  | cons x xs ih =>
    show (PyData.eqv (.int (x : Int)) (.int (k : Int)) || (nL xs).any fun z => PyData.eqv z (.int (k : Int))) = _
    rw [eqv_nat, ih]
    by_cases h : x = k
    · simp [h]
    · have : ¬ k = x := fun z => h z.symm
      simp [h, this]

/-! what equality takes: flat rows of numbers, rows of such rows -/
theorem sh_int {i : Int} : SeqAt.shaped (.int i) = true := by
  unfold SeqAt.shaped
  rw [PyData.canLay0, PyData.depth]
  rfl
theorem sh_bool {b : Bool} : SeqAt.shaped (.bool b) = true := by
  unfold SeqAt.shaped
  rw [PyData.canLay0, PyData.depth]
  rfl
/-- shaped, of a depth -/
def shd (n : Nat) (d : Dat) : Prop := d.canLay0 = true ∧ d.depth ≤ n
theorem shd_ok {n : Nat} {d : Dat} (h : shd n d) (hn : n ≤ 64) : SeqAt.shaped d = true := by
  unfold SeqAt.shaped
  rw [h.1, decide_eq_true (Nat.le_trans h.2 hn)]
  rfl
theorem shd_int {n : Nat} {i : Int} : shd n (.int i) := ⟨by rw [PyData.canLay0], by rw [PyData.depth]; exact Nat.zero_le _⟩
theorem shd_bool {n : Nat} {b : Bool} : shd n (.bool b) := ⟨by rw [PyData.canLay0], by rw [PyData.depth]; exact Nat.zero_le _⟩
theorem shd_none {n : Nat} : shd n .none := ⟨by rw [PyData.canLay0], by rw [PyData.depth]; exact Nat.zero_le _⟩
theorem shd_all {n : Nat} : ∀ {ds : List Dat}, (∀ d ∈ ds, shd n d) → PyData.canLayAll0 ds = true ∧ PyData.depthAll ds ≤ n
  | [], _ => ⟨by rw [PyData.canLayAll0], by rw [PyData.depthAll]; exact Nat.zero_le _⟩
  | d :: ds, h => by
    have h1 := h d (List.mem_cons_self ..)
    have h2 := shd_all (ds := ds) fun x hx => h x (List.mem_cons_of_mem _ hx)
    exact ⟨by rw [PyData.canLayAll0, h1.1, h2.1]; rfl, by rw [PyData.depthAll]; exact Nat.max_le.mpr ⟨h1.2, h2.2⟩⟩
theorem shd_list {n : Nat} {ds : List Dat} (h : ∀ d ∈ ds, shd n d) : shd (n + 1) (.list ds) :=
  ⟨by rw [PyData.canLay0]; exact (shd_all h).1, by rw [PyData.depth]; exact Nat.succ_le_succ (shd_all h).2⟩
theorem shd_tuple {n : Nat} {ds : List Dat} (h : ∀ d ∈ ds, shd n d) : shd (n + 1) (.tuple ds) :=
  ⟨by rw [PyData.canLay0]; exact (shd_all h).1, by rw [PyData.depth]; exact Nat.succ_le_succ (shd_all h).2⟩
theorem shd_nL {n : Nat} {xs : List Nat} : ∀ d ∈ nL xs, shd n d := by
  intro d hd
  obtain ⟨k, _, rfl⟩ := List.mem_map.mp hd
  exact shd_int
theorem nin_nL {xs : List Nat} {k : Nat} : ninD (.int (k : Int)) (.list (nL xs)) = some (.im (.bool (!decide (k ∈ xs)))) := by
  show (if SeqAt.shaped _ && SeqAt.shaped _ then _ else _) = _
  rw [sh_int, shd_ok (shd_list (n := 0) shd_nL) (by decide), Bool.and_self, if_pos rfl, if_pos rfl, any_nL]
theorem in_nL {xs : List Nat} {k : Nat} : inD (.int (k : Int)) (.list (nL xs)) = some (.im (.bool (decide (k ∈ xs)))) := by
  show (if SeqAt.shaped _ && SeqAt.shaped _ then _ else _) = _
  rw [sh_int, shd_ok (shd_list (n := 0) shd_nL) (by decide), Bool.and_self, if_pos rfl, if_neg (by decide), any_nL]
theorem qe_int {i j : Int} : eqD (.int i) (.int j) = some (.im (.bool (decide (i = j)))) := by
  unfold eqD
  rw [sh_int, sh_int, Bool.and_self, if_pos rfl, eqv_int]
theorem qn_int {i j : Int} : neD (.int i) (.int j) = some (.im (.bool (!decide (i = j)))) := by
  unfold neD
  rw [sh_int, sh_int, Bool.and_self, if_pos rfl, eqv_int]
mutual
theorem eqv_refl : ∀ d : Dat, d.canLay0 = true → PyData.eqv d d = true
  | .none, _ => by rw [PyData.eqv]
  | .bool _, _ => by rw [PyData.eqv]; simp
  | .int _, _ => by rw [PyData.eqv]; simp
  | .str _, _ => by rw [PyData.eqv]; simp
  | .list xs, h => by
    rw [PyData.eqv]
    rw [PyData.canLay0] at h
    exact eqvAll_refl xs h
  | .tuple xs, h => by
    rw [PyData.eqv]
    rw [PyData.canLay0] at h
    exact eqvAll_refl xs h
  | .dict _, h => by rw [PyData.canLay0] at h; cases h
theorem eqvAll_refl : ∀ xs : List Dat, PyData.canLayAll0 xs = true → PyData.eqvAll xs xs = true
  | [], _ => by rw [PyData.eqvAll]
  | x :: xs, h => by
    rw [PyData.canLayAll0, Bool.and_eq_true] at h
    rw [PyData.eqvAll, eqv_refl x h.1, eqvAll_refl xs h.2]
    rfl
end
theorem qe_self {n : Nat} {d : Dat} (h : shd n d) (hn : n ≤ 64) : eqD d d = some (.im (.bool true)) := by
  unfold eqD
  rw [shd_ok h hn, Bool.and_self, if_pos rfl, eqv_refl d h.1]
theorem qn_self {n : Nat} {d : Dat} (h : shd n d) (hn : n ≤ 64) : neD d d = some (.im (.bool false)) := by
  unfold neD
  rw [shd_ok h hn, Bool.and_self, if_pos rfl, eqv_refl d h.1]
  rfl
theorem qe_bool {a b : Bool} : eqD (.bool a) (.bool b) = some (.im (.bool (decide (a = b)))) := by
  unfold eqD
  rw [sh_bool, sh_bool, Bool.and_self, if_pos rfl]
  cases a <;> cases b <;> rfl
theorem qn_bool {a b : Bool} : neD (.bool a) (.bool b) = some (.im (.bool (!decide (a = b)))) := by
  unfold neD
  rw [sh_bool, sh_bool, Bool.and_self, if_pos rfl]
  cases a <;> cases b <;> rfl
theorem ints_nL {xs : List Nat} : ints? (nL xs) = some (xs.map fun (k : Nat) => (k : Int)) := by
  induction xs with
  | nil => rfl
  | cons x xs ih =>
    show (ints? (nL xs)).map ((x : Int) :: ·) = _
    rw [ih]
    rfl

/-! ### draws -/
def isA (dr : Dr) : Prop := ∃ cs s, dr = .A cs s
theorem draw_ok {m : Nat} {dr : Dr} (h : isA dr) (h0 : 0 < m) (h1 : m ≤ 1000000) : ∃ (r : Nat) (dr' : Dr), drawA [.dict [], .int (m : Int)] dr = some (.im (.int (r : Int)), dr') ∧ r < m ∧ isA dr' := by
  obtain ⟨cs, s, rfl⟩ := h
  have hc : (decide ((m : Int) ≠ 0) && decide ((m : Int).natAbs < 1073741824)) = true := by
    rw [Bool.and_eq_true, decide_eq_true_eq, decide_eq_true_eq]
    omega
  have hm : ∀ z : Int, ∃ r : Nat, z.fmod (m : Int) = (r : Int) ∧ r < m := by
    intro z
    have h2 : 0 ≤ z.fmod (m : Int) := by rw [Int.fmod_eq_emod_of_nonneg _ (by omega)]; exact Int.emod_nonneg _ (by omega)
    have h3 : z.fmod (m : Int) < (m : Int) := Int.fmod_lt_of_pos z (by omega)
    exact ⟨(z.fmod (m : Int)).toNat, by omega, by omega⟩
  unfold drawA
  simp only [hc, if_true]
  cases cs.dropWhile (· == 0) with
  | nil =>
    obtain ⟨r, e, hr⟩ := hm (((s * 48271 + 12345).fmod 2147483647).fdiv 64)
    exact ⟨r, _, by rw [e], hr, _, _, rfl⟩
  | cons v l =>
    obtain ⟨r, e, hr⟩ := hm v
    exact ⟨r, .A (v.fdiv m :: l) s, by show some (RV.im (PyData.int (v.fmod (m : Int))), _) = _; rw [e], hr, _, _, rfl⟩
theorem isA_state {ns : List Int} : isA (stateA ns) := ⟨_, _, rfl⟩

/-! ### from the end backwards -/
def W (f : SM) (ps : PS) (Q : SOut → Prop) : Prop := ∃ o, f ps = some o ∧ Q o
def EV (f : M RV) (ps : PS) (Q : RV → PS → Prop) : Prop := ∃ r ps', f ps = some (r, ps') ∧ Q r ps'
def TV (f : M Bool) (ps : PS) (Q : Bool → PS → Prop) : Prop := ∃ k ps', f ps = some (k, ps') ∧ Q k ps'
def CV (fn : Fn) (ds : List Dat) (dr : Dr) (Q : RV → Dr → Prop) : Prop := ∃ r dr', fn ds dr = some (r, dr') ∧ Q r dr'
section
variable {ps : PS} {f g : SM} {Q : SOut → Prop} {fe fa fb : M RV} {P : RV → PS → Prop}
theorem w_det {o : SOut} (e : f ps = some o) (h : Q o) : W f ps Q := ⟨o, e, h⟩
theorem w_seq (h : W f ps fun o => match o with | .nx ps' => W g ps' Q | o => Q o) : W (seqM f g) ps Q := by
  obtain ⟨o, e, h⟩ := h
  cases o with
  | nx ps' =>
    obtain ⟨o2, e2, h2⟩ := h
    exact ⟨o2, by rw [e_seq, e]; exact e2, h2⟩
  | rt r ps' => exact ⟨_, by rw [e_seq, e]; rfl, h⟩
  | bk ps' => exact ⟨_, by rw [e_seq, e]; rfl, h⟩
  | ct ps' => exact ⟨_, by rw [e_seq, e]; rfl, h⟩
/-- a statement that goes on, then the rest -/
theorem w_nx {ps1 : PS} (e : f ps = some (.nx ps1)) (h : W g ps1 Q) : W (seqM f g) ps Q := w_seq (w_det e h)
theorem w_set {i : Nat} (h : EV fe ps fun r ps1 => ∃ ps2, setV i r ps1 = some ps2 ∧ Q (.nx ps2)) : W (setM i fe) ps Q := by
  obtain ⟨r, ps1, e, ps2, e2, h⟩ := h
  exact ⟨_, by rw [e_set, e]; show (setV i r ps1).bind _ = _; rw [e2]; rfl, h⟩
theorem w_ret (h : EV fe ps fun r ps1 => ∃ o, retV r ps1 = some o ∧ Q o) : W (retM fe) ps Q := by
  obtain ⟨r, ps1, e, o, e2, h⟩ := h
  exact ⟨o, by rw [e_ret, e]; exact e2, h⟩
theorem w_ite {c : M Bool} (h : TV c ps fun k ps1 => if k then W f ps1 Q else W g ps1 Q) : W (iteM c f g) ps Q := by
  obtain ⟨k, ps1, e, h⟩ := h
  cases k with
  | true =>
    obtain ⟨o, e2, h⟩ := h
    exact ⟨o, by rw [e_ite, e]; exact e2, h⟩
  | false =>
    obtain ⟨o, e2, h⟩ := h
    exact ⟨o, by rw [e_ite, e]; exact e2, h⟩
theorem w_for {α : Type} {fi : M (List Dat)} {tgt : Dat → PS → Option PS} {body : SM} (k : α → Dat) (xs : List α) {ps1 : PS} (e : fi ps = some (xs.map k, ps1)) (I : List α → PS → Prop) (h0 : I [] ps1)
    (step : ∀ pre x post q, xs = pre ++ x :: post → I pre q → ∃ q1, tgt (k x) q = some q1 ∧ W body q1 fun o => match o with | .nx q2 => I (pre ++ [x]) q2 | .ct q2 => I (pre ++ [x]) q2 | _ => False)
    (fin : ∀ q, I xs q → Q (.nx q)) : W (forSM fi tgt body) ps Q := by
  obtain ⟨ps', e2, h2⟩ := forL_inv (f := k) (xs := xs) (tgt := tgt) (body := body) I (fun pre x post q hx hI => by
    obtain ⟨q1, e1, o, e2, h⟩ := step pre x post q hx hI
    cases o with
    | nx q2 => exact ⟨q1, q2, e1, .inl e2, h⟩
    | ct q2 => exact ⟨q1, q2, e1, .inr e2, h⟩
    | bk q2 => exact absurd h id
    | rt r q2 => exact absurd h id) h0
  exact ⟨_, by rw [e_for, e]; exact e2, fin _ h2⟩
theorem w_while {c : M Bool} {b : SM} (n : Nat) (I : Nat → PS → Prop) (h0 : I n ps)
    (step : ∀ n q, I n q → TV c q fun k q1 => (k = false → Q (.nx q1)) ∧ (k = true → W b q1 fun o => match o with | .nx q2 => ∃ m, m < n ∧ I m q2 | .ct q2 => ∃ m, m < n ∧ I m q2 | _ => False)) : W (whileM c b) ps Q := by
  obtain ⟨ps', e, h⟩ := whileM_inv (c := c) (b := b) I (fun q => Q (.nx q)) (fun n q hI => by
    obtain ⟨k, q1, e1, hf, ht⟩ := step n q hI
    refine ⟨k, q1, e1, hf, fun z => ?_⟩
    obtain ⟨o, e2, h⟩ := ht z
    cases o with
    | nx q2 => obtain ⟨m, hm, h⟩ := h; exact ⟨q2, m, .inl e2, hm, h⟩
    | ct q2 => obtain ⟨m, hm, h⟩ := h; exact ⟨q2, m, .inr e2, hm, h⟩
    | bk q2 => exact absurd h id
    | rt r q2 => exact absurd h id) h0
  exact ⟨_, e, h⟩
theorem w_app {j : Nat} {ds0 : List Dat} (h0 : ps.sl[j]? = some (.ow ds0)) (h : EV fe ps fun r ps1 => ∃ d ps2 ds, keepV r ps1 = some (d, ps2) ∧ ps2.sl[j]? = some (.ow ds) ∧ ds.length ≤ 1000000 ∧ Q (.nx (ps2.put j (.ow (ds ++ [d]))))) : W (appM j fe) ps Q := by
  obtain ⟨r, ps1, e, d, ps2, ds, e1, e2, hl, h⟩ := h
  refine ⟨_, ?_, h⟩
  have ek : keepM fe ps = some (d, ps2) := by rw [e_keep, e]; exact e1
  unfold appM
  simp only [h0, ek, Option.bind_some, e2]
  rw [if_pos (decide_eq_true (sz_of hl))]
theorem v_det {r : RV} {ps1 : PS} (e : fe ps = some (r, ps1)) (h : P r ps1) : EV fe ps P := ⟨r, ps1, e, h⟩
theorem t_det {c : M Bool} {k : Bool} {ps1 : PS} {R : Bool → PS → Prop} (e : c ps = some (k, ps1)) (h : R k ps1) : TV c ps R := ⟨k, ps1, e, h⟩
theorem v_lc {α : Type} {vs : List Nat} {fi : M (List Dat)} {tgt : Dat → PS → Option PS} {tst : M Bool} {elt : M RV} (k : α → Dat) (xs : List α) {ps1 : PS} (e : fi ps = some (xs.map k, ps1)) (hl : xs.length ≤ 1000000) (I : List α → List Dat → PS → Prop) (h0 : I [] [] (wipeP vs ps1))
    (step : ∀ pre x post acc q, xs = pre ++ x :: post → I pre acc q → ∃ q1, tgt (k x) q = some q1 ∧ TV tst q1 fun b q2 => (b = false → I (pre ++ [x]) acc (wipeP vs q2)) ∧ (b = true → ∃ d q3, keepM elt q2 = some (d, q3) ∧ I (pre ++ [x]) (acc ++ [d]) (wipeP vs q3)))
    (fin : ∀ acc q, I xs acc q → P (.nw acc) (restP vs ps1 q)) : EV (lcM vs fi tgt tst elt) ps P := by
  obtain ⟨acc, q, e2, h⟩ := lcL_inv (f := k) (xs := xs) (vs := vs) (tgt := tgt) (tst := tst) (elt := elt) I (Nat.le_of_lt (sz_of hl)) (fun pre x post acc q hx hI => by
    obtain ⟨q1, e1, b, q2, e2, hf, ht⟩ := step pre x post acc q hx hI
    exact ⟨q1, b, q2, e1, e2, hf, ht⟩) h0
  exact ⟨_, _, by rw [e_lc, e]; show (lcL vs tgt tst elt (xs.map k) [] (wipeP vs ps1)).bind _ = _; rw [e2]; rfl, fin _ _ h⟩
/-- a comprehension that leaves all as it was -/
theorem v_lcm {α : Type} {vs : List Nat} {fi : M (List Dat)} {tgt : Dat → PS → Option PS} {tst : M Bool} {elt : M RV} (k : α → Dat) (xs : List α) {ps1 : PS} (e : fi ps = some (xs.map k, ps1)) (hl : xs.length ≤ 1000000) (p : α → Bool) (g : α → Dat)
    (step : ∀ x, x ∈ xs → ∃ q1 q2, tgt (k x) (wipeP vs ps1) = some q1 ∧ tst q1 = some (p x, q2) ∧ (p x = false → wipeP vs q2 = wipeP vs ps1) ∧ (p x = true → ∃ q3, keepM elt q2 = some (g x, q3) ∧ wipeP vs q3 = wipeP vs ps1))
    (fin : P (.nw ((xs.filter p).map g)) (restP vs ps1 (wipeP vs ps1))) : EV (lcM vs fi tgt tst elt) ps P :=
  ⟨_, _, by rw [e_lc, e]; show (lcL vs tgt tst elt (xs.map k) [] (wipeP vs ps1)).bind _ = _; rw [lcL_map (f := k) p g (Nat.le_of_lt (sz_of hl)) step]; rfl, fin⟩
theorem v_map {α : Type} {vs : List Nat} {fi : M (List Dat)} {tgt : Dat → PS → Option PS} {elt : M RV} (k : α → Dat) (xs : List α) {ps1 : PS} (e : fi ps = some (xs.map k, ps1)) (hl : xs.length ≤ 1000000) (g : α → Dat)
    (step : ∀ x, x ∈ xs → ∃ q1 q3, tgt (k x) (wipeP vs ps1) = some q1 ∧ keepM elt q1 = some (g x, q3) ∧ wipeP vs q3 = wipeP vs ps1)
    (fin : P (.nw (xs.map g)) (restP vs ps1 (wipeP vs ps1))) : EV (lcM vs fi tgt (M.ret true) elt) ps P :=
  v_lcm k xs e hl (fun _ => true) g (fun x hx => by
    obtain ⟨q1, q3, e1, e2, e3⟩ := step x hx
    exact ⟨q1, q1, e1, rfl, (fun z => absurd z.symm Bool.false_ne_true), fun _ => ⟨q3, e2, e3⟩⟩) (by rw [List.filter_eq_self.mpr fun _ _ => rfl]; exact fin)
theorem v_un {g : Dat → Option RV} (h : EV fa ps fun r ps1 => ∃ d, brw r ps1 = some d ∧ ∃ r', g d = some r' ∧ P r' ps1) : EV (unM g fa) ps P := by
  obtain ⟨r, ps1, e, d, e1, r', e2, h⟩ := h
  exact ⟨r', ps1, by rw [e_un, e]; show (brw r ps1).bind _ = _; rw [e1]; show (g d).bind _ = _; rw [e2]; rfl, h⟩
theorem c_body {n : Nat} {b : SM} {ds : List Dat} {dr : Dr} {R : RV → Dr → Prop} (h : W b ⟨ds.map Sl.fr ++ List.replicate (n - ds.length) Sl.un, dr⟩ fun o => match o with | .rt r q => R r q.dr | .nx q => R (.im .none) q.dr | _ => False) : CV (bodyFn n b) ds dr R := by
  obtain ⟨o, e, h⟩ := h
  cases o with
  | rt r q => exact ⟨r, q.dr, by rw [e_body, e]; rfl, h⟩
  | nx q => exact ⟨_, q.dr, by rw [e_body, e]; rfl, h⟩
  | bk q => exact absurd h id
  | ct q => exact absurd h id
end
end MP

/-! the law's own body at the very caller, of whom is known that no repr is under way; repr -/
namespace MP
open PySem PySem.Spec PyProof.Rows L2

/-- the law's def, run where the claim runs it -/
def LawRun (P : Program) (w : World) (K : Fg) (mg : Str → Option Value) (base : Heap) (f : Addr) (fd : FuncData) (nms : List Str) (sp : Sp) : Prop :=
  ∀ (s : Shared) (H : Hp) (args : Args) (us : List Value) (vs : List V) (Q : VK) (E : XK), Env0 P w K mg base callerA [] s H → BindsTo s fd args (nms.zip us) → Vals vs us → sp vs H Q E →
    codeAny (model P w) callerA (.call (.ref f) args) (CR CX0 [] P w H s Q E) s

theorem lawrun_mk {P : Program} {w : World} {K : Fg} {mg : Str → Option Value} {base : Heap} {x qual : Str} {st : Stmt} {f : Addr} {fd : FuncData} {N nms : List Str} {k : Nat} {sp : Sp} (F : Fun K x qual st f fd) (S : FnScope N nms (defScope st)) (hk : Room (k + 1) callerA)
    (len : ∀ vs H Q E, sp vs H Q E → vs.length = nms.length)
    (body : ∀ (cdv : Value) (s : Shared) (H : Hp) (vs : List V) (Q : VK) (E : XK), Room k (callerA.deeper (envOfC qual (defScope st) s.heap.objs.size f cdv)) → (callerA.deeper (envOfC qual (defScope st) s.heap.objs.size f cdv)).guards = some [] → sp vs H Q E →
      ∃ t, PSs (cxOf CX0 P w K mg base N qual (defScope st) f cdv callerA [] s H E).nox (defBody st) t ∧ t { nx := fun _ H' => Q .non H', rt := Q } (start N vs) H) : LawRun P w K mg base f fd nms sp := by
  obtain ⟨oc, od, kV, doc, pm, an, cdv, ct, osl, rfl, lk, hcd⟩ := F.ex
  intro s H args us vs Q E e0 bd rv hs
  have held : K.In s.heap := e0.mod.kin.keeps fun b o z => (e0.bs b o z).1
  have nolim : s.heap.NoLimit := e0.mod.nolimit.keeps fun b o z => (e0.bs b o z).1
  have kinds : ∀ y ∈ nms.zip us, (defScope st).names.lookup y.1 = some .local ∨ ((defScope st).names.lookup y.1 = some .cell ∧ ((cellsFrom (s.heap.objs.size + 1) (defScope st).names []).lookup y.1).isSome = true) := by
    intro y hy
    cases S.par y.1 (List.of_mem_zip (b := y.2) hy).1 with
    | inl z => exact Or.inl z
    | inr z => exact Or.inr ⟨z, PySem.W.cellsFrom_some _ _ _ (Or.inl z)⟩
  refine codeAny_call_function hk.depth (held _ _ lk) rfl S.co S.gen rfl (PySem.W.codeRec_of held hcd) (bd _ _ _ _ (wpAny_newFunctionEnv_cells S.kind kinds ?_))
  intro env he s1 st1
  subst he
  refine ⟨nolim.keeps st1.toInCall.keep, codeAny_func ?_⟩
  obtain ⟨t, ht, hq⟩ := body cdv s H vs Q E (hk.deeper _) rfl hs
  have J0 : Inv (cxOf CX0 P w K mg base N qual (defScope st) f cdv callerA [] s H E) [] (start N vs) H s1 := inv_start S hk.hd e0 (len _ _ _ _ hs) rv st1
  have out : ∀ {σ' : L2.St} {H' : Hp} {v : V} {u : Value} {s'}, Inv (cxOf CX0 P w K mg base N qual (defScope st) f cdv callerA [] s H E) [] σ' H' s' → RelV v u → Q v H' → CE [] P w H s Q u s' := fun J r z => ⟨_, _, J.os, J.bare, J.base, J.hok, r, z⟩
  refine wpAny_mono (ht.nox.run [] s1 (start N vs) H _ J0 hq) ?_ fun _ _ z => z
  intro fl s' z
  cases fl with
  | brk => exact (z.elim fun _ z => z.elim fun _ z => z.2).elim
  | cont => exact (z.elim fun _ z => z.elim fun _ z => z.2).elim
  | ret u => exact z.elim fun v z => z.elim fun σ' z => z.elim fun H' z => out z.1 z.2.1 z.2.2
  | next => exact z.elim fun σ' z => z.elim fun H' z => out (v := V.non) (u := Value.none) z.1 rfl z.2

/-- what is tracked at the start: the script alone, unless it is the module's own -/
noncomputable def startH (K : Fg) (a : Addr) (vs : List Value) (ns : List Int) : Hp := fun b => if b = a ∧ K.lookup a = none then some (.frz { cls := .type "list", data := .seq vs.toArray } (.lst (ns.map V.int))) else none
theorem startH_some {K : Fg} {a : Addr} {vs : List Value} {ns : List Int} {b : Addr} {u : HO} (h : startH K a vs ns b = some u) : b = a ∧ K.lookup a = none ∧ u = .frz { cls := .type "list", data := .seq vs.toArray } (.lst (ns.map V.int)) := by
  unfold startH at h
  split at h
  · rename_i z
    exact ⟨z.1, z.2, (Option.some.inj h).symm⟩
  · cases h

theorem head_run {P : Program} {w : World} {K : Fg} {mg mb : Str → Option Value} {fa a : Addr} {fd : FuncData} {x : Str} {s : Shared} {vs : List Value} {ns : List Int} {sp : Sp}
    (inK : K.In s.heap) (gl : s.heap.Ns mainGlobals mg) (bl : s.heap.Ns builtinsNs mb) (bb : ∀ y : Str, y ≠ "__name__" → mb y = bootBuiltins y) (nl : s.heap.NoLimit) (g0 : s.gens = #[])
    (oa : s.heap.get? a = some { cls := .type "list", data := .seq vs.toArray }) (iv : IntsAre vs ns) (hz : ns.length ≤ sizeLine) (bd : ∀ (s : Shared) (u : Value), BindsTo s fd ⟨[u], []⟩ [(x, u)])
    (F : ∀ base : Heap, K.In base → base.Ns mainGlobals mg → LawRun P w K mg base fa fd [x] sp) (hs : ∀ H : Hp, SqL K H a (ns.map V.int) → sp [.ref a] H (fun v _ => v = .bl true) fun _ _ _ => False) :
    codeAny (model P w) callerA (.call (.ref fa) ⟨[.ref a], []⟩) (fun r s' => r = .ok (.ret (.bool true)) ∧ OldK s.heap s'.heap ∧ s'.os = s.os ∧ AllBare s'.gens) s := by
  have vv := vals_ints iv
  have same : ∀ {b : Addr} {o : Obj}, s.heap.get? b = some o → startH K a vs ns b = none → (hidT s.heap (startH K a vs ns)).get? b = some o := fun e n => hidT_get e n
  have free : ∀ {b : Addr} {o : Obj}, s.heap.get? b = some o → ¬ (b = a ∧ K.lookup a = none) → startH K a vs ns b = none := fun {b o} e n => if_neg n
  have nsp : ∀ {b : Addr} {m : Str → Option Value}, s.heap.Ns b m → (hidT s.heap (startH K a vs ns)).Ns b m := by
    rintro b m ⟨o, es, ep, e, d, r⟩
    refine ⟨o, es, ep, same e (free e ?_), d, r⟩
    rintro ⟨rfl, _⟩
    rw [oa] at e
    cases e
    cases (show Data.seq vs.toArray _ = Data.dict es ep from d)
  have inB : K.In (hidT s.heap (startH K a vs ns)) := by
    intro b o e
    refine same (inK b o e) (free (inK b o e) ?_)
    rintro ⟨rfl, z⟩
    rw [z] at e
    cases e
  have md : Mod K mg (hidT s.heap (startH K a vs ns)) := by
    obtain ⟨mc, h1, h2⟩ := nl
    exact ⟨inB, nsp gl, ⟨mb, nsp bl, bb⟩, mc, nsp h1, h2⟩
  have ho : HOk P w (startH K a vs ns) s.heap := by
    intro b u z
    obtain ⟨rfl, _, rfl⟩ := startH_some z
    exact ⟨oa, by rw [List.length_map]; exact hz, vs, _, vv, oa⟩
  have sq : SqL K (startH K a vs ns) a (ns.map V.int) := by
    cases hk : K.lookup a with
    | none => exact .inl (.inr ⟨{ cls := .type "list", data := .seq vs.toArray }, if_pos ⟨rfl, hk⟩⟩)
    | some o =>
      have e := inK a o hk
      rw [oa] at e
      cases e
      exact .inr ⟨_, vs.toArray, _, hk, rfl, rfl, rfl, by rw [List.size_toArray, iv.length]; exact hz, by simpa using vv⟩
  have e0 : Env0 P w K mg (hidT s.heap (startH K a vs ns)) callerA [] s (startH K a vs ns) := ⟨rfl, md, fun b o e => of_hidT e, Nat.le_of_eq (hidT_size _ _), trivial, fun b hb => absurd (show b ∈ ([] : List Addr) from hb) (by simp), ho, .of_eq g0⟩
  refine codeAny_mono (F _ inB (nsp gl) s _ ⟨[.ref a], []⟩ [.ref a] [.ref a] _ _ e0 (bd s (.ref a)) (.cons rfl .nil) (hs _ sq)) ?_
  intro r s' h
  cases r with
  | error e => exact absurd h (fun z => by obtain ⟨_, _, _, _, _, _, z⟩ := z)
  | ok fl =>
    cases fl with
    | next => exact absurd h id
    | brk => exact absurd h id
    | cont => exact absurd h id
    | ret u =>
      obtain ⟨v, H', hos, hb, un, ok', rv, q⟩ := h
      obtain rfl : v = .bl true := q
      obtain rfl : u = Value.bool true := rv
      refine ⟨rfl, OldK.of_keep ?_, hos, hb⟩
      intro b o e
      cases z : startH K a vs ns b with
      | none => exact un.keep b o e z (fun y => absurd (show b ∈ ([] : List Addr) from y) (by simp)) (by simp)
      | some u =>
        obtain ⟨rfl, _, rfl⟩ := startH_some z
        obtain ⟨e2, _⟩ := ok' _ _ (un.frzs _ _ _ z)
        rw [oa] at e
        cases e
        exact e2

theorem walk_ofG {l : PySem.W.OpenLaw} {n : Nat} {q : Program} {loose : List Str} {XP : (Str → Option Value) → Heap → Prop} {YP : World → Heap → Prop} {d : DefRec} {K : Params → PySem.W.Frag} {x : Str}
    (hn : l.most = some n) (n2 : n ≤ sizeLine) (nd : d.params.defaults = []) (hY : ∀ (w : World) (h : Heap), YP w h → (K w.params).In h)
    (F : ∀ (w : World) (mg : Str → Option Value) (fa : Addr) (h : Heap), (K w.params).In h → h.Ns mainGlobals mg → mg d.name = some (.ref fa) →
      ∃ fd : FuncData, (∀ (s : Shared) (u : Value), BindsTo s fd ⟨[u], []⟩ [(x, u)]) ∧ ∀ base : Heap, (K w.params).In base → base.Ns mainGlobals mg → LawRun l.prog w (K w.params) mg base fa fd [x] (spLaw (K w.params)))
    (h63 : n ≤ 63) : PySem.W.WalkO q loose XP YP l.row.toRowW d [] (fun f vs => PySem.call f vs) := by
  refine Att.attach_call hn nd fun w s₀ s₁ mg mb fa o pm cd doc a vs ns G Y ho hd hcd hmg oa iv hlen g0 => ?_
  have inK := hY w _ Y
  obtain ⟨fd, bd, R⟩ := F w mg fa _ inK G.T.g hmg
  exact head_run inK G.T.g G.T.b G.T.builtins G.T.nolimit g0 oa iv (Nat.le_trans hlen n2) bd R fun H hS => ⟨a, ns, rfl, hS, Nat.le_trans hlen h63, fun _ => rfl⟩

/-! ### repr of rows -/
def rReprD (K : Fg) : List V → Hp → VK → Prop := fun xs H Q => ∃ (a : Addr) (d : Dat), xs = [.ref a] ∧ Dp K H (.ref a) d ∧ SeqAt.shaped d = true ∧ d.showable = true ∧ d.shown.length ≤ sizeLine ∧ Q (.str d.shown) H
theorem call_reprD {X : Cx} (hg : X.A.guards = some []) (hu : X.A.units + 65 < cLine) : CallR X (.builtin "repr") (rReprD X.K) := by
  intro pins s σ H xs us Q I r h
  obtain ⟨a, d, rfl, hd, hs, sh, hz, q⟩ := h
  rw [Vals.ref1 r]
  obtain ⟨as, rd⟩ := Dp.reads I d (.ref a) (.ref a) hd rfl
  have h1 := SeqAt.depth_of_shaped hs
  exact repr_of_reads' rd sh (PyData.noDict_hsm (PyData.hasDict_of_canLay d (SeqAt.canLay_of_shaped hs))) hg (by omega) (fun _ _ e => e) (fun h' u tk k => ⟨.str _, H, I.kept k, ⟨u, rfl⟩, q⟩) hz
def reprD : Dat → Option RV
  | .list ds => if SeqAt.shaped (.list ds) && PyData.showable (.list ds) && line (PyData.shown (.list ds)).length then some (.im (.str (PyData.shown (.list ds)))) else none
  | .tuple ds => if SeqAt.shaped (.tuple ds) && PyData.showable (.tuple ds) && line (PyData.shown (.tuple ds)).length then some (.im (.str (PyData.shown (.tuple ds)))) else none
  | _ => none
theorem reprD_ok {K : Fg} : C1Snd K (rReprD K) reprD := by
  intro G F ps σ H x d out Q R hx hg q
  unfold reprD at hg
  split at hg
  · split at hg
    · rename_i ds hc
      cases hg
      simp only [Bool.and_eq_true] at hc
      have D := BRel.dp R.fh hc.1.1 hx
      obtain ⟨a, vs, rfl, _⟩ := bLst hx
      exact ⟨a, _, rfl, D, hc.1.1, hc.1.2, line_le hc.2, out_im R (by unfold Rel; rfl) q⟩
    · cases hg
  · split at hg
    · rename_i ds hc
      cases hg
      simp only [Bool.and_eq_true] at hc
      have D := BRel.dp R.fh hc.1.1 hx
      obtain ⟨a, vs, rfl, _⟩ := bTup R.fh hx
      exact ⟨a, _, rfl, D, hc.1.1, hc.1.2, line_le hc.2, out_im R (by unfold Rel; rfl) q⟩
    · cases hg
  · cases hg
theorem kc_repr {X : Cx} {K : Fg} (hK : X.K = K) (hg : X.A.guards = some []) (hu : X.A.units + 65 < cLine) : CallR X (.builtin "repr") (rReprD K) := by subst hK; exact call_reprD hg hu

/-! ### texts of code points -/
def okS (x : Str) : Prop := ∀ c ∈ x.cps.toList, c < 0x110000
theorem okS.iff {x : Str} (h : okS x) : PyData.strOk x = true := by
  unfold PyData.strOk
  rw [Array.all_eq_true']
  intro c hc
  exact decide_eq_true (h c (by simpa using hc))
theorem okS.app {x y : Str} (h : okS x) (g : okS y) : okS (x ++ y) := by
  intro c hc
  rw [Str.cps_append, Array.toList_append, List.mem_append] at hc
  exact hc.elim (h c) (g c)
theorem okS.lit (s : String) : okS (Str.ofString s) := by
  intro c hc
  rw [Str.ofString_eq_toList] at hc
  obtain ⟨ch, _, rfl⟩ := List.mem_map.mp (show c ∈ s.toList.map Char.toNat by simpa using hc)
  have := ch.valid
  show ch.val.toNat < 1114112
  rcases this with h | h
  · exact Nat.lt_trans h (by decide)
  · exact h.2
theorem okS.from : ∀ {ts : List Str} {k : Nat} {acc : Str}, okS acc → (∀ t ∈ ts, okS t) → okS (textFrom k acc ts)
  | [], _, _, h, _ => h
  | t :: ts, k, acc, h, g => by
    show okS (textFrom (k + 1) (acc ++ Str.ofString (if k > 0 then ", " else "") ++ t) ts)
    exact okS.from (ts := ts) ((h.app (.lit _)).app (g t (List.mem_cons_self ..))) fun x hx => g x (List.mem_cons_of_mem _ hx)
theorem okS.join : ∀ {ts : List Str}, (∀ t ∈ ts, okS t) → okS (Str.join ", " ts)
  | [], _ => by
    intro c hc
    have hc : c ∈ (#[] : Array Nat).toList := hc
    simp at hc
  | [x], g => g x (List.mem_cons_self ..)
  | x :: y :: r, g => ((g x (List.mem_cons_self ..)).app (.lit _)).app (okS.join (ts := y :: r) fun z hz => g z (List.mem_cons_of_mem _ hz))
theorem okS_list {ts : List Str} (g : ∀ t ∈ ts, okS t) : okS (listText ts) := (okS.from (.lit _) g).app (.lit _)
theorem okS_tuple {ts : List Str} (g : ∀ t ∈ ts, okS t) : okS (tupleText ts) := by
  unfold tupleText
  exact ((okS.lit _).app (.join g)).app (.lit _)
theorem okS_int {i : Int} : okS (PyData.shown (.int i)) := by
  rw [PyData.shown]
  exact .lit _
/-! ### rows whose repr fits -/
structure Lit (k w : Nat) (d : Dat) : Prop where
  sh : shd k d
  wt : d.weight ≤ w
  st : d.intsShort 13 = true
  ok : d.showable = true
  os : okS d.shown
theorem Lit.int {i : Int} (h1 : -999999999999 ≤ i) (h2 : i ≤ 999999999999) : Lit 0 41 (.int i) := by
  refine ⟨shd_int, ?_, intsShort_of_noneOrInC (lo := i) (hi := i) h1 h2 (.int i) (by unfold noneOrInC; simp), ?_, okS_int⟩
  · rw [PyData.weight]
    split
    · omega
    · rename_i h
      have h0 : i.natAbs ≠ 0 := by
        intro z
        exact h (by have : i = 0 := by omega
                    rw [this]; rfl)
      have : i.natAbs.log2 < 40 := (Nat.log2_lt h0).mpr (by omega)
      omega
  · rw [PyData.showable, decide_eq_true_eq]
    by_cases h0 : i.natAbs = 0
    · rw [h0]
      decide
    · exact Nat.lt_of_lt_of_le ((Nat.log2_lt h0).mpr (show i.natAbs < 2 ^ 40 by omega)) (by decide)
theorem lit_all {k w : Nat} : ∀ {ds : List Dat}, (∀ d ∈ ds, Lit k w d) → PyData.weightAll ds ≤ ds.length * (w + 1) ∧ PyData.intsShortAll 13 ds = true ∧ PyData.showableAll ds = true ∧ ∀ t ∈ PyData.shownAll ds, okS t
  | [], _ => ⟨by rw [PyData.weightAll]; exact Nat.zero_le _, by rw [PyData.intsShortAll], by rw [PyData.showableAll], by rw [PyData.shownAll]; intro t ht; cases ht⟩
  | d :: ds, h => by
    have h1 := h d (List.mem_cons_self ..)
    obtain ⟨a, b, c, e⟩ := lit_all (ds := ds) fun x hx => h x (List.mem_cons_of_mem _ hx)
    refine ⟨?_, by rw [PyData.intsShortAll, h1.st, b]; rfl, by rw [PyData.showableAll, h1.ok, c]; rfl, ?_⟩
    rotate_left
    · rw [PyData.shownAll]
      intro t ht
      rcases List.mem_cons.mp ht with rfl | ht
      · exact h1.os
      · exact e t ht
    rw [PyData.weightAll, List.length_cons, Nat.add_mul, Nat.one_mul]
    have := h1.wt
    omega
theorem Lit.list {k w m : Nat} {ds : List Dat} (h : ∀ d ∈ ds, Lit k w d) (hm : ds.length * (w + 1) ≤ m) : Lit (k + 1) m (.list ds) := by
  obtain ⟨a, b, c, e⟩ := lit_all h
  exact ⟨shd_list fun d hd => (h d hd).sh, by rw [PyData.weight]; omega, by rw [PyData.intsShort]; exact b, by rw [PyData.showable]; exact c, by rw [PyData.shown]; exact okS_list e⟩
theorem Lit.tuple {k w m : Nat} {ds : List Dat} (h : ∀ d ∈ ds, Lit k w d) (hm : ds.length * (w + 1) ≤ m) : Lit (k + 1) m (.tuple ds) := by
  obtain ⟨a, b, c, e⟩ := lit_all h
  exact ⟨shd_tuple fun d hd => (h d hd).sh, by rw [PyData.weight]; omega, by rw [PyData.intsShort]; exact b, by rw [PyData.showable]; exact c, by rw [PyData.shown]; exact okS_tuple e⟩
theorem shd_str {n : Nat} {x : Str} (h : okS x) : shd n (.str x) := ⟨by rw [PyData.canLay0]; exact h.iff, by rw [PyData.depth]; exact Nat.zero_le _⟩
theorem Lit.line {k w : Nat} {d : Dat} (h : Lit k w d) (hk : k ≤ 64) (hw : w ≤ 1048576) : MP.line d.shown.length = true := by
  have h1 : PyData.layable0 d = true := by
    unfold PyData.layable0
    rw [h.sh.1, decide_eq_true (Nat.le_trans h.sh.2 hk), decide_eq_true (Nat.le_trans h.wt (Nat.le_trans hw (by decide)))]
    rfl
  have h2 := shown_le13 h1 h.st
  have : sizeLine = 16777216 := rfl
  exact decide_eq_true (by omega)
theorem reprD_lst {k w : Nat} {ds : List Dat} (h : Lit k w (.list ds)) (hk : k ≤ 64) (hw : w ≤ 1048576) : reprD (.list ds) = some (.im (.str (PyData.shown (.list ds)))) := by
  show (if _ then _ else _) = _
  rw [shd_ok h.sh hk, h.ok, h.line hk hw]
  rfl
theorem reprD_tpl {k w : Nat} {ds : List Dat} (h : Lit k w (.tuple ds)) (hk : k ≤ 64) (hw : w ≤ 1048576) : reprD (.tuple ds) = some (.im (.str (PyData.shown (.tuple ds)))) := by
  show (if _ then _ else _) = _
  rw [shd_ok h.sh hk, h.ok, h.line hk hw]
  rfl
theorem Lit.nL {xs : List Nat} (h : ∀ x ∈ xs, x ≤ 999999999999) : ∀ d ∈ MP.nL xs, Lit 0 41 d := by
  intro d hd
  obtain ⟨x, hx, rfl⟩ := List.mem_map.mp hd
  have := h x hx
  exact Lit.int (by omega) (by omega)
end MP

/-! small rules for the plain half -/
namespace MP
open PySem PySem.Spec PyProof.Rows L2
theorem sIx_min {n d k : Nat} : HT.sIx n d (some (k : Int)) = min k n := HT.sIx_nat ..
theorem cut0 {ds : List Dat} {a : Nat} : cutD ds none (some (a : Int)) = ds.take a := by
  unfold cutD
  rw [sIx_min]
  show (ds.drop 0).take (min a ds.length - 0) = _
  rw [List.drop_zero, Nat.sub_zero]
  rcases Nat.le_total a ds.length with h | h
  · rw [Nat.min_eq_left h]
  · rw [Nat.min_eq_right h, List.take_length, List.take_of_length_le h]
theorem cut1 {ds : List Dat} {a : Nat} : cutD ds (some (a : Int)) none = ds.drop a := by
  unfold cutD
  rw [sIx_min]
  show (ds.drop (min a ds.length)).take (ds.length - min a ds.length) = _
  rcases Nat.le_total a ds.length with h | h
  · rw [Nat.min_eq_left h, List.take_of_length_le (by rw [List.length_drop]; exact Nat.le_refl _)]
  · rw [Nat.min_eq_right h, List.drop_length, List.drop_of_length_le h, List.take_nil]
theorem cut2 {ds : List Dat} {a b : Nat} : cutD ds (some (a : Int)) (some (b : Int)) = (ds.drop a).take (b - a) := by
  unfold cutD
  rw [sIx_min, sIx_min]
  rcases Nat.le_total a ds.length with h | h
  · rw [Nat.min_eq_left h]
    rcases Nat.le_total b ds.length with h2 | h2
    · rw [Nat.min_eq_left h2]
    · rw [Nat.min_eq_right h2, List.take_of_length_le (by rw [List.length_drop]; exact Nat.le_refl _), List.take_of_length_le (by rw [List.length_drop]; omega)]
  · rw [Nat.min_eq_right h, List.drop_length, List.drop_of_length_le h, List.take_nil, List.take_nil]
theorem abs_nat {i : Int} : (if i < 0 then -i else i) = (i.natAbs : Int) := by
  split <;> omega
theorem eqD_sh {n m : Nat} {d e : Dat} (h : shd n d) (g : shd m e) (hn : n ≤ 64) (hm : m ≤ 64) : eqD d e = some (.im (.bool (PyData.eqv d e))) := by
  unfold eqD
  rw [shd_ok h hn, shd_ok g hm, Bool.and_self, if_pos rfl]
theorem neD_sh {n m : Nat} {d e : Dat} (h : shd n d) (g : shd m e) (hn : n ≤ 64) (hm : m ≤ 64) : neD d e = some (.im (.bool (!PyData.eqv d e))) := by
  unfold neD
  rw [shd_ok h hn, shd_ok g hm, Bool.and_self, if_pos rfl]
theorem eqvAll_map {α : Type} [DecidableEq α] {f : α → Dat} (hf : ∀ x y, PyData.eqv (f x) (f y) = decide (x = y)) : ∀ {xs ys : List α}, PyData.eqvAll (xs.map f) (ys.map f) = decide (xs = ys)
  | [], [] => by simp [PyData.eqvAll]
  | [], y :: ys => by simp [PyData.eqvAll]
  | x :: xs, [] => by simp [PyData.eqvAll]
  | x :: xs, y :: ys => by
    rw [List.map_cons, List.map_cons, PyData.eqvAll, hf, eqvAll_map hf]
    by_cases h : x = y <;> by_cases g : xs = ys <;> simp [h, g]
theorem eqv_tup {α : Type} [DecidableEq α] {f : α → Dat} (hf : ∀ x y, PyData.eqv (f x) (f y) = decide (x = y)) {xs ys : List α} : PyData.eqv (.tuple (xs.map f)) (.tuple (ys.map f)) = decide (xs = ys) := by
  rw [PyData.eqv, eqvAll_map hf]
theorem eqv_lst {α : Type} [DecidableEq α] {f : α → Dat} (hf : ∀ x y, PyData.eqv (f x) (f y) = decide (x = y)) {xs ys : List α} : PyData.eqv (.list (xs.map f)) (.list (ys.map f)) = decide (xs = ys) := by
  rw [PyData.eqv, eqvAll_map hf]
theorem eqv_nT {xs ys : List Nat} : PyData.eqv (.tuple (nL xs)) (.tuple (nL ys)) = decide (xs = ys) := eqv_tup fun _ _ => eqv_nat
theorem eqv_nLs {xs ys : List Nat} : PyData.eqv (.list (nL xs)) (.list (nL ys)) = decide (xs = ys) := eqv_lst fun _ _ => eqv_nat
/-- numbers in rows, with sign -/
def zL (xs : List Int) : List Dat := xs.map PyData.int
@[simp] theorem zL_len {xs : List Int} : (zL xs).length = xs.length := List.length_map _
theorem zL_app {xs ys : List Int} : zL (xs ++ ys) = zL xs ++ zL ys := List.map_append
theorem zL_at {xs : List Int} {i : Nat} {v : Int} (h : xs[i]? = some v) : atI (zL xs) (i : Int) = some (.int v) := atI_nat (by unfold zL; rw [List.getElem?_map, h]; rfl)
theorem zL_take {xs : List Int} {k : Nat} : (zL xs).take k = zL (xs.take k) := by unfold zL; rw [List.map_take]
theorem zL_drop {xs : List Int} {k : Nat} : (zL xs).drop k = zL (xs.drop k) := by unfold zL; rw [List.map_drop]
theorem zL_rev {xs : List Int} : (zL xs).reverse = zL xs.reverse := by unfold zL; rw [List.map_reverse]
theorem eqv_zT {xs ys : List Int} : PyData.eqv (.tuple (zL xs)) (.tuple (zL ys)) = decide (xs = ys) := eqv_tup fun _ _ => eqv_int
theorem eqv_zLs {xs ys : List Int} : PyData.eqv (.list (zL xs)) (.list (zL ys)) = decide (xs = ys) := eqv_lst fun _ _ => eqv_int
theorem shd_zL {n : Nat} {xs : List Int} : ∀ d ∈ zL xs, shd n d := by
  intro d hd
  obtain ⟨k, _, rfl⟩ := List.mem_map.mp hd
  exact shd_int
theorem nL_z {xs : List Nat} : nL xs = zL (xs.map fun (k : Nat) => (k : Int)) := by
  unfold nL zL
  rw [List.map_map]
  rfl
theorem ints_zL {xs : List Int} : ints? (zL xs) = some xs := by
  induction xs with
  | nil => rfl
  | cons x xs ih =>
    show (ints? (zL xs)).map (x :: ·) = _
    rw [ih]
    rfl
theorem law_true {b : SM} {ps : PS} (h : W b ps fun o => match o with | .rt r _ => r = .im (.bool true) | _ => False) : ∃ ps', b ps = some (.rt (.im (.bool true)) ps') := by
  obtain ⟨o, e, h⟩ := h
  cases o with
  | rt r ps => exact ⟨ps, by rw [e, h]⟩
  | nx _ => exact absurd h id
  | bk _ => exact absurd h id
  | ct _ => exact absurd h id
theorem cv_det {fn : Fn} {ds : List Dat} {dr dr1 : Dr} {r0 : RV} (h : CV fn ds dr fun r dr' => r = r0 ∧ dr' = dr1) : fn ds dr = some (r0, dr1) := by
  obtain ⟨r, dr', e, rfl, rfl⟩ := h
  exact e
/-- the return of one expression -/
theorem w_retw {fe : M RV} {ps ps1 : PS} {r : RV} {o : SOut} {Q : SOut → Prop} (e : fe ps = some (r, ps1)) (e2 : retV r ps1 = some o) (h : Q o) : W (retM fe) ps Q := ⟨o, by rw [e_ret, e]; exact e2, h⟩
/-- a comprehension, as an equation -/
theorem lc_eq {α : Type} {vs : List Nat} {fi : M (List Dat)} {tgt : Dat → PS → Option PS} {tst : M Bool} {elt : M RV} {ps ps1 : PS} (k : α → Dat) (xs : List α) (e : fi ps = some (xs.map k, ps1)) (hl : xs.length ≤ 1000000) (p : α → Bool) (g : α → Dat)
    (step : ∀ x, x ∈ xs → ∃ q1 q2, tgt (k x) (wipeP vs ps1) = some q1 ∧ tst q1 = some (p x, q2) ∧ (p x = false → wipeP vs q2 = wipeP vs ps1) ∧ (p x = true → ∃ q3, keepM elt q2 = some (g x, q3) ∧ wipeP vs q3 = wipeP vs ps1)) :
    lcM vs fi tgt tst elt ps = some (.nw ((xs.filter p).map g), restP vs ps1 (wipeP vs ps1)) := by
  rw [e_lc, e]
  show (lcL vs tgt tst elt (xs.map k) [] (wipeP vs ps1)).bind _ = _
  rw [lcL_map (f := k) p g (Nat.le_of_lt (sz_of hl)) step]
  rfl
theorem mp_eq {α : Type} {vs : List Nat} {fi : M (List Dat)} {tgt : Dat → PS → Option PS} {elt : M RV} {ps ps1 : PS} (k : α → Dat) (xs : List α) (e : fi ps = some (xs.map k, ps1)) (hl : xs.length ≤ 1000000) (g : α → Dat)
    (step : ∀ x, x ∈ xs → ∃ q1 q3, tgt (k x) (wipeP vs ps1) = some q1 ∧ keepM elt q1 = some (g x, q3) ∧ wipeP vs q3 = wipeP vs ps1) :
    lcM vs fi tgt (M.ret true) elt ps = some (.nw (xs.map g), restP vs ps1 (wipeP vs ps1)) := by
  have := lc_eq (vs := vs) (tgt := tgt) (tst := M.ret true) (elt := elt) k xs e hl (fun _ => true) g (fun x hx => by
    obtain ⟨q1, q3, e1, e2, e3⟩ := step x hx
    exact ⟨q1, q1, e1, rfl, (fun z => absurd z.symm Bool.false_ne_true), fun _ => ⟨q3, e2, e3⟩⟩)
  rw [List.filter_eq_self.mpr fun _ _ => rfl] at this
  exact this
/-! loops that may be left ahead of their end -/
theorem w_forR {α : Type} {ps : PS} {Q : SOut → Prop} {fi : M (List Dat)} {tgt : Dat → PS → Option PS} {body : SM} (k : α → Dat) (xs : List α) {ps1 : PS} (e : fi ps = some (xs.map k, ps1)) (I : List α → PS → Prop) (h0 : I [] ps1)
    (step : ∀ pre x post q, xs = pre ++ x :: post → I pre q → ∃ q1, tgt (k x) q = some q1 ∧ W body q1 fun o => match o with | .nx q2 => I (pre ++ [x]) q2 | .ct q2 => I (pre ++ [x]) q2 | .rt r q2 => Q (.rt r q2) | .bk q2 => Q (.nx q2))
    (fin : ∀ q, I xs q → Q (.nx q)) : W (forSM fi tgt body) ps Q := by
  suffices h : ∀ post pre q, xs = pre ++ post → I pre q → ∃ o, forL tgt body (post.map k) q = some o ∧ Q o by
    obtain ⟨o, e2, h2⟩ := h xs [] ps1 rfl h0
    exact ⟨o, by rw [e_for, e]; exact e2, h2⟩
  intro post
  induction post with
  | nil =>
    intro pre q hx h
    rw [List.append_nil] at hx
    subst hx
    exact ⟨_, rfl, fin q h⟩
  | cons x post ih =>
    intro pre q hx h
    obtain ⟨q1, e1, o, e2, h2⟩ := step pre x post q hx h
    cases o with
    | nx q2 =>
      obtain ⟨o, e3, h3⟩ := ih (pre ++ [x]) q2 (by rw [hx]; simp) h2
      exact ⟨o, by simp only [List.map_cons, forL, e1, e2, Option.bind_some, e3], h3⟩
    | ct q2 =>
      obtain ⟨o, e3, h3⟩ := ih (pre ++ [x]) q2 (by rw [hx]; simp) h2
      exact ⟨o, by simp only [List.map_cons, forL, e1, e2, Option.bind_some, e3], h3⟩
    | rt r q2 => exact ⟨_, by simp only [List.map_cons, forL, e1, e2, Option.bind_some], h2⟩
    | bk q2 => exact ⟨_, by simp only [List.map_cons, forL, e1, e2, Option.bind_some], h2⟩
theorem w_whileR {c : M Bool} {b : SM} {ps : PS} {Q : SOut → Prop} (n : Nat) (I : Nat → PS → Prop) (h0 : I n ps)
    (step : ∀ n q, I n q → TV c q fun k q1 => (k = false → Q (.nx q1)) ∧ (k = true → W b q1 fun o => match o with | .nx q2 => ∃ m, m < n ∧ I m q2 | .ct q2 => ∃ m, m < n ∧ I m q2 | .rt r q2 => Q (.rt r q2) | .bk q2 => Q (.nx q2))) : W (whileM c b) ps Q := by
  induction n using Nat.strongRecOn generalizing ps with
  | ind n ih =>
    obtain ⟨k, q1, e1, hf, ht⟩ := step n ps h0
    cases k with
    | false => exact ⟨.nx q1, by rw [whileM_eq, e1]; rfl, hf rfl⟩
    | true =>
      obtain ⟨o, e2, h2⟩ := ht rfl
      cases o with
      | nx q2 =>
        obtain ⟨m, hm, h2⟩ := h2
        obtain ⟨o, e3, h3⟩ := ih m hm h2
        exact ⟨o, by rw [whileM_eq, e1]; simp only [Option.bind_some, if_true, e2, e3], h3⟩
      | ct q2 =>
        obtain ⟨m, hm, h2⟩ := h2
        obtain ⟨o, e3, h3⟩ := ih m hm h2
        exact ⟨o, by rw [whileM_eq, e1]; simp only [Option.bind_some, if_true, e2, e3], h3⟩
      | rt r q2 => exact ⟨_, by rw [whileM_eq, e1]; simp only [Option.bind_some, if_true, e2], h2⟩
      | bk q2 => exact ⟨_, by rw [whileM_eq, e1]; simp only [Option.bind_some, if_true, e2], h2⟩
/-- a statement, worked out by rules -/
@[simp] theorem isi_bool_none  : isiD .bool .none = some (.im (.bool false)) := rfl
@[simp] theorem isi_bool_bool {b : Bool} : isiD .bool (.bool b) = some (.im (.bool true)) := rfl
@[simp] theorem isi_bool_int {i : Int} : isiD .bool (.int i) = some (.im (.bool false)) := rfl
@[simp] theorem isi_bool_str {x : Str} : isiD .bool (.str x) = some (.im (.bool false)) := rfl
@[simp] theorem isi_bool_list {ds : List Dat} : isiD .bool (.list ds) = some (.im (.bool false)) := rfl
@[simp] theorem isi_bool_tuple {ds : List Dat} : isiD .bool (.tuple ds) = some (.im (.bool false)) := rfl
@[simp] theorem isi_int_none  : isiD .int .none = some (.im (.bool false)) := rfl
@[simp] theorem isi_int_bool {b : Bool} : isiD .int (.bool b) = some (.im (.bool true)) := rfl
@[simp] theorem isi_int_int {i : Int} : isiD .int (.int i) = some (.im (.bool true)) := rfl
@[simp] theorem isi_int_str {x : Str} : isiD .int (.str x) = some (.im (.bool false)) := rfl
@[simp] theorem isi_int_list {ds : List Dat} : isiD .int (.list ds) = some (.im (.bool false)) := rfl
@[simp] theorem isi_int_tuple {ds : List Dat} : isiD .int (.tuple ds) = some (.im (.bool false)) := rfl
@[simp] theorem isi_str_none  : isiD .str .none = some (.im (.bool false)) := rfl
@[simp] theorem isi_str_bool {b : Bool} : isiD .str (.bool b) = some (.im (.bool false)) := rfl
@[simp] theorem isi_str_int {i : Int} : isiD .str (.int i) = some (.im (.bool false)) := rfl
@[simp] theorem isi_str_str {x : Str} : isiD .str (.str x) = some (.im (.bool true)) := rfl
@[simp] theorem isi_str_list {ds : List Dat} : isiD .str (.list ds) = some (.im (.bool false)) := rfl
@[simp] theorem isi_str_tuple {ds : List Dat} : isiD .str (.tuple ds) = some (.im (.bool false)) := rfl
@[simp] theorem isi_list_none  : isiD .list .none = some (.im (.bool false)) := rfl
@[simp] theorem isi_list_bool {b : Bool} : isiD .list (.bool b) = some (.im (.bool false)) := rfl
@[simp] theorem isi_list_int {i : Int} : isiD .list (.int i) = some (.im (.bool false)) := rfl
@[simp] theorem isi_list_str {x : Str} : isiD .list (.str x) = some (.im (.bool false)) := rfl
@[simp] theorem isi_list_list {ds : List Dat} : isiD .list (.list ds) = some (.im (.bool true)) := rfl
@[simp] theorem isi_list_tuple {ds : List Dat} : isiD .list (.tuple ds) = some (.im (.bool false)) := rfl
@[simp] theorem isi_tuple_none  : isiD .tuple .none = some (.im (.bool false)) := rfl
@[simp] theorem isi_tuple_bool {b : Bool} : isiD .tuple (.bool b) = some (.im (.bool false)) := rfl
@[simp] theorem isi_tuple_int {i : Int} : isiD .tuple (.int i) = some (.im (.bool false)) := rfl
@[simp] theorem isi_tuple_str {x : Str} : isiD .tuple (.str x) = some (.im (.bool false)) := rfl
@[simp] theorem isi_tuple_list {ds : List Dat} : isiD .tuple (.list ds) = some (.im (.bool false)) := rfl
@[simp] theorem isi_tuple_tuple {ds : List Dat} : isiD .tuple (.tuple ds) = some (.im (.bool true)) := rfl
@[simp] theorem isi2_lt_none  : isi2D .list .tuple .none = some (.im (.bool false)) := rfl
@[simp] theorem isN_none  : isND .none .none = some (.im (.bool true)) := rfl
@[simp] theorem notN_none  : notND .none .none = some (.im (.bool false)) := rfl
@[simp] theorem isi2_lt_bool {b : Bool} : isi2D .list .tuple (.bool b) = some (.im (.bool false)) := rfl
@[simp] theorem isN_bool {b : Bool} : isND (.bool b) .none = some (.im (.bool false)) := rfl
@[simp] theorem notN_bool {b : Bool} : notND (.bool b) .none = some (.im (.bool true)) := rfl
@[simp] theorem isi2_lt_int {i : Int} : isi2D .list .tuple (.int i) = some (.im (.bool false)) := rfl
@[simp] theorem isN_int {i : Int} : isND (.int i) .none = some (.im (.bool false)) := rfl
@[simp] theorem notN_int {i : Int} : notND (.int i) .none = some (.im (.bool true)) := rfl
@[simp] theorem isi2_lt_str {x : Str} : isi2D .list .tuple (.str x) = some (.im (.bool false)) := rfl
@[simp] theorem isN_str {x : Str} : isND (.str x) .none = some (.im (.bool false)) := rfl
@[simp] theorem notN_str {x : Str} : notND (.str x) .none = some (.im (.bool true)) := rfl
@[simp] theorem isi2_lt_list {ds : List Dat} : isi2D .list .tuple (.list ds) = some (.im (.bool true)) := rfl
@[simp] theorem isN_list {ds : List Dat} : isND (.list ds) .none = some (.im (.bool false)) := rfl
@[simp] theorem notN_list {ds : List Dat} : notND (.list ds) .none = some (.im (.bool true)) := rfl
@[simp] theorem isi2_lt_tuple {ds : List Dat} : isi2D .list .tuple (.tuple ds) = some (.im (.bool true)) := rfl
@[simp] theorem isN_tuple {ds : List Dat} : isND (.tuple ds) .none = some (.im (.bool false)) := rfl
@[simp] theorem notN_tuple {ds : List Dat} : notND (.tuple ds) .none = some (.im (.bool true)) := rfl
theorem mul_int {i j : Int} (h : i.natAbs ≤ 1000000 ∨ j.natAbs ≤ 1000000) : mulD (.int i) (.int j) = some (.im (.int (i * j))) := by
  show (if sm64 i || sm64 j then _ else _) = _
  rw [if_pos]
  rw [Bool.or_eq_true]
  unfold sm64
  rcases h with h | h
  · left; simp; omega
  · right; simp; omega
theorem mul_rep {ds : List Dat} {k : Nat} (hk : k ≤ 1000000) (h : ds.length * k ≤ 1000000) : mulD (.list ds) (.int (k : Int)) = some (.nw (List.replicate k ds).flatten) := by
  show (if b62 (k : Int) && line (ds.length * (k : Int).toNat) then some (RV.nw (List.replicate (k : Int).toNat ds).flatten) else none) = _
  rw [Int.toNat_natCast, b62_nat hk, line_of h]
  rfl
theorem bools_map {α : Type} {f : α → Bool} : ∀ {xs : List α}, bools? (xs.map fun x => PyData.bool (f x)) = some (xs.map f)
  | [] => rfl
  | x :: xs => by
    show (bools? (xs.map fun x => PyData.bool (f x))).map (f x :: ·) = _
    rw [bools_map]
    rfl
theorem rgB_n' {a b : Int} (h : a.natAbs ≤ 1000000) (h2 : b.natAbs ≤ 1000000) : rgB (a, b) = true := by
  unfold rgB
  simp only [Bool.and_eq_true, decide_eq_true_eq]
  omega
theorem rgD_z {i : Int} {n : Nat} : rgD i n = zL ((List.range n).map fun (k : Nat) => i + (k : Int)) := by
  unfold rgD zL
  rw [List.map_map]
  rfl
theorem b62_int {i : Int} (h : i.natAbs ≤ 1000000) : b62 i = true := by
  unfold b62
  rw [decide_eq_true_eq]
  omega
/-- an index from the end -/
theorem atI_neg {ds : List Dat} {k : Nat} {d : Dat} (hk : 0 < k) (h : ds[ds.length - k]? = some d) (hl : k ≤ ds.length) : atI ds (-(k : Int)) = some d := by
  unfold atI ixN
  rw [if_neg (by omega), if_pos (by omega)]
  have e : (-(k : Int) + (ds.length : Int)).toNat = ds.length - k := by omega
  rw [e]
  exact h
theorem ixN_neg {n k : Nat} (hk : 0 < k) (hl : k ≤ n) : ixN n (-(k : Int)) = some (n - k) := by
  unfold ixN
  rw [if_neg (by omega), if_pos (by omega)]
  have e : (-(k : Int) + (n : Int)).toNat = n - k := by omega
  rw [e]
theorem mod_posI {x y : Int} (h : 0 < y) : modD (.int x) (.int y) = some (.im (.int (x % y))) := by
  show (if decide (y ≠ 0) then _ else _) = _
  rw [if_pos (decide_eq_true (by omega))]
  show some (RV.im (.int (x.fmod y))) = _
  rw [Int.fmod_eq_emod_of_nonneg _ (by omega)]
theorem fdiv_posI {x y : Int} (h : 0 < y) (h2 : y ≤ 1000000) : fdivD (.int x) (.int y) = some (.im (.int (x / y))) := by
  show (if decide (y ≠ 0) && decide (y.natAbs < 1073741824) then _ else _) = _
  rw [decide_eq_true (show y ≠ 0 by omega), decide_eq_true (show y.natAbs < 1073741824 by omega), Bool.and_self, if_pos rfl]
  show some (RV.im (.int (x.fdiv y))) = _
  rw [Int.fdiv_eq_ediv_of_nonneg _ (by omega)]
theorem nin_map {α : Type} [DecidableEq α] {f : α → Dat} {k : Nat} (hk : k < 64) (hf : ∀ x y, PyData.eqv (f x) (f y) = decide (x = y)) (hs : ∀ x, shd k (f x)) {xs : List α} {x : α} : ninD (f x) (.list (xs.map f)) = some (.im (.bool (!decide (x ∈ xs)))) := by
  show (if SeqAt.shaped _ && SeqAt.shaped _ then _ else _) = _
  have h1 : SeqAt.shaped (.list (xs.map f)) = true := shd_ok (n := k + 1) (shd_list fun d hd => by
    obtain ⟨y, _, rfl⟩ := List.mem_map.mp hd
    exact hs y) (by omega)
  have h2 : ((xs.map f).any fun z => PyData.eqv z (f x)) = decide (x ∈ xs) := by
    rw [List.any_map]
    induction xs with
    | nil => simp
    | cons y ys ih =>
      have ih' := ih (shd_ok (n := k + 1) (shd_list fun d hd => by
        obtain ⟨y, _, rfl⟩ := List.mem_map.mp hd
        exact hs y) (by omega))
      rw [List.any_cons, ih']
      show (PyData.eqv (f y) (f x) || _) = _
      rw [hf]
      by_cases e : y = x
      · subst e; simp
      · have : ¬ x = y := fun z => e z.symm
        simp [e, this]
  rw [h1, shd_ok (hs x) (by omega), Bool.and_self, if_pos rfl]
  first
    | rw [if_pos rfl, h2]
    | rw [h2]
theorem in_map {α : Type} [DecidableEq α] {f : α → Dat} {k : Nat} (hk : k < 64) (hf : ∀ x y, PyData.eqv (f x) (f y) = decide (x = y)) (hs : ∀ x, shd k (f x)) {xs : List α} {x : α} : inD (f x) (.list (xs.map f)) = some (.im (.bool (decide (x ∈ xs)))) := by
  show (if SeqAt.shaped _ && SeqAt.shaped _ then _ else _) = _
  have h1 : SeqAt.shaped (.list (xs.map f)) = true := shd_ok (n := k + 1) (shd_list fun d hd => by
    obtain ⟨y, _, rfl⟩ := List.mem_map.mp hd
    exact hs y) (by omega)
  have h2 : ((xs.map f).any fun z => PyData.eqv z (f x)) = decide (x ∈ xs) := by
    rw [List.any_map]
    induction xs with
    | nil => simp
    | cons y ys ih =>
      have ih' := ih (shd_ok (n := k + 1) (shd_list fun d hd => by
        obtain ⟨y, _, rfl⟩ := List.mem_map.mp hd
        exact hs y) (by omega))
      rw [List.any_cons, ih']
      show (PyData.eqv (f y) (f x) || _) = _
      rw [hf]
      by_cases e : y = x
      · subst e; simp
      · have : ¬ x = y := fun z => e z.symm
        simp [e, this]
  rw [h1, shd_ok (hs x) (by omega), Bool.and_self, if_pos rfl]
  first
    | rw [if_neg (by decide), h2]
    | rw [h2]
/-- pairs of numbers -/
def p2 (z : Nat × Nat) : Dat := .tuple [.int (z.1 : Int), .int (z.2 : Int)]
theorem eqv_p2 (x y : Nat × Nat) : PyData.eqv (p2 x) (p2 y) = decide (x = y) := by
  obtain ⟨a, b⟩ := x
  obtain ⟨c, d⟩ := y
  show PyData.eqv (.tuple (nL [a, b])) (.tuple (nL [c, d])) = _
  rw [eqv_nT]
  exact decide_eq_decide.mpr ⟨fun h => by simp at h; rw [h.1, h.2], fun h => by cases h; rfl⟩
theorem shd_p2 (x : Nat × Nat) : shd 1 (p2 x) := shd_tuple (n := 0) (shd_nL (xs := [x.1, x.2]))
theorem w_cut {f : SM} {ps : PS} {R : SOut → Prop} (P : PS → Prop) (h : W f ps fun o => match o with | .nx q => P q | _ => False) (g : ∀ q, P q → R (.nx q)) : W f ps R := by
  obtain ⟨o, e, h⟩ := h
  cases o with
  | nx q => exact ⟨_, e, g q h⟩
  | rt r q => exact absurd h id
  | bk q => exact absurd h id
  | ct q => exact absurd h id
theorem w_imp {f : SM} {ps : PS} {R Q : SOut → Prop} (h : W f ps R) (g : ∀ o, R o → Q o) : W f ps Q := by
  obtain ⟨o, e, h⟩ := h
  exact ⟨o, e, g o h⟩
theorem idxOf_cast {s : Nat} : ∀ {p : List Nat}, (p.map fun (k : Nat) => (k : Int)).idxOf (s : Int) = p.idxOf s
  | [] => rfl
  | x :: p => by
    have e : ((x : Int) == (s : Int)) = (x == s) := by
      by_cases h : x = s
      · rw [h, beq_self_eq_true, beq_self_eq_true]
      · rw [beq_eq_false_iff_ne.mpr h, beq_eq_false_iff_ne.mpr (fun z => h (Int.ofNat_inj.mp z))]
    rw [List.map_cons, List.idxOf_cons, List.idxOf_cons, idxOf_cast (p := p), e]
end MP

/-! draws of the second sort: the state is a place and a rest, the script is read again and again -/
namespace MP
open PySem PySem.Spec PyProof.Rows L2
/-- the script, handed on -/
def tokB (ns : List Int) : Dat := .dict [(.none, .none), (.none, .list (zL ns))]
def drawB (rf : Fn) : Fn := fun ds dr => match ds, dr with
  | [.dict [], s, .int size], .B k c => if decide (size ≠ 0) && decide (size.natAbs < 1073741824) then
      (if c = 0 then (rf [s, .int k] .no).bind fun y => match y.1, y.2 with
        | .im (.int v), .no => some (.im (.int (v.fmod size)), .B (k + 1) (v.fdiv size))
        | _, _ => none
      else some (.im (.int (c.fmod size)), .B k (c.fdiv size)))
    else none
  | _, _ => none
theorem drawB_args {rf : Fn} {ds : List Dat} {dr dr' : Dr} {r : RV} (e : drawB rf ds dr = some (r, dr')) : ∃ (s : Dat) (size k c : Int), ds = [.dict [], s, .int size] ∧ dr = .B k c ∧ (size ≠ 0 ∧ size.natAbs < 1073741824) ∧
    ((c = 0 ∧ ∃ v, rf [s, .int k] .no = some (.im (.int v), .no) ∧ r = .im (.int (v.fmod size)) ∧ dr' = .B (k + 1) (v.fdiv size)) ∨ (c ≠ 0 ∧ r = .im (.int (c.fmod size)) ∧ dr' = .B k (c.fdiv size))) := by
  unfold drawB at e
  split at e
  · rename_i s size k c
    split at e
    · rename_i h
      simp only [Bool.and_eq_true, decide_eq_true_eq] at h
      refine ⟨s, size, k, c, rfl, rfl, h, ?_⟩
      split at e
      · rename_i hc
        obtain ⟨⟨y1, y2⟩, e1, e⟩ := Option.bind_eq_some_iff.mp e
        simp only at e
        split at e
        · cases e
          exact .inl ⟨hc, _, e1, rfl, rfl⟩
        · cases e
      · rename_i hc
        cases e
        exact .inr ⟨hc, rfl, rfl⟩
    · cases e
  · cases e
theorem drawB_vals {K : Fg} {F : Hp} {T : Addr} {s : Dat} {size : Int} {vs : List V} (h : RelL K F T [.dict [], s, .int size] vs) : ∃ u, vs = [.ref T, u, .int size] ∧ Rel K F T s u := by
  unfold RelL at h
  obtain ⟨y, ys, rfl, h1, h2⟩ := h
  unfold RelL at h2
  obtain ⟨z, zs, rfl, h3, h4⟩ := h2
  unfold RelL at h4
  obtain ⟨z4, zs4, rfl, h5, h6⟩ := h4
  unfold RelL at h6
  unfold Rel at h1
  rw [h1, rInt.mp h5, h6]
  exact ⟨z, rfl, h3⟩
/-- behind a draw -/
theorem draw_endB {K : Fg} {G : Ctl} {F F1 H H1 H' : Hp} {Q : VK} {k c k' c' r : Int} (st : G.st = true) (fs : Same F F1) (fh : Same F1 H1) (ft : F G.T = none ∧ F G.C = none) (da : DrAt G.T G.C H (.B k c)) (kp : ∀ a o, H a = some o → H1 a = some o) (nf : ∀ a, H a ≠ none → F1 a = F a)
    (dom : ∀ a, H1 a = none → H a = none) (eH : H' = upd H1 G.T (.lst [.int k', .int c']))
    (q : ∀ v F' H', Same F F' → Same F' H' → (∀ a o, H a = some o → ¬ G.ex a → H' a = some o) → (∀ a, H a ≠ none → F' a = F a) → (G.st = true → DrAt G.T G.C H' (.B k' c')) → (G.st = false → Dr.B k' c' = .no) → (∀ a, H' a = none → H a = none) → RetOk K F' G.T H H' (.im (.int r)) v → Q v H') : Q (.int r) H' := by
  obtain ⟨h1, h2⟩ := da
  subst eH
  have fT : F1 G.T = none := by rw [nf _ (by rw [h1]; simp)]; exact ft.1
  refine q _ F1 _ fs (fun b x e => ?_) (fun a o e nx => ?_) nf (fun _ => ⟨upd_same, h2⟩) (fun h => by rw [st] at h; cases h) (fun a h => ?_) (show RetOk K F1 G.T H _ (.im (.int r)) (V.int r) from (rInt (K := K) (F := F1) (T := G.T)).mpr rfl)
  · have b1 : b ≠ G.T := by rintro rfl; rw [fT] at e; cases e
    rw [upd_ne b1]
    exact fh _ _ e
  · have b1 : a ≠ G.T := fun z => nx ⟨st, .inl z⟩
    rw [upd_ne b1]
    exact kp _ _ e
  · by_cases b1 : a = G.T
    · subst b1; rw [upd_same] at h; cases h
    · rw [upd_ne b1] at h
      exact dom a h
theorem sql_new {K : Fg} {H : Hp} {p a : Addr} {o : HO} {xs : List V} (hS : SqL K H a xs) (hp : H p = none) : (Rd (upd H p o) a (.lst xs) ∧ a ≠ p) ∨ ∀ F : Hp, SqL K F a xs := by
  rcases hS with (h | ⟨u, h⟩) | h
  · have hn : a ≠ p := by rintro rfl; rw [hp] at h; cases h
    exact .inl ⟨.inl (by rw [upd_ne hn]; exact h), hn⟩
  · have hn : a ≠ p := by rintro rfl; rw [hp] at h; cases h
    exact .inl ⟨.inr ⟨u, by rw [upd_ne hn]; exact h⟩, hn⟩
  · exact .inr fun F => .inr h
/-- the law behind its state -/
theorem law_restB {K : Fg} {t : TS} {f : SM} (h : SndS K t f) {N i i0 : Nat} (hi : i < N) (hi0 : i0 < N) (hne : i0 ≠ i) {T a : Addr} {ns : List Int} {σ : L2.St} {H : Hp} (hl : σ.length = N) (hs : σ[i]? = some (some (.ref T))) (hs0 : σ[i0]? = some (some (.ref a)))
    (hT : H T = some (.lst [.int 0, .int 0])) (hS : (Rd H a (.lst (ns.map V.int)) ∧ a ≠ T) ∨ ∀ F : Hp, SqL K F a (ns.map V.int)) {ps' : PS} (e : f ⟨((List.replicate N Sl.un).set i0 (.fr (tokB ns))).set i (.fr (.dict [])), .B 0 0⟩ = some (.rt (.im (.bool true)) ps')) {D : Ends} (q : ∀ H', D.rt (.bl true) H') : t D σ H := by
  obtain ⟨F0, hF0T, hSF, same⟩ : ∃ F0 : Hp, F0 T = none ∧ SqL K F0 a (ns.map V.int) ∧ Same F0 H := by
    rcases hS with ⟨h, hTa⟩ | h
    · refine ⟨fun b => if b = a then H a else none, if_neg (Ne.symm hTa), ?_, fun b o e => ?_⟩
      · rcases h with h | ⟨o, h⟩
        · exact .inl (.inl ((if_pos rfl).trans h))
        · exact .inl (.inr ⟨o, (if_pos rfl).trans h⟩)
      · by_cases hb : b = a
        · have e : (if b = a then H a else none) = some o := e
          rw [if_pos hb] at e
          rw [hb]
          exact e
        · have e : (if b = a then H a else none) = some o := e
          rw [if_neg hb] at e
          cases e
    · exact ⟨fun _ => none, rfl, h _, fun b o e => nomatch e⟩
  have hrl : RelL K F0 T (zL ns) (ns.map V.int) := by
    clear hSF hS e same
    induction ns with
    | nil => unfold RelL zL; rfl
    | cons x ns ih =>
      show RelL K F0 T (.int x :: zL ns) (.int x :: ns.map V.int)
      exact .cons (rInt.mpr rfl) ih
  have R : Rep ⟨H, F0, T, T, true⟩ K F0 ⟨((List.replicate N Sl.un).set i0 (.fr (tokB ns))).set i (.fr (.dict [])), .B 0 0⟩ σ H := by
    refine ⟨by simp [hl], fun j s e => ?_, fun a b da db p ha hb _ _ => ?_, fun _ => ⟨hT, rfl⟩, fun _ => ⟨hF0T, hF0T, (show H T ≠ none by rw [hT]; simp), (show H T ≠ none by rw [hT]; simp)⟩, same, fun a o e _ => e, fun _ _ => rfl, Same.refl _, fun h => (nomatch h)⟩
    · rcases getSet e with ⟨rfl, rfl, _⟩ | ⟨hj, e⟩
      · exact ⟨_, hs, _, rfl, by unfold Rel; rfl⟩
      · rcases getSet e with ⟨rfl, rfl, _⟩ | ⟨hj0, e⟩
        · refine ⟨_, hs0, _, rfl, ?_⟩
          show Rel K F0 T (tokB ns) (.ref a)
          unfold tokB Rel
          exact ⟨a, _, rfl, hSF, hrl⟩
        · have z := List.mem_of_getElem? e
          rw [List.mem_replicate] at z
          have hlt := ltOf e
          rw [List.length_replicate] at hlt
          rw [z.2]
          exact ⟨σ[j]'(by omega), List.getElem?_eq_getElem (by omega), trivial⟩
    · exfalso
      rcases getSet ha with ⟨_, z, _⟩ | ⟨_, z⟩
      · cases z
      · rcases getSet z with ⟨_, z, _⟩ | ⟨_, z⟩
        · cases z
        · have w := List.mem_of_getElem? z
          rw [List.mem_replicate] at w
          exact nomatch w.2
  refine h.go _ _ _ σ H _ D R e ?_
  intro v F' σ' H' _ _ hr
  have hr : Rel K F' T (.bool true) v := hr
  rw [rBl.mp hr]
  exact q H'
end MP

/-! gcd -/
namespace MP
open PySem PySem.Spec PyProof.Rows L2
def gcdD : List Dat → Option RV
  | [.int i, .int j] => some (.im (.int ((Nat.gcd i.natAbs j.natAbs : Nat) : Int)))
  | _ => none
theorem gcdD_ok {K : Fg} : CNSnd K rGcd gcdD := by
  intro G F ps σ H vs ds out Q R r hg q
  unfold gcdD at hg
  split at hg
  · cases hg
    unfold RelL at r
    obtain ⟨y, ys, rfl, h1, h2⟩ := r
    unfold RelL at h2
    obtain ⟨z, zs, rfl, h3, h4⟩ := h2
    unfold RelL at h4
    subst h4
    rw [rInt.mp h1, rInt.mp h3]
    exact ⟨_, _, rfl, out_im R (by unfold Rel; rfl) q⟩
  · cases hg
section
variable {X : Cx} {e : Expr} {es : List Expr} {t : TA} {g : M (List Dat)} {pos p : Pos} {K : Fg}
theorem k_gcd {x : Str} (hK : X.K = K) (hgl : Gl X x) (hm : X.mg x = some (.builtin "math.gcd")) (ha : DA X (e :: es) t g)
    (hdb : (x == ("__debug__" : Str)) = false := by decide) (he : starEach (e :: es) X.env = (false, eval e X.env) :: starEach es X.env := by rfl) (hp : (backTo pos (starEach es X.env)).any (·.1) = false := by rfl) :
    DE X (.Call (.Name x p) (e :: es) [] pos) (tCB rGcd t) (cnM gcdD g) := by subst hK; exact ⟨pe_callBfun cr_gcd hgl hm ha.pe hdb he hp, snd_callN gcdD_ok ha.sn⟩
@[simp] theorem e_gcd {i j : Int} : gcdD [.int i, .int j] = some (.im (.int ((Nat.gcd i.natAbs j.natAbs : Nat) : Int))) := rfl
end
/-! ### a tuple many times over -/
set_option maxHeartbeats 4000000 in
theorem tuple_mul1W (l : Addr) (items : Array Value) (n : Nat) (dd : Option Addr) (sl : Array (Option Value)) (u : Tok) :
    Meets (Builtin.«tuple.__mul__» ⟨[.ref l, .int 1 u], []⟩) (fun _ R s => s.heap.get? l = some { cls := .type "tuple", dict := dd, data := .seq items n, slots := sl } ∧
      R (.ok (.ret (Value.ref l))) s) :=
  .of_wp fun prog w A R s h => by
    obtain ⟨hp, g, d, tk, os⟩ := s
    obtain ⟨hl, h⟩ := h
    have f1 := AutoSeq1.idx_int
    have c1 : (items.isEmpty || (1 : Int) == 1) = true := by simp
    have c0 : (decide ((1 : Int) < -(2 ^ 63)) || decide ((1 : Int) ≥ 2 ^ 63)) = false := by decide
    wp_walk using wpAny_loadPart' hl
    all_goals (first
      | (refine wpAny_ite_false (decide_eq_false (by rw [c0]; exact Bool.false_ne_true)) ?_; wp_walk using wpAny_loadPart' hl)
      | skip)
    all_goals (first
      | (refine wpAny_ite_true (decide_eq_true c1) ?_; wp_walk using wpAny_loadPart' hl)
      | skip)
    all_goals (first | exact ⟨_, rfl, h⟩ | skip)
/-- once: the tuple itself -/
def rRep1 (K : Fg) : R2 := fun x y H Q => ∃ l xs, x = .ref l ∧ y = .int 1 ∧ SqT K H l xs ∧ Q (.ref l) H
/-- a tuple many times over, tracked with its object -/
def rRepTD (K : Fg) : R2 := fun x y H Q => ∃ (l : Addr) (m : Nat) (xs : List V), x = .ref l ∧ y = .int (m : Int) ∧ SqT K H l xs ∧ 0 < xs.length ∧ 2 ≤ m ∧ m ≤ 1000 ∧ xs.length ≤ 1000 ∧ NewT H (List.replicate m xs).flatten Q
/-- the operator comes to the tuple's own method -/
theorem tup_times {X : Cx} {s : Shared} {Q : Value → Shared → Prop} {l : Addr} {us : Array Value} {n : Nat} {dd : Option Addr} {sl : Array (Option Value)} {i : Int} {tk : Tok}
    (ho : s.heap.get? l = some ⟨.type "tuple", dd, .seq us n, sl⟩) (go : wpAny (model X.prog X.w) X.A (call (.builtin "tuple.__mul__") [.ref l, .int i tk]) Q X.xe s) :
    wpAny (model X.prog X.w) X.A (binaryOp .Mult (.ref l) (.int i tk)) Q X.xe s := by
  have ty : s.TypeIs (.ref l) "tuple" := ⟨_, ho, rfl⟩
  have ti := fun z : Shared => typeIs_int z i tk
  refine wpAny_binaryOp_repeat_ref (by decide) ty ti noFill_tuple_mul F.fills_int_mul F.slot_int_rmul repeat_tuple F.slot_int_index.lookup ?_
  exact call_meets F.slot_int_rmul (ti s) F.entry_int_rmul (F.args_int_rmul_2 _ _) (int_rmul_tuple i tk l us n dd sl) ⟨ho, rfl, ty, go⟩
theorem op_rep1 {X : Cx} : OpR X (binaryOp .Mult) (rRep1 X.K) := by
  intro pins s σ H x y v u Q I rx ry h
  obtain ⟨l, xs, rfl, rfl, hT, q⟩ := h
  cases rx
  obtain ⟨t, rfl⟩ := ry
  obtain ⟨its, _, ⟨⟨c, dd, da, sl⟩, ho, h1, n, h2⟩, _⟩ := I.tuple hT
  have h1 : c = .type "tuple" := h1
  have h2 : da = .seq its.toArray n := h2
  rw [h1, h2] at ho
  have M := tuple_mul1W l its.toArray n dd sl t
  exact tup_times ho (call_meets F.slot_tuple_mul ⟨_, ho, rfl⟩ F.entry_tuple_mul (F.args_tuple_mul_2 _ _) M ⟨ho, .ref l, H, I, rfl, q⟩)
theorem op_repTD {X : Cx} : OpR X (binaryOp .Mult) (rRepTD X.K) := by
  intro pins s σ H x y v u Q I rx ry h
  obtain ⟨l, m, xs, rfl, rfl, hT, x0, m2, mz, xz, q⟩ := h
  cases rx
  obtain ⟨t, rfl⟩ := ry
  obtain ⟨its, rv, ⟨⟨c, dd, da, sl⟩, ho, h1, n, h2⟩, _⟩ := I.tuple hT
  have h1 : c = .type "tuple" := h1
  have h2 : da = .seq its.toArray n := h2
  rw [h1, h2] at ho
  have len : its.toArray.size = xs.length := List.size_toArray.trans rv.length.symm
  have all : m * xs.length ≤ 1000 * 1000 := Nat.mul_le_mul mz xz
  have line : sizeLine = 16777216 := rfl
  have flat : ∀ {α : Type} (ys : List α), (List.replicate m ys).flatten.length = m * ys.length := fun ys => PyProof.Rows.lm_len_rep_flat ..
  have prod : ((its.toArray.size : Nat) : Int) * (m : Int) = ((m * xs.length : Nat) : Int) := by
    rw [len, Nat.mul_comm m]
    exact (Int.natCast_mul _ _).symm
  have noE : its.toArray.isEmpty = false := by
    rw [Array.isEmpty_eq_false_iff_exists_mem]
    cases its with
    | nil =>
      have : 0 = xs.length := len
      omega
    | cons z zs => exact ⟨z, by simp⟩
  have M := tuple_mulW l its.toArray n dd sl (m : Int) t (by simp; omega) (by rw [noE]; simp; omega) (by rw [noE]; simp; omega) (by rw [prod]; omega) (by unfold Builtin.Tuple.tupleTooMany; rw [prod]; exact decide_eq_false (by omega))
    (by rw [Int.toNat_natCast, size_rep, List.size_toArray, flat, ← rv.length]; omega)
  refine tup_times ho (call_meets F.slot_tuple_mul ⟨_, ho, rfl⟩ F.entry_tuple_mul (F.args_tuple_mul_2 _ _) M ⟨ho, ?_⟩)
  rw [Int.toNat_natCast, size_rep]
  exact q.put I (rv.rep m) (by rw [flat]; omega)
def mulTD : Dat → Dat → Option RV
  | .tuple xs, .int k => if k = 1 then some (.im (.tuple xs)) else if decide (2 ≤ k) && decide (k ≤ 1000) && decide (xs.length ≤ 1000) && !xs.isEmpty then some (.im (.tuple (List.replicate k.toNat xs).flatten)) else none
  | _, _ => none
theorem mulTD_ok {K : Fg} : OpSnd K (R2or (rRepTD K) (rRep1 K)) mulTD := by
  intro G F ps σ H x y d e out Q R hx hy hg q
  unfold mulTD at hg
  split at hg
  · obtain ⟨a, vs, rfl, h1, h2⟩ := bTup R.fh hx
    rw [bInt hy]
    split at hg
    · rename_i hk
      cases hg
      subst hk
      exact .inr ⟨a, vs, rfl, rfl, h1, out_im R hx q⟩
    · split at hg
      · rename_i hk
        cases hg
        simp only [Bool.and_eq_true, decide_eq_true_eq, Bool.not_eq_true'] at hk
        obtain ⟨⟨⟨k1, k2⟩, k3⟩, k4⟩ := hk
        refine .inl ⟨a, (‹Int›).toNat, vs, rfl, by congr 1; omega, h1, ?_, by omega, by omega, by rw [h2.len]; exact k3, ?_⟩
        · rw [h2.len]
          exact List.length_pos_iff.mpr fun z => by rw [z] at k4; cases k4
        · exact out_tp R (h2.rep _) q
      · cases hg
  · cases hg
section
variable {X : Cx} {a b : Expr} {ta tb : TE} {fa fb : M RV} {pos : Pos} {K : Fg}
theorem k_mulT (hK : X.K = K) (ha : DE X a ta fa) (hb : DE X b tb fb) : DE X (.BinOp a .Mult b pos) (tOp (R2or (rRepTD K) (rRep1 K)) ta tb) (opM mulTD fa fb) := by subst hK; exact ⟨pe_op (op_repTD.or op_rep1) ha.pe hb.pe, snd_op mulTD_ok ha.sn hb.sn⟩
end
/-! ### zip of two lists, of two tuples -/
def zipL (ds es : List Dat) : List Dat := (ds.zip es).map fun z => PyData.dict [z]
theorem zipL_get {ds es : List Dat} {i : Nat} {d : Dat} (h : (zipL ds es)[i]? = some d) : ∃ x y, ds[i]? = some x ∧ es[i]? = some y ∧ d = .dict [(x, y)] := by
  unfold zipL at h
  rw [List.getElem?_map] at h
  obtain ⟨z, h1, h2⟩ := Option.map_eq_some_iff.mp h
  obtain ⟨h3, h4⟩ := List.getElem?_zip_eq_some.mp h1
  exact ⟨z.1, z.2, h3, h4, h2.symm⟩
def zipIt (g : M (List Dat)) : M (List Dat) := fun ps => (g ps).bind fun x => match x.1 with
  | [.list ds, .list es] => some (zipL ds es, x.2)
  | [.tuple ds, .tuple es] => some (zipL ds es, x.2)
  | _ => none
theorem rel_two {K : Fg} {F : Hp} {T : Addr} {d e : Dat} {vs : List V} (h : RelL K F T [d, e] vs) : ∃ x y, vs = [x, y] ∧ Rel K F T d x ∧ Rel K F T e y := by
  unfold RelL at h
  obtain ⟨y, ys, rfl, h1, h2⟩ := h
  unfold RelL at h2
  obtain ⟨z, zs, rfl, h3, h4⟩ := h2
  unfold RelL at h4
  subst h4
  exact ⟨y, z, rfl, h1, h3⟩
theorem snd_zip {K : Fg} {t : TA} {g : M (List Dat)} (ha : SndA K t g) : SndI K (RZ.iZipA K t) (zipIt g) := by
  refine ⟨fun G F ps σ H out ps' R Rp e q => ?_⟩
  unfold zipIt at e
  obtain ⟨⟨ws, ps1⟩, e1, e⟩ := Option.bind_eq_some_iff.mp e
  simp only at e
  refine ha.go G F ps σ H ws ps1 _ Rp e1 fun vs F1 H1 P1 r1 => ?_
  split at e
  · rename_i ds es
    cases e
    obtain ⟨x, y, rfl, rx, ry⟩ := rel_two r1
    obtain ⟨a, xs, rfl, h1, h2⟩ := rLst.mp rx
    obtain ⟨b, ys, rfl, h3, h4⟩ := rLst.mp ry
    have fx : ∀ {F2 ps σ H2}, Rep G K F2 ps σ H2 → Same F1 F2 → SqL K H2 a xs ∧ SqL K H2 b ys := fun R s => ⟨SqL.of (R.fh _ _ (s _ _ h1)), SqL.of (R.fh _ _ (s _ _ h3))⟩
    refine ⟨a, b, xs, ys, rfl, .inl ⟨SqL.of (P1.rep.fh _ _ h1), SqL.of (P1.rep.fh _ _ h3), q _ F1 H1 P1 ⟨fun i d e F2 ps σ H2 R s => ?_, fun F2 ps σ H2 R s => ?_⟩⟩⟩
    · obtain ⟨x, y, e2, e3, rfl⟩ := zipL_get e
      obtain ⟨u, e4, ru⟩ := h2.get e2
      obtain ⟨w, e5, rw'⟩ := h4.get e3
      obtain ⟨l1, l2⟩ := fx R s
      refine ⟨⟨xs, ys, u, w, l1, l2, e4, e5⟩, fun v H3 ⟨T, u', w', ev, hT, hH, hx, hy⟩ => ?_⟩
      have e6 := hx xs l1
      have e7 := hy ys l2
      rw [e4] at e6
      rw [e5] at e7
      cases e6
      cases e7
      exact yld_pair R ev hT hH (Rel.mono s _ _ ru) (Rel.mono s _ _ rw')
    · obtain ⟨l1, l2⟩ := fx R s
      refine ⟨xs, ys, l1, l2, ?_⟩
      unfold zipL
      rw [List.length_map, List.length_zip, h2.len, h4.len]
      omega
  · rename_i ds es
    cases e
    obtain ⟨x, y, rfl, rx, ry⟩ := rel_two r1
    obtain ⟨a, xs, rfl, h1, h2⟩ := rTupE rx
    obtain ⟨b, ys, rfl, h3, h4⟩ := rTupE ry
    have fx : ∀ {F2 ps σ H2}, Rep G K F2 ps σ H2 → Same F1 F2 → SqT K H2 a xs ∧ SqT K H2 b ys := fun R s => ⟨seqT (s.trans R.fh) h1, seqT (s.trans R.fh) h3⟩
    refine ⟨a, b, xs, ys, rfl, .inr ⟨seqT P1.rep.fh h1, seqT P1.rep.fh h3, q _ F1 H1 P1 ⟨fun i d e F2 ps σ H2 R s => ?_, fun F2 ps σ H2 R s => ?_⟩⟩⟩
    · obtain ⟨x, y, e2, e3, rfl⟩ := zipL_get e
      obtain ⟨u, e4, ru⟩ := h2.get e2
      obtain ⟨w, e5, rw'⟩ := h4.get e3
      obtain ⟨l1, l2⟩ := fx R s
      refine ⟨⟨xs, ys, u, w, l1, l2, e4, e5⟩, fun v H3 ⟨T, u', w', ev, hT, hH, hx, hy⟩ => ?_⟩
      have e6 := hx xs l1
      have e7 := hy ys l2
      rw [e4] at e6
      rw [e5] at e7
      cases e6
      cases e7
      exact yld_pair R ev hT hH (Rel.mono s _ _ ru) (Rel.mono s _ _ rw')
    · obtain ⟨l1, l2⟩ := fx R s
      refine ⟨xs, ys, l1, l2, ?_⟩
      unfold zipL
      rw [List.length_map, List.length_zip, h2.len, h4.len]
      omega
  · cases e
section
variable {X : Cx} {e e2 : Expr} {t : TA} {g : M (List Dat)} {p pos tpos : Pos} {K : Fg} {elts : List Expr} {kk : Nat}
theorem k_zip (hK : X.K = K) (hg : Gl X "zip") (hm : X.mg "zip" = none) (ha : DA X [e, e2] t g)
    (hs : starEach [e, e2] X.env = (false, eval e X.env) :: starEach [e2] X.env := by rfl) (hpl : (backTo pos (starEach [e2] X.env)).any (·.1) = false := by rfl) :
    DI X (.Tuple elts kk tpos) (.Call (.Name "zip" p) [e, e2] [] pos) (RZ.iZipA K t) (zipIt g) := by subst hK; exact ⟨RZ.pi_zipA hg hm ha.pe hs hpl, snd_zip ha.sn⟩
@[simp] theorem e_zip {ps : PS} : zipIt g ps = (g ps).bind fun x => match x.1 with
  | [.list ds, .list es] => some (zipL ds es, x.2)
  | [.tuple ds, .tuple es] => some (zipL ds es, x.2)
  | _ => none := rfl
@[simp] theorem e_mulT {xs : List Dat} {k : Int} : mulTD (.tuple xs) (.int k) = if k = 1 then some (.im (.tuple xs)) else if decide (2 ≤ k) && decide (k ≤ 1000) && decide (xs.length ≤ 1000) && !xs.isEmpty then some (.im (.tuple (List.replicate k.toNat xs).flatten)) else none := rfl
end
/-! ### walks over an own list in a comprehension -/
theorem sio_enum {K : Fg} {j : Nat} : SndIo K (iEnumA K (tVar j)) j enL := by
  refine ⟨fun G F ps1 σ H ds p ws R Rp es lo rl q => ?_⟩
  refine ⟨.ref p, es, p, ws, rfl, .inl ⟨SqL.of lo.a, q _ ⟨fun i d e F2 ps σ2 H2 R2 s lk => ?_, fun F2 ps σ2 H2 R2 s lk => ?_⟩⟩⟩
  · obtain ⟨z, e3, rfl⟩ := enL_get e
    obtain ⟨u, e4, r⟩ := rl.get e3
    have hl : SqL K H2 p ws := SqL.of (lk p ws lo).a
    refine ⟨⟨ws, u, hl, e4⟩, fun x H3 ⟨T, y, ev, hT, hH, hy⟩ => ?_⟩
    have e5 := hy ws hl
    rw [e4] at e5
    cases e5
    exact yld_pair R2 ev hT hH (by unfold Rel; rfl) (Rel.mono s _ _ r)
  · refine ⟨ws, SqL.of (lk p ws lo).a, ?_⟩
    unfold enL
    rw [rl.len]
    simp
section
variable {X : Cx} {pos p px cpos : Pos} {elt : Expr} {ifs : List Expr} {scope : Scope} {own : List (Str × Nat)} {g : TG} {tt : TT} {te : TE} {is : List Nat} {ft : Dat → PS → Option PS} {ftt : M Bool} {fe : M RV} {K : Fg} {elts : List Expr} {kk : Nat} {tpos : Pos}
theorem k_lcOE {j : Nat} {x : Str} (hK : X.K = K) (hj : X.N[j]? = some x) (hvis : Vis X.env.scope x) (hgl : Gl X "enumerate") (hm : X.mg "enumerate" = none) (hc : X.calm = true) (hN : X.N.Nodup) (ok : BlkOk X.N X.env.scope scope own)
    (hg : ∀ (s : Shared) (H : Hp) (C : Addr) (cl : List (Str × Addr)) (fp : List Addr), DG (X.blk s H scope (compEnvC scope cl C X.env) fp) (.Tuple elts kk tpos) g is ft) (hv : ∀ j ∈ is, j ∈ own.map (·.2)) (ht : ∀ (s : Shared) (H : Hp) (C : Addr) (cl : List (Str × Addr)) (fp : List Addr), DTs (X.blk s H scope (compEnvC scope cl C X.env) fp) ifs tt ftt)
    (he : ∀ (s : Shared) (H : Hp) (C : Addr) (cl : List (Str × Addr)) (fp : List Addr), DE (X.blk s H scope (compEnvC scope cl C X.env) fp) elt te fe) (hs : ∀ y, foldedSetIterable (.Call (.Name "enumerate" p) [.Name x px] [] pos) X.env y = pure y := by intro _; rfl)
    (hdb : (x == ("__debug__" : Str)) = false := by decide) (hcd : (x == ("__classdict__" : Str)) = false := by decide) (hs1 : starEach [.Name x px] X.env = (false, eval (.Name x px) X.env) :: starEach [] X.env := by rfl) (hs2 : starEach [.Name x px] X.env = [(false, eval (.Name x px) X.env)] := by rfl) :
    DE X (.ListComp elt [⟨.Tuple elts kk tpos, .Call (.Name "enumerate" p) [.Name x px] [] cpos, ifs, 0⟩] scope pos) (tLc (iEnumA K (tVar j)) g tt te (own.map (·.2))) (lcOM j enL (own.map (·.2)) ft ftt fe) := by
  subst hK
  exact ⟨pe_lc hc hN (pi_enumA hgl hm (pe_var hj hvis hdb hcd) hs1 hs2) ok (fun s H C cl fp => (hg s H C cl fp).pe) (fun s H C cl fp => (ht s H C cl fp).pe) (fun s H C cl fp => (he s H C cl fp).pe) hs,
    snd_lcO sio_enum (hg ⟨X.s_0.heap, X.s_0.gens, X.s_0.drawn, X.s_0.toks, X.s_0.os⟩ X.H_0 0 [] []).sn hv (ht X.s_0 X.H_0 0 [] []).sn (he X.s_0 X.H_0 0 [] []).sn⟩
end
theorem lc_eqO {α : Type} {j : Nat} {w : List Dat → List Dat} {vs : List Nat} {tgt : Dat → PS → Option PS} {tst : M Bool} {elt : M RV} {ps : PS} {ds : List Dat} (hj : ps.sl[j]? = some (.ow ds)) (k : α → Dat) (xs : List α) (e : w ds = xs.map k) (hl : xs.length ≤ 1000000) (p : α → Bool) (g : α → Dat)
    (step : ∀ x, x ∈ xs → ∃ q1 q2, tgt (k x) (wipeP vs (ps.put j .un)) = some q1 ∧ tst q1 = some (p x, q2) ∧ (p x = false → wipeP vs q2 = wipeP vs (ps.put j .un)) ∧ (p x = true → ∃ q3, keepM elt q2 = some (g x, q3) ∧ wipeP vs q3 = wipeP vs (ps.put j .un)))
    (hu : isUn j (restP vs (ps.put j .un) (wipeP vs (ps.put j .un))) = true) :
    lcOM j w vs tgt tst elt ps = some (.nw ((xs.filter p).map g), (restP vs (ps.put j .un) (wipeP vs (ps.put j .un))).put j (.ow ds)) := by
  unfold lcOM
  have h1 : oList j ps = some ds := by unfold oList; rw [hj]
  rw [h1, Option.bind_some, e, lcL_map (f := k) p g (Nat.le_of_lt (sz_of hl)) step, Option.bind_some]
  exact if_pos hu
end MP


namespace LK
open PySem PySem.Spec PyProof.Rows L2 MP
/-! ### the text by places -/
def topS (i : Nat) : Stmt := PySem.Challenge.pw_manysheets_k26_whole_cyclic_coverings.main.body.getD i (.Pass ⟨0, 0, 0, 0⟩)
abbrev s_law_state : Stmt := topS 11
abbrev s_law_draw : Stmt := topS 12
abbrev s_multiple : Stmt := topS 3
abbrev s_twos_in : Stmt := topS 4
abbrev s_broken : Stmt := topS 5
abbrev s_prime_powers : Stmt := topS 6
abbrev s_put_together : Stmt := topS 8
abbrev s_part_steps : Stmt := topS 7
abbrev s_make_cyclic : Stmt := topS 9
abbrev s_law_gcd : Stmt := topS 13
abbrev s_law_multiple : Stmt := topS 15
abbrev s_law_broken : Stmt := topS 16
abbrev s_law_order : Stmt := topS 14
abbrev s_law_is_there : Stmt := topS 18
abbrev s_law_fits : Stmt := topS 17
abbrev s_order_of : Stmt := topS 2
abbrev s_law : Stmt := topS 19
theorem sc_law_state : FnScope ["script", "seed", "cell"] ["script"] (defScope s_law_state) := ⟨rfl, rfl, rfl, by decide +kernel, rfl, by decide +kernel, by decide +kernel⟩
theorem sc_law_draw : FnScope ["state", "many", "cells", "value", "mixed"] ["state", "many"] (defScope s_law_draw) := ⟨rfl, rfl, rfl, by decide +kernel, rfl, by decide +kernel, by decide +kernel⟩
theorem sc_multiple : FnScope ["orders", "told", "order"] ["orders"] (defScope s_multiple) := ⟨rfl, rfl, rfl, by decide +kernel, rfl, by decide +kernel, by decide +kernel⟩
theorem sc_twos_in : FnScope ["number", "told"] ["number"] (defScope s_twos_in) := ⟨rfl, rfl, rfl, by decide +kernel, rfl, by decide +kernel, by decide +kernel⟩
theorem sc_broken : FnScope ["datum", "handles", "sheets", "orders", "whole", "index", "order", "many"] ["datum"] (defScope s_broken) := ⟨rfl, rfl, rfl, by decide +kernel, rfl, by decide +kernel, by decide +kernel⟩
theorem sc_prime_powers : FnScope ["number", "told", "prime", "power"] ["number"] (defScope s_prime_powers) := ⟨rfl, rfl, rfl, by decide +kernel, rfl, by decide +kernel, by decide +kernel⟩
theorem sc_put_together : FnScope ["steps", "power", "more", "other", "told", "one", "two"] ["steps", "power", "more", "other"] (defScope s_put_together) := ⟨rfl, rfl, rfl, by decide +kernel, rfl, by decide +kernel, by decide +kernel⟩
theorem sc_part_steps : FnScope ["orders", "prime", "power", "parts", "told", "great", "left", "first", "order", "part", "at", "step"] ["orders", "prime", "power"] (defScope s_part_steps) := ⟨rfl, rfl, rfl, by decide +kernel, rfl, by decide +kernel, by decide +kernel⟩
theorem sc_make_cyclic : FnScope ["datum", "handles", "sheets", "orders", "why", "steps", "done", "prime", "power", "free", "step"] ["datum"] (defScope s_make_cyclic) := ⟨rfl, rfl, rfl, by decide +kernel, rfl, by decide +kernel, by decide +kernel⟩
theorem sc_law_gcd : FnScope ["one", "other"] ["one", "other"] (defScope s_law_gcd) := ⟨rfl, rfl, rfl, by decide +kernel, rfl, by decide +kernel, by decide +kernel⟩
theorem sc_law_multiple : FnScope ["orders", "told", "order"] ["orders"] (defScope s_law_multiple) := ⟨rfl, rfl, rfl, by decide +kernel, rfl, by decide +kernel, by decide +kernel⟩
theorem sc_law_broken : FnScope ["datum", "handles", "n", "orders", "whole", "k", "found", "twos", "many", "order"] ["datum"] (defScope s_law_broken) := ⟨rfl, rfl, rfl, by decide +kernel, rfl, by decide +kernel, by decide +kernel⟩
theorem sc_law_order : FnScope ["step", "n"] ["step", "n"] (defScope s_law_order) := ⟨rfl, rfl, rfl, by decide +kernel, rfl, by decide +kernel, by decide +kernel⟩
theorem sc_law_is_there : FnScope ["datum", "handles", "n", "orders", "sums", "order", "longer", "total", "common", "step", "place"] ["datum"] (defScope s_law_is_there) := ⟨rfl, rfl, rfl, by decide +kernel, rfl, by decide +kernel, by decide +kernel⟩
theorem sc_law_fits : FnScope ["datum", "free", "steps", "handles", "n", "orders", "step", "common", "k"] ["datum", "free", "steps"] (defScope s_law_fits) := ⟨rfl, rfl, rfl, by decide +kernel, rfl, by decide +kernel, by decide +kernel⟩
theorem sc_order_of : FnScope ["step", "n"] ["step", "n"] (defScope s_order_of) := ⟨rfl, rfl, rfl, by decide +kernel, rfl, by decide +kernel, by decide +kernel⟩
theorem sc_law : FnScope ["script", "state", "turn", "n", "order", "divisors", "orders", "k", "datum", "told", "why", "step", "many"] ["script"] (defScope s_law) := ⟨rfl, rfl, rfl, by decide +kernel, rfl, by decide +kernel, by decide +kernel⟩
structure Txt (K : Fg) (mg : Str → Option Value) where
  a_law_state : Addr
  d_law_state : FuncData
  F_law_state : Fun K "_law_state" "_law_state" s_law_state a_law_state d_law_state
  g_law_state : mg "_law_state" = some (.ref a_law_state)
  a_law_draw : Addr
  d_law_draw : FuncData
  F_law_draw : Fun K "_law_draw" "_law_draw" s_law_draw a_law_draw d_law_draw
  g_law_draw : mg "_law_draw" = some (.ref a_law_draw)
  a_multiple : Addr
  d_multiple : FuncData
  F_multiple : Fun K "multiple" "multiple" s_multiple a_multiple d_multiple
  g_multiple : mg "multiple" = some (.ref a_multiple)
  a_twos_in : Addr
  d_twos_in : FuncData
  F_twos_in : Fun K "twos_in" "twos_in" s_twos_in a_twos_in d_twos_in
  g_twos_in : mg "twos_in" = some (.ref a_twos_in)
  a_broken : Addr
  d_broken : FuncData
  F_broken : Fun K "broken" "broken" s_broken a_broken d_broken
  g_broken : mg "broken" = some (.ref a_broken)
  a_prime_powers : Addr
  d_prime_powers : FuncData
  F_prime_powers : Fun K "prime_powers" "prime_powers" s_prime_powers a_prime_powers d_prime_powers
  g_prime_powers : mg "prime_powers" = some (.ref a_prime_powers)
  a_put_together : Addr
  d_put_together : FuncData
  F_put_together : Fun K "put_together" "put_together" s_put_together a_put_together d_put_together
  g_put_together : mg "put_together" = some (.ref a_put_together)
  a_part_steps : Addr
  d_part_steps : FuncData
  F_part_steps : Fun K "part_steps" "part_steps" s_part_steps a_part_steps d_part_steps
  g_part_steps : mg "part_steps" = some (.ref a_part_steps)
  a_make_cyclic : Addr
  d_make_cyclic : FuncData
  F_make_cyclic : Fun K "make_cyclic" "make_cyclic" s_make_cyclic a_make_cyclic d_make_cyclic
  g_make_cyclic : mg "make_cyclic" = some (.ref a_make_cyclic)
  a_law_gcd : Addr
  d_law_gcd : FuncData
  F_law_gcd : Fun K "_law_gcd" "_law_gcd" s_law_gcd a_law_gcd d_law_gcd
  g_law_gcd : mg "_law_gcd" = some (.ref a_law_gcd)
  a_law_multiple : Addr
  d_law_multiple : FuncData
  F_law_multiple : Fun K "_law_multiple" "_law_multiple" s_law_multiple a_law_multiple d_law_multiple
  g_law_multiple : mg "_law_multiple" = some (.ref a_law_multiple)
  a_law_broken : Addr
  d_law_broken : FuncData
  F_law_broken : Fun K "_law_broken" "_law_broken" s_law_broken a_law_broken d_law_broken
  g_law_broken : mg "_law_broken" = some (.ref a_law_broken)
  a_law_order : Addr
  d_law_order : FuncData
  F_law_order : Fun K "_law_order" "_law_order" s_law_order a_law_order d_law_order
  g_law_order : mg "_law_order" = some (.ref a_law_order)
  a_law_is_there : Addr
  d_law_is_there : FuncData
  F_law_is_there : Fun K "_law_is_there" "_law_is_there" s_law_is_there a_law_is_there d_law_is_there
  g_law_is_there : mg "_law_is_there" = some (.ref a_law_is_there)
  a_law_fits : Addr
  d_law_fits : FuncData
  F_law_fits : Fun K "_law_fits" "_law_fits" s_law_fits a_law_fits d_law_fits
  g_law_fits : mg "_law_fits" = some (.ref a_law_fits)
  a_order_of : Addr
  d_order_of : FuncData
  F_order_of : Fun K "order_of" "order_of" s_order_of a_order_of d_order_of
  g_order_of : mg "order_of" = some (.ref a_order_of)
  a_law : Addr
  d_law : FuncData
  F_law : Fun K "law" "law" s_law a_law d_law
  g_law : mg "law" = some (.ref a_law)
  z_abs : mg "abs" = none
  z_enumerate : mg "enumerate" = none
  z_int : mg "int" = none
  z_isinstance : mg "isinstance" = none
  z_len : mg "len" = none
  z_range : mg "range" = none
  z_sum : mg "sum" = none
  z_tuple : mg "tuple" = none
  z_zip : mg "zip" = none
  bf_gcd : mg "gcd" = some (.builtin "math.gcd")
abbrev XX (P : Program) (w : World) (K : Fg) (mg : Str → Option Value) (base : Heap) (N : List Str) (qual : Str) (st : Stmt) (f : Addr) (cdv : Value) (A : Around) (outer : List Env) (s : Shared) (H : Hp) (E : XK) : Cx := (cxOf CX0 P w K mg base N qual (defScope st) f cdv A outer s H E).nox
section
variable {P : Program} {w : World} {K : Fg} {mg : Str → Option Value} {base : Heap}
theorem bind_law_state (T : Txt K mg) : Binds K T.d_law_state ["script"] [] := T.F_law_state.binds (ps := ["script"]) fun _ _ _ _ _ _ us hl => match us, hl with | [_], _ => rfl
theorem bind_law_draw (T : Txt K mg) : Binds K T.d_law_draw ["state", "many"] [] := T.F_law_draw.binds (ps := ["state", "many"]) fun _ _ _ _ _ _ us hl => match us, hl with | [_, _], _ => rfl
theorem bind_multiple (T : Txt K mg) : Binds K T.d_multiple ["orders"] [] := T.F_multiple.binds (ps := ["orders"]) fun _ _ _ _ _ _ us hl => match us, hl with | [_], _ => rfl
theorem bind_twos_in (T : Txt K mg) : Binds K T.d_twos_in ["number"] [] := T.F_twos_in.binds (ps := ["number"]) fun _ _ _ _ _ _ us hl => match us, hl with | [_], _ => rfl
theorem bind_broken (T : Txt K mg) : Binds K T.d_broken ["datum"] [] := T.F_broken.binds (ps := ["datum"]) fun _ _ _ _ _ _ us hl => match us, hl with | [_], _ => rfl
theorem bind_prime_powers (T : Txt K mg) : Binds K T.d_prime_powers ["number"] [] := T.F_prime_powers.binds (ps := ["number"]) fun _ _ _ _ _ _ us hl => match us, hl with | [_], _ => rfl
theorem bind_put_together (T : Txt K mg) : Binds K T.d_put_together ["steps", "power", "more", "other"] [] := T.F_put_together.binds (ps := ["steps", "power", "more", "other"]) fun _ _ _ _ _ _ us hl => match us, hl with | [_, _, _, _], _ => rfl
theorem bind_part_steps (T : Txt K mg) : Binds K T.d_part_steps ["orders", "prime", "power"] [] := T.F_part_steps.binds (ps := ["orders", "prime", "power"]) fun _ _ _ _ _ _ us hl => match us, hl with | [_, _, _], _ => rfl
theorem bind_make_cyclic (T : Txt K mg) : Binds K T.d_make_cyclic ["datum"] [] := T.F_make_cyclic.binds (ps := ["datum"]) fun _ _ _ _ _ _ us hl => match us, hl with | [_], _ => rfl
theorem bind_law_gcd (T : Txt K mg) : Binds K T.d_law_gcd ["one", "other"] [] := T.F_law_gcd.binds (ps := ["one", "other"]) fun _ _ _ _ _ _ us hl => match us, hl with | [_, _], _ => rfl
theorem bind_law_multiple (T : Txt K mg) : Binds K T.d_law_multiple ["orders"] [] := T.F_law_multiple.binds (ps := ["orders"]) fun _ _ _ _ _ _ us hl => match us, hl with | [_], _ => rfl
theorem bind_law_broken (T : Txt K mg) : Binds K T.d_law_broken ["datum"] [] := T.F_law_broken.binds (ps := ["datum"]) fun _ _ _ _ _ _ us hl => match us, hl with | [_], _ => rfl
theorem bind_law_order (T : Txt K mg) : Binds K T.d_law_order ["step", "n"] [] := T.F_law_order.binds (ps := ["step", "n"]) fun _ _ _ _ _ _ us hl => match us, hl with | [_, _], _ => rfl
theorem bind_law_is_there (T : Txt K mg) : Binds K T.d_law_is_there ["datum"] [] := T.F_law_is_there.binds (ps := ["datum"]) fun _ _ _ _ _ _ us hl => match us, hl with | [_], _ => rfl
theorem bind_law_fits (T : Txt K mg) : Binds K T.d_law_fits ["datum", "free", "steps"] [] := T.F_law_fits.binds (ps := ["datum", "free", "steps"]) fun _ _ _ _ _ _ us hl => match us, hl with | [_, _, _], _ => rfl
theorem bind_order_of (T : Txt K mg) : Binds K T.d_order_of ["step", "n"] [] := T.F_order_of.binds (ps := ["step", "n"]) fun _ _ _ _ _ _ us hl => match us, hl with | [_, _], _ => rfl
theorem bind_law (T : Txt K mg) : Binds K T.d_law ["script"] [] := T.F_law.binds (ps := ["script"]) fun _ _ _ _ _ _ us hl => match us, hl with | [_], _ => rfl
end
/-! ### what the defs compute -/
def fn_law_draw : Fn := drawA
noncomputable def b_multiple : SM := (seqM (setM 1 (kst (.int 1)))
  (seqM (forSM (seqIt (rdV 0)) (nmT 2) (setM 1 (opM fdivD (opM mulD (rdV 1) (rdV 2)) (cnM gcdD (consM (rdV 1) (consM (rdV 2) (M.ret [])))))))
  (retM (rdV 1))))
noncomputable def fn_multiple : Fn := bodyFn 3 b_multiple
noncomputable def b_twos_in : SM := (seqM (setM 1 (kst (.int 1)))
  (seqM (whileM (tstM (opM eqD (opM modD (rdV 0) (opM mulD (kst (.int 2)) (rdV 1))) (kst (.int 0)))) (setM 1 (opM mulD (kst (.int 2)) (rdV 1))))
  (retM (rdV 1))))
noncomputable def fn_twos_in : Fn := bodyFn 2 b_twos_in
noncomputable def b_broken : SM := (seqM (asgM (tupT 3 (consTs (nmT 1) (consTs (nmT 2) (consTs (nmT 3) nilTs)))) (rdV 0))
  (seqM (setM 4 (callM fn_multiple (consM (rdV 3) (M.ret []))))
  (seqM (forSM (enIt (rdV 3)) (tupT 2 (consTs (nmT 5) (consTs (nmT 6) nilTs))) (iteM (tstM (opM neD (opM modD (rdV 2) (rdV 6)) (kst (.int 0)))) (retM (tupM (consM (kst (.str ("divide" : Str))) (consM (rdV 5) (M.ret []))))) nxM))
  (seqM (forSM (rng1 (consM (unM lenD (rdV 3)) (M.ret []))) (nmT 5) (iteM (tstM (opM neD (callM fn_multiple (consM (opM addD (slM (rdV 3) (M.ret none) (partM (rdV 5))) (slM (rdV 3) (partM (opM addD (rdV 5) (kst (.int 1)))) (M.ret none))) (M.ret []))) (rdV 4))) (retM (tupM (consM (kst (.str ("common" : Str))) (consM (rdV 5) (M.ret []))))) nxM))
  (seqM (iteM (andM (tstM (opM eqD (rdV 1) (kst (.int 0)))) (tstM (opM neD (rdV 4) (rdV 2)))) (retM (tupM (consM (kst (.str ("whole" : Str))) (consM (rdV 4) (M.ret []))))) nxM)
  (seqM (setM 7 (unM lenD (lcM [6] (seqIt (rdV 3)) (nmT 6) (tstM (opM eqD (opM modD (rdV 6) (callM fn_twos_in (consM (rdV 4) (M.ret [])))) (kst (.int 0)))) (rdV 6))))
  (seqM (iteM (andM (tstM (opM eqD (opM modD (rdV 4) (kst (.int 2))) (kst (.int 0)))) (tstM (opM eqD (opM modD (rdV 7) (kst (.int 2))) (kst (.int 1))))) (retM (tupM (consM (kst (.str ("twos" : Str))) (consM (rdV 7) (M.ret []))))) nxM)
  (retM (kst .none)))))))))
noncomputable def fn_broken : Fn := bodyFn 8 b_broken
noncomputable def b_prime_powers : SM := (seqM (setM 1 (lstM (M.ret [])))
  (seqM (setM 2 (kst (.int 2)))
  (seqM (whileM (tstM (opM gtD (rdV 0) (kst (.int 1)))) (seqM (setM 3 (kst (.int 1)))
  (seqM (whileM (tstM (opM eqD (opM modD (rdV 0) (rdV 2)) (kst (.int 0)))) (seqM (setM 0 (opM fdivD (rdV 0) (rdV 2)))
  (setM 3 (opM mulD (rdV 3) (rdV 2)))))
  (seqM (iteM (tstM (opM gtD (rdV 3) (kst (.int 1)))) (appM 1 (tupM (consM (rdV 2) (consM (rdV 3) (M.ret []))))) nxM)
  (setM 2 (opM addD (rdV 2) (kst (.int 1))))))))
  (retM (rdV 1)))))
noncomputable def fn_prime_powers : Fn := bodyFn 4 b_prime_powers
noncomputable def b_put_together : SM := (seqM (setM 4 (lstM (M.ret [])))
  (seqM (forSM (zipIt (consM (rdV 0) (consM (rdV 2) (M.ret [])))) (tupT 2 (consTs (nmT 5) (consTs (nmT 6) nilTs))) (seqM (whileM (tstM (opM neD (opM modD (rdV 5) (rdV 3)) (rdV 6))) (setM 5 (opM addD (rdV 5) (rdV 1))))
  (appM 4 (rdV 5))))
  (retM (rdV 4))))
noncomputable def fn_put_together : Fn := bodyFn 7 b_put_together
noncomputable def b_part_steps : SM := (seqM (setM 3 (lcM [8] (seqIt (rdV 0)) (nmT 8) (M.ret true) (cnM gcdD (consM (rdV 8) (consM (rdV 2) (M.ret []))))))
  (seqM (setM 4 (lcM [9] (seqIt (rdV 3)) (nmT 9) (M.ret true) (opM fdivD (rdV 2) (rdV 9))))
  (seqM (setM 5 (lcM [10, 9] (enIt (rdV 3)) (tupT 2 (consTs (nmT 10) (consTs (nmT 9) nilTs))) (tstM (opM eqD (rdV 9) (rdV 2))) (rdV 10)))
  (seqM (setM 6 (unM negD (unM sumAD (lcOM 4 enL [10, 11] (tupT 2 (consTs (nmT 10) (consTs (nmT 11) nilTs))) (tstM (opM ninD (rdV 10) (slM (rdV 5) (M.ret none) (partM (kst (.int 2)))))) (rdV 11)))))
  (seqM (setM 7 (ifM (tstM (opM neD (opM modD (opM subD (rdV 6) (kst (.int 1))) (rdV 1)) (kst (.int 0)))) (kst (.int 1)) (kst (.int 2))))
  (seqM (stoM 4 (opM ixD (rdV 5) (kst (.int 0))) (rdV 7))
  (seqM (stoM 4 (opM ixD (rdV 5) (kst (.int 1))) (opM modD (opM subD (rdV 6) (rdV 7)) (rdV 2)))
  (retM (lcM [11] (seqIt (rdV 4)) (nmT 11) (M.ret true) (opM modD (rdV 11) (rdV 2)))))))))))
noncomputable def fn_part_steps : Fn := bodyFn 12 b_part_steps
noncomputable def b_make_cyclic : SM := (seqM (asgM (tupT 3 (consTs (nmT 1) (consTs (nmT 2) (consTs (nmT 3) nilTs)))) (rdV 0))
  (seqM (setM 4 (callM fn_broken (consM (rdV 0) (M.ret []))))
  (seqM (iteM (tstM (opM notND (rdV 4) (kst .none))) (retM (opM addD (tupM (consM (kst (.str ("barred" : Str))) (M.ret []))) (rdV 4))) nxM)
  (seqM (setM 5 (opM mulD (lstM (consM (kst (.int 0)) (M.ret []))) (unM lenD (rdV 3))))
  (seqM (setM 6 (kst (.int 1)))
  (seqM (forSM (seqIt (callM fn_prime_powers (consM (callM fn_multiple (consM (rdV 3) (M.ret []))) (M.ret [])))) (tupT 2 (consTs (nmT 7) (consTs (nmT 8) nilTs))) (seqM (setM 5 (callM fn_put_together (consM (rdV 5) (consM (rdV 6) (consM (callM fn_part_steps (consM (rdV 3) (consM (rdV 7) (consM (rdV 8) (M.ret []))))) (consM (rdV 8) (M.ret [])))))))
  (setM 6 (opM mulD (rdV 6) (rdV 8)))))
  (seqM (setM 9 (ifM (tstM (opM gtD (rdV 1) (kst (.int 0)))) (opM addD (tupM (consM (opM modD (kst (.int 1)) (rdV 2)) (M.ret []))) (opM mulTD (tupM (consM (kst (.int 0)) (M.ret []))) (opM subD (opM mulD (kst (.int 2)) (rdV 1)) (kst (.int 1))))) (tupM (M.ret []))))
  (retM (tupM (consM (kst (.str ("made" : Str))) (consM (rdV 9) (consM (unM tupleD (lcM [10] (seqIt (rdV 5)) (nmT 10) (M.ret true) (opM modD (opM mulD (rdV 10) (opM fdivD (rdV 2) (rdV 6))) (rdV 2)))) (M.ret [])))))))))))))
noncomputable def fn_make_cyclic : Fn := bodyFn 11 b_make_cyclic
noncomputable def b_law_gcd : SM := (seqM (whileM (tstM (opM neD (rdV 1) (kst (.int 0)))) (parM 0 1 (rdV 1) (opM modD (unM intD (rdV 0)) (rdV 1))))
  (retM (rdV 0)))
noncomputable def fn_law_gcd : Fn := bodyFn 2 b_law_gcd
noncomputable def b_law_multiple : SM := (seqM (setM 1 (kst (.int 1)))
  (seqM (forSM (seqIt (rdV 0)) (nmT 2) (setM 1 (opM fdivD (opM mulD (rdV 1) (rdV 2)) (callM fn_law_gcd (consM (rdV 1) (consM (rdV 2) (M.ret [])))))))
  (retM (rdV 1))))
noncomputable def fn_law_multiple : Fn := bodyFn 3 b_law_multiple
noncomputable def b_law_broken : SM := (seqM (asgM (tupT 3 (consTs (nmT 1) (consTs (nmT 2) (consTs (nmT 3) nilTs)))) (rdV 0))
  (seqM (setM 4 (callM fn_law_multiple (consM (rdV 3) (M.ret []))))
  (seqM (setM 6 (lcM [5] (rng1 (consM (unM lenD (rdV 3)) (M.ret []))) (nmT 5) (tstM (opM neD (opM modD (unM intD (rdV 2)) (opM ixD (rdV 3) (rdV 5))) (kst (.int 0)))) (tupM (consM (kst (.str ("divide" : Str))) (consM (rdV 5) (M.ret []))))))
  (seqM (forSM (rng1 (consM (unM lenD (rdV 3)) (M.ret []))) (nmT 5) (iteM (tstM (opM neD (callM fn_law_multiple (consM (opM addD (slM (rdV 3) (M.ret none) (partM (rdV 5))) (slM (rdV 3) (partM (opM addD (rdV 5) (kst (.int 1)))) (M.ret none))) (M.ret []))) (rdV 4))) (appM 6 (tupM (consM (kst (.str ("common" : Str))) (consM (rdV 5) (M.ret []))))) nxM))
  (seqM (iteM (andM (tstM (opM eqD (rdV 1) (kst (.int 0)))) (tstM (opM neD (rdV 4) (rdV 2)))) (appM 6 (tupM (consM (kst (.str ("whole" : Str))) (consM (rdV 4) (M.ret []))))) nxM)
  (seqM (setM 7 (kst (.int 1)))
  (seqM (whileM (tstM (opM eqD (opM modD (unM intD (rdV 4)) (opM mulD (kst (.int 2)) (rdV 7))) (kst (.int 0)))) (setM 7 (opM mulD (kst (.int 2)) (rdV 7))))
  (seqM (setM 8 (unM lenD (lcM [9] (seqIt (rdV 3)) (nmT 9) (tstM (opM eqD (opM modD (unM intD (rdV 9)) (rdV 7)) (kst (.int 0)))) (rdV 9))))
  (seqM (iteM (andM (tstM (opM eqD (opM modD (unM intD (rdV 4)) (kst (.int 2))) (kst (.int 0)))) (tstM (opM eqD (opM modD (unM intD (rdV 8)) (kst (.int 2))) (kst (.int 1))))) (appM 6 (tupM (consM (kst (.str ("twos" : Str))) (consM (rdV 8) (M.ret []))))) nxM)
  (retM (rdV 6)))))))))))
noncomputable def fn_law_broken : Fn := bodyFn 10 b_law_broken
noncomputable def b_law_order : SM := (retM (opM fdivD (rdV 1) (callM fn_law_gcd (consM (rdV 1) (consM (rdV 0) (M.ret []))))))
noncomputable def fn_law_order : Fn := bodyFn 2 b_law_order
noncomputable def b_law_is_there : SM := (seqM (asgM (tupT 3 (consTs (nmT 1) (consTs (nmT 2) (consTs (nmT 3) nilTs)))) (rdV 0))
  (seqM (setM 4 (lstM (consM (lstM (consM (kst (.int 0)) (consM (ifM (tstM (opM eqD (rdV 1) (kst (.int 0)))) (rdV 2) (kst (.int 1))) (M.ret [])))) (M.ret []))))
  (seqM (forSM (seqIt (rdV 3)) (nmT 5) (seqM (setM 6 (lstM (M.ret [])))
  (seqM (forSM (seqIt (rdV 4)) (tupT 2 (consTs (nmT 7) (consTs (nmT 8) nilTs))) (forSM (rng1 (consM (rdV 2) (M.ret []))) (nmT 9) (iteM (tstM (opM eqD (callM fn_law_order (consM (rdV 9) (consM (rdV 2) (M.ret [])))) (rdV 5))) (seqM (setM 10 (lstM (consM (opM modD (unM intD (opM addD (rdV 7) (rdV 9))) (rdV 2)) (consM (callM fn_law_gcd (consM (rdV 8) (consM (rdV 9) (M.ret [])))) (M.ret [])))))
  (iteM (tstM (opM ninD (rdV 10) (rdV 6))) (appM 6 (rdV 10)) nxM)) nxM)))
  (setM 4 (rdV 6)))))
  (retM (opM inD (lstM (consM (kst (.int 0)) (consM (kst (.int 1)) (M.ret [])))) (rdV 4))))))
noncomputable def fn_law_is_there : Fn := bodyFn 11 b_law_is_there
noncomputable def b_law_fits : SM := (seqM (asgM (tupT 3 (consTs (nmT 3) (consTs (nmT 4) (consTs (nmT 5) nilTs)))) (rdV 0))
  (seqM (iteM (orM (tstM (opM neD (unM lenD (rdV 1)) (opM mulD (kst (.int 2)) (rdV 3)))) (tstM (opM neD (unM lenD (rdV 2)) (unM lenD (rdV 5))))) (retM (kst (.bool false))) nxM)
  (seqM (iteM (tstM (opM gtD (unM lenD (lcM [6] (seqIt (opM addD (rdV 1) (rdV 2))) (nmT 6) (orM (tstM (opM ltD (rdV 6) (kst (.int 0)))) (tstM (opM geD (rdV 6) (rdV 4)))) (rdV 6))) (kst (.int 0)))) (retM (kst (.bool false))) nxM)
  (seqM (iteM (tstM (opM gtD (unM lenD (lcM [8] (rng1 (consM (unM lenD (rdV 2)) (M.ret []))) (nmT 8) (tstM (opM neD (callM fn_law_order (consM (opM ixD (rdV 2) (rdV 8)) (consM (rdV 4) (M.ret [])))) (opM ixD (rdV 5) (rdV 8)))) (rdV 8))) (kst (.int 0)))) (retM (kst (.bool false))) nxM)
  (seqM (setM 7 (rdV 4))
  (seqM (forSM (seqIt (opM addD (rdV 1) (rdV 2))) (nmT 6) (setM 7 (callM fn_law_gcd (consM (rdV 7) (consM (rdV 6) (M.ret []))))))
  (retM (andVM (opM eqD (opM modD (unM intD (unM sumAD (rdV 2))) (rdV 4)) (kst (.int 0))) (opM eqD (rdV 7) (kst (.int 1)))))))))))
noncomputable def fn_law_fits : Fn := bodyFn 9 b_law_fits
noncomputable def b_order_of : SM := (retM (opM fdivD (rdV 1) (cnM gcdD (consM (rdV 0) (consM (rdV 1) (M.ret []))))))
noncomputable def fn_order_of : Fn := bodyFn 2 b_order_of
noncomputable def b_law : SM := (seqM (forSM (rng1 (consM (kst (.int 3)) (M.ret []))) (nmT 2) (seqM (setM 3 (opM addD (kst (.int 1)) (callM fn_law_draw (consM (rdV 1) (consM (kst (.int 12)) (M.ret []))))))
  (seqM (setM 5 (lcM [4] (rng2 (consM (kst (.int 2)) (consM (opM addD (rdV 3) (kst (.int 1))) (M.ret [])))) (nmT 4) (tstM (opM eqD (opM modD (unM intD (rdV 3)) (rdV 4)) (kst (.int 0)))) (rdV 4)))
  (seqM (setM 6 (lstM (M.ret [])))
  (seqM (forSM (rng1 (consM (callM fn_law_draw (consM (rdV 1) (consM (kst (.int 5)) (M.ret [])))) (M.ret []))) (nmT 7) (seqM (setM 4 (opM addD (kst (.int 2)) (callM fn_law_draw (consM (rdV 1) (consM (kst (.int 11)) (M.ret []))))))
  (seqM (iteM (andM (tstM (opM gtD (unM lenD (rdV 5)) (kst (.int 0)))) (tstM (opM gtD (callM fn_law_draw (consM (rdV 1) (consM (kst (.int 6)) (M.ret [])))) (kst (.int 0))))) (setM 4 (opM ixD (rdV 5) (callM fn_law_draw (consM (rdV 1) (consM (unM lenD (rdV 5)) (M.ret [])))))) nxM)
  (appM 6 (rdV 4)))))
  (seqM (setM 8 (tupM (consM (opM ixD (lstM (consM (kst (.int 0)) (consM (kst (.int 0)) (consM (kst (.int 1)) (consM (kst (.int 2)) (M.ret [])))))) (callM fn_law_draw (consM (rdV 1) (consM (kst (.int 4)) (M.ret []))))) (consM (rdV 3) (consM (unM tupleD (rdV 6)) (M.ret []))))))
  (seqM (setM 9 (callM fn_make_cyclic (consM (rdV 8) (M.ret []))))
  (seqM (setM 10 (callM fn_law_broken (consM (rdV 8) (M.ret []))))
  (seqM (iteM (orM (notM (truM (unM (isiD .tuple) (rdV 9)))) (orM (tstM (opM neD (opM eqD (opM ixD (rdV 9) (kst (.int 0))) (kst (.str ("made" : Str)))) (opM eqD (unM lenD (rdV 10)) (kst (.int 0))))) (tstM (opM neD (callM fn_law_is_there (consM (rdV 8) (M.ret []))) (opM eqD (unM lenD (rdV 10)) (kst (.int 0))))))) (retM (kst (.bool false))) nxM)
  (seqM (iteM (andM (tstM (opM gtD (unM lenD (rdV 10)) (kst (.int 0)))) (tstM (opM neD (rdV 9) (opM addD (tupM (consM (kst (.str ("barred" : Str))) (M.ret []))) (opM ixD (rdV 10) (kst (.int 0))))))) (retM (kst (.bool false))) nxM)
  (seqM (iteM (andM (tstM (opM eqD (unM lenD (rdV 10)) (kst (.int 0)))) (notM (truM (callM fn_law_fits (consM (rdV 8) (consM (opM ixD (rdV 9) (kst (.int 1))) (consM (opM ixD (rdV 9) (kst (.int 2))) (M.ret [])))))))) (retM (kst (.bool false))) nxM)
  (seqM (iteM (orM (tstM (opM neD (callM fn_multiple (consM (unM tupleD (rdV 6)) (M.ret []))) (callM fn_law_multiple (consM (rdV 6) (M.ret []))))) (tstM (opM neD (callM fn_multiple (consM (tupM (M.ret [])) (M.ret []))) (kst (.int 1))))) (retM (kst (.bool false))) nxM)
  (seqM (setM 11 (callM fn_law_draw (consM (rdV 1) (consM (rdV 3) (M.ret [])))))
  (iteM (tstM (opM neD (callM fn_order_of (consM (rdV 11) (consM (rdV 3) (M.ret [])))) (opM ixD (lcM [12] (rng2 (consM (kst (.int 1)) (consM (opM addD (rdV 3) (kst (.int 1))) (M.ret [])))) (nmT 12) (tstM (opM eqD (opM modD (unM intD (opM mulD (rdV 12) (rdV 11))) (rdV 3)) (kst (.int 0)))) (rdV 12)) (kst (.int 0))))) (retM (kst (.bool false))) nxM))))))))))))))
  (retM (kst (.bool true))))
end LK
/-! permutations as rows: plain facts -/
namespace LK
open PySem PySem.Spec PyProof.Rows L2 MP
/-! ### rows of sheets -/
def at' (p : List Nat) (a : Nat) : Nat := p.getD a 0
def OkP (n : Nat) (p : List Nat) : Prop := p.Perm (List.range n)
theorem OkP.len {n : Nat} {p : List Nat} (h : OkP n p) : p.length = n := by simpa using h.length_eq
theorem OkP.get {n a : Nat} {p : List Nat} (h : OkP n p) (ha : a < n) : p[a]? = some (at' p a) := by
  unfold at'
  have : a < p.length := by rw [h.len]; exact ha
  rw [List.getD_eq_getElem?_getD, List.getElem?_eq_getElem this]
  rfl
theorem OkP.lt {n a : Nat} {p : List Nat} (h : OkP n p) (ha : a < n) : at' p a < n :=
  List.mem_range.mp ((List.Perm.mem_iff h).mp (List.mem_of_getElem? (h.get ha)))
theorem OkP.nodup {n : Nat} {p : List Nat} (h : OkP n p) : p.Nodup := (List.Perm.nodup_iff h).mpr List.nodup_range
theorem OkP.inj {n a b : Nat} {p : List Nat} (h : OkP n p) (ha : a < n) (hb : b < n) (e : at' p a = at' p b) : a = b := by
  have h1 := h.get ha
  have h2 := h.get hb
  rw [← e] at h2
  have hn := h.nodup
  have ha' : a < p.length := by rw [h.len]; exact ha
  have hb' : b < p.length := by rw [h.len]; exact hb
  rw [List.getElem?_eq_getElem ha'] at h1
  rw [List.getElem?_eq_getElem hb'] at h2
  have h3 : p[a] = p[b] := by rw [Option.some.inj h1, Option.some.inj h2]
  rcases Nat.lt_trichotomy a b with z | z | z
  · exact absurd h3 (List.pairwise_iff_getElem.mp hn a b ha' hb' z)
  · exact z
  · exact absurd h3.symm (List.pairwise_iff_getElem.mp hn b a hb' ha' z)
theorem pig {l m : List Nat} (hl : l.Nodup) (hs : ∀ x ∈ l, x ∈ m) (hlen : m.length ≤ l.length) {x : Nat} (hx : x ∈ m) : x ∈ l := by
  refine Classical.byContradiction fun hn => ?_
  have := List.Nodup.length_le_of_subset (l₁ := x :: l) (l₂ := m) (List.nodup_cons.mpr ⟨hn, hl⟩) (fun y hy => by
    rcases List.mem_cons.mp hy with rfl | hy
    · exact hx
    · exact hs y hy)
  simp at this
  omega

theorem at_set {l : List Nat} {i v a : Nat} (hi : i < l.length) : at' (l.set i v) a = if a = i then v else at' l a := by
  unfold at'
  rw [List.getD_eq_getElem?_getD, List.getD_eq_getElem?_getD, List.getElem?_set]
  by_cases h : i = a
  · subst h
    simp [hi]
  · have : ¬ a = i := fun z => h z.symm
    simp [h, this]
theorem at_get {l : List Nat} {a : Nat} (h : a < l.length) : l[a]? = some (at' l a) := by
  unfold at'
  rw [List.getD_eq_getElem?_getD, List.getElem?_eq_getElem h]
  rfl
theorem perm_map_at {p q : List Nat} (h : q.Perm (List.range p.length)) : (q.map (at' p)).Perm p := by
  have h1 := h.map (at' p)
  have h2 : (List.range p.length).map (at' p) = p := by
    refine List.ext_getElem (by simp) fun i h3 h4 => ?_
    rw [List.getElem_map, List.getElem_range]
    unfold at'
    rw [List.getD_eq_getElem?_getD, List.getElem?_eq_getElem h4]
    rfl
  rw [h2] at h1
  exact h1
theorem eq_of_lt {l m : List Nat} (hl : l.Pairwise (· < ·)) (hm : m.Pairwise (· < ·)) (h : ∀ x, x ∈ l ↔ x ∈ m) : l = m :=
  List.Perm.eq_of_pairwise (le := (· < ·)) (fun a b _ _ h1 h2 => by omega) hl hm ((List.perm_ext_iff_of_nodup (hl.imp fun h => Nat.ne_of_lt h) (hm.imp fun h => Nat.ne_of_lt h)).mpr h)
theorem ok_of_nodup {n : Nat} {l : List Nat} (h1 : l.Nodup) (h2 : ∀ x ∈ l, x < n) (h3 : l.length = n) : OkP n l := by
  refine (List.perm_ext_iff_of_nodup h1 List.nodup_range).mpr fun x => ⟨fun h => List.mem_range.mpr (h2 x h), fun h => ?_⟩
  exact pig h1 (fun y hy => List.mem_range.mpr (h2 y hy)) (by rw [List.length_range, h3]; exact Nat.le_refl _) h
theorem range_split {n x : Nat} {pre post : List Nat} (h : List.range n = pre ++ x :: post) : pre = List.range x ∧ x < n ∧ pre.length = x := by
  have hl : n = pre.length + (post.length + 1) := by simpa using congrArg List.length h
  have h1 : (List.range n)[pre.length]? = some x := by rw [h]; simp
  rw [List.getElem?_range (by omega)] at h1
  have hx : pre.length = x := Option.some.inj h1
  have h2 : (List.range n).take pre.length = pre := by rw [h]; simp
  rw [List.take_range, Nat.min_eq_left (by omega), hx] at h2
  exact ⟨h2.symm, by omega, hx⟩
/-- rows as data -/
def rL (rows : List (List Nat)) : List Dat := rows.map fun p => .tuple (nL p)
theorem sIx_nat' {n d k : Nat} (h : k ≤ n) : HT.sIx n d (some (k : Int)) = k := by
  rw [HT.sIx_nat]
  exact Nat.min_eq_left h
theorem cut_nat {xs : List Nat} {a b : Nat} (h1 : a ≤ xs.length) (h2 : b ≤ xs.length) : MP.cutD (nL xs) (some (a : Int)) (some (b : Int)) = nL ((xs.drop a).take (b - a)) := by
  unfold MP.cutD
  rw [nL_len, sIx_nat' h1, sIx_nat' h2]
  unfold nL
  rw [← List.map_drop, ← List.map_take]
theorem mod_nat {a b : Nat} (h : 0 < b) : modD (.int (a : Int)) (.int (b : Int)) = some (.im (.int ((a % b : Nat) : Int))) := by
  show (if decide ((b : Int) ≠ 0) then _ else _) = _
  rw [if_pos (decide_eq_true (by omega))]
  show some (RV.im (.int ((a : Int).fmod (b : Int)))) = _
  rw [Int.fmod_eq_emod_of_nonneg _ (by omega)]
  rfl
theorem rL_len {rows : List (List Nat)} : (rL rows).length = rows.length := List.length_map _
theorem rL_app {rows : List (List Nat)} {p : List Nat} : rL rows ++ [.tuple (nL p)] = rL (rows ++ [p]) := by
  unfold rL
  rw [List.map_append]
  rfl
section
variable {rows : List (List Nat)} {d : Dat}
/-- rows as they are walked -/
def Rws (d : Dat) (rows : List (List Nat)) : Prop := d = .list (rL rows) ∨ d = .tuple (rL rows)
theorem Rws.items (h : Rws d rows) : MP.items? d = some (rL rows) := by
  rcases h with rfl | rfl <;> rfl
end
end LK

namespace LK
open PySem PySem.Spec PyProof.Rows L2 MP
/-! ### primes and their powers -/
def Pr (p : Nat) : Prop := 2 ≤ p ∧ ∀ d, d ∣ p → d = 1 ∨ d = p
section
variable {p q a b x y d k m n : Nat} {os xs : List Nat}
theorem Pr.cop (hp : Pr p) (h : ¬ p ∣ x) : Nat.Coprime p x := by
  rcases hp.2 _ (Nat.gcd_dvd_left p x) with e | e
  · exact e
  · exact absurd (by have := Nat.gcd_dvd_right p x; rwa [e] at this) h
theorem Pr.copPow (hp : Pr p) (h : ¬ p ∣ x) : Nat.Coprime (p ^ a) x := Nat.Coprime.pow_left a (hp.cop h)
theorem Pr.ne_one (hp : Pr p) : ¬ p ∣ 1 := fun h => by
  have := Nat.eq_one_of_dvd_one h
  have := hp.1
  omega
theorem Pr.mul (hp : Pr p) (hx : ¬ p ∣ x) (hy : ¬ p ∣ y) : ¬ p ∣ x * y := fun h => hy ((hp.cop hx).dvd_of_dvd_mul_left h)
theorem Pr.dvd_of (hp : Pr p) (h : d ∣ p ^ a) (h1 : d ≠ 1) : p ∣ d := by
  refine Classical.byContradiction fun hn => h1 ?_
  exact Nat.Coprime.eq_one_of_dvd (hp.copPow (a := a) hn).symm h
/-- a power of p taken out -/
theorem Pr.out (hp : Pr p) : ∀ {x : Nat}, 0 < x → ∃ b y, x = p ^ b * y ∧ ¬ p ∣ y ∧ 0 < y := by
  intro x
  induction x using Nat.strongRecOn with
  | ind x ih =>
    intro h0
    by_cases h : p ∣ x
    · obtain ⟨z, rfl⟩ := h
      have hz : 0 < z := Nat.pos_of_ne_zero fun e => by rw [e] at h0; simp at h0
      have hlt : z < p * z := by
        have h2 : 2 * z ≤ p * z := Nat.mul_le_mul_right z hp.1
        omega
      obtain ⟨b, y, e, hy, hy0⟩ := ih z hlt hz
      exact ⟨b + 1, y, by rw [e, Nat.pow_succ, Nat.mul_comm (p ^ b) p, Nat.mul_assoc], hy, hy0⟩
    · exact ⟨0, x, by simp, h, h0⟩
theorem Pr.lcm (hp : Pr p) (hx : 0 < x) (hy : 0 < y) (h : p ^ a ∣ Nat.lcm x y) : p ^ a ∣ x ∨ p ^ a ∣ y := by
  obtain ⟨b, x', rfl, hx', _⟩ := hp.out hx
  obtain ⟨c, y', rfl, hy', _⟩ := hp.out hy
  have key : p ^ a ∣ p ^ (max b c) * (x' * y') := by
    refine Nat.dvd_trans h (Nat.lcm_dvd ?_ ?_)
    · exact Nat.mul_dvd_mul (Nat.pow_dvd_pow p (Nat.le_max_left b c)) (Nat.dvd_mul_right _ _)
    · exact Nat.mul_dvd_mul (Nat.pow_dvd_pow p (Nat.le_max_right b c)) (Nat.dvd_mul_left _ _)
  have k2 := (hp.copPow (a := a) (hp.mul hx' hy')).dvd_of_dvd_mul_right key
  have k3 := (Nat.pow_dvd_pow_iff_le_right (show 1 < p from hp.1)).mp k2
  rcases Nat.le_total b c with hbc | hbc
  · rw [Nat.max_eq_right hbc] at k3
    exact .inr (Nat.dvd_trans (Nat.pow_dvd_pow p k3) (Nat.dvd_mul_right _ _))
  · rw [Nat.max_eq_left hbc] at k3
    exact .inl (Nat.dvd_trans (Nat.pow_dvd_pow p k3) (Nat.dvd_mul_right _ _))
/-! ### the least common multiple of a row -/
def lcmL (os : List Nat) : Nat := os.foldl Nat.lcm 1
theorem lcm_pos : ∀ {os : List Nat} {s : Nat}, 0 < s → (∀ o ∈ os, 0 < o) → 0 < os.foldl Nat.lcm s
  | [], _, h, _ => h
  | o :: os, s, h, g => lcm_pos (os := os) (Nat.pos_of_ne_zero fun e => by
      have ho := g o (List.mem_cons_self ..)
      rcases Nat.lcm_eq_zero_iff.mp e with e | e <;> omega) fun x hx => g x (List.mem_cons_of_mem _ hx)
theorem lcm_start : ∀ {os : List Nat} {s : Nat}, s ∣ os.foldl Nat.lcm s
  | [], s => Nat.dvd_refl s
  | o :: os, s => Nat.dvd_trans (Nat.dvd_lcm_left s o) (lcm_start (os := os))
theorem lcm_mem : ∀ {os : List Nat} {s : Nat}, ∀ o ∈ os, o ∣ os.foldl Nat.lcm s
  | [], _, _, h => by cases h
  | o :: os, s, x, h => by
    rcases List.mem_cons.mp h with rfl | h
    · exact Nat.dvd_trans (Nat.dvd_lcm_right s x) (lcm_start (os := os))
    · exact lcm_mem (os := os) x h
theorem lcm_of : ∀ {os : List Nat} {s n : Nat}, s ∣ n → (∀ o ∈ os, o ∣ n) → os.foldl Nat.lcm s ∣ n
  | [], _, _, h, _ => h
  | o :: os, s, n, h, g => lcm_of (os := os) (Nat.lcm_dvd h (g o (List.mem_cons_self ..))) fun x hx => g x (List.mem_cons_of_mem _ hx)
theorem Pr.lcmL (hp : Pr p) (ha : 0 < a) : ∀ {os : List Nat} {s : Nat}, 0 < s → (∀ o ∈ os, 0 < o) → p ^ a ∣ os.foldl Nat.lcm s → p ^ a ∣ s ∨ ∃ i : Nat, ∃ o, os[i]? = some o ∧ p ^ a ∣ o
  | [], _, _, _, h => .inl h
  | o :: os, s, hs, g, h => by
    have ho := g o (List.mem_cons_self ..)
    have hl : 0 < Nat.lcm s o := lcm_pos (os := [o]) hs fun x hx => by rw [List.mem_singleton.mp hx]; exact ho
    rcases Pr.lcmL hp ha (os := os) hl (fun x hx => g x (List.mem_cons_of_mem _ hx)) h with h | ⟨i, x, e, h⟩
    · rcases hp.lcm hs ho h with h | h
      · exact .inl h
      · exact .inr ⟨0, o, rfl, h⟩
    · exact .inr ⟨i + 1, x, e, h⟩
/-- none can be left out: then each power of a prime has two that bear it -/
theorem two_great (hp : Pr p) (ha : 0 < a) (g : ∀ o ∈ os, 0 < o) (hq : p ^ a ∣ lcmL os) (hc : ∀ k, k < os.length → lcmL (os.eraseIdx k) = lcmL os) :
    ∃ i j : Nat, ∃ x y, i ≠ j ∧ os[i]? = some x ∧ os[j]? = some y ∧ p ^ a ∣ x ∧ p ^ a ∣ y := by
  have n1 : ¬ p ^ a ∣ 1 := fun h => hp.ne_one (Nat.dvd_trans (Nat.dvd_trans ⟨p ^ (a - 1), by rw [Nat.mul_comm, ← Nat.pow_succ]; congr 1; omega⟩ h) (Nat.dvd_refl 1))
  rcases hp.lcmL ha Nat.one_pos g hq with h | ⟨i, x, e, h⟩
  · exact absurd h n1
  have hi : i < os.length := by
    rcases Nat.lt_or_ge i os.length with z | z
    · exact z
    · rw [List.getElem?_eq_none z] at e; cases e
  have hq2 : p ^ a ∣ lcmL (os.eraseIdx i) := by rw [hc i hi]; exact hq
  rcases hp.lcmL ha Nat.one_pos (fun o ho => g o (List.mem_of_mem_eraseIdx ho)) hq2 with h' | ⟨j, y, e2, h2⟩
  · exact absurd h' n1
  rw [List.getElem?_eraseIdx] at e2
  split at e2
  · rename_i hj
    exact ⟨i, j, x, y, by omega, e, e2, h, h2⟩
  · rename_i hj
    exact ⟨i, j + 1, x, y, by omega, e, e2, h, h2⟩
end
end LK

namespace LK
open PySem PySem.Spec PyProof.Rows L2 MP
section
variable {a b n h : Nat} {os : List Nat} {dr : Dr} {d : Dat}
theorem law_gcd_ok : fn_law_gcd [.int (a : Int), .int (b : Int)] dr = some (.im (.int ((Nat.gcd a b : Nat) : Int)), dr) := by
  refine cv_det (c_body ?_)
  refine w_seq (w_while b (fun m q => ∃ x : Nat, q = ⟨[.fr (.int (x : Int)), .fr (.int (m : Int))], dr⟩ ∧ Nat.gcd x m = Nat.gcd a b) ⟨a, rfl, rfl⟩ ?_)
  rintro m q ⟨x, rfl, hg⟩
  by_cases hm : m = 0
  · subst hm
    refine t_det (k := false) (ps1 := ⟨[.fr (.int (x : Int)), .fr (.int 0)], dr⟩) (by simp [qn_int]) ⟨fun _ => ?_, fun z => (by cases z)⟩
    rw [Nat.gcd_zero_right] at hg
    rw [← hg]
    refine w_det (by simp; rfl) ?_
    exact ⟨rfl, rfl⟩
  · refine t_det (k := true) (ps1 := ⟨[.fr (.int (x : Int)), .fr (.int (m : Int))], dr⟩) (by simp [qn_int, hm]) ⟨fun z => (by cases z), fun _ => ?_⟩
    have md : modD (.int (x : Int)) (.int (m : Int)) = some (.im (.int ((x % m : Nat) : Int))) := mod_nat (by omega)
    obtain ⟨r, hr⟩ : ∃ r, r = x % m := ⟨_, rfl⟩
    rw [← hr] at md
    refine w_det (o := .nx ⟨[.fr (.int (m : Int)), .fr (.int (r : Int))], dr⟩) (by simp [md]) ⟨r, by rw [hr]; exact Nat.mod_lt _ (by omega), m, rfl, ?_⟩
    rw [← hg, hr, Nat.gcd_comm m, ← Nat.gcd_rec, Nat.gcd_comm]
theorem law_order_ok {s : Nat} (h0 : 0 < n) (hn : n ≤ 1000000) : fn_law_order [.int (s : Int), .int (n : Int)] dr = some (.im (.int ((n / Nat.gcd n s : Nat) : Int)), dr) := by
  have g := law_gcd_ok (a := n) (b := s) (dr := dr)
  have gp := Nat.gcd_pos_of_pos_left s h0
  have gl := Nat.gcd_le_left s h0
  obtain ⟨G, hG⟩ : ∃ G, G = Nat.gcd n s := ⟨_, rfl⟩
  rw [← hG] at g gp gl ⊢
  have f : fdivD (.int (n : Int)) (.int (G : Int)) = some (.im (.int ((n / G : Nat) : Int))) := by
    rw [fdiv_posI (by omega) (by omega)]
    norm_cast
  unfold fn_law_order b_law_order
  simp [g, f]
def Rw (d : Dat) (os : List Nat) : Prop := d = .tuple (nL os) ∨ d = .list (nL os)
theorem Rw.items (hd : Rw d os) : MP.items? d = some (nL os) := by rcases hd with rfl | rfl <;> rfl
theorem lcm_step {s o : Nat} (hs : 0 < s) (ho : 0 < o) (hl : o ≤ 1000000) : mulD (.int (s : Int)) (.int (o : Int)) = some (.im (.int ((s * o : Nat) : Int))) ∧ fdivD (.int ((s * o : Nat) : Int)) (.int ((Nat.gcd s o : Nat) : Int)) = some (.im (.int ((Nat.lcm s o : Nat) : Int))) := by
  have gp := Nat.gcd_pos_of_pos_left o hs
  have gl := Nat.gcd_le_right s ho
  refine ⟨?_, ?_⟩
  · have := mul_int (i := (s : Int)) (j := (o : Int)) (.inr (by omega))
    rw [this]
    norm_cast
  · have h := fdiv_posI (x := ((s * o : Nat) : Int)) (y := ((Nat.gcd s o : Nat) : Int)) (by omega) (by omega)
    rw [h]
    unfold Nat.lcm
    norm_cast
theorem multiple_ok (hd : Rw d os) (ho : ∀ o ∈ os, 0 < o ∧ o ≤ 1000000) : fn_multiple [d] dr = some (.im (.int ((lcmL os : Nat) : Int)), dr) := by
  refine cv_det (c_body ?_)
  refine w_nx (by simp; rfl) ?_
  refine w_seq (w_for (fun k : Nat => .int (k : Int)) os (ps1 := ⟨[.fr d, .fr (.int ((1 : Nat) : Int)), .un], dr⟩) (by simp [hd.items, nL]) (fun pre q => ∃ z, q = ⟨[.fr d, .fr (.int ((lcmL pre : Nat) : Int)), z], dr⟩) ⟨_, rfl⟩ ?_ ?_)
  · rintro pre o post q hx ⟨z, rfl⟩
    obtain ⟨o1, o2⟩ := ho o (by rw [hx]; simp)
    have hs : 0 < lcmL pre := lcm_pos Nat.one_pos fun x hx' => (ho x (by rw [hx]; simp [hx'])).1
    obtain ⟨e1, e2⟩ := lcm_step hs o1 o2
    have e3 : gcdD [.int ((lcmL pre : Nat) : Int), .int (o : Int)] = some (.im (.int ((Nat.gcd (lcmL pre) o : Nat) : Int))) := rfl
    have e4 : lcmL (pre ++ [o]) = Nat.lcm (lcmL pre) o := by unfold lcmL; rw [List.foldl_append]; rfl
    obtain ⟨S, hS⟩ : ∃ S, S = lcmL pre := ⟨_, rfl⟩
    obtain ⟨P, hP⟩ : ∃ P, P = S * o := ⟨_, rfl⟩
    obtain ⟨G, hG⟩ : ∃ G, G = Nat.gcd S o := ⟨_, rfl⟩
    rw [e4]
    rw [← hS] at e1 e2 e3 ⊢
    rw [← hP] at e1 e2
    rw [← hG] at e2 e3
    obtain ⟨M, hM⟩ : ∃ M, M = Nat.lcm S o := ⟨_, rfl⟩
    rw [← hM] at e2 ⊢
    refine ⟨_, rfl, w_det (o := .nx ⟨[.fr d, .fr (.int (M : Int)), .fr (.int (o : Int))], dr⟩) (by simp [-e_gcd, e1, e2, e3]) ⟨_, rfl⟩⟩
  · rintro q ⟨z, rfl⟩
    refine w_det (by simp; rfl) ?_
    exact ⟨rfl, rfl⟩
theorem law_multiple_ok (hd : Rw d os) (ho : ∀ o ∈ os, 0 < o ∧ o ≤ 1000000) : fn_law_multiple [d] dr = some (.im (.int ((lcmL os : Nat) : Int)), dr) := by
  refine cv_det (c_body ?_)
  refine w_nx (by simp; rfl) ?_
  refine w_seq (w_for (fun k : Nat => .int (k : Int)) os (ps1 := ⟨[.fr d, .fr (.int ((1 : Nat) : Int)), .un], dr⟩) (by simp [hd.items, nL]) (fun pre q => ∃ z, q = ⟨[.fr d, .fr (.int ((lcmL pre : Nat) : Int)), z], dr⟩) ⟨_, rfl⟩ ?_ ?_)
  · rintro pre o post q hx ⟨z, rfl⟩
    obtain ⟨o1, o2⟩ := ho o (by rw [hx]; simp)
    have hs : 0 < lcmL pre := lcm_pos Nat.one_pos fun x hx' => (ho x (by rw [hx]; simp [hx'])).1
    obtain ⟨e1, e2⟩ := lcm_step hs o1 o2
    have e3 := law_gcd_ok (a := lcmL pre) (b := o) (dr := dr)
    have e4 : lcmL (pre ++ [o]) = Nat.lcm (lcmL pre) o := by unfold lcmL; rw [List.foldl_append]; rfl
    obtain ⟨S, hS⟩ : ∃ S, S = lcmL pre := ⟨_, rfl⟩
    obtain ⟨P, hP⟩ : ∃ P, P = S * o := ⟨_, rfl⟩
    obtain ⟨G, hG⟩ : ∃ G, G = Nat.gcd S o := ⟨_, rfl⟩
    rw [e4]
    rw [← hS] at e1 e2 e3 ⊢
    rw [← hP] at e1 e2
    rw [← hG] at e2 e3
    obtain ⟨M, hM⟩ : ∃ M, M = Nat.lcm S o := ⟨_, rfl⟩
    rw [← hM] at e2 ⊢
    refine ⟨_, rfl, w_det (o := .nx ⟨[.fr d, .fr (.int (M : Int)), .fr (.int (o : Int))], dr⟩) (by simp [e1, e2, e3]) ⟨_, rfl⟩⟩
  · rintro q ⟨z, rfl⟩
    refine w_det (by simp; rfl) ?_
    exact ⟨rfl, rfl⟩
/-! powers of two -/
def Two (e L : Nat) : Prop := 2 ^ e ∣ L ∧ ¬ 2 ^ (e + 1) ∣ L
theorem pr2 : Pr 2 := ⟨Nat.le_refl _, fun d hd => by
  have := Nat.le_of_dvd (by decide) hd
  rcases d with _ | _ | _ | d
  · cases Nat.eq_zero_of_zero_dvd hd
  · exact .inl rfl
  · exact .inr rfl
  · omega⟩
theorem two_ex {L : Nat} (h : 0 < L) : ∃ e, Two e L := by
  obtain ⟨b, y, e, hy, _⟩ := pr2.out h
  refine ⟨b, ⟨y, e⟩, fun h2 => hy ?_⟩
  rw [e, Nat.pow_succ] at h2
  exact Nat.dvd_of_mul_dvd_mul_left (Nat.pos_of_ne_zero (by simp)) h2
theorem two_step {e L j : Nat} (h : Two e L) (hj : j ≤ e) : (L % (2 * 2 ^ j) = 0 ↔ j < e) := by
  have e1 : 2 * 2 ^ j = 2 ^ (j + 1) := by rw [Nat.pow_succ, Nat.mul_comm]
  rw [e1]
  constructor
  · intro h2
    refine Nat.lt_of_le_of_ne hj fun z => h.2 ?_
    rw [← z]
    exact Nat.dvd_of_mod_eq_zero h2
  · intro h2
    exact Nat.mod_eq_zero_of_dvd (Nat.dvd_trans (Nat.pow_dvd_pow 2 h2) h.1)
theorem twos_ok {L e : Nat} (h : Two e L) : fn_twos_in [.int (L : Int)] dr = some (.im (.int ((2 ^ e : Nat) : Int)), dr) := by
  refine cv_det (c_body ?_)
  refine w_nx (by simp; rfl) ?_
  refine w_seq (w_while e (fun m q => ∃ j t : Nat, q = ⟨[.fr (.int (L : Int)), .fr (.int (t : Int))], dr⟩ ∧ t = 2 ^ j ∧ j + m = e) ⟨0, 1, rfl, rfl, by omega⟩ ?_)
  rintro m q ⟨j, t, rfl, ht, hj⟩
  have ml : mulD (.int 2) (.int (t : Int)) = some (.im (.int ((2 * t : Nat) : Int))) := by
    have h := mul_int (i := 2) (j := (t : Int)) (.inl (by decide))
    rw [h]
    norm_cast
  obtain ⟨T, hT⟩ : ∃ T, T = 2 * t := ⟨_, rfl⟩
  have hTp : 0 < T := by rw [hT, ht]; exact Nat.mul_pos (by decide) (Nat.pos_of_ne_zero (by simp))
  rw [← hT] at ml
  have md : modD (.int (L : Int)) (.int (T : Int)) = some (.im (.int ((L % T : Nat) : Int))) := mod_nat hTp
  have st := two_step h (j := j) (by omega)
  rw [← ht, ← hT] at st
  obtain ⟨R, hR⟩ : ∃ R, R = L % T := ⟨_, rfl⟩
  rw [← hR] at md st
  by_cases hc : j < e
  · have r0 : R = 0 := st.mpr hc
    refine t_det (k := true) (ps1 := ⟨[.fr (.int (L : Int)), .fr (.int (t : Int))], dr⟩) (by simp [ml, md, qe_int, r0]) ⟨fun z => (by cases z), fun _ => ?_⟩
    refine w_det (o := .nx ⟨[.fr (.int (L : Int)), .fr (.int (T : Int))], dr⟩) (by simp [ml]) ⟨m - 1, by omega, j + 1, T, rfl, by rw [hT, ht, Nat.pow_succ, Nat.mul_comm], by omega⟩
  · have r0 : ¬ R = 0 := fun z => hc (st.mp z)
    refine t_det (k := false) (ps1 := ⟨[.fr (.int (L : Int)), .fr (.int (t : Int))], dr⟩) (by simp [ml, md, qe_int, r0]) ⟨fun _ => ?_, fun z => (by cases z)⟩
    have : j = e := by omega
    rw [this] at ht
    rw [← ht]
    refine w_det (by simp; rfl) ?_
    exact ⟨rfl, rfl⟩
end
end LK

namespace LK
open PySem PySem.Spec PyProof.Rows L2 MP
/-! ### the broken conditions -/
def dtm (h n : Nat) (os : List Nat) : Dat := .tuple [.int (h : Int), .int (n : Int), .tuple (nL os)]
def wD (w : String) (k : Nat) : Dat := .tuple [.str (Str.ofString w), .int (k : Int)]
def divs (n : Nat) (os : List Nat) : List Nat := (List.range os.length).filter fun k => !decide (n % os.getD k 0 = 0)
def coms (os : List Nat) : List Nat := (List.range os.length).filter fun k => !decide (lcmL (os.eraseIdx k) = lcmL os)
def manyOf (e : Nat) (os : List Nat) : Nat := (os.filter fun o => decide (o % 2 ^ e = 0)).length
def brkW (h n : Nat) (os : List Nat) : List Dat := if h = 0 ∧ lcmL os ≠ n then [wD "whole" (lcmL os)] else []
def brkT (e : Nat) (os : List Nat) : List Dat := if lcmL os % 2 = 0 ∧ manyOf e os % 2 = 1 then [wD "twos" (manyOf e os)] else []
def brk (e h n : Nat) (os : List Nat) : List Dat := (divs n os).map (wD "divide") ++ (coms os).map (wD "common") ++ brkW h n os ++ brkT e os
section
variable {e n h : Nat} {os : List Nat} {dr : Dr} {d : Dat}
theorem hit {m k : Nat} {p : Nat → Bool} (hk : k < m) (h1 : ∀ j, j < k → p j = false) (h2 : p k = true) : ∃ r, (List.range m).filter p = k :: r := by
  have e : List.range m = List.range k ++ k :: (List.range (m - k - 1)).map (k + 1 + ·) := by
    refine List.ext_getElem (by simp; omega) fun i a b => ?_
    rw [List.getElem_range]
    rcases Nat.lt_trichotomy i k with z | z | z
    · rw [List.getElem_append_left (by simpa using z), List.getElem_range]
    · subst z
      rw [List.getElem_append_right (by simp)]
      simp
    · rw [List.getElem_append_right (by simp; omega)]
      simp only [List.length_range]
      rw [List.getElem_cons]
      rw [dif_neg (by omega)]
      simp
      omega
  rw [e, List.filter_append, List.filter_cons_of_pos h2, List.filter_eq_nil_iff.mpr fun j hj => by rw [h1 j (List.mem_range.mp hj)]; exact Bool.false_ne_true]
  exact ⟨_, rfl⟩
theorem none_hit {m : Nat} {p : Nat → Bool} (h1 : ∀ j, j < m → p j = false) : (List.range m).filter p = [] := List.filter_eq_nil_iff.mpr fun j hj => by rw [h1 j (List.mem_range.mp hj)]; exact Bool.false_ne_true
structure OkO (os : List Nat) : Prop where
  len : os.length ≤ 100
  o : ∀ o ∈ os, 0 < o ∧ o ≤ 1000000
theorem OkO.get (ok : OkO os) {k : Nat} (hk : k < os.length) : os[k]? = some (os.getD k 0) ∧ 0 < os.getD k 0 ∧ os.getD k 0 ≤ 1000000 := by
  have e : os[k]? = some (os.getD k 0) := by rw [List.getD_eq_getElem?_getD, List.getElem?_eq_getElem hk]; rfl
  exact ⟨e, ok.o _ (List.mem_of_getElem? e)⟩
theorem OkO.erase (ok : OkO os) (k : Nat) : ∀ o ∈ os.eraseIdx k, 0 < o ∧ o ≤ 1000000 := fun o ho => ok.o o (List.mem_of_mem_eraseIdx ho)
theorem cut_out {k : Nat} (hk : k < os.length) (ok : OkO os) : MP.cutD (nL os) none (some (k : Int)) = nL (os.take k) ∧ MP.cutD (nL os) (some ((k : Int) + 1)) none = nL (os.drop (k + 1)) ∧ nL (os.take k) ++ nL (os.drop (k + 1)) = nL (os.eraseIdx k) ∧ MP.line ((nL (os.take k)).length + (nL (os.drop (k + 1))).length) = true := by
  have hl := ok.len
  refine ⟨?_, ?_, ?_, line_of ?_⟩
  · rw [cut0]; unfold nL; rw [List.map_take]
  · have : MP.cutD (nL os) (some ((k + 1 : Nat) : Int)) none = _ := cut1
    refine Eq.trans this ?_
    unfold nL; rw [List.map_drop]
  · rw [← nL_app, List.eraseIdx_eq_take_drop_succ]
  · rw [nL_len, nL_len, List.length_take, List.length_drop]; omega
/-- the law's own list of them -/
theorem law_broken_ok (ok : OkO os) (ht : Two e (lcmL os)) (hn : n ≤ 1000000) : fn_law_broken [dtm h n os] dr = some (.nw (brk e h n os), dr) := by
  have hl := ok.len
  obtain ⟨L, hL⟩ : ∃ L, L = lcmL os := ⟨_, rfl⟩
  rw [← hL] at ht
  have hLp : 0 < L := by rw [hL]; exact lcm_pos Nat.one_pos fun o ho => (ok.o o ho).1
  have ml := law_multiple_ok (dr := dr) (d := .tuple (nL os)) (.inl rfl) ok.o
  rw [← hL] at ml
  have hb := b62_nat (n := os.length) (by omega)
  refine cv_det (c_body ?_)
  refine w_nx (ps1 := ⟨[.fr (dtm h n os), .fr (.int (h : Int)), .fr (.int (n : Int)), .fr (.tuple (nL os)), .un, .un, .un, .un, .un, .un], dr⟩) (by simp [dtm]) ?_
  refine w_nx (ps1 := ⟨[.fr (dtm h n os), .fr (.int (h : Int)), .fr (.int (n : Int)), .fr (.tuple (nL os)), .fr (.int (L : Int)), .un, .un, .un, .un, .un], dr⟩) (by simp [ml]) ?_
  have gm : ∀ k, k < os.length → modD (.int (n : Int)) (.int ((os.getD k 0 : Nat) : Int)) = some (.im (.int ((n % os.getD k 0 : Nat) : Int))) := fun k hk => mod_nat (ok.get hk).2.1
  have c1 := lc_eq (vs := [5]) (fi := rng1 (consM (unM lenD (rdV 3)) (M.ret []))) (tgt := nmT 5) (tst := tstM (opM neD (opM modD (unM intD (rdV 2)) (opM ixD (rdV 3) (rdV 5))) (kst (.int 0)))) (elt := tupM (consM (kst (.str ("divide" : Str))) (consM (rdV 5) (M.ret [])))) (ps := ⟨[.fr (dtm h n os), .fr (.int (h : Int)), .fr (.int (n : Int)), .fr (.tuple (nL os)), .fr (.int (L : Int)), .un, .un, .un, .un, .un], dr⟩) (ps1 := ⟨[.fr (dtm h n os), .fr (.int (h : Int)), .fr (.int (n : Int)), .fr (.tuple (nL os)), .fr (.int (L : Int)), .un, .un, .un, .un, .un], dr⟩) (fun k : Nat => .int (k : Int)) (List.range os.length) (by simp [hb, rgD_nat]; rfl) (by simp; omega) (fun k => !decide (n % os.getD k 0 = 0)) (wD "divide") (fun k hk => by
    have hk := List.mem_range.mp hk
    obtain ⟨g1, g2, g3⟩ := ok.get hk
    have g4 := gm k hk
    have g5 := nL_at g1
    obtain ⟨o, hoe⟩ : ∃ o, o = os.getD k 0 := ⟨_, rfl⟩
    rw [← hoe] at g4 g5 ⊢
    obtain ⟨r, hr⟩ : ∃ r, r = n % o := ⟨_, rfl⟩
    rw [← hr] at g4 ⊢
    refine ⟨_, ⟨[.fr (dtm h n os), .fr (.int (h : Int)), .fr (.int (n : Int)), .fr (.tuple (nL os)), .fr (.int (L : Int)), .fr (.int (k : Int)), .un, .un, .un, .un], dr⟩, rfl, ?_, fun _ => by simp, fun _ => ⟨⟨[.fr (dtm h n os), .fr (.int (h : Int)), .fr (.int (n : Int)), .fr (.tuple (nL os)), .fr (.int (L : Int)), .fr (.int (k : Int)), .un, .un, .un, .un], dr⟩, by simp [line_of]; rfl, by simp⟩⟩
    simp [g4, g5, qn_int])
  refine w_nx (ps1 := ⟨[.fr (dtm h n os), .fr (.int (h : Int)), .fr (.int (n : Int)), .fr (.tuple (nL os)), .fr (.int (L : Int)), .un, .ow ((divs n os).map (wD "divide")), .un, .un, .un], dr⟩) ?_ ?_
  · unfold divs
    rw [e_set, c1]
    simp
  have hdl : (divs n os).length ≤ 100 := Nat.le_trans (List.length_filter_le _ _) (by simpa using hl)
  refine w_seq (w_for (fun k : Nat => .int (k : Int)) (List.range os.length) (ps1 := ⟨[.fr (dtm h n os), .fr (.int (h : Int)), .fr (.int (n : Int)), .fr (.tuple (nL os)), .fr (.int (L : Int)), .un, .ow ((divs n os).map (wD "divide")), .un, .un, .un], dr⟩) (by simp [hb, rgD_nat]; rfl) (fun pre q => ∃ z, q = ⟨[.fr (dtm h n os), .fr (.int (h : Int)), .fr (.int (n : Int)), .fr (.tuple (nL os)), .fr (.int (L : Int)), z, .ow ((divs n os).map (wD "divide") ++ (pre.filter fun k => !decide (lcmL (os.eraseIdx k) = lcmL os)).map (wD "common")), .un, .un, .un], dr⟩) ⟨.un, by simp⟩ ?_ ?_)
  · rintro pre k post q hx ⟨z, rfl⟩
    obtain ⟨_, hk, hpk⟩ := range_split hx
    obtain ⟨t1, t2, t3, t4⟩ := cut_out hk ok
    have m2 := law_multiple_ok (dr := dr) (d := .tuple (nL (os.eraseIdx k))) (.inl rfl) (ok.erase k)
    obtain ⟨W, hW⟩ : ∃ W, W = (divs n os).map (wD "divide") ++ (pre.filter fun k => !decide (lcmL (os.eraseIdx k) = lcmL os)).map (wD "common") := ⟨_, rfl⟩
    have hWl : W.length ≤ 1000 := by
      rw [hW, List.length_append, List.length_map, List.length_map]
      have := List.length_filter_le (fun k => !decide (lcmL (os.eraseIdx k) = lcmL os)) pre
      omega
    refine ⟨_, rfl, ?_⟩
    rw [← hW]
    by_cases hc : lcmL (os.eraseIdx k) = lcmL os
    · refine w_det (o := .nx ⟨[.fr (dtm h n os), .fr (.int (h : Int)), .fr (.int (n : Int)), .fr (.tuple (nL os)), .fr (.int (L : Int)), .fr (.int (k : Int)), .ow W, .un, .un, .un], dr⟩) ?_ ⟨.fr (.int (k : Int)), ?_⟩
      · rw [hc, ← hL] at m2
        simp [-nL_len, t1, t2, t3, t4, m2, qn_int]
      · rw [List.filter_append, List.filter_cons_of_neg (by simp [hc]), List.filter_nil, List.append_nil, hW]
    · refine w_det (o := .nx ⟨[.fr (dtm h n os), .fr (.int (h : Int)), .fr (.int (n : Int)), .fr (.tuple (nL os)), .fr (.int (L : Int)), .fr (.int (k : Int)), .ow (W ++ [wD "common" k]), .un, .un, .un], dr⟩) ?_ ⟨.fr (.int (k : Int)), ?_⟩
      · rw [← hL] at hc
        obtain ⟨M, hM⟩ : ∃ M, M = lcmL (os.eraseIdx k) := ⟨_, rfl⟩
        rw [← hM] at m2 hc
        have hc' : ¬ (M : Int) = (L : Int) := by omega
        simp [-nL_len, hc', t1, t2, t3, t4, m2, qn_int, hc, line_of, sz_of (n := W.length) (by omega), wD]
      · rw [List.filter_append, List.filter_cons_of_pos (by simp [hc]), List.filter_nil, List.map_append, hW, List.append_assoc]
        rfl
  rintro q ⟨z5, rfl⟩
  have hcm : (List.filter (fun k => !decide (lcmL (os.eraseIdx k) = lcmL os)) (List.range os.length)) = coms os := rfl
  rw [hcm]
  have hcl : (coms os).length ≤ 100 := Nat.le_trans (List.length_filter_le _ _) (by simpa using hl)
  obtain ⟨W, hW⟩ : ∃ W, W = (divs n os).map (wD "divide") ++ (coms os).map (wD "common") := ⟨_, rfl⟩
  have hWl : W.length ≤ 200 := by rw [hW, List.length_append, List.length_map, List.length_map]; omega
  rw [← hW]
  refine w_nx (ps1 := ⟨[.fr (dtm h n os), .fr (.int (h : Int)), .fr (.int (n : Int)), .fr (.tuple (nL os)), .fr (.int (L : Int)), z5, .ow (W ++ brkW h n os), .un, .un, .un], dr⟩) ?_ ?_
  · unfold brkW
    rw [← hL]
    by_cases h0 : h = 0
    · by_cases h1 : L = n
      · simp [qe_int, qn_int, h0, h1]
      · have h1' : ¬ (L : Int) = (n : Int) := by omega
        simp [qe_int, qn_int, h0, h1, h1', line_of, sz_of (n := W.length) (by omega), wD]
    · simp [qe_int, h0]
  obtain ⟨W2, hW2⟩ : ∃ W2, W2 = W ++ brkW h n os := ⟨_, rfl⟩
  have hW2l : W2.length ≤ 300 := by
    rw [hW2, List.length_append]
    unfold brkW
    split <;> simp <;> omega
  rw [← hW2]
  refine w_nx (by simp; rfl) ?_
  refine w_seq (w_while e (fun m q => ∃ j t : Nat, q = ⟨[.fr (dtm h n os), .fr (.int (h : Int)), .fr (.int (n : Int)), .fr (.tuple (nL os)), .fr (.int (L : Int)), z5, .ow W2, .fr (.int (t : Int)), .un, .un], dr⟩ ∧ t = 2 ^ j ∧ j + m = e) ⟨0, 1, rfl, rfl, by omega⟩ ?_)
  rintro m q ⟨j, t, rfl, htj, hj⟩
  have mul2 : mulD (.int 2) (.int (t : Int)) = some (.im (.int ((2 * t : Nat) : Int))) := by
    have h := mul_int (i := 2) (j := (t : Int)) (.inl (by decide))
    rw [h]
    norm_cast
  obtain ⟨T, hT⟩ : ∃ T, T = 2 * t := ⟨_, rfl⟩
  have hTp : 0 < T := by rw [hT, htj]; exact Nat.mul_pos (by decide) (Nat.pos_of_ne_zero (by simp))
  rw [← hT] at mul2
  have md : modD (.int (L : Int)) (.int (T : Int)) = some (.im (.int ((L % T : Nat) : Int))) := mod_nat hTp
  have st := two_step ht (j := j) (by omega)
  rw [← htj, ← hT] at st
  obtain ⟨R, hR⟩ : ∃ R, R = L % T := ⟨_, rfl⟩
  rw [← hR] at md st
  by_cases hc : j < e
  · have r0 : R = 0 := st.mpr hc
    refine t_det (k := true) (ps1 := ⟨[.fr (dtm h n os), .fr (.int (h : Int)), .fr (.int (n : Int)), .fr (.tuple (nL os)), .fr (.int (L : Int)), z5, .ow W2, .fr (.int (t : Int)), .un, .un], dr⟩) (by simp [mul2, md, qe_int, r0]) ⟨fun z => (by cases z), fun _ => ?_⟩
    refine w_det (o := .nx ⟨[.fr (dtm h n os), .fr (.int (h : Int)), .fr (.int (n : Int)), .fr (.tuple (nL os)), .fr (.int (L : Int)), z5, .ow W2, .fr (.int (T : Int)), .un, .un], dr⟩) (by simp [mul2]) ⟨m - 1, by omega, j + 1, T, rfl, by rw [hT, htj, Nat.pow_succ, Nat.mul_comm], by omega⟩
  have r0 : ¬ R = 0 := fun z => hc (st.mp z)
  refine t_det (k := false) (ps1 := ⟨[.fr (dtm h n os), .fr (.int (h : Int)), .fr (.int (n : Int)), .fr (.tuple (nL os)), .fr (.int (L : Int)), z5, .ow W2, .fr (.int (t : Int)), .un, .un], dr⟩) (by simp [mul2, md, qe_int, r0]) ⟨fun _ => ?_, fun z => (by cases z)⟩
  have hje : j = e := by omega
  rw [hje] at htj
  have htp : 0 < t := by rw [htj]; exact Nat.pos_of_ne_zero (by simp)
  have c2 := lc_eq (vs := [9]) (fi := seqIt (rdV 3)) (tgt := nmT 9) (tst := tstM (opM eqD (opM modD (unM intD (rdV 9)) (rdV 7)) (kst (.int 0)))) (elt := rdV 9) (ps := ⟨[.fr (dtm h n os), .fr (.int (h : Int)), .fr (.int (n : Int)), .fr (.tuple (nL os)), .fr (.int (L : Int)), z5, .ow W2, .fr (.int (t : Int)), .un, .un], dr⟩) (ps1 := ⟨[.fr (dtm h n os), .fr (.int (h : Int)), .fr (.int (n : Int)), .fr (.tuple (nL os)), .fr (.int (L : Int)), z5, .ow W2, .fr (.int (t : Int)), .un, .un], dr⟩) (fun o : Nat => .int (o : Int)) os (by simp [nL]) (by omega) (fun o => decide (o % t = 0)) (fun o => .int (o : Int)) (fun o ho => by
    have md2 : modD (.int (o : Int)) (.int (t : Int)) = some (.im (.int ((o % t : Nat) : Int))) := mod_nat htp
    obtain ⟨r, hr⟩ : ∃ r, r = o % t := ⟨_, rfl⟩
    rw [← hr] at md2 ⊢
    refine ⟨_, ⟨[.fr (dtm h n os), .fr (.int (h : Int)), .fr (.int (n : Int)), .fr (.tuple (nL os)), .fr (.int (L : Int)), z5, .ow W2, .fr (.int (t : Int)), .un, .fr (.int (o : Int))], dr⟩, rfl, ?_, fun _ => by simp, fun _ => ⟨⟨[.fr (dtm h n os), .fr (.int (h : Int)), .fr (.int (n : Int)), .fr (.tuple (nL os)), .fr (.int (L : Int)), z5, .ow W2, .fr (.int (t : Int)), .un, .fr (.int (o : Int))], dr⟩, by simp, by simp⟩⟩
    simp [md2, qe_int])
  rw [htj] at c2
  have hmm : ((os.filter fun o => decide (o % 2 ^ e = 0)).map fun o : Nat => PyData.int (o : Int)).length = manyOf e os := by rw [List.length_map]; rfl
  obtain ⟨Mx, hMx⟩ : ∃ Mx, Mx = (os.filter fun o => decide (o % 2 ^ e = 0)).map fun o : Nat => PyData.int (o : Int) := ⟨_, rfl⟩
  rw [← hMx] at c2 hmm
  rw [← htj] at c2
  refine w_nx (ps1 := ⟨[.fr (dtm h n os), .fr (.int (h : Int)), .fr (.int (n : Int)), .fr (.tuple (nL os)), .fr (.int (L : Int)), z5, .ow W2, .fr (.int (t : Int)), .fr (.int ((manyOf e os : Nat) : Int)), .un], dr⟩) ?_ ?_
  · rw [e_set, e_un, c2]
    simp [hmm]
  have m8 : modD (.int (L : Int)) (.int 2) = some (.im (.int ((L % 2 : Nat) : Int))) := mod_nat (b := 2) (by decide)
  obtain ⟨mo, hmo⟩ : ∃ mo, mo = manyOf e os := ⟨_, rfl⟩
  have m9 : modD (.int (mo : Int)) (.int 2) = some (.im (.int ((mo % 2 : Nat) : Int))) := mod_nat (b := 2) (by decide)
  have fin : brk e h n os = W2 ++ brkT e os := by unfold brk; rw [hW2, hW]
  rw [fin]
  unfold brkT
  rw [← hL, ← hmo]
  obtain ⟨u, hu⟩ : ∃ u, u = L % 2 := ⟨_, rfl⟩
  obtain ⟨v, hv⟩ : ∃ v, v = mo % 2 := ⟨_, rfl⟩
  rw [← hu] at m8 ⊢
  rw [← hv] at m9 ⊢
  refine w_nx (ps1 := ⟨[.fr (dtm h n os), .fr (.int (h : Int)), .fr (.int (n : Int)), .fr (.tuple (nL os)), .fr (.int (L : Int)), z5, .ow (W2 ++ if u = 0 ∧ v = 1 then [wD "twos" mo] else []), .fr (.int (t : Int)), .fr (.int (mo : Int)), .un], dr⟩) ?_ ?_
  · by_cases hu0 : u = 0
    · by_cases hv1 : v = 1
      · simp [m8, m9, qe_int, hu0, hv1, line_of, sz_of (n := W2.length) (by omega), wD]
      · have hv1' : ¬ (v : Int) = 1 := by omega
        simp [m8, m9, qe_int, hu0, hv1, hv1']
    · simp [m8, qe_int, hu0]
  · refine w_det (by simp; rfl) ?_
    exact ⟨rfl, rfl⟩
end
end LK

namespace LK
open PySem PySem.Spec PyProof.Rows L2 MP
section
variable {e n h : Nat} {os : List Nat} {dr : Dr} {d : Dat}
def enO (os : List Nat) : List Dat := os.zipIdx.map fun z => PyData.dict [(.int (z.2 : Nat), .int (z.1 : Int))]
theorem enL_O : enL (nL os) = enO os := by
  unfold enL enO nL
  rw [List.zipIdx_map, List.map_map]
  rfl
theorem zipO {pre post : List (Nat × Nat)} {z : Nat × Nat} (hx : os.zipIdx = pre ++ z :: post) : z.2 = pre.length ∧ os[pre.length]? = some z.1 := by
  have h1 : (os.zipIdx)[pre.length]? = some z := by rw [hx]; simp
  rw [List.getElem?_zipIdx] at h1
  cases q : os[pre.length]? with
  | none => rw [q] at h1; cases h1
  | some x =>
    rw [q] at h1
    have := Option.some.inj h1
    rw [← this]
    exact ⟨by simp, rfl⟩
/-- the program's own: the first of them -/
theorem broken_ok (ok : OkO os) (ht : Two e (lcmL os)) (hn : n ≤ 1000000) : fn_broken [dtm h n os] dr = some (.im ((brk e h n os).head?.getD .none), dr) := by
  have hl := ok.len
  obtain ⟨L, hL⟩ : ∃ L, L = lcmL os := ⟨_, rfl⟩
  have hLp : 0 < L := by rw [hL]; exact lcm_pos Nat.one_pos fun o ho => (ok.o o ho).1
  have ml := multiple_ok (dr := dr) (d := .tuple (nL os)) (.inl rfl) ok.o
  have tw := twos_ok (dr := dr) ht
  rw [← hL] at ml tw
  have hb := b62_nat (n := os.length) (by omega)
  refine cv_det (c_body ?_)
  refine w_nx (ps1 := ⟨[.fr (dtm h n os), .fr (.int (h : Int)), .fr (.int (n : Int)), .fr (.tuple (nL os)), .un, .un, .un, .un], dr⟩) (by simp [dtm]) ?_
  refine w_nx (ps1 := ⟨[.fr (dtm h n os), .fr (.int (h : Int)), .fr (.int (n : Int)), .fr (.tuple (nL os)), .fr (.int (L : Int)), .un, .un, .un], dr⟩) (by simp [ml]) ?_
  refine w_seq (w_forR (fun z : Nat × Nat => PyData.dict [(.int (z.2 : Nat), .int (z.1 : Int))]) os.zipIdx (ps1 := ⟨[.fr (dtm h n os), .fr (.int (h : Int)), .fr (.int (n : Int)), .fr (.tuple (nL os)), .fr (.int (L : Int)), .un, .un, .un], dr⟩) (by simp [enL_O, enO]) (fun pre q => (∀ j, j < pre.length → n % os.getD j 0 = 0) ∧ ∃ u v, q = ⟨[.fr (dtm h n os), .fr (.int (h : Int)), .fr (.int (n : Int)), .fr (.tuple (nL os)), .fr (.int (L : Int)), u, v, .un], dr⟩) ⟨fun j hj => by simp at hj, _, _, rfl⟩ ?_ ?_)
  · rintro pre z post q hx ⟨hj, u, v, rfl⟩
    obtain ⟨h1, h2⟩ := zipO hx
    have hk : pre.length < os.length := by
      rcases Nat.lt_or_ge pre.length os.length with a | a
      · exact a
      · rw [List.getElem?_eq_none a] at h2; cases h2
    obtain ⟨g1, g2, g3⟩ := ok.get hk
    have ez : z.1 = os.getD pre.length 0 := Option.some.inj (h2.symm.trans g1)
    have md : modD (.int (n : Int)) (.int (z.1 : Int)) = some (.im (.int ((n % z.1 : Nat) : Int))) := mod_nat (by omega)
    obtain ⟨r, hr⟩ : ∃ r, r = n % z.1 := ⟨_, rfl⟩
    rw [← hr] at md
    refine ⟨⟨[.fr (dtm h n os), .fr (.int (h : Int)), .fr (.int (n : Int)), .fr (.tuple (nL os)), .fr (.int (L : Int)), .fr (.int (z.2 : Nat)), .fr (.int (z.1 : Int)), .un], dr⟩, by simp, ?_⟩
    by_cases hc : r = 0
    · refine w_det (o := .nx ⟨[.fr (dtm h n os), .fr (.int (h : Int)), .fr (.int (n : Int)), .fr (.tuple (nL os)), .fr (.int (L : Int)), .fr (.int (z.2 : Nat)), .fr (.int (z.1 : Int)), .un], dr⟩) (by simp [md, qn_int, hc]) ⟨fun j hj' => ?_, _, _, rfl⟩
      simp only [List.length_append, List.length_singleton] at hj'
      by_cases e : j = pre.length
      · rw [e, ← ez, ← hr, hc]
      · exact hj j (by omega)
    · refine w_det (o := .rt (.im (wD "divide" pre.length)) ⟨[.fr (dtm h n os), .fr (.int (h : Int)), .fr (.int (n : Int)), .fr (.tuple (nL os)), .fr (.int (L : Int)), .fr (.int (z.2 : Nat)), .fr (.int (z.1 : Int)), .un], dr⟩) (by simp [md, qn_int, hc, line_of, wD, h1]) ⟨?_, rfl⟩
      obtain ⟨rest, e⟩ := hit (m := os.length) (p := fun k => !decide (n % os.getD k 0 = 0)) hk (fun j hj' => by rw [decide_eq_true (hj j hj')]; rfl) (by rw [← ez, ← hr, decide_eq_false hc]; rfl)
      have e2 : divs n os = pre.length :: rest := e
      unfold brk
      rw [e2]
      rfl
  rintro q ⟨hdv, u, v, rfl⟩
  rw [List.length_zipIdx] at hdv
  have edv : divs n os = [] := none_hit fun j hj => by rw [decide_eq_true (hdv j hj)]; rfl
  refine w_seq (w_forR (fun k : Nat => .int (k : Int)) (List.range os.length) (ps1 := ⟨[.fr (dtm h n os), .fr (.int (h : Int)), .fr (.int (n : Int)), .fr (.tuple (nL os)), .fr (.int (L : Int)), u, v, .un], dr⟩) (by simp [hb, rgD_nat]; rfl) (fun pre q => (∀ j, j < pre.length → lcmL (os.eraseIdx j) = lcmL os) ∧ ∃ u, q = ⟨[.fr (dtm h n os), .fr (.int (h : Int)), .fr (.int (n : Int)), .fr (.tuple (nL os)), .fr (.int (L : Int)), u, v, .un], dr⟩) ⟨fun j hj => by simp at hj, _, rfl⟩ ?_ ?_)
  · rintro pre k post q hx ⟨hj, u, rfl⟩
    obtain ⟨_, hk, hpk⟩ := range_split hx
    obtain ⟨t1, t2, t3, t4⟩ := cut_out hk ok
    have m2 := multiple_ok (dr := dr) (d := .tuple (nL (os.eraseIdx k))) (.inl rfl) (ok.erase k)
    refine ⟨_, rfl, ?_⟩
    by_cases hc : lcmL (os.eraseIdx k) = lcmL os
    · rw [hc, ← hL] at m2
      refine w_det (o := .nx ⟨[.fr (dtm h n os), .fr (.int (h : Int)), .fr (.int (n : Int)), .fr (.tuple (nL os)), .fr (.int (L : Int)), .fr (.int (k : Int)), v, .un], dr⟩) (by simp [-nL_len, t1, t2, t3, t4, m2, qn_int]) ⟨fun j hj' => ?_, _, rfl⟩
      simp only [List.length_append, List.length_singleton] at hj'
      by_cases e : j = k
      · rw [e, hc]
      · exact hj j (by omega)
    · have hcc := hc
      rw [← hL] at hc
      obtain ⟨M, hM⟩ : ∃ M, M = lcmL (os.eraseIdx k) := ⟨_, rfl⟩
      rw [← hM] at m2 hc
      have hc' : ¬ (M : Int) = (L : Int) := by omega
      refine w_det (o := .rt (.im (wD "common" k)) ⟨[.fr (dtm h n os), .fr (.int (h : Int)), .fr (.int (n : Int)), .fr (.tuple (nL os)), .fr (.int (L : Int)), .fr (.int (k : Int)), v, .un], dr⟩) (by simp [-nL_len, hc', t1, t2, t3, t4, m2, qn_int, hc, line_of, wD]) ⟨?_, rfl⟩
      obtain ⟨rest, e⟩ := hit (m := os.length) (p := fun k => !decide (lcmL (os.eraseIdx k) = lcmL os)) hk (fun j hj' => by rw [decide_eq_true (hj j (by omega))]; rfl) (by rw [decide_eq_false hcc]; rfl)
      have e2 : coms os = k :: rest := e
      unfold brk
      rw [edv, e2]
      rfl
  rintro q ⟨hcm, u, rfl⟩
  rw [List.length_range] at hcm
  have ecm : coms os = [] := none_hit fun j hj => by rw [decide_eq_true (hcm j hj)]; rfl
  have eb : brk e h n os = brkW h n os ++ brkT e os := by unfold brk; rw [edv, ecm]; rfl
  rw [eb]
  by_cases hw : h = 0 ∧ lcmL os ≠ n
  · have hw1 : brkW h n os = [wD "whole" (lcmL os)] := if_pos hw
    rw [hw1]
    rw [← hL] at hw ⊢
    obtain ⟨h0, h1⟩ := hw
    have h1' : ¬ (L : Int) = (n : Int) := by omega
    exact w_seq (w_det (o := .rt (.im (wD "whole" L)) ⟨[.fr (dtm h n os), .fr (.int (h : Int)), .fr (.int (n : Int)), .fr (.tuple (nL os)), .fr (.int (L : Int)), u, v, .un], dr⟩) (by simp [qe_int, qn_int, h0, h1, h1', line_of, wD]) ⟨rfl, rfl⟩)
  have hw1 : brkW h n os = [] := if_neg hw
  rw [hw1, List.nil_append]
  refine w_nx (ps1 := ⟨[.fr (dtm h n os), .fr (.int (h : Int)), .fr (.int (n : Int)), .fr (.tuple (nL os)), .fr (.int (L : Int)), u, v, .un], dr⟩) ?_ ?_
  · rw [← hL] at hw
    by_cases h0 : h = 0
    · have h1 : L = n := Classical.byContradiction fun z => hw ⟨h0, z⟩
      simp [qe_int, qn_int, h0, h1]
    · simp [qe_int, h0]
  obtain ⟨t, htj⟩ : ∃ t, t = 2 ^ e := ⟨_, rfl⟩
  rw [← htj] at tw
  have htp : 0 < t := by rw [htj]; exact Nat.pos_of_ne_zero (by simp)
  have c2 := lc_eq (vs := [6]) (fi := seqIt (rdV 3)) (tgt := nmT 6) (tst := tstM (opM eqD (opM modD (rdV 6) (callM fn_twos_in (consM (rdV 4) (M.ret [])))) (kst (.int 0)))) (elt := rdV 6) (ps := ⟨[.fr (dtm h n os), .fr (.int (h : Int)), .fr (.int (n : Int)), .fr (.tuple (nL os)), .fr (.int (L : Int)), u, v, .un], dr⟩) (ps1 := ⟨[.fr (dtm h n os), .fr (.int (h : Int)), .fr (.int (n : Int)), .fr (.tuple (nL os)), .fr (.int (L : Int)), u, v, .un], dr⟩) (fun o : Nat => .int (o : Int)) os (by simp [nL]) (by omega) (fun o => decide (o % t = 0)) (fun o => .int (o : Int)) (fun o ho => by
    have md2 : modD (.int (o : Int)) (.int (t : Int)) = some (.im (.int ((o % t : Nat) : Int))) := mod_nat htp
    obtain ⟨r, hr⟩ : ∃ r, r = o % t := ⟨_, rfl⟩
    rw [← hr] at md2 ⊢
    refine ⟨_, ⟨[.fr (dtm h n os), .fr (.int (h : Int)), .fr (.int (n : Int)), .fr (.tuple (nL os)), .fr (.int (L : Int)), u, .fr (.int (o : Int)), .un], dr⟩, rfl, ?_, fun _ => by simp, fun _ => ⟨⟨[.fr (dtm h n os), .fr (.int (h : Int)), .fr (.int (n : Int)), .fr (.tuple (nL os)), .fr (.int (L : Int)), u, .fr (.int (o : Int)), .un], dr⟩, by simp, by simp⟩⟩
    simp [tw, md2, qe_int])
  have hmm : ((os.filter fun o => decide (o % t = 0)).map fun o : Nat => PyData.int (o : Int)).length = manyOf e os := by rw [List.length_map, htj]; rfl
  obtain ⟨Mx, hMx⟩ : ∃ Mx, Mx = (os.filter fun o => decide (o % t = 0)).map fun o : Nat => PyData.int (o : Int) := ⟨_, rfl⟩
  rw [← hMx] at c2 hmm
  refine w_nx (ps1 := ⟨[.fr (dtm h n os), .fr (.int (h : Int)), .fr (.int (n : Int)), .fr (.tuple (nL os)), .fr (.int (L : Int)), u, keepSl (some v), .fr (.int ((manyOf e os : Nat) : Int))], dr⟩) ?_ ?_
  · rw [e_set, e_un, c2]
    simp [hmm]
  have m8 : modD (.int (L : Int)) (.int 2) = some (.im (.int ((L % 2 : Nat) : Int))) := mod_nat (b := 2) (by decide)
  obtain ⟨mo, hmo⟩ : ∃ mo, mo = manyOf e os := ⟨_, rfl⟩
  have m9 : modD (.int (mo : Int)) (.int 2) = some (.im (.int ((mo % 2 : Nat) : Int))) := mod_nat (b := 2) (by decide)
  unfold brkT
  rw [← hL, ← hmo]
  obtain ⟨x, hx⟩ : ∃ x, x = L % 2 := ⟨_, rfl⟩
  obtain ⟨y, hy⟩ : ∃ y, y = mo % 2 := ⟨_, rfl⟩
  rw [← hx] at m8 ⊢
  rw [← hy] at m9 ⊢
  by_cases hu0 : x = 0
  · by_cases hv1 : y = 1
    · refine w_seq (w_det (o := .rt (.im (wD "twos" mo)) ⟨[.fr (dtm h n os), .fr (.int (h : Int)), .fr (.int (n : Int)), .fr (.tuple (nL os)), .fr (.int (L : Int)), u, keepSl (some v), .fr (.int (mo : Int))], dr⟩) (by simp [m8, m9, qe_int, hu0, hv1, line_of, wD]) ?_)
      rw [if_pos ⟨hu0, hv1⟩]
      exact ⟨rfl, rfl⟩
    · have hv1' : ¬ (y : Int) = 1 := by omega
      refine w_nx (by simp [m8, m9, qe_int, hu0, hv1, hv1']; rfl) ?_
      rw [if_neg fun z => hv1 z.2]
      refine w_det (by simp; rfl) ?_
      exact ⟨rfl, rfl⟩
  · refine w_nx (by simp [m8, qe_int, hu0]; rfl) ?_
    rw [if_neg fun z => hu0 z.1]
    refine w_det (by simp; rfl) ?_
    exact ⟨rfl, rfl⟩
end
end LK

namespace LK
open PySem PySem.Spec PyProof.Rows L2 MP
/-! ### the powers of primes in a number -/
def prodQ (l : List (Nat × Nat)) : Nat := (l.map Prod.snd).foldl (· * ·) 1
theorem prodQ_snoc {l : List (Nat × Nat)} {z : Nat × Nat} : prodQ (l ++ [z]) = prodQ l * z.2 := by
  unfold prodQ
  rw [List.map_append, List.foldl_append]
  rfl
structure PP (L : Nat) (l : List (Nat × Nat)) : Prop where
  pr : ∀ z ∈ l, Pr z.1 ∧ (∃ a, 0 < a ∧ z.2 = z.1 ^ a) ∧ ∃ m, L = z.2 * m ∧ ¬ z.1 ∣ m
  cop : ∀ pre z post, l = pre ++ z :: post → Nat.Coprime (prodQ pre) z.2
section
variable {L : Nat} {dr : Dr} {l : List (Nat × Nat)}
theorem PP.nil : PP L [] := ⟨fun z h => (by cases h), fun pre z post h => (by cases pre <;> cases h)⟩
theorem PP.snoc {z : Nat × Nat} (h : PP L l) (h1 : Pr z.1 ∧ (∃ a, 0 < a ∧ z.2 = z.1 ^ a) ∧ ∃ m, L = z.2 * m ∧ ¬ z.1 ∣ m) (h2 : Nat.Coprime (prodQ l) z.2) : PP L (l ++ [z]) := by
  refine ⟨fun y hy => ?_, fun pre y post e => ?_⟩
  · rcases List.mem_append.mp hy with hy | hy
    · exact h.pr y hy
    · rw [List.mem_singleton.mp hy]
      exact h1
  · rcases List.eq_nil_or_concat post with rfl | ⟨post', w, rfl⟩
    · obtain ⟨e1, e2⟩ := List.append_inj' e rfl
      cases e2
      rw [← e1]
      exact h2
    · have e' : l ++ [z] = (pre ++ y :: post') ++ [w] := by rw [e, List.concat_eq_append]; simp
      obtain ⟨e1, _⟩ := List.append_inj' e' rfl
      exact h.cop pre y post' e1
def psQ (x : Nat) (l : List (Nat × Nat)) (p : Nat) (z : Sl) (dr : Dr) : PS := ⟨[.fr (.int (x : Int)), .ow (l.map p2), .fr (.int (p : Int)), z], dr⟩
theorem prime_powers_ok (h0 : 0 < L) (hL : L ≤ 1000000) : CV fn_prime_powers [.int (L : Int)] dr fun r dr' => dr' = dr ∧ ∃ l, r = .nw (l.map p2) ∧ PP L l ∧ prodQ l = L := by
  refine c_body ?_
  refine w_nx (by simp [line_of]; rfl) ?_
  refine w_nx (ps1 := psQ L [] 2 .un dr) (by simp [psQ]) ?_
  refine w_seq (w_while (L + 1) (fun m q => ∃ x l p z, q = psQ x l p z dr ∧ 0 < x ∧ x * prodQ l = L ∧ (∀ d, 2 ≤ d → d < p → ¬ d ∣ x) ∧ Nat.Coprime x (prodQ l) ∧ PP L l ∧ 2 ≤ p ∧ l.length + 2 ≤ p ∧ (m = x + 1 - p ∨ m = L + 1 ∧ p = 2 ∧ x = L)) ⟨L, [], 2, _, rfl, h0, by show L * 1 = L; omega, fun d h1 h2 => by omega, by show Nat.Coprime L 1; exact Nat.gcd_one_right L, .nil, by omega, by simp, .inr ⟨rfl, rfl, rfl⟩⟩ ?_)
  rintro m q ⟨x, l, p, z, rfl, hx, hxl, hd, hcp, hpp, hp2, hll, hm⟩
  have hxL : x ≤ L := Nat.le_of_dvd h0 ⟨_, hxl.symm⟩
  by_cases hc : 1 < x
  · have hc1 : (1 : Int) < (x : Int) := by omega
    have hpx : p ≤ x := by
      refine Nat.le_of_not_lt fun h => hd x hc h (Nat.dvd_refl x)
    refine t_det (k := true) (ps1 := psQ x l p z dr) (by simp [psQ, hc1]) ⟨fun z => (by cases z), fun _ => ?_⟩
    refine w_nx (ps1 := psQ x l p (.fr (.int ((1 : Nat) : Int))) dr) (by simp [psQ]) ?_
    refine w_seq (w_while x (fun m q => ∃ j P : Nat, q = psQ m l p (.fr (.int (P : Int))) dr ∧ 0 < m ∧ P = p ^ j ∧ x = p ^ j * m) ⟨0, 1, rfl, hx, rfl, by simp⟩ ?_)
    rintro y q ⟨j, P, rfl, hy, hP, hxy⟩
    have md : modD (.int (y : Int)) (.int (p : Int)) = some (.im (.int ((y % p : Nat) : Int))) := mod_nat (by omega)
    obtain ⟨r, hr⟩ : ∃ r, r = y % p := ⟨_, rfl⟩
    rw [← hr] at md
    by_cases hr0 : r = 0
    · refine t_det (k := true) (ps1 := psQ y l p (.fr (.int (P : Int))) dr) (by simp [psQ, md, qe_int, hr0]) ⟨fun z => (by cases z), fun _ => ?_⟩
      have hpy : p ∣ y := Nat.dvd_of_mod_eq_zero (by omega)
      obtain ⟨w, hw⟩ := hpy
      have hw0 : 0 < w := Nat.pos_of_ne_zero fun e => by rw [e] at hw; omega
      have hwy : w < y := by
        have h2 : 2 * w ≤ p * w := Nat.mul_le_mul_right w hp2
        omega
      have fd : fdivD (.int (y : Int)) (.int (p : Int)) = some (.im (.int (w : Int))) := by
        rw [fdiv_posI (by omega) (by omega), hw]
        congr 3
        push_cast
        exact Int.mul_ediv_cancel_left _ (by omega)
      have ml : mulD (.int (P : Int)) (.int (p : Int)) = some (.im (.int ((P * p : Nat) : Int))) := by
        have h := mul_int (i := (P : Int)) (j := (p : Int)) (.inr (by omega))
        rw [h]
        norm_cast
      obtain ⟨P2, hP2⟩ : ∃ P2, P2 = P * p := ⟨_, rfl⟩
      rw [← hP2] at ml
      exact w_det (o := .nx (psQ w l p (.fr (.int (P2 : Int))) dr)) (by simp [psQ, fd, ml]) ⟨w, hwy, j + 1, P2, rfl, hw0, by rw [hP2, hP, Nat.pow_succ], by rw [hxy, hw, Nat.pow_succ, Nat.mul_assoc]⟩
    · refine t_det (k := false) (ps1 := psQ y l p (.fr (.int (P : Int))) dr) (by simp [psQ, md, qe_int, hr0]) ⟨fun _ => ?_, fun z => (by cases z)⟩
      have hpy : ¬ p ∣ y := fun h => hr0 (by rw [hr]; exact Nat.mod_eq_zero_of_dvd h)
      have hyx : y ∣ x := ⟨p ^ j, by rw [hxy, Nat.mul_comm]⟩
      have hyle : y ≤ x := Nat.le_of_dvd hx hyx
      have hcy : Nat.Coprime y (prodQ l) := Nat.Coprime.coprime_dvd_left hyx hcp
      have hd' : ∀ d, 2 ≤ d → d < p + 1 → ¬ d ∣ y := fun d h1 h2 h3 => by
        by_cases e : d = p
        · exact hpy (e ▸ h3)
        · exact hd d h1 (by omega) (Nat.dvd_trans h3 hyx)
      by_cases hj : j = 0
      · subst hj
        have eP : P = 1 := hP
        have exy : x = y := by rw [hxy]; simp
        refine w_nx (ps1 := psQ y l p (.fr (.int (P : Int))) dr) (by simp [psQ, eP]) ?_
        refine w_det (o := .nx (psQ y l (p + 1) (.fr (.int (P : Int))) dr)) (by simp [psQ]) ⟨y + 1 - (p + 1), ?_, y, l, p + 1, _, rfl, hy, by rw [← exy]; exact hxl, hd', hcy, hpp, by omega, by omega, .inl rfl⟩
        rcases hm with hm | ⟨hm, _, _⟩ <;> omega
      · have hpdvd : p ∣ x := by
          rw [hxy]
          exact Nat.dvd_trans ⟨p ^ (j - 1), by rw [Nat.mul_comm, ← Nat.pow_succ]; congr 1; omega⟩ (Nat.dvd_mul_right _ _)
        have hpr : Pr p := ⟨hp2, fun d hdp => by
          have h1 : d ≤ p := Nat.le_of_dvd (by omega) hdp
          have h0' : 0 < d := Nat.pos_of_dvd_of_pos hdp (by omega)
          by_cases e : d = p
          · exact .inr e
          · by_cases e1 : d = 1
            · exact .inl e1
            · exact absurd (Nat.dvd_trans hdp hpdvd) (hd d (by omega) (by omega))⟩
        have hP1 : 1 < P := by
          rw [hP]
          exact Nat.one_lt_pow hj (by omega)
        have hqx : P ∣ x := by rw [hxy, hP]; exact Nat.dvd_mul_right _ _
        have hcPl : Nat.Coprime (prodQ l) P := (Nat.Coprime.coprime_dvd_left hqx hcp).symm
        have hpl : ¬ p ∣ prodQ l := fun h => hpr.ne_one (by
          have := Nat.dvd_gcd hpdvd h
          rwa [show Nat.gcd x (prodQ l) = 1 from hcp] at this)
        have hz : Pr (p, P).1 ∧ (∃ a, 0 < a ∧ (p, P).2 = (p, P).1 ^ a) ∧ ∃ m, L = (p, P).2 * m ∧ ¬ (p, P).1 ∣ m := by
          refine ⟨hpr, ⟨j, by omega, hP⟩, y * prodQ l, ?_, hpr.mul hpy hpl⟩
          show L = P * (y * prodQ l)
          rw [← hxl, hxy, hP, Nat.mul_assoc]
        have hP1' : (1 : Int) < (P : Int) := by omega
        refine w_nx (ps1 := psQ y (l ++ [(p, P)]) p (.fr (.int (P : Int))) dr) (by simp [psQ, hP1, hP1', line_of, sz_of (n := l.length) (by omega), p2]) ?_
        refine w_det (o := .nx (psQ y (l ++ [(p, P)]) (p + 1) (.fr (.int (P : Int))) dr)) (by simp [psQ]) ⟨y + 1 - (p + 1), ?_, y, _, p + 1, _, rfl, hy, ?_, hd', ?_, hpp.snoc hz hcPl, by omega, by simp; omega, .inl rfl⟩
        · rcases hm with hm | ⟨hm, _, _⟩ <;> omega
        · rw [prodQ_snoc]
          show y * (prodQ l * P) = L
          rw [← hxl, hxy, ← hP, Nat.mul_comm (prodQ l), ← Nat.mul_assoc, Nat.mul_comm y]
        · rw [prodQ_snoc]
          refine Nat.Coprime.mul_right hcy ?_
          show Nat.Coprime y P
          rw [hP]
          exact (hpr.copPow hpy).symm
  · refine t_det (k := false) (ps1 := psQ x l p z dr) (by simp [psQ]; omega) ⟨fun _ => ?_, fun z => (by cases z)⟩
    have ex : x = 1 := by omega
    subst ex
    rw [Nat.one_mul] at hxl
    exact w_det (o := .rt (.nw (l.map p2)) (psQ 1 l p z dr)) (by simp [psQ]) ⟨rfl, l, rfl, hpp, hxl⟩
end
end LK

namespace LK
open PySem PySem.Spec PyProof.Rows L2 MP
/-! ### sums by places -/
def so (P : Nat → Bool) : List Nat → Nat → Nat
  | [], _ => 0
  | x :: l, k => (if P k then x else 0) + so P l (k + 1)
theorem so_zip {P : Nat → Bool} : ∀ {l : List Nat} {k : Nat}, (((l.zipIdx k).filter fun z => P z.2).map Prod.fst).sum = so P l k
  | [], _ => rfl
  | x :: l, k => by
    rw [List.zipIdx_cons, so]
    by_cases h : P k = true
    · rw [List.filter_cons_of_pos (p := fun z : Nat × Nat => P z.2) (a := (x, k)) h, List.map_cons, List.sum_cons, if_pos h, so_zip]
    · rw [List.filter_cons_of_neg (p := fun z : Nat × Nat => P z.2) (a := (x, k)) h, if_neg h, Nat.zero_add, so_zip]
theorem so_add {P : Nat → Bool} : ∀ {l : List Nat} {k : Nat}, so P l k + so (fun n => !P n) l k = l.sum
  | [], _ => rfl
  | x :: l, k => by
    have ih := so_add (P := P) (l := l) (k := k + 1)
    rw [so, so, List.sum_cons]
    cases h : P k <;> simp <;> omega
theorem so_one {i : Nat} : ∀ {l : List Nat} {k : Nat}, so (fun n => n == i) l k = if k ≤ i then l.getD (i - k) 0 else 0
  | [], k => by simp [so]
  | x :: l, k => by
    rw [so, so_one]
    rcases Nat.lt_trichotomy k i with h | h | h
    · have e : (k == i) = false := beq_eq_false_iff_ne.mpr (by omega)
      rw [e, if_neg Bool.false_ne_true, if_pos (by omega), if_pos (by omega), Nat.zero_add, show i - k = (i - (k + 1)) + 1 by omega, List.getD_cons_succ]
    · subst h
      rw [beq_self_eq_true, if_pos rfl, if_neg (by omega), if_pos (Nat.le_refl _), Nat.sub_self]
      rfl
    · have e : (k == i) = false := beq_eq_false_iff_ne.mpr (by omega)
      rw [e, if_neg Bool.false_ne_true, if_neg (by omega), if_neg (by omega)]
theorem so_or {i j : Nat} (hij : i ≠ j) : ∀ {l : List Nat} {k : Nat}, so (fun n => n == i || n == j) l k = so (fun n => n == i) l k + so (fun n => n == j) l k
  | [], _ => rfl
  | x :: l, k => by
    rw [so, so, so, so_or hij]
    by_cases h1 : k = i
    · have e2 : (k == j) = false := beq_eq_false_iff_ne.mpr (by omega)
      simp [h1, e2]
      have : ¬ i = j := hij
      simp [this]
      omega
    · by_cases h2 : k = j
      · have : ¬ j = i := fun z => hij z.symm
        simp [h2, this]
        omega
      · simp [h1, h2]
theorem sum_set' : ∀ {l : List Nat} {i v : Nat}, i < l.length → (l.set i v).sum + l.getD i 0 = l.sum + v
  | [], i, v, h => by simp at h
  | x :: l, 0, v, _ => by
    show v + l.sum + x = x + l.sum + v
    omega
  | x :: l, i + 1, v, h => by
    have := sum_set' (l := l) (i := i) (v := v) (by simpa using h)
    show x + (l.set i v).sum + l.getD i 0 = x + l.sum + v
    omega
/-- all but two places, and two numbers for these -/
theorem sum_two {l : List Nat} {i j f s : Nat} (hij : i ≠ j) (hi : i < l.length) (hj : j < l.length) :
    ((l.set i f).set j s).sum = ((((l.zipIdx).filter fun z => !decide (z.2 ∈ [i, j])).map Prod.fst).sum) + f + s ∧ l.sum = ((((l.zipIdx).filter fun z => !decide (z.2 ∈ [i, j])).map Prod.fst).sum) + l.getD i 0 + l.getD j 0 := by
  have e : ((((l.zipIdx).filter fun z => !decide (z.2 ∈ [i, j])).map Prod.fst).sum) = so (fun n => !(n == i || n == j)) l 0 := by
    rw [← so_zip]
    congr 3
    funext z
    simp
    rfl
  have e1 := so_add (P := fun n => n == i || n == j) (l := l) (k := 0)
  rw [so_or hij, so_one, so_one, if_pos (Nat.zero_le _), if_pos (Nat.zero_le _), Nat.sub_zero, Nat.sub_zero] at e1
  have s1 := sum_set' (l := l) (i := i) (v := f) hi
  have s2 := sum_set' (l := l.set i f) (i := j) (v := s) (by rw [List.length_set]; exact hj)
  have e3 : (l.set i f).getD j 0 = l.getD j 0 := by
    rw [List.getD_eq_getElem?_getD, List.getD_eq_getElem?_getD, List.getElem?_set_ne hij]
  rw [e3] at s2
  rw [e]
  omega
section
variable {p q a : Nat} {os : List Nat} {dr : Dr}
def ptE (q : Nat) (os : List Nat) : List Nat := os.map fun o => Nat.gcd o q
def ptT (q : Nat) (os : List Nat) : List Nat := (ptE q os).map fun e => q / e
def greatL (q : Nat) (os : List Nat) : List Nat := ((ptE q os).zipIdx.filter fun z => decide (z.1 = q)).map Prod.snd
theorem mem_great {k : Nat} : k ∈ greatL q os ↔ ∃ o, os[k]? = some o ∧ Nat.gcd o q = q := by
  unfold greatL ptE
  constructor
  · intro h
    obtain ⟨z, hz, rfl⟩ := List.mem_map.mp h
    obtain ⟨h1, h2⟩ := List.mem_filter.mp hz
    have h3 := List.mem_zipIdx_iff_getElem?.mp h1
    rw [List.getElem?_map] at h3
    obtain ⟨o, h4, h5⟩ := Option.map_eq_some_iff.mp h3
    exact ⟨o, h4, by rw [h5]; exact of_decide_eq_true h2⟩
  · rintro ⟨o, h1, h2⟩
    refine List.mem_map.mpr ⟨(q, k), List.mem_filter.mpr ⟨List.mem_zipIdx_iff_getElem?.mpr ?_, by simp⟩, rfl⟩
    rw [List.getElem?_map, h1]
    show some (Nat.gcd o q) = some q
    rw [h2]
theorem great_nodup : (greatL q os).Nodup := by
  unfold greatL
  have h : ((ptE q os).zipIdx.map Prod.snd).Nodup := by
    rw [List.zipIdx_map_snd]
    exact List.nodup_range'
  exact (List.Sublist.map Prod.snd List.filter_sublist).nodup h
theorem two_first (h : ∃ i j : Nat, ∃ x y, i ≠ j ∧ os[i]? = some x ∧ os[j]? = some y ∧ q ∣ x ∧ q ∣ y) : ∃ g0 g1 r, greatL q os = g0 :: g1 :: r ∧ g0 ≠ g1 := by
  obtain ⟨i, j, x, y, hij, h1, h2, h3, h4⟩ := h
  have m1 : i ∈ greatL q os := mem_great.mpr ⟨x, h1, by rw [Nat.gcd_comm]; exact Nat.gcd_eq_left h3⟩
  have m2 : j ∈ greatL q os := mem_great.mpr ⟨y, h2, by rw [Nat.gcd_comm]; exact Nat.gcd_eq_left h4⟩
  have nd := great_nodup (q := q) (os := os)
  match e : greatL q os with
  | [] => rw [e] at m1; cases m1
  | [g] =>
    rw [e, List.mem_singleton] at m1 m2
    exact absurd (m1.trans m2.symm) hij
  | g0 :: g1 :: r =>
    rw [e] at nd
    exact ⟨g0, g1, r, rfl, fun z => by rw [z] at nd; simp at nd⟩
/-- the program's numbers for one power of a prime, behind f and s for the first two great ones -/
structure Good (q : Nat) (os R : List Nat) : Prop where
  len : R.length = os.length
  lt : ∀ r ∈ R, r < q
  gcd : ∀ k, k < os.length → Nat.gcd (R.getD k 0) q * Nat.gcd (os.getD k 0) q = q
  sum : q ∣ R.sum
theorem sum_mod : ∀ {l : List Nat}, q ∣ l.sum → q ∣ (l.map (· % q)).sum := by
  intro l h
  have : ∀ l : List Nat, (l.map (· % q)).sum % q = l.sum % q := by
    intro l
    induction l with
    | nil => rfl
    | cons x l ih => rw [List.map_cons, List.sum_cons, List.sum_cons, Nat.add_mod, ih, Nat.mod_mod, ← Nat.add_mod]
  exact Nat.dvd_of_mod_eq_zero (by rw [this, Nat.mod_eq_zero_of_dvd h])
theorem gcd_mod' {x : Nat} : Nat.gcd (x % q) q = Nat.gcd x q := by
  rw [← Nat.gcd_rec, Nat.gcd_comm]
theorem good_of (hq : 0 < q) (ho : ∀ o ∈ os, 0 < o) {g0 g1 f s : Nat} {r : List Nat} (hg : greatL q os = g0 :: g1 :: r) (hne : g0 ≠ g1) (hf : Nat.Coprime f q) (hs : Nat.Coprime s q)
    (hsum : q ∣ ((((ptT q os).zipIdx.filter fun z => !decide (z.2 ∈ [g0, g1])).map Prod.fst).sum) + f + s) : Good q os ((((ptT q os).set g0 f).set g1 s).map (· % q)) := by
  have hT : (ptT q os).length = os.length := by unfold ptT ptE; simp
  obtain ⟨o0, e0, q0⟩ := mem_great.mp (show g0 ∈ greatL q os by rw [hg]; simp)
  obtain ⟨o1, e1, q1⟩ := mem_great.mp (show g1 ∈ greatL q os by rw [hg]; simp)
  have l0 : g0 < os.length := by
    rcases Nat.lt_or_ge g0 os.length with z | z
    · exact z
    · rw [List.getElem?_eq_none z] at e0; cases e0
  have l1 : g1 < os.length := by
    rcases Nat.lt_or_ge g1 os.length with z | z
    · exact z
    · rw [List.getElem?_eq_none z] at e1; cases e1
  refine ⟨by simp [hT], fun x hx => ?_, fun k hk => ?_, sum_mod ?_⟩
  · obtain ⟨y, _, rfl⟩ := List.mem_map.mp hx
    exact Nat.mod_lt _ hq
  · have ek : ((((ptT q os).set g0 f).set g1 s).map (· % q)).getD k 0 = (if k = g1 then s else if k = g0 then f else q / Nat.gcd (os.getD k 0) q) % q := by
      rw [List.getD_eq_getElem?_getD, List.getElem?_map, List.getElem?_set, List.getElem?_set]
      by_cases h1 : g1 = k
      · subst h1
        rw [if_pos rfl, if_pos (by rw [List.length_set, hT]; exact hk), if_pos rfl]
        rfl
      · rw [if_neg h1, if_neg (show ¬ k = g1 from fun z => h1 z.symm)]
        by_cases h0 : g0 = k
        · subst h0
          rw [if_pos rfl, if_pos (by rw [hT]; exact hk), if_pos rfl]
          rfl
        · rw [if_neg h0, if_neg (show ¬ k = g0 from fun z => h0 z.symm)]
          unfold ptT ptE
          rw [List.getElem?_map, List.getElem?_map, List.getElem?_eq_getElem hk, List.getD_eq_getElem?_getD, List.getElem?_eq_getElem hk]
          rfl
    rw [ek, gcd_mod']
    by_cases h1 : k = g1
    · rw [if_pos h1, show Nat.gcd s q = 1 from hs, h1, List.getD_eq_getElem?_getD, e1]
      show 1 * Nat.gcd o1 q = q
      rw [q1, Nat.one_mul]
    · rw [if_neg h1]
      by_cases h0 : k = g0
      · rw [if_pos h0, show Nat.gcd f q = 1 from hf, h0, List.getD_eq_getElem?_getD, e0]
        show 1 * Nat.gcd o0 q = q
        rw [q0, Nat.one_mul]
      · rw [if_neg h0]
        have hd : Nat.gcd (os.getD k 0) q ∣ q := Nat.gcd_dvd_right _ _
        have hd2 : q / Nat.gcd (os.getD k 0) q ∣ q := Nat.div_dvd_of_dvd hd
        rw [Nat.gcd_eq_left hd2, Nat.div_mul_cancel hd]
  · rw [(sum_two (l := ptT q os) (f := f) (s := s) hne (by rw [hT]; exact l0) (by rw [hT]; exact l1)).1]
    exact hsum
/-- with two, the others add up to an even number -/
theorem par_two (a : Nat) (ha : 0 < a) (hq : q = 2 ^ a) (ho : ∀ o ∈ os, 0 < o) : (ptT q os).sum % 2 = (os.filter fun o => decide (o % q = 0)).length % 2 := by
  have hq0 : 0 < q := by rw [hq]; exact Nat.pos_of_ne_zero (by simp)
  induction os with
  | nil => rfl
  | cons o os ih =>
    have ih' := ih fun x hx => ho x (List.mem_cons_of_mem _ hx)
    have e : (ptT q (o :: os)).sum = q / Nat.gcd o q + (ptT q os).sum := rfl
    rw [e]
    by_cases h : o % q = 0
    · have hd : q ∣ o := Nat.dvd_of_mod_eq_zero h
      rw [List.filter_cons_of_pos (by simp [h]), List.length_cons, Nat.gcd_comm, Nat.gcd_eq_left hd, Nat.div_self hq0]
      omega
    · rw [List.filter_cons_of_neg (by simp [h])]
      have hg : Nat.gcd o q ∣ q := Nat.gcd_dvd_right _ _
      have hne : q / Nat.gcd o q ≠ 1 := fun z => by
        have := Nat.div_mul_cancel hg
        rw [z, Nat.one_mul] at this
        exact h (Nat.mod_eq_zero_of_dvd (by rw [← this]; exact Nat.gcd_dvd_left _ _))
      have h2 : 2 ∣ q / Nat.gcd o q := pr2.dvd_of (a := a) (by rw [← hq]; exact Nat.div_dvd_of_dvd hg) hne
      omega
end
end LK

namespace LK
open PySem PySem.Spec PyProof.Rows L2 MP
section
variable {p q a : Nat} {os : List Nat} {dr : Dr}
theorem sum_cast : ∀ {l : List Nat}, (l.map fun (k : Nat) => (k : Int)).sum = ((l.sum : Nat) : Int)
  | [] => rfl
  | x :: l => by
    rw [List.map_cons, List.sum_cons, List.sum_cons, sum_cast]
    omega
def psG (p q : Nat) (os : List Nat) (s3 s4 s5 s6 s7 s8 s9 s10 s11 : Sl) (dr : Dr) : PS := ⟨[.fr (.tuple (nL os)), .fr (.int (p : Int)), .fr (.int (q : Int)), s3, s4, s5, s6, s7, s8, s9, s10, s11], dr⟩
theorem part_steps_ok (ok : OkO os) (hp : Pr p) (ha : 0 < a) (hq : q = p ^ a) (hqL : q ≤ 1000000) (h2 : ∃ i j : Nat, ∃ x y, i ≠ j ∧ os[i]? = some x ∧ os[j]? = some y ∧ q ∣ x ∧ q ∣ y)
    (hev : p = 2 → (os.filter fun o => decide (o % q = 0)).length % 2 = 0) :
    ∃ R, fn_part_steps [.tuple (nL os), .int (p : Int), .int (q : Int)] dr = some (.nw (nL R), dr) ∧ Good q os R := by
  have hl := ok.len
  have hp2 := hp.1
  have hq0 : 0 < q := by rw [hq]; exact Nat.pow_pos (by omega)
  have hpq : p ∣ q := by rw [hq]; exact ⟨p ^ (a - 1), by rw [Nat.mul_comm, ← Nat.pow_succ]; congr 1; omega⟩
  have hpl : p ≤ q := Nat.le_of_dvd hq0 hpq
  obtain ⟨g0, g1, r, hg, hne⟩ := two_first h2
  have m0 : g0 ∈ greatL q os := by rw [hg]; simp
  have m1 : g1 ∈ greatL q os := by rw [hg]; simp
  obtain ⟨o0, e0, q0⟩ := mem_great.mp m0
  obtain ⟨o1, e1, q1⟩ := mem_great.mp m1
  have l0 : g0 < os.length := by
    rcases Nat.lt_or_ge g0 os.length with z | z
    · exact z
    · rw [List.getElem?_eq_none z] at e0; cases e0
  have l1 : g1 < os.length := by
    rcases Nat.lt_or_ge g1 os.length with z | z
    · exact z
    · rw [List.getElem?_eq_none z] at e1; cases e1
  have hEl : (ptE q os).length = os.length := by unfold ptE; simp
  have hTl : (ptT q os).length = os.length := by unfold ptT; simp [hEl]
  have tg0 : (ptT q os).getD g0 0 = 1 := by
    unfold ptT ptE
    rw [List.getD_eq_getElem?_getD, List.getElem?_map, List.getElem?_map, e0]
    show q / Nat.gcd o0 q = 1
    rw [q0, Nat.div_self hq0]
  have tg1 : (ptT q os).getD g1 0 = 1 := by
    unfold ptT ptE
    rw [List.getD_eq_getElem?_getD, List.getElem?_map, List.getElem?_map, e1]
    show q / Nat.gcd o1 q = 1
    rw [q1, Nat.div_self hq0]
  obtain ⟨S, hS⟩ : ∃ S, S = ((((ptT q os).zipIdx.filter fun z => !decide (z.2 ∈ [g0, g1])).map Prod.fst).sum) := ⟨_, rfl⟩
  have tot := (sum_two (l := ptT q os) (f := 0) (s := 0) hne (by rw [hTl]; exact l0) (by rw [hTl]; exact l1)).2
  rw [tg0, tg1, ← hS] at tot
  -- the numbers for the first two
  obtain ⟨f, hf⟩ : ∃ f : Nat, f = if (-(S : Int) - 1) % (p : Int) ≠ 0 then 1 else 2 := ⟨_, rfl⟩
  obtain ⟨s, hs⟩ : ∃ s : Nat, s = ((-(S : Int) - (f : Int)) % (q : Int)).toNat := ⟨_, rfl⟩
  have hsn := Int.emod_nonneg (-(S : Int) - (f : Int)) (show (q : Int) ≠ 0 by omega)
  have hsq : (s : Int) = (-(S : Int) - (f : Int)) % (q : Int) := by omega
  have hpI : (p : Int) ∣ (q : Int) := Int.ofNat_dvd.mpr hpq
  have hsp : (p : Int) ∣ (s : Int) ↔ (p : Int) ∣ -(S : Int) - (f : Int) := by
    rw [hsq]
    constructor
    · intro h
      have := Int.emod_emod_of_dvd (-(S : Int) - (f : Int)) hpI
      exact Int.dvd_of_emod_eq_zero (by rw [← this]; exact Int.emod_eq_zero_of_dvd h)
    · intro h
      exact Int.dvd_of_emod_eq_zero (by rw [Int.emod_emod_of_dvd _ hpI]; exact Int.emod_eq_zero_of_dvd h)
  have hodd : p = 2 → S % 2 = 0 := fun e => by
    have := par_two (q := q) (os := os) a ha (by rw [hq, e]) (fun o ho => (ok.o o ho).1)
    rw [hev e, tot] at this
    omega
  have cf : Nat.Coprime f q := by
    rw [hq]
    refine (hp.copPow ?_).symm
    intro h
    rw [hf] at h
    split at h
    · exact hp.ne_one h
    · rename_i hc
      have : p = 2 := by
        rcases pr2.2 p h with e | e
        · omega
        · exact e
      have hS2 := hodd this
      rw [this] at hc
      apply hc
      omega
  have cs : Nat.Coprime s q := by
    rw [hq]
    refine (hp.copPow ?_).symm
    intro h
    have h1 := hsp.mp (Int.ofNat_dvd.mpr h)
    rw [hf] at h1
    split at h1
    · rename_i hc
      exact hc (Int.emod_eq_zero_of_dvd h1)
    · rename_i hc
      have hc : (-(S : Int) - 1) % (p : Int) = 0 := Classical.byContradiction fun z => hc z
      have h3 := Int.dvd_sub (Int.dvd_of_emod_eq_zero hc) h1
      have h4 : (-(S : Int) - 1) - (-(S : Int) - ((2 : Nat) : Int)) = 1 := by omega
      rw [h4] at h3
      have := Int.ofNat_dvd.mp (show ((p : Nat) : Int) ∣ ((1 : Nat) : Int) from h3)
      exact hp.ne_one this
  have hsum : q ∣ S + f + s := by
    refine Int.ofNat_dvd.mp (Int.dvd_of_emod_eq_zero ?_)
    have e : ((S + f + s : Nat) : Int) = (S : Int) + (f : Int) + (-(S : Int) - (f : Int)) % (q : Int) := by rw [← hsq]; push_cast; rfl
    rw [e, Int.add_emod, Int.emod_emod_of_dvd _ (Int.dvd_refl _), ← Int.add_emod, show (S : Int) + (f : Int) + (-(S : Int) - (f : Int)) = 0 by omega]
    rfl
  have good := good_of hq0 (fun o ho => (ok.o o ho).1) hg hne cf cs (by rw [← hS]; exact hsum)
  refine ⟨_, cv_det (c_body ?_), good⟩
  show W _ (psG p q os .un .un .un .un .un .un .un .un .un dr) _
  have c1 := mp_eq (vs := [8]) (fi := seqIt (rdV 0)) (tgt := nmT 8) (elt := cnM gcdD (consM (rdV 8) (consM (rdV 2) (M.ret [])))) (ps := psG p q os .un .un .un .un .un .un .un .un .un dr) (ps1 := psG p q os .un .un .un .un .un .un .un .un .un dr) (fun o : Nat => .int (o : Int)) os (by simp [psG, nL]) (by omega) (fun o => .int ((Nat.gcd o q : Nat) : Int)) (fun o ho => ⟨_, psG p q os .un .un .un .un .un (.fr (.int (o : Int))) .un .un .un dr, rfl, by
    have e3 : gcdD [.int (o : Int), .int (q : Int)] = some (.im (.int ((Nat.gcd o q : Nat) : Int))) := rfl
    obtain ⟨G, hG⟩ : ∃ G, G = Nat.gcd o q := ⟨_, rfl⟩
    rw [← hG] at e3 ⊢
    simp [psG, -e_gcd, e3], by simp [psG]⟩)
  have eE : (os.map fun o => PyData.int ((Nat.gcd o q : Nat) : Int)) = nL (ptE q os) := by unfold nL ptE; rw [List.map_map]; rfl
  rw [eE] at c1
  refine w_nx (ps1 := psG p q os (.ow (nL (ptE q os))) .un .un .un .un .un .un .un .un dr) (by rw [e_set, c1]; simp [psG]) ?_
  have c2 := mp_eq (vs := [9]) (fi := seqIt (rdV 3)) (tgt := nmT 9) (elt := opM fdivD (rdV 2) (rdV 9)) (ps := psG p q os (.ow (nL (ptE q os))) .un .un .un .un .un .un .un .un dr) (ps1 := psG p q os (.fr (.list (nL (ptE q os)))) .un .un .un .un .un .un .un .un dr) (fun o : Nat => .int (o : Int)) (ptE q os) (by simp [psG, nL]) (by omega) (fun o => .int ((q / o : Nat) : Int)) (fun x hx => ⟨_, psG p q os (.fr (.list (nL (ptE q os)))) .un .un .un .un .un (.fr (.int (x : Int))) .un .un dr, rfl, by
    obtain ⟨o, ho, rfl⟩ := List.mem_map.mp hx
    have gp : 0 < Nat.gcd o q := Nat.gcd_pos_of_pos_right o hq0
    have gl : Nat.gcd o q ≤ q := Nat.gcd_le_right o hq0
    obtain ⟨G, hG⟩ : ∃ G, G = Nat.gcd o q := ⟨_, rfl⟩
    rw [← hG] at gp gl ⊢
    have fd : fdivD (.int (q : Int)) (.int (G : Int)) = some (.im (.int ((q / G : Nat) : Int))) := by
      rw [fdiv_posI (by omega) (by omega)]
      norm_cast
    obtain ⟨W, hW⟩ : ∃ W, W = q / G := ⟨_, rfl⟩
    rw [← hW] at fd ⊢
    simp [psG, fd], by simp [psG]⟩)
  have eT : ((ptE q os).map fun o => PyData.int ((q / o : Nat) : Int)) = nL (ptT q os) := by unfold nL ptT; rw [List.map_map]; rfl
  rw [eT] at c2
  refine w_nx (ps1 := psG p q os (.fr (.list (nL (ptE q os)))) (.ow (nL (ptT q os))) .un .un .un .un .un .un .un dr) (by rw [e_set, c2]; simp [psG]) ?_
  have c3 := lc_eq (vs := [10, 9]) (fi := enIt (rdV 3)) (tgt := tupT 2 (consTs (nmT 10) (consTs (nmT 9) nilTs))) (tst := tstM (opM eqD (rdV 9) (rdV 2))) (elt := rdV 10) (ps := psG p q os (.fr (.list (nL (ptE q os)))) (.ow (nL (ptT q os))) .un .un .un .un .un .un .un dr) (ps1 := psG p q os (.fr (.list (nL (ptE q os)))) (.ow (nL (ptT q os))) .un .un .un .un .un .un .un dr) (fun z : Nat × Nat => PyData.dict [(.int (z.2 : Nat), .int (z.1 : Int))]) (ptE q os).zipIdx (by simp [psG, enL_O, enO]) (by simp [hEl]; omega) (fun z => decide (z.1 = q)) (fun z => .int (z.2 : Int)) (fun z _ => ⟨psG p q os (.fr (.list (nL (ptE q os)))) (.ow (nL (ptT q os))) .un .un .un .un (.fr (.int (z.1 : Int))) (.fr (.int (z.2 : Nat))) .un dr, psG p q os (.fr (.list (nL (ptE q os)))) (.ow (nL (ptT q os))) .un .un .un .un (.fr (.int (z.1 : Int))) (.fr (.int (z.2 : Nat))) .un dr, by simp [psG], by simp [psG, qe_int]; omega, fun _ => by simp [psG], fun _ => ⟨psG p q os (.fr (.list (nL (ptE q os)))) (.ow (nL (ptT q os))) .un .un .un .un (.fr (.int (z.1 : Int))) (.fr (.int (z.2 : Nat))) .un dr, by simp [psG], by simp [psG]⟩⟩)
  have eG : (((ptE q os).zipIdx.filter fun z => decide (z.1 = q)).map fun z => PyData.int (z.2 : Int)) = nL (greatL q os) := by unfold nL greatL; rw [List.map_map]; rfl
  rw [eG] at c3
  refine w_nx (ps1 := psG p q os (.fr (.list (nL (ptE q os)))) (.ow (nL (ptT q os))) (.ow (nL (greatL q os))) .un .un .un .un .un .un dr) (by rw [e_set, c3]; simp [psG]) ?_
  have tk : MP.cutD (nL (greatL q os)) none (some 2) = nL [g0, g1] := by
    have : MP.cutD (nL (greatL q os)) none (some ((2 : Nat) : Int)) = _ := cut0
    refine Eq.trans this ?_
    rw [hg]
    rfl
  have c4 := lc_eqO (j := 4) (w := enL) (vs := [10, 11]) (tgt := tupT 2 (consTs (nmT 10) (consTs (nmT 11) nilTs))) (tst := tstM (opM ninD (rdV 10) (slM (rdV 5) (M.ret none) (partM (kst (.int 2)))))) (elt := rdV 11) (ps := psG p q os (.fr (.list (nL (ptE q os)))) (.ow (nL (ptT q os))) (.ow (nL (greatL q os))) .un .un .un .un .un .un dr) (ds := nL (ptT q os)) rfl (fun z : Nat × Nat => PyData.dict [(.int (z.2 : Nat), .int (z.1 : Int))]) (ptT q os).zipIdx (by rw [enL_O]; rfl) (by simp [hTl]; omega) (fun z => !decide (z.2 ∈ [g0, g1])) (fun z => .int (z.1 : Int)) (fun z _ => ⟨psG p q os (.fr (.list (nL (ptE q os)))) .un (.ow (nL (greatL q os))) .un .un .un .un (.fr (.int (z.2 : Nat))) (.fr (.int (z.1 : Int))) dr, psG p q os (.fr (.list (nL (ptE q os)))) .un (.ow (nL (greatL q os))) .un .un .un .un (.fr (.int (z.2 : Nat))) (.fr (.int (z.1 : Int))) dr, by simp [psG], by
    have nn := nin_nL (xs := [g0, g1]) (k := z.2)
    simp only [psG]
    simp [tk, nn], fun _ => by simp [psG], fun _ => ⟨psG p q os (.fr (.list (nL (ptE q os)))) .un (.ow (nL (greatL q os))) .un .un .un .un (.fr (.int (z.2 : Nat))) (.fr (.int (z.1 : Int))) dr, by simp [psG], by simp [psG]⟩⟩) rfl
  have eS : (((ptT q os).zipIdx.filter fun z => !decide (z.2 ∈ [g0, g1])).map fun z => PyData.int (z.1 : Int)) = nL (((ptT q os).zipIdx.filter fun z => !decide (z.2 ∈ [g0, g1])).map Prod.fst) := by unfold nL; rw [List.map_map]; rfl
  rw [eS] at c4
  obtain ⟨Z, hZ⟩ : ∃ Z, Z = ((ptT q os).zipIdx.filter fun z => !decide (z.2 ∈ [g0, g1])).map Prod.fst := ⟨_, rfl⟩
  rw [← hZ] at c4 hS
  have eZ : (Z.map fun (k : Nat) => (k : Int)).sum = (S : Int) := by rw [sum_cast, hS]
  refine w_nx (ps1 := psG p q os (.fr (.list (nL (ptE q os)))) (.ow (nL (ptT q os))) (.ow (nL (greatL q os))) (.fr (.int (-(S : Int)))) .un .un .un .un .un dr) (by rw [e_set, e_un, e_un, c4]; simp [psG, ints_nL, eZ]) ?_
  have md : modD (.int (-(S : Int) - 1)) (.int (p : Int)) = some (.im (.int ((-(S : Int) - 1) % (p : Int)))) := mod_posI (by omega)
  refine w_nx (ps1 := psG p q os (.fr (.list (nL (ptE q os)))) (.ow (nL (ptT q os))) (.ow (nL (greatL q os))) (.fr (.int (-(S : Int)))) (.fr (.int (f : Int))) .un .un .un .un dr) ?_ ?_
  · obtain ⟨M, hM⟩ : ∃ M, M = (-(S : Int) - 1) % (p : Int) := ⟨_, rfl⟩
    rw [← hM] at md hf
    by_cases hc : M = 0
    · rw [if_neg (by simp [hc])] at hf
      simp [psG, md, qn_int, hc, hf]
    · rw [if_pos hc] at hf
      simp [psG, md, qn_int, hc, hf]
  have x0 : atI (nL (greatL q os)) 0 = some (.int (g0 : Int)) := by rw [hg]; exact nL_at (i := 0) (v := g0) rfl
  have x1 : atI (nL (greatL q os)) 1 = some (.int (g1 : Int)) := by rw [hg]; exact nL_at (i := 1) (v := g1) rfl
  have i0 : ixN (ptT q os).length (g0 : Int) = some g0 := ixN_nat (by rw [hTl]; exact l0)
  have i1 : ixN (ptT q os).length (g1 : Int) = some g1 := ixN_nat (by rw [hTl]; exact l1)
  refine w_nx (ps1 := psG p q os (.fr (.list (nL (ptE q os)))) (.ow (nL ((ptT q os).set g0 f))) (.ow (nL (greatL q os))) (.fr (.int (-(S : Int)))) (.fr (.int (f : Int))) .un .un .un .un dr) (by simp [psG, x0, i0, nL_set]) ?_
  have md2 : modD (.int (-(S : Int) - (f : Int))) (.int (q : Int)) = some (.im (.int (s : Int))) := by
    rw [hsq]
    exact mod_posI (by omega)
  refine w_nx (ps1 := psG p q os (.fr (.list (nL (ptE q os)))) (.ow (nL (((ptT q os).set g0 f).set g1 s))) (.ow (nL (greatL q os))) (.fr (.int (-(S : Int)))) (.fr (.int (f : Int))) .un .un .un .un dr) (by simp [psG, md2, x1, i1, nL_set]) ?_
  obtain ⟨U, hU⟩ : ∃ U, U = ((ptT q os).set g0 f).set g1 s := ⟨_, rfl⟩
  rw [← hU]
  have hUl : U.length = os.length := by rw [hU]; simp [hTl]
  have c5 := mp_eq (vs := [11]) (fi := seqIt (rdV 4)) (tgt := nmT 11) (elt := opM modD (rdV 11) (rdV 2)) (ps := psG p q os (.fr (.list (nL (ptE q os)))) (.ow (nL U)) (.ow (nL (greatL q os))) (.fr (.int (-(S : Int)))) (.fr (.int (f : Int))) .un .un .un .un dr) (ps1 := psG p q os (.fr (.list (nL (ptE q os)))) (.fr (.list (nL U))) (.ow (nL (greatL q os))) (.fr (.int (-(S : Int)))) (.fr (.int (f : Int))) .un .un .un .un dr) (fun o : Nat => .int (o : Int)) U (by simp [psG, nL]) (by omega) (fun o => .int ((o % q : Nat) : Int)) (fun x hx => ⟨_, psG p q os (.fr (.list (nL (ptE q os)))) (.fr (.list (nL U))) (.ow (nL (greatL q os))) (.fr (.int (-(S : Int)))) (.fr (.int (f : Int))) .un .un .un (.fr (.int (x : Int))) dr, rfl, by
    have mdx : modD (.int (x : Int)) (.int (q : Int)) = some (.im (.int ((x % q : Nat) : Int))) := mod_nat hq0
    obtain ⟨W, hW⟩ : ∃ W, W = x % q := ⟨_, rfl⟩
    rw [← hW] at mdx ⊢
    simp [psG, mdx], by simp [psG]⟩)
  have eU : (U.map fun o => PyData.int ((o % q : Nat) : Int)) = nL (U.map (· % q)) := by unfold nL; rw [List.map_map]; rfl
  rw [eU] at c5
  refine w_det (o := .rt (.nw (nL (U.map (· % q)))) (psG p q os (.fr (.list (nL (ptE q os)))) (.fr (.list (nL U))) (.ow (nL (greatL q os))) (.fr (.int (-(S : Int)))) (.fr (.int (f : Int))) .un .un .un .un dr)) (by rw [e_ret, c5]; simp [psG]) ⟨rfl, rfl⟩
end
end LK

namespace LK
open PySem PySem.Spec PyProof.Rows L2 MP
section
variable {D q a : Nat} {os X R : List Nat} {dr : Dr}
theorem reach (hc : Nat.Coprime D q) (hq : 0 < q) {t : Nat} (ht : t < q) (x : Nat) : ∃ j, (x + D * j) % q = t := by
  have nd : ((List.range q).map fun j => (x + D * j) % q).Nodup := by
    refine List.pairwise_map.mpr (List.Pairwise.imp_of_mem (fun {i j} hi hj hne e => hne ?_) List.nodup_range)
    have hi := List.mem_range.mp hi
    have hj := List.mem_range.mp hj
    have key : ∀ i j : Nat, i < j → j < q → (x + D * i) % q = (x + D * j) % q → False := fun i j hij hjq e => by
      have h1 : q ∣ (x + D * j) - (x + D * i) := Nat.dvd_of_mod_eq_zero (Nat.sub_mod_eq_zero_of_mod_eq e.symm)
      rw [show (x + D * j) - (x + D * i) = D * (j - i) by rw [Nat.mul_sub]; omega] at h1
      have h2 := hc.symm.dvd_of_dvd_mul_left h1
      have := Nat.le_of_dvd (by omega) h2
      omega
    rcases Nat.lt_trichotomy i j with z | z | z
    · exact (key i j z hj e).elim
    · exact z
    · exact (key j i z hi e.symm).elim
  have := pig (m := List.range q) nd (fun y hy => by
    obtain ⟨j, _, rfl⟩ := List.mem_map.mp hy
    exact List.mem_range.mpr (Nat.mod_lt _ hq)) (by simp) (List.mem_range.mpr ht)
  obtain ⟨j, _, e⟩ := List.mem_map.mp this
  exact ⟨j, e⟩
theorem put_ok (hc : Nat.Coprime D q) (hq : 0 < q) (hl : X.length = R.length) (hm : X.length ≤ 1000) (hR : ∀ r ∈ R, r < q) :
    CV fn_put_together [.list (nL X), .int (D : Int), .list (nL R), .int (q : Int)] dr fun r dr' => dr' = dr ∧ ∃ Y, r = .nw (nL Y) ∧ Y.length = X.length ∧ ∀ k, k < X.length → Y.getD k 0 % q = R.getD k 0 ∧ Y.getD k 0 % D = X.getD k 0 % D := by
  have hz : zipL (nL X) (nL R) = (X.zip R).map fun z : Nat × Nat => PyData.dict [(.int (z.1 : Int), .int (z.2 : Int))] := by
    unfold zipL nL
    rw [List.zip_map, List.map_map]
    rfl
  refine c_body ?_
  refine w_nx (by simp [line_of]; rfl) ?_
  refine w_seq (w_for (fun z : Nat × Nat => PyData.dict [(.int (z.1 : Int), .int (z.2 : Int))]) (X.zip R) (ps1 := ⟨[.fr (.list (nL X)), .fr (.int (D : Int)), .fr (.list (nL R)), .fr (.int (q : Int)), .ow (nL []), .un, .un], dr⟩) (by simp [hz, nL_nil]) (fun pre s => ∃ Y u v, s = ⟨[.fr (.list (nL X)), .fr (.int (D : Int)), .fr (.list (nL R)), .fr (.int (q : Int)), .ow (nL Y), u, v], dr⟩ ∧ Y.length = pre.length ∧ ∀ k, k < pre.length → Y.getD k 0 % q = R.getD k 0 ∧ Y.getD k 0 % D = X.getD k 0 % D) ⟨[], _, _, rfl, rfl, fun k hk => by simp at hk⟩ ?_ ?_)
  · rintro pre z post s hx ⟨Y, u, v, rfl, hYl, hY⟩
    have hget : (X.zip R)[pre.length]? = some z := by rw [hx]; simp
    obtain ⟨g1, g2⟩ := List.getElem?_zip_eq_some.mp hget
    have hz2 : z.2 < q := hR _ (List.mem_of_getElem? g2)
    have hpl : pre.length < X.length := by
      rcases Nat.lt_or_ge pre.length X.length with a | a
      · exact a
      · rw [List.getElem?_eq_none a] at g1; cases g1
    obtain ⟨j0, hj0⟩ := reach hc hq hz2 z.1
    refine ⟨⟨[.fr (.list (nL X)), .fr (.int (D : Int)), .fr (.list (nL R)), .fr (.int (q : Int)), .ow (nL Y), .fr (.int (z.1 : Int)), .fr (.int (z.2 : Int))], dr⟩, by simp, ?_⟩
    refine w_seq (w_while j0 (fun m s => ∃ y i : Nat, s = ⟨[.fr (.list (nL X)), .fr (.int (D : Int)), .fr (.list (nL R)), .fr (.int (q : Int)), .ow (nL Y), .fr (.int (y : Int)), .fr (.int (z.2 : Int))], dr⟩ ∧ y = z.1 + D * i ∧ i + m = j0) ⟨z.1, 0, rfl, by simp, by omega⟩ ?_)
    rintro m s ⟨y, i, rfl, hy, hi⟩
    have md : modD (.int (y : Int)) (.int (q : Int)) = some (.im (.int ((y % q : Nat) : Int))) := mod_nat hq
    obtain ⟨r, hr⟩ : ∃ r, r = y % q := ⟨_, rfl⟩
    rw [← hr] at md
    by_cases hc2 : r = z.2
    · refine t_det (k := false) (ps1 := ⟨[.fr (.list (nL X)), .fr (.int (D : Int)), .fr (.list (nL R)), .fr (.int (q : Int)), .ow (nL Y), .fr (.int (y : Int)), .fr (.int (z.2 : Int))], dr⟩) (by simp [md, qn_int, hc2]) ⟨fun _ => ?_, fun z => (by cases z)⟩
      refine w_det (o := .nx ⟨[.fr (.list (nL X)), .fr (.int (D : Int)), .fr (.list (nL R)), .fr (.int (q : Int)), .ow (nL (Y ++ [y])), .fr (.int (y : Int)), .fr (.int (z.2 : Int))], dr⟩) (by simp [sz_of (n := Y.length) (by omega), nL_snoc]) ⟨Y ++ [y], _, _, rfl, by simp [hYl], fun k hk => ?_⟩
      simp only [List.length_append, List.length_singleton] at hk
      by_cases e : k = pre.length
      · subst e
        rw [List.getD_eq_getElem?_getD, List.getD_eq_getElem?_getD, List.getD_eq_getElem?_getD, g1, g2, ← hYl, List.getElem?_append_right (Nat.le_refl _), Nat.sub_self]
        show y % q = z.2 ∧ y % D = z.1 % D
        refine ⟨by rw [← hr, hc2], by rw [hy, Nat.add_mul_mod_self_left]⟩
      · rw [List.getD_eq_getElem?_getD, List.getElem?_append_left (by omega), ← List.getD_eq_getElem?_getD]
        exact hY k (by omega)
    · have hc3 : ¬ (r : Int) = (z.2 : Int) := by omega
      refine t_det (k := true) (ps1 := ⟨[.fr (.list (nL X)), .fr (.int (D : Int)), .fr (.list (nL R)), .fr (.int (q : Int)), .ow (nL Y), .fr (.int (y : Int)), .fr (.int (z.2 : Int))], dr⟩) (by simp [md, qn_int, hc2, hc3]) ⟨fun z => (by cases z), fun _ => ?_⟩
      have hm0 : m ≠ 0 := fun e => hc2 (by rw [hr, hy, show i = j0 by omega, hj0])
      have e1 : (y : Int) + (D : Int) = ((y + D : Nat) : Int) := by push_cast; rfl
      exact w_det (o := .nx ⟨[.fr (.list (nL X)), .fr (.int (D : Int)), .fr (.list (nL R)), .fr (.int (q : Int)), .ow (nL Y), .fr (.int ((y + D : Nat) : Int)), .fr (.int (z.2 : Int))], dr⟩) (by simp) ⟨m - 1, by omega, y + D, i + 1, rfl, by rw [hy, Nat.mul_succ]; omega, by omega⟩
  · rintro s ⟨Y, u, v, rfl, hYl, hY⟩
    have e : (X.zip R).length = X.length := by rw [List.length_zip, hl, Nat.min_self]
    rw [e] at hYl hY
    exact w_det (o := .rt (.nw (nL Y)) ⟨[.fr (.list (nL X)), .fr (.int (D : Int)), .fr (.list (nL R)), .fr (.int (q : Int)), .ow (nL Y), u, v], dr⟩) (by simp) ⟨rfl, Y, rfl, hYl, hY⟩
/-- put together, step by step -/
structure Inv (D : Nat) (os X : List Nat) : Prop where
  len : X.length = os.length
  gcd : ∀ k, k < os.length → Nat.gcd (X.getD k 0) D * Nat.gcd (os.getD k 0) D = D
  sum : D ∣ X.sum
theorem sum_congr : ∀ {A B : List Nat}, A.length = B.length → (∀ k, k < A.length → A.getD k 0 % q = B.getD k 0 % q) → A.sum % q = B.sum % q
  | [], [], _, _ => rfl
  | [], _ :: _, h, _ => by simp at h
  | _ :: _, [], h, _ => by simp at h
  | x :: A, y :: B, h, g => by
    have h0 := g 0 (by simp)
    have ih := sum_congr (A := A) (B := B) (by simpa using h) fun k hk => by
      have := g (k + 1) (by simpa using hk)
      simpa using this
    have h0' : x % q = y % q := h0
    rw [List.sum_cons, List.sum_cons, Nat.add_mod, h0', ih, ← Nat.add_mod]
theorem gcd_of_mod {x y : Nat} (h : x % q = y % q) : Nat.gcd x q = Nat.gcd y q := by rw [← gcd_mod', h, gcd_mod']
theorem Inv.next {Y : List Nat} (i : Inv D os X) (g : Good q os R) (hc : Nat.Coprime D q) (hl : Y.length = X.length) (hY : ∀ k, k < X.length → Y.getD k 0 % q = R.getD k 0 ∧ Y.getD k 0 % D = X.getD k 0 % D) : Inv (D * q) os Y := by
  refine ⟨hl.trans i.len, fun k hk => ?_, ?_⟩
  · have hkX : k < X.length := by rw [i.len]; exact hk
    obtain ⟨h1, h2⟩ := hY k hkX
    have hr : R.getD k 0 < q := by
      have hkR : k < R.length := by rw [g.len]; exact hk
      rw [List.getD_eq_getElem?_getD, List.getElem?_eq_getElem hkR]
      exact g.lt _ (List.getElem_mem hkR)
    have e1 : Nat.gcd (Y.getD k 0) q = Nat.gcd (R.getD k 0) q := gcd_of_mod (by rw [h1, Nat.mod_eq_of_lt hr])
    have e2 : Nat.gcd (Y.getD k 0) D = Nat.gcd (X.getD k 0) D := gcd_of_mod h2
    rw [hc.gcd_mul, hc.gcd_mul, e1, e2, Nat.mul_mul_mul_comm, i.gcd k hk, g.gcd k hk]
  · refine hc.mul_dvd_of_dvd_of_dvd ?_ ?_
    · refine Nat.dvd_of_mod_eq_zero ?_
      rw [sum_congr hl (fun k hk => (hY k (by omega)).2)]
      exact Nat.mod_eq_zero_of_dvd i.sum
    · refine Nat.dvd_of_mod_eq_zero ?_
      rw [sum_congr (B := R) (hl.trans (i.len.trans g.len.symm)) (fun k hk => ?_)]
      · exact Nat.mod_eq_zero_of_dvd g.sum
      · obtain ⟨h1, _⟩ := hY k (by omega)
        have hkR : k < R.length := by rw [g.len, ← i.len]; omega
        have hr : R.getD k 0 < q := by
          rw [List.getD_eq_getElem?_getD, List.getElem?_eq_getElem hkR]
          exact g.lt _ (List.getElem_mem hkR)
        rw [h1, Nat.mod_eq_of_lt hr]
theorem Inv.start (ho : ∀ o ∈ os, 0 < o) : Inv 1 os (List.replicate os.length 0) := ⟨by simp, fun k _ => by rw [Nat.gcd_one_right, Nat.gcd_one_right], Nat.one_dvd _⟩
end
end LK

namespace LK
open PySem PySem.Spec PyProof.Rows L2 MP
section
variable {e h n : Nat} {os : List Nat} {dr : Dr}
structure NoBrk (e h n : Nat) (os : List Nat) : Prop where
  div : ∀ o ∈ os, o ∣ n
  com : ∀ k, k < os.length → lcmL (os.eraseIdx k) = lcmL os
  whole : h = 0 → lcmL os = n
  twos : 2 ∣ lcmL os → manyOf e os % 2 = 0
theorem nobrk (hb : brk e h n os = []) : NoBrk e h n os := by
  unfold brk at hb
  obtain ⟨h1, h4⟩ := List.append_eq_nil_iff.mp hb
  obtain ⟨h1, h3⟩ := List.append_eq_nil_iff.mp h1
  obtain ⟨h1, h2⟩ := List.append_eq_nil_iff.mp h1
  have h1 := List.map_eq_nil_iff.mp h1
  have h2 := List.map_eq_nil_iff.mp h2
  refine ⟨fun o ho => ?_, fun k hk => ?_, fun h0 => ?_, fun h2 => ?_⟩
  · obtain ⟨k, hk, ek⟩ := List.getElem_of_mem ho
    have := List.filter_eq_nil_iff.mp h1 k (List.mem_range.mpr hk)
    simp only [Bool.not_eq_true', decide_eq_false_iff_not, Classical.not_not] at this
    rw [List.getD_eq_getElem?_getD, List.getElem?_eq_getElem hk, ek] at this
    exact Nat.dvd_of_mod_eq_zero this
  · have := List.filter_eq_nil_iff.mp h2 k (List.mem_range.mpr hk)
    simp only [Bool.not_eq_true', decide_eq_false_iff_not, Classical.not_not] at this
    exact this
  · unfold brkW at h3
    refine Classical.byContradiction fun z => ?_
    rw [if_pos ⟨h0, z⟩] at h3
    cases h3
  · unfold brkT at h4
    refine Classical.byContradiction fun z => ?_
    rw [if_pos ⟨Nat.mod_eq_zero_of_dvd h2, by omega⟩] at h4
    cases h4
theorem NoBrk.lcm (b : NoBrk e h n os) : lcmL os ∣ n := lcm_of (Nat.one_dvd _) b.div
def psK (h n : Nat) (os X : List Nat) (d : Nat) (s5 s7 s8 s9 s10 : Sl) (dr : Dr) : PS := ⟨[.fr (dtm h n os), .fr (.int (h : Int)), .fr (.int (n : Int)), .fr (.tuple (nL os)), .fr .none, s5, .fr (.int (d : Int)), s7, s8, s9, s10], dr⟩
def freeL (h n : Nat) : List Nat := if h = 0 then [] else (1 % n) :: List.replicate (2 * h - 1) 0
theorem rep_nL {k : Nat} : (List.replicate k [PyData.int 0]).flatten = nL (List.replicate k 0) := by
  unfold nL
  rw [List.map_replicate]
  exact List.flatten_replicate_singleton
theorem make_ok (ok : OkO os) (h0 : 0 < n) (hn : n ≤ 100000) (hh : h ≤ 100) (ht : Two e (lcmL os)) (hb : brk e h n os = []) :
    CV fn_make_cyclic [dtm h n os] dr fun r dr' => dr' = dr ∧ ∃ X, r = .im (.tuple [.str ("made" : Str), .tuple (nL (freeL h n)), .tuple (nL (X.map fun x => x * (n / lcmL os) % n))]) ∧ Inv (lcmL os) os X := by
  have hl := ok.len
  have b := nobrk hb
  have op : ∀ o ∈ os, 0 < o := fun o ho => (ok.o o ho).1
  have bk := broken_ok (dr := dr) (h := h) ok ht (show n ≤ 1000000 by omega)
  rw [hb] at bk
  have hLn := Nat.le_of_dvd h0 b.lcm
  have hL0 : 0 < lcmL os := lcm_pos Nat.one_pos op
  obtain ⟨_, d1, ep, hd1, l, rfl, pp, hpl⟩ := prime_powers_ok (dr := dr) hL0 (show lcmL os ≤ 1000000 by omega)
  rw [hd1] at ep
  have ml := multiple_ok (dr := dr) (d := .tuple (nL os)) (.inl rfl) ok.o
  refine c_body ?_
  refine w_nx (ps1 := ⟨[.fr (dtm h n os), .fr (.int (h : Int)), .fr (.int (n : Int)), .fr (.tuple (nL os)), .un, .un, .un, .un, .un, .un, .un], dr⟩) (by simp [dtm]) ?_
  refine w_nx (ps1 := ⟨[.fr (dtm h n os), .fr (.int (h : Int)), .fr (.int (n : Int)), .fr (.tuple (nL os)), .fr .none, .un, .un, .un, .un, .un, .un], dr⟩) (by simp [bk]) ?_
  refine w_nx (by simp; rfl) ?_
  have zr : mulD (.list [.int 0]) (.int (os.length : Int)) = some (.nw (nL (List.replicate os.length 0))) := by
    rw [mul_rep (by omega) (by simp; omega), rep_nL]
  refine w_nx (by simp [zr, line_of]; rfl) ?_
  refine w_nx (ps1 := psK h n os [] 1 (.ow (nL (List.replicate os.length 0))) .un .un .un .un dr) (by simp [psK]) ?_
  have hl2 : ∀ z ∈ l, z.2 ∣ lcmL os := fun z hz => by obtain ⟨_, _, m, hm, _⟩ := pp.pr z hz; exact ⟨m, hm⟩
  refine w_seq (w_for p2 l (ps1 := psK h n os [] 1 (.ow (nL (List.replicate os.length 0))) .un .un .un .un dr) (by simp [psK, ml, ep]) (fun pre q => ∃ X s7 s8 s5, q = psK h n os [] (prodQ pre) s5 s7 s8 .un .un dr ∧ (s5 = .ow (nL X)) ∧ Inv (prodQ pre) os X) ⟨_, _, _, _, rfl, rfl, Inv.start op⟩ ?_ ?_)
  · rintro pre z post q hx ⟨X, s7, s8, _, rfl, rfl, inv⟩
    have hz : z ∈ l := by rw [hx]; simp
    obtain ⟨hp, ⟨a, ha, hq⟩, m, hm, hmn⟩ := pp.pr z hz
    have hc := pp.cop pre z post hx
    have hqd := hl2 z hz
    have hqL : z.2 ≤ lcmL os := Nat.le_of_dvd hL0 hqd
    have hq0 : 0 < z.2 := Nat.pos_of_dvd_of_pos hqd hL0
    have tg := two_great (os := os) hp ha op (by rw [← hq]; exact hqd) b.com
    rw [← hq] at tg
    have hev : z.1 = 2 → (os.filter fun o => decide (o % z.2 = 0)).length % 2 = 0 := fun e2 => by
      have hq2 : z.2 = 2 ^ a := by rw [hq, e2]
      have hae : a = e := by
        rw [e2] at hmn
        rcases Nat.lt_trichotomy a e with y | y | y
        · exfalso
          have h1 := Nat.dvd_trans (Nat.pow_dvd_pow 2 (show a + 1 ≤ e from y)) ht.1
          rw [hm, hq2, Nat.pow_succ] at h1
          exact hmn (Nat.dvd_of_mul_dvd_mul_left (Nat.pow_pos (by decide)) h1)
        · exact y
        · exfalso
          exact ht.2 (Nat.dvd_trans (Nat.pow_dvd_pow 2 (show e + 1 ≤ a from y)) (by rw [← hq2]; exact hqd))
      have := b.twos (Nat.dvd_trans (by rw [hq2]; exact ⟨2 ^ (a - 1), by rw [Nat.mul_comm, ← Nat.pow_succ]; congr 1; omega⟩) hqd)
      unfold manyOf at this
      rw [← hae, ← hq2] at this
      exact this
    obtain ⟨R, eR, gR⟩ := part_steps_ok (dr := dr) ok hp ha hq (by omega) tg hev
    obtain ⟨_, d2, eY, hd2, Y, rfl, hYl, hY⟩ := put_ok (dr := dr) (D := prodQ pre) (q := z.2) (X := X) (R := R) hc hq0 (inv.len.trans gR.len.symm) (by rw [inv.len]; omega) gR.lt
    rw [hd2] at eY
    have inv2 := inv.next gR hc hYl hY
    have e4 : prodQ (pre ++ [z]) = prodQ pre * z.2 := prodQ_snoc
    obtain ⟨D, hD⟩ : ∃ D, D = prodQ pre := ⟨_, rfl⟩
    rw [← hD] at eY inv2 e4 ⊢
    have mm : mulD (.int (D : Int)) (.int (z.2 : Int)) = some (.im (.int ((D * z.2 : Nat) : Int))) := by
      have h := mul_int (i := (D : Int)) (j := (z.2 : Int)) (.inr (by omega))
      rw [h]
      norm_cast
    obtain ⟨D2, hD2⟩ : ∃ D2, D2 = D * z.2 := ⟨_, rfl⟩
    rw [← hD2] at mm inv2 e4
    rw [e4]
    refine ⟨psK h n os [] D (.ow (nL X)) (.fr (.int (z.1 : Int))) (.fr (.int (z.2 : Int))) .un .un dr, by simp [psK, p2], ?_⟩
    refine w_nx (ps1 := psK h n os [] D (.ow (nL Y)) (.fr (.int (z.1 : Int))) (.fr (.int (z.2 : Int))) .un .un dr) (by simp [psK, eR, eY]) ?_
    exact w_det (o := .nx (psK h n os [] D2 (.ow (nL Y)) (.fr (.int (z.1 : Int))) (.fr (.int (z.2 : Int))) .un .un dr)) (by simp [psK, mm]) ⟨Y, _, _, _, rfl, rfl, inv2⟩
  · rintro q ⟨X, s7, s8, _, rfl, rfl, inv⟩
    rw [hpl] at inv ⊢
    obtain ⟨L, hL⟩ : ∃ L, L = lcmL os := ⟨_, rfl⟩
    rw [← hL] at inv hLn hL0 ⊢
    have md1 : modD (.int 1) (.int (n : Int)) = some (.im (.int ((1 % n : Nat) : Int))) := mod_nat (a := 1) h0
    have mh : mulD (.int 2) (.int (h : Int)) = some (.im (.int (2 * (h : Int)))) := mul_int (.inl (by decide))
    refine w_nx (ps1 := psK h n os [] L (.ow (nL X)) s7 s8 (.fr (.tuple (nL (freeL h n)))) .un dr) ?_ ?_
    · unfold freeL
      by_cases hz : h = 0
      · rw [if_pos hz]
        simp [psK, hz, line_of, nL_nil]
      · rw [if_neg hz]
        obtain ⟨w, hw⟩ : ∃ w, w = 1 % n := ⟨_, rfl⟩
        rw [← hw] at md1 ⊢
        have hz' : (0 : Int) < (h : Int) := by omega
        have hz'' : 0 < h := by omega
        obtain ⟨k, hk⟩ : ∃ k, k = 2 * h - 1 := ⟨_, rfl⟩
        have hkI : 2 * (h : Int) - 1 = (k : Int) := by omega
        rw [← hk]
        have mt : mulTD (.tuple [.int 0]) (.int (k : Int)) = some (.im (.tuple (nL (List.replicate k 0)))) := by
          by_cases h1 : k = 1
          · subst h1
            rfl
          · have e1 : mulTD (.tuple [.int 0]) (.int (k : Int)) = if (k : Int) = 1 then some (.im (.tuple [.int 0])) else if decide (2 ≤ (k : Int)) && decide ((k : Int) ≤ 1000) && decide (1 ≤ 1000) && !([PyData.int 0].isEmpty) then some (.im (.tuple (List.replicate (k : Int).toNat [PyData.int 0]).flatten)) else none := rfl
            rw [e1, if_neg (by omega), if_pos (by simp; omega), Int.toNat_natCast, rep_nL]
        have ln : MP.line (1 + (nL (List.replicate k 0)).length) = true := line_of (by rw [nL_len]; simp; omega)
        simp [-e_mulT, -nL_len, psK, hz', hz'', line_of, md1, mh, hkI, mt, ln]
        rfl
    obtain ⟨c, hc⟩ : ∃ c, c = n / L := ⟨_, rfl⟩
    have hcn : c ≤ n := by rw [hc]; exact Nat.div_le_self _ _
    have fd : fdivD (.int (n : Int)) (.int (L : Int)) = some (.im (.int (c : Int))) := by
      rw [fdiv_posI (by omega) (by omega), hc]
      norm_cast
    rw [← hc]
    have c5 := mp_eq (vs := [10]) (fi := seqIt (rdV 5)) (tgt := nmT 10) (elt := opM modD (opM mulD (rdV 10) (opM fdivD (rdV 2) (rdV 6))) (rdV 2)) (ps := psK h n os [] L (.ow (nL X)) s7 s8 (.fr (.tuple (nL (freeL h n)))) .un dr) (ps1 := psK h n os [] L (.fr (.list (nL X))) s7 s8 (.fr (.tuple (nL (freeL h n)))) .un dr) (fun o : Nat => .int (o : Int)) X (by simp [psK, nL]) (by rw [inv.len]; omega) (fun x => .int ((x * c % n : Nat) : Int)) (fun x hx => ⟨_, psK h n os [] L (.fr (.list (nL X))) s7 s8 (.fr (.tuple (nL (freeL h n)))) (.fr (.int (x : Int))) dr, rfl, by
      have mx : mulD (.int (x : Int)) (.int (c : Int)) = some (.im (.int ((x * c : Nat) : Int))) := by
        have h := mul_int (i := (x : Int)) (j := (c : Int)) (.inr (by omega))
        rw [h]
        norm_cast
      obtain ⟨y, hy⟩ : ∃ y, y = x * c := ⟨_, rfl⟩
      rw [← hy] at mx ⊢
      have my : modD (.int (y : Int)) (.int (n : Int)) = some (.im (.int ((y % n : Nat) : Int))) := mod_nat h0
      obtain ⟨w, hw⟩ : ∃ w, w = y % n := ⟨_, rfl⟩
      rw [← hw] at my ⊢
      simp [psK, fd, mx, my], by simp [psK]⟩)
    have eU : (X.map fun x => PyData.int ((x * c % n : Nat) : Int)) = nL (X.map fun x => x * c % n) := by unfold nL; rw [List.map_map]; rfl
    rw [eU] at c5
    obtain ⟨U, hU⟩ : ∃ U, U = X.map fun x => x * c % n := ⟨_, rfl⟩
    rw [← hU] at c5
    refine w_det (o := .rt (.im (.tuple [.str ("made" : Str), .tuple (nL (freeL h n)), .tuple (nL U)])) (psK h n os [] L (.fr (.list (nL X))) s7 s8 (.fr (.tuple (nL (freeL h n)))) .un dr)) ?_ ⟨rfl, X, by rw [hU], inv⟩
    simp only [psK] at c5 ⊢
    simp [-e_lc, c5, line_of]
end
end LK

namespace LK
open PySem PySem.Spec PyProof.Rows L2 MP
section
variable {e h n : Nat} {os X : List Nat} {dr : Dr}
theorem fold_gcd : ∀ {l : List Nat} {s : Nat}, l.foldl Nat.gcd s ∣ s ∧ ∀ x ∈ l, l.foldl Nat.gcd s ∣ x
  | [], s => ⟨Nat.dvd_refl s, fun x hx => by cases hx⟩
  | y :: l, s => by
    obtain ⟨h1, h2⟩ := fold_gcd (l := l) (s := Nat.gcd s y)
    refine ⟨Nat.dvd_trans h1 (Nat.gcd_dvd_left _ _), fun x hx => ?_⟩
    rcases List.mem_cons.mp hx with rfl | hx
    · exact Nat.dvd_trans h1 (Nat.gcd_dvd_right _ _)
    · exact h2 x hx
theorem sum_mul {c : Nat} : ∀ {l : List Nat}, (l.map fun x => x * c).sum = l.sum * c
  | [] => by simp
  | x :: l => by rw [List.map_cons, List.sum_cons, List.sum_cons, sum_mul, Nat.add_mul]
def stepsL (n L : Nat) (X : List Nat) : List Nat := X.map fun x => x * (n / L) % n
theorem freeL_len : (freeL h n).length = 2 * h := by
  unfold freeL
  split
  · rename_i hz
    rw [hz]
    rfl
  · simp
    omega
theorem stepsL_len {L : Nat} : (stepsL n L X).length = X.length := by unfold stepsL; simp
theorem freeL_lt (h0 : 0 < n) : ∀ x ∈ freeL h n, x < n := by
  unfold freeL
  split
  · intro x hx; cases hx
  · intro x hx
    rcases List.mem_cons.mp hx with rfl | hx
    · exact Nat.mod_lt _ h0
    · rw [List.eq_of_mem_replicate hx]; exact h0
theorem stepsL_lt {L : Nat} (h0 : 0 < n) : ∀ x ∈ stepsL n L X, x < n := by
  intro x hx
  obtain ⟨y, _, rfl⟩ := List.mem_map.mp hx
  exact Nat.mod_lt _ h0
theorem steps_order (b : NoBrk e h n os) (op : ∀ o ∈ os, 0 < o) (h0 : 0 < n) (i : Inv (lcmL os) os X) {k : Nat} (hk : k < os.length) : n / Nat.gcd n ((stepsL n (lcmL os) X).getD k 0) = os.getD k 0 := by
  have hkX : k < X.length := by rw [i.len]; exact hk
  have e1 : (stepsL n (lcmL os) X).getD k 0 = X.getD k 0 * (n / lcmL os) % n := by
    unfold stepsL
    rw [List.getD_eq_getElem?_getD, List.getElem?_map, List.getD_eq_getElem?_getD, List.getElem?_eq_getElem hkX]
    rfl
  have hg := i.gcd k hk
  obtain ⟨c, hc⟩ := b.lcm
  have hL0 : 0 < lcmL os := lcm_pos Nat.one_pos op
  have hm : os.getD k 0 ∈ os := by
    rw [List.getD_eq_getElem?_getD, List.getElem?_eq_getElem hk]
    exact List.getElem_mem hk
  have hdv : os.getD k 0 ∣ lcmL os := lcm_mem (os := os) (s := 1) _ hm
  rw [Nat.gcd_eq_left hdv] at hg
  have hc0 : 0 < c := Nat.pos_of_ne_zero fun z => by rw [z] at hc; omega
  have hnc : n / lcmL os = c := by rw [hc, Nat.mul_div_cancel_left _ hL0]
  rw [e1, hnc, Nat.gcd_comm, gcd_mod']
  obtain ⟨L, hL⟩ : ∃ L, L = lcmL os := ⟨_, rfl⟩
  rw [← hL] at hc hg hL0
  have hgp : 0 < Nat.gcd (X.getD k 0) L := Nat.gcd_pos_of_pos_right _ hL0
  rw [hc, Nat.gcd_mul_right, Nat.mul_div_mul_right _ _ hc0]
  calc L / Nat.gcd (X.getD k 0) L = Nat.gcd (X.getD k 0) L * os.getD k 0 / Nat.gcd (X.getD k 0) L := by rw [hg]
    _ = os.getD k 0 := Nat.mul_div_cancel_left _ hgp
theorem steps_sum (b : NoBrk e h n os) (op : ∀ o ∈ os, 0 < o) (i : Inv (lcmL os) os X) : n ∣ (stepsL n (lcmL os) X).sum := by
  have e1 : stepsL n (lcmL os) X = (X.map fun x => x * (n / lcmL os)).map (· % n) := by unfold stepsL; rw [List.map_map]; rfl
  rw [e1]
  refine sum_mod ?_
  rw [sum_mul]
  have := Nat.mul_dvd_mul_right i.sum (n / lcmL os)
  rwa [Nat.mul_div_cancel' b.lcm] at this
theorem steps_gcd (b : NoBrk e h n os) (op : ∀ o ∈ os, 0 < o) (h0 : 0 < n) (i : Inv (lcmL os) os X) : (freeL h n ++ stepsL n (lcmL os) X).foldl Nat.gcd n = 1 := by
  obtain ⟨h1, h2⟩ := fold_gcd (l := freeL h n ++ stepsL n (lcmL os) X) (s := n)
  obtain ⟨G, hG⟩ : ∃ G, G = (freeL h n ++ stepsL n (lcmL os) X).foldl Nat.gcd n := ⟨_, rfl⟩
  rw [← hG] at h1 h2 ⊢
  have hL0 : 0 < lcmL os := lcm_pos Nat.one_pos op
  by_cases hz : h = 0
  · have hL := b.whole hz
    have hGp : 0 < G := Nat.pos_of_dvd_of_pos h1 h0
    obtain ⟨L', hL'⟩ := h1
    have hdiv : lcmL os ∣ L' := lcm_of (Nat.one_dvd _) fun o ho => by
      obtain ⟨k, hk, ek⟩ := List.getElem_of_mem ho
      have hkX : k < X.length := by rw [i.len]; exact hk
      have hg := i.gcd k hk
      have eo : os.getD k 0 = o := by rw [List.getD_eq_getElem?_getD, List.getElem?_eq_getElem hk, ek]; rfl
      have hdv : o ∣ lcmL os := lcm_mem (os := os) (s := 1) o ho
      rw [eo, Nat.gcd_eq_left hdv] at hg
      have hs := h2 (X.getD k 0 * (n / lcmL os) % n) (List.mem_append_right _ (List.mem_map.mpr ⟨X.getD k 0, by rw [List.getD_eq_getElem?_getD, List.getElem?_eq_getElem hkX]; exact List.getElem_mem hkX, rfl⟩))
      rw [hL, Nat.div_self h0, Nat.mul_one] at hs
      have hGn : G ∣ n := ⟨L', hL'⟩
      have hx : G ∣ X.getD k 0 := (Nat.dvd_mod_iff hGn).mp hs
      have h3 : G ∣ Nat.gcd (X.getD k 0) (lcmL os) := Nat.dvd_gcd hx (by rw [hL]; exact hGn)
      have h4 := Nat.mul_dvd_mul_right h3 o
      rw [hg, hL, hL'] at h4
      exact Nat.dvd_of_mul_dvd_mul_left hGp h4
    rw [hL] at hdiv
    have hL'0 : 0 < L' := Nat.pos_of_ne_zero fun z => by rw [z] at hL'; omega
    have h5 := Nat.le_of_dvd hL'0 hdiv
    rw [hL'] at h5
    have h6 : G * L' ≤ 1 * L' := by omega
    have := Nat.le_of_mul_le_mul_right h6 hL'0
    omega
  · have h3 := h2 (1 % n) (List.mem_append_left _ (by unfold freeL; rw [if_neg hz]; exact List.mem_cons_self ..))
    by_cases hn1 : n = 1
    · rw [hn1] at h1
      exact Nat.eq_one_of_dvd_one h1
    · rw [Nat.mod_eq_of_lt (by omega)] at h3
      exact Nat.eq_one_of_dvd_one h3
def psV (h n : Nat) (os fr st : List Nat) (s6 s7 s8 : Sl) (dr : Dr) : PS := ⟨[.fr (dtm h n os), .fr (.tuple (nL fr)), .fr (.tuple (nL st)), .fr (.int (h : Int)), .fr (.int (n : Int)), .fr (.tuple (nL os)), s6, s7, s8], dr⟩
theorem fits_ok {fr st : List Nat} (ok : OkO os) (h0 : 0 < n) (hn : n ≤ 100000) (hh : h ≤ 100) (f1 : fr.length = 2 * h) (f2 : st.length = os.length) (f3 : ∀ x ∈ fr ++ st, x < n) (f4 : ∀ k, k < os.length → n / Nat.gcd n (st.getD k 0) = os.getD k 0)
    (f5 : (fr ++ st).foldl Nat.gcd n = 1) (f6 : n ∣ st.sum) : fn_law_fits [dtm h n os, .tuple (nL fr), .tuple (nL st)] dr = some (.im (.bool true), dr) := by
  have hl := ok.len
  refine cv_det (c_body ?_)
  refine w_nx (ps1 := psV h n os fr st .un .un .un dr) (by simp [psV, dtm]) ?_
  have ml : mulD (.int 2) (.int (h : Int)) = some (.im (.int (2 * (h : Int)))) := mul_int (.inl (by decide))
  have f1' : (fr.length : Int) = 2 * (h : Int) := by omega
  refine w_nx (ps1 := psV h n os fr st .un .un .un dr) (by simp [psV, ml, qn_int, f1', f2]) ?_
  have ln : MP.line ((nL fr).length + (nL st).length) = true := line_of (by rw [nL_len, nL_len]; omega)
  have ap : nL fr ++ nL st = nL (fr ++ st) := nL_app.symm
  have c1 := lc_eq (vs := [6]) (fi := seqIt (opM addD (rdV 1) (rdV 2))) (tgt := nmT 6) (tst := orM (tstM (opM ltD (rdV 6) (kst (.int 0)))) (tstM (opM geD (rdV 6) (rdV 4)))) (elt := rdV 6) (ps := psV h n os fr st .un .un .un dr) (ps1 := psV h n os fr st .un .un .un dr) (fun o : Nat => .int (o : Int)) (fr ++ st) (by simp [-nL_len, psV, ln, ap]; simp [nL]) (by rw [List.length_append]; omega) (fun _ => false) (fun o => .int (o : Int)) (fun x hx => ⟨_, psV h n os fr st (.fr (.int (x : Int))) .un .un dr, rfl, by
    have hx' := f3 x hx
    have a1 : ¬ (x : Int) < 0 := by omega
    have a2 : ¬ (n : Int) ≤ (x : Int) := by omega
    have a3 : ¬ n ≤ x := by omega
    simp [psV, a1, a2, a3], fun _ => by simp [psV], fun z => by cases z⟩)
  simp only [List.filter_eq_nil_iff.mpr (fun (x : Nat) _ => Bool.false_ne_true), List.map_nil] at c1
  refine w_nx (ps1 := psV h n os fr st .un .un .un dr) (by simp only [psV] at c1 ⊢; simp [-e_lc, c1]) ?_
  have hbs := b62_nat (n := st.length) (by omega)
  have c2 := lc_eq (vs := [8]) (fi := rng1 (consM (unM lenD (rdV 2)) (M.ret []))) (tgt := nmT 8) (tst := tstM (opM neD (callM fn_law_order (consM (opM ixD (rdV 2) (rdV 8)) (consM (rdV 4) (M.ret [])))) (opM ixD (rdV 5) (rdV 8)))) (elt := rdV 8) (ps := psV h n os fr st .un .un .un dr) (ps1 := psV h n os fr st .un .un .un dr) (fun o : Nat => .int (o : Int)) (List.range st.length) (by simp [psV, hbs, rgD_nat]; rfl) (by simp; omega) (fun _ => false) (fun o => .int (o : Int)) (fun k hk => ⟨_, psV h n os fr st .un .un (.fr (.int (k : Int))) dr, rfl, by
    have hk := List.mem_range.mp hk
    have hko : k < os.length := by omega
    have g1 : atI (nL st) (k : Int) = some (.int ((st.getD k 0 : Nat) : Int)) := nL_at (by rw [List.getD_eq_getElem?_getD, List.getElem?_eq_getElem hk]; rfl)
    have g2 : atI (nL os) (k : Int) = some (.int ((os.getD k 0 : Nat) : Int)) := nL_at (ok.get hko).1
    have g3 := law_order_ok (n := n) (s := st.getD k 0) (dr := dr) h0 (by omega)
    rw [f4 k hko] at g3
    obtain ⟨u, hu⟩ : ∃ u, u = st.getD k 0 := ⟨_, rfl⟩
    obtain ⟨v, hv⟩ : ∃ v, v = os.getD k 0 := ⟨_, rfl⟩
    rw [← hu] at g1 g3
    rw [← hv] at g2 g3
    simp [psV, g1, g2, g3, qn_int], fun _ => by simp [psV], fun z => by cases z⟩)
  simp only [List.filter_eq_nil_iff.mpr (fun (x : Nat) _ => Bool.false_ne_true), List.map_nil] at c2
  refine w_nx (ps1 := psV h n os fr st .un .un .un dr) (by simp only [psV] at c2 ⊢; simp [-e_lc, c2]) ?_
  refine w_nx (ps1 := psV h n os fr st .un (.fr (.int (n : Int))) .un dr) (by simp [psV]) ?_
  refine w_seq (w_for (fun k : Nat => .int (k : Int)) (fr ++ st) (ps1 := psV h n os fr st .un (.fr (.int (n : Int))) .un dr) (by simp [-nL_len, psV, ln, ap]; simp [nL]) (fun pre q => ∃ z, q = psV h n os fr st z (.fr (.int ((pre.foldl Nat.gcd n : Nat) : Int))) .un dr) ⟨_, rfl⟩ ?_ ?_)
  · rintro pre x post q hx ⟨z, rfl⟩
    have g := law_gcd_ok (a := pre.foldl Nat.gcd n) (b := x) (dr := dr)
    have e4 : (pre ++ [x]).foldl Nat.gcd n = Nat.gcd (pre.foldl Nat.gcd n) x := by rw [List.foldl_append]; rfl
    rw [← e4] at g
    obtain ⟨u, hu⟩ : ∃ u, u = pre.foldl Nat.gcd n := ⟨_, rfl⟩
    obtain ⟨v, hv⟩ : ∃ v, v = (pre ++ [x]).foldl Nat.gcd n := ⟨_, rfl⟩
    rw [← hu, ← hv] at g
    refine ⟨psV h n os fr st (.fr (.int (x : Int))) (.fr (.int ((pre.foldl Nat.gcd n : Nat) : Int))) .un dr, rfl, ?_⟩
    rw [← hu]
    refine w_det (o := .nx (psV h n os fr st (.fr (.int (x : Int))) (.fr (.int (v : Int))) .un dr)) (by simp [psV, g]) ⟨_, by rw [hv]⟩
  · rintro q ⟨z, rfl⟩
    rw [f5]
    have hs : (st.map fun (k : Nat) => (k : Int)).sum = ((st.sum : Nat) : Int) := sum_cast
    have md : modD (.int ((st.sum : Nat) : Int)) (.int (n : Int)) = some (.im (.int ((st.sum % n : Nat) : Int))) := mod_nat h0
    rw [Nat.mod_eq_zero_of_dvd f6] at md
    obtain ⟨S, hS⟩ : ∃ S, S = st.sum := ⟨_, rfl⟩
    rw [← hS] at hs md
    exact w_det (o := .rt (.im (.bool true)) (psV h n os fr st z (.fr (.int ((1 : Nat) : Int))) .un dr)) (by simp [psV, ints_nL, hs, md, qe_int]) ⟨rfl, rfl⟩
end
end LK

namespace LK
open PySem PySem.Spec PyProof.Rows L2 MP
section
variable {n s o M L e h c : Nat} {ps : List (Nat × Nat)}
/-- how often a step must be taken -/
theorem ord_iff (h0 : 0 < n) : n ∣ s * M ↔ n / Nat.gcd n s ∣ M := by
  have hg : 0 < Nat.gcd n s := Nat.gcd_pos_of_pos_left _ h0
  have cp : Nat.Coprime (n / Nat.gcd n s) (s / Nat.gcd n s) := Nat.coprime_div_gcd_div_gcd hg
  obtain ⟨g, hge⟩ : ∃ g, g = Nat.gcd n s := ⟨_, rfl⟩
  have d1 : g ∣ n := by rw [hge]; exact Nat.gcd_dvd_left _ _
  have d2 : g ∣ s := by rw [hge]; exact Nat.gcd_dvd_right _ _
  rw [← hge] at cp hg ⊢
  obtain ⟨a, rfl⟩ := d1
  obtain ⟨b, rfl⟩ := d2
  rw [Nat.mul_div_cancel_left _ hg] at cp ⊢
  rw [Nat.mul_div_cancel_left _ hg] at cp
  rw [Nat.mul_assoc]
  constructor
  · intro h
    exact cp.dvd_of_dvd_mul_left (Nat.dvd_of_mul_dvd_mul_left hg h)
  · intro h
    exact Nat.mul_dvd_mul_left g (Nat.dvd_trans h (Nat.dvd_mul_left _ _))
def Ord (n : Nat) (ps : List (Nat × Nat)) : Prop := ∀ z ∈ ps, z.1 < n ∧ n / Nat.gcd n z.1 = z.2
def stp (ps : List (Nat × Nat)) : List Nat := ps.map Prod.fst
def orders (ps : List (Nat × Nat)) : List Nat := ps.map Prod.snd
theorem all_dvd {l : List Nat} (h : ∀ x ∈ l, n ∣ x * M) : n ∣ l.sum * M := by
  induction l with
  | nil => simp
  | cons x l ih =>
    rw [List.sum_cons, Nat.add_mul]
    exact Nat.dvd_add (h x (List.mem_cons_self ..)) (ih fun y hy => h y (List.mem_cons_of_mem _ hy))
theorem sum_erase : ∀ {l : List Nat} {k : Nat}, k < l.length → l.sum = l.getD k 0 + (l.eraseIdx k).sum
  | [], _, h => by simp at h
  | x :: l, 0, _ => rfl
  | x :: l, k + 1, h => by
    have := sum_erase (l := l) (k := k) (by simpa using h)
    show x + l.sum = l.getD k 0 + (x + (l.eraseIdx k).sum)
    omega
theorem gcd_dvd_all : ∀ {l : List Nat} {c : Nat}, n ∣ c * M → (∀ x ∈ l, n ∣ x * M) → n ∣ l.foldl Nat.gcd c * M
  | [], _, h, _ => h
  | x :: l, c, h, g => gcd_dvd_all (l := l) (c := Nat.gcd c x) (by
      rw [← Nat.gcd_mul_right]
      exact Nat.dvd_gcd h (g x (List.mem_cons_self ..))) fun y hy => g y (List.mem_cons_of_mem _ hy)
theorem odd_iff (h0 : 0 < n) (ht : Two e L) (he : 0 < e) (hLn : L ∣ n) {v w O : Nat} (hO : L = 2 ^ e * O) (hw : n = 2 ^ e * w) (hv : s * O = w * v) (hoL : n / Nat.gcd n s ∣ L) :
    v % 2 = if (n / Nat.gcd n s) % 2 ^ e = 0 then 1 else 0 := by
  have hOodd : ¬ 2 ∣ O := fun h => ht.2 (by rw [hO, Nat.pow_succ]; exact Nat.mul_dvd_mul_left _ h)
  have e2 : 2 ^ e = 2 ^ (e - 1) * 2 := by rw [← Nat.pow_succ]; congr 1; omega
  have hw0 : 0 < w := Nat.pos_of_ne_zero fun z => by rw [z] at hw; omega
  have hp1 : 0 < 2 ^ (e - 1) := Nat.pow_pos (by decide)
  have key : s * (O * 2 ^ (e - 1)) = w * v * 2 ^ (e - 1) := by rw [← Nat.mul_assoc, hv]
  have io := ord_iff (s := s) (M := O * 2 ^ (e - 1)) h0
  rw [key] at io
  obtain ⟨o, ho⟩ : ∃ o, o = n / Nat.gcd n s := ⟨_, rfl⟩
  rw [← ho] at io hoL ⊢
  have hev : 2 ∣ v ↔ o ∣ O * 2 ^ (e - 1) := by
    rw [← io]
    constructor
    · rintro ⟨x, rfl⟩
      exact ⟨x, by rw [hw, e2]; simp [Nat.mul_assoc, Nat.mul_comm, Nat.mul_left_comm]⟩
    · intro h
      have h2 : 2 ^ (e - 1) * w * 2 ∣ 2 ^ (e - 1) * w * v := by
        rw [hw, e2] at h
        have a1 : 2 ^ (e - 1) * 2 * w = 2 ^ (e - 1) * w * 2 := by rw [Nat.mul_assoc, Nat.mul_comm 2 w, ← Nat.mul_assoc]
        have a2 : w * v * 2 ^ (e - 1) = 2 ^ (e - 1) * w * v := by rw [Nat.mul_comm, ← Nat.mul_assoc]
        rw [a1, a2] at h
        exact h
      exact Nat.dvd_of_mul_dvd_mul_left (Nat.mul_pos hp1 hw0) h2
  by_cases h : o % 2 ^ e = 0
  · rw [if_pos h]
    have hd : 2 ^ e ∣ o := Nat.dvd_of_mod_eq_zero h
    have : ¬ 2 ∣ v := fun h2 => hOodd (by
      have h3 := Nat.dvd_trans hd (hev.mp h2)
      rw [e2, Nat.mul_comm O] at h3
      exact Nat.dvd_of_mul_dvd_mul_left hp1 h3)
    omega
  · rw [if_neg h]
    have : 2 ∣ v := hev.mpr (by
      have ho0 : 0 < o := Nat.pos_of_dvd_of_pos hoL (Nat.pos_of_dvd_of_pos hLn h0)
      obtain ⟨b, y, hy, hyo, _⟩ := pr2.out ho0
      have hb : b < e := Nat.lt_of_not_le fun z => h (Nat.mod_eq_zero_of_dvd (by rw [hy]; exact Nat.dvd_trans (Nat.pow_dvd_pow 2 z) (Nat.dvd_mul_right _ _)))
      have hyO : y ∣ O := by
        have h1 : y ∣ 2 ^ e * O := by rw [← hO]; exact Nat.dvd_trans (by rw [hy]; exact Nat.dvd_mul_left _ _) hoL
        exact (pr2.copPow (a := e) hyo).symm.dvd_of_dvd_mul_left h1
      rw [hy, Nat.mul_comm]
      exact Nat.mul_dvd_mul hyO (Nat.pow_dvd_pow 2 (by omega)))
    omega
/-- steps that fit break no condition -/
theorem nec (h0 : 0 < n) (ho : Ord n ps) (hs : n ∣ (stp ps).sum) (hg : (stp ps).foldl Nat.gcd (if h = 0 then n else 1) = 1) (ht : Two e (lcmL (orders ps))) : brk e h n (orders ps) = [] := by
  have hod : ∀ z ∈ ps, z.2 ∣ n := fun z hz => by rw [← (ho z hz).2]; exact Nat.div_dvd_of_dvd (Nat.gcd_dvd_left _ _)
  have hLn : lcmL (orders ps) ∣ n := lcm_of (Nat.one_dvd _) fun o h => by
    obtain ⟨z, hz, rfl⟩ := List.mem_map.mp h
    exact hod z hz
  have hsL : ∀ z ∈ ps, n ∣ z.1 * lcmL (orders ps) := fun z hz => (ord_iff h0).mpr (by rw [(ho z hz).2]; exact lcm_mem (os := orders ps) (s := 1) _ (List.mem_map.mpr ⟨z, hz, rfl⟩))
  have c1 : divs n (orders ps) = [] := none_hit fun j hj => by
    have hjp : j < ps.length := by unfold orders at hj; simpa using hj
    have : n % (orders ps).getD j 0 = 0 := by
      unfold orders
      rw [List.getD_eq_getElem?_getD, List.getElem?_map, List.getElem?_eq_getElem hjp]
      exact Nat.mod_eq_zero_of_dvd (hod _ (List.getElem_mem hjp))
    rw [decide_eq_true this]
    rfl
  have c2 : coms (orders ps) = [] := none_hit fun k hk => by
    have hkp : k < ps.length := by unfold orders at hk; simpa using hk
    have other : ∀ z j, j ≠ k → ps[j]? = some z → z.2 ∈ (orders ps).eraseIdx k := fun z j hj hz => List.mem_eraseIdx_iff_getElem?.mpr ⟨j, hj, by unfold orders; rw [List.getElem?_map, hz]; rfl⟩
    obtain ⟨M, hM⟩ : ∃ M, M = lcmL ((orders ps).eraseIdx k) := ⟨_, rfl⟩
    have hdM : ∀ z j, j ≠ k → ps[j]? = some z → z.2 ∣ M := fun z j hj hz => by rw [hM]; exact lcm_mem (os := (orders ps).eraseIdx k) (s := 1) _ (other z j hj hz)
    have hsum := sum_erase (l := stp ps) (k := k) (by unfold stp; simpa using hkp)
    have hgk : (stp ps).getD k 0 = ps[k].1 := by unfold stp; rw [List.getD_eq_getElem?_getD, List.getElem?_map, List.getElem?_eq_getElem hkp]; rfl
    have h1 : n ∣ ((stp ps).eraseIdx k).sum * M := all_dvd fun x hx => by
      obtain ⟨j, hj, e⟩ := List.mem_eraseIdx_iff_getElem?.mp hx
      unfold stp at e
      rw [List.getElem?_map] at e
      obtain ⟨z, hz, rfl⟩ := Option.map_eq_some_iff.mp e
      exact (ord_iff h0).mpr (by rw [(ho z (List.mem_of_getElem? hz)).2]; exact hdM z j hj hz)
    have h2 : n ∣ (stp ps).sum * M := Nat.dvd_trans hs (Nat.dvd_mul_right _ _)
    rw [hsum, Nat.add_mul, hgk] at h2
    have h3 : n ∣ ps[k].1 * M := (Nat.dvd_add_left h1).mp h2
    have h4 := (ord_iff h0).mp h3
    rw [(ho _ (List.getElem_mem hkp)).2] at h4
    have : lcmL ((orders ps).eraseIdx k) = lcmL (orders ps) := by
      rw [← hM]
      refine Nat.dvd_antisymm ?_ (lcm_of (Nat.one_dvd _) fun o hoo => ?_)
      · rw [hM]
        exact lcm_of (Nat.one_dvd _) fun o hoo => lcm_mem (os := orders ps) (s := 1) _ (List.mem_of_mem_eraseIdx hoo)
      · obtain ⟨z, hz, rfl⟩ := List.mem_map.mp hoo
        obtain ⟨j, hj, e⟩ := List.getElem_of_mem hz
        by_cases hjk : j = k
        · subst hjk
          rw [← e]
          exact h4
        · exact hdM z j hjk (by rw [List.getElem?_eq_getElem hj, e])
    rw [decide_eq_true this]
    rfl
  have c3 : brkW h n (orders ps) = [] := if_neg fun ⟨hz, hne⟩ => hne (by
    rw [if_pos hz] at hg
    have h1 := gcd_dvd_all (n := n) (M := lcmL (orders ps)) (l := stp ps) (c := n) (Nat.dvd_mul_right _ _) fun x hx => by
      obtain ⟨z, hz, rfl⟩ := List.mem_map.mp hx
      exact hsL z hz
    rw [hg, Nat.one_mul] at h1
    exact Nat.dvd_antisymm hLn h1)
  have c4 : brkT e (orders ps) = [] := if_neg fun ⟨h2, hodd⟩ => by
    have he : 0 < e := Nat.pos_of_ne_zero fun z => by
      rw [z] at ht
      exact ht.2 (Nat.dvd_of_mod_eq_zero h2)
    obtain ⟨O, hO⟩ := ht.1
    obtain ⟨w, hw⟩ := Nat.dvd_trans ht.1 hLn
    have hw0 : 0 < w := Nat.pos_of_ne_zero fun z => by rw [z] at hw; omega
    have hp : 0 < 2 ^ e := Nat.pow_pos (by decide)
    have go : ∀ l : List (Nat × Nat), (∀ z ∈ l, z ∈ ps) → ∃ V, (stp l).sum * O = w * V ∧ V % 2 = manyOf e (orders l) % 2 := by
      intro l
      induction l with
      | nil => intro _; exact ⟨0, by simp [stp], rfl⟩
      | cons z l ih =>
        intro hl
        obtain ⟨V, hV, hV2⟩ := ih fun y hy => hl y (List.mem_cons_of_mem _ hy)
        have hz := hl z (List.mem_cons_self ..)
        have h3 := hsL z hz
        rw [hO, hw, ← Nat.mul_assoc, Nat.mul_comm z.1, Nat.mul_assoc] at h3
        obtain ⟨v, hv⟩ := Nat.dvd_of_mul_dvd_mul_left hp h3
        have hoL : n / Nat.gcd n z.1 ∣ lcmL (orders ps) := by rw [(ho z hz).2]; exact lcm_mem (os := orders ps) (s := 1) _ (List.mem_map.mpr ⟨z, hz, rfl⟩)
        have od := odd_iff h0 ht he hLn hO hw hv hoL
        rw [(ho z hz).2] at od
        refine ⟨v + V, ?_, ?_⟩
        · show (z.1 + (stp l).sum) * O = w * (v + V)
          rw [Nat.add_mul, hv, hV, Nat.mul_add]
        · have em : manyOf e (orders (z :: l)) = (if z.2 % 2 ^ e = 0 then 1 else 0) + manyOf e (orders l) := by
            unfold manyOf orders
            rw [List.map_cons]
            by_cases h : z.2 % 2 ^ e = 0
            · rw [List.filter_cons_of_pos (by simp [h]), List.length_cons, if_pos h]
              omega
            · rw [List.filter_cons_of_neg (by simp [h]), if_neg h]
              omega
          rw [em]
          omega
    obtain ⟨V, hV, hV2⟩ := go ps fun _ h => h
    have h5 : 2 ^ e * w ∣ (stp ps).sum * O := by rw [← hw]; exact Nat.dvd_trans hs (Nat.dvd_mul_right _ _)
    rw [hV, Nat.mul_comm (2 ^ e)] at h5
    have h6 := Nat.dvd_of_mul_dvd_mul_left hw0 h5
    have h7 : 2 ∣ V := Nat.dvd_trans ⟨2 ^ (e - 1), by rw [Nat.mul_comm, ← Nat.pow_succ]; congr 1; omega⟩ h6
    omega
  unfold brk
  rw [c1, c2, c3, c4]
  rfl
end
end LK

namespace LK
open PySem PySem.Spec PyProof.Rows L2 MP
def l2 (z : Nat × Nat) : Dat := .list [.int (z.1 : Int), .int (z.2 : Int)]
theorem eqv_l2 (x y : Nat × Nat) : PyData.eqv (l2 x) (l2 y) = decide (x = y) := by
  obtain ⟨a, b⟩ := x
  obtain ⟨c, d⟩ := y
  show PyData.eqv (.list (nL [a, b])) (.list (nL [c, d])) = _
  rw [eqv_nLs]
  exact decide_eq_decide.mpr ⟨fun h => by simp at h; rw [h.1, h.2], fun h => by cases h; rfl⟩
theorem shd_l2 (x : Nat × Nat) : shd 1 (l2 x) := shd_list (n := 0) (shd_nL (xs := [x.1, x.2]))
section
variable {n c h e : Nat} {os pre : List Nat} {y : Nat × Nat} {dr : Dr} {ps : List (Nat × Nat)}
def nxt (n : Nat) (y : Nat × Nat) (s : Nat) : Nat × Nat := ((y.1 + s) % n, Nat.gcd y.2 s)
inductive Rch (n c : Nat) : List Nat → Nat × Nat → Prop
  | nil : Rch n c [] (0, c)
  | snoc {pre y s} : Rch n c pre y → s < n → Rch n c (pre ++ [n / Nat.gcd n s]) (nxt n y s)
theorem Rch.bound (h0 : 0 < n) (hc : 0 < c) (r : Rch n c pre y) : y.1 < n ∧ 0 < y.2 ∧ y.2 ≤ c := by
  induction r with
  | nil => exact ⟨h0, hc, Nat.le_refl _⟩
  | snoc r hs ih =>
    exact ⟨Nat.mod_lt _ h0, Nat.gcd_pos_of_pos_left _ ih.2.1, Nat.le_trans (Nat.gcd_le_left _ ih.2.1) ih.2.2⟩
theorem Rch.tell (r : Rch n c pre y) : ∃ ps, orders ps = pre ∧ Ord n ps ∧ y = ((stp ps).sum % n, (stp ps).foldl Nat.gcd c) := by
  induction r with
  | nil => exact ⟨[], rfl, fun z hz => (by cases hz), by simp [stp]⟩
  | @snoc pre y s r hs ih =>
    obtain ⟨ps, e1, e2, e3⟩ := ih
    refine ⟨ps ++ [(s, n / Nat.gcd n s)], by rw [← e1]; unfold orders; rw [List.map_append]; rfl, fun z hz => ?_, ?_⟩
    · rcases List.mem_append.mp hz with hz | hz
      · exact e2 z hz
      · rw [List.mem_singleton.mp hz]
        exact ⟨hs, rfl⟩
    · have es : stp (ps ++ [(s, n / Nat.gcd n s)]) = stp ps ++ [s] := by unfold stp; rw [List.map_append]; rfl
      rw [es, List.foldl_append, List.sum_append, e3]
      show ((_ % n + s) % n, _) = _
      rw [Nat.mod_add_mod]
      simp
theorem rch_of : ∀ {ps : List (Nat × Nat)} {pre : List Nat} {y : Nat × Nat}, Rch n c pre y → Ord n ps → Rch n c (pre ++ orders ps) (ps.foldl (fun y z => nxt n y z.1) y)
  | [], pre, y, r, _ => by
    show Rch n c (pre ++ []) y
    rw [List.append_nil]
    exact r
  | z :: ps, pre, y, r, ho => by
    obtain ⟨h1, h2⟩ := ho z (List.mem_cons_self ..)
    have := rch_of (ps := ps) (r.snoc h1) fun x hx => ho x (List.mem_cons_of_mem _ hx)
    rw [h2, List.append_assoc] at this
    exact this
theorem fold_nxt : ∀ {ps : List (Nat × Nat)} {y : Nat × Nat}, y.1 < n → ps.foldl (fun y z => nxt n y z.1) y = ((y.1 + (stp ps).sum) % n, (stp ps).foldl Nat.gcd y.2)
  | [], y, h => by
    show y = ((y.1 + 0) % n, y.2)
    rw [Nat.add_zero, Nat.mod_eq_of_lt h]
  | z :: ps, y, h => by
    have hn : 0 < n := by omega
    show ps.foldl _ (nxt n y z.1) = ((y.1 + (z.1 + (stp ps).sum)) % n, (stp ps).foldl Nat.gcd (Nat.gcd y.2 z.1))
    rw [fold_nxt (ps := ps) (y := nxt n y z.1) (Nat.mod_lt _ hn)]
    show (((y.1 + z.1) % n + (stp ps).sum) % n, _) = _
    rw [Nat.mod_add_mod, Nat.add_assoc]
    rfl
theorem rch_len (h0 : 0 < n) (hc : 0 < c) {sums : List (Nat × Nat)} (nd : sums.Nodup) (hr : ∀ z ∈ sums, Rch n c os z) : sums.length ≤ n * (c + 1) := by
  have h := List.Nodup.length_le_of_subset (l₁ := sums) (l₂ := (List.range n).flatMap fun a => (List.range (c + 1)).map fun b => (a, b)) nd (fun z hz => by
    obtain ⟨h1, _, h2⟩ := (hr z hz).bound h0 hc
    exact List.mem_flatMap.mpr ⟨z.1, List.mem_range.mpr h1, List.mem_map.mpr ⟨z.2, List.mem_range.mpr (by omega), rfl⟩⟩)
  have e : ∀ l : List Nat, (l.flatMap fun a => (List.range (c + 1)).map fun b => (a, b)).length = l.length * (c + 1) := by
    intro l
    induction l with
    | nil => simp
    | cons x l ih => rw [List.flatMap_cons, List.length_append, ih, List.length_map, List.length_range, List.length_cons, Nat.succ_mul]; omega
  rw [e, List.length_range] at h
  exact h
def psT (h n : Nat) (os : List Nat) (s4 s5 s6 s7 s8 s9 s10 : Sl) (dr : Dr) : PS := ⟨[.fr (dtm h n os), .fr (.int (h : Int)), .fr (.int (n : Int)), .fr (.tuple (nL os)), s4, s5, s6, s7, s8, s9, s10], dr⟩
theorem is_there_ok (h0 : 0 < n) (hn : n ≤ 100) (hl : os.length ≤ 100) : ∃ b, fn_law_is_there [dtm h n os] dr = some (.im (.bool b), dr) ∧ (b = true ↔ Rch n (if h = 0 then n else 1) os (0, 1)) := by
  obtain ⟨c, hc⟩ : ∃ c, c = if h = 0 then n else 1 := ⟨_, rfl⟩
  have hc0 : 0 < c := by rw [hc]; split <;> omega
  have hcn : c ≤ 100 := by rw [hc]; split <;> omega
  have hb := b62_nat (n := n) (by omega)
  have hbd : n * (c + 1) ≤ 100 * 101 := Nat.mul_le_mul hn (by omega)
  rw [← hc]
  suffices g : CV fn_law_is_there [dtm h n os] dr fun r dr' => ∃ b, r = .im (.bool b) ∧ dr' = dr ∧ (b = true ↔ Rch n c os (0, 1)) by
    obtain ⟨_, _, e, b, rfl, rfl, h⟩ := g
    exact ⟨b, e, h⟩
  refine c_body ?_
  refine w_nx (ps1 := psT h n os .un .un .un .un .un .un .un dr) (by simp [psT, dtm]) ?_
  refine w_nx (ps1 := psT h n os (.ow ([(0, c)].map l2)) .un .un .un .un .un .un dr) ?_ ?_
  · by_cases hz : h = 0
    · rw [if_pos hz] at hc
      simp [psT, qe_int, hz, line_of, l2, hc]
    · rw [if_neg hz] at hc
      simp [psT, qe_int, hz, line_of, l2, hc]
  refine w_seq (w_for (fun k : Nat => .int (k : Int)) os (ps1 := psT h n os (.ow ([(0, c)].map l2)) .un .un .un .un .un .un dr) (by simp [psT, nL]) (fun pre q => ∃ sums s4 s5 s6 s7 s8 s9 s10, q = psT h n os s4 s5 s6 s7 s8 s9 s10 dr ∧ (s4 = .ow (sums.map l2) ∨ s4 = .fr (.list (sums.map l2))) ∧ sums.Nodup ∧ ∀ z, z ∈ sums ↔ Rch n c pre z) ⟨[(0, c)], _, _, _, _, _, _, _, rfl, .inl rfl, by simp, fun z => ⟨fun hz => by rw [List.mem_singleton.mp hz]; exact .nil, fun r => ?_⟩⟩ ?_ ?_)
  · generalize hp : ([] : List Nat) = p at r
    cases r with
    | nil => simp
    | snoc r hs => simp at hp
  · rintro pre o post q hx ⟨sums, s4, s5, s6, s7, s8, s9, s10, rfl, h4, nd, mem⟩
    have hsl := rch_len h0 hc0 nd fun z hz => (mem z).mp hz
    refine ⟨psT h n os s4 (.fr (.int (o : Int))) s6 s7 s8 s9 s10 dr, rfl, ?_⟩
    refine w_nx (ps1 := psT h n os s4 (.fr (.int (o : Int))) (.ow []) s7 s8 s9 s10 dr) (by simp [psT, line_of]) ?_
    refine w_seq (w_for l2 sums (ps1 := psT h n os (.fr (.list (sums.map l2))) (.fr (.int (o : Int))) (.ow []) s7 s8 s9 s10 dr) (by rcases h4 with rfl | rfl <;> simp [psT]) (fun pz q => ∃ lg s7 s8 s9 s10, q = psT h n os (.fr (.list (sums.map l2))) (.fr (.int (o : Int))) (.ow (lg.map l2)) s7 s8 s9 s10 dr ∧ lg.Nodup ∧ (∀ z ∈ lg, Rch n c (pre ++ [o]) z) ∧ ∀ y ∈ pz, ∀ s, s < n → n / Nat.gcd n s = o → nxt n y s ∈ lg) ⟨[], _, _, _, _, rfl, by simp, fun z hz => (by cases hz), fun y hy => (by cases hy)⟩ ?_ ?_)
    · rintro pz y qz q hy ⟨lg, s7, s8, s9, s10, rfl, nd2, rc2, cl2⟩
      have hys : y ∈ sums := by rw [hy]; simp
      have ry := (mem y).mp hys
      refine ⟨psT h n os (.fr (.list (sums.map l2))) (.fr (.int (o : Int))) (.ow (lg.map l2)) (.fr (.int (y.1 : Int))) (.fr (.int (y.2 : Int))) s9 s10 dr, by simp [psT, l2], ?_⟩
      refine w_for (fun k : Nat => .int (k : Int)) (List.range n) (ps1 := psT h n os (.fr (.list (sums.map l2))) (.fr (.int (o : Int))) (.ow (lg.map l2)) (.fr (.int (y.1 : Int))) (.fr (.int (y.2 : Int))) s9 s10 dr) (by simp [psT, hb, rgD_nat]; rfl) (fun pk q => ∃ lg s9 s10, q = psT h n os (.fr (.list (sums.map l2))) (.fr (.int (o : Int))) (.ow (lg.map l2)) (.fr (.int (y.1 : Int))) (.fr (.int (y.2 : Int))) s9 s10 dr ∧ lg.Nodup ∧ (∀ z ∈ lg, Rch n c (pre ++ [o]) z) ∧ (∀ y ∈ pz, ∀ s, s < n → n / Nat.gcd n s = o → nxt n y s ∈ lg) ∧ ∀ s ∈ pk, n / Nat.gcd n s = o → nxt n y s ∈ lg) ⟨lg, _, _, rfl, nd2, rc2, cl2, fun s hs => (by cases hs)⟩ ?_ ?_
      · rintro pk s qk q hk ⟨lg, s9, s10, rfl, nd3, rc3, cl3, cl4⟩
        obtain ⟨_, hsn, _⟩ := range_split hk
        have lo := law_order_ok (n := n) (s := s) (dr := dr) h0 (by omega)
        have lgl := rch_len h0 hc0 nd3 rc3
        refine ⟨psT h n os (.fr (.list (sums.map l2))) (.fr (.int (o : Int))) (.ow (lg.map l2)) (.fr (.int (y.1 : Int))) (.fr (.int (y.2 : Int))) (.fr (.int (s : Int))) s10 dr, rfl, ?_⟩
        obtain ⟨w, hw⟩ : ∃ w, w = n / Nat.gcd n s := ⟨_, rfl⟩
        rw [← hw] at lo
        have snc : ∀ lg' : List (Nat × Nat), (∀ s ∈ pk, n / Nat.gcd n s = o → nxt n y s ∈ lg') → (n / Nat.gcd n s = o → nxt n y s ∈ lg') → ∀ s' ∈ pk ++ [s], n / Nat.gcd n s' = o → nxt n y s' ∈ lg' := fun lg' a b s' hs' => by
          rcases List.mem_append.mp hs' with hs' | hs'
          · exact a s' hs'
          · rw [List.mem_singleton.mp hs']
            exact b
        by_cases hwo : w = o
        · have md : modD (.int ((y.1 : Int) + (s : Int))) (.int (n : Int)) = some (.im (.int (((y.1 + s) % n : Nat) : Int))) := mod_nat (a := y.1 + s) h0
          have gc := law_gcd_ok (a := y.2) (b := s) (dr := dr)
          obtain ⟨t, ht⟩ : ∃ t, t = (y.1 + s) % n := ⟨_, rfl⟩
          obtain ⟨g, hg⟩ : ∃ g, g = Nat.gcd y.2 s := ⟨_, rfl⟩
          rw [← ht] at md
          rw [← hg] at gc
          have hnx : nxt n y s = (t, g) := by rw [ht, hg]; rfl
          have nin := nin_map (f := l2) (k := 1) (by decide) eqv_l2 shd_l2 (xs := lg) (x := (t, g))
          have rt : Rch n c (pre ++ [o]) (t, g) := by
            have := ry.snoc hsn
            rw [← hw, hwo, hnx] at this
            exact this
          by_cases hin : (t, g) ∈ lg
          · have nin' : ninD (.list [.int (t : Int), .int (g : Int)]) (.list (lg.map l2)) = some (.im (.bool false)) := by
              have := nin
              simp only [hin, decide_true, Bool.not_true] at this
              exact this
            exact w_det (o := .nx (psT h n os (.fr (.list (sums.map l2))) (.fr (.int (o : Int))) (.ow (lg.map l2)) (.fr (.int (y.1 : Int))) (.fr (.int (y.2 : Int))) (.fr (.int (s : Int))) (.ow [.int (t : Int), .int (g : Int)]) dr)) (by simp [psT, lo, hwo, qe_int, md, gc, line_of, nin', hin]) ⟨lg, _, _, rfl, nd3, rc3, cl3, snc lg cl4 fun _ => by rw [hnx]; exact hin⟩
          · have nin' : ninD (.list [.int (t : Int), .int (g : Int)]) (.list (lg.map l2)) = some (.im (.bool true)) := by
              have := nin
              simp only [hin, decide_false, Bool.not_false] at this
              exact this
            exact w_det (o := .nx (psT h n os (.fr (.list (sums.map l2))) (.fr (.int (o : Int))) (.ow ((lg ++ [(t, g)]).map l2)) (.fr (.int (y.1 : Int))) (.fr (.int (y.2 : Int))) (.fr (.int (s : Int))) (.fr (.list [.int (t : Int), .int (g : Int)])) dr)) (by simp [psT, lo, hwo, qe_int, md, gc, line_of, nin', hin, sz_of (n := lg.length) (by omega), l2]) ⟨lg ++ [(t, g)], _, _, rfl, List.nodup_append.mpr ⟨nd3, by simp, fun x hx z hz e => hin (by rw [List.mem_singleton.mp hz] at e; rw [← e]; exact hx)⟩, fun z hz => by
              rcases List.mem_append.mp hz with hz | hz
              · exact rc3 z hz
              · rw [List.mem_singleton.mp hz]; exact rt, fun y hy s hs e => List.mem_append_left _ (cl3 y hy s hs e), snc _ (fun s hs e => List.mem_append_left _ (cl4 s hs e)) fun _ => by rw [hnx]; simp⟩
        · have hwo' : ¬ (w : Int) = (o : Int) := by omega
          exact w_det (o := .nx (psT h n os (.fr (.list (sums.map l2))) (.fr (.int (o : Int))) (.ow (lg.map l2)) (.fr (.int (y.1 : Int))) (.fr (.int (y.2 : Int))) (.fr (.int (s : Int))) s10 dr)) (by simp [psT, lo, hwo', hwo, qe_int]) ⟨lg, _, _, rfl, nd3, rc3, cl3, snc lg cl4 fun e => absurd (hw.trans e) hwo⟩
      · rintro q ⟨lg, s9, s10, rfl, nd3, rc3, cl3, cl4⟩
        refine ⟨lg, _, _, s9, s10, rfl, nd3, rc3, fun y' hy' s hs e => ?_⟩
        rcases List.mem_append.mp hy' with hy' | hy'
        · exact cl3 y' hy' s hs e
        · rw [List.mem_singleton.mp hy']
          exact cl4 s (List.mem_range.mpr hs) e
    · rintro q ⟨lg, s7, s8, s9, s10, rfl, nd2, rc2, cl2⟩
      refine w_det (o := .nx (psT h n os (.fr (.list (lg.map l2))) (.fr (.int (o : Int))) (.fr (.list (lg.map l2))) s7 s8 s9 s10 dr)) (by simp [psT]) ⟨lg, _, _, _, _, _, _, _, rfl, .inr rfl, nd2, fun z => ⟨rc2 z, fun r => ?_⟩⟩
      generalize hp : pre ++ [o] = p at r
      cases r with
      | nil => simp at hp
      | snoc r hs =>
        obtain ⟨e1, e2⟩ := List.append_inj' hp rfl
        cases e2
        exact cl2 _ ((mem _).mpr (by rw [e1]; exact r)) _ hs rfl
  · rintro q ⟨sums, s4, s5, s6, s7, s8, s9, s10, rfl, h4, nd, mem⟩
    have inn := in_map (f := l2) (k := 1) (by decide) eqv_l2 shd_l2 (xs := sums) (x := (0, 1))
    obtain ⟨B, inn', hBm⟩ : ∃ B : Bool, inD (.list [.int 0, .int 1]) (.list (sums.map l2)) = some (.im (.bool B)) ∧ (B = true ↔ (0, 1) ∈ sums) := by
      by_cases hin : (0, 1) ∈ sums
      · simp only [hin, decide_true] at inn
        exact ⟨true, inn, by simp [hin]⟩
      · simp only [hin, decide_false] at inn
        exact ⟨false, inn, by simp [hin]⟩
    exact w_det (o := .rt (.im (.bool B)) (psT h n os s4 s5 s6 s7 s8 s9 s10 dr)) (by rcases h4 with rfl | rfl <;> simp [psT, line_of, inn']) ⟨B, rfl, rfl, hBm.trans (mem _)⟩
end
end LK

namespace LK
open PySem PySem.Spec PyProof.Rows L2 MP
section
variable {e h n : Nat} {os : List Nat} {dr : Dr}
theorem brk_form : ∀ d ∈ brk e h n os, ∃ w k, d = wD w k := by
  intro d hd
  unfold brk at hd
  rcases List.mem_append.mp hd with hd | hd
  · rcases List.mem_append.mp hd with hd | hd
    · rcases List.mem_append.mp hd with hd | hd
      · obtain ⟨k, _, rfl⟩ := List.mem_map.mp hd
        exact ⟨_, _, rfl⟩
      · obtain ⟨k, _, rfl⟩ := List.mem_map.mp hd
        exact ⟨_, _, rfl⟩
    · unfold brkW at hd
      split at hd
      · rw [List.mem_singleton.mp hd]
        exact ⟨_, _, rfl⟩
      · cases hd
  · unfold brkT at hd
    split at hd
    · rw [List.mem_singleton.mp hd]
      exact ⟨_, _, rfl⟩
    · cases hd
theorem make_barred (ok : OkO os) (hn : n ≤ 100000) (ht : Two e (lcmL os)) {w : String} {k : Nat} {r : List Dat} (hb : brk e h n os = wD w k :: r) : fn_make_cyclic [dtm h n os] dr = some (.im (.tuple [.str ("barred" : Str), .str (Str.ofString w), .int (k : Int)]), dr) := by
  have bk := broken_ok (dr := dr) (h := h) ok ht (show n ≤ 1000000 by omega)
  rw [hb] at bk
  have bk' : fn_broken [dtm h n os] dr = some (.im (wD w k), dr) := bk
  refine cv_det (c_body ?_)
  refine w_nx (ps1 := ⟨[.fr (dtm h n os), .fr (.int (h : Int)), .fr (.int (n : Int)), .fr (.tuple (nL os)), .un, .un, .un, .un, .un, .un, .un], dr⟩) (by simp [dtm]) ?_
  refine w_nx (ps1 := ⟨[.fr (dtm h n os), .fr (.int (h : Int)), .fr (.int (n : Int)), .fr (.tuple (nL os)), .fr (wD w k), .un, .un, .un, .un, .un, .un], dr⟩) (by simp [bk']) ?_
  exact w_seq (w_det (o := .rt (.im (.tuple [.str ("barred" : Str), .str (Str.ofString w), .int (k : Int)])) ⟨[.fr (dtm h n os), .fr (.int (h : Int)), .fr (.int (n : Int)), .fr (.tuple (nL os)), .fr (wD w k), .un, .un, .un, .un, .un, .un], dr⟩) (by simp [wD, line_of]) ⟨rfl, rfl⟩)
theorem there_iff (ok : OkO os) (h0 : 0 < n) (hn : n ≤ 100000) (hh : h ≤ 100) (ht : Two e (lcmL os)) : Rch n (if h = 0 then n else 1) os (0, 1) ↔ brk e h n os = [] := by
  constructor
  · intro r
    obtain ⟨ps, e1, e2, e3⟩ := r.tell
    obtain ⟨e4, e5⟩ := Prod.mk.inj e3
    rw [← e1] at ht ⊢
    exact nec h0 e2 (Nat.dvd_of_mod_eq_zero e4.symm) e5.symm ht
  · intro hb
    obtain ⟨_, _, _, _, X, _, inv⟩ := make_ok (dr := .no) ok h0 hn hh ht hb
    have b := nobrk hb
    have op : ∀ o ∈ os, 0 < o := fun o ho => (ok.o o ho).1
    have hl : (stepsL n (lcmL os) X).length = os.length := stepsL_len.trans inv.len
    obtain ⟨S, hS⟩ : ∃ S, S = stepsL n (lcmL os) X := ⟨_, rfl⟩
    have g1 := steps_gcd b op h0 inv
    have g2 := steps_sum b op inv
    have g3 : ∀ k, k < os.length → n / Nat.gcd n (S.getD k 0) = os.getD k 0 := fun k hk => by rw [hS]; exact steps_order b op h0 inv hk
    have g4 : ∀ x ∈ S, x < n := by rw [hS]; exact stepsL_lt h0
    rw [← hS] at hl g1 g2
    have eo : orders (S.zip os) = os := List.map_snd_zip (by omega)
    have es : stp (S.zip os) = S := List.map_fst_zip (by omega)
    have ho : Ord n (S.zip os) := fun z hz => by
      obtain ⟨k, hk, ek⟩ := List.getElem_of_mem hz
      have hk1 : k < S.length := by rw [List.length_zip] at hk; omega
      have hk2 : k < os.length := by omega
      rw [List.getElem_zip] at ek
      rw [← ek]
      refine ⟨g4 _ (List.getElem_mem hk1), ?_⟩
      have := g3 k hk2
      rw [List.getD_eq_getElem?_getD, List.getD_eq_getElem?_getD, List.getElem?_eq_getElem hk1, List.getElem?_eq_getElem hk2] at this
      exact this
    have r := rch_of (n := n) (c := if h = 0 then n else 1) (ps := S.zip os) .nil ho
    rw [fold_nxt h0, eo, es, List.nil_append] at r
    have e1 : (0 + S.sum) % n = 0 := by rw [Nat.zero_add]; exact Nat.mod_eq_zero_of_dvd g2
    have e2 : S.foldl Nat.gcd (if h = 0 then n else 1) = 1 := by
      by_cases hz : h = 0
      · rw [if_pos hz]
        unfold freeL at g1
        rw [if_pos hz, List.nil_append] at g1
        exact g1
      · rw [if_neg hz]
        exact Nat.eq_one_of_dvd_one fold_gcd.1
    have e1' : ((0, if h = 0 then n else 1) : Nat × Nat).1 + S.sum = 0 + S.sum := rfl
    rw [e1', e1] at r
    have e2' : S.foldl Nat.gcd ((0, if h = 0 then n else 1) : Nat × Nat).2 = 1 := e2
    rw [e2'] at r
    exact r
theorem order_of_ok {s : Nat} (h0 : 0 < n) (hn : n ≤ 1000000) : fn_order_of [.int (s : Int), .int (n : Int)] dr = some (.im (.int ((n / Nat.gcd n s : Nat) : Int)), dr) := by
  have gp := Nat.gcd_pos_of_pos_left s h0
  have gl := Nat.gcd_le_left s h0
  have g : gcdD [.int (s : Int), .int (n : Int)] = some (.im (.int ((Nat.gcd n s : Nat) : Int))) := by rw [Nat.gcd_comm n s]; rfl
  obtain ⟨G, hG⟩ : ∃ G, G = Nat.gcd n s := ⟨_, rfl⟩
  rw [← hG] at g gp gl ⊢
  have f : fdivD (.int (n : Int)) (.int (G : Int)) = some (.im (.int ((n / G : Nat) : Int))) := by
    rw [fdiv_posI (by omega) (by omega)]
    norm_cast
  unfold fn_order_of b_order_of
  simp [-e_gcd, g, f]
theorem first_many {s : Nat} (h0 : 0 < n) : ∃ r, (List.range n).filter (fun i => decide ((i + 1) * s % n = 0)) = (n / Nat.gcd n s - 1) :: r := by
  have gp := Nat.gcd_pos_of_pos_left s h0
  have o1 : 0 < n / Nat.gcd n s := Nat.div_pos (Nat.gcd_le_left s h0) gp
  have o2 : n / Nat.gcd n s ≤ n := Nat.div_le_self _ _
  refine hit (by omega) (fun j hj => decide_eq_false fun h => ?_) (decide_eq_true ?_)
  · rw [Nat.mul_comm] at h
    have h2 := (ord_iff h0).mp (Nat.dvd_of_mod_eq_zero h)
    have := Nat.le_of_dvd (by omega) h2
    omega
  · rw [Nat.sub_add_cancel o1, Nat.mul_comm]
    exact Nat.mod_eq_zero_of_dvd ((ord_iff h0).mpr (Nat.dvd_refl _))
end
end LK

namespace LK
open PySem PySem.Spec PyProof.Rows L2 MP
section
variable {n : Nat}
def psM (s2 s3 s4 s5 s6 s7 s8 s9 s10 s11 s12 : Sl) (dr : Dr) : PS := ⟨[.un, .fr (.dict []), s2, s3, s4, s5, s6, s7, s8, s9, s10, s11, s12], dr⟩
theorem lMM : eqD (.str ("made" : Str)) (.str ("made" : Str)) = some (.im (.bool true)) := by
  rw [eqD_sh (n := 0) (m := 0) (shd_str (okS.lit _)) (shd_str (okS.lit _)) (by decide) (by decide)]
  congr 3
theorem lBM : eqD (.str ("barred" : Str)) (.str ("made" : Str)) = some (.im (.bool false)) := by
  rw [eqD_sh (n := 0) (m := 0) (shd_str (okS.lit _)) (shd_str (okS.lit _)) (by decide) (by decide)]
  congr 3
theorem rg_from {a k : Nat} : rgD (a : Int) k = (List.range k).map fun i : Nat => PyData.int ((i + a : Nat) : Int) := by
  rw [rgD_z]
  unfold zL
  rw [List.map_map]
  refine List.map_congr_left fun i _ => ?_
  show PyData.int ((a : Int) + (i : Int)) = PyData.int ((i + a : Nat) : Int)
  congr 1
  omega
def dvL (n : Nat) : List Nat := ((List.range (n - 1)).filter fun x => decide (n % (x + 2) = 0)).map fun x => x + 2
theorem dv_mem {x : Nat} (h : x ∈ dvL n) : 0 < x ∧ x ≤ n + 1 := by
  obtain ⟨y, hy, rfl⟩ := List.mem_map.mp h
  have := List.mem_range.mp (List.mem_filter.mp hy).1
  omega
theorem dv_len : (dvL n).length ≤ n := by
  unfold dvL
  rw [List.length_map]
  exact Nat.le_trans (List.length_filter_le _ _) (by simp)
theorem seq_assoc {f g k : SM} : seqM (seqM f g) k = seqM f (seqM g k) := by
  funext ps
  rw [e_seq, e_seq, e_seq]
  cases hf : f ps with
  | none => rfl
  | some o =>
    cases o with
    | nx q =>
      show (g q).bind _ = seqM g k q
      rw [e_seq]
    | rt r q => rfl
    | bk q => rfl
    | ct q => rfl
theorem w_seq5 {f1 f2 f3 f4 f5 g : SM} {ps : PS} {Q : SOut → Prop} (P : PS → Prop) (h : W (seqM f1 (seqM f2 (seqM f3 (seqM f4 f5)))) ps fun o => match o with | .nx q => P q | _ => False) (t : ∀ q, P q → W g q Q) : W (seqM f1 (seqM f2 (seqM f3 (seqM f4 (seqM f5 g))))) ps Q := by
  have e : seqM f1 (seqM f2 (seqM f3 (seqM f4 (seqM f5 g)))) = seqM (seqM f1 (seqM f2 (seqM f3 (seqM f4 f5)))) g := by
    rw [seq_assoc, seq_assoc, seq_assoc, seq_assoc]
  rw [e]
  exact w_seq (w_cut P h t)
end
theorem main (ns : List Int) (hl : ns.length ≤ 63) : ∃ ps, b_law ⟨(List.replicate 13 Sl.un).set 1 (.fr (.dict [])), stateA ns⟩ = some (.rt (.im (.bool true)) ps) := by
  refine law_true ?_
  have hb3 : b62 3 = true := by decide
  have hb1 : b62 1 = true := by decide
  have hb2 : b62 2 = true := by decide
  have hr3 : rgD 0 3 = [0, 1, 2].map (fun k : Nat => PyData.int (k : Int)) := rfl
  refine w_seq (w_for (fun k : Nat => .int (k : Int)) [0, 1, 2] (ps1 := psM .un .un .un .un .un .un .un .un .un .un .un (stateA ns)) (by simp [psM, hb3, hr3]) (fun pre q => ∃ s2 s3 s4 s5 s6 s7 s8 s9 s10 s11 s12 d', q = psM s2 s3 s4 s5 s6 s7 s8 s9 s10 s11 s12 d' ∧ isA d' ∧ keepSl (some s4) = s4 ∧ keepSl (some s12) = s12) ⟨_, _, _, _, _, _, _, _, _, _, _, _, rfl, isA_state, rfl, rfl⟩ ?_ ?_)
  rotate_left
  · rintro q ⟨s2, s3, s4, s5, s6, s7, s8, s9, s10, s11, s12, d', rfl, hA, _, _⟩
    exact w_det (o := .rt (.im (.bool true)) (psM s2 s3 s4 s5 s6 s7 s8 s9 s10 s11 s12 d')) (by simp [psM]) rfl
  rintro pre turn post q hx ⟨s2, s3, s4, s5, s6, s7, s8, s9, s10, s11, s12, d0, rfl, hA0, k4, k12⟩
  refine ⟨psM (.fr (.int (turn : Int))) s3 s4 s5 s6 s7 s8 s9 s10 s11 s12 d0, rfl, ?_⟩
  obtain ⟨r1, d1, e1, h1, hA1⟩ := draw_ok (m := 12) hA0 (by decide) (by decide)
  have e1' : drawA [.dict [], .int 12] d0 = some (.im (.int (r1 : Int)), d1) := e1
  obtain ⟨n, hn⟩ : ∃ n, n = r1 + 1 := ⟨_, rfl⟩
  have en : (1 : Int) + (r1 : Int) = (n : Int) := by omega
  have h0 : 0 < n := by omega
  have hn12 : n ≤ 12 := by omega
  obtain ⟨s2', hs2⟩ : ∃ s, s = Sl.fr (.int (turn : Int)) := ⟨_, rfl⟩
  rw [← hs2]
  refine w_nx (ps1 := psM s2' (.fr (.int (n : Int))) s4 s5 s6 s7 s8 s9 s10 s11 s12 d1) (by simp [psM, fn_law_draw, e1', en]) ?_
  -- divisors
  have hbn : b62 ((n : Int) + 1) = true := b62_nat (n := n + 1) (by omega)
  have rg2 : rgD 2 ((n : Int) + 1 - 2).toNat = (List.range (n - 1)).map fun i : Nat => PyData.int ((i + 2 : Nat) : Int) := by
    have : ((n : Int) + 1 - 2).toNat = n - 1 := by omega
    rw [this]
    exact rg_from (a := 2)
  have c1 := lc_eq (vs := [4]) (fi := rng2 (consM (kst (.int 2)) (consM (opM addD (rdV 3) (kst (.int 1))) (M.ret [])))) (tgt := nmT 4) (tst := tstM (opM eqD (opM modD (unM intD (rdV 3)) (rdV 4)) (kst (.int 0)))) (elt := rdV 4) (ps := psM s2' (.fr (.int (n : Int))) s4 s5 s6 s7 s8 s9 s10 s11 s12 d1) (ps1 := psM s2' (.fr (.int (n : Int))) s4 s5 s6 s7 s8 s9 s10 s11 s12 d1) (fun i : Nat => PyData.int ((i + 2 : Nat) : Int)) (List.range (n - 1)) (by simp [psM, hbn, rg2, hb2]) (by simp; omega) (fun x => decide (n % (x + 2) = 0)) (fun i => .int ((i + 2 : Nat) : Int)) (fun x hx => by
    have md : modD (.int (n : Int)) (.int ((x + 2 : Nat) : Int)) = some (.im (.int ((n % (x + 2) : Nat) : Int))) := mod_nat (by omega)
    obtain ⟨y, hy⟩ : ∃ y, y = x + 2 := ⟨_, rfl⟩
    rw [← hy] at md ⊢
    obtain ⟨m, hm⟩ : ∃ m, m = n % y := ⟨_, rfl⟩
    rw [← hm] at md ⊢
    exact ⟨psM s2' (.fr (.int (n : Int))) (.fr (.int (y : Int))) s5 s6 s7 s8 s9 s10 s11 s12 d1, psM s2' (.fr (.int (n : Int))) (.fr (.int (y : Int))) s5 s6 s7 s8 s9 s10 s11 s12 d1, by simp [psM], by simp [psM, md, qe_int], fun _ => by simp [psM], fun _ => ⟨psM s2' (.fr (.int (n : Int))) (.fr (.int (y : Int))) s5 s6 s7 s8 s9 s10 s11 s12 d1, by simp [psM], by simp [psM]⟩⟩)
  have eD : ((List.range (n - 1)).filter fun x => decide (n % (x + 2) = 0)).map (fun i : Nat => PyData.int ((i + 2 : Nat) : Int)) = nL (dvL n) := by
    unfold dvL nL
    rw [List.map_map]
    rfl
  rw [eD] at c1
  refine w_nx (ps1 := psM s2' (.fr (.int (n : Int))) s4 (.ow (nL (dvL n))) s6 s7 s8 s9 s10 s11 s12 d1) (by rw [e_set, c1]; simp [psM, k4]) ?_
  refine w_nx (ps1 := psM s2' (.fr (.int (n : Int))) s4 (.ow (nL (dvL n))) (.ow []) s7 s8 s9 s10 s11 s12 d1) (by simp [psM, line_of]) ?_
  -- the orders
  obtain ⟨D, hD⟩ : ∃ D, D = dvL n := ⟨_, rfl⟩
  have hDl : D.length ≤ 12 := by rw [hD]; exact Nat.le_trans dv_len hn12
  have hDm : ∀ x ∈ D, 0 < x ∧ x ≤ 13 := fun x hx => by have := dv_mem (n := n) (by rw [← hD]; exact hx); omega
  rw [← hD]
  obtain ⟨r2, d2, e2, h2, hA2⟩ := draw_ok (m := 5) hA1 (by decide) (by decide)
  have e2' : drawA [.dict [], .int 5] d1 = some (.im (.int (r2 : Int)), d2) := e2
  have hb2 := b62_nat (n := r2) (by omega)
  refine w_seq (w_for (fun k : Nat => .int (k : Int)) (List.range r2) (ps1 := psM s2' (.fr (.int (n : Int))) s4 (.ow (nL D)) (.ow []) s7 s8 s9 s10 s11 s12 d2) (by simp [psM, fn_law_draw, e2', hb2, rgD_nat]; rfl) (fun pre q => ∃ os s4 s7 d', q = psM s2' (.fr (.int (n : Int))) s4 (.ow (nL D)) (.ow (nL os)) s7 s8 s9 s10 s11 s12 d' ∧ isA d' ∧ keepSl (some s4) = s4 ∧ os.length ≤ pre.length ∧ ∀ o ∈ os, 0 < o ∧ o ≤ 13) ⟨[], _, _, _, rfl, hA2, k4, by simp, fun o ho => (by cases ho)⟩ ?_ ?_)
  · rintro pre k post q hx ⟨os, s4, s7, d3, rfl, hA3, _, hol, ho⟩
    have hpl : pre.length ≤ 4 := by have := congrArg List.length hx; simp at this; omega
    refine ⟨psM s2' (.fr (.int (n : Int))) s4 (.ow (nL D)) (.ow (nL os)) (.fr (.int (k : Int))) s8 s9 s10 s11 s12 d3, rfl, ?_⟩
    obtain ⟨r3, d4, e3, h3, hA4⟩ := draw_ok (m := 11) hA3 (by decide) (by decide)
    have e3' : drawA [.dict [], .int 11] d3 = some (.im (.int (r3 : Int)), d4) := e3
    obtain ⟨o0, ho0⟩ : ∃ o0, o0 = r3 + 2 := ⟨_, rfl⟩
    have eo0 : (2 : Int) + (r3 : Int) = (o0 : Int) := by omega
    refine w_nx (ps1 := psM s2' (.fr (.int (n : Int))) (.fr (.int (o0 : Int))) (.ow (nL D)) (.ow (nL os)) (.fr (.int (k : Int))) s8 s9 s10 s11 s12 d4) (by simp [psM, fn_law_draw, e3', eo0]) ?_
    refine w_seq (w_cut (fun q => ∃ (o : Nat) (d' : Dr), q = psM s2' (.fr (.int (n : Int))) (.fr (.int (o : Int))) (.ow (nL D)) (.ow (nL os)) (.fr (.int (k : Int))) s8 s9 s10 s11 s12 d' ∧ isA d' ∧ 0 < o ∧ o ≤ 13) ?_ ?_)
    · by_cases hz : D.length = 0
      · have hz1 : ¬ (0 : Int) < (D.length : Int) := by omega
        have hz2 : D = [] := List.eq_nil_of_length_eq_zero hz
        exact w_det (o := .nx (psM s2' (.fr (.int (n : Int))) (.fr (.int (o0 : Int))) (.ow (nL D)) (.ow (nL os)) (.fr (.int (k : Int))) s8 s9 s10 s11 s12 d4)) (by simp [psM, hz2]) ⟨o0, d4, rfl, hA4, by omega, by omega⟩
      · have hz1 : (0 : Int) < (D.length : Int) := by omega
        have hz2 : 0 < D.length := by omega
        obtain ⟨r5, d5, e5, h5, hA5⟩ := draw_ok (m := 6) hA4 (by decide) (by decide)
        have e5' : drawA [.dict [], .int 6] d4 = some (.im (.int (r5 : Int)), d5) := e5
        by_cases hc : r5 = 0
        · exact w_det (o := .nx (psM s2' (.fr (.int (n : Int))) (.fr (.int (o0 : Int))) (.ow (nL D)) (.ow (nL os)) (.fr (.int (k : Int))) s8 s9 s10 s11 s12 d5)) (by simp [psM, hz1, hz2, fn_law_draw, e5', hc]) ⟨o0, d5, rfl, hA5, by omega, by omega⟩
        · have hc1 : (0 : Int) < (r5 : Int) := by omega
          have hc2 : 0 < r5 := by omega
          obtain ⟨r6, d6, e6, h6, hA6⟩ := draw_ok (m := D.length) hA5 hz2 (by omega)
          obtain ⟨o, hoe⟩ : ∃ o, o = D[r6] := ⟨_, rfl⟩
          have ga : atI (nL D) (r6 : Int) = some (.int (o : Int)) := nL_at (by rw [List.getElem?_eq_getElem h6, hoe])
          have hom := hDm o (by rw [hoe]; exact List.getElem_mem h6)
          exact w_det (o := .nx (psM s2' (.fr (.int (n : Int))) (.fr (.int (o : Int))) (.ow (nL D)) (.ow (nL os)) (.fr (.int (k : Int))) s8 s9 s10 s11 s12 d6)) (by simp [psM, hz1, hz2, fn_law_draw, e5', hc1, hc2, e6, ga]) ⟨o, d6, rfl, hA6, hom.1, hom.2⟩
    · rintro q ⟨o, d5, rfl, hA5, ho1, ho2⟩
      exact w_det (o := .nx (psM s2' (.fr (.int (n : Int))) (.fr (.int (o : Int))) (.ow (nL D)) (.ow (nL (os ++ [o]))) (.fr (.int (k : Int))) s8 s9 s10 s11 s12 d5)) (by simp [psM, sz_of (n := os.length) (by omega), nL_app]; rfl) ⟨_, _, _, d5, rfl, hA5, rfl, by simp; omega, fun x hx => by
        rcases List.mem_append.mp hx with hx | hx
        · exact ho x hx
        · rw [List.mem_singleton.mp hx]
          exact ⟨ho1, ho2⟩⟩
  rintro q ⟨os, s4, s7, d3, rfl, hA3, k4, hol, ho⟩
  rw [List.length_range] at hol
  have ok : OkO os := ⟨by omega, fun o h => by have := ho o h; omega⟩
  -- the datum
  obtain ⟨r4, d4, e4, h4, hA4⟩ := draw_ok (m := 4) hA3 (by decide) (by decide)
  have e4' : drawA [.dict [], .int 4] d3 = some (.im (.int (r4 : Int)), d4) := e4
  obtain ⟨h, hh, eh⟩ : ∃ h : Nat, h ≤ 2 ∧ atI [PyData.int 0, .int 0, .int 1, .int 2] (r4 : Int) = some (.int (h : Int)) := by
    rcases r4 with _ | _ | _ | _ | r4
    · exact ⟨0, by decide, rfl⟩
    · exact ⟨0, by decide, rfl⟩
    · exact ⟨1, by decide, rfl⟩
    · exact ⟨2, by decide, rfl⟩
    · omega
  refine w_nx (ps1 := psM s2' (.fr (.int (n : Int))) s4 (.ow (nL D)) (.ow (nL os)) s7 (.fr (dtm h n os)) s9 s10 s11 s12 d4) (by simp [psM, fn_law_draw, e4', line_of, eh, dtm]) ?_
  have hL0 : 0 < lcmL os := lcm_pos Nat.one_pos fun o h => (ho o h).1
  obtain ⟨e, ht⟩ := two_ex hL0
  have lb := law_broken_ok (dr := d4) (h := h) ok ht (show n ≤ 1000000 by omega)
  obtain ⟨B, lt, hB⟩ := is_there_ok (dr := d4) (h := h) (os := os) h0 (show n ≤ 100 by omega) ok.len
  have hB2 := hB.trans (there_iff ok h0 (by omega) (by omega) ht)
  have mt := multiple_ok (dr := d4) (d := .tuple (nL os)) (.inl rfl) ok.o
  have m0 := multiple_ok (dr := d4) (os := []) (d := .tuple []) (.inl rfl) (fun o h => by cases h)
  have ml := law_multiple_ok (dr := d4) (d := .list (nL os)) (.inr rfl) ok.o
  have l0 : lcmL [] = 1 := rfl
  rw [l0] at m0
  obtain ⟨L, hL⟩ : ∃ L, L = lcmL os := ⟨_, rfl⟩
  obtain ⟨DT, hDT⟩ : ∃ DT, DT = dtm h n os := ⟨_, rfl⟩
  refine w_seq5 (fun q => ∃ told s10, q = psM s2' (.fr (.int (n : Int))) s4 (.ow (nL D)) (.ow (nL os)) s7 (.fr (dtm h n os)) told s10 s11 s12 d4) ?_ ?_
  · cases hb : brk e h n os with
    | cons d r =>
      obtain ⟨w, k, rfl⟩ := brk_form (e := e) (h := h) (n := n) (os := os) d (by rw [hb]; exact List.mem_cons_self ..)
      have mk := make_barred (dr := d4) ok (by omega) ht hb
      have hBf : B = false := by
        cases hBB : B with
        | false => rfl
        | true => rw [hb] at hB2; exact absurd (hB2.mp hBB) (by simp)
      rw [hBf] at lt
      rw [hb] at lb
      have hBs : neD (.tuple [.str ("barred" : Str), .str (Str.ofString w), .int (k : Int)]) (.tuple [.str ("barred" : Str), .str (Str.ofString w), .int (k : Int)]) = some (.im (.bool false)) := by
        refine qn_self (n := 1) (shd_tuple (n := 0) fun d hd => ?_) (by decide)
        rcases List.mem_cons.mp hd with rfl | hd
        · exact shd_str (okS.lit _)
        · rcases List.mem_cons.mp hd with rfl | hd
          · exact shd_str (okS.lit _)
          · rw [List.mem_singleton.mp hd]
            exact shd_int
      have ad : addD (.tuple [.str ("barred" : Str)]) (wD w k) = some (.im (.tuple [.str ("barred" : Str), .str (Str.ofString w), .int (k : Int)])) := by
        show (if MP.line (1 + 2) then some (RV.im (PyData.tuple ([PyData.str ("barred" : Str)] ++ [.str (Str.ofString w), .int (k : Int)]))) else none) = _
        rw [line_of (by decide), if_pos rfl]
        rfl
      obtain ⟨T, hT⟩ : ∃ T, T = PyData.tuple [.str ("barred" : Str), .str (Str.ofString w), .int (k : Int)] := ⟨_, rfl⟩
      rw [← hT] at mk hBs ad
      have hTi : isiD .tuple T = some (.im (.bool true)) := by rw [hT]; rfl
      have hT0 : ixD T (.int 0) = some (.im (.str ("barred" : Str))) := by rw [hT]; rfl
      have g0 : atI (wD w k :: r) 0 = some (wD w k) := atI_nat (j := 0) rfl
      have hr1 : (0 : Int) < (r.length : Int) + 1 := by omega
      have hr2 : ¬ (r.length : Int) + 1 = 0 := by omega
      rw [← hDT] at mk lb lt ⊢
      refine w_nx (ps1 := psM s2' (.fr (.int (n : Int))) s4 (.ow (nL D)) (.ow (nL os)) s7 (.fr DT) (.fr T) s10 s11 s12 d4) (by simp [psM, mk]) ?_
      refine w_nx (ps1 := psM s2' (.fr (.int (n : Int))) s4 (.ow (nL D)) (.ow (nL os)) s7 (.fr DT) (.fr T) (.ow (wD w k :: r)) s11 s12 d4) (by simp [psM, lb]) ?_
      refine w_nx (ps1 := psM s2' (.fr (.int (n : Int))) s4 (.ow (nL D)) (.ow (nL os)) s7 (.fr DT) (.fr T) (.ow (wD w k :: r)) s11 s12 d4) (by simp [psM, hTi, hT0, lBM, qe_int, hr2, qn_bool, lt]) ?_
      refine w_nx (ps1 := psM s2' (.fr (.int (n : Int))) s4 (.ow (nL D)) (.ow (nL os)) s7 (.fr DT) (.fr T) (.ow (wD w k :: r)) s11 s12 d4) (by simp [psM, hr1, line_of, g0, ad, hBs]) ?_
      exact w_det (o := .nx (psM s2' (.fr (.int (n : Int))) s4 (.ow (nL D)) (.ow (nL os)) s7 (.fr DT) (.fr T) (.ow (wD w k :: r)) s11 s12 d4)) (by simp [psM, qe_int, hr2]) ⟨_, _, rfl⟩
    | nil =>
      obtain ⟨_, d10, mk, hd10, X, rfl, inv⟩ := make_ok (dr := d4) ok h0 (by omega) (by omega) ht hb
      rw [hd10] at mk
      have hBt : B = true := hB2.mpr hb
      rw [hBt] at lt
      rw [hb] at lb
      have b := nobrk hb
      have op : ∀ o ∈ os, 0 < o := fun o h => (ho o h).1
      have ft := fits_ok (dr := d4) (fr := freeL h n) (st := stepsL n (lcmL os) X) ok h0 (by omega) (by omega) freeL_len (stepsL_len.trans inv.len) (fun x hx => by
        rcases List.mem_append.mp hx with hx | hx
        · exact freeL_lt h0 x hx
        · exact stepsL_lt h0 x hx) (fun k hk => steps_order b op h0 inv hk) (steps_gcd b op h0 inv) (steps_sum b op inv)
      have eX : (X.map fun x => x * (n / lcmL os) % n) = stepsL n (lcmL os) X := rfl
      rw [eX] at mk
      obtain ⟨FR, hFR⟩ : ∃ FR, FR = PyData.tuple (nL (freeL h n)) := ⟨_, rfl⟩
      obtain ⟨ST, hST⟩ : ∃ ST, ST = PyData.tuple (nL (stepsL n (lcmL os) X)) := ⟨_, rfl⟩
      rw [← hFR, ← hST] at mk ft
      have g0 : atI [PyData.str ("made" : Str), FR, ST] 0 = some (.str ("made" : Str)) := rfl
      have g1 : atI [PyData.str ("made" : Str), FR, ST] 1 = some FR := rfl
      have g2 : atI [PyData.str ("made" : Str), FR, ST] 2 = some ST := rfl
      rw [← hDT] at mk lb lt ft ⊢
      refine w_nx (ps1 := psM s2' (.fr (.int (n : Int))) s4 (.ow (nL D)) (.ow (nL os)) s7 (.fr DT) (.fr (.tuple [.str ("made" : Str), FR, ST])) s10 s11 s12 d4) (by simp [psM, mk]) ?_
      refine w_nx (ps1 := psM s2' (.fr (.int (n : Int))) s4 (.ow (nL D)) (.ow (nL os)) s7 (.fr DT) (.fr (.tuple [.str ("made" : Str), FR, ST])) (.ow []) s11 s12 d4) (by simp [psM, lb]) ?_
      refine w_nx (ps1 := psM s2' (.fr (.int (n : Int))) s4 (.ow (nL D)) (.ow (nL os)) s7 (.fr DT) (.fr (.tuple [.str ("made" : Str), FR, ST])) (.ow []) s11 s12 d4) (by simp [psM, g0, lMM, qe_int, qn_bool, lt]) ?_
      refine w_nx (ps1 := psM s2' (.fr (.int (n : Int))) s4 (.ow (nL D)) (.ow (nL os)) s7 (.fr DT) (.fr (.tuple [.str ("made" : Str), FR, ST])) (.ow []) s11 s12 d4) (by simp [psM]) ?_
      exact w_det (o := .nx (psM s2' (.fr (.int (n : Int))) s4 (.ow (nL D)) (.ow (nL os)) s7 (.fr DT) (.fr (.tuple [.str ("made" : Str), FR, ST])) (.ow []) s11 s12 d4)) (by simp [psM, qe_int, g1, g2, ft]) ⟨_, _, rfl⟩
  · rintro q ⟨told, s10, rfl⟩
    rw [← hL] at mt ml
    refine w_nx (ps1 := psM s2' (.fr (.int (n : Int))) s4 (.ow (nL D)) (.fr (.list (nL os))) s7 (.fr (dtm h n os)) told s10 s11 s12 d4) (by simp [psM, mt, ml, m0, qn_int, line_of]) ?_
    obtain ⟨s, d5, e5, h5, hA5⟩ := draw_ok (m := n) hA4 h0 (by omega)
    refine w_nx (ps1 := psM s2' (.fr (.int (n : Int))) s4 (.ow (nL D)) (.fr (.list (nL os))) s7 (.fr (dtm h n os)) told s10 (.fr (.int (s : Int))) s12 d5) (by simp [psM, fn_law_draw, e5]) ?_
    have oo := order_of_ok (dr := d5) (s := s) h0 (by omega)
    obtain ⟨rr, fm⟩ := first_many (s := s) h0
    have rg1 : rgD 1 n = (List.range n).map fun i : Nat => PyData.int ((i + 1 : Nat) : Int) := rg_from (a := 1)
    have o1 : 0 < n / Nat.gcd n s := Nat.div_pos (Nat.gcd_le_left s h0) (Nat.gcd_pos_of_pos_left s h0)
    obtain ⟨Q, hQ⟩ : ∃ Q, Q = n / Nat.gcd n s := ⟨_, rfl⟩
    rw [← hQ] at oo fm o1
    have c2 := lc_eq (vs := [12]) (fi := rng2 (consM (kst (.int 1)) (consM (opM addD (rdV 3) (kst (.int 1))) (M.ret [])))) (tgt := nmT 12) (tst := tstM (opM eqD (opM modD (unM intD (opM mulD (rdV 12) (rdV 11))) (rdV 3)) (kst (.int 0)))) (elt := rdV 12) (ps := psM s2' (.fr (.int (n : Int))) s4 (.ow (nL D)) (.fr (.list (nL os))) s7 (.fr (dtm h n os)) told s10 (.fr (.int (s : Int))) s12 d5) (ps1 := psM s2' (.fr (.int (n : Int))) s4 (.ow (nL D)) (.fr (.list (nL os))) s7 (.fr (dtm h n os)) told s10 (.fr (.int (s : Int))) s12 d5) (fun i : Nat => PyData.int ((i + 1 : Nat) : Int)) (List.range n) (by simp [psM, hbn, rg1, hb1]) (by simp; omega) (fun i => decide ((i + 1) * s % n = 0)) (fun i => .int ((i + 1 : Nat) : Int)) (fun x hx => by
      have hx := List.mem_range.mp hx
      have mm : mulD (.int ((x + 1 : Nat) : Int)) (.int (s : Int)) = some (.im (.int (((x + 1) * s : Nat) : Int))) := by
        rw [mul_int (i := ((x + 1 : Nat) : Int)) (j := (s : Int)) (.inl (by omega))]
        norm_cast
      have md : modD (.int (((x + 1) * s : Nat) : Int)) (.int (n : Int)) = some (.im (.int (((x + 1) * s % n : Nat) : Int))) := mod_nat h0
      obtain ⟨y, hy⟩ : ∃ y, y = x + 1 := ⟨_, rfl⟩
      rw [← hy] at md mm ⊢
      obtain ⟨P, hP⟩ : ∃ P, P = y * s := ⟨_, rfl⟩
      rw [← hP] at md mm ⊢
      obtain ⟨m, hm⟩ : ∃ m, m = P % n := ⟨_, rfl⟩
      rw [← hm] at md ⊢
      exact ⟨psM s2' (.fr (.int (n : Int))) s4 (.ow (nL D)) (.fr (.list (nL os))) s7 (.fr (dtm h n os)) told s10 (.fr (.int (s : Int))) (.fr (.int (y : Int))) d5, psM s2' (.fr (.int (n : Int))) s4 (.ow (nL D)) (.fr (.list (nL os))) s7 (.fr (dtm h n os)) told s10 (.fr (.int (s : Int))) (.fr (.int (y : Int))) d5, by simp [psM], by simp [psM, mm, md, qe_int], fun _ => by simp [psM], fun _ => ⟨psM s2' (.fr (.int (n : Int))) s4 (.ow (nL D)) (.fr (.list (nL os))) s7 (.fr (dtm h n os)) told s10 (.fr (.int (s : Int))) (.fr (.int (y : Int))) d5, by simp [psM], by simp [psM]⟩⟩)
    rw [fm, List.map_cons] at c2
    have eQ : (PyData.int ((Q - 1 + 1 : Nat) : Int)) = .int (Q : Int) := by congr 2; omega
    rw [eQ] at c2
    have g0 : atI (PyData.int (Q : Int) :: rr.map fun i : Nat => PyData.int ((i + 1 : Nat) : Int)) 0 = some (.int (Q : Int)) := atI_nat (j := 0) rfl
    obtain ⟨RR, hRR⟩ : ∃ RR, RR = rr.map fun i : Nat => PyData.int ((i + 1 : Nat) : Int) := ⟨_, rfl⟩
    rw [← hRR] at c2 g0
    unfold psM at c2
    exact w_det (o := .nx (psM s2' (.fr (.int (n : Int))) s4 (.ow (nL D)) (.fr (.list (nL os))) s7 (.fr (dtm h n os)) told s10 (.fr (.int (s : Int))) s12 d5)) (by simp [-e_lc, psM, oo, c2, g0, qn_int, k12]) ⟨_, _, _, _, _, _, _, _, _, _, _, _, rfl, hA5, k4, k12⟩
end LK

namespace LK
open PySem PySem.Spec PyProof.Rows L2 MP
/-! ### the walk -/
section
variable {P : Program} {w : World} {K : Fg} {mg : Str → Option Value} {base : Heap}
theorem G_law_state (T : Txt K mg) : FnOk P w K mg base CX0 1 T.a_law_state T.d_law_state ["script"] (spState K) := by
  refine T.F_law_state.ok sc_law_state (fun vs H Q E h => ?_) (fun cdv A outer s H vs Q E hr h => ?_)
  · obtain ⟨a, ns, rfl, _⟩ := h
    rfl
  obtain ⟨a, ns, rfl, hS, hlen, q⟩ := h
  refine ⟨_, pss_cons (ps_set (i := 1) sc_law_state.nd rfl (.inl rfl) pe_int)
    (pss_cons (ps_for PassesOwn.never rfl (pi_list (pv 0)) (pg_name (i := 2) sc_law_state.nd rfl (.inl rfl))
      (pss_one (ps_set (i := 1) sc_law_state.nd rfl (.inl rfl) (pe_op op_modN (pe_callTy call_int1 (by rfl) T.z_int (by decide +kernel) (pa_cons (pe_op op_add (pe_op op_mul (pv 1) pe_int) (pv 2)) pa_nil)) pe_int))))
    (pss_one (ps_ret (pe_lst (pa_cons (pe_lc (own := [("cell", 2)]) (g := gName 2) (tt := tYes) rfl sc_law_state.nd (pi_list (pv 0)) (blkOk_by (N := ["script", "seed", "cell"]) (sc := defScope s_law_state) (by decide +kernel))
      (fun _ _ _ _ _ => pg_name (i := 2) sc_law_state.nd rfl (Or.inl rfl)) (fun _ _ _ _ _ => pts_nil) (fun _ _ _ _ _ => pe_callB call_abs (by rfl) T.z_abs (by decide +kernel) (pa_cons (pv 2) pa_nil)))
      (pa_cons (pe_op op_add (pv 1) pe_int) pa_nil)))))), ?_⟩
  refine ⟨_, rfl, a, rfl, ⟨_, hS⟩, for_list (K := K) (a := a) (xs := ns.map V.int) (fun i σ H' => H' = H ∧ ∃ y, σ = [some (.ref a), some (.int (seedA (ns.take i) 7)), y]) ⟨rfl, _, rfl⟩ (fun i σ H' _ h => by rw [h.1]; exact hS) ?_ ?_⟩
  · rintro i x σ H' hi ⟨rfl, y, rfl⟩
    obtain ⟨c, hc, rfl⟩ := mapInt_get hi
    refine ⟨_, rfl, _, _, rfl, rfl, .inr ⟨by decide, by decide⟩, _, rfl, _, _, rfl, rfl, .inl ⟨_, rfl, _, _, rfl, rfl, by show (1000003 : Int) ≠ 0; decide, rfl, some (.int c), ?_⟩⟩
    rw [take_snoc hc, seedA_snoc]
    rfl
  · rintro σ H' ⟨rfl, y, rfl⟩
    have et : ns.take (ns.map V.int).length = ns := by rw [List.length_map, List.take_length]
    rw [et]
    refine ⟨_, rfl, a, rfl, ⟨_, hS⟩, fun D hD => lc_list (K := K) (a := a) (xs := ns.map V.int) (fun i H2 => Same H' H2 ∧ H2 D = some (.lst (((ns.take i).map fun c => if c < 0 then -c else c).map V.int))) ⟨same_upd hD, upd_same⟩ (fun i H2 _ h => h.1.seq hS) ?_ ?_⟩
    · rintro i x H2 hi ⟨sm, hD2⟩
      obtain ⟨c, hc, rfl⟩ := mapInt_get hi
      refine ⟨rfl, ?_⟩
      unfold tYes
      dsimp only
      rw [if_pos rfl]
      refine ⟨_, rfl, _, rfl, _, hD2, ?_, fun b o z => ?_, ?_⟩
      · rw [List.length_map, List.length_map, List.length_take]
        have : (63 : Nat) < sizeLine := by decide
        omega
      · rw [upd_ne (ne_of_none z hD)]
        exact sm _ _ z
      · rw [upd_same, take_snoc hc, List.map_append, List.map_append]
        rfl
    · rintro H2 ⟨sm, hD2⟩
      rw [et] at hD2
      refine ⟨_, rfl, _, _, rfl, rfl, by show 2 ≤ sizeLine; decide, fun p hp => q p D _ ⟨?_, upd_same, ?_⟩⟩
      · rintro rfl
        rw [hD2] at hp
        cases hp
      · rw [upd_ne (ne_of_none hD2 hp)]
        exact hD2

theorem G_law_draw (T : Txt K mg) : FnOk P w K mg base CX0 1 T.a_law_draw T.d_law_draw ["state", "many"] (spM K 2 fn_law_draw) := by
  refine T.F_law_draw.ok sc_law_draw (fun vs H Q E h => ?_) (fun cdv A outer s H vs Q E hr h => ?_)
  · obtain ⟨G, F0, dr, dr', ds, r, hl, _⟩ := h
    exact hl
  obtain ⟨G, F0, dr, dr', ds, r, hl, fh, hd, hnd, rl, e, q⟩ := h
  obtain ⟨many, cs, seed, rfl, rfl, hm⟩ := draw_args e
  have hst : G.st = true := by
    cases z : G.st with
    | true => rfl
    | false => cases hnd z
  obtain ⟨da, ft⟩ := hd hst
  obtain ⟨tc, hT, hC⟩ := id da
  obtain rfl := draw_vals rl
  refine ⟨_, pss_cons (ps_set (i := 2) sc_law_draw.nd rfl (.inl rfl) (pe_ix ix_list (pv 0) pe_int (fun _ _ => rfl)))
    (pss_cons (ps_while PassesOwn.never (PW.pt (pw_and (pt_cmpR op_gt (pe_callB call_len_seq (by rfl) T.z_len PySem.boot_len (pa_cons (pv 2) pa_nil)) pe_int (nomark _))
        (pw_and1 (pt_cmpR op_eq (pe_ix ix_list (pv 2) pe_int (fun _ _ => rfl)) pe_int (nomark _)))))
        (pss_one (ps_expr (pe_bm PySem.F.plainAttrs_list PySem.F.slot_list_pop PySem.F.type_list_pop mt_popAt (pv 2) (pa_cons pe_int pa_nil)))))
    (pss_cons (ps_if (pt_cmpR op_gt (pe_callB call_len_seq (by rfl) T.z_len PySem.boot_len (pa_cons (pv 2) pa_nil)) pe_int (nomark _))
        (pss_cons (ps_set (i := 3) sc_law_draw.nd rfl (.inl rfl) (pe_ix ix_list (pv 2) pe_int (fun _ _ => rfl)))
        (pss_cons (ps_asg (pe_op op_fdivN (pv 3) (pv 1)) (pg_sub (pv 2) pe_int set_list))
        (pss_one (ps_ret (pe_op op_modN (pe_callTy call_int1 (by rfl) T.z_int (by decide +kernel) (pa_cons (pv 3) pa_nil)) (pv 1)))))) pss_nil)
    (pss_cons (ps_set (i := 4) sc_law_draw.nd rfl (.inl rfl) (pe_op op_modN (pe_callTy call_int1 (by rfl) T.z_int (by decide +kernel) (pa_cons (pe_op op_add (pe_op op_mul (pe_ix ix_list (pv 0) pe_int (fun _ _ => rfl)) pe_int) pe_int) pa_nil)) pe_int))
    (pss_cons (ps_asg (pv 4) (pg_sub (pv 0) pe_int set_list))
    (pss_one (ps_ret (pe_op op_modN (pe_callTy call_int1 (by rfl) T.z_int (by decide +kernel) (pa_cons (pe_op op_fdivN (pv 4) pe_int) pa_nil)) (pv 1)))))))), ?_⟩
  refine ⟨_, rfl, G.T, _, 0, .ref G.C, rfl, rfl, SqL.of hT, atI_nat (j := 0) rfl, ?_⟩
  -- the zeros ahead
  refine ⟨fun i σ H1 => ∃ l : List Int, i = l.length ∧ σ = [some (.ref G.T), some (.int many), some (.ref G.C), none, none] ∧ H1 = upd H G.C (.lst (l.map V.int)) ∧ l.dropWhile (· == 0) = cs.dropWhile (· == 0), ⟨cs.length, cs, rfl, rfl, (upd_self hC).symm, rfl⟩, ?_⟩
  rintro i σ H1 ⟨l, rfl, rfl, rfl, el⟩
  have cC : upd H G.C (.lst (l.map V.int)) G.C = some (.lst (l.map V.int)) := upd_same
  cases l with
  | nil =>
    refine ⟨.ref G.C, rfl, G.C, _, rfl, .inl (SqL.of cC), _, _, rfl, rfl, false, rfl, iteF (iteF ?_)⟩
    -- nothing is left
    refine ⟨.ref G.C, rfl, G.C, _, rfl, .inl (SqL.of cC), _, _, rfl, rfl, false, rfl, iteF ?_⟩
    have cT : upd H G.C (.lst (([] : List Int).map V.int)) G.T = some (.lst [.ref G.C, .int seed]) := by rw [upd_ne tc]; exact hT
    refine ⟨_, rfl, G.T, _, 1, .int seed, rfl, rfl, SqL.of cT, atI_nat (j := 1) rfl, seed, 48271, rfl, rfl, .inr ⟨by decide, by decide⟩, _, _, rfl, rfl, .inl ⟨_, rfl, _, _, rfl, rfl, by show (2147483647 : Int) ≠ 0; decide, ?_⟩⟩
    refine ⟨_, rfl, _, rfl, G.T, _, 1, 1, rfl, rfl, cT, rfl, ?_⟩
    refine ⟨_, rfl, _, 64, rfl, rfl, ⟨by decide, by decide⟩, .inl ⟨_, rfl, _, rfl, _, _, rfl, rfl, hm.1, ?_⟩⟩
    have e2 := draw_nil hm (el.symm : cs.dropWhile (· == 0) = []) e
    obtain ⟨rfl, rfl⟩ := e2
    exact draw_end hst fh ft da rfl q
  | cons v l =>
    refine ⟨.ref G.C, rfl, G.C, _, rfl, .inl (SqL.of cC), _, _, rfl, rfl, true, len_pos, iteT ?_⟩
    refine ⟨.ref G.C, rfl, G.C, _, 0, .int v, rfl, rfl, SqL.of cC, atI_nat (j := 0) rfl, rfl, _, rfl, ?_⟩
    by_cases hv : v = 0
    · subst hv
      refine iteT ⟨fun σ' H' => σ' = [some (.ref G.T), some (.int many), some (.ref G.C), none, none] ∧ H' = upd H G.C (.lst (l.map V.int)), fun σ' H' ⟨e1, e2⟩ => ⟨l.length, by simp, l, rfl, e1, e2, by rw [← el, dropW_cons, if_pos rfl]⟩, ?_⟩
      refine ⟨.ref G.C, rfl, .inl ⟨rfl, _, SqL.of cC⟩, G.C, _, 0, 0, .int 0, rfl, rfl, cC, by decide, by decide, by simp [seqIndex?], rfl, rfl, ?_⟩
      rw [upd_upd]
      rfl
    · have hd : decide (V.int v = V.int 0) = false := decide_eq_false (fun z => hv (V.int.inj z))
      rw [hd]
      refine iteF ?_
      refine ⟨.ref G.C, rfl, G.C, _, rfl, .inl (SqL.of cC), _, _, rfl, rfl, true, len_pos, iteT ?_⟩
      refine ⟨.ref G.C, rfl, G.C, _, 0, .int v, rfl, rfl, SqL.of cC, atI_nat (j := 0) rfl, ?_⟩
      refine ⟨_, rfl, _, rfl, v, many, rfl, rfl, hm, .ref G.C, rfl, G.C, _, 0, 0, rfl, rfl, cC, by simp [ixN], ?_⟩
      refine ⟨_, rfl, .inl ⟨_, rfl, _, rfl, v, many, rfl, rfl, hm.1, ?_⟩⟩
      have e2 := draw_cons hm (show cs.dropWhile (· == 0) = v :: l by rw [← el, dropW_cons, if_neg hv]) e
      obtain ⟨rfl, rfl⟩ := e2
      refine draw_end hst fh ft da ?_ q
      rw [upd_upd, upd_self (a := G.T)]
      · rfl
      · rw [upd_ne tc]
        exact hT

theorem G_multiple (T : Txt K mg) : FnOk P w K mg base CX0 1 T.a_multiple T.d_multiple ["orders"] (spM K 1 fn_multiple) := by
  refine fn_ok T.F_multiple sc_multiple rfl (by decide) fun cdv A outer s H E (hr : Room 0 _) => ?_
  have hu : (XX P w K mg base ["orders", "told", "order"] "multiple" s_multiple T.a_multiple cdv A outer s H E).A.units + 65 < cLine := by
    show (A.deeper _).units + 65 < cLine
    have := hr.un
    omega
  have v0 : ∀ p, DE (XX P w K mg base ["orders", "told", "order"] "multiple" s_multiple T.a_multiple cdv A outer s H E) (.Name "orders" p) (tVar 0) (rdV 0) := fun p => de_var rfl (Or.inl rfl)
  have v1 : ∀ p, DE (XX P w K mg base ["orders", "told", "order"] "multiple" s_multiple T.a_multiple cdv A outer s H E) (.Name "told" p) (tVar 1) (rdV 1) := fun p => de_var rfl (Or.inl rfl)
  have v2 : ∀ p, DE (XX P w K mg base ["orders", "told", "order"] "multiple" s_multiple T.a_multiple cdv A outer s H E) (.Name "order" p) (tVar 2) (rdV 2) := fun p => de_var rfl (Or.inl rfl)
  exact ⟨_, (show DSs (XX P w K mg base ["orders", "told", "order"] "multiple" s_multiple T.a_multiple cdv A outer s H E) (defBody s_multiple) _ b_multiple from (dss_cons (ds_set (i := 1) sc_multiple.nd rfl (Or.inl rfl) de_int)
  (dss_cons (ds_for PassesOwn.never rfl (k_seq (K := K) (by rfl) (v0 _)) (dg_name (i := 2) sc_multiple.nd rfl (Or.inl rfl)) (dss_one (ds_set (i := 1) sc_multiple.nd rfl (Or.inl rfl) (de_fdiv (de_mul (v1 _) (v2 _)) (k_gcd (K := K) (by rfl) (by rfl) T.bf_gcd (da_cons (v1 _) (da_cons (v2 _) da_nil)))))))
  (dss_one (ds_ret (v1 _))))))⟩
theorem G_twos_in (T : Txt K mg) : FnOk P w K mg base CX0 1 T.a_twos_in T.d_twos_in ["number"] (spM K 1 fn_twos_in) := by
  refine fn_ok T.F_twos_in sc_twos_in rfl (by decide) fun cdv A outer s H E (hr : Room 0 _) => ?_
  have hu : (XX P w K mg base ["number", "told"] "twos_in" s_twos_in T.a_twos_in cdv A outer s H E).A.units + 65 < cLine := by
    show (A.deeper _).units + 65 < cLine
    have := hr.un
    omega
  have v0 : ∀ p, DE (XX P w K mg base ["number", "told"] "twos_in" s_twos_in T.a_twos_in cdv A outer s H E) (.Name "number" p) (tVar 0) (rdV 0) := fun p => de_var rfl (Or.inl rfl)
  have v1 : ∀ p, DE (XX P w K mg base ["number", "told"] "twos_in" s_twos_in T.a_twos_in cdv A outer s H E) (.Name "told" p) (tVar 1) (rdV 1) := fun p => de_var rfl (Or.inl rfl)
  exact ⟨_, (show DSs (XX P w K mg base ["number", "told"] "twos_in" s_twos_in T.a_twos_in cdv A outer s H E) (defBody s_twos_in) _ b_twos_in from (dss_cons (ds_set (i := 1) sc_twos_in.nd rfl (Or.inl rfl) de_int)
  (dss_cons (ds_while PassesOwn.never (kt_cmp (K := K) (by rfl) (ko_eq (K := K) (by rfl) (by exact hu)) eqD_ok (de_mod (v0 _) (de_mul de_int (v1 _))) de_int (nomark _)) (dss_one (ds_set (i := 1) sc_twos_in.nd rfl (Or.inl rfl) (de_mul de_int (v1 _)))))
  (dss_one (ds_ret (v1 _))))))⟩
theorem G_broken (T : Txt K mg) : FnOk P w K mg base CX0 2 T.a_broken T.d_broken ["datum"] (spM K 1 fn_broken) := by
  refine fn_ok T.F_broken sc_broken rfl (by decide) fun cdv A outer s H E (hr : Room 1 _) => ?_
  have hu : (XX P w K mg base ["datum", "handles", "sheets", "orders", "whole", "index", "order", "many"] "broken" s_broken T.a_broken cdv A outer s H E).A.units + 65 < cLine := by
    show (A.deeper _).units + 65 < cLine
    have := hr.un
    omega
  have v0 : ∀ p, DE (XX P w K mg base ["datum", "handles", "sheets", "orders", "whole", "index", "order", "many"] "broken" s_broken T.a_broken cdv A outer s H E) (.Name "datum" p) (tVar 0) (rdV 0) := fun p => de_var rfl (Or.inl rfl)
  have v1 : ∀ p, DE (XX P w K mg base ["datum", "handles", "sheets", "orders", "whole", "index", "order", "many"] "broken" s_broken T.a_broken cdv A outer s H E) (.Name "handles" p) (tVar 1) (rdV 1) := fun p => de_var rfl (Or.inl rfl)
  have v2 : ∀ p, DE (XX P w K mg base ["datum", "handles", "sheets", "orders", "whole", "index", "order", "many"] "broken" s_broken T.a_broken cdv A outer s H E) (.Name "sheets" p) (tVar 2) (rdV 2) := fun p => de_var rfl (Or.inl rfl)
  have v3 : ∀ p, DE (XX P w K mg base ["datum", "handles", "sheets", "orders", "whole", "index", "order", "many"] "broken" s_broken T.a_broken cdv A outer s H E) (.Name "orders" p) (tVar 3) (rdV 3) := fun p => de_var rfl (Or.inl rfl)
  have v4 : ∀ p, DE (XX P w K mg base ["datum", "handles", "sheets", "orders", "whole", "index", "order", "many"] "broken" s_broken T.a_broken cdv A outer s H E) (.Name "whole" p) (tVar 4) (rdV 4) := fun p => de_var rfl (Or.inr (Or.inl rfl))
  have v5 : ∀ p, DE (XX P w K mg base ["datum", "handles", "sheets", "orders", "whole", "index", "order", "many"] "broken" s_broken T.a_broken cdv A outer s H E) (.Name "index" p) (tVar 5) (rdV 5) := fun p => de_var rfl (Or.inl rfl)
  have v6 : ∀ p, DE (XX P w K mg base ["datum", "handles", "sheets", "orders", "whole", "index", "order", "many"] "broken" s_broken T.a_broken cdv A outer s H E) (.Name "order" p) (tVar 6) (rdV 6) := fun p => de_var rfl (Or.inl rfl)
  have v7 : ∀ p, DE (XX P w K mg base ["datum", "handles", "sheets", "orders", "whole", "index", "order", "many"] "broken" s_broken T.a_broken cdv A outer s H E) (.Name "many" p) (tVar 7) (rdV 7) := fun p => de_var rfl (Or.inl rfl)
  exact ⟨_, (show DSs (XX P w K mg base ["datum", "handles", "sheets", "orders", "whole", "index", "order", "many"] "broken" s_broken T.a_broken cdv A outer s H E) (defBody s_broken) _ b_broken from (dss_cons (ds_asg (v0 _) (k_gtup (K := K) (by rfl) (by rfl) (dgs_cons (dg_name (i := 1) sc_broken.nd rfl (Or.inl rfl)) (dgs_cons (dg_name (i := 2) sc_broken.nd rfl (Or.inl rfl)) (dgs_cons (dg_name (i := 3) sc_broken.nd rfl (Or.inl rfl)) dgs_nil)))))
  (dss_cons (ds_set (i := 4) sc_broken.nd rfl (Or.inr rfl) (k_call (K := K) (by rfl) (G_multiple T) (by exact hr.mono (by decide)) (by rfl) T.g_multiple T.F_multiple.kp (bind_multiple T) pass0 (da_cons (v3 _) da_nil) (da_len1 da_len0)))
  (dss_cons (ds_for PassesOwn.never rfl (k_enum (K := K) (by rfl) (by rfl) T.z_enumerate (v3 _)) (k_gtup (K := K) (by rfl) (by rfl) (dgs_cons (dg_name (i := 5) sc_broken.nd rfl (Or.inl rfl)) (dgs_cons (dg_name (i := 6) sc_broken.nd rfl (Or.inl rfl)) dgs_nil))) (dss_one (ds_ite (kt_cmp (K := K) (by rfl) (ko_ne (K := K) (by rfl) (by exact hu)) neD_ok (de_mod (v2 _) (v6 _)) de_int (nomark _)) (dss_one (ds_ret (de_tup (da_cons de_str (da_cons (v5 _) da_nil))))) dss_nil)))
  (dss_cons (ds_for PassesOwn.never rfl (di_range1 (by rfl) T.z_range (da_cons (k_callB1 (K := K) (by rfl) (kc_len (K := K) (by rfl)) lenD_ok (by rfl) T.z_len PySem.boot_len (v3 _)) da_nil)) (dg_name (i := 5) sc_broken.nd rfl (Or.inl rfl)) (dss_one (ds_ite (kt_cmp (K := K) (by rfl) (ko_ne (K := K) (by rfl) (by exact hu)) neD_ok (k_call (K := K) (by rfl) (G_multiple T) (by exact hr.mono (by decide)) (by rfl) T.g_multiple T.F_multiple.kp (bind_multiple T) pass0 (da_cons (k_add (K := K) (by rfl) (k_slice (K := K) (by rfl) (v3 _) do_none (do_some (v5 _))) (k_slice (K := K) (by rfl) (v3 _) (do_some (k_add (K := K) (by rfl) (v5 _) de_int)) do_none)) da_nil) (da_len1 da_len0)) (v4 _) (nomark _)) (dss_one (ds_ret (de_tup (da_cons de_str (da_cons (v5 _) da_nil))))) dss_nil)))
  (dss_cons (ds_ite (DW.dt (dw_and (kt_cmp (K := K) (by rfl) (ko_eq (K := K) (by rfl) (by exact hu)) eqD_ok (v1 _) de_int (nomark _)) (dw_and1 (kt_cmp (K := K) (by rfl) (ko_ne (K := K) (by rfl) (by exact hu)) neD_ok (v4 _) (v2 _) (nomark _))))) (dss_one (ds_ret (de_tup (da_cons de_str (da_cons (v4 _) da_nil))))) dss_nil)
  (dss_cons (ds_set (i := 7) sc_broken.nd rfl (Or.inl rfl) (k_callB1 (K := K) (by rfl) (kc_len (K := K) (by rfl)) lenD_ok (by rfl) T.z_len PySem.boot_len (de_lc (own := [("order", 6)]) (is := [6]) rfl sc_broken.nd (k_seq (K := K) (by rfl) (v3 _)) (blkOk_by (own := [("order", 6)]) (N := ["datum", "handles", "sheets", "orders", "whole", "index", "order", "many"]) (sc := defScope s_broken) (by decide +kernel)) (fun _ _ _ _ _ => (dg_name (i := 6) sc_broken.nd rfl (Or.inl rfl))) (by decide) (fun _ _ _ _ _ => (dts_one (kt_cmp (K := K) (by rfl) (ko_eq (K := K) (by rfl) (by exact hu)) eqD_ok (de_mod (de_var (i := 6) (x := "order") rfl (Or.inl rfl)) (k_call (K := K) (by rfl) (G_twos_in T) (by exact hr.mono (by decide)) (by rfl) T.g_twos_in T.F_twos_in.kp (bind_twos_in T) pass0 (da_cons (de_var (i := 4) (x := "whole") rfl (Or.inr (Or.inl rfl))) da_nil) (da_len1 da_len0))) de_int (nomark _)))) (fun _ _ _ _ _ => (de_var (i := 6) (x := "order") rfl (Or.inl rfl))))))
  (dss_cons (ds_ite (DW.dt (dw_and (kt_cmp (K := K) (by rfl) (ko_eq (K := K) (by rfl) (by exact hu)) eqD_ok (de_mod (v4 _) de_int) de_int (nomark _)) (dw_and1 (kt_cmp (K := K) (by rfl) (ko_eq (K := K) (by rfl) (by exact hu)) eqD_ok (de_mod (v7 _) de_int) de_int (nomark _))))) (dss_one (ds_ret (de_tup (da_cons de_str (da_cons (v7 _) da_nil))))) dss_nil)
  (dss_one (ds_ret de_non))))))))))⟩
theorem G_prime_powers (T : Txt K mg) : FnOk P w K mg base CX0 1 T.a_prime_powers T.d_prime_powers ["number"] (spM K 1 fn_prime_powers) := by
  refine fn_ok T.F_prime_powers sc_prime_powers rfl (by decide) fun cdv A outer s H E (hr : Room 0 _) => ?_
  have hu : (XX P w K mg base ["number", "told", "prime", "power"] "prime_powers" s_prime_powers T.a_prime_powers cdv A outer s H E).A.units + 65 < cLine := by
    show (A.deeper _).units + 65 < cLine
    have := hr.un
    omega
  have v0 : ∀ p, DE (XX P w K mg base ["number", "told", "prime", "power"] "prime_powers" s_prime_powers T.a_prime_powers cdv A outer s H E) (.Name "number" p) (tVar 0) (rdV 0) := fun p => de_var rfl (Or.inl rfl)
  have v1 : ∀ p, DE (XX P w K mg base ["number", "told", "prime", "power"] "prime_powers" s_prime_powers T.a_prime_powers cdv A outer s H E) (.Name "told" p) (tVar 1) (rdV 1) := fun p => de_var rfl (Or.inl rfl)
  have v2 : ∀ p, DE (XX P w K mg base ["number", "told", "prime", "power"] "prime_powers" s_prime_powers T.a_prime_powers cdv A outer s H E) (.Name "prime" p) (tVar 2) (rdV 2) := fun p => de_var rfl (Or.inl rfl)
  have v3 : ∀ p, DE (XX P w K mg base ["number", "told", "prime", "power"] "prime_powers" s_prime_powers T.a_prime_powers cdv A outer s H E) (.Name "power" p) (tVar 3) (rdV 3) := fun p => de_var rfl (Or.inl rfl)
  exact ⟨_, (show DSs (XX P w K mg base ["number", "told", "prime", "power"] "prime_powers" s_prime_powers T.a_prime_powers cdv A outer s H E) (defBody s_prime_powers) _ b_prime_powers from (dss_cons (ds_set (i := 1) sc_prime_powers.nd rfl (Or.inl rfl) (de_lst da_nil))
  (dss_cons (ds_set (i := 2) sc_prime_powers.nd rfl (Or.inl rfl) de_int)
  (dss_cons (ds_while PassesOwn.never (kt_cmp (K := K) (by rfl) op_gt cmpI_ok (v0 _) de_int (nomark _)) (dss_cons (ds_set (i := 3) sc_prime_powers.nd rfl (Or.inl rfl) de_int)
  (dss_cons (ds_while PassesOwn.never (kt_cmp (K := K) (by rfl) (ko_eq (K := K) (by rfl) (by exact hu)) eqD_ok (de_mod (v0 _) (v2 _)) de_int (nomark _)) (dss_cons (ds_set (i := 0) sc_prime_powers.nd rfl (Or.inl rfl) (de_fdiv (v0 _) (v2 _)))
  (dss_one (ds_set (i := 3) sc_prime_powers.nd rfl (Or.inl rfl) (de_mul (v3 _) (v2 _))))))
  (dss_cons (ds_ite (kt_cmp (K := K) (by rfl) op_gt cmpI_ok (v3 _) de_int (nomark _)) (dss_one (ds_app (j := 1) rfl (Or.inl rfl) (de_tup (da_cons (v2 _) (da_cons (v3 _) da_nil))))) dss_nil)
  (dss_one (ds_set (i := 2) sc_prime_powers.nd rfl (Or.inl rfl) (k_add (K := K) (by rfl) (v2 _) de_int)))))))
  (dss_one (ds_ret (v1 _)))))))⟩
theorem G_put_together (T : Txt K mg) : FnOk P w K mg base CX0 1 T.a_put_together T.d_put_together ["steps", "power", "more", "other"] (spM K 4 fn_put_together) := by
  refine fn_ok T.F_put_together sc_put_together rfl (by decide) fun cdv A outer s H E (hr : Room 0 _) => ?_
  have hu : (XX P w K mg base ["steps", "power", "more", "other", "told", "one", "two"] "put_together" s_put_together T.a_put_together cdv A outer s H E).A.units + 65 < cLine := by
    show (A.deeper _).units + 65 < cLine
    have := hr.un
    omega
  have v0 : ∀ p, DE (XX P w K mg base ["steps", "power", "more", "other", "told", "one", "two"] "put_together" s_put_together T.a_put_together cdv A outer s H E) (.Name "steps" p) (tVar 0) (rdV 0) := fun p => de_var rfl (Or.inl rfl)
  have v1 : ∀ p, DE (XX P w K mg base ["steps", "power", "more", "other", "told", "one", "two"] "put_together" s_put_together T.a_put_together cdv A outer s H E) (.Name "power" p) (tVar 1) (rdV 1) := fun p => de_var rfl (Or.inl rfl)
  have v2 : ∀ p, DE (XX P w K mg base ["steps", "power", "more", "other", "told", "one", "two"] "put_together" s_put_together T.a_put_together cdv A outer s H E) (.Name "more" p) (tVar 2) (rdV 2) := fun p => de_var rfl (Or.inl rfl)
  have v3 : ∀ p, DE (XX P w K mg base ["steps", "power", "more", "other", "told", "one", "two"] "put_together" s_put_together T.a_put_together cdv A outer s H E) (.Name "other" p) (tVar 3) (rdV 3) := fun p => de_var rfl (Or.inl rfl)
  have v4 : ∀ p, DE (XX P w K mg base ["steps", "power", "more", "other", "told", "one", "two"] "put_together" s_put_together T.a_put_together cdv A outer s H E) (.Name "told" p) (tVar 4) (rdV 4) := fun p => de_var rfl (Or.inl rfl)
  have v5 : ∀ p, DE (XX P w K mg base ["steps", "power", "more", "other", "told", "one", "two"] "put_together" s_put_together T.a_put_together cdv A outer s H E) (.Name "one" p) (tVar 5) (rdV 5) := fun p => de_var rfl (Or.inl rfl)
  have v6 : ∀ p, DE (XX P w K mg base ["steps", "power", "more", "other", "told", "one", "two"] "put_together" s_put_together T.a_put_together cdv A outer s H E) (.Name "two" p) (tVar 6) (rdV 6) := fun p => de_var rfl (Or.inl rfl)
  exact ⟨_, (show DSs (XX P w K mg base ["steps", "power", "more", "other", "told", "one", "two"] "put_together" s_put_together T.a_put_together cdv A outer s H E) (defBody s_put_together) _ b_put_together from (dss_cons (ds_set (i := 4) sc_put_together.nd rfl (Or.inl rfl) (de_lst da_nil))
  (dss_cons (ds_for PassesOwn.never rfl (k_zip (K := K) (by rfl) (by rfl) T.z_zip (da_cons (v0 _) (da_cons (v2 _) da_nil))) (k_gtup (K := K) (by rfl) (by rfl) (dgs_cons (dg_name (i := 5) sc_put_together.nd rfl (Or.inl rfl)) (dgs_cons (dg_name (i := 6) sc_put_together.nd rfl (Or.inl rfl)) dgs_nil))) (dss_cons (ds_while PassesOwn.never (kt_cmp (K := K) (by rfl) (ko_ne (K := K) (by rfl) (by exact hu)) neD_ok (de_mod (v5 _) (v3 _)) (v6 _) (nomark _)) (dss_one (ds_set (i := 5) sc_put_together.nd rfl (Or.inl rfl) (k_add (K := K) (by rfl) (v5 _) (v1 _)))))
  (dss_one (ds_app (j := 4) rfl (Or.inl rfl) (v5 _)))))
  (dss_one (ds_ret (v4 _))))))⟩
theorem G_part_steps (T : Txt K mg) : FnOk P w K mg base CX0 1 T.a_part_steps T.d_part_steps ["orders", "prime", "power"] (spM K 3 fn_part_steps) := by
  refine fn_ok T.F_part_steps sc_part_steps rfl (by decide) fun cdv A outer s H E (hr : Room 0 _) => ?_
  have hu : (XX P w K mg base ["orders", "prime", "power", "parts", "told", "great", "left", "first", "order", "part", "at", "step"] "part_steps" s_part_steps T.a_part_steps cdv A outer s H E).A.units + 65 < cLine := by
    show (A.deeper _).units + 65 < cLine
    have := hr.un
    omega
  have v0 : ∀ p, DE (XX P w K mg base ["orders", "prime", "power", "parts", "told", "great", "left", "first", "order", "part", "at", "step"] "part_steps" s_part_steps T.a_part_steps cdv A outer s H E) (.Name "orders" p) (tVar 0) (rdV 0) := fun p => de_var rfl (Or.inl rfl)
  have v1 : ∀ p, DE (XX P w K mg base ["orders", "prime", "power", "parts", "told", "great", "left", "first", "order", "part", "at", "step"] "part_steps" s_part_steps T.a_part_steps cdv A outer s H E) (.Name "prime" p) (tVar 1) (rdV 1) := fun p => de_var rfl (Or.inl rfl)
  have v2 : ∀ p, DE (XX P w K mg base ["orders", "prime", "power", "parts", "told", "great", "left", "first", "order", "part", "at", "step"] "part_steps" s_part_steps T.a_part_steps cdv A outer s H E) (.Name "power" p) (tVar 2) (rdV 2) := fun p => de_var rfl (Or.inr (Or.inl rfl))
  have v3 : ∀ p, DE (XX P w K mg base ["orders", "prime", "power", "parts", "told", "great", "left", "first", "order", "part", "at", "step"] "part_steps" s_part_steps T.a_part_steps cdv A outer s H E) (.Name "parts" p) (tVar 3) (rdV 3) := fun p => de_var rfl (Or.inl rfl)
  have v4 : ∀ p, DE (XX P w K mg base ["orders", "prime", "power", "parts", "told", "great", "left", "first", "order", "part", "at", "step"] "part_steps" s_part_steps T.a_part_steps cdv A outer s H E) (.Name "told" p) (tVar 4) (rdV 4) := fun p => de_var rfl (Or.inl rfl)
  have v5 : ∀ p, DE (XX P w K mg base ["orders", "prime", "power", "parts", "told", "great", "left", "first", "order", "part", "at", "step"] "part_steps" s_part_steps T.a_part_steps cdv A outer s H E) (.Name "great" p) (tVar 5) (rdV 5) := fun p => de_var rfl (Or.inr (Or.inl rfl))
  have v6 : ∀ p, DE (XX P w K mg base ["orders", "prime", "power", "parts", "told", "great", "left", "first", "order", "part", "at", "step"] "part_steps" s_part_steps T.a_part_steps cdv A outer s H E) (.Name "left" p) (tVar 6) (rdV 6) := fun p => de_var rfl (Or.inl rfl)
  have v7 : ∀ p, DE (XX P w K mg base ["orders", "prime", "power", "parts", "told", "great", "left", "first", "order", "part", "at", "step"] "part_steps" s_part_steps T.a_part_steps cdv A outer s H E) (.Name "first" p) (tVar 7) (rdV 7) := fun p => de_var rfl (Or.inl rfl)
  exact ⟨_, (show DSs (XX P w K mg base ["orders", "prime", "power", "parts", "told", "great", "left", "first", "order", "part", "at", "step"] "part_steps" s_part_steps T.a_part_steps cdv A outer s H E) (defBody s_part_steps) _ b_part_steps from (dss_cons (ds_lc (own := [("order", 8)]) (is := [8]) (i := 3) rfl sc_part_steps.nd rfl rfl (sw_true rfl rfl rfl (by decide +kernel)) (k_seq (K := K) (by rfl) (v0 _)) (blkOk_by (own := [("order", 8)]) (N := ["orders", "prime", "power", "parts", "told", "great", "left", "first", "order", "part", "at", "step"]) (sc := defScope s_part_steps) (by decide +kernel)) (fun _ _ _ _ _ => (dg_name (i := 8) sc_part_steps.nd rfl (Or.inl rfl))) (by decide) (fun _ _ _ _ _ => dts_nil) (fun _ _ _ _ _ => (k_gcd (K := K) (by rfl) (by rfl) T.bf_gcd (da_cons (de_var (i := 8) (x := "order") rfl (Or.inl rfl)) (da_cons (de_var (i := 2) (x := "power") rfl (Or.inr (Or.inl rfl))) da_nil)))))
  (dss_cons (ds_lc (own := [("part", 9)]) (is := [9]) (i := 4) rfl sc_part_steps.nd rfl rfl (sw_true rfl rfl rfl (by decide +kernel)) (k_seq (K := K) (by rfl) (v3 _)) (blkOk_by (own := [("part", 9)]) (N := ["orders", "prime", "power", "parts", "told", "great", "left", "first", "order", "part", "at", "step"]) (sc := defScope s_part_steps) (by decide +kernel)) (fun _ _ _ _ _ => (dg_name (i := 9) sc_part_steps.nd rfl (Or.inl rfl))) (by decide) (fun _ _ _ _ _ => dts_nil) (fun _ _ _ _ _ => (de_fdiv (de_var (i := 2) (x := "power") rfl (Or.inr (Or.inl rfl))) (de_var (i := 9) (x := "part") rfl (Or.inl rfl)))))
  (dss_cons (ds_set (i := 5) sc_part_steps.nd rfl (Or.inr rfl) (de_lc (own := [("at", 10), ("part", 9)]) (is := [10, 9]) rfl sc_part_steps.nd (k_enum (K := K) (by rfl) (by rfl) T.z_enumerate (v3 _)) (blkOk_by (own := [("at", 10), ("part", 9)]) (N := ["orders", "prime", "power", "parts", "told", "great", "left", "first", "order", "part", "at", "step"]) (sc := defScope s_part_steps) (by decide +kernel)) (fun _ _ _ _ _ => (k_gtup (K := K) (by rfl) (by rfl) (dgs_cons (dg_name (i := 10) sc_part_steps.nd rfl (Or.inl rfl)) (dgs_cons (dg_name (i := 9) sc_part_steps.nd rfl (Or.inl rfl)) dgs_nil)))) (by decide) (fun _ _ _ _ _ => (dts_one (kt_cmp (K := K) (by rfl) (ko_eq (K := K) (by rfl) (by exact hu)) eqD_ok (de_var (i := 9) (x := "part") rfl (Or.inl rfl)) (de_var (i := 2) (x := "power") rfl (Or.inr (Or.inl rfl))) (nomark _)))) (fun _ _ _ _ _ => (de_var (i := 10) (x := "at") rfl (Or.inl rfl)))))
  (dss_cons (ds_set (i := 6) sc_part_steps.nd rfl (Or.inl rfl) (de_neg (k_callB1 (K := K) (by rfl) (kc_sumA (K := K) (by rfl)) sumAD_ok (by rfl) T.z_sum (by decide +kernel) (k_lcOE (own := [("at", 10), ("step", 11)]) (is := [10, 11]) (K := K) (j := 4) (by rfl) rfl (Or.inl rfl) (by rfl) T.z_enumerate rfl sc_part_steps.nd (blkOk_by (own := [("at", 10), ("step", 11)]) (N := ["orders", "prime", "power", "parts", "told", "great", "left", "first", "order", "part", "at", "step"]) (sc := defScope s_part_steps) (by decide +kernel)) (fun _ _ _ _ _ => (k_gtup (K := K) (by rfl) (by rfl) (dgs_cons (dg_name (i := 10) sc_part_steps.nd rfl (Or.inl rfl)) (dgs_cons (dg_name (i := 11) sc_part_steps.nd rfl (Or.inl rfl)) dgs_nil)))) (by decide) (fun _ _ _ _ _ => (dts_one (kt_cmp (K := K) (by rfl) (ko_nin (K := K) (by rfl) (by exact hu)) ninD_ok (de_var (i := 10) (x := "at") rfl (Or.inl rfl)) (k_slice (K := K) (by rfl) (de_var (i := 5) (x := "great") rfl (Or.inr (Or.inl rfl))) do_none (do_some de_int)) (by rfl)))) (fun _ _ _ _ _ => (de_var (i := 11) (x := "step") rfl (Or.inl rfl)))))))
  (dss_cons (ds_set (i := 7) sc_part_steps.nd rfl (Or.inl rfl) (de_if (kt_cmp (K := K) (by rfl) (ko_ne (K := K) (by rfl) (by exact hu)) neD_ok (de_mod (de_sub (v6 _) de_int) (v1 _)) de_int (nomark _)) de_int de_int))
  (dss_cons (ds_sto (j := 4) rfl (Or.inl rfl) (v7 _) (k_ix (K := K) (by rfl) (v5 _) de_int (by intro _ _; rfl)))
  (dss_cons (ds_sto (j := 4) rfl (Or.inl rfl) (de_mod (de_sub (v6 _) (v7 _)) (v2 _)) (k_ix (K := K) (by rfl) (v5 _) de_int (by intro _ _; rfl)))
  (dss_one (ds_ret (de_lc (own := [("step", 11)]) (is := [11]) rfl sc_part_steps.nd (k_seq (K := K) (by rfl) (v4 _)) (blkOk_by (own := [("step", 11)]) (N := ["orders", "prime", "power", "parts", "told", "great", "left", "first", "order", "part", "at", "step"]) (sc := defScope s_part_steps) (by decide +kernel)) (fun _ _ _ _ _ => (dg_name (i := 11) sc_part_steps.nd rfl (Or.inl rfl))) (by decide) (fun _ _ _ _ _ => dts_nil) (fun _ _ _ _ _ => (de_mod (de_var (i := 11) (x := "step") rfl (Or.inl rfl)) (de_var (i := 2) (x := "power") rfl (Or.inr (Or.inl rfl))))))))))))))))⟩
theorem G_make_cyclic (T : Txt K mg) : FnOk P w K mg base CX0 3 T.a_make_cyclic T.d_make_cyclic ["datum"] (spM K 1 fn_make_cyclic) := by
  refine fn_ok T.F_make_cyclic sc_make_cyclic rfl (by decide) fun cdv A outer s H E (hr : Room 2 _) => ?_
  have hu : (XX P w K mg base ["datum", "handles", "sheets", "orders", "why", "steps", "done", "prime", "power", "free", "step"] "make_cyclic" s_make_cyclic T.a_make_cyclic cdv A outer s H E).A.units + 65 < cLine := by
    show (A.deeper _).units + 65 < cLine
    have := hr.un
    omega
  have v0 : ∀ p, DE (XX P w K mg base ["datum", "handles", "sheets", "orders", "why", "steps", "done", "prime", "power", "free", "step"] "make_cyclic" s_make_cyclic T.a_make_cyclic cdv A outer s H E) (.Name "datum" p) (tVar 0) (rdV 0) := fun p => de_var rfl (Or.inl rfl)
  have v1 : ∀ p, DE (XX P w K mg base ["datum", "handles", "sheets", "orders", "why", "steps", "done", "prime", "power", "free", "step"] "make_cyclic" s_make_cyclic T.a_make_cyclic cdv A outer s H E) (.Name "handles" p) (tVar 1) (rdV 1) := fun p => de_var rfl (Or.inl rfl)
  have v2 : ∀ p, DE (XX P w K mg base ["datum", "handles", "sheets", "orders", "why", "steps", "done", "prime", "power", "free", "step"] "make_cyclic" s_make_cyclic T.a_make_cyclic cdv A outer s H E) (.Name "sheets" p) (tVar 2) (rdV 2) := fun p => de_var rfl (Or.inr (Or.inl rfl))
  have v3 : ∀ p, DE (XX P w K mg base ["datum", "handles", "sheets", "orders", "why", "steps", "done", "prime", "power", "free", "step"] "make_cyclic" s_make_cyclic T.a_make_cyclic cdv A outer s H E) (.Name "orders" p) (tVar 3) (rdV 3) := fun p => de_var rfl (Or.inl rfl)
  have v4 : ∀ p, DE (XX P w K mg base ["datum", "handles", "sheets", "orders", "why", "steps", "done", "prime", "power", "free", "step"] "make_cyclic" s_make_cyclic T.a_make_cyclic cdv A outer s H E) (.Name "why" p) (tVar 4) (rdV 4) := fun p => de_var rfl (Or.inl rfl)
  have v5 : ∀ p, DE (XX P w K mg base ["datum", "handles", "sheets", "orders", "why", "steps", "done", "prime", "power", "free", "step"] "make_cyclic" s_make_cyclic T.a_make_cyclic cdv A outer s H E) (.Name "steps" p) (tVar 5) (rdV 5) := fun p => de_var rfl (Or.inl rfl)
  have v6 : ∀ p, DE (XX P w K mg base ["datum", "handles", "sheets", "orders", "why", "steps", "done", "prime", "power", "free", "step"] "make_cyclic" s_make_cyclic T.a_make_cyclic cdv A outer s H E) (.Name "done" p) (tVar 6) (rdV 6) := fun p => de_var rfl (Or.inr (Or.inl rfl))
  have v7 : ∀ p, DE (XX P w K mg base ["datum", "handles", "sheets", "orders", "why", "steps", "done", "prime", "power", "free", "step"] "make_cyclic" s_make_cyclic T.a_make_cyclic cdv A outer s H E) (.Name "prime" p) (tVar 7) (rdV 7) := fun p => de_var rfl (Or.inl rfl)
  have v8 : ∀ p, DE (XX P w K mg base ["datum", "handles", "sheets", "orders", "why", "steps", "done", "prime", "power", "free", "step"] "make_cyclic" s_make_cyclic T.a_make_cyclic cdv A outer s H E) (.Name "power" p) (tVar 8) (rdV 8) := fun p => de_var rfl (Or.inl rfl)
  have v9 : ∀ p, DE (XX P w K mg base ["datum", "handles", "sheets", "orders", "why", "steps", "done", "prime", "power", "free", "step"] "make_cyclic" s_make_cyclic T.a_make_cyclic cdv A outer s H E) (.Name "free" p) (tVar 9) (rdV 9) := fun p => de_var rfl (Or.inl rfl)
  exact ⟨_, (show DSs (XX P w K mg base ["datum", "handles", "sheets", "orders", "why", "steps", "done", "prime", "power", "free", "step"] "make_cyclic" s_make_cyclic T.a_make_cyclic cdv A outer s H E) (defBody s_make_cyclic) _ b_make_cyclic from (dss_cons (ds_asg (v0 _) (k_gtup (K := K) (by rfl) (by rfl) (dgs_cons (dg_name (i := 1) sc_make_cyclic.nd rfl (Or.inl rfl)) (dgs_cons (dg_name (i := 2) sc_make_cyclic.nd rfl (Or.inr rfl)) (dgs_cons (dg_name (i := 3) sc_make_cyclic.nd rfl (Or.inl rfl)) dgs_nil)))))
  (dss_cons (ds_set (i := 4) sc_make_cyclic.nd rfl (Or.inl rfl) (k_call (K := K) (by rfl) (G_broken T) (by exact hr.mono (by decide)) (by rfl) T.g_broken T.F_broken.kp (bind_broken T) pass0 (da_cons (v0 _) da_nil) (da_len1 da_len0)))
  (dss_cons (ds_ite (kt_cmp (K := K) (by rfl) op_notN notND_ok (v4 _) de_non (nomark _)) (dss_one (ds_ret (k_add (K := K) (by rfl) (de_tup (da_cons de_str da_nil)) (v4 _)))) dss_nil)
  (dss_cons (ds_set (i := 5) sc_make_cyclic.nd rfl (Or.inl rfl) (de_mul (de_lst (da_cons de_int da_nil)) (k_callB1 (K := K) (by rfl) (kc_len (K := K) (by rfl)) lenD_ok (by rfl) T.z_len PySem.boot_len (v3 _))))
  (dss_cons (ds_set (i := 6) sc_make_cyclic.nd rfl (Or.inr rfl) de_int)
  (dss_cons (ds_for PassesOwn.never rfl (k_seq (K := K) (by rfl) (k_call (K := K) (by rfl) (G_prime_powers T) (by exact hr.mono (by decide)) (by rfl) T.g_prime_powers T.F_prime_powers.kp (bind_prime_powers T) pass0 (da_cons (k_call (K := K) (by rfl) (G_multiple T) (by exact hr.mono (by decide)) (by rfl) T.g_multiple T.F_multiple.kp (bind_multiple T) pass0 (da_cons (v3 _) da_nil) (da_len1 da_len0)) da_nil) (da_len1 da_len0))) (k_gtup (K := K) (by rfl) (by rfl) (dgs_cons (dg_name (i := 7) sc_make_cyclic.nd rfl (Or.inl rfl)) (dgs_cons (dg_name (i := 8) sc_make_cyclic.nd rfl (Or.inl rfl)) dgs_nil))) (dss_cons (ds_set (i := 5) sc_make_cyclic.nd rfl (Or.inl rfl) (k_call (K := K) (by rfl) (G_put_together T) (by exact hr.mono (by decide)) (by rfl) T.g_put_together T.F_put_together.kp (bind_put_together T) pass0 (da_cons (v5 _) (da_cons (v6 _) (da_cons (k_call (K := K) (by rfl) (G_part_steps T) (by exact hr.mono (by decide)) (by rfl) T.g_part_steps T.F_part_steps.kp (bind_part_steps T) pass0 (da_cons (v3 _) (da_cons (v7 _) (da_cons (v8 _) da_nil))) (da_len1 (da_len1 (da_len1 da_len0)))) (da_cons (v8 _) da_nil)))) (da_len1 (da_len1 (da_len1 (da_len1 da_len0))))))
  (dss_one (ds_set (i := 6) sc_make_cyclic.nd rfl (Or.inr rfl) (de_mul (v6 _) (v8 _))))))
  (dss_cons (ds_set (i := 9) sc_make_cyclic.nd rfl (Or.inl rfl) (de_if (kt_cmp (K := K) (by rfl) op_gt cmpI_ok (v1 _) de_int (nomark _)) (k_add (K := K) (by rfl) (de_tup (da_cons (de_mod de_int (v2 _)) da_nil)) (k_mulT (K := K) (by rfl) (de_tup (da_cons de_int da_nil)) (de_sub (de_mul de_int (v1 _)) de_int))) (de_tup da_nil)))
  (dss_one (ds_ret (de_tup (da_cons de_str (da_cons (v9 _) (da_cons (k_callT1 (K := K) (by rfl) (kc_tuple (K := K) (by rfl)) tupleD_ok (by rfl) T.z_tuple (by decide +kernel) (de_lc (own := [("step", 10)]) (is := [10]) rfl sc_make_cyclic.nd (k_seq (K := K) (by rfl) (v5 _)) (blkOk_by (own := [("step", 10)]) (N := ["datum", "handles", "sheets", "orders", "why", "steps", "done", "prime", "power", "free", "step"]) (sc := defScope s_make_cyclic) (by decide +kernel)) (fun _ _ _ _ _ => (dg_name (i := 10) sc_make_cyclic.nd rfl (Or.inl rfl))) (by decide) (fun _ _ _ _ _ => dts_nil) (fun _ _ _ _ _ => (de_mod (de_mul (de_var (i := 10) (x := "step") rfl (Or.inl rfl)) (de_fdiv (de_var (i := 2) (x := "sheets") rfl (Or.inr (Or.inl rfl))) (de_var (i := 6) (x := "done") rfl (Or.inr (Or.inl rfl))))) (de_var (i := 2) (x := "sheets") rfl (Or.inr (Or.inl rfl))))))) da_nil))))))))))))))⟩
theorem G_law_gcd (T : Txt K mg) : FnOk P w K mg base CX0 1 T.a_law_gcd T.d_law_gcd ["one", "other"] (spM K 2 fn_law_gcd) := by
  refine fn_ok T.F_law_gcd sc_law_gcd rfl (by decide) fun cdv A outer s H E (hr : Room 0 _) => ?_
  have hu : (XX P w K mg base ["one", "other"] "_law_gcd" s_law_gcd T.a_law_gcd cdv A outer s H E).A.units + 65 < cLine := by
    show (A.deeper _).units + 65 < cLine
    have := hr.un
    omega
  have v0 : ∀ p, DE (XX P w K mg base ["one", "other"] "_law_gcd" s_law_gcd T.a_law_gcd cdv A outer s H E) (.Name "one" p) (tVar 0) (rdV 0) := fun p => de_var rfl (Or.inl rfl)
  have v1 : ∀ p, DE (XX P w K mg base ["one", "other"] "_law_gcd" s_law_gcd T.a_law_gcd cdv A outer s H E) (.Name "other" p) (tVar 1) (rdV 1) := fun p => de_var rfl (Or.inl rfl)
  exact ⟨_, (show DSs (XX P w K mg base ["one", "other"] "_law_gcd" s_law_gcd T.a_law_gcd cdv A outer s H E) (defBody s_law_gcd) _ b_law_gcd from (dss_cons (ds_while PassesOwn.never (kt_cmp (K := K) (by rfl) (ko_ne (K := K) (by rfl) (by exact hu)) neD_ok (v1 _) de_int (nomark _)) (dss_one (ds_par (i := 0) (j := 1) rfl sc_law_gcd.nd rfl rfl (by decide) rfl rfl (v1 _) (de_mod (k_callT1 (K := K) (by rfl) (kc_int (K := K) (by rfl)) intD_ok (by rfl) T.z_int (by decide +kernel) (v0 _)) (v1 _)) (by rfl))))
  (dss_one (ds_ret (v0 _)))))⟩
theorem G_law_multiple (T : Txt K mg) : FnOk P w K mg base CX0 2 T.a_law_multiple T.d_law_multiple ["orders"] (spM K 1 fn_law_multiple) := by
  refine fn_ok T.F_law_multiple sc_law_multiple rfl (by decide) fun cdv A outer s H E (hr : Room 1 _) => ?_
  have hu : (XX P w K mg base ["orders", "told", "order"] "_law_multiple" s_law_multiple T.a_law_multiple cdv A outer s H E).A.units + 65 < cLine := by
    show (A.deeper _).units + 65 < cLine
    have := hr.un
    omega
  have v0 : ∀ p, DE (XX P w K mg base ["orders", "told", "order"] "_law_multiple" s_law_multiple T.a_law_multiple cdv A outer s H E) (.Name "orders" p) (tVar 0) (rdV 0) := fun p => de_var rfl (Or.inl rfl)
  have v1 : ∀ p, DE (XX P w K mg base ["orders", "told", "order"] "_law_multiple" s_law_multiple T.a_law_multiple cdv A outer s H E) (.Name "told" p) (tVar 1) (rdV 1) := fun p => de_var rfl (Or.inl rfl)
  have v2 : ∀ p, DE (XX P w K mg base ["orders", "told", "order"] "_law_multiple" s_law_multiple T.a_law_multiple cdv A outer s H E) (.Name "order" p) (tVar 2) (rdV 2) := fun p => de_var rfl (Or.inl rfl)
  exact ⟨_, (show DSs (XX P w K mg base ["orders", "told", "order"] "_law_multiple" s_law_multiple T.a_law_multiple cdv A outer s H E) (defBody s_law_multiple) _ b_law_multiple from (dss_cons (ds_set (i := 1) sc_law_multiple.nd rfl (Or.inl rfl) de_int)
  (dss_cons (ds_for PassesOwn.never rfl (k_seq (K := K) (by rfl) (v0 _)) (dg_name (i := 2) sc_law_multiple.nd rfl (Or.inl rfl)) (dss_one (ds_set (i := 1) sc_law_multiple.nd rfl (Or.inl rfl) (de_fdiv (de_mul (v1 _) (v2 _)) (k_call (K := K) (by rfl) (G_law_gcd T) (by exact hr.mono (by decide)) (by rfl) T.g_law_gcd T.F_law_gcd.kp (bind_law_gcd T) pass0 (da_cons (v1 _) (da_cons (v2 _) da_nil)) (da_len1 (da_len1 da_len0)))))))
  (dss_one (ds_ret (v1 _))))))⟩
theorem G_law_broken (T : Txt K mg) : FnOk P w K mg base CX0 3 T.a_law_broken T.d_law_broken ["datum"] (spM K 1 fn_law_broken) := by
  refine fn_ok T.F_law_broken sc_law_broken rfl (by decide) fun cdv A outer s H E (hr : Room 2 _) => ?_
  have hu : (XX P w K mg base ["datum", "handles", "n", "orders", "whole", "k", "found", "twos", "many", "order"] "_law_broken" s_law_broken T.a_law_broken cdv A outer s H E).A.units + 65 < cLine := by
    show (A.deeper _).units + 65 < cLine
    have := hr.un
    omega
  have v0 : ∀ p, DE (XX P w K mg base ["datum", "handles", "n", "orders", "whole", "k", "found", "twos", "many", "order"] "_law_broken" s_law_broken T.a_law_broken cdv A outer s H E) (.Name "datum" p) (tVar 0) (rdV 0) := fun p => de_var rfl (Or.inl rfl)
  have v1 : ∀ p, DE (XX P w K mg base ["datum", "handles", "n", "orders", "whole", "k", "found", "twos", "many", "order"] "_law_broken" s_law_broken T.a_law_broken cdv A outer s H E) (.Name "handles" p) (tVar 1) (rdV 1) := fun p => de_var rfl (Or.inl rfl)
  have v2 : ∀ p, DE (XX P w K mg base ["datum", "handles", "n", "orders", "whole", "k", "found", "twos", "many", "order"] "_law_broken" s_law_broken T.a_law_broken cdv A outer s H E) (.Name "n" p) (tVar 2) (rdV 2) := fun p => de_var rfl (Or.inr (Or.inl rfl))
  have v3 : ∀ p, DE (XX P w K mg base ["datum", "handles", "n", "orders", "whole", "k", "found", "twos", "many", "order"] "_law_broken" s_law_broken T.a_law_broken cdv A outer s H E) (.Name "orders" p) (tVar 3) (rdV 3) := fun p => de_var rfl (Or.inr (Or.inl rfl))
  have v4 : ∀ p, DE (XX P w K mg base ["datum", "handles", "n", "orders", "whole", "k", "found", "twos", "many", "order"] "_law_broken" s_law_broken T.a_law_broken cdv A outer s H E) (.Name "whole" p) (tVar 4) (rdV 4) := fun p => de_var rfl (Or.inl rfl)
  have v5 : ∀ p, DE (XX P w K mg base ["datum", "handles", "n", "orders", "whole", "k", "found", "twos", "many", "order"] "_law_broken" s_law_broken T.a_law_broken cdv A outer s H E) (.Name "k" p) (tVar 5) (rdV 5) := fun p => de_var rfl (Or.inl rfl)
  have v6 : ∀ p, DE (XX P w K mg base ["datum", "handles", "n", "orders", "whole", "k", "found", "twos", "many", "order"] "_law_broken" s_law_broken T.a_law_broken cdv A outer s H E) (.Name "found" p) (tVar 6) (rdV 6) := fun p => de_var rfl (Or.inl rfl)
  have v7 : ∀ p, DE (XX P w K mg base ["datum", "handles", "n", "orders", "whole", "k", "found", "twos", "many", "order"] "_law_broken" s_law_broken T.a_law_broken cdv A outer s H E) (.Name "twos" p) (tVar 7) (rdV 7) := fun p => de_var rfl (Or.inr (Or.inl rfl))
  have v8 : ∀ p, DE (XX P w K mg base ["datum", "handles", "n", "orders", "whole", "k", "found", "twos", "many", "order"] "_law_broken" s_law_broken T.a_law_broken cdv A outer s H E) (.Name "many" p) (tVar 8) (rdV 8) := fun p => de_var rfl (Or.inl rfl)
  exact ⟨_, (show DSs (XX P w K mg base ["datum", "handles", "n", "orders", "whole", "k", "found", "twos", "many", "order"] "_law_broken" s_law_broken T.a_law_broken cdv A outer s H E) (defBody s_law_broken) _ b_law_broken from (dss_cons (ds_asg (v0 _) (k_gtup (K := K) (by rfl) (by rfl) (dgs_cons (dg_name (i := 1) sc_law_broken.nd rfl (Or.inl rfl)) (dgs_cons (dg_name (i := 2) sc_law_broken.nd rfl (Or.inr rfl)) (dgs_cons (dg_name (i := 3) sc_law_broken.nd rfl (Or.inr rfl)) dgs_nil)))))
  (dss_cons (ds_set (i := 4) sc_law_broken.nd rfl (Or.inl rfl) (k_call (K := K) (by rfl) (G_law_multiple T) (by exact hr.mono (by decide)) (by rfl) T.g_law_multiple T.F_law_multiple.kp (bind_law_multiple T) pass0 (da_cons (v3 _) da_nil) (da_len1 da_len0)))
  (dss_cons (ds_lc (own := [("k", 5)]) (is := [5]) (i := 6) rfl sc_law_broken.nd rfl rfl (sw_true rfl rfl rfl (by decide +kernel)) (di_range1 (by rfl) T.z_range (da_cons (k_callB1 (K := K) (by rfl) (kc_len (K := K) (by rfl)) lenD_ok (by rfl) T.z_len PySem.boot_len (v3 _)) da_nil)) (blkOk_by (own := [("k", 5)]) (N := ["datum", "handles", "n", "orders", "whole", "k", "found", "twos", "many", "order"]) (sc := defScope s_law_broken) (by decide +kernel)) (fun _ _ _ _ _ => (dg_name (i := 5) sc_law_broken.nd rfl (Or.inl rfl))) (by decide) (fun _ _ _ _ _ => (dts_one (kt_cmp (K := K) (by rfl) (ko_ne (K := K) (by rfl) (by exact hu)) neD_ok (de_mod (k_callT1 (K := K) (by rfl) (kc_int (K := K) (by rfl)) intD_ok (by rfl) T.z_int (by decide +kernel) (de_var (i := 2) (x := "n") rfl (Or.inr (Or.inl rfl)))) (k_ix (K := K) (by rfl) (de_var (i := 3) (x := "orders") rfl (Or.inr (Or.inl rfl))) (de_var (i := 5) (x := "k") rfl (Or.inl rfl)) (by intro _ _; rfl))) de_int (nomark _)))) (fun _ _ _ _ _ => (de_tup (da_cons de_str (da_cons (de_var (i := 5) (x := "k") rfl (Or.inl rfl)) da_nil)))))
  (dss_cons (ds_for PassesOwn.never rfl (di_range1 (by rfl) T.z_range (da_cons (k_callB1 (K := K) (by rfl) (kc_len (K := K) (by rfl)) lenD_ok (by rfl) T.z_len PySem.boot_len (v3 _)) da_nil)) (dg_name (i := 5) sc_law_broken.nd rfl (Or.inl rfl)) (dss_one (ds_ite (kt_cmp (K := K) (by rfl) (ko_ne (K := K) (by rfl) (by exact hu)) neD_ok (k_call (K := K) (by rfl) (G_law_multiple T) (by exact hr.mono (by decide)) (by rfl) T.g_law_multiple T.F_law_multiple.kp (bind_law_multiple T) pass0 (da_cons (k_add (K := K) (by rfl) (k_slice (K := K) (by rfl) (v3 _) do_none (do_some (v5 _))) (k_slice (K := K) (by rfl) (v3 _) (do_some (k_add (K := K) (by rfl) (v5 _) de_int)) do_none)) da_nil) (da_len1 da_len0)) (v4 _) (nomark _)) (dss_one (ds_app (j := 6) rfl (Or.inl rfl) (de_tup (da_cons de_str (da_cons (v5 _) da_nil))))) dss_nil)))
  (dss_cons (ds_ite (DW.dt (dw_and (kt_cmp (K := K) (by rfl) (ko_eq (K := K) (by rfl) (by exact hu)) eqD_ok (v1 _) de_int (nomark _)) (dw_and1 (kt_cmp (K := K) (by rfl) (ko_ne (K := K) (by rfl) (by exact hu)) neD_ok (v4 _) (v2 _) (nomark _))))) (dss_one (ds_app (j := 6) rfl (Or.inl rfl) (de_tup (da_cons de_str (da_cons (v4 _) da_nil))))) dss_nil)
  (dss_cons (ds_set (i := 7) sc_law_broken.nd rfl (Or.inr rfl) de_int)
  (dss_cons (ds_while PassesOwn.never (kt_cmp (K := K) (by rfl) (ko_eq (K := K) (by rfl) (by exact hu)) eqD_ok (de_mod (k_callT1 (K := K) (by rfl) (kc_int (K := K) (by rfl)) intD_ok (by rfl) T.z_int (by decide +kernel) (v4 _)) (de_mul de_int (v7 _))) de_int (nomark _)) (dss_one (ds_set (i := 7) sc_law_broken.nd rfl (Or.inr rfl) (de_mul de_int (v7 _)))))
  (dss_cons (ds_set (i := 8) sc_law_broken.nd rfl (Or.inl rfl) (k_callB1 (K := K) (by rfl) (kc_len (K := K) (by rfl)) lenD_ok (by rfl) T.z_len PySem.boot_len (de_lc (own := [("order", 9)]) (is := [9]) rfl sc_law_broken.nd (k_seq (K := K) (by rfl) (v3 _)) (blkOk_by (own := [("order", 9)]) (N := ["datum", "handles", "n", "orders", "whole", "k", "found", "twos", "many", "order"]) (sc := defScope s_law_broken) (by decide +kernel)) (fun _ _ _ _ _ => (dg_name (i := 9) sc_law_broken.nd rfl (Or.inl rfl))) (by decide) (fun _ _ _ _ _ => (dts_one (kt_cmp (K := K) (by rfl) (ko_eq (K := K) (by rfl) (by exact hu)) eqD_ok (de_mod (k_callT1 (K := K) (by rfl) (kc_int (K := K) (by rfl)) intD_ok (by rfl) T.z_int (by decide +kernel) (de_var (i := 9) (x := "order") rfl (Or.inl rfl))) (de_var (i := 7) (x := "twos") rfl (Or.inr (Or.inl rfl)))) de_int (nomark _)))) (fun _ _ _ _ _ => (de_var (i := 9) (x := "order") rfl (Or.inl rfl))))))
  (dss_cons (ds_ite (DW.dt (dw_and (kt_cmp (K := K) (by rfl) (ko_eq (K := K) (by rfl) (by exact hu)) eqD_ok (de_mod (k_callT1 (K := K) (by rfl) (kc_int (K := K) (by rfl)) intD_ok (by rfl) T.z_int (by decide +kernel) (v4 _)) de_int) de_int (nomark _)) (dw_and1 (kt_cmp (K := K) (by rfl) (ko_eq (K := K) (by rfl) (by exact hu)) eqD_ok (de_mod (k_callT1 (K := K) (by rfl) (kc_int (K := K) (by rfl)) intD_ok (by rfl) T.z_int (by decide +kernel) (v8 _)) de_int) de_int (nomark _))))) (dss_one (ds_app (j := 6) rfl (Or.inl rfl) (de_tup (da_cons de_str (da_cons (v8 _) da_nil))))) dss_nil)
  (dss_one (ds_ret (v6 _)))))))))))))⟩
theorem G_law_order (T : Txt K mg) : FnOk P w K mg base CX0 2 T.a_law_order T.d_law_order ["step", "n"] (spM K 2 fn_law_order) := by
  refine fn_ok T.F_law_order sc_law_order rfl (by decide) fun cdv A outer s H E (hr : Room 1 _) => ?_
  have hu : (XX P w K mg base ["step", "n"] "_law_order" s_law_order T.a_law_order cdv A outer s H E).A.units + 65 < cLine := by
    show (A.deeper _).units + 65 < cLine
    have := hr.un
    omega
  have v0 : ∀ p, DE (XX P w K mg base ["step", "n"] "_law_order" s_law_order T.a_law_order cdv A outer s H E) (.Name "step" p) (tVar 0) (rdV 0) := fun p => de_var rfl (Or.inl rfl)
  have v1 : ∀ p, DE (XX P w K mg base ["step", "n"] "_law_order" s_law_order T.a_law_order cdv A outer s H E) (.Name "n" p) (tVar 1) (rdV 1) := fun p => de_var rfl (Or.inl rfl)
  exact ⟨_, (show DSs (XX P w K mg base ["step", "n"] "_law_order" s_law_order T.a_law_order cdv A outer s H E) (defBody s_law_order) _ b_law_order from (dss_one (ds_ret (de_fdiv (v1 _) (k_call (K := K) (by rfl) (G_law_gcd T) (by exact hr.mono (by decide)) (by rfl) T.g_law_gcd T.F_law_gcd.kp (bind_law_gcd T) pass0 (da_cons (v1 _) (da_cons (v0 _) da_nil)) (da_len1 (da_len1 da_len0)))))))⟩
theorem G_law_is_there (T : Txt K mg) : FnOk P w K mg base CX0 3 T.a_law_is_there T.d_law_is_there ["datum"] (spM K 1 fn_law_is_there) := by
  refine fn_ok T.F_law_is_there sc_law_is_there rfl (by decide) fun cdv A outer s H E (hr : Room 2 _) => ?_
  have hu : (XX P w K mg base ["datum", "handles", "n", "orders", "sums", "order", "longer", "total", "common", "step", "place"] "_law_is_there" s_law_is_there T.a_law_is_there cdv A outer s H E).A.units + 65 < cLine := by
    show (A.deeper _).units + 65 < cLine
    have := hr.un
    omega
  have v0 : ∀ p, DE (XX P w K mg base ["datum", "handles", "n", "orders", "sums", "order", "longer", "total", "common", "step", "place"] "_law_is_there" s_law_is_there T.a_law_is_there cdv A outer s H E) (.Name "datum" p) (tVar 0) (rdV 0) := fun p => de_var rfl (Or.inl rfl)
  have v1 : ∀ p, DE (XX P w K mg base ["datum", "handles", "n", "orders", "sums", "order", "longer", "total", "common", "step", "place"] "_law_is_there" s_law_is_there T.a_law_is_there cdv A outer s H E) (.Name "handles" p) (tVar 1) (rdV 1) := fun p => de_var rfl (Or.inl rfl)
  have v2 : ∀ p, DE (XX P w K mg base ["datum", "handles", "n", "orders", "sums", "order", "longer", "total", "common", "step", "place"] "_law_is_there" s_law_is_there T.a_law_is_there cdv A outer s H E) (.Name "n" p) (tVar 2) (rdV 2) := fun p => de_var rfl (Or.inl rfl)
  have v3 : ∀ p, DE (XX P w K mg base ["datum", "handles", "n", "orders", "sums", "order", "longer", "total", "common", "step", "place"] "_law_is_there" s_law_is_there T.a_law_is_there cdv A outer s H E) (.Name "orders" p) (tVar 3) (rdV 3) := fun p => de_var rfl (Or.inl rfl)
  have v4 : ∀ p, DE (XX P w K mg base ["datum", "handles", "n", "orders", "sums", "order", "longer", "total", "common", "step", "place"] "_law_is_there" s_law_is_there T.a_law_is_there cdv A outer s H E) (.Name "sums" p) (tVar 4) (rdV 4) := fun p => de_var rfl (Or.inl rfl)
  have v5 : ∀ p, DE (XX P w K mg base ["datum", "handles", "n", "orders", "sums", "order", "longer", "total", "common", "step", "place"] "_law_is_there" s_law_is_there T.a_law_is_there cdv A outer s H E) (.Name "order" p) (tVar 5) (rdV 5) := fun p => de_var rfl (Or.inl rfl)
  have v6 : ∀ p, DE (XX P w K mg base ["datum", "handles", "n", "orders", "sums", "order", "longer", "total", "common", "step", "place"] "_law_is_there" s_law_is_there T.a_law_is_there cdv A outer s H E) (.Name "longer" p) (tVar 6) (rdV 6) := fun p => de_var rfl (Or.inl rfl)
  have v7 : ∀ p, DE (XX P w K mg base ["datum", "handles", "n", "orders", "sums", "order", "longer", "total", "common", "step", "place"] "_law_is_there" s_law_is_there T.a_law_is_there cdv A outer s H E) (.Name "total" p) (tVar 7) (rdV 7) := fun p => de_var rfl (Or.inl rfl)
  have v8 : ∀ p, DE (XX P w K mg base ["datum", "handles", "n", "orders", "sums", "order", "longer", "total", "common", "step", "place"] "_law_is_there" s_law_is_there T.a_law_is_there cdv A outer s H E) (.Name "common" p) (tVar 8) (rdV 8) := fun p => de_var rfl (Or.inl rfl)
  have v9 : ∀ p, DE (XX P w K mg base ["datum", "handles", "n", "orders", "sums", "order", "longer", "total", "common", "step", "place"] "_law_is_there" s_law_is_there T.a_law_is_there cdv A outer s H E) (.Name "step" p) (tVar 9) (rdV 9) := fun p => de_var rfl (Or.inl rfl)
  have v10 : ∀ p, DE (XX P w K mg base ["datum", "handles", "n", "orders", "sums", "order", "longer", "total", "common", "step", "place"] "_law_is_there" s_law_is_there T.a_law_is_there cdv A outer s H E) (.Name "place" p) (tVar 10) (rdV 10) := fun p => de_var rfl (Or.inl rfl)
  exact ⟨_, (show DSs (XX P w K mg base ["datum", "handles", "n", "orders", "sums", "order", "longer", "total", "common", "step", "place"] "_law_is_there" s_law_is_there T.a_law_is_there cdv A outer s H E) (defBody s_law_is_there) _ b_law_is_there from (dss_cons (ds_asg (v0 _) (k_gtup (K := K) (by rfl) (by rfl) (dgs_cons (dg_name (i := 1) sc_law_is_there.nd rfl (Or.inl rfl)) (dgs_cons (dg_name (i := 2) sc_law_is_there.nd rfl (Or.inl rfl)) (dgs_cons (dg_name (i := 3) sc_law_is_there.nd rfl (Or.inl rfl)) dgs_nil)))))
  (dss_cons (ds_set (i := 4) sc_law_is_there.nd rfl (Or.inl rfl) (de_lst (da_cons (de_lst (da_cons de_int (da_cons (de_if (kt_cmp (K := K) (by rfl) (ko_eq (K := K) (by rfl) (by exact hu)) eqD_ok (v1 _) de_int (nomark _)) (v2 _) de_int) da_nil))) da_nil)))
  (dss_cons (ds_for PassesOwn.never rfl (k_seq (K := K) (by rfl) (v3 _)) (dg_name (i := 5) sc_law_is_there.nd rfl (Or.inl rfl)) (dss_cons (ds_set (i := 6) sc_law_is_there.nd rfl (Or.inl rfl) (de_lst da_nil))
  (dss_cons (ds_for PassesOwn.never rfl (k_seq (K := K) (by rfl) (v4 _)) (k_gtup (K := K) (by rfl) (by rfl) (dgs_cons (dg_name (i := 7) sc_law_is_there.nd rfl (Or.inl rfl)) (dgs_cons (dg_name (i := 8) sc_law_is_there.nd rfl (Or.inl rfl)) dgs_nil))) (dss_one (ds_for PassesOwn.never rfl (di_range1 (by rfl) T.z_range (da_cons (v2 _) da_nil)) (dg_name (i := 9) sc_law_is_there.nd rfl (Or.inl rfl)) (dss_one (ds_ite (kt_cmp (K := K) (by rfl) (ko_eq (K := K) (by rfl) (by exact hu)) eqD_ok (k_call (K := K) (by rfl) (G_law_order T) (by exact hr.mono (by decide)) (by rfl) T.g_law_order T.F_law_order.kp (bind_law_order T) pass0 (da_cons (v9 _) (da_cons (v2 _) da_nil)) (da_len1 (da_len1 da_len0))) (v5 _) (nomark _)) (dss_cons (ds_set (i := 10) sc_law_is_there.nd rfl (Or.inl rfl) (de_lst (da_cons (de_mod (k_callT1 (K := K) (by rfl) (kc_int (K := K) (by rfl)) intD_ok (by rfl) T.z_int (by decide +kernel) (k_add (K := K) (by rfl) (v7 _) (v9 _))) (v2 _)) (da_cons (k_call (K := K) (by rfl) (G_law_gcd T) (by exact hr.mono (by decide)) (by rfl) T.g_law_gcd T.F_law_gcd.kp (bind_law_gcd T) pass0 (da_cons (v8 _) (da_cons (v9 _) da_nil)) (da_len1 (da_len1 da_len0))) da_nil))))
  (dss_one (ds_ite (kt_cmp (K := K) (by rfl) (ko_nin (K := K) (by rfl) (by exact hu)) ninD_ok (v10 _) (v6 _) (by rfl)) (dss_one (ds_app (j := 6) rfl (Or.inl rfl) (v10 _))) dss_nil))) dss_nil)))))
  (dss_one (ds_set (i := 4) sc_law_is_there.nd rfl (Or.inl rfl) (v6 _))))))
  (dss_one (ds_ret (k_cmp (K := K) (by rfl) (ko_in (K := K) (by rfl) (by exact hu)) inD_ok (de_lst (da_cons de_int (da_cons de_int da_nil))) (v4 _) (by rfl))))))))⟩
theorem G_law_fits (T : Txt K mg) : FnOk P w K mg base CX0 3 T.a_law_fits T.d_law_fits ["datum", "free", "steps"] (spM K 3 fn_law_fits) := by
  refine fn_ok T.F_law_fits sc_law_fits rfl (by decide) fun cdv A outer s H E (hr : Room 2 _) => ?_
  have hu : (XX P w K mg base ["datum", "free", "steps", "handles", "n", "orders", "step", "common", "k"] "_law_fits" s_law_fits T.a_law_fits cdv A outer s H E).A.units + 65 < cLine := by
    show (A.deeper _).units + 65 < cLine
    have := hr.un
    omega
  have v0 : ∀ p, DE (XX P w K mg base ["datum", "free", "steps", "handles", "n", "orders", "step", "common", "k"] "_law_fits" s_law_fits T.a_law_fits cdv A outer s H E) (.Name "datum" p) (tVar 0) (rdV 0) := fun p => de_var rfl (Or.inl rfl)
  have v1 : ∀ p, DE (XX P w K mg base ["datum", "free", "steps", "handles", "n", "orders", "step", "common", "k"] "_law_fits" s_law_fits T.a_law_fits cdv A outer s H E) (.Name "free" p) (tVar 1) (rdV 1) := fun p => de_var rfl (Or.inl rfl)
  have v2 : ∀ p, DE (XX P w K mg base ["datum", "free", "steps", "handles", "n", "orders", "step", "common", "k"] "_law_fits" s_law_fits T.a_law_fits cdv A outer s H E) (.Name "steps" p) (tVar 2) (rdV 2) := fun p => de_var rfl (Or.inr (Or.inl rfl))
  have v3 : ∀ p, DE (XX P w K mg base ["datum", "free", "steps", "handles", "n", "orders", "step", "common", "k"] "_law_fits" s_law_fits T.a_law_fits cdv A outer s H E) (.Name "handles" p) (tVar 3) (rdV 3) := fun p => de_var rfl (Or.inl rfl)
  have v4 : ∀ p, DE (XX P w K mg base ["datum", "free", "steps", "handles", "n", "orders", "step", "common", "k"] "_law_fits" s_law_fits T.a_law_fits cdv A outer s H E) (.Name "n" p) (tVar 4) (rdV 4) := fun p => de_var rfl (Or.inr (Or.inl rfl))
  have v5 : ∀ p, DE (XX P w K mg base ["datum", "free", "steps", "handles", "n", "orders", "step", "common", "k"] "_law_fits" s_law_fits T.a_law_fits cdv A outer s H E) (.Name "orders" p) (tVar 5) (rdV 5) := fun p => de_var rfl (Or.inr (Or.inl rfl))
  have v6 : ∀ p, DE (XX P w K mg base ["datum", "free", "steps", "handles", "n", "orders", "step", "common", "k"] "_law_fits" s_law_fits T.a_law_fits cdv A outer s H E) (.Name "step" p) (tVar 6) (rdV 6) := fun p => de_var rfl (Or.inl rfl)
  have v7 : ∀ p, DE (XX P w K mg base ["datum", "free", "steps", "handles", "n", "orders", "step", "common", "k"] "_law_fits" s_law_fits T.a_law_fits cdv A outer s H E) (.Name "common" p) (tVar 7) (rdV 7) := fun p => de_var rfl (Or.inl rfl)
  exact ⟨_, (show DSs (XX P w K mg base ["datum", "free", "steps", "handles", "n", "orders", "step", "common", "k"] "_law_fits" s_law_fits T.a_law_fits cdv A outer s H E) (defBody s_law_fits) _ b_law_fits from (dss_cons (ds_asg (v0 _) (k_gtup (K := K) (by rfl) (by rfl) (dgs_cons (dg_name (i := 3) sc_law_fits.nd rfl (Or.inl rfl)) (dgs_cons (dg_name (i := 4) sc_law_fits.nd rfl (Or.inr rfl)) (dgs_cons (dg_name (i := 5) sc_law_fits.nd rfl (Or.inr rfl)) dgs_nil)))))
  (dss_cons (ds_ite (DW.dt (dw_or (kt_cmp (K := K) (by rfl) (ko_ne (K := K) (by rfl) (by exact hu)) neD_ok (k_callB1 (K := K) (by rfl) (kc_len (K := K) (by rfl)) lenD_ok (by rfl) T.z_len PySem.boot_len (v1 _)) (de_mul de_int (v3 _)) (nomark _)) (dw_or1 (kt_cmp (K := K) (by rfl) (ko_ne (K := K) (by rfl) (by exact hu)) neD_ok (k_callB1 (K := K) (by rfl) (kc_len (K := K) (by rfl)) lenD_ok (by rfl) T.z_len PySem.boot_len (v2 _)) (k_callB1 (K := K) (by rfl) (kc_len (K := K) (by rfl)) lenD_ok (by rfl) T.z_len PySem.boot_len (v5 _)) (nomark _))))) (dss_one (ds_ret de_bl)) dss_nil)
  (dss_cons (ds_ite (kt_cmp (K := K) (by rfl) op_gt cmpI_ok (k_callB1 (K := K) (by rfl) (kc_len (K := K) (by rfl)) lenD_ok (by rfl) T.z_len PySem.boot_len (de_lc (own := [("step", 6)]) (is := [6]) rfl sc_law_fits.nd (k_seq (K := K) (by rfl) (k_add (K := K) (by rfl) (v1 _) (v2 _))) (blkOk_by (own := [("step", 6)]) (N := ["datum", "free", "steps", "handles", "n", "orders", "step", "common", "k"]) (sc := defScope s_law_fits) (by decide +kernel)) (fun _ _ _ _ _ => (dg_name (i := 6) sc_law_fits.nd rfl (Or.inl rfl))) (by decide) (fun _ _ _ _ _ => (dts_one (DW.dt (dw_or (kt_cmp (K := K) (by rfl) (ko_lt (K := K) (by rfl) (by exact hu)) ltD_ok (de_var (i := 6) (x := "step") rfl (Or.inl rfl)) de_int (nomark _)) (dw_or1 (kt_cmp (K := K) (by rfl) op_ge cmpI_ok (de_var (i := 6) (x := "step") rfl (Or.inl rfl)) (de_var (i := 4) (x := "n") rfl (Or.inr (Or.inl rfl))) (nomark _))))))) (fun _ _ _ _ _ => (de_var (i := 6) (x := "step") rfl (Or.inl rfl))))) de_int (nomark _)) (dss_one (ds_ret de_bl)) dss_nil)
  (dss_cons (ds_ite (kt_cmp (K := K) (by rfl) op_gt cmpI_ok (k_callB1 (K := K) (by rfl) (kc_len (K := K) (by rfl)) lenD_ok (by rfl) T.z_len PySem.boot_len (de_lc (own := [("k", 8)]) (is := [8]) rfl sc_law_fits.nd (di_range1 (by rfl) T.z_range (da_cons (k_callB1 (K := K) (by rfl) (kc_len (K := K) (by rfl)) lenD_ok (by rfl) T.z_len PySem.boot_len (v2 _)) da_nil)) (blkOk_by (own := [("k", 8)]) (N := ["datum", "free", "steps", "handles", "n", "orders", "step", "common", "k"]) (sc := defScope s_law_fits) (by decide +kernel)) (fun _ _ _ _ _ => (dg_name (i := 8) sc_law_fits.nd rfl (Or.inl rfl))) (by decide) (fun _ _ _ _ _ => (dts_one (kt_cmp (K := K) (by rfl) (ko_ne (K := K) (by rfl) (by exact hu)) neD_ok (k_call (K := K) (by rfl) (G_law_order T) (by exact hr.mono (by decide)) (by rfl) T.g_law_order T.F_law_order.kp (bind_law_order T) pass0 (da_cons (k_ix (K := K) (by rfl) (de_var (i := 2) (x := "steps") rfl (Or.inr (Or.inl rfl))) (de_var (i := 8) (x := "k") rfl (Or.inl rfl)) (by intro _ _; rfl)) (da_cons (de_var (i := 4) (x := "n") rfl (Or.inr (Or.inl rfl))) da_nil)) (da_len1 (da_len1 da_len0))) (k_ix (K := K) (by rfl) (de_var (i := 5) (x := "orders") rfl (Or.inr (Or.inl rfl))) (de_var (i := 8) (x := "k") rfl (Or.inl rfl)) (by intro _ _; rfl)) (nomark _)))) (fun _ _ _ _ _ => (de_var (i := 8) (x := "k") rfl (Or.inl rfl))))) de_int (nomark _)) (dss_one (ds_ret de_bl)) dss_nil)
  (dss_cons (ds_set (i := 7) sc_law_fits.nd rfl (Or.inl rfl) (v4 _))
  (dss_cons (ds_for PassesOwn.never rfl (k_seq (K := K) (by rfl) (k_add (K := K) (by rfl) (v1 _) (v2 _))) (dg_name (i := 6) sc_law_fits.nd rfl (Or.inl rfl)) (dss_one (ds_set (i := 7) sc_law_fits.nd rfl (Or.inl rfl) (k_call (K := K) (by rfl) (G_law_gcd T) (by exact hr.mono (by decide)) (by rfl) T.g_law_gcd T.F_law_gcd.kp (bind_law_gcd T) pass0 (da_cons (v7 _) (da_cons (v6 _) da_nil)) (da_len1 (da_len1 da_len0))))))
  (dss_one (ds_ret (de_and (k_cmp (K := K) (by rfl) (ko_eq (K := K) (by rfl) (by exact hu)) eqD_ok (de_mod (k_callT1 (K := K) (by rfl) (kc_int (K := K) (by rfl)) intD_ok (by rfl) T.z_int (by decide +kernel) (k_callB1 (K := K) (by rfl) (kc_sumA (K := K) (by rfl)) sumAD_ok (by rfl) T.z_sum (by decide +kernel) (v2 _))) (v4 _)) de_int (nomark _)) (de_one (k_cmp (K := K) (by rfl) (ko_eq (K := K) (by rfl) (by exact hu)) eqD_ok (v7 _) de_int (nomark _)))))))))))))⟩
theorem G_order_of (T : Txt K mg) : FnOk P w K mg base CX0 1 T.a_order_of T.d_order_of ["step", "n"] (spM K 2 fn_order_of) := by
  refine fn_ok T.F_order_of sc_order_of rfl (by decide) fun cdv A outer s H E (hr : Room 0 _) => ?_
  have hu : (XX P w K mg base ["step", "n"] "order_of" s_order_of T.a_order_of cdv A outer s H E).A.units + 65 < cLine := by
    show (A.deeper _).units + 65 < cLine
    have := hr.un
    omega
  have v0 : ∀ p, DE (XX P w K mg base ["step", "n"] "order_of" s_order_of T.a_order_of cdv A outer s H E) (.Name "step" p) (tVar 0) (rdV 0) := fun p => de_var rfl (Or.inl rfl)
  have v1 : ∀ p, DE (XX P w K mg base ["step", "n"] "order_of" s_order_of T.a_order_of cdv A outer s H E) (.Name "n" p) (tVar 1) (rdV 1) := fun p => de_var rfl (Or.inl rfl)
  exact ⟨_, (show DSs (XX P w K mg base ["step", "n"] "order_of" s_order_of T.a_order_of cdv A outer s H E) (defBody s_order_of) _ b_order_of from (dss_one (ds_ret (de_fdiv (v1 _) (k_gcd (K := K) (by rfl) (by rfl) T.bf_gcd (da_cons (v0 _) (da_cons (v1 _) da_nil)))))))⟩
/-- the law is true -/
theorem G_law (T : Txt K mg) (main : ∀ ns : List Int, ns.length ≤ 63 → ∃ ps, b_law ⟨(List.replicate 13 Sl.un).set 1 (.fr (.dict [])), stateA ns⟩ = some (.rt (.im (.bool true)) ps)) : FnOk P w K mg base CX0 4 T.a_law T.d_law ["script"] (spLaw K) := by
  refine T.F_law.ok sc_law (fun vs H Q E h => ?_) (fun cdv A outer s H vs Q E (hr : Room 3 _) h => ?_)
  · obtain ⟨a, ns, rfl, _⟩ := h
    rfl
  obtain ⟨a, ns, rfl, hS, hlen, q⟩ := h
  have hu : (XX P w K mg base ["script", "state", "turn", "n", "order", "divisors", "orders", "k", "datum", "told", "why", "step", "many"] "law" s_law T.a_law cdv A outer s H E).A.units + 65 < cLine := by
    show (A.deeper _).units + 65 < cLine
    have := hr.un
    omega
  have v1 : ∀ p, DE (XX P w K mg base ["script", "state", "turn", "n", "order", "divisors", "orders", "k", "datum", "told", "why", "step", "many"] "law" s_law T.a_law cdv A outer s H E) (.Name "state" p) (tVar 1) (rdV 1) := fun p => de_var rfl (Or.inl rfl)
  have v3 : ∀ p, DE (XX P w K mg base ["script", "state", "turn", "n", "order", "divisors", "orders", "k", "datum", "told", "why", "step", "many"] "law" s_law T.a_law cdv A outer s H E) (.Name "n" p) (tVar 3) (rdV 3) := fun p => de_var rfl (Or.inr (Or.inl rfl))
  have v4 : ∀ p, DE (XX P w K mg base ["script", "state", "turn", "n", "order", "divisors", "orders", "k", "datum", "told", "why", "step", "many"] "law" s_law T.a_law cdv A outer s H E) (.Name "order" p) (tVar 4) (rdV 4) := fun p => de_var rfl (Or.inl rfl)
  have v5 : ∀ p, DE (XX P w K mg base ["script", "state", "turn", "n", "order", "divisors", "orders", "k", "datum", "told", "why", "step", "many"] "law" s_law T.a_law cdv A outer s H E) (.Name "divisors" p) (tVar 5) (rdV 5) := fun p => de_var rfl (Or.inl rfl)
  have v6 : ∀ p, DE (XX P w K mg base ["script", "state", "turn", "n", "order", "divisors", "orders", "k", "datum", "told", "why", "step", "many"] "law" s_law T.a_law cdv A outer s H E) (.Name "orders" p) (tVar 6) (rdV 6) := fun p => de_var rfl (Or.inl rfl)
  have v8 : ∀ p, DE (XX P w K mg base ["script", "state", "turn", "n", "order", "divisors", "orders", "k", "datum", "told", "why", "step", "many"] "law" s_law T.a_law cdv A outer s H E) (.Name "datum" p) (tVar 8) (rdV 8) := fun p => de_var rfl (Or.inl rfl)
  have v9 : ∀ p, DE (XX P w K mg base ["script", "state", "turn", "n", "order", "divisors", "orders", "k", "datum", "told", "why", "step", "many"] "law" s_law T.a_law cdv A outer s H E) (.Name "told" p) (tVar 9) (rdV 9) := fun p => de_var rfl (Or.inl rfl)
  have v10 : ∀ p, DE (XX P w K mg base ["script", "state", "turn", "n", "order", "divisors", "orders", "k", "datum", "told", "why", "step", "many"] "law" s_law T.a_law cdv A outer s H E) (.Name "why" p) (tVar 10) (rdV 10) := fun p => de_var rfl (Or.inl rfl)
  have v11 : ∀ p, DE (XX P w K mg base ["script", "state", "turn", "n", "order", "divisors", "orders", "k", "datum", "told", "why", "step", "many"] "law" s_law T.a_law cdv A outer s H E) (.Name "step" p) (tVar 11) (rdV 11) := fun p => de_var rfl (Or.inr (Or.inl rfl))
  have D : DSs (XX P w K mg base ["script", "state", "turn", "n", "order", "divisors", "orders", "k", "datum", "told", "why", "step", "many"] "law" s_law T.a_law cdv A outer s H E) ((defBody s_law).drop 1) _ b_law := (dss_cons (ds_for PassesOwn.never rfl (di_range1 (by rfl) T.z_range (da_cons de_int da_nil)) (dg_name (i := 2) sc_law.nd rfl (Or.inl rfl)) (dss_cons (ds_set (i := 3) sc_law.nd rfl (Or.inr rfl) (k_add (K := K) (by rfl) de_int (k_call (K := K) (by rfl) (G_law_draw T) (by exact hr.mono (by decide)) (by rfl) T.g_law_draw T.F_law_draw.kp (bind_law_draw T) pass0 (da_cons (v1 _) (da_cons de_int da_nil)) (da_len1 (da_len1 da_len0)))))
  (dss_cons (ds_lc (own := [("order", 4)]) (is := [4]) (i := 5) rfl sc_law.nd rfl rfl (sw_true rfl rfl rfl (by decide +kernel)) (di_range2 (by rfl) T.z_range (da_cons de_int (da_cons (k_add (K := K) (by rfl) (v3 _) de_int) da_nil))) (blkOk_by (own := [("order", 4)]) (N := ["script", "state", "turn", "n", "order", "divisors", "orders", "k", "datum", "told", "why", "step", "many"]) (sc := defScope s_law) (by decide +kernel)) (fun _ _ _ _ _ => (dg_name (i := 4) sc_law.nd rfl (Or.inl rfl))) (by decide) (fun _ _ _ _ _ => (dts_one (kt_cmp (K := K) (by rfl) (ko_eq (K := K) (by rfl) (by exact hu)) eqD_ok (de_mod (k_callT1 (K := K) (by rfl) (kc_int (K := K) (by rfl)) intD_ok (by rfl) T.z_int (by decide +kernel) (de_var (i := 3) (x := "n") rfl (Or.inr (Or.inl rfl)))) (de_var (i := 4) (x := "order") rfl (Or.inl rfl))) de_int (nomark _)))) (fun _ _ _ _ _ => (de_var (i := 4) (x := "order") rfl (Or.inl rfl))))
  (dss_cons (ds_set (i := 6) sc_law.nd rfl (Or.inl rfl) (de_lst da_nil))
  (dss_cons (ds_for PassesOwn.never rfl (di_range1 (by rfl) T.z_range (da_cons (k_call (K := K) (by rfl) (G_law_draw T) (by exact hr.mono (by decide)) (by rfl) T.g_law_draw T.F_law_draw.kp (bind_law_draw T) pass0 (da_cons (v1 _) (da_cons de_int da_nil)) (da_len1 (da_len1 da_len0))) da_nil)) (dg_name (i := 7) sc_law.nd rfl (Or.inl rfl)) (dss_cons (ds_set (i := 4) sc_law.nd rfl (Or.inl rfl) (k_add (K := K) (by rfl) de_int (k_call (K := K) (by rfl) (G_law_draw T) (by exact hr.mono (by decide)) (by rfl) T.g_law_draw T.F_law_draw.kp (bind_law_draw T) pass0 (da_cons (v1 _) (da_cons de_int da_nil)) (da_len1 (da_len1 da_len0)))))
  (dss_cons (ds_ite (DW.dt (dw_and (kt_cmp (K := K) (by rfl) op_gt cmpI_ok (k_callB1 (K := K) (by rfl) (kc_len (K := K) (by rfl)) lenD_ok (by rfl) T.z_len PySem.boot_len (v5 _)) de_int (nomark _)) (dw_and1 (kt_cmp (K := K) (by rfl) op_gt cmpI_ok (k_call (K := K) (by rfl) (G_law_draw T) (by exact hr.mono (by decide)) (by rfl) T.g_law_draw T.F_law_draw.kp (bind_law_draw T) pass0 (da_cons (v1 _) (da_cons de_int da_nil)) (da_len1 (da_len1 da_len0))) de_int (nomark _))))) (dss_one (ds_set (i := 4) sc_law.nd rfl (Or.inl rfl) (k_ix (K := K) (by rfl) (v5 _) (k_call (K := K) (by rfl) (G_law_draw T) (by exact hr.mono (by decide)) (by rfl) T.g_law_draw T.F_law_draw.kp (bind_law_draw T) pass0 (da_cons (v1 _) (da_cons (k_callB1 (K := K) (by rfl) (kc_len (K := K) (by rfl)) lenD_ok (by rfl) T.z_len PySem.boot_len (v5 _)) da_nil)) (da_len1 (da_len1 da_len0))) (by intro _ _; rfl)))) dss_nil)
  (dss_one (ds_app (j := 6) rfl (Or.inl rfl) (v4 _))))))
  (dss_cons (ds_set (i := 8) sc_law.nd rfl (Or.inl rfl) (de_tup (da_cons (k_ix (K := K) (by rfl) (de_lst (da_cons de_int (da_cons de_int (da_cons de_int (da_cons de_int da_nil))))) (k_call (K := K) (by rfl) (G_law_draw T) (by exact hr.mono (by decide)) (by rfl) T.g_law_draw T.F_law_draw.kp (bind_law_draw T) pass0 (da_cons (v1 _) (da_cons de_int da_nil)) (da_len1 (da_len1 da_len0))) (by intro _ _; rfl)) (da_cons (v3 _) (da_cons (k_callT1 (K := K) (by rfl) (kc_tuple (K := K) (by rfl)) tupleD_ok (by rfl) T.z_tuple (by decide +kernel) (v6 _)) da_nil)))))
  (dss_cons (ds_set (i := 9) sc_law.nd rfl (Or.inl rfl) (k_call (K := K) (by rfl) (G_make_cyclic T) (by exact hr.mono (by decide)) (by rfl) T.g_make_cyclic T.F_make_cyclic.kp (bind_make_cyclic T) pass0 (da_cons (v8 _) da_nil) (da_len1 da_len0)))
  (dss_cons (ds_set (i := 10) sc_law.nd rfl (Or.inl rfl) (k_call (K := K) (by rfl) (G_law_broken T) (by exact hr.mono (by decide)) (by rfl) T.g_law_broken T.F_law_broken.kp (bind_law_broken T) pass0 (da_cons (v8 _) da_nil) (da_len1 da_len0)))
  (dss_cons (ds_ite (DW.dt (dw_or (dt_not (k_truth (K := K) (by rfl) (k_isi (K := K) (by rfl) (T := .tuple) (by decide) (by rfl) T.z_isinstance (by rfl) T.z_tuple rfl (by decide +kernel) (v9 _)) (by intro _; rfl))) (dw_or (kt_cmp (K := K) (by rfl) (ko_ne (K := K) (by rfl) (by exact hu)) neD_ok (k_cmp (K := K) (by rfl) (ko_eq (K := K) (by rfl) (by exact hu)) eqD_ok (k_ix (K := K) (by rfl) (v9 _) de_int (by intro _ _; rfl)) de_str (nomark _)) (k_cmp (K := K) (by rfl) (ko_eq (K := K) (by rfl) (by exact hu)) eqD_ok (k_callB1 (K := K) (by rfl) (kc_len (K := K) (by rfl)) lenD_ok (by rfl) T.z_len PySem.boot_len (v10 _)) de_int (nomark _)) (nomark _)) (dw_or1 (kt_cmp (K := K) (by rfl) (ko_ne (K := K) (by rfl) (by exact hu)) neD_ok (k_call (K := K) (by rfl) (G_law_is_there T) (by exact hr.mono (by decide)) (by rfl) T.g_law_is_there T.F_law_is_there.kp (bind_law_is_there T) pass0 (da_cons (v8 _) da_nil) (da_len1 da_len0)) (k_cmp (K := K) (by rfl) (ko_eq (K := K) (by rfl) (by exact hu)) eqD_ok (k_callB1 (K := K) (by rfl) (kc_len (K := K) (by rfl)) lenD_ok (by rfl) T.z_len PySem.boot_len (v10 _)) de_int (nomark _)) (nomark _)))))) (dss_one (ds_ret de_bl)) dss_nil)
  (dss_cons (ds_ite (DW.dt (dw_and (kt_cmp (K := K) (by rfl) op_gt cmpI_ok (k_callB1 (K := K) (by rfl) (kc_len (K := K) (by rfl)) lenD_ok (by rfl) T.z_len PySem.boot_len (v10 _)) de_int (nomark _)) (dw_and1 (kt_cmp (K := K) (by rfl) (ko_ne (K := K) (by rfl) (by exact hu)) neD_ok (v9 _) (k_add (K := K) (by rfl) (de_tup (da_cons de_str da_nil)) (k_ix (K := K) (by rfl) (v10 _) de_int (by intro _ _; rfl))) (nomark _))))) (dss_one (ds_ret de_bl)) dss_nil)
  (dss_cons (ds_ite (DW.dt (dw_and (kt_cmp (K := K) (by rfl) (ko_eq (K := K) (by rfl) (by exact hu)) eqD_ok (k_callB1 (K := K) (by rfl) (kc_len (K := K) (by rfl)) lenD_ok (by rfl) T.z_len PySem.boot_len (v10 _)) de_int (nomark _)) (dw_and1 (dt_not (k_truth (K := K) (by rfl) (k_call (K := K) (by rfl) (G_law_fits T) (by exact hr.mono (by decide)) (by rfl) T.g_law_fits T.F_law_fits.kp (bind_law_fits T) pass0 (da_cons (v8 _) (da_cons (k_ix (K := K) (by rfl) (v9 _) de_int (by intro _ _; rfl)) (da_cons (k_ix (K := K) (by rfl) (v9 _) de_int (by intro _ _; rfl)) da_nil))) (da_len1 (da_len1 (da_len1 da_len0)))) (by intro _; rfl)))))) (dss_one (ds_ret de_bl)) dss_nil)
  (dss_cons (ds_ite (DW.dt (dw_or (kt_cmp (K := K) (by rfl) (ko_ne (K := K) (by rfl) (by exact hu)) neD_ok (k_call (K := K) (by rfl) (G_multiple T) (by exact hr.mono (by decide)) (by rfl) T.g_multiple T.F_multiple.kp (bind_multiple T) pass0 (da_cons (k_callT1 (K := K) (by rfl) (kc_tuple (K := K) (by rfl)) tupleD_ok (by rfl) T.z_tuple (by decide +kernel) (v6 _)) da_nil) (da_len1 da_len0)) (k_call (K := K) (by rfl) (G_law_multiple T) (by exact hr.mono (by decide)) (by rfl) T.g_law_multiple T.F_law_multiple.kp (bind_law_multiple T) pass0 (da_cons (v6 _) da_nil) (da_len1 da_len0)) (nomark _)) (dw_or1 (kt_cmp (K := K) (by rfl) (ko_ne (K := K) (by rfl) (by exact hu)) neD_ok (k_call (K := K) (by rfl) (G_multiple T) (by exact hr.mono (by decide)) (by rfl) T.g_multiple T.F_multiple.kp (bind_multiple T) pass0 (da_cons (de_tup da_nil) da_nil) (da_len1 da_len0)) de_int (nomark _))))) (dss_one (ds_ret de_bl)) dss_nil)
  (dss_cons (ds_set (i := 11) sc_law.nd rfl (Or.inr rfl) (k_call (K := K) (by rfl) (G_law_draw T) (by exact hr.mono (by decide)) (by rfl) T.g_law_draw T.F_law_draw.kp (bind_law_draw T) pass0 (da_cons (v1 _) (da_cons (v3 _) da_nil)) (da_len1 (da_len1 da_len0))))
  (dss_one (ds_ite (kt_cmp (K := K) (by rfl) (ko_ne (K := K) (by rfl) (by exact hu)) neD_ok (k_call (K := K) (by rfl) (G_order_of T) (by exact hr.mono (by decide)) (by rfl) T.g_order_of T.F_order_of.kp (bind_order_of T) pass0 (da_cons (v11 _) (da_cons (v3 _) da_nil)) (da_len1 (da_len1 da_len0))) (k_ix (K := K) (by rfl) (de_lc (own := [("many", 12)]) (is := [12]) rfl sc_law.nd (di_range2 (by rfl) T.z_range (da_cons de_int (da_cons (k_add (K := K) (by rfl) (v3 _) de_int) da_nil))) (blkOk_by (own := [("many", 12)]) (N := ["script", "state", "turn", "n", "order", "divisors", "orders", "k", "datum", "told", "why", "step", "many"]) (sc := defScope s_law) (by decide +kernel)) (fun _ _ _ _ _ => (dg_name (i := 12) sc_law.nd rfl (Or.inl rfl))) (by decide) (fun _ _ _ _ _ => (dts_one (kt_cmp (K := K) (by rfl) (ko_eq (K := K) (by rfl) (by exact hu)) eqD_ok (de_mod (k_callT1 (K := K) (by rfl) (kc_int (K := K) (by rfl)) intD_ok (by rfl) T.z_int (by decide +kernel) (de_mul (de_var (i := 12) (x := "many") rfl (Or.inl rfl)) (de_var (i := 11) (x := "step") rfl (Or.inr (Or.inl rfl))))) (de_var (i := 3) (x := "n") rfl (Or.inr (Or.inl rfl)))) de_int (nomark _)))) (fun _ _ _ _ _ => (de_var (i := 12) (x := "many") rfl (Or.inl rfl)))) de_int (by intro _ _; rfl)) (nomark _)) (dss_one (ds_ret de_bl)) dss_nil)))))))))))))))
  (dss_one (ds_ret de_bl)))
  refine ⟨_, pss_cons (ps_set (i := 1) sc_law.nd rfl (Or.inl rfl) (pe_call (G_law_state T) (hr.mono (by decide)) (by rfl) T.g_law_state T.F_law_state.kp (bind_law_state T) .nil pass0 (pa_cons (pv 0) pa_nil))) D.pe, ?_⟩
  obtain ⟨ps, e⟩ := main ns hlen
  exact ⟨.ref a, rfl, a, ns, rfl, hS, hlen, fun p c H1 da => law_rest D.sn (N := 13) (i := 1) (by decide) (by rfl) (by rfl) da e fun H2 => q H2⟩
end
/-! ### the end -/
theorem all_mk {l : PySem.W.OpenLaw} {w : World} {K : PySem.W.Frag} {h : Heap} {mg : Str → Option Value} {fa : Addr} (X : K.In h) (G : h.Ns mainGlobals mg) (hfa : mg "law" = some (.ref fa))
    {f0 : Addr} {od0 an0 : Option Addr} {sl0 : Array (Option Value)} {oc0 kV0 dc0 pm0 cd0 ct0 : Value}
    (a0 : PySem.W.nsIn K mainGlobals "_law_state" = some (some (.ref f0))) (l0 : K.lookup f0 = some ⟨oc0, od0, .func (PySem.W.fnOf "_law_state" "_law_state" (defArgs s_law_state) (defBody s_law_state) (defScope s_law_state) .none kV0 dc0 pm0 an0 cd0 ct0), sl0⟩) (c0 : PySem.W.codeIn K cd0 "_law_state" = true) (k0 : PySem.W.keepIn K (.ref f0) = true)
    {f1 : Addr} {od1 an1 : Option Addr} {sl1 : Array (Option Value)} {oc1 kV1 dc1 pm1 cd1 ct1 : Value}
    (a1 : PySem.W.nsIn K mainGlobals "_law_draw" = some (some (.ref f1))) (l1 : K.lookup f1 = some ⟨oc1, od1, .func (PySem.W.fnOf "_law_draw" "_law_draw" (defArgs s_law_draw) (defBody s_law_draw) (defScope s_law_draw) .none kV1 dc1 pm1 an1 cd1 ct1), sl1⟩) (c1 : PySem.W.codeIn K cd1 "_law_draw" = true) (k1 : PySem.W.keepIn K (.ref f1) = true)
    {f2 : Addr} {od2 an2 : Option Addr} {sl2 : Array (Option Value)} {oc2 kV2 dc2 pm2 cd2 ct2 : Value}
    (a2 : PySem.W.nsIn K mainGlobals "multiple" = some (some (.ref f2))) (l2 : K.lookup f2 = some ⟨oc2, od2, .func (PySem.W.fnOf "multiple" "multiple" (defArgs s_multiple) (defBody s_multiple) (defScope s_multiple) .none kV2 dc2 pm2 an2 cd2 ct2), sl2⟩) (c2 : PySem.W.codeIn K cd2 "multiple" = true) (k2 : PySem.W.keepIn K (.ref f2) = true)
    {f3 : Addr} {od3 an3 : Option Addr} {sl3 : Array (Option Value)} {oc3 kV3 dc3 pm3 cd3 ct3 : Value}
    (a3 : PySem.W.nsIn K mainGlobals "twos_in" = some (some (.ref f3))) (l3 : K.lookup f3 = some ⟨oc3, od3, .func (PySem.W.fnOf "twos_in" "twos_in" (defArgs s_twos_in) (defBody s_twos_in) (defScope s_twos_in) .none kV3 dc3 pm3 an3 cd3 ct3), sl3⟩) (c3 : PySem.W.codeIn K cd3 "twos_in" = true) (k3 : PySem.W.keepIn K (.ref f3) = true)
    {f4 : Addr} {od4 an4 : Option Addr} {sl4 : Array (Option Value)} {oc4 kV4 dc4 pm4 cd4 ct4 : Value}
    (a4 : PySem.W.nsIn K mainGlobals "broken" = some (some (.ref f4))) (l4 : K.lookup f4 = some ⟨oc4, od4, .func (PySem.W.fnOf "broken" "broken" (defArgs s_broken) (defBody s_broken) (defScope s_broken) .none kV4 dc4 pm4 an4 cd4 ct4), sl4⟩) (c4 : PySem.W.codeIn K cd4 "broken" = true) (k4 : PySem.W.keepIn K (.ref f4) = true)
    {f5 : Addr} {od5 an5 : Option Addr} {sl5 : Array (Option Value)} {oc5 kV5 dc5 pm5 cd5 ct5 : Value}
    (a5 : PySem.W.nsIn K mainGlobals "prime_powers" = some (some (.ref f5))) (l5 : K.lookup f5 = some ⟨oc5, od5, .func (PySem.W.fnOf "prime_powers" "prime_powers" (defArgs s_prime_powers) (defBody s_prime_powers) (defScope s_prime_powers) .none kV5 dc5 pm5 an5 cd5 ct5), sl5⟩) (c5 : PySem.W.codeIn K cd5 "prime_powers" = true) (k5 : PySem.W.keepIn K (.ref f5) = true)
    {f6 : Addr} {od6 an6 : Option Addr} {sl6 : Array (Option Value)} {oc6 kV6 dc6 pm6 cd6 ct6 : Value}
    (a6 : PySem.W.nsIn K mainGlobals "put_together" = some (some (.ref f6))) (l6 : K.lookup f6 = some ⟨oc6, od6, .func (PySem.W.fnOf "put_together" "put_together" (defArgs s_put_together) (defBody s_put_together) (defScope s_put_together) .none kV6 dc6 pm6 an6 cd6 ct6), sl6⟩) (c6 : PySem.W.codeIn K cd6 "put_together" = true) (k6 : PySem.W.keepIn K (.ref f6) = true)
    {f7 : Addr} {od7 an7 : Option Addr} {sl7 : Array (Option Value)} {oc7 kV7 dc7 pm7 cd7 ct7 : Value}
    (a7 : PySem.W.nsIn K mainGlobals "part_steps" = some (some (.ref f7))) (l7 : K.lookup f7 = some ⟨oc7, od7, .func (PySem.W.fnOf "part_steps" "part_steps" (defArgs s_part_steps) (defBody s_part_steps) (defScope s_part_steps) .none kV7 dc7 pm7 an7 cd7 ct7), sl7⟩) (c7 : PySem.W.codeIn K cd7 "part_steps" = true) (k7 : PySem.W.keepIn K (.ref f7) = true)
    {f8 : Addr} {od8 an8 : Option Addr} {sl8 : Array (Option Value)} {oc8 kV8 dc8 pm8 cd8 ct8 : Value}
    (a8 : PySem.W.nsIn K mainGlobals "make_cyclic" = some (some (.ref f8))) (l8 : K.lookup f8 = some ⟨oc8, od8, .func (PySem.W.fnOf "make_cyclic" "make_cyclic" (defArgs s_make_cyclic) (defBody s_make_cyclic) (defScope s_make_cyclic) .none kV8 dc8 pm8 an8 cd8 ct8), sl8⟩) (c8 : PySem.W.codeIn K cd8 "make_cyclic" = true) (k8 : PySem.W.keepIn K (.ref f8) = true)
    {f9 : Addr} {od9 an9 : Option Addr} {sl9 : Array (Option Value)} {oc9 kV9 dc9 pm9 cd9 ct9 : Value}
    (a9 : PySem.W.nsIn K mainGlobals "_law_gcd" = some (some (.ref f9))) (l9 : K.lookup f9 = some ⟨oc9, od9, .func (PySem.W.fnOf "_law_gcd" "_law_gcd" (defArgs s_law_gcd) (defBody s_law_gcd) (defScope s_law_gcd) .none kV9 dc9 pm9 an9 cd9 ct9), sl9⟩) (c9 : PySem.W.codeIn K cd9 "_law_gcd" = true) (k9 : PySem.W.keepIn K (.ref f9) = true)
    {f10 : Addr} {od10 an10 : Option Addr} {sl10 : Array (Option Value)} {oc10 kV10 dc10 pm10 cd10 ct10 : Value}
    (a10 : PySem.W.nsIn K mainGlobals "_law_multiple" = some (some (.ref f10))) (l10 : K.lookup f10 = some ⟨oc10, od10, .func (PySem.W.fnOf "_law_multiple" "_law_multiple" (defArgs s_law_multiple) (defBody s_law_multiple) (defScope s_law_multiple) .none kV10 dc10 pm10 an10 cd10 ct10), sl10⟩) (c10 : PySem.W.codeIn K cd10 "_law_multiple" = true) (k10 : PySem.W.keepIn K (.ref f10) = true)
    {f11 : Addr} {od11 an11 : Option Addr} {sl11 : Array (Option Value)} {oc11 kV11 dc11 pm11 cd11 ct11 : Value}
    (a11 : PySem.W.nsIn K mainGlobals "_law_broken" = some (some (.ref f11))) (l11 : K.lookup f11 = some ⟨oc11, od11, .func (PySem.W.fnOf "_law_broken" "_law_broken" (defArgs s_law_broken) (defBody s_law_broken) (defScope s_law_broken) .none kV11 dc11 pm11 an11 cd11 ct11), sl11⟩) (c11 : PySem.W.codeIn K cd11 "_law_broken" = true) (k11 : PySem.W.keepIn K (.ref f11) = true)
    {f12 : Addr} {od12 an12 : Option Addr} {sl12 : Array (Option Value)} {oc12 kV12 dc12 pm12 cd12 ct12 : Value}
    (a12 : PySem.W.nsIn K mainGlobals "_law_order" = some (some (.ref f12))) (l12 : K.lookup f12 = some ⟨oc12, od12, .func (PySem.W.fnOf "_law_order" "_law_order" (defArgs s_law_order) (defBody s_law_order) (defScope s_law_order) .none kV12 dc12 pm12 an12 cd12 ct12), sl12⟩) (c12 : PySem.W.codeIn K cd12 "_law_order" = true) (k12 : PySem.W.keepIn K (.ref f12) = true)
    {f13 : Addr} {od13 an13 : Option Addr} {sl13 : Array (Option Value)} {oc13 kV13 dc13 pm13 cd13 ct13 : Value}
    (a13 : PySem.W.nsIn K mainGlobals "_law_is_there" = some (some (.ref f13))) (l13 : K.lookup f13 = some ⟨oc13, od13, .func (PySem.W.fnOf "_law_is_there" "_law_is_there" (defArgs s_law_is_there) (defBody s_law_is_there) (defScope s_law_is_there) .none kV13 dc13 pm13 an13 cd13 ct13), sl13⟩) (c13 : PySem.W.codeIn K cd13 "_law_is_there" = true) (k13 : PySem.W.keepIn K (.ref f13) = true)
    {f14 : Addr} {od14 an14 : Option Addr} {sl14 : Array (Option Value)} {oc14 kV14 dc14 pm14 cd14 ct14 : Value}
    (a14 : PySem.W.nsIn K mainGlobals "_law_fits" = some (some (.ref f14))) (l14 : K.lookup f14 = some ⟨oc14, od14, .func (PySem.W.fnOf "_law_fits" "_law_fits" (defArgs s_law_fits) (defBody s_law_fits) (defScope s_law_fits) .none kV14 dc14 pm14 an14 cd14 ct14), sl14⟩) (c14 : PySem.W.codeIn K cd14 "_law_fits" = true) (k14 : PySem.W.keepIn K (.ref f14) = true)
    {f15 : Addr} {od15 an15 : Option Addr} {sl15 : Array (Option Value)} {oc15 kV15 dc15 pm15 cd15 ct15 : Value}
    (a15 : PySem.W.nsIn K mainGlobals "order_of" = some (some (.ref f15))) (l15 : K.lookup f15 = some ⟨oc15, od15, .func (PySem.W.fnOf "order_of" "order_of" (defArgs s_order_of) (defBody s_order_of) (defScope s_order_of) .none kV15 dc15 pm15 an15 cd15 ct15), sl15⟩) (c15 : PySem.W.codeIn K cd15 "order_of" = true) (k15 : PySem.W.keepIn K (.ref f15) = true)
    {f16 : Addr} {od16 an16 : Option Addr} {sl16 : Array (Option Value)} {oc16 kV16 dc16 pm16 cd16 ct16 : Value}
    (a16 : PySem.W.nsIn K mainGlobals "law" = some (some (.ref f16))) (l16 : K.lookup f16 = some ⟨oc16, od16, .func (PySem.W.fnOf "law" "law" (defArgs s_law) (defBody s_law) (defScope s_law) .none kV16 dc16 pm16 an16 cd16 ct16), sl16⟩) (c16 : PySem.W.codeIn K cd16 "law" = true) (k16 : PySem.W.keepIn K (.ref f16) = true)
    (z_abs : PySem.W.nsIn K mainGlobals "abs" = some none)
    (z_enumerate : PySem.W.nsIn K mainGlobals "enumerate" = some none)
    (z_int : PySem.W.nsIn K mainGlobals "int" = some none)
    (z_isinstance : PySem.W.nsIn K mainGlobals "isinstance" = some none)
    (z_len : PySem.W.nsIn K mainGlobals "len" = some none)
    (z_range : PySem.W.nsIn K mainGlobals "range" = some none)
    (z_sum : PySem.W.nsIn K mainGlobals "sum" = some none)
    (z_tuple : PySem.W.nsIn K mainGlobals "tuple" = some none)
    (z_zip : PySem.W.nsIn K mainGlobals "zip" = some none)
    (yb_gcd : PySem.W.nsIn K mainGlobals "gcd" = some (some (.builtin "math.gcd")))
    (main : ∀ ns : List Int, ns.length ≤ 63 → ∃ ps, b_law ⟨(List.replicate 13 Sl.un).set 1 (.fr (.dict [])), stateA ns⟩ = some (.rt (.im (.bool true)) ps)) :
    ∃ fd : FuncData, (∀ (s : Shared) (v : Value), BindsTo s fd ⟨[v], []⟩ [("script", v)]) ∧ ∀ base : Heap, K.In base → base.Ns mainGlobals mg → FnOk l.prog w K mg base CX0 4 fa fd ["script"] (spLaw K) := by
  have e := hfa.symm.trans (PySem.W.mg_of X G a16)
  cases e
  let T : Txt K mg := ⟨_, _, fun_mk (st := s_law_state) l0 c0 k0, PySem.W.mg_of X G a0, _, _, fun_mk (st := s_law_draw) l1 c1 k1, PySem.W.mg_of X G a1, _, _, fun_mk (st := s_multiple) l2 c2 k2, PySem.W.mg_of X G a2, _, _, fun_mk (st := s_twos_in) l3 c3 k3, PySem.W.mg_of X G a3, _, _, fun_mk (st := s_broken) l4 c4 k4, PySem.W.mg_of X G a4, _, _, fun_mk (st := s_prime_powers) l5 c5 k5, PySem.W.mg_of X G a5, _, _, fun_mk (st := s_put_together) l6 c6 k6, PySem.W.mg_of X G a6, _, _, fun_mk (st := s_part_steps) l7 c7 k7, PySem.W.mg_of X G a7, _, _, fun_mk (st := s_make_cyclic) l8 c8 k8, PySem.W.mg_of X G a8, _, _, fun_mk (st := s_law_gcd) l9 c9 k9, PySem.W.mg_of X G a9, _, _, fun_mk (st := s_law_multiple) l10 c10 k10, PySem.W.mg_of X G a10, _, _, fun_mk (st := s_law_broken) l11 c11 k11, PySem.W.mg_of X G a11, _, _, fun_mk (st := s_law_order) l12 c12 k12, PySem.W.mg_of X G a12, _, _, fun_mk (st := s_law_is_there) l13 c13 k13, PySem.W.mg_of X G a13, _, _, fun_mk (st := s_law_fits) l14 c14 k14, PySem.W.mg_of X G a14, _, _, fun_mk (st := s_order_of) l15 c15 k15, PySem.W.mg_of X G a15, _, _, fun_mk (st := s_law) l16 c16 k16, PySem.W.mg_of X G a16, PySem.W.mg_none_of X G z_abs, PySem.W.mg_none_of X G z_enumerate, PySem.W.mg_none_of X G z_int, PySem.W.mg_none_of X G z_isinstance, PySem.W.mg_none_of X G z_len, PySem.W.mg_none_of X G z_range, PySem.W.mg_none_of X G z_sum, PySem.W.mg_none_of X G z_tuple, PySem.W.mg_none_of X G z_zip, PySem.W.mg_of X G yb_gcd⟩
  exact ⟨T.d_law, fun s v => .of_eq rfl, fun base _ _ => G_law T main⟩
end LK
open PySem PySem.W PyProof.Rows
set_option maxHeartbeats 0 in
theorem PySem.Challenge.cw_manysheets_k26_whole_cyclic_coverings_holds : PySem.Challenge.rw_manysheets_k26_whole_cyclic_coverings.Holds := by
  w_on; o_law; k_head; (case hw => w_witness2)
  k_fill
  refine L2.walk_of (l := PySem.Challenge.rw_manysheets_k26_whole_cyclic_coverings) (n := 63) (k := 4) (x := "script") (CX := fun _ => L2.CX0) (sp := fun w => MP.spLaw _) rfl (by decide) rfl ⟨rfl, by decide, by decide⟩ (fun w h Y => PySem.W.kIn_of Y) ?F (fun _ _ a ns hl _ hS => ⟨a, ns, rfl, hS, hl, fun _ => rfl⟩) (fun _ _ _ _ _ h => h)
  case F =>
    intro w mg fa h KX G hmg
    refine' LK.all_mk KX G hmg ?a0 ?l0 ?c0 ?k0 ?a1 ?l1 ?c1 ?k1 ?a2 ?l2 ?c2 ?k2 ?a3 ?l3 ?c3 ?k3 ?a4 ?l4 ?c4 ?k4 ?a5 ?l5 ?c5 ?k5 ?a6 ?l6 ?c6 ?k6 ?a7 ?l7 ?c7 ?k7 ?a8 ?l8 ?c8 ?k8 ?a9 ?l9 ?c9 ?k9 ?a10 ?l10 ?c10 ?k10 ?a11 ?l11 ?c11 ?k11 ?a12 ?l12 ?c12 ?k12 ?a13 ?l13 ?c13 ?k13 ?a14 ?l14 ?c14 ?k14 ?a15 ?l15 ?c15 ?k15 ?a16 ?l16 ?c16 ?k16 ?z_abs ?z_enumerate ?z_int ?z_isinstance ?z_len ?z_range ?z_sum ?z_tuple ?z_zip ?yb_gcd LK.main
    (case a0 => k_is); (case l0 => k_is); (case c0 => k_is); (case k0 => k_is); (case a1 => k_is); (case l1 => k_is); (case c1 => k_is); (case k1 => k_is); (case a2 => k_is); (case l2 => k_is); (case c2 => k_is); (case k2 => k_is); (case a3 => k_is); (case l3 => k_is); (case c3 => k_is); (case k3 => k_is); (case a4 => k_is); (case l4 => k_is); (case c4 => k_is); (case k4 => k_is); (case a5 => k_is); (case l5 => k_is); (case c5 => k_is); (case k5 => k_is); (case a6 => k_is); (case l6 => k_is); (case c6 => k_is); (case k6 => k_is); (case a7 => k_is); (case l7 => k_is); (case c7 => k_is); (case k7 => k_is); (case a8 => k_is); (case l8 => k_is); (case c8 => k_is); (case k8 => k_is); (case a9 => k_is); (case l9 => k_is); (case c9 => k_is); (case k9 => k_is); (case a10 => k_is); (case l10 => k_is); (case c10 => k_is); (case k10 => k_is); (case a11 => k_is); (case l11 => k_is); (case c11 => k_is); (case k11 => k_is); (case a12 => k_is); (case l12 => k_is); (case c12 => k_is); (case k12 => k_is); (case a13 => k_is); (case l13 => k_is); (case c13 => k_is); (case k13 => k_is); (case a14 => k_is); (case l14 => k_is); (case c14 => k_is); (case k14 => k_is); (case a15 => k_is); (case l15 => k_is); (case c15 => k_is); (case k15 => k_is); (case a16 => k_is); (case l16 => k_is); (case c16 => k_is); (case k16 => k_is); (case z_abs => k_is); (case z_enumerate => k_is); (case z_int => k_is); (case z_isinstance => k_is); (case z_len => k_is); (case z_range => k_is); (case z_sum => k_is); (case z_tuple => k_is); (case z_zip => k_is); (case yb_gcd => k_is)

