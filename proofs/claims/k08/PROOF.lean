import PyProof.Rows.All
import Wide.All
import OpenK.AllK
import Wide.FinOn
import HandS.ForMost
import HandS.TupAny
import HandS.Flow
import HandS.Wide
import HandS.Deep
import HandS.AnyAll
import HandS.SortInts
import HandS.Conv
import KE.GoesEnum
import HandS.TryOnly
import HandS.Zip
import HandS.Rev
import HandS.Style
import HandS.IsInst
import KE.KIndexOf
import HandS.SortOrd
import PyProof.TupleOfSeq
import PyProof.WalksMore
import HandS.More
import PyProof.ReprRoads
import PyProof.Rows.RegFStrParts
import HandS.Gcd
import HandS.TupMul
import HandS.TupSets
import KE.DataMinMax
import HandS.SortKw
import HandS.SetFor
import HandS.RevTup
import HandS.Strs
import HandS.Dict
import HandS.HeadHook4
import HandS.HeadWalk
import HandS.Head2
import KE.KExcSuper
import HandS.ExcInit
import HandS.ExcField
import HandS.ExcIs
import HandS.ExcOwn
import KE.KExcIs
import PySem.Challenge.RW_manysheets_k08_rules_of_data
set_option Elab.async false
set_option linter.all false
set_option maxRecDepth 100000
set_option maxHeartbeats 4000000
namespace MP
open PySem PySem.Spec PyProof.Rows L2

abbrev Dat := PyData
abbrev Fg := PySem.W.Frag

/-! ### data and values -/
/-- a tuple whose object is known to bear no dict -/
def TupD (F : Hp) (a : Addr) (xs : List V) : Prop := ∃ o : Obj, F a = some (.frz o (.tup xs)) ∧ o.dict = none
theorem TupD.sqT {K : Fg} {F : Hp} {a : Addr} {xs : List V} (h : TupD F a xs) : SqT K F a xs := by
  obtain ⟨o, e, _⟩ := h
  exact .inl (.inr ⟨o, e⟩)
theorem TupD.mono {F F' : Hp} {a : Addr} {xs : List V} (e : Same F F') (h : TupD F a xs) : TupD F' a xs := by
  obtain ⟨o, h1, h2⟩ := h
  exact ⟨o, e _ _ h1, h2⟩
/- the empty dict stands for the law's state; a dict of one entry for a pair that a walk hands out; a dict of two for a list from outside (the script) -/
mutual
def Rel (K : Fg) (F : Hp) (T : Addr) : Dat → V → Prop
  | .none, v => v = .non
  | .bool b, v => v = .bl b
  | .int i, v => v = .int i
  | .str x, v => v = .str x
  | .list ds, v => ∃ a xs, v = .ref a ∧ F a = some (.lst xs) ∧ RelL K F T ds xs
  | .tuple ds, v => ∃ a xs, v = .ref a ∧ TupD F a xs ∧ RelL K F T ds xs
  | .dict [], v => v = .ref T
  | .dict [(d, e)], v => ∃ a x y, v = .ref a ∧ SqT K F a [x, y] ∧ Rel K F T d x ∧ Rel K F T e y
  | .dict (_ :: (_, .list ds) :: _), v => ∃ a xs, v = .ref a ∧ SqL K F a xs ∧ RelL K F T ds xs
  | .dict _, _ => False
def RelL (K : Fg) (F : Hp) (T : Addr) : List Dat → List V → Prop
  | [], xs => xs = []
  | d :: ds, xs => ∃ y ys, xs = y :: ys ∧ Rel K F T d y ∧ RelL K F T ds ys
end

theorem seqL {K : Fg} {H H' : Hp} {a : Addr} {xs : List V} (e : Same H H') (h : SqL K H a xs) : SqL K H' a xs := by
  rcases h with (h | ⟨o, h⟩) | h
  · exact .inl (.inl (e _ _ h))
  · exact .inl (.inr ⟨o, e _ _ h⟩)
  · exact .inr h
theorem seqT {K : Fg} {H H' : Hp} {a : Addr} {xs : List V} (e : Same H H') (h : SqT K H a xs) : SqT K H' a xs := by
  rcases h with (h | ⟨o, h⟩) | h
  · exact .inl (.inl (e _ _ h))
  · exact .inl (.inr ⟨o, e _ _ h⟩)
  · exact .inr h

section
variable {K : Fg} {F F' : Hp} {T : Addr}
mutual
theorem Rel.mono (e : Same F F') : ∀ (d : Dat) (v : V), Rel K F T d v → Rel K F' T d v
  | .none, _, h => h
  | .bool _, _, h => h
  | .int _, _, h => h
  | .str _, _, h => h
  | .list ds, _, h => by
    unfold Rel at h ⊢
    obtain ⟨a, xs, e1, h1, h2⟩ := h
    exact ⟨a, xs, e1, e _ _ h1, RelL.mono e ds xs h2⟩
  | .tuple ds, _, h => by
    unfold Rel at h ⊢
    obtain ⟨a, xs, e1, h1, h2⟩ := h
    exact ⟨a, xs, e1, h1.mono e, RelL.mono e ds xs h2⟩
  | .dict [], _, h => h
  | .dict [(d, d')], _, h => by
    unfold Rel at h ⊢
    obtain ⟨a, x, y, e1, h1, h2, h3⟩ := h
    exact ⟨a, x, y, e1, seqT e h1, Rel.mono e d x h2, Rel.mono e d' y h3⟩
  | .dict (_ :: (_, .list ds) :: _), _, h => by
    unfold Rel at h ⊢
    obtain ⟨a, xs, e1, h1, h2⟩ := h
    exact ⟨a, xs, e1, seqL e h1, RelL.mono e ds xs h2⟩
  | .dict (_ :: (_, .none) :: _), _, h => by unfold Rel at h; exact h.elim
  | .dict (_ :: (_, .bool _) :: _), _, h => by unfold Rel at h; exact h.elim
  | .dict (_ :: (_, .int _) :: _), _, h => by unfold Rel at h; exact h.elim
  | .dict (_ :: (_, .str _) :: _), _, h => by unfold Rel at h; exact h.elim
  | .dict (_ :: (_, .tuple _) :: _), _, h => by unfold Rel at h; exact h.elim
  | .dict (_ :: (_, .dict _) :: _), _, h => by unfold Rel at h; exact h.elim
theorem RelL.mono (e : Same F F') : ∀ (ds : List Dat) (xs : List V), RelL K F T ds xs → RelL K F' T ds xs
  | [], _, h => h
  | d :: ds, _, h => by
    unfold RelL at h ⊢
    obtain ⟨y, ys, e1, h1, h2⟩ := h
    exact ⟨y, ys, e1, Rel.mono e d y h1, RelL.mono e ds ys h2⟩
end

theorem RelL.nil : RelL K F T [] [] := by unfold RelL; rfl
theorem RelL.cons {d ds v vs} (h : Rel K F T d v) (t : RelL K F T ds vs) : RelL K F T (d :: ds) (v :: vs) := by unfold RelL; exact ⟨v, vs, rfl, h, t⟩
theorem RelL.len : ∀ {ds : List Dat} {vs : List V}, RelL K F T ds vs → vs.length = ds.length
  | [], _, h => by unfold RelL at h; subst h; rfl
  | d :: ds, _, h => by
    unfold RelL at h
    obtain ⟨y, ys, rfl, _, h2⟩ := h
    simp [h2.len]
theorem RelL.get : ∀ {ds : List Dat} {vs : List V} {i : Nat} {d : Dat}, RelL K F T ds vs → ds[i]? = some d → ∃ v, vs[i]? = some v ∧ Rel K F T d v
  | [], _, i, d, _, e => by simp at e
  | d :: ds, _, 0, d', h, e => by
    unfold RelL at h
    obtain ⟨y, ys, rfl, h1, h2⟩ := h
    simp at e
    subst e
    exact ⟨y, rfl, h1⟩
  | d :: ds, _, i + 1, d', h, e => by
    unfold RelL at h
    obtain ⟨y, ys, rfl, h1, h2⟩ := h
    simp at e
    obtain ⟨v, e2, r⟩ := h2.get e
    exact ⟨v, by simpa using e2, r⟩
theorem RelL.getV : ∀ {ds : List Dat} {vs : List V} {i : Nat} {v : V}, RelL K F T ds vs → vs[i]? = some v → ∃ d, ds[i]? = some d ∧ Rel K F T d v
  | [], _, i, d, h, e => by unfold RelL at h; subst h; simp at e
  | d :: ds, _, 0, d', h, e => by
    unfold RelL at h
    obtain ⟨y, ys, rfl, h1, h2⟩ := h
    simp at e
    subst e
    exact ⟨d, rfl, h1⟩
  | d :: ds, _, i + 1, d', h, e => by
    unfold RelL at h
    obtain ⟨y, ys, rfl, h1, h2⟩ := h
    simp at e
    obtain ⟨v, e2, r⟩ := h2.getV e
    exact ⟨v, by simpa using e2, r⟩
theorem RelL.append : ∀ {ds es : List Dat} {vs ws : List V}, RelL K F T ds vs → RelL K F T es ws → RelL K F T (ds ++ es) (vs ++ ws)
  | [], _, _, _, h, h' => by unfold RelL at h; subst h; exact h'
  | d :: ds, _, _, _, h, h' => by
    unfold RelL at h
    obtain ⟨y, ys, rfl, h1, h2⟩ := h
    exact .cons h1 (h2.append h')
theorem RelL.take : ∀ {ds : List Dat} {vs : List V} (n : Nat), RelL K F T ds vs → RelL K F T (ds.take n) (vs.take n)
  | _, _, 0, _ => by simpa using RelL.nil
  | [], _, n + 1, h => by unfold RelL at h; subst h; exact RelL.nil
  | d :: ds, _, n + 1, h => by
    unfold RelL at h
    obtain ⟨y, ys, rfl, h1, h2⟩ := h
    exact .cons h1 (h2.take n)
theorem RelL.drop : ∀ {ds : List Dat} {vs : List V} (n : Nat), RelL K F T ds vs → RelL K F T (ds.drop n) (vs.drop n)
  | _, _, 0, h => h
  | [], _, n + 1, h => by unfold RelL at h; subst h; exact RelL.nil
  | d :: ds, _, n + 1, h => by
    unfold RelL at h
    obtain ⟨y, ys, rfl, h1, h2⟩ := h
    exact h2.drop n
theorem RelL.set : ∀ {ds : List Dat} {vs : List V} {d : Dat} {v : V} (n : Nat), RelL K F T ds vs → Rel K F T d v → RelL K F T (ds.set n d) (vs.set n v)
  | [], _, _, _, n, h, _ => by unfold RelL at h; subst h; exact RelL.nil
  | d :: ds, _, _, _, 0, h, r => by
    unfold RelL at h
    obtain ⟨y, ys, rfl, h1, h2⟩ := h
    exact .cons r h2
  | d :: ds, _, _, _, n + 1, h, r => by
    unfold RelL at h
    obtain ⟨y, ys, rfl, h1, h2⟩ := h
    exact .cons h1 (h2.set n r)
theorem RelL.eraseIdx : ∀ {ds : List Dat} {vs : List V} (n : Nat), RelL K F T ds vs → RelL K F T (ds.eraseIdx n) (vs.eraseIdx n)
  | [], _, n, h => by unfold RelL at h; subst h; exact RelL.nil
  | d :: ds, _, 0, h => by
    unfold RelL at h
    obtain ⟨y, ys, rfl, h1, h2⟩ := h
    exact h2
  | d :: ds, _, n + 1, h => by
    unfold RelL at h
    obtain ⟨y, ys, rfl, h1, h2⟩ := h
    exact .cons h1 (h2.eraseIdx n)
theorem RelL.reverse {ds : List Dat} {vs : List V} (h : RelL K F T ds vs) : RelL K F T ds.reverse vs.reverse := by
  induction ds generalizing vs with
  | nil => unfold RelL at h; subst h; exact RelL.nil
  | cons d ds ih =>
    unfold RelL at h
    obtain ⟨y, ys, rfl, h1, h2⟩ := h
    rw [List.reverse_cons, List.reverse_cons]
    exact (ih h2).append (.cons h1 .nil)
theorem RelL.rep {ds : List Dat} {vs : List V} (h : RelL K F T ds vs) : ∀ k : Nat, RelL K F T (List.replicate k ds).flatten (List.replicate k vs).flatten
  | 0 => RelL.nil
  | k + 1 => by
    rw [List.replicate_succ, List.replicate_succ, List.flatten_cons, List.flatten_cons]
    exact h.append (h.rep k)
theorem RelL.nil_iff {ds : List Dat} {vs : List V} (h : RelL K F T ds vs) : vs = [] ↔ ds = [] := by
  have e := h.len
  constructor
  · rintro rfl
    exact List.eq_nil_of_length_eq_zero e.symm
  · rintro rfl
    exact List.eq_nil_of_length_eq_zero e
end

/-! ### own objects: trees -/
/-- the form of an own object: a list; a dict with these keys (ints and texts, or tuples of them) -/
inductive Sh where
  | li
  | dk (ks : List Key)
  | dt (ks : List (List Key))
def Sh.ho : Sh → List V → HO
  | .li, vs => .lst vs
  | .dk ks, vs => .dK (ks.zip vs)
  | .dt ks, vs => .dT (ks.zip vs)
def Sh.ok : Sh → Nat → Prop
  | .li, _ => True
  | .dk ks, n => ks.length = n ∧ ks.Nodup
  | .dt ks, n => ks.length = n ∧ ks.Nodup
/-- data; an own object with what it holds -/
inductive Tr where
  | fr (d : Dat)
  | nd (sh : Sh) (ts : List Tr)
mutual
/-- t stands at v; fp: the places of its own objects -/
def TrOk (K : Fg) (F H H0 : Hp) (T : Addr) : Tr → V → List Addr → Prop
  | .fr d, v, fp => fp = [] ∧ Rel K F T d v
  | .nd sh ts, v, fp => ∃ p vs fq, v = .ref p ∧ fp = p :: fq ∧ H p = some (sh.ho vs) ∧ F p = none ∧ H0 p = none ∧ sh.ok vs.length ∧ TrsOk K F H H0 T ts vs fq
def TrsOk (K : Fg) (F H H0 : Hp) (T : Addr) : List Tr → List V → List Addr → Prop
  | [], vs, fp => vs = [] ∧ fp = []
  | t :: ts, vs, fp => ∃ v ws f g, vs = v :: ws ∧ fp = f ++ g ∧ TrOk K F H H0 T t v f ∧ TrsOk K F H H0 T ts ws g
end
mutual
/-- the places alone -/
def TrFp (H : Hp) : Tr → V → List Addr → Prop
  | .fr _, _, fp => fp = []
  | .nd sh ts, v, fp => ∃ p vs fq, v = .ref p ∧ fp = p :: fq ∧ H p = some (sh.ho vs) ∧ sh.ok vs.length ∧ TrsFp H ts vs fq
def TrsFp (H : Hp) : List Tr → List V → List Addr → Prop
  | [], vs, fp => vs = [] ∧ fp = []
  | t :: ts, vs, fp => ∃ v ws f g, vs = v :: ws ∧ fp = f ++ g ∧ TrFp H t v f ∧ TrsFp H ts ws g
end
theorem zip_inj {α β : Type} : ∀ {ks : List α} {vs ws : List β}, ks.length = vs.length → ks.length = ws.length → ks.zip vs = ks.zip ws → vs = ws
  | [], [], [], _, _, _ => rfl
  | k :: ks, v :: vs, w :: ws, h1, h2, e => by
    simp only [List.zip_cons_cons, List.cons.injEq, Prod.mk.injEq, true_and] at e
    rw [e.1, zip_inj (by simpa using h1) (by simpa using h2) e.2]
  | [], _ :: _, _, h, _, _ => by cases h
  | [], [], _ :: _, _, h, _ => by cases h
  | _ :: _, [], _, h, _, _ => by cases h
  | _ :: _, _ :: _, [], _, h, _ => by cases h
theorem Sh.inj {sh : Sh} {vs ws : List V} (h1 : sh.ok vs.length) (h2 : sh.ok ws.length) (e : sh.ho vs = sh.ho ws) : vs = ws := by
  cases sh with
  | li => cases e; rfl
  | dk ks => exact zip_inj h1.1 h2.1 (by injection e)
  | dt ks => exact zip_inj h1.1 h2.1 (by injection e)
/-- what an own object is: never a table, never frozen -/
def MutO : HO → Prop
  | .lst _ => True
  | .dK _ => True
  | .dT _ => True
  | _ => False
theorem Sh.mut (sh : Sh) (vs : List V) : MutO (sh.ho vs) := by cases sh <;> trivial
section
variable {K : Fg} {F F' H H' H0 : Hp} {T : Addr}
mutual
theorem TrOk.fp : ∀ {t : Tr} {v : V} {fp : List Addr}, TrOk K F H H0 T t v fp → TrFp H t v fp
  | .fr d, v, fp, h => by
    unfold TrOk at h
    unfold TrFp
    exact h.1
  | .nd sh ts, v, fp, h => by
    unfold TrOk at h
    unfold TrFp
    obtain ⟨p, vs, fq, e1, e2, h1, h2, h3, h4, h5⟩ := h
    exact ⟨p, vs, fq, e1, e2, h1, h4, TrsOk.fp h5⟩
theorem TrsOk.fp : ∀ {ts : List Tr} {vs : List V} {fp : List Addr}, TrsOk K F H H0 T ts vs fp → TrsFp H ts vs fp
  | [], vs, fp, h => by
    unfold TrsOk at h
    unfold TrsFp
    exact h
  | t :: ts, vs, fp, h => by
    unfold TrsOk at h
    unfold TrsFp
    obtain ⟨v, ws, f, g, e1, e2, h1, h2⟩ := h
    exact ⟨v, ws, f, g, e1, e2, TrOk.fp h1, TrsOk.fp h2⟩
end
mutual
theorem TrFp.uniq : ∀ {t : Tr} {v : V} {fp fp' : List Addr}, TrFp H t v fp → TrFp H t v fp' → fp = fp'
  | .fr d, v, fp, fp', h, h' => by
    unfold TrFp at h h'
    rw [h, h']
  | .nd sh ts, v, fp, fp', h, h' => by
    unfold TrFp at h h'
    obtain ⟨p, vs, fq, rfl, rfl, h1, h4, h5⟩ := h
    obtain ⟨p', vs', fq', e1, rfl, h1', h4', h5'⟩ := h'
    cases e1
    rw [h1] at h1'
    have e := Sh.inj h4 h4' (Option.some.inj h1')
    subst e
    rw [TrsFp.uniq h5 h5']
theorem TrsFp.uniq : ∀ {ts : List Tr} {vs : List V} {fp fp' : List Addr}, TrsFp H ts vs fp → TrsFp H ts vs fp' → fp = fp'
  | [], vs, fp, fp', h, h' => by
    unfold TrsFp at h h'
    rw [h.2, h'.2]
  | t :: ts, vs, fp, fp', h, h' => by
    unfold TrsFp at h h'
    obtain ⟨v, ws, f, g, rfl, rfl, h1, h2⟩ := h
    obtain ⟨v', ws', f', g', e1, rfl, h1', h2'⟩ := h'
    cases e1
    rw [TrFp.uniq h1 h1', TrsFp.uniq h2 h2']
end
mutual
theorem TrFp.keep : ∀ {t : Tr} {v : V} {fp : List Addr}, TrFp H t v fp → (∀ p ∈ fp, H' p = H p) → TrFp H' t v fp
  | .fr d, v, fp, h, k => by
    unfold TrFp at h ⊢
    exact h
  | .nd sh ts, v, fp, h, k => by
    unfold TrFp at h ⊢
    obtain ⟨p, vs, fq, rfl, rfl, h1, h4, h5⟩ := h
    exact ⟨p, vs, fq, rfl, rfl, by rw [k p (List.mem_cons_self ..)]; exact h1, h4, TrsFp.keep h5 fun q hq => k q (List.mem_cons_of_mem _ hq)⟩
theorem TrsFp.keep : ∀ {ts : List Tr} {vs : List V} {fp : List Addr}, TrsFp H ts vs fp → (∀ p ∈ fp, H' p = H p) → TrsFp H' ts vs fp
  | [], vs, fp, h, k => by
    unfold TrsFp at h ⊢
    exact h
  | t :: ts, vs, fp, h, k => by
    unfold TrsFp at h ⊢
    obtain ⟨v, ws, f, g, rfl, rfl, h1, h2⟩ := h
    exact ⟨v, ws, f, g, rfl, rfl, TrFp.keep h1 fun q hq => k q (List.mem_append_left _ hq), TrsFp.keep h2 fun q hq => k q (List.mem_append_right _ hq)⟩
end
mutual
theorem TrOk.keep : ∀ {t : Tr} {v : V} {fp : List Addr}, TrOk K F H H0 T t v fp → Same F F' → (∀ p ∈ fp, H' p = H p ∧ F' p = none) → TrOk K F' H' H0 T t v fp
  | .fr d, v, fp, h, s, k => by
    unfold TrOk at h ⊢
    exact ⟨h.1, Rel.mono s _ _ h.2⟩
  | .nd sh ts, v, fp, h, s, k => by
    unfold TrOk at h ⊢
    obtain ⟨p, vs, fq, rfl, rfl, h1, h2, h3, h4, h5⟩ := h
    have kp := k p (List.mem_cons_self ..)
    exact ⟨p, vs, fq, rfl, rfl, by rw [kp.1]; exact h1, kp.2, h3, h4, TrsOk.keep h5 s fun q hq => k q (List.mem_cons_of_mem _ hq)⟩
theorem TrsOk.keep : ∀ {ts : List Tr} {vs : List V} {fp : List Addr}, TrsOk K F H H0 T ts vs fp → Same F F' → (∀ p ∈ fp, H' p = H p ∧ F' p = none) → TrsOk K F' H' H0 T ts vs fp
  | [], vs, fp, h, s, k => by
    unfold TrsOk at h ⊢
    exact h
  | t :: ts, vs, fp, h, s, k => by
    unfold TrsOk at h ⊢
    obtain ⟨v, ws, f, g, rfl, rfl, h1, h2⟩ := h
    exact ⟨v, ws, f, g, rfl, rfl, TrOk.keep h1 s fun q hq => k q (List.mem_append_left _ hq), TrsOk.keep h2 s fun q hq => k q (List.mem_append_right _ hq)⟩
end
mutual
theorem TrOk.h0 {H1 : Hp} : ∀ {t : Tr} {v : V} {fp : List Addr}, TrOk K F H H0 T t v fp → (∀ p ∈ fp, H1 p = none) → TrOk K F H H1 T t v fp
  | .fr d, v, fp, h, k => by
    unfold TrOk at h ⊢
    exact h
  | .nd sh ts, v, fp, h, k => by
    unfold TrOk at h ⊢
    obtain ⟨p, vs, fq, rfl, rfl, h1, h2, h3, h4, h5⟩ := h
    exact ⟨p, vs, fq, rfl, rfl, h1, h2, k p (List.mem_cons_self ..), h4, TrsOk.h0 h5 fun q hq => k q (List.mem_cons_of_mem _ hq)⟩
theorem TrsOk.h0 {H1 : Hp} : ∀ {ts : List Tr} {vs : List V} {fp : List Addr}, TrsOk K F H H0 T ts vs fp → (∀ p ∈ fp, H1 p = none) → TrsOk K F H H1 T ts vs fp
  | [], vs, fp, h, k => by
    unfold TrsOk at h ⊢
    exact h
  | t :: ts, vs, fp, h, k => by
    unfold TrsOk at h ⊢
    obtain ⟨v, ws, f, g, rfl, rfl, h1, h2⟩ := h
    exact ⟨v, ws, f, g, rfl, rfl, TrOk.h0 h1 fun q hq => k q (List.mem_append_left _ hq), TrsOk.h0 h2 fun q hq => k q (List.mem_append_right _ hq)⟩
end
mutual
theorem TrOk.own : ∀ {t : Tr} {v : V} {fp : List Addr}, TrOk K F H H0 T t v fp → ∀ p ∈ fp, ∃ o, H p = some o ∧ MutO o ∧ F p = none ∧ H0 p = none
  | .fr d, v, fp, h => by
    unfold TrOk at h
    rw [h.1]
    intro p hp
    cases hp
  | .nd sh ts, v, fp, h => by
    unfold TrOk at h
    obtain ⟨p, vs, fq, rfl, rfl, h1, h2, h3, h4, h5⟩ := h
    intro q hq
    rcases List.mem_cons.mp hq with e | hq
    · rw [e]
      exact ⟨_, h1, sh.mut vs, h2, h3⟩
    · exact TrsOk.own h5 q hq
theorem TrsOk.own : ∀ {ts : List Tr} {vs : List V} {fp : List Addr}, TrsOk K F H H0 T ts vs fp → ∀ p ∈ fp, ∃ o, H p = some o ∧ MutO o ∧ F p = none ∧ H0 p = none
  | [], vs, fp, h => by
    unfold TrsOk at h
    rw [h.2]
    intro p hp
    cases hp
  | t :: ts, vs, fp, h => by
    unfold TrsOk at h
    obtain ⟨v, ws, f, g, rfl, rfl, h1, h2⟩ := h
    intro q hq
    rcases List.mem_append.mp hq with hq | hq
    · exact TrOk.own h1 q hq
    · exact TrsOk.own h2 q hq
end
end

/-! ### the state -/
/-- a slot: nothing known, data that never changes any more, a list of the frame's own -/
inductive Sl where
  | un
  | fr (d : Dat)
  | ow (ds : List Dat)
  | tr (t : Tr)
  | al (j : Nat) (path : List Nat)
/-- the law's draws: cells and a seed; or a place and a rest -/
inductive Dr where
  | no
  | A (cells : List Int) (seed : Int)
  | B (k c : Int)
structure PS where
  sl : List Sl
  dr : Dr
/-- the entry -/
structure Ctl where
  H0 : Hp
  F0 : Hp
  T : Addr
  C : Addr
  st : Bool
def Ctl.ex (G : Ctl) (a : Addr) : Prop := G.st = true ∧ (a = G.T ∨ a = G.C)
def DrAt (T C : Addr) (H : Hp) : Dr → Prop
  | .no => False
  | .A cs s => T ≠ C ∧ H T = some (.lst [.ref C, .int s]) ∧ H C = some (.lst (cs.map V.int))
  | .B k c => H T = some (.lst [.int k, .int c]) ∧ C = T
theorem DrAt.T {T C : Addr} {H : Hp} {d : Dr} (h : DrAt T C H d) : H T ≠ none := by
  cases d with
  | no => exact h.elim
  | A cs s => rw [h.2.1]; simp
  | B k c => rw [h.1]; simp
theorem DrAt.C {T C : Addr} {H : Hp} {d : Dr} (h : DrAt T C H d) : H C ≠ none := by
  cases d with
  | no => exact h.elim
  | A cs s => rw [h.2.2]; simp
  | B k c => rw [h.2, h.1]; simp
theorem DrAt.keep {T C : Addr} {H H' : Hp} {d : Dr} (h : DrAt T C H d) (k : ∀ a o, H a = some o → (a = T ∨ a = C) → H' a = some o) : DrAt T C H' d := by
  cases d with
  | no => exact h.elim
  | A cs s => exact ⟨h.1, k _ _ h.2.1 (.inl rfl), k _ _ h.2.2 (.inr rfl)⟩
  | B k' c => exact ⟨k _ _ h.1 (.inl rfl), h.2⟩

def SlOk (G : Ctl) (K : Fg) (F H : Hp) : Sl → Option V → Prop
  | .un, _ => True
  | .fr d, o => ∃ v, o = some v ∧ Rel K F G.T d v
  | .ow ds, o => ∃ p vs, o = some (.ref p) ∧ H p = some (.lst vs) ∧ F p = none ∧ G.H0 p = none ∧ RelL K F G.T ds vs
  | .tr t, o => ∃ v fp, o = some v ∧ TrOk K F H G.H0 G.T t v fp ∧ fp.Nodup
  | .al _ _, o => ∃ v, o = some v
/-- the places of a slot's own objects -/
def FpS (H : Hp) : Sl → Option V → Addr → Prop
  | .ow _, o, p => o = some (.ref p)
  | .tr t, o, p => ∃ v fp, o = some v ∧ TrFp H t v fp ∧ p ∈ fp
  | _, _, _ => False
def OwnAt (ps : PS) (σ : L2.St) (H : Hp) (i : Nat) (p : Addr) : Prop := ∃ s o, ps.sl[i]? = some s ∧ σ[i]? = some o ∧ FpS H s o p
/-- p is an own object's place -/
def Own (ps : PS) (σ : L2.St) (H : Hp) (p : Addr) : Prop := ∃ i, OwnAt ps σ H i p
theorem SlOk.own {G : Ctl} {K : Fg} {F H : Hp} {s : Sl} {o : Option V} {p : Addr} (h : SlOk G K F H s o) (f : FpS H s o p) : ∃ u, H p = some u ∧ MutO u ∧ F p = none ∧ G.H0 p = none := by
  cases s with
  | un => exact f.elim
  | fr d => exact f.elim
  | al j path => exact f.elim
  | ow ds =>
    obtain ⟨q, vs, e, h1, h2, h3, _⟩ := h
    have f : o = some (.ref p) := f
    rw [e] at f
    cases f
    exact ⟨_, h1, trivial, h2, h3⟩
  | tr t =>
    obtain ⟨v, fp, e, h1, _⟩ := h
    obtain ⟨v', fp', e', h2, hp⟩ := f
    rw [e] at e'
    cases e'
    rw [TrFp.uniq h2 h1.fp] at hp
    exact h1.own p hp
/-- own places are the same where the own objects are -/
theorem FpS.iff {G : Ctl} {K : Fg} {F H H' : Hp} {s : Sl} {o : Option V} (h : SlOk G K F H s o) (k : ∀ p, FpS H s o p → H' p = H p) (p : Addr) : FpS H' s o p ↔ FpS H s o p := by
  cases s with
  | un => exact Iff.rfl
  | fr d => exact Iff.rfl
  | al j path => exact Iff.rfl
  | ow ds => exact Iff.rfl
  | tr t =>
    obtain ⟨v, fp, e, h1, _⟩ := h
    have h2 : TrFp H' t v fp := h1.fp.keep fun q hq => k q ⟨v, fp, e, h1.fp, hq⟩
    constructor
    · rintro ⟨v', fp', e', h3, hp⟩
      rw [e] at e'
      cases e'
      rw [TrFp.uniq h3 h2] at hp
      exact ⟨v, fp, e, h1.fp, hp⟩
    · rintro ⟨v', fp', e', h3, hp⟩
      rw [e] at e'
      cases e'
      rw [TrFp.uniq h3 h1.fp] at hp
      exact ⟨v, fp, e, h2, hp⟩

/-- what the codes of generator expressions are listed in: by the law's fragment, these tables -/
class Tbs where
  tb : Fg → List Addr
/-- an object is kept; a table may have grown -/
def Kp (o : HO) (x : Option HO) : Prop := x = some o ∨ ∃ ps ps' : Array Value, o = .tbl ps ∧ TriplesOk ps.toList ∧ x = some (.tbl ps') ∧ TriplesOk ps'.toList
theorem Kp.keep {o : HO} {x y : Option HO} (h : Kp o x) (k : ∀ u, x = some u → y = some u) : Kp o y := by
  rcases h with h | ⟨ps, ps', a, b, c, d⟩
  · exact .inl (k _ h)
  · exact .inr ⟨ps, ps', a, b, k _ c, d⟩
theorem Kp.trans {o : HO} {x y : Option HO} (h : Kp o x) (k : ∀ u, x = some u → Kp u y) : Kp o y := by
  rcases h with h | ⟨ps, ps', a, b, c, d⟩
  · exact k _ h
  · rcases k _ c with z | ⟨qs, qs', e, f, g, i⟩
    · exact .inr ⟨ps, ps', a, b, z, d⟩
    · exact .inr ⟨ps, qs', a, b, g, i⟩
theorem Kp.lst {xs : List V} {x : Option HO} (h : Kp (.lst xs) x) : x = some (.lst xs) := by
  rcases h with h | ⟨ps, ps', a, _⟩
  · exact h
  · cases a
theorem Kp.mut {o : HO} {x : Option HO} (h : Kp o x) (m : MutO o) : x = some o := by
  rcases h with h | ⟨ps, ps', a, _⟩
  · exact h
  · subst a
    exact m.elim
theorem Kp.some {o : HO} (h : Kp o none) : False := by
  rcases h with h | ⟨ps, ps', a, b, c, d⟩
  · cases h
  · cases c
/-- other names of parts of slot j are forgotten -/
def unS (j : Nat) : Sl → Sl
  | .al k path => if k = j then .un else .al k path
  | s => s
def PS.unal (j : Nat) (ps : PS) : PS := { ps with sl := ps.sl.map (unS j) }
/-- own things at path -/
def Tr.get : Tr → List Nat → Option Tr
  | t, [] => some t
  | .fr _, _ :: _ => none
  | .nd _ ts, k :: path => (ts[k]?).bind fun t => t.get path
def Tr.set : Tr → List Nat → Tr → Tr
  | _, [], s => s
  | .fr d, _ :: _, _ => .fr d
  | .nd sh ts, k :: path, s => match ts[k]? with
    | some t => .nd sh (ts.set k (t.set path s))
    | none => .nd sh ts
def AddrAt (H : Hp) : List Nat → Tr → V → Addr → Prop
  | _, .fr _, _, _ => False
  | [], .nd _ _, v, q => v = .ref q
  | k :: path, .nd sh ts, v, q => ∃ p vs t w, v = .ref p ∧ H p = some (sh.ho vs) ∧ sh.ok vs.length ∧ ts[k]? = some t ∧ vs[k]? = some w ∧ AddrAt H path t w q
def TAt (ps : PS) (σ : L2.St) (H : Hp) (i : Nat) (path : List Nat) (q : Addr) : Prop := ∃ t v, ps.sl[i]? = some (.tr t) ∧ σ[i]? = some (some v) ∧ AddrAt H path t v q
variable [Tbs]
structure Rep (G : Ctl) (K : Fg) (F : Hp) (ps : PS) (σ : L2.St) (H : Hp) : Prop where
  len : σ.length = ps.sl.length
  slots : ∀ (i : Nat) (s : Sl), ps.sl[i]? = some s → ∃ o, σ[i]? = some o ∧ SlOk G K F H s o
  sep : ∀ (i j : Nat) (p : Addr), OwnAt ps σ H i p → OwnAt ps σ H j p → i = j
  dr : G.st = true → DrAt G.T G.C H ps.dr
  ft : G.st = true → F G.T = none ∧ F G.C = none ∧ G.H0 G.T ≠ none ∧ G.H0 G.C ≠ none
  fh : Same F H
  kp : ∀ a o, G.H0 a = some o → ¬ G.ex a → Kp o (H a)
  f0 : ∀ a, G.H0 a ≠ none → F a = G.F0 a
  ff : Same G.F0 F
  nd : G.st = false → ps.dr = .no
  tab : ∀ P ∈ Tbs.tb K, GxR.TabG G.H0 P ∧ ¬ G.ex P ∧ G.F0 P = none
  ali : ∀ (i j : Nat) (path : List Nat) (q : Addr), ps.sl[i]? = some (Sl.al j path) → TAt ps σ H j path q → σ[i]? = some (some (V.ref q))

theorem tab_nex {G : Ctl} {dr : Dr} {P : Addr} (hd : G.st = true → DrAt G.T G.C G.H0 dr) (h : GxR.TabG G.H0 P) : ¬ G.ex P := fun ⟨hs, he⟩ => by
  obtain ⟨qs, h1, _⟩ := h
  have d := hd hs
  cases dr with
  | no => exact d.elim
  | A cs s =>
    rcases he with rfl | rfl
    · rw [d.2.1] at h1; cases h1
    · rw [d.2.2] at h1; cases h1
  | B k c =>
    rcases he with rfl | rfl
    · rw [d.1] at h1; cases h1
    · rw [d.2, d.1] at h1; cases h1

theorem getSet {α : Type} {l : List α} {i j : Nat} {x y : α} (h : (l.set i x)[j]? = some y) : (j = i ∧ x = y ∧ i < l.length) ∨ (j ≠ i ∧ l[j]? = some y) := by
  by_cases e : j = i
  · subst e
    by_cases hl : j < l.length
    · rw [List.getElem?_set_self hl] at h
      exact .inl ⟨rfl, Option.some.inj h, hl⟩
    · rw [List.getElem?_eq_none (by simp; omega)] at h
      cases h
  · rw [List.getElem?_set_ne (Ne.symm e)] at h
    exact .inr ⟨e, h⟩
theorem ltOf {α : Type} {l : List α} {i : Nat} {x : α} (h : l[i]? = some x) : i < l.length := (List.getElem?_eq_some_iff.mp h).1

section
variable {K : Fg} {F F' H H' H0 : Hp} {T : Addr}
theorem TrsFp.get : ∀ {ts : List Tr} {vs : List V} {fp : List Addr} {k : Nat} {t : Tr}, TrsFp H ts vs fp → ts[k]? = some t → ∃ w f, vs[k]? = some w ∧ TrFp H t w f ∧ ∀ p ∈ f, p ∈ fp
  | [], vs, fp, k, t, h, e => by simp at e
  | t :: ts, vs, fp, 0, t', h, e => by
    unfold TrsFp at h
    obtain ⟨v, ws, f, g, rfl, rfl, h1, h2⟩ := h
    simp at e
    subst e
    exact ⟨v, f, rfl, h1, fun p hp => List.mem_append_left _ hp⟩
  | t :: ts, vs, fp, k + 1, t', h, e => by
    unfold TrsFp at h
    obtain ⟨v, ws, f, g, rfl, rfl, h1, h2⟩ := h
    obtain ⟨w, f', e1, h3, h4⟩ := TrsFp.get h2 (show ts[k]? = some t' by simpa using e)
    exact ⟨w, f', by simpa using e1, h3, fun p hp => List.mem_append_right _ (h4 p hp)⟩
theorem AddrAt.keep : ∀ {path : List Nat} {t : Tr} {v : V} {q : Addr} {fp : List Addr}, TrFp H t v fp → (∀ p ∈ fp, H' p = H p) → AddrAt H' path t v q → AddrAt H path t v q
  | path, .fr d, v, q, fp, h, k, a => by
    unfold AddrAt at a
    exact a.elim
  | [], .nd sh ts, v, q, fp, h, k, a => by
    unfold AddrAt at a ⊢
    exact a
  | i :: path, .nd sh ts, v, q, fp, h, k, a => by
    unfold AddrAt at a ⊢
    obtain ⟨p, vs, t, w, rfl, h1, h2, h3, h4, h5⟩ := a
    unfold TrFp at h
    obtain ⟨p', vs', fq, e, rfl, h1', h2', h3'⟩ := h
    cases e
    rw [k p (List.mem_cons_self ..), h1'] at h1
    have e := Sh.inj h2' h2 (Option.some.inj h1)
    subst e
    obtain ⟨w', f, e1, h6, h7⟩ := TrsFp.get h3' h3
    rw [h4] at e1
    cases e1
    exact ⟨p, vs', t, w, rfl, h1', h2', h3, h4, AddrAt.keep h6 (fun q hq => k q (List.mem_cons_of_mem _ (h7 q hq))) h5⟩
theorem TrsOk.len : ∀ {ts : List Tr} {vs : List V} {fp : List Addr}, TrsOk K F H H0 T ts vs fp → vs.length = ts.length
  | [], vs, fp, h => by
    unfold TrsOk at h
    rw [h.1]
    rfl
  | t :: ts, vs, fp, h => by
    unfold TrsOk at h
    obtain ⟨v, ws, f, g, rfl, rfl, h1, h2⟩ := h
    simp [TrsOk.len h2]
theorem TrsOk.get : ∀ {ts : List Tr} {vs : List V} {fp : List Addr} {k : Nat} {t : Tr}, TrsOk K F H H0 T ts vs fp → ts[k]? = some t → ∃ w pre f post, vs[k]? = some w ∧ fp = pre ++ f ++ post ∧ TrOk K F H H0 T t w f ∧
    ∀ (F' H' : Hp) t' w' f', Same F F' → (∀ p ∈ pre ++ post, H' p = H p ∧ F' p = none) → TrOk K F' H' H0 T t' w' f' → TrsOk K F' H' H0 T (ts.set k t') (vs.set k w') (pre ++ f' ++ post)
  | [], vs, fp, k, t, h, e => by simp at e
  | t :: ts, vs, fp, 0, t', h, e => by
    unfold TrsOk at h
    obtain ⟨v, ws, f, g, rfl, rfl, h1, h2⟩ := h
    simp at e
    subst e
    refine ⟨v, [], f, g, rfl, rfl, h1, fun F' H' t' w' f' s k h' => ?_⟩
    simp only [List.nil_append] at k ⊢
    unfold TrsOk
    exact ⟨w', ws, f', g, rfl, rfl, h', h2.keep s k⟩
  | t :: ts, vs, fp, k + 1, t', h, e => by
    unfold TrsOk at h
    obtain ⟨v, ws, f, g, rfl, rfl, h1, h2⟩ := h
    obtain ⟨w, pre, f1, post, e1, rfl, h3, up⟩ := TrsOk.get h2 (show ts[k]? = some t' by simpa using e)
    refine ⟨w, f ++ pre, f1, post, by simpa using e1, by simp, h3, fun F' H' t' w' f' s k h' => ?_⟩
    have u := up F' H' t' w' f' s (fun p hp => k p (by rw [List.append_assoc]; exact List.mem_append_right _ hp)) h'
    have k1 := h1.keep s (H' := H') fun p hp => k p (by rw [List.append_assoc]; exact List.mem_append_left _ hp)
    show TrsOk K F' H' H0 T (t :: ts.set _ t') (v :: ws.set _ w') _
    unfold TrsOk
    exact ⟨v, _, f, pre ++ f' ++ post, rfl, by simp, k1, u⟩
theorem Tr.set_nil (t s : Tr) : t.set [] s = s := by cases t <;> rfl
/-- the part at path, and what may be put there -/
theorem TrOk.at : ∀ {path : List Nat} {t s : Tr} {v : V} {fp : List Addr}, TrOk K F H H0 T t v fp → t.get path = some s → ∃ w pre f post, fp = pre ++ f ++ post ∧ TrOk K F H H0 T s w f ∧ (∀ q, (∃ sh ts, s = .nd sh ts) → w = .ref q → AddrAt H path t v q) ∧ (path = [] → w = v ∧ pre = [] ∧ post = []) ∧
    ∀ (F' H' : Hp) s' f', Same F F' → (∀ p ∈ pre ++ post, H' p = H p ∧ F' p = none) → TrOk K F' H' H0 T s' w f' → TrOk K F' H' H0 T (t.set path s') v (pre ++ f' ++ post)
  | [], t, s, v, fp, h, e => by
    have e : t = s := by
      cases t <;> (unfold Tr.get at e; exact Option.some.inj e)
    subst e
    refine ⟨v, [], fp, [], by simp, h, fun q ⟨sh, ts, e⟩ ev => ?_, fun _ => ⟨rfl, rfl, rfl⟩, fun F' H' s' f' _ _ h' => by rw [Tr.set_nil]; simpa using h'⟩
    rw [e, ev]
    unfold AddrAt
    rfl
  | i :: path, .fr d, s, v, fp, h, e => by
    unfold Tr.get at e
    cases e
  | i :: path, .nd sh ts, s, v, fp, h, e => by
    unfold Tr.get at e
    obtain ⟨t1, e1, e2⟩ := Option.bind_eq_some_iff.mp e
    unfold TrOk at h
    obtain ⟨p, vs, fq, rfl, rfl, h1, h2, h3, h4, h5⟩ := h
    obtain ⟨w1, pre, f, post, e3, rfl, h6, up⟩ := TrsOk.get h5 e1
    obtain ⟨w, pre1, f1, post1, rfl, h7, ad, _, up1⟩ := TrOk.at h6 e2
    refine ⟨w, p :: (pre ++ pre1), f1, post1 ++ post, by simp, h7, fun q hs ew => ?_, (fun z => by cases z), fun F' H' s' f' s k h' => ?_⟩
    · unfold AddrAt
      exact ⟨p, vs, t1, w1, rfl, h1, h4, e1, e3, ad q hs ew⟩
    · have u1 := up1 F' H' s' f' s (fun q hq => k q (by
        rcases List.mem_append.mp hq with z | z
        · simp [z]
        · simp [z])) h'
      have u := up F' H' _ w1 _ s (fun q hq => k q (by
        rcases List.mem_append.mp hq with z | z
        · simp [z]
        · simp [z])) u1
      have kp := k p (by simp)
      have ev : vs.set i w1 = vs := by
        apply List.ext_getElem?
        intro j
        by_cases hj : j = i
        · subst hj
          rw [List.getElem?_set_self (ltOf e3), e3]
        · rw [List.getElem?_set_ne (Ne.symm hj)]
      show TrOk K F' H' H0 T (match ts[i]? with | some t => _ | none => _) _ _
      rw [e1]
      unfold TrOk
      rw [ev] at u
      exact ⟨p, vs, pre ++ (pre1 ++ f' ++ post1) ++ post, rfl, by simp, by rw [kp.1]; exact h1, kp.2, h3, h4, u⟩
/-- a part made data: what is own now was so before -/
theorem AddrAt.set_fr : ∀ {path path' : List Nat} {t : Tr} {d : Dat} {v : V} {q : Addr}, AddrAt H path' (t.set path (.fr d)) v q → AddrAt H path' t v q
  | [], path', t, d, v, q, h => by
    rw [Tr.set_nil] at h
    cases path' <;> (unfold AddrAt at h; exact h.elim)
  | k :: path, path', .fr d', d, v, q, h => h
  | k :: path, [], .nd sh ts, d, v, q, h => by
    unfold Tr.set at h
    split at h
    · unfold AddrAt at h ⊢
      exact h
    · exact h
  | k :: path, i :: path', .nd sh ts, d, v, q, h => by
    unfold Tr.set at h
    split at h
    · rename_i t1 e1
      unfold AddrAt at h ⊢
      obtain ⟨p, vs, t, w, e, h1, h2, h3, h4, h5⟩ := h
      rcases getSet h3 with ⟨rfl, rfl, _⟩ | ⟨_, h3⟩
      · exact ⟨p, vs, t1, w, e, h1, h2, e1, h4, AddrAt.set_fr h5⟩
      · exact ⟨p, vs, t, w, e, h1, h2, h3, h4, h5⟩
    · exact h
mutual
/-- own lists made data -/
def Tr.frz : Tr → Option Dat
  | .fr d => some d
  | .nd .li ts => (Tr.frzs ts).map PyData.list
  | .nd (.dk _) _ => none
  | .nd (.dt _) _ => none
def Tr.frzs : List Tr → Option (List Dat)
  | [] => some []
  | t :: ts => (Tr.frz t).bind fun d => (Tr.frzs ts).map (d :: ·)
end
mutual
theorem TrOk.frz : ∀ {t : Tr} {v : V} {fp : List Addr} {d : Dat}, TrOk K F H H0 T t v fp → t.frz = some d → Same F F' → (∀ p ∈ fp, F' p = H p) → Rel K F' T d v
  | .fr d', v, fp, d, h, e, s, k => by
    unfold Tr.frz at e
    cases e
    unfold TrOk at h
    exact Rel.mono s _ _ h.2
  | .nd .li ts, v, fp, d, h, e, s, k => by
    unfold Tr.frz at e
    cases e2 : Tr.frzs ts with
    | none => rw [e2] at e; cases e
    | some ds =>
      rw [e2] at e
      cases e
      unfold TrOk at h
      obtain ⟨p, vs, fq, rfl, rfl, h1, h2, h3, h4, h5⟩ := h
      unfold Rel
      exact ⟨p, vs, rfl, by rw [k p (List.mem_cons_self ..)]; exact h1, TrsOk.frzs h5 e2 s fun q hq => k q (List.mem_cons_of_mem _ hq)⟩
  | .nd (.dk _) ts, v, fp, d, h, e, s, k => by
    unfold Tr.frz at e
    cases e
  | .nd (.dt _) ts, v, fp, d, h, e, s, k => by
    unfold Tr.frz at e
    cases e
theorem TrsOk.frzs : ∀ {ts : List Tr} {vs : List V} {fp : List Addr} {ds : List Dat}, TrsOk K F H H0 T ts vs fp → Tr.frzs ts = some ds → Same F F' → (∀ p ∈ fp, F' p = H p) → RelL K F' T ds vs
  | [], vs, fp, d, h, e, s, k => by
    unfold Tr.frzs at e
    cases e
    unfold TrsOk at h
    rw [h.1]
    exact .nil
  | t :: ts, vs, fp, ds, h, e, s, k => by
    unfold Tr.frzs at e
    obtain ⟨d, e1, e⟩ := Option.bind_eq_some_iff.mp e
    cases e2 : Tr.frzs ts with
    | none => rw [e2] at e; cases e
    | some ds' =>
      rw [e2] at e
      cases e
      unfold TrsOk at h
      obtain ⟨v, ws, f, g, rfl, rfl, h1, h2⟩ := h
      exact .cons (TrOk.frz h1 e1 s fun q hq => k q (List.mem_append_left _ hq)) (TrsOk.frzs h2 e2 s fun q hq => k q (List.mem_append_right _ hq))
end
/-- items that are data -/
def Tr.flat : List Tr → Option (List Dat)
  | [] => some []
  | .fr d :: ts => (Tr.flat ts).map (d :: ·)
  | .nd _ _ :: _ => none
theorem TrsOk.flat : ∀ {ts : List Tr} {vs : List V} {fp : List Addr} {ds : List Dat}, TrsOk K F H H0 T ts vs fp → Tr.flat ts = some ds → RelL K F T ds vs ∧ fp = []
  | [], vs, fp, d, h, e => by
    unfold Tr.flat at e
    cases e
    unfold TrsOk at h
    rw [h.1, h.2]
    exact ⟨.nil, rfl⟩
  | .nd _ _ :: ts, vs, fp, ds, h, e => by
    unfold Tr.flat at e
    cases e
  | .fr d :: ts, vs, fp, ds, h, e => by
    unfold Tr.flat at e
    cases e2 : Tr.flat ts with
    | none => rw [e2] at e; cases e
    | some ds' =>
      rw [e2] at e
      cases e
      unfold TrsOk at h
      obtain ⟨v, ws, f, g, rfl, rfl, h1, h2⟩ := h
      obtain ⟨h3, rfl⟩ := TrsOk.flat h2 e2
      unfold TrOk at h1
      rw [h1.1]
      exact ⟨.cons h1.2 h3, rfl⟩
theorem TrsOk.ofL : ∀ {ds : List Dat} {vs : List V}, RelL K F T ds vs → TrsOk K F H H0 T (ds.map .fr) vs []
  | [], vs, h => by
    unfold RelL at h
    unfold TrsOk
    exact ⟨h, rfl⟩
  | d :: ds, vs, h => by
    unfold RelL at h
    obtain ⟨y, ys, rfl, h1, h2⟩ := h
    show TrsOk K F H H0 T (.fr d :: ds.map .fr) _ _
    unfold TrsOk
    exact ⟨y, ys, [], [], rfl, rfl, by unfold TrOk; exact ⟨rfl, h1⟩, TrsOk.ofL h2⟩
end
structure Post (G : Ctl) (K : Fg) (F : Hp) (ps : PS) (σ : L2.St) (H : Hp) (F' : Hp) (ps' : PS) (H' : Hp) : Prop where
  rep : Rep G K F' ps' σ H'
  same : Same F F'
  fresh : ∀ p o, MutO o → H p = some o → F p = none → G.H0 p = none → ¬ Own ps σ H p → H' p = some o ∧ F' p = none ∧ ¬ Own ps' σ H' p
  dom : ∀ a, H' a = none → H a = none
  al : ∀ i path q, TAt ps' σ H' i path q → TAt ps σ H i path q

section
variable {G : Ctl} {K : Fg} {F F1 F2 : Hp} {ps ps1 ps2 : PS} {σ : L2.St} {H H1 H2 : Hp}
theorem Post.refl (r : Rep G K F ps σ H) : Post G K F ps σ H F ps H := ⟨r, Same.refl F, fun p o hm h1 h2 h3 h4 => ⟨h1, h2, h4⟩, fun _ h => h, fun _ _ _ h => h⟩
theorem Post.trans (a : Post G K F ps σ H F1 ps1 H1) (b : Post G K F1 ps1 σ H1 F2 ps2 H2) : Post G K F ps σ H F2 ps2 H2 :=
  ⟨b.rep, a.same.trans b.same, fun p o hm h1 h2 h3 h4 =>
    let ⟨q1, q2, q3⟩ := a.fresh p o hm h1 h2 h3 h4
    b.fresh p o hm q1 q2 h3 q3, fun p h => a.dom p (b.dom p h), fun i path q h => a.al i path q (b.al i path q h)⟩

theorem Rep.h0 (r : Rep G K F ps σ H) {p : Addr} (h : H p = none) : G.H0 p = none := by
  cases q : G.H0 p with
  | none => rfl
  | some o =>
    by_cases e : G.ex p
    · obtain ⟨e1, e2⟩ := e
      have d := r.dr e1
      rcases e2 with rfl | rfl
      · exact absurd h d.T
      · exact absurd h d.C
    · have z := r.kp p o q e
      rw [h] at z
      exact (Kp.some z).elim
theorem Rep.fn (r : Rep G K F ps σ H) {p : Addr} (h : H p = none) : F p = none := r.fh.free h

theorem SlOk.mono {s : Sl} {o : Option V} (h : SlOk G K F H s o) (fs : Same F F1) (k : ∀ p, FpS H s o p → H1 p = H p ∧ F1 p = none) : SlOk G K F1 H1 s o := by
  cases s with
  | un => trivial
  | al j path => exact h
  | fr d =>
    obtain ⟨v, e, q⟩ := h
    exact ⟨v, e, Rel.mono fs _ _ q⟩
  | ow ds =>
    obtain ⟨p, vs, e, h1, h2, h3, q⟩ := h
    obtain ⟨a, b⟩ := k p e
    exact ⟨p, vs, e, by rw [a]; exact h1, b, h3, RelL.mono fs _ _ q⟩
  | tr t =>
    obtain ⟨v, fp, e, h1, h2⟩ := h
    exact ⟨v, fp, e, h1.keep fs fun p hp => k p ⟨v, fp, e, h1.fp, hp⟩, h2⟩
theorem Rep.ownH (r : Rep G K F ps σ H) {p : Addr} (o : Own ps σ H p) : ∃ u, H p = some u ∧ MutO u ∧ F p = none ∧ G.H0 p = none := by
  obtain ⟨i, s, o, e1, e2, f⟩ := o
  obtain ⟨o', e3, q⟩ := r.slots i s e1
  rw [e2] at e3
  cases e3
  exact q.own f
theorem Rep.ownN (r : Rep G K F ps σ H) {p : Addr} (h : H p = none) : ¬ Own ps σ H p := fun o => by
  obtain ⟨u, e, _⟩ := r.ownH o
  rw [h] at e
  cases e
/-- own places stay the same where own objects do -/
theorem Rep.ownAt (r : Rep G K F ps σ H) (k : ∀ p, Own ps σ H p → H1 p = H p) {i : Nat} {p : Addr} : OwnAt ps σ H1 i p ↔ OwnAt ps σ H i p := by
  constructor
  · rintro ⟨s, o, e1, e2, f⟩
    obtain ⟨o', e3, q⟩ := r.slots i s e1
    rw [e2] at e3
    cases e3
    exact ⟨s, o, e1, e2, (FpS.iff q (fun p hp => k p ⟨i, s, o, e1, e2, hp⟩) p).mp f⟩
  · rintro ⟨s, o, e1, e2, f⟩
    obtain ⟨o', e3, q⟩ := r.slots i s e1
    rw [e2] at e3
    cases e3
    exact ⟨s, o, e1, e2, (FpS.iff q (fun p hp => k p ⟨i, s, o, e1, e2, hp⟩) p).mpr f⟩
theorem Rep.ownI (r : Rep G K F ps σ H) (k : ∀ p, Own ps σ H p → H1 p = H p) {p : Addr} : Own ps σ H1 p ↔ Own ps σ H p := by
  constructor
  · rintro ⟨i, h⟩
    exact ⟨i, (r.ownAt k).mp h⟩
  · rintro ⟨i, h⟩
    exact ⟨i, (r.ownAt k).mpr h⟩
theorem Rep.keepO (r : Rep G K F ps σ H) (k : ∀ a o, H a = some o → H1 a = some o) : ∀ p, Own ps σ H p → H1 p = H p := fun p o => by
  obtain ⟨u, e, _⟩ := r.ownH o
  rw [e, k p u e]

theorem Rep.tabs (r : Rep G K F ps σ H) : ∀ P ∈ Tbs.tb K, GxR.TabG H P := fun P hP => by
  obtain ⟨⟨qs, h1, h2⟩, nx, _⟩ := r.tab P hP
  rcases r.kp P _ h1 nx with z | ⟨a, b, e1, e2, e3, e4⟩
  · exact ⟨qs, z, h2⟩
  · exact ⟨b, e3, e4⟩
/-- no table is among the frozen data -/
theorem Rep.tabF (r : Rep G K F ps σ H) : ∀ P ∈ Tbs.tb K, F P = none := fun P hP => by
  obtain ⟨⟨qs, h1, _⟩, _, h3⟩ := r.tab P hP
  rw [r.f0 P (by rw [h1]; simp)]
  exact h3
theorem Rep.tAt (r : Rep G K F ps σ H) (k : ∀ p, Own ps σ H p → H1 p = H p) {i : Nat} {path : List Nat} {q : Addr} (h : TAt ps σ H1 i path q) : TAt ps σ H i path q := by
  obtain ⟨t, v, e1, e2, a⟩ := h
  obtain ⟨o, e3, v', fp, e4, h1, _⟩ := r.slots i _ e1
  rw [e2] at e3
  cases e3
  cases e4
  exact ⟨t, v, e1, e2, a.keep h1.fp fun p hp => k p ⟨i, _, _, e1, e2, v, fp, rfl, h1.fp, hp⟩⟩
/-- objects are added and frozen; nothing else changes -/
theorem Rep.grow (r : Rep G K F ps σ H) (fs : Same F F1) (fh : Same F1 H1) (k : ∀ a o, H a = some o → H1 a = some o) (nf : ∀ a, F1 a ≠ none → F a = none → G.H0 a = none ∧ ¬ Own ps σ H a) : Rep G K F1 ps σ H1 where
  len := r.len
  slots := fun i s e => by
    obtain ⟨o, e1, q⟩ := r.slots i s e
    refine ⟨o, e1, q.mono fs fun p hp => ?_⟩
    have ow : Own ps σ H p := ⟨i, s, o, e, e1, hp⟩
    obtain ⟨u, h1, _, h2, h3⟩ := r.ownH ow
    refine ⟨by rw [k _ _ h1, h1], ?_⟩
    cases z : F1 p with
    | none => rfl
    | some u =>
      exact absurd ow (nf p (by rw [z]; simp) h2).2
  sep := fun i j p h h' => r.sep i j p ((r.ownAt (r.keepO k)).mp h) ((r.ownAt (r.keepO k)).mp h')
  dr := fun h => (r.dr h).keep fun a o e _ => k a o e
  ft := fun h => by
    obtain ⟨a, b, c, d⟩ := r.ft h
    refine ⟨?_, ?_, c, d⟩
    · cases z : F1 G.T with
      | none => rfl
      | some u => exact absurd (nf _ (by rw [z]; simp) a).1 c
    · cases z : F1 G.C with
      | none => rfl
      | some u => exact absurd (nf _ (by rw [z]; simp) b).1 d
  fh := fh
  kp := fun a o e x => (r.kp a o e x).keep fun u h => k _ _ h
  f0 := fun a e => by
    have e1 := r.f0 a e
    cases z : F1 a with
    | none =>
      cases y : F a with
      | none => rw [← e1, y]
      | some u =>
        rw [fs _ _ y] at z
        cases z
    | some u =>
      cases y : F a with
      | none => exact absurd (nf a (by rw [z]; simp) y).1 e
      | some w =>
        rw [fs _ _ y] at z
        rw [← e1, y, ← z]
  ff := r.ff.trans fs
  nd := r.nd
  tab := r.tab
  ali := fun i j path q e h => r.ali i j path q e (r.tAt (r.keepO k) h)

theorem same_upd {H : Hp} {p : Addr} {o : HO} (h : H p = none) : Same H (upd H p o) := fun b x e => by
  rw [upd_ne (ne_of_none e h)]
  exact e

/-- a new list, not yet anyone's -/
theorem Rep.newO (r : Rep G K F ps σ H) {p : Addr} {o : HO} (hp : H p = none) : Post G K F ps σ H F ps (upd H p o) := by
  have hs := same_upd (o := o) hp
  refine ⟨r.grow (Same.refl F) (r.fh.trans hs) hs (fun a h1 h2 => absurd h2 h1), Same.refl F, fun q ws _ h1 h2 h3 h4 => ⟨hs _ _ h1, h2, fun o => h4 ((r.ownI (r.keepO hs)).mp o)⟩, fun _ => hs.free, fun _ _ _ => r.tAt (r.keepO hs)⟩
theorem Rep.newL (r : Rep G K F ps σ H) {p : Addr} {vs : List V} (hp : H p = none) : Post G K F ps σ H F ps (upd H p (.lst vs)) := r.newO hp
/-- a new object, frozen at once -/
theorem Rep.newF (r : Rep G K F ps σ H) {p : Addr} {o : HO} (hp : H p = none) : Post G K F ps σ H (upd F p o) ps (upd H p o) := by
  have hs := same_upd (o := o) hp
  have fs := same_upd (o := o) (r.fn hp)
  refine ⟨r.grow fs (fun b x e => ?_) hs (fun a h1 h2 => ?_), fs, fun q ws _ h1 h2 h3 h4 => ⟨hs _ _ h1, ?_, fun o => h4 ((r.ownI (r.keepO hs)).mp o)⟩, fun _ => hs.free, fun _ _ _ => r.tAt (r.keepO hs)⟩
  · by_cases hb : b = p
    · subst hb
      rw [upd_same] at e ⊢
      exact e
    · rw [upd_ne hb] at e ⊢
      exact r.fh _ _ e
  · have e : a = p := by
      by_cases hb : a = p
      · exact hb
      · rw [upd_ne hb] at h1
        exact absurd h2 h1
    subst e
    exact ⟨r.h0 hp, r.ownN hp⟩
  · rw [upd_ne (ne_of_none h1 hp)]
    exact h2
/-- a list that is nobody's is frozen -/
theorem Rep.frz (r : Rep G K F ps σ H) {p : Addr} {u : HO} (hp : H p = some u) (f : F p = none) (h0 : G.H0 p = none) (no : ¬ Own ps σ H p) : Rep G K (upd F p u) ps σ H := by
  have fs := same_upd (o := u) f
  refine r.grow fs (fun b x e => ?_) (fun _ _ e => e) (fun a h1 h2 => ?_)
  · by_cases hb : b = p
    · subst hb
      rw [upd_same] at e
      cases e
      exact hp
    · rw [upd_ne hb] at e
      exact r.fh _ _ e
  · have e : a = p := by
      by_cases hb : a = p
      · exact hb
      · rw [upd_ne hb] at h1
        exact absurd h2 h1
    subst e
    exact ⟨h0, no⟩
def PS.put (ps : PS) (i : Nat) (s : Sl) : PS := { ps with sl := ps.sl.set i s }
theorem putSet {ps : PS} {i j : Nat} {x y : Sl} (h : (ps.put i x).sl[j]? = some y) : (j = i ∧ x = y ∧ i < ps.sl.length) ∨ (j ≠ i ∧ ps.sl[j]? = some y) := getSet h
/-- the other slots' own places -/
theorem ownAt_put {ps : PS} {σ σ' : L2.St} {H : Hp} {i j : Nat} {s' : Sl} {p : Addr} (ho : ∀ j, j ≠ i → σ'[j]? = σ[j]?) (hj : j ≠ i) (h : OwnAt (ps.put i s') σ' H j p) : OwnAt ps σ H j p := by
  obtain ⟨s, o, e1, e2, f⟩ := h
  rcases putSet e1 with ⟨z, _⟩ | ⟨_, e1⟩
  · exact absurd z hj
  · exact ⟨s, o, e1, by rw [← ho j hj]; exact e2, f⟩
/-- slot i is changed, and with it what is its own or nobody's -/
theorem Rep.slot {F' H' : Hp} {σ' : L2.St} {i : Nat} {s' : Sl} {o' : Option V} (r : Rep G K F ps σ H) (hi : i < ps.sl.length) (hl : σ'.length = σ.length) (ho : ∀ j, j ≠ i → σ'[j]? = σ[j]?) (hoi : σ'[i]? = some o')
    (sk : SlOk G K F' H' s' o') (fs : Same F F') (fh : Same F' H') (ch : ∀ p, (H' p ≠ H p ∨ F' p ≠ F p) → F p = none ∧ G.H0 p = none ∧ ∀ j, j ≠ i → ¬ OwnAt ps σ H j p)
    (fp : ∀ p, FpS H' s' o' p → ∀ j, j ≠ i → ¬ OwnAt ps σ H j p) (hal : ∀ (a j : Nat) (path : List Nat) (q : Addr), (ps.put i s').sl[a]? = some (Sl.al j path) → TAt (ps.put i s') σ' H' j path q → σ'[a]? = some (some (V.ref q))) : Rep G K F' (ps.put i s') σ' H' := by
  have kH : ∀ p, (F p ≠ none ∨ G.H0 p ≠ none ∨ ∃ j, j ≠ i ∧ OwnAt ps σ H j p) → H' p = H p ∧ F' p = F p := fun p hp => by
    refine Classical.byContradiction fun n => ?_
    have hc : H' p ≠ H p ∨ F' p ≠ F p := by
      by_cases e : H' p = H p
      · exact .inr fun e2 => n ⟨e, e2⟩
      · exact .inl e
    obtain ⟨a, b, c⟩ := ch p hc
    rcases hp with hp | hp | ⟨j, hj, hp⟩
    · exact hp a
    · exact hp b
    · exact c j hj hp
  have ownJ : ∀ j p, j ≠ i → OwnAt (ps.put i s') σ' H' j p → OwnAt ps σ H j p := fun j p hj h => by
    obtain ⟨s, o, e1, e2, f⟩ := ownAt_put ho hj h
    obtain ⟨o2, e3, q⟩ := r.slots j s e1
    rw [e2] at e3
    cases e3
    exact ⟨s, o, e1, e2, (FpS.iff q (fun p hp => (kH p (.inr (.inr ⟨j, hj, s, o, e1, e2, hp⟩))).1) p).mp f⟩
  have ownI : ∀ p, OwnAt (ps.put i s') σ' H' i p → FpS H' s' o' p := fun p ⟨s, o, e1, e2, f⟩ => by
    rw [hoi] at e2
    cases e2
    rcases putSet e1 with ⟨_, rfl, _⟩ | ⟨z, _⟩
    · exact f
    · exact absurd rfl z
  refine ⟨?_, fun j s e => ?_, fun a b p ha hb => ?_, fun h => ?_, fun h => ?_, fh, fun a o e x => ?_, fun a e => ?_, r.ff.trans fs, r.nd, r.tab, hal⟩
  · show σ'.length = (ps.sl.set i s').length
    rw [List.length_set, hl]
    exact r.len
  · rcases putSet e with ⟨rfl, rfl, _⟩ | ⟨hj, e⟩
    · exact ⟨o', hoi, sk⟩
    · obtain ⟨o, e1, q⟩ := r.slots j s e
      refine ⟨o, by rw [ho j hj]; exact e1, q.mono fs fun p hp => ?_⟩
      have k := kH p (.inr (.inr ⟨j, hj, s, o, e, e1, hp⟩))
      exact ⟨k.1, by rw [k.2]; obtain ⟨_, _, _, z, _⟩ := q.own hp; exact z⟩
  · by_cases h1 : a = i
    · by_cases h2 : b = i
      · rw [h1, h2]
      · subst h1
        exact absurd (ownJ b p h2 hb) (fp p (ownI p ha) b h2)
    · by_cases h2 : b = i
      · subst h2
        exact absurd (ownJ a p h1 ha) (fp p (ownI p hb) a h1)
      · exact r.sep a b p (ownJ a p h1 ha) (ownJ b p h2 hb)
  · obtain ⟨_, _, c, d⟩ := r.ft h
    refine (r.dr h).keep fun a o e hx => ?_
    rcases hx with rfl | rfl
    · rw [(kH _ (.inr (.inl c))).1]; exact e
    · rw [(kH _ (.inr (.inl d))).1]; exact e
  · obtain ⟨a, b, c, d⟩ := r.ft h
    exact ⟨by rw [(kH _ (.inr (.inl c))).2]; exact a, by rw [(kH _ (.inr (.inl d))).2]; exact b, c, d⟩
  · rw [(kH a (.inr (.inl (by rw [e]; simp)))).1]
    exact r.kp a o e x
  · rw [(kH a (.inr (.inl e))).2]
    exact r.f0 a e
/-- a slot changed, as an expression may -/
theorem Post.slot {F' H' : Hp} {i : Nat} {s s' : Sl} {o : Option V} (r : Rep G K F ps σ H) (e : ps.sl[i]? = some s) (eo : σ[i]? = some o) (sk : SlOk G K F' H' s' o) (fs : Same F F') (fh : Same F' H') (dm : ∀ a, H' a = none → H a = none)
    (ch : ∀ p, (H' p ≠ H p ∨ F' p ≠ F p) → FpS H s o p ∨ H p = none) (sub : ∀ p, FpS H' s' o p → FpS H s o p ∨ H p = none)
    (al : ∀ t' v path q, s' = .tr t' → o = some v → AddrAt H' path t' v q → ∃ t, s = .tr t ∧ AddrAt H path t v q) (na : ∀ j path, s' ≠ .al j path := by intro _ _ z; cases z) : Post G K F ps σ H F' (ps.put i s') H' := by
  have own : ∀ p, FpS H s o p → OwnAt ps σ H i p := fun p f => ⟨s, o, e, eo, f⟩
  have sk0 : SlOk G K F H s o := by
    obtain ⟨o2, e3, q⟩ := r.slots i s e
    rw [eo] at e3
    cases e3
    exact q
  have oth : ∀ p j, j ≠ i → OwnAt ps σ H j p → ¬ FpS H s o p ∧ H p ≠ none := fun p j hj h => ⟨fun f => hj (r.sep j i p h (own p f)), fun z => r.ownN z ⟨j, h⟩⟩
  have same : ∀ p, H p ≠ none → ¬ FpS H s o p → H' p = H p ∧ F' p = F p := fun p h1 h2 => by
    refine Classical.byContradiction fun n => ?_
    have hc : H' p ≠ H p ∨ F' p ≠ F p := by
      by_cases e : H' p = H p
      · exact .inr fun e2 => n ⟨e, e2⟩
      · exact .inl e
    rcases ch p hc with f | z
    · exact h2 f
    · exact h1 z
  have tal : ∀ j path q, TAt (ps.put i s') σ H' j path q → TAt ps σ H j path q := fun j path q h => by
    obtain ⟨t', v, e1, e2, a⟩ := h
    by_cases hj : j = i
    · subst hj
      rw [eo] at e2
      cases e2
      rcases putSet e1 with ⟨_, rfl, _⟩ | ⟨z, _⟩
      · obtain ⟨t, rfl, a⟩ := al t' v path q rfl rfl a
        exact ⟨t, v, e, eo, a⟩
      · exact absurd rfl z
    · rcases putSet e1 with ⟨z, _⟩ | ⟨_, e1⟩
      · exact absurd z hj
      · obtain ⟨o3, e3, v', fp, e4, h1, _⟩ := r.slots j _ e1
        rw [e2] at e3
        cases e3
        cases e4
        refine ⟨t', v, e1, e2, a.keep h1.fp fun p hp => ?_⟩
        have z := oth p j hj ⟨_, _, e1, e2, v, fp, rfl, h1.fp, hp⟩
        exact (same p z.2 z.1).1
  have R : Rep G K F' (ps.put i s') σ H' := by
    refine r.slot (ltOf e) rfl (fun _ _ => rfl) eo sk fs fh (fun p hp => ?_) (fun p f j hj h => ?_) fun a j path q ea h => by
      rcases putSet ea with ⟨_, z, _⟩ | ⟨_, ea⟩
      · exact absurd z (na j path)
      · exact r.ali a j path q ea (tal j path q h)
    · rcases ch p hp with f | z
      · obtain ⟨_, _, _, a, b⟩ := sk0.own f
        exact ⟨a, b, fun j hj h => (oth p j hj h).1 f⟩
      · exact ⟨r.fn z, r.h0 z, fun j hj h => (oth p j hj h).2 z⟩
    · rcases sub p f with f | z
      · exact (oth p j hj h).1 f
      · exact (oth p j hj h).2 z
  refine ⟨R, fs, fun p u hm h1 h2 h3 h4 => ?_, dm, tal⟩
  · have k := same p (by rw [h1]; simp) fun f => h4 ⟨i, own p f⟩
    refine ⟨by rw [k.1]; exact h1, by rw [k.2]; exact h2, fun ⟨j, h⟩ => ?_⟩
    by_cases hj : j = i
    · subst hj
      obtain ⟨s2, o2, e1, e2, f⟩ := h
      rw [eo] at e2
      cases e2
      rcases putSet e1 with ⟨_, rfl, _⟩ | ⟨z, _⟩
      · rcases sub p f with f | z
        · exact h4 ⟨j, own p f⟩
        · rw [h1] at z
          cases z
      · exact absurd rfl z
    · have h := ownAt_put (fun _ _ => rfl) hj h
      refine h4 ⟨j, ?_⟩
      obtain ⟨s2, o2, e1, e2, f⟩ := h
      obtain ⟨o3, e3, q⟩ := r.slots j s2 e1
      rw [e2] at e3
      cases e3
      exact ⟨s2, o2, e1, e2, (FpS.iff q (fun p' hp => by
        have z := oth p' j hj ⟨s2, o2, e1, e2, hp⟩
        exact (same p' z.2 z.1).1) p).mp f⟩
theorem Rep.frzSl (r : Rep G K F ps σ H) {i : Nat} {ds : List Dat} (e : ps.sl[i]? = some (.ow ds)) :
    ∃ p vs, σ[i]? = some (some (.ref p)) ∧ H p = some (.lst vs) ∧ Post G K F ps σ H (upd F p (.lst vs)) (ps.put i (.fr (.list ds))) H ∧ Rel K (upd F p (.lst vs)) G.T (.list ds) (.ref p) := by
  obtain ⟨o, e1, p, vs, rfl, hp, hf, h0, rl⟩ := r.slots i _ e
  have fs := same_upd (o := .lst vs) hf
  have fh : Same (upd F p (.lst vs)) H := fun b x e => by
    by_cases hb : b = p
    · subst hb
      rw [upd_same] at e
      cases e
      exact hp
    · rw [upd_ne hb] at e
      exact r.fh _ _ e
  have rl' : Rel K (upd F p (.lst vs)) G.T (.list ds) (.ref p) := by
    unfold Rel
    exact ⟨p, vs, rfl, upd_same, RelL.mono fs _ _ rl⟩
  refine ⟨p, vs, e1, hp, Post.slot r e e1 ⟨_, rfl, rl'⟩ fs fh (fun _ h => h) (fun q hq => ?_) (fun q f => f.elim) (fun t' v path q z => by cases z), rl'⟩
  rcases hq with hq | hq
  · exact absurd rfl hq
  · by_cases hb : q = p
    · subst hb
      exact .inl rfl
    · rw [upd_ne hb] at hq
      exact absurd rfl hq
/-- an own list is written -/
theorem Rep.wr (r : Rep G K F ps σ H) {i : Nat} {ds ds' : List Dat} {p : Addr} {vs' : List V} (e : ps.sl[i]? = some (.ow ds)) (ep : σ[i]? = some (some (.ref p))) (rl : RelL K F G.T ds' vs') :
    Post G K F ps σ H F (ps.put i (.ow ds')) (upd H p (.lst vs')) := by
  obtain ⟨o, e1, p', vs, rfl, hp, hf, h0, _⟩ := r.slots i _ e
  rw [e1] at ep
  cases ep
  refine Post.slot r e e1 ⟨p, vs', rfl, upd_same, hf, h0, rl⟩ (Same.refl F) (fun b x e2 => ?_) (fun a h => ?_) (fun q hq => ?_) (fun q f => .inl f) (fun t' v path q z => by cases z)
  · have hb : b ≠ p := by
      rintro rfl
      rw [hf] at e2
      cases e2
    rw [upd_ne hb]
    exact r.fh _ _ e2
  · by_cases ha : a = p
    · subst ha
      rw [upd_same] at h
      cases h
    · rwa [upd_ne ha] at h
  · rcases hq with hq | hq
    · by_cases hb : q = p
      · subst hb
        exact .inl rfl
      · rw [upd_ne hb] at hq
        exact absurd rfl hq
    · exact absurd rfl hq
/-- these objects are frozen -/
def frzF (F H : Hp) (fp : List Addr) : Hp := fun a => if a ∈ fp then H a else F a
theorem frzF_in {F H : Hp} {fp : List Addr} {p : Addr} (h : p ∈ fp) : frzF F H fp p = H p := by unfold frzF; rw [if_pos h]
theorem frzF_out {F H : Hp} {fp : List Addr} {p : Addr} (h : p ∉ fp) : frzF F H fp p = F p := by unfold frzF; rw [if_neg h]
theorem frzF_same {F H : Hp} {fp : List Addr} (s : Same F H) : Same F (frzF F H fp) := fun a x e => by
  by_cases h : a ∈ fp
  · rw [frzF_in h]
    exact s a x e
  · rw [frzF_out h]
    exact e
theorem frzF_le {F H : Hp} {fp : List Addr} (s : Same F H) : Same (frzF F H fp) H := fun a x e => by
  by_cases h : a ∈ fp
  · rw [frzF_in h] at e
    exact e
  · rw [frzF_out h] at e
    exact s a x e
/-- nobody's objects are frozen -/
theorem Rep.frzN (r : Rep G K F ps σ H) {fp : List Addr} (hp : ∀ p ∈ fp, F p = none ∧ G.H0 p = none ∧ ¬ Own ps σ H p) : Rep G K (frzF F H fp) ps σ H := by
  refine r.grow (frzF_same r.fh) (frzF_le r.fh) (fun _ _ e => e) fun a h1 h2 => ?_
  by_cases h : a ∈ fp
  · obtain ⟨_, b, c⟩ := hp a h
    exact ⟨b, c⟩
  · rw [frzF_out h] at h1
    exact absurd h2 h1
/-- an own part of a slot is made data -/
theorem Rep.frzTr (r : Rep G K F ps σ H) {i : Nat} {path : List Nat} {t s : Tr} {d : Dat} (e : ps.sl[i]? = some (.tr t)) (eg : t.get path = some s) (ef : s.frz = some d) :
    ∃ F' w, Post G K F ps σ H F' (ps.put i (.tr (t.set path (.fr d)))) H ∧ Rel K F' G.T d w ∧ (∀ q, (∃ sh ts, s = .nd sh ts) → w = .ref q → TAt ps σ H i path q) ∧ (path = [] → σ[i]? = some (some w)) := by
  obtain ⟨o, e1, v, fp, rfl, h1, nd⟩ := r.slots i _ e
  obtain ⟨w, pre, f, post, rfl, h2, ad, nl, up⟩ := h1.at eg
  have fs := frzF_same (fp := f) r.fh
  have rw' : Rel K (frzF F H f) G.T d w := h2.frz ef fs fun p hp => frzF_in hp
  have out : ∀ p ∈ pre ++ post, p ∉ f := fun p hp hf => by
    rw [List.nodup_append, List.nodup_append] at nd
    rcases List.mem_append.mp hp with z | z
    · exact nd.1.2.2 p z p hf rfl
    · exact nd.2.2 p (List.mem_append_right _ hf) p z rfl
  have ok' := up (frzF F H f) H (.fr d) [] fs (fun p hp => ⟨rfl, by rw [frzF_out (out p hp)]; exact (h1.own p (by rcases List.mem_append.mp hp with z | z <;> simp [z])).elim fun _ z => z.2.2.1⟩) (by unfold TrOk; exact ⟨rfl, rw'⟩)
  refine ⟨_, w, Post.slot r e e1 ⟨v, _, rfl, ok', ?_⟩ fs (frzF_le r.fh) (fun _ h => h) (fun p hp => ?_) (fun p fq => ?_) (fun t' v' path' q z ev a => ?_), rw', fun q hs ew => ⟨t, v, e, e1, ad q hs ew⟩, fun z => by rw [(nl z).1]; exact e1⟩
  · rw [List.append_nil]
    rw [List.nodup_append, List.nodup_append] at nd
    rw [List.nodup_append]
    exact ⟨nd.1.1, nd.2.1, fun a ha b hb => nd.2.2 a (List.mem_append_left _ ha) b hb⟩
  · rcases hp with z | z
    · exact absurd rfl z
    · by_cases hf : p ∈ f
      · exact .inl ⟨v, _, rfl, h1.fp, by simp [hf]⟩
      · rw [frzF_out hf] at z
        exact absurd rfl z
  · obtain ⟨v', fp', ev, h3, hp⟩ := fq
    cases ev
    rw [TrFp.uniq h3 ok'.fp] at hp
    refine .inl ⟨v, _, rfl, h1.fp, ?_⟩
    rw [List.append_nil] at hp
    rcases List.mem_append.mp hp with z | z <;> simp [z]
  · cases z
    cases ev
    exact ⟨t, rfl, a.set_fr⟩
end

/-! ### values within an expression -/
/-- data; a new list that is nobody's; what a slot holds -/
inductive RV where
  | im (d : Dat)
  | nw (ds : List Dat)
  | sl (i : Nat)
  | nt (t : Tr)
  | pa (i : Nat) (path : List Nat)
def RVok (G : Ctl) (K : Fg) (F : Hp) (ps : PS) (σ : L2.St) (Hs H : Hp) : RV → V → Prop
  | .im d, v => Rel K F G.T d v
  | .nw ds, v => ∃ p vs, v = .ref p ∧ H p = some (.lst vs) ∧ F p = none ∧ G.H0 p = none ∧ ¬ Own ps σ H p ∧ RelL K F G.T ds vs ∧ Hs p = none
  | .sl i, v => σ[i]? = some (some v)
  | .nt t, v => ∃ fp, TrOk K F H G.H0 G.T t v fp ∧ fp.Nodup ∧ ∀ p ∈ fp, ¬ Own ps σ H p ∧ Hs p = none
  | .pa i path, v => ∀ q, TAt ps σ H i path q → v = .ref q
theorem RVok.post {G : Ctl} {K : Fg} {F F' : Hp} {ps ps' : PS} {σ : L2.St} {Hs H H' : Hp} {r : RV} {v : V} (h : RVok G K F ps σ Hs H r v) (p : Post G K F ps σ H F' ps' H') : RVok G K F' ps' σ Hs H' r v := by
  cases r with
  | im d => exact Rel.mono p.same _ _ h
  | nw ds =>
    obtain ⟨q, vs, e, h1, h2, h3, h4, h5, h6⟩ := h
    obtain ⟨a, b, c⟩ := p.fresh q (.lst vs) trivial h1 h2 h3 h4
    exact ⟨q, vs, e, a, b, h3, c, RelL.mono p.same _ _ h5, h6⟩
  | sl i => exact h
  | nt t =>
    obtain ⟨fp, h1, h2, h3⟩ := h
    have k : ∀ a ∈ fp, H' a = H a ∧ F' a = none ∧ ¬ Own ps' σ H' a := fun a ha => by
      obtain ⟨u, e, hm, e2, e3⟩ := h1.own a ha
      obtain ⟨x, y, z⟩ := p.fresh a u hm e e2 e3 (h3 a ha).1
      exact ⟨by rw [x, e], y, z⟩
    exact ⟨fp, h1.keep p.same fun a ha => ⟨(k a ha).1, (k a ha).2.1⟩, h2, fun a ha => ⟨(k a ha).2.2, (h3 a ha).2⟩⟩
  | pa i path => exact fun q hq => h q (p.al i path q hq)
theorem RVok.back {G : Ctl} {K : Fg} {F : Hp} {ps : PS} {σ : L2.St} {Hs Hs' H : Hp} {r : RV} {v : V} (h : RVok G K F ps σ Hs' H r v) (d : ∀ a, Hs' a = none → Hs a = none) : RVok G K F ps σ Hs H r v := by
  cases r with
  | im d => exact h
  | nw ds =>
    obtain ⟨q, vs, e, h1, h2, h3, h4, h5, h6⟩ := h
    exact ⟨q, vs, e, h1, h2, h3, h4, h5, d _ h6⟩
  | sl i => exact h
  | nt t =>
    obtain ⟨fp, h1, h2, h3⟩ := h
    exact ⟨fp, h1, h2, fun a ha => ⟨(h3 a ha).1, d _ (h3 a ha).2⟩⟩
  | pa i path => exact h

/-- data as it is read now: an own list's items are frozen, the list itself need not be -/
def BRel (K : Fg) (F H : Hp) (T : Addr) : Dat → V → Prop
  | .list ds, v => ∃ a xs, v = .ref a ∧ H a = some (.lst xs) ∧ RelL K F T ds xs
  | d, v => Rel K F T d v
theorem BRel.of {K : Fg} {F H : Hp} {T : Addr} (s : Same F H) {d : Dat} {v : V} (h : Rel K F T d v) : BRel K F H T d v := by
  cases d with
  | list ds =>
    unfold Rel at h
    obtain ⟨a, xs, e, h1, h2⟩ := h
    exact ⟨a, xs, e, s _ _ h1, h2⟩
  | _ => exact h
theorem BRel.rel {K : Fg} {F H : Hp} {T : Addr} (s : Same F H) {d : Dat} {v : V} (h : BRel K F H T d v) : Rel K H T d v := by
  cases d with
  | list ds =>
    unfold Rel
    obtain ⟨a, xs, e, h1, h2⟩ := h
    exact ⟨a, xs, e, h1, RelL.mono s _ _ h2⟩
  | _ => exact Rel.mono s _ _ h

def brw (r : RV) (ps : PS) : Option Dat :=
  match r with
  | .im d => some d
  | .nw ds => some (.list ds)
  | .sl i => match ps.sl[i]? with
    | some (.fr d) => some d
    | some (.ow ds) => some (.list ds)
    | _ => none
  | .nt t => match t with
    | .nd .li ts => (Tr.flat ts).map PyData.list
    | _ => none
  | .pa i path => match ps.sl[i]? with
    | some (.tr t) => match t.get path with
      | some (.nd .li ts) => (Tr.flat ts).map PyData.list
      | _ => none
    | _ => none
theorem brw_tr {K : Fg} {F H H0 : Hp} {T : Addr} {ts : List Tr} {v : V} {fp : List Addr} {d : Dat} (h : TrOk K F H H0 T (.nd .li ts) v fp) (e : (Tr.flat ts).map PyData.list = some d) : BRel K F H T d v := by
  cases e2 : Tr.flat ts with
  | none => rw [e2] at e; cases e
  | some ds =>
    rw [e2] at e
    cases e
    unfold TrOk at h
    obtain ⟨p, vs, fq, e, _, h1, _, _, _, h5⟩ := h
    exact ⟨p, vs, e, h1, (h5.flat e2).1⟩
theorem brw_ok {G : Ctl} {K : Fg} {F : Hp} {ps : PS} {σ : L2.St} {Hs H : Hp} {r : RV} {v : V} {d : Dat} (R : Rep G K F ps σ H) (h : RVok G K F ps σ Hs H r v) (e : brw r ps = some d) : BRel K F H G.T d v := by
  cases r with
  | im d' => cases e; exact .of R.fh h
  | nw ds =>
    cases e
    obtain ⟨q, vs, e, h1, h2, h3, h4, h5, _⟩ := h
    exact ⟨q, vs, e, h1, h5⟩
  | sl i =>
    have h : σ[i]? = some (some v) := h
    unfold brw at e
    cases q : ps.sl[i]? with
    | none => simp [q] at e
    | some s =>
      obtain ⟨o, e1, z⟩ := R.slots i s q
      rw [h] at e1
      cases e1
      cases s with
      | un => simp [q] at e
      | fr d' =>
        simp [q] at e
        subst e
        obtain ⟨v', e2, z⟩ := z
        cases e2
        exact .of R.fh z
      | ow ds =>
        simp [q] at e
        subst e
        obtain ⟨p, vs, e2, h1, h2, h3, h5⟩ := z
        cases e2
        exact ⟨p, vs, rfl, h1, h5⟩
      | tr t => simp [q] at e
      | al _ _ => simp [q] at e
  | nt t =>
    unfold brw at e
    cases t with
    | fr d' => cases e
    | nd sh ts =>
      cases sh with
      | li =>
        obtain ⟨fp, h1, _⟩ := h
        exact brw_tr h1 e
      | dk ks => cases e
      | dt ks => cases e
  | pa i path =>
    unfold brw at e
    cases q : ps.sl[i]? with
    | none => simp [q] at e
    | some s =>
      cases s with
      | un => simp [q] at e
      | al _ _ => simp [q] at e
      | fr d' => simp [q] at e
      | ow ds => simp [q] at e
      | tr t =>
        cases q2 : t.get path with
        | none => simp [q, q2] at e
        | some s2 =>
          cases s2 with
          | fr d' => simp [q, q2] at e
          | nd sh ts =>
            cases sh with
            | li =>
              have e : (Tr.flat ts).map PyData.list = some d := by simpa [q, q2] using e
              obtain ⟨o, e1, v0, fp, rfl, h1, _⟩ := R.slots i _ q
              obtain ⟨w, pre, f, post, _, h2, ad, _, _⟩ := h1.at q2
              obtain ⟨p, vs, fq, ew, r⟩ := (show ∃ p vs fq, w = .ref p ∧ _ by unfold TrOk at h2; exact h2)
              have hv := h p ⟨t, v0, q, e1, ad p ⟨_, _, rfl⟩ ew⟩
              rw [hv, ← ew]
              exact brw_tr h2 e
            | dk ks => simp [q, q2] at e
            | dt ks => simp [q, q2] at e

/-- a new list that waits is frozen -/
def settle : RV → RV
  | .nw ds => .im (.list ds)
  | r => r
theorem settle_ok {G : Ctl} {K : Fg} {F F1 : Hp} {ps ps1 : PS} {σ : L2.St} {H H1 : Hp} {r : RV} {v : V} (P : Post G K F ps σ H F1 ps1 H1) (h : RVok G K F1 ps1 σ H H1 r v) : ∃ F', Post G K F ps σ H F' ps1 H1 ∧ RVok G K F' ps1 σ H H1 (settle r) v := by
  cases r with
  | im d => exact ⟨F1, P, h⟩
  | sl i => exact ⟨F1, P, h⟩
  | nt t => exact ⟨F1, P, h⟩
  | pa i path => exact ⟨F1, P, h⟩
  | nw ds =>
    obtain ⟨p, vs, rfl, h1, h2, h3, h4, h5, h6⟩ := h
    have fs := same_upd (o := .lst vs) h2
    refine ⟨upd F1 p (.lst vs), ⟨P.rep.frz h1 h2 h3 h4, P.same.trans fs, fun q ws hm a b c d => ?_, P.dom, P.al⟩, ?_⟩
    · obtain ⟨x, y, z⟩ := P.fresh q ws hm a b c d
      refine ⟨x, ?_, z⟩
      rw [upd_ne]
      · exact y
      · rintro rfl
        rw [h6] at a
        cases a
    · show Rel _ _ _ _ _
      unfold Rel
      exact ⟨p, vs, rfl, upd_same, RelL.mono fs _ _ h5⟩

theorem rLst0 {K : Fg} {F : Hp} {T : Addr} {ds : List Dat} {v : V} (h : Rel K F T (.list ds) v) : ∃ a xs, v = .ref a ∧ F a = some (.lst xs) ∧ RelL K F T ds xs := by
  unfold Rel at h
  exact h
/-- a value that is kept: frozen -/
def keepV (r : RV) (ps : PS) : Option (Dat × PS) :=
  match r with
  | .im d => some (d, ps)
  | .nw ds => some (.list ds, ps)
  | .sl i => match ps.sl[i]? with
    | some (.fr d) => some (d, ps)
    | some (.ow ds) => some (.list ds, ps.put i (.fr (.list ds)))
    | _ => none
  | .nt t => t.frz.map fun d => (d, ps)
  | .pa i path => match ps.sl[i]? with
    | some (.tr t) => match t.get path with
      | some (.nd sh ts) => (Tr.nd sh ts).frz.map fun d => (d, ps.put i (if path.isEmpty then .fr d else .tr (t.set path (.fr d))))
      | _ => none
    | _ => none
theorem keepV_ok {G : Ctl} {K : Fg} {F F1 : Hp} {ps ps1 ps2 : PS} {σ : L2.St} {H H1 : Hp} {r : RV} {v : V} {d : Dat} (P : Post G K F ps σ H F1 ps1 H1) (h : RVok G K F1 ps1 σ H H1 r v) (e : keepV r ps1 = some (d, ps2)) :
    ∃ F', Post G K F ps σ H F' ps2 H1 ∧ Rel K F' G.T d v := by
  cases r with
  | im d' => cases e; exact ⟨F1, P, h⟩
  | nw ds =>
    cases e
    obtain ⟨F', P', h'⟩ := settle_ok P h
    exact ⟨F', P', h'⟩
  | sl i =>
    have h : σ[i]? = some (some v) := h
    unfold keepV at e
    cases q : ps1.sl[i]? with
    | none => simp [q] at e
    | some s =>
      obtain ⟨o, e1, z⟩ := P.rep.slots i s q
      cases s with
      | un => simp [q] at e
      | fr d' =>
        simp [q] at e
        obtain ⟨rfl, rfl⟩ := e
        rw [h] at e1
        cases e1
        obtain ⟨v', e2, z⟩ := z
        cases e2
        exact ⟨F1, P, z⟩
      | ow ds =>
        simp [q] at e
        obtain ⟨rfl, rfl⟩ := e
        obtain ⟨p, vs, e3, hp, P', rl⟩ := P.rep.frzSl q
        rw [h] at e3
        cases e3
        exact ⟨_, P.trans P', rl⟩
      | tr t => simp [q] at e
      | al _ _ => simp [q] at e
  | nt t =>
    unfold keepV at e
    cases q : t.frz with
    | none => simp [q] at e
    | some d' =>
      simp [q] at e
      obtain ⟨rfl, rfl⟩ := e
      obtain ⟨fp, h1, h2, h3⟩ := h
      have fs := frzF_same (fp := fp) P.rep.fh
      refine ⟨frzF F1 H1 fp, ⟨P.rep.frzN fun p hp => ?_, P.same.trans fs, fun q ws hm a b c d => ?_, P.dom, P.al⟩, h1.frz q fs fun p hp => frzF_in hp⟩
      · obtain ⟨_, _, _, a, b⟩ := h1.own p hp
        exact ⟨a, b, (h3 p hp).1⟩
      · obtain ⟨x, y, z⟩ := P.fresh q ws hm a b c d
        refine ⟨x, ?_, z⟩
        rw [frzF_out]
        · exact y
        · intro hq
          rw [(h3 q hq).2] at a
          cases a
  | pa i path =>
    unfold keepV at e
    cases q : ps1.sl[i]? with
    | none => simp [q] at e
    | some s =>
      cases s with
      | un => simp [q] at e
      | al _ _ => simp [q] at e
      | fr d' => simp [q] at e
      | ow ds => simp [q] at e
      | tr t =>
        cases q2 : t.get path with
        | none => simp [q, q2] at e
        | some s2 =>
          cases s2 with
          | fr d' => simp [q, q2] at e
          | nd sh ts =>
            cases q3 : (Tr.nd sh ts).frz with
            | none => simp [q, q2, q3] at e
            | some d' =>
              obtain ⟨F', w, P', rw', ad, top⟩ := P.rep.frzTr q q2 q3
              have ew : ∃ p, w = .ref p := by
                cases sh with
                | li =>
                  unfold Tr.frz at q3
                  cases q4 : Tr.frzs ts with
                  | none => rw [q4] at q3; cases q3
                  | some ds =>
                    rw [q4] at q3
                    cases q3
                    obtain ⟨a, _, ea, _⟩ := rLst0 rw'
                    exact ⟨a, ea⟩
                | dk ks => unfold Tr.frz at q3; cases q3
                | dt ks => unfold Tr.frz at q3; cases q3
              obtain ⟨p, ew⟩ := ew
              have hv := h p (ad p ⟨_, _, rfl⟩ ew)
              simp [q, q2, q3] at e
              obtain ⟨rfl, e⟩ := e
              have hr : Rel K F' G.T d' v := by rw [hv, ← ew]; exact rw'
              cases path with
              | nil =>
                have e : ps1.put i (.fr d') = ps2 := by simpa using e
                subst e
                rw [Tr.set_nil] at P'
                obtain ⟨o, e1, v0, fp, eo, h1, _⟩ := P'.rep.slots i (.tr (.fr d')) (by
                  show (ps1.sl.set i _)[i]? = _
                  rw [List.getElem?_set_self (ltOf q)])
                have P2 := Post.slot (s' := .fr d') P'.rep (show (ps1.put i (.tr (.fr d'))).sl[i]? = some (.tr (.fr d')) by
                  show (ps1.sl.set i _)[i]? = _
                  rw [List.getElem?_set_self (ltOf q)]) e1 (F' := F') (H' := H1) ⟨v0, eo, by unfold TrOk at h1; exact h1.2⟩ (Same.refl _) P'.rep.fh (fun _ h => h) (fun p hp => by rcases hp with z | z <;> exact absurd rfl z) (fun p f => f.elim) (fun t' v path q z => by cases z)
                have ep : (ps1.put i (.tr (.fr d'))).put i (.fr d') = ps1.put i (.fr d') := by
                  unfold PS.put
                  simp
                rw [ep] at P2
                exact ⟨F', (P.trans P').trans P2, hr⟩
              | cons k path =>
                have e : ps1.put i (.tr (t.set (k :: path) (.fr d'))) = ps2 := by simpa using e
                subst e
                exact ⟨F', P.trans P', hr⟩
end MP

namespace MP
open PySem PySem.Spec PyProof.Rows L2
variable [Tbs]

/-! ### denotations -/
abbrev M (α : Type) := PS → Option (α × PS)
def M.ret {α : Type} (a : α) : M α := fun ps => some (a, ps)
def M.bnd {α β : Type} (m : M α) (k : α → M β) : M β := fun ps => (m ps).bind fun x => k x.1 x.2

/-- a new tuple, its object known -/
def NewT (H : Hp) (xs : List V) (Q : VK) : Prop := ∀ (p : Addr) (o : Obj), H p = none → o.dict = none → Q (.ref p) (upd H p (.frz o (.tup xs)))
theorem NewT.put {X : Cx} {pins : List (Addr × Obj)} {s : Shared} {σ : L2.St} {H : Hp} {Q : VK} {xs : List V} {its : List Value} (q : NewT H xs Q) (I : Inv X pins σ H s) (r : Vals xs its) (hz : xs.length ≤ sizeLine) :
    EP X pins σ Q (.ref s.heap.objs.size) { s with heap := s.heap.push { cls := .type "tuple", data := .seq its.toArray } } := by
  have I2 := I.laid (t' := s.toks) (a := s.heap.objs.size) (h' := s.heap.push { cls := .type "tuple", data := .seq its.toArray }) (o := .frz { cls := .type "tuple", data := .seq its.toArray } (.tup xs)) (fun b o e => Heap.get?_push_of_some _ e) (Nat.le_refl _) ⟨Heap.get?_push_size _ rfl, hz, its, r, IsTup.new _ _⟩
  exact ⟨V.ref s.heap.objs.size, _, I2, rfl, q _ _ (I.hok.fresh (Nat.le_refl _)) rfl⟩

structure SndE (K : Fg) (t : TE) (f : M RV) : Prop where
  go : ∀ (G : Ctl) (F : Hp) (ps : PS) (σ : L2.St) (H : Hp) (r : RV) (ps' : PS) (Q : VK), Rep G K F ps σ H → f ps = some (r, ps') →
    (∀ v F' H', Post G K F ps σ H F' ps' H' → RVok G K F' ps' σ H H' r v → Q v H') → t σ H Q
structure SndT (K : Fg) (t : TT) (f : M Bool) : Prop where
  go : ∀ (G : Ctl) (F : Hp) (ps : PS) (σ : L2.St) (H : Hp) (b : Bool) (ps' : PS) (Q : Bool → Hp → Prop), Rep G K F ps σ H → f ps = some (b, ps') →
    (∀ F' H', Post G K F ps σ H F' ps' H' → Q b H') → t σ H Q
/-- kept arguments -/
structure SndA (K : Fg) (t : TA) (f : M (List Dat)) : Prop where
  go : ∀ (G : Ctl) (F : Hp) (ps : PS) (σ : L2.St) (H : Hp) (ds : List Dat) (ps' : PS) (Q : List V → Hp → Prop), Rep G K F ps σ H → f ps = some (ds, ps') →
    (∀ vs F' H', Post G K F ps σ H F' ps' H' → RelL K F' G.T ds vs → Q vs H') → t σ H Q
structure DE (X : Cx) (e : Expr) (t : TE) (f : M RV) : Prop where
  pe : PE X e t
  sn : SndE X.K t f
structure DT (X : Cx) (e : Expr) (t : TT) (f : M Bool) : Prop where
  pe : PT X e t
  sn : SndT X.K t f
/-- a test within and, or -/
structure DW (X : Cx) (e : Expr) (t : TT) (f : M Bool) : Prop where
  pe : PW X e t
  sn : SndT X.K t f
structure DA (X : Cx) (es : List Expr) (t : TA) (f : M (List Dat)) : Prop where
  pe : PA X es t
  sn : SndA X.K t f

/-! ### names, constants -/
def rdV (i : Nat) : M RV := fun ps => match ps.sl[i]? with
  | some (.fr d) => some (.im d, ps)
  | some (.ow _) => some (.sl i, ps)
  | some (.tr _) => some (.pa i [], ps)
  | some (.al j path) => some (.pa j path, ps)
  | _ => none
theorem snd_var {K : Fg} (i : Nat) : SndE K (tVar i) (rdV i) := by
  refine ⟨fun G F ps σ H r ps' Q R e q => ?_⟩
  unfold rdV at e
  cases z : ps.sl[i]? with
  | none => simp [z] at e
  | some s =>
    obtain ⟨o, e1, y⟩ := R.slots i s z
    cases s with
    | un => simp [z] at e
    | fr d =>
      simp [z] at e
      obtain ⟨rfl, rfl⟩ := e
      obtain ⟨v, rfl, y⟩ := y
      exact ⟨v, e1, q v F H (.refl R) y⟩
    | ow ds =>
      simp [z] at e
      obtain ⟨rfl, rfl⟩ := e
      obtain ⟨p, vs, rfl, _⟩ := y
      exact ⟨.ref p, e1, q _ F H (.refl R) e1⟩
    | al j path =>
      simp [z] at e
      obtain ⟨rfl, rfl⟩ := e
      obtain ⟨v, rfl⟩ := y
      refine ⟨v, e1, q v F H (.refl R) fun p hp => ?_⟩
      have w := R.ali i j path p z hp
      rw [e1] at w
      cases w
      rfl
    | tr t =>
      simp [z] at e
      obtain ⟨rfl, rfl⟩ := e
      obtain ⟨v, fp, rfl, _⟩ := y
      refine ⟨v, e1, q v F H (.refl R) fun p hp => ?_⟩
      obtain ⟨t', v', _, e2, a⟩ := hp
      rw [e1] at e2
      cases e2
      cases t' with
      | fr d => unfold AddrAt at a; exact a.elim
      | nd sh ts => unfold AddrAt at a; exact a
def kst (d : Dat) : M RV := fun ps => some (.im d, ps)
theorem snd_kst {K : Fg} {d : Dat} {v : V} (h : ∀ F T, Rel K F T d v) : SndE K (tC v) (kst d) := by
  refine ⟨fun G F ps σ H r ps' Q R e q => ?_⟩
  cases e
  exact q v F H (.refl R) (h F G.T)
section
variable {X : Cx} {a b c e : Expr} {ta tb tc te : TE} {fa fb fc fe : M RV} {pos : Pos}
theorem de_var {i : Nat} {x : Str} (hN : X.N[i]? = some x) (hv : Vis X.env.scope x) (hd : (x == ("__debug__" : Str)) = false := by decide) (hcd : (x == ("__classdict__" : Str)) = false := by decide) : DE X (.Name x pos) (tVar i) (rdV i) :=
  ⟨pe_var hN hv hd hcd, snd_var i⟩
theorem de_int {i j} : DE X (.Constant (.int i) j pos) (tC (.int i)) (kst (.int i)) := ⟨pe_int, snd_kst fun _ _ => by unfold Rel; rfl⟩
theorem de_bl {k j} : DE X (.Constant (.bool k) j pos) (tC (.bl k)) (kst (.bool k)) := ⟨pe_bl, snd_kst fun _ _ => by unfold Rel; rfl⟩
theorem de_non {j} : DE X (.Constant .none j pos) (tC .non) (kst .none) := ⟨pe_non, snd_kst fun _ _ => by unfold Rel; rfl⟩
theorem de_str {x j} : DE X (.Constant (.str x) j pos) (tC (.str x)) (kst (.str x)) := ⟨pe_str, snd_kst fun _ _ => by unfold Rel; rfl⟩

/-! ### operations on data -/
def OpSnd (K : Fg) (r : R2) (g : Dat → Dat → Option RV) : Prop :=
  ∀ (G : Ctl) (F : Hp) (ps : PS) (σ : L2.St) (H : Hp) (x y : V) (d e : Dat) (out : RV) (Q : VK), Rep G K F ps σ H → BRel K F H G.T d x → BRel K F H G.T e y → g d e = some out →
    (∀ v F' H', Post G K F ps σ H F' ps H' → RVok G K F' ps σ H H' out v → Q v H') → r x y H Q
def UnSnd (K : Fg) (r : V → Hp → VK → Prop) (g : Dat → Option RV) : Prop :=
  ∀ (G : Ctl) (F : Hp) (ps : PS) (σ : L2.St) (H : Hp) (x : V) (d : Dat) (out : RV) (Q : VK), Rep G K F ps σ H → BRel K F H G.T d x → g d = some out →
    (∀ v F' H', Post G K F ps σ H F' ps H' → RVok G K F' ps σ H H' out v → Q v H') → r x H Q
def opM (g : Dat → Dat → Option RV) (fa fb : M RV) : M RV := fun ps =>
  (fa ps).bind fun x => (fb x.2).bind fun y => (brw (settle x.1) y.2).bind fun d => (brw y.1 y.2).bind fun e => (g d e).bind fun r => some (r, y.2)
def unM (g : Dat → Option RV) (fa : M RV) : M RV := fun ps =>
  (fa ps).bind fun x => (brw x.1 x.2).bind fun d => (g d).bind fun r => some (r, x.2)
theorem snd_op {K : Fg} {r : R2} {g : Dat → Dat → Option RV} (hg : OpSnd K r g) (ha : SndE K ta fa) (hb : SndE K tb fb) : SndE K (tOp r ta tb) (opM g fa fb) := by
  refine ⟨fun G F ps σ H out ps' Q R e q => ?_⟩
  unfold opM at e
  obtain ⟨⟨ra, ps1⟩, e1, e⟩ := Option.bind_eq_some_iff.mp e
  obtain ⟨⟨rb, ps2⟩, e2, e⟩ := Option.bind_eq_some_iff.mp e
  obtain ⟨d, e3, e⟩ := Option.bind_eq_some_iff.mp e
  obtain ⟨d', e4, e⟩ := Option.bind_eq_some_iff.mp e
  obtain ⟨out', e5, e⟩ := Option.bind_eq_some_iff.mp e
  cases e
  refine ha.go G F ps σ H ra ps1 _ R e1 fun x F1 H1 P1 r1 => ?_
  obtain ⟨F1', P1', r1'⟩ := settle_ok P1 r1
  refine hb.go G F1' ps1 σ H1 rb ps2 _ P1'.rep e2 fun y F2 H2 P2 r2 => ?_
  refine hg G F2 ps2 σ H2 x y d d' out Q P2.rep (brw_ok P2.rep (r1'.post P2) e3) (brw_ok P2.rep r2 e4) e5 fun v F' H' P3 r3 => ?_
  have P := (P1'.trans P2).trans P3
  exact q v F' H' P (r3.back (P1'.trans P2).dom)
theorem snd_un {K : Fg} {r : V → Hp → VK → Prop} {g : Dat → Option RV} (hg : UnSnd K r g) (ha : SndE K ta fa) : SndE K (tUn r ta) (unM g fa) := by
  refine ⟨fun G F ps σ H out ps' Q R e q => ?_⟩
  unfold unM at e
  obtain ⟨⟨ra, ps1⟩, e1, e⟩ := Option.bind_eq_some_iff.mp e
  obtain ⟨d, e3, e⟩ := Option.bind_eq_some_iff.mp e
  obtain ⟨out', e5, e⟩ := Option.bind_eq_some_iff.mp e
  cases e
  refine ha.go G F ps σ H ra ps1 _ R e1 fun x F1 H1 P1 r1 => ?_
  refine hg G F1 ps1 σ H1 x d out Q P1.rep (brw_ok P1.rep r1 e3) e5 fun v F' H' P3 r3 => ?_
  exact q v F' H' (P1.trans P3) (r3.back P1.dom)
end
/-! ### ways out -/
section
variable {G : Ctl} {K : Fg} {F : Hp} {ps : PS} {σ : L2.St} {H : Hp} {Q : VK}
theorem out_im {d : Dat} {v : V} (R : Rep G K F ps σ H) (h : Rel K F G.T d v) (q : ∀ v F' H', Post G K F ps σ H F' ps H' → RVok G K F' ps σ H H' (.im d) v → Q v H') : Q v H := q v F H (.refl R) h
theorem out_nw {ds : List Dat} {vs : List V} (R : Rep G K F ps σ H) (h : RelL K F G.T ds vs) (q : ∀ v F' H', Post G K F ps σ H F' ps H' → RVok G K F' ps σ H H' (.nw ds) v → Q v H') : ∀ p, H p = none → Q (.ref p) (upd H p (.lst vs)) := fun p hp => by
  have P := R.newL (vs := vs) hp
  exact q _ _ _ P ⟨p, vs, rfl, upd_same, R.fn hp, R.h0 hp, fun o => R.ownN hp ((R.ownI (R.keepO (same_upd hp))).mp o), h, hp⟩
theorem out_tp {ds : List Dat} {vs : List V} (R : Rep G K F ps σ H) (h : RelL K F G.T ds vs) (q : ∀ v F' H', Post G K F ps σ H F' ps H' → RVok G K F' ps σ H H' (.im (.tuple ds)) v → Q v H') : NewT H vs Q := fun p o hp ho => by
  have P := R.newF (o := .frz o (.tup vs)) hp
  refine q _ _ _ P ?_
  show Rel _ _ _ _ _
  unfold Rel
  exact ⟨p, vs, rfl, ⟨o, upd_same, ho⟩, RelL.mono P.same _ _ h⟩
end
theorem rInt {K : Fg} {F : Hp} {T : Addr} {i : Int} {v : V} : Rel K F T (.int i) v ↔ v = .int i := by unfold Rel; exact Iff.rfl
theorem rBl {K : Fg} {F : Hp} {T : Addr} {i : Bool} {v : V} : Rel K F T (.bool i) v ↔ v = .bl i := by unfold Rel; exact Iff.rfl
theorem rStr {K : Fg} {F : Hp} {T : Addr} {i : Str} {v : V} : Rel K F T (.str i) v ↔ v = .str i := by unfold Rel; exact Iff.rfl
theorem rNon {K : Fg} {F : Hp} {T : Addr} {v : V} : Rel K F T .none v ↔ v = .non := by unfold Rel; exact Iff.rfl
theorem rTupE {K : Fg} {F : Hp} {T : Addr} {ds : List Dat} {v : V} (h : Rel K F T (.tuple ds) v) : ∃ a xs, v = .ref a ∧ SqT K F a xs ∧ RelL K F T ds xs := by
  unfold Rel at h
  obtain ⟨a, xs, e, h1, h2⟩ := h
  exact ⟨a, xs, e, h1.sqT, h2⟩
theorem rTupD {K : Fg} {F : Hp} {T : Addr} {ds : List Dat} {v : V} (h : Rel K F T (.tuple ds) v) : ∃ a xs, v = .ref a ∧ TupD F a xs ∧ RelL K F T ds xs := by
  unfold Rel at h
  exact h
theorem rLst {K : Fg} {F : Hp} {T : Addr} {ds : List Dat} {v : V} : Rel K F T (.list ds) v ↔ ∃ a xs, v = .ref a ∧ F a = some (.lst xs) ∧ RelL K F T ds xs := by rw [Rel]
section
variable {K : Fg} {F H : Hp} {T : Addr} {v : V}
theorem bInt {i : Int} (h : BRel K F H T (.int i) v) : v = .int i := (rInt (K := K) (F := F) (T := T)).mp h
theorem bBl {i : Bool} (h : BRel K F H T (.bool i) v) : v = .bl i := (rBl (K := K) (F := F) (T := T)).mp h
theorem bStr {i : Str} (h : BRel K F H T (.str i) v) : v = .str i := (rStr (K := K) (F := F) (T := T)).mp h
theorem bNon (h : BRel K F H T .none v) : v = .non := (rNon (K := K) (F := F) (T := T)).mp h
theorem bTup {ds : List Dat} (s : Same F H) (h : BRel K F H T (.tuple ds) v) : ∃ a xs, v = .ref a ∧ SqT K H a xs ∧ RelL K F T ds xs := by
  obtain ⟨a, xs, e, h1, h2⟩ := rTupE (K := K) (F := F) (T := T) h
  exact ⟨a, xs, e, seqT s h1, h2⟩
theorem bLst {ds : List Dat} (h : BRel K F H T (.list ds) v) : ∃ a xs, v = .ref a ∧ H a = some (.lst xs) ∧ RelL K F T ds xs := h
theorem bDic {y : Dat × Dat} {z : Dat} {l : List (Dat × Dat)} {ds : List Dat} (s : Same F H) (h : BRel K F H T (.dict (y :: (z, .list ds) :: l)) v) : ∃ a xs, v = .ref a ∧ SqL K H a xs ∧ RelL K F T ds xs := by
  have h : Rel K F T (.dict (y :: (z, .list ds) :: l)) v := h
  unfold Rel at h
  obtain ⟨a, xs, e, h1, h2⟩ := h
  exact ⟨a, xs, e, seqL s h1, h2⟩
end

/-! ### + - * // % -/
def line (n : Nat) : Bool := decide (n ≤ sizeLine)
def addD : Dat → Dat → Option RV
  | .int i, .int j => some (.im (.int (i + j)))
  | .str x, .str y => if line (x.length + y.length) then some (.im (.str (x ++ y))) else none
  | .list xs, .list ys => if line (xs.length + ys.length) then some (.nw (xs ++ ys)) else none
  | .tuple xs, .tuple ys => if line (xs.length + ys.length) then some (.im (.tuple (xs ++ ys))) else none
  | _, _ => none

abbrev R2or (r r' : R2) : R2 := fun x y H Q => r x y H Q ∨ r' x y H Q
def rInt2 (g : Int → Int → V) : R2 := rI0 g
def rStrAdd : R2 := fun x y H Q => ∃ i j, x = .str i ∧ y = .str j ∧ i.length + j.length ≤ sizeLine ∧ Q (.str (i ++ j)) H
/-- two tuples made one; the empty one adds nothing -/
def rCatD (K : Fg) : R2 := fun x y H Q => ∃ (a b : Addr) (xs ys : List V), x = .ref a ∧ y = .ref b ∧ SqT K H a xs ∧ SqT K H b ys ∧ xs.length + ys.length ≤ sizeLine ∧ (xs = [] → Q (.ref b) H) ∧ (xs ≠ [] → ys = [] → Q (.ref a) H) ∧ (xs ≠ [] → ys ≠ [] → NewT H (xs ++ ys) Q)
theorem op_catD {X : Cx} : OpR X (binaryOp .Add) (rCatD X.K) := by
  rintro pins s σ H x y v u Q I rx ry ⟨a, b, xs, ys, rfl, rfl, ha, hb, hz, q0, q1, q2⟩
  cases rx
  cases ry
  obtain ⟨us, ru, pu, _⟩ := I.tuple ha
  obtain ⟨ws, rw', pw, _⟩ := I.tuple hb
  rcases Classical.em (xs = []) with rfl | hx
  · cases ru
    exact cat_tup0 pu pw ⟨V.ref b, H, I, rfl, q0 rfl⟩
  · refine HT.cat_tup pu pw (fun z => hx (ru.nil_iff.mp z)) (fun z => ⟨V.ref a, H, I, rfl, q1 hx (rw'.nil_iff.mp z)⟩) (fun z => ?_) (by rw [← ru.length, ← rw'.length]; exact hz)
    exact (q2 hx fun y => z (rw'.nil_iff.mpr y)).put I (ru.append rw') (by rw [List.length_append]; exact hz)
def rAddD (K : Fg) : R2 := R2or (rI0 fun i j => .int (i + j)) (R2or rStrAdd (R2or rCat (rCatD K)))
theorem op_addD {X : Cx} : OpR X (binaryOp .Add) (rAddD X.K) := op_add.or (op_add_str.or (op_cat.or op_catD))
theorem line_le {n : Nat} (h : line n = true) : n ≤ sizeLine := of_decide_eq_true h
theorem addD_ok {K : Fg} : OpSnd K (rAddD K) addD := by
  intro G F ps σ H x y d e out Q R hx hy hg q
  unfold addD at hg
  split at hg
  · cases hg
    rw [bInt hx, bInt hy]
    exact .inl ⟨_, _, rfl, rfl, out_im R (by unfold Rel; rfl) q⟩
  · split at hg
    · rename_i hl
      cases hg
      rw [bStr hx, bStr hy]
      exact .inr (.inl ⟨_, _, rfl, rfl, line_le hl, out_im R (by unfold Rel; rfl) q⟩)
    · cases hg
  · split at hg
    · rename_i xs ys hl
      cases hg
      obtain ⟨a, vs, rfl, h1, h2⟩ := bLst hx
      obtain ⟨b, ws, rfl, h3, h4⟩ := bLst hy
      refine .inr (.inr (.inl ⟨a, b, vs, ws, rfl, rfl, h1, h3, ?_, out_nw R (h2.append h4) q⟩))
      rw [h2.len, h4.len]
      exact line_le hl
    · cases hg
  · split at hg
    · rename_i xs ys hl
      cases hg
      obtain ⟨a, vs, rfl, h1, h2⟩ := bTup R.fh hx
      obtain ⟨b, ws, rfl, h3, h4⟩ := bTup R.fh hy
      refine .inr (.inr (.inr ⟨a, b, vs, ws, rfl, rfl, h1, h3, ?_, fun ez => ?_, fun _ ez => ?_, fun _ _ => out_tp R (h2.append h4) q⟩))
      · rw [h2.len, h4.len]
        exact line_le hl
      · have e1 : xs = [] := h2.nil_iff.mp ez
        subst e1
        exact out_im R hy q
      · have e1 : ys = [] := h4.nil_iff.mp ez
        subst e1
        refine out_im R ?_ q
        rw [List.append_nil]
        exact hx
    · cases hg
  · cases hg
def subD : Dat → Dat → Option RV
  | .int i, .int j => some (.im (.int (i - j)))
  | _, _ => none
theorem subD_ok {K : Fg} : OpSnd K (rI0 fun i j => .int (i - j)) subD := by
  intro G F ps σ H x y d e out Q R hx hy hg q
  unfold subD at hg
  split at hg
  · cases hg
    rw [bInt hx, bInt hy]
    exact ⟨_, _, rfl, rfl, out_im R (by unfold Rel; rfl) q⟩
  · cases hg
/-- below 2 ^ 64 -/
def sm64 (i : Int) : Bool := decide (i.natAbs < 2 ^ 64)
theorem sm64_iff {i : Int} : sm64 i = true ↔ -(2 ^ 64) < i ∧ i < 2 ^ 64 := by
  unfold sm64
  rw [decide_eq_true_eq]
  omega
/-- told by natAbs: the kernel must never count down from a great number -/
def b62 (i : Int) : Bool := decide (i.natAbs < 2 ^ 62)
theorem b62_iff {i : Int} : b62 i = true ↔ -(2 ^ 62) < i ∧ i < 2 ^ 62 := by
  unfold b62
  rw [decide_eq_true_eq]
  omega
theorem b62_63 {i : Int} (h : b62 i = true) : -(2 ^ 63) ≤ i ∧ i < 2 ^ 63 := by
  have := b62_iff.mp h
  omega
def mulD : Dat → Dat → Option RV
  | .int i, .int j => if sm64 i || sm64 j then some (.im (.int (i * j))) else none
  | .list xs, .int k => if b62 k && line (xs.length * k.toNat) then some (.nw (List.replicate k.toNat xs).flatten) else none
  | _, _ => none
def rMulD : R2 := R2or (rI CMul fun i j => .int (i * j)) rRep
theorem op_mulD {X : Cx} : OpR X (binaryOp .Mult) rMulD := op_mul.or op_rep
theorem mulD_ok {K : Fg} : OpSnd K rMulD mulD := by
  intro G F ps σ H x y d e out Q R hx hy hg q
  unfold mulD at hg
  split at hg
  · split at hg
    · rename_i hl
      cases hg
      rw [bInt hx, bInt hy]
      refine .inl ⟨_, _, rfl, rfl, ?_, out_im R (by unfold Rel; rfl) q⟩
      rcases Bool.or_eq_true_iff.mp hl with h | h
      · exact .inl (sm64_iff.mp h)
      · exact .inr (sm64_iff.mp h)
    · cases hg
  · split at hg
    · rename_i xs k hl
      cases hg
      obtain ⟨a, vs, rfl, h1, h2⟩ := bLst hx
      rw [bInt hy]
      simp only [Bool.and_eq_true] at hl
      refine .inr ⟨a, k, vs, rfl, rfl, h1, (b62_63 hl.1).1, (b62_63 hl.1).2, ?_, out_nw R (h2.rep _) q⟩
      rw [h2.len]
      exact line_le hl.2
    · cases hg
  · cases hg
def fdivD : Dat → Dat → Option RV
  | .int i, .int j => if decide (j ≠ 0) && decide (j.natAbs < 1073741824) then some (.im (.int (i.fdiv j))) else none
  | _, _ => none
theorem fdivD_ok {K : Fg} : OpSnd K (rI CDivN fun i j => .int (i.fdiv j)) fdivD := by
  intro G F ps σ H x y d e out Q R hx hy hg q
  unfold fdivD at hg
  split at hg
  · split at hg
    · rename_i hl
      cases hg
      rw [bInt hx, bInt hy]
      simp only [Bool.and_eq_true, decide_eq_true_eq] at hl
      exact ⟨_, _, rfl, rfl, hl, out_im R (by unfold Rel; rfl) q⟩
    · cases hg
  · cases hg
def modD : Dat → Dat → Option RV
  | .int i, .int j => if decide (j ≠ 0) then some (.im (.int (i.fmod j))) else none
  | _, _ => none
theorem modD_ok {K : Fg} : OpSnd K (rI (fun _ j => j ≠ 0) fun i j => .int (i.fmod j)) modD := by
  intro G F ps σ H x y d e out Q R hx hy hg q
  unfold modD at hg
  split at hg
  · split at hg
    · rename_i hl
      cases hg
      rw [bInt hx, bInt hy]
      simp only [decide_eq_true_eq] at hl
      exact ⟨_, _, rfl, rfl, hl, out_im R (by unfold Rel; rfl) q⟩
    · cases hg
  · cases hg
def powD : Dat → Dat → Option RV
  | .int i, .int j => if decide (0 ≤ j) && decide (j ≤ 1000000) && decide (i.natAbs < 2 ^ 64) then some (.im (.int (i ^ j.toNat))) else none
  | _, _ => none
theorem powD_ok {K : Fg} : OpSnd K (rI CPow fun i j => .int (i ^ j.toNat)) powD := by
  intro G F ps σ H x y d e out Q R hx hy hg q
  unfold powD at hg
  split at hg
  · split at hg
    · rename_i hl
      cases hg
      rw [bInt hx, bInt hy]
      simp only [Bool.and_eq_true, decide_eq_true_eq] at hl
      exact ⟨_, _, rfl, rfl, ⟨hl.1.1, hl.1.2, hl.2⟩, out_im R (by unfold Rel; rfl) q⟩
    · cases hg
  · cases hg
def negD : Dat → Option RV
  | .int i => some (.im (.int (-i)))
  | _ => none
theorem negD_ok {K : Fg} : UnSnd K (rU fun i => .int (-i)) negD := by
  intro G F ps σ H x d out Q R hx hg q
  unfold negD at hg
  split at hg
  · cases hg
    rw [bInt hx]
    exact ⟨_, rfl, out_im R (by unfold Rel; rfl) q⟩
  · cases hg

/-! ### comparisons -/
mutual
theorem dp_of {K : Fg} {H : Hp} {T : Addr} : ∀ (d : Dat) (v : V), d.canLay0 = true → Rel K H T d v → Dp K H v d
  | .none, _, _, h => by unfold Rel at h; subst h; exact .non
  | .bool b, _, _, h => by unfold Rel at h; subst h; exact .bl b
  | .int b, _, _, h => by unfold Rel at h; subst h; exact .int b
  | .str b, _, _, h => by unfold Rel at h; subst h; exact .str b
  | .list ds, _, c, h => by
    unfold Rel at h
    obtain ⟨a, xs, rfl, h1, h2⟩ := h
    exact .lst (SqL.of h1) (dps_of ds xs (by simpa [PyData.canLay0] using c) h2)
  | .tuple ds, _, c, h => by
    unfold Rel at h
    obtain ⟨a, xs, rfl, h1, h2⟩ := h
    exact .tup h1.sqT (dps_of ds xs (by simpa [PyData.canLay0] using c) h2)
  | .dict _, _, c, _ => by simp [PyData.canLay0] at c
theorem dps_of {K : Fg} {H : Hp} {T : Addr} : ∀ (ds : List Dat) (vs : List V), PyData.canLayAll0 ds = true → RelL K H T ds vs → DpAll K H vs ds
  | [], _, _, h => by unfold RelL at h; subst h; exact .nil
  | d :: ds, _, c, h => by
    unfold RelL at h
    obtain ⟨y, ys, rfl, h1, h2⟩ := h
    have c' : d.canLay0 = true ∧ PyData.canLayAll0 ds = true := by simpa [PyData.canLayAll0] using c
    exact .cons (dp_of d y c'.1 h1) (dps_of ds ys c'.2 h2)
end
theorem BRel.dp {K : Fg} {F H : Hp} {T : Addr} {d : Dat} {v : V} (s : Same F H) (c : SeqAt.shaped d = true) (h : BRel K F H T d v) : Dp K H v d := dp_of d v (SeqAt.canLay_of_shaped c) (h.rel s)

def eqD (d e : Dat) : Option RV := if SeqAt.shaped d && SeqAt.shaped e then some (.im (.bool (PyData.eqv d e))) else none
def neD (d e : Dat) : Option RV := if SeqAt.shaped d && SeqAt.shaped e then some (.im (.bool (!PyData.eqv d e))) else none
theorem eqD_ok {K : Fg} : OpSnd K (rEqD K) eqD := by
  intro G F ps σ H x y d e out Q R hx hy hg q
  unfold eqD at hg
  split at hg
  · rename_i hl
    cases hg
    simp only [Bool.and_eq_true] at hl
    exact ⟨d, e, hx.dp R.fh hl.1, hy.dp R.fh hl.2, hl.1, hl.2, out_im R (by unfold Rel; rfl) q⟩
  · cases hg
theorem neD_ok {K : Fg} : OpSnd K (rNeD K) neD := by
  intro G F ps σ H x y d e out Q R hx hy hg q
  unfold neD at hg
  split at hg
  · rename_i hl
    cases hg
    simp only [Bool.and_eq_true] at hl
    exact ⟨d, e, hx.dp R.fh hl.1, hy.dp R.fh hl.2, hl.1, hl.2, out_im R (by unfold Rel; rfl) q⟩
  · cases hg
def cmpI (p : Int → Int → Bool) : Dat → Dat → Option RV
  | .int i, .int j => some (.im (.bool (p i j)))
  | _, _ => none
theorem cmpI_ok {K : Fg} {p : Int → Int → Bool} : OpSnd K (rI0 fun i j => .bl (p i j)) (cmpI p) := by
  intro G F ps σ H x y d e out Q R hx hy hg q
  unfold cmpI at hg
  split at hg
  · cases hg
    rw [bInt hx, bInt hy]
    exact ⟨_, _, rfl, rfl, out_im R (by unfold Rel; rfl) q⟩
  · cases hg
/-- all ints -/
def ints? : List Dat → Option (List Int)
  | [] => some []
  | .int i :: ds => (ints? ds).map (i :: ·)
  | _ :: _ => none
theorem ints_rel {K : Fg} {F : Hp} {T : Addr} : ∀ {ds : List Dat} {ns : List Int} {vs : List V}, ints? ds = some ns → RelL K F T ds vs → vs = ns.map V.int
  | [], ns, vs, h, r => by
    cases h
    unfold RelL at r
    exact r
  | .int i :: ds, ns, vs, h, r => by
    unfold ints? at h
    obtain ⟨ms, e1, rfl⟩ := Option.map_eq_some_iff.mp h
    unfold RelL at r
    obtain ⟨y, ys, rfl, r1, r2⟩ := r
    rw [rInt.mp r1, ints_rel e1 r2]
    rfl
  | .none :: ds, ns, vs, h, r => by cases h
  | .bool _ :: ds, ns, vs, h, r => by cases h
  | .str _ :: ds, ns, vs, h, r => by cases h
  | .list _ :: ds, ns, vs, h, r => by cases h
  | .tuple _ :: ds, ns, vs, h, r => by cases h
  | .dict _ :: ds, ns, vs, h, r => by cases h
theorem ints_relL {K : Fg} {F : Hp} {T : Addr} : ∀ (ns : List Int), RelL K F T (ns.map PyData.int) (ns.map V.int)
  | [] => .nil
  | n :: ns => .cons (by unfold Rel; rfl) (ints_relL ns)
theorem ints_of : ∀ (ns : List Int), ints? (ns.map PyData.int) = some ns
  | [] => rfl
  | n :: ns => by
    show (ints? (ns.map PyData.int)).map (n :: ·) = some (n :: ns)
    rw [ints_of ns]
    rfl
/-- ints, or tuples of ints -/
def ltD : Dat → Dat → Option RV
  | .int i, .int j => some (.im (.bool (decide (i < j))))
  | .tuple xs, .tuple ys => (ints? xs).bind fun ns => (ints? ys).bind fun ms => some (.im (.bool (HT.lexLt ns ms)))
  | _, _ => none
def rLtD (K : Fg) : R2 := R2or (rI0 fun i j => .bl (decide (i < j))) (rLtT K)
theorem op_ltD {X : Cx} (hu : X.A.units < cLine) : OpR X (compareOp .Lt) (rLtD X.K) := op_lt.or (op_ltT hu)
theorem ltD_ok {K : Fg} : OpSnd K (rLtD K) ltD := by
  intro G F ps σ H x y d e out Q R hx hy hg q
  unfold ltD at hg
  split at hg
  · cases hg
    rw [bInt hx, bInt hy]
    exact .inl ⟨_, _, rfl, rfl, out_im R (by unfold Rel; rfl) q⟩
  · obtain ⟨ns, e1, hg⟩ := Option.bind_eq_some_iff.mp hg
    obtain ⟨ms, e2, hg⟩ := Option.bind_eq_some_iff.mp hg
    cases hg
    obtain ⟨a, vs, rfl, h1, h2⟩ := bTup R.fh hx
    obtain ⟨b, ws, rfl, h3, h4⟩ := bTup R.fh hy
    rw [ints_rel e1 h2] at h1
    rw [ints_rel e2 h4] at h3
    exact .inr ⟨a, b, ns, ms, rfl, rfl, h1, h3, out_im R (by unfold Rel; rfl) q⟩
  · cases hg
def isN : Dat → Bool
  | .none => true
  | _ => false
def isND (d e : Dat) : Option RV := match e with
  | .none => some (.im (.bool (isN d)))
  | _ => none
def notND (d e : Dat) : Option RV := match e with
  | .none => some (.im (.bool (!isN d)))
  | _ => none
theorem non_iff {K : Fg} {F H : Hp} {T : Addr} : ∀ {d : Dat} {v : V}, BRel K F H T d v → decide (v = V.non) = isN d
  | .none, v, h => by rw [bNon h]; rfl
  | .bool b, v, h => by rw [bBl h]; rfl
  | .int b, v, h => by rw [bInt h]; rfl
  | .str b, v, h => by rw [bStr h]; rfl
  | .list b, v, h => by
    obtain ⟨a, xs, rfl, _⟩ := bLst h
    rfl
  | .tuple b, v, h => by
    obtain ⟨a, xs, rfl, _⟩ := rTupE (K := K) (F := F) (T := T) h
    rfl
  | .dict [], v, h => by
    have h : Rel K F T (.dict []) v := h
    unfold Rel at h
    subst h
    rfl
  | .dict [(d, e)], v, h => by
    have h : Rel K F T (.dict [(d, e)]) v := h
    unfold Rel at h
    obtain ⟨a, x, y, rfl, _⟩ := h
    rfl
  | .dict (y :: (z, d) :: l), v, h => by
    have h : Rel K F T (.dict (y :: (z, d) :: l)) v := h
    cases d <;> unfold Rel at h <;> first
      | exact h.elim
      | (obtain ⟨a, xs, rfl, _⟩ := h
         rfl)
theorem isND_ok {K : Fg} : OpSnd K (fun x y H Q => y = .non ∧ Q (.bl (decide (x = .non))) H) isND := by
  intro G F ps σ H x y d e out Q R hx hy hg q
  unfold isND at hg
  split at hg
  · cases hg
    refine ⟨bNon hy, ?_⟩
    rw [non_iff hx]
    exact out_im R (by unfold Rel; rfl) q
  · cases hg
theorem notND_ok {K : Fg} : OpSnd K (fun x y H Q => y = .non ∧ Q (.bl (!decide (x = .non))) H) notND := by
  intro G F ps σ H x y d e out Q R hx hy hg q
  unfold notND at hg
  split at hg
  · cases hg
    refine ⟨bNon hy, ?_⟩
    rw [non_iff hx]
    exact out_im R (by unfold Rel; rfl) q
  · cases hg

/-! ### in, not in -/
def flatD : Dat → Bool
  | .none | .bool _ | .int _ | .str _ => true
  | _ => false
theorem flat_rel {K : Fg} {F : Hp} {T : Addr} {d : Dat} {v : V} (f : flatD d = true) (h : Rel K F T d v) : flatV v = true := by
  cases d <;> first
    | (unfold Rel at h; subst h; rfl)
    | cases f
theorem flat_eqV {K : Fg} {F : Hp} {T : Addr} {d e : Dat} {v w : V} (f : flatD d = true) (f' : flatD e = true) (h : Rel K F T d v) (h' : Rel K F T e w) : eqV v w = PyData.eqv d e := by
  cases d <;> first
    | (unfold Rel at h; subst h
       cases e <;> first
        | (unfold Rel at h'; subst h'; simp [eqV, PyData.eqv])
        | cases f')
    | cases f
theorem flats_rel {K : Fg} {F : Hp} {T : Addr} : ∀ {ds : List Dat} {vs : List V}, ds.all flatD = true → RelL K F T ds vs → vs.all flatV = true
  | [], _, _, h => by unfold RelL at h; subst h; rfl
  | d :: ds, _, f, h => by
    unfold RelL at h
    obtain ⟨y, ys, rfl, h1, h2⟩ := h
    simp only [List.all_cons, Bool.and_eq_true] at f ⊢
    exact ⟨flat_rel f.1 h1, flats_rel f.2 h2⟩
theorem flats_any {K : Fg} {F : Hp} {T : Addr} {e : Dat} {w : V} (f' : flatD e = true) (h' : Rel K F T e w) : ∀ {ds : List Dat} {vs : List V}, ds.all flatD = true → RelL K F T ds vs → inV w vs = ds.any fun z => PyData.eqv z e
  | [], _, _, h => by unfold RelL at h; subst h; rfl
  | d :: ds, _, f, h => by
    unfold RelL at h
    obtain ⟨y, ys, rfl, h1, h2⟩ := h
    simp only [List.all_cons, Bool.and_eq_true] at f
    show (eqV y w || inV w ys) = (PyData.eqv d e || ds.any fun z => PyData.eqv z e)
    rw [flat_eqV f.1 f' h1 h', flats_any f' h' f.2 h2]
def inR (neg : Bool) : Dat → Dat → Option RV
  | d, .list ds => if SeqAt.shaped d && SeqAt.shaped (.list ds) then some (.im (.bool (if neg then !ds.any fun z => PyData.eqv z d else ds.any fun z => PyData.eqv z d))) else none
  | d, .tuple ds => if flatD d && ds.all flatD then some (.im (.bool (if neg then !ds.any fun z => PyData.eqv z d else ds.any fun z => PyData.eqv z d))) else none
  | _, _ => none
def inD : Dat → Dat → Option RV := inR false
def ninD : Dat → Dat → Option RV := inR true
def rInA (K : Fg) : R2 := R2or (rInD K) (rIn K false)
def rNinA (K : Fg) : R2 := R2or (rNotInD K) (rIn K true)
theorem op_inA {X : Cx} (hu : X.A.units + 65 < cLine) : OpR X (compareOp .In) (rInA X.K) := (op_inD hu).or op_in_seq
theorem op_ninA {X : Cx} (hu : X.A.units + 65 < cLine) : OpR X (compareOp .NotIn) (rNinA X.K) := (op_notInD hu).or op_notIn_seq
theorem inD_ok {K : Fg} : OpSnd K (rInA K) inD := by
  intro G F ps σ H x y d e out Q R hx hy hg q
  unfold inD inR at hg
  split at hg
  · split at hg
    · rename_i ds hl
      cases hg
      simp only [Bool.and_eq_true] at hl
      exact .inl ⟨d, ds, hx.dp R.fh hl.1, hy.dp R.fh hl.2, hl.1, hl.2, out_im R (by unfold Rel; rfl) q⟩
    · cases hg
  · split at hg
    · rename_i ds hl
      cases hg
      simp only [Bool.and_eq_true] at hl
      obtain ⟨b, ws, rfl, h3, h4⟩ := bTup R.fh hy
      refine .inr ⟨b, ws, rfl, .inr h3, flat_rel hl.1 (hx.rel R.fh), flats_rel hl.2 h4, ?_⟩
      rw [if_neg Bool.false_ne_true, flats_any hl.1 (hx.rel R.fh) hl.2 (RelL.mono R.fh _ _ h4)]
      exact out_im R (by unfold Rel; rfl) q
    · cases hg
  · cases hg
theorem ninD_ok {K : Fg} : OpSnd K (rNinA K) ninD := by
  intro G F ps σ H x y d e out Q R hx hy hg q
  unfold ninD inR at hg
  split at hg
  · split at hg
    · rename_i ds hl
      cases hg
      simp only [Bool.and_eq_true] at hl
      exact .inl ⟨d, ds, hx.dp R.fh hl.1, hy.dp R.fh hl.2, hl.1, hl.2, out_im R (by unfold Rel; rfl) q⟩
    · cases hg
  · split at hg
    · rename_i ds hl
      cases hg
      simp only [Bool.and_eq_true] at hl
      obtain ⟨b, ws, rfl, h3, h4⟩ := bTup R.fh hy
      refine .inr ⟨b, ws, rfl, .inr h3, flat_rel hl.1 (hx.rel R.fh), flats_rel hl.2 h4, ?_⟩
      rw [if_pos rfl, flats_any hl.1 (hx.rel R.fh) hl.2 (RelL.mono R.fh _ _ h4)]
      exact out_im R (by unfold Rel; rfl) q
    · cases hg
  · cases hg

/-! ### subscripts, slices -/
def ixD : Dat → Dat → Option RV
  | .list ds, .int i => (atI ds i).bind fun d => some (.im d)
  | .tuple ds, .int i => (atI ds i).bind fun d => some (.im d)
  | .dict (_ :: (_, .list ds) :: _), .int i => (atI ds i).bind fun d => some (.im d)
  | _, _ => none
theorem atI_rel {K : Fg} {F : Hp} {T : Addr} {ds : List Dat} {vs : List V} {i : Int} {d : Dat} (r : RelL K F T ds vs) (h : atI ds i = some d) : ∃ v, atI vs i = some v ∧ Rel K F T d v := by
  unfold atI at h ⊢
  rw [r.len]
  obtain ⟨j, e, h⟩ := Option.bind_eq_some_iff.mp h
  obtain ⟨v, h1, h2⟩ := r.get h
  exact ⟨v, by rw [e]; exact h1, h2⟩
theorem ixD_ok {K : Fg} : OpSnd K (rIx K) ixD := by
  intro G F ps σ H x y d e out Q R hx hy hg q
  unfold ixD at hg
  split at hg
  · obtain ⟨z, e1, hg⟩ := Option.bind_eq_some_iff.mp hg
    cases hg
    obtain ⟨a, vs, rfl, h1, h2⟩ := bLst hx
    rw [bInt hy]
    obtain ⟨v, h3, h4⟩ := atI_rel h2 e1
    exact .inl ⟨a, vs, _, v, rfl, rfl, SqL.of h1, h3, out_im R h4 q⟩
  · obtain ⟨z, e1, hg⟩ := Option.bind_eq_some_iff.mp hg
    cases hg
    obtain ⟨a, vs, rfl, h1, h2⟩ := bTup R.fh hx
    rw [bInt hy]
    obtain ⟨v, h3, h4⟩ := atI_rel h2 e1
    exact .inr (.inl ⟨a, vs, _, v, rfl, rfl, h1, h3, out_im R h4 q⟩)
  · obtain ⟨z, e1, hg⟩ := Option.bind_eq_some_iff.mp hg
    cases hg
    obtain ⟨a, vs, rfl, h1, h2⟩ := bDic R.fh hx
    rw [bInt hy]
    obtain ⟨v, h3, h4⟩ := atI_rel h2 e1
    exact .inl ⟨a, vs, _, v, rfl, rfl, h1, h3, out_im R h4 q⟩
  · cases hg
def cutD (ds : List Dat) (lo hi : Option Int) : List Dat := (ds.drop (HT.sIx ds.length 0 lo)).take (HT.sIx ds.length ds.length hi - HT.sIx ds.length 0 lo)
theorem cut_rel {K : Fg} {F : Hp} {T : Addr} {ds : List Dat} {vs : List V} (lo hi : Option Int) (r : RelL K F T ds vs) : RelL K F T (cutD ds lo hi) (cutV vs lo hi) := by
  unfold cutD cutV
  rw [r.len]
  exact (r.drop _).take _
def slD (d : Dat) (lo hi : Option Int) : Option RV := match d with
  | .list ds => some (.nw (cutD ds lo hi))
  | .tuple ds => some (.im (.tuple (cutD ds lo hi)))
  | _ => none
/-- a part of a tuple; the whole of it is itself -/
def rSlTD (K : Fg) : V → Option Int → Option Int → Hp → VK → Prop := fun x lo hi H Q => ∃ (a : Addr) (xs : List V), x = .ref a ∧ SqT K H a xs ∧ (HT.sIx xs.length 0 lo = 0 ∧ HT.sIx xs.length xs.length hi = xs.length → Q (.ref a) H) ∧ (¬ (HT.sIx xs.length 0 lo = 0 ∧ HT.sIx xs.length xs.length hi = xs.length) → NewT H (cutV xs lo hi) Q)
theorem sl_tupD {X : Cx} : SlR X (rSlTD X.K) := by
  rintro pins s σ H x v vl vu lo hi sl Q I rx hs pl pu ⟨a, xs, rfl, hx, q1, q2⟩
  cases rx
  obtain ⟨us, r, ht, hz⟩ := I.tuple hx
  have len : us.toArray.size = xs.length := by rw [List.size_toArray, ← r.length]
  refine ⟨"tuple", _, PyProof.Rows.slot_tuple_getitem.lookup, ht.typeIs, ?_⟩
  rcases Classical.em (HT.sIx xs.length 0 lo = 0 ∧ HT.sIx xs.length xs.length hi = xs.length) with hw | hw
  · exact getItem_tuple_whole ht hs pl pu (by rw [len]; exact hw) ⟨V.ref a, H, I, rfl, q1 hw⟩
  · refine HT.getItem_tuple_cut ht hs pl pu (by rw [len]; exact hw) ?_ (by rw [len]; exact hz)
    rw [len]
    exact (q2 hw).put I ((r.drop _).take _) (Nat.le_trans (cutV_length xs lo hi) hz)
def rSlD (K : Fg) : V → Option Int → Option Int → Hp → VK → Prop := fun x lo hi H Q => rSlL K x lo hi H Q ∨ rSlTD K x lo hi H Q
theorem sl_D {X : Cx} : SlR X (rSlD X.K) := sl_list.or sl_tupD
theorem slD_ok {K : Fg} {G : Ctl} {F : Hp} {ps : PS} {σ : L2.St} {H : Hp} {x : V} {d : Dat} {lo hi : Option Int} {out : RV} {Q : VK} (R : Rep G K F ps σ H) (hx : BRel K F H G.T d x) (hg : slD d lo hi = some out)
    (q : ∀ v F' H', Post G K F ps σ H F' ps H' → RVok G K F' ps σ H H' out v → Q v H') : rSlD K x lo hi H Q := by
  unfold slD at hg
  split at hg
  · cases hg
    obtain ⟨a, vs, rfl, h1, h2⟩ := bLst hx
    exact .inl ⟨a, vs, rfl, SqL.of h1, out_nw R (cut_rel lo hi h2) q⟩
  · rename_i ds
    cases hg
    obtain ⟨a, vs, rfl, h1, h2⟩ := bTup R.fh hx
    refine .inr ⟨a, vs, rfl, h1, fun hw => ?_, fun _ => out_tp R (cut_rel lo hi h2) q⟩
    refine out_im R ?_ q
    have e : cutD ds lo hi = ds := by
      unfold cutD
      rw [h2.len] at hw
      rw [hw.1, hw.2]
      simp
    rw [e]
    exact hx
  · cases hg
structure SndO (K : Fg) (t : TO) (f : M (Option Int)) : Prop where
  go : ∀ (G : Ctl) (F : Hp) (ps : PS) (σ : L2.St) (H : Hp) (b : Option Int) (ps' : PS) (Q : Option Int → Hp → Prop), Rep G K F ps σ H → f ps = some (b, ps') →
    (∀ F' H', Post G K F ps σ H F' ps' H' → Q b H') → t σ H Q
structure DO (X : Cx) (e : Option Expr) (t : TO) (f : M (Option Int)) : Prop where
  pe : PO X e t
  sn : SndO X.K t f
def partM (fa : M RV) : M (Option Int) := fun ps => (fa ps).bind fun x => match x.1 with
  | .im (.int i) => some (some i, x.2)
  | _ => none
section
variable {X : Cx} {a b c e : Expr} {ta tb tc te : TE} {fa fb fc fe : M RV} {pos : Pos} {tl th : TO} {fl fh : M (Option Int)} {lo hi : Option Expr}
theorem do_none : DO X none tNoPart (M.ret none) := ⟨po_none, ⟨fun G F ps σ H b ps' Q R e q => by
  cases e
  exact q F H (.refl R)⟩⟩
theorem do_some (h : DE X e te fe) : DO X (some e) (tPart te) (partM fe) := ⟨po_some h.pe, ⟨fun G F ps σ H b ps' Q R e q => by
  unfold partM at e
  obtain ⟨⟨ra, ps1⟩, e1, e⟩ := Option.bind_eq_some_iff.mp e
  refine h.sn.go G F ps σ H ra ps1 _ R e1 fun x F1 H1 P1 r1 => ?_
  split at e
  · rename_i i hi
    cases e
    have hi : ra = .im (.int i) := hi
    subst hi
    have r1 : Rel X.K F1 G.T (.int i) x := r1
    exact ⟨i, rInt.mp r1, q F1 H1 P1⟩
  · cases e⟩⟩
def slM (fa : M RV) (fl fh : M (Option Int)) : M RV := fun ps =>
  (fa ps).bind fun x => (fl x.2).bind fun l => (fh l.2).bind fun h => (brw (settle x.1) h.2).bind fun d => (slD d l.1 h.1).bind fun r => some (r, h.2)
theorem de_slice {p2} (h : DE X e te fe) (hl : DO X lo tl fl) (hh : DO X hi th fh) : DE X (.Subscript e (.Slice lo hi none p2) pos) (tSl (rSlD X.K) te tl th) (slM fe fl fh) := by
  refine ⟨pe_slice sl_D h.pe hl.pe hh.pe, ⟨fun G F ps σ H out ps' Q R e q => ?_⟩⟩
  unfold slM at e
  obtain ⟨⟨ra, ps1⟩, e1, e⟩ := Option.bind_eq_some_iff.mp e
  obtain ⟨⟨l, ps2⟩, e2, e⟩ := Option.bind_eq_some_iff.mp e
  obtain ⟨⟨u, ps3⟩, e3, e⟩ := Option.bind_eq_some_iff.mp e
  obtain ⟨d, e4, e⟩ := Option.bind_eq_some_iff.mp e
  obtain ⟨out', e5, e⟩ := Option.bind_eq_some_iff.mp e
  cases e
  refine h.sn.go G F ps σ H ra ps1 _ R e1 fun x F1 H1 P1 r1 => ?_
  obtain ⟨F1', P1', r1'⟩ := settle_ok P1 r1
  refine hl.sn.go G F1' ps1 σ H1 l ps2 _ P1'.rep e2 fun F2 H2 P2 => ?_
  refine hh.sn.go G F2 ps2 σ H2 u ps3 _ P2.rep e3 fun F3 H3 P3 => ?_
  have P := (P1'.trans P2).trans P3
  exact slD_ok P3.rep (brw_ok P3.rep ((r1'.post P2).post P3) e4) e5 fun v F' H' P4 r4 => q v F' H' (P.trans P4) (r4.back P.dom)

/-! ### the rules of operations -/
theorem de_add (ha : DE X a ta fa) (hb : DE X b tb fb) : DE X (.BinOp a .Add b pos) (tOp (rAddD X.K) ta tb) (opM addD fa fb) := ⟨pe_op op_addD ha.pe hb.pe, snd_op addD_ok ha.sn hb.sn⟩
theorem de_sub (ha : DE X a ta fa) (hb : DE X b tb fb) : DE X (.BinOp a .Sub b pos) (tOp (rI0 fun i j => .int (i - j)) ta tb) (opM subD fa fb) := ⟨pe_op op_sub ha.pe hb.pe, snd_op subD_ok ha.sn hb.sn⟩
theorem de_mul (ha : DE X a ta fa) (hb : DE X b tb fb) : DE X (.BinOp a .Mult b pos) (tOp rMulD ta tb) (opM mulD fa fb) := ⟨pe_op op_mulD ha.pe hb.pe, snd_op mulD_ok ha.sn hb.sn⟩
theorem de_fdiv (ha : DE X a ta fa) (hb : DE X b tb fb) : DE X (.BinOp a .FloorDiv b pos) (tOp (rI CDivN fun i j => .int (i.fdiv j)) ta tb) (opM fdivD fa fb) := ⟨pe_op op_fdivN ha.pe hb.pe, snd_op fdivD_ok ha.sn hb.sn⟩
theorem de_mod (ha : DE X a ta fa) (hb : DE X b tb fb) : DE X (.BinOp a .Mod b pos) (tOp (rI (fun _ j => j ≠ 0) fun i j => .int (i.fmod j)) ta tb) (opM modD fa fb) := ⟨pe_op op_modN ha.pe hb.pe, snd_op modD_ok ha.sn hb.sn⟩
theorem de_pow (ha : DE X a ta fa) (hb : DE X b tb fb) : DE X (.BinOp a .Pow b pos) (tOp (rI CPow fun i j => .int (i ^ j.toNat)) ta tb) (opM powD fa fb) := ⟨pe_op op_pow ha.pe hb.pe, snd_op powD_ok ha.sn hb.sn⟩
theorem de_neg (ha : DE X a ta fa) : DE X (.UnaryOp .USub a pos) (tUn (rU fun i => .int (-i)) ta) (unM negD fa) := ⟨pe_un un_neg ha.pe, snd_un negD_ok ha.sn⟩
theorem de_ix (ha : DE X a ta fa) (hb : DE X b tb fb) (hs : PlainIx b) : DE X (.Subscript a b pos) (tOp (rIx X.K) ta tb) (opM ixD fa fb) := ⟨pe_ix ix_seq ha.pe hb.pe hs, snd_op ixD_ok ha.sn hb.sn⟩
theorem de_eq (hu : X.A.units + 65 < cLine) (ha : DE X a ta fa) (hb : DE X b tb fb) : DE X (.Compare a [.Eq] [b] pos) (tOp (rEqD X.K) ta tb) (opM eqD fa fb) := ⟨pe_cmpR (op_eqD (by omega)) ha.pe hb.pe (nomark _), snd_op eqD_ok ha.sn hb.sn⟩
theorem de_ne (hu : X.A.units + 65 < cLine) (ha : DE X a ta fa) (hb : DE X b tb fb) : DE X (.Compare a [.NotEq] [b] pos) (tOp (rNeD X.K) ta tb) (opM neD fa fb) := ⟨pe_cmpR (op_neD (by omega)) ha.pe hb.pe (nomark _), snd_op neD_ok ha.sn hb.sn⟩
theorem de_lt (hu : X.A.units + 65 < cLine) (ha : DE X a ta fa) (hb : DE X b tb fb) : DE X (.Compare a [.Lt] [b] pos) (tOp (rLtD X.K) ta tb) (opM ltD fa fb) := ⟨pe_cmpR (op_ltD (by omega)) ha.pe hb.pe (nomark _), snd_op ltD_ok ha.sn hb.sn⟩
abbrev leD := cmpI fun i j => decide (i ≤ j)
abbrev gtD := cmpI fun i j => decide (j < i)
abbrev geD := cmpI fun i j => decide (j ≤ i)
abbrev ltI := cmpI fun i j => decide (i < j)
theorem de_le (ha : DE X a ta fa) (hb : DE X b tb fb) : DE X (.Compare a [.LtE] [b] pos) (tOp (rI0 fun i j => .bl (decide (i ≤ j))) ta tb) (opM leD fa fb) := ⟨pe_cmpR op_le ha.pe hb.pe (nomark _), snd_op cmpI_ok ha.sn hb.sn⟩
theorem de_gt (ha : DE X a ta fa) (hb : DE X b tb fb) : DE X (.Compare a [.Gt] [b] pos) (tOp (rI0 fun i j => .bl (decide (j < i))) ta tb) (opM gtD fa fb) := ⟨pe_cmpR op_gt ha.pe hb.pe (nomark _), snd_op cmpI_ok ha.sn hb.sn⟩
theorem de_ge (ha : DE X a ta fa) (hb : DE X b tb fb) : DE X (.Compare a [.GtE] [b] pos) (tOp (rI0 fun i j => .bl (decide (j ≤ i))) ta tb) (opM geD fa fb) := ⟨pe_cmpR op_ge ha.pe hb.pe (nomark _), snd_op cmpI_ok ha.sn hb.sn⟩
theorem de_isN (ha : DE X a ta fa) (hb : DE X b tb fb) : DE X (.Compare a [.Is] [b] pos) (tOp (fun x y H Q => y = .non ∧ Q (.bl (decide (x = .non))) H) ta tb) (opM isND fa fb) := ⟨pe_cmpR op_isN ha.pe hb.pe (nomark _), snd_op isND_ok ha.sn hb.sn⟩
theorem de_notN (ha : DE X a ta fa) (hb : DE X b tb fb) : DE X (.Compare a [.IsNot] [b] pos) (tOp (fun x y H Q => y = .non ∧ Q (.bl (!decide (x = .non))) H) ta tb) (opM notND fa fb) := ⟨pe_cmpR op_notN ha.pe hb.pe (nomark _), snd_op notND_ok ha.sn hb.sn⟩
theorem de_in (hu : X.A.units + 65 < cLine) (ha : DE X a ta fa) (hb : DE X b tb fb) (hm : behindInMarks .In b = false) : DE X (.Compare a [.In] [b] pos) (tOp (rInA X.K) ta tb) (opM inD fa fb) := ⟨pe_cmpR (op_inA hu) ha.pe hb.pe hm, snd_op inD_ok ha.sn hb.sn⟩
theorem de_nin (hu : X.A.units + 65 < cLine) (ha : DE X a ta fa) (hb : DE X b tb fb) (hm : behindInMarks .NotIn b = false) : DE X (.Compare a [.NotIn] [b] pos) (tOp (rNinA X.K) ta tb) (opM ninD fa fb) := ⟨pe_cmpR (op_ninA hu) ha.pe hb.pe hm, snd_op ninD_ok ha.sn hb.sn⟩
end
end MP

namespace MP
open PySem PySem.Spec PyProof.Rows L2
variable [Tbs]

theorem u64 {n c : Nat} (h : n + 65 < c) : n + 64 < c := by omega
theorem u0 {n c : Nat} (h : n + 65 < c) : n < c := by omega

/-! ### tests -/
def asB : RV → Option Bool
  | .im (.bool b) => some b
  | _ => none
theorem asB_ok {r : RV} {b : Bool} (h : asB r = some b) : r = .im (.bool b) := by
  unfold asB at h
  split at h
  · cases h; rfl
  · cases h
def tstM (f : M RV) : M Bool := fun ps => (f ps).bind fun x => (asB x.1).bind fun b => some (b, x.2)
theorem snd_tst {K : Fg} {t : TE} {f : M RV} (h : SndE K t f) : SndT K (tTest t) (tstM f) := by
  refine ⟨fun G F ps σ H b ps' Q R e q => ?_⟩
  unfold tstM at e
  obtain ⟨⟨r, ps1⟩, e1, e⟩ := Option.bind_eq_some_iff.mp e
  obtain ⟨b', e2, e⟩ := Option.bind_eq_some_iff.mp e
  cases e
  refine h.go G F ps σ H r ps1 _ R e1 fun x F1 H1 P1 r1 => ?_
  have e2 := asB_ok e2
  subst e2
  have r1 : Rel K F1 G.T (.bool b) x := r1
  exact ⟨b, rBl.mp r1, q F1 H1 P1⟩
def truD : Dat → Option Bool
  | .none => some false
  | .bool b => some b
  | .int i => some (i != 0)
  | .str y => if line y.length then some ((y.length : Int) != 0) else none
  | .list ds => some (!ds.isEmpty)
  | .tuple ds => some (!ds.isEmpty)
  | .dict (_ :: (_, .list ds) :: _) => some (!ds.isEmpty)
  | .dict _ => none
theorem emp_rel {K : Fg} {F : Hp} {T : Addr} {ds : List Dat} {vs : List V} (r : RelL K F T ds vs) : ds.isEmpty = vs.isEmpty := by
  cases ds with
  | nil => unfold RelL at r; subst r; rfl
  | cons d ds =>
    unfold RelL at r
    obtain ⟨y, ys, rfl, _⟩ := r
    rfl
theorem truD_ok {K : Fg} {F H : Hp} {T : Addr} {d : Dat} {v : V} {b : Bool} (s : Same F H) (h : BRel K F H T d v) (e : truD d = some b) : TruV K v H b := by
  cases d with
  | none => rw [bNon h]; cases e; rfl
  | bool c => rw [bBl h]; cases e; rfl
  | int c => rw [bInt h]; cases e; rfl
  | str c =>
    rw [bStr h]
    unfold truD at e
    simp only at e
    split at e
    · rename_i hl
      cases e
      exact ⟨line_le hl, rfl⟩
    · cases e
  | list c =>
    obtain ⟨a, xs, rfl, h1, h2⟩ := bLst h
    cases e
    exact .inl ⟨xs, SqL.of h1, by rw [emp_rel h2]⟩
  | tuple c =>
    obtain ⟨a, xs, rfl, h1, h2⟩ := bTup s h
    cases e
    exact .inr (.inl ⟨xs, h1, by rw [emp_rel h2]⟩)
  | dict c =>
    unfold truD at e
    split at e <;> first
      | cases e; done
      | skip
    all_goals (rename_i hc; first | cases hc; done | skip)
    rename_i ds l
    rw [hc] at h
    obtain ⟨a, xs, rfl, h1, h2⟩ := bDic s h
    cases e
    exact .inl ⟨xs, h1, by rw [emp_rel h2]⟩
def truM (f : M RV) : M Bool := fun ps => (f ps).bind fun x => (brw x.1 x.2).bind fun d => (truD d).bind fun b => some (b, x.2)
section
variable {X : Cx} {a b c e : Expr} {ta tb tc te : TE} {fa fb fc fe : M RV} {pos : Pos} {ca cb : TT} {ga gb : M Bool} {rest : List Expr}
theorem dt_truth (h : DE X a ta fa) (he : ∀ whole, isTrue a X.env whole = (do let v ← whole; standAt a.pos; holding [v] (truthy v))) :
    DT X a (fun σ H Q => ta σ H fun x H' => ∃ k, TruV X.K x H' k ∧ Q k H') (truM fa) := by
  refine ⟨pt_truth h.pe he, ⟨fun G F ps σ H b ps' Q R e q => ?_⟩⟩
  unfold truM at e
  obtain ⟨⟨r, ps1⟩, e1, e⟩ := Option.bind_eq_some_iff.mp e
  obtain ⟨d, e2, e⟩ := Option.bind_eq_some_iff.mp e
  obtain ⟨b', e3, e⟩ := Option.bind_eq_some_iff.mp e
  cases e
  refine h.sn.go G F ps σ H r ps1 _ R e1 fun x F1 H1 P1 r1 => ?_
  exact ⟨b, truD_ok P1.rep.fh (brw_ok P1.rep r1 e2) e3, q F1 H1 P1⟩
theorem dt_cmp {op : CmpOp} {r : R2} {g : Dat → Dat → Option RV} (ho : OpR X (compareOp op) r) (hg : OpSnd X.K r g) (ha : DE X a ta fa) (hb : DE X b tb fb) (hm : behindInMarks op b = false) :
    DT X (.Compare a [op] [b] pos) (tTest (tOp r ta tb)) (tstM (opM g fa fb)) := ⟨pt_cmpR ho ha.pe hb.pe hm, snd_tst (snd_op hg ha.sn hb.sn)⟩
theorem de_cmp {op : CmpOp} {r : R2} {g : Dat → Dat → Option RV} (ho : OpR X (compareOp op) r) (hg : OpSnd X.K r g) (ha : DE X a ta fa) (hb : DE X b tb fb) (hm : behindInMarks op b = false) :
    DE X (.Compare a [op] [b] pos) (tOp r ta tb) (opM g fa fb) := ⟨pe_cmpR ho ha.pe hb.pe hm, snd_op hg ha.sn hb.sn⟩
def andM (f g : M Bool) : M Bool := fun ps => (f ps).bind fun x => if x.1 then g x.2 else some (false, x.2)
def orM (f g : M Bool) : M Bool := fun ps => (f ps).bind fun x => if x.1 then some (true, x.2) else g x.2
def notM (f : M Bool) : M Bool := fun ps => (f ps).bind fun x => some (!x.1, x.2)
theorem snd_and {K : Fg} (h1 : SndT K ca ga) (h2 : SndT K cb gb) : SndT K (tAnd ca cb) (andM ga gb) := by
  refine ⟨fun G F ps σ H b ps' Q R e q => ?_⟩
  unfold andM at e
  obtain ⟨⟨r, ps1⟩, e1, e⟩ := Option.bind_eq_some_iff.mp e
  refine h1.go G F ps σ H r ps1 _ R e1 fun F1 H1 P1 => ?_
  cases r with
  | true =>
    rw [if_pos rfl] at e
    refine iteT (h2.go G F1 ps1 σ H1 b ps' _ P1.rep e fun F2 H2 P2 => q F2 H2 (P1.trans P2))
  | false =>
    rw [if_neg Bool.false_ne_true] at e
    cases e
    exact iteF (q F1 H1 P1)
theorem snd_or {K : Fg} (h1 : SndT K ca ga) (h2 : SndT K cb gb) : SndT K (tOr ca cb) (orM ga gb) := by
  refine ⟨fun G F ps σ H b ps' Q R e q => ?_⟩
  unfold orM at e
  obtain ⟨⟨r, ps1⟩, e1, e⟩ := Option.bind_eq_some_iff.mp e
  refine h1.go G F ps σ H r ps1 _ R e1 fun F1 H1 P1 => ?_
  cases r with
  | true =>
    rw [if_pos rfl] at e
    cases e
    exact iteT (q F1 H1 P1)
  | false =>
    rw [if_neg Bool.false_ne_true] at e
    refine iteF (h2.go G F1 ps1 σ H1 b ps' _ P1.rep e fun F2 H2 P2 => q F2 H2 (P1.trans P2))
theorem snd_not {K : Fg} (h1 : SndT K ca ga) : SndT K (tNot ca) (notM ga) := by
  refine ⟨fun G F ps σ H b ps' Q R e q => ?_⟩
  unfold notM at e
  obtain ⟨⟨r, ps1⟩, e1, e⟩ := Option.bind_eq_some_iff.mp e
  cases e
  exact h1.go G F ps σ H r ps1 _ R e1 fun F1 H1 P1 => q F1 H1 P1
theorem dw_and1 (h : DT X a ca ga) : DW X (.BoolOp .And [a] pos) ca ga := ⟨pw_and1 h.pe, h.sn⟩
theorem dw_or1 (h : DT X a ca ga) : DW X (.BoolOp .Or [a] pos) ca ga := ⟨pw_or1 h.pe, h.sn⟩
theorem dw_and (h : DT X a ca ga) (h2 : DW X (.BoolOp .And (b :: rest) pos) cb gb) : DW X (.BoolOp .And (a :: b :: rest) pos) (tAnd ca cb) (andM ga gb) := ⟨pw_and h.pe h2.pe, snd_and h.sn h2.sn⟩
theorem dw_or (h : DT X a ca ga) (h2 : DW X (.BoolOp .Or (b :: rest) pos) cb gb) : DW X (.BoolOp .Or (a :: b :: rest) pos) (tOr ca cb) (orM ga gb) := ⟨pw_or h.pe h2.pe, snd_or h.sn h2.sn⟩
theorem DW.dt (h : DW X e ca ga) : DT X e ca ga := ⟨h.pe.pt, h.sn⟩
theorem dt_not (h : DT X a ca ga) : DT X (.UnaryOp .Not a pos) (tNot ca) (notM ga) := ⟨pt_not h.pe, snd_not h.sn⟩
/-! as values -/
def andVM (f g : M RV) : M RV := fun ps => (f ps).bind fun x => (asB x.1).bind fun b => if b then g x.2 else some (.im (.bool false), x.2)
def orVM (f g : M RV) : M RV := fun ps => (f ps).bind fun x => (asB x.1).bind fun b => if b then some (.im (.bool true), x.2) else g x.2
def notVM (f : M RV) : M RV := fun ps => (f ps).bind fun x => (asB x.1).bind fun b => some (.im (.bool (!b)), x.2)
theorem de_one {op} (h : DE X a ta fa) : DE X (.BoolOp op [a] pos) ta fa := ⟨pe_one h.pe, h.sn⟩
theorem de_and (ha : DE X a ta fa) (hb : DE X (.BoolOp .And (b :: rest) pos) tb fb) : DE X (.BoolOp .And (a :: b :: rest) pos) (tAndV ta tb) (andVM fa fb) := by
  refine ⟨pe_and ha.pe hb.pe, ⟨fun G F ps σ H r ps' Q R e q => ?_⟩⟩
  unfold andVM at e
  obtain ⟨⟨r1, ps1⟩, e1, e⟩ := Option.bind_eq_some_iff.mp e
  obtain ⟨k, e2, e⟩ := Option.bind_eq_some_iff.mp e
  have e2 := asB_ok e2
  refine ha.sn.go G F ps σ H r1 ps1 _ R e1 fun x F1 H1 P1 y => ?_
  subst e2
  have y : Rel X.K F1 G.T (.bool k) x := y
  refine ⟨k, rBl.mp y, ?_⟩
  cases k with
  | true =>
    rw [if_pos rfl] at e
    exact iteT (hb.sn.go G F1 ps1 σ H1 r ps' _ P1.rep e fun v F2 H2 P2 z => q v F2 H2 (P1.trans P2) (z.back P1.dom))
  | false =>
    rw [if_neg Bool.false_ne_true] at e
    cases e
    exact iteF (q _ F1 H1 P1 (show Rel _ _ _ _ _ by unfold Rel; rfl))
theorem de_or (ha : DE X a ta fa) (hb : DE X (.BoolOp .Or (b :: rest) pos) tb fb) : DE X (.BoolOp .Or (a :: b :: rest) pos) (tOrV ta tb) (orVM fa fb) := by
  refine ⟨pe_or ha.pe hb.pe, ⟨fun G F ps σ H r ps' Q R e q => ?_⟩⟩
  unfold orVM at e
  obtain ⟨⟨r1, ps1⟩, e1, e⟩ := Option.bind_eq_some_iff.mp e
  obtain ⟨k, e2, e⟩ := Option.bind_eq_some_iff.mp e
  have e2 := asB_ok e2
  refine ha.sn.go G F ps σ H r1 ps1 _ R e1 fun x F1 H1 P1 y => ?_
  subst e2
  have y : Rel X.K F1 G.T (.bool k) x := y
  refine ⟨k, rBl.mp y, ?_⟩
  cases k with
  | true =>
    rw [if_pos rfl] at e
    cases e
    exact iteT (q _ F1 H1 P1 (show Rel _ _ _ _ _ by unfold Rel; rfl))
  | false =>
    rw [if_neg Bool.false_ne_true] at e
    exact iteF (hb.sn.go G F1 ps1 σ H1 r ps' _ P1.rep e fun v F2 H2 P2 z => q v F2 H2 (P1.trans P2) (z.back P1.dom))
theorem de_not (ha : DE X a ta fa) : DE X (.UnaryOp .Not a pos) (tNotV ta) (notVM fa) := by
  refine ⟨pe_not ha.pe, ⟨fun G F ps σ H r ps' Q R e q => ?_⟩⟩
  unfold notVM at e
  obtain ⟨⟨r1, ps1⟩, e1, e⟩ := Option.bind_eq_some_iff.mp e
  obtain ⟨k, e2, e⟩ := Option.bind_eq_some_iff.mp e
  have e2 := asB_ok e2
  cases e
  refine ha.sn.go G F ps σ H r1 ps1 _ R e1 fun x F1 H1 P1 y => ?_
  subst e2
  have y : Rel X.K F1 G.T (.bool k) x := y
  exact ⟨k, rBl.mp y, q _ F1 H1 P1 (show Rel _ _ _ _ _ by unfold Rel; rfl)⟩
def ifM (c : M Bool) (f g : M RV) : M RV := fun ps => (c ps).bind fun x => if x.1 then f x.2 else g x.2
theorem de_if (hc : DT X c ca ga) (ha : DE X a ta fa) (hb : DE X b tb fb) : DE X (.IfExp c a b pos) (tIf ca ta tb) (ifM ga fa fb) := by
  refine ⟨pe_ifExp hc.pe ha.pe hb.pe, ⟨fun G F ps σ H r ps' Q R e q => ?_⟩⟩
  unfold ifM at e
  obtain ⟨⟨k, ps1⟩, e1, e⟩ := Option.bind_eq_some_iff.mp e
  refine hc.sn.go G F ps σ H k ps1 _ R e1 fun F1 H1 P1 => ?_
  cases k with
  | true =>
    rw [if_pos rfl] at e
    exact iteT (ha.sn.go G F1 ps1 σ H1 r ps' _ P1.rep e fun v F2 H2 P2 z => q v F2 H2 (P1.trans P2) (z.back P1.dom))
  | false =>
    rw [if_neg Bool.false_ne_true] at e
    exact iteF (hb.sn.go G F1 ps1 σ H1 r ps' _ P1.rep e fun v F2 H2 P2 z => q v F2 H2 (P1.trans P2) (z.back P1.dom))
/-! chains: the middle one is kept -/
def chainM (g g' : Dat → Dat → Option RV) (fa fb fc : M RV) : M RV := fun ps =>
  (fa ps).bind fun x => (fb x.2).bind fun y => (brw (settle x.1) y.2).bind fun d => (brw (settle y.1) y.2).bind fun e => (g d e).bind fun r => (asB r).bind fun k =>
    if k then (fc y.2).bind fun z => (brw (settle y.1) z.2).bind fun e2 => (brw z.1 z.2).bind fun e3 => (g' e2 e3).bind fun r' => some (r', z.2) else some (.im (.bool false), y.2)
theorem snd_chain {K : Fg} {r r' : R2} {g g' : Dat → Dat → Option RV} (hg : OpSnd K r g) (hg' : OpSnd K r' g') (ha : SndE K ta fa) (hb : SndE K tb fb) (hc : SndE K tc fc) : SndE K (tChain r r' ta tb tc) (chainM g g' fa fb fc) := by
  refine ⟨fun G F ps σ H out ps' Q R e q => ?_⟩
  unfold chainM at e
  obtain ⟨⟨ra, ps1⟩, e1, e⟩ := Option.bind_eq_some_iff.mp e
  obtain ⟨⟨rb, ps2⟩, e2, e⟩ := Option.bind_eq_some_iff.mp e
  obtain ⟨d, e3, e⟩ := Option.bind_eq_some_iff.mp e
  obtain ⟨d', e4, e⟩ := Option.bind_eq_some_iff.mp e
  obtain ⟨o1, e5, e⟩ := Option.bind_eq_some_iff.mp e
  obtain ⟨k, e6, eF⟩ := Option.bind_eq_some_iff.mp e
  have e6 := asB_ok e6
  subst e6
  refine ha.go G F ps σ H ra ps1 _ R e1 fun x F1 H1 P1 r1 => ?_
  obtain ⟨F1', P1', r1'⟩ := settle_ok P1 r1
  refine hb.go G F1' ps1 σ H1 rb ps2 _ P1'.rep e2 fun y F2 H2 P2 r2 => ?_
  obtain ⟨F2', P2', r2'⟩ := settle_ok P2 r2
  refine hg G F2' ps2 σ H2 x y d d' _ _ P2'.rep (brw_ok P2'.rep (r1'.post P2') e3) (brw_ok P2'.rep r2' e4) e5 fun v F3 H3 P3 r3 => ?_
  have r3 : Rel K F3 G.T (.bool k) v := r3
  refine ⟨k, rBl.mp r3, ?_⟩
  have P := (P1'.trans P2').trans P3
  cases k with
  | true =>
    rw [if_pos rfl] at eF
    obtain ⟨⟨rc, ps4⟩, e7, e⟩ := Option.bind_eq_some_iff.mp eF
    obtain ⟨d2, e8, e⟩ := Option.bind_eq_some_iff.mp e
    obtain ⟨d3, e9, e⟩ := Option.bind_eq_some_iff.mp e
    obtain ⟨o2, e10, e⟩ := Option.bind_eq_some_iff.mp e
    cases e
    refine iteT (hc.go G F3 ps2 σ H3 rc ps4 _ P3.rep e7 fun w F4 H4 P4 r4 => ?_)
    have q2 := ((r2'.post P3).post P4)
    exact hg' G F4 ps4 σ H4 y w d2 d3 out Q P4.rep (brw_ok P4.rep q2 e8) (brw_ok P4.rep r4 e9) e10 fun v' F5 H5 P5 r5 => q v' F5 H5 ((P.trans P4).trans P5) (r5.back (P.trans P4).dom)
  | false =>
    rw [if_neg Bool.false_ne_true] at eF
    cases eF
    exact iteF (q _ F3 H3 P (show Rel _ _ _ _ _ by unfold Rel; rfl))
theorem de_chain {op op' : CmpOp} {r r' : R2} {g g' : Dat → Dat → Option RV} (ho : OpR X (compareOp op) r) (hg : OpSnd X.K r g) (ho' : OpR X (compareOp op') r') (hg' : OpSnd X.K r' g') (ha : DE X a ta fa) (hb : DE X b tb fb) (hc : DE X c tc fc)
    (hm : lastMarks [op, op'] [b, c] = false := by with_unfolding_all rfl) : DE X (.Compare a [op, op'] [b, c] pos) (tChain r r' ta tb tc) (chainM g g' fa fb fc) := ⟨pe_chain ho ho' ha.pe hb.pe hc.pe hm, snd_chain hg hg' ha.sn hb.sn hc.sn⟩
theorem dt_chain {op op' : CmpOp} {r r' : R2} {g g' : Dat → Dat → Option RV} (ho : OpR X (compareOp op) r) (hg : OpSnd X.K r g) (ho' : OpR X (compareOp op') r') (hg' : OpSnd X.K r' g') (ha : DE X a ta fa) (hb : DE X b tb fb) (hc : DE X c tc fc)
    (hm : lastMarks [op, op'] [b, c] = false := by with_unfolding_all rfl) : DT X (.Compare a [op, op'] [b, c] pos) (tTest (tChain r r' ta tb tc)) (tstM (chainM g g' fa fb fc)) := ⟨pt_chain ho ho' ha.pe hb.pe hc.pe hm, snd_tst (snd_chain hg hg' ha.sn hb.sn hc.sn)⟩

/-! ### arguments, displays -/
def keepM (f : M RV) : M Dat := fun ps => (f ps).bind fun x => keepV x.1 x.2
def consM (f : M RV) (g : M (List Dat)) : M (List Dat) := fun ps => (keepM f ps).bind fun x => (g x.2).bind fun y => some (x.1 :: y.1, y.2)
theorem keepM_go {K : Fg} (h : SndE K ta fa) {G : Ctl} {F : Hp} {ps : PS} {σ : L2.St} {H : Hp} {d : Dat} {ps' : PS} {Q : VK} (R : Rep G K F ps σ H) (e : keepM fa ps = some (d, ps')) (q : ∀ v F' H', Post G K F ps σ H F' ps' H' → Rel K F' G.T d v → Q v H') : ta σ H Q := by
  unfold keepM at e
  obtain ⟨⟨r, ps1⟩, e1, e⟩ := Option.bind_eq_some_iff.mp e
  refine h.go G F ps σ H r ps1 _ R e1 fun v F1 H1 P1 r1 => ?_
  obtain ⟨F', P', r'⟩ := keepV_ok P1 r1 e
  exact q v F' H1 P' r'
variable {es : List Expr} {t : TA} {g : M (List Dat)}
theorem da_nil : DA X [] tNil (M.ret []) := ⟨pa_nil, ⟨fun G F ps σ H ds ps' Q R e q => by
  cases e
  exact q [] F H (.refl R) .nil⟩⟩
theorem da_cons (ha : DE X e te fe) (hr : DA X es t g) (hs : starEach (e :: es) X.env = (false, eval e X.env) :: starEach es X.env := by rfl) : DA X (e :: es) (tCons te t) (consM fe g) := by
  refine ⟨pa_cons ha.pe hr.pe hs, ⟨fun G F ps σ H ds ps' Q R e q => ?_⟩⟩
  unfold consM at e
  obtain ⟨⟨d, ps1⟩, e1, e⟩ := Option.bind_eq_some_iff.mp e
  obtain ⟨⟨ds', ps2⟩, e2, e⟩ := Option.bind_eq_some_iff.mp e
  cases e
  refine keepM_go ha.sn R e1 fun v F1 H1 P1 r1 => ?_
  refine hr.sn.go G F1 ps1 σ H1 ds' ps2 _ P1.rep e2 fun vs F2 H2 P2 r2 => ?_
  exact q (v :: vs) F2 H2 (P1.trans P2) (.cons (Rel.mono P2.same _ _ r1) r2)
def tupM (g : M (List Dat)) : M RV := fun ps => (g ps).bind fun x => if line x.1.length then some (.im (.tuple x.1), x.2) else none
def lstM (g : M (List Dat)) : M RV := fun ps => (g ps).bind fun x => if line x.1.length then some (.nw x.1, x.2) else none
def tTupD (t : TA) : TE := fun σ H Q => t σ H fun xs H1 => xs.length ≤ sizeLine ∧ NewT H1 xs Q
theorem pe_tupD {es : List Expr} {t : TA} {pos : Pos} {X : Cx} {x1} (h : PA X es t) : PE X (.Tuple es x1 pos) (tTupD t) := by
  constructor
  intro pins s σ H Q I hq
  refine wpAny_Tuple_spliced (thn (h.run pos pins s σ H _ I hq) fun us s1 hu => ?_)
  obtain ⟨xs, H1, I1, r, hz, q⟩ := hu
  exact ⟨by rw [← r.length]; exact hz, q.put I1 r hz⟩
/-- tuple(x): of a list a new one, of a tuple itself -/
def rTupOf (K : Fg) : List V → Hp → VK → Prop := fun xs H Q => ∃ (p : Addr) (ys : List V), xs = [.ref p] ∧ ((SqL K H p ys ∧ NewT H ys Q) ∨ (SqT K H p ys ∧ Q (.ref p) H))
theorem call_tupleD {X : Cx} : CallR X (.type "tuple") (rTupOf X.K) := by
  rintro pins s σ H xs us Q I r ⟨p, ys, rfl, h⟩
  obtain ⟨u, rfl, rx⟩ := vals1 r
  cases rx
  rcases h with ⟨hq, q⟩ | ⟨hq, q⟩
  · obtain ⟨ws, rv, pl, hz⟩ := I.list hq
    refine call_tuple_list pl.isList (fun h' kp => ?_) (by rw [List.size_toArray, ← rv.length]; exact hz)
    exact q.put (s := { s with heap := h' }) (I.kept (t' := s.toks) kp) rv hz
  · obtain ⟨ws, rv, pl, hz⟩ := I.tuple hq
    exact call_tuple_same pl ⟨V.ref p, H, I, rfl, q⟩
theorem de_tup {x1} (h : DA X es t g) : DE X (.Tuple es x1 pos) (tTupD t) (tupM g) := by
  refine ⟨pe_tupD h.pe, ⟨fun G F ps σ H r ps' Q R e q => ?_⟩⟩
  unfold tupM at e
  obtain ⟨⟨ds, ps1⟩, e1, e⟩ := Option.bind_eq_some_iff.mp e
  split at e
  · rename_i hl
    cases e
    refine h.sn.go G F ps σ H ds ps1 _ R e1 fun vs F1 H1 P1 r1 => ⟨?_, out_tp P1.rep r1 fun v F2 H2 P2 r2 => q v F2 H2 (P1.trans P2) (r2.back P1.dom)⟩
    rw [r1.len]
    exact line_le hl
  · cases e
theorem de_lst (h : DA X es t g) : DE X (.List es pos) (tLst t) (lstM g) := by
  refine ⟨pe_lst h.pe, ⟨fun G F ps σ H r ps' Q R e q => ?_⟩⟩
  unfold lstM at e
  obtain ⟨⟨ds, ps1⟩, e1, e⟩ := Option.bind_eq_some_iff.mp e
  split at e
  · rename_i hl
    cases e
    refine h.sn.go G F ps σ H ds ps1 _ R e1 fun vs F1 H1 P1 r1 => ⟨?_, out_nw P1.rep r1 fun v F2 H2 P2 r2 => q v F2 H2 (P1.trans P2) (r2.back P1.dom)⟩
    rw [r1.len]
    exact line_le hl
  · cases e

/-! ### calls of built-ins -/
/-- one argument, read where it stands -/
def C1Snd (K : Fg) (r : List V → Hp → VK → Prop) (g : Dat → Option RV) : Prop := UnSnd K (fun x H Q => r [x] H Q) g
def t1 (ta : TE) : TA := tCons ta tNil
theorem snd_call1 {K : Fg} {r : List V → Hp → VK → Prop} {g : Dat → Option RV} (hg : C1Snd K r g) (ha : SndE K ta fa) : SndE K (tCB r (t1 ta)) (unM g fa) := ⟨(snd_un hg ha).go⟩
theorem de_callB1 {r : List V → Hp → VK → Prop} {g : Dat → Option RV} {x : Str} {id : String} {p : Pos} (hc : CallR X (.builtin id) r) (hs : C1Snd X.K r g) (hgl : Gl X x) (hm : X.mg x = none) (hv : bootBuiltins x = some (.builtin id)) (ha : DE X a ta fa)
    (hn : x ≠ "__name__" := by decide) (hdb : (x == ("__debug__" : Str)) = false := by decide) (he : starEach [a] X.env = (false, eval a X.env) :: starEach [] X.env := by rfl) (hp : (backTo pos (starEach [] X.env)).any (·.1) = false := by rfl) :
    DE X (.Call (.Name x p) [a] [] pos) (tCB r (t1 ta)) (unM g fa) := ⟨pe_callB hc hgl hm hv (pa_cons ha.pe pa_nil he) hn hdb he hp, snd_call1 hs ha.sn⟩
theorem de_callT1 {r : List V → Hp → VK → Prop} {g : Dat → Option RV} {x : Str} {T : String} {p : Pos} (hc : CallR X (.type T) r) (hs : C1Snd X.K r g) (hgl : Gl X x) (hm : X.mg x = none) (hv : bootBuiltins x = some (.type T)) (ha : DE X a ta fa)
    (hn : x ≠ "__name__" := by decide) (hdb : (x == ("__debug__" : Str)) = false := by decide) (he : starEach [a] X.env = (false, eval a X.env) :: starEach [] X.env := by rfl) (hp : (backTo pos (starEach [] X.env)).any (·.1) = false := by rfl) :
    DE X (.Call (.Name x p) [a] [] pos) (tCB r (t1 ta)) (unM g fa) := ⟨pe_callTy hc hgl hm hv (pa_cons ha.pe pa_nil he) hn hdb he hp, snd_call1 hs ha.sn⟩
/-- several arguments, kept -/
def CNSnd (K : Fg) (r : List V → Hp → VK → Prop) (g : List Dat → Option RV) : Prop :=
  ∀ (G : Ctl) (F : Hp) (ps : PS) (σ : L2.St) (H : Hp) (vs : List V) (ds : List Dat) (out : RV) (Q : VK), Rep G K F ps σ H → RelL K F G.T ds vs → g ds = some out →
    (∀ v F' H', Post G K F ps σ H F' ps H' → RVok G K F' ps σ H H' out v → Q v H') → r vs H Q
def cnM (g : List Dat → Option RV) (f : M (List Dat)) : M RV := fun ps => (f ps).bind fun x => (g x.1).bind fun r => some (r, x.2)
theorem snd_callN {K : Fg} {r : List V → Hp → VK → Prop} {gg : List Dat → Option RV} (hg : CNSnd K r gg) (ha : SndA K t g) : SndE K (tCB r t) (cnM gg g) := by
  refine ⟨fun G F ps σ H out ps' Q R e q => ?_⟩
  unfold cnM at e
  obtain ⟨⟨ds, ps1⟩, e1, e⟩ := Option.bind_eq_some_iff.mp e
  obtain ⟨o, e2, e⟩ := Option.bind_eq_some_iff.mp e
  cases e
  refine ha.go G F ps σ H ds ps1 _ R e1 fun vs F1 H1 P1 r1 => ?_
  exact hg G F1 ps1 σ H1 vs ds out Q P1.rep r1 e2 fun v F2 H2 P2 r2 => q v F2 H2 (P1.trans P2) (r2.back P1.dom)
theorem de_callBN {r : List V → Hp → VK → Prop} {gg : List Dat → Option RV} {x : Str} {id : String} {p : Pos} (hc : CallR X (.builtin id) r) (hs : CNSnd X.K r gg) (hgl : Gl X x) (hm : X.mg x = none) (hv : bootBuiltins x = some (.builtin id)) (ha : DA X (e :: es) t g)
    (hn : x ≠ "__name__" := by decide) (hdb : (x == ("__debug__" : Str)) = false := by decide) (he : starEach (e :: es) X.env = (false, eval e X.env) :: starEach es X.env := by rfl) (hp : (backTo pos (starEach es X.env)).any (·.1) = false := by rfl) :
    DE X (.Call (.Name x p) (e :: es) [] pos) (tCB r t) (cnM gg g) := ⟨pe_callB hc hgl hm hv ha.pe hn hdb he hp, snd_callN hs ha.sn⟩
end

def lenD : Dat → Option RV
  | .list ds => some (.im (.int ds.length))
  | .tuple ds => some (.im (.int ds.length))
  | .dict (_ :: (_, .list ds) :: _) => some (.im (.int ds.length))
  | _ => none
theorem lenD_ok {K : Fg} : C1Snd K (fun xs H Q => ∃ p ys, xs = [.ref p] ∧ (SqL K H p ys ∨ SqT K H p ys) ∧ Q (.int ys.length) H) lenD := by
  intro G F ps σ H x d out Q R hx hg q
  unfold lenD at hg
  split at hg
  · rename_i ds
    cases hg
    obtain ⟨a, vs, rfl, h1, h2⟩ := bLst hx
    exact ⟨a, vs, rfl, .inl (SqL.of h1), by rw [h2.len]; exact out_im R (by unfold Rel; rfl) q⟩
  · rename_i ds
    cases hg
    obtain ⟨a, vs, rfl, h1, h2⟩ := bTup R.fh hx
    exact ⟨a, vs, rfl, .inr h1, by rw [h2.len]; exact out_im R (by unfold Rel; rfl) q⟩
  · rename_i ds _
    cases hg
    obtain ⟨a, vs, rfl, h1, h2⟩ := bDic R.fh hx
    exact ⟨a, vs, rfl, .inl h1, by rw [h2.len]; exact out_im R (by unfold Rel; rfl) q⟩
  · cases hg
def listD : Dat → Option RV
  | .list ds => some (.nw ds)
  | .tuple ds => some (.nw ds)
  | _ => none
theorem listD_ok {K : Fg} : C1Snd K (fun xs H Q => ∃ p ys, xs = [.ref p] ∧ (SqL K H p ys ∨ SqT K H p ys) ∧ ∀ l, H l = none → Q (.ref l) (upd H l (.lst ys))) listD := by
  intro G F ps σ H x d out Q R hx hg q
  unfold listD at hg
  split at hg
  · cases hg
    obtain ⟨a, vs, rfl, h1, h2⟩ := bLst hx
    exact ⟨a, vs, rfl, .inl (SqL.of h1), out_nw R h2 q⟩
  · cases hg
    obtain ⟨a, vs, rfl, h1, h2⟩ := bTup R.fh hx
    exact ⟨a, vs, rfl, .inr h1, out_nw R h2 q⟩
  · cases hg
def tupleD : Dat → Option RV
  | .list ds => some (.im (.tuple ds))
  | .tuple ds => some (.im (.tuple ds))
  | _ => none
theorem tupleD_ok {K : Fg} : C1Snd K (rTupOf K) tupleD := by
  intro G F ps σ H x d out Q R hx hg q
  unfold tupleD at hg
  split at hg
  · cases hg
    obtain ⟨a, vs, rfl, h1, h2⟩ := bLst hx
    exact ⟨a, vs, rfl, .inl ⟨SqL.of h1, out_tp R h2 q⟩⟩
  · cases hg
    obtain ⟨a, vs, rfl, h1, h2⟩ := bTup R.fh hx
    exact ⟨a, vs, rfl, .inr ⟨h1, out_im R hx q⟩⟩
  · cases hg
def intD : Dat → Option RV
  | .int i => some (.im (.int i))
  | .bool k => some (.im (.int (if k then 1 else 0)))
  | _ => none
theorem intD_ok {K : Fg} : C1Snd K (fun xs H Q => (∃ i, xs = [.int i] ∧ Q (.int i) H) ∨ ∃ k, xs = [.bl k] ∧ Q (.int (if k then 1 else 0)) H) intD := by
  intro G F ps σ H x d out Q R hx hg q
  unfold intD at hg
  split at hg
  · cases hg
    rw [bInt hx]
    exact .inl ⟨_, rfl, out_im R (by unfold Rel; rfl) q⟩
  · cases hg
    rw [bBl hx]
    exact .inr ⟨_, rfl, out_im R (by unfold Rel; rfl) q⟩
  · cases hg
def absD : Dat → Option RV
  | .int i => some (.im (.int (if i < 0 then -i else i)))
  | _ => none
theorem absD_ok {K : Fg} : C1Snd K (fun xs H Q => ∃ i, xs = [.int i] ∧ Q (.int (if i < 0 then -i else i)) H) absD := by
  intro G F ps σ H x d out Q R hx hg q
  unfold absD at hg
  split at hg
  · cases hg
    rw [bInt hx]
    exact ⟨_, rfl, out_im R (by unfold Rel; rfl) q⟩
  · cases hg
def sumD : Dat → Option RV
  | .list ds => (ints? ds).bind fun ns => some (.im (.int ns.sum))
  | _ => none
theorem sumD_ok {K : Fg} : C1Snd K (rSum K) sumD := by
  intro G F ps σ H x d out Q R hx hg q
  unfold sumD at hg
  split at hg
  · obtain ⟨ns, e1, hg⟩ := Option.bind_eq_some_iff.mp hg
    cases hg
    obtain ⟨a, vs, rfl, h1, h2⟩ := bLst hx
    rw [ints_rel e1 h2] at h1
    exact ⟨a, ns, rfl, SqL.of h1, out_im R (by unfold Rel; rfl) q⟩
  · cases hg
def min2D : List Dat → Option RV
  | [.int i, .int j] => some (.im (.int (if j < i then j else i)))
  | _ => none
theorem two_int {K : Fg} {F : Hp} {T : Addr} {i j : Int} {vs : List V} (h : RelL K F T [.int i, .int j] vs) : vs = [.int i, .int j] := by
  unfold RelL at h
  obtain ⟨y, ys, rfl, h1, h2⟩ := h
  unfold RelL at h2
  obtain ⟨z, zs, rfl, h3, h4⟩ := h2
  unfold RelL at h4
  rw [rInt.mp h1, rInt.mp h3, h4]
theorem min2D_ok {K : Fg} : CNSnd K (fun xs H Q => ∃ i j, xs = [.int i, .int j] ∧ Q (.int (if j < i then j else i)) H) min2D := by
  intro G F ps σ H vs ds out Q R hx hg q
  unfold min2D at hg
  split at hg
  · cases hg
    exact ⟨_, _, two_int hx, out_im R (by unfold Rel; rfl) q⟩
  · cases hg
def max2D : List Dat → Option RV
  | [.int i, .int j] => some (.im (.int (if j > i then j else i)))
  | _ => none
theorem max2D_ok {K : Fg} : CNSnd K (fun xs H Q => ∃ i j, xs = [.int i, .int j] ∧ Q (.int (if j > i then j else i)) H) max2D := by
  intro G F ps σ H vs ds out Q R hx hg q
  unfold max2D at hg
  split at hg
  · cases hg
    exact ⟨_, _, two_int hx, out_im R (by unfold Rel; rfl) q⟩
  · cases hg

/-! ### calls of defs -/
/-- what is handed back -/
def RetOk (K : Fg) (F' : Hp) (T : Addr) (H0 H' : Hp) : RV → V → Prop
  | .im d, v => Rel K F' T d v
  | .nw ds, v => ∃ p vs, v = .ref p ∧ H' p = some (.lst vs) ∧ F' p = none ∧ H0 p = none ∧ RelL K F' T ds vs
  | .nt t, v => ∃ fp, TrOk K F' H' H0 T t v fp ∧ fp.Nodup
  | .sl _, _ => False
  | .pa _ _, _ => False
abbrev Fn := List Dat → Dr → Option (RV × Dr)
def spM (K : Fg) (n : Nat) (g : Fn) : Sp := fun vs H Q E => ∃ (G : Ctl) (F : Hp) (dr dr' : Dr) (ds : List Dat) (r : RV), vs.length = n ∧ Same F H ∧ (G.st = true → DrAt G.T G.C H dr ∧ F G.T = none ∧ F G.C = none) ∧ (G.st = false → dr = .no) ∧ RelL K F G.T ds vs ∧ g ds dr = some (r, dr') ∧ (∀ P ∈ Tbs.tb K, GxR.TabG H P ∧ F P = none) ∧
  ∀ v F' H', Same F F' → Same F' H' → (∀ a o, H a = some o → ¬ G.ex a → Kp o (H' a)) → (∀ a, H a ≠ none → F' a = F a) → (G.st = true → DrAt G.T G.C H' dr') → (G.st = false → dr' = .no) → (∀ a, H' a = none → H a = none) → RetOk K F' G.T H H' r v → Q v H'
def callM (fn : Fn) (g : M (List Dat)) : M RV := fun ps => (g ps).bind fun x => (fn x.1 x.2.dr).bind fun y => some (y.1, { x.2 with dr := y.2 })
theorem snd_call {K : Fg} {n : Nat} {fn : Fn} {t : TA} {g : M (List Dat)} {E : XK} (ha : SndA K t g) (hl : ∀ ps ds ps', g ps = some (ds, ps') → ds.length = n) : SndE K (tCall (spM K n fn) [] E t) (callM fn g) := by
  refine ⟨fun G F ps σ H out ps' Q R e q => ?_⟩
  unfold callM at e
  obtain ⟨⟨ds, ps1⟩, e1, e⟩ := Option.bind_eq_some_iff.mp e
  obtain ⟨⟨r, dr'⟩, e2, e⟩ := Option.bind_eq_some_iff.mp e
  obtain ⟨rfl, rfl⟩ : r = out ∧ { ps1 with dr := dr' } = ps' := by
    injection e with e
    injection e with e3 e4
    exact ⟨e3, e4⟩
  refine ha.go G F ps σ H ds ps1 _ R e1 fun vs F1 H1 P1 r1 => ?_
  show spM K n fn (vs ++ []) H1 Q E
  rw [List.append_nil]
  refine ⟨G, F1, ps1.dr, dr', ds, r, ?_, P1.rep.fh, fun hs => ⟨P1.rep.dr hs, (P1.rep.ft hs).1, (P1.rep.ft hs).2.1⟩, P1.rep.nd, r1, e2, (fun P hP => ⟨P1.rep.tabs P hP, P1.rep.tabF P hP⟩), fun v F2 H2 fs fh k nf hd hnd dm hr => ?_⟩
  · rw [r1.len]
    exact hl _ _ _ e1
  · have R1 := P1.rep
    have ownK : ∀ p, Own ps1 σ H1 p → H2 p = H1 p ∧ F2 p = none := fun p o => by
      obtain ⟨u, h1, hm, h2, h3⟩ := R1.ownH o
      have nx : ¬ G.ex p := fun ⟨hs, he⟩ => by
        obtain ⟨_, _, c, d⟩ := R1.ft hs
        rcases he with rfl | rfl
        · exact c h3
        · exact d h3
      exact ⟨by rw [h1]; exact (k p _ h1 nx).mut hm, by rw [nf p (by rw [h1]; simp)]; exact h2⟩
    have R2 : Rep G K F2 { ps1 with dr := dr' } σ H2 := by
      refine ⟨R1.len, fun i s e => ?_, fun i j p ha hb => R1.sep i j p ((R1.ownAt fun p o => (ownK p o).1).mp ha) ((R1.ownAt fun p o => (ownK p o).1).mp hb), hd, fun hs => ?_, fh, fun a o h1 h2 => (R1.kp a o h1 h2).trans fun u h => k a u h h2, fun a h => ?_, R1.ff.trans fs, hnd, R1.tab, fun i j path q e h => R1.ali i j path q e (R1.tAt (fun p o => (ownK p o).1) h)⟩
      · obtain ⟨o, e3, y⟩ := R1.slots i s e
        exact ⟨o, e3, y.mono fs fun p hp => ownK p ⟨i, s, o, e, e3, hp⟩⟩
      · obtain ⟨a, b, c, d⟩ := R1.ft hs
        have dd := R1.dr hs
        exact ⟨by rw [nf _ dd.T]; exact a, by rw [nf _ dd.C]; exact b, c, d⟩
      · rw [← R1.f0 a h]
        refine nf a fun z => ?_
        exact h (R1.h0 z)
    have P2 : Post G K F1 ps1 σ H1 F2 { ps1 with dr := dr' } H2 := by
      refine ⟨R2, fs, fun p vs hm h1 h2 h3 h4 => ⟨(k p _ h1 fun ⟨hs, he⟩ => ?_).mut hm, by rw [nf p (by rw [h1]; simp)]; exact h2, fun o => h4 ((R1.ownI fun p o => (ownK p o).1).mp o)⟩, dm, fun i path q h => R1.tAt (fun p o => (ownK p o).1) h⟩
      obtain ⟨_, _, c, d⟩ := R1.ft hs
      rcases he with rfl | rfl
      · exact c h3
      · exact d h3
    refine q v F2 H2 (P1.trans P2) ?_
    cases r with
    | im d => exact hr
    | sl i => exact hr.elim
    | nw ds' =>
      obtain ⟨p, ws, e3, h1, h2, h3, h4⟩ := hr
      exact ⟨p, ws, e3, h1, h2, R1.h0 h3, fun o => R1.ownN h3 ((R1.ownI fun p o => (ownK p o).1).mp o), h4, P1.dom p h3⟩
    | pa i path => exact hr.elim
    | nt t =>
      obtain ⟨fp, h1, h2⟩ := hr
      have h3 : ∀ p ∈ fp, H1 p = none := fun p hp => by
        obtain ⟨_, _, _, _, z⟩ := h1.own p hp
        exact z
      exact ⟨fp, h1.h0 fun p hp => R1.h0 (h3 p hp), h2, fun p hp => ⟨fun o => R1.ownN (h3 p hp) ((R1.ownI fun p o => (ownK p o).1).mp o), P1.dom p (h3 p hp)⟩⟩
section
variable {X : Cx} {CX : CXT} {k : Nat} {f : Addr} {fd : FuncData} {nms : List Str} {E : XK} {x : Str} {p pos : Pos} {e : Expr} {es : List Expr} {t : TA} {g : M (List Dat)} {n : Nat} {fn : Fn}
theorem da_len0 : ∀ ps ds ps', (M.ret [] : M (List Dat)) ps = some (ds, ps') → ds.length = 0 := fun ps ds ps' h => by cases h; rfl
theorem da_len1 {fe : M RV} (hg : ∀ ps ds ps', g ps = some (ds, ps') → ds.length = n) : ∀ ps ds ps', consM fe g ps = some (ds, ps') → ds.length = n + 1 := fun ps ds ps' h => by
  unfold consM at h
  obtain ⟨⟨d, ps1⟩, e1, h⟩ := Option.bind_eq_some_iff.mp h
  obtain ⟨⟨ds', ps2⟩, e2, h⟩ := Option.bind_eq_some_iff.mp h
  cases h
  rw [List.length_cons, hg _ _ _ e2]
theorem de_call (F : FnOk X.prog X.w X.K X.mg X.base CX k f fd nms (spM X.K n fn)) (hr : Room k X.A) (hg : Gl X x) (hm : X.mg x = some (.ref f)) (hk : PySem.W.keepIn X.K (.ref f) = true) (hb : Binds X.K fd nms []) (hx : Passes CX X E)
    (ha : DA X (e :: es) t g) (hl : ∀ ps ds ps', g ps = some (ds, ps') → ds.length = n) (hdb : (x == ("__debug__" : Str)) = false := by decide) (he : starEach (e :: es) X.env = (false, eval e X.env) :: starEach es X.env := by rfl) (hpl : (backTo pos (starEach es X.env)).any (·.1) = false := by rfl) :
    DE X (.Call (.Name x p) (e :: es) [] pos) (tCall (spM X.K n fn) [] E t) (callM fn g) := ⟨pe_call F hr hg hm hk hb .nil hx ha.pe hdb he hpl, snd_call ha.sn hl⟩
end
end MP

/-! enumerate of a tuple: the library's WalksT.enumFrom carried to a Turn of the layer -/
namespace MP
open PySem PySem.Spec
variable [Tbs]
open PyProof.Rows L2

/-- a walk that hands out new tuples, as a Turn: z is the thing walked as it stands, src what the heap must hold of it -/
theorem turn_ofT {P : Program} {w : World} {K : Fg} {elts : List Expr} {kk : Nat} {tp : Pos} {I : Addr} {fp own wr : List Addr} {n : Nat} {ζ : Type} {Pt : ζ → Nat → Array Value → Prop} {St : ζ → Nat → Heap → Prop} {tn : Nat → Heap → Prop} {Mid : ζ → Nat → Addr → Heap → Prop}
    {src : ζ → Heap → Prop} {hold : Hp → Prop} {YV : Nat → List V → Prop} (hI : I ∈ own) (hwr : ∀ b ∈ wr, b ∈ own)
    (W : ∀ (z : ζ) (A : Around), A.handled = none → WalksT P w A I fp wr n (Pt z) (St z) (Mid z))
    (obj : ∀ i h, tn i h → ∀ b ∈ own, ∃ o, h.get? b = some o ∧ ∀ v, o.data ≠ .cell v)
    (keep : ∀ i h h', tn i h → (∀ b ∈ own, ∀ o, h.get? b = some o → h'.get? b = some o) → tn i h')
    (into : ∀ z i h, tn i h → src z h → St z i h) (out : ∀ z i h, St z i h → tn i h)
    (hsrc : ∀ (X : Cx) (pins : List (Addr × Obj)) (s : Shared) (σ : L2.St) (H : Hp), X.prog = P → X.w = w → X.K = K → Inv X pins σ H s → hold H → ∃ z, src z s.heap ∧ ∀ i us, Pt z i us → ∃ xs, Vals xs us.toList ∧ xs.length ≤ 2 ∧ YV i xs)
    (self : ∀ (A : Around) (i : Nat) (s : Shared) (Q : Value → Shared → Prop) (E : Value → Shared → Prop), tn i s.heap → Q (.ref I) s → wpAny (model P w) A (pyIter (.ref I)) Q E s) :
    Turn P w K (.Tuple elts kk tp) ⟨fun i H => i < n ∧ hold H, fun i H v H' => ∃ T xs, v = V.ref T ∧ H T = none ∧ H' = upd H T (.tup xs) ∧ YV i xs, fun i H => i = n ∧ hold H⟩ own I tn where
  mem := hI
  obj := obj
  keep := keep
  self := self
  done := fun X hP hw hK hc i pins s σ H E inv hf st ⟨e, hh⟩ => by
    subst e
    obtain ⟨z, sz, _⟩ := hsrc X pins s σ H hP hw hK inv hh
    refine (W z X.A (inv.ok.hd hc)).done s _ _ (into z _ _ st sz) fun h' tk k => ⟨rfl, ?_⟩
    exact inv.turnedL (ch := own) (fun b o hb z => k b o (fun y => hb (hwr b y)) z) hf
  item := fun X hP hw hK hc i pins s σ H E inv hf st ⟨hi, hh⟩ => by
    obtain ⟨z, sz, vals⟩ := hsrc X pins s σ H hP hw hK inv hh
    have WA := W z X.A (inv.ok.hd hc)
    have live : ∀ b ∈ own, b < s.heap.objs.size := fun b hb => by
      obtain ⟨o, z, _⟩ := obj i _ st b hb
      exact Heap.lt_size z
    refine WA.item i s _ _ hi (into z _ _ st sz) fun T us h' tk pt hT tup mid k1 => ⟨_, rfl, ?_⟩
    have tN : T ∉ wr := fun z => absurd (live T (hwr T z)) (Nat.not_lt_of_le hT)
    refine WA.go elts kk tp i T { s with heap := h', toks := tk } _ _ mid fun h2 st2 k2 => ?_
    obtain ⟨xs, rv, hl, yv⟩ := vals i us pt
    have hT2 : h2.IsTuple T us.toList.toArray := by
      obtain ⟨o, z1, z2⟩ := tup
      exact ⟨o, k2 T o tN z1, by simpa using z2⟩
    have new : ObjOk X.prog X.w (upd H T (.tup xs)) h2 T (.tup xs) := ⟨Nat.le_trans hl (by decide), us.toList, rv, hT2⟩
    have inv2 : Inv X pins σ (upd H T (.tup xs)) { s with heap := h2, toks := tk } :=
      inv.turnedNew (ch := own) (fun b o hb z => k2 b o (fun y => hb (hwr b y)) (k1 b o (fun y => hb (hwr b y)) z)) hf hT new
    refine ⟨V.ref T, _, inv2, rfl, ⟨T, xs, rfl, inv.hok.fresh hT, rfl, yv⟩, out z _ _ st2, fun b hb => ?_⟩
    have q : b ≠ T := Nat.ne_of_lt (Nat.lt_of_lt_of_le (live b hb) hT)
    rw [upd_ne q]
    exact (hf b hb).1

/-- what a walk over the tuple at a hands out -/
def ItE (K : Fg) (a : Addr) (xs : List V) : It :=
  ⟨fun i H => i < xs.length ∧ SqT K H a xs, fun i H v H' => ∃ T ys, v = V.ref T ∧ H T = none ∧ H' = upd H T (.tup ys) ∧ ∃ x, xs[i]? = some x ∧ ys = [.int (i : Nat), x], fun i H => i = xs.length ∧ SqT K H a xs⟩
theorem kind_apart {h : Heap} {a b : Addr} {T U : String} (h1 : ∃ o, h.get? a = some o ∧ o.cls = .type T) (h2 : ∃ o, h.get? b = some o ∧ o.cls = .type U) (d : T ≠ U) : a ≠ b := by
  rintro rfl
  obtain ⟨o1, e1, c1⟩ := h1
  obtain ⟨o2, e2, c2⟩ := h2
  rw [e1] at e2
  cases e2
  rw [c1] at c2
  exact d (Value.type.inj c2)
theorem turn_enumT {P : Program} {w : World} {K : Fg} {elts : List Expr} {kk : Nat} {tp : Pos} (a e it : Addr) (xs : List V) (d1 : e ≠ it) (d2 : e ≠ a) (d3 : a ≠ it) :
    Turn P w K (.Tuple elts kk tp) (ItE K a xs) [e, it] e (fun i h => (∃ old, IsEnum h e it (0 + (i : Int)) old) ∧ h.IsTupleIter it a i) := by
  have T := turn_ofT (P := P) (w := w) (K := K) (elts := elts) (kk := kk) (tp := tp) (I := e) (own := [e, it]) (n := xs.length) (ζ := { its : List Value // Vals xs its })
    (tn := fun i h => (∃ old, IsEnum h e it (0 + (i : Int)) old) ∧ h.IsTupleIter it a i) (src := fun z h => h.IsTuple a z.1.toArray) (hold := fun H => SqT K H a xs)
    (YV := fun i ys => ∃ x, xs[i]? = some x ∧ ys = [.int (i : Nat), x]) (by simp) (fun b hb => hb)
    (fun z A hA => by
      have D := Draws.tuple (prog := P) (w := w) (A := A.in1) (by exact hA) it a d3 z.1.toArray
      rw [List.size_toArray, ← z.2.length] at D
      exact WalksT.enumFrom 0 D e d1 (by simp [d1, d2]) (by simp))
    (fun i h ⟨⟨old, h1⟩, o, h2, _, h3⟩ b hb => by
      rcases List.mem_cons.mp hb with rfl | hb
      · exact ⟨_, h1, fun v q => nomatch q⟩
      · rw [List.mem_singleton.mp hb]
        exact ⟨o, h2, fun v q => by rw [h3] at q; cases q⟩)
    (fun i h h' ⟨⟨old, h1⟩, h2⟩ k => ⟨⟨old, k e (by simp) _ h1⟩, h2.at fun o q => k it (by simp) o q⟩)
    (by intro z i h h1 h3; exact ⟨h1.1, h1.2, h3⟩) (by intro z i h h1; exact ⟨h1.1, h1.2.1⟩)
    (fun X pins s σ H hP hw hK inv hh => by
      subst hK
      obtain ⟨its, rv, tup, _⟩ := inv.tuple hh
      refine ⟨⟨its, rv⟩, tup, fun i us ⟨t, u, hu, e1⟩ => ?_⟩
      have hu : its.toArray[i]? = some u := hu
      rw [List.getElem?_toArray] at hu
      have hx : ∃ x, xs[i]? = some x := by
        have hl := rv.length
        have := ltOf hu
        exact ⟨_, List.getElem?_eq_getElem (by omega)⟩
      obtain ⟨x, hx⟩ := hx
      obtain ⟨u', hu', rx⟩ := rv.get hx
      rw [hu] at hu'
      cases hu'
      subst e1
      refine ⟨[.int (i : Nat), x], .cons ⟨t, ?_⟩ (.cons rx .nil), by simp, x, hx, rfl⟩
      simp)
    (fun A i s Q E ⟨⟨_, h1⟩, _⟩ q => wpAny_pyIter_enum h1 q)
  exact T

/-! ### enumerate(..) begins, one argument -/
theorem enumB1 {v : Value} {o : Obj} {H : Heap → Prop} (B : Begins v o H) :
    Meets (Builtin.«enumerate.__new__» ⟨[.type "enumerate", v], []⟩) (fun _ R s => H s.heap ∧
      R (.ok (.ret (.ref (s.heap.push o).objs.size))) { s with heap := (s.heap.push o).push { cls := .type "enumerate", data := .fields #[.none, .bool false, .ref s.heap.objs.size, rawInt 0, .none, .none] } }) := by
  refine Meets.of_wp fun prog w A R s ⟨hs, hR⟩ => ?_
  have sub := sub_enumerate
  have step : ∀ {B' : Around} {E Q : Value → Shared → Prop}, Q (.ref s.heap.objs.size) { s with heap := s.heap.push o } → wpAny (model prog w) B' (pyIter v) Q E s := fun q => B.iter prog w _ _ s _ hs q
  obtain ⟨hp, gs, dr, tk, os⟩ := s
  wp_walk using step
  refine wpAny_stack_any fun frs => wpAny_pure ?_
  split
  next c _ _ _ _ _ =>
    rcases Bool.eq_false_or_eq_true (c == Value.type "enumerate") with hc | hc <;> rw [hc] <;> (wp_walk using step; exact ⟨_, rfl, hR⟩)
  next =>
    wp_walk using step
    exact ⟨_, rfl, hR⟩
theorem enum_begins1 {prog : Program} {w : World} {A : Around} {E : Value → Shared → Prop} {s : Shared} {v : Value} {o : Obj} {H : Heap → Prop} {Q : Value → Shared → Prop} (B : Begins v o H) (h1 : H s.heap)
    (h : IsEnum ((s.heap.push o).push { cls := .type "enumerate", data := .fields #[.none, .bool false, .ref s.heap.objs.size, rawInt 0, .none, .none] }) (s.heap.objs.size + 1) s.heap.objs.size 0 .none →
      Q (.ref (s.heap.objs.size + 1)) { s with heap := (s.heap.push o).push { cls := .type "enumerate", data := .fields #[.none, .bool false, .ref s.heap.objs.size, rawInt 0, .none, .none] } }) :
    wpAny (model prog w) A (call (.type "enumerate") [v]) Q E s := by
  have sz : (s.heap.push o).objs.size = s.heap.objs.size + 1 := Heap.size_push ..
  have isE := Heap.get?_push_size (s.heap.push o) (o := { cls := .type "enumerate", data := .fields #[.none, .bool false, .ref s.heap.objs.size, rawInt 0, .none, .none] }) rfl
  rw [sz] at isE
  exact callType_new F.called_enumerate (by decide) (F.typeCall_enumerate_1 _) (F.newCall_enumerate_1 _) (fun ob => F.args_object_init_2 ob _) F.entry_enumerate_new (enumB1 B)
    ⟨h1, by show _ ∧ _; rw [sz]; exact ⟨⟨_, isE, rfl⟩, h isE⟩⟩

def iEnumA (K : Fg) (te : TE) : TI := fun σ H R => te σ H fun v H1 => ∃ a xs, v = V.ref a ∧ ((SqL K H1 a xs ∧ R (Ite K a) H1) ∨ (SqT K H1 a xs ∧ R (ItE K a xs) H1))
theorem pi_enumA {X : Cx} {e : Expr} {te : TE} {p pos tpos : Pos} {elts : List Expr} {kk : Nat} (hg : Gl X "enumerate") (hm : X.mg "enumerate" = none) (he : PE X e te) (hs : starEach [e] X.env = (false, eval e X.env) :: starEach [] X.env := by rfl)
    (hs1 : starEach [e] X.env = [(false, eval e X.env)] := by rfl) : PI X (.Tuple elts kk tpos) (.Call (.Name "enumerate" p) [e] [] pos) (iEnumA X.K te) where
  run := fun pins s σ H R inv h => by
    refine Call_ (ld_blt inv hg hm boot_enumerate (PyProof.Rows.callWith_type1 (thn ((pa_cons he pa_nil hs).run pos pins s σ H (fun vs H1 => match vs with | [v] => ∃ (a : Addr) (xs : List V), v = V.ref a ∧ ((SqL X.K H1 a xs ∧ R (Ite X.K a) H1) ∨ (SqT X.K H1 a xs ∧ R (ItE X.K a xs) H1)) | _ => False) inv h) fun us s1 ⟨vs, H1, inv1, r1, q0⟩ => ?_) hs1 rfl))
    obtain ⟨v, ex, a, xs, ev, q1⟩ : ∃ v, vs = [v] ∧ ∃ (a : Addr) (xs : List V), v = V.ref a ∧ ((SqL X.K H1 a xs ∧ R (Ite X.K a) H1) ∨ (SqT X.K H1 a xs ∧ R (ItE X.K a xs) H1)) := by
      match vs, q0 with
      | [v], q => exact ⟨v, rfl, q⟩
    subst ex ev
    clear q0
    obtain ⟨u, rfl, ru⟩ := vals1 r1
    cases ru
    have new2 : ∀ b ∈ [s1.heap.objs.size + 1, s1.heap.objs.size], FpOk X pins H1 b := fun b hb => by
      have hle : s1.heap.objs.size ≤ b := by
        rcases List.mem_cons.mp hb with rfl | hb
        · exact Nat.le_succ _
        · rw [List.mem_singleton.mp hb]
          exact Nat.le_refl _
      exact inv1.fpOk hle (inv1.hok.fresh hle)
    rcases q1 with ⟨hq, q⟩ | ⟨hq, q⟩
    · obtain ⟨its, _, pl, _⟩ := inv1.list hq
      exact call_enumerate_list pl.isList fun h' hE hit _ hk => wpAny_pyIter_enum hE
        ⟨s1.heap.objs.size + 1, _, _, _, H1, rfl, inv1.kept (t' := s1.toks) hk, turn_enum a (s1.heap.objs.size + 1) s1.heap.objs.size, ⟨⟨.none, hE⟩, hit, Nat.succ_ne_self _⟩, new2, q⟩
    · obtain ⟨its, rv, tup, _⟩ := inv1.tuple hq
      have al : a < s1.heap.objs.size := tup.lt
      refine enum_begins1 (begins_tuple a its.toArray) tup fun hE => wpAny_pyIter_enum hE ?_
      refine ⟨s1.heap.objs.size + 1, _, _, _, H1, rfl, inv1.kept (t' := s1.toks) fun b o z => Heap.get?_push_of_some _ (Heap.get?_push_of_some _ z), turn_enumT a (s1.heap.objs.size + 1) s1.heap.objs.size xs (Nat.succ_ne_self _) (Nat.ne_of_gt (Nat.lt_succ_of_lt al)) (Nat.ne_of_lt al),
        ⟨⟨.none, hE⟩, ⟨_, Heap.get?_push_of_some _ (Heap.get?_push_size _ rfl), rfl, rfl⟩⟩, new2, q⟩
end MP

namespace MP
open PySem PySem.Spec PyProof.Rows L2
variable [Tbs]

/-! ### slots written -/
section
variable {G : Ctl} {K : Fg} {F F' : Hp} {ps ps' : PS} {σ : L2.St} {H H' : Hp}
/-- slot i is set to what is data or nobody's -/
theorem Rep.setSl (R : Rep G K F ps σ H) {i : Nat} {s : Sl} {v : V} (h : SlOk G K F H s (some v)) (h4 : ∀ p, FpS H s (some v) p → ¬ Own ps σ H p) (na : ∀ j path, s ≠ .al j path := by intro _ _ z; cases z) (nt : (∀ t, s ≠ .tr t) ∨ ∀ (a : Nat) (path : List Nat), ps.sl[a]? ≠ some (Sl.al i path) := by exact .inl fun _ z => by cases z) : Rep G K F (ps.put i s) (σ.set i (some v)) H := by
  by_cases hi : i < ps.sl.length
  · refine R.slot hi (by simp) (fun j hj => List.getElem?_set_ne (Ne.symm hj)) (List.getElem?_set_self (by rw [R.len]; exact hi)) h (Same.refl F) R.fh (fun p hp => by rcases hp with z | z <;> exact absurd rfl z) (fun p f j _ o => h4 p f ⟨j, o⟩) fun a j path q ea hq => ?_
    rcases putSet ea with ⟨_, z, _⟩ | ⟨ha, ea1⟩
    · exact absurd z (na j path)
    · rw [List.getElem?_set_ne (Ne.symm ha)]
      obtain ⟨t, w, e1, e2, ad⟩ := hq
      rcases putSet e1 with ⟨ej, es, _⟩ | ⟨hj, e3⟩
      · rcases nt with z | z
        · exact absurd es (z t)
        · rw [ej] at ea1
          exact absurd ea1 (z a path)
      · rw [List.getElem?_set_ne (Ne.symm hj)] at e2
        exact R.ali a j path q ea1 ⟨t, w, e3, e2, ad⟩
  · have e1 : ps.put i s = ps := by
      unfold PS.put
      rw [List.set_eq_of_length_le (by omega)]
    have e2 : σ.set i (some v) = σ := List.set_eq_of_length_le (by rw [R.len]; omega)
    rw [e1, e2]
    exact R
theorem Rep.setFr (R : Rep G K F ps σ H) {i : Nat} {d : Dat} {v : V} (h : Rel K F G.T d v) : Rep G K F (ps.put i (.fr d)) (σ.set i (some v)) H := R.setSl ⟨v, rfl, h⟩ fun p f => f.elim
theorem Rep.setOw (R : Rep G K F ps σ H) {i : Nat} {ds : List Dat} {p : Addr} {vs : List V} (h1 : H p = some (.lst vs)) (h2 : F p = none) (h3 : G.H0 p = none) (h4 : ¬ Own ps σ H p) (h5 : RelL K F G.T ds vs) : Rep G K F (ps.put i (.ow ds)) (σ.set i (some (.ref p))) H :=
  R.setSl ⟨p, vs, rfl, h1, h2, h3, h5⟩ fun q f => by
    have f : some (V.ref p) = some (.ref q) := f
    cases f
    exact h4
theorem Rep.setTr (R : Rep G K F ps σ H) {i : Nat} {t : Tr} {v : V} {fp : List Addr} (h : TrOk K F H G.H0 G.T t v fp) (nd : fp.Nodup) (h4 : ∀ p ∈ fp, ¬ Own ps σ H p) (nt : ∀ (a : Nat) (path : List Nat), ps.sl[a]? ≠ some (Sl.al i path)) : Rep G K F (ps.put i (.tr t)) (σ.set i (some v)) H :=
  R.setSl ⟨v, fp, rfl, h, nd⟩ (fun q ⟨v', fp', e, h2, hp⟩ => by
    cases e
    rw [TrFp.uniq h2 h.fp] at hp
    exact h4 q hp) (by intro _ _ z; cases z) (.inr nt)
theorem unal_get {ps : PS} {i j : Nat} {s : Sl} (h : (ps.unal j).sl[i]? = some s) : ps.sl[i]? = some s ∧ (∀ path, s ≠ .al j path) ∨ (s = .un ∧ ∃ path, ps.sl[i]? = some (.al j path)) := by
  have h : (ps.sl.map (unS j))[i]? = some s := h
  rw [List.getElem?_map] at h
  obtain ⟨s0, e, rfl⟩ := Option.map_eq_some_iff.mp h
  cases s0 with
  | al k path =>
    by_cases hk : k = j
    · subst hk
      exact .inr ⟨by unfold unS; simp, path, e⟩
    · refine .inl ⟨?_, ?_⟩
      · rw [e]
        unfold unS
        simp [hk]
      · unfold unS
        simp [hk]
  | un => exact .inl ⟨e, fun _ z => by cases z⟩
  | fr d => exact .inl ⟨e, fun _ z => by cases z⟩
  | ow d => exact .inl ⟨e, fun _ z => by cases z⟩
  | tr d => exact .inl ⟨e, fun _ z => by cases z⟩
theorem unal_own {ps : PS} {σ : L2.St} {H : Hp} {i j : Nat} {p : Addr} (h : OwnAt (ps.unal j) σ H i p) : OwnAt ps σ H i p := by
  obtain ⟨s, o, e1, e2, f⟩ := h
  rcases unal_get e1 with ⟨e1, _⟩ | ⟨rfl, _⟩
  · exact ⟨s, o, e1, e2, f⟩
  · exact f.elim
theorem unal_tat {ps : PS} {σ : L2.St} {H : Hp} {i j : Nat} {path : List Nat} {q : Addr} (h : TAt (ps.unal j) σ H i path q) : TAt ps σ H i path q := by
  obtain ⟨t, v, e1, e2, a⟩ := h
  rcases unal_get e1 with ⟨e1, _⟩ | ⟨z, _⟩
  · exact ⟨t, v, e1, e2, a⟩
  · cases z
theorem Rep.unal (R : Rep G K F ps σ H) (j : Nat) : Rep G K F (ps.unal j) σ H := by
  refine ⟨?_, fun i s e => ?_, fun a b p e1 e2 => R.sep a b p (unal_own e1) (unal_own e2), R.dr, R.ft, R.fh, R.kp, R.f0, R.ff, R.nd, R.tab, fun i k path q e h => ?_⟩
  · rw [R.len]
    show ps.sl.length = (ps.sl.map _).length
    rw [List.length_map]
  · rcases unal_get e with ⟨e, _⟩ | ⟨rfl, path, e⟩
    · exact R.slots i s e
    · obtain ⟨o, e1, _⟩ := R.slots i _ e
      exact ⟨o, e1, trivial⟩
  · rcases unal_get e with ⟨e, _⟩ | ⟨z, _⟩
    · exact R.ali i k path q e (unal_tat h)
    · cases z
theorem unal_no {ps : PS} {j : Nat} : ∀ (a : Nat) (path : List Nat), (ps.unal j).sl[a]? ≠ some (Sl.al j path) := fun a path h => by
  rcases unal_get h with ⟨_, z⟩ | ⟨z, _⟩
  · exact z path rfl
  · cases z
theorem Post.unal (P : Post G K F ps σ H F' ps' H') (j : Nat) : Post G K F ps σ H F' (ps'.unal j) H' :=
  ⟨P.rep.unal j, P.same, fun p o hm a b c d => by
    obtain ⟨x, y, z⟩ := P.fresh p o hm a b c d
    exact ⟨x, y, fun ⟨i, h⟩ => z ⟨i, unal_own h⟩⟩, P.dom, fun i path q h => P.al i path q (unal_tat h)⟩
/-- slot i names a part of slot j -/
theorem Rep.setAl (R : Rep G K F ps σ H) {i j : Nat} {path : List Nat} {v : V} (h : ∀ q, TAt ps σ H j path q → v = .ref q) (hij : i ≠ j) : Rep G K F (ps.put i (.al j path)) (σ.set i (some v)) H := by
  by_cases hi : i < ps.sl.length
  · refine R.slot hi (by simp) (fun j hj => List.getElem?_set_ne (Ne.symm hj)) (List.getElem?_set_self (by rw [R.len]; exact hi)) ⟨v, rfl⟩ (Same.refl F) R.fh (fun p hp => by rcases hp with z | z <;> exact absurd rfl z) (fun p f => f.elim) fun a k path' q ea hq => ?_
    obtain ⟨t, w, e1, e2, ad⟩ := hq
    rcases putSet e1 with ⟨_, z, _⟩ | ⟨hk, e3⟩
    · cases z
    · rw [List.getElem?_set_ne (Ne.symm hk)] at e2
      have tq : TAt ps σ H k path' q := ⟨t, w, e3, e2, ad⟩
      rcases putSet ea with ⟨eai, z, _⟩ | ⟨ha, ea1⟩
      · cases z
        rw [eai, List.getElem?_set_self (by rw [R.len]; exact hi), h q tq]
      · rw [List.getElem?_set_ne (Ne.symm ha)]
        exact R.ali a k path' q ea1 tq
  · have e1 : ps.put i (.al j path) = ps := by
      unfold PS.put
      rw [List.set_eq_of_length_le (by omega)]
    have e2 : σ.set i (some v) = σ := List.set_eq_of_length_le (by rw [R.len]; omega)
    rw [e1, e2]
    exact R
end

/-- no more is own -/
structure OLe (ps' : PS) (σ' : L2.St) (ps : PS) (σ : L2.St) (H : Hp) : Prop where
  own : ∀ p, Own ps' σ' H p → Own ps σ H p
  al : ∀ i path q, TAt ps' σ' H i path q → TAt ps σ H i path q
theorem OLe.refl {ps : PS} {σ : L2.St} {H : Hp} : OLe ps σ ps σ H := ⟨fun _ o => o, fun _ _ _ h => h⟩
theorem OLe.trans {ps ps1 ps2 : PS} {σ σ1 σ2 : L2.St} {H : Hp} (a : OLe ps1 σ1 ps σ H) (b : OLe ps2 σ2 ps1 σ1 H) : OLe ps2 σ2 ps σ H := ⟨fun p o => a.own p (b.own p o), fun i path q h => a.al i path q (b.al i path q h)⟩
/-! ### targets: names -/
structure SndG (K : Fg) (g : TG) (is : List Nat) (f : Dat → PS → Option PS) : Prop where
  go : ∀ (G : Ctl) (F : Hp) (ps : PS) (σ : L2.St) (H : Hp) (d : Dat) (v : V) (ps' : PS) (Q : L2.St → Hp → Prop), Rep G K F ps σ H → Rel K F G.T d v → f d ps = some ps' →
    (∀ σ', Rep G K F ps' σ' H → (∀ j, j ∉ is → σ'[j]? = σ[j]?) → σ'.length = σ.length → OLe ps' σ' ps σ H → Q σ' H) → g v σ H Q
structure SndGs (K : Fg) (g : TGs) (is : List Nat) (f : List Dat → PS → Option PS) : Prop where
  go : ∀ (G : Ctl) (F : Hp) (ps : PS) (σ : L2.St) (H : Hp) (ds : List Dat) (vs : List V) (ps' : PS) (Q : L2.St → Hp → Prop), Rep G K F ps σ H → RelL K F G.T ds vs → f ds ps = some ps' →
    (∀ σ', Rep G K F ps' σ' H → (∀ j, j ∉ is → σ'[j]? = σ[j]?) → σ'.length = σ.length → OLe ps' σ' ps σ H → Q σ' H) → g vs σ H Q
structure DG (X : Cx) (tg : Expr) (g : TG) (is : List Nat) (f : Dat → PS → Option PS) : Prop where
  pe : PG X tg g
  sn : SndG X.K g is f
structure DGs (X : Cx) (tgs : List Expr) (g : TGs) (is : List Nat) (f : List Dat → PS → Option PS) : Prop where
  pe : PGs X tgs g
  sn : SndGs X.K g is f
def nmT (i : Nat) (d : Dat) (ps : PS) : Option PS := some (ps.put i (.fr d))
theorem own_put {ps : PS} {σ : L2.St} {H : Hp} {i : Nat} {d : Dat} {v : V} {p : Addr} (h : Own (ps.put i (.fr d)) (σ.set i (some v)) H p) : Own ps σ H p := by
  obtain ⟨j, s, o, e1, e2, f⟩ := h
  rcases putSet e1 with ⟨_, rfl, _⟩ | ⟨hj, e1⟩
  · exact f.elim
  · rw [List.getElem?_set_ne (Ne.symm hj)] at e2
    exact ⟨j, s, o, e1, e2, f⟩
theorem tat_put {ps : PS} {σ : L2.St} {H : Hp} {i j : Nat} {d : Dat} {v : V} {path : List Nat} {q : Addr} (h : TAt (ps.put i (.fr d)) (σ.set i (some v)) H j path q) : TAt ps σ H j path q := by
  obtain ⟨t, w, e1, e2, a⟩ := h
  rcases putSet e1 with ⟨_, z, _⟩ | ⟨hj, e1⟩
  · cases z
  · rw [List.getElem?_set_ne (Ne.symm hj)] at e2
    exact ⟨t, w, e1, e2, a⟩
theorem sng_name {K : Fg} (i : Nat) : SndG K (gName i) [i] (nmT i) := by
  refine ⟨fun G F ps σ H d v ps' Q R r e q => ?_⟩
  cases e
  refine q _ (R.setFr r) (fun j hj => ?_) (by simp) ⟨fun p o => own_put o, fun _ _ _ h => tat_put h⟩
  rw [List.getElem?_set_ne]
  intro z
  exact hj (by simp [z])
def nilTs (ds : List Dat) (ps : PS) : Option PS := match ds with
  | [] => some ps
  | _ => none
def consTs (f : Dat → PS → Option PS) (g : List Dat → PS → Option PS) (ds : List Dat) (ps : PS) : Option PS := match ds with
  | d :: r => (f d ps).bind fun ps1 => g r ps1
  | _ => none
theorem sngs_nil {K : Fg} : SndGs K gNil [] nilTs := by
  refine ⟨fun G F ps σ H ds vs ps' Q R r e q => ?_⟩
  unfold nilTs at e
  split at e
  · cases e
    unfold RelL at r
    exact ⟨r, q σ R (fun _ _ => rfl) rfl .refl⟩
  · cases e
theorem sngs_cons {K : Fg} {g : TG} {gs : TGs} {is js : List Nat} {f : Dat → PS → Option PS} {fs : List Dat → PS → Option PS} (h : SndG K g is f) (hs : SndGs K gs js fs) : SndGs K (gCons g gs) (is ++ js) (consTs f fs) := by
  refine ⟨fun G F ps σ H ds vs ps' Q R r e q => ?_⟩
  unfold consTs at e
  split at e
  · rename_i d r'
    obtain ⟨ps1, e1, e⟩ := Option.bind_eq_some_iff.mp e
    unfold RelL at r
    obtain ⟨y, ys, rfl, h1, h2⟩ := r
    refine ⟨y, ys, rfl, h.go G F ps σ H d y ps1 _ R h1 e1 fun σ1 R1 k1 l1 o1 => ?_⟩
    refine hs.go G F ps1 σ1 H r' ys ps' _ R1 h2 e fun σ2 R2 k2 l2 o2 => ?_
    refine q σ2 R2 (fun j hj => ?_) (l2.trans l1) (o1.trans o2)
    rw [List.mem_append] at hj
    rw [k2 j (fun z => hj (.inr z)), k1 j (fun z => hj (.inl z))]
  · cases e
def tupT (n : Nat) (f : List Dat → PS → Option PS) (d : Dat) (ps : PS) : Option PS := match d with
  | .tuple ds => if ds.length = n then f ds ps else none
  | .list ds => if ds.length = n then f ds ps else none
  | .dict [(x, y)] => if 2 = n then f [x, y] ps else none
  | _ => none
/-- unpacked from a tuple or from a list -/
def gTL (K : PySem.W.Frag) (n : Nat) (t : TGs) : TG := fun v σ H Q => gTup K n t v σ H Q ∨ gLst K n t v σ H Q
theorem pg_tl {X : Cx} {pos : Pos} {es : List Expr} {k : Nat} {t : TGs} {n : Nat} (hc : X.calm = true) (h : PGs X es t)
    (hn : (assignEach es X.env).length = n := by rfl) (hst : (assignEach es X.env).findIdx? (·.1) = none := by rfl) : PG X (.Tuple es k pos) (gTL X.K n t) := by
  refine ⟨fun pins s σ H v u Q I r hw => ?_⟩
  rcases hw with hw | hw
  · exact (pg_tup hc h hn hst).run pins s σ H v u Q I r hw
  · exact (pg_lst hc h hn hst).run pins s σ H v u Q I r hw
theorem sng_tup {K : Fg} {n : Nat} {gs : TGs} {is : List Nat} {fs : List Dat → PS → Option PS} (h : SndGs K gs is fs) : SndG K (gTL K n gs) is (tupT n fs) := by
  refine ⟨fun G F ps σ H d v ps' Q R r e q => ?_⟩
  unfold tupT at e
  split at e
  · rename_i ds
    split at e
    · rename_i hl
      obtain ⟨a, xs, rfl, h1, h2⟩ := rTupE r
      exact .inl ⟨a, xs, rfl, seqT R.fh h1, by rw [h2.len]; exact hl, h.go G F ps σ H ds xs ps' Q R h2 e q⟩
    · cases e
  · rename_i ds
    split at e
    · rename_i hl
      obtain ⟨a, xs, rfl, h1, h2⟩ := rLst.mp r
      exact .inr ⟨a, xs, rfl, SqL.of (R.fh _ _ h1), by rw [h2.len]; exact hl, h.go G F ps σ H ds xs ps' Q R h2 e q⟩
    · cases e
  · split at e
    · rename_i x y hl
      unfold Rel at r
      obtain ⟨a, x', y', rfl, h1, h2, h3⟩ := r
      exact .inl ⟨a, [x', y'], rfl, seqT R.fh h1, hl, h.go G F ps σ H [x, y] [x', y'] ps' Q R (.cons h2 (.cons h3 .nil)) e q⟩
    · cases e
  · cases e
section
variable {X : Cx} {pos : Pos}
theorem dg_name {i : Nat} {x : Str} (hN : X.N.Nodup) (hi : X.N[i]? = some x) (hx : Loc X.env.scope x) (hf : X.fn x = true ∨ X.env.scope.names.lookup x = some .local := by first | exact .inl rfl | exact .inr rfl | assumption) : DG X (.Name x pos) (gName i) [i] (nmT i) := ⟨pg_name hN hi hx hf, sng_name i⟩
theorem dgs_nil : DGs X [] gNil [] nilTs := ⟨pgs_nil, sngs_nil⟩
theorem dgs_cons {e : Expr} {es : List Expr} {g : TG} {gs : TGs} {is js : List Nat} {f : Dat → PS → Option PS} {fs : List Dat → PS → Option PS} (h : DG X e g is f) (hs : DGs X es gs js fs)
    (hq : (assignEach (e :: es) X.env).map (·.2) = assign e X.env :: (assignEach es X.env).map (·.2) := by rfl) : DGs X (e :: es) (gCons g gs) (is ++ js) (consTs f fs) := ⟨pgs_cons h.pe hs.pe hq, sngs_cons h.sn hs.sn⟩
theorem dg_tup {es : List Expr} {k : Nat} {gs : TGs} {is : List Nat} {fs : List Dat → PS → Option PS} {n : Nat} (hc : X.calm = true) (h : DGs X es gs is fs)
    (hn : (assignEach es X.env).length = n := by rfl) (hst : (assignEach es X.env).findIdx? (·.1) = none := by rfl) : DG X (.Tuple es k pos) (gTL X.K n gs) is (tupT n fs) := ⟨pg_tl hc h.pe hn hst, sng_tup h.sn⟩
end

/-! ### what is walked -/
def Wlk (G : Ctl) (K : Fg) (J : It) (ds : List Dat) (F' : Hp) : Prop :=
  (∀ (i : Nat) (d : Dat), ds[i]? = some d → ∀ (F2 : Hp) (ps : PS) (σ : L2.St) (H2 : Hp), Rep G K F2 ps σ H2 → Same F' F2 → J.go i H2 ∧ ∀ x H3, J.yld i H2 x H3 → ∃ F3, Post G K F2 ps σ H2 F3 ps H3 ∧ Rel K F3 G.T d x) ∧
  ∀ (F2 : Hp) (ps : PS) (σ : L2.St) (H2 : Hp), Rep G K F2 ps σ H2 → Same F' F2 → J.stop ds.length H2
structure SndI (K : Fg) (wi : TI) (f : M (List Dat)) : Prop where
  go : ∀ (G : Ctl) (F : Hp) (ps : PS) (σ : L2.St) (H : Hp) (ds : List Dat) (ps' : PS) (R : It → Hp → Prop), Rep G K F ps σ H → f ps = some (ds, ps') →
    (∀ J F' H', Post G K F ps σ H F' ps' H' → Wlk G K J ds F' → R J H') → wi σ H R
structure DI (X : Cx) (tg e : Expr) (wi : TI) (f : M (List Dat)) : Prop where
  pe : PI X tg e wi
  sn : SndI X.K wi f
def iSeq (K : Fg) (te : TE) : TI := fun σ H R => te σ H fun x H1 => ∃ a, x = .ref a ∧ (((∃ xs, SqL K H1 a xs) ∧ R (Itl K a) H1) ∨ ((∃ xs, SqT K H1 a xs) ∧ R (Itt K a) H1))
theorem pi_seq {X : Cx} {tg l : Expr} {tl : TE} (hl : PE X l tl) : PI X tg l (iSeq X.K tl) where
  run := fun pins s σ H R inv h => by
    refine thn (hl.run pins s σ H _ inv h) fun v s1 ⟨x, H1, inv1, rx, a, ex, q⟩ => ?_
    subst ex
    cases rx
    have fresh1 : ∀ b ∈ [s1.heap.objs.size], FpOk X pins H1 b := fun b hb => by
      rw [List.mem_singleton.mp hb]
      exact inv1.fpOk (Nat.le_refl _) (inv1.hok.fresh (Nat.le_refl _))
    rcases q with ⟨⟨xs, hq⟩, q⟩ | ⟨⟨xs, hq⟩, q⟩
    · obtain ⟨its, _, pl, _⟩ := inv1.list hq
      exact wpAny_pyIter_list pl.isList ⟨_, _, _, _, H1, rfl, inv1.kept (t' := s1.toks) (fun b o z => Heap.get?_push_of_some _ z), turn_list a _, ⟨_, Heap.get?_push_size _ rfl, rfl, rfl⟩, fresh1, q⟩
    · obtain ⟨its, _, tup, _⟩ := inv1.tuple hq
      have tup : s1.heap.IsTuple a its.toArray := tup
      exact wpAny_pyIter_tuple tup ⟨_, _, _, _, H1, rfl, inv1.kept (t' := s1.toks) (fun b o z => Heap.get?_push_of_some _ z), turn_tuple a _, ⟨_, Heap.get?_push_size _ rfl, rfl, rfl⟩, fresh1, q⟩
def items? : Dat → Option (List Dat)
  | .list ds => some ds
  | .tuple ds => some ds
  | _ => none
theorem items_ok {d : Dat} {ds : List Dat} (h : items? d = some ds) : d = .list ds ∨ d = .tuple ds := by
  cases d <;> first
    | (cases h; exact .inl rfl)
    | (cases h; exact .inr rfl)
    | cases h
def seqIt (fe : M RV) : M (List Dat) := fun ps => (keepM fe ps).bind fun x => (items? x.1).bind fun ds => some (ds, x.2)
theorem wlk_l {G : Ctl} {K : Fg} {a : Addr} {ds : List Dat} {xs : List V} {F' : Hp} (h1 : F' a = some (.lst xs)) (h2 : RelL K F' G.T ds xs) : Wlk G K (Itl K a) ds F' := by
  refine ⟨fun i d e F2 ps σ H2 R s => ?_, fun F2 ps σ H2 R s => ?_⟩
  · obtain ⟨v, e1, r⟩ := h2.get e
    have hl : SqL K H2 a xs := SqL.of (R.fh _ _ (s _ _ h1))
    refine ⟨⟨xs, v, hl, e1⟩, fun x H3 y => ?_⟩
    obtain ⟨rfl, y⟩ := y
    have e2 := y xs hl
    rw [e1] at e2
    cases e2
    exact ⟨F2, .refl R, Rel.mono s _ _ r⟩
  · exact ⟨xs, SqL.of (R.fh _ _ (s _ _ h1)), by rw [h2.len]; exact Nat.le_refl _⟩
theorem wlk_t {G : Ctl} {K : Fg} {a : Addr} {ds : List Dat} {xs : List V} {F' : Hp} (h1 : SqT K F' a xs) (h2 : RelL K F' G.T ds xs) : Wlk G K (Itt K a) ds F' := by
  refine ⟨fun i d e F2 ps σ H2 R s => ?_, fun F2 ps σ H2 R s => ?_⟩
  · obtain ⟨v, e1, r⟩ := h2.get e
    have hl : SqT K H2 a xs := seqT (s.trans R.fh) h1
    refine ⟨⟨xs, v, hl, e1⟩, fun x H3 y => ?_⟩
    obtain ⟨rfl, y⟩ := y
    have e2 := y xs hl
    rw [e1] at e2
    cases e2
    exact ⟨F2, .refl R, Rel.mono s _ _ r⟩
  · exact ⟨xs, seqT (s.trans R.fh) h1, by rw [h2.len]; exact Nat.le_refl _⟩
theorem di_seq {X : Cx} {tg e : Expr} {te : TE} {fe : M RV} (h : DE X e te fe) : DI X tg e (iSeq X.K te) (seqIt fe) := by
  refine ⟨pi_seq h.pe, ⟨fun G F ps σ H ds ps' R Rp e q => ?_⟩⟩
  unfold seqIt at e
  obtain ⟨⟨d, ps1⟩, e1, e⟩ := Option.bind_eq_some_iff.mp e
  obtain ⟨ds', e2, e⟩ := Option.bind_eq_some_iff.mp e
  cases e
  refine keepM_go h.sn Rp e1 fun v F1 H1 P1 r1 => ?_
  rcases items_ok e2 with e2 | e2
  · have e2 : d = .list _ := e2
    subst e2
    obtain ⟨a, xs, rfl, h1, h2⟩ := rLst.mp r1
    exact ⟨a, rfl, .inl ⟨⟨xs, SqL.of (P1.rep.fh _ _ h1)⟩, q _ F1 H1 P1 (wlk_l h1 h2)⟩⟩
  · have e2 : d = .tuple _ := e2
    subst e2
    obtain ⟨a, xs, rfl, h1, h2⟩ := rTupE r1
    exact ⟨a, rfl, .inr ⟨⟨xs, seqT P1.rep.fh h1⟩, q _ F1 H1 P1 (wlk_t h1 h2)⟩⟩
/-- ranges -/
def rgD (lo : Int) (n : Nat) : List Dat := (List.range n).map fun i => .int (lo + (i : Nat))
theorem wlk_r {G : Ctl} {K : Fg} {lo : Int} {n : Nat} {F' : Hp} : Wlk G K (Itr lo n) (rgD lo n) F' := by
  refine ⟨fun i d e F2 ps σ H2 R s => ?_, fun F2 ps σ H2 R s => ?_⟩
  · unfold rgD at e
    rw [List.getElem?_map] at e
    obtain ⟨j, e1, rfl⟩ := Option.map_eq_some_iff.mp e
    obtain ⟨hl, e2⟩ := List.getElem?_eq_some_iff.mp e1
    rw [List.getElem_range] at e2
    subst e2
    refine ⟨show i < n by simpa using hl, fun x H3 y => ?_⟩
    obtain ⟨rfl, rfl⟩ := y
    exact ⟨F2, .refl R, by unfold Rel; rfl⟩
  · show n ≤ (rgD lo n).length
    unfold rgD
    simp
def rng1 (g : M (List Dat)) : M (List Dat) := fun ps => (g ps).bind fun x => match x.1 with
  | [.int j] => if b62 j then some (rgD 0 j.toNat, x.2) else none
  | _ => none
def rng2 (g : M (List Dat)) : M (List Dat) := fun ps => (g ps).bind fun x => match x.1 with
  | [.int i, .int j] => if b62 i && b62 j then some (rgD i (j - i).toNat, x.2) else none
  | _ => none
theorem one_int {K : Fg} {F : Hp} {T : Addr} {i : Int} {vs : List V} (h : RelL K F T [.int i] vs) : vs = [.int i] := by
  unfold RelL at h
  obtain ⟨y, ys, rfl, h1, h2⟩ := h
  unfold RelL at h2
  rw [rInt.mp h1, h2]
section
variable {X : Cx} {tg a b c e : Expr} {t : TA} {g : M (List Dat)} {p pos tpos : Pos} {te : TE} {fe : M RV}
theorem di_range1 (hg : Gl X "range") (hm : X.mg "range" = none) (ha : DA X [a] t g) (hs : starEach [a] X.env = [(false, eval a X.env)] := by rfl) : DI X tg (.Call (.Name "range" p) [a] [] pos) (iRng1 t) (rng1 g) := by
  refine ⟨pi_range1 hg hm ha.pe hs, ⟨fun G F ps σ H ds ps' R Rp e q => ?_⟩⟩
  unfold rng1 at e
  obtain ⟨⟨ds', ps1⟩, e1, e⟩ := Option.bind_eq_some_iff.mp e
  simp only at e
  split at e
  · rename_i j
    split at e
    · rename_i hb
      cases e
      refine ha.sn.go G F ps σ H _ _ _ Rp e1 fun vs F1 H1 P1 r1 => ?_
      exact ⟨j, one_int r1, Int.le_of_lt (b62_iff.mp hb).1, (b62_iff.mp hb).2, q _ F1 H1 P1 wlk_r⟩
    · cases e
  · cases e
theorem di_range2 (hg : Gl X "range") (hm : X.mg "range" = none) (ha : DA X [a, b] t g) (hs : starEach [a, b] X.env = [(false, eval a X.env), (false, eval b X.env)] := by rfl) (hs2 : starEach [b] X.env = [(false, eval b X.env)] := by rfl) : DI X tg (.Call (.Name "range" p) [a, b] [] pos) (iRng2 t) (rng2 g) := by
  refine ⟨pi_range2 hg hm ha.pe hs hs2, ⟨fun G F ps σ H ds ps' R Rp e q => ?_⟩⟩
  unfold rng2 at e
  obtain ⟨⟨ds', ps1⟩, e1, e⟩ := Option.bind_eq_some_iff.mp e
  simp only at e
  split at e
  · rename_i i j
    split at e
    · rename_i hb
      cases e
      simp only [Bool.and_eq_true, b62_iff] at hb
      refine ha.sn.go G F ps σ H _ _ _ Rp e1 fun vs F1 H1 P1 r1 => ?_
      exact ⟨i, j, two_int r1, ⟨Int.le_of_lt hb.1.1, hb.1.2, Int.le_of_lt hb.2.1, hb.2.2⟩, q _ F1 H1 P1 wlk_r⟩
    · cases e
  · cases e
/-- enumerate -/
def enL (ds : List Dat) : List Dat := ds.zipIdx.map fun z => .dict [(.int (z.2 : Nat), z.1)]
def enIt (fe : M RV) : M (List Dat) := fun ps => (keepM fe ps).bind fun x => (items? x.1).bind fun ds => some (enL ds, x.2)
theorem enL_get {ds : List Dat} {i : Nat} {d : Dat} (h : (enL ds)[i]? = some d) : ∃ z, ds[i]? = some z ∧ d = .dict [(.int (i : Nat), z)] := by
  unfold enL at h
  rw [List.getElem?_map, List.getElem?_zipIdx] at h
  cases q : ds[i]? with
  | none => rw [q] at h; cases h
  | some z =>
    rw [q] at h
    simp at h
    exact ⟨z, rfl, h.symm⟩
theorem yld_pair {G : Ctl} {K : Fg} {F2 : Hp} {ps : PS} {σ : L2.St} {H2 H3 : Hp} {T : Addr} {x y v : V} {d d' : Dat} (R : Rep G K F2 ps σ H2) (hv : v = .ref T) (hT : H2 T = none) (hH : H3 = upd H2 T (.tup [x, y])) (r : Rel K F2 G.T d x) (r' : Rel K F2 G.T d' y) :
    ∃ F3, Post G K F2 ps σ H2 F3 ps H3 ∧ Rel K F3 G.T (.dict [(d, d')]) v := by
  subst hv hH
  have P := R.newF (o := .tup [x, y]) hT
  refine ⟨_, P, ?_⟩
  unfold Rel
  exact ⟨T, x, y, rfl, SqT.of upd_same, Rel.mono P.same _ _ r, Rel.mono P.same _ _ r'⟩
theorem di_enum {elts : List Expr} {kk : Nat} (hg : Gl X "enumerate") (hm : X.mg "enumerate" = none) (h : DE X e te fe) (hs : starEach [e] X.env = (false, eval e X.env) :: starEach [] X.env := by rfl)
    (hs1 : starEach [e] X.env = [(false, eval e X.env)] := by rfl) : DI X (.Tuple elts kk tpos) (.Call (.Name "enumerate" p) [e] [] pos) (iEnumA X.K te) (enIt fe) := by
  refine ⟨pi_enumA hg hm h.pe hs hs1, ⟨fun G F ps σ H ds ps' R Rp e q => ?_⟩⟩
  unfold enIt at e
  obtain ⟨⟨d, ps1⟩, e1, e⟩ := Option.bind_eq_some_iff.mp e
  obtain ⟨ds', e2, e⟩ := Option.bind_eq_some_iff.mp e
  cases e
  refine keepM_go h.sn Rp e1 fun v F1 H1 P1 r1 => ?_
  rcases items_ok e2 with e2 | e2
  · have e2 : d = .list _ := e2
    subst e2
    obtain ⟨a, xs, rfl, h1, h2⟩ := rLst.mp r1
    refine ⟨a, xs, rfl, .inl ⟨SqL.of (P1.rep.fh _ _ h1), q _ F1 H1 P1 ⟨fun i d e F2 ps σ H2 R s => ?_, fun F2 ps σ H2 R s => ?_⟩⟩⟩
    · obtain ⟨z, e3, rfl⟩ := enL_get e
      obtain ⟨u, e4, r⟩ := h2.get e3
      have hl : SqL X.K H2 a xs := SqL.of (R.fh _ _ (s _ _ h1))
      refine ⟨⟨xs, u, hl, e4⟩, fun x H3 ⟨T, y, ev, hT, hH, hy⟩ => ?_⟩
      have e5 := hy xs hl
      rw [e4] at e5
      cases e5
      exact yld_pair R ev hT hH (by unfold Rel; rfl) (Rel.mono s _ _ r)
    · refine ⟨xs, SqL.of (R.fh _ _ (s _ _ h1)), ?_⟩
      unfold enL
      rw [h2.len]
      simp
  · have e2 : d = .tuple _ := e2
    subst e2
    obtain ⟨a, xs, rfl, h1, h2⟩ := rTupE r1
    refine ⟨a, xs, rfl, .inr ⟨seqT P1.rep.fh h1, q _ F1 H1 P1 ⟨fun i d e F2 ps σ H2 R s => ?_, fun F2 ps σ H2 R s => ⟨?_, seqT (s.trans R.fh) h1⟩⟩⟩⟩
    · obtain ⟨z, e3, rfl⟩ := enL_get e
      obtain ⟨u, e4, r⟩ := h2.get e3
      refine ⟨⟨ltOf e4, seqT (s.trans R.fh) h1⟩, fun x H3 ⟨T, ys, ev, hT, hH, u', e5, ey⟩ => ?_⟩
      rw [e4] at e5
      cases e5
      subst ey
      exact yld_pair R ev hT hH (by unfold Rel; rfl) (Rel.mono s _ _ r)
    · unfold enL
      rw [h2.len]
      simp
end
end MP

namespace MP
open PySem PySem.Spec PyProof.Rows L2
variable [Tbs]

/-! ### statements -/
inductive SOut where
  | nx (ps : PS)
  | rt (r : RV) (ps : PS)
  | bk (ps : PS)
  | ct (ps : PS)
abbrev SM := PS → Option SOut
/-- where an exception goes: its class, the wish -/
class Wx where
  c : Addr
  w : Value → Option Addr → L2.St → Hp → Prop
instance (priority := low) noWx : Wx := ⟨(0 : Nat), fun _ _ _ _ => True⟩
/-- an exception that leaves: its two fields, as data (no value is this) -/
def excD (a b : Dat) : Dat := .dict [(a, b), (.none, .none), (.none, .none)]
/-- its dict -/
def XdAt (K : Fg) (F : Hp) (T : Addr) (H : Hp) (d : Addr) (a b : Dat) : Prop := ∃ va vb : V, H d = some (.xd [("index", vb), ("rule", va)]) ∧ Rel K F T a va ∧ Rel K F T b vb
section WxS
variable [Wx]
def EndOk (G : Ctl) (K : Fg) (F : Hp) (D : Ends) : SOut → Prop
  | .nx ps' => ∀ F' σ' H', Rep G K F' ps' σ' H' → Same F F' → D.nx σ' H'
  | .bk ps' => ∀ F' σ' H', Rep G K F' ps' σ' H' → Same F F' → D.bk σ' H'
  | .ct ps' => ∀ F' σ' H', Rep G K F' ps' σ' H' → Same F F' → D.ct σ' H'
  | .rt r ps' => (∀ v F' σ' H', Rep G K F' ps' σ' H' → Same F F' → RetOk K F' G.T G.H0 H' r v → D.rt v H') ∧
    ∀ a b, r = .im (excD a b) → ∀ F' σ' H' d, Rep G K F' ps' σ' H' → Same F F' → XdAt K F' G.T H' d a b → Wx.w (.ref Wx.c) (some d) σ' H'
theorem EndOk.mono {G : Ctl} {K : Fg} {F F' : Hp} {D : Ends} {o : SOut} (h : EndOk G K F D o) (s : Same F F') : EndOk G K F' D o := by
  cases o with
  | nx ps => exact fun F2 σ' H' r s2 => h F2 σ' H' r (s.trans s2)
  | bk ps => exact fun F2 σ' H' r s2 => h F2 σ' H' r (s.trans s2)
  | ct ps => exact fun F2 σ' H' r s2 => h F2 σ' H' r (s.trans s2)
  | rt r ps => exact ⟨fun v F2 σ' H' r s2 q => h.1 v F2 σ' H' r (s.trans s2) q, fun a b e F2 σ' H' d r s2 q => h.2 a b e F2 σ' H' d r (s.trans s2) q⟩
structure SndS (K : Fg) (t : TS) (f : SM) : Prop where
  go : ∀ (G : Ctl) (F : Hp) (ps : PS) (σ : L2.St) (H : Hp) (o : SOut) (D : Ends), Rep G K F ps σ H → f ps = some o → EndOk G K F D o → t D σ H
structure DS (X : Cx) (st : Stmt) (t : TS) (f : SM) : Prop where
  pe : L2.PS X st t
  sn : SndS X.K t f
structure DSs (X : Cx) (st : List Stmt) (t : TS) (f : SM) : Prop where
  pe : PSs X st t
  sn : SndS X.K t f
def nxM : SM := fun ps => some (.nx ps)
def seqM (f g : SM) : SM := fun ps => (f ps).bind fun o => match o with
  | .nx ps' => g ps'
  | o => some o
theorem snd_seq {K : Fg} {t u : TS} {f g : SM} (h : SndS K t f) (h2 : SndS K u g) : SndS K (tSeq t u) (seqM f g) := by
  refine ⟨fun G F ps σ H o D R e q => ?_⟩
  unfold seqM at e
  obtain ⟨o1, e1, e⟩ := Option.bind_eq_some_iff.mp e
  refine h.go G F ps σ H o1 { D with nx := u D } R e1 ?_
  cases o1 with
  | nx ps' => exact fun F' σ' H' R' s => h2.go G F' ps' σ' H' o D R' e (q.mono s)
  | bk ps' => cases e; exact q
  | ct ps' => cases e; exact q
  | rt r ps' => cases e; exact q
section
variable {X : Cx} {st : Stmt} {rest : List Stmt} {t u : TS} {f g : SM} {e a b c : Expr} {te ta tb : TE} {fe fa fb : M RV} {pos : Pos}
theorem dss_nil : DSs X [] tNext nxM := ⟨pss_nil, ⟨fun G F ps σ H o D R e q => by
  cases e
  exact q F σ H R (Same.refl F)⟩⟩
theorem dss_one (h : DS X st t f) : DSs X [st] t f := ⟨pss_one h.pe, h.sn⟩
theorem dss_cons (h : DS X st t f) (h2 : DSs X rest u g) : DSs X (st :: rest) (tSeq t u) (seqM f g) := ⟨pss_cons h.pe h2.pe, snd_seq h.sn h2.sn⟩
theorem ds_pass : DS X (.Pass pos) tNext nxM := ⟨ps_pass, ⟨fun G F ps σ H o D R e q => by
  cases e
  exact q F σ H R (Same.refl F)⟩⟩
theorem ds_break : DS X (.Break pos) tBreak (fun ps => some (.bk ps)) := ⟨ps_break, ⟨fun G F ps σ H o D R e q => by
  cases e
  exact q F σ H R (Same.refl F)⟩⟩
theorem ds_continue : DS X (.Continue pos) tCont (fun ps => some (.ct ps)) := ⟨ps_continue, ⟨fun G F ps σ H o D R e q => by
  cases e
  exact q F σ H R (Same.refl F)⟩⟩
/-- x = e -/
def setV (i : Nat) (r : RV) (ps : PS) : Option PS := match r with
  | .im d => some (ps.put i (.fr d))
  | .nw ds => some (ps.put i (.ow ds))
  | .sl j => (keepV (.sl j) ps).bind fun x => some (x.2.put i (.fr x.1))
  | .nt t => some ((ps.unal i).put i (.tr t))
  | .pa j path => (keepV (.pa j path) ps).bind fun x => some (x.2.put i (.fr x.1))
def setM (i : Nat) (fe : M RV) : SM := fun ps => (fe ps).bind fun x => (setV i x.1 x.2).bind fun ps' => some (.nx ps')
theorem setV_ok {G : Ctl} {K : Fg} {F F1 : Hp} {ps ps1 ps2 : PS} {σ : L2.St} {H H1 : Hp} {r : RV} {v : V} {i : Nat} (P : Post G K F ps σ H F1 ps1 H1) (h : RVok G K F1 ps1 σ H H1 r v) (e : setV i r ps1 = some ps2) :
    ∃ F', Same F F' ∧ Rep G K F' ps2 (σ.set i (some v)) H1 := by
  cases r with
  | im d =>
    cases e
    exact ⟨F1, P.same, P.rep.setFr h⟩
  | nw ds =>
    cases e
    obtain ⟨p, vs, rfl, h1, h2, h3, h4, h5, _⟩ := h
    exact ⟨F1, P.same, P.rep.setOw h1 h2 h3 h4 h5⟩
  | sl j =>
    unfold setV at e
    obtain ⟨⟨d, ps3⟩, e1, e⟩ := Option.bind_eq_some_iff.mp e
    cases e
    obtain ⟨F', P', r'⟩ := keepV_ok P h e1
    exact ⟨F', P'.same, P'.rep.setFr r'⟩
  | pa j path =>
    unfold setV at e
    obtain ⟨⟨d, ps3⟩, e1, e⟩ := Option.bind_eq_some_iff.mp e
    cases e
    obtain ⟨F', P', r'⟩ := keepV_ok P h e1
    exact ⟨F', P'.same, P'.rep.setFr r'⟩
  | nt t =>
    cases e
    obtain ⟨fp, h1, h2, h3⟩ := h
    exact ⟨F1, P.same, (P.rep.unal i).setTr h1 h2 (fun p hp ⟨k, o⟩ => (h3 p hp).1 ⟨k, unal_own o⟩) unal_no⟩
theorem snd_set {K : Fg} {i : Nat} (h : SndE K te fe) : SndS K (tAsg te (gName i)) (setM i fe) := by
  refine ⟨fun G F ps σ H o D R e q => ?_⟩
  unfold setM at e
  obtain ⟨⟨r, ps1⟩, e1, e⟩ := Option.bind_eq_some_iff.mp e
  obtain ⟨ps2, e2, e⟩ := Option.bind_eq_some_iff.mp e
  cases e
  refine h.go G F ps σ H r ps1 _ R e1 fun v F1 H1 P1 r1 => ?_
  obtain ⟨F', s, R'⟩ := setV_ok P1 r1 e2
  exact q F' _ H1 R' s
theorem ds_set {i : Nat} {x : Str} {pos' : Pos} (hN : X.N.Nodup) (hi : X.N[i]? = some x) (hx : Loc X.env.scope x) (he : DE X e te fe) (hs : swapsWith e (some (.Name x pos')) pos.line X.env = pure false := by rfl) (hf : X.fn x = true ∨ X.env.scope.names.lookup x = some .local := by first | exact .inl rfl | exact .inr rfl | assumption) :
    DS X (.Assign [.Name x pos'] e pos) (tAsg te (gName i)) (setM i fe) := ⟨ps_set hN hi hx he.pe hs hf, snd_set he.sn⟩
/-- targets of several names -/
def asgM (tg : Dat → PS → Option PS) (fe : M RV) : SM := fun ps => (keepM fe ps).bind fun x => (tg x.1 x.2).bind fun ps' => some (.nx ps')
theorem ds_asg {tg : Expr} {g : TG} {is : List Nat} {ft : Dat → PS → Option PS} (he : DE X e te fe) (hg : DG X tg g is ft) (hs : swapsWithSole [tg] e pos.line X.env = pure false := by rfl) (hw : swappedStores [tg] e X.env = pure none := by rfl)
    (h1 : (assignEach [tg] X.env).map (·.2) = [assign tg X.env] := by rfl) : DS X (.Assign [tg] e pos) (tAsg te g) (asgM ft fe) := by
  refine ⟨ps_asg he.pe hg.pe hs hw h1, ⟨fun G F ps σ H o D R e q => ?_⟩⟩
  unfold asgM at e
  obtain ⟨⟨d, ps1⟩, e1, e⟩ := Option.bind_eq_some_iff.mp e
  obtain ⟨ps2, e2, e⟩ := Option.bind_eq_some_iff.mp e
  cases e
  refine keepM_go he.sn R e1 fun v F1 H1 P1 r1 => ?_
  exact hg.sn.go G F1 ps1 σ H1 d v ps2 _ P1.rep r1 e2 fun σ' R' _ _ _ => q F1 σ' H1 R' P1.same
/-- a, b = x, y -/
def slotV (r : RV) (ps : PS) : Option (Sl × PS) := match r with
  | .im d => some (.fr d, ps)
  | .nw ds => some (.ow ds, ps)
  | .sl j => (keepV (.sl j) ps).bind fun x => some (.fr x.1, x.2)
  | .nt t => some (.tr t, ps)
  | .pa j path => (keepV (.pa j path) ps).bind fun x => some (.fr x.1, x.2)
/-- a slot given what may be a tree -/
def putS (i : Nat) (s : Sl) (ps : PS) : PS := match s with
  | .tr t => (ps.unal i).put i (.tr t)
  | s => ps.put i s
def parM (i j : Nat) (fa fb : M RV) : SM := fun ps => (fa ps).bind fun x => (fb x.2).bind fun y => (slotV x.1 y.2).bind fun u => (slotV y.1 u.2).bind fun w => some (.nx (putS j w.1 (putS i u.1 w.2)))
/-- s may be put where v is -/
def SV (G : Ctl) (K : Fg) (F : Hp) (ps : PS) (σ : L2.St) (H Hs : Hp) (s : Sl) (v : V) : Prop := SlOk G K F H s (some v) ∧ (∀ p, FpS H s (some v) p → ¬ Own ps σ H p ∧ Hs p = none) ∧ ∀ j path, s ≠ .al j path
theorem rv_sv {G : Ctl} {K : Fg} {F F' : Hp} {ps ps' : PS} {σ : L2.St} {Hs H H' : Hp} {s : Sl} {v : V} (x : SV G K F ps σ H Hs s v) (P : Post G K F ps σ H F' ps' H') : SV G K F' ps' σ H' Hs s v := by
  have k : ∀ p, FpS H s (some v) p → (H' p = H p ∧ F' p = none) ∧ ¬ Own ps' σ H' p := fun p hp => by
    obtain ⟨u, e, hm, e2, e3⟩ := x.1.own hp
    obtain ⟨a, b, c⟩ := P.fresh p u hm e e2 e3 (x.2.1 p hp).1
    exact ⟨⟨by rw [a, e], b⟩, c⟩
  refine ⟨x.1.mono P.same fun p hp => (k p hp).1, fun p hp => ?_, x.2.2⟩
  have hp := (FpS.iff x.1 (fun p hp => (k p hp).1.1) p).mp hp
  exact ⟨(k p hp).2, (x.2.1 p hp).2⟩
theorem slotV_ok {G : Ctl} {K : Fg} {F F1 : Hp} {ps ps1 ps2 : PS} {σ : L2.St} {Hs H H1 : Hp} {r : RV} {v : V} {s : Sl} (P : Post G K F ps σ H F1 ps1 H1) (h : RVok G K F1 ps1 σ Hs H1 r v) (e : slotV r ps1 = some (s, ps2)) :
    ∃ F', Post G K F ps σ H F' ps2 H1 ∧ SV G K F' ps2 σ H1 Hs s v := by
  have kp : ∀ r', RVok G K F1 ps1 σ H1 H1 r' v → (keepV r' ps1).bind (fun x => some (Sl.fr x.1, x.2)) = some (s, ps2) → ∃ F', Post G K F ps σ H F' ps2 H1 ∧ SV G K F' ps2 σ H1 Hs s v := fun r' h' e => by
    obtain ⟨⟨d, ps3⟩, e1, e⟩ := Option.bind_eq_some_iff.mp e
    cases e
    obtain ⟨F', P', r'⟩ := keepV_ok (.refl P.rep) h' e1
    exact ⟨F', P.trans P', ⟨v, rfl, r'⟩, fun p f => f.elim, fun _ _ z => by cases z⟩
  cases r with
  | im d =>
    cases e
    exact ⟨F1, P, ⟨v, rfl, h⟩, fun p f => f.elim, fun _ _ z => by cases z⟩
  | nw ds =>
    cases e
    obtain ⟨p, vs, ev, h1, h2, h3, h4, h5, h6⟩ := h
    subst ev
    refine ⟨F1, P, ⟨p, vs, rfl, h1, h2, h3, h5⟩, fun q f => ?_, fun _ _ z => by cases z⟩
    have f : some (V.ref p) = some (.ref q) := f
    cases f
    exact ⟨h4, h6⟩
  | nt t =>
    cases e
    obtain ⟨fp, h1, h2, h3⟩ := h
    refine ⟨F1, P, ⟨v, fp, rfl, h1, h2⟩, fun q ⟨v', fp', ev, h4, hq⟩ => ?_, fun _ _ z => by cases z⟩
    cases ev
    rw [TrFp.uniq h4 h1.fp] at hq
    exact h3 q hq
  | sl j => exact kp (.sl j) h e
  | pa j path => exact kp (.pa j path) h e
/-- what a slot was given stood before -/
theorem slotV_old {G : Ctl} {K : Fg} {F1 F2 : Hp} {ps1 ps2 psX psY : PS} {σ : L2.St} {Hs H1 H2 : Hp} {r : RV} {v : V} {s : Sl} (h : RVok G K F1 ps1 σ Hs H1 r v) (e : slotV r psX = some (s, psY)) (P : Post G K F1 ps1 σ H1 F2 ps2 H2) {p : Addr} (f : FpS H2 s (some v) p) : H1 p ≠ none := by
  have kp : ∀ r', (keepV r' psX).bind (fun x => some (Sl.fr x.1, x.2)) = some (s, psY) → H1 p ≠ none := fun r' e => by
    obtain ⟨⟨d, ps3⟩, e1, e⟩ := Option.bind_eq_some_iff.mp e
    cases e
    exact f.elim
  cases r with
  | im d => cases e; exact f.elim
  | nw ds =>
    cases e
    obtain ⟨q, vs, ev, h1, _⟩ := h
    subst ev
    have f : some (V.ref q) = some (.ref p) := f
    cases f
    rw [h1]
    simp
  | nt t =>
    cases e
    have h' := h.post P
    obtain ⟨fp, h1, h2, h3⟩ := h
    obtain ⟨fp', h1', h2', h3'⟩ := h'
    obtain ⟨v', fp2, ev, h4, hq⟩ := f
    cases ev
    have k : ∀ q ∈ fp, H2 q = H1 q := fun q hq => by
      obtain ⟨u, e, hm, e2, e3⟩ := h1.own q hq
      rw [(P.fresh q u hm e e2 e3 (h3 q hq).1).1, e]
    rw [TrFp.uniq h4 (h1.fp.keep k)] at hq
    obtain ⟨u, e, _⟩ := h1.own p hq
    rw [e]
    simp
  | sl j => exact kp _ e
  | pa j path => exact kp _ e
theorem Rep.putS {G : Ctl} {K : Fg} {F : Hp} {ps : PS} {σ : L2.St} {H : Hp} {s : Sl} {v : V} {i : Nat} (R : Rep G K F ps σ H) (h : SlOk G K F H s (some v)) (h4 : ∀ p, FpS H s (some v) p → ¬ Own ps σ H p) (na : ∀ j path, s ≠ .al j path) : Rep G K F (MP.putS i s ps) (σ.set i (some v)) H := by
  cases s with
  | tr t => exact (R.unal i).setSl h (fun p f ⟨k, o⟩ => h4 p f ⟨k, unal_own o⟩) na (.inr unal_no)
  | un => exact R.setSl h h4 na
  | fr d => exact R.setSl h h4 na
  | ow ds => exact R.setSl h h4 na
  | al j path => exact absurd rfl (na j path)
theorem own_putS {ps : PS} {σ : L2.St} {H : Hp} {i k : Nat} {s : Sl} {p : Addr} (hl : i < σ.length) {v : V} (h : OwnAt (MP.putS i s ps) (σ.set i (some v)) H k p) : FpS H s (some v) p ∨ OwnAt ps σ H k p := by
  have go : ∀ ps', OwnAt (ps'.put i s) (σ.set i (some v)) H k p → FpS H s (some v) p ∨ OwnAt ps' σ H k p := fun ps' ⟨s', o, z1, z2, z3⟩ => by
    rcases putSet z1 with ⟨ek, ez, _⟩ | ⟨hk, z1⟩
    · subst ek
      rw [List.getElem?_set_self hl] at z2
      cases z2
      subst ez
      exact .inl z3
    · rw [List.getElem?_set_ne (Ne.symm hk)] at z2
      exact .inr ⟨s', o, z1, z2, z3⟩
  cases s with
  | tr t => exact (go _ h).imp id unal_own
  | un => exact go _ h
  | fr d => exact go _ h
  | ow ds => exact go _ h
  | al j path => exact go _ h
theorem Rep.setS {G : Ctl} {K : Fg} {F : Hp} {ps : PS} {σ : L2.St} {Hs H : Hp} {s : Sl} {v : V} {i : Nat} (R : Rep G K F ps σ H) (h : SV G K F ps σ H Hs s v) : Rep G K F (MP.putS i s ps) (σ.set i (some v)) H := R.putS h.1 (fun p f => (h.2.1 p f).1) h.2.2
theorem snd_par {K : Fg} {i j : Nat} {ta tb : TE} {fa fb : M RV} (ha : SndE K ta fa) (hb : SndE K tb fb) : SndS K (tPar i j (tCons ta (tCons tb tNil))) (parM i j fa fb) := by
  refine ⟨fun G F ps σ H o D R e q => ?_⟩
  unfold parM at e
  obtain ⟨⟨r1, ps1⟩, e1, e⟩ := Option.bind_eq_some_iff.mp e
  obtain ⟨⟨r2, ps2⟩, e2, e⟩ := Option.bind_eq_some_iff.mp e
  obtain ⟨⟨s1, ps3⟩, e3, e⟩ := Option.bind_eq_some_iff.mp e
  obtain ⟨⟨s2, ps4⟩, e4, e⟩ := Option.bind_eq_some_iff.mp e
  cases e
  refine ha.go G F ps σ H r1 ps1 _ R e1 fun v F1 H1 P1 q1 => ?_
  refine hb.go G F1 ps1 σ H1 r2 ps2 _ P1.rep e2 fun w F2 H2 P2 q2 => ?_
  refine ⟨v, w, rfl, ?_⟩
  obtain ⟨F3, P3, sv1⟩ := slotV_ok (.refl P2.rep) (q1.post P2) e3
  obtain ⟨F4, P4, sv2⟩ := slotV_ok (.refl P3.rep) (q2.post P3) e4
  have old : ∀ p, FpS H2 s1 (some v) p → H1 p ≠ none := fun p f => slotV_old q1 e3 P2 f
  have sv1 := rv_sv sv1 P4
  have R4 := P4.rep
  have R5 : Rep G K F4 (MP.putS i s1 ps4) (σ.set i (some v)) H2 := R4.setS sv1
  refine q F4 _ H2 (R5.putS sv2.1 (fun p f ho => ?_) sv2.2.2) (((P1.same.trans P2.same).trans P3.same).trans P4.same)
  obtain ⟨h4, h6⟩ := sv2.2.1 p f
  obtain ⟨k, ho⟩ := ho
  by_cases hl : i < σ.length
  · rcases own_putS hl ho with f1 | o
    · exact old p f1 h6
    · exact h4 ⟨k, o⟩
  · have e2 : σ.set i (some v) = σ := List.set_eq_of_length_le (by omega)
    rw [e2] at ho
    have hps : ∀ ps' : PS, ps'.sl.length = σ.length → ps'.put i s1 = ps' := fun ps' hl' => by
      unfold PS.put
      rw [List.set_eq_of_length_le (by omega)]
    have hl4 := R4.len
    cases s1 with
    | tr t =>
      have ho : OwnAt ((ps4.unal i).put i (.tr t)) σ H2 k p := ho
      rw [hps _ (by show (ps4.sl.map _).length = _; rw [List.length_map, hl4])] at ho
      exact h4 ⟨k, unal_own ho⟩
    | un => have ho : OwnAt (ps4.put i _) σ H2 k p := ho; rw [hps _ hl4.symm] at ho; exact h4 ⟨k, ho⟩
    | fr d => have ho : OwnAt (ps4.put i _) σ H2 k p := ho; rw [hps _ hl4.symm] at ho; exact h4 ⟨k, ho⟩
    | ow ds => have ho : OwnAt (ps4.put i _) σ H2 k p := ho; rw [hps _ hl4.symm] at ho; exact h4 ⟨k, ho⟩
    | al j path => exact absurd rfl (sv1.2.2 j path)
theorem ds_par {i j : Nat} {x y : Str} {px py pt : Pos} {kt k2 pt2} (hc : X.calm = true) (hN : X.N.Nodup) (hi : X.N[i]? = some x) (hj : X.N[j]? = some y) (hij : i ≠ j)
    (hx : X.env.scope.names.lookup x = some .local) (hy : X.env.scope.names.lookup y = some .local) (ha : DE X a ta fa) (hb : DE X b tb fb)
    (hw : swappedStores [.Tuple [.Name x px, .Name y py] kt pt] (.Tuple [a, b] k2 pt2) X.env = pure (some [x, y]))
    (hs : swapsWithSole [.Tuple [.Name x px, .Name y py] kt pt] (.Tuple [a, b] k2 pt2) pos.line X.env = pure false := by rfl)
    (h1 : starEach [a, b] X.env = (false, eval a X.env) :: starEach [b] X.env := by rfl) (h2 : starEach [b] X.env = (false, eval b X.env) :: starEach [] X.env := by rfl) :
    DS X (.Assign [.Tuple [.Name x px, .Name y py] kt pt] (.Tuple [a, b] k2 pt2) pos) (tPar i j (tCons ta (tCons tb tNil))) (parM i j fa fb) :=
  ⟨ps_par hc hN hi hj hij hx hy (pa_cons ha.pe (pa_cons hb.pe pa_nil h2) h1) hw hs, snd_par ha.sn hb.sn⟩
/-- a, b = x, y where a name is a cell: stored from the left; the pair itself is not tracked -/
theorem ps_parC {i j : Nat} {x y : Str} {a b : Expr} {ta : TA} {px py pt : Pos} {kt k2 pt2} (hc : X.calm = true) (hN : X.N.Nodup) (hi : X.N[i]? = some x) (hj : X.N[j]? = some y) (hij : i ≠ j)
    (hx : Loc X.env.scope x) (hy : Loc X.env.scope y) (ha : PA X [a, b] ta)
    (hw : swappedStores [.Tuple [.Name x px, .Name y py] kt pt] (.Tuple [a, b] k2 pt2) X.env = pure none := by rfl)
    (hs : swapsWithSole [.Tuple [.Name x px, .Name y py] kt pt] (.Tuple [a, b] k2 pt2) pos.line X.env = pure false := by rfl)
    (hn : (assignEach [.Name x px, .Name y py] X.env).length = 2 := by rfl) (hst : (assignEach [.Name x px, .Name y py] X.env).findIdx? (·.1) = none := by rfl)
    (h1 : (assignEach [.Tuple [.Name x px, .Name y py] kt pt] X.env).map (·.2) = [assign (.Tuple [.Name x px, .Name y py] kt pt) X.env] := by rfl)
    (h2 : (assignEach [.Name x px, .Name y py] X.env).map (·.2) = [assign (.Name x px) X.env, assign (.Name y py) X.env] := by rfl)
    (hfx : X.fn x = true ∨ X.env.scope.names.lookup x = some .local := by first | exact .inl rfl | exact .inr rfl | assumption) (hfy : X.fn y = true ∨ X.env.scope.names.lookup y = some .local := by first | exact .inl rfl | exact .inr rfl | assumption) :
    L2.PS X (.Assign [.Tuple [.Name x px, .Name y py] kt pt] (.Tuple [a, b] k2 pt2) pos) (tPar i j ta) := by
  refine ⟨fun pins s σ H D I h => ?_⟩
  refine wpAny_Assign_stores (Tuple_ (thn (ha.run _ pins s σ H _ I h) fun us s1 ⟨vs, H1, I1, r1, q1⟩ => ?_)) hs hw
  obtain ⟨v, w, e1, q1⟩ := q1
  subst e1
  obtain ⟨u1, u2, rfl, rv, rw'⟩ : ∃ u1 u2, us = [u1, u2] ∧ RelV v u1 ∧ RelV w u2 := by
    cases r1 with
    | cons p q =>
      cases q with
      | cons p' q' =>
        cases q'
        exact ⟨_, _, rfl, p, p'⟩
  refine wpAny_newObj_type ?_ (by show 2 ≤ sizeLine; decide)
  have I2 : Inv X pins σ H1 { s1 with heap := s1.heap.push { cls := .type "tuple", data := .seq [u1, u2].toArray } } := I1.kept (t' := s1.toks) fun b o e => Heap.get?_push_of_some _ e
  rw [h1]
  show wpAny (model X.prog X.w) X.A (assign (.Tuple [.Name x px, .Name y py] kt pt) X.env (.ref s1.heap.objs.size)) _ _ _
  refine assign_Tuple_tuple (items := #[u1, u2]) (I.ok.hd hc) (IsTup.new s1.heap _) hn hst fun h' hx' => ?_
  have I3 := I2.kept (h' := h') (t' := s1.toks) fun b o e => hx' b o (Nat.ne_of_lt (Heap.lt_size e)) e
  rw [h2]
  refine assignInOrder_cons (wpAny_assign_Name (store_ok I3 hN hi hx rv (fun s2 I4 => ?_) hfx))
  refine assignInOrder_cons (wpAny_assign_Name (store_ok I4 hN hj hy rw' (fun s3 I5 => assignInOrder_nil ?_) hfy))
  exact ⟨_, H1, I5, q1⟩
theorem ds_parC {i j : Nat} {x y : Str} {px py pt : Pos} {kt k2 pt2} (hc : X.calm = true) (hN : X.N.Nodup) (hi : X.N[i]? = some x) (hj : X.N[j]? = some y) (hij : i ≠ j)
    (hx : Loc X.env.scope x) (hy : Loc X.env.scope y) (ha : DE X a ta fa) (hb : DE X b tb fb)
    (hw : swappedStores [.Tuple [.Name x px, .Name y py] kt pt] (.Tuple [a, b] k2 pt2) X.env = pure none := by rfl)
    (hs : swapsWithSole [.Tuple [.Name x px, .Name y py] kt pt] (.Tuple [a, b] k2 pt2) pos.line X.env = pure false := by rfl)
    (h1 : starEach [a, b] X.env = (false, eval a X.env) :: starEach [b] X.env := by rfl) (h2 : starEach [b] X.env = (false, eval b X.env) :: starEach [] X.env := by rfl)
    (hn : (assignEach [.Name x px, .Name y py] X.env).length = 2 := by rfl) (hst : (assignEach [.Name x px, .Name y py] X.env).findIdx? (·.1) = none := by rfl)
    (g1 : (assignEach [.Tuple [.Name x px, .Name y py] kt pt] X.env).map (·.2) = [assign (.Tuple [.Name x px, .Name y py] kt pt) X.env] := by rfl)
    (g2 : (assignEach [.Name x px, .Name y py] X.env).map (·.2) = [assign (.Name x px) X.env, assign (.Name y py) X.env] := by rfl)
    (hfx : X.fn x = true ∨ X.env.scope.names.lookup x = some .local := by first | exact .inl rfl | exact .inr rfl | assumption) (hfy : X.fn y = true ∨ X.env.scope.names.lookup y = some .local := by first | exact .inl rfl | exact .inr rfl | assumption) :
    DS X (.Assign [.Tuple [.Name x px, .Name y py] kt pt] (.Tuple [a, b] k2 pt2) pos) (tPar i j (tCons ta (tCons tb tNil))) (parM i j fa fb) :=
  ⟨ps_parC hc hN hi hj hij hx hy (pa_cons ha.pe (pa_cons hb.pe pa_nil h2) h1) hw hs hn hst g1 g2 hfx hfy, snd_par ha.sn hb.sn⟩
/-- x += e, two ints -/
def augM (i : Nat) (g : Dat → Dat → Option RV) (fe : M RV) : SM := fun ps => match ps.sl[i]? with
  | some (.fr d) => (keepM fe ps).bind fun x => (g d x.1).bind fun r => match r with
    | .im d' => some (.nx (x.2.put i (.fr d')))
    | _ => none
  | _ => none
def augI (f : Int → Int → Int) : Dat → Dat → Option RV
  | .int i, .int j => some (.im (.int (f i j)))
  | _, _ => none
theorem ds_aug {i : Nat} {x : Str} {op : Operator} {f : Int → Int → Int} {pos' : Pos} (hN : X.N.Nodup) (hi : X.N[i]? = some x) (hx : Loc X.env.scope x) (he : DE X e te fe) (ho : PIp X op (ipI f)) (hf : X.fn x = true ∨ X.env.scope.names.lookup x = some .local := by first | exact .inl rfl | exact .inr rfl | assumption) :
    DS X (.AugAssign (.Name x pos') op e pos) (tAug i te (ipI f)) (augM i (augI f) fe) := by
  refine ⟨ps_aug hN hi hx he.pe ho hf, ⟨fun G F ps σ H o D R e q => ?_⟩⟩
  unfold augM at e
  split at e
  · rename_i d ed
    obtain ⟨⟨d2, ps1⟩, e1, e⟩ := Option.bind_eq_some_iff.mp e
    obtain ⟨r, e2, e⟩ := Option.bind_eq_some_iff.mp e
    obtain ⟨o1, e3, v, rfl, rv⟩ := R.slots i _ ed
    refine ⟨v, e3, keepM_go he.sn R e1 fun w F1 H1 P1 r1 => ?_⟩
    have e2 : augI f d d2 = some r := e2
    unfold augI at e2
    split at e2
    · cases e2
      cases e
      have r1 := rInt.mp r1
      have rv := rInt.mp rv
      refine ⟨_, _, rv, r1, q F1 _ H1 (P1.rep.setFr (by unfold Rel; rfl)) P1.same⟩
    · cases e2
  · cases e
/-- x[i] = e -/
def stoM (j : Nat) (fi fe : M RV) : SM := fun ps => (keepM fe ps).bind fun x => match x.2.sl[j]? with
  | some (.ow _) => (keepM fi x.2).bind fun y => match y.1, y.2.sl[j]? with
    | .int k, some (.ow ds) => (ixN ds.length k).bind fun n => some (.nx (y.2.put j (.ow (ds.set n x.1))))
    | _, _ => none
  | _ => none
theorem snd_sto {K : Fg} {ti : TE} {fi : M RV} {j : Nat} (he : SndE K te fe) (hi : SndE K ti fi) : SndS K (tAsg te (gSub (tVar j) ti rSetL)) (stoM j fi fe) := by
  refine ⟨fun G F ps σ H o D R e q => ?_⟩
  unfold stoM at e
  obtain ⟨⟨d, ps1⟩, e1, e⟩ := Option.bind_eq_some_iff.mp e
  simp only at e
  split at e
  · rename_i ds0 ed0
    obtain ⟨⟨di, ps2⟩, e2, e⟩ := Option.bind_eq_some_iff.mp e
    simp only at e
    split at e
    · rename_i k ds ed
      obtain ⟨n, e3, e⟩ := Option.bind_eq_some_iff.mp e
      cases e
      refine keepM_go he R e1 fun v F1 H1 P1 r1 => ?_
      obtain ⟨o1, e4, p, vs0, rfl, _⟩ := P1.rep.slots j _ ed0
      refine ⟨.ref p, e4, keepM_go hi P1.rep e2 fun w F2 H2 P2 r2 => ?_⟩
      obtain ⟨o2, e5, p', vs, eo, h1, h2, h3, h4⟩ := P2.rep.slots j _ ed
      rw [e4] at e5
      cases e5
      cases eo
      have P3 := P2.rep.wr ed e4 (h4.set n (Rel.mono P2.same _ _ r1))
      refine ⟨p, vs, k, n, rfl, rInt.mp r2, h1, by rw [h4.len]; exact e3, q F2 σ _ P3.rep (P1.same.trans P2.same)⟩
    · cases e
  · cases e
theorem ds_sto {j : Nat} {x : Str} {i : Expr} {ti : TE} {fi : M RV} {px spos : Pos} (hN : X.N[j]? = some x) (hv : Vis X.env.scope x) (he : DE X e te fe) (hi : DE X i ti fi)
    (ha : ∀ v, assign (.Subscript (.Name x px) i spos) X.env v = (do
      let ov ← holding [v] (eval (.Name x px) X.env)
      let iv ← holding [v, ov] (eval i X.env)
      standAt spos
      holding [v, ov, iv] (setItem ov iv v)
      release [v, ov, iv] []) := by intro _; rfl)
    (hs : swapsWithSole [.Subscript (.Name x px) i spos] e pos.line X.env = pure false := by rfl) (hw : swappedStores [.Subscript (.Name x px) i spos] e X.env = pure none := by rfl)
    (h1 : (assignEach [.Subscript (.Name x px) i spos] X.env).map (·.2) = [assign (.Subscript (.Name x px) i spos) X.env] := by rfl)
    (hd : (x == ("__debug__" : Str)) = false := by decide) (hcd : (x == ("__classdict__" : Str)) = false := by decide) : DS X (.Assign [.Subscript (.Name x px) i spos] e pos) (tAsg te (gSub (tVar j) ti rSetL)) (stoM j fi fe) :=
  ⟨ps_asg he.pe (pg_sub (pe_var hN hv hd hcd) hi.pe set_list ha) hs hw h1, snd_sto he.sn hi.sn⟩
/-- x.append(e) -/
def appM (j : Nat) (fe : M RV) : SM := fun ps => match ps.sl[j]? with
  | some (.ow _) => (keepM fe ps).bind fun x => match x.2.sl[j]? with
    | some (.ow ds) => if decide (ds.length < sizeLine) then some (.nx (x.2.put j (.ow (ds ++ [x.1])))) else none
    | _ => none
  | _ => none
theorem snd_app {K : Fg} {j : Nat} (he : SndE K te fe) : SndS K (tDrop (tBM K "list" rAppend (tVar j) (tCons te tNil))) (appM j fe) := by
  refine ⟨fun G F ps σ H o D R e q => ?_⟩
  unfold appM at e
  split at e
  · rename_i ds0 ed0
    obtain ⟨⟨d, ps1⟩, e1, e⟩ := Option.bind_eq_some_iff.mp e
    simp only at e
    split at e
    · rename_i ds ed
      split at e
      · rename_i hl
        cases e
        obtain ⟨o1, e4, p, vs0, rfl, hp, _⟩ := R.slots j _ ed0
        refine ⟨.ref p, e4, .inl ⟨rfl, _, SqL.of hp⟩, keepM_go he R e1 fun v F1 H1 P1 r1 => ?_⟩
        obtain ⟨o2, e5, p', vs, eo, h1, h2, h3, h4⟩ := P1.rep.slots j _ ed
        rw [e4] at e5
        cases e5
        cases eo
        have P3 := P1.rep.wr ed e4 (h4.append (.cons r1 .nil))
        exact ⟨p, vs, v, rfl, rfl, h1, by rw [h4.len]; exact of_decide_eq_true hl, q F1 σ _ P3.rep P1.same⟩
      · cases e
    · cases e
  · cases e
theorem ds_app {j : Nat} {x : Str} {px apos cpos : Pos} (hN : X.N[j]? = some x) (hv : Vis X.env.scope x) (he : DE X e te fe)
    (hbase : attributeBase (.Name x px) "append" X.env (eval (.Name x px) X.env) = eval (.Name x px) X.env := by rfl)
    (hfew : ((backTo cpos (starEach (e :: []) X.env)).all (fun z => !z.1) && (backToKw cpos (keywordEach [] X.env)).all (fun z => z.1.isSome) && decide ((e :: []).length + ([] : List Keyword).length + (if ([] : List Keyword).isEmpty then 0 else 1) < 30)) = true := by rfl)
    (hline : (apos.endLine == cpos.line) = true := by rfl) (h1 : starEach [e] X.env = (false, eval e X.env) :: starEach [] X.env := by rfl) (hplain : (backTo cpos (starEach [] X.env)).any (·.1) = false := by rfl)
    (hs : swapsWith (.Call (.Attribute (.Name x px) "append" apos) [e] [] cpos) none pos.line X.env = pure false := by rfl)
    (hd : (x == ("__debug__" : Str)) = false := by decide) (hcd : (x == ("__classdict__" : Str)) = false := by decide) :
    DS X (.Expr (.Call (.Attribute (.Name x px) "append" apos) [e] [] cpos) pos) (tDrop (tBM X.K "list" rAppend (tVar j) (tCons te tNil))) (appM j fe) :=
  ⟨ps_expr (pe_bm PySem.F.plainAttrs_list PySem.F.slot_list_append PySem.F.type_list_append mt_append (pe_var hN hv hd hcd) (pa_cons he.pe pa_nil h1) hbase hfew hline h1 hplain) hs, snd_app he.sn⟩
/-- return -/
def retV (r : RV) (ps : PS) : Option SOut := match r with
  | .im d => some (.rt (.im d) ps)
  | .nw ds => some (.rt (.nw ds) ps)
  | .sl i => match ps.sl[i]? with
    | some (.fr d) => some (.rt (.im d) ps)
    | some (.ow ds) => some (.rt (.nw ds) ps)
    | _ => none
  | .nt t => some (.rt (.nt t) ps)
  | .pa i path => match path, ps.sl[i]? with
    | [], some (.tr (.nd sh ts)) => some (.rt (.nt (.nd sh ts)) ps)
    | _, _ => none
def retM (fe : M RV) : SM := fun ps => (fe ps).bind fun x => retV x.1 x.2
theorem retV_ok {G : Ctl} {K : Fg} {F F1 : Hp} {ps ps1 : PS} {σ : L2.St} {H H1 : Hp} {r : RV} {v : V} {o : SOut} {D : Ends} (P1 : Post G K F ps σ H F1 ps1 H1) (r1 : RVok G K F1 ps1 σ H H1 r v) (e : retV r ps1 = some o) (q : EndOk G K F D o) : D.rt v H1 := by
  cases r with
  | im d =>
    cases e
    exact q.1 v F1 σ H1 P1.rep P1.same r1
  | nw ds =>
    cases e
    obtain ⟨p, vs, ev, h1, h2, h3, h4, h5, _⟩ := r1
    exact q.1 v F1 σ H1 P1.rep P1.same ⟨p, vs, ev, h1, h2, h3, h5⟩
  | sl i =>
    have r1 : σ[i]? = some (some v) := r1
    unfold retV at e
    cases z : ps1.sl[i]? with
    | none => simp [z] at e
    | some s =>
      obtain ⟨o, e2, y⟩ := P1.rep.slots i s z
      rw [r1] at e2
      cases e2
      cases s with
      | un => simp [z] at e
      | fr d =>
        simp [z] at e
        subst e
        obtain ⟨v', ev, y⟩ := y
        cases ev
        exact q.1 v F1 σ H1 P1.rep P1.same y
      | ow ds =>
        simp [z] at e
        subst e
        obtain ⟨p, vs, ev, h1, h2, h3, h4⟩ := y
        cases ev
        exact q.1 _ F1 σ H1 P1.rep P1.same ⟨p, vs, rfl, h1, h2, h3, h4⟩
      | tr t => simp [z] at e
      | al _ _ => simp [z] at e
  | nt t =>
    cases e
    obtain ⟨fp, h1, h2, h3⟩ := r1
    exact q.1 v F1 σ H1 P1.rep P1.same ⟨fp, h1, h2⟩
  | pa i path =>
    cases path with
    | cons k path => unfold retV at e; simp at e
    | nil =>
      unfold retV at e
      cases z : ps1.sl[i]? with
      | none => simp [z] at e
      | some s =>
        cases s with
        | un => simp [z] at e
        | fr d => simp [z] at e
        | ow ds => simp [z] at e
        | al _ _ => simp [z] at e
        | tr t =>
          cases t with
          | fr d => simp [z] at e
          | nd sh ts =>
            simp [z] at e
            subst e
            obtain ⟨o, e2, v0, fp, rfl, h1, h2⟩ := P1.rep.slots i _ z
            have h1' := h1
            unfold TrOk at h1'
            obtain ⟨p, vs, fq, ev, _⟩ := h1'
            have ev2 := r1 p ⟨_, v0, z, e2, by unfold AddrAt; exact ev⟩
            rw [← ev] at ev2
            subst ev2
            exact q.1 _ F1 σ H1 P1.rep P1.same ⟨fp, h1, h2⟩
theorem ds_ret (he : DE X e te fe) : DS X (.Return (some e) pos) (tRet te) (retM fe) := by
  refine ⟨ps_ret he.pe, ⟨fun G F ps σ H o D R e q => ?_⟩⟩
  unfold retM at e
  obtain ⟨⟨r, ps1⟩, e1, e⟩ := Option.bind_eq_some_iff.mp e
  exact he.sn.go G F ps σ H r ps1 _ R e1 fun v F1 H1 P1 r1 => retV_ok P1 r1 e q
theorem ds_retN : DS X (.Return none pos) tRetN (fun ps => some (.rt (.im .none) ps)) := ⟨ps_retN, ⟨fun G F ps σ H o D R e q => by
  cases e
  exact q.1 _ F σ H R (Same.refl F) (by show Rel _ _ _ _ _; unfold Rel; rfl)⟩⟩
/-- if -/
def iteM (c : M Bool) (f g : SM) : SM := fun ps => (c ps).bind fun x => if x.1 then f x.2 else g x.2
theorem ds_ite {c : Expr} {l1 l2 : List Stmt} {tc : TT} {fc : M Bool} (hc : DT X c tc fc) (h1 : DSs X l1 t f) (h2 : DSs X l2 u g) : DS X (.If c l1 l2 pos) (tIfS tc t u) (iteM fc f g) := by
  refine ⟨ps_if hc.pe h1.pe h2.pe, ⟨fun G F ps σ H o D R e q => ?_⟩⟩
  unfold iteM at e
  obtain ⟨⟨k, ps1⟩, e1, e⟩ := Option.bind_eq_some_iff.mp e
  refine hc.sn.go G F ps σ H k ps1 _ R e1 fun F1 H1 P1 => ?_
  cases k with
  | true =>
    rw [if_pos rfl] at e
    exact iteT (h1.sn.go G F1 ps1 σ H1 o D P1.rep e (q.mono P1.same))
  | false =>
    rw [if_neg Bool.false_ne_true] at e
    exact iteF (h2.sn.go G F1 ps1 σ H1 o D P1.rep e (q.mono P1.same))

/-! ### for, while -/
def forL (tgt : Dat → PS → Option PS) (body : SM) : List Dat → SM
  | [], ps => some (.nx ps)
  | d :: ds, ps => (tgt d ps).bind fun ps1 => (body ps1).bind fun o => match o with
    | .nx q => forL tgt body ds q
    | .ct q => forL tgt body ds q
    | .bk q => some (.nx q)
    | .rt r q => some (.rt r q)
def forSM (fi : M (List Dat)) (tgt : Dat → PS → Option PS) (body : SM) : SM := fun ps => (fi ps).bind fun x => forL tgt body x.1 x.2
theorem snd_for {K : Fg} {wi : TI} {gt : TG} {tb : TS} {fi : M (List Dat)} {tgt : Dat → PS → Option PS} {is : List Nat} {body : SM} (hi : SndI K wi fi) (hg : SndG K gt is tgt) (hb : SndS K tb body) : SndS K (tFor wi gt tb) (forSM fi tgt body) := by
  refine ⟨fun G F ps σ H o D R e q => ?_⟩
  unfold forSM at e
  obtain ⟨⟨ds, ps1⟩, e1, e⟩ := Option.bind_eq_some_iff.mp e
  have e : forL tgt body ds ps1 = some o := e
  refine hi.go G F ps σ H ds ps1 _ R e1 fun J F1 H1 P1 wk => ?_
  refine ⟨fun i m σ H => ∃ F ps, m = ds.length - i ∧ i ≤ ds.length ∧ Rep G K F ps σ H ∧ Same F1 F ∧ forL tgt body (ds.drop i) ps = some o, ⟨ds.length, F1, ps1, by simp, Nat.zero_le _, P1.rep, Same.refl _, e⟩, ?_⟩
  rintro i m σ2 H2 ⟨F2, ps2, rfl, hi', R2, s2, e2⟩
  by_cases hlt : i < ds.length
  · obtain ⟨go, step⟩ := wk.1 i ds[i] (List.getElem?_eq_getElem hlt) F2 ps2 σ2 H2 R2 s2
    rw [List.drop_eq_getElem_cons hlt] at e2
    unfold forL at e2
    obtain ⟨ps3, e3, e2⟩ := Option.bind_eq_some_iff.mp e2
    obtain ⟨o1, e4, e2⟩ := Option.bind_eq_some_iff.mp e2
    refine .inr ⟨go, fun σ' H' => ∃ F ps, Rep G K F ps σ' H' ∧ Same F1 F ∧ forL tgt body (ds.drop (i + 1)) ps = some o, fun σ' H' ⟨F', ps', a, b, c⟩ => ⟨ds.length - (i + 1), by omega, F', ps', rfl, hlt, a, b, c⟩, fun x H3 y => ?_⟩
    obtain ⟨F3, P3, rx⟩ := step x H3 y
    refine hg.go G F3 ps2 σ2 H3 _ x ps3 _ P3.rep rx e3 fun σ4 R4 _ _ _ => ?_
    refine hb.go G F3 ps3 σ4 H3 o1 _ R4 e4 ?_
    have s3 : Same F1 F3 := s2.trans P3.same
    cases o1 with
    | nx q4 => exact fun F' σ' H' R' s => ⟨F', q4, R', s3.trans s, e2⟩
    | ct q4 => exact fun F' σ' H' R' s => ⟨F', q4, R', s3.trans s, e2⟩
    | bk q4 =>
      cases e2
      exact fun F' σ' H' R' s => q F' σ' H' R' ((P1.same.trans s3).trans s)
    | rt r q4 =>
      cases e2
      exact ⟨fun v F' σ' H' R' s z => q.1 v F' σ' H' R' ((P1.same.trans s3).trans s) z, fun a b e F' σ' H' d R' s z => q.2 a b e F' σ' H' d R' ((P1.same.trans s3).trans s) z⟩
  · have ei : i = ds.length := by omega
    subst ei
    rw [List.drop_length] at e2
    cases e2
    exact .inl ⟨wk.2 F2 ps2 σ2 H2 R2 s2, q F2 σ2 H2 R2 (P1.same.trans s2)⟩
theorem ds_for {tg iter : Expr} {body : List Stmt} {wi : TI} {gt : TG} {tb : TS} {fi : M (List Dat)} {tgt : Dat → PS → Option PS} {is : List Nat} {fb : SM} (hp : PassesOwn (model X.prog X.w) X.A X.env X.xe) (hc : X.calm = true) (hi : DI X tg iter wi fi) (hg : DG X tg gt is tgt) (hb : DSs X body tb fb)
    (hs : ∀ x, foldedSetIterable iter X.env x = pure x := by intro _; rfl) : DS X (.For tg iter body [] pos) (tFor wi gt tb) (forSM fi tgt fb) := ⟨ps_for hp hc hi.pe hg.pe hb.pe hs, snd_for hi.sn hg.sn hb.sn⟩
def whileN (c : M Bool) (b : SM) : Nat → SM
  | 0, _ => none
  | n + 1, ps => (c ps).bind fun x => if x.1 then (b x.2).bind fun o => match o with
    | .nx q => whileN c b n q
    | .ct q => whileN c b n q
    | .bk q => some (.nx q)
    | .rt r q => some (.rt r q)
    else some (.nx x.2)
open Classical in
noncomputable def whileM (c : M Bool) (b : SM) : SM := fun ps => if h : ∃ n o, whileN c b n ps = some o then some (Classical.choose (Classical.choose_spec h)) else none
theorem whileN_mono {c : M Bool} {b : SM} : ∀ {n : Nat} {ps : PS} {o : SOut}, whileN c b n ps = some o → whileN c b (n + 1) ps = some o
  | 0, _, _, h => by cases h
  | n + 1, ps, o, h => by
    unfold whileN at h
    unfold whileN
    obtain ⟨⟨k, ps1⟩, e1, h⟩ := Option.bind_eq_some_iff.mp h
    rw [e1]
    show (if k = true then _ else _) = _
    have h : (if k = true then _ else _) = some o := h
    cases k with
    | false =>
      rw [if_neg Bool.false_ne_true] at h ⊢
      exact h
    | true =>
      rw [if_pos rfl] at h ⊢
      obtain ⟨o1, e2, h⟩ := Option.bind_eq_some_iff.mp h
      rw [show b (true, ps1).2 = some o1 from e2]
      cases o1 with
      | nx q => exact whileN_mono h
      | ct q => exact whileN_mono h
      | bk q => exact h
      | rt r q => exact h
theorem whileN_le {c : M Bool} {b : SM} {n m : Nat} {ps : PS} {o : SOut} (h : whileN c b n ps = some o) (l : n ≤ m) : whileN c b m ps = some o := by
  induction l with
  | refl => exact h
  | step _ ih => exact whileN_mono ih
theorem whileM_of {c : M Bool} {b : SM} {n : Nat} {ps : PS} {o : SOut} (h : whileN c b n ps = some o) : whileM c b ps = some o := by
  have hx : ∃ n o, whileN c b n ps = some o := ⟨n, o, h⟩
  unfold whileM
  rw [dif_pos hx]
  have h2 := Classical.choose_spec (Classical.choose_spec hx)
  have a := whileN_le h (Nat.le_max_left n (Classical.choose hx))
  have b' := whileN_le h2 (Nat.le_max_right n (Classical.choose hx))
  rw [a] at b'
  exact b'.symm
theorem whileM_to {c : M Bool} {b : SM} {ps : PS} {o : SOut} (h : whileM c b ps = some o) : ∃ n, whileN c b n ps = some o := by
  unfold whileM at h
  split at h
  · rename_i hx
    have h2 := Classical.choose_spec (Classical.choose_spec hx)
    cases h
    exact ⟨_, h2⟩
  · cases h
/-- one turn -/
theorem whileM_eq {c : M Bool} {b : SM} {ps : PS} : whileM c b ps = (c ps).bind fun x => if x.1 then (b x.2).bind fun o => match o with
    | .nx q => whileM c b q
    | .ct q => whileM c b q
    | .bk q => some (.nx q)
    | .rt r q => some (.rt r q)
    else some (.nx x.2) := by
  have main : ∀ o, whileM c b ps = some o ↔ ((c ps).bind fun x => if x.1 then (b x.2).bind fun o => match o with
    | .nx q => whileM c b q
    | .ct q => whileM c b q
    | .bk q => some (.nx q)
    | .rt r q => some (.rt r q)
    else some (.nx x.2)) = some o := by
    intro o
    constructor
    · intro h
      obtain ⟨n, h⟩ := whileM_to h
      cases n with
      | zero => cases h
      | succ n =>
        unfold whileN at h
        obtain ⟨⟨k, ps1⟩, e1, h⟩ := Option.bind_eq_some_iff.mp h
        rw [e1]
        show (if k = true then _ else _) = _
        have h : (if k = true then _ else _) = some o := h
        cases k with
        | false =>
          rw [if_neg Bool.false_ne_true] at h ⊢
          exact h
        | true =>
          rw [if_pos rfl] at h ⊢
          obtain ⟨o1, e2, h⟩ := Option.bind_eq_some_iff.mp h
          rw [show b (true, ps1).2 = some o1 from e2]
          cases o1 with
          | nx q => exact whileM_of h
          | ct q => exact whileM_of h
          | bk q => exact h
          | rt r q => exact h
    · intro h
      obtain ⟨⟨k, ps1⟩, e1, h⟩ := Option.bind_eq_some_iff.mp h
      have h : (if k = true then _ else _) = some o := h
      cases k with
      | false =>
        rw [if_neg Bool.false_ne_true] at h
        refine whileM_of (n := 1) ?_
        unfold whileN
        rw [e1]
        exact h
      | true =>
        rw [if_pos rfl] at h
        obtain ⟨o1, e2, h⟩ := Option.bind_eq_some_iff.mp h
        have e2 : b ps1 = some o1 := e2
        have fin : ∀ n, (match o1 with
            | .nx q => whileN c b n q
            | .ct q => whileN c b n q
            | .bk q => some (.nx q)
            | .rt r q => some (.rt r q)) = some o → whileM c b ps = some o := fun n hn => by
          refine whileM_of (n := n + 1) ?_
          unfold whileN
          rw [e1, Option.bind_some, if_pos rfl, show b (true, ps1).2 = some o1 from e2]
          exact hn
        cases o1 with
        | nx q =>
          obtain ⟨n, h⟩ := whileM_to h
          exact fin n h
        | ct q =>
          obtain ⟨n, h⟩ := whileM_to h
          exact fin n h
        | bk q => exact fin 0 h
        | rt r q => exact fin 0 h
  cases h : whileM c b ps with
  | some o => exact ((main o).mp h).symm
  | none =>
    cases h2 : ((c ps).bind fun x => if x.1 then (b x.2).bind fun o => match o with
      | .nx q => whileM c b q
      | .ct q => whileM c b q
      | .bk q => some (.nx q)
      | .rt r q => some (.rt r q)
      else some (.nx x.2)) with
    | none => rfl
    | some o =>
      rw [(main o).mpr h2] at h
      cases h
theorem snd_while {K : Fg} {tc : TT} {tb : TS} {fc : M Bool} {body : SM} (hc : SndT K tc fc) (hb : SndS K tb body) : SndS K (tWhile tc tb) (whileM fc body) := by
  refine ⟨fun G F ps σ H o D R e q => ?_⟩
  obtain ⟨n, e⟩ := whileM_to e
  refine ⟨fun m σ H => ∃ F' ps, Rep G K F' ps σ H ∧ Same F F' ∧ whileN fc body m ps = some o, ⟨n, F, ps, R, Same.refl _, e⟩, ?_⟩
  rintro m σ2 H2 ⟨F2, ps2, R2, s2, e2⟩
  cases m with
  | zero => cases e2
  | succ m =>
    unfold whileN at e2
    obtain ⟨⟨k, ps3⟩, e3, e2⟩ := Option.bind_eq_some_iff.mp e2
    have e2 : (if k = true then _ else _) = some o := e2
    refine hc.go G F2 ps2 σ2 H2 k ps3 _ R2 e3 fun F3 H3 P3 => ?_
    have s3 := s2.trans P3.same
    cases k with
    | false =>
      rw [if_neg Bool.false_ne_true] at e2
      cases e2
      exact iteF (q F3 σ2 H3 P3.rep s3)
    | true =>
      rw [if_pos rfl] at e2
      obtain ⟨o1, e4, e2⟩ := Option.bind_eq_some_iff.mp e2
      refine iteT ⟨fun σ' H' => ∃ F' ps, Rep G K F' ps σ' H' ∧ Same F F' ∧ whileN fc body m ps = some o, fun σ' H' ⟨F', ps', a, b, c⟩ => ⟨m, Nat.lt_succ_self m, F', ps', a, b, c⟩, ?_⟩
      refine hb.go G F3 ps3 σ2 H3 o1 _ P3.rep e4 ?_
      cases o1 with
      | nx q4 => exact fun F' σ' H' R' s => ⟨F', q4, R', s3.trans s, e2⟩
      | ct q4 => exact fun F' σ' H' R' s => ⟨F', q4, R', s3.trans s, e2⟩
      | bk q4 =>
        cases e2
        exact fun F' σ' H' R' s => q F' σ' H' R' (s3.trans s)
      | rt r q4 =>
        cases e2
        exact ⟨fun v F' σ' H' R' s z => q.1 v F' σ' H' R' (s3.trans s) z, fun a b e F' σ' H' d R' s z => q.2 a b e F' σ' H' d R' (s3.trans s) z⟩
theorem ds_while {c : Expr} {body : List Stmt} {tc : TT} {tb : TS} {fc : M Bool} {fb : SM} (hp : PassesOwn (model X.prog X.w) X.A X.env X.xe) (hc : DT X c tc fc) (hb : DSs X body tb fb) : DS X (.While c body [] pos) (tWhile tc tb) (whileM fc fb) := ⟨ps_while hp hc.pe hb.pe, snd_while hc.sn hb.sn⟩
end

end WxS
/-! ### a def -/
def bodyFn (n : Nat) (b : SM) : Fn := fun ds dr => (b ⟨ds.map Sl.fr ++ List.replicate (n - ds.length) Sl.un, dr⟩).bind fun o => match o with
  | .rt r ps => some (r, ps.dr)
  | .nx ps => some (.im .none, ps.dr)
  | _ => none
theorem start_rep {G : Ctl} {K : Fg} {N : List Str} {dr : Dr} {ds : List Dat} {vs : List V} (fh : Same G.F0 G.H0) (r : RelL K G.F0 G.T ds vs) (hn : ds.length ≤ N.length) (hd : G.st = true → DrAt G.T G.C G.H0 dr ∧ G.F0 G.T = none ∧ G.F0 G.C = none) (hnd : G.st = false → dr = .no) (ht : ∀ P ∈ Tbs.tb K, GxR.TabG G.H0 P ∧ G.F0 P = none) :
    Rep G K G.F0 ⟨ds.map Sl.fr ++ List.replicate (N.length - ds.length) Sl.un, dr⟩ (start N vs) G.H0 := by
  have hl := r.len
  have noow : ∀ (i : Nat) (s : Sl), (ds.map Sl.fr ++ List.replicate (N.length - ds.length) Sl.un)[i]? = some s → (∃ d, ds[i]? = some d ∧ s = .fr d) ∨ (s = .un ∧ ds.length ≤ i ∧ i < N.length) := fun i s e => by
    by_cases h : i < ds.length
    · rw [List.getElem?_append_left (by simpa using h), List.getElem?_map] at e
      obtain ⟨d, e1, e2⟩ := Option.map_eq_some_iff.mp e
      exact .inl ⟨d, e1, e2.symm⟩
    · rw [List.getElem?_append_right (by simpa using Nat.le_of_not_lt h)] at e
      have h2 := List.mem_of_getElem? e
      rw [List.mem_replicate] at h2
      have h3 := ltOf e
      simp only [List.length_replicate, List.length_map] at h3
      exact .inr ⟨h2.2, Nat.le_of_not_lt h, by omega⟩
  refine ⟨?_, fun i s e => ?_, fun i j p e1 e2 => ?_, fun h => (hd h).1, fun h => ⟨(hd h).2.1, (hd h).2.2, (hd h).1.T, (hd h).1.C⟩, fh, fun a o e _ => .inl e, fun a _ => rfl, Same.refl _, hnd, fun P hP => ⟨(ht P hP).1, tab_nex (fun h => (hd h).1) (ht P hP).1, (ht P hP).2⟩, fun i j path q e _ => by
    rcases noow i _ e with ⟨d, _, z⟩ | ⟨z, _⟩ <;> cases z⟩
  · unfold L2.start
    simp [hl]
  · unfold L2.start
    rcases noow i s e with ⟨d, e1, rfl⟩ | ⟨rfl, h1, h2⟩
    · obtain ⟨v, e2, rv⟩ := r.get e1
      refine ⟨some v, ?_, v, rfl, rv⟩
      rw [List.getElem?_append_left (by simpa using ltOf e2), List.getElem?_map, e2]
      rfl
    · refine ⟨none, ?_, trivial⟩
      rw [List.getElem?_append_right (by simp; omega), List.getElem?_replicate, if_pos (by simp; omega)]
  · obtain ⟨s, o, e1, _, f⟩ := e1
    rcases noow i _ e1 with ⟨d, _, rfl⟩ | ⟨rfl, _⟩
    · exact f.elim
    · exact f.elim
theorem fn_ok {P : Program} {w : World} {K : Fg} {mg : Str → Option Value} {base : Heap} {x qual : Str} {st : Stmt} {f : Addr} {fd : FuncData} {N nms : List Str} {k n : Nat} {b : SM} (F : Fun K x qual st f fd) (S : FnScope N nms (defScope st)) (hn : nms.length = n) (hN : n ≤ N.length)
    (hd : ∀ (cdv : Value) (A : Around) (outer : List Env) (s : Shared) (H : Hp) (E : XK), Room k (A.deeper (envOfC qual (defScope st) s.heap.objs.size f cdv)) →
      ∃ t, DSs (cxOf CX0 P w K mg base N qual (defScope st) f cdv A outer s H E).nox (defBody st) t b) : FnOk P w K mg base CX0 (k + 1) f fd nms (spM K n (bodyFn N.length b)) := by
  refine F.ok S (fun vs H Q E h => ?_) (fun cdv A outer s H vs Q E hr h => ?_)
  · obtain ⟨G, F0, dr, dr', ds, r, hl, _⟩ := h
    rw [hl, hn]
  · obtain ⟨G, F0, dr, dr', ds, r, hl, fh, hd', hnd, rl, e, htb, q⟩ := h
    obtain ⟨t, D⟩ := hd cdv A outer s H E hr
    refine ⟨t, D.pe, ?_⟩
    unfold bodyFn at e
    obtain ⟨o, e1, e⟩ := Option.bind_eq_some_iff.mp e
    have R := start_rep (G := ⟨H, F0, G.T, G.C, G.st⟩) (N := N) fh rl (by rw [← rl.len, hl]; exact hN) hd' hnd htb
    have fin : ∀ {F' : Hp} {ps' : PS} {σ' : L2.St} {H' : Hp} {r : RV} {v : V}, ps'.dr = dr' → Rep ⟨H, F0, G.T, G.C, G.st⟩ K F' ps' σ' H' → RetOk K F' G.T H H' r v → (∀ v F' H', Same F0 F' → Same F' H' → (∀ a o, H a = some o → ¬ G.ex a → Kp o (H' a)) → (∀ a, H a ≠ none → F' a = F0 a) → (G.st = true → DrAt G.T G.C H' dr') → (G.st = false → dr' = .no) → (∀ a, H' a = none → H a = none) → RetOk K F' G.T H H' r v → Q v H') → Q v H' := fun {F' ps' σ' H' r v} ed R' hr q => by
      refine q v F' H' R'.ff R'.fh (fun a o h1 h2 => R'.kp a o h1 h2) (fun a h => R'.f0 a h) (fun h => by rw [← ed]; exact R'.dr h) (fun h => by rw [← ed]; exact R'.nd h) (fun a h => ?_) hr
      exact R'.h0 h
    refine D.sn.go ⟨H, F0, G.T, G.C, G.st⟩ F0 _ _ H o _ R e1 ?_
    cases o with
    | nx ps' =>
      cases e
      exact fun F' σ' H' R' s => fin rfl R' (show RetOk K F' G.T H H' (.im .none) V.non from (rNon (K := K) (F := F') (T := G.T)).mpr rfl) q
    | rt r' ps' =>
      cases e
      exact ⟨fun v F' σ' H' R' s hr => fin rfl R' hr q, fun _ _ _ _ _ _ _ _ _ _ => trivial⟩
    | bk ps' => cases e
    | ct ps' => cases e
end MP

namespace MP
open PySem PySem.Spec PyProof.Rows L2
variable [Tbs] [Wx]

/-! ### comprehensions -/
def wipeP (vs : List Nat) (ps : PS) : PS := { ps with sl := vs.foldr (fun v l => l.set v Sl.un) ps.sl }
def keepSl : Option Sl → Sl
  | some (.fr d) => .fr d
  | _ => .un
/-- the block's own names as they were -/
def restP (vs : List Nat) (ps0 ps : PS) : PS := { ps with sl := vs.foldr (fun v l => l.set v (keepSl ps0.sl[v]?)) ps.sl }
theorem foldr_set_len {α : Type} (f : Nat → α) (l : List α) : ∀ vs : List Nat, (vs.foldr (fun v l => l.set v (f v)) l).length = l.length
  | [] => rfl
  | v :: vs => by rw [List.foldr_cons, List.length_set, foldr_set_len f l vs]
theorem foldr_set_get {α : Type} (f : Nat → α) (l : List α) (j : Nat) : ∀ vs : List Nat, (vs.foldr (fun v l => l.set v (f v)) l)[j]? = if j ∈ vs ∧ j < l.length then some (f j) else l[j]?
  | [] => by simp
  | v :: vs => by
    rw [List.foldr_cons]
    by_cases e : j = v
    · subst e
      by_cases h : j < l.length
      · rw [List.getElem?_set_self (by rw [foldr_set_len]; exact h), if_pos ⟨by simp, h⟩]
      · rw [if_neg (fun z => h z.2), List.getElem?_eq_none (by rw [List.length_set, foldr_set_len]; omega), List.getElem?_eq_none (by omega)]
    · rw [List.getElem?_set_ne (Ne.symm e), foldr_set_get f l j vs]
      by_cases h : j ∈ vs ∧ j < l.length
      · rw [if_pos h, if_pos ⟨by simp [h.1], h.2⟩]
      · rw [if_neg h, if_neg (fun z => h ⟨by simpa [e] using z.1, z.2⟩)]
theorem wipe_get (σ : L2.St) (j : Nat) : ∀ vs : List Nat, (wipe σ vs)[j]? = if j ∈ vs ∧ j < σ.length then some none else σ[j]?
  | [] => by simp [wipe]
  | v :: vs => by
    unfold wipe
    by_cases e : j = v
    · subst e
      by_cases h : j < σ.length
      · rw [List.getElem?_set_self (by rw [wipe_length]; exact h), if_pos ⟨by simp, h⟩]
      · rw [if_neg (fun z => h z.2), List.getElem?_eq_none (by rw [List.length_set, wipe_length]; omega), List.getElem?_eq_none (by omega)]
    · rw [List.getElem?_set_ne (Ne.symm e), wipe_get σ j vs]
      by_cases h : j ∈ vs ∧ j < σ.length
      · rw [if_pos h, if_pos ⟨by simp [h.1], h.2⟩]
      · rw [if_neg h, if_neg (fun z => h ⟨by simpa [e] using z.1, z.2⟩)]
theorem wipe_eq {σ σ2 : L2.St} {vs : List Nat} (hl : σ2.length = σ.length) (h : ∀ j, j ∉ vs → σ2[j]? = σ[j]?) : wipe σ2 vs = wipe σ vs := by
  apply List.ext_getElem?
  intro j
  rw [wipe_get, wipe_get, hl]
  by_cases hj : j ∈ vs
  · by_cases hl2 : j < σ.length
    · rw [if_pos ⟨hj, hl2⟩, if_pos ⟨hj, hl2⟩]
    · rw [if_neg (fun z => hl2 z.2), if_neg (fun z => hl2 z.2), List.getElem?_eq_none (by omega), List.getElem?_eq_none (by omega)]
  · rw [if_neg (fun z => hj z.1), if_neg (fun z => hj z.1), h j hj]
section
variable {G : Ctl} {K : Fg} {F : Hp} {ps : PS} {σ : L2.St} {H : Hp}
theorem wipeP_get (vs : List Nat) (ps : PS) (j : Nat) : (wipeP vs ps).sl[j]? = if j ∈ vs ∧ j < ps.sl.length then some .un else ps.sl[j]? := foldr_set_get (fun _ => Sl.un) ps.sl j vs
theorem restP_get (vs : List Nat) (ps0 ps : PS) (j : Nat) : (restP vs ps0 ps).sl[j]? = if j ∈ vs ∧ j < ps.sl.length then some (keepSl ps0.sl[j]?) else ps.sl[j]? := foldr_set_get (fun v => keepSl ps0.sl[v]?) ps.sl j vs
theorem ownAt_wipe {vs : List Nat} {i : Nat} {p : Addr} (h : OwnAt (wipeP vs ps) (wipe σ vs) H i p) : OwnAt ps σ H i p := by
  obtain ⟨s, o, e1, e2, f⟩ := h
  rw [wipeP_get] at e1
  split at e1
  · cases e1
    exact f.elim
  · rename_i hn
    rw [wipe_get] at e2
    split at e2
    · cases e2
      cases s with
      | al _ _ => exact f.elim
      | un => exact f.elim
      | fr d => exact f.elim
      | ow ds => cases f
      | tr t => obtain ⟨_, _, z, _⟩ := f; cases z
    · exact ⟨s, o, e1, e2, f⟩
theorem tat_wipe {vs : List Nat} {i : Nat} {path : List Nat} {q : Addr} (h : TAt (wipeP vs ps) (wipe σ vs) H i path q) : TAt ps σ H i path q := by
  obtain ⟨t, v, e1, e2, f⟩ := h
  rw [wipeP_get] at e1
  split at e1
  · cases e1
  · rename_i hn
    rw [wipe_get] at e2
    split at e2
    · cases e2
    · exact ⟨t, v, e1, e2, f⟩
theorem own_wipe {vs : List Nat} {p : Addr} (h : Own (wipeP vs ps) (wipe σ vs) H p) : Own ps σ H p := by
  obtain ⟨i, h⟩ := h
  exact ⟨i, ownAt_wipe h⟩
theorem Rep.wipe {vs : List Nat} (R : Rep G K F ps σ H) : Rep G K F (wipeP vs ps) (L2.wipe σ vs) H := by
  refine ⟨?_, fun i s e => ?_, fun i j p e1 e2 => R.sep i j p (ownAt_wipe e1) (ownAt_wipe e2), R.dr, R.ft, R.fh, R.kp, R.f0, R.ff, R.nd, R.tab, fun i j path q e h => ?_⟩
  · rw [wipe_length, R.len]
    exact (foldr_set_len (fun _ => Sl.un) ps.sl vs).symm
  · rw [wipeP_get] at e
    rw [wipe_get, R.len]
    split at e
    · rename_i h
      cases e
      rw [if_pos h]
      exact ⟨none, rfl, trivial⟩
    · rename_i h
      rw [if_neg h]
      exact R.slots i s e
  · have h := tat_wipe h
    rw [wipeP_get] at e
    split at e
    · cases e
    · rename_i hn
      rw [wipe_get, R.len, if_neg hn]
      exact R.ali i j path q e h
/-- an object that is nobody's is written -/
theorem Rep.wrFree (R : Rep G K F ps σ H) {p : Addr} {u u' : HO} (h1 : H p = some u) (h2 : F p = none) (h3 : G.H0 p = none) (h4 : ¬ Own ps σ H p) : Rep G K F ps σ (upd H p u') ∧ ∀ q, Own ps σ (upd H p u') q ↔ Own ps σ H q := by
  have kO : ∀ q, Own ps σ H q → upd H p u' q = H q := fun q o => by
    rw [upd_ne]
    rintro rfl
    exact h4 o
  refine ⟨⟨R.len, fun i s e => ?_, fun i j q a b => R.sep i j q ((R.ownAt kO).mp a) ((R.ownAt kO).mp b), fun h => ?_, R.ft, fun b x e => ?_, fun a o ha hx => ?_, R.f0, R.ff, R.nd, R.tab, fun i j path q e h => R.ali i j path q e (R.tAt kO h)⟩, fun q => R.ownI kO⟩
  · obtain ⟨o, e1, q⟩ := R.slots i s e
    refine ⟨o, e1, q.mono (Same.refl F) fun q' hq => ⟨kO q' ⟨i, s, o, e, e1, hq⟩, ?_⟩⟩
    obtain ⟨_, _, _, z, _⟩ := q.own hq
    exact z
  · refine (R.dr h).keep fun a o ha hx => ?_
    rw [upd_ne]
    · exact ha
    · obtain ⟨_, _, c, d⟩ := R.ft h
      rintro rfl
      rcases hx with rfl | rfl
      · exact c h3
      · exact d h3
  · rw [upd_ne]
    · exact R.fh _ _ e
    · rintro rfl
      rw [h2] at e
      cases e
  · rw [upd_ne]
    · exact R.kp a o ha hx
    · rintro rfl
      rw [h3] at ha
      cases ha
end
/-- p is a list that is nobody's -/
structure Loose (G : Ctl) (F : Hp) (ps : PS) (σ : L2.St) (H : Hp) (p : Addr) (o : HO) : Prop where
  a : H p = some o
  b : F p = none
  c : G.H0 p = none
  d : ¬ Own ps σ H p
  m : MutO o
theorem Loose.post {G : Ctl} {K : Fg} {F F' : Hp} {ps ps' : PS} {σ : L2.St} {H H' : Hp} {p : Addr} {o : HO} (l : Loose G F ps σ H p o) (P : Post G K F ps σ H F' ps' H') : Loose G F' ps' σ H' p o := by
  obtain ⟨a, b, c⟩ := P.fresh p o l.m l.a l.b l.c l.d
  exact ⟨a, b, l.c, c, l.m⟩

def lcL (vs : List Nat) (tgt : Dat → PS → Option PS) (tst : M Bool) (elt : M RV) : List Dat → List Dat → PS → Option (List Dat × PS)
  | [], acc, ps => some (acc, ps)
  | d :: ds, acc, ps => (tgt d ps).bind fun ps1 => (tst ps1).bind fun x => if x.1 then
      (keepM elt x.2).bind fun y => if decide (acc.length < sizeLine) then lcL vs tgt tst elt ds (acc ++ [y.1]) (wipeP vs y.2) else none
    else lcL vs tgt tst elt ds acc (wipeP vs x.2)
def lcM (vs : List Nat) (fi : M (List Dat)) (tgt : Dat → PS → Option PS) (tst : M Bool) (elt : M RV) : M RV := fun ps =>
  (fi ps).bind fun x => (lcL vs tgt tst elt x.1 [] (wipeP vs x.2)).bind fun y => some (.nw y.1, restP vs x.2 y.2)
/-- a walk, as long as what is nobody's stays so -/
def WlkO (G : Ctl) (K : Fg) (J : It) (ds : List Dat) (F1 : Hp) (ps1 : PS) (σ1 : L2.St) (H1 : Hp) : Prop :=
  (∀ (i : Nat) (d : Dat), ds[i]? = some d → ∀ (F2 : Hp) (ps : PS) (σ : L2.St) (H2 : Hp), Rep G K F2 ps σ H2 → Same F1 F2 → (∀ p ws, Loose G F1 ps1 σ1 H1 p ws → Loose G F2 ps σ H2 p ws) → J.go i H2 ∧ ∀ x H3, J.yld i H2 x H3 → ∃ F3, Post G K F2 ps σ H2 F3 ps H3 ∧ Rel K F3 G.T d x) ∧
  ∀ (F2 : Hp) (ps : PS) (σ : L2.St) (H2 : Hp), Rep G K F2 ps σ H2 → Same F1 F2 → (∀ p ws, Loose G F1 ps1 σ1 H1 p ws → Loose G F2 ps σ H2 p ws) → J.stop ds.length H2
theorem Wlk.toO {G : Ctl} {K : Fg} {J : It} {ds : List Dat} {F1 : Hp} {ps1 : PS} {σ1 : L2.St} {H1 : Hp} (w : Wlk G K J ds F1) : WlkO G K J ds F1 ps1 σ1 H1 :=
  ⟨fun i d e F2 ps σ H2 R s _ => w.1 i d e F2 ps σ H2 R s, fun F2 ps σ H2 R s _ => w.2 F2 ps σ H2 R s⟩
theorem rest_rep {G : Ctl} {K : Fg} {F1 F2 H1 H2 : Hp} {ps1 psE : PS} {σ : L2.St} {vs : List Nat} (R1 : Rep G K F1 ps1 σ H1) (R2 : Rep G K F2 psE (wipe σ vs) H2) (s2 : Same F1 F2) :
    Rep G K F2 (restP vs ps1 psE) σ H2 ∧ OLe (restP vs ps1 psE) σ psE (wipe σ vs) H2 := by
  have ownB : ∀ (a : Nat) (s : Sl) (o : Option V) (p : Addr), (restP vs ps1 psE).sl[a]? = some s → σ[a]? = some o → (FpS H2 s o p ∨ ∃ t, s = .tr t) → psE.sl[a]? = some s ∧ (wipe σ vs)[a]? = some o := fun a s o p z1 z2 f => by
    rw [restP_get] at z1
    split at z1
    · unfold keepSl at z1
      split at z1
      · cases z1
        rcases f with f | ⟨t, f⟩
        · exact f.elim
        · cases f
      · cases z1
        rcases f with f | ⟨t, f⟩
        · exact f.elim
        · cases f
    · rename_i hn
      refine ⟨z1, ?_⟩
      rw [wipe_get, if_neg]
      · exact z2
      · intro z
        exact hn ⟨z.1, ltOf z1⟩
  have hlen : psE.sl.length = σ.length := by rw [← R2.len, wipe_length]
  have ole : ∀ i p, OwnAt (restP vs ps1 psE) σ H2 i p → OwnAt psE (wipe σ vs) H2 i p := fun i p ⟨s, o, z1, z2, f⟩ => ⟨s, o, (ownB i s o p z1 z2 (.inl f)).1, (ownB i s o p z1 z2 (.inl f)).2, f⟩
  refine ⟨⟨?_, fun j s z => ?_, fun a b p z1 z2 => R2.sep a b p (ole a p z1) (ole b p z2), R2.dr, R2.ft, R2.fh, R2.kp, R2.f0, R2.ff, R2.nd, R2.tab, fun i j path q e ⟨t, v, z1, z2, a⟩ => ?_⟩, fun p ⟨i, h⟩ => ⟨i, ole i p h⟩, fun i path q ⟨t, v, z1, z2, a⟩ => ⟨t, v, (ownB i _ _ q z1 z2 (.inr ⟨t, rfl⟩)).1, (ownB i _ _ q z1 z2 (.inr ⟨t, rfl⟩)).2, a⟩⟩
  · rw [← hlen]
    exact (foldr_set_len (fun v => keepSl ps1.sl[v]?) psE.sl vs).symm
  · rw [restP_get] at z
    split at z
    · rename_i hj
      cases z
      have hj1 : j < ps1.sl.length := by rw [← R1.len, ← hlen]; exact hj.2
      obtain ⟨o, y1, y2⟩ := R1.slots j _ (List.getElem?_eq_getElem hj1)
      refine ⟨o, y1, ?_⟩
      rw [List.getElem?_eq_getElem hj1]
      cases hs : ps1.sl[j] with
      | un => trivial
      | ow _ => trivial
      | tr _ => trivial
      | al _ _ => trivial
      | fr d =>
        rw [hs] at y2
        obtain ⟨v, ev, rv⟩ := y2
        exact ⟨v, ev, Rel.mono s2 _ _ rv⟩
    · rename_i hn
      obtain ⟨o, y1, y2⟩ := R2.slots j s z
      refine ⟨o, ?_, y2⟩
      rw [wipe_get, if_neg] at y1
      · exact y1
      · intro w
        exact hn ⟨w.1, ltOf z⟩
  · have tq : TAt psE (wipe σ vs) H2 j path q := ⟨t, v, (ownB j _ _ q z1 z2 (.inr ⟨t, rfl⟩)).1, (ownB j _ _ q z1 z2 (.inr ⟨t, rfl⟩)).2, a⟩
    rw [restP_get] at e
    split at e
    · unfold keepSl at e
      split at e <;> cases e
    · rename_i hn
      have w := R2.ali i j path q e tq
      rw [wipe_get, if_neg] at w
      · exact w
      · intro w
        exact hn ⟨w.1, ltOf e⟩
theorem lc_gen {K : Fg} {wi : TI} {gt : TG} {tt : TT} {te : TE} {vs is : List Nat} {tgt : Dat → PS → Option PS} {tst : M Bool} {elt : M RV} (hg : SndG K gt is tgt) (hv : ∀ j ∈ is, j ∈ vs) (ht : SndT K tt tst) (he : SndE K te elt)
    {G : Ctl} {F H : Hp} {ps ps1 psE : PS} {σ : L2.St} {ds out : List Dat} {Q : VK} {C : Hp → Hp → Prop} (R : Rep G K F ps σ H) (hi : ∀ Rr : It → Hp → Prop, (∀ J F' H', C F' H' → Post G K F ps σ H F' ps1 H' → WlkO G K J ds F' ps1 σ H' → Rr J H') → wi σ H Rr)
    (e2 : lcL vs tgt tst elt ds [] (wipeP vs ps1) = some (out, psE))
    (q : ∀ v F1 H1 F' H', C F1 H1 → Post G K F ps σ H F1 ps1 H1 → Post G K F ps σ H F' (restP vs ps1 psE) H' → (∀ p ws, Loose G F1 ps1 σ H1 p ws → Loose G F' (restP vs ps1 psE) σ H' p ws) → RVok G K F' (restP vs ps1 psE) σ H H' (.nw out) v → Q v H') :
    tLc wi gt tt te vs σ H Q := by
  refine hi _ fun J F1 H1 cc P1 wk D hD => ?_
  have R1 := P1.rep
  have hs1 := same_upd (o := .lst []) hD
  have F1D : F1 D = none := R1.fn hD
  have G0D : G.H0 D = none := R1.h0 hD
  refine ⟨fun i m H2 => ∃ F2 ps2 acc accV, m = ds.length - i ∧ i ≤ ds.length ∧ Rep G K F2 ps2 (wipe σ vs) H2 ∧ Same F1 F2 ∧ Loose G F2 ps2 (wipe σ vs) H2 D (.lst accV) ∧ RelL K F2 G.T acc accV ∧
      lcL vs tgt tst elt (ds.drop i) acc ps2 = some (out, psE) ∧ (∀ p ws, Loose G F1 ps1 σ H1 p ws → Loose G F2 ps2 (wipe σ vs) H2 p ws) ∧ (∀ a, H2 a = none → H1 a = none) ∧ (∀ i path q, TAt ps2 (wipe σ vs) H2 i path q → TAt ps1 σ H1 i path q), ?_, ?_⟩
  · have R2 := (R1.newL (vs := []) hD).rep.wipe (vs := vs)
    refine ⟨ds.length, F1, wipeP vs ps1, [], [], by simp, Nat.zero_le _, R2, Same.refl _, ⟨upd_same, F1D, G0D, fun o => R1.ownN hD ((R1.ownI (R1.keepO hs1)).mp (own_wipe o)), trivial⟩, .nil, e2, fun p ws l => ⟨hs1 _ _ l.a, l.b, l.c, fun o => l.d ((R1.ownI (R1.keepO hs1)).mp (own_wipe o)), l.m⟩, fun a h => hs1.free h, fun i path q h => R1.tAt (R1.keepO hs1) (tat_wipe h)⟩
  · rintro i m H2 ⟨F2, ps2, acc, accV, rfl, hi', R2, s2, lD, rl, e3, fk, dm, al⟩
    by_cases hlt : i < ds.length
    · obtain ⟨go, step⟩ := wk.1 i ds[i] (List.getElem?_eq_getElem hlt) F2 ps2 (wipe σ vs) H2 R2 s2 fk
      rw [List.drop_eq_getElem_cons hlt] at e3
      unfold lcL at e3
      obtain ⟨ps3, e4, e3⟩ := Option.bind_eq_some_iff.mp e3
      obtain ⟨⟨b, ps4⟩, e5, e3⟩ := Option.bind_eq_some_iff.mp e3
      have e3 : (if b = true then _ else _) = some (out, psE) := e3
      refine .inr ⟨go, fun H' => ∃ F2 ps2 acc accV, Rep G K F2 ps2 (wipe σ vs) H' ∧ Same F1 F2 ∧ Loose G F2 ps2 (wipe σ vs) H' D (.lst accV) ∧ RelL K F2 G.T acc accV ∧
        lcL vs tgt tst elt (ds.drop (i + 1)) acc ps2 = some (out, psE) ∧ (∀ p ws, Loose G F1 ps1 σ H1 p ws → Loose G F2 ps2 (wipe σ vs) H' p ws) ∧ (∀ a, H' a = none → H1 a = none) ∧ (∀ i path q, TAt ps2 (wipe σ vs) H' i path q → TAt ps1 σ H1 i path q), ?_, fun x H3 y => ?_⟩
      · rintro H' ⟨F', ps', acc', accV', a1, a2, a3, a4, a5, a6, a7, a8⟩
        exact ⟨ds.length - (i + 1), by omega, F', ps', acc', accV', rfl, hlt, a1, a2, a3, a4, a5, a6, a7, a8⟩
      · obtain ⟨F3, P3, rx⟩ := step x H3 y
        refine hg.go G F3 ps2 (wipe σ vs) H3 _ x ps3 _ P3.rep rx e4 fun σ4 R4 k4 l4 o4 => ?_
        have hw : wipe σ4 vs = wipe σ vs := by
          have h1 : wipe σ4 vs = wipe (wipe σ vs) vs := wipe_eq l4 fun j hj => k4 j fun z => hj (hv j z)
          rw [h1]
          refine wipe_eq (wipe_length σ vs) fun j hj => ?_
          rw [wipe_get, if_neg (fun z => hj z.1)]
        refine ⟨hw, ?_⟩
        have loose4 : ∀ {p ws}, Loose G F3 ps2 (wipe σ vs) H3 p ws → Loose G F3 ps3 σ4 H3 p ws := fun l => ⟨l.a, l.b, l.c, fun o => l.d (o4.own _ o), l.m⟩
        refine ht.go G F3 ps3 σ4 H3 b ps4 _ R4 e5 fun F5 H5 P5 => ?_
        have neD : ∀ {p ws}, Loose G F1 ps1 σ H1 p ws → p ≠ D := fun l z => by
          subst z
          have := l.a
          rw [hD] at this
          cases this
        cases b with
        | true =>
          rw [if_pos rfl] at e3
          obtain ⟨⟨d, ps5⟩, e6, e3⟩ := Option.bind_eq_some_iff.mp e3
          have e3 : (if decide (acc.length < sizeLine) = true then _ else _) = some (out, psE) := e3
          split at e3
          · rename_i hl
            refine iteT (keepM_go he P5.rep e6 fun v F6 H6 P6 r6 => ?_)
            have lD6 := ((loose4 (lD.post P3)).post P5).post P6
            have s6 : Same F2 F6 := (P3.same.trans P5.same).trans P6.same
            refine ⟨accV, lD6.a, by rw [rl.len]; exact of_decide_eq_true hl, F6, wipeP vs ps5, acc ++ [d], accV ++ [v], ?_, s2.trans s6, ⟨upd_same, lD6.b, lD6.c, fun o => ?_, trivial⟩, (RelL.mono s6 _ _ rl).append (.cons r6 .nil), e3, fun p ws l => ?_, fun a h => ?_, fun i' path q' h => ?_⟩
            · rw [← hw]
              exact (P6.rep.wrFree (u' := .lst (accV ++ [v])) lD6.a lD6.b lD6.c lD6.d).1.wipe
            · rw [← hw] at o
              exact lD6.d (((P6.rep.wrFree lD6.a lD6.b lD6.c lD6.d).2 _).mp (own_wipe o))
            · have l6 := ((loose4 ((fk p ws l).post P3)).post P5).post P6
              refine ⟨by rw [upd_ne (neD l)]; exact l6.a, l6.b, l6.c, fun o => ?_, l.m⟩
              rw [← hw] at o
              exact l6.d (((P6.rep.wrFree lD6.a lD6.b lD6.c lD6.d).2 _).mp (own_wipe o))
            · by_cases ha : a = D
              · subst ha
                rw [upd_same] at h
                cases h
              · rw [upd_ne ha] at h
                exact dm a (P3.dom a (P5.dom a (P6.dom a h)))
            · rw [← hw] at h
              have h := P6.rep.tAt (fun q o => by
                rw [upd_ne]
                rintro rfl
                exact lD6.d o) (tat_wipe h)
              exact al _ _ _ (P3.al _ _ _ (o4.al _ _ _ (P5.al _ _ _ (P6.al _ _ _ h))))
          · cases e3
        | false =>
          rw [if_neg Bool.false_ne_true] at e3
          have lD5 := (loose4 (lD.post P3)).post P5
          have s5 : Same F2 F5 := P3.same.trans P5.same
          refine iteF ⟨F5, wipeP vs ps4, acc, accV, ?_, s2.trans s5, ⟨lD5.a, lD5.b, lD5.c, fun o => ?_, trivial⟩, RelL.mono s5 _ _ rl, e3, fun p ws l => ?_, fun a h => dm a (P3.dom a (P5.dom a h)), fun i' path q' h => by
            rw [← hw] at h
            exact al _ _ _ (P3.al _ _ _ (o4.al _ _ _ (P5.al _ _ _ (tat_wipe h))))⟩
          · rw [← hw]
            exact P5.rep.wipe
          · rw [← hw] at o
            exact lD5.d (own_wipe o)
          · have l5 := (loose4 ((fk p ws l).post P3)).post P5
            refine ⟨l5.a, l5.b, l5.c, fun o => ?_, l.m⟩
            rw [← hw] at o
            exact l5.d (own_wipe o)
    · have ei : i = ds.length := by omega
      subst ei
      rw [List.drop_length] at e3
      cases e3
      refine .inl ⟨wk.2 F2 psE (wipe σ vs) H2 R2 s2 fk, ?_⟩
      obtain ⟨RE, ownB⟩ := rest_rep R1 R2 s2
      refine q (.ref D) F1 H1 F2 H2 cc P1 ⟨RE, P1.same.trans s2, fun p u hm h1 h2 h3 h4 => ?_, fun a h => P1.dom a (dm a h), fun i path q h => P1.al _ _ _ (al _ _ _ (ownB.al _ _ _ h))⟩ (fun p ws l => ⟨(fk p ws l).a, (fk p ws l).b, (fk p ws l).c, fun o => (fk p ws l).d (ownB.own _ o), l.m⟩) ⟨D, accV, rfl, lD.a, lD.b, lD.c, fun o => lD.d (ownB.own _ o), rl, P1.dom D hD⟩
      have l1 : Loose G F1 ps1 σ H1 p u := (Loose.mk h1 h2 h3 h4 hm : Loose G F ps σ H p u).post P1
      have l2 := fk p u l1
      exact ⟨l2.a, l2.b, fun o => l2.d (ownB.own _ o)⟩
theorem snd_lc {K : Fg} {wi : TI} {gt : TG} {tt : TT} {te : TE} {vs is : List Nat} {fi : M (List Dat)} {tgt : Dat → PS → Option PS} {tst : M Bool} {elt : M RV} (hi : SndI K wi fi) (hg : SndG K gt is tgt) (hv : ∀ j ∈ is, j ∈ vs) (ht : SndT K tt tst) (he : SndE K te elt) :
    SndE K (tLc wi gt tt te vs) (lcM vs fi tgt tst elt) := by
  refine ⟨fun G F ps σ H r ps' Q R e q => ?_⟩
  unfold lcM at e
  obtain ⟨⟨ds, ps1⟩, e1, e⟩ := Option.bind_eq_some_iff.mp e
  obtain ⟨⟨out, psE⟩, e2, e⟩ := Option.bind_eq_some_iff.mp e
  have e2 : lcL vs tgt tst elt ds [] (wipeP vs ps1) = some (out, psE) := e2
  cases e
  exact lc_gen hg hv ht he (C := fun _ _ => True) R (fun Rr k => hi.go G F ps σ H ds ps1 _ R e1 fun J F' H' P wk => k J F' H' trivial P wk.toO) e2 fun v _ _ F' H' _ _ P _ r => q v F' H' P r
/-! ### a comprehension over a list of the frame's own, which stays its own -/
def oList (j : Nat) (ps : PS) : Option (List Dat) := match ps.sl[j]? with
  | some (.ow ds) => some ds
  | _ => none
def isUn (j : Nat) (ps : PS) : Bool := match ps.sl[j]? with
  | some .un => true
  | _ => false
def lcOM (j : Nat) (w : List Dat → List Dat) (vs : List Nat) (tgt : Dat → PS → Option PS) (tst : M Bool) (elt : M RV) : M RV := fun ps =>
  (oList j ps).bind fun ds => (lcL vs tgt tst elt (w ds) [] (wipeP vs (ps.put j .un))).bind fun y => if isUn j (restP vs (ps.put j .un) y.2) then some (.nw y.1, (restP vs (ps.put j .un) y.2).put j (.ow ds)) else none
section
variable {G : Ctl} {K : Fg} {F F' : Hp} {ps : PS} {σ : L2.St} {H H' : Hp}
theorem unownAt {j i : Nat} {p : Addr} (o : OwnAt (ps.put j .un) σ H i p) : OwnAt ps σ H i p ∧ i ≠ j := by
  obtain ⟨s, o, e1, e2, f⟩ := o
  rcases putSet e1 with ⟨_, rfl, _⟩ | ⟨hj, e1⟩
  · exact f.elim
  · exact ⟨⟨s, o, e1, e2, f⟩, hj⟩
theorem Rep.unown (R : Rep G K F ps σ H) {j : Nat} : Rep G K F (ps.put j .un) σ H := by
  refine ⟨?_, fun i s e => ?_, fun a b p e1 e2 => R.sep a b p (unownAt e1).1 (unownAt e2).1, R.dr, R.ft, R.fh, R.kp, R.f0, R.ff, R.nd, R.tab, fun i k path q e ⟨t, v, z1, z2, a⟩ => by
    rcases putSet e with ⟨_, z, _⟩ | ⟨_, e⟩
    · cases z
    · rcases putSet z1 with ⟨_, z, _⟩ | ⟨_, z1⟩
      · cases z
      · exact R.ali i k path q e ⟨t, v, z1, z2, a⟩⟩
  · rw [R.len]
    show ps.sl.length = (ps.sl.set j .un).length
    rw [List.length_set]
  · rcases putSet e with ⟨rfl, rfl, hl⟩ | ⟨hj, e⟩
    · exact ⟨σ[i]'(by rw [R.len]; exact hl), List.getElem?_eq_getElem _, trivial⟩
    · exact R.slots i s e
theorem Rep.reown (R : Rep G K F ps σ H) {j : Nat} {ds : List Dat} {p : Addr} {ws : List V} (hj : σ[j]? = some (some (.ref p))) (l : Loose G F ps σ H p (.lst ws)) (r : RelL K F G.T ds ws) : Rep G K F (ps.put j (.ow ds)) σ H := by
  have h := R.setSl (i := j) (s := .ow ds) (v := .ref p) ⟨p, ws, rfl, l.a, l.b, l.c, r⟩ fun q f => by
    have f : some (V.ref p) = some (.ref q) := f
    cases f
    exact l.d
  have e : σ.set j (some (.ref p)) = σ := by
    apply List.ext_getElem?
    intro i
    by_cases hi : i = j
    · subst hi
      rw [List.getElem?_set_self (ltOf hj), hj]
    · rw [List.getElem?_set_ne (Ne.symm hi)]
  rw [e] at h
  exact h
end
/-- what begins a walk over the own list at slot j -/
structure SndIo (K : Fg) (wi : TI) (j : Nat) (w : List Dat → List Dat) : Prop where
  go : ∀ (G : Ctl) (F : Hp) (ps1 : PS) (σ : L2.St) (H : Hp) (ds : List Dat) (p : Addr) (ws : List V) (R : It → Hp → Prop), Rep G K F ps1 σ H → σ[j]? = some (some (.ref p)) → Loose G F ps1 σ H p (.lst ws) → RelL K F G.T ds ws →
    (∀ J, WlkO G K J (w ds) F ps1 σ H → R J H) → wi σ H R
theorem snd_lcO {K : Fg} {wi : TI} {gt : TG} {tt : TT} {te : TE} {vs is : List Nat} {j : Nat} {w : List Dat → List Dat} {tgt : Dat → PS → Option PS} {tst : M Bool} {elt : M RV} (hi : SndIo K wi j w) (hg : SndG K gt is tgt) (hv : ∀ j ∈ is, j ∈ vs) (ht : SndT K tt tst) (he : SndE K te elt) :
    SndE K (tLc wi gt tt te vs) (lcOM j w vs tgt tst elt) := by
  refine ⟨fun G F ps σ H r ps' Q R e q => ?_⟩
  unfold lcOM at e
  obtain ⟨ds, e1, e⟩ := Option.bind_eq_some_iff.mp e
  obtain ⟨⟨out, psE⟩, e2, e⟩ := Option.bind_eq_some_iff.mp e
  have e : (if isUn j (restP vs (ps.put j .un) psE) = true then some (RV.nw out, (restP vs (ps.put j .un) psE).put j (.ow ds)) else none) = some (r, ps') := e
  have e2 : lcL vs tgt tst elt (w ds) [] (wipeP vs (ps.put j .un)) = some (out, psE) := e2
  obtain ⟨rfl, rfl⟩ : RV.nw out = r ∧ (restP vs (ps.put j .un) psE).put j (.ow ds) = ps' := by
    by_cases hu : isUn j (restP vs (ps.put j .un) psE) = true
    · rw [if_pos hu] at e
      cases e
      exact ⟨rfl, rfl⟩
    · rw [if_neg hu] at e
      cases e
  have ej : ps.sl[j]? = some (.ow ds) := by
    unfold oList at e1
    cases z : ps.sl[j]? with
    | none => rw [z] at e1; cases e1
    | some s =>
      rw [z] at e1
      cases s with
      | ow d => cases e1; rfl
      | un => cases e1
      | fr d => cases e1
      | tr t => cases e1
      | al _ _ => cases e1
  obtain ⟨o, es, p, ws, eo, h1, h2, h3, h4⟩ := R.slots j _ ej
  subst eo
  have RU : Rep G K F (ps.put j .un) σ H := R.unown
  have own0 : OwnAt ps σ H j p := ⟨_, _, ej, es, rfl⟩
  have lo : Loose G F (ps.put j .un) σ H p (.lst ws) := ⟨h1, h2, h3, fun ⟨i, o⟩ => (unownAt o).2 (R.sep i j p (unownAt o).1 own0), trivial⟩
  have PU : Post G K F ps σ H F (ps.put j .un) H := ⟨RU, Same.refl F, fun p vs _ a b c d => ⟨a, b, fun ⟨i, o⟩ => d ⟨i, (unownAt o).1⟩⟩, fun _ h => h, fun i path q ⟨t, v, z1, z2, a⟩ => by
    rcases putSet z1 with ⟨_, z, _⟩ | ⟨_, z1⟩
    · cases z
    · exact ⟨t, v, z1, z2, a⟩⟩
  refine lc_gen hg hv ht he (C := fun F1 H1 => F1 = F ∧ H1 = H) R (ps1 := ps.put j .un) (fun Rr k => hi.go G F _ σ H ds p ws _ RU es lo h4 fun J wk => k J F H ⟨rfl, rfl⟩ PU wk) e2 fun v F1 H1 F' H' cc P1 P lk r => ?_
  obtain ⟨rfl, rfl⟩ := cc
  have l2 := lk p _ lo
  have pOwn : Own ps σ H1 p := ⟨j, own0⟩
  have back : ∀ p', Own ((restP vs (ps.put j .un) psE).put j (.ow ds)) σ H' p' → p' = p ∨ Own (restP vs (ps.put j .un) psE) σ H' p' := fun p' ⟨i, s, o, z1, z2, f⟩ => by
    rcases putSet z1 with ⟨rfl, rfl, _⟩ | ⟨_, z1⟩
    · rw [es] at z2
      cases z2
      have f : some (V.ref p) = some (.ref p') := f
      cases f
      exact .inl rfl
    · exact .inr ⟨i, s, o, z1, z2, f⟩
  refine q v F' H' ⟨P.rep.reown es l2 (RelL.mono P.same _ _ h4), P.same, fun p' vs hm a b c d => ?_, P.dom, fun i path q ⟨t, v, z1, z2, a⟩ => P.al i path q (by
    rcases putSet z1 with ⟨_, z, _⟩ | ⟨_, z1⟩
    · cases z
    · exact ⟨t, v, z1, z2, a⟩)⟩ ?_
  · obtain ⟨x, y, z⟩ := P.fresh p' vs hm a b c d
    refine ⟨x, y, fun o => ?_⟩
    rcases back p' o with rfl | o
    · exact d pOwn
    · exact z o
  · obtain ⟨D, vs', rfl, a, b, c, d, rl, hD⟩ := r
    refine ⟨D, vs', rfl, a, b, c, fun o => ?_, rl, hD⟩
    rcases back D o with rfl | o
    · rw [h1] at hD
      cases hD
    · exact d o
/-- tests of a comprehension -/
structure DTs (X : Cx) (es : List Expr) (t : TT) (f : M Bool) : Prop where
  pe : PTs X es t
  sn : SndT X.K t f

section
variable {X : Cx} {pos spos py : Pos} {elt tg iter : Expr} {ifs : List Expr} {scope : Scope} {own : List (Str × Nat)} {wi : TI} {g : TG} {tt : TT} {te : TE} {is : List Nat} {fi : M (List Dat)} {ft : Dat → PS → Option PS} {ftt : M Bool} {fe : M RV}
theorem dts_nil : DTs X [] tYes (M.ret true) := ⟨pts_nil, ⟨fun G F ps σ H b ps' Q R e q => by
  cases e
  exact q F H (.refl R)⟩⟩
theorem dts_one {c : Expr} {t : TT} {f : M Bool} (h : DT X c t f) : DTs X [c] t f := ⟨pts_one h.pe, h.sn⟩
/-- somewhere there is a block -/
theorem de_lc (hc : X.calm = true) (hN : X.N.Nodup) (hi : DI X tg iter wi fi) (ok : BlkOk X.N X.env.scope scope own)
    (hg : ∀ (s : Shared) (H : Hp) (C : Addr) (cl : List (Str × Addr)) (fp : List Addr), DG (X.blk s H scope (compEnvC scope cl C X.env) fp) tg g is ft) (hv : ∀ j ∈ is, j ∈ own.map (·.2)) (ht : ∀ (s : Shared) (H : Hp) (C : Addr) (cl : List (Str × Addr)) (fp : List Addr), DTs (X.blk s H scope (compEnvC scope cl C X.env) fp) ifs tt ftt)
    (he : ∀ (s : Shared) (H : Hp) (C : Addr) (cl : List (Str × Addr)) (fp : List Addr), DE (X.blk s H scope (compEnvC scope cl C X.env) fp) elt te fe) (hs : ∀ x, foldedSetIterable iter X.env x = pure x := by intro _; rfl) :
    DE X (.ListComp elt [⟨tg, iter, ifs, 0⟩] scope pos) (tLc wi g tt te (own.map (·.2))) (lcM (own.map (·.2)) fi ft ftt fe) :=
  ⟨pe_lc hc hN hi.pe ok (fun s H C cl fp => (hg s H C cl fp).pe) (fun s H C cl fp => (ht s H C cl fp).pe) (fun s H C cl fp => (he s H C cl fp).pe) hs,
    snd_lc hi.sn (hg ⟨X.s_0.heap, X.s_0.gens, X.s_0.drawn, X.s_0.toks, X.s_0.os⟩ X.H_0 0 [] []).sn hv (ht X.s_0 X.H_0 0 [] []).sn (he X.s_0 X.H_0 0 [] []).sn⟩
theorem ds_lc {i : Nat} {y : Str} (hc : X.calm = true) (hN : X.N.Nodup) (hy : X.N[i]? = some y) (hyl : X.env.scope.names.lookup y = some .local)
    (hsw : swapsWith (.ListComp elt [⟨tg, iter, ifs, 0⟩] scope pos) (some (.Name y py)) spos.line X.env = pure true) (hi : DI X tg iter wi fi) (ok : BlkOk X.N X.env.scope scope own)
    (hg : ∀ (s : Shared) (H : Hp) (C : Addr) (cl : List (Str × Addr)) (fp : List Addr), DG (X.blk s H scope (compEnvC scope cl C X.env) fp) tg g is ft) (hv : ∀ j ∈ is, j ∈ own.map (·.2)) (ht : ∀ (s : Shared) (H : Hp) (C : Addr) (cl : List (Str × Addr)) (fp : List Addr), DTs (X.blk s H scope (compEnvC scope cl C X.env) fp) ifs tt ftt)
    (he : ∀ (s : Shared) (H : Hp) (C : Addr) (cl : List (Str × Addr)) (fp : List Addr), DE (X.blk s H scope (compEnvC scope cl C X.env) fp) elt te fe) (hs : ∀ x, foldedSetIterable iter X.env x = pure x := by intro _; rfl) :
    DS X (.Assign [.Name y py] (.ListComp elt [⟨tg, iter, ifs, 0⟩] scope pos) spos) (tAsg (tLc wi g tt te (own.map (·.2))) (gName i)) (setM i (lcM (own.map (·.2)) fi ft ftt fe)) :=
  ⟨ps_setLc hc hN hy hyl hsw hi.pe ok (fun s H C cl fp => (hg s H C cl fp).pe) (fun s H C cl fp => (ht s H C cl fp).pe) (fun s H C cl fp => (he s H C cl fp).pe) hs,
    snd_set (snd_lc hi.sn (hg X.s_0 X.H_0 0 [] []).sn hv (ht X.s_0 X.H_0 0 [] []).sn (he X.s_0 X.H_0 0 [] []).sn)⟩
end
end MP

namespace MP
open PySem PySem.Spec PyProof.Rows L2
variable [Tbs] [Wx]

/-! ### targets that write -/
structure SndGh (K : Fg) (g : TG) (f : Dat → PS → Option PS) : Prop where
  go : ∀ (G : Ctl) (F : Hp) (ps : PS) (σ : L2.St) (H : Hp) (d : Dat) (v : V) (ps' : PS) (Q : L2.St → Hp → Prop), Rep G K F ps σ H → Rel K F G.T d v → f d ps = some ps' →
    (∀ F' σ' H', Rep G K F' ps' σ' H' → Same F F' → Q σ' H') → g v σ H Q
structure SndGhs (K : Fg) (g : TGs) (f : List Dat → PS → Option PS) : Prop where
  go : ∀ (G : Ctl) (F : Hp) (ps : PS) (σ : L2.St) (H : Hp) (ds : List Dat) (vs : List V) (ps' : PS) (Q : L2.St → Hp → Prop), Rep G K F ps σ H → RelL K F G.T ds vs → f ds ps = some ps' →
    (∀ F' σ' H', Rep G K F' ps' σ' H' → Same F F' → Q σ' H') → g vs σ H Q
structure DGh (X : Cx) (tg : Expr) (g : TG) (f : Dat → PS → Option PS) : Prop where
  pe : PG X tg g
  sn : SndGh X.K g f
structure DGhs (X : Cx) (tgs : List Expr) (g : TGs) (f : List Dat → PS → Option PS) : Prop where
  pe : PGs X tgs g
  sn : SndGhs X.K g f
theorem SndG.h {K : Fg} {g : TG} {is : List Nat} {f : Dat → PS → Option PS} (h : SndG K g is f) : SndGh K g f :=
  ⟨fun G F ps σ H d v ps' Q R r e q => h.go G F ps σ H d v ps' Q R r e fun σ' R' _ _ _ => q F σ' H R' (Same.refl F)⟩
theorem DG.h {X : Cx} {tg : Expr} {g : TG} {is : List Nat} {f : Dat → PS → Option PS} (h : DG X tg g is f) : DGh X tg g f := ⟨h.pe, h.sn.h⟩
theorem snghs_nil {K : Fg} : SndGhs K gNil nilTs :=
  ⟨fun G F ps σ H ds vs ps' Q R r e q => sngs_nil.go G F ps σ H ds vs ps' Q R r e fun σ' R' _ _ _ => q F σ' H R' (Same.refl F)⟩
theorem snghs_cons {K : Fg} {g : TG} {gs : TGs} {f : Dat → PS → Option PS} {fs : List Dat → PS → Option PS} (h : SndGh K g f) (hs : SndGhs K gs fs) : SndGhs K (gCons g gs) (consTs f fs) := by
  refine ⟨fun G F ps σ H ds vs ps' Q R r e q => ?_⟩
  unfold consTs at e
  split at e
  · rename_i d r'
    obtain ⟨ps1, e1, e⟩ := Option.bind_eq_some_iff.mp e
    unfold RelL at r
    obtain ⟨y, ys, rfl, h1, h2⟩ := r
    refine ⟨y, ys, rfl, h.go G F ps σ H d y ps1 _ R h1 e1 fun F1 σ1 H1 R1 s1 => ?_⟩
    exact hs.go G F1 ps1 σ1 H1 r' ys ps' _ R1 (RelL.mono s1 _ _ h2) e fun F2 σ2 H2 R2 s2 => q F2 σ2 H2 R2 (s1.trans s2)
  · cases e
theorem sngh_tup {K : Fg} {n : Nat} {gs : TGs} {fs : List Dat → PS → Option PS} (h : SndGhs K gs fs) : SndGh K (gTL K n gs) (tupT n fs) := by
  refine ⟨fun G F ps σ H d v ps' Q R r e q => ?_⟩
  unfold tupT at e
  split at e
  · rename_i ds
    split at e
    · rename_i hl
      obtain ⟨a, xs, rfl, h1, h2⟩ := rTupE r
      exact .inl ⟨a, xs, rfl, seqT R.fh h1, by rw [h2.len]; exact hl, h.go G F ps σ H ds xs ps' Q R h2 e q⟩
    · cases e
  · rename_i ds
    split at e
    · rename_i hl
      obtain ⟨a, xs, rfl, h1, h2⟩ := rLst.mp r
      exact .inr ⟨a, xs, rfl, SqL.of (R.fh _ _ h1), by rw [h2.len]; exact hl, h.go G F ps σ H ds xs ps' Q R h2 e q⟩
    · cases e
  · split at e
    · rename_i x y hl
      unfold Rel at r
      obtain ⟨a, x', y', rfl, h1, h2, h3⟩ := r
      exact .inl ⟨a, [x', y'], rfl, seqT R.fh h1, hl, h.go G F ps σ H [x, y] [x', y'] ps' Q R (.cons h2 (.cons h3 .nil)) e q⟩
    · cases e
  · cases e
/-- x[i] as a target -/
def subT (j : Nat) (fi : M RV) (d : Dat) (ps : PS) : Option PS := match ps.sl[j]? with
  | some (.ow _) => (keepM fi ps).bind fun y => match y.1, y.2.sl[j]? with
    | .int k, some (.ow ds) => (ixN ds.length k).bind fun n => some (y.2.put j (.ow (ds.set n d)))
    | _, _ => none
  | _ => none
theorem sngh_sub {K : Fg} {ti : TE} {fi : M RV} {j : Nat} (hi : SndE K ti fi) : SndGh K (gSub (tVar j) ti rSetL) (subT j fi) := by
  refine ⟨fun G F ps σ H d v ps' Q R r e q => ?_⟩
  unfold subT at e
  split at e
  · rename_i ds0 ed0
    obtain ⟨⟨di, ps2⟩, e2, e⟩ := Option.bind_eq_some_iff.mp e
    simp only at e
    split at e
    · rename_i k ds ed
      obtain ⟨n, e3, e⟩ := Option.bind_eq_some_iff.mp e
      cases e
      obtain ⟨o1, e4, p, vs0, rfl, _⟩ := R.slots j _ ed0
      refine ⟨.ref p, e4, keepM_go hi R e2 fun w F2 H2 P2 r2 => ?_⟩
      obtain ⟨o2, e5, p', vs, eo, h1, h2, h3, h4⟩ := P2.rep.slots j _ ed
      rw [e4] at e5
      cases e5
      cases eo
      have P3 := P2.rep.wr ed e4 (h4.set n (Rel.mono P2.same _ _ r))
      exact ⟨p, vs, k, n, rfl, rInt.mp r2, h1, by rw [h4.len]; exact e3, q F2 σ _ P3.rep P2.same⟩
    · cases e
  · cases e
section
variable {X : Cx} {pos : Pos} {e : Expr} {te : TE} {fe : M RV}
theorem dghs_nil : DGhs X [] gNil nilTs := ⟨pgs_nil, snghs_nil⟩
theorem dghs_cons {e : Expr} {es : List Expr} {g : TG} {gs : TGs} {f : Dat → PS → Option PS} {fs : List Dat → PS → Option PS} (h : DGh X e g f) (hs : DGhs X es gs fs)
    (hq : (assignEach (e :: es) X.env).map (·.2) = assign e X.env :: (assignEach es X.env).map (·.2) := by rfl) : DGhs X (e :: es) (gCons g gs) (consTs f fs) := ⟨pgs_cons h.pe hs.pe hq, snghs_cons h.sn hs.sn⟩
theorem dgh_tup {es : List Expr} {k : Nat} {gs : TGs} {fs : List Dat → PS → Option PS} {n : Nat} (hc : X.calm = true) (h : DGhs X es gs fs)
    (hn : (assignEach es X.env).length = n := by rfl) (hst : (assignEach es X.env).findIdx? (·.1) = none := by rfl) : DGh X (.Tuple es k pos) (gTL X.K n gs) (tupT n fs) := ⟨pg_tl hc h.pe hn hst, sngh_tup h.sn⟩
theorem dgh_sub {j : Nat} {x : Str} {i : Expr} {ti : TE} {fi : M RV} {px : Pos} (hN : X.N[j]? = some x) (hv : Vis X.env.scope x) (hi : DE X i ti fi)
    (ha : ∀ v, assign (.Subscript (.Name x px) i pos) X.env v = (holding [v] (eval (.Name x px) X.env) >>= fun ov => holding [v, ov] (eval i X.env) >>= fun iv => standAt pos >>= fun _ => holding [v, ov, iv] (setItem ov iv v) >>= fun _ => release [v, ov, iv] []) := by intro _; rfl)
    (hd : (x == ("__debug__" : Str)) = false := by decide) (hcd : (x == ("__classdict__" : Str)) = false := by decide) : DGh X (.Subscript (.Name x px) i pos) (gSub (tVar j) ti rSetL) (subT j fi) := ⟨pg_sub (pe_var hN hv hd hcd) hi.pe set_list ha, sngh_sub hi.sn⟩
theorem ds_asgH {tg : Expr} {g : TG} {ft : Dat → PS → Option PS} (he : DE X e te fe) (hg : DGh X tg g ft) (hs : swapsWithSole [tg] e pos.line X.env = pure false := by rfl) (hw : swappedStores [tg] e X.env = pure none := by rfl)
    (h1 : (assignEach [tg] X.env).map (·.2) = [assign tg X.env] := by rfl) : DS X (.Assign [tg] e pos) (tAsg te g) (asgM ft fe) := by
  refine ⟨ps_asg he.pe hg.pe hs hw h1, ⟨fun G F ps σ H o D R e q => ?_⟩⟩
  unfold asgM at e
  obtain ⟨⟨d, ps1⟩, e1, e⟩ := Option.bind_eq_some_iff.mp e
  obtain ⟨ps2, e2, e⟩ := Option.bind_eq_some_iff.mp e
  cases e
  refine keepM_go he.sn R e1 fun v F1 H1 P1 r1 => ?_
  exact hg.sn.go G F1 ps1 σ H1 d v ps2 _ P1.rep r1 e2 fun F' σ' H' R' s => q F' σ' H' R' (P1.same.trans s)

/-! ### methods of lists at a name -/
def popM (j : Nat) (fe : M RV) : M RV := fun ps => match ps.sl[j]? with
  | some (.ow _) => (keepM fe ps).bind fun x => match x.1, x.2.sl[j]? with
    | .int i, some (.ow ds) => if b62 i then (seqIndex? i ds.length).bind fun k => ds[k]?.bind fun y => some (.im y, x.2.put j (.ow (ds.eraseIdx k))) else none
    | _, _ => none
  | _ => none
theorem snd_pop {K : Fg} {j : Nat} (he : SndE K te fe) : SndE K (tBM K "list" rPopAt (tVar j) (tCons te tNil)) (popM j fe) := by
  refine ⟨fun G F ps σ H r ps' Q R e q => ?_⟩
  unfold popM at e
  split at e
  · rename_i ds0 ed0
    obtain ⟨⟨d, ps1⟩, e1, e⟩ := Option.bind_eq_some_iff.mp e
    simp only at e
    split at e
    · rename_i i ds ed
      split at e
      · rename_i hb
        obtain ⟨k, e2, e⟩ := Option.bind_eq_some_iff.mp e
        obtain ⟨y, e3, e⟩ := Option.bind_eq_some_iff.mp e
        cases e
        obtain ⟨o1, e4, p, vs0, rfl, hp, _⟩ := R.slots j _ ed0
        refine ⟨.ref p, e4, .inl ⟨rfl, _, SqL.of hp⟩, keepM_go he R e1 fun v F1 H1 P1 r1 => ?_⟩
        obtain ⟨o2, e5, p', vs, eo, h1, h2, h3, h4⟩ := P1.rep.slots j _ ed
        rw [e4] at e5
        cases e5
        cases eo
        obtain ⟨w, e6, rw6⟩ := h4.get e3
        have P3 := P1.rep.wr ed e4 (h4.eraseIdx k)
        exact ⟨p, vs, i, k, w, rfl, by rw [rInt.mp r1], h1, (b62_63 hb).1, (b62_63 hb).2, by rw [h4.len]; exact e2, e6, q w F1 _ (P1.trans P3) rw6⟩
      · cases e
    · cases e
  · cases e
theorem de_pop {j : Nat} {x : Str} {px apos cpos : Pos} (hN : X.N[j]? = some x) (hv : Vis X.env.scope x) (he : DE X e te fe)
    (hbase : attributeBase (.Name x px) "pop" X.env (eval (.Name x px) X.env) = eval (.Name x px) X.env := by rfl)
    (hfew : ((backTo cpos (starEach (e :: []) X.env)).all (fun z => !z.1) && (backToKw cpos (keywordEach [] X.env)).all (fun z => z.1.isSome) && decide ((e :: []).length + ([] : List Keyword).length + (if ([] : List Keyword).isEmpty then 0 else 1) < 30)) = true := by rfl)
    (hline : (apos.endLine == cpos.line) = true := by rfl) (h1 : starEach [e] X.env = (false, eval e X.env) :: starEach [] X.env := by rfl) (hplain : (backTo cpos (starEach [] X.env)).any (·.1) = false := by rfl)
    (hd : (x == ("__debug__" : Str)) = false := by decide) (hcd : (x == ("__classdict__" : Str)) = false := by decide) :
    DE X (.Call (.Attribute (.Name x px) "pop" apos) [e] [] cpos) (tBM X.K "list" rPopAt (tVar j) (tCons te tNil)) (popM j fe) :=
  ⟨pe_bm PySem.F.plainAttrs_list PySem.F.slot_list_pop PySem.F.type_list_pop mt_popAt (pe_var hN hv hd hcd) (pa_cons he.pe pa_nil h1) hbase hfew hline h1 hplain, snd_pop he.sn⟩
def popL (j : Nat) : M RV := fun ps => match ps.sl[j]? with
  | some (.ow ds) => ds[ds.length - 1]?.bind fun y => some (.im y, ps.put j (.ow ds.dropLast))
  | _ => none
theorem dropLast_rel {K : Fg} {F : Hp} {T : Addr} {ds : List Dat} {vs : List V} (h : RelL K F T ds vs) : RelL K F T ds.dropLast vs.dropLast := by
  rw [List.dropLast_eq_take, List.dropLast_eq_take, h.len]
  exact h.take _
theorem snd_popL {K : Fg} {j : Nat} : SndE K (tBM0 K "list" rPop (tVar j)) (popL j) := by
  refine ⟨fun G F ps σ H r ps' Q R e q => ?_⟩
  unfold popL at e
  split at e
  · rename_i ds ed
    obtain ⟨y, e3, e⟩ := Option.bind_eq_some_iff.mp e
    cases e
    obtain ⟨o1, e4, p, vs, rfl, h1, h2, h3, h4⟩ := R.slots j _ ed
    obtain ⟨w, e6, rw6⟩ := h4.get e3
    have P3 := R.wr ed e4 (dropLast_rel h4)
    exact ⟨.ref p, e4, .inl ⟨rfl, _, SqL.of h1⟩, p, vs, w, rfl, rfl, h1, by rw [h4.len]; exact e6, q w F _ P3 rw6⟩
  · cases e

/-! ### is, of truth values -/
def isBD : Dat → Dat → Option RV
  | .bool a, .bool b => some (.im (.bool (decide (a = b))))
  | _, _ => none
theorem isBD_ok {K : Fg} : OpSnd K rIsB isBD := by
  intro G F ps σ H x y d e out Q R hx hy hg q
  unfold isBD at hg
  split at hg
  · cases hg
    rw [bBl hx, bBl hy]
    exact ⟨_, _, rfl, rfl, out_im R (by unfold Rel; rfl) q⟩
  · cases hg
def notBD : Dat → Dat → Option RV
  | .bool a, .bool b => some (.im (.bool (!decide (a = b))))
  | _, _ => none
theorem notBD_ok {K : Fg} : OpSnd K rNotB notBD := by
  intro G F ps σ H x y d e out Q R hx hy hg q
  unfold notBD at hg
  split at hg
  · cases hg
    rw [bBl hx, bBl hy]
    exact ⟨_, _, rfl, rfl, out_im R (by unfold Rel; rfl) q⟩
  · cases hg

/-! ### xs[::-1] -/
def revD : Dat → Option RV
  | .list ds => some (.nw ds.reverse)
  | _ => none
theorem de_revL {k : Nat} {p1 p2 p3 : Pos} (he : DE X e te fe) : DE X (.Subscript e (.Slice none none (some (.UnaryOp .USub (.Constant (.int 1) k p1) p2)) p3) pos) (tRevL X.K te) (unM revD fe) := by
  refine ⟨pe_revL he.pe, ⟨fun G F ps σ H out ps' Q R e q => ?_⟩⟩
  unfold unM at e
  obtain ⟨⟨ra, ps1⟩, e1, e⟩ := Option.bind_eq_some_iff.mp e
  obtain ⟨d, e3, e⟩ := Option.bind_eq_some_iff.mp e
  obtain ⟨out', e5, e⟩ := Option.bind_eq_some_iff.mp e
  cases e
  refine he.sn.go G F ps σ H ra ps1 _ R e1 fun x F1 H1 P1 r1 => ?_
  have b := brw_ok P1.rep r1 e3
  unfold revD at e5
  split at e5
  · cases e5
    obtain ⟨a, xs, rfl, h1, h2⟩ := bLst b
    exact ⟨a, xs, rfl, SqL.of h1, out_nw P1.rep h2.reverse fun v F' H' P3 r3 => q v F' H' (P1.trans P3) (r3.back P1.dom)⟩
  · cases e5

/-! ### sorted, of ints -/
def isort (ns : List Int) : List Int := ns.mergeSort (fun a b => decide (a ≤ b))
theorem isort_perm (ns : List Int) : (isort ns).Perm ns := List.mergeSort_perm ns _
theorem isort_sorted (ns : List Int) : (isort ns).Pairwise (· ≤ ·) := by
  have h := List.pairwise_mergeSort (le := fun a b : Int => decide (a ≤ b)) (fun a b c h1 h2 => by simp only [decide_eq_true_eq] at *; omega) (fun a b => by simp only [Bool.or_eq_true, decide_eq_true_eq]; omega) ns
  exact h.imp fun {a b} h => of_decide_eq_true h
theorem isort_uniq {ns ms : List Int} (h : ms.Perm ns) (s : ms.Pairwise (· ≤ ·)) : ms = isort ns :=
  List.Perm.eq_of_pairwise (le := (· ≤ ·)) (fun a b _ _ h1 h2 => Int.le_antisymm h1 h2) s (isort_sorted ns) (h.trans (isort_perm ns).symm)
def sortD : Dat → Option RV
  | .list ds => (ints? ds).bind fun ns => some (.nw ((isort ns).map PyData.int))
  | _ => none
theorem sortD_ok {K : Fg} : C1Snd K (rSortedI K) sortD := by
  intro G F ps σ H x d out Q R hx hg q
  unfold sortD at hg
  split at hg
  · obtain ⟨ns, e1, hg⟩ := Option.bind_eq_some_iff.mp hg
    cases hg
    obtain ⟨a, vs, rfl, h1, h2⟩ := bLst hx
    rw [ints_rel e1 h2] at h1
    refine ⟨a, ns, rfl, SqL.of h1, fun ms p hp hs hn => ?_⟩
    rw [isort_uniq hp hs]
    exact out_nw R (ints_relL (isort ns)) q p hn
  · cases hg

/-! ### isinstance -/
inductive Ty6 where
  | list | tuple | bool | int | str | none
  deriving DecidableEq
def Ty6.nm : Ty6 → String
  | .list => "list" | .tuple => "tuple" | .bool => "bool" | .int => "int" | .str => "str" | .none => "NoneType"
def tyD : Dat → Option Ty6
  | .none => some .none | .bool _ => some .bool | .int _ => some .int | .str _ => some .str | .list _ => some .list | .tuple _ => some .tuple | .dict _ => none
def isTy (a b : Ty6) : Bool := decide (a = b) || (decide (a = .bool) && decide (b = .int))
theorem kit_all (a b : Ty6) (h : b ≠ .none) : kitB a.nm b.nm = some (isTy a b) := by
  cases a <;> cases b <;> first
    | (exact absurd rfl h)
    | decide +kernel
theorem tyX_of {K : Fg} {H : Hp} {T : Addr} {d : Dat} {v : V} {t : Ty6} (h : Rel K H T d v) (e : tyD d = some t) : TyX K H v (.type t.nm) := by
  cases d with
  | none => cases e; rw [rNon.mp h]; exact .base .non
  | bool b => cases e; rw [rBl.mp h]; exact .base (.bl b)
  | int b => cases e; rw [rInt.mp h]; exact .base (.int b)
  | str b => cases e; rw [rStr.mp h]; exact .base (.str b)
  | list ds =>
    cases e
    obtain ⟨a, xs, rfl, h1, _⟩ := rLst.mp h
    exact .base (.lst h1)
  | tuple ds =>
    cases e
    obtain ⟨a, xs, rfl, h1, _⟩ := rTupE h
    rcases h1 with (h1 | ⟨o, h1⟩) | ⟨o, its, n, h1, h2, _⟩
    · exact .base (.tup h1)
    · exact .fTuple h1
    · exact .kTuple h1 h2
  | dict _ => cases e
def isiD (T : Ty6) (d : Dat) : Option RV := (tyD d).bind fun t => some (.im (.bool (isTy t T)))
theorem de_isi {a : Expr} {ta : TE} {fa : M RV} {p p2 : Pos} {T : Ty6} {x : Str} (hT : T ≠ .none) (hgl : Gl X "isinstance") (hm : X.mg "isinstance" = none) (hg2 : Gl X x) (hm2 : X.mg x = none) (hx : x = T.nm) (hv2 : bootBuiltins x = some (.type T.nm)) (ha : DE X a ta fa)
    (hn2 : x ≠ "__name__" := by decide) (hd2 : (x == ("__debug__" : Str)) = false := by decide)
    (he : starEach [a, .Name x p2] X.env = (false, eval a X.env) :: starEach [.Name x p2] X.env := by rfl) (he2 : starEach [.Name x p2] X.env = (false, eval (.Name x p2) X.env) :: starEach [] X.env := by rfl) (hp : (backTo pos (starEach [.Name x p2] X.env)).any (·.1) = false := by rfl) :
    DE X (.Call (.Name "isinstance" p) [a, .Name x p2] [] pos) (tCB (rIsi X.K) (tCons ta (tCons (tC (.ty T.nm)) tNil))) (unM (isiD T) fa) := by
  refine ⟨pe_callB call_isi hgl hm (by decide +kernel) (pa_cons ha.pe (pa_cons (pe_bltn (v := .ty T.nm) hg2 hm2 hv2 rfl hn2 hd2) pa_nil he2) he) (by decide) (by decide) he hp, ⟨fun G F ps σ H out ps' Q R e q => ?_⟩⟩
  unfold unM at e
  obtain ⟨⟨ra, ps1⟩, e1, e⟩ := Option.bind_eq_some_iff.mp e
  obtain ⟨d, e3, e⟩ := Option.bind_eq_some_iff.mp e
  obtain ⟨out', e5, e⟩ := Option.bind_eq_some_iff.mp e
  cases e
  refine ha.sn.go G F ps σ H ra ps1 _ R e1 fun x F1 H1 P1 r1 => ?_
  have b := (brw_ok P1.rep r1 e3).rel P1.rep.fh
  unfold isiD at e5
  obtain ⟨t, e6, e5⟩ := Option.bind_eq_some_iff.mp e5
  cases e5
  exact ⟨x, _, _, _, _, rfl, .ty _, tyX_of b e6, kit_ty (kit_all t T hT), q _ F1 H1 P1 (show Rel _ _ _ _ _ by unfold Rel; rfl)⟩
/-- an int that the module keeps -/
theorem de_globI {x : Str} {i : Int} {tk : Tok} {p : Pos} (hg : Gl X x) (hm : X.mg x = some (.int i tk)) (hd : (x == ("__debug__" : Str)) = false := by decide) : DE X (.Name x p) (tC (.int i)) (kst (.int i)) :=
  ⟨pe_glob hg hm ⟨_, rfl⟩ hd, snd_kst fun _ _ => by unfold Rel; rfl⟩
end
end MP

namespace MP
open PySem PySem.Spec PyProof.Rows L2
variable [Tbs]

/-- an expression as a statement -/
def exprM (fe : M RV) : SM := fun ps => (fe ps).bind fun x => some (.nx x.2)
theorem ds_expr [Wx] {X : Cx} {e : Expr} {te : TE} {fe : M RV} {pos : Pos} (he : DE X e te fe) (hs : swapsWith e none pos.line X.env = pure false := by rfl) : DS X (.Expr e pos) (tDrop te) (exprM fe) := by
  refine ⟨ps_expr he.pe hs, ⟨fun G F ps σ H o D R e q => ?_⟩⟩
  unfold exprM at e
  obtain ⟨⟨r, ps1⟩, e1, e⟩ := Option.bind_eq_some_iff.mp e
  cases e
  exact he.sn.go G F ps σ H r ps1 _ R e1 fun v F1 H1 P1 r1 => q F1 σ H1 P1.rep P1.same

/-! ### the law's draws, the first sort -/
def drawA : Fn := fun ds dr => match ds, dr with
  | [.dict [], .int many], .A cells seed => if decide (many ≠ 0) && decide (many.natAbs < 1073741824) then
      (match cells.dropWhile (· == 0) with
        | v :: r => some (.im (.int (v.fmod many)), .A (v.fdiv many :: r) seed)
        | [] => some (.im (.int ((((seed * 48271 + 12345).fmod 2147483647).fdiv 64).fmod many)), .A [] ((seed * 48271 + 12345).fmod 2147483647)))
    else none
  | _, _ => none
/-- what the law's state is made of -/
def seedA : List Int → Int → Int
  | [], s => s
  | c :: r, s => seedA r ((s * 31 + c).fmod 1000003)
def stateA (ns : List Int) : Dr := .A (ns.map fun c => if c < 0 then -c else c) (seedA ns 7 + 1)

theorem upd_self {H : Hp} {a : Addr} {o : HO} (h : H a = some o) : upd H a o = H := by
  funext b
  by_cases e : b = a
  · subst e
    rw [upd_same, h]
  · rw [upd_ne e]
theorem upd_comm {H : Hp} {a b : Addr} {o u : HO} (n : a ≠ b) : upd (upd H a o) b u = upd (upd H b u) a o := by
  funext c
  by_cases ea : c = a
  · subst ea
    rw [upd_ne n, upd_same, upd_same]
  · by_cases eb : c = b
    · subst eb
      rw [upd_same, upd_ne ea, upd_same]
    · rw [upd_ne eb, upd_ne ea, upd_ne ea, upd_ne eb]
theorem dropW_cons {v : Int} {r : List Int} : (v :: r).dropWhile (· == 0) = if v = 0 then r.dropWhile (· == 0) else v :: r := by
  rw [List.dropWhile_cons]
  by_cases h : v = 0 <;> simp [h]
/-- behind a draw -/
theorem draw_end {K : Fg} {G : Ctl} {F H H' : Hp} {Q : VK} {cs cs' : List Int} {seed seed' : Int} {r : Int} (st : G.st = true) (fh : Same F H) (ft : F G.T = none ∧ F G.C = none) (da : DrAt G.T G.C H (.A cs seed)) (eH : H' = upd (upd H G.C (.lst (cs'.map V.int))) G.T (.lst [.ref G.C, .int seed']))
    (q : ∀ v F' H', Same F F' → Same F' H' → (∀ a o, H a = some o → ¬ G.ex a → Kp o (H' a)) → (∀ a, H a ≠ none → F' a = F a) → (G.st = true → DrAt G.T G.C H' (.A cs' seed')) → (G.st = false → Dr.A cs' seed' = .no) → (∀ a, H' a = none → H a = none) → RetOk K F' G.T H H' (.im (.int r)) v → Q v H') : Q (.int r) H' := by
  obtain ⟨tc, h1, h2⟩ := da
  subst eH
  refine q _ F _ (Same.refl F) (fun b x e => ?_) (fun a o e nx => ?_) (fun _ _ => rfl) (fun _ => ⟨tc, upd_same, by rw [upd_ne tc.symm, upd_same]⟩) (fun h => by rw [st] at h; cases h) (fun a h => ?_) (show RetOk K F G.T H _ (.im (.int r)) (V.int r) from (rInt (K := K) (F := F) (T := G.T)).mpr rfl)
  · have b1 : b ≠ G.T := by rintro rfl; rw [ft.1] at e; cases e
    have b2 : b ≠ G.C := by rintro rfl; rw [ft.2] at e; cases e
    rw [upd_ne b1, upd_ne b2]
    exact fh _ _ e
  · have b1 : a ≠ G.T := fun z => nx ⟨st, .inl z⟩
    have b2 : a ≠ G.C := fun z => nx ⟨st, .inr z⟩
    rw [upd_ne b1, upd_ne b2]
    exact .inl e
  · by_cases b1 : a = G.T
    · subst b1; rw [upd_same] at h; cases h
    · by_cases b2 : a = G.C
      · subst b2; rw [upd_ne b1, upd_same] at h; cases h
      · rwa [upd_ne b1, upd_ne b2] at h

/-! ### the law's helpers -/
def spState (K : Fg) : Sp := fun vs H Q _ => ∃ (a : Addr) (ns : List Int), vs = [.ref a] ∧ SqL K H a (ns.map V.int) ∧ ns.length ≤ 63 ∧ ∀ p c H', Same H H' → DrAt p c H' (stateA ns) → Q (.ref p) H'
def spLaw (K : Fg) : Sp := fun vs H Q _ => ∃ (a : Addr) (ns : List Int), vs = [.ref a] ∧ SqL K H a (ns.map V.int) ∧ ns.length ≤ 63 ∧ (∀ P ∈ Tbs.tb K, GxR.TabG H P) ∧ ∀ H', Q (.bl true) H'
theorem seedA_snoc : ∀ (ns : List Int) (c s : Int), seedA (ns ++ [c]) s = (seedA ns s * 31 + c).fmod 1000003
  | [], c, s => rfl
  | n :: ns, c, s => seedA_snoc ns c _
theorem take_snoc {α : Type} {l : List α} {i : Nat} {x : α} (h : l[i]? = some x) : l.take (i + 1) = l.take i ++ [x] := by
  rw [List.take_add_one, h]
  rfl
theorem mapInt_get {ns : List Int} {i : Nat} {x : V} (h : (ns.map V.int)[i]? = some x) : ∃ c, ns[i]? = some c ∧ x = V.int c := by
  rw [List.getElem?_map] at h
  obtain ⟨c, h1, h2⟩ := Option.map_eq_some_iff.mp h
  exact ⟨c, h1, h2.symm⟩
theorem draw_args {ds : List Dat} {dr dr' : Dr} {r : RV} (e : drawA ds dr = some (r, dr')) : ∃ (many : Int) (cs : List Int) (seed : Int), ds = [.dict [], .int many] ∧ dr = .A cs seed ∧ (many ≠ 0 ∧ many.natAbs < 1073741824) := by
  unfold drawA at e
  split at e
  · split at e
    · rename_i h
      simp only [Bool.and_eq_true, decide_eq_true_eq] at h
      exact ⟨_, _, _, rfl, rfl, h⟩
    · cases e
  · cases e
theorem draw_nil {many seed : Int} {cs : List Int} {r : RV} {dr' : Dr} (hm : many ≠ 0 ∧ many.natAbs < 1073741824) (hc : cs.dropWhile (· == 0) = []) (e : drawA [.dict [], .int many] (.A cs seed) = some (r, dr')) :
    r = .im (.int ((((seed * 48271 + 12345).fmod 2147483647).fdiv 64).fmod many)) ∧ dr' = .A [] ((seed * 48271 + 12345).fmod 2147483647) := by
  unfold drawA at e
  simp only [hm.1, hm.2, ne_eq, not_false_eq_true, decide_true, Bool.and_self, if_true, hc] at e
  cases e
  exact ⟨rfl, rfl⟩
theorem draw_cons {many seed v : Int} {cs l : List Int} {r : RV} {dr' : Dr} (hm : many ≠ 0 ∧ many.natAbs < 1073741824) (hc : cs.dropWhile (· == 0) = v :: l) (e : drawA [.dict [], .int many] (.A cs seed) = some (r, dr')) :
    r = .im (.int (v.fmod many)) ∧ dr' = .A (v.fdiv many :: l) seed := by
  unfold drawA at e
  simp only [hm.1, hm.2, ne_eq, not_false_eq_true, decide_true, Bool.and_self, if_true, hc] at e
  cases e
  exact ⟨rfl, rfl⟩
theorem draw_vals {K : Fg} {F : Hp} {T : Addr} {many : Int} {vs : List V} (h : RelL K F T [.dict [], .int many] vs) : vs = [.ref T, .int many] := by
  unfold RelL at h
  obtain ⟨y, ys, rfl, h1, h2⟩ := h
  unfold RelL at h2
  obtain ⟨z, zs, rfl, h3, h4⟩ := h2
  unfold RelL at h4
  unfold Rel at h1
  rw [h1, rInt.mp h3, h4]

theorem len_pos {v : Int} {l : List Int} : V.bl (decide ((0 : Int) < (((v :: l).map V.int).length : Nat))) = V.bl true := by
  rw [decide_eq_true]
  rw [List.length_map, List.length_cons]
  omega

theorem tabG_same {H H' : Hp} {P : Addr} (s : Same H H') (h : GxR.TabG H P) : GxR.TabG H' P := by
  obtain ⟨ps, a, b⟩ := h
  exact ⟨ps, s _ _ a, b⟩
/-! ### the law itself, behind its state -/
/-- the law's own state lies at T; nothing else is known -/
theorem law_rest {K : Fg} {t : TS} {f : SM} (h : SndS K t f) {N : Nat} {i : Nat} (hi : i < N) {T C : Addr} {cs : List Int} {seed : Int} {σ : L2.St} {H : Hp} (hl : σ.length = N) (hs : σ[i]? = some (some (.ref T)))
    (da : DrAt T C H (.A cs seed)) (ht : ∀ P ∈ Tbs.tb K, GxR.TabG H P) {ps' : PS} (e : f ⟨(List.replicate N Sl.un).set i (.fr (.dict [])), .A cs seed⟩ = some (.rt (.im (.bool true)) ps')) {D : Ends} (q : ∀ H', D.rt (.bl true) H') : t D σ H := by
  have R : Rep ⟨H, fun _ => none, T, C, true⟩ K (fun _ => none) ⟨(List.replicate N Sl.un).set i (.fr (.dict [])), .A cs seed⟩ σ H := by
    refine ⟨by simp [hl], fun j s e => ?_, fun a b p ha hb => ?_, fun _ => da, fun _ => ⟨rfl, rfl, da.T, da.C⟩, fun _ _ e => (nomatch e), fun a o e _ => .inl e, fun _ _ => rfl, Same.refl _, fun h => (nomatch h), fun P hP => ⟨ht P hP, tab_nex (dr := .A cs seed) (fun _ => da) (ht P hP), rfl⟩, fun a j path q e _ => by
      exfalso
      rcases getSet e with ⟨_, z, _⟩ | ⟨_, z⟩
      · cases z
      · have w := List.mem_of_getElem? z
        rw [List.mem_replicate] at w
        cases w.2⟩
    · rcases getSet e with ⟨rfl, rfl, _⟩ | ⟨hj, e⟩
      · exact ⟨_, hs, _, rfl, by unfold Rel; rfl⟩
      · have z := List.mem_of_getElem? e
        rw [List.mem_replicate] at z
        have hlt := ltOf e
        rw [List.length_replicate] at hlt
        rw [z.2]
        exact ⟨σ[j]'(by omega), List.getElem?_eq_getElem (by omega), trivial⟩
    · exfalso
      obtain ⟨s, o, ha, _, f⟩ := ha
      rcases getSet ha with ⟨_, z, _⟩ | ⟨_, z⟩
      · subst z
        exact f.elim
      · have w := List.mem_of_getElem? z
        rw [List.mem_replicate] at w
        rw [w.2] at f
        exact f.elim
  refine h.go _ _ _ σ H _ D R e ⟨?_, fun _ _ _ _ _ _ _ _ _ _ => trivial⟩
  intro v F' σ' H' _ _ hr
  have hr : Rel K F' T (.bool true) v := hr
  rw [rBl.mp hr]
  exact q H'
end MP

/-! the rules with the written part told by its own name (within a block it must not hang on the block) -/
namespace MP
open PySem PySem.Spec PyProof.Rows L2
variable [Tbs]
section
variable {X : Cx} {K : Fg} {a b c e tg iter : Expr} {ta tb tc te : TE} {fa fb fc fe : M RV} {pos p : Pos} {es : List Expr} {t : TA} {g : M (List Dat)}
theorem k_add (hK : X.K = K) (ha : DE X a ta fa) (hb : DE X b tb fb) : DE X (.BinOp a .Add b pos) (tOp (rAddD K) ta tb) (opM addD fa fb) := by subst hK; exact de_add ha hb
theorem k_ix (hK : X.K = K) (ha : DE X a ta fa) (hb : DE X b tb fb) (hs : PlainIx b) : DE X (.Subscript a b pos) (tOp (rIx K) ta tb) (opM ixD fa fb) := by subst hK; exact de_ix ha hb hs
theorem k_slice {p2} {tl th : TO} {fl fh : M (Option Int)} {lo hi : Option Expr} (hK : X.K = K) (h : DE X e te fe) (hl : DO X lo tl fl) (hh : DO X hi th fh) : DE X (.Subscript e (.Slice lo hi none p2) pos) (tSl (rSlD K) te tl th) (slM fe fl fh) := by subst hK; exact de_slice h hl hh
theorem k_revL {k : Nat} {p1 p2 p3 : Pos} (hK : X.K = K) (he : DE X e te fe) : DE X (.Subscript e (.Slice none none (some (.UnaryOp .USub (.Constant (.int 1) k p1) p2)) p3) pos) (tRevL K te) (unM revD fe) := by subst hK; exact de_revL he
theorem k_truth (hK : X.K = K) (h : DE X a ta fa) (he : ∀ whole, isTrue a X.env whole = (do let v ← whole; standAt a.pos; holding [v] (truthy v))) :
    DT X a (fun σ H Q => ta σ H fun x H' => ∃ k, TruV K x H' k ∧ Q k H') (truM fa) := by subst hK; exact dt_truth h he
theorem ko_eq (hK : X.K = K) (hu : X.A.units + 65 < cLine) : OpR X (compareOp .Eq) (rEqD K) := by subst hK; exact op_eqD (u64 hu)
theorem ko_ne (hK : X.K = K) (hu : X.A.units + 65 < cLine) : OpR X (compareOp .NotEq) (rNeD K) := by subst hK; exact op_neD (u64 hu)
theorem ko_lt (hK : X.K = K) (hu : X.A.units + 65 < cLine) : OpR X (compareOp .Lt) (rLtD K) := by subst hK; exact op_ltD (u0 hu)
theorem ko_in (hK : X.K = K) (hu : X.A.units + 65 < cLine) : OpR X (compareOp .In) (rInA K) := by subst hK; exact op_inA hu
theorem ko_nin (hK : X.K = K) (hu : X.A.units + 65 < cLine) : OpR X (compareOp .NotIn) (rNinA K) := by subst hK; exact op_ninA hu
theorem k_cmp {op : CmpOp} {r : R2} {g : Dat → Dat → Option RV} (hK : X.K = K) (ho : OpR X (compareOp op) r) (hg : OpSnd K r g) (ha : DE X a ta fa) (hb : DE X b tb fb) (hm : behindInMarks op b = false) :
    DE X (.Compare a [op] [b] pos) (tOp r ta tb) (opM g fa fb) := by subst hK; exact de_cmp ho hg ha hb hm
theorem kt_cmp {op : CmpOp} {r : R2} {g : Dat → Dat → Option RV} (hK : X.K = K) (ho : OpR X (compareOp op) r) (hg : OpSnd K r g) (ha : DE X a ta fa) (hb : DE X b tb fb) (hm : behindInMarks op b = false) :
    DT X (.Compare a [op] [b] pos) (tTest (tOp r ta tb)) (tstM (opM g fa fb)) := by subst hK; exact dt_cmp ho hg ha hb hm
theorem k_chain {op op' : CmpOp} {r r' : R2} {g g' : Dat → Dat → Option RV} (hK : X.K = K) (ho : OpR X (compareOp op) r) (hg : OpSnd K r g) (ho' : OpR X (compareOp op') r') (hg' : OpSnd K r' g') (ha : DE X a ta fa) (hb : DE X b tb fb) (hc : DE X c tc fc)
    (hm : lastMarks [op, op'] [b, c] = false := by with_unfolding_all rfl) : DE X (.Compare a [op, op'] [b, c] pos) (tChain r r' ta tb tc) (chainM g g' fa fb fc) := by subst hK; exact de_chain ho hg ho' hg' ha hb hc hm
theorem kt_chain {op op' : CmpOp} {r r' : R2} {g g' : Dat → Dat → Option RV} (hK : X.K = K) (ho : OpR X (compareOp op) r) (hg : OpSnd K r g) (ho' : OpR X (compareOp op') r') (hg' : OpSnd K r' g') (ha : DE X a ta fa) (hb : DE X b tb fb) (hc : DE X c tc fc)
    (hm : lastMarks [op, op'] [b, c] = false := by with_unfolding_all rfl) : DT X (.Compare a [op, op'] [b, c] pos) (tTest (tChain r r' ta tb tc)) (tstM (chainM g g' fa fb fc)) := by subst hK; exact dt_chain ho hg ho' hg' ha hb hc hm
theorem kc_len (hK : X.K = K) : CallR X (.builtin "len") (fun xs H Q => ∃ p ys, xs = [.ref p] ∧ (SqL K H p ys ∨ SqT K H p ys) ∧ Q (.int ys.length) H) := by subst hK; exact call_len_seq
theorem kc_list (hK : X.K = K) : CallR X (.type "list") (fun xs H Q => ∃ p ys, xs = [.ref p] ∧ (SqL K H p ys ∨ SqT K H p ys) ∧ ∀ l, H l = none → Q (.ref l) (upd H l (.lst ys))) := by subst hK; exact call_list_of
theorem kc_tuple (hK : X.K = K) : CallR X (.type "tuple") (rTupOf K) := by subst hK; exact call_tupleD
theorem kc_int (hK : X.K = K) : CallR X (.type "int") (fun xs H Q => (∃ i, xs = [.int i] ∧ Q (.int i) H) ∨ ∃ k, xs = [.bl k] ∧ Q (.int (if k then 1 else 0)) H) := call_int1
theorem kc_abs (hK : X.K = K) : CallR X (.builtin "abs") (fun xs H Q => ∃ i, xs = [.int i] ∧ Q (.int (if i < 0 then -i else i)) H) := call_abs
theorem kc_sum (hK : X.K = K) (hc : X.calm = true := by rfl) : CallR X (.builtin "sum") (rSum K) := by subst hK; exact cr_sum hc
theorem kc_sorted (hK : X.K = K) : CallR X (.builtin "sorted") (rSortedI K) := by subst hK; exact cr_sortedI
theorem k_callB1 {r : List V → Hp → VK → Prop} {g : Dat → Option RV} {x : Str} {id : String} (hK : X.K = K) (hc : CallR X (.builtin id) r) (hs : C1Snd K r g) (hgl : Gl X x) (hm : X.mg x = none) (hv : bootBuiltins x = some (.builtin id)) (ha : DE X a ta fa)
    (hn : x ≠ "__name__" := by decide) (hdb : (x == ("__debug__" : Str)) = false := by decide) (he : starEach [a] X.env = (false, eval a X.env) :: starEach [] X.env := by rfl) (hp : (backTo pos (starEach [] X.env)).any (·.1) = false := by rfl) :
    DE X (.Call (.Name x p) [a] [] pos) (tCB r (t1 ta)) (unM g fa) := by subst hK; exact de_callB1 hc hs hgl hm hv ha hn hdb he hp
theorem k_callT1 {r : List V → Hp → VK → Prop} {g : Dat → Option RV} {x : Str} {T : String} (hK : X.K = K) (hc : CallR X (.type T) r) (hs : C1Snd K r g) (hgl : Gl X x) (hm : X.mg x = none) (hv : bootBuiltins x = some (.type T)) (ha : DE X a ta fa)
    (hn : x ≠ "__name__" := by decide) (hdb : (x == ("__debug__" : Str)) = false := by decide) (he : starEach [a] X.env = (false, eval a X.env) :: starEach [] X.env := by rfl) (hp : (backTo pos (starEach [] X.env)).any (·.1) = false := by rfl) :
    DE X (.Call (.Name x p) [a] [] pos) (tCB r (t1 ta)) (unM g fa) := by subst hK; exact de_callT1 hc hs hgl hm hv ha hn hdb he hp
theorem k_callBN {r : List V → Hp → VK → Prop} {gg : List Dat → Option RV} {x : Str} {id : String} (hK : X.K = K) (hc : CallR X (.builtin id) r) (hs : CNSnd K r gg) (hgl : Gl X x) (hm : X.mg x = none) (hv : bootBuiltins x = some (.builtin id)) (ha : DA X (e :: es) t g)
    (hn : x ≠ "__name__" := by decide) (hdb : (x == ("__debug__" : Str)) = false := by decide) (he : starEach (e :: es) X.env = (false, eval e X.env) :: starEach es X.env := by rfl) (hp : (backTo pos (starEach es X.env)).any (·.1) = false := by rfl) :
    DE X (.Call (.Name x p) (e :: es) [] pos) (tCB r t) (cnM gg g) := by subst hK; exact de_callBN hc hs hgl hm hv ha hn hdb he hp
theorem k_call {CX : CXT} {k n : Nat} {f : Addr} {fd : FuncData} {nms : List Str} {E : XK} {x : Str} {fn : Fn} (hK : X.K = K) (F : FnOk X.prog X.w K X.mg X.base CX k f fd nms (spM K n fn)) (hr : Room k X.A) (hg : Gl X x) (hm : X.mg x = some (.ref f)) (hk : PySem.W.keepIn K (.ref f) = true) (hb : Binds K fd nms []) (hx : Passes CX X E)
    (ha : DA X (e :: es) t g) (hl : ∀ ps ds ps', g ps = some (ds, ps') → ds.length = n) (hdb : (x == ("__debug__" : Str)) = false := by decide) (he : starEach (e :: es) X.env = (false, eval e X.env) :: starEach es X.env := by rfl) (hpl : (backTo pos (starEach es X.env)).any (·.1) = false := by rfl) :
    DE X (.Call (.Name x p) (e :: es) [] pos) (tCall (spM K n fn) [] E t) (callM fn g) := by subst hK; exact de_call F hr hg hm hk hb hx ha hl hdb he hpl
theorem k_isi {p2 : Pos} {T : Ty6} {x : Str} (hK : X.K = K) (hT : T ≠ .none) (hgl : Gl X "isinstance") (hm : X.mg "isinstance" = none) (hg2 : Gl X x) (hm2 : X.mg x = none) (hx : x = T.nm) (hv2 : bootBuiltins x = some (.type T.nm)) (ha : DE X a ta fa)
    (hn2 : x ≠ "__name__" := by decide) (hd2 : (x == ("__debug__" : Str)) = false := by decide)
    (he : starEach [a, .Name x p2] X.env = (false, eval a X.env) :: starEach [.Name x p2] X.env := by rfl) (he2 : starEach [.Name x p2] X.env = (false, eval (.Name x p2) X.env) :: starEach [] X.env := by rfl) (hp : (backTo pos (starEach [.Name x p2] X.env)).any (·.1) = false := by rfl) :
    DE X (.Call (.Name "isinstance" p) [a, .Name x p2] [] pos) (tCB (rIsi K) (tCons ta (tCons (tC (.ty T.nm)) tNil))) (unM (isiD T) fa) := by subst hK; exact de_isi hT hgl hm hg2 hm2 hx hv2 ha hn2 hd2 he he2 hp
theorem k_seq (hK : X.K = K) (h : DE X e te fe) : DI X tg e (iSeq K te) (seqIt fe) := by subst hK; exact di_seq h
theorem k_enum {elts : List Expr} {kk : Nat} {tpos : Pos} (hK : X.K = K) (hg : Gl X "enumerate") (hm : X.mg "enumerate" = none) (h : DE X e te fe) (hs : starEach [e] X.env = (false, eval e X.env) :: starEach [] X.env := by rfl)
    (hs1 : starEach [e] X.env = [(false, eval e X.env)] := by rfl) : DI X (.Tuple elts kk tpos) (.Call (.Name "enumerate" p) [e] [] pos) (iEnumA K te) (enIt fe) := by subst hK; exact di_enum hg hm h hs hs1
theorem k_gtup {es : List Expr} {k : Nat} {gs : TGs} {is : List Nat} {fs : List Dat → PS → Option PS} {n : Nat} (hK : X.K = K) (hc : X.calm = true) (h : DGs X es gs is fs)
    (hn : (assignEach es X.env).length = n := by rfl) (hst : (assignEach es X.env).findIdx? (·.1) = none := by rfl) : DG X (.Tuple es k pos) (gTL K n gs) is (tupT n fs) := by subst hK; exact dg_tup hc h hn hst
end
end MP

/-! more rules: .index of ints, list(range(..)), tuple(range(..)), sorted of a tuple of ints -/
namespace MP
open PySem PySem.Spec PyProof.Rows L2
variable [Tbs] [Wx]

/-! ### index -/
section
variable {X : Cx} {o e : Expr} {to te : TE} {fo fe : M RV} {apos cpos : Pos}
def tIdx (K : Fg) (to te : TE) : TE := fun σ H Q => to σ H fun x H1 => ∃ a : Addr, x = .ref a ∧
  (((∃ ys, SqL K H1 a ys) ∧ te σ H1 fun y H2 => ∃ (ns : List Int) (k : Int), y = .int k ∧ SqL K H2 a (ns.map V.int) ∧ k ∈ ns ∧ Q (.int (ns.idxOf k : Nat)) H2) ∨
   ((∃ ys, TupD H1 a ys) ∧ te σ H1 fun y H2 => ∃ (ns : List Int) (k : Int), y = .int k ∧ SqT K H2 a (ns.map V.int) ∧ k ∈ ns ∧ Q (.int (ns.idxOf k : Nat)) H2))
theorem pe_idx (ho : PE X o to) (ha : PE X e te) (hbase : attributeBase o "index" X.env (eval o X.env) = eval o X.env)
    (hfew : ((backTo cpos (starEach [e] X.env)).all (fun z => !z.1) && (backToKw cpos (keywordEach [] X.env)).all (fun z => z.1.isSome) && decide ([e].length + ([] : List Keyword).length + (if ([] : List Keyword).isEmpty then 0 else 1) < 30)) = true)
    (hline : (apos.endLine == cpos.line) = true) (hs : starEach [e] X.env = (false, eval e X.env) :: starEach [] X.env) (hplain : (backTo cpos (starEach [] X.env)).any (·.1) = false) :
    PE X (.Call (.Attribute o "index" apos) [e] [] cpos) (tIdx X.K to te) := by
  constructor
  intro pins s σ H Q I h
  refine wpAny_Call_method_late hbase hfew hline rfl (thn (ho.run pins s σ H _ I h) fun v s1 hv => ?_)
  obtain ⟨x, H1, I1, r1, a, rfl, q⟩ := hv
  obtain rfl : v = .ref a := r1
  have args : ∀ {P1 : V → Hp → Prop} {id : String}, te σ H1 P1 → (∀ (u : Value) (s2 : Shared) (y : V) (H2 : Hp), Inv X pins σ H2 s2 → RelV y u → P1 y H2 → wpAny (model X.prog X.w) X.A (call (.builtin id) [.ref a, u]) (EP X pins σ Q) X.xe s2) →
      wpAny (model X.prog X.w) X.A (callWith cpos (.builtin id) [.ref a] (backTo cpos (starEach [e] X.env)) []) (EP X pins σ Q) X.xe s1 := by
    intro P1 id hq fin
    have hA := (pa_cons ha pa_nil hs).run cpos pins s1 σ H1 (fun vs H2 => match vs with | [y] => P1 y H2 | _ => False) I1 hq
    rw [hs] at hA ⊢
    refine Calls.callWith_builtin (by show (false || (backTo cpos (starEach [] X.env)).any (·.1)) = false; rw [hplain]; rfl) (Calls.evalArgs_plain (thn hA fun us s2 z => ?_))
    obtain ⟨vs, H2, I2, r2, q2⟩ := z
    match vs, r2, q2 with
    | [y], .cons ry .nil, q2 => exact fin _ s2 y H2 I2 ry q2
  rcases q with ⟨⟨ys, hy⟩, q⟩ | ⟨⟨ys, ob, hy, hd⟩, q⟩
  · obtain ⟨us, _, ⟨ob, n, e1, e2, e3, e4⟩, _⟩ := I1.list hy
    refine ⟨"list", "list.index", PySem.F.plainAttrs_list, PySem.F.slot_list_index, PySem.F.type_list_index, ⟨ob, e1, e2⟩, (fun b eb => by cases eb; exact ⟨ob, e1, e3⟩), args q fun u s2 y H2 I2 ry q2 => ?_⟩
    obtain ⟨ns, k, rfl, hq, hk, q3⟩ := q2
    obtain ⟨t, rfl⟩ := ry
    obtain ⟨its, rv, hl, hz⟩ := I2.list hq
    exact PySem.SeqAt.list_index_ints hl.isList rv.ints (by rw [List.length_map] at hz; exact hz) hk ⟨.int _, H2, I2.tok _, ⟨_, rfl⟩, q3⟩
  · obtain ⟨e1, _, us, _, ⟨ob', e2, e3, n, e4⟩⟩ := I1.hok a _ hy
    rw [e1] at e2
    cases e2
    refine ⟨"tuple", "tuple.index", PySem.F.plainAttrs_tuple, PySem.F.slot_tuple_index, PySem.F.type_tuple_index, ⟨ob, e1, e3⟩, (fun b eb => by cases eb; exact ⟨ob, e1, hd⟩), args q fun u s2 y H2 I2 ry q2 => ?_⟩
    obtain ⟨ns, k, rfl, hq, hk, q3⟩ := q2
    obtain ⟨t, rfl⟩ := ry
    obtain ⟨its, rv, hl, hz⟩ := I2.tuple hq
    exact PySem.SeqAt.tuple_index_ints hl rv.ints hk ⟨.int _, H2, I2.tok _, ⟨_, rfl⟩, q3⟩
def idxM (fo fe : M RV) : M RV := fun ps => (keepM fo ps).bind fun x => (items? x.1).bind fun ds => (fe x.2).bind fun y => match y.1 with
  | .im (.int k) => (ints? ds).bind fun ns => if decide (k ∈ ns) then some (.im (.int (ns.idxOf k : Nat)), y.2) else none
  | _ => none
theorem snd_idx {K : Fg} (ho : SndE K to fo) (he : SndE K te fe) : SndE K (tIdx K to te) (idxM fo fe) := by
  refine ⟨fun G F ps σ H r ps' Q R e q => ?_⟩
  unfold idxM at e
  obtain ⟨⟨d, ps1⟩, e1, e⟩ := Option.bind_eq_some_iff.mp e
  obtain ⟨ds, e2, e⟩ := Option.bind_eq_some_iff.mp e
  obtain ⟨⟨rr, ps2⟩, e3, e⟩ := Option.bind_eq_some_iff.mp e
  simp only at e
  split at e
  · rename_i k
    obtain ⟨ns, e4, e⟩ := Option.bind_eq_some_iff.mp e
    split at e
    · rename_i hk
      cases e
      have hk := of_decide_eq_true hk
      refine keepM_go ho R e1 fun v F1 H1 P1 r1 => ?_
      rcases items_ok e2 with e5 | e5
      · have e5 : d = .list ds := e5
        subst e5
        obtain ⟨a, xs, rfl, h1, h2⟩ := rLst.mp r1
        refine ⟨a, rfl, .inl ⟨⟨xs, SqL.of (P1.rep.fh _ _ h1)⟩, he.go G F1 ps1 σ H1 _ _ _ P1.rep e3 fun v F2 H2 P2 r2 => ?_⟩⟩
        have r2 : Rel _ _ _ _ _ := r2
        have h3 := ints_rel e4 h2
        subst h3
        exact ⟨ns, k, rInt.mp r2, SqL.of (P2.rep.fh _ _ (P2.same _ _ h1)), hk, q _ F2 H2 (P1.trans P2) (by show Rel _ _ _ _ _; unfold Rel; rfl)⟩
      · have e5 : d = .tuple ds := e5
        subst e5
        obtain ⟨a, xs, rfl, h1, h2⟩ := rTupD r1
        refine ⟨a, rfl, .inr ⟨⟨xs, h1.mono P1.rep.fh⟩, he.go G F1 ps1 σ H1 _ _ _ P1.rep e3 fun v F2 H2 P2 r2 => ?_⟩⟩
        have r2 : Rel _ _ _ _ _ := r2
        have h3 := ints_rel e4 h2
        subst h3
        exact ⟨ns, k, rInt.mp r2, ((h1.mono P2.same).mono P2.rep.fh).sqT, hk, q _ F2 H2 (P1.trans P2) (by show Rel _ _ _ _ _; unfold Rel; rfl)⟩
    · cases e
  · cases e
theorem k_index {K : Fg} (hK : X.K = K) (ho : DE X o to fo) (he : DE X e te fe) (hbase : attributeBase o "index" X.env (eval o X.env) = eval o X.env := by rfl)
    (hfew : ((backTo cpos (starEach [e] X.env)).all (fun z => !z.1) && (backToKw cpos (keywordEach [] X.env)).all (fun z => z.1.isSome) && decide ([e].length + ([] : List Keyword).length + (if ([] : List Keyword).isEmpty then 0 else 1) < 30)) = true := by rfl)
    (hline : (apos.endLine == cpos.line) = true := by rfl) (hs : starEach [e] X.env = (false, eval e X.env) :: starEach [] X.env := by rfl) (hplain : (backTo cpos (starEach [] X.env)).any (·.1) = false := by rfl) :
    DE X (.Call (.Attribute o "index" apos) [e] [] cpos) (tIdx K to te) (idxM fo fe) := by
  subst hK
  exact ⟨pe_idx ho.pe he.pe hbase hfew hline hs hplain, snd_idx ho.sn he.sn⟩
end

/-! ### list(range(..)), tuple(range(..)) -/
theorem rg_rel {K : Fg} {F : Hp} {T : Addr} {a b : Int} : RelL K F T (rgD a (b - a).toNat) (rgV a b) := by
  unfold rgD rgV
  generalize (b - a).toNat = n
  induction n with
  | zero => exact .nil
  | succ n ih =>
    rw [List.range_succ, List.map_append, List.map_append]
    exact ih.append (.cons (by unfold Rel; rfl) .nil)
abbrev TR := L2.St → Hp → (Int → Int → Hp → Prop) → Prop
structure DR (X : Cx) (e : Expr) (t : TR) (f : M (Int × Int)) : Prop where
  pe : PRg X e t
  go : ∀ (G : Ctl) (F : Hp) (ps : PS) (σ : L2.St) (H : Hp) (z : Int × Int) (ps' : PS) (Q : Int → Int → Hp → Prop), Rep G X.K F ps σ H → f ps = some (z, ps') → (∀ F' H', Post G X.K F ps σ H F' ps' H' → Q z.1 z.2 H') → t σ H Q
def asI : RV → Option Int
  | .im (.int n) => some n
  | _ => none
def rg1M (fa : M RV) : M (Int × Int) := fun ps => (fa ps).bind fun x => (asI x.1).bind fun n => some ((0, n), x.2)
def rg2M (fa fb : M RV) : M (Int × Int) := fun ps => (fa ps).bind fun x => (asI x.1).bind fun i => (fb x.2).bind fun y => (asI y.1).bind fun j => some ((i, j), y.2)
theorem asI_ok {G : Ctl} {K : Fg} {F : Hp} {ps : PS} {σ : L2.St} {Hs H : Hp} {r : RV} {v : V} {n : Int} (h : asI r = some n) (k : RVok G K F ps σ Hs H r v) : v = .int n := by
  unfold asI at h
  split at h
  · cases h
    have k : Rel _ _ _ _ _ := k
    exact rInt.mp k
  · cases h
section
variable {X : Cx} {a b e : Expr} {ta tb : TE} {fa fb : M RV} {t : TR} {f : M (Int × Int)} {p q1 pos : Pos}
theorem dr_1 (hg : Gl X "range") (hm : X.mg "range" = none) (ha : DE X a ta fa) (na : starEach [a] X.env = (false, eval a X.env) :: starEach [] X.env := by rfl) : DR X (.Call (.Name "range" p) [a] [] pos) (tRg1 ta) (rg1M fa) := by
  refine ⟨prg_1 hg hm ha.pe na, fun G F ps σ H z ps' Q R e q => ?_⟩
  unfold rg1M at e
  obtain ⟨⟨r, ps1⟩, e1, e⟩ := Option.bind_eq_some_iff.mp e
  obtain ⟨n, e2, e⟩ := Option.bind_eq_some_iff.mp e
  cases e
  exact ha.sn.go G F ps σ H _ _ _ R e1 fun v F1 H1 P1 r1 => ⟨n, asI_ok e2 r1, q F1 H1 P1⟩
theorem dr_2 (hg : Gl X "range") (hm : X.mg "range" = none) (ha : DE X a ta fa) (hb : DE X b tb fb) (na : starEach [a, b] X.env = (false, eval a X.env) :: starEach [b] X.env := by rfl)
    (nb : starEach [b] X.env = (false, eval b X.env) :: starEach [] X.env := by rfl) (hp : (backTo pos (starEach [b] X.env)).any (·.1) = false := by rfl) : DR X (.Call (.Name "range" p) [a, b] [] pos) (tRg2 ta tb) (rg2M fa fb) := by
  refine ⟨prg_2 hg hm ha.pe hb.pe na nb hp, fun G F ps σ H z ps' Q R e q => ?_⟩
  unfold rg2M at e
  obtain ⟨⟨r, ps1⟩, e1, e⟩ := Option.bind_eq_some_iff.mp e
  obtain ⟨i, e2, e⟩ := Option.bind_eq_some_iff.mp e
  obtain ⟨⟨r', ps2⟩, e3, e⟩ := Option.bind_eq_some_iff.mp e
  obtain ⟨j, e4, e⟩ := Option.bind_eq_some_iff.mp e
  cases e
  exact ha.sn.go G F ps σ H _ _ _ R e1 fun v F1 H1 P1 r1 => hb.sn.go G F1 ps1 σ H1 _ _ _ P1.rep e3 fun u F2 H2 P2 r2 => ⟨i, j, asI_ok e2 r1, asI_ok e4 r2, q F2 H2 (P1.trans P2)⟩
def rgB (z : Int × Int) : Bool := decide (z.1.natAbs ≤ 8388608) && decide (z.2.natAbs ≤ 8388608)
theorem rgB_ok {z : Int × Int} (h : rgB z = true) : RgOk z.1 z.2 := by
  unfold rgB at h
  simp only [Bool.and_eq_true, decide_eq_true_eq] at h
  exact ⟨by omega, by omega, by omega, by omega, by omega⟩
def listRgM (f : M (Int × Int)) : M RV := fun ps => (f ps).bind fun x => if rgB x.1 then some (.nw (rgD x.1.1 (x.1.2 - x.1.1).toNat), x.2) else none
def tupleRgM (f : M (Int × Int)) : M RV := fun ps => (f ps).bind fun x => if rgB x.1 then some (.im (.tuple (rgD x.1.1 (x.1.2 - x.1.1).toNat)), x.2) else none
theorem de_listRg (hc : X.calm = true) (hg : Gl X "list") (hm : X.mg "list" = none) (h : DR X e t f) (na : starEach [e] X.env = (false, eval e X.env) :: starEach [] X.env := by rfl) :
    DE X (.Call (.Name "list" p) [e] [] pos) (tLstRg t) (listRgM f) := by
  refine ⟨pe_listRg hc hg hm h.pe na, ⟨fun G F ps σ H r ps' Q R e q => ?_⟩⟩
  unfold listRgM at e
  obtain ⟨⟨z, ps1⟩, e1, e⟩ := Option.bind_eq_some_iff.mp e
  split at e
  · rename_i hz
    cases e
    exact h.go G F ps σ H _ _ _ R e1 fun F1 H1 P1 => ⟨rgB_ok hz, out_nw P1.rep rg_rel fun v F2 H2 P2 r3 => q v F2 H2 (P1.trans P2) (r3.back P1.dom)⟩
  · cases e
def tTupRgD (te : TR) : TE := fun σ H Q => te σ H fun a b H1 => RgOk a b ∧ NewT H1 (rgV a b) Q
theorem de_tupleRg (hc : X.calm = true) (hg : Gl X "tuple") (hm : X.mg "tuple" = none) (h : DR X e t f) (na : starEach [e] X.env = (false, eval e X.env) :: starEach [] X.env := by rfl) :
    DE X (.Call (.Name "tuple" p) [e] [] pos) (tTupRgD t) (tupleRgM f) := by
  refine ⟨⟨fun pins s σ H Q I hq => ?_⟩, ⟨fun G F ps σ H r ps' Q R e q => ?_⟩⟩
  · refine Call_ (ld_blt I hg hm boot_tuple (PyProof.Rows.callWith_type1 (args_cons (thn (h.pe pins s σ H _ I hq) fun x s1 hx => args_nil ?_) na) na))
    obtain ⟨r, a, b, t, u, v, H1, rfl, hr, I1, ok, q⟩ := hx
    refine call_tuple_range (n := (b - a).toNat) (I1.ok.hd hc) hr (small_one ok.1 ok.2.1 ok.2.2.1 ok.2.2.2.1) (rangeSize_nat a b) ok.2.2.2.2 fun h' tk acc hk hi => ?_
    have hz : (rgV a b).length ≤ sizeLine := by
      have := ok.2.2.2.2
      rw [rgV_length, sizeLine_eq]
      omega
    have := q.put (s := { s1 with heap := h', toks := tk }) (I1.kept hk) (vals_rg hi) hz
    rw [Array.toArray_toList] at this
    exact this
  · unfold tupleRgM at e
    obtain ⟨⟨z, ps1⟩, e1, e⟩ := Option.bind_eq_some_iff.mp e
    split at e
    · rename_i hz
      cases e
      exact h.go G F ps σ H _ _ _ R e1 fun F1 H1 P1 => ⟨rgB_ok hz, out_tp P1.rep rg_rel fun v F2 H2 P2 r3 => q v F2 H2 (P1.trans P2) (r3.back P1.dom)⟩
    · cases e
end

/-! ### sorted, of a list or a tuple of ints -/
theorem sorted_seq {prog : Program} {w : World} {A : Around} {E : Value → Shared → Prop} {s : Shared} {l : Addr} {vs : List Value} {ns : List Int} {Q : Value → Shared → Prop} (ht : IsTup s.heap l vs.toArray) (hi : IntsAre vs ns) (hz : vs.length ≤ sizeLine)
    (h : ∀ (h0 h1 : Heap) (p : Addr) (out : List Value) (ms : List Int), (∀ b o, s.heap.get? b = some o → h0.get? b = some o) → (∀ b o, h0.get? b = some o → h1.get? b = some o) → h0.objs.size ≤ p → (∃ n, h1.get? p = some (seqObj "list" out.toArray n)) → IntsAre out ms → ms.Perm ns → ms.Pairwise (· ≤ ·) → Q (.ref p) { s with heap := h1 }) :
    wpAny (model prog w) A (call (.builtin "sorted") [.ref l]) Q E s := by
  obtain ⟨o, ho, hc, n, hd⟩ := ht
  refine Calls.call_function_entry kind_sorted plain_sorted entry_sorted (args_sorted1 _) ?_
  unfold Builtin.«sorted»
  refine wpAny_bind (m := checkCount "sorted" 1 1 _) (wpAny_pure (wpAny_bind (wpAny_collect_seq l (.inr rfl) ho hc hd (fun h1 k1 => ?_) (by rw [List.size_toArray]; exact hz))))
  refine wpAny_bind (wpAny_newList ?_ hz)
  have at1 : (h1.push (seqObj "list" vs.toArray 0)).get? h1.objs.size = some (seqObj "list" vs.toArray 0) := Heap.get?_push_size _ rfl
  refine wpAny_bind (wpAny_holding (wpAny_call_entry slot_list_sort ⟨_, at1, rfl⟩ entry_list_sort (SrtO.list_sort_ord SrtO.swo_int at1 hz (fun h2 => SrtO.ints_sortable hi h2) fun out hs hb => ⟨_, rfl, ?_⟩) (args_list_sort _)))
  obtain ⟨j1, j2, j3⟩ := SrtO.ints_out hi hs hb
  refine wpAny_pure ⟨_, rfl, h h1 _ _ out _ k1 (fun b o e => ?_) (Nat.le_refl _) (sortedHeap_at at1) j1 j2 j3⟩
  have z : (h1.push (seqObj "list" vs.toArray 0)).get? b = some o := Heap.get?_push_of_some _ e
  exact (sortedHeap_old (Nat.ne_of_lt (Heap.lt_size e)) (Heap.lt_size z)).trans z
def rSortedA (K : Fg) : List V → Hp → VK → Prop := fun vs H Q => rSortedI K vs H Q ∨ ∃ (a : Addr) (ns : List Int), vs = [V.ref a] ∧ SqT K H a (ns.map V.int) ∧ ∀ (ms : List Int) (p : Addr), ms.Perm ns → ms.Pairwise (· ≤ ·) → H p = none → Q (.ref p) (upd H p (.lst (ms.map V.int)))
theorem call_sortedA {X : Cx} : CallR X (.builtin "sorted") (rSortedA X.K) := by
  intro pins s σ H vs us Q I r h
  rcases h with h | ⟨a, ns, rfl, hs, q⟩
  · exact cr_sortedI pins s σ H vs us Q I r h
  · obtain ⟨its, rv, ht, hz⟩ := I.tuple hs
    rw [Vals.ref1 r]
    refine sorted_seq ht rv.ints (by rw [← rv.length]; exact hz) fun h0 h1 p out ms k1 k2 hp hg j1 j2 j3 => ?_
    obtain ⟨n, hg⟩ := hg
    have I1 : Inv X pins σ H { s with heap := h0 } := I.kept (t' := s.toks) k1
    have hl : (ms.map V.int).length ≤ sizeLine := by
      rw [List.length_map] at hz ⊢
      rw [j2.length_eq]
      exact hz
    exact ⟨.ref p, _, I1.laid (t' := s.toks) (o := .lst (ms.map V.int)) k2 hp ⟨hl, out, n, vals_of_ints j1, hg⟩, rfl, q ms p j2 j3 (I1.hok.fresh hp)⟩
def sortAD : Dat → Option RV
  | .list ds => (ints? ds).bind fun ns => some (.nw ((isort ns).map PyData.int))
  | .tuple ds => (ints? ds).bind fun ns => some (.nw ((isort ns).map PyData.int))
  | _ => none
theorem sortAD_ok {K : Fg} : C1Snd K (rSortedA K) sortAD := by
  intro G F ps σ H x d out Q R hx hg q
  unfold sortAD at hg
  split at hg
  · rename_i ds
    exact .inl (sortD_ok (K := K) G F ps σ H x (.list ds) out Q R hx hg q)
  · obtain ⟨ns, e1, hg⟩ := Option.bind_eq_some_iff.mp hg
    cases hg
    obtain ⟨a, vs, rfl, h1, h2⟩ := bTup R.fh hx
    rw [ints_rel e1 h2] at h1
    refine .inr ⟨a, ns, rfl, h1, fun ms p hp hs hn => ?_⟩
    rw [isort_uniq hp hs]
    exact out_nw R (ints_relL (isort ns)) q p hn
  · cases hg
theorem kc_sortedA {X : Cx} {K : Fg} (hK : X.K = K) : CallR X (.builtin "sorted") (rSortedA K) := by subst hK; exact call_sortedA

/-! ### a, b, c = x, y, z : all kept -/
def par3M (i j l : Nat) (g : M (List Dat)) : SM := fun ps => (g ps).bind fun x => match x.1 with
  | [a, b, c] => some (.nx (((x.2.put i (.fr a)).put j (.fr b)).put l (.fr c)))
  | _ => none
theorem ds_par3 {X : Cx} {i j l : Nat} {x y z : Str} {a b c : Expr} {ta : TA} {g : M (List Dat)} {px py pz pt pos : Pos} {kt k2 pt2} (hc : X.calm = true) (hN : X.N.Nodup) (hi : X.N[i]? = some x) (hj : X.N[j]? = some y) (hl : X.N[l]? = some z) (hij : i ≠ j) (hil : i ≠ l) (hjl : j ≠ l)
    (hx : X.env.scope.names.lookup x = some .local) (hy : X.env.scope.names.lookup y = some .local) (hz : X.env.scope.names.lookup z = some .local) (ha : DA X [a, b, c] ta g)
    (hw : swappedStores [.Tuple [.Name x px, .Name y py, .Name z pz] kt pt] (.Tuple [a, b, c] k2 pt2) X.env = pure (some [x, y, z]))
    (hs : swapsWithSole [.Tuple [.Name x px, .Name y py, .Name z pz] kt pt] (.Tuple [a, b, c] k2 pt2) pos.line X.env = pure false := by rfl) :
    DS X (.Assign [.Tuple [.Name x px, .Name y py, .Name z pz] kt pt] (.Tuple [a, b, c] k2 pt2) pos) (tPar3 i j l ta) (par3M i j l g) := by
  refine ⟨ps_par3 hc hN hi hj hl hij hil hjl hx hy hz ha.pe hw hs, ⟨fun G F ps σ H o D R e q => ?_⟩⟩
  unfold par3M at e
  obtain ⟨⟨ds, ps1⟩, e1, e⟩ := Option.bind_eq_some_iff.mp e
  simp only at e
  split at e
  · rename_i d1 d2 d3
    cases e
    refine ha.sn.go G F ps σ H _ _ _ R e1 fun vs F1 H1 P1 r1 => ?_
    unfold RelL at r1
    obtain ⟨v1, vs1, rfl, h1, r1⟩ := r1
    unfold RelL at r1
    obtain ⟨v2, vs2, rfl, h2, r1⟩ := r1
    unfold RelL at r1
    obtain ⟨v3, vs3, rfl, h3, r1⟩ := r1
    unfold RelL at r1
    subst r1
    exact ⟨v1, v2, v3, rfl, q F1 _ H1 (((P1.rep.setFr h1).setFr h2).setFr h3) P1.same⟩
  · cases e

/-! ### sum, max, min of a row of ints, list or tuple -/
section
variable {prog : Program} {w : World} {A : Around} {E : Value → Shared → Prop} {s : Shared} {l : Addr} {xs : Array (Int × Tok)}
theorem iter_tup {Q : Value → Shared → Prop} (ht : s.heap.IsTuple l (intItems xs))
    (h : ∀ s2 : Shared, s2 = { s with heap := s.heap.push { cls := .type "tuple_iterator", data := .fields #[.ref l, .int 0 0] } } → (s2.heap.IsTupleIter s.heap.objs.size l 0 ∧ s2.heap.IsTuple l (intItems xs)) → (∀ b ∈ [s.heap.objs.size, l], b < s2.heap.objs.size) → l ≠ s.heap.objs.size → Q (.ref s.heap.objs.size) s2) :
    wpAny (model prog w) A (pyIter (.ref l)) Q E s := by
  obtain ⟨o, e, r⟩ := id ht
  have lt : l < s.heap.objs.size := Heap.lt_size e
  refine wpAny_pyIter_tuple ht (h _ rfl ⟨⟨_, Heap.get?_push_size _ rfl, rfl, rfl⟩, ⟨o, Heap.get?_push_of_some _ e, r⟩⟩ (fun b hb => ?_) (Nat.ne_of_lt lt))
  show b < (s.heap.push _).objs.size
  rw [Heap.size_push]
  simp only [List.mem_cons, List.not_mem_nil, or_false] at hb
  rcases hb with rfl | rfl
  · exact Nat.lt_succ_self _
  · exact Nat.lt_succ_of_lt lt
theorem kept_tup {h h' : Heap} {ob : Obj} (hk : ∀ b o, b ∉ [h.objs.size] → (h.push ob).get? b = some o → h'.get? b = some o) : ∀ b o, h.get? b = some o → h'.get? b = some o := fun b o e =>
  hk b o (fun z => Nat.lt_irrefl b (by have := Heap.lt_size e; rw [← List.mem_singleton.mp z] at this; exact this)) (Heap.get?_push_of_some _ e)
theorem sum_tupG {Q : Value → Shared → Prop} (hh : A.handled = none) (ht : s.heap.IsTuple l (intItems xs))
    (h : ∀ h' tk t', (∀ b o, s.heap.get? b = some o → h'.get? b = some o) → Q (.int (preSum (numAt xs) xs.size) t') { s with heap := h', toks := tk }) : wpAny (model prog w) A (call (.builtin "sum") [.ref l]) Q E s := by
  refine call_sum_walkG (iter_tup ht fun s2 e st fp ne => ?_)
  subst e
  refine ⟨_, _, _, _, _, _, numAt xs, rfl, Walks.tuple (A := A.in1) hh _ l ne (intItems xs), st, fp, (fun _ _ => intItems_at), fun h' tk t' hk => ?_⟩
  have := h h' tk t' (kept_tup hk)
  simpa [intItems] using this
theorem max_tupG {Q : Value → Shared → Prop} (hh : A.handled = none) (ht : s.heap.IsTuple l (intItems xs)) (hne : 0 < xs.size)
    (h : ∀ v h' tk, (intItems xs)[argBest (fun i j => decide (numAt xs i > numAt xs j)) (xs.size - 1)]? = some v → (∀ b o, s.heap.get? b = some o → h'.get? b = some o) → Q v { s with heap := h', toks := tk }) : wpAny (model prog w) A (call (.builtin "max") [.ref l]) Q E s := by
  refine call_max_walk (iter_tup ht fun s2 e st fp ne => ?_)
  subst e
  exact ⟨_, _, _, _, _, _, _, rfl, Walks.tuple (A := A.in1) hh _ l ne (intItems xs), st, fp, by simpa [intItems] using hne, CmpOf.ints_gt (numAt xs) (fun _ _ => intItems_at), fun v h' tk hP hk => h v h' tk (by simpa [intItems] using hP) (kept_tup hk)⟩
theorem sum_tup {its : List Value} {ns : List Int} {Q : Value → Shared → Prop} (hh : A.handled = none) (ht : s.heap.IsTuple l its.toArray) (hi : IntsAre its ns)
    (h : ∀ h' tk t', (∀ b o, s.heap.get? b = some o → h'.get? b = some o) → Q (.int ns.sum t') { s with heap := h', toks := tk }) : wpAny (model prog w) A (call (.builtin "sum") [.ref l]) Q E s := by
  obtain ⟨xs, e⟩ := hi.allInts.items
  have hn : numsOf (intItems xs).toList = ns := by rw [← e]; exact hi.numsOf
  rw [nums_intItems] at hn
  rw [e] at ht
  refine sum_tupG hh ht fun h' tk t' hk => ?_
  rw [preSum_eq, List.take_of_length_le (by simp), hn]
  exact h h' tk t' hk
end
def rSumA (K : Fg) : List V → Hp → VK → Prop := fun vs H Q => rSum K vs H Q ∨ ∃ (a : Addr) (ns : List Int), vs = [V.ref a] ∧ SqT K H a (ns.map V.int) ∧ Q (.int ns.sum) H
theorem call_sumA {X : Cx} (hc : X.calm = true) : CallR X (.builtin "sum") (rSumA X.K) := by
  intro pins s σ H vs us Q I r h
  rcases h with h | ⟨a, ns, rfl, hs, q⟩
  · exact cr_sum hc pins s σ H vs us Q I r h
  · obtain ⟨its, rv, ht, _⟩ := I.tuple hs
    rw [Vals.ref1 r]
    exact sum_tup (I.ok.hd hc) ht rv.ints fun h' tk t' hk => ⟨.int _, H, I.kept hk, ⟨_, rfl⟩, q⟩
def sumAD : Dat → Option RV
  | .list ds => (ints? ds).bind fun ns => some (.im (.int ns.sum))
  | .tuple ds => (ints? ds).bind fun ns => some (.im (.int ns.sum))
  | _ => none
theorem sumAD_ok {K : Fg} : C1Snd K (rSumA K) sumAD := by
  intro G F ps σ H x d out Q R hx hg q
  unfold sumAD at hg
  split at hg
  · rename_i ds
    exact .inl (sumD_ok (K := K) G F ps σ H x (.list ds) out Q R hx hg q)
  · obtain ⟨ns, e1, hg⟩ := Option.bind_eq_some_iff.mp hg
    cases hg
    obtain ⟨a, vs, rfl, h1, h2⟩ := bTup R.fh hx
    rw [ints_rel e1 h2] at h1
    exact .inr ⟨a, ns, rfl, h1, out_im R (by unfold Rel; rfl) q⟩
  · cases hg
theorem kc_sumA {X : Cx} {K : Fg} (hK : X.K = K) (hc : X.calm = true := by rfl) : CallR X (.builtin "sum") (rSumA K) := by subst hK; exact call_sumA hc
end MP

/-! more rules: any and all of a list of truth values, insert -/
namespace MP
open PySem PySem.Spec PyProof.Rows L2
variable [Tbs] [Wx]

/-! ### any, all -/
def bools? : List Dat → Option (List Bool)
  | [] => some []
  | .bool i :: ds => (bools? ds).map (i :: ·)
  | _ :: _ => none
theorem bools_rel {K : Fg} {F : Hp} {T : Addr} : ∀ {ds : List Dat} {bs : List Bool} {vs : List V}, bools? ds = some bs → RelL K F T ds vs → vs = bs.map V.bl
  | [], bs, vs, e, h => by
    cases e
    unfold RelL at h
    rw [h]
    rfl
  | d :: ds, bs, vs, e, h => by
    unfold RelL at h
    obtain ⟨y, ys, rfl, h1, h2⟩ := h
    cases d with
    | bool b =>
      obtain ⟨bs', e1, e2⟩ := Option.map_eq_some_iff.mp (show (bools? ds).map (b :: ·) = some bs from e)
      subst e2
      rw [rBl.mp h1, bools_rel e1 h2]
      rfl
    | none => cases e
    | int _ => cases e
    | str _ => cases e
    | list _ => cases e
    | tuple _ => cases e
    | dict _ => cases e
def anyD : Dat → Option RV
  | .list ds => (bools? ds).bind fun bs => some (.im (.bool (bs.any id)))
  | _ => none
def allD : Dat → Option RV
  | .list ds => (bools? ds).bind fun bs => some (.im (.bool (bs.all id)))
  | _ => none
theorem anyD_ok {K : Fg} : C1Snd K (rAny K) anyD := by
  intro G F ps σ H x d out Q R hx hg q
  unfold anyD at hg
  split at hg
  · obtain ⟨bs, e1, hg⟩ := Option.bind_eq_some_iff.mp hg
    cases hg
    obtain ⟨a, vs, rfl, h1, h2⟩ := bLst hx
    rw [bools_rel e1 h2] at h1
    exact ⟨a, bs, rfl, SqL.of h1, out_im R (by unfold Rel; rfl) q⟩
  · cases hg
theorem allD_ok {K : Fg} : C1Snd K (rAll K) allD := by
  intro G F ps σ H x d out Q R hx hg q
  unfold allD at hg
  split at hg
  · obtain ⟨bs, e1, hg⟩ := Option.bind_eq_some_iff.mp hg
    cases hg
    obtain ⟨a, vs, rfl, h1, h2⟩ := bLst hx
    rw [bools_rel e1 h2] at h1
    exact ⟨a, bs, rfl, SqL.of h1, out_im R (by unfold Rel; rfl) q⟩
  · cases hg
theorem kc_any {X : Cx} {K : Fg} (hK : X.K = K) (hc : X.calm = true := by rfl) : CallR X (.builtin "any") (rAny K) := by subst hK; exact cr_any hc
theorem kc_all {X : Cx} {K : Fg} (hK : X.K = K) (hc : X.calm = true := by rfl) : CallR X (.builtin "all") (rAll K) := by subst hK; exact cr_all hc

/-! ### l.insert(i, x) -/
def insM (j : Nat) (g : M (List Dat)) : SM := fun ps => match ps.sl[j]? with
  | some (.ow _) => (g ps).bind fun x => match x.1, x.2.sl[j]? with
    | [.int i, d], some (.ow ds) => if decide (0 ≤ i) && b62 i && decide (ds.length < sizeLine) then some (.nx (x.2.put j (.ow (ds.take i.toNat ++ [d] ++ ds.drop i.toNat)))) else none
    | _, _ => none
  | _ => none
def rInsert : V → List V → Hp → VK → Prop := fun x vs H Q => ∃ (l : Addr) (xs : List V) (i : Int) (y : V), x = .ref l ∧ vs = [.int i, y] ∧ H l = some (.lst xs) ∧ xs.length < sizeLine ∧ 0 ≤ i ∧ i < 2 ^ 63 ∧ Q .non (upd H l (.lst (xs.take i.toNat ++ [y] ++ xs.drop i.toNat)))
theorem snd_ins {K : Fg} {j : Nat} {t : TA} {g : M (List Dat)} (he : SndA K t g) : SndS K (tDrop (tBM K "list" rInsert (tVar j) t)) (insM j g) := by
  refine ⟨fun G F ps σ H o D R e q => ?_⟩
  unfold insM at e
  split at e
  · rename_i ds0 ed0
    obtain ⟨⟨ds', ps1⟩, e1, e⟩ := Option.bind_eq_some_iff.mp e
    simp only at e
    split at e
    · rename_i i d ds ed
      split at e
      · rename_i hl
        cases e
        simp only [Bool.and_eq_true, decide_eq_true_eq] at hl
        obtain ⟨o1, e4, p, vs0, rfl, hp, _⟩ := R.slots j _ ed0
        refine ⟨.ref p, e4, .inl ⟨rfl, _, SqL.of hp⟩, he.go G F ps σ H _ _ _ R e1 fun ws F1 H1 P1 r1 => ?_⟩
        unfold RelL at r1
        obtain ⟨v1, ws1, rfl, r1a, r1⟩ := r1
        unfold RelL at r1
        obtain ⟨v2, ws2, rfl, r1b, r1⟩ := r1
        unfold RelL at r1
        subst r1
        obtain ⟨o2, e5, p', vs, eo, h1, h2, h3, h4⟩ := P1.rep.slots j _ ed
        rw [e4] at e5
        cases e5
        cases eo
        have P3 := P1.rep.wr ed e4 (((h4.take i.toNat).append (.cons r1b .nil)).append (h4.drop i.toNat))
        exact ⟨p, vs, i, v2, rfl, by rw [rInt.mp r1a], h1, by rw [h4.len]; exact hl.2, hl.1.1, (b62_63 hl.1.2).2, q F1 σ _ P3.rep P1.same⟩
      · cases e
    · cases e
  · cases e
section
variable {X : Cx} {e1 e2 : Expr} {t : TA} {g : M (List Dat)}
theorem ds_ins {j : Nat} {x : Str} {px apos cpos pos : Pos} (hN : X.N[j]? = some x) (hv : Vis X.env.scope x) (he : DA X [e1, e2] t g)
    (hbase : attributeBase (.Name x px) "insert" X.env (eval (.Name x px) X.env) = eval (.Name x px) X.env := by rfl)
    (hfew : ((backTo cpos (starEach [e1, e2] X.env)).all (fun z => !z.1) && (backToKw cpos (keywordEach [] X.env)).all (fun z => z.1.isSome) && decide ([e1, e2].length + ([] : List Keyword).length + (if ([] : List Keyword).isEmpty then 0 else 1) < 30)) = true := by rfl)
    (hline : (apos.endLine == cpos.line) = true := by rfl) (h1 : starEach [e1, e2] X.env = (false, eval e1 X.env) :: starEach [e2] X.env := by rfl) (hplain : (backTo cpos (starEach [e2] X.env)).any (·.1) = false := by rfl)
    (hs : swapsWith (.Call (.Attribute (.Name x px) "insert" apos) [e1, e2] [] cpos) none pos.line X.env = pure false := by rfl)
    (hd : (x == ("__debug__" : Str)) = false := by decide) (hcd : (x == ("__classdict__" : Str)) = false := by decide) :
    DS X (.Expr (.Call (.Attribute (.Name x px) "insert" apos) [e1, e2] [] cpos) pos) (tDrop (tBM X.K "list" rInsert (tVar j) t)) (insM j g) :=
  ⟨ps_expr (pe_bm PySem.F.plainAttrs_list PySem.F.slot_list_insert PySem.F.type_list_insert mt_insert (pe_var hN hv hd hcd) he.pe hbase hfew hline h1 hplain) hs, snd_ins he.sn⟩
end

/-! ### for x in reversed(row) -/
theorem rev_get {α : Type} {ds : List α} {i : Nat} {d : α} (h : ds.reverse[i]? = some d) : i < ds.length ∧ ds[ds.length - 1 - i]? = some d := by
  have hi : i < ds.length := by
    rcases Nat.lt_or_ge i ds.length with z | z
    · exact z
    · rw [List.getElem?_eq_none (by rw [List.length_reverse]; exact z)] at h
      cases h
  rw [List.getElem?_reverse hi] at h
  exact ⟨hi, h⟩
theorem wlk_rl {G : Ctl} {K : Fg} {a : Addr} {ds : List Dat} {xs : List V} {F' : Hp} (h1 : F' a = some (.lst xs)) (h2 : RelL K F' G.T ds xs) : Wlk G K (Itv K a xs.length) ds.reverse F' := by
  refine ⟨fun i d e F2 ps σ H2 R s => ?_, fun F2 ps σ H2 R s => ?_⟩
  · obtain ⟨hi, e⟩ := rev_get e
    rw [← h2.len] at hi e
    obtain ⟨v, e1, r⟩ := h2.get e
    have hl : SqL K H2 a xs := SqL.of (R.fh _ _ (s _ _ h1))
    refine ⟨⟨hi, xs, v, hl, e1⟩, fun x H3 y => ?_⟩
    obtain ⟨rfl, y⟩ := y
    have e2 := y xs hl
    rw [e1] at e2
    cases e2
    exact ⟨F2, .refl R, Rel.mono s _ _ r⟩
  · show xs.length ≤ ds.reverse.length
    rw [List.length_reverse, h2.len]
    exact Nat.le_refl _
theorem wlk_rt {G : Ctl} {K : Fg} {a : Addr} {ds : List Dat} {xs : List V} {F' : Hp} (h1 : SqT K F' a xs) (h2 : RelL K F' G.T ds xs) : Wlk G K (RT.ItvT K a xs.length) ds.reverse F' := by
  refine ⟨fun i d e F2 ps σ H2 R s => ?_, fun F2 ps σ H2 R s => ?_⟩
  · obtain ⟨hi, e⟩ := rev_get e
    rw [← h2.len] at hi e
    obtain ⟨v, e1, r⟩ := h2.get e
    have hl : SqT K H2 a xs := seqT (s.trans R.fh) h1
    refine ⟨⟨hi, xs, v, hl, e1⟩, fun x H3 y => ?_⟩
    obtain ⟨rfl, y⟩ := y
    have e2 := y xs hl
    rw [e1] at e2
    cases e2
    exact ⟨F2, .refl R, Rel.mono s _ _ r⟩
  · show xs.length ≤ ds.reverse.length
    rw [List.length_reverse, h2.len]
    exact Nat.le_refl _
def revIt (fe : M RV) : M (List Dat) := fun ps => (keepM fe ps).bind fun x => (items? x.1).bind fun ds => some (ds.reverse, x.2)
theorem k_rev {X : Cx} {K : Fg} {tg e : Expr} {te : TE} {fe : M RV} {p pos : Pos} (hK : X.K = K) (hg : Gl X "reversed") (hm : X.mg "reversed" = none) (h : DE X e te fe) (hs : starEach [e] X.env = (false, eval e X.env) :: starEach [] X.env := by rfl) :
    DI X tg (.Call (.Name "reversed" p) [e] [] pos) (RT.iRevA K te) (revIt fe) := by
  subst hK
  refine ⟨RT.pi_revA hg hm h.pe hs, ⟨fun G F ps σ H ds ps' R Rp e q => ?_⟩⟩
  unfold revIt at e
  obtain ⟨⟨d, ps1⟩, e1, e⟩ := Option.bind_eq_some_iff.mp e
  obtain ⟨ds', e2, e⟩ := Option.bind_eq_some_iff.mp e
  cases e
  refine keepM_go h.sn Rp e1 fun v F1 H1 P1 r1 => ?_
  rcases items_ok e2 with e2 | e2
  · have e2 : d = .list _ := e2
    subst e2
    obtain ⟨a, xs, rfl, h1, h2⟩ := rLst.mp r1
    exact ⟨a, xs, rfl, .inl ⟨SqL.of (P1.rep.fh _ _ h1), q _ F1 H1 P1 (wlk_rl h1 h2)⟩⟩
  · have e2 : d = .tuple _ := e2
    subst e2
    obtain ⟨a, xs, rfl, h1, h2⟩ := rTupE r1
    exact ⟨a, xs, rfl, .inr ⟨seqT P1.rep.fh h1, q _ F1 H1 P1 (wlk_rt h1 h2)⟩⟩

/-! ### l.index(x) of data in a list -/
def idxDD : Dat → Dat → Option RV
  | .list ds, d => if SeqAt.shaped (.list ds) && SeqAt.shaped d then (ds.findIdx? fun z => PyData.eqv z d).bind fun j => some (.im (.int (j : Nat))) else none
  | _, _ => none
def isLst : Dat → Bool
  | .list _ => true
  | _ => false
def idxDM (fa fb : M RV) : M RV := fun ps => (fa ps).bind fun x => (brw (settle x.1) x.2).bind fun d0 => if isLst d0 then (fb x.2).bind fun y => (brw (settle x.1) y.2).bind fun d => (brw y.1 y.2).bind fun e => (idxDD d e).bind fun r => some (r, y.2) else none
theorem idxDD_ok {K : Fg} {G : Ctl} {F : Hp} {ps : PS} {σ : L2.St} {H : Hp} {x y : V} {d e : Dat} {out : RV} {Q : VK} (R : Rep G K F ps σ H) (hx : BRel K F H G.T d x) (hy : BRel K F H G.T e y) (hg : idxDD d e = some out)
    (q : ∀ v F' H', Post G K F ps σ H F' ps H' → RVok G K F' ps σ H H' out v → Q v H') : rIndexD K x [y] H Q := by
  unfold idxDD at hg
  split at hg
  · rename_i ds
    split at hg
    · rename_i hs
      obtain ⟨j, ej, hg⟩ := Option.bind_eq_some_iff.mp hg
      cases hg
      simp only [Bool.and_eq_true] at hs
      have D := BRel.dp R.fh hs.1 hx
      have E := BRel.dp R.fh hs.2 hy
      obtain ⟨a, vs, rfl, _⟩ := bLst hx
      obtain ⟨hj, h1, h2⟩ := List.findIdx?_eq_some_iff_getElem.mp ej
      exact ⟨a, y, e, ds, j, ds[j], rfl, rfl, D, E, hs.1, hs.2, List.getElem?_eq_getElem hj, h1, fun m z hm hz => by
        have hmj : m < ds.length := by omega
        rw [List.getElem?_eq_getElem hmj] at hz
        rw [← Option.some.inj hz]
        simpa using h2 m hm, out_im R (by unfold Rel; rfl) q⟩
    · cases hg
  · cases hg
section
variable {X : Cx} {K : Fg} {o e : Expr} {to te : TE} {fo fe : M RV} {apos cpos : Pos}
theorem snd_idxD (ho : SndE K to fo) (he : SndE K te fe) : SndE K (tBM K "list" (rIndexD K) to (tCons te tNil)) (idxDM fo fe) := by
  refine ⟨fun G F ps σ H out ps' Q R e q => ?_⟩
  unfold idxDM at e
  obtain ⟨⟨ra, ps1⟩, e1, e⟩ := Option.bind_eq_some_iff.mp e
  obtain ⟨d0, e0, e⟩ := Option.bind_eq_some_iff.mp e
  split at e
  · rename_i hl
    obtain ⟨⟨rb, ps2⟩, e2, e⟩ := Option.bind_eq_some_iff.mp e
    obtain ⟨d, e3, e⟩ := Option.bind_eq_some_iff.mp e
    obtain ⟨d', e4, e⟩ := Option.bind_eq_some_iff.mp e
    obtain ⟨out', e5, e⟩ := Option.bind_eq_some_iff.mp e
    cases e
    refine ho.go G F ps σ H ra ps1 _ R e1 fun x F1 H1 P1 r1 => ?_
    obtain ⟨F1', P1', r1'⟩ := settle_ok P1 r1
    have b0 := brw_ok P1'.rep r1' e0
    cases d0 with
    | list ds0 =>
      obtain ⟨a, xs, rfl, h1, _⟩ := bLst b0
      refine ⟨.inl ⟨rfl, xs, SqL.of h1⟩, he.go G F1' ps1 σ H1 rb ps2 _ P1'.rep e2 fun y F2 H2 P2 r2 => ?_⟩
      refine idxDD_ok P2.rep (brw_ok P2.rep (r1'.post P2) e3) (brw_ok P2.rep r2 e4) e5 fun v F' H' P3 r3 => ?_
      exact q v F' H' ((P1'.trans P2).trans P3) (r3.back (P1'.trans P2).dom)
    | none => cases hl
    | bool _ => cases hl
    | int _ => cases hl
    | str _ => cases hl
    | tuple _ => cases hl
    | dict _ => cases hl
  · cases e
theorem k_indexD (hK : X.K = K) (hu : X.A.units + 65 < cLine) (ho : DE X o to fo) (he : DE X e te fe) (hbase : attributeBase o "index" X.env (eval o X.env) = eval o X.env := by rfl)
    (hfew : ((backTo cpos (starEach [e] X.env)).all (fun z => !z.1) && (backToKw cpos (keywordEach [] X.env)).all (fun z => z.1.isSome) && decide ([e].length + ([] : List Keyword).length + (if ([] : List Keyword).isEmpty then 0 else 1) < 30)) = true := by rfl)
    (hline : (apos.endLine == cpos.line) = true := by rfl) (hs : starEach [e] X.env = (false, eval e X.env) :: starEach [] X.env := by rfl) (hplain : (backTo cpos (starEach [] X.env)).any (·.1) = false := by rfl) :
    DE X (.Call (.Attribute o "index" apos) [e] [] cpos) (tBM K "list" (rIndexD K) to (tCons te tNil)) (idxDM fo fe) := by
  subst hK
  exact ⟨pe_bm PySem.F.plainAttrs_list PySem.F.slot_list_index PySem.F.type_list_index (mt_indexD hu) ho.pe (pa_cons he.pe pa_nil hs) hbase hfew hline hs hplain, snd_idxD ho.sn he.sn⟩
end

/-! ### isinstance(x, (A, B)) -/
def isi2D (T1 T2 : Ty6) (d : Dat) : Option RV := (tyD d).bind fun t => some (.im (.bool (isTy t T1 || isTy t T2)))
section
variable {X : Cx} {K : Fg} {a : Expr} {ta : TE} {fa : M RV} {p p1 p2 pt pos : Pos} {kk : Nat} {T1 T2 : Ty6} {x y : Str}
theorem k_isi2 (hK : X.K = K) (h1 : T1 ≠ .none) (h2 : T2 ≠ .none) (hgl : Gl X "isinstance") (hm : X.mg "isinstance" = none) (hg1 : Gl X x) (hm1 : X.mg x = none) (hv1 : bootBuiltins x = some (.type T1.nm)) (hg2 : Gl X y) (hm2 : X.mg y = none) (hv2 : bootBuiltins y = some (.type T2.nm)) (ha : DE X a ta fa)
    (hn1 : x ≠ "__name__" := by decide) (hd1 : (x == ("__debug__" : Str)) = false := by decide) (hn2 : y ≠ "__name__" := by decide) (hd2 : (y == ("__debug__" : Str)) = false := by decide)
    (he : starEach [a, .Tuple [.Name x p1, .Name y p2] kk pt] X.env = (false, eval a X.env) :: starEach [.Tuple [.Name x p1, .Name y p2] kk pt] X.env := by rfl)
    (he2 : starEach [.Tuple [.Name x p1, .Name y p2] kk pt] X.env = (false, eval (.Tuple [.Name x p1, .Name y p2] kk pt) X.env) :: starEach [] X.env := by rfl)
    (he3 : starEach [.Name x p1, .Name y p2] X.env = (false, eval (.Name x p1) X.env) :: starEach [.Name y p2] X.env := by rfl) (he4 : starEach [.Name y p2] X.env = (false, eval (.Name y p2) X.env) :: starEach [] X.env := by rfl)
    (hp : (backTo pos (starEach [.Tuple [.Name x p1, .Name y p2] kk pt] X.env)).any (·.1) = false := by rfl) :
    DE X (.Call (.Name "isinstance" p) [a, .Tuple [.Name x p1, .Name y p2] kk pt] [] pos) (tCB (rIsiT K) (tCons ta (tCons (tTup (tCons (tC (.ty T1.nm)) (tCons (tC (.ty T2.nm)) tNil))) tNil))) (unM (isi2D T1 T2) fa) := by
  subst hK
  refine ⟨pe_callB call_isiT hgl hm (by decide +kernel) (pa_cons ha.pe (pa_cons (pe_tup (pa_cons (pe_bltn (v := .ty T1.nm) hg1 hm1 hv1 rfl hn1 hd1) (pa_cons (pe_bltn (v := .ty T2.nm) hg2 hm2 hv2 rfl hn2 hd2) pa_nil he4) he3)) pa_nil he2) he) (by decide) (by decide) he hp, ⟨fun G F ps σ H out ps' Q R e q => ?_⟩⟩
  unfold unM at e
  obtain ⟨⟨ra, ps1⟩, e1, e⟩ := Option.bind_eq_some_iff.mp e
  obtain ⟨d, e3, e⟩ := Option.bind_eq_some_iff.mp e
  obtain ⟨out', e5, e⟩ := Option.bind_eq_some_iff.mp e
  cases e
  refine ha.sn.go G F ps σ H ra ps1 _ R e1 fun v F1 H1 P1 r1 => ?_
  refine ⟨by show 2 ≤ sizeLine; decide, fun tp hn => ?_⟩
  have b := (brw_ok P1.rep r1 e3).rel P1.rep.fh
  unfold isi2D at e5
  obtain ⟨t, e6, e5⟩ := Option.bind_eq_some_iff.mp e5
  cases e5
  have P3 := P1.rep.newF (o := .tup [.ty T1.nm, .ty T2.nm]) hn
  have k2 : PySem.W.kitAny X.K (.type t.nm) [.type T2.nm] = some (isTy t T2) := kitAny_cons (kit_ty (kit_all t T2 h2)) (fun z => by rw [z]; exact kitAny_nil) (fun z => z)
  have k1 : PySem.W.kitAny X.K (.type t.nm) [.type T1.nm, .type T2.nm] = some (isTy t T1 || isTy t T2) := kitAny_cons (kit_ty (kit_all t T1 h1)) (fun z => by rw [z, Bool.false_or]; exact k2) (fun z => by rw [z, Bool.true_or])
  have b2 : Rel X.K (upd H1 tp (.tup [.ty T1.nm, .ty T2.nm])) G.T d v := Rel.mono (same_upd hn) _ _ b
  exact ⟨v, tp, _, _, [.type T1.nm, .type T2.nm], _, rfl, upd_same, .cons (.ty _) (.cons (.ty _) .nil), tyX_of b2 e6, k1, q _ _ _ (P1.trans P3) (show Rel _ _ _ _ _ by unfold Rel; rfl)⟩
end
end MP

/-! ### row[::-1], list or tuple -/
namespace MP
open PySem PySem.Spec PyProof.Rows L2 HT
variable [Tbs] [Wx]
theorem fm_congr {α β : Type} {f g : α → Option β} : ∀ {l : List α}, (∀ x ∈ l, f x = g x) → l.filterMap f = l.filterMap g
  | [], _ => rfl
  | x :: l, h => by
    rw [List.filterMap_cons, List.filterMap_cons, h x (List.mem_cons_self ..), fm_congr fun y hy => h y (List.mem_cons_of_mem _ hy)]
section
variable {prog : Program} {w : World} {A : Around} {E : Value → Shared → Prop} {s : Shared}
theorem applied_rev {sl : Addr} {vl vu vs : Value} {n : Nat} {Q : Int × Int × Nat → Shared → Prop} (hs : s.heap.IsSliceOf sl vl vu vs) (pl : IsPart vl none) (pu : IsPart vu none) (ps : IsPart vs (some (-1)))
    (h : Q ((n : Int) - 1, -1, n) s) : wpAny (model prog w) A (Builtin.Slice.sliceApplied (.ref sl) (pure (n : Int))) Q E s := by
  obtain ⟨os, hos, hcs, hds⟩ := id hs
  unfold Builtin.Slice.sliceApplied Builtin.Slice.sliceFields
  refine wpAny_bind (wpAny_bind (wpAny_field hos hds (x := vl) rfl (wpAny_bind (wpAny_field hos hds (x := vu) rfl (wpAny_bind (wpAny_field hos hds (x := vs) rfl (wpAny_pure ?_)))))))
  refine wpAny_bind (slicePart_ ps ?_)
  show wpAny _ _ (if ((-1 : Int) == 0) = true then _ else _) _ _ s
  rw [if_neg (by decide)]
  refine wpAny_bind (slicePart_ pl (wpAny_bind (slicePart_ pu (wpAny_bind (wpAny_pure ?_)))))
  have e1 : Builtin.Slice.sliceAdjust none none ((some (-1 : Int)).getD 1) (n : Int) = ((n : Int) - 1, -1) := by
    unfold Builtin.Slice.sliceAdjust
    simp
  have e2 : Builtin.Slice.slicePlaces ((n : Int) - 1) (-1) (-1) = n := by
    unfold Builtin.Slice.slicePlaces
    by_cases h0 : n = 0
    · subst h0
      decide
    · have : (n : Int) - 1 > -1 := by omega
      simp
      omega
  rw [e1]
  show wpAny _ _ (pure ((n : Int) - 1, (-1 : Int), Builtin.Slice.slicePlaces ((n : Int) - 1) (-1) (-1))) _ _ s
  rw [e2]
  exact wpAny_pure h
theorem getItem_tuple_rev {t sl : Addr} {items : Array Value} {vl vu vs : Value} {Q : Value → Shared → Prop} (ht : IsTup s.heap t items) (hs : s.heap.IsSliceOf sl vl vu vs) (pl : IsPart vl none) (pu : IsPart vu none) (ps : IsPart vs (some (-1)))
    (h : Q (.ref s.heap.objs.size) { s with heap := s.heap.push { cls := .type "tuple", data := .seq items.toList.reverse.toArray } }) (hz : items.size ≤ sizeLine) : wpAny (model prog w) A (getItem (.ref t) (.ref sl)) Q E s := by
  have fits : sizeOk (.seq items.toList.reverse.toArray) := by
    show items.toList.reverse.toArray.size ≤ sizeLine
    rw [List.size_toArray, List.length_reverse, Array.length_toList]
    exact hz
  obtain ⟨os, hos, hcs, hds⟩ := id hs
  have kind : s.TypeIs (.ref sl) "slice" := ⟨os, hos, hcs⟩
  unfold getItem
  try with_reducible refine wpAny_holding ?_
  first | refine wpAny_bind (wpAny_pure ?_) | skip
  refine wpAny_bind (wpAny_sequenceKey ht.typeIs (by decide) ?_)
  refine wpAny_bind (wpAny_callSpecial?_slot (name := Str.ofString "__getitem__") ht.typeIs PyProof.Rows.slot_tuple_getitem (wpAny_call_entry PyProof.Rows.slot_tuple_getitem ht.typeIs entry_tuple_getitem ?_ (args_tuple_getitem _ _)))
  refine wpAny_bind (m := Builtin.Tuple.tupleItemsOf (.ref t)) (tupleItemsOf_ ht (wpAny_bind (wpAny_typeOf kind ?_)))
  rw [if_pos (by decide)]
  refine wpAny_bind (applied_rev hs pl pu ps ?_)
  have no : ¬ ((((items.size : Nat) : Int) - 1 == 0 && (-1 : Int) == 1 && items.size == items.size) = true) := by
    intro q
    rw [Bool.and_eq_true, Bool.and_eq_true] at q
    exact absurd (eq_of_beq q.1.2) (by decide)
  show wpAny _ _ (if (((items.size : Nat) : Int) - 1 == 0 && (-1 : Int) == 1 && items.size == items.size) = true then _ else _) _ _ s
  rw [if_neg no]
  have pk : ((List.range items.size).filterMap fun (m : Nat) => items[(((items.size : Nat) : Int) - 1 + (m : Int) * (-1)).toNat]?).toArray = items.toList.reverse.toArray := by
    have e : (List.range items.size).filterMap (fun (m : Nat) => items[(((items.size : Nat) : Int) - 1 + (m : Int) * (-1)).toNat]?) = ((List.range items.size).map fun k => items.size - 1 - k).filterMap (items[·]?) := by
      rw [List.filterMap_map]
      refine fm_congr fun m hm => ?_
      have := List.mem_range.mp hm
      show items[_]? = items[items.size - 1 - m]?
      congr 1
      omega
    rw [e, PySem.W.krv_range, List.filterMap_reverse, PySem.W.krv_all]
  rw [pk]
  first
    | exact wpAny_bind (m := Builtin.Tuple.tupleExact _) (wpAny_newObj_type (wpAny_pure ⟨_, rfl, wpAny_pure h⟩) fits)
    | exact wpAny_bind (m := Builtin.Tuple.tupleExact _) (wpAny_newObj_type (wpAny_bind (wpAny_pure (wpAny_pure ⟨_, rfl, wpAny_pure h⟩))) fits)
    | exact wpAny_bind (wpAny_bind (m := Builtin.Tuple.tupleExact _) (wpAny_newObj_type (wpAny_pure (wpAny_pure ⟨_, rfl, wpAny_pure h⟩)) fits))
    | exact wpAny_bind (wpAny_bind (m := Builtin.Tuple.tupleExact _) (wpAny_newObj_type (wpAny_pure ⟨_, rfl, wpAny_pure h⟩) fits))
end

def tRevA (K : Fg) (te : TE) : TE := fun σ H Q => te σ H fun x H1 => ∃ (a : Addr) (xs : List V), x = .ref a ∧ ((SqL K H1 a xs ∧ ∀ p, H1 p = none → Q (.ref p) (upd H1 p (.lst xs.reverse))) ∨ (SqT K H1 a xs ∧ NewT H1 xs.reverse Q))
theorem pe_revA {X : Cx} {te : TE} {e : Expr} {k : Nat} {p1 p2 p3 pos : Pos} (he : PE X e te) : PE X (.Subscript e (.Slice none none (some (.UnaryOp .USub (.Constant (.int 1) k p1) p2)) p3) pos) (tRevA X.K te) := by
  constructor
  intro pins s σ H Q I h
  refine Subscript_ (thn (he.run pins s σ H _ I h) fun v s1 hv => ?_)
  obtain ⟨x, H1, I1, r1, a, xs, rfl, q⟩ := hv
  obtain rfl : v = .ref a := r1
  have minus : PO X (some (.UnaryOp .USub (.Constant (.int 1) k p1) p2)) (tPart (tUn (rU fun i => .int (-i)) (tC (.int 1)))) := po_some (pe_un un_neg pe_int)
  refine wpAny_Slice (thn (po_none.run pins s1 σ H1 (fun o Hn => o = none ∧ Hn = H1) I1 ⟨rfl, rfl⟩) fun vl s2 hl => ?_)
  obtain ⟨l, H2, I2, pl, rfl, rfl⟩ := hl
  refine thn (po_none.run pins s2 σ H2 (fun o Hn => o = none ∧ Hn = H2) I2 ⟨rfl, rfl⟩) fun vu s3 hu => ?_
  obtain ⟨u, H3, I3, pu, rfl, rfl⟩ := hu
  refine thn (minus.run pins s3 σ H3 (fun o Hn => o = some (-1) ∧ Hn = H3) I3 ⟨1, rfl, -1, rfl, rfl, rfl⟩) fun vs s4 hs => ?_
  obtain ⟨o, H4, I4, ps, rfl, rfl⟩ := hs
  have I5 : Inv X pins σ H4 { s4 with heap := s4.heap.push { cls := .type "slice", data := .fields #[vl, vu, vs] } } := I4.kept (t' := s4.toks) fun b ob z => Heap.get?_push_of_some _ z
  show wpAny (model X.prog X.w) X.A (subscriptTail e (.Slice none none (some (.UnaryOp .USub (.Constant (.int 1) k p1) p2)) p3) (.ref a) (.ref s4.heap.objs.size)) (EP X pins σ Q) X.xe _
  rcases q with ⟨hx, q⟩ | ⟨hx, q⟩
  · obtain ⟨its, r, ht, hz⟩ := I5.list hx
    have len := r.length
    refine tail_any (ops := [.ref a, .ref s4.heap.objs.size]) ht.isList.typeIs (PySem.slot_list_getitem.lookup) (wpAny_getItem_list_slice ht.isList (Heap.IsSliceOf.new _ vl vu vs) pl pu ps (by decide) ?_ (by rw [List.size_toArray]; omega)) (by with_unfolding_all rfl)
    rw [PySem.W.krv_pick]
    refine ⟨V.ref _, _, I5.laid (t' := s4.toks) (o := .lst xs.reverse) (fun b ob z => Heap.get?_push_of_some _ z) (Nat.le_refl _) ⟨by rw [List.length_reverse]; exact hz, _, 0, r.reverse, Heap.get?_push_size _ rfl⟩, rfl, q _ (I5.hok.fresh (Nat.le_refl _))⟩
  · obtain ⟨its, r, ht, hz⟩ := I5.tuple hx
    refine tail_any (ops := [.ref a, .ref s4.heap.objs.size]) ht.typeIs (PyProof.Rows.slot_tuple_getitem.lookup) (getItem_tuple_rev ht (Heap.IsSliceOf.new _ vl vu vs) pl pu ps ?_ (by rw [List.size_toArray, ← r.length]; exact hz)) (by with_unfolding_all rfl)
    exact q.put I5 r.reverse (by rw [List.length_reverse]; exact hz)
def revAD : Dat → Option RV
  | .list ds => some (.nw ds.reverse)
  | .tuple ds => some (.im (.tuple ds.reverse))
  | _ => none
theorem k_revA {X : Cx} {K : Fg} {te : TE} {fe : M RV} {e : Expr} {k : Nat} {p1 p2 p3 pos : Pos} (hK : X.K = K) (he : DE X e te fe) : DE X (.Subscript e (.Slice none none (some (.UnaryOp .USub (.Constant (.int 1) k p1) p2)) p3) pos) (tRevA K te) (unM revAD fe) := by
  subst hK
  refine ⟨pe_revA he.pe, ⟨fun G F ps σ H out ps' Q R e q => ?_⟩⟩
  unfold unM at e
  obtain ⟨⟨ra, ps1⟩, e1, e⟩ := Option.bind_eq_some_iff.mp e
  obtain ⟨d, e3, e⟩ := Option.bind_eq_some_iff.mp e
  obtain ⟨out', e5, e⟩ := Option.bind_eq_some_iff.mp e
  cases e
  refine he.sn.go G F ps σ H ra ps1 _ R e1 fun x F1 H1 P1 r1 => ?_
  have b := brw_ok P1.rep r1 e3
  unfold revAD at e5
  split at e5
  · cases e5
    obtain ⟨a, xs, rfl, h1, h2⟩ := bLst b
    exact ⟨a, xs, rfl, .inl ⟨SqL.of h1, out_nw P1.rep h2.reverse fun v F' H' P3 r3 => q v F' H' (P1.trans P3) (r3.back P1.dom)⟩⟩
  · cases e5
    obtain ⟨a, xs, rfl, h1, h2⟩ := bTup P1.rep.fh b
    exact ⟨a, xs, rfl, .inr ⟨h1, out_tp P1.rep h2.reverse fun v F' H' P3 r3 => q v F' H' (P1.trans P3) (r3.back P1.dom)⟩⟩
  · cases e5
end MP

/-! the denotations worked out: rules for plain Lean, no heap in sight -/
namespace MP
open PySem PySem.Spec PyProof.Rows L2
/-- where no tables matter -/
instance (priority := low) noTbs : Tbs := ⟨fun _ => []⟩

section
variable {ps : PS} {f g : SM} {fe fa fb : M RV} {ga : M (List Dat)} {i j : Nat} {sl : List Sl} {dr : Dr}
@[simp] theorem e_seq : seqM f g ps = (f ps).bind fun o => match o with | .nx ps' => g ps' | o => some o := rfl
@[simp] theorem e_set : setM i fe ps = (fe ps).bind fun x => (setV i x.1 x.2).bind fun ps' => some (.nx ps') := rfl
@[simp] theorem e_kst {d : Dat} : kst d ps = some (.im d, ps) := rfl
@[simp] theorem e_rd : rdV i ⟨sl, dr⟩ = match sl[i]? with | some (.fr d) => some (.im d, ⟨sl, dr⟩) | some (.ow _) => some (.sl i, ⟨sl, dr⟩) | some (.tr _) => some (.pa i [], ⟨sl, dr⟩) | some (.al j path) => some (.pa j path, ⟨sl, dr⟩) | _ => none := rfl
@[simp] theorem e_op {g : Dat → Dat → Option RV} : opM g fa fb ps = (fa ps).bind fun x => (fb x.2).bind fun y => (brw (settle x.1) y.2).bind fun d => (brw y.1 y.2).bind fun e => (g d e).bind fun r => some (r, y.2) := rfl
@[simp] theorem e_un {g : Dat → Option RV} : unM g fa ps = (fa ps).bind fun x => (brw x.1 x.2).bind fun d => (g d).bind fun r => some (r, x.2) := rfl
@[simp] theorem e_bim {d : Dat} : brw (.im d) ps = some d := rfl
@[simp] theorem e_bnw {ds : List Dat} : brw (.nw ds) ps = some (.list ds) := rfl
@[simp] theorem e_bsl : brw (.sl i) ⟨sl, dr⟩ = match sl[i]? with | some (.fr d) => some d | some (.ow ds) => some (.list ds) | _ => none := rfl
@[simp] theorem e_sim {d : Dat} : settle (.im d) = .im d := rfl
@[simp] theorem e_snw {ds : List Dat} : settle (.nw ds) = .im (.list ds) := rfl
@[simp] theorem e_ssl : settle (.sl i) = .sl i := rfl
@[simp] theorem e_kim {d : Dat} : keepV (.im d) ps = some (d, ps) := rfl
@[simp] theorem e_knw {ds : List Dat} : keepV (.nw ds) ps = some (.list ds, ps) := rfl
@[simp] theorem e_ksl : keepV (.sl i) ⟨sl, dr⟩ = match sl[i]? with | some (.fr d) => some (d, ⟨sl, dr⟩) | some (.ow ds) => some (.list ds, ⟨sl.set i (.fr (.list ds)), dr⟩) | _ => none := rfl
@[simp] theorem e_keep : keepM fe ps = (fe ps).bind fun x => keepV x.1 x.2 := rfl
@[simp] theorem e_cons : consM fe ga ps = (keepM fe ps).bind fun x => (ga x.2).bind fun y => some (x.1 :: y.1, y.2) := rfl
@[simp] theorem e_nil : (M.ret [] : M (List Dat)) ps = some ([], ps) := rfl
@[simp] theorem e_retb {b : Bool} : (M.ret b : M Bool) ps = some (b, ps) := rfl
@[simp] theorem e_retn : (M.ret none : M (Option Int)) ps = some (none, ps) := rfl
@[simp] theorem e_tup : tupM ga ps = (ga ps).bind fun x => if line x.1.length then some (.im (.tuple x.1), x.2) else none := rfl
@[simp] theorem e_lst : lstM ga ps = (ga ps).bind fun x => if line x.1.length then some (.nw x.1, x.2) else none := rfl
@[simp] theorem e_cn {g : List Dat → Option RV} {f : M (List Dat)} : cnM g f ps = (f ps).bind fun x => (g x.1).bind fun r => some (r, x.2) := rfl
@[simp] theorem e_svi {d : Dat} : setV i (.im d) ⟨sl, dr⟩ = some ⟨sl.set i (.fr d), dr⟩ := rfl
@[simp] theorem e_svn {ds : List Dat} : setV i (.nw ds) ⟨sl, dr⟩ = some ⟨sl.set i (.ow ds), dr⟩ := rfl
@[simp] theorem e_svs : setV i (.sl j) ⟨sl, dr⟩ = (keepV (.sl j) ⟨sl, dr⟩).bind fun x => some (x.2.put i (.fr x.1)) := rfl
@[simp] theorem e_put {s : Sl} : PS.put ⟨sl, dr⟩ i s = ⟨sl.set i s, dr⟩ := rfl
@[simp] theorem e_nm {d : Dat} : nmT i d ⟨sl, dr⟩ = some ⟨sl.set i (.fr d), dr⟩ := rfl
@[simp] theorem e_tst {f : M RV} : tstM f ps = (f ps).bind fun x => (asB x.1).bind fun b => some (b, x.2) := rfl
@[simp] theorem e_asB {b : Bool} : asB (.im (.bool b)) = some b := rfl
@[simp] theorem e_tru {f : M RV} : truM f ps = (f ps).bind fun x => (brw x.1 x.2).bind fun d => (truD d).bind fun b => some (b, x.2) := rfl
@[simp] theorem e_truB {b : Bool} : truD (.bool b) = some b := rfl
@[simp] theorem e_and {f g : M Bool} : andM f g ps = (f ps).bind fun x => if x.1 then g x.2 else some (false, x.2) := rfl
@[simp] theorem e_or {f g : M Bool} : orM f g ps = (f ps).bind fun x => if x.1 then some (true, x.2) else g x.2 := rfl
@[simp] theorem e_not {f : M Bool} : notM f ps = (f ps).bind fun x => some (!x.1, x.2) := rfl
@[simp] theorem e_andV {f g : M RV} : andVM f g ps = (f ps).bind fun x => (asB x.1).bind fun b => if b then g x.2 else some (.im (.bool false), x.2) := rfl
@[simp] theorem e_orV {f g : M RV} : orVM f g ps = (f ps).bind fun x => (asB x.1).bind fun b => if b then some (.im (.bool true), x.2) else g x.2 := rfl
@[simp] theorem e_notV {f : M RV} : notVM f ps = (f ps).bind fun x => (asB x.1).bind fun b => some (.im (.bool (!b)), x.2) := rfl
@[simp] theorem e_if {c : M Bool} {f g : M RV} : ifM c f g ps = (c ps).bind fun x => if x.1 then f x.2 else g x.2 := rfl
@[simp] theorem e_ite {c : M Bool} {f g : SM} : iteM c f g ps = (c ps).bind fun x => if x.1 then f x.2 else g x.2 := rfl
@[simp] theorem e_nx : nxM ps = some (.nx ps) := rfl
@[simp] theorem e_ret : retM fe ps = (fe ps).bind fun x => retV x.1 x.2 := rfl
@[simp] theorem e_ri {d : Dat} : retV (.im d) ps = some (.rt (.im d) ps) := rfl
@[simp] theorem e_rn {ds : List Dat} : retV (.nw ds) ps = some (.rt (.nw ds) ps) := rfl
@[simp] theorem e_rs : retV (.sl i) ⟨sl, dr⟩ = match sl[i]? with | some (.fr d) => some (.rt (.im d) ⟨sl, dr⟩) | some (.ow ds) => some (.rt (.nw ds) ⟨sl, dr⟩) | _ => none := rfl
@[simp] theorem e_call {fn : Fn} : callM fn ga ps = (ga ps).bind fun x => (fn x.1 x.2.dr).bind fun y => some (y.1, { x.2 with dr := y.2 }) := rfl
@[simp] theorem e_app : appM j fe ⟨sl, dr⟩ = match sl[j]? with
  | some (.ow _) => (keepM fe ⟨sl, dr⟩).bind fun x => match x.2.sl[j]? with
    | some (.ow ds) => if decide (ds.length < sizeLine) then some (.nx (x.2.put j (.ow (ds ++ [x.1])))) else none
    | _ => none
  | _ => none := rfl
@[simp] theorem e_sto {fi : M RV} : stoM j fi fe ps = (keepM fe ps).bind fun x => match x.2.sl[j]? with
  | some (.ow _) => (keepM fi x.2).bind fun y => match y.1, y.2.sl[j]? with
    | .int k, some (.ow ds) => (ixN ds.length k).bind fun n => some (.nx (y.2.put j (.ow (ds.set n x.1))))
    | _, _ => none
  | _ => none := rfl
@[simp] theorem e_pop : popM j fe ⟨sl, dr⟩ = match sl[j]? with
  | some (.ow _) => (keepM fe ⟨sl, dr⟩).bind fun x => match x.1, x.2.sl[j]? with
    | .int i, some (.ow ds) => if b62 i then (seqIndex? i ds.length).bind fun k => ds[k]?.bind fun y => some (.im y, x.2.put j (.ow (ds.eraseIdx k))) else none
    | _, _ => none
  | _ => none := rfl
@[simp] theorem e_for {fi : M (List Dat)} {tgt : Dat → PS → Option PS} {body : SM} : forSM fi tgt body ps = (fi ps).bind fun x => forL tgt body x.1 x.2 := rfl
@[simp] theorem e_seqI : seqIt fe ps = (keepM fe ps).bind fun x => (items? x.1).bind fun ds => some (ds, x.2) := rfl
@[simp] theorem e_itl {ds : List Dat} : items? (.list ds) = some ds := rfl
@[simp] theorem e_itt {ds : List Dat} : items? (.tuple ds) = some ds := rfl
@[simp] theorem e_lc {vs : List Nat} {fi : M (List Dat)} {tgt : Dat → PS → Option PS} {tst : M Bool} {elt : M RV} : lcM vs fi tgt tst elt ps = (fi ps).bind fun x => (lcL vs tgt tst elt x.1 [] (wipeP vs x.2)).bind fun y => some (.nw y.1, restP vs x.2 y.2) := rfl
@[simp] theorem e_wipe {vs : List Nat} : wipeP vs ⟨sl, dr⟩ = ⟨vs.foldr (fun v l => l.set v Sl.un) sl, dr⟩ := rfl
@[simp] theorem e_rest {vs : List Nat} {ps0 : PS} : restP vs ps0 ⟨sl, dr⟩ = ⟨vs.foldr (fun v l => l.set v (keepSl ps0.sl[v]?)) sl, dr⟩ := rfl
@[simp] theorem e_keepF {d : Dat} : keepSl (some (.fr d)) = .fr d := rfl
@[simp] theorem e_keepU : keepSl (some .un) = .un := rfl
@[simp] theorem e_keepO {ds : List Dat} : keepSl (some (.ow ds)) = .un := rfl
@[simp] theorem e_asg {tg : Dat → PS → Option PS} : asgM tg fe ps = (keepM fe ps).bind fun x => (tg x.1 x.2).bind fun ps' => some (.nx ps') := rfl
@[simp] theorem e_tupT {n : Nat} {f : List Dat → PS → Option PS} {ds : List Dat} : tupT n f (.tuple ds) ps = if ds.length = n then f ds ps else none := rfl
@[simp] theorem e_tupTL {n : Nat} {f : List Dat → PS → Option PS} {ds : List Dat} : tupT n f (.list ds) ps = if ds.length = n then f ds ps else none := rfl
@[simp] theorem e_tupP {n : Nat} {f : List Dat → PS → Option PS} {x y : Dat} : tupT n f (.dict [(x, y)]) ps = if 2 = n then f [x, y] ps else none := rfl
@[simp] theorem e_consT {f : Dat → PS → Option PS} {g : List Dat → PS → Option PS} {d : Dat} {r : List Dat} : consTs f g (d :: r) ps = (f d ps).bind fun ps1 => g r ps1 := rfl
@[simp] theorem e_nilT : nilTs [] ps = some ps := rfl
@[simp] theorem e_subT {fi : M RV} {d : Dat} : subT j fi d ⟨sl, dr⟩ = match sl[j]? with
  | some (.ow _) => (keepM fi ⟨sl, dr⟩).bind fun y => match y.1, y.2.sl[j]? with
    | .int k, some (.ow ds) => (ixN ds.length k).bind fun n => some (y.2.put j (.ow (ds.set n d)))
    | _, _ => none
  | _ => none := rfl
@[simp] theorem e_part : partM fa ps = (fa ps).bind fun x => match x.1 with | .im (.int i) => some (some i, x.2) | _ => none := rfl
@[simp] theorem e_sl {fl fh : M (Option Int)} : slM fa fl fh ps = (fa ps).bind fun x => (fl x.2).bind fun l => (fh l.2).bind fun h => (brw (settle x.1) h.2).bind fun d => (slD d l.1 h.1).bind fun r => some (r, h.2) := rfl
@[simp] theorem e_slL {ds : List Dat} {lo hi : Option Int} : slD (.list ds) lo hi = some (.nw (cutD ds lo hi)) := rfl
@[simp] theorem e_slT {ds : List Dat} {lo hi : Option Int} : slD (.tuple ds) lo hi = some (.im (.tuple (cutD ds lo hi))) := rfl
@[simp] theorem e_rng1 : rng1 ga ps = (ga ps).bind fun x => match x.1 with | [.int j] => if b62 j then some (rgD 0 j.toNat, x.2) else none | _ => none := rfl
@[simp] theorem e_rng2 : rng2 ga ps = (ga ps).bind fun x => match x.1 with | [.int i, .int j] => if b62 i && b62 j then some (rgD i (j - i).toNat, x.2) else none | _ => none := rfl
@[simp] theorem e_addI {i j : Int} : addD (.int i) (.int j) = some (.im (.int (i + j))) := rfl
@[simp] theorem e_subI {i j : Int} : subD (.int i) (.int j) = some (.im (.int (i - j))) := rfl
@[simp] theorem e_addL {xs ys : List Dat} : addD (.list xs) (.list ys) = if line (xs.length + ys.length) then some (.nw (xs ++ ys)) else none := rfl
@[simp] theorem e_addT {xs ys : List Dat} : addD (.tuple xs) (.tuple ys) = if line (xs.length + ys.length) then some (.im (.tuple (xs ++ ys))) else none := rfl
@[simp] theorem e_ltI {i j : Int} : ltD (.int i) (.int j) = some (.im (.bool (decide (i < j)))) := rfl
@[simp] theorem e_cmpI {p : Int → Int → Bool} {i j : Int} : cmpI p (.int i) (.int j) = some (.im (.bool (p i j))) := rfl
@[simp] theorem e_lenL {ds : List Dat} : lenD (.list ds) = some (.im (.int ds.length)) := rfl
@[simp] theorem e_lenT {ds : List Dat} : lenD (.tuple ds) = some (.im (.int ds.length)) := rfl
@[simp] theorem e_truTok {y : Dat × Dat} {z : Dat} {l : List (Dat × Dat)} {ds : List Dat} : truD (.dict (y :: (z, .list ds) :: l)) = some (!ds.isEmpty) := rfl
@[simp] theorem e_lenTok {y : Dat × Dat} {z : Dat} {l : List (Dat × Dat)} {ds : List Dat} : lenD (.dict (y :: (z, .list ds) :: l)) = some (.im (.int ds.length)) := rfl
@[simp] theorem e_ixTok {y : Dat × Dat} {z : Dat} {l : List (Dat × Dat)} {ds : List Dat} {i : Int} : ixD (.dict (y :: (z, .list ds) :: l)) (.int i) = (atI ds i).bind fun d => some (.im d) := rfl
@[simp] theorem e_listL {ds : List Dat} : listD (.list ds) = some (.nw ds) := rfl
@[simp] theorem e_listT {ds : List Dat} : listD (.tuple ds) = some (.nw ds) := rfl
@[simp] theorem e_tupL {ds : List Dat} : tupleD (.list ds) = some (.im (.tuple ds)) := rfl
@[simp] theorem e_tupT2 {ds : List Dat} : tupleD (.tuple ds) = some (.im (.tuple ds)) := rfl
@[simp] theorem e_intI {i : Int} : intD (.int i) = some (.im (.int i)) := rfl
@[simp] theorem e_ixL {ds : List Dat} {i : Int} : ixD (.list ds) (.int i) = (atI ds i).bind fun d => some (.im d) := rfl
@[simp] theorem e_ixT {ds : List Dat} {i : Int} : ixD (.tuple ds) (.int i) = (atI ds i).bind fun d => some (.im d) := rfl
@[simp] theorem e_min2 {i j : Int} : min2D [.int i, .int j] = some (.im (.int (if j < i then j else i))) := rfl
@[simp] theorem e_max2 {i j : Int} : max2D [.int i, .int j] = some (.im (.int (if j > i then j else i))) := rfl
@[simp] theorem e_isB {a b : Bool} : isBD (.bool a) (.bool b) = some (.im (.bool (decide (a = b)))) := rfl
@[simp] theorem e_expr : exprM fe ps = (fe ps).bind fun x => some (.nx x.2) := rfl
@[simp] theorem e_aug {g : Dat → Dat → Option RV} : augM i g fe ⟨sl, dr⟩ = match sl[i]? with
  | some (.fr d) => (keepM fe ⟨sl, dr⟩).bind fun x => (g d x.1).bind fun r => match r with
    | .im d' => some (.nx (x.2.put i (.fr d')))
    | _ => none
  | _ => none := rfl
@[simp] theorem e_augI {f : Int → Int → Int} {i j : Int} : augI f (.int i) (.int j) = some (.im (.int (f i j))) := rfl
@[simp] theorem e_par : parM i j fa fb ps = (fa ps).bind fun x => (fb x.2).bind fun y => (slotV x.1 y.2).bind fun u => (slotV y.1 u.2).bind fun w => some (.nx (putS j w.1 (putS i u.1 w.2))) := rfl
@[simp] theorem e_psf {d : Dat} : putS i (.fr d) ps = ps.put i (.fr d) := rfl
@[simp] theorem e_pso {ds : List Dat} : putS i (.ow ds) ps = ps.put i (.ow ds) := rfl
@[simp] theorem e_pst {t : Tr} : putS i (.tr t) ps = (ps.unal i).put i (.tr t) := rfl
@[simp] theorem e_unal : PS.unal i ⟨sl, dr⟩ = ⟨sl.map (unS i), dr⟩ := rfl
@[simp] theorem e_unf {d : Dat} : unS i (.fr d) = .fr d := rfl
@[simp] theorem e_uno {ds : List Dat} : unS i (.ow ds) = .ow ds := rfl
@[simp] theorem e_unt {t : Tr} : unS i (.tr t) = .tr t := rfl
@[simp] theorem e_unu : unS i .un = .un := rfl
@[simp] theorem e_una {path : List Nat} : unS i (.al j path) = if j = i then .un else .al j path := rfl
@[simp] theorem e_sli {d : Dat} : slotV (.im d) ps = some (.fr d, ps) := rfl
@[simp] theorem e_sln {ds : List Dat} : slotV (.nw ds) ps = some (.ow ds, ps) := rfl
@[simp] theorem e_sls : slotV (.sl j) ps = (keepV (.sl j) ps).bind fun x => some (.fr x.1, x.2) := rfl
@[simp] theorem e_body {n : Nat} {b : SM} {ds : List Dat} {dr : Dr} : bodyFn n b ds dr = (b ⟨ds.map Sl.fr ++ List.replicate (n - ds.length) Sl.un, dr⟩).bind fun o => match o with | .rt r ps => some (r, ps.dr) | .nx ps => some (.im .none, ps.dr) | _ => none := rfl
@[simp] theorem e_par3 {l : Nat} : par3M i j l ga ps = (ga ps).bind fun x => match x.1 with
  | [a, b, c] => some (.nx (((x.2.put i (.fr a)).put j (.fr b)).put l (.fr c)))
  | _ => none := rfl
@[simp] theorem e_idx : idxM fa fb ps = (keepM fa ps).bind fun x => (items? x.1).bind fun ds => (fb x.2).bind fun y => match y.1 with
  | .im (.int k) => (ints? ds).bind fun ns => if decide (k ∈ ns) then some (.im (.int (ns.idxOf k : Nat)), y.2) else none
  | _ => none := rfl
@[simp] theorem e_rg1 : rg1M fa ps = (fa ps).bind fun x => (asI x.1).bind fun n => some ((0, n), x.2) := rfl
@[simp] theorem e_rg2 : rg2M fa fb ps = (fa ps).bind fun x => (asI x.1).bind fun i => (fb x.2).bind fun y => (asI y.1).bind fun j => some ((i, j), y.2) := rfl
@[simp] theorem e_asI {n : Int} : asI (.im (.int n)) = some n := rfl
@[simp] theorem e_listRg {f : M (Int × Int)} : listRgM f ps = (f ps).bind fun x => if rgB x.1 then some (.nw (rgD x.1.1 (x.1.2 - x.1.1).toNat), x.2) else none := rfl
@[simp] theorem e_tupRg {f : M (Int × Int)} : tupleRgM f ps = (f ps).bind fun x => if rgB x.1 then some (.im (.tuple (rgD x.1.1 (x.1.2 - x.1.1).toNat)), x.2) else none := rfl
@[simp] theorem e_enI : enIt fe ps = (keepM fe ps).bind fun x => (items? x.1).bind fun ds => some (enL ds, x.2) := rfl
@[simp] theorem e_chain {g g' : Dat → Dat → Option RV} {fc : M RV} : chainM g g' fa fb fc ps = (fa ps).bind fun x => (fb x.2).bind fun y => (brw (settle x.1) y.2).bind fun d => (brw (settle y.1) y.2).bind fun e => (g d e).bind fun r => (asB r).bind fun k =>
    if k then (fc y.2).bind fun z => (brw (settle y.1) z.2).bind fun e2 => (brw z.1 z.2).bind fun e3 => (g' e2 e3).bind fun r' => some (r', z.2) else some (.im (.bool false), y.2) := rfl
@[simp] theorem e_intB {k : Bool} : intD (.bool k) = some (.im (.int (if k then 1 else 0))) := rfl
@[simp] theorem e_sumT {ds : List Dat} : sumAD (.tuple ds) = (ints? ds).bind fun ns => some (.im (.int ns.sum)) := rfl
@[simp] theorem e_sumL {ds : List Dat} : sumAD (.list ds) = (ints? ds).bind fun ns => some (.im (.int ns.sum)) := rfl
@[simp] theorem e_ins : insM j ga ⟨sl, dr⟩ = match sl[j]? with
  | some (.ow _) => (ga ⟨sl, dr⟩).bind fun x => match x.1, x.2.sl[j]? with
    | [.int i, d], some (.ow ds) => if decide (0 ≤ i) && b62 i && decide (ds.length < sizeLine) then some (.nx (x.2.put j (.ow (ds.take i.toNat ++ [d] ++ ds.drop i.toNat)))) else none
    | _, _ => none
  | _ => none := rfl
@[simp] theorem e_revI : revIt fe ps = (keepM fe ps).bind fun x => (items? x.1).bind fun ds => some (ds.reverse, x.2) := rfl
@[simp] theorem e_anyL {ds : List Dat} : anyD (.list ds) = (bools? ds).bind fun bs => some (.im (.bool (bs.any id))) := rfl
@[simp] theorem e_allL {ds : List Dat} : allD (.list ds) = (bools? ds).bind fun bs => some (.im (.bool (bs.all id))) := rfl
@[simp] theorem e_revAL {ds : List Dat} : revAD (.list ds) = some (.nw ds.reverse) := rfl
@[simp] theorem e_revAT {ds : List Dat} : revAD (.tuple ds) = some (.im (.tuple ds.reverse)) := rfl
@[simp] theorem e_abs {i : Int} : absD (.int i) = some (.im (.int (if i < 0 then -i else i))) := rfl
@[simp] theorem e_neg {i : Int} : negD (.int i) = some (.im (.int (-i))) := rfl
end

/-! ### loops -/
theorem forL_inv {α : Type} {f : α → Dat} {xs : List α} {tgt : Dat → PS → Option PS} {body : SM} (I : List α → PS → Prop)
    (step : ∀ pre x post ps, xs = pre ++ x :: post → I pre ps → ∃ ps1 ps2, tgt (f x) ps = some ps1 ∧ (body ps1 = some (.nx ps2) ∨ body ps1 = some (.ct ps2)) ∧ I (pre ++ [x]) ps2) {ps : PS} (h0 : I [] ps) :
    ∃ ps', forL tgt body (xs.map f) ps = some (.nx ps') ∧ I xs ps' := by
  suffices h : ∀ post pre ps, xs = pre ++ post → I pre ps → ∃ ps', forL tgt body (post.map f) ps = some (.nx ps') ∧ I xs ps' from h xs [] ps rfl h0
  intro post
  induction post with
  | nil =>
    intro pre ps e h
    rw [List.append_nil] at e
    subst e
    exact ⟨ps, rfl, h⟩
  | cons x post ih =>
    intro pre ps e h
    obtain ⟨ps1, ps2, e1, e2, h2⟩ := step pre x post ps e h
    obtain ⟨ps', e3, h3⟩ := ih (pre ++ [x]) ps2 (by rw [e]; simp) h2
    refine ⟨ps', ?_, h3⟩
    rcases e2 with e2 | e2 <;> simp only [List.map_cons, forL, e1, e2, Option.bind_some, e3]

theorem whileM_inv {c : M Bool} {b : SM} (I : Nat → PS → Prop) (D : PS → Prop)
    (step : ∀ n ps, I n ps → ∃ k ps1, c ps = some (k, ps1) ∧ (k = false → D ps1) ∧ (k = true → ∃ ps2 m, (b ps1 = some (.nx ps2) ∨ b ps1 = some (.ct ps2)) ∧ m < n ∧ I m ps2)) {n : Nat} {ps : PS} (h0 : I n ps) :
    ∃ ps', whileM c b ps = some (.nx ps') ∧ D ps' := by
  induction n using Nat.strongRecOn generalizing ps with
  | ind n ih =>
    obtain ⟨k, ps1, e1, hf, ht⟩ := step n ps h0
    rw [whileM_eq, e1]
    cases k with
    | false => exact ⟨ps1, rfl, hf rfl⟩
    | true =>
      obtain ⟨ps2, m, e2, hm, h2⟩ := ht rfl
      obtain ⟨ps', e3, h3⟩ := ih m hm h2
      refine ⟨ps', ?_, h3⟩
      rcases e2 with e2 | e2 <;> simp only [Option.bind_some, if_true, e2, e3]

theorem lcL_inv {α : Type} {f : α → Dat} {xs : List α} {vs : List Nat} {tgt : Dat → PS → Option PS} {tst : M Bool} {elt : M RV} (I : List α → List Dat → PS → Prop) (hl : xs.length ≤ sizeLine)
    (step : ∀ pre x post acc ps, xs = pre ++ x :: post → I pre acc ps → ∃ ps1 k ps2, tgt (f x) ps = some ps1 ∧ tst ps1 = some (k, ps2) ∧ (k = false → I (pre ++ [x]) acc (wipeP vs ps2)) ∧ (k = true → ∃ d ps3, keepM elt ps2 = some (d, ps3) ∧ I (pre ++ [x]) (acc ++ [d]) (wipeP vs ps3))) {ps : PS} (h0 : I [] [] ps) :
    ∃ acc ps', lcL vs tgt tst elt (xs.map f) [] ps = some (acc, ps') ∧ I xs acc ps' := by
  suffices h : ∀ post pre acc ps, xs = pre ++ post → acc.length ≤ pre.length → I pre acc ps → ∃ acc' ps', lcL vs tgt tst elt (post.map f) acc ps = some (acc', ps') ∧ I xs acc' ps' from h xs [] [] ps rfl (Nat.le_refl _) h0
  intro post
  induction post with
  | nil =>
    intro pre acc ps e _ h
    rw [List.append_nil] at e
    subst e
    exact ⟨acc, ps, rfl, h⟩
  | cons x post ih =>
    intro pre acc ps e hle h
    obtain ⟨ps1, k, ps2, e1, e2, hf, ht⟩ := step pre x post acc ps e h
    have hlen : acc.length < sizeLine := by
      have : xs.length = pre.length + (post.length + 1) := by rw [e]; simp
      omega
    cases k with
    | false =>
      obtain ⟨acc', ps', e3, h3⟩ := ih (pre ++ [x]) acc _ (by rw [e]; simp) (by simp; omega) (hf rfl)
      refine ⟨acc', ps', ?_, h3⟩
      rw [List.map_cons]
      show ((tgt (f x) ps).bind fun ps1 => (tst ps1).bind fun x => if x.1 then (keepM elt x.2).bind fun y => if decide (acc.length < sizeLine) then lcL vs tgt tst elt (post.map f) (acc ++ [y.1]) (wipeP vs y.2) else none else lcL vs tgt tst elt (post.map f) acc (wipeP vs x.2)) = _
      rw [e1, Option.bind_some, e2, Option.bind_some, if_neg (show ¬ ((false : Bool) = true) from Bool.false_ne_true), e3]
    | true =>
      obtain ⟨d, ps3, e4, h4⟩ := ht rfl
      obtain ⟨acc', ps', e3, h3⟩ := ih (pre ++ [x]) (acc ++ [d]) _ (by rw [e]; simp) (by simp; omega) h4
      refine ⟨acc', ps', ?_, h3⟩
      rw [List.map_cons]
      show ((tgt (f x) ps).bind fun ps1 => (tst ps1).bind fun x => if x.1 then (keepM elt x.2).bind fun y => if decide (acc.length < sizeLine) then lcL vs tgt tst elt (post.map f) (acc ++ [y.1]) (wipeP vs y.2) else none else lcL vs tgt tst elt (post.map f) acc (wipeP vs x.2)) = _
      rw [e1, Option.bind_some, e2, Option.bind_some, if_pos rfl, e4, Option.bind_some, if_pos (decide_eq_true hlen), e3]

/-- a comprehension that leaves everything as it was -/
theorem lcL_map {α : Type} {f : α → Dat} {xs : List α} {vs : List Nat} {tgt : Dat → PS → Option PS} {tst : M Bool} {elt : M RV} {ps : PS} (p : α → Bool) (g : α → Dat) (hl : xs.length ≤ sizeLine)
    (step : ∀ x, x ∈ xs → ∃ ps1 ps2, tgt (f x) ps = some ps1 ∧ tst ps1 = some (p x, ps2) ∧ (p x = false → wipeP vs ps2 = ps) ∧ (p x = true → ∃ ps3, keepM elt ps2 = some (g x, ps3) ∧ wipeP vs ps3 = ps)) :
    lcL vs tgt tst elt (xs.map f) [] ps = some ((xs.filter p).map g, ps) := by
  obtain ⟨acc, ps', e, e1, e2⟩ := lcL_inv (f := f) (xs := xs) (vs := vs) (tgt := tgt) (tst := tst) (elt := elt) (fun pre acc q => acc = (pre.filter p).map g ∧ q = ps) hl (fun pre x post acc q hx ⟨ea, eq⟩ => by
    subst ea eq
    obtain ⟨ps1, ps2, h1, h2, hf, ht⟩ := step x (by rw [hx]; simp)
    refine ⟨ps1, p x, ps2, h1, h2, fun k => ⟨by rw [List.filter_append, List.filter_cons_of_neg (by simp [k])]; simp, hf k⟩, fun k => ?_⟩
    obtain ⟨ps3, h3, h4⟩ := ht k
    exact ⟨g x, ps3, h3, by rw [List.filter_append, List.filter_cons_of_pos k]; simp, h4⟩) (ps := ps) ⟨rfl, rfl⟩
  subst e1 e2
  exact e

/-! ### numbers in rows -/
def nL (xs : List Nat) : List Dat := xs.map fun (k : Nat) => PyData.int (k : Int)
theorem nL_nil : nL [] = [] := rfl
@[simp] theorem nL_len {xs : List Nat} : (nL xs).length = xs.length := List.length_map _
theorem nL_app {xs ys : List Nat} : nL (xs ++ ys) = nL xs ++ nL ys := List.map_append
theorem nL_snoc {xs : List Nat} {k : Nat} : nL xs ++ [.int (k : Int)] = nL (xs ++ [k]) := (nL_app (ys := [k])).symm
theorem nL_get {xs : List Nat} {i : Nat} : (nL xs)[i]? = xs[i]?.map fun (k : Nat) => PyData.int (k : Int) := List.getElem?_map
theorem nL_at {xs : List Nat} {i v : Nat} (h : xs[i]? = some v) : atI (nL xs) (i : Int) = some (.int (v : Int)) := atI_nat (by rw [nL_get, h]; rfl)
theorem nL_set {xs : List Nat} {i v : Nat} : (nL xs).set i (.int (v : Int)) = nL (xs.set i v) := (List.map_set).symm
theorem nL_erase : ∀ {xs : List Nat} {i : Nat}, (nL xs).eraseIdx i = nL (xs.eraseIdx i)
  | [], i => by simp [nL]
  | x :: xs, 0 => rfl
  | x :: xs, i + 1 => congrArg (PyData.int (x : Int) :: ·) (nL_erase (xs := xs) (i := i))
theorem perm_erase {α : Type} : ∀ {xs : List α} {i : Nat} {v : α}, xs[i]? = some v → (v :: xs.eraseIdx i).Perm xs
  | [], i, v, h => by cases h
  | x :: xs, 0, v, h => by
    cases h
    exact List.Perm.refl _
  | x :: xs, i + 1, v, h => by
    have := perm_erase (xs := xs) (i := i) (v := v) h
    exact (List.Perm.swap x v _).trans (this.cons x)
theorem ixN_nat {n i : Nat} (h : i < n) : ixN n (i : Int) = some i := by
  unfold ixN
  rw [if_pos (by omega), if_pos (by omega), Int.toNat_natCast]
theorem seqI_nat {n i : Nat} (h : i < n) : seqIndex? (i : Int) n = some i := by
  unfold seqIndex?
  have h0 : (if (i : Int) < 0 then (i : Int) + (n : Int) else (i : Int)) = (i : Int) := if_neg (by omega)
  simp only [h0]
  have : (decide (0 ≤ (i : Int)) && decide ((i : Int) < (n : Int))) = true := by simp; omega
  rw [if_pos this, Int.toNat_natCast]
theorem rgD_nat {n : Nat} : rgD 0 n = nL (List.range n) := by
  unfold rgD nL
  refine List.map_congr_left fun i _ => ?_
  rw [Int.zero_add]
theorem b62_nat {n : Nat} (h : n ≤ 1000000) : b62 (n : Int) = true := by
  unfold b62
  rw [decide_eq_true_eq]
  omega
theorem line_of {n : Nat} (h : n ≤ 1000000) : line n = true := decide_eq_true (by have : sizeLine = 16777216 := rfl; omega)
theorem sz_of {n : Nat} (h : n ≤ 1000000) : n < sizeLine := by have : sizeLine = 16777216 := rfl; omega
theorem eqv_int {i j : Int} : PyData.eqv (.int i) (.int j) = decide (i = j) := by
  rw [PyData.eqv]
  by_cases h : i = j <;> simp [h]
theorem eqv_nat {i j : Nat} : PyData.eqv (.int (i : Int)) (.int (j : Int)) = decide (i = j) := by
  rw [eqv_int]
  exact decide_eq_decide.mpr Int.ofNat_inj
theorem any_nL {xs : List Nat} {k : Nat} : ((nL xs).any fun z => PyData.eqv z (.int (k : Int))) = decide (k ∈ xs) := by
  induction xs with
  | nil => simp [nL]
  | cons x xs ih =>
    show (PyData.eqv (.int (x : Int)) (.int (k : Int)) || (nL xs).any fun z => PyData.eqv z (.int (k : Int))) = _
    rw [eqv_nat, ih]
    by_cases h : x = k
    · simp [h]
    · have : ¬ k = x := fun z => h z.symm
      simp [h, this]

/-! what equality takes: flat rows of numbers, rows of such rows -/
theorem sh_int {i : Int} : SeqAt.shaped (.int i) = true := by
  unfold SeqAt.shaped
  rw [PyData.canLay0, PyData.depth]
  rfl
theorem sh_bool {b : Bool} : SeqAt.shaped (.bool b) = true := by
  unfold SeqAt.shaped
  rw [PyData.canLay0, PyData.depth]
  rfl
/-- shaped, of a depth -/
def shd (n : Nat) (d : Dat) : Prop := d.canLay0 = true ∧ d.depth ≤ n
theorem shd_ok {n : Nat} {d : Dat} (h : shd n d) (hn : n ≤ 64) : SeqAt.shaped d = true := by
  unfold SeqAt.shaped
  rw [h.1, decide_eq_true (Nat.le_trans h.2 hn)]
  rfl
theorem shd_int {n : Nat} {i : Int} : shd n (.int i) := ⟨by rw [PyData.canLay0], by rw [PyData.depth]; exact Nat.zero_le _⟩
theorem shd_bool {n : Nat} {b : Bool} : shd n (.bool b) := ⟨by rw [PyData.canLay0], by rw [PyData.depth]; exact Nat.zero_le _⟩
theorem shd_none {n : Nat} : shd n .none := ⟨by rw [PyData.canLay0], by rw [PyData.depth]; exact Nat.zero_le _⟩
theorem shd_all {n : Nat} : ∀ {ds : List Dat}, (∀ d ∈ ds, shd n d) → PyData.canLayAll0 ds = true ∧ PyData.depthAll ds ≤ n
  | [], _ => ⟨by rw [PyData.canLayAll0], by rw [PyData.depthAll]; exact Nat.zero_le _⟩
  | d :: ds, h => by
    have h1 := h d (List.mem_cons_self ..)
    have h2 := shd_all (ds := ds) fun x hx => h x (List.mem_cons_of_mem _ hx)
    exact ⟨by rw [PyData.canLayAll0, h1.1, h2.1]; rfl, by rw [PyData.depthAll]; exact Nat.max_le.mpr ⟨h1.2, h2.2⟩⟩
theorem shd_list {n : Nat} {ds : List Dat} (h : ∀ d ∈ ds, shd n d) : shd (n + 1) (.list ds) :=
  ⟨by rw [PyData.canLay0]; exact (shd_all h).1, by rw [PyData.depth]; exact Nat.succ_le_succ (shd_all h).2⟩
theorem shd_tuple {n : Nat} {ds : List Dat} (h : ∀ d ∈ ds, shd n d) : shd (n + 1) (.tuple ds) :=
  ⟨by rw [PyData.canLay0]; exact (shd_all h).1, by rw [PyData.depth]; exact Nat.succ_le_succ (shd_all h).2⟩
theorem shd_nL {n : Nat} {xs : List Nat} : ∀ d ∈ nL xs, shd n d := by
  intro d hd
  obtain ⟨k, _, rfl⟩ := List.mem_map.mp hd
  exact shd_int
theorem nin_nL {xs : List Nat} {k : Nat} : ninD (.int (k : Int)) (.list (nL xs)) = some (.im (.bool (!decide (k ∈ xs)))) := by
  show (if SeqAt.shaped _ && SeqAt.shaped _ then _ else _) = _
  rw [sh_int, shd_ok (shd_list (n := 0) shd_nL) (by decide), Bool.and_self, if_pos rfl, if_pos rfl, any_nL]
theorem in_nL {xs : List Nat} {k : Nat} : inD (.int (k : Int)) (.list (nL xs)) = some (.im (.bool (decide (k ∈ xs)))) := by
  show (if SeqAt.shaped _ && SeqAt.shaped _ then _ else _) = _
  rw [sh_int, shd_ok (shd_list (n := 0) shd_nL) (by decide), Bool.and_self, if_pos rfl, if_neg (by decide), any_nL]
theorem qe_int {i j : Int} : eqD (.int i) (.int j) = some (.im (.bool (decide (i = j)))) := by
  unfold eqD
  rw [sh_int, sh_int, Bool.and_self, if_pos rfl, eqv_int]
theorem qn_int {i j : Int} : neD (.int i) (.int j) = some (.im (.bool (!decide (i = j)))) := by
  unfold neD
  rw [sh_int, sh_int, Bool.and_self, if_pos rfl, eqv_int]
mutual
theorem eqv_refl : ∀ d : Dat, d.canLay0 = true → PyData.eqv d d = true
  | .none, _ => by rw [PyData.eqv]
  | .bool _, _ => by rw [PyData.eqv]; simp
  | .int _, _ => by rw [PyData.eqv]; simp
  | .str _, _ => by rw [PyData.eqv]; simp
  | .list xs, h => by
    rw [PyData.eqv]
    rw [PyData.canLay0] at h
    exact eqvAll_refl xs h
  | .tuple xs, h => by
    rw [PyData.eqv]
    rw [PyData.canLay0] at h
    exact eqvAll_refl xs h
  | .dict _, h => by rw [PyData.canLay0] at h; cases h
theorem eqvAll_refl : ∀ xs : List Dat, PyData.canLayAll0 xs = true → PyData.eqvAll xs xs = true
  | [], _ => by rw [PyData.eqvAll]
  | x :: xs, h => by
    rw [PyData.canLayAll0, Bool.and_eq_true] at h
    rw [PyData.eqvAll, eqv_refl x h.1, eqvAll_refl xs h.2]
    rfl
end
theorem qe_self {n : Nat} {d : Dat} (h : shd n d) (hn : n ≤ 64) : eqD d d = some (.im (.bool true)) := by
  unfold eqD
  rw [shd_ok h hn, Bool.and_self, if_pos rfl, eqv_refl d h.1]
theorem qn_self {n : Nat} {d : Dat} (h : shd n d) (hn : n ≤ 64) : neD d d = some (.im (.bool false)) := by
  unfold neD
  rw [shd_ok h hn, Bool.and_self, if_pos rfl, eqv_refl d h.1]
  rfl
theorem qe_bool {a b : Bool} : eqD (.bool a) (.bool b) = some (.im (.bool (decide (a = b)))) := by
  unfold eqD
  rw [sh_bool, sh_bool, Bool.and_self, if_pos rfl]
  cases a <;> cases b <;> rfl
theorem qn_bool {a b : Bool} : neD (.bool a) (.bool b) = some (.im (.bool (!decide (a = b)))) := by
  unfold neD
  rw [sh_bool, sh_bool, Bool.and_self, if_pos rfl]
  cases a <;> cases b <;> rfl
theorem ints_nL {xs : List Nat} : ints? (nL xs) = some (xs.map fun (k : Nat) => (k : Int)) := by
  induction xs with
  | nil => rfl
  | cons x xs ih =>
    show (ints? (nL xs)).map ((x : Int) :: ·) = _
    rw [ih]
    rfl

/-! ### draws -/
def isA (dr : Dr) : Prop := ∃ cs s, dr = .A cs s
theorem draw_ok {m : Nat} {dr : Dr} (h : isA dr) (h0 : 0 < m) (h1 : m ≤ 1000000) : ∃ (r : Nat) (dr' : Dr), drawA [.dict [], .int (m : Int)] dr = some (.im (.int (r : Int)), dr') ∧ r < m ∧ isA dr' := by
  obtain ⟨cs, s, rfl⟩ := h
  have hc : (decide ((m : Int) ≠ 0) && decide ((m : Int).natAbs < 1073741824)) = true := by
    rw [Bool.and_eq_true, decide_eq_true_eq, decide_eq_true_eq]
    omega
  have hm : ∀ z : Int, ∃ r : Nat, z.fmod (m : Int) = (r : Int) ∧ r < m := by
    intro z
    have h2 : 0 ≤ z.fmod (m : Int) := by rw [Int.fmod_eq_emod_of_nonneg _ (by omega)]; exact Int.emod_nonneg _ (by omega)
    have h3 : z.fmod (m : Int) < (m : Int) := Int.fmod_lt_of_pos z (by omega)
    exact ⟨(z.fmod (m : Int)).toNat, by omega, by omega⟩
  unfold drawA
  simp only [hc, if_true]
  cases cs.dropWhile (· == 0) with
  | nil =>
    obtain ⟨r, e, hr⟩ := hm (((s * 48271 + 12345).fmod 2147483647).fdiv 64)
    exact ⟨r, _, by rw [e], hr, _, _, rfl⟩
  | cons v l =>
    obtain ⟨r, e, hr⟩ := hm v
    exact ⟨r, .A (v.fdiv m :: l) s, by show some (RV.im (PyData.int (v.fmod (m : Int))), _) = _; rw [e], hr, _, _, rfl⟩
theorem isA_state {ns : List Int} : isA (stateA ns) := ⟨_, _, rfl⟩

/-! ### from the end backwards -/
def W (f : SM) (ps : PS) (Q : SOut → Prop) : Prop := ∃ o, f ps = some o ∧ Q o
def EV (f : M RV) (ps : PS) (Q : RV → PS → Prop) : Prop := ∃ r ps', f ps = some (r, ps') ∧ Q r ps'
def TV (f : M Bool) (ps : PS) (Q : Bool → PS → Prop) : Prop := ∃ k ps', f ps = some (k, ps') ∧ Q k ps'
def CV (fn : Fn) (ds : List Dat) (dr : Dr) (Q : RV → Dr → Prop) : Prop := ∃ r dr', fn ds dr = some (r, dr') ∧ Q r dr'
section
variable {ps : PS} {f g : SM} {Q : SOut → Prop} {fe fa fb : M RV} {P : RV → PS → Prop}
theorem w_det {o : SOut} (e : f ps = some o) (h : Q o) : W f ps Q := ⟨o, e, h⟩
theorem w_seq (h : W f ps fun o => match o with | .nx ps' => W g ps' Q | o => Q o) : W (seqM f g) ps Q := by
  obtain ⟨o, e, h⟩ := h
  cases o with
  | nx ps' =>
    obtain ⟨o2, e2, h2⟩ := h
    exact ⟨o2, by rw [e_seq, e]; exact e2, h2⟩
  | rt r ps' => exact ⟨_, by rw [e_seq, e]; rfl, h⟩
  | bk ps' => exact ⟨_, by rw [e_seq, e]; rfl, h⟩
  | ct ps' => exact ⟨_, by rw [e_seq, e]; rfl, h⟩
/-- a statement that goes on, then the rest -/
theorem w_nx {ps1 : PS} (e : f ps = some (.nx ps1)) (h : W g ps1 Q) : W (seqM f g) ps Q := w_seq (w_det e h)
theorem w_set {i : Nat} (h : EV fe ps fun r ps1 => ∃ ps2, setV i r ps1 = some ps2 ∧ Q (.nx ps2)) : W (setM i fe) ps Q := by
  obtain ⟨r, ps1, e, ps2, e2, h⟩ := h
  exact ⟨_, by rw [e_set, e]; show (setV i r ps1).bind _ = _; rw [e2]; rfl, h⟩
theorem w_ret (h : EV fe ps fun r ps1 => ∃ o, retV r ps1 = some o ∧ Q o) : W (retM fe) ps Q := by
  obtain ⟨r, ps1, e, o, e2, h⟩ := h
  exact ⟨o, by rw [e_ret, e]; exact e2, h⟩
theorem w_ite {c : M Bool} (h : TV c ps fun k ps1 => if k then W f ps1 Q else W g ps1 Q) : W (iteM c f g) ps Q := by
  obtain ⟨k, ps1, e, h⟩ := h
  cases k with
  | true =>
    obtain ⟨o, e2, h⟩ := h
    exact ⟨o, by rw [e_ite, e]; exact e2, h⟩
  | false =>
    obtain ⟨o, e2, h⟩ := h
    exact ⟨o, by rw [e_ite, e]; exact e2, h⟩
theorem w_for {α : Type} {fi : M (List Dat)} {tgt : Dat → PS → Option PS} {body : SM} (k : α → Dat) (xs : List α) {ps1 : PS} (e : fi ps = some (xs.map k, ps1)) (I : List α → PS → Prop) (h0 : I [] ps1)
    (step : ∀ pre x post q, xs = pre ++ x :: post → I pre q → ∃ q1, tgt (k x) q = some q1 ∧ W body q1 fun o => match o with | .nx q2 => I (pre ++ [x]) q2 | .ct q2 => I (pre ++ [x]) q2 | _ => False)
    (fin : ∀ q, I xs q → Q (.nx q)) : W (forSM fi tgt body) ps Q := by
  obtain ⟨ps', e2, h2⟩ := forL_inv (f := k) (xs := xs) (tgt := tgt) (body := body) I (fun pre x post q hx hI => by
    obtain ⟨q1, e1, o, e2, h⟩ := step pre x post q hx hI
    cases o with
    | nx q2 => exact ⟨q1, q2, e1, .inl e2, h⟩
    | ct q2 => exact ⟨q1, q2, e1, .inr e2, h⟩
    | bk q2 => exact absurd h id
    | rt r q2 => exact absurd h id) h0
  exact ⟨_, by rw [e_for, e]; exact e2, fin _ h2⟩
theorem w_while {c : M Bool} {b : SM} (n : Nat) (I : Nat → PS → Prop) (h0 : I n ps)
    (step : ∀ n q, I n q → TV c q fun k q1 => (k = false → Q (.nx q1)) ∧ (k = true → W b q1 fun o => match o with | .nx q2 => ∃ m, m < n ∧ I m q2 | .ct q2 => ∃ m, m < n ∧ I m q2 | _ => False)) : W (whileM c b) ps Q := by
  obtain ⟨ps', e, h⟩ := whileM_inv (c := c) (b := b) I (fun q => Q (.nx q)) (fun n q hI => by
    obtain ⟨k, q1, e1, hf, ht⟩ := step n q hI
    refine ⟨k, q1, e1, hf, fun z => ?_⟩
    obtain ⟨o, e2, h⟩ := ht z
    cases o with
    | nx q2 => obtain ⟨m, hm, h⟩ := h; exact ⟨q2, m, .inl e2, hm, h⟩
    | ct q2 => obtain ⟨m, hm, h⟩ := h; exact ⟨q2, m, .inr e2, hm, h⟩
    | bk q2 => exact absurd h id
    | rt r q2 => exact absurd h id) h0
  exact ⟨_, e, h⟩
theorem w_app {j : Nat} {ds0 : List Dat} (h0 : ps.sl[j]? = some (.ow ds0)) (h : EV fe ps fun r ps1 => ∃ d ps2 ds, keepV r ps1 = some (d, ps2) ∧ ps2.sl[j]? = some (.ow ds) ∧ ds.length ≤ 1000000 ∧ Q (.nx (ps2.put j (.ow (ds ++ [d]))))) : W (appM j fe) ps Q := by
  obtain ⟨r, ps1, e, d, ps2, ds, e1, e2, hl, h⟩ := h
  refine ⟨_, ?_, h⟩
  have ek : keepM fe ps = some (d, ps2) := by rw [e_keep, e]; exact e1
  unfold appM
  simp only [h0, ek, Option.bind_some, e2]
  rw [if_pos (decide_eq_true (sz_of hl))]
theorem v_det {r : RV} {ps1 : PS} (e : fe ps = some (r, ps1)) (h : P r ps1) : EV fe ps P := ⟨r, ps1, e, h⟩
theorem t_det {c : M Bool} {k : Bool} {ps1 : PS} {R : Bool → PS → Prop} (e : c ps = some (k, ps1)) (h : R k ps1) : TV c ps R := ⟨k, ps1, e, h⟩
theorem v_lc {α : Type} {vs : List Nat} {fi : M (List Dat)} {tgt : Dat → PS → Option PS} {tst : M Bool} {elt : M RV} (k : α → Dat) (xs : List α) {ps1 : PS} (e : fi ps = some (xs.map k, ps1)) (hl : xs.length ≤ 1000000) (I : List α → List Dat → PS → Prop) (h0 : I [] [] (wipeP vs ps1))
    (step : ∀ pre x post acc q, xs = pre ++ x :: post → I pre acc q → ∃ q1, tgt (k x) q = some q1 ∧ TV tst q1 fun b q2 => (b = false → I (pre ++ [x]) acc (wipeP vs q2)) ∧ (b = true → ∃ d q3, keepM elt q2 = some (d, q3) ∧ I (pre ++ [x]) (acc ++ [d]) (wipeP vs q3)))
    (fin : ∀ acc q, I xs acc q → P (.nw acc) (restP vs ps1 q)) : EV (lcM vs fi tgt tst elt) ps P := by
  obtain ⟨acc, q, e2, h⟩ := lcL_inv (f := k) (xs := xs) (vs := vs) (tgt := tgt) (tst := tst) (elt := elt) I (Nat.le_of_lt (sz_of hl)) (fun pre x post acc q hx hI => by
    obtain ⟨q1, e1, b, q2, e2, hf, ht⟩ := step pre x post acc q hx hI
    exact ⟨q1, b, q2, e1, e2, hf, ht⟩) h0
  exact ⟨_, _, by rw [e_lc, e]; show (lcL vs tgt tst elt (xs.map k) [] (wipeP vs ps1)).bind _ = _; rw [e2]; rfl, fin _ _ h⟩
/-- a comprehension that leaves all as it was -/
theorem v_lcm {α : Type} {vs : List Nat} {fi : M (List Dat)} {tgt : Dat → PS → Option PS} {tst : M Bool} {elt : M RV} (k : α → Dat) (xs : List α) {ps1 : PS} (e : fi ps = some (xs.map k, ps1)) (hl : xs.length ≤ 1000000) (p : α → Bool) (g : α → Dat)
    (step : ∀ x, x ∈ xs → ∃ q1 q2, tgt (k x) (wipeP vs ps1) = some q1 ∧ tst q1 = some (p x, q2) ∧ (p x = false → wipeP vs q2 = wipeP vs ps1) ∧ (p x = true → ∃ q3, keepM elt q2 = some (g x, q3) ∧ wipeP vs q3 = wipeP vs ps1))
    (fin : P (.nw ((xs.filter p).map g)) (restP vs ps1 (wipeP vs ps1))) : EV (lcM vs fi tgt tst elt) ps P :=
  ⟨_, _, by rw [e_lc, e]; show (lcL vs tgt tst elt (xs.map k) [] (wipeP vs ps1)).bind _ = _; rw [lcL_map (f := k) p g (Nat.le_of_lt (sz_of hl)) step]; rfl, fin⟩
theorem v_map {α : Type} {vs : List Nat} {fi : M (List Dat)} {tgt : Dat → PS → Option PS} {elt : M RV} (k : α → Dat) (xs : List α) {ps1 : PS} (e : fi ps = some (xs.map k, ps1)) (hl : xs.length ≤ 1000000) (g : α → Dat)
    (step : ∀ x, x ∈ xs → ∃ q1 q3, tgt (k x) (wipeP vs ps1) = some q1 ∧ keepM elt q1 = some (g x, q3) ∧ wipeP vs q3 = wipeP vs ps1)
    (fin : P (.nw (xs.map g)) (restP vs ps1 (wipeP vs ps1))) : EV (lcM vs fi tgt (M.ret true) elt) ps P :=
  v_lcm k xs e hl (fun _ => true) g (fun x hx => by
    obtain ⟨q1, q3, e1, e2, e3⟩ := step x hx
    exact ⟨q1, q1, e1, rfl, (fun z => absurd z.symm Bool.false_ne_true), fun _ => ⟨q3, e2, e3⟩⟩) (by rw [List.filter_eq_self.mpr fun _ _ => rfl]; exact fin)
theorem v_un {g : Dat → Option RV} (h : EV fa ps fun r ps1 => ∃ d, brw r ps1 = some d ∧ ∃ r', g d = some r' ∧ P r' ps1) : EV (unM g fa) ps P := by
  obtain ⟨r, ps1, e, d, e1, r', e2, h⟩ := h
  exact ⟨r', ps1, by rw [e_un, e]; show (brw r ps1).bind _ = _; rw [e1]; show (g d).bind _ = _; rw [e2]; rfl, h⟩
theorem c_body {n : Nat} {b : SM} {ds : List Dat} {dr : Dr} {R : RV → Dr → Prop} (h : W b ⟨ds.map Sl.fr ++ List.replicate (n - ds.length) Sl.un, dr⟩ fun o => match o with | .rt r q => R r q.dr | .nx q => R (.im .none) q.dr | _ => False) : CV (bodyFn n b) ds dr R := by
  obtain ⟨o, e, h⟩ := h
  cases o with
  | rt r q => exact ⟨r, q.dr, by rw [e_body, e]; rfl, h⟩
  | nx q => exact ⟨_, q.dr, by rw [e_body, e]; rfl, h⟩
  | bk q => exact absurd h id
  | ct q => exact absurd h id
end
end MP

/-! the law's own body at the very caller, of whom is known that no repr is under way; repr -/
namespace MP
open PySem PySem.Spec PyProof.Rows L2
variable [Tbs]

/-- the law's def, run where the claim runs it -/
def LawRun (P : Program) (w : World) (K : Fg) (mg : Str → Option Value) (base : Heap) (f : Addr) (fd : FuncData) (nms : List Str) (sp : Sp) : Prop :=
  ∀ (s : Shared) (H : Hp) (args : Args) (us : List Value) (vs : List V) (Q : VK) (E : XK), Env0 P w K mg base callerA [] s H → BindsTo s fd args (nms.zip us) → Vals vs us → sp vs H Q E →
    codeAny (model P w) callerA (.call (.ref f) args) (CR CX0 [] P w H s Q E) s

theorem lawrun_mk {P : Program} {w : World} {K : Fg} {mg : Str → Option Value} {base : Heap} {x qual : Str} {st : Stmt} {f : Addr} {fd : FuncData} {N nms : List Str} {k : Nat} {sp : Sp} (F : Fun K x qual st f fd) (S : FnScope N nms (defScope st)) (hk : Room (k + 1) callerA)
    (len : ∀ vs H Q E, sp vs H Q E → vs.length = nms.length)
    (body : ∀ (cdv : Value) (s : Shared) (H : Hp) (vs : List V) (Q : VK) (E : XK), Room k (callerA.deeper (envOfC qual (defScope st) s.heap.objs.size f cdv)) → (callerA.deeper (envOfC qual (defScope st) s.heap.objs.size f cdv)).guards = some [] → sp vs H Q E →
      ∃ t, PSs (cxOf CX0 P w K mg base N qual (defScope st) f cdv callerA [] s H E).nox (defBody st) t ∧ t { nx := fun _ H' => Q .non H', rt := Q } (start N vs) H) : LawRun P w K mg base f fd nms sp := by
  obtain ⟨oc, od, kV, doc, pm, an, cdv, ct, osl, rfl, lk, hcd⟩ := F.ex
  intro s H args us vs Q E e0 bd rv hs
  have held : K.In s.heap := e0.mod.kin.keeps fun b o z => (e0.bs b o z).1
  have nolim : s.heap.NoLimit := e0.mod.nolimit.keeps fun b o z => (e0.bs b o z).1
  have kinds : ∀ y ∈ nms.zip us, (defScope st).names.lookup y.1 = some .local ∨ ((defScope st).names.lookup y.1 = some .cell ∧ ((cellsFrom (s.heap.objs.size + 1) (defScope st).names []).lookup y.1).isSome = true) := by
    intro y hy
    cases S.par y.1 (List.of_mem_zip (b := y.2) hy).1 with
    | inl z => exact Or.inl z
    | inr z => exact Or.inr ⟨z, PySem.W.cellsFrom_some _ _ _ (Or.inl z)⟩
  refine codeAny_call_function hk.depth (held _ _ lk) rfl S.co S.gen rfl (PySem.W.codeRec_of held hcd) (bd _ _ _ _ (wpAny_newFunctionEnv_cells S.kind kinds ?_))
  intro env he s1 st1
  subst he
  refine ⟨nolim.keeps st1.toInCall.keep, codeAny_func ?_⟩
  obtain ⟨t, ht, hq⟩ := body cdv s H vs Q E (hk.deeper _) rfl hs
  have J0 : Inv (cxOf CX0 P w K mg base N qual (defScope st) f cdv callerA [] s H E) [] (start N vs) H s1 := inv_start S hk.hd e0 (len _ _ _ _ hs) rv st1
  have out : ∀ {σ' : L2.St} {H' : Hp} {v : V} {u : Value} {s'}, Inv (cxOf CX0 P w K mg base N qual (defScope st) f cdv callerA [] s H E) [] σ' H' s' → RelV v u → Q v H' → CE [] P w H s Q u s' := fun J r z => ⟨_, _, J.os, J.bare, J.base, J.hok, r, z⟩
  refine wpAny_mono (ht.nox.run [] s1 (start N vs) H _ J0 hq) ?_ fun _ _ z => z
  intro fl s' z
  cases fl with
  | brk => exact (z.elim fun _ z => z.elim fun _ z => z.2).elim
  | cont => exact (z.elim fun _ z => z.elim fun _ z => z.2).elim
  | ret u => exact z.elim fun v z => z.elim fun σ' z => z.elim fun H' z => out z.1 z.2.1 z.2.2
  | next => exact z.elim fun σ' z => z.elim fun H' z => out (v := V.non) (u := Value.none) z.1 rfl z.2

/-- what is tracked at the start: the script alone, unless it is the module's own -/
noncomputable def startH (K : Fg) (a : Addr) (vs : List Value) (ns : List Int) : Hp := fun b => if b = a ∧ K.lookup a = none then some (.frz { cls := .type "list", data := .seq vs.toArray } (.lst (ns.map V.int))) else none
theorem startH_some {K : Fg} {a : Addr} {vs : List Value} {ns : List Int} {b : Addr} {u : HO} (h : startH K a vs ns b = some u) : b = a ∧ K.lookup a = none ∧ u = .frz { cls := .type "list", data := .seq vs.toArray } (.lst (ns.map V.int)) := by
  unfold startH at h
  split at h
  · rename_i z
    exact ⟨z.1, z.2, (Option.some.inj h).symm⟩
  · cases h

theorem head_run {P : Program} {w : World} {K : Fg} {mg mb : Str → Option Value} {fa a : Addr} {fd : FuncData} {x : Str} {s : Shared} {vs : List Value} {ns : List Int} {sp : Sp}
    (inK : K.In s.heap) (gl : s.heap.Ns mainGlobals mg) (bl : s.heap.Ns builtinsNs mb) (bb : ∀ y : Str, y ≠ "__name__" → mb y = bootBuiltins y) (nl : s.heap.NoLimit) (g0 : s.gens = #[])
    (oa : s.heap.get? a = some { cls := .type "list", data := .seq vs.toArray }) (iv : IntsAre vs ns) (hz : ns.length ≤ sizeLine) (bd : ∀ (s : Shared) (u : Value), BindsTo s fd ⟨[u], []⟩ [(x, u)])
    (F : ∀ base : Heap, K.In base → base.Ns mainGlobals mg → LawRun P w K mg base fa fd [x] sp) (hs : ∀ H : Hp, SqL K H a (ns.map V.int) → sp [.ref a] H (fun v _ => v = .bl true) fun _ _ _ => False) :
    codeAny (model P w) callerA (.call (.ref fa) ⟨[.ref a], []⟩) (fun r s' => r = .ok (.ret (.bool true)) ∧ OldK s.heap s'.heap ∧ s'.os = s.os ∧ AllBare s'.gens) s := by
  have vv := vals_ints iv
  have same : ∀ {b : Addr} {o : Obj}, s.heap.get? b = some o → startH K a vs ns b = none → (hidT s.heap (startH K a vs ns)).get? b = some o := fun e n => hidT_get e n
  have free : ∀ {b : Addr} {o : Obj}, s.heap.get? b = some o → ¬ (b = a ∧ K.lookup a = none) → startH K a vs ns b = none := fun {b o} e n => if_neg n
  have nsp : ∀ {b : Addr} {m : Str → Option Value}, s.heap.Ns b m → (hidT s.heap (startH K a vs ns)).Ns b m := by
    rintro b m ⟨o, es, ep, e, d, r⟩
    refine ⟨o, es, ep, same e (free e ?_), d, r⟩
    rintro ⟨rfl, _⟩
    rw [oa] at e
    cases e
    cases (show Data.seq vs.toArray _ = Data.dict es ep from d)
  have inB : K.In (hidT s.heap (startH K a vs ns)) := by
    intro b o e
    refine same (inK b o e) (free (inK b o e) ?_)
    rintro ⟨rfl, z⟩
    rw [z] at e
    cases e
  have md : Mod K mg (hidT s.heap (startH K a vs ns)) := by
    obtain ⟨mc, h1, h2⟩ := nl
    exact ⟨inB, nsp gl, ⟨mb, nsp bl, bb⟩, mc, nsp h1, h2⟩
  have ho : HOk P w (startH K a vs ns) s.heap := by
    intro b u z
    obtain ⟨rfl, _, rfl⟩ := startH_some z
    exact ⟨oa, by rw [List.length_map]; exact hz, vs, _, vv, oa⟩
  have sq : SqL K (startH K a vs ns) a (ns.map V.int) := by
    cases hk : K.lookup a with
    | none => exact .inl (.inr ⟨{ cls := .type "list", data := .seq vs.toArray }, if_pos ⟨rfl, hk⟩⟩)
    | some o =>
      have e := inK a o hk
      rw [oa] at e
      cases e
      exact .inr ⟨_, vs.toArray, _, hk, rfl, rfl, rfl, by rw [List.size_toArray, iv.length]; exact hz, by simpa using vv⟩
  have e0 : Env0 P w K mg (hidT s.heap (startH K a vs ns)) callerA [] s (startH K a vs ns) := ⟨rfl, md, fun b o e => of_hidT e, Nat.le_of_eq (hidT_size _ _), trivial, fun b hb => absurd (show b ∈ ([] : List Addr) from hb) (by simp), ho, .of_eq g0⟩
  refine codeAny_mono (F _ inB (nsp gl) s _ ⟨[.ref a], []⟩ [.ref a] [.ref a] _ _ e0 (bd s (.ref a)) (.cons rfl .nil) (hs _ sq)) ?_
  intro r s' h
  cases r with
  | error e => exact absurd h (fun z => by obtain ⟨_, _, _, _, _, _, z⟩ := z)
  | ok fl =>
    cases fl with
    | next => exact absurd h id
    | brk => exact absurd h id
    | cont => exact absurd h id
    | ret u =>
      obtain ⟨v, H', hos, hb, un, ok', rv, q⟩ := h
      obtain rfl : v = .bl true := q
      obtain rfl : u = Value.bool true := rv
      refine ⟨rfl, OldK.of_keep ?_, hos, hb⟩
      intro b o e
      cases z : startH K a vs ns b with
      | none => exact un.keep b o e z (fun y => absurd (show b ∈ ([] : List Addr) from y) (by simp)) (by simp)
      | some u =>
        obtain ⟨rfl, _, rfl⟩ := startH_some z
        obtain ⟨e2, _⟩ := ok' _ _ (un.frzs _ _ _ z)
        rw [oa] at e
        cases e
        exact e2

theorem walk_ofG {l : PySem.W.OpenLaw} {n : Nat} {q : Program} {loose : List Str} {XP : (Str → Option Value) → Heap → Prop} {YP : World → Heap → Prop} {d : DefRec} {K : Params → PySem.W.Frag} {x : Str}
    (hn : l.most = some n) (n2 : n ≤ sizeLine) (nd : d.params.defaults = []) (hY : ∀ (w : World) (h : Heap), YP w h → (K w.params).In h)
    (F : ∀ (w : World) (mg : Str → Option Value) (fa : Addr) (h : Heap), (K w.params).In h → h.Ns mainGlobals mg → mg d.name = some (.ref fa) →
      ∃ fd : FuncData, (∀ (s : Shared) (u : Value), BindsTo s fd ⟨[u], []⟩ [(x, u)]) ∧ ∀ base : Heap, (K w.params).In base → base.Ns mainGlobals mg → LawRun l.prog w (K w.params) mg base fa fd [x] (spLaw (K w.params)))
    (h63 : n ≤ 63) (htb : ∀ p : Params, Tbs.tb (K p) = []) : PySem.W.WalkO q loose XP YP l.row.toRowW d [] (fun f vs => PySem.call f vs) := by
  refine Att.attach_call hn nd fun w s₀ s₁ mg mb fa o pm cd doc a vs ns G Y ho hd hcd hmg oa iv hlen g0 => ?_
  have inK := hY w _ Y
  obtain ⟨fd, bd, R⟩ := F w mg fa _ inK G.T.g hmg
  exact head_run inK G.T.g G.T.b G.T.builtins G.T.nolimit g0 oa iv (Nat.le_trans hlen n2) bd R fun H hS => ⟨a, ns, rfl, hS, Nat.le_trans hlen h63, (fun P hP => by rw [htb] at hP; cases hP), fun _ => rfl⟩

/-! ### repr of rows -/
def rReprD (K : Fg) : List V → Hp → VK → Prop := fun xs H Q => ∃ (a : Addr) (d : Dat), xs = [.ref a] ∧ Dp K H (.ref a) d ∧ SeqAt.shaped d = true ∧ d.showable = true ∧ d.shown.length ≤ sizeLine ∧ Q (.str d.shown) H
theorem call_reprD {X : Cx} (hg : X.A.guards = some []) (hu : X.A.units + 65 < cLine) : CallR X (.builtin "repr") (rReprD X.K) := by
  intro pins s σ H xs us Q I r h
  obtain ⟨a, d, rfl, hd, hs, sh, hz, q⟩ := h
  rw [Vals.ref1 r]
  obtain ⟨as, rd⟩ := Dp.reads I d (.ref a) (.ref a) hd rfl
  have h1 := SeqAt.depth_of_shaped hs
  exact repr_of_reads' rd sh (PyData.noDict_hsm (PyData.hasDict_of_canLay d (SeqAt.canLay_of_shaped hs))) hg (by omega) (fun _ _ e => e) (fun h' u tk k => ⟨.str _, H, I.kept k, ⟨u, rfl⟩, q⟩) hz
def reprD : Dat → Option RV
  | .list ds => if SeqAt.shaped (.list ds) && PyData.showable (.list ds) && line (PyData.shown (.list ds)).length then some (.im (.str (PyData.shown (.list ds)))) else none
  | .tuple ds => if SeqAt.shaped (.tuple ds) && PyData.showable (.tuple ds) && line (PyData.shown (.tuple ds)).length then some (.im (.str (PyData.shown (.tuple ds)))) else none
  | _ => none
theorem reprD_ok {K : Fg} : C1Snd K (rReprD K) reprD := by
  intro G F ps σ H x d out Q R hx hg q
  unfold reprD at hg
  split at hg
  · split at hg
    · rename_i ds hc
      cases hg
      simp only [Bool.and_eq_true] at hc
      have D := BRel.dp R.fh hc.1.1 hx
      obtain ⟨a, vs, rfl, _⟩ := bLst hx
      exact ⟨a, _, rfl, D, hc.1.1, hc.1.2, line_le hc.2, out_im R (by unfold Rel; rfl) q⟩
    · cases hg
  · split at hg
    · rename_i ds hc
      cases hg
      simp only [Bool.and_eq_true] at hc
      have D := BRel.dp R.fh hc.1.1 hx
      obtain ⟨a, vs, rfl, _⟩ := bTup R.fh hx
      exact ⟨a, _, rfl, D, hc.1.1, hc.1.2, line_le hc.2, out_im R (by unfold Rel; rfl) q⟩
    · cases hg
  · cases hg
theorem kc_repr {X : Cx} {K : Fg} (hK : X.K = K) (hg : X.A.guards = some []) (hu : X.A.units + 65 < cLine) : CallR X (.builtin "repr") (rReprD K) := by subst hK; exact call_reprD hg hu

/-! ### texts of code points -/
def okS (x : Str) : Prop := ∀ c ∈ x.cps.toList, c < 0x110000
theorem okS.iff {x : Str} (h : okS x) : PyData.strOk x = true := by
  unfold PyData.strOk
  rw [Array.all_eq_true']
  intro c hc
  exact decide_eq_true (h c (by simpa using hc))
theorem okS.app {x y : Str} (h : okS x) (g : okS y) : okS (x ++ y) := by
  intro c hc
  rw [Str.cps_append, Array.toList_append, List.mem_append] at hc
  exact hc.elim (h c) (g c)
theorem okS.lit (s : String) : okS (Str.ofString s) := by
  intro c hc
  rw [Str.ofString_eq_toList] at hc
  obtain ⟨ch, _, rfl⟩ := List.mem_map.mp (show c ∈ s.toList.map Char.toNat by simpa using hc)
  have := ch.valid
  show ch.val.toNat < 1114112
  rcases this with h | h
  · exact Nat.lt_trans h (by decide)
  · exact h.2
theorem okS.from : ∀ {ts : List Str} {k : Nat} {acc : Str}, okS acc → (∀ t ∈ ts, okS t) → okS (textFrom k acc ts)
  | [], _, _, h, _ => h
  | t :: ts, k, acc, h, g => by
    show okS (textFrom (k + 1) (acc ++ Str.ofString (if k > 0 then ", " else "") ++ t) ts)
    exact okS.from (ts := ts) ((h.app (.lit _)).app (g t (List.mem_cons_self ..))) fun x hx => g x (List.mem_cons_of_mem _ hx)
theorem okS.join : ∀ {ts : List Str}, (∀ t ∈ ts, okS t) → okS (Str.join ", " ts)
  | [], _ => by
    intro c hc
    have hc : c ∈ (#[] : Array Nat).toList := hc
    simp at hc
  | [x], g => g x (List.mem_cons_self ..)
  | x :: y :: r, g => ((g x (List.mem_cons_self ..)).app (.lit _)).app (okS.join (ts := y :: r) fun z hz => g z (List.mem_cons_of_mem _ hz))
theorem okS_list {ts : List Str} (g : ∀ t ∈ ts, okS t) : okS (listText ts) := (okS.from (.lit _) g).app (.lit _)
theorem okS_tuple {ts : List Str} (g : ∀ t ∈ ts, okS t) : okS (tupleText ts) := by
  unfold tupleText
  exact ((okS.lit _).app (.join g)).app (.lit _)
theorem okS_int {i : Int} : okS (PyData.shown (.int i)) := by
  rw [PyData.shown]
  exact .lit _
/-! ### rows whose repr fits -/
structure Lit (k w : Nat) (d : Dat) : Prop where
  sh : shd k d
  wt : d.weight ≤ w
  st : d.intsShort 13 = true
  ok : d.showable = true
  os : okS d.shown
theorem Lit.int {i : Int} (h1 : -999999999999 ≤ i) (h2 : i ≤ 999999999999) : Lit 0 41 (.int i) := by
  refine ⟨shd_int, ?_, intsShort_of_noneOrInC (lo := i) (hi := i) h1 h2 (.int i) (by unfold noneOrInC; simp), ?_, okS_int⟩
  · rw [PyData.weight]
    split
    · omega
    · rename_i h
      have h0 : i.natAbs ≠ 0 := by
        intro z
        exact h (by have : i = 0 := by omega
                    rw [this]; rfl)
      have : i.natAbs.log2 < 40 := (Nat.log2_lt h0).mpr (by omega)
      omega
  · rw [PyData.showable, decide_eq_true_eq]
    by_cases h0 : i.natAbs = 0
    · rw [h0]
      decide
    · exact Nat.lt_of_lt_of_le ((Nat.log2_lt h0).mpr (show i.natAbs < 2 ^ 40 by omega)) (by decide)
theorem lit_all {k w : Nat} : ∀ {ds : List Dat}, (∀ d ∈ ds, Lit k w d) → PyData.weightAll ds ≤ ds.length * (w + 1) ∧ PyData.intsShortAll 13 ds = true ∧ PyData.showableAll ds = true ∧ ∀ t ∈ PyData.shownAll ds, okS t
  | [], _ => ⟨by rw [PyData.weightAll]; exact Nat.zero_le _, by rw [PyData.intsShortAll], by rw [PyData.showableAll], by rw [PyData.shownAll]; intro t ht; cases ht⟩
  | d :: ds, h => by
    have h1 := h d (List.mem_cons_self ..)
    obtain ⟨a, b, c, e⟩ := lit_all (ds := ds) fun x hx => h x (List.mem_cons_of_mem _ hx)
    refine ⟨?_, by rw [PyData.intsShortAll, h1.st, b]; rfl, by rw [PyData.showableAll, h1.ok, c]; rfl, ?_⟩
    rotate_left
    · rw [PyData.shownAll]
      intro t ht
      rcases List.mem_cons.mp ht with rfl | ht
      · exact h1.os
      · exact e t ht
    rw [PyData.weightAll, List.length_cons, Nat.add_mul, Nat.one_mul]
    have := h1.wt
    omega
theorem Lit.list {k w m : Nat} {ds : List Dat} (h : ∀ d ∈ ds, Lit k w d) (hm : ds.length * (w + 1) ≤ m) : Lit (k + 1) m (.list ds) := by
  obtain ⟨a, b, c, e⟩ := lit_all h
  exact ⟨shd_list fun d hd => (h d hd).sh, by rw [PyData.weight]; omega, by rw [PyData.intsShort]; exact b, by rw [PyData.showable]; exact c, by rw [PyData.shown]; exact okS_list e⟩
theorem Lit.tuple {k w m : Nat} {ds : List Dat} (h : ∀ d ∈ ds, Lit k w d) (hm : ds.length * (w + 1) ≤ m) : Lit (k + 1) m (.tuple ds) := by
  obtain ⟨a, b, c, e⟩ := lit_all h
  exact ⟨shd_tuple fun d hd => (h d hd).sh, by rw [PyData.weight]; omega, by rw [PyData.intsShort]; exact b, by rw [PyData.showable]; exact c, by rw [PyData.shown]; exact okS_tuple e⟩
theorem shd_str {n : Nat} {x : Str} (h : okS x) : shd n (.str x) := ⟨by rw [PyData.canLay0]; exact h.iff, by rw [PyData.depth]; exact Nat.zero_le _⟩
theorem Lit.line {k w : Nat} {d : Dat} (h : Lit k w d) (hk : k ≤ 64) (hw : w ≤ 1048576) : MP.line d.shown.length = true := by
  have h1 : PyData.layable0 d = true := by
    unfold PyData.layable0
    rw [h.sh.1, decide_eq_true (Nat.le_trans h.sh.2 hk), decide_eq_true (Nat.le_trans h.wt (Nat.le_trans hw (by decide)))]
    rfl
  have h2 := shown_le13 h1 h.st
  have : sizeLine = 16777216 := rfl
  exact decide_eq_true (by omega)
theorem reprD_lst {k w : Nat} {ds : List Dat} (h : Lit k w (.list ds)) (hk : k ≤ 64) (hw : w ≤ 1048576) : reprD (.list ds) = some (.im (.str (PyData.shown (.list ds)))) := by
  show (if _ then _ else _) = _
  rw [shd_ok h.sh hk, h.ok, h.line hk hw]
  rfl
theorem reprD_tpl {k w : Nat} {ds : List Dat} (h : Lit k w (.tuple ds)) (hk : k ≤ 64) (hw : w ≤ 1048576) : reprD (.tuple ds) = some (.im (.str (PyData.shown (.tuple ds)))) := by
  show (if _ then _ else _) = _
  rw [shd_ok h.sh hk, h.ok, h.line hk hw]
  rfl
theorem Lit.nL {xs : List Nat} (h : ∀ x ∈ xs, x ≤ 999999999999) : ∀ d ∈ MP.nL xs, Lit 0 41 d := by
  intro d hd
  obtain ⟨x, hx, rfl⟩ := List.mem_map.mp hd
  have := h x hx
  exact Lit.int (by omega) (by omega)
end MP

/-! small rules for the plain half -/
namespace MP
open PySem PySem.Spec PyProof.Rows L2
theorem sIx_min {n d k : Nat} : HT.sIx n d (some (k : Int)) = min k n := HT.sIx_nat ..
theorem cut0 {ds : List Dat} {a : Nat} : cutD ds none (some (a : Int)) = ds.take a := by
  unfold cutD
  rw [sIx_min]
  show (ds.drop 0).take (min a ds.length - 0) = _
  rw [List.drop_zero, Nat.sub_zero]
  rcases Nat.le_total a ds.length with h | h
  · rw [Nat.min_eq_left h]
  · rw [Nat.min_eq_right h, List.take_length, List.take_of_length_le h]
theorem cut1 {ds : List Dat} {a : Nat} : cutD ds (some (a : Int)) none = ds.drop a := by
  unfold cutD
  rw [sIx_min]
  show (ds.drop (min a ds.length)).take (ds.length - min a ds.length) = _
  rcases Nat.le_total a ds.length with h | h
  · rw [Nat.min_eq_left h, List.take_of_length_le (by rw [List.length_drop]; exact Nat.le_refl _)]
  · rw [Nat.min_eq_right h, List.drop_length, List.drop_of_length_le h, List.take_nil]
theorem cut2 {ds : List Dat} {a b : Nat} : cutD ds (some (a : Int)) (some (b : Int)) = (ds.drop a).take (b - a) := by
  unfold cutD
  rw [sIx_min, sIx_min]
  rcases Nat.le_total a ds.length with h | h
  · rw [Nat.min_eq_left h]
    rcases Nat.le_total b ds.length with h2 | h2
    · rw [Nat.min_eq_left h2]
    · rw [Nat.min_eq_right h2, List.take_of_length_le (by rw [List.length_drop]; exact Nat.le_refl _), List.take_of_length_le (by rw [List.length_drop]; omega)]
  · rw [Nat.min_eq_right h, List.drop_length, List.drop_of_length_le h, List.take_nil, List.take_nil]
theorem abs_nat {i : Int} : (if i < 0 then -i else i) = (i.natAbs : Int) := by
  split <;> omega
theorem eqD_sh {n m : Nat} {d e : Dat} (h : shd n d) (g : shd m e) (hn : n ≤ 64) (hm : m ≤ 64) : eqD d e = some (.im (.bool (PyData.eqv d e))) := by
  unfold eqD
  rw [shd_ok h hn, shd_ok g hm, Bool.and_self, if_pos rfl]
theorem neD_sh {n m : Nat} {d e : Dat} (h : shd n d) (g : shd m e) (hn : n ≤ 64) (hm : m ≤ 64) : neD d e = some (.im (.bool (!PyData.eqv d e))) := by
  unfold neD
  rw [shd_ok h hn, shd_ok g hm, Bool.and_self, if_pos rfl]
theorem eqvAll_map {α : Type} [DecidableEq α] {f : α → Dat} (hf : ∀ x y, PyData.eqv (f x) (f y) = decide (x = y)) : ∀ {xs ys : List α}, PyData.eqvAll (xs.map f) (ys.map f) = decide (xs = ys)
  | [], [] => by simp [PyData.eqvAll]
  | [], y :: ys => by simp [PyData.eqvAll]
  | x :: xs, [] => by simp [PyData.eqvAll]
  | x :: xs, y :: ys => by
    rw [List.map_cons, List.map_cons, PyData.eqvAll, hf, eqvAll_map hf]
    by_cases h : x = y <;> by_cases g : xs = ys <;> simp [h, g]
theorem eqv_tup {α : Type} [DecidableEq α] {f : α → Dat} (hf : ∀ x y, PyData.eqv (f x) (f y) = decide (x = y)) {xs ys : List α} : PyData.eqv (.tuple (xs.map f)) (.tuple (ys.map f)) = decide (xs = ys) := by
  rw [PyData.eqv, eqvAll_map hf]
theorem eqv_lst {α : Type} [DecidableEq α] {f : α → Dat} (hf : ∀ x y, PyData.eqv (f x) (f y) = decide (x = y)) {xs ys : List α} : PyData.eqv (.list (xs.map f)) (.list (ys.map f)) = decide (xs = ys) := by
  rw [PyData.eqv, eqvAll_map hf]
theorem eqv_nT {xs ys : List Nat} : PyData.eqv (.tuple (nL xs)) (.tuple (nL ys)) = decide (xs = ys) := eqv_tup fun _ _ => eqv_nat
theorem eqv_nLs {xs ys : List Nat} : PyData.eqv (.list (nL xs)) (.list (nL ys)) = decide (xs = ys) := eqv_lst fun _ _ => eqv_nat
/-- numbers in rows, with sign -/
def zL (xs : List Int) : List Dat := xs.map PyData.int
@[simp] theorem zL_len {xs : List Int} : (zL xs).length = xs.length := List.length_map _
theorem zL_app {xs ys : List Int} : zL (xs ++ ys) = zL xs ++ zL ys := List.map_append
theorem zL_at {xs : List Int} {i : Nat} {v : Int} (h : xs[i]? = some v) : atI (zL xs) (i : Int) = some (.int v) := atI_nat (by unfold zL; rw [List.getElem?_map, h]; rfl)
theorem zL_take {xs : List Int} {k : Nat} : (zL xs).take k = zL (xs.take k) := by unfold zL; rw [List.map_take]
theorem zL_drop {xs : List Int} {k : Nat} : (zL xs).drop k = zL (xs.drop k) := by unfold zL; rw [List.map_drop]
theorem zL_rev {xs : List Int} : (zL xs).reverse = zL xs.reverse := by unfold zL; rw [List.map_reverse]
theorem eqv_zT {xs ys : List Int} : PyData.eqv (.tuple (zL xs)) (.tuple (zL ys)) = decide (xs = ys) := eqv_tup fun _ _ => eqv_int
theorem eqv_zLs {xs ys : List Int} : PyData.eqv (.list (zL xs)) (.list (zL ys)) = decide (xs = ys) := eqv_lst fun _ _ => eqv_int
theorem shd_zL {n : Nat} {xs : List Int} : ∀ d ∈ zL xs, shd n d := by
  intro d hd
  obtain ⟨k, _, rfl⟩ := List.mem_map.mp hd
  exact shd_int
theorem nL_z {xs : List Nat} : nL xs = zL (xs.map fun (k : Nat) => (k : Int)) := by
  unfold nL zL
  rw [List.map_map]
  rfl
theorem ints_zL {xs : List Int} : ints? (zL xs) = some xs := by
  induction xs with
  | nil => rfl
  | cons x xs ih =>
    show (ints? (zL xs)).map (x :: ·) = _
    rw [ih]
    rfl
theorem law_true {b : SM} {ps : PS} (h : W b ps fun o => match o with | .rt r _ => r = .im (.bool true) | _ => False) : ∃ ps', b ps = some (.rt (.im (.bool true)) ps') := by
  obtain ⟨o, e, h⟩ := h
  cases o with
  | rt r ps => exact ⟨ps, by rw [e, h]⟩
  | nx _ => exact absurd h id
  | bk _ => exact absurd h id
  | ct _ => exact absurd h id
theorem cv_det {fn : Fn} {ds : List Dat} {dr dr1 : Dr} {r0 : RV} (h : CV fn ds dr fun r dr' => r = r0 ∧ dr' = dr1) : fn ds dr = some (r0, dr1) := by
  obtain ⟨r, dr', e, rfl, rfl⟩ := h
  exact e
/-- the return of one expression -/
theorem w_retw {fe : M RV} {ps ps1 : PS} {r : RV} {o : SOut} {Q : SOut → Prop} (e : fe ps = some (r, ps1)) (e2 : retV r ps1 = some o) (h : Q o) : W (retM fe) ps Q := ⟨o, by rw [e_ret, e]; exact e2, h⟩
/-- a comprehension, as an equation -/
theorem lc_eq {α : Type} {vs : List Nat} {fi : M (List Dat)} {tgt : Dat → PS → Option PS} {tst : M Bool} {elt : M RV} {ps ps1 : PS} (k : α → Dat) (xs : List α) (e : fi ps = some (xs.map k, ps1)) (hl : xs.length ≤ 1000000) (p : α → Bool) (g : α → Dat)
    (step : ∀ x, x ∈ xs → ∃ q1 q2, tgt (k x) (wipeP vs ps1) = some q1 ∧ tst q1 = some (p x, q2) ∧ (p x = false → wipeP vs q2 = wipeP vs ps1) ∧ (p x = true → ∃ q3, keepM elt q2 = some (g x, q3) ∧ wipeP vs q3 = wipeP vs ps1)) :
    lcM vs fi tgt tst elt ps = some (.nw ((xs.filter p).map g), restP vs ps1 (wipeP vs ps1)) := by
  rw [e_lc, e]
  show (lcL vs tgt tst elt (xs.map k) [] (wipeP vs ps1)).bind _ = _
  rw [lcL_map (f := k) p g (Nat.le_of_lt (sz_of hl)) step]
  rfl
theorem mp_eq {α : Type} {vs : List Nat} {fi : M (List Dat)} {tgt : Dat → PS → Option PS} {elt : M RV} {ps ps1 : PS} (k : α → Dat) (xs : List α) (e : fi ps = some (xs.map k, ps1)) (hl : xs.length ≤ 1000000) (g : α → Dat)
    (step : ∀ x, x ∈ xs → ∃ q1 q3, tgt (k x) (wipeP vs ps1) = some q1 ∧ keepM elt q1 = some (g x, q3) ∧ wipeP vs q3 = wipeP vs ps1) :
    lcM vs fi tgt (M.ret true) elt ps = some (.nw (xs.map g), restP vs ps1 (wipeP vs ps1)) := by
  have := lc_eq (vs := vs) (tgt := tgt) (tst := M.ret true) (elt := elt) k xs e hl (fun _ => true) g (fun x hx => by
    obtain ⟨q1, q3, e1, e2, e3⟩ := step x hx
    exact ⟨q1, q1, e1, rfl, (fun z => absurd z.symm Bool.false_ne_true), fun _ => ⟨q3, e2, e3⟩⟩)
  rw [List.filter_eq_self.mpr fun _ _ => rfl] at this
  exact this
/-! loops that may be left ahead of their end -/
theorem w_forR {α : Type} {ps : PS} {Q : SOut → Prop} {fi : M (List Dat)} {tgt : Dat → PS → Option PS} {body : SM} (k : α → Dat) (xs : List α) {ps1 : PS} (e : fi ps = some (xs.map k, ps1)) (I : List α → PS → Prop) (h0 : I [] ps1)
    (step : ∀ pre x post q, xs = pre ++ x :: post → I pre q → ∃ q1, tgt (k x) q = some q1 ∧ W body q1 fun o => match o with | .nx q2 => I (pre ++ [x]) q2 | .ct q2 => I (pre ++ [x]) q2 | .rt r q2 => Q (.rt r q2) | .bk q2 => Q (.nx q2))
    (fin : ∀ q, I xs q → Q (.nx q)) : W (forSM fi tgt body) ps Q := by
  suffices h : ∀ post pre q, xs = pre ++ post → I pre q → ∃ o, forL tgt body (post.map k) q = some o ∧ Q o by
    obtain ⟨o, e2, h2⟩ := h xs [] ps1 rfl h0
    exact ⟨o, by rw [e_for, e]; exact e2, h2⟩
  intro post
  induction post with
  | nil =>
    intro pre q hx h
    rw [List.append_nil] at hx
    subst hx
    exact ⟨_, rfl, fin q h⟩
  | cons x post ih =>
    intro pre q hx h
    obtain ⟨q1, e1, o, e2, h2⟩ := step pre x post q hx h
    cases o with
    | nx q2 =>
      obtain ⟨o, e3, h3⟩ := ih (pre ++ [x]) q2 (by rw [hx]; simp) h2
      exact ⟨o, by simp only [List.map_cons, forL, e1, e2, Option.bind_some, e3], h3⟩
    | ct q2 =>
      obtain ⟨o, e3, h3⟩ := ih (pre ++ [x]) q2 (by rw [hx]; simp) h2
      exact ⟨o, by simp only [List.map_cons, forL, e1, e2, Option.bind_some, e3], h3⟩
    | rt r q2 => exact ⟨_, by simp only [List.map_cons, forL, e1, e2, Option.bind_some], h2⟩
    | bk q2 => exact ⟨_, by simp only [List.map_cons, forL, e1, e2, Option.bind_some], h2⟩
theorem w_whileR {c : M Bool} {b : SM} {ps : PS} {Q : SOut → Prop} (n : Nat) (I : Nat → PS → Prop) (h0 : I n ps)
    (step : ∀ n q, I n q → TV c q fun k q1 => (k = false → Q (.nx q1)) ∧ (k = true → W b q1 fun o => match o with | .nx q2 => ∃ m, m < n ∧ I m q2 | .ct q2 => ∃ m, m < n ∧ I m q2 | .rt r q2 => Q (.rt r q2) | .bk q2 => Q (.nx q2))) : W (whileM c b) ps Q := by
  induction n using Nat.strongRecOn generalizing ps with
  | ind n ih =>
    obtain ⟨k, q1, e1, hf, ht⟩ := step n ps h0
    cases k with
    | false => exact ⟨.nx q1, by rw [whileM_eq, e1]; rfl, hf rfl⟩
    | true =>
      obtain ⟨o, e2, h2⟩ := ht rfl
      cases o with
      | nx q2 =>
        obtain ⟨m, hm, h2⟩ := h2
        obtain ⟨o, e3, h3⟩ := ih m hm h2
        exact ⟨o, by rw [whileM_eq, e1]; simp only [Option.bind_some, if_true, e2, e3], h3⟩
      | ct q2 =>
        obtain ⟨m, hm, h2⟩ := h2
        obtain ⟨o, e3, h3⟩ := ih m hm h2
        exact ⟨o, by rw [whileM_eq, e1]; simp only [Option.bind_some, if_true, e2, e3], h3⟩
      | rt r q2 => exact ⟨_, by rw [whileM_eq, e1]; simp only [Option.bind_some, if_true, e2], h2⟩
      | bk q2 => exact ⟨_, by rw [whileM_eq, e1]; simp only [Option.bind_some, if_true, e2], h2⟩
/-- a statement, worked out by rules -/
@[simp] theorem isi_bool_none  : isiD .bool .none = some (.im (.bool false)) := rfl
@[simp] theorem isi_bool_bool {b : Bool} : isiD .bool (.bool b) = some (.im (.bool true)) := rfl
@[simp] theorem isi_bool_int {i : Int} : isiD .bool (.int i) = some (.im (.bool false)) := rfl
@[simp] theorem isi_bool_str {x : Str} : isiD .bool (.str x) = some (.im (.bool false)) := rfl
@[simp] theorem isi_bool_list {ds : List Dat} : isiD .bool (.list ds) = some (.im (.bool false)) := rfl
@[simp] theorem isi_bool_tuple {ds : List Dat} : isiD .bool (.tuple ds) = some (.im (.bool false)) := rfl
@[simp] theorem isi_int_none  : isiD .int .none = some (.im (.bool false)) := rfl
@[simp] theorem isi_int_bool {b : Bool} : isiD .int (.bool b) = some (.im (.bool true)) := rfl
@[simp] theorem isi_int_int {i : Int} : isiD .int (.int i) = some (.im (.bool true)) := rfl
@[simp] theorem isi_int_str {x : Str} : isiD .int (.str x) = some (.im (.bool false)) := rfl
@[simp] theorem isi_int_list {ds : List Dat} : isiD .int (.list ds) = some (.im (.bool false)) := rfl
@[simp] theorem isi_int_tuple {ds : List Dat} : isiD .int (.tuple ds) = some (.im (.bool false)) := rfl
@[simp] theorem isi_str_none  : isiD .str .none = some (.im (.bool false)) := rfl
@[simp] theorem isi_str_bool {b : Bool} : isiD .str (.bool b) = some (.im (.bool false)) := rfl
@[simp] theorem isi_str_int {i : Int} : isiD .str (.int i) = some (.im (.bool false)) := rfl
@[simp] theorem isi_str_str {x : Str} : isiD .str (.str x) = some (.im (.bool true)) := rfl
@[simp] theorem isi_str_list {ds : List Dat} : isiD .str (.list ds) = some (.im (.bool false)) := rfl
@[simp] theorem isi_str_tuple {ds : List Dat} : isiD .str (.tuple ds) = some (.im (.bool false)) := rfl
@[simp] theorem isi_list_none  : isiD .list .none = some (.im (.bool false)) := rfl
@[simp] theorem isi_list_bool {b : Bool} : isiD .list (.bool b) = some (.im (.bool false)) := rfl
@[simp] theorem isi_list_int {i : Int} : isiD .list (.int i) = some (.im (.bool false)) := rfl
@[simp] theorem isi_list_str {x : Str} : isiD .list (.str x) = some (.im (.bool false)) := rfl
@[simp] theorem isi_list_list {ds : List Dat} : isiD .list (.list ds) = some (.im (.bool true)) := rfl
@[simp] theorem isi_list_tuple {ds : List Dat} : isiD .list (.tuple ds) = some (.im (.bool false)) := rfl
@[simp] theorem isi_tuple_none  : isiD .tuple .none = some (.im (.bool false)) := rfl
@[simp] theorem isi_tuple_bool {b : Bool} : isiD .tuple (.bool b) = some (.im (.bool false)) := rfl
@[simp] theorem isi_tuple_int {i : Int} : isiD .tuple (.int i) = some (.im (.bool false)) := rfl
@[simp] theorem isi_tuple_str {x : Str} : isiD .tuple (.str x) = some (.im (.bool false)) := rfl
@[simp] theorem isi_tuple_list {ds : List Dat} : isiD .tuple (.list ds) = some (.im (.bool false)) := rfl
@[simp] theorem isi_tuple_tuple {ds : List Dat} : isiD .tuple (.tuple ds) = some (.im (.bool true)) := rfl
@[simp] theorem isi2_lt_none  : isi2D .list .tuple .none = some (.im (.bool false)) := rfl
@[simp] theorem isN_none  : isND .none .none = some (.im (.bool true)) := rfl
@[simp] theorem notN_none  : notND .none .none = some (.im (.bool false)) := rfl
@[simp] theorem isi2_lt_bool {b : Bool} : isi2D .list .tuple (.bool b) = some (.im (.bool false)) := rfl
@[simp] theorem isN_bool {b : Bool} : isND (.bool b) .none = some (.im (.bool false)) := rfl
@[simp] theorem notN_bool {b : Bool} : notND (.bool b) .none = some (.im (.bool true)) := rfl
@[simp] theorem isi2_lt_int {i : Int} : isi2D .list .tuple (.int i) = some (.im (.bool false)) := rfl
@[simp] theorem isN_int {i : Int} : isND (.int i) .none = some (.im (.bool false)) := rfl
@[simp] theorem notN_int {i : Int} : notND (.int i) .none = some (.im (.bool true)) := rfl
@[simp] theorem isi2_lt_str {x : Str} : isi2D .list .tuple (.str x) = some (.im (.bool false)) := rfl
@[simp] theorem isN_str {x : Str} : isND (.str x) .none = some (.im (.bool false)) := rfl
@[simp] theorem notN_str {x : Str} : notND (.str x) .none = some (.im (.bool true)) := rfl
@[simp] theorem isi2_lt_list {ds : List Dat} : isi2D .list .tuple (.list ds) = some (.im (.bool true)) := rfl
@[simp] theorem isN_list {ds : List Dat} : isND (.list ds) .none = some (.im (.bool false)) := rfl
@[simp] theorem notN_list {ds : List Dat} : notND (.list ds) .none = some (.im (.bool true)) := rfl
@[simp] theorem isi2_lt_tuple {ds : List Dat} : isi2D .list .tuple (.tuple ds) = some (.im (.bool true)) := rfl
@[simp] theorem isN_tuple {ds : List Dat} : isND (.tuple ds) .none = some (.im (.bool false)) := rfl
@[simp] theorem notN_tuple {ds : List Dat} : notND (.tuple ds) .none = some (.im (.bool true)) := rfl
theorem mul_int {i j : Int} (h : i.natAbs ≤ 1000000 ∨ j.natAbs ≤ 1000000) : mulD (.int i) (.int j) = some (.im (.int (i * j))) := by
  show (if sm64 i || sm64 j then _ else _) = _
  rw [if_pos]
  rw [Bool.or_eq_true]
  unfold sm64
  rcases h with h | h
  · left; simp; omega
  · right; simp; omega
theorem mul_rep {ds : List Dat} {k : Nat} (hk : k ≤ 1000000) (h : ds.length * k ≤ 1000000) : mulD (.list ds) (.int (k : Int)) = some (.nw (List.replicate k ds).flatten) := by
  show (if b62 (k : Int) && line (ds.length * (k : Int).toNat) then some (RV.nw (List.replicate (k : Int).toNat ds).flatten) else none) = _
  rw [Int.toNat_natCast, b62_nat hk, line_of h]
  rfl
theorem bools_map {α : Type} {f : α → Bool} : ∀ {xs : List α}, bools? (xs.map fun x => PyData.bool (f x)) = some (xs.map f)
  | [] => rfl
  | x :: xs => by
    show (bools? (xs.map fun x => PyData.bool (f x))).map (f x :: ·) = _
    rw [bools_map]
    rfl
theorem rgB_n' {a b : Int} (h : a.natAbs ≤ 1000000) (h2 : b.natAbs ≤ 1000000) : rgB (a, b) = true := by
  unfold rgB
  simp only [Bool.and_eq_true, decide_eq_true_eq]
  omega
theorem rgD_z {i : Int} {n : Nat} : rgD i n = zL ((List.range n).map fun (k : Nat) => i + (k : Int)) := by
  unfold rgD zL
  rw [List.map_map]
  rfl
theorem b62_int {i : Int} (h : i.natAbs ≤ 1000000) : b62 i = true := by
  unfold b62
  rw [decide_eq_true_eq]
  omega
/-- an index from the end -/
theorem atI_neg {ds : List Dat} {k : Nat} {d : Dat} (hk : 0 < k) (h : ds[ds.length - k]? = some d) (hl : k ≤ ds.length) : atI ds (-(k : Int)) = some d := by
  unfold atI ixN
  rw [if_neg (by omega), if_pos (by omega)]
  have e : (-(k : Int) + (ds.length : Int)).toNat = ds.length - k := by omega
  rw [e]
  exact h
theorem ixN_neg {n k : Nat} (hk : 0 < k) (hl : k ≤ n) : ixN n (-(k : Int)) = some (n - k) := by
  unfold ixN
  rw [if_neg (by omega), if_pos (by omega)]
  have e : (-(k : Int) + (n : Int)).toNat = n - k := by omega
  rw [e]
theorem mod_posI {x y : Int} (h : 0 < y) : modD (.int x) (.int y) = some (.im (.int (x % y))) := by
  show (if decide (y ≠ 0) then _ else _) = _
  rw [if_pos (decide_eq_true (by omega))]
  show some (RV.im (.int (x.fmod y))) = _
  rw [Int.fmod_eq_emod_of_nonneg _ (by omega)]
theorem fdiv_posI {x y : Int} (h : 0 < y) (h2 : y ≤ 1000000) : fdivD (.int x) (.int y) = some (.im (.int (x / y))) := by
  show (if decide (y ≠ 0) && decide (y.natAbs < 1073741824) then _ else _) = _
  rw [decide_eq_true (show y ≠ 0 by omega), decide_eq_true (show y.natAbs < 1073741824 by omega), Bool.and_self, if_pos rfl]
  show some (RV.im (.int (x.fdiv y))) = _
  rw [Int.fdiv_eq_ediv_of_nonneg _ (by omega)]
theorem nin_map {α : Type} [DecidableEq α] {f : α → Dat} {k : Nat} (hk : k < 64) (hf : ∀ x y, PyData.eqv (f x) (f y) = decide (x = y)) (hs : ∀ x, shd k (f x)) {xs : List α} {x : α} : ninD (f x) (.list (xs.map f)) = some (.im (.bool (!decide (x ∈ xs)))) := by
  show (if SeqAt.shaped _ && SeqAt.shaped _ then _ else _) = _
  have h1 : SeqAt.shaped (.list (xs.map f)) = true := shd_ok (n := k + 1) (shd_list fun d hd => by
    obtain ⟨y, _, rfl⟩ := List.mem_map.mp hd
    exact hs y) (by omega)
  have h2 : ((xs.map f).any fun z => PyData.eqv z (f x)) = decide (x ∈ xs) := by
    rw [List.any_map]
    induction xs with
    | nil => simp
    | cons y ys ih =>
      have ih' := ih (shd_ok (n := k + 1) (shd_list fun d hd => by
        obtain ⟨y, _, rfl⟩ := List.mem_map.mp hd
        exact hs y) (by omega))
      rw [List.any_cons, ih']
      show (PyData.eqv (f y) (f x) || _) = _
      rw [hf]
      by_cases e : y = x
      · subst e; simp
      · have : ¬ x = y := fun z => e z.symm
        simp [e, this]
  rw [h1, shd_ok (hs x) (by omega), Bool.and_self, if_pos rfl]
  first
    | rw [if_pos rfl, h2]
    | rw [h2]
theorem in_map {α : Type} [DecidableEq α] {f : α → Dat} {k : Nat} (hk : k < 64) (hf : ∀ x y, PyData.eqv (f x) (f y) = decide (x = y)) (hs : ∀ x, shd k (f x)) {xs : List α} {x : α} : inD (f x) (.list (xs.map f)) = some (.im (.bool (decide (x ∈ xs)))) := by
  show (if SeqAt.shaped _ && SeqAt.shaped _ then _ else _) = _
  have h1 : SeqAt.shaped (.list (xs.map f)) = true := shd_ok (n := k + 1) (shd_list fun d hd => by
    obtain ⟨y, _, rfl⟩ := List.mem_map.mp hd
    exact hs y) (by omega)
  have h2 : ((xs.map f).any fun z => PyData.eqv z (f x)) = decide (x ∈ xs) := by
    rw [List.any_map]
    induction xs with
    | nil => simp
    | cons y ys ih =>
      have ih' := ih (shd_ok (n := k + 1) (shd_list fun d hd => by
        obtain ⟨y, _, rfl⟩ := List.mem_map.mp hd
        exact hs y) (by omega))
      rw [List.any_cons, ih']
      show (PyData.eqv (f y) (f x) || _) = _
      rw [hf]
      by_cases e : y = x
      · subst e; simp
      · have : ¬ x = y := fun z => e z.symm
        simp [e, this]
  rw [h1, shd_ok (hs x) (by omega), Bool.and_self, if_pos rfl]
  first
    | rw [if_neg (by decide), h2]
    | rw [h2]
/-- pairs of numbers -/
def p2 (z : Nat × Nat) : Dat := .tuple [.int (z.1 : Int), .int (z.2 : Int)]
theorem eqv_p2 (x y : Nat × Nat) : PyData.eqv (p2 x) (p2 y) = decide (x = y) := by
  obtain ⟨a, b⟩ := x
  obtain ⟨c, d⟩ := y
  show PyData.eqv (.tuple (nL [a, b])) (.tuple (nL [c, d])) = _
  rw [eqv_nT]
  exact decide_eq_decide.mpr ⟨fun h => by simp at h; rw [h.1, h.2], fun h => by cases h; rfl⟩
theorem shd_p2 (x : Nat × Nat) : shd 1 (p2 x) := shd_tuple (n := 0) (shd_nL (xs := [x.1, x.2]))
theorem w_cut {f : SM} {ps : PS} {R : SOut → Prop} (P : PS → Prop) (h : W f ps fun o => match o with | .nx q => P q | _ => False) (g : ∀ q, P q → R (.nx q)) : W f ps R := by
  obtain ⟨o, e, h⟩ := h
  cases o with
  | nx q => exact ⟨_, e, g q h⟩
  | rt r q => exact absurd h id
  | bk q => exact absurd h id
  | ct q => exact absurd h id
theorem w_imp {f : SM} {ps : PS} {R Q : SOut → Prop} (h : W f ps R) (g : ∀ o, R o → Q o) : W f ps Q := by
  obtain ⟨o, e, h⟩ := h
  exact ⟨o, e, g o h⟩
theorem idxOf_cast {s : Nat} : ∀ {p : List Nat}, (p.map fun (k : Nat) => (k : Int)).idxOf (s : Int) = p.idxOf s
  | [] => rfl
  | x :: p => by
    have e : ((x : Int) == (s : Int)) = (x == s) := by
      by_cases h : x = s
      · rw [h, beq_self_eq_true, beq_self_eq_true]
      · rw [beq_eq_false_iff_ne.mpr h, beq_eq_false_iff_ne.mpr (fun z => h (Int.ofNat_inj.mp z))]
    rw [List.map_cons, List.idxOf_cons, List.idxOf_cons, idxOf_cast (p := p), e]
end MP

/-! draws of the second sort: the state is a place and a rest, the script is read again and again -/
namespace MP
open PySem PySem.Spec PyProof.Rows L2
variable [Tbs]
/-- the script, handed on -/
def tokB (ns : List Int) : Dat := .dict [(.none, .none), (.none, .list (zL ns))]
def drawB (rf : Fn) : Fn := fun ds dr => match ds, dr with
  | [.dict [], s, .int size], .B k c => if decide (size ≠ 0) && decide (size.natAbs < 1073741824) then
      (if c = 0 then (rf [s, .int k] .no).bind fun y => match y.1, y.2 with
        | .im (.int v), .no => some (.im (.int (v.fmod size)), .B (k + 1) (v.fdiv size))
        | _, _ => none
      else some (.im (.int (c.fmod size)), .B k (c.fdiv size)))
    else none
  | _, _ => none
theorem drawB_args {rf : Fn} {ds : List Dat} {dr dr' : Dr} {r : RV} (e : drawB rf ds dr = some (r, dr')) : ∃ (s : Dat) (size k c : Int), ds = [.dict [], s, .int size] ∧ dr = .B k c ∧ (size ≠ 0 ∧ size.natAbs < 1073741824) ∧
    ((c = 0 ∧ ∃ v, rf [s, .int k] .no = some (.im (.int v), .no) ∧ r = .im (.int (v.fmod size)) ∧ dr' = .B (k + 1) (v.fdiv size)) ∨ (c ≠ 0 ∧ r = .im (.int (c.fmod size)) ∧ dr' = .B k (c.fdiv size))) := by
  unfold drawB at e
  split at e
  · rename_i s size k c
    split at e
    · rename_i h
      simp only [Bool.and_eq_true, decide_eq_true_eq] at h
      refine ⟨s, size, k, c, rfl, rfl, h, ?_⟩
      split at e
      · rename_i hc
        obtain ⟨⟨y1, y2⟩, e1, e⟩ := Option.bind_eq_some_iff.mp e
        simp only at e
        split at e
        · cases e
          exact .inl ⟨hc, _, e1, rfl, rfl⟩
        · cases e
      · rename_i hc
        cases e
        exact .inr ⟨hc, rfl, rfl⟩
    · cases e
  · cases e
theorem drawB_vals {K : Fg} {F : Hp} {T : Addr} {s : Dat} {size : Int} {vs : List V} (h : RelL K F T [.dict [], s, .int size] vs) : ∃ u, vs = [.ref T, u, .int size] ∧ Rel K F T s u := by
  unfold RelL at h
  obtain ⟨y, ys, rfl, h1, h2⟩ := h
  unfold RelL at h2
  obtain ⟨z, zs, rfl, h3, h4⟩ := h2
  unfold RelL at h4
  obtain ⟨z4, zs4, rfl, h5, h6⟩ := h4
  unfold RelL at h6
  unfold Rel at h1
  rw [h1, rInt.mp h5, h6]
  exact ⟨z, rfl, h3⟩
/-- behind a draw -/
theorem draw_endB {K : Fg} {G : Ctl} {F F1 H H1 H' : Hp} {Q : VK} {k c k' c' r : Int} (st : G.st = true) (fs : Same F F1) (fh : Same F1 H1) (ft : F G.T = none ∧ F G.C = none) (da : DrAt G.T G.C H (.B k c)) (kp : ∀ a o, H a = some o → Kp o (H1 a)) (nf : ∀ a, H a ≠ none → F1 a = F a)
    (dom : ∀ a, H1 a = none → H a = none) (eH : H' = upd H1 G.T (.lst [.int k', .int c']))
    (q : ∀ v F' H', Same F F' → Same F' H' → (∀ a o, H a = some o → ¬ G.ex a → Kp o (H' a)) → (∀ a, H a ≠ none → F' a = F a) → (G.st = true → DrAt G.T G.C H' (.B k' c')) → (G.st = false → Dr.B k' c' = .no) → (∀ a, H' a = none → H a = none) → RetOk K F' G.T H H' (.im (.int r)) v → Q v H') : Q (.int r) H' := by
  obtain ⟨h1, h2⟩ := da
  subst eH
  have fT : F1 G.T = none := by rw [nf _ (by rw [h1]; simp)]; exact ft.1
  refine q _ F1 _ fs (fun b x e => ?_) (fun a o e nx => ?_) nf (fun _ => ⟨upd_same, h2⟩) (fun h => by rw [st] at h; cases h) (fun a h => ?_) (show RetOk K F1 G.T H _ (.im (.int r)) (V.int r) from (rInt (K := K) (F := F1) (T := G.T)).mpr rfl)
  · have b1 : b ≠ G.T := by rintro rfl; rw [fT] at e; cases e
    rw [upd_ne b1]
    exact fh _ _ e
  · have b1 : a ≠ G.T := fun z => nx ⟨st, .inl z⟩
    rw [upd_ne b1]
    exact kp _ _ e
  · by_cases b1 : a = G.T
    · subst b1; rw [upd_same] at h; cases h
    · rw [upd_ne b1] at h
      exact dom a h
theorem sql_new {K : Fg} {H : Hp} {p a : Addr} {o : HO} {xs : List V} (hS : SqL K H a xs) (hp : H p = none) : (Rd (upd H p o) a (.lst xs) ∧ a ≠ p) ∨ ∀ F : Hp, SqL K F a xs := by
  rcases hS with (h | ⟨u, h⟩) | h
  · have hn : a ≠ p := by rintro rfl; rw [hp] at h; cases h
    exact .inl ⟨.inl (by rw [upd_ne hn]; exact h), hn⟩
  · have hn : a ≠ p := by rintro rfl; rw [hp] at h; cases h
    exact .inl ⟨.inr ⟨u, by rw [upd_ne hn]; exact h⟩, hn⟩
  · exact .inr fun F => .inr h
/-- the law behind its state -/
theorem law_restB {K : Fg} {t : TS} {f : SM} (h : SndS K t f) {N i i0 : Nat} (hi : i < N) (hi0 : i0 < N) (hne : i0 ≠ i) {T a : Addr} {ns : List Int} {σ : L2.St} {H : Hp} (hl : σ.length = N) (hs : σ[i]? = some (some (.ref T))) (hs0 : σ[i0]? = some (some (.ref a)))
    (hT : H T = some (.lst [.int 0, .int 0])) (hS : (Rd H a (.lst (ns.map V.int)) ∧ a ≠ T) ∨ ∀ F : Hp, SqL K F a (ns.map V.int)) (ht : ∀ P ∈ Tbs.tb K, GxR.TabG H P) {ps' : PS} (e : f ⟨((List.replicate N Sl.un).set i0 (.fr (tokB ns))).set i (.fr (.dict [])), .B 0 0⟩ = some (.rt (.im (.bool true)) ps')) {D : Ends} (q : ∀ H', D.rt (.bl true) H') : t D σ H := by
  obtain ⟨F0, hF0T, hSF, same, hF0P⟩ : ∃ F0 : Hp, F0 T = none ∧ SqL K F0 a (ns.map V.int) ∧ Same F0 H ∧ ∀ P, GxR.TabG H P → F0 P = none := by
    rcases hS with ⟨h, hTa⟩ | h
    · refine ⟨fun b => if b = a then H a else none, if_neg (Ne.symm hTa), ?_, fun b o e => ?_, fun P ⟨qs, h1, _⟩ => if_neg fun z => ?_⟩
      · rcases h with h | ⟨o, h⟩
        · exact .inl (.inl ((if_pos rfl).trans h))
        · exact .inl (.inr ⟨o, (if_pos rfl).trans h⟩)
      · by_cases hb : b = a
        · have e : (if b = a then H a else none) = some o := e
          rw [if_pos hb] at e
          rw [hb]
          exact e
        · have e : (if b = a then H a else none) = some o := e
          rw [if_neg hb] at e
          cases e
      · rw [z] at h1
        rcases h with h | ⟨o, h⟩
        · rw [h] at h1; cases h1
        · rw [h] at h1; cases h1
    · exact ⟨fun _ => none, rfl, h _, (fun b o e => nomatch e), fun _ _ => rfl⟩
  have hrl : RelL K F0 T (zL ns) (ns.map V.int) := by
    clear hSF hS e same
    induction ns with
    | nil => unfold RelL zL; rfl
    | cons x ns ih =>
      show RelL K F0 T (.int x :: zL ns) (.int x :: ns.map V.int)
      exact .cons (rInt.mpr rfl) ih
  have R : Rep ⟨H, F0, T, T, true⟩ K F0 ⟨((List.replicate N Sl.un).set i0 (.fr (tokB ns))).set i (.fr (.dict [])), .B 0 0⟩ σ H := by
    refine ⟨by simp [hl], fun j s e => ?_, fun a b p ha hb => ?_, fun _ => ⟨hT, rfl⟩, fun _ => ⟨hF0T, hF0T, (show H T ≠ none by rw [hT]; simp), (show H T ≠ none by rw [hT]; simp)⟩, same, fun a o e _ => .inl e, fun _ _ => rfl, Same.refl _, fun h => (nomatch h), fun P hP => ⟨ht P hP, tab_nex (dr := .B 0 0) (fun _ => ⟨hT, rfl⟩) (ht P hP), hF0P P (ht P hP)⟩, fun a j path q e _ => by
      exfalso
      rcases getSet e with ⟨_, z, _⟩ | ⟨_, z⟩
      · cases z
      · rcases getSet z with ⟨_, z, _⟩ | ⟨_, z⟩
        · cases z
        · have w := List.mem_of_getElem? z
          rw [List.mem_replicate] at w
          cases w.2⟩
    · rcases getSet e with ⟨rfl, rfl, _⟩ | ⟨hj, e⟩
      · exact ⟨_, hs, _, rfl, by unfold Rel; rfl⟩
      · rcases getSet e with ⟨rfl, rfl, _⟩ | ⟨hj0, e⟩
        · refine ⟨_, hs0, _, rfl, ?_⟩
          show Rel K F0 T (tokB ns) (.ref a)
          unfold tokB Rel
          exact ⟨a, _, rfl, hSF, hrl⟩
        · have z := List.mem_of_getElem? e
          rw [List.mem_replicate] at z
          have hlt := ltOf e
          rw [List.length_replicate] at hlt
          rw [z.2]
          exact ⟨σ[j]'(by omega), List.getElem?_eq_getElem (by omega), trivial⟩
    · exfalso
      obtain ⟨s, o, ha, _, f⟩ := ha
      rcases getSet ha with ⟨_, z, _⟩ | ⟨_, z⟩
      · subst z
        exact f.elim
      · rcases getSet z with ⟨_, z, _⟩ | ⟨_, z⟩
        · subst z
          exact f.elim
        · have w := List.mem_of_getElem? z
          rw [List.mem_replicate] at w
          rw [w.2] at f
          exact f.elim
  refine h.go _ _ _ σ H _ D R e ⟨?_, fun _ _ _ _ _ _ _ _ _ _ => trivial⟩
  intro v F' σ' H' _ _ hr
  have hr : Rel K F' T (.bool true) v := hr
  rw [rBl.mp hr]
  exact q H'
end MP

/-! gcd -/
namespace MP
open PySem PySem.Spec PyProof.Rows L2
variable [Tbs]
def gcdD : List Dat → Option RV
  | [.int i, .int j] => some (.im (.int ((Nat.gcd i.natAbs j.natAbs : Nat) : Int)))
  | _ => none
theorem gcdD_ok {K : Fg} : CNSnd K rGcd gcdD := by
  intro G F ps σ H vs ds out Q R r hg q
  unfold gcdD at hg
  split at hg
  · cases hg
    unfold RelL at r
    obtain ⟨y, ys, rfl, h1, h2⟩ := r
    unfold RelL at h2
    obtain ⟨z, zs, rfl, h3, h4⟩ := h2
    unfold RelL at h4
    subst h4
    rw [rInt.mp h1, rInt.mp h3]
    exact ⟨_, _, rfl, out_im R (by unfold Rel; rfl) q⟩
  · cases hg
section
variable {X : Cx} {e : Expr} {es : List Expr} {t : TA} {g : M (List Dat)} {pos p : Pos} {K : Fg}
theorem k_gcd {x : Str} (hK : X.K = K) (hgl : Gl X x) (hm : X.mg x = some (.builtin "math.gcd")) (ha : DA X (e :: es) t g)
    (hdb : (x == ("__debug__" : Str)) = false := by decide) (he : starEach (e :: es) X.env = (false, eval e X.env) :: starEach es X.env := by rfl) (hp : (backTo pos (starEach es X.env)).any (·.1) = false := by rfl) :
    DE X (.Call (.Name x p) (e :: es) [] pos) (tCB rGcd t) (cnM gcdD g) := by subst hK; exact ⟨pe_callBfun cr_gcd hgl hm ha.pe hdb he hp, snd_callN gcdD_ok ha.sn⟩
@[simp] theorem e_gcd {i j : Int} : gcdD [.int i, .int j] = some (.im (.int ((Nat.gcd i.natAbs j.natAbs : Nat) : Int))) := rfl
end
/-! ### a tuple many times over -/
set_option maxHeartbeats 4000000 in
theorem tuple_mul1W (l : Addr) (items : Array Value) (n : Nat) (dd : Option Addr) (sl : Array (Option Value)) (u : Tok) :
    Meets (Builtin.«tuple.__mul__» ⟨[.ref l, .int 1 u], []⟩) (fun _ R s => s.heap.get? l = some { cls := .type "tuple", dict := dd, data := .seq items n, slots := sl } ∧
      R (.ok (.ret (Value.ref l))) s) :=
  .of_wp fun prog w A R s h => by
    obtain ⟨hp, g, d, tk, os⟩ := s
    obtain ⟨hl, h⟩ := h
    have f1 := AutoSeq1.idx_int
    have c1 : (items.isEmpty || (1 : Int) == 1) = true := by simp
    have c0 : (decide ((1 : Int) < -(2 ^ 63)) || decide ((1 : Int) ≥ 2 ^ 63)) = false := by decide
    wp_walk using wpAny_loadPart' hl
    all_goals (first
      | (refine wpAny_ite_false (decide_eq_false (by rw [c0]; exact Bool.false_ne_true)) ?_; wp_walk using wpAny_loadPart' hl)
      | skip)
    all_goals (first
      | (refine wpAny_ite_true (decide_eq_true c1) ?_; wp_walk using wpAny_loadPart' hl)
      | skip)
    all_goals (first | exact ⟨_, rfl, h⟩ | skip)
/-- once: the tuple itself -/
def rRep1 (K : Fg) : R2 := fun x y H Q => ∃ l xs, x = .ref l ∧ y = .int 1 ∧ SqT K H l xs ∧ Q (.ref l) H
/-- a tuple many times over, tracked with its object -/
def rRepTD (K : Fg) : R2 := fun x y H Q => ∃ (l : Addr) (m : Nat) (xs : List V), x = .ref l ∧ y = .int (m : Int) ∧ SqT K H l xs ∧ 0 < xs.length ∧ 2 ≤ m ∧ m ≤ 1000 ∧ xs.length ≤ 1000 ∧ NewT H (List.replicate m xs).flatten Q
/-- the operator comes to the tuple's own method -/
theorem tup_times {X : Cx} {s : Shared} {Q : Value → Shared → Prop} {l : Addr} {us : Array Value} {n : Nat} {dd : Option Addr} {sl : Array (Option Value)} {i : Int} {tk : Tok}
    (ho : s.heap.get? l = some ⟨.type "tuple", dd, .seq us n, sl⟩) (go : wpAny (model X.prog X.w) X.A (call (.builtin "tuple.__mul__") [.ref l, .int i tk]) Q X.xe s) :
    wpAny (model X.prog X.w) X.A (binaryOp .Mult (.ref l) (.int i tk)) Q X.xe s := by
  have ty : s.TypeIs (.ref l) "tuple" := ⟨_, ho, rfl⟩
  have ti := fun z : Shared => typeIs_int z i tk
  refine wpAny_binaryOp_repeat_ref (by decide) ty ti noFill_tuple_mul F.fills_int_mul F.slot_int_rmul repeat_tuple F.slot_int_index.lookup ?_
  exact call_meets F.slot_int_rmul (ti s) F.entry_int_rmul (F.args_int_rmul_2 _ _) (int_rmul_tuple i tk l us n dd sl) ⟨ho, rfl, ty, go⟩
theorem op_rep1 {X : Cx} : OpR X (binaryOp .Mult) (rRep1 X.K) := by
  intro pins s σ H x y v u Q I rx ry h
  obtain ⟨l, xs, rfl, rfl, hT, q⟩ := h
  cases rx
  obtain ⟨t, rfl⟩ := ry
  obtain ⟨its, _, ⟨⟨c, dd, da, sl⟩, ho, h1, n, h2⟩, _⟩ := I.tuple hT
  have h1 : c = .type "tuple" := h1
  have h2 : da = .seq its.toArray n := h2
  rw [h1, h2] at ho
  have M := tuple_mul1W l its.toArray n dd sl t
  exact tup_times ho (call_meets F.slot_tuple_mul ⟨_, ho, rfl⟩ F.entry_tuple_mul (F.args_tuple_mul_2 _ _) M ⟨ho, .ref l, H, I, rfl, q⟩)
theorem op_repTD {X : Cx} : OpR X (binaryOp .Mult) (rRepTD X.K) := by
  intro pins s σ H x y v u Q I rx ry h
  obtain ⟨l, m, xs, rfl, rfl, hT, x0, m2, mz, xz, q⟩ := h
  cases rx
  obtain ⟨t, rfl⟩ := ry
  obtain ⟨its, rv, ⟨⟨c, dd, da, sl⟩, ho, h1, n, h2⟩, _⟩ := I.tuple hT
  have h1 : c = .type "tuple" := h1
  have h2 : da = .seq its.toArray n := h2
  rw [h1, h2] at ho
  have len : its.toArray.size = xs.length := List.size_toArray.trans rv.length.symm
  have all : m * xs.length ≤ 1000 * 1000 := Nat.mul_le_mul mz xz
  have line : sizeLine = 16777216 := rfl
  have flat : ∀ {α : Type} (ys : List α), (List.replicate m ys).flatten.length = m * ys.length := fun ys => PyProof.Rows.lm_len_rep_flat ..
  have prod : ((its.toArray.size : Nat) : Int) * (m : Int) = ((m * xs.length : Nat) : Int) := by
    rw [len, Nat.mul_comm m]
    exact (Int.natCast_mul _ _).symm
  have noE : its.toArray.isEmpty = false := by
    rw [Array.isEmpty_eq_false_iff_exists_mem]
    cases its with
    | nil =>
      have : 0 = xs.length := len
      omega
    | cons z zs => exact ⟨z, by simp⟩
  have M := tuple_mulW l its.toArray n dd sl (m : Int) t (by simp; omega) (by rw [noE]; simp; omega) (by rw [noE]; simp; omega) (by rw [prod]; omega) (by unfold Builtin.Tuple.tupleTooMany; rw [prod]; exact decide_eq_false (by omega))
    (by rw [Int.toNat_natCast, size_rep, List.size_toArray, flat, ← rv.length]; omega)
  refine tup_times ho (call_meets F.slot_tuple_mul ⟨_, ho, rfl⟩ F.entry_tuple_mul (F.args_tuple_mul_2 _ _) M ⟨ho, ?_⟩)
  rw [Int.toNat_natCast, size_rep]
  exact q.put I (rv.rep m) (by rw [flat]; omega)
def mulTD : Dat → Dat → Option RV
  | .tuple xs, .int k => if k = 1 then some (.im (.tuple xs)) else if decide (2 ≤ k) && decide (k ≤ 1000) && decide (xs.length ≤ 1000) && !xs.isEmpty then some (.im (.tuple (List.replicate k.toNat xs).flatten)) else none
  | _, _ => none
theorem mulTD_ok {K : Fg} : OpSnd K (R2or (rRepTD K) (rRep1 K)) mulTD := by
  intro G F ps σ H x y d e out Q R hx hy hg q
  unfold mulTD at hg
  split at hg
  · obtain ⟨a, vs, rfl, h1, h2⟩ := bTup R.fh hx
    rw [bInt hy]
    split at hg
    · rename_i hk
      cases hg
      subst hk
      exact .inr ⟨a, vs, rfl, rfl, h1, out_im R hx q⟩
    · split at hg
      · rename_i hk
        cases hg
        simp only [Bool.and_eq_true, decide_eq_true_eq, Bool.not_eq_true'] at hk
        obtain ⟨⟨⟨k1, k2⟩, k3⟩, k4⟩ := hk
        refine .inl ⟨a, (‹Int›).toNat, vs, rfl, by congr 1; omega, h1, ?_, by omega, by omega, by rw [h2.len]; exact k3, ?_⟩
        · rw [h2.len]
          exact List.length_pos_iff.mpr fun z => by rw [z] at k4; cases k4
        · exact out_tp R (h2.rep _) q
      · cases hg
  · cases hg
section
variable {X : Cx} {a b : Expr} {ta tb : TE} {fa fb : M RV} {pos : Pos} {K : Fg}
theorem k_mulT (hK : X.K = K) (ha : DE X a ta fa) (hb : DE X b tb fb) : DE X (.BinOp a .Mult b pos) (tOp (R2or (rRepTD K) (rRep1 K)) ta tb) (opM mulTD fa fb) := by subst hK; exact ⟨pe_op (op_repTD.or op_rep1) ha.pe hb.pe, snd_op mulTD_ok ha.sn hb.sn⟩
end
/-! ### zip of two lists, of two tuples -/
def zipL (ds es : List Dat) : List Dat := (ds.zip es).map fun z => PyData.dict [z]
theorem zipL_get {ds es : List Dat} {i : Nat} {d : Dat} (h : (zipL ds es)[i]? = some d) : ∃ x y, ds[i]? = some x ∧ es[i]? = some y ∧ d = .dict [(x, y)] := by
  unfold zipL at h
  rw [List.getElem?_map] at h
  obtain ⟨z, h1, h2⟩ := Option.map_eq_some_iff.mp h
  obtain ⟨h3, h4⟩ := List.getElem?_zip_eq_some.mp h1
  exact ⟨z.1, z.2, h3, h4, h2.symm⟩
def zipIt (g : M (List Dat)) : M (List Dat) := fun ps => (g ps).bind fun x => match x.1 with
  | [.list ds, .list es] => some (zipL ds es, x.2)
  | [.tuple ds, .tuple es] => some (zipL ds es, x.2)
  | _ => none
theorem rel_two {K : Fg} {F : Hp} {T : Addr} {d e : Dat} {vs : List V} (h : RelL K F T [d, e] vs) : ∃ x y, vs = [x, y] ∧ Rel K F T d x ∧ Rel K F T e y := by
  unfold RelL at h
  obtain ⟨y, ys, rfl, h1, h2⟩ := h
  unfold RelL at h2
  obtain ⟨z, zs, rfl, h3, h4⟩ := h2
  unfold RelL at h4
  subst h4
  exact ⟨y, z, rfl, h1, h3⟩
theorem snd_zip {K : Fg} {t : TA} {g : M (List Dat)} (ha : SndA K t g) : SndI K (RZ.iZipA K t) (zipIt g) := by
  refine ⟨fun G F ps σ H out ps' R Rp e q => ?_⟩
  unfold zipIt at e
  obtain ⟨⟨ws, ps1⟩, e1, e⟩ := Option.bind_eq_some_iff.mp e
  simp only at e
  refine ha.go G F ps σ H ws ps1 _ Rp e1 fun vs F1 H1 P1 r1 => ?_
  split at e
  · rename_i ds es
    cases e
    obtain ⟨x, y, rfl, rx, ry⟩ := rel_two r1
    obtain ⟨a, xs, rfl, h1, h2⟩ := rLst.mp rx
    obtain ⟨b, ys, rfl, h3, h4⟩ := rLst.mp ry
    have fx : ∀ {F2 ps σ H2}, Rep G K F2 ps σ H2 → Same F1 F2 → SqL K H2 a xs ∧ SqL K H2 b ys := fun R s => ⟨SqL.of (R.fh _ _ (s _ _ h1)), SqL.of (R.fh _ _ (s _ _ h3))⟩
    refine ⟨a, b, xs, ys, rfl, .inl ⟨SqL.of (P1.rep.fh _ _ h1), SqL.of (P1.rep.fh _ _ h3), q _ F1 H1 P1 ⟨fun i d e F2 ps σ H2 R s => ?_, fun F2 ps σ H2 R s => ?_⟩⟩⟩
    · obtain ⟨x, y, e2, e3, rfl⟩ := zipL_get e
      obtain ⟨u, e4, ru⟩ := h2.get e2
      obtain ⟨w, e5, rw'⟩ := h4.get e3
      obtain ⟨l1, l2⟩ := fx R s
      refine ⟨⟨xs, ys, u, w, l1, l2, e4, e5⟩, fun v H3 ⟨T, u', w', ev, hT, hH, hx, hy⟩ => ?_⟩
      have e6 := hx xs l1
      have e7 := hy ys l2
      rw [e4] at e6
      rw [e5] at e7
      cases e6
      cases e7
      exact yld_pair R ev hT hH (Rel.mono s _ _ ru) (Rel.mono s _ _ rw')
    · obtain ⟨l1, l2⟩ := fx R s
      refine ⟨xs, ys, l1, l2, ?_⟩
      unfold zipL
      rw [List.length_map, List.length_zip, h2.len, h4.len]
      omega
  · rename_i ds es
    cases e
    obtain ⟨x, y, rfl, rx, ry⟩ := rel_two r1
    obtain ⟨a, xs, rfl, h1, h2⟩ := rTupE rx
    obtain ⟨b, ys, rfl, h3, h4⟩ := rTupE ry
    have fx : ∀ {F2 ps σ H2}, Rep G K F2 ps σ H2 → Same F1 F2 → SqT K H2 a xs ∧ SqT K H2 b ys := fun R s => ⟨seqT (s.trans R.fh) h1, seqT (s.trans R.fh) h3⟩
    refine ⟨a, b, xs, ys, rfl, .inr ⟨seqT P1.rep.fh h1, seqT P1.rep.fh h3, q _ F1 H1 P1 ⟨fun i d e F2 ps σ H2 R s => ?_, fun F2 ps σ H2 R s => ?_⟩⟩⟩
    · obtain ⟨x, y, e2, e3, rfl⟩ := zipL_get e
      obtain ⟨u, e4, ru⟩ := h2.get e2
      obtain ⟨w, e5, rw'⟩ := h4.get e3
      obtain ⟨l1, l2⟩ := fx R s
      refine ⟨⟨xs, ys, u, w, l1, l2, e4, e5⟩, fun v H3 ⟨T, u', w', ev, hT, hH, hx, hy⟩ => ?_⟩
      have e6 := hx xs l1
      have e7 := hy ys l2
      rw [e4] at e6
      rw [e5] at e7
      cases e6
      cases e7
      exact yld_pair R ev hT hH (Rel.mono s _ _ ru) (Rel.mono s _ _ rw')
    · obtain ⟨l1, l2⟩ := fx R s
      refine ⟨xs, ys, l1, l2, ?_⟩
      unfold zipL
      rw [List.length_map, List.length_zip, h2.len, h4.len]
      omega
  · cases e
section
variable {X : Cx} {e e2 : Expr} {t : TA} {g : M (List Dat)} {p pos tpos : Pos} {K : Fg} {elts : List Expr} {kk : Nat}
theorem k_zip (hK : X.K = K) (hg : Gl X "zip") (hm : X.mg "zip" = none) (ha : DA X [e, e2] t g)
    (hs : starEach [e, e2] X.env = (false, eval e X.env) :: starEach [e2] X.env := by rfl) (hpl : (backTo pos (starEach [e2] X.env)).any (·.1) = false := by rfl) :
    DI X (.Tuple elts kk tpos) (.Call (.Name "zip" p) [e, e2] [] pos) (RZ.iZipA K t) (zipIt g) := by subst hK; exact ⟨RZ.pi_zipA hg hm ha.pe hs hpl, snd_zip ha.sn⟩
@[simp] theorem e_zip {ps : PS} : zipIt g ps = (g ps).bind fun x => match x.1 with
  | [.list ds, .list es] => some (zipL ds es, x.2)
  | [.tuple ds, .tuple es] => some (zipL ds es, x.2)
  | _ => none := rfl
@[simp] theorem e_mulT {xs : List Dat} {k : Int} : mulTD (.tuple xs) (.int k) = if k = 1 then some (.im (.tuple xs)) else if decide (2 ≤ k) && decide (k ≤ 1000) && decide (xs.length ≤ 1000) && !xs.isEmpty then some (.im (.tuple (List.replicate k.toNat xs).flatten)) else none := rfl
end
/-! ### walks over an own list in a comprehension -/
theorem sio_enum {K : Fg} {j : Nat} : SndIo K (iEnumA K (tVar j)) j enL := by
  refine ⟨fun G F ps1 σ H ds p ws R Rp es lo rl q => ?_⟩
  refine ⟨.ref p, es, p, ws, rfl, .inl ⟨SqL.of lo.a, q _ ⟨fun i d e F2 ps σ2 H2 R2 s lk => ?_, fun F2 ps σ2 H2 R2 s lk => ?_⟩⟩⟩
  · obtain ⟨z, e3, rfl⟩ := enL_get e
    obtain ⟨u, e4, r⟩ := rl.get e3
    have hl : SqL K H2 p ws := SqL.of (lk p (.lst ws) lo).a
    refine ⟨⟨ws, u, hl, e4⟩, fun x H3 ⟨T, y, ev, hT, hH, hy⟩ => ?_⟩
    have e5 := hy ws hl
    rw [e4] at e5
    cases e5
    exact yld_pair R2 ev hT hH (by unfold Rel; rfl) (Rel.mono s _ _ r)
  · refine ⟨ws, SqL.of (lk p (.lst ws) lo).a, ?_⟩
    unfold enL
    rw [rl.len]
    simp
section
variable {X : Cx} {pos p px cpos : Pos} {elt : Expr} {ifs : List Expr} {scope : Scope} {own : List (Str × Nat)} {g : TG} {tt : TT} {te : TE} {is : List Nat} {ft : Dat → PS → Option PS} {ftt : M Bool} {fe : M RV} {K : Fg} {elts : List Expr} {kk : Nat} {tpos : Pos}
theorem k_lcOE {j : Nat} {x : Str} (hK : X.K = K) (hj : X.N[j]? = some x) (hvis : Vis X.env.scope x) (hgl : Gl X "enumerate") (hm : X.mg "enumerate" = none) (hc : X.calm = true) (hN : X.N.Nodup) (ok : BlkOk X.N X.env.scope scope own)
    (hg : ∀ (s : Shared) (H : Hp) (C : Addr) (cl : List (Str × Addr)) (fp : List Addr), DG (X.blk s H scope (compEnvC scope cl C X.env) fp) (.Tuple elts kk tpos) g is ft) (hv : ∀ j ∈ is, j ∈ own.map (·.2)) (ht : ∀ (s : Shared) (H : Hp) (C : Addr) (cl : List (Str × Addr)) (fp : List Addr), DTs (X.blk s H scope (compEnvC scope cl C X.env) fp) ifs tt ftt)
    (he : ∀ (s : Shared) (H : Hp) (C : Addr) (cl : List (Str × Addr)) (fp : List Addr), DE (X.blk s H scope (compEnvC scope cl C X.env) fp) elt te fe) (hs : ∀ y, foldedSetIterable (.Call (.Name "enumerate" p) [.Name x px] [] pos) X.env y = pure y := by intro _; rfl)
    (hdb : (x == ("__debug__" : Str)) = false := by decide) (hcd : (x == ("__classdict__" : Str)) = false := by decide) (hs1 : starEach [.Name x px] X.env = (false, eval (.Name x px) X.env) :: starEach [] X.env := by rfl) (hs2 : starEach [.Name x px] X.env = [(false, eval (.Name x px) X.env)] := by rfl) :
    DE X (.ListComp elt [⟨.Tuple elts kk tpos, .Call (.Name "enumerate" p) [.Name x px] [] cpos, ifs, 0⟩] scope pos) (tLc (iEnumA K (tVar j)) g tt te (own.map (·.2))) (lcOM j enL (own.map (·.2)) ft ftt fe) := by
  subst hK
  exact ⟨pe_lc hc hN (pi_enumA hgl hm (pe_var hj hvis hdb hcd) hs1 hs2) ok (fun s H C cl fp => (hg s H C cl fp).pe) (fun s H C cl fp => (ht s H C cl fp).pe) (fun s H C cl fp => (he s H C cl fp).pe) hs,
    snd_lcO sio_enum (hg ⟨X.s_0.heap, X.s_0.gens, X.s_0.drawn, X.s_0.toks, X.s_0.os⟩ X.H_0 0 [] []).sn hv (ht X.s_0 X.H_0 0 [] []).sn (he X.s_0 X.H_0 0 [] []).sn⟩
end
theorem lc_eqO {α : Type} {j : Nat} {w : List Dat → List Dat} {vs : List Nat} {tgt : Dat → PS → Option PS} {tst : M Bool} {elt : M RV} {ps : PS} {ds : List Dat} (hj : ps.sl[j]? = some (.ow ds)) (k : α → Dat) (xs : List α) (e : w ds = xs.map k) (hl : xs.length ≤ 1000000) (p : α → Bool) (g : α → Dat)
    (step : ∀ x, x ∈ xs → ∃ q1 q2, tgt (k x) (wipeP vs (ps.put j .un)) = some q1 ∧ tst q1 = some (p x, q2) ∧ (p x = false → wipeP vs q2 = wipeP vs (ps.put j .un)) ∧ (p x = true → ∃ q3, keepM elt q2 = some (g x, q3) ∧ wipeP vs q3 = wipeP vs (ps.put j .un)))
    (hu : isUn j (restP vs (ps.put j .un) (wipeP vs (ps.put j .un))) = true) :
    lcOM j w vs tgt tst elt ps = some (.nw ((xs.filter p).map g), (restP vs (ps.put j .un) (wipeP vs (ps.put j .un))).put j (.ow ds)) := by
  unfold lcOM
  have h1 : oList j ps = some ds := by unfold oList; rw [hj]
  rw [h1, Option.bind_some, e, lcL_map (f := k) p g (Nat.le_of_lt (sz_of hl)) step, Option.bind_some]
  exact if_pos hu
end MP

/-! two `for` in a comprehension -/
namespace MP
open PySem PySem.Spec PyProof.Rows L2
variable [Tbs] [Wx]

def lcL2 (vs vs1 : List Nat) (tgt : Dat → PS → Option PS) (tst : M Bool) (fi1 : M (List Dat)) (tgt1 : Dat → PS → Option PS) (tst1 : M Bool) (elt : M RV) : List Dat → List Dat → PS → Option (List Dat × PS)
  | [], acc, ps => some (acc, ps)
  | d :: ds, acc, ps => (tgt d ps).bind fun ps1 => (tst ps1).bind fun x => if x.1 then
      (fi1 x.2).bind fun z => (lcL vs1 tgt1 tst1 elt z.1 acc (wipeP vs1 z.2)).bind fun y => lcL2 vs vs1 tgt tst fi1 tgt1 tst1 elt ds y.1 (wipeP vs y.2)
    else lcL2 vs vs1 tgt tst fi1 tgt1 tst1 elt ds acc (wipeP vs x.2)
def lcM2 (vs vs1 : List Nat) (fi : M (List Dat)) (tgt : Dat → PS → Option PS) (tst : M Bool) (fi1 : M (List Dat)) (tgt1 : Dat → PS → Option PS) (tst1 : M Bool) (elt : M RV) : M RV := fun ps =>
  (fi ps).bind fun x => (lcL2 vs vs1 tgt tst fi1 tgt1 tst1 elt x.1 [] (wipeP vs x.2)).bind fun y => some (.nw y.1, restP vs x.2 y.2)
theorem wipe_wipe {σ σ2 : L2.St} {vs vs1 : List Nat} (hv : ∀ j ∈ vs1, j ∈ vs) (h : wipe σ2 vs = wipe σ vs) : wipe (wipe σ2 vs1) vs = wipe σ vs := by
  rw [← h]
  refine wipe_eq (wipe_length σ2 vs1) fun j hj => ?_
  rw [wipe_get, if_neg (fun z => hj (hv j z.1))]
section
variable {K : Fg} {gt1 : TG} {tt1 : TT} {te : TE} {vs1 is1 : List Nat} {tgt1 : Dat → PS → Option PS} {tst1 : M Bool} {elt : M RV}
/-- the second clause's loop: D grows -/
theorem lc_inner {wi1 : TI} {fi1 : M (List Dat)} (hi1 : SndI K wi1 fi1) (hg1 : SndG K gt1 is1 tgt1) (hv1 : ∀ j ∈ is1, j ∈ vs1) (ht1 : SndT K tt1 tst1) (he : SndE K te elt)
    {G : Ctl} {F H : Hp} {ps psI psE : PS} {σ : L2.St} {ds acc out : List Dat} {accV : List V} {D : Addr} {Nx : Hp → Prop} (R : Rep G K F ps σ H) (lD : Loose G F ps σ H D (.lst accV)) (ra : RelL K F G.T acc accV)
    (e1 : fi1 ps = some (ds, psI)) (e2 : lcL vs1 tgt1 tst1 elt ds acc (wipeP vs1 psI) = some (out, psE))
    (q : ∀ F' outV H', Rep G K F' psE (wipe σ vs1) H' → Same F F' → Loose G F' psE (wipe σ vs1) H' D (.lst outV) → RelL K F' G.T out outV → (∀ p ws, p ≠ D → Loose G F ps σ H p ws → Loose G F' psE (wipe σ vs1) H' p ws) → (∀ a, H' a = none → H a = none) → (∀ i path q, TAt psE (wipe σ vs1) H' i path q → TAt ps σ H i path q) → Nx H') :
    wi1 σ H fun J1 H4 => ∃ W1 : Nat → Nat → Hp → Prop, (∃ m, W1 0 m H4) ∧ ∀ j k H, W1 j k H →
      (J1.stop j H ∧ Nx H) ∨ (J1.go j H ∧ ∃ Nx1 : Hp → Prop, (∀ H', Nx1 H' → ∃ k', k' < k ∧ W1 (j + 1) k' H') ∧ ∀ x H', J1.yld j H x H' → gt1 x (wipe σ vs1) H' fun σ3 H5 => wipe σ3 vs1 = wipe σ vs1 ∧ tt1 σ3 H5 fun b H6 =>
        if b = true then te σ3 H6 fun y H7 => ∃ acc, H7 D = some (.lst acc) ∧ acc.length < sizeLine ∧ Nx1 (upd H7 D (.lst (acc ++ [y]))) else Nx1 H6) := by
  refine hi1.go G F ps σ H ds psI _ R e1 fun J F1 H1 P1 wk => ?_
  have R1 := P1.rep
  refine ⟨fun i m H2 => ∃ F2 ps2 acc accV, m = ds.length - i ∧ i ≤ ds.length ∧ Rep G K F2 ps2 (wipe σ vs1) H2 ∧ Same F1 F2 ∧ Loose G F2 ps2 (wipe σ vs1) H2 D (.lst accV) ∧ RelL K F2 G.T acc accV ∧
      lcL vs1 tgt1 tst1 elt (ds.drop i) acc ps2 = some (out, psE) ∧ (∀ p ws, p ≠ D → Loose G F ps σ H p ws → Loose G F2 ps2 (wipe σ vs1) H2 p ws) ∧ (∀ a, H2 a = none → H a = none) ∧ (∀ i path q, TAt ps2 (wipe σ vs1) H2 i path q → TAt ps σ H i path q), ?_, ?_⟩
  · have l1 := lD.post P1
    refine ⟨ds.length, F1, wipeP vs1 psI, acc, accV, by simp, Nat.zero_le _, R1.wipe, Same.refl _, ⟨l1.a, l1.b, l1.c, fun o => l1.d (own_wipe o), trivial⟩, RelL.mono P1.same _ _ ra, e2, fun p ws _ l => ?_, P1.dom, fun i path q h => P1.al _ _ _ (tat_wipe h)⟩
    have l := l.post P1
    exact ⟨l.a, l.b, l.c, fun o => l.d (own_wipe o), l.m⟩
  · rintro i m H2 ⟨F2, ps2, acc, accV, rfl, hi', R2, s2, lD, rl, e3, fk, dm, al⟩
    by_cases hlt : i < ds.length
    · obtain ⟨go, step⟩ := wk.1 i ds[i] (List.getElem?_eq_getElem hlt) F2 ps2 (wipe σ vs1) H2 R2 s2
      rw [List.drop_eq_getElem_cons hlt] at e3
      unfold lcL at e3
      obtain ⟨ps3, e4, e3⟩ := Option.bind_eq_some_iff.mp e3
      obtain ⟨⟨b, ps4⟩, e5, e3⟩ := Option.bind_eq_some_iff.mp e3
      have e3 : (if b = true then _ else _) = some (out, psE) := e3
      refine .inr ⟨go, fun H' => ∃ F2 ps2 acc accV, Rep G K F2 ps2 (wipe σ vs1) H' ∧ Same F1 F2 ∧ Loose G F2 ps2 (wipe σ vs1) H' D (.lst accV) ∧ RelL K F2 G.T acc accV ∧
        lcL vs1 tgt1 tst1 elt (ds.drop (i + 1)) acc ps2 = some (out, psE) ∧ (∀ p ws, p ≠ D → Loose G F ps σ H p ws → Loose G F2 ps2 (wipe σ vs1) H' p ws) ∧ (∀ a, H' a = none → H a = none) ∧ (∀ i path q, TAt ps2 (wipe σ vs1) H' i path q → TAt ps σ H i path q), ?_, fun x H3 y => ?_⟩
      · rintro H' ⟨F', ps', acc', accV', a1, a2, a3, a4, a5, a6, a7, a8⟩
        exact ⟨ds.length - (i + 1), by omega, F', ps', acc', accV', rfl, hlt, a1, a2, a3, a4, a5, a6, a7, a8⟩
      · obtain ⟨F3, P3, rx⟩ := step x H3 y
        refine hg1.go G F3 ps2 (wipe σ vs1) H3 _ x ps3 _ P3.rep rx e4 fun σ4 R4 k4 l4 o4 => ?_
        have hw : wipe σ4 vs1 = wipe σ vs1 := by
          have h1 : wipe σ4 vs1 = wipe (wipe σ vs1) vs1 := wipe_eq l4 fun j hj => k4 j fun z => hj (hv1 j z)
          rw [h1]
          refine wipe_eq (wipe_length σ vs1) fun j hj => ?_
          rw [wipe_get, if_neg (fun z => hj z.1)]
        refine ⟨hw, ?_⟩
        have loose4 : ∀ {p ws}, Loose G F3 ps2 (wipe σ vs1) H3 p ws → Loose G F3 ps3 σ4 H3 p ws := fun l => ⟨l.a, l.b, l.c, fun o => l.d (o4.own _ o), l.m⟩
        refine ht1.go G F3 ps3 σ4 H3 b ps4 _ R4 e5 fun F5 H5 P5 => ?_
        cases b with
        | true =>
          rw [if_pos rfl] at e3
          obtain ⟨⟨d, ps5⟩, e6, e3⟩ := Option.bind_eq_some_iff.mp e3
          have e3 : (if decide (acc.length < sizeLine) = true then _ else _) = some (out, psE) := e3
          split at e3
          · rename_i hl
            refine iteT (keepM_go he P5.rep e6 fun v F6 H6 P6 r6 => ?_)
            have lD6 := ((loose4 (lD.post P3)).post P5).post P6
            have s6 : Same F2 F6 := (P3.same.trans P5.same).trans P6.same
            refine ⟨accV, lD6.a, by rw [rl.len]; exact of_decide_eq_true hl, F6, wipeP vs1 ps5, acc ++ [d], accV ++ [v], ?_, s2.trans s6, ⟨upd_same, lD6.b, lD6.c, fun o => ?_, trivial⟩, (RelL.mono s6 _ _ rl).append (.cons r6 .nil), e3, fun p ws ne l => ?_, fun a h => ?_, fun i' path q' h => ?_⟩
            · rw [← hw]
              exact (P6.rep.wrFree (u' := .lst (accV ++ [v])) lD6.a lD6.b lD6.c lD6.d).1.wipe
            · rw [← hw] at o
              exact lD6.d (((P6.rep.wrFree lD6.a lD6.b lD6.c lD6.d).2 _).mp (own_wipe o))
            · have l6 := ((loose4 ((fk p ws ne l).post P3)).post P5).post P6
              refine ⟨by rw [upd_ne ne]; exact l6.a, l6.b, l6.c, fun o => ?_, l.m⟩
              rw [← hw] at o
              exact l6.d (((P6.rep.wrFree lD6.a lD6.b lD6.c lD6.d).2 _).mp (own_wipe o))
            · by_cases ha : a = D
              · subst ha
                rw [upd_same] at h
                cases h
              · rw [upd_ne ha] at h
                exact dm a (P3.dom a (P5.dom a (P6.dom a h)))
            · rw [← hw] at h
              have h := P6.rep.tAt (fun q o => by
                rw [upd_ne]
                rintro rfl
                exact lD6.d o) (tat_wipe h)
              exact al _ _ _ (P3.al _ _ _ (o4.al _ _ _ (P5.al _ _ _ (P6.al _ _ _ h))))
          · cases e3
        | false =>
          rw [if_neg Bool.false_ne_true] at e3
          have lD5 := (loose4 (lD.post P3)).post P5
          have s5 : Same F2 F5 := P3.same.trans P5.same
          refine iteF ⟨F5, wipeP vs1 ps4, acc, accV, ?_, s2.trans s5, ⟨lD5.a, lD5.b, lD5.c, fun o => ?_, trivial⟩, RelL.mono s5 _ _ rl, e3, fun p ws ne l => ?_, fun a h => dm a (P3.dom a (P5.dom a h)), fun i' path q' h => by
            rw [← hw] at h
            exact al _ _ _ (P3.al _ _ _ (o4.al _ _ _ (P5.al _ _ _ (tat_wipe h))))⟩
          · rw [← hw]
            exact P5.rep.wipe
          · rw [← hw] at o
            exact lD5.d (own_wipe o)
          · have l5 := (loose4 ((fk p ws ne l).post P3)).post P5
            refine ⟨l5.a, l5.b, l5.c, fun o => ?_, l.m⟩
            rw [← hw] at o
            exact l5.d (own_wipe o)
    · have ei : i = ds.length := by omega
      subst ei
      rw [List.drop_length] at e3
      cases e3
      exact .inl ⟨wk.2 F2 psE (wipe σ vs1) H2 R2 s2, q F2 accV H2 R2 (P1.same.trans s2) lD rl fk dm al⟩
end
theorem snd_lc2 {K : Fg} {wi wi1 : TI} {gt gt1 : TG} {tt tt1 : TT} {te : TE} {vs is vs1 is1 : List Nat} {fi fi1 : M (List Dat)} {tgt tgt1 : Dat → PS → Option PS} {tst tst1 : M Bool} {elt : M RV} (hi : SndI K wi fi) (hg : SndG K gt is tgt) (hv : ∀ j ∈ is, j ∈ vs) (ht : SndT K tt tst)
    (hi1 : SndI K wi1 fi1) (hg1 : SndG K gt1 is1 tgt1) (hv1 : ∀ j ∈ is1, j ∈ vs1) (hvv : ∀ j ∈ vs1, j ∈ vs) (ht1 : SndT K tt1 tst1) (he : SndE K te elt) :
    SndE K (tLc2 wi gt tt wi1 gt1 tt1 te vs vs1) (lcM2 vs vs1 fi tgt tst fi1 tgt1 tst1 elt) := by
  refine ⟨fun G F ps σ H r ps' Q R e q => ?_⟩
  unfold lcM2 at e
  obtain ⟨⟨ds, ps1⟩, e1, e⟩ := Option.bind_eq_some_iff.mp e
  obtain ⟨⟨out, psE⟩, e2, e⟩ := Option.bind_eq_some_iff.mp e
  have e2 : lcL2 vs vs1 tgt tst fi1 tgt1 tst1 elt ds [] (wipeP vs ps1) = some (out, psE) := e2
  cases e
  refine hi.go G F ps σ H ds ps1 _ R e1 fun J F1 H1 P1 wk D hD => ?_
  have R1 := P1.rep
  have hs1 := same_upd (o := .lst []) hD
  have F1D : F1 D = none := R1.fn hD
  have G0D : G.H0 D = none := R1.h0 hD
  refine ⟨fun i m H2 => ∃ F2 ps2 acc accV, m = ds.length - i ∧ i ≤ ds.length ∧ Rep G K F2 ps2 (wipe σ vs) H2 ∧ Same F1 F2 ∧ Loose G F2 ps2 (wipe σ vs) H2 D (.lst accV) ∧ RelL K F2 G.T acc accV ∧
      lcL2 vs vs1 tgt tst fi1 tgt1 tst1 elt (ds.drop i) acc ps2 = some (out, psE) ∧ (∀ p ws, Loose G F1 ps1 σ H1 p ws → Loose G F2 ps2 (wipe σ vs) H2 p ws) ∧ (∀ a, H2 a = none → H1 a = none) ∧ (∀ i path q, TAt ps2 (wipe σ vs) H2 i path q → TAt ps1 σ H1 i path q), ?_, ?_⟩
  · have R2 := (R1.newL (vs := []) hD).rep.wipe (vs := vs)
    refine ⟨ds.length, F1, wipeP vs ps1, [], [], by simp, Nat.zero_le _, R2, Same.refl _, ⟨upd_same, F1D, G0D, fun o => R1.ownN hD ((R1.ownI (R1.keepO hs1)).mp (own_wipe o)), trivial⟩, .nil, e2, fun p ws l => ⟨hs1 _ _ l.a, l.b, l.c, fun o => l.d ((R1.ownI (R1.keepO hs1)).mp (own_wipe o)), l.m⟩, fun a h => hs1.free h, fun i path q h => R1.tAt (R1.keepO hs1) (tat_wipe h)⟩
  · rintro i m H2 ⟨F2, ps2, acc, accV, rfl, hi', R2, s2, lD, rl, e3, fk, dm, al⟩
    by_cases hlt : i < ds.length
    · obtain ⟨go, step⟩ := wk.1 i ds[i] (List.getElem?_eq_getElem hlt) F2 ps2 (wipe σ vs) H2 R2 s2
      rw [List.drop_eq_getElem_cons hlt] at e3
      unfold lcL2 at e3
      obtain ⟨ps3, e4, e3⟩ := Option.bind_eq_some_iff.mp e3
      obtain ⟨⟨b, ps4⟩, e5, e3⟩ := Option.bind_eq_some_iff.mp e3
      have e3 : (if b = true then _ else _) = some (out, psE) := e3
      refine .inr ⟨go, fun H' => ∃ F2 ps2 acc accV, Rep G K F2 ps2 (wipe σ vs) H' ∧ Same F1 F2 ∧ Loose G F2 ps2 (wipe σ vs) H' D (.lst accV) ∧ RelL K F2 G.T acc accV ∧
        lcL2 vs vs1 tgt tst fi1 tgt1 tst1 elt (ds.drop (i + 1)) acc ps2 = some (out, psE) ∧ (∀ p ws, Loose G F1 ps1 σ H1 p ws → Loose G F2 ps2 (wipe σ vs) H' p ws) ∧ (∀ a, H' a = none → H1 a = none) ∧ (∀ i path q, TAt ps2 (wipe σ vs) H' i path q → TAt ps1 σ H1 i path q), ?_, fun x H3 y => ?_⟩
      · rintro H' ⟨F', ps', acc', accV', a1, a2, a3, a4, a5, a6, a7, a8⟩
        exact ⟨ds.length - (i + 1), by omega, F', ps', acc', accV', rfl, hlt, a1, a2, a3, a4, a5, a6, a7, a8⟩
      · obtain ⟨F3, P3, rx⟩ := step x H3 y
        refine hg.go G F3 ps2 (wipe σ vs) H3 _ x ps3 _ P3.rep rx e4 fun σ4 R4 k4 l4 o4 => ?_
        have hw : wipe σ4 vs = wipe σ vs := by
          have h1 : wipe σ4 vs = wipe (wipe σ vs) vs := wipe_eq l4 fun j hj => k4 j fun z => hj (hv j z)
          rw [h1]
          refine wipe_eq (wipe_length σ vs) fun j hj => ?_
          rw [wipe_get, if_neg (fun z => hj z.1)]
        refine ⟨hw, ?_⟩
        have loose4 : ∀ {p ws}, Loose G F3 ps2 (wipe σ vs) H3 p ws → Loose G F3 ps3 σ4 H3 p ws := fun l => ⟨l.a, l.b, l.c, fun o => l.d (o4.own _ o), l.m⟩
        refine ht.go G F3 ps3 σ4 H3 b ps4 _ R4 e5 fun F5 H5 P5 => ?_
        have neD : ∀ {p ws}, Loose G F1 ps1 σ H1 p ws → p ≠ D := fun l z => by
          subst z
          have := l.a
          rw [hD] at this
          cases this
        have lD5 := (loose4 (lD.post P3)).post P5
        have s5 : Same F2 F5 := P3.same.trans P5.same
        cases b with
        | true =>
          rw [if_pos rfl] at e3
          obtain ⟨⟨ds1, psI⟩, e6, e3⟩ := Option.bind_eq_some_iff.mp e3
          obtain ⟨⟨acc', psF⟩, e7, e3⟩ := Option.bind_eq_some_iff.mp e3
          have e7 : lcL vs1 tgt1 tst1 elt ds1 acc (wipeP vs1 psI) = some (acc', psF) := e7
          have e3 : lcL2 vs vs1 tgt tst fi1 tgt1 tst1 elt (ds.drop (i + 1)) acc' (wipeP vs psF) = some (out, psE) := e3
          refine iteT (lc_inner hi1 hg1 hv1 ht1 he P5.rep lD5 (RelL.mono s5 _ _ rl) e6 e7 fun F6 outV H6 R6 s6 l6 r6 k6 d6 al6 => ?_)
          have hw2 : wipe (wipe σ4 vs1) vs = wipe σ vs := wipe_wipe hvv hw
          refine ⟨F6, wipeP vs psF, acc', outV, ?_, s2.trans (s5.trans s6), ⟨l6.a, l6.b, l6.c, fun o => ?_, trivial⟩, r6, e3, fun p ws l => ?_, fun a h => dm a (P3.dom a (P5.dom a (d6 a h))), fun i' path q' h => by
            rw [← hw2] at h
            exact al _ _ _ (P3.al _ _ _ (o4.al _ _ _ (P5.al _ _ _ (al6 _ _ _ (tat_wipe h)))))⟩
          · rw [← hw2]
            exact R6.wipe
          · rw [← hw2] at o
            exact l6.d (own_wipe o)
          · have l7 := k6 p ws (neD l) ((loose4 ((fk p ws l).post P3)).post P5)
            refine ⟨l7.a, l7.b, l7.c, fun o => ?_, l.m⟩
            rw [← hw2] at o
            exact l7.d (own_wipe o)
        | false =>
          rw [if_neg Bool.false_ne_true] at e3
          refine iteF ⟨F5, wipeP vs ps4, acc, accV, ?_, s2.trans s5, ⟨lD5.a, lD5.b, lD5.c, fun o => ?_, trivial⟩, RelL.mono s5 _ _ rl, e3, fun p ws l => ?_, fun a h => dm a (P3.dom a (P5.dom a h)), fun i' path q' h => by
            rw [← hw] at h
            exact al _ _ _ (P3.al _ _ _ (o4.al _ _ _ (P5.al _ _ _ (tat_wipe h))))⟩
          · rw [← hw]
            exact P5.rep.wipe
          · rw [← hw] at o
            exact lD5.d (own_wipe o)
          · have l5 := (loose4 ((fk p ws l).post P3)).post P5
            refine ⟨l5.a, l5.b, l5.c, fun o => ?_, l.m⟩
            rw [← hw] at o
            exact l5.d (own_wipe o)
    · have ei : i = ds.length := by omega
      subst ei
      rw [List.drop_length] at e3
      cases e3
      refine .inl ⟨wk.2 F2 psE (wipe σ vs) H2 R2 s2, ?_⟩
      obtain ⟨RE, ob⟩ := rest_rep (ps1 := ps1) R1 R2 s2
      refine q (.ref D) F2 H2 ⟨RE, P1.same.trans s2, fun p ws hm h1 h2 h3 h4 => ?_, fun a h => P1.dom a (dm a h), fun i path q h => P1.al _ _ _ (al _ _ _ (ob.al _ _ _ h))⟩ ⟨D, accV, rfl, lD.a, lD.b, lD.c, fun o => lD.d (ob.own _ o), rl, P1.dom D hD⟩
      have l1 : Loose G F1 ps1 σ H1 p ws := (Loose.mk h1 h2 h3 h4 hm : Loose G F ps σ H p ws).post P1
      have l2 := fk p ws l1
      exact ⟨l2.a, l2.b, fun o => l2.d (ob.own _ o)⟩
section
variable {X : Cx} {pos spos py : Pos} {elt tg iter tg1 iter1 : Expr} {ifs ifs1 : List Expr} {scope : Scope} {own : List (Str × Nat)} {wi wi1 : TI} {g g1 : TG} {tt tt1 : TT} {te : TE} {is vs1 is1 : List Nat} {fi fi1 : M (List Dat)} {ft ft1 : Dat → PS → Option PS} {ftt ftt1 : M Bool} {fe : M RV}
theorem de_lc2 (hc : X.calm = true) (hN : X.N.Nodup) (hi : DI X tg iter wi fi) (ok : BlkOk X.N X.env.scope scope own)
    (hg : ∀ (s : Shared) (H : Hp) (C : Addr) (cl : List (Str × Addr)) (fp : List Addr), DG (X.blk s H scope (compEnvC scope cl C X.env) fp) tg g is ft) (hv : ∀ j ∈ is, j ∈ own.map (·.2)) (ht : ∀ (s : Shared) (H : Hp) (C : Addr) (cl : List (Str × Addr)) (fp : List Addr), DTs (X.blk s H scope (compEnvC scope cl C X.env) fp) ifs tt ftt)
    (hi1 : ∀ (s : Shared) (H : Hp) (C : Addr) (cl : List (Str × Addr)) (fp : List Addr), DI (X.blk s H scope (compEnvC scope cl C X.env) fp) tg1 iter1 wi1 fi1)
    (hg1 : ∀ (s : Shared) (H : Hp) (C : Addr) (cl : List (Str × Addr)) (fp : List Addr), DG (X.blk s H scope (compEnvC scope cl C X.env) fp) tg1 g1 is1 ft1) (hv1 : ∀ j ∈ is1, j ∈ vs1) (hvv : ∀ j ∈ vs1, j ∈ own.map (·.2)) (ht1 : ∀ (s : Shared) (H : Hp) (C : Addr) (cl : List (Str × Addr)) (fp : List Addr), DTs (X.blk s H scope (compEnvC scope cl C X.env) fp) ifs1 tt1 ftt1)
    (he : ∀ (s : Shared) (H : Hp) (C : Addr) (cl : List (Str × Addr)) (fp : List Addr), DE (X.blk s H scope (compEnvC scope cl C X.env) fp) elt te fe) (hs : ∀ x, foldedSetIterable iter X.env x = pure x := by intro _; rfl) (hs1 : ∀ env x, foldedSetIterable iter1 env x = pure x := by intro _ _; rfl) :
    DE X (.ListComp elt [⟨tg, iter, ifs, 0⟩, ⟨tg1, iter1, ifs1, 0⟩] scope pos) (tLc2 wi g tt wi1 g1 tt1 te (own.map (·.2)) vs1) (lcM2 (own.map (·.2)) vs1 fi ft ftt fi1 ft1 ftt1 fe) :=
  ⟨pe_lc2 hc hN hi.pe ok hvv (fun s H C cl fp => (hg s H C cl fp).pe) (fun s H C cl fp => (ht s H C cl fp).pe) (fun s H C cl fp => (hi1 s H C cl fp).pe) (fun s H C cl fp => (hg1 s H C cl fp).pe) (fun s H C cl fp => (ht1 s H C cl fp).pe) (fun s H C cl fp => (he s H C cl fp).pe) hs hs1,
    snd_lc2 hi.sn (hg X.s_0 X.H_0 0 [] []).sn hv (ht X.s_0 X.H_0 0 [] []).sn (hi1 X.s_0 X.H_0 0 [] []).sn (hg1 X.s_0 X.H_0 0 [] []).sn hv1 hvv (ht1 X.s_0 X.H_0 0 [] []).sn (he X.s_0 X.H_0 0 [] []).sn⟩
theorem ds_lc2 {i : Nat} {y : Str} (hc : X.calm = true) (hN : X.N.Nodup) (hy : X.N[i]? = some y) (hyl : X.env.scope.names.lookup y = some .local)
    (hsw : swapsWith (.ListComp elt [⟨tg, iter, ifs, 0⟩, ⟨tg1, iter1, ifs1, 0⟩] scope pos) (some (.Name y py)) spos.line X.env = pure true) (hi : DI X tg iter wi fi) (ok : BlkOk X.N X.env.scope scope own)
    (hg : ∀ (s : Shared) (H : Hp) (C : Addr) (cl : List (Str × Addr)) (fp : List Addr), DG (X.blk s H scope (compEnvC scope cl C X.env) fp) tg g is ft) (hv : ∀ j ∈ is, j ∈ own.map (·.2)) (ht : ∀ (s : Shared) (H : Hp) (C : Addr) (cl : List (Str × Addr)) (fp : List Addr), DTs (X.blk s H scope (compEnvC scope cl C X.env) fp) ifs tt ftt)
    (hi1 : ∀ (s : Shared) (H : Hp) (C : Addr) (cl : List (Str × Addr)) (fp : List Addr), DI (X.blk s H scope (compEnvC scope cl C X.env) fp) tg1 iter1 wi1 fi1)
    (hg1 : ∀ (s : Shared) (H : Hp) (C : Addr) (cl : List (Str × Addr)) (fp : List Addr), DG (X.blk s H scope (compEnvC scope cl C X.env) fp) tg1 g1 is1 ft1) (hv1 : ∀ j ∈ is1, j ∈ vs1) (hvv : ∀ j ∈ vs1, j ∈ own.map (·.2)) (ht1 : ∀ (s : Shared) (H : Hp) (C : Addr) (cl : List (Str × Addr)) (fp : List Addr), DTs (X.blk s H scope (compEnvC scope cl C X.env) fp) ifs1 tt1 ftt1)
    (he : ∀ (s : Shared) (H : Hp) (C : Addr) (cl : List (Str × Addr)) (fp : List Addr), DE (X.blk s H scope (compEnvC scope cl C X.env) fp) elt te fe) (hs : ∀ x, foldedSetIterable iter X.env x = pure x := by intro _; rfl) (hs1 : ∀ env x, foldedSetIterable iter1 env x = pure x := by intro _ _; rfl) :
    DS X (.Assign [.Name y py] (.ListComp elt [⟨tg, iter, ifs, 0⟩, ⟨tg1, iter1, ifs1, 0⟩] scope pos) spos) (tAsg (tLc2 wi g tt wi1 g1 tt1 te (own.map (·.2)) vs1) (gName i)) (setM i (lcM2 (own.map (·.2)) vs1 fi ft ftt fi1 ft1 ftt1 fe)) :=
  ⟨ps_setLc2 hc hN hy hyl hsw hi.pe ok hvv (fun s H C cl fp => (hg s H C cl fp).pe) (fun s H C cl fp => (ht s H C cl fp).pe) (fun s H C cl fp => (hi1 s H C cl fp).pe) (fun s H C cl fp => (hg1 s H C cl fp).pe) (fun s H C cl fp => (ht1 s H C cl fp).pe) (fun s H C cl fp => (he s H C cl fp).pe) hs hs1,
    snd_set (snd_lc2 hi.sn (hg X.s_0 X.H_0 0 [] []).sn hv (ht X.s_0 X.H_0 0 [] []).sn (hi1 X.s_0 X.H_0 0 [] []).sn (hg1 X.s_0 X.H_0 0 [] []).sn hv1 hvv (ht1 X.s_0 X.H_0 0 [] []).sn (he X.s_0 X.H_0 0 [] []).sn)⟩
end
end MP

/-! sets of rows of ints: sorted(set(..)), len(set(..)) -/
namespace MP
open PySem PySem.Spec PyProof.Rows L2
variable [Tbs] [Wx]

def rowD (r : List Int) : Dat := .tuple (r.map PyData.int)
def row? : Dat → Option (List Int)
  | .tuple es => ints? es
  | _ => none
def rows? : List Dat → Option (List (List Int))
  | [] => some []
  | d :: ds => (row? d).bind fun r => (rows? ds).bind fun rs => some (r :: rs)
theorem rows_of : ∀ rs : List (List Int), rows? (rs.map rowD) = some rs
  | [] => rfl
  | r :: rs => by
    show (ints? (r.map PyData.int)).bind _ = _
    rw [ints_of, Option.bind_some, rows_of rs]
    rfl
theorem ints_inv : ∀ {ds : List Dat} {ns : List Int}, ints? ds = some ns → ds = ns.map PyData.int
  | [], ns, h => by cases h; rfl
  | .int i :: ds, ns, h => by
    unfold ints? at h
    obtain ⟨ms, e1, rfl⟩ := Option.map_eq_some_iff.mp h
    rw [ints_inv e1]
    rfl
  | .none :: _, _, h => by cases h
  | .bool _ :: _, _, h => by cases h
  | .str _ :: _, _, h => by cases h
  | .list _ :: _, _, h => by cases h
  | .tuple _ :: _, _, h => by cases h
  | .dict _ :: _, _, h => by cases h
theorem rows_inv : ∀ {ds : List Dat} {rs : List (List Int)}, rows? ds = some rs → ds = rs.map rowD
  | [], rs, h => by cases h; rfl
  | d :: ds, rs, h => by
    unfold rows? at h
    obtain ⟨r, e1, h⟩ := Option.bind_eq_some_iff.mp h
    obtain ⟨rs', e2, h⟩ := Option.bind_eq_some_iff.mp h
    cases h
    rw [rows_inv e2]
    cases d with
    | tuple es =>
      rw [ints_inv (show ints? es = some r from e1)]
      rfl
    | none => cases e1
    | bool _ => cases e1
    | int _ => cases e1
    | str _ => cases e1
    | list _ => cases e1
    | dict _ => cases e1

/-! ### rows by their codes -/
def CB : Int := 1000000
def bdB (r : List Int) : Bool := r.all fun m => decide (0 ≤ m) && decide (m.natAbs < 1000000)
theorem bd_of {r : List Int} (h : bdB r = true) : TS.Bd CB r := fun m hm => by
  have := List.all_eq_true.mp h m hm
  simp only [Bool.and_eq_true, decide_eq_true_eq] at this
  unfold CB
  omega
theorem code_inj {B : Int} : ∀ {r q : List Int}, r.length = q.length → TS.Bd B r → TS.Bd B q → TS.code B r = TS.code B q → r = q
  | [], [], _, _, _, _ => rfl
  | [], _ :: _, h, _, _, _ => by cases h
  | _ :: _, [], h, _, _, _ => by cases h
  | d :: r, e :: q, h, hr, hq, hc => by
    have hl : r.length = q.length := by simpa using h
    rcases Int.lt_trichotomy d e with z | rfl | z
    · have := TS.code_lt hl hr.tail hq.tail z
      omega
    · have : TS.code B r = TS.code B q := by
        unfold TS.code at hc
        rw [hl] at hc
        omega
      rw [code_inj hl hr.tail hq.tail this]
    · have := TS.code_lt hl.symm hq.tail hr.tail z
      omega
theorem uniq_codes {α : Type} {f : α → Int} : ∀ {A C : List α}, A.Pairwise (fun x y => f x < f y) → C.Pairwise (fun x y => f x < f y) → (∀ x, x ∈ A ↔ x ∈ C) → A = C
  | [], [], _, _, _ => rfl
  | [], c :: C, _, _, h => by have := (h c).mpr (by simp); cases this
  | a :: A, [], _, _, h => by have := (h a).mp (by simp); cases this
  | a :: A, c :: C, pa, pc, h => by
    obtain ⟨a1, a2⟩ := List.pairwise_cons.mp pa
    obtain ⟨c1, c2⟩ := List.pairwise_cons.mp pc
    have e : a = c := by
      rcases List.mem_cons.mp ((h a).mp (by simp)) with z | z
      · exact z
      · rcases List.mem_cons.mp ((h c).mpr (by simp)) with w | w
        · exact w.symm
        · have := a1 c w
          have := c1 a z
          omega
    subst e
    rw [uniq_codes a2 c2 fun x => ?_]
    constructor
    · intro hx
      rcases List.mem_cons.mp ((h x).mp (List.mem_cons_of_mem _ hx)) with rfl | z
      · have := a1 x hx
        omega
      · exact z
    · intro hx
      rcases List.mem_cons.mp ((h x).mpr (List.mem_cons_of_mem _ hx)) with rfl | z
      · have := c1 x hx
        omega
      · exact z
def insC (x : List Int) : List (List Int) → List (List Int)
  | [] => [x]
  | y :: ys => if TS.code CB x < TS.code CB y then x :: y :: ys else if TS.code CB x = TS.code CB y then y :: ys else y :: insC x ys
def sortC (rs : List (List Int)) : List (List Int) := rs.foldr insC []
theorem insC_sub {x : List Int} : ∀ {ys : List (List Int)} {z : List Int}, z ∈ insC x ys → z = x ∨ z ∈ ys
  | [], z, h => by
    rw [List.mem_singleton.mp h]
    exact .inl rfl
  | y :: ys, z, h => by
    unfold insC at h
    split at h
    · exact List.mem_cons.mp h
    · split at h
      · exact .inr h
      · rcases List.mem_cons.mp h with rfl | h
        · exact .inr (by simp)
        · rcases insC_sub h with h | h
          · exact .inl h
          · exact .inr (List.mem_cons_of_mem _ h)
theorem insC_sup {x : List Int} : ∀ {ys : List (List Int)} {z : List Int}, z ∈ ys → z ∈ insC x ys
  | y :: ys, z, h => by
    unfold insC
    split
    · exact List.mem_cons_of_mem _ h
    · split
      · exact h
      · rcases List.mem_cons.mp h with rfl | h
        · simp
        · exact List.mem_cons_of_mem _ (insC_sup h)
theorem insC_code {x : List Int} : ∀ ys : List (List Int), ∃ z ∈ insC x ys, TS.code CB z = TS.code CB x
  | [] => ⟨x, by simp [insC], rfl⟩
  | y :: ys => by
    unfold insC
    split
    · exact ⟨x, by simp, rfl⟩
    · split
      · rename_i h
        exact ⟨y, by simp, h.symm⟩
      · obtain ⟨z, hz, e⟩ := insC_code (x := x) ys
        exact ⟨z, List.mem_cons_of_mem _ hz, e⟩
theorem insC_asc {x : List Int} : ∀ {ys : List (List Int)}, ys.Pairwise (fun a b => TS.code CB a < TS.code CB b) → (insC x ys).Pairwise (fun a b => TS.code CB a < TS.code CB b)
  | [], _ => by simp [insC]
  | y :: ys, h => by
    obtain ⟨h1, h2⟩ := List.pairwise_cons.mp h
    unfold insC
    split
    · rename_i hlt
      refine List.pairwise_cons.mpr ⟨fun z hz => ?_, h⟩
      rcases List.mem_cons.mp hz with rfl | hz
      · exact hlt
      · have := h1 z hz
        omega
    · split
      · exact h
      · refine List.pairwise_cons.mpr ⟨fun z hz => ?_, insC_asc h2⟩
        rcases insC_sub hz with rfl | hz
        · omega
        · exact h1 z hz
theorem sortC_asc : ∀ rs : List (List Int), (sortC rs).Pairwise (fun a b => TS.code CB a < TS.code CB b)
  | [] => List.Pairwise.nil
  | r :: rs => insC_asc (sortC_asc rs)
theorem sortC_sub : ∀ {rs : List (List Int)} {z : List Int}, z ∈ sortC rs → z ∈ rs
  | r :: rs, z, h => by
    rcases insC_sub (show z ∈ insC r (sortC rs) from h) with rfl | h
    · simp
    · exact List.mem_cons_of_mem _ (sortC_sub h)
theorem sortC_code : ∀ {rs : List (List Int)} {z : List Int}, z ∈ rs → ∃ y ∈ sortC rs, TS.code CB y = TS.code CB z
  | r :: rs, z, h => by
    rcases List.mem_cons.mp h with rfl | h
    · exact insC_code (sortC rs)
    · obtain ⟨y, hy, e⟩ := sortC_code h
      exact ⟨y, insC_sup hy, e⟩
/-- all of one length, their entries small -/
def Flat (d : Nat) (rs : List (List Int)) : Prop := ∀ r ∈ rs, r.length = d ∧ bdB r = true
theorem Flat.inj {d : Nat} {rs : List (List Int)} (h : Flat d rs) {r q : List Int} (hr : r ∈ rs) (hq : q ∈ rs) (e : TS.code CB r = TS.code CB q) : r = q :=
  code_inj (by rw [(h r hr).1, (h q hq).1]) (bd_of (h r hr).2) (bd_of (h q hq).2) e
theorem mem_sortC {d : Nat} {rs : List (List Int)} (h : Flat d rs) {z : List Int} : z ∈ sortC rs ↔ z ∈ rs := by
  refine ⟨sortC_sub, fun hz => ?_⟩
  obtain ⟨y, hy, e⟩ := sortC_code hz
  rw [← h.inj (sortC_sub hy) hz e]
  exact hy
theorem sortC_uniq {d : Nat} {rs out : List (List Int)} (h : Flat d rs) (hm : ∀ z, z ∈ out ↔ z ∈ rs) (nd : out.Nodup) (hs : out.Pairwise fun a b => TS.code CB a ≤ TS.code CB b) : out = sortC rs := by
  refine uniq_codes (f := TS.code CB) ?_ (sortC_asc rs) fun x => (hm x).trans (mem_sortC h).symm
  refine List.Pairwise.imp_of_mem ?_ (hs.and nd)
  intro a b ha hb ⟨h1, h2⟩
  have : TS.code CB a ≠ TS.code CB b := fun e => h2 (h.inj ((hm a).mp ha) ((hm b).mp hb) e)
  omega
def dlen : List (List Int) → Nat
  | [] => 1
  | r :: _ => r.length
def flatB (rs : List (List Int)) : Bool := decide (rs.length < 64) && decide (1 ≤ dlen rs) && rs.all fun r => decide (r.length = dlen rs) && bdB r
theorem flat_of {rs : List (List Int)} (h : flatB rs = true) : rs.length < 64 ∧ 1 ≤ dlen rs ∧ Flat (dlen rs) rs := by
  unfold flatB at h
  simp only [Bool.and_eq_true, decide_eq_true_eq] at h
  refine ⟨h.1.1, h.1.2, fun r hr => ?_⟩
  have := List.all_eq_true.mp h.2 r hr
  simp only [Bool.and_eq_true, decide_eq_true_eq] at this
  exact this
def setRows (d : Dat) : Option (List (List Int)) := match d with
  | .list ds => (rows? ds).bind fun rs => if flatB rs then some rs else none
  | _ => none
def sortSetD (d : Dat) : Option RV := (setRows d).bind fun rs => some (.nw ((sortC rs).map rowD))
def lenSetD (d : Dat) : Option RV := (setRows d).bind fun rs => some (.im (.int (sortC rs).length))

/-! ### the walk -/
section
variable {G : Ctl} {K : Fg} {F : Hp} {ps : PS} {σ : L2.St} {H : Hp}
theorem row_rel {T : Addr} {r : List Int} {v : V} (h : Rel K F T (rowD r) v) : ∃ a, v = .ref a ∧ SqT K F a (r.map V.int) := by
  unfold rowD at h
  unfold Rel at h
  obtain ⟨a, xs, rfl, h1, h2⟩ := h
  rw [ints_rel (ints_of r) h2] at h1
  exact ⟨a, rfl, h1.sqT⟩
/-- the rows with their places; what lies at a place is the row's datum -/
theorem rows_ks {T : Addr} : ∀ {rs : List (List Int)} {vs : List V}, RelL K F T (rs.map rowD) vs → ∃ ks : List (Addr × List Int), vs = ks.map (fun p => V.ref p.1) ∧ ks.map (·.2) = rs ∧ ∀ p ∈ ks, Rel K F T (rowD p.2) (.ref p.1)
  | [], vs, h => by
    unfold RelL at h
    exact ⟨[], h, rfl, fun p hp => by cases hp⟩
  | r :: rs, vs, h => by
    rw [List.map_cons] at h
    unfold RelL at h
    obtain ⟨y, ys, rfl, h1, h2⟩ := h
    obtain ⟨a, rfl, _⟩ := row_rel h1
    obtain ⟨ks, rfl, e2, h3⟩ := rows_ks h2
    refine ⟨(a, r) :: ks, rfl, by rw [List.map_cons, e2], fun p hp => ?_⟩
    rcases List.mem_cons.mp hp with rfl | hp
    · exact h1
    · exact h3 p hp
theorem ks_rel {T : Addr} : ∀ {ks : List (Addr × List Int)}, (∀ p ∈ ks, Rel K F T (rowD p.2) (.ref p.1)) → RelL K F T ((ks.map (·.2)).map rowD) (ks.map fun p => V.ref p.1)
  | [], _ => .nil
  | p :: ks, h => .cons (h p (by simp)) (ks_rel fun q hq => h q (List.mem_cons_of_mem _ hq))
end
theorem setRows_eq {d : Dat} {rs : List (List Int)} (h : setRows d = some rs) : d = .list (rs.map rowD) ∧ flatB rs = true := by
  unfold setRows at h
  cases d with
  | list ds =>
    obtain ⟨rs', e1, h⟩ := Option.bind_eq_some_iff.mp h
    split at h
    · rename_i hf
      cases h
      exact ⟨by rw [rows_inv e1], hf⟩
    · cases h
  | none => cases h
  | bool _ => cases h
  | int _ => cases h
  | str _ => cases h
  | tuple _ => cases h
  | dict _ => cases h
def rSS (K : Fg) (P : Program) (w : World) : List V → Hp → VK → Prop := fun xs H Q => rSetOfT K P w xs H fun v H1 => rSortedT K P w [v] H1 Q
theorem sortSetD_ok {K : Fg} {P : Program} {w : World} : C1Snd K (rSS K P w) sortSetD := by
  intro G F ps σ H x d out Q R hx hg q
  unfold sortSetD at hg
  obtain ⟨rs, e1, hg⟩ := Option.bind_eq_some_iff.mp hg
  cases hg
  obtain ⟨rfl, hf⟩ := setRows_eq e1
  obtain ⟨f1, f2, f3⟩ := flat_of hf
  obtain ⟨a, vs, rfl, h1, h2⟩ := bLst hx
  obtain ⟨ks, rfl, rfl, hk⟩ := rows_ks h2
  refine ⟨a, ks, rfl, SqL.of h1, fun p hp => seqT R.fh (by obtain ⟨b, e, s⟩ := row_rel (hk p hp); cases e; exact s), by simpa using f1, fun b L hb sub all => ?_⟩
  have P1 := R.newO (o := SetTO P w b L) hb
  refine ⟨b, L, dlen (ks.map (·.2)), CB, rfl, upd_same, fun p hp => seqT P1.rep.fh (by obtain ⟨c, e, s⟩ := row_rel (hk p (sub p hp)); cases e; exact s), f2, fun p hp => ?_, fun L' p pm nd _ pw hp => ?_⟩
  · obtain ⟨g1, g2⟩ := f3 p.2 (List.mem_map.mpr ⟨p, sub p hp, rfl⟩)
    exact ⟨g1, bd_of g2⟩
  · have hL' : ∀ p ∈ L', Rel K F G.T (rowD p.2) (.ref p.1) := fun p hp => hk p (sub p (pm.mem_iff.mp hp))
    have e : L'.map (·.2) = sortC (ks.map (·.2)) := sortC_uniq f3 (fun z => ⟨fun hz => ?_, fun hz => ?_⟩) nd (List.pairwise_map.mpr pw)
    · have r := ks_rel hL'
      rw [e] at r
      exact out_nw P1.rep r (fun v F' H' P2 rv => q v F' H' (P1.trans P2) (rv.back P1.dom)) p hp
    · obtain ⟨q, hq, rfl⟩ := List.mem_map.mp hz
      exact List.mem_map.mpr ⟨q, sub q (pm.mem_iff.mp hq), rfl⟩
    · obtain ⟨q, hq, rfl⟩ := List.mem_map.mp hz
      obtain ⟨q', hq', e⟩ := List.mem_map.mp (all q hq)
      exact List.mem_map.mpr ⟨q', pm.mem_iff.mpr hq', e⟩
/-- len(set) -/
def rLenT (K : Fg) (P : Program) (w : World) : List V → Hp → VK → Prop := fun xs H Q => ∃ (a : Addr) (L : List (Addr × List Int)), xs = [V.ref a] ∧ H a = some (SetTO P w a L) ∧ (∀ p ∈ L, SqT K H p.1 (p.2.map V.int)) ∧ ((L.map (·.2)).Nodup → Q (.int L.length) H)
theorem cr_lenT {X : Cx} : CallR X (.builtin "len") (rLenT X.K X.prog X.w) := by
  intro pins s σ H xs us Q I r h
  obtain ⟨a, L, rfl, ha, hk, q⟩ := h
  have R0 : SetT0 X.prog X.w s.heap a L := (I.hok a _ ha).1
  obtain ⟨es, ep, t, R⟩ := R0.full fun p hp => I.isT (hk p hp)
  rw [Vals.ref1 r]
  obtain ⟨o, ho, hex, hd⟩ := R.ob
  have e := R.size
  have f := R.few
  refine call_len_set ho hex hd R.fits (by omega) ?_
  rw [e]
  exact ⟨.int L.length, H, I.kept (h' := s.heap) (fun _ _ e => e), ⟨_, rfl⟩, q R.nd⟩
def rLS (K : Fg) (P : Program) (w : World) : List V → Hp → VK → Prop := fun xs H Q => rSetOfT K P w xs H fun v H1 => rLenT K P w [v] H1 Q
theorem lenSetD_ok {K : Fg} {P : Program} {w : World} : C1Snd K (rLS K P w) lenSetD := by
  intro G F ps σ H x d out Q R hx hg q
  unfold lenSetD at hg
  obtain ⟨rs, e1, hg⟩ := Option.bind_eq_some_iff.mp hg
  cases hg
  obtain ⟨rfl, hf⟩ := setRows_eq e1
  obtain ⟨f1, f2, f3⟩ := flat_of hf
  obtain ⟨a, vs, rfl, h1, h2⟩ := bLst hx
  obtain ⟨ks, rfl, rfl, hk⟩ := rows_ks h2
  refine ⟨a, ks, rfl, SqL.of h1, fun p hp => seqT R.fh (by obtain ⟨b, e, s⟩ := row_rel (hk p hp); cases e; exact s), by simpa using f1, fun b L hb sub all => ?_⟩
  have P1 := R.newO (o := SetTO P w b L) hb
  refine ⟨b, L, rfl, upd_same, fun p hp => seqT P1.rep.fh (by obtain ⟨c, e, s⟩ := row_rel (hk p (sub p hp)); cases e; exact s), fun nd => ?_⟩
  have e : L.length = (sortC (ks.map (·.2))).length := by
    have m : ∀ z, z ∈ L.map (·.2) ↔ z ∈ sortC (ks.map (·.2)) := fun z => by
      rw [mem_sortC f3]
      constructor
      · intro hz
        obtain ⟨q, hq, rfl⟩ := List.mem_map.mp hz
        exact List.mem_map.mpr ⟨q, sub q hq, rfl⟩
      · intro hz
        obtain ⟨q, hq, rfl⟩ := List.mem_map.mp hz
        exact all q hq
    have nd2 : (sortC (ks.map (·.2))).Nodup := (sortC_asc _).imp fun {x y} h e => by rw [e] at h; omega
    have l1 := List.Nodup.length_le_of_subset nd fun z hz => (m z).mp hz
    have l2 := List.Nodup.length_le_of_subset nd2 fun z hz => (m z).mpr hz
    rw [List.length_map] at l1 l2
    omega
  rw [e]
  exact out_im P1.rep (by unfold Rel; rfl) fun v F' H' P2 rv => q v F' H' (P1.trans P2) (rv.back P1.dom)
section
variable {X : Cx} {K : Fg} {a : Expr} {ta : TE} {fa : M RV} {p p2 pos pos2 : Pos}
theorem k_sortSet (hK : X.K = K) (hc : X.calm = true) (hu : X.A.units + 65 < cLine) (hg : Gl X "sorted") (hm : X.mg "sorted" = none) (hg2 : Gl X "set") (hm2 : X.mg "set" = none) (ha : DE X a ta fa)
    (he : starEach [a] X.env = (false, eval a X.env) :: starEach [] X.env := by rfl) (hp : (backTo pos2 (starEach [] X.env)).any (·.1) = false := by rfl)
    (he2 : starEach [.Call (.Name "set" p2) [a] [] pos2] X.env = (false, eval (.Call (.Name "set" p2) [a] [] pos2) X.env) :: starEach [] X.env := by rfl) (hp2 : (backTo pos (starEach [] X.env)).any (·.1) = false := by rfl) :
    DE X (.Call (.Name "sorted" p) [.Call (.Name "set" p2) [a] [] pos2] [] pos) (tCB (rSortedT K X.prog X.w) (t1 (tCB (rSetOfT K X.prog X.w) (t1 ta)))) (unM sortSetD fa) := by
  subst hK
  have s := snd_call1 (r := rSS X.K X.prog X.w) sortSetD_ok ha.sn
  have pe2 := pe_callTy (pos := pos2) (p := p2) (cr_setOfT hc (by omega)) hg2 hm2 (by decide) (pa_cons ha.pe pa_nil he) (by decide) (by decide) he hp
  exact ⟨pe_callB (cr_sortedT hc) hg hm (by decide) (pa_cons pe2 pa_nil he2) (by decide) (by decide) he2 hp2, ⟨s.go⟩⟩
theorem k_lenSet (hK : X.K = K) (hc : X.calm = true) (hu : X.A.units + 65 < cLine) (hg : Gl X "len") (hm : X.mg "len" = none) (hg2 : Gl X "set") (hm2 : X.mg "set" = none) (ha : DE X a ta fa)
    (he : starEach [a] X.env = (false, eval a X.env) :: starEach [] X.env := by rfl) (hp : (backTo pos2 (starEach [] X.env)).any (·.1) = false := by rfl)
    (he2 : starEach [.Call (.Name "set" p2) [a] [] pos2] X.env = (false, eval (.Call (.Name "set" p2) [a] [] pos2) X.env) :: starEach [] X.env := by rfl) (hp2 : (backTo pos (starEach [] X.env)).any (·.1) = false := by rfl) :
    DE X (.Call (.Name "len" p) [.Call (.Name "set" p2) [a] [] pos2] [] pos) (tCB (rLenT K X.prog X.w) (t1 (tCB (rSetOfT K X.prog X.w) (t1 ta)))) (unM lenSetD fa) := by
  subst hK
  have s := snd_call1 (r := rLS X.K X.prog X.w) lenSetD_ok ha.sn
  have pe2 := pe_callTy (pos := pos2) (p := p2) (cr_setOfT hc (by omega)) hg2 hm2 (by decide) (pa_cons ha.pe pa_nil he) (by decide) (by decide) he hp
  exact ⟨pe_callB cr_lenT hg hm (by decide) (pa_cons pe2 pa_nil he2) (by decide) (by decide) he2 hp2, ⟨s.go⟩⟩
end

/-! ### the least and the greatest of a row of data -/
def alikeB (ds : List Dat) : Bool := (ds.all fun x => ds.all fun y => PySem.W.alike x y) && ds.all fun x => match x with | .none => false | _ => true
theorem alike_of {ds : List Dat} (h : alikeB ds = true) : PySem.W.AlikeAll ds := by
  unfold alikeB at h
  simp only [Bool.and_eq_true] at h
  refine ⟨fun x hx y hy => List.all_eq_true.mp (List.all_eq_true.mp h.1 x hx) y hy, fun x hx e => ?_⟩
  have := List.all_eq_true.mp h.2 x hx
  rw [e] at this
  cases this
def rBest (K : Fg) (best : Dat → List Dat → Dat) : List V → Hp → VK → Prop := fun xs H Q => ∃ (a : Addr) (vs : List V) (d : Dat) (ds : List Dat), xs = [.ref a] ∧ (SqL K H a vs ∨ SqT K H a vs) ∧ DpAll K H vs (d :: ds) ∧ PySem.W.AlikeAll (d :: ds) ∧ PyData.depthAll (d :: ds) ≤ 63 ∧
  ∀ (i : Nat) (v : V), vs[i]? = some v → (d :: ds)[i]? = some (best d ds) → Q v H
theorem vals_back {xs : List V} {us : List Value} {i : Nat} {u : Value} (r : Vals xs us) (h : us[i]? = some u) : ∃ x, xs[i]? = some x ∧ RelV x u := by
  have hl : i < xs.length := by
    have := r.length
    have := (List.getElem?_eq_some_iff.mp h).1
    omega
  obtain ⟨u', h', rv⟩ := Vals.get r (List.getElem?_eq_getElem hl)
  rw [h] at h'
  cases h'
  exact ⟨_, List.getElem?_eq_getElem hl, rv⟩
theorem cr_minB {X : Cx} (hc : X.calm = true) (hu : X.A.units + 65 < cLine) : CallR X (.builtin "min") (rBest X.K PySem.W.minD) := by
  intro pins s σ H xs us Q I r h
  obtain ⟨a, vs, d, ds, rfl, hs, hd, hal, hdep, q⟩ := h
  rw [Vals.ref1 r]
  rcases hs with hs | hs
  · obtain ⟨its, rv, hl, _⟩ := I.list hs
    obtain ⟨as, rs⟩ := Dp.readsAll I (d :: ds) vs its hd rv
    refine PySem.W.min_list_data (vs := its.toArray) (I.ok.hd hc) hl.isList rs hal (by omega) fun i v h' tk bs hi rd k => ?_
    obtain ⟨w, hw, rw_⟩ := vals_back rv (show its[i]? = some v by simpa using hi)
    obtain ⟨cs, rd2, hlt, _, _⟩ := PySem.W.readsAll_at rs i v (by simpa using hi)
    have e := (PySem.Reads.unique (PySem.W.reads_keeps k rd2) _ _ rd).1
    refine ⟨w, H, I.kept k, rw_, q i w hw ?_⟩
    rw [← e, List.getD_eq_getElem?_getD, List.getElem?_eq_getElem hlt]
    rfl
  · obtain ⟨its, rv, hl, _⟩ := I.tuple hs
    obtain ⟨as, rs⟩ := Dp.readsAll I (d :: ds) vs its hd rv
    refine PySem.W.min_tuple_data (vs := its.toArray) (I.ok.hd hc) hl rs hal (by omega) fun i v h' tk bs hi rd k => ?_
    obtain ⟨w, hw, rw_⟩ := vals_back rv (show its[i]? = some v by simpa using hi)
    obtain ⟨cs, rd2, hlt, _, _⟩ := PySem.W.readsAll_at rs i v (by simpa using hi)
    have e := (PySem.Reads.unique (PySem.W.reads_keeps k rd2) _ _ rd).1
    refine ⟨w, H, I.kept k, rw_, q i w hw ?_⟩
    rw [← e, List.getD_eq_getElem?_getD, List.getElem?_eq_getElem hlt]
    rfl
theorem cr_maxB {X : Cx} (hc : X.calm = true) (hu : X.A.units + 65 < cLine) : CallR X (.builtin "max") (rBest X.K PySem.W.maxD) := by
  intro pins s σ H xs us Q I r h
  obtain ⟨a, vs, d, ds, rfl, hs, hd, hal, hdep, q⟩ := h
  rw [Vals.ref1 r]
  rcases hs with hs | hs
  · obtain ⟨its, rv, hl, _⟩ := I.list hs
    obtain ⟨as, rs⟩ := Dp.readsAll I (d :: ds) vs its hd rv
    refine PySem.W.max_list_data (vs := its.toArray) (I.ok.hd hc) hl.isList rs hal (by omega) fun i v h' tk bs hi rd k => ?_
    obtain ⟨w, hw, rw_⟩ := vals_back rv (show its[i]? = some v by simpa using hi)
    obtain ⟨cs, rd2, hlt, _, _⟩ := PySem.W.readsAll_at rs i v (by simpa using hi)
    have e := (PySem.Reads.unique (PySem.W.reads_keeps k rd2) _ _ rd).1
    refine ⟨w, H, I.kept k, rw_, q i w hw ?_⟩
    rw [← e, List.getD_eq_getElem?_getD, List.getElem?_eq_getElem hlt]
    rfl
  · obtain ⟨its, rv, hl, _⟩ := I.tuple hs
    obtain ⟨as, rs⟩ := Dp.readsAll I (d :: ds) vs its hd rv
    refine PySem.W.max_tuple_data (vs := its.toArray) (I.ok.hd hc) hl rs hal (by omega) fun i v h' tk bs hi rd k => ?_
    obtain ⟨w, hw, rw_⟩ := vals_back rv (show its[i]? = some v by simpa using hi)
    obtain ⟨cs, rd2, hlt, _, _⟩ := PySem.W.readsAll_at rs i v (by simpa using hi)
    have e := (PySem.Reads.unique (PySem.W.reads_keeps k rd2) _ _ rd).1
    refine ⟨w, H, I.kept k, rw_, q i w hw ?_⟩
    rw [← e, List.getD_eq_getElem?_getD, List.getElem?_eq_getElem hlt]
    rfl
def bestD (best : Dat → List Dat → Dat) : Dat → Option RV
  | .list (d :: ds) => if SeqAt.shaped (.list (d :: ds)) && alikeB (d :: ds) then some (.im (best d ds)) else none
  | .tuple (d :: ds) => if SeqAt.shaped (.tuple (d :: ds)) && alikeB (d :: ds) then some (.im (best d ds)) else none
  | _ => none
theorem dp_all_l {K : Fg} {H : Hp} {v : V} {ds : List Dat} (h : Dp K H v (.list ds)) : ∃ a vs, v = .ref a ∧ SqL K H a vs ∧ DpAll K H vs ds := by
  cases h with
  | lst h1 h2 => exact ⟨_, _, rfl, h1, h2⟩
theorem bestD_ok {K : Fg} {best : Dat → List Dat → Dat} : C1Snd K (rBest K best) (bestD best) := by
  intro G F ps σ H x d out Q R hx hg q
  unfold bestD at hg
  split at hg
  · rename_i d0 ds
    split at hg
    · rename_i hc
      cases hg
      simp only [Bool.and_eq_true] at hc
      obtain ⟨a, vs, rfl, h1, h2⟩ := bLst hx
      have hl := SeqAt.canLay_of_shaped hc.1
      have dp := dps_of (d0 :: ds) vs (by simpa [PyData.canLay0] using hl) (RelL.mono R.fh _ _ h2)
      have dep : PyData.depthAll (d0 :: ds) + 1 ≤ 64 := SeqAt.depth_of_shaped hc.1
      refine ⟨a, vs, d0, ds, rfl, .inl (SqL.of h1), dp, alike_of hc.2, by omega, fun i v hv he => ?_⟩
      obtain ⟨w, hw, rw_⟩ := h2.get he
      rw [hv] at hw
      cases hw
      exact out_im R rw_ q
    · cases hg
  · rename_i d0 ds
    split at hg
    · rename_i hc
      cases hg
      simp only [Bool.and_eq_true] at hc
      obtain ⟨a, vs, rfl, h1, h2⟩ := bTup R.fh hx
      have hl := SeqAt.canLay_of_shaped hc.1
      have dp := dps_of (d0 :: ds) vs (by simpa [PyData.canLay0] using hl) (RelL.mono R.fh _ _ h2)
      have dep : PyData.depthAll (d0 :: ds) + 1 ≤ 64 := SeqAt.depth_of_shaped hc.1
      refine ⟨a, vs, d0, ds, rfl, .inr h1, dp, alike_of hc.2, by omega, fun i v hv he => ?_⟩
      obtain ⟨w, hw, rw_⟩ := h2.get he
      rw [hv] at hw
      cases hw
      exact out_im R rw_ q
    · cases hg
  · cases hg
def minBD : Dat → Option RV := bestD PySem.W.minD
def maxBD : Dat → Option RV := bestD PySem.W.maxD
theorem minBD_ok {K : Fg} : C1Snd K (rBest K PySem.W.minD) minBD := bestD_ok
theorem maxBD_ok {K : Fg} : C1Snd K (rBest K PySem.W.maxD) maxBD := bestD_ok
theorem kc_minB {X : Cx} {K : Fg} (hK : X.K = K) (hc : X.calm = true) (hu : X.A.units + 65 < cLine) : CallR X (.builtin "min") (rBest K PySem.W.minD) := by subst hK; exact cr_minB hc hu
theorem kc_maxB {X : Cx} {K : Fg} (hK : X.K = K) (hc : X.calm = true) (hu : X.A.units + 65 < cLine) : CallR X (.builtin "max") (rBest K PySem.W.maxD) := by subst hK; exact cr_maxB hc hu
end MP
namespace MP
open PySem PySem.Spec PyProof.Rows L2
variable [Tbs] [Wx]
/-! ### what is never come to -/
def raiseM : SM := fun _ => none
@[simp] theorem e_raise {ps : PS} : raiseM ps = none := rfl
/-- a statement of which nothing is said: whoever comes to it has shown nothing -/
theorem ds_never {X : Cx} {st : Stmt} : DS X st (fun _ _ _ => False) raiseM := ⟨⟨fun pins s σ H D I h => h.elim⟩, ⟨fun G F ps σ H o D R e q => by cases e⟩⟩
end MP

/-! sorted(list of ints, reverse=True) -/
namespace MP
open PySem PySem.Spec PyProof.Rows L2
variable [Tbs]
def sortRD : Dat → Option RV
  | .list ds => (ints? ds).bind fun ns => some (.nw ((isort ns).reverse.map PyData.int))
  | _ => none
theorem isortR_uniq {ns ms : List Int} (h : ms.Perm ns) (s : ms.Pairwise (· ≥ ·)) : ms = (isort ns).reverse := by
  have e : ms.reverse = isort ns := isort_uniq ((List.reverse_perm ms).trans h) (List.pairwise_reverse.mpr s)
  rw [← e, List.reverse_reverse]
theorem sortRD_ok {K : Fg} : C1Snd K (fun xs H Q => rSortedKw K true [.bl true] xs [.bl true] H Q) sortRD := by
  intro G F ps σ H x d out Q R hx hg q
  unfold sortRD at hg
  split at hg
  · rename_i ds
    obtain ⟨ns, e1, hg⟩ := Option.bind_eq_some_iff.mp hg
    cases hg
    obtain ⟨a, vs, rfl, h1, h2⟩ := bLst hx
    rw [ints_rel e1 h2] at h1
    refine ⟨a, ns, rfl, rfl, SqL.of h1, fun ms p hp hs hn => ?_⟩
    rw [isortR_uniq hp hs]
    exact out_nw R (ints_relL _) q p hn
  · cases hg
section
variable {X : Cx} {K : Fg} {a : Expr} {ta : TE} {fa : M RV} {p pos kpos cpos : Pos} {j : Nat}
theorem k_sortRev (hK : X.K = K) (hg : Gl X "sorted") (hm : X.mg "sorted" = none) (ha : DE X a ta fa)
    (hk : PK X [⟨some (Str.ofString "reverse"), .Constant (.bool true) j cpos, kpos⟩] (tCons (tC (.bl true)) tNil))
    (he0 : starEach [a] X.env = (false, eval a X.env) :: starEach [] X.env := by rfl)
    (he : backTo pos (starEach [a] X.env) = (false, eval a X.env) :: backTo pos (starEach [] X.env) := by rfl) (hpl : (backTo pos (starEach [a] X.env)).any (·.1) = false := by rfl)
    (hall : (backToKw pos (keywordEach [⟨some (Str.ofString "reverse"), .Constant (.bool true) j cpos, kpos⟩] X.env)).all (·.1.isSome) = true := by rfl)
    (hnone : (backToKw pos (keywordEach [⟨some (Str.ofString "reverse"), .Constant (.bool true) j cpos, kpos⟩] X.env)).any (·.1.isNone) = false := by rfl)
    (hks : (backToKw pos (keywordEach [⟨some (Str.ofString "reverse"), .Constant (.bool true) j cpos, kpos⟩] X.env)).filterMap (·.1) = [Str.ofString "reverse"] := by rfl) :
    DE X (.Call (.Name "sorted" p) [a] [⟨some (Str.ofString "reverse"), .Constant (.bool true) j cpos, kpos⟩] pos) (tCKw (rSortedKw K true [.bl true]) (t1 ta) (tCons (tC (.bl true)) tNil)) (unM sortRD fa) := by
  subst hK
  have s := snd_call1 (r := fun xs H Q => rSortedKw X.K true [.bl true] xs [.bl true] H Q) sortRD_ok ha.sn
  exact ⟨pe_callBK cr_sortedRev hg hm (by decide) (pa_cons ha.pe pa_nil he0) hk (by decide) (by decide) he hpl hall hnone hks, ⟨s.go⟩⟩
end
end MP
namespace MP
open PySem PySem.Spec PyProof.Rows L2
variable [Tbs]
/-- what was made in this call is nobody's again: only what the entry's frozen data say is kept -/
theorem Rep.thaw {G : Ctl} {K : Fg} {F : Hp} {ps ps' : PS} {σ : L2.St} {H : Hp} (R : Rep G K F ps σ H) (hl : ps'.sl.length = ps.sl.length) (hdr : ps'.dr = ps.dr)
    (hs : ∀ (i : Nat) (s : Sl), ps'.sl[i]? = some s → s = .un ∨ ∃ d v, s = .fr d ∧ σ[i]? = some (some v) ∧ Rel K G.F0 G.T d v) : Rep G K G.F0 ps' σ H := by
  refine ⟨R.len.trans hl.symm, fun i s e => ?_, fun a b p ha hb => ?_, fun h => by rw [hdr]; exact R.dr h, fun h => ?_, R.ff.trans R.fh, R.kp, fun _ _ => rfl, Same.refl _, fun h => by rw [hdr]; exact R.nd h, R.tab, fun i j path q e _ => by
    rcases hs i _ e with z | ⟨d, v, z, _⟩ <;> cases z⟩
  · rcases hs i s e with rfl | ⟨d, v, rfl, e1, r⟩
    · have hi : i < σ.length := by
        rw [R.len, ← hl]
        exact ltOf e
      exact ⟨σ[i], List.getElem?_eq_getElem hi, trivial⟩
    · exact ⟨some v, e1, v, rfl, r⟩
  · exfalso
    obtain ⟨s, o, ha, _, f⟩ := ha
    rcases hs a _ ha with z | ⟨d, v, z, _⟩ <;> (subst z; exact f.elim)
  · obtain ⟨a, b, c, d⟩ := R.ft h
    exact ⟨R.ff.free a, R.ff.free b, c, d⟩
end MP

/-! own lists within own lists -/
namespace MP
open PySem PySem.Spec PyProof.Rows L2
variable [Tbs] [Wx]

/-- nobody's trees -/
def TsV (G : Ctl) (K : Fg) (F : Hp) (ps : PS) (σ : L2.St) (Hs H : Hp) (ts : List Tr) (vs : List V) (fp : List Addr) : Prop :=
  TrsOk K F H G.H0 G.T ts vs fp ∧ fp.Nodup ∧ ∀ p ∈ fp, ¬ Own ps σ H p ∧ Hs p = none
section
variable {G : Ctl} {K : Fg} {F F' F1 : Hp} {ps ps' ps1 ps2 : PS} {σ σ' : L2.St} {Hs Hs' H H' H1 : Hp} {ts us : List Tr} {vs ws : List V} {fp fq : List Addr} {t : Tr} {v : V}
theorem TsV.nil : TsV G K F ps σ Hs H [] [] [] := ⟨by unfold TrsOk; exact ⟨rfl, rfl⟩, List.nodup_nil, fun p hp => by cases hp⟩
theorem TsV.own (h : TsV G K F ps σ Hs H ts vs fp) {p : Addr} (hp : p ∈ fp) : ∃ o, H p = some o ∧ MutO o ∧ F p = none ∧ G.H0 p = none := h.1.own p hp
theorem TsV.kept (h : TsV G K F ps σ Hs H ts vs fp) (P : Post G K F ps σ H F' ps' H') {p : Addr} (hp : p ∈ fp) : H' p = H p ∧ F' p = none ∧ ¬ Own ps' σ H' p := by
  obtain ⟨u, e, hm, e2, e3⟩ := h.own hp
  obtain ⟨x, y, z⟩ := P.fresh p u hm e e2 e3 (h.2.2 p hp).1
  exact ⟨by rw [x, e], y, z⟩
theorem TsV.post (h : TsV G K F ps σ Hs H ts vs fp) (P : Post G K F ps σ H F' ps' H') : TsV G K F' ps' σ Hs H' ts vs fp :=
  ⟨h.1.keep P.same fun p hp => ⟨(h.kept P hp).1, (h.kept P hp).2.1⟩, h.2.1, fun p hp => ⟨(h.kept P hp).2.2, (h.2.2 p hp).2⟩⟩
theorem TsV.back (h : TsV G K F ps σ Hs' H ts vs fp) (d : ∀ a, Hs' a = none → Hs a = none) : TsV G K F ps σ Hs H ts vs fp := ⟨h.1, h.2.1, fun p hp => ⟨(h.2.2 p hp).1, d p (h.2.2 p hp).2⟩⟩
theorem TsV.ole (h : TsV G K F ps σ Hs H ts vs fp) (o : ∀ p, Own ps' σ' H p → Own ps σ H p) : TsV G K F ps' σ' Hs H ts vs fp := ⟨h.1, h.2.1, fun p hp => ⟨fun z => (h.2.2 p hp).1 (o p z), (h.2.2 p hp).2⟩⟩
theorem TsV.one (h : RVok G K F ps σ Hs H (.nt t) v) : ∃ fp, TsV G K F ps σ Hs H [t] [v] fp := by
  obtain ⟨fp, h1, h2, h3⟩ := h
  exact ⟨fp, by unfold TrsOk; exact ⟨v, [], fp, [], rfl, by simp, h1, by unfold TrsOk; exact ⟨rfl, rfl⟩⟩, h2, h3⟩
theorem TrsOk.app {H0 : Hp} {T : Addr} : ∀ {ts us : List Tr} {vs ws : List V} {fp fq : List Addr}, TrsOk K F H H0 T ts vs fp → TrsOk K F H H0 T us ws fq → TrsOk K F H H0 T (ts ++ us) (vs ++ ws) (fp ++ fq)
  | [], us, vs, ws, fp, fq, h, h' => by
    unfold TrsOk at h
    rw [h.1, h.2]
    exact h'
  | t :: ts, us, vs, ws, fp, fq, h, h' => by
    unfold TrsOk at h
    obtain ⟨v, xs, f, g, rfl, rfl, h1, h2⟩ := h
    show TrsOk K F H H0 T (t :: (ts ++ us)) _ _
    unfold TrsOk
    exact ⟨v, xs ++ ws, f, g ++ fq, rfl, by simp, h1, TrsOk.app h2 h'⟩
/-- trees made later stand apart -/
theorem TsV.app (h : TsV G K F ps σ Hs H ts vs fp) (h' : TsV G K F ps σ Hs H us ws fq) (d : ∀ p ∈ fp, p ∉ fq) : TsV G K F ps σ Hs H (ts ++ us) (vs ++ ws) (fp ++ fq) :=
  ⟨h.1.app h'.1, List.nodup_append.mpr ⟨h.2.1, h'.2.1, fun a ha b hb e => d a ha (e ▸ hb)⟩, fun p hp => by
    rcases List.mem_append.mp hp with z | z
    · exact h.2.2 p z
    · exact h'.2.2 p z⟩
end

/-- a value kept as it is: data, or an own object of its own -/
def toTr (r : RV) (ps : PS) : Option (Tr × PS) := match r with
  | .im d => some (.fr d, ps)
  | .nw ds => some (.nd .li (ds.map .fr), ps)
  | .nt t => some (t, ps)
  | .sl j => (keepV (.sl j) ps).bind fun x => some (.fr x.1, x.2)
  | .pa j path => (keepV (.pa j path) ps).bind fun x => some (.fr x.1, x.2)
theorem toTr_ok {G : Ctl} {K : Fg} {F F1 : Hp} {ps ps1 ps2 : PS} {σ : L2.St} {H H1 : Hp} {r : RV} {v : V} {t : Tr} (P : Post G K F ps σ H F1 ps1 H1) (h : RVok G K F1 ps1 σ H H1 r v) (e : toTr r ps1 = some (t, ps2)) :
    ∃ F', Post G K F ps σ H F' ps2 H1 ∧ RVok G K F' ps2 σ H H1 (.nt t) v := by
  have fr : ∀ {F' ps' d}, Rel K F' G.T d v → RVok G K F' ps' σ H H1 (.nt (.fr d)) v := fun hr => ⟨[], by unfold TrOk; exact ⟨rfl, hr⟩, List.nodup_nil, fun p hp => by cases hp⟩
  cases r with
  | im d =>
    cases e
    exact ⟨F1, P, fr h⟩
  | nw ds =>
    cases e
    obtain ⟨p, vs, rfl, h1, h2, h3, h4, h5, h6⟩ := h
    refine ⟨F1, P, [p], ?_, by simp, fun q hq => ?_⟩
    · unfold TrOk
      exact ⟨p, vs, [], rfl, rfl, h1, h2, h3, trivial, TrsOk.ofL h5⟩
    · rw [List.mem_singleton.mp hq]
      exact ⟨h4, h6⟩
  | nt t' =>
    cases e
    exact ⟨F1, P, h⟩
  | sl j =>
    obtain ⟨⟨d, ps3⟩, e1, e⟩ := Option.bind_eq_some_iff.mp e
    cases e
    obtain ⟨F', P', r'⟩ := keepV_ok P h e1
    exact ⟨F', P', fr r'⟩
  | pa j path =>
    obtain ⟨⟨d, ps3⟩, e1, e⟩ := Option.bind_eq_some_iff.mp e
    cases e
    obtain ⟨F', P', r'⟩ := keepV_ok P h e1
    exact ⟨F', P', fr r'⟩
def trM (f : M RV) : M Tr := fun ps => (f ps).bind fun x => toTr x.1 x.2
theorem trM_go {K : Fg} {ta : TE} {fa : M RV} (h : SndE K ta fa) {G : Ctl} {F : Hp} {ps : PS} {σ : L2.St} {H : Hp} {t : Tr} {ps' : PS} {Q : VK} (R : Rep G K F ps σ H) (e : trM fa ps = some (t, ps')) (q : ∀ v F' H' fp, Post G K F ps σ H F' ps' H' → TsV G K F' ps' σ H H' [t] [v] fp → Q v H') : ta σ H Q := by
  unfold trM at e
  obtain ⟨⟨r, ps1⟩, e1, e⟩ := Option.bind_eq_some_iff.mp e
  refine h.go G F ps σ H r ps1 _ R e1 fun v F1 H1 P1 r1 => ?_
  obtain ⟨F', P', r'⟩ := toTr_ok P1 r1 e
  obtain ⟨fp, h⟩ := TsV.one r'
  exact q v F' H1 fp P' h

/-! ### displays -/
def tconsM (f : M RV) (g : M (List Tr)) : M (List Tr) := fun ps => (trM f ps).bind fun x => (g x.2).bind fun y => some (x.1 :: y.1, y.2)
structure SndAT (K : Fg) (t : TA) (f : M (List Tr)) : Prop where
  go : ∀ (G : Ctl) (F : Hp) (ps : PS) (σ : L2.St) (H : Hp) (ts : List Tr) (ps' : PS) (Q : List V → Hp → Prop), Rep G K F ps σ H → f ps = some (ts, ps') →
    (∀ vs F' H' fp, Post G K F ps σ H F' ps' H' → TsV G K F' ps' σ H H' ts vs fp → Q vs H') → t σ H Q
structure DAT (X : Cx) (es : List Expr) (t : TA) (f : M (List Tr)) : Prop where
  pe : PA X es t
  sn : SndAT X.K t f
section
variable {X : Cx} {a b c e : Expr} {es : List Expr} {ta tb tc te : TE} {fa fb fc fe : M RV} {pos : Pos} {t : TA} {g : M (List Tr)}
theorem dat_nil : DAT X [] tNil (M.ret []) := ⟨pa_nil, ⟨fun G F ps σ H ds ps' Q R e q => by
  cases e
  exact q [] F H [] (.refl R) .nil⟩⟩
theorem dat_cons (ha : DE X e te fe) (hr : DAT X es t g) (hs : starEach (e :: es) X.env = (false, eval e X.env) :: starEach es X.env := by rfl) : DAT X (e :: es) (tCons te t) (tconsM fe g) := by
  refine ⟨pa_cons ha.pe hr.pe hs, ⟨fun G F ps σ H ds ps' Q R e q => ?_⟩⟩
  unfold tconsM at e
  obtain ⟨⟨d, ps1⟩, e1, e⟩ := Option.bind_eq_some_iff.mp e
  obtain ⟨⟨ds', ps2⟩, e2, e⟩ := Option.bind_eq_some_iff.mp e
  cases e
  refine trM_go ha.sn R e1 fun v F1 H1 fp P1 r1 => ?_
  refine hr.sn.go G F1 ps1 σ H1 ds' ps2 _ P1.rep e2 fun vs F2 H2 fq P2 r2 => ?_
  refine q (v :: vs) F2 H2 (fp ++ fq) (P1.trans P2) ?_
  refine (r1.post P2).app (r2.back P1.dom) fun p hp hq => ?_
  obtain ⟨o, z, _⟩ := r1.own hp
  rw [(r2.2.2 p hq).2] at z
  cases z
def lstTM (g : M (List Tr)) : M RV := fun ps => (g ps).bind fun x => if line x.1.length then some (.nt (.nd .li x.1), x.2) else none
/-- a new object that holds trees -/
theorem out_nt {G : Ctl} {K : Fg} {F : Hp} {ps : PS} {σ : L2.St} {H : Hp} {Q : VK} {sh : Sh} {ts : List Tr} {vs : List V} {fp : List Addr} {Hs : Hp} (R : Rep G K F ps σ H) (h : TsV G K F ps σ Hs H ts vs fp) (hs : ∀ a, H a = none → Hs a = none) (ok : sh.ok vs.length)
    (q : ∀ v F' H', Post G K F ps σ H F' ps H' → RVok G K F' ps σ Hs H' (.nt (.nd sh ts)) v → Q v H') : ∀ p, H p = none → Q (.ref p) (upd H p (sh.ho vs)) := fun p hp => by
  have P := R.newO (o := sh.ho vs) hp
  have h' := h.post P
  have np : p ∉ fp := fun z => by
    obtain ⟨o, e, _⟩ := h.own z
    rw [hp] at e
    cases e
  refine q _ _ _ P ⟨p :: fp, ?_, List.nodup_cons.mpr ⟨np, h.2.1⟩, fun a ha => ?_⟩
  · unfold TrOk
    exact ⟨p, vs, fp, rfl, rfl, upd_same, R.fn hp, R.h0 hp, ok, h'.1⟩
  · rcases List.mem_cons.mp ha with z | z
    · rw [z]
      exact ⟨fun o => R.ownN hp ((R.ownI (R.keepO (same_upd hp))).mp o), hs p hp⟩
    · exact h'.2.2 a z
theorem de_lstT (h : DAT X es t g) : DE X (.List es pos) (tLst t) (lstTM g) := by
  refine ⟨pe_lst h.pe, ⟨fun G F ps σ H r ps' Q R e q => ?_⟩⟩
  unfold lstTM at e
  obtain ⟨⟨ds, ps1⟩, e1, e⟩ := Option.bind_eq_some_iff.mp e
  split at e
  · rename_i hl
    cases e
    refine h.sn.go G F ps σ H ds ps1 _ R e1 fun vs F1 H1 fp P1 r1 => ⟨?_, out_nt (sh := .li) P1.rep r1 P1.dom trivial fun v F2 H2 P2 r2 => q v F2 H2 (P1.trans P2) r2⟩
    rw [r1.1.len]
    exact line_le hl
  · cases e
/-- a list made to hold own lists -/
def asTM (f : M RV) : M RV := fun ps => (f ps).bind fun x => match x.1 with
  | .nw ds => some (.nt (.nd .li (ds.map .fr)), x.2)
  | .nt t => some (.nt t, x.2)
  | _ => none
theorem de_asT (h : DE X e te fe) : DE X e te (asTM fe) := by
  refine ⟨h.pe, ⟨fun G F ps σ H r ps' Q R e q => ?_⟩⟩
  unfold asTM at e
  obtain ⟨⟨r1, ps1⟩, e1, e⟩ := Option.bind_eq_some_iff.mp e
  refine h.sn.go G F ps σ H r1 ps1 _ R e1 fun v F1 H1 P1 h1 => ?_
  cases r1 with
  | nw ds =>
    cases e
    obtain ⟨F', P', r'⟩ := toTr_ok P1 h1 (show toTr (.nw ds) ps1 = some (_, ps1) from rfl)
    exact q v F' H1 P' r'
  | nt t =>
    cases e
    exact q v F1 H1 P1 h1
  | im d => cases e
  | sl j => cases e
  | pa j path => cases e
end

/-! ### parts read -/
theorem AddrAt.uniq {H : Hp} : ∀ {path : List Nat} {t : Tr} {v : V} {q q' : Addr}, AddrAt H path t v q → AddrAt H path t v q' → q = q'
  | path, .fr d, v, q, q', h, h' => by unfold AddrAt at h; exact h.elim
  | [], .nd sh ts, v, q, q', h, h' => by
    unfold AddrAt at h h'
    rw [h] at h'
    cases h'
    rfl
  | k :: path, .nd sh ts, v, q, q', h, h' => by
    unfold AddrAt at h h'
    obtain ⟨p, vs, t, w, e, h1, h2, h3, h4, h5⟩ := h
    obtain ⟨p', vs', t', w', e', h1', h2', h3', h4', h5'⟩ := h'
    rw [e] at e'
    cases e'
    rw [h1] at h1'
    have := Sh.inj h2 h2' (Option.some.inj h1')
    subst this
    rw [h3] at h3'
    cases h3'
    rw [h4] at h4'
    cases h4'
    exact AddrAt.uniq h5 h5'
theorem AddrAt.snoc {H : Hp} : ∀ {path : List Nat} {t : Tr} {v : V} {p q : Addr} {sh : Sh} {ts us : List Tr} {vs : List V} {n : Nat} {sh' : Sh}, AddrAt H path t v p → t.get path = some (.nd sh ts) → H p = some (sh.ho vs) → sh.ok vs.length → ts[n]? = some (.nd sh' us) → vs[n]? = some (.ref q) → AddrAt H (path ++ [n]) t v q
  | path, .fr d, v, p, q, sh, ts, us, vs, n, sh', h, e, h1, h2, h3, h4 => by unfold AddrAt at h; exact h.elim
  | [], .nd sh0 ts0, v, p, q, sh, ts, us, vs, n, sh', h, e, h1, h2, h3, h4 => by
    unfold Tr.get at e
    cases e
    unfold AddrAt at h
    show AddrAt H [n] _ _ _
    unfold AddrAt
    exact ⟨p, vs, _, _, h, h1, h2, h3, h4, by unfold AddrAt; rfl⟩
  | k :: path, .nd sh0 ts0, v, p, q, sh, ts, us, vs, n, sh', h, e, h1, h2, h3, h4 => by
    unfold Tr.get at e
    obtain ⟨t1, e1, e2⟩ := Option.bind_eq_some_iff.mp e
    unfold AddrAt at h
    obtain ⟨p0, vs0, t0, w0, a1, a2, a3, a4, a5, a6⟩ := h
    rw [e1] at a4
    cases a4
    show AddrAt H (k :: (path ++ [n])) _ _ _
    unfold AddrAt
    exact ⟨p0, vs0, t1, w0, a1, a2, a3, e1, a5, AddrAt.snoc a6 e2 h1 h2 h3 h4⟩
/-- the node at path -/
theorem Rep.node {G : Ctl} {K : Fg} {F : Hp} {ps : PS} {σ : L2.St} {H : Hp} (R : Rep G K F ps σ H) {j : Nat} {path : List Nat} {t : Tr} {sh : Sh} {ts : List Tr} (e : ps.sl[j]? = some (.tr t)) (eg : t.get path = some (.nd sh ts)) :
    ∃ p vs fq, TAt ps σ H j path p ∧ H p = some (sh.ho vs) ∧ sh.ok vs.length ∧ TrsOk K F H G.H0 G.T ts vs fq ∧ fq.Nodup ∧ (∀ q ∈ fq, OwnAt ps σ H j q) ∧
      (∀ n sh' us q, ts[n]? = some (.nd sh' us) → vs[n]? = some (.ref q) → TAt ps σ H j (path ++ [n]) q) ∧
      ∀ sh' ts' vs' fq', TrsOk K F H G.H0 G.T ts' vs' fq' → fq'.Nodup → (∀ q ∈ fq', q ∈ fq ∨ ¬ Own ps σ H q) → sh'.ok vs'.length → Rep G K F ((ps.unal j).put j (.tr (t.set path (.nd sh' ts')))) σ (upd H p (sh'.ho vs')) := by
  obtain ⟨o, e1, v0, fp, rfl, h1, nd⟩ := R.slots j _ e
  obtain ⟨w, pre, f, post, rfl, h2, ad, _, up⟩ := h1.at eg
  have h2' := h2
  unfold TrOk at h2'
  obtain ⟨p, vs, fq, rfl, rfl, a1, a2, a3, a4, a5⟩ := h2'
  have adp := ad p ⟨_, _, rfl⟩ rfl
  have own : ∀ q ∈ pre ++ (p :: fq) ++ post, OwnAt ps σ H j q := fun q hq => ⟨_, _, e, e1, v0, _, rfl, h1.fp, hq⟩
  have nd2 := nd
  rw [List.nodup_append, List.nodup_append] at nd2
  obtain ⟨⟨n1, n2, n3⟩, n4, n5⟩ := nd2
  have n2' := List.nodup_cons.mp n2
  refine ⟨p, vs, fq, ⟨t, v0, e, e1, adp⟩, a1, a4, a5, n2'.2, fun q hq => own q (by simp [hq]), fun n sh' us q z1 z2 => ⟨t, v0, e, e1, adp.snoc eg a1 a4 z1 z2⟩, fun sh' ts' vs' fq' b1 b2 b3 b4 => ?_⟩
  have ne : ∀ q, q ∈ pre ∨ q ∈ post → q ≠ p := fun q hq z => by
    subst z
    rcases hq with z | z
    · exact n3 q z q (List.mem_cons_self ..) rfl
    · exact n5 q (by simp) q z rfl
  have nq : p ∉ fq' := fun z => by
    rcases b3 p z with z | z
    · exact n2'.1 z
    · exact z ⟨j, own p (by simp)⟩
  have dis : ∀ q, q ∈ pre ∨ q ∈ post → q ∉ fq' := fun q hq z => by
    rcases b3 q z with z | z
    · rcases hq with y | y
      · exact n3 q y q (List.mem_cons_of_mem _ z) rfl
      · exact n5 q (by simp [z]) q y rfl
    · exact z ⟨j, own q (by rcases hq with y | y <;> simp [y])⟩
  have ok' := up F (upd H p (sh'.ho vs')) (.nd sh' ts') (p :: fq') (Same.refl F) (fun q hq => ⟨upd_ne (ne q (List.mem_append.mp hq)), by
      obtain ⟨_, _, _, z, _⟩ := h1.own q (by rcases List.mem_append.mp hq with y | y <;> simp [y])
      exact z⟩) (by
      unfold TrOk
      exact ⟨p, vs', fq', rfl, rfl, upd_same, a2, a3, b4, b1.keep (Same.refl F) fun q hq => ⟨upd_ne fun z => nq (z ▸ hq), by
        obtain ⟨_, _, _, z, _⟩ := b1.own q hq
        exact z⟩⟩)
  have nd' : (pre ++ (p :: fq') ++ post).Nodup := by
    rw [List.nodup_append, List.nodup_append]
    refine ⟨⟨n1, List.nodup_cons.mpr ⟨nq, b2⟩, fun a ha b hb z => ?_⟩, n4, fun a ha b hb z => ?_⟩
    · subst z
      rcases List.mem_cons.mp hb with z | z
      · exact ne a (.inl ha) z
      · exact dis a (.inl ha) z
    · subst z
      rcases List.mem_append.mp ha with y | y
      · exact n5 a (by simp [y]) a hb rfl
      · rcases List.mem_cons.mp y with z | z
        · exact ne a (.inr hb) z
        · exact dis a (.inr hb) z
  have R' := R.unal j
  have oth : ∀ q, q ∈ pre ++ (p :: fq') ++ post → ∀ k, k ≠ j → ¬ OwnAt (ps.unal j) σ H k q := fun q hq k hk h => by
    have h := unal_own h
    have : q ∈ pre ++ (p :: fq) ++ post ∨ ¬ Own ps σ H q := by
      rcases List.mem_append.mp hq with y | y
      · rcases List.mem_append.mp y with y | y
        · exact .inl (by simp [y])
        · rcases List.mem_cons.mp y with z | z
          · exact .inl (by simp [z])
          · rcases b3 q z with z | z
            · exact .inl (by simp [z])
            · exact .inr z
      · exact .inl (by simp [y])
    rcases this with z | z
    · exact hk (R.sep k j q h (own q z))
    · exact z ⟨k, h⟩
  have lj : j < (ps.unal j).sl.length := by
    show j < (ps.sl.map _).length
    rw [List.length_map]
    exact ltOf e
  refine R'.slot lj rfl (fun _ _ => rfl) e1 ⟨v0, _, rfl, ok', nd'⟩ (Same.refl F) (fun b x z => ?_) (fun q hq => ?_) (fun q ⟨v', fp', ev, h3, hp⟩ k hk => ?_) fun a k path' q ea hq => ?_
  · have hb : b ≠ p := by
      rintro rfl
      rw [a2] at z
      cases z
    rw [upd_ne hb]
    exact R.fh _ _ z
  · rcases hq with hq | hq
    · have : q = p := by
        by_cases hb : q = p
        · exact hb
        · rw [upd_ne hb] at hq
          exact absurd rfl hq
      subst this
      exact ⟨a2, a3, fun k hk => oth q (by simp) k hk⟩
    · exact absurd rfl hq
  · cases ev
    rw [TrFp.uniq h3 ok'.fp] at hp
    exact oth q hp k hk
  · rcases putSet ea with ⟨_, z, _⟩ | ⟨ha, ea1⟩
    · cases z
    · obtain ⟨t', w', e2, e3, ad'⟩ := hq
      rcases putSet e2 with ⟨ek, _, _⟩ | ⟨hk, e4⟩
      · rw [ek] at ea1
        exact absurd ea1 (unal_no a path')
      · refine R'.ali a k path' q ea1 ⟨t', w', e4, e3, ?_⟩
        obtain ⟨o3, e5, v5, fp5, e6, h6, _⟩ := R'.slots k _ e4
        rw [e3] at e5
        cases e5
        cases e6
        refine ad'.keep h6.fp fun q' hq' => upd_ne fun z => ?_
        subst z
        exact oth q' (by simp) k hk ⟨_, _, e4, e3, w', fp5, rfl, h6.fp, hq'⟩
theorem ixN_lt {m : Nat} {k : Int} {n : Nat} (h : ixN m k = some n) : n < m := by
  unfold ixN at h
  split at h <;> (try split at h) <;> first
    | (cases h; done)
    | (have h := Option.some.inj h; omega)
def ixTM (fa fb : M RV) : M RV := fun ps => (fa ps).bind fun x => match x.1 with
  | .pa j path => (keepM fb x.2).bind fun y => match y.1, y.2.sl[j]? with
    | .int k, some (.tr t) => match t.get path with
      | some (.nd .li ts) => (ixN ts.length k).bind fun n => match ts[n]? with
        | some (.fr d) => some (.im d, y.2)
        | some (.nd _ _) => some (.pa j (path ++ [n]), y.2)
        | none => none
      | _ => none
    | _, _ => none
  | _ => opM ixD fa fb ps
theorem snd_ixT {K : Fg} {ta tb : TE} {fa fb : M RV} (ha : SndE K ta fa) (hb : SndE K tb fb) : SndE K (tOp (rIx K) ta tb) (ixTM fa fb) := by
  refine ⟨fun G F ps σ H out ps' Q R e q => ?_⟩
  unfold ixTM at e
  obtain ⟨⟨ra, ps1⟩, e1, e⟩ := Option.bind_eq_some_iff.mp e
  cases ra with
  | im d => exact (snd_op ixD_ok ha hb).go G F ps σ H out ps' Q R e q
  | nw d => exact (snd_op ixD_ok ha hb).go G F ps σ H out ps' Q R e q
  | nt d => exact (snd_op ixD_ok ha hb).go G F ps σ H out ps' Q R e q
  | sl d => exact (snd_op ixD_ok ha hb).go G F ps σ H out ps' Q R e q
  | pa j path =>
    obtain ⟨⟨dk, ps2⟩, e2, e⟩ := Option.bind_eq_some_iff.mp e
    simp only at e
    split at e
    · rename_i k t es
      split at e
      · rename_i ts eg
        obtain ⟨n, e3, e⟩ := Option.bind_eq_some_iff.mp e
        refine ha.go G F ps σ H (.pa j path) ps1 _ R e1 fun x F1 H1 P1 r1 => ?_
        refine keepM_go hb P1.rep e2 fun y F2 H2 P2 r2 => ?_
        obtain ⟨p, vs, fq, tat, h1, h2, h3, _, _, sn, _⟩ := P2.rep.node es eg
        have ex := (r1.post P2) p tat
        have go : ∀ w, vs[n]? = some w → Q w H2 → rIx K x y H2 Q := fun w ew qw => .inl ⟨p, vs, k, w, ex, rInt.mp r2, SqL.of h1, by
          unfold atI
          rw [h3.len, e3]
          exact ew, qw⟩
        split at e
        · rename_i d ed
          cases e
          obtain ⟨w, pre, f, post, ew, _, hw, _⟩ := h3.get ed
          unfold TrOk at hw
          exact go w ew (q w F2 H2 (P1.trans P2) hw.2)
        · rename_i sh us ed
          cases e
          obtain ⟨w, pre, f, post, ew, _, hw, _⟩ := h3.get ed
          unfold TrOk at hw
          obtain ⟨q0, _, _, ew0, _⟩ := hw
          refine go w ew (q w F2 H2 (P1.trans P2) fun q1 hq => ?_)
          subst ew0
          obtain ⟨t', v', z1, z2, z3⟩ := sn n _ _ q0 ed ew
          obtain ⟨t2, v2, z4, z5, z6⟩ := hq
          rw [z1] at z4
          cases z4
          rw [z2] at z5
          cases z5
          rw [z3.uniq z6]
        · cases e
      · cases e
    · cases e

/-! ### parts written -/
/-- o[i] = e -/
def stoTM (fo fi fe : M RV) : SM := fun ps => (trM fe ps).bind fun x => (fo x.2).bind fun o => match o.1 with
  | .pa j path => (keepM fi o.2).bind fun y => match y.1, y.2.sl[j]? with
    | .int k, some (.tr t) => match t.get path with
      | some (.nd .li ts) => (ixN ts.length k).bind fun n => some (.nx ((y.2.unal j).put j (.tr (t.set path (.nd .li (ts.set n x.1))))))
      | _ => none
    | _, _ => none
  | _ => none
theorem snd_stoT {K : Fg} {te to ti : TE} {fe fo fi : M RV} (he : SndE K te fe) (ho : SndE K to fo) (hi : SndE K ti fi) : SndS K (tAsg te (gSub to ti rSetL)) (stoTM fo fi fe) := by
  refine ⟨fun G F ps σ H o D R e q => ?_⟩
  unfold stoTM at e
  obtain ⟨⟨tv, ps1⟩, e1, e⟩ := Option.bind_eq_some_iff.mp e
  obtain ⟨⟨ro, ps2⟩, e2, e⟩ := Option.bind_eq_some_iff.mp e
  cases ro with
  | im d => cases e
  | nw d => cases e
  | nt d => cases e
  | sl d => cases e
  | pa j path =>
    obtain ⟨⟨dk, ps3⟩, e3, e⟩ := Option.bind_eq_some_iff.mp e
    simp only at e
    split at e
    · rename_i k t es
      split at e
      · rename_i ts eg
        obtain ⟨n, e4, e⟩ := Option.bind_eq_some_iff.mp e
        cases e
        refine trM_go he R e1 fun v F1 H1 fv P1 r1 => ?_
        refine ho.go G F1 ps1 σ H1 _ ps2 _ P1.rep e2 fun x F2 H2 P2 r2 => ?_
        refine keepM_go hi P2.rep e3 fun y F3 H3 P3 r3 => ?_
        obtain ⟨p, vs, fq, tat, h1, h2, h3, h4, h5, sn, wr⟩ := P3.rep.node es eg
        have ex := (r2.post P3) p tat
        have r1 := (r1.post P2).post P3
        have hn : n < ts.length := ixN_lt e4
        obtain ⟨w, pre, f, post, ew, rfl, hw, up⟩ := h3.get (List.getElem?_eq_getElem hn)
        have r1o := r1.1
        unfold TrsOk at r1o
        obtain ⟨v', ws', f', g', ev, efv, r1t, r1n⟩ := r1o
        cases ev
        unfold TrsOk at r1n
        obtain ⟨_, rfl⟩ := r1n
        rw [List.append_nil] at efv
        subst efv
        have hu := up F3 H3 tv v fv (Same.refl _) (fun q hq => ⟨rfl, by
          obtain ⟨_, _, _, z, _⟩ := h3.own q (by rcases List.mem_append.mp hq with z | z <;> simp [z])
          exact z⟩) r1t
        have R4 := wr .li _ _ _ hu (by
          rw [List.nodup_append, List.nodup_append] at h4 ⊢
          have nv : ∀ a ∈ fv, ∀ b, b ∈ pre ∨ b ∈ post → a ≠ b := fun a ha b hb z => by
            subst z
            exact (r1.2.2 a ha).1 ⟨j, h5 a (by rcases hb with z | z <;> simp [z])⟩
          refine ⟨⟨h4.1.1, r1.2.1, fun a ha b hb z => nv b hb a (.inl ha) z.symm⟩, h4.2.1, fun a ha b hb z => ?_⟩
          rcases List.mem_append.mp ha with y | y
          · exact h4.2.2 a (by simp [y]) b hb z
          · exact nv a y b (.inr hb) z) (fun q hq => by
          rcases List.mem_append.mp hq with y | y
          · rcases List.mem_append.mp y with y | y
            · exact .inl (by simp [y])
            · exact .inr (r1.2.2 q y).1
          · exact .inl (by simp [y])) trivial
        exact ⟨p, vs, k, n, ex, rInt.mp r3, h1, by rw [h3.len]; exact e4, q F3 σ _ R4 ((P1.same.trans P2.same).trans P3.same)⟩
      · cases e
    · cases e

/-- o.append(e) -/
def appTM (fo fe : M RV) : SM := fun ps => (fo ps).bind fun o => match o.1 with
  | .pa j path => (trM fe o.2).bind fun x => match x.2.sl[j]? with
    | some (.tr t) => match t.get path with
      | some (.nd .li ts) => if decide (ts.length < sizeLine) then some (.nx ((x.2.unal j).put j (.tr (t.set path (.nd .li (ts ++ [x.1])))))) else none
      | _ => none
    | _ => none
  | _ => none
/-- what a path names is a list -/
theorem pa_list {G : Ctl} {K : Fg} {F : Hp} {ps : PS} {σ : L2.St} {H : Hp} (R : Rep G K F ps σ H) {j : Nat} {path : List Nat} {t : Tr} {ts : List Tr} {v : V} {Hs : Hp} (r : RVok G K F ps σ Hs H (.pa j path) v) (e : ps.sl[j]? = some (.tr t)) (eg : t.get path = some (.nd .li ts)) : tyV K "list" v H := by
  obtain ⟨p, vs, fq, tat, h1, _⟩ := R.node e eg
  rw [r p tat]
  exact .inl ⟨rfl, vs, SqL.of h1⟩
def isLi (ps : PS) (j : Nat) (path : List Nat) : Bool := match ps.sl[j]? with
  | some (.tr t) => match t.get path with
    | some (.nd .li _) => true
    | _ => false
  | _ => false
theorem isLi_ok {ps : PS} {j : Nat} {path : List Nat} (h : isLi ps j path = true) : ∃ t ts, ps.sl[j]? = some (.tr t) ∧ t.get path = some (.nd .li ts) := by
  unfold isLi at h
  split at h
  · rename_i t e
    split at h
    · rename_i ts eg
      exact ⟨t, ts, e, eg⟩
    · cases h
  · cases h
def appTM' (fo fe : M RV) : SM := fun ps => (fo ps).bind fun o => match o.1 with
  | .pa j path => if isLi o.2 j path then appTM (fun _ => some o) fe o.2 else none
  | _ => none
theorem snd_appT {K : Fg} {te to : TE} {fe fo : M RV} (he : SndE K te fe) (ho : SndE K to fo) : SndS K (tDrop (tBM K "list" rAppend to (tCons te tNil))) (appTM' fo fe) := by
  refine ⟨fun G F ps σ H o D R e q => ?_⟩
  unfold appTM' at e
  obtain ⟨⟨ro, ps1⟩, e1, e⟩ := Option.bind_eq_some_iff.mp e
  cases ro with
  | im d => cases e
  | nw d => cases e
  | nt d => cases e
  | sl d => cases e
  | pa j path =>
    simp only at e
    split at e
    · rename_i hl
      obtain ⟨t0, ts0, es0, eg0⟩ := isLi_ok hl
      unfold appTM at e
      simp only [Option.bind_some] at e
      obtain ⟨⟨tv, ps2⟩, e2, e⟩ := Option.bind_eq_some_iff.mp e
      simp only at e
      split at e
      · rename_i t es
        split at e
        · rename_i ts eg
          split at e
          · rename_i hlen
            cases e
            refine ho.go G F ps σ H _ ps1 _ R e1 fun x F1 H1 P1 r1 => ?_
            refine ⟨pa_list P1.rep r1 es0 eg0, trM_go he P1.rep e2 fun v F2 H2 fv P2 r2 => ?_⟩
            obtain ⟨p, vs, fq, tat, h1, h2, h3, h4, h5, sn, wr⟩ := P2.rep.node es eg
            have ex := (r1.post P2) p tat
            have R4 := wr .li _ _ _ (h3.app r2.1) (List.nodup_append.mpr ⟨h4, r2.2.1, fun a ha b hb z => by
              subst z
              exact (r2.2.2 a hb).1 ⟨j, h5 a ha⟩⟩) (fun q hq => by
              rcases List.mem_append.mp hq with y | y
              · exact .inl y
              · exact .inr (r2.2.2 q y).1) trivial
            exact ⟨p, vs, v, ex, rfl, h1, by rw [h3.len]; exact of_decide_eq_true hlen, q F2 σ _ R4 (P1.same.trans P2.same)⟩
          · cases e
        · cases e
      · cases e
    · cases e
/-- o.pop(i), its value left -/
def popTM (fo fi : M RV) : SM := fun ps => (fo ps).bind fun o => match o.1 with
  | .pa j path => if isLi o.2 j path then (keepM fi o.2).bind fun x => match x.1, x.2.sl[j]? with
    | .int i, some (.tr t) => match t.get path with
      | some (.nd .li ts) => if b62 i then (seqIndex? i ts.length).bind fun k => if decide (k < ts.length) then some (.nx ((x.2.unal j).put j (.tr (t.set path (.nd .li (ts.eraseIdx k)))))) else none else none
      | _ => none
    | _, _ => none
    else none
  | _ => none
theorem TrsOk.erase {K : Fg} {F H H0 : Hp} {T : Addr} : ∀ {ts : List Tr} {vs : List V} {fp : List Addr} (k : Nat), TrsOk K F H H0 T ts vs fp → ∃ fq, TrsOk K F H H0 T (ts.eraseIdx k) (vs.eraseIdx k) fq ∧ fq.Sublist fp
  | [], vs, fp, k, h => by
    have h' := h
    unfold TrsOk at h
    rw [h.1, h.2]
    exact ⟨[], by simp; unfold TrsOk; exact ⟨rfl, rfl⟩, List.Sublist.refl _⟩
  | t :: ts, vs, fp, 0, h => by
    unfold TrsOk at h
    obtain ⟨v, ws, f, g, rfl, rfl, h1, h2⟩ := h
    exact ⟨g, h2, List.sublist_append_right f g⟩
  | t :: ts, vs, fp, k + 1, h => by
    unfold TrsOk at h
    obtain ⟨v, ws, f, g, rfl, rfl, h1, h2⟩ := h
    obtain ⟨fq, h3, h4⟩ := TrsOk.erase k h2
    refine ⟨f ++ fq, ?_, List.Sublist.append (List.Sublist.refl f) h4⟩
    show TrsOk K F H H0 T (t :: ts.eraseIdx k) _ _
    unfold TrsOk
    exact ⟨v, ws.eraseIdx k, f, fq, rfl, rfl, h1, h3⟩
theorem snd_popT {K : Fg} {ti to : TE} {fi fo : M RV} (hi : SndE K ti fi) (ho : SndE K to fo) : SndS K (tDrop (tBM K "list" rPopAt to (tCons ti tNil))) (popTM fo fi) := by
  refine ⟨fun G F ps σ H o D R e q => ?_⟩
  unfold popTM at e
  obtain ⟨⟨ro, ps1⟩, e1, e⟩ := Option.bind_eq_some_iff.mp e
  cases ro with
  | im d => cases e
  | nw d => cases e
  | nt d => cases e
  | sl d => cases e
  | pa j path =>
    simp only at e
    split at e
    · rename_i hl
      obtain ⟨t0, ts0, es0, eg0⟩ := isLi_ok hl
      obtain ⟨⟨di, ps2⟩, e2, e⟩ := Option.bind_eq_some_iff.mp e
      simp only at e
      split at e
      · rename_i i t es
        split at e
        · rename_i ts eg
          split at e
          · rename_i hb
            obtain ⟨k, e3, e⟩ := Option.bind_eq_some_iff.mp e
            split at e
            · rename_i hk
              have hk := of_decide_eq_true hk
              cases e
              refine ho.go G F ps σ H _ ps1 _ R e1 fun x F1 H1 P1 r1 => ?_
              refine ⟨pa_list P1.rep r1 es0 eg0, keepM_go hi P1.rep e2 fun v F2 H2 P2 r2 => ?_⟩
              obtain ⟨p, vs, fq, tat, h1, h2, h3, h4, h5, sn, wr⟩ := P2.rep.node es eg
              have ex := (r1.post P2) p tat
              obtain ⟨fq', h6, h7⟩ := h3.erase k
              have R4 := wr .li _ _ _ h6 (h7.nodup h4) (fun q hq => .inl (h7.subset hq)) trivial
              have hl2 : k < vs.length := by rw [h3.len]; exact hk
              exact ⟨p, vs, i, k, vs[k], ex, by rw [rInt.mp r2], h1, (b62_63 hb).1, (b62_63 hb).2, by rw [h3.len]; exact e3, List.getElem?_eq_getElem hl2, q F2 σ _ R4 (P1.same.trans P2.same)⟩
            · cases e
          · cases e
        · cases e
      · cases e
    · cases e
/-- x = part of y, another name -/
def setAlM (i : Nat) (fe : M RV) : SM := fun ps => (fe ps).bind fun x => match x.1 with
  | .pa j path => if i = j then none else some (.nx (x.2.put i (.al j path)))
  | _ => none
theorem snd_setAl {K : Fg} {i : Nat} {te : TE} {fe : M RV} (h : SndE K te fe) : SndS K (tAsg te (gName i)) (setAlM i fe) := by
  refine ⟨fun G F ps σ H o D R e q => ?_⟩
  unfold setAlM at e
  obtain ⟨⟨r, ps1⟩, e1, e⟩ := Option.bind_eq_some_iff.mp e
  cases r with
  | im d => cases e
  | nw d => cases e
  | nt d => cases e
  | sl d => cases e
  | pa j path =>
    simp only at e
    split at e
    · cases e
    · rename_i hij
      cases e
      refine h.go G F ps σ H _ ps1 _ R e1 fun v F1 H1 P1 r1 => ?_
      exact q F1 _ H1 (P1.rep.setAl r1 hij) P1.same
section
variable {X : Cx} {e : Expr} {te : TE} {fe : M RV} {pos : Pos}
theorem k_ixT {K : Fg} {a b : Expr} {ta tb : TE} {fa fb : M RV} (hK : X.K = K) (ha : DE X a ta fa) (hb : DE X b tb fb) (hs : PlainIx b) : DE X (.Subscript a b pos) (tOp (rIx K) ta tb) (ixTM fa fb) := by
  subst hK
  exact ⟨pe_ix ix_seq ha.pe hb.pe hs, snd_ixT ha.sn hb.sn⟩
theorem ds_setAl {i : Nat} {x : Str} {pos' : Pos} (hN : X.N.Nodup) (hi : X.N[i]? = some x) (hx : Loc X.env.scope x) (he : DE X e te fe) (hs : swapsWith e (some (.Name x pos')) pos.line X.env = pure false := by rfl) (hf : X.fn x = true ∨ X.env.scope.names.lookup x = some .local := by first | exact .inl rfl | exact .inr rfl | assumption) :
    DS X (.Assign [.Name x pos'] e pos) (tAsg te (gName i)) (setAlM i fe) := ⟨ps_set hN hi hx he.pe hs hf, snd_setAl he.sn⟩
theorem ds_stoT {o i : Expr} {to ti : TE} {fo fi : M RV} {spos : Pos} (he : DE X e te fe) (ho : DE X o to fo) (hi : DE X i ti fi)
    (ha : ∀ v, assign (.Subscript o i spos) X.env v = (do
      let ov ← holding [v] (eval o X.env)
      let iv ← holding [v, ov] (eval i X.env)
      standAt spos
      holding [v, ov, iv] (setItem ov iv v)
      release [v, ov, iv] []) := by intro _; rfl)
    (hs : swapsWithSole [.Subscript o i spos] e pos.line X.env = pure false := by rfl) (hw : swappedStores [.Subscript o i spos] e X.env = pure none := by rfl)
    (h1 : (assignEach [.Subscript o i spos] X.env).map (·.2) = [assign (.Subscript o i spos) X.env] := by rfl) : DS X (.Assign [.Subscript o i spos] e pos) (tAsg te (gSub to ti rSetL)) (stoTM fo fi fe) :=
  ⟨ps_asg he.pe (pg_sub ho.pe hi.pe set_list ha) hs hw h1, snd_stoT he.sn ho.sn hi.sn⟩
theorem ds_appT {K : Fg} {o : Expr} {to : TE} {fo : M RV} {apos cpos : Pos} (hK : X.K = K) (ho : DE X o to fo) (he : DE X e te fe)
    (hbase : attributeBase o "append" X.env (eval o X.env) = eval o X.env := by rfl)
    (hfew : ((backTo cpos (starEach (e :: []) X.env)).all (fun z => !z.1) && (backToKw cpos (keywordEach [] X.env)).all (fun z => z.1.isSome) && decide ((e :: []).length + ([] : List Keyword).length + (if ([] : List Keyword).isEmpty then 0 else 1) < 30)) = true := by rfl)
    (hline : (apos.endLine == cpos.line) = true := by rfl) (h1 : starEach [e] X.env = (false, eval e X.env) :: starEach [] X.env := by rfl) (hplain : (backTo cpos (starEach [] X.env)).any (·.1) = false := by rfl)
    (hs : swapsWith (.Call (.Attribute o "append" apos) [e] [] cpos) none pos.line X.env = pure false := by rfl) :
    DS X (.Expr (.Call (.Attribute o "append" apos) [e] [] cpos) pos) (tDrop (tBM K "list" rAppend to (tCons te tNil))) (appTM' fo fe) := by
  subst hK
  exact ⟨ps_expr (pe_bm PySem.F.plainAttrs_list PySem.F.slot_list_append PySem.F.type_list_append mt_append ho.pe (pa_cons he.pe pa_nil h1) hbase hfew hline h1 hplain) hs, snd_appT he.sn ho.sn⟩
theorem ds_popT {K : Fg} {o : Expr} {to : TE} {fo : M RV} {apos cpos : Pos} (hK : X.K = K) (ho : DE X o to fo) (he : DE X e te fe)
    (hbase : attributeBase o "pop" X.env (eval o X.env) = eval o X.env := by rfl)
    (hfew : ((backTo cpos (starEach (e :: []) X.env)).all (fun z => !z.1) && (backToKw cpos (keywordEach [] X.env)).all (fun z => z.1.isSome) && decide ((e :: []).length + ([] : List Keyword).length + (if ([] : List Keyword).isEmpty then 0 else 1) < 30)) = true := by rfl)
    (hline : (apos.endLine == cpos.line) = true := by rfl) (h1 : starEach [e] X.env = (false, eval e X.env) :: starEach [] X.env := by rfl) (hplain : (backTo cpos (starEach [] X.env)).any (·.1) = false := by rfl)
    (hs : swapsWith (.Call (.Attribute o "pop" apos) [e] [] cpos) none pos.line X.env = pure false := by rfl) :
    DS X (.Expr (.Call (.Attribute o "pop" apos) [e] [] cpos) pos) (tDrop (tBM K "list" rPopAt to (tCons te tNil))) (popTM fo fe) := by
  subst hK
  exact ⟨ps_expr (pe_bm PySem.F.plainAttrs_list PySem.F.slot_list_pop PySem.F.type_list_pop mt_popAt ho.pe (pa_cons he.pe pa_nil h1) hbase hfew hline h1 hplain) hs, snd_popT he.sn ho.sn⟩
end

/-! len and truth of a list that holds own lists -/
def liLen (ps : PS) (r : RV) : Option Nat := match r with
  | .pa j path => match ps.sl[j]? with
    | some (.tr t) => match t.get path with
      | some (.nd .li ts) => some ts.length
      | _ => none
    | _ => none
  | _ => none
theorem liLen_ok {G : Ctl} {K : Fg} {F : Hp} {ps : PS} {σ : L2.St} {H Hs : Hp} (R : Rep G K F ps σ H) {r : RV} {v : V} {n : Nat} (h : RVok G K F ps σ Hs H r v) (e : liLen ps r = some n) : ∃ p vs, v = .ref p ∧ H p = some (.lst vs) ∧ vs.length = n := by
  cases r with
  | im d => cases e
  | nw d => cases e
  | nt d => cases e
  | sl d => cases e
  | pa j path =>
    unfold liLen at e
    simp only at e
    split at e
    · rename_i t es
      split at e
      · rename_i ts eg
        cases e
        obtain ⟨p, vs, fq, tat, h1, h2, h3, _⟩ := R.node es eg
        exact ⟨p, vs, h p tat, h1, h3.len⟩
      · cases e
    · cases e
def lenTM (f : M RV) : M RV := fun ps => (f ps).bind fun x => match liLen x.2 x.1 with
  | some n => some (.im (.int n), x.2)
  | none => unM lenD f ps
def truTM (f : M RV) : M Bool := fun ps => (f ps).bind fun x => match liLen x.2 x.1 with
  | some n => some (n != 0, x.2)
  | none => truM f ps
section
variable {X : Cx} {K : Fg} {a : Expr} {ta : TE} {fa : M RV} {p pos : Pos}
theorem k_lenT (hK : X.K = K) (hgl : Gl X "len") (hm : X.mg "len" = none) (ha : DE X a ta fa)
    (he : starEach [a] X.env = (false, eval a X.env) :: starEach [] X.env := by rfl) (hp : (backTo pos (starEach [] X.env)).any (·.1) = false := by rfl) :
    DE X (.Call (.Name "len" p) [a] [] pos) (tCB (fun xs H Q => ∃ p ys, xs = [.ref p] ∧ (SqL K H p ys ∨ SqT K H p ys) ∧ Q (.int ys.length) H) (t1 ta)) (lenTM fa) := by
  have d := k_callB1 (p := p) (pos := pos) hK (kc_len hK) lenD_ok hgl hm PySem.boot_len ha (he := he) (hp := hp)
  refine ⟨d.pe, ⟨fun G F ps σ H r ps' Q R e q => ?_⟩⟩
  unfold lenTM at e
  obtain ⟨⟨r1, ps1⟩, e1, e⟩ := Option.bind_eq_some_iff.mp e
  simp only at e
  split at e
  · rename_i n en
    cases e
    refine ha.sn.go G F ps σ H r1 _ _ R e1 fun x F1 H1 P1 h1 => ?_
    obtain ⟨p, vs, ev, h2, h3⟩ := liLen_ok P1.rep h1 en
    refine ⟨p, vs, by rw [ev], .inl (SqL.of h2), ?_⟩
    rw [h3]
    exact q _ F1 H1 P1 (show Rel _ _ _ _ _ by unfold Rel; rfl)
  · exact d.sn.go G F ps σ H r ps' Q R e q
theorem k_truthT (hK : X.K = K) (h : DE X a ta fa) (he : ∀ whole, isTrue a X.env whole = (do let v ← whole; standAt a.pos; holding [v] (truthy v))) :
    DT X a (fun σ H Q => ta σ H fun x H' => ∃ k, TruV K x H' k ∧ Q k H') (truTM fa) := by
  have d := k_truth hK h he
  refine ⟨d.pe, ⟨fun G F ps σ H b ps' Q R e q => ?_⟩⟩
  subst hK
  unfold truTM at e
  obtain ⟨⟨r1, ps1⟩, e1, e⟩ := Option.bind_eq_some_iff.mp e
  simp only at e
  split at e
  · rename_i n en
    cases e
    refine h.sn.go G F ps σ H r1 _ _ R e1 fun x F1 H1 P1 h1 => ?_
    obtain ⟨p, vs, ev, h2, h3⟩ := liLen_ok P1.rep h1 en
    refine ⟨n != 0, ?_, q F1 H1 P1⟩
    rw [ev]
    refine .inl ⟨vs, SqL.of h2, ?_⟩
    rw [← h3]
    cases vs <;> rfl
  · exact d.sn.go G F ps σ H b ps' Q R e q
end
end MP

/-! comprehensions that make own lists -/
namespace MP
open PySem PySem.Spec PyProof.Rows L2
variable [Tbs] [Wx]
def lcTL (vs : List Nat) (tgt : Dat → PS → Option PS) (tst : M Bool) (elt : M RV) : List Dat → List Tr → PS → Option (List Tr × PS)
  | [], acc, ps => some (acc, ps)
  | d :: ds, acc, ps => (tgt d ps).bind fun ps1 => (tst ps1).bind fun x => if x.1 then
      (trM elt x.2).bind fun y => if decide (acc.length < sizeLine) then lcTL vs tgt tst elt ds (acc ++ [y.1]) (wipeP vs y.2) else none
    else lcTL vs tgt tst elt ds acc (wipeP vs x.2)
def lcTM (vs : List Nat) (fi : M (List Dat)) (tgt : Dat → PS → Option PS) (tst : M Bool) (elt : M RV) : M RV := fun ps =>
  (fi ps).bind fun x => (lcTL vs tgt tst elt x.1 [] (wipeP vs x.2)).bind fun y => some (.nt (.nd .li y.1), restP vs x.2 y.2)
theorem lc_genT {K : Fg} {wi : TI} {gt : TG} {tt : TT} {te : TE} {vs is : List Nat} {tgt : Dat → PS → Option PS} {tst : M Bool} {elt : M RV} (hg : SndG K gt is tgt) (hv : ∀ j ∈ is, j ∈ vs) (ht : SndT K tt tst) (he : SndE K te elt)
    {G : Ctl} {F H : Hp} {ps ps1 psE : PS} {σ : L2.St} {ds : List Dat} {out : List Tr} {Q : VK} {C : Hp → Hp → Prop} (R : Rep G K F ps σ H) (hi : ∀ Rr : It → Hp → Prop, (∀ J F' H', C F' H' → Post G K F ps σ H F' ps1 H' → WlkO G K J ds F' ps1 σ H' → Rr J H') → wi σ H Rr)
    (e2 : lcTL vs tgt tst elt ds [] (wipeP vs ps1) = some (out, psE))
    (q : ∀ v F1 H1 F' H', C F1 H1 → Post G K F ps σ H F1 ps1 H1 → Post G K F ps σ H F' (restP vs ps1 psE) H' → (∀ p ws, Loose G F1 ps1 σ H1 p ws → Loose G F' (restP vs ps1 psE) σ H' p ws) → RVok G K F' (restP vs ps1 psE) σ H H' (.nt (.nd .li out)) v → Q v H') :
    tLc wi gt tt te vs σ H Q := by
  refine hi _ fun J F1 H1 cc P1 wk D hD => ?_
  have R1 := P1.rep
  have hs1 := same_upd (o := .lst []) hD
  have F1D : F1 D = none := R1.fn hD
  have G0D : G.H0 D = none := R1.h0 hD
  refine ⟨fun i m H2 => ∃ F2 ps2 acc accV fp, m = ds.length - i ∧ i ≤ ds.length ∧ Rep G K F2 ps2 (wipe σ vs) H2 ∧ Same F1 F2 ∧ Loose G F2 ps2 (wipe σ vs) H2 D (.lst accV) ∧ TsV G K F2 ps2 (wipe σ vs) H1 H2 acc accV fp ∧ D ∉ fp ∧
      lcTL vs tgt tst elt (ds.drop i) acc ps2 = some (out, psE) ∧ (∀ p ws, Loose G F1 ps1 σ H1 p ws → Loose G F2 ps2 (wipe σ vs) H2 p ws) ∧ (∀ a, H2 a = none → H1 a = none) ∧ (∀ i path q, TAt ps2 (wipe σ vs) H2 i path q → TAt ps1 σ H1 i path q), ?_, ?_⟩
  · have R2 := (R1.newL (vs := []) hD).rep.wipe (vs := vs)
    refine ⟨ds.length, F1, wipeP vs ps1, [], [], [], by simp, Nat.zero_le _, R2, Same.refl _, ⟨upd_same, F1D, G0D, fun o => R1.ownN hD ((R1.ownI (R1.keepO hs1)).mp (own_wipe o)), trivial⟩, .nil, (by simp), e2, fun p ws l => ⟨hs1 _ _ l.a, l.b, l.c, fun o => l.d ((R1.ownI (R1.keepO hs1)).mp (own_wipe o)), l.m⟩, fun a h => hs1.free h, fun i path q h => R1.tAt (R1.keepO hs1) (tat_wipe h)⟩
  · rintro i m H2 ⟨F2, ps2, acc, accV, fpA, rfl, hi', R2, s2, lD, rl, nD, e3, fk, dm, al⟩
    by_cases hlt : i < ds.length
    · obtain ⟨go, step⟩ := wk.1 i ds[i] (List.getElem?_eq_getElem hlt) F2 ps2 (wipe σ vs) H2 R2 s2 fk
      rw [List.drop_eq_getElem_cons hlt] at e3
      unfold lcTL at e3
      obtain ⟨ps3, e4, e3⟩ := Option.bind_eq_some_iff.mp e3
      obtain ⟨⟨b, ps4⟩, e5, e3⟩ := Option.bind_eq_some_iff.mp e3
      have e3 : (if b = true then _ else _) = some (out, psE) := e3
      refine .inr ⟨go, fun H' => ∃ F2 ps2 acc accV fp, Rep G K F2 ps2 (wipe σ vs) H' ∧ Same F1 F2 ∧ Loose G F2 ps2 (wipe σ vs) H' D (.lst accV) ∧ TsV G K F2 ps2 (wipe σ vs) H1 H' acc accV fp ∧ D ∉ fp ∧
        lcTL vs tgt tst elt (ds.drop (i + 1)) acc ps2 = some (out, psE) ∧ (∀ p ws, Loose G F1 ps1 σ H1 p ws → Loose G F2 ps2 (wipe σ vs) H' p ws) ∧ (∀ a, H' a = none → H1 a = none) ∧ (∀ i path q, TAt ps2 (wipe σ vs) H' i path q → TAt ps1 σ H1 i path q), ?_, fun x H3 y => ?_⟩
      · rintro H' ⟨F', ps', acc', accV', fp', a1, a2, a3, a4, a9, a5, a6, a7, a8⟩
        exact ⟨ds.length - (i + 1), by omega, F', ps', acc', accV', fp', rfl, hlt, a1, a2, a3, a4, a9, a5, a6, a7, a8⟩
      · obtain ⟨F3, P3, rx⟩ := step x H3 y
        refine hg.go G F3 ps2 (wipe σ vs) H3 _ x ps3 _ P3.rep rx e4 fun σ4 R4 k4 l4 o4 => ?_
        have hw : wipe σ4 vs = wipe σ vs := by
          have h1 : wipe σ4 vs = wipe (wipe σ vs) vs := wipe_eq l4 fun j hj => k4 j fun z => hj (hv j z)
          rw [h1]
          refine wipe_eq (wipe_length σ vs) fun j hj => ?_
          rw [wipe_get, if_neg (fun z => hj z.1)]
        refine ⟨hw, ?_⟩
        have loose4 : ∀ {p ws}, Loose G F3 ps2 (wipe σ vs) H3 p ws → Loose G F3 ps3 σ4 H3 p ws := fun l => ⟨l.a, l.b, l.c, fun o => l.d (o4.own _ o), l.m⟩
        refine ht.go G F3 ps3 σ4 H3 b ps4 _ R4 e5 fun F5 H5 P5 => ?_
        have neD : ∀ {p ws}, Loose G F1 ps1 σ H1 p ws → p ≠ D := fun l z => by
          subst z
          have := l.a
          rw [hD] at this
          cases this
        cases b with
        | true =>
          rw [if_pos rfl] at e3
          obtain ⟨⟨d, ps5⟩, e6, e3⟩ := Option.bind_eq_some_iff.mp e3
          have e3 : (if decide (acc.length < sizeLine) = true then _ else _) = some (out, psE) := e3
          split at e3
          · rename_i hl
            refine iteT (trM_go he P5.rep e6 fun v F6 H6 fv P6 r6 => ?_)
            have lD6 := ((loose4 (lD.post P3)).post P5).post P6
            have s6 : Same F2 F6 := (P3.same.trans P5.same).trans P6.same
            have rl6 := (((rl.post P3).ole (σ' := σ4) (ps' := ps3) o4.own).post P5).post P6
            have dis : ∀ p ∈ fpA, p ∉ fv := fun p hp hv => by
              obtain ⟨u, z, _⟩ := (((rl.post P3).ole (σ' := σ4) (ps' := ps3) o4.own).post P5).own hp
              rw [(r6.2.2 p hv).2] at z
              cases z
            have nv : D ∉ fv := fun hv => by
              have z := ((loose4 (lD.post P3)).post P5).a
              rw [(r6.2.2 D hv).2] at z
              cases z
            refine ⟨accV, lD6.a, by rw [rl.1.len]; exact of_decide_eq_true hl, F6, wipeP vs ps5, acc ++ [d], accV ++ [v], fpA ++ fv, ?_, s2.trans s6, ⟨upd_same, lD6.b, lD6.c, fun o => ?_, trivial⟩, ?_, fun z => (List.mem_append.mp z).elim nD nv, e3, fun p ws l => ?_, fun a h => ?_, fun i' path q' h => ?_⟩
            · rw [← hw]
              exact (P6.rep.wrFree (u' := .lst (accV ++ [v])) lD6.a lD6.b lD6.c lD6.d).1.wipe
            · rw [← hw] at o
              exact lD6.d (((P6.rep.wrFree lD6.a lD6.b lD6.c lD6.d).2 _).mp (own_wipe o))
            · have dm5 : ∀ a, H5 a = none → H1 a = none := fun a h => dm a (P3.dom a (P5.dom a h))
              have all := rl6.app (r6.back dm5) dis
              refine ⟨all.1.keep (Same.refl _) fun p hp => ⟨upd_ne fun z => ?_, ?_⟩, all.2.1, fun p hp => ⟨fun o => ?_, (all.2.2 p hp).2⟩⟩
              · subst z
                exact (List.mem_append.mp hp).elim nD nv
              · obtain ⟨_, _, _, z, _⟩ := all.own hp
                exact z
              · rw [← hw] at o
                exact (all.2.2 p hp).1 (((P6.rep.wrFree lD6.a lD6.b lD6.c lD6.d).2 _).mp (own_wipe o))
            · have l6 := ((loose4 ((fk p ws l).post P3)).post P5).post P6
              refine ⟨by rw [upd_ne (neD l)]; exact l6.a, l6.b, l6.c, fun o => ?_, l.m⟩
              rw [← hw] at o
              exact l6.d (((P6.rep.wrFree lD6.a lD6.b lD6.c lD6.d).2 _).mp (own_wipe o))
            · by_cases ha : a = D
              · subst ha
                rw [upd_same] at h
                cases h
              · rw [upd_ne ha] at h
                exact dm a (P3.dom a (P5.dom a (P6.dom a h)))
            · rw [← hw] at h
              have h := P6.rep.tAt (fun q o => by
                rw [upd_ne]
                rintro rfl
                exact lD6.d o) (tat_wipe h)
              exact al _ _ _ (P3.al _ _ _ (o4.al _ _ _ (P5.al _ _ _ (P6.al _ _ _ h))))
          · cases e3
        | false =>
          rw [if_neg Bool.false_ne_true] at e3
          have lD5 := (loose4 (lD.post P3)).post P5
          have s5 : Same F2 F5 := P3.same.trans P5.same
          refine iteF ⟨F5, wipeP vs ps4, acc, accV, fpA, ?_, s2.trans s5, ⟨lD5.a, lD5.b, lD5.c, fun o => ?_, trivial⟩, (by
            have rl5 := ((rl.post P3).ole (σ' := σ4) (ps' := ps3) o4.own).post P5
            rw [← hw]
            exact rl5.ole fun p o => own_wipe o), nD, e3, fun p ws l => ?_, fun a h => dm a (P3.dom a (P5.dom a h)), fun i' path q' h => by
            rw [← hw] at h
            exact al _ _ _ (P3.al _ _ _ (o4.al _ _ _ (P5.al _ _ _ (tat_wipe h))))⟩
          · rw [← hw]
            exact P5.rep.wipe
          · rw [← hw] at o
            exact lD5.d (own_wipe o)
          · have l5 := (loose4 ((fk p ws l).post P3)).post P5
            refine ⟨l5.a, l5.b, l5.c, fun o => ?_, l.m⟩
            rw [← hw] at o
            exact l5.d (own_wipe o)
    · have ei : i = ds.length := by omega
      subst ei
      rw [List.drop_length] at e3
      cases e3
      refine .inl ⟨wk.2 F2 psE (wipe σ vs) H2 R2 s2 fk, ?_⟩
      obtain ⟨RE, ownB⟩ := rest_rep R1 R2 s2
      refine q (.ref D) F1 H1 F2 H2 cc P1 ⟨RE, P1.same.trans s2, fun p u hm h1 h2 h3 h4 => ?_, fun a h => P1.dom a (dm a h), fun i path q h => P1.al _ _ _ (al _ _ _ (ownB.al _ _ _ h))⟩ (fun p ws l => ⟨(fk p ws l).a, (fk p ws l).b, (fk p ws l).c, fun o => (fk p ws l).d (ownB.own _ o), l.m⟩) ⟨D :: fpA, (by unfold TrOk; exact ⟨D, accV, fpA, rfl, rfl, lD.a, lD.b, lD.c, trivial, rl.1⟩), List.nodup_cons.mpr ⟨nD, rl.2.1⟩, fun p hp => by
        rcases List.mem_cons.mp hp with z | z
        · rw [z]
          exact ⟨fun o => lD.d (ownB.own _ o), P1.dom D hD⟩
        · exact ⟨fun o => (rl.2.2 p z).1 (ownB.own _ o), P1.dom p (rl.2.2 p z).2⟩⟩
      have l1 : Loose G F1 ps1 σ H1 p u := (Loose.mk h1 h2 h3 h4 hm : Loose G F ps σ H p u).post P1
      have l2 := fk p u l1
      exact ⟨l2.a, l2.b, fun o => l2.d (ownB.own _ o)⟩
theorem snd_lcT {K : Fg} {wi : TI} {gt : TG} {tt : TT} {te : TE} {vs is : List Nat} {fi : M (List Dat)} {tgt : Dat → PS → Option PS} {tst : M Bool} {elt : M RV} (hi : SndI K wi fi) (hg : SndG K gt is tgt) (hv : ∀ j ∈ is, j ∈ vs) (ht : SndT K tt tst) (he : SndE K te elt) :
    SndE K (tLc wi gt tt te vs) (lcTM vs fi tgt tst elt) := by
  refine ⟨fun G F ps σ H r ps' Q R e q => ?_⟩
  unfold lcTM at e
  obtain ⟨⟨ds, ps1⟩, e1, e⟩ := Option.bind_eq_some_iff.mp e
  obtain ⟨⟨out, psE⟩, e2, e⟩ := Option.bind_eq_some_iff.mp e
  have e2 : lcTL vs tgt tst elt ds [] (wipeP vs ps1) = some (out, psE) := e2
  cases e
  exact lc_genT hg hv ht he (C := fun _ _ => True) R (fun Rr k => hi.go G F ps σ H ds ps1 _ R e1 fun J F' H' P wk => k J F' H' trivial P wk.toO) e2 fun v _ _ F' H' _ _ P _ r => q v F' H' P r
section
variable {X : Cx} {pos spos py : Pos} {elt tg iter : Expr} {ifs : List Expr} {scope : Scope} {own : List (Str × Nat)} {wi : TI} {g : TG} {tt : TT} {te : TE} {is : List Nat} {fi : M (List Dat)} {ft : Dat → PS → Option PS} {ftt : M Bool} {fe : M RV}
/-- somewhere there is a block -/
theorem de_lcT (hc : X.calm = true) (hN : X.N.Nodup) (hi : DI X tg iter wi fi) (ok : BlkOk X.N X.env.scope scope own)
    (hg : ∀ (s : Shared) (H : Hp) (C : Addr) (cl : List (Str × Addr)) (fp : List Addr), DG (X.blk s H scope (compEnvC scope cl C X.env) fp) tg g is ft) (hv : ∀ j ∈ is, j ∈ own.map (·.2)) (ht : ∀ (s : Shared) (H : Hp) (C : Addr) (cl : List (Str × Addr)) (fp : List Addr), DTs (X.blk s H scope (compEnvC scope cl C X.env) fp) ifs tt ftt)
    (he : ∀ (s : Shared) (H : Hp) (C : Addr) (cl : List (Str × Addr)) (fp : List Addr), DE (X.blk s H scope (compEnvC scope cl C X.env) fp) elt te fe) (hs : ∀ x, foldedSetIterable iter X.env x = pure x := by intro _; rfl) :
    DE X (.ListComp elt [⟨tg, iter, ifs, 0⟩] scope pos) (tLc wi g tt te (own.map (·.2))) (lcTM (own.map (·.2)) fi ft ftt fe) :=
  ⟨pe_lc hc hN hi.pe ok (fun s H C cl fp => (hg s H C cl fp).pe) (fun s H C cl fp => (ht s H C cl fp).pe) (fun s H C cl fp => (he s H C cl fp).pe) hs,
    snd_lcT hi.sn (hg ⟨X.s_0.heap, X.s_0.gens, X.s_0.drawn, X.s_0.toks, X.s_0.os⟩ X.H_0 0 [] []).sn hv (ht X.s_0 X.H_0 0 [] []).sn (he X.s_0 X.H_0 0 [] []).sn⟩
theorem ds_lcT {i : Nat} {y : Str} (hc : X.calm = true) (hN : X.N.Nodup) (hy : X.N[i]? = some y) (hyl : X.env.scope.names.lookup y = some .local)
    (hsw : swapsWith (.ListComp elt [⟨tg, iter, ifs, 0⟩] scope pos) (some (.Name y py)) spos.line X.env = pure true) (hi : DI X tg iter wi fi) (ok : BlkOk X.N X.env.scope scope own)
    (hg : ∀ (s : Shared) (H : Hp) (C : Addr) (cl : List (Str × Addr)) (fp : List Addr), DG (X.blk s H scope (compEnvC scope cl C X.env) fp) tg g is ft) (hv : ∀ j ∈ is, j ∈ own.map (·.2)) (ht : ∀ (s : Shared) (H : Hp) (C : Addr) (cl : List (Str × Addr)) (fp : List Addr), DTs (X.blk s H scope (compEnvC scope cl C X.env) fp) ifs tt ftt)
    (he : ∀ (s : Shared) (H : Hp) (C : Addr) (cl : List (Str × Addr)) (fp : List Addr), DE (X.blk s H scope (compEnvC scope cl C X.env) fp) elt te fe) (hs : ∀ x, foldedSetIterable iter X.env x = pure x := by intro _; rfl) :
    DS X (.Assign [.Name y py] (.ListComp elt [⟨tg, iter, ifs, 0⟩] scope pos) spos) (tAsg (tLc wi g tt te (own.map (·.2))) (gName i)) (setM i (lcTM (own.map (·.2)) fi ft ftt fe)) :=
  ⟨ps_setLc hc hN hy hyl hsw hi.pe ok (fun s H C cl fp => (hg s H C cl fp).pe) (fun s H C cl fp => (ht s H C cl fp).pe) (fun s H C cl fp => (he s H C cl fp).pe) hs,
    snd_set (snd_lcT hi.sn (hg X.s_0 X.H_0 0 [] []).sn hv (ht X.s_0 X.H_0 0 [] []).sn (he X.s_0 X.H_0 0 [] []).sn)⟩
end
end MP

/-! sorted(set(..)), len(set(..)) of ints, tuple(reversed(tuple)) -/
namespace MPV
open PySem PySem.Spec PyProof.Rows L2
section
variable {P : Program} {w : World} {A : Around} {E : Value → Shared → Prop} {s : Shared}
set_option maxHeartbeats 3200000 in
/-- set(list of ints) with its table -/
theorem set_lstI {l : Addr} {items : Array Value} (ns : List Int) {Q : Value → Shared → Prop} (hh : A.handled = none) (hl : s.heap.IsList l items) (hit : IntsAre items.toList ns) (hb : ns.length + 1 < scanBound)
    (h : ∀ (h' : Heap) (tk c : Nat), SetR w h' s.heap.objs.size (fun j => decide (j ∈ ns)) c → (∀ b o, s.heap.get? b = some o → h'.get? b = some o) → Q (.ref s.heap.objs.size) { s with heap := h', toks := tk }) :
    wpAny (model P w) A (call (.type "set") [.ref l]) Q E s := by
  have hisz : items.size = ns.length := by
    have q := IntsAre.length hit
    rw [Array.length_toList] at q
    exact q
  let o0 : Obj := { cls := .type "set", dict := none, data := .set #[] 0 (.fresh 0 0 (!w.params.followText "set-order")) }
  obtain ⟨c, tl, hmro⟩ := F.called_set.mro
  have hmade := F.called_set.made
  have hsub := F.called_set.sub
  refine wpAny_call (codeAny_of_tree ?_)
  show wpAny _ _ (callAny (.type "set") _) _ _ _
  refine wpAny_pure ⟨Code.quiet_builtin _ (by decide +kernel), codeAny_builtin F.entry_type_call ?_⟩
  rw [Around.under_plain (weight_type_call_type "set" [.ref l] []) rfl]
  have h1 := F.called_set.notType
  have h2 := F.called_set.canCreate
  have hct := F.typeCall_set_1 (.ref l)
  repeat (any_goals (first | assumption | wp_step))
  refine codeAny_mono (code_set_led1 (.ref l) (E := E) (Q₁ := fun obj s₁ => obj = .ref s.heap.objs.size ∧ s₁ = { s with heap := s.heap.push o0 }) ⟨rfl, rfl⟩) fun r s₁ hr => ?_
  cases r with
  | error e => exact hr
  | ok fl =>
    cases fl with
    | ret obj =>
      obtain ⟨rfl, rfl⟩ := hr
      have hS : (s.heap.push o0).get? s.heap.objs.size = some o0 := Heap.get?_push_size _ rfl
      have hT : Shared.TypeIs { s with heap := s.heap.push o0 } (.ref s.heap.objs.size) "set" := ⟨_, hS, rfl⟩
      have hli := F.called_set.init.lookup
      have hbi := F.called_set.init.bind (.ref s.heap.objs.size)
      repeat (any_goals (first | assumption | wp_step))
      refine codeAny_mono (codeAny_call_builtin (R := wants (fun r s₂ => r = .none ∧ ∃ h' tk c, s₂ = { s with heap := h', toks := tk } ∧ SetR w h' s.heap.objs.size (fun j => decide (j ∈ ns)) c ∧
          (∀ b o, s.heap.get? b = some o → h'.get? b = some o)) E) F.called_set.init.plain F.entry_set_init (check_set_init_1 hT ?_)) fun r₂ s₂ hr₂ => ?_
      · obtain ⟨ol, hol, hcl, nl, hdl⟩ := hl
        obtain ⟨ocls, odict, odata, oslots⟩ := ol
        simp only at hcl hdl
        subst hcl; subst hdl
        have hol' : (s.heap.push o0).get? l = some { cls := .type "list", dict := odict, data := .seq items nl, slots := oslots } := Heap.get?_push_of_some _ hol
        have hsls := F.sub_list_set
        have hslf := F.sub_list_frozenset
        have hne : (Value.type "list" == Value.type "dict") = false := by decide
        have hl1 : (s.heap.push o0).IsList l items := ⟨_, hol', rfl, nl, rfl⟩
        unfold Builtin.«set.__init__» noKeywords Builtin.Frozenset.updateFrom
        generalize hPI : pyIter = PI
        wp_walk
        subst hPI
        refine wpAny_pyIter_list hl1 ?_
        refine wpAny_bind (wpAny_runValue ?_)
        have hlS : l < s.heap.objs.size := Heap.lt_size hol
        have hh3 : A.in1.in1.in1.handled = none := by simp [hh]
        have hneI : l ≠ (s.heap.push o0).objs.size := by
          rw [Heap.size_push]; exact Nat.ne_of_lt (Nat.lt_succ_of_lt hlS)
        have hSf : s.heap.objs.size ∉ [(s.heap.push o0).objs.size, l] := by
          rw [Heap.size_push]; simp only [List.mem_cons, List.mem_singleton, List.not_mem_nil, or_false, not_or]
          exact ⟨Nat.ne_of_lt (Nat.lt_succ_self _), Nat.ne_of_gt hlS⟩
        have hval : ∀ (i : Nat) (v : Value), items[i]? = some v → ∃ k t, ns[i]? = some k ∧ v = .int k t := fun i v hv => by
          have hi : i < ns.length := by rw [← hisz]; exact (Array.getElem?_eq_some_iff.mp hv).1
          obtain ⟨t, e⟩ := PyProof.Rows.IntsAre.int_at hit i v (by rw [Array.getElem?_toList]; exact hv)
          refine ⟨ns[i], t, List.getElem?_eq_getElem hi, ?_⟩
          rw [e, List.getD_eq_getElem?_getD, List.getElem?_eq_getElem hi] <;> rfl
        refine set_update_ints ((Walks.list hh3 _ l hneI items).toS) s.heap.objs.size
          hSf ns hisz hb hval (items.size - 0) 0 _ (by omega) (Nat.zero_le _)
          ⟨⟨_, Heap.get?_push_size _ rfl, rfl, rfl⟩, (hl1.push _)⟩ ⟨0, Nat.le_refl 0, setR_new_at (Heap.get?_push_of_some _ hS)⟩ fun s' c' hm hc' hS' => ?_
        obtain ⟨h', g2, d', tk', os'⟩ := s'
        obtain rfl : g2 = s.gens := hm.gens
        obtain rfl : d' = s.drawn := hm.drawn
        obtain rfl : os' = s.os := hm.os
        show wpAny _ _ _ _ _ _
        refine wpAny_pure ?_
        show wpAny _ _ (ret Value.none) _ _ _
        refine wpAny_pure ⟨rfl, h', tk', c', rfl, hS', fun b o e => ?_⟩
        have hb0 : b < s.heap.objs.size := Heap.lt_size e
        have hb1 : b ≠ s.heap.objs.size := Nat.ne_of_lt hb0
        have hb2 : b ≠ (s.heap.push o0).objs.size := by
          rw [Heap.size_push]; exact Nat.ne_of_lt (Nat.lt_succ_of_lt hb0)
        exact hm.heap b o (by simp only [List.mem_cons, List.mem_singleton, List.not_mem_nil, or_false, not_or]; exact ⟨hb1, hb2⟩) (Heap.get?_push_of_some _ (Heap.get?_push_of_some _ e))
      · cases r₂ with
        | error e => exact hr₂
        | ok fl₂ =>
          cases fl₂ with
          | ret r =>
            obtain ⟨rfl, h', tk, c', rfl, hS', hk'⟩ := hr₂
            repeat (any_goals (first | assumption | wp_step))
            exact h _ _ _ hS' hk'
          | _ => exact hr₂.elim
    | _ => exact hr.elim
end
end MPV
namespace MP
open PySem PySem.Spec PyProof.Rows L2
variable [Tbs]
/-! ### sorted(set(ints)), len(set(ints)) -/
def insI (x : Int) : List Int → List Int
  | [] => [x]
  | y :: ys => if x < y then x :: y :: ys else if x = y then y :: ys else y :: insI x ys
def sortI (ns : List Int) : List Int := ns.foldr insI []
theorem mem_insI {x z : Int} : ∀ {ys : List Int}, z ∈ insI x ys ↔ z = x ∨ z ∈ ys
  | [] => by simp [insI]
  | y :: ys => by
    unfold insI
    split
    · simp
    · split
      · rename_i h
        subst h
        simp
      · rw [List.mem_cons, mem_insI, List.mem_cons]
        constructor
        · rintro (h | h | h)
          · exact .inr (.inl h)
          · exact .inl h
          · exact .inr (.inr h)
        · rintro (h | h | h)
          · exact .inr (.inl h)
          · exact .inl h
          · exact .inr (.inr h)
theorem mem_sortI {z : Int} : ∀ {ns : List Int}, z ∈ sortI ns ↔ z ∈ ns
  | [] => by simp [sortI]
  | n :: ns => by
    show z ∈ insI n (sortI ns) ↔ _
    rw [mem_insI, mem_sortI, List.mem_cons]
theorem insI_asc {x : Int} : ∀ {ys : List Int}, ys.Pairwise (· < ·) → (insI x ys).Pairwise (· < ·)
  | [], _ => by simp [insI]
  | y :: ys, h => by
    obtain ⟨h1, h2⟩ := List.pairwise_cons.mp h
    unfold insI
    split
    · rename_i hx
      refine List.pairwise_cons.mpr ⟨fun z hz => ?_, h⟩
      rcases List.mem_cons.mp hz with rfl | hz
      · exact hx
      · have := h1 z hz
        omega
    · split
      · exact h
      · refine List.pairwise_cons.mpr ⟨fun z hz => ?_, insI_asc h2⟩
        rcases mem_insI.mp hz with rfl | hz
        · omega
        · exact h1 z hz
theorem sortI_asc : ∀ ns : List Int, (sortI ns).Pairwise (· < ·)
  | [] => List.Pairwise.nil
  | n :: ns => insI_asc (sortI_asc ns)
theorem sortI_uniq {A C : List Int} (a : A.Pairwise (· < ·)) (c : C.Pairwise (· < ·)) (h : ∀ x, x ∈ A ↔ x ∈ C) : A = C :=
  uniq_codes (f := fun x : Int => x) a c h
def rSetI (K : Fg) (w : World) : List V → Hp → VK → Prop := fun xs H Q => ∃ (a : Addr) (ns : List Int), xs = [V.ref a] ∧ (SqL K H a (ns.map V.int) ∨ SqT K H a (ns.map V.int)) ∧ ns.length < 4000 ∧
  ∀ p n, H p = none → n = (sortI ns).length → Q (.ref p) (upd H p (SetO w p (fun j => decide (j ∈ ns)) n))
theorem setR_len {w : World} {h : Heap} {a : Addr} {ns : List Int} {c : Nat} (R : SetR w h a (fun j => decide (j ∈ ns)) c) : c = (sortI ns).length := by
  obtain ⟨o, es, ep, t, _, _, _, _, nd, hm, _, _, hn, _⟩ := R
  have nd2 : (sortI ns).Nodup := (sortI_asc ns).imp fun h e => by rw [e] at h; omega
  have e1 : (es.toList.map keyOf).length = c := by rw [List.length_map, Array.length_toList]; exact hn
  have m : ∀ z, z ∈ es.toList.map keyOf ↔ z ∈ sortI ns := fun z => by rw [mem_sortI, ← hm z]; simp
  have l1 := List.Nodup.length_le_of_subset nd fun z hz => (m z).mp hz
  have l2 := List.Nodup.length_le_of_subset nd2 fun z hz => (m z).mpr hz
  omega
theorem cr_setI {X : Cx} (hc : X.calm = true) : CallR X (.type "set") (rSetI X.K X.w) := by
  intro pins s σ H xs us Q I r h
  obtain ⟨a, ns, rfl, hs, hl, q⟩ := h
  rw [Vals.ref1 r]
  have hsb : ns.length + 1 < scanBound := by unfold scanBound; omega
  have hn := I.hok.fresh (Nat.le_refl s.heap.objs.size)
  rcases hs with hs | hs
  · obtain ⟨its, rv, p, hz⟩ := I.list hs
    exact MPV.set_lstI ns (I.ok.hd hc) p.isList (by simpa using rv.ints) hsb fun h' tk c hS k => ⟨.ref _, _, I.laid (t' := tk) k (Nat.le_refl _) (setO_new hS), rfl, q _ _ hn (setR_len hS)⟩
  · obtain ⟨its, rv, p, hz⟩ := I.tuple hs
    exact call_set_tupI ns (I.ok.hd hc) p (by simpa using rv.ints) hsb fun h' tk c hS _ k => ⟨.ref _, _, I.laid (t' := tk) k (Nat.le_refl _) (setO_new hS), rfl, q _ _ hn (setR_len hS)⟩
def rLenI (w : World) : List V → Hp → VK → Prop := fun xs H Q => ∃ (a : Addr) (S : Int → Bool) (n : Nat), xs = [V.ref a] ∧ H a = some (SetO w a S n) ∧ Q (.int n) H
theorem cr_lenI {X : Cx} : CallR X (.builtin "len") (rLenI X.w) := by
  intro pins s σ H xs us Q I r h
  obtain ⟨a, S, n, rfl, ha, q⟩ := h
  obtain ⟨o, es, ep, t, ho, hex, hd, _, _, _, hb, hf, hn, _⟩ := setO_get I ha
  rw [Vals.ref1 r]
  have hb' : es.size < 2 ^ 62 := by
    unfold scanBound at hb
    omega
  refine call_len_set ho hex hd hf (by omega) ?_
  rw [hn]
  exact ⟨.int n, H, I.kept (h' := s.heap) (fun _ _ e => e), ⟨_, rfl⟩, q⟩
def setInts (d : Dat) : Option (List Int) := (items? d).bind fun ds => (ints? ds).bind fun ns => if decide (ns.length < 4000) && decide ((sortI ns).length < 64) then some ns else none
def rSetA (K : Fg) (P : Program) (w : World) : List V → Hp → VK → Prop := fun xs H Q => rSetOfT K P w xs H Q ∨ rSetI K w xs H Q
def rSortA (K : Fg) (P : Program) (w : World) : List V → Hp → VK → Prop := fun xs H Q => rSortedT K P w xs H Q ∨ rSortedSet w xs H Q
def rLenA (K : Fg) (P : Program) (w : World) : List V → Hp → VK → Prop := fun xs H Q => rLenT K P w xs H Q ∨ rLenI w xs H Q
def rSSA (K : Fg) (P : Program) (w : World) : List V → Hp → VK → Prop := fun xs H Q => rSetA K P w xs H fun v H1 => rSortA K P w [v] H1 Q
def rLSA (K : Fg) (P : Program) (w : World) : List V → Hp → VK → Prop := fun xs H Q => rSetA K P w xs H fun v H1 => rLenA K P w [v] H1 Q
def sortSetA (d : Dat) : Option RV := match setInts d with
  | some ns => some (.nw ((sortI ns).map PyData.int))
  | none => sortSetD d
def lenSetA (d : Dat) : Option RV := match setInts d with
  | some ns => some (.im (.int (sortI ns).length))
  | none => lenSetD d
theorem setInts_eq {d : Dat} {ns : List Int} (h : setInts d = some ns) : (d = .list (ns.map PyData.int) ∨ d = .tuple (ns.map PyData.int)) ∧ ns.length < 4000 ∧ (sortI ns).length < 64 := by
  unfold setInts at h
  obtain ⟨ds, e1, h⟩ := Option.bind_eq_some_iff.mp h
  obtain ⟨ms, e2, h⟩ := Option.bind_eq_some_iff.mp h
  split at h
  · rename_i hc
    cases h
    simp only [Bool.and_eq_true, decide_eq_true_eq] at hc
    rw [← ints_inv e2]
    exact ⟨items_ok e1, hc⟩
  · cases h
end MP
namespace MP
open PySem PySem.Spec PyProof.Rows L2
variable [Tbs]
theorem ints_relV {K : Fg} {F : Hp} {T : Addr} {ns : List Int} {vs : List V} (h : RelL K F T (ns.map PyData.int) vs) : vs = ns.map V.int := ints_rel (ints_of ns) h
theorem setI_in {K : Fg} {P : Program} {w : World} {G : Ctl} {F : Hp} {ps : PS} {σ : L2.St} {H : Hp} {x : V} {d : Dat} {ns : List Int} {Q : VK} (R : Rep G K F ps σ H) (hx : BRel K F H G.T d x) (e : setInts d = some ns)
    (q : ∀ b, Post G K F ps σ H F ps (upd H b (SetO w b (fun j => decide (j ∈ ns)) (sortI ns).length)) → Q (.ref b) (upd H b (SetO w b (fun j => decide (j ∈ ns)) (sortI ns).length))) : rSetA K P w [x] H Q := by
  obtain ⟨hd, h1, h2⟩ := setInts_eq e
  refine .inr ?_
  rcases hd with rfl | rfl
  · obtain ⟨a, vs, rfl, g1, g2⟩ := bLst hx
    rw [ints_relV g2] at g1
    exact ⟨a, ns, rfl, .inl (SqL.of g1), h1, fun p n hp hn => by subst hn; exact q p (R.newO hp)⟩
  · obtain ⟨a, vs, rfl, g1, g2⟩ := bTup R.fh hx
    rw [ints_relV g2] at g1
    exact ⟨a, ns, rfl, .inr g1, h1, fun p n hp hn => by subst hn; exact q p (R.newO hp)⟩
theorem rSetA_imp {K : Fg} {P : Program} {w : World} {xs : List V} {H : Hp} {Q Q' : VK} (h : rSetOfT K P w xs H Q) (q : ∀ v H1, Q v H1 → Q' v H1) : rSetA K P w xs H Q' := by
  obtain ⟨l, ks, e, h1, h2, h3, h4⟩ := h
  exact .inl ⟨l, ks, e, h1, h2, h3, fun a L n s al => q _ _ (h4 a L n s al)⟩
theorem sortSetA_ok {K : Fg} {P : Program} {w : World} : C1Snd K (rSSA K P w) sortSetA := by
  intro G F ps σ H x d out Q R hx hg q
  unfold sortSetA at hg
  split at hg
  · rename_i ns e
    cases hg
    obtain ⟨_, _, h64⟩ := setInts_eq e
    refine setI_in R hx e fun b P1 => .inr ⟨b, _, _, rfl, upd_same, h64, fun ms p asc mem hl hp => ?_⟩
    have e2 : ms = sortI ns := sortI_uniq asc (sortI_asc ns) fun z => by rw [mem z, mem_sortI]; simp
    subst e2
    exact out_nw P1.rep (ints_relL _) (fun v F' H' P2 rv => q v F' H' (P1.trans P2) (rv.back P1.dom)) p hp
  · exact rSetA_imp (sortSetD_ok (K := K) (P := P) (w := w) G F ps σ H x d out Q R hx hg q) fun v H1 h => .inl h
theorem lenSetA_ok {K : Fg} {P : Program} {w : World} : C1Snd K (rLSA K P w) lenSetA := by
  intro G F ps σ H x d out Q R hx hg q
  unfold lenSetA at hg
  split at hg
  · rename_i ns e
    cases hg
    exact setI_in R hx e fun b P1 => .inr ⟨b, _, _, rfl, upd_same, out_im P1.rep (by unfold Rel; rfl) fun v F' H' P2 rv => q v F' H' (P1.trans P2) (rv.back P1.dom)⟩
  · exact rSetA_imp (lenSetD_ok (K := K) (P := P) (w := w) G F ps σ H x d out Q R hx hg q) fun v H1 h => .inl h
theorem cr_setA {X : Cx} (hc : X.calm = true) (hu : X.A.units + 64 < cLine) : CallR X (.type "set") (rSetA X.K X.prog X.w) := by
  intro pins s σ H xs us Q I r h
  rcases h with h | h
  · exact cr_setOfT hc hu pins s σ H xs us Q I r h
  · exact cr_setI hc pins s σ H xs us Q I r h
theorem cr_sortA {X : Cx} (hc : X.calm = true) : CallR X (.builtin "sorted") (rSortA X.K X.prog X.w) := by
  intro pins s σ H xs us Q I r h
  rcases h with h | h
  · exact cr_sortedT hc pins s σ H xs us Q I r h
  · exact cr_sortedSet hc pins s σ H xs us Q I r h
theorem cr_lenA {X : Cx} : CallR X (.builtin "len") (rLenA X.K X.prog X.w) := by
  intro pins s σ H xs us Q I r h
  rcases h with h | h
  · exact cr_lenT pins s σ H xs us Q I r h
  · exact cr_lenI pins s σ H xs us Q I r h
section
variable {X : Cx} {K : Fg} {a : Expr} {ta : TE} {fa : M RV} {p p2 pos pos2 : Pos}
theorem k_sortSetA (hK : X.K = K) (hc : X.calm = true) (hu : X.A.units + 65 < cLine) (hg : Gl X "sorted") (hm : X.mg "sorted" = none) (hg2 : Gl X "set") (hm2 : X.mg "set" = none) (ha : DE X a ta fa)
    (he : starEach [a] X.env = (false, eval a X.env) :: starEach [] X.env := by rfl) (hp : (backTo pos2 (starEach [] X.env)).any (·.1) = false := by rfl)
    (he2 : starEach [.Call (.Name "set" p2) [a] [] pos2] X.env = (false, eval (.Call (.Name "set" p2) [a] [] pos2) X.env) :: starEach [] X.env := by rfl) (hp2 : (backTo pos (starEach [] X.env)).any (·.1) = false := by rfl) :
    DE X (.Call (.Name "sorted" p) [.Call (.Name "set" p2) [a] [] pos2] [] pos) (tCB (rSortA K X.prog X.w) (t1 (tCB (rSetA K X.prog X.w) (t1 ta)))) (unM sortSetA fa) := by
  subst hK
  have s := snd_call1 (r := rSSA X.K X.prog X.w) sortSetA_ok ha.sn
  have pe2 := pe_callTy (pos := pos2) (p := p2) (cr_setA hc (by omega)) hg2 hm2 (by decide) (pa_cons ha.pe pa_nil he) (by decide) (by decide) he hp
  exact ⟨pe_callB (cr_sortA hc) hg hm (by decide) (pa_cons pe2 pa_nil he2) (by decide) (by decide) he2 hp2, ⟨s.go⟩⟩
theorem k_lenSetA (hK : X.K = K) (hc : X.calm = true) (hu : X.A.units + 65 < cLine) (hg : Gl X "len") (hm : X.mg "len" = none) (hg2 : Gl X "set") (hm2 : X.mg "set" = none) (ha : DE X a ta fa)
    (he : starEach [a] X.env = (false, eval a X.env) :: starEach [] X.env := by rfl) (hp : (backTo pos2 (starEach [] X.env)).any (·.1) = false := by rfl)
    (he2 : starEach [.Call (.Name "set" p2) [a] [] pos2] X.env = (false, eval (.Call (.Name "set" p2) [a] [] pos2) X.env) :: starEach [] X.env := by rfl) (hp2 : (backTo pos (starEach [] X.env)).any (·.1) = false := by rfl) :
    DE X (.Call (.Name "len" p) [.Call (.Name "set" p2) [a] [] pos2] [] pos) (tCB (rLenA K X.prog X.w) (t1 (tCB (rSetA K X.prog X.w) (t1 ta)))) (unM lenSetA fa) := by
  subst hK
  have s := snd_call1 (r := rLSA X.K X.prog X.w) lenSetA_ok ha.sn
  have pe2 := pe_callTy (pos := pos2) (p := p2) (cr_setA hc (by omega)) hg2 hm2 (by decide) (pa_cons ha.pe pa_nil he) (by decide) (by decide) he hp
  exact ⟨pe_callB cr_lenA hg hm (by decide) (pa_cons pe2 pa_nil he2) (by decide) (by decide) he2 hp2, ⟨s.go⟩⟩
end
end MP

/-! ### tuple(reversed(t)), t a tuple -/
namespace MPV
open PySem PySem.Spec PyProof.Rows L2
theorem walks_rt {P : Program} {w : World} {A : Around} (hh : A.handled = none) (I t : Addr) (hne : t ≠ I) (items : Array Value) (hsz : items.size ≤ sizeLine) :
    Walks P w A I [I, t] [I] items.size (fun i v => items[items.size - 1 - i]? = some v) (fun i h => i ≤ items.size ∧ RT.IsRt h I t ((items.size : Int) - 1 - (i : Int)) ∧ IsTup h t items) where
  sub := fun b hb => by simp at hb; simp [hb]
  frame := fun _ _ _ x hk => ⟨x.1, x.2.1.at fun o e => hk I (by simp) o e, by
    obtain ⟨o, e, r⟩ := x.2.2
    exact ⟨o, hk t (by simp) o e, r⟩⟩
  item := fun i s Q E hi x hQ => by
    have e : (items.size : Int) - 1 - (i : Int) = ((items.size - 1 - i : Nat) : Int) := by omega
    have hit := x.2.1
    rw [e] at hit
    have hx : items[items.size - 1 - i]? = some (items[items.size - 1 - i]'(by omega)) := Array.getElem?_eq_getElem (by omega)
    refine RT.next_rt_item hit x.2.2 hx hsz fun h' hit' hs' => ?_
    have e2 : ((items.size - 1 - i : Nat) : Int) - 1 = (items.size : Int) - 1 - ((i + 1 : Nat) : Int) := by omega
    rw [e2] at hit'
    refine hQ _ h' (s.toks + 1) hx ⟨hi, hit', ?_⟩ fun b o hb eo => hs'.extBut b o (fun h => hb (by simp [h])) eo
    obtain ⟨o, e, r⟩ := x.2.2
    exact ⟨o, (hs'.2 t hne).trans e, r⟩
  done := fun s Q E x hQ => by
    have e : (items.size : Int) - 1 - (items.size : Int) = -1 := by omega
    have hit := x.2.1
    rw [e] at hit
    exact RT.next_rt_end hh hit fun h' he' => hQ h' s.toks fun b o hb eo => he' b o (fun h => hb (by simp [h])) eo
  self := fun _ _ _ _ x hQ => RT.iter_rt x.2.1 hQ
theorem nolen_rt : typeLookup (.type "reversed") "__len__" = pure none := by rw [typeLookup_type, builtinLookup_eq_fast]; kernel_rfl
theorem slot_rt_hint : Slot "reversed" "__length_hint__" "reversed.__length_hint__" :=
  .of (owner := "reversed") (n := "__length_hint__") (by rw [typeLookup_type, builtinLookup_eq_fast]; kernel_rfl) (by decide +kernel) (by decide +kernel) (by decide +kernel)
    (by first | exact .inl (by decide +kernel) | exact .inr (by decide +kernel)) (by rw [isSubtype_type]; kernel_rfl)
theorem entry_rt_hint : entryFor table "reversed.__length_hint__" = some Builtin.«reversed.__length_hint__» := entryFor_of_tree (by kernel_rfl)
theorem args_rt_hint (a : Value) : argsOk "reversed.__length_hint__" ⟨[a], []⟩ := by
  unfold argsOk; rw [signature?_of (id := "reversed.__length_hint__") (n := ("__length_hint__".toList).reverse) (o := ['d', 'e', 's', 'r', 'e', 'v', 'e', 'r']) (by kernel_rfl) RT.owner_rt]; kernel_rfl
theorem hint_rt : typeLookup (.type "reversed") "__length_hint__" = pure (some (.builtin "reversed.__length_hint__")) := by rw [typeLookup_type, builtinLookup_eq_fast]; kernel_rfl
section
variable {prog : Program} {w : World} {A : Around} {E : Value → Shared → Prop} {s : Shared}
theorem call_hint {it t : Addr} {items : Array Value} {Q : Value → Shared → Prop} (hit : RT.IsRt s.heap it t ((items.size : Int) - 1)) (hl : IsTup s.heap t items) (hn : items.size ≤ sizeLine)
    (hQ : ∀ tk tk2, Q (.int items.size tk) { s with toks := tk2 }) : wpAny (model prog w) A (call (.builtin "reversed.__length_hint__") [.ref it]) Q E s := by
  obtain ⟨o, ho, hc, hd⟩ := id hit
  have hb := line63
  refine wpAny_call_entry slot_rt_hint hit.typeIs entry_rt_hint ?_ (args_rt_hint _)
  unfold Builtin.«reversed.__length_hint__»
  refine wpAny_bind (wpAny_of_eq (a := Value.ref it) rfl ?_)
  try dsimp only
  refine wpAny_bind (wpAny_field ho hd (x := .ref t) rfl ?_)
  refine wp_if_neg (by simp) ?_
  refine wpAny_bind (len_tuple hl (by omega) ?_)
  refine wpAny_bind (wpAny_of_eq (a := some ((items.size : Nat) : Int)) rfl ?_)
  try dsimp only
  refine wpAny_bind (wpAny_field (s := { s with toks := s.toks + 1 + 1 }) ho hd (x := rawInt ((items.size : Int) - 1)) rfl ?_)
  show wpAny _ _ (if _ then _ else _) _ _ _
  rw [if_neg (by omega)]
  have e : (items.size : Int) - 1 + 1 = items.size := by omega
  rw [e]
  unfold retInt
  first
  | exact wpAny_bind (wpAny_mkInt (wpAny_pure ⟨_, rfl, hQ _ _⟩))
  | exact wpAny_mkInt (wpAny_pure ⟨_, rfl, hQ _ _⟩)
theorem length_hint {it t : Addr} {items : Array Value} {Q : Bool → Shared → Prop} (hit : RT.IsRt s.heap it t ((items.size : Int) - 1)) (hl : IsTup s.heap t items) (hn : items.size ≤ sizeLine)
    (hQ : ∀ b tk2, Q b { s with toks := tk2 }) : wpAny (model prog w) A (Builtin.List.listLengthHint (.ref it)) Q E s := by
  have hT : s.TypeIs (.ref it) "reversed" := hit.typeIs
  have hb := line63
  have hz : items.size ≤ 2 ^ 62 := by
    rw [sizeLine_eq] at hn
    omega
  unfold Builtin.List.listLengthHint
  refine wpAny_bind (wpAny_specialOf hT nolen_rt ?_)
  show wpAny _ A (specialOf (Value.ref it) (Str.ofString "__length_hint__") >>= _) _ _ _
  refine wpAny_bind (wpAny_specialOf hT hint_rt ?_)
  generalize hid : ("reversed.__length_hint__" : String) = id0
  wp_delta
  rw [show splitId id0 = some ("reversed", "__length_hint__") from by subst hid; decide +kernel]
  subst hid
  refine wpAny_bind (wpAny_isInstance (b := true) hT (by rw [isSubtype_type]; kernel_rfl) ?_)
  refine wp_if_neg (by decide) ?_
  refine wp_if_neg (by decide +kernel) ?_
  try dsimp only
  refine wpAny_bind (wpAny_rule ?_)
  rw [slot_rt_hint.bind (.ref it)]
  refine wpAny_bind (wpAny_pure ?_)
  refine wpAny_bind (wpAny_attempt (call_hint hit hl hn fun tk tk2 => ?_))
  have ea : asInt? (Value.int (items.size : Int) tk) = pure (some (items.size : Int)) := rfl
  have f1 : Builtin.List.listFitsIndex (items.size : Int) = true := by
    unfold Builtin.List.listFitsIndex
    simp only [Bool.and_eq_true, decide_eq_true_eq]
    constructor <;> omega
  have f3 : ¬ ((items.size : Nat) : Int) < 0 := by omega
  have f2 : Builtin.List.listTooLong ((items.size : Nat) : Int).toNat = false := by
    unfold Builtin.List.listTooLong
    rw [Int.toNat_natCast]
    exact decide_eq_false (by omega)
  simp only [ea, pure_bind, f1, f2, Bool.not_true, Bool.false_eq_true, if_false, f3]
  exact wpAny_pure (hQ _ _)
end
section
variable {prog : Program} {w : World} {A : Around} {E : Value → Shared → Prop} {s : Shared}
theorem collect_rt {it t : Addr} {items : Array Value} {Q : List Value → Shared → Prop} (hh : A.handled = none) (hit : RT.IsRt s.heap it t ((items.size : Int) - 1)) (hl : IsTup s.heap t items) (hne : t ≠ it) (hn : items.size ≤ sizeLine)
    (hQ : ∀ (h' : Heap) (tk : Nat) (acc : Array Value), (∀ b o, b ≠ it → s.heap.get? b = some o → h'.get? b = some o) → ItemsOf (fun i v => items[items.size - 1 - i]? = some v) acc items.size → Q acc.toList { s with heap := h', toks := tk }) :
    wpAny (model prog w) A (collect (.ref it)) Q E s := by
  have W := (walks_rt (P := prog) (w := w) (A := A.in1) hh it t hne items hn).toS
  obtain ⟨oi, hoi, _⟩ := id hit
  obtain ⟨ol, hol, _⟩ := id hl
  have hSi : s.heap.objs.size ≠ it := Nat.ne_of_gt (Heap.lt_size hoi)
  have hSl : s.heap.objs.size ≠ t := Nat.ne_of_gt (Heap.lt_size hol)
  have hSf : s.heap.objs.size ∉ [it, t] := by simp only [List.mem_cons, List.not_mem_nil, or_false, not_or]; exact ⟨hSi, hSl⟩
  let o1 : Obj := { cls := .type "list", data := .seq ([] : List Value).toArray }
  unfold collect
  refine wpAny_bind (wpAny_runValue (codeAny_builtin F.entry_proto_collect ?_))
  rw [Around.under_plainId F.plain_proto_collect _]
  show wpAny _ A.in1 (newList [] >>= fun l' => again (.builtin "list.__iadd__" ⟨[l', .ref it], []⟩)) _ _ s
  refine wpAny_bind (wpAny_newObj_type ?_)
  refine wpAny_pure ⟨plainId_quiet F.plain_list_iadd _, codeAny_builtin F.entry_list_iadd ?_⟩
  rw [Around.under_plainId F.plain_list_iadd _]
  have hS₁ : (s.heap.push o1).get? s.heap.objs.size = some o1 := Heap.get?_push_size _ rfl
  have hit1 : RT.IsRt (s.heap.push o1) it t ((items.size : Int) - 1) := hit.at fun o e => Heap.get?_push_of_some _ e
  have hl1 : IsTup (s.heap.push o1) t items := by
    obtain ⟨o, e, r⟩ := hl
    exact ⟨o, Heap.get?_push_of_some _ e, r⟩
  have hT : ({ s with heap := s.heap.push o1 } : Shared).TypeIs (.ref it) "reversed" := RT.IsRt.typeIs (s := { s with heap := s.heap.push o1 }) hit1
  have h1 : Builtin.List.listSameRef (.ref s.heap.objs.size) (.ref it) = false := by simp [Builtin.List.listSameRef, hSi]
  show wpAny _ A.in1 (Builtin.List.listExtendWith (.ref s.heap.objs.size) (.ref it) (.ref s.heap.objs.size)) _ _ _
  unfold Builtin.List.listExtendWith
  refine wpAny_bind (wpAny_typeOf hT ?_)
  rw [if_neg (by rw [h1]; decide)]
  refine wpAny_bind (RT.iter_rt (s := { s with heap := s.heap.push o1 }) hit1 ?_)
  refine wpAny_bind (wpAny_holding ?_)
  refine length_hint (s := { s with heap := s.heap.push o1 }) hit1 hl1 hn fun room tk2 => ?_
  have e0 : ((items.size : Nat) : Int) - 1 - ((0 : Nat) : Int) = (items.size : Int) - 1 := by omega
  generalize (room || _) = bb
  cases bb with
  | false =>
    refine wpAny_pure ⟨plainId_quiet F.plain_extend_loop _, codeAny_extend_loopS W hn _ hSf _ items.size 0 _ _ _ rfl (Nat.zero_le _) ⟨Nat.zero_le _, by rw [e0]; exact hit1, hl1⟩ hS₁ (ItemsOf.nil _) fun s' acc' c' hm hS' hacc => ?_⟩
    show wpAny _ A (load s.heap.objs.size >>= _) _ _ s'
    refine wpAny_bind (wpAny_load hS' ?_)
    refine wpAny_pure ?_
    rw [Moved.eq_with hm]
    refine hQ s'.heap s'.toks acc' (fun b o hb e => hm.heap b o (fun hmem => ?_) (Heap.get?_push_of_some _ e)) hacc
    rcases List.mem_cons.mp hmem with e' | hmem
    · exact absurd (Heap.lt_size e) (by rw [e']; exact Nat.lt_irrefl _)
    · exact hb (List.mem_singleton.mp hmem)
  | true =>
    refine wpAny_bind (wpAny_rule ?_)
    refine wpAny_bind ?_
    show wpAny _ _ (updateSeq s.heap.objs.size (·.push .none) >>= fun _ => updateSeq s.heap.objs.size (·.pop)) _ _ _
    refine wpAny_bind (wpAny_updateSeq (s := { s with heap := s.heap.push o1, toks := tk2 }) hS₁ rfl ?_ (by decide) (by decide))
    have g2 := Heap.get?_update_self (Obj.mapSeq (·.push Value.none)) hS₁ rfl
    refine wpAny_updateSeq (s := { s with heap := (s.heap.push o1).update s.heap.objs.size (Obj.mapSeq (·.push Value.none)), toks := tk2 }) g2 rfl ?_ (by decide) (by decide)
    have g3 := Heap.get?_update_self (Obj.mapSeq (·.pop)) g2 rfl
    have keep : ∀ b o, b ≠ s.heap.objs.size → (s.heap.push o1).get? b = some o → (((s.heap.push o1).update s.heap.objs.size (Obj.mapSeq (·.push Value.none))).update s.heap.objs.size (Obj.mapSeq (·.pop))).get? b = some o :=
      fun b o hb e => (Heap.get?_update_other _ _ (Ne.symm hb)).trans ((Heap.get?_update_other _ _ (Ne.symm hb)).trans e)
    have hit2 : RT.IsRt (((s.heap.push o1).update s.heap.objs.size (Obj.mapSeq (·.push Value.none))).update s.heap.objs.size (Obj.mapSeq (·.pop))) it t ((items.size : Int) - 1) := hit1.at fun o e => keep it o (Ne.symm hSi) e
    have hl2 : IsTup (((s.heap.push o1).update s.heap.objs.size (Obj.mapSeq (·.push Value.none))).update s.heap.objs.size (Obj.mapSeq (·.pop))) t items := by
      obtain ⟨o, e, r⟩ := hl1
      exact ⟨o, keep t o (Ne.symm hSl) e, r⟩
    refine wpAny_pure ⟨plainId_quiet F.plain_extend_loop _, codeAny_extend_loopS W hn _ hSf _ items.size 0 _ _ _ rfl (Nat.zero_le _) ⟨Nat.zero_le _, by rw [e0]; exact hit2, hl2⟩ g3 (ItemsOf.nil _) fun s' acc' c' hm hS' hacc => ?_⟩
    show wpAny _ A (load s.heap.objs.size >>= _) _ _ s'
    refine wpAny_bind (wpAny_load hS' ?_)
    refine wpAny_pure ?_
    rw [Moved.eq_with hm]
    refine hQ s'.heap s'.toks acc' (fun b o hb e => hm.heap b o (fun hmem => ?_) (keep b o (Nat.ne_of_lt (Heap.lt_size e)) (Heap.get?_push_of_some _ e))) hacc
    rcases List.mem_cons.mp hmem with e' | hmem
    · exact absurd (Heap.lt_size e) (by rw [e']; exact Nat.lt_irrefl _)
    · exact hb (List.mem_singleton.mp hmem)
theorem call_tuple_rt {it t : Addr} {items : Array Value} {Q : Value → Shared → Prop} (hh : A.handled = none) (hit : RT.IsRt s.heap it t ((items.size : Int) - 1)) (hl : IsTup s.heap t items) (hne : t ≠ it) (hn : items.size ≤ sizeLine)
    (hQ : ∀ (h' : Heap) (tk : Nat) (acc : Array Value), (∀ b o, b ≠ it → s.heap.get? b = some o → h'.get? b = some o) → ItemsOf (fun i v => items[items.size - 1 - i]? = some v) acc items.size →
      Q (.ref h'.objs.size) { s with heap := h'.push { cls := .type "tuple", data := .seq acc }, toks := tk }) :
    wpAny (model prog w) A (call (.type "tuple") [.ref it]) Q E s := by
  have code : codeAny (model prog w) A.in1 (.call (.builtin "tuple.__new__") ⟨[.type "tuple", .ref it], []⟩) (wants (fun obj s₁ => s₁.TypeIs obj "tuple" ∧ Q obj s₁) E) s := by
    refine codeAny_of_tree ?_
    show wpAny _ A.in1.in1 (do checkBuiltinCall "tuple.__new__" ⟨[.type "tuple", .ref it], []⟩; again (.builtin "tuple.__new__" ⟨[.type "tuple", .ref it], []⟩)) _ _ s
    refine wpAny_bind (wpAny_of_eq (F.newCall_tuple_1 _) (wpAny_pure ⟨plainId_quiet F.plain_tuple_new _, codeAny_builtin F.entry_tuple_new ?_⟩))
    rw [Around.under_plainId F.plain_tuple_new _]
    have hsub := sub_tuple_self
    have hinit := init_tuple_lookup
    have hmh := madeHere_tuple
    have hTI : s.TypeIs (.ref it) "reversed" := hit.typeIs
    have hh1 : A.in1.in1.handled = none := hh
    wp_walk using wpAny_typeOf hTI, collect_rt (A := A.in1.in1) hh1 hit hl hne hn
    intro h' tk acc hk hacc
    show wpAny _ _ (Builtin.Tuple.tupleExact acc.toList.toArray >>= fun v => ret v) _ _ _
    unfold Builtin.Tuple.tupleExact
    refine wpAny_bind (wpAny_newObj_type ?_ (by show acc.toList.toArray.size ≤ sizeLine; simp only [Array.toArray_toList]; rw [hacc.1]; exact hn))
    refine wpAny_pure ?_
    have e : acc.toList.toArray = acc := by simp
    rw [e]
    exact ⟨⟨_, Heap.get?_push_size _ rfl, rfl⟩, hQ h' tk acc hk hacc⟩
  refine callType_codes (Q₁ := fun obj s₁ => s₁.TypeIs obj "tuple" ∧ Q obj s₁) F.called_tuple (F.typeCall_tuple_1 _) F.entry_object_init code fun obj s₁ h₁ => ?_
  exact ⟨h₁.1, F.args_object_init_2 obj _, object_init_meets F.called_tuple.init.lookup F.called_tuple.made (by decide) prog w A.in1 _ s₁ ⟨h₁.1, rfl, h₁.2⟩⟩
end
end MPV
namespace MP
open PySem PySem.Spec PyProof.Rows L2
variable [Tbs]
def tTupRevA (K : Fg) (te : TE) : TE := fun σ H Q => te σ H fun v H1 => ∃ (a : Addr) (xs : List V), v = .ref a ∧ (SqL K H1 a xs ∨ SqT K H1 a xs) ∧ NewT H1 xs.reverse Q
theorem pe_tupRevA {X : Cx} {e : Expr} {te : TE} {p p2 pos pos2 : Pos} (hc : X.calm = true) (hg : Gl X "tuple") (hm : X.mg "tuple" = none) (hg2 : Gl X "reversed") (hm2 : X.mg "reversed" = none) (he : PE X e te)
    (hs : starEach [e] X.env = (false, eval e X.env) :: starEach [] X.env := by rfl)
    (hs2 : starEach [.Call (.Name "reversed" p2) [e] [] pos2] X.env = (false, eval (.Call (.Name "reversed" p2) [e] [] pos2) X.env) :: starEach [] X.env := by rfl) :
    PE X (.Call (.Name "tuple" p) [.Call (.Name "reversed" p2) [e] [] pos2] [] pos) (tTupRevA X.K te) := by
  refine ⟨fun pins s σ H Q I h => ?_⟩
  refine Call_ (ld_blt I hg hm boot_tuple (PyProof.Rows.callWith_type1 (args_cons (Call_ (ld_blt I hg2 hm2 PyProof.Rows.boot_reversed (PyProof.Rows.callWith_type1 (args_cons (thn (he.run pins s σ H _ I h) fun u s1 ⟨v, H1, I1, r1, q1⟩ => args_nil ?_) hs) hs rfl))) hs2) hs2 rfl))
  obtain ⟨a, xs, ev, hq, q⟩ := q1
  subst ev
  obtain rfl : u = Value.ref a := r1
  obtain ⟨f0, f1, f2, f3, f4, f5⟩ := I1.fpOk (H' := H1) (b := s1.heap.objs.size) (Nat.le_refl _) (I1.hok.fresh (Nat.le_refl _))
  rcases hq with hq | hq
  · obtain ⟨its, rv, p', hz⟩ := I1.list hq
    refine call_reversed_list p'.isList (args_nil ?_)
    have k0 : ∀ b o, s1.heap.get? b = some o → (s1.heap.push (revObj a ((its.toArray.size : Int) - 1))).get? b = some o := fun b o e => Heap.get?_push_of_some _ e
    have I2 : Inv X pins σ H1 { s1 with heap := s1.heap.push (revObj a ((its.toArray.size : Int) - 1)) } := I1.kept (t' := s1.toks) k0
    have hl := p'.isList
    obtain ⟨ol, hol, _⟩ := id hl
    have hne : a ≠ s1.heap.objs.size := Nat.ne_of_lt (Heap.lt_size hol)
    have hn : its.toArray.size ≤ sizeLine := by rw [List.size_toArray, ← rv.length]; exact hz
    refine RT.call_tuple_rev (s := { s1 with heap := s1.heap.push (revObj a ((its.toArray.size : Int) - 1)) }) (I1.ok.hd hc) ⟨_, Heap.get?_push_size _ rfl, rfl, rfl⟩ (hl.push _) hne hn fun h' tk acc hk hi => ?_
    have I3 : Inv X pins σ H1 { s1 with heap := h', toks := tk } := I2.turned (t' := tk) (fun b o hb e => hk b o hb e) f0 f1 f3 f4 f5
    have := q.put I3 (RT.vals_rev rv hi) (by rw [List.length_reverse]; exact hz)
    rw [Array.toArray_toList] at this
    exact this
  · obtain ⟨its, rv, p', hz⟩ := I1.tuple hq
    have hl := rv.length
    have hn := line63
    have hn2 : its.toArray.size ≤ sizeLine := by rw [List.size_toArray, ← rv.length]; exact hz
    refine RT.call_reversed_tup p' (fun A E Q k => len_tuple p' (by simp only [List.size_toArray] <;> omega) k) (args_nil ?_)
    have k0 : ∀ b o, s1.heap.get? b = some o → (s1.heap.push (RT.rtObj a ((its.toArray.size : Int) - 1))).get? b = some o := fun b o e => Heap.get?_push_of_some _ e
    have I2 : Inv X pins σ H1 { s1 with heap := s1.heap.push (RT.rtObj a ((its.toArray.size : Int) - 1)), toks := s1.toks + 1 + 1 } := I1.kept (t' := s1.toks + 1 + 1) k0
    obtain ⟨ol, hol, hol2⟩ := id p'
    have hne : a ≠ s1.heap.objs.size := Nat.ne_of_lt (Heap.lt_size hol)
    refine MPV.call_tuple_rt (s := { s1 with heap := s1.heap.push (RT.rtObj a ((its.toArray.size : Int) - 1)), toks := s1.toks + 1 + 1 }) (I1.ok.hd hc) ⟨_, Heap.get?_push_size _ rfl, rfl, rfl⟩ ⟨ol, k0 _ _ hol, hol2⟩ hne hn2 fun h' tk acc hk hi => ?_
    have I3 : Inv X pins σ H1 { s1 with heap := h', toks := tk } := I2.turned (t' := tk) (fun b o hb e => hk b o hb e) f0 f1 f3 f4 f5
    have := q.put I3 (RT.vals_rev rv hi) (by rw [List.length_reverse]; exact hz)
    rw [Array.toArray_toList] at this
    exact this
def tupRevD (d : Dat) : Option RV := (items? d).bind fun ds => some (.im (.tuple ds.reverse))
theorem k_tupRev {X : Cx} {K : Fg} {e : Expr} {te : TE} {fe : M RV} {p p2 pos pos2 : Pos} (hK : X.K = K) (hc : X.calm = true) (hg : Gl X "tuple") (hm : X.mg "tuple" = none) (hg2 : Gl X "reversed") (hm2 : X.mg "reversed" = none) (he : DE X e te fe)
    (hs : starEach [e] X.env = (false, eval e X.env) :: starEach [] X.env := by rfl)
    (hs2 : starEach [.Call (.Name "reversed" p2) [e] [] pos2] X.env = (false, eval (.Call (.Name "reversed" p2) [e] [] pos2) X.env) :: starEach [] X.env := by rfl) :
    DE X (.Call (.Name "tuple" p) [.Call (.Name "reversed" p2) [e] [] pos2] [] pos) (tTupRevA K te) (unM tupRevD fe) := by
  subst hK
  refine ⟨pe_tupRevA hc hg hm hg2 hm2 he.pe hs hs2, ⟨fun G F ps σ H out ps' Q R e q => ?_⟩⟩
  unfold unM at e
  obtain ⟨⟨ra, ps1⟩, e1, e⟩ := Option.bind_eq_some_iff.mp e
  obtain ⟨d, e3, e⟩ := Option.bind_eq_some_iff.mp e
  obtain ⟨out', e5, e⟩ := Option.bind_eq_some_iff.mp e
  cases e
  refine he.sn.go G F ps σ H ra ps1 _ R e1 fun x F1 H1 P1 r1 => ?_
  have b := brw_ok P1.rep r1 e3
  unfold tupRevD at e5
  obtain ⟨ds, e6, e5⟩ := Option.bind_eq_some_iff.mp e5
  cases e5
  rcases items_ok e6 with rfl | rfl
  · obtain ⟨a, xs, rfl, h1, h2⟩ := bLst b
    exact ⟨a, xs, rfl, .inl (SqL.of h1), out_tp P1.rep h2.reverse fun v F' H' P3 r3 => q v F' H' (P1.trans P3) (r3.back P1.dom)⟩
  · obtain ⟨a, xs, rfl, h1, h2⟩ := bTup P1.rep.fh b
    exact ⟨a, xs, rfl, .inr h1, out_tp P1.rep h2.reverse fun v F' H' P3 r3 => q v F' H' (P1.trans P3) (r3.back P1.dom)⟩
end MP

/-! a call handed a display of two own rows of ints, that gives back a new row of ints: the rows stay the frame's own -/
namespace MP
open PySem PySem.Spec PyProof.Rows L2
variable [Tbs]
def flatSl : Sl → Bool
  | .un => true
  | .fr _ => true
  | .ow ds => (ints? ds).isSome
  | _ => false
def tcall2 (fn : Fn) (i j : Nat) : M RV := fun ps => match ps.sl[i]?, ps.sl[j]? with
  | some (.ow a), some (.ow b) => if ps.sl.all flatSl && decide (i ≠ j) then (fn [.list [.list a, .list b]] ps.dr).bind fun y => match y.1 with
    | .nw xs => if (ints? xs).isSome then some (.nw xs, { ps with dr := y.2 }) else none
    | _ => none
    else none
  | _, _ => none
section
variable {G : Ctl} {K : Fg} {F F1 : Hp} {ps ps1 : PS} {σ : L2.St} {H H1 : Hp}
theorem flat_at (h : ps.sl.all flatSl = true) {i : Nat} {s : Sl} (e : ps.sl[i]? = some s) : flatSl s = true := List.all_eq_true.mp h s (List.mem_of_getElem? e)
theorem own_flat (h : ps.sl.all flatSl = true) {i : Nat} {p : Addr} : OwnAt ps σ H i p → ∃ ds, ps.sl[i]? = some (.ow ds) ∧ σ[i]? = some (some (.ref p)) := fun ⟨s, o, e1, e2, f⟩ => by
  have := flat_at h e1
  cases s with
  | ow ds => exact ⟨ds, e1, by rw [e2]; exact congrArg some f⟩
  | un => exact f.elim
  | fr _ => exact f.elim
  | al _ _ => exact f.elim
  | tr _ => cases this
theorem flat_own {i : Nat} {p : Addr} {ds : List Dat} (e1 : ps.sl[i]? = some (.ow ds)) (e2 : σ[i]? = some (some (.ref p))) : OwnAt ps σ H i p := ⟨_, _, e1, e2, rfl⟩
theorem ints_any {F' : Hp} {T : Addr} {ds : List Dat} {vs : List V} (h : (ints? ds).isSome = true) (r : RelL K F1 T ds vs) : RelL K F' T ds vs := by
  obtain ⟨ns, e⟩ := Option.isSome_iff_exists.mp h
  rw [ints_rel e r, ints_inv e]
  exact ints_relL ns
/-- what was frozen for the call alone is the frame's own again -/
theorem thaw_post {dr' : Dr} (R : Rep G K F ps σ H) (hf : ps.sl.all flatSl = true) (P : Post G K F ps σ H F1 ps1 H1) (hl : ps1.sl.length = ps.sl.length) (hd : ps1.dr = dr')
    (hs : ∀ (i : Nat) (ds : List Dat), ps.sl[i]? = some (.ow ds) → ps1.sl[i]? = some (.ow ds) ∨ ps1.sl[i]? = some (.fr (.list ds))) : Post G K F ps σ H F { ps with dr := dr' } H1 := by
  have now : ∀ (i : Nat) (ds : List Dat) (p : Addr), ps.sl[i]? = some (.ow ds) → σ[i]? = some (some (.ref p)) → ∃ vs, H1 p = some (.lst vs) ∧ RelL K F G.T ds vs := fun i ds p e1 e2 => by
    have hi : (ints? ds).isSome = true := flat_at hf e1
    rcases hs i ds e1 with e3 | e3
    · obtain ⟨o, e4, q, vs, rfl, h1, h2, h3, h4⟩ := P.rep.slots i _ e3
      rw [e2] at e4
      cases e4
      exact ⟨vs, h1, ints_any hi h4⟩
    · obtain ⟨o, e4, v, rfl, r⟩ := P.rep.slots i _ e3
      rw [e2] at e4
      cases e4
      obtain ⟨a, xs, ea, h1, h2⟩ := rLst.mp r
      cases ea
      exact ⟨xs, P.rep.fh _ _ h1, ints_any hi h2⟩
  have ow : ∀ (i : Nat) (p : Addr), OwnAt { ps with dr := dr' } σ H1 i p → OwnAt ps σ H i p := fun i p h => by
    obtain ⟨ds, e1, e2⟩ := own_flat (ps := { ps with dr := dr' }) hf h
    exact flat_own e1 e2
  refine ⟨⟨R.len, fun i s e => ?_, fun i j p h1 h2 => R.sep i j p (ow i p h1) (ow j p h2), fun h => by
      have := P.rep.dr h
      rw [hd] at this
      exact this, R.ft, P.same.trans P.rep.fh, P.rep.kp, R.f0, R.ff, fun h => by
      have := P.rep.nd h
      rw [hd] at this
      exact this, R.tab, fun i j path q e _ => by
      have := flat_at (ps := { ps with dr := dr' }) hf e
      cases this⟩, Same.refl F, fun p o hm h1 h2 h3 h4 => ?_, P.dom, fun i path q h => by
      obtain ⟨t, v, e, _⟩ := h
      have := flat_at (ps := { ps with dr := dr' }) hf e
      cases this⟩
  · have e' : ps.sl[i]? = some s := e
    obtain ⟨o, e1, ok⟩ := R.slots i s e'
    have hfs := flat_at hf e'
    refine ⟨o, e1, ?_⟩
    cases s with
    | un => trivial
    | fr d => exact ok
    | ow ds =>
      obtain ⟨p, vs, rfl, h1, h2, h3, h4⟩ := ok
      obtain ⟨vs', g1, g2⟩ := now i ds p e' e1
      exact ⟨p, vs', rfl, g1, h2, h3, g2⟩
    | tr t => cases hfs
    | al a b => cases hfs
  · obtain ⟨g1, g2, g3⟩ := P.fresh p o hm h1 h2 h3 h4
    exact ⟨g1, h2, fun ⟨i, hi⟩ => h4 ⟨i, ow i p hi⟩⟩
end
theorem snd_thaw2 {K : Fg} {t : TE} {fn : Fn} {i j : Nat} (h : SndE K t (callM fn (consM (lstM (consM (rdV i) (consM (rdV j) (M.ret [])))) (M.ret [])))) : SndE K t (tcall2 fn i j) := by
  refine ⟨fun G F ps σ H r ps' Q R e q => ?_⟩
  unfold tcall2 at e
  split at e
  · rename_i a b ea eb
    split at e
    · rename_i hc
      rw [Bool.and_eq_true, decide_eq_true_eq] at hc
      obtain ⟨hf, hij⟩ := hc
      obtain ⟨⟨r0, dr'⟩, e1, e⟩ := Option.bind_eq_some_iff.mp e
      split at e
      · rename_i xs hr0
        split at e
        · rename_i hx
          cases e
          simp only at hr0
          subst hr0
          obtain ⟨sl, dr⟩ := ps
          simp only at ea eb e1 hf
          have hil : i < sl.length := ltOf ea
          have hjl : j < sl.length := ltOf eb
          have eb' : (sl.set i (.fr (.list a)))[j]? = some (.ow b) := by rw [List.getElem?_set_ne hij]; exact eb
          have run : callM fn (consM (lstM (consM (rdV i) (consM (rdV j) (M.ret [])))) (M.ret [])) ⟨sl, dr⟩ = some (.nw xs, ⟨(sl.set i (.fr (.list a))).set j (.fr (.list b)), dr'⟩) := by
            simp [ea, eb', line_of, e1]
          refine h.go G F ⟨sl, dr⟩ σ H _ _ Q R run fun v F1 H1 P1 r1 => ?_
          have P2 := thaw_post (dr' := dr') R hf P1 (by simp) rfl fun k ds hk => by
            have hk : sl[k]? = some (.ow ds) := hk
            show ((sl.set i (.fr (.list a))).set j (.fr (.list b)))[k]? = _ ∨ _
            by_cases h1 : j = k
            · subst h1
              rw [eb] at hk
              cases hk
              right
              show ((sl.set i (.fr (.list a))).set j (.fr (.list b)))[j]? = _
              rw [List.getElem?_set_self (by simpa using hjl)]
            · rw [List.getElem?_set_ne h1]
              by_cases h2 : i = k
              · subst h2
                rw [ea] at hk
                cases hk
                right
                rw [List.getElem?_set_self hil]
              · left
                rw [List.getElem?_set_ne h2]
                exact hk
          refine q v F H1 P2 ?_
          obtain ⟨p, vs, rfl, h1, h2, h3, h4, h5, h6⟩ := r1
          refine ⟨p, vs, rfl, h1, P1.same.free h2, h3, fun ⟨k, hk⟩ => ?_, ints_any hx h5, h6⟩
          obtain ⟨ds, g1, g2⟩ := own_flat (ps := ⟨sl, dr'⟩) hf hk
          obtain ⟨o, g3, q', vs', rfl, g4, _⟩ := R.slots k _ g1
          rw [g2] at g3
          cases g3
          rw [h6] at g4
          cases g4
        · cases e
      · cases e
    · cases e
  · cases e
theorem de_thaw2 {X : Cx} {K : Fg} (hK : X.K = K) {a : Expr} {t : TE} {fn : Fn} {i j : Nat} (h : DE X a t (callM fn (consM (lstM (consM (rdV i) (consM (rdV j) (M.ret [])))) (M.ret [])))) : DE X a t (tcall2 fn i j) := ⟨h.pe, snd_thaw2 h.sn⟩
theorem e_tcall2 {fn : Fn} {i j : Nat} {sl : List Sl} {dr dr' : Dr} {a b xs : List Dat} (ea : sl[i]? = some (.ow a)) (eb : sl[j]? = some (.ow b)) (hf : sl.all flatSl = true) (hij : i ≠ j) (e : fn [.list [.list a, .list b]] dr = some (.nw xs, dr')) (hx : (ints? xs).isSome = true) :
    tcall2 fn i j ⟨sl, dr⟩ = some (.nw xs, ⟨sl, dr'⟩) := by
  unfold tcall2
  simp only [ea, eb]
  rw [hf, decide_eq_true hij, Bool.and_self, if_pos rfl]
  simp only [e, Option.bind_some, hx, if_true]
end MP

/-! own dicts whose keys are ints or texts -/
namespace MP
open PySem PySem.Spec PyProof.Rows L2
variable [Tbs] [Wx]
def key? : Dat → Option Key
  | .int i => some (.inl i)
  | .str x => some (.inr x)
  | _ => none
theorem key_rel {K : Fg} {F : Hp} {T : Addr} {d : Dat} {k : Key} {v : V} (h : key? d = some k) (r : Rel K F T d v) : v = kV k := by
  cases d with
  | int i =>
    cases h
    exact rInt.mp r
  | str x =>
    cases h
    exact rStr.mp r
  | none => cases h
  | bool _ => cases h
  | list _ => cases h
  | tuple _ => cases h
  | dict _ => cases h
/-- the place of a key -/
def posK : List Key → Key → Option Nat
  | [], _ => none
  | x :: ks, k => if x = k then some 0 else (posK ks k).map (· + 1)
theorem posK_cons {x : Key} {ks : List Key} {k : Key} : posK (x :: ks) k = if x = k then some 0 else (posK ks k).map (· + 1) := rfl
theorem posK_lt : ∀ {ks : List Key} {k : Key} {n : Nat}, posK ks k = some n → n < ks.length
  | x :: ks, k, n, h => by
    unfold posK at h
    split at h
    · cases h
      simp
    · obtain ⟨m, hm, rfl⟩ := Option.map_eq_some_iff.mp h
      have := posK_lt hm
      simp
      omega
theorem valV_zip : ∀ {ks : List Key} {vs : List V} {k : Key}, ks.length = vs.length → valV (ks.zip vs) k = (posK ks k).bind fun n => vs[n]?
  | [], vs, k, _ => rfl
  | x :: ks, [], k, h => by cases h
  | x :: ks, v :: vs, k, h => by
    rw [List.zip_cons_cons]
    unfold posK
    by_cases e : x = k
    · rw [valV_pos (p := (x, v)) e, if_pos e]
      rfl
    · rw [valV_neg (p := (x, v)) e, if_neg e, valV_zip (by simpa using h)]
      cases posK ks k <;> rfl
theorem any_zip : ∀ {ks : List Key} {vs : List V} {k : Key}, ks.length = vs.length → ((ks.zip vs).any fun kv => decide (kv.1 = k)) = (posK ks k).isSome
  | [], vs, k, _ => rfl
  | x :: ks, [], k, h => by cases h
  | x :: ks, v :: vs, k, h => by
    rw [List.zip_cons_cons, List.any_cons, any_zip (by simpa using h), posK_cons]
    by_cases e : x = k
    · rw [if_pos e, decide_eq_true e]
      rfl
    · rw [if_neg e, decide_eq_false e]
      cases posK ks k <;> rfl
theorem map_zip_no : ∀ {ks : List Key} {vs : List V} {k : Key} {v : V}, k ∉ ks → (ks.zip vs).map (fun kv => if kv.1 = k then (kv.1, v) else kv) = ks.zip vs
  | [], _, _, _, _ => rfl
  | x :: ks, [], _, _, _ => rfl
  | x :: ks, w :: vs, k, v, h => by
    rw [List.zip_cons_cons, List.map_cons, map_zip_no fun z => h (List.mem_cons_of_mem _ z), if_neg fun z => h (by rw [← z]; exact List.mem_cons_self)]
theorem map_zip_set : ∀ {ks : List Key} {vs : List V} {k : Key} {v : V} {n : Nat}, ks.length = vs.length → ks.Nodup → posK ks k = some n → (ks.zip vs).map (fun kv => if kv.1 = k then (kv.1, v) else kv) = ks.zip (vs.set n v)
  | [], _, _, _, _, _, _, h => by cases h
  | x :: ks, [], _, _, _, h, _, _ => by cases h
  | x :: ks, w :: vs, k, v, n, hl, nd, h => by
    obtain ⟨n1, n2⟩ := List.nodup_cons.mp nd
    unfold posK at h
    split at h
    · rename_i e
      cases h
      subst e
      rw [List.zip_cons_cons, List.map_cons, if_pos rfl, map_zip_no n1, List.set_cons_zero, List.zip_cons_cons]
    · rename_i e
      obtain ⟨m, hm, rfl⟩ := Option.map_eq_some_iff.mp h
      rw [List.zip_cons_cons, List.map_cons, if_neg e, map_zip_set (by simpa using hl) n2 hm, List.set_cons_succ, List.zip_cons_cons]
theorem putK_old {ks : List Key} {vs : List V} {k : Key} {v : V} {n : Nat} (hl : ks.length = vs.length) (nd : ks.Nodup) (h : posK ks k = some n) : putK (ks.zip vs) k v = ks.zip (vs.set n v) := by
  unfold putK
  rw [any_zip hl, h, if_pos (show (some n).isSome = true from rfl), map_zip_set hl nd h]
theorem putK_new {ks : List Key} {vs : List V} {k : Key} {v : V} (hl : ks.length = vs.length) (h : posK ks k = none) : putK (ks.zip vs) k v = (ks ++ [k]).zip (vs ++ [v]) := by
  unfold putK
  rw [any_zip hl, h, if_neg (by decide), List.zip_append hl]
  rfl
theorem posK_mem : ∀ {ks : List Key} {k : Key}, posK ks k = none → k ∉ ks
  | [], k, _ => by simp
  | x :: ks, k, h => by
    unfold posK at h
    split at h
    · cases h
    · rename_i e
      have h' : posK ks k = none := by
        cases z : posK ks k with
        | none => rfl
        | some n => rw [z] at h; cases h
      intro z
      rcases List.mem_cons.mp z with z | z
      · exact e z.symm
      · exact posK_mem h' z
/-! ### {} -/
def dnewM : M RV := fun ps => some (.nt (.nd (.dk []) []), ps)
theorem de_dnew {X : Cx} {pos : Pos} : DE X (.Dict [] [] pos) tDNewK dnewM := by
  refine ⟨pe_dnewK, ⟨fun G F ps σ H r ps' Q R e q => ?_⟩⟩
  cases e
  exact out_nt (sh := .dk []) (vs := []) (fp := []) R .nil (fun _ h => h) ⟨rfl, List.nodup_nil⟩ q
/-! ### d[k] -/
def dixM (fa fb : M RV) : M RV := fun ps => (fa ps).bind fun x => match x.1 with
  | .pa j path => (keepM fb x.2).bind fun y => (key? y.1).bind fun k => match y.2.sl[j]? with
    | some (.tr t) => match t.get path with
      | some (.nd (.dk ks) ts) => (posK ks k).bind fun n => match ts[n]? with
        | some (.fr d) => some (.im d, y.2)
        | some (.nd _ _) => some (.pa j (path ++ [n]), y.2)
        | none => none
      | _ => none
    | _ => none
  | _ => none
theorem snd_dix {K : Fg} {ta tb : TE} {fa fb : M RV} (ha : SndE K ta fa) (hb : SndE K tb fb) : SndE K (tDGet ta tb) (dixM fa fb) := by
  refine ⟨fun G F ps σ H out ps' Q R e q => ?_⟩
  unfold dixM at e
  obtain ⟨⟨ra, ps1⟩, e1, e⟩ := Option.bind_eq_some_iff.mp e
  cases ra with
  | im d => cases e
  | nw d => cases e
  | nt d => cases e
  | sl d => cases e
  | pa j path =>
    obtain ⟨⟨dk, ps2⟩, e2, e⟩ := Option.bind_eq_some_iff.mp e
    obtain ⟨k, ek, e⟩ := Option.bind_eq_some_iff.mp e
    simp only at e ek
    split at e
    · rename_i t es
      split at e
      · rename_i ks ts eg
        obtain ⟨n, e3, e⟩ := Option.bind_eq_some_iff.mp e
        refine ha.go G F ps σ H (.pa j path) ps1 _ R e1 fun x F1 H1 P1 r1 => ?_
        refine keepM_go hb P1.rep e2 fun y F2 H2 P2 r2 => ?_
        obtain ⟨p, vs, fq, tat, h1, h2, h3, _, _, sn, _⟩ := P2.rep.node es eg
        have ex := (r1.post P2) p tat
        have hl : ks.length = vs.length := h2.1
        have go : ∀ w, vs[n]? = some w → Q w H2 → ∃ a v, x = V.ref a ∧ DGet H2 a y (some v) ∧ Q v H2 := fun w ew qw => by
          refine ⟨p, w, ex, ?_, qw⟩
          have := DGet.k (k := k) h1
          rw [valV_zip hl, e3, Option.bind_some, ew, ← key_rel ek r2] at this
          exact this
        split at e
        · rename_i d ed
          cases e
          obtain ⟨w, pre, f, post, ew, _, hw, _⟩ := h3.get ed
          unfold TrOk at hw
          exact go w ew (q w F2 H2 (P1.trans P2) hw.2)
        · rename_i sh us ed
          cases e
          obtain ⟨w, pre, f, post, ew, _, hw, _⟩ := h3.get ed
          unfold TrOk at hw
          obtain ⟨q0, _, _, ew0, _⟩ := hw
          refine go w ew (q w F2 H2 (P1.trans P2) fun q1 hq => ?_)
          subst ew0
          obtain ⟨t', v', z1, z2, z3⟩ := sn n _ _ q0 ed ew
          obtain ⟨t2, v2, z4, z5, z6⟩ := hq
          rw [z1] at z4
          cases z4
          rw [z2] at z5
          cases z5
          rw [z3.uniq z6]
        · cases e
      · cases e
    · cases e
/-! ### k in d, k not in d -/
def dinM (neg : Bool) (fb fa : M RV) : M RV := fun ps => (keepM fb ps).bind fun y => (key? y.1).bind fun k => (fa y.2).bind fun x => match x.1 with
  | .pa j path => match x.2.sl[j]? with
    | some (.tr t) => match t.get path with
      | some (.nd (.dk ks) ts) => some (.im (.bool (if neg then !(posK ks k).isSome else (posK ks k).isSome)), x.2)
      | _ => none
    | _ => none
  | _ => none
theorem dget_some {H : Hp} {p : Addr} {ks : List Key} {vs : List V} {k : Key} (h1 : H p = some ((Sh.dk ks).ho vs)) (hl : ks.length = vs.length) : ∃ o, DGet H p (kV k) o ∧ o.isSome = (posK ks k).isSome := by
  refine ⟨_, DGet.k (k := k) h1, ?_⟩
  rw [valV_zip hl]
  cases e : posK ks k with
  | none => rfl
  | some n =>
    rw [Option.bind_some, List.getElem?_eq_getElem (by rw [← hl]; exact posK_lt e)]
    rfl
theorem snd_din {K : Fg} {ta tb : TE} {fa fb : M RV} (ha : SndE K ta fa) (hb : SndE K tb fb) : SndE K (tDIn tb ta) (dinM false fb fa) := by
  refine ⟨fun G F ps σ H out ps' Q R e q => ?_⟩
  unfold dinM at e
  obtain ⟨⟨dk, ps1⟩, e1, e⟩ := Option.bind_eq_some_iff.mp e
  obtain ⟨k, ek, e⟩ := Option.bind_eq_some_iff.mp e
  obtain ⟨⟨ra, ps2⟩, e2, e⟩ := Option.bind_eq_some_iff.mp e
  cases ra with
  | im d => cases e
  | nw d => cases e
  | nt d => cases e
  | sl d => cases e
  | pa j path =>
    simp only at e ek
    split at e
    · rename_i t es
      split at e
      · rename_i ks ts eg
        cases e
        refine keepM_go hb R e1 fun y F1 H1 P1 r1 => ?_
        refine ha.go G F1 ps1 σ H1 (.pa j path) _ _ P1.rep e2 fun x F2 H2 P2 r2 => ?_
        obtain ⟨p, vs, fq, tat, h1, h2, _⟩ := P2.rep.node es eg
        obtain ⟨o, g1, g2⟩ := dget_some (k := k) h1 h2.1
        refine ⟨p, o, r2 p tat, by rw [key_rel ek r1]; exact g1, ?_⟩
        rw [g2]
        exact out_im P2.rep (by unfold Rel; rfl) fun v F' H' P3 rv => q v F' H' ((P1.trans P2).trans P3) (rv.back (P1.trans P2).dom)
      · cases e
    · cases e
theorem snd_dnin {K : Fg} {ta tb : TE} {fa fb : M RV} (ha : SndE K ta fa) (hb : SndE K tb fb) : SndE K (tDNotIn tb ta) (dinM true fb fa) := by
  refine ⟨fun G F ps σ H out ps' Q R e q => ?_⟩
  unfold dinM at e
  obtain ⟨⟨dk, ps1⟩, e1, e⟩ := Option.bind_eq_some_iff.mp e
  obtain ⟨k, ek, e⟩ := Option.bind_eq_some_iff.mp e
  obtain ⟨⟨ra, ps2⟩, e2, e⟩ := Option.bind_eq_some_iff.mp e
  cases ra with
  | im d => cases e
  | nw d => cases e
  | nt d => cases e
  | sl d => cases e
  | pa j path =>
    simp only at e ek
    split at e
    · rename_i t es
      split at e
      · rename_i ks ts eg
        cases e
        refine keepM_go hb R e1 fun y F1 H1 P1 r1 => ?_
        refine ha.go G F1 ps1 σ H1 (.pa j path) _ _ P1.rep e2 fun x F2 H2 P2 r2 => ?_
        obtain ⟨p, vs, fq, tat, h1, h2, _⟩ := P2.rep.node es eg
        obtain ⟨o, g1, g2⟩ := dget_some (k := k) h1 h2.1
        refine ⟨p, o, r2 p tat, by rw [key_rel ek r1]; exact g1, ?_⟩
        rw [g2]
        exact out_im P2.rep (by unfold Rel; rfl) fun v F' H' P3 rv => q v F' H' ((P1.trans P2).trans P3) (rv.back (P1.trans P2).dom)
      · cases e
    · cases e
/-! ### d[k] = v -/
def dputM (fo fi fe : M RV) : SM := fun ps => (trM fe ps).bind fun x => (fo x.2).bind fun o => match o.1 with
  | .pa j path => (keepM fi o.2).bind fun y => (key? y.1).bind fun k => match y.2.sl[j]? with
    | some (.tr t) => match t.get path with
      | some (.nd (.dk ks) ts) => match posK ks k with
        | some n => if decide (ts.length < sizeLine) then some (.nx ((y.2.unal j).put j (.tr (t.set path (.nd (.dk ks) (ts.set n x.1)))))) else none
        | none => if decide (ts.length < sizeLine) then some (.nx ((y.2.unal j).put j (.tr (t.set path (.nd (.dk (ks ++ [k])) (ts ++ [x.1])))))) else none
      | _ => none
    | _ => none
  | _ => none
theorem snd_dput {K : Fg} {te to ti : TE} {fe fo fi : M RV} (he : SndE K te fe) (ho : SndE K to fo) (hi : SndE K ti fi) : SndS K (sDPut to ti te) (dputM fo fi fe) := by
  refine ⟨fun G F ps σ H o D R e q => ?_⟩
  unfold dputM at e
  obtain ⟨⟨tv, ps1⟩, e1, e⟩ := Option.bind_eq_some_iff.mp e
  obtain ⟨⟨ro, ps2⟩, e2, e⟩ := Option.bind_eq_some_iff.mp e
  cases ro with
  | im d => cases e
  | nw d => cases e
  | nt d => cases e
  | sl d => cases e
  | pa j path =>
    obtain ⟨⟨dk, ps3⟩, e3, e⟩ := Option.bind_eq_some_iff.mp e
    obtain ⟨k, ek, e⟩ := Option.bind_eq_some_iff.mp e
    simp only at e ek
    split at e
    · rename_i t es
      split at e
      · rename_i ks ts eg
        refine trM_go he R e1 fun v F1 H1 fv P1 r1 => ?_
        refine ho.go G F1 ps1 σ H1 _ ps2 _ P1.rep e2 fun x F2 H2 P2 r2 => ?_
        refine keepM_go hi P2.rep e3 fun y F3 H3 P3 r3 => ?_
        obtain ⟨p, vs, fq, tat, h1, h2, h3, h4, h5, sn, wr⟩ := P3.rep.node es eg
        have ex := (r2.post P3) p tat
        have r1 := (r1.post P2).post P3
        have hl : ks.length = vs.length := h2.1
        have hlt := h3.len
        have r1o := r1.1
        unfold TrsOk at r1o
        obtain ⟨v', ws', f', g', ev, efv, r1t, r1n⟩ := r1o
        cases ev
        unfold TrsOk at r1n
        obtain ⟨_, rfl⟩ := r1n
        rw [List.append_nil] at efv
        subst efv
        have hkey := key_rel ek r3
        have sm := (P1.same.trans P2.same).trans P3.same
        cases hp : posK ks k with
        | some n =>
          simp only [hp] at e
          split at e
          case isFalse => cases e
          rename_i hsz
          cases e
          have hsz := of_decide_eq_true hsz
          have hn : n < ts.length := by
            have := posK_lt hp
            omega
          obtain ⟨w, pre, f, post, ew, rfl, hw, up⟩ := h3.get (List.getElem?_eq_getElem hn)
          have hu := up F3 H3 tv v fv (Same.refl _) (fun q hq => ⟨rfl, by
            obtain ⟨_, _, _, z, _⟩ := h3.own q (by rcases List.mem_append.mp hq with z | z <;> simp [z])
            exact z⟩) r1t
          have R4 := wr (.dk ks) _ _ _ hu (by
            rw [List.nodup_append, List.nodup_append] at h4 ⊢
            have nv : ∀ a ∈ fv, ∀ b, b ∈ pre ∨ b ∈ post → a ≠ b := fun a ha b hb z => by
              subst z
              exact (r1.2.2 a ha).1 ⟨j, h5 a (by rcases hb with z | z <;> simp [z])⟩
            refine ⟨⟨h4.1.1, r1.2.1, fun a ha b hb z => nv b hb a (.inl ha) z.symm⟩, h4.2.1, fun a ha b hb z => ?_⟩
            rcases List.mem_append.mp ha with y | y
            · exact h4.2.2 a (by simp [y]) b hb z
            · exact nv a y b (.inr hb) z) (fun q hq => by
            rcases List.mem_append.mp hq with y | y
            · rcases List.mem_append.mp y with y | y
              · exact .inl (by simp [y])
              · exact .inr (r1.2.2 q y).1
            · exact .inl (by simp [y])) ⟨by rw [List.length_set]; exact hl, h2.2⟩
          refine ⟨p, _, ex, .inl ⟨ks.zip vs, k, h1, hkey, ?_, rfl⟩, ?_⟩
          · rw [List.length_zip]
            omega
          · rw [putK_old hl h2.2 hp]
            exact q F3 σ _ R4 sm
        | none =>
          simp only [hp] at e
          split at e
          · rename_i hsz
            cases e
            have hsz := of_decide_eq_true hsz
            have ap := h3.app r1.1
            have R4 := wr (.dk (ks ++ [k])) _ _ _ ap (by
              rw [List.nodup_append]
              exact ⟨h4, r1.2.1, fun a ha b hb z => by
                subst z
                exact (r1.2.2 a hb).1 ⟨j, h5 a ha⟩⟩) (fun q hq => by
              rcases List.mem_append.mp hq with y | y
              · exact .inl y
              · exact .inr (r1.2.2 q y).1) ⟨by simp [hl], List.nodup_append.mpr ⟨h2.2, by simp, fun a ha b hb z => posK_mem hp (by rw [← List.mem_singleton.mp hb, ← z]; exact ha)⟩⟩
            refine ⟨p, _, ex, .inl ⟨ks.zip vs, k, h1, hkey, ?_, rfl⟩, ?_⟩
            · rw [List.length_zip]
              omega
            · rw [putK_new hl hp]
              exact q F3 σ _ R4 sm
          · cases e
      · cases e
    · cases e
section
variable {X : Cx} {K : Fg} {a b e i o : Expr} {ta tb te ti to : TE} {fa fb fe fi fo : M RV} {pos spos : Pos}
theorem k_dix (hu : X.A.units + 65 < cLine) (ha : DE X a ta fa) (hb : DE X b tb fb) (hs : NoSl b) : DE X (.Subscript a b pos) (tDGet ta tb) (dixM fa fb) :=
  ⟨pe_dget (by omega) ha.pe hb.pe hs, snd_dix ha.sn hb.sn⟩
theorem k_din (hu : X.A.units + 65 < cLine) (hi : DE X i ti fi) (ho : DE X o to fo) (hm : behindInMarks .In o = false) : DE X (.Compare i [.In] [o] pos) (tDIn ti to) (dinM false fi fo) :=
  ⟨pe_cmp (pc_din (by omega) hi.pe ho.pe) hm, snd_din ho.sn hi.sn⟩
theorem k_dnin (hu : X.A.units + 65 < cLine) (hi : DE X i ti fi) (ho : DE X o to fo) (hm : behindInMarks .NotIn o = false) : DE X (.Compare i [.NotIn] [o] pos) (tDNotIn ti to) (dinM true fi fo) :=
  ⟨pe_cmp (pc_dnotin (by omega) hi.pe ho.pe) hm, snd_dnin ho.sn hi.sn⟩
theorem snd_tB {K : Fg} {t : TE} {f : M RV} (h : SndE K t f) : SndT K (tB t) (tstM f) := by
  refine ⟨fun G F ps σ H b ps' Q R e q => ?_⟩
  unfold tstM at e
  obtain ⟨⟨r, ps1⟩, e1, e⟩ := Option.bind_eq_some_iff.mp e
  obtain ⟨c, e2, e⟩ := Option.bind_eq_some_iff.mp e
  cases e
  refine h.go G F ps σ H r ps1 _ R e1 fun v F1 H1 P1 r1 => ?_
  cases r with
  | im d =>
    cases d with
    | bool c' =>
      cases e2
      have r2 : Rel K F1 G.T (.bool b) v := r1
      unfold Rel at r2
      exact ⟨_, r2, q F1 H1 P1⟩
    | none => cases e2
    | int _ => cases e2
    | str _ => cases e2
    | list _ => cases e2
    | tuple _ => cases e2
    | dict _ => cases e2
  | nw _ => cases e2
  | sl _ => cases e2
  | nt _ => cases e2
  | pa _ _ => cases e2
theorem kt_din (hu : X.A.units + 65 < cLine) (hi : DE X i ti fi) (ho : DE X o to fo) (hm : behindInMarks .In o = false) : DT X (.Compare i [.In] [o] pos) (tB (tDIn ti to)) (tstM (dinM false fi fo)) :=
  ⟨pt_cmp (pc_din (by omega) hi.pe ho.pe) hm, snd_tB (snd_din ho.sn hi.sn)⟩
theorem kt_dnin (hu : X.A.units + 65 < cLine) (hi : DE X i ti fi) (ho : DE X o to fo) (hm : behindInMarks .NotIn o = false) : DT X (.Compare i [.NotIn] [o] pos) (tB (tDNotIn ti to)) (tstM (dinM true fi fo)) :=
  ⟨pt_cmp (pc_dnotin (by omega) hi.pe ho.pe) hm, snd_tB (snd_dnin ho.sn hi.sn)⟩
theorem ds_dput (hu : X.A.units + 65 < cLine) (he : DE X e te fe) (ho : DE X o to fo) (hi : DE X i ti fi) (hs : swapsWith e (some (.Subscript o i spos)) pos.line X.env = pure false := by rfl) :
    DS X (.Assign [.Subscript o i spos] e pos) (sDPut to ti te) (dputM fo fi fe) := ⟨ps_dput (by omega) ho.pe hi.pe he.pe hs, snd_dput he.sn ho.sn hi.sn⟩
end
end MP

namespace MP
open PySem PySem.Spec PyProof.Rows L2
/-! generator expressions whose element calls nothing: data as it stands in a heap, an element's rules -/
mutual
def Hd (h : Heap) : Dat → Value → Prop
  | .none, v => v = .none
  | .bool b, v => v = .bool b
  | .int i, v => ∃ t, v = .int i t
  | .str x, v => ∃ t, v = .str x t
  | .list ds, v => ∃ (a : Addr) (vs : List Value), v = .ref a ∧ PlainL h a vs.toArray ∧ HdL h ds vs ∧ ds.length ≤ sizeLine
  | .tuple ds, v => ∃ (a : Addr) (vs : List Value), v = .ref a ∧ (∃ (o : Obj) (n : Nat), h.get? a = some o ∧ o.cls = .type "tuple" ∧ o.dict = none ∧ o.data = .seq vs.toArray n) ∧ HdL h ds vs ∧ ds.length ≤ sizeLine
  | .dict _, _ => True
def HdL (h : Heap) : List Dat → List Value → Prop
  | [], vs => vs = []
  | d :: ds, vs => ∃ y ys, vs = y :: ys ∧ Hd h d y ∧ HdL h ds ys
end
/-- what is no table stays -/
def Klo (h h' : Heap) : Prop := ∀ (a : Addr) (o : Obj), h.get? a = some o → (∀ q, o.data ≠ .fields q) → h'.get? a = some o
theorem Klo.refl (h : Heap) : Klo h h := fun _ _ e _ => e
theorem Klo.trans {h h1 h2 : Heap} (a : Klo h h1) (b : Klo h1 h2) : Klo h h2 := fun x o e n => b x o (a x o e n) n
theorem Klo.of {h h' : Heap} (k : ∀ b o, h.get? b = some o → h'.get? b = some o) : Klo h h' := fun a o e _ => k a o e
section
variable {h h' : Heap}
mutual
theorem Hd.mono (k : Klo h h') : ∀ (d : Dat) (v : Value), Hd h d v → Hd h' d v
  | .none, _, e => e
  | .bool _, _, e => e
  | .int _, _, e => e
  | .str _, _, e => e
  | .list ds, v, e => by
    unfold Hd at e ⊢
    obtain ⟨a, vs, e1, ⟨o, n, e2, e3, e4, e5⟩, e6, e7⟩ := e
    exact ⟨a, vs, e1, ⟨o, n, k a o e2 (fun q z => by rw [e5] at z; cases z), e3, e4, e5⟩, HdL.mono k ds vs e6, e7⟩
  | .tuple ds, v, e => by
    unfold Hd at e ⊢
    obtain ⟨a, vs, e1, ⟨o, n, e2, e3, e4, e5⟩, e6, e7⟩ := e
    exact ⟨a, vs, e1, ⟨o, n, k a o e2 (fun q z => by rw [e5] at z; cases z), e3, e4, e5⟩, HdL.mono k ds vs e6, e7⟩
  | .dict _, _, _ => by unfold Hd; trivial
theorem HdL.mono (k : Klo h h') : ∀ (ds : List Dat) (vs : List Value), HdL h ds vs → HdL h' ds vs
  | [], _, e => e
  | d :: ds, _, e => by
    unfold HdL at e ⊢
    obtain ⟨y, ys, e1, e2, e3⟩ := e
    exact ⟨y, ys, e1, Hd.mono k d y e2, HdL.mono k ds ys e3⟩
end
end
theorem HdL.len {h : Heap} : ∀ {ds : List Dat} {vs : List Value}, HdL h ds vs → ds.length = vs.length
  | [], _, e => by unfold HdL at e; rw [e]; rfl
  | d :: ds, _, e => by
    unfold HdL at e
    obtain ⟨y, ys, rfl, _, e3⟩ := e
    rw [List.length_cons, List.length_cons, e3.len]
theorem HdL.get {h : Heap} : ∀ {ds : List Dat} {vs : List Value}, HdL h ds vs → ∀ {i : Nat} {d : Dat}, ds[i]? = some d → ∃ v, vs[i]? = some v ∧ Hd h d v
  | [], _, _, i, d, hi => by cases i <;> cases hi
  | d :: ds, _, e, i, d', hi => by
    unfold HdL at e
    obtain ⟨y, ys, rfl, e2, e3⟩ := e
    cases i with
    | zero => cases hi; exact ⟨y, rfl, e2⟩
    | succ i => exact e3.get hi
theorem HdL.back {h : Heap} : ∀ {ds : List Dat} {vs : List Value}, HdL h ds vs → ∀ {i : Nat} {v : Value}, vs[i]? = some v → ∃ d, ds[i]? = some d ∧ Hd h d v
  | [], _, e, i, d, hi => by unfold HdL at e; rw [e] at hi; cases i <;> cases hi
  | d :: ds, _, e, i, d', hi => by
    unfold HdL at e
    obtain ⟨y, ys, rfl, e2, e3⟩ := e
    cases i with
    | zero => cases hi; exact ⟨d, rfl, e2⟩
    | succ i => exact e3.back hi
/- from what the walk tracks to the heap -/
section
variable {X : Cx} {pins : List (Addr × Obj)} {σ : L2.St} {H F : Hp} {s : Shared} {T : Addr}
mutual
theorem hd_rel (I : Inv X pins σ H s) (e : Same F H) : ∀ (d : Dat) (v : V) (u : Value), Rel X.K F T d v → RelV v u → Hd s.heap d u
  | .none, v, u, h, r => by unfold Rel at h; subst h; unfold Hd; exact r
  | .bool b, v, u, h, r => by unfold Rel at h; subst h; unfold Hd; exact r
  | .int b, v, u, h, r => by unfold Rel at h; subst h; unfold Hd; exact r
  | .str b, v, u, h, r => by unfold Rel at h; subst h; unfold Hd; exact r
  | .list ds, v, u, h, r => by
    unfold Rel at h
    obtain ⟨a, xs, rfl, h1, h2⟩ := h
    obtain rfl : u = .ref a := r
    obtain ⟨its, rv, pl, hz⟩ := I.list (.inl (.inl (e _ _ h1)))
    unfold Hd
    refine ⟨a, its, rfl, pl, hdl_rel I e ds xs its h2 rv, ?_⟩
    rw [← RelL.len h2]
    exact hz
  | .tuple ds, v, u, h, r => by
    unfold Rel at h
    obtain ⟨a, xs, rfl, ⟨o, h1, hd⟩, h2⟩ := h
    obtain rfl : u = .ref a := r
    obtain ⟨e1, hz, its, rv, ⟨ob', e2, e3, n, e4⟩⟩ := I.hok a _ (e _ _ h1)
    rw [e1] at e2
    cases e2
    unfold Hd
    refine ⟨a, its, rfl, ⟨o, n, e1, e3, hd, e4⟩, hdl_rel I e ds xs its h2 rv, ?_⟩
    rw [← RelL.len h2]
    exact hz
  | .dict _, _, _, _, _ => by unfold Hd; trivial
theorem hdl_rel (I : Inv X pins σ H s) (e : Same F H) : ∀ (ds : List Dat) (xs : List V) (us : List Value), RelL X.K F T ds xs → Vals xs us → HdL s.heap ds us
  | [], xs, us, h, r => by
    unfold RelL at h
    subst h
    cases r
    unfold HdL
    rfl
  | d :: ds, xs, us, h, r => by
    unfold RelL at h
    obtain ⟨y, ys, rfl, h1, h2⟩ := h
    cases r with
    | cons r1 r2 =>
      unfold HdL
      exact ⟨_, _, rfl, hd_rel I e d y _ h1 r1, hdl_rel I e ds ys _ h2 r2⟩
end
end
/-- what the element's names hold -/
structure Lds (cenv : Env) (nm : List Str) (en : List Dat) (h : Heap) : Prop where
  kind : cenv.scope.kind = .function
  get : ∀ (i : Nat) (n : Str) (d : Dat), nm[i]? = some n → en[i]? = some d → ∃ v, Hd h d v ∧
    ((cenv.kindOf n = some .local ∧ ∃ m, h.Ns cenv.locals m ∧ m n = some v) ∨ (cenv.kindOf n = some .free ∧ ∃ c, cenv.cells.lookup n = some c ∧ h.IsCell c (some v)))
theorem Lds.keeps {cenv : Env} {nm : List Str} {en : List Dat} {s s' : Shared} (L : Lds cenv nm en s.heap) (k : Keeps s s') : Lds cenv nm en s'.heap := by
  obtain ⟨h', tk, rfl, k⟩ := k
  refine ⟨L.kind, fun i n d e1 e2 => ?_⟩
  obtain ⟨v, h1, h2⟩ := L.get i n d e1 e2
  refine ⟨v, Hd.mono (.of k) d v h1, ?_⟩
  rcases h2 with ⟨z, m, z1, z2⟩ | ⟨z, c, z1, z2⟩
  · exact .inl ⟨z, m, z1.keeps k, z2⟩
  · exact .inr ⟨z, c, z1, z2.keeps k⟩
theorem Keeps.trans' {s s1 s2 : Shared} (a : Keeps s s1) (b : Keeps s1 s2) : Keeps s s2 := by
  obtain ⟨h, t, rfl, k⟩ := a
  obtain ⟨h', t', rfl, k'⟩ := b
  exact ⟨h', t', rfl, fun b o e => k' b o (k b o e)⟩
abbrev EM := List Dat → Option Dat
def EE (prog : Program) (w : World) (nm : List Str) (e : Expr) (m : EM) : Prop :=
  ∀ (cenv : Env) (A' : Around) (E' : Value → Shared → Prop) (en : List Dat) (s : Shared) (d : Dat), A'.handled = none → Lds cenv nm en s.heap → m en = some d →
    wpAny (model prog w) A' (eval e cenv) (fun y s' => Hd s'.heap d y ∧ Keeps s s') E' s
section
variable {prog : Program} {w : World} {nm : List Str} {a b : Expr} {ma mb : EM} {pos p1 : Pos}
def nmE (i : Nat) : EM := fun en => en[i]?
theorem ee_name {i : Nat} {x : Str} (hi : nm[i]? = some x) (hd : (x == ("__debug__" : Str)) = false := by decide) (hc : (x == ("__classdict__" : Str)) = false := by decide) : EE prog w nm (.Name x pos) (nmE i) := by
  intro cenv A' E' en s d hA L hm
  obtain ⟨v, h1, h2⟩ := L.get i x d hi hm
  refine wpAny_Name ?_ hd
  rcases h2 with ⟨z, m, z1, z2⟩ | ⟨z, c, z1, z2⟩
  · exact wpAny_loadName_local L.kind z z1 z2 ⟨h1, GxR.keeps_refl _⟩
  · exact wpAny_loadName_free L.kind z z1 z2 ⟨h1, GxR.keeps_refl _⟩ hc
def ctE (d : Dat) : EM := fun _ => some d
theorem ee_int {k : Int} {j : Nat} : EE prog w nm (.Constant (.int k) j pos) (ctE (.int k)) := by
  intro cenv A' E' en s d hA L hm
  cases hm
  exact wpAny_Constant_int ⟨⟨_, rfl⟩, GxR.keeps_tok _ _⟩
/-- two parts after each other -/
theorem ee_two {P : Dat → Dat → Dat → Prop} {f : EM} (ha : EE prog w nm a ma) (hb : EE prog w nm b mb) {cenv : Env} {A' : Around} {E' : Value → Shared → Prop} {en : List Dat} {s : Shared} (hA : A'.handled = none) (L : Lds cenv nm en s.heap)
    {da db : Dat} (e1 : ma en = some da) (e2 : mb en = some db) {Q : Value → Value → Shared → Prop} (h : ∀ v u s2, Hd s2.heap da v → Hd s2.heap db u → Keeps s s2 → Q v u s2) :
    wpAny (model prog w) A' (eval a cenv) (fun v s1 => wpAny (model prog w) A' (eval b cenv) (fun u s2 => Q v u s2) E' s1) E' s := by
  refine wpAny_mono (ha cenv A' E' en s da hA L e1) (fun v s1 z => ?_) fun _ _ e => e
  obtain ⟨h1, k1⟩ := z
  refine wpAny_mono (hb cenv A' E' en s1 db hA (L.keeps k1) e2) (fun u s2 z => ?_) fun _ _ e => e
  obtain ⟨h2, k2⟩ := z
  refine h v u s2 ?_ h2 (Keeps.trans' k1 k2)
  obtain ⟨h', tk, rfl, k⟩ := k2
  exact Hd.mono (.of k) da v h1
def twoI (g : Int → Int → Option Dat) (ma mb : EM) : EM := fun en => match ma en, mb en with
  | some (.int i), some (.int j) => g i j
  | _, _ => none
theorem twoI_some {g : Int → Int → Option Dat} {en : List Dat} {d : Dat} (h : twoI g ma mb en = some d) : ∃ i j, ma en = some (.int i) ∧ mb en = some (.int j) ∧ g i j = some d := by
  unfold twoI at h
  split at h
  · exact ⟨_, _, by assumption, by assumption, h⟩
  · cases h
def modE : Int → Int → Option Dat := fun i j => if j = 0 then none else some (.int (i.fmod j))
def eqE : Int → Int → Option Dat := fun i j => some (.bool (i == j))
def neE : Int → Int → Option Dat := fun i j => some (.bool (i != j))
theorem ee_mod (ha : EE prog w nm a ma) (hb : EE prog w nm b mb) : EE prog w nm (.BinOp a .Mod b pos) (twoI modE ma mb) := by
  intro cenv A' E' en s d hA L hm
  obtain ⟨i, j, e1, e2, e3⟩ := twoI_some hm
  unfold modE at e3
  split at e3
  · cases e3
  · rename_i hj
    cases e3
    refine wpAny_BinOp (ee_two (P := fun _ _ _ => True) (f := ma) ha hb hA L e1 e2 fun v u s2 h1 h2 k => ?_)
    unfold Hd at h1 h2
    obtain ⟨t, rfl⟩ := h1
    obtain ⟨t', rfl⟩ := h2
    exact mod_int' hj ⟨by unfold Hd; exact ⟨_, rfl⟩, Keeps.trans' k (GxR.keeps_tok _ _)⟩
theorem ee_last {op : PySem.BoolOp} (ha : EE prog w nm a ma) : EE prog w nm (.BoolOp op [a] pos) ma := fun cenv A' E' en s d hA L hm => BoolOp_one (ha cenv A' E' en s d hA L hm)
theorem ee_eq (ha : EE prog w nm a ma) (hb : EE prog w nm b mb) (hmk : behindInMarks .Eq b = false := by with_unfolding_all rfl) : EE prog w nm (.Compare a [.Eq] [b] pos) (twoI eqE ma mb) := by
  intro cenv A' E' en s d hA L hm
  obtain ⟨i, j, e1, e2, e3⟩ := twoI_some hm
  cases e3
  refine wpAny_Compare1 (ee_two (P := fun _ _ _ => True) (f := ma) ha hb hA L e1 e2 fun v u s2 h1 h2 k => ?_) hmk
  unfold Hd at h1 h2
  obtain ⟨t, rfl⟩ := h1
  obtain ⟨t', rfl⟩ := h2
  exact PyProof.Rows.eq_int ⟨by unfold Hd; rfl, k⟩
theorem ee_ne (ha : EE prog w nm a ma) (hb : EE prog w nm b mb) (hmk : behindInMarks .NotEq b = false := by with_unfolding_all rfl) : EE prog w nm (.Compare a [.NotEq] [b] pos) (twoI neE ma mb) := by
  intro cenv A' E' en s d hA L hm
  obtain ⟨i, j, e1, e2, e3⟩ := twoI_some hm
  cases e3
  refine wpAny_Compare1 (ee_two (P := fun _ _ _ => True) (f := ma) ha hb hA L e1 e2 fun v u s2 h1 h2 k => ?_) hmk
  unfold Hd at h1 h2
  obtain ⟨t, rfl⟩ := h1
  obtain ⟨t', rfl⟩ := h2
  exact PyProof.Rows.ne_int ⟨by unfold Hd; rfl, k⟩
def orE (ma mb : EM) : EM := fun en => match ma en with
  | some (.bool true) => some (.bool true)
  | some (.bool false) => mb en
  | _ => none
def andE (ma mb : EM) : EM := fun en => match ma en with
  | some (.bool false) => some (.bool false)
  | some (.bool true) => mb en
  | _ => none
theorem ee_or {rest : List Expr} (ha : EE prog w nm a ma) (hb : EE prog w nm (.BoolOp .Or (b :: rest) pos) mb) : EE prog w nm (.BoolOp .Or (a :: b :: rest) pos) (orE ma mb) := by
  intro cenv A' E' en s d hA L hm
  unfold orE at hm
  have key : ∃ c, ma en = some (.bool c) ∧ (c = true → d = .bool true) ∧ (c = false → mb en = some d) := by
    split at hm
    · cases hm; exact ⟨true, by assumption, fun _ => rfl, fun z => by cases z⟩
    · exact ⟨false, by assumption, (fun z => by cases z), fun _ => hm⟩
    · cases hm
  obtain ⟨c, e1, e2, e3⟩ := key
  refine BoolOp_or (wpAny_mono (ha cenv A' E' en s _ hA L e1) (fun v s1 z => ?_) fun _ _ e => e)
  obtain ⟨h1, k1⟩ := z
  unfold Hd at h1
  subst h1
  refine wpAny_truthy_bool ?_
  cases c with
  | true => rw [e2 rfl]; exact ⟨by unfold Hd; rfl, k1⟩
  | false => exact wpAny_mono (hb cenv A' E' en s1 d hA (L.keeps k1) (e3 rfl)) (fun u s2 z => ⟨z.1, Keeps.trans' k1 z.2⟩) fun _ _ e => e
theorem ee_and {rest : List Expr} (ha : EE prog w nm a ma) (hb : EE prog w nm (.BoolOp .And (b :: rest) pos) mb) : EE prog w nm (.BoolOp .And (a :: b :: rest) pos) (andE ma mb) := by
  intro cenv A' E' en s d hA L hm
  unfold andE at hm
  have key : ∃ c, ma en = some (.bool c) ∧ (c = false → d = .bool false) ∧ (c = true → mb en = some d) := by
    split at hm
    · cases hm; exact ⟨false, by assumption, fun _ => rfl, fun z => by cases z⟩
    · exact ⟨true, by assumption, (fun z => by cases z), fun _ => hm⟩
    · cases hm
  obtain ⟨c, e1, e2, e3⟩ := key
  refine BoolOp_and (wpAny_mono (ha cenv A' E' en s _ hA L e1) (fun v s1 z => ?_) fun _ _ e => e)
  obtain ⟨h1, k1⟩ := z
  unfold Hd at h1
  subst h1
  refine wpAny_truthy_bool ?_
  cases c with
  | false => rw [e2 rfl]; exact ⟨by unfold Hd; rfl, k1⟩
  | true => exact wpAny_mono (hb cenv A' E' en s1 d hA (L.keeps k1) (e3 rfl)) (fun u s2 z => ⟨z.1, Keeps.trans' k1 z.2⟩) fun _ _ e => e
/-- xs[i] -/
def ixE (ma mb : EM) : EM := fun en => match ma en, mb en with
  | some (.tuple ds), some (.int i) => atI ds i
  | some (.list ds), some (.int i) => atI ds i
  | _, _ => none
theorem ee_ix (ha : EE prog w nm a ma) (hb : EE prog w nm b mb) (hs : PlainIx b) : EE prog w nm (.Subscript a b pos) (ixE ma mb) := by
  intro cenv A' E' en s d hA L hm
  have key : ∃ ds i dd, ma en = some dd ∧ (dd = .tuple ds ∨ dd = .list ds) ∧ mb en = some (.int i) ∧ atI ds i = some d := by
    unfold ixE at hm
    split at hm
    · exact ⟨_, _, _, by assumption, .inl rfl, by assumption, hm⟩
    · exact ⟨_, _, _, by assumption, .inr rfl, by assumption, hm⟩
    · cases hm
  obtain ⟨ds, i, dd, e1, e2, e3, e4⟩ := key
  refine Subscript_ (ee_two (P := fun _ _ _ => True) (f := ma) ha hb hA L e1 e3 fun v u s2 h1 h2 k => ?_)
  obtain ⟨j, g1, g2, g3, g4, g5⟩ := atI_get e4
  have hn := line63
  unfold Hd at h2
  obtain ⟨t, rfl⟩ := h2
  rcases e2 with rfl | rfl
  · unfold Hd at h1
    obtain ⟨p, its, rfl, ⟨o, n, z1, z2, z3, z4⟩, hl, hz⟩ := h1
    have tp : IsTup s2.heap p its.toArray := ⟨o, z1, z2, n, z4⟩
    obtain ⟨x, ex, hx⟩ := hl.get g2
    have le := hl.len
    exact subscriptTail_builtinR (x := x) tp.typeIs slot_tuple_getitem.lookup
      (getItem_tuple (j := j) (Q := fun r s' => r = x ∧ (Hd s'.heap d r ∧ Keeps s s')) tp (by omega) (by omega) (by rw [List.size_toArray, ← le]; exact g1) (by simpa using ex) ⟨rfl, hx, k⟩) (hs _ _)
  · unfold Hd at h1
    obtain ⟨p, its, rfl, pl, hl, hz⟩ := h1
    obtain ⟨x, ex, hx⟩ := hl.get g2
    have le := hl.len
    by_cases h0 : 0 ≤ i
    · have hj : i.toNat = j := by
        rw [seqIndex_of h0 g5] at g1
        exact Option.some.inj g1
      exact item_listR pl.isList h0 (by omega) (by rw [hj]; simpa using ex) ⟨hx, k⟩ (hs _ _)
    · have hj : (i + (its.toArray.size : Int)).toNat = j := by
        rw [seqIndex_neg (by omega) g4] at g1
        rw [List.size_toArray, ← le]
        exact Option.some.inj g1
      exact subscriptTail_builtinR (x := x) pl.isList.typeIs slot_list_getitem.lookup
        (wpAny_getItem_list_neg (Q := fun r s' => r = x ∧ (Hd s'.heap d r ∧ Keeps s s')) pl.isList (by omega) (by rw [List.size_toArray] <;> omega) (by omega) (by rw [hj]; simpa using ex) ⟨rfl, hx, k⟩) (hs _ _)
/-- rows of ints -/
theorem HdL.ints {h : Heap} : ∀ {ds : List Dat} {vs : List Value} {ns : List Int}, HdL h ds vs → ints? ds = some ns → IntsAre vs ns
  | [], vs, ns, e, z => by
    unfold HdL at e
    subst e
    cases z
    exact .nil
  | .int k :: ds, vs, ns, e, z => by
    unfold HdL at e
    obtain ⟨y, ys, rfl, e2, e3⟩ := e
    unfold ints? at z
    cases z2 : ints? ds with
    | none => rw [z2] at z; cases z
    | some ks =>
      rw [z2] at z
      cases z
      unfold Hd at e2
      obtain ⟨t, rfl⟩ := e2
      exact .cons _ _ (e3.ints z2)
  | .none :: _, _, _, _, z => by cases z
  | .bool _ :: _, _, _, _, z => by cases z
  | .str _ :: _, _, _, _, z => by cases z
  | .list _ :: _, _, _, _, z => by cases z
  | .tuple _ :: _, _, _, _, z => by cases z
  | .dict _ :: _, _, _, _, z => by cases z
theorem count_tup_ints {prog : Program} {w : World} {A : Around} {E : Value → Shared → Prop} {s : Shared} {l : Addr} {vs : List Value} {ns : List Int} {k : Int} {t : Tok} {Q : Value → Shared → Prop} (hl : IsTup s.heap l vs.toArray) (hi : IntsAre vs ns)
    (h : Q (.int (ns.count k : Nat) s.toks) { s with toks := s.toks + 1 }) : wpAny (model prog w) A (call (.builtin "tuple.count") [.ref l, .int k t]) Q E s := by
  obtain ⟨⟨cls, dd, data, sl⟩, ho, hc, n, hd⟩ := id hl
  simp only at hc hd
  subst hc hd
  refine call_meets PySem.F.slot_tuple_count ⟨_, ho, rfl⟩ PySem.F.entry_tuple_count (PySem.F.args_tuple_count_2 _ _) (PySem.SeqAt.tuple_countAt l vs.toArray n dd sl (.int k t) (isInt k)) ⟨ho, fun y hy => (eq_isInt k t hi y (by simpa using hy)).at _ _, ?_⟩
  rw [show vs.toArray.toList = vs from rfl, countP_isInt k hi]
  exact h
/-- xs.count(k) -/
def cntE (ma mb : EM) : EM := fun en => match ma en, mb en with
  | some (.tuple ds), some (.int i) => (ints? ds).map fun ns => .int (ns.count i : Nat)
  | some (.list ds), some (.int i) => (ints? ds).map fun ns => .int (ns.count i : Nat)
  | _, _ => none
theorem ee_count {apos : Pos} (ha : EE prog w nm a ma) (hb : EE prog w nm b mb) (hbase : ∀ cenv : Env, attributeBase a "count" cenv (eval a cenv) = eval a cenv := by intro _; rfl)
    (hfew : ∀ cenv : Env, ((backTo pos (starEach [b] cenv)).all (fun z => !z.1) && (backToKw pos (keywordEach [] cenv)).all (fun z => z.1.isSome) && decide ([b].length + ([] : List Keyword).length + (if ([] : List Keyword).isEmpty then 0 else 1) < 30)) = true := by intro _; rfl)
    (hline : (apos.endLine == pos.line) = true := by rfl) (hs : ∀ cenv : Env, starEach [b] cenv = (false, eval b cenv) :: starEach [] cenv := by intro _; rfl) (hplain : ∀ cenv : Env, (backTo pos (starEach [] cenv)).any (·.1) = false := by intro _; rfl) :
    EE prog w nm (.Call (.Attribute a "count" apos) [b] [] pos) (cntE ma mb) := by
  intro cenv A' E' en s d hA L hm
  have key : ∃ ds i dd ns, ma en = some dd ∧ (dd = .tuple ds ∨ dd = .list ds) ∧ mb en = some (.int i) ∧ ints? ds = some ns ∧ d = .int (ns.count i : Nat) := by
    unfold cntE at hm
    split at hm
    · obtain ⟨ns, z1, z2⟩ := Option.map_eq_some_iff.mp hm
      exact ⟨_, _, _, ns, by assumption, .inl rfl, by assumption, z1, z2.symm⟩
    · obtain ⟨ns, z1, z2⟩ := Option.map_eq_some_iff.mp hm
      exact ⟨_, _, _, ns, by assumption, .inr rfl, by assumption, z1, z2.symm⟩
    · cases hm
  obtain ⟨ds, i, dd, ns, e1, e2, e3, e4, rfl⟩ := key
  refine wpAny_Call_method_late (hbase cenv) (hfew cenv) hline rfl (wpAny_mono (ha cenv A' E' en s dd hA L e1) (fun v s1 z => ?_) fun _ _ e => e)
  obtain ⟨h1, k1⟩ := z
  have args : ∀ {id : String} {p : Addr}, (∀ (t : Tok) (s2 : Shared), Hd s2.heap dd v → Keeps s s2 → wpAny (model prog w) A' (call (.builtin id) [.ref p, .int i t]) (fun y s' => Hd s'.heap (.int (ns.count i : Nat)) y ∧ Keeps s s') E' s2) →
      wpAny (model prog w) A' (callWith pos (.builtin id) [.ref p] (backTo pos (starEach [b] cenv)) []) (fun y s' => Hd s'.heap (.int (ns.count i : Nat)) y ∧ Keeps s s') E' s1 := by
    intro id p fin
    rw [hs cenv]
    refine Calls.callWith_builtin (by show (false || (backTo pos (starEach [] cenv)).any (·.1)) = false; rw [hplain cenv]; rfl) (Calls.evalArgs_plain (Calls.spliced_cons (wpAny_mono (hb cenv A' E' en s1 _ hA (L.keeps k1) e3) (fun u s2 z => ?_) fun _ _ e => e)))
    obtain ⟨h2, k2⟩ := z
    unfold Hd at h2
    obtain ⟨t, rfl⟩ := h2
    refine Calls.spliced_nil (fin t s2 ?_ (Keeps.trans' k1 k2))
    obtain ⟨h', tk, rfl, k⟩ := k2
    exact Hd.mono (.of k) dd v h1
  rcases e2 with rfl | rfl
  · have h1' := h1
    unfold Hd at h1'
    obtain ⟨p, its, rfl, ⟨o, n, z1, z2, z3, z4⟩, hl, hz⟩ := h1'
    refine ⟨"tuple", "tuple.count", PySem.F.plainAttrs_tuple, PySem.F.slot_tuple_count, PySem.F.type_tuple_count, ⟨o, z1, z2⟩, (fun b eb => by cases eb; exact ⟨o, z1, z3⟩), args fun t s2 h2 k2 => ?_⟩
    unfold Hd at h2
    obtain ⟨p2, its2, ep, ⟨o2, n2, y1, y2, y3, y4⟩, hl2, hz2⟩ := h2
    cases ep
    exact count_tup_ints ⟨o2, y1, y2, n2, y4⟩ (hl2.ints e4) ⟨by unfold Hd; exact ⟨_, rfl⟩, Keeps.trans' k2 (GxR.keeps_tok _ _)⟩
  · have h1' := h1
    unfold Hd at h1'
    obtain ⟨p, its, rfl, ⟨o, n, z1, z2, z3, z4⟩, hl, hz⟩ := h1'
    refine ⟨"list", "list.count", PySem.F.plainAttrs_list, PySem.F.slot_list_count, PySem.F.type_list_count, ⟨o, z1, z2⟩, (fun b eb => by cases eb; exact ⟨o, z1, z3⟩), args fun t s2 h2 k2 => ?_⟩
    unfold Hd at h2
    obtain ⟨p2, its2, ep, pl2, hl2, hz2⟩ := h2
    cases ep
    exact count_list_ints pl2.isList (hl2.ints e4) ⟨by unfold Hd; exact ⟨_, rfl⟩, Keeps.trans' k2 (GxR.keeps_tok _ _)⟩
end
end MP

namespace MP
open PySem PySem.Spec PyProof.Rows L2
/-! generator expressions whose element calls nothing: the walk, all and any of one -/
/-- the walk over v, made at s1: its items are ds -/
def ItP (prog : Program) (w : World) (v : Value) (s1 : Shared) (ds : List Dat) : Prop :=
  ∃ (o : Obj) (fp : List Addr) (Pf : Nat → Value → Prop) (St : Nat → Heap → Prop),
    (∀ (A : Around) (Q : Value → Shared → Prop) (E : Value → Shared → Prop), Q (.ref s1.heap.objs.size) { s1 with heap := s1.heap.push o } → wpAny (model prog w) A (pyIter v) Q E s1) ∧
    (∀ A' : Around, A'.handled = none → Walks prog w A' s1.heap.objs.size fp [s1.heap.objs.size] ds.length Pf St) ∧
    (∀ b ∈ fp, b ≤ s1.heap.objs.size) ∧ (∀ b ∈ fp, ∀ u, s1.heap.get? b = some u → u.cls ≠ .none) ∧ St 0 (s1.heap.push o) ∧
    (∀ i y, Pf i y → ∃ d, ds[i]? = some d ∧ Hd s1.heap d y)
theorem itp_list {prog : Program} {w : World} {s1 : Shared} {a : Addr} {vs : List Value} {ds : List Dat} (h : PlainL s1.heap a vs.toArray) (hl : HdL s1.heap ds vs) : ItP prog w (.ref a) s1 ds := by
  obtain ⟨ob, n, e1, e2, e3, e4⟩ := id h
  have hlt : a < s1.heap.objs.size := Heap.lt_size e1
  refine ⟨{ cls := .type "list_iterator", data := .fields #[.ref a, .int 0 0] }, [s1.heap.objs.size, a], (fun i v => vs.toArray[i]? = some v), (fun i h => h.IsListIter s1.heap.objs.size a i ∧ h.IsList a vs.toArray),
    fun A Q E hQ => wpAny_pyIter_list h.isList hQ, fun A' hA => ?_, fun b hb => ?_, fun b hb u hu => ?_, ⟨⟨_, Heap.get?_push_size _ rfl, rfl, rfl⟩, ⟨ob, Heap.get?_push_of_some _ e1, e2, n, e4⟩⟩, fun i y hy => ?_⟩
  · have e : ds.length = vs.toArray.size := by rw [List.size_toArray]; exact hl.len
    rw [e]
    exact Walks.list hA _ _ (Nat.ne_of_lt hlt) _
  · rcases List.mem_cons.mp hb with z | z
    · exact Nat.le_of_eq z
    · rcases List.mem_cons.mp z with z | z
      · rw [z]; exact Nat.le_of_lt hlt
      · cases z
  · rcases List.mem_cons.mp hb with z | z
    · rw [z] at hu
      exact absurd (Heap.lt_size hu) (Nat.lt_irrefl _)
    · rcases List.mem_cons.mp z with z | z
      · rw [z, e1] at hu
        cases hu
        rw [e2]
        intro z
        cases z
      · cases z
  · have hy' : vs[i]? = some y := by simpa using hy
    exact hl.back hy'
theorem itp_tup {prog : Program} {w : World} {s1 : Shared} {a : Addr} {vs : List Value} {ds : List Dat} (h : IsTup s1.heap a vs.toArray) (hl : HdL s1.heap ds vs) : ItP prog w (.ref a) s1 ds := by
  obtain ⟨ob, e1, e2, n, e4⟩ := id h
  have hlt : a < s1.heap.objs.size := Heap.lt_size e1
  refine ⟨{ cls := .type "tuple_iterator", data := .fields #[.ref a, .int 0 0] }, [s1.heap.objs.size, a], (fun i v => vs.toArray[i]? = some v), (fun i h => h.IsTupleIter s1.heap.objs.size a i ∧ h.IsTuple a vs.toArray),
    fun A Q E hQ => wpAny_pyIter_tuple ⟨ob, e1, e2, n, e4⟩ hQ, fun A' hA => ?_, fun b hb => ?_, fun b hb u hu => ?_, ⟨⟨_, Heap.get?_push_size _ rfl, rfl, rfl⟩, ⟨ob, Heap.get?_push_of_some _ e1, e2, n, e4⟩⟩, fun i y hy => ?_⟩
  · have e : ds.length = vs.toArray.size := by rw [List.size_toArray]; exact hl.len
    rw [e]
    exact Walks.tuple hA _ _ (Nat.ne_of_lt hlt) _
  · rcases List.mem_cons.mp hb with z | z
    · exact Nat.le_of_eq z
    · rcases List.mem_cons.mp z with z | z
      · rw [z]; exact Nat.le_of_lt hlt
      · cases z
  · rcases List.mem_cons.mp hb with z | z
    · rw [z] at hu
      exact absurd (Heap.lt_size hu) (Nat.lt_irrefl _)
    · rcases List.mem_cons.mp z with z | z
      · rw [z, e1] at hu
        cases hu
        rw [e2]
        intro z
        cases z
      · cases z
  · have hy' : vs[i]? = some y := by simpa using hy
    exact hl.back hy'
/-- the truths of the element over the items -/
def trE (m : EM) (cd : List Dat) (ds : List Dat) (j : Nat) : Bool := match ds[j]? with
  | some d => (match m (d :: cd) with | some (.bool b) => b | _ => false)
  | none => false
section
variable {X : Cx} {pins : List (Addr × Obj)} {σ : L2.St} {H : Hp} {s : Shared}
/-- the captured names: at the state s they hold cd -/
def Caps (X : Cx) (scope : Scope) (cs : List Str) (cd : List Dat) (s : Shared) : Prop :=
  ∀ (i : Nat) (n : Str) (d : Dat), cs[i]? = some n → cd[i]? = some d → scope.names.lookup n = some .free ∧ ∃ v c, Hd s.heap d v ∧ X.env.cells.lookup n = some c ∧ s.heap.IsCell c (some v)
theorem gen_dat {c P : Addr} {elt iter : Expr} {x : Str} {px gpos : Pos} {scope : Scope} {cs : List Str} {m : EM} {k : Nat} {Q' : Value → Shared → Prop} {R : List Dat → List Dat → Hp → Prop}
    (hr : Room k X.A) (TB : GxR.TabB X.base X.mg c P) (hcode : X.env.code = .ref c) (S : GxR.GenS X.env scope x) (hel : EE X.prog X.w (x :: cs) elt m)
    (hs : ∀ v, genFold iter X.env v = pure v)
    (h : wpAny (model X.prog X.w) X.A (eval iter X.env) (fun u s1 => ∃ ds H1 cd, Inv X pins σ H1 s1 ∧ ItP X.prog X.w u s1 ds ∧ Caps X scope cs cd s1 ∧ (∀ d ∈ ds, ∃ b, m (d :: cd) = some (.bool b)) ∧ GxR.TabG H1 P ∧ R ds cd H1) X.xe s)
    (hQ : ∀ ds cd H1 g s5, R ds cd H1 → (∃ (fp wr : List Addr) (G : Array GenState → Array GenState → Prop) (F : Nat → Value → Prop) (St : Nat → Shared → Prop),
      WalksS X.prog X.w X.A.in1 g fp wr G ds.length F St ∧ St 0 s5 ∧ TruthOf X.prog X.w X.A.in1 F (trE m cd ds) ∧ ∀ s', Moved wr G s5 s' → ∃ H2, GxR.Tabbed P H1 H2 ∧ Inv X pins σ H2 s') → Q' (.ref g) s5) :
    wpAny (model X.prog X.w) X.A (eval (.GeneratorExp elt [⟨.Name x px, iter, [], 0⟩] scope gpos) X.env) Q' X.xe s := by
  refine wpAny_GeneratorExp_walksQ hr.hd S.co (closure_ok S.free) S.cell S.dot S.loc S.kind (by have := hr.dp; omega) ?_ hs
  refine thn h fun xv s1 ⟨ds, H1, cd, I1, ⟨o, fp0, Pf0, St0, hpy, W0, hfp, hcl0, hst0, hit⟩, hcaps, hm, ⟨ps, hP, ht⟩, q1⟩ => ?_
  refine hpy _ _ _ ?_
  have hPs : s1.heap.get? P = some { cls := .none, data := .fields ps } := I1.hok P _ hP
  have hPlt : P < s1.heap.objs.size := Heap.lt_size hPs
  have hP2 : (s1.heap.push o).get? P = some { cls := .none, data := .fields ps } := Heap.get?_push_of_some _ hPs
  have cd2 : PySem.W.CodeHd (s1.heap.push o) c P := TB.code.keeps fun b u e => Heap.get?_push_of_some _ (I1.bk b u e)
  have lim2 : (s1.heap.push o).NoLimit := I1.nolimit.push o
  have hPfp : P ∉ fp0 := fun z => hcl0 P z _ hPs rfl
  have cont : ∀ (code : Value) (h3 : Heap) (tk : Nat) (ps' : Array Value), Heap.ExtBut P (s1.heap.push o) h3 → (s1.heap.push o).objs.size ≤ h3.objs.size → h3.get? P = some { cls := .none, data := .fields ps' } → (∃ more, ps' = ps ++ more) → TriplesOk ps'.toList →
      wpAny (model X.prog X.w) X.A (builtinsFor X.env.globals X.env.builtins) (fun bi s₄ =>
        ∃ Ia fp wr n₀ Pf St₀ pz F, Value.ref s1.heap.objs.size = .ref Ia ∧ (∀ A' : Around, A'.handled = none → Walks X.prog X.w A' Ia fp wr n₀ Pf St₀) ∧ St₀ 0 s₄.heap ∧ (∀ b ∈ fp, b < s₄.heap.objs.size) ∧ s₄.heap.NoLimit ∧ cStatics ∉ wr ∧
          (∀ href : Heap, (∀ b o, s₄.heap.get? b = some o → href.get? b = some o) →
            QuietGen X.prog X.w (genEnv scope (cloFrom X.env.cells scope.names []) s₄.heap.objs.size code bi X.env) x [] elt (List.range s₄.heap.objs.size) wr Pf pz F href) ∧
          (∀ a h₅ tk gs, gs.bare = true → s₄.heap.objs.size < a → h₅.objs.size = a + 1 → (∀ b o, s₄.heap.get? b = some o → h₅.get? b = some o) →
            WalksS X.prog X.w X.A.in4 a (a :: s₄.heap.objs.size :: List.range s₄.heap.objs.size) (s₄.heap.objs.size :: wr) (GenOnlyQ s₄.gens.size) (passing pz n₀ 0).length
              (fun j y => ∃ i, (passing pz n₀ 0)[j]? = some i ∧ F i y) (GenAt X.prog X.w X.A.in4 a s₄.gens.size s₄.heap.objs.size (List.range s₄.heap.objs.size) wr pz n₀ F) →
            GenAt X.prog X.w X.A.in4 a s₄.gens.size s₄.heap.objs.size (List.range s₄.heap.objs.size) wr pz n₀ F 0 { s₄ with gens := s₄.gens.push gs, toks := tk, heap := h₅ } →
            Q' (.ref a) { s₄ with gens := s₄.gens.push gs, toks := tk, heap := h₅ })) X.xe { s1 with heap := h3, toks := tk } := by
    intro code h3 tk ps' hx hsz hP3 hmore ht3
    obtain ⟨bm, ob, e1, e2, e3, e4, e5, e6, e7, e8⟩ := TB.bm
    have hcP : cStatics ≠ P := fun e => by
      obtain ⟨_, hns, _⟩ := I1.nolimit
      obtain ⟨o', es, ep, ho, hd, _⟩ := hns
      rw [e, hPs] at ho
      cases ho
      cases hd
    have hcl : cStatics < s1.heap.objs.size := let ⟨_, hns, _⟩ := I1.nolimit; hns.lt
    have sz2 : (s1.heap.push o).objs.size = s1.heap.objs.size + 1 := Heap.size_push ..
    have keep3 : ∀ b u, b ≠ P → s1.heap.get? b = some u → h3.get? b = some u := fun b u hb e => hx b u hb (Heap.get?_push_of_some _ e)
    have klo3 : Klo s1.heap h3 := fun b u e n => keep3 b u (fun z => by rw [z, hPs] at e; cases e; exact n _ rfl) e
    refine wpAny_builtinsFor (m := X.mg) (by rw [I1.ok.glob]; exact ((I1.mod.glob.keeps I1.bk).push o).extBut hx TB.gP) e1 e2 (keep3 _ _ e4 (I1.bk _ _ e5)) e6 e7 e8 ?_
    refine ⟨s1.heap.objs.size, fp0, [s1.heap.objs.size], ds.length, Pf0, St0, (fun _ => true),
      (fun i y => ∃ d b, ds[i]? = some d ∧ m (d :: cd) = some (.bool b) ∧ y = .bool b), rfl, W0, ?_, ?_, lim2.extBut hx hcP, ?_, ?_, ?_⟩
    · exact (W0 X.A hr.hd).frame _ _ _ hst0 fun b hb u e => hx b u (fun z => hPfp (z ▸ hb)) e
    · intro b hb
      show b < h3.objs.size
      have h9 : (s1.heap.push o).objs.size ≤ h3.objs.size := hsz
      rw [sz2] at h9
      exact Nat.lt_of_lt_of_le (Nat.lt_succ_of_le (hfp b hb)) h9
    · intro z
      rcases List.mem_cons.mp z with z | z
      · exact Nat.ne_of_lt hcl z
      · cases z
    · intro href hhref
      refine ⟨fun A' E' i v s₂ m₂ hA hPv hn hm2 hk => ?_, fun A' E' i v s₂ m₂ hA hPv hp hn hm2 hk => ?_⟩
      · simp only [List.forIn_nil]
        exact wpAny_pure ⟨rfl, GxR.keeps_refl _⟩
      · obtain ⟨d, hd, hv⟩ := hit i v hPv
        obtain ⟨b, hb⟩ := hm d (List.mem_of_getElem? hd)
        have klo : Klo s1.heap s₂.heap := fun b u e n => by
          have e3 := klo3 b u e n
          refine hk b (List.mem_range.mpr (Heap.lt_size e3)) (fun z => ?_) u (hhref b u e3)
          rcases List.mem_cons.mp z with z | z
          · rw [z] at e
            exact absurd (Heap.lt_size e) (Nat.lt_irrefl _)
          · cases z
        have L : Lds (genEnv scope (cloFrom X.env.cells scope.names []) h3.objs.size code builtinsNs X.env) (x :: cs) (d :: cd) s₂.heap := by
          refine ⟨S.kind, fun j n dj hj1 hj2 => ?_⟩
          cases j with
          | zero =>
            cases hj1
            cases hj2
            exact ⟨v, Hd.mono klo d v hv, .inl ⟨S.loc, m₂, hn, hm2⟩⟩
          | succ j =>
            obtain ⟨hf, v2, c2, g1, g2, oc, g3, g4⟩ := hcaps j n dj hj1 hj2
            have hy : (n, NameKind.free) ∈ scope.names := PySem.mem_of_lookup hf
            obtain ⟨c3, g5⟩ := mem_lookup (cloFrom_has (cells := X.env.cells) (acc := []) hy)
            have e9 : c3 = c2 := by
              rcases cloFrom_mem (PySem.mem_of_lookup g5) with hm' | ⟨h1, h2⟩
              · cases hm'
              · rw [h2, g2] <;> rfl
            refine ⟨v2, Hd.mono klo dj v2 g1, .inr ⟨hf, c2, by rw [← e9]; exact g5, oc, klo _ _ g3 (fun q z => by rw [g4] at z; cases z), g4⟩⟩
        refine wpAny_mono (hel _ A' E' (d :: cd) s₂ _ hA L hb) (fun y s3 r => ?_) fun _ _ e => e
        obtain ⟨r1, r2⟩ := r
        unfold Hd at r1
        exact ⟨⟨d, b, hd, hb, r1⟩, r2⟩
    · intro g h5 tk5 gs hgb hag hsz5 hk5 W5 hat
      simp only [GxR.passing_true, List.length_range] at W5
      refine hQ ds cd H1 g _ q1 ⟨_, _, _, _, _, W5.in4_1, hat, ?_, fun s' hm => ?_⟩
      · intro j y sj Qj Ej hy hQj
        obtain ⟨i, hij, d, b, hd, hb, rfl⟩ := hy
        obtain ⟨hj, ej⟩ := List.getElem?_eq_some_iff.mp hij
        rw [List.getElem_range] at ej
        subst ej
        have e9 : trE m cd ds j = b := by
          unfold trE
          rw [hd]
          show (match m (d :: cd) with | some (.bool b) => b | _ => false) = b
          rw [hb]
        rw [e9] at hQj
        exact wpAny_truthy_bool hQj
      · obtain ⟨more, em⟩ := hmore
        have nwr : ∀ b u, s1.heap.get? b = some u → b ∉ h3.objs.size :: [s1.heap.objs.size] := fun b u e hb => by
          have hl := Heap.lt_size e
          rcases List.mem_cons.mp hb with z | z
          · rw [z] at hl
            have h9 : (h3.objs.size : Nat) < s1.heap.objs.size := hl
            omega
          · rcases List.mem_cons.mp z with z | z
            · rw [z] at hl
              exact Nat.lt_irrefl _ hl
            · cases z
        have J := GxR.inv_tab (more := more) (h' := s'.heap) (g' := s'.gens) (d' := s'.drawn) (t' := s'.toks) I1 hP (fun b u hb e => hm.heap b u (nwr b u e) (hk5 b u (keep3 b u hb e)))
          (by rw [← em]; exact hm.heap P _ (nwr P _ hPs) (hk5 P _ hP3)) (AllBare.movedS (I1.bare.push hgb) hm)
        rw [GxR.sh_eta s1 s' hm.os] at J
        refine ⟨upd H1 P (.tbl (ps ++ more)), ⟨⟨ps ++ more, upd_same, by rw [← em]; exact ht3⟩, fun b hb => upd_ne hb⟩, J⟩
  refine ⟨lim2, ?_⟩
  cases hf : codeAmong gpos ps.toList with
  | none =>
    refine wpAny_genexprCodeX hcode (cd2.code hP2 ht) (cd2.tab hP2) hf fun c' h' tk hx hge hlt hco' _ htab' _ => ?_
    obtain ⟨o1, vs, f1, tf, fl, tg, inF, tx, tt, op, _, _, _, _, _, _, _, _, _, htr, _⟩ := hco'
    exact cont _ h' tk _ hx (Nat.le_trans hge (Nat.le_of_lt hlt)) htab'.2 ⟨_, rfl⟩ htr
  | some cv =>
    refine wpAny_genexprCode_hit hcode (cd2.code hP2 ht) hf ?_
    exact cont cv (s1.heap.push o) s1.toks ps (Heap.ExtBut.refl _ _) (Nat.le_refl _) hP2 ⟨#[], by simp⟩ ht
end
/-! ### all and any -/
section
variable {X : Cx} {pins : List (Addr × Obj)} {σ : L2.St} {H : Hp} {s : Shared}
theorem range_all {m : EM} {cd : List Dat} : ∀ {ds : List Dat}, (List.range ds.length).all (trE m cd ds) = ds.all fun d => (match m (d :: cd) with | some (.bool b) => b | _ => false) := by
  intro ds
  rw [Bool.eq_iff_iff, List.all_eq_true, List.all_eq_true]
  constructor
  · intro h d hd
    obtain ⟨j, hj, e⟩ := List.getElem_of_mem hd
    have q := h j (List.mem_range.mpr hj)
    unfold trE at q
    rw [List.getElem?_eq_getElem hj, e] at q
    exact q
  · intro h j hj
    have hj' := List.mem_range.mp hj
    unfold trE
    rw [List.getElem?_eq_getElem hj']
    exact h _ (List.getElem_mem hj')
theorem range_any {m : EM} {cd : List Dat} : ∀ {ds : List Dat}, (List.range ds.length).any (trE m cd ds) = ds.any fun d => (match m (d :: cd) with | some (.bool b) => b | _ => false) := by
  intro ds
  rw [Bool.eq_iff_iff, List.any_eq_true, List.any_eq_true]
  constructor
  · rintro ⟨j, hj, h⟩
    have hj' := List.mem_range.mp hj
    unfold trE at h
    rw [List.getElem?_eq_getElem hj'] at h
    exact ⟨_, List.getElem_mem hj', h⟩
  · rintro ⟨d, hd, h⟩
    obtain ⟨j, hj, e⟩ := List.getElem_of_mem hd
    refine ⟨j, List.mem_range.mpr hj, ?_⟩
    unfold trE
    rw [List.getElem?_eq_getElem hj, e]
    exact h
/-- an expression that can be walked over: its items -/
abbrev TQ := L2.St → Hp → (List Dat → Hp → Prop) → Prop
def PQ (X : Cx) (iter : Expr) (t : TQ) : Prop := ∀ (pins : List (Addr × Obj)) (s : Shared) (σ : L2.St) (H : Hp) (R : List Dat → Hp → Prop), Inv X pins σ H s → t σ H R →
  wpAny (model X.prog X.w) X.A (eval iter X.env) (fun u s1 => ∃ ds H1, Inv X pins σ H1 s1 ∧ ItP X.prog X.w u s1 ds ∧ R ds H1) X.xe s
def fld (all : Bool) (m : EM) (cd ds : List Dat) : Bool := cond all (ds.all fun d => (match m (d :: cd) with | some (.bool b) => b | _ => false)) (ds.any fun d => (match m (d :: cd) with | some (.bool b) => b | _ => false))
def tQ (X : Cx) (all : Bool) (P : Addr) (scope : Scope) (cs : List Str) (m : EM) (t : TQ) : TE := fun σ H Q => t σ H fun ds H1 =>
  ∃ cd, (∀ pins s1, Inv X pins σ H1 s1 → Caps X scope cs cd s1) ∧ (∀ d ∈ ds, ∃ b, m (d :: cd) = some (.bool b)) ∧ GxR.TabG H1 P ∧ ∀ H2, GxR.Tabbed P H1 H2 → Q (.bl (fld all m cd ds)) H2
theorem tQ_run {all : Bool} {c P : Addr} {iter : Expr} {scope : Scope} {cs : List Str} {m : EM} {t : TQ} (hi : PQ X iter t) (I : Inv X pins σ H s) {Q : VK} (h : tQ X all P scope cs m t σ H Q) :
    wpAny (model X.prog X.w) X.A (eval iter X.env) (fun u s1 => ∃ ds H1 cd, Inv X pins σ H1 s1 ∧ ItP X.prog X.w u s1 ds ∧ Caps X scope cs cd s1 ∧ (∀ d ∈ ds, ∃ b, m (d :: cd) = some (.bool b)) ∧ GxR.TabG H1 P ∧ ∀ H2, GxR.Tabbed P H1 H2 → Q (.bl (fld all m cd ds)) H2) X.xe s := by
  refine thn (hi pins s σ H _ I h) fun u s1 ⟨ds, H1, I1, hI, cd, hc, hm, hP, q⟩ => ?_
  exact ⟨ds, H1, cd, I1, hI, hc pins s1 I1, hm, hP, q⟩
theorem pe_allG {c P : Addr} {elt iter : Expr} {x : Str} {px gpos p pos : Pos} {scope : Scope} {cs : List Str} {m : EM} {t : TQ} {k : Nat}
    (hr : Room k X.A) (hg : Gl X "all") (hm : X.mg "all" = none) (hb : bootBuiltins "all" = some (.builtin "all")) (TB : GxR.TabB X.base X.mg c P) (hcode : X.env.code = .ref c) (S : GxR.GenS X.env scope x) (hi : PQ X iter t) (hel : EE X.prog X.w (x :: cs) elt m)
    (hs : ∀ v, genFold iter X.env v = pure v)
    (he : starEach [.GeneratorExp elt [⟨.Name x px, iter, [], 0⟩] scope gpos] X.env = (false, eval (.GeneratorExp elt [⟨.Name x px, iter, [], 0⟩] scope gpos) X.env) :: starEach [] X.env := by rfl) :
    PE X (.Call (.Name "all" p) [.GeneratorExp elt [⟨.Name x px, iter, [], 0⟩] scope gpos] [] pos) (tQ X true P scope cs m t) := by
  refine ⟨fun pins s σ H Q I h => ?_⟩
  refine wpAny_Call_Name_kw (ld_blt I hg hm hb ?_)
  refine PyProof.Rows.callWith_builtin1 ?_ he (by rfl)
  rw [he]
  show wpAny _ _ (spliced ((false, eval (.GeneratorExp elt [⟨.Name x px, iter, [], 0⟩] scope gpos) X.env) :: backTo pos (starEach [] X.env))) _ _ s
  refine Calls.spliced_cons (gen_dat (R := fun ds cd H1 => ∀ H2, GxR.Tabbed P H1 H2 → Q (.bl (fld true m cd ds)) H2) hr TB hcode S hel hs (tQ_run (c := c) hi I h) fun ds cd H1 g s5 hR hG => ?_)
  obtain ⟨fp, wr, G, F, St, W, hst, htr, hI⟩ := hG
  refine Calls.spliced_nil ?_
  refine call_all_walkS (W.self 0 _ _ _ hst ⟨g, fp, wr, G, _, F, St, _, rfl, W, hst, htr, fun s' hmv => ?_⟩)
  obtain ⟨H2, hT, J⟩ := hI s' hmv
  refine ⟨.bl _, H2, J, rfl, ?_⟩
  rw [range_all]
  exact hR H2 hT
theorem pe_anyG {c P : Addr} {elt iter : Expr} {x : Str} {px gpos p pos : Pos} {scope : Scope} {cs : List Str} {m : EM} {t : TQ} {k : Nat}
    (hr : Room k X.A) (hg : Gl X "any") (hm : X.mg "any" = none) (TB : GxR.TabB X.base X.mg c P) (hcode : X.env.code = .ref c) (S : GxR.GenS X.env scope x) (hi : PQ X iter t) (hel : EE X.prog X.w (x :: cs) elt m)
    (hs : ∀ v, genFold iter X.env v = pure v)
    (he : starEach [.GeneratorExp elt [⟨.Name x px, iter, [], 0⟩] scope gpos] X.env = (false, eval (.GeneratorExp elt [⟨.Name x px, iter, [], 0⟩] scope gpos) X.env) :: starEach [] X.env := by rfl) :
    PE X (.Call (.Name "any" p) [.GeneratorExp elt [⟨.Name x px, iter, [], 0⟩] scope gpos] [] pos) (tQ X false P scope cs m t) := by
  refine ⟨fun pins s σ H Q I h => ?_⟩
  refine wpAny_Call_Name_kw (ld_blt I hg hm boot_any ?_)
  refine PyProof.Rows.callWith_builtin1 ?_ he (by rfl)
  rw [he]
  show wpAny _ _ (spliced ((false, eval (.GeneratorExp elt [⟨.Name x px, iter, [], 0⟩] scope gpos) X.env) :: backTo pos (starEach [] X.env))) _ _ s
  refine Calls.spliced_cons (gen_dat (R := fun ds cd H1 => ∀ H2, GxR.Tabbed P H1 H2 → Q (.bl (fld false m cd ds)) H2) hr TB hcode S hel hs (tQ_run (c := c) hi I h) fun ds cd H1 g s5 hR hG => ?_)
  obtain ⟨fp, wr, G, F, St, W, hst, htr, hI⟩ := hG
  refine Calls.spliced_nil ?_
  refine call_any_walkS (W.self 0 _ _ _ hst ⟨g, fp, wr, G, _, F, St, _, rfl, W, hst, htr, fun s' hmv => ?_⟩)
  obtain ⟨H2, hT, J⟩ := hI s' hmv
  refine ⟨.bl _, H2, J, rfl, ?_⟩
  rw [range_any]
  exact hR H2 hT
end
section
variable [Tbs] {G : Ctl} {K : Fg} {F : Hp} {ps : PS} {σ : L2.St} {H H1 : Hp}
/-- a table grows -/
theorem Post.tabbed (r : Rep G K F ps σ H) {P : Addr} (hP : P ∈ Tbs.tb K) (t : GxR.Tabbed P H H1) : Post G K F ps σ H F ps H1 := by
  obtain ⟨⟨qs, t1, t2⟩, t3⟩ := t
  obtain ⟨qs0, p1, p2⟩ := r.tabs P hP
  obtain ⟨_, nx, _⟩ := r.tab P hP
  have keep : ∀ a o, H a = some o → (∀ q, o ≠ .tbl q) → H1 a = some o := fun a o e n => by
    rw [t3 a fun z => ?_]
    · exact e
    · rw [z, p1] at e
      cases e
      exact n _ rfl
  have own : ∀ p, Own ps σ H p → H1 p = H p := fun p o => by
    obtain ⟨u, e, hm, _⟩ := r.ownH o
    rw [e]
    exact keep p u e fun q z => by rw [z] at hm; exact hm
  have fN := r.tabF P hP
  have fh : Same F H1 := fun a o e => by
    rw [t3 a fun z => ?_]
    · exact r.fh a o e
    · rw [z, fN] at e
      cases e
  refine ⟨⟨r.len, fun i s e => ?_, fun i j p h h' => r.sep i j p ((r.ownAt own).mp h) ((r.ownAt own).mp h'), fun h => ?_, r.ft, fh, fun a o e x => ?_, r.f0, r.ff, r.nd, r.tab, fun i j path q e h => r.ali i j path q e (r.tAt own h)⟩, Same.refl F, fun p o hm h1 h2 h3 h4 => ⟨keep p o h1 fun q z => (by rw [z] at hm; exact hm), h2, fun z => h4 ((r.ownI own).mp z)⟩, fun a h => ?_, fun i path q h => r.tAt own h⟩
  · obtain ⟨o, e1, q⟩ := r.slots i s e
    exact ⟨o, e1, q.mono (Same.refl F) fun p hp => by
      have ow : Own ps σ H p := ⟨i, s, o, e, e1, hp⟩
      obtain ⟨u, h1, _, h2, h3⟩ := r.ownH ow
      exact ⟨own p ow, h2⟩⟩
  · exact (r.dr h).keep fun a o e x => by
      rw [t3 a fun z => nx ⟨h, by rw [← z]; exact x⟩]
      exact e
  · by_cases z : a = P
    · rw [z] at e x ⊢
      rcases r.kp P o e x with y | ⟨a1, b1, e1, e2, e3, e4⟩
      · rw [p1] at y
        cases y
        exact .inr ⟨qs0, qs, rfl, p2, t1, t2⟩
      · exact .inr ⟨a1, qs, e1, e2, t1, t2⟩
    · rw [t3 a z]
      exact r.kp a o e x
  · by_cases z : a = P
    · rw [z, t1] at h
      cases h
    · rw [← t3 a z]
      exact h
end
/-! ### the layer's rules -/
section
variable [Tbs] {X : Cx} {e a : Expr} {te : TE} {fe : M RV}
structure DQ (X : Cx) (iter : Expr) (t : TQ) (f : M (List Dat)) : Prop where
  pe : PQ X iter t
  go : ∀ (G : Ctl) (F : Hp) (ps : PS) (σ : L2.St) (H : Hp) (ds : List Dat) (ps' : PS) (R : List Dat → Hp → Prop), Rep G X.K F ps σ H → f ps = some (ds, ps') → (∀ F' H', Post G X.K F ps σ H F' ps' H' → R ds H') → t σ H R
def seqQ (X : Cx) (te : TE) : TQ := fun σ H R => te σ H fun v H1 => ∃ ds, (∀ pins u s1, Inv X pins σ H1 s1 → RelV v u → ItP X.prog X.w u s1 ds) ∧ R ds H1
def itM (fe : M RV) : M (List Dat) := fun ps => (keepM fe ps).bind fun x => (items? x.1).map fun ds => (ds, x.2)
theorem dq_seq (he : DE X e te fe) : DQ X e (seqQ X te) (itM fe) := by
  refine ⟨fun pins s σ H R I h => ?_, fun G F ps σ H ds ps' R Rp e q => ?_⟩
  · refine thn (he.pe.run pins s σ H _ I h) fun u s1 ⟨v, H1, I1, r1, ds, h1, h2⟩ => ?_
    exact ⟨ds, H1, I1, h1 pins u s1 I1 r1, h2⟩
  · unfold itM at e
    obtain ⟨⟨d, ps1⟩, e1, e⟩ := Option.bind_eq_some_iff.mp e
    obtain ⟨ds', e2, e⟩ := Option.map_eq_some_iff.mp e
    cases e
    refine keepM_go he.sn Rp e1 fun v F1 H1 P1 r1 => ⟨ds, fun pins u s1 I1 rv => ?_, q F1 H1 P1⟩
    have hh := hd_rel I1 P1.rep.fh d v u r1 rv
    rcases items_ok e2 with rfl | rfl
    · unfold Hd at hh
      obtain ⟨p, its, rfl, pl, hl, _⟩ := hh
      exact itp_list pl hl
    · unfold Hd at hh
      obtain ⟨p, its, rfl, ⟨o, n, z1, z2, z3, z4⟩, hl, _⟩ := hh
      exact itp_tup ⟨o, z1, z2, n, z4⟩ hl
theorem walks_lt {prog : Program} {w : World} {A : Around} {I : Addr} {fp wr : List Addr} {n : Nat} {P : Nat → Value → Prop} {St : Nat → Heap → Prop} (W : Walks prog w A I fp wr n P St) : Walks prog w A I fp wr n (fun i v => i < n ∧ P i v) St where
  sub := W.sub
  frame := W.frame
  item := fun i s Q E hi st hQ => W.item i s Q E hi st fun v h' tk hp => hQ v h' tk ⟨hi, hp⟩
  done := W.done
  self := W.self
theorem itp_rng {prog : Program} {w : World} {s1 : Shared} {r : Addr} {a b : Int} {t u v : Tok} (h : IsRange s1.heap r a b 1 t u v) (ok : RgOk a b) : ItP prog w (.ref r) s1 (rgD a (b - a).toNat) := by
  obtain ⟨b1, b2, b3, b4, b5⟩ := ok
  have hl : (rgD a (b - a).toNat).length = (b - a).toNat := by unfold rgD; rw [List.length_map, List.length_range]
  refine ⟨{ cls := .type "range_iterator", data := .fields #[rawInt a, rawInt (Builtin.Range.rangeSize a b 1), rawInt 1] }, [s1.heap.objs.size], (fun i v => i < (b - a).toNat ∧ ∃ t, v = .int (a + (i : Nat) * 1) t), (fun i h => IsRangeIter h s1.heap.objs.size (a + (i : Nat) * 1) (((b - a).toNat : Int) - (i : Nat)) 1),
    fun A Q E hQ => wpAny_pyIter_range h (small_one b1 b2 b3 b4) hQ, fun A' hA => ?_, fun b hb => ?_, fun b hb u hu => ?_, ?_, fun i y hy => ?_⟩
  · rw [hl]
    exact walks_lt (Walks.range hA _ a 1 (b - a).toNat)
  · rcases List.mem_cons.mp hb with z | z
    · exact Nat.le_of_eq z
    · cases z
  · rcases List.mem_cons.mp hb with z | z
    · rw [z] at hu
      exact absurd (Heap.lt_size hu) (Nat.lt_irrefl _)
    · cases z
  · rw [rangeSize_nat]
    have e1 : a + ((0 : Nat) : Int) * 1 = a := by omega
    have e2 : (((b - a).toNat : Nat) : Int) - ((0 : Nat) : Int) = (((b - a).toNat : Nat) : Int) := by omega
    show IsRangeIter _ _ (a + ((0 : Nat) : Int) * 1) (((b - a).toNat : Int) - ((0 : Nat) : Int)) 1
    rw [e1, e2]
    exact Heap.get?_push_size _ rfl
  · obtain ⟨hi, t, rfl⟩ := hy
    refine ⟨.int (a + (i : Nat)), ?_, ?_⟩
    · unfold rgD
      rw [List.getElem?_map, List.getElem?_range hi]
      rfl
    · unfold Hd
      exact ⟨t, by rw [Int.mul_one]⟩
def rngQ (tr : TR) : TQ := fun σ H R => tr σ H fun a b H1 => RgOk a b ∧ R (rgD a (b - a).toNat) H1
def rngM (f : M (Int × Int)) : M (List Dat) := fun ps => (f ps).bind fun x => if rgB x.1 then some (rgD x.1.1 (x.1.2 - x.1.1).toNat, x.2) else none
theorem dq_rng {tr : TR} {f : M (Int × Int)} (h : DR X e tr f) : DQ X e (rngQ tr) (rngM f) := by
  refine ⟨fun pins s σ H R I hq => ?_, fun G F ps σ H ds ps' R Rp e q => ?_⟩
  · refine thn (h.pe pins s σ H _ I hq) fun x s1 ⟨r, a, b, t, u, v, H1, ex, hr, I1, ok, q⟩ => ?_
    subst ex
    exact ⟨_, H1, I1, itp_rng hr ok, q⟩
  · unfold rngM at e
    obtain ⟨⟨z, ps1⟩, e1, e⟩ := Option.bind_eq_some_iff.mp e
    split at e
    · rename_i hz
      cases e
      exact h.go G F ps σ H _ _ _ Rp e1 fun F1 H1 P1 => ⟨rgB_ok hz, q F1 H1 P1⟩
    · cases e
/-- the captured names' data -/
def capD (ps : PS) : List Nat → Option (List Dat)
  | [] => some []
  | i :: is => match ps.sl[i]? with
    | some (.fr d) => (capD ps is).map (d :: ·)
    | _ => none
theorem capD_get {ps : PS} : ∀ {is : List Nat} {cd : List Dat}, capD ps is = some cd → ∀ {j : Nat} {d : Dat}, cd[j]? = some d → ∃ i, is[j]? = some i ∧ ps.sl[i]? = some (.fr d)
  | [], cd, h, j, d, e => by cases h; cases j <;> cases e
  | i :: is, cd, h, j, d, e => by
    unfold capD at h
    split at h
    · rename_i d' hd
      obtain ⟨cd', h1, rfl⟩ := Option.map_eq_some_iff.mp h
      cases j with
      | zero => cases e; exact ⟨i, rfl, hd⟩
      | succ j => exact capD_get h1 (j := j) e
    · cases h
structure CapOk (X : Cx) (scope : Scope) (cs : List Str) (ci : List Nat) : Prop where
  get : ∀ (j : Nat) (n : Str) (i : Nat), cs[j]? = some n → ci[j]? = some i → X.N[i]? = some n ∧ scope.names.lookup n = some .free ∧ (X.env.scope.names.lookup n = some .cell ∨ X.env.scope.names.lookup n = some .free)
theorem caps_ok {scope : Scope} {cs : List Str} {ci : List Nat} {G : Ctl} {F H : Hp} {ps : PS} {σ : L2.St} {pins : List (Addr × Obj)} {s : Shared} {cd : List Dat} (C : CapOk X scope cs ci) (R : Rep G X.K F ps σ H) (I : Inv X pins σ H s) (h : capD ps ci = some cd) : Caps X scope cs cd s := by
  intro j n d hn hd
  obtain ⟨i, e1, e2⟩ := capD_get h hd
  obtain ⟨h1, h2, h3⟩ := C.get j n i hn e1
  obtain ⟨o, e3, v, rfl, r⟩ := R.slots i _ e2
  obtain ⟨m, hm, hl⟩ := I.loc
  obtain ⟨u, ru, q⟩ := hl i n v h1 e3 (h3.elim (fun z => .inr (.inl z)) (fun z => .inr (.inr z)))
  refine ⟨h2, u, ?_⟩
  rcases q with ⟨k, _⟩ | ⟨_, c, e', z⟩
  · have k : X.env.scope.names.lookup n = some .local := k
    rcases h3 with z | z <;> rw [z] at k <;> cases k
  · exact ⟨c, hd_rel I R.fh d v u r ru, e', z⟩
def allM (b : Bool) (f : M (List Dat)) (ci : List Nat) (m : EM) : M RV := fun ps => (f ps).bind fun x => (capD x.2 ci).bind fun cd =>
  if x.1.all (fun d => (match m (d :: cd) with | some (.bool _) => true | _ => false)) then some (.im (.bool (fld b m cd x.1)), x.2) else none
theorem snd_allG {b : Bool} {P : Addr} {scope : Scope} {cs : List Str} {ci : List Nat} {m : EM} {t : TQ} {f : M (List Dat)} (C : CapOk X scope cs ci) (hP : P ∈ Tbs.tb X.K) (h : DQ X e t f) : SndE X.K (tQ X b P scope cs m t) (allM b f ci m) := by
  refine ⟨fun G F ps σ H r ps' Q R e q => ?_⟩
  unfold allM at e
  obtain ⟨⟨ds, ps1⟩, e1, e⟩ := Option.bind_eq_some_iff.mp e
  obtain ⟨cd, e2, e⟩ := Option.bind_eq_some_iff.mp e
  split at e
  · rename_i hall
    cases e
    refine h.go G F ps σ H ds ps1 _ R e1 fun F1 H1 P1 => ⟨cd, fun pins s1 I1 => caps_ok C P1.rep I1 e2, fun d hd => ?_, P1.rep.tabs P hP, fun H2 T => ?_⟩
    · have := List.all_eq_true.mp hall d hd
      split at this
      · exact ⟨_, by assumption⟩
      · cases this
    · have rr : Rel X.K F1 G.T (.bool (fld b m cd ds)) (.bl (fld b m cd ds)) := by unfold Rel; rfl
      exact q _ F1 H2 (P1.trans (Post.tabbed P1.rep hP T)) rr
  · cases e
theorem de_allG {c P : Addr} {elt : Expr} {x : Str} {px gpos p pos : Pos} {scope : Scope} {cs : List Str} {ci : List Nat} {m : EM} {t : TQ} {f : M (List Dat)} {k : Nat}
    (hr : Room k X.A) (hg : Gl X "all") (hm : X.mg "all" = none) (hb : bootBuiltins "all" = some (.builtin "all")) (TB : GxR.TabB X.base X.mg c P) (hP : P ∈ Tbs.tb X.K) (hcode : X.env.code = .ref c) (S : GxR.GenS X.env scope x) (C : CapOk X scope cs ci) (hi : DQ X e t f) (hel : EE X.prog X.w (x :: cs) elt m)
    (hs : ∀ v, genFold e X.env v = pure v)
    (he : starEach [.GeneratorExp elt [⟨.Name x px, e, [], 0⟩] scope gpos] X.env = (false, eval (.GeneratorExp elt [⟨.Name x px, e, [], 0⟩] scope gpos) X.env) :: starEach [] X.env := by rfl) :
    DE X (.Call (.Name "all" p) [.GeneratorExp elt [⟨.Name x px, e, [], 0⟩] scope gpos] [] pos) (tQ X true P scope cs m t) (allM true f ci m) :=
  ⟨pe_allG hr hg hm hb TB hcode S hi.pe hel hs he, snd_allG C hP hi⟩
theorem de_anyG {c P : Addr} {elt : Expr} {x : Str} {px gpos p pos : Pos} {scope : Scope} {cs : List Str} {ci : List Nat} {m : EM} {t : TQ} {f : M (List Dat)} {k : Nat}
    (hr : Room k X.A) (hg : Gl X "any") (hm : X.mg "any" = none) (TB : GxR.TabB X.base X.mg c P) (hP : P ∈ Tbs.tb X.K) (hcode : X.env.code = .ref c) (S : GxR.GenS X.env scope x) (C : CapOk X scope cs ci) (hi : DQ X e t f) (hel : EE X.prog X.w (x :: cs) elt m)
    (hs : ∀ v, genFold e X.env v = pure v)
    (he : starEach [.GeneratorExp elt [⟨.Name x px, e, [], 0⟩] scope gpos] X.env = (false, eval (.GeneratorExp elt [⟨.Name x px, e, [], 0⟩] scope gpos) X.env) :: starEach [] X.env := by rfl) :
    DE X (.Call (.Name "any" p) [.GeneratorExp elt [⟨.Name x px, e, [], 0⟩] scope gpos] [] pos) (tQ X false P scope cs m t) (allM false f ci m) :=
  ⟨pe_anyG hr hg hm TB hcode S hi.pe hel hs he, snd_allG C hP hi⟩
end
end MP

namespace MP
open PySem PySem.Spec PyProof.Rows L2
variable [Tbs]
/-! a def whose code object is told -/
theorem fn_okT {P : Program} {w : World} {K : Fg} {mg : Str → Option Value} {base : Heap} {x qual : Str} {st : Stmt} {f : Addr} {fd : FuncData} {N nms : List Str} {k n : Nat} {b : SM} (F : Fun K x qual st f fd) (S : FnScope N nms (defScope st)) (hn : nms.length = n) (hN : n ≤ N.length)
    (hd : ∀ (A : Around) (outer : List Env) (s : Shared) (H : Hp) (E : XK), Room k (A.deeper (envOfC qual (defScope st) s.heap.objs.size f fd.code)) →
      ∃ t, DSs (cxOf CX0 P w K mg base N qual (defScope st) f fd.code A outer s H E).nox (defBody st) t b) : FnOk P w K mg base CX0 (k + 1) f fd nms (spM K n (bodyFn N.length b)) := by
  obtain ⟨oc, od, kV, doc, pm, an, cdv, ct, osl, rfl, lk, hcd⟩ := F.ex
  refine fn_of lk hcd S (fun vs H Q E h => ?_) fun A outer s H vs Q E hr h => ?_
  · obtain ⟨G, F0, dr, dr', ds, r, hl, _⟩ := h
    rw [hl, hn]
  · obtain ⟨G, F0, dr, dr', ds, r, hl, fh, hd', hnd, rl, e, htb, q⟩ := h
    obtain ⟨t, D⟩ := hd A outer s H E hr
    refine ⟨t, D.pe.nox, ?_⟩
    unfold bodyFn at e
    obtain ⟨o, e1, e⟩ := Option.bind_eq_some_iff.mp e
    have R := start_rep (G := ⟨H, F0, G.T, G.C, G.st⟩) (N := N) fh rl (by rw [← rl.len, hl]; exact hN) hd' hnd htb
    have fin : ∀ {F' : Hp} {ps' : PS} {σ' : L2.St} {H' : Hp} {r : RV} {v : V}, ps'.dr = dr' → Rep ⟨H, F0, G.T, G.C, G.st⟩ K F' ps' σ' H' → RetOk K F' G.T H H' r v → (∀ v F' H', Same F0 F' → Same F' H' → (∀ a o, H a = some o → ¬ G.ex a → Kp o (H' a)) → (∀ a, H a ≠ none → F' a = F0 a) → (G.st = true → DrAt G.T G.C H' dr') → (G.st = false → dr' = .no) → (∀ a, H' a = none → H a = none) → RetOk K F' G.T H H' r v → Q v H') → Q v H' := fun {F' ps' σ' H' r v} ed R' hr q => by
      refine q v F' H' R'.ff R'.fh (fun a o h1 h2 => R'.kp a o h1 h2) (fun a h => R'.f0 a h) (fun h => by rw [← ed]; exact R'.dr h) (fun h => by rw [← ed]; exact R'.nd h) (fun a h => ?_) hr
      exact R'.h0 h
    refine D.sn.go ⟨H, F0, G.T, G.C, G.st⟩ F0 _ _ H o _ R e1 ?_
    cases o with
    | nx ps' =>
      cases e
      exact fun F' σ' H' R' s => fin rfl R' (show RetOk K F' G.T H H' (.im .none) V.non from (rNon (K := K) (F := F') (T := G.T)).mpr rfl) q
    | rt r' ps' =>
      cases e
      exact ⟨fun v F' σ' H' R' s hr => fin rfl R' hr q, fun _ _ _ _ _ _ _ _ _ _ => trivial⟩
    | bk ps' => cases e
    | ct ps' => cases e
/-! ### the head by facts, with tables -/
theorem fun_ofD {K : Fg} {x qual : Str} {st : Stmt} {f : Addr} {fd : FuncData} (F : FunD K x qual (defArgs st) (defBody st) (defScope st) [] [] f fd) : Fun K x qual st f fd := by
  obtain ⟨oc, od, dV, kV, doc, pm, an, cdv, ct, osl, e, lk, hcd, hd, _⟩ := F.ex
  rcases hd with ⟨_, rfl⟩ | ⟨z, _⟩
  · exact ⟨⟨oc, od, kV, doc, pm, an, cdv, ct, osl, e, lk, hcd⟩, F.kp⟩
  · exact absurd rfl z
theorem code_ofD {K : Fg} {x qual : Str} {st : Stmt} {p : He.Defn} {fd : FuncData} (F : FunD K x qual (defArgs st) (defBody st) (defScope st) [] [] (He.fAd K p) fd) : fd.code = .ref (He.cT K p).1 := by
  obtain ⟨oc, od, dV, kV, doc, pm, an, cdv, ct, osl, e, lk, hcd, hd, _⟩ := F.ex
  obtain ⟨c, rfl⟩ := He.codeIn_ref hcd
  have h : fd.code = .ref c := by rw [e]
  rw [h]
  exact congrArg Value.ref (He.codeOf_eq lk h).symm
/-- the law at the head's heap: tf, the defs whose tables may grow -/
theorem lawAtT {l : PySem.W.OpenLaw} {w : World} {K : Fg} {k : Nat} {mg : Str → Option Value} {fa : Addr} {h : Heap} {fas : List He.Fa} {fn : List He.DefD} {ts : List He.Tab} {tf : List He.Defn} {ex : Fg → Bool} (KX : K.In h) (c : He.SaysX fas fn ts tf ex w h K)
    (ht : ∀ P ∈ Tbs.tb K, ∃ p ∈ tf, P = (He.cT K p).2) {fd : FuncData} (hb : ∀ (s : Shared) (u : Value), BindsTo s fd ⟨[u], []⟩ [("script", u)])
    (hF : ∀ base : Heap, K.In base → base.Ns mainGlobals mg → (∀ p ∈ tf, GxR.TabB base mg (He.cT K p).1 (He.cT K p).2) → FnOk l.prog w K mg base CX0 k fa fd ["script"] (spLaw K)) :
    LamX.LawAtS l w K CX0 k 63 "script" mg fa h := by
  refine ⟨fd, tf.map fun p => He.cT K p, spLaw K, fun q hq => ?_, fun q hq => ?_, fun q hq => ?_, hb, fun H a ns hl _ hT hS => ⟨a, ns, rfl, hS, hl, fun P hP => ?_, fun _ => rfl⟩, fun base hK hN hB => hF base hK hN fun p hp => ?_⟩
  · obtain ⟨p, hp, rfl⟩ := List.mem_map.mp hq
    exact c.empty p hp
  · obtain ⟨p, hp, rfl⟩ := List.mem_map.mp hq
    exact c.out p hp
  · obtain ⟨p, hp, rfl⟩ := List.mem_map.mp hq
    exact PySem.W.codeHd_of_K KX (c.hd p hp)
  · obtain ⟨p, hp, rfl⟩ := ht P hP
    exact ⟨#[], hT _ (List.mem_map.mpr ⟨p, hp, rfl⟩), True.intro⟩
  · obtain ⟨h1, h2, h3⟩ := hB _ (List.mem_map.mpr ⟨p, hp, rfl⟩)
    exact ⟨h1, h2, h3⟩
/-- a generator expression's scope within a def -/
def genB (sc scope : Scope) (x : Str) : Bool := decide (scope.kind = .function) && !scope.isCoroutine && decide (scope.names.lookup (".0" : Str) = some NameKind.local) && decide (scope.names.lookup x = some .local) &&
  scope.names.all fun y => !decide (y.2 = .cell) && (!decide (y.2 = .free) || decide (sc.names.lookup y.1 = some .cell))
theorem genS_of {qual : Str} {sc : Scope} {L f : Addr} {cdv : Value} {scope : Scope} {x : Str} (h : genB sc scope x = true) : GxR.GenS (envOfC qual sc L f cdv) scope x := by
  unfold genB at h
  simp only [Bool.and_eq_true, Bool.or_eq_true, Bool.not_eq_true', decide_eq_true_eq, decide_eq_false_iff_not, List.all_eq_true] at h
  obtain ⟨⟨⟨⟨h1, h2⟩, h3⟩, h4⟩, h5⟩ := h
  refine ⟨h1, h2, fun y hy => (h5 y hy).1, h3, h4, fun y hy e => ?_⟩
  rcases (h5 y hy).2 with z | z
  · exact absurd e z
  · exact Option.isSome_iff_exists.mp (PySem.W.cellsFrom_some _ _ _ (.inl z))
def capB (N : List Str) (sc scope : Scope) (cs : List Str) (ci : List Nat) : Bool := decide (cs.length = ci.length) && (cs.zip ci).all fun q => decide (N[q.2]? = some q.1) && decide (scope.names.lookup q.1 = some .free) && decide (sc.names.lookup q.1 = some .cell)
theorem capOk_of {X : Cx} {scope : Scope} {cs : List Str} {ci : List Nat} (h : capB X.N X.env.scope scope cs ci = true) : CapOk X scope cs ci := by
  unfold capB at h
  simp only [Bool.and_eq_true, decide_eq_true_eq, List.all_eq_true] at h
  obtain ⟨hl, h⟩ := h
  refine ⟨fun j n i e1 e2 => ?_⟩
  have hz : (cs.zip ci)[j]? = some (n, i) := by
    rw [List.getElem?_zip_eq_some]
    exact ⟨e1, e2⟩
  obtain ⟨⟨h1, h2⟩, h3⟩ := h _ (List.mem_of_getElem? hz)
  exact ⟨h1, h2, .inl h3⟩
end MP

/-! an own exception class below ValueError whose __init__ says super().__init__(rule), self.rule = rule, self.index = index -/
namespace MP
open PySem PySem.Spec PyProof.Rows L2
/-- what the written part says of the class at C, its __init__ at fI -/
structure MeK (prog : Program) (K : PySem.W.Frag) (C fI : Addr) : Prop where
  oex : OexC K C
  iC : PySem.W.findIn K (.ref C) "__init__" = some (some (.ref fI))
  tI : PySem.W.typeIn K (.ref fI) = some (.type "function")
  noR : PySem.W.findIn K (.ref C) "rule" = some none
  noI : PySem.W.findIn K (.ref C) "index" = some none
  opq : PySem.W.nsIn K cStatics "thirdparty.any" = some none
  up : PySem.W.ks_superIn K C C "__init__" = some (some (.builtin "ValueError.__init__"))
  subV : PySem.W.subIn K (.ref C) (.type "ValueError") = some true
  subC : PySem.W.mroIn K C (.ref C) = some true
  nosup : PySem.W.nsIn K mainGlobals "super" = some none
  fn : ∃ (oc : Value) (od : Option Addr) (osl : Array (Option Value)) (name qual : Str) (params : Arguments) (scope : Scope) (cc : Addr) (dV kV doc pm : Value) (an : Option Addr) (cdv ct : Value) (ar : Arg) (cda : Addr) (ccl : Value) (cdd : Option Addr) (vs : Array Value) (ccs : Array (Option Value)) (file : Str) (tf : Tok) (cl : Value) (cld : Option Addr) (csl : Array (Option Value)) (p0 p1 p2 p3 p4 p5 p6 p7 p8 p9 pa pb pc pd : Pos),
    K.lookup fI = some ⟨oc, od, .func (PySem.W.ksFn name qual params [.Expr (.Call (.Attribute (.Call (.Name "super" p0) [] [] p1) "__init__" p2) [.Name "rule" p3] [] p4) p5, .Assign [.Attribute (.Name "self" p6) "rule" p7] (.Name "rule" p8) p9, .Assign [.Attribute (.Name "self" pa) "index" pb] (.Name "index" pc) pd] scope dV kV doc pm an cdv ct cc), osl⟩ ∧
    PySem.W.codeIn K cdv qual = true ∧ cdv = .ref cda ∧ K.lookup cda = some ⟨ccl, cdd, .fields vs, ccs⟩ ∧ vs[2]? = some (.str file tf) ∧ ((prog.main.file : Str) == file) = true ∧
    K.lookup cc = some ⟨cl, cld, .cell (some (.ref C)), csl⟩ ∧ (params.posonlyargs ++ params.args).head? = some ar ∧ ar.arg = "self" ∧
    scope.kind = .function ∧ scope.isCoroutine = false ∧ scope.isGenerator = false ∧ (∀ x ∈ scope.names, x.2 ≠ .cell) ∧ scope.names.lookup ("super" : Str) = some .globalImplicit ∧ scope.names.lookup ("__class__" : Str) = some .free ∧
    scope.names.lookup ("self" : Str) = some .local ∧ scope.names.lookup ("rule" : Str) = some .local ∧ scope.names.lookup ("index" : Str) = some .local ∧
    (∀ (s : Shared) (a b c : Value), BindsTo s (PySem.W.ksFn name qual params [.Expr (.Call (.Attribute (.Call (.Name "super" p0) [] [] p1) "__init__" p2) [.Name "rule" p3] [] p4) p5, .Assign [.Attribute (.Name "self" p6) "rule" p7] (.Name "rule" p8) p9, .Assign [.Attribute (.Name "self" pa) "index" pb] (.Name "index" pc) pd] scope dV kV doc pm an cdv ct cc) ⟨[a, b, c], []⟩ [("self", a), ("rule", b), ("index", c)]) ∧
    (prog.main.scope.names.lookup ("super" : Str)).isSome = false ∧
    (∀ env : Env, ∃ pl : Sem Bool, eval (.Call (.Attribute (.Call (.Name "super" p0) [] [] p1) "__init__" p2) [.Name "rule" p3] [] p4) env = (do
      let ov ← attributeBase (.Call (.Name "super" p0) [] [] p1) "__init__" env (eval (.Call (.Name "super" p0) [] [] p1) env)
      standAt p2.atName
      let (f, first) ← holding [ov] (getMethod ov "__init__" pl)
      callWith p4 f first (backTo p4 (starEach [.Name "rule" p3] env)) []))
section
variable {M : Model} {A : Around} {E : Value → Shared → Prop} {s : Shared}
theorem ldN {env : Env} {m : Str → Option Value} {x : Str} {pos : Pos} {v : Value} {Q : Value → Shared → Prop} (hn : s.heap.Ns env.locals m) (hv : m x = some v) (h : Q v s)
    (hk : env.scope.kind = .function) (hl : env.kindOf x = some .local) (hd : (x == ("__debug__" : Str)) = false := by decide) : wpAny M A (eval (.Name x pos) env) Q E s := wpAny_Name (wpAny_loadName_local hk hl hn hv h) hd
end
section
open PySem.W PySem.Calls
variable {prog : Program} {w : World} {A : Around} {E : Value → Shared → Prop} {h : Heap} {g : Array GenState} {d : Drawn} {t : Nat} {os : OsState}
variable {nm q : Str} {C N : Addr} {bs bm : List Value} {hdct : Bool} {sn : List Str} {sub : List Value} {ab : Bool} {col : Option Bool} {dd : Option Addr} {k0 k1 k2 k3 k5 : Option Value}
theorem call_mw {u e t0 : Addr} {rest : List Value} {Q : Value → Shared → Prop}
    (hC : h.get? C = some (excClassObj nm q C N bs bm hdct sn sub ab col dd k0 k1 k2 k3 k5 "ValueError.__new__")) (he : h.get? e = some (PySem.HandSPX.excO C t0)) (hu : h.get? u = some (kxs_mw "ValueError.__init__" e)) (hrest : rest.length ≤ sizeLine)
    (hq : ∀ h' t1, (∀ b o, b ≠ e → h.get? b = some o → h'.get? b = some o) → h'.get? e = some (PySem.HandSPX.excO C t1) → Q .none ⟨h', g, d, t, os⟩) :
    wpAny (model prog w) A (call (.ref u) rest) Q E ⟨h, g, d, t, os⟩ := by
  have FB := PySem.F.excBase_ValueError
  refine wpAny_call (codeAny_of_tree ?_)
  show wpAny _ A.in1 (callAny (.ref u) ⟨rest, []⟩) _ _ _
  simp only [callAny]
  refine wpAny_bind (wpAny_load hu ?_)
  simp only [kxs_mw, show (Value.type "method-wrapper" == Value.type "method" || Value.type "method-wrapper" == Value.type "builtin_function_or_method" || Value.type "method-wrapper" == Value.type "method-wrapper") = true by decide, if_true]
  refine KFB.if_so (by decide) ?_
  refine wpAny_bind (check_bound_init FB.toExcCallFacts hC he rfl ?_)
  refine wpAny_bind (wpAny_pure (wpAny_pure ?_))
  refine ⟨plainId_quiet FB.init.plain _, codeAny_builtin FB.initEntry ?_⟩
  exact exc_init_tree (cls := .ref C) (t0 := t0) (dv := none) (c2 := .none) (c3 := .none) (b4 := .bool false) he hrest fun h' k e' t' => hq h' _ k e'
end
section
variable {prog : Program} {w : World} {A : Around} {R : Result → Shared → Prop} {h : Heap} {g : Array GenState} {d : Drawn} {t : Nat} {os : OsState} {K : PySem.W.Frag} {C fI e t0 : Addr} {u1 u2 : Value} {mg mb : Str → Option Value}
theorem me_init (M : MeK prog K C fI) (X : K.In h) (G : h.Ns mainGlobals mg) (B : h.Ns builtinsNs mb) (hmg : mg "super" = none) (hmb : mb "super" = some (.type "super")) (hlim : h.NoLimit) (hroom : A.depth < recursionLimit) (he : h.get? e = some (PySem.HandSPX.excO C t0)) (hKe : K.lookup e = none)
    (hq : ∀ h' dx t1 t', (∀ b o, b ≠ e → h.get? b = some o → h'.get? b = some o) → h.objs.size ≤ dx → dx ≠ e → h'.get? e = some ({ cls := .ref C, dict := some dx, data := .fields #[.ref t1, .none, .none, .none, .bool false, .none] } : Obj) →
      h'.Ns1 dx (fun y => if y = "index" then some u2 else if y = "rule" then some u1 else none) → R (.ok (.ret .none)) ⟨h', g, d, t', os⟩) :
    codeAny (model prog w) A (.call (.ref fI) ⟨[.ref e, u1, u2], []⟩) R ⟨h, g, d, t, os⟩ := by
  obtain ⟨oc, od, osl, name, qual, params, scope, cc, dV, kV, doc, pm, an, cdv, ct, ar, cda, ccl, cdd, vs, ccs, file, tf, cl, cld, csl, p0, p1, p2, p3, p4, p5, p6, p7, p8, p9, pa, pb, pc, pd, hf, hcd, rfl, hcode, hvs, hfile, hcell, hp, har, hk, hco, hgen, hnc, hks, hkc, hself, hrule, hindex, hbind, htop, hmc⟩ := M.fn
  obtain ⟨nm, q, N, bs, bm, sn, sub, ab, col, dd, k0, k1, k2, k3, k5, hC, hbm⟩ := M.oex.cls
  have hcl : PySem.W.clsIn K C = some { name := nm, bases := bs, mro := .ref C :: bm, ns := N, qualname := q, hasDict := true, slotNames := sn, subclasses := sub, abstract := ab, collection := col, hasDel := false } := by unfold PySem.W.clsIn; rw [hC] <;> rfl
  have heC : e ≠ C := fun z => by
    have := X _ _ hC
    rw [← z, he] at this
    cases this
  refine ks_codeAny_call_defAt (fd := PySem.W.ksFn name qual params _ scope dV kV doc pm an (.ref cda) ct cc) hroom (X _ _ hf) rfl hlim (PySem.W.codeRec_of X hcd) rfl (hbind _ _ _ _) hnc (fun x hx => ?_) (fun h1 hns k1' => ?_) hco hgen hk
  · simp only [List.mem_cons, List.not_mem_nil, or_false] at hx
    rcases hx with rfl | rfl | rfl
    · exact hself
    · exact hrule
    · exact hindex
  have keep1 : ∀ b o, h.get? b = some o → h1.get? b = some o := k1'
  have X1 : K.In h1 := fun b o z => keep1 b o (X b o z)
  have G1 := G.at fun o z => keep1 _ o z
  have B1 := B.at fun o z => keep1 _ o z
  have he1 := keep1 _ _ he
  have hD1 := X1 _ _ hC
  obtain ⟨pl, hpl⟩ := hmc (callEnv (PySem.W.ksFn name qual params [.Expr (.Call (.Attribute (.Call (.Name "super" p0) [] [] p1) "__init__" p2) [.Name "rule" p3] [] p4) p5, .Assign [.Attribute (.Name "self" p6) "rule" p7] (.Name "rule" p8) p9, .Assign [.Attribute (.Name "self" pa) "index" pb] (.Name "index" pc) pd] scope dV kV doc pm an (.ref cda) ct cc) h.objs.size fI)
  have hint : ∀ env : Env, env.scope = scope → interactive env = false := fun env z => by
    unfold interactive
    rw [z, hk]
    rfl
  refine ks_wpAt_execs_cons (ks_wpAt_Expr_any (hi := hint _ rfl) (ks_wpAt_MethodCall (pl := pl) (he := hpl) (ks_wpAt_super_base hks hkc rfl rfl (X1 _ _ hf) rfl hp rfl (X1 _ _ hcode) rfl hvs hfile htop ?_)))
  refine PySem.W.ks_loadName_global hk hks (Calls.loadGlobal_builtin G1 hmg B1 hmb ⟨rfl, ?_⟩)
  refine wpAny_loadName_free hk hkc rfl ⟨_, X1 _ _ hcell, rfl⟩ ?_
  refine wpAny_loadName_local hk (by rw [har]; exact hself) hns (by rw [har]; rfl) ?_
  refine ks_wpAny_isType_cls hD1 rfl ⟨rfl, ?_⟩
  refine ks_wpAny_call_super hD1 rfl he1 rfl (fun c z => by cases z) (PySem.W.looks_mroIn X1 M.subC) (fun h2 e2 k2 => ?_)
  have X2 : K.In h2 := fun b o z => k2 b o (X1 b o z)
  have he2 := k2 _ _ he1
  have J2 : PySem.W.InstAt h2 e (PySem.HandSPX.excO C t0) C none := ⟨he2, rfl, rfl, trivial⟩
  have hI : PySem.W.Looks (model prog w) h2 (isInstance (.ref e) (.type "ValueError")) true := J2.type.andThen (PySem.W.looks_subIn X2 M.subV)
  have hup := M.up
  unfold PySem.W.ks_superIn at hup
  rw [hcl] at hup
  refine PySem.W.kxs_getMethod PySem.W.kxs_ValueError e2 (PySem.W.looks_opaque X2 M.opq) (l₀ := .ref C :: bm) ((PySem.W.looks_clsIn X2 hcl).andThen .now) rfl X2 hup hI heC rfl ?_
  have hns2 := hns.at fun o z => k2 _ o z
  obtain ⟨env, henv⟩ : ∃ env, env = callEnv (PySem.W.ksFn name qual params [.Expr (.Call (.Attribute (.Call (.Name "super" p0) [] [] p1) "__init__" p2) [.Name "rule" p3] [] p4) p5, .Assign [.Attribute (.Name "self" p6) "rule" p7] (.Name "rule" p8) p9, .Assign [.Attribute (.Name "self" pa) "index" pb] (.Name "index" pc) pd] scope dV kV doc pm an (.ref cda) ct cc) h.objs.size fI := ⟨_, rfl⟩
  have hsc : env.scope = scope := by rw [henv]; rfl
  have hlo : env.locals = h.objs.size := by rw [henv]; rfl
  have hko : ∀ x, env.kindOf x = scope.names.lookup x := fun x => by rw [henv]; rfl
  show wpAny _ _ (callWith p4 _ [] (backTo p4 (starEach [.Name "rule" p3] (callEnv _ _ _))) []) _ _ _
  rw [← henv]
  refine PySem.W.kxs_callWith (i := "ValueError.__init__") (x := e) rfl (Calls.evalArgs_plain (args_cons (e := .Name "rule" p3) (rest := []) (env := env) (ldN (m := fun x => ([("self", .ref e), ("rule", u1), ("index", u2)] : List (Str × Value)).reverse.lookup x) (v := u1) (by rw [hlo]; exact hns2.at fun o z => Heap.get?_push_of_some _ z) rfl (args_nil ⟨?_, ?_⟩) (by rw [hsc]; exact hk) (by rw [hko]; exact hrule))))
  · exact Heap.get?_push_at rfl rfl
  have eL : e < h.objs.size := Heap.lt_size he
  have Ke : ∀ {a : Addr} {o : Obj}, K.lookup a = some o → a ≠ e := fun {a o} z y => by rw [y, hKe] at z; cases z
  obtain ⟨h3, hh3⟩ : ∃ h3, h3 = h2.push (PySem.W.kxs_mw "ValueError.__init__" e) := ⟨_, rfl⟩
  have k3 : ∀ b o, h2.get? b = some o → h3.get? b = some o := fun b o z => by rw [hh3]; exact Heap.get?_push_of_some _ z
  have hu3 : h3.get? h2.objs.size = some (PySem.W.kxs_mw "ValueError.__init__" e) := by rw [hh3]; exact Heap.get?_push_at rfl rfl
  show wpAny _ _ (call (.ref h2.objs.size) [u1]) _ _ ⟨h2.push (PySem.W.kxs_mw "ValueError.__init__" e), _, _, _, _⟩
  rw [← hh3]
  refine call_mw (k3 _ _ (X2 _ _ hC)) (k3 _ _ he2) hu3 (by show 1 ≤ sizeLine; decide) (fun h4 t1 k4 he4 => ?_)
  have X4 : K.In h4 := fun b o z => k4 b o (Ke z) (k3 b o (X2 b o z))
  have hns4 : h4.Ns h.objs.size (fun x => ([("self", .ref e), ("rule", u1), ("index", u2)] : List (Str × Value)).reverse.lookup x) := hns2.at fun o z => k4 _ o (Nat.ne_of_gt eL) (k3 _ o z)
  show PySem.wpAt _ _ _ (execs _ env) _ _ _
  have ld : ∀ {hh : Heap} {g' : Array GenState} {d' : Drawn} {tt : Nat} {os' : OsState} {x : Str} {v : Value} {pos : Pos} {A' : Around} {Q : Value → Shared → Prop} {E' : Value → Shared → Prop}, hh.Ns h.objs.size (fun x => ([("self", .ref e), ("rule", u1), ("index", u2)] : List (Str × Value)).reverse.lookup x) →
      (([("self", .ref e), ("rule", u1), ("index", u2)] : List (Str × Value)).reverse.lookup x) = some v → scope.names.lookup x = some .local → (x == ("__debug__" : Str)) = false → Q v ⟨hh, g', d', tt, os'⟩ → wpAny (model prog w) A' (eval (.Name x pos) env) Q E' ⟨hh, g', d', tt, os'⟩ := fun a b c z y => ldN (by rw [hlo]; exact a) b y (by rw [hsc]; exact hk) (by rw [hko]; exact c) z
  refine ks_wpAt_execs_cons (ks_wpAt_Assign_Attr (wpAt_of_wpAny (ld hns4 rfl hrule (by decide) (ld hns4 rfl hself (by decide) ?_))))
  refine PySem.W.set_plain X4 (ox := { cls := .ref C, dict := none, data := .fields #[.ref t1, .none, .none, .none, .bool false, .none] }) (od := none) ⟨he4, rfl, rfl, trivial⟩ M.oex.sa ?_
  refine PySem.HandSPX.exc_osa X4 he4 hcl (show PySem.HandSPX.refsVE (.ref C :: bm) = true from hbm) rfl M.noR (fun h5 tk5 dx k5 hle dne he5 hn5 => ?_)
  have X5 : K.In h5 := fun b o z => k5 b o (Ke z) (X4 b o z)
  have hns5 := hns4.at fun o z => k5 _ o (Nat.ne_of_gt eL) z
  obtain ⟨oL, esL, epL, hL4, _⟩ := hns4
  have ltL : h.objs.size < h4.objs.size := Heap.lt_size hL4
  refine ks_wpAt_execs_cons (ks_wpAt_Assign_Attr (wpAt_of_wpAny (ld hns5 rfl hindex (by decide) (ld hns5 rfl hself (by decide) ?_))))
  have hw : Within (fun y => if y = ("rule" : Str) then some u1 else none) ["rule"] := fun y hy => by
    by_cases z : y = "rule"
    · rw [z]; exact List.mem_cons_self
    · exact absurd (if_neg z) hy
  obtain ⟨oD, _, _, hoD, _, _⟩ := hn5.count hw
  refine PySem.W.set_plain X5 (ox := { cls := .ref C, dict := some dx, data := .fields #[.ref t1, .none, .none, .none, .bool false, .none] }) (od := some oD) ⟨he5, rfl, rfl, hoD⟩ M.oex.sa ?_
  refine PySem.OEX.osa_old X5 he5 hn5 hw (by decide) hcl (show PySem.HandSPX.refsVE (.ref C :: bm) = true from hbm) rfl M.noI (fun h6 tk6 k6 hn6 => ?_)
  refine wpAt_of_wpAny (wpAny_execs_nil ?_)
  refine hq h6 dx t1 _ (fun b o hb z => ?_) (Nat.le_trans (Nat.le_of_lt ltL) hle) dne (k6 _ _ (Ne.symm dne) he5) hn6
  have z4 := k4 _ _ hb (k3 _ _ (k2 _ _ (keep1 _ _ z)))
  exact k6 _ _ (Nat.ne_of_lt (Nat.lt_of_lt_of_le (Heap.lt_size z4) hle)) (k5 _ _ hb z4)
end
end MP

/-! the exception made: C(rule, index) -/
namespace MP
open PySem PySem.Spec PyProof.Rows L2
/-- the fields of a made exception -/
abbrev xfs (v1 v2 : V) : List (Str × V) := [("index", v2), ("rule", v1)]
def tMe (C : Addr) (ta : TA) : L2.St → Hp → XK → Prop := fun σ H Q => ta σ H fun vs H1 => ∃ v1 v2, vs = [v1, v2] ∧ ∀ d, H1 d = none → Q (.ref C) (some d) (upd H1 d (.xd (xfs v1 v2)))
theorem pmk_me {X : Cx} {C fI : Addr} {x : Str} {e1 e2 : Expr} {ta : TA} {p pos : Pos} (M : MeK X.prog X.K C fI) (hr : Room 2 X.A) (hg : Gl X x) (hm : X.mg x = some (.ref C)) (ha : PA X (e1 :: [e2]) ta)
    (hdb : (x == ("__debug__" : Str)) = false := by decide) (he : starEach (e1 :: [e2]) X.env = (false, eval e1 X.env) :: starEach [e2] X.env := by rfl) (hpl : (backTo pos (starEach [e2] X.env)).any (·.1) = false := by rfl) :
    PMk X (.Call (.Name x p) (e1 :: [e2]) [] pos) (tMe C ta) := by
  intro pins s σ H Q I h
  obtain ⟨nm, q, N, bs, bm, sn, sub, ab, col, dd, k0, k1, k2, k3, k5, hC, hbm⟩ := M.oex.cls
  refine wpAny_Call_Name_kw (ld_glob I hg hm ?_ hdb)
  refine PySem.W.callWith_K (h₀ := X.base) I.ok.mod.kin M.oex.kC (thn (ha.run pos pins s σ H _ I h) fun us s1 ⟨vs, H1, I1, r1, q1⟩ => ⟨I1.kIn, ?_⟩) he hpl
  show wpAny _ _ (call (.ref C) us) _ _ _
  obtain ⟨v1, v2, ev, q1⟩ := q1
  subst ev
  obtain ⟨u1, u2, rfl, rv1, rv2⟩ : ∃ u1 u2, us = [u1, u2] ∧ RelV v1 u1 ∧ RelV v2 u2 := by
    cases r1 with
    | cons p q =>
      cases q with
      | cons p' q' =>
        cases q'
        exact ⟨_, _, rfl, p, p'⟩
  obtain ⟨mb, hb1, hb2⟩ := I1.mod.blt
  have hmg : X.mg "super" = none := PySem.W.mg_none_of I1.kIn (I1.mod.glob.keeps I1.bk) M.nosup
  have hlim := I1.nolimit
  have G0 := I1.mod.glob.keeps I1.bk
  have B0 := hb1.keeps I1.bk
  obtain ⟨hp, g, dr, tk, os⟩ := s1
  have kk : ∀ b o, hp.get? b = some o → ((hp.push (PySem.W.kdv_tup [u1, u2])).push (PySem.HandSPX.excO C hp.objs.size)).get? b = some o := fun b o e => Heap.get?_push_of_some _ (Heap.get?_push_of_some _ e)
  have hget : ((hp.push (PySem.W.kdv_tup [u1, u2])).push (PySem.HandSPX.excO C hp.objs.size)).get? (hp.objs.size + 1) = some (PySem.HandSPX.excO C hp.objs.size) := by heap_get
  refine wpAny_call (PySem.HandSPX.call_own F.excBase_ValueError (fun Y => PySem.HandSPX.refsVE_contains Y bm hbm) (I1.kIn _ _ hC) (PySem.W.looks_findIn I1.kIn M.iC) (fun self => PySem.W.bind_fn I1.kIn self M.tI) (by show 2 ≤ sizeLine; decide) ?_)
  refine me_init (mg := X.mg) (mb := mb) M (fun b o z => kk b o (I1.kIn b o z)) (G0.keeps kk) (B0.keeps kk) hmg ((hb2 "super" (by decide)).trans (by kernel_rfl)) (hlim.keeps kk) (by have := (hr.make C [u1, u2] []).dp; omega) hget ?_ fun h' dx t1 t' k hle dne he' hn => ?_
  · cases z : X.K.lookup (hp.objs.size + 1) with
    | none => rfl
    | some o =>
      have := Heap.lt_size (I1.kIn _ _ z)
      exact absurd this (Nat.not_lt_of_le (Nat.le_succ _))
  · have hsz : ((hp.push (PySem.W.kdv_tup [u1, u2])).push (PySem.HandSPX.excO C hp.objs.size)).objs.size = hp.objs.size + 2 := by simp [Heap.push]
    have hle : hp.objs.size + 2 ≤ dx := by rw [← hsz]; exact hle
    have hd1 : H1 dx = none := I1.hok.fresh (show hp.objs.size ≤ dx by omega)
    have nha : ∀ {b : Addr} {o : Obj}, hp.get? b = some o → b ≠ hp.objs.size + 1 := fun {b o} z => by
      exact Nat.ne_of_lt (Nat.lt_of_lt_of_le (Heap.lt_size z) (Nat.le_succ _))
    obtain ⟨G, g1', g2'⟩ := restrict h' fun b => decide (b ≠ hp.objs.size + 1)
    have gk : ∀ b, b ≠ hp.objs.size + 1 → G.get? b = h'.get? b := fun b hb => g1' b (decide_eq_true hb)
    have ge : G.get? (hp.objs.size + 1) = none := g2' _ (by simp)
    have kG : ∀ b o, hp.get? b = some o → G.get? b = some o := fun b o z => by
      rw [gk b (nha z)]
      exact k b o (nha z) (kk b o z)
    have rel : ∀ f, RelO ((xfs v1 v2).lookup f) ((fun y => if y = ("index" : Str) then some u2 else if y = ("rule" : Str) then some u1 else none) f) := fun f => relO_put rv2 (fun f => relO_put (fs := []) (mA := fun _ => none) rv1 (fun _ => True.intro) f) f
    have J : Inv X pins σ (upd H1 dx (.xd (xfs v1 v2))) ⟨G, g, dr, t', os⟩ := I1.laid (t' := t') (a := dx) (o := .xd (xfs v1 v2)) (h' := G) kG (show hp.objs.size ≤ dx by omega) ⟨_, hn.at fun o z => (gk dx dne).trans z, rel⟩
    have na : upd H1 dx (.xd (xfs v1 v2)) (hp.objs.size + 1) = none := by
      rw [upd_ne (Ne.symm dne)]
      exact I1.hok.fresh (show hp.objs.size ≤ hp.objs.size + 1 by omega)
    refine ⟨rfl, hp.objs.size + 1, _, _, ⟨G, g, dr, t', os⟩, _, .ref C, some dx, rfl, J, fun b o z => ?_, ge, he', ⟨rfl, rfl⟩, rfl, rfl, na, rfl, I1.bare, raises_own M.oex.exC M.oex.tyC, q1 dx hd1⟩
    by_cases hb : b = hp.objs.size + 1
    · rw [hb, ge] at z
      cases z
    · exact (gk b hb).symm.trans z
end MP

/-! defs that raise, calls of them, raise, try -/
namespace MP
open PySem PySem.Spec PyProof.Rows L2
variable [Tbs]
def spX (K : Fg) (n : Nat) (C : Addr) (g : Fn) : Sp := fun vs H Q E => ∃ (G : Ctl) (F : Hp) (dr dr' : Dr) (ds : List Dat) (r : RV), vs.length = n ∧ Same F H ∧ (G.st = true → DrAt G.T G.C H dr ∧ F G.T = none ∧ F G.C = none) ∧ (G.st = false → dr = .no) ∧ RelL K F G.T ds vs ∧ g ds dr = some (r, dr') ∧ (∀ P ∈ Tbs.tb K, GxR.TabG H P ∧ F P = none) ∧
  (∀ v F' H', Same F F' → Same F' H' → (∀ a o, H a = some o → ¬ G.ex a → Kp o (H' a)) → (∀ a, H a ≠ none → F' a = F a) → (G.st = true → DrAt G.T G.C H' dr') → (G.st = false → dr' = .no) → (∀ a, H' a = none → H a = none) → RetOk K F' G.T H H' r v → Q v H') ∧
  ∀ a b, r = .im (excD a b) → ∀ d F' H', Same F F' → Same F' H' → (∀ a o, H a = some o → ¬ G.ex a → Kp o (H' a)) → (∀ a, H a ≠ none → F' a = F a) → (G.st = true → DrAt G.T G.C H' dr') → (G.st = false → dr' = .no) → (∀ a, H' a = none → H a = none) → XdAt K F' G.T H' d a b → E (.ref C) (some d) H'
theorem rel_exc {K : Fg} {F : Hp} {T : Addr} {a b : Dat} {v : V} (h : Rel K F T (excD a b) v) : False := by
  unfold excD Rel at h
  exact h
/-! ### the call -/
theorem snd_callX {K : Fg} {n : Nat} {C : Addr} {fn : Fn} {t : TA} {g : M (List Dat)} (ha : SndA K t g) (hl : ∀ ps ds ps', g ps = some (ds, ps') → ds.length = n) {G : Ctl} {F : Hp} {ps : PS} {σ : L2.St} {H : Hp} {r : RV} {ps' : PS} {Q : VK} {Ex : XK} (R : Rep G K F ps σ H) (e : callM fn g ps = some (r, ps'))
    (q : ∀ v F' H', Post G K F ps σ H F' ps' H' → RVok G K F' ps' σ H H' r v → Q v H') (qx : ∀ a b, r = .im (excD a b) → ∀ F' H' d, Post G K F ps σ H F' ps' H' → XdAt K F' G.T H' d a b → Ex (.ref C) (some d) H') :
    t σ H fun vs H1 => spX K n C fn vs H1 Q Ex := by
  unfold callM at e
  obtain ⟨⟨ds, ps1⟩, e1, e⟩ := Option.bind_eq_some_iff.mp e
  obtain ⟨⟨r, dr'⟩, e2, e⟩ := Option.bind_eq_some_iff.mp e
  obtain ⟨rfl, rfl⟩ : r = _ ∧ { ps1 with dr := dr' } = ps' := by
    injection e with e
    injection e with e3 e4
    exact ⟨e3, e4⟩
  refine ha.go G F ps σ H ds ps1 _ R e1 fun vs F1 H1 P1 r1 => ?_
  have R1 := P1.rep
  have post : ∀ F2 H2, Same F1 F2 → Same F2 H2 → (∀ a o, H1 a = some o → ¬ G.ex a → Kp o (H2 a)) → (∀ a, H1 a ≠ none → F2 a = F1 a) → (G.st = true → DrAt G.T G.C H2 dr') → (G.st = false → dr' = .no) → (∀ a, H2 a = none → H1 a = none) →
      (∀ p, Own ps1 σ H1 p → H2 p = H1 p ∧ F2 p = none) ∧ Post G K F1 ps1 σ H1 F2 { ps1 with dr := dr' } H2 := fun F2 H2 fs fh k nf hd hnd dm => by
    have ownK : ∀ p, Own ps1 σ H1 p → H2 p = H1 p ∧ F2 p = none := fun p o => by
      obtain ⟨u, h1, hm, h2, h3⟩ := R1.ownH o
      have nx : ¬ G.ex p := fun ⟨hs, he⟩ => by
        obtain ⟨_, _, c, d⟩ := R1.ft hs
        rcases he with rfl | rfl
        · exact c h3
        · exact d h3
      exact ⟨by rw [h1]; exact (k p _ h1 nx).mut hm, by rw [nf p (by rw [h1]; simp)]; exact h2⟩
    have R2 : Rep G K F2 { ps1 with dr := dr' } σ H2 := by
      refine ⟨R1.len, fun i s e => ?_, fun i j p ha hb => R1.sep i j p ((R1.ownAt fun p o => (ownK p o).1).mp ha) ((R1.ownAt fun p o => (ownK p o).1).mp hb), hd, fun hs => ?_, fh, fun a o h1 h2 => (R1.kp a o h1 h2).trans fun u h => k a u h h2, fun a h => ?_, R1.ff.trans fs, hnd, R1.tab, fun i j path q e h => R1.ali i j path q e (R1.tAt (fun p o => (ownK p o).1) h)⟩
      · obtain ⟨o, e3, y⟩ := R1.slots i s e
        exact ⟨o, e3, y.mono fs fun p hp => ownK p ⟨i, s, o, e, e3, hp⟩⟩
      · obtain ⟨a, b, c, d⟩ := R1.ft hs
        have dd := R1.dr hs
        exact ⟨by rw [nf _ dd.T]; exact a, by rw [nf _ dd.C]; exact b, c, d⟩
      · rw [← R1.f0 a h]
        refine nf a fun z => ?_
        exact h (R1.h0 z)
    refine ⟨ownK, ⟨R2, fs, fun p vs hm h1 h2 h3 h4 => ⟨(k p _ h1 fun ⟨hs, he⟩ => ?_).mut hm, by rw [nf p (by rw [h1]; simp)]; exact h2, fun o => h4 ((R1.ownI fun p o => (ownK p o).1).mp o)⟩, dm, fun i path q h => R1.tAt (fun p o => (ownK p o).1) h⟩⟩
    obtain ⟨_, _, c, d⟩ := R1.ft hs
    rcases he with rfl | rfl
    · exact c h3
    · exact d h3
  refine ⟨G, F1, ps1.dr, dr', ds, r, ?_, P1.rep.fh, fun hs => ⟨P1.rep.dr hs, (P1.rep.ft hs).1, (P1.rep.ft hs).2.1⟩, P1.rep.nd, r1, e2, (fun P hP => ⟨P1.rep.tabs P hP, P1.rep.tabF P hP⟩), fun v F2 H2 fs fh k nf hd hnd dm hr => ?_, fun a b er d F2 H2 fs fh k nf hd hnd dm hx => ?_⟩
  · rw [r1.len]
    exact hl _ _ _ e1
  · obtain ⟨ownK, P2⟩ := post F2 H2 fs fh k nf hd hnd dm
    refine q v F2 H2 (P1.trans P2) ?_
    cases r with
    | im d => exact hr
    | sl i => exact hr.elim
    | nw ds' =>
      obtain ⟨p, ws, e3, h1, h2, h3, h4⟩ := hr
      exact ⟨p, ws, e3, h1, h2, R1.h0 h3, fun o => R1.ownN h3 ((R1.ownI fun p o => (ownK p o).1).mp o), h4, P1.dom p h3⟩
    | pa i path => exact hr.elim
    | nt t =>
      obtain ⟨fp, h1, h2⟩ := hr
      have h3 : ∀ p ∈ fp, H1 p = none := fun p hp => by
        obtain ⟨_, _, _, _, z⟩ := h1.own p hp
        exact z
      exact ⟨fp, h1.h0 fun p hp => R1.h0 (h3 p hp), h2, fun p hp => ⟨fun o => R1.ownN (h3 p hp) ((R1.ownI fun p o => (ownK p o).1).mp o), P1.dom p (h3 p hp)⟩⟩
  · obtain ⟨_, P2⟩ := post F2 H2 fs fh k nf hd hnd dm
    exact qx a b er F2 H2 d (P1.trans P2) hx
/-- the outcome of a call of a def that may raise -/
def isX : RV → Bool
  | .im (.dict [(_, _), (.none, .none), (.none, .none)]) => true
  | _ => false
theorem isX_exc {a b : Dat} : isX (.im (excD a b)) = true := rfl
theorem isX_of {r : RV} (h : isX r = true) : ∃ a b, r = .im (excD a b) := by
  unfold isX at h
  split at h
  · exact ⟨_, _, rfl⟩
  · cases h
section
variable [Wx] {X : Cx} {k n : Nat} {f : Addr} {fd : FuncData} {nms : List Str} {fn : Fn} {x : Str} {p pos rpos : Pos} {e : Expr} {es : List Expr} {t : TA} {g : M (List Dat)}
/-- return f(..) -/
theorem ds_retX (F : FnOk X.prog X.w X.K X.mg X.base (L2.CX X.prog X.w) k f fd nms (spX X.K n Wx.c fn)) (hr : Room k X.A) (hg : Gl X x) (hm : X.mg x = some (.ref f)) (hk : PySem.W.keepIn X.K (.ref f) = true) (hb : Binds X.K fd nms []) (tk : Takes X Wx.w)
    (ha : DA X (e :: es) t g) (hl : ∀ ps ds ps', g ps = some (ds, ps') → ds.length = n) (hdb : (x == ("__debug__" : Str)) = false := by decide) (he : starEach (e :: es) X.env = (false, eval e X.env) :: starEach es X.env := by rfl) (hpl : (backTo pos (starEach es X.env)).any (·.1) = false := by rfl) :
    DS X (.Return (some (.Call (.Name x p) (e :: es) [] pos)) rpos) (tRet (tCallS (spX X.K n Wx.c fn) (WE Wx.w) t)) (retM (callM fn g)) := by
  refine ⟨ps_ret (pe_callS F hr hg hm hk hb (fun σ => passAt tk σ) ha.pe hdb he hpl), ⟨fun G F ps σ H o D R e q => ?_⟩⟩
  unfold retM at e
  obtain ⟨⟨r, ps1⟩, e1, e⟩ := Option.bind_eq_some_iff.mp e
  refine snd_callX ha.sn hl R e1 (fun v F1 H1 P1 r1 => retV_ok P1 r1 e q) fun a b er F1 H1 d P1 hx => ?_
  subst er
  cases e
  exact q.2 a b rfl F1 σ H1 d P1.rep P1.same hx
def exprXM (fe : M RV) : SM := fun ps => (fe ps).bind fun x => if isX x.1 then some (.rt x.1 x.2) else some (.nx x.2)
/-- f(..) alone -/
theorem ds_exprX (F : FnOk X.prog X.w X.K X.mg X.base (L2.CX X.prog X.w) k f fd nms (spX X.K n Wx.c fn)) (hr : Room k X.A) (hg : Gl X x) (hm : X.mg x = some (.ref f)) (hk : PySem.W.keepIn X.K (.ref f) = true) (hb : Binds X.K fd nms []) (tk : Takes X Wx.w)
    (ha : DA X (e :: es) t g) (hl : ∀ ps ds ps', g ps = some (ds, ps') → ds.length = n) (hdb : (x == ("__debug__" : Str)) = false := by decide) (he : starEach (e :: es) X.env = (false, eval e X.env) :: starEach es X.env := by rfl) (hpl : (backTo pos (starEach es X.env)).any (·.1) = false := by rfl)
    (hs : swapsWith (.Call (.Name x p) (e :: es) [] pos) none rpos.line X.env = pure false := by rfl) :
    DS X (.Expr (.Call (.Name x p) (e :: es) [] pos) rpos) (tDrop (tCallS (spX X.K n Wx.c fn) (WE Wx.w) t)) (exprXM (callM fn g)) := by
  refine ⟨ps_expr (pe_callS F hr hg hm hk hb (fun σ => passAt tk σ) ha.pe hdb he hpl) hs, ⟨fun G F ps σ H o D R e q => ?_⟩⟩
  unfold exprXM at e
  obtain ⟨⟨r, ps1⟩, e1, e⟩ := Option.bind_eq_some_iff.mp e
  refine snd_callX ha.sn hl R e1 (fun v F1 H1 P1 r1 => ?_) fun a b er F1 H1 d P1 hx => ?_
  · cases hx : isX r with
    | true =>
      obtain ⟨a, b, rfl⟩ := isX_of hx
      exact (rel_exc (show Rel X.K F1 G.T (excD a b) v from r1)).elim
    | false =>
      simp only [hx, if_neg Bool.false_ne_true] at e
      cases e
      exact q F1 σ H1 P1.rep P1.same
  · subst er
    cases e
    exact q.2 a b rfl F1 σ H1 d P1.rep P1.same hx
/-- raise C(a, b) -/
def raiseXM (g : M (List Dat)) : SM := fun ps => (g ps).bind fun x => match x.1 with
  | [a, b] => some (.rt (.im (excD a b)) x.2)
  | _ => none
theorem ds_raise {fI : Addr} {e1 e2 : Expr} (hc : X.calm = true) (tk : Takes X Wx.w) (M : MeK X.prog X.K Wx.c fI) (hr : Room 2 X.A) (hg : Gl X x) (hm : X.mg x = some (.ref Wx.c)) (ha : DA X (e1 :: [e2]) t g)
    (hdb : (x == ("__debug__" : Str)) = false := by decide) (he : starEach (e1 :: [e2]) X.env = (false, eval e1 X.env) :: starEach [e2] X.env := by rfl) (hpl : (backTo pos (starEach [e2] X.env)).any (·.1) = false := by rfl) :
    DS X (.Raise (some (.Call (.Name x p) (e1 :: [e2]) [] pos)) none rpos) (fun _ σ H => tMe Wx.c t σ H fun cls d H' => Wx.w cls d σ H') (raiseXM g) := by
  refine ⟨ps_raise hc tk (pmk_me M hr hg hm ha.pe hdb he hpl), ⟨fun G F ps σ H o D R e q => ?_⟩⟩
  unfold raiseXM at e
  obtain ⟨⟨ds, ps1⟩, e1, e⟩ := Option.bind_eq_some_iff.mp e
  refine ha.sn.go G F ps σ H ds ps1 _ R e1 fun vs F1 H1 P1 r1 => ?_
  dsimp only at e
  split at e
  · rename_i a b
    cases e
    obtain ⟨v1, v2, rfl, ra, rb⟩ : ∃ v1 v2, vs = [v1, v2] ∧ Rel X.K F1 G.T a v1 ∧ Rel X.K F1 G.T b v2 := by
      unfold RelL at r1
      obtain ⟨v1, ys, rfl, ra, r1⟩ := r1
      unfold RelL at r1
      obtain ⟨v2, zs, rfl, rb, r1⟩ := r1
      unfold RelL at r1
      subst r1
      exact ⟨v1, v2, rfl, ra, rb⟩
    refine ⟨v1, v2, rfl, fun d hd => ?_⟩
    have P2 := P1.rep.newO (o := .xd (xfs v1 v2)) hd
    exact q.2 a b rfl F1 σ _ d P2.rep P1.same ⟨v1, v2, upd_same, ra, rb⟩
  · cases e
end
end MP

/-! a def that may raise; try with one clause -/
namespace MP
open PySem PySem.Spec PyProof.Rows L2
variable [Tbs]
theorem fn_okX {P : Program} {w : World} {K : Fg} {mg : Str → Option Value} {base : Heap} {x qual : Str} {st : Stmt} {f : Addr} {fd : FuncData} {N nms : List Str} {k n : Nat} {b : SM} {C : Addr} (F : Fun K x qual st f fd) (S : FnScope N nms (defScope st)) (hn : nms.length = n) (hN : n ≤ N.length)
    (hd : ∀ (cdv : Value) (A : Around) (outer : List Env) (s : Shared) (H : Hp) (E : XK) [Wi : Wx], Wi.c = C → Takes (cxOf (L2.CX P w) P w K mg base N qual (defScope st) f cdv A outer s H E) Wi.w →
      PassesOwn (model P w) (A.deeper (envOfC qual (defScope st) s.heap.objs.size f cdv)) (envOfC qual (defScope st) s.heap.objs.size f cdv) (cxOf (L2.CX P w) P w K mg base N qual (defScope st) f cdv A outer s H E).xe → Room k (A.deeper (envOfC qual (defScope st) s.heap.objs.size f cdv)) →
      ∃ t, DSs (cxOf (L2.CX P w) P w K mg base N qual (defScope st) f cdv A outer s H E) (defBody st) t b) : FnOk P w K mg base (L2.CX P w) (k + 1) f fd nms (spX K n C (bodyFn N.length b)) := by
  obtain ⟨oc, od, kV, doc, pm, an, cdv, ct, osl, rfl, lk, hcd⟩ := F.ex
  refine fn_of lk hcd S (fun vs H Q E h => ?_) fun A outer s H vs Q E hr h => ?_
  · obtain ⟨G, F0, dr, dr', ds, r, hl, _⟩ := h
    rw [hl, hn]
  · obtain ⟨G, F0, dr, dr', ds, r, hl, fh, hd', hnd, rl, e, htb, q, qx⟩ := h
    letI Wi : Wx := ⟨C, fun cls d _ H' => E cls d H'⟩
    obtain ⟨t, D⟩ := hd cdv A outer s H E (Wi := Wi) rfl (takes_of rfl rfl rfl rfl) (passes_of rfl) hr
    refine ⟨t, D.pe, ?_⟩
    unfold bodyFn at e
    obtain ⟨o, e1, e⟩ := Option.bind_eq_some_iff.mp e
    have R := start_rep (G := ⟨H, F0, G.T, G.C, G.st⟩) (N := N) fh rl (by rw [← rl.len, hl]; exact hN) hd' hnd htb
    have fin : ∀ {F' : Hp} {ps' : PS} {σ' : L2.St} {H' : Hp} {r : RV} {v : V}, ps'.dr = dr' → Rep ⟨H, F0, G.T, G.C, G.st⟩ K F' ps' σ' H' → RetOk K F' G.T H H' r v → (∀ v F' H', Same F0 F' → Same F' H' → (∀ a o, H a = some o → ¬ G.ex a → Kp o (H' a)) → (∀ a, H a ≠ none → F' a = F0 a) → (G.st = true → DrAt G.T G.C H' dr') → (G.st = false → dr' = .no) → (∀ a, H' a = none → H a = none) → RetOk K F' G.T H H' r v → Q v H') → Q v H' := fun {F' ps' σ' H' r v} ed R' hr q => by
      refine q v F' H' R'.ff R'.fh (fun a o h1 h2 => R'.kp a o h1 h2) (fun a h => R'.f0 a h) (fun h => by rw [← ed]; exact R'.dr h) (fun h => by rw [← ed]; exact R'.nd h) (fun a h => ?_) hr
      exact R'.h0 h
    refine D.sn.go ⟨H, F0, G.T, G.C, G.st⟩ F0 _ _ H o _ R e1 ?_
    cases o with
    | nx ps' =>
      cases e
      exact fun F' σ' H' R' s => fin rfl R' (show RetOk K F' G.T H H' (.im .none) V.non from (rNon (K := K) (F := F') (T := G.T)).mpr rfl) q
    | rt r' ps' =>
      cases e
      exact ⟨fun v F' σ' H' R' s hr => fin rfl R' hr q, fun a b er F' σ' H' d R' s hx => qx a b er d F' H' R'.ff R'.fh (fun a o h1 h2 => R'.kp a o h1 h2) (fun a h => R'.f0 a h) R'.dr R'.nd (fun a h => R'.h0 h) hx⟩
    | bk ps' => cases e
    | ct ps' => cases e
/-! ### try: body, except C as n: return (n.rule, n.index) -/
def exc? : Dat → Option (Dat × Dat)
  | .dict [(a, b), (.none, .none), (.none, .none)] => some (a, b)
  | _ => none
theorem exc_some {d a b : Dat} (h : exc? d = some (a, b)) : d = excD a b := by
  unfold exc? at h
  split at h
  · cases h
    rfl
  · cases h
def tryM (i : Nat) (b : SM) (h : Dat → Dat → SM) : SM := fun ps => (b ps).bind fun o => match o with
  | .rt (.im d) ps1 => match exc? d with
    | some (x, y) => if decide (i < ps1.sl.length) then h x y ps1 else none
    | none => some (.rt (.im d) ps1)
  | o => some o
section
variable {X : Cx} {x n : Str} {i : Nat} {body : List Stmt} {np pos pos' : Pos} {tb : Wx → TS} {b : SM} {C : Addr}
/-- what is caught, what goes on: h is the clause's suite on the two fields -/
theorem snd_try {ts : Addr → Value → Option Addr → TS} {h : Dat → Dat → SM} (hb : ∀ [Wi : Wx], Wi.c = C → SndS X.K (tb Wi) b) (hex : PySem.W.exmOne X.K (.ref C) (.ref C) = some true)
    (hh : ∀ (G : Ctl) (F : Hp) (ps : PS) (σ : L2.St) (H : Hp) (o : SOut) (D : Ends) (a : Addr) (d : Addr) (xa xb : Dat), Rep G X.K F ps σ H → XdAt X.K F G.T H d xa xb → i < σ.length → h xa xb ps = some o → EndOk G X.K F D o → H a = none →
      ts a (.ref C) (some d) { nx := fun σ' H' => D.nx (σ'.set i none) H', rt := D.rt, bk := fun σ' H' => D.bk (σ'.set i none) H', ct := fun σ' H' => D.ct (σ'.set i none) H' } (σ.set i (some (.ref a))) H) :
    SndS X.K (fun D σ H => tb ⟨C, wAs X.K (.ref C) i ts (fun _ _ _ _ => False) D⟩ D σ H) (tryM i b h) := by
  refine ⟨fun G F ps σ H o D R e q => ?_⟩
  unfold tryM at e
  obtain ⟨o1, e1, e⟩ := Option.bind_eq_some_iff.mp e
  have qm : ∀ {F' : Hp}, Same F F' → EndOk G X.K F' D o := fun s => q.mono s
  letI Wi : Wx := ⟨C, wAs X.K (.ref C) i ts (fun _ _ _ _ => False) D⟩
  refine (hb (Wi := Wi) rfl).go G F ps σ H o1 D R e1 ?_
  cases o1 with
  | nx ps1 => cases e; exact q
  | bk ps1 => cases e; exact q
  | ct ps1 => cases e; exact q
  | rt r ps1 =>
    have plain : (∀ a b, r ≠ .im (excD a b)) → o = .rt r ps1 → @EndOk _ Wi G X.K F D (.rt r ps1) := fun hne ho => by
      subst ho
      exact ⟨q.1, fun a b er => absurd er (hne a b)⟩
    cases r with
    | im d =>
      dsimp only at e
      cases hd : exc? d with
      | none =>
        rw [hd] at e
        cases e
        refine plain (fun a b z => ?_) rfl
        injection z with z
        rw [z] at hd
        cases hd
      | some xy =>
        obtain ⟨xa, xb⟩ := xy
        have ed := exc_some hd
        subst ed
        rw [hd] at e
        dsimp only at e
        split at e
        · rename_i hlt
          have hlt := of_decide_eq_true hlt
          refine ⟨fun v F' σ' H' R' s hr => (rel_exc (show Rel X.K F' G.T (excD xa xb) v from hr)).elim, fun a' b' er F' σ' H' d R' s hx => ?_⟩
          have e2 : xa = a' ∧ xb = b' := by
            unfold excD at er
            injection er with er
            injection er with er
            injection er with e3 _
            injection e3 with e5 e6
            exact ⟨e5, e6⟩
          obtain ⟨rfl, rfl⟩ := e2
          exact ⟨true, hex, fun _ a hn => hh G F' ps1 σ' H' o D a d xa xb R' hx (by have := R'.len; omega) e (qm s) hn, fun z => nomatch z⟩
        · cases e
    | nw ds => cases e; exact plain (fun a b z => nomatch z) rfl
    | sl j => cases e; exact plain (fun a b z => nomatch z) rfl
    | nt t => cases e; exact plain (fun a b z => nomatch z) rfl
    | pa j path => cases e; exact plain (fun a b z => nomatch z) rfl
end
end MP

/-! try: body, except C as n: return (n.rule, n.index) -/
namespace MP
open PySem PySem.Spec PyProof.Rows L2
variable [Tbs]
section
variable {X : Cx} {x n : Str} {i : Nat} {body : List Stmt} {np pos pos' p1 p2 p3 p4 p5 p6 : Pos} {kk : Nat} {tb : Wx → TS} {b : SM} {C : Addr}
theorem takes_false : Takes X (fun _ _ _ _ => False) := fun u s' ⟨_, _, _, _, _, _, _, _, _, _, _, _, _, _, _, _, w⟩ => w.elim
/-- what is shown of the body in every context of a try, in one -/
theorem sn_of_tr (hs : X.stack = X.env :: X.outer) (hf : X.env.frame = some X.env.locals)
    (hb : ∀ (pn : List (Addr × Obj)) (xe : Value → Shared → Prop) [Wi : Wx], Wi.c = C → Takes (X.tr pn xe) Wi.w → PassesOwn (model X.prog X.w) X.A X.env xe → DSs (X.tr pn xe) body (tb Wi) b) [Wi : Wx] (hc : Wi.c = C) : SndS X.K (tb Wi) b := by
  refine (hb [] (fun e s' => wpAny (model X.prog X.w) X.A (noteFrame e X.env) (fun _ s2 => wpAny (model X.prog X.w) X.A (setFlight e none) (fun _ _ => True) (fun _ _ => True) s2) (fun _ _ => True) s') hc (fun u s' xx => ?_) PassesOwn.looking).sn
  obtain ⟨a, B, sI, pins, σ, H, cls, d, rfl, I, nb, up, sky, na, os, ag, w⟩ := xx
  have hfr : X.A.frames = some (X.env :: X.outer) := by
    have := I.ok.frames
    rw [← hs]
    exact this
  have sky' : Sky B (X.env :: X.outer) a (Zc cls d) X.env.locals s'.heap := by rw [← hs]; exact sky
  show wpAny (model X.prog X.w) X.A (noteFrame (.ref a) X.env) _ _ _
  exact Sky.land (Q := fun _ _ => True) Zc.steady hfr hf sky' fun _ _ _ => trivial
def hA (a b : Dat) : SM := retM (tupM (consM (kst a) (consM (kst b) (M.ret []))))
def tsA (K : Fg) (C : Addr) (i : Nat) (a : Addr) (cls : Value) (d : Option Addr) : TS := tRet (tTupD (tCons (tXf a cls d C "rule" (tVar i)) (tCons (tXf a cls d C "index" (tVar i)) tNil)))
theorem ds_tryA {fI : Addr} (hs : X.stack = X.env :: X.outer) (hf : X.env.frame = some X.env.locals) (hN : X.N.Nodup) (hi : X.N[i]? = some n) (hln : X.env.kindOf n = some .local) (hc : Names X x (.ref C)) (Mk : MeK X.prog X.K C fI) (T : XfC X.K C) (hex : PySem.W.exmOne X.K (.ref C) (.ref C) = some true)
    (hb : ∀ (pn : List (Addr × Obj)) (xe : Value → Shared → Prop) [Wi : Wx], Wi.c = C → Takes (X.tr pn xe) Wi.w → PassesOwn (model X.prog X.w) X.A X.env xe → DSs (X.tr pn xe) body (tb Wi) b)
    (hd : (n == ("__debug__" : Str)) = false := by decide) (hcd : (n == ("__classdict__" : Str)) = false := by decide) :
    DS X (.Try body [.ExceptHandler (some (.Name x np)) (some n) [.Return (some (.Tuple [.Attribute (.Name n p1) "rule" p2, .Attribute (.Name n p3) "index" p4] kk p5)) p6] pos'] [] [] pos)
      (fun D σ H => tb ⟨C, wAs X.K (.ref C) i (tsA X.K C i) (fun _ _ _ _ => False) D⟩ D σ H) (tryM i b hA) := by
  have hv : Vis X.env.scope n := .inl hln
  refine ⟨ps_try_as (tb := fun W => tb ⟨C, W⟩) (ts := tsA X.K C i) hs hf hN hi hln hc takes_false (fun W pn xe tk po => by letI : Wx := ⟨C, W⟩; exact (hb pn xe rfl tk po).pe) (fun a oe cls d pn hz hfl => ?_), snd_try (C := C) (ts := tsA X.K C i) (fun {Wi} hc => sn_of_tr hs hf hb hc) hex fun G F ps σ H o D a d xa xb R hx hlt e q hn => ?_⟩
  · have hvar : ∀ pp, PE (X.suite a ((a, oe) :: pn)) (.Name n pp) (tVar i) := fun pp => pe_var (X := X.suite a ((a, oe) :: pn)) hi hv hd hcd
    exact pss_one (ps_ret (pe_tupD (pa_cons (pe_xf T Mk.noR hz hfl (hvar p1)) (pa_cons (pe_xf T Mk.noI hz hfl (hvar p3)) pa_nil))))
  · unfold hA at e
    have l2 : line 2 = true := rfl
    obtain rfl : SOut.rt (.im (.tuple [xa, xb])) ps = o := by
      have : retM (tupM (consM (kst xa) (consM (kst xb) (M.ret [])))) ps = some (SOut.rt (.im (.tuple [xa, xb])) ps) := rfl
      rw [this] at e
      exact Option.some.inj e
    obtain ⟨va, vb, hxd, ra, rb⟩ := hx
    have hg : (σ.set i (some (V.ref a)))[i]? = some (some (V.ref a)) := by rw [List.getElem?_set_self hlt]
    refine ⟨V.ref a, hg, rfl, rfl, d, _, va, rfl, hxd, rfl, V.ref a, hg, rfl, rfl, d, _, vb, rfl, hxd, rfl, (show 2 ≤ sizeLine by decide), ?_⟩
    exact out_tp R (ds := [xa, xb]) (vs := [va, vb]) (by unfold RelL; exact ⟨va, [vb], rfl, ra, by unfold RelL; exact ⟨vb, [], rfl, rb, by unfold RelL; rfl⟩⟩) fun v F2 H2 P r => q.1 v F2 σ H2 P.rep P.same r
end
end MP

/-! what the head tells of an own exception class -/
namespace MP
open PySem PySem.Spec PyProof.Rows L2
variable [Tbs]
def clsVE (K : Fg) (C : Addr) : Bool := match K.lookup C with
  | some ⟨.type "type", _, .cls cd, sl⟩ => (match cd.mro, sl.toList with
    | .ref C' :: bm, [_, _, _, _, some (.builtin n), _] => C' == C && n == "ValueError.__new__" && !cd.hasDel && cd.hasDict && PySem.HandSPX.refsVE bm
    | _, _ => false)
  | _ => false
theorem clsVE_ok {K : Fg} {C : Addr} (q : clsVE K C = true) : ∃ nm qn N bs bm sn sub ab col dd k0 k1 k2 k3 k5, K.lookup C = some (excClassObj nm qn C N bs bm true sn sub ab col dd k0 k1 k2 k3 k5 "ValueError.__new__") ∧ PySem.HandSPX.refsVE bm = true := by
  unfold clsVE at q
  split at q
  · rename_i dd cd sl ho
    split at q
    · rename_i C' bm k0 k1 k2 k3 n k5 hm hs
      simp only [Bool.and_eq_true, beq_iff_eq, Bool.not_eq_true'] at q
      obtain ⟨⟨⟨⟨rfl, rfl⟩, hdel⟩, hdict⟩, ht⟩ := q
      obtain ⟨nm, bs, mro, ns, qn, hd, sn, sub, ab, col, del⟩ := cd
      dsimp only at hm hdel hdict
      subst hm hdel hdict
      have hsl : sl = #[k0, k1, k2, k3, some (.builtin "ValueError.__new__"), k5] := by
        obtain ⟨l⟩ := sl
        simp only at hs
        rw [hs]
      subst hsl
      exact ⟨nm, qn, ns, bs, bm, sn, sub, ab, col, dd, k0, k1, k2, k3, k5, ho, ht⟩
    · cases q
  · cases q
def cellB (K : Fg) (cl : List (Str × Addr)) (C : Addr) : Bool := match cl with
  | [(_, cc)] => (match K.lookup cc with
    | some ⟨_, _, .cell (some (.ref D)), _⟩ => D == C
    | _ => false)
  | _ => false
def fileB (file : Str) (K : Fg) (cd : Value) : Bool := match cd with
  | .ref c => (match K.lookup c with
    | some ⟨_, _, .fields vs, _⟩ => (match (vs[2]? : Option Value) with
      | some (Value.str f _) => (file : Str) == f
      | _ => false)
    | _ => false)
  | _ => false
def fnB (file : Str) (K : Fg) (fI C : Addr) : Bool := match K.lookup fI with
  | some ⟨_, _, .func fd, _⟩ => PySem.W.codeIn K fd.code fd.qualname && (fileB file K fd.code && cellB K fd.closure C)
  | _ => false
def optB (a b : Option (Option Value)) : Bool := decide (a = b)
def meL (file : Str) (K : Fg) (x : Str) : List Bool :=
  [clsVE K (He.ga K x), optB (PySem.W.findIn K (.ref (He.ga K x)) "__setattr__") (some (some (.builtin "object.__setattr__"))), decide (PySem.W.subIn K (.ref (He.ga K x)) (.type "BaseException") = some true), decide (PySem.W.typeIn K (.ref (He.ga K x)) = some (.type "type")), PySem.W.keepIn K (.ref (He.ga K x)),
   optB (PySem.W.findIn K (.ref (He.ga K x)) "__init__") (some (some (.ref (He.ma K (He.ga K x) "__init__")))), decide (PySem.W.typeIn K (.ref (He.ma K (He.ga K x) "__init__")) = some (.type "function")),
   optB (PySem.W.findIn K (.ref (He.ga K x)) "rule") (some none), optB (PySem.W.findIn K (.ref (He.ga K x)) "index") (some none), optB (PySem.W.nsIn K cStatics "thirdparty.any") (some none),
   optB (PySem.W.ks_superIn K (He.ga K x) (He.ga K x) "__init__") (some (some (.builtin "ValueError.__init__"))), decide (PySem.W.subIn K (.ref (He.ga K x)) (.type "ValueError") = some true), decide (PySem.W.mroIn K (He.ga K x) (.ref (He.ga K x)) = some true),
   optB (PySem.W.nsIn K mainGlobals "super") (some none), fnB file K (He.ma K (He.ga K x) "__init__") (He.ga K x), xfB K (He.ga K x), decide (PySem.W.exmOne K (.ref (He.ga K x)) (.ref (He.ga K x)) = some true)]
def meB (file : Str) (K : Fg) (x : Str) : Bool := (meL file K x).all id
abbrev MeV : Type := Option (Str × Arguments × FuncBody × Scope × Addr × List Str × Value × Addr)
def meObs (K : Fg) (x : Str) : MeV := match K.lookup (He.ma K (He.ga K x) "__init__") with
  | some ⟨_, _, .func fd, _⟩ => some (fd.qualname, fd.params, fd.body, fd.scope, fd.globals, fd.closure.map (·.1), fd.defaults, fd.builtins)
  | _ => none
theorem meB_get {file : Str} {K : Fg} {x : Str} (h : meB file K x = true) {b : Bool} (i : Nat) (e : (meL file K x)[i]? = some b) : b = true := List.all_eq_true.mp h b (List.mem_of_getElem? e)
theorem optB_ok {a b : Option (Option Value)} (h : optB a b = true) : a = b := of_decide_eq_true h
theorem meX_of {file : Str} {K : Fg} {x : Str} (h : meB file K x = true) : XfC K (He.ga K x) := xfB_ok (meB_get h 15 rfl)
theorem meE_of {file : Str} {K : Fg} {x : Str} (h : meB file K x = true) : PySem.W.exmOne K (.ref (He.ga K x)) (.ref (He.ga K x)) = some true := of_decide_eq_true (meB_get h 16 rfl)
theorem meK_of {prog : Program} {K : Fg} {x qual : Str} {params : Arguments} {scope : Scope} {p0 p1 p2 p3 p4 p5 p6 p7 p8 p9 pa pb pc pd : Pos} {ar : Arg} (h : meB prog.main.file K x = true)
    (ho : meObs K x = some (qual, params, FuncBody.stmts [.Expr (.Call (.Attribute (.Call (.Name "super" p0) [] [] p1) "__init__" p2) [.Name "rule" p3] [] p4) p5, .Assign [.Attribute (.Name "self" p6) "rule" p7] (.Name "rule" p8) p9, .Assign [.Attribute (.Name "self" pa) "index" pb] (.Name "index" pc) pd], scope, mainGlobals, ([PySem.Str.ofString "__class__"] : List Str), Value.none, builtinsNs))
    (hp : (params.posonlyargs ++ params.args).head? = some ar) (har : ar.arg = "self") (hk : scope.kind = .function) (hco : scope.isCoroutine = false) (hgen : scope.isGenerator = false) (hnc : ∀ x ∈ scope.names, x.2 ≠ .cell) (hks : scope.names.lookup ("super" : Str) = some .globalImplicit) (hkc : scope.names.lookup ("__class__" : Str) = some .free)
    (hself : scope.names.lookup ("self" : Str) = some .local) (hrule : scope.names.lookup ("rule" : Str) = some .local) (hindex : scope.names.lookup ("index" : Str) = some .local)
    (hbind : ∀ (name : Str) (kV doc pm : Value) (an : Option Addr) (cdv ct : Value) (cc : Addr) (s : Shared) (a b c : Value), BindsTo s (PySem.W.ksFn name qual params [.Expr (.Call (.Attribute (.Call (.Name "super" p0) [] [] p1) "__init__" p2) [.Name "rule" p3] [] p4) p5, .Assign [.Attribute (.Name "self" p6) "rule" p7] (.Name "rule" p8) p9, .Assign [.Attribute (.Name "self" pa) "index" pb] (.Name "index" pc) pd] scope .none kV doc pm an cdv ct cc) ⟨[a, b, c], []⟩ [("self", a), ("rule", b), ("index", c)])
    (htop : (prog.main.scope.names.lookup ("super" : Str)).isSome = false)
    (hmc : ∀ env : Env, ∃ pl : Sem Bool, eval (.Call (.Attribute (.Call (.Name "super" p0) [] [] p1) "__init__" p2) [.Name "rule" p3] [] p4) env = (do
      let ov ← attributeBase (.Call (.Name "super" p0) [] [] p1) "__init__" env (eval (.Call (.Name "super" p0) [] [] p1) env)
      standAt p2.atName
      let (f, first) ← holding [ov] (getMethod ov "__init__" pl)
      callWith p4 f first (backTo p4 (starEach [.Name "rule" p3] env)) [])) : MeK prog K (He.ga K x) (He.ma K (He.ga K x) "__init__") := by
  have g := fun (b : Bool) (i : Nat) (e : (meL prog.main.file K x)[i]? = some b) => meB_get h i e
  obtain ⟨nm, qn, N, bs, bm, sn, sub, ab, col, dd, k0, k1, k2, k3, k5, hC, hbm⟩ := clsVE_ok (meB_get h 0 rfl)
  refine ⟨⟨⟨nm, qn, N, bs, bm, sn, sub, ab, col, dd, k0, k1, k2, k3, k5, hC, hbm⟩, optB_ok (meB_get h 1 rfl), of_decide_eq_true (meB_get h 2 rfl), of_decide_eq_true (meB_get h 3 rfl), meB_get h 4 rfl⟩, optB_ok (meB_get h 5 rfl), of_decide_eq_true (meB_get h 6 rfl), optB_ok (meB_get h 7 rfl), optB_ok (meB_get h 8 rfl), optB_ok (meB_get h 9 rfl), optB_ok (meB_get h 10 rfl), of_decide_eq_true (meB_get h 11 rfl), of_decide_eq_true (meB_get h 12 rfl), optB_ok (meB_get h 13 rfl), ?_⟩
  have hfn : fnB prog.main.file K (He.ma K (He.ga K x) "__init__") (He.ga K x) = true := meB_get h 14 rfl
  unfold fnB at hfn
  unfold meObs at ho
  cases q : K.lookup (He.ma K (He.ga K x) "__init__") with
  | none => rw [q] at ho; cases ho
  | some o =>
    obtain ⟨oc, od, dt, osl⟩ := o
    rw [q] at hfn ho
    cases dt with
    | func fd =>
      obtain ⟨n1, n2, n3, n4, n5, n6, n7, n8, n9, n10, n11, n12, n13, n14, n15⟩ := fd
      have e2 : (some (n2, n3, n4, n5, n6, n7.map (·.1), n8, n15) : MeV) = some (qual, params, FuncBody.stmts _, scope, mainGlobals, ([PySem.Str.ofString "__class__"] : List Str), Value.none, builtinsNs) := ho
      simp only [Option.some.injEq, Prod.mk.injEq] at e2
      obtain ⟨h1, h2, h3, h4, h5, h6, h7, h8⟩ := e2
      subst h1 h2 h3 h4 h5 h7 h8
      obtain ⟨b1, b2, b3⟩ : PySem.W.codeIn K n13 n2 = true ∧ fileB prog.main.file K n13 = true ∧ cellB K n7 (He.ga K x) = true := by
        have z : (PySem.W.codeIn K n13 n2 && (fileB prog.main.file K n13 && cellB K n7 (He.ga K x))) = true := hfn
        simp only [Bool.and_eq_true] at z
        exact ⟨z.1, z.2.1, z.2.2⟩
      unfold cellB at b3
      split at b3
      · rename_i y cc
        have hy : y = "__class__" := by
          simp only [List.map_cons, List.map_nil, List.cons.injEq, and_true] at h6
          exact h6
        subst hy
        split at b3
        · rename_i cl cld D csl hcell
          have hD : D = He.ga K x := by simpa using b3
          rw [hD] at hcell
          unfold fileB at b2
          split at b2
          · rename_i cda
            split at b2
            · rename_i ccl cdd vs ccs hcode
              split at b2
              · rename_i file tf hvs
                exact ⟨oc, od, osl, n1, n2, n3, n5, cc, .none, n9, n10, n11, n12, .ref cda, n14, ar, cda, ccl, cdd, vs, ccs, file, tf, cl, cld, csl, p0, p1, p2, p3, p4, p5, p6, p7, p8, p9, pa, pb, pc, pd, rfl, b1, rfl, hcode, hvs, b2, hcell, hp, har, hk, hco, hgen, hnc, hks, hkc, hself, hrule, hindex, fun s a b c => hbind _ _ _ _ _ _ _ _ s a b c, htop, hmc⟩
              · cases b2
            · cases b2
          · cases b2
        · cases b3
      · cases b3
    | _ => cases ho
/-! ### the Hook -/
/-- the written part, the statics with it -/
abbrev kZ (n : Nat) (g : Addr → Option Obj) : Fg := He.frT g (cStatics :: He.asD g n)
theorem saysZ_of {as : List Addr} {fa : List He.Fa} {fn : List He.DefD} {ts : List He.Tab} {tf : List He.Defn} {ex : Fg → Bool} {w : World} {h : Heap} (e : ((He.obsT fa fn ts (He.frT h.get? as), ex (He.frT h.get? as) && He.tabsB h.get? tf (He.frT h.get? as)) : He.AlX) = He.valX fn ts w) : He.SaysX fa fn ts tf ex w h (He.frT h.get? as) := by
  have e1 : He.obsT fa fn ts (He.frT h.get? as) = He.valT fn ts w := congrArg (fun z : He.AlX => z.1) e
  have e2 : (ex (He.frT h.get? as) && He.tabsB h.get? tf (He.frT h.get? as)) = true := congrArg (fun z : He.AlX => z.2) e
  obtain ⟨h1, h2⟩ := Bool.and_eq_true_iff.mp e2
  have key : ∀ p ∈ tf, PySem.W.codeHdIn (He.frT h.get? as) (He.cT (He.frT h.get? as) p).1 (He.cT (He.frT h.get? as) p).2 = true ∧ ∃ o, h.get? (He.cT (He.frT h.get? as) p).2 = some o ∧ He.emptyTab o = true := fun p hp => by
    obtain ⟨h3, h4⟩ := Bool.and_eq_true_iff.mp (List.all_eq_true.mp h2 p hp)
    refine ⟨h3, ?_⟩
    cases q : h.get? (He.cT (He.frT h.get? as) p).2 with
    | none =>
      rw [q] at h4
      cases h4
    | some o =>
      rw [q] at h4
      exact ⟨o, rfl, h4⟩
  exact ⟨e1, h1, fun p hp => (key p hp).1, fun p hp => by
    obtain ⟨_, o, q, z⟩ := key p hp
    exact He.frT_none q z, fun p hp => by
    obtain ⟨_, o, q, z⟩ := key p hp
    rw [q, He.emptyTab_eq z]⟩
abbrev AlZ : Type := He.AlX × MeV
def obsZ (n : Nat) (fa : List He.Fa) (fn : List He.DefD) (ts : List He.Tab) (tf : List He.Defn) (ex : Fg → Bool) (x : Str) (g : Addr → Option Obj) : AlZ := ((He.obsT fa fn ts (kZ n g), ex (kZ n g) && He.tabsB g tf (kZ n g)), meObs (kZ n g) x)
def hookZ (n : Nat) (fa : List He.Fa) (fn : List He.DefD) (ts : List He.Tab) (tf : List He.Defn) (ex : Fg → Bool) (x : Str) (mv : MeV) : PySem.W.Hook where
  α := AlZ
  obs := fun s => obsZ n fa fn ts tf ex x s.heap.get?
  val := fun w => (He.valX fn ts w, mv)
  says := fun w h => ∃ K : PySem.W.Frag, K.In h ∧ He.SaysX fa fn ts tf ex w h K ∧ meObs K x = mv
  of := fun _ _ e => ⟨_, He.frT_in, saysZ_of (congrArg (fun z : AlZ => z.1) e), congrArg (fun z : AlZ => z.2) e⟩
  keeps := fun _ _ _ ⟨K, hK, c, m⟩ k => ⟨K, PySem.W.Frag.In.keeps hK k, ⟨c.t, c.more, c.hd, c.out, fun p hp => k _ _ (c.empty p hp)⟩, m⟩
theorem obsZ_eq {n : Nat} {fa : List He.Fa} {fn : List He.DefD} {ts : List He.Tab} {tf : List He.Defn} {ex : Fg → Bool} {x : Str} {mv : MeV} {g : Addr → Option Obj} {s : Shared} (h : ∀ a, g a = s.heap.get? a) : obsZ n fa fn ts tf ex x g = (hookZ n fa fn ts tf ex x mv).obs s := by
  have e : g = s.heap.get? := funext h
  rw [e] <;> rfl
end MP

/-! the rules as the printer says them -/
namespace MP
open PySem PySem.Spec PyProof.Rows L2
variable [Tbs]
/-- the program's exception class -/
class ExcB (P : Program) (mg : Str → Option Value) (K : Fg) (x : Str) where
  c : Addr
  fI : Addr
  me : MeK P K c fI
  xf : XfC K c
  ex : PySem.W.exmOne K (.ref c) (.ref c) = some true
  mx : mg x = some (.ref c)
section
variable [Wx] {X : Cx} {K : Fg} {k n : Nat} {f C fI : Addr} {fd : FuncData} {nms : List Str} {fn : Fn} {x : Str} {p pos rpos : Pos} {e e1 e2 : Expr} {es : List Expr} {t : TA} {g : M (List Dat)}
theorem kx_ret (hK : X.K = K) (hc : Wx.c = C) (F : FnOk X.prog X.w K X.mg X.base (L2.CX X.prog X.w) k f fd nms (spX K n C fn)) (hr : Room k X.A) (hg : Gl X x) (hm : X.mg x = some (.ref f)) (hk : PySem.W.keepIn K (.ref f) = true) (hb : Binds K fd nms []) (tk : Takes X Wx.w)
    (ha : DA X (e :: es) t g) (hl : ∀ ps ds ps', g ps = some (ds, ps') → ds.length = n) (hdb : (x == ("__debug__" : Str)) = false := by decide) (he : starEach (e :: es) X.env = (false, eval e X.env) :: starEach es X.env := by rfl) (hpl : (backTo pos (starEach es X.env)).any (·.1) = false := by rfl) :
    DS X (.Return (some (.Call (.Name x p) (e :: es) [] pos)) rpos) (tRet (tCallS (spX K n C fn) (WE Wx.w) t)) (retM (callM fn g)) := by subst hK hc; exact ds_retX F hr hg hm hk hb tk ha hl hdb he hpl
theorem kx_expr (hK : X.K = K) (hc : Wx.c = C) (F : FnOk X.prog X.w K X.mg X.base (L2.CX X.prog X.w) k f fd nms (spX K n C fn)) (hr : Room k X.A) (hg : Gl X x) (hm : X.mg x = some (.ref f)) (hk : PySem.W.keepIn K (.ref f) = true) (hb : Binds K fd nms []) (tk : Takes X Wx.w)
    (ha : DA X (e :: es) t g) (hl : ∀ ps ds ps', g ps = some (ds, ps') → ds.length = n) (hdb : (x == ("__debug__" : Str)) = false := by decide) (he : starEach (e :: es) X.env = (false, eval e X.env) :: starEach es X.env := by rfl) (hpl : (backTo pos (starEach es X.env)).any (·.1) = false := by rfl)
    (hs : swapsWith (.Call (.Name x p) (e :: es) [] pos) none rpos.line X.env = pure false := by rfl) :
    DS X (.Expr (.Call (.Name x p) (e :: es) [] pos) rpos) (tDrop (tCallS (spX K n C fn) (WE Wx.w) t)) (exprXM (callM fn g)) := by subst hK hc; exact ds_exprX F hr hg hm hk hb tk ha hl hdb he hpl hs
theorem kx_raise (hc0 : X.calm = true) (hK : X.K = K) (hc : Wx.c = C) (tk : Takes X Wx.w) (M : MeK X.prog K C fI) (hr : Room 2 X.A) (hg : Gl X x) (hm : X.mg x = some (.ref C)) (ha : DA X (e1 :: [e2]) t g)
    (hdb : (x == ("__debug__" : Str)) = false := by decide) (he : starEach (e1 :: [e2]) X.env = (false, eval e1 X.env) :: starEach [e2] X.env := by rfl) (hpl : (backTo pos (starEach [e2] X.env)).any (·.1) = false := by rfl) :
    DS X (.Raise (some (.Call (.Name x p) (e1 :: [e2]) [] pos)) none rpos) (fun _ σ H => tMe C t σ H fun cls d H' => Wx.w cls d σ H') (raiseXM g) := by subst hK hc; exact ds_raise hc0 tk M hr hg hm ha hdb he hpl
end
section
variable {X : Cx} {K : Fg} {x n : Str} {i : Nat} {body : List Stmt} {np pos pos' p1 p2 p3 p4 p5 p6 : Pos} {kk : Nat} {tb : Wx → TS} {b : SM} {C fI : Addr}
theorem kx_tryA (hs : X.stack = X.env :: X.outer) (hf : X.env.frame = some X.env.locals) (hN : X.N.Nodup) (hi : X.N[i]? = some n) (hln : X.env.kindOf n = some .local) (hg : Gl X x) (hK : X.K = K) (hm : X.mg x = some (.ref C)) (Mk : MeK X.prog K C fI) (T : XfC K C) (hex : PySem.W.exmOne K (.ref C) (.ref C) = some true)
    (hb : ∀ (pn : List (Addr × Obj)) (xe : Value → Shared → Prop) [Wi : Wx], Wi.c = C → Takes (X.tr pn xe) Wi.w → PassesOwn (model X.prog X.w) X.A X.env xe → DSs (X.tr pn xe) body (tb Wi) b)
    (hx : (x == ("__debug__" : Str)) = false := by decide) (hd : (n == ("__debug__" : Str)) = false := by decide) (hcd : (n == ("__classdict__" : Str)) = false := by decide) :
    DS X (.Try body [.ExceptHandler (some (.Name x np)) (some n) [.Return (some (.Tuple [.Attribute (.Name n p1) "rule" p2, .Attribute (.Name n p3) "index" p4] kk p5)) p6] pos'] [] [] pos)
      (fun D σ H => tb ⟨C, wAs X.K (.ref C) i (tsA X.K C i) (fun _ _ _ _ => False) D⟩ D σ H) (tryM i b hA) := by subst hK; exact ds_tryA hs hf hN hi hln ⟨hg, hx, .inl hm⟩ Mk T hex hb hd hcd
end
/-- an operand that is handed on for good before the other one is worked out -/
def kpM (f : M RV) : M RV := fun ps => (keepM f ps).bind fun x => some (.im x.1, x.2)
@[simp] theorem e_kpM {f : M RV} {ps : PS} : kpM f ps = (keepM f ps).bind fun x => some (.im x.1, x.2) := rfl
theorem de_kp {X : Cx} {e : Expr} {t : TE} {f : M RV} (h : DE X e t f) : DE X e t (kpM f) := ⟨h.pe, ⟨fun G F ps σ H r ps' Q R e q => by
  obtain ⟨⟨d, ps1⟩, e1, e⟩ := Option.bind_eq_some_iff.mp e
  cases e
  exact keepM_go h.sn R e1 fun v F' H' P r => q v F' H' P r⟩⟩
end MP

/-! more elements of a generator; x = f(..) of a def that may raise; a clause that asks for classes -/
namespace MP
open PySem PySem.Spec PyProof.Rows L2
section
variable {prog : Program} {w : World} {nm : List Str} {a b : Expr} {ma mb : EM} {pos p1 : Pos}
def ltE : Int → Int → Option Dat := fun i j => some (.bool (decide (i < j)))
def leE : Int → Int → Option Dat := fun i j => some (.bool (decide (i ≤ j)))
def gtE : Int → Int → Option Dat := fun i j => some (.bool (decide (i > j)))
def geE : Int → Int → Option Dat := fun i j => some (.bool (decide (i ≥ j)))
def addE : Int → Int → Option Dat := fun i j => some (.int (i + j))
def subE : Int → Int → Option Dat := fun i j => some (.int (i - j))
theorem ee_lt (ha : EE prog w nm a ma) (hb : EE prog w nm b mb) (hmk : behindInMarks .Lt b = false := by with_unfolding_all rfl) : EE prog w nm (.Compare a [.Lt] [b] pos) (twoI ltE ma mb) := by
  intro cenv A' E' en s d hA L hm
  obtain ⟨i, j, e1, e2, e3⟩ := twoI_some hm
  cases e3
  refine wpAny_Compare1 (ee_two (P := fun _ _ _ => True) (f := ma) ha hb hA L e1 e2 fun v u s2 h1 h2 k => ?_) hmk
  unfold Hd at h1 h2
  obtain ⟨t, rfl⟩ := h1
  obtain ⟨t', rfl⟩ := h2
  exact PySem.P.lt_int ⟨by unfold Hd; rfl, k⟩
theorem ee_le (ha : EE prog w nm a ma) (hb : EE prog w nm b mb) (hmk : behindInMarks .LtE b = false := by with_unfolding_all rfl) : EE prog w nm (.Compare a [.LtE] [b] pos) (twoI leE ma mb) := by
  intro cenv A' E' en s d hA L hm
  obtain ⟨i, j, e1, e2, e3⟩ := twoI_some hm
  cases e3
  refine wpAny_Compare1 (ee_two (P := fun _ _ _ => True) (f := ma) ha hb hA L e1 e2 fun v u s2 h1 h2 k => ?_) hmk
  unfold Hd at h1 h2
  obtain ⟨t, rfl⟩ := h1
  obtain ⟨t', rfl⟩ := h2
  exact PySem.P.le_int ⟨by unfold Hd; rfl, k⟩
theorem ee_gt (ha : EE prog w nm a ma) (hb : EE prog w nm b mb) (hmk : behindInMarks .Gt b = false := by with_unfolding_all rfl) : EE prog w nm (.Compare a [.Gt] [b] pos) (twoI gtE ma mb) := by
  intro cenv A' E' en s d hA L hm
  obtain ⟨i, j, e1, e2, e3⟩ := twoI_some hm
  cases e3
  refine wpAny_Compare1 (ee_two (P := fun _ _ _ => True) (f := ma) ha hb hA L e1 e2 fun v u s2 h1 h2 k => ?_) hmk
  unfold Hd at h1 h2
  obtain ⟨t, rfl⟩ := h1
  obtain ⟨t', rfl⟩ := h2
  exact PySem.P.gt_int ⟨by unfold Hd; rfl, k⟩
theorem ee_ge (ha : EE prog w nm a ma) (hb : EE prog w nm b mb) (hmk : behindInMarks .GtE b = false := by with_unfolding_all rfl) : EE prog w nm (.Compare a [.GtE] [b] pos) (twoI geE ma mb) := by
  intro cenv A' E' en s d hA L hm
  obtain ⟨i, j, e1, e2, e3⟩ := twoI_some hm
  cases e3
  refine wpAny_Compare1 (ee_two (P := fun _ _ _ => True) (f := ma) ha hb hA L e1 e2 fun v u s2 h1 h2 k => ?_) hmk
  unfold Hd at h1 h2
  obtain ⟨t, rfl⟩ := h1
  obtain ⟨t', rfl⟩ := h2
  exact PySem.P.ge_int ⟨by unfold Hd; rfl, k⟩
theorem ee_add (ha : EE prog w nm a ma) (hb : EE prog w nm b mb) : EE prog w nm (.BinOp a .Add b pos) (twoI addE ma mb) := by
  intro cenv A' E' en s d hA L hm
  obtain ⟨i, j, e1, e2, e3⟩ := twoI_some hm
  cases e3
  refine wpAny_BinOp (ee_two (P := fun _ _ _ => True) (f := ma) ha hb hA L e1 e2 fun v u s2 h1 h2 k => ?_)
  unfold Hd at h1 h2
  obtain ⟨t, rfl⟩ := h1
  obtain ⟨t', rfl⟩ := h2
  exact PySem.P.add_int ⟨by unfold Hd; exact ⟨_, rfl⟩, Keeps.trans' k (GxR.keeps_tok _ _)⟩
theorem ee_sub (ha : EE prog w nm a ma) (hb : EE prog w nm b mb) : EE prog w nm (.BinOp a .Sub b pos) (twoI subE ma mb) := by
  intro cenv A' E' en s d hA L hm
  obtain ⟨i, j, e1, e2, e3⟩ := twoI_some hm
  cases e3
  refine wpAny_BinOp (ee_two (P := fun _ _ _ => True) (f := ma) ha hb hA L e1 e2 fun v u s2 h1 h2 k => ?_)
  unfold Hd at h1 h2
  obtain ⟨t, rfl⟩ := h1
  obtain ⟨t', rfl⟩ := h2
  exact PySem.P.sub_int ⟨by unfold Hd; exact ⟨_, rfl⟩, Keeps.trans' k (GxR.keeps_tok _ _)⟩
end
variable [Tbs]
section
variable [Wx] {X : Cx} {k n i : Nat} {f : Addr} {fd : FuncData} {nms : List Str} {fn : Fn} {x y : Str} {p py pos apos : Pos} {e : Expr} {es : List Expr} {t : TA} {g : M (List Dat)}
/-- y = f(..) -/
def setXM (i : Nat) (fe : M RV) : SM := fun ps => (fe ps).bind fun x => if isX x.1 then some (.rt x.1 x.2) else (setV i x.1 x.2).bind fun ps' => some (.nx ps')
theorem ds_setX (F : FnOk X.prog X.w X.K X.mg X.base (L2.CX X.prog X.w) k f fd nms (spX X.K n Wx.c fn)) (hr : Room k X.A) (hg : Gl X x) (hm : X.mg x = some (.ref f)) (hk : PySem.W.keepIn X.K (.ref f) = true) (hb : Binds X.K fd nms []) (tk : Takes X Wx.w)
    (ha : DA X (e :: es) t g) (hl : ∀ ps ds ps', g ps = some (ds, ps') → ds.length = n) (hN : X.N.Nodup) (hi : X.N[i]? = some y) (hx : Loc X.env.scope y) (hdb : (x == ("__debug__" : Str)) = false := by decide) (he : starEach (e :: es) X.env = (false, eval e X.env) :: starEach es X.env := by rfl) (hpl : (backTo pos (starEach es X.env)).any (·.1) = false := by rfl)
    (hs : swapsWith (.Call (.Name x p) (e :: es) [] pos) (some (.Name y py)) apos.line X.env = pure false := by rfl) (hf : X.fn y = true ∨ X.env.scope.names.lookup y = some .local := by first | exact .inl rfl | exact .inr rfl | assumption) :
    DS X (.Assign [.Name y py] (.Call (.Name x p) (e :: es) [] pos) apos) (tAsg (tCallS (spX X.K n Wx.c fn) (WE Wx.w) t) (gName i)) (setXM i (callM fn g)) := by
  refine ⟨ps_set hN hi hx (pe_callS F hr hg hm hk hb (fun σ => passAt tk σ) ha.pe hdb he hpl) hs hf, ⟨fun G F ps σ H o D R e q => ?_⟩⟩
  unfold setXM at e
  obtain ⟨⟨r, ps1⟩, e1, e⟩ := Option.bind_eq_some_iff.mp e
  refine snd_callX ha.sn hl R e1 (fun v F1 H1 P1 r1 => ?_) fun a b er F1 H1 d P1 hx => ?_
  · cases hx : isX r with
    | true =>
      obtain ⟨a, b, rfl⟩ := isX_of hx
      exact (rel_exc (show Rel X.K F1 G.T (excD a b) v from r1)).elim
    | false =>
      simp only [hx, if_neg Bool.false_ne_true] at e
      obtain ⟨ps2, e2, e⟩ := Option.bind_eq_some_iff.mp e
      cases e
      obtain ⟨F', s, R'⟩ := setV_ok P1 r1 e2
      exact q F' _ H1 R' s
  · subst er
    cases e
    exact q.2 a b rfl F1 σ H1 d P1.rep P1.same hx
end
/-! ### a clause that asks the caught exception's class, and the types of its fields -/
/-- what isinstance asks of the class -/
structure ExcQ (K : Fg) (C : Addr) : Prop where
  cl : (PySem.W.clsIn K C).isSome = true
  ha : PySem.W.findIn K (.ref C) "__class__" = some (some (.builtin "object.__class__"))
  hn : PySem.W.specialIn K (.builtin "object.__class__") "__get__" = some (some (.builtin "getset_descriptor.__get__"))
  ht : PySem.W.takesIn K (.builtin "object.__class__") = some true
  hm : PySem.W.mroIn K C (.type "object") = some true
/-- isinstance(e, c), e the caught exception, with its fields -/
def rIsX (K : Fg) (C a : Addr) (cls : Value) (d : Option Addr) : List V → Hp → VK → Prop := fun xs H Q => ∃ (c : V) (cv : Value) (b : Bool) (dd : Addr) (fs : List (Str × V)), xs = [.ref a, c] ∧ (∀ u, RelV c u → u = cv) ∧ cls = .ref C ∧ d = some dd ∧ H dd = some (.xd fs) ∧ PySem.W.kitOne K (.ref C) cv = some b ∧ Q (.bl b) H
theorem call_isX {X : Cx} {a C : Addr} {oe : Obj} {cls : Value} {d : Option Addr} {pn : List (Addr × Obj)} (T : XfC X.K C) (E : ExcQ X.K C) (hz : Zc cls d oe) (hf : ∃ vs, oe.data = .fields vs) : CallR (X.suite a ((a, oe) :: pn)) (.builtin "isinstance") (rIsX X.K C a cls d) := by
  intro pins s σ H xs us Q I r h
  obtain ⟨c, cv, b, dd, fs, rfl, hcv, ec, ed, ea, e, q⟩ := h
  subst ec
  subst ed
  cases r with
  | cons rx rr =>
    cases rr with
    | cons rt rr =>
      cases rr
      cases rx
      have ec := hcv _ rt
      subst ec
      obtain ⟨ha, _⟩ := I.pin (a, oe) (List.mem_append_left _ List.mem_cons_self)
      obtain ⟨vs, hd⟩ := hf
      have hx : ObjOk X.prog X.w H s.heap dd (.xd fs) := I.hok dd _ ea
      obtain ⟨mA, hns, hr⟩ := hx
      obtain ⟨od, ho, hl⟩ := lookIn_ns hns
      have J : PySem.W.InstAt s.heap a oe C (some od) := ⟨ha, hz.1, by unfold PySem.W.notCls; rw [hd] <;> rfl, by rw [hz.2]; exact ho⟩
      exact PySem.W.kia_one (PySem.W.kitx_exc E.cl T.ga T.gg T.exC E.ha E.hn E.ht E.hm) I.kIn J e (fun z => nomatch z) fun tk => ⟨.bl b, H, I.tok tk, rfl, q⟩
section
variable {X : Cx} {x n y : Str} {i : Nat} {body : List Stmt} {np pos pos' p1 p2 p3 p4 p5 p6 u1 u2 u3 : Pos} {kk k2 : Nat} {tb : Wx → TS} {b : SM} {C Cs : Addr}
def tsB (K : Fg) (C Cs : Addr) (i : Nat) (wr : Str) (wk : Int) (a : Addr) (cls : Value) (d : Option Addr) : TS :=
  tSeq (tIfS (tOr (tNot (tB (tCB (rIsX K C a cls d) (tCons (tVar i) (tCons (tC (.ref Cs)) tNil))))) (tOr (tNot (tB (tCB (rIsi K) (tCons (tXf a cls d C "rule" (tVar i)) (tCons (tC (.ty "str")) tNil))))) (tNot (tB (tCB (rIsi K) (tCons (tXf a cls d C "index" (tVar i)) (tCons (tC (.ty "int")) tNil)))))))
    (tRet (tTupD (tCons (tC (.str wr)) (tCons (tC (.int wk)) tNil)))) tNext) (tsA K C i a cls d)
def hB (a b : Dat) : SM := match a, b with
  | .str x, .int k => hA (.str x) (.int k)
  | _, _ => fun _ => none
theorem ds_tryB {fI : Addr} {q0 q1 q2 q3 q4 q5 q6 q7 q8 q9 qa qb qc qd qe qf qg qh qi qj qk : Pos} {j1 j2 : Nat} {wr : Str} {wk : Int} (hs : X.stack = X.env :: X.outer) (hf : X.env.frame = some X.env.locals) (hN : X.N.Nodup) (hi : X.N[i]? = some n) (hln : X.env.kindOf n = some .local) (hc : Names X x (.ref C)) (Mk : MeK X.prog X.K C fI) (T : XfC X.K C) (hex : PySem.W.exmOne X.K (.ref C) (.ref C) = some true)
    (hb : ∀ (pn : List (Addr × Obj)) (xe : Value → Shared → Prop) [Wi : Wx], Wi.c = C → Takes (X.tr pn xe) Wi.w → PassesOwn (model X.prog X.w) X.A X.env xe → DSs (X.tr pn xe) body (tb Wi) b)
    (hgl : Gl X "isinstance") (hgm : X.mg "isinstance" = none) (hgS : Gl X "str") (hmS : X.mg "str" = none) (hgI : Gl X "int") (hmI : X.mg "int" = none) (hgy : Gl X y) (hmy : X.mg y = some (.ref Cs)) (E : ExcQ X.K C) (hio : PySem.W.kitOne X.K (.ref C) (.ref Cs) = some true)
    (hd : (n == ("__debug__" : Str)) = false := by decide) (hcd : (n == ("__classdict__" : Str)) = false := by decide) (hyd : (y == ("__debug__" : Str)) = false := by decide) :
    DS X (.Try body [.ExceptHandler (some (.Name x np)) (some n) [.If (.BoolOp .Or [.UnaryOp .Not (.Call (.Name "isinstance" q0) [.Name n q1, .Name y q2] [] q3) q4, .UnaryOp .Not (.Call (.Name "isinstance" q5) [.Attribute (.Name n q6) "rule" q7, .Name "str" q8] [] q9) qa, .UnaryOp .Not (.Call (.Name "isinstance" qb) [.Attribute (.Name n qc) "index" qd, .Name "int" qe] [] qf) qg] qh) [.Return (some (.Tuple [.Constant (.str wr) j1 qi, .Constant (.int wk) j2 qj] kk qk)) p5] [] p6, .Return (some (.Tuple [.Attribute (.Name n p1) "rule" p2, .Attribute (.Name n p3) "index" p4] k2 u1)) u2] u3] [] [] pos)
      (fun D σ H => tb ⟨C, wAs X.K (.ref C) i (tsB X.K C Cs i wr wk) (fun _ _ _ _ => False) D⟩ D σ H) (tryM i b hB) := by
  have hv : Vis X.env.scope n := .inl hln
  refine ⟨ps_try_as (tb := fun W => tb ⟨C, W⟩) (ts := tsB X.K C Cs i wr wk) hs hf hN hi hln hc takes_false (fun W pn xe tk po => by letI : Wx := ⟨C, W⟩; exact (hb pn xe rfl tk po).pe) (fun a oe cls d pn hz hfl => ?_), snd_try (C := C) (ts := tsB X.K C Cs i wr wk) (fun {Wi} hc => sn_of_tr hs hf hb hc) hex fun G F ps σ H o D a d xa xb R hx hlt e q hn => ?_⟩
  · have hvar : ∀ pp, PE (X.suite a ((a, oe) :: pn)) (.Name n pp) (tVar i) := fun pp => pe_var (X := X.suite a ((a, oe) :: pn)) hi hv hd hcd
    have hr : PE (X.suite a ((a, oe) :: pn)) (.Attribute (.Name n q6) "rule" q7) _ := pe_xf T Mk.noR hz hfl (hvar q6)
    have hx : PE (X.suite a ((a, oe) :: pn)) (.Attribute (.Name n qc) "index" qd) _ := pe_xf T Mk.noI hz hfl (hvar qc)
    have c1 := pe_callB (X := X.suite a ((a, oe) :: pn)) (p := q0) (pos := q3) (call_isX T E hz hfl) hgl hgm (by decide +kernel) (pa_cons (hvar q1) (pa_cons (pe_glob (X := X.suite a ((a, oe) :: pn)) (v := .ref Cs) (pos := q2) hgy hmy rfl hyd) pa_nil))
    have c2 := pe_callB (X := X.suite a ((a, oe) :: pn)) (p := q5) (pos := q9) call_isi hgl hgm (by decide +kernel) (pa_cons hr (pa_cons (pe_bltn (X := X.suite a ((a, oe) :: pn)) (v := .ty "str") (pos := q8) hgS hmS rfl rfl) pa_nil))
    have c3 := pe_callB (X := X.suite a ((a, oe) :: pn)) (p := qb) (pos := qf) call_isi hgl hgm (by decide +kernel) (pa_cons hx (pa_cons (pe_bltn (X := X.suite a ((a, oe) :: pn)) (v := .ty "int") (pos := qe) hgI hmI rfl rfl) pa_nil))
    refine pss_cons (ps_if (pw_or (pt_not (pt_val c1)) (pw_or (pt_not (pt_val c2)) (pw_or1 (pt_not (pt_val c3))))).pt (pss_one (ps_ret (pe_tupD (pa_cons pe_str (pa_cons pe_int pa_nil))))) pss_nil) ?_
    exact pss_one (ps_ret (pe_tupD (pa_cons (pe_xf T Mk.noR hz hfl (hvar p1)) (pa_cons (pe_xf T Mk.noI hz hfl (hvar p3)) pa_nil))))
  · unfold hB at e
    split at e
    · rename_i sx kx
      unfold hA at e
      have l2 : line 2 = true := rfl
      obtain rfl : SOut.rt (.im (.tuple [.str sx, .int kx])) ps = o := by
        have : retM (tupM (consM (kst (.str sx)) (consM (kst (.int kx)) (M.ret [])))) ps = some (SOut.rt (.im (.tuple [.str sx, .int kx])) ps) := rfl
        rw [this] at e
        exact Option.some.inj e
      obtain ⟨va, vb, hxd, ra, rb⟩ := hx
      have ea : va = .str sx := rStr.mp ra
      have eb : vb = .int kx := rInt.mp rb
      have hg : (σ.set i (some (V.ref a)))[i]? = some (some (V.ref a)) := by rw [List.getElem?_set_self hlt]
      refine ⟨V.ref a, hg, .ref Cs, .ref Cs, true, d, _, rfl, fun u z => z, rfl, rfl, hxd, hio, true, rfl, ?_⟩
      show (if (!true) = true then _ else _)
      rw [if_neg (by decide)]
      refine ⟨V.ref a, hg, rfl, rfl, d, _, va, rfl, hxd, rfl, va, _, _, _, true, rfl, .ty _, (tyX_of (H := H) (T := G.T) (rStr.mpr ea) (t := .str) rfl), kit_ty (kit_all .str .str (by decide)), true, rfl, ?_⟩
      show (if (!true) = true then _ else _)
      rw [if_neg (by decide)]
      refine ⟨V.ref a, hg, rfl, rfl, d, _, vb, rfl, hxd, rfl, vb, _, _, _, true, rfl, .ty _, (tyX_of (H := H) (T := G.T) (rInt.mpr eb) (t := .int) rfl), kit_ty (kit_all .int .int (by decide)), true, rfl, ?_⟩
      show (if (!true) = true then _ else _)
      rw [if_neg (by decide)]
      refine ⟨V.ref a, hg, rfl, rfl, d, _, va, rfl, hxd, rfl, V.ref a, hg, rfl, rfl, d, _, vb, rfl, hxd, rfl, (show 2 ≤ sizeLine by decide), ?_⟩
      exact out_tp R (ds := [.str sx, .int kx]) (vs := [va, vb]) (by unfold RelL; exact ⟨va, [vb], rfl, ra, by unfold RelL; exact ⟨vb, [], rfl, rb, by unfold RelL; rfl⟩⟩) fun v F2 H2 P r => q.1 v F2 σ H2 P.rep P.same r
    · cases e
end
/-! ### as the printer says them -/
/-- a class that the caught exception is asked for -/
class ExcI (P : Program) (mg : Str → Option Value) (K : Fg) (x y : Str) [ExcB P mg K x] where
  c : Addr
  my : mg y = some (.ref c)
  q : ExcQ K (ExcB.c P mg K x)
  io : PySem.W.kitOne K (.ref (ExcB.c P mg K x)) (.ref c) = some true
section
variable [Wx] {X : Cx} {K : Fg} {k n i : Nat} {f C : Addr} {fd : FuncData} {nms : List Str} {fn : Fn} {x y : Str} {p py pos apos : Pos} {e : Expr} {es : List Expr} {t : TA} {g : M (List Dat)}
theorem kx_set (hK : X.K = K) (hc : Wx.c = C) (F : FnOk X.prog X.w K X.mg X.base (L2.CX X.prog X.w) k f fd nms (spX K n C fn)) (hr : Room k X.A) (hg : Gl X x) (hm : X.mg x = some (.ref f)) (hk : PySem.W.keepIn K (.ref f) = true) (hb : Binds K fd nms []) (tk : Takes X Wx.w)
    (ha : DA X (e :: es) t g) (hl : ∀ ps ds ps', g ps = some (ds, ps') → ds.length = n) (hN : X.N.Nodup) (hi : X.N[i]? = some y) (hx : Loc X.env.scope y) (hdb : (x == ("__debug__" : Str)) = false := by decide) (he : starEach (e :: es) X.env = (false, eval e X.env) :: starEach es X.env := by rfl) (hpl : (backTo pos (starEach es X.env)).any (·.1) = false := by rfl)
    (hs : swapsWith (.Call (.Name x p) (e :: es) [] pos) (some (.Name y py)) apos.line X.env = pure false := by rfl) (hf : X.fn y = true ∨ X.env.scope.names.lookup y = some .local := by first | exact .inl rfl | exact .inr rfl | assumption) :
    DS X (.Assign [.Name y py] (.Call (.Name x p) (e :: es) [] pos) apos) (tAsg (tCallS (spX K n C fn) (WE Wx.w) t) (gName i)) (setXM i (callM fn g)) := by subst hK hc; exact ds_setX F hr hg hm hk hb tk ha hl hN hi hx hdb he hpl hs hf
end
section
variable {X : Cx} {K : Fg} {x n y : Str} {i : Nat} {body : List Stmt} {np pos pos' p1 p2 p3 p4 p5 p6 u1 u2 u3 u4 u5 : Pos} {kk k2 : Nat} {tb : Wx → TS} {b : SM} {C Cs fI : Addr} {q0 q1 q2 q3 q4 q5 q6 q7 q8 q9 qa qb qc qd qe qf qg qh qi qj qk : Pos} {j1 j2 : Nat} {wr : Str} {wk : Int}
theorem kx_tryB (hs : X.stack = X.env :: X.outer) (hf : X.env.frame = some X.env.locals) (hN : X.N.Nodup) (hi : X.N[i]? = some n) (hln : X.env.kindOf n = some .local) (hg : Gl X x) (hK : X.K = K) (hm : X.mg x = some (.ref C)) (Mk : MeK X.prog K C fI) (T : XfC K C) (hex : PySem.W.exmOne K (.ref C) (.ref C) = some true)
    (hb : ∀ (pn : List (Addr × Obj)) (xe : Value → Shared → Prop) [Wi : Wx], Wi.c = C → Takes (X.tr pn xe) Wi.w → PassesOwn (model X.prog X.w) X.A X.env xe → DSs (X.tr pn xe) body (tb Wi) b)
    (hgl : Gl X "isinstance") (hgm : X.mg "isinstance" = none) (hgS : Gl X "str") (hmS : X.mg "str" = none) (hgI : Gl X "int") (hmI : X.mg "int" = none) (hgy : Gl X y) (hmy : X.mg y = some (.ref Cs)) (E : ExcQ K C) (hio : PySem.W.kitOne K (.ref C) (.ref Cs) = some true)
    (hx : (x == ("__debug__" : Str)) = false := by decide) (hd : (n == ("__debug__" : Str)) = false := by decide) (hcd : (n == ("__classdict__" : Str)) = false := by decide) (hyd : (y == ("__debug__" : Str)) = false := by decide) :
    DS X (.Try body [.ExceptHandler (some (.Name x np)) (some n) [.If (.BoolOp .Or [.UnaryOp .Not (.Call (.Name "isinstance" q0) [.Name n q1, .Name y q2] [] q3) q4, .UnaryOp .Not (.Call (.Name "isinstance" q5) [.Attribute (.Name n q6) "rule" q7, .Name "str" q8] [] q9) qa, .UnaryOp .Not (.Call (.Name "isinstance" qb) [.Attribute (.Name n qc) "index" qd, .Name "int" qe] [] qf) qg] qh) [.Return (some (.Tuple [.Constant (.str wr) j1 qi, .Constant (.int wk) j2 qj] kk qk)) p5] [] p6, .Return (some (.Tuple [.Attribute (.Name n p1) "rule" p2, .Attribute (.Name n p3) "index" p4] k2 u1)) u2] u3] [] [] pos)
      (fun D σ H => tb ⟨C, wAs X.K (.ref C) i (tsB X.K C Cs i wr wk) (fun _ _ _ _ => False) D⟩ D σ H) (tryM i b hB) := by subst hK; exact ds_tryB hs hf hN hi hln ⟨hg, hx, .inl hm⟩ Mk T hex hb hgl hgm hgS hmS hgI hmI hgy hmy E hio hd hcd hyd
end
def exiL (K : Fg) (x y : Str) : List Bool :=
  [(PySem.W.clsIn K (He.ga K x)).isSome, optB (PySem.W.findIn K (.ref (He.ga K x)) "__class__") (some (some (.builtin "object.__class__"))), optB (PySem.W.specialIn K (.builtin "object.__class__") "__get__") (some (some (.builtin "getset_descriptor.__get__"))), decide (PySem.W.takesIn K (.builtin "object.__class__") = some true),
   decide (PySem.W.mroIn K (He.ga K x) (.type "object") = some true), decide (PySem.W.kitOne K (.ref (He.ga K x)) (.ref (He.ga K y)) = some true)]
def exiB (K : Fg) (x y : Str) : Bool := (exiL K x y).all id
theorem exiB_get {K : Fg} {x y : Str} (h : exiB K x y = true) {b : Bool} (i : Nat) (e : (exiL K x y)[i]? = some b) : b = true := List.all_eq_true.mp h b (List.mem_of_getElem? e)
theorem exiQ_of {K : Fg} {x y : Str} (h : exiB K x y = true) : ExcQ K (He.ga K x) := ⟨exiB_get h 0 rfl, optB_ok (exiB_get h 1 rfl), optB_ok (exiB_get h 2 rfl), of_decide_eq_true (exiB_get h 3 rfl), of_decide_eq_true (exiB_get h 4 rfl)⟩
theorem exiI_of {K : Fg} {x y : Str} (h : exiB K x y = true) : PySem.W.kitOne K (.ref (He.ga K x)) (.ref (He.ga K y)) = some true := of_decide_eq_true (exiB_get h 5 rfl)
end MP


namespace LK
open PySem PySem.Spec PyProof.Rows L2 MP
/-! ### the text by places -/
def topS (i : Nat) : Stmt := PySem.Challenge.pw_manysheets_k08_rules_of_data.main.body.getD i (.Pass ⟨0, 0, 0, 0⟩)
abbrev s_law_state : Stmt := topS 19
abbrev s_law_draw : Stmt := topS 20
abbrev s_law_draw_kind : Stmt := topS 22
abbrev s_require : Stmt := topS 11
abbrev s_letters : Stmt := topS 15
abbrev s_word : Stmt := topS 16
abbrev s_base_right : Stmt := topS 12
abbrev s_is_kind : Stmt := topS 5
abbrev s_check_datum : Stmt := topS 13
abbrev s_law_told : Stmt := topS 27
abbrev s_law_bad : Stmt := topS 28
abbrev s_euler : Stmt := topS 14
abbrev s_law_euler : Stmt := topS 24
abbrev s_law_letters : Stmt := topS 25
abbrev s_law_word : Stmt := topS 26
abbrev s_kind_defect : Stmt := topS 6
abbrev s_euler_above : Stmt := topS 17
abbrev s_law : Stmt := topS 29
theorem sc_law_state : FnScope ["script", "seed", "cell"] ["script"] (defScope s_law_state) := ⟨rfl, rfl, rfl, by decide +kernel, rfl, by decide +kernel, by decide +kernel⟩
theorem sc_law_draw : FnScope ["state", "many", "cells", "value", "mixed"] ["state", "many"] (defScope s_law_draw) := ⟨rfl, rfl, rfl, by decide +kernel, rfl, by decide +kernel, by decide +kernel⟩
theorem sc_law_draw_kind : FnScope ["state", "n", "left", "parts", "part"] ["state", "n"] (defScope s_law_draw_kind) := ⟨rfl, rfl, rfl, by decide +kernel, rfl, by decide +kernel, by decide +kernel⟩
theorem sc_require : FnScope ["holds", "rule", "index"] ["holds", "rule", "index"] (defScope s_require) := ⟨rfl, rfl, rfl, by decide +kernel, rfl, by decide +kernel, by decide +kernel⟩
theorem sc_letters : FnScope ["base"] ["base"] (defScope s_letters) := ⟨rfl, rfl, rfl, by decide +kernel, rfl, by decide +kernel, by decide +kernel⟩
theorem sc_word : FnScope ["base", "many", "told", "at"] ["base", "many"] (defScope s_word) := ⟨rfl, rfl, rfl, by decide +kernel, rfl, by decide +kernel, by decide +kernel⟩
theorem sc_base_right : FnScope ["base", "word", "many"] ["base"] (defScope s_base_right) := ⟨rfl, rfl, rfl, by decide +kernel, rfl, by decide +kernel, by decide +kernel⟩
theorem sc_is_kind : FnScope ["n", "row", "part", "at"] ["n", "row"] (defScope s_is_kind) := ⟨rfl, rfl, rfl, by decide +kernel, rfl, by decide +kernel, by decide +kernel⟩
theorem sc_check_datum : FnScope ["datum", "base", "sheets", "kinds", "sides", "index", "row"] ["datum"] (defScope s_check_datum) := ⟨rfl, rfl, rfl, by decide +kernel, rfl, by decide +kernel, by decide +kernel⟩
theorem sc_law_told : FnScope ["datum", "given", "e"] ["datum"] (defScope s_law_told) := ⟨rfl, rfl, rfl, by decide +kernel, rfl, by decide +kernel, by decide +kernel⟩
theorem sc_law_bad : FnScope ["state", "datum", "fault", "base", "n", "kinds", "sides", "row", "many", "at", "bad"] ["state", "datum", "fault"] (defScope s_law_bad) := ⟨rfl, rfl, rfl, by decide +kernel, rfl, by decide +kernel, by decide +kernel⟩
theorem sc_euler : FnScope ["base"] ["base"] (defScope s_euler) := ⟨rfl, rfl, rfl, by decide +kernel, rfl, by decide +kernel, by decide +kernel⟩
theorem sc_law_euler : FnScope ["base"] ["base"] (defScope s_law_euler) := ⟨rfl, rfl, rfl, by decide +kernel, rfl, by decide +kernel, by decide +kernel⟩
theorem sc_law_letters : FnScope ["base"] ["base"] (defScope s_law_letters) := ⟨rfl, rfl, rfl, by decide +kernel, rfl, by decide +kernel, by decide +kernel⟩
theorem sc_law_word : FnScope ["base", "many", "told", "k"] ["base", "many"] (defScope s_law_word) := ⟨rfl, rfl, rfl, by decide +kernel, rfl, by decide +kernel, by decide +kernel⟩
theorem sc_kind_defect : FnScope ["row"] ["row"] (defScope s_kind_defect) := ⟨rfl, rfl, rfl, by decide +kernel, rfl, by decide +kernel, by decide +kernel⟩
theorem sc_euler_above : FnScope ["datum", "base", "sheets", "kinds", "_", "row"] ["datum"] (defScope s_euler_above) := ⟨rfl, rfl, rfl, by decide +kernel, rfl, by decide +kernel, by decide +kernel⟩
theorem sc_law : FnScope ["script", "state", "base", "n", "kinds", "sides", "datum", "fault", "bad", "due", "told", "k", "row"] ["script"] (defScope s_law) := ⟨rfl, rfl, rfl, by decide +kernel, rfl, by decide +kernel, by decide +kernel⟩
/-- the defs that hold generator expressions: their tables of codes may grow -/
def tf : List He.Defn := [("is_kind", none)]
class TabsB (base : Heap) (mg : Str → Option Value) (K : Fg) : Prop where
  tb : ∀ p ∈ tf, GxR.TabB base mg (He.cT K p).1 (He.cT K p).2
structure Txt (K : Fg) (mg : Str → Option Value) where
  a_law_state : Addr
  d_law_state : FuncData
  F_law_state : Fun K "_law_state" "_law_state" s_law_state a_law_state d_law_state
  g_law_state : mg "_law_state" = some (.ref a_law_state)
  a_law_draw : Addr
  d_law_draw : FuncData
  F_law_draw : Fun K "_law_draw" "_law_draw" s_law_draw a_law_draw d_law_draw
  g_law_draw : mg "_law_draw" = some (.ref a_law_draw)
  a_law_draw_kind : Addr
  d_law_draw_kind : FuncData
  F_law_draw_kind : Fun K "_law_draw_kind" "_law_draw_kind" s_law_draw_kind a_law_draw_kind d_law_draw_kind
  g_law_draw_kind : mg "_law_draw_kind" = some (.ref a_law_draw_kind)
  a_require : Addr
  d_require : FuncData
  F_require : Fun K "require" "require" s_require a_require d_require
  g_require : mg "require" = some (.ref a_require)
  a_letters : Addr
  d_letters : FuncData
  F_letters : Fun K "letters" "letters" s_letters a_letters d_letters
  g_letters : mg "letters" = some (.ref a_letters)
  a_word : Addr
  d_word : FuncData
  F_word : Fun K "word" "word" s_word a_word d_word
  g_word : mg "word" = some (.ref a_word)
  a_base_right : Addr
  d_base_right : FuncData
  F_base_right : Fun K "base_right" "base_right" s_base_right a_base_right d_base_right
  g_base_right : mg "base_right" = some (.ref a_base_right)
  a_is_kind : Addr
  d_is_kind : FuncData
  F_is_kind : Fun K "is_kind" "is_kind" s_is_kind a_is_kind d_is_kind
  g_is_kind : mg "is_kind" = some (.ref a_is_kind)
  cd_is_kind : d_is_kind.code = .ref (He.cT K ("is_kind", none)).1
  a_check_datum : Addr
  d_check_datum : FuncData
  F_check_datum : Fun K "check_datum" "check_datum" s_check_datum a_check_datum d_check_datum
  g_check_datum : mg "check_datum" = some (.ref a_check_datum)
  a_law_told : Addr
  d_law_told : FuncData
  F_law_told : Fun K "_law_told" "_law_told" s_law_told a_law_told d_law_told
  g_law_told : mg "_law_told" = some (.ref a_law_told)
  a_law_bad : Addr
  d_law_bad : FuncData
  F_law_bad : Fun K "_law_bad" "_law_bad" s_law_bad a_law_bad d_law_bad
  g_law_bad : mg "_law_bad" = some (.ref a_law_bad)
  a_euler : Addr
  d_euler : FuncData
  F_euler : Fun K "euler" "euler" s_euler a_euler d_euler
  g_euler : mg "euler" = some (.ref a_euler)
  a_law_euler : Addr
  d_law_euler : FuncData
  F_law_euler : Fun K "_law_euler" "_law_euler" s_law_euler a_law_euler d_law_euler
  g_law_euler : mg "_law_euler" = some (.ref a_law_euler)
  a_law_letters : Addr
  d_law_letters : FuncData
  F_law_letters : Fun K "_law_letters" "_law_letters" s_law_letters a_law_letters d_law_letters
  g_law_letters : mg "_law_letters" = some (.ref a_law_letters)
  a_law_word : Addr
  d_law_word : FuncData
  F_law_word : Fun K "_law_word" "_law_word" s_law_word a_law_word d_law_word
  g_law_word : mg "_law_word" = some (.ref a_law_word)
  a_kind_defect : Addr
  d_kind_defect : FuncData
  F_kind_defect : Fun K "kind_defect" "kind_defect" s_kind_defect a_kind_defect d_kind_defect
  g_kind_defect : mg "kind_defect" = some (.ref a_kind_defect)
  a_euler_above : Addr
  d_euler_above : FuncData
  F_euler_above : Fun K "euler_above" "euler_above" s_euler_above a_euler_above d_euler_above
  g_euler_above : mg "euler_above" = some (.ref a_euler_above)
  a_law : Addr
  d_law : FuncData
  F_law : Fun K "law" "law" s_law a_law d_law
  g_law : mg "law" = some (.ref a_law)
  z_abs : mg "abs" = none
  z_all : mg "all" = none
  z_any : mg "any" = none
  z_enumerate : mg "enumerate" = none
  z_int : mg "int" = none
  z_isinstance : mg "isinstance" = none
  z_len : mg "len" = none
  z_min : mg "min" = none
  z_range : mg "range" = none
  z_set : mg "set" = none
  z_sorted : mg "sorted" = none
  z_str : mg "str" = none
  z_sum : mg "sum" = none
  z_tuple : mg "tuple" = none
  t_MOST_SHEETS : Tok
  c_MOST_SHEETS : mg "MOST_SHEETS" = some (.int 60 t_MOST_SHEETS)
  t_MOST_HANDLES : Tok
  c_MOST_HANDLES : mg "MOST_HANDLES" = some (.int 12 t_MOST_HANDLES)
  t_MOST_CAPS : Tok
  c_MOST_CAPS : mg "MOST_CAPS" = some (.int 24 t_MOST_CAPS)
  t_MOST_KINDS : Tok
  c_MOST_KINDS : mg "MOST_KINDS" = some (.int 8 t_MOST_KINDS)
abbrev XX (P : Program) (w : World) (K : Fg) (mg : Str → Option Value) (base : Heap) (N : List Str) (qual : Str) (st : Stmt) (f : Addr) (cdv : Value) (A : Around) (outer : List Env) (s : Shared) (H : Hp) (E : XK) : Cx := (cxOf CX0 P w K mg base N qual (defScope st) f cdv A outer s H E).nox
abbrev XXx (P : Program) (w : World) (K : Fg) (mg : Str → Option Value) (base : Heap) (N : List Str) (qual : Str) (st : Stmt) (f : Addr) (cdv : Value) (A : Around) (outer : List Env) (s : Shared) (H : Hp) (E : XK) : Cx := cxOf (L2.CX P w) P w K mg base N qual (defScope st) f cdv A outer s H E
section
variable {P : Program} {w : World} {K : Fg} {mg : Str → Option Value} {base : Heap}
theorem bind_law_state (T : Txt K mg) : Binds K T.d_law_state ["script"] [] := T.F_law_state.binds (ps := ["script"]) fun _ _ _ _ _ _ us hl => match us, hl with | [_], _ => rfl
theorem bind_law_draw (T : Txt K mg) : Binds K T.d_law_draw ["state", "many"] [] := T.F_law_draw.binds (ps := ["state", "many"]) fun _ _ _ _ _ _ us hl => match us, hl with | [_, _], _ => rfl
theorem bind_law_draw_kind (T : Txt K mg) : Binds K T.d_law_draw_kind ["state", "n"] [] := T.F_law_draw_kind.binds (ps := ["state", "n"]) fun _ _ _ _ _ _ us hl => match us, hl with | [_, _], _ => rfl
theorem bind_require (T : Txt K mg) : Binds K T.d_require ["holds", "rule", "index"] [] := T.F_require.binds (ps := ["holds", "rule", "index"]) fun _ _ _ _ _ _ us hl => match us, hl with | [_, _, _], _ => rfl
theorem bind_letters (T : Txt K mg) : Binds K T.d_letters ["base"] [] := T.F_letters.binds (ps := ["base"]) fun _ _ _ _ _ _ us hl => match us, hl with | [_], _ => rfl
theorem bind_word (T : Txt K mg) : Binds K T.d_word ["base", "many"] [] := T.F_word.binds (ps := ["base", "many"]) fun _ _ _ _ _ _ us hl => match us, hl with | [_, _], _ => rfl
theorem bind_base_right (T : Txt K mg) : Binds K T.d_base_right ["base"] [] := T.F_base_right.binds (ps := ["base"]) fun _ _ _ _ _ _ us hl => match us, hl with | [_], _ => rfl
theorem bind_is_kind (T : Txt K mg) : Binds K T.d_is_kind ["n", "row"] [] := T.F_is_kind.binds (ps := ["n", "row"]) fun _ _ _ _ _ _ us hl => match us, hl with | [_, _], _ => rfl
theorem bind_check_datum (T : Txt K mg) : Binds K T.d_check_datum ["datum"] [] := T.F_check_datum.binds (ps := ["datum"]) fun _ _ _ _ _ _ us hl => match us, hl with | [_], _ => rfl
theorem bind_law_told (T : Txt K mg) : Binds K T.d_law_told ["datum"] [] := T.F_law_told.binds (ps := ["datum"]) fun _ _ _ _ _ _ us hl => match us, hl with | [_], _ => rfl
theorem bind_law_bad (T : Txt K mg) : Binds K T.d_law_bad ["state", "datum", "fault"] [] := T.F_law_bad.binds (ps := ["state", "datum", "fault"]) fun _ _ _ _ _ _ us hl => match us, hl with | [_, _, _], _ => rfl
theorem bind_euler (T : Txt K mg) : Binds K T.d_euler ["base"] [] := T.F_euler.binds (ps := ["base"]) fun _ _ _ _ _ _ us hl => match us, hl with | [_], _ => rfl
theorem bind_law_euler (T : Txt K mg) : Binds K T.d_law_euler ["base"] [] := T.F_law_euler.binds (ps := ["base"]) fun _ _ _ _ _ _ us hl => match us, hl with | [_], _ => rfl
theorem bind_law_letters (T : Txt K mg) : Binds K T.d_law_letters ["base"] [] := T.F_law_letters.binds (ps := ["base"]) fun _ _ _ _ _ _ us hl => match us, hl with | [_], _ => rfl
theorem bind_law_word (T : Txt K mg) : Binds K T.d_law_word ["base", "many"] [] := T.F_law_word.binds (ps := ["base", "many"]) fun _ _ _ _ _ _ us hl => match us, hl with | [_, _], _ => rfl
theorem bind_kind_defect (T : Txt K mg) : Binds K T.d_kind_defect ["row"] [] := T.F_kind_defect.binds (ps := ["row"]) fun _ _ _ _ _ _ us hl => match us, hl with | [_], _ => rfl
theorem bind_euler_above (T : Txt K mg) : Binds K T.d_euler_above ["datum"] [] := T.F_euler_above.binds (ps := ["datum"]) fun _ _ _ _ _ _ us hl => match us, hl with | [_], _ => rfl
theorem bind_law (T : Txt K mg) : Binds K T.d_law ["script"] [] := T.F_law.binds (ps := ["script"]) fun _ _ _ _ _ _ us hl => match us, hl with | [_], _ => rfl
end
/-! ### what the defs compute -/
def fn_law_draw : Fn := drawA
noncomputable def b_law_draw_kind : SM := (seqM (setM 2 (rdV 1))
  (seqM (setM 3 (lstM (M.ret [])))
  (seqM (whileM (tstM (opM gtD (rdV 2) (kst (.int 0)))) (seqM (setM 4 (opM addD (kst (.int 1)) (callM fn_law_draw (consM (rdV 0) (consM (cnM min2D (consM (rdV 2) (consM (opM ixD (lstM (consM (kst (.int 1)) (consM (kst (.int 2)) (consM (kst (.int 3)) (consM (kst (.int 60)) (M.ret [])))))) (callM fn_law_draw (consM (rdV 0) (consM (kst (.int 4)) (M.ret []))))) (M.ret [])))) (M.ret []))))))
  (seqM (appM 3 (rdV 4))
  (setM 2 (opM subD (rdV 2) (rdV 4))))))
  (retM (unM tupleD (unM revAD (unM sortAD (rdV 3))))))))
noncomputable def fn_law_draw_kind : Fn := bodyFn 5 b_law_draw_kind
noncomputable def b_require : SM := (iteM (notM (truM (rdV 0))) (raiseXM (consM (rdV 1) (consM (rdV 2) (M.ret [])))) nxM)
noncomputable def fn_require : Fn := bodyFn 3 b_require
noncomputable def b_letters : SM := (retM (ifM (tstM (opM eqD (opM ixD (rdV 0) (kst (.int 0))) (kst (.str ("N" : Str))))) (opM mulD (kst (.int 2)) (opM ixD (rdV 0) (kst (.int 1)))) (opM ixD (rdV 0) (kst (.int 1)))))
noncomputable def fn_letters : Fn := bodyFn 1 b_letters
noncomputable def b_word : SM := (seqM (setM 2 (lstM (M.ret [])))
  (seqM (forSM (rng1 (consM (opM ixD (rdV 0) (kst (.int 1))) (M.ret []))) (nmT 3) (iteM (tstM (opM eqD (opM ixD (rdV 0) (kst (.int 0))) (kst (.str ("N" : Str))))) (setM 2 (opM addD (rdV 2) (lstM (consM (opM addD (opM mulD (kst (.int 2)) (rdV 3)) (kst (.int 1))) (consM (opM addD (opM mulD (kst (.int 2)) (rdV 3)) (kst (.int 2))) (consM (opM subD (opM mulD (unM negD (kst (.int 2))) (rdV 3)) (kst (.int 1))) (consM (opM subD (opM mulD (unM negD (kst (.int 2))) (rdV 3)) (kst (.int 2))) (M.ret [])))))))) (setM 2 (opM addD (rdV 2) (lstM (consM (opM addD (rdV 3) (kst (.int 1))) (consM (opM addD (rdV 3) (kst (.int 1))) (M.ret []))))))))
  (retM (unM tupleD (opM addD (rdV 2) (lcM [3] (rng1 (consM (rdV 1) (M.ret []))) (nmT 3) (M.ret true) (opM addD (opM addD (callM fn_letters (consM (rdV 0) (M.ret []))) (rdV 3)) (kst (.int 1)))))))))
noncomputable def fn_word : Fn := bodyFn 4 b_word
noncomputable def b_base_right : SM := (seqM (asgM (tupT 2 (consTs (nmT 1) (consTs (nmT 2) nilTs))) (rdV 0))
  (seqM (iteM (tstM (opM eqD (rdV 1) (kst (.str ("N" : Str))))) (retM (chainM leD leD (kst (.int 0)) (rdV 2) (kst (.int 12)))) nxM)
  (retM (andVM (opM eqD (rdV 1) (kst (.str ("M" : Str)))) (chainM leD leD (kst (.int 1)) (rdV 2) (kst (.int 24)))))))
noncomputable def fn_base_right : Fn := bodyFn 3 b_base_right
noncomputable def b_is_kind : SM := (seqM (iteM (orM (truM (allM false (itM (rdV 1)) [] (twoI ltE (nmE 0) (ctE (.int 1))))) (tstM (opM neD (unM sumAD (rdV 1)) (rdV 0)))) (retM (kst (.bool false))) nxM)
  (retM (allM true (rngM (rg1M (opM subD (unM lenD (rdV 1)) (kst (.int 1))))) [1] (twoI geE (ixE (nmE 1) (nmE 0)) (ixE (nmE 1) (twoI addE (nmE 0) (ctE (.int 1))))))))
noncomputable def fn_is_kind : Fn := bodyFn 4 b_is_kind
noncomputable def b_check_datum : SM := (seqM (asgM (tupT 4 (consTs (nmT 1) (consTs (nmT 2) (consTs (nmT 3) (consTs (nmT 4) nilTs))))) (rdV 0))
  (seqM (exprXM (callM fn_require (consM (callM fn_base_right (consM (rdV 1) (M.ret []))) (consM (kst (.str ("base" : Str))) (consM (kst (.int 0)) (M.ret []))))))
  (seqM (exprXM (callM fn_require (consM (chainM leD leD (kst (.int 1)) (rdV 2) (kst (.int 60))) (consM (kst (.str ("sheets" : Str))) (consM (rdV 2) (M.ret []))))))
  (seqM (exprXM (callM fn_require (consM (opM leD (unM lenD (rdV 3)) (kst (.int 8))) (consM (kst (.str ("kinds" : Str))) (consM (unM lenD (rdV 3)) (M.ret []))))))
  (seqM (forSM (enIt (rdV 3)) (tupT 2 (consTs (nmT 5) (consTs (nmT 6) nilTs))) (exprXM (callM fn_require (consM (callM fn_is_kind (consM (rdV 2) (consM (rdV 6) (M.ret [])))) (consM (kst (.str ("kind" : Str))) (consM (rdV 5) (M.ret [])))))))
  (exprXM (callM fn_require (consM (orVM (opM eqD (rdV 4) (kst (.str ("two" : Str)))) (andVM (opM eqD (rdV 4) (kst (.str ("one" : Str)))) (opM eqD (opM ixD (rdV 1) (kst (.int 0))) (kst (.str ("M" : Str)))))) (consM (kst (.str ("sides" : Str))) (consM (kst (.int 0)) (M.ret [])))))))))))
noncomputable def fn_check_datum : Fn := bodyFn 7 b_check_datum
noncomputable def b_law_told : SM := (seqM (tryM 2 (setXM 1 (callM fn_check_datum (consM (rdV 0) (M.ret [])))) hB)
  (retM (ifM (tstM (opM isND (rdV 1) (kst .none))) (tupM (M.ret [])) (tupM (consM (kst (.str ("wrong" : Str))) (consM (kst (.int 0)) (M.ret [])))))))
noncomputable def fn_law_told : Fn := bodyFn 3 b_law_told
noncomputable def b_law_bad : SM := (seqM (asgM (tupT 4 (consTs (nmT 3) (consTs (nmT 4) (consTs (nmT 5) (consTs (nmT 6) nilTs))))) (rdV 1))
  (seqM (iteM (tstM (opM eqD (rdV 2) (kst (.int 0)))) (seqM (setM 7 (lstM (consM (tupM (consM (kst (.str ("N" : Str))) (consM (unM negD (kst (.int 1))) (M.ret [])))) (consM (tupM (consM (kst (.str ("N" : Str))) (consM (kst (.int 13)) (M.ret [])))) (consM (tupM (consM (kst (.str ("M" : Str))) (consM (kst (.int 0)) (M.ret [])))) (consM (tupM (consM (kst (.str ("M" : Str))) (consM (kst (.int 25)) (M.ret [])))) (consM (tupM (consM (kst (.str ("K" : Str))) (consM (kst (.int 3)) (M.ret [])))) (consM (tupM (consM (kst (.str ("n" : Str))) (consM (kst (.int 2)) (M.ret [])))) (M.ret [])))))))))
  (retM (lstM (consM (tupM (consM (opM ixD (rdV 7) (callM fn_law_draw (consM (rdV 0) (consM (kst (.int 6)) (M.ret []))))) (consM (rdV 4) (consM (rdV 5) (consM (rdV 6) (M.ret [])))))) (consM (tupM (consM (kst (.str ("base" : Str))) (consM (kst (.int 0)) (M.ret [])))) (M.ret [])))))) nxM)
  (seqM (iteM (tstM (opM eqD (rdV 2) (kst (.int 1)))) (seqM (setM 8 (opM ixD (lstM (consM (kst (.int 0)) (consM (kst (.int 61)) (consM (unM negD (kst (.int 1))) (M.ret []))))) (callM fn_law_draw (consM (rdV 0) (consM (kst (.int 3)) (M.ret []))))))
  (retM (lstM (consM (tupM (consM (rdV 3) (consM (rdV 8) (consM (rdV 5) (consM (rdV 6) (M.ret [])))))) (consM (tupM (consM (kst (.str ("sheets" : Str))) (consM (rdV 8) (M.ret [])))) (M.ret [])))))) nxM)
  (seqM (iteM (tstM (opM eqD (rdV 2) (kst (.int 2)))) (retM (lstM (consM (tupM (consM (rdV 3) (consM (rdV 4) (consM (opM mulTD (tupM (consM (tupM (consM (rdV 4) (M.ret []))) (M.ret []))) (kst (.int 9))) (consM (rdV 6) (M.ret [])))))) (consM (tupM (consM (kst (.str ("kinds" : Str))) (consM (kst (.int 9)) (M.ret [])))) (M.ret []))))) nxM)
  (seqM (iteM (andM (tstM (opM eqD (rdV 2) (kst (.int 3)))) (tstM (opM gtD (unM lenD (rdV 5)) (kst (.int 0))))) (seqM (setM 9 (callM fn_law_draw (consM (rdV 0) (consM (unM lenD (rdV 5)) (M.ret [])))))
  (seqM (setM 7 (lstM (consM (slM (opM ixD (rdV 5) (rdV 9)) (partM (kst (.int 1))) (M.ret none)) (consM (opM addD (opM ixD (rdV 5) (rdV 9)) (tupM (consM (kst (.int 1)) (M.ret [])))) (consM (opM addD (opM ixD (rdV 5) (rdV 9)) (tupM (consM (kst (.int 0)) (M.ret [])))) (consM (tupM (consM (opM addD (rdV 4) (kst (.int 1))) (consM (unM negD (kst (.int 1))) (M.ret [])))) (consM (tupM (consM (opM subD (rdV 4) (kst (.int 1))) (consM (kst (.int 2)) (consM (unM negD (kst (.int 1))) (M.ret []))))) (M.ret []))))))))
  (seqM (iteM (tstM (opM gtD (unM lenSetA (opM ixD (rdV 5) (rdV 9))) (kst (.int 1)))) (appM 7 (unM revAD (opM ixD (rdV 5) (rdV 9)))) nxM)
  (retM (lstM (consM (tupM (consM (rdV 3) (consM (rdV 4) (consM (opM addD (opM addD (slM (rdV 5) (M.ret none) (partM (rdV 9))) (tupM (consM (opM ixD (rdV 7) (callM fn_law_draw (consM (rdV 0) (consM (unM lenD (rdV 7)) (M.ret []))))) (M.ret [])))) (slM (rdV 5) (partM (opM addD (rdV 9) (kst (.int 1)))) (M.ret none))) (consM (rdV 6) (M.ret [])))))) (consM (tupM (consM (kst (.str ("kind" : Str))) (consM (rdV 9) (M.ret [])))) (M.ret [])))))))) nxM)
  (seqM (setM 10 (ifM (tstM (opM eqD (opM ixD (rdV 3) (kst (.int 0))) (kst (.str ("N" : Str))))) (opM ixD (lstM (consM (kst (.str ("one" : Str))) (consM (kst (.str ("three" : Str))) (consM (kst (.str ("" : Str))) (M.ret []))))) (callM fn_law_draw (consM (rdV 0) (consM (kst (.int 3)) (M.ret []))))) (opM ixD (lstM (consM (kst (.str ("three" : Str))) (consM (kst (.str ("" : Str))) (consM (kst (.str ("Two" : Str))) (M.ret []))))) (callM fn_law_draw (consM (rdV 0) (consM (kst (.int 3)) (M.ret [])))))))
  (retM (lstM (consM (tupM (consM (rdV 3) (consM (rdV 4) (consM (rdV 5) (consM (rdV 10) (M.ret [])))))) (consM (tupM (consM (kst (.str ("sides" : Str))) (consM (kst (.int 0)) (M.ret [])))) (M.ret [])))))))))))
noncomputable def fn_law_bad : Fn := bodyFn 11 b_law_bad
noncomputable def b_euler : SM := (retM (ifM (tstM (opM eqD (opM ixD (rdV 0) (kst (.int 0))) (kst (.str ("N" : Str))))) (opM subD (kst (.int 2)) (opM mulD (kst (.int 2)) (opM ixD (rdV 0) (kst (.int 1))))) (opM subD (kst (.int 2)) (opM ixD (rdV 0) (kst (.int 1))))))
noncomputable def fn_euler : Fn := bodyFn 1 b_euler
noncomputable def b_law_euler : SM := (retM (ifM (tstM (opM eqD (opM ixD (rdV 0) (kst (.int 0))) (kst (.str ("N" : Str))))) (opM subD (kst (.int 2)) (opM mulD (kst (.int 2)) (opM ixD (rdV 0) (kst (.int 1))))) (opM subD (kst (.int 2)) (opM ixD (rdV 0) (kst (.int 1))))))
noncomputable def fn_law_euler : Fn := bodyFn 1 b_law_euler
noncomputable def b_law_letters : SM := (retM (ifM (tstM (opM eqD (opM ixD (rdV 0) (kst (.int 0))) (kst (.str ("N" : Str))))) (opM mulD (kst (.int 2)) (opM ixD (rdV 0) (kst (.int 1)))) (opM ixD (rdV 0) (kst (.int 1)))))
noncomputable def fn_law_letters : Fn := bodyFn 1 b_law_letters
noncomputable def b_law_word : SM := (seqM (setM 2 (lstM (M.ret [])))
  (seqM (forSM (rng1 (consM (opM ixD (rdV 0) (kst (.int 1))) (M.ret []))) (nmT 3) (iteM (tstM (opM eqD (opM ixD (rdV 0) (kst (.int 0))) (kst (.str ("N" : Str))))) (setM 2 (opM addD (rdV 2) (lstM (consM (opM addD (opM mulD (kst (.int 2)) (rdV 3)) (kst (.int 1))) (consM (opM addD (opM mulD (kst (.int 2)) (rdV 3)) (kst (.int 2))) (consM (unM negD (opM addD (opM mulD (kst (.int 2)) (rdV 3)) (kst (.int 1)))) (consM (unM negD (opM addD (opM mulD (kst (.int 2)) (rdV 3)) (kst (.int 2)))) (M.ret [])))))))) (setM 2 (opM addD (rdV 2) (lstM (consM (opM addD (rdV 3) (kst (.int 1))) (consM (opM addD (rdV 3) (kst (.int 1))) (M.ret []))))))))
  (retM (opM addD (rdV 2) (lcM [3] (rng1 (consM (rdV 1) (M.ret []))) (nmT 3) (M.ret true) (opM addD (opM addD (callM fn_law_letters (consM (rdV 0) (M.ret []))) (rdV 3)) (kst (.int 1))))))))
noncomputable def fn_law_word : Fn := bodyFn 4 b_law_word
noncomputable def b_kind_defect : SM := (retM (opM subD (unM sumAD (rdV 0)) (unM lenD (rdV 0))))
noncomputable def fn_kind_defect : Fn := bodyFn 1 b_kind_defect
noncomputable def b_euler_above : SM := (seqM (asgM (tupT 4 (consTs (nmT 1) (consTs (nmT 2) (consTs (nmT 3) (consTs (nmT 4) nilTs))))) (rdV 0))
  (retM (opM subD (opM mulD (rdV 2) (callM fn_euler (consM (rdV 1) (M.ret [])))) (unM sumAD (lcM [5] (seqIt (rdV 3)) (nmT 5) (M.ret true) (callM fn_kind_defect (consM (rdV 5) (M.ret []))))))))
noncomputable def fn_euler_above : Fn := bodyFn 6 b_euler_above
noncomputable def b_law : SM := (seqM (setM 2 (ifM (tstM (opM eqD (callM fn_law_draw (consM (rdV 1) (consM (kst (.int 2)) (M.ret [])))) (kst (.int 0)))) (tupM (consM (kst (.str ("N" : Str))) (consM (callM fn_law_draw (consM (rdV 1) (consM (kst (.int 13)) (M.ret [])))) (M.ret [])))) (tupM (consM (kst (.str ("M" : Str))) (consM (opM addD (kst (.int 1)) (callM fn_law_draw (consM (rdV 1) (consM (kst (.int 24)) (M.ret []))))) (M.ret []))))))
  (seqM (setM 3 (opM addD (kst (.int 1)) (callM fn_law_draw (consM (rdV 1) (consM (opM ixD (lstM (consM (kst (.int 6)) (consM (kst (.int 60)) (M.ret [])))) (callM fn_law_draw (consM (rdV 1) (consM (kst (.int 2)) (M.ret []))))) (M.ret []))))))
  (seqM (setM 4 (unM tupleD (lcM [11] (rng1 (consM (callM fn_law_draw (consM (rdV 1) (consM (kst (.int 9)) (M.ret [])))) (M.ret []))) (nmT 11) (M.ret true) (callM fn_law_draw_kind (consM (rdV 1) (consM (rdV 3) (M.ret [])))))))
  (seqM (setM 5 (ifM (tstM (opM eqD (opM ixD (rdV 2) (kst (.int 0))) (kst (.str ("N" : Str))))) (kst (.str ("two" : Str))) (opM ixD (lstM (consM (kst (.str ("one" : Str))) (consM (kst (.str ("two" : Str))) (M.ret [])))) (callM fn_law_draw (consM (rdV 1) (consM (kst (.int 2)) (M.ret [])))))))
  (seqM (setM 6 (tupM (consM (rdV 2) (consM (rdV 3) (consM (rdV 4) (consM (rdV 5) (M.ret [])))))))
  (seqM (iteM (tstM (opM neD (callM fn_law_told (consM (rdV 6) (M.ret []))) (tupM (M.ret [])))) (retM (kst (.bool false))) nxM)
  (seqM (forSM (rng1 (consM (kst (.int 5)) (M.ret []))) (nmT 7) (seqM (asgM (tupT 2 (consTs (nmT 8) (consTs (nmT 9) nilTs))) (callM fn_law_bad (consM (rdV 1) (consM (rdV 6) (consM (rdV 7) (M.ret []))))))
  (seqM (iteM (tstM (opM neD (callM fn_law_told (consM (rdV 8) (M.ret []))) (rdV 9))) (retM (kst (.bool false))) nxM)
  (iteM (andM (tstM (opM neD (opM ixD (rdV 9) (kst (.int 0))) (kst (.str ("sides" : Str))))) (tstM (opM neD (callM fn_law_told (consM (opM addD (slM (rdV 8) (M.ret none) (partM (kst (.int 3)))) (tupM (consM (kst (.str ("none" : Str))) (M.ret [])))) (M.ret []))) (rdV 9)))) (retM (kst (.bool false))) nxM))))
  (seqM (iteM (orM (tstM (opM neD (callM fn_euler (consM (rdV 2) (M.ret []))) (callM fn_law_euler (consM (rdV 2) (M.ret []))))) (tstM (opM neD (callM fn_letters (consM (rdV 2) (M.ret []))) (callM fn_law_letters (consM (rdV 2) (M.ret [])))))) (retM (kst (.bool false))) nxM)
  (seqM (setM 10 (callM fn_word (consM (rdV 2) (consM (unM lenD (rdV 4)) (M.ret [])))))
  (seqM (iteM (orM (notM (truM (unM (isiD .tuple) (rdV 10)))) (tstM (opM neD (rdV 10) (unM tupleD (callM fn_law_word (consM (rdV 2) (consM (unM lenD (rdV 4)) (M.ret [])))))))) (retM (kst (.bool false))) nxM)
  (retM (opM eqD (callM fn_euler_above (consM (rdV 6) (M.ret []))) (opM subD (opM mulD (rdV 3) (callM fn_law_euler (consM (rdV 2) (M.ret [])))) (unM sumAD (lcM [12] (seqIt (rdV 4)) (nmT 12) (M.ret true) (opM subD (rdV 3) (unM lenD (rdV 12))))))))))))))))))
end LK
/-! permutations as rows: plain facts -/
namespace LK
open PySem PySem.Spec PyProof.Rows L2 MP
/-! ### rows of sheets -/
def at' (p : List Nat) (a : Nat) : Nat := p.getD a 0
def OkP (n : Nat) (p : List Nat) : Prop := p.Perm (List.range n)
theorem OkP.len {n : Nat} {p : List Nat} (h : OkP n p) : p.length = n := by simpa using h.length_eq
theorem OkP.get {n a : Nat} {p : List Nat} (h : OkP n p) (ha : a < n) : p[a]? = some (at' p a) := by
  unfold at'
  have : a < p.length := by rw [h.len]; exact ha
  rw [List.getD_eq_getElem?_getD, List.getElem?_eq_getElem this]
  rfl
theorem OkP.lt {n a : Nat} {p : List Nat} (h : OkP n p) (ha : a < n) : at' p a < n :=
  List.mem_range.mp ((List.Perm.mem_iff h).mp (List.mem_of_getElem? (h.get ha)))
theorem OkP.nodup {n : Nat} {p : List Nat} (h : OkP n p) : p.Nodup := (List.Perm.nodup_iff h).mpr List.nodup_range
theorem OkP.inj {n a b : Nat} {p : List Nat} (h : OkP n p) (ha : a < n) (hb : b < n) (e : at' p a = at' p b) : a = b := by
  have h1 := h.get ha
  have h2 := h.get hb
  rw [← e] at h2
  have hn := h.nodup
  have ha' : a < p.length := by rw [h.len]; exact ha
  have hb' : b < p.length := by rw [h.len]; exact hb
  rw [List.getElem?_eq_getElem ha'] at h1
  rw [List.getElem?_eq_getElem hb'] at h2
  have h3 : p[a] = p[b] := by rw [Option.some.inj h1, Option.some.inj h2]
  rcases Nat.lt_trichotomy a b with z | z | z
  · exact absurd h3 (List.pairwise_iff_getElem.mp hn a b ha' hb' z)
  · exact z
  · exact absurd h3.symm (List.pairwise_iff_getElem.mp hn b a hb' ha' z)
theorem pig {l m : List Nat} (hl : l.Nodup) (hs : ∀ x ∈ l, x ∈ m) (hlen : m.length ≤ l.length) {x : Nat} (hx : x ∈ m) : x ∈ l := by
  refine Classical.byContradiction fun hn => ?_
  have := List.Nodup.length_le_of_subset (l₁ := x :: l) (l₂ := m) (List.nodup_cons.mpr ⟨hn, hl⟩) (fun y hy => by
    rcases List.mem_cons.mp hy with rfl | hy
    · exact hx
    · exact hs y hy)
  simp at this
  omega

theorem at_set {l : List Nat} {i v a : Nat} (hi : i < l.length) : at' (l.set i v) a = if a = i then v else at' l a := by
  unfold at'
  rw [List.getD_eq_getElem?_getD, List.getD_eq_getElem?_getD, List.getElem?_set]
  by_cases h : i = a
  · subst h
    simp [hi]
  · have : ¬ a = i := fun z => h z.symm
    simp [h, this]
theorem at_get {l : List Nat} {a : Nat} (h : a < l.length) : l[a]? = some (at' l a) := by
  unfold at'
  rw [List.getD_eq_getElem?_getD, List.getElem?_eq_getElem h]
  rfl
theorem perm_map_at {p q : List Nat} (h : q.Perm (List.range p.length)) : (q.map (at' p)).Perm p := by
  have h1 := h.map (at' p)
  have h2 : (List.range p.length).map (at' p) = p := by
    refine List.ext_getElem (by simp) fun i h3 h4 => ?_
    rw [List.getElem_map, List.getElem_range]
    unfold at'
    rw [List.getD_eq_getElem?_getD, List.getElem?_eq_getElem h4]
    rfl
  rw [h2] at h1
  exact h1
theorem eq_of_lt {l m : List Nat} (hl : l.Pairwise (· < ·)) (hm : m.Pairwise (· < ·)) (h : ∀ x, x ∈ l ↔ x ∈ m) : l = m :=
  List.Perm.eq_of_pairwise (le := (· < ·)) (fun a b _ _ h1 h2 => by omega) hl hm ((List.perm_ext_iff_of_nodup (hl.imp fun h => Nat.ne_of_lt h) (hm.imp fun h => Nat.ne_of_lt h)).mpr h)
theorem ok_of_nodup {n : Nat} {l : List Nat} (h1 : l.Nodup) (h2 : ∀ x ∈ l, x < n) (h3 : l.length = n) : OkP n l := by
  refine (List.perm_ext_iff_of_nodup h1 List.nodup_range).mpr fun x => ⟨fun h => List.mem_range.mpr (h2 x h), fun h => ?_⟩
  exact pig h1 (fun y hy => List.mem_range.mpr (h2 y hy)) (by rw [List.length_range, h3]; exact Nat.le_refl _) h
theorem range_split {n x : Nat} {pre post : List Nat} (h : List.range n = pre ++ x :: post) : pre = List.range x ∧ x < n ∧ pre.length = x := by
  have hl : n = pre.length + (post.length + 1) := by simpa using congrArg List.length h
  have h1 : (List.range n)[pre.length]? = some x := by rw [h]; simp
  rw [List.getElem?_range (by omega)] at h1
  have hx : pre.length = x := Option.some.inj h1
  have h2 : (List.range n).take pre.length = pre := by rw [h]; simp
  rw [List.take_range, Nat.min_eq_left (by omega), hx] at h2
  exact ⟨h2.symm, by omega, hx⟩
/-- rows as data -/
def rL (rows : List (List Nat)) : List Dat := rows.map fun p => .tuple (nL p)
theorem sIx_nat' {n d k : Nat} (h : k ≤ n) : HT.sIx n d (some (k : Int)) = k := by
  rw [HT.sIx_nat]
  exact Nat.min_eq_left h
theorem cut_nat {xs : List Nat} {a b : Nat} (h1 : a ≤ xs.length) (h2 : b ≤ xs.length) : MP.cutD (nL xs) (some (a : Int)) (some (b : Int)) = nL ((xs.drop a).take (b - a)) := by
  unfold MP.cutD
  rw [nL_len, sIx_nat' h1, sIx_nat' h2]
  unfold nL
  rw [← List.map_drop, ← List.map_take]
theorem mod_nat {a b : Nat} (h : 0 < b) : modD (.int (a : Int)) (.int (b : Int)) = some (.im (.int ((a % b : Nat) : Int))) := by
  show (if decide ((b : Int) ≠ 0) then _ else _) = _
  rw [if_pos (decide_eq_true (by omega))]
  show some (RV.im (.int ((a : Int).fmod (b : Int)))) = _
  rw [Int.fmod_eq_emod_of_nonneg _ (by omega)]
  rfl
theorem rL_len {rows : List (List Nat)} : (rL rows).length = rows.length := List.length_map _
theorem rL_app {rows : List (List Nat)} {p : List Nat} : rL rows ++ [.tuple (nL p)] = rL (rows ++ [p]) := by
  unfold rL
  rw [List.map_append]
  rfl
section
variable {rows : List (List Nat)} {d : Dat}
/-- rows as they are walked -/
def Rws (d : Dat) (rows : List (List Nat)) : Prop := d = .list (rL rows) ∨ d = .tuple (rL rows)
theorem Rws.items (h : Rws d rows) : MP.items? d = some (rL rows) := by
  rcases h with rfl | rfl <;> rfl
end
end LK

namespace LK
open PySem PySem.Spec PyProof.Rows L2 MP
/-! ### kinds -/
def nsort (xs : List Nat) : List Nat := xs.mergeSort (fun a b => decide (a ≤ b))
theorem nsort_perm (xs : List Nat) : (nsort xs).Perm xs := List.mergeSort_perm xs _
theorem nsort_sorted (xs : List Nat) : (nsort xs).Pairwise (· ≤ ·) := by
  have h := List.pairwise_mergeSort (le := fun a b : Nat => decide (a ≤ b)) (fun a b c h1 h2 => by simp only [decide_eq_true_eq] at *; omega) (fun a b => by simp only [Bool.or_eq_true, decide_eq_true_eq]; omega) xs
  exact h.imp fun {a b} h => of_decide_eq_true h
theorem isort_nat {xs : List Nat} : isort (xs.map fun (k : Nat) => (k : Int)) = (nsort xs).map fun (k : Nat) => (k : Int) :=
  (isort_uniq ((nsort_perm xs).map _) (List.pairwise_map.mpr ((nsort_sorted xs).imp fun {a b} h => by omega))).symm
theorem sort_nL {xs : List Nat} : sortAD (.list (nL xs)) = some (.nw (nL (nsort xs))) := by
  show (ints? (nL xs)).bind _ = _
  rw [ints_nL]
  show some (RV.nw ((isort (xs.map fun (k : Nat) => (k : Int))).map PyData.int)) = _
  rw [isort_nat, List.map_map]
  rfl
theorem nL_rev {xs : List Nat} : (nL xs).reverse = nL xs.reverse := by
  unfold nL
  rw [List.map_reverse]
theorem rev_nL {xs : List Nat} : revAD (.list (nL xs)) = some (.nw (nL xs.reverse)) := by
  show some (RV.nw (nL xs).reverse) = _
  rw [nL_rev]
theorem nsort_uniq {xs ys : List Nat} (h : xs.Perm ys) : nsort xs = nsort ys :=
  List.Perm.eq_of_pairwise (le := (· ≤ ·)) (fun a b _ _ h1 h2 => Nat.le_antisymm h1 h2) (nsort_sorted xs) (nsort_sorted ys) (((nsort_perm xs).trans h).trans (nsort_perm ys).symm)
def Kind (n : Nat) (xs : List Nat) : Prop := (∀ x ∈ xs, 0 < x) ∧ xs.sum = n
theorem sum_perm {xs ys : List Nat} (h : xs.Perm ys) : xs.sum = ys.sum := List.Perm.sum_nat h
theorem kind_len {n : Nat} {xs : List Nat} (h : Kind n xs) : xs.length ≤ n := by
  obtain ⟨h1, h2⟩ := h
  subst h2
  induction xs with
  | nil => exact Nat.le_refl _
  | cons x xs ih =>
    have := ih fun y hy => h1 y (List.mem_cons_of_mem _ hy)
    have := h1 x (List.mem_cons_self ..)
    rw [List.length_cons, List.sum_cons]
    omega
section
variable {n : Nat} {dr : Dr}
theorem draw_kind_ok (hn : n ≤ 60) (h : isA dr) : CV fn_law_draw_kind [.dict [], .int (n : Int)] dr fun r dr' => isA dr' ∧ ∃ parts, r = .im (.tuple (nL parts)) ∧ Kind n parts ∧ parts.Pairwise (· ≥ ·) := by
  refine c_body (w_nx (ps1 := ⟨[.fr (.dict []), .fr (.int (n : Int)), .fr (.int (n : Int)), .un, .un], dr⟩) (by simp) (w_nx (ps1 := ⟨[.fr (.dict []), .fr (.int (n : Int)), .fr (.int (n : Int)), .ow [], .un], dr⟩) (by simp [line_of]) ?_))
  refine w_seq (w_while n (fun m q => ∃ (left : Nat) (parts : List Nat) (z : Sl) (dr : Dr), q = ⟨[.fr (.dict []), .fr (.int (n : Int)), .fr (.int (left : Int)), .ow (nL parts), z], dr⟩ ∧ isA dr ∧ m = left ∧ left ≤ n ∧ (∀ x ∈ parts, 0 < x) ∧ parts.sum + left = n ∧ parts.length ≤ n - left) ⟨n, [], .un, dr, rfl, h, rfl, Nat.le_refl _, (fun x hx => by cases hx), by simp, by simp⟩ ?_)
  rintro m q ⟨left, parts, z, dr, rfl, hA, rfl, hl, hp, hs, hlen⟩
  refine t_det (k := decide ((0 : Int) < (m : Int))) (ps1 := ⟨[.fr (.dict []), .fr (.int (n : Int)), .fr (.int (m : Int)), .ow (nL parts), z], dr⟩) (by simp) ⟨fun hkf => ?_, fun hkt => ?_⟩
  · have hm : m = 0 := by
      have := of_decide_eq_false hkf
      omega
    subst hm
    refine w_det (o := .rt (.im (.tuple (nL (nsort parts).reverse))) ⟨[.fr (.dict []), .fr (.int (n : Int)), .fr (.int ((0 : Nat) : Int)), .ow (nL parts), z], dr⟩) (by simp [sort_nL, nL_rev]) ⟨hA, _, rfl, ?_⟩
    have hperm : (nsort parts).reverse.Perm parts := (List.reverse_perm _).trans (nsort_perm _)
    refine ⟨⟨fun x hx => hp x ((List.Perm.mem_iff hperm).mp hx), ?_⟩, List.pairwise_reverse.mpr (nsort_sorted parts)⟩
    rw [sum_perm hperm]
    omega
  · have hm : 0 < m := by
      have := of_decide_eq_true hkt
      omega
    obtain ⟨r1, d1, e1, h1, hA1⟩ := draw_ok (m := 4) hA (by decide) (by decide)
    have e1' : drawA [.dict [], .int 4] dr = some (.im (.int (r1 : Int)), d1) := e1
    have : ∃ v : Nat, 0 < v ∧ v ≤ 60 ∧ atI [PyData.int 1, PyData.int 2, PyData.int 3, PyData.int 60] (r1 : Int) = some (.int (v : Int)) := by
      rcases r1 with _ | _ | _ | _ | r1
      · exact ⟨1, by decide, by decide, rfl⟩
      · exact ⟨2, by decide, by decide, rfl⟩
      · exact ⟨3, by decide, by decide, rfl⟩
      · exact ⟨60, by decide, by decide, rfl⟩
      · omega
    obtain ⟨v, hv0, hv, ev⟩ := this
    obtain ⟨w, hw⟩ : ∃ w : Nat, w = min m v := ⟨_, rfl⟩
    have ew : (if (v : Int) < (m : Int) then (v : Int) else (m : Int)) = (w : Int) := by split <;> omega
    have ew' : (if v < m then (v : Int) else (m : Int)) = (w : Int) := by split <;> omega
    obtain ⟨r2, d2, e2, h2, hA2⟩ := draw_ok (m := w) hA1 (by omega) (by omega)
    obtain ⟨part, hpart⟩ : ∃ part : Nat, part = r2 + 1 := ⟨_, rfl⟩
    obtain ⟨left', hleft⟩ : ∃ left' : Nat, left' = m - part := ⟨_, rfl⟩
    have ep : (1 : Int) + (r2 : Int) = (part : Int) := by omega
    have el : (m : Int) - (part : Int) = (left' : Int) := by omega
    refine w_nx (ps1 := ⟨[.fr (.dict []), .fr (.int (n : Int)), .fr (.int (m : Int)), .ow (nL parts), .fr (.int (part : Int))], d2⟩) (by simp [fn_law_draw, e1', line_of, ev, ew', e2, ep]) ?_
    refine w_nx (ps1 := ⟨[.fr (.dict []), .fr (.int (n : Int)), .fr (.int (m : Int)), .ow (nL (parts ++ [part])), .fr (.int (part : Int))], d2⟩) (by simp [nL_snoc, sz_of (n := parts.length) (by omega)]) ?_
    refine w_det (o := .nx ⟨[.fr (.dict []), .fr (.int (n : Int)), .fr (.int (left' : Int)), .ow (nL (parts ++ [part])), .fr (.int (part : Int))], d2⟩) (by simp [el]) ?_
    refine ⟨left', by omega, left', _, _, _, rfl, hA2, rfl, by omega, fun x hx => ?_, by simp; omega, by simp; omega⟩
    rcases List.mem_append.mp hx with hx | hx
    · exact hp x hx
    · rw [List.mem_singleton.mp hx]
      omega
end
end LK

/-! all and any of a generator, as equations -/
namespace LK
open PySem PySem.Spec PyProof.Rows L2 MP
theorem all_map_c {α β : Type} {k : α → β} {p : β → Bool} {q : α → Bool} : ∀ {xs : List α}, (∀ x ∈ xs, p (k x) = q x) → (xs.map k).all p = xs.all q
  | [], _ => rfl
  | x :: xs, h => by
    rw [List.map_cons, List.all_cons, List.all_cons, h x (by simp), all_map_c fun y hy => h y (List.mem_cons_of_mem _ hy)]
theorem any_map_c {α β : Type} {k : α → β} {p : β → Bool} {q : α → Bool} : ∀ {xs : List α}, (∀ x ∈ xs, p (k x) = q x) → (xs.map k).any p = xs.any q
  | [], _ => rfl
  | x :: xs, h => by
    rw [List.map_cons, List.any_cons, List.any_cons, h x (by simp), any_map_c fun y hy => h y (List.mem_cons_of_mem _ hy)]
theorem allM_eq {α : Type} {b : Bool} {f : M (List Dat)} {ci : List Nat} {m : EM} {ps ps1 : PS} {cd : List Dat} (k : α → Dat) (xs : List α) (p : α → Bool) (e1 : f ps = some (xs.map k, ps1)) (e2 : capD ps1 ci = some cd)
    (h : ∀ x ∈ xs, m (k x :: cd) = some (.bool (p x))) : allM b f ci m ps = some (.im (.bool (cond b (xs.all p) (xs.any p))), ps1) := by
  unfold allM
  rw [e1, Option.bind_some]
  show (capD ps1 ci).bind _ = _
  rw [e2, Option.bind_some]
  have e3 : (xs.map k).all (fun d => match m (d :: cd) with | some (.bool _) => true | _ => false) = true := by
    rw [all_map_c (q := fun _ => true) fun x hx => by rw [h x hx]]
    simp
  show (if (xs.map k).all (fun d => match m (d :: cd) with | some (.bool _) => true | _ => false) = true then some (RV.im (PyData.bool (fld b m cd (xs.map k))), ps1) else none) = _
  rw [if_pos e3]
  have e4 : fld b m cd (xs.map k) = cond b (xs.all p) (xs.any p) := by
    unfold fld
    rw [all_map_c (q := p) fun x hx => by rw [h x hx], any_map_c (q := p) fun x hx => by rw [h x hx]]
  rw [e4]
end LK

namespace LK
open PySem PySem.Spec PyProof.Rows L2 MP
theorem or_det {f g : M Bool} {ps ps1 : PS} {a c : Bool} (h1 : f ps = some (a, ps1)) (h2 : g ps1 = some (c, ps1)) : orM f g ps = some (a || c, ps1) := by
  rw [e_or, h1]
  cases a with
  | true => rfl
  | false => exact h2
theorem and_det {f g : M Bool} {ps ps1 : PS} {a c : Bool} (h1 : f ps = some (a, ps1)) (h2 : g ps1 = some (c, ps1)) : andM f g ps = some (a && c, ps1) := by
  rw [e_and, h1]
  cases a with
  | true => exact h2
  | false => rfl
theorem not_det {f : M Bool} {ps ps1 : PS} {a : Bool} (h1 : f ps = some (a, ps1)) : notM f ps = some (!a, ps1) := by
  rw [e_not, h1]
  rfl
/-- a test, then the way out -/
theorem w_out {c : M Bool} {f g : SM} {ps ps1 : PS} {k : Bool} {Q : SOut → Prop} (e : c ps = some (k, ps1)) (ht : k = true → W f ps1 (fun o => match o with | .nx _ => False | o => Q o)) (hf : k = false → W g ps1 Q) : W (seqM (iteM c f nxM) g) ps Q := by
  cases k with
  | true =>
    obtain ⟨o, e1, h⟩ := ht rfl
    refine w_seq ⟨o, by rw [e_ite, e]; exact e1, ?_⟩
    cases o with
    | nx _ => exact h.elim
    | rt r q => exact h
    | bk q => exact h
    | ct q => exact h
  | false =>
    obtain ⟨o, e1, h⟩ := hf rfl
    exact w_seq ⟨.nx ps1, by rw [e_ite, e]; rfl, o, e1, h⟩
end LK

/-! rows of ints put together and cut -/
namespace LK
open PySem PySem.Spec PyProof.Rows L2 MP
def zg (xs : List Int) (a : Nat) : Int := xs.getD a 0
section
variable {xs ys : List Int} {a b : Nat}
theorem zaddT (h : xs.length + ys.length ≤ 1000000) : addD (.tuple (zL xs)) (.tuple (zL ys)) = some (.im (.tuple (zL (xs ++ ys)))) := by
  rw [e_addT, if_pos (line_of (by simpa using h)), zL_app]
theorem zaddL (h : xs.length + ys.length ≤ 1000000) : addD (.list (zL xs)) (.list (zL ys)) = some (.nw (zL (xs ++ ys))) := by
  rw [e_addL, if_pos (line_of (by simpa using h)), zL_app]
theorem zsT0 : slD (.tuple (zL xs)) none (some (a : Int)) = some (.im (.tuple (zL (xs.take a)))) := by rw [e_slT, cut0, zL_take]
theorem zsT1 : slD (.tuple (zL xs)) (some (a : Int)) none = some (.im (.tuple (zL (xs.drop a)))) := by rw [e_slT, cut1, zL_drop]
theorem zsT2 : slD (.tuple (zL xs)) (some (a : Int)) (some (b : Int)) = some (.im (.tuple (zL ((xs.drop a).take (b - a))))) := by rw [e_slT, cut2, zL_drop, zL_take]
theorem zsL0 : slD (.list (zL xs)) none (some (a : Int)) = some (.nw (zL (xs.take a))) := by rw [e_slL, cut0, zL_take]
theorem zsL1 : slD (.list (zL xs)) (some (a : Int)) none = some (.nw (zL (xs.drop a))) := by rw [e_slL, cut1, zL_drop]
theorem zsL2 : slD (.list (zL xs)) (some (a : Int)) (some (b : Int)) = some (.nw (zL ((xs.drop a).take (b - a)))) := by rw [e_slL, cut2, zL_drop, zL_take]
theorem zixT (h : a < xs.length) : ixD (.tuple (zL xs)) (.int (a : Int)) = some (.im (.int (zg xs a))) := by
  rw [e_ixT, zL_at (v := zg xs a) (by unfold zg; rw [List.getD_eq_getElem?_getD, List.getElem?_eq_getElem h]; rfl)]
  rfl
theorem zixL (h : a < xs.length) : ixD (.list (zL xs)) (.int (a : Int)) = some (.im (.int (zg xs a))) := by
  rw [e_ixL, zL_at (v := zg xs a) (by unfold zg; rw [List.getD_eq_getElem?_getD, List.getElem?_eq_getElem h]; rfl)]
  rfl
theorem zeqT : eqD (.tuple (zL xs)) (.tuple (zL ys)) = some (.im (.bool (decide (xs = ys)))) := by
  rw [eqD_sh (n := 1) (m := 1) (shd_tuple shd_zL) (shd_tuple shd_zL) (by decide) (by decide), eqv_zT]
theorem zneT : neD (.tuple (zL xs)) (.tuple (zL ys)) = some (.im (.bool (!decide (xs = ys)))) := by
  rw [neD_sh (n := 1) (m := 1) (shd_tuple shd_zL) (shd_tuple shd_zL) (by decide) (by decide), eqv_zT]
theorem zeqL : eqD (.list (zL xs)) (.list (zL ys)) = some (.im (.bool (decide (xs = ys)))) := by
  rw [eqD_sh (n := 1) (m := 1) (shd_list shd_zL) (shd_list shd_zL) (by decide) (by decide), eqv_zLs]
theorem zneL : neD (.list (zL xs)) (.list (zL ys)) = some (.im (.bool (!decide (xs = ys)))) := by
  rw [neD_sh (n := 1) (m := 1) (shd_list shd_zL) (shd_list shd_zL) (by decide) (by decide), eqv_zLs]
end
end LK

/-! data: what is read of them -/
namespace LK
open PySem PySem.Spec PyProof.Rows L2 MP
theorem qe_str {a b : Str} (ha : okS a) (hb : okS b) : eqD (.str a) (.str b) = some (.im (.bool (decide (a = b)))) := by
  rw [eqD_sh (n := 0) (m := 0) (shd_str ha) (shd_str hb) (by decide) (by decide), PyData.eqv]
  rfl
theorem qn_str {a b : Str} (ha : okS a) (hb : okS b) : neD (.str a) (.str b) = some (.im (.bool (!decide (a = b)))) := by
  rw [neD_sh (n := 0) (m := 0) (shd_str ha) (shd_str hb) (by decide) (by decide), PyData.eqv]
  rfl
def desB (row : List Int) : Bool := (List.range (row.length - 1)).all fun k => decide (zg row k ≥ zg row (k + 1))
def kB (n : Int) (row : List Int) : Bool := !(row.any (fun x => decide (x < 1)) || !decide (row.sum = n)) && desB row
def baseB (w : Str) (m : Int) : Bool := if w = ("N" : Str) then decide (0 ≤ m) && decide (m ≤ 12) else decide (w = ("M" : Str)) && (decide (1 ≤ m) && decide (m ≤ 24))
def sideB (w s : Str) : Bool := decide (s = ("two" : Str)) || (decide (s = ("one" : Str)) && decide (w = ("M" : Str)))
def rowsD (kinds : List (List Int)) : List Dat := kinds.map fun r => .tuple (zL r)
def dD (w : Str) (m n : Int) (kinds : List (List Int)) (s : Str) : Dat := .tuple [.tuple [.str w, .int m], .int n, .tuple (rowsD kinds), .str s]
def kAt (kinds : List (List Int)) (i : Nat) : List Int := kinds.getD i []
def vD (w : Str) (m n : Int) (kinds : List (List Int)) (s : Str) : Option (Str × Int) :=
  if baseB w m = false then some (("base" : Str), 0)
  else if ¬ (1 ≤ n ∧ n ≤ 60) then some (("sheets" : Str), n)
  else if 8 < kinds.length then some (("kinds" : Str), (kinds.length : Int))
  else match (List.range kinds.length).find? (fun i => !kB n (kAt kinds i)) with
    | some i => some (("kind" : Str), (i : Int))
    | none => if sideB w s = false then some (("sides" : Str), 0) else none
def tD : Option (Str × Int) → Dat
  | none => .tuple []
  | some (s, k) => .tuple [.str s, .int k]
def xD : Option (Str × Int) → Dat
  | none => .none
  | some (s, k) => excD (.str s) (.int k)
section
variable {dr : Dr} {w s : Str} {m n : Int} {kinds : List (List Int)} {row : List Int}
theorem zl_len {r : List Int} : lenD (.tuple (zL r)) = some (.im (.int (r.length : Int))) := by
  show some (RV.im (.int ((zL r).length : Int))) = _
  unfold zL
  rw [List.length_map]
theorem zsum {r : List Int} : sumAD (.tuple (zL r)) = some (.im (.int r.sum)) := by
  show (ints? (zL r)).bind _ = _
  rw [ints_zL]
  rfl
theorem is_kind_ok (hl : row.length ≤ 1000) : fn_is_kind [.int n, .tuple (zL row)] dr = some (.im (.bool (kB n row)), dr) := by
  have sm := zsum (r := row)
  have ln := zl_len (r := row)
  have ga : ∀ k : Nat, k < row.length → atI (zL row) (k : Int) = some (.int (zg row k)) := fun k hk => zL_at (by unfold zg; rw [List.getD_eq_getElem?_getD, List.getElem?_eq_getElem hk]; rfl)
  have a1 : allM false (itM (rdV 1)) [] (twoI ltE (nmE 0) (ctE (.int 1))) ⟨[.fr (.int n), .fr (.tuple (zL row)), .un, .un], dr⟩ = some (.im (.bool (row.any fun x => decide (x < 1))), ⟨[.fr (.int n), .fr (.tuple (zL row)), .un, .un], dr⟩) :=
    allM_eq (fun x : Int => .int x) row (fun x => decide (x < 1)) rfl rfl fun x _ => rfl
  have a2 : allM true (rngM (rg1M (opM subD (unM lenD (rdV 1)) (kst (.int 1))))) [1] (twoI geE (ixE (nmE 1) (nmE 0)) (ixE (nmE 1) (twoI addE (nmE 0) (ctE (.int 1))))) ⟨[.fr (.int n), .fr (.tuple (zL row)), .un, .un], dr⟩ = some (.im (.bool (desB row)), ⟨[.fr (.int n), .fr (.tuple (zL row)), .un, .un], dr⟩) := by
    obtain ⟨Z, hZ⟩ : ∃ Z, Z = zL row := ⟨_, rfl⟩
    rw [← hZ] at ln ga ⊢
    have hr : rgB (0, (row.length : Int) - 1) = true := by
      unfold rgB
      simp only [Bool.and_eq_true, decide_eq_true_eq]
      omega
    have rg : rgD 0 ((row.length : Int) - 1 - 0).toNat = (List.range (row.length - 1)).map fun k : Nat => PyData.int (k : Int) := by
      have : ((row.length : Int) - 1 - 0).toNat = row.length - 1 := by omega
      rw [this, rgD_nat]
      rfl
    refine allM_eq (fun k : Nat => .int (k : Int)) (List.range (row.length - 1)) (fun k => decide (zg row k ≥ zg row (k + 1))) (cd := [.tuple Z]) ?_ rfl fun k hk => ?_
    · have : (rg1M (opM subD (unM lenD (rdV 1)) (kst (.int 1)))) (⟨[.fr (.int n), .fr (.tuple Z), .un, .un], dr⟩ : PS) = some ((0, (row.length : Int) - 1), ⟨[.fr (.int n), .fr (.tuple Z), .un, .un], dr⟩) := by simp [-e_lenT, ln]
      unfold rngM
      rw [this, Option.bind_some]
      show (if rgB (0, (row.length : Int) - 1) = true then some (rgD 0 ((row.length : Int) - 1 - 0).toNat, _) else none) = _
      rw [if_pos hr, rg]
    · have hk := List.mem_range.mp hk
      have g1 := ga k (by omega)
      have g2 := ga (k + 1) (by omega)
      have c : ((k : Int) + 1) = ((k + 1 : Nat) : Int) := by omega
      have e1 : ixE (nmE 1) (nmE 0) [.int (k : Int), .tuple Z] = some (.int (zg row k)) := g1
      have e2 : ixE (nmE 1) (twoI addE (nmE 0) (ctE (.int 1))) [.int (k : Int), .tuple Z] = some (.int (zg row (k + 1))) := by
        show atI Z ((k : Int) + 1) = _
        rw [c]
        exact g2
      show (match ixE (nmE 1) (nmE 0) [.int (k : Int), .tuple Z], ixE (nmE 1) (twoI addE (nmE 0) (ctE (.int 1))) [.int (k : Int), .tuple Z] with | some (.int i), some (.int j) => geE i j | _, _ => none) = _
      rw [e1, e2]
      rfl
  obtain ⟨A1, hA1⟩ : ∃ b, b = row.any fun x => decide (x < 1) := ⟨_, rfl⟩
  obtain ⟨A2, hA2⟩ : ∃ b, b = desB row := ⟨_, rfl⟩
  have kb : kB n row = (!(A1 || !decide (row.sum = n)) && A2) := by rw [hA1, hA2]; rfl
  rw [← hA1] at a1
  rw [← hA2] at a2
  rw [kb]
  obtain ⟨S, hS⟩ : ∃ S, S = row.sum := ⟨_, rfl⟩
  rw [← hS] at sm ⊢
  obtain ⟨Z, hZ⟩ : ∃ Z, Z = zL row := ⟨_, rfl⟩
  rw [← hZ] at a1 a2 sm ⊢
  refine cv_det (c_body ?_)
  refine w_out (k := A1 || !decide (S = n)) (ps1 := ⟨[.fr (.int n), .fr (.tuple Z), .un, .un], dr⟩) (or_det (by simp [a1]) (by simp [sm, qn_int])) (fun h => ?_) (fun h => ?_)
  · rw [h]
    exact w_det (o := .rt (.im (.bool false)) ⟨[.fr (.int n), .fr (.tuple Z), .un, .un], dr⟩) rfl ⟨rfl, rfl⟩
  · rw [h]
    refine w_det (o := .rt (.im (.bool A2)) ⟨[.fr (.int n), .fr (.tuple Z), .un, .un], dr⟩) ?_ ⟨by simp, rfl⟩
    rw [e_ret]
    show (allM true _ _ _ ⟨[.fr (.int n), .fr (.tuple Z), .un, .un], dr⟩).bind _ = _
    rw [a2]
    rfl
theorem base_right_ok (hw : okS w) : fn_base_right [.tuple [.str w, .int m]] dr = some (.im (.bool (baseB w m)), dr) := by
  have e1 := qe_str hw (okS.lit "N")
  have e2 := qe_str hw (okS.lit "M")
  refine cv_det (c_body (w_nx (ps1 := ⟨[.fr (.tuple [.str w, .int m]), .fr (.str w), .fr (.int m)], dr⟩) (by simp) ?_))
  refine w_out (k := decide (w = ("N" : Str))) (ps1 := ⟨[.fr (.tuple [.str w, .int m]), .fr (.str w), .fr (.int m)], dr⟩) (by simp [e1]) (fun h => ?_) (fun h => ?_)
  · have : baseB w m = (decide (0 ≤ m) && decide (m ≤ 12)) := if_pos (of_decide_eq_true h)
    rw [this]
    refine w_det (o := .rt (.im (.bool (decide (0 ≤ m) && decide (m ≤ 12)))) ⟨[.fr (.tuple [.str w, .int m]), .fr (.str w), .fr (.int m)], dr⟩) ?_ ⟨rfl, rfl⟩
    by_cases g : 0 ≤ m <;> simp [g]
  · have : baseB w m = (decide (w = ("M" : Str)) && (decide (1 ≤ m) && decide (m ≤ 24))) := if_neg (of_decide_eq_false h)
    rw [this]
    refine w_det (o := .rt (.im (.bool (decide (w = ("M" : Str)) && (decide (1 ≤ m) && decide (m ≤ 24))))) ⟨[.fr (.tuple [.str w, .int m]), .fr (.str w), .fr (.int m)], dr⟩) ?_ ⟨rfl, rfl⟩
    obtain ⟨b, hb⟩ : ∃ b, b = decide (w = ("M" : Str)) := ⟨_, rfl⟩
    rw [← hb] at e2 ⊢
    by_cases g : 1 ≤ m <;> cases b <;> simp [g, e2]
theorem require_ok {b : Bool} {x : Str} {k : Int} : fn_require [.bool b, .str x, .int k] dr = some (.im (if b then .none else excD (.str x) (.int k)), dr) := by
  cases b <;> rfl
end
end LK

/-! the rules -/
namespace LK
open PySem PySem.Spec PyProof.Rows L2 MP
section
variable {dr : Dr} {w s : Str} {m n : Int} {kinds : List (List Int)} {row : List Int}
theorem x_req {g : M (List Dat)} {ps ps1 : PS} {b : Bool} {x : Str} {k : Int} (e : g ps = some ([.bool b, .str x, .int k], ps1)) : exprXM (callM fn_require g) ps = some (if b then .nx ps1 else .rt (.im (excD (.str x) (.int k))) ps1) := by
  have r := require_ok (dr := ps1.dr) (b := b) (x := x) (k := k)
  have e2 : callM fn_require g ps = some (.im (if b then .none else excD (.str x) (.int k)), ps1) := by
    unfold callM
    rw [e, Option.bind_some]
    show (fn_require [.bool b, .str x, .int k] ps1.dr).bind _ = _
    rw [r]
    rfl
  unfold exprXM
  rw [e2]
  cases b <;> rfl
theorem w_req {g : M (List Dat)} {rest : SM} {ps ps1 : PS} {b : Bool} {x : Str} {k : Int} {Q : SOut → Prop} (e : g ps = some ([.bool b, .str x, .int k], ps1)) (h0 : b = false → Q (.rt (.im (excD (.str x) (.int k))) ps1)) (h1 : b = true → W rest ps1 Q) : W (seqM (exprXM (callM fn_require g)) rest) ps Q := by
  cases b with
  | false => exact w_seq (w_det (x_req e) (h0 rfl))
  | true => exact w_nx (x_req e) (h1 rfl)
theorem find_first {α : Type} {bad : α → Bool} {pre post : List α} {x : α} (h : ∀ y ∈ pre, bad y = false) (hx : bad x = true) : (pre ++ x :: post).find? bad = some x := by
  rw [List.find?_append, List.find?_eq_none.mpr (fun y hy => by rw [h y hy]; exact Bool.false_ne_true), List.find?_cons_of_pos hx]
  rfl
def psC (D B K S : Dat) (n : Int) (z5 z6 : Sl) (dr : Dr) : PS := ⟨[.fr D, .fr B, .fr (.int n), .fr K, .fr S, z5, z6], dr⟩
theorem rows_at {i : Nat} (h : i < kinds.length) : (rowsD kinds)[i]? = some (.tuple (zL (kAt kinds i))) := by
  unfold rowsD kAt
  rw [List.getElem?_map, List.getElem?_eq_getElem h, List.getD_eq_getElem?_getD, List.getElem?_eq_getElem h]
  rfl
theorem enL_rows : enL (rowsD kinds) = (List.range kinds.length).map fun i : Nat => PyData.dict [(.int (i : Int), .tuple (zL (kAt kinds i)))] := by
  refine List.ext_getElem? fun i => ?_
  by_cases h : i < kinds.length
  · have := rows_at h
    have h2 : i < (rowsD kinds).length := by unfold rowsD; simpa using h
    have h3 : (rowsD kinds)[i] = .tuple (zL (kAt kinds i)) := by
      rw [List.getElem?_eq_getElem h2] at this
      exact Option.some.inj this
    rw [List.getElem?_map, List.getElem?_range h]
    unfold enL
    simp [h2, h3]
  · have h2 : ¬ i < (rowsD kinds).length := by unfold rowsD; simpa using h
    rw [List.getElem?_eq_none (by unfold enL; simp; omega), List.getElem?_eq_none (by simp; omega)]
theorem check_ok (hw : okS w) (hs : okS s) (hl : kinds.length ≤ 1000) (hr : ∀ r ∈ kinds, r.length ≤ 1000) : fn_check_datum [dD w m n kinds s] dr = some (.im (xD (vD w m n kinds s)), dr) := by
  have br := base_right_ok (m := m) (dr := dr) hw
  have ik : ∀ i, i < kinds.length → fn_is_kind [.int n, .tuple (zL (kAt kinds i))] dr = some (.im (.bool (kB n (kAt kinds i))), dr) := fun i hi => is_kind_ok (hr _ (by
    unfold kAt
    rw [List.getD_eq_getElem?_getD, List.getElem?_eq_getElem hi]
    exact List.getElem_mem hi))
  have b0 : ixD (.tuple [.str w, .int m]) (.int 0) = some (.im (.str w)) := rfl
  have lk : lenD (.tuple (rowsD kinds)) = some (.im (.int (kinds.length : Int))) := by
    show some (RV.im (.int ((rowsD kinds).length : Int))) = _
    unfold rowsD
    rw [List.length_map]
  have q1 := qe_str hs (okS.lit "two")
  have q2 := qe_str hs (okS.lit "one")
  have q3 := qe_str hw (okS.lit "M")
  have en := enL_rows (kinds := kinds)
  obtain ⟨V, hV⟩ : ∃ V, V = vD w m n kinds s := ⟨_, rfl⟩
  rw [← hV]
  unfold vD at hV
  unfold dD
  obtain ⟨K, hK⟩ : ∃ K, K = rowsD kinds := ⟨_, rfl⟩
  obtain ⟨B, hB⟩ : ∃ B : Dat, B = .tuple [.str w, .int m] := ⟨_, rfl⟩
  rw [← hK] at lk en ⊢
  rw [← hB] at br b0 ⊢
  obtain ⟨D, hD⟩ : ∃ D : Dat, D = .tuple [B, .int n, .tuple K, .str s] := ⟨_, rfl⟩
  obtain ⟨BB, hBB⟩ : ∃ b, b = baseB w m := ⟨_, rfl⟩
  rw [← hBB] at br hV
  rw [← hD]
  refine cv_det (c_body (w_nx (ps1 := psC D B (.tuple K) (.str s) n .un .un dr) (by rw [hD]; simp [psC]) ?_))
  refine w_req (b := BB) (x := ("base" : Str)) (k := 0) (ps1 := psC D B (.tuple K) (.str s) n .un .un dr) (by simp [psC, br]) (fun h => ?_) (fun h => ?_)
  · rw [if_pos h] at hV
    rw [hV]
    exact ⟨rfl, rfl⟩
  rw [if_neg (by rw [h]; decide)] at hV
  refine w_req (b := decide (1 ≤ n ∧ n ≤ 60)) (x := ("sheets" : Str)) (k := n) (ps1 := psC D B (.tuple K) (.str s) n .un .un dr) (by by_cases g : 1 ≤ n <;> simp [psC, g]) (fun h => ?_) (fun h => ?_)
  · rw [if_pos (of_decide_eq_false h)] at hV
    rw [hV]
    exact ⟨rfl, rfl⟩
  rw [if_neg (fun z => z (of_decide_eq_true h))] at hV
  refine w_req (b := decide ((kinds.length : Int) ≤ 8)) (x := ("kinds" : Str)) (k := (kinds.length : Int)) (ps1 := psC D B (.tuple K) (.str s) n .un .un dr) (by simp [psC, -e_lenT, lk]) (fun h => ?_) (fun h => ?_)
  · rw [if_pos (by have := of_decide_eq_false h; omega)] at hV
    rw [hV]
    exact ⟨rfl, rfl⟩
  rw [if_neg (by have := of_decide_eq_true h; omega)] at hV
  refine w_seq (w_forR (fun i : Nat => PyData.dict [(.int (i : Int), .tuple (zL (kAt kinds i)))]) (List.range kinds.length) (ps1 := psC D B (.tuple K) (.str s) n .un .un dr) (by simp [psC, en]) (fun pre q => ∃ z5 z6, q = psC D B (.tuple K) (.str s) n z5 z6 dr ∧ ∀ i ∈ pre, (!kB n (kAt kinds i)) = false) ⟨_, _, rfl, fun i hi => by cases hi⟩ ?_ ?_)
  · rintro pre i post q hx ⟨z5, z6, rfl, hpre⟩
    have hi : i < kinds.length := List.mem_range.mp (by rw [hx]; simp)
    have ik := ik i hi
    obtain ⟨R, hR⟩ : ∃ R, R = PyData.tuple (zL (kAt kinds i)) := ⟨_, rfl⟩
    rw [← hR] at ik ⊢
    refine ⟨psC D B (.tuple K) (.str s) n (.fr (.int (i : Int))) (.fr R) dr, by simp [psC], ?_⟩
    have st := x_req (g := consM (callM fn_is_kind (consM (rdV 2) (consM (rdV 6) (M.ret [])))) (consM (kst (.str ("kind" : Str))) (consM (rdV 5) (M.ret [])))) (ps := psC D B (.tuple K) (.str s) n (.fr (.int (i : Int))) (.fr R) dr) (ps1 := psC D B (.tuple K) (.str s) n (.fr (.int (i : Int))) (.fr R) dr) (b := kB n (kAt kinds i)) (x := ("kind" : Str)) (k := (i : Int)) (by simp [psC, ik])
    cases hk : kB n (kAt kinds i) with
    | true =>
      rw [hk] at st
      refine w_det st ⟨_, _, rfl, fun j hj => ?_⟩
      rcases List.mem_append.mp hj with hj | hj
      · exact hpre j hj
      · rw [List.mem_singleton.mp hj, hk]
        rfl
    | false =>
      rw [hk] at st
      rw [hx, find_first hpre (by rw [hk]; rfl)] at hV
      rw [hV]
      exact w_det st ⟨rfl, rfl⟩
  · rintro q ⟨z5, z6, rfl, hgood⟩
    rw [List.find?_eq_none.mpr fun y hy => by rw [hgood y hy]; exact Bool.false_ne_true] at hV
    have hV : V = if sideB w s = false then some (("sides" : Str), 0) else none := hV
    have ho : (orVM (opM eqD (rdV 4) (kst (.str ("two" : Str)))) (andVM (opM eqD (rdV 4) (kst (.str ("one" : Str)))) (opM eqD (opM ixD (rdV 1) (kst (.int 0))) (kst (.str ("M" : Str)))))) (psC D B (.tuple K) (.str s) n z5 z6 dr) = some (.im (.bool (sideB w s)), psC D B (.tuple K) (.str s) n z5 z6 dr) := by
      unfold sideB
      cases g1 : decide (s = ("two" : Str)) <;> cases g2 : decide (s = ("one" : Str)) <;> (rw [g1] at q1; rw [g2] at q2; simp [psC, q1, q2, q3, b0])
    have st := x_req (g := consM (orVM (opM eqD (rdV 4) (kst (.str ("two" : Str)))) (andVM (opM eqD (rdV 4) (kst (.str ("one" : Str)))) (opM eqD (opM ixD (rdV 1) (kst (.int 0))) (kst (.str ("M" : Str)))))) (consM (kst (.str ("sides" : Str))) (consM (kst (.int 0)) (M.ret [])))) (ps := psC D B (.tuple K) (.str s) n z5 z6 dr) (ps1 := psC D B (.tuple K) (.str s) n z5 z6 dr) (b := sideB w s) (x := ("sides" : Str)) (k := 0) (by simp [-e_orV, ho])
    cases hb : sideB w s with
    | true =>
      rw [hb] at st
      rw [if_neg (by rw [hb]; decide)] at hV
      rw [hV]
      exact w_det st ⟨rfl, rfl⟩
    | false =>
      rw [hb] at st
      rw [if_pos hb] at hV
      rw [hV]
      exact w_det st ⟨rfl, rfl⟩
theorem told_ok (hw : okS w) (hs : okS s) (hl : kinds.length ≤ 1000) (hr : ∀ r ∈ kinds, r.length ≤ 1000) : fn_law_told [dD w m n kinds s] dr = some (.im (tD (vD w m n kinds s)), dr) := by
  have ck := check_ok (m := m) (n := n) (dr := dr) hw hs hl hr
  obtain ⟨V, hV⟩ : ∃ V, V = vD w m n kinds s := ⟨_, rfl⟩
  rw [← hV] at ck ⊢
  obtain ⟨D, hD⟩ : ∃ D, D = dD w m n kinds s := ⟨_, rfl⟩
  rw [← hD] at ck ⊢
  have e0 : callM fn_check_datum (consM (rdV 0) (M.ret [])) (⟨[.fr D, .un, .un], dr⟩ : PS) = some (.im (xD V), ⟨[.fr D, .un, .un], dr⟩) := by simp [ck]
  cases V with
  | none =>
    refine cv_det (c_body (w_nx (ps1 := ⟨[.fr D, .fr .none, .un], dr⟩) ?_ (w_det (o := .rt (.im (.tuple [])) ⟨[.fr D, .fr .none, .un], dr⟩) ?_ ⟨rfl, rfl⟩)))
    · unfold tryM setXM
      show ((((callM fn_check_datum (consM (rdV 0) (M.ret []))) (⟨[.fr D, .un, .un], dr⟩ : PS)).bind _).bind _) = _
      rw [e0]
      rfl
    · rfl
  | some p =>
    obtain ⟨x, k⟩ := p
    refine cv_det (c_body (w_seq (w_det (o := .rt (.im (.tuple [.str x, .int k])) ⟨[.fr D, .un, .un], dr⟩) ?_ ⟨rfl, rfl⟩)))
    unfold tryM setXM
    show ((((callM fn_check_datum (consM (rdV 0) (M.ret []))) (⟨[.fr D, .un, .un], dr⟩ : PS)).bind _).bind _) = _
    rw [e0]
    rfl
end
end LK

/-! kinds, and rows that are none -/
namespace LK
open PySem PySem.Spec PyProof.Rows L2 MP
structure GK (n : Int) (r : List Int) : Prop where
  pos : ∀ x ∈ r, 1 ≤ x
  sum : r.sum = n
  des : r.Pairwise (· ≥ ·)
theorem zg_get {r : List Int} {i : Nat} (h : i < r.length) : zg r i = r[i] := by
  unfold zg
  rw [List.getD_eq_getElem?_getD, List.getElem?_eq_getElem h]
  rfl
theorem pw_desB {r : List Int} (h : r.Pairwise (· ≥ ·)) : desB r = true := by
  refine List.all_eq_true.mpr fun k hk => decide_eq_true ?_
  have hk := List.mem_range.mp hk
  rw [zg_get (by omega), zg_get (by omega)]
  exact List.pairwise_iff_getElem.mp h k (k + 1) (by omega) (by omega) (by omega)
theorem desB_pw {r : List Int} (h : desB r = true) : ∀ j i, i < j → j < r.length → zg r i ≥ zg r j := by
  intro j
  induction j with
  | zero => intro i h1; omega
  | succ j ih =>
    intro i h1 h2
    have h3 := of_decide_eq_true (List.all_eq_true.mp h j (List.mem_range.mpr (by omega)))
    by_cases e : i = j
    · rw [e]; exact h3
    · have := ih i (by omega) (by omega)
      omega
theorem kB_good {n : Int} {r : List Int} (h : GK n r) : kB n r = true := by
  have h1 : (r.any fun x => decide (x < 1)) = false := List.any_eq_false.mpr fun x hx => by
    have := h.pos x hx
    simp
    omega
  unfold kB
  rw [h1, pw_desB h.des, decide_eq_true h.sum]
  rfl
theorem kB_sum {n : Int} {r : List Int} (h : r.sum ≠ n) : kB n r = false := by
  unfold kB
  rw [decide_eq_false h]
  simp
theorem kB_any {n : Int} {r : List Int} {x : Int} (hx : x ∈ r) (h : x < 1) : kB n r = false := by
  have h1 : (r.any fun x => decide (x < 1)) = true := List.any_eq_true.mpr ⟨x, hx, decide_eq_true h⟩
  unfold kB
  rw [h1]
  rfl
theorem sortI_le {r : List Int} : (sortI r).length ≤ r.length :=
  List.Nodup.length_le_of_subset ((sortI_asc r).imp fun {a b} h => by omega) fun x hx => mem_sortI.mp hx
theorem kB_rev {n : Int} {r : List Int} (h : GK n r) (hd : 1 < (sortI r).length) : kB n r.reverse = false := by
  cases hb : desB r.reverse with
  | false => unfold kB; rw [hb]; simp
  | true =>
    exfalso
    obtain ⟨a, b, t, e⟩ : ∃ a b t, sortI r = a :: b :: t := by
      match hq : sortI r, hd with
      | a :: b :: t, _ => exact ⟨a, b, t, rfl⟩
      | [], hd => simp at hd
      | [a], hd => simp at hd
    have lt : a < b := by
      have := sortI_asc r
      rw [e] at this
      exact (List.pairwise_cons.mp this).1 b (by simp)
    have ma : a ∈ r := mem_sortI.mp (by rw [e]; simp)
    have mb : b ∈ r := mem_sortI.mp (by rw [e]; simp)
    obtain ⟨i, hi, ei⟩ := List.mem_iff_getElem.mp ma
    obtain ⟨j, hj, ej⟩ := List.mem_iff_getElem.mp mb
    have lr : r.reverse.length = r.length := List.length_reverse
    have rv : ∀ k, (hk : k < r.length) → zg r.reverse (r.length - 1 - k) = r[k] := fun k hk => by
      rw [zg_get (by omega), List.getElem_reverse]
      congr 1
      omega
    rcases Nat.lt_trichotomy i j with z | z | z
    · have := List.pairwise_iff_getElem.mp h.des i j hi hj z
      omega
    · subst z
      omega
    · have := desB_pw hb (r.length - 1 - j) (r.length - 1 - i) (by omega) (by omega)
      rw [rv i hi, rv j hj] at this
      omega
theorem kB_drop {n : Int} {r : List Int} (h : GK n r) (hn : 1 ≤ n) : kB n (r.drop 1) = false := by
  cases r with
  | nil => have := h.sum; simp at this; omega
  | cons x xs =>
    refine kB_sum ?_
    have h1 := h.sum
    have h2 := h.pos x (by simp)
    rw [List.sum_cons] at h1
    show xs.sum ≠ n
    omega
theorem kB_app1 {n : Int} {r : List Int} (h : GK n r) : kB n (r ++ [1]) = false := by
  refine kB_sum ?_
  rw [List.sum_append, h.sum]
  simp
  omega
theorem kB_app0 {n : Int} {r : List Int} : kB n (r ++ [0]) = false := kB_any (x := 0) (by simp) (by decide)
theorem gk_len {n : Int} {r : List Int} (h : GK n r) : (r.length : Int) ≤ n := by
  obtain ⟨h1, h2, h3⟩ := h
  clear h3
  subst h2
  induction r with
  | nil => simp
  | cons x xs ih =>
    have a := ih fun y hy => h1 y (List.mem_cons_of_mem _ hy)
    have b := h1 x (by simp)
    rw [List.length_cons, List.sum_cons]
    omega
/-! ### a datum with a fault -/
structure Good (w : Str) (m n : Int) (kinds : List (List Int)) (s : Str) : Prop where
  hw : (w = ("N" : Str) ∧ 0 ≤ m ∧ m ≤ 12) ∨ (w = ("M" : Str) ∧ 1 ≤ m ∧ m ≤ 24)
  n1 : 1 ≤ n
  n60 : n ≤ 60
  many : kinds.length ≤ 8
  ks : ∀ r ∈ kinds, GK n r
  hs : (s = ("two" : Str)) ∨ (s = ("one" : Str) ∧ w = ("M" : Str))
section
variable {w s : Str} {m n : Int} {kinds : List (List Int)}
theorem NM : ¬ (("M" : Str) = ("N" : Str)) := by decide
theorem Good.okw (G : Good w m n kinds s) : okS w := by rcases G.hw with ⟨rfl, _⟩ | ⟨rfl, _⟩ <;> exact okS.lit _
theorem Good.oks (G : Good w m n kinds s) : okS s := by rcases G.hs with rfl | ⟨rfl, _⟩ <;> exact okS.lit _
theorem Good.base (G : Good w m n kinds s) : baseB w m = true := by
  rcases G.hw with ⟨rfl, h1, h2⟩ | ⟨rfl, h1, h2⟩
  · unfold baseB
    rw [if_pos rfl, decide_eq_true h1, decide_eq_true h2]
    rfl
  · unfold baseB
    rw [if_neg NM, decide_eq_true h1, decide_eq_true h2]
    rfl
theorem Good.side (G : Good w m n kinds s) : sideB w s = true := by
  rcases G.hs with rfl | ⟨rfl, rfl⟩
  · unfold sideB; simp
  · unfold sideB; simp
theorem kAt_mem {i : Nat} (h : i < kinds.length) : kAt kinds i ∈ kinds := by
  unfold kAt
  rw [List.getD_eq_getElem?_getD, List.getElem?_eq_getElem h]
  exact List.getElem_mem h
theorem Good.at (G : Good w m n kinds s) {i : Nat} (h : i < kinds.length) : GK n (kAt kinds i) := G.ks _ (kAt_mem h)
theorem v_base {w' : Str} {m' : Int} (h : baseB w' m' = false) : vD w' m' n kinds s = some (("base" : Str), 0) := if_pos h
theorem v_sheets {n' : Int} (h : baseB w m = true) (h2 : ¬ (1 ≤ n' ∧ n' ≤ 60)) : vD w m n' kinds s = some (("sheets" : Str), n') := by unfold vD; rw [if_neg (by rw [h]; decide), if_pos h2]
theorem v_kinds (h : baseB w m = true) (h2 : 1 ≤ n ∧ n ≤ 60) (h3 : 8 < kinds.length) : vD w m n kinds s = some (("kinds" : Str), (kinds.length : Int)) := by unfold vD; rw [if_neg (by rw [h]; decide), if_neg (fun z => z h2), if_pos h3]
theorem v_kind {i : Nat} (h : baseB w m = true) (h2 : 1 ≤ n ∧ n ≤ 60) (h3 : ¬ 8 < kinds.length) (hi : i < kinds.length) (hb : kB n (kAt kinds i) = false) (hp : ∀ j < i, kB n (kAt kinds j) = true) : vD w m n kinds s = some (("kind" : Str), (i : Int)) := by
  have : (List.range kinds.length).find? (fun i => !kB n (kAt kinds i)) = some i := by
    rw [List.find?_range_eq_some]
    exact ⟨by simp [hb], by simpa using hi, fun j hj => by simp [hp j hj]⟩
  unfold vD
  rw [if_neg (by rw [h]; decide), if_neg (fun z => z h2), if_neg h3, this]
theorem v_tail (h : baseB w m = true) (h2 : 1 ≤ n ∧ n ≤ 60) (h3 : ¬ 8 < kinds.length) (hp : ∀ j < kinds.length, kB n (kAt kinds j) = true) : vD w m n kinds s = if sideB w s = false then some (("sides" : Str), 0) else none := by
  have : (List.range kinds.length).find? (fun i => !kB n (kAt kinds i)) = none := List.find?_eq_none.mpr fun j hj => by simp [hp j (List.mem_range.mp hj)]
  unfold vD
  rw [if_neg (by rw [h]; decide), if_neg (fun z => z h2), if_neg h3, this]
theorem Good.none (G : Good w m n kinds s) : vD w m n kinds s = Option.none := by
  rw [v_tail G.base ⟨G.n1, G.n60⟩ (by have := G.many; omega) fun j hj => kB_good (G.at hj), if_neg (by rw [G.side]; decide)]
theorem Good.sides (G : Good w m n kinds s) {s2 : Str} (h : sideB w s2 = false) : vD w m n kinds s2 = some (("sides" : Str), 0) := by
  rw [v_tail G.base ⟨G.n1, G.n60⟩ (by have := G.many; omega) fun j hj => kB_good (G.at hj), if_pos h]
end
end LK

/-! a datum with a fault, as the law makes it -/
namespace LK
open PySem PySem.Spec PyProof.Rows L2 MP
def Res (r : RV) : Prop := ∃ (w : Str) (m n : Int) (kinds : List (List Int)) (s x : Str) (k : Int), r = .nw [dD w m n kinds s, .tuple [.str x, .int k]] ∧ okS w ∧ okS s ∧ okS x ∧ kinds.length ≤ 100 ∧ (∀ r ∈ kinds, r.length ≤ 100) ∧ vD w m n kinds s = some (x, k) ∧ (x ≠ ("sides" : Str) → ∀ s2, vD w m n kinds s2 = some (x, k))
def psB (D B : Dat) (K : List Dat) (n : Int) (s : Str) (f : Nat) (z7 z8 z9 z10 : Sl) (dr : Dr) : PS := ⟨[.fr (.dict []), .fr D, .fr (.int (f : Int)), .fr B, .fr (.int n), .fr (.tuple K), .fr (.str s), z7, z8, z9, z10], dr⟩
section
variable {dr : Dr} {w s : Str} {m n : Int} {kinds : List (List Int)} {f : Nat}
theorem G_ks (G : Good w m n kinds s) : ∀ r ∈ kinds, r.length ≤ 60 := fun r hr => by
  have := gk_len (G.ks r hr)
  have := G.n60
  omega
theorem bad_ok (G : Good w m n kinds s) (hA : isA dr) : CV fn_law_bad [.dict [], dD w m n kinds s, .int (f : Int)] dr fun r dr' => isA dr' ∧ Res r := by
  have hw := G.okw
  have hs := G.oks
  have hl8 := G.many
  have hks := G_ks G
  have l2 : line 2 = true := rfl
  have l4 : line 4 = true := rfl
  have lk : lenD (.tuple (rowsD kinds)) = some (.im (.int (kinds.length : Int))) := by
    show some (RV.im (.int ((rowsD kinds).length : Int))) = _
    unfold rowsD
    rw [List.length_map]
  have b0 : ixD (.tuple [.str w, .int m]) (.int 0) = some (.im (.str w)) := rfl
  have eN := qe_str hw (okS.lit "N")
  have dd : ∀ (w' : Str) (m' n' : Int) (kinds' : List (List Int)) (s' : Str), PyData.tuple [.tuple [.str w', .int m'], .int n', .tuple (rowsD kinds'), .str s'] = dD w' m' n' kinds' s' := fun _ _ _ _ _ => rfl
  obtain ⟨K, hK⟩ : ∃ K, K = rowsD kinds := ⟨_, rfl⟩
  obtain ⟨B, hB⟩ : ∃ B : Dat, B = .tuple [.str w, .int m] := ⟨_, rfl⟩
  obtain ⟨D, hD⟩ : ∃ D : Dat, D = .tuple [B, .int n, .tuple K, .str s] := ⟨_, rfl⟩
  have hD' : dD w m n kinds s = D := by rw [hD, hB, hK]; rfl
  rw [hD']
  refine c_body (w_nx (ps1 := psB D B K n s f .un .un .un .un dr) (by rw [hD]; simp [psB]) ?_)
  -- the base
  refine w_out (k := decide (f = 0)) (ps1 := psB D B K n s f .un .un .un .un dr) (by simp [psB, qe_int] <;> omega) (fun _ => ?_) (fun _ => ?_)
  · obtain ⟨r, d1, e1, hr, hA1⟩ := draw_ok (m := 6) hA (by decide) (by decide)
    have e1 : drawA [.dict [], .int 6] dr = _ := e1
    have pick : ∃ (w' : Str) (m' : Int), atI [PyData.tuple [.str ("N" : Str), .int (-1)], .tuple [.str ("N" : Str), .int 13], .tuple [.str ("M" : Str), .int 0], .tuple [.str ("M" : Str), .int 25], .tuple [.str ("K" : Str), .int 3], .tuple [.str ("n" : Str), .int 2]] (r : Int) = some (.tuple [.str w', .int m']) ∧ okS w' ∧ baseB w' m' = false := by
      match r, hr with
      | 0, _ => exact ⟨_, _, rfl, okS.lit _, by decide⟩
      | 1, _ => exact ⟨_, _, rfl, okS.lit _, by decide⟩
      | 2, _ => exact ⟨_, _, rfl, okS.lit _, by decide⟩
      | 3, _ => exact ⟨_, _, rfl, okS.lit _, by decide⟩
      | 4, _ => exact ⟨_, _, rfl, okS.lit _, by decide⟩
      | 5, _ => exact ⟨_, _, rfl, okS.lit _, by decide⟩
    obtain ⟨w', m', hp, hw', hb⟩ := pick
    refine w_nx (ps1 := psB D B K n s f (.ow [.tuple [.str ("N" : Str), .int (-1)], .tuple [.str ("N" : Str), .int 13], .tuple [.str ("M" : Str), .int 0], .tuple [.str ("M" : Str), .int 25], .tuple [.str ("K" : Str), .int 3], .tuple [.str ("n" : Str), .int 2]]) .un .un .un dr) (by simp [psB, line_of]) ?_
    refine w_det (o := .rt (.nw [dD w' m' n kinds s, .tuple [.str ("base" : Str), .int 0]]) (psB D B K n s f (.ow [.tuple [.str ("N" : Str), .int (-1)], .tuple [.str ("N" : Str), .int 13], .tuple [.str ("M" : Str), .int 0], .tuple [.str ("M" : Str), .int 25], .tuple [.str ("K" : Str), .int 3], .tuple [.str ("n" : Str), .int 2]]) .un .un .un d1)) ?_ ⟨hA1, w', m', n, kinds, s, _, _, rfl, hw', hs, okS.lit _, by omega, fun r hr => by have := hks r hr; omega, v_base hb, fun _ s2 => v_base hb⟩
    rw [← dd, ← hK]
    simp [psB, line_of, fn_law_draw, e1, hp]
  -- the sheets
  refine w_out (k := decide (f = 1)) (ps1 := psB D B K n s f .un .un .un .un dr) (by simp [psB, qe_int] <;> omega) (fun _ => ?_) (fun _ => ?_)
  · obtain ⟨r, d1, e1, hr, hA1⟩ := draw_ok (m := 3) hA (by decide) (by decide)
    have e1 : drawA [.dict [], .int 3] dr = _ := e1
    have pick : ∃ (n' : Int), atI [PyData.int 0, PyData.int 61, PyData.int (-1)] (r : Int) = some (.int n') ∧ ¬ (1 ≤ n' ∧ n' ≤ 60) := by
      match r, hr with
      | 0, _ => exact ⟨_, rfl, by decide⟩
      | 1, _ => exact ⟨_, rfl, by decide⟩
      | 2, _ => exact ⟨_, rfl, by decide⟩
    obtain ⟨n', hp, hn⟩ := pick
    refine w_nx (ps1 := psB D B K n s f .un (.fr (.int n')) .un .un d1) (by simp [psB, line_of, fn_law_draw, e1, hp]) ?_
    refine w_det (o := .rt (.nw [dD w m n' kinds s, .tuple [.str ("sheets" : Str), .int n']]) (psB D B K n s f .un (.fr (.int n')) .un .un d1)) ?_ ⟨hA1, w, m, n', kinds, s, _, _, rfl, hw, hs, okS.lit _, by omega, fun r hr => by have := hks r hr; omega, v_sheets G.base hn, fun _ s2 => v_sheets G.base hn⟩
    rw [← dd, ← hK, ← hB]
    simp [psB, line_of]
  -- the kinds
  refine w_out (k := decide (f = 2)) (ps1 := psB D B K n s f .un .un .un .un dr) (by simp [psB, qe_int] <;> omega) (fun _ => ?_) (fun _ => ?_)
  · refine w_det (o := .rt (.nw [dD w m n (List.replicate 9 [n]) s, .tuple [.str ("kinds" : Str), .int 9]]) (psB D B K n s f .un .un .un .un dr)) ?_ ⟨hA, w, m, n, List.replicate 9 [n], s, _, _, rfl, hw, hs, okS.lit _, by simp, fun r hr => by rw [(List.mem_replicate.mp hr).2]; simp, v_kinds G.base ⟨G.n1, G.n60⟩ (by simp), fun _ s2 => v_kinds G.base ⟨G.n1, G.n60⟩ (by simp)⟩
    have mu : mulTD (.tuple [.tuple [.int n]]) (.int 9) = some (.im (.tuple (rowsD (List.replicate 9 [n])))) := rfl
    rw [← dd, ← hB]
    obtain ⟨R9, hR9⟩ : ∃ R, R = rowsD (List.replicate 9 [n]) := ⟨_, rfl⟩
    rw [← hR9] at mu ⊢
    simp [psB, line_of, mu]
  -- one kind
  have c3 : andM (tstM (opM eqD (rdV 2) (kst (.int 3)))) (tstM (opM gtD (unM lenD (rdV 5)) (kst (.int 0)))) (psB D B K n s f .un .un .un .un dr) = some (decide (f = 3) && decide (0 < kinds.length), psB D B K n s f .un .un .un .un dr) := by
    rw [← hK] at lk
    refine and_det ?_ ?_
    · simp [psB, qe_int] <;> omega
    · simp [psB, -e_lenT, lk] <;> omega
  refine w_out c3 (fun h3 => ?_) (fun _ => ?_)
  · simp only [Bool.and_eq_true, decide_eq_true_eq] at h3
    obtain ⟨_, hk0⟩ := h3
    obtain ⟨a, d1, e1, ha, hA1⟩ := draw_ok (m := kinds.length) hA hk0 (by omega)
    have ga := G.at ha
    have gl := gk_len ga
    have hn60 := G.n60
    have ix : ixD (.tuple K) (.int (a : Int)) = some (.im (.tuple (zL (kAt kinds a)))) := by
      rw [hK, e_ixT, atI_nat (rows_at ha)]
      rfl
    obtain ⟨R, hR⟩ : ∃ R, R = kAt kinds a := ⟨_, rfl⟩
    rw [← hR] at ga gl ix
    have si : setInts (.tuple (zL R)) = some R := by
      unfold setInts
      show (ints? (zL R)).bind _ = _
      rw [ints_zL, Option.bind_some, if_pos (by
        have := sortI_le (r := R)
        simp only [Bool.and_eq_true, decide_eq_true_eq]
        omega)]
    have ls : lenSetA (.tuple (zL R)) = some (.im (.int ((sortI R).length : Int))) := by
      unfold lenSetA
      rw [si]
    have t1 := zsT1 (xs := R) (a := 1)
    have t2 : addD (.tuple (zL R)) (.tuple [.int 1]) = some (.im (.tuple (zL (R ++ [1])))) := zaddT (xs := R) (ys := [1]) (by simp; omega)
    have t3 : addD (.tuple (zL R)) (.tuple [.int 0]) = some (.im (.tuple (zL (R ++ [0])))) := zaddT (xs := R) (ys := [0]) (by simp; omega)
    have t4 : revAD (.tuple (zL R)) = some (.im (.tuple (zL R.reverse))) := by
      show some (RV.im (.tuple (zL R).reverse)) = _
      unfold zL
      rw [List.map_reverse]
    have ll : lenD (.tuple K) = some (.im (.int (kinds.length : Int))) := by rw [hK]; exact lk
    have rest : ∀ (RS : List (List Int)) (z8 z10 : Sl), (∀ r ∈ RS, kB n r = false ∧ r.length ≤ 100) → 0 < RS.length → RS.length ≤ 10 → ∀ Q : SOut → Prop, (∀ r q, isA q.dr → Res r → Q (.rt r q)) →
        W (retM (lstM (consM (tupM (consM (rdV 3) (consM (rdV 4) (consM (opM addD (opM addD (slM (rdV 5) (M.ret none) (partM (rdV 9))) (tupM (consM (opM ixD (rdV 7) (callM fn_law_draw (consM (rdV 0) (consM (unM lenD (rdV 7)) (M.ret []))))) (M.ret [])))) (slM (rdV 5) (partM (opM addD (rdV 9) (kst (.int 1)))) (M.ret none))) (consM (rdV 6) (M.ret [])))))) (consM (tupM (consM (kst (.str ("kind" : Str))) (consM (rdV 9) (M.ret [])))) (M.ret []))))) (psB D B K n s f (.ow (rowsD RS)) z8 (.fr (.int (a : Int))) z10 d1) Q := fun RS z8 z10 hRS h0 h10 Q hQ => by
      obtain ⟨b, d2, e2, hb, hA2⟩ := draw_ok (m := RS.length) hA1 h0 (by omega)
      have lr : (rowsD RS).length = RS.length := by unfold rowsD; rw [List.length_map]
      have ab : atI (rowsD RS) (b : Int) = some (.tuple (zL (kAt RS b))) := atI_nat (rows_at hb)
      obtain ⟨r, hr⟩ : ∃ r, r = kAt RS b := ⟨_, rfl⟩
      obtain ⟨hrb, hrl⟩ := hRS _ (kAt_mem hb)
      rw [← hr] at ab hrb hrl
      have s0 : slD (.tuple K) none (some (a : Int)) = some (.im (.tuple (rowsD (kinds.take a)))) := by
        rw [hK, e_slT, cut0]
        unfold rowsD
        rw [List.map_take]
      have s1 : slD (.tuple K) (some ((a : Int) + 1)) none = some (.im (.tuple (rowsD (kinds.drop (a + 1))))) := by
        have c : ((a : Int) + 1) = ((a + 1 : Nat) : Int) := by omega
        rw [hK, c, e_slT, cut1]
        unfold rowsD
        rw [List.map_drop]
      have a1 : addD (.tuple (rowsD (kinds.take a))) (.tuple [.tuple (zL r)]) = some (.im (.tuple (rowsD (kinds.take a ++ [r])))) := by
        rw [e_addT, if_pos (line_of (by unfold rowsD; simp; omega))]
        unfold rowsD
        rw [List.map_append]
        rfl
      have a2 : addD (.tuple (rowsD (kinds.take a ++ [r]))) (.tuple (rowsD (kinds.drop (a + 1)))) = some (.im (.tuple (rowsD (kinds.set a r)))) := by
        rw [e_addT, if_pos (line_of (by unfold rowsD; simp; omega))]
        have : kinds.set a r = kinds.take a ++ [r] ++ kinds.drop (a + 1) := by
          rw [List.set_eq_take_append_cons_drop, if_pos ha, List.append_assoc]
          rfl
        rw [this]
        unfold rowsD
        simp only [List.map_append]
      have hset0 : kAt (kinds.set a r) a = r := by
        unfold kAt
        rw [List.getD_eq_getElem?_getD, List.getElem?_set, if_pos rfl, if_pos ha]
        rfl
      have hset : ∀ j, j < a → kAt (kinds.set a r) j = kAt kinds j := fun j hj => by
        unfold kAt
        rw [List.getD_eq_getElem?_getD, List.getElem?_set, List.getD_eq_getElem?_getD, if_neg (by omega)]
      have vk : ∀ s2, vD w m n (kinds.set a r) s2 = some (("kind" : Str), (a : Int)) := fun s2 => v_kind G.base ⟨G.n1, G.n60⟩ (by rw [List.length_set]; omega) (by rw [List.length_set]; exact ha) (by rw [hset0]; exact hrb) fun j hj => by
        rw [hset j hj]
        exact kB_good (G.at (by omega))
      refine w_det (o := .rt (.nw [dD w m n (kinds.set a r) s, .tuple [.str ("kind" : Str), .int (a : Int)]]) (psB D B K n s f (.ow (rowsD RS)) z8 (.fr (.int (a : Int))) z10 d2)) ?_ (hQ _ _ hA2 ⟨w, m, n, kinds.set a r, s, _, _, rfl, hw, hs, okS.lit _, by rw [List.length_set]; omega, fun r' hr' => ?_, vk s, fun _ s2 => vk s2⟩)
      · rw [← dd, ← hB]
        obtain ⟨KS, hKS⟩ : ∃ KS, KS = rowsD (kinds.set a r) := ⟨_, rfl⟩
        obtain ⟨K1, hK1⟩ : ∃ KS, KS = rowsD (kinds.take a ++ [r]) := ⟨_, rfl⟩
        obtain ⟨K0, hK0⟩ : ∃ KS, KS = rowsD (kinds.take a) := ⟨_, rfl⟩
        obtain ⟨K2, hK2⟩ : ∃ KS, KS = rowsD (kinds.drop (a + 1)) := ⟨_, rfl⟩
        obtain ⟨RR, hRR⟩ : ∃ KS, KS = rowsD RS := ⟨_, rfl⟩
        obtain ⟨zr, hzr⟩ : ∃ z, z = zL r := ⟨_, rfl⟩
        rw [← hKS, ← hK1] at a2
        rw [← hK2] at a2 s1
        rw [← hK1, ← hK0] at a1
        rw [← hK0] at s0
        rw [← hRR] at ab lr
        rw [← hzr] at ab a1
        rw [← hKS, ← hRR]
        simp [psB, line_of, fn_law_draw, lr, e2, ab, s0, s1, a1, a2, -e_addT, -e_slT]
      · rcases List.mem_or_eq_of_mem_set hr' with h | h
        · have := hks r' h
          omega
        · rw [h]
          exact hrl
    have base5 : ∀ r ∈ [R.drop 1, R ++ [1], R ++ [0], [n + 1, -1], [n - 1, 2, -1]], kB n r = false ∧ r.length ≤ 100 := fun r hr => by
      simp only [List.mem_cons, List.not_mem_nil, or_false] at hr
      rcases hr with rfl | rfl | rfl | rfl | rfl
      · exact ⟨kB_drop ga G.n1, by simp; omega⟩
      · exact ⟨kB_app1 ga, by simp; omega⟩
      · exact ⟨kB_app0, by simp; omega⟩
      · exact ⟨kB_any (x := -1) (by simp) (by decide), by simp⟩
      · exact ⟨kB_any (x := -1) (by simp) (by decide), by simp⟩
    refine w_nx (ps1 := psB D B K n s f .un .un (.fr (.int (a : Int))) .un d1) (by simp [psB, -e_lenT, ll, fn_law_draw, e1]) ?_
    refine w_nx (ps1 := psB D B K n s f (.ow (rowsD [R.drop 1, R ++ [1], R ++ [0], [n + 1, -1], [n - 1, 2, -1]])) .un (.fr (.int (a : Int))) .un d1) ?_ ?_
    · have : rowsD [R.drop 1, R ++ [1], R ++ [0], [n + 1, -1], [n - 1, 2, -1]] = [.tuple (zL (R.drop 1)), .tuple (zL (R ++ [1])), .tuple (zL (R ++ [0])), .tuple [.int (n + 1), .int (-1)], .tuple [.int (n - 1), .int 2, .int (-1)]] := rfl
      rw [this]
      obtain ⟨z0, hz0⟩ : ∃ z, z = zL R := ⟨_, rfl⟩
      obtain ⟨z1, hz1⟩ : ∃ z, z = zL (R.drop 1) := ⟨_, rfl⟩
      obtain ⟨z2, hz2⟩ : ∃ z, z = zL (R ++ [1]) := ⟨_, rfl⟩
      obtain ⟨z3, hz3⟩ : ∃ z, z = zL (R ++ [0]) := ⟨_, rfl⟩
      have t1 : slD (.tuple (zL R)) (some 1) none = some (.im (.tuple (zL (R.drop 1)))) := t1
      rw [← hz0, ← hz1] at t1
      rw [← hz0, ← hz2] at t2
      rw [← hz0, ← hz3] at t3
      rw [← hz0] at ix
      rw [← hz1, ← hz2, ← hz3]
      simp [psB, line_of, ix, t1, t2, t3, -e_addT, -e_slT, -e_ixT]
    · obtain ⟨L, hL⟩ : ∃ L, L = (sortI R).length := ⟨_, rfl⟩
      rw [← hL] at ls
      refine w_seq (w_ite (t_det (k := decide (1 < L)) (ps1 := psB D B K n s f (.ow (rowsD [R.drop 1, R ++ [1], R ++ [0], [n + 1, -1], [n - 1, 2, -1]])) .un (.fr (.int (a : Int))) .un d1) (by simp [psB, ix, ls, -e_ixT] <;> omega) ?_))
      by_cases h1 : 1 < L
      · rw [if_pos (decide_eq_true h1)]
        refine w_det (o := .nx (psB D B K n s f (.ow (rowsD ([R.drop 1, R ++ [1], R ++ [0], [n + 1, -1], [n - 1, 2, -1]] ++ [R.reverse]))) .un (.fr (.int (a : Int))) .un d1)) ?_ ?_
        · have c : rowsD ([R.drop 1, R ++ [1], R ++ [0], [n + 1, -1], [n - 1, 2, -1]] ++ [R.reverse]) = rowsD [R.drop 1, R ++ [1], R ++ [0], [n + 1, -1], [n - 1, 2, -1]] ++ [.tuple (zL R.reverse)] := by
            unfold rowsD
            rw [List.map_append]
            rfl
          have l5 : (rowsD [R.drop 1, R ++ [1], R ++ [0], [n + 1, -1], [n - 1, 2, -1]]).length = 5 := rfl
          rw [c]
          obtain ⟨z5, hz5⟩ : ∃ z, z = rowsD [R.drop 1, R ++ [1], R ++ [0], [n + 1, -1], [n - 1, 2, -1]] := ⟨_, rfl⟩
          rw [← hz5] at l5 ⊢
          have sz : z5.length < sizeLine := by rw [l5]; exact sz_of (by decide)
          simp [psB, ix, t4, sz, -e_ixT]
        · refine rest _ _ _ (fun r hr => ?_) (by simp) (by simp) _ fun r q hq hr => ⟨hq, hr⟩
          rcases List.mem_append.mp hr with hr | hr
          · exact base5 r hr
          · rw [List.mem_singleton.mp hr]
            exact ⟨kB_rev ga (by omega), by simp; omega⟩
      · rw [if_neg (by simpa using h1)]
        exact w_det (o := .nx _) rfl (rest _ _ _ base5 (by simp) (by simp) _ fun r q hq hr => ⟨hq, hr⟩)
  -- the sides
  obtain ⟨r, d1, e1, hr, hA1⟩ := draw_ok (m := 3) hA (by decide) (by decide)
  have e1 : drawA [.dict [], .int 3] dr = _ := e1
  have tst : ∃ b : Bool, b = decide (w = ("N" : Str)) := ⟨_, rfl⟩
  have pick : ∃ s2 : Str, setM 10 (ifM (tstM (opM eqD (opM ixD (rdV 3) (kst (.int 0))) (kst (.str ("N" : Str))))) (opM ixD (lstM (consM (kst (.str ("one" : Str))) (consM (kst (.str ("three" : Str))) (consM (kst (.str ("" : Str))) (M.ret []))))) (callM fn_law_draw (consM (rdV 0) (consM (kst (.int 3)) (M.ret []))))) (opM ixD (lstM (consM (kst (.str ("three" : Str))) (consM (kst (.str ("" : Str))) (consM (kst (.str ("Two" : Str))) (M.ret []))))) (callM fn_law_draw (consM (rdV 0) (consM (kst (.int 3)) (M.ret [])))))) (psB D B K n s f .un .un .un .un dr) = some (.nx (psB D B K n s f .un .un .un (.fr (.str s2)) d1)) ∧ okS s2 ∧ sideB w s2 = false := by
    rw [← hB] at b0
    rcases G.hw with ⟨rfl, _, _⟩ | ⟨rfl, _, _⟩
    · have eN : eqD (.str ("N" : Str)) (.str ("N" : Str)) = some (.im (.bool true)) := by rw [eN]; rfl
      have pk : ∃ s2 : Str, atI [PyData.str ("one" : Str), .str ("three" : Str), .str ("" : Str)] (r : Int) = some (.str s2) ∧ okS s2 ∧ sideB ("N" : Str) s2 = false := by
        match r, hr with
        | 0, _ => exact ⟨_, rfl, okS.lit _, by decide⟩
        | 1, _ => exact ⟨_, rfl, okS.lit _, by decide⟩
        | 2, _ => exact ⟨_, rfl, okS.lit _, by decide⟩
      obtain ⟨s2, p1, p2, p3⟩ := pk
      exact ⟨s2, by simp [psB, b0, eN, fn_law_draw, e1, p1, line_of], p2, p3⟩
    · have eN : eqD (.str ("M" : Str)) (.str ("N" : Str)) = some (.im (.bool false)) := by rw [eN]; rfl
      have pk : ∃ s2 : Str, atI [PyData.str ("three" : Str), .str ("" : Str), .str ("Two" : Str)] (r : Int) = some (.str s2) ∧ okS s2 ∧ sideB ("M" : Str) s2 = false := by
        match r, hr with
        | 0, _ => exact ⟨_, rfl, okS.lit _, by decide⟩
        | 1, _ => exact ⟨_, rfl, okS.lit _, by decide⟩
        | 2, _ => exact ⟨_, rfl, okS.lit _, by decide⟩
      obtain ⟨s2, p1, p2, p3⟩ := pk
      exact ⟨s2, by simp [psB, b0, eN, fn_law_draw, e1, p1, line_of], p2, p3⟩
  obtain ⟨s2, est, hs2, hsb⟩ := pick
  refine w_nx (ps1 := psB D B K n s f .un .un .un (.fr (.str s2)) d1) est ?_
  refine w_det (o := .rt (.nw [dD w m n kinds s2, .tuple [.str ("sides" : Str), .int 0]]) (psB D B K n s f .un .un .un (.fr (.str s2)) d1)) ?_ ⟨hA1, w, m, n, kinds, s2, _, _, rfl, hw, hs2, okS.lit _, by omega, fun r hr => by have := hks r hr; omega, G.sides hsb, fun h => absurd rfl h⟩
  rw [← dd, ← hK, ← hB]
  simp [psB, line_of]
end
end LK

/-! words and Euler numbers -/
namespace LK
open PySem PySem.Spec PyProof.Rows L2 MP
def rowW (b : Bool) (k : Nat) : List Int := if b then [2 * (k : Int) + 1, 2 * (k : Int) + 2, -(2 * (k : Int) + 1), -(2 * (k : Int) + 2)] else [(k : Int) + 1, (k : Int) + 1]
def letI' (b : Bool) (m : Int) : Int := if b then 2 * m else m
def eulI (b : Bool) (m : Int) : Int := if b then 2 - 2 * m else 2 - m
def wdI (b : Bool) (m : Nat) (L : Nat) : List Int := (List.range m).flatMap (rowW b) ++ (List.range L).map fun k : Nat => letI' b (m : Int) + (k : Int) + 1
theorem flat_len {b : Bool} : ∀ {xs : List Nat}, (xs.flatMap (rowW b)).length ≤ 4 * xs.length
  | [] => by simp
  | x :: xs => by
    have := flat_len (b := b) (xs := xs)
    have h : (rowW b x).length ≤ 4 := by unfold rowW; cases b <;> simp
    rw [List.flatMap_cons, List.length_append, List.length_cons]
    omega
theorem mu2 {x : Int} : mulD (.int 2) (.int x) = some (.im (.int (2 * x))) := MP.mul_int (.inl (by decide))
theorem mu2n {x : Int} : mulD (.int (-2)) (.int x) = some (.im (.int (-2 * x))) := MP.mul_int (.inl (by decide))
section
variable {dr : Dr} {w : Str} {m : Nat} {L : Nat} {b : Bool}
theorem letters_ok (hw : okS w) (hb : decide (w = ("N" : Str)) = b) {m : Int} : fn_letters [.tuple [.str w, .int m]] dr = some (.im (.int (letI' b m)), dr) := by
  have e1 := qe_str hw (okS.lit "N")
  rw [hb] at e1
  have b0 : ixD (.tuple [.str w, .int m]) (.int 0) = some (.im (.str w)) := rfl
  have b1 : ixD (.tuple [.str w, .int m]) (.int 1) = some (.im (.int m)) := rfl
  obtain ⟨B, hB⟩ : ∃ B : Dat, B = .tuple [.str w, .int m] := ⟨_, rfl⟩
  rw [← hB] at b0 b1 ⊢
  refine cv_det (c_body (w_det (o := .rt (.im (.int (letI' b m))) ⟨[.fr B], dr⟩) ?_ ⟨rfl, rfl⟩))
  unfold b_letters letI'
  cases b <;> simp [b0, b1, e1, mu2]
theorem law_letters_ok (hw : okS w) (hb : decide (w = ("N" : Str)) = b) {m : Int} : fn_law_letters [.tuple [.str w, .int m]] dr = some (.im (.int (letI' b m)), dr) := by
  have e1 := qe_str hw (okS.lit "N")
  rw [hb] at e1
  have b0 : ixD (.tuple [.str w, .int m]) (.int 0) = some (.im (.str w)) := rfl
  have b1 : ixD (.tuple [.str w, .int m]) (.int 1) = some (.im (.int m)) := rfl
  obtain ⟨B, hB⟩ : ∃ B : Dat, B = .tuple [.str w, .int m] := ⟨_, rfl⟩
  rw [← hB] at b0 b1 ⊢
  refine cv_det (c_body (w_det (o := .rt (.im (.int (letI' b m))) ⟨[.fr B], dr⟩) ?_ ⟨rfl, rfl⟩))
  unfold b_law_letters letI'
  cases b <;> simp [b0, b1, e1, mu2]
theorem euler_ok (hw : okS w) (hb : decide (w = ("N" : Str)) = b) {m : Int} : fn_euler [.tuple [.str w, .int m]] dr = some (.im (.int (eulI b m)), dr) := by
  have e1 := qe_str hw (okS.lit "N")
  rw [hb] at e1
  have b0 : ixD (.tuple [.str w, .int m]) (.int 0) = some (.im (.str w)) := rfl
  have b1 : ixD (.tuple [.str w, .int m]) (.int 1) = some (.im (.int m)) := rfl
  obtain ⟨B, hB⟩ : ∃ B : Dat, B = .tuple [.str w, .int m] := ⟨_, rfl⟩
  rw [← hB] at b0 b1 ⊢
  refine cv_det (c_body (w_det (o := .rt (.im (.int (eulI b m))) ⟨[.fr B], dr⟩) ?_ ⟨rfl, rfl⟩))
  unfold b_euler eulI
  cases b <;> simp [b0, b1, e1, mu2]
theorem law_euler_ok (hw : okS w) (hb : decide (w = ("N" : Str)) = b) {m : Int} : fn_law_euler [.tuple [.str w, .int m]] dr = some (.im (.int (eulI b m)), dr) := by
  have e1 := qe_str hw (okS.lit "N")
  rw [hb] at e1
  have b0 : ixD (.tuple [.str w, .int m]) (.int 0) = some (.im (.str w)) := rfl
  have b1 : ixD (.tuple [.str w, .int m]) (.int 1) = some (.im (.int m)) := rfl
  obtain ⟨B, hB⟩ : ∃ B : Dat, B = .tuple [.str w, .int m] := ⟨_, rfl⟩
  rw [← hB] at b0 b1 ⊢
  refine cv_det (c_body (w_det (o := .rt (.im (.int (eulI b m))) ⟨[.fr B], dr⟩) ?_ ⟨rfl, rfl⟩))
  unfold b_law_euler eulI
  cases b <;> simp [b0, b1, e1, mu2]
def psW (B : Dat) (L : Nat) (acc : List Int) (z : Sl) (dr : Dr) : PS := ⟨[.fr B, .fr (.int (L : Int)), .ow (zL acc), z], dr⟩
theorem word_ok (hw : okS w) (hb : decide (w = ("N" : Str)) = b) (hm : m ≤ 24) (hL : L ≤ 8) : fn_word [.tuple [.str w, .int (m : Int)], .int (L : Int)] dr = some (.im (.tuple (zL (wdI b m L))), dr) := by
  have e1 := qe_str hw (okS.lit "N")
  rw [hb] at e1
  have lt := fun dr => letters_ok (dr := dr) (m := (m : Int)) hw hb
  have b0 : ixD (.tuple [.str w, .int (m : Int)]) (.int 0) = some (.im (.str w)) := rfl
  have b1 : ixD (.tuple [.str w, .int (m : Int)]) (.int 1) = some (.im (.int (m : Int))) := rfl
  obtain ⟨B, hB⟩ : ∃ B : Dat, B = .tuple [.str w, .int (m : Int)] := ⟨_, rfl⟩
  rw [← hB] at b0 b1 lt ⊢
  have hbm := b62_nat (n := m) (by omega)
  have hbL := b62_nat (n := L) (by omega)
  refine cv_det (c_body (w_nx (ps1 := psW B L [] .un dr) (by simp [psW, line_of]; rfl) ?_))
  refine w_seq (w_for (fun k : Nat => .int (k : Int)) (List.range m) (ps1 := psW B L [] .un dr) (by simp [psW, b1, hbm, rgD_nat]; rfl) (fun pre q => ∃ z, q = psW B L (pre.flatMap (rowW b)) z dr ∧ keepSl (some z) = z) ⟨_, rfl, rfl⟩ ?_ ?_)
  · rintro pre k post q hx ⟨z, rfl, _⟩
    obtain ⟨_, hk, hpl⟩ := range_split hx
    have fl := flat_len (b := b) (xs := pre)
    obtain ⟨acc, hacc⟩ : ∃ acc, acc = pre.flatMap (rowW b) := ⟨_, rfl⟩
    rw [← hacc] at fl ⊢
    refine ⟨psW B L acc (.fr (.int (k : Int))) dr, rfl, w_ite (t_det (k := b) (ps1 := psW B L acc (.fr (.int (k : Int))) dr) (by simp [psW, b0, e1]) ?_)⟩
    have al : addD (.list (zL acc)) (.list (zL (rowW b k))) = some (.nw (zL (acc ++ rowW b k))) := zaddL (by have : (rowW b k).length ≤ 4 := (by unfold rowW; cases b <;> simp); omega)
    have fin : acc ++ rowW b k = (pre ++ [k]).flatMap (rowW b) := by rw [List.flatMap_append, ← hacc]; simp
    obtain ⟨za, hza⟩ : ∃ z, z = zL acc := ⟨_, rfl⟩
    cases b with
    | true =>
      rw [if_pos rfl]
      have c3 : (-2 : Int) * (k : Int) - 1 = -(2 * (k : Int) + 1) := by omega
      have c4 : (-2 : Int) * (k : Int) - 2 = -(2 * (k : Int) + 2) := by omega
      have al : addD (.list za) (.list [.int (2 * (k : Int) + 1), .int (2 * (k : Int) + 2), .int (-(2 * (k : Int) + 1)), .int (-(2 * (k : Int) + 2))]) = some (.nw (zL (acc ++ rowW true k))) := by rw [hza]; exact al
      refine w_det (o := .nx (psW B L (acc ++ rowW true k) (.fr (.int (k : Int))) dr)) ?_ ⟨_, by rw [fin], rfl⟩
      unfold psW
      rw [← hza]
      simp only [e_set, e_op, e_rd]
      simp [mu2, mu2n, line_of, al, c3, c4, -e_addL, -Int.neg_add]
    | false =>
      rw [if_neg (by decide)]
      have al : addD (.list za) (.list [.int ((k : Int) + 1), .int ((k : Int) + 1)]) = some (.nw (zL (acc ++ rowW false k))) := by rw [hza]; exact al
      refine w_det (o := .nx (psW B L (acc ++ rowW false k) (.fr (.int (k : Int))) dr)) ?_ ⟨_, by rw [fin], rfl⟩
      unfold psW
      rw [← hza]
      simp [line_of, al, -e_addL]
  · rintro q ⟨z, rfl, hz⟩
    have fl := flat_len (b := b) (xs := List.range m)
    rw [List.length_range] at fl
    obtain ⟨acc, hacc⟩ : ∃ acc, acc = (List.range m).flatMap (rowW b) := ⟨_, rfl⟩
    rw [← hacc] at fl ⊢
    have lc := mp_eq (vs := [3]) (fi := rng1 (consM (rdV 1) (M.ret []))) (tgt := nmT 3) (elt := opM addD (opM addD (callM fn_letters (consM (rdV 0) (M.ret []))) (rdV 3)) (kst (.int 1))) (ps := psW B L acc z dr) (ps1 := psW B L acc z dr) (fun k : Nat => .int (k : Int)) (List.range L) (by simp [psW, hbL, rgD_nat]; rfl) (by simp; omega) (fun k => .int (letI' b (m : Int) + (k : Int) + 1)) (fun k _ => ⟨psW B L acc (.fr (.int (k : Int))) dr, psW B L acc (.fr (.int (k : Int))) dr, by simp [psW], by simp [psW, lt], by simp [psW]⟩)
    have el : ((List.range L).map fun k : Nat => PyData.int (letI' b (m : Int) + (k : Int) + 1)) = zL ((List.range L).map fun k : Nat => letI' b (m : Int) + (k : Int) + 1) := by unfold zL; rw [List.map_map]; rfl
    rw [el] at lc
    have al : addD (.list (zL acc)) (.list (zL ((List.range L).map fun k : Nat => letI' b (m : Int) + (k : Int) + 1))) = some (.nw (zL (wdI b m L))) := by
      rw [zaddL (by simp; omega)]
      unfold wdI
      rw [hacc]
    obtain ⟨Z1, hZ1⟩ : ∃ Z, Z = zL ((List.range L).map fun k : Nat => letI' b (m : Int) + (k : Int) + 1) := ⟨_, rfl⟩
    rw [← hZ1] at lc al
    obtain ⟨Z2, hZ2⟩ : ∃ Z, Z = zL acc := ⟨_, rfl⟩
    unfold psW at lc ⊢
    rw [← hZ2] at al lc ⊢
    exact w_det (o := .rt (.im (.tuple (zL (wdI b m L)))) ⟨[.fr B, .fr (.int (L : Int)), .ow Z2, z], dr⟩) (by simp [-e_lc, lc, al, -e_addL, hz]) ⟨rfl, rfl⟩
end
end LK

/-! the law's own word; Euler numbers above -/
namespace LK
open PySem PySem.Spec PyProof.Rows L2 MP
section
variable {dr : Dr} {w s : Str} {m : Nat} {L : Nat} {b : Bool} {n : Int} {kinds : List (List Int)}
theorem law_word_ok (hw : okS w) (hb : decide (w = ("N" : Str)) = b) (hm : m ≤ 24) (hL : L ≤ 8) : fn_law_word [.tuple [.str w, .int (m : Int)], .int (L : Int)] dr = some (.nw (zL (wdI b m L)), dr) := by
  have e1 := qe_str hw (okS.lit "N")
  rw [hb] at e1
  have lt := fun dr => law_letters_ok (dr := dr) (m := (m : Int)) hw hb
  have b0 : ixD (.tuple [.str w, .int (m : Int)]) (.int 0) = some (.im (.str w)) := rfl
  have b1 : ixD (.tuple [.str w, .int (m : Int)]) (.int 1) = some (.im (.int (m : Int))) := rfl
  obtain ⟨B, hB⟩ : ∃ B : Dat, B = .tuple [.str w, .int (m : Int)] := ⟨_, rfl⟩
  rw [← hB] at b0 b1 lt ⊢
  have hbm := b62_nat (n := m) (by omega)
  have hbL := b62_nat (n := L) (by omega)
  refine cv_det (c_body (w_nx (ps1 := psW B L [] .un dr) (by simp [psW, line_of]; rfl) ?_))
  refine w_seq (w_for (fun k : Nat => .int (k : Int)) (List.range m) (ps1 := psW B L [] .un dr) (by simp [psW, b1, hbm, rgD_nat]; rfl) (fun pre q => ∃ z, q = psW B L (pre.flatMap (rowW b)) z dr ∧ keepSl (some z) = z) ⟨_, rfl, rfl⟩ ?_ ?_)
  · rintro pre k post q hx ⟨z, rfl, _⟩
    obtain ⟨_, hk, hpl⟩ := range_split hx
    have fl := flat_len (b := b) (xs := pre)
    obtain ⟨acc, hacc⟩ : ∃ acc, acc = pre.flatMap (rowW b) := ⟨_, rfl⟩
    rw [← hacc] at fl ⊢
    refine ⟨psW B L acc (.fr (.int (k : Int))) dr, rfl, w_ite (t_det (k := b) (ps1 := psW B L acc (.fr (.int (k : Int))) dr) (by simp [psW, b0, e1]) ?_)⟩
    have al : addD (.list (zL acc)) (.list (zL (rowW b k))) = some (.nw (zL (acc ++ rowW b k))) := zaddL (by have : (rowW b k).length ≤ 4 := (by unfold rowW; cases b <;> simp); omega)
    have fin : acc ++ rowW b k = (pre ++ [k]).flatMap (rowW b) := by rw [List.flatMap_append, ← hacc]; simp
    obtain ⟨za, hza⟩ : ∃ z, z = zL acc := ⟨_, rfl⟩
    cases b with
    | true =>
      rw [if_pos rfl]
      have al : addD (.list za) (.list [.int (2 * (k : Int) + 1), .int (2 * (k : Int) + 2), .int (-(2 * (k : Int) + 1)), .int (-(2 * (k : Int) + 2))]) = some (.nw (zL (acc ++ rowW true k))) := by rw [hza]; exact al
      refine w_det (o := .nx (psW B L (acc ++ rowW true k) (.fr (.int (k : Int))) dr)) ?_ ⟨_, by rw [fin], rfl⟩
      unfold psW
      rw [← hza]
      simp [mu2, line_of, al, -e_addL, -Int.neg_add]
    | false =>
      rw [if_neg (by decide)]
      have al : addD (.list za) (.list [.int ((k : Int) + 1), .int ((k : Int) + 1)]) = some (.nw (zL (acc ++ rowW false k))) := by rw [hza]; exact al
      refine w_det (o := .nx (psW B L (acc ++ rowW false k) (.fr (.int (k : Int))) dr)) ?_ ⟨_, by rw [fin], rfl⟩
      unfold psW
      rw [← hza]
      simp [line_of, al, -e_addL]
  · rintro q ⟨z, rfl, hz⟩
    have fl := flat_len (b := b) (xs := List.range m)
    rw [List.length_range] at fl
    obtain ⟨acc, hacc⟩ : ∃ acc, acc = (List.range m).flatMap (rowW b) := ⟨_, rfl⟩
    rw [← hacc] at fl ⊢
    have lc := mp_eq (vs := [3]) (fi := rng1 (consM (rdV 1) (M.ret []))) (tgt := nmT 3) (elt := opM addD (opM addD (callM fn_law_letters (consM (rdV 0) (M.ret []))) (rdV 3)) (kst (.int 1))) (ps := psW B L acc z dr) (ps1 := psW B L acc z dr) (fun k : Nat => .int (k : Int)) (List.range L) (by simp [psW, hbL, rgD_nat]; rfl) (by simp; omega) (fun k => .int (letI' b (m : Int) + (k : Int) + 1)) (fun k _ => ⟨psW B L acc (.fr (.int (k : Int))) dr, psW B L acc (.fr (.int (k : Int))) dr, by simp [psW], by simp [psW, lt], by simp [psW]⟩)
    have el : ((List.range L).map fun k : Nat => PyData.int (letI' b (m : Int) + (k : Int) + 1)) = zL ((List.range L).map fun k : Nat => letI' b (m : Int) + (k : Int) + 1) := by unfold zL; rw [List.map_map]; rfl
    rw [el] at lc
    have al : addD (.list (zL acc)) (.list (zL ((List.range L).map fun k : Nat => letI' b (m : Int) + (k : Int) + 1))) = some (.nw (zL (wdI b m L))) := by
      rw [zaddL (by simp; omega)]
      unfold wdI
      rw [hacc]
    obtain ⟨Z1, hZ1⟩ : ∃ Z, Z = zL ((List.range L).map fun k : Nat => letI' b (m : Int) + (k : Int) + 1) := ⟨_, rfl⟩
    rw [← hZ1] at lc al
    obtain ⟨Z2, hZ2⟩ : ∃ Z, Z = zL acc := ⟨_, rfl⟩
    unfold psW at lc ⊢
    rw [← hZ2] at al lc ⊢
    exact w_det (o := .rt (.nw (zL (wdI b m L))) ⟨[.fr B, .fr (.int (L : Int)), .ow Z2, z], dr⟩) (by simp [-e_lc, lc, al, -e_addL, hz]) ⟨rfl, rfl⟩
theorem defect_ok {r : List Int} : fn_kind_defect [.tuple (zL r)] dr = some (.im (.int (r.sum - (r.length : Int))), dr) := by
  have sm := zsum (r := r)
  have ln := zl_len (r := r)
  obtain ⟨Z, hZ⟩ : ∃ Z, Z = zL r := ⟨_, rfl⟩
  rw [← hZ] at sm ln ⊢
  obtain ⟨S, hS⟩ : ∃ S, S = r.sum := ⟨_, rfl⟩
  obtain ⟨LL, hLL⟩ : ∃ S : Int, S = (r.length : Int) := ⟨_, rfl⟩
  rw [← hS] at sm ⊢
  rw [← hLL] at ln ⊢
  refine cv_det (c_body (w_det (o := .rt (.im (.int (S - LL))) ⟨[.fr (.tuple Z)], dr⟩) ?_ ⟨rfl, rfl⟩))
  unfold b_kind_defect
  simp [-e_lenT, sm, ln]
def abI (b : Bool) (m n : Int) (kinds : List (List Int)) : Int := n * eulI b m - (kinds.map fun r => n - (r.length : Int)).sum
theorem above_ok (G : Good w m n kinds s) (hb : decide (w = ("N" : Str)) = b) : fn_euler_above [dD w m n kinds s] dr = some (.im (.int (abI b m n kinds)), dr) := by
  have hw := G.okw
  have hm := G.many
  have eu := fun dr => euler_ok (dr := dr) (m := (m : Int)) hw hb
  have n1 := G.n1
  have n60 := G.n60
  have mu : mulD (.int n) (.int (eulI b m)) = some (.im (.int (n * eulI b m))) := MP.mul_int (.inl (by omega))
  have k : ∀ r ∈ kinds, fn_kind_defect [.tuple (zL r)] dr = some (.im (.int (n - (r.length : Int))), dr) := fun r hr => by rw [defect_ok, (G.ks r hr).sum]
  obtain ⟨B, hB⟩ : ∃ B : Dat, B = .tuple [.str w, .int (m : Int)] := ⟨_, rfl⟩
  rw [← hB] at eu
  obtain ⟨K, hK⟩ : ∃ K, K = rowsD kinds := ⟨_, rfl⟩
  obtain ⟨D, hD⟩ : ∃ D : Dat, D = .tuple [B, .int n, .tuple K, .str s] := ⟨_, rfl⟩
  have hD' : dD w m n kinds s = D := by rw [hD, hB, hK]; rfl
  rw [hD']
  have lc := mp_eq (vs := [5]) (fi := seqIt (rdV 3)) (tgt := nmT 5) (elt := callM fn_kind_defect (consM (rdV 5) (M.ret []))) (ps := ⟨[.fr D, .fr B, .fr (.int n), .fr (.tuple K), .fr (.str s), .un], dr⟩) (ps1 := ⟨[.fr D, .fr B, .fr (.int n), .fr (.tuple K), .fr (.str s), .un], dr⟩) (fun r : List Int => .tuple (zL r)) kinds (by rw [hK]; simp [rowsD]) (by omega) (fun r => .int (n - (r.length : Int))) (fun r hr => ⟨⟨[.fr D, .fr B, .fr (.int n), .fr (.tuple K), .fr (.str s), .fr (.tuple (zL r))], dr⟩, ⟨[.fr D, .fr B, .fr (.int n), .fr (.tuple K), .fr (.str s), .fr (.tuple (zL r))], dr⟩, by simp, by simp [k r hr], by simp⟩)
  have el : (kinds.map fun r => PyData.int (n - (r.length : Int))) = zL (kinds.map fun r => n - (r.length : Int)) := by unfold zL; rw [List.map_map]; rfl
  rw [el] at lc
  have sm : sumAD (.list (zL (kinds.map fun r => n - (r.length : Int)))) = some (.im (.int (kinds.map fun r => n - (r.length : Int)).sum)) := by
    show (ints? (zL _)).bind _ = _
    rw [ints_zL]
    rfl
  obtain ⟨Z, hZ⟩ : ∃ Z, Z = zL (kinds.map fun r => n - (r.length : Int)) := ⟨_, rfl⟩
  rw [← hZ] at lc sm
  obtain ⟨S, hS⟩ : ∃ S, S = (kinds.map fun r => n - (r.length : Int)).sum := ⟨_, rfl⟩
  rw [← hS] at sm
  unfold abI
  rw [← hS]
  obtain ⟨EU, hEU⟩ : ∃ EU, EU = eulI b m := ⟨_, rfl⟩
  rw [← hEU] at eu mu ⊢
  refine cv_det (c_body (w_nx (ps1 := ⟨[.fr D, .fr B, .fr (.int n), .fr (.tuple K), .fr (.str s), .un], dr⟩) (by rw [hD]; simp) ?_))
  exact w_det (o := .rt (.im (.int (n * EU - S))) ⟨[.fr D, .fr B, .fr (.int n), .fr (.tuple K), .fr (.str s), .un], dr⟩) (by simp [-e_lc, lc, eu, mu, sm]) ⟨rfl, rfl⟩
end
end LK

/-! the law -/
namespace LK
open PySem PySem.Spec PyProof.Rows L2 MP
def psN (z2 z3 z4 z5 z6 z7 z8 z9 z10 z11 z12 : Sl) (d : Dr) : PS := ⟨[.un, .fr (.dict []), z2, z3, z4, z5, z6, z7, z8, z9, z10, z11, z12], d⟩
section
variable {d : Dr}
theorem st_base (hA : isA d) : ∃ (w : Str) (m : Nat) (d1 : Dr), isA d1 ∧ ((w = ("N" : Str) ∧ m ≤ 12) ∨ (w = ("M" : Str) ∧ 1 ≤ m ∧ m ≤ 24)) ∧
    setM 2 (ifM (tstM (opM eqD (callM fn_law_draw (consM (rdV 1) (consM (kst (.int 2)) (M.ret [])))) (kst (.int 0)))) (tupM (consM (kst (.str ("N" : Str))) (consM (callM fn_law_draw (consM (rdV 1) (consM (kst (.int 13)) (M.ret [])))) (M.ret [])))) (tupM (consM (kst (.str ("M" : Str))) (consM (opM addD (kst (.int 1)) (callM fn_law_draw (consM (rdV 1) (consM (kst (.int 24)) (M.ret []))))) (M.ret [])))))
      (psN .un .un .un .un .un .un .un .un .un .un .un d) = some (.nx (psN (.fr (.tuple [.str w, .int (m : Int)])) .un .un .un .un .un .un .un .un .un .un d1)) := by
  have l2 : line 2 = true := rfl
  obtain ⟨r, d1, e1, hr, hA1⟩ := draw_ok (m := 2) hA (by decide) (by decide)
  have e1 : drawA [.dict [], .int 2] d = _ := e1
  by_cases h : r = 0
  · subst h
    obtain ⟨r2, d2, e2, hr2, hA2⟩ := draw_ok (m := 13) hA1 (by decide) (by decide)
    have e2 : drawA [.dict [], .int 13] d1 = _ := e2
    exact ⟨("N" : Str), r2, d2, hA2, .inl ⟨rfl, by omega⟩, by simp [psN, fn_law_draw, e1, e2, l2, qe_int]⟩
  · obtain ⟨r2, d2, e2, hr2, hA2⟩ := draw_ok (m := 24) hA1 (by decide) (by decide)
    have e2 : drawA [.dict [], .int 24] d1 = _ := e2
    have c : (1 : Int) + (r2 : Int) = ((1 + r2 : Nat) : Int) := by omega
    have h' : ¬ ((r : Int) = 0) := by omega
    exact ⟨("M" : Str), 1 + r2, d2, hA2, .inr ⟨rfl, by omega, by omega⟩, by simp [-Int.natCast_add, psN, fn_law_draw, e1, e2, l2, qe_int, h, c]⟩
theorem st_n {z2 : Sl} (hA : isA d) : ∃ (n : Nat) (d1 : Dr), isA d1 ∧ 1 ≤ n ∧ n ≤ 60 ∧
    setM 3 (opM addD (kst (.int 1)) (callM fn_law_draw (consM (rdV 1) (consM (opM ixD (lstM (consM (kst (.int 6)) (consM (kst (.int 60)) (M.ret [])))) (callM fn_law_draw (consM (rdV 1) (consM (kst (.int 2)) (M.ret []))))) (M.ret [])))))
      (psN z2 .un .un .un .un .un .un .un .un .un .un d) = some (.nx (psN z2 (.fr (.int (n : Int))) .un .un .un .un .un .un .un .un .un d1)) := by
  obtain ⟨r, d1, e1, hr, hA1⟩ := draw_ok (m := 2) hA (by decide) (by decide)
  have e1 : drawA [.dict [], .int 2] d = _ := e1
  have pk : ∃ v : Nat, 0 < v ∧ v ≤ 60 ∧ atI [PyData.int 6, PyData.int 60] (r : Int) = some (.int (v : Int)) := by
    match r, hr with
    | 0, _ => exact ⟨6, by decide, by decide, rfl⟩
    | 1, _ => exact ⟨60, by decide, by decide, rfl⟩
  obtain ⟨v, v0, v60, ev⟩ := pk
  obtain ⟨r2, d2, e2, hr2, hA2⟩ := draw_ok (m := v) hA1 v0 (by omega)
  have c : (1 : Int) + (r2 : Int) = ((1 + r2 : Nat) : Int) := by omega
  exact ⟨1 + r2, d2, hA2, by omega, by omega, by simp [-Int.natCast_add, psN, fn_law_draw, e1, e2, ev, c, line_of]⟩
theorem gk_of {n : Nat} {ps : List Nat} (h : Kind n ps) (hd : ps.Pairwise (· ≥ ·)) : GK (n : Int) (ps.map fun (k : Nat) => (k : Int)) := by
  refine ⟨fun x hx => ?_, ?_, List.pairwise_map.mpr (hd.imp fun {a b} h => by omega)⟩
  · obtain ⟨k, hk, rfl⟩ := List.mem_map.mp hx
    have := h.1 k hk
    omega
  · rw [← h.2]
    clear h hd
    induction ps with
    | nil => rfl
    | cons x xs ih => rw [List.map_cons, List.sum_cons, List.sum_cons, ih]; omega
theorem w_kinds {z2 : Sl} {n : Nat} {Q : SOut → Prop} (h2 : keepSl (some z2) = z2) (hA : isA d) (hn : n ≤ 60) (fin : ∀ (kinds : List (List Int)) (d1 : Dr), isA d1 → kinds.length ≤ 8 → (∀ r ∈ kinds, GK (n : Int) r) → Q (.nx (psN z2 (.fr (.int (n : Int))) (.fr (.tuple (rowsD kinds))) .un .un .un .un .un .un .un .un d1))) :
    W (setM 4 (unM tupleD (lcM [11] (rng1 (consM (callM fn_law_draw (consM (rdV 1) (consM (kst (.int 9)) (M.ret [])))) (M.ret []))) (nmT 11) (M.ret true) (callM fn_law_draw_kind (consM (rdV 1) (consM (rdV 3) (M.ret []))))))) (psN z2 (.fr (.int (n : Int))) .un .un .un .un .un .un .un .un .un d) Q := by
  obtain ⟨L, d1, e1, hL, hA1⟩ := draw_ok (m := 9) hA (by decide) (by decide)
  have e1 : drawA [.dict [], .int 9] d = _ := e1
  have hb := b62_nat (n := L) (by omega)
  refine w_set (v_un (v_lc (fun k : Nat => .int (k : Int)) (List.range L) (ps1 := psN z2 (.fr (.int (n : Int))) .un .un .un .un .un .un .un .un .un d1) (by simp [psN, fn_law_draw, e1, hb, rgD_nat]; rfl) (by simp; omega)
    (fun pre acc q => ∃ (kinds : List (List Int)) (d2 : Dr), acc = rowsD kinds ∧ q = psN z2 (.fr (.int (n : Int))) .un .un .un .un .un .un .un .un .un d2 ∧ isA d2 ∧ kinds.length = pre.length ∧ ∀ r ∈ kinds, GK (n : Int) r) ⟨[], d1, rfl, by simp [psN, h2], hA1, rfl, fun r hr => by cases hr⟩ ?_ ?_))
  · rintro pre k post acc q hx ⟨kinds, d2, rfl, rfl, hA2, hl, hk⟩
    obtain ⟨_, d3, e3, hA3, parts, rfl, hp, hd⟩ := draw_kind_ok (n := n) hn hA2
    refine ⟨psN z2 (.fr (.int (n : Int))) .un .un .un .un .un .un .un (.fr (.int (k : Int))) .un d2, rfl, t_det (k := true) rfl ⟨(fun z => by cases z), fun _ => ⟨.tuple (nL parts), psN z2 (.fr (.int (n : Int))) .un .un .un .un .un .un .un (.fr (.int (k : Int))) .un d3, by simp [psN, e3], kinds ++ [parts.map fun (k : Nat) => (k : Int)], d3, ?_, by simp [psN, h2], hA3, by simp [hl], fun r hr => ?_⟩⟩⟩
    · unfold rowsD
      rw [List.map_append]
      show _ = _ ++ [PyData.tuple (zL (parts.map fun (k : Nat) => (k : Int)))]
      rw [← nL_z]
    · rcases List.mem_append.mp hr with hr | hr
      · exact hk r hr
      · rw [List.mem_singleton.mp hr]
        exact gk_of hp hd
  · rintro acc q ⟨kinds, d2, rfl, rfl, hA2, hl, hk⟩
    refine ⟨.list (rowsD kinds), rfl, .im (.tuple (rowsD kinds)), rfl, psN z2 (.fr (.int (n : Int))) (.fr (.tuple (rowsD kinds))) .un .un .un .un .un .un .un .un d2, by simp [psN, h2], fin kinds d2 hA2 ?_ hk⟩
    rw [List.length_range] at hl
    omega
end
end LK

/-! the law, joined -/
namespace LK
open PySem PySem.Spec PyProof.Rows L2 MP
theorem shd_tD {V : Option (Str × Int)} (h : ∀ s k, V = some (s, k) → okS s) : shd 1 (tD V) := by
  cases V with
  | none => exact shd_tuple (n := 0) fun d hd => by cases hd
  | some p =>
    obtain ⟨s, k⟩ := p
    refine shd_tuple (n := 0) fun d hd => ?_
    rcases List.mem_cons.mp hd with rfl | hd
    · exact shd_str (h _ _ rfl)
    · rw [List.mem_singleton.mp hd]
      exact shd_int
theorem main (ns : List Int) (hl : ns.length ≤ 63) : ∃ ps, b_law ⟨(List.replicate 13 Sl.un).set 1 (.fr (.dict [])), stateA ns⟩ = some (.rt (.im (.bool true)) ps) := by
  refine law_true ?_
  obtain ⟨w, m, d1, hA1, hwm, est⟩ := st_base (d := stateA ns) isA_state
  refine w_nx est ?_
  obtain ⟨n, d2, hA2, n1, n60, est⟩ := st_n (z2 := .fr (.tuple [.str w, .int (m : Int)])) hA1
  refine w_nx est ?_
  refine w_seq (w_kinds rfl hA2 n60 fun kinds d3 hA3 hl8 hks => ?_)
  have hw : okS w := by rcases hwm with ⟨rfl, _⟩ | ⟨rfl, _⟩ <;> exact okS.lit _
  have eN := qe_str hw (okS.lit "N")
  have b0 : ixD (.tuple [.str w, .int (m : Int)]) (.int 0) = some (.im (.str w)) := rfl
  have hm24 : m ≤ 24 := by rcases hwm with ⟨_, h⟩ | ⟨_, _, h⟩ <;> omega
  obtain ⟨b, hb⟩ : ∃ b, decide (w = ("N" : Str)) = b := ⟨_, rfl⟩
  have lt := fun dr => letters_ok (dr := dr) (m := (m : Int)) hw hb
  have llt := fun dr => law_letters_ok (dr := dr) (m := (m : Int)) hw hb
  have eu := fun dr => euler_ok (dr := dr) (m := (m : Int)) hw hb
  have leu := fun dr => law_euler_ok (dr := dr) (m := (m : Int)) hw hb
  have wo := fun dr => word_ok (dr := dr) (L := kinds.length) hw hb hm24 hl8
  have lwo := fun dr => law_word_ok (dr := dr) (L := kinds.length) hw hb hm24 hl8
  have lk : lenD (.tuple (rowsD kinds)) = some (.im (.int (kinds.length : Int))) := by
    show some (RV.im (.int ((rowsD kinds).length : Int))) = _
    unfold rowsD
    rw [List.length_map]
  -- the sides
  have sides : ∃ (s : Str) (d4 : Dr), isA d4 ∧ (s = ("two" : Str) ∨ (s = ("one" : Str) ∧ w = ("M" : Str))) ∧ setM 5 (ifM (tstM (opM eqD (opM ixD (rdV 2) (kst (.int 0))) (kst (.str ("N" : Str))))) (kst (.str ("two" : Str))) (opM ixD (lstM (consM (kst (.str ("one" : Str))) (consM (kst (.str ("two" : Str))) (M.ret [])))) (callM fn_law_draw (consM (rdV 1) (consM (kst (.int 2)) (M.ret [])))))) (psN (.fr (.tuple [.str w, .int (m : Int)])) (.fr (.int (n : Int))) (.fr (.tuple (rowsD kinds))) .un .un .un .un .un .un .un .un d3) = some (.nx (psN (.fr (.tuple [.str w, .int (m : Int)])) (.fr (.int (n : Int))) (.fr (.tuple (rowsD kinds))) (.fr (.str s)) .un .un .un .un .un .un .un d4)) := by
    obtain ⟨B, hB⟩ : ∃ B : Dat, B = .tuple [.str w, .int (m : Int)] := ⟨_, rfl⟩
    obtain ⟨K, hK⟩ : ∃ B : Dat, B = .tuple (rowsD kinds) := ⟨_, rfl⟩
    rw [← hB] at b0
    rw [← hB, ← hK]
    rcases hwm with ⟨rfl, _⟩ | ⟨rfl, _⟩
    · have eN : eqD (.str ("N" : Str)) (.str ("N" : Str)) = some (.im (.bool true)) := by rw [eN]; rfl
      exact ⟨("two" : Str), d3, hA3, .inl rfl, by simp [psN, b0, eN]⟩
    · have eN : eqD (.str ("M" : Str)) (.str ("N" : Str)) = some (.im (.bool false)) := by rw [eN]; rfl
      obtain ⟨r, d4, e4, hr, hA4⟩ := draw_ok (m := 2) hA3 (by decide) (by decide)
      have e4 : drawA [.dict [], .int 2] d3 = _ := e4
      have pk : ∃ s : Str, atI [PyData.str ("one" : Str), .str ("two" : Str)] (r : Int) = some (.str s) ∧ (s = ("two" : Str) ∨ (s = ("one" : Str) ∧ ("M" : Str) = ("M" : Str))) := by
        match r, hr with
        | 0, _ => exact ⟨_, rfl, .inr ⟨rfl, rfl⟩⟩
        | 1, _ => exact ⟨_, rfl, .inl rfl⟩
      obtain ⟨s, p1, p2⟩ := pk
      exact ⟨s, d4, hA4, p2, by simp [psN, b0, eN, fn_law_draw, e4, p1, line_of]⟩
  obtain ⟨s, d4, hA4, hsd, est⟩ := sides
  refine w_nx est ?_
  have G : Good w (m : Int) (n : Int) kinds s := ⟨by
    rcases hwm with ⟨h1, h2⟩ | ⟨h1, h2, h3⟩
    · exact .inl ⟨h1, by omega, by omega⟩
    · exact .inr ⟨h1, by omega, by omega⟩, by omega, by omega, hl8, hks, hsd⟩
  have hs := G.oks
  have ab := fun dr => above_ok (dr := dr) G hb
  have to := fun dr => told_ok (dr := dr) (m := (m : Int)) (n := (n : Int)) (kinds := kinds) hw hs (by omega) (fun r hr => by have := G_ks G r hr; omega)
  rw [G.none] at to
  have bad := fun (f : Nat) (dr : Dr) (hA : isA dr) => bad_ok (f := f) (dr := dr) G hA
  have q0 : neD (.tuple []) (.tuple []) = some (.im (.bool false)) := qn_self (n := 1) (shd_tD (V := none) fun _ _ h => by cases h) (by decide)
  -- the end's numbers
  have mu : mulD (.int (n : Int)) (.int (eulI b m)) = some (.im (.int ((n : Int) * eulI b m))) := MP.mul_int (.inl (by omega))
  have lrow : ∀ r : List Int, lenD (.tuple (zL r)) = some (.im (.int (r.length : Int))) := fun r => zl_len
  have lc := fun (z7 z8 z9 z10 z11 : Sl) (d : Dr) (D : Dat) => mp_eq (vs := [12]) (fi := seqIt (rdV 4)) (tgt := nmT 12) (elt := opM subD (rdV 3) (unM lenD (rdV 12))) (ps := psN (.fr (.tuple [.str w, .int (m : Int)])) (.fr (.int (n : Int))) (.fr (.tuple (rowsD kinds))) (.fr (.str s)) (.fr D) z7 z8 z9 z10 z11 .un d) (ps1 := psN (.fr (.tuple [.str w, .int (m : Int)])) (.fr (.int (n : Int))) (.fr (.tuple (rowsD kinds))) (.fr (.str s)) (.fr D) z7 z8 z9 z10 z11 .un d) (fun r : List Int => .tuple (zL r)) kinds (by simp [psN, rowsD]) (by omega) (fun r => .int ((n : Int) - (r.length : Int))) (fun r _ => ⟨psN (.fr (.tuple [.str w, .int (m : Int)])) (.fr (.int (n : Int))) (.fr (.tuple (rowsD kinds))) (.fr (.str s)) (.fr D) z7 z8 z9 z10 z11 (.fr (.tuple (zL r))) d, psN (.fr (.tuple [.str w, .int (m : Int)])) (.fr (.int (n : Int))) (.fr (.tuple (rowsD kinds))) (.fr (.str s)) (.fr D) z7 z8 z9 z10 z11 (.fr (.tuple (zL r))) d, by simp [psN], by have := lrow r; simp [psN, -e_lenT, this], by simp [psN]⟩)
  have el : (kinds.map fun r => PyData.int ((n : Int) - (r.length : Int))) = zL (kinds.map fun r => (n : Int) - (r.length : Int)) := by unfold zL; rw [List.map_map]; rfl
  rw [el] at lc
  have sm : sumAD (.list (zL (kinds.map fun r => (n : Int) - (r.length : Int)))) = some (.im (.int (kinds.map fun r => (n : Int) - (r.length : Int)).sum)) := by
    show (ints? (zL _)).bind _ = _
    rw [ints_zL]
    rfl
  have weq : neD (.tuple (zL (wdI b m kinds.length))) (.tuple (zL (wdI b m kinds.length))) = some (.im (.bool false)) := by rw [zneT]; simp
  obtain ⟨W1, hW1⟩ : ∃ W1, W1 = zL (wdI b m kinds.length) := ⟨_, rfl⟩
  rw [← hW1] at wo lwo weq
  have hab : ∀ dr, fn_euler_above [dD w (m : Int) (n : Int) kinds s] dr = some (.im (.int ((n : Int) * eulI b m - (kinds.map fun r => (n : Int) - (r.length : Int)).sum)), dr) := ab
  obtain ⟨S, hS⟩ : ∃ S, S = (kinds.map fun r => (n : Int) - (r.length : Int)).sum := ⟨_, rfl⟩
  obtain ⟨Z, hZ⟩ : ∃ Z, Z = zL (kinds.map fun r => (n : Int) - (r.length : Int)) := ⟨_, rfl⟩
  rw [← hZ] at lc sm
  rw [← hS] at sm hab
  obtain ⟨LK', hLK⟩ : ∃ L : Int, L = (kinds.length : Int) := ⟨_, rfl⟩
  rw [← hLK] at wo lwo lk
  have hB0 : dD w (m : Int) (n : Int) kinds s = .tuple [.tuple [.str w, .int (m : Int)], .int (n : Int), .tuple (rowsD kinds), .str s] := rfl
  obtain ⟨D, hD⟩ : ∃ D, D = dD w (m : Int) (n : Int) kinds s := ⟨_, rfl⟩
  rw [← hD] at hB0 hab to bad
  obtain ⟨B, hB⟩ : ∃ B : Dat, B = .tuple [.str w, .int (m : Int)] := ⟨_, rfl⟩
  obtain ⟨K, hK⟩ : ∃ K, K = rowsD kinds := ⟨_, rfl⟩
  rw [← hB, ← hK] at hB0
  rw [← hB] at b0 lt llt eu leu wo lwo lc
  rw [← hK] at lk lc
  rw [← hB, ← hK]
  obtain ⟨EU, hEU⟩ : ∃ e, e = eulI b (m : Int) := ⟨_, rfl⟩
  rw [← hEU] at eu leu mu hab
  refine w_nx (ps1 := psN (.fr B) (.fr (.int (n : Int))) (.fr (.tuple K)) (.fr (.str s)) (.fr D) .un .un .un .un .un .un d4) (by rw [hB0]; simp [psN, line_of]) ?_
  have to : ∀ dr, fn_law_told [D] dr = some (.im (.tuple []), dr) := to
  refine w_out (k := false) (ps1 := psN (.fr B) (.fr (.int (n : Int))) (.fr (.tuple K)) (.fr (.str s)) (.fr D) .un .un .un .un .un .un d4) (by simp [psN, to, q0, line_of]) (fun z => by cases z) fun _ => ?_
  have hb5 : b62 5 = true := by decide
  have hr5 : rgD 0 5 = [0, 1, 2, 3, 4].map (fun k : Nat => PyData.int (k : Int)) := rfl
  refine w_seq (w_for (fun k : Nat => .int (k : Int)) [0, 1, 2, 3, 4] (ps1 := psN (.fr B) (.fr (.int (n : Int))) (.fr (.tuple K)) (.fr (.str s)) (.fr D) .un .un .un .un .un .un d4) (by simp [psN, hb5, hr5]) (fun pre q => ∃ z7 z8 z9 d, q = psN (.fr B) (.fr (.int (n : Int))) (.fr (.tuple K)) (.fr (.str s)) (.fr D) z7 z8 z9 .un .un .un d ∧ isA d ∧ keepSl (some z7) = z7 ∧ keepSl (some z8) = z8 ∧ keepSl (some z9) = z9) ⟨_, _, _, _, rfl, hA4, rfl, rfl, rfl⟩ ?_ ?_)
  · rintro pre f post q hx ⟨z7, z8, z9, d, rfl, hA, _, _, _⟩
    refine ⟨psN (.fr B) (.fr (.int (n : Int))) (.fr (.tuple K)) (.fr (.str s)) (.fr D) (.fr (.int (f : Int))) z8 z9 .un .un .un d, rfl, ?_⟩
    obtain ⟨_, d5, e5, hA5, w', m', n', kinds', s', x, k, rfl, hw', hs', hx', hl', hr', hv, hv2⟩ := bad f d hA
    have t1 := fun dr => told_ok (dr := dr) (m := m') (n := n') (kinds := kinds') hw' hs' (by omega) (fun r hr => by have := hr' r hr; omega)
    have t2 := fun dr => told_ok (dr := dr) (m := m') (n := n') (kinds := kinds') hw' (okS.lit "none") (by omega) (fun r hr => by have := hr' r hr; omega)
    rw [hv] at t1
    have t1 : ∀ dr, fn_law_told [dD w' m' n' kinds' s'] dr = some (.im (.tuple [.str x, .int k]), dr) := t1
    have nq : neD (.tuple [.str x, .int k]) (.tuple [.str x, .int k]) = some (.im (.bool false)) := qn_self (n := 1) (shd_tD (V := some (x, k)) fun _ _ h => by cases h; exact hx') (by decide)
    have x0 : ixD (.tuple [.str x, .int k]) (.int 0) = some (.im (.str x)) := rfl
    have nx' := qn_str hx' (okS.lit "sides")
    have s3 : slD (dD w' m' n' kinds' s') none (some 3) = some (.im (.tuple [.tuple [.str w', .int m'], .int n', .tuple (rowsD kinds')])) := by
      have : (3 : Int) = ((3 : Nat) : Int) := rfl
      unfold dD
      rw [this, e_slT, cut0]
      rfl
    have a3 : addD (.tuple [.tuple [.str w', .int m'], .int n', .tuple (rowsD kinds')]) (.tuple [.str ("none" : Str)]) = some (.im (dD w' m' n' kinds' ("none" : Str))) := by
      rw [e_addT, if_pos (line_of (by simp))]
      rfl
    obtain ⟨P3, hP3⟩ : ∃ P : Dat, P = .tuple [.tuple [.str w', .int m'], .int n', .tuple (rowsD kinds')] := ⟨_, rfl⟩
    rw [← hP3] at s3 a3
    have e5 : fn_law_bad [.dict [], D, .int (f : Int)] d = _ := e5
    obtain ⟨D2, hD2⟩ : ∃ D2, D2 = dD w' m' n' kinds' s' := ⟨_, rfl⟩
    obtain ⟨D3, hD3⟩ : ∃ D2, D2 = dD w' m' n' kinds' ("none" : Str) := ⟨_, rfl⟩
    obtain ⟨DU, hDU⟩ : ∃ D2 : Dat, D2 = .tuple [.str x, .int k] := ⟨_, rfl⟩
    have t3 : x ≠ ("sides" : Str) → ∀ dr, fn_law_told [D3] dr = some (.im DU, dr) := fun hne dr => by
      have := t2 dr
      rw [hv2 hne] at this
      rw [hD3, this, hDU]
      rfl
    rw [← hD2, ← hDU] at e5 t1
    rw [← hDU] at nq x0
    rw [← hD2] at s3
    rw [← hD3] at a3
    refine w_nx (ps1 := psN (.fr B) (.fr (.int (n : Int))) (.fr (.tuple K)) (.fr (.str s)) (.fr D) (.fr (.int (f : Int))) (.fr D2) (.fr DU) .un .un .un d5) (by simp [psN, e5]) ?_
    refine w_out (k := false) (ps1 := psN (.fr B) (.fr (.int (n : Int))) (.fr (.tuple K)) (.fr (.str s)) (.fr D) (.fr (.int (f : Int))) (.fr D2) (.fr DU) .un .un .un d5) (by simp [psN, t1, nq]) (fun z => by cases z) fun _ => ?_
    refine w_ite (t_det (k := false) (ps1 := psN (.fr B) (.fr (.int (n : Int))) (.fr (.tuple K)) (.fr (.str s)) (.fr D) (.fr (.int (f : Int))) (.fr D2) (.fr DU) .un .un .un d5) ?_ ?_)
    · by_cases hne : x = ("sides" : Str)
      · rw [decide_eq_true hne] at nx'
        simp [psN, x0, nx']
      · rw [decide_eq_false hne] at nx'
        have t3 := t3 hne
        simp [psN, x0, nx', s3, a3, t3, nq, -e_addT, -e_slT, line_of]
    · rw [if_neg (by decide)]
      exact w_det (o := .nx _) rfl ⟨_, _, _, _, rfl, hA5, rfl, rfl, rfl⟩
  · rintro q ⟨z7, z8, z9, d, rfl, hA, k7, k8, k9⟩
    have lc := lc z7 z8 z9 (.fr (.tuple W1)) .un d D
    refine w_out (k := false) (ps1 := psN (.fr B) (.fr (.int (n : Int))) (.fr (.tuple K)) (.fr (.str s)) (.fr D) z7 z8 z9 .un .un .un d) (by simp [psN, eu, leu, lt, llt, qn_int]) (fun z => by cases z) fun _ => ?_
    refine w_nx (ps1 := psN (.fr B) (.fr (.int (n : Int))) (.fr (.tuple K)) (.fr (.str s)) (.fr D) z7 z8 z9 (.fr (.tuple W1)) .un .un d) (by simp [psN, -e_lenT, lk, wo]) ?_
    refine w_out (k := false) (ps1 := psN (.fr B) (.fr (.int (n : Int))) (.fr (.tuple K)) (.fr (.str s)) (.fr D) z7 z8 z9 (.fr (.tuple W1)) .un .un d) (by simp [psN, -e_lenT, lk, lwo, weq, isiD, tyD, isTy]) (fun z => by cases z) fun _ => ?_
    refine w_det (o := .rt (.im (.bool true)) (psN (.fr B) (.fr (.int (n : Int))) (.fr (.tuple K)) (.fr (.str s)) (.fr D) z7 z8 z9 (.fr (.tuple W1)) .un .un d)) ?_ rfl
    unfold psN at lc ⊢
    simp [hab, leu, mu, lc, -e_lc, sm, qe_int, k7, k8, k9]
end LK

namespace LK
open PySem PySem.Spec PyProof.Rows L2 MP
local instance (priority := high) tbsK : Tbs := ⟨fun K => tf.map fun p => (He.cT K p).2⟩
/-! ### the walk -/
section
variable {P : Program} {w : World} {K : Fg} {mg : Str → Option Value} {base : Heap}
variable [TabsB base mg K]
variable [ExcB P mg K "DatumError"]
variable [ExcI P mg K "DatumError" "SheetError"]
theorem G_law_state (T : Txt K mg) : FnOk P w K mg base CX0 1 T.a_law_state T.d_law_state ["script"] (spState K) := by
  refine T.F_law_state.ok sc_law_state (fun vs H Q E h => ?_) (fun cdv A outer s H vs Q E hr h => ?_)
  · obtain ⟨a, ns, rfl, _⟩ := h
    rfl
  obtain ⟨a, ns, rfl, hS, hlen, q⟩ := h
  refine ⟨_, pss_cons (ps_set (i := 1) sc_law_state.nd rfl (.inl rfl) pe_int)
    (pss_cons (ps_for PassesOwn.never rfl (pi_list (pv 0)) (pg_name (i := 2) sc_law_state.nd rfl (.inl rfl))
      (pss_one (ps_set (i := 1) sc_law_state.nd rfl (.inl rfl) (pe_op op_modN (pe_callTy call_int1 (by rfl) T.z_int (by decide +kernel) (pa_cons (pe_op op_add (pe_op op_mul (pv 1) pe_int) (pv 2)) pa_nil)) pe_int))))
    (pss_one (ps_ret (pe_lst (pa_cons (pe_lc (own := [("cell", 2)]) (g := gName 2) (tt := tYes) rfl sc_law_state.nd (pi_list (pv 0)) (blkOk_by (N := ["script", "seed", "cell"]) (sc := defScope s_law_state) (by decide +kernel))
      (fun _ _ _ _ _ => pg_name (i := 2) sc_law_state.nd rfl (Or.inl rfl)) (fun _ _ _ _ _ => pts_nil) (fun _ _ _ _ _ => pe_callB call_abs (by rfl) T.z_abs (by decide +kernel) (pa_cons (pv 2) pa_nil)))
      (pa_cons (pe_op op_add (pv 1) pe_int) pa_nil)))))), ?_⟩
  refine ⟨_, rfl, a, rfl, ⟨_, hS⟩, for_list (K := K) (a := a) (xs := ns.map V.int) (fun i σ H' => H' = H ∧ ∃ y, σ = [some (.ref a), some (.int (seedA (ns.take i) 7)), y]) ⟨rfl, _, rfl⟩ (fun i σ H' _ h => by rw [h.1]; exact hS) ?_ ?_⟩
  · rintro i x σ H' hi ⟨rfl, y, rfl⟩
    obtain ⟨c, hc, rfl⟩ := mapInt_get hi
    refine ⟨_, rfl, _, _, rfl, rfl, .inr ⟨by decide, by decide⟩, _, rfl, _, _, rfl, rfl, .inl ⟨_, rfl, _, _, rfl, rfl, by show (1000003 : Int) ≠ 0; decide, rfl, some (.int c), ?_⟩⟩
    rw [take_snoc hc, seedA_snoc]
    rfl
  · rintro σ H' ⟨rfl, y, rfl⟩
    have et : ns.take (ns.map V.int).length = ns := by rw [List.length_map, List.take_length]
    rw [et]
    refine ⟨_, rfl, a, rfl, ⟨_, hS⟩, fun D hD => lc_list (K := K) (a := a) (xs := ns.map V.int) (fun i H2 => Same H' H2 ∧ H2 D = some (.lst (((ns.take i).map fun c => if c < 0 then -c else c).map V.int))) ⟨same_upd hD, upd_same⟩ (fun i H2 _ h => h.1.seq hS) ?_ ?_⟩
    · rintro i x H2 hi ⟨sm, hD2⟩
      obtain ⟨c, hc, rfl⟩ := mapInt_get hi
      refine ⟨rfl, ?_⟩
      unfold tYes
      dsimp only
      rw [if_pos rfl]
      refine ⟨_, rfl, _, rfl, _, hD2, ?_, fun b o z => ?_, ?_⟩
      · rw [List.length_map, List.length_map, List.length_take]
        have : (63 : Nat) < sizeLine := by decide
        omega
      · rw [upd_ne (ne_of_none z hD)]
        exact sm _ _ z
      · rw [upd_same, take_snoc hc, List.map_append, List.map_append]
        rfl
    · rintro H2 ⟨sm, hD2⟩
      rw [et] at hD2
      refine ⟨_, rfl, _, _, rfl, rfl, by show 2 ≤ sizeLine; decide, fun p hp => q p D _ (sm.trans (same_upd hp)) ⟨?_, upd_same, ?_⟩⟩
      · rintro rfl
        rw [hD2] at hp
        cases hp
      · rw [upd_ne (ne_of_none hD2 hp)]
        exact hD2

theorem G_law_draw (T : Txt K mg) : FnOk P w K mg base CX0 1 T.a_law_draw T.d_law_draw ["state", "many"] (spM K 2 fn_law_draw) := by
  refine T.F_law_draw.ok sc_law_draw (fun vs H Q E h => ?_) (fun cdv A outer s H vs Q E hr h => ?_)
  · obtain ⟨G, F0, dr, dr', ds, r, hl, _⟩ := h
    exact hl
  obtain ⟨G, F0, dr, dr', ds, r, hl, fh, hd, hnd, rl, e, htb, q⟩ := h
  obtain ⟨many, cs, seed, rfl, rfl, hm⟩ := draw_args e
  have hst : G.st = true := by
    cases z : G.st with
    | true => rfl
    | false => cases hnd z
  obtain ⟨da, ft⟩ := hd hst
  obtain ⟨tc, hT, hC⟩ := id da
  obtain rfl := draw_vals rl
  refine ⟨_, pss_cons (ps_set (i := 2) sc_law_draw.nd rfl (.inl rfl) (pe_ix ix_list (pv 0) pe_int (fun _ _ => rfl)))
    (pss_cons (ps_while PassesOwn.never (PW.pt (pw_and (pt_cmpR op_gt (pe_callB call_len_seq (by rfl) T.z_len PySem.boot_len (pa_cons (pv 2) pa_nil)) pe_int (nomark _))
        (pw_and1 (pt_cmpR op_eq (pe_ix ix_list (pv 2) pe_int (fun _ _ => rfl)) pe_int (nomark _)))))
        (pss_one (ps_expr (pe_bm PySem.F.plainAttrs_list PySem.F.slot_list_pop PySem.F.type_list_pop mt_popAt (pv 2) (pa_cons pe_int pa_nil)))))
    (pss_cons (ps_if (pt_cmpR op_gt (pe_callB call_len_seq (by rfl) T.z_len PySem.boot_len (pa_cons (pv 2) pa_nil)) pe_int (nomark _))
        (pss_cons (ps_set (i := 3) sc_law_draw.nd rfl (.inl rfl) (pe_ix ix_list (pv 2) pe_int (fun _ _ => rfl)))
        (pss_cons (ps_asg (pe_op op_fdivN (pv 3) (pv 1)) (pg_sub (pv 2) pe_int set_list))
        (pss_one (ps_ret (pe_op op_modN (pe_callTy call_int1 (by rfl) T.z_int (by decide +kernel) (pa_cons (pv 3) pa_nil)) (pv 1)))))) pss_nil)
    (pss_cons (ps_set (i := 4) sc_law_draw.nd rfl (.inl rfl) (pe_op op_modN (pe_callTy call_int1 (by rfl) T.z_int (by decide +kernel) (pa_cons (pe_op op_add (pe_op op_mul (pe_ix ix_list (pv 0) pe_int (fun _ _ => rfl)) pe_int) pe_int) pa_nil)) pe_int))
    (pss_cons (ps_asg (pv 4) (pg_sub (pv 0) pe_int set_list))
    (pss_one (ps_ret (pe_op op_modN (pe_callTy call_int1 (by rfl) T.z_int (by decide +kernel) (pa_cons (pe_op op_fdivN (pv 4) pe_int) pa_nil)) (pv 1)))))))), ?_⟩
  refine ⟨_, rfl, G.T, _, 0, .ref G.C, rfl, rfl, SqL.of hT, atI_nat (j := 0) rfl, ?_⟩
  -- the zeros ahead
  refine ⟨fun i σ H1 => ∃ l : List Int, i = l.length ∧ σ = [some (.ref G.T), some (.int many), some (.ref G.C), none, none] ∧ H1 = upd H G.C (.lst (l.map V.int)) ∧ l.dropWhile (· == 0) = cs.dropWhile (· == 0), ⟨cs.length, cs, rfl, rfl, (upd_self hC).symm, rfl⟩, ?_⟩
  rintro i σ H1 ⟨l, rfl, rfl, rfl, el⟩
  have cC : upd H G.C (.lst (l.map V.int)) G.C = some (.lst (l.map V.int)) := upd_same
  cases l with
  | nil =>
    refine ⟨.ref G.C, rfl, G.C, _, rfl, .inl (SqL.of cC), _, _, rfl, rfl, false, rfl, iteF (iteF ?_)⟩
    -- nothing is left
    refine ⟨.ref G.C, rfl, G.C, _, rfl, .inl (SqL.of cC), _, _, rfl, rfl, false, rfl, iteF ?_⟩
    have cT : upd H G.C (.lst (([] : List Int).map V.int)) G.T = some (.lst [.ref G.C, .int seed]) := by rw [upd_ne tc]; exact hT
    refine ⟨_, rfl, G.T, _, 1, .int seed, rfl, rfl, SqL.of cT, atI_nat (j := 1) rfl, seed, 48271, rfl, rfl, .inr ⟨by decide, by decide⟩, _, _, rfl, rfl, .inl ⟨_, rfl, _, _, rfl, rfl, by show (2147483647 : Int) ≠ 0; decide, ?_⟩⟩
    refine ⟨_, rfl, _, rfl, G.T, _, 1, 1, rfl, rfl, cT, rfl, ?_⟩
    refine ⟨_, rfl, _, 64, rfl, rfl, ⟨by decide, by decide⟩, .inl ⟨_, rfl, _, rfl, _, _, rfl, rfl, hm.1, ?_⟩⟩
    have e2 := draw_nil hm (el.symm : cs.dropWhile (· == 0) = []) e
    obtain ⟨rfl, rfl⟩ := e2
    exact draw_end hst fh ft da rfl q
  | cons v l =>
    refine ⟨.ref G.C, rfl, G.C, _, rfl, .inl (SqL.of cC), _, _, rfl, rfl, true, len_pos, iteT ?_⟩
    refine ⟨.ref G.C, rfl, G.C, _, 0, .int v, rfl, rfl, SqL.of cC, atI_nat (j := 0) rfl, rfl, _, rfl, ?_⟩
    by_cases hv : v = 0
    · subst hv
      refine iteT ⟨fun σ' H' => σ' = [some (.ref G.T), some (.int many), some (.ref G.C), none, none] ∧ H' = upd H G.C (.lst (l.map V.int)), fun σ' H' ⟨e1, e2⟩ => ⟨l.length, by simp, l, rfl, e1, e2, by rw [← el, dropW_cons, if_pos rfl]⟩, ?_⟩
      refine ⟨.ref G.C, rfl, .inl ⟨rfl, _, SqL.of cC⟩, G.C, _, 0, 0, .int 0, rfl, rfl, cC, by decide, by decide, by simp [seqIndex?], rfl, rfl, ?_⟩
      rw [upd_upd]
      rfl
    · have hd : decide (V.int v = V.int 0) = false := decide_eq_false (fun z => hv (V.int.inj z))
      rw [hd]
      refine iteF ?_
      refine ⟨.ref G.C, rfl, G.C, _, rfl, .inl (SqL.of cC), _, _, rfl, rfl, true, len_pos, iteT ?_⟩
      refine ⟨.ref G.C, rfl, G.C, _, 0, .int v, rfl, rfl, SqL.of cC, atI_nat (j := 0) rfl, ?_⟩
      refine ⟨_, rfl, _, rfl, v, many, rfl, rfl, hm, .ref G.C, rfl, G.C, _, 0, 0, rfl, rfl, cC, by simp [ixN], ?_⟩
      refine ⟨_, rfl, .inl ⟨_, rfl, _, rfl, v, many, rfl, rfl, hm.1, ?_⟩⟩
      have e2 := draw_cons hm (show cs.dropWhile (· == 0) = v :: l by rw [← el, dropW_cons, if_neg hv]) e
      obtain ⟨rfl, rfl⟩ := e2
      refine draw_end hst fh ft da ?_ q
      rw [upd_upd, upd_self (a := G.T)]
      · rfl
      · rw [upd_ne tc]
        exact hT

theorem G_law_draw_kind (T : Txt K mg) : FnOk P w K mg base CX0 2 T.a_law_draw_kind T.d_law_draw_kind ["state", "n"] (spM K 2 fn_law_draw_kind) := by
  refine fn_ok T.F_law_draw_kind sc_law_draw_kind rfl (by decide) fun cdv A outer s H E (hr : Room 1 _) => ?_
  have hu : (XX P w K mg base ["state", "n", "left", "parts", "part"] "_law_draw_kind" s_law_draw_kind T.a_law_draw_kind cdv A outer s H E).A.units + 65 < cLine := by
    show (A.deeper _).units + 65 < cLine
    have := hr.un
    omega
  have v0 : ∀ p, DE (XX P w K mg base ["state", "n", "left", "parts", "part"] "_law_draw_kind" s_law_draw_kind T.a_law_draw_kind cdv A outer s H E) (.Name "state" p) (tVar 0) (rdV 0) := fun p => de_var rfl (Or.inl rfl)
  have v1 : ∀ p, DE (XX P w K mg base ["state", "n", "left", "parts", "part"] "_law_draw_kind" s_law_draw_kind T.a_law_draw_kind cdv A outer s H E) (.Name "n" p) (tVar 1) (rdV 1) := fun p => de_var rfl (Or.inl rfl)
  have v2 : ∀ p, DE (XX P w K mg base ["state", "n", "left", "parts", "part"] "_law_draw_kind" s_law_draw_kind T.a_law_draw_kind cdv A outer s H E) (.Name "left" p) (tVar 2) (rdV 2) := fun p => de_var rfl (Or.inl rfl)
  have v3 : ∀ p, DE (XX P w K mg base ["state", "n", "left", "parts", "part"] "_law_draw_kind" s_law_draw_kind T.a_law_draw_kind cdv A outer s H E) (.Name "parts" p) (tVar 3) (rdV 3) := fun p => de_var rfl (Or.inl rfl)
  have v4 : ∀ p, DE (XX P w K mg base ["state", "n", "left", "parts", "part"] "_law_draw_kind" s_law_draw_kind T.a_law_draw_kind cdv A outer s H E) (.Name "part" p) (tVar 4) (rdV 4) := fun p => de_var rfl (Or.inl rfl)
  exact ⟨_, (show DSs (XX P w K mg base ["state", "n", "left", "parts", "part"] "_law_draw_kind" s_law_draw_kind T.a_law_draw_kind cdv A outer s H E) (defBody s_law_draw_kind) _ b_law_draw_kind from (dss_cons (ds_set (i := 2) sc_law_draw_kind.nd rfl (Or.inl rfl) (v1 _))
  (dss_cons (ds_set (i := 3) sc_law_draw_kind.nd rfl (Or.inl rfl) (de_lst da_nil))
  (dss_cons (ds_while PassesOwn.never (kt_cmp (K := K) (by rfl) op_gt cmpI_ok (v2 _) de_int (nomark _)) (dss_cons (ds_set (i := 4) sc_law_draw_kind.nd rfl (Or.inl rfl) (k_add (K := K) (by rfl) de_int (k_call (K := K) (by rfl) (G_law_draw (base := base) (P := P) T) (by exact hr.mono (by decide)) (by rfl) T.g_law_draw T.F_law_draw.kp (bind_law_draw T) pass0 (da_cons (v0 _) (da_cons (k_callBN (K := K) (by rfl) (call_min2 (by rfl)) min2D_ok (by rfl) T.z_min (by decide +kernel) (da_cons (v2 _) (da_cons (k_ix (K := K) (by rfl) (de_lst (da_cons de_int (da_cons de_int (da_cons de_int (da_cons de_int da_nil))))) (k_call (K := K) (by rfl) (G_law_draw (base := base) (P := P) T) (by exact hr.mono (by decide)) (by rfl) T.g_law_draw T.F_law_draw.kp (bind_law_draw T) pass0 (da_cons (v0 _) (da_cons de_int da_nil)) (da_len1 (da_len1 da_len0))) (by intro _ _; rfl)) da_nil))) da_nil)) (da_len1 (da_len1 da_len0)))))
  (dss_cons (ds_app (j := 3) rfl (Or.inl rfl) (v4 _))
  (dss_one (ds_set (i := 2) sc_law_draw_kind.nd rfl (Or.inl rfl) (de_sub (v2 _) (v4 _)))))))
  (dss_one (ds_ret (k_callT1 (K := K) (by rfl) (kc_tuple (K := K) (by rfl)) tupleD_ok (by rfl) T.z_tuple (by decide +kernel) (k_revA (K := K) (by rfl) (k_callB1 (K := K) (by rfl) (kc_sortedA (K := K) (by rfl)) sortAD_ok (by rfl) T.z_sorted (by decide +kernel) (v3 _))))))))))⟩
theorem G_require (T : Txt K mg) : FnOk P w K mg base (L2.CX P w) 3 T.a_require T.d_require ["holds", "rule", "index"] (spX K 3 (ExcB.c P mg K "DatumError") fn_require) := by
  refine fn_okX T.F_require sc_require rfl (by decide) fun cdv A outer s H E Wi hc tk po (hr : Room 2 _) => ?_
  have hu : (XXx P w K mg base ["holds", "rule", "index"] "require" s_require T.a_require cdv A outer s H E).A.units + 65 < cLine := by
    show (A.deeper _).units + 65 < cLine
    have := hr.un
    omega
  have v0 : ∀ p, DE (XXx P w K mg base ["holds", "rule", "index"] "require" s_require T.a_require cdv A outer s H E) (.Name "holds" p) (tVar 0) (rdV 0) := fun p => de_var rfl (Or.inl rfl)
  have v1 : ∀ p, DE (XXx P w K mg base ["holds", "rule", "index"] "require" s_require T.a_require cdv A outer s H E) (.Name "rule" p) (tVar 1) (rdV 1) := fun p => de_var rfl (Or.inl rfl)
  have v2 : ∀ p, DE (XXx P w K mg base ["holds", "rule", "index"] "require" s_require T.a_require cdv A outer s H E) (.Name "index" p) (tVar 2) (rdV 2) := fun p => de_var rfl (Or.inl rfl)
  exact ⟨_, (show DSs (XXx P w K mg base ["holds", "rule", "index"] "require" s_require T.a_require cdv A outer s H E) (defBody s_require) _ b_require from (dss_one (ds_ite (dt_not (k_truth (K := K) (by rfl) (v0 _) (by intro _; rfl))) (dss_one (kx_raise rfl (K := K) (by rfl) hc tk (ExcB.me (P := P) (mg := mg) (K := K) (x := "DatumError")) (by exact hr.mono (by decide)) (by rfl) (ExcB.mx (P := P) (mg := mg) (K := K) (x := "DatumError")) (da_cons (v1 _) (da_cons (v2 _) da_nil)))) dss_nil)))⟩
theorem G_letters (T : Txt K mg) : FnOk P w K mg base CX0 1 T.a_letters T.d_letters ["base"] (spM K 1 fn_letters) := by
  refine fn_ok T.F_letters sc_letters rfl (by decide) fun cdv A outer s H E (hr : Room 0 _) => ?_
  have hu : (XX P w K mg base ["base"] "letters" s_letters T.a_letters cdv A outer s H E).A.units + 65 < cLine := by
    show (A.deeper _).units + 65 < cLine
    have := hr.un
    omega
  have v0 : ∀ p, DE (XX P w K mg base ["base"] "letters" s_letters T.a_letters cdv A outer s H E) (.Name "base" p) (tVar 0) (rdV 0) := fun p => de_var rfl (Or.inl rfl)
  exact ⟨_, (show DSs (XX P w K mg base ["base"] "letters" s_letters T.a_letters cdv A outer s H E) (defBody s_letters) _ b_letters from (dss_one (ds_ret (de_if (kt_cmp (K := K) (by rfl) (ko_eq (K := K) (by rfl) (by exact hu)) eqD_ok (k_ix (K := K) (by rfl) (v0 _) de_int (by intro _ _; rfl)) de_str (nomark _)) (de_mul de_int (k_ix (K := K) (by rfl) (v0 _) de_int (by intro _ _; rfl))) (k_ix (K := K) (by rfl) (v0 _) de_int (by intro _ _; rfl))))))⟩
theorem G_word (T : Txt K mg) : FnOk P w K mg base CX0 2 T.a_word T.d_word ["base", "many"] (spM K 2 fn_word) := by
  refine fn_ok T.F_word sc_word rfl (by decide) fun cdv A outer s H E (hr : Room 1 _) => ?_
  have hu : (XX P w K mg base ["base", "many", "told", "at"] "word" s_word T.a_word cdv A outer s H E).A.units + 65 < cLine := by
    show (A.deeper _).units + 65 < cLine
    have := hr.un
    omega
  have v0 : ∀ p, DE (XX P w K mg base ["base", "many", "told", "at"] "word" s_word T.a_word cdv A outer s H E) (.Name "base" p) (tVar 0) (rdV 0) := fun p => de_var rfl (Or.inr (Or.inl rfl))
  have v1 : ∀ p, DE (XX P w K mg base ["base", "many", "told", "at"] "word" s_word T.a_word cdv A outer s H E) (.Name "many" p) (tVar 1) (rdV 1) := fun p => de_var rfl (Or.inl rfl)
  have v2 : ∀ p, DE (XX P w K mg base ["base", "many", "told", "at"] "word" s_word T.a_word cdv A outer s H E) (.Name "told" p) (tVar 2) (rdV 2) := fun p => de_var rfl (Or.inl rfl)
  have v3 : ∀ p, DE (XX P w K mg base ["base", "many", "told", "at"] "word" s_word T.a_word cdv A outer s H E) (.Name "at" p) (tVar 3) (rdV 3) := fun p => de_var rfl (Or.inl rfl)
  exact ⟨_, (show DSs (XX P w K mg base ["base", "many", "told", "at"] "word" s_word T.a_word cdv A outer s H E) (defBody s_word) _ b_word from (dss_cons (ds_set (i := 2) sc_word.nd rfl (Or.inl rfl) (de_lst da_nil))
  (dss_cons (ds_for PassesOwn.never rfl (di_range1 (by rfl) T.z_range (da_cons (k_ix (K := K) (by rfl) (v0 _) de_int (by intro _ _; rfl)) da_nil)) (dg_name (i := 3) sc_word.nd rfl (Or.inl rfl)) (dss_one (ds_ite (kt_cmp (K := K) (by rfl) (ko_eq (K := K) (by rfl) (by exact hu)) eqD_ok (k_ix (K := K) (by rfl) (v0 _) de_int (by intro _ _; rfl)) de_str (nomark _)) (dss_one (ds_set (i := 2) sc_word.nd rfl (Or.inl rfl) (k_add (K := K) (by rfl) (v2 _) (de_lst (da_cons (k_add (K := K) (by rfl) (de_mul de_int (v3 _)) de_int) (da_cons (k_add (K := K) (by rfl) (de_mul de_int (v3 _)) de_int) (da_cons (de_sub (de_mul (de_neg de_int) (v3 _)) de_int) (da_cons (de_sub (de_mul (de_neg de_int) (v3 _)) de_int) da_nil)))))))) (dss_one (ds_set (i := 2) sc_word.nd rfl (Or.inl rfl) (k_add (K := K) (by rfl) (v2 _) (de_lst (da_cons (k_add (K := K) (by rfl) (v3 _) de_int) (da_cons (k_add (K := K) (by rfl) (v3 _) de_int) da_nil)))))))))
  (dss_one (ds_ret (k_callT1 (K := K) (by rfl) (kc_tuple (K := K) (by rfl)) tupleD_ok (by rfl) T.z_tuple (by decide +kernel) (k_add (K := K) (by rfl) (v2 _) (de_lc (own := [("at", 3)]) (is := [3]) rfl sc_word.nd (di_range1 (by rfl) T.z_range (da_cons (v1 _) da_nil)) (blkOk_by (own := [("at", 3)]) (N := ["base", "many", "told", "at"]) (sc := defScope s_word) (by decide +kernel)) (fun _ _ _ _ _ => (dg_name (i := 3) sc_word.nd rfl (Or.inl rfl))) (by decide) (fun _ _ _ _ _ => dts_nil) (fun _ _ _ _ _ => (k_add (K := K) (by rfl) (k_add (K := K) (by rfl) (k_call (K := K) (by rfl) (G_letters (base := base) (P := P) T) (by exact hr.mono (by decide)) (by rfl) T.g_letters T.F_letters.kp (bind_letters T) pass0 (da_cons (de_var (i := 0) (x := "base") rfl (Or.inr (Or.inl rfl))) da_nil) (da_len1 da_len0)) (de_var (i := 3) (x := "at") rfl (Or.inl rfl))) de_int))))))))))⟩
theorem G_base_right (T : Txt K mg) : FnOk P w K mg base CX0 3 T.a_base_right T.d_base_right ["base"] (spM K 1 fn_base_right) := by
  refine fn_ok T.F_base_right sc_base_right rfl (by decide) fun cdv A outer s H E (hr : Room 2 _) => ?_
  have hu : (XX P w K mg base ["base", "word", "many"] "base_right" s_base_right T.a_base_right cdv A outer s H E).A.units + 65 < cLine := by
    show (A.deeper _).units + 65 < cLine
    have := hr.un
    omega
  have v0 : ∀ p, DE (XX P w K mg base ["base", "word", "many"] "base_right" s_base_right T.a_base_right cdv A outer s H E) (.Name "base" p) (tVar 0) (rdV 0) := fun p => de_var rfl (Or.inl rfl)
  have v1 : ∀ p, DE (XX P w K mg base ["base", "word", "many"] "base_right" s_base_right T.a_base_right cdv A outer s H E) (.Name "word" p) (tVar 1) (rdV 1) := fun p => de_var rfl (Or.inl rfl)
  have v2 : ∀ p, DE (XX P w K mg base ["base", "word", "many"] "base_right" s_base_right T.a_base_right cdv A outer s H E) (.Name "many" p) (tVar 2) (rdV 2) := fun p => de_var rfl (Or.inl rfl)
  exact ⟨_, (show DSs (XX P w K mg base ["base", "word", "many"] "base_right" s_base_right T.a_base_right cdv A outer s H E) (defBody s_base_right) _ b_base_right from (dss_cons (ds_asg (v0 _) (k_gtup (K := K) (by rfl) (by rfl) (dgs_cons (dg_name (i := 1) sc_base_right.nd rfl (Or.inl rfl)) (dgs_cons (dg_name (i := 2) sc_base_right.nd rfl (Or.inl rfl)) dgs_nil))))
  (dss_cons (ds_ite (kt_cmp (K := K) (by rfl) (ko_eq (K := K) (by rfl) (by exact hu)) eqD_ok (v1 _) de_str (nomark _)) (dss_one (ds_ret (k_chain (K := K) (by rfl) op_le cmpI_ok op_le cmpI_ok de_int (v2 _) (de_globI (by rfl) T.c_MOST_HANDLES)))) dss_nil)
  (dss_one (ds_ret (de_and (k_cmp (K := K) (by rfl) (ko_eq (K := K) (by rfl) (by exact hu)) eqD_ok (v1 _) de_str (nomark _)) (de_one (k_chain (K := K) (by rfl) op_le cmpI_ok op_le cmpI_ok de_int (v2 _) (de_globI (by rfl) T.c_MOST_CAPS)))))))))⟩
theorem G_is_kind (T : Txt K mg) : FnOk P w K mg base CX0 1 T.a_is_kind T.d_is_kind ["n", "row"] (spM K 2 fn_is_kind) := by
  refine fn_okT T.F_is_kind sc_is_kind rfl (by decide) fun A outer s H E (hr : Room 0 _) => ?_
  have hu : (XX P w K mg base ["n", "row", "part", "at"] "is_kind" s_is_kind T.a_is_kind T.d_is_kind.code A outer s H E).A.units + 65 < cLine := by
    show (A.deeper _).units + 65 < cLine
    have := hr.un
    omega
  have v0 : ∀ p, DE (XX P w K mg base ["n", "row", "part", "at"] "is_kind" s_is_kind T.a_is_kind T.d_is_kind.code A outer s H E) (.Name "n" p) (tVar 0) (rdV 0) := fun p => de_var rfl (Or.inl rfl)
  have v1 : ∀ p, DE (XX P w K mg base ["n", "row", "part", "at"] "is_kind" s_is_kind T.a_is_kind T.d_is_kind.code A outer s H E) (.Name "row" p) (tVar 1) (rdV 1) := fun p => de_var rfl (Or.inr (Or.inl rfl))
  exact ⟨_, (show DSs (XX P w K mg base ["n", "row", "part", "at"] "is_kind" s_is_kind T.a_is_kind T.d_is_kind.code A outer s H E) (defBody s_is_kind) _ b_is_kind from (dss_cons (ds_ite (DW.dt (dw_or (k_truth (K := K) (by rfl) (de_anyG (by exact hr) (by rfl) T.z_any (TabsB.tb (base := base) (mg := mg) (K := K) ("is_kind", none) (List.mem_of_elem_eq_true (by decide +kernel))) (List.mem_map.mpr ⟨("is_kind", none), List.mem_of_elem_eq_true (by decide +kernel), rfl⟩) T.cd_is_kind (genS_of (by decide +kernel)) (capOk_of (cs := []) (ci := []) (by show capB ["n", "row", "part", "at"] (defScope s_is_kind) _ _ _ = true; decide +kernel)) (dq_seq (v1 _)) (ee_lt (ee_name (i := 0) (by rfl)) ee_int) (by intro _; rfl)) (by intro _; rfl)) (dw_or1 (kt_cmp (K := K) (by rfl) (ko_ne (K := K) (by rfl) (by exact hu)) neD_ok (k_callB1 (K := K) (by rfl) (kc_sumA (K := K) (by rfl)) sumAD_ok (by rfl) T.z_sum (by decide +kernel) (v1 _)) (v0 _) (nomark _))))) (dss_one (ds_ret de_bl)) dss_nil)
  (dss_one (ds_ret (de_allG (by exact hr) (by rfl) T.z_all (by decide +kernel) (TabsB.tb (base := base) (mg := mg) (K := K) ("is_kind", none) (List.mem_of_elem_eq_true (by decide +kernel))) (List.mem_map.mpr ⟨("is_kind", none), List.mem_of_elem_eq_true (by decide +kernel), rfl⟩) T.cd_is_kind (genS_of (by decide +kernel)) (capOk_of (cs := ["row"]) (ci := [1]) (by show capB ["n", "row", "part", "at"] (defScope s_is_kind) _ _ _ = true; decide +kernel)) (dq_rng (dr_1 (by rfl) T.z_range (de_sub (k_callB1 (K := K) (by rfl) (kc_len (K := K) (by rfl)) lenD_ok (by rfl) T.z_len PySem.boot_len (v1 _)) de_int))) (ee_ge (ee_ix (ee_name (i := 1) (by rfl)) (ee_name (i := 0) (by rfl)) (by intro _ _; rfl)) (ee_ix (ee_name (i := 1) (by rfl)) (ee_add (ee_name (i := 0) (by rfl)) ee_int) (by intro _ _; rfl))) (by intro _; rfl))))))⟩
theorem G_check_datum (T : Txt K mg) : FnOk P w K mg base (L2.CX P w) 4 T.a_check_datum T.d_check_datum ["datum"] (spX K 1 (ExcB.c P mg K "DatumError") fn_check_datum) := by
  refine fn_okX T.F_check_datum sc_check_datum rfl (by decide) fun cdv A outer s H E Wi hc tk po (hr : Room 3 _) => ?_
  have hu : (XXx P w K mg base ["datum", "base", "sheets", "kinds", "sides", "index", "row"] "check_datum" s_check_datum T.a_check_datum cdv A outer s H E).A.units + 65 < cLine := by
    show (A.deeper _).units + 65 < cLine
    have := hr.un
    omega
  have v0 : ∀ p, DE (XXx P w K mg base ["datum", "base", "sheets", "kinds", "sides", "index", "row"] "check_datum" s_check_datum T.a_check_datum cdv A outer s H E) (.Name "datum" p) (tVar 0) (rdV 0) := fun p => de_var rfl (Or.inl rfl)
  have v1 : ∀ p, DE (XXx P w K mg base ["datum", "base", "sheets", "kinds", "sides", "index", "row"] "check_datum" s_check_datum T.a_check_datum cdv A outer s H E) (.Name "base" p) (tVar 1) (rdV 1) := fun p => de_var rfl (Or.inl rfl)
  have v2 : ∀ p, DE (XXx P w K mg base ["datum", "base", "sheets", "kinds", "sides", "index", "row"] "check_datum" s_check_datum T.a_check_datum cdv A outer s H E) (.Name "sheets" p) (tVar 2) (rdV 2) := fun p => de_var rfl (Or.inl rfl)
  have v3 : ∀ p, DE (XXx P w K mg base ["datum", "base", "sheets", "kinds", "sides", "index", "row"] "check_datum" s_check_datum T.a_check_datum cdv A outer s H E) (.Name "kinds" p) (tVar 3) (rdV 3) := fun p => de_var rfl (Or.inl rfl)
  have v4 : ∀ p, DE (XXx P w K mg base ["datum", "base", "sheets", "kinds", "sides", "index", "row"] "check_datum" s_check_datum T.a_check_datum cdv A outer s H E) (.Name "sides" p) (tVar 4) (rdV 4) := fun p => de_var rfl (Or.inl rfl)
  have v5 : ∀ p, DE (XXx P w K mg base ["datum", "base", "sheets", "kinds", "sides", "index", "row"] "check_datum" s_check_datum T.a_check_datum cdv A outer s H E) (.Name "index" p) (tVar 5) (rdV 5) := fun p => de_var rfl (Or.inl rfl)
  have v6 : ∀ p, DE (XXx P w K mg base ["datum", "base", "sheets", "kinds", "sides", "index", "row"] "check_datum" s_check_datum T.a_check_datum cdv A outer s H E) (.Name "row" p) (tVar 6) (rdV 6) := fun p => de_var rfl (Or.inl rfl)
  exact ⟨_, (show DSs (XXx P w K mg base ["datum", "base", "sheets", "kinds", "sides", "index", "row"] "check_datum" s_check_datum T.a_check_datum cdv A outer s H E) (defBody s_check_datum) _ b_check_datum from (dss_cons (ds_asg (v0 _) (k_gtup (K := K) (by rfl) (by rfl) (dgs_cons (dg_name (i := 1) sc_check_datum.nd rfl (Or.inl rfl)) (dgs_cons (dg_name (i := 2) sc_check_datum.nd rfl (Or.inl rfl)) (dgs_cons (dg_name (i := 3) sc_check_datum.nd rfl (Or.inl rfl)) (dgs_cons (dg_name (i := 4) sc_check_datum.nd rfl (Or.inl rfl)) dgs_nil))))))
  (dss_cons (kx_expr (K := K) (by rfl) hc (G_require (base := base) (P := P) T) (by exact hr.mono (by decide)) (by rfl) T.g_require T.F_require.kp (bind_require T) tk (da_cons (k_call (K := K) (by rfl) (G_base_right (base := base) (P := P) T) (by exact hr.mono (by decide)) (by rfl) T.g_base_right T.F_base_right.kp (bind_base_right T) pass0 (da_cons (v1 _) da_nil) (da_len1 da_len0)) (da_cons de_str (da_cons de_int da_nil))) (da_len1 (da_len1 (da_len1 da_len0))))
  (dss_cons (kx_expr (K := K) (by rfl) hc (G_require (base := base) (P := P) T) (by exact hr.mono (by decide)) (by rfl) T.g_require T.F_require.kp (bind_require T) tk (da_cons (k_chain (K := K) (by rfl) op_le cmpI_ok op_le cmpI_ok de_int (v2 _) (de_globI (by rfl) T.c_MOST_SHEETS)) (da_cons de_str (da_cons (v2 _) da_nil))) (da_len1 (da_len1 (da_len1 da_len0))))
  (dss_cons (kx_expr (K := K) (by rfl) hc (G_require (base := base) (P := P) T) (by exact hr.mono (by decide)) (by rfl) T.g_require T.F_require.kp (bind_require T) tk (da_cons (k_cmp (K := K) (by rfl) op_le cmpI_ok (k_callB1 (K := K) (by rfl) (kc_len (K := K) (by rfl)) lenD_ok (by rfl) T.z_len PySem.boot_len (v3 _)) (de_globI (by rfl) T.c_MOST_KINDS) (nomark _)) (da_cons de_str (da_cons (k_callB1 (K := K) (by rfl) (kc_len (K := K) (by rfl)) lenD_ok (by rfl) T.z_len PySem.boot_len (v3 _)) da_nil))) (da_len1 (da_len1 (da_len1 da_len0))))
  (dss_cons (ds_for po rfl (k_enum (K := K) (by rfl) (by rfl) T.z_enumerate (v3 _)) (k_gtup (K := K) (by rfl) (by rfl) (dgs_cons (dg_name (i := 5) sc_check_datum.nd rfl (Or.inl rfl)) (dgs_cons (dg_name (i := 6) sc_check_datum.nd rfl (Or.inl rfl)) dgs_nil))) (dss_one (kx_expr (K := K) (by rfl) hc (G_require (base := base) (P := P) T) (by exact hr.mono (by decide)) (by rfl) T.g_require T.F_require.kp (bind_require T) tk (da_cons (k_call (K := K) (by rfl) (G_is_kind (base := base) (P := P) T) (by exact hr.mono (by decide)) (by rfl) T.g_is_kind T.F_is_kind.kp (bind_is_kind T) pass0 (da_cons (v2 _) (da_cons (v6 _) da_nil)) (da_len1 (da_len1 da_len0))) (da_cons de_str (da_cons (v5 _) da_nil))) (da_len1 (da_len1 (da_len1 da_len0))))))
  (dss_one (kx_expr (K := K) (by rfl) hc (G_require (base := base) (P := P) T) (by exact hr.mono (by decide)) (by rfl) T.g_require T.F_require.kp (bind_require T) tk (da_cons (de_or (k_cmp (K := K) (by rfl) (ko_eq (K := K) (by rfl) (by exact hu)) eqD_ok (v4 _) de_str (nomark _)) (de_one (de_and (k_cmp (K := K) (by rfl) (ko_eq (K := K) (by rfl) (by exact hu)) eqD_ok (v4 _) de_str (nomark _)) (de_one (k_cmp (K := K) (by rfl) (ko_eq (K := K) (by rfl) (by exact hu)) eqD_ok (k_ix (K := K) (by rfl) (v1 _) de_int (by intro _ _; rfl)) de_str (nomark _)))))) (da_cons de_str (da_cons de_int da_nil))) (da_len1 (da_len1 (da_len1 da_len0)))))))))))⟩
theorem G_law_told (T : Txt K mg) : FnOk P w K mg base CX0 5 T.a_law_told T.d_law_told ["datum"] (spM K 1 fn_law_told) := by
  refine fn_ok T.F_law_told sc_law_told rfl (by decide) fun cdv A outer s H E (hr : Room 4 _) => ?_
  have hu : (XX P w K mg base ["datum", "given", "e"] "_law_told" s_law_told T.a_law_told cdv A outer s H E).A.units + 65 < cLine := by
    show (A.deeper _).units + 65 < cLine
    have := hr.un
    omega
  have v0 : ∀ p, DE (XX P w K mg base ["datum", "given", "e"] "_law_told" s_law_told T.a_law_told cdv A outer s H E) (.Name "datum" p) (tVar 0) (rdV 0) := fun p => de_var rfl (Or.inl rfl)
  have v1 : ∀ p, DE (XX P w K mg base ["datum", "given", "e"] "_law_told" s_law_told T.a_law_told cdv A outer s H E) (.Name "given" p) (tVar 1) (rdV 1) := fun p => de_var rfl (Or.inl rfl)
  exact ⟨_, (show DSs (XX P w K mg base ["datum", "given", "e"] "_law_told" s_law_told T.a_law_told cdv A outer s H E) (defBody s_law_told) _ b_law_told from (dss_cons (kx_tryB (i := 2) rfl rfl sc_law_told.nd rfl rfl (by rfl) (K := K) (by rfl) (ExcB.mx (P := P) (mg := mg) (K := K) (x := "DatumError")) (ExcB.me (P := P) (mg := mg) (K := K) (x := "DatumError")) (ExcB.xf (P := P) (mg := mg) (K := K) (x := "DatumError")) (ExcB.ex (P := P) (mg := mg) (K := K) (x := "DatumError")) (fun pn xe Wi hc tk po => (by have v0 : ∀ p, DE ((XX P w K mg base ["datum", "given", "e"] "_law_told" s_law_told T.a_law_told cdv A outer s H E).tr pn xe) (.Name "datum" p) (tVar 0) (rdV 0) := fun p => de_var rfl (Or.inl rfl); exact (dss_one (kx_set (i := 1) (K := K) (by rfl) hc (G_check_datum (base := base) (P := P) T) (by exact hr.mono (by decide)) (by rfl) T.g_check_datum T.F_check_datum.kp (bind_check_datum T) tk (da_cons (v0 _) da_nil) (da_len1 da_len0) sc_law_told.nd rfl (Or.inl rfl))))) (by rfl) T.z_isinstance (by rfl) T.z_str (by rfl) T.z_int (by rfl) (ExcI.my (P := P) (mg := mg) (K := K) (x := "DatumError") (y := "SheetError")) (ExcI.q (P := P) (mg := mg) (K := K) (x := "DatumError") (y := "SheetError")) (ExcI.io (P := P) (mg := mg) (K := K) (x := "DatumError") (y := "SheetError")))
  (dss_one (ds_ret (de_if (kt_cmp (K := K) (by rfl) op_isN isND_ok (v1 _) de_non (nomark _)) (de_tup da_nil) (de_tup (da_cons de_str (da_cons de_int da_nil))))))))⟩
theorem G_law_bad (T : Txt K mg) : FnOk P w K mg base CX0 2 T.a_law_bad T.d_law_bad ["state", "datum", "fault"] (spM K 3 fn_law_bad) := by
  refine fn_ok T.F_law_bad sc_law_bad rfl (by decide) fun cdv A outer s H E (hr : Room 1 _) => ?_
  have hu : (XX P w K mg base ["state", "datum", "fault", "base", "n", "kinds", "sides", "row", "many", "at", "bad"] "_law_bad" s_law_bad T.a_law_bad cdv A outer s H E).A.units + 65 < cLine := by
    show (A.deeper _).units + 65 < cLine
    have := hr.un
    omega
  have v0 : ∀ p, DE (XX P w K mg base ["state", "datum", "fault", "base", "n", "kinds", "sides", "row", "many", "at", "bad"] "_law_bad" s_law_bad T.a_law_bad cdv A outer s H E) (.Name "state" p) (tVar 0) (rdV 0) := fun p => de_var rfl (Or.inl rfl)
  have v1 : ∀ p, DE (XX P w K mg base ["state", "datum", "fault", "base", "n", "kinds", "sides", "row", "many", "at", "bad"] "_law_bad" s_law_bad T.a_law_bad cdv A outer s H E) (.Name "datum" p) (tVar 1) (rdV 1) := fun p => de_var rfl (Or.inl rfl)
  have v2 : ∀ p, DE (XX P w K mg base ["state", "datum", "fault", "base", "n", "kinds", "sides", "row", "many", "at", "bad"] "_law_bad" s_law_bad T.a_law_bad cdv A outer s H E) (.Name "fault" p) (tVar 2) (rdV 2) := fun p => de_var rfl (Or.inl rfl)
  have v3 : ∀ p, DE (XX P w K mg base ["state", "datum", "fault", "base", "n", "kinds", "sides", "row", "many", "at", "bad"] "_law_bad" s_law_bad T.a_law_bad cdv A outer s H E) (.Name "base" p) (tVar 3) (rdV 3) := fun p => de_var rfl (Or.inl rfl)
  have v4 : ∀ p, DE (XX P w K mg base ["state", "datum", "fault", "base", "n", "kinds", "sides", "row", "many", "at", "bad"] "_law_bad" s_law_bad T.a_law_bad cdv A outer s H E) (.Name "n" p) (tVar 4) (rdV 4) := fun p => de_var rfl (Or.inl rfl)
  have v5 : ∀ p, DE (XX P w K mg base ["state", "datum", "fault", "base", "n", "kinds", "sides", "row", "many", "at", "bad"] "_law_bad" s_law_bad T.a_law_bad cdv A outer s H E) (.Name "kinds" p) (tVar 5) (rdV 5) := fun p => de_var rfl (Or.inl rfl)
  have v6 : ∀ p, DE (XX P w K mg base ["state", "datum", "fault", "base", "n", "kinds", "sides", "row", "many", "at", "bad"] "_law_bad" s_law_bad T.a_law_bad cdv A outer s H E) (.Name "sides" p) (tVar 6) (rdV 6) := fun p => de_var rfl (Or.inl rfl)
  have v7 : ∀ p, DE (XX P w K mg base ["state", "datum", "fault", "base", "n", "kinds", "sides", "row", "many", "at", "bad"] "_law_bad" s_law_bad T.a_law_bad cdv A outer s H E) (.Name "row" p) (tVar 7) (rdV 7) := fun p => de_var rfl (Or.inl rfl)
  have v8 : ∀ p, DE (XX P w K mg base ["state", "datum", "fault", "base", "n", "kinds", "sides", "row", "many", "at", "bad"] "_law_bad" s_law_bad T.a_law_bad cdv A outer s H E) (.Name "many" p) (tVar 8) (rdV 8) := fun p => de_var rfl (Or.inl rfl)
  have v9 : ∀ p, DE (XX P w K mg base ["state", "datum", "fault", "base", "n", "kinds", "sides", "row", "many", "at", "bad"] "_law_bad" s_law_bad T.a_law_bad cdv A outer s H E) (.Name "at" p) (tVar 9) (rdV 9) := fun p => de_var rfl (Or.inl rfl)
  have v10 : ∀ p, DE (XX P w K mg base ["state", "datum", "fault", "base", "n", "kinds", "sides", "row", "many", "at", "bad"] "_law_bad" s_law_bad T.a_law_bad cdv A outer s H E) (.Name "bad" p) (tVar 10) (rdV 10) := fun p => de_var rfl (Or.inl rfl)
  exact ⟨_, (show DSs (XX P w K mg base ["state", "datum", "fault", "base", "n", "kinds", "sides", "row", "many", "at", "bad"] "_law_bad" s_law_bad T.a_law_bad cdv A outer s H E) (defBody s_law_bad) _ b_law_bad from (dss_cons (ds_asg (v1 _) (k_gtup (K := K) (by rfl) (by rfl) (dgs_cons (dg_name (i := 3) sc_law_bad.nd rfl (Or.inl rfl)) (dgs_cons (dg_name (i := 4) sc_law_bad.nd rfl (Or.inl rfl)) (dgs_cons (dg_name (i := 5) sc_law_bad.nd rfl (Or.inl rfl)) (dgs_cons (dg_name (i := 6) sc_law_bad.nd rfl (Or.inl rfl)) dgs_nil))))))
  (dss_cons (ds_ite (kt_cmp (K := K) (by rfl) (ko_eq (K := K) (by rfl) (by exact hu)) eqD_ok (v2 _) de_int (nomark _)) (dss_cons (ds_set (i := 7) sc_law_bad.nd rfl (Or.inl rfl) (de_lst (da_cons (de_tup (da_cons de_str (da_cons (de_neg de_int) da_nil))) (da_cons (de_tup (da_cons de_str (da_cons de_int da_nil))) (da_cons (de_tup (da_cons de_str (da_cons de_int da_nil))) (da_cons (de_tup (da_cons de_str (da_cons de_int da_nil))) (da_cons (de_tup (da_cons de_str (da_cons de_int da_nil))) (da_cons (de_tup (da_cons de_str (da_cons de_int da_nil))) da_nil))))))))
  (dss_one (ds_ret (de_lst (da_cons (de_tup (da_cons (k_ix (K := K) (by rfl) (v7 _) (k_call (K := K) (by rfl) (G_law_draw (base := base) (P := P) T) (by exact hr.mono (by decide)) (by rfl) T.g_law_draw T.F_law_draw.kp (bind_law_draw T) pass0 (da_cons (v0 _) (da_cons de_int da_nil)) (da_len1 (da_len1 da_len0))) (by intro _ _; rfl)) (da_cons (v4 _) (da_cons (v5 _) (da_cons (v6 _) da_nil))))) (da_cons (de_tup (da_cons de_str (da_cons de_int da_nil))) da_nil)))))) dss_nil)
  (dss_cons (ds_ite (kt_cmp (K := K) (by rfl) (ko_eq (K := K) (by rfl) (by exact hu)) eqD_ok (v2 _) de_int (nomark _)) (dss_cons (ds_set (i := 8) sc_law_bad.nd rfl (Or.inl rfl) (k_ix (K := K) (by rfl) (de_lst (da_cons de_int (da_cons de_int (da_cons (de_neg de_int) da_nil)))) (k_call (K := K) (by rfl) (G_law_draw (base := base) (P := P) T) (by exact hr.mono (by decide)) (by rfl) T.g_law_draw T.F_law_draw.kp (bind_law_draw T) pass0 (da_cons (v0 _) (da_cons de_int da_nil)) (da_len1 (da_len1 da_len0))) (by intro _ _; rfl)))
  (dss_one (ds_ret (de_lst (da_cons (de_tup (da_cons (v3 _) (da_cons (v8 _) (da_cons (v5 _) (da_cons (v6 _) da_nil))))) (da_cons (de_tup (da_cons de_str (da_cons (v8 _) da_nil))) da_nil)))))) dss_nil)
  (dss_cons (ds_ite (kt_cmp (K := K) (by rfl) (ko_eq (K := K) (by rfl) (by exact hu)) eqD_ok (v2 _) de_int (nomark _)) (dss_one (ds_ret (de_lst (da_cons (de_tup (da_cons (v3 _) (da_cons (v4 _) (da_cons (k_mulT (K := K) (by rfl) (de_tup (da_cons (de_tup (da_cons (v4 _) da_nil)) da_nil)) de_int) (da_cons (v6 _) da_nil))))) (da_cons (de_tup (da_cons de_str (da_cons de_int da_nil))) da_nil))))) dss_nil)
  (dss_cons (ds_ite (DW.dt (dw_and (kt_cmp (K := K) (by rfl) (ko_eq (K := K) (by rfl) (by exact hu)) eqD_ok (v2 _) de_int (nomark _)) (dw_and1 (kt_cmp (K := K) (by rfl) op_gt cmpI_ok (k_callB1 (K := K) (by rfl) (kc_len (K := K) (by rfl)) lenD_ok (by rfl) T.z_len PySem.boot_len (v5 _)) de_int (nomark _))))) (dss_cons (ds_set (i := 9) sc_law_bad.nd rfl (Or.inl rfl) (k_call (K := K) (by rfl) (G_law_draw (base := base) (P := P) T) (by exact hr.mono (by decide)) (by rfl) T.g_law_draw T.F_law_draw.kp (bind_law_draw T) pass0 (da_cons (v0 _) (da_cons (k_callB1 (K := K) (by rfl) (kc_len (K := K) (by rfl)) lenD_ok (by rfl) T.z_len PySem.boot_len (v5 _)) da_nil)) (da_len1 (da_len1 da_len0))))
  (dss_cons (ds_set (i := 7) sc_law_bad.nd rfl (Or.inl rfl) (de_lst (da_cons (k_slice (K := K) (by rfl) (k_ix (K := K) (by rfl) (v5 _) (v9 _) (by intro _ _; rfl)) (do_some de_int) do_none) (da_cons (k_add (K := K) (by rfl) (k_ix (K := K) (by rfl) (v5 _) (v9 _) (by intro _ _; rfl)) (de_tup (da_cons de_int da_nil))) (da_cons (k_add (K := K) (by rfl) (k_ix (K := K) (by rfl) (v5 _) (v9 _) (by intro _ _; rfl)) (de_tup (da_cons de_int da_nil))) (da_cons (de_tup (da_cons (k_add (K := K) (by rfl) (v4 _) de_int) (da_cons (de_neg de_int) da_nil))) (da_cons (de_tup (da_cons (de_sub (v4 _) de_int) (da_cons de_int (da_cons (de_neg de_int) da_nil)))) da_nil)))))))
  (dss_cons (ds_ite (kt_cmp (K := K) (by rfl) op_gt cmpI_ok (k_lenSetA (K := K) (by rfl) (by rfl) (by exact hu) (by rfl) T.z_len (by rfl) T.z_set (k_ix (K := K) (by rfl) (v5 _) (v9 _) (by intro _ _; rfl))) de_int (nomark _)) (dss_one (ds_app (j := 7) rfl (Or.inl rfl) (k_revA (K := K) (by rfl) (k_ix (K := K) (by rfl) (v5 _) (v9 _) (by intro _ _; rfl))))) dss_nil)
  (dss_one (ds_ret (de_lst (da_cons (de_tup (da_cons (v3 _) (da_cons (v4 _) (da_cons (k_add (K := K) (by rfl) (k_add (K := K) (by rfl) (k_slice (K := K) (by rfl) (v5 _) do_none (do_some (v9 _))) (de_tup (da_cons (k_ix (K := K) (by rfl) (v7 _) (k_call (K := K) (by rfl) (G_law_draw (base := base) (P := P) T) (by exact hr.mono (by decide)) (by rfl) T.g_law_draw T.F_law_draw.kp (bind_law_draw T) pass0 (da_cons (v0 _) (da_cons (k_callB1 (K := K) (by rfl) (kc_len (K := K) (by rfl)) lenD_ok (by rfl) T.z_len PySem.boot_len (v7 _)) da_nil)) (da_len1 (da_len1 da_len0))) (by intro _ _; rfl)) da_nil))) (k_slice (K := K) (by rfl) (v5 _) (do_some (k_add (K := K) (by rfl) (v9 _) de_int)) do_none)) (da_cons (v6 _) da_nil))))) (da_cons (de_tup (da_cons de_str (da_cons (v9 _) da_nil))) da_nil)))))))) dss_nil)
  (dss_cons (ds_set (i := 10) sc_law_bad.nd rfl (Or.inl rfl) (de_if (kt_cmp (K := K) (by rfl) (ko_eq (K := K) (by rfl) (by exact hu)) eqD_ok (k_ix (K := K) (by rfl) (v3 _) de_int (by intro _ _; rfl)) de_str (nomark _)) (k_ix (K := K) (by rfl) (de_lst (da_cons de_str (da_cons de_str (da_cons de_str da_nil)))) (k_call (K := K) (by rfl) (G_law_draw (base := base) (P := P) T) (by exact hr.mono (by decide)) (by rfl) T.g_law_draw T.F_law_draw.kp (bind_law_draw T) pass0 (da_cons (v0 _) (da_cons de_int da_nil)) (da_len1 (da_len1 da_len0))) (by intro _ _; rfl)) (k_ix (K := K) (by rfl) (de_lst (da_cons de_str (da_cons de_str (da_cons de_str da_nil)))) (k_call (K := K) (by rfl) (G_law_draw (base := base) (P := P) T) (by exact hr.mono (by decide)) (by rfl) T.g_law_draw T.F_law_draw.kp (bind_law_draw T) pass0 (da_cons (v0 _) (da_cons de_int da_nil)) (da_len1 (da_len1 da_len0))) (by intro _ _; rfl))))
  (dss_one (ds_ret (de_lst (da_cons (de_tup (da_cons (v3 _) (da_cons (v4 _) (da_cons (v5 _) (da_cons (v10 _) da_nil))))) (da_cons (de_tup (da_cons de_str (da_cons de_int da_nil))) da_nil))))))))))))⟩
theorem G_euler (T : Txt K mg) : FnOk P w K mg base CX0 1 T.a_euler T.d_euler ["base"] (spM K 1 fn_euler) := by
  refine fn_ok T.F_euler sc_euler rfl (by decide) fun cdv A outer s H E (hr : Room 0 _) => ?_
  have hu : (XX P w K mg base ["base"] "euler" s_euler T.a_euler cdv A outer s H E).A.units + 65 < cLine := by
    show (A.deeper _).units + 65 < cLine
    have := hr.un
    omega
  have v0 : ∀ p, DE (XX P w K mg base ["base"] "euler" s_euler T.a_euler cdv A outer s H E) (.Name "base" p) (tVar 0) (rdV 0) := fun p => de_var rfl (Or.inl rfl)
  exact ⟨_, (show DSs (XX P w K mg base ["base"] "euler" s_euler T.a_euler cdv A outer s H E) (defBody s_euler) _ b_euler from (dss_one (ds_ret (de_if (kt_cmp (K := K) (by rfl) (ko_eq (K := K) (by rfl) (by exact hu)) eqD_ok (k_ix (K := K) (by rfl) (v0 _) de_int (by intro _ _; rfl)) de_str (nomark _)) (de_sub de_int (de_mul de_int (k_ix (K := K) (by rfl) (v0 _) de_int (by intro _ _; rfl)))) (de_sub de_int (k_ix (K := K) (by rfl) (v0 _) de_int (by intro _ _; rfl)))))))⟩
theorem G_law_euler (T : Txt K mg) : FnOk P w K mg base CX0 1 T.a_law_euler T.d_law_euler ["base"] (spM K 1 fn_law_euler) := by
  refine fn_ok T.F_law_euler sc_law_euler rfl (by decide) fun cdv A outer s H E (hr : Room 0 _) => ?_
  have hu : (XX P w K mg base ["base"] "_law_euler" s_law_euler T.a_law_euler cdv A outer s H E).A.units + 65 < cLine := by
    show (A.deeper _).units + 65 < cLine
    have := hr.un
    omega
  have v0 : ∀ p, DE (XX P w K mg base ["base"] "_law_euler" s_law_euler T.a_law_euler cdv A outer s H E) (.Name "base" p) (tVar 0) (rdV 0) := fun p => de_var rfl (Or.inl rfl)
  exact ⟨_, (show DSs (XX P w K mg base ["base"] "_law_euler" s_law_euler T.a_law_euler cdv A outer s H E) (defBody s_law_euler) _ b_law_euler from (dss_one (ds_ret (de_if (kt_cmp (K := K) (by rfl) (ko_eq (K := K) (by rfl) (by exact hu)) eqD_ok (k_ix (K := K) (by rfl) (v0 _) de_int (by intro _ _; rfl)) de_str (nomark _)) (de_sub de_int (de_mul de_int (k_ix (K := K) (by rfl) (v0 _) de_int (by intro _ _; rfl)))) (de_sub de_int (k_ix (K := K) (by rfl) (v0 _) de_int (by intro _ _; rfl)))))))⟩
theorem G_law_letters (T : Txt K mg) : FnOk P w K mg base CX0 1 T.a_law_letters T.d_law_letters ["base"] (spM K 1 fn_law_letters) := by
  refine fn_ok T.F_law_letters sc_law_letters rfl (by decide) fun cdv A outer s H E (hr : Room 0 _) => ?_
  have hu : (XX P w K mg base ["base"] "_law_letters" s_law_letters T.a_law_letters cdv A outer s H E).A.units + 65 < cLine := by
    show (A.deeper _).units + 65 < cLine
    have := hr.un
    omega
  have v0 : ∀ p, DE (XX P w K mg base ["base"] "_law_letters" s_law_letters T.a_law_letters cdv A outer s H E) (.Name "base" p) (tVar 0) (rdV 0) := fun p => de_var rfl (Or.inl rfl)
  exact ⟨_, (show DSs (XX P w K mg base ["base"] "_law_letters" s_law_letters T.a_law_letters cdv A outer s H E) (defBody s_law_letters) _ b_law_letters from (dss_one (ds_ret (de_if (kt_cmp (K := K) (by rfl) (ko_eq (K := K) (by rfl) (by exact hu)) eqD_ok (k_ix (K := K) (by rfl) (v0 _) de_int (by intro _ _; rfl)) de_str (nomark _)) (de_mul de_int (k_ix (K := K) (by rfl) (v0 _) de_int (by intro _ _; rfl))) (k_ix (K := K) (by rfl) (v0 _) de_int (by intro _ _; rfl))))))⟩
theorem G_law_word (T : Txt K mg) : FnOk P w K mg base CX0 2 T.a_law_word T.d_law_word ["base", "many"] (spM K 2 fn_law_word) := by
  refine fn_ok T.F_law_word sc_law_word rfl (by decide) fun cdv A outer s H E (hr : Room 1 _) => ?_
  have hu : (XX P w K mg base ["base", "many", "told", "k"] "_law_word" s_law_word T.a_law_word cdv A outer s H E).A.units + 65 < cLine := by
    show (A.deeper _).units + 65 < cLine
    have := hr.un
    omega
  have v0 : ∀ p, DE (XX P w K mg base ["base", "many", "told", "k"] "_law_word" s_law_word T.a_law_word cdv A outer s H E) (.Name "base" p) (tVar 0) (rdV 0) := fun p => de_var rfl (Or.inr (Or.inl rfl))
  have v1 : ∀ p, DE (XX P w K mg base ["base", "many", "told", "k"] "_law_word" s_law_word T.a_law_word cdv A outer s H E) (.Name "many" p) (tVar 1) (rdV 1) := fun p => de_var rfl (Or.inl rfl)
  have v2 : ∀ p, DE (XX P w K mg base ["base", "many", "told", "k"] "_law_word" s_law_word T.a_law_word cdv A outer s H E) (.Name "told" p) (tVar 2) (rdV 2) := fun p => de_var rfl (Or.inl rfl)
  have v3 : ∀ p, DE (XX P w K mg base ["base", "many", "told", "k"] "_law_word" s_law_word T.a_law_word cdv A outer s H E) (.Name "k" p) (tVar 3) (rdV 3) := fun p => de_var rfl (Or.inl rfl)
  exact ⟨_, (show DSs (XX P w K mg base ["base", "many", "told", "k"] "_law_word" s_law_word T.a_law_word cdv A outer s H E) (defBody s_law_word) _ b_law_word from (dss_cons (ds_set (i := 2) sc_law_word.nd rfl (Or.inl rfl) (de_lst da_nil))
  (dss_cons (ds_for PassesOwn.never rfl (di_range1 (by rfl) T.z_range (da_cons (k_ix (K := K) (by rfl) (v0 _) de_int (by intro _ _; rfl)) da_nil)) (dg_name (i := 3) sc_law_word.nd rfl (Or.inl rfl)) (dss_one (ds_ite (kt_cmp (K := K) (by rfl) (ko_eq (K := K) (by rfl) (by exact hu)) eqD_ok (k_ix (K := K) (by rfl) (v0 _) de_int (by intro _ _; rfl)) de_str (nomark _)) (dss_one (ds_set (i := 2) sc_law_word.nd rfl (Or.inl rfl) (k_add (K := K) (by rfl) (v2 _) (de_lst (da_cons (k_add (K := K) (by rfl) (de_mul de_int (v3 _)) de_int) (da_cons (k_add (K := K) (by rfl) (de_mul de_int (v3 _)) de_int) (da_cons (de_neg (k_add (K := K) (by rfl) (de_mul de_int (v3 _)) de_int)) (da_cons (de_neg (k_add (K := K) (by rfl) (de_mul de_int (v3 _)) de_int)) da_nil)))))))) (dss_one (ds_set (i := 2) sc_law_word.nd rfl (Or.inl rfl) (k_add (K := K) (by rfl) (v2 _) (de_lst (da_cons (k_add (K := K) (by rfl) (v3 _) de_int) (da_cons (k_add (K := K) (by rfl) (v3 _) de_int) da_nil)))))))))
  (dss_one (ds_ret (k_add (K := K) (by rfl) (v2 _) (de_lc (own := [("k", 3)]) (is := [3]) rfl sc_law_word.nd (di_range1 (by rfl) T.z_range (da_cons (v1 _) da_nil)) (blkOk_by (own := [("k", 3)]) (N := ["base", "many", "told", "k"]) (sc := defScope s_law_word) (by decide +kernel)) (fun _ _ _ _ _ => (dg_name (i := 3) sc_law_word.nd rfl (Or.inl rfl))) (by decide) (fun _ _ _ _ _ => dts_nil) (fun _ _ _ _ _ => (k_add (K := K) (by rfl) (k_add (K := K) (by rfl) (k_call (K := K) (by rfl) (G_law_letters (base := base) (P := P) T) (by exact hr.mono (by decide)) (by rfl) T.g_law_letters T.F_law_letters.kp (bind_law_letters T) pass0 (da_cons (de_var (i := 0) (x := "base") rfl (Or.inr (Or.inl rfl))) da_nil) (da_len1 da_len0)) (de_var (i := 3) (x := "k") rfl (Or.inl rfl))) de_int)))))))))⟩
theorem G_kind_defect (T : Txt K mg) : FnOk P w K mg base CX0 1 T.a_kind_defect T.d_kind_defect ["row"] (spM K 1 fn_kind_defect) := by
  refine fn_ok T.F_kind_defect sc_kind_defect rfl (by decide) fun cdv A outer s H E (hr : Room 0 _) => ?_
  have hu : (XX P w K mg base ["row"] "kind_defect" s_kind_defect T.a_kind_defect cdv A outer s H E).A.units + 65 < cLine := by
    show (A.deeper _).units + 65 < cLine
    have := hr.un
    omega
  have v0 : ∀ p, DE (XX P w K mg base ["row"] "kind_defect" s_kind_defect T.a_kind_defect cdv A outer s H E) (.Name "row" p) (tVar 0) (rdV 0) := fun p => de_var rfl (Or.inl rfl)
  exact ⟨_, (show DSs (XX P w K mg base ["row"] "kind_defect" s_kind_defect T.a_kind_defect cdv A outer s H E) (defBody s_kind_defect) _ b_kind_defect from (dss_one (ds_ret (de_sub (k_callB1 (K := K) (by rfl) (kc_sumA (K := K) (by rfl)) sumAD_ok (by rfl) T.z_sum (by decide +kernel) (v0 _)) (k_callB1 (K := K) (by rfl) (kc_len (K := K) (by rfl)) lenD_ok (by rfl) T.z_len PySem.boot_len (v0 _))))))⟩
theorem G_euler_above (T : Txt K mg) : FnOk P w K mg base CX0 2 T.a_euler_above T.d_euler_above ["datum"] (spM K 1 fn_euler_above) := by
  refine fn_ok T.F_euler_above sc_euler_above rfl (by decide) fun cdv A outer s H E (hr : Room 1 _) => ?_
  have hu : (XX P w K mg base ["datum", "base", "sheets", "kinds", "_", "row"] "euler_above" s_euler_above T.a_euler_above cdv A outer s H E).A.units + 65 < cLine := by
    show (A.deeper _).units + 65 < cLine
    have := hr.un
    omega
  have v0 : ∀ p, DE (XX P w K mg base ["datum", "base", "sheets", "kinds", "_", "row"] "euler_above" s_euler_above T.a_euler_above cdv A outer s H E) (.Name "datum" p) (tVar 0) (rdV 0) := fun p => de_var rfl (Or.inl rfl)
  have v1 : ∀ p, DE (XX P w K mg base ["datum", "base", "sheets", "kinds", "_", "row"] "euler_above" s_euler_above T.a_euler_above cdv A outer s H E) (.Name "base" p) (tVar 1) (rdV 1) := fun p => de_var rfl (Or.inl rfl)
  have v2 : ∀ p, DE (XX P w K mg base ["datum", "base", "sheets", "kinds", "_", "row"] "euler_above" s_euler_above T.a_euler_above cdv A outer s H E) (.Name "sheets" p) (tVar 2) (rdV 2) := fun p => de_var rfl (Or.inl rfl)
  have v3 : ∀ p, DE (XX P w K mg base ["datum", "base", "sheets", "kinds", "_", "row"] "euler_above" s_euler_above T.a_euler_above cdv A outer s H E) (.Name "kinds" p) (tVar 3) (rdV 3) := fun p => de_var rfl (Or.inl rfl)
  exact ⟨_, (show DSs (XX P w K mg base ["datum", "base", "sheets", "kinds", "_", "row"] "euler_above" s_euler_above T.a_euler_above cdv A outer s H E) (defBody s_euler_above) _ b_euler_above from (dss_cons (ds_asg (v0 _) (k_gtup (K := K) (by rfl) (by rfl) (dgs_cons (dg_name (i := 1) sc_euler_above.nd rfl (Or.inl rfl)) (dgs_cons (dg_name (i := 2) sc_euler_above.nd rfl (Or.inl rfl)) (dgs_cons (dg_name (i := 3) sc_euler_above.nd rfl (Or.inl rfl)) (dgs_cons (dg_name (i := 4) sc_euler_above.nd rfl (Or.inl rfl)) dgs_nil))))))
  (dss_one (ds_ret (de_sub (de_mul (v2 _) (k_call (K := K) (by rfl) (G_euler (base := base) (P := P) T) (by exact hr.mono (by decide)) (by rfl) T.g_euler T.F_euler.kp (bind_euler T) pass0 (da_cons (v1 _) da_nil) (da_len1 da_len0))) (k_callB1 (K := K) (by rfl) (kc_sumA (K := K) (by rfl)) sumAD_ok (by rfl) T.z_sum (by decide +kernel) (de_lc (own := [("row", 5)]) (is := [5]) rfl sc_euler_above.nd (k_seq (K := K) (by rfl) (v3 _)) (blkOk_by (own := [("row", 5)]) (N := ["datum", "base", "sheets", "kinds", "_", "row"]) (sc := defScope s_euler_above) (by decide +kernel)) (fun _ _ _ _ _ => (dg_name (i := 5) sc_euler_above.nd rfl (Or.inl rfl))) (by decide) (fun _ _ _ _ _ => dts_nil) (fun _ _ _ _ _ => (k_call (K := K) (by rfl) (G_kind_defect (base := base) (P := P) T) (by exact hr.mono (by decide)) (by rfl) T.g_kind_defect T.F_kind_defect.kp (bind_kind_defect T) pass0 (da_cons (de_var (i := 5) (x := "row") rfl (Or.inl rfl)) da_nil) (da_len1 da_len0))))))))))⟩
/-- the law is true -/
theorem G_law (T : Txt K mg) (main : ∀ ns : List Int, ns.length ≤ 63 → ∃ ps, b_law ⟨(List.replicate 13 Sl.un).set 1 (.fr (.dict [])), stateA ns⟩ = some (.rt (.im (.bool true)) ps)) : FnOk P w K mg base CX0 6 T.a_law T.d_law ["script"] (spLaw K) := by
  refine T.F_law.ok sc_law (fun vs H Q E h => ?_) (fun cdv A outer s H vs Q E (hr : Room 5 _) h => ?_)
  · obtain ⟨a, ns, rfl, _⟩ := h
    rfl
  obtain ⟨a, ns, rfl, hS, hlen, htb, q⟩ := h
  have hu : (XX P w K mg base ["script", "state", "base", "n", "kinds", "sides", "datum", "fault", "bad", "due", "told", "k", "row"] "law" s_law T.a_law cdv A outer s H E).A.units + 65 < cLine := by
    show (A.deeper _).units + 65 < cLine
    have := hr.un
    omega
  have v1 : ∀ p, DE (XX P w K mg base ["script", "state", "base", "n", "kinds", "sides", "datum", "fault", "bad", "due", "told", "k", "row"] "law" s_law T.a_law cdv A outer s H E) (.Name "state" p) (tVar 1) (rdV 1) := fun p => de_var rfl (Or.inr (Or.inl rfl))
  have v2 : ∀ p, DE (XX P w K mg base ["script", "state", "base", "n", "kinds", "sides", "datum", "fault", "bad", "due", "told", "k", "row"] "law" s_law T.a_law cdv A outer s H E) (.Name "base" p) (tVar 2) (rdV 2) := fun p => de_var rfl (Or.inl rfl)
  have v3 : ∀ p, DE (XX P w K mg base ["script", "state", "base", "n", "kinds", "sides", "datum", "fault", "bad", "due", "told", "k", "row"] "law" s_law T.a_law cdv A outer s H E) (.Name "n" p) (tVar 3) (rdV 3) := fun p => de_var rfl (Or.inr (Or.inl rfl))
  have v4 : ∀ p, DE (XX P w K mg base ["script", "state", "base", "n", "kinds", "sides", "datum", "fault", "bad", "due", "told", "k", "row"] "law" s_law T.a_law cdv A outer s H E) (.Name "kinds" p) (tVar 4) (rdV 4) := fun p => de_var rfl (Or.inl rfl)
  have v5 : ∀ p, DE (XX P w K mg base ["script", "state", "base", "n", "kinds", "sides", "datum", "fault", "bad", "due", "told", "k", "row"] "law" s_law T.a_law cdv A outer s H E) (.Name "sides" p) (tVar 5) (rdV 5) := fun p => de_var rfl (Or.inl rfl)
  have v6 : ∀ p, DE (XX P w K mg base ["script", "state", "base", "n", "kinds", "sides", "datum", "fault", "bad", "due", "told", "k", "row"] "law" s_law T.a_law cdv A outer s H E) (.Name "datum" p) (tVar 6) (rdV 6) := fun p => de_var rfl (Or.inl rfl)
  have v7 : ∀ p, DE (XX P w K mg base ["script", "state", "base", "n", "kinds", "sides", "datum", "fault", "bad", "due", "told", "k", "row"] "law" s_law T.a_law cdv A outer s H E) (.Name "fault" p) (tVar 7) (rdV 7) := fun p => de_var rfl (Or.inl rfl)
  have v8 : ∀ p, DE (XX P w K mg base ["script", "state", "base", "n", "kinds", "sides", "datum", "fault", "bad", "due", "told", "k", "row"] "law" s_law T.a_law cdv A outer s H E) (.Name "bad" p) (tVar 8) (rdV 8) := fun p => de_var rfl (Or.inl rfl)
  have v9 : ∀ p, DE (XX P w K mg base ["script", "state", "base", "n", "kinds", "sides", "datum", "fault", "bad", "due", "told", "k", "row"] "law" s_law T.a_law cdv A outer s H E) (.Name "due" p) (tVar 9) (rdV 9) := fun p => de_var rfl (Or.inl rfl)
  have v10 : ∀ p, DE (XX P w K mg base ["script", "state", "base", "n", "kinds", "sides", "datum", "fault", "bad", "due", "told", "k", "row"] "law" s_law T.a_law cdv A outer s H E) (.Name "told" p) (tVar 10) (rdV 10) := fun p => de_var rfl (Or.inl rfl)
  have D : DSs (XX P w K mg base ["script", "state", "base", "n", "kinds", "sides", "datum", "fault", "bad", "due", "told", "k", "row"] "law" s_law T.a_law cdv A outer s H E) ((defBody s_law).drop 1) _ b_law := (dss_cons (ds_set (i := 2) sc_law.nd rfl (Or.inl rfl) (de_if (kt_cmp (K := K) (by rfl) (ko_eq (K := K) (by rfl) (by exact hu)) eqD_ok (k_call (K := K) (by rfl) (G_law_draw (base := base) (P := P) T) (by exact hr.mono (by decide)) (by rfl) T.g_law_draw T.F_law_draw.kp (bind_law_draw T) pass0 (da_cons (v1 _) (da_cons de_int da_nil)) (da_len1 (da_len1 da_len0))) de_int (nomark _)) (de_tup (da_cons de_str (da_cons (k_call (K := K) (by rfl) (G_law_draw (base := base) (P := P) T) (by exact hr.mono (by decide)) (by rfl) T.g_law_draw T.F_law_draw.kp (bind_law_draw T) pass0 (da_cons (v1 _) (da_cons de_int da_nil)) (da_len1 (da_len1 da_len0))) da_nil))) (de_tup (da_cons de_str (da_cons (k_add (K := K) (by rfl) de_int (k_call (K := K) (by rfl) (G_law_draw (base := base) (P := P) T) (by exact hr.mono (by decide)) (by rfl) T.g_law_draw T.F_law_draw.kp (bind_law_draw T) pass0 (da_cons (v1 _) (da_cons de_int da_nil)) (da_len1 (da_len1 da_len0)))) da_nil)))))
  (dss_cons (ds_set (i := 3) sc_law.nd rfl (Or.inr rfl) (k_add (K := K) (by rfl) de_int (k_call (K := K) (by rfl) (G_law_draw (base := base) (P := P) T) (by exact hr.mono (by decide)) (by rfl) T.g_law_draw T.F_law_draw.kp (bind_law_draw T) pass0 (da_cons (v1 _) (da_cons (k_ix (K := K) (by rfl) (de_lst (da_cons de_int (da_cons de_int da_nil))) (k_call (K := K) (by rfl) (G_law_draw (base := base) (P := P) T) (by exact hr.mono (by decide)) (by rfl) T.g_law_draw T.F_law_draw.kp (bind_law_draw T) pass0 (da_cons (v1 _) (da_cons de_int da_nil)) (da_len1 (da_len1 da_len0))) (by intro _ _; rfl)) da_nil)) (da_len1 (da_len1 da_len0)))))
  (dss_cons (ds_set (i := 4) sc_law.nd rfl (Or.inl rfl) (k_callT1 (K := K) (by rfl) (kc_tuple (K := K) (by rfl)) tupleD_ok (by rfl) T.z_tuple (by decide +kernel) (de_lc (own := [("k", 11)]) (is := [11]) rfl sc_law.nd (di_range1 (by rfl) T.z_range (da_cons (k_call (K := K) (by rfl) (G_law_draw (base := base) (P := P) T) (by exact hr.mono (by decide)) (by rfl) T.g_law_draw T.F_law_draw.kp (bind_law_draw T) pass0 (da_cons (v1 _) (da_cons de_int da_nil)) (da_len1 (da_len1 da_len0))) da_nil)) (blkOk_by (own := [("k", 11)]) (N := ["script", "state", "base", "n", "kinds", "sides", "datum", "fault", "bad", "due", "told", "k", "row"]) (sc := defScope s_law) (by decide +kernel)) (fun _ _ _ _ _ => (dg_name (i := 11) sc_law.nd rfl (Or.inl rfl))) (by decide) (fun _ _ _ _ _ => dts_nil) (fun _ _ _ _ _ => (k_call (K := K) (by rfl) (G_law_draw_kind (base := base) (P := P) T) (by exact hr.mono (by decide)) (by rfl) T.g_law_draw_kind T.F_law_draw_kind.kp (bind_law_draw_kind T) pass0 (da_cons (de_var (i := 1) (x := "state") rfl (Or.inr (Or.inl rfl))) (da_cons (de_var (i := 3) (x := "n") rfl (Or.inr (Or.inl rfl))) da_nil)) (da_len1 (da_len1 da_len0)))))))
  (dss_cons (ds_set (i := 5) sc_law.nd rfl (Or.inl rfl) (de_if (kt_cmp (K := K) (by rfl) (ko_eq (K := K) (by rfl) (by exact hu)) eqD_ok (k_ix (K := K) (by rfl) (v2 _) de_int (by intro _ _; rfl)) de_str (nomark _)) de_str (k_ix (K := K) (by rfl) (de_lst (da_cons de_str (da_cons de_str da_nil))) (k_call (K := K) (by rfl) (G_law_draw (base := base) (P := P) T) (by exact hr.mono (by decide)) (by rfl) T.g_law_draw T.F_law_draw.kp (bind_law_draw T) pass0 (da_cons (v1 _) (da_cons de_int da_nil)) (da_len1 (da_len1 da_len0))) (by intro _ _; rfl))))
  (dss_cons (ds_set (i := 6) sc_law.nd rfl (Or.inl rfl) (de_tup (da_cons (v2 _) (da_cons (v3 _) (da_cons (v4 _) (da_cons (v5 _) da_nil))))))
  (dss_cons (ds_ite (kt_cmp (K := K) (by rfl) (ko_ne (K := K) (by rfl) (by exact hu)) neD_ok (k_call (K := K) (by rfl) (G_law_told (base := base) (P := P) T) (by exact hr.mono (by decide)) (by rfl) T.g_law_told T.F_law_told.kp (bind_law_told T) pass0 (da_cons (v6 _) da_nil) (da_len1 da_len0)) (de_tup da_nil) (nomark _)) (dss_one (ds_ret de_bl)) dss_nil)
  (dss_cons (ds_for PassesOwn.never rfl (di_range1 (by rfl) T.z_range (da_cons de_int da_nil)) (dg_name (i := 7) sc_law.nd rfl (Or.inl rfl)) (dss_cons (ds_asg (k_call (K := K) (by rfl) (G_law_bad (base := base) (P := P) T) (by exact hr.mono (by decide)) (by rfl) T.g_law_bad T.F_law_bad.kp (bind_law_bad T) pass0 (da_cons (v1 _) (da_cons (v6 _) (da_cons (v7 _) da_nil))) (da_len1 (da_len1 (da_len1 da_len0)))) (k_gtup (K := K) (by rfl) (by rfl) (dgs_cons (dg_name (i := 8) sc_law.nd rfl (Or.inl rfl)) (dgs_cons (dg_name (i := 9) sc_law.nd rfl (Or.inl rfl)) dgs_nil))))
  (dss_cons (ds_ite (kt_cmp (K := K) (by rfl) (ko_ne (K := K) (by rfl) (by exact hu)) neD_ok (k_call (K := K) (by rfl) (G_law_told (base := base) (P := P) T) (by exact hr.mono (by decide)) (by rfl) T.g_law_told T.F_law_told.kp (bind_law_told T) pass0 (da_cons (v8 _) da_nil) (da_len1 da_len0)) (v9 _) (nomark _)) (dss_one (ds_ret de_bl)) dss_nil)
  (dss_one (ds_ite (DW.dt (dw_and (kt_cmp (K := K) (by rfl) (ko_ne (K := K) (by rfl) (by exact hu)) neD_ok (k_ix (K := K) (by rfl) (v9 _) de_int (by intro _ _; rfl)) de_str (nomark _)) (dw_and1 (kt_cmp (K := K) (by rfl) (ko_ne (K := K) (by rfl) (by exact hu)) neD_ok (k_call (K := K) (by rfl) (G_law_told (base := base) (P := P) T) (by exact hr.mono (by decide)) (by rfl) T.g_law_told T.F_law_told.kp (bind_law_told T) pass0 (da_cons (k_add (K := K) (by rfl) (k_slice (K := K) (by rfl) (v8 _) do_none (do_some de_int)) (de_tup (da_cons de_str da_nil))) da_nil) (da_len1 da_len0)) (v9 _) (nomark _))))) (dss_one (ds_ret de_bl)) dss_nil)))))
  (dss_cons (ds_ite (DW.dt (dw_or (kt_cmp (K := K) (by rfl) (ko_ne (K := K) (by rfl) (by exact hu)) neD_ok (k_call (K := K) (by rfl) (G_euler (base := base) (P := P) T) (by exact hr.mono (by decide)) (by rfl) T.g_euler T.F_euler.kp (bind_euler T) pass0 (da_cons (v2 _) da_nil) (da_len1 da_len0)) (k_call (K := K) (by rfl) (G_law_euler (base := base) (P := P) T) (by exact hr.mono (by decide)) (by rfl) T.g_law_euler T.F_law_euler.kp (bind_law_euler T) pass0 (da_cons (v2 _) da_nil) (da_len1 da_len0)) (nomark _)) (dw_or1 (kt_cmp (K := K) (by rfl) (ko_ne (K := K) (by rfl) (by exact hu)) neD_ok (k_call (K := K) (by rfl) (G_letters (base := base) (P := P) T) (by exact hr.mono (by decide)) (by rfl) T.g_letters T.F_letters.kp (bind_letters T) pass0 (da_cons (v2 _) da_nil) (da_len1 da_len0)) (k_call (K := K) (by rfl) (G_law_letters (base := base) (P := P) T) (by exact hr.mono (by decide)) (by rfl) T.g_law_letters T.F_law_letters.kp (bind_law_letters T) pass0 (da_cons (v2 _) da_nil) (da_len1 da_len0)) (nomark _))))) (dss_one (ds_ret de_bl)) dss_nil)
  (dss_cons (ds_set (i := 10) sc_law.nd rfl (Or.inl rfl) (k_call (K := K) (by rfl) (G_word (base := base) (P := P) T) (by exact hr.mono (by decide)) (by rfl) T.g_word T.F_word.kp (bind_word T) pass0 (da_cons (v2 _) (da_cons (k_callB1 (K := K) (by rfl) (kc_len (K := K) (by rfl)) lenD_ok (by rfl) T.z_len PySem.boot_len (v4 _)) da_nil)) (da_len1 (da_len1 da_len0))))
  (dss_cons (ds_ite (DW.dt (dw_or (dt_not (k_truth (K := K) (by rfl) (k_isi (K := K) (by rfl) (T := .tuple) (by decide) (by rfl) T.z_isinstance (by rfl) T.z_tuple rfl (by decide +kernel) (v10 _)) (by intro _; rfl))) (dw_or1 (kt_cmp (K := K) (by rfl) (ko_ne (K := K) (by rfl) (by exact hu)) neD_ok (v10 _) (k_callT1 (K := K) (by rfl) (kc_tuple (K := K) (by rfl)) tupleD_ok (by rfl) T.z_tuple (by decide +kernel) (k_call (K := K) (by rfl) (G_law_word (base := base) (P := P) T) (by exact hr.mono (by decide)) (by rfl) T.g_law_word T.F_law_word.kp (bind_law_word T) pass0 (da_cons (v2 _) (da_cons (k_callB1 (K := K) (by rfl) (kc_len (K := K) (by rfl)) lenD_ok (by rfl) T.z_len PySem.boot_len (v4 _)) da_nil)) (da_len1 (da_len1 da_len0)))) (nomark _))))) (dss_one (ds_ret de_bl)) dss_nil)
  (dss_one (ds_ret (k_cmp (K := K) (by rfl) (ko_eq (K := K) (by rfl) (by exact hu)) eqD_ok (k_call (K := K) (by rfl) (G_euler_above (base := base) (P := P) T) (by exact hr.mono (by decide)) (by rfl) T.g_euler_above T.F_euler_above.kp (bind_euler_above T) pass0 (da_cons (v6 _) da_nil) (da_len1 da_len0)) (de_sub (de_mul (v3 _) (k_call (K := K) (by rfl) (G_law_euler (base := base) (P := P) T) (by exact hr.mono (by decide)) (by rfl) T.g_law_euler T.F_law_euler.kp (bind_law_euler T) pass0 (da_cons (v2 _) da_nil) (da_len1 da_len0))) (k_callB1 (K := K) (by rfl) (kc_sumA (K := K) (by rfl)) sumAD_ok (by rfl) T.z_sum (by decide +kernel) (de_lc (own := [("row", 12)]) (is := [12]) rfl sc_law.nd (k_seq (K := K) (by rfl) (v4 _)) (blkOk_by (own := [("row", 12)]) (N := ["script", "state", "base", "n", "kinds", "sides", "datum", "fault", "bad", "due", "told", "k", "row"]) (sc := defScope s_law) (by decide +kernel)) (fun _ _ _ _ _ => (dg_name (i := 12) sc_law.nd rfl (Or.inl rfl))) (by decide) (fun _ _ _ _ _ => dts_nil) (fun _ _ _ _ _ => (de_sub (de_var (i := 3) (x := "n") rfl (Or.inr (Or.inl rfl))) (k_callB1 (K := K) (by rfl) (kc_len (K := K) (by rfl)) lenD_ok (by rfl) T.z_len PySem.boot_len (de_var (i := 12) (x := "row") rfl (Or.inl rfl)))))))) (nomark _))))))))))))))
  refine ⟨_, pss_cons (ps_set (i := 1) sc_law.nd rfl (Or.inr rfl) (pe_call (G_law_state (base := base) (P := P) T) (hr.mono (by decide)) (by rfl) T.g_law_state T.F_law_state.kp (bind_law_state T) .nil pass0 (pa_cons (pv 0) pa_nil))) D.pe, ?_⟩
  obtain ⟨ps, e⟩ := main ns hlen
  exact ⟨.ref a, rfl, a, ns, rfl, hS, hlen, fun p c H1 sm da => law_rest D.sn (N := 13) (i := 1) (by decide) (by rfl) (by rfl) da (fun P hP => tabG_same sm (htb P hP)) e fun H2 => q H2⟩
end
/-! ### the end: the head by facts, with tables -/
abbrev R : PySem.W.OpenRow := PySem.W.OpenLaw.row PySem.Challenge.rw_manysheets_k08_rules_of_data
def D_law_state : He.DefD := ⟨("_law_state", none), "_law_state", "_law_state", defArgs s_law_state, defBody s_law_state, defScope s_law_state, [], []⟩
def D_law_draw : He.DefD := ⟨("_law_draw", none), "_law_draw", "_law_draw", defArgs s_law_draw, defBody s_law_draw, defScope s_law_draw, [], []⟩
def D_law_draw_kind : He.DefD := ⟨("_law_draw_kind", none), "_law_draw_kind", "_law_draw_kind", defArgs s_law_draw_kind, defBody s_law_draw_kind, defScope s_law_draw_kind, [], []⟩
def D_require : He.DefD := ⟨("require", none), "require", "require", defArgs s_require, defBody s_require, defScope s_require, [], []⟩
def D_letters : He.DefD := ⟨("letters", none), "letters", "letters", defArgs s_letters, defBody s_letters, defScope s_letters, [], []⟩
def D_word : He.DefD := ⟨("word", none), "word", "word", defArgs s_word, defBody s_word, defScope s_word, [], []⟩
def D_base_right : He.DefD := ⟨("base_right", none), "base_right", "base_right", defArgs s_base_right, defBody s_base_right, defScope s_base_right, [], []⟩
def D_is_kind : He.DefD := ⟨("is_kind", none), "is_kind", "is_kind", defArgs s_is_kind, defBody s_is_kind, defScope s_is_kind, [], []⟩
def D_check_datum : He.DefD := ⟨("check_datum", none), "check_datum", "check_datum", defArgs s_check_datum, defBody s_check_datum, defScope s_check_datum, [], []⟩
def D_law_told : He.DefD := ⟨("_law_told", none), "_law_told", "_law_told", defArgs s_law_told, defBody s_law_told, defScope s_law_told, [], []⟩
def D_law_bad : He.DefD := ⟨("_law_bad", none), "_law_bad", "_law_bad", defArgs s_law_bad, defBody s_law_bad, defScope s_law_bad, [], []⟩
def D_euler : He.DefD := ⟨("euler", none), "euler", "euler", defArgs s_euler, defBody s_euler, defScope s_euler, [], []⟩
def D_law_euler : He.DefD := ⟨("_law_euler", none), "_law_euler", "_law_euler", defArgs s_law_euler, defBody s_law_euler, defScope s_law_euler, [], []⟩
def D_law_letters : He.DefD := ⟨("_law_letters", none), "_law_letters", "_law_letters", defArgs s_law_letters, defBody s_law_letters, defScope s_law_letters, [], []⟩
def D_law_word : He.DefD := ⟨("_law_word", none), "_law_word", "_law_word", defArgs s_law_word, defBody s_law_word, defScope s_law_word, [], []⟩
def D_kind_defect : He.DefD := ⟨("kind_defect", none), "kind_defect", "kind_defect", defArgs s_kind_defect, defBody s_kind_defect, defScope s_kind_defect, [], []⟩
def D_euler_above : He.DefD := ⟨("euler_above", none), "euler_above", "euler_above", defArgs s_euler_above, defBody s_euler_above, defScope s_euler_above, [], []⟩
def D_law : He.DefD := ⟨("law", none), "law", "law", defArgs s_law, defBody s_law, defScope s_law, [], []⟩
def fns : List He.DefD := [D_law_state, D_law_draw, D_law_draw_kind, D_require, D_letters, D_word, D_base_right, D_is_kind, D_check_datum, D_law_told, D_law_bad, D_euler, D_law_euler, D_law_letters, D_law_word, D_kind_defect, D_euler_above, D_law]
def fas : List He.Fa := [.glo "_law_state", .glo "_law_draw", .glo "_law_draw_kind", .glo "require", .glo "letters", .glo "word", .glo "base_right", .glo "is_kind", .glo "check_datum", .glo "_law_told", .glo "_law_bad", .glo "euler", .glo "_law_euler", .glo "_law_letters", .glo "_law_word", .glo "kind_defect", .glo "euler_above", .glo "law", .free "abs", .free "all", .free "any", .free "enumerate", .free "int", .free "isinstance", .free "len", .free "min", .free "range", .free "set", .free "sorted", .free "str", .free "sum", .free "tuple", .int "MOST_SHEETS" 60, .int "MOST_HANDLES" 12, .int "MOST_CAPS" 24, .int "MOST_KINDS" 8]
def fasX : List He.Fa := [.glo "_law_state", .glo "_law_draw", .glo "_law_draw_kind", .glo "require", .glo "letters", .glo "word", .glo "base_right", .glo "is_kind", .glo "check_datum", .glo "_law_told", .glo "_law_bad", .glo "euler", .glo "_law_euler", .glo "_law_letters", .glo "_law_word", .glo "kind_defect", .glo "euler_above", .glo "law", .free "abs", .free "all", .free "any", .free "enumerate", .free "int", .free "isinstance", .free "len", .free "min", .free "range", .free "set", .free "sorted", .free "str", .free "sum", .free "tuple", .int "MOST_SHEETS" 60, .int "MOST_HANDLES" 12, .int "MOST_CAPS" 24, .int "MOST_KINDS" 8, .glo "DatumError", .glo "SheetError"]
def s_init : Stmt := (C8.clsBody (topS 2)).getD 0 (.Pass ⟨0, 0, 0, 0⟩)
abbrev prg : Program := R.prog
def exB : Fg → Bool := fun K => meB prg.main.file K "DatumError" && exiB K "DatumError" "SheetError"
def mvX : MeV := some ("DatumError.__init__", defArgs s_init, .stmts (defBody s_init), defScope s_init, mainGlobals, ([PySem.Str.ofString "__class__"] : List Str), Value.none, builtinsNs)
abbrev hk : PySem.W.Hook := hookZ 5 fasX fns [] tf exB "DatumError" mvX
def ob (s : PySem.W.SharedT) : AlZ := obsZ 5 fasX fns [] tf exB "DatumError" (HandSHeadRun.getT s)
theorem ob_eq (s : PySem.W.SharedT) : ob s = hk.obs s.abs := obsZ_eq (mv := mvX) (HandSHeadRun.getT_eq s)
theorem all_mkT {w : World} {K : PySem.W.Frag} {h : Heap} {mg : Str → Option Value} {fa : Addr} (X : K.In h) (G : h.Ns mainGlobals mg) (hfa : mg "law" = some (.ref fa)) (c : He.SaysX fasX fns [] tf exB w h K) (mo : meObs K "DatumError" = mvX)
    (main : ∀ ns : List Int, ns.length ≤ 63 → ∃ ps, b_law ⟨(List.replicate 13 Sl.un).set 1 (.fr (.dict [])), stateA ns⟩ = some (.rt (.im (.bool true)) ps)) :
    LamX.LawAtS PySem.Challenge.rw_manysheets_k08_rules_of_data w K CX0 6 63 "script" mg fa h := by
  have cd : He.SaysD fasX fns K := congrArg (fun z : He.AlT => z.1) c.t
  obtain ⟨d0, F0⟩ := cd.def_ 0 (d := D_law_state) rfl
  obtain ⟨d1, F1⟩ := cd.def_ 1 (d := D_law_draw) rfl
  obtain ⟨d2, F2⟩ := cd.def_ 2 (d := D_law_draw_kind) rfl
  obtain ⟨d3, F3⟩ := cd.def_ 3 (d := D_require) rfl
  obtain ⟨d4, F4⟩ := cd.def_ 4 (d := D_letters) rfl
  obtain ⟨d5, F5⟩ := cd.def_ 5 (d := D_word) rfl
  obtain ⟨d6, F6⟩ := cd.def_ 6 (d := D_base_right) rfl
  obtain ⟨d7, F7⟩ := cd.def_ 7 (d := D_is_kind) rfl
  obtain ⟨d8, F8⟩ := cd.def_ 8 (d := D_check_datum) rfl
  obtain ⟨d9, F9⟩ := cd.def_ 9 (d := D_law_told) rfl
  obtain ⟨d10, F10⟩ := cd.def_ 10 (d := D_law_bad) rfl
  obtain ⟨d11, F11⟩ := cd.def_ 11 (d := D_euler) rfl
  obtain ⟨d12, F12⟩ := cd.def_ 12 (d := D_law_euler) rfl
  obtain ⟨d13, F13⟩ := cd.def_ 13 (d := D_law_letters) rfl
  obtain ⟨d14, F14⟩ := cd.def_ 14 (d := D_law_word) rfl
  obtain ⟨d15, F15⟩ := cd.def_ 15 (d := D_kind_defect) rfl
  obtain ⟨d16, F16⟩ := cd.def_ 16 (d := D_euler_above) rfl
  obtain ⟨d17, F17⟩ := cd.def_ 17 (d := D_law) rfl
  obtain ⟨tk_MOST_SHEETS, y_MOST_SHEETS⟩ := He.int_ok X G (cd.fact 32 (f := .int "MOST_SHEETS" 60) rfl)
  obtain ⟨tk_MOST_HANDLES, y_MOST_HANDLES⟩ := He.int_ok X G (cd.fact 33 (f := .int "MOST_HANDLES" 12) rfl)
  obtain ⟨tk_MOST_CAPS, y_MOST_CAPS⟩ := He.int_ok X G (cd.fact 34 (f := .int "MOST_CAPS" 24) rfl)
  obtain ⟨tk_MOST_KINDS, y_MOST_KINDS⟩ := He.int_ok X G (cd.fact 35 (f := .int "MOST_KINDS" 8) rfl)
  have e := hfa.symm.trans (He.glo_ok X G (cd.fact 17 (f := .glo "law") rfl))
  cases e
  let T : Txt K mg := ⟨_, d0, fun_ofD (st := s_law_state) F0, He.glo_ok X G (cd.fact 0 (f := .glo "_law_state") rfl), _, d1, fun_ofD (st := s_law_draw) F1, He.glo_ok X G (cd.fact 1 (f := .glo "_law_draw") rfl), _, d2, fun_ofD (st := s_law_draw_kind) F2, He.glo_ok X G (cd.fact 2 (f := .glo "_law_draw_kind") rfl), _, d3, fun_ofD (st := s_require) F3, He.glo_ok X G (cd.fact 3 (f := .glo "require") rfl), _, d4, fun_ofD (st := s_letters) F4, He.glo_ok X G (cd.fact 4 (f := .glo "letters") rfl), _, d5, fun_ofD (st := s_word) F5, He.glo_ok X G (cd.fact 5 (f := .glo "word") rfl), _, d6, fun_ofD (st := s_base_right) F6, He.glo_ok X G (cd.fact 6 (f := .glo "base_right") rfl), _, d7, fun_ofD (st := s_is_kind) F7, He.glo_ok X G (cd.fact 7 (f := .glo "is_kind") rfl), code_ofD (st := s_is_kind) F7, _, d8, fun_ofD (st := s_check_datum) F8, He.glo_ok X G (cd.fact 8 (f := .glo "check_datum") rfl), _, d9, fun_ofD (st := s_law_told) F9, He.glo_ok X G (cd.fact 9 (f := .glo "_law_told") rfl), _, d10, fun_ofD (st := s_law_bad) F10, He.glo_ok X G (cd.fact 10 (f := .glo "_law_bad") rfl), _, d11, fun_ofD (st := s_euler) F11, He.glo_ok X G (cd.fact 11 (f := .glo "euler") rfl), _, d12, fun_ofD (st := s_law_euler) F12, He.glo_ok X G (cd.fact 12 (f := .glo "_law_euler") rfl), _, d13, fun_ofD (st := s_law_letters) F13, He.glo_ok X G (cd.fact 13 (f := .glo "_law_letters") rfl), _, d14, fun_ofD (st := s_law_word) F14, He.glo_ok X G (cd.fact 14 (f := .glo "_law_word") rfl), _, d15, fun_ofD (st := s_kind_defect) F15, He.glo_ok X G (cd.fact 15 (f := .glo "kind_defect") rfl), _, d16, fun_ofD (st := s_euler_above) F16, He.glo_ok X G (cd.fact 16 (f := .glo "euler_above") rfl), _, d17, fun_ofD (st := s_law) F17, He.glo_ok X G (cd.fact 17 (f := .glo "law") rfl), He.free_ok X G (cd.fact 18 (f := .free "abs") rfl), He.free_ok X G (cd.fact 19 (f := .free "all") rfl), He.free_ok X G (cd.fact 20 (f := .free "any") rfl), He.free_ok X G (cd.fact 21 (f := .free "enumerate") rfl), He.free_ok X G (cd.fact 22 (f := .free "int") rfl), He.free_ok X G (cd.fact 23 (f := .free "isinstance") rfl), He.free_ok X G (cd.fact 24 (f := .free "len") rfl), He.free_ok X G (cd.fact 25 (f := .free "min") rfl), He.free_ok X G (cd.fact 26 (f := .free "range") rfl), He.free_ok X G (cd.fact 27 (f := .free "set") rfl), He.free_ok X G (cd.fact 28 (f := .free "sorted") rfl), He.free_ok X G (cd.fact 29 (f := .free "str") rfl), He.free_ok X G (cd.fact 30 (f := .free "sum") rfl), He.free_ok X G (cd.fact 31 (f := .free "tuple") rfl), tk_MOST_SHEETS, y_MOST_SHEETS, tk_MOST_HANDLES, y_MOST_HANDLES, tk_MOST_CAPS, y_MOST_CAPS, tk_MOST_KINDS, y_MOST_KINDS⟩
  obtain ⟨cm, ci⟩ := Bool.and_eq_true_iff.mp (show (meB prg.main.file K "DatumError" && exiB K "DatumError" "SheetError") = true from c.more)
  have me : MeK prg K (He.ga K "DatumError") (He.ma K (He.ga K "DatumError") "__init__") := meK_of cm mo rfl rfl rfl rfl rfl (by decide +kernel) rfl rfl rfl rfl rfl (fun _ _ _ _ _ _ _ _ _ _ _ _ => .of_eq rfl) (by rfl) (fun env => ⟨_, rfl⟩)
  letI IB : ExcB PySem.Challenge.rw_manysheets_k08_rules_of_data.prog mg K "DatumError" := ⟨He.ga K "DatumError", He.ma K (He.ga K "DatumError") "__init__", me, meX_of cm, meE_of cm, He.glo_ok X G (cd.fact 36 (f := .glo "DatumError") rfl)⟩
  haveI : ExcI PySem.Challenge.rw_manysheets_k08_rules_of_data.prog mg K "DatumError" "SheetError" := ⟨He.ga K "SheetError", He.glo_ok X G (cd.fact 37 (f := .glo "SheetError") rfl), exiQ_of ci, exiI_of ci⟩
  refine lawAtT X c (fun P hP => ?_) (fd := T.d_law) (fun s v => ?_) fun base _ _ hB => ?_
  · obtain ⟨p, hp, e⟩ := List.mem_map.mp hP
    exact ⟨p, hp, e.symm⟩
  · exact FunD.bindsA (ps := ["script"]) F17 (fun _ _ _ _ _ _ us hl => match us, hl with | [_], _ => rfl) s [v] rfl
  · haveI : TabsB base mg K := ⟨hB⟩
    exact G_law T main
end LK
namespace LK
open PySem PySem.Spec PyProof.Rows L2
def names : List PySem.Str := ["is_kind", "kind_defect", "require", "base_right", "check_datum", "euler", "letters", "word", "euler_above", "_law_state", "_law_draw", "_law_perm", "_law_draw_kind", "_law_base", "_law_euler", "_law_letters", "_law_word", "_law_told", "_law_bad", "SheetError", "DatumError", "MOST_SHEETS", "MOST_HANDLES", "MOST_CAPS", "MOST_KINDS"]
set_option maxHeartbeats 0 in
theorem run (w : World) : HandSHeadRun.RunEq R (PySem.W.view R.prog [29]) hk ob 4000 names w := by
  intro os
  kernel_rfl
end LK
open PySem PySem.W PySem.Calls PyProof.Rows
set_option maxHeartbeats 0 in
theorem PySem.Challenge.cw_manysheets_k08_rules_of_data_holds : PySem.Challenge.rw_manysheets_k08_rules_of_data.Holds := by
  w_on; o_law
  refine HandSHeadRun.head_any (r := OpenLaw.row PySem.Challenge.rw_manysheets_k08_rules_of_data) (q := view (OpenLaw.row PySem.Challenge.rw_manysheets_k08_rules_of_data).prog [29]) (H := LK.hk) (ob := LK.ob) (M := 4000) (loose := LK.names) (d := HandSHeadRun.topDef (OpenLaw.row PySem.Challenge.rw_manysheets_k08_rules_of_data).prog 29) (kwd := []) LK.ob_eq
    (by kernel_rfl) (fun s => by kernel_rfl) LK.run (by kernel_rfl) (by kernel_rfl) (by kernel_rfl) (by rfl) (by first | assumption | decide +kernel) (by decide +kernel) ⟨rfl, rfl, rfl, rfl, rfl, by decide +kernel⟩ ?hw ?hc
  case hw => w_witness2
  case hc =>
    refine LamX.walk_ofTsE (l := PySem.Challenge.rw_manysheets_k08_rules_of_data) (n := 63) (k := 6) (x := "script") (CX := fun _ => L2.CX0) rfl (by decide) (by kernel_rfl) ⟨rfl, by decide, by decide⟩ ?F (fun _ _ _ _ _ z => z)
    intro w mg fa h Y G hmg0
    obtain ⟨K, KX, c, mo⟩ := Y
    have hmg : mg ("law" : PySem.Str) = some (.ref fa) := by
      have e : (HandSHeadRun.topDef (OpenLaw.row PySem.Challenge.rw_manysheets_k08_rules_of_data).prog 29).name = ("law" : PySem.Str) := by kernel_rfl
      rw [← e]
      exact hmg0
    exact ⟨K, KX, LK.all_mkT KX G hmg c mo LK.main⟩

