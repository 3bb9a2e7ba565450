import PyProof.Rows.All
import Wide.All
import OpenK.AllK
import Wide.FinOn
import HandS.ForMost
import HandS.Exc
import HandS.TryOnly
import HandS.ExcOwn
import HandS.WordsExc
import HandS.Walk
import HandS.Strs
import HandS.Style
import HandS.Flow
import HandS.More
import HandS.WrittenGet
import HandS.DictComp
import HandS.SortInts
import HandS.Conv
import HandS.TupAny
import HandS.SetFor
import PySem.Challenge.RW_settledpages_k32_lines_in_two_directions
set_option Elab.async false
set_option maxRecDepth 100000
set_option maxHeartbeats 4000000
set_option linter.all false
/-! DV: an abstract machine over the hand layer: frozen data, own cells. -/
namespace DV
open PySem PySem.Spec L2

def kD : Key → PyData
  | .inl i => .int i
  | .inr x => .str x

mutual
inductive DR (K : PySem.W.Frag) (H : Hp) : V → PyData → Prop
  | non : DR K H .non .none
  | bl (b : Bool) : DR K H (.bl b) (.bool b)
  | int (i : Int) : DR K H (.int i) (.int i)
  | str (x : Str) : DR K H (.str x) (.str x)
  | lst {a : Addr} {vs : List V} {ds : List PyData} : H a = some (.lst vs) → DRs K H vs ds → DR K H (.ref a) (.list ds)
  | tup {a : Addr} {vs : List V} {ds : List PyData} : SqT K H a vs → DRs K H vs ds → DR K H (.ref a) (.tuple ds)
  | dct {a : Addr} {es : List (Key × V)} {ks : List (PyData × PyData)} : H a = some (.dK es) → DRk K H es ks → DR K H (.ref a) (.dict ks)
inductive DRs (K : PySem.W.Frag) (H : Hp) : List V → List PyData → Prop
  | nil : DRs K H [] []
  | cons {v : V} {vs : List V} {d : PyData} {ds : List PyData} : DR K H v d → DRs K H vs ds → DRs K H (v :: vs) (d :: ds)
inductive DRk (K : PySem.W.Frag) (H : Hp) : List (Key × V) → List (PyData × PyData) → Prop
  | nil : DRk K H [] []
  | cons {k : Key} {v : V} {es : List (Key × V)} {d : PyData} {ks : List (PyData × PyData)} : DR K H v d → DRk K H es ks → DRk K H ((k, v) :: es) ((kD k, d) :: ks)
end

theorem sqT_mono {K : PySem.W.Frag} {H H' : Hp} {a : Addr} {xs : List V} (e : Same H H') (h : SqT K H a xs) : SqT K H' a xs := by
  rcases h with (h | ⟨o, h⟩) | h
  · exact .inl (.inl (e _ _ h))
  · exact .inl (.inr ⟨o, e _ _ h⟩)
  · exact .inr h

section
variable {K : PySem.W.Frag} {H H' : Hp}
theorem DR.mono {v : V} {d : PyData} (e : Same H H') (h : DR K H v d) : DR K H' v d :=
  DR.rec (motive_1 := fun v d _ => DR K H' v d) (motive_2 := fun vs ds _ => DRs K H' vs ds) (motive_3 := fun es ks _ => DRk K H' es ks)
    .non .bl .int .str (fun h _ ih => .lst (e _ _ h) ih) (fun h _ ih => .tup (sqT_mono e h) ih) (fun h _ ih => .dct (e _ _ h) ih)
    .nil (fun _ _ a b => .cons a b) .nil (fun _ _ a b => .cons a b) h
theorem DRs.paired {vs : List V} {ds : List PyData} (h : DRs K H vs ds) : Paired (DR K H) vs ds := by
  induction ds generalizing vs with
  | nil => cases h; exact .nil
  | cons d ds ih =>
    cases h with
    | cons a b => exact .cons a (ih b)
theorem DRs.of {vs : List V} {ds : List PyData} (h : Paired (DR K H) vs ds) : DRs K H vs ds := by
  induction h with
  | nil => exact .nil
  | cons a _ ih => exact .cons a ih
theorem DRs.mono {vs : List V} {ds : List PyData} (e : Same H H') (h : DRs K H vs ds) : DRs K H' vs ds := by
  induction ds generalizing vs with
  | nil => cases h; exact .nil
  | cons d ds ih =>
    cases h with
    | cons a b => exact .cons (a.mono e) (ih b)
end

/-! ### lists in pairs -/
namespace P2
variable {α β γ : Type} {F G : α → β → Prop}
theorem len : ∀ {l : List α} {m : List β}, Paired F l m → l.length = m.length
  | _, _, .nil => rfl
  | _, _, .cons _ t => by rw [List.length_cons, List.length_cons, len t]
theorem imp : ∀ {l : List α} {m : List β}, (∀ a b, F a b → G a b) → Paired F l m → Paired G l m
  | _, _, _, .nil => .nil
  | _, _, f, .cons h t => .cons (f _ _ h) (imp f t)
theorem get : ∀ {l : List α} {m : List β} {i : Nat} {b : β}, Paired F l m → m[i]? = some b → ∃ a, l[i]? = some a ∧ F a b
  | _, _, _, _, .nil, e => by simp at e
  | _, _, 0, _, .cons h _, e => by simp at e; subst e; exact ⟨_, rfl, h⟩
  | _, _, i + 1, _, .cons _ t, e => by
    obtain ⟨a, h1, h2⟩ := get (i := i) t (by simpa using e)
    exact ⟨a, by simpa using h1, h2⟩
theorem got : ∀ {l : List α} {m : List β} {i : Nat} {a : α}, Paired F l m → l[i]? = some a → ∃ b, m[i]? = some b ∧ F a b
  | _, _, _, _, .nil, e => by simp at e
  | _, _, 0, _, .cons h _, e => by simp at e; subst e; exact ⟨_, rfl, h⟩
  | _, _, i + 1, _, .cons _ t, e => by
    obtain ⟨a, h1, h2⟩ := got (i := i) t (by simpa using e)
    exact ⟨a, by simpa using h1, h2⟩
theorem app : ∀ {l l' : List α} {m m' : List β}, Paired F l m → Paired F l' m' → Paired F (l ++ l') (m ++ m')
  | _, _, _, _, .nil, h => h
  | _, _, _, _, .cons a t, h => .cons a (app t h)
theorem take : ∀ {l : List α} {m : List β} (n : Nat), Paired F l m → Paired F (l.take n) (m.take n)
  | _, _, 0, _ => .nil
  | _, _, _ + 1, .nil => .nil
  | _, _, n + 1, .cons a t => .cons a (take n t)
theorem drop : ∀ {l : List α} {m : List β} (n : Nat), Paired F l m → Paired F (l.drop n) (m.drop n)
  | _, _, 0, h => h
  | _, _, _ + 1, .nil => .nil
  | _, _, n + 1, .cons _ t => drop n t
theorem rev : ∀ {l : List α} {m : List β}, Paired F l m → Paired F l.reverse m.reverse
  | _, _, .nil => .nil
  | _, _, .cons a t => by rw [List.reverse_cons, List.reverse_cons]; exact app (rev t) (.cons a .nil)
theorem set : ∀ {l : List α} {m : List β} (i : Nat) {a : α} {b : β}, Paired F l m → F a b → Paired F (l.set i a) (m.set i b)
  | _, _, _, _, _, .nil, _ => .nil
  | _, _, 0, _, _, .cons _ t, h => .cons h t
  | _, _, i + 1, _, _, .cons q t, h => .cons q (set i t h)
theorem mapR {f : γ → β} : ∀ {l : List α} {m : List γ}, Paired (fun a c => F a (f c)) l m → Paired F l (m.map f)
  | _, _, .nil => .nil
  | _, _, .cons a t => .cons a (mapR t)
theorem unmapR {f : γ → β} : ∀ {l : List α} {m : List γ}, Paired F l (m.map f) → Paired (fun a c => F a (f c)) l m
  | _, [], h => by cases h; exact .nil
  | _, _ :: _, h => by cases h with | cons a t => exact .cons a (unmapR t)
theorem flat : ∀ {n : Nat} {l : List α} {m : List β}, Paired F l m → Paired F (List.replicate n l).flatten (List.replicate n m).flatten
  | 0, _, _, _ => .nil
  | n + 1, _, _, h => by rw [List.replicate_succ, List.replicate_succ, List.flatten_cons, List.flatten_cons]; exact app h (flat h)
theorem mapBoth {f : γ → α} {g : γ → β} : ∀ (l : List γ), (∀ c ∈ l, F (f c) (g c)) → Paired F (l.map f) (l.map g)
  | [], _ => .nil
  | c :: l, h => .cons (h c (by simp)) (mapBoth l fun x hx => h x (by simp [hx]))
end P2

/-! ### abstract values, cells -/
inductive AV where
  | d (x : PyData)
  | m (k : Nat)
inductive MC where
  | lst (xs : List AV)
  | dct (ks : List (Key × AV))
  | dead
abbrev Gam := List (Option AV)

def VR (K : PySem.W.Frag) (F : Hp) (A : List Addr) (v : V) : AV → Prop
  | .d x => DR K F v x
  | .m k => ∃ a, A[k]? = some a ∧ v = .ref a
def MR (K : PySem.W.Frag) (F : Hp) (A : List Addr) (H : Hp) (a : Addr) : MC → Prop
  | .lst xs => ∃ vs, H a = some (.lst vs) ∧ Paired (VR K F A) vs xs
  | .dct ks => ∃ es, H a = some (.dK es) ∧ Paired (fun (p : Key × V) (q : Key × AV) => p.1 = q.1 ∧ VR K F A p.2 q.2) es ks
  | .dead => True

structure SH (K : PySem.W.Frag) (F0 H0 F : Hp) (A : List Addr) (H : Hp) (M : List MC) : Prop where
  ff : Same F0 F
  fh : Same F H
  hh : Same H0 H
  fr : ∀ a, F0 a = none → F a ≠ none → H0 a = none
  nd : A.Nodup
  al : A.length = M.length
  an : ∀ a ∈ A, H0 a = none ∧ H a ≠ none
  own : ∀ (k : Nat) (a : Addr) (mc : MC), A[k]? = some a → M[k]? = some mc → mc ≠ .dead → F a = none ∧ MR K F A H a mc

def SV (K : PySem.W.Frag) (F : Hp) (A : List Addr) (σ : L2.St) (Γ : Gam) : Prop :=
  σ.length = Γ.length ∧ ∀ (i : Nat) (x : AV), Γ[i]? = some (some x) → ∃ v, σ[i]? = some (some v) ∧ VR K F A v x

structure Af (F : Hp) (A : List Addr) (H F' : Hp) (A' : List Addr) (H' : Hp) : Prop where
  ff : Same F F'
  aa : ∃ B, A' = A ++ B ∧ ∀ b ∈ B, H b = none
  hh : ∀ b o, H b = some o → b ∉ A → H' b = some o
  th : ∀ b, H b ≠ none → H' b ≠ none
  fr : ∀ a, F a = none → F' a ≠ none → H a = none

theorem Af.refl (F : Hp) (A : List Addr) (H : Hp) : Af F A H F A H :=
  ⟨Same.refl _, ⟨[], by simp, fun _ h => nomatch h⟩, fun _ _ h _ => h, fun _ h => h, fun _ h h' => absurd h h'⟩
theorem Af.trans {F H F1 H1 F2 H2 : Hp} {A A1 A2 : List Addr} (a : Af F A H F1 A1 H1) (b : Af F1 A1 H1 F2 A2 H2) : Af F A H F2 A2 H2 := by
  obtain ⟨B, rfl, hB⟩ := a.aa
  obtain ⟨C, rfl, hC⟩ := b.aa
  have back : ∀ c, H1 c = none → H c = none := fun c h => by
    cases q : H c with
    | none => rfl
    | some o => exact absurd h (a.th c (by rw [q]; simp))
  refine ⟨a.ff.trans b.ff, ⟨B ++ C, by simp, fun c hc => ?_⟩, fun c o h hc => b.hh c o (a.hh c o h hc) ?_, fun c h => b.th c (a.th c h), fun c h h' => ?_⟩
  · rcases List.mem_append.mp hc with q | q
    · exact hB c q
    · exact back c (hC c q)
  · intro hm
    rcases List.mem_append.mp hm with q | q
    · exact hc q
    · rw [hB c q] at h; cases h
  · by_cases q : F1 c = none
    · exact back c (b.fr c q h')
    · exact a.fr c h q

section
variable {K : PySem.W.Frag} {F F' H H' F0 H0 : Hp} {A A' : List Addr} {M M' : List MC} {σ : L2.St} {Γ : Gam} {v : V} {x : AV}
theorem VR.mono (e : Same F F') (ha : ∃ B, A' = A ++ B) (h : VR K F A v x) : VR K F' A' v x := by
  obtain ⟨B, rfl⟩ := ha
  cases x with
  | d d => exact DR.mono e h
  | m k =>
    obtain ⟨a, h1, h2⟩ := h
    refine ⟨a, ?_, h2⟩
    rw [List.getElem?_append_left (List.getElem?_eq_some_iff.mp h1).1]; exact h1
theorem Af.vr (a : Af F A H F' A' H') (h : VR K F A v x) : VR K F' A' v x := h.mono a.ff (let ⟨B, e, _⟩ := a.aa; ⟨B, e⟩)
theorem Af.vrs (a : Af F A H F' A' H') {vs : List V} {xs : List AV} (h : Paired (VR K F A) vs xs) : Paired (VR K F' A') vs xs := P2.imp (fun _ _ q => a.vr q) h
theorem SV.af (a : Af F A H F' A' H') (h : SV K F A σ Γ) : SV K F' A' σ Γ := ⟨h.1, fun i y e => let ⟨v, h1, h2⟩ := h.2 i y e; ⟨v, h1, a.vr h2⟩⟩
theorem SV.get (h : SV K F A σ Γ) {i : Nat} (e : Γ[i]? = some (some x)) : ∃ v, σ[i]? = some (some v) ∧ VR K F A v x := h.2 i x e
theorem SV.set (h : SV K F A σ Γ) (i : Nat) (r : VR K F A v x) : SV K F A (σ.set i (some v)) (Γ.set i (some x)) := by
  refine ⟨by rw [List.length_set, List.length_set]; exact h.1, fun j y e => ?_⟩
  by_cases hj : i = j
  · subst hj
    rw [List.getElem?_set] at e
    simp only [if_true] at e
    split at e
    · rename_i hi
      cases e
      exact ⟨v, by rw [List.getElem?_set_self (by rw [h.1]; exact hi)], r⟩
    · cases e
  · rw [List.getElem?_set_ne hj] at e
    obtain ⟨v', h1, h2⟩ := h.2 j y e
    exact ⟨v', by rw [List.getElem?_set_ne hj]; exact h1, h2⟩
theorem SV.clear (h : SV K F A σ Γ) (i : Nat) (u : Option V) : SV K F A (σ.set i u) (Γ.set i none) := by
  refine ⟨by rw [List.length_set, List.length_set]; exact h.1, fun j y e => ?_⟩
  by_cases hj : i = j
  · subst hj
    rw [List.getElem?_set] at e
    simp only [if_true] at e
    split at e
    · cases e
    · cases e
  · rw [List.getElem?_set_ne hj] at e
    obtain ⟨v', h1, h2⟩ := h.2 j y e
    exact ⟨v', by rw [List.getElem?_set_ne hj]; exact h1, h2⟩
theorem SV.weak {Γ' : Gam} (h : SV K F A σ Γ) (hl : Γ'.length = Γ.length) (w : ∀ (i : Nat) y, Γ'[i]? = some (some y) → Γ[i]? = some (some y)) : SV K F A σ Γ' :=
  ⟨h.1.trans hl.symm, fun i y e => h.2 i y (w i y e)⟩
theorem MR.mono {a : Addr} {mc : MC} (e : Same F F') (ha : ∃ B, A' = A ++ B) (hq : H' a = H a) (h : MR K F A H a mc) : MR K F' A' H' a mc := by
  cases mc with
  | lst xs =>
    obtain ⟨vs, h1, h2⟩ := h
    exact ⟨vs, hq.trans h1, P2.imp (fun _ _ q => VR.mono e ha q) h2⟩
  | dct ks =>
    obtain ⟨es, h1, h2⟩ := h
    exact ⟨es, hq.trans h1, P2.imp (fun _ _ q => ⟨q.1, VR.mono e ha q.2⟩) h2⟩
  | dead => trivial
/-- all that was tracked stays, the frozen part grows -/
theorem SH.grow (s : SH K F0 H0 F A H M) (e1 : Same F F') (e2 : Same F' H') (e3 : Same H H') (fr : ∀ a, F a = none → F' a ≠ none → H a = none) :
    SH K F0 H0 F' A H' M ∧ Af F A H F' A H' := by
  have th : ∀ b, H b ≠ none → H' b ≠ none := fun b h => by
    cases q : H b with
    | none => exact absurd q h
    | some o => rw [e3 b o q]; simp
  refine ⟨⟨s.ff.trans e1, e2, s.hh.trans e3, fun a h h' => ?_, s.nd, s.al, fun a ha => ⟨(s.an a ha).1, th a (s.an a ha).2⟩, fun k a mc h1 h2 h3 => ?_⟩, ⟨e1, ⟨[], by simp, fun _ h => nomatch h⟩, fun b o h _ => e3 b o h, th, fr⟩⟩
  · by_cases q : F a = none
    · have z := fr a q h'
      cases q0 : H0 a with
      | none => rfl
      | some o => rw [s.hh a o q0] at z; cases z
    · exact s.fr a h q
  · obtain ⟨q1, q2⟩ := s.own k a mc h1 h2 h3
    have hm : a ∈ A := List.mem_of_getElem? h1
    have q3 : F' a = none := by
      cases z : F' a with
      | none => rfl
      | some o => exact absurd (fr a q1 (by rw [z]; simp)) (s.an a hm).2
    refine ⟨q3, MR.mono e1 ⟨[], by simp⟩ ?_ q2⟩
    cases z : H a with
    | none => exact absurd z (s.an a hm).2
    | some o => exact e3 a o z
theorem same_upd {p : Addr} {o : HO} (h : H p = none) : Same H (upd H p o) := fun b u e => by rw [upd_ne (ne_of_none e h)]; exact e
theorem SH.below (s : SH K F0 H0 F A H M) {p : Addr} (h : H p = none) : F p = none := Same.free s.fh h
/-- a new object that is frozen at once -/
theorem SH.new (s : SH K F0 H0 F A H M) {p : Addr} {o : HO} (h : H p = none) : SH K F0 H0 (upd F p o) A (upd H p o) M ∧ Af F A H (upd F p o) A (upd H p o) := by
  have hp := s.below h
  refine s.grow (same_upd hp) (fun b u e => ?_) (same_upd h) fun a h1 h2 => ?_
  · by_cases q : b = p
    · subst q; rw [upd_same] at e ⊢; exact e
    · rw [upd_ne q] at e ⊢; exact s.fh b u e
  · by_cases q : a = p
    · subst q; exact h
    · rw [upd_ne q] at h2; exact absurd h1 h2
/-- a new object that is not frozen nor a cell (a list that a comprehension makes) -/
theorem SH.side (s : SH K F0 H0 F A H M) {p : Addr} {o : HO} (h : H p = none) : SH K F0 H0 F A (upd H p o) M ∧ Af F A H F A (upd H p o) :=
  s.grow (Same.refl _) (s.fh.trans (same_upd h)) (same_upd h) fun a h1 h2 => absurd h1 h2
/-- such an object changes -/
theorem SH.aside (s : SH K F0 H0 F A H M) {p : Addr} {o : HO} (hF : F p = none) (hA : p ∉ A) (h0 : H0 p = none) : SH K F0 H0 F A (upd H p o) M := by
  refine ⟨s.ff, fun b u e => ?_, fun b u e => ?_, s.fr, s.nd, s.al, fun a ha => ⟨(s.an a ha).1, ?_⟩, fun k a mc h1 h2 h3 => ?_⟩
  · rw [upd_ne (ne_of_none e hF)]; exact s.fh b u e
  · rw [upd_ne (ne_of_none e h0)]; exact s.hh b u e
  · rw [upd_ne (fun (q : a = p) => hA (q ▸ ha))]; exact (s.an a ha).2
  · obtain ⟨q1, q2⟩ := s.own k a mc h1 h2 h3
    exact ⟨q1, MR.mono (Same.refl _) ⟨[], by simp⟩ (upd_ne fun (q : a = p) => hA (q ▸ List.mem_of_getElem? h1)) q2⟩
/-- a new cell -/
theorem SH.cell (s : SH K F0 H0 F A H M) {p : Addr} {o : HO} {mc : MC} (h : H p = none) (r : MR K F (A ++ [p]) (upd H p o) p mc) :
    SH K F0 H0 F (A ++ [p]) (upd H p o) (M ++ [mc]) ∧ Af F A H F (A ++ [p]) (upd H p o) := by
  have hp := s.below h
  have pA : p ∉ A := fun q => (s.an p q).2 h
  have h0 : H0 p = none := Same.free s.hh h
  refine ⟨⟨s.ff, s.fh.trans (same_upd h), s.hh.trans (same_upd h), s.fr, ?_, by simp [s.al], fun a ha => ?_, fun k a mc' h1 h2 h3 => ?_⟩, ⟨Same.refl _, ⟨[p], rfl, fun b hb => by rw [List.mem_singleton.mp hb]; exact h⟩, fun b u e _ => by rw [upd_ne (ne_of_none e h)]; exact e, fun b hb => ?_, fun a q1 q2 => absurd q1 q2⟩⟩
  · rw [List.nodup_append]
    exact ⟨s.nd, by simp, fun a ha b hb e => by rw [List.mem_singleton.mp hb] at e; exact pA (e ▸ ha)⟩
  · rcases List.mem_append.mp ha with q | q
    · refine ⟨(s.an a q).1, ?_⟩
      by_cases z : a = p
      · subst z; rw [upd_same]; simp
      · rw [upd_ne z]; exact (s.an a q).2
    · rw [List.mem_singleton.mp q]
      exact ⟨h0, by rw [upd_same]; simp⟩
  · by_cases hk : k < A.length
    · rw [List.getElem?_append_left hk] at h1
      rw [List.getElem?_append_left (by rw [← s.al]; exact hk)] at h2
      obtain ⟨q1, q2⟩ := s.own k a mc' h1 h2 h3
      exact ⟨q1, MR.mono (Same.refl _) ⟨[p], rfl⟩ (upd_ne fun (q : a = p) => pA (q ▸ List.mem_of_getElem? h1)) q2⟩
    · rw [List.getElem?_append_right (by omega)] at h1
      rw [List.getElem?_append_right (by rw [← s.al]; omega)] at h2
      have hk0 : k - A.length = 0 := by
        have := (List.getElem?_eq_some_iff.mp h1).1
        simp at this
        omega
      rw [hk0] at h1
      rw [← s.al, hk0] at h2
      simp at h1 h2
      subst h1 h2
      exact ⟨hp, r⟩
  · by_cases z : b = p
    · subst z; rw [upd_same]; simp
    · rw [upd_ne z]; exact hb
theorem nodup_ne {A : List Addr} (nd : A.Nodup) {j k : Nat} {a b : Addr} (h1 : A[j]? = some a) (h2 : A[k]? = some b) (h : j ≠ k) : a ≠ b := fun e => by
  subst e
  obtain ⟨p1, e1⟩ := List.getElem?_eq_some_iff.mp h1
  obtain ⟨p2, e2⟩ := List.getElem?_eq_some_iff.mp h2
  exact h ((List.getElem_inj nd).mp (e1.trans e2.symm))
/-- a cell changes -/
theorem SH.put (s : SH K F0 H0 F A H M) {k : Nat} {a : Addr} {mc mc' : MC} {o : HO} (h1 : A[k]? = some a) (h2 : M[k]? = some mc) (h3 : mc ≠ .dead) (r : MR K F A (upd H a o) a mc') :
    SH K F0 H0 F A (upd H a o) (M.set k mc') ∧ Af F A H F A (upd H a o) := by
  obtain ⟨q1, q2⟩ := s.own k a mc h1 h2 h3
  have hm : a ∈ A := List.mem_of_getElem? h1
  refine ⟨⟨s.ff, fun b u e => ?_, fun b u e => ?_, s.fr, s.nd, by rw [List.length_set]; exact s.al, fun b hb => ⟨(s.an b hb).1, ?_⟩, fun j b mj e1 e2 e3 => ?_⟩, ⟨Same.refl _, ⟨[], by simp, fun _ h => nomatch h⟩, fun b u e hb => ?_, fun b hb => ?_, fun _ z z' => absurd z z'⟩⟩
  · rw [upd_ne (ne_of_none e q1)]; exact s.fh b u e
  · rw [upd_ne (ne_of_none e (s.an a hm).1)]; exact s.hh b u e
  · by_cases z : b = a
    · subst z; rw [upd_same]; simp
    · rw [upd_ne z]; exact (s.an b hb).2
  · by_cases hj : j = k
    · subst hj
      rw [h1] at e1; cases e1
      have hl : j < M.length := by rw [← s.al]; exact (List.getElem?_eq_some_iff.mp h1).1
      rw [List.getElem?_set_self hl] at e2
      cases e2
      exact ⟨q1, r⟩
    · rw [List.getElem?_set_ne (Ne.symm hj)] at e2
      obtain ⟨z1, z2⟩ := s.own j b mj e1 e2 e3
      exact ⟨z1, MR.mono (Same.refl _) ⟨[], by simp⟩ (upd_ne (nodup_ne s.nd e1 h1 hj)) z2⟩
  · rw [upd_ne fun (z : b = a) => hb (z ▸ hm)]; exact e
  · by_cases z : b = a
    · subst z; rw [upd_same]; simp
    · rw [upd_ne z]; exact hb
/-- a cell is frozen: F learns its object -/
theorem SH.freeze (s : SH K F0 H0 F A H M) {k : Nat} {a : Addr} {mc : MC} {o : HO} (h1 : A[k]? = some a) (h2 : M[k]? = some mc) (h3 : mc ≠ .dead) (ho : H a = some o) :
    SH K F0 H0 (upd F a o) A H (M.set k .dead) ∧ Same F (upd F a o) := by
  obtain ⟨q1, q2⟩ := s.own k a mc h1 h2 h3
  have hm : a ∈ A := List.mem_of_getElem? h1
  refine ⟨⟨s.ff.trans (same_upd q1), fun b u e => ?_, s.hh, fun b e e' => ?_, s.nd, by rw [List.length_set]; exact s.al, s.an, fun j b mj e1 e2 e3 => ?_⟩, same_upd q1⟩
  · by_cases z : b = a
    · subst z; rw [upd_same] at e; rw [← e]; exact ho
    · rw [upd_ne z] at e; exact s.fh b u e
  · by_cases z : b = a
    · subst z; exact (s.an b hm).1
    · rw [upd_ne z] at e'; exact s.fr b e e'
  · by_cases hj : j = k
    · subst hj
      have hl : j < M.length := by rw [← s.al]; exact (List.getElem?_eq_some_iff.mp h1).1
      rw [List.getElem?_set_self hl] at e2
      cases e2
      exact absurd rfl e3
    · rw [List.getElem?_set_ne (Ne.symm hj)] at e2
      obtain ⟨z1, z2⟩ := s.own j b mj e1 e2 e3
      have ne := nodup_ne s.nd e1 h1 hj
      exact ⟨by rw [upd_ne ne]; exact z1, MR.mono (same_upd q1) ⟨[], by simp⟩ rfl z2⟩
end
end DV

set_option Elab.async false
set_option maxRecDepth 100000
set_option maxHeartbeats 4000000
set_option linter.all false
namespace DV
open PySem PySem.Spec L2

/-! ### the weakest readings -/
section
variable (X : Cx)
def xE (e : Expr) : TE := fun σ H Q => ∀ (pins : List (Addr × Obj)) (s : Shared), Inv X pins σ H s → wpAny (model X.prog X.w) X.A (eval e X.env) (EP X pins σ Q) X.xe s
def xT (e : Expr) : TT := fun σ H Q => ∀ (pins : List (Addr × Obj)) (s : Shared), Inv X pins σ H s → wpAny (model X.prog X.w) X.A (isTrue e X.env (eval e X.env)) (TP X pins σ Q) X.xe s
def xW (e : Expr) : TT := fun σ H Q => ∀ (whole : Sem Value) (pins : List (Addr × Obj)) (s : Shared), Inv X pins σ H s → wpAny (model X.prog X.w) X.A (isTrue e X.env whole) (TP X pins σ Q) X.xe s
def xA (es : List Expr) : TA := fun σ H Q => ∀ (pos : Pos) (pins : List (Addr × Obj)) (s : Shared), Inv X pins σ H s → wpAny (model X.prog X.w) X.A (spliced (backTo pos (starEach es X.env))) (AP X pins σ Q) X.xe s
def xSs (sts : List Stmt) : TS := fun D σ H => ∀ (pins : List (Addr × Obj)) (s : Shared), Inv X pins σ H s → wpAny (model X.prog X.w) X.A (execs sts X.env) (SP X pins D) X.xe s
def xG (tg : Expr) : TG := fun v σ H Q => ∀ (pins : List (Addr × Obj)) (s : Shared) (u : Value), Inv X pins σ H s → RelV v u →
  wpAny (model X.prog X.w) X.A (assign tg X.env u) (fun _ s' => ∃ σ' H', Inv X pins σ' H' s' ∧ Q σ' H') X.xe s
def xI (tg iter : Expr) : TI := fun σ H R => ∀ (pins : List (Addr × Obj)) (s : Shared), Inv X pins σ H s →
  wpAny (model X.prog X.w) X.A (eval iter X.env) (fun v s1 => wpAny (model X.prog X.w) X.A (pyIter v) (PIE X pins σ tg R) X.xe s1) X.xe s
end
section
variable {X : Cx} {e : Expr}
theorem PE.x : PE X e (xE X e) := ⟨fun pins s σ H Q I h => h pins s I⟩
theorem PT.x : PT X e (xT X e) := ⟨fun pins s σ H Q I h => h pins s I⟩
theorem PW.x : PW X e (xW X e) := ⟨fun wh pins s σ H Q I h => h wh pins s I⟩
theorem PA.x {es : List Expr} : PA X es (xA X es) := ⟨fun pos pins s σ H Q I h => h pos pins s I⟩
theorem PSs.x {sts : List Stmt} : PSs X sts (xSs X sts) := ⟨fun pins s σ H D I h => h pins s I⟩
theorem PG.x {tg : Expr} : PG X tg (xG X tg) := ⟨fun pins s σ H v u Q I r h => h pins s u I r⟩
theorem PI.x {tg iter : Expr} : PI X tg iter (xI X tg iter) := ⟨fun pins s σ H R I h => h pins s I⟩
end

/-! ### what evaluates to what -/
section
variable (K : PySem.W.Frag)
def EVt (te : TE) (Γ : Gam) (M : List MC) (x : AV) (M' : List MC) : Prop :=
  ∀ (F0 H0 F : Hp) (A : List Addr) (H : Hp) (σ : L2.St) (Q : VK), SH K F0 H0 F A H M → SV K F A σ Γ →
    (∀ v F' A' H', SH K F0 H0 F' A' H' M' → Af F A H F' A' H' → VR K F' A' v x → Q v H') → te σ H Q
def ETt (tt : TT) (Γ : Gam) (M : List MC) (b : Bool) (M' : List MC) : Prop :=
  ∀ (F0 H0 F : Hp) (A : List Addr) (H : Hp) (σ : L2.St) (Q : Bool → Hp → Prop), SH K F0 H0 F A H M → SV K F A σ Γ →
    (∀ F' A' H', SH K F0 H0 F' A' H' M' → Af F A H F' A' H' → Q b H') → tt σ H Q
def EAt (ta : TA) (Γ : Gam) (M : List MC) (xs : List AV) (M' : List MC) : Prop :=
  ∀ (F0 H0 F : Hp) (A : List Addr) (H : Hp) (σ : L2.St) (Q : List V → Hp → Prop), SH K F0 H0 F A H M → SV K F A σ Γ →
    (∀ vs F' A' H', SH K F0 H0 F' A' H' M' → Af F A H F' A' H' → Paired (VR K F' A') vs xs → Q vs H') → ta σ H Q
/-- an operation on two values -/
def B2 (r : R2) (x y : AV) (M : List MC) (z : AV) (M' : List MC) : Prop :=
  ∀ (F0 H0 F : Hp) (A : List Addr) (H : Hp) (v w : V) (Q : VK), SH K F0 H0 F A H M → VR K F A v x → VR K F A w y →
    (∀ u F' A' H', SH K F0 H0 F' A' H' M' → Af F A H F' A' H' → VR K F' A' u z → Q u H') → r v w H Q
def B1 (r : V → Hp → VK → Prop) (x : AV) (M : List MC) (z : AV) (M' : List MC) : Prop :=
  ∀ (F0 H0 F : Hp) (A : List Addr) (H : Hp) (v : V) (Q : VK), SH K F0 H0 F A H M → VR K F A v x →
    (∀ u F' A' H', SH K F0 H0 F' A' H' M' → Af F A H F' A' H' → VR K F' A' u z → Q u H') → r v H Q
def C1 (r : List V → Hp → VK → Prop) (xs : List AV) (M : List MC) (z : AV) (M' : List MC) : Prop :=
  ∀ (F0 H0 F : Hp) (A : List Addr) (H : Hp) (vs : List V) (Q : VK), SH K F0 H0 F A H M → Paired (VR K F A) vs xs →
    (∀ u F' A' H', SH K F0 H0 F' A' H' M' → Af F A H F' A' H' → VR K F' A' u z → Q u H') → r vs H Q
end
def EV (X : Cx) (e : Expr) (Γ : Gam) (M : List MC) (x : AV) (M' : List MC) : Prop := EVt X.K (xE X e) Γ M x M'
def ET (X : Cx) (e : Expr) (Γ : Gam) (M : List MC) (b : Bool) (M' : List MC) : Prop := ETt X.K (xT X e) Γ M b M'
def EW (X : Cx) (e : Expr) (Γ : Gam) (M : List MC) (b : Bool) (M' : List MC) : Prop := ETt X.K (xW X e) Γ M b M'
def EA (X : Cx) (es : List Expr) (Γ : Gam) (M : List MC) (xs : List AV) (M' : List MC) : Prop := EAt X.K (xA X es) Γ M xs M'

section
variable {X : Cx} {e a b : Expr} {es : List Expr} {Γ : Gam} {M M1 M2 M3 : List MC} {x y z : AV} {te ta tb : TE} {tt : TT} {pos : Pos}
theorem EV.of (h : PE X e te) (k : EVt X.K te Γ M x M1) : EV X e Γ M x M1 := fun F0 H0 F A H σ Q sh sv q pins s I => h.run pins s σ H Q I (k F0 H0 F A H σ Q sh sv q)
theorem ET.of (h : PT X e tt) {c : Bool} (k : ETt X.K tt Γ M c M1) : ET X e Γ M c M1 := fun F0 H0 F A H σ Q sh sv q pins s I => h.run pins s σ H Q I (k F0 H0 F A H σ Q sh sv q)
theorem EW.of (h : PW X e tt) {c : Bool} (k : ETt X.K tt Γ M c M1) : EW X e Γ M c M1 := fun F0 H0 F A H σ Q sh sv q wh pins s I => h.run wh pins s σ H Q I (k F0 H0 F A H σ Q sh sv q)
theorem EA.of {t : TA} (h : PA X es t) {xs : List AV} (k : EAt X.K t Γ M xs M1) : EA X es Γ M xs M1 := fun F0 H0 F A H σ Q sh sv q pos pins s I => h.run pos pins s σ H Q I (k F0 H0 F A H σ Q sh sv q)
theorem EV.cast (h : EV X e Γ M x M1) (e1 : x = y) : EV X e Γ M y M1 := e1 ▸ h
theorem ET.cast {c d : Bool} (h : ET X e Γ M c M1) (e1 : c = d) : ET X e Γ M d M1 := e1 ▸ h

theorem EVt.op {K : PySem.W.Frag} {r : R2} (ha : EVt K ta Γ M x M1) (hb : EVt K tb Γ M1 y M2) (hr : B2 K r x y M2 z M3) : EVt K (tOp r ta tb) Γ M z M3 := fun F0 H0 F A H σ Q sh sv q =>
  ha F0 H0 F A H σ _ sh sv fun v F1 A1 H1 sh1 af1 v1 => hb F0 H0 F1 A1 H1 σ _ sh1 (sv.af af1) fun w F2 A2 H2 sh2 af2 v2 =>
    hr F0 H0 F2 A2 H2 v w Q sh2 (af2.vr v1) v2 fun u F3 A3 H3 sh3 af3 v3 => q u F3 A3 H3 sh3 ((af1.trans af2).trans af3) v3
theorem EVt.un {K : PySem.W.Frag} {r : V → Hp → VK → Prop} (ha : EVt K ta Γ M x M1) (hr : B1 K r x M1 z M2) : EVt K (tUn r ta) Γ M z M2 := fun F0 H0 F A H σ Q sh sv q =>
  ha F0 H0 F A H σ _ sh sv fun v F1 A1 H1 sh1 af1 v1 => hr F0 H0 F1 A1 H1 v Q sh1 v1 fun u F3 A3 H3 sh3 af3 v3 => q u F3 A3 H3 sh3 (af1.trans af3) v3
theorem EVt.c {K : PySem.W.Frag} {v : V} {d : PyData} (h : ∀ F, DR K F v d) : EVt K (tC v) Γ M (.d d) M := fun F0 H0 F A H σ Q sh sv q => q v F A H sh (Af.refl _ _ _) (h F)
theorem EVt.var {K : PySem.W.Frag} {i : Nat} (h : Γ[i]? = some (some x)) : EVt K (tVar i) Γ M x M := fun F0 H0 F A H σ Q sh sv q => by
  obtain ⟨v, h1, h2⟩ := sv.get h
  exact ⟨v, h1, q v F A H sh (Af.refl _ _ _) h2⟩

/-! names, constants -/
theorem EV.var (i : Nat) {n : Str} (h : Γ[i]? = some (some x) := by rfl) (hN : X.N[i]? = some n := by rfl) (hv : Vis X.env.scope n := by first | exact Or.inl rfl | exact Or.inr (Or.inl rfl) | exact Or.inr (Or.inr rfl))
    (hd : (n == ("__debug__" : Str)) = false := by decide) (hcd : (n == ("__classdict__" : Str)) = false := by decide) : EV X (.Name n pos) Γ M x M := EV.of (pe_var hN hv hd hcd) (EVt.var h)
theorem EV.int {i : Int} {j} : EV X (.Constant (.int i) j pos) Γ M (.d (.int i)) M := EV.of pe_int (EVt.c fun _ => .int i)
theorem EV.bl {c : Bool} {j} : EV X (.Constant (.bool c) j pos) Γ M (.d (.bool c)) M := EV.of pe_bl (EVt.c fun _ => .bl c)
theorem EV.non {j} : EV X (.Constant .none j pos) Γ M (.d .none) M := EV.of pe_non (EVt.c fun _ => .non)
theorem EV.str {z : Str} {j} : EV X (.Constant (.str z) j pos) Γ M (.d (.str z)) M := EV.of pe_str (EVt.c fun _ => .str z)
/-- a text, a number of the module -/
theorem EV.glob {n : Str} {v : V} {u : Value} {d : PyData} (hg : Gl X n) (hm : X.mg n = some u) (r : RelV v u) (h : ∀ F, DR X.K F v d) (hd : (n == ("__debug__" : Str)) = false := by decide) : EV X (.Name n pos) Γ M (.d d) M := EV.of (pe_glob hg hm r hd) (EVt.c h)

theorem EV.globS {n : Str} {z : Str} {t : Tok} (hm : X.mg n = some (.str z t)) (hg : Gl X n := by rfl) (hd : (n == ("__debug__" : Str)) = false := by decide) : EV X (.Name n pos) Γ M (.d (.str z)) M := EV.glob hg hm (v := .str z) ⟨t, rfl⟩ (fun _ => .str z) hd
theorem EV.globI {n : Str} {z : Int} {t : Tok} (hm : X.mg n = some (.int z t)) (hg : Gl X n := by rfl) (hd : (n == ("__debug__" : Str)) = false := by decide) : EV X (.Name n pos) Γ M (.d (.int z)) M := EV.glob hg hm (v := .int z) ⟨t, rfl⟩ (fun _ => .int z) hd

/-! scalars -/
def sD : PyData → Option V
  | .none => some .non
  | .bool b => some (.bl b)
  | .int i => some (.int i)
  | .str x => some (.str x)
  | _ => none
theorem DR.sc {K : PySem.W.Frag} {F : Hp} {v u : V} {d : PyData} (h : sD d = some u) (r : DR K F v d) : v = u := by
  cases r <;> simp [sD] at h <;> first | exact h | (subst h; rfl)
theorem DR.sc' {K : PySem.W.Frag} {F : Hp} {u : V} {d : PyData} (h : sD d = some u) : DR K F u d := by
  cases d <;> simp [sD] at h <;> subst h <;> constructor
theorem VR.int {K : PySem.W.Frag} {F : Hp} {A : List Addr} {v : V} {i : Int} (h : VR K F A v (.d (.int i))) : v = .int i := DR.sc rfl h
theorem VR.str {K : PySem.W.Frag} {F : Hp} {A : List Addr} {v : V} {i : Str} (h : VR K F A v (.d (.str i))) : v = .str i := DR.sc rfl h
theorem VR.bl {K : PySem.W.Frag} {F : Hp} {A : List Addr} {v : V} {i : Bool} (h : VR K F A v (.d (.bool i))) : v = .bl i := DR.sc rfl h
theorem VR.non {K : PySem.W.Frag} {F : Hp} {A : List Addr} {v : V} (h : VR K F A v (.d .none)) : v = .non := DR.sc rfl h

theorem b2_I0 {K : PySem.W.Frag} {g : Int → Int → V} {i j : Int} {d : PyData} (h : sD d = some (g i j)) : B2 K (rI0 g) (.d (.int i)) (.d (.int j)) M (.d d) M := fun F0 H0 F A H v w Q sh rv rw q =>
  ⟨i, j, rv.int, rw.int, q _ F A H sh (Af.refl _ _ _) (DR.sc' h)⟩
theorem b2_I {K : PySem.W.Frag} {C : Int → Int → Prop} {g : Int → Int → V} {i j : Int} {d : PyData} (h : sD d = some (g i j)) (hc : C i j) : B2 K (rI C g) (.d (.int i)) (.d (.int j)) M (.d d) M := fun F0 H0 F A H v w Q sh rv rw q =>
  ⟨i, j, rv.int, rw.int, hc, q _ F A H sh (Af.refl _ _ _) (DR.sc' h)⟩
theorem EV.bin {op : Operator} {r : R2} (ho : OpR X (binaryOp op) r) (ha : EV X a Γ M x M1) (hb : EV X b Γ M1 y M2) (h : B2 X.K r x y M2 z M3) : EV X (.BinOp a op b pos) Γ M z M3 := EV.of (pe_op ho PE.x PE.x) (EVt.op ha hb h)
variable {i j : Int}
theorem EV.add (ha : EV X a Γ M (.d (.int i)) M1) (hb : EV X b Γ M1 (.d (.int j)) M2) : EV X (.BinOp a .Add b pos) Γ M (.d (.int (i + j))) M2 := EV.bin op_add ha hb (b2_I0 rfl)
theorem EV.sub (ha : EV X a Γ M (.d (.int i)) M1) (hb : EV X b Γ M1 (.d (.int j)) M2) : EV X (.BinOp a .Sub b pos) Γ M (.d (.int (i - j))) M2 := EV.bin op_sub ha hb (b2_I0 rfl)
theorem EV.mul (ha : EV X a Γ M (.d (.int i)) M1) (hb : EV X b Γ M1 (.d (.int j)) M2) (hc : CMul i j) : EV X (.BinOp a .Mult b pos) Γ M (.d (.int (i * j))) M2 := EV.bin op_mul ha hb (b2_I rfl hc)
theorem EV.mod (ha : EV X a Γ M (.d (.int i)) M1) (hb : EV X b Γ M1 (.d (.int j)) M2) (hc : 0 < j) : EV X (.BinOp a .Mod b pos) Γ M (.d (.int (i % j))) M2 := EV.bin op_mod ha hb (b2_I rfl hc)
theorem EV.fdiv (ha : EV X a Γ M (.d (.int i)) M1) (hb : EV X b Γ M1 (.d (.int j)) M2) (hc : CDiv i j) : EV X (.BinOp a .FloorDiv b pos) Γ M (.d (.int (i / j))) M2 := EV.bin op_fdiv ha hb (b2_I rfl hc)
theorem EV.pow (ha : EV X a Γ M (.d (.int i)) M1) (hb : EV X b Γ M1 (.d (.int j)) M2) (hc : CPow i j) : EV X (.BinOp a .Pow b pos) Γ M (.d (.int (i ^ j.toNat))) M2 := EV.bin op_pow ha hb (b2_I rfl hc)
theorem EV.addS {p q : Str} (ha : EV X a Γ M (.d (.str p)) M1) (hb : EV X b Γ M1 (.d (.str q)) M2) (hl : p.length + q.length ≤ sizeLine) : EV X (.BinOp a .Add b pos) Γ M (.d (.str (p ++ q))) M2 :=
  EV.bin op_add_str ha hb fun F0 H0 F A H v w Q sh rv rw k => ⟨p, q, rv.str, rw.str, hl, k _ F A H sh (Af.refl _ _ _) (DR.str _)⟩
theorem EV.neg (ha : EV X a Γ M (.d (.int i)) M1) : EV X (.UnaryOp .USub a pos) Γ M (.d (.int (-i))) M1 := EV.of (pe_un un_neg PE.x) (EVt.un ha fun F0 H0 F A H v Q sh rv k => ⟨i, rv.int, k _ F A H sh (Af.refl _ _ _) (DR.int _)⟩)

/-! comparisons -/
def CB (X : Cx) (op : CmpOp) (x y : AV) (M : List MC) (c : Bool) : Prop := ∃ r, OpR X (compareOp op) r ∧ B2 X.K r x y M (.d (.bool c)) M
theorem EV.cmp {op : CmpOp} {c : Bool} (ha : EV X a Γ M x M1) (hb : EV X b Γ M1 y M2) (h : CB X op x y M2 c) (hm : behindInMarks op b = false) : EV X (.Compare a [op] [b] pos) Γ M (.d (.bool c)) M2 := by
  obtain ⟨r, ho, hr⟩ := h
  exact EV.of (pe_cmpR ho PE.x PE.x hm) (EVt.op ha hb hr)
theorem ETt.test {K : PySem.W.Frag} {c : Bool} (h : EVt K te Γ M (.d (.bool c)) M1) : ETt K (tTest te) Γ M c M1 := fun F0 H0 F A H σ Q sh sv q =>
  h F0 H0 F A H σ _ sh sv fun v F1 A1 H1 sh1 af1 v1 => ⟨c, v1.bl, q F1 A1 H1 sh1 af1⟩
theorem ETt.tB {K : PySem.W.Frag} {c : Bool} (h : EVt K te Γ M (.d (.bool c)) M1) : ETt K (tB te) Γ M c M1 := fun F0 H0 F A H σ Q sh sv q =>
  h F0 H0 F A H σ _ sh sv fun v F1 A1 H1 sh1 af1 v1 => ⟨c, v1.bl, q F1 A1 H1 sh1 af1⟩
theorem ET.cmp {op : CmpOp} {c : Bool} (ha : EV X a Γ M x M1) (hb : EV X b Γ M1 y M2) (h : CB X op x y M2 c) (hm : behindInMarks op b = false) : ET X (.Compare a [op] [b] pos) Γ M c M2 := by
  obtain ⟨r, ho, hr⟩ := h
  exact ET.of (pt_cmpR ho PE.x PE.x hm) (ETt.test (EVt.op ha hb hr))
theorem ET.val {c : Bool} (h : EV X e Γ M (.d (.bool c)) M1) (he : ∀ whole, isTrue e X.env whole = (do let v ← whole; standAt e.pos; holding [v] (truthy v)) := by intro _; rfl) : ET X e Γ M c M1 := ET.of (pt_val PE.x he) (ETt.tB h)
theorem cb_lt : CB X .Lt (.d (.int i)) (.d (.int j)) M (decide (i < j)) := ⟨_, op_lt, b2_I0 rfl⟩
theorem cb_le : CB X .LtE (.d (.int i)) (.d (.int j)) M (decide (i ≤ j)) := ⟨_, op_le, b2_I0 rfl⟩
theorem cb_gt : CB X .Gt (.d (.int i)) (.d (.int j)) M (decide (j < i)) := ⟨_, op_gt, b2_I0 rfl⟩
theorem cb_ge : CB X .GtE (.d (.int i)) (.d (.int j)) M (decide (j ≤ i)) := ⟨_, op_ge, b2_I0 rfl⟩
theorem cb_eq {d e : PyData} {u w : V} (h1 : sD d = some u := by rfl) (h2 : sD e = some w := by rfl) (hs : scal u w = true := by rfl) : CB X .Eq (.d d) (.d e) M (decide (u = w)) :=
  ⟨_, op_eq, fun F0 H0 F A H v v' Q sh rv rw q => by
    cases DR.sc h1 rv; cases DR.sc h2 rw
    exact ⟨hs, q _ F A H sh (Af.refl _ _ _) (DR.bl _)⟩⟩
theorem cb_ne {d e : PyData} {u w : V} (h1 : sD d = some u := by rfl) (h2 : sD e = some w := by rfl) (hs : scal u w = true := by rfl) : CB X .NotEq (.d d) (.d e) M (!decide (u = w)) :=
  ⟨_, op_ne, fun F0 H0 F A H v v' Q sh rv rw q => by
    cases DR.sc h1 rv; cases DR.sc h2 rw
    exact ⟨hs, q _ F A H sh (Af.refl _ _ _) (DR.bl _)⟩⟩
theorem cb_eqI : CB X .Eq (.d (.int i)) (.d (.int j)) M (decide (i = j)) := by
  have h := cb_eq (X := X) (M := M) (d := .int i) (e := .int j) (u := .int i) (w := .int j)
  have e1 : decide (V.int i = V.int j) = decide (i = j) := by rw [Bool.eq_iff_iff]; simp
  rw [e1] at h; exact h
theorem cb_neI : CB X .NotEq (.d (.int i)) (.d (.int j)) M (!decide (i = j)) := by
  have h := cb_ne (X := X) (M := M) (d := .int i) (e := .int j) (u := .int i) (w := .int j)
  have e1 : decide (V.int i = V.int j) = decide (i = j) := by rw [Bool.eq_iff_iff]; simp
  rw [e1] at h; exact h
theorem cb_eqS {p q : Str} : CB X .Eq (.d (.str p)) (.d (.str q)) M (decide (p = q)) := by
  have h := cb_eq (X := X) (M := M) (d := .str p) (e := .str q) (u := .str p) (w := .str q)
  have e1 : decide (V.str p = V.str q) = decide (p = q) := by rw [Bool.eq_iff_iff]; simp
  rw [e1] at h; exact h
theorem cb_neS {p q : Str} : CB X .NotEq (.d (.str p)) (.d (.str q)) M (!decide (p = q)) := by
  have h := cb_ne (X := X) (M := M) (d := .str p) (e := .str q) (u := .str p) (w := .str q)
  have e1 : decide (V.str p = V.str q) = decide (p = q) := by rw [Bool.eq_iff_iff]; simp
  rw [e1] at h; exact h
theorem cb_eqB {p q : Bool} : CB X .Eq (.d (.bool p)) (.d (.bool q)) M (p == q) := by
  have h := cb_eq (X := X) (M := M) (d := .bool p) (e := .bool q) (u := .bl p) (w := .bl q)
  have e1 : decide (V.bl p = V.bl q) = (p == q) := by rw [Bool.eq_iff_iff]; simp
  rw [e1] at h; exact h
theorem cb_neB {p q : Bool} : CB X .NotEq (.d (.bool p)) (.d (.bool q)) M (p != q) := by
  have h := cb_ne (X := X) (M := M) (d := .bool p) (e := .bool q) (u := .bl p) (w := .bl q)
  have e1 : (!decide (V.bl p = V.bl q)) = (p != q) := by rw [Bool.eq_iff_iff]; simp
  rw [e1] at h; exact h
def isN : PyData → Bool
  | .none => true
  | _ => false
theorem DR.isN {K : PySem.W.Frag} {F : Hp} {v : V} {d : PyData} (r : DR K F v d) : decide (v = .non) = isN d := by
  cases r <;> simp [DV.isN]
theorem cb_isN {d : PyData} : CB X .Is (.d d) (.d .none) M (isN d) := ⟨_, op_isN, fun F0 H0 F A H v v' Q sh rv rw q => ⟨rw.non, by rw [DR.isN rv]; exact q _ F A H sh (Af.refl _ _ _) (DR.bl _)⟩⟩
theorem cb_notN {d : PyData} : CB X .IsNot (.d d) (.d .none) M (!isN d) := ⟨_, op_notN, fun F0 H0 F A H v v' Q sh rv rw q => ⟨rw.non, by rw [DR.isN rv]; exact q _ F A H sh (Af.refl _ _ _) (DR.bl _)⟩⟩
theorem cb_isB {p q : Bool} : CB X .Is (.d (.bool p)) (.d (.bool q)) M (decide (p = q)) := ⟨_, op_isBl, fun F0 H0 F A H v v' Q sh rv rw k => ⟨p, q, rv.bl, rw.bl, k _ F A H sh (Af.refl _ _ _) (DR.bl _)⟩⟩
theorem cb_notB {p q : Bool} : CB X .IsNot (.d (.bool p)) (.d (.bool q)) M (!decide (p = q)) := ⟨_, op_notBl, fun F0 H0 F A H v v' Q sh rv rw k => ⟨p, q, rv.bl, rw.bl, k _ F A H sh (Af.refl _ _ _) (DR.bl _)⟩⟩
theorem cb_inSign {c : Nat} {q : Str} : CB X .In (.d (.str ⟨#[c]⟩)) (.d (.str q)) M (decide (c ∈ q.cps.toList)) := ⟨_, op_in_sign, fun F0 H0 F A H v v' Q sh rv rw k => ⟨c, q, rv.str, rw.str, k _ F A H sh (Af.refl _ _ _) (DR.bl _)⟩⟩

/-! tests -/
theorem EW.pt {c : Bool} (h : EW X e Γ M c M1) : ET X e Γ M c M1 := fun F0 H0 F A H σ Q sh sv q pins s I => h F0 H0 F A H σ Q sh sv q _ pins s I
variable {rest : List Expr}
theorem EW.and1 {c : Bool} (h : ET X a Γ M c M1) : EW X (.BoolOp .And [a] pos) Γ M c M1 := EW.of (pw_and1 PT.x) h
theorem EW.or1 {c : Bool} (h : ET X a Γ M c M1) : EW X (.BoolOp .Or [a] pos) Γ M c M1 := EW.of (pw_or1 PT.x) h
theorem EW.andC {p q : Bool} (h : ET X a Γ M p M) (hr : p = true → EW X (.BoolOp .And (b :: rest) pos) Γ M q M) : EW X (.BoolOp .And (a :: b :: rest) pos) Γ M (p && q) M :=
  EW.of (pw_and PT.x PW.x) fun F0 H0 F A H σ Q sh sv k => h F0 H0 F A H σ _ sh sv fun F1 A1 H1 sh1 af1 => by
    cases p with
    | true => exact iteT (hr rfl F0 H0 F1 A1 H1 σ Q sh1 (sv.af af1) fun F2 A2 H2 sh2 af2 => k F2 A2 H2 sh2 (af1.trans af2))
    | false => exact iteF (k F1 A1 H1 sh1 af1)
theorem EW.orC {p q : Bool} (h : ET X a Γ M p M) (hr : p = false → EW X (.BoolOp .Or (b :: rest) pos) Γ M q M) : EW X (.BoolOp .Or (a :: b :: rest) pos) Γ M (p || q) M :=
  EW.of (pw_or PT.x PW.x) fun F0 H0 F A H σ Q sh sv k => h F0 H0 F A H σ _ sh sv fun F1 A1 H1 sh1 af1 => by
    cases p with
    | true => exact iteT (k F1 A1 H1 sh1 af1)
    | false => exact iteF (hr rfl F0 H0 F1 A1 H1 σ Q sh1 (sv.af af1) fun F2 A2 H2 sh2 af2 => k F2 A2 H2 sh2 (af1.trans af2))
theorem ET.and {p q : Bool} (h : ET X a Γ M p M) (hr : p = true → EW X (.BoolOp .And (b :: rest) pos) Γ M q M) : ET X (.BoolOp .And (a :: b :: rest) pos) Γ M (p && q) M := (EW.andC h hr).pt
theorem ET.or {p q : Bool} (h : ET X a Γ M p M) (hr : p = false → EW X (.BoolOp .Or (b :: rest) pos) Γ M q M) : ET X (.BoolOp .Or (a :: b :: rest) pos) Γ M (p || q) M := (EW.orC h hr).pt
theorem ET.not {p : Bool} (h : ET X a Γ M p M1) : ET X (.UnaryOp .Not a pos) Γ M (!p) M1 := ET.of (pt_not PT.x) fun F0 H0 F A H σ Q sh sv k => h F0 H0 F A H σ _ sh sv fun F1 A1 H1 sh1 af1 => k F1 A1 H1 sh1 af1
theorem EV.ite {c : Expr} {p : Bool} (h : ET X c Γ M p M1) (ht : p = true → EV X a Γ M1 x M2) (hf : p = false → EV X b Γ M1 x M2) : EV X (.IfExp c a b pos) Γ M x M2 :=
  EV.of (pe_ifExp PT.x PE.x PE.x) fun F0 H0 F A H σ Q sh sv k => h F0 H0 F A H σ _ sh sv fun F1 A1 H1 sh1 af1 => by
    cases p with
    | true => exact iteT (ht rfl F0 H0 F1 A1 H1 σ Q sh1 (sv.af af1) fun v F2 A2 H2 sh2 af2 r => k v F2 A2 H2 sh2 (af1.trans af2) r)
    | false => exact iteF (hf rfl F0 H0 F1 A1 H1 σ Q sh1 (sv.af af1) fun v F2 A2 H2 sh2 af2 r => k v F2 A2 H2 sh2 (af1.trans af2) r)
theorem EV.iteI {c : Expr} {p : Bool} (h : ET X c Γ M p M1) (ht : p = true → EV X a Γ M1 (.d (.int i)) M2) (hf : p = false → EV X b Γ M1 (.d (.int j)) M2) : EV X (.IfExp c a b pos) Γ M (.d (.int (if p = true then i else j))) M2 :=
  EV.ite h (fun e => by subst e; rw [if_pos rfl]; exact ht rfl) (fun e => by subst e; rw [if_neg Bool.false_ne_true]; exact hf rfl)
theorem EV.iteS {c : Expr} {p : Bool} {u w : Str} (h : ET X c Γ M p M1) (ht : p = true → EV X a Γ M1 (.d (.str u)) M2) (hf : p = false → EV X b Γ M1 (.d (.str w)) M2) : EV X (.IfExp c a b pos) Γ M (.d (.str (if p = true then u else w))) M2 :=
  EV.ite h (fun e => by subst e; rw [if_pos rfl]; exact ht rfl) (fun e => by subst e; rw [if_neg Bool.false_ne_true]; exact hf rfl)
theorem EV.one {op : BoolOp} (h : EV X a Γ M x M1) : EV X (.BoolOp op [a] pos) Γ M x M1 := EV.of (pe_one PE.x) h
theorem EV.and {p q : Bool} (h : EV X a Γ M (.d (.bool p)) M) (hr : p = true → EV X (.BoolOp .And (b :: rest) pos) Γ M (.d (.bool q)) M) : EV X (.BoolOp .And (a :: b :: rest) pos) Γ M (.d (.bool (p && q))) M :=
  EV.of (pe_and PE.x PE.x) fun F0 H0 F A H σ Q sh sv k => h F0 H0 F A H σ _ sh sv fun v F1 A1 H1 sh1 af1 v1 => ⟨p, v1.bl, by
    cases p with
    | true => exact iteT (hr rfl F0 H0 F1 A1 H1 σ Q sh1 (sv.af af1) fun v F2 A2 H2 sh2 af2 r => k v F2 A2 H2 sh2 (af1.trans af2) r)
    | false => exact iteF (k _ F1 A1 H1 sh1 af1 (DR.bl _))⟩
theorem EV.or {p q : Bool} (h : EV X a Γ M (.d (.bool p)) M) (hr : p = false → EV X (.BoolOp .Or (b :: rest) pos) Γ M (.d (.bool q)) M) : EV X (.BoolOp .Or (a :: b :: rest) pos) Γ M (.d (.bool (p || q))) M :=
  EV.of (pe_or PE.x PE.x) fun F0 H0 F A H σ Q sh sv k => h F0 H0 F A H σ _ sh sv fun v F1 A1 H1 sh1 af1 v1 => ⟨p, v1.bl, by
    cases p with
    | true => exact iteT (k _ F1 A1 H1 sh1 af1 (DR.bl _))
    | false => exact iteF (hr rfl F0 H0 F1 A1 H1 σ Q sh1 (sv.af af1) fun v F2 A2 H2 sh2 af2 r => k v F2 A2 H2 sh2 (af1.trans af2) r)⟩
theorem EV.not {p : Bool} (h : EV X a Γ M (.d (.bool p)) M1) : EV X (.UnaryOp .Not a pos) Γ M (.d (.bool (!p))) M1 :=
  EV.of (pe_not PE.x) fun F0 H0 F A H σ Q sh sv k => h F0 H0 F A H σ _ sh sv fun v F1 A1 H1 sh1 af1 v1 => ⟨p, v1.bl, k _ F1 A1 H1 sh1 af1 (DR.bl _)⟩
theorem tChain_of {c : Expr} {op op' : CmpOp} {p q : Bool} {r r' : R2} (ha : EV X a Γ M x M) (hb : EV X b Γ M y M) (hr : B2 X.K r x y M (.d (.bool p)) M) (hc : p = true → EV X c Γ M z M ∧ B2 X.K r' y z M (.d (.bool q)) M) :
    EVt X.K (tChain r r' (xE X a) (xE X b) (xE X c)) Γ M (.d (.bool (p && q))) M := fun F0 H0 F A H σ Q sh sv k =>
  ha F0 H0 F A H σ _ sh sv fun v F1 A1 H1 sh1 af1 v1 => hb F0 H0 F1 A1 H1 σ _ sh1 (sv.af af1) fun w F2 A2 H2 sh2 af2 v2 =>
    hr F0 H0 F2 A2 H2 v w _ sh2 (af2.vr v1) v2 fun u F3 A3 H3 sh3 af3 v3 => ⟨p, v3.bl, by
      cases p with
      | true => exact iteT ((hc rfl).1 F0 H0 F3 A3 H3 σ _ sh3 (((sv.af af1).af af2).af af3) fun u' F4 A4 H4 sh4 af4 v4 => (hc rfl).2 F0 H0 F4 A4 H4 w u' _ sh4 (af4.vr (af3.vr v2)) v4 fun t F5 A5 H5 sh5 af5 v5 =>
          k t F5 A5 H5 sh5 ((((af1.trans af2).trans af3).trans af4).trans af5) v5)
      | false => exact iteF (k _ F3 A3 H3 sh3 ((af1.trans af2).trans af3) (DR.bl _))⟩
theorem EV.chain {c : Expr} {op op' : CmpOp} {p q : Bool} (ha : EV X a Γ M x M) (hb : EV X b Γ M y M) (h : CB X op x y M p) (hc : p = true → EV X c Γ M z M) (h' : CB X op' y z M q) (hm : lastMarks [op, op'] [b, c] = false := by rfl) :
    EV X (.Compare a [op, op'] [b, c] pos) Γ M (.d (.bool (p && q))) M := by
  obtain ⟨r, ho, hr⟩ := h
  obtain ⟨r', ho', hr'⟩ := h'
  exact EV.of (pe_chain ho ho' PE.x PE.x PE.x hm) (tChain_of (op := op) (op' := op') ha hb hr fun e => ⟨hc e, hr'⟩)
theorem ET.chain {c : Expr} {op op' : CmpOp} {p q : Bool} (ha : EV X a Γ M x M) (hb : EV X b Γ M y M) (h : CB X op x y M p) (hc : p = true → EV X c Γ M z M) (h' : CB X op' y z M q) (hm : lastMarks [op, op'] [b, c] = false := by rfl) :
    ET X (.Compare a [op, op'] [b, c] pos) Γ M (p && q) M := by
  obtain ⟨r, ho, hr⟩ := h
  obtain ⟨r', ho', hr'⟩ := h'
  exact ET.of (pt_chain ho ho' PE.x PE.x PE.x hm) (ETt.test (tChain_of (op := op) (op' := op') ha hb hr fun e => ⟨hc e, hr'⟩))

/-! argument lists -/
theorem EA.nil : EA X [] Γ M [] M := EA.of pa_nil fun F0 H0 F A H σ Q sh sv k => k [] F A H sh (Af.refl _ _ _) .nil
theorem EA.cons {xs : List AV} (ha : EV X e Γ M x M1) (hr : EA X es Γ M1 xs M2) (hs : starEach (e :: es) X.env = (false, eval e X.env) :: starEach es X.env := by rfl) : EA X (e :: es) Γ M (x :: xs) M2 :=
  EA.of (pa_cons PE.x PA.x hs) fun F0 H0 F A H σ Q sh sv k => ha F0 H0 F A H σ _ sh sv fun v F1 A1 H1 sh1 af1 v1 => hr F0 H0 F1 A1 H1 σ _ sh1 (sv.af af1) fun vs F2 A2 H2 sh2 af2 v2 =>
    k (v :: vs) F2 A2 H2 sh2 (af1.trans af2) (.cons (af2.vr v1) v2)

/-! displays -/
theorem pair_d {K : PySem.W.Frag} {F : Hp} {A : List Addr} {vs : List V} {ds : List PyData} (h : Paired (VR K F A) vs (ds.map .d)) : DRs K F vs ds := DRs.of (P2.imp (fun _ _ q => q) (P2.unmapR (F := VR K F A) (f := AV.d) h))
theorem d_pair {K : PySem.W.Frag} {F : Hp} {A : List Addr} {vs : List V} {ds : List PyData} (h : DRs K F vs ds) : Paired (VR K F A) vs (ds.map .d) := P2.mapR (F := VR K F A) (f := AV.d) (P2.imp (fun _ _ q => q) h.paired)
theorem EV.lst {ds : List PyData} (h : EA X es Γ M (ds.map .d) M1) (hl : ds.length ≤ sizeLine) : EV X (.List es pos) Γ M (.d (.list ds)) M1 :=
  EV.of (pe_lst PA.x) fun F0 H0 F A H σ Q sh sv k => h F0 H0 F A H σ _ sh sv fun vs F1 A1 H1 sh1 af1 v1 => ⟨by rw [P2.len v1, List.length_map]; exact hl, fun p hp => by
    obtain ⟨sh2, af2⟩ := sh1.new (o := .lst vs) hp
    exact k _ _ _ _ sh2 (af1.trans af2) (DR.lst upd_same ((pair_d v1).mono af2.ff))⟩
theorem EV.lstM {xs : List AV} (h : EA X es Γ M xs M1) (hl : xs.length ≤ sizeLine) : EV X (.List es pos) Γ M (.m M1.length) (M1 ++ [.lst xs]) :=
  EV.of (pe_lst PA.x) fun F0 H0 F A H σ Q sh sv k => h F0 H0 F A H σ _ sh sv fun vs F1 A1 H1 sh1 af1 v1 => ⟨by rw [P2.len v1]; exact hl, fun p hp => by
    obtain ⟨sh2, af2⟩ := sh1.cell (o := .lst vs) (mc := .lst xs) hp ⟨vs, upd_same, P2.imp (fun _ _ q => VR.mono (Same.refl _) ⟨[p], rfl⟩ q) v1⟩
    refine k _ _ _ _ sh2 (af1.trans af2) ⟨p, ?_, rfl⟩
    rw [← sh1.al]; simp⟩
theorem EV.tup {ds : List PyData} {x1} (h : EA X es Γ M (ds.map .d) M1) (hl : ds.length ≤ sizeLine) : EV X (.Tuple es x1 pos) Γ M (.d (.tuple ds)) M1 :=
  EV.of (pe_tup PA.x) fun F0 H0 F A H σ Q sh sv k => h F0 H0 F A H σ _ sh sv fun vs F1 A1 H1 sh1 af1 v1 => ⟨by rw [P2.len v1, List.length_map]; exact hl, fun p hp => by
    obtain ⟨sh2, af2⟩ := sh1.new (o := .tup vs) hp
    exact k _ _ _ _ sh2 (af1.trans af2) (DR.tup (SqT.of upd_same) ((pair_d v1).mono af2.ff))⟩
/-- {} -/
theorem EV.dctM : EV X (.Dict [] [] pos) Γ M (.m M.length) (M ++ [.dct []]) :=
  EV.of pe_dnewK fun F0 H0 F A H σ Q sh sv k p hp => by
    obtain ⟨sh2, af2⟩ := sh.cell (o := .dK []) (mc := .dct []) hp ⟨[], upd_same, .nil⟩
    refine k _ _ _ _ sh2 af2 ⟨p, ?_, rfl⟩
    rw [← sh.al]; simp
end
end DV

set_option Elab.async false
set_option maxRecDepth 100000
set_option maxHeartbeats 4000000
set_option linter.all false
namespace DV
open PySem PySem.Spec L2

/-! ### lists, tuples that are read -/
def lstOf (M : List MC) : AV → Option (List AV)
  | .d (.list ds) => some (ds.map .d)
  | .m k => match M[k]? with
    | some (.lst xs) => some xs
    | _ => none
  | _ => none
def tupOf : AV → Option (List AV)
  | .d (.tuple ds) => some (ds.map .d)
  | _ => none
section
variable {K : PySem.W.Frag} {F0 H0 F H : Hp} {A : List Addr} {M : List MC} {v : V} {x : AV} {xs : List AV}
theorem lst_at (s : SH K F0 H0 F A H M) (r : VR K F A v x) (h : lstOf M x = some xs) : ∃ a vs, v = .ref a ∧ H a = some (.lst vs) ∧ Paired (VR K F A) vs xs := by
  cases x with
  | d d =>
    cases d <;> simp [lstOf] at h
    subst h
    cases r with
    | lst h1 h2 => exact ⟨_, _, rfl, s.fh _ _ h1, d_pair h2⟩
  | m k =>
    obtain ⟨a, h1, rfl⟩ := r
    simp only [lstOf] at h
    split at h
    · rename_i ys e
      cases h
      obtain ⟨_, vs, q1, q2⟩ := s.own k a _ h1 e (by simp)
      exact ⟨a, vs, rfl, q1, q2⟩
    · cases h
theorem tup_at (s : SH K F0 H0 F A H M) (r : VR K F A v x) (h : tupOf x = some xs) : ∃ a vs, v = .ref a ∧ SqT K H a vs ∧ Paired (VR K F A) vs xs := by
  cases x with
  | d d =>
    cases d <;> simp [tupOf] at h
    subst h
    cases r with
    | tup h1 h2 => exact ⟨_, _, rfl, sqT_mono s.fh h1, d_pair h2⟩
  | m k => simp [tupOf] at h
end
theorem atI_pair {α β : Type} {G : α → β → Prop} {vs : List α} {xs : List β} {i : Int} {z : β} (h : Paired G vs xs) (e : atI xs i = some z) : ∃ v, atI vs i = some v ∧ G v z := by
  unfold atI at e ⊢
  rw [P2.len h]
  cases q : ixN xs.length i with
  | none => rw [q] at e; cases e
  | some j =>
    rw [q] at e
    simp only [Option.bind_some] at e ⊢
    exact P2.get h e
theorem atI_map {α β : Type} (f : α → β) (xs : List α) (i : Int) : atI (xs.map f) i = (atI xs i).map f := by
  unfold atI
  rw [List.length_map]
  cases ixN xs.length i <;> simp
def cutG {α : Type} (xs : List α) (lo hi : Option Int) : List α := (xs.drop (HT.sIx xs.length 0 lo)).take (HT.sIx xs.length xs.length hi - HT.sIx xs.length 0 lo)
theorem cutG_map {α β : Type} (f : α → β) (xs : List α) (lo hi : Option Int) : cutG (xs.map f) lo hi = (cutG xs lo hi).map f := by
  unfold cutG
  rw [List.length_map, List.map_take, List.map_drop]
theorem cutG_len {α : Type} (xs : List α) (lo hi : Option Int) : (cutG xs lo hi).length ≤ xs.length := by
  unfold cutG
  rw [List.length_take, List.length_drop]
  omega
theorem cut_pair {α β : Type} {G : α → β → Prop} {vs : List α} {xs : List β} (h : Paired G vs xs) (lo hi : Option Int) : Paired G (cutG vs lo hi) (cutG xs lo hi) := by
  unfold cutG
  rw [P2.len h]
  exact P2.take _ (P2.drop _ h)

/-- an optional part of a slice -/
def EO (X : Cx) (e : Option Expr) (Γ : Gam) (M : List MC) (o : Option Int) (M' : List MC) : Prop :=
  match e with
  | none => o = none ∧ M' = M
  | some e => ∃ i, o = some i ∧ EV X e Γ M (.d (.int i)) M'
def xO (X : Cx) (e : Option Expr) : TO := fun σ H Q =>
  match e with
  | none => Q none H
  | some e => xE X e σ H fun x H1 => ∃ i, x = .int i ∧ Q (some i) H1
theorem PO.x {X : Cx} {e : Option Expr} : PO X e (xO X e) := by
  cases e with
  | none => exact po_none
  | some e => exact po_some PE.x
section
variable {X : Cx} {e a b f : Expr} {es : List Expr} {Γ : Gam} {M M1 M2 M3 : List MC} {x y z : AV} {pos p p2 : Pos} {xs ys : List AV} {i j : Int} {n : Str}
theorem EO.none : EO X none Γ M none M := ⟨rfl, rfl⟩
theorem EO.some (h : EV X e Γ M (.d (.int i)) M1) : EO X (some e) Γ M (some i) M1 := ⟨i, rfl, h⟩
theorem EOt {o : Option Expr} {r : Option Int} (h : EO X o Γ M r M1) {F0 H0 F : Hp} {A : List Addr} {H : Hp} {σ : L2.St} {Q : Option Int → Hp → Prop} (sh : SH X.K F0 H0 F A H M) (sv : SV X.K F A σ Γ)
    (k : ∀ F' A' H', SH X.K F0 H0 F' A' H' M1 → Af F A H F' A' H' → Q r H') : xO X o σ H Q := by
  cases o with
  | none =>
    obtain ⟨rfl, rfl⟩ := h
    exact k F A H sh (Af.refl _ _ _)
  | some e =>
    obtain ⟨i, rfl, h⟩ := h
    exact h F0 H0 F A H σ _ sh sv fun v F1 A1 H1 sh1 af1 v1 => ⟨i, v1.int, k F1 A1 H1 sh1 af1⟩
theorem EV.ixL (ha : EV X a Γ M x M1) (hb : EV X b Γ M1 (.d (.int i)) M2) (hx : lstOf M2 x = some xs) (hz : atI xs i = some z) (hs : PlainIx b := by exact fun _ _ => rfl) : EV X (.Subscript a b pos) Γ M z M2 :=
  EV.of (pe_ix ix_list PE.x PE.x hs) (EVt.op ha hb fun F0 H0 F A H v w Q sh rv rw k => by
    obtain ⟨l, vs, rfl, h1, h2⟩ := lst_at sh rv hx
    obtain ⟨u, h3, h4⟩ := atI_pair h2 hz
    exact ⟨l, vs, i, u, rfl, rw.int, SqL.of h1, h3, k u F A H sh (Af.refl _ _ _) h4⟩)
theorem EV.ixT (ha : EV X a Γ M x M1) (hb : EV X b Γ M1 (.d (.int i)) M2) (hx : tupOf x = some xs) (hz : atI xs i = some z) (hs : PlainIx b := by exact fun _ _ => rfl) : EV X (.Subscript a b pos) Γ M z M2 :=
  EV.of (pe_ix ix_tup PE.x PE.x hs) (EVt.op ha hb fun F0 H0 F A H v w Q sh rv rw k => by
    obtain ⟨l, vs, rfl, h1, h2⟩ := tup_at sh rv hx
    obtain ⟨u, h3, h4⟩ := atI_pair h2 hz
    exact ⟨l, vs, i, u, rfl, rw.int, h1, h3, k u F A H sh (Af.refl _ _ _) h4⟩)
theorem EV.ixS {q : Str} {c : Nat} (ha : EV X a Γ M (.d (.str q)) M1) (hb : EV X b Γ M1 (.d (.int i)) M2) (hl : q.length ≤ sizeLine) (hz : atI q.cps.toList i = some c) (hs : PlainIx b := by exact fun _ _ => rfl) :
    EV X (.Subscript a b pos) Γ M (.d (.str ⟨#[c]⟩)) M2 :=
  EV.of (pe_ix ix_str PE.x PE.x hs) (EVt.op ha hb fun F0 H0 F A H v w Q sh rv rw k => ⟨q, i, c, rv.str, rw.int, hl, hz, k _ F A H sh (Af.refl _ _ _) (DR.str _)⟩)
variable {lo hi : Option Expr} {o u : Option Int}
theorem EV.slL {ds : List PyData} (ha : EV X e Γ M x M1) (hlo : EO X lo Γ M1 o M2) (hhi : EO X hi Γ M2 u M3) (hx : lstOf M3 x = some (ds.map .d)) : EV X (.Subscript e (.Slice lo hi none p2) pos) Γ M (.d (.list (cutG ds o u))) M3 :=
  EV.of (pe_slice sl_list PE.x PO.x PO.x) fun F0 H0 F A H σ Q sh sv k => ha F0 H0 F A H σ _ sh sv fun v F1 A1 H1 sh1 af1 v1 =>
    EOt hlo sh1 (sv.af af1) fun F2 A2 H2 sh2 af2 => EOt hhi sh2 ((sv.af af1).af af2) fun F3 A3 H3 sh3 af3 => by
      obtain ⟨l, vs, rfl, h1, h2⟩ := lst_at sh3 (af3.vr (af2.vr v1)) hx
      refine ⟨l, vs, rfl, SqL.of h1, fun q hq => ?_⟩
      obtain ⟨sh4, af4⟩ := sh3.new (o := .lst (cutV vs o u)) hq
      have hp : Paired (VR X.K F3 A3) (cutV vs o u) ((cutG ds o u).map .d) := by
        rw [← cutG_map]
        exact cut_pair h2 o u
      exact k _ _ _ _ sh4 (((af1.trans af2).trans af3).trans af4) (DR.lst upd_same ((pair_d hp).mono af4.ff))
theorem EV.slS {q : Str} (ha : EV X e Γ M (.d (.str q)) M1) (hlo : EO X lo Γ M1 o M2) (hhi : EO X hi Γ M2 u M3) (hl : q.length ≤ sizeLine) : EV X (.Subscript e (.Slice lo hi none p2) pos) Γ M (.d (.str (cutS q o u))) M3 :=
  EV.of (pe_slice sl_str PE.x PO.x PO.x) fun F0 H0 F A H σ Q sh sv k => ha F0 H0 F A H σ _ sh sv fun v F1 A1 H1 sh1 af1 v1 =>
    EOt hlo sh1 (sv.af af1) fun F2 A2 H2 sh2 af2 => EOt hhi sh2 ((sv.af af1).af af2) fun F3 A3 H3 sh3 af3 =>
      ⟨q, v1.str, hl, k _ _ _ _ sh3 ((af1.trans af2).trans af3) (DR.str _)⟩
/-- e[::-1] -/
theorem EV.revL {ds : List PyData} {k : Nat} {p1 p3 : Pos} (ha : EV X e Γ M x M1) (hx : lstOf M1 x = some (ds.map .d)) :
    EV X (.Subscript e (.Slice none none (some (.UnaryOp .USub (.Constant (.int 1) k p1) p2)) p3) pos) Γ M (.d (.list ds.reverse)) M1 :=
  EV.of (pe_revL PE.x) fun F0 H0 F A H σ Q sh sv k => ha F0 H0 F A H σ _ sh sv fun v F1 A1 H1 sh1 af1 v1 => by
    obtain ⟨l, vs, rfl, h1, h2⟩ := lst_at sh1 v1 hx
    refine ⟨l, vs, rfl, SqL.of h1, fun q hq => ?_⟩
    obtain ⟨sh4, af4⟩ := sh1.new (o := .lst vs.reverse) hq
    have hp : Paired (VR X.K F1 A1) vs.reverse (ds.reverse.map .d) := by
      rw [List.map_reverse]
      exact P2.rev h2
    exact k _ _ _ _ sh4 (af1.trans af4) (DR.lst upd_same ((pair_d hp).mono af4.ff))
/-- list + list, list * int -/
theorem EV.cat {ds es' : List PyData} (ha : EV X a Γ M x M1) (hb : EV X b Γ M1 y M2) (hx : lstOf M2 x = some (ds.map .d)) (hy : lstOf M2 y = some (es'.map .d)) (hl : ds.length + es'.length ≤ sizeLine) :
    EV X (.BinOp a .Add b pos) Γ M (.d (.list (ds ++ es'))) M2 :=
  EV.bin op_cat ha hb fun F0 H0 F A H v w Q sh rv rw k => by
    obtain ⟨l, vs, rfl, h1, h2⟩ := lst_at sh rv hx
    obtain ⟨r, ws, rfl, h3, h4⟩ := lst_at sh rw hy
    refine ⟨l, r, vs, ws, rfl, rfl, h1, h3, by rw [P2.len h2, P2.len h4, List.length_map, List.length_map]; exact hl, fun q hq => ?_⟩
    obtain ⟨sh4, af4⟩ := sh.new (o := .lst (vs ++ ws)) hq
    have hp : Paired (VR X.K F A) (vs ++ ws) ((ds ++ es').map .d) := by
      rw [List.map_append]
      exact P2.app h2 h4
    exact k _ _ _ _ sh4 af4 (DR.lst upd_same ((pair_d hp).mono af4.ff))
theorem len_flat {α : Type} (xs : List α) : ∀ n : Nat, (List.replicate n xs).flatten.length = n * xs.length
  | 0 => by simp
  | n + 1 => by rw [List.replicate_succ, List.flatten_cons, List.length_append, len_flat xs n, Nat.add_mul]; omega
theorem map_flat {α β : Type} (f : α → β) (xs : List α) : ∀ n : Nat, ((List.replicate n xs).flatten).map f = (List.replicate n (xs.map f)).flatten
  | 0 => rfl
  | n + 1 => by rw [List.replicate_succ, List.flatten_cons, List.map_append, map_flat f xs n, List.replicate_succ, List.flatten_cons]
theorem EV.rep {ds : List PyData} (ha : EV X a Γ M x M1) (hb : EV X b Γ M1 (.d (.int i)) M2) (hx : lstOf M2 x = some (ds.map .d)) (h1 : -(2 ^ 63) ≤ i) (h2 : i < 2 ^ 63) (hl : ds.length * i.toNat ≤ sizeLine) :
    EV X (.BinOp a .Mult b pos) Γ M (.d (.list (List.replicate i.toNat ds).flatten)) M2 :=
  EV.bin op_rep ha hb fun F0 H0 F A H v w Q sh rv rw k => by
    obtain ⟨l, vs, rfl, h3, h4⟩ := lst_at sh rv hx
    refine ⟨l, i, vs, rfl, rw.int, h3, h1, h2, by rw [P2.len h4, List.length_map]; exact hl, fun q hq => ?_⟩
    obtain ⟨sh4, af4⟩ := sh.new (o := .lst (List.replicate i.toNat vs).flatten) hq
    have hp : Paired (VR X.K F A) (List.replicate i.toNat vs).flatten ((List.replicate i.toNat ds).flatten.map .d) := by
      rw [map_flat]
      exact P2.flat h4
    exact k _ _ _ _ sh4 af4 (DR.lst upd_same ((pair_d hp).mono af4.ff))
/-- the same, as a cell -/
theorem EV.repM (ha : EV X a Γ M x M1) (hb : EV X b Γ M1 (.d (.int i)) M2) (hx : lstOf M2 x = some xs) (h1 : -(2 ^ 63) ≤ i) (h2 : i < 2 ^ 63) (hl : xs.length * i.toNat ≤ sizeLine) :
    EV X (.BinOp a .Mult b pos) Γ M (.m M2.length) (M2 ++ [.lst (List.replicate i.toNat xs).flatten]) :=
  EV.bin op_rep ha hb fun F0 H0 F A H v w Q sh rv rw k => by
    obtain ⟨l, vs, rfl, h3, h4⟩ := lst_at sh rv hx
    refine ⟨l, i, vs, rfl, rw.int, h3, h1, h2, by rw [P2.len h4]; exact hl, fun q hq => ?_⟩
    obtain ⟨sh4, af4⟩ := sh.cell (o := .lst (List.replicate i.toNat vs).flatten) (mc := .lst (List.replicate i.toNat xs).flatten) hq ⟨_, upd_same, P2.imp (fun _ _ q' => VR.mono (Same.refl _) ⟨[q], rfl⟩ q') (P2.flat h4)⟩
    exact k _ _ _ _ sh4 af4 ⟨q, by rw [← sh.al]; simp, rfl⟩

/-! ### builtins -/
theorem EV.callB {id : String} {r : List V → Hp → VK → Prop} (hc : CallR X (.builtin id) r) (hv : bootBuiltins n = some (.builtin id)) (hm : X.mg n = none) (ha : EA X (e :: es) Γ M xs M1) (h : C1 X.K r xs M1 z M2) (hg : Gl X n := by rfl)
    (hn : n ≠ "__name__" := by decide) (hdb : (n == ("__debug__" : Str)) = false := by decide) (he : starEach (e :: es) X.env = (false, eval e X.env) :: starEach es X.env := by rfl) (hpl : (backTo pos (starEach es X.env)).any (·.1) = false := by rfl) :
    EV X (.Call (.Name n p) (e :: es) [] pos) Γ M z M2 :=
  EV.of (pe_callB hc hg hm hv PA.x hn hdb he hpl) fun F0 H0 F A H σ Q sh sv k => ha F0 H0 F A H σ _ sh sv fun vs F1 A1 H1 sh1 af1 v1 => h F0 H0 F1 A1 H1 vs Q sh1 v1 fun u F2 A2 H2 sh2 af2 v2 => k u F2 A2 H2 sh2 (af1.trans af2) v2
theorem EV.callT {T : String} {r : List V → Hp → VK → Prop} (hc : CallR X (.type T) r) (hv : bootBuiltins n = some (.type T)) (hm : X.mg n = none) (ha : EA X (e :: es) Γ M xs M1) (h : C1 X.K r xs M1 z M2) (hg : Gl X n := by rfl)
    (hn : n ≠ "__name__" := by decide) (hdb : (n == ("__debug__" : Str)) = false := by decide) (he : starEach (e :: es) X.env = (false, eval e X.env) :: starEach es X.env := by rfl) (hpl : (backTo pos (starEach es X.env)).any (·.1) = false := by rfl) :
    EV X (.Call (.Name n p) (e :: es) [] pos) Γ M z M2 :=
  EV.of (pe_callTy hc hg hm hv PA.x hn hdb he hpl) fun F0 H0 F A H σ Q sh sv k => ha F0 H0 F A H σ _ sh sv fun vs F1 A1 H1 sh1 af1 v1 => h F0 H0 F1 A1 H1 vs Q sh1 v1 fun u F2 A2 H2 sh2 af2 v2 => k u F2 A2 H2 sh2 (af1.trans af2) v2
theorem EA.one (h : EV X e Γ M x M1) (hs : starEach [e] X.env = (false, eval e X.env) :: starEach [] X.env := by rfl) : EA X [e] Γ M [x] M1 := EA.cons h EA.nil hs
theorem pair1 {K : PySem.W.Frag} {F : Hp} {A : List Addr} {vs : List V} (h : Paired (VR K F A) vs [x]) : ∃ v, vs = [v] ∧ VR K F A v x := by
  cases h with
  | cons a t => cases t; exact ⟨_, rfl, a⟩
theorem pair2 {K : PySem.W.Frag} {F : Hp} {A : List Addr} {vs : List V} (h : Paired (VR K F A) vs [x, y]) : ∃ v w, vs = [v, w] ∧ VR K F A v x ∧ VR K F A w y := by
  cases h with
  | cons a t => cases t with | cons b t => cases t; exact ⟨_, _, rfl, a, b⟩
theorem EV.lenL (hm : X.mg "len" = none) (h : EV X e Γ M x M1) (hx : lstOf M1 x = some xs) (hg : Gl X "len" := by rfl) (he : starEach [e] X.env = (false, eval e X.env) :: starEach [] X.env := by rfl) (hpl : (backTo pos (starEach [] X.env)).any (·.1) = false := by rfl) :
    EV X (.Call (.Name "len" p) [e] [] pos) Γ M (.d (.int (xs.length : Nat))) M1 :=
  EV.callB call_len_seq PySem.boot_len hm (EA.one h he) (fun F0 H0 F A H vs Q sh r k => by
    obtain ⟨v, rfl, rv⟩ := pair1 r
    obtain ⟨l, ws, rfl, h1, h2⟩ := lst_at sh rv hx
    exact ⟨l, ws, rfl, .inl (SqL.of h1), by rw [P2.len h2]; exact k _ F A H sh (Af.refl _ _ _) (DR.int _)⟩) hg (he := he) (hpl := hpl)
theorem EV.lenT (hm : X.mg "len" = none) (h : EV X e Γ M x M1) (hx : tupOf x = some xs) (hg : Gl X "len" := by rfl) (he : starEach [e] X.env = (false, eval e X.env) :: starEach [] X.env := by rfl) (hpl : (backTo pos (starEach [] X.env)).any (·.1) = false := by rfl) :
    EV X (.Call (.Name "len" p) [e] [] pos) Γ M (.d (.int (xs.length : Nat))) M1 :=
  EV.callB call_len_seq PySem.boot_len hm (EA.one h he) (fun F0 H0 F A H vs Q sh r k => by
    obtain ⟨v, rfl, rv⟩ := pair1 r
    obtain ⟨l, ws, rfl, h1, h2⟩ := tup_at sh rv hx
    exact ⟨l, ws, rfl, .inr h1, by rw [P2.len h2]; exact k _ F A H sh (Af.refl _ _ _) (DR.int _)⟩) hg (he := he) (hpl := hpl)
theorem EV.lenS {q : Str} (hm : X.mg "len" = none) (h : EV X e Γ M (.d (.str q)) M1) (hl : q.length ≤ sizeLine) (hg : Gl X "len" := by rfl) (he : starEach [e] X.env = (false, eval e X.env) :: starEach [] X.env := by rfl) (hpl : (backTo pos (starEach [] X.env)).any (·.1) = false := by rfl) :
    EV X (.Call (.Name "len" p) [e] [] pos) Γ M (.d (.int (q.length : Nat))) M1 :=
  EV.callB call_len_str PySem.boot_len hm (EA.one h he) (fun F0 H0 F A H vs Q sh r k => by
    obtain ⟨v, rfl, rv⟩ := pair1 r
    exact ⟨q, by rw [rv.str], hl, k _ F A H sh (Af.refl _ _ _) (DR.int _)⟩) hg (he := he) (hpl := hpl)
theorem EV.intI (hm : X.mg "int" = none) (h : EV X e Γ M (.d (.int i)) M1) (hg : Gl X "int" := by rfl) (he : starEach [e] X.env = (false, eval e X.env) :: starEach [] X.env := by rfl) (hpl : (backTo pos (starEach [] X.env)).any (·.1) = false := by rfl) :
    EV X (.Call (.Name "int" p) [e] [] pos) Γ M (.d (.int i)) M1 :=
  EV.callT call_int1 (by decide +kernel) hm (EA.one h he) (fun F0 H0 F A H vs Q sh r k => by
    obtain ⟨v, rfl, rv⟩ := pair1 r
    exact .inl ⟨i, by rw [rv.int], k _ F A H sh (Af.refl _ _ _) (DR.int _)⟩) hg (he := he) (hpl := hpl)
theorem EV.intB {c : Bool} (hm : X.mg "int" = none) (h : EV X e Γ M (.d (.bool c)) M1) (hg : Gl X "int" := by rfl) (he : starEach [e] X.env = (false, eval e X.env) :: starEach [] X.env := by rfl) (hpl : (backTo pos (starEach [] X.env)).any (·.1) = false := by rfl) :
    EV X (.Call (.Name "int" p) [e] [] pos) Γ M (.d (.int (if c then 1 else 0))) M1 :=
  EV.callT call_int1 (by decide +kernel) hm (EA.one h he) (fun F0 H0 F A H vs Q sh r k => by
    obtain ⟨v, rfl, rv⟩ := pair1 r
    exact .inr ⟨c, by rw [rv.bl], k _ F A H sh (Af.refl _ _ _) (DR.int _)⟩) hg (he := he) (hpl := hpl)
theorem EV.min2 (hc : X.calm = true) (hm : X.mg "min" = none) (ha : EV X a Γ M (.d (.int i)) M1) (hb : EV X b Γ M1 (.d (.int j)) M2) (hg : Gl X "min" := by rfl)
    (he : starEach [a, b] X.env = (false, eval a X.env) :: starEach [b] X.env := by rfl) (he2 : starEach [b] X.env = (false, eval b X.env) :: starEach [] X.env := by rfl) (hpl : (backTo pos (starEach [b] X.env)).any (·.1) = false := by rfl) :
    EV X (.Call (.Name "min" p) [a, b] [] pos) Γ M (.d (.int (if j < i then j else i))) M2 :=
  EV.callB (call_min2 hc) (by decide +kernel) hm (EA.cons ha (EA.one hb he2) he) (fun F0 H0 F A H vs Q sh r k => by
    obtain ⟨v, w, rfl, rv, rw⟩ := pair2 r
    exact ⟨i, j, by rw [rv.int, rw.int], k _ F A H sh (Af.refl _ _ _) (DR.int _)⟩) hg (he := he) (hpl := hpl)
theorem EV.max2 (hc : X.calm = true) (hm : X.mg "max" = none) (ha : EV X a Γ M (.d (.int i)) M1) (hb : EV X b Γ M1 (.d (.int j)) M2) (hg : Gl X "max" := by rfl)
    (he : starEach [a, b] X.env = (false, eval a X.env) :: starEach [b] X.env := by rfl) (he2 : starEach [b] X.env = (false, eval b X.env) :: starEach [] X.env := by rfl) (hpl : (backTo pos (starEach [b] X.env)).any (·.1) = false := by rfl) :
    EV X (.Call (.Name "max" p) [a, b] [] pos) Γ M (.d (.int (if j > i then j else i))) M2 :=
  EV.callB (call_max2 hc) (by decide +kernel) hm (EA.cons ha (EA.one hb he2) he) (fun F0 H0 F A H vs Q sh r k => by
    obtain ⟨v, w, rfl, rv, rw⟩ := pair2 r
    exact ⟨i, j, by rw [rv.int, rw.int], k _ F A H sh (Af.refl _ _ _) (DR.int _)⟩) hg (he := he) (hpl := hpl)
/-- ints in a list -/
def aL (ns : List Int) : AV := .d (.list (ns.map .int))
theorem ints_at {K : PySem.W.Frag} {F : Hp} {A : List Addr} : ∀ {vs : List V} {ns : List Int}, Paired (VR K F A) vs (ns.map fun n => AV.d (.int n)) → vs = ns.map V.int
  | _, [], h => by cases h; rfl
  | _, n :: ns, h => by cases h with | cons a t => rw [VR.int a, ints_at t]; rfl
theorem bools_at {K : PySem.W.Frag} {F : Hp} {A : List Addr} : ∀ {vs : List V} {ns : List Bool}, Paired (VR K F A) vs (ns.map fun n => AV.d (.bool n)) → vs = ns.map V.bl
  | _, [], h => by cases h; rfl
  | _, n :: ns, h => by cases h with | cons a t => rw [VR.bl a, bools_at t]; rfl
theorem strs_at {K : PySem.W.Frag} {F : Hp} {A : List Addr} : ∀ {vs : List V} {ns : List Str}, Paired (VR K F A) vs (ns.map fun n => AV.d (.str n)) → vs = ns.map V.str
  | _, [], h => by cases h; rfl
  | _, n :: ns, h => by cases h with | cons a t => rw [VR.str a, strs_at t]; rfl
theorem ints_dr {K : PySem.W.Frag} {F : Hp} : ∀ (ns : List Int), DRs K F (ns.map V.int) (ns.map .int)
  | [] => .nil
  | n :: ns => .cons (.int n) (ints_dr ns)
theorem strs_dr {K : PySem.W.Frag} {F : Hp} : ∀ (ns : List Str), DRs K F (ns.map V.str) (ns.map .str)
  | [] => .nil
  | n :: ns => .cons (.str n) (strs_dr ns)
def lmin : List Int → Int
  | [] => 0
  | [n] => n
  | n :: m :: r => min n (lmin (m :: r))
def lmax : List Int → Int
  | [] => 0
  | [n] => n
  | n :: m :: r => max n (lmax (m :: r))
theorem lmin_mem : ∀ {ns : List Int}, ns ≠ [] → lmin ns ∈ ns
  | [n], _ => by simp [lmin]
  | n :: m :: r, _ => by
    have ih := lmin_mem (ns := m :: r) (by simp)
    simp only [lmin]
    rcases Int.le_total n (lmin (m :: r)) with h | h
    · rw [Int.min_eq_left h]; simp
    · rw [Int.min_eq_right h]; exact List.mem_cons_of_mem _ ih
theorem lmin_le : ∀ {ns : List Int} {y : Int}, y ∈ ns → lmin ns ≤ y
  | [n], y, h => by simp at h; subst h; simp [lmin]
  | n :: m :: r, y, h => by
    simp only [lmin]
    rcases List.mem_cons.mp h with q | q
    · subst q; omega
    · have := lmin_le q; omega
theorem lmax_mem : ∀ {ns : List Int}, ns ≠ [] → lmax ns ∈ ns
  | [n], _ => by simp [lmax]
  | n :: m :: r, _ => by
    have ih := lmax_mem (ns := m :: r) (by simp)
    simp only [lmax]
    rcases Int.le_total n (lmax (m :: r)) with h | h
    · rw [Int.max_eq_right h]; exact List.mem_cons_of_mem _ ih
    · rw [Int.max_eq_left h]; simp
theorem le_lmax : ∀ {ns : List Int} {y : Int}, y ∈ ns → y ≤ lmax ns
  | [n], y, h => by simp at h; subst h; simp [lmax]
  | n :: m :: r, y, h => by
    simp only [lmax]
    rcases List.mem_cons.mp h with q | q
    · subst q; omega
    · have := le_lmax q; omega
variable {ns : List Int}
theorem EV.minL (hc : X.calm = true) (hm : X.mg "min" = none) (h : EV X e Γ M x M1) (hx : lstOf M1 x = some (ns.map fun n => AV.d (.int n))) (hne : ns ≠ []) (hg : Gl X "min" := by rfl)
    (he : starEach [e] X.env = (false, eval e X.env) :: starEach [] X.env := by rfl) (hpl : (backTo pos (starEach [] X.env)).any (·.1) = false := by rfl) : EV X (.Call (.Name "min" p) [e] [] pos) Γ M (.d (.int (lmin ns))) M1 :=
  EV.callB (cr_min hc) (by decide +kernel) hm (EA.one h he) (fun F0 H0 F A H vs Q sh r k => by
    obtain ⟨v, rfl, rv⟩ := pair1 r
    obtain ⟨l, ws, rfl, h1, h2⟩ := lst_at sh rv hx
    rw [ints_at h2] at h1
    refine ⟨l, ns, rfl, SqL.of h1, List.length_pos_iff.mpr hne, fun m q1 q2 => ?_⟩
    have e : m = lmin ns := Int.le_antisymm (q2 _ (lmin_mem hne)) (lmin_le q1)
    rw [e]
    exact k _ F A H sh (Af.refl _ _ _) (DR.int _)) hg (he := he) (hpl := hpl)
theorem EV.maxL (hc : X.calm = true) (hm : X.mg "max" = none) (h : EV X e Γ M x M1) (hx : lstOf M1 x = some (ns.map fun n => AV.d (.int n))) (hne : ns ≠ []) (hg : Gl X "max" := by rfl)
    (he : starEach [e] X.env = (false, eval e X.env) :: starEach [] X.env := by rfl) (hpl : (backTo pos (starEach [] X.env)).any (·.1) = false := by rfl) : EV X (.Call (.Name "max" p) [e] [] pos) Γ M (.d (.int (lmax ns))) M1 :=
  EV.callB (cr_max hc) (by decide +kernel) hm (EA.one h he) (fun F0 H0 F A H vs Q sh r k => by
    obtain ⟨v, rfl, rv⟩ := pair1 r
    obtain ⟨l, ws, rfl, h1, h2⟩ := lst_at sh rv hx
    rw [ints_at h2] at h1
    refine ⟨l, ns, rfl, SqL.of h1, List.length_pos_iff.mpr hne, fun m q1 q2 => ?_⟩
    have e : m = lmax ns := Int.le_antisymm (le_lmax q1) (q2 _ (lmax_mem hne))
    rw [e]
    exact k _ F A H sh (Af.refl _ _ _) (DR.int _)) hg (he := he) (hpl := hpl)
theorem EV.sumL (hc : X.calm = true) (hm : X.mg "sum" = none) (h : EV X e Γ M x M1) (hx : lstOf M1 x = some (ns.map fun n => AV.d (.int n))) (hg : Gl X "sum" := by rfl)
    (he : starEach [e] X.env = (false, eval e X.env) :: starEach [] X.env := by rfl) (hpl : (backTo pos (starEach [] X.env)).any (·.1) = false := by rfl) : EV X (.Call (.Name "sum" p) [e] [] pos) Γ M (.d (.int ns.sum)) M1 :=
  EV.callB (cr_sum hc) (by decide +kernel) hm (EA.one h he) (fun F0 H0 F A H vs Q sh r k => by
    obtain ⟨v, rfl, rv⟩ := pair1 r
    obtain ⟨l, ws, rfl, h1, h2⟩ := lst_at sh rv hx
    rw [ints_at h2] at h1
    exact ⟨l, ns, rfl, SqL.of h1, k _ F A H sh (Af.refl _ _ _) (DR.int _)⟩) hg (he := he) (hpl := hpl)
theorem EV.anyL {bs : List Bool} (hc : X.calm = true) (hm : X.mg "any" = none) (h : EV X e Γ M x M1) (hx : lstOf M1 x = some (bs.map fun n => AV.d (.bool n))) (hg : Gl X "any" := by rfl)
    (he : starEach [e] X.env = (false, eval e X.env) :: starEach [] X.env := by rfl) (hpl : (backTo pos (starEach [] X.env)).any (·.1) = false := by rfl) : EV X (.Call (.Name "any" p) [e] [] pos) Γ M (.d (.bool (bs.any id))) M1 :=
  EV.callB (cr_any hc) (by decide +kernel) hm (EA.one h he) (fun F0 H0 F A H vs Q sh r k => by
    obtain ⟨v, rfl, rv⟩ := pair1 r
    obtain ⟨l, ws, rfl, h1, h2⟩ := lst_at sh rv hx
    rw [bools_at h2] at h1
    exact ⟨l, bs, rfl, SqL.of h1, k _ F A H sh (Af.refl _ _ _) (DR.bl _)⟩) hg (he := he) (hpl := hpl)
theorem EV.allL {bs : List Bool} (hc : X.calm = true) (hm : X.mg "all" = none) (h : EV X e Γ M x M1) (hx : lstOf M1 x = some (bs.map fun n => AV.d (.bool n))) (hg : Gl X "all" := by rfl)
    (he : starEach [e] X.env = (false, eval e X.env) :: starEach [] X.env := by rfl) (hpl : (backTo pos (starEach [] X.env)).any (·.1) = false := by rfl) : EV X (.Call (.Name "all" p) [e] [] pos) Γ M (.d (.bool (bs.all id))) M1 :=
  EV.callB (cr_all hc) (by decide +kernel) hm (EA.one h he) (fun F0 H0 F A H vs Q sh r k => by
    obtain ⟨v, rfl, rv⟩ := pair1 r
    obtain ⟨l, ws, rfl, h1, h2⟩ := lst_at sh rv hx
    rw [bools_at h2] at h1
    exact ⟨l, bs, rfl, SqL.of h1, k _ F A H sh (Af.refl _ _ _) (DR.bl _)⟩) hg (he := he) (hpl := hpl)
/-- sorted ints -/
def srt (ns : List Int) : List Int := ns.mergeSort (fun a b => decide (a ≤ b))
theorem srt_perm (ns : List Int) : (srt ns).Perm ns := List.mergeSort_perm _ _
theorem srt_pw (ns : List Int) : (srt ns).Pairwise (· ≤ ·) := by
  have h := List.pairwise_mergeSort (le := fun (a b : Int) => decide (a ≤ b)) (fun a b c h1 h2 => by simp only [decide_eq_true_eq] at *; omega) (fun a b => by simp only [Bool.or_eq_true, decide_eq_true_eq]; omega) ns
  exact h.imp (fun {a b} q => by simpa using q)
theorem sorted_uniq : ∀ {xs ys : List Int}, xs.Pairwise (· ≤ ·) → ys.Pairwise (· ≤ ·) → xs.Perm ys → xs = ys := by
  intro xs ys h1 h2 p
  exact p.eq_of_pairwise (fun a b _ _ q1 q2 => Int.le_antisymm q1 q2) h1 h2
theorem EV.sortedL (hm : X.mg "sorted" = none) (h : EV X e Γ M x M1) (hx : lstOf M1 x = some (ns.map fun n => AV.d (.int n))) (hg : Gl X "sorted" := by rfl)
    (he : starEach [e] X.env = (false, eval e X.env) :: starEach [] X.env := by rfl) (hpl : (backTo pos (starEach [] X.env)).any (·.1) = false := by rfl) : EV X (.Call (.Name "sorted" p) [e] [] pos) Γ M (.d (.list ((srt ns).map .int))) M1 :=
  EV.callB cr_sortedI (by decide +kernel) hm (EA.one h he) (fun F0 H0 F A H vs Q sh r k => by
    obtain ⟨v, rfl, rv⟩ := pair1 r
    obtain ⟨l, ws, rfl, h1, h2⟩ := lst_at sh rv hx
    rw [ints_at h2] at h1
    refine ⟨l, ns, rfl, SqL.of h1, fun ns' q hp hs hq => ?_⟩
    rw [sorted_uniq hs (srt_pw ns) (hp.trans (srt_perm ns).symm)]
    obtain ⟨sh4, af4⟩ := sh.new (o := .lst ((srt ns).map V.int)) hq
    exact k _ _ _ _ sh4 af4 (DR.lst upd_same (ints_dr _))) hg (he := he) (hpl := hpl)
/-- list(xs), tuple(xs) -/
theorem EV.listL {ds : List PyData} (hm : X.mg "list" = none) (h : EV X e Γ M x M1) (hx : lstOf M1 x = some (ds.map .d)) (hg : Gl X "list" := by rfl)
    (he : starEach [e] X.env = (false, eval e X.env) :: starEach [] X.env := by rfl) (hpl : (backTo pos (starEach [] X.env)).any (·.1) = false := by rfl) : EV X (.Call (.Name "list" p) [e] [] pos) Γ M (.d (.list ds)) M1 :=
  EV.callT call_list_of (by decide +kernel) hm (EA.one h he) (fun F0 H0 F A H vs Q sh r k => by
    obtain ⟨v, rfl, rv⟩ := pair1 r
    obtain ⟨l, ws, rfl, h1, h2⟩ := lst_at sh rv hx
    refine ⟨l, ws, rfl, .inl (SqL.of h1), fun q hq => ?_⟩
    obtain ⟨sh4, af4⟩ := sh.new (o := .lst ws) hq
    exact k _ _ _ _ sh4 af4 (DR.lst upd_same ((pair_d h2).mono af4.ff))) hg (he := he) (hpl := hpl)
theorem EV.listM (hm : X.mg "list" = none) (h : EV X e Γ M x M1) (hx : lstOf M1 x = some xs) (hg : Gl X "list" := by rfl)
    (he : starEach [e] X.env = (false, eval e X.env) :: starEach [] X.env := by rfl) (hpl : (backTo pos (starEach [] X.env)).any (·.1) = false := by rfl) : EV X (.Call (.Name "list" p) [e] [] pos) Γ M (.m M1.length) (M1 ++ [.lst xs]) :=
  EV.callT call_list_of (by decide +kernel) hm (EA.one h he) (fun F0 H0 F A H vs Q sh r k => by
    obtain ⟨v, rfl, rv⟩ := pair1 r
    obtain ⟨l, ws, rfl, h1, h2⟩ := lst_at sh rv hx
    refine ⟨l, ws, rfl, .inl (SqL.of h1), fun q hq => ?_⟩
    obtain ⟨sh4, af4⟩ := sh.cell (o := .lst ws) (mc := .lst xs) hq ⟨_, upd_same, P2.imp (fun _ _ q' => VR.mono (Same.refl _) ⟨[q], rfl⟩ q') h2⟩
    exact k _ _ _ _ sh4 af4 ⟨q, by rw [← sh.al]; simp, rfl⟩) hg (he := he) (hpl := hpl)
theorem EV.tupleL {ds : List PyData} (hm : X.mg "tuple" = none) (h : EV X e Γ M x M1) (hx : lstOf M1 x = some (ds.map .d)) (hg : Gl X "tuple" := by rfl)
    (he : starEach [e] X.env = (false, eval e X.env) :: starEach [] X.env := by rfl) (hpl : (backTo pos (starEach [] X.env)).any (·.1) = false := by rfl) : EV X (.Call (.Name "tuple" p) [e] [] pos) Γ M (.d (.tuple ds)) M1 :=
  EV.callT call_tuple_of (by decide +kernel) hm (EA.one h he) (fun F0 H0 F A H vs Q sh r k => by
    obtain ⟨v, rfl, rv⟩ := pair1 r
    obtain ⟨l, ws, rfl, h1, h2⟩ := lst_at sh rv hx
    refine ⟨l, ws, rfl, .inl ⟨SqL.of h1, fun q hq => ?_⟩⟩
    obtain ⟨sh4, af4⟩ := sh.new (o := .tup ws) hq
    exact k _ _ _ _ sh4 af4 (DR.tup (SqT.of upd_same) ((pair_d h2).mono af4.ff))) hg (he := he) (hpl := hpl)
/-- list(range(n)) -/
theorem range_dr {K : PySem.W.Frag} {F : Hp} (f : Nat → Int) : ∀ ks : List Nat, DRs K F (ks.map fun k => V.int (f k)) (ks.map fun k => PyData.int (f k))
  | [] => .nil
  | k :: ks => .cons (.int _) (range_dr f ks)
/-- 0 .. n - 1 -/
def rg (n : Nat) : List Int := (List.range n).map fun (k : Nat) => (k : Int)
theorem rg_len (n : Nat) : (rg n).length = n := by simp [rg]
theorem rgV_rg {j : Int} : rgV 0 j = (rg j.toNat).map V.int := by
  unfold rgV rg
  rw [List.map_map, Int.sub_zero]
  exact List.map_congr_left fun k _ => by show V.int (0 + (k : Int)) = V.int (k : Int); rw [Int.zero_add]
theorem EV.listRg {p3 pos' : Pos} (hc : X.calm = true) (hm : X.mg "list" = none) (hm2 : X.mg "range" = none) (h : EV X e Γ M (.d (.int i)) M1) (h0 : 0 ≤ i) (h1 : i ≤ 16777216) (hg : Gl X "list" := by rfl) (hg2 : Gl X "range" := by rfl)
    (na : starEach [.Call (.Name "range" p3) [e] [] pos'] X.env = (false, eval (.Call (.Name "range" p3) [e] [] pos') X.env) :: starEach [] X.env := by rfl) (na2 : starEach [e] X.env = (false, eval e X.env) :: starEach [] X.env := by rfl) :
    EV X (.Call (.Name "list" p) [.Call (.Name "range" p3) [e] [] pos'] [] pos) Γ M (.d (.list ((rg i.toNat).map .int))) M1 :=
  EV.of (pe_listRg hc hg hm (prg_1 hg2 hm2 PE.x na2) na) fun F0 H0 F A H σ Q sh sv k => h F0 H0 F A H σ _ sh sv fun v F1 A1 H1 sh1 af1 v1 => ⟨i, v1.int, RgOk.of_le (Int.le_refl _) h1 (by omega) h0, fun q hq => by
    rw [rgV_rg]
    obtain ⟨sh4, af4⟩ := sh1.new (o := .lst ((rg i.toNat).map V.int)) hq
    exact k _ _ _ _ sh4 (af1.trans af4) (DR.lst upd_same (ints_dr _))⟩
theorem ints_vr {K : PySem.W.Frag} {F : Hp} {A : List Addr} : ∀ (ns : List Int), Paired (VR K F A) (ns.map V.int) (ns.map fun n => AV.d (.int n))
  | [] => .nil
  | n :: ns => .cons (DR.int n) (ints_vr ns)
theorem EV.listRgM {p3 pos' : Pos} (hc : X.calm = true) (hm : X.mg "list" = none) (hm2 : X.mg "range" = none) (h : EV X e Γ M (.d (.int i)) M1) (h0 : 0 ≤ i) (h1 : i ≤ 16777216) (hg : Gl X "list" := by rfl) (hg2 : Gl X "range" := by rfl)
    (na : starEach [.Call (.Name "range" p3) [e] [] pos'] X.env = (false, eval (.Call (.Name "range" p3) [e] [] pos') X.env) :: starEach [] X.env := by rfl) (na2 : starEach [e] X.env = (false, eval e X.env) :: starEach [] X.env := by rfl) :
    EV X (.Call (.Name "list" p) [.Call (.Name "range" p3) [e] [] pos'] [] pos) Γ M (.m M1.length) (M1 ++ [.lst ((rg i.toNat).map fun n => AV.d (.int n))]) :=
  EV.of (pe_listRg hc hg hm (prg_1 hg2 hm2 PE.x na2) na) fun F0 H0 F A H σ Q sh sv k => h F0 H0 F A H σ _ sh sv fun v F1 A1 H1 sh1 af1 v1 => ⟨i, v1.int, RgOk.of_le (Int.le_refl _) h1 (by omega) h0, fun q hq => by
    rw [rgV_rg]
    obtain ⟨sh4, af4⟩ := sh1.cell (o := .lst ((rg i.toNat).map V.int)) (mc := .lst ((rg i.toNat).map fun n => AV.d (.int n))) hq ⟨_, upd_same, ints_vr _⟩
    exact k _ _ _ _ sh4 (af1.trans af4) ⟨q, by rw [← sh1.al]; simp, rfl⟩⟩
end
end DV

set_option Elab.async false
set_option maxRecDepth 100000
set_option maxHeartbeats 4000000
set_option linter.all false
namespace DV
open PySem PySem.Spec L2

def allD : List AV → Option (List PyData)
  | [] => some []
  | .d x :: r => (allD r).map (x :: ·)
  | .m _ :: _ => none
theorem allD_eq : ∀ {xs : List AV} {ds : List PyData}, allD xs = some ds → xs = ds.map .d
  | [], ds, h => by simp [allD] at h; subst h; rfl
  | .d x :: r, ds, h => by
    simp only [allD] at h
    cases q : allD r with
    | none => rw [q] at h; cases h
    | some es =>
      rw [q] at h
      cases h
      rw [allD_eq q]
      rfl
  | .m _ :: _, ds, h => by simp [allD] at h

/-! ### a def of the text -/
def spR (K : PySem.W.Frag) (R : List PyData → PyData → Prop) : Sp := fun vs H Q _ => ∃ (ds : List PyData) (F : Hp) (r : PyData), R ds r ∧ Same F H ∧ DRs K F vs ds ∧
  ∀ v F' H', Same F F' → Same F' H' → Same H H' → (∀ a, F a = none → F' a ≠ none → H a = none) → DR K F' v r → Q v H'
structure DefR (P : Program) (w : World) (K : PySem.W.Frag) (mg : Str → Option Value) (base : Heap) (k : Nat) (n : Str) (R : List PyData → PyData → Prop) : Prop where
  ex : ∃ f fd ps, FnOk P w K mg base CX0 k f fd ps (spR K R) ∧ mg n = some (.ref f) ∧ PySem.W.keepIn K (.ref f) = true ∧ Binds K fd ps []
theorem DefR.mono {P : Program} {w : World} {K : PySem.W.Frag} {mg : Str → Option Value} {base : Heap} {j k : Nat} {n : Str} {R : List PyData → PyData → Prop} (D : DefR P w K mg base j n R) (h : j ≤ k) : DefR P w K mg base k n R := by
  obtain ⟨f, fd, ps, F, a, b, c⟩ := D.ex
  exact ⟨f, fd, ps, F.mono h, a, b, c⟩
section
variable {X : Cx} {e a b f : Expr} {es : List Expr} {Γ : Gam} {M M1 M2 M3 : List MC} {x y z : AV} {pos p p2 : Pos} {xs ys : List AV} {i j : Int} {n : Str}
theorem EV.call {k : Nat} {R : List PyData → PyData → Prop} {ds : List PyData} {r : PyData} (D : DefR X.prog X.w X.K X.mg X.base k n R) (hr : Room k X.A) (ha : EA X (e :: es) Γ M xs M1) (hd : allD xs = some ds) (h : R ds r) (hg : Gl X n := by rfl)
    (hdb : (n == ("__debug__" : Str)) = false := by decide) (he : starEach (e :: es) X.env = (false, eval e X.env) :: starEach es X.env := by rfl) (hpl : (backTo pos (starEach es X.env)).any (·.1) = false := by rfl) :
    EV X (.Call (.Name n p) (e :: es) [] pos) Γ M (.d r) M1 := by
  obtain ⟨f, fd, ps, F, q1, q2, q3⟩ := D.ex
  refine EV.of (pe_call (E := E0) F hr hg q1 q2 q3 .nil pass0 PA.x hdb he hpl) fun F0 H0 F A H σ Q sh sv q => ha F0 H0 F A H σ _ sh sv fun vs F1 A1 H1 sh1 af1 v1 => ?_
  rw [allD_eq hd] at v1
  refine ⟨ds, F1, r, h, sh1.fh, by rw [List.append_nil]; exact pair_d v1, fun v F2 H2 c1 c2 c3 c4 c5 => ?_⟩
  obtain ⟨sh2, af2⟩ := sh1.grow c1 c2 c3 c4
  exact q v F2 A1 H2 sh2 (af1.trans af2) c5

/-! ### what is walked -/
structure WalkD (K : PySem.W.Frag) (J : It) (ds : List PyData) (F : Hp) : Prop where
  go : ∀ i H, Same F H → i < ds.length → J.go i H
  stop : ∀ H, Same F H → J.stop ds.length H
  yld : ∀ i H v H', Same F H → i < ds.length → J.yld i H v H' → ∃ d, ds[i]? = some d ∧ ((H' = H ∧ DR K F v d) ∨ ∃ T ys es, H T = none ∧ H' = upd H T (.tup ys) ∧ v = .ref T ∧ d = .tuple es ∧ DRs K F ys es)
def IVt (K : PySem.W.Frag) (wi : TI) (Γ : Gam) (M : List MC) (ds : List PyData) (M' : List MC) : Prop :=
  ∀ (F0 H0 F : Hp) (A : List Addr) (H : Hp) (σ : L2.St) (R : It → Hp → Prop), SH K F0 H0 F A H M → SV K F A σ Γ →
    (∀ J F' A' H', SH K F0 H0 F' A' H' M' → Af F A H F' A' H' → WalkD K J ds F' → R J H') → wi σ H R
def IV (X : Cx) (tg iter : Expr) (Γ : Gam) (M : List MC) (ds : List PyData) (M' : List MC) : Prop := IVt X.K (xI X tg iter) Γ M ds M'
variable {tg iter : Expr} {ds : List PyData}
theorem IV.of {wi : TI} (h : PI X tg iter wi) (k : IVt X.K wi Γ M ds M1) : IV X tg iter Γ M ds M1 := fun F0 H0 F A H σ R sh sv q pins s I => h.run pins s σ H R I (k F0 H0 F A H σ R sh sv q)
theorem drs_get {K : PySem.W.Frag} {F : Hp} {vs : List V} (h : DRs K F vs ds) {i : Nat} {v : V} (e : vs[i]? = some v) : ∃ d, ds[i]? = some d ∧ DR K F v d := P2.got h.paired e
theorem IV.list (h : EV X iter Γ M (.d (.list ds)) M1) : IV X tg iter Γ M ds M1 :=
  IV.of (pi_list PE.x) fun F0 H0 F A H σ R sh sv k => h F0 H0 F A H σ _ sh sv fun v F1 A1 H1 sh1 af1 v1 => by
    cases v1 with
    | lst h1 h2 =>
      rename_i a vs
      have hl := P2.len h2.paired
      have sq : ∀ H, Same F1 H → SqL X.K H a vs := fun H q => SqL.of (q _ _ h1)
      refine ⟨a, rfl, ⟨vs, sq H1 sh1.fh⟩, k _ F1 A1 H1 sh1 af1 ⟨fun i H q hi => ⟨vs, vs[i]'(by omega), sq H q, by simp [show i < vs.length by omega]⟩, fun H q => ⟨vs, sq H q, by omega⟩, fun i H v H' q hi y => ?_⟩⟩
      obtain ⟨rfl, y⟩ := y
      obtain ⟨d, e1, e2⟩ := drs_get h2 (y vs (sq _ q))
      exact ⟨d, e1, .inl ⟨rfl, e2⟩⟩
theorem IV.tup (h : EV X iter Γ M (.d (.tuple ds)) M1) : IV X tg iter Γ M ds M1 :=
  IV.of (pi_tup PE.x) fun F0 H0 F A H σ R sh sv k => h F0 H0 F A H σ _ sh sv fun v F1 A1 H1 sh1 af1 v1 => by
    cases v1 with
    | tup h1 h2 =>
      rename_i a vs
      have hl := P2.len h2.paired
      have sq : ∀ H, Same F1 H → SqT X.K H a vs := fun H q => sqT_mono q h1
      refine ⟨a, rfl, ⟨vs, sq H1 sh1.fh⟩, k _ F1 A1 H1 sh1 af1 ⟨fun i H q hi => ⟨vs, vs[i]'(by omega), sq H q, by simp [show i < vs.length by omega]⟩, fun H q => ⟨vs, sq H q, by omega⟩, fun i H v H' q hi y => ?_⟩⟩
      obtain ⟨rfl, y⟩ := y
      obtain ⟨d, e1, e2⟩ := drs_get h2 (y vs (sq _ q))
      exact ⟨d, e1, .inl ⟨rfl, e2⟩⟩
/-- the signs of a text -/
def sgn (q : Str) : List PyData := q.cps.toList.map fun c => .str ⟨#[c]⟩
theorem IV.str {q : Str} (h : EV X iter Γ M (.d (.str q)) M1) : IV X tg iter Γ M (sgn q) M1 :=
  IV.of (pi_str PE.x) fun F0 H0 F A H σ R sh sv k => h F0 H0 F A H σ _ sh sv fun v F1 A1 H1 sh1 af1 v1 => ⟨q, v1.str, k _ F1 A1 H1 sh1 af1 ⟨fun i H _ hi => by
      show i < q.cps.size
      simpa [sgn] using hi, fun H _ => by show q.cps.size ≤ (sgn q).length; simp [sgn], fun i H v H' _ hi y => by
      obtain ⟨rfl, c, e, rfl⟩ := y
      exact ⟨.str ⟨#[c]⟩, by simp [sgn, e], .inl ⟨rfl, .str _⟩⟩⟩⟩
theorem IV.rg1 (hm : X.mg "range" = none) (h : EV X e Γ M (.d (.int i)) M1) (h1 : -(2 ^ 62) ≤ i) (h2 : i < 2 ^ 62) (hg : Gl X "range" := by rfl) (he : starEach [e] X.env = (false, eval e X.env) :: starEach [] X.env := by rfl) (hs : starEach [e] X.env = [(false, eval e X.env)] := by rfl) :
    IV X tg (.Call (.Name "range" p) [e] [] pos) Γ M ((rg i.toNat).map .int) M1 :=
  IV.of (pi_range1 hg hm PA.x hs) fun F0 H0 F A H σ R sh sv k => EA.one h he F0 H0 F A H σ _ sh sv fun vs F1 A1 H1 sh1 af1 v1 => by
    obtain ⟨v, rfl, rv⟩ := pair1 v1
    refine ⟨i, by rw [rv.int], h1, h2, k _ F1 A1 H1 sh1 af1 ⟨fun k H _ hk => ?_, fun H _ => ?_, fun k H v H' _ hk y => ?_⟩⟩
    · show k < i.toNat
      rw [List.length_map, rg_len] at hk; exact hk
    · show i.toNat ≤ _; simp [rg]
    · obtain ⟨rfl, rfl⟩ := y
      have hk' : k < i.toNat := by rw [List.length_map, rg_len] at hk; exact hk
      refine ⟨.int (k : Int), by simp [rg, hk'], .inl ⟨rfl, ?_⟩⟩
      rw [Int.zero_add]; exact .int _
/-- a .. b - 1 -/
def rg2 (a b : Int) : List Int := (List.range (b - a).toNat).map fun (k : Nat) => a + (k : Int)
theorem IV.rg2 {f : Expr} (hm : X.mg "range" = none) (h : EV X e Γ M (.d (.int i)) M1) (h' : EV X f Γ M1 (.d (.int j)) M2) (h1 : -(2 ^ 62) ≤ i ∧ i < 2 ^ 62 ∧ -(2 ^ 62) ≤ j ∧ j < 2 ^ 62) (hg : Gl X "range" := by rfl)
    (he : starEach [e, f] X.env = (false, eval e X.env) :: starEach [f] X.env := by rfl) (he2 : starEach [f] X.env = (false, eval f X.env) :: starEach [] X.env := by rfl)
    (hs : starEach [e, f] X.env = [(false, eval e X.env), (false, eval f X.env)] := by rfl) (hs2 : starEach [f] X.env = [(false, eval f X.env)] := by rfl) :
    IV X tg (.Call (.Name "range" p) [e, f] [] pos) Γ M ((DV.rg2 i j).map .int) M2 :=
  IV.of (pi_range2 hg hm PA.x hs hs2) fun F0 H0 F A H σ R sh sv k => EA.cons h (EA.one h' he2) he F0 H0 F A H σ _ sh sv fun vs F1 A1 H1 sh1 af1 v1 => by
    obtain ⟨v, w, rfl, rv, rw⟩ := pair2 v1
    refine ⟨i, j, by rw [rv.int, rw.int], h1, k _ F1 A1 H1 sh1 af1 ⟨fun k H _ hk => ?_, fun H _ => ?_, fun k H v H' _ hk y => ?_⟩⟩
    · show k < (j - i).toNat
      rw [List.length_map, DV.rg2, List.length_map, List.length_range] at hk; exact hk
    · show (j - i).toNat ≤ _; simp [DV.rg2]
    · obtain ⟨rfl, rfl⟩ := y
      have hk' : k < (j - i).toNat := by rw [List.length_map, DV.rg2, List.length_map, List.length_range] at hk; exact hk
      exact ⟨.int (i + (k : Int)), by simp [DV.rg2, hk'], .inl ⟨rfl, .int _⟩⟩
/-- a, a - 1, .. b + 1 -/
def rgd (a b : Int) : List Int := (List.range (a - b).toNat).map fun (k : Nat) => a - (k : Int)
theorem IV.rgd {f g : Expr} (hm : X.mg "range" = none) (h : EV X e Γ M (.d (.int i)) M1) (h' : EV X f Γ M1 (.d (.int j)) M2) (h'' : EV X g Γ M2 (.d (.int (-1))) M3) (h1 : -(2 ^ 62) ≤ i ∧ i < 2 ^ 62 ∧ -(2 ^ 62) ≤ j ∧ j < 2 ^ 62) (hg : Gl X "range" := by rfl)
    (he : starEach [e, f, g] X.env = (false, eval e X.env) :: starEach [f, g] X.env := by rfl) (he2 : starEach [f, g] X.env = (false, eval f X.env) :: starEach [g] X.env := by rfl) (he3 : starEach [g] X.env = (false, eval g X.env) :: starEach [] X.env := by rfl)
    (hpl : (backTo pos (starEach [f, g] X.env)).any (·.1) = false := by rfl) :
    IV X tg (.Call (.Name "range" p) [e, f, g] [] pos) Γ M ((DV.rgd i j).map .int) M3 :=
  IV.of (pi_range3 hg hm PA.x he hpl) fun F0 H0 F A H σ R sh sv k => EA.cons h (EA.cons h' (EA.one h'' he3) he2) he F0 H0 F A H σ _ sh sv fun vs F1 A1 H1 sh1 af1 v1 => by
    obtain ⟨v, w, u, rfl, rv, rw, ru⟩ : ∃ v w u, vs = [v, w, u] ∧ VR X.K F1 A1 v (.d (.int i)) ∧ VR X.K F1 A1 w (.d (.int j)) ∧ VR X.K F1 A1 u (.d (.int (-1))) := by
      cases v1 with | cons a t => cases t with | cons b t => cases t with | cons c t => cases t; exact ⟨_, _, _, rfl, a, b, c⟩
    refine ⟨i, j, -1, (i - j).toNat, by rw [rv.int, rw.int, ru.int], RgC.neg h1.1 h1.2.1 h1.2.2.1 h1.2.2.2, k _ F1 A1 H1 sh1 af1 ⟨fun k H _ hk => ?_, fun H _ => ?_, fun k H v H' _ hk y => ?_⟩⟩
    · show k < (i - j).toNat
      rw [List.length_map, DV.rgd, List.length_map, List.length_range] at hk; exact hk
    · show (i - j).toNat ≤ _; simp [DV.rgd]
    · obtain ⟨rfl, rfl⟩ := y
      have hk' : k < (i - j).toNat := by rw [List.length_map, DV.rgd, List.length_map, List.length_range] at hk; exact hk
      refine ⟨.int (i - (k : Int)), by simp [DV.rgd, hk'], .inl ⟨rfl, ?_⟩⟩
      have e : i + (k : Nat) * (-1 : Int) = i - k := by omega
      rw [e]; exact .int _
/-- enumerate(list), to a tuple of names -/
def enm (ds : List PyData) : List PyData := (List.range ds.length).zipWith (fun (k : Nat) d => .tuple [.int (k : Int), d]) ds
theorem enm_len (ds : List PyData) : (enm ds).length = ds.length := by simp [enm]
theorem enm_get {ds : List PyData} {k : Nat} {d : PyData} (h : ds[k]? = some d) : (enm ds)[k]? = some (.tuple [.int (k : Int), d]) := by
  obtain ⟨hk, he⟩ := List.getElem?_eq_some_iff.mp h
  simp [enm, List.getElem?_zipWith, h, hk, he]
theorem IV.enum {elts : List Expr} {kk : Nat} {tpos : Pos} (hm : X.mg "enumerate" = none) (h : EV X e Γ M (.d (.list ds)) M1) (hg : Gl X "enumerate" := by rfl) (he : starEach [e] X.env = (false, eval e X.env) :: starEach [] X.env := by rfl) (hs : starEach [e] X.env = [(false, eval e X.env)] := by rfl) :
    IV X (.Tuple elts kk tpos) (.Call (.Name "enumerate" p) [e] [] pos) Γ M (enm ds) M1 :=
  IV.of (pi_enum hg hm PA.x hs) fun F0 H0 F A H σ R sh sv k => EA.one h he F0 H0 F A H σ _ sh sv fun vs F1 A1 H1 sh1 af1 v1 => by
    obtain ⟨v, rfl, rv⟩ := pair1 v1
    cases rv with
    | lst h1 h2 =>
      rename_i a vs
      have hl := P2.len h2.paired
      have sq : ∀ H, Same F1 H → SqL X.K H a vs := fun H q => SqL.of (q _ _ h1)
      refine ⟨a, vs, rfl, sq H1 sh1.fh, k _ F1 A1 H1 sh1 af1 ⟨fun i H q hi => ⟨vs, vs[i]'(by rw [enm_len] at hi; omega), sq H q, by rw [enm_len] at hi; simp [show i < vs.length by omega]⟩, fun H q => ⟨vs, sq H q, by rw [enm_len]; omega⟩, fun i H v H' q hi y => ?_⟩⟩
      obtain ⟨T, x, rfl, hT, rfl, y⟩ := y
      obtain ⟨d, e1, e2⟩ := drs_get h2 (y vs (sq _ q))
      exact ⟨_, enm_get e1, .inr ⟨T, _, _, hT, rfl, rfl, rfl, .cons (.int _) (.cons e2 .nil)⟩⟩

/-! ### targets -/
def wipeG (Γ : Gam) : List Nat → Gam
  | [] => Γ
  | v :: vs => (wipeG Γ vs).set v none
theorem SV.wipe {K : PySem.W.Frag} {F : Hp} {A : List Addr} {σ : L2.St} (h : SV K F A σ Γ) : ∀ vs : List Nat, SV K F A (L2.wipe σ vs) (wipeG Γ vs)
  | [] => h
  | v :: vs => (SV.wipe h vs).clear v none
theorem wipe_set {σ : L2.St} {j : Nat} {u : Option V} : ∀ {vs : List Nat}, j ∈ vs → L2.wipe (σ.set j u) vs = L2.wipe σ vs := by
  have comm : ∀ (vs : List Nat) (τ : L2.St), j ∉ vs → L2.wipe (τ.set j u) vs = (L2.wipe τ vs).set j u := by
    intro vs
    induction vs with
    | nil => intro τ _; rfl
    | cons v vs ih =>
      intro τ h
      simp only [List.mem_cons, not_or] at h
      unfold L2.wipe
      rw [ih τ h.2, List.set_comm _ _ (fun q => h.1 q)]
  intro vs
  induction vs with
  | nil => intro h; cases h
  | cons v vs ih =>
    intro h
    unfold L2.wipe
    by_cases q : j ∈ vs
    · rw [ih q]
    · have hv : j = v := by
        rcases List.mem_cons.mp h with z | z
        · exact z
        · exact absurd z q
      subst hv
      rw [comm vs σ q, List.set_set]
def TVt (K : PySem.W.Frag) (g : TG) (Γ : Gam) (d : PyData) (Γ' : Gam) (js : List Nat) : Prop :=
  ∀ (F : Hp) (A : List Addr) (H : Hp) (σ : L2.St) (v : V) (Q : L2.St → Hp → Prop), Same F H → SV K F A σ Γ → DR K F v d →
    (∀ σ', SV K F A σ' Γ' → (∀ vs, (∀ j ∈ js, j ∈ vs) → L2.wipe σ' vs = L2.wipe σ vs) → Q σ' H) → g v σ H Q
def TVs (K : PySem.W.Frag) (g : TGs) (Γ : Gam) (ds : List PyData) (Γ' : Gam) (js : List Nat) : Prop :=
  ∀ (F : Hp) (A : List Addr) (H : Hp) (σ : L2.St) (vs : List V) (Q : L2.St → Hp → Prop), Same F H → SV K F A σ Γ → DRs K F vs ds →
    (∀ σ', SV K F A σ' Γ' → (∀ ws, (∀ j ∈ js, j ∈ ws) → L2.wipe σ' ws = L2.wipe σ ws) → Q σ' H) → g vs σ H Q
/-- a target with its rule -/
structure TV (X : Cx) (tg : Expr) (Γ : Gam) (d : PyData) (Γ' : Gam) (js : List Nat) : Prop where
  ex : ∃ g, PG X tg g ∧ TVt X.K g Γ d Γ' js
structure TVS (X : Cx) (tgs : List Expr) (Γ : Gam) (ds : List PyData) (Γ' : Gam) (js : List Nat) : Prop where
  ex : ∃ g, PGs X tgs g ∧ TVs X.K g Γ ds Γ' js
variable {Γ' Γ'' : Gam} {d : PyData} {js ks : List Nat}
theorem TV.name (k : Nat) {m : Str} (hN : X.N.Nodup) (hi : X.N[k]? = some m := by rfl) (hx : Loc X.env.scope m := by first | exact .inl rfl | exact .inr rfl) (hf : X.fn m = true ∨ X.env.scope.names.lookup m = some .local := by first | exact .inl rfl | exact .inr rfl | assumption) :
    TV X (.Name m pos) Γ d (Γ.set k (some (.d d))) [k] :=
  ⟨_, pg_name hN hi hx hf, fun F A H σ v Q sf sv r q => q _ (SV.set sv k r) fun vs hv => wipe_set (hv k (by simp))⟩
theorem TVS.nil : TVS X [] Γ [] Γ [] := ⟨_, pgs_nil, fun F A H σ vs Q sf sv r q => by cases r; exact ⟨rfl, q σ sv fun _ _ => rfl⟩⟩
theorem TVS.cons {tgs : List Expr} (h : TV X tg Γ d Γ' js) (h' : TVS X tgs Γ' ds Γ'' ks) (hs : (assignEach (tg :: tgs) X.env).map (·.2) = assign tg X.env :: (assignEach tgs X.env).map (·.2) := by rfl) : TVS X (tg :: tgs) Γ (d :: ds) Γ'' (js ++ ks) := by
  obtain ⟨g, p, t⟩ := h.ex
  obtain ⟨g', p', t'⟩ := h'.ex
  refine ⟨_, pgs_cons p p' hs, fun F A H σ vs Q sf sv r q => ?_⟩
  cases r with
  | cons r1 r2 =>
    refine ⟨_, _, rfl, t F A H σ _ _ sf sv r1 fun σ1 s1 w1 => t' F A H σ1 _ _ sf s1 r2 fun σ2 s2 w2 => q σ2 s2 fun vs hv => ?_⟩
    rw [w2 vs fun j hj => hv j (List.mem_append_right _ hj), w1 vs fun j hj => hv j (List.mem_append_left _ hj)]
theorem TV.tup {tgs : List Expr} {kk : Nat} (hc : X.calm = true) (h : TVS X tgs Γ ds Γ' js) (hn : (assignEach tgs X.env).length = ds.length := by rfl) (hst : (assignEach tgs X.env).findIdx? (·.1) = none := by rfl) : TV X (.Tuple tgs kk pos) Γ (.tuple ds) Γ' js := by
  obtain ⟨g, p, t⟩ := h.ex
  refine ⟨_, pg_tup hc p hn hst, fun F A H σ v Q sf sv r q => ?_⟩
  cases r with
  | tup h1 h2 => exact ⟨_, _, rfl, sqT_mono sf h1, P2.len h2.paired, t F A H σ _ Q sf sv h2 q⟩
theorem TV.run (h : TV X tg Γ d Γ' js) : TVt X.K (xG X tg) Γ d Γ' js := by
  obtain ⟨g, p, t⟩ := h.ex
  exact fun F A H σ v Q sf sv r q pins s u I ru => p.run pins s σ H v u Q I ru (t F A H σ v Q sf sv r q)
end

/-! ### comprehensions -/
section
variable {K : PySem.W.Frag} {F0 H0 F H F' H' : Hp} {A A' : List Addr} {M : List MC}
theorem Af.side (a : Af F A H F' A' H') {p : Addr} {o : HO} (h : H p = none) : Af F A H F' A' (upd H' p o) :=
  ⟨a.ff, a.aa, fun b u e hb => by rw [upd_ne (ne_of_none e h)]; exact a.hh b u e hb, fun b hb => by
    by_cases q : b = p
    · subst q; rw [upd_same]; simp
    · rw [upd_ne q]; exact a.th b hb, a.fr⟩
/-- a side object is frozen, becomes a cell -/
theorem SH.adopt (s : SH K F0 H0 F A H M) {p : Addr} {o : HO} (h : H p = some o) (hF : F p = none) (hA : p ∉ A) (h0 : H0 p = none) : SH K F0 H0 (upd F p o) A H M := by
  refine ⟨s.ff.trans (same_upd hF), fun b u e => ?_, s.hh, fun b e e' => ?_, s.nd, s.al, s.an, fun k a mc h1 h2 h3 => ?_⟩
  · by_cases q : b = p
    · subst q; rw [upd_same] at e; rw [← e]; exact h
    · rw [upd_ne q] at e; exact s.fh b u e
  · by_cases q : b = p
    · subst q; exact h0
    · rw [upd_ne q] at e'; exact s.fr b e e'
  · obtain ⟨q1, q2⟩ := s.own k a mc h1 h2 h3
    have ne : a ≠ p := fun q => hA (q ▸ List.mem_of_getElem? h1)
    exact ⟨by rw [upd_ne ne]; exact q1, MR.mono (same_upd hF) ⟨[], by simp⟩ rfl q2⟩
theorem Af.adopt (a : Af F A H F' A' H') {p : Addr} {o : HO} (h : H p = none) (hF : F' p = none) : Af F A H (upd F' p o) A' H' :=
  ⟨a.ff.trans (same_upd hF), a.aa, a.hh, a.th, fun b e e' => by
    by_cases q : b = p
    · subst q; exact h
    · rw [upd_ne q] at e'; exact a.fr b e e'⟩
theorem SH.adoptM (s : SH K F0 H0 F A H M) {p : Addr} {mc : MC} (h : H p ≠ none) (hF : F p = none) (hA : p ∉ A) (h0 : H0 p = none) (r : MR K F (A ++ [p]) H p mc) : SH K F0 H0 F (A ++ [p]) H (M ++ [mc]) := by
  refine ⟨s.ff, s.fh, s.hh, s.fr, ?_, by simp [s.al], fun a ha => ?_, fun k a mc' h1 h2 h3 => ?_⟩
  · rw [List.nodup_append]
    exact ⟨s.nd, by simp, fun a ha b hb e => by rw [List.mem_singleton.mp hb] at e; exact hA (e ▸ ha)⟩
  · rcases List.mem_append.mp ha with q | q
    · exact s.an a q
    · rw [List.mem_singleton.mp q]; exact ⟨h0, h⟩
  · by_cases hk : k < A.length
    · rw [List.getElem?_append_left hk] at h1
      rw [List.getElem?_append_left (by rw [← s.al]; exact hk)] at h2
      obtain ⟨q1, q2⟩ := s.own k a mc' h1 h2 h3
      exact ⟨q1, MR.mono (Same.refl _) ⟨[p], rfl⟩ rfl q2⟩
    · rw [List.getElem?_append_right (by omega)] at h1
      rw [List.getElem?_append_right (by rw [← s.al]; omega)] at h2
      have hk0 : k - A.length = 0 := by
        have := (List.getElem?_eq_some_iff.mp h1).1
        simp at this
        omega
      rw [hk0] at h1
      rw [← s.al, hk0] at h2
      simp at h1 h2
      subst h1 h2
      exact ⟨hF, r⟩
end

/-- in a comprehension's block, whatever its start -/
def Blk (X : Cx) (scope : Scope) (φ : Cx → Prop) : Prop := ∀ (s : Shared) (H : Hp) (C : Addr) (cl : List (Str × Addr)) (fp : List Addr), φ (X.blk s H scope (compEnvC scope cl C X.env) fp)
def xEb (X : Cx) (scope : Scope) (elt : Expr) : TE := fun σ H Q => ∀ (s : Shared) (H0 : Hp) (C : Addr) (cl : List (Str × Addr)) (fp : List Addr), xE (X.blk s H0 scope (compEnvC scope cl C X.env) fp) elt σ H Q
def xTb (X : Cx) (scope : Scope) (c : Expr) : TT := fun σ H Q => ∀ (s : Shared) (H0 : Hp) (C : Addr) (cl : List (Str × Addr)) (fp : List Addr), xT (X.blk s H0 scope (compEnvC scope cl C X.env) fp) c σ H Q
def xGb (X : Cx) (scope : Scope) (tg : Expr) : TG := fun v σ H Q => ∀ (s : Shared) (H0 : Hp) (C : Addr) (cl : List (Str × Addr)) (fp : List Addr), xG (X.blk s H0 scope (compEnvC scope cl C X.env) fp) tg v σ H Q
section
variable {X : Cx} {elt tg iter c : Expr} {scope : Scope} {own : List (Str × Nat)} {pos : Pos} {Γ : Gam} {M M1 : List MC} {ds : List PyData}
theorem EVb {Γ2 : Gam} {Ma Mb : List MC} {y : AV} (h : Blk X scope fun Y => EV Y elt Γ2 Ma y Mb) : EVt X.K (xEb X scope elt) Γ2 Ma y Mb :=
  fun F0 H0 F A H σ Q sh sv k s H0' C cl fp => h s H0' C cl fp F0 H0 F A H σ Q sh sv k
theorem ETb {Γ2 : Gam} {Ma Mb : List MC} {y : Bool} (h : Blk X scope fun Y => ET Y c Γ2 Ma y Mb) : ETt X.K (xTb X scope c) Γ2 Ma y Mb :=
  fun F0 H0 F A H σ Q sh sv k s H0' C cl fp => h s H0' C cl fp F0 H0 F A H σ Q sh sv k
theorem TVb {Γ2 Γ3 : Gam} {d : PyData} {js : List Nat} (h : Blk X scope fun Y => TV Y tg Γ2 d Γ3 js) : TVt X.K (xGb X scope tg) Γ2 d Γ3 js :=
  fun F A H σ v Q sf sv r k s H0' C cl fp => (h s H0' C cl fp).run F A H σ v Q sf sv r k

/-- the state of a comprehension at turn i -/
def CW (K : PySem.W.Frag) (F0 H0 F1 : Hp) (A1 : List Addr) (H1 : Hp) (D : Addr) (Ms : Nat → List MC) (outs : Nat → List AV) (i : Nat) (H : Hp) : Prop :=
  ∃ F' A' acc, SH K F0 H0 F' A' H (Ms i) ∧ Af F1 A1 H1 F' A' H ∧ H D = some (.lst acc) ∧ Paired (VR K F' A') acc (outs i) ∧ F' D = none ∧ D ∉ A'
theorem CW.after {K : PySem.W.Frag} {F0 H0 F1 F' F'' H1 H H4 : Hp} {A1 A' A'' : List Addr} {D : Addr} {acc : List V} (a : Af F' A' H F'' A'' H4) (hD : H D = some (.lst acc)) (hF : F' D = none) (hA : D ∉ A') :
    H4 D = some (.lst acc) ∧ F'' D = none ∧ D ∉ A'' := by
  refine ⟨a.hh D _ hD hA, ?_, ?_⟩
  · cases q : F'' D with
    | none => rfl
    | some o =>
      have := a.fr D hF (by rw [q]; simp)
      rw [this] at hD; cases hD
  · obtain ⟨B, rfl, hB⟩ := a.aa
    intro hm
    rcases List.mem_append.mp hm with q | q
    · exact hA q
    · rw [hB D q] at hD; cases hD
theorem lc_gen {K : PySem.W.Frag} {wi : TI} {g : TG} {tt : TT} {te : TE} {vs : List Nat} (hi : IVt K wi Γ M ds M1) (Ms : Nat → List MC) (outs : Nat → List AV) (h0 : Ms 0 = M1 ∧ outs 0 = []) (hlen : ∀ i, i < ds.length → (outs i).length < sizeLine)
    (hs : ∀ i d, ds[i]? = some d → ∃ Γ2 js b Mt, (∀ j ∈ js, j ∈ vs) ∧ TVt K g (wipeG Γ vs) d Γ2 js ∧ ETt K tt Γ2 (Ms i) b Mt ∧
      (b = true → ∃ y, outs (i + 1) = outs i ++ [y] ∧ EVt K te Γ2 Mt y (Ms (i + 1))) ∧ (b = false → outs (i + 1) = outs i ∧ Ms (i + 1) = Mt))
    {F0 H0 F : Hp} {A : List Addr} {H : Hp} {σ : L2.St} {Q : VK} (sh : SH K F0 H0 F A H M) (sv : SV K F A σ Γ)
    (k : ∀ D H', (∃ F1 A1 H1, Af F A H F1 A1 H1 ∧ H1 D = none ∧ CW K F0 H0 F1 A1 H1 D Ms outs ds.length H') → H0 D = none → Q (.ref D) H') : tLc wi g tt te vs σ H Q := by
  refine hi F0 H0 F A H σ _ sh sv fun J F1 A1 H1 sh1 af1 W D hD => ?_
  have h0D : H0 D = none := Same.free sh1.hh hD
  have start : CW K F0 H0 F1 A1 H1 D Ms outs 0 (upd H1 D (.lst [])) := by
    obtain ⟨s2, a2⟩ := sh1.side (o := .lst []) hD
    refine ⟨F1, A1, [], by rw [h0.1]; exact s2, a2, upd_same, by rw [h0.2]; exact .nil, sh1.below hD, fun q => (sh1.an D q).2 hD⟩
  refine ⟨fun i m H => m = ds.length - i ∧ i ≤ ds.length ∧ CW K F0 H0 F1 A1 H1 D Ms outs i H, ⟨ds.length, by simp, Nat.zero_le _, start⟩, ?_⟩
  rintro i m H2 ⟨rfl, hi2, F', A', acc, s2, a2, hDl, pr, hFD, hAD⟩
  have sf : Same F1 H2 := a2.ff.trans s2.fh
  by_cases hlt : i < ds.length
  · refine .inr ⟨W.go i H2 sf hlt, CW K F0 H0 F1 A1 H1 D Ms outs (i + 1), fun H' p' => ⟨ds.length - (i + 1), by omega, rfl, hlt, p'⟩, fun x H' y => ?_⟩
    obtain ⟨d, hd, alt⟩ := W.yld i H2 x H' sf hlt y
    obtain ⟨Γ2, js, b, Mt, hj, tv, et, ht, hf⟩ := hs i d hd
    -- the item stands in some F3
    have item : ∃ F3, SH K F0 H0 F3 A' H' (Ms i) ∧ Af F' A' H2 F3 A' H' ∧ DR K F3 x d := by
      rcases alt with ⟨rfl, r⟩ | ⟨T, ys, es, hT, rfl, rfl, rfl, r⟩
      · exact ⟨F', s2, Af.refl _ _ _, r.mono a2.ff⟩
      · obtain ⟨s3, a3⟩ := s2.new (o := .tup ys) hT
        exact ⟨_, s3, a3, .tup (SqT.of upd_same) ((r.mono a2.ff).mono a3.ff)⟩
    obtain ⟨F3, s3, a3, rx⟩ := item
    obtain ⟨hD3, hF3, hA3⟩ := CW.after (K := K) (F0 := F0) (H0 := H0) (F1 := F1) (H1 := H1) (A1 := A1) a3 hDl hFD hAD
    have svw : SV K F3 A' (L2.wipe σ vs) (wipeG Γ vs) := (((sv.af af1).af a2).af a3).wipe vs
    refine tv F3 A' H' (L2.wipe σ vs) x _ s3.fh svw rx fun σ2 sv2 hw => ⟨?_, ?_⟩
    · rw [hw vs hj]
      have idem : ∀ ws : List Nat, (∀ j ∈ ws, j ∈ vs) → L2.wipe (L2.wipe σ vs) ws = L2.wipe σ vs := by
        intro ws
        induction ws with
        | nil => intro _; rfl
        | cons v ws ih =>
          intro hv
          show (L2.wipe (L2.wipe σ vs) ws).set v none = _
          rw [ih fun j hj => hv j (List.mem_cons_of_mem _ hj)]
          have cl : ∀ us : List Nat, v ∈ us → (L2.wipe σ us).set v none = L2.wipe σ us := by
            intro us
            induction us with
            | nil => intro h; cases h
            | cons u us ih2 =>
              intro h
              show ((L2.wipe σ us).set u none).set v none = (L2.wipe σ us).set u none
              by_cases q : v = u
              · subst q; rw [List.set_set]
              · have hm : v ∈ us := by
                  rcases List.mem_cons.mp h with z | z
                  · exact absurd z q
                  · exact z
                rw [List.set_comm _ _ (fun z => q z.symm), ih2 hm]
          exact cl vs (hv v List.mem_cons_self)
      exact idem vs fun _ h => h
    · refine et F0 H0 F3 A' H' σ2 _ s3 sv2 fun F4 A4 H4 s4 a4 => ?_
      obtain ⟨hD4, hF4, hA4⟩ := CW.after (K := K) (F0 := F0) (H0 := H0) (F1 := F1) (H1 := H1) (A1 := A1) a4 hD3 hF3 hA3
      cases b with
      | true =>
        refine iteT ?_
        obtain ⟨y', e1, ev⟩ := ht rfl
        refine ev F0 H0 F4 A4 H4 σ2 _ s4 (sv2.af a4) fun v F5 A5 H5 s5 a5 r5 => ?_
        obtain ⟨hD5, hF5, hA5⟩ := CW.after (K := K) (F0 := F0) (H0 := H0) (F1 := F1) (H1 := H1) (A1 := A1) a5 hD4 hF4 hA4
        refine ⟨acc, hD5, by rw [P2.len pr]; exact hlen i hlt, F5, A5, acc ++ [v], s5.aside hF5 hA5 h0D, ((((a2.trans a3).trans a4).trans a5)).side hD, upd_same, ?_, hF5, hA5⟩
        rw [e1]
        exact P2.app (a5.vrs (a4.vrs (a3.vrs pr))) (.cons r5 .nil)
      | false =>
        refine iteF ?_
        obtain ⟨e1, e2⟩ := hf rfl
        exact ⟨F4, A4, acc, by rw [e2]; exact s4, (a2.trans a3).trans a4, hD4, by rw [e1]; exact a4.vrs (a3.vrs pr), hF4, hA4⟩
  · have e : i = ds.length := by omega
    subst e
    exact .inl ⟨W.stop H2 sf, k D H2 ⟨F1, A1, H1, af1, hD, F', A', acc, s2, a2, hDl, pr, hFD, hAD⟩ h0D⟩
theorem lc_frozen {K : PySem.W.Frag} {wi : TI} {g : TG} {tt : TT} {te : TE} {vs : List Nat} (hi : IVt K wi Γ M ds M1) (Ms : Nat → List MC) (outs : Nat → List PyData) (h0 : Ms 0 = M1 ∧ outs 0 = []) (hlen : ∀ i, i < ds.length → (outs i).length < sizeLine)
    (hs : ∀ i d, ds[i]? = some d → ∃ Γ2 js b Mt, (∀ j ∈ js, j ∈ vs) ∧ TVt K g (wipeG Γ vs) d Γ2 js ∧ ETt K tt Γ2 (Ms i) b Mt ∧
      (b = true → ∃ y, outs (i + 1) = outs i ++ [y] ∧ EVt K te Γ2 Mt (.d y) (Ms (i + 1))) ∧ (b = false → outs (i + 1) = outs i ∧ Ms (i + 1) = Mt)) :
    EVt K (tLc wi g tt te vs) Γ M (.d (.list (outs ds.length))) (Ms ds.length) := fun F0 H0 F A H σ Q sh sv k =>
  lc_gen hi Ms (fun i => (outs i).map .d) ⟨h0.1, by show (outs 0).map _ = []; rw [h0.2]; rfl⟩ (fun i h => by show ((outs i).map _).length < _; rw [List.length_map]; exact hlen i h) (fun i d hd => by
    obtain ⟨Γ2, js, b, Mt, h1, h2, h3, h4, h5⟩ := hs i d hd
    exact ⟨Γ2, js, b, Mt, h1, h2, h3, fun e => let ⟨y, q1, q2⟩ := h4 e; ⟨.d y, by show (outs (i + 1)).map _ = _; rw [q1, List.map_append]; rfl, q2⟩, fun e => ⟨by show (outs (i + 1)).map _ = _; rw [(h5 e).1], (h5 e).2⟩⟩) sh sv
    fun D H' ⟨F1, A1, H1, a1, hD, F', A', acc, s2, a2, hDl, pr, hFD, hAD⟩ h0D =>
      k (.ref D) (upd F' D (.lst acc)) A' H' (s2.adopt hDl hFD hAD h0D) (a1.trans (a2.adopt hD hFD)) (DR.lst upd_same ((pair_d pr).mono (same_upd hFD)))
/-- a comprehension: as a value, and on the right of a name -/
structure LC (X : Cx) (e : Expr) (Γ : Gam) (M : List MC) (x : AV) (M' : List MC) : Prop where
  ex : ∃ te, PE X e te ∧ EVt X.K te Γ M x M' ∧ ∀ {i : Nat} {y : Str} {py spos : Pos}, X.N[i]? = some y → X.env.scope.names.lookup y = some .local → swapsWith e (some (.Name y py)) spos.line X.env = pure true → PS X (.Assign [.Name y py] e spos) (tAsg te (gName i))
theorem LC.ev {X : Cx} {e : Expr} {Γ : Gam} {M M' : List MC} {x : AV} (h : LC X e Γ M x M') : EV X e Γ M x M' := let ⟨_, h1, h2, _⟩ := h.ex; EV.of h1 h2
theorem LC.cast {X : Cx} {e : Expr} {Γ : Gam} {M M' : List MC} {x y : AV} (h : LC X e Γ M x M') (q : x = y) : LC X e Γ M y M' := q ▸ h
/-- [elt for tg in iter if c] | without the test -/
theorem LC.lcIf (hc : X.calm = true) (hN : X.N.Nodup) (ok : blkC X.N X.env.scope scope own = true) (hi : IV X tg iter Γ M ds M1) (Ms : Nat → List MC) (outs : Nat → List PyData) (h0 : Ms 0 = M1 ∧ outs 0 = []) (hlen : ∀ i, i < ds.length → (outs i).length < sizeLine)
    (hs : ∀ i d, ds[i]? = some d → ∃ Γ2 js b Mt, (∀ j ∈ js, j ∈ own.map (·.2)) ∧ (Blk X scope fun Y => TV Y tg (wipeG Γ (own.map (·.2))) d Γ2 js) ∧ (Blk X scope fun Y => ET Y c Γ2 (Ms i) b Mt) ∧
      (b = true → ∃ y, outs (i + 1) = outs i ++ [y] ∧ Blk X scope fun Y => EV Y elt Γ2 Mt (.d y) (Ms (i + 1))) ∧ (b = false → outs (i + 1) = outs i ∧ Ms (i + 1) = Mt))
    (hf : ∀ x, foldedSetIterable iter X.env x = pure x := by intro _; rfl) : LC X (.ListComp elt [⟨tg, iter, [c], 0⟩] scope pos) Γ M (.d (.list (outs ds.length))) (Ms ds.length) := by
  have hg : ∀ (s : Shared) (H : Hp) (C : Addr) (cl : List (Str × Addr)) (fp : List Addr), PG (X.blk s H scope (compEnvC scope cl C X.env) fp) tg (xGb X scope tg) := fun s H C cl fp => ⟨fun pins s' σ H' v u Q I r h => h s H C cl fp pins s' u I r⟩
  have ht : ∀ (s : Shared) (H : Hp) (C : Addr) (cl : List (Str × Addr)) (fp : List Addr), PTs (X.blk s H scope (compEnvC scope cl C X.env) fp) [c] (xTb X scope c) := fun s H C cl fp => pts_one ⟨fun pins s' σ H' Q I h => h s H C cl fp pins s' I⟩
  have he : ∀ (s : Shared) (H : Hp) (C : Addr) (cl : List (Str × Addr)) (fp : List Addr), PE (X.blk s H scope (compEnvC scope cl C X.env) fp) elt (xEb X scope elt) := fun s H C cl fp => ⟨fun pins s' σ H' Q I h => h s H C cl fp pins s' I⟩
  exact ⟨_, pe_lc hc hN PI.x (blkOk_by ok) hg ht he hf, lc_frozen hi Ms outs h0 hlen fun i d hd => by
      obtain ⟨Γ2, js, b, Mt, h1, h2, h3, h4, h5⟩ := hs i d hd
      exact ⟨Γ2, js, b, Mt, h1, TVb h2, ETb h3, fun e => let ⟨y, q1, q2⟩ := h4 e; ⟨y, q1, EVb q2⟩, h5⟩,
    fun hy hl hsw => ps_setLc hc hN hy hl hsw PI.x (blkOk_by ok) hg ht he hf⟩
theorem LC.lc (hc : X.calm = true) (hN : X.N.Nodup) (ok : blkC X.N X.env.scope scope own = true) (hi : IV X tg iter Γ M ds M1) (Ms : Nat → List MC) (outs : Nat → PyData) (h0 : Ms 0 = M1) (hlen : ds.length ≤ sizeLine)
    (hs : ∀ i d, ds[i]? = some d → ∃ Γ2 js, (∀ j ∈ js, j ∈ own.map (·.2)) ∧ (Blk X scope fun Y => TV Y tg (wipeG Γ (own.map (·.2))) d Γ2 js) ∧ (Blk X scope fun Y => EV Y elt Γ2 (Ms i) (.d (outs i)) (Ms (i + 1))))
    (hf : ∀ x, foldedSetIterable iter X.env x = pure x := by intro _; rfl) : LC X (.ListComp elt [⟨tg, iter, [], 0⟩] scope pos) Γ M (.d (.list ((List.range ds.length).map outs))) (Ms ds.length) := by
  have hg : ∀ (s : Shared) (H : Hp) (C : Addr) (cl : List (Str × Addr)) (fp : List Addr), PG (X.blk s H scope (compEnvC scope cl C X.env) fp) tg (xGb X scope tg) := fun s H C cl fp => ⟨fun pins s' σ H' v u Q I r h => h s H C cl fp pins s' u I r⟩
  have ht : ∀ (s : Shared) (H : Hp) (C : Addr) (cl : List (Str × Addr)) (fp : List Addr), PTs (X.blk s H scope (compEnvC scope cl C X.env) fp) [] tYes := fun s H C cl fp => pts_nil
  have he : ∀ (s : Shared) (H : Hp) (C : Addr) (cl : List (Str × Addr)) (fp : List Addr), PE (X.blk s H scope (compEnvC scope cl C X.env) fp) elt (xEb X scope elt) := fun s H C cl fp => ⟨fun pins s' σ H' Q I h => h s H C cl fp pins s' I⟩
  exact ⟨_, pe_lc hc hN PI.x (blkOk_by ok) hg ht he hf, lc_frozen hi Ms (fun i => (List.range i).map outs) ⟨h0, rfl⟩ (fun i hi => by rw [List.length_map, List.length_range]; omega) fun i d hd => by
      obtain ⟨Γ2, js, h1, h2, h3⟩ := hs i d hd
      exact ⟨Γ2, js, true, Ms i, h1, TVb h2, fun F0 H0 F A H σ Q sh sv k => k F A H sh (Af.refl _ _ _), fun _ => ⟨outs i, by rw [List.range_succ, List.map_append]; rfl, EVb h3⟩, fun e => by cases e⟩,
    fun hy hl hsw => ps_setLc hc hN hy hl hsw PI.x (blkOk_by ok) hg ht he hf⟩
/-- the common ones: no effect, all items alike -/
theorem LC.lcMap {α : Type} {as : List α} {enc : α → PyData} (g : α → PyData) (hc : X.calm = true) (hN : X.N.Nodup) (ok : blkC X.N X.env.scope scope own = true) (hi : IV X tg iter Γ M (as.map enc) M1) (hlen : as.length ≤ sizeLine)
    (Γ2 : α → Gam) (js : List Nat) (hj : ∀ j ∈ js, j ∈ own.map (·.2)) (ht : ∀ a ∈ as, Blk X scope fun Y => TV Y tg (wipeG Γ (own.map (·.2))) (enc a) (Γ2 a) js) (he : ∀ a ∈ as, Blk X scope fun Y => EV Y elt (Γ2 a) M1 (.d (g a)) M1)
    (hf : ∀ x, foldedSetIterable iter X.env x = pure x := by intro _; rfl) : LC X (.ListComp elt [⟨tg, iter, [], 0⟩] scope pos) Γ M (.d (.list (as.map g))) M1 := by
  cases as with
  | nil => exact LC.lc hc hN ok hi (fun _ => M1) (fun _ => .none) rfl hlen (fun i d hd => by simp at hd) hf
  | cons a0 rest =>
    have h := LC.lc (elt := elt) (pos := pos) hc hN ok hi (fun _ => M1) (fun i => g ((a0 :: rest).getD i a0)) rfl (by rw [List.length_map]; exact hlen) (fun i d hd => by
      rw [List.getElem?_map] at hd
      obtain ⟨a, q1, rfl⟩ := Option.map_eq_some_iff.mp hd
      have ha : a ∈ a0 :: rest := List.mem_of_getElem? q1
      refine ⟨Γ2 a, js, hj, ht a ha, ?_⟩
      have e : (a0 :: rest).getD i a0 = a := by rw [List.getD_eq_getElem?_getD, q1]; rfl
      rw [e]
      exact he a ha) hf
    refine h.cast ?_
    congr 2
    rw [List.length_map]
    refine List.ext_getElem (by simp) fun i h1 h2 => ?_
    have h3 : i < (a0 :: rest).length := by simpa using h1
    rw [List.getElem_map, List.getElem_map, List.getElem_range, List.getD_eq_getElem?_getD, List.getElem?_eq_getElem h3]
    rfl
theorem filter_take {α : Type} (p : α → Bool) (as : List α) (i : Nat) (a : α) (h : as[i]? = some a) : (as.take (i + 1)).filter p = if p a = true then (as.take i).filter p ++ [a] else (as.take i).filter p := by
  rw [List.take_succ, h, List.filter_append]
  simp only [Option.toList, List.filter_cons, List.filter_nil]
  split <;> simp
theorem LC.lcFilter {α : Type} {as : List α} {enc : α → PyData} (g : α → PyData) (q : α → Bool) (hc : X.calm = true) (hN : X.N.Nodup) (ok : blkC X.N X.env.scope scope own = true) (hi : IV X tg iter Γ M (as.map enc) M1) (hlen : as.length ≤ sizeLine)
    (Γ2 : α → Gam) (js : List Nat) (hj : ∀ j ∈ js, j ∈ own.map (·.2)) (ht : ∀ a ∈ as, Blk X scope fun Y => TV Y tg (wipeG Γ (own.map (·.2))) (enc a) (Γ2 a) js) (hq : ∀ a ∈ as, Blk X scope fun Y => ET Y c (Γ2 a) M1 (q a) M1)
    (he : ∀ a ∈ as, q a = true → Blk X scope fun Y => EV Y elt (Γ2 a) M1 (.d (g a)) M1)
    (hf : ∀ x, foldedSetIterable iter X.env x = pure x := by intro _; rfl) : LC X (.ListComp elt [⟨tg, iter, [c], 0⟩] scope pos) Γ M (.d (.list ((as.filter q).map g))) M1 := by
  have h := LC.lcIf (elt := elt) (c := c) (pos := pos) hc hN ok hi (fun _ => M1) (fun i => ((as.take i).filter q).map g) ⟨rfl, by simp⟩ (fun i h => by
      rw [List.length_map] at h ⊢
      have h1 := List.length_filter_le q (as.take i)
      rw [List.length_take] at h1
      omega) (fun i d hd => by
      rw [List.getElem?_map] at hd
      obtain ⟨a, q1, rfl⟩ := Option.map_eq_some_iff.mp hd
      have ha : a ∈ as := List.mem_of_getElem? q1
      refine ⟨Γ2 a, js, q a, M1, hj, ht a ha, hq a ha, fun e => ⟨g a, ?_, he a ha e⟩, fun e => ⟨?_, rfl⟩⟩
      · show ((as.take (i + 1)).filter q).map g = _
        rw [filter_take q as i a q1, if_pos e, List.map_append]; rfl
      · show ((as.take (i + 1)).filter q).map g = _
        rw [filter_take q as i a q1, if_neg (by rw [e]; simp)]) hf
  refine h.cast ?_
  simp
end
end DV

set_option Elab.async false
set_option maxRecDepth 100000
set_option maxHeartbeats 4000000
set_option linter.all false
namespace DV
open PySem PySem.Spec L2

/-! ### statements -/
structure AD where
  nx : Gam → List MC → Prop
  rt : AV → List MC → Prop
  bk : Gam → List MC → Prop := fun _ _ => False
  ct : Gam → List MC → Prop := fun _ _ => False
def cS (K : PySem.W.Frag) (F0 H0 F : Hp) (P : Gam → List MC → Prop) : L2.St → Hp → Prop := fun σ' H' => ∃ F' A' Γ' M', SH K F0 H0 F' A' H' M' ∧ SV K F' A' σ' Γ' ∧ Same F F' ∧ P Γ' M'
def cR (K : PySem.W.Frag) (F0 H0 : Hp) (P : AV → List MC → Prop) : VK := fun v H' => ∃ F' A' x M', SH K F0 H0 F' A' H' M' ∧ VR K F' A' v x ∧ P x M'
def conc (K : PySem.W.Frag) (F0 H0 F : Hp) (D : AD) : Ends := ⟨cS K F0 H0 F D.nx, cR K F0 H0 D.rt, cS K F0 H0 F D.bk, cS K F0 H0 F D.ct⟩
def SX (X : Cx) (sts : List Stmt) (Γ : Gam) (M : List MC) (D : AD) : Prop :=
  ∀ (F0 H0 F : Hp) (A : List Addr) (H : Hp) (σ : L2.St), SH X.K F0 H0 F A H M → SV X.K F A σ Γ → xSs X sts (conc X.K F0 H0 F D) σ H

structure EndsLe (D D' : Ends) : Prop where
  nx : ∀ σ H, D.nx σ H → D'.nx σ H
  rt : ∀ v H, D.rt v H → D'.rt v H
  bk : ∀ σ H, D.bk σ H → D'.bk σ H
  ct : ∀ σ H, D.ct σ H → D'.ct σ H
theorem SP.le {X : Cx} {pins : List (Addr × Obj)} {D D' : Ends} (h : EndsLe D D') {f : Flow} {s : Shared} (q : SP X pins D f s) : SP X pins D' f s := by
  cases f with
  | next => obtain ⟨σ, H, I, p⟩ := q; exact ⟨σ, H, I, h.nx _ _ p⟩
  | brk => obtain ⟨σ, H, I, p⟩ := q; exact ⟨σ, H, I, h.bk _ _ p⟩
  | cont => obtain ⟨σ, H, I, p⟩ := q; exact ⟨σ, H, I, h.ct _ _ p⟩
  | ret u => obtain ⟨v, σ, H, I, r, p⟩ := q; exact ⟨v, σ, H, I, r, h.rt _ _ p⟩
theorem xSs.le {X : Cx} {sts : List Stmt} {D D' : Ends} {σ : L2.St} {H : Hp} (h : EndsLe D D') (q : xSs X sts D σ H) : xSs X sts D' σ H := fun pins s I => wpAny_mono (q pins s I) (fun _ _ z => SP.le h z) fun _ _ z => z
theorem cS.up {K : PySem.W.Frag} {F0 H0 F F' : Hp} {P : Gam → List MC → Prop} (e : Same F F') {σ : L2.St} {H : Hp} (h : cS K F0 H0 F' P σ H) : cS K F0 H0 F P σ H := by
  obtain ⟨F2, A2, Γ2, M2, a, b, c, d⟩ := h
  exact ⟨F2, A2, Γ2, M2, a, b, e.trans c, d⟩
theorem conc.up {K : PySem.W.Frag} {F0 H0 F F' : Hp} {D : AD} (e : Same F F') : EndsLe (conc K F0 H0 F' D) (conc K F0 H0 F D) :=
  ⟨fun _ _ h => cS.up e h, fun _ _ h => h, fun _ _ h => cS.up e h, fun _ _ h => cS.up e h⟩
theorem xSs_cons {X : Cx} {st : Stmt} {rest : List Stmt} {t : TS} {D : Ends} {σ : L2.St} {H : Hp} (h : PS X st t) (q : t { D with nx := xSs X rest D } σ H) : xSs X (st :: rest) D σ H := fun pins s I => (pss_cons h PSs.x).run pins s σ H D I q
section
variable {X : Cx} {e a b c : Expr} {es : List Expr} {rest body orelse : List Stmt} {Γ Γ' : Gam} {M M1 M2 M3 : List MC} {x y z : AV} {pos p p2 : Pos} {xs ys : List AV} {i j : Int} {n : Str} {D : AD}
/-- going on behind an evaluation -/
theorem SX.go (k : SX X rest Γ M D) {F0 H0 F F' : Hp} {A' : List Addr} {H' : Hp} {σ : L2.St} (e : Same F F') (sh : SH X.K F0 H0 F' A' H' M) (sv : SV X.K F' A' σ Γ) : xSs X rest (conc X.K F0 H0 F D) σ H' :=
  xSs.le (conc.up e) (k F0 H0 F' A' H' σ sh sv)
theorem SX.weak {D' : AD} (h : SX X rest Γ M D) (h1 : ∀ Γ M, D.nx Γ M → D'.nx Γ M) (h2 : ∀ x M, D.rt x M → D'.rt x M) (h3 : ∀ Γ M, D.bk Γ M → D'.bk Γ M) (h4 : ∀ Γ M, D.ct Γ M → D'.ct Γ M) : SX X rest Γ M D' := fun F0 H0 F A H σ sh sv => by
  refine xSs.le ?_ (h F0 H0 F A H σ sh sv)
  exact ⟨fun _ _ ⟨a, b, c, d, p, q, r, s⟩ => ⟨a, b, c, d, p, q, r, h1 _ _ s⟩, fun _ _ ⟨a, b, c, d, p, q, s⟩ => ⟨a, b, c, d, p, q, h2 _ _ s⟩, fun _ _ ⟨a, b, c, d, p, q, r, s⟩ => ⟨a, b, c, d, p, q, r, h3 _ _ s⟩, fun _ _ ⟨a, b, c, d, p, q, r, s⟩ => ⟨a, b, c, d, p, q, r, h4 _ _ s⟩⟩
theorem SX.to {Γ2 : Gam} {M2 : List MC} (h1 : Γ = Γ2) (h2 : M = M2) (h : SX X rest Γ2 M2 D) : SX X rest Γ M D := by subst h1 h2; exact h
/-- forgetting slots -/
theorem SX.forget (h : SX X rest Γ' M D) (hl : Γ'.length = Γ.length) (w : ∀ (i : Nat) y, Γ'[i]? = some (some y) → Γ[i]? = some (some y)) : SX X rest Γ M D := fun F0 H0 F A H σ sh sv => h F0 H0 F A H σ sh (sv.weak hl w)
theorem SX.nil (h : D.nx Γ M) : SX X [] Γ M D := fun F0 H0 F A H σ sh sv pins s I => pss_nil.run pins s σ H _ I (show cS X.K F0 H0 F D.nx σ H from ⟨F, A, Γ, M, sh, sv, Same.refl _, h⟩)
theorem SX.pass (k : SX X rest Γ M D) : SX X (.Pass pos :: rest) Γ M D := fun F0 H0 F A H σ sh sv => xSs_cons ps_pass (k F0 H0 F A H σ sh sv)
theorem SX.doc {q j} (k : SX X rest Γ M D) : SX X (.Expr (.Constant (.str q) j p) pos :: rest) Γ M D := fun F0 H0 F A H σ sh sv => xSs_cons ps_doc (k F0 H0 F A H σ sh sv)
theorem SX.brk (h : D.bk Γ M) : SX X (.Break pos :: rest) Γ M D := fun F0 H0 F A H σ sh sv => xSs_cons ps_break ⟨F, A, Γ, M, sh, sv, Same.refl _, h⟩
theorem SX.cont (h : D.ct Γ M) : SX X (.Continue pos :: rest) Γ M D := fun F0 H0 F A H σ sh sv => xSs_cons ps_continue ⟨F, A, Γ, M, sh, sv, Same.refl _, h⟩
/-- name = e -/
theorem SX.asg (k : Nat) (hN : X.N.Nodup) (h : EV X e Γ M x M1) (go : SX X rest (Γ.set k (some x)) M1 D) (hi : X.N[k]? = some n := by rfl) (hx : Loc X.env.scope n := by first | exact .inl rfl | exact .inr rfl)
    (hs : swapsWith e (some (.Name n p)) pos.line X.env = pure false := by rfl) (hf : X.fn n = true ∨ X.env.scope.names.lookup n = some .local := by first | exact .inl rfl | exact .inr rfl | assumption) : SX X (.Assign [.Name n p] e pos :: rest) Γ M D := fun F0 H0 F A H σ sh sv =>
  xSs_cons (ps_set hN hi hx PE.x hs hf) (h F0 H0 F A H σ _ sh sv fun v F1 A1 H1 sh1 af1 v1 => go.go af1.ff sh1 ((sv.af af1).set k v1))
/-- a, b = e1, e2 -/
theorem SX.par2 (k l : Nat) {m : Str} {px py pt : Pos} {kt k2 pt2} (hc : X.calm = true) (hN : X.N.Nodup) (h : EA X [a, b] Γ M [x, y] M1) (go : SX X rest ((Γ.set k (some x)).set l (some y)) M1 D) (hij : k ≠ l := by decide) (hi : X.N[k]? = some n := by rfl) (hj : X.N[l]? = some m := by rfl)
    (hx : X.env.scope.names.lookup n = some .local := by rfl) (hy : X.env.scope.names.lookup m = some .local := by rfl)
    (hw : swappedStores [.Tuple [.Name n px, .Name m py] kt pt] (.Tuple [a, b] k2 pt2) X.env = pure (some [n, m]) := by rfl)
    (hs : swapsWithSole [.Tuple [.Name n px, .Name m py] kt pt] (.Tuple [a, b] k2 pt2) pos.line X.env = pure false := by rfl) : SX X (.Assign [.Tuple [.Name n px, .Name m py] kt pt] (.Tuple [a, b] k2 pt2) pos :: rest) Γ M D := fun F0 H0 F A H σ sh sv =>
  xSs_cons (ps_par hc hN hi hj hij hx hy PA.x hw hs) (h F0 H0 F A H σ _ sh sv fun vs F1 A1 H1 sh1 af1 v1 => by
    obtain ⟨v, w, rfl, rv, rw⟩ := pair2 v1
    exact ⟨v, w, rfl, go.go af1.ff sh1 (((sv.af af1).set k rv).set l rw)⟩)
theorem SX.par3 (k l r : Nat) {m o : Str} {px py pz pt : Pos} {kt k2 pt2} (hc : X.calm = true) (hN : X.N.Nodup) (h : EA X [a, b, c] Γ M [x, y, z] M1) (go : SX X rest (((Γ.set k (some x)).set l (some y)).set r (some z)) M1 D)
    (hij : k ≠ l := by decide) (hil : k ≠ r := by decide) (hjl : l ≠ r := by decide) (hi : X.N[k]? = some n := by rfl) (hj : X.N[l]? = some m := by rfl) (hr : X.N[r]? = some o := by rfl)
    (hx : X.env.scope.names.lookup n = some .local := by rfl) (hy : X.env.scope.names.lookup m = some .local := by rfl) (hz : X.env.scope.names.lookup o = some .local := by rfl)
    (hw : swappedStores [.Tuple [.Name n px, .Name m py, .Name o pz] kt pt] (.Tuple [a, b, c] k2 pt2) X.env = pure (some [n, m, o]) := by rfl)
    (hs : swapsWithSole [.Tuple [.Name n px, .Name m py, .Name o pz] kt pt] (.Tuple [a, b, c] k2 pt2) pos.line X.env = pure false := by rfl) : SX X (.Assign [.Tuple [.Name n px, .Name m py, .Name o pz] kt pt] (.Tuple [a, b, c] k2 pt2) pos :: rest) Γ M D := fun F0 H0 F A H σ sh sv =>
  xSs_cons (ps_par3 hc hN hi hj hr hij hil hjl hx hy hz PA.x hw hs) (h F0 H0 F A H σ _ sh sv fun vs F1 A1 H1 sh1 af1 v1 => by
    obtain ⟨v, w, u, rfl, rv, rw, ru⟩ : ∃ v w u, vs = [v, w, u] ∧ VR X.K F1 A1 v x ∧ VR X.K F1 A1 w y ∧ VR X.K F1 A1 u z := by
      cases v1 with | cons a t => cases t with | cons b t => cases t with | cons c t => cases t; exact ⟨_, _, _, rfl, a, b, c⟩
    exact ⟨v, w, u, rfl, go.go af1.ff sh1 ((((sv.af af1).set k rv).set l rw).set r ru)⟩)
/-- target = e, e a datum -/
theorem SX.asgT {tg : Expr} {d : PyData} {js : List Nat} (h : EV X e Γ M (.d d) M1) (t : TV X tg Γ d Γ' js) (go : SX X rest Γ' M1 D) (hs : swapsWithSole [tg] e pos.line X.env = pure false := by rfl) (hw : swappedStores [tg] e X.env = pure none := by rfl)
    (h1 : (assignEach [tg] X.env).map (·.2) = [assign tg X.env] := by rfl) : SX X (.Assign [tg] e pos :: rest) Γ M D := fun F0 H0 F A H σ sh sv => by
  obtain ⟨g, pg, tg'⟩ := t.ex
  exact xSs_cons (ps_asg PE.x pg hs hw h1) (h F0 H0 F A H σ _ sh sv fun v F1 A1 H1 sh1 af1 v1 => tg' F1 A1 H1 σ v _ sh1.fh (sv.af af1) v1 fun σ' sv' _ => go.go af1.ff sh1 sv')
/-- name += e -/
theorem SX.aug (k : Nat) {op : Operator} {r : R2} (ho : OpR X (inplaceOp op) r) (hN : X.N.Nodup) (hg : Γ[k]? = some (some x)) (h : EV X e Γ M y M1) (hr : B2 X.K r x y M1 z M2) (go : SX X rest (Γ.set k (some z)) M2 D) (hi : X.N[k]? = some n := by rfl) (hx : Loc X.env.scope n := by first | exact .inl rfl | exact .inr rfl)
    (hf : X.fn n = true ∨ X.env.scope.names.lookup n = some .local := by first | exact .inl rfl | exact .inr rfl | assumption) : SX X (.AugAssign (.Name n p) op e pos :: rest) Γ M D := fun F0 H0 F A H σ sh sv => by
  obtain ⟨v, q1, q2⟩ := sv.get hg
  exact xSs_cons (ps_aug (ti := r) hN hi hx PE.x ho hf) ⟨v, q1, h F0 H0 F A H σ _ sh sv fun w F1 A1 H1 sh1 af1 v1 => hr F0 H0 F1 A1 H1 v w _ sh1 (af1.vr q2) v1 fun u F2 A2 H2 sh2 af2 v2 => go.go (af1.ff.trans af2.ff) sh2 (((sv.af af1).af af2).set k v2)⟩
theorem SX.augI (k : Nat) (hN : X.N.Nodup) (hg : Γ[k]? = some (some (.d (.int i)))) (h : EV X e Γ M (.d (.int j)) M1) (go : SX X rest (Γ.set k (some (.d (.int (i + j))))) M1 D) (hi : X.N[k]? = some n := by rfl) (hx : Loc X.env.scope n := by first | exact .inl rfl | exact .inr rfl)
    (hf : X.fn n = true ∨ X.env.scope.names.lookup n = some .local := by first | exact .inl rfl | exact .inr rfl | assumption) : SX X (.AugAssign (.Name n p) .Add e pos :: rest) Γ M D := SX.aug k iop_add hN hg h (b2_I0 rfl) go hi hx hf
theorem SX.augIs (k : Nat) (hN : X.N.Nodup) (hg : Γ[k]? = some (some (.d (.int i)))) (h : EV X e Γ M (.d (.int j)) M1) (go : SX X rest (Γ.set k (some (.d (.int (i - j))))) M1 D) (hi : X.N[k]? = some n := by rfl) (hx : Loc X.env.scope n := by first | exact .inl rfl | exact .inr rfl)
    (hf : X.fn n = true ∨ X.env.scope.names.lookup n = some .local := by first | exact .inl rfl | exact .inr rfl | assumption) : SX X (.AugAssign (.Name n p) .Sub e pos :: rest) Γ M D := SX.aug k iop_sub hN hg h (b2_I0 rfl) go hi hx hf
theorem SX.augS (k : Nat) {u w : Str} (hN : X.N.Nodup) (hg : Γ[k]? = some (some (.d (.str u)))) (h : EV X e Γ M (.d (.str w)) M1) (hl : u.length + w.length ≤ sizeLine) (go : SX X rest (Γ.set k (some (.d (.str (u ++ w))))) M1 D) (hi : X.N[k]? = some n := by rfl) (hx : Loc X.env.scope n := by first | exact .inl rfl | exact .inr rfl)
    (hf : X.fn n = true ∨ X.env.scope.names.lookup n = some .local := by first | exact .inl rfl | exact .inr rfl | assumption) : SX X (.AugAssign (.Name n p) .Add e pos :: rest) Γ M D :=
  SX.aug k iop_add_str hN hg h (fun F0 H0 F A H v w' Q sh rv rw q => ⟨u, w, rv.str, rw.str, hl, q _ F A H sh (Af.refl _ _ _) (show VR X.K F A (V.str (u ++ w)) (.d (.str (u ++ w))) from DR.str _)⟩) go hi hx hf
/-- e as a statement -/
theorem SX.expr (h : EV X e Γ M x M1) (go : SX X rest Γ M1 D) (hs : swapsWith e none pos.line X.env = pure false := by rfl) : SX X (.Expr e pos :: rest) Γ M D := fun F0 H0 F A H σ sh sv =>
  xSs_cons (ps_expr PE.x hs) (h F0 H0 F A H σ _ sh sv fun v F1 A1 H1 sh1 af1 v1 => go.go af1.ff sh1 (sv.af af1))
theorem SX.asgLc (k : Nat) {py spos : Pos} (h : LC X e Γ M x M1) (go : SX X rest (Γ.set k (some x)) M1 D) (hi : X.N[k]? = some n := by rfl) (hl : X.env.scope.names.lookup n = some .local := by rfl) (hsw : swapsWith e (some (.Name n py)) spos.line X.env = pure true := by rfl) : SX X (.Assign [.Name n py] e spos :: rest) Γ M D := fun F0 H0 F A H σ sh sv => by
  obtain ⟨te, h1, h2, h3⟩ := h.ex
  exact xSs_cons (h3 hi hl hsw) (h2 F0 H0 F A H σ _ sh sv fun v F1 A1 H1 sh1 af1 v1 => go.go af1.ff sh1 ((sv.af af1).set k v1))
/-- return e -/
theorem SX.ret (h : EV X e Γ M x M1) (q : D.rt x M1) : SX X (.Return (some e) pos :: rest) Γ M D := fun F0 H0 F A H σ sh sv =>
  xSs_cons (ps_ret PE.x) (h F0 H0 F A H σ _ sh sv fun v F1 A1 H1 sh1 af1 v1 => ⟨F1, A1, x, M1, sh1, v1, q⟩)
theorem SX.retN (q : D.rt (.d .none) M) : SX X (.Return none pos :: rest) Γ M D := fun F0 H0 F A H σ sh sv => xSs_cons ps_retN ⟨F, A, .d .none, M, sh, DR.non, q⟩
/-- return a cell, frozen -/
theorem SX.retM {k : Nat} {ds : List PyData} (h : EV X e Γ M (.m k) M1) (hk : M1[k]? = some (.lst (ds.map .d))) (q : D.rt (.d (.list ds)) (M1.set k .dead)) : SX X (.Return (some e) pos :: rest) Γ M D := fun F0 H0 F A H σ sh sv =>
  xSs_cons (ps_ret PE.x) (h F0 H0 F A H σ _ sh sv fun v F1 A1 H1 sh1 af1 v1 => by
    obtain ⟨a, e1, rfl⟩ := v1
    obtain ⟨h1, vs, h2, h3⟩ := sh1.own k a _ e1 hk (by simp)
    obtain ⟨s2, sf⟩ := sh1.freeze e1 hk (by simp) h2
    exact ⟨_, A1, .d (.list ds), _, s2, DR.lst upd_same ((pair_d h3).mono sf), q⟩)
/-- if -/
theorem SX.ite {q : Bool} (h : ET X c Γ M q M1) (h1 : q = true → SX X body Γ M1 { D with nx := fun Γ' M' => SX X rest Γ' M' D }) (h2 : q = false → SX X orelse Γ M1 { D with nx := fun Γ' M' => SX X rest Γ' M' D }) : SX X (.If c body orelse pos :: rest) Γ M D := fun F0 H0 F A H σ sh sv =>
  xSs_cons (ps_if PT.x PSs.x PSs.x) (h F0 H0 F A H σ _ sh sv fun F1 A1 H1 sh1 af1 => by
    have le : EndsLe (conc X.K F0 H0 F1 { D with nx := fun Γ' M' => SX X rest Γ' M' D }) { (conc X.K F0 H0 F D) with nx := xSs X rest (conc X.K F0 H0 F D) } :=
      ⟨fun σ' H' ⟨F2, A2, Γ2, M2, s2, v2, e2, k⟩ => k.go (af1.ff.trans e2) s2 v2, fun _ _ h => h, fun _ _ h => cS.up af1.ff h, fun _ _ h => cS.up af1.ff h⟩
    cases q with
    | true => exact iteT (xSs.le le (h1 rfl F0 H0 F1 A1 H1 σ sh1 (sv.af af1)))
    | false => exact iteF (xSs.le le (h2 rfl F0 H0 F1 A1 H1 σ sh1 (sv.af af1))))
/-- if without else -/
theorem SX.when {q : Bool} (h : ET X c Γ M q M1) (h1 : q = true → SX X body Γ M1 { D with nx := fun Γ' M' => SX X rest Γ' M' D }) (h2 : q = false → SX X rest Γ M1 D) : SX X (.If c body [] pos :: rest) Γ M D := SX.ite h h1 fun e => SX.nil (h2 e)
/-- for -/
theorem SX.for {tg iter : Expr} {ds : List PyData} (hp : PassesOwn (model X.prog X.w) X.A X.env X.xe) (hc : X.calm = true) (hi : IV X tg iter Γ M ds M1) (W : Nat → Gam → List MC → Prop) (h0 : W 0 Γ M1)
    (hs : ∀ i d Γ' M', ds[i]? = some d → W i Γ' M' → ∃ Γ2 js, TV X tg Γ' d Γ2 js ∧ SX X body Γ2 M' { nx := W (i + 1), rt := D.rt, bk := fun Γ3 M3 => SX X rest Γ3 M3 D, ct := W (i + 1) })
    (hd : ∀ Γ' M', W ds.length Γ' M' → SX X rest Γ' M' D) (hf : ∀ x, foldedSetIterable iter X.env x = pure x := by intro _; rfl) : SX X (.For tg iter body [] pos :: rest) Γ M D := fun F0 H0 F A H σ sh sv =>
  xSs_cons (ps_for (g := xG X tg) hp hc PI.x PG.x PSs.x hf) (hi F0 H0 F A H σ _ sh sv fun J F1 A1 H1 sh1 af1 wk => by
    refine ⟨fun i m σ' H' => m = ds.length - i ∧ i ≤ ds.length ∧ ∃ F' A' Γ' M', SH X.K F0 H0 F' A' H' M' ∧ SV X.K F' A' σ' Γ' ∧ Same F1 F' ∧ W i Γ' M', ⟨ds.length, by simp, Nat.zero_le _, F1, A1, Γ, M1, sh1, sv.af af1, Same.refl _, h0⟩, ?_⟩
    rintro i m σ' H' ⟨rfl, hi2, F', A', Γ', M', s2, v2, e2, w2⟩
    have sf : Same F1 H' := e2.trans s2.fh
    by_cases hlt : i < ds.length
    · refine .inr ⟨wk.go i H' sf hlt, cS X.K F0 H0 F1 (W (i + 1)), fun σ3 H3 ⟨F3, A3, Γ3, M3, s3, v3, e3, w3⟩ => ⟨ds.length - (i + 1), by omega, rfl, hlt, F3, A3, Γ3, M3, s3, v3, e3, w3⟩, fun x H3 y => ?_⟩
      obtain ⟨d, hd', alt⟩ := wk.yld i H' x H3 sf hlt y
      obtain ⟨Γ2, js, t, k⟩ := hs i d Γ' M' hd' w2
      have item : ∃ F3, SH X.K F0 H0 F3 A' H3 M' ∧ Same F' F3 ∧ SV X.K F3 A' σ' Γ' ∧ DR X.K F3 x d := by
        rcases alt with ⟨rfl, r⟩ | ⟨T, zs, ws, hT, rfl, rfl, rfl, r⟩
        · exact ⟨F', s2, Same.refl _, v2, r.mono e2⟩
        · obtain ⟨s3, a3⟩ := s2.new (o := .tup zs) hT
          exact ⟨_, s3, a3.ff, v2.af a3, .tup (SqT.of upd_same) ((r.mono e2).mono a3.ff)⟩
      obtain ⟨F3, s3, e3, v3, rx⟩ := item
      refine t.run F3 A' H3 σ' x _ s3.fh v3 rx fun σ4 v4 _ => ?_
      refine xSs.le ?_ (k F0 H0 F3 A' H3 σ4 s3 v4)
      exact ⟨fun _ _ h => cS.up (e2.trans e3) h, fun _ _ h => h, fun σ5 H5 ⟨F5, A5, Γ5, M5, s5, v5, e5, k5⟩ => k5.go (((af1.ff.trans e2).trans e3).trans e5) s5 v5, fun _ _ h => cS.up (e2.trans e3) h⟩
    · have e : i = ds.length := by omega
      subst e
      exact .inl ⟨wk.stop H' sf, (hd Γ' M' w2).go (af1.ff.trans e2) s2 v2⟩)
/-- while -/
theorem SX.while (hp : PassesOwn (model X.prog X.w) X.A X.env X.xe) (W : Nat → Gam → List MC → Prop) (m0 : Nat) (h0 : W m0 Γ M)
    (hs : ∀ m Γ' M', W m Γ' M' → ∃ q M2, ET X c Γ' M' q M2 ∧ (q = true → SX X body Γ' M2 { nx := fun Γ3 M3 => ∃ m', m' < m ∧ W m' Γ3 M3, rt := D.rt, bk := fun Γ3 M3 => SX X rest Γ3 M3 D, ct := fun Γ3 M3 => ∃ m', m' < m ∧ W m' Γ3 M3 }) ∧ (q = false → SX X rest Γ' M2 D)) :
    SX X (.While c body [] pos :: rest) Γ M D := fun F0 H0 F A H σ sh sv =>
  xSs_cons (ps_while hp PT.x PSs.x) (by
    refine ⟨fun m σ' H' => ∃ F' A' Γ' M', SH X.K F0 H0 F' A' H' M' ∧ SV X.K F' A' σ' Γ' ∧ Same F F' ∧ W m Γ' M', ⟨m0, F, A, Γ, M, sh, sv, Same.refl _, h0⟩, ?_⟩
    rintro m σ' H' ⟨F', A', Γ', M', s2, v2, e2, w2⟩
    obtain ⟨q, M2, et, ht, hf⟩ := hs m Γ' M' w2
    refine et F0 H0 F' A' H' σ' _ s2 v2 fun F3 A3 H3 s3 a3 => ?_
    cases q with
    | true =>
      refine iteT ⟨cS X.K F0 H0 F (fun Γ3 M3 => ∃ m', m' < m ∧ W m' Γ3 M3), fun σ4 H4 ⟨F4, A4, Γ4, M4, s4, v4, e4, m', hm, w4⟩ => ⟨m', hm, F4, A4, Γ4, M4, s4, v4, e4, w4⟩, ?_⟩
      refine xSs.le ?_ (ht rfl F0 H0 F3 A3 H3 σ' s3 (v2.af a3))
      exact ⟨fun _ _ h => cS.up (e2.trans a3.ff) h, fun _ _ h => h, fun σ5 H5 ⟨F5, A5, Γ5, M5, s5, v5, e5, k5⟩ => k5.go ((e2.trans a3.ff).trans e5) s5 v5, fun _ _ h => cS.up (e2.trans a3.ff) h⟩
    | false => exact iteF ((hf rfl).go (e2.trans a3.ff) s3 (v2.af a3)))

/-! ### what changes a cell -/
theorem put_lst {K : PySem.W.Frag} {F0 H0 F H : Hp} {A : List Addr} {k : Nat} {a : Addr} {xs ys : List AV} {ws : List V} (s : SH K F0 H0 F A H M) (h1 : A[k]? = some a) (h2 : M[k]? = some (.lst xs)) (r : Paired (VR K F A) ws ys) :
    SH K F0 H0 F A (upd H a (.lst ws)) (M.set k (.lst ys)) ∧ Af F A H F A (upd H a (.lst ws)) := s.put h1 h2 (by simp) ⟨ws, upd_same, r⟩
/-- xs.append(e) -/
theorem SX.append {k : Nat} {o : Expr} {apos cpos : Pos} (ho : EV X o Γ M (.m k) M1) (hk1 : M1[k]? = some (.lst ys)) (h : EV X e Γ M1 x M2) (hk : M2[k]? = some (.lst xs)) (hl : xs.length < sizeLine) (go : SX X rest Γ (M2.set k (.lst (xs ++ [x]))) D)
    (hbase : attributeBase o "append" X.env (eval o X.env) = eval o X.env := by rfl)
    (hfew : ((backTo cpos (starEach [e] X.env)).all (fun x => !x.1) && (backToKw cpos (keywordEach [] X.env)).all (fun x => x.1.isSome) && decide ([e].length + ([] : List Keyword).length + (if ([] : List Keyword).isEmpty then 0 else 1) < 30)) = true := by rfl)
    (hline : (apos.endLine == cpos.line) = true := by rfl) (hs : starEach [e] X.env = (false, eval e X.env) :: starEach [] X.env := by rfl) (hplain : (backTo cpos (starEach [] X.env)).any (·.1) = false := by rfl)
    (hsw : swapsWith (.Call (.Attribute o "append" apos) [e] [] cpos) none pos.line X.env = pure false := by rfl) : SX X (.Expr (.Call (.Attribute o "append" apos) [e] [] cpos) pos :: rest) Γ M D := fun F0 H0 F A H σ sh sv =>
  xSs_cons (ps_expr (pe_bm PySem.F.plainAttrs_list PySem.F.slot_list_append PySem.F.type_list_append mt_append PE.x PA.x hbase hfew hline hs hplain) hsw)
    (ho F0 H0 F A H σ _ sh sv fun v F1 A1 H1 sh1 af1 v1 => by
      obtain ⟨a, e1, rfl⟩ := v1
      -- the object is a list all along
      have key : ∀ {F2 A2 H2}, SH X.K F0 H0 F2 A2 H2 M2 → Af F1 A1 H1 F2 A2 H2 → A2[k]? = some a := fun {F2 A2 H2} _ a2 => by
        obtain ⟨B, rfl, _⟩ := a2.aa
        rw [List.getElem?_append_left (List.getElem?_eq_some_iff.mp e1).1]; exact e1
      obtain ⟨_, vs1, q01, _⟩ := sh1.own k a _ e1 hk1 (by simp)
      exact ⟨.inl ⟨rfl, _, SqL.of q01⟩, EA.one h hs F0 H0 F1 A1 H1 σ _ sh1 (sv.af af1) fun vs F2 A2 H2 sh2 af2 v2 => by
        obtain ⟨w, rfl, rw⟩ := pair1 v2
        obtain ⟨_, us, q1, q2⟩ := sh2.own k a _ (key sh2 af2) hk (by simp)
        obtain ⟨s3, a3⟩ := put_lst (ws := us ++ [w]) sh2 (key sh2 af2) hk (P2.app q2 (.cons rw .nil))
        exact ⟨a, us, w, rfl, rfl, q1, by rw [P2.len q2]; exact hl, go.go ((af1.ff.trans af2.ff).trans a3.ff) s3 (((sv.af af1).af af2).af a3)⟩⟩)
end
end DV

set_option Elab.async false
set_option maxRecDepth 100000
set_option maxHeartbeats 4000000
set_option linter.all false
namespace DV
open PySem PySem.Spec L2
open PyProof.Rows (envOfC)

/-! ### a def's promise from its body -/
def startG (N : List Str) (ds : List PyData) : Gam := ds.map (fun d => some (.d d)) ++ List.replicate (N.length - ds.length) none
theorem sv_start {K : PySem.W.Frag} {F : Hp} {N : List Str} {vs : List V} {ds : List PyData} (h : DRs K F vs ds) : SV K F [] (L2.start N vs) (startG N ds) := by
  have hl := P2.len h.paired
  refine ⟨by simp [L2.start, startG, hl], fun i x e => ?_⟩
  unfold startG at e
  by_cases hi : i < ds.length
  · rw [List.getElem?_append_left (by rw [List.length_map]; exact hi), List.getElem?_map] at e
    obtain ⟨d, q1, q2⟩ := Option.map_eq_some_iff.mp e
    cases q2
    obtain ⟨v, h1, h2⟩ := P2.get h.paired q1
    refine ⟨v, ?_, h2⟩
    unfold L2.start
    rw [List.getElem?_append_left (by rw [List.length_map]; omega), List.getElem?_map, h1]; rfl
  · rw [List.getElem?_append_right (by rw [List.length_map]; omega)] at e
    rw [List.getElem?_replicate] at e
    split at e <;> cases e
section
variable {P : Program} {w : World} {K : PySem.W.Frag} {mg : Str → Option Value} {base : Heap}
abbrev defX (P : Program) (w : World) (K : PySem.W.Frag) (mg : Str → Option Value) (base : Heap) (N : List Str) (qual : Str) (st : Stmt) (f : Addr) (cdv : Value) (A : Around) (outer : List Env) (s : Shared) (H : Hp) (E : XK) : Cx :=
  (cxOf CX0 P w K mg base N qual (defScope st) f cdv A outer s H E).nox
theorem fn_okD {x qual : Str} {st : Stmt} {f : Addr} {fd : FuncData} {N ps : List Str} {k : Nat} {R : List PyData → PyData → Prop} (F : Fun K x qual st f fd) (S : FnScope N ps (defScope st)) (len : ∀ ds r, R ds r → ds.length = ps.length)
    (body : ∀ (cdv : Value) (A : Around) (outer : List Env) (s : Shared) (H : Hp) (E : XK), Room k (A.deeper (envOfC qual (defScope st) s.heap.objs.size f cdv)) → ∀ ds r, R ds r →
      SX (defX P w K mg base N qual st f cdv A outer s H E) (defBody st) (startG N ds) [] { nx := fun _ _ => r = .none, rt := fun x _ => x = .d r }) : FnOk P w K mg base CX0 (k + 1) f fd ps (spR K R) := by
  refine F.ok S (fun vs H Q E h => ?_) fun cdv A outer s H vs Q E hr h => ?_
  · obtain ⟨ds, F, r, hR, _, hd, _⟩ := h
    rw [P2.len hd.paired]
    exact len ds r hR
  · obtain ⟨ds, Fz, r, hR, sf, hd, k⟩ := h
    refine ⟨_, PSs.x, ?_⟩
    have sh : SH K Fz H Fz [] H [] := ⟨Same.refl _, sf, Same.refl _, fun _ h h' => absurd h h', List.nodup_nil, rfl, (fun _ h => nomatch h), fun i a mc h => by simp at h⟩
    have q := body cdv A outer s H E hr ds r hR Fz H Fz [] H (L2.start N vs) sh (sv_start hd)
    refine xSs.le ?_ q
    refine ⟨fun σ' H' ⟨F', A', Γ', M', s', _, _, e⟩ => ?_, fun v H' ⟨F', A', x, M', s', rv, e⟩ => ?_, fun σ' H' ⟨F', A', Γ', M', s', _, _, e⟩ => e.elim, fun σ' H' ⟨F', A', Γ', M', s', _, _, e⟩ => e.elim⟩
    · have e : r = .none := e
      subst e
      exact k .non F' H' s'.ff s'.fh s'.hh s'.fr .non
    · have e : x = .d r := e
      subst e
      exact k v F' H' s'.ff s'.fh s'.hh s'.fr rv
theorem defR_mk {x qual : Str} {st : Stmt} {f : Addr} {fd : FuncData} {N ps : List Str} {k : Nat} {R : List PyData → PyData → Prop} (F : Fun K x qual st f fd) (hm : mg x = some (.ref f)) (hb : Binds K fd ps []) (ok : FnOk P w K mg base CX0 k f fd ps (spR K R)) : DefR P w K mg base k x R :=
  ⟨f, fd, ps, ok, hm, F.kp, hb⟩
end

/-! ### cells set -/
section
variable {X : Cx} {e a b c o ie : Expr} {es : List Expr} {rest body orelse : List Stmt} {Γ Γ' : Gam} {M M1 M2 M3 : List MC} {x y z : AV} {pos pos' p p2 : Pos} {xs ys : List AV} {i j : Int} {n : Str} {D : AD} {k : Nat}
theorem Af.cellAt {F H F' H' : Hp} {A A' : List Addr} (a : Af F A H F' A' H') {q : Addr} (h : A[k]? = some q) : A'[k]? = some q := by
  obtain ⟨B, rfl, _⟩ := a.aa
  rw [List.getElem?_append_left (List.getElem?_eq_some_iff.mp h).1]; exact h
/-- xs[i] = e -/
theorem SX.setL {l : Nat} (h : EV X e Γ M x M1) (ho : EV X o Γ M1 (.m k) M2) (hi : EV X ie Γ M2 (.d (.int j)) M3) (hk : M3[k]? = some (.lst xs)) (hj : ixN xs.length j = some l) (go : SX X rest Γ (M3.set k (.lst (xs.set l x))) D)
    (ha : ∀ v, assign (.Subscript o ie p) X.env v = (do
      let ov ← holding [v] (eval o X.env)
      let iv ← holding [v, ov] (eval ie X.env)
      standAt p
      holding [v, ov, iv] (setItem ov iv v)
      release [v, ov, iv] []) := by intro _; rfl)
    (hs : swapsWithSole [.Subscript o ie p] e pos.line X.env = pure false := by rfl) (hw : swappedStores [.Subscript o ie p] e X.env = pure none := by rfl)
    (h1 : (assignEach [.Subscript o ie p] X.env).map (·.2) = [assign (.Subscript o ie p) X.env] := by rfl) : SX X (.Assign [.Subscript o ie p] e pos :: rest) Γ M D := fun F0 H0 F A H σ sh sv =>
  xSs_cons (ps_asg PE.x (pg_sub PE.x PE.x set_list ha) hs hw h1) (h F0 H0 F A H σ _ sh sv fun v F1 A1 H1 sh1 af1 v1 => ho F0 H0 F1 A1 H1 σ _ sh1 (sv.af af1) fun u F2 A2 H2 sh2 af2 v2 =>
    hi F0 H0 F2 A2 H2 σ _ sh2 ((sv.af af1).af af2) fun w F3 A3 H3 sh3 af3 v3 => by
      obtain ⟨q, e1, rfl⟩ := v2
      have e3 := af3.cellAt e1
      obtain ⟨_, us, q1, q2⟩ := sh3.own k q _ e3 hk (by simp)
      obtain ⟨s4, a4⟩ := put_lst (ws := us.set l v) sh3 e3 hk (P2.set l q2 (af3.vr (af2.vr v1)))
      exact ⟨q, us, j, l, rfl, v3.int, q1, by rw [P2.len q2]; exact hj, go.go (((af1.ff.trans af2.ff).trans af3.ff).trans a4.ff) s4 ((((sv.af af1).af af2).af af3).af a4)⟩)
/-- o[lo:hi] = a list -/
def gSlice (to : TE) (tl th : TO) : TG := fun v σ H Q => to σ H fun x H1 => tl σ H1 fun l H2 => th σ H2 fun u H3 => ∃ (p q : Addr) (xs ys : List V) (a c : Int), x = .ref p ∧ v = .ref q ∧ l = some a ∧ u = some c ∧ H3 p = some (.lst xs) ∧ H3 q = some (.lst ys) ∧ p ≠ q ∧
  0 ≤ a ∧ a ≤ c ∧ c ≤ xs.length ∧ xs.length + ys.length ≤ sizeLine ∧ Q σ (upd H3 p (.lst (xs.take a.toNat ++ ys ++ xs.drop c.toNat)))
theorem pg_slice {lo hi : Option Expr} {to : TE} {tl th : TO} (ho : PE X o to) (hl : PO X lo tl) (hu : PO X hi th)
    (ha : ∀ v, assign (.Subscript o (.Slice lo hi none p2) p) X.env v = (do
      let ov ← holding [v] (eval o X.env)
      let iv ← holding [v, ov] (eval (.Slice lo hi none p2) X.env)
      standAt p
      holding [v, ov, iv] (setItem ov iv v)
      release [iv, v, ov] []) := by intro _; rfl) : PG X (.Subscript o (.Slice lo hi none p2) p) (gSlice to tl th) := by
  refine ⟨fun pins s σ H v u Q I r h => ?_⟩
  rw [ha]
  refine wpAny_bind (wpAny_holding (thn (ho.run pins s σ H _ I h) fun ov s1 ⟨x, H1, I1, r1, q1⟩ => ?_))
  refine wpAny_bind (wpAny_holding (wpAny_Slice (thn (hl.run pins s1 σ H1 _ I1 q1) fun vl s2 ⟨l, H2, I2, pl, q2⟩ => thn (hu.run pins s2 σ H2 _ I2 q2) fun vu s3 ⟨w, H3, I3, pu, q3⟩ => ?_)))
  rw [evalPart_none]
  refine wpAny_pure ?_
  have I4 : Inv X pins σ H3 { s3 with heap := s3.heap.push { cls := .type "slice", data := .fields #[vl, vu, .none] } } := I3.kept (t' := s3.toks) fun b ob q => Heap.get?_push_of_some _ q
  obtain ⟨pp, qq, xs, ys, ia, ic, rfl, rfl, rfl, rfl, h1, h2, h3, h4, h5, h6, h7, q4⟩ := q3
  cases r1
  cases r
  refine wpAny_bind (wpAny_standAt (wpAny_bind (wpAny_holding ?_)))
  have ra : RelV (.int ia) vl := by cases pl; exact ⟨_, rfl⟩
  have rc : RelV (.int ic) vu := by cases pu; exact ⟨_, rfl⟩
  exact set_slice I4 h1 h2 h3 (Heap.IsSliceOf.new ..) ra rc h4 h5 h6 h7 fun s5 I5 => wpAny_release ⟨σ, _, I5, q4⟩
theorem SX.setSlice {lo hi : Option Expr} {ds : List PyData} (h : EV X e Γ M (.d (.list ds)) M) (ho : EV X o Γ M (.m k) M) (hl : EO X lo Γ M (some i) M) (hh : EO X hi Γ M (some j) M) (hk : M[k]? = some (.lst xs)) (h0 : 0 ≤ i) (h1 : i ≤ j) (h2 : j ≤ xs.length) (hz : xs.length + ds.length ≤ sizeLine)
    (go : SX X rest Γ (M.set k (.lst (xs.take i.toNat ++ ds.map .d ++ xs.drop j.toNat))) D)
    (ha : ∀ v, assign (.Subscript o (.Slice lo hi none p2) p) X.env v = (do
      let ov ← holding [v] (eval o X.env)
      let iv ← holding [v, ov] (eval (.Slice lo hi none p2) X.env)
      standAt p
      holding [v, ov, iv] (setItem ov iv v)
      release [iv, v, ov] []) := by intro _; rfl)
    (hs : swapsWithSole [.Subscript o (.Slice lo hi none p2) p] e pos.line X.env = pure false := by rfl) (hw : swappedStores [.Subscript o (.Slice lo hi none p2) p] e X.env = pure none := by rfl)
    (he1 : (assignEach [.Subscript o (.Slice lo hi none p2) p] X.env).map (·.2) = [assign (.Subscript o (.Slice lo hi none p2) p) X.env] := by rfl) : SX X (.Assign [.Subscript o (.Slice lo hi none p2) p] e pos :: rest) Γ M D := fun F0 H0 F A H σ sh sv =>
  xSs_cons (ps_asg PE.x (pg_slice PE.x PO.x PO.x ha) hs hw he1) (h F0 H0 F A H σ _ sh sv fun v F1 A1 H1 sh1 af1 v1 => ho F0 H0 F1 A1 H1 σ _ sh1 (sv.af af1) fun u F2 A2 H2 sh2 af2 v2 =>
    EOt hl sh2 ((sv.af af1).af af2) fun F3 A3 H3 sh3 af3 => EOt hh sh3 (((sv.af af1).af af2).af af3) fun F4 A4 H4 sh4 af4 => by
      obtain ⟨q, e1, rfl⟩ := v2
      have e4 := af4.cellAt (af3.cellAt e1)
      obtain ⟨q0, us, q1, q2⟩ := sh4.own k q _ e4 hk (by simp)
      have v4 := (DR.mono (af2.ff.trans (af3.ff.trans af4.ff)) v1)
      cases v4 with
      | lst r1 r2 =>
        rename_i qq vs
        have hne : q ≠ qq := fun z => by subst z; rw [q0] at r1; cases r1
        have pr : Paired (VR X.K F4 A4) (us.take i.toNat ++ vs ++ us.drop j.toNat) (xs.take i.toNat ++ ds.map .d ++ xs.drop j.toNat) := P2.app (P2.app (P2.take _ q2) (d_pair r2)) (P2.drop _ q2)
        obtain ⟨s5, a5⟩ := put_lst sh4 e4 hk pr
        refine ⟨q, qq, us, vs, i, j, rfl, rfl, rfl, rfl, q1, sh4.fh _ _ r1, hne, h0, h1, by rw [P2.len q2]; exact h2, by rw [P2.len q2, P2.len r2.paired]; exact hz, ?_⟩
        exact go.go ((((af1.ff.trans af2.ff).trans af3.ff).trans af4.ff).trans a5.ff) s5 (((((sv.af af1).af af2).af af3).af af4).af a5))

/-! ### dicts that are cells -/
def kOf : PyData → Option Key
  | .int i => some (.inl i)
  | .str s => some (.inr s)
  | _ => none
theorem kOf_v {K : PySem.W.Frag} {F : Hp} {v : V} {d : PyData} {q : Key} (h : kOf d = some q) (r : DR K F v d) : v = kV q := by
  cases r <;> simp [kOf] at h <;> subst h <;> rfl
def lkA (ks : List (Key × AV)) (q : Key) : Option AV := (ks.find? fun kv => decide (kv.1 = q)).map (·.2)
def putA (ks : List (Key × AV)) (q : Key) (v : AV) : List (Key × AV) :=
  if (ks.any fun kv => decide (kv.1 = q)) = true then ks.map (fun kv => if kv.1 = q then (kv.1, v) else kv) else ks ++ [(q, v)]
section
variable {K : PySem.W.Frag} {F : Hp} {A : List Addr}
abbrev KP (K : PySem.W.Frag) (F : Hp) (A : List Addr) : List (Key × V) → List (Key × AV) → Prop := Paired fun (p : Key × V) (q : Key × AV) => p.1 = q.1 ∧ VR K F A p.2 q.2
theorem kp_any {es : List (Key × V)} {ks : List (Key × AV)} (h : KP K F A es ks) (q : Key) : (es.any fun kv => decide (kv.1 = q)) = (ks.any fun kv => decide (kv.1 = q)) := by
  induction h with
  | nil => rfl
  | cons a t ih => rw [List.any_cons, List.any_cons, ih, a.1]
theorem kp_lk {es : List (Key × V)} {ks : List (Key × AV)} (h : KP K F A es ks) (q : Key) : (lkA ks q = none ∧ valV es q = none) ∨ ∃ v z, lkA ks q = some z ∧ valV es q = some v ∧ VR K F A v z := by
  induction h with
  | nil => exact .inl ⟨rfl, rfl⟩
  | @cons p r es ks a t ih =>
    by_cases e : p.1 = q
    · refine .inr ⟨p.2, r.2, ?_, ?_, a.2⟩
      · simp [lkA, List.find?_cons, ← a.1, e]
      · simp [valV, List.find?_cons, e]
    · have e' : ¬ r.1 = q := by rw [← a.1]; exact e
      have h1 : lkA (r :: ks) q = lkA ks q := by simp [lkA, List.find?_cons, e']
      have h2 : valV (p :: es) q = valV es q := by simp [valV, List.find?_cons, e]
      rw [h1, h2]; exact ih
theorem kp_map {es : List (Key × V)} {ks : List (Key × AV)} (h : KP K F A es ks) (q : Key) {v : V} {z : AV} (r : VR K F A v z) : KP K F A (es.map (fun kv => if kv.1 = q then (kv.1, v) else kv)) (ks.map (fun kv => if kv.1 = q then (kv.1, z) else kv)) := by
  induction h with
  | nil => exact .nil
  | @cons a1 b1 l1 l2 a t ih =>
    refine .cons ?_ ih
    by_cases e : a1.1 = q
    · have e' : b1.1 = q := by rw [← a.1]; exact e
      simp only [if_pos e, if_pos e']
      exact ⟨a.1, r⟩
    · have e' : ¬ b1.1 = q := by rw [← a.1]; exact e
      simp only [if_neg e, if_neg e']
      exact a
theorem kp_put {es : List (Key × V)} {ks : List (Key × AV)} (h : KP K F A es ks) (q : Key) {v : V} {z : AV} (r : VR K F A v z) : KP K F A (putK es q v) (putA ks q z) := by
  unfold putK putA
  rw [kp_any h q]
  split
  · exact kp_map h q r
  · exact P2.app h (.cons ⟨rfl, r⟩ .nil)
end
theorem lkA_put (ks : List (Key × AV)) (q r : Key) (z : AV) : lkA (putA ks q z) r = if r = q then some z else lkA ks r := by
  unfold putA
  split
  · rename_i h
    induction ks with
    | nil => simp at h
    | cons p ks ih =>
      by_cases e : p.1 = q
      · subst e
        by_cases e2 : r = p.1
        · subst e2; simp [lkA, List.find?_cons]
        · have e3 : ¬ p.1 = r := fun z => e2 z.symm
          rw [if_neg e2]
          have h1 : lkA (p :: ks) r = lkA ks r := by simp [lkA, List.find?_cons, e3]
          rw [h1]
          simp only [List.map_cons, if_true]
          have h2 : ∀ l : List (Key × AV), lkA ((p.1, z) :: l) r = lkA l r := fun l => by simp [lkA, List.find?_cons, e3]
          rw [h2]
          clear h h1 h2 ih
          induction ks with
          | nil => rfl
          | cons t ks ih2 =>
            simp only [List.map_cons]
            by_cases e4 : t.1 = p.1
            · rw [if_pos e4]
              have e5 : ¬ t.1 = r := by rw [e4]; exact e3
              simp only [lkA, List.find?_cons, e5, decide_false] at ih2 ⊢
              exact ih2
            · rw [if_neg e4]
              by_cases e5 : t.1 = r
              · simp [lkA, List.find?_cons, e5]
              · simp only [lkA, List.find?_cons, e5, decide_false] at ih2 ⊢
                exact ih2
      · have h' : (ks.any fun kv => decide (kv.1 = q)) = true := by simpa [e] using h
        have ih := ih h'
        simp only [List.map_cons, if_neg e]
        by_cases e2 : p.1 = r
        · have e3 : ¬ r = q := by rw [← e2]; exact e
          rw [if_neg e3]
          simp [lkA, List.find?_cons, e2]
        · have h1 : ∀ l : List (Key × AV), lkA (p :: l) r = lkA l r := fun l => by simp [lkA, List.find?_cons, e2]
          rw [h1, h1]; exact ih
  · rename_i h
    by_cases e : r = q
    · subst e
      rw [if_pos rfl]
      unfold lkA
      rw [List.find?_append]
      have : ks.find? (fun kv => decide (kv.1 = r)) = none := by
        rw [List.find?_eq_none]
        intro p hp hq
        exact h (List.any_eq_true.mpr ⟨p, hp, hq⟩)
      rw [this]
      simp
    · rw [if_neg e]
      unfold lkA
      rw [List.find?_append]
      cases q2 : ks.find? (fun kv => decide (kv.1 = r)) with
      | some p => simp
      | none =>
        have e' : ¬ q = r := fun z => e z.symm
        simp [e']
variable {q : Key} {d : PyData} {ks : List (Key × AV)}
/-- d[k] = e -/
theorem SX.setD {lvl : Nat} (hr : Room lvl X.A) (h : EV X e Γ M x M1) (ho : EV X o Γ M1 (.m k) M2) (hi : EV X ie Γ M2 (.d d) M3) (hq : kOf d = some q) (hk : M3[k]? = some (.dct ks)) (hl : ks.length < sizeLine) (go : SX X rest Γ (M3.set k (.dct (putA ks q x))) D)
    (hs : swapsWith e (some (.Subscript o ie p)) pos.line X.env = pure false := by rfl) : SX X (.Assign [.Subscript o ie p] e pos :: rest) Γ M D := fun F0 H0 F A H σ sh sv =>
  xSs_cons (ps_dput (hu_of hr) PE.x PE.x PE.x hs) (h F0 H0 F A H σ _ sh sv fun v F1 A1 H1 sh1 af1 v1 => ho F0 H0 F1 A1 H1 σ _ sh1 (sv.af af1) fun u F2 A2 H2 sh2 af2 v2 =>
    hi F0 H0 F2 A2 H2 σ _ sh2 ((sv.af af1).af af2) fun w F3 A3 H3 sh3 af3 v3 => by
      obtain ⟨a, e1, rfl⟩ := v2
      have e3 := af3.cellAt e1
      obtain ⟨_, es, q1, q2⟩ := sh3.own k a _ e3 hk (by simp)
      have rx := af3.vr (af2.vr v1)
      obtain ⟨s4, a4⟩ := sh3.put (mc' := .dct (putA ks q x)) (o := .dK (putK es q v)) e3 hk (by simp) ⟨_, upd_same, kp_put q2 q rx⟩
      refine ⟨a, _, rfl, ?_, go.go (((af1.ff.trans af2.ff).trans af3.ff).trans a4.ff) s4 ((((sv.af af1).af af2).af af3).af a4)⟩
      rw [kOf_v hq v3]
      exact DPut.k q1 (by rw [P2.len q2]; exact hl))
/-- d[k] -/
theorem EV.dget {lvl : Nat} (hr : Room lvl X.A) (ho : EV X o Γ M (.m k) M1) (hi : EV X ie Γ M1 (.d d) M2) (hq : kOf d = some q) (hk : M2[k]? = some (.dct ks)) (hz : lkA ks q = some z) (hs : NoSl ie := by exact fun _ _ => rfl) : EV X (.Subscript o ie pos) Γ M z M2 :=
  EV.of (pe_dget (hu_of hr) PE.x PE.x hs) fun F0 H0 F A H σ Q sh sv kk => ho F0 H0 F A H σ _ sh sv fun u F2 A2 H2 sh2 af2 v2 => hi F0 H0 F2 A2 H2 σ _ sh2 (sv.af af2) fun w F3 A3 H3 sh3 af3 v3 => by
    obtain ⟨a, e1, rfl⟩ := v2
    have e3 := af3.cellAt e1
    obtain ⟨_, es, q1, q2⟩ := sh3.own k a _ e3 hk (by simp)
    rcases kp_lk q2 q with ⟨z1, _⟩ | ⟨v, z', z1, z2, z3⟩
    · rw [z1] at hz; cases hz
    · rw [z1] at hz; cases hz
      refine ⟨a, v, rfl, ?_, kk v F3 A3 H3 sh3 (af2.trans af3) z3⟩
      rw [kOf_v hq v3, ← z2]
      exact DGet.k q1
/-- d.get(k, x) -/
theorem EV.dget2 {lvl : Nat} {f : Expr} {apos cpos : Pos} (hr : Room lvl X.A) (ho : EV X o Γ M (.m k) M1) (hi : EV X ie Γ M1 (.d d) M2) (hf : EV X f Γ M2 x M3) (hq : kOf d = some q) (hk1 : M1[k]? = some (.dct ks)) (hk : M3[k]? = some (.dct ks))
    (m : L2.M2 X o "get" apos ie f cpos := by exact ⟨rfl, rfl, rfl, rfl⟩) : EV X (.Call (.Attribute o "get" apos) [ie, f] [] cpos) Γ M ((lkA ks q).getD x) M3 :=
  EV.of (pe_dget2 (hu_of hr) PE.x PE.x PE.x m) fun F0 H0 F A H σ Q sh sv kk => ho F0 H0 F A H σ _ sh sv fun u F2 A2 H2 sh2 af2 v2 => by
    obtain ⟨a, e1, rfl⟩ := v2
    obtain ⟨_, es0, q01, _⟩ := sh2.own k a _ e1 hk1 (by simp)
    refine ⟨a, rfl, .inl ⟨es0, .inl q01⟩, hi F0 H0 F2 A2 H2 σ _ sh2 (sv.af af2) fun w F3 A3 H3 sh3 af3 v3 => hf F0 H0 F3 A3 H3 σ _ sh3 ((sv.af af2).af af3) fun u F4 A4 H4 sh4 af4 v4 => ?_⟩
    have e4 := af4.cellAt (af3.cellAt e1)
    obtain ⟨_, es, q1, q2⟩ := sh4.own k a _ e4 hk (by simp)
    rw [kOf_v hq v3]
    refine ⟨_, DGet.k q1, ?_⟩
    rcases kp_lk q2 q with ⟨z1, z2⟩ | ⟨v, z', z1, z2, z3⟩
    · rw [z1] at kk; rw [z2]; exact kk u F4 A4 H4 sh4 ((af2.trans af3).trans af4) v4
    · rw [z1] at kk; rw [z2]; exact kk v F4 A4 H4 sh4 ((af2.trans af3).trans af4) z3

/-! ### a display of a dict -/
def ED (X : Cx) (Γ : Gam) (M : List MC) : List (Option Expr) → List Expr → List (Key × AV) → Prop
  | [], [], ks => ks = []
  | some k :: ks, v :: vs, r => ∃ d q z r', r = (q, z) :: r' ∧ EV X k Γ M (.d d) M ∧ kOf d = some q ∧ EV X v Γ M z M ∧ ED X Γ M ks vs r'
  | _, _, _ => False
theorem ED.pps : ∀ {keys : List (Option Expr)} {values : List Expr} {r : List (Key × AV)}, ED X Γ M keys values r → ∃ trs, PPs X pos keys values trs ∧
    ∀ F0 H0 F A H σ (Q : List (V × V) → Hp → Prop), SH X.K F0 H0 F A H M → SV X.K F A σ Γ → (∀ es F' A' H', SH X.K F0 H0 F' A' H' M → Af F A H F' A' H' → KP X.K F' A' es r → Q (es.map fun kv => (kV kv.1, kv.2)) H') → tPairs trs σ H Q
  | [], [], r, h => by
    have h : r = [] := h
    subst h
    exact ⟨[], pps_nil, fun F0 H0 F A H σ Q sh sv kk => kk [] F A H sh (Af.refl _ _ _) .nil⟩
  | some k :: ks, v :: vs, r, h => by
    obtain ⟨d, q, z, r', rfl, h1, h2, h3, h4⟩ := h
    obtain ⟨trs, p1, p2⟩ := ED.pps h4
    refine ⟨(xE X k, xE X v) :: trs, pps_cons PE.x PE.x p1, fun F0 H0 F A H σ Q sh sv kk => h1 F0 H0 F A H σ _ sh sv fun u F1 A1 H1 sh1 af1 v1 => h3 F0 H0 F1 A1 H1 σ _ sh1 (sv.af af1) fun w F2 A2 H2 sh2 af2 v2 =>
      p2 F0 H0 F2 A2 H2 σ _ sh2 ((sv.af af1).af af2) fun es F3 A3 H3 sh3 af3 k3 => ?_⟩
    have := kk ((q, w) :: es) F3 A3 H3 sh3 ((af1.trans af2).trans af3) (.cons ⟨rfl, af3.vr v2⟩ k3)
    rw [kOf_v h2 v1]
    exact this
  | [], _ :: _, _, h => h.elim
  | none :: _, _, _, h => by cases ‹List Expr› <;> exact h.elim
  | some _ :: _, [], _, h => h.elim
theorem kp_merge {K : PySem.W.Frag} {F : Hp} {A : List Addr} : ∀ {more : List (Key × V)} {mr : List (Key × AV)} {es : List (Key × V)} {ks : List (Key × AV)}, KP K F A more mr → KP K F A es ks → KP K F A (mergeK es more) (mr.foldl (fun acc kv => putA acc kv.1 kv.2) ks)
  | _, _, _, _, .nil, h => h
  | _, _, es, ks, .cons (a := p) (b := r) a t, h => by
    show KP K F A (mergeK (putK es p.1 p.2) _) (List.foldl _ (putA ks r.1 r.2) _)
    rw [a.1]
    exact kp_merge t (kp_put h r.1 a.2)
theorem EV.dispM {keys : List (Option Expr)} {values : List Expr} {r : List (Key × AV)} (h : ED X Γ M keys values r) (hall : keys.all (·.isSome) = true := by rfl) (hl : keys.length = values.length := by rfl) (h0 : keys ≠ [] := by exact fun z => by cases z) (h15 : keys.length ≤ 15 := by decide) :
    EV X (.Dict keys values pos) Γ M (.m M.length) (M ++ [.dct (r.foldl (fun acc kv => putA acc kv.1 kv.2) [])]) := by
  obtain ⟨trs, p1, p2⟩ := ED.pps (pos := pos) h
  have len : ∀ {keys : List (Option Expr)} {values : List Expr} {r : List (Key × AV)}, ED X Γ M keys values r → r.length = keys.length := by
    intro keys
    induction keys with
    | nil => intro values r h; cases values with | nil => have h : r = [] := h; subst h; rfl | cons _ _ => exact h.elim
    | cons k ks ih =>
      intro values r h
      cases k with
      | none => cases values <;> exact h.elim
      | some k => cases values with
        | nil => exact h.elim
        | cons v vs =>
          obtain ⟨_, _, _, r', rfl, _, _, _, h4⟩ := h
          rw [List.length_cons, List.length_cons, ih h4]
  refine EV.of (pe_disp p1 hall hl h0 h15) fun F0 H0 F A H σ Q sh sv kk p hp => ?_
  obtain ⟨s1, a1⟩ := sh.cell (o := .dK []) (mc := .dct []) hp ⟨[], upd_same, .nil⟩
  -- the new dict is a side object while its entries are evaluated
  obtain ⟨s2, a2⟩ := sh.side (o := .dK []) hp
  refine p2 F0 H0 F A _ σ _ s2 (sv.af a2) fun es F3 A3 H3 s3 a3 kp => ?_
  have hpF : F p = none := sh.below hp
  have hpA : p ∉ A := fun z => (sh.an p z).2 hp
  have h3 : H3 p = some (.dK []) := a3.hh p _ upd_same hpA
  have hF3 : F3 p = none := by
    cases z : F3 p with
    | none => rfl
    | some o =>
      have := a3.fr p hpF (by rw [z]; simp)
      rw [upd_same] at this; cases this
  have hA3 : p ∉ A3 := by
    obtain ⟨B, rfl, hB⟩ := a3.aa
    intro hm
    rcases List.mem_append.mp hm with z | z
    · exact hpA z
    · have := hB p z; rw [upd_same] at this; cases this
  have h0p : H0 p = none := Same.free sh.hh hp
  refine ⟨h3, es, rfl, by rw [P2.len kp, len h]; exact h15, ?_⟩
  have s4 := s3.aside (o := .dK (mergeK [] es)) hF3 hA3 h0p
  have kp2 : KP X.K F3 (A3 ++ [p]) (mergeK [] es) (r.foldl (fun acc kv => putA acc kv.1 kv.2) []) := kp_merge (P2.imp (fun _ _ q => ⟨q.1, VR.mono (Same.refl _) ⟨[p], rfl⟩ q.2⟩) kp) .nil
  have s5 := s4.adoptM (mc := .dct (r.foldl (fun acc kv => putA acc kv.1 kv.2) [])) (by rw [upd_same]; simp) hF3 hA3 h0p ⟨_, upd_same, kp2⟩
  have af : Af F A H F3 (A3 ++ [p]) (upd H3 p (.dK (mergeK [] es))) := by
    have a4 := a2.trans a3
    obtain ⟨B, rfl, hB⟩ := a3.aa
    refine ⟨a4.ff, ⟨B ++ [p], by simp, fun b hb => ?_⟩, fun b u q hb => ?_, fun b q => ?_, a4.fr⟩
    · rcases List.mem_append.mp hb with z | z
      · have := hB b z
        by_cases e : b = p
        · subst e; exact hp
        · rw [upd_ne e] at this; exact this
      · rw [List.mem_singleton.mp z]; exact hp
    · rw [upd_ne (ne_of_none q hp)]; exact a4.hh b u q hb
    · by_cases e : b = p
      · subst e; rw [upd_same]; simp
      · rw [upd_ne e]; exact a4.th b q
  exact kk (.ref p) F3 (A3 ++ [p]) _ s5 af ⟨p, by rw [← sh.al]; have : A3.length = A.length := by rw [s3.al, sh.al]
                                                  rw [← this]; simp, rfl⟩
end
end DV

set_option Elab.async false
set_option maxRecDepth 100000
set_option maxHeartbeats 4000000
set_option linter.all false
namespace DV
open PySem PySem.Spec L2
open PyProof.Rows (envOfC)

/-! ### truth -/
def truA (M : List MC) : AV → Option Bool
  | .d .none => some false
  | .d (.bool b) => some b
  | .d (.int i) => some (i != 0)
  | .d (.list ds) => some (!ds.isEmpty)
  | .d (.tuple ds) => some (!ds.isEmpty)
  | .m k => match M[k]? with
    | some (.lst xs) => some (!xs.isEmpty)
    | _ => none
  | _ => none
theorem P2.isEmpty {α β : Type} {G : α → β → Prop} {l : List α} {m : List β} (h : Paired G l m) : l.isEmpty = m.isEmpty := by cases h <;> rfl
section
variable {X : Cx} {e a b c f o ie : Expr} {es : List Expr} {rest body orelse : List Stmt} {Γ Γ' : Gam} {M M1 M2 M3 : List MC} {x y z : AV} {pos pos' p p2 apos cpos np : Pos} {xs ys : List AV} {i j : Int} {n : Str} {D : AD} {k : Nat}
theorem tru_of {F0 H0 F H : Hp} {A : List Addr} {v : V} {q : Bool} (sh : SH X.K F0 H0 F A H M) (r : VR X.K F A v x) (h : truA M x = some q) : TruV X.K v H q := by
  cases x with
  | m k =>
    obtain ⟨a, e1, rfl⟩ := r
    simp only [truA] at h
    split at h
    · rename_i xs hk
      cases h
      obtain ⟨_, vs, q1, q2⟩ := sh.own k a _ e1 hk (by simp)
      exact .inl ⟨vs, SqL.of q1, by rw [P2.isEmpty q2]⟩
    · cases h
  | d d =>
    cases r with
    | non => cases h; rfl
    | bl b => cases h; rfl
    | int i => cases h; rfl
    | str y => cases h
    | lst h1 h2 => cases h; exact .inl ⟨_, SqL.of (sh.fh _ _ h1), by rw [P2.isEmpty h2.paired]⟩
    | tup h1 h2 => cases h; exact .inr (.inl ⟨_, sqT_mono sh.fh h1, by rw [P2.isEmpty h2.paired]⟩)
    | dct h1 h2 => cases h
theorem ET.tru {q : Bool} (h : EV X e Γ M x M1) (ht : truA M1 x = some q) (he : ∀ whole, isTrue e X.env whole = (do let v ← whole; standAt e.pos; holding [v] (truthy v)) := by intro _; rfl) : ET X e Γ M q M1 :=
  ET.of (pt_truth PE.x he) fun F0 H0 F A H σ Q sh sv kk => h F0 H0 F A H σ _ sh sv fun v F1 A1 H1 sh1 af1 v1 => ⟨q, tru_of sh1 v1 ht, kk F1 A1 H1 sh1 af1⟩
theorem ET.truS {q : Str} (h : EV X e Γ M (.d (.str q)) M1) (hl : q.length ≤ sizeLine) (he : ∀ whole, isTrue e X.env whole = (do let v ← whole; standAt e.pos; holding [v] (truthy v)) := by intro _; rfl) : ET X e Γ M ((q.length : Int) != 0) M1 :=
  ET.of (pt_truth PE.x he) fun F0 H0 F A H σ Q sh sv kk => h F0 H0 F A H σ _ sh sv fun v F1 A1 H1 sh1 af1 v1 => ⟨_, by rw [v1.str]; exact ⟨hl, rfl⟩, kk F1 A1 H1 sh1 af1⟩

/-! ### a written dict of the module: g.get(k, x) -/
structure KTab (K : PySem.W.Frag) (w : World) (p : Addr) (g : Str → Option PyData) : Prop where
  ex : ∃ es n, K.lookup p = some ⟨.type "dict", none, .dict es n, #[]⟩ ∧ PySem.W.KeysLit w.params es.toList ∧ (p == sysModules) = false ∧
    ∀ z, (∃ d v u, g z = some d ∧ PySem.W.nsIn K p z = some (some u) ∧ RelV v u ∧ sD d = some v) ∨ (g z = none ∧ PySem.W.nsIn K p z = some none)
def tKGet (K : PySem.W.Frag) (w : World) (td ty tx : TE) : TE := fun σ H Q => td σ H fun x H1 => ∃ p g, x = .ref p ∧ KTab K w p g ∧
  ty σ H1 fun y H2 => tx σ H2 fun z H3 => ∃ q, y = .str q ∧ (∀ d, g q = some d → ∀ v, sD d = some v → Q v H3) ∧ (g q = none → Q z H3)
theorem pe_kget2 {td ty tx : TE} (ho : PE X o td) (he : PE X e ty) (hf : PE X f tx) (m : L2.M2 X o "get" apos e f cpos) : PE X (.Call (.Attribute o "get" apos) [e, f] [] cpos) (tKGet X.K X.w td ty tx) := by
  refine ⟨fun pins s σ H Q I h => ?_⟩
  refine wpAny_Call_method m.base m.few m.line PySem.F.plainAttrs_dict PySem.F.slot_dict_get PySem.F.type_dict_get (thn (ho.run pins s σ H _ I h) fun u s1 ⟨x, H1, I1, rx, a, g, ex, ⟨es, n, hl, hk, low, hr⟩, q1⟩ => ?_)
  subst ex
  obtain rfl : u = Value.ref a := rx
  have hm1 := PySem.W.mapOf_K (prog := X.prog) (w := X.w) I1.kIn hl hk
  refine ⟨hm1.typeIs, fun b q => ?_, ?_⟩
  · cases q
    exact ⟨_, I1.kIn _ _ hl, rfl⟩
  rw [m.trees]
  refine Calls.callWith_builtin rfl (Calls.evalArgs_plain (Calls.spliced_cons (thn (he.run pins s1 σ H1 _ I1 q1) fun iv s2 ⟨y, H2, I2, ry, q2⟩ =>
    Calls.spliced_cons (thn (hf.run pins s2 σ H2 _ I2 q2) fun fv s3 ⟨z, H3, I3, rz, q, ey, c1, c2⟩ => Calls.spliced_nil ?_))))
  subst ey
  obtain ⟨t, rfl⟩ := (show ∃ t, iv = Value.str q t from ry)
  have hm := PySem.W.mapOf_K (prog := X.prog) (w := X.w) I3.kIn hl hk
  refine call_meetsIn PySem.F.slot_dict_get hm.typeIs PySem.F.entry_dict_get (PySem.F.args_dict_get_3 _ _ _) (meets_dict_get_default (strKind X.prog X.w) a (strKind_is X.prog X.w q t) low fv) ⟨_, hm, ?_⟩
  rcases hr q with ⟨d, v, u, g1, g2, g3, g4⟩ | ⟨g1, g2⟩
  · rw [PySem.W.find_K hl g2]
    exact ⟨v, H3, I3.tok _, g3, c1 d g1 v g4⟩
  · rw [PySem.W.find_K hl g2]
    exact ⟨z, H3, I3.tok _, rz, c2 g1⟩
theorem EV.kget {q n : Str} {g : Str → Option PyData} {a : Addr} {d : PyData} (hm : X.mg n = some (.ref a)) (T : KTab X.K X.w a g) (hi : EV X ie Γ M (.d (.str q)) M1) (hf : EV X f Γ M1 (.d d) M2)
    (hg : Gl X n := by rfl) (hd : (n == ("__debug__" : Str)) = false := by decide) (m : L2.M2 X (.Name n np) "get" apos ie f cpos := by exact ⟨rfl, rfl, rfl, rfl⟩) : EV X (.Call (.Attribute (.Name n np) "get" apos) [ie, f] [] cpos) Γ M (.d ((g q).getD d)) M2 :=
  EV.of (pe_kget2 (pe_glob hg hm (v := .ref a) rfl hd) PE.x PE.x m) fun F0 H0 F A H σ Q sh sv kk => ⟨a, g, rfl, T, hi F0 H0 F A H σ _ sh sv fun v F1 A1 H1 sh1 af1 v1 =>
    hf F0 H0 F1 A1 H1 σ _ sh1 (sv.af af1) fun w F2 A2 H2 sh2 af2 v2 => ⟨q, v1.str, fun d' h1 v' h2 => by
      rw [h1] at kk
      exact kk _ F2 A2 H2 sh2 (af1.trans af2) (DR.sc' h2), fun h1 => by
      rw [h1] at kk
      exact kk _ F2 A2 H2 sh2 (af1.trans af2) v2⟩⟩

/-! ### join, index -/
theorem EV.join {q : Str} {zs : List Str} (ho : EV X o Γ M (.d (.str q)) M1) (he : EV X e Γ M1 x M2) (hx : lstOf M2 x = some (zs.map fun y => .d (.str y))) (hl : (zs.map (·.length)).sum + zs.length * q.length ≤ 16777216)
    (hs : starEach [e] X.env = [(false, eval e X.env)] := by rfl) (hbase : attributeBase o "join" X.env (eval o X.env) = eval o X.env := by rfl) (hline : (apos.endLine == pos.line) = true := by rfl) :
    EV X (.Call (.Attribute o "join" apos) [e] [] pos) Γ M (.d (.str (Txt.join q zs))) M2 :=
  EV.of (pe_join PE.x PE.x hs hbase hline) fun F0 H0 F A H σ Q sh sv kk => ho F0 H0 F A H σ _ sh sv fun v F1 A1 H1 sh1 af1 v1 => ⟨⟨q, v1.str⟩, he F0 H0 F1 A1 H1 σ _ sh1 (sv.af af1) fun w F2 A2 H2 sh2 af2 v2 => by
    obtain ⟨l, vs, rfl, h1, h2⟩ := lst_at sh2 v2 hx
    exact ⟨q, l, zs, v1.str, rfl, .inl (SqL.of (by rw [h1, strs_at h2])), hl, kk _ F2 A2 H2 sh2 (af1.trans af2) (DR.str _)⟩⟩
theorem EV.indexI {ns : List Int} {l : Nat} (ho : EV X o Γ M x M1) (he : EV X e Γ M1 (.d (.int i)) M2) (hx1 : lstOf M1 x = some (ns.map fun y => .d (.int y))) (hx : lstOf M2 x = some (ns.map fun y => .d (.int y))) (hz : ns[l]? = some i) (hno : ∀ m z, m < l → ns[m]? = some z → z ≠ i)
    (hs : starEach [e] X.env = (false, eval e X.env) :: starEach [] X.env := by rfl) (hbase : attributeBase o "index" X.env (eval o X.env) = eval o X.env := by rfl) (hline : (apos.endLine == cpos.line) = true := by rfl)
    (hfew : ((backTo cpos (starEach [e] X.env)).all (fun x => !x.1) && (backToKw cpos (keywordEach [] X.env)).all (fun x => x.1.isSome)
      && decide (([e] : List Expr).length + ([] : List Keyword).length + (if ([] : List Keyword).isEmpty then 0 else 1) < 30)) = true := by rfl) (hplain : (backTo cpos (starEach [] X.env)).any (·.1) = false := by rfl) :
    EV X (.Call (.Attribute o "index" apos) [e] [] cpos) Γ M (.d (.int (l : Nat))) M2 :=
  EV.of (pe_bm PySem.F.plainAttrs_list PySem.F.slot_list_index PySem.F.type_list_index mt_index PE.x PA.x hbase hfew hline hs hplain) fun F0 H0 F A H σ Q sh sv kk => ho F0 H0 F A H σ _ sh sv fun v F1 A1 H1 sh1 af1 v1 => by
    obtain ⟨l1, vs1, rfl, g1, g2⟩ := lst_at sh1 v1 hx1
    refine ⟨.inl ⟨rfl, vs1, SqL.of g1⟩, EA.one he hs F0 H0 F1 A1 H1 σ _ sh1 (sv.af af1) fun ws F2 A2 H2 sh2 af2 v2 => ?_⟩
    obtain ⟨w, rfl, hw⟩ := pair1 v2
    obtain ⟨l2, vs, e2, h1, h2⟩ := lst_at sh2 (af2.vr v1) hx
    cases e2
    rw [ints_at h2] at h1
    refine ⟨l1, _, .int i, l, .int i, rfl, by rw [hw.int], SqL.of h1, rfl, ?_, by rw [List.getElem?_map, hz]; rfl, by simp [eqV], fun m z' hm hz' => ?_, kk _ F2 A2 H2 sh2 (af1.trans af2) (DR.int _)⟩
    · rw [List.all_eq_true]
      intro v hv
      obtain ⟨n, _, rfl⟩ := List.mem_map.mp hv
      rfl
    · rw [List.getElem?_map] at hz'
      obtain ⟨n, q1, rfl⟩ := Option.map_eq_some_iff.mp hz'
      have := hno m n hm q1
      simpa [eqV] using this
end

/-! ### cells in cells: frozen at the end -/
mutual
inductive Frz (M : List MC) : AV → PyData → Prop
  | d (x : PyData) : Frz M (.d x) x
  | lst {k : Nat} {xs : List AV} {ds : List PyData} : M[k]? = some (.lst xs) → FrzL M xs ds → Frz M (.m k) (.list ds)
inductive FrzL (M : List MC) : List AV → List PyData → Prop
  | nil : FrzL M [] []
  | cons {x : AV} {xs : List AV} {d : PyData} {ds : List PyData} : Frz M x d → FrzL M xs ds → FrzL M (x :: xs) (d :: ds)
end
/-- all that is frozen, and the cells -/
def allF (F H : Hp) (A : List Addr) : Hp := fun a => match F a with
  | some o => some o
  | none => if a ∈ A then H a else none
section
variable {K : PySem.W.Frag} {F0 H0 F H : Hp} {A : List Addr} {M : List MC}
theorem SH.freezeAll (s : SH K F0 H0 F A H M) : SH K F0 H0 (allF F H A) A H (M.map fun _ => .dead) ∧ Same F (allF F H A) := by
  have e : Same F (allF F H A) := fun a o h => by unfold allF; rw [h]
  refine ⟨⟨s.ff.trans e, fun a o h => ?_, s.hh, fun a h h' => ?_, s.nd, by rw [List.length_map]; exact s.al, s.an, fun k a mc h1 h2 h3 => ?_⟩, e⟩
  · unfold allF at h
    split at h
    · rename_i o' q; cases h; exact s.fh a _ q
    · split at h
      · exact h
      · cases h
  · unfold allF at h'
    split at h'
    · rename_i o' q; exact s.fr a h (by rw [q]; simp)
    · split at h'
      · rename_i hm; exact (s.an a hm).1
      · exact absurd rfl h'
  · rw [List.getElem?_map] at h2
    obtain ⟨_, _, rfl⟩ := Option.map_eq_some_iff.mp h2
    exact absurd rfl h3
theorem SH.cellAll (s : SH K F0 H0 F A H M) {k : Nat} {a : Addr} {xs : List AV} (h1 : A[k]? = some a) (h2 : M[k]? = some (.lst xs)) : ∃ vs, allF F H A a = some (.lst vs) ∧ Paired (VR K F A) vs xs := by
  obtain ⟨q1, vs, q2, q3⟩ := s.own k a _ h1 h2 (by simp)
  refine ⟨vs, ?_, q3⟩
  unfold allF
  rw [q1]
  simp only [if_pos (List.mem_of_getElem? h1)]
  exact q2
theorem SH.frz (s : SH K F0 H0 F A H M) {x : AV} {d : PyData} (h : Frz M x d) : ∀ {v : V}, VR K F A v x → DR K (allF F H A) v d :=
  Frz.rec (motive_1 := fun x d _ => ∀ {v : V}, VR K F A v x → DR K (allF F H A) v d) (motive_2 := fun xs ds _ => ∀ {vs : List V}, Paired (VR K F A) vs xs → DRs K (allF F H A) vs ds)
    (fun x v r => DR.mono s.freezeAll.2 r)
    (fun hk _ ih v r => by
      obtain ⟨a, h1, rfl⟩ := r
      obtain ⟨vs, h2, h3⟩ := s.cellAll h1 hk
      exact .lst h2 (ih h3))
    (fun h => by cases h; exact .nil)
    (fun _ _ i1 i2 vs h => by cases h with | cons a t => exact .cons (i1 a) (i2 t)) h
end
theorem FrzL.of {M : List MC} : ∀ (ds : List PyData), FrzL M (ds.map .d) ds
  | [] => .nil
  | d :: ds => .cons (.d d) (FrzL.of ds)
theorem SX.retF {X : Cx} {e : Expr} {rest : List Stmt} {Γ : Gam} {M M1 : List MC} {x : AV} {d : PyData} {pos : Pos} {D : AD} (h : EV X e Γ M x M1) (hf : Frz M1 x d) (q : D.rt (.d d) (M1.map fun _ => .dead)) : SX X (.Return (some e) pos :: rest) Γ M D := fun F0 H0 F A H σ sh sv =>
  xSs_cons (ps_ret PE.x) (h F0 H0 F A H σ _ sh sv fun v F1 A1 H1 sh1 af1 v1 => ⟨_, A1, .d d, _, sh1.freezeAll.1, sh1.frz hf v1, q⟩)
end DV

namespace K32
/-! ### orders by turning rows -/
def goR (p : Int → Bool) : List Int → List Int → List Int
  | acc, [] => acc
  | acc, x :: xs => if p x = true then goR p (x :: acc) xs else acc ++ x :: goR p [] xs
def pass (p : Int → Bool) (s : List Int) : List Int := goR p [] s
theorem goR_all {p : Int → Bool} : ∀ {a : List Int} (acc b : List Int), (∀ x ∈ a, p x = true) → goR p acc (a ++ b) = goR p (a.reverse ++ acc) b
  | [], acc, b, _ => by simp
  | x :: a, acc, b, h => by
    rw [List.cons_append, goR, if_pos (h x (by simp)), goR_all (x :: acc) b (fun y hy => h y (by simp [hy]))]
    simp
theorem pass_all {p : Int → Bool} {a : List Int} (h : ∀ x ∈ a, p x = true) : pass p a = a.reverse := by
  have := goR_all (p := p) [] [] h
  simp only [List.append_nil] at this
  exact this
theorem goR_cut {p : Int → Bool} {x : Int} (hx : p x = false) : ∀ (a acc b : List Int), goR p acc (a ++ x :: b) = goR p acc a ++ x :: pass p b
  | [], acc, b => by
    show (if p x = true then _ else _) = _
    rw [if_neg (by rw [hx]; simp)]
    rfl
  | y :: a, acc, b => by
    rw [List.cons_append, goR, goR]
    split
    · exact goR_cut hx a _ b
    · rw [goR_cut hx a [] b, List.append_assoc]; rfl
theorem pass_cut {p : Int → Bool} {x : Int} (hx : p x = false) (a b : List Int) : pass p (a ++ x :: b) = pass p a ++ x :: pass p b := goR_cut hx a [] b
theorem pass_none {p : Int → Bool} : ∀ {a : List Int}, (∀ x ∈ a, p x = false) → pass p a = a
  | [], _ => rfl
  | x :: a, h => by
    have := pass_cut (p := p) (h x (by simp)) [] a
    rw [List.nil_append] at this
    rw [this, pass_none (a := a) fun y hy => h y (by simp [hy])]
    rfl
theorem goR_perm (p : Int → Bool) : ∀ (s acc : List Int), (goR p acc s).Perm (acc ++ s)
  | [], acc => by rw [goR, List.append_nil]
  | x :: xs, acc => by
    rw [goR]
    split
    · refine (goR_perm p xs (x :: acc)).trans ?_
      exact List.perm_middle.symm
    · exact List.Perm.append_left acc ((goR_perm p xs []).cons x)
theorem pass_perm (p : Int → Bool) (s : List Int) : (pass p s).Perm s := goR_perm p s []
theorem pass_run {p : Int → Bool} {a b : List Int} (h : ∀ x ∈ a, p x = true) (hb : ∀ y r, b = y :: r → p y = false) : pass p (a ++ b) = a.reverse ++ pass p b := by
  unfold pass
  rw [goR_all [] b h, List.append_nil]
  cases b with
  | nil => simp [goR]
  | cons y r =>
    have hy := hb y r rfl
    rw [goR, if_neg (by rw [hy]; simp), goR, if_neg (by rw [hy]; simp)]
    rfl

/-! ### all passes, from a level down to another -/
/-- passes at the levels L + k, .., L + 1 -/
def passes (lv : Int → Int) (L : Int) : Nat → List Int → List Int
  | 0, s => s
  | k + 1, s => pass (fun i => decide (L + 1 ≤ lv i)) (passes lv (L + 1) k s)
theorem passes_perm (lv : Int → Int) : ∀ (k : Nat) (L : Int) (s : List Int), (passes lv L k s).Perm s
  | 0, _, _ => .refl _
  | k + 1, L, s => (pass_perm _ _).trans (passes_perm lv k (L + 1) s)
theorem passes_cut {lv : Int → Int} {x : Int} : ∀ (k : Nat) (L : Int) (a b : List Int), lv x ≤ L → passes lv L k (a ++ x :: b) = passes lv L k a ++ x :: passes lv L k b
  | 0, _, _, _, _ => rfl
  | k + 1, L, a, b, h => by
    rw [passes, passes_cut k (L + 1) a b (by omega), pass_cut (by simp; omega)]
    rfl
theorem passes_all {lv : Int → Int} {k : Nat} {L : Int} {s : List Int} (h : ∀ x ∈ s, L + 1 ≤ lv x) : passes lv L (k + 1) s = (passes lv (L + 1) k s).reverse := by
  rw [passes, pass_all]
  intro x hx
  exact decide_eq_true (h x ((passes_perm lv k (L + 1) s).mem_iff.mp hx))

/-- the least level from a to b -/
def Least (lv : Int → Int) (a b m : Int) : Prop := (∃ c, a ≤ c ∧ c ≤ b ∧ lv c = m) ∧ ∀ c, a ≤ c → c ≤ b → m ≤ lv c
theorem Least.uniq {lv : Int → Int} {a b m n : Int} (h : Least lv a b m) (g : Least lv a b n) : m = n := by
  obtain ⟨⟨c, h1, h2, h3⟩, h4⟩ := h
  obtain ⟨⟨d, g1, g2, g3⟩, g4⟩ := g
  have := h4 d g1 g2
  have := g4 c h1 h2
  omega
/-- i stands ahead of j, by what is over L -/
def Bef (lv : Int → Int) (L : Int) (i j : Int) : Prop :=
  (i < j ∧ ∀ m, Least lv i j m → m ≤ L ∨ (m - L) % 2 = 0) ∨ (j < i ∧ ∀ m, Least lv j i m → L < m ∧ (m - L) % 2 = 1)
/-- lo, lo + 1, .. -/
def seg (lo : Int) : Nat → List Int
  | 0 => []
  | n + 1 => lo :: seg (lo + 1) n
theorem mem_seg : ∀ {n : Nat} {lo x : Int}, x ∈ seg lo n ↔ lo ≤ x ∧ x < lo + n
  | 0, lo, x => by simp [seg]
  | n + 1, lo, x => by
    rw [seg, List.mem_cons, mem_seg]
    omega
theorem seg_app : ∀ (m n : Nat) (lo : Int), seg lo (m + n) = seg lo m ++ seg (lo + m) n
  | 0, n, lo => by simp [seg]
  | m + 1, n, lo => by
    have e : m + 1 + n = (m + n) + 1 := by omega
    rw [e, seg, seg_app m n (lo + 1), seg, List.cons_append]
    congr 2
    congr 1
    omega
theorem passes_bef {lv : Int → Int} {top : Int} (ht : ∀ i, lv i ≤ top) : ∀ (N : Nat) (n : Nat) (L : Int) (k : Nat) (lo : Int), n + k ≤ N → top ≤ L + k → (passes lv L k (seg lo n)).Pairwise (Bef lv L) := by
  intro N
  induction N with
  | zero =>
    intro n L k lo hN _
    have hn : n = 0 := by omega
    have hk : k = 0 := by omega
    subst hn hk
    exact List.Pairwise.nil
  | succ N ih =>
    intro n L k lo hN hk
    by_cases hex : ∃ x, lo ≤ x ∧ x < lo + n ∧ lv x ≤ L
    · obtain ⟨x, h1, h2, h3⟩ := hex
      obtain ⟨a, ha⟩ := Int.eq_ofNat_of_zero_le (show 0 ≤ x - lo by omega)
      have e : seg lo n = seg lo a ++ x :: seg (x + 1) (n - a - 1) := by
        have e1 : n = a + (n - a - 1 + 1) := by omega
        have e2 : seg lo n = seg lo (a + (n - a - 1 + 1)) := congrArg (seg lo) e1
        rw [e2, seg_app, seg]
        have e3 : lo + (a : Int) = x := by omega
        rw [e3]
      rw [e, passes_cut k L _ _ h3]
      have iha := ih a L k lo (by omega) hk
      have ihb := ih (n - a - 1) L k (x + 1) (by omega) hk
      rw [List.pairwise_append]
      have ma : ∀ i ∈ passes lv L k (seg lo a), lo ≤ i ∧ i < x := fun i hi => by
        have := mem_seg.mp ((passes_perm lv k L _).mem_iff.mp hi)
        omega
      have mb : ∀ i ∈ passes lv L k (seg (x + 1) (n - a - 1)), x + 1 ≤ i := fun i hi => (mem_seg.mp ((passes_perm lv k L _).mem_iff.mp hi)).1
      refine ⟨iha, List.pairwise_cons.mpr ⟨fun j hj => ?_, ihb⟩, fun i hi j hj => ?_⟩
      · refine .inl ⟨by have := mb j hj; omega, fun m hm => .inl ?_⟩
        have := hm.2 x (by omega) (by have := mb j hj; omega)
        omega
      · have hi' := ma i hi
        rcases List.mem_cons.mp hj with q | q
        · subst q
          refine .inl ⟨by omega, fun m hm => .inl ?_⟩
          have := hm.2 j (by omega) (by omega)
          omega
        · have hj' := mb j q
          refine .inl ⟨by omega, fun m hm => .inl ?_⟩
          have := hm.2 x (by omega) (by omega)
          omega
    · have hall : ∀ x ∈ seg lo n, L + 1 ≤ lv x := fun x hx => by
        obtain ⟨h1, h2⟩ := mem_seg.mp hx
        by_cases q : lv x ≤ L
        · exact absurd ⟨x, h1, h2, q⟩ hex
        · omega
      cases k with
      | zero =>
        cases n with
        | zero => exact List.Pairwise.nil
        | succ n =>
          have := hall lo (mem_seg.mpr (by omega))
          have := ht lo
          omega
      | succ k =>
        rw [passes_all hall, List.pairwise_reverse]
        have h := ih n (L + 1) k lo (by omega) (by omega)
        refine h.imp_of_mem fun {i j} hi hj q => ?_
        have hi' := mem_seg.mp ((passes_perm lv k (L + 1) _).mem_iff.mp hi)
        have hj' := mem_seg.mp ((passes_perm lv k (L + 1) _).mem_iff.mp hj)
        have big : ∀ {a b m : Int}, lo ≤ a → b < lo + n → Least lv a b m → L + 1 ≤ m := fun {a b m} ha hb hm => by
          obtain ⟨⟨c, h1, h2, h3⟩, _⟩ := hm
          have := hall c (mem_seg.mpr (by omega))
          omega
        rcases q with ⟨q1, q2⟩ | ⟨q1, q2⟩
        · refine .inr ⟨q1, fun m hm => ?_⟩
          have hb := big hi'.1 hj'.2 hm
          rcases q2 m hm with z | z <;> omega
        · refine .inl ⟨q1, fun m hm => .inr ?_⟩
          have hb := big hj'.1 hi'.2 hm
          have := q2 m hm
          omega
end K32

set_option Elab.async false
set_option maxHeartbeats 4000000
set_option linter.all false
namespace K32
open DV L2
def lvf (lv : List Int) (i : Int) : Int := lv.getD i.toNat 0
theorem rg_seg (n : Nat) : rg n = seg 0 n := by
  have h : ∀ (n lo : Nat), (List.range n).map (fun (k : Nat) => (lo : Int) + (k : Int)) = seg lo n := by
    intro n
    induction n with
    | zero => intro lo; rfl
    | succ n ih =>
      intro lo
      rw [List.range_succ_eq_map, List.map_cons, List.map_map, seg]
      have e1 : (lo : Int) + ((0 : Nat) : Int) = (lo : Int) := by omega
      rw [e1]
      refine congrArg _ ?_
      rw [show ((lo : Int) + 1) = ((lo + 1 : Nat) : Int) by omega, ← ih (lo + 1)]
      refine List.map_congr_left fun k _ => ?_
      show (lo : Int) + ((k + 1 : Nat) : Int) = ((lo + 1 : Nat) : Int) + (k : Int)
      omega
  have := h n 0
  rw [rg, ← show ((0 : Nat) : Int) = 0 from rfl, ← this]
  refine List.map_congr_left fun k _ => ?_
  omega
theorem mem_rg {n : Nat} {x : Int} : x ∈ rg n ↔ 0 ≤ x ∧ x < n := by rw [rg_seg, mem_seg]; omega
theorem nodup_seg : ∀ (n : Nat) (lo : Int), (seg lo n).Nodup
  | 0, _ => List.nodup_nil
  | n + 1, lo => List.nodup_cons.mpr ⟨fun h => by have := (mem_seg.mp h).1; omega, nodup_seg n (lo + 1)⟩
def orderOf (lv : List Int) : List Int := passes (lvf lv) 0 (lmax (lv ++ [0])).toNat (rg lv.length)
theorem order_perm (lv : List Int) : (orderOf lv).Perm (rg lv.length) := passes_perm _ _ _ _
theorem order_len (lv : List Int) : (orderOf lv).length = lv.length := by rw [(order_perm lv).length_eq, rg_len]
theorem order_mem {lv : List Int} {x : Int} : x ∈ orderOf lv ↔ 0 ≤ x ∧ x < lv.length := by rw [(order_perm lv).mem_iff, mem_rg]
theorem order_nodup (lv : List Int) : (orderOf lv).Nodup := (order_perm lv).nodup_iff.mpr (by rw [rg_seg]; exact nodup_seg _ _)
theorem order_bef (lv : List Int) : (orderOf lv).Pairwise (Bef (lvf lv) 0) := by
  unfold orderOf
  rw [rg_seg]
  have h0 : 0 ≤ lmax (lv ++ [0]) := le_lmax (by simp)
  refine passes_bef (top := lmax (lv ++ [0])) (fun i => ?_) _ _ _ _ _ (Nat.le_refl _) (by omega)
  unfold lvf
  rw [List.getD_eq_getElem?_getD]
  cases h : lv[i.toNat]? with
  | none => exact h0
  | some v => exact le_lmax (List.mem_append_left _ (List.mem_of_getElem? h))

/-- the law's own test -/
def lawB (lv : List Int) (j k : Int) : Bool :=
  decide (j ≠ k) && (decide (j < k) == decide (lmin (cutG lv (some (if k < j then k else j)) (some ((if k > j then k else j) + 1))) % 2 = 0))
theorem cut_nat (lv : List Int) (a b : Nat) (hb : b ≤ lv.length) : cutG lv (some (a : Int)) (some (b : Int)) = (lv.drop a).take (b - a) := by
  unfold cutG
  rw [HT.sIx_nat, HT.sIx_nat]
  by_cases h : a ≤ lv.length
  · rw [Nat.min_eq_left h, Nat.min_eq_left hb]
  · have h1 : lv.drop (min a lv.length) = [] := List.drop_eq_nil_of_le (by omega)
    have h2 : lv.drop a = [] := List.drop_eq_nil_of_le (by omega)
    rw [h1, h2]
    simp
theorem cut_least (lv : List Int) {a b : Int} (h0 : 0 ≤ a) (h1 : a ≤ b) (h2 : b < lv.length) : Least (lvf lv) a b (lmin (cutG lv (some a) (some (b + 1)))) := by
  obtain ⟨i, rfl⟩ := Int.eq_ofNat_of_zero_le h0
  obtain ⟨j, rfl⟩ := Int.eq_ofNat_of_zero_le (Int.le_trans h0 h1)
  have hb : j + 1 ≤ lv.length := by omega
  have e : cutG lv (some (i : Int)) (some ((j : Int) + 1)) = (lv.drop i).take (j + 1 - i) := cut_nat lv i (j + 1) hb
  have at_ : ∀ c : Nat, c < j + 1 - i → ((lv.drop i).take (j + 1 - i))[c]? = some (lvf lv ((i + c : Nat) : Int)) := fun c hc => by
    have hl : i + c < lv.length := by omega
    rw [List.getElem?_take, if_pos hc, List.getElem?_drop, List.getElem?_eq_getElem hl]
    unfold lvf
    rw [List.getD_eq_getElem?_getD, Int.toNat_natCast, List.getElem?_eq_getElem hl]
    rfl
  have hne : (lv.drop i).take (j + 1 - i) ≠ [] := fun z => by
    have := at_ 0 (by omega)
    rw [z] at this
    simp at this
  rw [e]
  refine ⟨?_, fun c hc1 hc2 => ?_⟩
  · obtain ⟨c, hc⟩ := List.getElem?_of_mem (lmin_mem hne)
    have hlt : c < j + 1 - i := by
      have := (List.getElem?_eq_some_iff.mp hc).1
      rw [List.length_take] at this
      omega
    rw [at_ c hlt] at hc
    exact ⟨((i + c : Nat) : Int), by omega, by omega, Option.some.inj hc⟩
  · obtain ⟨d, rfl⟩ := Int.eq_ofNat_of_zero_le (Int.le_trans h0 hc1)
    have := at_ (d - i) (by omega)
    rw [show i + (d - i) = d by omega] at this
    exact lmin_le (List.mem_of_getElem? this)
theorem lawB_bef {lv : List Int} (hlv : ∀ x ∈ lv, 0 ≤ x) {j k : Int} (hj : 0 ≤ j ∧ j < lv.length) (hk : 0 ≤ k ∧ k < lv.length) (hne : j ≠ k) : lawB lv j k = true ↔ Bef (lvf lv) 0 j k := by
  have nn : ∀ a b m, Least (lvf lv) a b m → 0 ≤ m := fun a b m ⟨⟨c, _, _, h3⟩, _⟩ => by
    rw [← h3]
    unfold lvf
    rw [List.getD_eq_getElem?_getD]
    cases h : lv[c.toNat]? with
    | none => exact Int.le_refl _
    | some v => exact hlv v (List.mem_of_getElem? h)
  unfold lawB
  rcases Int.lt_or_gt_of_ne hne with h | h
  · have e1 : (if k < j then k else j) = j := if_neg (by omega)
    have e2 : (if k > j then k else j) = k := if_pos h
    rw [e1, e2, decide_eq_true hne, decide_eq_true h, Bool.true_and]
    have hm := cut_least lv hj.1 (Int.le_of_lt h) hk.2
    have h0 := nn _ _ _ hm
    simp only [beq_iff_eq, Bool.true_eq, decide_eq_true_eq]
    constructor
    · intro q
      exact .inl ⟨h, fun m hm' => .inr (by rw [Least.uniq hm' hm]; omega)⟩
    · rintro (⟨_, q⟩ | ⟨q, _⟩)
      · rcases q _ hm with z | z <;> omega
      · omega
  · have e1 : (if k < j then k else j) = k := if_pos h
    have e2 : (if k > j then k else j) = j := if_neg (by omega)
    rw [e1, e2, decide_eq_true hne, decide_eq_false (by omega : ¬ j < k), Bool.true_and]
    have hm := cut_least lv hk.1 (Int.le_of_lt h) hj.2
    have h0 := nn _ _ _ hm
    simp only [beq_iff_eq, Bool.false_eq, decide_eq_false_iff_not]
    constructor
    · intro q
      refine .inr ⟨h, fun m hm' => ?_⟩
      rw [Least.uniq hm' hm]
      omega
    · rintro (⟨q, _⟩ | ⟨_, q⟩)
      · omega
      · have := q _ hm
        omega
theorem Bef.asym {lv : Int → Int} {i j : Int} (h : Bef lv 0 i j) (g : Bef lv 0 j i) (hl : ∀ a b : Int, a ≤ b → ∃ m, Least lv a b m) : False := by
  rcases h with ⟨h1, h2⟩ | ⟨h1, h2⟩ <;> rcases g with ⟨g1, g2⟩ | ⟨g1, g2⟩
  · omega
  · obtain ⟨m, hm⟩ := hl i j (by omega)
    rcases h2 m hm with z | z <;> have := g2 m hm <;> omega
  · obtain ⟨m, hm⟩ := hl j i (by omega)
    rcases g2 m hm with z | z <;> have := h2 m hm <;> omega
  · omega
/-- how many stand to the left of k, of those below J -/
def leftF (lv : List Int) (k : Int) (J : Nat) : Int := ((rg J).map fun j => if lawB lv j k = true then (1 : Int) else 0).sum
theorem rg_succ (n : Nat) : rg (n + 1) = rg n ++ [(n : Int)] := by unfold rg; rw [List.range_succ, List.map_append]; rfl
theorem leftF_succ (lv : List Int) (k : Int) (J : Nat) : leftF lv k (J + 1) = leftF lv k J + (if lawB lv J k = true then 1 else 0) := by
  unfold leftF
  rw [rg_succ, List.map_append, List.sum_append]
  simp
theorem sum_perm {l m : List Int} (h : l.Perm m) : l.sum = m.sum := by
  induction h with
  | nil => rfl
  | cons x _ ih => rw [List.sum_cons, List.sum_cons, ih]
  | swap x y l => simp only [List.sum_cons]; omega
  | trans _ _ a b => exact a.trans b
theorem sum_const {α : Type} {f : α → Int} {c : Int} : ∀ {l : List α}, (∀ x ∈ l, f x = c) → (l.map f).sum = c * l.length
  | [], _ => by simp
  | x :: l, h => by
    rw [List.map_cons, List.sum_cons, h x (by simp), sum_const fun y hy => h y (by simp [hy]), List.length_cons]
    rw [show ((l.length + 1 : Nat) : Int) = (l.length : Int) + 1 by omega, Int.mul_add]
    omega
theorem left_pos {lv : List Int} (hlv : ∀ x ∈ lv, 0 ≤ x) {p : Nat} {k : Int} (h : (orderOf lv)[p]? = some k) : leftF lv k lv.length = p := by
  obtain ⟨hp, he⟩ := List.getElem?_eq_some_iff.mp h
  have split : orderOf lv = (orderOf lv).take p ++ k :: (orderOf lv).drop (p + 1) := by
    rw [← he, List.getElem_cons_drop, List.take_append_drop]
  have pw := order_bef lv
  have nd := order_nodup lv
  rw [split] at pw nd
  rw [List.pairwise_append, List.pairwise_cons] at pw
  have nd' := List.nodup_append.mp nd
  have hk : 0 ≤ k ∧ k < lv.length := order_mem.mp (List.mem_of_getElem? h)
  have hb : ∀ j ∈ orderOf lv, 0 ≤ j ∧ j < lv.length := fun j hj => order_mem.mp hj
  unfold leftF
  rw [sum_perm ((order_perm lv).symm.map _), split, List.map_append, List.sum_append, List.map_cons, List.sum_cons]
  have h1 : ((List.take p (orderOf lv)).map fun j => if lawB lv j k = true then (1 : Int) else 0).sum = 1 * (List.take p (orderOf lv)).length := sum_const fun j hj => by
    have hj' := List.mem_of_mem_take hj
    have hne : j ≠ k := fun z => nd'.2.2 j hj k (by simp) z
    rw [if_pos ((lawB_bef hlv (hb j hj') hk hne).mpr (pw.2.2 j hj k (by simp)))]
  have h2 : ((List.drop (p + 1) (orderOf lv)).map fun j => if lawB lv j k = true then (1 : Int) else 0).sum = 0 * (List.drop (p + 1) (orderOf lv)).length := sum_const fun j hj => by
    have hj' := List.mem_of_mem_drop hj
    have hne : j ≠ k := fun z => by
      subst z
      exact (List.nodup_cons.mp nd'.2.1).1 hj
    rw [if_neg]
    intro z
    have a := (lawB_bef hlv (hb j hj') hk hne).mp z
    have b := pw.2.1.1 j hj
    have hjb := hb j hj'
    -- both ways cannot be
    rcases a with ⟨a1, a2⟩ | ⟨a1, a2⟩ <;> rcases b with ⟨b1, b2⟩ | ⟨b1, b2⟩
    · omega
    · have hm := cut_least lv hjb.1 (Int.le_of_lt a1) hk.2
      rcases a2 _ hm with z | z <;> have := b2 _ hm <;> omega
    · have hm := cut_least lv hk.1 (Int.le_of_lt a1) hjb.2
      rcases b2 _ hm with z | z <;> have := a2 _ hm <;> omega
    · omega
  have h3 : (if lawB lv k k = true then (1 : Int) else 0) = 0 := by
    rw [if_neg]
    unfold lawB
    simp
  rw [h1, h2, h3, List.length_take]
  have : p < (orderOf lv).length := hp
  omega
end K32

set_option Elab.async false
set_option maxRecDepth 100000
set_option maxHeartbeats 4000000
set_option linter.all false
namespace K32
open PySem PySem.Spec L2 DV
def top (i : Nat) : Stmt := PySem.Challenge.pw_settledpages_k32_lines_in_two_directions.main.body.getD i (.Pass ⟨0, 0, 0, 0⟩)
def sSMALL : Str := "abcdefghijklmnopqrstuvwxyz"
def sLARGE : Str := "ABCDEFGHIJKLMNOPQRSTUVWXYZ"
def sDIGITS : Str := "0123456789"
structure Txt (K : PySem.W.Frag) (mg : Str → Option Value) : Prop where
  len : mg "len" = none
  int : mg "int" = none
  min : mg "min" = none
  max : mg "max" = none
  sum : mg "sum" = none
  any : mg "any" = none
  list : mg "list" = none
  tuple : mg "tuple" = none
  range : mg "range" = none
  sorted : mg "sorted" = none
  enumerate : mg "enumerate" = none
  small : ∃ t, mg "SMALL" = some (.str sSMALL t)
  large : ∃ t, mg "LARGE" = some (.str sLARGE t)
  digits : ∃ t, mg "DIGITS" = some (.str sDIGITS t)
def wayF (c : Nat) : Option Int := if c ∈ sSMALL.cps.toList then some 0 else if c ∈ sLARGE.cps.toList then some 1 else if c ∈ sDIGITS.cps.toList then some 2 else none
def oD : Option Int → PyData
  | some i => .int i
  | none => .none
abbrev rWay : List PyData → PyData → Prop := fun ds r => ∃ c : Nat, ds = [.str ⟨#[c]⟩] ∧ r = oD (wayF c)
section
variable {P : Program} {w : World} {K : PySem.W.Frag} {mg : Str → Option Value} {base : Heap}
abbrev sWay : Stmt := top 14
theorem scWay : FnScope ["sign"] ["sign"] (defScope sWay) := ⟨rfl, rfl, rfl, by decide +kernel, rfl, by decide +kernel, by decide +kernel⟩
theorem ok_way {f : Addr} {fd : FuncData} (F : Fun K "way_of" "way_of" sWay f fd) (T : Txt K mg) : FnOk P w K mg base CX0 1 f fd ["sign"] (spR K rWay) := by
  refine fn_okD F scWay (fun ds r h => by obtain ⟨c, rfl, _⟩ := h; rfl) fun cdv A outer s H E hr ds r h => ?_
  obtain ⟨c, rfl, rfl⟩ := h
  obtain ⟨t1, h1⟩ := T.small
  obtain ⟨t2, h2⟩ := T.large
  obtain ⟨t3, h3⟩ := T.digits
  refine SX.when (ET.cmp (EV.var 0) (EV.globS h1) cb_inSign rfl) (fun e => ?_) (fun e => ?_)
  · refine SX.ret EV.int ?_
    show AV.d _ = AV.d _
    rw [wayF, if_pos (of_decide_eq_true e)]; rfl
  refine SX.when (ET.cmp (EV.var 0) (EV.globS h2) cb_inSign rfl) (fun e2 => ?_) (fun e2 => ?_)
  · refine SX.ret EV.int ?_
    show AV.d _ = AV.d _
    rw [wayF, if_neg (of_decide_eq_false e), if_pos (of_decide_eq_true e2)]; rfl
  refine SX.ret (M1 := []) (x := .d (oD (wayF c))) (EV.ite (ET.cmp (EV.var 0) (EV.globS h3) cb_inSign rfl) (fun e3 => ?_) (fun e3 => ?_)) rfl
  · rw [wayF, if_neg (of_decide_eq_false e), if_neg (of_decide_eq_false e2), if_pos (of_decide_eq_true e3)]
    exact EV.int
  · rw [wayF, if_neg (of_decide_eq_false e), if_neg (of_decide_eq_false e2), if_neg (of_decide_eq_false e3)]
    exact EV.non
end
end K32

set_option Elab.async false
set_option maxRecDepth 100000
set_option maxHeartbeats 4000000
set_option linter.all false
namespace K32
open PySem PySem.Spec L2 DV
abbrev cI (ns : List Int) : MC := .lst (ns.map fun n => AV.d (.int n))
theorem at_cell {ns : List Int} {i y : Int} (h : atI ns i = some y) : atI (ns.map fun n => AV.d (.int n)) i = some (.d (.int y)) := by rw [atI_map, h]; rfl
theorem at_frz {ns : List Int} {i y : Int} (h : atI ns i = some y) : atI ((ns.map PyData.int).map AV.d) i = some (.d (.int y)) := by rw [List.map_map]; exact at_cell h
theorem lst_frz {M : List MC} {ns : List Int} : lstOf M (.d (.list (ns.map .int))) = some (ns.map fun n => AV.d (.int n)) := by simp [lstOf, List.map_map, Function.comp_def]
theorem small_le {n : Nat} (h : n ≤ 100000) : n ≤ sizeLine := Nat.le_trans h (by decide)
theorem small_lt {n : Nat} (h : n ≤ 100000) : n < sizeLine := Nat.lt_of_le_of_lt h (by decide)
theorem atI_lvf {lv : List Int} {i : Int} (h0 : 0 ≤ i) (h1 : i < lv.length) : atI lv i = some (lvf lv i) := by
  obtain ⟨j, rfl⟩ := Int.eq_ofNat_of_zero_le h0
  have hj : j < lv.length := by omega
  have e : lv[j]? = some (lvf lv (j : Int)) := by
    unfold lvf
    rw [Int.toNat_natCast, List.getD_eq_getElem?_getD, List.getElem?_eq_getElem hj]; rfl
  exact atI_nat e
theorem mem_rev3 {x : Int} {a b c : List Int} (h : x ∈ a ++ b.reverse ++ c) : x ∈ a ++ (b ++ c) := by
  simp only [List.mem_append, List.mem_reverse] at h ⊢
  rcases h with (q | q) | q
  · exact .inl q
  · exact .inr (.inl q)
  · exact .inr (.inr q)
abbrev rOrd : List PyData → PyData → Prop := fun ds r => ∃ lv : List Int, ds = [.list (lv.map .int)] ∧ (∀ x ∈ lv, 0 ≤ x ∧ x ≤ 1000) ∧ lv.length ≤ 900 ∧ r = .list ((orderOf lv).map .int)
section
variable {P : Program} {w : World} {K : PySem.W.Frag} {mg : Str → Option Value} {base : Heap}
abbrev sOrd : Stmt := top 19
theorem scOrd : FnScope ["levels", "found", "level", "start", "end"] ["levels"] (defScope sOrd) := ⟨rfl, rfl, rfl, by decide +kernel, rfl, by decide +kernel, by decide +kernel⟩
theorem ok_order {f : Addr} {fd : FuncData} (F : Fun K "order_of" "order_of" sOrd f fd) (T : Txt K mg) : FnOk P w K mg base CX0 1 f fd ["levels"] (spR K rOrd) := by
  refine fn_okD F scOrd (fun ds r h => by obtain ⟨c, rfl, _⟩ := h; rfl) fun cdv A outer s H E hr ds r h => ?_
  obtain ⟨lv, rfl, hlv, hlen, rfl⟩ := h
  -- found = list(range(len(levels)))
  refine SX.asg 1 scOrd.nd (EV.listRgM rfl T.list T.range (EV.lenL T.len (EV.var 0) lst_frz) (by omega) (by simp; omega)) ?_
  refine SX.to (Γ2 := [some (.d (.list (lv.map .int))), some (.m 0), none, none, none]) (M2 := [cI (rg lv.length)]) rfl (by simp) ?_
  -- for level in range(max(levels + [0]), 0, -1)
  have top0 : 0 ≤ lmax (lv ++ [0]) := le_lmax (by simp)
  have top1 : lmax (lv ++ [0]) ≤ 1000 := by
    rcases List.mem_append.mp (lmax_mem (ns := lv ++ [0]) (by simp)) with q | q
    · exact (hlv _ q).2
    · simp at q; omega
  refine SX.for .never rfl (IV.rgd T.range (EV.maxL rfl T.max (EV.cat (EV.var 0) (EV.lst (ds := [.int 0]) (EA.one EV.int) (by decide)) rfl rfl (by simp; exact small_le (by omega))) (ns := lv ++ [0]) (by simp [lstOf, Function.comp_def]) (by simp)) EV.int (EV.neg EV.int) (by omega))
    (fun i Γ' M' => ∃ e3 e4 e2, Γ' = [some (.d (.list (lv.map .int))), some (.m 0), e2, e3, e4] ∧ M' = [cI (passes (lvf lv) (lmax (lv ++ [0]) - i) i (rg lv.length))]) ⟨_, _, _, rfl, rfl⟩ ?_ ?_
  · rintro i d Γ' M' hd ⟨e3, e4, e2, rfl, rfl⟩
    obtain ⟨hi, rfl⟩ : i < (lmax (lv ++ [0])).toNat ∧ d = .int (lmax (lv ++ [0]) - i) := by
      rw [List.getElem?_map, DV.rgd, List.getElem?_map] at hd
      cases q : (List.range (lmax (lv ++ [0]) - 0).toNat)[i]? with
      | none => rw [q] at hd; cases hd
      | some j =>
        rw [q] at hd
        have hj := (List.getElem?_eq_some_iff.mp q).1
        have hv : j = i := by rw [List.getElem?_range (by simpa using hj)] at q; exact (Option.some.inj q).symm
        subst hv
        refine ⟨by simpa using hj, (Option.some.inj hd).symm⟩
    refine ⟨_, _, TV.name 2 scOrd.nd, ?_⟩
    generalize hLv : lmax (lv ++ [0]) - (i : Int) = L
    have hg : ∀ x ∈ passes (lvf lv) L i (rg lv.length), 0 ≤ x ∧ x < lv.length := fun x hx => mem_rg.mp ((passes_perm _ _ _ _).mem_iff.mp hx)
    have hglen : (passes (lvf lv) L i (rg lv.length)).length = lv.length := by rw [(passes_perm _ _ _ _).length_eq, rg_len]
    have hnext : passes (lvf lv) (lmax (lv ++ [0]) - ((i + 1 : Nat) : Int)) (i + 1) (rg lv.length) = pass (fun x => decide (L ≤ lvf lv x)) (passes (lvf lv) L i (rg lv.length)) := by
      rw [passes]
      have e : lmax (lv ++ [0]) - ((i + 1 : Nat) : Int) + 1 = L := by omega
      rw [e]
    generalize passes (lvf lv) L i (rg lv.length) = g at hg hglen hnext
    -- start = 0
    refine SX.asg 3 scOrd.nd EV.int ?_
    -- while start < len(found)
    refine SX.while .never (fun m Γ' M' => ∃ e4 dn td, Γ' = [some (.d (.list (lv.map .int))), some (.m 0), some (.d (.int L)), some (.d (.int (dn.length : Nat))), e4] ∧ M' = [cI (dn ++ td)] ∧ td.length = m ∧ (dn ++ td).length = lv.length ∧
        (∀ x ∈ dn ++ td, 0 ≤ x ∧ x < lv.length) ∧ pass (fun x => decide (L ≤ lvf lv x)) g = dn ++ pass (fun x => decide (L ≤ lvf lv x)) td) g.length ⟨_, [], g, rfl, rfl, rfl, hglen, hg, rfl⟩ ?_
    rintro m Γ' M' ⟨e4, dn, td, rfl, rfl, hm, hl, hin, hp⟩
    refine ⟨_, _, ET.cmp (EV.var 3) (EV.lenL T.len (EV.var 1) rfl) cb_lt rfl, fun hc => ?_, fun hc => ?_⟩
    · -- end = start
      refine SX.asg 4 scOrd.nd (EV.var 3) ?_
      have hc' : (dn.length : Int) < ((dn ++ td).length : Nat) := by simpa using hc
      -- while end < len(found) and levels[found[end]] >= level
      refine SX.while .never (fun m Γ' M' => ∃ rn rs, Γ' = [some (.d (.list (lv.map .int))), some (.m 0), some (.d (.int L)), some (.d (.int (dn.length : Nat))), some (.d (.int ((dn.length + rn.length : Nat) : Int)))] ∧ M' = [cI (dn ++ td)] ∧ td = rn ++ rs ∧ rs.length = m ∧
          ∀ x ∈ rn, L ≤ lvf lv x) td.length ⟨[], td, rfl, rfl, rfl, rfl, fun _ h => nomatch h⟩ ?_
      rintro m2 Γ' M' ⟨rn, rs, rfl, rfl, rfl, hm2, hrn⟩
      refine ⟨(match rs with | [] => false | y :: _ => decide (L ≤ lvf lv y)), [cI (dn ++ (rn ++ rs))], ?_, fun hb => ?_, fun hb => ?_⟩
      · cases rs with
        | nil => exact (ET.and (ET.cmp (EV.var 4) (EV.lenL T.len (EV.var 1) rfl) cb_lt rfl) (q := false) (fun q => by simp at q)).cast (by simp)
        | cons y r =>
          have hy : atI (dn ++ (rn ++ y :: r)) ((dn.length + rn.length : Nat) : Int) = some y := atI_nat (by rw [← List.append_assoc, List.getElem?_append_right (by simp)]; simp)
          have hy' := hin y (by simp)
          exact (ET.and (ET.cmp (EV.var 4) (EV.lenL T.len (EV.var 1) rfl) cb_lt rfl) (fun _ => EW.and1 (ET.cmp (EV.ixL (EV.var 0) (EV.ixL (EV.var 1) (EV.var 4) rfl (at_cell hy)) rfl (at_frz (atI_lvf hy'.1 hy'.2))) (EV.var 2) cb_ge rfl))).cast (by simp; omega)
      · -- end += 1
        cases rs with
        | nil => cases hb
        | cons y r =>
          refine SX.augI 4 scOrd.nd rfl EV.int ?_
          refine SX.nil ⟨r.length, by rw [← hm2]; simp, rn ++ [y], r, ?_, rfl, by simp, rfl, fun x hx => ?_⟩
          · have e : ((dn.length + rn.length : Nat) : Int) + 1 = ((dn.length + (rn ++ [y]).length : Nat) : Int) := by rw [List.length_append, List.length_singleton]; omega
            rw [← e]; rfl
          · rcases List.mem_append.mp hx with q | q
            · exact hrn x q
            · rw [List.mem_singleton.mp q]; exact of_decide_eq_true hb
      · -- found[start:end] = found[start:end][::-1]
        have hcut : cutG (dn ++ (rn ++ rs)) (some (dn.length : Nat)) (some ((dn.length + rn.length : Nat) : Int)) = rn := by
          rw [cut_nat _ _ _ (by simp)]
          simp
        refine SX.setSlice (ds := rn.reverse.map .int) (by
            refine EV.cast (EV.revL (ds := rn.map .int) (EV.slL (ds := (dn ++ (rn ++ rs)).map .int) (EV.var 1) (EO.some (EV.var 3)) (EO.some (EV.var 4)) (by simp [lstOf, Function.comp_def])) (by rw [cutG_map, hcut]; rfl)) (by rw [List.map_reverse]))
          (EV.var 1) (EO.some (EV.var 3)) (EO.some (EV.var 4)) rfl (by omega) (by omega) (by simp; omega) (by simp; exact small_le (by simp at hl; omega)) ?_
        refine SX.to (M2 := [cI (dn ++ rn.reverse ++ rs)]) rfl ?_ ?_
        · simp only [List.set_cons_zero, List.map_append, cI, Int.toNat_natCast]
          congr 2
          have h1 : ((dn.map fun n => AV.d (.int n)) ++ ((rn.map fun n => AV.d (.int n)) ++ rs.map fun n => AV.d (.int n))).take dn.length = dn.map fun n => AV.d (.int n) := by
            rw [List.take_append_of_le_length (by simp), List.take_of_length_le (by simp)]
          have h2 : ((dn.map fun n => AV.d (.int n)) ++ ((rn.map fun n => AV.d (.int n)) ++ rs.map fun n => AV.d (.int n))).drop (dn.length + rn.length) = rs.map fun n => AV.d (.int n) := by
            rw [← List.append_assoc, List.drop_append_of_le_length (by simp), List.drop_of_length_le (by simp)]
            rfl
          rw [h1, h2, List.map_map]
          rfl
        -- start = max(end, start + 1)
        refine SX.asg 3 scOrd.nd (EV.max2 rfl T.max (EV.var 4) (EV.add (EV.var 3) EV.int)) ?_
        refine SX.nil ?_
        have hstop : ∀ y r, rs = y :: r → (fun x => decide (L ≤ lvf lv x)) y = false := fun y r e => by subst e; exact hb
        have hrun : pass (fun x => decide (L ≤ lvf lv x)) (rn ++ rs) = rn.reverse ++ pass (fun x => decide (L ≤ lvf lv x)) rs := pass_run (fun x hx => decide_eq_true (hrn x hx)) hstop
        cases rn with
        | nil =>
          cases rs with
          | nil => simp at hc'
          | cons y r =>
            refine ⟨r.length, by rw [← hm]; simp, some (.d (.int ((dn.length + ([] : List Int).length : Nat) : Int))), dn ++ [y], r, ?_, by simp, rfl, by rw [← hl]; simp, fun x hx => hin x (by simpa using hx), ?_⟩
            · have e : (if (dn.length : Int) + 1 > ((dn.length + ([] : List Int).length : Nat) : Int) then (dn.length : Int) + 1 else ((dn.length + ([] : List Int).length : Nat) : Int)) = ((dn ++ [y]).length : Nat) := by
                rw [List.length_append, List.length_nil, List.length_singleton]
                split <;> omega
              rw [← e]; rfl
            · have := pass_cut (p := fun x => decide (L ≤ lvf lv x)) (hstop y r rfl) [] r
              rw [List.nil_append] at this
              rw [hp, List.nil_append, this, List.append_assoc]
              rfl
        | cons y0 rn' =>
          refine ⟨rs.length, by rw [← hm]; simp; omega, some (.d (.int ((dn.length + (y0 :: rn').length : Nat) : Int))), dn ++ (y0 :: rn').reverse, rs, ?_, rfl, rfl, by rw [← hl]; simp; omega, fun x hx => hin x (mem_rev3 hx), ?_⟩
          · have e : (if (dn.length : Int) + 1 > ((dn.length + (y0 :: rn').length : Nat) : Int) then (dn.length : Int) + 1 else ((dn.length + (y0 :: rn').length : Nat) : Int)) = ((dn ++ (y0 :: rn').reverse).length : Nat) := by
              rw [List.length_append, List.length_reverse, List.length_cons]
              split <;> omega
            rw [← e]; rfl
          · rw [hp, hrun, List.append_assoc]
    · have ht : td = [] := by
        have : ¬ ((dn.length : Int) < ((dn ++ td).length : Nat)) := by simpa using hc
        rw [List.length_append] at this
        exact List.eq_nil_of_length_eq_zero (by omega)
      subst ht
      refine SX.nil ⟨_, _, _, rfl, ?_⟩
      rw [hnext, hp]
      rfl
  · rintro Γ' M' ⟨e3, e4, e2, rfl, rfl⟩
    have hn : ((DV.rgd (lmax (lv ++ [0])) 0).map PyData.int).length = (lmax (lv ++ [0])).toNat := by simp [DV.rgd]
    rw [hn]
    have e0 : lmax (lv ++ [0]) - ((lmax (lv ++ [0])).toNat : Nat) = 0 := by omega
    rw [e0]
    refine SX.retM (ds := (orderOf lv).map .int) (EV.var 1) (by simp [orderOf, Function.comp_def]) rfl
end
end K32

set_option Elab.async false
set_option maxRecDepth 100000
set_option maxHeartbeats 4000000
set_option linter.all false
namespace DV
open PySem PySem.Spec L2
section
variable {X : Cx} {M : List MC} {op : CmpOp}
def inD (u : V) (us : List V) : Bool := inV u us
theorem flat_sD {d : PyData} {u : V} (h : sD d = some u) : flatV u = true := by cases d <;> simp [sD] at h <;> subst h <;> rfl
theorem DRs.scs {K : PySem.W.Frag} {F : Hp} : ∀ {es : List PyData} {us vs : List V}, es.mapM sD = some us → DRs K F vs es → vs = us
  | [], us, vs, h, r => by cases r; simp at h; exact h.symm
  | d :: es, us, vs, h, r => by
    cases r with
    | cons a t =>
      rw [List.mapM_cons] at h
      cases q : sD d with
      | none => rw [q] at h; simp at h
      | some u =>
        rw [q] at h
        cases q2 : es.mapM sD with
        | none => rw [q2] at h; simp at h
        | some us2 =>
          rw [q2] at h
          simp at h
          subst h
          rw [DR.sc q a, DRs.scs q2 t]
theorem flat_all : ∀ {es : List PyData} {us : List V}, es.mapM sD = some us → us.all flatV = true
  | [], us, h => by simp at h; subst h; rfl
  | d :: es, us, h => by
    rw [List.mapM_cons] at h
    cases q : sD d with
    | none => rw [q] at h; simp at h
    | some u =>
      rw [q] at h
      cases q2 : es.mapM sD with
      | none => rw [q2] at h; simp at h
      | some us2 =>
        rw [q2] at h
        simp at h
        subst h
        rw [List.all_cons, flat_sD q, flat_all q2]; rfl
theorem cb_inT {d : PyData} {es : List PyData} {u : V} {us : List V} {q : Bool} (h1 : sD d = some u) (h2 : es.mapM sD = some us) (hq : inV u us = q) : CB X .In (.d d) (.d (.tuple es)) M q := by
  subst hq
  exact ⟨_, op_in_seq, fun F0 H0 F A H v v' Q sh rv rw k => by
  have r1 := DR.sc h1 rv
  subst r1
  cases rw with
  | tup h3 h4 =>
    have := DRs.scs h2 h4
    subst this
    exact ⟨_, _, rfl, .inr (sqT_mono sh.fh h3), flat_sD h1, flat_all h2, k _ F A H sh (Af.refl _ _ _) (DR.bl _)⟩⟩
theorem cb_inL {d : PyData} {es : List PyData} {u : V} {us : List V} {q : Bool} (h1 : sD d = some u) (h2 : es.mapM sD = some us) (hq : inV u us = q) : CB X .In (.d d) (.d (.list es)) M q := by
  subst hq
  exact ⟨_, op_in_seq, fun F0 H0 F A H v v' Q sh rv rw k => by
  have r1 := DR.sc h1 rv
  subst r1
  cases rw with
  | lst h3 h4 =>
    have := DRs.scs h2 h4
    subst this
    exact ⟨_, _, rfl, .inl (SqL.of (sh.fh _ _ h3)), flat_sD h1, flat_all h2, k _ F A H sh (Af.refl _ _ _) (DR.bl _)⟩⟩
end
section
variable {X : Cx} {e o : Expr} {rest : List Stmt} {Γ : Gam} {M : List MC} {x : AV} {pos apos cpos : Pos} {xs : List AV} {D : AD}
theorem SX.app0 {k : Nat} (ho : EV X o Γ M (.m k) M) (hk : M[k]? = some (.lst xs)) (h : EV X e Γ M x M) (hl : xs.length < sizeLine) (go : SX X rest Γ (M.set k (.lst (xs ++ [x]))) D)
    (hbase : attributeBase o "append" X.env (eval o X.env) = eval o X.env := by rfl)
    (hfew : ((backTo cpos (starEach [e] X.env)).all (fun x => !x.1) && (backToKw cpos (keywordEach [] X.env)).all (fun x => x.1.isSome) && decide ([e].length + ([] : List Keyword).length + (if ([] : List Keyword).isEmpty then 0 else 1) < 30)) = true := by rfl)
    (hline : (apos.endLine == cpos.line) = true := by rfl) (hs : starEach [e] X.env = (false, eval e X.env) :: starEach [] X.env := by rfl) (hplain : (backTo cpos (starEach [] X.env)).any (·.1) = false := by rfl)
    (hsw : swapsWith (.Call (.Attribute o "append" apos) [e] [] cpos) none pos.line X.env = pure false := by rfl) : SX X (.Expr (.Call (.Attribute o "append" apos) [e] [] cpos) pos :: rest) Γ M D :=
  SX.append ho hk h hk hl go hbase hfew hline hs hplain hsw
end
end DV
namespace K32
open PySem PySem.Spec L2 DV
abbrev S (cs : List Nat) : Str := ⟨cs.toArray⟩
abbrev T (cs : List Nat) : PyData := .str (S cs)
theorem sgn_S (cs : List Nat) : sgn (S cs) = cs.map fun c => .str ⟨#[c]⟩ := by simp [sgn]
theorem S_len (cs : List Nat) : (S cs).length = cs.length := by simp [Str.length]
theorem sgn_get {cs : List Nat} {i : Nat} {d : PyData} (h : (sgn (S cs))[i]? = some d) : ∃ c, cs[i]? = some c ∧ d = .str ⟨#[c]⟩ := by
  rw [sgn_S, List.getElem?_map] at h
  obtain ⟨c, h1, rfl⟩ := Option.map_eq_some_iff.mp h
  exact ⟨c, h1, rfl⟩
def inB (o : Option Int) : Bool := decide (o = some 0 ∨ o = some 1)
section
variable {X : Cx} {M : List MC} {o : Option Int} {j : Int}
theorem cb_eqO : CB X .Eq (.d (oD o)) (.d (.int j)) M (decide (o = some j)) := by
  cases o with
  | none =>
    have h : CB X .Eq (.d .none) (.d (.int j)) M (decide ((.non : V) = .int j)) := cb_eq (d := .none) (e := .int j)
    have e : decide ((none : Option Int) = some j) = decide ((.non : V) = .int j) := by simp
    rw [e]; exact h
  | some i =>
    have h : CB X .Eq (.d (.int i)) (.d (.int j)) M (decide (i = j)) := cb_eqI
    have e : decide ((some i : Option Int) = some j) = decide (i = j) := by simp
    rw [e]; exact h
theorem cb_neO : CB X .NotEq (.d (oD o)) (.d (.int j)) M (!decide (o = some j)) := by
  cases o with
  | none =>
    have h : CB X .NotEq (.d .none) (.d (.int j)) M (!decide ((.non : V) = .int j)) := cb_ne (d := .none) (e := .int j)
    have e : decide ((none : Option Int) = some j) = decide ((.non : V) = .int j) := by simp
    rw [e]; exact h
  | some i =>
    have h : CB X .NotEq (.d (.int i)) (.d (.int j)) M (!decide (i = j)) := cb_neI
    have e : decide ((some i : Option Int) = some j) = decide (i = j) := by simp
    rw [e]; exact h
theorem inV_O (i : Int) : inV (.int i) [.int 0, .int 1] = inB (some i) := by
  show (((0 : Int) == i) || (((1 : Int) == i) || false)) = inB (some i)
  by_cases h0 : i = 0
  · subst h0; rfl
  · by_cases h1 : i = 1
    · subst h1; rfl
    · have e0 : ((0 : Int) == i) = false := by rw [beq_eq_false_iff_ne]; exact fun q => h0 q.symm
      have e1 : ((1 : Int) == i) = false := by rw [beq_eq_false_iff_ne]; exact fun q => h1 q.symm
      rw [e0, e1]
      unfold inB
      symm
      rw [Bool.false_or, Bool.false_or]
      exact decide_eq_false (fun q => q.elim (fun q => h0 (Option.some.inj q)) fun q => h1 (Option.some.inj q))
theorem cb_inO : CB X .In (.d (oD o)) (.d (.tuple [.int 0, .int 1])) M (inB o) := by
  cases o with
  | none => exact cb_inT rfl rfl rfl
  | some i => exact cb_inT (u := .int i) (us := [.int 0, .int 1]) rfl rfl (inV_O i)
theorem cb_inOL : CB X .In (.d (oD o)) (.d (.list [.int 0, .int 1])) M (inB o) := by
  cases o with
  | none => exact cb_inL rfl rfl rfl
  | some i => exact cb_inL (u := .int i) (us := [.int 0, .int 1]) rfl rfl (inV_O i)
theorem isN_O : isN (oD o) = o.isNone := by cases o <;> rfl
theorem cb_isO : CB X .Is (.d (oD o)) (.d .none) M o.isNone := by rw [← isN_O]; exact cb_isN
theorem cb_notO : CB X .IsNot (.d (oD o)) (.d .none) M o.isSome := by
  have e : o.isSome = !isN (oD o) := by cases o <;> rfl
  rw [e]; exact cb_notN
end
theorem way_cases (c : Nat) : wayF c = none ∨ wayF c = some 0 ∨ wayF c = some 1 ∨ wayF c = some 2 := by
  unfold wayF
  split
  · simp
  · split
    · simp
    · split <;> simp
def step1 (l : Int) (c : Nat) : Int := if wayF c = some 0 then 0 else if wayF c = some 1 then 1 else l
def lastF (pre : List Nat) (base : Int) : Int := pre.foldl step1 base
def strongC (c : Nat) (last : Int) : Option Int := if wayF c = some 2 ∧ last = 0 then some 0 else wayF c
def strongF (cs : List Nat) (base : Int) (k : Nat) : Option Int := strongC (cs.getD k 0) (lastF (cs.take k) base)
def strongs (cs : List Nat) (base : Int) : List (Option Int) := (List.range cs.length).map (strongF cs base)
theorem last_succ {cs : List Nat} {i c : Nat} (base : Int) (h : cs[i]? = some c) : lastF (cs.take (i + 1)) base = step1 (lastF (cs.take i) base) c := by
  unfold lastF
  rw [List.take_succ, h, List.foldl_append]; rfl
theorem getD_of {α : Type} {xs : List α} {i : Nat} {c d : α} (h : xs[i]? = some c) : xs.getD i d = c := by rw [List.getD_eq_getElem?_getD, h]; rfl
theorem map_range_succ {α : Type} (f : Nat → α) (n : Nat) : (List.range (n + 1)).map f = (List.range n).map f ++ [f n] := by rw [List.range_succ, List.map_append]; rfl
theorem lt_of_get {α : Type} {xs : List α} {i : Nat} {c : α} (h : xs[i]? = some c) : i < xs.length := (List.getElem?_eq_some_iff.mp h).1
abbrev rPlain : List PyData → PyData → Prop := fun ds r => ∃ (cs : List Nat) (base : Int), ds = [T cs, .int base] ∧ cs.length ≤ 1000 ∧ r = .list ((strongs cs base).map oD)
section
variable {P : Program} {w : World} {K : PySem.W.Frag} {mg : Str → Option Value} {base : Heap}
abbrev sPlain : Stmt := top 17
abbrev nPlain : List Str := ["text", "base", "found", "last", "sign", "way"]
theorem scPlain : FnScope nPlain ["text", "base"] (defScope sPlain) := ⟨rfl, rfl, rfl, by decide +kernel, rfl, by decide +kernel, by decide +kernel⟩
theorem ok_plain {f : Addr} {fd : FuncData} (F : Fun K "plain_ways" "plain_ways" sPlain f fd) {k : Nat} (D : DefR P w K mg base k "way_of" rWay) : FnOk P w K mg base CX0 (k + 1) f fd ["text", "base"] (spR K rPlain) := by
  refine fn_okD F scPlain (fun ds r h => by obtain ⟨c, b, rfl, _⟩ := h; rfl) fun cdv A outer s H E hr ds r h => ?_
  obtain ⟨cs, b, rfl, hlen, rfl⟩ := h
  refine SX.par2 2 3 rfl scPlain.nd (EA.cons (EV.lstM EA.nil (by decide)) (EA.one (EV.var 1))) ?_
  refine SX.for .never rfl (IV.str (EV.var 0)) (fun i Γ' M' => ∃ e4 e5, Γ' = [some (.d (T cs)), some (.d (.int b)), some (.m 0), some (.d (.int (lastF (cs.take i) b))), e4, e5] ∧ M' = [.lst ((List.range i).map fun k => .d (oD (strongF cs b k)))]) ⟨_, _, rfl, rfl⟩ ?_ ?_
  · rintro i d Γ' M' hd ⟨e4, e5, rfl, rfl⟩
    obtain ⟨c, hc, rfl⟩ := sgn_get hd
    have hi := lt_of_get hc
    refine ⟨_, _, TV.name 4 scPlain.nd, ?_⟩
    refine SX.asg 5 scPlain.nd (EV.call D hr (EA.one (EV.var 4)) rfl ⟨c, rfl, rfl⟩) ?_
    have fin : ∀ l : Int, l = step1 (lastF (cs.take i) b) c → SX (defX P w K mg base nPlain "plain_ways" sPlain f cdv A outer s H E) (((defBody sPlain).getD 1 (.Pass ⟨0,0,0,0⟩) |> fun | .For _ _ b _ _ => b.drop 2 | _ => []))
        [some (.d (T cs)), some (.d (.int b)), some (.m 0), some (.d (.int l)), some (.d (.str ⟨#[c]⟩)), some (.d (oD (wayF c)))] [.lst ((List.range i).map fun k => .d (oD (strongF cs b k)))]
        { nx := fun Γ' M' => ∃ e4 e5, Γ' = [some (.d (T cs)), some (.d (.int b)), some (.m 0), some (.d (.int (lastF (cs.take (i + 1)) b))), e4, e5] ∧ M' = [.lst ((List.range (i + 1)).map fun k => .d (oD (strongF cs b k)))],
          rt := fun x _ => x = .d (.list ((strongs cs b).map oD)), bk := fun Γ3 M3 => SX (defX P w K mg base nPlain "plain_ways" sPlain f cdv A outer s H E) ((defBody sPlain).drop 2) Γ3 M3 { nx := fun _ _ => (PyData.list ((strongs cs b).map oD)) = .none, rt := fun x _ => x = .d (.list ((strongs cs b).map oD)) }, ct := fun Γ' M' => ∃ e4 e5, Γ' = [some (.d (T cs)), some (.d (.int b)), some (.m 0), some (.d (.int (lastF (cs.take (i + 1)) b))), e4, e5] ∧ M' = [.lst ((List.range (i + 1)).map fun k => .d (oD (strongF cs b k)))] } := by
      rintro l hl
      have e1 : lastF (cs.take (i + 1)) b = l := by rw [last_succ b hc, hl]
      have e2 : strongF cs b i = strongC c l := by
        unfold strongF
        rw [getD_of hc]
        unfold strongC
        rw [hl]
        unfold step1
        by_cases h : wayF c = some 2
        · simp [h]
        · simp [h]
      refine SX.app0 (x := .d (oD (strongC c l))) (EV.var 2) rfl ?_ (by simp; exact small_lt (by omega)) (SX.nil ?_)
      · by_cases h2 : wayF c = some 2 ∧ l = 0
        · unfold strongC
          rw [if_pos h2]
          exact EV.ite (ET.and (ET.cmp (EV.var 5) EV.int cb_eqO rfl) (fun _ => EW.and1 (ET.cmp (EV.var 3) EV.int cb_eqI rfl))) (fun e => EV.int) (fun e => by simp [h2.1, h2.2] at e)
        · unfold strongC
          rw [if_neg h2]
          exact EV.ite (ET.and (ET.cmp (EV.var 5) EV.int cb_eqO rfl) (fun _ => EW.and1 (ET.cmp (EV.var 3) EV.int cb_eqI rfl))) (fun e => absurd (by simpa using e) h2) (fun e => EV.var 5)
      · rw [e1, map_range_succ, e2]
        exact ⟨_, _, rfl, rfl⟩
    refine SX.when (ET.cmp (EV.var 5) (EV.tup (ds := [.int 0, .int 1]) (EA.cons EV.int (EA.one EV.int)) (by decide)) cb_inO rfl) (fun e => ?_) (fun e => ?_)
    · rcases (of_decide_eq_true e : wayF c = some 0 ∨ wayF c = some 1) with h | h
      · exact SX.asg 3 scPlain.nd (x := .d (.int 0)) (EV.var 5 (by rw [h]; rfl)) (SX.nil (fin _ (by simp [step1, h])))
      · exact SX.asg 3 scPlain.nd (x := .d (.int 1)) (EV.var 5 (by rw [h]; rfl)) (SX.nil (fin _ (by simp [step1, h])))
    · have h := (of_decide_eq_false e : ¬ (wayF c = some 0 ∨ wayF c = some 1))
      exact fin _ (by simp only [step1]; rw [if_neg (fun q => h (.inl q)), if_neg (fun q => h (.inr q))])
  · rintro Γ' M' ⟨e4, e5, rfl, rfl⟩
    have hn : (sgn (S cs)).length = cs.length := by rw [sgn_S, List.length_map]
    rw [hn]
    exact SX.retM (ds := (strongs cs b).map oD) (EV.var 2) (by simp [strongs, Function.comp_def]) rfl
end
end K32

set_option Elab.async false
set_option maxRecDepth 100000
set_option maxHeartbeats 4000000
set_option linter.all false
namespace K32
open PySem PySem.Spec L2 DV
/-! ### between -/
def nmsO (ws : List (Option Int)) : List Int := ws.filterMap id
theorem filt_nms (ws : List (Option Int)) : (ws.filter (·.isSome)).map oD = (nmsO ws).map .int := by
  induction ws with
  | nil => rfl
  | cons o ws ih => cases o <;> simp [nmsO, oD] at ih ⊢ <;> exact ih
def aheadF (ws : List (Option Int)) (k : Nat) : List Int := cutG (nmsO (ws.take k)) (some (-1)) none
def behindF (ws : List (Option Int)) (k : Nat) : List Int := cutG (nmsO (ws.drop k)) none (some 1)
def endsF (ws : List (Option Int)) (k : Nat) : List Int := (aheadF ws k ++ behindF ws k).map fun i => if 1 < i then 1 else i
def betF (ws : List (Option Int)) (k : Nat) (b : Int) : Int := match endsF ws k with
  | [x, y] => if x = y then x else b
  | _ => b
theorem cut_take {α : Type} (ws : List α) (k : Nat) : cutG ws none (some (k : Int)) = ws.take k := by
  unfold cutG
  rw [HT.sIx_nat, HT.sIx_none, Nat.sub_zero, List.drop_zero]
  rcases Nat.le_total k ws.length with h | h
  · rw [Nat.min_eq_left h]
  · rw [Nat.min_eq_right h, List.take_of_length_le (Nat.le_refl _), List.take_of_length_le h]
theorem cut_drop {α : Type} (ws : List α) (k : Nat) : cutG ws (some (k : Int)) none = ws.drop k := by
  unfold cutG
  rw [HT.sIx_nat, HT.sIx_none]
  rcases Nat.le_total k ws.length with h | h
  · rw [Nat.min_eq_left h, List.take_of_length_le (by simp)]
  · rw [Nat.min_eq_right h, List.drop_of_length_le h, List.drop_of_length_le (Nat.le_refl _)]; simp
theorem nmsO_len (ws : List (Option Int)) : (nmsO ws).length ≤ ws.length := List.length_filterMap_le _ _
theorem ahead_len (ws : List (Option Int)) (k : Nat) : (aheadF ws k).length ≤ ws.length := Nat.le_trans (cutG_len _ _ _) (Nat.le_trans (nmsO_len _) (by simp; omega))
theorem behind_len (ws : List (Option Int)) (k : Nat) : (behindF ws k).length ≤ ws.length := Nat.le_trans (cutG_len _ _ _) (Nat.le_trans (nmsO_len _) (by simp))
abbrev rBet : List PyData → PyData → Prop := fun ds r => ∃ (ws : List (Option Int)) (k : Nat) (b : Int), ds = [.list (ws.map oD), .int (k : Nat), .int b] ∧ ws.length ≤ 1000 ∧ r = .int (betF ws k b)
theorem bet_two {ws : List (Option Int)} {k : Nat} {b x y : Int} (h : endsF ws k = [x, y]) : betF ws k b = if x = y then x else b := by unfold betF; rw [h]
theorem bet_not {ws : List (Option Int)} {k : Nat} {b : Int} (h : (endsF ws k).length ≠ 2) : betF ws k b = b := by
  unfold betF
  split
  · rename_i x y q; rw [q] at h; simp at h
  · rfl
section
variable {P : Program} {w : World} {K : PySem.W.Frag} {mg : Str → Option Value} {base : Heap}
/-- the three lines, wherever they stand -/
abbrev sBet : Stmt := top 18
abbrev nBet : List Str := ["ways", "place", "base", "ahead", "behind", "ends", "way"]
theorem scBet : FnScope nBet ["ways", "place", "base"] (defScope sBet) := ⟨rfl, rfl, rfl, by decide +kernel, rfl, by decide +kernel, by decide +kernel⟩
theorem ok_bet {f : Addr} {fd : FuncData} (F : Fun K "between_ways" "between_ways" sBet f fd) (T : Txt K mg) : FnOk P w K mg base CX0 1 f fd ["ways", "place", "base"] (spR K rBet) := by
  refine fn_okD F scBet (fun ds r h => by obtain ⟨c, b, k, rfl, _⟩ := h; rfl) fun cdv A outer s H E hr ds r h => ?_
  obtain ⟨ws, k, b, rfl, hlen, rfl⟩ := h
  have hs0 : ws.length ≤ sizeLine := small_le (by omega)
  have l1 := ahead_len ws k
  have l2 := behind_len ws k
  have sl : ∀ xs : List (Option Int), lstOf [] (.d (.list (xs.map oD))) = some ((xs.map oD).map .d) := fun _ => rfl
  refine SX.asg 3 scBet.nd (x := .d (.list ((aheadF ws k).map .int))) (M1 := []) ?_ ?_
  · refine EV.cast (EV.slL (ds := (nmsO (ws.take k)).map .int) ((LC.lcFilter (as := ws.take k) (enc := oD) oD (·.isSome) rfl scBet.nd (own := [("way", 6)]) (by show blkC nBet (defScope sBet) _ _ = true; decide +kernel) (IV.list ((EV.slL (EV.var 0) EO.none (EO.some (EV.var 1)) (sl ws)).cast (by rw [cutG_map, cut_take]))) (by simp; exact small_le (by omega)) (fun o => [some (.d (.list (ws.map oD))), some (.d (.int (k : Nat))), some (.d (.int b)), none, none, none, some (.d (oD o))]) [6] (by decide)
      (fun o _ s H C cl fp => TV.name 6 scBet.nd) (fun o _ s H C cl fp => ET.cmp (EV.var 6) EV.non cb_notO rfl) (fun o _ _ s H C cl fp => EV.var 6)).ev.cast (by rw [filt_nms])) (EO.some (EV.neg EV.int)) EO.none rfl) ?_
    rw [cutG_map]; rfl
  refine SX.asg 4 scBet.nd (x := .d (.list ((behindF ws k).map .int))) (M1 := []) ?_ ?_
  · refine EV.cast (EV.slL (ds := (nmsO (ws.drop k)).map .int) ((LC.lcFilter (as := ws.drop k) (enc := oD) oD (·.isSome) rfl scBet.nd (own := [("way", 6)]) (by show blkC nBet (defScope sBet) _ _ = true; decide +kernel) (IV.list ((EV.slL (EV.var 0) (EO.some (EV.var 1)) EO.none (sl ws)).cast (by rw [cutG_map, cut_drop]))) (Nat.le_trans (by simp) hs0) (fun o => [some (.d (.list (ws.map oD))), some (.d (.int (k : Nat))), some (.d (.int b)), some (.d (.list ((aheadF ws k).map .int))), none, none, some (.d (oD o))]) [6] (by decide)
      (fun o _ s H C cl fp => TV.name 6 scBet.nd) (fun o _ s H C cl fp => ET.cmp (EV.var 6) EV.non cb_notO rfl) (fun o _ _ s H C cl fp => EV.var 6)).ev.cast (by rw [filt_nms])) EO.none (EO.some EV.int) rfl) ?_
    rw [cutG_map]; rfl
  refine SX.asgLc 5 (x := .d (.list ((endsF ws k).map .int))) (M1 := []) ?_ ?_
  · refine LC.cast (LC.lcMap (as := aheadF ws k ++ behindF ws k) (enc := .int) (fun i => .int (if 1 < i then 1 else i)) rfl scBet.nd (own := [("way", 6)]) (by show blkC nBet (defScope sBet) _ _ = true; decide +kernel) (IV.list ((EV.cat (EV.var 3) (EV.var 4) (ds := (aheadF ws k).map .int) (es' := (behindF ws k).map .int) rfl rfl (by simp; exact small_le (by omega))).cast (by rw [List.map_append]))) (by simp; exact small_le (by omega))
      (fun i => [some (.d (.list (ws.map oD))), some (.d (.int (k : Nat))), some (.d (.int b)), some (.d (.list ((aheadF ws k).map .int))), some (.d (.list ((behindF ws k).map .int))), none, some (.d (.int i))]) [6] (by decide)
      (fun o _ s H C cl fp => TV.name 6 scBet.nd) (fun o _ s H C cl fp => EV.min2 rfl T.min (EV.var 6) EV.int)) ?_
    rw [endsF, List.map_map]; rfl
  refine SX.ret (M1 := []) (x := .d (.int (betF ws k b))) ?_ rfl
  by_cases h2 : (endsF ws k).length = 2
  · obtain ⟨x, y, e⟩ : ∃ x y, endsF ws k = [x, y] := by
      rcases q : endsF ws k with _ | ⟨x, _ | ⟨y, _ | ⟨z, r⟩⟩⟩ <;> rw [q] at h2 <;> simp at h2
      exact ⟨x, y, rfl⟩
    rw [bet_two e, e]
    refine EV.ite (ET.and (ET.cmp (EV.lenL T.len (EV.var 5) (xs := [.d (.int x), .d (.int y)]) rfl) EV.int cb_eqI rfl) (fun _ => EW.and1 (ET.cmp (EV.ixL (EV.var 5) EV.int (xs := [.d (.int x), .d (.int y)]) (z := .d (.int x)) rfl rfl) (EV.ixL (EV.var 5) EV.int (xs := [.d (.int x), .d (.int y)]) (z := .d (.int y)) rfl rfl) cb_eqI rfl))) (fun q => ?_) (fun q => ?_)
    · have q' : x = y := by simpa using q
      rw [if_pos q']
      exact EV.ixL (EV.var 5) EV.int (xs := [.d (.int x), .d (.int y)]) (z := .d (.int x)) rfl rfl
    · have q' : ¬ x = y := by simpa using q
      rw [if_neg q']
      exact EV.var 2
  · rw [bet_not h2]
    exact EV.ite (ET.and (ET.cmp (EV.lenL T.len (EV.var 5) (xs := (endsF ws k).map fun i => .d (.int i)) lst_frz) EV.int cb_eqI rfl) (q := false) (fun q => absurd (by simpa using q) (fun z : (((endsF ws k).length : Nat) : Int) = 2 => h2 (by omega)))) (fun q => by simp at q) (fun q => EV.var 2)
end
end K32

set_option Elab.async false
set_option maxRecDepth 100000
set_option maxHeartbeats 4000000
set_option linter.all false
namespace K32
open PySem PySem.Spec L2 DV
/-! ### levels -/
def wayAt (ws : List (Option Int)) (k : Nat) (b : Int) : Int := (ws.getD k none).getD (betF ws k b)
def levC (b w : Int) : Int := if w = 2 then 2 else if w = 1 then 1 else if b = 0 then 0 else 2
def levAt (cs : List Nat) (b : Int) (k : Nat) : Int := levC b (wayAt (strongs cs b) k b)
def levF (cs : List Nat) (b : Int) : List Int := (List.range cs.length).map (levAt cs b)
theorem lev_len (cs : List Nat) (b : Int) : (levF cs b).length = cs.length := by simp [levF]
theorem levC_in (b w : Int) : 0 ≤ levC b w ∧ levC b w ≤ 2 := by unfold levC; split; omega; split; omega; split <;> omega
theorem lev_in {cs : List Nat} {b x : Int} (h : x ∈ levF cs b) : 0 ≤ x ∧ x ≤ 2 := by
  obtain ⟨k, _, rfl⟩ := List.mem_map.mp h
  exact levC_in _ _
theorem enm_inv {ds : List PyData} {i : Nat} {d : PyData} (h : (enm ds)[i]? = some d) : ∃ e, ds[i]? = some e ∧ d = .tuple [.int (i : Int), e] := by
  have hi := lt_of_get h
  rw [enm_len] at hi
  have h2 : ds[i]? = some ds[i] := List.getElem?_eq_getElem hi
  have := enm_get h2
  rw [this] at h
  exact ⟨_, h2, (Option.some.inj h).symm⟩
def letI' (pre : List Nat) : List Int := pre.filterMap fun c => if inB (wayF c) = true then wayF c else none
theorem inB_cases {o : Option Int} (h : inB o = true) : o = some 0 ∨ o = some 1 := of_decide_eq_true h
theorem filt_let (pre : List Nat) : (pre.filter fun c => inB (wayF c)).map (fun c => oD (wayF c)) = (letI' pre).map .int := by
  induction pre with
  | nil => rfl
  | cons c pre ih =>
    unfold letI' at ih ⊢
    by_cases h : inB (wayF c) = true
    · rcases inB_cases h with q | q
      · rw [List.filter_cons, if_pos h, List.map_cons, ih, List.filterMap_cons, if_pos h, q]; rfl
      · rw [List.filter_cons, if_pos h, List.map_cons, ih, List.filterMap_cons, if_pos h, q]; rfl
    · rw [List.filter_cons, if_neg h, ih, List.filterMap_cons, if_neg h]
theorem let_len (pre : List Nat) : (letI' pre).length ≤ pre.length := List.length_filterMap_le _ _
theorem let_app (a b : List Nat) : letI' (a ++ b) = letI' a ++ letI' b := by unfold letI'; rw [List.filterMap_append]
theorem let_one (c : Nat) (l : Int) : step1 l c = (letI' [c]).getLast?.getD l := by
  rcases way_cases c with h | h | h | h <;> simp [step1, letI', h, inB]
theorem last_let (b : Int) : ∀ pre : List Nat, lastF pre b = (letI' pre).getLast?.getD b := fun pre => by
  suffices h : ∀ n, ∀ pre : List Nat, pre.length = n → lastF pre b = (letI' pre).getLast?.getD b from h _ pre rfl
  intro n
  induction n with
  | zero => intro pre h; rw [List.eq_nil_of_length_eq_zero h]; rfl
  | succ n ih =>
    intro pre h
    have hne : pre ≠ [] := fun q => by rw [q] at h; simp at h
    obtain ⟨q, c, rfl⟩ : ∃ q c, pre = q ++ [c] := ⟨pre.dropLast, pre.getLast hne, (List.dropLast_concat_getLast hne).symm⟩
    have h1 : lastF (q ++ [c]) b = step1 (lastF q b) c := by unfold lastF; rw [List.foldl_append]; rfl
    rw [h1, ih q (by simpa using h), let_app, let_one, List.getLast?_append]
    cases (letI' [c]).getLast? <;> rfl
theorem last_in {b : Int} (hb : b = 0 ∨ b = 1) (pre : List Nat) : lastF pre b = 0 ∨ lastF pre b = 1 := by
  suffices h : ∀ l : Int, (l = 0 ∨ l = 1) → lastF pre l = 0 ∨ lastF pre l = 1 from h b hb
  unfold lastF
  induction pre with
  | nil => exact fun l h => h
  | cons c pre ih =>
    intro l h
    refine ih _ ?_
    unfold step1
    split
    · exact .inl rfl
    · split
      · exact .inr rfl
      · exact h
theorem atI_last {ns : List Int} : atI ns (-1) = ns.getLast? := by
  cases ns with
  | nil => rfl
  | cons n ns =>
    have e : ixN (n :: ns).length (-1) = some ns.length := by
      unfold ixN
      rw [if_neg (by omega), List.length_cons, if_pos (by omega)]
      congr 1
      omega
    unfold atI
    rw [e, List.getLast?_eq_getElem?]
    rfl
def baseF (cs : List Nat) : Int := (letI' cs).head?.getD 0
abbrev encS (c : Nat) : PyData := .str ⟨#[c]⟩
theorem IV.S {X : Cx} {tg iter : Expr} {Γ : Gam} {M M1 : List MC} {cs : List Nat} (h : EV X iter Γ M (.d (T cs)) M1) : IV X tg iter Γ M (cs.map encS) M1 := by
  have := IV.str (tg := tg) h
  rwa [sgn_S] at this
theorem cutS_S (cs : List Nat) (lo hi : Option Int) : cutS (S cs) lo hi = S (cutG cs lo hi) := by
  unfold cutS cutG
  rw [S_len]
abbrev rLev : List PyData → PyData → Prop := fun ds r => ∃ (cs : List Nat) (b : Int), ds = [T cs, .int b] ∧ cs.length ≤ 900 ∧ r = .list ((levF cs b).map .int)
abbrev rBase : List PyData → PyData → Prop := fun ds r => ∃ (cs : List Nat), ds = [T cs] ∧ r = .int (baseF cs)
abbrev rStr : List PyData → PyData → Prop := fun ds r => ∃ (cs : List Nat) (b : Int) (k : Nat), ds = [T cs, .int b, .int (k : Nat)] ∧ (b = 0 ∨ b = 1) ∧ k < cs.length ∧ cs.length ≤ 900 ∧ r = oD (strongF cs b k)
abbrev rLevL : List PyData → PyData → Prop := fun ds r => ∃ (cs : List Nat) (b : Int), ds = [T cs, .int b] ∧ (b = 0 ∨ b = 1) ∧ cs.length ≤ 900 ∧ r = .list ((levF cs b).map .int)
section
variable {P : Program} {w : World} {K : PySem.W.Frag} {mg : Str → Option Value} {base : Heap}
abbrev sBase : Stmt := top 15
abbrev nBase : List Str := ["text", "sign"]
theorem scBase : FnScope nBase ["text"] (defScope sBase) := ⟨rfl, rfl, rfl, by decide +kernel, rfl, by decide +kernel, by decide +kernel⟩
theorem ok_base {f : Addr} {fd : FuncData} (F : Fun K "base_of" "base_of" sBase f fd) {k : Nat} (D : DefR P w K mg base k "way_of" rWay) : FnOk P w K mg base CX0 (k + 1) f fd ["text"] (spR K rBase) := by
  refine fn_okD F scBase (fun ds r h => by obtain ⟨c, rfl, _⟩ := h; rfl) fun cdv A outer s H E hr ds r h => ?_
  obtain ⟨cs, rfl, rfl⟩ := h
  refine SX.for .never rfl (IV.S (EV.var 0)) (fun i Γ' M' => ∃ e1, Γ' = [some (.d (T cs)), e1] ∧ M' = [] ∧ letI' (cs.take i) = []) ⟨_, rfl, rfl, rfl⟩ ?_ ?_
  · rintro i d Γ' M' hd ⟨e1, rfl, rfl, hn⟩
    rw [List.getElem?_map] at hd
    obtain ⟨c, hc, rfl⟩ := Option.map_eq_some_iff.mp hd
    refine ⟨_, _, TV.name 1 scBase.nd, ?_⟩
    refine SX.when (ET.cmp (EV.call D hr (EA.one (EV.var 1)) rfl ⟨c, rfl, rfl⟩) (EV.tup (ds := [.int 0, .int 1]) (EA.cons EV.int (EA.one EV.int)) (by decide)) cb_inO rfl) (fun e => ?_) (fun e => ?_)
    · refine SX.ret (x := .d (oD (wayF c))) (M1 := []) (EV.call D hr (EA.one (EV.var 1)) rfl ⟨c, rfl, rfl⟩) ?_
      show AV.d _ = AV.d _
      have hs : cs = cs.take i ++ ([c] ++ cs.drop (i + 1)) := by
        have := List.take_append_drop i cs
        have h2 : cs.drop i = c :: cs.drop (i + 1) := by
          have hi := lt_of_get hc
          rw [List.drop_eq_getElem_cons hi]
          congr 1
          rw [List.getElem?_eq_getElem hi] at hc
          exact Option.some.inj hc
        rw [h2] at this
        exact this.symm
      have hb : baseF cs = ((letI' [c]).head?.getD 0) := by
        unfold baseF
        rw [hs, let_app, hn, List.nil_append, let_app]
        have : (letI' [c]).length = 1 := by
          unfold letI'
          rw [List.filterMap_cons, if_pos e]
          rcases inB_cases e with q | q <;> rw [q] <;> rfl
        rcases q : letI' [c] with _ | ⟨x, r⟩
        · rw [q] at this; simp at this
        · rfl
      rw [hb]
      unfold letI'
      rw [List.filterMap_cons, if_pos e]
      rcases inB_cases e with q | q <;> rw [q] <;> rfl
    · refine SX.nil ⟨_, rfl, rfl, ?_⟩
      rw [List.take_succ, hc, let_app, hn]
      show letI' [c] = []
      unfold letI'
      rw [List.filterMap_cons, if_neg (by rw [e]; simp)]; rfl
  · rintro Γ' M' ⟨e1, rfl, rfl, hn⟩
    refine SX.ret EV.int ?_
    show AV.d _ = AV.d _
    rw [List.length_map, List.take_length] at hn
    rw [baseF, hn]; rfl
abbrev sLev : Stmt := top 16
abbrev nLev : List Str := ["text", "base", "ways", "found", "place", "way"]
theorem scLev : FnScope nLev ["text", "base"] (defScope sLev) := ⟨rfl, rfl, rfl, by decide +kernel, rfl, by decide +kernel, by decide +kernel⟩
theorem ok_lev {f : Addr} {fd : FuncData} (F : Fun K "levels_of" "levels_of" sLev f fd) (Tx : Txt K mg) {k : Nat} (D1 : DefR P w K mg base k "plain_ways" rPlain) (D2 : DefR P w K mg base k "between_ways" rBet) : FnOk P w K mg base CX0 (k + 1) f fd ["text", "base"] (spR K rLev) := by
  refine fn_okD F scLev (fun ds r h => by obtain ⟨c, b, rfl, _⟩ := h; rfl) fun cdv A outer s H E hr ds r h => ?_
  obtain ⟨cs, b, rfl, hlen, rfl⟩ := h
  generalize hws : strongs cs b = ws
  have hwl : ws.length = cs.length := by rw [← hws]; simp [strongs]
  refine SX.asg 2 scLev.nd (EV.call D1 hr (EA.cons (EV.var 0) (EA.one (EV.var 1))) rfl ⟨cs, b, rfl, by omega, rfl⟩) ?_
  rw [hws]
  refine SX.asg 3 scLev.nd (EV.lstM EA.nil (by decide)) ?_
  refine SX.for .never rfl (IV.enum Tx.enumerate (EV.var 2)) (fun i Γ' M' => ∃ e4 e5, Γ' = [some (.d (T cs)), some (.d (.int b)), some (.d (.list (ws.map oD))), some (.m 0), e4, e5] ∧ M' = [cI ((List.range i).map (levAt cs b))]) ⟨_, _, rfl, rfl⟩ ?_ ?_
  · rintro i d Γ' M' hd ⟨e4, e5, rfl, rfl⟩
    obtain ⟨d', hd', rfl⟩ := enm_inv hd
    rw [List.getElem?_map] at hd'
    obtain ⟨o, ho, rfl⟩ := Option.map_eq_some_iff.mp hd'
    have hi := lt_of_get ho
    refine ⟨_, _, TV.tup rfl (TVS.cons (TV.name 4 scLev.nd) (TVS.cons (TV.name 5 scLev.nd) TVS.nil)), ?_⟩
    have hwa : wayAt ws i b = o.getD (betF ws i b) := by unfold wayAt; rw [getD_of ho]
    have hla : levAt cs b i = levC b (wayAt ws i b) := by unfold levAt; rw [hws]
    have fin : ∀ e4 e5, ∃ e4' e5', ([some (.d (T cs)), some (.d (.int b)), some (.d (.list (ws.map oD))), some (.m 0), e4, e5] : Gam) = [some (.d (T cs)), some (.d (.int b)), some (.d (.list (ws.map oD))), some (.m 0), e4', e5'] ∧
        [MC.lst (((List.range i).map (levAt cs b)).map (fun n => AV.d (.int n)) ++ [AV.d (.int (levC b (wayAt ws i b)))])] = [cI ((List.range (i + 1)).map (levAt cs b))] := fun e4 e5 => ⟨_, _, rfl, by rw [map_range_succ, hla]; simp⟩
    have hroom : (((List.range i).map (levAt cs b)).map (fun n => AV.d (.int n))).length < sizeLine := by simp; exact small_lt (by omega)
    have main : ∀ {rest D}, (∀ Γ' M', (∃ e4 e5, Γ' = [some (.d (T cs)), some (.d (.int b)), some (.d (.list (ws.map oD))), some (.m 0), e4, e5] ∧ M' = [cI ((List.range (i + 1)).map (levAt cs b))]) → D.nx Γ' M') →
        rest = ((defBody sLev).getD 2 (.Pass ⟨0,0,0,0⟩) |> fun | .For _ _ b _ _ => b.drop 1 | _ => []) →
        SX (defX P w K mg base nLev "levels_of" sLev f cdv A outer s H E) rest [some (.d (T cs)), some (.d (.int b)), some (.d (.list (ws.map oD))), some (.m 0), some (.d (.int (i : Nat))), some (.d (.int (wayAt ws i b)))] [cI ((List.range i).map (levAt cs b))] D := by
      rintro rest D hD rfl
      refine SX.ite (ET.cmp (EV.var 5) EV.int cb_eqI rfl) (fun e => ?_) (fun e => ?_)
      · have e : wayAt ws i b = 2 := of_decide_eq_true e
        have e2 : levC b (wayAt ws i b) = 2 := by unfold levC; rw [if_pos e]
        refine SX.app0 (EV.var 3) rfl EV.int hroom (SX.nil (SX.nil (hD _ _ ?_)))
        have := fin (some (.d (.int (i : Nat)))) (some (.d (.int (wayAt ws i b))))
        rw [e2] at this
        exact this
      refine SX.ite (ET.cmp (EV.var 5) EV.int cb_eqI rfl) (fun e' => ?_) (fun e' => ?_)
      · have e : ¬ wayAt ws i b = 2 := of_decide_eq_false e
        have e' : wayAt ws i b = 1 := of_decide_eq_true e'
        have e2 : levC b (wayAt ws i b) = 1 := by unfold levC; rw [if_neg e, if_pos e']
        refine SX.app0 (EV.var 3) rfl EV.int hroom (SX.nil (SX.nil (SX.nil (hD _ _ ?_))))
        have := fin (some (.d (.int (i : Nat)))) (some (.d (.int (wayAt ws i b))))
        rw [e2] at this
        exact this
      · have e : ¬ wayAt ws i b = 2 := of_decide_eq_false e
        have e' : ¬ wayAt ws i b = 1 := of_decide_eq_false e'
        have e2 : levC b (wayAt ws i b) = if b = 0 then 0 else 2 := by unfold levC; rw [if_neg e, if_neg e']
        refine SX.app0 (x := .d (.int (levC b (wayAt ws i b)))) (EV.var 3) rfl ?_ hroom (SX.nil (SX.nil (SX.nil (hD _ _ (fin _ _)))))
        rw [e2]
        exact (EV.iteI (ET.cmp (EV.var 1) EV.int cb_eqI rfl) (fun _ => EV.int) (fun _ => EV.int)).cast (by simp)
    cases o with
    | none =>
      refine SX.when (ET.cmp (EV.var 5) EV.non cb_isO rfl) (fun _ => ?_) (fun e => by cases e)
      refine SX.asg 5 scLev.nd (EV.call D2 hr (EA.cons (EV.var 2) (EA.cons (EV.var 4) (EA.one (EV.var 1)))) rfl ⟨ws, i, b, rfl, by omega, rfl⟩) (SX.nil ?_)
      have e : betF ws i b = wayAt ws i b := hwa.symm
      rw [e]
      exact main (fun _ _ h => h) rfl
    | some y =>
      refine SX.when (ET.cmp (EV.var 5) EV.non cb_isO rfl) (fun e => by cases e) (fun _ => ?_)
      have e : y = wayAt ws i b := hwa.symm
      show SX _ _ [_, _, _, _, some (.d (.int (i : Nat))), some (.d (.int y))] _ _
      rw [e]
      exact main (fun _ _ h => h) rfl
  · rintro Γ' M' ⟨e4, e5, rfl, rfl⟩
    rw [enm_len, List.length_map, hwl]
    exact SX.retM (ds := (levF cs b).map .int) (EV.var 3) (by simp [levF, Function.comp_def]) rfl
end
end K32

set_option Elab.async false
set_option maxRecDepth 100000
set_option maxHeartbeats 4000000
set_option linter.all false
namespace K32
open PySem PySem.Spec L2 DV
section
variable {P : Program} {w : World} {K : PySem.W.Frag} {mg : Str → Option Value} {base : Heap}
abbrev sLWay : Stmt := top 31
theorem scLWay : FnScope ["sign"] ["sign"] (defScope sLWay) := ⟨rfl, rfl, rfl, by decide +kernel, rfl, by decide +kernel, by decide +kernel⟩
theorem ok_lway {f : Addr} {fd : FuncData} (F : Fun K "_law_way" "_law_way" sLWay f fd) : FnOk P w K mg base CX0 1 f fd ["sign"] (spR K rWay) := by
  refine fn_okD F scLWay (fun ds r h => by obtain ⟨c, rfl, _⟩ := h; rfl) fun cdv A outer s H E hr ds r h => ?_
  obtain ⟨c, rfl, rfl⟩ := h
  refine SX.when (q := decide (c ∈ sSMALL.cps.toList)) (ET.cmp (EV.var 0) EV.str cb_inSign rfl) (fun e => ?_) (fun e => ?_)
  · refine SX.ret EV.int ?_
    show AV.d _ = AV.d _
    rw [wayF, if_pos (of_decide_eq_true e)]; rfl
  refine SX.when (q := decide (c ∈ sLARGE.cps.toList)) (ET.cmp (EV.var 0) EV.str cb_inSign rfl) (fun e2 => ?_) (fun e2 => ?_)
  · refine SX.ret EV.int ?_
    show AV.d _ = AV.d _
    rw [wayF, if_neg (of_decide_eq_false e), if_pos (of_decide_eq_true e2)]; rfl
  refine SX.ret (M1 := []) (x := .d (oD (wayF c))) (EV.ite (p := decide (c ∈ sDIGITS.cps.toList)) (ET.cmp (EV.var 0) EV.str cb_inSign rfl) (fun e3 => ?_) (fun e3 => ?_)) rfl
  · rw [wayF, if_neg (of_decide_eq_false e), if_neg (of_decide_eq_false e2), if_pos (of_decide_eq_true e3)]
    exact EV.int
  · rw [wayF, if_neg (of_decide_eq_false e), if_neg (of_decide_eq_false e2), if_neg (of_decide_eq_false e3)]
    exact EV.non
theorem room_up {k : Nat} {A : Around} (h : Room k A) : Room k A := h
abbrev sStr : Stmt := top 33
abbrev nStr : List Str := ["text", "base", "k", "way", "letters", "sign"]
theorem scStr : FnScope nStr ["text", "base", "k"] (defScope sStr) := ⟨rfl, rfl, rfl, by decide +kernel, rfl, by decide +kernel, by decide +kernel⟩
theorem strong_eq {cs : List Nat} {b : Int} {k c : Nat} (h : cs[k]? = some c) : strongF cs b k = strongC c (lastF (cs.take k) b) := by unfold strongF; rw [getD_of h]
theorem S_le {cs : List Nat} (h : cs.length ≤ 100000) : (S cs).length ≤ sizeLine := by rw [S_len]; exact small_le h
theorem S_at {cs : List Nat} {k c : Nat} (h : cs[k]? = some c) : atI (S cs).cps.toList (k : Nat) = some c := atI_nat (by simpa using h)
theorem ok_strong {f : Addr} {fd : FuncData} (F : Fun K "_law_strong" "_law_strong" sStr f fd) (Tx : Txt K mg) {k : Nat} (D : DefR P w K mg base k "_law_way" rWay) : FnOk P w K mg base CX0 (k + 1) f fd ["text", "base", "k"] (spR K rStr) := by
  refine fn_okD F scStr (fun ds r h => by obtain ⟨c, b, k, rfl, _⟩ := h; rfl) fun cdv A outer s H E hr ds r h => ?_
  obtain ⟨cs, b, k, rfl, hb, hk, hlen, rfl⟩ := h
  obtain ⟨c, hc⟩ : ∃ c, cs[k]? = some c := ⟨_, List.getElem?_eq_getElem hk⟩
  rw [strong_eq hc]
  have hs0 : cs.length ≤ sizeLine := small_le (by omega)
  refine SX.asg 3 scStr.nd (EV.call D hr (EA.one (EV.ixS (EV.var 0) (EV.var 2) (S_le (by omega)) (S_at hc))) rfl ⟨c, rfl, rfl⟩) ?_
  refine SX.when (ET.cmp (EV.var 3) EV.int cb_neO rfl) (fun e => ?_) (fun e => ?_)
  · have e : ¬ wayF c = some 2 := by simpa using e
    refine SX.ret (EV.var 3) ?_
    show AV.d _ = AV.d _
    rw [strongC, if_neg (fun q => e q.1)]
  have e : wayF c = some 2 := by simpa using e
  have hl := let_len (cs.take k)
  refine SX.asgLc 4 (x := .d (.list ((letI' (cs.take k)).map .int))) (M1 := []) ?_ ?_
  · refine LC.cast (LC.lcFilter (as := cs.take k) (enc := encS) (fun c => oD (wayF c)) (fun c => inB (wayF c)) rfl scStr.nd (own := [("sign", 5)]) (by show blkC nStr (defScope sStr) _ _ = true; decide +kernel)
      (IV.S (((EV.slS (EV.var 0) EO.none (EO.some (EV.var 2)) (S_le (by omega)))).cast (by rw [cutS_S, cut_take]))) (Nat.le_trans (by simp; omega) hs0)
      (fun c' => [some (.d (T cs)), some (.d (.int b)), some (.d (.int (k : Nat))), some (.d (oD (wayF c))), none, some (.d (encS c'))]) [5] (by decide)
      (fun o _ s H C cl fp => TV.name 5 scStr.nd) (fun o _ s H C cl fp => ET.cmp (EV.call D hr (EA.one (EV.var 5)) rfl ⟨o, rfl, rfl⟩) (EV.lst (ds := [.int 0, .int 1]) (EA.cons EV.int (EA.one EV.int)) (by decide)) cb_inOL rfl)
      (fun o _ _ s H C cl fp => EV.call D hr (EA.one (EV.var 5)) rfl ⟨o, rfl, rfl⟩)) (by rw [filt_let])
  have hlast : lastF (cs.take k) b = (letI' (cs.take k)).getLast?.getD b := last_let b _
  have hin := last_in hb (cs.take k)
  generalize letI' (cs.take k) = ls at hlast hl
  refine SX.ret (M1 := []) (x := .d (oD (strongC c (lastF (cs.take k) b)))) ?_ rfl
  refine EV.cast (EV.iteI (ET.cmp (x := .d (.int (lastF (cs.take k) b))) (M1 := []) ?_ EV.int cb_eqI rfl) (fun _ => EV.int) (fun _ => EV.int)) ?_
  · refine EV.ite (ET.cmp (EV.lenL Tx.len (EV.var 4) (xs := ls.map fun n => .d (.int n)) lst_frz) EV.int cb_gt rfl) (fun q => ?_) (fun q => ?_)
    · refine EV.ixL (EV.var 4) (EV.neg EV.int) (xs := ls.map fun n => .d (.int n)) lst_frz ?_
      rcases z : ls.getLast? with _ | y
      · rw [List.getLast?_eq_none_iff] at z
        rw [z] at q; simp at q
      · refine at_cell ?_
        show atI ls (-1) = _
        rw [atI_last, hlast, z]; rfl
    · have z : ls = [] := by
        have q := of_decide_eq_false q
        rw [List.length_map] at q
        exact List.eq_nil_of_length_eq_zero (by omega)
      rw [hlast, z]
      exact EV.var 1
  unfold strongC
  rw [e]
  rcases hin with q | q <;> rw [q] <;> rfl
theorem rg_inv {n i : Nat} {d : PyData} (h : ((rg n).map PyData.int)[i]? = some d) : i < n ∧ d = .int (i : Nat) := by
  have hi := lt_of_get h
  rw [List.length_map, rg_len] at hi
  refine ⟨hi, ?_⟩
  rw [List.getElem?_map, rg, List.getElem?_map, List.getElem?_range hi] at h
  exact (Option.some.inj h).symm
section
variable {X : Cx} {e tg : Expr} {Γ : Gam} {M M1 : List MC} {p pos : Pos}
theorem EV.lenC {cs : List Nat} (hm : X.mg "len" = none) (h : EV X e Γ M (.d (T cs)) M1) (hl : cs.length ≤ 100000) (hg : Gl X "len" := by rfl) (he : starEach [e] X.env = (false, eval e X.env) :: starEach [] X.env := by rfl) (hpl : (backTo pos (starEach [] X.env)).any (·.1) = false := by rfl) :
    EV X (.Call (.Name "len" p) [e] [] pos) Γ M (.d (.int (cs.length : Nat))) M1 := (EV.lenS hm h (S_le hl) hg he hpl).cast (by rw [S_len])
theorem IV.rgN {n : Nat} (hm : X.mg "range" = none) (h : EV X e Γ M (.d (.int (n : Nat))) M1) (h2 : n ≤ 100000) (hg : Gl X "range" := by rfl) (he : starEach [e] X.env = (false, eval e X.env) :: starEach [] X.env := by rfl) (hs : starEach [e] X.env = [(false, eval e X.env)] := by rfl) :
    IV X tg (.Call (.Name "range" p) [e] [] pos) Γ M ((rg n).map .int) M1 := IV.rg1 hm h (by omega) (by omega) hg he hs
end
theorem rg_map (f : Nat → Option Int) (n : Nat) : (AV.d (.list ((rg n).map fun j => oD (f j.toNat)))) = .d (.list (((List.range n).map f).map oD)) := by
  simp [rg, Function.comp_def]
abbrev sLL : Stmt := top 32
abbrev nLL : List Str := ["text", "base", "found", "k", "ways", "way", "ahead", "behind", "ends", "j", "one"]
theorem scLL : FnScope nLL ["text", "base"] (defScope sLL) := ⟨rfl, rfl, rfl, by decide +kernel, rfl, by decide +kernel, by decide +kernel⟩
def dLL : List (Key × AV) := [(.inl 1, .d (.int 1)), (.inl 2, .d (.int 2))]
theorem dLL_get {b w : Int} (hb : b = 0 ∨ b = 1) : (lkA dLL (.inl w)).getD (.d (.int (2 * b))) = .d (.int (levC b w)) := by
  unfold levC
  by_cases h2 : w = 2
  · subst h2; rfl
  · by_cases h1 : w = 1
    · subst h1; rfl
    · rw [if_neg h2, if_neg h1]
      have e1 : ¬ (1 : Int) = w := fun z => h1 z.symm
      have e2 : ¬ (2 : Int) = w := fun z => h2 z.symm
      have : lkA dLL (.inl w) = none := by simp [lkA, dLL, List.find?_cons, e1, e2]
      rw [this]
      rcases hb with rfl | rfl <;> rfl
theorem ok_levL {f : Addr} {fd : FuncData} (F : Fun K "_law_levels" "_law_levels" sLL f fd) (Tx : Txt K mg) {k : Nat} (D : DefR P w K mg base k "_law_strong" rStr) : FnOk P w K mg base CX0 (k + 1) f fd ["text", "base"] (spR K rLevL) := by
  refine fn_okD F scLL (fun ds r h => by obtain ⟨c, b, rfl, _⟩ := h; rfl) fun cdv A outer s H E hr ds r h => ?_
  obtain ⟨cs, b, rfl, hb, hlen, rfl⟩ := h
  have hs0 : cs.length ≤ sizeLine := small_le (by omega)
  generalize hws : strongs cs b = ws
  have hwl : ws.length = cs.length := by rw [← hws]; simp [strongs]
  refine SX.asg 2 scLL.nd (EV.lstM EA.nil (by decide)) ?_
  refine SX.for .never rfl (IV.rgN Tx.range (EV.lenC Tx.len (EV.var 0) (by omega)) (by omega)) (fun i Γ' M' => ∃ e3 e4 e5 e6 e7 e8 gs, Γ' = [some (.d (T cs)), some (.d (.int b)), some (.m 0), e3, e4, e5, e6, e7, e8, none, none] ∧ M' = cI ((List.range i).map (levAt cs b)) :: gs) ⟨_, _, _, _, _, _, _, rfl, rfl⟩ ?_ ?_
  · rintro i d Γ' M' hd ⟨e3, e4, e5, e6, e7, e8, gs, rfl, rfl⟩
    obtain ⟨hi, rfl⟩ := rg_inv hd
    have ho : ws[i]? = some (strongF cs b i) := by rw [← hws, strongs, List.getElem?_map, List.getElem?_range hi]; rfl
    generalize strongF cs b i = o at ho
    refine ⟨_, _, TV.name 3 scLL.nd, ?_⟩
    refine SX.asgLc 4 (x := .d (.list (ws.map oD))) (M1 := cI ((List.range i).map (levAt cs b)) :: gs) ?_ ?_
    · refine LC.cast (LC.lcMap (as := rg cs.length) (enc := .int) (fun j => oD (strongF cs b j.toNat)) rfl scLL.nd (own := [("j", 9)]) (by show blkC nLL (defScope sLL) _ _ = true; decide +kernel)
        (IV.rgN Tx.range (EV.lenC Tx.len (EV.var 0) (by omega)) (by omega)) (by rw [rg_len]; exact hs0)
        (fun j => [some (.d (T cs)), some (.d (.int b)), some (.m 0), some (.d (.int (i : Nat))), e4, e5, e6, e7, e8, some (.d (.int j)), none]) [9] (by decide)
        (fun o _ s H C cl fp => TV.name 9 scLL.nd) (fun a ha s H C cl fp => ?_)) (by rw [← hws]; exact rg_map _ _)
      obtain ⟨h0, h1⟩ := mem_rg.mp ha
      exact EV.call D hr (EA.cons (EV.var 0) (EA.cons (EV.var 1) (EA.one (EV.var 9)))) rfl ⟨cs, b, a.toNat, by rw [Int.toNat_of_nonneg h0], hb, by omega, hlen, rfl⟩
    have slw : ∀ {M}, lstOf M (.d (.list (ws.map oD))) = some ((ws.map oD).map .d) := rfl
    refine SX.asg 5 scLL.nd (EV.ixL (z := .d (oD o)) (EV.var 4) (EV.var 3) slw (atI_nat (by rw [List.getElem?_map, List.getElem?_map, ho]; rfl))) ?_
    have hwa : wayAt ws i b = o.getD (betF ws i b) := by unfold wayAt; rw [getD_of ho]
    have hla : levAt cs b i = levC b (wayAt ws i b) := by unfold levAt; rw [hws]
    have l1 := ahead_len ws i
    have l2 := behind_len ws i
    have hs1 : ws.length ≤ sizeLine := small_le (by omega)
    have main : ∀ {rest D e6 e7 e8}, (∀ Γ' M', (∃ e3 e4 e5 e6 e7 e8 gs, Γ' = [some (.d (T cs)), some (.d (.int b)), some (.m 0), e3, e4, e5, e6, e7, e8, none, none] ∧ M' = cI ((List.range (i + 1)).map (levAt cs b)) :: gs) → D.nx Γ' M') →
        rest = ((defBody sLL).getD 1 (.Pass ⟨0,0,0,0⟩) |> fun | .For _ _ b _ _ => b.drop 3 | _ => []) →
        SX (defX P w K mg base nLL "_law_levels" sLL f cdv A outer s H E) rest [some (.d (T cs)), some (.d (.int b)), some (.m 0), some (.d (.int (i : Nat))), some (.d (.list (ws.map oD))), some (.d (.int (wayAt ws i b))), e6, e7, e8, none, none] (cI ((List.range i).map (levAt cs b)) :: gs) D := by
      rintro rest D e6 e7 e8 hD rfl
      refine SX.append (x := .d (.int (levC b (wayAt ws i b)))) (M2 := (cI ((List.range i).map (levAt cs b)) :: gs) ++ [.dct dLL]) (EV.var 2) rfl ?_ rfl (by simp; exact small_lt (by omega)) (SX.nil (hD _ _ ⟨_, _, _, _, _, _, gs ++ [.dct dLL], rfl, ?_⟩))
      · refine EV.cast (EV.dget2 (ks := dLL) hr (EV.dispM (r := dLL) ⟨_, _, _, _, rfl, EV.int, rfl, EV.int, ⟨_, _, _, _, rfl, EV.int, rfl, EV.int, rfl⟩⟩) (EV.var 5) (EV.mul EV.int (EV.var 1) (.inl ⟨by decide, by decide⟩)) rfl ?_ ?_) (dLL_get hb)
        · rw [List.getElem?_append_right (Nat.le_refl _), Nat.sub_self]; rfl
        · rw [List.getElem?_append_right (Nat.le_refl _), Nat.sub_self]; rfl
      · rw [map_range_succ, hla]
        show _ = _ :: _
        simp [cI]
    cases o with
    | some y =>
      refine SX.when (ET.cmp (EV.var 5) EV.non cb_isO rfl) (fun e => by cases e) (fun _ => ?_)
      have e : y = wayAt ws i b := hwa.symm
      show SX _ _ [_, _, _, _, _, some (.d (.int y)), _, _, _, _, _] _ _
      rw [e]
      exact main (fun _ _ h => h) rfl
    | none =>
      refine SX.when (ET.cmp (EV.var 5) EV.non cb_isO rfl) (fun _ => ?_) (fun e => by cases e)
      refine SX.asg 6 scLL.nd (x := .d (.list ((aheadF ws i).map .int))) (M1 := cI ((List.range i).map (levAt cs b)) :: gs) ?_ ?_
      · refine EV.cast (EV.slL (ds := (nmsO (ws.take i)).map .int) ((LC.lcFilter (as := ws.take i) (enc := oD) oD (·.isSome) rfl scLL.nd (own := [("one", 10)]) (by show blkC nLL (defScope sLL) _ _ = true; decide +kernel) (IV.list ((EV.slL (EV.var 4) EO.none (EO.some (EV.var 3)) slw).cast (by rw [cutG_map, cut_take]))) (Nat.le_trans (by simp; omega) hs1) (fun o => [some (.d (T cs)), some (.d (.int b)), some (.m 0), some (.d (.int (i : Nat))), some (.d (.list (ws.map oD))), some (.d .none), e6, e7, e8, none, some (.d (oD o))]) [10] (by decide)
          (fun o _ s H C cl fp => TV.name 10 scLL.nd) (fun o _ s H C cl fp => ET.cmp (EV.var 10) EV.non cb_notO rfl) (fun o _ _ s H C cl fp => EV.var 10)).ev.cast (by rw [filt_nms])) (EO.some (EV.neg EV.int)) EO.none rfl) ?_
        rw [cutG_map]; rfl
      refine SX.asg 7 scLL.nd (x := .d (.list ((behindF ws i).map .int))) (M1 := cI ((List.range i).map (levAt cs b)) :: gs) ?_ ?_
      · refine EV.cast (EV.slL (ds := (nmsO (ws.drop i)).map .int) ((LC.lcFilter (as := ws.drop i) (enc := oD) oD (·.isSome) rfl scLL.nd (own := [("one", 10)]) (by show blkC nLL (defScope sLL) _ _ = true; decide +kernel) (IV.list ((EV.slL (EV.var 4) (EO.some (EV.var 3)) EO.none slw).cast (by rw [cutG_map, cut_drop]))) (Nat.le_trans (by simp) hs1) (fun o => [some (.d (T cs)), some (.d (.int b)), some (.m 0), some (.d (.int (i : Nat))), some (.d (.list (ws.map oD))), some (.d .none), some (.d (.list ((aheadF ws i).map .int))), e7, e8, none, some (.d (oD o))]) [10] (by decide)
          (fun o _ s H C cl fp => TV.name 10 scLL.nd) (fun o _ s H C cl fp => ET.cmp (EV.var 10) EV.non cb_notO rfl) (fun o _ _ s H C cl fp => EV.var 10)).ev.cast (by rw [filt_nms])) EO.none (EO.some EV.int) rfl) ?_
        rw [cutG_map]; rfl
      refine SX.asgLc 8 (x := .d (.list ((endsF ws i).map .int))) (M1 := cI ((List.range i).map (levAt cs b)) :: gs) ?_ ?_
      · refine LC.cast (LC.lcMap (as := aheadF ws i ++ behindF ws i) (enc := .int) (fun i => .int (if 1 < i then 1 else i)) rfl scLL.nd (own := [("one", 10)]) (by show blkC nLL (defScope sLL) _ _ = true; decide +kernel) (IV.list ((EV.cat (EV.var 6) (EV.var 7) (ds := (aheadF ws i).map .int) (es' := (behindF ws i).map .int) rfl rfl (by simp; exact small_le (by omega))).cast (by rw [List.map_append]))) (by simp; exact small_le (by omega))
          (fun j => [some (.d (T cs)), some (.d (.int b)), some (.m 0), some (.d (.int (i : Nat))), some (.d (.list (ws.map oD))), some (.d .none), some (.d (.list ((aheadF ws i).map .int))), some (.d (.list ((behindF ws i).map .int))), e8, none, some (.d (.int j))]) [10] (by decide)
          (fun o _ s H C cl fp => TV.name 10 scLL.nd) (fun o _ s H C cl fp => EV.min2 rfl Tx.min (EV.var 10) EV.int)) ?_
        rw [endsF, List.map_map]; rfl
      have hw2 : wayAt ws i b = betF ws i b := hwa
      refine SX.asg 5 scLL.nd (x := .d (.int (wayAt ws i b))) (M1 := cI ((List.range i).map (levAt cs b)) :: gs) ?_ (SX.nil (main (fun _ _ h => h) rfl))
      rw [hw2]
      by_cases h2 : (endsF ws i).length = 2
      · obtain ⟨x, y, e⟩ : ∃ x y, endsF ws i = [x, y] := by
          rcases q : endsF ws i with _ | ⟨x, _ | ⟨y, _ | ⟨z, r⟩⟩⟩ <;> rw [q] at h2 <;> simp at h2
          exact ⟨x, y, rfl⟩
        rw [bet_two e, e]
        refine EV.ite (ET.and (ET.cmp (EV.lenL Tx.len (EV.var 8) (xs := [.d (.int x), .d (.int y)]) rfl) EV.int cb_eqI rfl) (fun _ => EW.and1 (ET.cmp (EV.ixL (EV.var 8) EV.int (xs := [.d (.int x), .d (.int y)]) (z := .d (.int x)) rfl rfl) (EV.ixL (EV.var 8) EV.int (xs := [.d (.int x), .d (.int y)]) (z := .d (.int y)) rfl rfl) cb_eqI rfl))) (fun q => ?_) (fun q => ?_)
        · have q' : x = y := by simpa using q
          rw [if_pos q']
          exact EV.ixL (EV.var 8) EV.int (xs := [.d (.int x), .d (.int y)]) (z := .d (.int x)) rfl rfl
        · have q' : ¬ x = y := by simpa using q
          rw [if_neg q']
          exact EV.var 1
      · rw [bet_not h2]
        exact EV.ite (ET.and (ET.cmp (EV.lenL Tx.len (EV.var 8) (xs := (endsF ws i).map fun i => .d (.int i)) lst_frz) EV.int cb_eqI rfl) (q := false) (fun q => absurd (by simpa using q) (fun z : (((endsF ws i).length : Nat) : Int) = 2 => h2 (by omega)))) (fun q => by simp at q) (fun q => EV.var 1)
  · rintro Γ' M' ⟨e3, e4, e5, e6, e7, e8, gs, rfl, rfl⟩
    rw [List.length_map, rg_len]
    exact SX.retM (ds := (levF cs b).map .int) (EV.var 2) (by simp [levF, Function.comp_def]) rfl
end
end K32

set_option Elab.async false
set_option maxRecDepth 100000
set_option maxHeartbeats 4000000
set_option linter.all false
namespace K32
open PySem PySem.Spec L2 DV
def fD (i : Nat) (v : Int) : PyData := if v < i then .int v else .none
theorem cut_ne {lv : List Int} {a b : Int} (h0 : 0 ≤ a) (h1 : a ≤ b) (h2 : b < lv.length) : cutG lv (some a) (some (b + 1)) ≠ [] := by
  obtain ⟨x, rfl⟩ := Int.eq_ofNat_of_zero_le h0
  obtain ⟨y, rfl⟩ := Int.eq_ofNat_of_zero_le (Int.le_trans h0 h1)
  have e : ((y : Nat) : Int) + 1 = ((y + 1 : Nat) : Int) := by omega
  rw [e, cut_nat lv x (y + 1) (by omega)]
  intro z
  have := congrArg List.length z
  simp at this
  omega
theorem fd_start (lv : List Int) : (List.replicate lv.length ([AV.d .none])).flatten = ((orderOf lv).map (fD 0)).map .d := by
  have h1 : (orderOf lv).map (fD 0) = List.replicate lv.length .none := by
    rw [List.eq_replicate_iff]
    refine ⟨by rw [List.length_map, order_len], fun d hd => ?_⟩
    obtain ⟨v, hv, rfl⟩ := List.mem_map.mp hd
    have := (order_mem.mp hv).1
    unfold fD
    rw [if_neg (by omega)]
  rw [h1, List.map_replicate]
  generalize lv.length = n
  induction n with
  | zero => rfl
  | succ n ih => rw [List.replicate_succ, List.flatten_cons, ih, List.replicate_succ]; rfl
theorem fd_step {lv : List Int} {i p : Nat} (h : (orderOf lv)[p]? = some (i : Int)) : (((orderOf lv).map (fD i)).map AV.d).set p (.d (.int i)) = ((orderOf lv).map (fD (i + 1))).map AV.d := by
  have nd := order_nodup lv
  refine List.ext_getElem? fun q => ?_
  obtain ⟨hp, he⟩ := List.getElem?_eq_some_iff.mp h
  by_cases e : p = q
  · subst e
    rw [List.getElem?_set_self (by simpa using hp), List.getElem?_map, List.getElem?_map, h]
    simp [fD]
    omega
  · rw [List.getElem?_set_ne e, List.getElem?_map, List.getElem?_map, List.getElem?_map, List.getElem?_map]
    cases hq : (orderOf lv)[q]? with
    | none => rfl
    | some v =>
      obtain ⟨hq1, hq2⟩ := List.getElem?_eq_some_iff.mp hq
      have hne : v ≠ i := fun z => by
        subst z
        exact e ((List.getElem_inj nd).mp (he.trans hq2.symm))
      have : fD i v = fD (i + 1) v := by
        unfold fD
        by_cases z : v < i
        · rw [if_pos z, if_pos (by omega)]
        · rw [if_neg z, if_neg (by omega)]
      simp [this]
theorem fd_end (lv : List Int) : (orderOf lv).map (fD lv.length) = (orderOf lv).map .int := by
  refine List.map_congr_left fun v hv => ?_
  unfold fD
  rw [if_pos (order_mem.mp hv).2]
section
variable {P : Program} {w : World} {K : PySem.W.Frag} {mg : Str → Option Value} {base : Heap}
abbrev sLO : Stmt := top 34
abbrev nLO : List Str := ["levels", "found", "k", "left", "j", "least"]
theorem scLO : FnScope nLO ["levels"] (defScope sLO) := ⟨rfl, rfl, rfl, by decide +kernel, rfl, by decide +kernel, by decide +kernel⟩
theorem ok_lorder {f : Addr} {fd : FuncData} (F : Fun K "_law_order" "_law_order" sLO f fd) (Tx : Txt K mg) : FnOk P w K mg base CX0 1 f fd ["levels"] (spR K rOrd) := by
  refine fn_okD F scLO (fun ds r h => by obtain ⟨c, rfl, _⟩ := h; rfl) fun cdv A outer s H E hr ds r h => ?_
  obtain ⟨lv, rfl, hlv, hlen, rfl⟩ := h
  have hlv0 : ∀ x ∈ lv, 0 ≤ x := fun x hx => (hlv x hx).1
  have ll : ∀ {M}, lstOf M (.d (.list (lv.map .int))) = some (lv.map fun n => AV.d (.int n)) := lst_frz
  refine SX.asg 1 scLO.nd (EV.repM (EV.lst (ds := [.none]) (EA.one EV.non) (by decide)) ((EV.lenL Tx.len (EV.var 0) ll).cast (by rw [List.length_map])) (xs := [.d .none]) rfl (by omega) (by omega) (by simp; exact small_le (by omega))) ?_
  refine SX.to (M2 := [.lst (((orderOf lv).map (fD 0)).map .d)]) rfl (by rw [← fd_start]; rfl) ?_
  refine SX.for .never rfl (IV.rgN Tx.range ((EV.lenL Tx.len (EV.var 0) ll).cast (by rw [List.length_map])) (by omega)) (fun i Γ' M' => ∃ e2 e3 e4 e5, Γ' = [some (.d (.list (lv.map .int))), some (.m 0), e2, e3, e4, e5] ∧ M' = [.lst (((orderOf lv).map (fD i)).map .d)]) ⟨_, _, _, _, rfl, rfl⟩ ?_ ?_
  · rintro i d Γ' M' hd ⟨e2, e3, e4, e5, rfl, rfl⟩
    obtain ⟨hi, rfl⟩ := rg_inv hd
    refine ⟨_, _, TV.name 2 scLO.nd, ?_⟩
    refine SX.asg 3 scLO.nd EV.int ?_
    refine SX.for .never rfl (IV.rgN Tx.range ((EV.lenL Tx.len (EV.var 0) ll).cast (by rw [List.length_map])) (by omega)) (fun j Γ' M' => ∃ e4 e5, Γ' = [some (.d (.list (lv.map .int))), some (.m 0), some (.d (.int (i : Nat))), some (.d (.int (leftF lv i j))), e4, e5] ∧ M' = [.lst (((orderOf lv).map (fD i)).map .d)]) ⟨_, _, rfl, rfl⟩ ?_ ?_
    · rintro j d Γ' M' hd2 ⟨e4, e5, rfl, rfl⟩
      obtain ⟨hj, rfl⟩ := rg_inv hd2
      refine ⟨_, _, TV.name 4 scLO.nd, ?_⟩
      generalize hlo : (if (i : Int) < (j : Int) then (i : Int) else (j : Int)) = lo
      generalize hhi : (if (i : Int) > (j : Int) then (i : Int) else (j : Int)) = hi2
      have b1 : 0 ≤ lo := by rw [← hlo]; split <;> omega
      have b2 : lo ≤ hi2 := by rw [← hlo, ← hhi]; split <;> split <;> omega
      have b3 : hi2 < lv.length := by rw [← hhi]; split <;> omega
      refine SX.asg 5 scLO.nd (x := .d (.int (lmin (cutG lv (some lo) (some (hi2 + 1)))))) (M1 := [.lst (((orderOf lv).map (fD i)).map .d)]) ?_ ?_
      · refine EV.minL (ns := cutG lv (some lo) (some (hi2 + 1))) rfl Tx.min (EV.slL (ds := lv.map .int) (EV.var 0) (EO.some ((EV.min2 rfl Tx.min (EV.var 4) (EV.var 2)).cast (by rw [hlo]))) (EO.some (EV.add ((EV.max2 rfl Tx.max (EV.var 4) (EV.var 2)).cast (by rw [hhi])) EV.int)) rfl) ?_ (cut_ne b1 b2 b3)
        rw [cutG_map]
        exact lst_frz
      refine SX.asg 3 scLO.nd (x := .d (.int (leftF lv i (j + 1)))) (M1 := [.lst (((orderOf lv).map (fD i)).map .d)]) ?_ (SX.nil ⟨_, _, rfl, rfl⟩)
      rw [leftF_succ]
      refine EV.cast (EV.add (EV.var 3) (EV.intB Tx.int (EV.and (EV.cmp (EV.var 4) (EV.var 2) cb_neI rfl) (fun _ => EV.one (EV.cmp (EV.cmp (EV.var 4) (EV.var 2) cb_lt rfl) (EV.cmp (EV.mod (EV.intI Tx.int (EV.var 5)) EV.int (by decide)) EV.int cb_eqI rfl) cb_eqB rfl))))) ?_
      congr 3
      unfold lawB
      rw [hlo, hhi]
      congr 1
      simp
    · rintro Γ' M' ⟨e4, e5, rfl, rfl⟩
      rw [List.length_map, rg_len]
      obtain ⟨p, hp⟩ := List.getElem?_of_mem (order_mem.mpr (show 0 ≤ (i : Int) ∧ (i : Int) < lv.length by omega))
      have hl := left_pos hlv0 hp
      rw [hl]
      have hpl := lt_of_get hp
      refine SX.setL (EV.var 2) (EV.var 1) (EV.var 3) rfl (l := p) ?_ (SX.nil ⟨_, _, _, _, rfl, ?_⟩)
      · unfold ixN
        rw [if_pos (by omega), if_pos (by simpa using hpl)]
        rfl
      · rw [← fd_step hp]; rfl
  · rintro Γ' M' ⟨e2, e3, e4, e5, rfl, rfl⟩
    rw [List.length_map, rg_len, fd_end]
    exact SX.retM (ds := (orderOf lv).map .int) (EV.var 1) rfl rfl
end
end K32

set_option Elab.async false
set_option maxRecDepth 100000
set_option maxHeartbeats 4000000
set_option linter.all false
namespace DV
open PySem PySem.Spec L2
section
variable {X : Cx} {e a b c f o ie : Expr} {es : List Expr} {rest body orelse : List Stmt} {Γ Γ' : Gam} {M M1 M2 M3 : List MC} {x y z : AV} {pos pos' p p2 apos cpos np : Pos} {xs ys : List AV} {i j : Int} {n : Str} {D : AD} {k : Nat}
/-- a cell that a name holds is from here on frozen -/
theorem SX.frz (i k : Nat) {ds : List PyData} (hΓ : Γ[i]? = some (some (.m k))) (hk : M[k]? = some (.lst (ds.map .d))) (go : SX X rest (Γ.set i (some (.d (.list ds)))) (M.set k .dead) D) : SX X rest Γ M D := fun F0 H0 F A H σ sh sv => by
  obtain ⟨v, h1, a, e1, rfl⟩ := sv.2 i _ hΓ
  obtain ⟨q1, vs, q2, q3⟩ := sh.own k a _ e1 hk (by simp)
  obtain ⟨s2, sf⟩ := sh.freeze e1 hk (by simp) q2
  have sv2 : SV X.K (upd F a (.lst vs)) A σ Γ := ⟨sv.1, fun j y e => let ⟨v, g1, g2⟩ := sv.2 j y e; ⟨v, g1, VR.mono sf ⟨[], by simp⟩ g2⟩⟩
  have sv3 := SV.set sv2 i (v := .ref a) (x := .d (.list ds)) (DR.lst upd_same ((pair_d q3).mono sf))
  have e3 : σ.set i (some (.ref a)) = σ := by
    refine List.ext_getElem? fun q => ?_
    by_cases e : i = q
    · subst e
      rw [List.getElem?_set_self (List.getElem?_eq_some_iff.mp h1).1, h1]
    · rw [List.getElem?_set_ne e]
  rw [e3] at sv3
  exact go.go sf s2 sv3
theorem EV.catT {ds es' : List PyData} (ha : EV X a Γ M x M1) (hb : EV X b Γ M1 y M2) (hx : x = .d (.tuple ds)) (hy : y = .d (.tuple es')) (hl : ds.length + es'.length ≤ sizeLine) :
    EV X (.BinOp a .Add b pos) Γ M (.d (.tuple (ds ++ es'))) M2 := by
  subst hx hy
  refine EV.bin op_catA ha hb fun F0 H0 F A H v w Q sh rv rw k => ?_
  cases rv with
  | @tup l vs _ h1 h2 =>
  cases rw with
  | @tup r ws _ h3 h4 =>
    have n1 := P2.len h2.paired
    have n2 := P2.len h4.paired
    refine ⟨l, r, vs, ws, rfl, rfl, sqT_mono sh.fh h1, sqT_mono sh.fh h3, by omega, fun q => ?_, fun q1 q2 => ?_, fun q1 q2 p hp => ?_⟩
    · subst q
      have : ds = [] := List.eq_nil_of_length_eq_zero (by rw [← n1]; rfl)
      subst this
      exact k _ _ _ _ sh (Af.refl _ _ _) (DR.tup h3 h4)
    · subst q2
      have : es' = [] := List.eq_nil_of_length_eq_zero (by rw [← n2]; rfl)
      subst this
      rw [List.append_nil] at k
      exact k _ _ _ _ sh (Af.refl _ _ _) (DR.tup h1 h2)
    · obtain ⟨sh4, af4⟩ := sh.new (o := .tup (vs ++ ws)) hp
      exact k _ _ _ _ sh4 af4 (DR.tup (SqT.of upd_same) (DRs.of (P2.app (h2.mono af4.ff).paired (h4.mono af4.ff).paired)))
end
end DV
namespace K32
open PySem PySem.Spec L2 DV
/-! ### mirrors -/
def mirC (c : Nat) : Nat := if c = 40 then 41 else if c = 41 then 40 else if c = 91 then 93 else if c = 93 then 91 else if c = 60 then 62 else if c = 62 then 60 else c
def lMir : List (Str × Str) := [("(", ")"), (")", "("), ("[", "]"), ("]", "["), ("<", ">"), (">", "<")]
def gS (z : Str) : Option Str := (lMir.find? fun p => decide (p.1 = z)).map (·.2)
def gMir (z : Str) : Option PyData := (gS z).map .str
def dMir : List (Key × AV) := lMir.map fun p => (.inr p.1, .d (.str p.2))
theorem lMir_eq : lMir = [(⟨#[40]⟩, ⟨#[41]⟩), (⟨#[41]⟩, ⟨#[40]⟩), (⟨#[91]⟩, ⟨#[93]⟩), (⟨#[93]⟩, ⟨#[91]⟩), (⟨#[60]⟩, ⟨#[62]⟩), (⟨#[62]⟩, ⟨#[60]⟩)] := by decide +kernel
theorem one_eq (n c : Nat) : ((⟨#[n]⟩ : Str) = ⟨#[c]⟩) ↔ n = c := by simp
theorem gS_one (c : Nat) : (gS ⟨#[c]⟩).getD ⟨#[c]⟩ = ⟨#[mirC c]⟩ := by
  unfold gS
  rw [lMir_eq]
  by_cases h1 : c = 40
  · subst h1; rfl
  by_cases h2 : c = 41
  · subst h2; rfl
  by_cases h3 : c = 91
  · subst h3; rfl
  by_cases h4 : c = 93
  · subst h4; rfl
  by_cases h5 : c = 60
  · subst h5; rfl
  by_cases h6 : c = 62
  · subst h6; rfl
  have e : mirC c = c := by unfold mirC; rw [if_neg h1, if_neg h2, if_neg h3, if_neg h4, if_neg h5, if_neg h6]
  rw [e]
  have hn : ∀ n : Nat, c ≠ n → decide ((⟨#[n]⟩ : Str) = ⟨#[c]⟩) = false := fun n h => decide_eq_false fun q => h ((one_eq n c).mp q).symm
  simp only [List.find?_cons, hn _ h1, hn _ h2, hn _ h3, hn _ h4, hn _ h5, hn _ h6, List.find?_nil, Option.map_none, Option.getD_none]
theorem gMir_one (c : Nat) : (gMir ⟨#[c]⟩).getD (encS c) = encS (mirC c) := by
  have h := gS_one c
  unfold gMir
  cases q : gS ⟨#[c]⟩ with
  | none => rw [q] at h; exact congrArg PyData.str h
  | some z => rw [q] at h; exact congrArg PyData.str h
theorem lk_map (z : Str) : ∀ l : List (Str × Str), lkA (l.map fun p => ((.inr p.1 : Key), AV.d (.str p.2))) (.inr z) = (l.find? fun p => decide (p.1 = z)).map fun p => .d (.str p.2)
  | [] => rfl
  | p :: l => by
    by_cases h : p.1 = z
    · subst h; simp [lkA, List.find?_cons]
    · have ih := lk_map z l
      have h' : ¬ (Sum.inr p.1 : Key) = .inr z := fun q => h (Sum.inr.inj q)
      unfold lkA at ih ⊢
      rw [List.map_cons, List.find?_cons, List.find?_cons]
      simp only [h, h', decide_false]
      exact ih
theorem disp_dMir : dMir.foldl (fun acc kv => putA acc kv.1 kv.2) [] = dMir := by
  unfold dMir
  rw [lMir_eq]
  rfl
theorem dMir_one (c : Nat) : (lkA dMir (.inr ⟨#[c]⟩)).getD (.d (encS c)) = .d (encS (mirC c)) := by
  rw [← gMir_one, dMir, lk_map]
  unfold gMir gS
  cases lMir.find? fun p => decide (p.1 = ⟨#[c]⟩) <;> rfl
def signF (cs : List Nat) (lv : List Int) (k : Int) : Nat := if lvf lv k % 2 = 1 then mirC (cs.getD k.toNat 0) else cs.getD k.toNat 0
def shownF (cs : List Nat) (lv ks : List Int) : List Nat := ks.map (signF cs lv)
theorem S_app (a b : List Nat) : S a ++ S b = S (a ++ b) := by
  show Str.append (S a) (S b) = _
  simp [Str.append, S]
theorem join_S : ∀ zs : List Nat, Txt.join (S []) (zs.map fun c => S [c]) = S zs := by
  intro zs
  have h : ∀ (zs acc : List Nat), (zs.map fun c => S [c]).foldl (fun acc p => acc ++ (S []).cps ++ p.cps) acc.toArray = (acc ++ zs).toArray := by
    intro zs
    induction zs with
    | nil => intro acc; simp
    | cons c zs ih =>
      intro acc
      rw [List.map_cons, List.foldl_cons]
      have : acc.toArray ++ (S []).cps ++ (S [c]).cps = (acc ++ [c]).toArray := by simp
      rw [this, ih]; simp
  show Builtin.Str.glued (S []) _ = _
  unfold Builtin.Str.glued
  cases zs with
  | nil => rfl
  | cons c zs =>
    exact congrArg Str.mk (h zs [c])
theorem text_at {cs : List Nat} {k : Int} (h0 : 0 ≤ k) (h1 : k < cs.length) : atI (S cs).cps.toList k = some (cs.getD k.toNat 0) := by
  obtain ⟨j, rfl⟩ := Int.eq_ofNat_of_zero_le h0
  have hj : j < cs.length := by omega
  have : cs[j]? = some (cs.getD j 0) := by rw [List.getD_eq_getElem?_getD, List.getElem?_eq_getElem hj]; rfl
  rw [Int.toNat_natCast]
  exact S_at this
theorem odd_ne {i : Int} : (i % 2 != 0) = decide (i % 2 = 1) := by
  have h : i % 2 = 0 ∨ i % 2 = 1 := by omega
  rcases h with h | h <;> rw [h] <;> rfl
abbrev rSig : List PyData → PyData → Prop := fun ds r => ∃ (cs : List Nat) (lv ks : List Int), ds = [T cs, .list (lv.map .int), .list (ks.map .int)] ∧ cs.length ≤ 900 ∧ ks.length ≤ 900 ∧ (∀ k ∈ ks, 0 ≤ k ∧ k < cs.length ∧ k < lv.length) ∧ r = T (shownF cs lv ks)
abbrev rShown : List PyData → PyData → Prop := fun ds r => ∃ (cs : List Nat) (b : Int), ds = [T cs, .int b] ∧ cs.length ≤ 900 ∧ r = T (shownF cs (levF cs b) (orderOf (levF cs b)))
section
variable {P : Program} {w : World} {K : PySem.W.Frag} {mg : Str → Option Value} {base : Heap}
abbrev sSig : Stmt := top 35
abbrev nSig : List Str := ["text", "levels", "order", "mirrors", "k"]
theorem scSig : FnScope nSig ["text", "levels", "order"] (defScope sSig) := ⟨rfl, rfl, rfl, by decide +kernel, rfl, by decide +kernel, by decide +kernel⟩
theorem ok_sig {f : Addr} {fd : FuncData} (F : Fun K "_law_signs" "_law_signs" sSig f fd) (Tx : Txt K mg) : FnOk P w K mg base CX0 1 f fd ["text", "levels", "order"] (spR K rSig) := by
  refine fn_okD F scSig (fun ds r h => by obtain ⟨c, _, _, rfl, _⟩ := h; rfl) fun cdv A outer s H E hr ds r h => ?_
  obtain ⟨cs, lv, ks, rfl, hlen, hkl, hks, rfl⟩ := h
  refine SX.asg 3 scSig.nd (EV.dispM (r := dMir) ⟨_, _, _, _, rfl, EV.str, rfl, EV.str, ⟨_, _, _, _, rfl, EV.str, rfl, EV.str, ⟨_, _, _, _, rfl, EV.str, rfl, EV.str, ⟨_, _, _, _, rfl, EV.str, rfl, EV.str, ⟨_, _, _, _, rfl, EV.str, rfl, EV.str, ⟨_, _, _, _, rfl, EV.str, rfl, EV.str, rfl⟩⟩⟩⟩⟩⟩) ?_
  rw [disp_dMir]
  refine SX.ret (M1 := [.dct dMir]) (x := .d (T (shownF cs lv ks))) ?_ rfl
  refine EV.cast (EV.join (q := S []) (zs := (shownF cs lv ks).map fun c => S [c]) EV.str (LC.lcMap (as := ks) (enc := .int) (fun k => encS (signF cs lv k)) rfl scSig.nd (own := [("k", 4)]) (by show blkC nSig (defScope sSig) _ _ = true; decide +kernel)
    (IV.list (EV.var 2)) (small_le (by omega)) (fun k => [some (.d (T cs)), some (.d (.list (lv.map .int))), some (.d (.list (ks.map .int))), some (.m 0), some (.d (.int k))]) [4] (by decide)
    (fun o _ s H C cl fp => TV.name 4 scSig.nd) (fun k hk s H C cl fp => ?_)).ev ?_ ?_) ?_
  · obtain ⟨h0, h1, h2⟩ := hks k hk
    refine EV.ite (p := decide (lvf lv k % 2 = 1)) ((ET.cmp (EV.mod (EV.intI Tx.int (EV.ixL (EV.var 1) (EV.var 4) rfl (at_frz (atI_lvf h0 h2)))) EV.int (by decide)) EV.int cb_eqI rfl)) (fun e => ?_) (fun e => ?_)
    · have e : lvf lv k % 2 = 1 := of_decide_eq_true e
      refine EV.cast (EV.dget2 (ks := dMir) (q := .inr ⟨#[cs.getD k.toNat 0]⟩) hr (EV.var 3) (EV.ixS (EV.var 0) (EV.var 4) (S_le (by omega)) (text_at h0 h1)) (EV.ixS (EV.var 0) (EV.var 4) (S_le (by omega)) (text_at h0 h1)) rfl rfl rfl) ?_
      rw [dMir_one, signF, if_pos e]
    · have e : ¬ lvf lv k % 2 = 1 := of_decide_eq_false e
      rw [signF, if_neg e]
      exact EV.ixS (EV.var 0) (EV.var 4) (S_le (by omega)) (text_at h0 h1)
  · simp [lstOf, shownF, Function.comp_def]
  · have : ((((shownF cs lv ks).map fun c => S [c]).map (·.length)).sum) = ks.length := by
      have e : ∀ l : List Nat, ((l.map fun c => S [c]).map (·.length)).sum = l.length := by
        intro l
        induction l with
        | nil => rfl
        | cons c l ih => rw [List.map_cons, List.map_cons, List.sum_cons, ih, List.length_cons]; show 1 + _ = _; omega
      rw [e]; simp [shownF]
    rw [this, List.length_map]
    show _ + _ * 0 ≤ _
    omega
  · rw [join_S]
end
end K32

set_option Elab.async false
set_option maxRecDepth 100000
set_option maxHeartbeats 4000000
set_option linter.all false
namespace K32
open PySem PySem.Spec L2 DV
section
variable {P : Program} {w : World} {K : PySem.W.Frag} {mg : Str → Option Value} {base : Heap}
abbrev sShown : Stmt := top 20
abbrev nShown : List Str := ["text", "base", "levels", "found", "place", "sign"]
theorem scShown : FnScope nShown ["text", "base"] (defScope sShown) := ⟨rfl, rfl, rfl, by decide +kernel, rfl, by decide +kernel, by decide +kernel⟩
theorem ok_shown {f : Addr} {fd : FuncData} (F : Fun K "shown_line" "shown_line" sShown f fd) {k : Nat} (D1 : DefR P w K mg base k "levels_of" rLev) (D2 : DefR P w K mg base k "order_of" rOrd) {am : Addr} (hm : mg "MIRRORS" = some (.ref am)) (TM : KTab K w am gMir) : FnOk P w K mg base CX0 (k + 1) f fd ["text", "base"] (spR K rShown) := by
  refine fn_okD F scShown (fun ds r h => by obtain ⟨c, _, rfl, _⟩ := h; rfl) fun cdv A outer s H E hr ds r h => ?_
  obtain ⟨cs, b, rfl, hlen, rfl⟩ := h
  have hll := lev_len cs b
  refine SX.asg 2 scShown.nd (EV.call D1 hr (EA.cons (EV.var 0) (EA.one (EV.var 1))) rfl ⟨cs, b, rfl, hlen, rfl⟩) ?_
  have hin : ∀ x ∈ levF cs b, 0 ≤ x ∧ x ≤ 1000 := fun x hx => by have := lev_in hx; omega
  generalize levF cs b = lv at hll hin
  refine SX.asg 3 scShown.nd EV.str ?_
  refine SX.for .never rfl (IV.list (EV.call D2 hr (EA.one (EV.var 2)) rfl ⟨lv, rfl, hin, by omega, rfl⟩)) (fun i Γ' M' => ∃ e4 e5, Γ' = [some (.d (T cs)), some (.d (.int b)), some (.d (.list (lv.map .int))), some (.d (T (shownF cs lv ((orderOf lv).take i)))), e4, e5] ∧ M' = []) ⟨_, _, rfl, rfl⟩ ?_ ?_
  · rintro i d Γ' M' hd ⟨e4, e5, rfl, rfl⟩
    rw [List.getElem?_map] at hd
    obtain ⟨k, hk, rfl⟩ := Option.map_eq_some_iff.mp hd
    have hi := lt_of_get hk
    rw [order_len] at hi
    obtain ⟨h0, h1⟩ := order_mem.mp (List.mem_of_getElem? hk)
    refine ⟨_, _, TV.name 4 scShown.nd, ?_⟩
    refine SX.asg 5 scShown.nd (EV.ixS (EV.var 0) (EV.var 4) (S_le (by omega)) (text_at h0 (by omega))) ?_
    refine SX.augS 3 (w := S [signF cs lv k]) (M1 := []) scShown.nd rfl (EV.ite (M1 := []) (ET.tru (EV.mod (EV.ixL (EV.var 2) (EV.var 4) rfl (at_frz (atI_lvf h0 h1)) (M2 := [])) EV.int (by decide)) rfl) (fun e => ?_) (fun e => ?_)) ?_ (SX.nil ?_)
    · have e : lvf lv k % 2 = 1 := of_decide_eq_true (odd_ne ▸ e)
      refine EV.cast (EV.kget hm TM (EV.var 5) (EV.var 5)) ?_
      rw [gMir_one, signF, if_pos e]
    · have e : ¬ lvf lv k % 2 = 1 := of_decide_eq_false (odd_ne ▸ e)
      rw [signF, if_neg e]
      exact EV.var 5
    · rw [S_len, S_len]; simp [shownF]; exact small_le (by omega)
    · have e : S (shownF cs lv ((orderOf lv).take i)) ++ S [signF cs lv k] = S (shownF cs lv ((orderOf lv).take (i + 1))) := by
        rw [S_app, List.take_succ, hk]
        simp [shownF]
      rw [e]
      exact ⟨_, _, rfl, rfl⟩
  · rintro Γ' M' ⟨e4, e5, rfl, rfl⟩
    rw [List.length_map, List.take_length]
    exact SX.ret (EV.var 3) rfl
end
end K32

set_option Elab.async false
set_option maxRecDepth 100000
set_option maxHeartbeats 4000000
set_option linter.all false
namespace K32
open PySem PySem.Spec L2 DV
def cutB (cs : List Nat) (s : Nat) : Nat → Nat
  | 0 => 0
  | e + 1 => if s ≤ e ∧ cs.getD e 0 = 32 then cutB cs s e else e + 1
theorem cutB_in (cs : List Nat) (s : Nat) : ∀ e, s ≤ e → s ≤ cutB cs s e ∧ cutB cs s e ≤ e
  | 0, h => ⟨h, Nat.le_refl _⟩
  | e + 1, h => by
    unfold cutB
    split
    · rename_i q
      have := cutB_in cs s e q.1
      omega
    · omega
theorem cutB_self (cs : List Nat) (s : Nat) : cutB cs s s = s := by
  cases s with
  | zero => rfl
  | succ s => unfold cutB; rw [if_neg (by omega)]
def partF (lv : List Int) (b : Int) (s l e : Nat) : List Int := (lv.drop s).take (l - s) ++ List.replicate (e - l) b
def someF (cs : List Nat) (lv : List Int) (b : Int) (s e : Nat) : List Int := partF lv b s (cutB cs s e) e
def segF (cs : List Nat) (s e : Nat) : List Nat := (cs.drop s).take (e - s)
def lineF (cs : List Nat) (lv : List Int) (b : Int) (s e : Nat) : List Nat := shownF (segF cs s e) (someF cs lv b s e) (orderOf (someF cs lv b s e))
theorem part_len {lv : List Int} {b : Int} {s l e : Nat} (h1 : s ≤ l) (h2 : l ≤ e) (h3 : e ≤ lv.length) : (partF lv b s l e).length = e - s := by
  unfold partF
  rw [List.length_append, List.length_take, List.length_drop, List.length_replicate]
  omega
theorem part_in {lv : List Int} {b : Int} {s l e : Nat} (hlv : ∀ x ∈ lv, 0 ≤ x ∧ x ≤ 1000) (hb : b = 0 ∨ b = 1) : ∀ x ∈ partF lv b s l e, 0 ≤ x ∧ x ≤ 1000 := fun x hx => by
  unfold partF at hx
  rcases List.mem_append.mp hx with q | q
  · exact hlv x (List.mem_of_mem_drop (List.mem_of_mem_take q))
  · rw [(List.mem_replicate.mp q).2]; omega
theorem part_step {lv : List Int} {b : Int} {s l e : Nat} (h1 : s ≤ l) (h2 : l + 1 ≤ e) (h3 : e ≤ lv.length) : (partF lv b s (l + 1) e).set (l - s) b = partF lv b s l e := by
  unfold partF
  have h4 : l - s < (lv.drop s).length := by rw [List.length_drop]; omega
  rw [show l + 1 - s = (l - s) + 1 by omega, List.take_succ, List.getElem?_eq_getElem h4, Option.toList, List.append_assoc, List.set_append_right _ _ (by rw [List.length_take]; omega), List.length_take, Nat.min_eq_left (Nat.le_of_lt h4), Nat.sub_self]
  show _ ++ (b :: List.replicate (e - (l + 1)) b) = _
  rw [← List.replicate_succ, show e - (l + 1) + 1 = e - l by omega]
theorem seg_len {cs : List Nat} {s e : Nat} (h : s ≤ e) (h3 : e ≤ cs.length) : (segF cs s e).length = e - s := by
  unfold segF
  rw [List.length_take, List.length_drop]; omega
theorem seg_get {cs : List Nat} {s e k : Nat} (hk : k < e - s) : (segF cs s e).getD k 0 = cs.getD (s + k) 0 := by
  unfold segF
  rw [List.getD_eq_getElem?_getD, List.getElem?_take, if_pos hk, List.getElem?_drop, ← List.getD_eq_getElem?_getD]
def stA (E : List Nat) : Nat → Nat
  | 0 => 0
  | i + 1 => E.getD i 0
def EOk (n : Nat) (E : List Nat) : Prop := ∀ i, i < E.length → stA E i ≤ E.getD i 0 ∧ E.getD i 0 ≤ n
def linesF (cs : List Nat) (lv : List Int) (b : Int) (E : List Nat) (i : Nat) : List PyData := (List.range i).map fun j => T (lineF cs lv b (stA E j) (E.getD j 0))
abbrev iD (n : Nat) : PyData := .int (n : Nat)
abbrev rBrk : List PyData → PyData → Prop := fun ds r => ∃ (cs : List Nat) (b : Int) (es : List Nat), ds = [T cs, .int b, .list (es.map iD)] ∧ cs.length ≤ 900 ∧ es.length ≤ 900 ∧ (b = 0 ∨ b = 1) ∧ EOk cs.length (es ++ [cs.length]) ∧ r = .tuple (linesF cs (levF cs b) b (es ++ [cs.length]) (es ++ [cs.length]).length)
abbrev rBrkL : List PyData → PyData → Prop := fun ds r => ∃ (cs : List Nat) (b : Int) (lv : List Int) (es : List Nat), ds = [T cs, .int b, .list (lv.map .int), .list (es.map iD)] ∧ cs.length ≤ 900 ∧ lv.length = cs.length ∧ (∀ x ∈ lv, 0 ≤ x ∧ x ≤ 1000) ∧ es.length ≤ 900 ∧ (b = 0 ∨ b = 1) ∧ EOk cs.length (es ++ [cs.length]) ∧
  r = .tuple (linesF cs lv b (es ++ [cs.length]) (es ++ [cs.length]).length)
theorem enc_inv {α : Type} {enc : α → PyData} {as : List α} {i : Nat} {d : PyData} (h : (as.map enc)[i]? = some d) : ∃ a, as[i]? = some a ∧ d = enc a := by
  rw [List.getElem?_map] at h
  obtain ⟨a, h1, rfl⟩ := Option.map_eq_some_iff.mp h
  exact ⟨a, h1, rfl⟩
theorem sp_eq (c : Nat) : decide ((⟨#[c]⟩ : Str) = " ") = decide (c = 32) := by
  have h : (" " : Str) = ⟨#[32]⟩ := by decide +kernel
  rw [h]
  simp
theorem lines_succ (cs : List Nat) (lv : List Int) (b : Int) (E : List Nat) (i : Nat) : linesF cs lv b E (i + 1) = linesF cs lv b E i ++ [T (lineF cs lv b (stA E i) (E.getD i 0))] := map_range_succ _ _
theorem seg_cut (cs : List Nat) {s e : Nat} (h : e ≤ cs.length) : cutG cs (some (s : Int)) (some (e : Int)) = segF cs s e := by
  unfold cutG segF
  rw [HT.sIx_nat, HT.sIx_nat, Nat.min_eq_left h]
  by_cases q : s ≤ cs.length
  · rw [Nat.min_eq_left q]
  · rw [Nat.min_eq_right (by omega), List.drop_of_length_le (Nat.le_refl _), List.drop_of_length_le (by omega)]; simp
section
variable {P : Program} {w : World} {K : PySem.W.Frag} {mg : Str → Option Value} {base : Heap}
abbrev sBrkL : Stmt := top 38
abbrev nBrkL : List Str := ["text", "base", "levels", "ends", "found", "start", "end", "some", "k"]
theorem scBrkL : FnScope nBrkL ["text", "base", "levels", "ends"] (defScope sBrkL) := ⟨rfl, rfl, rfl, by decide +kernel, rfl, by decide +kernel, by decide +kernel⟩
theorem ok_brkL {f : Addr} {fd : FuncData} (F : Fun K "_law_broken" "_law_broken" sBrkL f fd) (Tx : Txt K mg) {k : Nat} (D1 : DefR P w K mg base k "_law_signs" rSig) (D2 : DefR P w K mg base k "_law_order" rOrd) : FnOk P w K mg base CX0 (k + 1) f fd ["text", "base", "levels", "ends"] (spR K rBrkL) := by
  refine fn_okD F scBrkL (fun ds r h => by obtain ⟨c, _, _, _, rfl, _⟩ := h; rfl) fun cdv A outer s H E hr ds r h => ?_
  obtain ⟨cs, b, lv, es, rfl, hlen, hll, hlv, hel, hb, hE, rfl⟩ := h
  refine SX.asg 4 scBrkL.nd (EV.lstM EA.nil (by decide)) ?_
  refine SX.asg 5 scBrkL.nd EV.int ?_
  generalize hEs : es ++ [cs.length] = Es at hE
  have hEl : Es.length ≤ 901 := by rw [← hEs]; simp; omega
  have hEm : es.map iD ++ [.int (cs.length : Nat)] = Es.map iD := by rw [← hEs]; simp
  refine SX.for .never rfl (IV.list ((EV.cat (ds := es.map iD) (es' := [.int (cs.length : Nat)]) (EV.var 3) (EV.lst (ds := [.int (cs.length : Nat)]) (EA.one (EV.lenC Tx.len (EV.var 0) (by omega))) (by simp [sizeLine_eq])) rfl rfl (by simp; exact small_le (by omega))).cast (by rw [hEm])))
    (fun i Γ' M' => ∃ e6 e7 e8 gs, Γ' = [some (.d (T cs)), some (.d (.int b)), some (.d (.list (lv.map .int))), some (.d (.list (es.map iD))), some (.m 0), some (.d (.int (stA Es i : Nat))), e6, e7, e8] ∧ M' = .lst ((linesF cs lv b Es i).map .d) :: gs) ⟨_, _, _, _, rfl, rfl⟩ ?_ ?_
  · rintro i d Γ' M' hd ⟨e6, e7, e8, gs, rfl, rfl⟩
    obtain ⟨e, he, rfl⟩ := enc_inv hd
    have hi := lt_of_get he
    have heE : Es.getD i 0 = e := getD_of he
    obtain ⟨hse, hen⟩ := hE i hi
    rw [heE] at hse hen
    have hst1 : stA Es (i + 1) = e := heE
    generalize hs : stA Es i = st at hse
    refine ⟨_, _, TV.name 6 scBrkL.nd, ?_⟩
    -- some = list(levels[start:end])
    refine SX.asg 7 scBrkL.nd (EV.listM Tx.list (EV.slL (ds := lv.map .int) (EV.var 2) (EO.some (EV.var 5)) (EO.some (EV.var 6)) rfl) (xs := (partF lv b st e e).map fun n => .d (.int n)) ?_) ?_
    · rw [cutG_map, cut_nat lv st e (by omega)]
      simp [partF, lstOf]
      rfl
    refine SX.asg 8 scBrkL.nd (EV.sub (EV.sub (EV.var 6) (EV.var 5)) EV.int) ?_
    refine SX.while .never (fun m Γ' M' => ∃ l, l = m ∧ st ≤ l ∧ l ≤ e ∧ cutB cs st l = cutB cs st e ∧ Γ' = [some (.d (T cs)), some (.d (.int b)), some (.d (.list (lv.map .int))), some (.d (.list (es.map iD))), some (.m 0), some (.d (.int (st : Nat))), some (.d (.int (e : Nat))), some (.m (gs.length + 1)), some (.d (.int ((l : Nat) - (st : Nat) - 1)))] ∧
      M' = .lst ((linesF cs lv b Es i).map .d) :: (gs ++ [cI (partF lv b st l e)])) e ⟨e, rfl, hse, Nat.le_refl _, rfl, rfl, rfl⟩ ?_
    rintro m Γ' M' ⟨l, rfl, h1, h2, h3, rfl, rfl⟩
    refine ⟨_, _, ET.and (ET.cmp (EV.var 8) EV.int cb_ge rfl) (fun hp => EW.and1 (ET.cmp (EV.ixS (c := cs.getD (l - 1) 0) (EV.var 0) (EV.add (EV.var 5) (EV.var 8)) (S_le (by omega)) ?_) EV.str cb_eqS rfl)), fun hc => ?_, fun hc => ?_⟩
    · have hp := of_decide_eq_true hp
      have e1 : ((st : Nat) : Int) + (((l : Nat) : Int) - (st : Nat) - 1) = ((l - 1 : Nat) : Int) := by omega
      rw [e1]
      exact text_at (by omega) (by omega)
    · rw [Bool.and_eq_true, sp_eq] at hc
      have hp := of_decide_eq_true hc.1
      have hc2 := of_decide_eq_true hc.2
      obtain ⟨l, rfl⟩ : ∃ l', l = l' + 1 := ⟨l - 1, by omega⟩
      have hcut : cutB cs st (l + 1) = cutB cs st l := by
        show (if _ then _ else _) = _
        rw [if_pos ⟨by omega, hc2⟩]
      refine SX.setL (l := l - st) (k := gs.length + 1) (xs := (partF lv b st (l + 1) e).map fun n => .d (.int n)) (EV.var 1) (EV.var 7) (EV.var 8) ?_ ?_ ?_
      · show (_ :: (gs ++ [_]))[gs.length + 1]? = _
        rw [List.getElem?_cons_succ, List.getElem?_append_right (Nat.le_refl _), Nat.sub_self]; rfl
      · unfold ixN
        rw [if_pos (by omega), List.length_map, part_len (by omega) h2 (by omega), if_pos (by omega)]
        congr 1
        omega
      refine SX.asg 8 scBrkL.nd (EV.sub (EV.var 8) EV.int) (SX.nil ⟨l, by omega, l, rfl, by omega, by omega, by rw [← hcut]; exact h3, ?_, ?_⟩)
      · have e1 : (((l + 1 : Nat) : Int) - (st : Nat) - 1) - 1 = ((l : Nat) : Int) - (st : Nat) - 1 := by omega
        rw [← e1]; rfl
      · rw [← part_step (by omega : st ≤ l) h2 (by omega)]
        show _ :: List.set (gs ++ [_]) gs.length _ = _
        rw [List.set_append_right _ _ (Nat.le_refl _), Nat.sub_self]
        simp [cI]
    · have hl : l = cutB cs st e := by
        rw [← h3]
        rw [Bool.and_eq_false_iff, sp_eq] at hc
        rcases hc with q | q
        · have := of_decide_eq_false q
          have : l = st := by omega
          rw [this, cutB_self]
        · have q := of_decide_eq_false q
          cases l with
          | zero => rfl
          | succ l =>
            show _ = (if _ then _ else _)
            rw [if_neg (fun z => q z.2)]
      have hpl := part_len (b := b) h1 h2 (show e ≤ lv.length by omega)
      have hpi := part_in (s := st) (l := l) (e := e) hlv hb
      have hsome : partF lv b st l e = someF cs lv b st e := by rw [someF, ← hl]
      rw [hsome] at hpl hpi ⊢
      generalize hsm : someF cs lv b st e = sm at hpl hpi
      have hsg := seg_len hse hen
      refine SX.frz 7 (gs.length + 1) (ds := sm.map .int) rfl ?_ ?_
      · show (_ :: (gs ++ [_]))[gs.length + 1]? = _
        rw [List.getElem?_cons_succ, List.getElem?_append_right (Nat.le_refl _), Nat.sub_self]
        simp [cI]
      refine SX.app0 (EV.var 4) rfl (EV.call D1 hr (EA.cons ((EV.slS (EV.var 0) (EO.some (EV.var 5)) (EO.some (EV.var 6)) (S_le (by omega))).cast (by rw [cutS_S, seg_cut cs hen])) (EA.cons (EV.var 7) (EA.one (EV.call D2 hr (EA.one (EV.var 7)) rfl ⟨sm, rfl, hpi, by omega, rfl⟩)))) rfl
        ⟨segF cs st e, sm, orderOf sm, rfl, by omega, by rw [order_len]; omega, fun k hk => by have := order_mem.mp hk; omega, rfl⟩) (by simp [linesF]; exact small_lt (by omega)) ?_
      refine SX.asg 5 scBrkL.nd (EV.var 6) (SX.nil ?_)
      rw [hst1, lines_succ, hs, heE, lineF, hsm]
      exact ⟨_, _, _, _, rfl, by rw [List.map_append]; rfl⟩
  · rintro Γ' M' ⟨e6, e7, e8, gs, rfl, rfl⟩
    rw [List.length_map]
    exact SX.ret (EV.tupleL Tx.tuple (EV.var 4) rfl) rfl
abbrev sBrk : Stmt := top 26
abbrev nBrk : List Str := ["text", "base", "ends", "levels", "found", "start", "end", "last", "some", "line", "place", "sign"]
theorem scBrk : FnScope nBrk ["text", "base", "ends"] (defScope sBrk) := ⟨rfl, rfl, rfl, by decide +kernel, rfl, by decide +kernel, by decide +kernel⟩
theorem ok_brk {f : Addr} {fd : FuncData} (F : Fun K "broken" "broken" sBrk f fd) (Tx : Txt K mg) {k : Nat} (D1 : DefR P w K mg base k "levels_of" rLev) (D2 : DefR P w K mg base k "order_of" rOrd) {am : Addr} (hm : mg "MIRRORS" = some (.ref am)) (TM : KTab K w am gMir) : FnOk P w K mg base CX0 (k + 1) f fd ["text", "base", "ends"] (spR K rBrk) := by
  refine fn_okD F scBrk (fun ds r h => by obtain ⟨c, _, _, rfl, _⟩ := h; rfl) fun cdv A outer s H E hr ds r h => ?_
  obtain ⟨cs, b, es, rfl, hlen, hel, hb, hE, rfl⟩ := h
  have hll := lev_len cs b
  have hlv : ∀ x ∈ levF cs b, 0 ≤ x ∧ x ≤ 1000 := fun x hx => by have := lev_in hx; omega
  refine SX.par3 3 4 5 rfl scBrk.nd (EA.cons (EV.call D1 hr (EA.cons (EV.var 0) (EA.one (EV.var 1))) rfl ⟨cs, b, rfl, hlen, rfl⟩) (EA.cons (EV.lstM EA.nil (by decide)) (EA.one EV.int))) ?_
  generalize levF cs b = lv at hll hlv
  generalize hEs : es ++ [cs.length] = Es at hE
  have hEl : Es.length ≤ 901 := by rw [← hEs]; simp; omega
  have hEm : es.map iD ++ [.int (cs.length : Nat)] = Es.map iD := by rw [← hEs]; simp
  refine SX.for .never rfl (IV.tup ((EV.catT (ds := es.map iD) (es' := [.int (cs.length : Nat)]) (EV.tupleL Tx.tuple (EV.var 2) rfl) (EV.tup (ds := [.int (cs.length : Nat)]) (EA.one (EV.lenC Tx.len (EV.var 0) (by omega))) (by simp [sizeLine_eq])) rfl rfl (by simp; exact small_le (by omega))).cast (by rw [hEm])))
    (fun i Γ' M' => ∃ e6 e7 e8 e9 e10 e11, Γ' = [some (.d (T cs)), some (.d (.int b)), some (.d (.list (es.map iD))), some (.d (.list (lv.map .int))), some (.m 0), some (.d (.int (stA Es i : Nat))), e6, e7, e8, e9, e10, e11] ∧ M' = [.lst ((linesF cs lv b Es i).map .d)]) ⟨_, _, _, _, _, _, rfl, rfl⟩ ?_ ?_
  · rintro i d Γ' M' hd ⟨e6, e7, e8, e9, e10, e11, rfl, rfl⟩
    obtain ⟨e, he, rfl⟩ := enc_inv hd
    have hi := lt_of_get he
    have heE : Es.getD i 0 = e := getD_of he
    obtain ⟨hse, hen⟩ := hE i hi
    rw [heE] at hse hen
    have hst1 : stA Es (i + 1) = e := heE
    generalize hs : stA Es i = st at hse
    refine ⟨_, _, TV.name 6 scBrk.nd, ?_⟩
    refine SX.asg 7 scBrk.nd (EV.var 6) ?_
    refine SX.while .never (fun m Γ' M' => ∃ l, l = m ∧ st ≤ l ∧ l ≤ e ∧ cutB cs st l = cutB cs st e ∧ Γ' = [some (.d (T cs)), some (.d (.int b)), some (.d (.list (es.map iD))), some (.d (.list (lv.map .int))), some (.m 0), some (.d (.int (st : Nat))), some (.d (.int (e : Nat))), some (.d (.int (l : Nat))), e8, e9, e10, e11] ∧
      M' = [.lst ((linesF cs lv b Es i).map .d)]) e ⟨e, rfl, hse, Nat.le_refl _, rfl, rfl, rfl⟩ ?_
    rintro m Γ' M' ⟨l, rfl, h1, h2, h3, rfl, rfl⟩
    refine ⟨_, _, ET.and (ET.cmp (EV.var 7) (EV.var 5) cb_gt rfl) (fun hp => EW.and1 (ET.cmp (EV.ixS (c := cs.getD (l - 1) 0) (EV.var 0) (EV.sub (EV.var 7) EV.int) (S_le (by omega)) ?_) EV.str cb_eqS rfl)), fun hc => ?_, fun hc => ?_⟩
    · have hp := of_decide_eq_true hp
      have e1 : ((l : Nat) : Int) - 1 = ((l - 1 : Nat) : Int) := by omega
      rw [e1]
      exact text_at (by omega) (by omega)
    · rw [Bool.and_eq_true, sp_eq] at hc
      have hp := of_decide_eq_true hc.1
      have hc2 := of_decide_eq_true hc.2
      obtain ⟨l, rfl⟩ : ∃ l', l = l' + 1 := ⟨l - 1, by omega⟩
      have hcut : cutB cs st (l + 1) = cutB cs st l := by
        show (if _ then _ else _) = _
        rw [if_pos ⟨by omega, hc2⟩]
      refine SX.augIs 7 scBrk.nd rfl EV.int (SX.nil ⟨l, by omega, l, rfl, by omega, by omega, by rw [← hcut]; exact h3, ?_, rfl⟩)
      have e1 : ((l + 1 : Nat) : Int) - 1 = ((l : Nat) : Int) := by omega
      rw [← e1]; rfl
    · have hl : l = cutB cs st e := by
        rw [← h3]
        rw [Bool.and_eq_false_iff, sp_eq] at hc
        rcases hc with q | q
        · have := of_decide_eq_false q
          have : l = st := by omega
          rw [this, cutB_self]
        · have q := of_decide_eq_false q
          cases l with
          | zero => rfl
          | succ l =>
            show _ = (if _ then _ else _)
            rw [if_neg (fun z => q z.2)]
      have hpl := part_len (b := b) h1 h2 (show e ≤ lv.length by omega)
      have hpi := part_in (s := st) (l := l) (e := e) hlv hb
      have hsome : partF lv b st l e = someF cs lv b st e := by rw [someF, ← hl]
      have hpart : (cutG (lv.map .int) (some (st : Int)) (some (l : Int)) ++ (List.replicate (((e : Nat) : Int) - (l : Nat)).toNat [PyData.int b]).flatten) = (partF lv b st l e).map .int := by
        rw [cutG_map, cut_nat lv st l (by omega), partF, List.map_append, show (((e : Nat) : Int) - (l : Nat)).toNat = e - l by omega, List.map_replicate]
        congr 1
        generalize e - l = n
        induction n with
        | zero => rfl
        | succ n ih => rw [List.replicate_succ, List.flatten_cons, ih, List.replicate_succ]; rfl
      refine SX.asg 8 scBrk.nd (EV.cast (EV.cat (ds := cutG (lv.map .int) (some (st : Int)) (some (l : Int))) (es' := (List.replicate (((e : Nat) : Int) - (l : Nat)).toNat [PyData.int b]).flatten) (EV.slL (EV.var 3) (EO.some (EV.var 5)) (EO.some (EV.var 7)) rfl) (EV.rep (EV.lst (ds := [.int b]) (EA.one (EV.var 1)) (by simp [sizeLine_eq])) (EV.sub (EV.var 6) (EV.var 7)) rfl (by omega) (by omega) (by rw [List.length_singleton, Nat.one_mul]; exact small_le (by omega))) rfl rfl
        (by have := congrArg List.length hpart; rw [List.length_append, List.length_map, hpl] at this; rw [this]; exact small_le (by omega))) (by rw [hpart])) ?_
      rw [hsome] at hpl hpi ⊢
      generalize hsm : someF cs lv b st e = sm at hpl hpi
      have hsg := seg_len hse hen
      refine SX.asg 9 scBrk.nd EV.str ?_
      refine SX.for .never rfl (IV.list (EV.call D2 hr (EA.one (EV.var 8)) rfl ⟨sm, rfl, hpi, by omega, rfl⟩)) (fun j Γ' M' => ∃ e10 e11, Γ' = [some (.d (T cs)), some (.d (.int b)), some (.d (.list (es.map iD))), some (.d (.list (lv.map .int))), some (.m 0), some (.d (.int (st : Nat))), some (.d (.int (e : Nat))), some (.d (.int (l : Nat))), some (.d (.list (sm.map .int))), some (.d (T (shownF (segF cs st e) sm ((orderOf sm).take j)))), e10, e11] ∧ M' = [.lst ((linesF cs lv b Es i).map .d)]) ⟨_, _, rfl, rfl⟩ ?_ ?_
      · rintro j d Γ' M' hd ⟨e10, e11, rfl, rfl⟩
        obtain ⟨k, hk, rfl⟩ := enc_inv hd
        have hj := lt_of_get hk
        rw [order_len] at hj
        obtain ⟨h0, h1'⟩ := order_mem.mp (List.mem_of_getElem? hk)
        have hsg2 : cs.getD ((st : Int) + k).toNat 0 = (segF cs st e).getD k.toNat 0 := by
          rw [seg_get (by omega)]
          congr 1
          omega
        refine ⟨_, _, TV.name 10 scBrk.nd, ?_⟩
        refine SX.asg 11 scBrk.nd (x := .d (encS ((segF cs st e).getD k.toNat 0))) (M1 := [.lst ((linesF cs lv b Es i).map .d)]) (EV.cast (EV.ixS (EV.var 0) (EV.add (EV.var 5) (EV.var 10)) (S_le (by omega)) (text_at (by omega) (by omega))) (by rw [hsg2])) ?_
        refine SX.augS 9 (w := S [signF (segF cs st e) sm k]) (M1 := [.lst ((linesF cs lv b Es i).map .d)]) scBrk.nd rfl (EV.ite (M1 := [.lst ((linesF cs lv b Es i).map .d)]) (ET.tru (EV.mod (EV.ixL (EV.var 8) (EV.var 10) rfl (at_frz (atI_lvf h0 h1')) (M2 := [.lst ((linesF cs lv b Es i).map .d)])) EV.int (by decide)) rfl) (fun e => ?_) (fun e => ?_)) ?_ (SX.nil ?_)
        · have e : lvf sm k % 2 = 1 := of_decide_eq_true (odd_ne ▸ e)
          refine EV.cast (EV.kget hm TM (EV.var 11) (EV.var 11)) ?_
          rw [gMir_one, signF, if_pos e]
        · have e : ¬ lvf sm k % 2 = 1 := of_decide_eq_false (odd_ne ▸ e)
          rw [signF, if_neg e]
          exact EV.var 11
        · rw [S_len, S_len]; simp [shownF]; exact small_le (by omega)
        · have e : S (shownF (segF cs st e) sm ((orderOf sm).take j)) ++ S [signF (segF cs st e) sm k] = S (shownF (segF cs st e) sm ((orderOf sm).take (j + 1))) := by
            rw [S_app, List.take_succ, hk]
            simp [shownF]
          rw [e]
          exact ⟨_, _, rfl, rfl⟩
      · rintro Γ' M' ⟨e10, e11, rfl, rfl⟩
        rw [List.length_map, List.take_length]
        refine SX.app0 (EV.var 4) rfl (EV.var 9) (by simp [linesF]; exact small_lt (by omega)) ?_
        refine SX.asg 5 scBrk.nd (EV.var 6) (SX.nil ?_)
        rw [hst1, lines_succ, hs, heE, lineF, hsm]
        exact ⟨_, _, _, _, _, _, rfl, by rw [List.map_append]; rfl⟩
  · rintro Γ' M' ⟨e6, e7, e8, e9, e10, e11, rfl, rfl⟩
    rw [List.length_map]
    exact SX.ret (EV.tupleL Tx.tuple (EV.var 4) rfl) rfl
end
end K32

set_option Elab.async false
set_option maxRecDepth 100000
set_option maxHeartbeats 4000000
set_option linter.all false
namespace K32
open PySem PySem.Spec L2 DV
def stepF (lv : List Int) (k : Int) : Int := if lvf lv k % 2 = 1 then -1 else 1
def joins (lv : List Int) (x k : Int) : Bool := decide (lvf lv x = lvf lv k) && decide (k = x + stepF lv k)
def addRow (lv : List Int) (rows : List (List Int)) (k : Int) : List (List Int) := match rows.getLast? with
  | none => [[k]]
  | some r => match r.getLast? with
    | none => rows ++ [[k]]
    | some x => if joins lv x k = true then rows.dropLast ++ [r ++ [k]] else rows ++ [[k]]
def rowsOf (lv ks : List Int) : List (List Int) := ks.foldl (addRow lv) []
abbrev rowsD (rows : List (List Int)) : List PyData := rows.map fun r => .list (r.map .int)
theorem rows_snoc (lv ks : List Int) (k : Int) : rowsOf lv (ks ++ [k]) = addRow lv (rowsOf lv ks) k := by unfold rowsOf; rw [List.foldl_append]; rfl
theorem snoc_ind {α : Type} {P : List α → Prop} (h0 : P []) (hs : ∀ l a, P l → P (l ++ [a])) : ∀ l, P l := by
  intro l
  suffices h : ∀ n, ∀ l : List α, l.length = n → P l from h _ l rfl
  intro n
  induction n with
  | zero => intro l h; rw [List.eq_nil_of_length_eq_zero h]; exact h0
  | succ n ih =>
    intro l h
    have hne : l ≠ [] := fun q => by rw [q] at h; simp at h
    rw [← List.dropLast_concat_getLast hne]
    exact hs _ _ (ih _ (by rw [List.length_dropLast, h]; rfl))
theorem snoc_cases {α : Type} (l : List α) : l = [] ∨ ∃ a b, l = a ++ [b] := by
  by_cases h : l = []
  · exact .inl h
  · exact .inr ⟨_, _, (List.dropLast_concat_getLast h).symm⟩
theorem add_nil (lv : List Int) (k : Int) : addRow lv [] k = [[k]] := rfl
theorem add_snoc (lv : List Int) (rs : List (List Int)) (t : List Int) (x k : Int) : addRow lv (rs ++ [t ++ [x]]) k = if joins lv x k = true then rs ++ [t ++ [x] ++ [k]] else rs ++ [t ++ [x]] ++ [[k]] := by
  unfold addRow
  rw [List.getLast?_concat]
  simp only [List.getLast?_concat, List.dropLast_concat]
theorem rows_ne (lv : List Int) : ∀ ks : List Int, ∀ r ∈ rowsOf lv ks, r ≠ [] := by
  refine snoc_ind (by intro r h; cases h) fun ks k ih => ?_
  rw [rows_snoc]
  rcases snoc_cases (rowsOf lv ks) with h | ⟨rs, r, h⟩
  · rw [h, add_nil]; intro r hr; simp at hr; rw [hr]; simp
  · rw [h] at ih ⊢
    rcases snoc_cases r with q | ⟨t, x, q⟩
    · exact absurd q (ih r (by simp))
    · subst q
      rw [add_snoc]
      intro r hr
      split at hr
      · rcases List.mem_append.mp hr with z | z
        · exact ih r (by simp [z])
        · rw [List.mem_singleton.mp z]; simp
      · rcases List.mem_append.mp hr with z | z
        · exact ih r z
        · rw [List.mem_singleton.mp z]; simp
theorem rows_flat (lv : List Int) : ∀ ks : List Int, (rowsOf lv ks).flatten = ks := by
  refine snoc_ind rfl fun ks k ih => ?_
  have ne := rows_ne lv ks
  rw [rows_snoc]
  rcases snoc_cases (rowsOf lv ks) with h | ⟨rs, r, h⟩
  · rw [h] at ih ⊢; rw [add_nil, ← ih]; rfl
  · rw [h] at ih ne ⊢
    rcases snoc_cases r with q | ⟨t, x, q⟩
    · exact absurd q (ne r (by simp))
    · subst q
      rw [add_snoc]
      split
      · rw [← ih]; simp
      · rw [← ih]; simp
theorem rows_cnt (lv ks : List Int) : (rowsOf lv ks).length ≤ ks.length := by
  have h1 := rows_ne lv ks
  have h2 := rows_flat lv ks
  have : ∀ l : List (List Int), (∀ r ∈ l, r ≠ []) → l.length ≤ l.flatten.length := by
    intro l
    induction l with
    | nil => intro _; exact Nat.le_refl _
    | cons r l ih =>
      intro h
      have h3 := ih fun r hr => h r (by simp [hr])
      have h4 : 0 < r.length := List.length_pos_iff.mpr (h r (by simp))
      rw [List.length_cons, List.flatten_cons, List.length_append]
      omega
  have := this _ h1
  rwa [h2] at this
theorem rows_mem {lv ks : List Int} {r : List Int} {x : Int} (h : r ∈ rowsOf lv ks) (hx : x ∈ r) : x ∈ ks := by
  rw [← rows_flat lv ks]
  exact List.mem_flatten.mpr ⟨r, h, hx⟩
theorem row_len {lv ks : List Int} {r : List Int} (h : r ∈ rowsOf lv ks) : r.length ≤ ks.length := by
  have h2 := rows_flat lv ks
  have := congrArg List.length h2
  rw [List.length_flatten] at this
  have : r.length ≤ ((rowsOf lv ks).map List.length).sum := by
    have : ∀ l : List (List Int), r ∈ l → r.length ≤ (l.map List.length).sum := by
      intro l
      induction l with
      | nil => intro h; cases h
      | cons a l ih =>
        intro h
        rw [List.map_cons, List.sum_cons]
        rcases List.mem_cons.mp h with q | q
        · rw [q]; omega
        · have := ih q; omega
    exact this _ h
  omega
theorem at_last {α : Type} (xs : List α) (y : α) : atI (xs ++ [y]) (-1) = some y := by
  unfold atI
  have e : ixN (xs ++ [y]).length (-1) = some xs.length := by
    unfold ixN
    rw [if_neg (by omega), List.length_append, List.length_singleton, if_pos (by omega)]
    congr 1
    omega
  rw [e]
  simp
theorem stepF_eq {lv : List Int} {k : Int} : stepF lv k = 1 - 2 * (if decide (lvf lv k % 2 = 1) = true then 1 else 0) := by
  unfold stepF
  by_cases h : lvf lv k % 2 = 1 <;> simp [h]
abbrev rRows : List PyData → PyData → Prop := fun ds r => ∃ lv : List Int, ds = [.list (lv.map .int)] ∧ (∀ x ∈ lv, 0 ≤ x ∧ x ≤ 1000) ∧ lv.length ≤ 900 ∧ r = .list (rowsD (rowsOf lv (orderOf lv)))
abbrev rRowsL : List PyData → PyData → Prop := fun ds r => ∃ lv ks : List Int, ds = [.list (lv.map .int), .list (ks.map .int)] ∧ (∀ k ∈ ks, 0 ≤ k ∧ k < lv.length) ∧ ks.length ≤ 900 ∧ r = .list (rowsD (rowsOf lv ks))
/-- the list of the rows' own lists -/
abbrev outM (n : Nat) : MC := .lst ((List.range n).map fun j => .m (j + 1))
abbrev rowsM (rows : List (List Int)) : List MC := outM rows.length :: rows.map cI
theorem outM_succ (n : Nat) : outM (n + 1) = .lst (((List.range n).map fun j => AV.m (j + 1)) ++ [.m (n + 1)]) := by rw [outM, List.range_succ, List.map_append]; rfl
theorem lstOf_m {M : List MC} {k : Nat} {xs : List AV} (h : M[k]? = some (.lst xs)) : lstOf M (.m k) = some xs := by
  show (match M[k]? with | some (.lst xs) => some xs | _ => none) = _
  rw [h]
theorem rowsM_get {rows : List (List Int)} {j : Nat} {r : List Int} (h : rows[j]? = some r) : (rowsM rows)[j + 1]? = some (cI r) := by
  show (_ :: _)[j + 1]? = _
  rw [List.getElem?_cons_succ, List.getElem?_map, h]; rfl
theorem frz_rows (rows : List (List Int)) : Frz (rowsM rows) (.m 0) (.list (rowsD rows)) := by
  refine .lst rfl ?_
  have h : ∀ js : List Nat, (∀ j ∈ js, j < rows.length) → FrzL (rowsM rows) (js.map fun j => .m (j + 1)) (js.map fun j => .list ((rows.getD j []).map .int)) := by
    intro js
    induction js with
    | nil => intro _; exact .nil
    | cons j js ih =>
      intro h
      refine .cons ?_ (ih fun i hi => h i (by simp [hi]))
      have hj := h j (by simp)
      have e : rows[j]? = some (rows.getD j []) := by rw [List.getD_eq_getElem?_getD, List.getElem?_eq_getElem hj]; rfl
      refine .lst (rowsM_get e) ?_
      have := FrzL.of (M := rowsM rows) ((rows.getD j []).map .int)
      rwa [List.map_map] at this
  have := h (List.range rows.length) fun j hj => List.mem_range.mp hj
  have e : (List.range rows.length).map (fun j => PyData.list ((rows.getD j []).map .int)) = rowsD rows := by
    refine List.ext_getElem (by simp) fun i h1 h2 => ?_
    have hi : i < rows.length := by simpa using h2
    simp [List.getD_eq_getElem?_getD, List.getElem?_eq_getElem hi]
  rwa [e] at this
section
variable {P : Program} {w : World} {K : PySem.W.Frag} {mg : Str → Option Value} {base : Heap}
abbrev sRowsL : Stmt := top 36
abbrev nRowsL : List Str := ["levels", "order", "found", "k", "step"]
theorem scRowsL : FnScope nRowsL ["levels", "order"] (defScope sRowsL) := ⟨rfl, rfl, rfl, by decide +kernel, rfl, by decide +kernel, by decide +kernel⟩
theorem ok_rowsL {f : Addr} {fd : FuncData} (F : Fun K "_law_rows" "_law_rows" sRowsL f fd) (Tx : Txt K mg) : FnOk P w K mg base CX0 1 f fd ["levels", "order"] (spR K rRowsL) := by
  refine fn_okD F scRowsL (fun ds r h => by obtain ⟨c, _, rfl, _⟩ := h; rfl) fun cdv A outer s H E hr ds r h => ?_
  obtain ⟨lv, ks, rfl, hks, hkl, rfl⟩ := h
  have ll : ∀ {M}, lstOf M (.d (.list (lv.map .int))) = some (lv.map fun n => AV.d (.int n)) := lst_frz
  refine SX.asg 2 scRowsL.nd (EV.lstM EA.nil (by decide)) ?_
  refine SX.for .never rfl (IV.list (EV.var 1)) (fun i Γ' M' => ∃ e3 e4, Γ' = [some (.d (.list (lv.map .int))), some (.d (.list (ks.map .int))), some (.m 0), e3, e4] ∧ M' = [.lst ((rowsD (rowsOf lv (ks.take i))).map .d)]) ⟨_, _, rfl, rfl⟩ ?_ ?_
  · rintro i d Γ' M' hd ⟨e3, e4, rfl, rfl⟩
    obtain ⟨k, hk, rfl⟩ := enc_inv hd
    have hi := lt_of_get hk
    obtain ⟨h0, h1⟩ := hks k (List.mem_of_getElem? hk)
    refine ⟨_, _, TV.name 3 scRowsL.nd, ?_⟩
    refine SX.asg 4 scRowsL.nd (x := .d (.int (stepF lv k))) (M1 := [.lst ((rowsD (rowsOf lv (ks.take i))).map .d)]) ((EV.sub EV.int (EV.mul EV.int (EV.intB Tx.int (EV.cmp (EV.mod (EV.intI Tx.int (EV.ixL (EV.var 0) (EV.var 3) ll (at_cell (atI_lvf h0 h1)))) EV.int (by decide)) EV.int cb_eqI rfl)) (.inl ⟨by decide, by decide⟩))).cast (by rw [stepF_eq])) ?_
    have hnext : rowsOf lv (ks.take (i + 1)) = addRow lv (rowsOf lv (ks.take i)) k := by
      rw [List.take_succ, hk]; exact rows_snoc _ _ _
    rw [hnext]
    have hne := rows_ne lv (ks.take i)
    have hcnt := rows_cnt lv (ks.take i)
    have hme : ∀ r ∈ rowsOf lv (ks.take i), ∀ x ∈ r, 0 ≤ x ∧ x < lv.length := fun r hr x hx => hks x (List.mem_of_mem_take (rows_mem hr hx))
    have hrl : ∀ r ∈ rowsOf lv (ks.take i), r.length ≤ 900 := fun r hr => by have := row_len hr; rw [List.length_take] at this; omega
    rw [List.length_take] at hcnt
    rcases snoc_cases (rowsOf lv (ks.take i)) with h | ⟨rs, r, h⟩
    · rw [h] at hcnt ⊢
      rw [add_nil]
      refine SX.ite (ET.and (ET.cmp (EV.lenL Tx.len (EV.var 2) rfl) EV.int cb_gt rfl) (q := false) (fun q => by cases q)) (fun q => by cases q) (fun _ => ?_)
      exact SX.app0 (EV.var 2) rfl (EV.lst (ds := [.int k]) (EA.one (EV.var 3)) (by simp [sizeLine_eq])) (by simp [sizeLine_eq]) (SX.nil (SX.nil ⟨_, _, rfl, rfl⟩))
    · rw [h] at hne hcnt hme hrl ⊢
      rcases snoc_cases r with q | ⟨t, x, q⟩
      · exact absurd q (hne r (by simp))
      · subst q
        obtain ⟨x0, x1⟩ := hme (t ++ [x]) (by simp) x (by simp)
        have rl := hrl (t ++ [x]) (by simp)
        rw [add_snoc]
        have hz1 : atI ((rowsD (rs ++ [t ++ [x]])).map AV.d) (-1) = some (.d (.list ((t ++ [x]).map .int))) := by rw [rowsD, List.map_append, List.map_append]; exact at_last _ _
        have hz2 : atI (((t ++ [x]).map PyData.int).map AV.d) (-1) = some (.d (.int x)) := by rw [List.map_append, List.map_append]; exact at_last _ _
        refine SX.ite (q := joins lv x k) ((ET.and (ET.cmp (EV.lenL Tx.len (EV.var 2) rfl) EV.int cb_gt rfl) (fun _ => EW.andC (ET.cmp (EV.ixL (EV.var 0) (EV.ixL (EV.ixL (EV.var 2) (EV.neg EV.int) rfl hz1) (EV.neg EV.int) rfl hz2) ll (at_cell (atI_lvf x0 x1))) (EV.ixL (EV.var 0) (EV.var 3) ll (at_cell (atI_lvf h0 h1))) cb_eqI rfl)
            (fun _ => EW.and1 (ET.cmp (EV.var 3) (EV.add (EV.ixL (EV.ixL (EV.var 2) (EV.neg EV.int) rfl hz1) (EV.neg EV.int) rfl hz2) (EV.var 4)) cb_eqI rfl)))).cast ?_) (fun e => ?_) (fun e => ?_)
        · have : decide ((0 : Int) < (((rowsD (rs ++ [t ++ [x]])).map AV.d).length : Nat)) = true := decide_eq_true (by simp)
          rw [this]; rfl
        · rw [if_pos e]
          refine SX.setL (l := rs.length) (EV.cat (ds := (t ++ [x]).map .int) (es' := [.int k]) (EV.ixL (EV.var 2) (EV.neg EV.int) rfl hz1) (EV.lst (ds := [.int k]) (EA.one (EV.var 3)) (by simp [sizeLine_eq])) rfl rfl (by rw [List.length_map]; exact small_le (by simp at rl ⊢; omega))) (EV.var 2) (EV.neg EV.int) rfl ?_ (SX.nil (SX.nil ⟨_, _, rfl, ?_⟩))
          · unfold ixN
            rw [if_neg (by omega), if_pos (by simp; omega)]
            congr 1
            simp
            omega
          · simp [rowsD]
        · rw [if_neg (by rw [e]; simp)]
          refine SX.app0 (EV.var 2) rfl (EV.lst (ds := [.int k]) (EA.one (EV.var 3)) (by simp [sizeLine_eq])) (by rw [List.length_map, List.length_map]; exact small_lt (by omega)) (SX.nil (SX.nil ⟨_, _, rfl, by simp [rowsD]⟩))
  · rintro Γ' M' ⟨e3, e4, rfl, rfl⟩
    rw [List.length_map, List.take_length]
    exact SX.retM (EV.var 2) rfl rfl
abbrev sRows : Stmt := top 22
abbrev nRows : List Str := ["levels", "found", "place", "step"]
theorem scRows : FnScope nRows ["levels"] (defScope sRows) := ⟨rfl, rfl, rfl, by decide +kernel, rfl, by decide +kernel, by decide +kernel⟩
theorem ok_rows {f : Addr} {fd : FuncData} (F : Fun K "rows_of" "rows_of" sRows f fd) {k : Nat} (D : DefR P w K mg base k "order_of" rOrd) : FnOk P w K mg base CX0 (k + 1) f fd ["levels"] (spR K rRows) := by
  refine fn_okD F scRows (fun ds r h => by obtain ⟨c, rfl, _⟩ := h; rfl) fun cdv A outer s H E hr ds r h => ?_
  obtain ⟨lv, rfl, hlv, hlen, rfl⟩ := h
  have ll : ∀ {M}, lstOf M (.d (.list (lv.map .int))) = some (lv.map fun n => AV.d (.int n)) := lst_frz
  have hol := order_len lv
  have hks : ∀ k ∈ orderOf lv, 0 ≤ k ∧ k < lv.length := fun k hk => order_mem.mp hk
  refine SX.asg 1 scRows.nd (EV.lstM EA.nil (by decide)) ?_
  refine SX.for .never rfl (IV.list (EV.call D hr (EA.one (EV.var 0)) rfl ⟨lv, rfl, hlv, hlen, rfl⟩)) (fun i Γ' M' => ∃ e3 e4, Γ' = [some (.d (.list (lv.map .int))), some (.m 0), e3, e4] ∧ M' = rowsM (rowsOf lv ((orderOf lv).take i))) ⟨_, _, rfl, rfl⟩ ?_ ?_
  · generalize orderOf lv = ks at hol hks
    rintro i d Γ' M' hd ⟨e3, e4, rfl, rfl⟩
    obtain ⟨k, hk, rfl⟩ := enc_inv hd
    have hi := lt_of_get hk
    obtain ⟨h0, h1⟩ := hks k (List.mem_of_getElem? hk)
    refine ⟨_, _, TV.name 2 scRows.nd, ?_⟩
    have hnext : rowsOf lv (ks.take (i + 1)) = addRow lv (rowsOf lv (ks.take i)) k := by
      rw [List.take_succ, hk]; exact rows_snoc _ _ _
    rw [hnext]
    have hne := rows_ne lv (ks.take i)
    have hcnt := rows_cnt lv (ks.take i)
    have hme : ∀ r ∈ rowsOf lv (ks.take i), ∀ x ∈ r, 0 ≤ x ∧ x < lv.length := fun r hr x hx => hks x (List.mem_of_mem_take (rows_mem hr hx))
    have hrl : ∀ r ∈ rowsOf lv (ks.take i), r.length ≤ 900 := fun r hr => by have := row_len hr; rw [List.length_take] at this; omega
    rw [List.length_take] at hcnt
    generalize rowsOf lv (ks.take i) = rows at hne hcnt hme hrl
    refine SX.asg 3 scRows.nd (x := .d (.int (stepF lv k))) (M1 := rowsM rows) ((EV.iteI (ET.tru (EV.mod (EV.ixL (EV.var 0) (EV.var 2) ll (at_cell (atI_lvf h0 h1))) EV.int (by decide)) rfl) (fun _ => EV.neg EV.int) (fun _ => EV.int)).cast (by rw [odd_ne]; unfold stepF; by_cases q : lvf lv k % 2 = 1 <;> simp [q])) ?_
    rcases snoc_cases rows with h | ⟨rs, r, h⟩
    · subst h
      rw [add_nil]
      refine SX.ite (ET.and (ET.tru (EV.var 1) rfl) (q := false) (fun q => by cases q)) (fun q => by cases q) (fun _ => ?_)
      exact SX.append (EV.var 1) rfl (EV.lstM (EA.one (EV.var 2)) (by simp [sizeLine_eq])) rfl (by simp [sizeLine_eq]) (SX.nil (SX.nil ⟨_, _, rfl, rfl⟩))
    · subst h
      rcases snoc_cases r with q | ⟨t, x, q⟩
      · exact absurd q (hne r (by simp))
      · subst q
        obtain ⟨x0, x1⟩ := hme (t ++ [x]) (by simp) x (by simp)
        have rl := hrl (t ++ [x]) (by simp)
        rw [add_snoc]
        have hlast : (rowsM (rs ++ [t ++ [x]]))[rs.length + 1]? = some (cI (t ++ [x])) := rowsM_get (by rw [List.getElem?_append_right (Nat.le_refl _), Nat.sub_self]; rfl)
        have hout : rs.length + 1 = (rs ++ [t ++ [x]]).length := by simp
        have hz1 : atI ((List.range (rs ++ [t ++ [x]]).length).map fun j => AV.m (j + 1)) (-1) = some (.m (rs.length + 1)) := by rw [← hout, List.range_succ, List.map_append]; exact at_last _ _
        have hl2 : lstOf (rowsM (rs ++ [t ++ [x]])) (.m (rs.length + 1)) = some ((t ++ [x]).map fun n => AV.d (.int n)) := lstOf_m hlast
        have hz2 : atI ((t ++ [x]).map fun n => AV.d (.int n)) (-1) = some (.d (.int x)) := by rw [List.map_append]; exact at_last _ _
        refine SX.ite (q := joins lv x k) ((ET.and (ET.tru (EV.var 1) rfl) (fun _ => EW.andC (ET.cmp (EV.ixL (EV.var 0) (EV.ixL (EV.ixL (EV.var 1) (EV.neg EV.int) rfl hz1) (EV.neg EV.int) hl2 hz2) ll (at_cell (atI_lvf x0 x1))) (EV.ixL (EV.var 0) (EV.var 2) ll (at_cell (atI_lvf h0 h1))) cb_eqI rfl)
            (fun _ => EW.and1 (ET.cmp (EV.var 2) (EV.add (EV.ixL (EV.ixL (EV.var 1) (EV.neg EV.int) rfl hz1) (EV.neg EV.int) hl2 hz2) (EV.var 3)) cb_eqI rfl)))).cast ?_) (fun e => ?_) (fun e => ?_)
        · have : (!((List.range (rs ++ [t ++ [x]]).length).map fun j => AV.m (j + 1)).isEmpty) = true := by rw [← hout, List.range_succ]; simp
          rw [this]; rfl
        · rw [if_pos e]
          refine SX.append (k := rs.length + 1) (EV.ixL (EV.var 1) (EV.neg EV.int) rfl hz1) hlast (EV.var 2) hlast (by rw [List.length_map]; exact small_lt (by omega)) (SX.nil (SX.nil ⟨_, _, rfl, ?_⟩))
          show List.set (_ :: _) (rs.length + 1) _ = _ :: _
          rw [List.set_cons_succ]
          have e1 : (rs ++ [t ++ [x] ++ [k]]).length = (rs ++ [t ++ [x]]).length := by simp
          rw [e1, List.map_append, List.set_append_right _ _ (by simp)]
          simp [cI]
        · rw [if_neg (by rw [e]; simp)]
          refine SX.append (EV.var 1) rfl (EV.lstM (EA.one (EV.var 2)) (by simp [sizeLine_eq])) rfl (by rw [List.length_map, List.length_range]; exact small_lt (by omega)) (SX.nil (SX.nil ⟨_, _, rfl, ?_⟩))
          show List.set ((_ :: _) ++ _) 0 _ = _ :: _
          have e1 : (rs ++ [t ++ [x]] ++ [[k]]).length = (rs ++ [t ++ [x]]).length + 1 := by simp
          rw [e1, outM_succ, List.map_append]
          simp [cI]
  · rintro Γ' M' ⟨e3, e4, rfl, rfl⟩
    rw [List.length_map, List.take_length]
    exact SX.retF (EV.var 1) (frz_rows _) rfl
end
end K32

set_option Elab.async false
set_option maxRecDepth 100000
set_option maxHeartbeats 4000000
set_option linter.all false
namespace K32
open PySem PySem.Spec L2 DV
def sNARROW : Str := "iljtf.,:;'!|()[]-"
def sWIDE : Str := "mwMWQ@&"
def lPair : List (Str × Int) := [("AV", -1), ("VA", -1), ("To", -1), ("Yo", -1), ("fi", -1), ("rn", 1)]
def pairS (z : Str) : Option Int := (lPair.find? fun p => decide (p.1 = z)).map (·.2)
def gPair (z : Str) : Option PyData := (pairS z).map .int
def swF (c : Nat) : Int := if c ∈ sNARROW.cps.toList then 2 else if c ∈ sWIDE.cps.toList then 6 else 4
def twF (cs : List Nat) (size : Int) : Int := ((cs.map swF).sum + ((rg (((cs.length : Nat) : Int) - 1).toNat).map fun k => (pairS (S ((cs.drop k.toNat).take 2))).getD 0).sum) * size
theorem cut_two (cs : List Nat) {k : Int} (h0 : 0 ≤ k) (h : k < (((cs.length : Nat) : Int) - 1).toNat) : cutG cs (some k) (some (k + 2)) = (cs.drop k.toNat).take 2 := by
  obtain ⟨j, rfl⟩ := Int.eq_ofNat_of_zero_le h0
  have e : ((j : Nat) : Int) + 2 = ((j + 2 : Nat) : Int) := by omega
  rw [e]
  unfold cutG
  rw [HT.sIx_nat, HT.sIx_nat, Nat.min_eq_left (by omega), Nat.min_eq_left (by omega), show j + 2 - j = 2 by omega]
  rfl
abbrev sPLAIN : Str := "plain"
structure Txw (K : PySem.W.Frag) (mg : Str → Option Value) : Prop where
  narrow : ∃ t, mg "NARROW" = some (.str sNARROW t)
  wide : ∃ t, mg "WIDE" = some (.str sWIDE t)
abbrev rSw : List PyData → PyData → Prop := fun ds r => ∃ c : Nat, ds = [encS c, .str sPLAIN] ∧ r = .int (swF c)
abbrev rTw : List PyData → PyData → Prop := fun ds r => ∃ (cs : List Nat) (size : Int), ds = [T cs, .str sPLAIN, .int size] ∧ cs.length ≤ 900 ∧ 0 < size ∧ size ≤ 10 ∧ r = .int (twF cs size)
section
variable {P : Program} {w : World} {K : PySem.W.Frag} {mg : Str → Option Value} {base : Heap}
abbrev sSw : Stmt := top 7
abbrev nSw : List Str := ["sign", "face", "found"]
theorem scSw : FnScope nSw ["sign", "face"] (defScope sSw) := ⟨rfl, rfl, rfl, by decide +kernel, rfl, by decide +kernel, by decide +kernel⟩
theorem ok_sw {f : Addr} {fd : FuncData} (F : Fun K "sign_width" "sign_width" sSw f fd) (Tx : Txt K mg) (Tw : Txw K mg) : FnOk P w K mg base CX0 1 f fd ["sign", "face"] (spR K rSw) := by
  refine fn_okD F scSw (fun ds r h => by obtain ⟨c, rfl, _⟩ := h; rfl) fun cdv A outer s H E hr ds r h => ?_
  obtain ⟨c, rfl, rfl⟩ := h
  obtain ⟨t1, h1⟩ := Tw.narrow
  obtain ⟨t2, h2⟩ := Tw.wide
  have n1 : decide (sPLAIN = ("code" : Str)) = false := by decide +kernel
  have n2 : decide (sPLAIN = ("strong" : Str)) = false := by decide +kernel
  refine SX.when (q := false) ((ET.cmp (EV.var 1) EV.str cb_eqS rfl).cast n1) (fun e => by cases e) (fun _ => ?_)
  refine SX.asg 2 scSw.nd (x := .d (.int (swF c))) (M1 := []) ?_ ?_
  · refine EV.ite (p := decide (c ∈ sNARROW.cps.toList)) (ET.cmp (EV.var 0) (EV.globS h1) cb_inSign rfl) (fun e => ?_) (fun e => ?_)
    · rw [swF, if_pos (of_decide_eq_true e)]; exact EV.int
    · refine EV.ite (p := decide (c ∈ sWIDE.cps.toList)) (ET.cmp (EV.var 0) (EV.globS h2) cb_inSign rfl) (fun e' => ?_) (fun e' => ?_)
      · rw [swF, if_neg (of_decide_eq_false e), if_pos (of_decide_eq_true e')]; exact EV.int
      · rw [swF, if_neg (of_decide_eq_false e), if_neg (of_decide_eq_false e')]; exact EV.int
  refine SX.ret (M1 := []) (x := .d (.int (swF c))) ((EV.add (EV.var 2) (EV.intB Tx.int (EV.cmp (EV.var 1) EV.str cb_eqS rfl))).cast ?_) rfl
  rw [n2]
  simp
abbrev sTw : Stmt := top 8
abbrev nTw : List Str := ["text", "face", "size", "found", "sign", "place"]
theorem scTw : FnScope nTw ["text", "face", "size"] (defScope sTw) := ⟨rfl, rfl, rfl, by decide +kernel, rfl, by decide +kernel, by decide +kernel⟩
theorem ok_tw {f : Addr} {fd : FuncData} (F : Fun K "text_width" "text_width" sTw f fd) (Tx : Txt K mg) {k : Nat} (D : DefR P w K mg base k "sign_width" rSw) {am : Addr} (hm : mg "PAIRS" = some (.ref am)) (TM : KTab K w am gPair) : FnOk P w K mg base CX0 (k + 1) f fd ["text", "face", "size"] (spR K rTw) := by
  refine fn_okD F scTw (fun ds r h => by obtain ⟨c, _, rfl, _⟩ := h; rfl) fun cdv A outer s H E hr ds r h => ?_
  obtain ⟨cs, size, rfl, hlen, hs0, hs1, rfl⟩ := h
  have n1 : (!decide (sPLAIN = ("code" : Str))) = true := by decide +kernel
  refine SX.asg 3 scTw.nd (x := .d (.int (cs.map swF).sum)) (M1 := []) ?_ ?_
  · refine EV.sumL (ns := cs.map swF) rfl Tx.sum (LC.lcMap (as := cs) (enc := encS) (fun c => .int (swF c)) rfl scTw.nd (own := [("sign", 4)]) (by show blkC nTw (defScope sTw) _ _ = true; decide +kernel)
      (IV.S (EV.var 0)) (small_le (by omega)) (fun c => [some (.d (T cs)), some (.d (.str sPLAIN)), some (.d (.int size)), none, some (.d (encS c)), none]) [4] (by decide)
      (fun o _ s H C cl fp => TV.name 4 scTw.nd) (fun c _ s H C cl fp => EV.call D hr (EA.cons (EV.var 4) (EA.one (EV.var 1))) rfl ⟨c, rfl, rfl⟩)).ev ?_
    simp [lstOf, Function.comp_def]
  refine SX.when (q := true) ((ET.cmp (EV.var 1) EV.str cb_neS rfl).cast n1) (fun _ => ?_) (fun e => by cases e)
  refine SX.augI 3 scTw.nd rfl (M1 := []) (j := ((rg (((cs.length : Nat) : Int) - 1).toNat).map fun k => (pairS (S ((cs.drop k.toNat).take 2))).getD 0).sum) ?_ ?_
  · refine EV.sumL (ns := (rg (((cs.length : Nat) : Int) - 1).toNat).map fun k => (pairS (S ((cs.drop k.toNat).take 2))).getD 0) rfl Tx.sum (LC.lcMap (as := rg (((cs.length : Nat) : Int) - 1).toNat) (enc := .int) (fun k => .int ((pairS (S ((cs.drop k.toNat).take 2))).getD 0)) rfl scTw.nd (own := [("place", 5)]) (by show blkC nTw (defScope sTw) _ _ = true; decide +kernel)
      (IV.rg1 Tx.range (EV.sub (EV.lenC Tx.len (EV.var 0) (by omega)) EV.int) (by omega) (by omega)) (by rw [rg_len]; exact small_le (by omega)) (fun k => [some (.d (T cs)), some (.d (.str sPLAIN)), some (.d (.int size)), some (.d (.int (cs.map swF).sum)), none, some (.d (.int k))]) [5] (by decide)
      (fun o _ s H C cl fp => TV.name 5 scTw.nd) (fun k hk s H C cl fp => ?_)).ev ?_
    · obtain ⟨h0, h1⟩ := mem_rg.mp hk
      refine EV.cast (EV.kget hm TM ((EV.slS (EV.var 0) (EO.some (EV.var 5)) (EO.some (EV.add (EV.var 5) EV.int)) (S_le (by omega))).cast (by rw [cutS_S, cut_two cs h0 h1])) EV.int) ?_
      unfold gPair
      cases pairS (S ((cs.drop k.toNat).take 2)) <;> rfl
    · simp [lstOf, Function.comp_def]
  refine SX.nil ?_
  exact SX.ret (EV.mul (EV.var 3) (EV.var 2) (.inr ⟨by omega, by omega⟩)) rfl
end
end K32

set_option Elab.async false
set_option maxRecDepth 100000
set_option maxHeartbeats 4000000
set_option linter.all false
namespace K32
open PySem PySem.Spec L2 DV
/-! ### rows are runs of neighbours -/
def rowOk (lv : List Int) (r : List Int) : Prop := ∃ r0, r.head? = some r0 ∧ ∀ (j : Nat) (x : Int), r[j]? = some x → x = r0 + stepF lv r0 * j ∧ lvf lv x = lvf lv r0
theorem row_ok (lv : List Int) : ∀ ks : List Int, ∀ r ∈ rowsOf lv ks, rowOk lv r := by
  have one : ∀ k, rowOk lv [k] := fun k => ⟨k, rfl, fun j x h => by
    cases j with
    | zero => simp at h; subst h; exact ⟨by simp, rfl⟩
    | succ j => simp at h⟩
  refine snoc_ind (by intro r h; cases h) fun ks k ih => ?_
  have ne := rows_ne lv ks
  rw [rows_snoc]
  rcases snoc_cases (rowsOf lv ks) with h | ⟨rs, r, h⟩
  · rw [h, add_nil]; intro r hr; simp at hr; rw [hr]; exact one k
  · rw [h] at ih ne ⊢
    rcases snoc_cases r with q | ⟨t, x, q⟩
    · exact absurd q (ne r (by simp))
    · subst q
      rw [add_snoc]
      intro r hr
      split at hr
      · rename_i hj
        rcases List.mem_append.mp hr with z | z
        · exact ih r (by simp [z])
        · rw [List.mem_singleton.mp z]
          obtain ⟨r0, h1, h2⟩ := ih (t ++ [x]) (by simp)
          have hx := h2 t.length x (by simp)
          unfold joins at hj
          rw [Bool.and_eq_true] at hj
          have j1 := of_decide_eq_true hj.1
          have j2 := of_decide_eq_true hj.2
          have hst : stepF lv k = stepF lv r0 := by unfold stepF; rw [← j1, hx.2]
          refine ⟨r0, by rw [List.head?_append, h1]; rfl, fun j y hy => ?_⟩
          by_cases hlt : j < (t ++ [x]).length
          · rw [List.getElem?_append_left hlt] at hy
            exact h2 j y hy
          · rw [List.getElem?_append_right (by omega)] at hy
            have hj0 : j = (t ++ [x]).length := by
              have := lt_of_get hy
              simp at this hlt ⊢
              omega
            subst hj0
            simp at hy
            subst hy
            refine ⟨?_, by rw [← j1, hx.2]⟩
            rw [j2, hst, hx.1]
            rw [List.length_append, List.length_singleton, show ((t.length + 1 : Nat) : Int) = (t.length : Int) + 1 by omega, Int.mul_add, Int.mul_one, Int.add_assoc]
      · rcases List.mem_append.mp hr with z | z
        · exact ih r z
        · rw [List.mem_singleton.mp z]; exact one k
/-- the law's own edge of a run, by the run's start and length -/
theorem row_place {lv : List Int} {r : List Int} {r0 : Int} (h : rowOk lv r) (h0 : r.head? = some r0) {j : Nat} {x : Int} (hx : r[j]? = some x) :
    x = lmin r + (if lvf lv r0 % 2 = 1 then (r.length : Int) - 1 - j else (j : Int)) := by
  obtain ⟨s0, h1, h2⟩ := h
  obtain rfl : s0 = r0 := Option.some.inj (h1.symm.trans h0)
  have hj := lt_of_get hx
  have hne : r ≠ [] := fun q => by rw [q] at hj; simp at hj
  obtain ⟨m, hm⟩ := List.getElem?_of_mem (lmin_mem hne)
  have hml := lt_of_get hm
  have e1 := (h2 _ _ hm).1
  have e0 := (h2 j x hx).1
  by_cases odd : lvf lv s0 % 2 = 1
  · rw [if_pos odd]
    have hs : stepF lv s0 = -1 := by unfold stepF; rw [if_pos odd]
    rw [hs] at e1 e0
    have hl : r[r.length - 1]? = some (r[r.length - 1]'(by omega)) := List.getElem?_eq_getElem (by omega)
    have e2 := (h2 _ _ hl).1
    rw [hs] at e2
    have := lmin_le (List.mem_of_getElem? hl)
    rw [e2] at this
    omega
  · rw [if_neg odd]
    have hs : stepF lv s0 = 1 := by unfold stepF; rw [if_neg odd]
    rw [hs] at e1 e0
    have hl : r[0]? = some (r[0]'(by omega)) := List.getElem?_eq_getElem (by omega)
    have e2 := (h2 _ _ hl).1
    rw [hs] at e2
    have := lmin_le (List.mem_of_getElem? hl)
    rw [e2] at this
    omega
/-! ### runs -/
section
variable (cs : List Nat) (lv : List Int) (size : Int) (rows : List (List Int))
def rowW (j : Nat) : Int := twF (shownF cs lv (rows.getD j [])) size
def xAt : Nat → Int
  | 0 => 0
  | j + 1 => xAt j + rowW cs lv size rows j
def runD (j : Nat) : PyData := .tuple [.int (xAt cs lv size rows j), .int (rowW cs lv size rows j), T (shownF cs lv (rows.getD j [])), .int (lmin (rows.getD j [])), .int (lvf lv ((rows.getD j []).headD 0))]
def runsF (i : Nat) : List PyData := (List.range i).map (runD cs lv size rows)
theorem runs_succ (i : Nat) : runsF cs lv size rows (i + 1) = runsF cs lv size rows i ++ [runD cs lv size rows i] := map_range_succ _ _
end
abbrev rRuns : List PyData → PyData → Prop := fun ds r => ∃ (cs : List Nat) (b size : Int), ds = [T cs, .int b, .str sPLAIN, .int size] ∧ cs.length ≤ 900 ∧ 0 < size ∧ size ≤ 10 ∧
  r = .tuple (runsF cs (levF cs b) size (rowsOf (levF cs b) (orderOf (levF cs b))) (rowsOf (levF cs b) (orderOf (levF cs b))).length)
section
variable {P : Program} {w : World} {K : PySem.W.Frag} {mg : Str → Option Value} {base : Heap}
abbrev sRuns : Stmt := top 21
abbrev nRuns : List Str := ["text", "base", "face", "size", "levels", "found", "x", "row", "shown", "place", "wide"]
theorem scRuns : FnScope nRuns ["text", "base", "face", "size"] (defScope sRuns) := ⟨rfl, rfl, rfl, by decide +kernel, rfl, by decide +kernel, by decide +kernel⟩
theorem ok_runs {f : Addr} {fd : FuncData} (F : Fun K "runs_of" "runs_of" sRuns f fd) (Tx : Txt K mg) {k : Nat} (D1 : DefR P w K mg base k "levels_of" rLev) (D2 : DefR P w K mg base k "rows_of" rRows) (D3 : DefR P w K mg base k "text_width" rTw) {am : Addr} (hm : mg "MIRRORS" = some (.ref am)) (TM : KTab K w am gMir) : FnOk P w K mg base CX0 (k + 1) f fd ["text", "base", "face", "size"] (spR K rRuns) := by
  refine fn_okD F scRuns (fun ds r h => by obtain ⟨c, _, _, rfl, _⟩ := h; rfl) fun cdv A outer s H E hr ds r h => ?_
  obtain ⟨cs, b, size, rfl, hlen, hs0, hs1, rfl⟩ := h
  have hll := lev_len cs b
  have hlv : ∀ x ∈ levF cs b, 0 ≤ x ∧ x ≤ 1000 := fun x hx => by have := lev_in hx; omega
  refine SX.asg 4 scRuns.nd (EV.call D1 hr (EA.cons (EV.var 0) (EA.one (EV.var 1))) rfl ⟨cs, b, rfl, hlen, rfl⟩) ?_
  generalize levF cs b = lv at hll hlv
  have ll : ∀ {M}, lstOf M (.d (.list (lv.map .int))) = some (lv.map fun n => AV.d (.int n)) := lst_frz
  refine SX.par2 5 6 rfl scRuns.nd (EA.cons (EV.lstM EA.nil (by decide)) (EA.one EV.int)) ?_
  have hne := rows_ne lv (orderOf lv)
  have hcnt := rows_cnt lv (orderOf lv)
  have hme : ∀ r ∈ rowsOf lv (orderOf lv), ∀ x ∈ r, 0 ≤ x ∧ x < lv.length := fun r hr x hx => order_mem.mp (rows_mem hr hx)
  have hrl : ∀ r ∈ rowsOf lv (orderOf lv), r.length ≤ 900 := fun r hr => by have := row_len hr; rw [order_len] at this; omega
  rw [order_len] at hcnt
  refine SX.for .never rfl (IV.list (EV.call D2 hr (EA.one (EV.var 4)) rfl ⟨lv, rfl, hlv, by omega, rfl⟩)) (fun i Γ' M' => ∃ e7 e8 e9 e10, Γ' = [some (.d (T cs)), some (.d (.int b)), some (.d (.str sPLAIN)), some (.d (.int size)), some (.d (.list (lv.map .int))), some (.m 0), some (.d (.int (xAt cs lv size (rowsOf lv (orderOf lv)) i))), e7, e8, e9, e10] ∧ M' = [.lst ((runsF cs lv size (rowsOf lv (orderOf lv)) i).map .d)]) ⟨_, _, _, _, rfl, rfl⟩ ?_ ?_
  · generalize rowsOf lv (orderOf lv) = rows at hne hcnt hme hrl
    rintro i d Γ' M' hd ⟨e7, e8, e9, e10, rfl, rfl⟩
    obtain ⟨row, hrow, rfl⟩ := enc_inv hd
    have hi := lt_of_get hrow
    have hgr : rows.getD i [] = row := getD_of hrow
    have hne := hne row (List.mem_of_getElem? hrow)
    have hme := hme row (List.mem_of_getElem? hrow)
    have hrl := hrl row (List.mem_of_getElem? hrow)
    obtain ⟨r0, hr0⟩ : ∃ r0, row[0]? = some r0 := ⟨_, List.getElem?_eq_getElem (List.length_pos_iff.mpr hne)⟩
    have hhd : row.headD 0 = r0 := by rw [List.headD_eq_head?_getD, List.head?_eq_getElem?, hr0]; rfl
    refine ⟨_, _, TV.name 7 scRuns.nd, ?_⟩
    refine SX.asg 8 scRuns.nd EV.str ?_
    refine SX.for .never rfl (IV.list (EV.var 7)) (fun j Γ' M' => ∃ e9 e10, Γ' = [some (.d (T cs)), some (.d (.int b)), some (.d (.str sPLAIN)), some (.d (.int size)), some (.d (.list (lv.map .int))), some (.m 0), some (.d (.int (xAt cs lv size rows i))), some (.d (.list (row.map .int))), some (.d (T (shownF cs lv (row.take j)))), e9, e10] ∧ M' = [.lst ((runsF cs lv size rows i).map .d)]) ⟨_, _, rfl, rfl⟩ ?_ ?_
    · rintro j d Γ' M' hd ⟨e9, e10, rfl, rfl⟩
      obtain ⟨k, hk, rfl⟩ := enc_inv hd
      have hj := lt_of_get hk
      obtain ⟨h0, h1⟩ := hme k (List.mem_of_getElem? hk)
      refine ⟨_, _, TV.name 9 scRuns.nd, ?_⟩
      refine SX.augS 8 (w := S [signF cs lv k]) (M1 := [.lst ((runsF cs lv size rows i).map .d)]) scRuns.nd rfl (EV.ite (M1 := [.lst ((runsF cs lv size rows i).map .d)]) (ET.tru (EV.mod (EV.ixL (EV.var 4) (EV.var 9) ll (at_cell (atI_lvf h0 h1)) (M2 := [.lst ((runsF cs lv size rows i).map .d)])) EV.int (by decide)) rfl) (fun e => ?_) (fun e => ?_)) ?_ (SX.nil ?_)
      · have e : lvf lv k % 2 = 1 := of_decide_eq_true (odd_ne ▸ e)
        refine EV.cast (EV.kget hm TM (EV.ixS (EV.var 0) (EV.var 9) (S_le (by omega)) (text_at h0 (by omega))) (EV.ixS (EV.var 0) (EV.var 9) (S_le (by omega)) (text_at h0 (by omega)))) ?_
        rw [gMir_one, signF, if_pos e]
      · have e : ¬ lvf lv k % 2 = 1 := of_decide_eq_false (odd_ne ▸ e)
        rw [signF, if_neg e]
        exact EV.ixS (EV.var 0) (EV.var 9) (S_le (by omega)) (text_at h0 (by omega))
      · rw [S_len, S_len]; simp [shownF]; exact small_le (by omega)
      · have e : S (shownF cs lv (row.take j)) ++ S [signF cs lv k] = S (shownF cs lv (row.take (j + 1))) := by
          rw [S_app, List.take_succ, hk]
          simp [shownF]
        rw [e]
        exact ⟨_, _, rfl, rfl⟩
    · rintro Γ' M' ⟨e9, e10, rfl, rfl⟩
      rw [List.length_map, List.take_length]
      refine SX.asg 10 scRuns.nd (EV.call D3 hr (EA.cons (EV.var 8) (EA.cons (EV.var 2) (EA.one (EV.var 3)))) rfl ⟨shownF cs lv row, size, rfl, by simp [shownF]; omega, hs0, hs1, rfl⟩) ?_
      have hrow2 : ∀ {M}, lstOf M (.d (.list (row.map .int))) = some (row.map fun n => AV.d (.int n)) := lst_frz
      have hw : rowW cs lv size rows i = twF (shownF cs lv row) size := by unfold rowW; rw [hgr]
      have hrd : runD cs lv size rows i = .tuple [.int (xAt cs lv size rows i), .int (twF (shownF cs lv row) size), T (shownF cs lv row), .int (lmin row), .int (lvf lv r0)] := by unfold runD; rw [hw, hgr, hhd]
      obtain ⟨q0, q1⟩ := hme r0 (List.mem_of_getElem? hr0)
      refine SX.app0 (x := .d (runD cs lv size rows i)) (EV.var 5) rfl ((EV.tup (ds := [.int (xAt cs lv size rows i), .int (twF (shownF cs lv row) size), T (shownF cs lv row), .int (lmin row), .int (lvf lv r0)])
        (EA.cons (EV.var 6) (EA.cons (EV.var 10) (EA.cons (EV.var 8) (EA.cons (EV.minL rfl Tx.min (EV.var 7) hrow2 hne) (EA.one (EV.ixL (EV.var 4) (EV.ixL (EV.var 7) EV.int hrow2 (at_cell (atI_nat (j := 0) hr0))) ll (at_cell (atI_lvf q0 q1)))))))) (by simp [sizeLine_eq])).cast (by rw [hrd])) (by simp [runsF]; exact small_lt (by omega)) ?_
      refine SX.augI 6 scRuns.nd rfl (EV.var 10) (SX.nil ?_)
      rw [runs_succ]
      exact ⟨_, _, _, _, by rw [xAt, hw]; rfl, by rw [List.map_append]; rfl⟩
  · rintro Γ' M' ⟨e7, e8, e9, e10, rfl, rfl⟩
    rw [List.length_map]
    exact SX.ret (EV.tupleL Tx.tuple (EV.var 5) rfl) rfl
end
end K32

set_option Elab.async false
set_option maxRecDepth 100000
set_option maxHeartbeats 4000000
set_option linter.all false
namespace DV
open PySem PySem.Spec L2
section
variable {X : Cx} {a b : Expr} {rest : List Stmt} {Γ : Gam} {M M1 : List MC} {x y : AV} {pos : Pos} {n : Str} {D : AD}
/-- a, b = e, f where a store is a cell's: a tuple is made -/
theorem SX.parT (k l : Nat) {m : Str} {px py pt : Pos} {kt k2 pt2} (hc : X.calm = true) (hN : X.N.Nodup) (h : EA X [a, b] Γ M [x, y] M1) (go : SX X rest ((Γ.set k (some x)).set l (some y)) M1 D) (hi : X.N[k]? = some n := by rfl) (hj : X.N[l]? = some m := by rfl)
    (hx : Loc X.env.scope n := by first | exact .inl rfl | exact .inr rfl) (hy : Loc X.env.scope m := by first | exact .inl rfl | exact .inr rfl)
    (hfx : X.fn n = true ∨ X.env.scope.names.lookup n = some .local := by first | exact .inl rfl | exact .inr rfl) (hfy : X.fn m = true ∨ X.env.scope.names.lookup m = some .local := by first | exact .inl rfl | exact .inr rfl)
    (hs : swapsWithSole [.Tuple [.Name n px, .Name m py] kt pt] (.Tuple [a, b] k2 pt2) pos.line X.env = pure false := by rfl)
    (hw : swappedStores [.Tuple [.Name n px, .Name m py] kt pt] (.Tuple [a, b] k2 pt2) X.env = pure none := by rfl)
    (h1 : (assignEach [.Tuple [.Name n px, .Name m py] kt pt] X.env).map (·.2) = [assign (.Tuple [.Name n px, .Name m py] kt pt) X.env] := by rfl)
    (hn : (assignEach [.Name n px, .Name m py] X.env).length = 2 := by rfl) (hst : (assignEach [.Name n px, .Name m py] X.env).findIdx? (·.1) = none := by rfl)
    (hs1 : (assignEach [.Name n px, .Name m py] X.env).map (·.2) = assign (.Name n px) X.env :: (assignEach [.Name m py] X.env).map (·.2) := by rfl)
    (hs2 : (assignEach [.Name m py] X.env).map (·.2) = assign (.Name m py) X.env :: (assignEach [] X.env).map (·.2) := by rfl) : SX X (.Assign [.Tuple [.Name n px, .Name m py] kt pt] (.Tuple [a, b] k2 pt2) pos :: rest) Γ M D := fun F0 H0 F A H σ sh sv =>
  xSs_cons (ps_asg (pe_tup PA.x) (pg_tup hc (pgs_cons (pg_name hN hi hx hfx) (pgs_cons (pg_name hN hj hy hfy) pgs_nil hs2) hs1) hn hst) hs hw h1) (h F0 H0 F A H σ _ sh sv fun vs F1 A1 H1 sh1 af1 v1 => by
    obtain ⟨v, w, rfl, rv, rw⟩ := pair2 v1
    refine ⟨by show 2 ≤ _; rw [sizeLine_eq]; decide, fun p hp => ?_⟩
    obtain ⟨s2, a2⟩ := sh1.side (o := .tup [v, w]) hp
    exact ⟨p, _, rfl, SqT.of upd_same, rfl, v, _, rfl, w, _, rfl, rfl, go.go (af1.ff.trans a2.ff) s2 ((((sv.af af1).af a2).set k (a2.vr rv)).set l (a2.vr rw))⟩)
end
end DV
namespace K32
open PySem PySem.Spec L2 DV
/-! ### edges -/
abbrev tupE (p : Int × Int) : PyData := .tuple [.int p.1, .int p.2]
def edOf (l : List (Int × (Int × Int))) : List (Key × AV) := l.foldl (fun acc p => putA acc (.inl p.1) (.d (tupE p.2))) []
def vOf (l : List (Int × (Int × Int))) (k : Int) : Option (Int × Int) := l.foldl (fun acc p => if k = p.1 then some p.2 else acc) none
theorem ed_snoc (l : List (Int × (Int × Int))) (p : Int × (Int × Int)) : edOf (l ++ [p]) = putA (edOf l) (.inl p.1) (.d (tupE p.2)) := by unfold edOf; rw [List.foldl_append]; rfl
theorem v_snoc (l : List (Int × (Int × Int))) (p : Int × (Int × Int)) (k : Int) : vOf (l ++ [p]) k = if k = p.1 then some p.2 else vOf l k := by unfold vOf; rw [List.foldl_append]; rfl
theorem lk_ed (k : Int) : ∀ l : List (Int × (Int × Int)), lkA (edOf l) (.inl k) = (vOf l k).map fun p => .d (tupE p) := by
  refine snoc_ind rfl fun l p ih => ?_
  rw [ed_snoc, v_snoc, lkA_put]
  by_cases h : k = p.1
  · rw [if_pos (by rw [h]), if_pos h]; rfl
  · rw [if_neg (fun q => h (Sum.inl.inj q)), if_neg h, ih]
theorem put_len (ks : List (Key × AV)) (q : Key) (z : AV) : (putA ks q z).length ≤ ks.length + 1 := by
  unfold putA
  split
  · rw [List.length_map]; omega
  · rw [List.length_append]; exact Nat.le_refl _
theorem ed_len : ∀ l : List (Int × (Int × Int)), (edOf l).length ≤ l.length := by
  refine snoc_ind (Nat.le_refl _) fun l p ih => ?_
  rw [ed_snoc, List.length_append, List.length_singleton]
  have := put_len (edOf l) (.inl p.1) (.d (tupE p.2))
  omega
theorem v_some (k : Int) : ∀ l : List (Int × (Int × Int)), k ∈ l.map (·.1) → ∃ p, vOf l k = some p := by
  refine snoc_ind (by intro h; cases h) fun l p ih h => ?_
  rw [v_snoc]
  by_cases q : k = p.1
  · exact ⟨_, if_pos q⟩
  · rw [if_neg q]
    rw [List.map_append] at h
    rcases List.mem_append.mp h with z | z
    · exact ih z
    · simp at z; exact absurd z q
section
variable (cs : List Nat) (lv : List Int) (size : Int) (rows : List (List Int))
def lfE (row : List Int) (x : Int) (j : Nat) : Int := x + twF ((shownF cs lv row).take j) size
def entF (row : List Int) (x : Int) (j : Nat) : Int × (Int × Int) :=
  (row.getD j 0, if lvf lv (row.headD 0) % 2 = 1 then (lfE cs lv size row x (j + 1), lfE cs lv size row x j) else (lfE cs lv size row x j, lfE cs lv size row x (j + 1)))
def entsF (row : List Int) (x : Int) (j : Nat) : List (Int × (Int × Int)) := (List.range j).map (entF cs lv size row x)
def edgL : Nat → List (Int × (Int × Int))
  | 0 => []
  | i + 1 => edgL i ++ entsF cs lv size (rows.getD i []) (xAt cs lv size rows i) (rows.getD i []).length
def caretsF (l : List (Int × (Int × Int))) : List PyData := ((rg cs.length).map fun k => .int ((vOf l k).getD (0, 0)).1) ++ [.int (if cs.length = 0 then 0 else ((vOf l ((cs.length : Nat) - 1)).getD (0, 0)).2)]
theorem ents_succ (row : List Int) (x : Int) (j : Nat) : entsF cs lv size row x (j + 1) = entsF cs lv size row x j ++ [entF cs lv size row x j] := map_range_succ _ _
theorem ents_keys (row : List Int) (x : Int) : (entsF cs lv size row x row.length).map (·.1) = row := by
  unfold entsF
  rw [List.map_map]
  refine List.ext_getElem (by simp) fun i h1 h2 => ?_
  simp [entF, List.getD_eq_getElem?_getD, List.getElem?_eq_getElem h2]
theorem edg_keys : ∀ i, i ≤ rows.length → (edgL cs lv size rows i).map (·.1) = (rows.take i).flatten
  | 0, _ => rfl
  | i + 1, h => by
    have hi : i < rows.length := h
    rw [edgL, List.map_append, edg_keys i (by omega), ents_keys, List.take_succ, List.getElem?_eq_getElem hi, List.flatten_append]
    simp [List.getD_eq_getElem?_getD, List.getElem?_eq_getElem hi]
theorem edg_len {i : Nat} (h : i ≤ rows.length) : (edgL cs lv size rows i).length ≤ rows.flatten.length := by
  have := congrArg List.length (edg_keys cs lv size rows i h)
  rw [List.length_map] at this
  rw [this]
  conv => rhs; rw [← List.take_append_drop i rows, List.flatten_append, List.length_append]
  omega
end
abbrev rRunsL : List PyData → PyData → Prop := fun ds r => ∃ (cs : List Nat) (lv : List Int) (size : Int), ds = [T cs, .list (lv.map .int), .list (rowsD (rowsOf lv (orderOf lv))), .str sPLAIN, .int size] ∧ cs.length ≤ 900 ∧ lv.length = cs.length ∧ 0 < size ∧ size ≤ 10 ∧
  r = .tuple [.tuple (runsF cs lv size (rowsOf lv (orderOf lv)) (rowsOf lv (orderOf lv)).length), .tuple (caretsF cs (edgL cs lv size (rowsOf lv (orderOf lv)) (rowsOf lv (orderOf lv)).length))]
section
variable {P : Program} {w : World} {K : PySem.W.Frag} {mg : Str → Option Value} {base : Heap}
abbrev sRunsL : Stmt := top 37
abbrev nRunsL : List Str := ["text", "levels", "rows", "face", "size", "found", "edges", "x", "row", "shown", "odd", "k", "left", "right", "wide", "carets"]
theorem scRunsL : FnScope nRunsL ["text", "levels", "rows", "face", "size"] (defScope sRunsL) := ⟨rfl, rfl, rfl, by decide +kernel, rfl, by decide +kernel, by decide +kernel⟩
theorem shown_take (cs : List Nat) (lv row : List Int) (j : Nat) : (shownF cs lv row).length = row.length := by simp [shownF]
theorem ok_runsL {f : Addr} {fd : FuncData} (F : Fun K "_law_runs" "_law_runs" sRunsL f fd) (Tx : Txt K mg) {k : Nat} (D1 : DefR P w K mg base k "_law_signs" rSig) (D3 : DefR P w K mg base k "text_width" rTw) : FnOk P w K mg base CX0 (k + 1) f fd ["text", "levels", "rows", "face", "size"] (spR K rRunsL) := by
  refine fn_okD F scRunsL (fun ds r h => by obtain ⟨c, _, _, rfl, _⟩ := h; rfl) fun cdv A outer s H E hr ds r h => ?_
  obtain ⟨cs, lv, size, rfl, hlen, hll, hs0, hs1, rfl⟩ := h
  have ll : ∀ {M}, lstOf M (.d (.list (lv.map .int))) = some (lv.map fun n => AV.d (.int n)) := lst_frz
  have hne := rows_ne lv (orderOf lv)
  have hcnt := rows_cnt lv (orderOf lv)
  have hme : ∀ r ∈ rowsOf lv (orderOf lv), ∀ x ∈ r, 0 ≤ x ∧ x < lv.length := fun r hr x hx => order_mem.mp (rows_mem hr hx)
  have hrl : ∀ r ∈ rowsOf lv (orderOf lv), r.length ≤ 900 := fun r hr => by have := row_len hr; rw [order_len] at this; omega
  have hfl : (rowsOf lv (orderOf lv)).flatten.length ≤ 900 := by rw [rows_flat, order_len]; omega
  have hall : ∀ k : Int, 0 ≤ k → k < cs.length → k ∈ (rowsOf lv (orderOf lv)).flatten := fun k h0 h1 => by rw [rows_flat]; exact order_mem.mpr ⟨h0, by omega⟩
  rw [order_len] at hcnt
  generalize rowsOf lv (orderOf lv) = rows at hne hcnt hme hrl hfl hall
  refine SX.asg 5 scRunsL.nd (EV.lstM EA.nil (by decide)) ?_
  refine SX.asg 6 scRunsL.nd EV.dctM ?_
  refine SX.asg 7 scRunsL.nd EV.int ?_
  refine SX.for .never rfl (IV.list (EV.var 2)) (fun i Γ' M' => ∃ e8 e9 e10 e11 e12 e13 e14, Γ' = [some (.d (T cs)), some (.d (.list (lv.map .int))), some (.d (.list (rowsD rows))), some (.d (.str sPLAIN)), some (.d (.int size)), some (.m 0), some (.m 1), some (.d (.int (xAt cs lv size rows i))), e8, e9, e10, e11, e12, e13, e14, none] ∧ M' = [.lst ((runsF cs lv size rows i).map .d), .dct (edOf (edgL cs lv size rows i))]) ⟨_, _, _, _, _, _, _, rfl, rfl⟩ ?_ ?_
  · rintro i d Γ' M' hd ⟨e8, e9, e10, e11, e12, e13, e14, rfl, rfl⟩
    obtain ⟨row, hrow, rfl⟩ := enc_inv hd
    have hi := lt_of_get hrow
    have hgr : rows.getD i [] = row := getD_of hrow
    have hne := hne row (List.mem_of_getElem? hrow)
    have hme := hme row (List.mem_of_getElem? hrow)
    have hrl := hrl row (List.mem_of_getElem? hrow)
    have hedl := edg_len cs lv size rows (Nat.le_of_lt hi)
    obtain ⟨r0, hr0⟩ : ∃ r0, row[0]? = some r0 := ⟨_, List.getElem?_eq_getElem (List.length_pos_iff.mpr hne)⟩
    have hhd : row.headD 0 = r0 := by rw [List.headD_eq_head?_getD, List.head?_eq_getElem?, hr0]; rfl
    have hrow2 : ∀ {M}, lstOf M (.d (.list (row.map .int))) = some (row.map fun n => AV.d (.int n)) := lst_frz
    obtain ⟨q0, q1⟩ := hme r0 (List.mem_of_getElem? hr0)
    have hsl : (shownF cs lv row).length = row.length := by simp [shownF]
    have hw : rowW cs lv size rows i = twF (shownF cs lv row) size := by unfold rowW; rw [hgr]
    have hrd : runD cs lv size rows i = .tuple [.int (xAt cs lv size rows i), .int (twF (shownF cs lv row) size), T (shownF cs lv row), .int (lmin row), .int (lvf lv r0)] := by unfold runD; rw [hw, hgr, hhd]
    have hx1 : xAt cs lv size rows (i + 1) = xAt cs lv size rows i + twF (shownF cs lv row) size := by rw [xAt, hw]
    have he1 : edgL cs lv size rows (i + 1) = edgL cs lv size rows i ++ entsF cs lv size row (xAt cs lv size rows i) row.length := by rw [edgL, hgr]
    rw [hx1, he1, runs_succ, hrd]
    have hrll : (runsF cs lv size rows i).length < 901 := by simp [runsF]; omega
    generalize xAt cs lv size rows i = x
    generalize edgL cs lv size rows i = el at hedl
    generalize runsF cs lv size rows i = rl0 at hrll
    refine ⟨_, _, TV.name 8 scRunsL.nd, ?_⟩
    refine SX.asg 9 scRunsL.nd (EV.call D1 hr (EA.cons (EV.var 0) (EA.cons (EV.var 1) (EA.one (EV.var 8)))) rfl ⟨cs, lv, row, rfl, hlen, hrl, fun k hk => by have := hme k hk; omega, rfl⟩) ?_
    refine SX.asg 10 scRunsL.nd (x := .d (.bool (decide (lvf lv r0 % 2 = 1)))) (EV.cmp (EV.mod (EV.intI Tx.int (EV.ixL (EV.var 1) (EV.ixL (EV.var 8) EV.int hrow2 (at_cell (atI_nat (j := 0) hr0))) ll (at_cell (atI_lvf q0 q1)))) EV.int (by decide)) EV.int cb_eqI rfl) ?_
    refine SX.for .never rfl (IV.rgN Tx.range ((EV.lenL Tx.len (EV.var 8) hrow2).cast (by rw [List.length_map])) (by omega)) (fun j Γ' M' => ∃ e11 e12 e13, Γ' = [some (.d (T cs)), some (.d (.list (lv.map .int))), some (.d (.list (rowsD rows))), some (.d (.str sPLAIN)), some (.d (.int size)), some (.m 0), some (.m 1), some (.d (.int x)), some (.d (.list (row.map .int))), some (.d (T (shownF cs lv row))), some (.d (.bool (decide (lvf lv r0 % 2 = 1)))), e11, e12, e13, e14, none] ∧ M' = [.lst (rl0.map .d), .dct (edOf (el ++ entsF cs lv size row x j))]) ⟨_, _, _, rfl, by simp [entsF]⟩ ?_ ?_
    · rintro j d Γ' M' hd ⟨e11, e12, e13, rfl, rfl⟩
      obtain ⟨hj, rfl⟩ := rg_inv hd
      refine ⟨_, _, TV.name 11 scRunsL.nd, ?_⟩
      refine SX.asg 12 scRunsL.nd (x := .d (.int (lfE cs lv size row x j))) (M1 := [.lst (rl0.map .d), .dct (edOf (el ++ entsF cs lv size row x j))]) (EV.add (EV.var 7) (EV.call D3 hr (EA.cons ((EV.slS (EV.var 9) EO.none (EO.some (EV.var 11)) (S_le (by omega))).cast (by rw [cutS_S, cut_take])) (EA.cons (EV.var 3) (EA.one (EV.var 4)))) rfl ⟨(shownF cs lv row).take j, size, rfl, by rw [List.length_take]; omega, hs0, hs1, rfl⟩)) ?_
      refine SX.asg 13 scRunsL.nd (x := .d (.int (lfE cs lv size row x (j + 1)))) (M1 := [.lst (rl0.map .d), .dct (edOf (el ++ entsF cs lv size row x j))]) (EV.add (EV.var 7) (EV.call D3 hr (EA.cons ((EV.slS (EV.var 9) EO.none (EO.some (EV.add (EV.var 11) EV.int)) (S_le (by omega))).cast (by rw [cutS_S, show ((j : Nat) : Int) + 1 = ((j + 1 : Nat) : Int) by omega, cut_take])) (EA.cons (EV.var 3) (EA.one (EV.var 4)))) rfl ⟨(shownF cs lv row).take (j + 1), size, rfl, by rw [List.length_take]; omega, hs0, hs1, rfl⟩)) ?_
      have hrj : row[j]? = some (row.getD j 0) := by rw [List.getD_eq_getElem?_getD, List.getElem?_eq_getElem hj]; rfl
      have hent : entF cs lv size row x j = (row.getD j 0, if lvf lv r0 % 2 = 1 then (lfE cs lv size row x (j + 1), lfE cs lv size row x j) else (lfE cs lv size row x j, lfE cs lv size row x (j + 1))) := by unfold entF; rw [hhd]
      refine SX.setD hr (x := .d (tupE (entF cs lv size row x j).2)) (M1 := [.lst (rl0.map .d), .dct (edOf (el ++ entsF cs lv size row x j))]) (d := .int (row.getD j 0)) ?_ (EV.var 6) (EV.ixL (EV.var 8) (EV.var 11) hrow2 (at_cell (atI_nat hrj))) rfl rfl ?_ (SX.nil ?_)
      · rw [hent]
        refine EV.ite (p := decide (lvf lv r0 % 2 = 1)) (ET.val (EV.var 10)) (fun e => ?_) (fun e => ?_)
        · rw [if_pos (of_decide_eq_true e)]
          exact EV.tup (ds := [.int _, .int _]) (EA.cons (EV.var 13) (EA.one (EV.var 12))) (by simp [sizeLine_eq])
        · rw [if_neg (of_decide_eq_false e)]
          exact EV.tup (ds := [.int _, .int _]) (EA.cons (EV.var 12) (EA.one (EV.var 13))) (by simp [sizeLine_eq])
      · have := ed_len (el ++ entsF cs lv size row x j)
        rw [List.length_append] at this
        have h2 : (entsF cs lv size row x j).length = j := by simp [entsF]
        exact small_lt (by omega)
      · rw [ents_succ, ← List.append_assoc, ed_snoc, show (entF cs lv size row x j).1 = row.getD j 0 by rw [hent]]
        exact ⟨_, _, _, rfl, rfl⟩
    · rintro Γ' M' ⟨e11, e12, e13, rfl, rfl⟩
      rw [List.length_map, rg_len]
      refine SX.asg 14 scRunsL.nd (EV.call D3 hr (EA.cons (EV.var 9) (EA.cons (EV.var 3) (EA.one (EV.var 4)))) rfl ⟨shownF cs lv row, size, rfl, by omega, hs0, hs1, rfl⟩) ?_
      refine SX.app0 (EV.var 5) rfl (EV.tup (ds := [.int x, .int (twF (shownF cs lv row) size), T (shownF cs lv row), .int (lmin row), .int (lvf lv r0)])
        (EA.cons (EV.var 7) (EA.cons (EV.var 14) (EA.cons (EV.var 9) (EA.cons (EV.minL rfl Tx.min (EV.var 8) hrow2 hne) (EA.one (EV.ixL (EV.var 1) (EV.ixL (EV.var 8) EV.int hrow2 (at_cell (atI_nat (j := 0) hr0))) ll (at_cell (atI_lvf q0 q1)))))))) (by simp [sizeLine_eq])) (by rw [List.length_map]; exact small_lt (by omega)) ?_
      refine SX.asg 7 scRunsL.nd (EV.add (EV.var 7) (EV.var 14)) (SX.nil ⟨_, _, _, _, _, _, _, rfl, by rw [List.map_append]; rfl⟩)
  · rintro Γ' M' ⟨e8, e9, e10, e11, e12, e13, e14, rfl, rfl⟩
    have hk := edg_keys cs lv size rows rows.length (Nat.le_refl _)
    rw [List.take_length] at hk
    rw [List.length_map]
    generalize edgL cs lv size rows rows.length = el at hk
    generalize runsF cs lv size rows rows.length = rl0
    have hv : ∀ k : Int, 0 ≤ k → k < cs.length → lkA (edOf el) (.inl k) = some (.d (tupE ((vOf el k).getD (0, 0)))) := fun k h0 h1 => by
      obtain ⟨p, hp⟩ := v_some k el (by rw [hk]; exact hall k h0 h1)
      rw [lk_ed, hp]; rfl
    refine SX.asg 15 scRunsL.nd (x := .d (.list (caretsF cs el))) (M1 := [.lst (rl0.map .d), .dct (edOf el)]) ?_ ?_
    · refine EV.cat (ds := (rg cs.length).map fun k => .int ((vOf el k).getD (0, 0)).1) (es' := [.int (if cs.length = 0 then 0 else ((vOf el ((cs.length : Nat) - 1)).getD (0, 0)).2)])
        (LC.lcMap (as := rg cs.length) (enc := .int) (fun k => .int ((vOf el k).getD (0, 0)).1) rfl scRunsL.nd (own := [("k", 11)]) (by show blkC nRunsL (defScope sRunsL) _ _ = true; decide +kernel)
          (IV.rgN Tx.range (EV.lenC Tx.len (EV.var 0) (by omega)) (by omega)) (by rw [rg_len]; exact small_le (by omega)) (fun k => [some (.d (T cs)), some (.d (.list (lv.map .int))), some (.d (.list (rowsD rows))), some (.d (.str sPLAIN)), some (.d (.int size)), some (.m 0), some (.m 1), some (.d (.int (xAt cs lv size rows rows.length))), e8, e9, e10, some (.d (.int k)), e12, e13, e14, none]) [11] (by decide)
          (fun o _ s H C cl fp => TV.name 11 scRunsL.nd) (fun k hk s H C cl fp => ?_)).ev (EV.lst (ds := [.int _]) (EA.one ?_) (by simp [sizeLine_eq])) rfl rfl (by simp [rg_len]; exact small_le (by omega))
      · obtain ⟨h0, h1⟩ := mem_rg.mp hk
        exact EV.ixT (EV.dget hr (EV.var 6) (EV.var 11) rfl rfl (hv k h0 h1)) EV.int rfl rfl
      · refine EV.ite (p := decide (cs.length ≠ 0)) ((ET.cmp (EV.lenC Tx.len (EV.var 0) (by omega)) EV.int cb_gt rfl).cast ?_) (fun e => ?_) (fun e => ?_)
        · by_cases q : cs.length = 0
          · rw [q]; rfl
          · rw [decide_eq_true q]; exact decide_eq_true (by omega)
        · have e : cs.length ≠ 0 := of_decide_eq_true e
          rw [if_neg e]
          exact EV.ixT (EV.dget hr (EV.var 6) (EV.sub (EV.lenC Tx.len (EV.var 0) (by omega)) EV.int) rfl rfl (hv _ (by omega) (by omega))) EV.int rfl rfl
        · have e : cs.length = 0 := by
            have := of_decide_eq_false e
            simpa using this
          rw [if_pos e]
          exact EV.int
    exact SX.ret (EV.tup (ds := [.tuple _, .tuple _]) (EA.cons (EV.tupleL Tx.tuple (EV.var 5) rfl) (EA.one (EV.tupleL Tx.tuple (EV.var 15) rfl))) (by simp [sizeLine_eq])) rfl
end
end K32

set_option Elab.async false
set_option maxRecDepth 100000
set_option maxHeartbeats 4000000
set_option linter.all false
namespace K32
open PySem PySem.Spec L2 DV
abbrev rCar : List PyData → PyData → Prop := fun ds r => ∃ (cs : List Nat) (b size : Int), ds = [T cs, .int b, .str sPLAIN, .int size] ∧ cs.length ≤ 900 ∧ 0 < size ∧ size ≤ 10 ∧
  r = .tuple (caretsF cs (edgL cs (levF cs b) size (rowsOf (levF cs b) (orderOf (levF cs b))) (rowsOf (levF cs b) (orderOf (levF cs b))).length))
section
variable {P : Program} {w : World} {K : PySem.W.Frag} {mg : Str → Option Value} {base : Heap}
abbrev sCar : Stmt := top 28
abbrev nCar : List Str := ["text", "base", "face", "size", "runs", "edges", "x", "wide", "shown", "first", "level", "step", "left", "right", "place", "found"]
theorem scCar : FnScope nCar ["text", "base", "face", "size"] (defScope sCar) := ⟨rfl, rfl, rfl, by decide +kernel, rfl, by decide +kernel, by decide +kernel⟩
theorem ok_car {f : Addr} {fd : FuncData} (F : Fun K "caret_edges" "caret_edges" sCar f fd) (Tx : Txt K mg) {k : Nat} (D1 : DefR P w K mg base k "runs_of" rRuns) (D3 : DefR P w K mg base k "text_width" rTw) : FnOk P w K mg base CX0 (k + 1) f fd ["text", "base", "face", "size"] (spR K rCar) := by
  refine fn_okD F scCar (fun ds r h => by obtain ⟨c, _, _, rfl, _⟩ := h; rfl) fun cdv A outer s H E hr ds r h => ?_
  obtain ⟨cs, b, size, rfl, hlen, hs0, hs1, rfl⟩ := h
  have hll := lev_len cs b
  refine SX.parT 4 5 rfl scCar.nd (EA.cons (EV.call D1 hr (EA.cons (EV.var 0) (EA.cons (EV.var 1) (EA.cons (EV.var 2) (EA.one (EV.var 3))))) rfl ⟨cs, b, size, rfl, hlen, hs0, hs1, rfl⟩) (EA.one EV.dctM)) ?_
  generalize levF cs b = lv at hll
  have hne := rows_ne lv (orderOf lv)
  have hcnt := rows_cnt lv (orderOf lv)
  have hok := row_ok lv (orderOf lv)
  have hrl : ∀ r ∈ rowsOf lv (orderOf lv), r.length ≤ 900 := fun r hr => by have := row_len hr; rw [order_len] at this; omega
  have hfl : (rowsOf lv (orderOf lv)).flatten.length ≤ 900 := by rw [rows_flat, order_len]; omega
  have hall : ∀ k : Int, 0 ≤ k → k < cs.length → k ∈ (rowsOf lv (orderOf lv)).flatten := fun k h0 h1 => by rw [rows_flat]; exact order_mem.mpr ⟨h0, by omega⟩
  rw [order_len] at hcnt
  generalize rowsOf lv (orderOf lv) = rows at hne hcnt hok hrl hfl hall
  refine SX.for .never rfl (IV.tup (EV.var 4)) (fun i Γ' M' => ∃ e6 e7 e8 e9 e10 e11 e12 e13 e14, Γ' = [some (.d (T cs)), some (.d (.int b)), some (.d (.str sPLAIN)), some (.d (.int size)), some (.d (.tuple (runsF cs lv size rows rows.length))), some (.m 0), e6, e7, e8, e9, e10, e11, e12, e13, e14, none] ∧ M' = [.dct (edOf (edgL cs lv size rows i))]) ⟨_, _, _, _, _, _, _, _, _, rfl, rfl⟩ ?_ ?_
  · rintro i d Γ' M' hd ⟨e6, e7, e8, e9, e10, e11, e12, e13, e14, rfl, rfl⟩
    have hi := lt_of_get hd
    rw [runsF, List.length_map, List.length_range] at hi
    rw [runsF, List.getElem?_map, List.getElem?_range hi] at hd
    obtain rfl := Option.some.inj hd
    have hrow : rows[i]? = some (rows.getD i []) := by rw [List.getD_eq_getElem?_getD, List.getElem?_eq_getElem hi]; rfl
    refine ⟨_, _, TV.tup rfl (TVS.cons (TV.name 6 scCar.nd) (TVS.cons (TV.name 7 scCar.nd) (TVS.cons (TV.name 8 scCar.nd) (TVS.cons (TV.name 9 scCar.nd) (TVS.cons (TV.name 10 scCar.nd) TVS.nil))))), ?_⟩
    have he1 : edgL cs lv size rows (i + 1) = edgL cs lv size rows i ++ entsF cs lv size (rows.getD i []) (xAt cs lv size rows i) (rows.getD i []).length := rfl
    have hedl := edg_len cs lv size rows (Nat.le_of_lt hi)
    rw [he1]
    generalize hru : runsF cs lv size rows rows.length = rns
    generalize xAt cs lv size rows i = x
    generalize rowW cs lv size rows i = wd
    generalize edgL cs lv size rows i = el at hedl
    generalize rows.getD i [] = row at hrow
    have hne := hne row (List.mem_of_getElem? hrow)
    have hok := hok row (List.mem_of_getElem? hrow)
    have hrl := hrl row (List.mem_of_getElem? hrow)
    obtain ⟨r0, hr0⟩ : ∃ r0, row[0]? = some r0 := ⟨_, List.getElem?_eq_getElem (List.length_pos_iff.mpr hne)⟩
    have hhd0 : row.head? = some r0 := by rw [List.head?_eq_getElem?, hr0]
    have hhd : row.headD 0 = r0 := by rw [List.headD_eq_head?_getD, hhd0]; rfl
    rw [hhd]
    have hsl : (shownF cs lv row).length = row.length := by simp [shownF]
    refine SX.for .never rfl (IV.rgN (n := row.length) Tx.range ((EV.lenC Tx.len (EV.var 8) (by omega)).cast (by rw [hsl])) (by omega)) (fun j Γ' M' => ∃ e11 e12 e13 e14, Γ' = [some (.d (T cs)), some (.d (.int b)), some (.d (.str sPLAIN)), some (.d (.int size)), some (.d (.tuple rns)), some (.m 0), some (.d (.int x)), some (.d (.int wd)), some (.d (T (shownF cs lv row))), some (.d (.int (lmin row))), some (.d (.int (lvf lv r0))), e11, e12, e13, e14, none] ∧ M' = [.dct (edOf (el ++ entsF cs lv size row x j))]) ⟨_, _, _, _, rfl, by simp [entsF]⟩ ?_ ?_
    · rintro j d Γ' M' hd ⟨e11, e12, e13, e14, rfl, rfl⟩
      obtain ⟨hj, rfl⟩ := rg_inv hd
      refine ⟨_, _, TV.name 11 scCar.nd, ?_⟩
      refine SX.asg 12 scCar.nd (x := .d (.int (lfE cs lv size row x j))) (M1 := [.dct (edOf (el ++ entsF cs lv size row x j))]) (EV.add (EV.var 6) (EV.call D3 hr (EA.cons ((EV.slS (EV.var 8) EO.none (EO.some (EV.var 11)) (S_le (by omega))).cast (by rw [cutS_S, cut_take])) (EA.cons (EV.var 2) (EA.one (EV.var 3)))) rfl ⟨(shownF cs lv row).take j, size, rfl, by rw [List.length_take]; omega, hs0, hs1, rfl⟩)) ?_
      refine SX.asg 13 scCar.nd (x := .d (.int (lfE cs lv size row x (j + 1)))) (M1 := [.dct (edOf (el ++ entsF cs lv size row x j))]) (EV.add (EV.var 6) (EV.call D3 hr (EA.cons ((EV.slS (EV.var 8) EO.none (EO.some (EV.add (EV.var 11) EV.int)) (S_le (by omega))).cast (by rw [cutS_S, show ((j : Nat) : Int) + 1 = ((j + 1 : Nat) : Int) by omega, cut_take])) (EA.cons (EV.var 2) (EA.one (EV.var 3)))) rfl ⟨(shownF cs lv row).take (j + 1), size, rfl, by rw [List.length_take]; omega, hs0, hs1, rfl⟩)) ?_
      have hrj : row[j]? = some (row.getD j 0) := by rw [List.getD_eq_getElem?_getD, List.getElem?_eq_getElem hj]; rfl
      have hpl := row_place hok hhd0 hrj
      have hent : entF cs lv size row x j = (row.getD j 0, if lvf lv r0 % 2 = 1 then (lfE cs lv size row x (j + 1), lfE cs lv size row x j) else (lfE cs lv size row x j, lfE cs lv size row x (j + 1))) := by unfold entF; rw [hhd]
      refine SX.asg 14 scCar.nd (x := .d (.int (row.getD j 0))) (M1 := [.dct (edOf (el ++ entsF cs lv size row x j))]) ((EV.add (EV.var 9) (EV.iteI (ET.tru (EV.mod (EV.var 10) EV.int (by decide)) rfl) (fun _ => EV.sub (EV.sub (EV.lenC Tx.len (EV.var 8) (by omega)) EV.int) (EV.var 11)) (fun _ => EV.var 11))).cast ?_) ?_
      · rw [hpl, odd_ne, hsl]
        by_cases q : lvf lv r0 % 2 = 1 <;> simp [q]
      refine SX.setD hr (x := .d (tupE (entF cs lv size row x j).2)) (M1 := [.dct (edOf (el ++ entsF cs lv size row x j))]) (d := .int (row.getD j 0)) ?_ (EV.var 5) (EV.var 14) rfl rfl ?_ (SX.nil ?_)
      · rw [hent]
        refine EV.ite (ET.tru (EV.mod (EV.var 10) EV.int (by decide)) rfl) (fun e => ?_) (fun e => ?_)
        · rw [if_pos (of_decide_eq_true (odd_ne ▸ e))]
          exact EV.tup (ds := [.int _, .int _]) (EA.cons (EV.var 13) (EA.one (EV.var 12))) (by simp [sizeLine_eq])
        · rw [if_neg (of_decide_eq_false (odd_ne ▸ e))]
          exact EV.tup (ds := [.int _, .int _]) (EA.cons (EV.var 12) (EA.one (EV.var 13))) (by simp [sizeLine_eq])
      · have := ed_len (el ++ entsF cs lv size row x j)
        rw [List.length_append] at this
        have h2 : (entsF cs lv size row x j).length = j := by simp [entsF]
        exact small_lt (by omega)
      · rw [ents_succ, ← List.append_assoc, ed_snoc, show (entF cs lv size row x j).1 = row.getD j 0 by rw [hent]]
        exact ⟨_, _, _, _, rfl, rfl⟩
    · rintro Γ' M' ⟨e11, e12, e13, e14, rfl, rfl⟩
      rw [List.length_map, rg_len]
      exact SX.nil ⟨_, _, _, _, _, _, _, _, _, rfl, rfl⟩
  · rintro Γ' M' ⟨e6, e7, e8, e9, e10, e11, e12, e13, e14, rfl, rfl⟩
    have hk := edg_keys cs lv size rows rows.length (Nat.le_refl _)
    rw [List.take_length] at hk
    rw [show (runsF cs lv size rows rows.length).length = rows.length by simp [runsF]]
    generalize edgL cs lv size rows rows.length = el at hk
    have hv : ∀ k : Int, 0 ≤ k → k < cs.length → lkA (edOf el) (.inl k) = some (.d (tupE ((vOf el k).getD (0, 0)))) := fun k h0 h1 => by
      obtain ⟨p, hp⟩ := v_some k el (by rw [hk]; exact hall k h0 h1)
      rw [lk_ed, hp]; rfl
    refine SX.asgLc 15 (x := .d (.list ((rg cs.length).map fun k => .int ((vOf el k).getD (0, 0)).1))) (M1 := [.dct (edOf el)]) ?_ ?_
    · exact LC.lcMap (as := rg cs.length) (enc := .int) (fun k => .int ((vOf el k).getD (0, 0)).1) rfl scCar.nd (own := [("place", 14)]) (by show blkC nCar (defScope sCar) _ _ = true; decide +kernel)
          (IV.rgN Tx.range (EV.lenC Tx.len (EV.var 0) (by omega)) (by omega)) (by rw [rg_len]; exact small_le (by omega)) (fun k => [some (.d (T cs)), some (.d (.int b)), some (.d (.str sPLAIN)), some (.d (.int size)), some (.d (.tuple (runsF cs lv size rows rows.length))), some (.m 0), e6, e7, e8, e9, e10, e11, e12, e13, some (.d (.int k)), none]) [14] (by decide)
          (fun o _ s H C cl fp => TV.name 14 scCar.nd) (fun k hk s H C cl fp => by
            obtain ⟨h0, h1⟩ := mem_rg.mp hk
            exact EV.ixT (EV.dget hr (EV.var 5) (EV.var 14) rfl rfl (hv k h0 h1)) EV.int rfl rfl)
    refine SX.ret (x := .d (.tuple (caretsF cs el))) (M1 := [.dct (edOf el)]) (EV.tupleL Tx.tuple (EV.cat (ds := (rg cs.length).map fun k => .int ((vOf el k).getD (0, 0)).1) (es' := [.int (if cs.length = 0 then 0 else ((vOf el ((cs.length : Nat) - 1)).getD (0, 0)).2)]) (EV.var 15) (EV.lst (ds := [.int _]) (EA.one ?_) (by simp [sizeLine_eq])) rfl rfl (by simp [rg_len]; exact small_le (by omega))) rfl) rfl
    refine EV.ite (p := decide (cs.length ≠ 0)) ((ET.truS (EV.var 0) (S_le (by omega))).cast ?_) (fun e => ?_) (fun e => ?_)
    · rw [S_len]
      by_cases q : cs.length = 0
      · rw [q]; rfl
      · rw [decide_eq_true q]
        rw [bne_iff_ne]
        omega
    · have e : cs.length ≠ 0 := of_decide_eq_true e
      rw [if_neg e]
      exact EV.ixT (EV.dget hr (EV.var 5) (EV.sub (EV.lenC Tx.len (EV.var 0) (by omega)) EV.int) rfl rfl (hv _ (by omega) (by omega))) EV.int rfl rfl
    · have e : cs.length = 0 := by
        have := of_decide_eq_false e
        simpa using this
      rw [if_pos e]
      exact EV.int
end
end K32

set_option Elab.async false
set_option maxRecDepth 100000
set_option maxHeartbeats 4000000
set_option linter.all false
namespace DV
open PySem PySem.Spec L2
/-! ### == of data -/
def okD (n : Nat) (d : PyData) : Prop := d.canLay0 = true ∧ d.depth ≤ n
theorem okD.int (n : Nat) (i : Int) : okD n (.int i) := ⟨rfl, Nat.zero_le _⟩
theorem okD.str (n : Nat) (i : Str) (h : PyData.strOk i = true) : okD n (.str i) := ⟨h, Nat.zero_le _⟩
theorem okD.all {n : Nat} : ∀ {ds : List PyData}, (∀ d ∈ ds, okD n d) → PyData.canLayAll0 ds = true ∧ PyData.depthAll ds ≤ n
  | [], _ => ⟨rfl, Nat.zero_le _⟩
  | d :: ds, h => by
    obtain ⟨h1, h2⟩ := h d (by simp)
    obtain ⟨g1, g2⟩ := okD.all (ds := ds) fun e he => h e (by simp [he])
    exact ⟨by simp [PyData.canLayAll0, h1, g1], by simp only [PyData.depthAll]; omega⟩
theorem okD.lst {n : Nat} {ds : List PyData} (h : ∀ d ∈ ds, okD n d) : okD (n + 1) (.list ds) := by
  obtain ⟨h1, h2⟩ := okD.all h
  exact ⟨by simpa [PyData.canLay0] using h1, by simp only [PyData.depth]; omega⟩
theorem okD.tup {n : Nat} {ds : List PyData} (h : ∀ d ∈ ds, okD n d) : okD (n + 1) (.tuple ds) := by
  obtain ⟨h1, h2⟩ := okD.all h
  exact ⟨by simpa [PyData.canLay0] using h1, by simp only [PyData.depth]; omega⟩
theorem okD.ints {n : Nat} (ns : List Int) : okD (n + 1) (.list (ns.map .int)) := okD.lst fun d hd => by obtain ⟨i, _, rfl⟩ := List.mem_map.mp hd; exact okD.int _ _
theorem okD.shaped {n : Nat} {d : PyData} (h : okD n d) (hn : n ≤ 64 := by decide) : SeqAt.shaped d = true := by
  unfold SeqAt.shaped
  rw [h.1, Bool.true_and]
  exact decide_eq_true (Nat.le_trans h.2 hn)
section
variable {K : PySem.W.Frag} {F : Hp}
theorem DR.dp {v : V} {d : PyData} (r : DR K F v d) : d.canLay0 = true → Dp K F v d :=
  DR.rec (motive_1 := fun v d _ => d.canLay0 = true → Dp K F v d) (motive_2 := fun vs ds _ => PyData.canLayAll0 ds = true → DpAll K F vs ds) (motive_3 := fun _ _ _ => True)
    (fun _ => .non) (fun b _ => .bl b) (fun i _ => .int i) (fun x _ => .str x)
    (fun h _ ih c => .lst (SqL.of h) (ih (by simpa [PyData.canLay0] using c))) (fun h _ ih c => .tup h (ih (by simpa [PyData.canLay0] using c))) (fun _ _ _ c => nomatch c)
    (fun _ => .nil) (fun _ _ a b c => by
      rw [PyData.canLayAll0, Bool.and_eq_true] at c
      exact .cons (a c.1) (b c.2)) trivial (fun _ _ _ _ => trivial) r
variable {X : Cx} {M : List MC} {d e : PyData} {n : Nat} {k : Nat}
theorem cb_neD (hr : Room k X.A) (h1 : okD n d) (h2 : okD n e) (hn : n ≤ 64 := by decide) : CB X .NotEq (.d d) (.d e) M (!PyData.eqv d e) := ⟨_, op_neD hr.units, fun F0 H0 F A H v v' Q sh rv rw kk =>
  ⟨d, e, (DR.mono sh.fh rv).dp h1.1, (DR.mono sh.fh rw).dp h2.1, h1.shaped hn, h2.shaped hn, kk _ F A H sh (Af.refl _ _ _) (DR.bl _)⟩⟩
theorem cb_neSame (hr : Room k X.A) (h1 : okD n d) (hn : n ≤ 64 := by decide) : CB X .NotEq (.d d) (.d d) M false := by
  have h := cb_neD (X := X) (M := M) hr h1 h1 hn
  rw [SeqAt.eqv_refl d h1.1] at h
  exact h
end
theorem eqv_ints : ∀ (a b : List Int), PyData.eqvAll (a.map .int) (b.map .int) = decide (a = b)
  | [], [] => rfl
  | [], _ :: _ => rfl
  | _ :: _, [] => rfl
  | x :: a, y :: b => by
    simp only [List.map_cons, PyData.eqvAll, PyData.eqv]
    rw [eqv_ints a b]
    by_cases h : x = y
    · subst h; simp
    · have : (x == y) = false := by rw [beq_eq_false_iff_ne]; exact h
      rw [this]; simp [h]
theorem cb_neInts {X : Cx} {M : List MC} {k : Nat} (hr : Room k X.A) (a b : List Int) : CB X .NotEq (.d (.list (a.map .int))) (.d (.list (b.map .int))) M (!decide (a = b)) := by
  have h := cb_neD (X := X) (M := M) hr (okD.ints (n := 0) a) (okD.ints (n := 0) b)
  rwa [PyData.eqv, eqv_ints] at h
end DV
namespace K32
open PySem PySem.Spec L2 DV
abbrev ordF (cs : List Nat) (b : Int) : List Int := orderOf (levF cs b)
theorem ord_len (cs : List Nat) (b : Int) : (ordF cs b).length = cs.length := by rw [order_len, lev_len]
theorem lev_in2 {cs : List Nat} {b : Int} : ∀ x ∈ levF cs b, 0 ≤ x ∧ x ≤ 1000 := fun x hx => by have := lev_in hx; omega
abbrev rPS : List PyData → PyData → Prop := fun ds r => ∃ (cs : List Nat) (b k : Int) (p : Nat), ds = [T cs, .int b, .int k] ∧ cs.length ≤ 900 ∧ (ordF cs b)[p]? = some k ∧ r = .int (p : Nat)
abbrev rPT : List PyData → PyData → Prop := fun ds r => ∃ (cs : List Nat) (b k : Int) (p : Nat), ds = [T cs, .int b, .int (p : Nat)] ∧ cs.length ≤ 900 ∧ (ordF cs b)[p]? = some k ∧ r = .int k
/-! ### spans -/
def addSp (sp : List (Int × Int)) (k : Int) : List (Int × Int) := match sp.getLast? with
  | some (a, e) => if e = k then sp.dropLast ++ [(a, k + 1)] else sp ++ [(k, k + 1)]
  | none => sp ++ [(k, k + 1)]
def spansOf (ks : List Int) : List (Int × Int) := ks.foldl addSp []
theorem spans_snoc (ks : List Int) (k : Int) : spansOf (ks ++ [k]) = addSp (spansOf ks) k := by unfold spansOf; rw [List.foldl_append]; rfl
theorem addSp_nil (k : Int) : addSp [] k = [(k, k + 1)] := rfl
theorem addSp_snoc (sp : List (Int × Int)) (a e k : Int) : addSp (sp ++ [(a, e)]) k = if e = k then sp ++ [(a, k + 1)] else sp ++ [(a, e)] ++ [(k, k + 1)] := by
  unfold addSp
  rw [List.getLast?_concat]
  simp only [List.dropLast_concat]
theorem spans_cnt : ∀ ks : List Int, (spansOf ks).length ≤ ks.length := by
  refine snoc_ind (Nat.le_refl _) fun ks k ih => ?_
  rw [spans_snoc, List.length_append, List.length_singleton]
  rcases snoc_cases (spansOf ks) with h | ⟨sp, ⟨a, e⟩, h⟩
  · rw [h, addSp_nil]; simp
  · rw [h] at ih ⊢
    rw [addSp_snoc]
    split <;> simp at ih ⊢ <;> omega
def selB (ks : List Int) (low high : Int) (j : Int) : Bool := decide (low ≤ ks.getD j.toNat 0) && decide (ks.getD j.toNat 0 < high)
def selF (ks : List Int) (low high : Int) (n : Nat) : List Int := (rg n).filter (selB ks low high)
theorem rg_pw (n : Nat) : (rg n).Pairwise (· ≤ ·) := by
  induction n with
  | zero => exact .nil
  | succ n ih =>
    rw [rg_succ, List.pairwise_append]
    exact ⟨ih, List.pairwise_singleton _ _, fun a ha b hb => by rw [List.mem_singleton.mp hb]; have := mem_rg.mp ha; omega⟩
theorem sel_srt (ks : List Int) (low high : Int) (n : Nat) : srt (selF ks low high n) = selF ks low high n := sorted_uniq (srt_pw _) ((rg_pw n).filter _) (srt_perm _)
theorem sel_len (ks : List Int) (low high : Int) (n : Nat) : (selF ks low high n).length ≤ n := by
  have := List.length_filter_le (selB ks low high) (rg n)
  rw [rg_len] at this
  exact this
theorem enm_rg (ks : List Int) : enm (ks.map .int) = (rg ks.length).map fun j => .tuple [.int j, .int (ks.getD j.toNat 0)] := by
  refine List.ext_getElem? fun i => ?_
  by_cases hi : i < ks.length
  · have h1 : (ks.map PyData.int)[i]? = some (.int (ks.getD i 0)) := by rw [List.getElem?_map, List.getD_eq_getElem?_getD, List.getElem?_eq_getElem hi]; rfl
    rw [enm_get h1, rg, List.map_map, List.getElem?_map, List.getElem?_range hi]
    rfl
  · rw [List.getElem?_eq_none (by rw [enm_len, List.length_map]; omega), List.getElem?_eq_none (by rw [List.length_map, rg_len]; omega)]
theorem IV.enumI {X : Cx} {elts : List Expr} {kk : Nat} {tpos p pos : Pos} {e : Expr} {Γ : Gam} {M M1 : List MC} {ks : List Int} (hm : X.mg "enumerate" = none) (h : EV X e Γ M (.d (.list (ks.map .int))) M1) (hg : Gl X "enumerate" := by rfl) (he : starEach [e] X.env = (false, eval e X.env) :: starEach [] X.env := by rfl) (hs : starEach [e] X.env = [(false, eval e X.env)] := by rfl) :
    IV X (.Tuple elts kk tpos) (.Call (.Name "enumerate" p) [e] [] pos) Γ M ((rg ks.length).map fun j => .tuple [.int j, .int (ks.getD j.toNat 0)]) M1 := by
  rw [← enm_rg]
  exact IV.enum hm h hg he hs
abbrev rSpan : List PyData → PyData → Prop := fun ds r => ∃ (cs : List Nat) (b low high : Int), ds = [T cs, .int b, .int low, .int high] ∧ cs.length ≤ 900 ∧ r = .tuple ((spansOf (selF (ordF cs b) low high cs.length)).map tupE)
section
variable {P : Program} {w : World} {K : PySem.W.Frag} {mg : Str → Option Value} {base : Heap}
abbrev sPS : Stmt := top 23
abbrev nPS : List Str := ["text", "base", "place"]
theorem scPS : FnScope nPS ["text", "base", "place"] (defScope sPS) := ⟨rfl, rfl, rfl, by decide +kernel, rfl, by decide +kernel, by decide +kernel⟩
theorem ok_ps {f : Addr} {fd : FuncData} (F : Fun K "place_shown" "place_shown" sPS f fd) (Tx : Txt K mg) {k : Nat} (D1 : DefR P w K mg base k "levels_of" rLev) (D2 : DefR P w K mg base k "order_of" rOrd) : FnOk P w K mg base CX0 (k + 1) f fd ["text", "base", "place"] (spR K rPS) := by
  refine fn_okD F scPS (fun ds r h => by obtain ⟨c, _, _, _, rfl, _⟩ := h; rfl) fun cdv A outer s H E hr ds r h => ?_
  obtain ⟨cs, b, k, p, rfl, hlen, hk, rfl⟩ := h
  obtain ⟨h0, h1⟩ := order_mem.mp (List.mem_of_getElem? hk)
  rw [lev_len] at h1
  refine SX.when (q := false) ((ET.not (ET.chain EV.int (EV.var 2) cb_le (fun _ => EV.lenC Tx.len (EV.var 0) (by omega)) cb_lt)).cast (by rw [decide_eq_true h0, decide_eq_true h1]; rfl)) (fun e => by cases e) (fun _ => ?_)
  refine SX.ret (EV.indexI (ns := ordF cs b) (EV.call D2 hr (EA.one (EV.call D1 hr (EA.cons (EV.var 0) (EA.one (EV.var 1))) rfl ⟨cs, b, rfl, hlen, rfl⟩)) rfl ⟨levF cs b, rfl, lev_in2, by rw [lev_len]; exact hlen, rfl⟩) (EV.var 2) lst_frz lst_frz hk (fun m z hm hz q => ?_)) rfl
  subst q
  have nd := order_nodup (levF cs b)
  obtain ⟨a1, a2⟩ := List.getElem?_eq_some_iff.mp hk
  obtain ⟨b1, b2⟩ := List.getElem?_eq_some_iff.mp hz
  have := (List.getElem_inj nd).mp (b2.trans a2.symm)
  omega
abbrev sPT : Stmt := top 24
abbrev nPT : List Str := ["text", "base", "number"]
theorem scPT : FnScope nPT ["text", "base", "number"] (defScope sPT) := ⟨rfl, rfl, rfl, by decide +kernel, rfl, by decide +kernel, by decide +kernel⟩
theorem ok_pt {f : Addr} {fd : FuncData} (F : Fun K "place_told" "place_told" sPT f fd) (Tx : Txt K mg) {k : Nat} (D1 : DefR P w K mg base k "levels_of" rLev) (D2 : DefR P w K mg base k "order_of" rOrd) : FnOk P w K mg base CX0 (k + 1) f fd ["text", "base", "number"] (spR K rPT) := by
  refine fn_okD F scPT (fun ds r h => by obtain ⟨c, _, _, _, rfl, _⟩ := h; rfl) fun cdv A outer s H E hr ds r h => ?_
  obtain ⟨cs, b, k, p, rfl, hlen, hk, rfl⟩ := h
  have h1 := lt_of_get hk
  rw [ord_len] at h1
  refine SX.when (q := false) ((ET.not (ET.chain EV.int (EV.var 2) cb_le (fun _ => EV.lenC Tx.len (EV.var 0) (by omega)) cb_lt)).cast (by rw [decide_eq_true (show (0 : Int) ≤ (p : Nat) by omega), decide_eq_true (show ((p : Nat) : Int) < (cs.length : Nat) by omega)]; rfl)) (fun e => by cases e) (fun _ => ?_)
  exact SX.ret (EV.ixL (EV.call D2 hr (EA.one (EV.call D1 hr (EA.cons (EV.var 0) (EA.one (EV.var 1))) rfl ⟨cs, b, rfl, hlen, rfl⟩)) rfl ⟨levF cs b, rfl, lev_in2, by rw [lev_len]; exact hlen, rfl⟩) (EV.var 2) lst_frz (at_cell (atI_nat hk))) rfl
abbrev sSpan : Stmt := top 25
abbrev nSpan : List Str := ["text", "base", "low", "high", "number", "places", "found", "place"]
theorem scSpan : FnScope nSpan ["text", "base", "low", "high"] (defScope sSpan) := ⟨rfl, rfl, rfl, by decide +kernel, rfl, by decide +kernel, by decide +kernel⟩
theorem ok_span {f : Addr} {fd : FuncData} (F : Fun K "spans_shown" "spans_shown" sSpan f fd) (Tx : Txt K mg) {k : Nat} (D1 : DefR P w K mg base k "levels_of" rLev) (D2 : DefR P w K mg base k "order_of" rOrd) : FnOk P w K mg base CX0 (k + 1) f fd ["text", "base", "low", "high"] (spR K rSpan) := by
  refine fn_okD F scSpan (fun ds r h => by obtain ⟨c, _, _, _, rfl, _⟩ := h; rfl) fun cdv A outer s H E hr ds r h => ?_
  obtain ⟨cs, b, low, high, rfl, hlen, rfl⟩ := h
  have hol := ord_len cs b
  refine SX.asg 5 scSpan.nd (x := .d (.list ((selF (ordF cs b) low high cs.length).map .int))) (M1 := []) ?_ ?_
  · refine EV.cast (EV.sortedL Tx.sorted (LC.lcFilter (as := rg (ordF cs b).length) (enc := fun j => .tuple [.int j, .int ((ordF cs b).getD j.toNat 0)]) (fun j => .int j) (selB (ordF cs b) low high) rfl scSpan.nd (own := [("number", 4), ("place", 7)]) (by show blkC nSpan (defScope sSpan) _ _ = true; decide +kernel)
      (IV.enumI Tx.enumerate (EV.call D2 hr (EA.one (EV.call D1 hr (EA.cons (EV.var 0) (EA.one (EV.var 1))) rfl ⟨cs, b, rfl, hlen, rfl⟩)) rfl ⟨levF cs b, rfl, lev_in2, by rw [lev_len]; exact hlen, rfl⟩)) (by rw [rg_len, hol]; exact small_le (by omega))
      (fun j => [some (.d (T cs)), some (.d (.int b)), some (.d (.int low)), some (.d (.int high)), some (.d (.int j)), none, none, some (.d (.int ((ordF cs b).getD j.toNat 0)))]) [4, 7] (by decide)
      (fun o _ s H C cl fp => TV.tup rfl (TVS.cons (TV.name 4 scSpan.nd) (TVS.cons (TV.name 7 scSpan.nd) TVS.nil))) (fun o _ s H C cl fp => ET.chain (EV.var 2) (EV.var 7) cb_le (fun _ => EV.var 3) cb_lt) (fun o _ _ s H C cl fp => EV.var 4)).ev lst_frz) ?_
    rw [← hol]
    show AV.d (.list ((srt (selF _ _ _ _)).map .int)) = _
    rw [sel_srt]
  have hsl := sel_len (ordF cs b) low high cs.length
  generalize selF (ordF cs b) low high cs.length = ks at hsl
  refine SX.asg 6 scSpan.nd (EV.lstM EA.nil (by decide)) ?_
  refine SX.for .never rfl (IV.list (EV.var 5)) (fun i Γ' M' => ∃ e4, Γ' = [some (.d (T cs)), some (.d (.int b)), some (.d (.int low)), some (.d (.int high)), e4, some (.d (.list (ks.map .int))), some (.m 0), none] ∧ M' = [.lst (((spansOf (ks.take i)).map tupE).map .d)]) ⟨_, rfl, rfl⟩ ?_ ?_
  · rintro i d Γ' M' hd ⟨e4, rfl, rfl⟩
    obtain ⟨k, hk, rfl⟩ := enc_inv hd
    have hi := lt_of_get hk
    refine ⟨_, _, TV.name 4 scSpan.nd, ?_⟩
    have hnext : spansOf (ks.take (i + 1)) = addSp (spansOf (ks.take i)) k := by rw [List.take_succ, hk]; exact spans_snoc _ _
    have hcnt := spans_cnt (ks.take i)
    rw [List.length_take] at hcnt
    rw [hnext]
    rcases snoc_cases (spansOf (ks.take i)) with h | ⟨sp, ⟨a, e⟩, h⟩
    · rw [h, addSp_nil]
      refine SX.ite (ET.and (ET.tru (EV.var 6) rfl) (q := false) (fun q => by cases q)) (fun q => by cases q) (fun _ => ?_)
      exact SX.app0 (EV.var 6) rfl (EV.tup (ds := [.int k, .int (k + 1)]) (EA.cons (EV.var 4) (EA.one (EV.add (EV.var 4) EV.int))) (by simp [sizeLine_eq])) (by simp [sizeLine_eq]) (SX.nil (SX.nil ⟨_, rfl, rfl⟩))
    · rw [h] at hcnt ⊢
      rw [addSp_snoc]
      have hz1 : atI (((sp ++ [(a, e)]).map tupE).map AV.d) (-1) = some (.d (.tuple [.int a, .int e])) := by rw [List.map_append, List.map_append]; exact at_last _ _
      refine SX.ite (q := decide (e = k)) ((ET.and (ET.tru (EV.var 6) rfl) (fun _ => EW.and1 (ET.cmp (EV.ixT (z := .d (.int e)) (EV.ixL (EV.var 6) (EV.neg EV.int) rfl hz1) EV.int rfl rfl) (EV.var 4) cb_eqI rfl))).cast ?_) (fun q => ?_) (fun q => ?_)
      · have : (!(((sp ++ [(a, e)]).map tupE).map AV.d).isEmpty) = true := by simp
        rw [this]; rfl
      · have q := of_decide_eq_true q
        rw [if_pos q]
        refine SX.setL (l := sp.length) (EV.tup (ds := [.int a, .int (k + 1)]) (EA.cons (EV.ixT (z := .d (.int a)) (EV.ixL (EV.var 6) (EV.neg EV.int) rfl hz1) EV.int rfl rfl) (EA.one (EV.add (EV.var 4) EV.int))) (by simp [sizeLine_eq])) (EV.var 6) (EV.neg EV.int) rfl ?_ (SX.nil (SX.nil ⟨_, rfl, ?_⟩))
        · unfold ixN
          rw [if_neg (by omega), if_pos (by simp; omega)]
          congr 1
          simp
          omega
        · simp
      · have q := of_decide_eq_false q
        rw [if_neg q]
        exact SX.app0 (EV.var 6) rfl (EV.tup (ds := [.int k, .int (k + 1)]) (EA.cons (EV.var 4) (EA.one (EV.add (EV.var 4) EV.int))) (by simp [sizeLine_eq])) (by rw [List.length_map, List.length_map]; exact small_lt (by omega)) (SX.nil (SX.nil ⟨_, rfl, by simp⟩))
  · rintro Γ' M' ⟨e4, rfl, rfl⟩
    rw [List.length_map, List.take_length]
    exact SX.ret (EV.tupleL Tx.tuple (EV.var 6) rfl) rfl
end
end K32

set_option Elab.async false
set_option maxRecDepth 100000
set_option maxHeartbeats 4000000
set_option linter.all false
namespace DV
open PySem PySem.Spec L2 PyProof.Rows
section
variable {X : Cx}
theorem ps_setDc {i : Nat} {y : Str} {py : Pos} {kx vx tg iter : Expr} {ifs : List Expr} {scope : Scope} {own : List (Str × Nat)} {pos spos : Pos} {wi : TI} {g : TG} {tt : TT} {tk tv : TE} (hc : X.calm = true) (hN : X.N.Nodup) (hy : X.N[i]? = some y) (hyl : X.env.scope.names.lookup y = some .local)
    (hsw : swapsWith (.DictComp kx vx [⟨tg, iter, ifs, 0⟩] scope pos) (some (.Name y py)) spos.line X.env = pure true) (hi : PI X tg iter wi) (ok : BlkOk X.N X.env.scope scope own)
    (hg : ∀ (s : Shared) (H : Hp) (C : Addr) (cl : List (Str × Addr)) (fp : List Addr), PG (X.blk s H scope (compEnvC scope cl C X.env) fp) tg g) (ht : ∀ (s : Shared) (H : Hp) (C : Addr) (cl : List (Str × Addr)) (fp : List Addr), PTs (X.blk s H scope (compEnvC scope cl C X.env) fp) ifs tt)
    (hk : ∀ (s : Shared) (H : Hp) (C : Addr) (cl : List (Str × Addr)) (fp : List Addr), PE (X.blk s H scope (compEnvC scope cl C X.env) fp) kx tk)
    (he : ∀ (s : Shared) (H : Hp) (C : Addr) (cl : List (Str × Addr)) (fp : List Addr), PE (X.blk s H scope (compEnvC scope cl C X.env) fp) vx tv) (hs : ∀ x, foldedSetIterable iter X.env x = pure x := by intro _; rfl) :
    PS X (.Assign [.Name y py] (.DictComp kx vx [⟨tg, iter, ifs, 0⟩] scope pos) spos) (tAsg (tDc wi g tt tk tv (own.map (·.2))) (gName i)) := by
  refine ⟨fun pins s σ H D I h => ?_⟩
  rw [exec_Assign_Name_used _ _ _ _ hsw]
  refine wpAny_bind (wpAny_standAt (wpAny_bind ?_))
  show wpAny _ X.A (do let _ ← comprehension (.DictComp kx vx [⟨tg, iter, ifs, 0⟩] scope pos) scope X.env (firstIterPos [⟨tg, iter, ifs, 0⟩] pos) newDict false (eval iter X.env) (some (assign (.Name y py) X.env))) _ _ s
  have h : tDc wi g tt tk tv (own.map (·.2)) σ H (fun x H1 => gName i x σ H1 D.nx) := h
  refine wpAny_bind (thn (dc_core (Qf := fun _ s' => SP X pins D .next s') hc hN I hi ok hg ht hk he hs h fun L C s' m H' I' q hn f => ?_) fun _ s' hq => wpAny_pure (wpAny_pure hq))
  show wpAny _ _ (assign (.Name y py) X.env (.ref L)) _ _ _
  refine wpAny_assign_Name (store_ok2 (v := V.ref L) I' hN hy (.inl hyl) rfl (fun s2 I2 ⟨a, sb, ha⟩ => ?_) (.inr hyl))
  obtain ⟨f0, f1, f2, f3, f4, f5⟩ := f
  have haC : C ≠ a := by
    rcases ha with z | z
    · rw [z]; exact f1
    · exact fun e => f4 y a z e.symm
  refine ⟨m, hn.sameBut sb haC, fun h3 sb3 => ?_⟩
  exact ⟨_, H', I2.turned (t' := s2.toks) (fun b o hb e => (sb3.2 b hb).trans e) f0 f1 f3 f4 f5, q⟩
end
theorem Side.after {F' F'' H H4 : Hp} {A' A'' : List Addr} {D : Addr} {o : HO} (a : Af F' A' H F'' A'' H4) (hD : H D = some o) (hF : F' D = none) (hA : D ∉ A') :
    H4 D = some o ∧ F'' D = none ∧ D ∉ A'' := by
  refine ⟨a.hh D _ hD hA, ?_, ?_⟩
  · cases q : F'' D with
    | none => rfl
    | some o =>
      have := a.fr D hF (by rw [q]; simp)
      rw [this] at hD; cases hD
  · obtain ⟨B, rfl, hB⟩ := a.aa
    intro hm
    rcases List.mem_append.mp hm with q | q
    · exact hA q
    · rw [hB D q] at hD; cases hD
def DW (K : PySem.W.Frag) (F0 H0 F1 : Hp) (A1 : List Addr) (H1 : Hp) (D : Addr) (M1 : List MC) (outs : Nat → List (Key × AV)) (i : Nat) (H : Hp) : Prop :=
  ∃ F' A' acc, SH K F0 H0 F' A' H M1 ∧ Af F1 A1 H1 F' A' H ∧ H D = some (.dK acc) ∧ KP K F' A' acc (outs i) ∧ F' D = none ∧ D ∉ A'
theorem KP.af {K : PySem.W.Frag} {F H F' H' : Hp} {A A' : List Addr} {es : List (Key × V)} {ks : List (Key × AV)} (a : Af F A H F' A' H') (h : KP K F A es ks) : KP K F' A' es ks := P2.imp (fun _ _ q => ⟨q.1, a.vr q.2⟩) h
theorem wipe_idem {σ : L2.St} (vs : List Nat) : L2.wipe (L2.wipe σ vs) vs = L2.wipe σ vs := by
  have idem : ∀ ws : List Nat, (∀ j ∈ ws, j ∈ vs) → L2.wipe (L2.wipe σ vs) ws = L2.wipe σ vs := by
    intro ws
    induction ws with
    | nil => intro _; rfl
    | cons v ws ih =>
      intro hv
      show (L2.wipe (L2.wipe σ vs) ws).set v none = _
      rw [ih fun j hj => hv j (List.mem_cons_of_mem _ hj)]
      have cl : ∀ us : List Nat, v ∈ us → (L2.wipe σ us).set v none = L2.wipe σ us := by
        intro us
        induction us with
        | nil => intro h; cases h
        | cons u us ih2 =>
          intro h
          show ((L2.wipe σ us).set u none).set v none = (L2.wipe σ us).set u none
          by_cases q : v = u
          · subst q; rw [List.set_set]
          · have hm : v ∈ us := by
              rcases List.mem_cons.mp h with z | z
              · exact absurd z q
              · exact z
            rw [List.set_comm _ _ (fun z => q z.symm), ih2 hm]
      exact cl vs (hv v List.mem_cons_self)
  exact idem vs fun _ h => h
section
variable {X : Cx} {kx vx tg iter : Expr} {scope : Scope} {own : List (Str × Nat)} {pos : Pos} {Γ : Gam} {M M1 : List MC}
theorem LC.dcMap {α : Type} {as : List α} {enc : α → PyData} (kf : α → PyData) (kq : α → Key) (df : α → PyData) (hc : X.calm = true) (hN : X.N.Nodup) (ok : blkC X.N X.env.scope scope own = true) (hi : IV X tg iter Γ M (as.map enc) M1) (hlen : as.length ≤ sizeLine)
    (Γ2 : α → Gam) (js : List Nat) (hj : ∀ j ∈ js, j ∈ own.map (·.2)) (ht : ∀ a ∈ as, Blk X scope fun Y => TV Y tg (wipeG Γ (own.map (·.2))) (enc a) (Γ2 a) js) (hk : ∀ a ∈ as, Blk X scope fun Y => EV Y kx (Γ2 a) M1 (.d (kf a)) M1) (hkq : ∀ a ∈ as, kOf (kf a) = some (kq a)) (he : ∀ a ∈ as, Blk X scope fun Y => EV Y vx (Γ2 a) M1 (.d (df a)) M1)
    (hf : ∀ x, foldedSetIterable iter X.env x = pure x := by intro _; rfl) : LC X (.DictComp kx vx [⟨tg, iter, [], 0⟩] scope pos) Γ M (.m M1.length) (M1 ++ [.dct (as.foldl (fun acc a => putA acc (kq a) (.d (df a))) [])]) := by
  have hg : ∀ (s : Shared) (H : Hp) (C : Addr) (cl : List (Str × Addr)) (fp : List Addr), PG (X.blk s H scope (compEnvC scope cl C X.env) fp) tg (xGb X scope tg) := fun s H C cl fp => ⟨fun pins s' σ H' v u Q I r h => h s H C cl fp pins s' u I r⟩
  have htt : ∀ (s : Shared) (H : Hp) (C : Addr) (cl : List (Str × Addr)) (fp : List Addr), PTs (X.blk s H scope (compEnvC scope cl C X.env) fp) [] tYes := fun s H C cl fp => pts_nil
  have hkk : ∀ (s : Shared) (H : Hp) (C : Addr) (cl : List (Str × Addr)) (fp : List Addr), PE (X.blk s H scope (compEnvC scope cl C X.env) fp) kx (xEb X scope kx) := fun s H C cl fp => ⟨fun pins s' σ H' Q I h => h s H C cl fp pins s' I⟩
  have hvv : ∀ (s : Shared) (H : Hp) (C : Addr) (cl : List (Str × Addr)) (fp : List Addr), PE (X.blk s H scope (compEnvC scope cl C X.env) fp) vx (xEb X scope vx) := fun s H C cl fp => ⟨fun pins s' σ H' Q I h => h s H C cl fp pins s' I⟩
  refine ⟨_, pe_dc hc hN PI.x (blkOk_by ok) hg htt hkk hvv hf, ?_, fun hy hl hsw => ps_setDc hc hN hy hl hsw PI.x (blkOk_by ok) hg htt hkk hvv hf⟩
  have tvs : ∀ a ∈ as, TVt X.K (xGb X scope tg) (wipeG Γ (own.map (·.2))) (enc a) (Γ2 a) js := fun a ha => TVb (ht a ha)
  have kks : ∀ a ∈ as, EVt X.K (xEb X scope kx) (Γ2 a) M1 (.d (kf a)) M1 := fun a ha => EVb (hk a ha)
  have vvs : ∀ a ∈ as, EVt X.K (xEb X scope vx) (Γ2 a) M1 (.d (df a)) M1 := fun a ha => EVb (he a ha)
  clear hg htt hkk hvv ht hk he
  generalize xGb X scope tg = g at tvs
  generalize xEb X scope kx = tk at kks
  generalize xEb X scope vx = tv0 at vvs
  refine fun F0 H0 F A H σ Q sh sv kk => hi F0 H0 F A H σ _ sh sv fun J F1 A1 H1 sh1 af1 W D hD => ?_
  have h0D : H0 D = none := Same.free sh1.hh hD
  let outs : Nat → List (Key × AV) := fun i => (as.take i).foldl (fun acc a => putA acc (kq a) (.d (df a))) []
  have olen : ∀ l : List α, (l.foldl (fun acc a => putA acc (kq a) (.d (df a))) []).length ≤ l.length := by
    have put_len : ∀ (ks : List (Key × AV)) (q : Key) (z : AV), (putA ks q z).length ≤ ks.length + 1 := by
      intro ks q z
      unfold putA
      split
      · rw [List.length_map]; omega
      · rw [List.length_append]; exact Nat.le_refl _
    have gen : ∀ (l : List α) (acc : List (Key × AV)), (l.foldl (fun acc a => putA acc (kq a) (.d (df a))) acc).length ≤ acc.length + l.length := by
      intro l
      induction l with
      | nil => intro acc; exact Nat.le_refl _
      | cons a l ih =>
        intro acc
        rw [List.foldl_cons, List.length_cons]
        have h1 := ih (putA acc (kq a) (.d (df a)))
        have h2 := put_len acc (kq a) (.d (df a))
        omega
    intro l
    have := gen l []
    simpa using this
  have start : DW X.K F0 H0 F1 A1 H1 D M1 outs 0 (upd H1 D (.dK [])) := by
    obtain ⟨s2, a2⟩ := sh1.side (o := .dK []) hD
    exact ⟨F1, A1, [], s2, a2, upd_same, .nil, sh1.below hD, fun q => (sh1.an D q).2 hD⟩
  refine ⟨fun i m H => m = as.length - i ∧ i ≤ as.length ∧ DW X.K F0 H0 F1 A1 H1 D M1 outs i H, ⟨as.length, by simp, Nat.zero_le _, start⟩, ?_⟩
  rintro i m H2 ⟨rfl, hi2, F', A', acc, s2, a2, hDl, pr, hFD, hAD⟩
  have sf : Same F1 H2 := a2.ff.trans s2.fh
  by_cases hlt : i < as.length
  · have hlt' : i < (as.map enc).length := by rw [List.length_map]; exact hlt
    refine .inr ⟨W.go i H2 sf hlt', DW X.K F0 H0 F1 A1 H1 D M1 outs (i + 1), fun H' p' => ⟨as.length - (i + 1), by omega, rfl, hlt, p'⟩, fun x H' y => ?_⟩
    obtain ⟨d, hd, alt⟩ := W.yld i H2 x H' sf hlt' y
    rw [List.getElem?_map] at hd
    obtain ⟨a, ha, rfl⟩ := Option.map_eq_some_iff.mp hd
    have hm : a ∈ as := List.mem_of_getElem? ha
    have item : ∃ F3, SH X.K F0 H0 F3 A' H' M1 ∧ Af F' A' H2 F3 A' H' ∧ DR X.K F3 x (enc a) := by
      rcases alt with ⟨rfl, r⟩ | ⟨T, ys, es, hT, rfl, rfl, e, r⟩
      · exact ⟨F', s2, Af.refl _ _ _, r.mono a2.ff⟩
      · obtain ⟨s3, a3⟩ := s2.new (o := .tup ys) hT
        rw [e]
        exact ⟨_, s3, a3, .tup (SqT.of upd_same) ((r.mono a2.ff).mono a3.ff)⟩
    obtain ⟨F3, s3, a3, rx⟩ := item
    obtain ⟨hD3, hF3, hA3⟩ := Side.after a3 hDl hFD hAD
    have svw : SV X.K F3 A' (L2.wipe σ (own.map (·.2))) (wipeG Γ (own.map (·.2))) := (((sv.af af1).af a2).af a3).wipe _
    have tv := tvs a hm
    refine tv F3 A' H' (L2.wipe σ (own.map (·.2))) x _ s3.fh svw rx ?_
    intro σ2 sv2 hw
    refine ⟨?_, ?_⟩
    · rw [hw _ hj]; exact wipe_idem _
    · unfold tYes
      simp only [if_true]
      refine kks a hm F0 H0 F3 A' H' σ2 _ s3 sv2 fun u F4 A4 H4 s4 a4 r4 => ?_
      obtain ⟨hD4, hF4, hA4⟩ := Side.after a4 hD3 hF3 hA3
      refine vvs a hm F0 H0 F4 A4 H4 σ2 _ s4 (sv2.af a4) fun v F5 A5 H5 s5 a5 r5 => ?_
      obtain ⟨hD5, hF5, hA5⟩ := Side.after a5 hD4 hF4 hA4
      have kp5 : KP X.K F5 A5 acc (outs i) := KP.af a5 (KP.af a4 (KP.af a3 pr))
      refine ⟨acc, kq a, kOf_v (hkq a hm) r4, hD5, ?_, F5, A5, putK acc (kq a) v, s5.aside hF5 hA5 h0D, ((((a2.trans a3).trans a4).trans a5)).side hD, upd_same, ?_, hF5, hA5⟩
      · rw [P2.len kp5]
        have := olen (as.take i)
        rw [List.length_take] at this
        exact Nat.lt_of_le_of_lt this (by omega)
      · have e : outs (i + 1) = putA (outs i) (kq a) (.d (df a)) := by
          show (as.take (i + 1)).foldl _ _ = putA ((as.take i).foldl _ _) _ _
          rw [List.take_succ, ha, List.foldl_append]; rfl
        rw [e]
        exact kp_put kp5 _ r5
  · have e : i = as.length := by omega
    subst e
    refine .inl ⟨by rw [← List.length_map (f := enc)]; exact W.stop H2 (by exact sf), ?_⟩
    have eo : outs as.length = as.foldl (fun acc a => putA acc (kq a) (.d (df a))) [] := by show (as.take as.length).foldl _ _ = _; rw [List.take_length]
    rw [← eo] at kk
    have pr2 : KP X.K F' (A' ++ [D]) acc (outs as.length) := P2.imp (fun _ _ q => ⟨q.1, VR.mono (Same.refl _) ⟨[D], rfl⟩ q.2⟩) pr
    have s5 := s2.adoptM (mc := .dct (outs as.length)) (by rw [hDl]; simp) hFD hAD h0D ⟨_, hDl, pr2⟩
    have a4 := af1.trans a2
    have hDn : H D = none := by
      cases q : H D with
      | none => rfl
      | some o => exact absurd hD (af1.th D (by rw [q]; simp))
    refine kk (.ref D) F' (A' ++ [D]) H2 s5 ⟨a4.ff, ?_, a4.hh, a4.th, a4.fr⟩ ⟨D, ?_, rfl⟩
    · obtain ⟨B, eB, hB⟩ := a4.aa
      refine ⟨B ++ [D], by rw [eB]; simp, fun b hb => ?_⟩
      rcases List.mem_append.mp hb with z | z
      · exact hB b z
      · rw [List.mem_singleton.mp z]; exact hDn
    · rw [← s2.al]; simp
end
end DV

set_option Elab.async false
set_option maxRecDepth 100000
set_option maxHeartbeats 4000000
set_option linter.all false
namespace K32
open PySem PySem.Spec L2 DV
/-! ### judging an order -/
def nOf (ks : List Int) (m : Nat) : List (Key × AV) := (rg m).foldl (fun acc j => putA acc (.inl (ks.getD j.toNat 0)) (.d (.int j))) []
theorem n_succ (ks : List Int) (m : Nat) : nOf ks (m + 1) = putA (nOf ks m) (.inl (ks.getD m 0)) (.d (.int (m : Nat))) := by unfold nOf; rw [rg_succ, List.foldl_append]; rfl
theorem n_get {ks : List Int} (nd : ks.Nodup) {p : Nat} {k : Int} (hp : ks[p]? = some k) : ∀ m, m ≤ ks.length → lkA (nOf ks m) (.inl k) = if p < m then some (.d (.int (p : Nat))) else none
  | 0, _ => by rw [if_neg (by omega)]; rfl
  | m + 1, h => by
    rw [n_succ, lkA_put, n_get nd hp m (by omega)]
    have hm : ks[m]? = some (ks.getD m 0) := by rw [List.getD_eq_getElem?_getD, List.getElem?_eq_getElem (by omega)]; rfl
    by_cases e : p = m
    · subst e
      rw [if_pos (by rw [getD_of hp]), if_pos (by omega)]
    · have hne : ¬ (Sum.inl k : Key) = .inl (ks.getD m 0) := fun q => by
        have q := Sum.inl.inj q
        rw [← q] at hm
        obtain ⟨a1, a2⟩ := List.getElem?_eq_some_iff.mp hp
        obtain ⟨b1, b2⟩ := List.getElem?_eq_some_iff.mp hm
        exact e ((List.getElem_inj nd).mp (a2.trans b2.symm))
      rw [if_neg hne]
      by_cases q : p < m
      · rw [if_pos q, if_pos (by omega)]
      · rw [if_neg q, if_neg (by omega)]
def pairOk (lv ks : List Int) (o t : Nat) : Prop := ∀ p q : Nat, ks[p]? = some (o : Int) → ks[q]? = some (t : Int) → (p < q ↔ lmin (cutG lv (some (o : Int)) (some ((t : Int) + 1))) % 2 = 0)
def Good (lv ks : List Int) (n : Nat) : Prop := srt ks = rg n ∧ ∀ o t : Nat, o < t → t < n → pairOk lv ks o t
abbrev rJud : List PyData → PyData → Prop := fun ds r => ∃ (cs : List Nat) (b : Int) (ks : List Int) (c : Bool), ds = [T cs, .int b, .list (ks.map .int)] ∧ cs.length ≤ 900 ∧ ks.length ≤ 901 ∧ (c = true ↔ Good (levF cs b) ks cs.length) ∧ r = .bool c
theorem rg_nodup (n : Nat) : (rg n).Nodup := by rw [rg_seg]; exact nodup_seg _ _
theorem srt_nodup {ks : List Int} {n : Nat} (h : srt ks = rg n) : ks.Nodup := (srt_perm ks).nodup_iff.mp (by rw [h]; exact rg_nodup n)
theorem srt_mem {ks : List Int} {n : Nat} (h : srt ks = rg n) {k : Nat} (hk : k < n) : ∃ p : Nat, ks[p]? = some (k : Int) := by
  have : (k : Int) ∈ ks := (srt_perm ks).mem_iff.mp (by rw [h]; exact mem_rg.mpr ⟨by omega, by omega⟩)
  exact List.getElem?_of_mem this
theorem srt_lenE {ks : List Int} {n : Nat} (h : srt ks = rg n) : ks.length = n := by
  have := (srt_perm ks).length_eq
  rw [h, rg_len] at this
  exact this.symm
theorem rg2_inv {a b : Int} {i : Nat} {d : PyData} (h : ((rg2 a b).map PyData.int)[i]? = some d) : i < (b - a).toNat ∧ d = .int (a + i) := by
  have hi := lt_of_get h
  rw [List.length_map, rg2, List.length_map, List.length_range] at hi
  refine ⟨hi, ?_⟩
  rw [List.getElem?_map, rg2, List.getElem?_map, List.getElem?_range hi] at h
  exact (Option.some.inj h).symm
section
variable {P : Program} {w : World} {K : PySem.W.Frag} {mg : Str → Option Value} {base : Heap}
abbrev sJud : Stmt := top 27
abbrev nJud : List Str := ["text", "base", "order", "levels", "numbers", "one", "two", "least", "number", "place"]
theorem scJud : FnScope nJud ["text", "base", "order"] (defScope sJud) := ⟨rfl, rfl, rfl, by decide +kernel, rfl, by decide +kernel, by decide +kernel⟩
theorem ok_jud {f : Addr} {fd : FuncData} (F : Fun K "judge_order" "judge_order" sJud f fd) (Tx : Txt K mg) {k : Nat} (D1 : DefR P w K mg base k "levels_of" rLev) : FnOk P w K mg base CX0 (k + 1) f fd ["text", "base", "order"] (spR K rJud) := by
  refine fn_okD F scJud (fun ds r h => by obtain ⟨c, _, _, _, rfl, _⟩ := h; rfl) fun cdv A outer s H E hr ds r h => ?_
  obtain ⟨cs, b, ks, c, rfl, hlen, hkl, hc, rfl⟩ := h
  have hll := lev_len cs b
  refine SX.asg 3 scJud.nd (EV.call D1 hr (EA.cons (EV.var 0) (EA.one (EV.var 1))) rfl ⟨cs, b, rfl, hlen, rfl⟩) ?_
  generalize levF cs b = lv at hll hc
  have ll : ∀ {M}, lstOf M (.d (.list (lv.map .int))) = some (lv.map fun n => AV.d (.int n)) := lst_frz
  refine SX.when (ET.cmp (EV.sortedL Tx.sorted (EV.var 2) lst_frz) (EV.listRg rfl Tx.list Tx.range (EV.lenC Tx.len (EV.var 0) (by omega)) (by omega) (by omega)) (cb_neInts hr _ _) rfl) (fun e => ?_) (fun e => ?_)
  · refine SX.ret EV.bl ?_
    show AV.d _ = AV.d _
    have : c = false := by
      rw [Bool.eq_false_iff]
      intro q
      have := (hc.mp q).1
      rw [Int.toNat_natCast] at e
      simp [this] at e
    rw [this]
  have hs : srt ks = rg cs.length := by
    rw [Int.toNat_natCast] at e
    simpa using e
  have nd := srt_nodup hs
  have hkn := srt_lenE hs
  have hg : ∀ {k p : Nat}, ks[p]? = some (k : Int) → lkA (nOf ks ks.length) (.inl (k : Int)) = some (.d (.int (p : Nat))) := fun {k p} h => by
    rw [n_get nd h _ (Nat.le_refl _), if_pos (lt_of_get h)]
  refine SX.asgLc 4 (LC.dcMap (as := rg ks.length) (enc := fun j => .tuple [.int j, .int (ks.getD j.toNat 0)]) (fun j => .int (ks.getD j.toNat 0)) (fun j => .inl (ks.getD j.toNat 0)) (fun j => .int j) rfl scJud.nd (own := [("number", 8), ("place", 9)]) (by show blkC nJud (defScope sJud) _ _ = true; decide +kernel)
    (IV.enumI Tx.enumerate (EV.var 2)) (by rw [rg_len]; exact small_le (by omega))
    (fun j => [some (.d (T cs)), some (.d (.int b)), some (.d (.list (ks.map .int))), some (.d (.list (lv.map .int))), none, none, none, none, some (.d (.int j)), some (.d (.int (ks.getD j.toNat 0)))]) [8, 9] (by decide)
    (fun o _ s H C cl fp => TV.tup rfl (TVS.cons (TV.name 8 scJud.nd) (TVS.cons (TV.name 9 scJud.nd) TVS.nil))) (fun o _ s H C cl fp => EV.var 9) (fun _ _ => rfl) (fun o _ s H C cl fp => EV.var 8)) ?_
  refine SX.to (M2 := [.dct (nOf ks ks.length)]) rfl rfl ?_
  refine SX.for .never rfl (IV.rgN Tx.range (EV.lenC Tx.len (EV.var 0) (by omega)) (by omega)) (fun i Γ' M' => (∃ e5 e6 e7, Γ' = [some (.d (T cs)), some (.d (.int b)), some (.d (.list (ks.map .int))), some (.d (.list (lv.map .int))), some (.m 0), e5, e6, e7, none, none] ∧ M' = [.dct (nOf ks ks.length)]) ∧ ∀ o t : Nat, o < i → o < t → t < cs.length → pairOk lv ks o t) ⟨⟨_, _, _, rfl, rfl⟩, fun o t h => by omega⟩ ?_ ?_
  · rintro i d Γ' M' hd ⟨⟨e5, e6, e7, rfl, rfl⟩, hi0⟩
    obtain ⟨hi, rfl⟩ := rg_inv hd
    refine ⟨_, _, TV.name 5 scJud.nd, ?_⟩
    refine SX.for .never rfl (IV.rg2 Tx.range (EV.add (EV.var 5) EV.int) (EV.lenC Tx.len (EV.var 0) (by omega)) (by omega)) (fun j Γ' M' => (∃ e6 e7, Γ' = [some (.d (T cs)), some (.d (.int b)), some (.d (.list (ks.map .int))), some (.d (.list (lv.map .int))), some (.m 0), some (.d (.int (i : Nat))), e6, e7, none, none] ∧ M' = [.dct (nOf ks ks.length)]) ∧ ∀ t : Nat, i < t → t < i + 1 + j → t < cs.length → pairOk lv ks i t) ⟨⟨_, _, rfl, rfl⟩, fun t h h2 => by omega⟩ ?_ ?_
    · rintro j d Γ' M' hd ⟨⟨e6, e7, rfl, rfl⟩, hj0⟩
      obtain ⟨hj, rfl⟩ := rg2_inv hd
      refine ⟨_, _, TV.name 6 scJud.nd, ?_⟩
      obtain ⟨t, ht⟩ : ∃ t : Nat, t = i + 1 + j := ⟨_, rfl⟩
      have et : ((i : Nat) : Int) + 1 + (j : Nat) = ((t : Nat) : Int) := by omega
      have htn : t < cs.length := by omega
      rw [et]
      obtain ⟨p, hp⟩ := srt_mem hs hi
      obtain ⟨q, hq⟩ := srt_mem hs htn
      refine SX.asg 7 scJud.nd (x := .d (.int (lmin (cutG lv (some (i : Int)) (some ((t : Int) + 1)))))) (M1 := [.dct (nOf ks ks.length)]) (EV.minL (ns := cutG lv (some (i : Int)) (some ((t : Int) + 1))) rfl Tx.min (EV.slL (ds := lv.map .int) (EV.var 3) (EO.some (EV.var 5)) (EO.some (EV.add (EV.var 6) EV.int)) rfl) (by rw [cutG_map]; exact lst_frz) (cut_ne (by omega) (by omega) (by omega))) ?_
      generalize hm : lmin (cutG lv (some (i : Int)) (some ((t : Int) + 1))) = mn
      refine SX.when (ET.cmp (EV.cmp (EV.dget hr (EV.var 4) (EV.var 5) rfl rfl (hg hp)) (EV.dget hr (EV.var 4) (EV.var 6) rfl rfl (hg hq)) cb_lt rfl) (EV.cmp (EV.mod (EV.var 7) EV.int (by decide)) EV.int cb_eqI rfl) cb_neB rfl) (fun e => ?_) (fun e => ?_)
      · refine SX.ret EV.bl ?_
        show AV.d _ = AV.d _
        have : c = false := by
          rw [Bool.eq_false_iff]
          intro z
          have := (hc.mp z).2 i t (by omega) htn p q hp hq
          rw [hm] at this
          rw [bne_iff_ne] at e
          refine e ?_
          rw [decide_eq_decide]
          rw [← this]
          omega
        rw [this]
      · refine SX.nil ⟨⟨_, _, rfl, rfl⟩, fun t' h1 h2 h3 => ?_⟩
        by_cases z : t' = t
        · subst z
          intro p' q' hp' hq'
          obtain ⟨a1, a2⟩ := List.getElem?_eq_some_iff.mp hp
          obtain ⟨b1, b2⟩ := List.getElem?_eq_some_iff.mp hp'
          obtain ⟨c1, c2⟩ := List.getElem?_eq_some_iff.mp hq
          obtain ⟨d1, d2⟩ := List.getElem?_eq_some_iff.mp hq'
          have e1 : p' = p := (List.getElem_inj nd).mp (b2.trans a2.symm)
          have e2 : q' = q := (List.getElem_inj nd).mp (d2.trans c2.symm)
          subst e1 e2
          rw [hm]
          have e : decide (((p' : Nat) : Int) < (q' : Nat)) = decide (mn % 2 = 0) := by simpa using e
          rw [decide_eq_decide] at e
          rw [← e]
          omega
        · exact hj0 t' h1 (by omega) h3
    · rintro Γ' M' ⟨⟨e6, e7, rfl, rfl⟩, hj0⟩
      refine SX.nil ⟨⟨_, _, _, rfl, rfl⟩, fun o t h1 h2 h3 => ?_⟩
      by_cases z : o = i
      · subst z
        refine hj0 t h2 ?_ h3
        rw [List.length_map, rg2, List.length_map, List.length_range]
        omega
      · exact hi0 o t (by omega) h2 h3
  · rintro Γ' M' ⟨⟨e5, e6, e7, rfl, rfl⟩, hi0⟩
    refine SX.ret EV.bl ?_
    show AV.d _ = AV.d _
    have : c = true := hc.mpr ⟨hs, fun o t h1 h2 => hi0 o t (by rw [List.length_map, rg_len]; omega) h1 h2⟩
    rw [this]
end
theorem ord_good (cs : List Nat) (b : Int) : Good (levF cs b) (ordF cs b) cs.length := by
  have hll := lev_len cs b
  have hlv : ∀ x ∈ levF cs b, 0 ≤ x := fun x hx => (lev_in hx).1
  unfold ordF
  generalize levF cs b = lv at hll hlv
  refine ⟨?_, fun o t h1 h2 p q hp hq => ?_⟩
  · rw [← hll]
    exact sorted_uniq (srt_pw _) (rg_pw _) ((srt_perm _).trans (order_perm lv))
  · have pw := order_bef lv
    have ho : 0 ≤ (o : Int) ∧ (o : Int) < lv.length := by omega
    have ht : 0 ≤ (t : Int) ∧ (t : Int) < lv.length := by omega
    have hne : (o : Int) ≠ t := by omega
    have L1 := lawB_bef hlv ho ht hne
    have L2' := lawB_bef hlv ht ho hne.symm
    unfold lawB at L1 L2'
    rw [if_neg (show ¬ (t : Int) < o by omega), if_pos (show (t : Int) > o by omega)] at L1
    rw [if_pos (show (o : Int) < t by omega), if_neg (show ¬ (o : Int) > t by omega)] at L2'
    generalize lmin (cutG lv (some (o : Int)) (some ((t : Int) + 1))) = mn at L1 L2' ⊢
    obtain ⟨a1, a2⟩ := List.getElem?_eq_some_iff.mp hp
    obtain ⟨b1, b2⟩ := List.getElem?_eq_some_iff.mp hq
    rw [List.pairwise_iff_getElem] at pw
    constructor
    · intro h
      have := L1.mpr (by rw [← a2, ← b2]; exact pw p q a1 b1 h)
      rw [Bool.and_eq_true] at this
      have := this.2
      rw [decide_eq_true (show (o : Int) < t by omega)] at this
      simpa using this
    · intro h
      by_cases z : p < q
      · exact z
      · have hpq : p ≠ q := fun z => by subst z; rw [a2] at b2; exact hne b2
        have := L2'.mpr (by rw [← a2, ← b2]; exact pw q p b1 a1 (by omega))
        rw [Bool.and_eq_true] at this
        have := this.2
        rw [decide_eq_false (show ¬ (t : Int) < o by omega), decide_eq_true h] at this
        cases this
end K32

set_option Elab.async false
set_option maxRecDepth 100000
set_option maxHeartbeats 4000000
set_option linter.all false
namespace DV
open PySem PySem.Spec L2 PyProof.Rows
/-! ### defs that raise -/
def spX (K : PySem.W.Frag) (C : Addr) (R : List PyData → Prop) : Sp := fun vs H Q E => ∃ (ds : List PyData) (F : Hp), R ds ∧ Same F H ∧ DRs K F vs ds ∧ ∀ H', Same H H' → E (.ref C) none H'
structure DefX (P : Program) (w : World) (K : PySem.W.Frag) (mg : Str → Option Value) (base : Heap) (C : Addr) (k : Nat) (n : Str) (R : List PyData → Prop) : Prop where
  ex : ∃ f fd ps, FnOk P w K mg base (L2.CX P w) k f fd ps (spX K C R) ∧ mg n = some (.ref f) ∧ PySem.W.keepIn K (.ref f) = true ∧ Binds K fd ps []
theorem defX_mk {P : Program} {w : World} {K : PySem.W.Frag} {mg : Str → Option Value} {base : Heap} {x qual : Str} {st : Stmt} {f C : Addr} {fd : FuncData} {ps : List Str} {k : Nat} {R : List PyData → Prop} (F : Fun K x qual st f fd) (hm : mg x = some (.ref f)) (hb : Binds K fd ps []) (ok : FnOk P w K mg base (L2.CX P w) k f fd ps (spX K C R)) : DefX P w K mg base C k x R :=
  ⟨f, fd, ps, ok, hm, F.kp, hb⟩
section
variable {P : Program} {w : World} {K : PySem.W.Frag} {mg : Str → Option Value} {base : Heap}
/-- the context of a def that may raise -/
abbrev rX (P : Program) (w : World) (K : PySem.W.Frag) (mg : Str → Option Value) (base : Heap) (N : List Str) (qual : Str) (st : Stmt) (f : Addr) (cdv : Value) (A : Around) (outer : List Env) (s : Shared) (H : Hp) (E : XK) : Cx :=
  cxOf (L2.CX P w) P w K mg base N qual (defScope st) f cdv A outer s H E
/-- if test: raise C(..), the test is true -/
theorem fn_raise {x qual : Str} {st : Stmt} {f C : Addr} {fd : FuncData} {N ps : List Str} {R : List PyData → Prop} {c : Expr} {m xn : Str} {j : Nat} {rp p p2 pos ip : Pos} {orelse rest : List Stmt} {B newId initId : String} {bmB : List Value} (F : Fun K x qual st f fd) (S : FnScope N ps (defScope st)) (len : ∀ ds, R ds → ds.length = ps.length)
    (FB : ExcBaseFacts B newId initId bmB) (xC : PySem.W.excIn K C bmB newId = true) (gC : mg xn = some (.ref C)) (kC : PySem.W.keepIn K (.ref C) = true) (bC : PySem.W.subIn K (.ref C) (.type "BaseException") = some true) (tC : PySem.W.typeIn K (.ref C) = some (.type "type"))
    (hb : defBody st = .If c [.Raise (some (.Call (.Name xn p) [.Constant (.str m) j p2] [] pos)) none rp] orelse ip :: rest)
    (hg : ∀ (cdv : Value) (A : Around) (outer : List Env) (s : Shared) (H : Hp) (E : XK), Gl (rX P w K mg base N qual st f cdv A outer s H E) xn)
    (test : ∀ (cdv : Value) (A : Around) (outer : List Env) (s : Shared) (H : Hp) (E : XK) ds, R ds → ET (rX P w K mg base N qual st f cdv A outer s H E) c (startG N ds) [] true [])
    (hdb : (xn == ("__debug__" : Str)) = false := by decide) : FnOk P w K mg base (L2.CX P w) 1 f fd ps (spX K C R) := by
  refine F.okX S (fun vs H Q E h => ?_) fun cdv A outer s H vs Q E hr hsp => ?_
  · obtain ⟨ds, F, hR, _, hd, _⟩ := h
    rw [P2.len hd.paired]
    exact len ds hR
  · obtain ⟨ds, Fz, hR, sf, hd, hE⟩ := hsp
    refine ⟨_, PSs.x, ?_⟩
    have sh : SH K Fz H Fz [] H [] := ⟨Same.refl _, sf, Same.refl _, fun _ h h' => absurd h h', List.nodup_nil, rfl, (fun _ h => nomatch h), fun i a mc h => by simp at h⟩
    rw [hb]
    refine xSs_cons (ps_if PT.x PSs.x PSs.x) (test cdv A outer s H E ds hR Fz H Fz [] H (L2.start N vs) _ sh (sv_start hd) fun F1 A1 H1 sh1 af1 => ?_)
    refine iteT ?_
    exact xSs_cons (ps_raise rfl (takes_of rfl rfl rfl rfl) (pmk_own FB xC gC kC (raises_own bC tC) (hg cdv A outer s H E) hdb)) (hE H1 sh1.hh)
end
section
variable {X : Cx}
/-- try: body (it raises C, whatever its way) except x: suite -/
theorem SX.tryC {C : Addr} {x : Str} {np pos pos' : Pos} {body suite rest : List Stmt} {b₀ : Stmt} {Γ : Gam} {M : List MC} {D : AD} (hs : X.stack = X.env :: X.outer) (hf : X.env.frame = some X.env.locals) (hc : Names X x (.ref C)) (he : PySem.W.exmOne X.K (.ref C) (.ref C) = some true)
    (hb : ∀ (W : WX) (pn : List (Addr × Obj)) (xe : Value → Shared → Prop), Takes (X.tr pn xe) W → ∀ (F0 H0 F : Hp) (A : List Addr) (H : Hp) (σ : L2.St) (E : Ends), SH X.K F0 H0 F A H M → SV X.K F A σ Γ → (∀ H', Same H H' → W (.ref C) none σ H') → xSs (X.tr pn xe) body E σ H)
    (hsu : ∀ (a : Addr) (pn : List (Addr × Obj)), SX (X.suite a pn) (b₀ :: suite) Γ M { D with nx := fun Γ' M' => SX X rest Γ' M' D }) :
    SX X (.Try body [.ExceptHandler (some (.Name x np)) none (b₀ :: suite) pos'] [] [] pos :: rest) Γ M D := fun F0 H0 F A H σ sh sv =>
  xSs_cons (ps_try_only (tb := fun W E σ H => ∀ (pn : List (Addr × Obj)) (xe : Value → Shared → Prop), Takes (X.tr pn xe) W → xSs (X.tr pn xe) body E σ H) (ts := fun a cls d E σ H => ∀ pn, xSs (X.suite a pn) (b₀ :: suite) E σ H) (Wout := fun _ _ _ _ => False) hs hf hc takes0
    (fun W pn xe tk _ => ⟨fun pins s σ H E I h => h pn xe tk pins s I⟩) (fun a oe cls d pn _ _ => ⟨fun pins s σ H E I h => h _ pins s I⟩))
    (fun pn xe tk => hb _ pn xe tk F0 H0 F A H σ _ sh sv fun H' e' => ⟨true, he, fun _ a ha pn => by
      obtain ⟨s2, a2⟩ := sh.grow (Same.refl _) (sh.fh.trans e') e' (fun a h h' => absurd h h')
      refine xSs.le ?_ (hsu a pn F0 H0 F A H' σ s2 sv)
      exact ⟨fun σ' H' ⟨F2, A2, Γ2, M2, s2, v2, e2, k⟩ => k.go e2 s2 v2, fun _ _ h => h, fun _ _ h => h, fun _ _ h => h⟩, fun q => nomatch q⟩)
variable {k : Nat} {n : Str} {p pos : Pos} {e : Expr} {es : List Expr} {Γ : Gam} {M M1 : List MC} {xs : List AV} {R : List PyData → Prop} {ds : List PyData} {C : Addr} {rest : List Stmt}
/-- a call that raises -/
theorem callX {W : WX} (D : DefX X.prog X.w X.K X.mg X.base C k n R) (hr : Room k X.A) (tk : Takes X W) (ha : EA X (e :: es) Γ M xs M1) (hd : allD xs = some ds) (h : R ds) {F0 H0 F : Hp} {A : List Addr} {H : Hp} {σ : L2.St} {E : Ends} (sh : SH X.K F0 H0 F A H M) (sv : SV X.K F A σ Γ)
    (hw : ∀ F' A' H', SH X.K F0 H0 F' A' H' M1 → Af F A H F' A' H' → ∀ H'', Same H' H'' → W (.ref C) none σ H'') (hg : Gl X n := by rfl) (hdb : (n == ("__debug__" : Str)) = false := by decide) (he : starEach (e :: es) X.env = (false, eval e X.env) :: starEach es X.env := by rfl) (hpl : (backTo pos (starEach es X.env)).any (·.1) = false := by rfl)
    (hs : swapsWith (.Call (.Name n p) (e :: es) [] pos) none pos.line X.env = pure false := by rfl) : xSs X (.Expr (.Call (.Name n p) (e :: es) [] pos) pos :: rest) E σ H := by
  obtain ⟨f, fd, ps, FF, q1, q2, q3⟩ := D.ex
  refine xSs_cons (ps_expr (pe_callS FF hr hg q1 q2 q3 (fun σ => passAt tk σ) PA.x hdb he hpl) hs) (ha F0 H0 F A H σ _ sh sv fun vs F1 A1 H1 sh1 af1 v1 => ?_)
  rw [allD_eq hd] at v1
  exact ⟨ds, F1, h, sh1.fh, pair_d v1, fun H' e' => hw F1 A1 H1 sh1 af1 H' e'⟩
end
end DV
namespace K32
open PySem PySem.Spec L2 DV
abbrev rOut : List PyData → Prop := fun ds => ∃ (cs : List Nat) (b k : Int), ds = [T cs, .int b, .int k] ∧ cs.length ≤ 900 ∧ (k < 0 ∨ cs.length ≤ k)
abbrev rOutL : List PyData → PyData → Prop := fun ds r => ∃ (cs : List Nat) (b : Int), ds = [T cs, .int b] ∧ cs.length ≤ 900 ∧ r = .bool true
structure TxC (K : PySem.W.Frag) (mg : Str → Option Value) (C : Addr) (bm : List Value) (nid : String) : Prop where
  x : PySem.W.excIn K C bm nid = true
  g : mg "NoSuch" = some (.ref C)
  k : PySem.W.keepIn K (.ref C) = true
  b : PySem.W.subIn K (.ref C) (.type "BaseException") = some true
  t : PySem.W.typeIn K (.ref C) = some (.type "type")
  e : PySem.W.exmOne K (.ref C) (.ref C) = some true
section
variable {P : Program} {w : World} {K : PySem.W.Frag} {mg : Str → Option Value} {base : Heap}
theorem out_test {k : Int} {n : Nat} (h : k < 0 ∨ (n : Int) ≤ k) : (!(decide ((0 : Int) ≤ k) && decide (k < (n : Nat)))) = true := by
  rcases h with h | h
  · rw [decide_eq_false (show ¬ (0 : Int) ≤ k by omega)]; rfl
  · rw [decide_eq_false (show ¬ k < (n : Int) by omega), Bool.and_false]; rfl
theorem ok_psX {f C : Addr} {fd : FuncData} {B newId initId : String} {bm : List Value} (F : Fun K "place_shown" "place_shown" sPS f fd) (Tx : Txt K mg) (FB : ExcBaseFacts B newId initId bm) (TC : TxC K mg C bm newId) : FnOk P w K mg base (L2.CX P w) 1 f fd ["text", "base", "place"] (spX K C rOut) :=
  fn_raise F scPS (fun ds h => by obtain ⟨_, _, _, rfl, _⟩ := h; rfl) FB TC.x TC.g TC.k TC.b TC.t rfl (fun _ _ _ _ _ _ => rfl) (fun cdv A outer s H E ds h => by
    obtain ⟨cs, b, k, rfl, hlen, hk⟩ := h
    exact (ET.not (ET.chain EV.int (EV.var 2) cb_le (fun _ => EV.lenC Tx.len (EV.var 0) (by omega)) cb_lt)).cast (out_test hk))
theorem ok_ptX {f C : Addr} {fd : FuncData} {B newId initId : String} {bm : List Value} (F : Fun K "place_told" "place_told" sPT f fd) (Tx : Txt K mg) (FB : ExcBaseFacts B newId initId bm) (TC : TxC K mg C bm newId) : FnOk P w K mg base (L2.CX P w) 1 f fd ["text", "base", "number"] (spX K C rOut) :=
  fn_raise F scPT (fun ds h => by obtain ⟨_, _, _, rfl, _⟩ := h; rfl) FB TC.x TC.g TC.k TC.b TC.t rfl (fun _ _ _ _ _ _ => rfl) (fun cdv A outer s H E ds h => by
    obtain ⟨cs, b, k, rfl, hlen, hk⟩ := h
    exact (ET.not (ET.chain EV.int (EV.var 2) cb_le (fun _ => EV.lenC Tx.len (EV.var 0) (by omega)) cb_lt)).cast (out_test hk))
abbrev sOut : Stmt := top 39
abbrev nOut : List Str := ["text", "base", "found", "k"]
theorem scOut : FnScope nOut ["text", "base"] (defScope sOut) := ⟨rfl, rfl, rfl, by decide +kernel, rfl, by decide +kernel, by decide +kernel⟩
theorem same0 {F0 H0 F H F' H' H'' : Hp} {A A' : List Addr} (s : SH K F0 H0 F A H []) (a : Af F A H F' A' H') (e : Same H' H'') : Same H H'' := fun b o h => e b o (a.hh b o h (by
  have : A = [] := List.eq_nil_of_length_eq_zero s.al
  rw [this]; simp))
theorem ok_out {f C : Addr} {fd : FuncData} {bm : List Value} {nid : String} (F : Fun K "_law_outside" "_law_outside" sOut f fd) (Tx : Txt K mg) (TC : TxC K mg C bm nid) {k : Nat} (D1 : DefX P w K mg base C k "place_shown" rOut) (D2 : DefX P w K mg base C k "place_told" rOut) : FnOk P w K mg base CX0 (k + 1) f fd ["text", "base"] (spR K rOutL) := by
  refine fn_okD F scOut (fun ds r h => by obtain ⟨_, _, rfl, _⟩ := h; rfl) fun cdv A outer s H E hr ds r h => ?_
  obtain ⟨cs, b, rfl, hlen, rfl⟩ := h
  refine SX.asg 2 scOut.nd EV.int ?_
  refine SX.for .never rfl (IV.rg1 (i := 4) Tx.range EV.int (by omega) (by omega)) (fun i Γ' M' => ∃ e3, Γ' = [some (.d (T cs)), some (.d (.int b)), some (.d (.int (i : Nat))), e3] ∧ M' = []) ⟨_, rfl, rfl⟩ ?_ ?_
  · rintro i d Γ' M' hd ⟨e3, rfl, rfl⟩
    obtain ⟨hi, rfl⟩ := rg_inv hd
    have hi : i < 4 := hi
    refine ⟨_, _, TV.name 3 scOut.nd, ?_⟩
    refine SX.tryC (C := C) rfl rfl ⟨rfl, by decide, .inl TC.g⟩ TC.e (fun W pn xe tk F0 H0 F A H σ E sh sv hw => ?_) (fun a pn => ?_)
    · have two : ∀ j : Nat, j < 2 → ∃ v : Int, atI [AV.d (.int (0 - 1)), AV.d (.int (cs.length : Nat))] (j : Nat) = some (.d (.int v)) ∧ (v < 0 ∨ cs.length ≤ v) := fun j hj => by
        rcases (show j = 0 ∨ j = 1 by omega) with rfl | rfl
        · exact ⟨-1, rfl, .inl (by omega)⟩
        · exact ⟨(cs.length : Nat), rfl, .inr (Int.le_refl _)⟩
      refine xSs_cons (ps_if PT.x PSs.x PSs.x) ((ET.cmp (EV.var 3) EV.int cb_lt rfl) F0 H0 F A H σ _ sh sv fun F1 A1 H1 sh1 af1 => ?_)
      by_cases h2 : i < 2
      · rw [decide_eq_true (show ((i : Nat) : Int) < 2 by omega)]
        refine iteT ?_
        obtain ⟨v, hv, ho⟩ := two i h2
        exact callX D1 hr tk (EA.cons (EV.var 0) (EA.cons (EV.var 1) (EA.one (EV.ixL (z := .d (.int v)) (EV.lst (ds := [.int (0 - 1), .int (cs.length : Nat)]) (EA.cons (EV.sub EV.int EV.int) (EA.one (EV.lenC Tx.len (EV.var 0) (by omega)))) (by simp [sizeLine_eq])) (EV.var 3) rfl hv)))) rfl ⟨cs, b, v, rfl, hlen, ho⟩ sh1 (sv.af af1) fun F' A' H' s' a' H'' e' => hw H'' (same0 sh (af1.trans a') e')
      · rw [decide_eq_false (show ¬ ((i : Nat) : Int) < 2 by omega)]
        refine iteF ?_
        obtain ⟨v, hv, ho⟩ := two (i - 2) (by omega)
        have ei : ((i : Nat) : Int) - 2 = ((i - 2 : Nat) : Int) := by omega
        exact callX D2 hr tk (EA.cons (EV.var 0) (EA.cons (EV.var 1) (EA.one (EV.ixL (z := .d (.int v)) (EV.lst (ds := [.int (0 - 1), .int (cs.length : Nat)]) (EA.cons (EV.sub EV.int EV.int) (EA.one (EV.lenC Tx.len (EV.var 0) (by omega)))) (by simp [sizeLine_eq])) ((EV.sub (EV.var 3) EV.int).cast (by rw [ei])) rfl hv)))) rfl ⟨cs, b, v, rfl, hlen, ho⟩ sh1 (sv.af af1) fun F' A' H' s' a' H'' e' => hw H'' (same0 sh (af1.trans a') e')
    · exact SX.asg 2 scOut.nd (EV.add (EV.var 2) EV.int) (SX.nil (SX.nil ⟨_, rfl, rfl⟩))
  · rintro Γ' M' ⟨e3, rfl, rfl⟩
    exact SX.ret (EV.cmp (EV.var 2) EV.int cb_eqI rfl) rfl
end
end K32

set_option Elab.async false
set_option maxRecDepth 100000
set_option maxHeartbeats 4000000
set_option linter.all false
namespace DV
open PySem PySem.Spec L2 PyProof.Rows
/-! ### defs that change a caller's list: the cells stay where they stand -/
def cSp (K : PySem.W.Frag) (F0 H0 F : Hp) (A : List Addr) (P : Gam → List MC → Prop) : L2.St → Hp → Prop := fun σ' H' => ∃ F' Γ' M', SH K F0 H0 F' A H' M' ∧ SV K F' A σ' Γ' ∧ Same F F' ∧ P Γ' M'
def cRp (K : PySem.W.Frag) (F0 H0 F : Hp) (A : List Addr) (P : AV → List MC → Prop) : VK := fun v H' => ∃ F' x M', SH K F0 H0 F' A H' M' ∧ VR K F' A v x ∧ Same F F' ∧ P x M'
def concp (K : PySem.W.Frag) (F0 H0 F : Hp) (A : List Addr) (D : AD) : Ends := ⟨cSp K F0 H0 F A D.nx, cRp K F0 H0 F A D.rt, fun _ _ => False, fun _ _ => False⟩
def SXp (X : Cx) (sts : List Stmt) (Γ : Gam) (M : List MC) (D : AD) : Prop :=
  ∀ (F0 H0 F : Hp) (A : List Addr) (H : Hp) (σ : L2.St), SH X.K F0 H0 F A H M → SV X.K F A σ Γ → xSs X sts (concp X.K F0 H0 F A D) σ H
theorem same_A {K : PySem.W.Frag} {F0 H0 F H F' H' : Hp} {A A' : List Addr} {M M' : List MC} (s : SH K F0 H0 F A H M) (s' : SH K F0 H0 F' A' H' M') (a : Af F A H F' A' H') (hl : M'.length = M.length) : A' = A := by
  obtain ⟨B, e, _⟩ := a.aa
  have h1 := s.al
  have h2 := s'.al
  rw [e, List.length_append] at h2
  have : B = [] := List.eq_nil_of_length_eq_zero (by omega)
  rw [e, this, List.append_nil]
section
variable {X : Cx} {e a b c f o ie : Expr} {es : List Expr} {rest body orelse : List Stmt} {Γ Γ' : Gam} {M M1 M2 M3 : List MC} {x y z : AV} {pos pos' p p2 : Pos} {xs ys : List AV} {i j : Int} {n : Str} {D : AD} {k : Nat}
theorem concp.up {K : PySem.W.Frag} {F0 H0 F F' : Hp} {A : List Addr} {D : AD} (e : Same F F') : EndsLe (concp K F0 H0 F' A D) (concp K F0 H0 F A D) :=
  ⟨fun _ _ ⟨F2, Γ2, M2, a, b, c, d⟩ => ⟨F2, Γ2, M2, a, b, e.trans c, d⟩, fun _ _ ⟨F2, x, M2, a, b, c, d⟩ => ⟨F2, x, M2, a, b, e.trans c, d⟩, fun _ _ h => h, fun _ _ h => h⟩
theorem SXp.go (k : SXp X rest Γ M D) {F0 H0 F F' : Hp} {A A' : List Addr} {H' : Hp} {σ : L2.St} (e : Same F F') (ha : A' = A) (sh : SH X.K F0 H0 F' A' H' M) (sv : SV X.K F' A' σ Γ) : xSs X rest (concp X.K F0 H0 F A D) σ H' := by
  subst ha
  exact xSs.le (concp.up e) (k F0 H0 F' A' H' σ sh sv)
theorem SXp.to {Γ2 : Gam} {M2 : List MC} (h1 : Γ = Γ2) (h2 : M = M2) (h : SXp X rest Γ2 M2 D) : SXp X rest Γ M D := by subst h1 h2; exact h
theorem SXp.nil (h : D.nx Γ M) : SXp X [] Γ M D := fun F0 H0 F A H σ sh sv pins s I => pss_nil.run pins s σ H _ I (show cSp X.K F0 H0 F A D.nx σ H from ⟨F, Γ, M, sh, sv, Same.refl _, h⟩)
theorem SXp.ret (h : EV X e Γ M x M1) (hl : M1.length = M.length) (q : D.rt x M1) : SXp X (.Return (some e) pos :: rest) Γ M D := fun F0 H0 F A H σ sh sv =>
  xSs_cons (ps_ret PE.x) (h F0 H0 F A H σ _ sh sv fun v F1 A1 H1 sh1 af1 v1 => by
    have e := same_A sh sh1 af1 hl
    subst e
    exact ⟨F1, x, M1, sh1, v1, af1.ff, q⟩)
theorem SXp.asg (k : Nat) (hN : X.N.Nodup) (h : EV X e Γ M x M1) (hl : M1.length = M.length) (go : SXp X rest (Γ.set k (some x)) M1 D) (hi : X.N[k]? = some n := by rfl) (hx : Loc X.env.scope n := by first | exact .inl rfl | exact .inr rfl)
    (hf : X.fn n = true ∨ X.env.scope.names.lookup n = some .local := by first | exact .inl rfl | exact .inr rfl) (hs : swapsWithSole [.Name n p] e pos.line X.env = pure false := by rfl) (hw : swappedStores [.Name n p] e X.env = pure none := by rfl)
    (h1 : (assignEach [.Name n p] X.env).map (·.2) = [assign (.Name n p) X.env] := by rfl) : SXp X (.Assign [.Name n p] e pos :: rest) Γ M D := fun F0 H0 F A H σ sh sv =>
  xSs_cons (ps_asg PE.x (pg_name hN hi hx hf) hs hw h1) (h F0 H0 F A H σ _ sh sv fun v F1 A1 H1 sh1 af1 v1 => go.go af1.ff (same_A sh sh1 af1 hl) sh1 ((sv.af af1).set k v1))
theorem SXp.ite {q : Bool} (h : ET X c Γ M q M1) (hl : M1.length = M.length) (h1 : q = true → SXp X body Γ M1 { D with nx := fun Γ' M' => SXp X rest Γ' M' D }) (h2 : q = false → SXp X orelse Γ M1 { D with nx := fun Γ' M' => SXp X rest Γ' M' D }) : SXp X (.If c body orelse pos :: rest) Γ M D := fun F0 H0 F A H σ sh sv =>
  xSs_cons (ps_if PT.x PSs.x PSs.x) (h F0 H0 F A H σ _ sh sv fun F1 A1 H1 sh1 af1 => by
    have e := same_A sh sh1 af1 hl
    subst e
    have le : EndsLe (concp X.K F0 H0 F1 A1 { D with nx := fun Γ' M' => SXp X rest Γ' M' D }) { (concp X.K F0 H0 F A1 D) with nx := xSs X rest (concp X.K F0 H0 F A1 D) } :=
      ⟨fun σ' H' ⟨F2, Γ2, M2, s2, v2, e2, k⟩ => k.go (af1.ff.trans e2) rfl s2 v2, fun _ _ ⟨F2, x, M2, a, b, c, d⟩ => ⟨F2, x, M2, a, b, af1.ff.trans c, d⟩, fun _ _ h => h, fun _ _ h => h⟩
    cases q with
    | true => exact iteT (xSs.le le (h1 rfl F0 H0 F1 A1 H1 σ sh1 (sv.af af1)))
    | false => exact iteF (xSs.le le (h2 rfl F0 H0 F1 A1 H1 σ sh1 (sv.af af1))))
theorem SXp.setL {l : Nat} (h : EV X e Γ M x M) (ho : EV X o Γ M (.m k) M) (hi : EV X ie Γ M (.d (.int j)) M) (hk : M[k]? = some (.lst xs)) (hj : ixN xs.length j = some l) (go : SXp X rest Γ (M.set k (.lst (xs.set l x))) D)
    (ha : ∀ v, assign (.Subscript o ie p) X.env v = (do
      let ov ← holding [v] (eval o X.env)
      let iv ← holding [v, ov] (eval ie X.env)
      standAt p
      holding [v, ov, iv] (setItem ov iv v)
      release [v, ov, iv] []) := by intro _; rfl)
    (hs : swapsWithSole [.Subscript o ie p] e pos.line X.env = pure false := by rfl) (hw : swappedStores [.Subscript o ie p] e X.env = pure none := by rfl)
    (h1 : (assignEach [.Subscript o ie p] X.env).map (·.2) = [assign (.Subscript o ie p) X.env] := by rfl) : SXp X (.Assign [.Subscript o ie p] e pos :: rest) Γ M D := fun F0 H0 F A H σ sh sv =>
  xSs_cons (ps_asg PE.x (pg_sub PE.x PE.x set_list ha) hs hw h1) (h F0 H0 F A H σ _ sh sv fun v F1 A1 H1 sh1 af1 v1 => ho F0 H0 F1 A1 H1 σ _ sh1 (sv.af af1) fun u F2 A2 H2 sh2 af2 v2 =>
    hi F0 H0 F2 A2 H2 σ _ sh2 ((sv.af af1).af af2) fun w F3 A3 H3 sh3 af3 v3 => by
      obtain ⟨q, e1, rfl⟩ := v2
      have e3 := af3.cellAt e1
      obtain ⟨_, us, q1, q2⟩ := sh3.own k q _ e3 hk (by simp)
      obtain ⟨s4, a4⟩ := put_lst (ws := us.set l v) sh3 e3 hk (P2.set l q2 (af3.vr (af2.vr v1)))
      exact ⟨q, us, j, l, rfl, v3.int, q1, by rw [P2.len q2]; exact hj, go.go (((af1.ff.trans af2.ff).trans af3.ff).trans a4.ff) (same_A sh s4 (((af1.trans af2).trans af3).trans a4) (by rw [List.length_set])) s4 ((((sv.af af1).af af2).af af3).af a4)⟩)
end
theorem SH.called {K : PySem.W.Frag} {F0 H0 F H F' H' : Hp} {A : List Addr} {M : List MC} {k : Nat} {a : Addr} {mc mc' : MC} (s : SH K F0 H0 F A H M) (hk : A[k]? = some a) (hm : M[k]? = some mc) (e1 : Same F F') (e2 : Same F' H') (e3 : ∀ b o, H b = some o → b ≠ a → H' b = some o)
    (fr : ∀ b, F b = none → F' b ≠ none → H b = none) (hF : F' a = none) (hH : H' a ≠ none) (r : MR K F' A H' a mc') : SH K F0 H0 F' A H' (M.set k mc') ∧ Af F A H F' A H' := by
  have ham : a ∈ A := List.mem_of_getElem? hk
  have th : ∀ b, H b ≠ none → H' b ≠ none := fun b hb => by
    by_cases q : b = a
    · subst q; exact hH
    · cases z : H b with
      | none => exact absurd z hb
      | some o => rw [e3 b o z q]; simp
  refine ⟨⟨s.ff.trans e1, e2, fun b o h => ?_, fun b h h' => ?_, s.nd, by rw [List.length_set]; exact s.al, fun b hb => ⟨(s.an b hb).1, th b (s.an b hb).2⟩, fun j b mcj h1 h2 h3 => ?_⟩, ⟨e1, ⟨[], by simp, fun _ h => nomatch h⟩, fun b o h hb => e3 b o h (fun q => hb (q ▸ ham)), th, fr⟩⟩
  · refine e3 b o (s.hh b o h) fun q => ?_
    subst q
    rw [(s.an b ham).1] at h; cases h
  · by_cases q : F b = none
    · have z := fr b q h'
      cases q0 : H0 b with
      | none => rfl
      | some o => rw [s.hh b o q0] at z; cases z
    · exact s.fr b h q
  · by_cases q : j = k
    · subst q
      have hb : b = a := Option.some.inj (h1.symm.trans hk)
      subst hb
      rw [List.getElem?_set_self (List.getElem?_eq_some_iff.mp hm).1] at h2
      cases h2
      exact ⟨hF, r⟩
    · rw [List.getElem?_set_ne (fun z => q z.symm)] at h2
      obtain ⟨q1, q2⟩ := s.own j b mcj h1 h2 h3
      have hbm : b ∈ A := List.mem_of_getElem? h1
      have hba : b ≠ a := nodup_ne s.nd h1 hk q
      have hF' : F' b = none := by
        cases z : F' b with
        | none => rfl
        | some o => exact absurd (fr b q1 (by rw [z]; simp)) (s.an b hbm).2
      refine ⟨hF', MR.mono e1 ⟨[], by simp⟩ ?_ q2⟩
      cases z : H b with
      | none => exact absurd z (s.an b hbm).2
      | some o => exact e3 b o z hba
end DV
namespace K32
open PySem PySem.Spec L2 DV
/-! ### the law's draw -/
abbrev St3 := Int × Nat × Int
def loadS (ns : List Int) (s : St3) (lim : Int) : St3 :=
  if s.1 < lim then
    let c := if s.2.1 < ns.length then ns.getD s.2.1 0 else 0
    if 10 ^ 18 ≤ c then (c, s.2.1 + 1, s.2.2) else
      let t := ((s.2.2 + c % 2147483629 + (s.2.1 : Int) + 1) * 48271) % 2147483647
      let m := (t * 69621 + 11) % 2147483629
      (m * 2147483647 + (m * 30011 + t) % 2147483587, s.2.1 + 1, t)
  else s
def drawD (ns : List Int) (s : St3) (lim : Int) : Int := (loadS ns s lim).1 % lim
def drawS (ns : List Int) (s : St3) (lim : Int) : St3 := ((loadS ns s lim).1 / lim, (loadS ns s lim).2.1, (loadS ns s lim).2.2)
theorem draw_in (ns : List Int) (s : St3) {lim : Int} (h : 0 < lim) : 0 ≤ drawD ns s lim ∧ drawD ns s lim < lim := ⟨Int.emod_nonneg _ (by omega), Int.emod_lt_of_pos _ h⟩
abbrev stD (ns : List Int) (s : St3) : List AV := [.d (.int s.1), .d (.int (s.2.1 : Nat)), .d (.list (ns.map .int)), .d (.int s.2.2)]
def spDraw (K : PySem.W.Frag) (ns : List Int) : Sp := fun vs H Q _ => ∃ (a : Addr) (F : Hp) (st : St3) (lim : Int) (ws : List V), vs = [.ref a, .int lim] ∧ 0 < lim ∧ lim < 1000 ∧ Same F H ∧ F a = none ∧ H a = some (.lst ws) ∧ Paired (VR K F []) ws (stD ns st) ∧
  ∀ v F' H' ws', Same F F' → Same F' H' → F' a = none → (∀ b o, H b = some o → b ≠ a → H' b = some o) → (∀ b, F b = none → F' b ≠ none → H b = none) → H' a = some (.lst ws') → Paired (VR K F' []) ws' (stD ns (drawS ns st lim)) → v = .int (drawD ns st lim) → Q v H'
theorem vr_any {K : PySem.W.Frag} {F : Hp} {A A' : List Addr} {ws : List V} {ns : List Int} {st : St3} (h : Paired (VR K F A) ws (stD ns st)) : Paired (VR K F A') ws (stD ns st) := by
  cases h with | cons a h => cases h with | cons b h => cases h with | cons c h => cases h with | cons d h => cases h; exact .cons a (.cons b (.cons c (.cons d .nil)))
section
variable {P : Program} {w : World} {K : PySem.W.Frag} {mg : Str → Option Value} {base : Heap}
abbrev sDraw : Stmt := top 30
abbrev nDraw : List Str := ["state", "limit", "position", "cell", "mixed", "digit"]
theorem scDraw : FnScope nDraw ["state", "limit"] (defScope sDraw) := ⟨rfl, rfl, rfl, by decide +kernel, rfl, by decide +kernel, by decide +kernel⟩
theorem ok_draw {f : Addr} {fd : FuncData} (F : Fun K "_law_draw" "_law_draw" sDraw f fd) (Tx : Txt K mg) (ns : List Int) (hns : ns.length ≤ 100000) : FnOk P w K mg base CX0 1 f fd ["state", "limit"] (spDraw K ns) := by
  refine F.ok scDraw (fun vs H Q E h => by obtain ⟨_, _, _, _, _, rfl, _⟩ := h; rfl) fun cdv A outer s H vs Q E hr h => ?_
  obtain ⟨a, Fz, st, lim, ws, rfl, l0, l1, sf, hFa, hHa, hp, k⟩ := h
  refine ⟨_, PSs.x, ?_⟩
  let He : Hp := fun b => if b = a then none else H b
  have sh : SH K Fz He Fz [a] H [.lst (stD ns st)] := by
    refine ⟨Same.refl _, sf, fun b o h => ?_, fun _ h h' => absurd h h', by simp, rfl, fun b hb => ?_, fun i b mc h1 h2 h3 => ?_⟩
    · by_cases q : b = a
      · simp [He, q] at h
      · simpa [He, q] using h
    · rw [List.mem_singleton.mp hb]
      exact ⟨by simp [He], by rw [hHa]; simp⟩
    · cases i with
      | zero =>
        simp at h1 h2
        subst h1 h2
        exact ⟨hFa, ws, hHa, vr_any hp⟩
      | succ i => simp at h1
  have sv : SV K Fz [a] (L2.start nDraw [.ref a, .int lim]) [some (.m 0), some (.d (.int lim)), none, none, none, none] := by
    refine ⟨rfl, fun i x e => ?_⟩
    match i, e with
    | 0, e => cases e; exact ⟨_, rfl, a, rfl, rfl⟩
    | 1, e => cases e; exact ⟨_, rfl, DR.int _⟩
    | 2, e => cases e
    | 3, e => cases e
    | 4, e => cases e
    | 5, e => cases e
    | _ + 6, e => cases e
  have body : SXp (defX P w K mg base nDraw "_law_draw" sDraw f cdv A outer s H E) (defBody sDraw) [some (.m 0), some (.d (.int lim)), none, none, none, none] [.lst (stD ns st)] { nx := fun _ _ => False, rt := fun x M => x = .d (.int (drawD ns st lim)) ∧ M = [.lst (stD ns (drawS ns st lim))] } := by
    have fin : ∀ (s' : St3) (e2 e3 e4 : Option AV), s' = loadS ns st lim → SXp (defX P w K mg base nDraw "_law_draw" sDraw f cdv A outer s H E) ((defBody sDraw).drop 1) [some (.m 0), some (.d (.int lim)), e2, e3, e4, none] [.lst (stD ns s')] { nx := fun _ _ => False, rt := fun x M => x = .d (.int (drawD ns st lim)) ∧ M = [.lst (stD ns (drawS ns st lim))] } := by
      intro s' e2 e3 e4 hs'
      refine SXp.asg 5 scDraw.nd (EV.mod (EV.intI Tx.int (EV.ixL (z := .d (.int s'.1)) (EV.var 0) EV.int rfl rfl)) (EV.var 1) l0) rfl ?_
      refine SXp.setL (l := 0) (EV.fdiv (EV.ixL (z := .d (.int s'.1)) (EV.var 0) EV.int rfl rfl) (EV.var 1) ⟨l0, by omega⟩) (EV.var 0) EV.int rfl rfl ?_
      refine SXp.ret (EV.var 5) rfl ⟨?_, ?_⟩
      · rw [drawD, ← hs']
      · rw [drawS, ← hs']; rfl
    refine SXp.ite (ET.cmp (EV.ixL (z := .d (.int st.1)) (EV.var 0) EV.int rfl rfl) (EV.var 1) cb_lt rfl) rfl (fun e => ?_) (fun e => ?_)
    · have e : st.1 < lim := of_decide_eq_true e
      refine SXp.asg 2 scDraw.nd (EV.ixL (z := .d (.int (st.2.1 : Nat))) (EV.var 0) EV.int rfl rfl) rfl ?_
      refine SXp.setL (l := 1) (EV.add (EV.var 2) EV.int) (EV.var 0) EV.int rfl rfl ?_
      refine SXp.to (M2 := [.lst (stD ns (st.1, st.2.1 + 1, st.2.2))]) rfl rfl ?_
      refine SXp.asg 3 scDraw.nd EV.int rfl ?_
      have main : ∀ c : Int, c = (if st.2.1 < ns.length then ns.getD st.2.1 0 else 0) → SXp (defX P w K mg base nDraw "_law_draw" sDraw f cdv A outer s H E) (((defBody sDraw).getD 0 (.Pass ⟨0,0,0,0⟩) |> fun | .If _ b _ _ => b.drop 4 | _ => []))
          [some (.m 0), some (.d (.int lim)), some (.d (.int (st.2.1 : Nat))), some (.d (.int c)), none, none] [.lst (stD ns (st.1, st.2.1 + 1, st.2.2))]
          { nx := fun Γ' M' => SXp (defX P w K mg base nDraw "_law_draw" sDraw f cdv A outer s H E) ((defBody sDraw).drop 1) Γ' M' { nx := fun _ _ => False, rt := fun x M => x = .d (.int (drawD ns st lim)) ∧ M = [.lst (stD ns (drawS ns st lim))] }, rt := fun x M => x = .d (.int (drawD ns st lim)) ∧ M = [.lst (stD ns (drawS ns st lim))] } := by
        intro c hc
        have hl : loadS ns st lim = if 10 ^ 18 ≤ c then (c, st.2.1 + 1, st.2.2) else
            ((((((st.2.2 + c % 2147483629 + (st.2.1 : Int) + 1) * 48271) % 2147483647) * 69621 + 11) % 2147483629) * 2147483647 + ((((((st.2.2 + c % 2147483629 + (st.2.1 : Int) + 1) * 48271) % 2147483647) * 69621 + 11) % 2147483629) * 30011 + (((st.2.2 + c % 2147483629 + (st.2.1 : Int) + 1) * 48271) % 2147483647)) % 2147483587, st.2.1 + 1, ((st.2.2 + c % 2147483629 + (st.2.1 : Int) + 1) * 48271) % 2147483647) := by
          unfold loadS
          rw [if_pos e, ← hc]
        refine SXp.ite (q := decide ((10 : Int) ^ 18 ≤ c)) (ET.cmp (EV.var 3) (EV.pow EV.int EV.int ⟨by decide, by decide, by decide⟩) cb_ge rfl) rfl (fun q => ?_) (fun q => ?_)
        · have q := of_decide_eq_true q
          rw [if_pos q] at hl
          refine SXp.setL (l := 0) (EV.var 3) (EV.var 0) EV.int rfl rfl (SXp.nil (SXp.nil ?_))
          exact fin (c, st.2.1 + 1, st.2.2) _ _ _ hl.symm
        · have q := of_decide_eq_false q
          rw [if_neg q] at hl
          refine SXp.setL (l := 3) (x := .d (.int (((st.2.2 + c % 2147483629 + (st.2.1 : Int) + 1) * 48271) % 2147483647))) (EV.mod (EV.intI Tx.int (EV.mul (EV.add (EV.add (EV.add (EV.ixL (z := .d (.int st.2.2)) (EV.var 0) EV.int rfl rfl) (EV.mod (EV.intI Tx.int (EV.var 3)) EV.int (by decide))) (EV.var 2)) EV.int) EV.int (.inr ⟨by decide, by decide⟩))) EV.int (by decide)) (EV.var 0) EV.int rfl rfl ?_
          generalize ((st.2.2 + c % 2147483629 + (st.2.1 : Int) + 1) * 48271) % 2147483647 = t at hl
          refine SXp.to (M2 := [.lst (stD ns (st.1, st.2.1 + 1, t))]) rfl rfl ?_
          refine SXp.asg 4 scDraw.nd (x := .d (.int ((t * 69621 + 11) % 2147483629))) (EV.mod (EV.intI Tx.int (EV.add (EV.mul (EV.ixL (z := .d (.int t)) (EV.var 0) EV.int rfl rfl) EV.int (.inr ⟨by decide, by decide⟩)) EV.int)) EV.int (by decide)) rfl ?_
          generalize (t * 69621 + 11) % 2147483629 = m at hl
          refine SXp.setL (l := 0) (x := .d (.int (m * 2147483647 + (m * 30011 + t) % 2147483587))) (EV.add (EV.mul (EV.var 4) EV.int (.inr ⟨by decide, by decide⟩)) (EV.mod (EV.intI Tx.int (EV.add (EV.mul (EV.var 4) EV.int (.inr ⟨by decide, by decide⟩)) (EV.ixL (z := .d (.int t)) (EV.var 0) EV.int rfl rfl))) EV.int (by decide))) (EV.var 0) EV.int rfl rfl (SXp.nil (SXp.nil ?_))
          exact fin (m * 2147483647 + (m * 30011 + t) % 2147483587, st.2.1 + 1, t) _ _ _ hl.symm
      refine SXp.ite (ET.cmp (EV.var 2) (EV.lenL Tx.len (EV.ixL (z := .d (.list (ns.map .int))) (EV.var 0) EV.int rfl rfl) lst_frz) cb_lt rfl) rfl (fun q => ?_) (fun q => SXp.nil ?_)
      · have q : st.2.1 < ns.length := by
          have := of_decide_eq_true q
          rw [List.length_map] at this
          omega
        refine SXp.asg 3 scDraw.nd (x := .d (.int (ns.getD st.2.1 0))) (EV.ixL (EV.ixL (z := .d (.list (ns.map .int))) (EV.var 0) EV.int rfl rfl) (EV.var 2) lst_frz (at_cell (atI_nat (j := st.2.1) (by rw [List.getD_eq_getElem?_getD, List.getElem?_eq_getElem q]; rfl)))) rfl (SXp.nil ?_)
        exact main _ (by rw [if_pos q])
      · have q : ¬ st.2.1 < ns.length := by
          have := of_decide_eq_false q
          rw [List.length_map] at this
          omega
        exact main 0 (by rw [if_neg q])
    · have e : ¬ st.1 < lim := of_decide_eq_false e
      refine SXp.nil (fin st _ _ _ ?_)
      unfold loadS
      rw [if_neg e]
  refine xSs.le ?_ (body Fz He Fz [a] H _ sh sv)
  refine ⟨fun σ' H' ⟨_, _, _, _, _, _, z⟩ => z.elim, fun v H' ⟨F', x, M', s', rv, e, hx, hM⟩ => ?_, fun _ _ z => z.elim, fun _ _ z => z.elim⟩
  subst hx hM
  obtain ⟨g1, ws', g2, g3⟩ := s'.own 0 a _ rfl rfl (by simp)
  refine k v F' H' ws' e s'.fh g1 (fun b o hb hne => s'.hh b o (by simp [He, hne, hb])) (fun b hb hb' => ?_) g2 (vr_any g3) rv.int
  have := s'.fr b hb hb'
  by_cases q : b = a
  · subst q; exact absurd g1 hb'
  · simpa [He, q] using this
end
end K32

set_option Elab.async false
set_option maxRecDepth 100000
set_option maxHeartbeats 8000000
set_option linter.all false
namespace DV
open PySem PySem.Spec L2 PyProof.Rows
/-! ### set(list of ints), sorted -/
section
variable {P : Program} {w : World} {A : Around} {E : Value → Shared → Prop} {s : Shared}
abbrev noSet (w : World) : Obj := { cls := .type "set", dict := none, data := .set #[] 0 (.fresh 0 0 (!w.params.followText "set-order")) }
theorem set_of_list {l : Addr} {items : Array Value} (ns : List Int) {Q : Value → Shared → Prop} (hh : A.handled = none) (hl : s.heap.IsList l items) (hit : IntsAre items.toList ns) (hb : ns.length + 1 < scanBound)
    (h : ∀ (h' : Heap) (tk c : Nat), SetR w h' s.heap.objs.size (fun j => decide (j ∈ ns)) c → c ≤ ns.length → (∀ b o, s.heap.get? b = some o → h'.get? b = some o) → Q (.ref s.heap.objs.size) { s with heap := h', toks := tk }) :
    wpAny (model P w) A (call (.type "set") [.ref l]) Q E s := by
  have hisz : items.size = ns.length := by
    have q := IntsAre.length hit
    rwa [Array.length_toList] at q
  obtain ⟨c, tl, hmro⟩ := F.called_set.mro
  have hmade := F.called_set.made
  have hsub := F.called_set.sub
  refine wpAny_call (codeAny_of_tree ?_)
  show wpAny _ _ (callAny (.type "set") _) _ _ _
  refine wpAny_pure ⟨Code.quiet_builtin _ (by decide +kernel), codeAny_builtin F.entry_type_call ?_⟩
  rw [Around.under_plain (weight_type_call_type "set" [.ref l] []) rfl]
  have h1 := F.called_set.notType
  have h2 := F.called_set.canCreate
  have hct := F.typeCall_set_1 (.ref l)
  repeat (any_goals (first | assumption | wp_step))
  refine codeAny_mono (code_set_led1 (.ref l) (E := E) (Q₁ := fun obj s₁ => obj = .ref s.heap.objs.size ∧ s₁ = { s with heap := s.heap.push (noSet w) }) ⟨rfl, rfl⟩) fun r s₁ hr => ?_
  cases r with
  | error e => exact hr
  | ok fl =>
    cases fl with
    | ret obj =>
      obtain ⟨rfl, rfl⟩ := hr
      have hS : (s.heap.push (noSet w)).get? s.heap.objs.size = some (noSet w) := Heap.get?_push_size _ rfl
      have hT : Shared.TypeIs { s with heap := s.heap.push (noSet w) } (.ref s.heap.objs.size) "set" := ⟨_, hS, rfl⟩
      have hli := F.called_set.init.lookup
      have hbi := F.called_set.init.bind (.ref s.heap.objs.size)
      repeat (any_goals (first | assumption | wp_step))
      refine codeAny_mono (codeAny_call_builtin (R := wants (fun r s₂ => r = .none ∧ ∃ h' tk c, s₂ = { s with heap := h', toks := tk } ∧ SetR w h' s.heap.objs.size (fun j => decide (j ∈ ns)) c ∧ c ≤ ns.length ∧
          (∀ b o, s.heap.get? b = some o → h'.get? b = some o)) E) F.called_set.init.plain F.entry_set_init (check_set_init_1 hT ?_)) fun r₂ s₂ hr₂ => ?_
      · obtain ⟨⟨ocls, odict, odata, oslots⟩, hol, hcl, nl, hdl⟩ := hl
        simp only at hcl hdl
        subst hcl hdl
        have hol' : (s.heap.push (noSet w)).get? l = some { cls := .type "list", dict := odict, data := .seq items nl, slots := oslots } := Heap.get?_push_of_some _ hol
        have hsls := F.sub_list_set
        have hslf := F.sub_list_frozenset
        have hne : (Value.type "list" == Value.type "dict") = false := by decide
        have hl1 : (s.heap.push (noSet w)).IsList l items := ⟨_, hol', rfl, nl, rfl⟩
        unfold Builtin.«set.__init__» noKeywords Builtin.Frozenset.updateFrom
        generalize hPI : pyIter = PI
        wp_walk
        subst hPI
        refine wpAny_pyIter_list hl1 ?_
        refine wpAny_bind (wpAny_runValue ?_)
        have hlS : l < s.heap.objs.size := Heap.lt_size hol
        have hh3 : A.in1.in1.in1.handled = none := by simp [hh]
        have hsz : (s.heap.push (noSet w)).objs.size = s.heap.objs.size + 1 := Heap.size_push ..
        have hneI : l ≠ (s.heap.push (noSet w)).objs.size := by rw [Heap.size_push]; exact Nat.ne_of_lt (Nat.lt_succ_of_lt hlS)
        have hSf : s.heap.objs.size ∉ [(s.heap.push (noSet w)).objs.size, l] := by
          rw [Heap.size_push]
          simp only [List.mem_cons, List.mem_singleton, List.not_mem_nil, or_false, not_or]
          exact ⟨Nat.ne_of_lt (Nat.lt_succ_self _), Nat.ne_of_gt hlS⟩
        have hval : ∀ (i : Nat) (v : Value), items[i]? = some v → ∃ k t, ns[i]? = some k ∧ v = .int k t := fun i v hv => by
          have hi : i < ns.length := by rw [← hisz]; exact (Array.getElem?_eq_some_iff.mp hv).1
          obtain ⟨t, e⟩ := PyProof.Rows.IntsAre.int_at hit i v (by rw [Array.getElem?_toList]; exact hv)
          refine ⟨ns[i], t, List.getElem?_eq_getElem hi, ?_⟩
          rw [e, List.getD_eq_getElem?_getD, List.getElem?_eq_getElem hi] <;> rfl
        refine set_update_ints ((Walks.list hh3 _ l hneI items).toS) s.heap.objs.size hSf ns hisz hb hval (items.size - 0) 0 _ (by omega) (Nat.zero_le _) ⟨⟨_, Heap.get?_push_size _ rfl, rfl, rfl⟩, (hl1.push _)⟩ ?hS0 ?hR
        case hS0 => exact ⟨0, Nat.le_refl 0, setR_new_at (Heap.get?_push_of_some _ hS)⟩
        case hR =>
          intro s' c' hm hc' hS'
          obtain ⟨h', g2, d', tk', os'⟩ := s'
          have eg : g2 = s.gens := hm.gens
          have ed : d' = s.drawn := hm.drawn
          have eo : os' = s.os := hm.os
          subst eg ed eo
          show wpAny _ _ _ _ _ _
          refine wpAny_pure ?_
          show wpAny _ _ (ret Value.none) _ _ _
          rw [hisz] at hc'
          refine wpAny_pure ⟨rfl, h', tk', c', rfl, hS', hc', fun b o e => ?_⟩
          have hb0 : b < s.heap.objs.size := Heap.lt_size e
          refine hm.heap b o ?_ (Heap.get?_push_of_some _ (Heap.get?_push_of_some _ e))
          rw [Heap.size_push]
          simp only [List.mem_cons, List.mem_singleton, List.not_mem_nil, or_false, not_or]
          exact ⟨Nat.ne_of_lt hb0, Nat.ne_of_lt (Nat.lt_succ_of_lt hb0)⟩
      · cases r₂ with
        | error e => exact hr₂
        | ok fl₂ =>
          cases fl₂ with
          | ret r =>
            obtain ⟨rfl, h', tk, c', rfl, hS', hc', hk'⟩ := hr₂
            repeat (any_goals (first | assumption | wp_step))
            exact h _ _ _ hS' hc' hk'
          | _ => exact hr₂.elim
    | _ => exact hr.elim
end
section
variable {X : Cx}
def rSetL (K : PySem.W.Frag) (w : World) : List V → Hp → VK → Prop := fun vs H Q => ∃ (a : Addr) (ns : List Int), vs = [.ref a] ∧ SqL K H a (ns.map V.int) ∧ ns.length ≤ 60 ∧
  ∀ p c, H p = none → c ≤ ns.length → Q (.ref p) (upd H p (SetO w p (fun j => decide (j ∈ ns)) c))
theorem cr_setL (hc : X.calm = true) : CallR X (.type "set") (rSetL X.K X.w) := by
  intro pins s σ H vs us Q I r h
  obtain ⟨a, ns, rfl, ha, hz, q⟩ := h
  rw [Vals.ref1 r]
  obtain ⟨its, rv, pl, _⟩ := I.list ha
  refine set_of_list ns (I.ok.hd hc) pl.isList (ints_of_vals rv) (by show ns.length + 1 < 4096; omega) fun h' tk c R hcn k => ?_
  exact ⟨.ref _, upd H s.heap.objs.size (SetO X.w s.heap.objs.size (fun j => decide (j ∈ ns)) c), I.laid (t' := tk) k (Nat.le_refl _) (setO_new R), rfl, q _ _ (I.hok.fresh (Nat.le_refl _)) hcn⟩
variable {e : Expr} {Γ : Gam} {M M1 : List MC} {x : AV} {p p2 pos pos2 : Pos} {ns : List Int}
/-- sorted(set(e)) -/
theorem EV.sortedSet {r : List Int} (hc : X.calm = true) (hm : X.mg "sorted" = none) (hm2 : X.mg "set" = none) (h : EV X e Γ M x M1) (hx : lstOf M1 x = some (ns.map fun n => AV.d (.int n))) (hz : ns.length ≤ 60) (hr : r.Pairwise (· < ·)) (hrm : ∀ k, k ∈ r ↔ k ∈ ns)
    (hg : Gl X "sorted" := by rfl) (hg2 : Gl X "set" := by rfl) (he : starEach [e] X.env = (false, eval e X.env) :: starEach [] X.env := by rfl) (hpl : (backTo pos2 (starEach [] X.env)).any (·.1) = false := by rfl)
    (he2 : starEach [.Call (.Name "set" p2) [e] [] pos2] X.env = (false, eval (.Call (.Name "set" p2) [e] [] pos2) X.env) :: starEach [] X.env := by rfl) (hpl2 : (backTo pos (starEach [] X.env)).any (·.1) = false := by rfl) :
    EV X (.Call (.Name "sorted" p) [.Call (.Name "set" p2) [e] [] pos2] [] pos) Γ M (.d (.list (r.map .int))) M1 :=
  EV.of (pe_callB (cr_sortedSet hc) hg hm (by decide +kernel) (pa_cons (pe_callTy (cr_setL hc) hg2 hm2 (by decide +kernel) PA.x (he := he) (hpl := hpl)) pa_nil he2) (he := he2) (hpl := hpl2)) fun F0 H0 F A H σ Q sh sv kk =>
    EA.one h he F0 H0 F A H σ _ sh sv fun vs F1 A1 H1 sh1 af1 v1 => by
      obtain ⟨v, rfl, rv⟩ := pair1 v1
      obtain ⟨l, ws, rfl, h1, h2⟩ := lst_at sh1 rv hx
      rw [ints_at h2] at h1
      refine ⟨l, ns, rfl, SqL.of h1, hz, fun q c hq hcn => ?_⟩
      obtain ⟨s2, a2⟩ := sh1.side (o := SetO X.w q (fun j => decide (j ∈ ns)) c) hq
      refine ⟨q, _, c, rfl, upd_same, by omega, fun rs p3 h3 h4 h5 hp3 => ?_⟩
      have hrs : rs = r := by
        refine sorted_uniq (h3.imp (fun h => Int.le_of_lt h)) (hr.imp (fun h => Int.le_of_lt h)) ?_
        have n1 : rs.Nodup := h3.imp (fun h => Int.ne_of_lt h)
        have n2 : r.Nodup := hr.imp (fun h => Int.ne_of_lt h)
        exact (List.perm_ext_iff_of_nodup n1 n2).mpr fun k => by rw [h4, hrm]; simp
      subst hrs
      obtain ⟨s4, a4⟩ := s2.new (o := .lst (rs.map V.int)) hp3
      exact kk _ _ _ _ s4 ((af1.trans a2).trans a4) (DR.lst upd_same (ints_dr _))
end
end DV

set_option Elab.async false
set_option maxRecDepth 100000
set_option maxHeartbeats 4000000
set_option linter.all false
namespace K32
open PySem PySem.Spec L2 DV
structure DrawR (P : Program) (w : World) (K : PySem.W.Frag) (mg : Str → Option Value) (base : Heap) (k : Nat) (ns : List Int) : Prop where
  ex : ∃ f fd ps, FnOk P w K mg base CX0 k f fd ps (spDraw K ns) ∧ mg "_law_draw" = some (.ref f) ∧ PySem.W.keepIn K (.ref f) = true ∧ Binds K fd ps []
theorem DrawR.mono {P : Program} {w : World} {K : PySem.W.Frag} {mg : Str → Option Value} {base : Heap} {j k : Nat} {ns : List Int} (D : DrawR P w K mg base j ns) (h : j ≤ k) : DrawR P w K mg base k ns := by
  obtain ⟨f, fd, ps, F, a, b, c⟩ := D.ex
  exact ⟨f, fd, ps, F.mono h, a, b, c⟩
section
variable {X : Cx} {a b : Expr} {Γ : Gam} {M M1 : List MC} {p pos : Pos}
theorem EV.draw {lvl k : Nat} {ns : List Int} {st : St3} {lim : Int} (D : DrawR X.prog X.w X.K X.mg X.base lvl ns) (hr : Room lvl X.A) (h1 : EV X a Γ M (.m k) M) (h2 : EV X b Γ M (.d (.int lim)) M) (hk : M[k]? = some (.lst (stD ns st))) (l0 : 0 < lim) (l1 : lim < 1000) (hg : Gl X "_law_draw" := by rfl)
    (he2 : starEach [a, b] X.env = (false, eval a X.env) :: starEach [b] X.env := by rfl) (he3 : starEach [b] X.env = (false, eval b X.env) :: starEach [] X.env := by rfl) (hpl : (backTo pos (starEach [b] X.env)).any (·.1) = false := by rfl) :
    EV X (.Call (.Name "_law_draw" p) [a, b] [] pos) Γ M (.d (.int (drawD ns st lim))) (M.set k (.lst (stD ns (drawS ns st lim)))) := by
  obtain ⟨f, fd, ps, F, q1, q2, q3⟩ := D.ex
  refine EV.of (pe_call (E := E0) F hr hg q1 q2 q3 .nil pass0 PA.x (by decide) he2 hpl) fun F0 H0 F A H σ Q sh sv q => (EA.cons h1 (EA.one h2 he3) he2) F0 H0 F A H σ _ sh sv fun vs F1 A1 H1 sh1 af1 v1 => ?_
  obtain ⟨v, u, rfl, rv, ru⟩ := pair2 v1
  obtain ⟨ad, e1, rfl⟩ := rv
  obtain ⟨hF, ws, hH, hp⟩ := sh1.own k ad _ e1 hk (by simp)
  refine ⟨ad, F1, st, lim, ws, by rw [ru.int]; rfl, l0, l1, sh1.fh, hF, hH, vr_any hp, fun v F' H' ws' c1 c2 c3 c4 c5 c6 c7 c8 => ?_⟩
  obtain ⟨s2, a2⟩ := sh1.called (mc' := .lst (stD ns (drawS ns st lim))) e1 hk c1 c2 c4 c5 c3 (by rw [c6]; simp) ⟨ws', c6, vr_any c7⟩
  subst c8
  exact q _ F' A1 H' s2 (af1.trans a2) (DR.int _)
end
def stI (ns : List Int) (lim : Int) (st : St3) : Nat → St3
  | 0 => st
  | i + 1 => drawS ns (stI ns lim st i) lim
def sSIGNS : Str := "abABAB12 ( )<.C"
def sgL : List Nat := sSIGNS.cps.toList
theorem sgL_S : (.str sSIGNS : PyData) = T sgL := by simp [sgL, S]
theorem sgL_len : sgL.length = 15 := by decide +kernel
theorem sgL_small : ∀ c ∈ sgL, c < 200 := by decide +kernel
theorem sg_at {d : Int} (h0 : 0 ≤ d) (h1 : d < 15) : atI (S sgL).cps.toList d = some (sgL.getD d.toNat 0) := text_at h0 (by rw [sgL_len]; omega)
theorem getD_mem {xs : List Nat} {i : Nat} (h : i < xs.length) : xs.getD i 0 ∈ xs := by
  rw [List.getD_eq_getElem?_getD, List.getElem?_eq_getElem h]
  exact List.getElem_mem h
/-- the distinct members in order -/
theorem asc_of (vs : List Int) : ∃ r : List Int, r.Pairwise (· < ·) ∧ ∀ k, k ∈ r ↔ k ∈ vs := by
  induction vs with
  | nil => exact ⟨[], .nil, fun k => Iff.rfl⟩
  | cons v vs ih =>
    obtain ⟨r, h1, h2⟩ := ih
    refine ⟨r.filter (· < v) ++ (v :: r.filter (v < ·)), ?_, fun k => ?_⟩
    · rw [List.pairwise_append, List.pairwise_cons]
      refine ⟨h1.filter _, ⟨fun a ha => by simpa using (List.mem_filter.mp ha).2, h1.filter _⟩, fun a ha b hb => ?_⟩
      have ha : a < v := by simpa using (List.mem_filter.mp ha).2
      rcases List.mem_cons.mp hb with q | q
      · omega
      · have : v < b := by simpa using (List.mem_filter.mp q).2
        omega
    · rw [List.mem_append, List.mem_cons, List.mem_filter, List.mem_filter, List.mem_cons, ← h2]
      constructor
      · rintro (q | q | q)
        · exact .inr q.1
        · exact .inl q
        · exact .inr q.1
      · rintro (q | q)
        · exact .inr (.inl q)
        · rcases Int.lt_trichotomy k v with z | z | z
          · exact .inl ⟨q, by simpa using z⟩
          · exact .inr (.inl z)
          · exact .inr (.inr ⟨q, by simpa using z⟩)
theorem ends_ok {r : List Int} {n : Nat} (hr : r.Pairwise (· < ·)) (hb : ∀ k ∈ r, 0 < k ∧ k < n) : EOk n (r.map Int.toNat ++ [n]) := by
  intro i hi
  have hl : (r.map Int.toNat).length = r.length := List.length_map ..
  have get : ∀ j, j < r.length → (r.map Int.toNat ++ [n]).getD j 0 = (r.getD j 0).toNat := fun j hj => by
    rw [List.getD_eq_getElem?_getD, List.getElem?_append_left (by omega), List.getElem?_map, List.getD_eq_getElem?_getD, List.getElem?_eq_getElem hj]; rfl
  have mem : ∀ j, j < r.length → r.getD j 0 ∈ r := fun j hj => by
    rw [List.getD_eq_getElem?_getD, List.getElem?_eq_getElem hj]
    exact List.getElem_mem hj
  rw [List.length_append, hl, List.length_singleton] at hi
  by_cases h : i < r.length
  · rw [get i h]
    have b1 := hb _ (mem i h)
    refine ⟨?_, by omega⟩
    cases i with
    | zero => exact Nat.zero_le _
    | succ i =>
      show (r.map Int.toNat ++ [n]).getD i 0 ≤ _
      rw [get i (by omega)]
      have := List.pairwise_iff_getElem.mp hr i (i + 1) (by omega) h (by omega)
      rw [List.getD_eq_getElem?_getD, List.getElem?_eq_getElem (show i < r.length by omega), List.getD_eq_getElem?_getD, List.getElem?_eq_getElem h]
      show (r[i]).toNat ≤ (r[i + 1]).toNat
      omega
  · have e : i = r.length := by omega
    subst e
    have e1 : (r.map Int.toNat ++ [n]).getD r.length 0 = n := by
      rw [List.getD_eq_getElem?_getD, List.getElem?_append_right (by omega), hl, Nat.sub_self]; rfl
    rw [e1]
    refine ⟨?_, Nat.le_refl _⟩
    cases q : r.length with
    | zero => exact Nat.zero_le _
    | succ m =>
      show (r.map Int.toNat ++ [n]).getD m 0 ≤ _
      rw [get m (by omega)]
      have := hb _ (mem m (by omega))
      omega
/-! ### what is compared is data that can be laid -/
theorem strOk_S {cs : List Nat} (h : ∀ c ∈ cs, c < 1000) : PyData.strOk (S cs) = true := by
  unfold PyData.strOk
  rw [Array.all_eq_true]
  intro i hi
  have : (S cs).cps[i] ∈ cs := by
    simp [S]
  exact decide_eq_true (by have := h _ this; omega)
theorem mirC_small {c : Nat} (h : c < 200) : mirC c < 1000 := by
  unfold mirC
  repeat' split
  all_goals omega
theorem shown_small {cs : List Nat} {lv ks : List Int} (h : ∀ c ∈ cs, c < 200) : ∀ c ∈ shownF cs lv ks, c < 1000 := fun c hc => by
  obtain ⟨k, _, rfl⟩ := List.mem_map.mp hc
  have h2 : cs.getD k.toNat 0 < 200 := by
    by_cases q : k.toNat < cs.length
    · exact h _ (getD_mem q)
    · rw [List.getD_eq_getElem?_getD, List.getElem?_eq_none (by omega)]; decide
  unfold signF
  split
  · exact mirC_small h2
  · omega
theorem ok_runsD {cs : List Nat} {lv : List Int} {size : Int} {rows : List (List Int)} (h : ∀ c ∈ cs, c < 200) (i : Nat) : okD 2 (.tuple (runsF cs lv size rows i)) := okD.tup fun d hd => by
  obtain ⟨j, _, rfl⟩ := List.mem_map.mp hd
  refine okD.tup fun d hd => ?_
  simp only [List.mem_cons, List.not_mem_nil, or_false] at hd
  rcases hd with rfl | rfl | rfl | rfl | rfl
  · exact okD.int _ _
  · exact okD.int _ _
  · exact okD.str _ _ (strOk_S (shown_small h))
  · exact okD.int _ _
  · exact okD.int _ _
theorem ok_rowsD (rows : List (List Int)) : okD 2 (.list (rowsD rows)) := okD.lst fun d hd => by
  obtain ⟨r, _, rfl⟩ := List.mem_map.mp hd
  exact okD.ints _
theorem ok_caretsD (cs : List Nat) (l : List (Int × (Int × Int))) : okD 1 (.tuple (caretsF cs l)) := okD.tup fun d hd => by
  unfold caretsF at hd
  rcases List.mem_append.mp hd with q | q
  · obtain ⟨k, _, rfl⟩ := List.mem_map.mp q; exact okD.int _ _
  · rw [List.mem_singleton.mp q]; exact okD.int _ _
theorem ok_spansD (sp : List (Int × Int)) : okD 2 (.tuple (sp.map tupE)) := okD.tup fun d hd => by
  obtain ⟨r, _, rfl⟩ := List.mem_map.mp hd
  refine okD.tup fun d hd => ?_
  simp only [List.mem_cons, List.not_mem_nil, or_false] at hd
  rcases hd with rfl | rfl <;> exact okD.int _ _
theorem ok_linesD {cs : List Nat} {lv : List Int} {b : Int} {E : List Nat} (h : ∀ c ∈ cs, c < 200) (i : Nat) : okD 1 (.tuple (linesF cs lv b E i)) := okD.tup fun d hd => by
  obtain ⟨j, _, rfl⟩ := List.mem_map.mp hd
  refine okD.str _ _ (strOk_S (shown_small fun c hc => h c ?_))
  unfold segF at hc
  exact List.mem_of_mem_drop (List.mem_of_mem_take hc)
theorem cb_neOO {X : Cx} {M : List MC} (o : Option Int) : CB X .NotEq (.d (oD o)) (.d (oD o)) M false := by
  cases o with
  | none =>
    have h : CB X .NotEq (.d .none) (.d .none) M (!decide ((.non : V) = .non)) := cb_ne (d := .none) (e := .none)
    have e : (!decide ((.non : V) = .non)) = false := by simp
    rw [e] at h
    exact h
  | some i =>
    have h : CB X .NotEq (.d (.int i)) (.d (.int i)) M (!decide (i = i)) := cb_neI
    have e : (!decide (i = i)) = false := by simp
    rw [e] at h
    exact h
/-! ### orders that are wrong -/
theorem turned_bad {cs : List Nat} {b : Int} {a : Nat} {x y : Int} (hx : (ordF cs b)[a]? = some x) (hy : (ordF cs b)[a + 1]? = some y) : ¬ Good (levF cs b) ((ordF cs b).take a ++ [y, x] ++ (ordF cs b).drop (a + 2)) cs.length := by
  intro G
  have G0 := ord_good cs b
  have nd := order_nodup (levF cs b)
  have mx := order_mem.mp (List.mem_of_getElem? hx)
  have my := order_mem.mp (List.mem_of_getElem? hy)
  rw [lev_len] at mx my
  have hl := lt_of_get hx
  obtain ⟨x, rfl⟩ := Int.eq_ofNat_of_zero_le mx.1
  obtain ⟨y, rfl⟩ := Int.eq_ofNat_of_zero_le my.1
  have k1 : ((ordF cs b).take a ++ [((y : Nat) : Int), ((x : Nat) : Int)] ++ (ordF cs b).drop (a + 2))[a]? = some ((y : Nat) : Int) := by
    rw [List.append_assoc, List.getElem?_append_right (by rw [List.length_take]; omega), List.length_take, Nat.min_eq_left (by omega), Nat.sub_self]; rfl
  have k2 : ((ordF cs b).take a ++ [((y : Nat) : Int), ((x : Nat) : Int)] ++ (ordF cs b).drop (a + 2))[a + 1]? = some ((x : Nat) : Int) := by
    rw [List.append_assoc, List.getElem?_append_right (by rw [List.length_take]; omega), List.length_take, Nat.min_eq_left (by omega), Nat.add_sub_cancel_left]; rfl
  have hne : x ≠ y := fun q => by
    subst q
    obtain ⟨a1, a2⟩ := List.getElem?_eq_some_iff.mp hx
    obtain ⟨b1, b2⟩ := List.getElem?_eq_some_iff.mp hy
    have := (List.getElem_inj nd).mp (a2.trans b2.symm)
    omega
  rcases Nat.lt_or_gt_of_ne hne with q | q
  · have h1 := G0.2 x y q (by omega) a (a + 1) hx hy
    have h2 := G.2 x y q (by omega) (a + 1) a k2 k1
    have := h2.mpr (h1.mp (by omega))
    omega
  · have h1 := G0.2 y x q (by omega) (a + 1) a hy hx
    have h2 := G.2 y x q (by omega) a (a + 1) k1 k2
    have := h1.mpr (h2.mp (by omega))
    omega
theorem short_bad {lv ks : List Int} {n : Nat} (h : ks.length ≠ n) : ¬ Good lv ks n := fun G => h (srt_lenE G.1)
theorem dup_bad {lv ks : List Int} {n p q : Nat} {x : Int} (hp : ks[p]? = some x) (hq : ks[q]? = some x) (h : p ≠ q) : ¬ Good lv ks n := fun G => by
  have nd := srt_nodup G.1
  obtain ⟨a1, a2⟩ := List.getElem?_eq_some_iff.mp hp
  obtain ⟨b1, b2⟩ := List.getElem?_eq_some_iff.mp hq
  exact h ((List.getElem_inj nd).mp (a2.trans b2.symm))
end K32

set_option Elab.async false
set_option maxRecDepth 100000
set_option maxHeartbeats 1000000
set_option linter.all false
namespace K32
open PySem PySem.Spec L2 DV
abbrev rLaw (ns : List Int) : List PyData → PyData → Prop := fun ds r => ds = [.list (ns.map .int)] ∧ r = .bool true
structure All (P : Program) (w : World) (K : PySem.W.Frag) (mg : Str → Option Value) (base : Heap) (k : Nat) (ns : List Int) : Prop where
  way : DefR P w K mg base k "way_of" rWay
  lway : DefR P w K mg base k "_law_way" rWay
  baseD : DefR P w K mg base k "base_of" rBase
  lev : DefR P w K mg base k "levels_of" rLev
  levL : DefR P w K mg base k "_law_levels" rLevL
  ord : DefR P w K mg base k "order_of" rOrd
  ordL : DefR P w K mg base k "_law_order" rOrd
  sig : DefR P w K mg base k "_law_signs" rSig
  shown : DefR P w K mg base k "shown_line" rShown
  rows : DefR P w K mg base k "rows_of" rRows
  rowsL : DefR P w K mg base k "_law_rows" rRowsL
  runs : DefR P w K mg base k "runs_of" rRuns
  runsL : DefR P w K mg base k "_law_runs" rRunsL
  car : DefR P w K mg base k "caret_edges" rCar
  ps : DefR P w K mg base k "place_shown" rPS
  pt : DefR P w K mg base k "place_told" rPT
  span : DefR P w K mg base k "spans_shown" rSpan
  jud : DefR P w K mg base k "judge_order" rJud
  brk : DefR P w K mg base k "broken" rBrk
  brkL : DefR P w K mg base k "_law_broken" rBrkL
  out : DefR P w K mg base k "_law_outside" rOutL
  draw : DrawR P w K mg base k ns
/-- the draw, its values not unfolded -/
structure Dr (ns : List Int) (dD : St3 → Int → Int) (dS : St3 → Int → St3) (enc : St3 → List AV) : Prop where
  d : dD = drawD ns
  s : dS = drawS ns
  e : enc = stD ns
theorem Dr.inn {ns : List Int} {dD : St3 → Int → Int} {dS : St3 → Int → St3} {enc : St3 → List AV} (G : Dr ns dD dS enc) (st : St3) {lim : Int} (h : 0 < lim) : 0 ≤ dD st lim ∧ dD st lim < lim := by rw [G.d]; exact draw_in ns st h
section
variable {X : Cx} {a b : Expr} {Γ : Gam} {M M1 : List MC} {p pos : Pos} {ns : List Int} {dD : St3 → Int → Int} {dS : St3 → Int → St3} {enc : St3 → List AV}
theorem EV.drawG {lvl k : Nat} {lim : Int} (G : Dr ns dD dS enc) (st : St3) (h1 : EV X a Γ M (.m k) M) (h2 : EV X b Γ M (.d (.int lim)) M) (hk : M[k]? = some (.lst (enc st))) (hM : M.set k (.lst (enc (dS st lim))) = M1) (D : DrawR X.prog X.w X.K X.mg X.base lvl ns) (hr : Room lvl X.A) (l0 : 0 < lim) (l1 : lim < 1000) (hg : Gl X "_law_draw" := by rfl)
    (he2 : starEach [a, b] X.env = (false, eval a X.env) :: starEach [b] X.env := by rfl) (he3 : starEach [b] X.env = (false, eval b X.env) :: starEach [] X.env := by rfl) (hpl : (backTo pos (starEach [b] X.env)).any (·.1) = false := by rfl) :
    EV X (.Call (.Name "_law_draw" p) [a, b] [] pos) Γ M (.d (.int (dD st lim))) M1 := by
  subst hM
  obtain ⟨rfl, rfl, rfl⟩ := G
  exact EV.draw D hr h1 h2 hk l0 l1 hg he2 he3 hpl
end
def stG (dS : St3 → Int → St3) (lim : Int) (st : St3) : Nat → St3
  | 0 => st
  | i + 1 => dS (stG dS lim st i) lim
section
variable {P : Program} {w : World} {K : PySem.W.Frag} {mg : Str → Option Value} {base : Heap}
abbrev sLaw : Stmt := top 40
abbrev nLaw : List Str := ["script", "state", "signs", "k", "text", "base", "levels", "order", "letters", "rows", "size", "runs", "carets", "low", "high", "spans", "at", "turned", "ends", "sign", "end"]
theorem scLaw : FnScope nLaw ["script"] (defScope sLaw) := ⟨rfl, rfl, rfl, by decide +kernel, rfl, by decide +kernel, by decide +kernel⟩
abbrev lawX (P : Program) (w : World) (K : PySem.W.Frag) (mg : Str → Option Value) (base : Heap) (f : Addr) (cdv : Value) (A : Around) (outer : List Env) (s : Shared) (H : Hp) (E : XK) : Cx := defX P w K mg base nLaw "law" sLaw f cdv A outer s H E
abbrev lawD : AD := { nx := fun _ _ => (PyData.bool true) = .none, rt := fun x _ => x = .d (.bool true) }
variable {f : Addr} {cdv : Value} {A : Around} {outer : List Env} {s : Shared} {H : Hp} {E : XK} {k : Nat} {ns : List Int} {dD : St3 → Int → Int} {dS : St3 → Int → St3} {enc : St3 → List AV}
theorem law_c (Tx : Txt K mg) (mset : mg "set" = none) (G : Dr ns dD dS enc) (D : All P w K mg base k ns) (hr : Room k (A.deeper (PyProof.Rows.envOfC "law" (defScope sLaw) s.heap.objs.size f cdv))) {cs : List Nat} {b : Int} (hb : b = 0 ∨ b = 1) (hlen : cs.length ≤ 16) (hsm : ∀ c ∈ cs, c < 200) (st0 : St3) {e0 e2 e3 e8 e9 e10 e11 e12 e13 e14 e15 e16 e17 e18 : Option AV} {gs : List MC} :
    SX (lawX P w K mg base f cdv A outer s H E) ((defBody sLaw).drop 19) [e0, some (.m 0), e2, e3, some (.d (T cs)), some (.d (.int b)), some (.d (.list ((levF cs b).map .int))), some (.d (.list ((ordF cs b).map .int))), e8, e9, e10, e11, e12, e13, e14, e15, e16, e17, e18, none, none] (.lst (enc st0) :: gs) lawD := by
  have hlen9 : cs.length ≤ 900 := by omega
  obtain ⟨m0, m1⟩ := G.inn st0 (lim := 4) (by omega)
  generalize hml : dD st0 4 = ml at m0 m1
  generalize hst1 : dS st0 4 = st1
  generalize hvs : (List.range ml.toNat).map (fun i => dD (stG dS ((cs.length : Nat) + 1) st1 i) ((cs.length : Nat) + 1)) = vs
  have hvl : vs.length ≤ 60 := by rw [← hvs]; simp; omega
  obtain ⟨r, r1, r2⟩ := asc_of vs
  have hrl : r.length ≤ vs.length := by
    have n1 : r.Nodup := r1.imp (fun h => Int.ne_of_lt h)
    exact n1.length_le_of_subset fun x hx => (r2 x).mp hx
  refine SX.asg 18 scLaw.nd (x := .d (.list (r.map .int))) (M1 := .lst (enc (stG dS ((cs.length : Nat) + 1) st1 ml.toNat)) :: gs) ?_ ?_
  · have hdl : ((rg ml.toNat).map PyData.int).length = ml.toNat := by rw [List.length_map, rg_len]
    refine EV.sortedSet (ns := vs) (x := .d (.list (vs.map .int))) rfl Tx.sorted mset ?_ lst_frz hvl r1 r2
    have hx : vs.map PyData.int = (List.range ml.toNat).map (fun i => PyData.int (dD (stG dS ((cs.length : Nat) + 1) st1 i) ((cs.length : Nat) + 1))) := by rw [← hvs, List.map_map]; rfl
    rw [hx, ← hdl]
    refine (LC.lc (own := [("k", 3)]) rfl scLaw.nd (by show blkC nLaw (defScope sLaw) _ _ = true; decide +kernel) (IV.rg1 (i := ml) Tx.range ((EV.drawG G st0 (EV.var 1) EV.int rfl rfl D.draw hr (by omega) (by omega)).cast (by rw [hml])) (by omega) (by omega))
        (fun i => .lst (enc (stG dS ((cs.length : Nat) + 1) st1 i)) :: gs) (fun i => PyData.int (dD (stG dS ((cs.length : Nat) + 1) st1 i) ((cs.length : Nat) + 1))) (by rw [hst1]; rfl) (by rw [hdl]; exact small_le (by omega)) (fun i d hd => ?_)).ev
    refine ⟨[e0, some (.m 0), e2, some (.d d), some (.d (T cs)), some (.d (.int b)), some (.d (.list ((levF cs b).map .int))), some (.d (.list ((ordF cs b).map .int))), e8, e9, e10, e11, e12, e13, e14, e15, e16, e17, e18, none, none], [3], by decide, fun s H C cl fp => TV.name 3 scLaw.nd, fun s H C cl fp => ?_⟩
    exact EV.drawG (k := 0) G (stG dS ((cs.length : Nat) + 1) st1 i) (EV.var 1) (EV.add (EV.lenC Tx.len (EV.var 4) (by omega)) EV.int) rfl rfl D.draw hr (by omega) (by omega)
  generalize stG dS ((cs.length : Nat) + 1) st1 ml.toNat = st2
  -- the inner ends
  generalize hr2 : (r.filter fun (k : Int) => decide (0 < k) && decide (k < ((cs.length : Nat) : Int))) = rf
  have hrf : ∀ k ∈ rf, 0 < k ∧ k < cs.length := fun k hk => by
    rw [← hr2] at hk
    simpa using (List.mem_filter.mp hk).2
  have hrp : rf.Pairwise (· < ·) := by rw [← hr2]; exact r1.filter _
  have hrfl : rf.length ≤ 900 := by
    have := List.length_filter_le (fun (k : Int) => decide (0 < k) && decide (k < ((cs.length : Nat) : Int))) r
    rw [hr2] at this
    omega
  have hes : (rf.map Int.toNat).map iD = rf.map PyData.int := by
    rw [List.map_map]
    refine List.map_congr_left fun k hk => ?_
    show PyData.int ((k.toNat : Nat) : Int) = _
    rw [Int.toNat_of_nonneg (by have := hrf k hk; omega)]
  refine SX.asgLc 18 (x := .d (.list ((rf.map Int.toNat).map iD))) (M1 := .lst (enc st2) :: gs) ?_ ?_
  · refine LC.cast (LC.lcFilter (as := r) (enc := .int) .int (fun (k : Int) => decide (0 < k) && decide (k < ((cs.length : Nat) : Int))) rfl scLaw.nd (own := [("end", 20)]) (by show blkC nLaw (defScope sLaw) _ _ = true; decide +kernel)
      (IV.list (EV.var 18)) (small_le (by omega))
      (fun k => [e0, some (.m 0), e2, e3, some (.d (T cs)), some (.d (.int b)), some (.d (.list ((levF cs b).map .int))), some (.d (.list ((ordF cs b).map .int))), e8, e9, e10, e11, e12, e13, e14, e15, e16, e17, some (.d (.list (r.map .int))), none, some (.d (.int k))]) [20] (by decide)
      (fun o _ s H C cl fp => TV.name 20 scLaw.nd) (fun o _ s H C cl fp => ET.chain EV.int (EV.var 20) cb_lt (fun _ => EV.lenC Tx.len (EV.var 4) (by omega)) cb_lt)
      (fun o _ _ s H C cl fp => EV.var 20)) (by rw [hr2, hes])
  have hE : EOk cs.length (rf.map Int.toNat ++ [cs.length]) := ends_ok hrp (fun k hk => by have := hrf k hk; omega)
  have hel : (rf.map Int.toNat).length ≤ 900 := by rw [List.length_map]; exact hrfl
  generalize rf.map Int.toNat = es at hE hel
  refine SX.when (q := false) (ET.cmp (EV.call D.brk hr (EA.cons (EV.var 4) (EA.cons (EV.var 5) (EA.one (EV.var 18)))) rfl ⟨cs, b, es, rfl, hlen9, hel, hb, hE, rfl⟩)
    (EV.call D.brkL hr (EA.cons (EV.var 4) (EA.cons (EV.var 5) (EA.cons (EV.var 6) (EA.one (EV.var 18))))) rfl ⟨cs, b, levF cs b, es, rfl, hlen9, lev_len cs b, lev_in2, hel, hb, hE, rfl⟩) (cb_neSame hr (ok_linesD hsm _)) rfl) (fun e => by cases e) (fun _ => ?_)
  exact SX.ret (EV.call D.out hr (EA.cons (EV.var 4) (EA.one (EV.var 5))) rfl ⟨cs, b, rfl, hlen9, rfl⟩) rfl
end
end K32

set_option Elab.async false
set_option maxRecDepth 100000
set_option maxHeartbeats 1000000
set_option linter.all false
namespace K32
open PySem PySem.Spec L2 DV
theorem sel_succ (ks : List Int) (low high : Int) (i : Nat) : selF ks low high (i + 1) = if selB ks low high i = true then selF ks low high i ++ [(i : Int)] else selF ks low high i := by
  unfold selF
  rw [rg_succ, List.filter_append]
  by_cases h : selB ks low high i = true
  · rw [if_pos h]; simp [h]
  · rw [if_neg h]; simp [h]
def segF' (ks : List Int) : List Int := (ks.drop 1).take (2 - 1)
section
variable {P : Program} {w : World} {K : PySem.W.Frag} {mg : Str → Option Value} {base : Heap}
variable {f : Addr} {cdv : Value} {A : Around} {outer : List Env} {s : Shared} {H : Hp} {E : XK} {k : Nat} {ns : List Int} {dD : St3 → Int → Int} {dS : St3 → Int → St3} {enc : St3 → List AV}
theorem law_b2 (Tx : Txt K mg) (mset : mg "set" = none) (G : Dr ns dD dS enc) (D : All P w K mg base k ns) (hr : Room k (A.deeper (PyProof.Rows.envOfC "law" (defScope sLaw) s.heap.objs.size f cdv))) {cs : List Nat} {b : Int} (hb : b = 0 ∨ b = 1) (hlen : cs.length ≤ 16) (hsm : ∀ c ∈ cs, c < 200) (st0 : St3) {low high : Int} {e0 e2 e3 e8 e9 e10 e11 e12 e16 e17 e18 : Option AV} :
    SX (lawX P w K mg base f cdv A outer s H E) ((defBody sLaw).drop 17) [e0, some (.m 0), e2, e3, some (.d (T cs)), some (.d (.int b)), some (.d (.list ((levF cs b).map .int))), some (.d (.list ((ordF cs b).map .int))), e8, e9, e10, e11, e12, some (.d (.int low)), some (.d (.int high)), some (.m 1), e16, e17, e18, none, none] [.lst (enc st0), .lst (((spansOf (selF (ordF cs b) low high cs.length)).map tupE).map .d)] lawD := by
  have hlen9 : cs.length ≤ 900 := by omega
  have hol := ord_len cs b
  have ol : ∀ {M}, lstOf M (.d (.list ((ordF cs b).map .int))) = some ((ordF cs b).map fun n => AV.d (.int n)) := lst_frz
  refine SX.when (q := false) (ET.or (p := false) (q := false) (ET.cmp (EV.call D.span hr (EA.cons (EV.var 4) (EA.cons (EV.var 5) (EA.cons (EV.var 13) (EA.one (EV.var 14))))) rfl ⟨cs, b, low, high, rfl, hlen9, rfl⟩) (EV.tupleL Tx.tuple (EV.var 15) rfl) (cb_neSame hr (ok_spansD _)) rfl)
    (fun _ => EW.or1 ((ET.cmp (EV.call D.jud hr (EA.cons (EV.var 4) (EA.cons (EV.var 5) (EA.one (EV.var 7)))) rfl ⟨cs, b, ordF cs b, true, rfl, hlen9, by omega, ⟨fun _ => ord_good cs b, fun _ => rfl⟩, rfl⟩) EV.bl cb_notB rfl).cast (by rfl)))) (fun e => by cases e) (fun _ => ?_)
  refine SX.when (ET.cmp (EV.lenL Tx.len (EV.var 7) ol) EV.int cb_gt rfl) (fun e => ?_) (fun e => law_c Tx mset G D hr hb hlen hsm st0)
  have e := of_decide_eq_true e
  rw [List.length_map] at e
  obtain ⟨a0, a1⟩ := G.inn st0 (lim := ((ordF cs b).length : Nat) - 1) (by omega)
  refine SX.asg 16 scLaw.nd (EV.drawG (k := 0) G st0 (EV.var 1) (EV.sub ((EV.lenL Tx.len (EV.var 7) ol).cast (by rw [List.length_map])) EV.int) rfl rfl D.draw hr (by omega) (by omega)) ?_
  generalize dS st0 (((ordF cs b).length : Nat) - 1) = st1
  generalize dD st0 (((ordF cs b).length : Nat) - 1) = at' at a0 a1
  obtain ⟨a, rfl⟩ := Int.eq_ofNat_of_zero_le a0
  obtain ⟨x, hx⟩ : ∃ x, (ordF cs b)[a]? = some x := ⟨_, List.getElem?_eq_getElem (by omega)⟩
  obtain ⟨y, hy⟩ : ∃ y, (ordF cs b)[a + 1]? = some y := ⟨_, List.getElem?_eq_getElem (by omega)⟩
  have tb := turned_bad hx hy
  have hdl : ((ordF cs b).drop 1).length = cs.length - 1 := by rw [List.length_drop]; omega
  obtain ⟨z, hz⟩ : ∃ z, (ordF cs b)[1]? = some z := ⟨_, List.getElem?_eq_getElem (by omega)⟩
  have hseg : segF' (ordF cs b) = [z] := by
    unfold segF'
    obtain ⟨z1, z2⟩ := List.getElem?_eq_some_iff.mp hz
    rw [List.drop_eq_getElem_cons z1, ← z2]
    rfl
  have db : ¬ Good (levF cs b) ((ordF cs b).drop 1 ++ [z]) cs.length := dup_bad (p := 0) (q := cs.length - 1) (x := z) (by rw [List.getElem?_append_left (by omega), List.getElem?_drop]; exact hz) (by rw [List.getElem?_append_right (by omega), hdl, Nat.sub_self]; rfl) (by omega)
  have sb : ¬ Good (levF cs b) ((ordF cs b).drop 1) cs.length := short_bad (by omega)
  have no : ∀ {ks : List Int}, ¬ Good (levF cs b) ks cs.length → (false = true ↔ Good (levF cs b) ks cs.length) := fun h => ⟨fun q => Bool.noConfusion q, fun g => absurd g h⟩
  refine SX.asg 17 scLaw.nd (x := .d (.list (((ordF cs b).take a ++ [y, x] ++ (ordF cs b).drop (a + 2)).map .int))) (M1 := [.lst (enc st1), .lst (((spansOf (selF (ordF cs b) low high cs.length)).map tupE).map .d)]) ?_ ?_
  · refine EV.cast (EV.cat (ds := ((ordF cs b).take a).map .int ++ [.int y, .int x]) (es' := ((ordF cs b).drop (a + 2)).map .int)
      (EV.cat (ds := ((ordF cs b).take a).map .int) (es' := [.int y, .int x]) ((EV.slL (ds := (ordF cs b).map .int) (EV.var 7) EO.none (EO.some (EV.var 16)) rfl).cast (by rw [cutG_map, cut_take]))
        (EV.lst (ds := [.int y, .int x]) (EA.cons (EV.ixL (EV.var 7) (EV.add (EV.var 16) EV.int) ol (at_cell (atI_nat (j := a + 1) hy))) (EA.one (EV.ixL (EV.var 7) (EV.var 16) ol (at_cell (atI_nat (j := a) hx))))) (by simp [sizeLine_eq])) rfl rfl (by simp; exact small_le (by omega)))
      ((EV.slL (ds := (ordF cs b).map .int) (EV.var 7) (EO.some (EV.add (EV.var 16) EV.int)) EO.none rfl).cast (by rw [cutG_map, show ((a : Nat) : Int) + 2 = ((a + 2 : Nat) : Int) by omega, cut_drop])) rfl rfl (by simp; exact small_le (by omega))) ?_
    simp
  refine SX.when (q := false) (ET.or (p := false) (q := false) ((ET.cmp (EV.call D.jud hr (EA.cons (EV.var 4) (EA.cons (EV.var 5) (EA.one (EV.var 17)))) rfl ⟨cs, b, (ordF cs b).take a ++ [y, x] ++ (ordF cs b).drop (a + 2), false, rfl, hlen9, by simp only [List.length_append, List.length_take, List.length_drop, List.length_cons, List.length_nil]; omega, no tb, rfl⟩) EV.bl cb_notB rfl).cast (by rfl))
    (fun _ => EW.orC (p := false) (q := false) ((ET.cmp (EV.call D.jud hr (EA.cons (EV.var 4) (EA.cons (EV.var 5) (EA.one ((EV.slL (ds := (ordF cs b).map .int) (EV.var 7) (EO.some EV.int) EO.none rfl).cast (y := .d (.list (((ordF cs b).drop 1).map .int))) (by rw [cutG_map]; exact congrArg (fun l : List Int => AV.d (.list (l.map .int))) (cut_drop (ordF cs b) 1)))))) rfl ⟨cs, b, (ordF cs b).drop 1, false, rfl, hlen9, by omega, no sb, rfl⟩) EV.bl cb_notB rfl).cast (by rfl))
      (fun _ => EW.or1 ((ET.cmp (EV.call D.jud hr (EA.cons (EV.var 4) (EA.cons (EV.var 5) (EA.one ((EV.cat (ds := ((ordF cs b).drop 1).map .int) (es' := [.int z])
        ((EV.slL (ds := (ordF cs b).map .int) (EV.var 7) (EO.some EV.int) EO.none rfl).cast (y := .d (.list (((ordF cs b).drop 1).map .int))) (by rw [cutG_map]; exact congrArg (fun l : List Int => AV.d (.list (l.map .int))) (cut_drop (ordF cs b) 1)))
        ((EV.slL (ds := (ordF cs b).map .int) (EV.var 7) (EO.some EV.int) (EO.some EV.int) rfl).cast (y := .d (.list [.int z])) (by rw [cutG_map]; exact congrArg (fun l : List Int => AV.d (.list (l.map .int))) ((cut_nat (ordF cs b) 1 2 (by omega)).trans hseg))) rfl rfl (by simp; exact small_le (by omega))).cast (y := .d (.list (((ordF cs b).drop 1 ++ [z]).map .int))) (by rw [List.map_append]; rfl))))) rfl ⟨cs, b, (ordF cs b).drop 1 ++ [z], false, rfl, hlen9, by rw [List.length_append, List.length_singleton]; omega, no db, rfl⟩) EV.bl cb_notB rfl).cast (by rfl))))) (fun e => by cases e) (fun _ => ?_)
  exact SX.nil (law_c Tx mset G D hr hb hlen hsm st1)
end
end K32

set_option Elab.async false
set_option maxRecDepth 100000
set_option maxHeartbeats 1000000
set_option linter.all false
namespace K32
open PySem PySem.Spec L2 DV
section
variable {P : Program} {w : World} {K : PySem.W.Frag} {mg : Str → Option Value} {base : Heap}
variable {f : Addr} {cdv : Value} {A : Around} {outer : List Env} {s : Shared} {H : Hp} {E : XK} {k : Nat} {ns : List Int} {dD : St3 → Int → Int} {dS : St3 → Int → St3} {enc : St3 → List AV}
theorem law_b1 (Tx : Txt K mg) (mset : mg "set" = none) (G : Dr ns dD dS enc) (D : All P w K mg base k ns) (hr : Room k (A.deeper (PyProof.Rows.envOfC "law" (defScope sLaw) s.heap.objs.size f cdv))) {cs : List Nat} {b : Int} (hb : b = 0 ∨ b = 1) (hlen : cs.length ≤ 16) (hsm : ∀ c ∈ cs, c < 200) (st0 : St3) {e0 e2 e3 e8 e9 e10 e11 e12 e13 e14 e15 e16 e17 e18 : Option AV} :
    SX (lawX P w K mg base f cdv A outer s H E) ((defBody sLaw).drop 13) [e0, some (.m 0), e2, e3, some (.d (T cs)), some (.d (.int b)), some (.d (.list ((levF cs b).map .int))), some (.d (.list ((ordF cs b).map .int))), e8, e9, e10, e11, e12, e13, e14, e15, e16, e17, e18, none, none] [.lst (enc st0)] lawD := by
  have hlen9 : cs.length ≤ 900 := by omega
  have hol := ord_len cs b
  have ol : ∀ {M}, lstOf M (.d (.list ((ordF cs b).map .int))) = some ((ordF cs b).map fun n => AV.d (.int n)) := lst_frz
  obtain ⟨l0, l1⟩ := G.inn st0 (lim := (cs.length : Nat) + 1) (by omega)
  refine SX.asg 13 scLaw.nd (EV.drawG (k := 0) G st0 (EV.var 1) (EV.add (EV.lenC Tx.len (EV.var 4) (by omega)) EV.int) rfl rfl D.draw hr (by omega) (by omega)) ?_
  generalize dS st0 ((cs.length : Nat) + 1) = st1
  generalize dD st0 ((cs.length : Nat) + 1) = low at l0 l1
  refine SX.asg 14 scLaw.nd (EV.add (EV.var 13) (EV.drawG (k := 0) G st1 (EV.var 1) (EV.add (EV.sub (EV.lenC Tx.len (EV.var 4) (by omega)) (EV.var 13)) EV.int) rfl rfl D.draw hr (by omega) (by omega))) ?_
  generalize dS st1 ((cs.length : Nat) - low + 1) = st2
  generalize low + dD st1 ((cs.length : Nat) - low + 1) = high
  refine SX.asg 15 scLaw.nd (EV.lstM EA.nil (by decide)) ?_
  refine SX.to (M2 := [.lst (enc st2), .lst (((spansOf (selF (ordF cs b) low high 0)).map tupE).map .d)]) rfl rfl ?_
  refine SX.for .never rfl (IV.rgN (n := cs.length) Tx.range ((EV.lenL Tx.len (EV.var 7) ol).cast (by rw [List.length_map, hol])) (by omega)) (fun i Γ' M' => ∃ e3, Γ' = [e0, some (.m 0), e2, e3, some (.d (T cs)), some (.d (.int b)), some (.d (.list ((levF cs b).map .int))), some (.d (.list ((ordF cs b).map .int))), e8, e9, e10, e11, e12, some (.d (.int low)), some (.d (.int high)), some (.m 1), e16, e17, e18, none, none] ∧ M' = [.lst (enc st2), .lst (((spansOf (selF (ordF cs b) low high i)).map tupE).map .d)]) ⟨_, rfl, rfl⟩ ?_ ?_
  · rintro i d Γ' M' hd ⟨e3, rfl, rfl⟩
    obtain ⟨hi, rfl⟩ := rg_inv hd
    refine ⟨_, _, TV.name 3 scLaw.nd, ?_⟩
    have hk : (ordF cs b)[i]? = some ((ordF cs b).getD i 0) := by rw [List.getD_eq_getElem?_getD, List.getElem?_eq_getElem (by omega)]; rfl
    have hnext := sel_succ (ordF cs b) low high i
    have hcnt := spans_cnt (selF (ordF cs b) low high i)
    have hsl := sel_len (ordF cs b) low high i
    refine SX.ite (q := selB (ordF cs b) low high i) ((ET.chain (EV.var 13) (EV.ixL (EV.var 7) (EV.var 3) ol (at_cell (atI_nat hk))) cb_le (fun _ => EV.var 14) cb_lt).cast rfl) (fun q => ?_) (fun q => ?_)
    · rw [q, if_pos rfl] at hnext
      rw [hnext, spans_snoc]
      generalize selF (ordF cs b) low high i = ks at hcnt hsl
      rcases snoc_cases (spansOf ks) with h | ⟨sp, ⟨a, e⟩, h⟩
      · rw [h, addSp_nil]
        refine SX.ite (ET.and (ET.cmp (EV.lenL Tx.len (EV.var 15) rfl) EV.int cb_gt rfl) (q := false) (fun q => by cases q)) (fun q => by cases q) (fun _ => ?_)
        exact SX.app0 (EV.var 15) rfl (EV.tup (ds := [.int (i : Nat), .int ((i : Nat) + 1)]) (EA.cons (EV.var 3) (EA.one (EV.add (EV.var 3) EV.int))) (by simp [sizeLine_eq])) (by simp [sizeLine_eq]) (SX.nil (SX.nil (SX.nil ⟨_, rfl, rfl⟩)))
      · rw [h] at hcnt ⊢
        rw [addSp_snoc]
        have hz1 : atI (((sp ++ [(a, e)]).map tupE).map AV.d) (-1) = some (.d (.tuple [.int a, .int e])) := by rw [List.map_append, List.map_append]; exact at_last _ _
        refine SX.ite (q := decide (e = (i : Int))) ((ET.and (ET.cmp (EV.lenL Tx.len (EV.var 15) rfl) EV.int cb_gt rfl) (fun _ => EW.and1 (ET.cmp (EV.ixT (z := .d (.int e)) (EV.ixL (EV.var 15) (EV.neg EV.int) rfl hz1) EV.int rfl rfl) (EV.var 3) cb_eqI rfl))).cast ?_) (fun q => ?_) (fun q => ?_)
        · have : decide ((0 : Int) < ((((sp ++ [(a, e)]).map tupE).map AV.d).length : Nat)) = true := decide_eq_true (by simp)
          rw [this]; rfl
        · have q := of_decide_eq_true q
          rw [if_pos q]
          refine SX.setL (l := sp.length) (EV.tup (ds := [.int a, .int ((i : Nat) + 1)]) (EA.cons (EV.ixT (z := .d (.int a)) (EV.ixL (EV.var 15) (EV.neg EV.int) rfl hz1) EV.int rfl rfl) (EA.one (EV.add (EV.var 3) EV.int))) (by simp [sizeLine_eq])) (EV.var 15) (EV.neg EV.int) rfl ?_ (SX.nil (SX.nil (SX.nil ⟨_, rfl, ?_⟩)))
          · unfold ixN
            rw [if_neg (by omega), if_pos (by simp; omega)]
            congr 1
            simp
            omega
          · simp
        · have q := of_decide_eq_false q
          rw [if_neg q]
          exact SX.app0 (EV.var 15) rfl (EV.tup (ds := [.int (i : Nat), .int ((i : Nat) + 1)]) (EA.cons (EV.var 3) (EA.one (EV.add (EV.var 3) EV.int))) (by simp [sizeLine_eq])) (by rw [List.length_map, List.length_map]; exact small_lt (by omega)) (SX.nil (SX.nil (SX.nil ⟨_, rfl, by simp⟩)))
    · rw [q, if_neg (by simp)] at hnext
      rw [hnext]
      exact SX.nil (SX.nil ⟨_, rfl, rfl⟩)
  · rintro Γ' M' ⟨e3, rfl, rfl⟩
    rw [List.length_map, rg_len]
    exact law_b2 Tx mset G D hr hb hlen hsm st2
theorem law_a2 (Tx : Txt K mg) (mset : mg "set" = none) (G : Dr ns dD dS enc) (D : All P w K mg base k ns) (hr : Room k (A.deeper (PyProof.Rows.envOfC "law" (defScope sLaw) s.heap.objs.size f cdv))) {cs : List Nat} {b : Int} (hb : b = 0 ∨ b = 1) (hlen : cs.length ≤ 16) (hsm : ∀ c ∈ cs, c < 200) (st0 : St3) {e0 e2 e3 e8 e9 e10 e11 e12 e13 e14 e15 e16 e17 e18 : Option AV} :
    SX (lawX P w K mg base f cdv A outer s H E) ((defBody sLaw).drop 8) [e0, some (.m 0), e2, e3, some (.d (T cs)), some (.d (.int b)), some (.d (.list ((levF cs b).map .int))), some (.d (.list ((ordF cs b).map .int))), e8, e9, e10, e11, e12, e13, e14, e15, e16, e17, e18, none, none] [.lst (enc st0)] lawD := by
  have hlen9 : cs.length ≤ 900 := by omega
  have hol := ord_len cs b
  have hll := lev_len cs b
  have ol : ∀ {M}, lstOf M (.d (.list ((ordF cs b).map .int))) = some ((ordF cs b).map fun n => AV.d (.int n)) := lst_frz
  refine SX.asg 9 scLaw.nd (EV.call D.rowsL hr (EA.cons (EV.var 6) (EA.one (EV.var 7))) rfl ⟨levF cs b, ordF cs b, rfl, fun k hk => order_mem.mp hk, by omega, rfl⟩) ?_
  obtain ⟨z0, z1⟩ := G.inn st0 (lim := 2) (by omega)
  refine SX.asg 10 scLaw.nd (EV.add EV.int (EV.drawG (k := 0) G st0 (EV.var 1) EV.int rfl rfl D.draw hr (by omega) (by omega))) ?_
  generalize dS st0 2 = st1
  generalize hsz : 1 + dD st0 2 = size
  have s0 : 0 < size := by omega
  have s1 : size ≤ 10 := by omega
  refine SX.asgT (EV.call D.runsL hr (EA.cons (EV.var 4) (EA.cons (EV.var 6) (EA.cons (EV.var 9) (EA.cons EV.str (EA.one (EV.var 10)))))) rfl ⟨cs, levF cs b, size, rfl, hlen9, hll, s0, s1, rfl⟩) (TV.tup rfl (TVS.cons (TV.name 11 scLaw.nd) (TVS.cons (TV.name 12 scLaw.nd) TVS.nil))) ?_
  refine SX.when (q := false) (ET.or (p := false) (q := false) ((ET.cmp (EV.call D.shown hr (EA.cons (EV.var 4) (EA.one (EV.var 5))) rfl ⟨cs, b, rfl, hlen9, rfl⟩) (EV.call D.sig hr (EA.cons (EV.var 4) (EA.cons (EV.var 6) (EA.one (EV.var 7)))) rfl ⟨cs, levF cs b, ordF cs b, rfl, hlen9, by omega, fun k hk => by have := order_mem.mp hk; omega, rfl⟩) cb_neS rfl).cast (by simp))
    (fun _ => EW.orC (p := false) (q := false) (ET.cmp (EV.call D.rows hr (EA.one (EV.var 6)) rfl ⟨levF cs b, rfl, lev_in2, by omega, rfl⟩) (EV.var 9) (cb_neSame hr (ok_rowsD _)) rfl)
      (fun _ => EW.orC (p := false) (q := false) (ET.cmp (EV.call D.runs hr (EA.cons (EV.var 4) (EA.cons (EV.var 5) (EA.cons EV.str (EA.one (EV.var 10))))) rfl ⟨cs, b, size, rfl, hlen9, s0, s1, rfl⟩) (EV.var 11) (cb_neSame hr (ok_runsD hsm _)) rfl)
        (fun _ => EW.or1 (ET.cmp (EV.call D.car hr (EA.cons (EV.var 4) (EA.cons (EV.var 5) (EA.cons EV.str (EA.one (EV.var 10))))) rfl ⟨cs, b, size, rfl, hlen9, s0, s1, rfl⟩) (EV.var 12) (cb_neSame hr (ok_caretsD _ _)) rfl))))) (fun e => by cases e) (fun _ => ?_)
  have gd : ∀ j : Int, j ∈ rg (ordF cs b).length → (ordF cs b)[j.toNat]? = some ((ordF cs b).getD j.toNat 0) ∧ j = ((j.toNat : Nat) : Int) := fun j hj => by
    obtain ⟨h0, h1⟩ := mem_rg.mp hj
    exact ⟨by rw [List.getD_eq_getElem?_getD, List.getElem?_eq_getElem (by omega)]; rfl, by omega⟩
  have ga : ∀ j : Int, j ∈ rg (ordF cs b).length → atI (ordF cs b) j = some ((ordF cs b).getD j.toNat 0) := fun j hj => (congrArg (atI (ordF cs b)) (gd j hj).2).trans (atI_nat (gd j hj).1)
  have hmapE : (rg (ordF cs b).length).map (fun j => PyData.int ((ordF cs b).getD j.toNat 0)) = (ordF cs b).map PyData.int := by
    refine List.ext_getElem (by simp [rg_len]) fun i h1 h2 => ?_
    have hi : i < (ordF cs b).length := by simpa using h2
    simp [rg, List.getD_eq_getElem?_getD, List.getElem?_eq_getElem hi]
  refine SX.when (q := false) (ET.or (p := false) (q := false) ((ET.cmp (LC.lcMap (as := rg (ordF cs b).length) (enc := .int) (fun j => .int j) rfl scLaw.nd (own := [("k", 3)]) (by show blkC nLaw (defScope sLaw) _ _ = true; decide +kernel)
      (IV.rgN (n := (ordF cs b).length) Tx.range ((EV.lenL Tx.len (EV.var 7) ol).cast (by rw [List.length_map])) (by omega)) (by rw [rg_len]; exact small_le (by omega))
      (fun j => [e0, some (.m 0), e2, some (.d (.int j)), some (.d (T cs)), some (.d (.int b)), some (.d (.list ((levF cs b).map .int))), some (.d (.list ((ordF cs b).map .int))), e8, some (.d (.list (rowsD (rowsOf (levF cs b) (ordF cs b))))), some (.d (.int size)), some (.d (.tuple (runsF cs (levF cs b) size (rowsOf (levF cs b) (ordF cs b)) (rowsOf (levF cs b) (ordF cs b)).length))), some (.d (.tuple (caretsF cs (edgL cs (levF cs b) size (rowsOf (levF cs b) (ordF cs b)) (rowsOf (levF cs b) (ordF cs b)).length)))), e13, e14, e15, e16, e17, e18, none, none]) [3] (by decide)
      (fun o _ s H C cl fp => TV.name 3 scLaw.nd) (fun j hj s H C cl fp => EV.call D.ps hr (EA.cons (EV.var 4) (EA.cons (EV.var 5) (EA.one (EV.ixL (EV.var 7) (EV.var 3) ol (at_cell (ga j hj)))))) rfl ⟨cs, b, _, j.toNat, rfl, hlen9, (gd j hj).1, by rw [← (gd j hj).2]⟩)).ev
      (EV.listRg rfl Tx.list Tx.range ((EV.lenL Tx.len (EV.var 7) ol).cast (by rw [List.length_map])) (by omega) (by omega)) (cb_neInts hr (rg (ordF cs b).length) (rg (ordF cs b).length)) rfl).cast (by simp))
    (fun _ => EW.or1 ((ET.cmp ((LC.lcMap (as := rg (ordF cs b).length) (enc := .int) (fun j => .int ((ordF cs b).getD j.toNat 0)) rfl scLaw.nd (own := [("k", 3)]) (by show blkC nLaw (defScope sLaw) _ _ = true; decide +kernel)
      (IV.rgN (n := (ordF cs b).length) Tx.range ((EV.lenL Tx.len (EV.var 7) ol).cast (by rw [List.length_map])) (by omega)) (by rw [rg_len]; exact small_le (by omega))
      (fun j => [e0, some (.m 0), e2, some (.d (.int j)), some (.d (T cs)), some (.d (.int b)), some (.d (.list ((levF cs b).map .int))), some (.d (.list ((ordF cs b).map .int))), e8, some (.d (.list (rowsD (rowsOf (levF cs b) (ordF cs b))))), some (.d (.int size)), some (.d (.tuple (runsF cs (levF cs b) size (rowsOf (levF cs b) (ordF cs b)) (rowsOf (levF cs b) (ordF cs b)).length))), some (.d (.tuple (caretsF cs (edgL cs (levF cs b) size (rowsOf (levF cs b) (ordF cs b)) (rowsOf (levF cs b) (ordF cs b)).length)))), e13, e14, e15, e16, e17, e18, none, none]) [3] (by decide)
      (fun o _ s H C cl fp => TV.name 3 scLaw.nd) (fun j hj s H C cl fp => EV.call D.pt hr (EA.cons (EV.var 4) (EA.cons (EV.var 5) (EA.one (EV.var 3)))) rfl ⟨cs, b, _, j.toNat, by rw [← (gd j hj).2], hlen9, (gd j hj).1, rfl⟩)).ev.cast (y := .d (.list ((ordF cs b).map .int))) (by rw [hmapE])) (EV.var 7) (cb_neInts hr (ordF cs b) (ordF cs b)) rfl).cast (by simp)))) (fun e => by cases e) (fun _ => ?_)
  exact law_b1 Tx mset G D hr hb hlen hsm st1
end
end K32

set_option Elab.async false
set_option maxRecDepth 100000
set_option maxHeartbeats 1000000
set_option linter.all false
namespace K32
open PySem PySem.Spec L2 DV
section
variable {P : Program} {w : World} {K : PySem.W.Frag} {mg : Str → Option Value} {base : Heap}
variable {f : Addr} {cdv : Value} {A : Around} {outer : List Env} {s : Shared} {H : Hp} {E : XK} {k : Nat} {ns : List Int} {dD : St3 → Int → Int} {dS : St3 → Int → St3} {enc : St3 → List AV}
theorem law_a1 (Tx : Txt K mg) (mset : mg "set" = none) (G : Dr ns dD dS enc) (D : All P w K mg base k ns) (hr : Room k (A.deeper (PyProof.Rows.envOfC "law" (defScope sLaw) s.heap.objs.size f cdv))) {cs : List Nat} (hlen : cs.length ≤ 16) (hsm : ∀ c ∈ cs, c < 200) (st2 : St3) {e0 e3 e5 e6 e7 e8 e9 e10 e11 e12 e13 e14 e15 e16 e17 e18 : Option AV} :
    SX (lawX P w K mg base f cdv A outer s H E) ((defBody sLaw).drop 3) [e0, some (.m 0), some (.d (T sgL)), e3, some (.d (T cs)), e5, e6, e7, e8, e9, e10, e11, e12, e13, e14, e15, e16, e17, e18, none, none] [.lst (enc st2)] lawD := by
  have hlen9 : cs.length ≤ 900 := by omega
  obtain ⟨b0, b1⟩ := G.inn st2 (lim := 2) (by omega)
  refine SX.asg 5 scLaw.nd (EV.drawG (k := 0) G st2 (EV.var 1) EV.int rfl rfl D.draw hr (by omega) (by omega)) ?_
  generalize dD st2 2 = b at b0 b1
  generalize dS st2 2 = st3
  have hb : b = 0 ∨ b = 1 := by omega
  have hll := lev_len cs b
  have hol := ord_len cs b
  refine SX.asg 6 scLaw.nd (EV.call D.levL hr (EA.cons (EV.var 4) (EA.one (EV.var 5))) rfl ⟨cs, b, rfl, hb, hlen9, rfl⟩) ?_
  refine SX.asg 7 scLaw.nd (EV.call D.ordL hr (EA.one (EV.var 6)) rfl ⟨levF cs b, rfl, lev_in2, by omega, rfl⟩) ?_
  refine SX.asgLc 8 (x := .d (.list ((letI' cs).map .int))) (M1 := [.lst (enc st3)]) ?_ ?_
  · refine LC.cast (LC.lcFilter (as := cs) (enc := encS) (fun c => oD (wayF c)) (fun c => inB (wayF c)) rfl scLaw.nd (own := [("sign", 19)]) (by show blkC nLaw (defScope sLaw) _ _ = true; decide +kernel)
      (IV.S (EV.var 4)) (small_le (by omega))
      (fun c' => [e0, some (.m 0), some (.d (T sgL)), e3, some (.d (T cs)), some (.d (.int b)), some (.d (.list ((levF cs b).map .int))), some (.d (.list ((ordF cs b).map .int))), e8, e9, e10, e11, e12, e13, e14, e15, e16, e17, e18, some (.d (encS c')), none]) [19] (by decide)
      (fun o _ s H C cl fp => TV.name 19 scLaw.nd) (fun o _ s H C cl fp => ET.cmp (EV.call D.lway hr (EA.one (EV.var 19)) rfl ⟨o, rfl, rfl⟩) (EV.lst (ds := [.int 0, .int 1]) (EA.cons EV.int (EA.one EV.int)) (by decide)) cb_inOL rfl)
      (fun o _ _ s H C cl fp => EV.call D.lway hr (EA.one (EV.var 19)) rfl ⟨o, rfl, rfl⟩)) (by rw [filt_let])
  have hlet := let_len cs
  have hbase : atI (((letI' cs).map PyData.int ++ [PyData.int 0]).map AV.d) 0 = some (.d (.int (baseF cs))) := by
    unfold baseF
    cases letI' cs with
    | nil => rfl
    | cons x l => exact atI_nat (j := 0) rfl
  have hany : ((sgL.map fun _ => false).any (·)) = false := by rw [List.any_map]; exact List.any_eq_false.mpr fun _ _ => by simp
  refine SX.when (q := false) (ET.or (p := false) (q := false) ((ET.val (EV.anyL (bs := sgL.map fun _ => false) (M1 := [.lst (enc st3)]) rfl Tx.any (LC.lcMap (as := sgL) (enc := encS) (fun _ => .bool false) rfl scLaw.nd (own := [("sign", 19)]) (by show blkC nLaw (defScope sLaw) _ _ = true; decide +kernel)
      (IV.S (EV.var 2)) (small_le (by rw [sgL_len]; omega))
      (fun c' => [e0, some (.m 0), some (.d (T sgL)), e3, some (.d (T cs)), some (.d (.int b)), some (.d (.list ((levF cs b).map .int))), some (.d (.list ((ordF cs b).map .int))), some (.d (.list ((letI' cs).map .int))), e9, e10, e11, e12, e13, e14, e15, e16, e17, e18, some (.d (encS c')), none]) [19] (by decide)
      (fun o _ s H C cl fp => TV.name 19 scLaw.nd) (fun o _ s H C cl fp => EV.cmp (EV.call D.way hr (EA.one (EV.var 19)) rfl ⟨o, rfl, rfl⟩) (EV.call D.lway hr (EA.one (EV.var 19)) rfl ⟨o, rfl, rfl⟩) (cb_neOO _) rfl)).ev (by simp [lstOf, Function.comp_def]))).cast hany)
    (fun _ => EW.orC (p := false) (q := false) ((ET.cmp (EV.call D.baseD hr (EA.one (EV.var 4)) rfl ⟨cs, rfl, rfl⟩) (EV.ixL (EV.cat (ds := (letI' cs).map .int) (es' := [.int 0]) (EV.var 8) (EV.lst (ds := [.int 0]) (EA.one EV.int) (by decide)) rfl rfl (by simp; exact small_le (by omega))) EV.int rfl hbase) cb_neI rfl).cast (by simp))
      (fun _ => EW.orC (p := false) (q := false) ((ET.cmp (EV.call D.lev hr (EA.cons (EV.var 4) (EA.one (EV.var 5))) rfl ⟨cs, b, rfl, hlen9, rfl⟩) (EV.var 6) (cb_neInts hr (levF cs b) (levF cs b)) rfl).cast (by simp))
        (fun _ => EW.or1 ((ET.cmp (EV.call D.ord hr (EA.one (EV.var 6)) rfl ⟨levF cs b, rfl, lev_in2, by omega, rfl⟩) (EV.var 7) (cb_neInts hr (ordF cs b) (ordF cs b)) rfl).cast (by simp)))))) (fun e => by cases e) (fun _ => ?_)
  exact law_a2 Tx mset G D hr hb hlen hsm st3
end
section
variable {P : Program} {w : World} {K : PySem.W.Frag} {mg : Str → Option Value} {base : Heap}
variable {f : Addr} {cdv : Value} {A : Around} {outer : List Env} {s : Shared} {H : Hp} {E : XK} {k : Nat} {ns : List Int} {dD : St3 → Int → Int} {dS : St3 → Int → St3} {enc : St3 → List AV}
theorem law_a0 (Tx : Txt K mg) (mset : mg "set" = none) (G : Dr ns dD dS enc) (D : All P w K mg base k ns) (hr : Room k (A.deeper (PyProof.Rows.envOfC "law" (defScope sLaw) s.heap.objs.size f cdv))) :
    SX (lawX P w K mg base f cdv A outer s H E) ((defBody sLaw).drop 1) [none, some (.m 0), none, none, none, none, none, none, none, none, none, none, none, none, none, none, none, none, none, none, none] [.lst (enc (0, 0, 1))] lawD := by
  refine SX.asg 2 scLaw.nd (x := .d (T sgL)) (M1 := [.lst (enc (0, 0, 1))]) (EV.str.cast (congrArg AV.d sgL_S)) ?_
  obtain ⟨n0, n1⟩ := G.inn (0, 0, 1) (lim := 17) (by omega)
  generalize hnl : dD (0, 0, 1) 17 = nl at n0 n1
  generalize hst1 : dS (0, 0, 1) 17 = st1
  have hcs : ∃ cs : List Nat, (List.range nl.toNat).map (fun i => encS (sgL.getD (dD (stG dS 15 st1 i) 15).toNat 0)) = cs.map encS ∧ cs.length ≤ 16 ∧ ∀ c ∈ cs, c < 200 := by
    refine ⟨(List.range nl.toNat).map fun i => sgL.getD (dD (stG dS 15 st1 i) 15).toNat 0, by rw [List.map_map]; rfl, by simp; omega, fun c hc => ?_⟩
    obtain ⟨i, _, rfl⟩ := List.mem_map.mp hc
    have := G.inn (stG dS 15 st1 i) (lim := 15) (by omega)
    exact sgL_small _ (getD_mem (by rw [sgL_len]; omega))
  obtain ⟨cs, hcs, hlen, hsm⟩ := hcs
  refine SX.asg 4 scLaw.nd (x := .d (T cs)) (M1 := [.lst (enc (stG dS 15 st1 nl.toNat))]) ?_ (law_a1 Tx mset G D hr hlen hsm _)
  refine EV.cast (EV.join (q := S []) (zs := cs.map fun c => S [c]) (x := .d (.list (cs.map encS))) (M1 := [.lst (enc (0, 0, 1))]) (M2 := [.lst (enc (stG dS 15 st1 nl.toNat))]) EV.str ?_ ?_ ?_) (by rw [join_S])
  · have hdl : ((rg nl.toNat).map PyData.int).length = nl.toNat := by rw [List.length_map, rg_len]
    rw [← hcs]
    rw [← hdl]
    refine (LC.lc (own := [("k", 3)]) rfl scLaw.nd (by show blkC nLaw (defScope sLaw) _ _ = true; decide +kernel) (IV.rg1 (i := nl) Tx.range ((EV.drawG (k := 0) G (0, 0, 1) (EV.var 1) EV.int rfl rfl D.draw hr (by omega) (by omega)).cast (by rw [hnl])) (by omega) (by omega))
      (fun i => [.lst (enc (stG dS 15 st1 i))]) (fun i => encS (sgL.getD (dD (stG dS 15 st1 i) 15).toNat 0)) (by rw [hst1]; rfl) (by rw [hdl]; exact small_le (by omega)) (fun i d hd => ?_)).ev
    refine ⟨[none, some (.m 0), some (.d (T sgL)), some (.d d), none, none, none, none, none, none, none, none, none, none, none, none, none, none, none, none, none], [3], by decide, fun s H C cl fp => TV.name 3 scLaw.nd, fun s H C cl fp => ?_⟩
    have hdr := G.inn (stG dS 15 st1 i) (lim := 15) (by omega)
    exact EV.ixS (i := dD (stG dS 15 st1 i) 15) (c := sgL.getD (dD (stG dS 15 st1 i) 15).toNat 0) (q := S sgL) (M1 := [.lst (enc (stG dS 15 st1 i))]) (M2 := [.lst (enc (stG dS 15 st1 (i + 1)))]) (EV.var 2) (EV.drawG (k := 0) G (stG dS 15 st1 i) (EV.var 1) EV.int rfl rfl D.draw hr (by omega) (by omega)) (S_le (by rw [sgL_len]; omega)) (sg_at hdr.1 hdr.2)
  · simp [lstOf, Function.comp_def]
  · have e : ∀ l : List Nat, ((l.map fun c => S [c]).map (·.length)).sum = l.length := by
      intro l
      induction l with
      | nil => rfl
      | cons c l ih => rw [List.map_cons, List.map_cons, List.sum_cons, ih, List.length_cons]; show 1 + _ = _; omega
    rw [e, List.length_map]
    show _ + _ * 0 ≤ _
    omega
def spLaw (K : PySem.W.Frag) : Sp := fun vs H Q _ => ∃ (a : Addr) (ns : List Int), vs = [V.ref a] ∧ SqL K H a (ns.map V.int) ∧ ns.length ≤ 63 ∧ ∀ H', Q (.bl true) H'
end
section
variable {P : Program} {w : World} {K : PySem.W.Frag} {mg : Str → Option Value} {base : Heap}
theorem ok_law {f : Addr} {fd : FuncData} (F : Fun K "law" "law" sLaw f fd) (Tx : Txt K mg) (mset : mg "set" = none) {k : Nat} (D : ∀ ns : List Int, ns.length ≤ 63 → All P w K mg base k ns) : FnOk P w K mg base CX0 (k + 1) f fd ["script"] (spLaw K) := by
  refine F.ok scLaw (fun vs H Q E h => by obtain ⟨_, _, rfl, _⟩ := h; rfl) fun cdv A outer s H vs Q E hr h => ?_
  obtain ⟨a, ns, rfl, hS, hl, hQ⟩ := h
  obtain ⟨dD, hd⟩ : ∃ g, g = drawD ns := ⟨_, rfl⟩
  obtain ⟨dS, hs⟩ : ∃ g, g = drawS ns := ⟨_, rfl⟩
  obtain ⟨enc, he⟩ : ∃ g : St3 → List AV, g = stD ns := ⟨_, rfl⟩
  have G : Dr ns dD dS enc := ⟨hd, hs, he⟩
  refine ⟨_, PSs.x, ?_⟩
  have hb : defBody sLaw = (defBody sLaw).headD (.Pass ⟨0,0,0,0⟩) :: (defBody sLaw).drop 1 := rfl
  rw [hb]
  have hrest := law_a0 (outer := outer) (H := H) (E := E) Tx mset G (D ns hl) hr
  refine xSs_cons (X := lawX P w K mg base f cdv A outer s H E) (ps_asg (pe_lst (pa_cons pe_int (pa_cons pe_int (pa_cons (pe_callTy call_list_of rfl Tx.list (by decide +kernel) (pa_cons (pe_var (i := 0) rfl (.inl rfl)) pa_nil)) (pa_cons pe_int pa_nil))))) (pg_name (i := 1) scLaw.nd rfl (.inr rfl))) ?_
  refine ⟨V.ref a, rfl, a, ns.map V.int, rfl, .inl hS, fun p1 hp1 => ⟨by show 4 ≤ sizeLine; rw [sizeLine_eq]; decide, fun p2 hp2 => ?_⟩⟩
  have h21 : p2 ≠ p1 := fun q => by subst q; rw [upd_same] at hp2; cases hp2
  have hp2' : H p2 = none := by rw [upd_ne h21] at hp2; exact hp2
  let F1 : Hp := upd (fun _ => none) p1 (.lst (ns.map V.int))
  have hF1 : ∀ b o, F1 b = some o → b = p1 ∧ o = .lst (ns.map V.int) := fun b o h => by
    by_cases q : b = p1
    · subst q
      have : F1 b = some (.lst (ns.map V.int)) := upd_same
      rw [this] at h; cases h; exact ⟨rfl, rfl⟩
    · have : F1 b = none := upd_ne q
      rw [this] at h; cases h
  have sh : SH K (fun _ => none) H F1 [p2] (upd (upd H p1 (.lst (ns.map V.int))) p2 (.lst [.int 0, .int 0, .ref p1, .int 1])) [.lst (enc (0, 0, 1))] := by
    refine ⟨(fun b o h => by cases h), fun b o h => ?_, (same_upd hp1).trans (same_upd hp2), fun b _ h' => ?_, by simp, rfl, fun b hb => ?_, fun i b mc h1 h2 h3 => ?_⟩
    · obtain ⟨rfl, rfl⟩ := hF1 b o h
      rw [upd_ne (fun q => h21 q.symm), upd_same]
    · cases q : F1 b with
      | none => exact absurd q h'
      | some o => obtain ⟨rfl, _⟩ := hF1 b o q; exact hp1
    · rw [List.mem_singleton.mp hb]
      exact ⟨hp2', by rw [upd_same]; simp⟩
    · cases i with
      | zero =>
        simp at h1 h2
        subst h1 h2
        rw [he]
        refine ⟨upd_ne h21, _, upd_same, .cons (DR.int _) (.cons (DR.int _) (.cons ?_ (.cons (DR.int _) .nil)))⟩
        exact DR.lst (show F1 p1 = _ from upd_same) (ints_dr ns)
      | succ i => simp at h1
  have sv : SV K F1 [p2] ((L2.start nLaw [V.ref a]).set 1 (some (.ref p2))) [none, some (.m 0), none, none, none, none, none, none, none, none, none, none, none, none, none, none, none, none, none, none, none] := by
    refine ⟨rfl, fun i x e => ?_⟩
    match i, e with
    | 0, e => cases e
    | 1, e => cases e; exact ⟨_, rfl, p2, rfl, rfl⟩
    | i + 2, e =>
      have : ([none, some (.m 0), none, none, none, none, none, none, none, none, none, none, none, none, none, none, none, none, none, none, none] : Gam)[i + 2]? = (List.replicate 19 none)[i]? := rfl
      rw [this, List.getElem?_replicate] at e
      split at e <;> cases e
  refine xSs.le ?_ (hrest (fun _ => none) H F1 [p2] _ _ sh sv)
  refine ⟨fun σ' H' ⟨F', A', Γ', M', s', _, _, e⟩ => ?_, fun v H' ⟨F', A', x, M', s', rv, e⟩ => ?_, fun σ' H' ⟨F', A', Γ', M', s', _, _, e⟩ => e.elim, fun σ' H' ⟨F', A', Γ', M', s', _, _, e⟩ => e.elim⟩
  · cases (show PyData.bool true = .none from e)
  · have e : x = .d (.bool true) := e
    subst e
    rw [rv.bl]
    exact hQ H'
end
end K32

set_option Elab.async false
set_option maxRecDepth 100000
set_option maxHeartbeats 4000000
set_option linter.all false
namespace K32
open PySem PySem.Spec L2 DV PyProof.Rows
def FnAt (K : PySem.W.Frag) (x : Str) (st : Stmt) : Prop := ∃ (f : Addr) (oc : Value) (od : Option Addr) (osl : Array (Option Value)) (kV dc pm : Value) (an : Option Addr) (cd ct : Value),
  PySem.W.nsIn K mainGlobals x = some (some (.ref f)) ∧ K.lookup f = some ⟨oc, od, .func (PySem.W.fnOf x x (defArgs st) (defBody st) (defScope st) .none kV dc pm an cd ct), osl⟩ ∧ PySem.W.codeIn K cd x = true ∧ PySem.W.keepIn K (.ref f) = true
def StrAt (K : PySem.W.Frag) (x z : Str) : Prop := ∃ t, PySem.W.nsIn K mainGlobals x = some (some (.str z t))
def TabAt (K : PySem.W.Frag) (w : World) (x : Str) (l : List (Str × PyData)) : Prop := ∃ (am : Addr) (es : Array DictEntry) (n : Nat), PySem.W.nsIn K mainGlobals x = some (some (.ref am)) ∧ K.lookup am = some ⟨.type "dict", none, .dict es n, #[]⟩ ∧ PySem.W.KeysLit w.params es.toList ∧ (am == sysModules) = false ∧
  Paired (fun (e : DictEntry) (p : Str × PyData) => ∃ t v, e.key = .str p.1 t ∧ sD p.2 = some v ∧ RelV v e.val) es.toList l
theorem tab_rows {es : List DictEntry} {l : List (Str × PyData)} (h : Paired (fun (e : DictEntry) (p : Str × PyData) => ∃ t v, e.key = .str p.1 t ∧ sD p.2 = some v ∧ RelV v e.val) es l) (z : Str) :
    (es.any (·.refKey)) = false ∧ ((∃ e p v, es.find? (fun e => e.key.isStr z) = some e ∧ l.find? (fun p => decide (p.1 = z)) = some p ∧ sD p.2 = some v ∧ RelV v e.val) ∨ (es.find? (fun e => e.key.isStr z) = none ∧ l.find? (fun p => decide (p.1 = z)) = none)) := by
  induction h with
  | nil => exact ⟨rfl, .inr ⟨rfl, rfl⟩⟩
  | @cons e p es l a t ih =>
    obtain ⟨tk, v, h1, h2, h3⟩ := a
    obtain ⟨i1, i2⟩ := ih
    have hr : e.refKey = false := by unfold DictEntry.refKey; rw [h1]
    refine ⟨by rw [List.any_cons, hr, i1]; rfl, ?_⟩
    have hk : e.key.isStr z = decide (p.1 = z) := by
      rw [h1]
      by_cases q : p.1 = z
      · rw [decide_eq_true q, q]; simp [Value.isStr]
      · rw [decide_eq_false q]; simp [Value.isStr, q]
    by_cases q : p.1 = z
    · refine .inl ⟨e, p, v, ?_, ?_, h2, h3⟩
      · rw [List.find?_cons, hk, decide_eq_true q]
      · rw [List.find?_cons, decide_eq_true q]
    · rw [List.find?_cons, List.find?_cons, hk, decide_eq_false q]
      exact i2
theorem TabAt.tab {K : PySem.W.Frag} {w : World} {x : Str} {l : List (Str × PyData)} {h : Heap} {mg : Str → Option Value} (X : K.In h) (G : h.Ns mainGlobals mg) (T : TabAt K w x l) {g : Str → Option PyData} (hg : ∀ z, g z = (l.find? fun p => decide (p.1 = z)).map (·.2)) : ∃ am, mg x = some (.ref am) ∧ KTab K w am g := by
  obtain ⟨am, es, n, h1, h2, h3, h4, h5⟩ := T
  refine ⟨am, PySem.W.mg_of X G h1, es, n, h2, h3, h4, fun z => ?_⟩
  obtain ⟨a, b⟩ := tab_rows h5 z
  have hn : PySem.W.nsIn K am z = match es.toList.find? (·.key.isStr z) with
      | some e => some (some e.val)
      | none => if es.toList.any (·.refKey) then none else some none := by
    unfold PySem.W.nsIn
    rw [h2]
    rfl
  rcases b with ⟨e, p, v, e1, e2, e3, e4⟩ | ⟨e1, e2⟩
  · exact .inl ⟨p.2, v, e.val, by rw [hg, e2]; rfl, by rw [hn, e1], e4, e3⟩
  · exact .inr ⟨by rw [hg, e2]; rfl, by rw [hn, e1, a]; rfl⟩
theorem gMir_l (z : Str) : gMir z = ((lMir.map fun p => (p.1, PyData.str p.2)).find? fun p => decide (p.1 = z)).map (·.2) := by
  unfold gMir gS
  rw [List.find?_map]
  show (Option.map _ (lMir.find? fun p => decide (p.1 = z))).map _ = Option.map _ (Option.map _ (lMir.find? fun p => decide (p.1 = z)))
  cases lMir.find? fun p => decide (p.1 = z) <;> rfl
theorem gPair_l (z : Str) : gPair z = ((lPair.map fun p => (p.1, PyData.int p.2)).find? fun p => decide (p.1 = z)).map (·.2) := by
  unfold gPair pairS
  rw [List.find?_map]
  show (Option.map _ (lPair.find? fun p => decide (p.1 = z))).map _ = Option.map _ (Option.map _ (lPair.find? fun p => decide (p.1 = z)))
  cases lPair.find? fun p => decide (p.1 = z) <;> rfl
section
variable {P : Program} {w : World} {K : PySem.W.Frag} {mg : Str → Option Value} {base h : Heap}
theorem mkD {x : Str} {st : Stmt} {ps : List Str} {k : Nat} {R : List PyData → PyData → Prop} (X : K.In h) (G : h.Ns mainGlobals mg) (H : FnAt K x st)
    (hb : ∀ (kV doc pm : Value) (an : Option Addr) (cdv ct : Value) (us : List Value), us.length = ps.length → bindArgs (PySem.W.fnOf x x (defArgs st) (defBody st) (defScope st) .none kV doc pm an cdv ct) ⟨us, []⟩ = pure (ps.zip us))
    (ok : ∀ f fd, Fun K x x st f fd → FnOk P w K mg base CX0 k f fd ps (spR K R)) {m : Nat} (hk : k ≤ m := by decide) : DefR P w K mg base m x R := by
  obtain ⟨f, oc, od, osl, kV, dc, pm, an, cd, ct, h1, h2, h3, h4⟩ := H
  have F := fun_mk h2 h3 h4
  exact (defR_mk (N := []) F (PySem.W.mg_of X G h1) (F.binds hb) (ok _ _ F)).mono hk
theorem mkX {x : Str} {st : Stmt} {ps : List Str} {C : Addr} {R : List PyData → Prop} (X : K.In h) (G : h.Ns mainGlobals mg) (H : FnAt K x st)
    (hb : ∀ (kV doc pm : Value) (an : Option Addr) (cdv ct : Value) (us : List Value), us.length = ps.length → bindArgs (PySem.W.fnOf x x (defArgs st) (defBody st) (defScope st) .none kV doc pm an cdv ct) ⟨us, []⟩ = pure (ps.zip us))
    (ok : ∀ f fd, Fun K x x st f fd → FnOk P w K mg base (L2.CX P w) 1 f fd ps (spX K C R)) : DefX P w K mg base C 1 x R := by
  obtain ⟨f, oc, od, osl, kV, dc, pm, an, cd, ct, h1, h2, h3, h4⟩ := H
  have F := fun_mk h2 h3 h4
  exact defX_mk F (PySem.W.mg_of X G h1) (F.binds hb) (ok _ _ F)
theorem mkDr {ns : List Int} (X : K.In h) (G : h.Ns mainGlobals mg) (H : FnAt K "_law_draw" sDraw) (ok : ∀ f fd, Fun K "_law_draw" "_law_draw" sDraw f fd → FnOk P w K mg base CX0 1 f fd ["state", "limit"] (spDraw K ns)) : DrawR P w K mg base 10 ns := by
  obtain ⟨f, oc, od, osl, kV, dc, pm, an, cd, ct, h1, h2, h3, h4⟩ := H
  have F := fun_mk h2 h3 h4
  exact DrawR.mono ⟨_, _, _, ok _ _ F, PySem.W.mg_of X G h1, F.kp, F.binds fun _ _ _ _ _ _ us hl => match us, hl with | [_, _], _ => rfl⟩ (by decide)
end
theorem exm_own {K : PySem.W.Frag} {S : Addr} (h1 : PySem.W.subIn K (.ref S) (.type "BaseException") = some true) (h2 : PySem.W.isClsIn K S = true) (h3 : PySem.W.typeIn K (.ref S) = some (.type "type")) (h4 : PySem.W.subIn K (.ref S) (.ref S) = some true) :
    PySem.W.exmOne K (.ref S) (.ref S) = some true := by
  have e1 : (PySem.W.subIn K (.ref S) (.type "BaseException") == some true) = true := by rw [h1] <;> rfl
  have e2 : ((PySem.W.clsIn K S).isSome && PySem.W.typeIn K (.ref S) == some (.type "type")) = true := by
    have h2' : (PySem.W.clsIn K S).isSome = true := h2
    rw [h2', h3] <;> rfl
  show (if (PySem.W.subIn K (.ref S) (.type "BaseException") == some true) = true then (if ((PySem.W.clsIn K S).isSome && PySem.W.typeIn K (.ref S) == some (.type "type")) = true then PySem.W.subIn K (.ref S) (.ref S) else none) else none) = some true
  rw [if_pos e1, if_pos e2]
  exact h4
theorem all_mk {l : PySem.W.OpenLaw} {w : World} {K : PySem.W.Frag} {h : Heap} {mg : Str → Option Value} {fa C : Addr} (X : K.In h) (G : h.Ns mainGlobals mg) (hfa : mg "law" = some (.ref fa))
    (h7 : FnAt K "sign_width" sSw) (h8 : FnAt K "text_width" sTw) (h14 : FnAt K "way_of" sWay) (h15 : FnAt K "base_of" sBase) (h16 : FnAt K "levels_of" sLev) (h17 : FnAt K "plain_ways" sPlain) (h18 : FnAt K "between_ways" sBet) (h19 : FnAt K "order_of" sOrd)
    (h20 : FnAt K "shown_line" sShown) (h21 : FnAt K "runs_of" sRuns) (h22 : FnAt K "rows_of" sRows) (h23 : FnAt K "place_shown" sPS) (h24 : FnAt K "place_told" sPT) (h25 : FnAt K "spans_shown" sSpan) (h26 : FnAt K "broken" sBrk) (h27 : FnAt K "judge_order" sJud) (h28 : FnAt K "caret_edges" sCar)
    (h30 : FnAt K "_law_draw" sDraw) (h31 : FnAt K "_law_way" sLWay) (h32 : FnAt K "_law_levels" sLL) (h33 : FnAt K "_law_strong" sStr) (h34 : FnAt K "_law_order" sLO) (h35 : FnAt K "_law_signs" sSig) (h36 : FnAt K "_law_rows" sRowsL) (h37 : FnAt K "_law_runs" sRunsL) (h38 : FnAt K "_law_broken" sBrkL) (h39 : FnAt K "_law_outside" sOut) (h40 : FnAt K "law" sLaw)
    (z1 : PySem.W.nsIn K mainGlobals "len" = some none) (z2 : PySem.W.nsIn K mainGlobals "int" = some none) (z3 : PySem.W.nsIn K mainGlobals "min" = some none) (z4 : PySem.W.nsIn K mainGlobals "max" = some none) (z5 : PySem.W.nsIn K mainGlobals "sum" = some none) (z6 : PySem.W.nsIn K mainGlobals "any" = some none)
    (z7 : PySem.W.nsIn K mainGlobals "list" = some none) (z8 : PySem.W.nsIn K mainGlobals "tuple" = some none) (z9 : PySem.W.nsIn K mainGlobals "range" = some none) (z10 : PySem.W.nsIn K mainGlobals "sorted" = some none) (z11 : PySem.W.nsIn K mainGlobals "enumerate" = some none) (z12 : PySem.W.nsIn K mainGlobals "set" = some none)
    (t1 : StrAt K "SMALL" sSMALL) (t2 : StrAt K "LARGE" sLARGE) (t3 : StrAt K "DIGITS" sDIGITS) (t4 : StrAt K "NARROW" sNARROW) (t5 : StrAt K "WIDE" sWIDE)
    (d1 : TabAt K w "MIRRORS" (lMir.map fun p => (p.1, .str p.2))) (d2 : TabAt K w "PAIRS" (lPair.map fun p => (p.1, .int p.2)))
    (c1 : PySem.W.nsIn K mainGlobals "NoSuch" = some (some (.ref C))) (c2 : PySem.W.excIn K C [.type "ValueError", .type "Exception", .type "BaseException", .type "object"] "ValueError.__new__" = true) (c3 : PySem.W.keepIn K (.ref C) = true) (c4 : PySem.W.subIn K (.ref C) (.type "BaseException") = some true) (c5 : PySem.W.typeIn K (.ref C) = some (.type "type"))
    (c6 : PySem.W.isClsIn K C = true) (c7 : PySem.W.subIn K (.ref C) (.ref C) = some true) :
    ∃ fd : FuncData, (∀ (s : Shared) (v : Value), BindsTo s fd ⟨[v], []⟩ [("script", v)]) ∧ ∀ base : Heap, K.In base → base.Ns mainGlobals mg → FnOk l.prog w K mg base CX0 11 fa fd ["script"] (spLaw K) := by
  obtain ⟨fl, oc, od, osl, kV, dc, pm, an, cd, ct, l1, l2, l3, l4⟩ := h40
  have e := hfa.symm.trans (PySem.W.mg_of X G l1)
  cases e
  have nn : ∀ {n : Str}, PySem.W.nsIn K mainGlobals n = some none → mg n = none := fun e => PySem.W.mg_none_of X G e
  have ss : ∀ {n z : Str}, StrAt K n z → ∃ t, mg n = some (.str z t) := fun ⟨t, e⟩ => ⟨t, PySem.W.mg_of X G e⟩
  have Tx : Txt K mg := ⟨nn z1, nn z2, nn z3, nn z4, nn z5, nn z6, nn z7, nn z8, nn z9, nn z10, nn z11, ss t1, ss t2, ss t3⟩
  have Tw : Txw K mg := ⟨ss t4, ss t5⟩
  obtain ⟨am, gm, TM⟩ := d1.tab X G gMir_l
  obtain ⟨ap, gp, TP⟩ := d2.tab X G gPair_l
  have TC : TxC K mg C [.type "ValueError", .type "Exception", .type "BaseException", .type "object"] "ValueError.__new__" := ⟨c2, PySem.W.mg_of X G c1, c3, c4, c5, exm_own c4 c6 c5 c7⟩
  refine ⟨PySem.W.fnOf "law" "law" (defArgs sLaw) (defBody sLaw) (defScope sLaw) .none kV dc pm an cd ct, fun s v => .of_eq rfl, fun base _ _ => ok_law (fun_mk (st := sLaw) l2 l3 l4) Tx (nn z12) fun ns hns => ?_⟩
  have D7 : DefR l.prog w K mg base 1 "sign_width" rSw := mkD X G h7 (fun _ _ _ _ _ _ us hl => match us, hl with | [_, _], _ => rfl) fun f fd F => ok_sw F Tx Tw
  have D14 : DefR l.prog w K mg base 1 "way_of" rWay := mkD X G h14 (fun _ _ _ _ _ _ us hl => match us, hl with | [_], _ => rfl) fun f fd F => ok_way F Tx
  have D18 : DefR l.prog w K mg base 2 "between_ways" rBet := mkD X G h18 (fun _ _ _ _ _ _ us hl => match us, hl with | [_, _, _], _ => rfl) fun f fd F => ok_bet F Tx
  have D19 : DefR l.prog w K mg base 1 "order_of" rOrd := mkD X G h19 (fun _ _ _ _ _ _ us hl => match us, hl with | [_], _ => rfl) fun f fd F => ok_order F Tx
  have D31 : DefR l.prog w K mg base 1 "_law_way" rWay := mkD X G h31 (fun _ _ _ _ _ _ us hl => match us, hl with | [_], _ => rfl) fun f fd F => ok_lway F
  have D34 : DefR l.prog w K mg base 1 "_law_order" rOrd := mkD X G h34 (fun _ _ _ _ _ _ us hl => match us, hl with | [_], _ => rfl) fun f fd F => ok_lorder F Tx
  have D35 : DefR l.prog w K mg base 1 "_law_signs" rSig := mkD X G h35 (fun _ _ _ _ _ _ us hl => match us, hl with | [_, _, _], _ => rfl) fun f fd F => ok_sig F Tx
  have D36 : DefR l.prog w K mg base 1 "_law_rows" rRowsL := mkD X G h36 (fun _ _ _ _ _ _ us hl => match us, hl with | [_, _], _ => rfl) fun f fd F => ok_rowsL F Tx
  have D15 : DefR l.prog w K mg base 2 "base_of" rBase := mkD X G h15 (fun _ _ _ _ _ _ us hl => match us, hl with | [_], _ => rfl) fun f fd F => ok_base F D14
  have D17 : DefR l.prog w K mg base 2 "plain_ways" rPlain := mkD X G h17 (fun _ _ _ _ _ _ us hl => match us, hl with | [_, _], _ => rfl) fun f fd F => ok_plain F D14
  have D33 : DefR l.prog w K mg base 2 "_law_strong" rStr := mkD X G h33 (fun _ _ _ _ _ _ us hl => match us, hl with | [_, _, _], _ => rfl) fun f fd F => ok_strong F Tx D31
  have D8 : DefR l.prog w K mg base 2 "text_width" rTw := mkD X G h8 (fun _ _ _ _ _ _ us hl => match us, hl with | [_, _, _], _ => rfl) fun f fd F => ok_tw F Tx D7 gp TP
  have D22 : DefR l.prog w K mg base 2 "rows_of" rRows := mkD X G h22 (fun _ _ _ _ _ _ us hl => match us, hl with | [_], _ => rfl) fun f fd F => ok_rows F D19
  have D38 : DefR l.prog w K mg base 2 "_law_broken" rBrkL := mkD X G h38 (fun _ _ _ _ _ _ us hl => match us, hl with | [_, _, _, _], _ => rfl) fun f fd F => ok_brkL F Tx D35 D34
  have D16 : DefR l.prog w K mg base 3 "levels_of" rLev := mkD X G h16 (fun _ _ _ _ _ _ us hl => match us, hl with | [_, _], _ => rfl) fun f fd F => ok_lev F Tx D17 D18
  have D32 : DefR l.prog w K mg base 3 "_law_levels" rLevL := mkD X G h32 (fun _ _ _ _ _ _ us hl => match us, hl with | [_, _], _ => rfl) fun f fd F => ok_levL F Tx D33
  have D37 : DefR l.prog w K mg base 3 "_law_runs" rRunsL := mkD X G h37 (fun _ _ _ _ _ _ us hl => match us, hl with | [_, _, _, _, _], _ => rfl) fun f fd F => ok_runsL F Tx (D35.mono (by decide)) D8
  have D20 : DefR l.prog w K mg base 4 "shown_line" rShown := mkD X G h20 (fun _ _ _ _ _ _ us hl => match us, hl with | [_, _], _ => rfl) fun f fd F => ok_shown F D16 (D19.mono (by decide)) gm TM
  have D26 : DefR l.prog w K mg base 4 "broken" rBrk := mkD X G h26 (fun _ _ _ _ _ _ us hl => match us, hl with | [_, _, _], _ => rfl) fun f fd F => ok_brk F Tx D16 (D19.mono (by decide)) gm TM
  have D23 : DefR l.prog w K mg base 4 "place_shown" rPS := mkD X G h23 (fun _ _ _ _ _ _ us hl => match us, hl with | [_, _, _], _ => rfl) fun f fd F => ok_ps F Tx D16 (D19.mono (by decide))
  have D24 : DefR l.prog w K mg base 4 "place_told" rPT := mkD X G h24 (fun _ _ _ _ _ _ us hl => match us, hl with | [_, _, _], _ => rfl) fun f fd F => ok_pt F Tx D16 (D19.mono (by decide))
  have D25 : DefR l.prog w K mg base 4 "spans_shown" rSpan := mkD X G h25 (fun _ _ _ _ _ _ us hl => match us, hl with | [_, _, _, _], _ => rfl) fun f fd F => ok_span F Tx D16 (D19.mono (by decide))
  have D27 : DefR l.prog w K mg base 4 "judge_order" rJud := mkD X G h27 (fun _ _ _ _ _ _ us hl => match us, hl with | [_, _, _], _ => rfl) fun f fd F => ok_jud F Tx D16
  have D21 : DefR l.prog w K mg base 4 "runs_of" rRuns := mkD X G h21 (fun _ _ _ _ _ _ us hl => match us, hl with | [_, _, _, _], _ => rfl) fun f fd F => ok_runs F Tx D16 (D22.mono (by decide)) (D8.mono (by decide)) gm TM
  have D28 : DefR l.prog w K mg base 5 "caret_edges" rCar := mkD X G h28 (fun _ _ _ _ _ _ us hl => match us, hl with | [_, _, _, _], _ => rfl) fun f fd F => ok_car F Tx D21 (D8.mono (by decide))
  have X23 : DefX l.prog w K mg base C 1 "place_shown" rOut := mkX X G h23 (fun _ _ _ _ _ _ us hl => match us, hl with | [_, _, _], _ => rfl) fun f fd F => ok_psX F Tx PySem.F.excBase_ValueError TC
  have X24 : DefX l.prog w K mg base C 1 "place_told" rOut := mkX X G h24 (fun _ _ _ _ _ _ us hl => match us, hl with | [_, _, _], _ => rfl) fun f fd F => ok_ptX F Tx PySem.F.excBase_ValueError TC
  have D39 : DefR l.prog w K mg base 2 "_law_outside" rOutL := mkD X G h39 (fun _ _ _ _ _ _ us hl => match us, hl with | [_, _], _ => rfl) fun f fd F => ok_out F Tx TC X23 X24
  have D30 : DrawR l.prog w K mg base 10 ns := mkDr X G h30 fun f fd F => ok_draw F Tx ns (by omega)
  exact ⟨D14.mono (by decide), D31.mono (by decide), D15.mono (by decide), D16.mono (by decide), D32.mono (by decide), D19.mono (by decide), D34.mono (by decide), D35.mono (by decide), D20.mono (by decide), D22.mono (by decide), D36.mono (by decide), D21.mono (by decide), D37.mono (by decide), D28.mono (by decide), D23.mono (by decide), D24.mono (by decide), D25.mono (by decide), D27.mono (by decide), D26.mono (by decide), D38.mono (by decide), D39.mono (by decide), D30⟩
end K32

namespace K32
open PySem PySem.Spec L2 DV PyProof.Rows
theorem walk {l : PySem.W.OpenLaw} {q : Program} {loose : List Str} {XP : (Str → Option Value) → Heap → Prop} {YP : World → Heap → Prop} {d : DefRec} {K : Params → PySem.W.Frag} (hn : l.most = some 63) (hdf : d.params.defaults = [])
    (hY : ∀ (w : World) (h : Heap), YP w h → (K w.params).In h)
    (F : ∀ (w : World) (mg : Str → Option Value) (fa : Addr) (h : Heap), (K w.params).In h → h.Ns mainGlobals mg → mg d.name = some (.ref fa) →
      ∃ fd : FuncData, (∀ (s : Shared) (u : Value), BindsTo s fd ⟨[u], []⟩ [("script", u)]) ∧ ∀ base : Heap, (K w.params).In base → base.Ns mainGlobals mg → FnOk l.prog w (K w.params) mg base CX0 11 fa fd ["script"] (spLaw (K w.params))) :
    PySem.W.WalkO q loose XP YP l.row.toRowW d [] (fun f vs => PySem.call f vs) :=
  L2.walk_of (n := 63) (k := 11) (x := "script") (CX := fun _ => CX0) (sp := fun w => spLaw (K w.params)) hn (by decide) hdf ⟨rfl, by decide, by decide⟩ hY F (fun _ _ a ns hl _ hS => ⟨a, ns, rfl, hS, hl, fun _ => rfl⟩) fun _ _ _ _ _ z => z
theorem fnAt_mk {K : PySem.W.Frag} {x : Str} {st : Stmt} {f : Addr} {oc : Value} {od : Option Addr} {osl : Array (Option Value)} {kV dc pm : Value} {an : Option Addr} {cd ct : Value} (a : PySem.W.nsIn K mainGlobals x = some (some (.ref f)))
    (l : K.lookup f = some ⟨oc, od, .func (PySem.W.fnOf x x (defArgs st) (defBody st) (defScope st) .none kV dc pm an cd ct), osl⟩) (c : PySem.W.codeIn K cd x = true) (k : PySem.W.keepIn K (.ref f) = true) : FnAt K x st := ⟨f, oc, od, osl, kV, dc, pm, an, cd, ct, a, l, c, k⟩
theorem strAt_mk {K : PySem.W.Frag} {x z : Str} {t : Tok} (a : PySem.W.nsIn K mainGlobals x = some (some (.str z t))) : StrAt K x z := ⟨t, a⟩
theorem tabAt_mk {K : PySem.W.Frag} {w : World} {x : Str} {l : List (Str × PyData)} {am : Addr} {es : Array DictEntry} {n : Nat} (a : PySem.W.nsIn K mainGlobals x = some (some (.ref am))) (b : K.lookup am = some ⟨.type "dict", none, .dict es n, #[]⟩) (c : PySem.W.KeysLit w.params es.toList) (d : (am == sysModules) = false)
    (e : Paired (fun (e : DictEntry) (p : Str × PyData) => ∃ t v, e.key = .str p.1 t ∧ sD p.2 = some v ∧ RelV v e.val) es.toList l) : TabAt K w x l := ⟨am, es, n, a, b, c, d, e⟩
end K32
open PySem PySem.W PyProof.Rows in
set_option maxRecDepth 100000 in
set_option maxHeartbeats 0 in
theorem PySem.Challenge.cw_settledpages_k32_lines_in_two_directions_holds : PySem.Challenge.rw_settledpages_k32_lines_in_two_directions.Holds := by
  w_on; o_law; k_head; (case hw => w_witness2)
  k_fill
  refine K32.walk (l := PySem.Challenge.rw_settledpages_k32_lines_in_two_directions) rfl rfl (fun w h Y => PySem.W.kIn_of Y) ?F
  case F =>
    intro w mg fa h KX G hmg
    refine' K32.all_mk KX G hmg (K32.fnAt_mk ?ah7 ?lh7 ?ch7 ?kh7) (K32.fnAt_mk ?ah8 ?lh8 ?ch8 ?kh8) (K32.fnAt_mk ?ah14 ?lh14 ?ch14 ?kh14) (K32.fnAt_mk ?ah15 ?lh15 ?ch15 ?kh15) (K32.fnAt_mk ?ah16 ?lh16 ?ch16 ?kh16) (K32.fnAt_mk ?ah17 ?lh17 ?ch17 ?kh17) (K32.fnAt_mk ?ah18 ?lh18 ?ch18 ?kh18) (K32.fnAt_mk ?ah19 ?lh19 ?ch19 ?kh19) (K32.fnAt_mk ?ah20 ?lh20 ?ch20 ?kh20) (K32.fnAt_mk ?ah21 ?lh21 ?ch21 ?kh21) (K32.fnAt_mk ?ah22 ?lh22 ?ch22 ?kh22) (K32.fnAt_mk ?ah23 ?lh23 ?ch23 ?kh23) (K32.fnAt_mk ?ah24 ?lh24 ?ch24 ?kh24) (K32.fnAt_mk ?ah25 ?lh25 ?ch25 ?kh25) (K32.fnAt_mk ?ah26 ?lh26 ?ch26 ?kh26) (K32.fnAt_mk ?ah27 ?lh27 ?ch27 ?kh27) (K32.fnAt_mk ?ah28 ?lh28 ?ch28 ?kh28) (K32.fnAt_mk ?ah30 ?lh30 ?ch30 ?kh30) (K32.fnAt_mk ?ah31 ?lh31 ?ch31 ?kh31) (K32.fnAt_mk ?ah32 ?lh32 ?ch32 ?kh32) (K32.fnAt_mk ?ah33 ?lh33 ?ch33 ?kh33) (K32.fnAt_mk ?ah34 ?lh34 ?ch34 ?kh34) (K32.fnAt_mk ?ah35 ?lh35 ?ch35 ?kh35) (K32.fnAt_mk ?ah36 ?lh36 ?ch36 ?kh36) (K32.fnAt_mk ?ah37 ?lh37 ?ch37 ?kh37) (K32.fnAt_mk ?ah38 ?lh38 ?ch38 ?kh38) (K32.fnAt_mk ?ah39 ?lh39 ?ch39 ?kh39) (K32.fnAt_mk ?ah40 ?lh40 ?ch40 ?kh40) ?z1 ?z2 ?z3 ?z4 ?z5 ?z6 ?z7 ?z8 ?z9 ?z10 ?z11 ?z12 (K32.strAt_mk ?at1) (K32.strAt_mk ?at2) (K32.strAt_mk ?at3) (K32.strAt_mk ?at4) (K32.strAt_mk ?at5) (K32.tabAt_mk ?ad1 ?bd1 ?cd1 ?dd1 ?ed1) (K32.tabAt_mk ?ad2 ?bd2 ?cd2 ?dd2 ?ed2) ?c1 ?c2 ?c3 ?c4 ?c5 ?c6 ?c7
    (case ah7 => k_is)
    (case lh7 => k_is)
    (case ch7 => k_is)
    (case kh7 => k_is)
    (case ah8 => k_is)
    (case lh8 => k_is)
    (case ch8 => k_is)
    (case kh8 => k_is)
    (case ah14 => k_is)
    (case lh14 => k_is)
    (case ch14 => k_is)
    (case kh14 => k_is)
    (case ah15 => k_is)
    (case lh15 => k_is)
    (case ch15 => k_is)
    (case kh15 => k_is)
    (case ah16 => k_is)
    (case lh16 => k_is)
    (case ch16 => k_is)
    (case kh16 => k_is)
    (case ah17 => k_is)
    (case lh17 => k_is)
    (case ch17 => k_is)
    (case kh17 => k_is)
    (case ah18 => k_is)
    (case lh18 => k_is)
    (case ch18 => k_is)
    (case kh18 => k_is)
    (case ah19 => k_is)
    (case lh19 => k_is)
    (case ch19 => k_is)
    (case kh19 => k_is)
    (case ah20 => k_is)
    (case lh20 => k_is)
    (case ch20 => k_is)
    (case kh20 => k_is)
    (case ah21 => k_is)
    (case lh21 => k_is)
    (case ch21 => k_is)
    (case kh21 => k_is)
    (case ah22 => k_is)
    (case lh22 => k_is)
    (case ch22 => k_is)
    (case kh22 => k_is)
    (case ah23 => k_is)
    (case lh23 => k_is)
    (case ch23 => k_is)
    (case kh23 => k_is)
    (case ah24 => k_is)
    (case lh24 => k_is)
    (case ch24 => k_is)
    (case kh24 => k_is)
    (case ah25 => k_is)
    (case lh25 => k_is)
    (case ch25 => k_is)
    (case kh25 => k_is)
    (case ah26 => k_is)
    (case lh26 => k_is)
    (case ch26 => k_is)
    (case kh26 => k_is)
    (case ah27 => k_is)
    (case lh27 => k_is)
    (case ch27 => k_is)
    (case kh27 => k_is)
    (case ah28 => k_is)
    (case lh28 => k_is)
    (case ch28 => k_is)
    (case kh28 => k_is)
    (case ah30 => k_is)
    (case lh30 => k_is)
    (case ch30 => k_is)
    (case kh30 => k_is)
    (case ah31 => k_is)
    (case lh31 => k_is)
    (case ch31 => k_is)
    (case kh31 => k_is)
    (case ah32 => k_is)
    (case lh32 => k_is)
    (case ch32 => k_is)
    (case kh32 => k_is)
    (case ah33 => k_is)
    (case lh33 => k_is)
    (case ch33 => k_is)
    (case kh33 => k_is)
    (case ah34 => k_is)
    (case lh34 => k_is)
    (case ch34 => k_is)
    (case kh34 => k_is)
    (case ah35 => k_is)
    (case lh35 => k_is)
    (case ch35 => k_is)
    (case kh35 => k_is)
    (case ah36 => k_is)
    (case lh36 => k_is)
    (case ch36 => k_is)
    (case kh36 => k_is)
    (case ah37 => k_is)
    (case lh37 => k_is)
    (case ch37 => k_is)
    (case kh37 => k_is)
    (case ah38 => k_is)
    (case lh38 => k_is)
    (case ch38 => k_is)
    (case kh38 => k_is)
    (case ah39 => k_is)
    (case lh39 => k_is)
    (case ch39 => k_is)
    (case kh39 => k_is)
    (case ah40 => k_is)
    (case lh40 => k_is)
    (case ch40 => k_is)
    (case kh40 => k_is)
    (case z1 => k_is)
    (case z2 => k_is)
    (case z3 => k_is)
    (case z4 => k_is)
    (case z5 => k_is)
    (case z6 => k_is)
    (case z7 => k_is)
    (case z8 => k_is)
    (case z9 => k_is)
    (case z10 => k_is)
    (case z11 => k_is)
    (case z12 => k_is)
    (case at1 => k_is)
    (case at2 => k_is)
    (case at3 => k_is)
    (case at4 => k_is)
    (case at5 => k_is)
    (case ad1 => k_is)
    (case bd1 => k_is)
    (case cd1 => exact ⟨⟨_, _, rfl, rfl⟩, ⟨_, _, rfl, rfl⟩, ⟨_, _, rfl, rfl⟩, ⟨_, _, rfl, rfl⟩, ⟨_, _, rfl, rfl⟩, ⟨_, _, rfl, rfl⟩, trivial⟩)
    (case dd1 => rfl)
    (case ed1 => exact (.cons ⟨_, _, rfl, rfl, ⟨_, rfl⟩⟩ (.cons ⟨_, _, rfl, rfl, ⟨_, rfl⟩⟩ (.cons ⟨_, _, rfl, rfl, ⟨_, rfl⟩⟩ (.cons ⟨_, _, rfl, rfl, ⟨_, rfl⟩⟩ (.cons ⟨_, _, rfl, rfl, ⟨_, rfl⟩⟩ (.cons ⟨_, _, rfl, rfl, ⟨_, rfl⟩⟩ .nil)))))))
    (case ad2 => k_is)
    (case bd2 => k_is)
    (case cd2 => exact ⟨⟨_, _, rfl, rfl⟩, ⟨_, _, rfl, rfl⟩, ⟨_, _, rfl, rfl⟩, ⟨_, _, rfl, rfl⟩, ⟨_, _, rfl, rfl⟩, ⟨_, _, rfl, rfl⟩, trivial⟩)
    (case dd2 => rfl)
    (case ed2 => exact (.cons ⟨_, _, rfl, rfl, ⟨_, rfl⟩⟩ (.cons ⟨_, _, rfl, rfl, ⟨_, rfl⟩⟩ (.cons ⟨_, _, rfl, rfl, ⟨_, rfl⟩⟩ (.cons ⟨_, _, rfl, rfl, ⟨_, rfl⟩⟩ (.cons ⟨_, _, rfl, rfl, ⟨_, rfl⟩⟩ (.cons ⟨_, _, rfl, rfl, ⟨_, rfl⟩⟩ .nil)))))))
    (case c1 => k_is)
    (case c2 => k_exc)
    (case c3 => k_is)
    (case c4 => k_is)
    (case c5 => k_is)
    (case c6 => k_is)
    (case c7 => k_is)
