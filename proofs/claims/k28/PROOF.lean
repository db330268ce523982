import PyProof.Rows.All
import Wide.All
import OpenK.AllK
import Wide.FinOn
import HandS.ForMost
import HandS.Wide
import HandS.TupAny
import HandS.IsInst
import HandS.Flow
import HandS.Style
import HandS.FStr
import HandS.Deep
import HandS.Small
import HandS.RaiseMore
import HandS.More
import HandS.Conv
import HandS.Zip
import HandS.Ends
import HandS.DictComp
import KE.GoesMore
import HandS.TryOnly
import HandS.SetFor
import HandS.SortInts
import PySem.Challenge.RW_neverhappens_k28_whole_rounding_is_a_clo
set_option Elab.async false
set_option linter.all false
set_option maxRecDepth 100000
namespace Ab
open PySem PySem.Spec PyProof.Rows L2

/-! ## data: what a value is, with tuples as plain data; what stands in a cell; the cells -/
inductive D where
  | non | bl (b : Bool) | int (i : Int) | str (x : Str) | tup (xs : List D) | ref (i : Nat)
inductive AO where
  | lst (xs : List D) | frz (xs : List D) | dic (kvs : List (Key × D)) | ins (C : Addr) (fs : List (Str × D))
abbrev AH := List AO
inductive Res (α : Type) where
  | ok (a : α) (A : AH) | exc (C : Addr) (fs : List (Str × D)) (A : AH) | bad
def Res.bind {α β : Type} (r : Res α) (k : α → AH → Res β) : Res β := match r with
  | .ok a A => k a A
  | .exc C fs A => .exc C fs A
  | .bad => .bad
abbrev ASt := List (Option D)
inductive Fl where
  | nx (s : ASt) | rt (d : D) | bk (s : ASt) | ct (s : ASt)
abbrev FE := ASt → AH → Res D
abbrev FA := ASt → AH → Res (List D)
abbrev FT := ASt → AH → Res Bool
abbrev FS := ASt → AH → Res Fl
abbrev FO := ASt → AH → Res (Option Int)
/-- a def as a function of its arguments -/
abbrev FM := List D → AH → Res D

/-! ## how data lies in the abstract heap: ρ tells the cells' addresses -/
mutual
def Rp (K : PySem.W.Frag) (ρ : List Addr) (H : Hp) : D → V → Prop
  | .non, v => v = .non
  | .bl b, v => v = .bl b
  | .int i, v => v = .int i
  | .str x, v => v = .str x
  | .ref i, v => ∃ a, ρ[i]? = some a ∧ v = .ref a
  | .tup ds, v => ∃ a xs, v = .ref a ∧ SqT K H a xs ∧ RpL K ρ H ds xs
def RpL (K : PySem.W.Frag) (ρ : List Addr) (H : Hp) : List D → List V → Prop
  | [], xs => xs = []
  | d :: ds, xs => ∃ x r, xs = x :: r ∧ Rp K ρ H d x ∧ RpL K ρ H ds r
end
def RpK {κ : Type} (K : PySem.W.Frag) (ρ : List Addr) (H : Hp) : List (κ × D) → List (κ × V) → Prop
  | [], us => us = []
  | p :: ps, us => ∃ v r, us = (p.1, v) :: r ∧ Rp K ρ H p.2 v ∧ RpK K ρ H ps r
structure Ext (K : PySem.W.Frag) (ρ : List Addr) (H : Hp) (ρ' : List Addr) (H' : Hp) : Prop where
  pre : ∃ t, ρ' = ρ ++ t
  gr : ∀ a xs, SqT K H a xs → SqT K H' a xs
/-- a list that nobody writes: the script -/
def SqF (K : PySem.W.Frag) (H : Hp) (a : Addr) (xs : List V) : Prop := (∃ o, H a = some (.frz o (.lst xs))) ∨ SqL K (fun _ => none) a xs
def isFz : AO → Bool
  | .frz _ => true
  | _ => false
def ORel (K : PySem.W.Frag) (ρ : List Addr) (H : Hp) (a : Addr) : AO → Prop
  | .lst ds => ∃ xs, H a = some (.lst xs) ∧ RpL K ρ H ds xs
  | .frz ds => ∃ xs, SqF K H a xs ∧ RpL K ρ H ds xs
  | .dic kvs => ∃ us, H a = some (.dK us) ∧ RpK K ρ H kvs us
  | .ins C fs => ∃ dx us, H a = some (.ins C dx us) ∧ RpK K ρ H fs us
structure Rel (K : PySem.W.Frag) (ρ : List Addr) (H : Hp) (A : AH) : Prop where
  len : ρ.length = A.length
  nd : ∀ (i j : Nat) (a : Addr) o u, ρ[i]? = some a → ρ[j]? = some a → A[i]? = some o → A[j]? = some u → isFz o = false → isFz u = false → i = j
  ob : ∀ (i : Nat) o, A[i]? = some o → ∃ a, ρ[i]? = some a ∧ ORel K ρ H a o
structure SRel (K : PySem.W.Frag) (ρ : List Addr) (H : Hp) (s : ASt) (σ : L2.St) : Prop where
  len : s.length = σ.length
  at_ : ∀ (i : Nat) d, s[i]? = some (some d) → ∃ v, σ[i]? = some (some v) ∧ Rp K ρ H d v
section
variable {K : PySem.W.Frag} {ρ ρ' ρ'' : List Addr} {H H' H'' : Hp} {A A' : AH} {s : ASt} {σ : L2.St} {d : D} {v : V}
theorem Ext.refl : Ext K ρ H ρ H := ⟨⟨[], by simp⟩, fun _ _ h => h⟩
theorem Ext.trans (e : Ext K ρ H ρ' H') (f : Ext K ρ' H' ρ'' H'') : Ext K ρ H ρ'' H'' := by
  obtain ⟨t, rfl⟩ := e.pre
  obtain ⟨u, rfl⟩ := f.pre
  exact ⟨⟨t ++ u, by simp⟩, fun a xs h => f.gr a xs (e.gr a xs h)⟩
theorem Ext.at_ (e : Ext K ρ H ρ' H') {i : Nat} {a : Addr} (h : ρ[i]? = some a) : ρ'[i]? = some a := by
  obtain ⟨t, rfl⟩ := e.pre
  obtain ⟨hi, _⟩ := List.getElem?_eq_some_iff.mp h
  rw [List.getElem?_append_left hi]; exact h
mutual
theorem Rp.ext (e : Ext K ρ H ρ' H') : ∀ (d : D) (v : V), Rp K ρ H d v → Rp K ρ' H' d v
  | .non, v, h => h
  | .bl b, v, h => h
  | .int i, v, h => h
  | .str x, v, h => h
  | .ref i, v, h => by
    obtain ⟨a, h1, h2⟩ := h
    exact ⟨a, e.at_ h1, h2⟩
  | .tup ds, v, h => by
    obtain ⟨a, xs, h1, h2, h3⟩ := h
    exact ⟨a, xs, h1, e.gr _ _ h2, RpL.ext e ds xs h3⟩
theorem RpL.ext (e : Ext K ρ H ρ' H') : ∀ (ds : List D) (xs : List V), RpL K ρ H ds xs → RpL K ρ' H' ds xs
  | [], xs, h => h
  | d :: ds, xs, h => by
    obtain ⟨x, r, h1, h2, h3⟩ := h
    exact ⟨x, r, h1, Rp.ext e d x h2, RpL.ext e ds r h3⟩
end
theorem RpK.ext {κ : Type} (e : Ext K ρ H ρ' H') : ∀ (ps : List (κ × D)) (us : List (κ × V)), RpK K ρ H ps us → RpK K ρ' H' ps us
  | [], us, h => h
  | p :: ps, us, h => by
    obtain ⟨v, r, h1, h2, h3⟩ := h
    exact ⟨v, r, h1, h2.ext e, RpK.ext e ps r h3⟩
theorem RpL.length : ∀ {ds : List D} {xs : List V}, RpL K ρ H ds xs → xs.length = ds.length
  | [], xs, h => by rw [show xs = [] from h]; rfl
  | d :: ds, xs, h => by
    obtain ⟨x, r, rfl, h2, h3⟩ := h
    simp [RpL.length h3]
theorem RpL.get : ∀ {ds : List D} {xs : List V} {i : Nat} {d : D}, RpL K ρ H ds xs → ds[i]? = some d → ∃ v, xs[i]? = some v ∧ Rp K ρ H d v
  | [], _, _, _, _, e => by simp at e
  | d :: ds, xs, 0, d', h, e => by
    obtain ⟨x, r, rfl, h2, h3⟩ := h
    simp at e; subst e
    exact ⟨x, by simp, h2⟩
  | d :: ds, xs, i + 1, d', h, e => by
    obtain ⟨x, r, rfl, h2, h3⟩ := h
    obtain ⟨v, e1, e2⟩ := RpL.get (i := i) h3 (by simpa using e)
    exact ⟨v, by simpa using e1, e2⟩
theorem RpL.append : ∀ {ds es : List D} {xs ys : List V}, RpL K ρ H ds xs → RpL K ρ H es ys → RpL K ρ H (ds ++ es) (xs ++ ys)
  | [], es, xs, ys, h, h' => by rw [show xs = [] from h]; exact h'
  | d :: ds, es, xs, ys, h, h' => by
    obtain ⟨x, r, rfl, h2, h3⟩ := h
    exact ⟨x, r ++ ys, rfl, h2, h3.append h'⟩
theorem RpL.one (h : Rp K ρ H d v) : RpL K ρ H [d] [v] := ⟨v, [], rfl, h, rfl⟩
theorem RpL.take : ∀ {ds : List D} {xs : List V} (n : Nat), RpL K ρ H ds xs → RpL K ρ H (ds.take n) (xs.take n)
  | ds, xs, 0, h => by simp [RpL]
  | [], xs, n + 1, h => by rw [show xs = [] from h]; simp [RpL]
  | d :: ds, xs, n + 1, h => by
    obtain ⟨x, r, rfl, h2, h3⟩ := h
    exact ⟨x, r.take n, rfl, h2, h3.take n⟩
theorem RpL.drop : ∀ {ds : List D} {xs : List V} (n : Nat), RpL K ρ H ds xs → RpL K ρ H (ds.drop n) (xs.drop n)
  | ds, xs, 0, h => h
  | [], xs, n + 1, h => by rw [show xs = [] from h]; simp [RpL]
  | d :: ds, xs, n + 1, h => by
    obtain ⟨x, r, rfl, h2, h3⟩ := h
    exact h3.drop n
theorem RpL.set : ∀ {ds : List D} {xs : List V} (i : Nat), RpL K ρ H ds xs → Rp K ρ H d v → RpL K ρ H (ds.set i d) (xs.set i v)
  | [], xs, i, h, q => by rw [show xs = [] from h]; simp [RpL]
  | e :: ds, xs, 0, h, q => by
    obtain ⟨x, r, rfl, h2, h3⟩ := h
    exact ⟨v, r, rfl, q, h3⟩
  | e :: ds, xs, i + 1, h, q => by
    obtain ⟨x, r, rfl, h2, h3⟩ := h
    exact ⟨x, r.set i v, rfl, h2, h3.set i q⟩
theorem RpL.reverse : ∀ {ds : List D} {xs : List V}, RpL K ρ H ds xs → RpL K ρ H ds.reverse xs.reverse
  | [], xs, h => by rw [show xs = [] from h]; simp [RpL]
  | d :: ds, xs, h => by
    obtain ⟨x, r, rfl, h2, h3⟩ := h
    rw [List.reverse_cons, List.reverse_cons]
    exact h3.reverse.append (RpL.one h2)
theorem RpL.rep : ∀ {ds : List D} {xs : List V} (n : Nat), RpL K ρ H ds xs → RpL K ρ H (List.replicate n ds).flatten (List.replicate n xs).flatten
  | ds, xs, 0, h => by simp [RpL]
  | ds, xs, n + 1, h => by
    rw [List.replicate_succ, List.replicate_succ, List.flatten_cons, List.flatten_cons]
    exact h.append (h.rep n)
theorem SRel.ext (h : SRel K ρ H s σ) (e : Ext K ρ H ρ' H') : SRel K ρ' H' s σ :=
  ⟨h.len, fun i d q => by
    obtain ⟨v, h1, h2⟩ := h.at_ i d q
    exact ⟨v, h1, h2.ext e⟩⟩
theorem SRel.set (h : SRel K ρ H s σ) (i : Nat) (q : Rp K ρ H d v) : SRel K ρ H (s.set i (some d)) (σ.set i (some v)) := by
  refine ⟨by simp [h.len], fun j e hj => ?_⟩
  by_cases hji : i = j
  · subst hji
    have hl : i < s.length := by
      have := (List.getElem?_eq_some_iff.mp hj).1
      simpa using this
    rw [List.getElem?_set_self hl] at hj
    cases hj
    exact ⟨v, List.getElem?_set_self (by rw [← h.len]; exact hl), q⟩
  · rw [List.getElem?_set_ne hji] at hj
    obtain ⟨w, h1, h2⟩ := h.at_ j e hj
    exact ⟨w, by rw [List.getElem?_set_ne hji]; exact h1, h2⟩
theorem SRel.wipe (h : SRel K ρ H s σ) (i : Nat) : SRel K ρ H (s.set i none) (σ.set i none) := by
  refine ⟨by simp [h.len], fun j e hj => ?_⟩
  by_cases hji : i = j
  · subst hji
    have hl : i < s.length := by
      have := (List.getElem?_eq_some_iff.mp hj).1
      simpa using this
    rw [List.getElem?_set_self hl] at hj
    cases hj
  · rw [List.getElem?_set_ne hji] at hj
    obtain ⟨w, h1, h2⟩ := h.at_ j e hj
    exact ⟨w, by rw [List.getElem?_set_ne hji]; exact h1, h2⟩
theorem Rel.at_ (R : Rel K ρ H A) {i : Nat} {o : AO} (h : A[i]? = some o) : ∃ a, ρ[i]? = some a ∧ ORel K ρ H a o := R.ob i o h
theorem SqF.sq {a : Addr} {xs : List V} (h : SqF K H a xs) : SqL K H a xs := by
  rcases h with ⟨o, h⟩ | (h | ⟨o, h⟩) | h
  · exact .inl (.inr ⟨o, h⟩)
  · cases h
  · cases h
  · exact .inr h
theorem ORel.some {a : Addr} {o : AO} (h : ORel K ρ H a o) (f : isFz o = false) : ∃ u, H a = some u := by
  cases o with
  | lst ds => obtain ⟨xs, e, _⟩ := h; exact ⟨_, e⟩
  | frz ds => cases f
  | dic ds => obtain ⟨xs, e, _⟩ := h; exact ⟨_, e⟩
  | ins C ds => obtain ⟨dx, xs, e, _⟩ := h; exact ⟨_, e⟩
theorem ORel.ext {a : Addr} {o : AO} (h : ORel K ρ H a o) (e : Ext K ρ H ρ' H') (q : isFz o = false → H' a = H a) (z : ∀ xs, SqF K H a xs → SqF K H' a xs) : ORel K ρ' H' a o := by
  cases o with
  | lst ds => obtain ⟨xs, e1, e2⟩ := h; exact ⟨xs, (q rfl).trans e1, e2.ext e⟩
  | frz ds => obtain ⟨xs, e1, e2⟩ := h; exact ⟨xs, z _ e1, e2.ext e⟩
  | dic ds => obtain ⟨xs, e1, e2⟩ := h; exact ⟨xs, (q rfl).trans e1, e2.ext e⟩
  | ins C ds => obtain ⟨dx, xs, e1, e2⟩ := h; exact ⟨dx, xs, (q rfl).trans e1, e2.ext e⟩
theorem sqF_new {p : Addr} {o : HO} (hp : H p = none) {a : Addr} (xs : List V) (h : SqF K H a xs) : SqF K (upd H p o) a xs := by
  rcases h with ⟨o', h⟩ | h
  · exact .inl ⟨o', by rw [upd_ne (ne_of_none h hp)]; exact h⟩
  · exact .inr h
theorem sqF_mut {p : Addr} {o u : HO} (hp : H p = some u) (hu : Mut (some u)) {a : Addr} (xs : List V) (h : SqF K H a xs) : SqF K (upd H p o) a xs := by
  have nf : ∀ o' x, u ≠ .frz o' x := fun o' x e => by subst e; exact hu
  rcases h with ⟨o', h⟩ | h
  · exact .inl ⟨o', by rw [upd_ne (ne_of h hp (fun e => nf _ _ e.symm))]; exact h⟩
  · exact .inr h
theorem Rel.has (R : Rel K ρ H A) {i : Nat} {a : Addr} (h : ρ[i]? = some a) : ∃ o, A[i]? = some o ∧ ORel K ρ H a o := by
  have hi : i < A.length := by rw [← R.len]; exact (List.getElem?_eq_some_iff.mp h).1
  obtain ⟨a', h1, h2⟩ := R.ob i A[i] (List.getElem?_eq_getElem hi)
  rw [h] at h1; cases h1
  exact ⟨_, List.getElem?_eq_getElem hi, h2⟩
theorem sqT_new {p : Addr} {o : HO} (hp : H p = none) : ∀ a xs, SqT K H a xs → SqT K (upd H p o) a xs := by
  intro a xs h
  rcases h with (h | ⟨o', h⟩) | h
  · exact .inl (.inl (by rw [upd_ne (ne_of_none h hp)]; exact h))
  · exact .inl (.inr ⟨o', by rw [upd_ne (ne_of_none h hp)]; exact h⟩)
  · exact .inr h
theorem sqT_mut {p : Addr} {o u : HO} (hp : H p = some u) (hu : Mut (some u)) : ∀ a xs, SqT K H a xs → SqT K (upd H p o) a xs := by
  intro a xs h
  have nt : ∀ xs, u ≠ .tup xs := fun xs e => by subst e; exact hu
  have nf : ∀ o' x, u ≠ .frz o' x := fun o' x e => by subst e; exact hu
  rcases h with (h | ⟨o', h⟩) | h
  · exact .inl (.inl (by rw [upd_ne (ne_of h hp (fun e => nt _ e.symm))]; exact h))
  · exact .inl (.inr ⟨o', by rw [upd_ne (ne_of h hp (fun e => nf _ _ e.symm))]; exact h⟩)
  · exact .inr h
theorem Ext.new {p : Addr} {o : HO} (hp : H p = none) (t : List Addr) : Ext K ρ H (ρ ++ t) (upd H p o) := ⟨⟨t, rfl⟩, sqT_new hp⟩
theorem Ext.new0 {p : Addr} {o : HO} (hp : H p = none) : Ext K ρ H ρ (upd H p o) := ⟨⟨[], by simp⟩, sqT_new hp⟩
theorem Ext.mut {p : Addr} {o u : HO} (hp : H p = some u) (hu : Mut (some u)) : Ext K ρ H ρ (upd H p o) := ⟨⟨[], by simp⟩, sqT_mut hp hu⟩
/-- an untracked thing is laid (a tuple, a temporary) -/
theorem Rel.new0 (R : Rel K ρ H A) {p : Addr} {o : HO} (hp : H p = none) : Rel K ρ (upd H p o) A :=
  ⟨R.len, R.nd, fun i ob h => by
    obtain ⟨a, h1, h2⟩ := R.ob i ob h
    exact ⟨a, h1, h2.ext (Ext.new0 hp) (fun f => by obtain ⟨u, hu⟩ := h2.some f; exact upd_ne (ne_of_none hu hp)) fun xs => sqF_new hp xs⟩⟩
/-- a new cell -/
theorem Rel.new (R : Rel K ρ H A) {p : Addr} {o : HO} {ao : AO} (hp : H p = none) (h : ORel K (ρ ++ [p]) (upd H p o) p ao) : Rel K (ρ ++ [p]) (upd H p o) (A ++ [ao]) := by
  have hn : ∀ (i : Nat) ob, ρ[i]? = some p → A[i]? = some ob → isFz ob = false → False := fun i ob hi ho f => by
    obtain ⟨a, h1, h2⟩ := R.ob i ob ho
    rw [hi] at h1; cases h1
    obtain ⟨u, hu⟩ := h2.some f
    rw [hp] at hu; cases hu
  have old : ∀ (i : Nat) {a : Addr} {ob : AO}, (ρ ++ [p])[i]? = some a → (A ++ [ao])[i]? = some ob → (ρ[i]? = some a ∧ A[i]? = some ob) ∨ (i = A.length ∧ a = p ∧ ob = ao) := fun i a ob h1 h2 => by
    by_cases hl : i < A.length
    · rw [List.getElem?_append_left hl] at h2
      rw [List.getElem?_append_left (by rw [R.len]; exact hl)] at h1
      exact .inl ⟨h1, h2⟩
    · have e : i = A.length := by
        have := (List.getElem?_eq_some_iff.mp h2).1
        simp at this; omega
      subst e
      simp at h2
      rw [← R.len] at h1; simp at h1
      exact .inr ⟨rfl, h1.symm, h2.symm⟩
  refine ⟨by simp [R.len], fun i j a ob u h1 h2 h3 h4 f1 f2 => ?_, fun i ob hi => ?_⟩
  · rcases old i h1 h3 with ⟨a1, a2⟩ | ⟨a1, a2, a3⟩
    · rcases old j h2 h4 with ⟨b1, b2⟩ | ⟨b1, b2, b3⟩
      · exact R.nd i j a ob u a1 b1 a2 b2 f1 f2
      · subst b2; exact (hn i ob a1 a2 f1).elim
    · rcases old j h2 h4 with ⟨b1, b2⟩ | ⟨b1, b2, b3⟩
      · subst a2; exact (hn j u b1 b2 f2).elim
      · rw [a1, b1]
  · by_cases hl : i < A.length
    · rw [List.getElem?_append_left hl] at hi
      obtain ⟨a, h1, h2⟩ := R.ob i ob hi
      exact ⟨a, (Ext.new (K := K) (o := o) hp [p]).at_ h1, h2.ext (Ext.new hp [p]) (fun f => by obtain ⟨u, hu⟩ := h2.some f; exact upd_ne (ne_of_none hu hp)) fun xs => sqF_new hp xs⟩
    · have e : i = A.length := by
        have := (List.getElem?_eq_some_iff.mp hi).1
        simp at this; omega
      subst e
      simp at hi; subst hi
      exact ⟨p, by rw [← R.len]; simp, h⟩
/-- a cell is written -/
theorem Rel.upd (R : Rel K ρ H A) {i : Nat} {a : Addr} {o u : HO} {ao old : AO} (ha : ρ[i]? = some a) (hA : A[i]? = some old) (fo : isFz old = false) (hu : H a = some u) (hm : Mut (some u)) (h : ORel K ρ (upd H a o) a ao) (fn : isFz ao = false) : Rel K ρ (upd H a o) (A.set i ao) := by
  have hl : i < A.length := (List.getElem?_eq_some_iff.mp hA).1
  have was : ∀ (j : Nat) {ob : AO}, (A.set i ao)[j]? = some ob → isFz ob = false → ∃ ob', A[j]? = some ob' ∧ isFz ob' = false := fun j ob hj f => by
    by_cases hji : i = j
    · subst hji; exact ⟨old, hA, fo⟩
    · rw [List.getElem?_set_ne hji] at hj; exact ⟨ob, hj, f⟩
  refine ⟨by simp [R.len], fun j k b ob u h1 h2 h3 h4 f1 f2 => ?_, fun j ob hj => ?_⟩
  · obtain ⟨o1, q1, q2⟩ := was j h3 f1
    obtain ⟨o2, q3, q4⟩ := was k h4 f2
    exact R.nd j k b o1 o2 h1 h2 q1 q3 q2 q4
  · by_cases hji : i = j
    · subst hji
      rw [List.getElem?_set_self hl] at hj
      cases hj
      exact ⟨a, ha, h⟩
    · rw [List.getElem?_set_ne hji] at hj
      obtain ⟨b, h1, h2⟩ := R.ob j ob hj
      refine ⟨b, h1, h2.ext (Ext.mut hu hm) (fun f => upd_ne ?_) fun xs => sqF_mut hu hm xs⟩
      rintro rfl
      exact hji (R.nd i j b old ob ha h1 hA hj fo f)
end

/-! ## what an outcome gives -/
def Out {α β : Type} (K : PySem.W.Frag) (E : XK) (R : List Addr → Hp → α → β → Prop) (ρ : List Addr) (H : Hp) (r : Res α) (Q : β → Hp → Prop) : Prop := match r with
  | .ok a A' => ∀ ρ' H' v, Ext K ρ H ρ' H' → Rel K ρ' H' A' → R ρ' H' a v → Q v H'
  | .exc C fs A' => ∀ ρ' H' dx us, Ext K ρ H ρ' H' → Rel K ρ' H' A' → H' dx = some (.xd us) → RpK K ρ' H' fs us → E (.ref C) (some dx) H'
  | .bad => False
abbrev OutE (K : PySem.W.Frag) (E : XK) := Out (α := D) (β := V) K E (fun ρ H d v => Rp K ρ H d v)
abbrev OutA (K : PySem.W.Frag) (E : XK) := Out (α := List D) (β := List V) K E (fun ρ H d v => RpL K ρ H d v)
abbrev OutT (K : PySem.W.Frag) (E : XK) := Out (α := Bool) (β := Bool) K E (fun _ _ d v => d = v)
abbrev OutO (K : PySem.W.Frag) (E : XK) := Out (α := Option Int) (β := Option Int) K E (fun _ _ d v => d = v)
section
variable {K : PySem.W.Frag} {E : XK} {α β γ δ : Type} {R1 : List Addr → Hp → α → β → Prop} {R2 : List Addr → Hp → γ → δ → Prop} {ρ : List Addr} {H : Hp}
/-- first r, then k -/
theorem Out.bind {r : Res α} {k : α → AH → Res γ} {Q : δ → Hp → Prop} (h : Out K E R2 ρ H (r.bind k) Q) :
    Out K E R1 ρ H r (fun v H1 => ∃ ρ1 a A1, r = .ok a A1 ∧ Ext K ρ H ρ1 H1 ∧ Rel K ρ1 H1 A1 ∧ R1 ρ1 H1 a v ∧ Out K E R2 ρ1 H1 (k a A1) Q) := by
  cases r with
  | bad => exact h
  | exc C fs A => exact h
  | ok a A =>
    intro ρ1 H1 v e1 r1 q1
    refine ⟨ρ1, a, A, rfl, e1, r1, q1, ?_⟩
    have h : Out K E R2 ρ H (k a A) Q := h
    cases hk : k a A with
    | bad => rw [hk] at h; exact h
    | exc C fs A2 => rw [hk] at h; exact fun ρ' H' dx us e2 => h ρ' H' dx us (e1.trans e2)
    | ok c A2 => rw [hk] at h; exact fun ρ' H' w e2 => h ρ' H' w (e1.trans e2)
theorem Out.ext {ρ0 : List Addr} {H0 : Hp} {r : Res α} {Q : β → Hp → Prop} (h : Out K E R1 ρ0 H0 r Q) (e : Ext K ρ0 H0 ρ H) : Out K E R1 ρ H r Q := by
  cases r with
  | bad => exact h
  | exc C fs A => exact fun ρ' H' dx us e2 => h ρ' H' dx us (e.trans e2)
  | ok c A => exact fun ρ' H' w e2 => h ρ' H' w (e.trans e2)
theorem Out.mono {r : Res α} {Q Q' : β → Hp → Prop} (h : Out K E R1 ρ H r Q) (q : ∀ v H', Q v H' → Q' v H') : Out K E R1 ρ H r Q' := by
  cases r with
  | bad => exact h
  | exc C fs A => exact h
  | ok c A => exact fun ρ' H' w e r1 q1 => q _ _ (h ρ' H' w e r1 q1)
/-- at once -/
theorem Out.now {a : α} {A : AH} {Q : β → Hp → Prop} {v : β} (h : Out K E R1 ρ H (.ok a A) Q) (R : Rel K ρ H A) (r : R1 ρ H a v) : Q v H := h ρ H v .refl R r
end

/-! ## the readings that such functions give -/
def tA (K : PySem.W.Frag) (E : XK) (f : FE) : TE := fun σ H Q => ∃ ρ s A, SRel K ρ H s σ ∧ Rel K ρ H A ∧ OutE K E ρ H (f s A) Q
def tAA (K : PySem.W.Frag) (E : XK) (f : FA) : TA := fun σ H Q => ∃ ρ s A, SRel K ρ H s σ ∧ Rel K ρ H A ∧ OutA K E ρ H (f s A) Q
def tAT (K : PySem.W.Frag) (E : XK) (f : FT) : TT := fun σ H Q => ∃ ρ s A, SRel K ρ H s σ ∧ Rel K ρ H A ∧ OutT K E ρ H (f s A) Q
def tAO (K : PySem.W.Frag) (E : XK) (f : FO) : TO := fun σ H Q => ∃ ρ s A, SRel K ρ H s σ ∧ Rel K ρ H A ∧ OutO K E ρ H (f s A) Q
def SOut (K : PySem.W.Frag) (E : XK) (ρ : List Addr) (H : Hp) (r : Res Fl) (G : Ends) : Prop := match r with
  | .ok (.nx s) A' => ∀ ρ' H' σ', Ext K ρ H ρ' H' → Rel K ρ' H' A' → SRel K ρ' H' s σ' → G.nx σ' H'
  | .ok (.bk s) A' => ∀ ρ' H' σ', Ext K ρ H ρ' H' → Rel K ρ' H' A' → SRel K ρ' H' s σ' → G.bk σ' H'
  | .ok (.ct s) A' => ∀ ρ' H' σ', Ext K ρ H ρ' H' → Rel K ρ' H' A' → SRel K ρ' H' s σ' → G.ct σ' H'
  | .ok (.rt d) A' => ∀ ρ' H' v, Ext K ρ H ρ' H' → Rel K ρ' H' A' → Rp K ρ' H' d v → G.rt v H'
  | .exc C fs A' => ∀ ρ' H' dx us, Ext K ρ H ρ' H' → Rel K ρ' H' A' → H' dx = some (.xd us) → RpK K ρ' H' fs us → E (.ref C) (some dx) H'
  | .bad => False
def tAS (K : PySem.W.Frag) (E : XK) (f : FS) : TS := fun G σ H => ∃ ρ s A, SRel K ρ H s σ ∧ Rel K ρ H A ∧ SOut K E ρ H (f s A) G
theorem SOut.ext {K : PySem.W.Frag} {E : XK} {ρ0 ρ : List Addr} {H0 H : Hp} {r : Res Fl} {G : Ends} (h : SOut K E ρ0 H0 r G) (e : Ext K ρ0 H0 ρ H) : SOut K E ρ H r G := by
  cases r with
  | bad => exact h
  | exc C fs A => exact fun ρ' H' dx us e2 => h ρ' H' dx us (e.trans e2)
  | ok c A => cases c <;> exact fun ρ' H' w e2 => h ρ' H' w (e.trans e2)
theorem Out.bindS {K : PySem.W.Frag} {E : XK} {α β : Type} {R1 : List Addr → Hp → α → β → Prop} {ρ : List Addr} {H : Hp} {r : Res α} {k : α → AH → Res Fl} {G : Ends} (h : SOut K E ρ H (r.bind k) G) :
    Out K E R1 ρ H r (fun v H1 => ∃ ρ1 a A1, r = .ok a A1 ∧ Ext K ρ H ρ1 H1 ∧ Rel K ρ1 H1 A1 ∧ R1 ρ1 H1 a v ∧ SOut K E ρ1 H1 (k a A1) G) := by
  cases r with
  | bad => exact h
  | exc C fs A => exact h
  | ok a A => exact fun ρ1 H1 v e1 r1 q1 => ⟨ρ1, a, A, rfl, e1, r1, q1, SOut.ext h e1⟩
/-- what the judgements are about -/
abbrev AE (X : Cx) (E : XK) (e : Expr) (f : FE) : Prop := PE X e (tA X.K E f)
abbrev AA (X : Cx) (E : XK) (es : List Expr) (f : FA) : Prop := PA X es (tAA X.K E f)
abbrev AT (X : Cx) (E : XK) (e : Expr) (f : FT) : Prop := PT X e (tAT X.K E f)
abbrev AO_ (X : Cx) (E : XK) (e : Option Expr) (f : FO) : Prop := PO X e (tAO X.K E f)
abbrev AS (X : Cx) (E : XK) (e : Stmt) (f : FS) : Prop := PS X e (tAS X.K E f)
abbrev ASs (X : Cx) (E : XK) (e : List Stmt) (f : FS) : Prop := PSs X e (tAS X.K E f)
section
variable {X : Cx}
theorem pe_mono {e : Expr} {t u : TE} (h : PE X e t) (m : ∀ σ H Q, u σ H Q → t σ H Q) : PE X e u := ⟨fun pins s σ H Q I q => h.run pins s σ H Q I (m _ _ _ q)⟩
theorem pa_mono {e : List Expr} {t u : TA} (h : PA X e t) (m : ∀ σ H Q, u σ H Q → t σ H Q) : PA X e u := ⟨fun pos pins s σ H Q I q => h.run pos pins s σ H Q I (m _ _ _ q)⟩
theorem pt_mono {e : Expr} {t u : TT} (h : PT X e t) (m : ∀ σ H Q, u σ H Q → t σ H Q) : PT X e u := ⟨fun pins s σ H Q I q => h.run pins s σ H Q I (m _ _ _ q)⟩
theorem pw_mono {e : Expr} {t u : TT} (h : PW X e t) (m : ∀ σ H Q, u σ H Q → t σ H Q) : PW X e u := ⟨fun whole pins s σ H Q I q => h.run whole pins s σ H Q I (m _ _ _ q)⟩
theorem ps_mono {e : Stmt} {t u : TS} (h : PS X e t) (m : ∀ G σ H, u G σ H → t G σ H) : PS X e u := ⟨fun pins s σ H G I q => h.run pins s σ H G I (m _ _ _ q)⟩
theorem pss_mono {e : List Stmt} {t u : TS} (h : PSs X e t) (m : ∀ G σ H, u G σ H → t G σ H) : PSs X e u := ⟨fun pins s σ H G I q => h.run pins s σ H G I (m _ _ _ q)⟩
theorem op_mono {f : Value → Value → Sem Value} {t u : R2} (h : OpR X f t) (m : ∀ x y H Q, u x y H Q → t x y H Q) : OpR X f u := fun pins s σ H x y v w Q I rx ry q => h pins s σ H x y v w Q I rx ry (m _ _ _ _ q)
theorem callR_mono {f : Value} {t u : List V → Hp → VK → Prop} (h : CallR X f t) (m : ∀ xs H Q, u xs H Q → t xs H Q) : CallR X f u := fun pins s σ H xs us Q I r q => h pins s σ H xs us Q I r (m _ _ _ q)
end
end Ab

namespace Ab
open PySem PySem.Spec PyProof.Rows L2
open scoped Classical

/-! ## reading cells -/
def rdL (A : AH) : D → Option (List D)
  | .ref i => match A[i]? with
    | some (.lst xs) => some xs
    | some (.frz xs) => some xs
    | _ => none
  | _ => none
def muL (A : AH) : D → Option (List D)
  | .ref i => match A[i]? with
    | some (.lst xs) => some xs
    | _ => none
  | _ => none
def rdK (A : AH) : D → Option (List (Key × D))
  | .ref i => match A[i]? with
    | some (.dic xs) => some xs
    | _ => none
  | _ => none
def rdI (A : AH) : D → Option (Addr × List (Str × D))
  | .ref i => match A[i]? with
    | some (.ins C xs) => some (C, xs)
    | _ => none
  | _ => none
def rdS (A : AH) : D → Option (List D)
  | .tup xs => some xs
  | d => rdL A d
section
variable {K : PySem.W.Frag} {ρ : List Addr} {H : Hp} {A : AH} {d : D} {v : V}
theorem rdL_ok (R : Rel K ρ H A) (r : Rp K ρ H d v) {ds : List D} (h : rdL A d = some ds) : ∃ a xs, v = .ref a ∧ SqL K H a xs ∧ RpL K ρ H ds xs := by
  cases d with
  | ref i =>
    obtain ⟨a, h1, rfl⟩ := r
    obtain ⟨o, h2, h3⟩ := R.has h1
    unfold rdL at h
    simp only [h2] at h
    cases o with
    | lst xs => cases h; obtain ⟨us, e1, e2⟩ := h3; exact ⟨a, us, rfl, .inl (.inl e1), e2⟩
    | frz xs => cases h; obtain ⟨us, e1, e2⟩ := h3; exact ⟨a, us, rfl, e1.sq, e2⟩
    | dic _ => cases h
    | ins _ _ => cases h
  | _ => cases h
theorem muL_ok (R : Rel K ρ H A) (r : Rp K ρ H d v) {ds : List D} (h : muL A d = some ds) : ∃ i a xs, d = .ref i ∧ v = .ref a ∧ ρ[i]? = some a ∧ A[i]? = some (.lst ds) ∧ H a = some (.lst xs) ∧ RpL K ρ H ds xs := by
  cases d with
  | ref i =>
    obtain ⟨a, h1, rfl⟩ := r
    obtain ⟨o, h2, h3⟩ := R.has h1
    unfold muL at h
    simp only [h2] at h
    cases o with
    | lst xs => cases h; obtain ⟨us, e1, e2⟩ := h3; exact ⟨i, a, us, rfl, rfl, h1, h2, e1, e2⟩
    | frz xs => cases h
    | dic _ => cases h
    | ins _ _ => cases h
  | _ => cases h
theorem rdK_ok (R : Rel K ρ H A) (r : Rp K ρ H d v) {ds : List (Key × D)} (h : rdK A d = some ds) : ∃ i a xs, d = .ref i ∧ v = .ref a ∧ ρ[i]? = some a ∧ A[i]? = some (.dic ds) ∧ H a = some (.dK xs) ∧ RpK K ρ H ds xs := by
  cases d with
  | ref i =>
    obtain ⟨a, h1, rfl⟩ := r
    obtain ⟨o, h2, h3⟩ := R.has h1
    unfold rdK at h
    simp only [h2] at h
    cases o with
    | dic xs => cases h; obtain ⟨us, e1, e2⟩ := h3; exact ⟨i, a, us, rfl, rfl, h1, h2, e1, e2⟩
    | lst xs => cases h
    | frz xs => cases h
    | ins _ _ => cases h
  | _ => cases h
theorem rdI_ok (R : Rel K ρ H A) (r : Rp K ρ H d v) {C : Addr} {ds : List (Str × D)} (h : rdI A d = some (C, ds)) : ∃ i a dx xs, d = .ref i ∧ v = .ref a ∧ ρ[i]? = some a ∧ A[i]? = some (.ins C ds) ∧ H a = some (.ins C dx xs) ∧ RpK K ρ H ds xs := by
  cases d with
  | ref i =>
    obtain ⟨a, h1, rfl⟩ := r
    obtain ⟨o, h2, h3⟩ := R.has h1
    unfold rdI at h
    simp only [h2] at h
    cases o with
    | ins C' xs => cases h; obtain ⟨dx, us, e1, e2⟩ := h3; exact ⟨i, a, dx, us, rfl, rfl, h1, h2, e1, e2⟩
    | lst xs => cases h
    | frz xs => cases h
    | dic _ => cases h
  | _ => cases h
theorem rdS_ok (R : Rel K ρ H A) (r : Rp K ρ H d v) {ds : List D} (h : rdS A d = some ds) : ∃ a xs, v = .ref a ∧ (SqL K H a xs ∨ SqT K H a xs) ∧ RpL K ρ H ds xs := by
  cases d with
  | tup xs =>
    cases h
    obtain ⟨a, us, h1, h2, h3⟩ := r
    exact ⟨a, us, h1, .inr h2, h3⟩
  | ref i =>
    obtain ⟨a, xs, h1, h2, h3⟩ := rdL_ok R r (show rdL A (.ref i) = some ds from h)
    exact ⟨a, xs, h1, .inl h2, h3⟩
  | _ => cases h
end

theorem RpL.isNil {K : PySem.W.Frag} {ρ : List Addr} {H : Hp} {ds : List D} (h : RpL K ρ H ds []) : ds = [] := by
  have := h.length
  cases ds with
  | nil => rfl
  | cons _ _ => simp at this
/-! ## names, constants -/
def fV (i : Nat) : FE := fun s A => match s[i]? with
  | some (some d) => .ok d A
  | _ => .bad
def fC (d : D) : FE := fun _ A => .ok d A
section
variable {X : Cx} {E : XK}
theorem ae_v (i : Nat) {x : Str} {pos : Pos} (hN : X.N[i]? = some x := by rfl) (hv : Vis X.env.scope x := by first | exact Or.inl rfl | exact Or.inr (Or.inl rfl) | exact Or.inr (Or.inr rfl)) (hd : (x == ("__debug__" : Str)) = false := by decide)
    (hcd : (x == ("__classdict__" : Str)) = false := by decide) : AE X E (.Name x pos) (fV i) := pe_mono (pe_var hN hv hd hcd) fun σ H Q h => by
  obtain ⟨ρ, s, A, hs, R, h⟩ := h
  unfold fV at h
  cases e : s[i]? with
  | none => simp only [e] at h; exact h.elim
  | some o =>
    cases o with
    | none => simp only [e] at h; exact h.elim
    | some d =>
      simp only [e] at h
      obtain ⟨v, h1, h2⟩ := hs.at_ i d e
      exact ⟨v, h1, h.now R h2⟩
theorem ae_c {e : Expr} {d : D} {v : V} (h : PE X e (tC v)) (r : ∀ ρ H, Rp X.K ρ H d v) : AE X E e (fC d) := pe_mono h fun σ H Q h => by
  obtain ⟨ρ, s, A, hs, R, h⟩ := h
  exact Out.now h R (r ρ H)
theorem ae_int {i j pos} : AE X E (.Constant (.int i) j pos) (fC (.int i)) := ae_c pe_int fun _ _ => rfl
theorem ae_bl {i j pos} : AE X E (.Constant (.bool i) j pos) (fC (.bl i)) := ae_c pe_bl fun _ _ => rfl
theorem ae_non {j pos} : AE X E (.Constant .none j pos) (fC .non) := ae_c pe_non fun _ _ => rfl
theorem ae_str {i j pos} : AE X E (.Constant (.str i) j pos) (fC (.str i)) := ae_c pe_str fun _ _ => rfl
end

/-! ## operators -/
def rA (K : PySem.W.Frag) (E : XK) (g : D → D → AH → Res D) : R2 := fun x y H Q => ∃ ρ A d e, Rel K ρ H A ∧ Rp K ρ H d x ∧ Rp K ρ H e y ∧ OutE K E ρ H (g d e A) Q
abbrev AOp (X : Cx) (E : XK) (f : Value → Value → Sem Value) (g : D → D → AH → Res D) : Prop := OpR X f (rA X.K E g)
def fOp (g : D → D → AH → Res D) (f1 f2 : FE) : FE := fun s A => (f1 s A).bind fun x A1 => (f2 s A1).bind fun y A2 => g x y A2
def rU1 (K : PySem.W.Frag) (E : XK) (g : D → AH → Res D) : V → Hp → VK → Prop := fun x H Q => ∃ ρ A d, Rel K ρ H A ∧ Rp K ρ H d x ∧ OutE K E ρ H (g d A) Q
def fUn (g : D → AH → Res D) (f1 : FE) : FE := fun s A => (f1 s A).bind fun x A1 => g x A1
section
variable {X : Cx} {E : XK} {a b : Expr} {f1 f2 : FE} {pos : Pos} {g : D → D → AH → Res D}
theorem two_ {K : PySem.W.Frag} {σ : L2.St} {H : Hp} {Q : VK} (h : tA K E (fOp g f1 f2) σ H Q) : tA K E f1 σ H fun x H1 => tA K E f2 σ H1 fun y H2 => rA K E g x y H2 Q := by
  obtain ⟨ρ, s, A, hs, R, h⟩ := h
  refine ⟨ρ, s, A, hs, R, (Out.bind h).mono fun x H1 ⟨ρ1, d, A1, _, e1, R1, r1, h1⟩ => ⟨ρ1, s, A1, hs.ext e1, R1, (Out.bind h1).mono fun y H2 ⟨ρ2, d2, A2, _, e2, R2, r2, h2⟩ => ⟨ρ2, A2, d, d2, R2, r1.ext e2, r2, h2⟩⟩⟩
theorem ae_op {op : Operator} (ho : AOp X E (binaryOp op) g) (ha : AE X E a f1) (hb : AE X E b f2) : AE X E (.BinOp a op b pos) (fOp g f1 f2) := pe_mono (pe_op ho ha hb) fun _ _ _ => two_
theorem ae_cmp {op : CmpOp} (ho : AOp X E (compareOp op) g) (ha : AE X E a f1) (hb : AE X E b f2) (hm : behindInMarks op b = false := by first | exact nomark _ | with_unfolding_all rfl) : AE X E (.Compare a [op] [b] pos) (fOp g f1 f2) := pe_mono (pe_cmpR ho ha hb hm) fun _ _ _ => two_
theorem ae_un {op : UnaryOp} {g : D → AH → Res D} (ho : UnR X (unaryOp op) (rU1 X.K E g)) (ha : AE X E a f1) : AE X E (.UnaryOp op a pos) (fUn g f1) := pe_mono (pe_un ho ha) fun σ H Q h => by
  obtain ⟨ρ, s, A, hs, R, h⟩ := h
  exact ⟨ρ, s, A, hs, R, (Out.bind h).mono fun x H1 ⟨ρ1, d, A1, _, e1, R1, r1, h1⟩ => ⟨ρ1, A1, d, R1, r1, h1⟩⟩
end

/-! ### the operators on data -/
def alloc (o : AO) (A : AH) : Res D := .ok (.ref A.length) (A ++ [o])
section
variable {K : PySem.W.Frag} {E : XK} {ρ : List Addr} {H : Hp} {A : AH} {Q : VK} {xs : List V} {ds : List D}
theorem new_lst (R : Rel K ρ H A) (r : RpL K ρ H ds xs) (h : OutE K E ρ H (alloc (.lst ds) A) Q) : ∀ p, H p = none → Q (.ref p) (upd H p (.lst xs)) := fun p hp => by
  have e : Ext K ρ H (ρ ++ [p]) (upd H p (.lst xs)) := Ext.new hp [p]
  exact h (ρ ++ [p]) (upd H p (.lst xs)) (.ref p) e (R.new hp ⟨xs, upd_same, r.ext e⟩) ⟨p, by rw [← R.len]; simp, rfl⟩
theorem new_tup (R : Rel K ρ H A) (r : RpL K ρ H ds xs) (h : OutE K E ρ H (.ok (.tup ds) A) Q) : ∀ p, H p = none → Q (.ref p) (upd H p (.tup xs)) := fun p hp => by
  have e : Ext K ρ H ρ (upd H p (.tup xs)) := Ext.new0 hp
  exact h ρ _ (.ref p) e (R.new0 hp) ⟨p, xs, rfl, .inl (.inl upd_same), r.ext e⟩
theorem new_dic {kvs : List (Key × D)} {us : List (Key × V)} (R : Rel K ρ H A) (r : RpK K ρ H kvs us) (h : OutE K E ρ H (alloc (.dic kvs) A) Q) : ∀ p, H p = none → Q (.ref p) (upd H p (.dK us)) := fun p hp => by
  have e : Ext K ρ H (ρ ++ [p]) (upd H p (.dK us)) := Ext.new hp [p]
  exact h (ρ ++ [p]) _ (.ref p) e (R.new hp ⟨us, upd_same, r.ext e⟩) ⟨p, by rw [← R.len]; simp, rfl⟩
end
def addD : D → D → AH → Res D
  | .int i, .int j, A => .ok (.int (i + j)) A
  | .str x, .str y, A => if x.length + y.length ≤ sizeLine then .ok (.str (x ++ y)) A else .bad
  | .tup xs, .tup ys, A => if xs.length + ys.length ≤ sizeLine then .ok (.tup (xs ++ ys)) A else .bad
  | .ref i, .ref j, A => match muL A (.ref i), muL A (.ref j) with
    | some xs, some ys => if xs.length + ys.length ≤ sizeLine then alloc (.lst (xs ++ ys)) A else .bad
    | _, _ => .bad
  | _, _, _ => .bad
def subD : D → D → AH → Res D
  | .int i, .int j, A => .ok (.int (i - j)) A
  | _, _, _ => .bad
def mulOk (i j : Int) : Prop := CMul i j ∨ CMulW i j
noncomputable def mulD : D → D → AH → Res D
  | .int i, .int j, A => if mulOk i j then .ok (.int (i * j)) A else .bad
  | .ref i, .int k, A => match muL A (.ref i) with
    | some xs => if -(2 ^ 63) ≤ k ∧ k < 2 ^ 63 ∧ xs.length * k.toNat ≤ sizeLine then alloc (.lst (List.replicate k.toNat xs).flatten) A else .bad
    | _ => .bad
  | _, _, _ => .bad
noncomputable def fdivD : D → D → AH → Res D
  | .int i, .int j, A => if CDivW i j then .ok (.int (i / j)) A else .bad
  | _, _, _ => .bad
def modD : D → D → AH → Res D
  | .int i, .int j, A => if 0 < j then .ok (.int (i % j)) A else .bad
  | _, _, _ => .bad
noncomputable def powD : D → D → AH → Res D
  | .int i, .int j, A => if CPow i j then .ok (.int (i ^ j.toNat)) A else .bad
  | _, _, _ => .bad
def negD : D → AH → Res D
  | .int i, A => .ok (.int (-i)) A
  | _, _ => .bad
section
variable {X : Cx} {E : XK}
theorem aop_add : AOp X E (binaryOp .Add) addD := op_mono ((op_add.or op_add_str).or (op_catA.or op_cat)) fun x y H Q h => by
  obtain ⟨ρ, A, d, e, R, r1, r2, h⟩ := h
  unfold addD at h
  split at h
  · cases r1; cases r2
    exact .inl (.inl ⟨_, _, rfl, rfl, h.now R rfl⟩)
  · split at h
    · rename_i z
      cases r1; cases r2
      exact .inl (.inr ⟨_, _, rfl, rfl, z, h.now R rfl⟩)
    · exact h.elim
  · split at h
    · rename_i xs ys z
      obtain ⟨a, us, rfl, q1, q2⟩ := r1
      obtain ⟨b, ws, rfl, q3, q4⟩ := r2
      refine .inr (.inl ⟨a, b, us, ws, rfl, rfl, q1, q3, by rw [q2.length, q4.length]; exact z, ?_, ?_, ?_⟩)
      · rintro rfl
        rw [q2.isNil, List.nil_append] at h
        exact h.now R ⟨b, ws, rfl, q3, q4⟩
      · rintro _ rfl
        rw [q4.isNil, List.append_nil] at h
        exact h.now R ⟨a, us, rfl, q1, q2⟩
      · intro _ _
        exact new_tup R (q2.append q4) h
    · exact h.elim
  · split at h
    · rename_i xs ys m1 m2
      split at h
      · rename_i z
        obtain ⟨_, a, us, _, rfl, _, _, q1, q2⟩ := muL_ok R r1 m1
        obtain ⟨_, b, ws, _, rfl, _, _, q3, q4⟩ := muL_ok R r2 m2
        refine .inr (.inr ⟨a, b, us, ws, rfl, rfl, q1, q3, by rw [q2.length, q4.length]; exact z, new_lst R (q2.append q4) h⟩)
      · exact h.elim
    · exact h.elim
  · exact h.elim
theorem aop_sub : AOp X E (binaryOp .Sub) subD := op_mono op_sub fun x y H Q h => by
  obtain ⟨ρ, A, d, e, R, r1, r2, h⟩ := h
  unfold subD at h
  split at h
  · cases r1; cases r2
    exact ⟨_, _, rfl, rfl, h.now R rfl⟩
  · exact h.elim
theorem aop_mul : AOp X E (binaryOp .Mult) mulD := op_mono ((op_mul.or op_mulW).or op_rep) fun x y H Q h => by
  obtain ⟨ρ, A, d, e, R, r1, r2, h⟩ := h
  unfold mulD at h
  split at h
  · split at h
    · rename_i z
      cases r1; cases r2
      rcases z with z | z
      · exact .inl (.inl ⟨_, _, rfl, rfl, z, h.now R rfl⟩)
      · exact .inl (.inr ⟨_, _, rfl, rfl, z, h.now R rfl⟩)
    · exact h.elim
  · split at h
    · rename_i xs m1
      split at h
      · rename_i z
        obtain ⟨_, a, us, _, rfl, _, _, q1, q2⟩ := muL_ok R r1 m1
        cases r2
        refine .inr ⟨a, _, us, rfl, rfl, q1, z.1, z.2.1, by rw [q2.length]; exact z.2.2, new_lst R (q2.rep _) h⟩
      · exact h.elim
    · exact h.elim
  · exact h.elim
theorem aop_fdiv : AOp X E (binaryOp .FloorDiv) fdivD := op_mono op_fdivW fun x y H Q h => by
  obtain ⟨ρ, A, d, e, R, r1, r2, h⟩ := h
  unfold fdivD at h
  split at h
  · split at h
    · rename_i z
      cases r1; cases r2
      exact ⟨_, _, rfl, rfl, z, h.now R rfl⟩
    · exact h.elim
  · exact h.elim
theorem aop_mod : AOp X E (binaryOp .Mod) modD := op_mono op_mod fun x y H Q h => by
  obtain ⟨ρ, A, d, e, R, r1, r2, h⟩ := h
  unfold modD at h
  split at h
  · split at h
    · rename_i z
      cases r1; cases r2
      exact ⟨_, _, rfl, rfl, z, h.now R rfl⟩
    · exact h.elim
  · exact h.elim
theorem aop_pow : AOp X E (binaryOp .Pow) powD := op_mono op_pow fun x y H Q h => by
  obtain ⟨ρ, A, d, e, R, r1, r2, h⟩ := h
  unfold powD at h
  split at h
  · split at h
    · rename_i z
      cases r1; cases r2
      exact ⟨_, _, rfl, rfl, z, h.now R rfl⟩
    · exact h.elim
  · exact h.elim
theorem aun_neg : UnR X (unaryOp .USub) (rU1 X.K E negD) := fun pins s σ H x v Q I rx h => by
  obtain ⟨ρ, A, d, R, r1, h⟩ := h
  unfold negD at h
  split at h
  · cases r1
    exact un_neg pins s σ H _ v Q I rx ⟨_, rfl, h.now R rfl⟩
  · exact h.elim
end
end Ab

namespace Ab
open PySem PySem.Spec PyProof.Rows L2
open scoped Classical

/-! ## data without cells, as PyData -/
mutual
def pd : D → Option PyData
  | .non => some .none
  | .bl b => some (.bool b)
  | .int i => some (.int i)
  | .str x => some (.str x)
  | .tup ds => match pdL ds with
    | some ps => some (.tuple ps)
    | none => none
  | .ref _ => none
def pdL : List D → Option (List PyData)
  | [] => some []
  | d :: ds => match pd d, pdL ds with
    | some p, some ps => some (p :: ps)
    | _, _ => none
end
def pd1 (A : AH) : D → Option PyData
  | .ref i => match rdL A (.ref i) with
    | some xs => match pdL xs with
      | some ps => some (.list ps)
      | none => none
    | none => none
  | d => pd d
section
variable {K : PySem.W.Frag} {ρ : List Addr} {H : Hp} {A : AH}
mutual
theorem pd_ok : ∀ (d : D) (v : V) (p : PyData), Rp K ρ H d v → pd d = some p → Dp K H v p
  | .non, v, p, r, h => by cases r; cases h; exact .non
  | .bl b, v, p, r, h => by cases r; cases h; exact .bl b
  | .int i, v, p, r, h => by cases r; cases h; exact .int i
  | .str x, v, p, r, h => by cases r; cases h; exact .str x
  | .ref i, v, p, r, h => by cases h
  | .tup ds, v, p, r, h => by
    obtain ⟨a, xs, rfl, h2, h3⟩ := r
    unfold pd at h
    split at h
    · rename_i ps e
      cases h
      exact .tup h2 (pdL_ok ds xs ps h3 e)
    · cases h
theorem pdL_ok : ∀ (ds : List D) (xs : List V) (ps : List PyData), RpL K ρ H ds xs → pdL ds = some ps → DpAll K H xs ps
  | [], xs, ps, r, h => by cases r; cases h; exact .nil
  | d :: ds, xs, ps, r, h => by
    obtain ⟨x, r', rfl, h2, h3⟩ := r
    unfold pdL at h
    split at h
    · rename_i p ps' e1 e2
      cases h
      exact .cons (pd_ok d x p h2 e1) (pdL_ok ds r' ps' h3 e2)
    · cases h
end
theorem pd1_ok (R : Rel K ρ H A) {d : D} {v : V} {p : PyData} (r : Rp K ρ H d v) (h : pd1 A d = some p) : Dp K H v p := by
  cases d with
  | ref i =>
    unfold pd1 at h
    simp only at h
    split at h
    · rename_i xs e
      split at h
      · rename_i ps e2
        cases h
        obtain ⟨a, us, rfl, q1, q2⟩ := rdL_ok R r e
        exact .lst q1 (pdL_ok xs us ps q2 e2)
      · cases h
    · cases h
  | _ => exact pd_ok _ _ _ r h
end
/-- == of plain things -/
def scalD : D → D → Option Bool
  | .int i, .int j => some (decide (i = j))
  | .str x, .str y => some (decide (x = y))
  | .bl a, .bl b => some (decide (a = b))
  | .non, .non => some true
  | .non, .int _ => some false
  | .int _, .non => some false
  | .non, .bl _ => some false
  | .bl _, .non => some false
  | .non, .str _ => some false
  | .str _, .non => some false
  | .int _, .str _ => some false
  | .str _, .int _ => some false
  | .bl _, .str _ => some false
  | .str _, .bl _ => some false
  | _, _ => none
def eqB (d e : D) (A : AH) : Option Bool := match scalD d e with
  | some b => some b
  | none => match pd1 A d, pd1 A e with
    | some p, some q => if (SeqAt.shaped p && SeqAt.shaped q) = true then some (PyData.eqv p q) else none
    | _, _ => none
def okB (o : Option Bool) (A : AH) : Res D := match o with
  | some b => .ok (.bl b) A
  | none => .bad
def eqD (d e : D) (A : AH) : Res D := okB (eqB d e A) A
def neD (d e : D) (A : AH) : Res D := okB ((eqB d e A).map (!·)) A
section
variable {X : Cx} {E : XK} {K : PySem.W.Frag} {ρ : List Addr} {H : Hp} {A : AH}
theorem scal_ok {d e : D} {x y : V} {b : Bool} (r1 : Rp K ρ H d x) (r2 : Rp K ρ H e y) (h : scalD d e = some b) : scal x y = true ∧ decide (x = y) = b := by
  cases d <;> cases e <;> first | (cases h; done) | (cases r1; cases r2; cases h; first | exact ⟨rfl, rfl⟩ | exact ⟨rfl, by simp⟩)
theorem aop_eq (hu : X.A.units + 64 < cLine) : AOp X E (compareOp .Eq) eqD := op_mono (op_eq.or (op_eqD hu)) fun x y H Q h => by
  obtain ⟨ρ, A, d, e, R, r1, r2, h⟩ := h
  unfold eqD eqB at h
  split at h
  · rename_i b e1
    obtain ⟨s1, s2⟩ := scal_ok r1 r2 e1
    exact .inl ⟨s1, by rw [s2]; exact h.now R rfl⟩
  · split at h
    · rename_i p q e1 e2
      split at h
      · rename_i z
        rw [Bool.and_eq_true] at z
        exact .inr ⟨p, q, pd1_ok R r1 e1, pd1_ok R r2 e2, z.1, z.2, h.now R rfl⟩
      · exact h.elim
    · exact h.elim
theorem aop_ne (hu : X.A.units + 64 < cLine) : AOp X E (compareOp .NotEq) neD := op_mono (op_ne.or (op_neD hu)) fun x y H Q h => by
  obtain ⟨ρ, A, d, e, R, r1, r2, h⟩ := h
  unfold neD eqB at h
  split at h
  · rename_i b e1
    obtain ⟨s1, s2⟩ := scal_ok r1 r2 e1
    exact .inl ⟨s1, by rw [s2]; exact h.now R rfl⟩
  · split at h
    · rename_i p q e1 e2
      split at h
      · rename_i z
        rw [Bool.and_eq_true] at z
        exact .inr ⟨p, q, pd1_ok R r1 e1, pd1_ok R r2 e2, z.1, z.2, h.now R rfl⟩
      · exact h.elim
    · exact h.elim
end
/-! ## is, order -/
def isNon : D → Bool
  | .non => true
  | _ => false
def isD : D → D → AH → Res D
  | d, .non, A => .ok (.bl (isNon d)) A
  | .bl a, .bl b, A => .ok (.bl (decide (a = b))) A
  | _, _, _ => .bad
def isntD : D → D → AH → Res D
  | d, .non, A => .ok (.bl (!isNon d)) A
  | .bl a, .bl b, A => .ok (.bl (!decide (a = b))) A
  | _, _, _ => .bad
def ltD : D → D → AH → Res D
  | .int i, .int j, A => .ok (.bl (decide (i < j))) A
  | .str i, .str j, A => .ok (.bl (decide (i.cps.toList < j.cps.toList))) A
  | _, _, _ => .bad
def leD : D → D → AH → Res D
  | .int i, .int j, A => .ok (.bl (decide (i ≤ j))) A
  | .str i, .str j, A => .ok (.bl (!decide (j.cps.toList < i.cps.toList))) A
  | _, _, _ => .bad
def gtD : D → D → AH → Res D
  | .int i, .int j, A => .ok (.bl (decide (j < i))) A
  | .str i, .str j, A => .ok (.bl (decide (j.cps.toList < i.cps.toList))) A
  | _, _, _ => .bad
def geD : D → D → AH → Res D
  | .int i, .int j, A => .ok (.bl (decide (j ≤ i))) A
  | .str i, .str j, A => .ok (.bl (!decide (i.cps.toList < j.cps.toList))) A
  | _, _, _ => .bad
section
variable {X : Cx} {E : XK} {K : PySem.W.Frag} {ρ : List Addr} {H : Hp} {A : AH}
theorem isNon_ok {d : D} {x : V} (r : Rp K ρ H d x) : decide (x = .non) = isNon d := by
  cases d with
  | non => cases r; rfl
  | bl _ => cases r; rfl
  | int _ => cases r; rfl
  | str _ => cases r; rfl
  | tup _ => obtain ⟨a, xs, rfl, _⟩ := r; rfl
  | ref _ => obtain ⟨a, _, rfl⟩ := r; rfl
theorem aop_is : AOp X E (compareOp .Is) isD := op_mono (op_isN.or op_isBl) fun x y H Q h => by
  obtain ⟨ρ, A, d, e, R, r1, r2, h⟩ := h
  unfold isD at h
  split at h
  · cases r2
    exact .inl ⟨rfl, by rw [isNon_ok r1]; exact h.now R rfl⟩
  · cases r1; cases r2
    exact .inr ⟨_, _, rfl, rfl, h.now R rfl⟩
  · exact h.elim
theorem aop_isnt : AOp X E (compareOp .IsNot) isntD := op_mono (op_notN.or op_notBl) fun x y H Q h => by
  obtain ⟨ρ, A, d, e, R, r1, r2, h⟩ := h
  unfold isntD at h
  split at h
  · cases r2
    exact .inl ⟨rfl, by rw [isNon_ok r1]; exact h.now R rfl⟩
  · cases r1; cases r2
    exact .inr ⟨_, _, rfl, rfl, h.now R rfl⟩
  · exact h.elim
theorem aop_lt : AOp X E (compareOp .Lt) ltD := op_mono (op_lt.or op_lt_str) fun x y H Q h => by
  obtain ⟨ρ, A, d, e, R, r1, r2, h⟩ := h
  unfold ltD at h
  split at h
  · cases r1; cases r2; exact .inl ⟨_, _, rfl, rfl, h.now R rfl⟩
  · cases r1; cases r2; exact .inr ⟨_, _, rfl, rfl, h.now R rfl⟩
  · exact h.elim
theorem aop_le : AOp X E (compareOp .LtE) leD := op_mono (op_le.or op_le_str) fun x y H Q h => by
  obtain ⟨ρ, A, d, e, R, r1, r2, h⟩ := h
  unfold leD at h
  split at h
  · cases r1; cases r2; exact .inl ⟨_, _, rfl, rfl, h.now R rfl⟩
  · cases r1; cases r2; exact .inr ⟨_, _, rfl, rfl, h.now R rfl⟩
  · exact h.elim
theorem aop_gt : AOp X E (compareOp .Gt) gtD := op_mono (op_gt.or op_gt_str) fun x y H Q h => by
  obtain ⟨ρ, A, d, e, R, r1, r2, h⟩ := h
  unfold gtD at h
  split at h
  · cases r1; cases r2; exact .inl ⟨_, _, rfl, rfl, h.now R rfl⟩
  · cases r1; cases r2; exact .inr ⟨_, _, rfl, rfl, h.now R rfl⟩
  · exact h.elim
theorem aop_ge : AOp X E (compareOp .GtE) geD := op_mono (op_ge.or op_ge_str) fun x y H Q h => by
  obtain ⟨ρ, A, d, e, R, r1, r2, h⟩ := h
  unfold geD at h
  split at h
  · cases r1; cases r2; exact .inl ⟨_, _, rfl, rfl, h.now R rfl⟩
  · cases r1; cases r2; exact .inr ⟨_, _, rfl, rfl, h.now R rfl⟩
  · exact h.elim
end
/-! ## chains -/
def fChain (g g' : D → D → AH → Res D) (f1 f2 f3 : FE) : FE := fun s A => (f1 s A).bind fun x A1 => (f2 s A1).bind fun y A2 => (g x y A2).bind fun z A3 => match z with
  | .bl true => (f3 s A3).bind fun w A4 => g' y w A4
  | .bl false => .ok (.bl false) A3
  | _ => .bad
section
variable {X : Cx} {E : XK} {a b c : Expr} {f1 f2 f3 : FE} {pos : Pos} {g g' : D → D → AH → Res D}
theorem chain_ {K : PySem.W.Frag} {σ : L2.St} {H : Hp} {Q : VK} (h : tA K E (fChain g g' f1 f2 f3) σ H Q) : tChain (rA K E g) (rA K E g') (tA K E f1) (tA K E f2) (tA K E f3) σ H Q := by
  obtain ⟨ρ, s, A, hs, R, h⟩ := h
  refine ⟨ρ, s, A, hs, R, (Out.bind h).mono fun x H1 ⟨ρ1, d, A1, _, e1, R1, r1, h1⟩ => ⟨ρ1, s, A1, hs.ext e1, R1, (Out.bind h1).mono fun y H2 ⟨ρ2, d2, A2, _, e2, R2, r2, h2⟩ => ⟨ρ2, A2, d, d2, R2, r1.ext e2, r2, ?_⟩⟩⟩
  refine (Out.bind h2).mono fun z H3 ⟨ρ3, d3, A3, _, e3, R3, r3, h3⟩ => ?_
  split at h3
  · cases r3
    refine ⟨true, rfl, ?_⟩
    rw [if_pos rfl]
    exact ⟨ρ3, s, A3, hs.ext (e1.trans (e2.trans e3)), R3, (Out.bind h3).mono fun w H4 ⟨ρ4, d4, A4, _, e4, R4, r4, h4⟩ => ⟨ρ4, A4, d2, d4, R4, r2.ext (e3.trans e4), r4, h4⟩⟩
  · cases r3
    refine ⟨false, rfl, ?_⟩
    rw [if_neg Bool.false_ne_true]
    exact h3.now R3 rfl
  · exact h3.elim
theorem ae_chain {op op' : CmpOp} (ho : AOp X E (compareOp op) g) (ho' : AOp X E (compareOp op') g') (ha : AE X E a f1) (hb : AE X E b f2) (hc : AE X E c f3) (hm : lastMarks [op, op'] [b, c] = false := by with_unfolding_all rfl) :
    AE X E (.Compare a [op, op'] [b, c] pos) (fChain g g' f1 f2 f3) := pe_mono (pe_chain ho ho' ha hb hc hm) fun _ _ _ => chain_
end
/-! ## truth, tests -/
def truD (A : AH) : D → Option Bool
  | .non => some false
  | .bl b => some b
  | .int i => some (i != 0)
  | .str x => if x.length ≤ sizeLine then some ((x.length : Int) != 0) else none
  | .tup ds => some (!ds.isEmpty)
  | .ref i => match A[i]? with
    | some (.lst xs) => some (!xs.isEmpty)
    | some (.frz xs) => some (!xs.isEmpty)
    | some (.dic xs) => some (!xs.isEmpty)
    | _ => none
theorem empty_of {α β : Type} {xs : List α} {ys : List β} (h : xs.length = ys.length) : xs.isEmpty = ys.isEmpty := by cases xs <;> cases ys <;> first | rfl | simp at h
theorem RpK.length {κ : Type} {K : PySem.W.Frag} {ρ : List Addr} {H : Hp} : ∀ {ps : List (κ × D)} {us : List (κ × V)}, RpK K ρ H ps us → us.length = ps.length
  | [], us, h => by rw [show us = [] from h]; rfl
  | p :: ps, us, h => by
    obtain ⟨x, r, rfl, h2, h3⟩ := h
    simp [RpK.length h3]
theorem tru_of {K : PySem.W.Frag} {ρ : List Addr} {H : Hp} {A : AH} {d : D} {x : V} {k : Bool} (R : Rel K ρ H A) (r : Rp K ρ H d x) (h : truD A d = some k) : TruV K x H k := by
  cases d with
  | non => cases r; cases h; rfl
  | bl _ => cases r; cases h; rfl
  | int _ => cases r; cases h; rfl
  | str y =>
    cases r
    simp only [truD] at h
    by_cases z : y.length ≤ sizeLine
    · rw [if_pos z] at h; cases h; exact ⟨z, rfl⟩
    · rw [if_neg z] at h; cases h
  | tup ds =>
    obtain ⟨a, xs, rfl, h2, h3⟩ := r
    cases h
    exact .inr (.inl ⟨xs, h2, by rw [empty_of h3.length]⟩)
  | ref i =>
    obtain ⟨a, h1, rfl⟩ := r
    obtain ⟨o, h2, h3⟩ := R.has h1
    unfold truD at h
    simp only [h2] at h
    cases o with
    | lst xs => cases h; obtain ⟨us, e1, e2⟩ := h3; exact .inl ⟨us, .inl (.inl e1), by rw [empty_of e2.length]⟩
    | frz xs => cases h; obtain ⟨us, e1, e2⟩ := h3; exact .inl ⟨us, e1.sq, by rw [empty_of e2.length]⟩
    | dic xs => cases h; obtain ⟨us, e1, e2⟩ := h3; exact .inr (.inr ⟨us, e1, by rw [empty_of e2.length]⟩)
    | ins _ _ => cases h
def tru (d : D) (A : AH) : Res Bool := match truD A d with
  | some b => .ok b A
  | none => .bad
def fT (f : FE) : FT := fun s A => (f s A).bind tru
def fTB (f : FE) : FT := fun s A => (f s A).bind fun d A1 => match d with
  | .bl b => .ok b A1
  | _ => .bad
def fTNot (f : FT) : FT := fun s A => (f s A).bind fun b A1 => .ok (!b) A1
def fTAnd (f g : FT) : FT := fun s A => (f s A).bind fun b A1 => if b = true then g s A1 else .ok false A1
def fTOr (f g : FT) : FT := fun s A => (f s A).bind fun b A1 => if b = true then .ok true A1 else g s A1
def fNot (f : FE) : FE := fun s A => (f s A).bind fun d A1 => (tru d A1).bind fun b A2 => .ok (.bl (!b)) A2
def fAnd (f g : FE) : FE := fun s A => (f s A).bind fun d A1 => (tru d A1).bind fun b A2 => if b = true then g s A2 else .ok d A2
def fOr (f g : FE) : FE := fun s A => (f s A).bind fun d A1 => (tru d A1).bind fun b A2 => if b = true then .ok d A2 else g s A2
def fIf (c : FT) (f g : FE) : FE := fun s A => (c s A).bind fun b A1 => if b = true then f s A1 else g s A1
section
variable {X : Cx} {E : XK} {a b c : Expr} {f g h : FE} {t u : FT} {pos : Pos} {rest : List Expr}
theorem tru_run {K : PySem.W.Frag} {α β : Type} {R1 : List Addr → Hp → α → β → Prop} {ρ : List Addr} {H : Hp} {A : AH} {d : D} {x : V} {k : Bool → AH → Res α} {Q : β → Hp → Prop} (R : Rel K ρ H A) (r : Rp K ρ H d x)
    (h : Out K E R1 ρ H ((tru d A).bind k) Q) : ∃ b, TruV K x H b ∧ Out K E R1 ρ H (k b A) Q := by
  unfold tru at h
  split at h
  · rename_i b e
    exact ⟨b, tru_of R r e, h⟩
  · exact h.elim
theorem at_e (ha : AE X E a f) (he : ∀ whole, isTrue a X.env whole = (do let v ← whole; standAt a.pos; holding [v] (truthy v)) := by intro _; rfl) : AT X E a (fT f) := pt_mono (pt_truth ha he) fun σ H Q hh => by
  obtain ⟨ρ, s, A, hs, R, hh⟩ := hh
  refine ⟨ρ, s, A, hs, R, (Out.bind hh).mono fun x H1 ⟨ρ1, d, A1, _, e1, R1, r1, h1⟩ => ?_⟩
  unfold tru at h1
  split at h1
  · rename_i b e
    exact ⟨b, tru_of R1 r1 e, h1.now R1 rfl⟩
  · exact h1.elim
theorem tb_ {K : PySem.W.Frag} {σ : L2.St} {H : Hp} {Q : Bool → Hp → Prop} {t : TE} {f : FE} (m : ∀ R : VK, tA K E f σ H R → t σ H R) (hh : tAT K E (fTB f) σ H Q) : tTest t σ H Q := by
  refine m _ ?_
  obtain ⟨ρ, s, A, hs, R, hh⟩ := hh
  refine ⟨ρ, s, A, hs, R, (Out.bind hh).mono fun x H1 ⟨ρ1, d, A1, _, e1, R1, r1, h1⟩ => ?_⟩
  split at h1
  · cases r1
    exact ⟨_, rfl, h1.now R1 rfl⟩
  · exact h1.elim
/-- a comparison, as a test -/
theorem at_cmp {op : CmpOp} {go : D → D → AH → Res D} (ho : AOp X E (compareOp op) go) (ha : AE X E a f) (hb : AE X E b g) (hm : behindInMarks op b = false := by first | exact nomark _ | with_unfolding_all rfl) : AT X E (.Compare a [op] [b] pos) (fTB (fOp go f g)) := pt_mono (pt_cmpR ho ha hb hm) fun σ H Q h => tb_ (fun _ => two_) h
theorem at_chain {c : Expr} {op op' : CmpOp} {go go' : D → D → AH → Res D} (ho : AOp X E (compareOp op) go) (ho' : AOp X E (compareOp op') go') (ha : AE X E a f) (hb : AE X E b g) (hc : AE X E c h) (hm : lastMarks [op, op'] [b, c] = false := by with_unfolding_all rfl) :
    AT X E (.Compare a [op, op'] [b, c] pos) (fTB (fChain go go' f g h)) := pt_mono (pt_chain ho ho' ha hb hc hm) fun σ H Q hh => tb_ (fun _ => chain_) hh
theorem at_not (ha : AT X E a t) : AT X E (.UnaryOp .Not a pos) (fTNot t) := pt_mono (pt_not ha) fun σ H Q hh => by
  obtain ⟨ρ, s, A, hs, R, hh⟩ := hh
  refine ⟨ρ, s, A, hs, R, (Out.bind hh).mono fun x H1 ⟨ρ1, d, A1, _, e1, R1, r1, h1⟩ => ?_⟩
  cases r1
  exact h1.now R1 rfl
abbrev AW (X : Cx) (E : XK) (e : Expr) (f : FT) : Prop := PW X e (tAT X.K E f)
theorem aw_and1 (ha : AT X E a t) : AW X E (.BoolOp .And [a] pos) t := pw_and1 ha
theorem aw_or1 (ha : AT X E a t) : AW X E (.BoolOp .Or [a] pos) t := pw_or1 ha
theorem aw_and (ha : AT X E a t) (hb : AW X E (.BoolOp .And (b :: rest) pos) u) : AW X E (.BoolOp .And (a :: b :: rest) pos) (fTAnd t u) := pw_mono (pw_and ha hb) fun σ H Q hh => by
  obtain ⟨ρ, s, A, hs, R, hh⟩ := hh
  refine ⟨ρ, s, A, hs, R, (Out.bind hh).mono fun x H1 ⟨ρ1, d, A1, _, e1, R1, r1, h1⟩ => ?_⟩
  cases r1
  cases x with
  | true => exact ⟨ρ1, s, A1, hs.ext e1, R1, h1⟩
  | false => exact h1.now R1 rfl
theorem aw_or (ha : AT X E a t) (hb : AW X E (.BoolOp .Or (b :: rest) pos) u) : AW X E (.BoolOp .Or (a :: b :: rest) pos) (fTOr t u) := pw_mono (pw_or ha hb) fun σ H Q hh => by
  obtain ⟨ρ, s, A, hs, R, hh⟩ := hh
  refine ⟨ρ, s, A, hs, R, (Out.bind hh).mono fun x H1 ⟨ρ1, d, A1, _, e1, R1, r1, h1⟩ => ?_⟩
  cases r1
  cases x with
  | true => exact h1.now R1 rfl
  | false => exact ⟨ρ1, s, A1, hs.ext e1, R1, h1⟩
theorem ae_one {op} (h : AE X E a f) : AE X E (.BoolOp op [a] pos) f := pe_one h
theorem ae_and (ha : AE X E a f) (hb : AE X E (.BoolOp .And (b :: rest) pos) g) : AE X E (.BoolOp .And (a :: b :: rest) pos) (fAnd f g) := pe_mono (pe_andT ha hb) fun σ H Q hh => by
  obtain ⟨ρ, s, A, hs, R, hh⟩ := hh
  refine ⟨ρ, s, A, hs, R, (Out.bind hh).mono fun x H1 ⟨ρ1, d, A1, _, e1, R1, r1, h1⟩ => ?_⟩
  obtain ⟨k, tk, h2⟩ := tru_run R1 r1 h1
  refine ⟨k, tk, ?_⟩
  cases k with
  | true => exact ⟨ρ1, s, A1, hs.ext e1, R1, h2⟩
  | false => exact h2.now R1 r1
theorem ae_or (ha : AE X E a f) (hb : AE X E (.BoolOp .Or (b :: rest) pos) g) : AE X E (.BoolOp .Or (a :: b :: rest) pos) (fOr f g) := pe_mono (pe_orT ha hb) fun σ H Q hh => by
  obtain ⟨ρ, s, A, hs, R, hh⟩ := hh
  refine ⟨ρ, s, A, hs, R, (Out.bind hh).mono fun x H1 ⟨ρ1, d, A1, _, e1, R1, r1, h1⟩ => ?_⟩
  obtain ⟨k, tk, h2⟩ := tru_run R1 r1 h1
  refine ⟨k, tk, ?_⟩
  cases k with
  | true => exact h2.now R1 r1
  | false => exact ⟨ρ1, s, A1, hs.ext e1, R1, h2⟩
theorem ae_not (ha : AE X E a f) : AE X E (.UnaryOp .Not a pos) (fNot f) := pe_mono (pe_notT ha) fun σ H Q hh => by
  obtain ⟨ρ, s, A, hs, R, hh⟩ := hh
  refine ⟨ρ, s, A, hs, R, (Out.bind hh).mono fun x H1 ⟨ρ1, d, A1, _, e1, R1, r1, h1⟩ => ?_⟩
  obtain ⟨k, tk, h2⟩ := tru_run R1 r1 h1
  exact ⟨k, tk, h2.now R1 rfl⟩
theorem ae_if (hc : AT X E c t) (ha : AE X E a f) (hb : AE X E b g) : AE X E (.IfExp c a b pos) (fIf t f g) := pe_mono (pe_ifExp hc ha hb) fun σ H Q hh => by
  obtain ⟨ρ, s, A, hs, R, hh⟩ := hh
  refine ⟨ρ, s, A, hs, R, (Out.bind hh).mono fun x H1 ⟨ρ1, d, A1, _, e1, R1, r1, h1⟩ => ?_⟩
  cases r1
  cases x with
  | true => exact ⟨ρ1, s, A1, hs.ext e1, R1, h1⟩
  | false => exact ⟨ρ1, s, A1, hs.ext e1, R1, h1⟩
end
/-! ## arguments, displays -/
def fNil : FA := fun _ A => .ok [] A
def fCons (f : FE) (fs : FA) : FA := fun s A => (f s A).bind fun x A1 => (fs s A1).bind fun xs A2 => .ok (x :: xs) A2
def tupD (xs : List D) (A : AH) : Res D := if xs.length ≤ sizeLine then .ok (.tup xs) A else .bad
def lstD (xs : List D) (A : AH) : Res D := if xs.length ≤ sizeLine then alloc (.lst xs) A else .bad
def fTup (fs : FA) : FE := fun s A => (fs s A).bind tupD
def fLst (fs : FA) : FE := fun s A => (fs s A).bind lstD
section
variable {X : Cx} {E : XK} {e : Expr} {es : List Expr} {f : FE} {fs : FA} {pos : Pos}
theorem aa_nil : AA X E [] fNil := pa_mono pa_nil fun σ H Q hh => by
  obtain ⟨ρ, s, A, hs, R, hh⟩ := hh
  exact Out.now hh R rfl
theorem aa_cons (ha : AE X E e f) (hr : AA X E es fs) (hs : starEach (e :: es) X.env = (false, eval e X.env) :: starEach es X.env := by rfl) : AA X E (e :: es) (fCons f fs) := pa_mono (pa_cons ha hr hs) fun σ H Q hh => by
  obtain ⟨ρ, s, A, hs, R, hh⟩ := hh
  refine ⟨ρ, s, A, hs, R, (Out.bind hh).mono fun x H1 ⟨ρ1, d, A1, _, e1, R1, r1, h1⟩ => ⟨ρ1, s, A1, hs.ext e1, R1, (Out.bind h1).mono fun xs H2 ⟨ρ2, ds, A2, _, e2, R2, r2, h2⟩ => ?_⟩⟩
  exact Out.now h2 R2 ⟨x, xs, rfl, r1.ext e2, r2⟩
theorem ae_tup {x1} (h : AA X E es fs) : AE X E (.Tuple es x1 pos) (fTup fs) := pe_mono (pe_tup h) fun σ H Q hh => by
  obtain ⟨ρ, s, A, hs, R, hh⟩ := hh
  refine ⟨ρ, s, A, hs, R, (Out.bind hh).mono fun x H1 ⟨ρ1, d, A1, _, e1, R1, r1, h1⟩ => ?_⟩
  unfold tupD at h1
  split at h1
  · rename_i z
    exact ⟨by rw [r1.length]; exact z, new_tup R1 r1 h1⟩
  · exact h1.elim
theorem ae_lst (h : AA X E es fs) : AE X E (.List es pos) (fLst fs) := pe_mono (pe_lst h) fun σ H Q hh => by
  obtain ⟨ρ, s, A, hs, R, hh⟩ := hh
  refine ⟨ρ, s, A, hs, R, (Out.bind hh).mono fun x H1 ⟨ρ1, d, A1, _, e1, R1, r1, h1⟩ => ?_⟩
  unfold lstD at h1
  split at h1
  · rename_i z
    exact ⟨by rw [r1.length]; exact z, new_lst R1 r1 h1⟩
  · exact h1.elim
end
end Ab

namespace Ab
open PySem PySem.Spec PyProof.Rows L2
open scoped Classical

/-! ## dicts as lists of pairs -/
def getK {κ : Type} [DecidableEq κ] (kvs : List (κ × D)) (k : κ) : Option D := (kvs.find? fun kv => decide (kv.1 = k)).map (·.2)
def setK {κ : Type} [DecidableEq κ] (kvs : List (κ × D)) (k : κ) (v : D) : List (κ × D) :=
  if (kvs.any fun kv => decide (kv.1 = k)) = true then kvs.map (fun kv => if kv.1 = k then (kv.1, v) else kv) else kvs ++ [(k, v)]
def keyOf : D → Option Key
  | .int i => some (.inl i)
  | .str x => some (.inr x)
  | _ => none
section
variable {κ : Type} [DecidableEq κ] {K : PySem.W.Frag} {ρ : List Addr} {H : Hp} {A : AH}
theorem keyOf_ok {d : D} {v : V} {k : Key} (r : Rp K ρ H d v) (h : keyOf d = some k) : v = kV k := by
  cases d <;> first | (cases h; done) | (cases h; cases r; rfl)
theorem getK_ok {k : κ} : ∀ {kvs : List (κ × D)} {us : List (κ × V)}, RpK K ρ H kvs us → match getK kvs k with
    | some d => ∃ v, valV us k = some v ∧ Rp K ρ H d v
    | none => valV us k = none
  | [], us, h => by rw [show us = [] from h]; rfl
  | p :: ps, us, h => by
    obtain ⟨v, r, rfl, h2, h3⟩ := h
    have ih := getK_ok (k := k) h3
    by_cases e : p.1 = k
    · simp only [getK, List.find?_cons, e, decide_true, Option.map_some]
      exact ⟨v, by simp [valV, List.find?_cons, e], h2⟩
    · have e1 : getK (p :: ps) k = getK ps k := by simp [getK, List.find?_cons, e]
      have e2 : valV ((p.1, v) :: r) k = valV r k := by simp [valV, List.find?_cons, e]
      rw [e1, e2]
      exact ih
theorem any_ok {k : κ} : ∀ {kvs : List (κ × D)} {us : List (κ × V)}, RpK K ρ H kvs us → (kvs.any fun kv => decide (kv.1 = k)) = us.any fun kv => decide (kv.1 = k)
  | [], us, h => by rw [show us = [] from h]; rfl
  | p :: ps, us, h => by
    obtain ⟨v, r, rfl, h2, h3⟩ := h
    rw [List.any_cons, List.any_cons, any_ok h3]
theorem RpK.app : ∀ {kvs : List (κ × D)} {us : List (κ × V)} {k : κ} {d : D} {v : V}, RpK K ρ H kvs us → Rp K ρ H d v → RpK K ρ H (kvs ++ [(k, d)]) (us ++ [(k, v)])
  | [], us, k, d, v, h, q => by rw [show us = [] from h]; exact ⟨v, [], rfl, q, rfl⟩
  | p :: ps, us, k, d, v, h, q => by
    obtain ⟨w, r, rfl, h2, h3⟩ := h
    exact ⟨w, _, rfl, h2, h3.app q⟩
theorem setK_ok {k : κ} {d : D} {v : V} {kvs : List (κ × D)} {us : List (κ × V)} (h : RpK K ρ H kvs us) (q : Rp K ρ H d v) : RpK K ρ H (setK kvs k d) (putK us k v) := by
  unfold setK putK
  rw [any_ok h]
  split
  · have all : ∀ {kvs : List (κ × D)} {us : List (κ × V)}, RpK K ρ H kvs us → RpK K ρ H (kvs.map (fun kv => if kv.1 = k then (kv.1, d) else kv)) (us.map (fun kv => if kv.1 = k then (kv.1, v) else kv)) := by
      intro kvs
      induction kvs with
      | nil => intro us h; rw [show us = [] from h]; rfl
      | cons p ps ih =>
        intro us h
        obtain ⟨w, r, rfl, h2, h3⟩ := h
        by_cases e : p.1 = k
        · simp only [List.map_cons, if_pos e]; exact ⟨v, _, rfl, q, ih h3⟩
        · simp only [List.map_cons, if_neg e]; exact ⟨w, _, rfl, h2, ih h3⟩
    exact all h
  · exact h.app q
end

/-! ## subscripts -/
def ixSeq (xs : List D) (i : Int) (A : AH) : Res D := match atI xs i with
  | some x => .ok x A
  | none => .bad
def ixD (d e : D) (A : AH) : Res D := match e with
  | .int i => match rdS A d with
    | some xs => ixSeq xs i A
    | none => match d with
      | .str z => if z.length ≤ sizeLine then (match atI z.cps.toList i with | some c => .ok (.str ⟨#[c]⟩) A | none => .bad) else .bad
      | _ => match rdK A d with
        | some kvs => (match getK kvs (.inl i) with | some v => .ok v A | none => .bad)
        | none => .bad
  | .str x => match rdK A d with
    | some kvs => (match getK kvs (.inr x) with | some v => .ok v A | none => .bad)
    | none => .bad
  | _ => .bad
section
variable {X : Cx} {E : XK}
theorem ix_dict (hu : X.A.units + 1 < cLine) : IxR X (fun x y H Q => ∃ a v, x = .ref a ∧ DGet H a y (some v) ∧ Q v H) := by
  intro value slice pins s σ H x y v u Q I rx ry h hs
  obtain ⟨a, w, rfl, g, q⟩ := h
  obtain rfl : v = Value.ref a := rx
  exact tail_any (dict_typeIs I g) PySem.F.slot_dict_getitem.lookup (d_getItem hu I g ry fun w' s3 I3 rw' => ⟨w, H, I3, rw', q⟩) hs
theorem RpL.atI {K : PySem.W.Frag} {ρ : List Addr} {H : Hp} {ds : List D} {xs : List V} {i : Int} {d : D} (r : RpL K ρ H ds xs) (h : atI ds i = some d) : ∃ v, L2.atI xs i = some v ∧ Rp K ρ H d v := by
  unfold L2.atI at h ⊢
  rw [r.length]
  cases e : ixN ds.length i with
  | none => rw [e] at h; cases h
  | some j =>
    rw [e] at h
    exact r.get h
theorem ix_mono {r r' : R2} (h : IxR X r) (m : ∀ x y H Q, r' x y H Q → r x y H Q) : IxR X r' := fun value slice pins s σ H x y v u Q I rx ry q hs => h value slice pins s σ H x y v u Q I rx ry (m _ _ _ _ q) hs
theorem aix (hu : X.A.units + 1 < cLine) : IxR X (rA X.K E ixD) := ix_mono (ix_seq.or (ix_dict hu)) fun x y H Q h => by
  obtain ⟨ρ, A, d, e, R, r1, r2, h⟩ := h
  have dic : ∀ {k : Key} {kvs : List (Key × D)} {v : D}, y = kV k → rdK A d = some kvs → getK kvs k = some v → OutE X.K E ρ H (.ok v A) Q → ∃ a w, x = .ref a ∧ DGet H a y (some w) ∧ Q w H := by
    intro k kvs v ey e1 e2 h
    obtain ⟨_, a, us, _, rfl, _, _, q1, q2⟩ := rdK_ok R r1 e1
    have g := getK_ok (k := k) q2
    rw [e2] at g
    obtain ⟨w, g1, g2⟩ := g
    exact ⟨a, w, rfl, .inl ⟨us, k, .inl q1, ey, g1.symm⟩, h.now R g2⟩
  cases e with
  | int i =>
    cases r2
    simp only [ixD] at h
    split at h
    · rename_i ds e1
      obtain ⟨a, xs, rfl, q1, q2⟩ := rdS_ok R r1 e1
      unfold ixSeq at h
      split at h
      · rename_i z e2
        obtain ⟨v, q3, q4⟩ := q2.atI e2
        rcases q1 with q1 | q1
        · exact .inl (.inl ⟨a, xs, i, v, rfl, rfl, q1, q3, h.now R q4⟩)
        · exact .inl (.inr (.inl ⟨a, xs, i, v, rfl, rfl, q1, q3, h.now R q4⟩))
      · exact h.elim
    · split at h
      · split at h
        · rename_i z
          split at h
          · rename_i c e2
            cases r1
            exact .inl (.inr (.inr ⟨_, i, c, rfl, rfl, z, e2, h.now R rfl⟩))
          · exact h.elim
        · exact h.elim
      · split at h
        · rename_i kvs e1
          split at h
          · rename_i v e2
            exact .inr (dic (k := .inl i) rfl e1 e2 h)
          · exact h.elim
        · exact h.elim
  | str z =>
    cases r2
    simp only [ixD] at h
    split at h
    · rename_i kvs e1
      split at h
      · rename_i v e2
        exact .inr (dic (k := .inr z) rfl e1 e2 h)
      · exact h.elim
    · exact h.elim
  | _ => exact h.elim
theorem ae_ix {a b : Expr} {f g : FE} {pos : Pos} (hu : X.A.units + 1 < cLine) (ha : AE X E a f) (hb : AE X E b g) (hs : PlainIx b := by exact fun _ _ => rfl) : AE X E (.Subscript a b pos) (fOp ixD f g) := pe_mono (pe_ix (aix hu) ha hb hs) fun _ _ _ => two_
end

/-! ## slices -/
def fNo : FO := fun _ A => .ok none A
def fPart (f : FE) : FO := fun s A => (f s A).bind fun d A1 => match d with
  | .int i => .ok (some i) A1
  | _ => .bad
def cutL {α : Type} (xs : List α) (lo hi : Option Int) : List α := (xs.drop (HT.sIx xs.length 0 lo)).take (HT.sIx xs.length xs.length hi - HT.sIx xs.length 0 lo)
def slD (d : D) (lo hi : Option Int) (A : AH) : Res D := match d with
  | .tup xs => .ok (.tup (cutL xs lo hi)) A
  | .str z => if z.length ≤ sizeLine then .ok (.str (cutS z lo hi)) A else .bad
  | d => match rdL A d with
    | some xs => alloc (.lst (cutL xs lo hi)) A
    | none => .bad
def fSl (f : FE) (lo hi : FO) : FE := fun s A => (f s A).bind fun d A1 => (lo s A1).bind fun l A2 => (hi s A2).bind fun h A3 => slD d l h A3
section
variable {X : Cx} {E : XK} {e : Expr} {f : FE} {lo hi : Option Expr} {fl fh : FO} {p2 pos : Pos}
theorem ao_none : AO_ X E none fNo := ⟨fun pins s σ H Q I h => po_none.run pins s σ H Q I (by
  obtain ⟨ρ, s, A, hs, R, h⟩ := h
  exact Out.now h R rfl)⟩
theorem ao_some (h : AE X E e f) : AO_ X E (some e) (fPart f) := ⟨fun pins s σ H Q I h' => (po_some h).run pins s σ H Q I (by
  obtain ⟨ρ, s, A, hs, R, h⟩ := h'
  refine ⟨ρ, s, A, hs, R, (Out.bind h).mono fun x H1 ⟨ρ1, d, A1, _, e1, R1, r1, h1⟩ => ?_⟩
  split at h1
  · cases r1
    exact ⟨_, rfl, h1.now R1 rfl⟩
  · exact h1.elim)⟩
theorem RpL.cut {K : PySem.W.Frag} {ρ : List Addr} {H : Hp} {ds : List D} {xs : List V} (r : RpL K ρ H ds xs) (lo hi : Option Int) : RpL K ρ H (cutL ds lo hi) (cutV xs lo hi) := by
  unfold cutL cutV
  rw [r.length]
  exact (r.drop _).take _
theorem cutL_all {α : Type} {xs : List α} {lo hi : Option Int} (h : HT.sIx xs.length 0 lo = 0 ∧ HT.sIx xs.length xs.length hi = xs.length) : cutL xs lo hi = xs := by
  unfold cutL
  rw [h.1, h.2]
  simp
theorem ae_sl (he : AE X E e f) (hl : AO_ X E lo fl) (hh : AO_ X E hi fh) : AE X E (.Subscript e (.Slice lo hi none p2) pos) (fSl f fl fh) := pe_mono (pe_slice ((sl_tupA.or sl_str).or sl_list) he hl hh) fun σ H Q h => by
  obtain ⟨ρ, s, A, hs, R, h⟩ := h
  refine ⟨ρ, s, A, hs, R, (Out.bind h).mono fun x H1 ⟨ρ1, d, A1, _, e1, R1, r1, h1⟩ => ⟨ρ1, s, A1, hs.ext e1, R1, (Out.bind h1).mono fun l H2 ⟨ρ2, l', A2, _, e2, R2, r2, h2⟩ => ⟨ρ2, s, A2, hs.ext (e1.trans e2), R2, (Out.bind h2).mono fun u H3 ⟨ρ3, u', A3, _, e3, R3, r3, h3⟩ => ?_⟩⟩⟩
  cases r2; cases r3
  have r1 := r1.ext (e2.trans e3)
  unfold slD at h3
  split at h3
  · rename_i xs
    obtain ⟨a, us, rfl, q1, q2⟩ := r1
    refine .inl (.inl ⟨a, us, rfl, q1, fun z => ?_, fun _ => new_tup R3 (q2.cut _ _) h3⟩)
    rw [q2.length] at z
    rw [cutL_all z] at h3
    exact h3.now R3 ⟨a, us, rfl, q1, q2⟩
  · split at h3
    · rename_i z
      cases r1
      exact .inl (.inr ⟨_, rfl, z, h3.now R3 rfl⟩)
    · exact h3.elim
  · split at h3
    · rename_i xs e4
      obtain ⟨a, us, rfl, q1, q2⟩ := rdL_ok R3 r1 e4
      exact .inr ⟨a, us, rfl, q1, new_lst R3 (q2.cut _ _) h3⟩
    · exact h3.elim
def revD (d : D) (A : AH) : Res D := match rdL A d with
  | some xs => alloc (.lst xs.reverse) A
  | none => .bad
theorem ae_rev {k : Nat} {p1 p3 : Pos} (he : AE X E e f) : AE X E (.Subscript e (.Slice none none (some (.UnaryOp .USub (.Constant (.int 1) k p1) p2)) p3) pos) (fUn revD f) := pe_mono (pe_revL he) fun σ H Q h => by
  obtain ⟨ρ, s, A, hs, R, h⟩ := h
  refine ⟨ρ, s, A, hs, R, (Out.bind h).mono fun x H1 ⟨ρ1, d, A1, _, e1, R1, r1, h1⟩ => ?_⟩
  unfold revD at h1
  split at h1
  · rename_i xs e4
    obtain ⟨a, us, rfl, q1, q2⟩ := rdL_ok R1 r1 e4
    exact ⟨a, us, rfl, q1, new_lst R1 q2.reverse h1⟩
  · exact h1.elim
end

/-! ## in -/
def toV : D → Option V
  | .non => some .non
  | .bl b => some (.bl b)
  | .int i => some (.int i)
  | .str x => some (.str x)
  | _ => none
def toVs : List D → Option (List V)
  | [] => some []
  | d :: ds => match toV d, toVs ds with
    | some v, some vs => some (v :: vs)
    | _, _ => none
theorem toV_ok {K : PySem.W.Frag} {ρ : List Addr} {H : Hp} {d : D} {v w : V} (r : Rp K ρ H d v) (h : toV d = some w) : v = w ∧ flatV v = true := by
  cases d <;> first | (cases h; done) | (cases h; cases r; exact ⟨rfl, rfl⟩)
theorem toVs_ok {K : PySem.W.Frag} {ρ : List Addr} {H : Hp} : ∀ {ds : List D} {vs ws : List V}, RpL K ρ H ds vs → toVs ds = some ws → vs = ws ∧ vs.all flatV = true
  | [], vs, ws, r, h => by cases h; rw [show vs = [] from r]; exact ⟨rfl, rfl⟩
  | d :: ds, vs, ws, r, h => by
    obtain ⟨v, vs', rfl, h2, h3⟩ := r
    unfold toVs at h
    split at h
    · rename_i w ws' e1 e2
      cases h
      obtain ⟨rfl, f1⟩ := toV_ok h2 e1
      obtain ⟨rfl, f2⟩ := toVs_ok h3 e2
      exact ⟨rfl, by rw [List.all_cons, f1, f2]; rfl⟩
    · cases h
def inB (d e : D) (A : AH) : Option Bool := match e with
  | .str y => match d with
    | .str x => some (!(Builtin.Str.occurrences y x 0 y.length 1).isEmpty)
    | _ => none
  | e => match rdK A e with
    | some kvs => match keyOf d with
      | some k => some (getK kvs k).isSome
      | none => none
    | none => match rdS A e with
      | some ys => match toV d, toVs ys with
        | some x, some us => some (inV x us)
        | _, _ => match rdL A e, pd d, pdL ys with
          | some _, some p, some ps => if (SeqAt.shaped p && SeqAt.shaped (.list ps)) = true then some (ps.any fun z => PyData.eqv z p) else none
          | _, _, _ => none
      | none => none
def inD (d e : D) (A : AH) : Res D := okB (inB d e A) A
def ninD (d e : D) (A : AH) : Res D := okB ((inB d e A).map (!·)) A
section
variable {X : Cx} {E : XK}
theorem op_in_dk (hu : X.A.units + 1 < cLine) : OpR X (compareOp .In) (fun x y H Q => ∃ a o, y = .ref a ∧ DGet H a x o ∧ Q (.bl o.isSome) H) := by
  intro pins s σ H x y v u Q I rx ry h
  obtain ⟨a, o, rfl, g, q⟩ := h
  obtain rfl : u = Value.ref a := ry
  exact d_in hu I g rx fun s3 I3 => ⟨V.bl _, H, I3, rfl, q⟩
theorem op_nin_dk (hu : X.A.units + 1 < cLine) : OpR X (compareOp .NotIn) (fun x y H Q => ∃ a o, y = .ref a ∧ DGet H a x o ∧ Q (.bl (!o.isSome)) H) := by
  intro pins s σ H x y v u Q I rx ry h
  obtain ⟨a, o, rfl, g, q⟩ := h
  obtain rfl : u = Value.ref a := ry
  exact d_notIn hu I g rx fun s3 I3 => ⟨V.bl _, H, I3, rfl, q⟩
/-- what stands behind an answer of inB -/
theorem inB_ok {K : PySem.W.Frag} {ρ : List Addr} {H : Hp} {A : AH} {d e : D} {x y : V} {b : Bool} (R : Rel K ρ H A) (r1 : Rp K ρ H d x) (r2 : Rp K ρ H e y) (h : inB d e A = some b) :
    (∃ i j, x = .str i ∧ y = .str j ∧ b = !(Builtin.Str.occurrences j i 0 j.length 1).isEmpty) ∨ (∃ p xs, y = .ref p ∧ (SqL K H p xs ∨ SqT K H p xs) ∧ flatV x = true ∧ xs.all flatV = true ∧ b = inV x xs) ∨
    (∃ a o, y = .ref a ∧ DGet H a x o ∧ b = o.isSome) ∨ (∃ d' ds, Dp K H x d' ∧ Dp K H y (.list ds) ∧ SeqAt.shaped d' = true ∧ SeqAt.shaped (.list ds) = true ∧ b = ds.any fun z => PyData.eqv z d') := by
  unfold inB at h
  split at h
  · split at h
    · cases h; cases r1; cases r2
      exact .inl ⟨_, _, rfl, rfl, rfl⟩
    · cases h
  · split at h
    · rename_i kvs e1
      split at h
      · rename_i k e2
        cases h
        obtain ⟨_, a, us, _, rfl, _, _, q1, q2⟩ := rdK_ok R r2 e1
        have ex := keyOf_ok r1 e2
        have g := getK_ok (k := k) q2
        refine .inr (.inr (.inl ⟨a, valV us k, rfl, .inl ⟨us, k, .inl q1, ex, rfl⟩, ?_⟩))
        split at g
        · rename_i d' e3
          obtain ⟨w, g1, _⟩ := g
          rw [g1, e3]; rfl
        · rename_i e3
          rw [g, e3]; rfl
      · cases h
    · split at h
      · rename_i ys e1
        split at h
        · rename_i x' us e2 e3
          cases h
          obtain ⟨a, xs, rfl, q1, q2⟩ := rdS_ok R r2 e1
          obtain ⟨rfl, f1⟩ := toV_ok r1 e2
          obtain ⟨rfl, f2⟩ := toVs_ok q2 e3
          exact .inr (.inl ⟨a, _, rfl, q1, f1, f2, rfl⟩)
        · split at h
          · rename_i zs p ps e2 e3 e4
            split at h
            · rename_i z
              rw [Bool.and_eq_true] at z
              cases h
              obtain ⟨a, xs, rfl, q1, q2⟩ := rdL_ok R r2 e2
              have ez : ys = zs := by
                cases e with
                | ref i => rw [show rdS A (.ref i) = rdL A (.ref i) from rfl] at e1; rw [e1] at e2; exact Option.some.inj e2
                | _ => cases e2
              subst ez
              exact .inr (.inr (.inr ⟨p, ps, pd_ok d x p r1 e3, .lst q1 (pdL_ok ys xs ps q2 e4), z.1, z.2, rfl⟩))
            · cases h
          · cases h
      · cases h
theorem aop_in (hu : X.A.units + 65 < cLine) : AOp X E (compareOp .In) inD := op_mono ((op_in_str.or op_in_seq).or ((op_in_dk (by omega)).or (op_inD hu))) fun x y H Q h => by
  obtain ⟨ρ, A, d, e, R, r1, r2, h⟩ := h
  unfold inD okB at h
  split at h
  · rename_i b e1
    have h := Out.now (R1 := fun ρ H d v => Rp X.K ρ H d v) (v := V.bl b) h R rfl
    rcases inB_ok R r1 r2 e1 with ⟨i, j, rfl, rfl, rfl⟩ | ⟨p, xs, rfl, q1, q2, q3, rfl⟩ | ⟨a, o, rfl, g, rfl⟩ | ⟨d', ds, q1, q2, q3, q4, rfl⟩
    · exact .inl (.inl ⟨i, j, rfl, rfl, h⟩)
    · exact .inl (.inr ⟨p, xs, rfl, q1, q2, q3, h⟩)
    · exact .inr (.inl ⟨a, o, rfl, g, h⟩)
    · exact .inr (.inr ⟨d', ds, q1, q2, q3, q4, h⟩)
  · exact h.elim
theorem aop_nin (hu : X.A.units + 65 < cLine) : AOp X E (compareOp .NotIn) ninD := op_mono ((op_notin_str.or op_notIn_seq).or ((op_nin_dk (by omega)).or (op_notInD hu))) fun x y H Q h => by
  obtain ⟨ρ, A, d, e, R, r1, r2, h⟩ := h
  unfold ninD okB at h
  cases e1 : inB d e A with
  | none => rw [e1] at h; exact h.elim
  | some b =>
    rw [e1] at h
    have h := Out.now (R1 := fun ρ H d v => Rp X.K ρ H d v) (v := V.bl (!b)) h R rfl
    rcases inB_ok R r1 r2 e1 with ⟨i, j, rfl, rfl, rfl⟩ | ⟨p, xs, rfl, q1, q2, q3, rfl⟩ | ⟨a, o, rfl, g, rfl⟩ | ⟨d', ds, q1, q2, q3, q4, rfl⟩
    · exact .inl (.inl ⟨i, j, rfl, rfl, h⟩)
    · exact .inl (.inr ⟨p, xs, rfl, q1, q2, q3, h⟩)
    · exact .inr (.inl ⟨a, o, rfl, g, h⟩)
    · exact .inr (.inr ⟨d', ds, q1, q2, q3, q4, h⟩)
end

/-! ## calls of built-ins -/
def rC (K : PySem.W.Frag) (E : XK) (g : FM) : List V → Hp → VK → Prop := fun xs H Q => ∃ ρ A ds, Rel K ρ H A ∧ RpL K ρ H ds xs ∧ OutE K E ρ H (g ds A) Q
abbrev ACall (X : Cx) (E : XK) (f : Value) (g : FM) : Prop := CallR X f (rC X.K E g)
def fCall (g : FM) (fs : FA) : FE := fun s A => (fs s A).bind fun ds A1 => g ds A1
section
variable {X : Cx} {E : XK} {e : Expr} {es : List Expr} {fs : FA} {g : FM} {x : Str} {p pos : Pos} {id T : String}
theorem call_ {K : PySem.W.Frag} {σ : L2.St} {H : Hp} {Q : VK} (h : tA K E (fCall g fs) σ H Q) : tCB (rC K E g) (tAA K E fs) σ H Q := by
  obtain ⟨ρ, s, A, hs, R, h⟩ := h
  exact ⟨ρ, s, A, hs, R, (Out.bind h).mono fun x H1 ⟨ρ1, d, A1, _, e1, R1, r1, h1⟩ => ⟨ρ1, A1, d, R1, r1, h1⟩⟩
theorem ae_callB (hc : ACall X E (.builtin id) g) (hg : Gl X x) (hm : X.mg x = none) (hv : bootBuiltins x = some (.builtin id)) (ha : AA X E (e :: es) fs) (hn : x ≠ "__name__" := by decide) (hdb : (x == ("__debug__" : Str)) = false := by decide)
    (he : starEach (e :: es) X.env = (false, eval e X.env) :: starEach es X.env := by rfl) (hpl : (backTo pos (starEach es X.env)).any (·.1) = false := by rfl) : AE X E (.Call (.Name x p) (e :: es) [] pos) (fCall g fs) :=
  pe_mono (pe_callB hc hg hm hv ha hn hdb he hpl) fun _ _ _ => call_
theorem ae_callT (hc : ACall X E (.type T) g) (hg : Gl X x) (hm : X.mg x = none) (hv : bootBuiltins x = some (.type T)) (ha : AA X E (e :: es) fs) (hn : x ≠ "__name__" := by decide) (hdb : (x == ("__debug__" : Str)) = false := by decide)
    (he : starEach (e :: es) X.env = (false, eval e X.env) :: starEach es X.env := by rfl) (hpl : (backTo pos (starEach es X.env)).any (·.1) = false := by rfl) : AE X E (.Call (.Name x p) (e :: es) [] pos) (fCall g fs) :=
  pe_mono (pe_callTy hc hg hm hv ha hn hdb he hpl) fun _ _ _ => call_
end
def intsOf : List D → Option (List Int)
  | [] => some []
  | .int i :: r => match intsOf r with
    | some is => some (i :: is)
    | none => none
  | _ :: _ => none
def blsOf : List D → Option (List Bool)
  | [] => some []
  | .bl i :: r => match blsOf r with
    | some is => some (i :: is)
    | none => none
  | _ :: _ => none
def maxI : List Int → Int
  | [] => 0
  | [x] => x
  | x :: r => if maxI r > x then maxI r else x
def minI : List Int → Int
  | [] => 0
  | [x] => x
  | x :: r => if minI r < x then minI r else x
section
variable {K : PySem.W.Frag} {ρ : List Addr} {H : Hp}
theorem ints_ok : ∀ {ds : List D} {xs : List V} {is : List Int}, RpL K ρ H ds xs → intsOf ds = some is → xs = is.map V.int
  | [], xs, is, r, h => by cases h; rw [show xs = [] from r]; rfl
  | d :: ds, xs, is, r, h => by
    obtain ⟨x, xs', rfl, h2, h3⟩ := r
    cases d with
    | int i =>
      cases h2
      unfold intsOf at h
      split at h
      · rename_i js e
        cases h
        rw [ints_ok h3 e]; rfl
      · cases h
    | _ => cases h
theorem bls_ok : ∀ {ds : List D} {xs : List V} {is : List Bool}, RpL K ρ H ds xs → blsOf ds = some is → xs = is.map V.bl
  | [], xs, is, r, h => by cases h; rw [show xs = [] from r]; rfl
  | d :: ds, xs, is, r, h => by
    obtain ⟨x, xs', rfl, h2, h3⟩ := r
    cases d with
    | bl i =>
      cases h2
      unfold blsOf at h
      split at h
      · rename_i js e
        cases h
        rw [bls_ok h3 e]; rfl
      · cases h
    | _ => cases h
end
theorem maxI_cons (x y : Int) (r : List Int) : maxI (x :: y :: r) = if maxI (y :: r) > x then maxI (y :: r) else x := rfl
theorem minI_cons (x y : Int) (r : List Int) : minI (x :: y :: r) = if minI (y :: r) < x then minI (y :: r) else x := rfl
theorem maxI_mem : ∀ {ns : List Int}, ns ≠ [] → maxI ns ∈ ns
  | [], h => absurd rfl h
  | [x], _ => by simp [maxI]
  | x :: y :: r, _ => by
    have ih := maxI_mem (ns := y :: r) (by simp)
    rw [maxI_cons]
    split
    · exact List.mem_cons_of_mem _ ih
    · exact List.mem_cons_self
theorem maxI_le : ∀ {ns : List Int} {y : Int}, y ∈ ns → y ≤ maxI ns
  | [x], y, h => by simp at h; subst h; simp [maxI]
  | x :: z :: r, y, h => by
    have ih := fun q => maxI_le (ns := z :: r) (y := y) q
    rw [maxI_cons]
    rcases List.mem_cons.mp h with e | e
    · subst e; split <;> omega
    · have := ih e; split <;> omega
theorem minI_mem : ∀ {ns : List Int}, ns ≠ [] → minI ns ∈ ns
  | [], h => absurd rfl h
  | [x], _ => by simp [minI]
  | x :: y :: r, _ => by
    have ih := minI_mem (ns := y :: r) (by simp)
    rw [minI_cons]
    split
    · exact List.mem_cons_of_mem _ ih
    · exact List.mem_cons_self
theorem minI_le : ∀ {ns : List Int} {y : Int}, y ∈ ns → minI ns ≤ y
  | [x], y, h => by simp at h; subst h; simp [minI]
  | x :: z :: r, y, h => by
    have ih := fun q => minI_le (ns := z :: r) (y := y) q
    rw [minI_cons]
    rcases List.mem_cons.mp h with e | e
    · subst e; split <;> omega
    · have := ih e; split <;> omega
theorem maxI_eq {ns : List Int} {m : Int} (h : m ∈ ns) (q : ∀ y ∈ ns, y ≤ m) : maxI ns = m := by
  have h1 := maxI_le h
  have h2 := q _ (maxI_mem (ns := ns) (by intro e; subst e; cases h))
  omega
theorem minI_eq {ns : List Int} {m : Int} (h : m ∈ ns) (q : ∀ y ∈ ns, m ≤ y) : minI ns = m := by
  have h1 := minI_le h
  have h2 := q _ (minI_mem (ns := ns) (by intro e; subst e; cases h))
  omega
def lenD : FM
  | [.str x], A => if x.length ≤ sizeLine then .ok (.int x.length) A else .bad
  | [d], A => match rdS A d with
    | some xs => .ok (.int xs.length) A
    | none => match rdK A d with
      | some xs => .ok (.int xs.length) A
      | none => .bad
  | _, _ => .bad
def intD : FM
  | [.int i], A => .ok (.int i) A
  | [.bl b], A => .ok (.int (if b then 1 else 0)) A
  | [.str x], A => if x.length ≤ 640 then (match PySem.intText? x with | some n => .ok (.int n) A | none => .bad) else .bad
  | _, _ => .bad
def strD : FM
  | [.int i], A => if i.natAbs.log2 < 1920 then .ok (.str (toString i)) A else .bad
  | [.str x], A => .ok (.str x) A
  | _, _ => .bad
def absD : FM
  | [.int i], A => .ok (.int (if i < 0 then -i else i)) A
  | _, _ => .bad
def maxD : FM
  | [.int i, .int j], A => .ok (.int (if j > i then j else i)) A
  | [d], A => match rdL A d with
    | some xs => match intsOf xs with
      | some (i :: is) => .ok (.int (maxI (i :: is))) A
      | _ => .bad
    | none => .bad
  | _, _ => .bad
def minD : FM
  | [.int i, .int j], A => .ok (.int (if j < i then j else i)) A
  | [d], A => match rdL A d with
    | some xs => match intsOf xs with
      | some (i :: is) => .ok (.int (minI (i :: is))) A
      | _ => .bad
    | none => .bad
  | _, _ => .bad
def sumD : FM
  | [d], A => match rdL A d with
    | some xs => match intsOf xs with
      | some is => .ok (.int is.sum) A
      | _ => .bad
    | none => .bad
  | _, _ => .bad
def anyD : FM
  | [d], A => match rdL A d with
    | some xs => match blsOf xs with
      | some is => .ok (.bl (is.any id)) A
      | _ => .bad
    | none => .bad
  | _, _ => .bad
def allD : FM
  | [d], A => match rdL A d with
    | some xs => match blsOf xs with
      | some is => .ok (.bl (is.all id)) A
      | _ => .bad
    | none => .bad
  | _, _ => .bad
def tupOf : FM
  | [.tup xs], A => .ok (.tup xs) A
  | [d], A => match rdL A d with
    | some xs => .ok (.tup xs) A
    | none => .bad
  | _, _ => .bad
def lstOf : FM
  | [d], A => match rdS A d with
    | some xs => alloc (.lst xs) A
    | none => match rdK A d with
      | some kvs => .bad
      | none => .bad
  | _, _ => .bad
def dicOf : FM
  | [d], A => match rdK A d with
    | some kvs => alloc (.dic kvs) A
    | none => .bad
  | _, _ => .bad
section
variable {X : Cx} {E : XK}
theorem RpL.one_inv {K : PySem.W.Frag} {ρ : List Addr} {H : Hp} {d : D} {xs : List V} (r : RpL K ρ H [d] xs) : ∃ x, xs = [x] ∧ Rp K ρ H d x := by
  obtain ⟨x, r, rfl, h, h2⟩ := r
  exact ⟨x, by rw [show r = [] from h2], h⟩
theorem RpL.two_inv {K : PySem.W.Frag} {ρ : List Addr} {H : Hp} {d e : D} {xs : List V} (r : RpL K ρ H [d, e] xs) : ∃ x y, xs = [x, y] ∧ Rp K ρ H d x ∧ Rp K ρ H e y := by
  obtain ⟨x, r, rfl, h, h2⟩ := r
  obtain ⟨y, rfl, h3⟩ := h2.one_inv
  exact ⟨x, y, rfl, h, h3⟩
theorem acall_len : ACall X E (.builtin "len") lenD := callR_mono ((call_len_seq.or call_len_str).or call_lenD) fun xs H Q h => by
  obtain ⟨ρ, A, ds, R, r, h⟩ := h
  unfold lenD at h
  split at h
  · split at h
    · rename_i z
      obtain ⟨x, rfl, r1⟩ := r.one_inv
      cases r1
      exact .inl (.inr ⟨_, rfl, z, h.now R rfl⟩)
    · exact h.elim
  · obtain ⟨x, rfl, r1⟩ := r.one_inv
    split at h
    · rename_i ys e1
      obtain ⟨a, us, rfl, q1, q2⟩ := rdS_ok R r1 e1
      exact .inl (.inl ⟨a, us, rfl, q1, h.now R (by rw [q2.length]; rfl)⟩)
    · split at h
      · rename_i kvs e1
        obtain ⟨_, a, us, _, rfl, _, _, q1, q2⟩ := rdK_ok R r1 e1
        exact .inr ⟨a, us, rfl, q1, h.now R (by rw [q2.length]; rfl)⟩
      · exact h.elim
  · exact h.elim
theorem acall_int : ACall X E (.type "int") intD := callR_mono (call_int1.or call_int_str) fun xs H Q h => by
  obtain ⟨ρ, A, ds, R, r, h⟩ := h
  unfold intD at h
  split at h
  · obtain ⟨x, rfl, r1⟩ := r.one_inv
    cases r1
    exact .inl (.inl ⟨_, rfl, h.now R rfl⟩)
  · obtain ⟨x, rfl, r1⟩ := r.one_inv
    cases r1
    exact .inl (.inr ⟨_, rfl, h.now R rfl⟩)
  · obtain ⟨x, rfl, r1⟩ := r.one_inv
    cases r1
    split at h
    · rename_i z
      split at h
      · rename_i n e
        exact .inr ⟨_, n, rfl, e, z, h.now R rfl⟩
      · exact h.elim
    · exact h.elim
  · exact h.elim
theorem acall_str : ACall X E (.type "str") strD := callR_mono (call_str_int.or SkE.call_str_str) fun xs H Q h => by
  obtain ⟨ρ, A, ds, R, r, h⟩ := h
  unfold strD at h
  split at h
  · obtain ⟨x, rfl, r1⟩ := r.one_inv
    cases r1
    split at h
    · rename_i z
      exact .inl ⟨_, rfl, z, h.now R rfl⟩
    · exact h.elim
  · obtain ⟨x, rfl, r1⟩ := r.one_inv
    cases r1
    exact .inr ⟨_, rfl, h.now R rfl⟩
  · exact h.elim
theorem acall_abs : ACall X E (.builtin "abs") absD := callR_mono call_abs fun xs H Q h => by
  obtain ⟨ρ, A, ds, R, r, h⟩ := h
  unfold absD at h
  split at h
  · obtain ⟨x, rfl, r1⟩ := r.one_inv
    cases r1
    exact ⟨_, rfl, h.now R rfl⟩
  · exact h.elim
theorem acall_max (hc : X.calm = true) : ACall X E (.builtin "max") maxD := callR_mono ((call_max2 hc).or (cr_max hc)) fun xs H Q h => by
  obtain ⟨ρ, A, ds, R, r, h⟩ := h
  unfold maxD at h
  split at h
  · obtain ⟨x, y, rfl, r1, r2⟩ := r.two_inv
    cases r1; cases r2
    exact .inl ⟨_, _, rfl, h.now R rfl⟩
  · obtain ⟨x, rfl, r1⟩ := r.one_inv
    split at h
    · rename_i ys e1
      obtain ⟨a, us, rfl, q1, q2⟩ := rdL_ok R r1 e1
      split at h
      · rename_i i is e2
        refine .inr ⟨a, i :: is, rfl, by rw [← ints_ok q2 e2]; exact q1, by simp, fun m h1 h2 => h.now R ?_⟩
        rw [maxI_eq h1 h2]; rfl
      · exact h.elim
    · exact h.elim
  · exact h.elim
theorem acall_min (hc : X.calm = true) : ACall X E (.builtin "min") minD := callR_mono ((call_min2 hc).or (cr_min hc)) fun xs H Q h => by
  obtain ⟨ρ, A, ds, R, r, h⟩ := h
  unfold minD at h
  split at h
  · obtain ⟨x, y, rfl, r1, r2⟩ := r.two_inv
    cases r1; cases r2
    exact .inl ⟨_, _, rfl, h.now R rfl⟩
  · obtain ⟨x, rfl, r1⟩ := r.one_inv
    split at h
    · rename_i ys e1
      obtain ⟨a, us, rfl, q1, q2⟩ := rdL_ok R r1 e1
      split at h
      · rename_i i is e2
        refine .inr ⟨a, i :: is, rfl, by rw [← ints_ok q2 e2]; exact q1, by simp, fun m h1 h2 => h.now R ?_⟩
        rw [minI_eq h1 h2]; rfl
      · exact h.elim
    · exact h.elim
  · exact h.elim
theorem acall_sum (hc : X.calm = true) : ACall X E (.builtin "sum") sumD := callR_mono (cr_sum hc) fun xs H Q h => by
  obtain ⟨ρ, A, ds, R, r, h⟩ := h
  unfold sumD at h
  split at h
  · obtain ⟨x, rfl, r1⟩ := r.one_inv
    split at h
    · rename_i ys e1
      obtain ⟨a, us, rfl, q1, q2⟩ := rdL_ok R r1 e1
      split at h
      · rename_i is e2
        exact ⟨a, is, rfl, by rw [← ints_ok q2 e2]; exact q1, h.now R rfl⟩
      · exact h.elim
    · exact h.elim
  · exact h.elim
theorem acall_any (hc : X.calm = true) : ACall X E (.builtin "any") anyD := callR_mono (cr_any hc) fun xs H Q h => by
  obtain ⟨ρ, A, ds, R, r, h⟩ := h
  unfold anyD at h
  split at h
  · obtain ⟨x, rfl, r1⟩ := r.one_inv
    split at h
    · rename_i ys e1
      obtain ⟨a, us, rfl, q1, q2⟩ := rdL_ok R r1 e1
      split at h
      · rename_i is e2
        exact ⟨a, is, rfl, by rw [← bls_ok q2 e2]; exact q1, h.now R rfl⟩
      · exact h.elim
    · exact h.elim
  · exact h.elim
theorem acall_all (hc : X.calm = true) : ACall X E (.builtin "all") allD := callR_mono (cr_all hc) fun xs H Q h => by
  obtain ⟨ρ, A, ds, R, r, h⟩ := h
  unfold allD at h
  split at h
  · obtain ⟨x, rfl, r1⟩ := r.one_inv
    split at h
    · rename_i ys e1
      obtain ⟨a, us, rfl, q1, q2⟩ := rdL_ok R r1 e1
      split at h
      · rename_i is e2
        exact ⟨a, is, rfl, by rw [← bls_ok q2 e2]; exact q1, h.now R rfl⟩
      · exact h.elim
    · exact h.elim
  · exact h.elim
theorem acall_tuple : ACall X E (.type "tuple") tupOf := callR_mono call_tuple_of fun xs H Q h => by
  obtain ⟨ρ, A, ds, R, r, h⟩ := h
  unfold tupOf at h
  split at h
  · obtain ⟨x, rfl, r1⟩ := r.one_inv
    obtain ⟨a, us, rfl, q1, q2⟩ := r1
    exact ⟨a, us, rfl, .inr ⟨q1, h.now R ⟨a, us, rfl, q1, q2⟩⟩⟩
  · obtain ⟨x, rfl, r1⟩ := r.one_inv
    split at h
    · rename_i ys e1
      obtain ⟨a, us, rfl, q1, q2⟩ := rdL_ok R r1 e1
      exact ⟨a, us, rfl, .inl ⟨q1, new_tup R q2 h⟩⟩
    · exact h.elim
  · exact h.elim
theorem acall_list : ACall X E (.type "list") lstOf := callR_mono call_list_of fun xs H Q h => by
  obtain ⟨ρ, A, ds, R, r, h⟩ := h
  unfold lstOf at h
  split at h
  · obtain ⟨x, rfl, r1⟩ := r.one_inv
    split at h
    · rename_i ys e1
      obtain ⟨a, us, rfl, q1, q2⟩ := rdS_ok R r1 e1
      exact ⟨a, us, rfl, q1, new_lst R q2 h⟩
    · split at h <;> exact h.elim
  · exact h.elim
theorem acall_dict : ACall X E (.type "dict") dicOf := callR_mono call_dictD fun xs H Q h => by
  obtain ⟨ρ, A, ds, R, r, h⟩ := h
  unfold dicOf at h
  split at h
  · obtain ⟨x, rfl, r1⟩ := r.one_inv
    split at h
    · rename_i ys e1
      obtain ⟨_, a, us, _, rfl, _, _, q1, q2⟩ := rdK_ok R r1 e1
      exact ⟨a, us, rfl, .inl q1, new_dic R q2 h⟩
    · exact h.elim
  · exact h.elim
end
end Ab

namespace Ab
open PySem PySem.Spec PyProof.Rows L2
open scoped Classical

/-! ## targets -/
abbrev FG := D → ASt → AH → Res ASt
def OutG (K : PySem.W.Frag) (E : XK) (ρ : List Addr) (H : Hp) (r : Res ASt) (Q : L2.St → Hp → Prop) : Prop := match r with
  | .ok s A' => ∀ ρ' H' σ', Ext K ρ H ρ' H' → Rel K ρ' H' A' → SRel K ρ' H' s σ' → Q σ' H'
  | .exc C fs A' => ∀ ρ' H' dx us, Ext K ρ H ρ' H' → Rel K ρ' H' A' → H' dx = some (.xd us) → RpK K ρ' H' fs us → E (.ref C) (some dx) H'
  | .bad => False
theorem OutG.ext {K : PySem.W.Frag} {E : XK} {ρ0 ρ : List Addr} {H0 H : Hp} {r : Res ASt} {G : L2.St → Hp → Prop} (h : OutG K E ρ0 H0 r G) (e : Ext K ρ0 H0 ρ H) : OutG K E ρ H r G := by
  cases r with
  | bad => exact h
  | exc C fs A => exact fun ρ' H' dx us e2 => h ρ' H' dx us (e.trans e2)
  | ok c A => exact fun ρ' H' w e2 => h ρ' H' w (e.trans e2)
theorem Out.bindG {K : PySem.W.Frag} {E : XK} {α β : Type} {R1 : List Addr → Hp → α → β → Prop} {ρ : List Addr} {H : Hp} {r : Res α} {k : α → AH → Res ASt} {G : L2.St → Hp → Prop} (h : OutG K E ρ H (r.bind k) G) :
    Out K E R1 ρ H r (fun v H1 => ∃ ρ1 a A1, r = .ok a A1 ∧ Ext K ρ H ρ1 H1 ∧ Rel K ρ1 H1 A1 ∧ R1 ρ1 H1 a v ∧ OutG K E ρ1 H1 (k a A1) G) := by
  cases r with
  | bad => exact h
  | exc C fs A => exact h
  | ok a A => exact fun ρ1 H1 v e1 r1 q1 => ⟨ρ1, a, A, rfl, e1, r1, q1, OutG.ext h e1⟩
theorem OutG.bindG {K : PySem.W.Frag} {E : XK} {ρ : List Addr} {H : Hp} {r : Res ASt} {k : ASt → AH → Res ASt} {G : L2.St → Hp → Prop} (h : OutG K E ρ H (r.bind k) G) :
    OutG K E ρ H r (fun σ H1 => ∃ ρ1 s A1, r = .ok s A1 ∧ Ext K ρ H ρ1 H1 ∧ Rel K ρ1 H1 A1 ∧ SRel K ρ1 H1 s σ ∧ OutG K E ρ1 H1 (k s A1) G) := by
  cases r with
  | bad => exact h
  | exc C fs A => exact h
  | ok a A => exact fun ρ1 H1 v e1 r1 q1 => ⟨ρ1, a, A, rfl, e1, r1, q1, OutG.ext h e1⟩
theorem OutG.bindS {K : PySem.W.Frag} {E : XK} {ρ : List Addr} {H : Hp} {r : Res ASt} {k : ASt → AH → Res Fl} {G : Ends} (h : SOut K E ρ H (r.bind k) G) :
    OutG K E ρ H r (fun σ H1 => ∃ ρ1 s A1, r = .ok s A1 ∧ Ext K ρ H ρ1 H1 ∧ Rel K ρ1 H1 A1 ∧ SRel K ρ1 H1 s σ ∧ SOut K E ρ1 H1 (k s A1) G) := by
  cases r with
  | bad => exact h
  | exc C fs A => exact h
  | ok a A => exact fun ρ1 H1 v e1 r1 q1 => ⟨ρ1, a, A, rfl, e1, r1, q1, SOut.ext h e1⟩
theorem OutG.mono {K : PySem.W.Frag} {E : XK} {ρ : List Addr} {H : Hp} {r : Res ASt} {Q Q' : L2.St → Hp → Prop} (h : OutG K E ρ H r Q) (q : ∀ v H', Q v H' → Q' v H') : OutG K E ρ H r Q' := by
  cases r with
  | bad => exact h
  | exc C fs A => exact h
  | ok c A => exact fun ρ' H' w e r1 q1 => q _ _ (h ρ' H' w e r1 q1)
def tAG (K : PySem.W.Frag) (E : XK) (g : FG) : TG := fun v σ H Q => ∃ ρ s A d, SRel K ρ H s σ ∧ Rel K ρ H A ∧ Rp K ρ H d v ∧ OutG K E ρ H (g d s A) Q
abbrev AG (X : Cx) (E : XK) (tg : Expr) (g : FG) : Prop := PG X tg (tAG X.K E g)
theorem pg_mono {X : Cx} {e : Expr} {t u : TG} (h : PG X e t) (m : ∀ v σ H Q, u v σ H Q → t v σ H Q) : PG X e u := ⟨fun pins s σ H v w Q I r q => h.run pins s σ H v w Q I r (m _ _ _ _ q)⟩
def gN (i : Nat) : FG := fun d s A => .ok (s.set i (some d)) A
section
variable {X : Cx} {E : XK} {pos : Pos}
theorem ag_name {i : Nat} {x : Str} (hN : X.N.Nodup) (hi : X.N[i]? = some x := by rfl) (hx : Loc X.env.scope x := by first | exact Or.inl rfl | exact Or.inr rfl) (hf : X.fn x = true ∨ X.env.scope.names.lookup x = some .local := by first | exact .inl rfl | exact .inr rfl | assumption) : AG X E (.Name x pos) (gN i) :=
  pg_mono (pg_name hN hi hx hf) fun v σ H Q h => by
    obtain ⟨ρ, s, A, d, hs, R, r, h⟩ := h
    exact h ρ H _ .refl R (hs.set i r)
/-- targets one behind the other -/
abbrev FGs := List D → ASt → AH → Res ASt
def tAGs (K : PySem.W.Frag) (E : XK) (g : FGs) : TGs := fun vs σ H Q => ∃ ρ s A ds, SRel K ρ H s σ ∧ Rel K ρ H A ∧ RpL K ρ H ds vs ∧ OutG K E ρ H (g ds s A) Q
abbrev AGs (X : Cx) (E : XK) (tg : List Expr) (g : FGs) : Prop := PGs X tg (tAGs X.K E g)
def gNl : FGs := fun ds s A => match ds with
  | [] => .ok s A
  | _ => .bad
def gCs (g : FG) (gs : FGs) : FGs := fun ds s A => match ds with
  | d :: r => (g d s A).bind fun s1 A1 => gs r s1 A1
  | _ => .bad
theorem pgs_mono {X : Cx} {e : List Expr} {t u : TGs} (h : PGs X e t) (m : ∀ v σ H Q, u v σ H Q → t v σ H Q) : PGs X e u := ⟨fun pins s σ H v w Q I r q => h.run pins s σ H v w Q I r (m _ _ _ _ q)⟩
theorem ags_nil : AGs X E [] gNl := pgs_mono pgs_nil fun v σ H Q h => by
  obtain ⟨ρ, s, A, ds, hs, R, r, h⟩ := h
  unfold gNl at h
  split at h
  · exact ⟨r, h ρ H _ .refl R hs⟩
  · exact h.elim
theorem ags_cons {e : Expr} {es : List Expr} {g : FG} {gs : FGs} (h1 : AG X E e g) (h2 : AGs X E es gs) (hs : (assignEach (e :: es) X.env).map (·.2) = assign e X.env :: (assignEach es X.env).map (·.2) := by rfl) : AGs X E (e :: es) (gCs g gs) :=
  pgs_mono (pgs_cons h1 h2 hs) fun v σ H Q h => by
    obtain ⟨ρ, s, A, ds, hs, R, r, h⟩ := h
    unfold gCs at h
    split at h
    · rename_i d ds'
      obtain ⟨x, xs, rfl, r1, r2⟩ := r
      exact ⟨x, xs, rfl, ρ, s, A, d, hs, R, r1, (OutG.bindG h).mono fun σ1 H1 ⟨ρ1, s1, A1, _, e1, R1, hs1, h1⟩ => ⟨ρ1, s1, A1, ds', hs1, R1, r2.ext e1, h1⟩⟩
    · exact h.elim
def gTp (n : Nat) (gs : FGs) : FG := fun d s A => match d with
  | .tup ds => if ds.length = n then gs ds s A else .bad
  | _ => .bad
theorem ag_tup {es : List Expr} {k : Nat} {gs : FGs} {n : Nat} (hc : X.calm = true) (h : AGs X E es gs) (hn : (assignEach es X.env).length = n := by rfl) (hst : (assignEach es X.env).findIdx? (·.1) = none := by rfl) : AG X E (.Tuple es k pos) (gTp n gs) :=
  pg_mono (pg_tup hc h hn hst) fun v σ H Q h => by
    obtain ⟨ρ, s, A, d, hs, R, r, h⟩ := h
    unfold gTp at h
    split at h
    · split at h
      · rename_i ds z
        obtain ⟨a, xs, rfl, q1, q2⟩ := r
        exact ⟨a, xs, rfl, q1, by rw [q2.length]; exact z, ρ, s, A, ds, hs, R, q2, h⟩
      · exact h.elim
    · exact h.elim
/-- o[i] = v -/
def stD (o i v : D) (A : AH) : Res Unit := match o with
  | .ref n => match A[n]? with
    | some (.lst xs) => match i with
      | .int k => match ixN xs.length k with
        | some j => .ok () (A.set n (.lst (xs.set j v)))
        | none => .bad
      | _ => .bad
    | some (.dic kvs) => match keyOf i with
      | some k => if kvs.length < sizeLine then .ok () (A.set n (.dic (setK kvs k v))) else .bad
      | none => .bad
    | _ => .bad
  | _ => .bad
def gSb (fo fi : FE) : FG := fun d s A => (fo s A).bind fun o A1 => (fi s A1).bind fun i A2 => (stD o i d A2).bind fun _ A3 => .ok s A3
theorem upd_lst {K : PySem.W.Frag} {ρ : List Addr} {H : Hp} {A : AH} {n : Nat} {a : Addr} {xs : List V} {ys : List V} {ds es : List D} (R : Rel K ρ H A) (ha : ρ[n]? = some a) (hA : A[n]? = some (.lst ds)) (hH : H a = some (.lst xs)) (r : RpL K ρ H es ys) :
    Ext K ρ H ρ (upd H a (.lst ys)) ∧ Rel K ρ (upd H a (.lst ys)) (A.set n (.lst es)) := by
  have e : Ext K ρ H ρ (upd H a (.lst ys)) := Ext.mut hH trivial
  exact ⟨e, R.upd ha hA rfl hH trivial ⟨ys, upd_same, r.ext e⟩ rfl⟩
theorem upd_dic {K : PySem.W.Frag} {ρ : List Addr} {H : Hp} {A : AH} {n : Nat} {a : Addr} {xs ys : List (Key × V)} {ds es : List (Key × D)} (R : Rel K ρ H A) (ha : ρ[n]? = some a) (hA : A[n]? = some (.dic ds)) (hH : H a = some (.dK xs)) (r : RpK K ρ H es ys) :
    Ext K ρ H ρ (upd H a (.dK ys)) ∧ Rel K ρ (upd H a (.dK ys)) (A.set n (.dic es)) := by
  have e : Ext K ρ H ρ (upd H a (.dK ys)) := Ext.mut hH trivial
  exact ⟨e, R.upd ha hA rfl hH trivial ⟨ys, upd_same, r.ext e⟩ rfl⟩
theorem set_or {t u : TSet} (h : PSet X t) (h' : PSet X u) : PSet X (fun o i v H Q => t o i v H Q ∨ u o i v H Q) := fun pins s σ H o i v ov iv w Q I r1 r2 r3 q => by
  rcases q with q | q
  · exact h pins s σ H o i v ov iv w Q I r1 r2 r3 q
  · exact h' pins s σ H o i v ov iv w Q I r1 r2 r3 q
theorem ag_sub {o i : Expr} {fo fi : FE} (hu : X.A.units + 1 < cLine) (ho : AE X E o fo) (hi : AE X E i fi)
    (ha : ∀ v, assign (.Subscript o i pos) X.env v = (do
      let ov ← holding [v] (eval o X.env)
      let iv ← holding [v, ov] (eval i X.env)
      standAt pos
      holding [v, ov, iv] (setItem ov iv v)
      release [v, ov, iv] []) := by intro _; rfl) : AG X E (.Subscript o i pos) (gSb fo fi) := pg_mono (pg_sub ho hi (set_or set_list (set_dict hu)) ha) fun v σ H Q h => by
  obtain ⟨ρ, s, A, d, hs, R, r, h⟩ := h
  refine ⟨ρ, s, A, hs, R, (Out.bindG h).mono fun x H1 ⟨ρ1, d1, A1, _, e1, R1, r1, h1⟩ => ⟨ρ1, s, A1, hs.ext e1, R1, (Out.bindG h1).mono fun y H2 ⟨ρ2, d2, A2, _, e2, R2, r2, h2⟩ => ?_⟩⟩
  have r1 := r1.ext e2
  have r := r.ext (e1.trans e2)
  have hs := hs.ext (e1.trans e2)
  unfold stD at h2
  split at h2
  · rename_i n
    obtain ⟨a, ha, rfl⟩ := r1
    split at h2
    · rename_i xs e3
      obtain ⟨a', ha', us, q1, q2⟩ := R2.ob _ _ e3
      rw [ha] at ha'; cases ha'
      split at h2
      · rename_i k _
        split at h2
        · rename_i j e4
          cases r2
          have u := upd_lst (ds := xs) R2 ha e3 q1 (q2.set j r)
          exact .inl ⟨a, us, k, j, rfl, rfl, q1, by rw [q2.length]; exact e4, h2 ρ2 _ σ u.1 u.2 (hs.ext u.1)⟩
        · exact h2.elim
      · exact h2.elim
    · rename_i kvs e3
      obtain ⟨a', ha', us, q1, q2⟩ := R2.ob _ _ e3
      rw [ha] at ha'; cases ha'
      split at h2
      · rename_i k e4
        split at h2
        · rename_i z
          have u := upd_dic R2 ha e3 q1 (setK_ok (k := k) q2 r)
          exact .inr ⟨a, _, rfl, .inl ⟨us, k, q1, keyOf_ok r2 e4, by rw [q2.length]; exact z, rfl⟩, h2 ρ2 _ σ u.1 u.2 (hs.ext u.1)⟩
        · exact h2.elim
      · exact h2.elim
    · exact h2.elim
  · exact h2.elim
end

/-! ## statements -/
def fSet (f : FE) (i : Nat) : FS := fun s A => (f s A).bind fun d A1 => .ok (.nx (s.set i (some d))) A1
def fAsg (f : FE) (g : FG) : FS := fun s A => (f s A).bind fun d A1 => (g d s A1).bind fun s' A2 => .ok (.nx s') A2
def fRet (f : FE) : FS := fun s A => (f s A).bind fun d A1 => .ok (.rt d) A1
def fRetN : FS := fun _ A => .ok (.rt .non) A
def fEx (f : FE) : FS := fun s A => (f s A).bind fun _ A1 => .ok (.nx s) A1
def fPass : FS := fun s A => .ok (.nx s) A
def fBrk : FS := fun s A => .ok (.bk s) A
def fCont : FS := fun s A => .ok (.ct s) A
def fIfS (c : FT) (f g : FS) : FS := fun s A => (c s A).bind fun b A1 => if b = true then f s A1 else g s A1
def fSeq (f g : FS) : FS := fun s A => match f s A with
  | .ok (.nx s1) A1 => g s1 A1
  | r => r
def fAug (i : Nat) (f : FE) (go : D → D → AH → Res D) : FS := fun s A => match s[i]? with
  | some (some x) => (f s A).bind fun y A1 => (go x y A1).bind fun z A2 => .ok (.nx (s.set i (some z))) A2
  | _ => .bad
section
variable {X : Cx} {E : XK} {e : Expr} {st : Stmt} {rest : List Stmt} {f : FE} {p q : FS} {c : FT} {pos pos' : Pos}
theorem as_set {i : Nat} {x : Str} (hN : X.N.Nodup) (he : AE X E e f) (hi : X.N[i]? = some x := by rfl) (hx : Loc X.env.scope x := by first | exact Or.inl rfl | exact Or.inr rfl) (hs : swapsWith e (some (.Name x pos')) pos.line X.env = pure false := by rfl) (hf : X.fn x = true ∨ X.env.scope.names.lookup x = some .local := by first | exact .inl rfl | exact .inr rfl | assumption) :
    AS X E (.Assign [.Name x pos'] e pos) (fSet f i) := ps_mono (ps_set hN hi hx he hs hf) fun G σ H h => by
  obtain ⟨ρ, s, A, hs, R, h⟩ := h
  exact ⟨ρ, s, A, hs, R, (Out.bindS h).mono fun x H1 ⟨ρ1, d, A1, _, e1, R1, r1, h1⟩ => h1 ρ1 H1 _ .refl R1 ((hs.ext e1).set i r1)⟩
theorem as_asg {tg : Expr} {g : FG} (he : AE X E e f) (hg : AG X E tg g) (hs : swapsWithSole [tg] e pos.line X.env = pure false := by rfl) (hw : swappedStores [tg] e X.env = pure none := by rfl)
    (h1 : (assignEach [tg] X.env).map (·.2) = [assign tg X.env] := by rfl) : AS X E (.Assign [tg] e pos) (fAsg f g) := ps_mono (ps_asg he hg hs hw h1) fun G σ H h => by
  obtain ⟨ρ, s, A, hs, R, h⟩ := h
  exact ⟨ρ, s, A, hs, R, (Out.bindS h).mono fun x H1 ⟨ρ1, d, A1, _, e1, R1, r1, h1⟩ => ⟨ρ1, s, A1, d, hs.ext e1, R1, r1, (OutG.bindS h1).mono fun σ2 H2 ⟨ρ2, s2, A2, _, e2, R2, hs2, h2⟩ => h2 ρ2 H2 σ2 .refl R2 hs2⟩⟩
theorem as_ret (he : AE X E e f) : AS X E (.Return (some e) pos) (fRet f) := ps_mono (ps_ret he) fun G σ H h => by
  obtain ⟨ρ, s, A, hs, R, h⟩ := h
  exact ⟨ρ, s, A, hs, R, (Out.bindS h).mono fun x H1 ⟨ρ1, d, A1, _, e1, R1, r1, h1⟩ => h1 ρ1 H1 x .refl R1 r1⟩
theorem as_retN : AS X E (.Return none pos) fRetN := ps_mono ps_retN fun G σ H h => by
  obtain ⟨ρ, s, A, hs, R, h⟩ := h
  exact h ρ H .non .refl R rfl
theorem as_ex (he : AE X E e f) (hs : swapsWith e none pos.line X.env = pure false := by rfl) : AS X E (.Expr e pos) (fEx f) := ps_mono (ps_expr he hs) fun G σ H h => by
  obtain ⟨ρ, s, A, hs, R, h⟩ := h
  exact ⟨ρ, s, A, hs, R, (Out.bindS h).mono fun x H1 ⟨ρ1, d, A1, _, e1, R1, r1, h1⟩ => h1 ρ1 H1 σ .refl R1 (hs.ext e1)⟩
theorem as_pass : AS X E (.Pass pos) fPass := ps_mono ps_pass fun G σ H h => by
  obtain ⟨ρ, s, A, hs, R, h⟩ := h
  exact h ρ H σ .refl R hs
theorem as_brk : AS X E (.Break pos) fBrk := ps_mono ps_break fun G σ H h => by
  obtain ⟨ρ, s, A, hs, R, h⟩ := h
  exact h ρ H σ .refl R hs
theorem as_cont : AS X E (.Continue pos) fCont := ps_mono ps_continue fun G σ H h => by
  obtain ⟨ρ, s, A, hs, R, h⟩ := h
  exact h ρ H σ .refl R hs
theorem as_if {u : Expr} {a b : List Stmt} (hc : AT X E u c) (ha : ASs X E a p) (hb : ASs X E b q) : AS X E (.If u a b pos) (fIfS c p q) := ps_mono (ps_if hc ha hb) fun G σ H h => by
  obtain ⟨ρ, s, A, hs, R, h⟩ := h
  refine ⟨ρ, s, A, hs, R, (Out.bindS h).mono fun x H1 ⟨ρ1, d, A1, _, e1, R1, r1, h1⟩ => ?_⟩
  cases r1
  cases x with
  | true => exact ⟨ρ1, s, A1, hs.ext e1, R1, h1⟩
  | false => exact ⟨ρ1, s, A1, hs.ext e1, R1, h1⟩
theorem ass_nil : ASs X E [] fPass := pss_mono pss_nil fun G σ H h => by
  obtain ⟨ρ, s, A, hs, R, h⟩ := h
  exact h ρ H σ .refl R hs
theorem ass_one (h : AS X E st p) : ASs X E [st] p := pss_one h
theorem ass_cons (h : AS X E st p) (h' : ASs X E rest q) : ASs X E (st :: rest) (fSeq p q) := pss_mono (pss_cons h h') fun G σ H h => by
  obtain ⟨ρ, s, A, hs, R, h⟩ := h
  refine ⟨ρ, s, A, hs, R, ?_⟩
  unfold fSeq at h
  cases e : p s A with
  | bad => rw [e] at h; exact h
  | exc C fs A1 => rw [e] at h; exact h
  | ok fl A1 =>
    rw [e] at h
    cases fl with
    | nx s1 => exact fun ρ1 H1 σ1 e1 R1 hs1 => ⟨ρ1, s1, A1, hs1, R1, SOut.ext h e1⟩
    | rt d => exact h
    | bk s1 => exact h
    | ct s1 => exact h
/-- x op= e at a name -/
def rIp (K : PySem.W.Frag) (E : XK) (g : D → D → AH → Res D) : TIp := rA K E g
theorem as_aug {i : Nat} {x : Str} {op : Operator} {go : D → D → AH → Res D} (hN : X.N.Nodup) (ho : PIp X op (rIp X.K E go)) (he : AE X E e f) (hi : X.N[i]? = some x := by rfl) (hx : Loc X.env.scope x := by first | exact Or.inl rfl | exact Or.inr rfl) (hf : X.fn x = true ∨ X.env.scope.names.lookup x = some .local := by first | exact .inl rfl | exact .inr rfl | assumption) :
    AS X E (.AugAssign (.Name x pos') op e pos) (fAug i f go) := ps_mono (ps_aug hN hi hx he ho hf) fun G σ H h => by
  obtain ⟨ρ, s, A, hs, R, h⟩ := h
  unfold fAug at h
  split at h
  · rename_i d0 e0
    obtain ⟨v, h1, h2⟩ := hs.at_ i d0 e0
    exact ⟨v, h1, ρ, s, A, hs, R, (Out.bindS h).mono fun y H1 ⟨ρ1, d, A1, _, e1, R1, r1, h1⟩ => ⟨ρ1, A1, d0, d, R1, h2.ext e1, r1, (Out.bindS h1).mono fun z H2 ⟨ρ2, d2, A2, _, e2, R2, r2, h2⟩ => h2 ρ2 H2 _ .refl R2 ((hs.ext (e1.trans e2)).set i r2)⟩⟩
  · exact h.elim
def augAddD : D → D → AH → Res D
  | .int i, .int j, A => .ok (.int (i + j)) A
  | .str x, .str y, A => if x.length + y.length ≤ sizeLine then .ok (.str (x ++ y)) A else .bad
  | _, _, _ => .bad
theorem ip_addA : PIp X .Add (rIp X.K E augAddD) := fun pins s σ H x y v u Q I rx ry h => by
  obtain ⟨ρ, A, d, e, R, r1, r2, h⟩ := h
  unfold augAddD at h
  split at h
  · cases r1; cases r2
    exact iop_add pins s σ H _ _ v u Q I rx ry ⟨_, _, rfl, rfl, h.now R rfl⟩
  · split at h
    · rename_i z
      cases r1; cases r2
      exact iop_add_str pins s σ H _ _ v u Q I rx ry ⟨_, _, rfl, rfl, z, h.now R rfl⟩
    · exact h.elim
  · exact h.elim
theorem ip_subA : PIp X .Sub (rIp X.K E subD) := fun pins s σ H x y v u Q I rx ry h => by
  obtain ⟨ρ, A, d, e, R, r1, r2, h⟩ := h
  unfold subD at h
  split at h
  · cases r1; cases r2
    exact iop_sub pins s σ H _ _ v u Q I rx ry ⟨_, _, rfl, rfl, h.now R rfl⟩
  · exact h.elim
end

/-! ## what is walked -/
/-- the items, and what must hold of the cells at every turn -/
structure Src where
  items : List D
  ok : AH → Prop
abbrev FI := ASt → AH → Res Src
/-- the walker J yields these items -/
def ItRel (K : PySem.W.Frag) (J : It) (ρ0 : List Addr) (H0 : Hp) (S : Src) : Prop := ∀ (i : Nat) ρ H A, Ext K ρ0 H0 ρ H → Rel K ρ H A → S.ok A →
  (∀ d, S.items[i]? = some d → J.go i H ∧ ∀ x H', J.yld i H x H' → Ext K ρ H ρ H' ∧ Rel K ρ H' A ∧ Rp K ρ H' d x) ∧ (S.items.length ≤ i → S.items.length = i → J.stop i H)
def OutI (K : PySem.W.Frag) (E : XK) (ρ : List Addr) (H : Hp) (r : Res Src) (Q : It → Hp → Prop) : Prop := match r with
  | .ok S A' => ∀ ρ' H' J, Ext K ρ H ρ' H' → Rel K ρ' H' A' → ItRel K J ρ' H' S → Q J H'
  | .exc C fs A' => ∀ ρ' H' dx us, Ext K ρ H ρ' H' → Rel K ρ' H' A' → H' dx = some (.xd us) → RpK K ρ' H' fs us → E (.ref C) (some dx) H'
  | .bad => False
theorem OutI.ext {K : PySem.W.Frag} {E : XK} {ρ0 ρ : List Addr} {H0 H : Hp} {r : Res Src} {G : It → Hp → Prop} (h : OutI K E ρ0 H0 r G) (e : Ext K ρ0 H0 ρ H) : OutI K E ρ H r G := by
  cases r with
  | bad => exact h
  | exc C fs A => exact fun ρ' H' dx us e2 => h ρ' H' dx us (e.trans e2)
  | ok c A => exact fun ρ' H' w e2 => h ρ' H' w (e.trans e2)
theorem Out.bindI {K : PySem.W.Frag} {E : XK} {α β : Type} {R1 : List Addr → Hp → α → β → Prop} {ρ : List Addr} {H : Hp} {r : Res α} {k : α → AH → Res Src} {G : It → Hp → Prop} (h : OutI K E ρ H (r.bind k) G) :
    Out K E R1 ρ H r (fun v H1 => ∃ ρ1 a A1, r = .ok a A1 ∧ Ext K ρ H ρ1 H1 ∧ Rel K ρ1 H1 A1 ∧ R1 ρ1 H1 a v ∧ OutI K E ρ1 H1 (k a A1) G) := by
  cases r with
  | bad => exact h
  | exc C fs A => exact h
  | ok a A => exact fun ρ1 H1 v e1 r1 q1 => ⟨ρ1, a, A, rfl, e1, r1, q1, OutI.ext h e1⟩
theorem OutI.bindS {K : PySem.W.Frag} {E : XK} {ρ : List Addr} {H : Hp} {r : Res Src} {k : Src → AH → Res Fl} {G : Ends} (h : SOut K E ρ H (r.bind k) G) :
    OutI K E ρ H r (fun J H1 => ∃ ρ1 S A1, r = .ok S A1 ∧ Ext K ρ H ρ1 H1 ∧ Rel K ρ1 H1 A1 ∧ ItRel K J ρ1 H1 S ∧ SOut K E ρ1 H1 (k S A1) G) := by
  cases r with
  | bad => exact h
  | exc C fs A => exact h
  | ok a A => exact fun ρ1 H1 v e1 r1 q1 => ⟨ρ1, a, A, rfl, e1, r1, q1, SOut.ext h e1⟩
theorem OutI.bindO {K : PySem.W.Frag} {E : XK} {α β : Type} {R1 : List Addr → Hp → α → β → Prop} {ρ : List Addr} {H : Hp} {r : Res Src} {k : Src → AH → Res α} {Q : β → Hp → Prop} (h : Out K E R1 ρ H (r.bind k) Q) :
    OutI K E ρ H r (fun J H1 => ∃ ρ1 S A1, r = .ok S A1 ∧ Ext K ρ H ρ1 H1 ∧ Rel K ρ1 H1 A1 ∧ ItRel K J ρ1 H1 S ∧ Out K E R1 ρ1 H1 (k S A1) Q) := by
  cases r with
  | bad => exact h
  | exc C fs A => exact h
  | ok a A => exact fun ρ1 H1 v e1 r1 q1 => ⟨ρ1, a, A, rfl, e1, r1, q1, Out.ext h e1⟩
theorem OutI.mono {K : PySem.W.Frag} {E : XK} {ρ : List Addr} {H : Hp} {r : Res Src} {Q Q' : It → Hp → Prop} (h : OutI K E ρ H r Q) (q : ∀ v H', Q v H' → Q' v H') : OutI K E ρ H r Q' := by
  cases r with
  | bad => exact h
  | exc C fs A => exact h
  | ok c A => exact fun ρ' H' w e r1 q1 => q _ _ (h ρ' H' w e r1 q1)
def tAI (K : PySem.W.Frag) (E : XK) (f : FI) : TI := fun σ H R => ∃ ρ s A, SRel K ρ H s σ ∧ Rel K ρ H A ∧ OutI K E ρ H (f s A) R
abbrev AI (X : Cx) (E : XK) (tg it : Expr) (f : FI) : Prop := PI X tg it (tAI X.K E f)
theorem pi_mono {X : Cx} {tg it : Expr} {t u : TI} (h : PI X tg it t) (m : ∀ σ H Q, u σ H Q → t σ H Q) : PI X tg it u := ⟨fun pins s σ H R I q => h.run pins s σ H R I (m _ _ _ q)⟩
def yes : AH → Prop := fun _ => True
def iSeq (d : D) (A : AH) : Res Src := match d with
  | .tup ds => .ok ⟨ds, yes⟩ A
  | .str x => .ok ⟨x.cps.toList.map fun c => .str ⟨#[c]⟩, yes⟩ A
  | d => match rdL A d with
    | some ds => .ok ⟨ds, fun A' => rdL A' d = some ds⟩ A
    | none => .bad
def fItS (f : FE) : FI := fun s A => (f s A).bind iSeq
def rngL (lo : Int) (n : Nat) : List D := (List.range n).map fun k => .int (lo + (k : Nat))
/-- an end of a range -/
structure InRg (j : Int) : Prop where
  lo : -(2 ^ 62) ≤ j
  hi : j < 2 ^ 62
noncomputable def fRg1 (f : FE) : FI := fun s A => (f s A).bind fun d A1 => match d with
  | .int j => if InRg j then .ok ⟨rngL 0 j.toNat, yes⟩ A1 else .bad
  | _ => .bad
noncomputable def fRg2 (f g : FE) : FI := fun s A => (f s A).bind fun d A1 => (g s A1).bind fun e A2 => match d, e with
  | .int i, .int j => if InRg i ∧ InRg j then .ok ⟨rngL i (j - i).toNat, yes⟩ A2 else .bad
  | _, _ => .bad
def enumL (k : Nat) : List D → List D
  | [] => []
  | d :: ds => .tup [.int k, d] :: enumL (k + 1) ds
def fEnum (f : FE) : FI := fun s A => (f s A).bind fun d A1 => match rdL A1 d with
  | some ds => .ok ⟨enumL 0 ds, fun A' => rdL A' d = some ds⟩ A1
  | none => .bad
def zipD : List D → List D → List D
  | a :: as, b :: bs => .tup [a, b] :: zipD as bs
  | _, _ => []
section
variable {K : PySem.W.Frag} {ρ : List Addr} {H : Hp}
theorem itr_rel (lo : Int) (n : Nat) : ItRel K (Itr lo n) ρ H ⟨rngL lo n, yes⟩ := fun i ρ' H' A e R _ => by
  have hl : (rngL lo n).length = n := by simp [rngL]
  refine ⟨fun d hd => ?_, fun h _ => by rw [show (Src.items ⟨rngL lo n, yes⟩).length = n from hl] at h; exact h⟩
  have hd : (rngL lo n)[i]? = some d := hd
  have hi : i < n := by have := (List.getElem?_eq_some_iff.mp hd).1; rwa [hl] at this
  refine ⟨hi, fun x H2 hy => ?_⟩
  obtain ⟨rfl, rfl⟩ := hy
  refine ⟨.refl, R, ?_⟩
  simp [rngL, hi] at hd
  subst hd
  rfl
theorem its_rel (x : Str) : ItRel K (Its x) ρ H ⟨x.cps.toList.map fun c => .str ⟨#[c]⟩, yes⟩ := fun i ρ' H' A e R _ => by
  refine ⟨fun d hd => ?_, fun h _ => by simpa [Its] using h⟩
  have hd : (x.cps.toList.map fun c => D.str ⟨#[c]⟩)[i]? = some d := hd
  rw [List.getElem?_map] at hd
  cases ec : x.cps.toList[i]? with
  | none => rw [ec] at hd; cases hd
  | some c =>
    rw [ec] at hd
    cases hd
    have hi : i < x.cps.size := by have := (List.getElem?_eq_some_iff.mp ec).1; simpa using this
    refine ⟨hi, fun y H2 hy => ?_⟩
    obtain ⟨rfl, c', h1, rfl⟩ := hy
    refine ⟨.refl, R, ?_⟩
    rw [← Array.getElem?_toList, ec] at h1
    cases h1
    rfl
theorem itt_rel {a : Addr} {xs : List V} {ds : List D} (h : SqT K H a xs) (r : RpL K ρ H ds xs) : ItRel K (Itt K a) ρ H ⟨ds, yes⟩ := fun i ρ' H' A e R _ => by
  have h' := e.gr _ _ h
  have r' := r.ext e
  refine ⟨fun d hd => ?_, fun hl _ => ⟨xs, h', by rw [r'.length]; exact hl⟩⟩
  obtain ⟨v, q1, q2⟩ := r'.get (show ds[i]? = some d from hd)
  refine ⟨⟨xs, v, h', q1⟩, fun x H2 hy => ?_⟩
  obtain ⟨rfl, fv⟩ := hy
  have := fv _ h'
  rw [q1] at this; cases this
  exact ⟨.refl, R, q2⟩
theorem itl_rel {a : Addr} {n : Nat} {ds : List D} (ha : ρ[n]? = some a) : ItRel K (Itl K a) ρ H ⟨ds, fun A => rdL A (.ref n) = some ds⟩ := fun i ρ' H' A e R ok => by
  have ha' := e.at_ ha
  have r0 : Rp K ρ' H' (.ref n) (.ref a) := ⟨a, ha', rfl⟩
  obtain ⟨b, xs, eb, h', r'⟩ := rdL_ok R r0 ok
  cases eb
  refine ⟨fun d hd => ?_, fun hl _ => ⟨xs, h', by rw [r'.length]; exact hl⟩⟩
  obtain ⟨v, q1, q2⟩ := r'.get (show ds[i]? = some d from hd)
  refine ⟨⟨xs, v, h', q1⟩, fun x H2 hy => ?_⟩
  obtain ⟨rfl, fv⟩ := hy
  have := fv _ h'
  rw [q1] at this; cases this
  exact ⟨.refl, R, q2⟩
end
section
variable {X : Cx} {E : XK} {tg e e2 : Expr} {f g : FE} {p pos : Pos}
theorem ai_seq (he : AE X E e f) : AI X E tg e (fItS f) := ⟨fun pins s σ H R I h => by
  obtain ⟨ρ, st, A, hs, Rl, h⟩ := h
  have base : ∀ {Q : VK}, (∀ v H1 ρ1 d A1, f st A = .ok d A1 → Ext X.K ρ H ρ1 H1 → Rel X.K ρ1 H1 A1 → Rp X.K ρ1 H1 d v → OutI X.K E ρ1 H1 (iSeq d A1) R → Q v H1) → tA X.K E f σ H Q := fun {Q} k =>
    ⟨ρ, st, A, hs, Rl, (Out.bindI h).mono fun v H1 ⟨ρ1, d, A1, q0, q1, q2, q3, q4⟩ => k v H1 ρ1 d A1 q0 q1 q2 q3 q4⟩
  cases ef : f st A with
  | bad => unfold fItS at h; rw [ef] at h; exact h.elim
  | exc C fs A1 =>
    refine (pi_tup he).run pins s σ H R I (base fun v H1 ρ1 d A1 q0 _ _ _ _ => ?_)
    rw [ef] at q0; cases q0
  | ok d0 A0 =>
    cases d0 with
    | tup ds =>
      refine (pi_tup he).run pins s σ H R I (base fun v H1 ρ1 d A1 q0 q1 q2 q3 q4 => ?_)
      rw [ef] at q0; cases q0
      obtain ⟨a, xs, rfl, z1, z2⟩ := q3
      exact ⟨a, rfl, ⟨xs, z1⟩, q4 ρ1 H1 _ .refl q2 (itt_rel z1 z2)⟩
    | str x =>
      refine (pi_str he).run pins s σ H R I (base fun v H1 ρ1 d A1 q0 q1 q2 q3 q4 => ?_)
      rw [ef] at q0; cases q0
      cases q3
      exact ⟨x, rfl, q4 ρ1 H1 _ .refl q2 (its_rel x)⟩
    | ref n =>
      refine (pi_list he).run pins s σ H R I (base fun v H1 ρ1 d A1 q0 q1 q2 q3 q4 => ?_)
      rw [ef] at q0; cases q0
      unfold iSeq at q4
      simp only at q4
      split at q4
      · rename_i ds e4
        obtain ⟨a, xs, rfl, z1, z2⟩ := rdL_ok q2 q3 e4
        obtain ⟨b, hb, eb⟩ := q3
        cases eb
        exact ⟨a, rfl, ⟨xs, z1⟩, q4 ρ1 H1 _ .refl q2 (itl_rel hb)⟩
      · exact q4.elim
    | non => exact absurd ((base (Q := fun _ _ => False) fun v H1 ρ1 d A1 q0 q1 q2 q3 q4 => by rw [ef] at q0; cases q0; exact q4)) (fun z => by
        unfold fItS at h; rw [ef] at h; exact h)
    | bl b => unfold fItS at h; rw [ef] at h; exact h.elim
    | int b => unfold fItS at h; rw [ef] at h; exact h.elim⟩
theorem ai_rg1 (hg : Gl X "range") (hm : X.mg "range" = none) (he : AE X E e f) (h1 : starEach [e] X.env = (false, eval e X.env) :: starEach [] X.env := by rfl) : AI X E tg (.Call (.Name "range" p) [e] [] pos) (fRg1 f) := pi_mono (pi_range1 (hs := h1) hg hm (aa_cons he aa_nil h1)) fun σ H Q h => by
  obtain ⟨ρ, s, A, hs, R, h⟩ := h
  have ef : fRg1 f s A = (fCons f fNil s A).bind fun ds A1 => match ds with
      | [.int j] => if InRg j then .ok ⟨rngL 0 j.toNat, yes⟩ A1 else .bad
      | _ => .bad := by
    unfold fRg1 fCons fNil
    cases f s A with
    | bad => rfl
    | exc _ _ _ => rfl
    | ok d A1 => cases d <;> rfl
  rw [ef] at h
  refine ⟨ρ, s, A, hs, R, (Out.bindI h).mono fun xs H1 ⟨ρ1, ds, A1, _, e1, R1, r1, h1⟩ => ?_⟩
  split at h1
  · split at h1
    · rename_i j _ z
      obtain ⟨x, rfl, r2⟩ := r1.one_inv
      cases r2
      exact ⟨j, rfl, z.lo, z.hi, h1 ρ1 H1 _ .refl R1 (itr_rel 0 _)⟩
    · exact h1.elim
  · exact h1.elim
theorem ai_rg2 (hg : Gl X "range") (hm : X.mg "range" = none) (he : AE X E e f) (he2 : AE X E e2 g) (h1 : starEach [e, e2] X.env = (false, eval e X.env) :: starEach [e2] X.env := by rfl) (h2 : starEach [e2] X.env = (false, eval e2 X.env) :: starEach [] X.env := by rfl) :
    AI X E tg (.Call (.Name "range" p) [e, e2] [] pos) (fRg2 f g) := pi_mono (pi_range2 (hs := h1.trans (by rw [h2]; rfl)) (hs2 := h2) hg hm (aa_cons he (aa_cons he2 aa_nil h2) h1)) fun σ H Q h => by
  obtain ⟨ρ, s, A, hs, R, h⟩ := h
  have ef : fRg2 f g s A = (fCons f (fCons g fNil) s A).bind fun ds A1 => match ds with
      | [.int i, .int j] => if InRg i ∧ InRg j then .ok ⟨rngL i (j - i).toNat, yes⟩ A1 else .bad
      | _ => .bad := by
    unfold fRg2 fCons
    cases f s A with
    | bad => rfl
    | exc _ _ _ => rfl
    | ok d A1 =>
      show (g s A1).bind _ = Res.bind (Res.bind (fCons g fNil s A1) _) _
      unfold fCons fNil
      cases g s A1 with
      | bad => rfl
      | exc _ _ _ => rfl
      | ok d' A2 => cases d <;> cases d' <;> rfl
  rw [ef] at h
  refine ⟨ρ, s, A, hs, R, (Out.bindI h).mono fun xs H1 ⟨ρ1, ds, A1, _, e1, R1, r1, h1⟩ => ?_⟩
  split at h1
  · split at h1
    · rename_i i j _ z
      obtain ⟨x, y, rfl, r2, r3⟩ := r1.two_inv
      cases r2; cases r3
      exact ⟨i, j, rfl, ⟨z.1.lo, z.1.hi, z.2.lo, z.2.hi⟩, h1 ρ1 H1 _ .refl R1 (itr_rel i _)⟩
    · exact h1.elim
  · exact h1.elim
end

/-! ## for, while -/
noncomputable def loopD (ok : AH → Prop) (g : FG) (body : FS) : List D → FS
  | [], s, A => if ok A then .ok (.nx s) A else .bad
  | d :: ds, s, A => if ok A then (g d s A).bind fun s1 A1 => (match body s1 A1 with
    | .ok (.nx s2) A2 => loopD ok g body ds s2 A2
    | .ok (.ct s2) A2 => loopD ok g body ds s2 A2
    | .ok (.bk s2) A2 => .ok (.nx s2) A2
    | r => r) else .bad
noncomputable def fFor (src : FI) (g : FG) (body : FS) : FS := fun s A => (src s A).bind fun S A1 => loopD S.ok g body S.items s A1
def loopW (c : FT) (body : FS) : Nat → FS
  | 0, _, _ => .bad
  | n + 1, s, A => (c s A).bind fun b A1 => if b = true then (match body s A1 with
    | .ok (.nx s2) A2 => loopW c body n s2 A2
    | .ok (.ct s2) A2 => loopW c body n s2 A2
    | .ok (.bk s2) A2 => .ok (.nx s2) A2
    | r => r) else .ok (.nx s) A1
section
variable {X : Cx} {E : XK} {tg iter c : Expr} {body : List Stmt} {src : FI} {g : FG} {p : FS} {t : FT} {pos : Pos}
theorem as_for (hp : PassesOwn (model X.prog X.w) X.A X.env X.xe) (hc : X.calm = true) (hi : AI X E tg iter src) (hg : AG X E tg g) (hb : ASs X E body p) (hs : ∀ x, foldedSetIterable iter X.env x = pure x := by intro _; rfl) :
    AS X E (.For tg iter body [] pos) (fFor src g p) := ps_mono (ps_for hp hc hi hg hb hs) fun G σ H h => by
  obtain ⟨ρ, s, A, hs, R, h⟩ := h
  refine ⟨ρ, s, A, hs, R, (OutI.bindS h).mono fun J H1 ⟨ρ1, S, A1, _, e1, R1, J1, h1⟩ => ?_⟩
  refine ⟨fun i m σ' H' => m = S.items.length - i ∧ i ≤ S.items.length ∧ ∃ ρ' s' A', Ext X.K ρ1 H1 ρ' H' ∧ SRel X.K ρ' H' s' σ' ∧ Rel X.K ρ' H' A' ∧ SOut X.K E ρ' H' (loopD S.ok g p (S.items.drop i) s' A') G, ⟨_, rfl, Nat.zero_le _, ρ1, s, A1, .refl, hs.ext e1, R1, by simpa using h1⟩, ?_⟩
  rintro i m σ' H' ⟨rfl, hi, ρ', s', A', e2, hs2, R2, h2⟩
  by_cases hl : i < S.items.length
  · obtain ⟨d, hd⟩ : ∃ d, S.items[i]? = some d := ⟨_, List.getElem?_eq_getElem hl⟩
    have ed : S.items.drop i = d :: S.items.drop (i + 1) := by
      rw [List.drop_eq_getElem_cons hl]
      rw [List.getElem?_eq_getElem hl] at hd
      cases hd; rfl
    rw [ed] at h2
    unfold loopD at h2
    split at h2
    · rename_i ok
      obtain ⟨go, yl⟩ := (J1 i ρ' H' A' e2 R2 ok).1 d hd
      refine .inr ⟨go, fun σ3 H3 => ∃ ρ3 s3 A3, Ext X.K ρ1 H1 ρ3 H3 ∧ SRel X.K ρ3 H3 s3 σ3 ∧ Rel X.K ρ3 H3 A3 ∧ SOut X.K E ρ3 H3 (loopD S.ok g p (S.items.drop (i + 1)) s3 A3) G, fun σ3 H3 h3 => ⟨_, by omega, rfl, hl, h3⟩, fun x H3 hy => ?_⟩
      obtain ⟨e3, R3, r3⟩ := yl x H3 hy
      refine ⟨ρ', s', A', d, hs2.ext e3, R3, r3, (OutG.bindS (h2.ext e3)).mono fun σ4 H4 ⟨ρ4, s4, A4, _, e4, R4, hs4, h4⟩ => ?_⟩
      refine ⟨ρ4, s4, A4, hs4, R4, ?_⟩
      have e5 := e2.trans (e3.trans e4)
      cases eb : p s4 A4 with
      | bad => rw [eb] at h4; exact h4
      | exc C fs A5 => rw [eb] at h4; exact h4
      | ok fl A5 =>
        rw [eb] at h4
        cases fl with
        | nx s5 => exact fun ρ5 H5 σ5 e6 R5 hs5 => ⟨ρ5, s5, A5, e5.trans e6, hs5, R5, h4.ext e6⟩
        | ct s5 => exact fun ρ5 H5 σ5 e6 R5 hs5 => ⟨ρ5, s5, A5, e5.trans e6, hs5, R5, h4.ext e6⟩
        | bk s5 => exact h4
        | rt d => exact h4
    · exact h2.elim
  · have ei : i = S.items.length := by omega
    have ed : S.items.drop i = [] := List.drop_eq_nil_of_le (by omega)
    rw [ed] at h2
    unfold loopD at h2
    split at h2
    · rename_i ok
      exact .inl ⟨(J1 i ρ' H' A' e2 R2 ok).2 (by omega) ei.symm, h2 ρ' H' σ' .refl R2 hs2⟩
    · exact h2.elim
theorem as_while (n : Nat) (hp : PassesOwn (model X.prog X.w) X.A X.env X.xe) (hc : AT X E c t) (hb : ASs X E body p) : AS X E (.While c body [] pos) (loopW t p n) := ps_mono (ps_while hp hc hb) fun G σ H h => by
  obtain ⟨ρ, s, A, hs, R, h⟩ := h
  refine ⟨fun m σ' H' => ∃ ρ' s' A', SRel X.K ρ' H' s' σ' ∧ Rel X.K ρ' H' A' ∧ SOut X.K E ρ' H' (loopW t p m s' A') G, ⟨n, ρ, s, A, hs, R, h⟩, ?_⟩
  rintro m σ' H' ⟨ρ', s', A', hs2, R2, h2⟩
  cases m with
  | zero => exact h2.elim
  | succ m =>
    refine ⟨ρ', s', A', hs2, R2, (Out.bindS h2).mono fun x H3 ⟨ρ3, b, A3, _, e3, R3, r3, h3⟩ => ?_⟩
    cases r3
    cases x with
    | true =>
      rw [if_pos rfl]
      refine ⟨fun σ3 H3 => ∃ ρ3 s3 A3, SRel X.K ρ3 H3 s3 σ3 ∧ Rel X.K ρ3 H3 A3 ∧ SOut X.K E ρ3 H3 (loopW t p m s3 A3) G, fun σ3 H3 h3 => ⟨m, by omega, h3⟩, ?_⟩
      refine ⟨ρ3, s', A3, hs2.ext e3, R3, ?_⟩
      rw [if_pos rfl] at h3
      cases eb : p s' A3 with
      | bad => rw [eb] at h3; exact h3
      | exc C fs A5 => rw [eb] at h3; exact h3
      | ok fl A5 =>
        rw [eb] at h3
        cases fl with
        | nx s5 => exact fun ρ5 H5 σ5 e6 R5 hs5 => ⟨ρ5, s5, A5, hs5, R5, h3.ext e6⟩
        | ct s5 => exact fun ρ5 H5 σ5 e6 R5 hs5 => ⟨ρ5, s5, A5, hs5, R5, h3.ext e6⟩
        | bk s5 => exact h3
        | rt d => exact h3
    | false =>
      rw [if_neg Bool.false_ne_true]
      exact h3 ρ3 H3 σ' .refl R3 (hs2.ext e3)
end
end Ab

namespace Ab
open PySem PySem.Spec PyProof.Rows L2
open scoped Classical

/-! ## list comprehensions: the new list is a cell from the start -/
def wipeA (s : ASt) : List Nat → ASt
  | [] => s
  | v :: vs => (wipeA s vs).set v none
noncomputable def loopC (ok : AH → Prop) (g : FG) (t : FT) (f : FE) (n : Nat) (s : ASt) : List D → AH → Res D
  | [], A => if ok A then .ok (.ref n) A else .bad
  | d :: ds, A => if ok A then (g d s A).bind fun s1 A1 => (t s1 A1).bind fun b A2 => if b = true then (f s1 A2).bind fun y A3 => (match A3[n]? with
      | some (.lst acc) => if acc.length < sizeLine then loopC ok g t f n s ds (A3.set n (.lst (acc ++ [y]))) else .bad
      | _ => .bad) else loopC ok g t f n s ds A2 else .bad
noncomputable def fLc (src : FI) (g : FG) (t : FT) (f : FE) (vs : List Nat) : FE := fun s A => (src s A).bind fun S A1 => loopC S.ok g t f A1.length (wipeA s vs) S.items (A1 ++ [.lst []])
def fYes : FT := fun _ A => .ok true A
section
variable {K : PySem.W.Frag} {E : XK} {ρ : List Addr} {H : Hp} {s : ASt} {σ : L2.St}
theorem SRel.wipes (h : SRel K ρ H s σ) : ∀ vs : List Nat, SRel K ρ H (wipeA s vs) (L2.wipe σ vs)
  | [] => h
  | v :: vs => SRel.wipe (h.wipes vs) v
theorem wipe_set (i : Nat) (x : Option V) : ∀ (vs : List Nat) (σ : L2.St), i ∈ vs → L2.wipe (σ.set i x) vs = L2.wipe σ vs
  | [], σ, h => by cases h
  | v :: vs, σ, h => by
    show (L2.wipe (σ.set i x) vs).set v none = (L2.wipe σ vs).set v none
    by_cases e : i ∈ vs
    · rw [wipe_set i x vs σ e]
    · have ei : i = v := by rcases List.mem_cons.mp h with q | q; exact q; exact absurd q e
      subst ei
      have comm : ∀ (ws : List Nat), i ∉ ws → L2.wipe (σ.set i x) ws = (L2.wipe σ ws).set i x := by
        intro ws
        induction ws with
        | nil => intro _; rfl
        | cons w ws ih =>
          intro hn
          have h1 : i ≠ w := fun z => hn (by rw [z]; exact List.mem_cons_self)
          have h2 : i ∉ ws := fun z => hn (List.mem_cons_of_mem _ z)
          show (L2.wipe (σ.set i x) ws).set w none = ((L2.wipe σ ws).set w none).set i x
          rw [ih h2, List.set_comm _ _ h1]
      rw [comm vs e, List.set_set]
/-- a target whose stores the block forgets again -/
structure Tgt (K : PySem.W.Frag) (vs : List Nat) (t : TG) (g : FG) : Prop where
  det : ∀ d s A, g d s A = .bad ∨ ∃ s1, g d s A = .ok s1 A
  to : ∀ (ρ : List Addr) (H : Hp) (s : ASt) (σ : L2.St) (A : AH) (d : D) (v : V) (s1 : ASt) (Q : L2.St → Hp → Prop), SRel K ρ H s σ → Rp K ρ H d v → g d s A = .ok s1 A → (∀ σ1, SRel K ρ H s1 σ1 → L2.wipe σ1 vs = L2.wipe σ vs → Q σ1 H) → t v σ H Q
structure Tgts (K : PySem.W.Frag) (vs : List Nat) (t : TGs) (g : FGs) : Prop where
  det : ∀ d s A, g d s A = .bad ∨ ∃ s1, g d s A = .ok s1 A
  to : ∀ (ρ : List Addr) (H : Hp) (s : ASt) (σ : L2.St) (A : AH) (d : List D) (v : List V) (s1 : ASt) (Q : L2.St → Hp → Prop), SRel K ρ H s σ → RpL K ρ H d v → g d s A = .ok s1 A → (∀ σ1, SRel K ρ H s1 σ1 → L2.wipe σ1 vs = L2.wipe σ vs → Q σ1 H) → t v σ H Q
theorem tgt_name {vs : List Nat} {i : Nat} (h : i ∈ vs) : Tgt K vs (gName i) (gN i) := ⟨fun d s A => .inr ⟨_, rfl⟩, fun ρ H s σ A d v s1 Q hs r e q => by
  cases e
  exact q _ (hs.set i r) (wipe_set i _ vs σ h)⟩
theorem tgts_nil {vs : List Nat} : Tgts K vs gNil gNl := ⟨fun d s A => by
  cases d with
  | nil => exact .inr ⟨_, rfl⟩
  | cons _ _ => exact .inl rfl, fun ρ H s σ A d v s1 Q hs r e q => by
  cases d with
  | nil => cases e; exact ⟨r, q _ hs rfl⟩
  | cons _ _ => cases e⟩
theorem tgts_cons {vs : List Nat} {i : Nat} {u : TGs} {gs : FGs} (h : i ∈ vs) (h2 : Tgts K vs u gs) : Tgts K vs (gCons (gName i) u) (gCs (gN i) gs) := ⟨fun d s A => by
  cases d with
  | nil => exact .inl rfl
  | cons d ds => exact h2.det ds _ A, fun ρ H s σ A d v s1 Q hs r e q => by
  cases d with
  | nil => cases e
  | cons d ds =>
    obtain ⟨x, xs, rfl, r1, r2⟩ := r
    exact ⟨x, xs, rfl, h2.to ρ H _ _ A ds xs s1 Q (hs.set i r1) r2 e fun σ1 hs1 w => q σ1 hs1 (w.trans (wipe_set i _ vs σ h))⟩⟩
theorem tgt_tup {vs : List Nat} {n : Nat} {u : TGs} {gs : FGs} (h : Tgts K vs u gs) : Tgt K vs (gTup K n u) (gTp n gs) := ⟨fun d s A => by
  cases d with
  | tup ds =>
    show (if ds.length = n then gs ds s A else .bad) = .bad ∨ ∃ s1, (if ds.length = n then gs ds s A else .bad) = .ok s1 A
    split
    · exact h.det ds s A
    · exact .inl rfl
  | _ => exact .inl rfl, fun ρ H s σ A d v s1 Q hs r e q => by
  cases d with
  | tup ds =>
    have e : (if ds.length = n then gs ds s A else .bad) = .ok s1 A := e
    split at e
    · rename_i z
      obtain ⟨a, xs, rfl, q1, q2⟩ := r
      exact ⟨a, xs, rfl, q1, by rw [q2.length]; exact z, h.to ρ H s σ A ds xs s1 Q hs q2 e q⟩
    · cases e
  | _ => cases e⟩
end
section
variable {X : Cx} {E : XK} {elt tg iter : Expr} {ifs : List Expr} {scope : Scope} {own : List (Str × Nat)} {pos : Pos} {src : FI} {tgg : TG} {g : FG} {t : FT} {f : FE}
abbrev ATs (X : Cx) (E : XK) (ifs : List Expr) (t : FT) : Prop := PTs X ifs (tAT X.K E t)
theorem ats_nil : ATs X E [] fYes := ⟨fun pins s σ H Q I h => pts_nil.run pins s σ H Q I (by
  obtain ⟨ρ, s, A, hs, R, h⟩ := h
  exact Out.now h R rfl)⟩
theorem ats_one {c : Expr} (h : AT X E c t) : ATs X E [c] t := pts_one h
theorem lc_read {K : PySem.W.Frag} {vs : List Nat} (tt : Tgt K vs tgg g) {σ : L2.St} {H : Hp} {Q : VK} (h : tA K E (fLc src g t f vs) σ H Q) :
    tLc (tAI K E src) tgg (tAT K E t) (tA K E f) vs σ H Q := by
  obtain ⟨ρ, s, A, hs, R, h⟩ := h
  refine ⟨ρ, s, A, hs, R, (OutI.bindO h).mono fun J H1 ⟨ρ1, S, A1, _, e1, R1, J1, h1⟩ => fun L hL => ?_⟩
  have eL : Ext K ρ1 H1 (ρ1 ++ [L]) (L2.upd H1 L (.lst [])) := Ext.new hL [L]
  have RL : Rel K (ρ1 ++ [L]) (L2.upd H1 L (.lst [])) (A1 ++ [.lst []]) := R1.new hL ⟨[], upd_same, rfl⟩
  have nL : (ρ1 ++ [L])[A1.length]? = some L := by rw [← R1.len]; simp
  refine ⟨fun i m H' => m = S.items.length - i ∧ i ≤ S.items.length ∧ ∃ ρ' A', Ext K (ρ1 ++ [L]) (L2.upd H1 L (.lst [])) ρ' H' ∧ Rel K ρ' H' A' ∧ OutE K E ρ' H' (loopC S.ok g t f A1.length (wipeA s vs) (S.items.drop i) A') Q,
    ⟨_, rfl, Nat.zero_le _, _, _, .refl, RL, by simpa using h1.ext eL⟩, ?_⟩
  rintro i m H' ⟨rfl, hi, ρ', A', e2, R2, h2⟩
  have hs2 : SRel K ρ' H' (wipeA s vs) (L2.wipe σ vs) := (hs.wipes _).ext (e1.trans (eL.trans e2))
  have fL : ∀ {ρ3 : List Addr} {H3 : Hp}, Ext K ρ' H' ρ3 H3 → ρ3[A1.length]? = some L := fun e => (e2.trans e).at_ nL
  by_cases hl : i < S.items.length
  · obtain ⟨d, hd⟩ : ∃ d, S.items[i]? = some d := ⟨_, List.getElem?_eq_getElem hl⟩
    have ed : S.items.drop i = d :: S.items.drop (i + 1) := by
      rw [List.drop_eq_getElem_cons hl]
      rw [List.getElem?_eq_getElem hl] at hd
      cases hd; rfl
    rw [ed] at h2
    unfold loopC at h2
    split at h2
    · rename_i ok
      obtain ⟨go, yl⟩ := (J1 i ρ' H' A' (eL.trans e2) R2 ok).1 d hd
      refine .inr ⟨go, fun H3 => ∃ ρ3 A3, Ext K (ρ1 ++ [L]) (L2.upd H1 L (.lst [])) ρ3 H3 ∧ Rel K ρ3 H3 A3 ∧ OutE K E ρ3 H3 (loopC S.ok g t f A1.length (wipeA s vs) (S.items.drop (i + 1)) A3) Q, fun H3 h3 => ⟨_, by omega, rfl, hl, h3⟩, fun x H3 hy => ?_⟩
      obtain ⟨e3, R3, r3⟩ := yl x H3 hy
      have h2 := h2.ext e3
      rcases tt.det d (wipeA s vs) A' with eg | ⟨s1, eg⟩
      · rw [eg] at h2; exact h2.elim
      · rw [eg] at h2
        change Out K E (fun ρ H d v => Rp K ρ H d v) ρ' H3 ((t s1 A').bind fun b A2 => _) Q at h2
        refine tt.to ρ' H3 _ _ A' d x s1 _ (hs2.ext e3) r3 eg fun σ1 hs3 w => ⟨w.trans ?_, ρ', s1, A', hs3, R3, (Out.bind h2).mono fun b H4 ⟨ρ4, b', A4, _, e4, R4, r4, h4⟩ => ?_⟩
        · have ww : ∀ (us ws : List Nat), (∀ i ∈ us, i ∈ ws) → L2.wipe (L2.wipe σ us) ws = L2.wipe σ ws := by
            intro us
            induction us with
            | nil => intro ws _; rfl
            | cons u us ih =>
              intro ws hw
              show L2.wipe ((L2.wipe σ us).set u none) ws = _
              rw [wipe_set u none ws _ (hw u List.mem_cons_self)]
              exact ih ws fun i hi => hw i (List.mem_cons_of_mem _ hi)
          exact ww vs vs fun i h => h
        · cases r4
          cases b with
          | false =>
            rw [if_neg Bool.false_ne_true] at h4 ⊢
            exact ⟨ρ4, A4, e2.trans (e3.trans e4), R4, h4⟩
          | true =>
            rw [if_pos rfl] at h4 ⊢
            refine ⟨ρ4, s1, A4, hs3.ext e4, R4, (Out.bind h4).mono fun y H5 ⟨ρ5, d5, A5, _, e5, R5, r5, h5⟩ => ?_⟩
            have e35 := e3.trans (e4.trans e5)
            split at h5
            · rename_i acc eA
              split at h5
              · rename_i z
                obtain ⟨a, ha, us, q1, q2⟩ := R5.ob _ _ eA
                rw [fL e35] at ha; cases ha
                have u := upd_lst (ds := acc) R5 (fL e35) eA q1 (q2.append (RpL.one r5))
                exact ⟨us, q1, by rw [q2.length]; exact z, ρ5, _, e2.trans (e35.trans u.1), u.2, h5.ext u.1⟩
              · exact h5.elim
            · exact h5.elim
    · exact h2.elim
  · have ei : i = S.items.length := by omega
    have ed : S.items.drop i = [] := List.drop_eq_nil_of_le (by omega)
    rw [ed] at h2
    unfold loopC at h2
    split at h2
    · rename_i ok
      exact .inl ⟨(J1 i ρ' H' A' (eL.trans e2) R2 ok).2 (by omega) ei.symm, h2.now R2 ⟨L, fL .refl, rfl⟩⟩
    · exact h2.elim
abbrev Blk (X : Cx) (scope : Scope) (P : Cx → Prop) : Prop := ∀ (s : Shared) (H : Hp) (C : Addr) (cl : List (Str × Addr)) (fp : List Addr), P (X.blk s H scope (compEnvC scope cl C X.env) fp)
theorem ae_lc (own : List (Str × Nat)) (hc : X.calm = true) (hN : X.N.Nodup) (hi : AI X E tg iter src) (ok : BlkOk X.N X.env.scope scope own) (tt : Tgt X.K (own.map (·.2)) tgg g)
    (hg : Blk X scope fun Y => PG Y tg tgg) (ht : Blk X scope fun Y => ATs Y E ifs t) (he : Blk X scope fun Y => AE Y E elt f) (hs : ∀ x, foldedSetIterable iter X.env x = pure x := by intro _; rfl) :
    AE X E (.ListComp elt [⟨tg, iter, ifs, 0⟩] scope pos) (fLc src g t f (own.map (·.2))) := pe_mono (pe_lc hc hN hi ok hg ht he hs) fun _ _ _ => lc_read tt
/-- name = [..] -/
theorem as_setLc (own : List (Str × Nat)) {i : Nat} {y : Str} {py spos : Pos} (hc : X.calm = true) (hN : X.N.Nodup) (hi : AI X E tg iter src) (ok : BlkOk X.N X.env.scope scope own) (tt : Tgt X.K (own.map (·.2)) tgg g)
    (hg : Blk X scope fun Y => PG Y tg tgg) (ht : Blk X scope fun Y => ATs Y E ifs t) (he : Blk X scope fun Y => AE Y E elt f) (hsw : swapsWith (.ListComp elt [⟨tg, iter, ifs, 0⟩] scope pos) (some (.Name y py)) spos.line X.env = pure true)
    (hy : X.N[i]? = some y := by rfl) (hyl : X.env.scope.names.lookup y = some .local := by rfl) (hs : ∀ x, foldedSetIterable iter X.env x = pure x := by intro _; rfl) :
    AS X E (.Assign [.Name y py] (.ListComp elt [⟨tg, iter, ifs, 0⟩] scope pos) spos) (fSet (fLc src g t f (own.map (·.2))) i) := ps_mono (ps_setLc (tt := tAT X.K E t) (te := tA X.K E f) hc hN hy hyl hsw hi ok hg ht he hs) fun G σ H h => by
  refine lc_read (t := t) (f := f) tt ?_
  obtain ⟨ρ, s, A, hs, R, h⟩ := h
  exact ⟨ρ, s, A, hs, R, (Out.bindS h).mono fun x H1 ⟨ρ1, d, A1, _, e1, R1, r1, h1⟩ => h1 ρ1 H1 _ .refl R1 ((hs.ext e1).set i r1)⟩
end

/-! ## isinstance of a built-in type -/
def tyN (A : AH) : D → Option String
  | .non => some "NoneType"
  | .bl _ => some "bool"
  | .int _ => some "int"
  | .str _ => some "str"
  | .tup _ => some "tuple"
  | .ref i => match A[i]? with
    | some (.lst _) => some "list"
    | some (.frz _) => some "list"
    | some (.dic _) => some "dict"
    | _ => none
def isiD (T : String) (d : D) (A : AH) : Res D := match tyN A d with
  | some t => match kitB t T with
    | some b => .ok (.bl b) A
    | none => .bad
  | none => .bad
theorem tyN_ok {K : PySem.W.Frag} {ρ : List Addr} {H : Hp} {A : AH} {d : D} {v : V} {t : String} (R : Rel K ρ H A) (r : Rp K ρ H d v) (h : tyN A d = some t) : TyX K H v (.type t) := by
  cases d with
  | non => cases r; cases h; exact .base .non
  | bl b => cases r; cases h; exact .base (.bl b)
  | int i => cases r; cases h; exact .base (.int i)
  | str x => cases r; cases h; exact .base (.str x)
  | tup ds =>
    obtain ⟨a, xs, rfl, q, _⟩ := r
    cases h
    rcases q with (q | ⟨o, q⟩) | ⟨o, its, n, q1, q2, _⟩
    · exact .base (.tup q)
    · exact .fTuple q
    · exact .kTuple q1 q2
  | ref i =>
    obtain ⟨a, h1, rfl⟩ := r
    obtain ⟨o, h2, h3⟩ := R.has h1
    unfold tyN at h
    simp only [h2] at h
    cases o with
    | lst xs => cases h; obtain ⟨us, e1, _⟩ := h3; exact .base (.lst e1)
    | frz xs =>
      cases h
      obtain ⟨us, e1, _⟩ := h3
      rcases e1 with ⟨o, e1⟩ | (e1 | ⟨o, e1⟩) | ⟨o, its, n, q1, q2, _⟩
      · exact .base (.frz e1)
      · cases e1
      · cases e1
      · exact .kList q1 q2
    | dic xs => cases h; obtain ⟨us, e1, _⟩ := h3; exact .base (.dK e1)
    | ins _ _ => cases h
section
variable {X : Cx} {E : XK} {a : Expr} {f : FE} {p p2 pos : Pos}
theorem ae_isi {T : String} {x : Str} (hg : Gl X "isinstance") (hm : X.mg "isinstance" = none) (hg2 : Gl X x) (hm2 : X.mg x = none) (hv2 : bootBuiltins x = some (.type T)) (ha : AE X E a f) (hn : x ≠ "__name__" := by decide) (hdb : (x == ("__debug__" : Str)) = false := by decide)
    (h1 : starEach [a, .Name x p2] X.env = (false, eval a X.env) :: starEach [.Name x p2] X.env := by rfl) (h2 : starEach [.Name x p2] X.env = (false, eval (.Name x p2) X.env) :: starEach [] X.env := by rfl)
    (hpl : (backTo pos (starEach [.Name x p2] X.env)).any (·.1) = false := by rfl) (hv : bootBuiltins "isinstance" = some (.builtin "isinstance") := by decide +kernel) :
    AE X E (.Call (.Name "isinstance" p) [a, .Name x p2] [] pos) (fUn (isiD T) f) :=
  pe_mono (pe_callB (call_isi (X := X)) hg hm hv (pa_cons ha (pa_cons (pe_bltn (v := .ty T) hg2 hm2 hv2 rfl hn hdb) pa_nil h2) h1) (by decide) (by decide) h1 hpl) fun σ H Q h => by
    obtain ⟨ρ, s, A, hs, R, h⟩ := h
    refine ⟨ρ, s, A, hs, R, (Out.bind h).mono fun v H1 ⟨ρ1, d, A1, _, e1, R1, r1, h1⟩ => ?_⟩
    unfold isiD at h1
    split at h1
    · rename_i t e2
      split at h1
      · rename_i b e3
        exact ⟨v, .ty T, .type t, .type T, b, rfl, .ty T, tyN_ok R1 r1 e2, kit_ty e3, h1.now R1 rfl⟩
      · exact h1.elim
    · exact h1.elim
end

/-! ## methods of built-in types -/
def rM (K : PySem.W.Frag) (E : XK) (g : D → FM) : V → List V → Hp → VK → Prop := fun x xs H Q => ∃ ρ A d ds, Rel K ρ H A ∧ Rp K ρ H d x ∧ RpL K ρ H ds xs ∧ OutE K E ρ H (g d ds A) Q
abbrev AMt (X : Cx) (E : XK) (id : String) (g : D → FM) : Prop := MtR X id (rM X.K E g)
def isTy (T : String) (d : D) (A : AH) : Bool := match d with
  | .str _ => T == "str"
  | d => (T == "list" && (rdL A d).isSome) || (T == "dict" && (rdK A d).isSome)
def fMt0 (T : String) (g : D → FM) (fo : FE) : FE := fun s A => (fo s A).bind fun d A1 => if isTy T d A1 = true then g d [] A1 else .bad
def fMt (T : String) (g : D → FM) (fo : FE) (fa : FA) : FE := fun s A => (fo s A).bind fun d A1 => if isTy T d A1 = true then (fa s A1).bind fun ds A2 => g d ds A2 else .bad
theorem isTy_ok {K : PySem.W.Frag} {ρ : List Addr} {H : Hp} {A : AH} {T : String} {d : D} {v : V} (R : Rel K ρ H A) (r : Rp K ρ H d v) (h : isTy T d A = true) : tyV K T v H := by
  cases d with
  | str x => cases r; exact eq_of_beq h
  | ref i =>
    have h : (((T == "list") && (rdL A (.ref i)).isSome) || ((T == "dict") && (rdK A (.ref i)).isSome)) = true := h
    rw [Bool.or_eq_true, Bool.and_eq_true, Bool.and_eq_true] at h
    rcases h with ⟨h1, h2⟩ | ⟨h1, h2⟩
    · obtain ⟨xs, e⟩ := Option.isSome_iff_exists.mp h2
      obtain ⟨a, us, rfl, q, _⟩ := rdL_ok R r e
      exact .inl ⟨eq_of_beq h1, us, q⟩
    · obtain ⟨xs, e⟩ := Option.isSome_iff_exists.mp h2
      obtain ⟨_, a, us, _, rfl, _, _, q, _⟩ := rdK_ok R r e
      exact .inr (.inr (.inl ⟨eq_of_beq h1, .inl ⟨us, q⟩⟩))
  | non => simp [isTy, rdL, rdK] at h
  | bl b => simp [isTy, rdL, rdK] at h
  | int b => simp [isTy, rdL, rdK] at h
  | tup b => simp [isTy, rdL, rdK] at h
section
variable {X : Cx} {E : XK} {o e : Expr} {es : List Expr} {fo : FE} {fa : FA} {g : D → FM} {name : Str} {apos cpos : Pos} {T id : String}
theorem ae_mt0 (pa : PlainAttrs T) (slot : Slot T name id) (hty : typeOf (.builtin id) = pure (.type "method_descriptor")) (hm : AMt X E id g) (ho : AE X E o fo)
    (hbase : attributeBase o name X.env (eval o X.env) = eval o X.env := by rfl) (hline : (apos.endLine == cpos.line) = true := by rfl) : AE X E (.Call (.Attribute o name apos) [] [] cpos) (fMt0 T g fo) :=
  pe_mono (pe_bm0 pa slot hty hm ho hbase hline) fun σ H Q h => by
    obtain ⟨ρ, s, A, hs, R, h⟩ := h
    refine ⟨ρ, s, A, hs, R, (Out.bind h).mono fun v H1 ⟨ρ1, d, A1, _, e1, R1, r1, h1⟩ => ?_⟩
    split at h1
    · rename_i z
      exact ⟨isTy_ok R1 r1 z, ρ1, A1, d, [], R1, r1, rfl, h1⟩
    · exact h1.elim
theorem ae_mt (pa : PlainAttrs T) (slot : Slot T name id) (hty : typeOf (.builtin id) = pure (.type "method_descriptor")) (hm : AMt X E id g) (ho : AE X E o fo) (ha : AA X E (e :: es) fa)
    (hbase : attributeBase o name X.env (eval o X.env) = eval o X.env := by rfl)
    (hfew : ((backTo cpos (starEach (e :: es) X.env)).all (fun x => !x.1) && (backToKw cpos (keywordEach [] X.env)).all (fun x => x.1.isSome)
      && decide ((e :: es).length + ([] : List Keyword).length + (if ([] : List Keyword).isEmpty then 0 else 1) < 30)) = true := by rfl)
    (hline : (apos.endLine == cpos.line) = true := by rfl) (hs : starEach (e :: es) X.env = (false, eval e X.env) :: starEach es X.env := by rfl) (hplain : (backTo cpos (starEach es X.env)).any (·.1) = false := by rfl) :
    AE X E (.Call (.Attribute o name apos) (e :: es) [] cpos) (fMt T g fo fa) := pe_mono (pe_bm pa slot hty hm ho ha hbase hfew hline hs hplain) fun σ H Q h => by
  obtain ⟨ρ, s, A, hs, R, h⟩ := h
  refine ⟨ρ, s, A, hs, R, (Out.bind h).mono fun v H1 ⟨ρ1, d, A1, _, e1, R1, r1, h1⟩ => ?_⟩
  split at h1
  · rename_i z
    exact ⟨isTy_ok R1 r1 z, ρ1, s, A1, hs.ext e1, R1, (Out.bind h1).mono fun vs H2 ⟨ρ2, ds, A2, _, e2, R2, r2, h2⟩ => ⟨ρ2, A2, d, ds, R2, r1.ext e2, r2, h2⟩⟩
  · exact h1.elim
def appendD (d : D) : FM
  | [y], A => match d with
    | .ref n => match A[n]? with
      | some (.lst xs) => if xs.length < sizeLine then .ok .non (A.set n (.lst (xs ++ [y]))) else .bad
      | _ => .bad
    | _ => .bad
  | _, _ => .bad
theorem mtm_mono {id : String} {r r' : V → List V → Hp → VK → Prop} (h : MtR X id r) (m : ∀ x xs H Q, r' x xs H Q → r x xs H Q) : MtR X id r' := fun pins s σ H x xs v us Q I rx rs q => h pins s σ H x xs v us Q I rx rs (m _ _ _ _ q)
theorem amt_append : AMt X E "list.append" appendD := mtm_mono mt_append fun x xs H Q h => by
  obtain ⟨ρ, A, d, ds, R, r, rs, h⟩ := h
  unfold appendD at h
  split at h
  · split at h
    · split at h
      · split at h
        · rename_i xs' eA z
          obtain ⟨a, ha, rfl⟩ := r
          obtain ⟨a', ha', us, q1, q2⟩ := R.ob _ _ eA
          rw [ha] at ha'; cases ha'
          obtain ⟨y, rfl, ry⟩ := rs.one_inv
          have u := upd_lst (ds := xs') R ha eA q1 (q2.append (RpL.one ry))
          exact ⟨a, us, y, rfl, rfl, q1, by rw [q2.length]; exact z, h ρ _ .non u.1 u.2 rfl⟩
        · exact h.elim
      · exact h.elim
    · exact h.elim
  · exact h.elim
def extendD (d : D) : FM
  | [e], A => match d with
    | .ref n => match A[n]?, muL A e with
      | some (.lst xs), some ys => if xs.length + ys.length ≤ sizeLine then .ok .non (A.set n (.lst (xs ++ ys))) else .bad
      | _, _ => .bad
    | _ => .bad
  | _, _ => .bad
theorem amt_extend : AMt X E "list.extend" extendD := mtm_mono mt_extend fun x xs H Q h => by
  obtain ⟨ρ, A, d, ds, R, r, rs, h⟩ := h
  unfold extendD at h
  split at h
  · split at h
    · split at h
      · split at h
        · rename_i xs' ys eA eY z
          obtain ⟨a, ha, rfl⟩ := r
          obtain ⟨a', ha', us, q1, q2⟩ := R.ob _ _ eA
          rw [ha] at ha'; cases ha'
          obtain ⟨y, rfl, ry⟩ := rs.one_inv
          obtain ⟨_, b, ws, _, rfl, _, _, q3, q4⟩ := muL_ok R ry eY
          have u := upd_lst (ds := xs') R ha eA q1 (q2.append q4)
          exact ⟨a, b, us, ws, rfl, rfl, q1, q3, by rw [q2.length, q4.length]; exact z, h ρ _ .non u.1 u.2 rfl⟩
        · exact h.elim
      · exact h.elim
    · exact h.elim
  · exact h.elim
def popD (d : D) : FM
  | [], A => match d with
    | .ref n => match A[n]? with
      | some (.lst xs) => match xs[xs.length - 1]? with
        | some y => .ok y (A.set n (.lst xs.dropLast))
        | none => .bad
      | _ => .bad
    | _ => .bad
  | _, _ => .bad
theorem RpL.dropLast {K : PySem.W.Frag} {ρ : List Addr} {H : Hp} {ds : List D} {xs : List V} (r : RpL K ρ H ds xs) : RpL K ρ H ds.dropLast xs.dropLast := by
  rw [List.dropLast_eq_take, List.dropLast_eq_take, r.length]
  exact r.take _
theorem amt_pop : AMt X E "list.pop" popD := mtm_mono mt_pop fun x xs H Q h => by
  obtain ⟨ρ, A, d, ds, R, r, rs, h⟩ := h
  unfold popD at h
  split at h
  · split at h
    · split at h
      · split at h
        · rename_i xs' eA _ y eY
          obtain ⟨a, ha, rfl⟩ := r
          obtain ⟨a', ha', us, q1, q2⟩ := R.ob _ _ eA
          rw [ha] at ha'; cases ha'
          obtain ⟨v, e1, e2⟩ := q2.get eY
          have u := upd_lst (ds := xs') R ha eA q1 q2.dropLast
          exact ⟨a, us, v, rfl, rs, q1, by rw [q2.length]; exact e1, h ρ _ v u.1 u.2 (e2.ext u.1)⟩
        · exact h.elim
      · exact h.elim
    · exact h.elim
  · exact h.elim
def insertD (d : D) : FM
  | [.int i, y], A => match d with
    | .ref n => match A[n]? with
      | some (.lst xs) => if xs.length < sizeLine ∧ 0 ≤ i ∧ i < 2 ^ 63 then .ok .non (A.set n (.lst (xs.take i.toNat ++ [y] ++ xs.drop i.toNat))) else .bad
      | _ => .bad
    | _ => .bad
  | _, _ => .bad
theorem amt_insert : AMt X E "list.insert" insertD := mtm_mono mt_insert fun x xs H Q h => by
  obtain ⟨ρ, A, d, ds, R, r, rs, h⟩ := h
  unfold insertD at h
  split at h
  · rename_i k y'
    split at h
    · split at h
      · split at h
        · rename_i xs' eA z
          obtain ⟨a, ha, rfl⟩ := r
          obtain ⟨a', ha', us, q1, q2⟩ := R.ob _ _ eA
          rw [ha] at ha'; cases ha'
          obtain ⟨i', y, rfl, ri, ry⟩ := rs.two_inv
          cases ri
          have u := upd_lst (ds := xs') R ha eA q1 (((q2.take k.toNat).append (RpL.one ry)).append (q2.drop k.toNat))
          exact ⟨a, us, k, y, rfl, rfl, q1, by rw [q2.length]; exact z.1, z.2.1, z.2.2, h ρ _ .non u.1 u.2 rfl⟩
        · exact h.elim
      · exact h.elim
    · exact h.elim
  · exact h.elim
end

/-! ## f-strings -/
def fmtD (d : D) (A : AH) : Res D := match d with
  | .str x => if x.length ≤ sizeLine then .ok (.str x) A else .bad
  | .int i => if i.natAbs.log2 < 1920 then .ok (.str (toString i)) A else .bad
  | _ => .bad
def jStrs : List FE → Str → FE
  | [], acc, _, A => .ok (.str acc) A
  | f :: fs, acc, s, A => (f s A).bind fun d A1 => match d with
    | .str y => if (acc ++ y).length ≤ sizeLine then jStrs fs (acc ++ y) s A1 else .bad
    | _ => .bad
inductive AJ (X : Cx) (E : XK) : List Expr → List FE → Prop where
  | nil : AJ X E [] []
  | cons {e : Expr} {f : FE} {es : List Expr} {fs : List FE} (h : AE X E e f) (r : AJ X E es fs) : AJ X E (e :: es) (f :: fs)
section
variable {X : Cx} {E : XK} {e v1 v2 : Expr} {rest : List Expr} {f : FE} {fs : List FE} {pos : Pos}
theorem ae_fmt (h : AE X E e f) : AE X E (.FormattedValue e (-1) none pos) (fUn fmtD f) := pe_mono (pe_fmt h) fun σ H Q h => by
  obtain ⟨ρ, s, A, hs, R, h⟩ := h
  refine ⟨ρ, s, A, hs, R, (Out.bind h).mono fun v H1 ⟨ρ1, d, A1, _, e1, R1, r1, h1⟩ => ?_⟩
  unfold fmtD at h1
  split at h1
  · split at h1
    · rename_i z; cases r1; exact .inl ⟨_, rfl, z, h1.now R1 rfl⟩
    · exact h1.elim
  · split at h1
    · rename_i z; cases r1; exact .inr ⟨_, rfl, z, h1.now R1 rfl⟩
    · exact h1.elim
  · exact h1.elim
theorem AJ.pj (h : AJ X E rest fs) : PJ X rest (fs.map (tA X.K E)) := by
  induction h with
  | nil => exact .nil
  | cons h _ ih => exact .cons h ih
theorem js_read {K : PySem.W.Frag} {σ : L2.St} {Q : VK} : ∀ (fs : List FE) (acc : Str) (ρ : List Addr) (s : ASt) (A : AH) (H : Hp), SRel K ρ H s σ → Rel K ρ H A → OutE K E ρ H (jStrs fs acc s A) Q → tJs (fs.map (tA K E)) acc σ H fun out H1 => Q (.str out) H1
  | [], acc, ρ, s, A, H, hs, R, h => Out.now h R rfl
  | f :: fs, acc, ρ, s, A, H, hs, R, h => by
    refine ⟨ρ, s, A, hs, R, (Out.bind h).mono fun v H1 ⟨ρ1, d, A1, _, e1, R1, r1, h1⟩ => ?_⟩
    split at h1
    · split at h1
      · rename_i z
        cases r1
        exact ⟨_, rfl, z, js_read fs _ ρ1 s A1 H1 (hs.ext e1) R1 h1⟩
      · exact h1.elim
    · exact h1.elim
theorem ae_joined (h : AJ X E (v1 :: v2 :: rest) fs) : AE X E (.JoinedStr (v1 :: v2 :: rest) pos) (jStrs fs Str.empty) := pe_mono (pe_joined h.pj) fun σ H Q h => by
  obtain ⟨ρ, s, A, hs, R, h⟩ := h
  exact js_read fs _ ρ s A H hs R h
theorem ae_joined1 (h : AE X E e f) : AE X E (.JoinedStr [e] pos) f := pe_joined1 h
end

/-! ## dict displays with text keys and int keys -/
def fDict (ks : List Key) (fs : FA) : FE := fun s A => (fs s A).bind fun ds A1 => if ds.length = ks.length then alloc (.dic (ks.zip ds)) A1 else .bad

/-! ## a def of the text -/
def spM (K : PySem.W.Frag) (n : Nat) (m : FM) : Sp := fun vs H Q _ => ∃ ρ A ds, Rel K ρ H A ∧ RpL K ρ H ds vs ∧ ds.length = n ∧ OutE K E0 ρ H (m ds A) Q
/-- the def at f does what m says, by at most k calls within one another -/
abbrev ADef (P : Program) (w : World) (K : PySem.W.Frag) (mg : Str → Option Value) (base : Heap) (k : Nat) (f : Addr) (fd : FuncData) (ps : List Str) (m : FM) : Prop := FnOk P w K mg base CX0 k f fd ps (spM K ps.length m)
/-- the parameters' slots, then the other names' -/
def args (n : Nat) (ds : List D) : ASt := ds.map some ++ List.replicate (n - ds.length) none
def finish (r : Res Fl) : Res D := match r with
  | .ok (.rt d) A => .ok d A
  | .ok (.nx _) A => .ok .non A
  | .ok _ _ => .bad
  | .exc C fs A => .exc C fs A
  | .bad => .bad
/-- a body as a function -/
def body (np n : Nat) (f : FS) : FM := fun ds A => if ds.length = np then finish (f (args n ds) A) else .bad
section
variable {P : Program} {w : World} {K : PySem.W.Frag} {mg : Str → Option Value} {base : Heap}
theorem args_rel {ρ : List Addr} {H : Hp} {ds : List D} {vs : List V} (N : List Str) (r : RpL K ρ H ds vs) : SRel K ρ H (args N.length ds) (L2.start N vs) := by
  refine ⟨by simp [args, L2.start, r.length], fun i d h => ?_⟩
  unfold args at h
  by_cases hi : i < ds.length
  · rw [List.getElem?_append_left (by simpa using hi), List.getElem?_map] at h
    cases e : ds[i]? with
    | none => rw [e] at h; cases h
    | some d' =>
      rw [e] at h
      cases h
      obtain ⟨v, q1, q2⟩ := r.get e
      refine ⟨v, ?_, q2⟩
      unfold L2.start
      rw [List.getElem?_append_left (by simpa [r.length] using hi), List.getElem?_map, q1]
      rfl
  · rw [List.getElem?_append_right (by simpa using hi), List.getElem?_replicate] at h
    split at h <;> cases h
theorem adef {x qual : Str} {st : Stmt} {f : Addr} {fd : FuncData} {N ps : List Str} {k : Nat} {p : FS} (F : Fun K x qual st f fd) (S : FnScope N ps (defScope st))
    (hb : ∀ (cdv : Value) (A : Around) (outer : List Env) (s : Shared) (H : Hp) (E : XK), Room k (A.deeper (envOfC qual (defScope st) s.heap.objs.size f cdv)) →
      ASs (cxOf CX0 P w K mg base N qual (defScope st) f cdv A outer s H E).nox E0 (defBody st) p) : ADef P w K mg base (k + 1) f fd ps (body ps.length N.length p) := by
  refine F.ok S (fun vs H Q E h => ?_) (fun cdv A outer s H vs Q E hr h => ?_)
  · obtain ⟨ρ, A, ds, R, r, z, h⟩ := h
    rw [r.length, z]
  · obtain ⟨ρ, A', ds, R, r, z, h⟩ := h
    refine ⟨_, hb cdv A outer s H E hr, ρ, args N.length ds, A', args_rel N r, R, ?_⟩
    unfold body at h
    rw [if_pos z] at h
    unfold finish at h
    show SOut K E0 ρ H (p (args N.length ds) A') _
    cases e : p (args N.length ds) A' with
    | bad => rw [e] at h; exact h
    | exc C fs A1 => rw [e] at h; exact h
    | ok fl A1 =>
      rw [e] at h
      cases fl with
      | nx s => exact fun ρ1 H1 σ1 e1 R1 _ => h ρ1 H1 .non e1 R1 rfl
      | rt d => exact h
      | bk s => exact h.elim
      | ct s => exact h.elim
/-- a def does the same by another function that has as much to say -/
theorem ADef.imp {k : Nat} {f : Addr} {fd : FuncData} {ps : List Str} {m m' : FM} (h : ADef P w K mg base k f fd ps m) (e : ∀ ρ H ds A Q, Rel K ρ H A → ds.length = ps.length → OutE K E0 ρ H (m' ds A) Q → OutE K E0 ρ H (m ds A) Q) : ADef P w K mg base k f fd ps m' :=
  FnOk.imp h fun vs H Q E ⟨ρ, A, ds, R, r, z, q⟩ => ⟨ρ, A, ds, R, r, z, e ρ H ds A Q R z q⟩
end
section
variable {X : Cx} {k n : Nat} {f : Addr} {fd : FuncData} {ps : List Str} {m : FM} {x : Str} {p pos : Pos} {e : Expr} {es : List Expr} {fs : FA}
def fOwn (n : Nat) (m : FM) (fs : FA) : FE := fun s A => (fs s A).bind fun ds A1 => if ds.length = n then m ds A1 else .bad
theorem own_ {K : PySem.W.Frag} {σ : L2.St} {H : Hp} {Q : VK} {n : Nat} (h : tA K E0 (fOwn n m fs) σ H Q) : tCall (spM K n m) [] E0 (tAA K E0 fs) σ H Q := by
  obtain ⟨ρ, s, A, hs, R, h⟩ := h
  refine ⟨ρ, s, A, hs, R, (Out.bind h).mono fun x H1 ⟨ρ1, d, A1, _, e1, R1, r1, h1⟩ => ?_⟩
  split at h1
  · rename_i z
    exact ⟨ρ1, A1, d, R1, by rw [List.append_nil]; exact r1, z, h1⟩
  · exact h1.elim
theorem ae_call (F : ADef X.prog X.w X.K X.mg X.base k f fd ps m) (hr : Room k X.A) (hg : Gl X x) (hm : X.mg x = some (.ref f)) (hk : PySem.W.keepIn X.K (.ref f) = true) (hb : Binds X.K fd ps [])
    (ha : AA X E0 (e :: es) fs) (hdb : (x == ("__debug__" : Str)) = false := by decide) (he : starEach (e :: es) X.env = (false, eval e X.env) :: starEach es X.env := by rfl) (hpl : (backTo pos (starEach es X.env)).any (·.1) = false := by rfl) (hn : ps.length = n := by rfl) :
    AE X E0 (.Call (.Name x p) (e :: es) [] pos) (fOwn n m fs) := pe_mono (pe_call F hr hg hm hk hb .nil pass0 ha hdb he hpl) fun _ _ _ h => own_ (by rw [hn]; exact h)
theorem ae_call0 (F : ADef X.prog X.w X.K X.mg X.base k f fd ps m) (hr : Room k X.A) (hg : Gl X x) (hm : X.mg x = some (.ref f)) (hk : PySem.W.keepIn X.K (.ref f) = true) (hb : Binds X.K fd ps [])
    (hdb : (x == ("__debug__" : Str)) = false := by decide) (hn : ps.length = n := by rfl) :
    AE X E0 (.Call (.Name x p) [] [] pos) (fOwn n m fNil) := pe_mono (pe_call0 F hr hg hm hk hb .nil pass0 hdb) fun σ H Q h => by
  rw [← hn] at h
  obtain ⟨ρ, s, A, hs, R, h⟩ := own_ h
  exact Out.now h R rfl
end
end Ab

namespace Ab
open PySem PySem.Spec PyProof.Rows L2
open scoped Classical

/-! ## tuple(range(..)), list(range(..)) -/
def rgD (f1 f2 : FE) (k : Int → Int → AH → Res D) : FE := fun s A => (f1 s A).bind fun d A1 => (f2 s A1).bind fun e A2 => match d, e with
  | .int i, .int j => k i j A2
  | _, _ => .bad
noncomputable def rgTup (i j : Int) (A : AH) : Res D := if RgOk i j then .ok (.tup (rngL i (j - i).toNat)) A else .bad
noncomputable def rgLst (i j : Int) (A : AH) : Res D := if RgOk i j then alloc (.lst (rngL i (j - i).toNat)) A else .bad
theorem rng_rel {K : PySem.W.Frag} {ρ : List Addr} {H : Hp} (i j : Int) : RpL K ρ H (rngL i (j - i).toNat) (rgV i j) := by
  unfold rngL rgV
  have all : ∀ l : List Nat, RpL K ρ H (l.map fun k => .int (i + (k : Nat))) (l.map fun k => V.int (i + (k : Nat))) := by
    intro l
    induction l with
    | nil => rfl
    | cons k l ih => exact ⟨_, _, rfl, rfl, ih⟩
  exact all _
section
variable {X : Cx} {E : XK} {a b : Expr} {f g : FE} {p p2 pos pos2 : Pos}
theorem rg2_ {K : PySem.W.Frag} {σ : L2.St} {H : Hp} {Q : VK} {k : Int → Int → AH → Res D} {R : Int → Int → Hp → Prop} (h : tA K E (rgD f g k) σ H Q) (m : ∀ i j ρ A H, Rel K ρ H A → OutE K E ρ H (k i j A) Q → R i j H) : tRg2 (tA K E f) (tA K E g) σ H R := by
  obtain ⟨ρ, s, A, hs, Rl, h⟩ := h
  refine ⟨ρ, s, A, hs, Rl, (Out.bind h).mono fun x H1 ⟨ρ1, d, A1, _, e1, R1, r1, h1⟩ => ⟨ρ1, s, A1, hs.ext e1, R1, (Out.bind h1).mono fun y H2 ⟨ρ2, d2, A2, _, e2, R2, r2, h2⟩ => ?_⟩⟩
  split at h2
  · cases r1; cases r2
    exact ⟨_, _, rfl, rfl, m _ _ ρ2 A2 H2 R2 h2⟩
  · exact h2.elim
theorem ae_tupRg2 (hc : X.calm = true) (hg : Gl X "tuple") (hm : X.mg "tuple" = none) (hg2 : Gl X "range") (hm2 : X.mg "range" = none) (ha : AE X E a f) (hb : AE X E b g) (na : starEach [a, b] X.env = (false, eval a X.env) :: starEach [b] X.env := by rfl)
    (nb : starEach [b] X.env = (false, eval b X.env) :: starEach [] X.env := by rfl) (hp : (backTo pos2 (starEach [b] X.env)).any (·.1) = false := by rfl) (nr : starEach [.Call (.Name "range" p2) [a, b] [] pos2] X.env = (false, eval (.Call (.Name "range" p2) [a, b] [] pos2) X.env) :: starEach [] X.env := by rfl) :
    AE X E (.Call (.Name "tuple" p) [.Call (.Name "range" p2) [a, b] [] pos2] [] pos) (rgD f g rgTup) := pe_mono (pe_tupRg hc hg hm (prg_2 hg2 hm2 ha hb na nb hp) nr) fun σ H Q h => rg2_ h fun i j ρ A H R h => by
  unfold rgTup at h
  split at h
  · rename_i z
    exact ⟨z, new_tup R (rng_rel i j) h⟩
  · exact h.elim
theorem ae_lstRg2 (hc : X.calm = true) (hg : Gl X "list") (hm : X.mg "list" = none) (hg2 : Gl X "range") (hm2 : X.mg "range" = none) (ha : AE X E a f) (hb : AE X E b g) (na : starEach [a, b] X.env = (false, eval a X.env) :: starEach [b] X.env := by rfl)
    (nb : starEach [b] X.env = (false, eval b X.env) :: starEach [] X.env := by rfl) (hp : (backTo pos2 (starEach [b] X.env)).any (·.1) = false := by rfl) (nr : starEach [.Call (.Name "range" p2) [a, b] [] pos2] X.env = (false, eval (.Call (.Name "range" p2) [a, b] [] pos2) X.env) :: starEach [] X.env := by rfl) :
    AE X E (.Call (.Name "list" p) [.Call (.Name "range" p2) [a, b] [] pos2] [] pos) (rgD f g rgLst) := pe_mono (pe_listRg hc hg hm (prg_2 hg2 hm2 ha hb na nb hp) nr) fun σ H Q h => rg2_ h fun i j ρ A H R h => by
  unfold rgLst at h
  split at h
  · rename_i z
    exact ⟨z, new_lst R (rng_rel i j) h⟩
  · exact h.elim
theorem rg1_ {K : PySem.W.Frag} {σ : L2.St} {H : Hp} {Q : VK} {k : Int → Int → AH → Res D} {R : Int → Int → Hp → Prop} (h : tA K E (rgD (fC (.int 0)) f k) σ H Q) (m : ∀ i j ρ A H, Rel K ρ H A → OutE K E ρ H (k i j A) Q → R i j H) : tRg1 (tA K E f) σ H R := by
  obtain ⟨ρ, s, A, hs, Rl, h⟩ := h
  refine ⟨ρ, s, A, hs, Rl, (Out.bind (show OutE K E ρ H ((f s A).bind fun e A2 => match D.int 0, e with | .int i, .int j => k i j A2 | _, _ => .bad) Q from h)).mono fun x H1 ⟨ρ1, d, A1, _, e1, R1, r1, h1⟩ => ?_⟩
  split at h1
  · rename_i i j e0 e1
    cases e0
    cases r1
    exact ⟨_, rfl, m _ _ ρ1 A1 H1 R1 h1⟩
  · exact h1.elim
theorem ae_tupRg1 (hc : X.calm = true) (hg : Gl X "tuple") (hm : X.mg "tuple" = none) (hg2 : Gl X "range") (hm2 : X.mg "range" = none) (ha : AE X E a f) (na : starEach [a] X.env = (false, eval a X.env) :: starEach [] X.env := by rfl)
    (nr : starEach [.Call (.Name "range" p2) [a] [] pos2] X.env = (false, eval (.Call (.Name "range" p2) [a] [] pos2) X.env) :: starEach [] X.env := by rfl) :
    AE X E (.Call (.Name "tuple" p) [.Call (.Name "range" p2) [a] [] pos2] [] pos) (rgD (fC (.int 0)) f rgTup) := pe_mono (pe_tupRg hc hg hm (prg_1 hg2 hm2 ha na) nr) fun σ H Q h => rg1_ h fun i j ρ A H R h => by
  unfold rgTup at h
  split at h
  · rename_i z
    exact ⟨z, new_tup R (rng_rel i j) h⟩
  · exact h.elim
theorem ae_lstRg1 (hc : X.calm = true) (hg : Gl X "list") (hm : X.mg "list" = none) (hg2 : Gl X "range") (hm2 : X.mg "range" = none) (ha : AE X E a f) (na : starEach [a] X.env = (false, eval a X.env) :: starEach [] X.env := by rfl)
    (nr : starEach [.Call (.Name "range" p2) [a] [] pos2] X.env = (false, eval (.Call (.Name "range" p2) [a] [] pos2) X.env) :: starEach [] X.env := by rfl) :
    AE X E (.Call (.Name "list" p) [.Call (.Name "range" p2) [a] [] pos2] [] pos) (rgD (fC (.int 0)) f rgLst) := pe_mono (pe_listRg hc hg hm (prg_1 hg2 hm2 ha na) nr) fun σ H Q h => rg1_ h fun i j ρ A H R h => by
  unfold rgLst at h
  split at h
  · rename_i z
    exact ⟨z, new_lst R (rng_rel i j) h⟩
  · exact h.elim
end

/-! ## enumerate, zip -/
theorem enumL_get : ∀ (k i : Nat) (ds : List D), (enumL k ds)[i]? = (ds[i]?).map fun d => .tup [.int ((k + i : Nat)), d]
  | k, i, [] => by simp [enumL]
  | k, 0, d :: ds => by simp [enumL]
  | k, i + 1, d :: ds => by
    show (enumL (k + 1) ds)[i]? = (ds[i]?).map _
    rw [enumL_get (k + 1) i ds]
    congr 1
    funext d
    rw [show k + 1 + i = k + (i + 1) by omega]
theorem enumL_len : ∀ (k : Nat) (ds : List D), (enumL k ds).length = ds.length
  | k, [] => rfl
  | k, d :: ds => by simp [enumL, enumL_len (k + 1) ds]
theorem zipD_get : ∀ (i : Nat) (as bs : List D) (d : D), (zipD as bs)[i]? = some d ↔ ∃ a b, as[i]? = some a ∧ bs[i]? = some b ∧ d = .tup [a, b]
  | i, [], bs, d => by simp [zipD]
  | i, a :: as, [], d => by simp [zipD]
  | 0, a :: as, b :: bs, d => by simp [zipD, eq_comm]
  | i + 1, a :: as, b :: bs, d => by
    show (zipD as bs)[i]? = some d ↔ _
    rw [zipD_get i as bs d]
    simp
theorem zipD_len : ∀ (as bs : List D), (zipD as bs).length = min as.length bs.length
  | [], bs => by simp [zipD]
  | a :: as, [] => by simp [zipD]
  | a :: as, b :: bs => by simp [zipD, zipD_len as bs, Nat.succ_min_succ]
noncomputable def fZip (f g : FE) : FI := fun s A => (f s A).bind fun d A1 => (g s A1).bind fun e A2 => match d, e with
  | .tup xs, .tup ys => .ok ⟨zipD xs ys, yes⟩ A2
  | .ref m, .ref n => match rdL A2 (.ref m), rdL A2 (.ref n) with
    | some xs, some ys => .ok ⟨zipD xs ys, fun A' => rdL A' (.ref m) = some xs ∧ rdL A' (.ref n) = some ys⟩ A2
    | _, _ => .bad
  | _, _ => .bad
section
variable {K : PySem.W.Frag} {ρ : List Addr} {H : Hp}
theorem pair_new {ρ' : List Addr} {H' : Hp} {A : AH} {T : Addr} {x y : V} {d e : D} (R : Rel K ρ' H' A) (hT : H' T = none) (r1 : Rp K ρ' H' d x) (r2 : Rp K ρ' H' e y) :
    Ext K ρ' H' ρ' (L2.upd H' T (.tup [x, y])) ∧ Rel K ρ' (L2.upd H' T (.tup [x, y])) A ∧ Rp K ρ' (L2.upd H' T (.tup [x, y])) (.tup [d, e]) (.ref T) := by
  have ex : Ext K ρ' H' ρ' (L2.upd H' T (.tup [x, y])) := Ext.new0 hT
  exact ⟨ex, R.new0 hT, T, [x, y], rfl, .inl (.inl upd_same), x, [y], rfl, r1.ext ex, y, [], rfl, r2.ext ex, rfl⟩
theorem ite_rel {a : Addr} {n : Nat} {ds : List D} (ha : ρ[n]? = some a) : ItRel K (Ite K a) ρ H ⟨enumL 0 ds, fun A => rdL A (.ref n) = some ds⟩ := fun i ρ' H' A e R ok => by
  have ha' := e.at_ ha
  obtain ⟨b, xs, eb, h', r'⟩ := rdL_ok R (show Rp K ρ' H' (.ref n) (.ref a) from ⟨a, ha', rfl⟩) ok
  cases eb
  refine ⟨fun d hd => ?_, fun hl _ => ⟨xs, h', by rw [r'.length]; rw [show (Src.items ⟨enumL 0 ds, fun A => rdL A (.ref n) = some ds⟩).length = ds.length from enumL_len 0 ds] at hl; exact hl⟩⟩
  have hd : (enumL 0 ds)[i]? = some d := hd
  rw [enumL_get] at hd
  cases ei : ds[i]? with
  | none => rw [ei] at hd; cases hd
  | some d0 =>
    rw [ei] at hd
    cases hd
    obtain ⟨v, q1, q2⟩ := r'.get ei
    refine ⟨⟨xs, v, h', q1⟩, fun x H2 hy => ?_⟩
    obtain ⟨T, w, rfl, hT, rfl, fv⟩ := hy
    have := fv _ h'
    rw [q1] at this; cases this
    rw [Nat.zero_add]
    exact pair_new R hT rfl q2
theorem itz_rel {a b : Addr} {m n : Nat} {ds es : List D} (ha : ρ[m]? = some a) (hb : ρ[n]? = some b) : ItRel K (Itz K a b) ρ H ⟨zipD ds es, fun A => rdL A (.ref m) = some ds ∧ rdL A (.ref n) = some es⟩ := fun i ρ' H' A e R ok => by
  obtain ⟨c, xs, eb, h1, r1⟩ := rdL_ok R (show Rp K ρ' H' (.ref m) (.ref a) from ⟨a, e.at_ ha, rfl⟩) ok.1
  cases eb
  obtain ⟨c, ys, eb, h2, r2⟩ := rdL_ok R (show Rp K ρ' H' (.ref n) (.ref b) from ⟨b, e.at_ hb, rfl⟩) ok.2
  cases eb
  refine ⟨fun d hd => ?_, fun hl _ => ⟨xs, ys, h1, h2, by
    have hl : (zipD ds es).length ≤ i := hl
    rw [r1.length, r2.length]; rw [zipD_len] at hl; omega⟩⟩
  obtain ⟨d1, d2, q1, q2, rfl⟩ := (zipD_get i ds es d).mp hd
  obtain ⟨v, q3, q4⟩ := r1.get q1
  obtain ⟨w, q5, q6⟩ := r2.get q2
  refine ⟨⟨xs, ys, v, w, h1, h2, q3, q5⟩, fun x H2 hy => ?_⟩
  obtain ⟨T, x1, y1, rfl, hT, rfl, f1, f2⟩ := hy
  have z1 := f1 _ h1
  have z2 := f2 _ h2
  rw [q3] at z1; cases z1
  rw [q5] at z2; cases z2
  exact pair_new R hT q4 q6
theorem itzT_rel {a b : Addr} {xs ys : List V} {ds es : List D} (h1 : SqT K H a xs) (r1 : RpL K ρ H ds xs) (h2 : SqT K H b ys) (r2 : RpL K ρ H es ys) : ItRel K (RZ.ItzT K a b) ρ H ⟨zipD ds es, yes⟩ := fun i ρ' H' A e R ok => by
  have h1 := e.gr _ _ h1
  have h2 := e.gr _ _ h2
  have r1 := r1.ext e
  have r2 := r2.ext e
  refine ⟨fun d hd => ?_, fun hl _ => ⟨xs, ys, h1, h2, by
    have hl : (zipD ds es).length ≤ i := hl
    rw [r1.length, r2.length]; rw [zipD_len] at hl; omega⟩⟩
  obtain ⟨d1, d2, q1, q2, rfl⟩ := (zipD_get i ds es d).mp hd
  obtain ⟨v, q3, q4⟩ := r1.get q1
  obtain ⟨w, q5, q6⟩ := r2.get q2
  refine ⟨⟨xs, ys, v, w, h1, h2, q3, q5⟩, fun x H2 hy => ?_⟩
  obtain ⟨T, x1, y1, rfl, hT, rfl, f1, f2⟩ := hy
  have z1 := f1 _ h1
  have z2 := f2 _ h2
  rw [q3] at z1; cases z1
  rw [q5] at z2; cases z2
  exact pair_new R hT q4 q6
end
section
variable {X : Cx} {E : XK} {e e2 : Expr} {f g : FE} {p pos tpos : Pos} {elts : List Expr} {kk : Nat}
theorem ai_enum (hg : Gl X "enumerate") (hm : X.mg "enumerate" = none) (he : AE X E e f) (h1 : starEach [e] X.env = (false, eval e X.env) :: starEach [] X.env := by rfl) : AI X E (.Tuple elts kk tpos) (.Call (.Name "enumerate" p) [e] [] pos) (fEnum f) := pi_mono (pi_enum (hs := h1) hg hm (aa_cons he aa_nil h1)) fun σ H Q h => by
  obtain ⟨ρ, s, A, hs, R, h⟩ := h
  have ef : fEnum f s A = (fCons f fNil s A).bind fun ds A1 => match ds with
      | [d] => match rdL A1 d with
        | some ds => .ok ⟨enumL 0 ds, fun A' => rdL A' d = some ds⟩ A1
        | none => .bad
      | _ => .bad := by
    unfold fEnum fCons fNil
    cases f s A with
    | bad => rfl
    | exc _ _ _ => rfl
    | ok d A1 => rfl
  rw [ef] at h
  refine ⟨ρ, s, A, hs, R, (Out.bindI h).mono fun xs H1 ⟨ρ1, ds, A1, _, e1, R1, r1, h1⟩ => ?_⟩
  split at h1
  · split at h1
    · rename_i d _ _ ds' e4
      obtain ⟨x, rfl, r2⟩ := r1.one_inv
      cases d with
      | ref n =>
        obtain ⟨a, us, rfl, q1, q2⟩ := rdL_ok R1 r2 e4
        obtain ⟨b, hb, eb⟩ := r2
        cases eb
        exact ⟨a, us, rfl, q1, h1 ρ1 H1 _ .refl R1 (ite_rel hb)⟩
      | _ => cases e4
    · exact h1.elim
  · exact h1.elim
theorem ai_zip (hg : Gl X "zip") (hm : X.mg "zip" = none) (he : AE X E e f) (he2 : AE X E e2 g) (h1 : starEach [e, e2] X.env = (false, eval e X.env) :: starEach [e2] X.env := by rfl) (h2 : starEach [e2] X.env = (false, eval e2 X.env) :: starEach [] X.env := by rfl) (hpl : (backTo pos (starEach [e2] X.env)).any (·.1) = false := by rfl) :
    AI X E (.Tuple elts kk tpos) (.Call (.Name "zip" p) [e, e2] [] pos) (fZip f g) := pi_mono (RZ.pi_zipA (hs := h1) (hpl := hpl) hg hm (aa_cons he (aa_cons he2 aa_nil h2) h1)) fun σ H Q h => by
  obtain ⟨ρ, s, A, hs, R, h⟩ := h
  have ef : fZip f g s A = (fCons f (fCons g fNil) s A).bind fun ds A2 => match ds with
      | [.tup xs, .tup ys] => .ok ⟨zipD xs ys, yes⟩ A2
      | [.ref m, .ref n] => match rdL A2 (.ref m), rdL A2 (.ref n) with
        | some xs, some ys => .ok ⟨zipD xs ys, fun A' => rdL A' (.ref m) = some xs ∧ rdL A' (.ref n) = some ys⟩ A2
        | _, _ => .bad
      | _ => .bad := by
    unfold fZip fCons
    cases f s A with
    | bad => rfl
    | exc _ _ _ => rfl
    | ok d A1 =>
      show (g s A1).bind _ = Res.bind (Res.bind (fCons g fNil s A1) _) _
      unfold fCons fNil
      cases g s A1 with
      | bad => rfl
      | exc _ _ _ => rfl
      | ok d' A2 => cases d <;> cases d' <;> rfl
  rw [ef] at h
  refine ⟨ρ, s, A, hs, R, (Out.bindI h).mono fun xs H1 ⟨ρ1, ds, A1, _, e1, R1, r1, h1⟩ => ?_⟩
  split at h1
  · obtain ⟨x, y, rfl, r2, r3⟩ := r1.two_inv
    obtain ⟨a, us, rfl, q1, q2⟩ := r2
    obtain ⟨b, ws, rfl, q3, q4⟩ := r3
    exact ⟨a, b, us, ws, rfl, .inr ⟨q1, q3, h1 ρ1 H1 _ .refl R1 (itzT_rel q1 q2 q3 q4)⟩⟩
  · split at h1
    · rename_i m n _ xs' ys' e4 e5
      obtain ⟨x, y, rfl, r2, r3⟩ := r1.two_inv
      obtain ⟨a, us, rfl, q1, q2⟩ := rdL_ok R1 r2 e4
      obtain ⟨b, ws, rfl, q3, q4⟩ := rdL_ok R1 r3 e5
      obtain ⟨a', ha, ea⟩ := r2
      cases ea
      obtain ⟨b', hb, eb⟩ := r3
      cases eb
      exact ⟨a, b, us, ws, rfl, .inl ⟨q1, q3, h1 ρ1 H1 _ .refl R1 (itz_rel ha hb)⟩⟩
    · exact h1.elim
  · exact h1.elim
end

/-! ## dict displays: the new dict is a cell from the start -/
abbrev FP := ASt → AH → Res (List (Key × D))
def fPs : List (FE × FE) → FP
  | [], _, A => .ok [] A
  | (k, v) :: r, s, A => (k s A).bind fun kd A1 => (v s A1).bind fun vd A2 => match keyOf kd with
    | some key => (fPs r s A2).bind fun ps A3 => .ok ((key, vd) :: ps) A3
    | none => .bad
def mergeD (kvs more : List (Key × D)) : List (Key × D) := more.foldl (fun acc kv => setK acc kv.1 kv.2) kvs
def fDisp (ps : List (FE × FE)) : FE := fun s A => (fPs ps s (A ++ [.dic []])).bind fun kds A1 => match A1[A.length]? with
  | some (.dic []) => if kds.length ≤ 15 then .ok (.ref A.length) (A1.set A.length (.dic (mergeD [] kds))) else .bad
  | _ => .bad
def fDict0 : FE := fun _ A => alloc (.dic []) A
inductive APs (X : Cx) (E : XK) (pos : Pos) : List (Option Expr) → List Expr → List (FE × FE) → Prop where
  | nil : APs X E pos [] [] []
  | cons {k v : Expr} {f g : FE} {ks : List (Option Expr)} {vs : List Expr} {fs : List (FE × FE)} (h : AE X E k f) (h' : AE X E v g) (r : APs X E pos ks vs fs) : APs X E pos (some k :: ks) (v :: vs) ((f, g) :: fs)
section
variable {X : Cx} {E : XK} {pos : Pos} {ks : List (Option Expr)} {vs : List Expr} {fs : List (FE × FE)}
theorem APs.pp (h : APs X E pos ks vs fs) : PPs X pos ks vs (fs.map fun p => (tA X.K E p.1, tA X.K E p.2)) := by
  induction h with
  | nil => exact pps_nil
  | cons h h' _ ih => exact pps_cons h h' ih
theorem mergeD_ok {K : PySem.W.Frag} {ρ : List Addr} {H : Hp} : ∀ {more : List (Key × D)} {mu : List (Key × V)} {kvs : List (Key × D)} {us : List (Key × V)}, RpK K ρ H more mu → RpK K ρ H kvs us → RpK K ρ H (mergeD kvs more) (mergeK us mu)
  | [], mu, kvs, us, h, q => by rw [show mu = [] from h]; exact q
  | p :: ps, mu, kvs, us, h, q => by
    obtain ⟨v, r, rfl, h2, h3⟩ := h
    exact mergeD_ok (more := ps) (mu := r) h3 (setK_ok (k := p.1) q h2)
abbrev OutP (K : PySem.W.Frag) (E : XK) := Out (α := List (Key × D)) (β := List (Key × V)) K E (fun ρ H d v => RpK K ρ H d v)
theorem ps_read {K : PySem.W.Frag} {σ : L2.St} : ∀ (fs : List (FE × FE)) (ρ : List Addr) (s : ASt) (A : AH) (H : Hp) (Q : List (Key × V) → Hp → Prop) (Q' : List (V × V) → Hp → Prop), (∀ us H', Q us H' → Q' (us.map fun kv => (kV kv.1, kv.2)) H') → SRel K ρ H s σ → Rel K ρ H A → OutP K E ρ H (fPs fs s A) Q →
    tPairs (fs.map fun p => (tA K E p.1, tA K E p.2)) σ H Q'
  | [], ρ, s, A, H, Q, Q', m, hs, R, h => m [] H (Out.now h R rfl)
  | p :: fs, ρ, s, A, H, Q, Q', m, hs, R, h => by
    refine ⟨ρ, s, A, hs, R, (Out.bind h).mono fun x H1 ⟨ρ1, d, A1, _, e1, R1, r1, h1⟩ => ⟨ρ1, s, A1, hs.ext e1, R1, (Out.bind h1).mono fun y H2 ⟨ρ2, d2, A2, _, e2, R2, r2, h2⟩ => ?_⟩⟩
    split at h2
    · rename_i key ek
      have ex := keyOf_ok (r1.ext e2) ek
      subst ex
      refine ps_read fs ρ2 s A2 H2 (fun us H3 => Q ((key, y) :: us) H3) _ (fun us H' q => m _ H' q) (hs.ext (e1.trans e2)) R2 ((Out.bind h2).mono fun us H3 ⟨ρ3, ps, A3, _, e3, R3, r3, h3⟩ => ?_)
      exact Out.now h3 R3 ⟨y, us, rfl, r2.ext e3, r3⟩
    · exact h2.elim
theorem ae_disp (h : APs X E pos ks vs fs) (hall : ks.all (·.isSome) = true := by rfl) (hl : ks.length = vs.length := by rfl) (h0 : ks ≠ [] := by exact fun z => nomatch z) (h15 : ks.length ≤ 15 := by decide) : AE X E (.Dict ks vs pos) (fDisp fs) := pe_mono (pe_disp h.pp hall hl h0 h15) fun σ H Q h => by
  obtain ⟨ρ, s, A, hs, R, h⟩ := h
  intro p hp
  have e0 : Ext X.K ρ H (ρ ++ [p]) (L2.upd H p (.dK [])) := Ext.new hp [p]
  have R0 : Rel X.K (ρ ++ [p]) (L2.upd H p (.dK [])) (A ++ [.dic []]) := R.new hp ⟨[], upd_same, rfl⟩
  have np : (ρ ++ [p])[A.length]? = some p := by rw [← R.len]; simp
  have h := Out.ext h e0
  refine ps_read fs (ρ ++ [p]) s (A ++ [.dic []]) _ (fun us H2 => H2 p = some (.dK []) ∧ us.length ≤ 15 ∧ Q (.ref p) (L2.upd H2 p (.dK (mergeK [] us)))) _ (fun us H' q => ⟨q.1, us, rfl, q.2⟩) (hs.ext e0) R0 ((Out.bind h).mono fun us H3 ⟨ρ3, kds, A3, _, e3, R3, r3, h3⟩ => ?_)
  split at h3
  · rename_i eA
    split at h3
    · rename_i z
      obtain ⟨a, ha, us0, q1, q2⟩ := R3.ob _ _ eA
      rw [e3.at_ np] at ha; cases ha
      rw [show us0 = [] from q2] at q1
      have u := upd_dic R3 (e3.at_ np) eA q1 (mergeD_ok (more := kds) (mu := us) (kvs := []) (us := []) r3 rfl)
      exact ⟨q1, by rw [r3.length]; exact z, h3 ρ3 _ (.ref p) u.1 u.2 ⟨p, e3.at_ np, rfl⟩⟩
    · exact h3.elim
  · exact h3.elim
theorem ae_dict0 : AE X E (.Dict [] [] pos) fDict0 := pe_mono pe_dnewK fun σ H Q h => by
  obtain ⟨ρ, s, A, hs, R, h⟩ := h
  exact new_dic (kvs := []) (us := []) R rfl h
end

/-! ## the law's own end -/
theorem sp_law {m : FM} (h : ∀ ns : List Int, ns.length ≤ 63 → ∃ A', m [.ref 0] [.frz (ns.map D.int)] = .ok (.bl true) A') :
    ∀ (K : PySem.W.Frag) (H : Hp) (a : Addr) (ns : List Int), ns.length ≤ 63 → Only H → SqL K H a (ns.map V.int) → spM K 1 m [.ref a] H (fun v _ => v = .bl true) fun _ _ _ => False := fun K H a ns hl hO hS => by
  obtain ⟨A', e⟩ := h ns hl
  have rl : ∀ l : List Int, RpL K [a] H (l.map D.int) (l.map V.int) := by
    intro l
    induction l with
    | nil => rfl
    | cons k l ih => exact ⟨_, _, rfl, rfl, ih⟩
  have f : SqF K H a (ns.map V.int) := by
    rcases hS with (hS | ⟨o, hS⟩) | hS
    · rcases hO a with z | ⟨o, xs, z⟩
      · rw [hS] at z; cases z
      · rw [hS] at z; cases z
    · exact .inl ⟨o, hS⟩
    · exact .inr (.inr hS)
  have R : Rel K [a] H [.frz (ns.map D.int)] := ⟨rfl, fun i j b o u h1 h2 h3 h4 f1 _ => by
    have hi : i = 0 := by have := (List.getElem?_eq_some_iff.mp h3).1; simp at this; exact this
    subst hi
    cases h3
    exact Bool.noConfusion f1, fun i o hi => by
    have hi0 : i = 0 := by have := (List.getElem?_eq_some_iff.mp hi).1; simp at this; exact this
    subst hi0
    cases hi
    exact ⟨a, rfl, _, f, rl ns⟩⟩
  refine ⟨[a], _, [.ref 0], R, ⟨_, [], rfl, ⟨a, rfl, rfl⟩, rfl⟩, rfl, ?_⟩
  rw [e]
  exact fun ρ' H' v _ _ r => r
end Ab
namespace Ab
open PySem PySem.Spec PyProof.Rows L2
section
variable {P : Program} {w : World} {K : PySem.W.Frag} {mg : Str → Option Value} {base : Heap} {k : Nat} {f : Addr} {fd : FuncData} {ps : List Str} {m : FM}
theorem adef_bad : ADef P w K mg base k f fd ps (fun _ _ => .bad) := by
  have no : ∀ vs H Q E, ¬ spM K ps.length (fun _ _ => .bad) vs H Q E := fun vs H Q E ⟨ρ, A, ds, R, r, z, q⟩ => q
  exact ⟨fun vs H Q E h => absurd h (no vs H Q E), fun A outer s H args us vs Q E _ _ _ _ h => absurd h (no vs H Q E)⟩
theorem adef_up {n L : Nat} (h : ADef P w K mg base (n + L + 1) f fd ps m) : ADef P w K mg base (n + 1 + L) f fd ps m := FnOk.mono h (by omega)
theorem u65 {A : Around} (hr : Room k A) : A.units + 65 < cLine := by have := hr.un; omega
end
end Ab

namespace Ab
open PySem PySem.Spec PyProof.Rows L2

/-! ## list.index of a plain value that is there -/
section
variable {X : Cx} {E : XK}
def firstV (y : V) : List V → Nat → Option Nat
  | [], _ => none
  | z :: zs, k => if eqV z y = true then some k else firstV y zs (k + 1)
theorem firstV_ok {y : V} : ∀ {zs : List V} {k j : Nat}, firstV y zs k = some j → ∃ i z, j = k + i ∧ zs[i]? = some z ∧ eqV z y = true ∧ ∀ (m : Nat) (z' : V), m < i → zs[m]? = some z' → eqV z' y = false
  | [], k, j, h => by cases h
  | z :: zs, k, j, h => by
    rw [firstV] at h
    split at h
    · rename_i e
      cases h
      exact ⟨0, z, rfl, rfl, e, fun m z' hm _ => absurd hm (Nat.not_lt_zero _)⟩
    · rename_i e
      obtain ⟨i, w, h1, h2, h3, h4⟩ := firstV_ok h
      refine ⟨i + 1, w, by omega, by simpa using h2, h3, fun m z' hm hz => ?_⟩
      cases m with
      | zero => cases hz; simpa using e
      | succ m => exact h4 m z' (by omega) (by simpa using hz)
def indexD (d : D) : FM
  | [y], A => match rdL A d with
    | some xs => match toV y, toVs xs with
      | some v, some vs => match firstV v vs 0 with
        | some j => .ok (.int (j : Nat)) A
        | none => .bad
      | _, _ => .bad
    | none => .bad
  | _, _ => .bad
theorem amt_index : AMt X E "list.index" indexD := mtm_mono mt_index fun x xs H Q h => by
  obtain ⟨ρ, A, d, ds, R, r, rs, h⟩ := h
  unfold indexD at h
  split at h
  · split at h
    · rename_i xs' eX
      split at h
      · rename_i v vs e1 e2
        split at h
        · rename_i j ej
          obtain ⟨a, us, rfl, q1, q2⟩ := rdL_ok R r eX
          obtain ⟨y, rfl, ry⟩ := rs.one_inv
          obtain ⟨rfl, fv⟩ := toV_ok ry e1
          obtain ⟨rfl, fvs⟩ := toVs_ok q2 e2
          obtain ⟨i, z, h1, h2, h3, h4⟩ := firstV_ok ej
          rw [Nat.zero_add] at h1
          subst h1
          exact ⟨a, us, y, j, z, rfl, rfl, q1, fv, fvs, h2, h3, h4, h.now R rfl⟩
        · exact h.elim
      · exact h.elim
    · exact h.elim
  · exact h.elim

/-! ## == and != of two dicts that are alike -/
def alike (ks ls : List (Key × D)) : Prop := ks.length = ls.length ∧ ∀ p ∈ ks, ∃ v, toV p.2 = some v ∧ ∃ d, getK ls p.1 = some d ∧ toV d = some v
theorem alike_ok {K : PySem.W.Frag} {ρ : List Addr} {H : Hp} {ks ls : List (Key × D)} {us vs : List (Key × V)} (h : alike ks ls) (r1 : RpK K ρ H ks us) (r2 : RpK K ρ H ls vs) :
    us.length = vs.length ∧ ∀ p ∈ us, valV vs p.1 = some p.2 ∧ flatB p.2 = true := by
  refine ⟨by rw [r1.length, r2.length]; exact h.1, ?_⟩
  have all : ∀ {ks : List (Key × D)} {us : List (Key × V)}, RpK K ρ H ks us → (∀ p ∈ ks, ∃ v, toV p.2 = some v ∧ ∃ d, getK ls p.1 = some d ∧ toV d = some v) → ∀ p ∈ us, valV vs p.1 = some p.2 ∧ flatB p.2 = true := by
    intro ks
    induction ks with
    | nil => intro us r _ p hp; rw [show us = [] from r] at hp; cases hp
    | cons k ks ih =>
      intro us r hk p hp
      obtain ⟨v, q, rfl, h2, h3⟩ := r
      rcases List.mem_cons.mp hp with e | e
      · subst e
        obtain ⟨w, t1, d, g, t2⟩ := hk k (List.mem_cons_self ..)
        obtain ⟨rfl, fv⟩ := toV_ok h2 t1
        have z := getK_ok (k := k.1) r2
        rw [g] at z
        obtain ⟨w, z1, z2⟩ := z
        obtain ⟨rfl, _⟩ := toV_ok z2 t2
        refine ⟨z1, ?_⟩
        show flatB w = true
        cases w <;> first | rfl | cases fv
      · exact ih h3 (fun p hp => hk p (List.mem_cons_of_mem _ hp)) p e
  exact all r1 h.2
open scoped Classical in
noncomputable def eqX (d e : D) (A : AH) : Res D := match rdK A d, rdK A e with
  | some ks, some ls => if alike ks ls then .ok (.bl true) A else .bad
  | _, _ => .bad
open scoped Classical in
noncomputable def neX (d e : D) (A : AH) : Res D := match rdK A d, rdK A e with
  | some ks, some ls => if alike ks ls then .ok (.bl false) A else .bad
  | _, _ => .bad
theorem aop_eqX (hu : X.A.units + 64 < cLine) : AOp X E (compareOp .Eq) eqX := op_mono (op_eq_dictA (by omega)) fun x y H Q h => by
  obtain ⟨ρ, A, d, e, R, r1, r2, h⟩ := h
  unfold eqX at h
  split at h
  · split at h
    · rename_i ks ls e1 e2 z
      obtain ⟨i, a, us, rfl, rfl, _, _, q1, q2⟩ := rdK_ok R r1 e1
      obtain ⟨j, b, vs, rfl, rfl, _, _, q3, q4⟩ := rdK_ok R r2 e2
      have w := alike_ok z q2 q4
      exact ⟨a, b, us, vs, rfl, rfl, q1, q3, w.1, w.2, h.now R rfl⟩
    · exact h.elim
  · exact h.elim
theorem aop_neX (hu : X.A.units + 64 < cLine) : AOp X E (compareOp .NotEq) neX := op_mono (op_ne_dictA (by omega)) fun x y H Q h => by
  obtain ⟨ρ, A, d, e, R, r1, r2, h⟩ := h
  unfold neX at h
  split at h
  · split at h
    · rename_i ks ls e1 e2 z
      obtain ⟨i, a, us, rfl, rfl, _, _, q1, q2⟩ := rdK_ok R r1 e1
      obtain ⟨j, b, vs, rfl, rfl, _, _, q3, q4⟩ := rdK_ok R r2 e2
      have w := alike_ok z q2 q4
      exact ⟨a, b, us, vs, rfl, rfl, q1, q3, w.1, w.2, h.now R rfl⟩
    · exact h.elim
  · exact h.elim

/-! ## d.update(e) -/
def mergeV (kvs more : List (Key × V)) : List (Key × V) := more.foldl (fun acc kv => putK acc kv.1 kv.2) kvs
theorem merged_kv : ∀ {more : List (Key × V)} {mu : List (Key × Value)} {kvs : List (Key × V)} {us : List (Key × Value)}, KV more mu → KV kvs us → KV (mergeV kvs more) (merged us mu)
  | _, _, kvs, us, .nil, q => q
  | _, _, kvs, us, @Paired.cons _ _ _ p u ps qs h t, q => by
    obtain ⟨h1, h2⟩ := h
    have := merged_kv t (q.put p.1 h2)
    rw [h1] at this
    show KV (mergeV (putK kvs p.1 p.2) ps) (merged (stored us u.1 u.2) qs)
    rw [← h1] at this ⊢
    exact this
theorem length_mergeV : ∀ (more kvs : List (Key × V)), (mergeV kvs more).length ≤ kvs.length + more.length
  | [], kvs => Nat.le_refl _
  | p :: ps, kvs => by
    have h1 := length_mergeV ps (putK kvs p.1 p.2)
    have h2 := length_putK kvs p.1 p.2
    show (mergeV (putK kvs p.1 p.2) ps).length ≤ _
    rw [List.length_cons]
    omega
theorem mt_update : MtR X "dict.update" fun x xs H Q => ∃ (a b : Addr) (kvs more : List (Key × V)), x = .ref a ∧ xs = [.ref b] ∧ a ≠ b ∧ H a = some (.dK kvs) ∧ H b = some (.dK more) ∧ kvs.length + more.length ≤ sizeLine ∧ Q .non (upd H a (.dK (mergeV kvs more))) := by
  intro pins s σ H x xs v us Q I rx rxs h
  obtain ⟨a, b, kvs, more, rfl, rfl, hne, ea, eb, z, q⟩ := h
  obtain rfl : v = Value.ref a := rx
  rw [Vals.ref1 rxs]
  obtain ⟨_, hd, vs, rel, dd⟩ := dk_of I.hok ea
  obtain ⟨_, hd2, ws, rel2, dd2⟩ := dk_of I.hok eb
  refine call_meetsIn PySem.F.slot_dict_update dd.typeIs PySem.F.entry_dict_update (PySem.F.args_dict_update_2 _ _) (meets_dict_update (mixKind X.prog X.w) a b hne hd2)
    ⟨vs, ws, dd, dd2, by rw [← rel.length, ← rel2.length]; exact z, fun h' dd' _ hs => ?_⟩
  have he : ∃ q, h'.get? a = some q := let ⟨q, _, _, hq, _⟩ := dd'; ⟨q, hq⟩
  exact ⟨.non, _, d_write (t' := s.toks) I (by rw [ea]; exact True.intro) hs he (dk_new (Nat.le_trans (length_mergeV _ _) z) hd (merged_kv rel2 rel) dd'), rfl, q⟩
def updateD (d : D) : FM
  | [.ref j], A => match d with
    | .ref n => match A[n]?, A[j]? with
      | some (.dic ks), some (.dic ls) => if n ≠ j ∧ ks.length + ls.length ≤ sizeLine then .ok .non (A.set n (.dic (mergeD ks ls))) else .bad
      | _, _ => .bad
    | _ => .bad
  | _, _ => .bad
theorem merge_ok {K : PySem.W.Frag} {ρ : List Addr} {H : Hp} : ∀ {more : List (Key × D)} {mu : List (Key × V)} {kvs : List (Key × D)} {us : List (Key × V)}, RpK K ρ H more mu → RpK K ρ H kvs us → RpK K ρ H (mergeD kvs more) (mergeV us mu)
  | [], mu, kvs, us, h, q => by rw [show mu = [] from h]; exact q
  | p :: ps, mu, kvs, us, h, q => by
    obtain ⟨v, r, rfl, h2, h3⟩ := h
    exact merge_ok (more := ps) (mu := r) h3 (setK_ok (k := p.1) q h2)
theorem amt_update : AMt X E "dict.update" updateD := mtm_mono mt_update fun x xs H Q h => by
  obtain ⟨ρ, A, d, ds, R, r, rs, h⟩ := h
  unfold updateD at h
  split at h
  · rename_i j
    split at h
    · rename_i n
      split at h
      · rename_i ks ls e1 e2
        split at h
        · rename_i z
          obtain ⟨a, ha, rfl⟩ := r
          obtain ⟨a', ha', us, q1, q2⟩ := R.ob _ _ e1
          rw [ha] at ha'; cases ha'
          obtain ⟨y, rfl, ry⟩ := rs.one_inv
          obtain ⟨b, hb, rfl⟩ := ry
          obtain ⟨b', hb', ws, q3, q4⟩ := R.ob _ _ e2
          rw [hb] at hb'; cases hb'
          have hne : a ≠ b := fun e => z.1 (R.nd n j a _ _ ha (by rw [hb, e]) e1 e2 rfl rfl)
          have u := upd_dic R ha e1 q1 (merge_ok q4 q2)
          exact ⟨a, b, us, ws, rfl, rfl, hne, q1, q3, by rw [q2.length, q4.length]; exact z.2, h ρ _ .non u.1 u.2 rfl⟩
        · exact h.elim
      · exact h.elim
    · exact h.elim
  · exact h.elim
/-! ## xs.pop(i), i from the front -/
theorem RpL.eraseIdx {K : PySem.W.Frag} {ρ : List Addr} {H : Hp} : ∀ {ds : List D} {xs : List V} (k : Nat), RpL K ρ H ds xs → RpL K ρ H (ds.eraseIdx k) (xs.eraseIdx k)
  | [], xs, k, r => by rw [show xs = [] from r]; exact rfl
  | d :: ds, xs, 0, r => by obtain ⟨x, r', rfl, _, h⟩ := r; exact h
  | d :: ds, xs, k + 1, r => by obtain ⟨x, r', rfl, h1, h⟩ := r; exact ⟨x, _, rfl, h1, RpL.eraseIdx k h⟩
def popAtD (d : D) : FM
  | [.int i], A => match d with
    | .ref n => match A[n]? with
      | some (.lst xs) => if 0 ≤ i ∧ i < 2 ^ 62 then (match xs[i.toNat]? with
        | some y => .ok y (A.set n (.lst (xs.eraseIdx i.toNat)))
        | none => .bad) else .bad
      | _ => .bad
    | _ => .bad
  | _, _ => .bad
theorem amt_popAt : AMt X E "list.pop" popAtD := mtm_mono mt_popAt fun x xs H Q h => by
  obtain ⟨ρ, A, d, ds, R, r, rs, h⟩ := h
  unfold popAtD at h
  split at h
  · rename_i i
    split at h
    · split at h
      · split at h
        · rename_i xs' eA z
          split at h
          · rename_i y eY
            obtain ⟨a, ha, rfl⟩ := r
            obtain ⟨a', ha', us, q1, q2⟩ := R.ob _ _ eA
            rw [ha] at ha'; cases ha'
            obtain ⟨v, e1, e2⟩ := q2.get eY
            obtain ⟨w, rfl, rw'⟩ := rs.one_inv
            cases rw'
            have hl : i.toNat < us.length := (List.getElem?_eq_some_iff.mp e1).1
            have u := upd_lst (ds := xs') R ha eA q1 (RpL.eraseIdx i.toNat q2)
            exact ⟨a, us, i, i.toNat, v, rfl, rfl, q1, by omega, by omega, by unfold seqIndex?; simp; omega, e1, h ρ _ v u.1 u.2 (e2.ext u.1)⟩
          · exact h.elim
        · exact h.elim
      · exact h.elim
    · exact h.elim
  · exact h.elim
end
end Ab

/-! ## enumerate of a tuple -/
namespace PySem
open Sem (wp)
theorem meets_enum_tup (a : Addr) (items : Array Value) : Meets (Builtin.«enumerate.__new__» ⟨[.type "enumerate", .ref a], []⟩) (fun _ R s => s.heap.IsTuple a items ∧
      R (.ok (.ret (.ref (s.heap.push { cls := .type "tuple_iterator", data := .fields #[.ref a, .int 0 0] }).objs.size)))
        { s with heap := (s.heap.push { cls := .type "tuple_iterator", data := .fields #[.ref a, .int 0 0] }).push { cls := .type "enumerate", data := .fields #[.none, .bool false, .ref s.heap.objs.size, rawInt 0, .none, .none] } }) :=
  .of_wp fun prog w A R s h => by
    obtain ⟨hp, gs, dr, tk, os⟩ := s; obtain ⟨ht, h⟩ := h
    have sub0 := sub_enumerate
    wp_walk using wpAny_pyIter_tuple ht
    refine wpAny_stack_any fun st => wpAny_pure ?_
    split
    · rename_i c _ _ _ _ _
      cases (c == Value.type "enumerate")
      · wp_walk using wpAny_pyIter_tuple ht
        exact ⟨_, rfl, h⟩
      · wp_walk using wpAny_pyIter_tuple ht
        exact ⟨_, rfl, h⟩
    · wp_walk using wpAny_pyIter_tuple ht
      exact ⟨_, rfl, h⟩
section
variable {prog : Program} {w : World} {A : Around} {E : Value → Shared → Prop} {s : Shared}
theorem call_enum_tup {a : Addr} {items : Array Value} {Q : Value → Shared → Prop} (ht : s.heap.IsTuple a items)
    (h : ∀ g, IsEnum g (s.heap.objs.size + 1) s.heap.objs.size 0 .none → g.IsTupleIter s.heap.objs.size a 0 → g.objs.size = s.heap.objs.size + 2 →
      (∀ b o, s.heap.get? b = some o → g.get? b = some o) → Q (.ref (s.heap.objs.size + 1)) { s with heap := g }) :
    wpAny (model prog w) A (call (.type "enumerate") [.ref a]) Q E s := by
  refine callType_new F.called_enumerate (by decide) (F.typeCall_enumerate_1 _) (F.newCall_enumerate_1 _) (fun x => F.args_object_init_2 x _) F.entry_enumerate_new (meets_enum_tup a items) ⟨ht, ?_⟩
  have z : (s.heap.push { cls := .type "tuple_iterator", data := .fields #[.ref a, .int 0 0] }).objs.size = s.heap.objs.size + 1 := Heap.size_push ..
  show _ ∧ _
  rw [z]
  have he : IsEnum ((s.heap.push { cls := .type "tuple_iterator", data := .fields #[.ref a, .int 0 0] }).push { cls := .type "enumerate", data := .fields #[.none, .bool false, .ref s.heap.objs.size, rawInt 0, .none, .none] }) (s.heap.objs.size + 1) s.heap.objs.size 0 .none := by
    have y := Heap.get?_push_size (s.heap.push { cls := .type "tuple_iterator", data := .fields #[.ref a, .int 0 0] }) (o := { cls := .type "enumerate", data := .fields #[.none, .bool false, .ref s.heap.objs.size, rawInt 0, .none, .none] }) rfl
    rw [z] at y; exact y
  refine ⟨⟨_, he, rfl⟩, h _ he ⟨_, Heap.get?_push_of_some _ (Heap.get?_push_size _ rfl), rfl, rfl⟩ (by rw [Heap.size_push, z]) fun b o y => Heap.get?_push_of_some _ (Heap.get?_push_of_some _ y)⟩
theorem enum_tup_end {e it a : Addr} {i : Nat} {items : Array Value} {old : Value} {Q : Option Value → Shared → Prop} (hh : A.handled = none)
    (he : IsEnum s.heap e it i old) (hit : s.heap.IsTupleIter it a i) (ht : s.heap.IsTuple a items) (hx : items[i]? = none)
    (hQ : ∀ g, Heap.ExtBut it s.heap g → Q none { s with heap := g }) : wpAny (model prog w) A (pyNext (.ref e)) Q E s := by
  have T : s.TypeIs (.ref e) "enumerate" := ⟨_, he, rfl⟩
  unfold pyNext
  refine wpAny_bind (wpAny_attempt (wpAny_callSpecial?_slot (name := Str.ofString "__next__") T F.slot_enumerate_next (wpAny_call_entry F.slot_enumerate_next T F.entry_enumerate_next ?_ (F.args_enumerate_next_1 _))))
  show wpAny _ _ (field (.ref e) 2 >>= _) _ _ s
  refine wpAny_bind (wpAny_field he rfl (x := Value.ref it) rfl ?_)
  refine wpAny_bind (wpAny_nextOf_tuple_end hh hit ht hx fun g x ex st => ?_)
  obtain ⟨o, ho, hc⟩ := st
  refine wpAny_bind (wpAny_isInstance (T := "StopIteration") (b := true) ⟨_, ho, hc⟩ isSubtype_stop ?_)
  exact wpAny_pure (hQ _ ex)
end
end PySem
namespace Ab
open PySem PySem.Spec PyProof.Rows L2
/-- the tuple at a, each item in a new pair -/
def ItET (K : PySem.W.Frag) (a : Addr) : It :=
  ⟨fun i H => ∃ (xs : List V) (x : V), SqT K H a xs ∧ xs[i]? = some x, fun i H v H' => ∃ T x, v = .ref T ∧ H T = none ∧ H' = upd H T (.tup [.int (i : Nat), x]) ∧ ∀ xs, SqT K H a xs → xs[i]? = some x, fun i H => ∃ xs : List V, SqT K H a xs ∧ xs.length ≤ i⟩
theorem turn_enumT {P : Program} {w : World} {K : PySem.W.Frag} {elts : List Expr} {kk : Nat} {tpos : Pos} (a e it : Addr) (ea : a ≠ it) (ee : e ≠ a) :
    Turn P w K (.Tuple elts kk tpos) (ItET K a) [e, it] e (fun i h => (∃ old, IsEnum h e it ((i : Nat) : Int) old) ∧ h.IsTupleIter it a i ∧ e ≠ it) where
  mem := by simp
  obj := fun i h st b hb => by
    obtain ⟨⟨old, he⟩, ⟨o, ho, hc, hd⟩, _⟩ := st
    rcases (by simpa using hb : b = e ∨ b = it) with z | z
    · rw [z]; exact ⟨_, he, fun v q => nomatch q⟩
    · rw [z]; exact ⟨o, ho, fun v q => by rw [hd] at q; cases q⟩
  keep := fun i h h' st k => let ⟨⟨old, he⟩, hi, ne⟩ := st; ⟨⟨old, k e (by simp) _ he⟩, hi.at fun o q => k it (by simp) o q, ne⟩
  item := by
    intro X hP hw hK hc i pins s σ H E I hf st hg
    subst hP hw hK
    obtain ⟨⟨old, he⟩, hit, ne⟩ := st
    obtain ⟨xs, x, hq, hx⟩ := hg
    obtain ⟨its, rv, p, hz⟩ := I.tuple hq
    obtain ⟨u, hu, ru⟩ := rv.get hx
    have le : e < s.heap.objs.size := Heap.lt_size he
    have li : it < s.heap.objs.size := by obtain ⟨_, q, _⟩ := hit; exact Heap.lt_size q
    have hlt : i < its.toArray.size := by
      have := (List.getElem?_eq_some_iff.mp hu).1
      simpa using this
    refine wpAny_pyNext_enum_itemD (Draws.tuple (A := X.A.in1) (by show X.A.in1.handled = none; simpa using I.ok.hd hc) it a ea its.toArray) he ⟨hit, p⟩ hlt ne (by simp [ne, ee]) fun y g tk hy ho hit' hT hsz hk => ?_
    have hy : y = u := by
      have z : its[i]? = some y := by simpa using hy
      rw [hu] at z; cases z; rfl
    subst hy
    refine ⟨_, rfl, wpAny_letOwnedTupleGo_enum (s := { s with heap := g, toks := tk + 1 }) ho fun g2 he' sb => ?_⟩
    have hT2 : g2.get? s.heap.objs.size = some { cls := .type "tuple", data := .seq #[.int i tk, y] } := (sb.2 _ (Nat.ne_of_gt le)).trans hT
    have new : ObjOk X.prog X.w (upd H s.heap.objs.size (.tup [.int (i : Nat), x])) g2 s.heap.objs.size (.tup [.int (i : Nat), x]) :=
      ⟨by show 2 ≤ sizeLine; decide, [.int i tk, y], .cons ⟨_, rfl⟩ (.cons ru .nil), ⟨_, hT2, rfl, _, rfl⟩⟩
    have I1 : Inv X pins σ (upd H s.heap.objs.size (.tup [.int (i : Nat), x])) { s with heap := g2, toks := tk + 1 } :=
      I.turnedNew (ch := [e, it]) (fun b ob hb q => (sb.2 b (fun z => hb (by simp [z]))).trans (hk b ob (fun z => hb (by simp [z])) (fun z => hb (by simp [z])) q)) hf (Nat.le_refl _) new
    refine ⟨.ref s.heap.objs.size, _, I1, rfl, ⟨_, x, rfl, I.hok.fresh (Nat.le_refl _), rfl, fun ys hy => by rw [I.tuple_inj hy hq]; exact hx⟩, ⟨⟨y, ?_⟩, hit'.1.at fun o q => (sb.2 it (Ne.symm ne)).trans q, ne⟩, fun b hb => ?_⟩
    · rw [show ((i + 1 : Nat) : Int) = (i : Int) + 1 by omega]; exact he'
    · have lb : b < s.heap.objs.size := by
        rcases (by simpa using hb : b = e ∨ b = it) with z | z
        · rw [z]; exact le
        · rw [z]; exact li
      rw [upd_ne (Nat.ne_of_lt lb)]
      exact (hf b hb).1
  done := by
    intro X hP hw hK hc i pins s σ H E I hf st hg
    subst hP hw hK
    obtain ⟨⟨old, he⟩, hit, ne⟩ := st
    obtain ⟨xs, hq, hx⟩ := hg
    obtain ⟨its, rv, p, hz⟩ := I.tuple hq
    obtain ⟨f0, f1, f2, f3, f4, f5⟩ := hf it (by simp)
    have hl := rv.length
    exact enum_tup_end (I.ok.hd hc) he hit p (by simp; omega) fun g eb => ⟨rfl, I.turned (t' := s.toks) (fun b o hb q => eb b o hb q) f0 f1 f3 f4 f5⟩
  self := fun A i s Q E st h => let ⟨⟨_, he⟩, _⟩ := st; wpAny_pyIter_enum he h
def iEnumA (K : PySem.W.Frag) (ta : TA) : TI := fun σ H R => ta σ H fun vs H1 => ∃ a xs, vs = [.ref a] ∧ ((SqL K H1 a xs ∧ R (Ite K a) H1) ∨ (SqT K H1 a xs ∧ R (ItET K a) H1))
theorem pi_enumA {X : Cx} {e : Expr} {ta : TA} {p pos tpos : Pos} {elts : List Expr} {kk : Nat} (hg : Gl X "enumerate") (hm : X.mg "enumerate" = none) (ha : PA X [e] ta) (hs : starEach [e] X.env = [(false, eval e X.env)] := by rfl) :
    PI X (.Tuple elts kk tpos) (.Call (.Name "enumerate" p) [e] [] pos) (iEnumA X.K ta) := by
  refine ⟨fun pins s σ H R I h => ?_⟩
  refine Call_ (ld_blt I hg hm boot_enumerate (PyProof.Rows.callWith_type1 (thn (ha.run pos pins s σ H _ I h) fun us t ⟨vs, H1, J, r1, q1⟩ => ?_) hs rfl))
  obtain ⟨a, xs, ex, q1⟩ := q1
  subst ex
  cases r1 with
  | cons r rr =>
    cases rr
    cases r
    have new2 : ∀ b, b ∈ [t.heap.objs.size + 1, t.heap.objs.size] → FpOk X pins H1 b := fun b hb => by
      have le : t.heap.objs.size ≤ b := by
        rcases (by simpa using hb : b = t.heap.objs.size + 1 ∨ b = t.heap.objs.size) with z | z
        · rw [z]; exact Nat.le_add_right _ _
        · rw [z]; exact Nat.le_refl _
      exact J.fpOk le (J.hok.fresh le)
    rcases q1 with ⟨hq, q⟩ | ⟨hq, q⟩
    · obtain ⟨its, rv, p', hz⟩ := J.list hq
      refine call_enumerate_list p'.isList fun g he hit hsz hk => wpAny_pyIter_enum he ?_
      have J2 : Inv X pins σ H1 { t with heap := g } := J.kept (t' := t.toks) hk
      exact ⟨t.heap.objs.size + 1, [t.heap.objs.size + 1, t.heap.objs.size], _, _, H1, rfl, J2, turn_enum a (t.heap.objs.size + 1) t.heap.objs.size, ⟨⟨.none, he⟩, hit, Nat.succ_ne_self _⟩, new2, q⟩
    · obtain ⟨its, rv, p', hz⟩ := J.tuple hq
      have la : a < t.heap.objs.size := by
        obtain ⟨_, y, _⟩ := p'
        exact Heap.lt_size y
      refine call_enum_tup p' fun g he hit hsz hk => wpAny_pyIter_enum he ?_
      have J2 : Inv X pins σ H1 { t with heap := g } := J.kept (t' := t.toks) hk
      exact ⟨t.heap.objs.size + 1, [t.heap.objs.size + 1, t.heap.objs.size], _, _, H1, rfl, J2, turn_enumT a (t.heap.objs.size + 1) t.heap.objs.size (Nat.ne_of_lt la) (Nat.ne_of_gt (Nat.lt_succ_of_lt la)), ⟨⟨.none, he⟩, hit, Nat.succ_ne_self _⟩, new2, q⟩
theorem ieT_rel {K : PySem.W.Frag} {ρ : List Addr} {H : Hp} {a : Addr} {xs : List V} {ds : List D} (h : SqT K H a xs) (r : RpL K ρ H ds xs) : ItRel K (ItET K a) ρ H ⟨enumL 0 ds, yes⟩ := fun i ρ' H' A e R ok => by
  have h' := e.gr _ _ h
  have r' := r.ext e
  refine ⟨fun d hd => ?_, fun hl _ => ⟨xs, h', by rw [r'.length]; rw [show (Src.items ⟨enumL 0 ds, yes⟩).length = ds.length from enumL_len 0 ds] at hl; exact hl⟩⟩
  have hd : (enumL 0 ds)[i]? = some d := hd
  rw [enumL_get] at hd
  cases ei : ds[i]? with
  | none => rw [ei] at hd; cases hd
  | some d0 =>
    rw [ei] at hd
    cases hd
    obtain ⟨v, q1, q2⟩ := r'.get ei
    refine ⟨⟨xs, v, h', q1⟩, fun x H2 hy => ?_⟩
    obtain ⟨T, w, rfl, hT, rfl, fv⟩ := hy
    have := fv _ h'
    rw [q1] at this; cases this
    rw [Nat.zero_add]
    exact pair_new R hT rfl q2
def enumS (d : D) (A : AH) : Res Src := match d with
  | .tup ds => .ok ⟨enumL 0 ds, yes⟩ A
  | d => match rdL A d with
    | some ds => .ok ⟨enumL 0 ds, fun A' => rdL A' d = some ds⟩ A
    | none => .bad
/-- enumerate of a list or of a tuple -/
def fEnumA (f : FE) : FI := fun s A => (f s A).bind enumS
theorem ai_enumA {X : Cx} {E : XK} {e : Expr} {f : FE} {p pos tpos : Pos} {elts : List Expr} {kk : Nat} (hg : Gl X "enumerate") (hm : X.mg "enumerate" = none) (he : AE X E e f) (h1 : starEach [e] X.env = (false, eval e X.env) :: starEach [] X.env := by rfl) : AI X E (.Tuple elts kk tpos) (.Call (.Name "enumerate" p) [e] [] pos) (fEnumA f) := pi_mono (pi_enumA (hs := h1) hg hm (aa_cons he aa_nil h1)) fun σ H Q h => by
  obtain ⟨ρ, s, A, hs, R, h⟩ := h
  have ef : fEnumA f s A = (fCons f fNil s A).bind fun ds A1 => match ds with
      | [d] => enumS d A1
      | _ => .bad := by
    unfold fEnumA fCons fNil
    cases f s A with
    | bad => rfl
    | exc _ _ _ => rfl
    | ok d A1 => rfl
  rw [ef] at h
  refine ⟨ρ, s, A, hs, R, (Out.bindI h).mono fun xs H1 ⟨ρ1, ds, A1, _, e1, R1, r1, h1⟩ => ?_⟩
  split at h1
  · rename_i _ d _
    obtain ⟨x, rfl, r2⟩ := r1.one_inv
    cases d with
    | tup ds' =>
      obtain ⟨a, us, rfl, q1, q2⟩ := r2
      exact ⟨a, us, rfl, .inr ⟨q1, h1 ρ1 H1 _ .refl R1 (ieT_rel q1 q2)⟩⟩
    | ref n =>
      simp only [enumS] at h1
      split at h1
      · rename_i ds' e4
        obtain ⟨a, us, rfl, q1, q2⟩ := rdL_ok R1 r2 e4
        obtain ⟨b, hb, eb⟩ := r2
        cases eb
        exact ⟨a, us, rfl, .inl ⟨q1, h1 ρ1 H1 _ .refl R1 (ite_rel hb)⟩⟩
      · exact h1.elim
    | _ => exact h1.elim
  · exact h1.elim
theorem ev_enumA {f : FE} {s : ASt} {A : AH} : fEnumA f s A = (f s A).bind enumS := rfl
theorem ev_enumT {ds : List D} {A : AH} : enumS (.tup ds) A = .ok ⟨enumL 0 ds, yes⟩ A := rfl
end Ab

namespace Ab
open PySem PySem.Spec PyProof.Rows L2
/-! ## a, b = x, y; a, b = a list -/
section
variable {X : Cx} {E : XK}
def fPar (i j : Nat) (f : FA) : FS := fun s A => (f s A).bind fun ds A1 => match ds with
  | [v, w] => .ok (.nx ((s.set i (some v)).set j (some w))) A1
  | _ => .bad
theorem as_par {i j : Nat} {x y : Str} {a b : Expr} {f : FA} {px py pt pos : Pos} {kt k2 pt2} (hc : X.calm = true) (hN : X.N.Nodup) (hij : i ≠ j) (ha : AA X E [a, b] f)
    (hi : X.N[i]? = some x := by rfl) (hj : X.N[j]? = some y := by rfl) (hx : X.env.scope.names.lookup x = some .local := by rfl) (hy : X.env.scope.names.lookup y = some .local := by rfl)
    (hw : swappedStores [.Tuple [.Name x px, .Name y py] kt pt] (.Tuple [a, b] k2 pt2) X.env = pure (some [x, y]) := by rfl)
    (hs : swapsWithSole [.Tuple [.Name x px, .Name y py] kt pt] (.Tuple [a, b] k2 pt2) pos.line X.env = pure false := by rfl) :
    AS X E (.Assign [.Tuple [.Name x px, .Name y py] kt pt] (.Tuple [a, b] k2 pt2) pos) (fPar i j f) := ps_mono (ps_par hc hN hi hj hij hx hy ha hw hs) fun G σ H h => by
  obtain ⟨ρ, s, A, hs, R, h⟩ := h
  refine ⟨ρ, s, A, hs, R, (Out.bindS h).mono fun xs H1 ⟨ρ1, ds, A1, _, e1, R1, r1, h1⟩ => ?_⟩
  split at h1
  · obtain ⟨v, w, rfl, q1, q2⟩ := r1.two_inv
    exact ⟨v, w, rfl, h1 ρ1 H1 _ .refl R1 (((hs.ext e1).set i q1).set j q2)⟩
  · exact h1.elim
theorem ev_par {i j : Nat} {f : FA} {s : ASt} {A : AH} : fPar i j f s A = (f s A).bind fun ds A1 => match ds with
  | [v, w] => .ok (.nx ((s.set i (some v)).set j (some w))) A1
  | _ => .bad := rfl
def gTpL (n : Nat) (gs : FGs) : FG := fun d s A => match rdL A d with
  | some ds => if ds.length = n then gs ds s A else .bad
  | none => .bad
theorem ag_lst {es : List Expr} {k : Nat} {gs : FGs} {n : Nat} {pos : Pos} (hc : X.calm = true) (h : AGs X E es gs) (hn : (assignEach es X.env).length = n := by rfl) (hst : (assignEach es X.env).findIdx? (·.1) = none := by rfl) : AG X E (.Tuple es k pos) (gTpL n gs) :=
  pg_mono (pg_lst hc h hn hst) fun v σ H Q h => by
    obtain ⟨ρ, s, A, d, hs, R, r, h⟩ := h
    unfold gTpL at h
    split at h
    · rename_i ds e1
      obtain ⟨a, xs, rfl, q1, q2⟩ := rdL_ok R r e1
      split at h
      · rename_i z
        exact ⟨a, xs, rfl, q1, by rw [q2.length]; exact z, ρ, s, A, ds, hs, R, q2, h⟩
      · exact h.elim
    · exact h.elim
theorem pg_or {tg : Expr} {t u : TG} (h : PG X tg t) (h' : PG X tg u) : PG X tg (fun v σ H Q => t v σ H Q ∨ u v σ H Q) := ⟨fun pins s σ H v w Q I r q => q.elim (h.run pins s σ H v w Q I r) (h'.run pins s σ H v w Q I r)⟩
/-- a, b = a tuple or a list -/
def gTpA (n : Nat) (gs : FGs) : FG := fun d s A => match d with
  | .tup _ => gTp n gs d s A
  | _ => gTpL n gs d s A
theorem ag_tupA {es : List Expr} {k : Nat} {gs : FGs} {n : Nat} {pos : Pos} (hc : X.calm = true) (h : AGs X E es gs) (hn : (assignEach es X.env).length = n := by rfl) (hst : (assignEach es X.env).findIdx? (·.1) = none := by rfl) : AG X E (.Tuple es k pos) (gTpA n gs) :=
  pg_mono (pg_or (ag_tup (E := E) hc h hn hst) (ag_lst (E := E) hc h hn hst)) fun v σ H Q h => by
    obtain ⟨ρ, s, A, d, hs, R, r, h⟩ := h
    unfold gTpA at h
    split at h
    · exact .inl ⟨ρ, s, A, _, hs, R, r, h⟩
    · exact .inr ⟨ρ, s, A, _, hs, R, r, h⟩
theorem ev_gtpA_t {n : Nat} {gs : FGs} {ds : List D} {s : ASt} {A : AH} : gTpA n gs (.tup ds) s A = if ds.length = n then gs ds s A else .bad := rfl
theorem ev_gtpA_l {n r : Nat} {gs : FGs} {ds : List D} {s : ASt} {A : AH} (h : rdL A (.ref r) = some ds) : gTpA n gs (.ref r) s A = if ds.length = n then gs ds s A else .bad := by
  show (match rdL A (.ref r) with | some ds => if ds.length = n then gs ds s A else .bad | none => .bad) = _
  rw [h]
end
end Ab

namespace Ab
open PySem PySem.Spec PyProof.Rows L2
/-! ## sorted(set(a list of ints)), sorted(a list of ints) -/
abbrev eset (w : World) : Obj := { cls := .type "set", dict := none, data := .set #[] 0 (.fresh 0 0 (!w.params.followText "set-order")) }
section
variable {P : Program} {w : World} {A : Around} {E : Value → Shared → Prop} {s : Shared}
set_option maxRecDepth 100000 in
set_option maxHeartbeats 3200000 in
theorem set_of_ints {l : Addr} {its : Array Value} (ns : List Int) {Q : Value → Shared → Prop} (hh : A.handled = none) (hl : s.heap.IsList l its) (hit : IntsAre its.toList ns) (room : ns.length + 1 < scanBound)
    (go : ∀ (g : Heap) (tk c : Nat), SetR w g s.heap.objs.size (fun j => decide (j ∈ ns)) c → c ≤ ns.length → (∀ b o, s.heap.get? b = some o → g.get? b = some o) → Q (.ref s.heap.objs.size) { s with heap := g, toks := tk }) :
    wpAny (model P w) A (call (.type "set") [.ref l]) Q E s := by
  have size : its.size = ns.length := by
    have z := IntsAre.length hit
    rw [Array.length_toList] at z
    exact z
  obtain ⟨c0, tl0, mro0⟩ := F.called_set.mro
  have made0 := F.called_set.made
  have sub0 := F.called_set.sub
  refine wpAny_call (codeAny_of_tree ?_)
  show wpAny (model P w) _ (callAny (.type "set") _) _ _ _
  refine wpAny_pure ⟨Code.quiet_builtin (_) (by decide +kernel), codeAny_builtin F.entry_type_call (?_)⟩
  rw [Around.under_plain (weight_type_call_type "set" [.ref l] ([])) rfl]
  have n1 := F.called_set.notType
  have n2 := F.called_set.canCreate
  have n3 := F.typeCall_set_1 (.ref l)
  repeat (any_goals first | assumption | wp_step)
  refine codeAny_mono (code_set_led1 (.ref l) (E := E) (Q₁ := fun ob t => ob = .ref s.heap.objs.size ∧ t = { s with heap := s.heap.push (eset w) }) ⟨rfl, rfl⟩) fun r t hr => ?_
  cases r with
  | error e => exact hr
  | ok fl =>
    cases fl with
    | ret obj =>
      obtain ⟨rfl, rfl⟩ := hr
      have gS : (s.heap.push (eset w)).get? s.heap.objs.size = some (eset w) := Heap.get?_push_size _ rfl
      have gT : Shared.TypeIs { s with heap := s.heap.push (eset w) } (.ref s.heap.objs.size) "set" := ⟨_, gS, rfl⟩
      have m1 := F.called_set.init.lookup
      have m2 := F.called_set.init.bind (.ref s.heap.objs.size)
      repeat (any_goals first | assumption | wp_step)
      refine codeAny_mono (codeAny_call_builtin (R := wants (fun r t => r = .none ∧ ∃ g tk c, t = { s with heap := g, toks := tk } ∧ SetR w g s.heap.objs.size (fun j => decide (j ∈ ns)) c ∧ c ≤ ns.length ∧ (∀ b o, s.heap.get? b = some o → g.get? b = some o)) E) F.called_set.init.plain F.entry_set_init (check_set_init_1 gT ?_)) fun r₂ t₂ hr₂ => ?_
      · obtain ⟨ob, gob, cob, nob, dob⟩ := hl
        obtain ⟨cl, di, da, sl⟩ := ob
        simp only at cob dob
        subst cob; subst dob
        have gob' : (s.heap.push (eset w)).get? l = some { cls := .type "list", dict := di, data := .seq its nob, slots := sl } := Heap.get?_push_of_some _ gob
        have q1 := F.sub_list_set
        have q2 := F.sub_list_frozenset
        have q3 : (Value.type "list" == Value.type "dict") = false := by decide
        have li : (s.heap.push (eset w)).IsList l its := ⟨_, gob', rfl, nob, rfl⟩
        unfold Builtin.«set.__init__» noKeywords Builtin.Frozenset.updateFrom
        generalize hPI : pyIter = PI
        wp_walk
        subst hPI
        refine wpAny_pyIter_list li ?_
        refine wpAny_bind (wpAny_runValue (?_))
        have lt : l < s.heap.objs.size := Heap.lt_size gob
        have h3 : A.in1.in1.in1.handled = none := by simp [hh]
        have z1 : (s.heap.push (eset w)).objs.size = s.heap.objs.size + 1 := Heap.size_push ..
        have nI : l ≠ (s.heap.push (eset w)).objs.size := by rw [z1]; exact Nat.ne_of_lt (Nat.lt_succ_of_lt lt)
        have nS : s.heap.objs.size ∉ [(s.heap.push (eset w)).objs.size, l] := by
          rw [z1]
          intro z
          rcases List.mem_cons.mp z with z | z
          · exact Nat.ne_of_lt (Nat.lt_succ_self _) z
          · exact Nat.ne_of_gt lt (List.mem_singleton.mp z)
        have val : ∀ (i : Nat) (v : Value), its[i]? = some v → ∃ k t, ns[i]? = some k ∧ v = .int k t := fun i v hv => by
          have hi : i < ns.length := by rw [← size]; exact (Array.getElem?_eq_some_iff.mp hv).1
          obtain ⟨t, e⟩ := PyProof.Rows.IntsAre.int_at hit i v (by rw [Array.getElem?_toList]; exact hv)
          exact ⟨ns[i], t, List.getElem?_eq_getElem hi, by rw [e, List.getD_eq_getElem?_getD, List.getElem?_eq_getElem hi]; rfl⟩
        refine set_update_ints ((Walks.list h3 _ l nI its).toS) s.heap.objs.size nS ns size room val (its.size - 0) 0 _ (by omega) (Nat.zero_le _) ⟨⟨_, Heap.get?_push_size _ rfl, rfl, rfl⟩, (li.push _)⟩ ?a0 ?a1
        case a0 =>
          have g0 : ((s.heap.push (eset w)).push { cls := .type "list_iterator", data := .fields #[.ref l, .int 0 0] }).get? s.heap.objs.size = some (eset w) := Heap.get?_push_of_some _ gS
          exact ⟨0, Nat.le_refl 0, setR_new_at g0⟩
        case a1 =>
          intro t' c' mv hc' hS'
          obtain ⟨g, g2, d', tk', os'⟩ := t'
          have eg : g2 = s.gens := mv.gens
          have ed : d' = s.drawn := mv.drawn
          have eo : os' = s.os := mv.os
          subst eg ed eo
          show wpAny _ _ _ _ _ _
          refine wpAny_pure ?_
          show wpAny _ _ (ret Value.none) _ _ _
          rw [size] at hc'
          refine wpAny_pure ⟨rfl, g, tk', c', rfl, hS', hc', fun b o e => ?_⟩
          have b0 : b < s.heap.objs.size := Heap.lt_size e
          refine mv.heap b o (fun z => ?_) (Heap.get?_push_of_some _ (Heap.get?_push_of_some _ e))
          rcases List.mem_cons.mp z with z | z
          · exact Nat.ne_of_lt b0 z
          · have y := List.mem_singleton.mp z
            rw [z1] at y
            exact Nat.ne_of_lt (Nat.lt_succ_of_lt b0) y
      · cases r₂ with
        | error e => exact hr₂
        | ok fl₂ =>
          cases fl₂ with
          | ret r =>
            obtain ⟨rfl, g, tk, c', rfl, hS', hc', hk'⟩ := hr₂
            repeat (any_goals first | assumption | wp_step)
            exact go _ _ _ hS' hc' hk'
          | _ => exact hr₂.elim
    | _ => exact hr.elim
end
/-! ### as expressions -/
section
variable {X : Cx} {E : XK} {e : Expr} {te : TE} {p p2 q pos : Pos}
def tSrtSet (K : PySem.W.Frag) (te : TE) : TE := fun σ H Q => te σ H fun x H1 => ∃ (l : Addr) (ns : List Int), x = .ref l ∧ SqL K H1 l (ns.map V.int) ∧ ns.length < 64 ∧ ∀ (us : List Int) (p : Addr), us.Pairwise (· < ·) → (∀ k : Int, k ∈ us ↔ k ∈ ns) → H1 p = none → Q (.ref p) (upd H1 p (.lst (us.map V.int)))
theorem pe_srtSet (hc : X.calm = true) (hg : Gl X "sorted") (hm : X.mg "sorted" = none) (hg2 : Gl X "set") (hm2 : X.mg "set" = none) (he : PE X e te)
    (na : starEach [e] X.env = (false, eval e X.env) :: starEach [] X.env := by rfl) : PE X (.Call (.Name "sorted" p) [.Call (.Name "set" p2) [e] [] q] [] pos) (tSrtSet X.K te) := by
  refine ⟨fun pins s σ H Q I h => ?_⟩
  refine Call_ (ld_blt I hg hm PyProof.Rows.boot_sorted ?_)
  refine PyProof.Rows.callWith_builtin1 (PyProof.Rows.args_cons ?_ rfl) rfl rfl
  refine Call_ (ld_blt I hg2 hm2 PyProof.Rows.boot_set ?_)
  refine PyProof.Rows.callWith_type1 (PyProof.Rows.args_cons (thn (he.run pins s σ H _ I h) fun v t ⟨x, H1, J, r1, q1⟩ => PyProof.Rows.args_nil ?_) na) na rfl
  obtain ⟨l, ns, rfl, hq, few, q1⟩ := q1
  cases r1
  obtain ⟨its, r, pl, hz⟩ := J.list hq
  refine set_of_ints ns (J.ok.hd hc) pl.isList (by simpa using r.ints) (by unfold scanBound; omega) fun g tk c hS hl hk => ?_
  refine PyProof.Rows.args_nil ?_
  have J2 : Inv X pins σ H1 { t with heap := g, toks := tk } := J.kept hk
  refine sorted_set hS (J2.ok.hd hc) (by omega) fun t' a out c2 us k y o hp hg' hi hs hm' hl' => ?_
  have few2 : (us.map V.int).length ≤ sizeLine := by rw [List.length_map, hl', sizeLine_eq]; omega
  have hn : H1 a = none := J2.hok.fresh hp
  have J3 : Inv X pins σ (upd H1 a (.lst (us.map V.int))) { ({ t with heap := g, toks := tk } : Shared) with heap := t'.heap, gens := t'.gens, drawn := t'.drawn, toks := t'.toks } :=
    J2.call (ch := []) (Un.laid k hp hn) (J2.hok.laid k hp ⟨few2, out.toList, c2, vals_of_ints hi, hg'⟩) (by rw [y]; exact J2.bare) (fun _ z => nomatch z)
  have same : t' = { ({ t with heap := g, toks := tk } : Shared) with heap := t'.heap, gens := t'.gens, drawn := t'.drawn, toks := t'.toks } := by
    cases t'
    cases t
    cases o
    rfl
  rw [same]
  exact ⟨.ref a, _, J3, rfl, q1 us a hs (fun k => (hm' k).trans (by simp)) hn⟩
/-- the members of ns in order, each once -/
def Uq (ns us : List Int) : Prop := us.Pairwise (· < ·) ∧ ∀ k, k ∈ us ↔ k ∈ ns
theorem uq_one : ∀ {us vs : List Int}, us.Pairwise (· < ·) → vs.Pairwise (· < ·) → (∀ k, k ∈ us ↔ k ∈ vs) → us = vs
  | [], [], _, _, _ => rfl
  | [], v :: vs, _, _, h => absurd ((h v).mpr (List.mem_cons_self ..)) (by simp)
  | u :: us, [], _, _, h => absurd ((h u).mp (List.mem_cons_self ..)) (by simp)
  | u :: us, v :: vs, h1, h2, h => by
    have a := List.pairwise_cons.mp h1
    have b := List.pairwise_cons.mp h2
    have e : u = v := by
      rcases List.mem_cons.mp ((h u).mp (List.mem_cons_self ..)) with z | z
      · exact z
      · rcases List.mem_cons.mp ((h v).mpr (List.mem_cons_self ..)) with y | y
        · exact y.symm
        · have := b.1 u z; have := a.1 v y; omega
    subst e
    rw [uq_one a.2 b.2 fun k => ?_]
    have hk := h k
    rw [List.mem_cons, List.mem_cons] at hk
    constructor
    · intro z
      rcases hk.mp (.inr z) with y | y
      · have := a.1 k z; omega
      · exact y
    · intro z
      rcases hk.mpr (.inr z) with y | y
      · have := b.1 k z; omega
      · exact y
open scoped Classical in
noncomputable def uqI (ns : List Int) : List Int := if h : ∃ us, Uq ns us then h.choose else []
theorem uqI_eq {ns us : List Int} (h : Uq ns us) : uqI ns = us := by
  have hh : ∃ us, Uq ns us := ⟨us, h⟩
  unfold uqI
  rw [dif_pos hh]
  exact uq_one hh.choose_spec.1 h.1 fun k => (hh.choose_spec.2 k).trans (h.2 k).symm
/-- one is there -/
def insU (x : Int) : List Int → List Int
  | [] => [x]
  | y :: ys => if x < y then x :: y :: ys else if x = y then y :: ys else y :: insU x ys
theorem insU_mem (x : Int) : ∀ (ys : List Int) (k : Int), k ∈ insU x ys ↔ k = x ∨ k ∈ ys
  | [], k => by simp [insU]
  | y :: ys, k => by
    unfold insU
    split
    · simp
    · split
      · rename_i e; subst e; simp
      · rw [List.mem_cons, insU_mem x ys, List.mem_cons]
        constructor
        · rintro (h | h | h)
          · exact .inr (.inl h)
          · exact .inl h
          · exact .inr (.inr h)
        · rintro (h | h | h)
          · exact .inr (.inl h)
          · exact .inl h
          · exact .inr (.inr h)
theorem insU_srt (x : Int) : ∀ (ys : List Int), ys.Pairwise (· < ·) → (insU x ys).Pairwise (· < ·)
  | [], _ => by simp [insU]
  | y :: ys, h => by
    have a := List.pairwise_cons.mp h
    unfold insU
    split
    · rename_i lt
      refine List.pairwise_cons.mpr ⟨fun z hz => ?_, h⟩
      rcases List.mem_cons.mp hz with e | e
      · omega
      · have := a.1 z e; omega
    · split
      · exact h
      · rename_i n1 n2
        refine List.pairwise_cons.mpr ⟨fun z hz => ?_, insU_srt x ys a.2⟩
        rcases (insU_mem x ys z).mp hz with e | e
        · omega
        · exact a.1 z e
theorem uq_ex : ∀ ns : List Int, ∃ us, Uq ns us
  | [] => ⟨[], List.Pairwise.nil, fun k => Iff.rfl⟩
  | x :: ns => by
    obtain ⟨us, h1, h2⟩ := uq_ex ns
    exact ⟨insU x us, insU_srt x us h1, fun k => by rw [insU_mem, List.mem_cons, h2]⟩
theorem uqI_uq (ns : List Int) : Uq ns (uqI ns) := by
  obtain ⟨us, h⟩ := uq_ex ns
  rw [uqI_eq h]; exact h
/-- sorted(set(xs)) -/
noncomputable def srtSetD (d : D) (A : AH) : Res D := match rdL A d with
  | some xs => match intsOf xs with
    | some ns => if ns.length < 64 then alloc (.lst ((uqI ns).map D.int)) A else .bad
    | none => .bad
  | none => .bad
theorem ints_rel {K : PySem.W.Frag} {ρ : List Addr} {H : Hp} : ∀ us : List Int, RpL K ρ H (us.map D.int) (us.map V.int)
  | [] => rfl
  | u :: us => ⟨_, _, rfl, rfl, ints_rel us⟩
theorem ae_srtSet {f : FE} (hc : X.calm = true) (hg : Gl X "sorted") (hm : X.mg "sorted" = none) (hg2 : Gl X "set") (hm2 : X.mg "set" = none) (he : AE X E e f)
    (na : starEach [e] X.env = (false, eval e X.env) :: starEach [] X.env := by rfl) : AE X E (.Call (.Name "sorted" p) [.Call (.Name "set" p2) [e] [] q] [] pos) (fUn srtSetD f) := pe_mono (pe_srtSet hc hg hm hg2 hm2 he na) fun σ H Q h => by
  obtain ⟨ρ, s, A, hs, R, h⟩ := h
  refine ⟨ρ, s, A, hs, R, (Out.bind h).mono fun x H1 ⟨ρ1, d, A1, _, e1, R1, r1, h1⟩ => ?_⟩
  unfold srtSetD at h1
  split at h1
  · rename_i xs e2
    obtain ⟨a, us, rfl, q1, q2⟩ := rdL_ok R1 r1 e2
    split at h1
    · rename_i ns e3
      split at h1
      · rename_i few
        refine ⟨a, ns, rfl, by rw [← ints_ok q2 e3]; exact q1, few, fun us p h2 h3 hp => ?_⟩
        rw [uqI_eq ⟨h2, h3⟩] at h1
        exact new_lst R1 (ints_rel us) h1 p hp
      · exact h1.elim
    · exact h1.elim
  · exact h1.elim
end
/-! ### sorted -/
section
variable {X : Cx} {E : XK}
def srtI (ns : List Int) : List Int := ns.mergeSort (fun a b => decide (a ≤ b))
noncomputable def sortedD : FM
  | [d], A => match rdL A d with
    | some xs => match intsOf xs with
      | some ns => alloc (.lst ((srtI ns).map D.int)) A
      | none => .bad
    | none => .bad
  | _, _ => .bad
theorem srt_one : ∀ {us vs : List Int}, us.Pairwise (· ≤ ·) → vs.Pairwise (· ≤ ·) → us.Perm vs → us = vs
  | [], vs, _, _, h => (List.nil_perm.mp h).symm
  | u :: us, [], _, _, h => absurd h.length_eq (by simp)
  | u :: us, v :: vs, h1, h2, h => by
    have a := List.pairwise_cons.mp h1
    have b := List.pairwise_cons.mp h2
    have e : u = v := by
      have x1 : u ≤ v := by
        rcases List.mem_cons.mp (h.mem_iff.mpr (List.mem_cons_self ..) : v ∈ u :: us) with z | z
        · omega
        · exact a.1 v z
      have x2 : v ≤ u := by
        rcases List.mem_cons.mp (h.mem_iff.mp (List.mem_cons_self ..) : u ∈ v :: vs) with z | z
        · omega
        · exact b.1 u z
      omega
    subst e
    rw [srt_one a.2 b.2 ((List.perm_cons u).mp h)]
theorem srtI_perm (ns : List Int) : (srtI ns).Perm ns := List.mergeSort_perm ..
theorem srtI_srt (ns : List Int) : (srtI ns).Pairwise (· ≤ ·) := by
  have := List.pairwise_mergeSort (le := fun a b : Int => decide (a ≤ b)) (fun a b c h1 h2 => by simp at *; omega) (fun a b => by simp; omega) ns
  exact this.imp fun h => by simpa using h
theorem acall_sorted : ACall X E (.builtin "sorted") sortedD := callR_mono cr_sortedI fun xs H Q h => by
  obtain ⟨ρ, A, ds, R, r, h⟩ := h
  unfold sortedD at h
  split at h
  · obtain ⟨x, rfl, r1⟩ := r.one_inv
    split at h
    · rename_i ys e1
      obtain ⟨a, us, rfl, q1, q2⟩ := rdL_ok R r1 e1
      split at h
      · rename_i is e2
        refine ⟨a, is, rfl, by rw [← ints_ok q2 e2]; exact q1, fun us p h2 h3 hp => ?_⟩
        rw [srt_one h3 (srtI_srt is) (h2.trans (srtI_perm is).symm)]
        exact new_lst R (ints_rel _) h p hp
      · exact h.elim
    · exact h.elim
  · exact h.elim
end
end Ab

namespace Ab
open PySem PySem.Spec PyProof.Rows L2
open scoped Classical

/-! ## reasoning about the functions: what an outcome satisfies -/
def Sat {α : Type} (r : Res α) (P : α → AH → Prop) : Prop := match r with
  | .ok a A => P a A
  | _ => False
section
variable {α β : Type} {r : Res α} {k : α → AH → Res β} {P Q : α → AH → Prop} {R : β → AH → Prop} {a : α} {A : AH} {c : Prop} {i : Decidable c}
theorem sat_ok : Sat (.ok a A) P = P a A := rfl
theorem sat_bad : Sat (.bad : Res α) P = False := rfl
theorem sat_bind : Sat (r.bind k) R = Sat r fun a A => Sat (k a A) R := by cases r <;> rfl
theorem sat_ite {x y : Res α} : Sat (if c then x else y) P = if c then Sat x P else Sat y P := by split <;> rfl
theorem Sat.imp (h : Sat r P) (q : ∀ a A, P a A → Q a A) : Sat r Q := by
  cases r with
  | ok a A => exact q a A h
  | _ => exact h
theorem Sat.eq (h : Sat r P) : ∃ a A, r = .ok a A ∧ P a A := by
  cases r with
  | ok a A => exact ⟨a, A, rfl, h⟩
  | _ => exact h.elim
theorem sat_of {a : α} {A : AH} (e : r = .ok a A) (h : P a A) : Sat r P := by rw [e]; exact h
theorem bind_ok : (Res.ok a A).bind k = k a A := rfl
theorem bind_bad : (Res.bad : Res α).bind k = .bad := rfl
end
/-- behind a statement -/
def thn_ (g : FS) (P : Fl → AH → Prop) : Fl → AH → Prop
  | .nx s, A => Sat (g s A) P
  | fl, A => P fl A
/-- at a body's end -/
def fin_ (P : D → AH → Prop) : Fl → AH → Prop
  | .rt d, A => P d A
  | .nx _, A => P .non A
  | _, _ => False
section
variable {f g h : FE} {fs : FA} {p q : FS} {c t u : FT} {gg : FG} {gs : FGs} {s : ASt} {A : AH} {P : Fl → AH → Prop} {Q : D → AH → Prop} {i n np : Nat} {d : D} {ds : List D} {m : FM} {go : D → D → AH → Res D} {gu : D → AH → Res D}
theorem ev_seq : Sat (fSeq p q s A) P = Sat (p s A) (thn_ q P) := by
  unfold fSeq
  cases p s A with
  | ok fl A1 => cases fl <;> rfl
  | _ => rfl
theorem thn_nx : thn_ q P (.nx s) A = Sat (q s A) P := rfl
theorem thn_rt : thn_ q P (.rt d) A = P (.rt d) A := rfl
theorem thn_bk : thn_ q P (.bk s) A = P (.bk s) A := rfl
theorem thn_ct : thn_ q P (.ct s) A = P (.ct s) A := rfl
theorem fin_rt : fin_ Q (.rt d) A = Q d A := rfl
theorem fin_nx : fin_ Q (.nx s) A = Q .non A := rfl
theorem ev_finish {r : Res Fl} : Sat (finish r) Q = Sat r (fin_ Q) := by
  unfold finish
  cases r with
  | ok fl A1 => cases fl <;> rfl
  | _ => rfl
theorem ev_body (e : ds.length = np) : Sat (body np n p ds A) Q = Sat (p (args n ds) A) (fin_ Q) := by
  unfold body
  rw [if_pos e, ev_finish]
theorem sat_body (e : ds.length = np) (h : Sat (p (args n ds) A) (fin_ Q)) : Sat (body np n p ds A) Q := by rw [ev_body e]; exact h
theorem sat_seq (h : Sat (p s A) (thn_ q P)) : Sat (fSeq p q s A) P := by rw [ev_seq]; exact h
theorem sat_ifS {b : Bool} (hc : c s A = .ok b A) (hp : b = true → Sat (p s A) P) (hq : b = false → Sat (q s A) P) : Sat (fIfS c p q s A) P := by
  unfold fIfS
  rw [hc, bind_ok]
  cases b with
  | true => exact hp rfl
  | false => exact hq rfl
theorem ev_v (e : s[i]? = some (some d)) : fV i s A = .ok d A := by unfold fV; rw [e]
theorem ev_c : fC d s A = .ok d A := rfl
theorem ev_op : fOp go f g s A = (f s A).bind fun x A1 => (g s A1).bind fun y A2 => go x y A2 := rfl
theorem ev_un : fUn gu f s A = (f s A).bind fun x A1 => gu x A1 := rfl
theorem ev_chain {go' : D → D → AH → Res D} : fChain go go' f g h s A = (f s A).bind fun x A1 => (g s A1).bind fun y A2 => (go x y A2).bind fun z A3 => match z with
  | .bl true => (h s A3).bind fun w A4 => go' y w A4
  | .bl false => .ok (.bl false) A3
  | _ => .bad := rfl
theorem ev_nil : fNil s A = .ok [] A := rfl
theorem ev_cons : fCons f fs s A = (f s A).bind fun x A1 => (fs s A1).bind fun xs A2 => .ok (x :: xs) A2 := rfl
theorem ev_tup : fTup fs s A = (fs s A).bind tupD := rfl
theorem ev_lst : fLst fs s A = (fs s A).bind lstD := rfl
theorem ev_call : fCall m fs s A = (fs s A).bind fun ds A1 => m ds A1 := rfl
theorem ev_own : fOwn n m fs s A = (fs s A).bind fun ds A1 => if ds.length = n then m ds A1 else .bad := rfl
theorem ev_sl {lo hi : FO} : fSl f lo hi s A = (f s A).bind fun d A1 => (lo s A1).bind fun l A2 => (hi s A2).bind fun h A3 => slD d l h A3 := rfl
theorem ev_no : fNo s A = .ok none A := rfl
theorem ev_part : fPart f s A = (f s A).bind fun d A1 => match d with
  | .int i => .ok (some i) A1
  | _ => .bad := rfl
theorem ev_and : fAnd f g s A = (f s A).bind fun d A1 => (tru d A1).bind fun b A2 => if b = true then g s A2 else .ok d A2 := rfl
theorem ev_or : fOr f g s A = (f s A).bind fun d A1 => (tru d A1).bind fun b A2 => if b = true then .ok d A2 else g s A2 := rfl
theorem ev_not : fNot f s A = (f s A).bind fun d A1 => (tru d A1).bind fun b A2 => .ok (.bl (!b)) A2 := rfl
theorem ev_if : fIf c f g s A = (c s A).bind fun b A1 => if b = true then f s A1 else g s A1 := rfl
theorem ev_t : fT f s A = (f s A).bind tru := rfl
theorem ev_tb : fTB f s A = (f s A).bind fun d A1 => match d with
  | .bl b => .ok b A1
  | _ => .bad := rfl
theorem ev_tnot : fTNot t s A = (t s A).bind fun b A1 => .ok (!b) A1 := rfl
theorem ev_tand : fTAnd t u s A = (t s A).bind fun b A1 => if b = true then u s A1 else .ok false A1 := rfl
theorem ev_tor : fTOr t u s A = (t s A).bind fun b A1 => if b = true then .ok true A1 else u s A1 := rfl
theorem ev_mt {T : String} {gm : D → FM} : fMt T gm f fs s A = (f s A).bind fun d A1 => if isTy T d A1 = true then (fs s A1).bind fun ds A2 => gm d ds A2 else .bad := rfl
theorem ev_mt0 {T : String} {gm : D → FM} : fMt0 T gm f s A = (f s A).bind fun d A1 => if isTy T d A1 = true then gm d [] A1 else .bad := rfl
theorem ev_rgd {k : Int → Int → AH → Res D} : rgD f g k s A = (f s A).bind fun d A1 => (g s A1).bind fun e A2 => match d, e with
  | .int i, .int j => k i j A2
  | _, _ => .bad := rfl
theorem ev_set : fSet f i s A = (f s A).bind fun d A1 => .ok (.nx (s.set i (some d))) A1 := rfl
theorem ev_asg : fAsg f gg s A = (f s A).bind fun d A1 => (gg d s A1).bind fun s' A2 => .ok (.nx s') A2 := rfl
theorem ev_ret : fRet f s A = (f s A).bind fun d A1 => .ok (.rt d) A1 := rfl
theorem ev_retN : fRetN s A = .ok (.rt .non) A := rfl
theorem ev_ex : fEx f s A = (f s A).bind fun _ A1 => .ok (.nx s) A1 := rfl
theorem ev_pass : fPass s A = .ok (.nx s) A := rfl
theorem ev_brk : fBrk s A = .ok (.bk s) A := rfl
theorem ev_cont : fCont s A = .ok (.ct s) A := rfl
theorem ev_ifS : fIfS c p q s A = (c s A).bind fun b A1 => if b = true then p s A1 else q s A1 := rfl
theorem ev_aug {x : D} (e : s[i]? = some (some x)) : fAug i f go s A = (f s A).bind fun y A1 => (go x y A1).bind fun z A2 => .ok (.nx (s.set i (some z))) A2 := by unfold fAug; rw [e]
theorem ev_gn : gN i d s A = .ok (s.set i (some d)) A := rfl
theorem ev_gtp : gTp n gs (.tup ds) s A = if ds.length = n then gs ds s A else .bad := rfl
theorem ev_gnl : gNl [] s A = .ok s A := rfl
theorem ev_gcs : gCs gg gs (d :: ds) s A = (gg d s A).bind fun s1 A1 => gs ds s1 A1 := rfl
theorem ev_gsb : gSb f g d s A = (f s A).bind fun o A1 => (g s A1).bind fun i A2 => (stD o i d A2).bind fun _ A3 => .ok s A3 := rfl
theorem ev_for {src : FI} : fFor src gg p s A = (src s A).bind fun S A1 => loopD S.ok gg p S.items s A1 := rfl
theorem ev_rg1 : fRg1 f s A = (f s A).bind fun d A1 => match d with
  | .int j => if InRg j then .ok ⟨rngL 0 j.toNat, yes⟩ A1 else .bad
  | _ => .bad := rfl
theorem ev_rg2 : fRg2 f g s A = (f s A).bind fun d A1 => (g s A1).bind fun e A2 => match d, e with
  | .int i, .int j => if InRg i ∧ InRg j then .ok ⟨rngL i (j - i).toNat, yes⟩ A2 else .bad
  | _, _ => .bad := rfl
theorem inRg_nat {n : Nat} (h : n ≤ 1000000000) : InRg (n : Int) := ⟨by omega, by omega⟩
theorem inRg_of {n : Int} (h : -1000000000000 ≤ n) (h' : n ≤ 1000000000000) : InRg n := ⟨by omega, by omega⟩
theorem ev_its : fItS f s A = (f s A).bind iSeq := rfl
theorem ev_enum : fEnum f s A = (f s A).bind fun d A1 => match rdL A1 d with
  | some ds => .ok ⟨enumL 0 ds, fun A' => rdL A' d = some ds⟩ A1
  | none => .bad := rfl
theorem ev_lc {src : FI} {vs : List Nat} : fLc src gg t f vs s A = (src s A).bind fun S A1 => loopC S.ok gg t f A1.length (wipeA s vs) S.items (A1 ++ [.lst []]) := rfl
theorem ev_yes : fYes s A = .ok true A := rfl
/-! ### operators on known data -/
theorem ev_add_ii {i j : Int} : addD (.int i) (.int j) A = .ok (.int (i + j)) A := rfl
theorem ev_add_ss {x y : Str} (h : x.length + y.length ≤ sizeLine) : addD (.str x) (.str y) A = .ok (.str (x ++ y)) A := if_pos h
theorem ev_add_tt {x y : List D} (h : x.length + y.length ≤ sizeLine) : addD (.tup x) (.tup y) A = .ok (.tup (x ++ y)) A := if_pos h
theorem ev_add_rr {i j : Nat} {xs ys : List D} (h : muL A (.ref i) = some xs) (h' : muL A (.ref j) = some ys) (z : xs.length + ys.length ≤ sizeLine) : addD (.ref i) (.ref j) A = .ok (.ref A.length) (A ++ [.lst (xs ++ ys)]) := by
  show (match muL A (.ref i), muL A (.ref j) with
    | some xs, some ys => if xs.length + ys.length ≤ sizeLine then alloc (.lst (xs ++ ys)) A else .bad
    | _, _ => .bad) = _
  rw [h, h']
  exact if_pos z
theorem ev_sub {i j : Int} : subD (.int i) (.int j) A = .ok (.int (i - j)) A := rfl
theorem ev_mul {i j : Int} (h : mulOk i j) : mulD (.int i) (.int j) A = .ok (.int (i * j)) A := if_pos h
theorem ev_mod {i j : Int} (h : 0 < j) : modD (.int i) (.int j) A = .ok (.int (i % j)) A := if_pos h
theorem ev_fdiv {i j : Int} (h : CDivW i j) : fdivD (.int i) (.int j) A = .ok (.int (i / j)) A := if_pos h
theorem ev_pow {i j : Int} (h : CPow i j) : powD (.int i) (.int j) A = .ok (.int (i ^ j.toNat)) A := if_pos h
theorem ev_neg {i : Int} : negD (.int i) A = .ok (.int (-i)) A := rfl
theorem ev_lt {i j : Int} : ltD (.int i) (.int j) A = .ok (.bl (decide (i < j))) A := rfl
theorem ev_le {i j : Int} : leD (.int i) (.int j) A = .ok (.bl (decide (i ≤ j))) A := rfl
theorem ev_gt {i j : Int} : gtD (.int i) (.int j) A = .ok (.bl (decide (j < i))) A := rfl
theorem ev_ge {i j : Int} : geD (.int i) (.int j) A = .ok (.bl (decide (j ≤ i))) A := rfl
theorem ev_eq_ii {i j : Int} : eqD (.int i) (.int j) A = .ok (.bl (decide (i = j))) A := rfl
theorem ev_eq_ss {i j : Str} : eqD (.str i) (.str j) A = .ok (.bl (decide (i = j))) A := rfl
theorem ev_eq_bb {i j : Bool} : eqD (.bl i) (.bl j) A = .ok (.bl (decide (i = j))) A := rfl
theorem ev_ne_ii {i j : Int} : neD (.int i) (.int j) A = .ok (.bl (!decide (i = j))) A := rfl
theorem ev_ne_ss {i j : Str} : neD (.str i) (.str j) A = .ok (.bl (!decide (i = j))) A := rfl
theorem ev_ne_bb {i j : Bool} : neD (.bl i) (.bl j) A = .ok (.bl (!decide (i = j))) A := rfl
theorem ev_is_n : isD d .non A = .ok (.bl (isNon d)) A := by cases d <;> rfl
theorem ev_isnt_n : isntD d .non A = .ok (.bl (!isNon d)) A := by cases d <;> rfl
theorem ev_int_i {i : Int} : intD [.int i] A = .ok (.int i) A := rfl
theorem ev_int_b {i : Bool} : intD [.bl i] A = .ok (.int (if i then 1 else 0)) A := rfl
theorem ev_min_ii {i j : Int} : minD [.int i, .int j] A = .ok (.int (if j < i then j else i)) A := rfl
theorem ev_max_ii {i j : Int} : maxD [.int i, .int j] A = .ok (.int (if j > i then j else i)) A := rfl
theorem ev_abs {i : Int} : absD [.int i] A = .ok (.int (if i < 0 then -i else i)) A := rfl
theorem ev_tup_of : Ab.tupOf [D.tup ds] A = .ok (.tup ds) A := rfl
theorem ev_tup_ofL (h : rdL A (.ref n) = some ds) : Ab.tupOf [D.ref n] A = .ok (.tup ds) A := by
  show (match rdL A (.ref n) with
    | some xs => Res.ok (D.tup xs) A
    | none => .bad) = _
  rw [h]
theorem ev_lst_ofT : lstOf [.tup ds] A = .ok (.ref A.length) (A ++ [.lst ds]) := rfl
theorem ev_lst_ofL (h : rdL A (.ref n) = some ds) : lstOf [.ref n] A = .ok (.ref A.length) (A ++ [.lst ds]) := by
  show (match rdS A (.ref n) with
    | some xs => alloc (.lst xs) A
    | none => _) = _
  rw [show rdS A (.ref n) = some ds from h]
  rfl
theorem ev_len_t : lenD [.tup ds] A = .ok (.int ds.length) A := rfl
theorem ev_len_s {x : Str} (h : x.length ≤ sizeLine) : lenD [.str x] A = .ok (.int x.length) A := if_pos h
theorem ev_len_r (h : rdL A (.ref n) = some ds) : lenD [.ref n] A = .ok (.int ds.length) A := by
  show (match rdS A (.ref n) with
    | some xs => Res.ok (D.int xs.length) A
    | none => _) = _
  rw [show rdS A (.ref n) = some ds from h]
theorem atI_pos {α : Type} {xs : List α} {i : Int} (h : 0 ≤ i) : L2.atI xs i = xs[i.toNat]? := by
  unfold L2.atI ixN
  rw [if_pos h]
  by_cases hl : i < xs.length
  · rw [if_pos hl]; rfl
  · rw [if_neg hl]
    show none = _
    rw [List.getElem?_eq_none (by omega)]
theorem ev_ix_t {k : Int} {x : D} (h : L2.atI ds k = some x) : ixD (.tup ds) (D.int k) A = .ok x A := by
  show ixSeq ds k A = _
  unfold ixSeq
  rw [h]
theorem ev_ix_r {k : Int} {x : D} (h : rdL A (.ref n) = some ds) (h2 : L2.atI ds k = some x) : ixD (.ref n) (.int k) A = .ok x A := by
  show (match rdS A (.ref n) with
    | some xs => ixSeq xs k A
    | none => _) = _
  rw [show rdS A (.ref n) = some ds from h]
  show ixSeq ds k A = _
  unfold ixSeq
  rw [h2]
theorem ev_ix_s {z : Str} {k : Int} {c : Nat} (h : z.length ≤ sizeLine) (h2 : L2.atI z.cps.toList k = some c) : ixD (.str z) (.int k) A = .ok (.str ⟨#[c]⟩) A := by
  show (if z.length ≤ sizeLine then (match L2.atI z.cps.toList k with | some c => Res.ok (D.str ⟨#[c]⟩) A | none => .bad) else .bad) = _
  rw [if_pos h, h2]
theorem ev_st_l {xs : List D} {k : Int} {j : Nat} (h : A[n]? = some (.lst xs)) (h2 : ixN xs.length k = some j) : stD (.ref n) (.int k) d A = .ok () (A.set n (.lst (xs.set j d))) := by
  show (match A[n]? with
    | some (.lst xs) => _
    | some (.dic kvs) => _
    | _ => _) = _
  rw [h]
  show (match ixN xs.length k with
    | some j => Res.ok () (A.set n (.lst (xs.set j d)))
    | none => .bad) = _
  rw [h2]
theorem rdL_l {xs : List D} (h : A[n]? = some (.lst xs)) : rdL A (.ref n) = some xs := by
  show (match A[n]? with
    | some (.lst xs) => some xs
    | some (.frz xs) => some xs
    | _ => none) = _
  rw [h]
theorem rdL_f {xs : List D} (h : A[n]? = some (.frz xs)) : rdL A (.ref n) = some xs := by
  show (match A[n]? with
    | some (.lst xs) => some xs
    | some (.frz xs) => some xs
    | _ => none) = _
  rw [h]
theorem muL_l {xs : List D} (h : A[n]? = some (.lst xs)) : muL A (.ref n) = some xs := by
  show (match A[n]? with
    | some (.lst xs) => some xs
    | _ => none) = _
  rw [h]
theorem mulOk_l {i j : Int} (h1 : -(2 ^ 64) < i) (h2 : i < 2 ^ 64) : mulOk i j := .inl (.inl ⟨h1, h2⟩)
theorem mulOk_r {i j : Int} (h1 : -(2 ^ 64) < j) (h2 : j < 2 ^ 64) : mulOk i j := .inl (.inr ⟨h1, h2⟩)
theorem divOk {i j : Int} (h1 : 0 < j) (h2 : j < 2 ^ 200) : CDivW i j := wide_div (b := 200) h1 (by omega) (by decide) (by decide)
theorem powOk {i j : Int} (h1 : 0 ≤ j) (h2 : j ≤ 1000000) (h3 : i.natAbs < 2 ^ 64) : CPow i j := ⟨h1, h2, h3⟩
theorem ev_alloc {o : AO} : Ab.alloc o A = .ok (.ref A.length) (A ++ [o]) := rfl
theorem ev_tupD (h : ds.length ≤ 10000) : tupD ds A = .ok (.tup ds) A := if_pos (Nat.le_trans h (by decide))
theorem ev_lstD (h : ds.length ≤ 10000) : lstD ds A = .ok (.ref A.length) (A ++ [.lst ds]) := if_pos (Nat.le_trans h (by decide))
theorem sl_le {n : Nat} (h : n ≤ 16777216) : n ≤ sizeLine := h
theorem ev_tru_b {b : Bool} : tru (.bl b) A = .ok b A := rfl
end

/-! ### isinstance -/
theorem isi_tuple_non  {A : AH} : isiD "tuple" (.non) A = .ok (.bl false) A := by
  show (match kitB "NoneType" "tuple" with | some b => Res.ok (D.bl b) A | none => .bad) = _
  rw [show kitB "NoneType" "tuple" = some false by decide +kernel]
theorem isi_tuple_bl {b : Bool} {A : AH} : isiD "tuple" (.bl b) A = .ok (.bl false) A := by
  show (match kitB "bool" "tuple" with | some b => Res.ok (D.bl b) A | none => .bad) = _
  rw [show kitB "bool" "tuple" = some false by decide +kernel]
theorem isi_tuple_int {i : Int} {A : AH} : isiD "tuple" (.int i) A = .ok (.bl false) A := by
  show (match kitB "int" "tuple" with | some b => Res.ok (D.bl b) A | none => .bad) = _
  rw [show kitB "int" "tuple" = some false by decide +kernel]
theorem isi_tuple_str {x : Str} {A : AH} : isiD "tuple" (.str x) A = .ok (.bl false) A := by
  show (match kitB "str" "tuple" with | some b => Res.ok (D.bl b) A | none => .bad) = _
  rw [show kitB "str" "tuple" = some false by decide +kernel]
theorem isi_tuple_tup {ds : List D} {A : AH} : isiD "tuple" (.tup ds) A = .ok (.bl true) A := by
  show (match kitB "tuple" "tuple" with | some b => Res.ok (D.bl b) A | none => .bad) = _
  rw [show kitB "tuple" "tuple" = some true by decide +kernel]
theorem isi_tuple_l {A : AH} {n : Nat} {xs : List D} (h : A[n]? = some (.lst xs)) : isiD "tuple" (.ref n) A = .ok (.bl false) A := by
  unfold isiD
  rw [show tyN A (.ref n) = some "list" by simp only [tyN, h]]
  show (match kitB "list" "tuple" with | some b => Res.ok (D.bl b) A | none => .bad) = _
  rw [show kitB "list" "tuple" = some false by decide +kernel]
theorem isi_tuple_f {A : AH} {n : Nat} {xs : List D} (h : A[n]? = some (.frz xs)) : isiD "tuple" (.ref n) A = .ok (.bl false) A := by
  unfold isiD
  rw [show tyN A (.ref n) = some "list" by simp only [tyN, h]]
  show (match kitB "list" "tuple" with | some b => Res.ok (D.bl b) A | none => .bad) = _
  rw [show kitB "list" "tuple" = some false by decide +kernel]
theorem isi_list_non  {A : AH} : isiD "list" (.non) A = .ok (.bl false) A := by
  show (match kitB "NoneType" "list" with | some b => Res.ok (D.bl b) A | none => .bad) = _
  rw [show kitB "NoneType" "list" = some false by decide +kernel]
theorem isi_list_bl {b : Bool} {A : AH} : isiD "list" (.bl b) A = .ok (.bl false) A := by
  show (match kitB "bool" "list" with | some b => Res.ok (D.bl b) A | none => .bad) = _
  rw [show kitB "bool" "list" = some false by decide +kernel]
theorem isi_list_int {i : Int} {A : AH} : isiD "list" (.int i) A = .ok (.bl false) A := by
  show (match kitB "int" "list" with | some b => Res.ok (D.bl b) A | none => .bad) = _
  rw [show kitB "int" "list" = some false by decide +kernel]
theorem isi_list_str {x : Str} {A : AH} : isiD "list" (.str x) A = .ok (.bl false) A := by
  show (match kitB "str" "list" with | some b => Res.ok (D.bl b) A | none => .bad) = _
  rw [show kitB "str" "list" = some false by decide +kernel]
theorem isi_list_tup {ds : List D} {A : AH} : isiD "list" (.tup ds) A = .ok (.bl false) A := by
  show (match kitB "tuple" "list" with | some b => Res.ok (D.bl b) A | none => .bad) = _
  rw [show kitB "tuple" "list" = some false by decide +kernel]
theorem isi_list_l {A : AH} {n : Nat} {xs : List D} (h : A[n]? = some (.lst xs)) : isiD "list" (.ref n) A = .ok (.bl true) A := by
  unfold isiD
  rw [show tyN A (.ref n) = some "list" by simp only [tyN, h]]
  show (match kitB "list" "list" with | some b => Res.ok (D.bl b) A | none => .bad) = _
  rw [show kitB "list" "list" = some true by decide +kernel]
theorem isi_list_f {A : AH} {n : Nat} {xs : List D} (h : A[n]? = some (.frz xs)) : isiD "list" (.ref n) A = .ok (.bl true) A := by
  unfold isiD
  rw [show tyN A (.ref n) = some "list" by simp only [tyN, h]]
  show (match kitB "list" "list" with | some b => Res.ok (D.bl b) A | none => .bad) = _
  rw [show kitB "list" "list" = some true by decide +kernel]
theorem isi_bool_non  {A : AH} : isiD "bool" (.non) A = .ok (.bl false) A := by
  show (match kitB "NoneType" "bool" with | some b => Res.ok (D.bl b) A | none => .bad) = _
  rw [show kitB "NoneType" "bool" = some false by decide +kernel]
theorem isi_bool_bl {b : Bool} {A : AH} : isiD "bool" (.bl b) A = .ok (.bl true) A := by
  show (match kitB "bool" "bool" with | some b => Res.ok (D.bl b) A | none => .bad) = _
  rw [show kitB "bool" "bool" = some true by decide +kernel]
theorem isi_bool_int {i : Int} {A : AH} : isiD "bool" (.int i) A = .ok (.bl false) A := by
  show (match kitB "int" "bool" with | some b => Res.ok (D.bl b) A | none => .bad) = _
  rw [show kitB "int" "bool" = some false by decide +kernel]
theorem isi_bool_str {x : Str} {A : AH} : isiD "bool" (.str x) A = .ok (.bl false) A := by
  show (match kitB "str" "bool" with | some b => Res.ok (D.bl b) A | none => .bad) = _
  rw [show kitB "str" "bool" = some false by decide +kernel]
theorem isi_bool_tup {ds : List D} {A : AH} : isiD "bool" (.tup ds) A = .ok (.bl false) A := by
  show (match kitB "tuple" "bool" with | some b => Res.ok (D.bl b) A | none => .bad) = _
  rw [show kitB "tuple" "bool" = some false by decide +kernel]
theorem isi_bool_l {A : AH} {n : Nat} {xs : List D} (h : A[n]? = some (.lst xs)) : isiD "bool" (.ref n) A = .ok (.bl false) A := by
  unfold isiD
  rw [show tyN A (.ref n) = some "list" by simp only [tyN, h]]
  show (match kitB "list" "bool" with | some b => Res.ok (D.bl b) A | none => .bad) = _
  rw [show kitB "list" "bool" = some false by decide +kernel]
theorem isi_bool_f {A : AH} {n : Nat} {xs : List D} (h : A[n]? = some (.frz xs)) : isiD "bool" (.ref n) A = .ok (.bl false) A := by
  unfold isiD
  rw [show tyN A (.ref n) = some "list" by simp only [tyN, h]]
  show (match kitB "list" "bool" with | some b => Res.ok (D.bl b) A | none => .bad) = _
  rw [show kitB "list" "bool" = some false by decide +kernel]
theorem isi_int_non  {A : AH} : isiD "int" (.non) A = .ok (.bl false) A := by
  show (match kitB "NoneType" "int" with | some b => Res.ok (D.bl b) A | none => .bad) = _
  rw [show kitB "NoneType" "int" = some false by decide +kernel]
theorem isi_int_bl {b : Bool} {A : AH} : isiD "int" (.bl b) A = .ok (.bl true) A := by
  show (match kitB "bool" "int" with | some b => Res.ok (D.bl b) A | none => .bad) = _
  rw [show kitB "bool" "int" = some true by decide +kernel]
theorem isi_int_int {i : Int} {A : AH} : isiD "int" (.int i) A = .ok (.bl true) A := by
  show (match kitB "int" "int" with | some b => Res.ok (D.bl b) A | none => .bad) = _
  rw [show kitB "int" "int" = some true by decide +kernel]
theorem isi_int_str {x : Str} {A : AH} : isiD "int" (.str x) A = .ok (.bl false) A := by
  show (match kitB "str" "int" with | some b => Res.ok (D.bl b) A | none => .bad) = _
  rw [show kitB "str" "int" = some false by decide +kernel]
theorem isi_int_tup {ds : List D} {A : AH} : isiD "int" (.tup ds) A = .ok (.bl false) A := by
  show (match kitB "tuple" "int" with | some b => Res.ok (D.bl b) A | none => .bad) = _
  rw [show kitB "tuple" "int" = some false by decide +kernel]
theorem isi_int_l {A : AH} {n : Nat} {xs : List D} (h : A[n]? = some (.lst xs)) : isiD "int" (.ref n) A = .ok (.bl false) A := by
  unfold isiD
  rw [show tyN A (.ref n) = some "list" by simp only [tyN, h]]
  show (match kitB "list" "int" with | some b => Res.ok (D.bl b) A | none => .bad) = _
  rw [show kitB "list" "int" = some false by decide +kernel]
theorem isi_int_f {A : AH} {n : Nat} {xs : List D} (h : A[n]? = some (.frz xs)) : isiD "int" (.ref n) A = .ok (.bl false) A := by
  unfold isiD
  rw [show tyN A (.ref n) = some "list" by simp only [tyN, h]]
  show (match kitB "list" "int" with | some b => Res.ok (D.bl b) A | none => .bad) = _
  rw [show kitB "list" "int" = some false by decide +kernel]
theorem isi_str_non  {A : AH} : isiD "str" (.non) A = .ok (.bl false) A := by
  show (match kitB "NoneType" "str" with | some b => Res.ok (D.bl b) A | none => .bad) = _
  rw [show kitB "NoneType" "str" = some false by decide +kernel]
theorem isi_str_bl {b : Bool} {A : AH} : isiD "str" (.bl b) A = .ok (.bl false) A := by
  show (match kitB "bool" "str" with | some b => Res.ok (D.bl b) A | none => .bad) = _
  rw [show kitB "bool" "str" = some false by decide +kernel]
theorem isi_str_int {i : Int} {A : AH} : isiD "str" (.int i) A = .ok (.bl false) A := by
  show (match kitB "int" "str" with | some b => Res.ok (D.bl b) A | none => .bad) = _
  rw [show kitB "int" "str" = some false by decide +kernel]
theorem isi_str_str {x : Str} {A : AH} : isiD "str" (.str x) A = .ok (.bl true) A := by
  show (match kitB "str" "str" with | some b => Res.ok (D.bl b) A | none => .bad) = _
  rw [show kitB "str" "str" = some true by decide +kernel]
theorem isi_str_tup {ds : List D} {A : AH} : isiD "str" (.tup ds) A = .ok (.bl false) A := by
  show (match kitB "tuple" "str" with | some b => Res.ok (D.bl b) A | none => .bad) = _
  rw [show kitB "tuple" "str" = some false by decide +kernel]
theorem isi_str_l {A : AH} {n : Nat} {xs : List D} (h : A[n]? = some (.lst xs)) : isiD "str" (.ref n) A = .ok (.bl false) A := by
  unfold isiD
  rw [show tyN A (.ref n) = some "list" by simp only [tyN, h]]
  show (match kitB "list" "str" with | some b => Res.ok (D.bl b) A | none => .bad) = _
  rw [show kitB "list" "str" = some false by decide +kernel]
theorem isi_str_f {A : AH} {n : Nat} {xs : List D} (h : A[n]? = some (.frz xs)) : isiD "str" (.ref n) A = .ok (.bl false) A := by
  unfold isiD
  rw [show tyN A (.ref n) = some "list" by simp only [tyN, h]]
  show (match kitB "list" "str" with | some b => Res.ok (D.bl b) A | none => .bad) = _
  rw [show kitB "list" "str" = some false by decide +kernel]
theorem isi_dict_non  {A : AH} : isiD "dict" (.non) A = .ok (.bl false) A := by
  show (match kitB "NoneType" "dict" with | some b => Res.ok (D.bl b) A | none => .bad) = _
  rw [show kitB "NoneType" "dict" = some false by decide +kernel]
theorem isi_dict_bl {b : Bool} {A : AH} : isiD "dict" (.bl b) A = .ok (.bl false) A := by
  show (match kitB "bool" "dict" with | some b => Res.ok (D.bl b) A | none => .bad) = _
  rw [show kitB "bool" "dict" = some false by decide +kernel]
theorem isi_dict_int {i : Int} {A : AH} : isiD "dict" (.int i) A = .ok (.bl false) A := by
  show (match kitB "int" "dict" with | some b => Res.ok (D.bl b) A | none => .bad) = _
  rw [show kitB "int" "dict" = some false by decide +kernel]
theorem isi_dict_str {x : Str} {A : AH} : isiD "dict" (.str x) A = .ok (.bl false) A := by
  show (match kitB "str" "dict" with | some b => Res.ok (D.bl b) A | none => .bad) = _
  rw [show kitB "str" "dict" = some false by decide +kernel]
theorem isi_dict_tup {ds : List D} {A : AH} : isiD "dict" (.tup ds) A = .ok (.bl false) A := by
  show (match kitB "tuple" "dict" with | some b => Res.ok (D.bl b) A | none => .bad) = _
  rw [show kitB "tuple" "dict" = some false by decide +kernel]
theorem isi_dict_l {A : AH} {n : Nat} {xs : List D} (h : A[n]? = some (.lst xs)) : isiD "dict" (.ref n) A = .ok (.bl false) A := by
  unfold isiD
  rw [show tyN A (.ref n) = some "list" by simp only [tyN, h]]
  show (match kitB "list" "dict" with | some b => Res.ok (D.bl b) A | none => .bad) = _
  rw [show kitB "list" "dict" = some false by decide +kernel]
theorem isi_dict_f {A : AH} {n : Nat} {xs : List D} (h : A[n]? = some (.frz xs)) : isiD "dict" (.ref n) A = .ok (.bl false) A := by
  unfold isiD
  rw [show tyN A (.ref n) = some "list" by simp only [tyN, h]]
  show (match kitB "list" "dict" with | some b => Res.ok (D.bl b) A | none => .bad) = _
  rw [show kitB "list" "dict" = some false by decide +kernel]
/-! ## loops -/
theorem loop_nil {ok : AH → Prop} {g : FG} {p : FS} {s : ASt} {A : AH} (h : ok A) : loopD ok g p [] s A = .ok (.nx s) A := by
  unfold loopD; rw [if_pos h]
/-- what a turn's end leads to -/
def turn_ (k : ASt → AH → Prop) (P : Fl → AH → Prop) : Fl → AH → Prop
  | .nx s, A => k s A
  | .ct s, A => k s A
  | .bk s, A => P (.nx s) A
  | .rt d, A => P (.rt d) A
theorem loop_cons {ok : AH → Prop} {g : FG} {p : FS} {d : D} {ds : List D} {s : ASt} {A : AH} {P : Fl → AH → Prop} (h : ok A) :
    Sat (loopD ok g p (d :: ds) s A) P = Sat (g d s A) fun s1 A1 => Sat (p s1 A1) (turn_ (fun s2 A2 => Sat (loopD ok g p ds s2 A2) P) P) := by
  rw [loopD, if_pos h, sat_bind]
  congr 1
  funext s1 A1
  cases p s1 A1 with
  | ok fl A2 => cases fl <;> rfl
  | _ => rfl
/-- a for by an invariant over the items that are left -/
theorem loop_inv {ok : AH → Prop} {g : FG} {p : FS} {P : Fl → AH → Prop} (I : List D → ASt → AH → Prop)
    (turn : ∀ d ds s A, I (d :: ds) s A → ok A ∧ Sat (g d s A) fun s1 A1 => Sat (p s1 A1) (turn_ (I ds) P)) (last : ∀ s A, I [] s A → ok A ∧ P (.nx s) A) :
    ∀ (ds : List D) (s : ASt) (A : AH), I ds s A → Sat (loopD ok g p ds s A) P
  | [], s, A, h => by
    rw [loop_nil (last s A h).1]
    exact (last s A h).2
  | d :: ds, s, A, h => by
    obtain ⟨h1, h2⟩ := turn d ds s A h
    rw [loop_cons h1]
    refine h2.imp fun s1 A1 h3 => h3.imp fun fl A2 h4 => ?_
    cases fl with
    | nx s2 => exact loop_inv I turn last ds s2 A2 h4
    | ct s2 => exact loop_inv I turn last ds s2 A2 h4
    | bk s2 => exact h4
    | rt d => exact h4
/-- a for over a range by an invariant over the turns -/
theorem range_inv {g : FG} {p : FS} {P : Fl → AH → Prop} {lo : Int} {n : Nat} (I : Nat → ASt → AH → Prop)
    (turn : ∀ k s A, k < n → I k s A → Sat (g (.int (lo + (k : Nat))) s A) fun s1 A1 => Sat (p s1 A1) (turn_ (I (k + 1)) P)) (last : ∀ s A, I n s A → P (.nx s) A)
    {s : ASt} {A : AH} (h : I 0 s A) : Sat (loopD yes g p (rngL lo n) s A) P := by
  have e : rngL lo n = (List.range' 0 n).map fun k => .int (lo + (k : Nat)) := by rw [← List.range_eq_range']; rfl
  have key : ∀ (m k : Nat) (s : ASt) (A : AH), k + m = n → I k s A → Sat (loopD yes g p ((List.range' k m).map fun k => .int (lo + (k : Nat))) s A) P := by
    intro m
    induction m with
    | zero => intro k s A hk h; rw [show k = n by omega] at h; rw [List.range'_zero, List.map_nil, loop_nil trivial]; exact last s A h
    | succ m ih =>
      intro k s A hk h
      rw [List.range'_succ, List.map_cons, loop_cons trivial]
      refine (turn k s A (by omega) h).imp fun s1 A1 h3 => h3.imp fun fl A2 h4 => ?_
      cases fl with
      | nx s2 => exact ih (k + 1) s2 A2 (by omega) h4
      | ct s2 => exact ih (k + 1) s2 A2 (by omega) h4
      | bk s2 => exact h4
      | rt d => exact h4
  rw [e]
  exact key n 0 s A (by omega) h
end Ab

namespace Ab
open PySem PySem.Spec PyProof.Rows L2
open scoped Classical

/-! ## what the drawing helpers of the laws leave -/
/-- at s stands a source of drawn numbers -/
def Sr (s : Nat) (A : AH) : Prop := ∃ c r k : Int, A[s]? = some (.lst [.int c, .int r, .int k])
/-- all cells but the source are as they were; new ones may have come -/
structure Dr (s : Nat) (A A' : AH) : Prop where
  le : A.length ≤ A'.length
  keep : ∀ i o, i ≠ s → A[i]? = some o → A'[i]? = some o
  src : Sr s A'
theorem Dr.refl {s : Nat} {A : AH} (h : Sr s A) : Dr s A A := ⟨Nat.le_refl _, fun _ _ _ h => h, h⟩
theorem Dr.trans {s : Nat} {A B C : AH} (h : Dr s A B) (h' : Dr s B C) : Dr s A C := ⟨Nat.le_trans h.le h'.le, fun i o n e => h'.keep i o n (h.keep i o n e), h'.src⟩
theorem Sr.lt {s : Nat} {A : AH} (h : Sr s A) : s < A.length := by
  obtain ⟨c, r, k, h⟩ := h
  exact (List.getElem?_eq_some_iff.mp h).1
theorem Dr.app {s : Nat} {A : AH} (h : Sr s A) (B : AH) : Dr s A (A ++ B) := by
  have app : ∀ (i : Nat) o, A[i]? = some o → (A ++ B)[i]? = some o := fun i o e => by
    rw [List.getElem?_append_left (List.getElem?_eq_some_iff.mp e).1]; exact e
  obtain ⟨c, r, k, h⟩ := h
  exact ⟨by simp, fun i o _ e => app i o e, c, r, k, app s _ h⟩
theorem Dr.set {s : Nat} {A : AH} {c r k : Int} (h : s < A.length) : Dr s A (A.set s (.lst [.int c, .int r, .int k])) :=
  ⟨by simp, fun i o n e => by rw [List.getElem?_set_ne (Ne.symm n)]; exact e, c, r, k, List.getElem?_set_self h⟩
/-- a drawing helper that hands back what P says -/
def DrwS (s : Nat) (A : AH) (r : Res D) (P : D → Prop) : Prop := Sat r fun d A' => P d ∧ Dr s A A'
theorem DrwS.imp {s : Nat} {A : AH} {r : Res D} {P Q : D → Prop} (h : DrwS s A r P) (q : ∀ d, P d → Q d) : DrwS s A r Q := Sat.imp h fun d A' ⟨h1, h2⟩ => ⟨q d h1, h2⟩
/-- the number from 0 on, below n (0 where n is below 1) -/
def Below (n : Int) (d : D) : Prop := ∃ v, d = .int v ∧ 0 ≤ v ∧ (v < n ∨ v = 0)

/-- all cells are as they were; new ones may have come -/
structure Gr (A A' : AH) : Prop where
  le : A.length ≤ A'.length
  keep : ∀ (i : Nat) o, A[i]? = some o → A'[i]? = some o
section
variable {A B C : AH} {s r : Nat} {o : AO}
theorem at_lt (h : A[r]? = some o) : r < A.length := (List.getElem?_eq_some_iff.mp h).1
theorem at_new : (A ++ [o])[A.length]? = some o := List.getElem?_concat_length ..
theorem at_set (h : r < A.length) : (A.set r o)[r]? = some o := List.getElem?_set_self h
theorem Gr.refl : Gr A A := ⟨Nat.le_refl _, fun _ _ h => h⟩
theorem Gr.trans (h : Gr A B) (h' : Gr B C) : Gr A C := ⟨Nat.le_trans h.le h'.le, fun i o e => h'.keep i o (h.keep i o e)⟩
theorem Gr.app : Gr A (A ++ B) := ⟨by simp, fun i o e => by rw [List.getElem?_append_left (at_lt e)]; exact e⟩
theorem Gr.set (h : Gr A B) (hr : A.length ≤ r) : Gr A (B.set r o) := ⟨by simpa using h.le, fun i o' e => by
  have := at_lt e
  rw [List.getElem?_set_ne (by omega)]; exact h.keep i o' e⟩
theorem Gr.dr (h : Gr A B) (hs : Sr s A) : Dr s A B := ⟨h.le, fun i o _ e => h.keep i o e, by obtain ⟨c, r, k, e⟩ := hs; exact ⟨c, r, k, h.keep _ _ e⟩⟩
theorem Sr.gr (h : Gr A B) (hs : Sr s A) : Sr s B := (h.dr hs).src
theorem Dr.setN (h : Dr s A B) (hr : A.length ≤ r) (hs : Sr s A) : Dr s A (B.set r o) := ⟨by simpa using h.le, fun i o' n e => by
  have := at_lt e
  rw [List.getElem?_set_ne (by omega)]; exact h.keep i o' n e, by
    obtain ⟨c, q, k, e⟩ := h.src
    have := hs.lt
    exact ⟨c, q, k, by rw [List.getElem?_set_ne (by omega)]; exact e⟩⟩
/-- a list's display by an invariant over the items that are left and the list so far -/
theorem comp_inv {ok : AH → Prop} {g : FG} {t : FT} {f : FE} {n : Nat} {s : ASt} {P : D → AH → Prop} (I : List D → List D → AH → Prop)
    (turn : ∀ d ds acc A, I (d :: ds) acc A → ok A ∧ Sat (g d s A) fun s1 A1 => Sat (t s1 A1) fun b A2 => if b = true then Sat (f s1 A2) fun y A3 => A3[n]? = some (.lst acc) ∧ acc.length < sizeLine ∧ I ds (acc ++ [y]) (A3.set n (.lst (acc ++ [y]))) else I ds acc A2)
    (last : ∀ acc A, I [] acc A → ok A ∧ P (.ref n) A) : ∀ (ds acc : List D) (A : AH), I ds acc A → Sat (loopC ok g t f n s ds A) P
  | [], acc, A, h => by
    rw [loopC, if_pos (last acc A h).1]
    exact (last acc A h).2
  | d :: ds, acc, A, h => by
    obtain ⟨h1, h2⟩ := turn d ds acc A h
    rw [loopC, if_pos h1, sat_bind]
    refine h2.imp fun s1 A1 h3 => ?_
    rw [sat_bind]
    refine h3.imp fun b A2 h4 => ?_
    cases b with
    | true =>
      rw [if_pos rfl, sat_bind]
      rw [if_pos rfl] at h4
      refine h4.imp fun y A3 ⟨h5, h6, h7⟩ => ?_
      simp only [h5]
      rw [if_pos h6]
      exact comp_inv I turn last ds _ _ h7
    | false =>
      rw [if_neg Bool.false_ne_true]
      rw [if_neg Bool.false_ne_true] at h4
      exact comp_inv I turn last ds _ _ h4
/-- a list's display of values that need no cell -/
theorem comp_pure {α : Type} {ok : AH → Prop} {g : FG} {f : FE} {s : ASt} {P : D → AH → Prop} {qs : List α} (c : α → D) (F : α → D)
    (hok : ∀ l, ok (A ++ [.lst l])) (hf : ∀ q ∈ qs, ∀ l, Sat (g (c q) s (A ++ [.lst l])) fun s1 A1 => Sat (f s1 A1) fun y A3 => y = F q ∧ A3 = A ++ [.lst l]) (hl : qs.length ≤ 1000000)
    (hP : P (.ref A.length) (A ++ [.lst (qs.map F)])) : Sat (loopC ok g fYes f A.length s (qs.map c) (A ++ [.lst []])) P := by
  refine comp_inv (fun rest acc B => B = A ++ [.lst acc] ∧ ∃ pre post, qs = pre ++ post ∧ rest = post.map c ∧ acc = pre.map F) (fun d rest acc B ⟨hB, pre, post, h1, h0, h2⟩ => ?_) (fun acc B ⟨hB, pre, post, h1, h0, h2⟩ => ?_) _ [] _ ⟨rfl, [], qs, rfl, rfl, rfl⟩
  · subst hB
    cases post with
    | nil => cases h0
    | cons q post =>
      rw [List.map_cons, List.cons.injEq] at h0
      obtain ⟨e1, e2⟩ := h0
      subst e1; subst e2
      refine ⟨hok acc, Sat.imp (hf q (by rw [h1]; simp) acc) fun s1 A1 h3 => ?_⟩
      show Sat (Res.ok true A1) _
      rw [sat_ok, if_pos rfl]
      refine Sat.imp h3 fun y A3 ⟨h4, h5⟩ => ?_
      subst h4; subst h5
      refine ⟨at_new, ?_, ?_, pre ++ [q], post, by rw [h1]; simp, rfl, by rw [h2]; simp⟩
      · have : qs.length = pre.length + (post.length + 1) := by rw [h1]; simp
        have e : acc.length = pre.length := by rw [h2]; simp
        refine Nat.lt_of_lt_of_le (show acc.length < 1000000 by omega) (by decide)
      · rw [List.set_append_right _ _ (Nat.le_refl _), Nat.sub_self]; rfl
  · subst hB
    cases post with
    | cons q post => cases h0
    | nil =>
      rw [List.append_nil] at h1
      subst h1; subst h2
      exact ⟨hok _, hP⟩
/-- a list's display over counted items, by an invariant over the turns -/
theorem comp_cnt {ok : AH → Prop} {g : FG} {f : FE} {m : Nat} {s : ASt} {P : D → AH → Prop} {it : Nat → D} {n : Nat} (I : Nat → List D → AH → Prop)
    (turn : ∀ k acc A, k < n → I k acc A → ok A ∧ Sat (g (it k) s A) fun s1 A1 => Sat (f s1 A1) fun y A3 => A3[m]? = some (.lst acc) ∧ acc.length < 1000000 ∧ I (k + 1) (acc ++ [y]) (A3.set m (.lst (acc ++ [y]))))
    (last : ∀ acc A, I n acc A → ok A ∧ P (.ref m) A) {acc : List D} {A : AH} (h : I 0 acc A) : Sat (loopC ok g fYes f m s ((List.range n).map it) A) P := by
  rw [List.range_eq_range']
  refine comp_inv (fun rest acc B => ∃ k j, k + j = n ∧ rest = (List.range' k j).map it ∧ I k acc B) (fun d rest acc B ⟨k, j, h1, h2, h3⟩ => ?_) (fun acc B ⟨k, j, h1, h2, h3⟩ => ?_) _ acc _ ⟨0, n, by omega, rfl, h⟩
  · cases j with
    | zero => rw [List.range'_zero, List.map_nil] at h2; cases h2
    | succ j =>
      rw [List.range'_succ, List.map_cons, List.cons.injEq] at h2
      obtain ⟨e1, e2⟩ := h2
      subst e1
      obtain ⟨o1, o2⟩ := turn k acc B (by omega) h3
      refine ⟨o1, Sat.imp o2 fun s1 A1 h4 => ?_⟩
      show Sat (Res.ok true A1) _
      rw [sat_ok, if_pos rfl]
      exact Sat.imp h4 fun y A3 ⟨h5, h6, h7⟩ => ⟨h5, Nat.lt_of_lt_of_le h6 (by decide), k + 1, j, by omega, e2, h7⟩
  · cases j with
    | zero => rw [show k = n by omega] at h3; exact last acc B h3
    | succ j => rw [List.range'_succ, List.map_cons] at h2; cases h2
/-- a for over counted items -/
theorem for_cnt {ok : AH → Prop} {g : FG} {p : FS} {P : Fl → AH → Prop} {it : Nat → D} {n : Nat} (I : Nat → ASt → AH → Prop)
    (turn : ∀ k s A, k < n → I k s A → ok A ∧ Sat (g (it k) s A) fun s1 A1 => Sat (p s1 A1) (turn_ (I (k + 1)) P)) (last : ∀ s A, I n s A → ok A ∧ P (.nx s) A)
    {s : ASt} {A : AH} (h : I 0 s A) : Sat (loopD ok g p ((List.range n).map it) s A) P := by
  rw [List.range_eq_range']
  refine loop_inv (fun rest s B => ∃ k j, k + j = n ∧ rest = (List.range' k j).map it ∧ I k s B) (fun d rest s B ⟨k, j, h1, h2, h3⟩ => ?_) (fun s B ⟨k, j, h1, h2, h3⟩ => ?_) _ _ _ ⟨0, n, by omega, rfl, h⟩
  · cases j with
    | zero => rw [List.range'_zero, List.map_nil] at h2; cases h2
    | succ j =>
      rw [List.range'_succ, List.map_cons, List.cons.injEq] at h2
      obtain ⟨e1, e2⟩ := h2
      subst e1
      obtain ⟨o1, o2⟩ := turn k s B (by omega) h3
      refine ⟨o1, Sat.imp o2 fun s1 A1 h4 => Sat.imp h4 fun fl A2 h5 => ?_⟩
      cases fl with
      | nx s2 => exact ⟨k + 1, j, by omega, e2, h5⟩
      | ct s2 => exact ⟨k + 1, j, by omega, e2, h5⟩
      | bk s2 => exact h5
      | rt d => exact h5
  · cases j with
    | zero => rw [show k = n by omega] at h3; exact last s B h3
    | succ j => rw [List.range'_succ, List.map_cons] at h2; cases h2
/-- a list's display over a range by an invariant over the turns -/
theorem comp_range {g : FG} {f : FE} {m : Nat} {s : ASt} {P : D → AH → Prop} {lo : Int} {n : Nat} (I : Nat → List D → AH → Prop)
    (turn : ∀ k acc A, k < n → I k acc A → Sat (g (.int (lo + (k : Nat))) s A) fun s1 A1 => Sat (f s1 A1) fun y A3 => A3[m]? = some (.lst acc) ∧ acc.length < 1000000 ∧ I (k + 1) (acc ++ [y]) (A3.set m (.lst (acc ++ [y]))))
    (last : ∀ acc A, I n acc A → P (.ref m) A) {acc : List D} {A : AH} (h : I 0 acc A) : Sat (loopC yes g fYes f m s (rngL lo n) A) P := by
  have e : rngL lo n = (List.range' 0 n).map fun k => .int (lo + (k : Nat)) := by rw [← List.range_eq_range']; rfl
  rw [e]
  refine comp_inv (fun rest acc B => ∃ k j, k + j = n ∧ rest = (List.range' k j).map (fun k => .int (lo + (k : Nat))) ∧ I k acc B) (fun d rest acc B ⟨k, j, h1, h2, h3⟩ => ⟨trivial, ?_⟩) (fun acc B ⟨k, j, h1, h2, h3⟩ => ⟨trivial, ?_⟩) _ acc _ ⟨0, n, by omega, rfl, h⟩
  · cases j with
    | zero => rw [List.range'_zero, List.map_nil] at h2; cases h2
    | succ j =>
      rw [List.range'_succ, List.map_cons, List.cons.injEq] at h2
      obtain ⟨e1, e2⟩ := h2
      subst e1
      refine Sat.imp (turn k acc B (by omega) h3) fun s1 A1 h4 => ?_
      show Sat (Res.ok true A1) _
      rw [sat_ok, if_pos rfl]
      exact Sat.imp h4 fun y A3 ⟨h5, h6, h7⟩ => ⟨h5, Nat.lt_of_lt_of_le h6 (by decide), k + 1, j, by omega, e2, h7⟩
  · cases j with
    | zero => rw [show k = n by omega] at h3; exact last acc B h3
    | succ j => rw [List.range'_succ, List.map_cons] at h2; cases h2
theorem ixN_pos {n : Nat} {k : Int} (h0 : 0 ≤ k) (h : k < n) : ixN n k = some k.toNat := by
  unfold ixN
  rw [if_pos h0, if_pos h]
theorem ev_sl_l {xs : List D} {lo hi : Option Int} (h : A[r]? = some (.lst xs)) : slD (.ref r) lo hi A = .ok (.ref A.length) (A ++ [.lst (cutL xs lo hi)]) := by
  show (match rdL A (.ref r) with
    | some xs => Ab.alloc (.lst (cutL xs lo hi)) A
    | none => .bad) = _
  rw [rdL_l h]; rfl
theorem ev_app {xs : List D} {y : D} (h : A[r]? = some (.lst xs)) (hl : xs.length < 1000000) : appendD (.ref r) [y] A = .ok .non (A.set r (.lst (xs ++ [y]))) := by
  show (match A[r]? with
    | some (.lst xs) => if xs.length < sizeLine then Res.ok D.non (A.set r (.lst (xs ++ [y]))) else .bad
    | _ => .bad) = _
  rw [h]
  exact if_pos (Nat.lt_of_lt_of_le hl (by decide))
theorem ty_l {xs : List D} (h : A[r]? = some (.lst xs)) : isTy "list" (.ref r) A = true := by
  simp [isTy, rdL_l h]
theorem ev_rev {xs : List D} (h : A[r]? = some (.lst xs)) : revD (.ref r) A = .ok (.ref A.length) (A ++ [.lst xs.reverse]) := by unfold revD; rw [rdL_l h]; rfl
theorem ev_iseq_t {ds : List D} : iSeq (.tup ds) A = .ok ⟨ds, yes⟩ A := rfl
theorem ev_iseq_l {xs : List D} (h : A[r]? = some (.lst xs)) : iSeq (.ref r) A = .ok ⟨xs, fun A' => rdL A' (.ref r) = some xs⟩ A := by
  show (match rdL A (.ref r) with
    | some ds => Res.ok (⟨ds, fun A' => rdL A' (.ref r) = some ds⟩ : Src) A
    | none => .bad) = _
  rw [rdL_l h]
theorem ev_max_l {xs : List Int} (h : A[r]? = some (.lst (xs.map D.int))) (h0 : xs ≠ []) : maxD [.ref r] A = .ok (.int (maxI xs)) A := by
  show (match rdL A (.ref r) with
    | some xs => (match intsOf xs with
      | some (i :: is) => Res.ok (D.int (maxI (i :: is))) A
      | _ => .bad)
    | none => .bad) = _
  have e : ∀ xs : List Int, intsOf (xs.map D.int) = some xs := by
    intro xs
    induction xs with
    | nil => rfl
    | cons x xs ih => show (match intsOf (xs.map D.int) with | some is => some (x :: is) | none => none) = _; rw [ih]
  rw [rdL_l h]
  simp only [e]
  cases xs with
  | nil => exact (h0 rfl).elim
  | cons x xs => rfl
theorem ev_min_l {xs : List Int} (h : A[r]? = some (.lst (xs.map D.int))) (h0 : xs ≠ []) : minD [.ref r] A = .ok (.int (minI xs)) A := by
  show (match rdL A (.ref r) with
    | some xs => (match intsOf xs with
      | some (i :: is) => Res.ok (D.int (minI (i :: is))) A
      | _ => .bad)
    | none => .bad) = _
  have e : ∀ xs : List Int, intsOf (xs.map D.int) = some xs := by
    intro xs
    induction xs with
    | nil => rfl
    | cons x xs ih => show (match intsOf (xs.map D.int) with | some is => some (x :: is) | none => none) = _; rw [ih]
  rw [rdL_l h]
  simp only [e]
  cases xs with
  | nil => exact (h0 rfl).elim
  | cons x xs => rfl
end
/-! ## greatest and least -/
/-! ## plain data -/
def Pl : Nat → D → Prop
  | _, .non => True
  | _, .bl _ => True
  | _, .int _ => True
  | _, .str _ => True
  | 0, .tup _ => False
  | n + 1, .tup ds => ds.length ≤ 1000000 ∧ ∀ d ∈ ds, Pl n d
  | _, .ref _ => False
end Ab

set_option maxHeartbeats 4000000
namespace Law
open PySem PySem.Spec PyProof.Rows L2 Ab
def top (i : Nat) : Stmt := PySem.Challenge.pw_neverhappens_k28_whole_rounding_is_a_clo.main.body.getD i (.Pass ⟨0, 0, 0, 0⟩)
abbrev s__law_box : Stmt := top 16
abbrev n__law_box : List Str := ["_law_points_here", "_law_full", "_law_point", "_law_rows", "_law_i", "_law_j"]
abbrev s__law_cell : Stmt := top 9
abbrev n__law_cell : List Str := ["_law_script", "_law_at"]
abbrev s__law_pick : Stmt := top 11
abbrev n__law_pick : List Str := ["_law_source_here", "_law_size", "_law_k", "_law_digit", "_law_mixed"]
abbrev s__law_far : Stmt := top 13
abbrev n__law_far : List Str := ["_law_source_here"]
abbrev s__law_one : Stmt := top 12
abbrev n__law_one : List Str := ["_law_source_here", "_law_row"]
abbrev s__law_marks : Stmt := top 17
abbrev n__law_marks : List Str := ["_law_source_here", "_law_ranges_here", "_law_boxes", "_law_marks_here", "_law_turn", "_law_choice", "_law_near"]
abbrev s__law_points : Stmt := top 15
abbrev n__law_points : List Str := ["_law_source_here", "_law_ranges_here", "_law_points_here", "_law_turn", "_law_pair"]
abbrev s__law_ranges : Stmt := top 14
abbrev n__law_ranges : List Str := ["_law_source_here", "_law_size", "_law_ranges_here", "_law_k", "_law_low"]
abbrev s__law_below : Stmt := top 21
abbrev n__law_below : List Str := ["_law_small", "_law_great", "_law_i", "_law_j"]
abbrev s__law_closed : Stmt := top 18
abbrev n__law_closed : List Str := ["_law_rows", "_law_closed_here", "_law_row", "_law_k", "_law_i", "_law_j"]
abbrev s__law_widest : Stmt := top 19
abbrev n__law_widest : List Str := ["_law_ranges_here", "_law_ends", "_law_rows", "_law_i", "_law_j"]
abbrev s__law_due : Stmt := top 20
abbrev n__law_due : List Str := ["_law_box_here", "_law_ranges_here", "_law_marks_here", "_law_rows", "_law_i", "_law_j", "_law_above", "_law_mark"]
abbrev s__law_same : Stmt := top 22
abbrev n__law_same : List Str := ["_law_actual", "_law_due_here", "_law_k"]
abbrev s_frozen : Stmt := top 4
abbrev n_frozen : List Str := ["rows", "row"]
abbrev s_has_negative : Stmt := top 2
abbrev n_has_negative : List Str := ["rows", "at"]
abbrev s_shorten : Stmt := top 3
abbrev n_shorten : List Str := ["rows", "middle", "size", "behind", "i", "row", "ahead", "j"]
abbrev s_close : Stmt := top 1
abbrev n_close : List Str := ["matrix", "rows", "row", "size", "at", "middle"]
abbrev s_round_up : Stmt := top 6
abbrev n_round_up : List Str := ["number", "marks", "greatest", "low", "high", "middle"]
abbrev s_round_box : Stmt := top 7
abbrev n_round_box : List Str := ["box", "ranges", "marks", "ends", "rows", "i", "row", "entries", "j", "entry"]
abbrev s__law_right : Stmt := top 23
abbrev n__law_right : List Str := ["_law_boxes", "_law_ranges_here", "_law_marks_here", "_law_told", "_law_box_here", "_law_actual"]
abbrev s__law_source : Stmt := top 10
abbrev n__law_source : List Str := ["_law_cell_here"]
abbrev s_law : Stmt := top 24
abbrev n_law : List Str := ["_law_script", "_law_source_here", "_law_size", "_law_ranges_here", "_law_some", "_law_boxes", "_law_marks_here", "_law_others"]
theorem sc__law_box : FnScope n__law_box ["_law_points_here"] (defScope s__law_box) := ⟨rfl, rfl, rfl, by decide +kernel, rfl, by decide +kernel, by decide +kernel⟩
theorem sc__law_cell : FnScope n__law_cell ["_law_script", "_law_at"] (defScope s__law_cell) := ⟨rfl, rfl, rfl, by decide +kernel, rfl, by decide +kernel, by decide +kernel⟩
theorem sc__law_pick : FnScope n__law_pick ["_law_source_here", "_law_size"] (defScope s__law_pick) := ⟨rfl, rfl, rfl, by decide +kernel, rfl, by decide +kernel, by decide +kernel⟩
theorem sc__law_far : FnScope n__law_far ["_law_source_here"] (defScope s__law_far) := ⟨rfl, rfl, rfl, by decide +kernel, rfl, by decide +kernel, by decide +kernel⟩
theorem sc__law_one : FnScope n__law_one ["_law_source_here", "_law_row"] (defScope s__law_one) := ⟨rfl, rfl, rfl, by decide +kernel, rfl, by decide +kernel, by decide +kernel⟩
theorem sc__law_marks : FnScope n__law_marks ["_law_source_here", "_law_ranges_here", "_law_boxes"] (defScope s__law_marks) := ⟨rfl, rfl, rfl, by decide +kernel, rfl, by decide +kernel, by decide +kernel⟩
theorem sc__law_points : FnScope n__law_points ["_law_source_here", "_law_ranges_here"] (defScope s__law_points) := ⟨rfl, rfl, rfl, by decide +kernel, rfl, by decide +kernel, by decide +kernel⟩
theorem sc__law_ranges : FnScope n__law_ranges ["_law_source_here", "_law_size"] (defScope s__law_ranges) := ⟨rfl, rfl, rfl, by decide +kernel, rfl, by decide +kernel, by decide +kernel⟩
theorem sc__law_below : FnScope n__law_below ["_law_small", "_law_great"] (defScope s__law_below) := ⟨rfl, rfl, rfl, by decide +kernel, rfl, by decide +kernel, by decide +kernel⟩
theorem sc__law_closed : FnScope n__law_closed ["_law_rows"] (defScope s__law_closed) := ⟨rfl, rfl, rfl, by decide +kernel, rfl, by decide +kernel, by decide +kernel⟩
theorem sc__law_widest : FnScope n__law_widest ["_law_ranges_here"] (defScope s__law_widest) := ⟨rfl, rfl, rfl, by decide +kernel, rfl, by decide +kernel, by decide +kernel⟩
theorem sc__law_due : FnScope n__law_due ["_law_box_here", "_law_ranges_here", "_law_marks_here"] (defScope s__law_due) := ⟨rfl, rfl, rfl, by decide +kernel, rfl, by decide +kernel, by decide +kernel⟩
theorem sc__law_same : FnScope n__law_same ["_law_actual", "_law_due_here"] (defScope s__law_same) := ⟨rfl, rfl, rfl, by decide +kernel, rfl, by decide +kernel, by decide +kernel⟩
theorem sc_frozen : FnScope n_frozen ["rows"] (defScope s_frozen) := ⟨rfl, rfl, rfl, by decide +kernel, rfl, by decide +kernel, by decide +kernel⟩
theorem sc_has_negative : FnScope n_has_negative ["rows"] (defScope s_has_negative) := ⟨rfl, rfl, rfl, by decide +kernel, rfl, by decide +kernel, by decide +kernel⟩
theorem sc_shorten : FnScope n_shorten ["rows", "middle"] (defScope s_shorten) := ⟨rfl, rfl, rfl, by decide +kernel, rfl, by decide +kernel, by decide +kernel⟩
theorem sc_close : FnScope n_close ["matrix"] (defScope s_close) := ⟨rfl, rfl, rfl, by decide +kernel, rfl, by decide +kernel, by decide +kernel⟩
theorem sc_round_up : FnScope n_round_up ["number", "marks", "greatest"] (defScope s_round_up) := ⟨rfl, rfl, rfl, by decide +kernel, rfl, by decide +kernel, by decide +kernel⟩
theorem sc_round_box : FnScope n_round_box ["box", "ranges", "marks"] (defScope s_round_box) := ⟨rfl, rfl, rfl, by decide +kernel, rfl, by decide +kernel, by decide +kernel⟩
theorem sc__law_right : FnScope n__law_right ["_law_boxes", "_law_ranges_here", "_law_marks_here"] (defScope s__law_right) := ⟨rfl, rfl, rfl, by decide +kernel, rfl, by decide +kernel, by decide +kernel⟩
theorem sc__law_source : FnScope n__law_source ["_law_cell_here"] (defScope s__law_source) := ⟨rfl, rfl, rfl, by decide +kernel, rfl, by decide +kernel, by decide +kernel⟩
theorem sc_law : FnScope n_law ["_law_script"] (defScope s_law) := ⟨rfl, rfl, rfl, by decide +kernel, rfl, by decide +kernel, by decide +kernel⟩
/-- what the top leaves -/
structure Txt (K : PySem.W.Frag) (mg : Str → Option Value) where
  a__law_box : Addr
  d__law_box : FuncData
  F__law_box : Fun K "_law_box" "_law_box" s__law_box a__law_box d__law_box
  b__law_box : Binds K d__law_box ["_law_points_here"] []
  g__law_box : mg "_law_box" = some (.ref a__law_box)
  a__law_cell : Addr
  d__law_cell : FuncData
  F__law_cell : Fun K "_law_cell" "_law_cell" s__law_cell a__law_cell d__law_cell
  b__law_cell : Binds K d__law_cell ["_law_script", "_law_at"] []
  g__law_cell : mg "_law_cell" = some (.ref a__law_cell)
  a__law_pick : Addr
  d__law_pick : FuncData
  F__law_pick : Fun K "_law_pick" "_law_pick" s__law_pick a__law_pick d__law_pick
  b__law_pick : Binds K d__law_pick ["_law_source_here", "_law_size"] []
  g__law_pick : mg "_law_pick" = some (.ref a__law_pick)
  a__law_far : Addr
  d__law_far : FuncData
  F__law_far : Fun K "_law_far" "_law_far" s__law_far a__law_far d__law_far
  b__law_far : Binds K d__law_far ["_law_source_here"] []
  g__law_far : mg "_law_far" = some (.ref a__law_far)
  a__law_one : Addr
  d__law_one : FuncData
  F__law_one : Fun K "_law_one" "_law_one" s__law_one a__law_one d__law_one
  b__law_one : Binds K d__law_one ["_law_source_here", "_law_row"] []
  g__law_one : mg "_law_one" = some (.ref a__law_one)
  a__law_marks : Addr
  d__law_marks : FuncData
  F__law_marks : Fun K "_law_marks" "_law_marks" s__law_marks a__law_marks d__law_marks
  b__law_marks : Binds K d__law_marks ["_law_source_here", "_law_ranges_here", "_law_boxes"] []
  g__law_marks : mg "_law_marks" = some (.ref a__law_marks)
  a__law_points : Addr
  d__law_points : FuncData
  F__law_points : Fun K "_law_points" "_law_points" s__law_points a__law_points d__law_points
  b__law_points : Binds K d__law_points ["_law_source_here", "_law_ranges_here"] []
  g__law_points : mg "_law_points" = some (.ref a__law_points)
  a__law_ranges : Addr
  d__law_ranges : FuncData
  F__law_ranges : Fun K "_law_ranges" "_law_ranges" s__law_ranges a__law_ranges d__law_ranges
  b__law_ranges : Binds K d__law_ranges ["_law_source_here", "_law_size"] []
  g__law_ranges : mg "_law_ranges" = some (.ref a__law_ranges)
  a__law_below : Addr
  d__law_below : FuncData
  F__law_below : Fun K "_law_below" "_law_below" s__law_below a__law_below d__law_below
  b__law_below : Binds K d__law_below ["_law_small", "_law_great"] []
  g__law_below : mg "_law_below" = some (.ref a__law_below)
  a__law_closed : Addr
  d__law_closed : FuncData
  F__law_closed : Fun K "_law_closed" "_law_closed" s__law_closed a__law_closed d__law_closed
  b__law_closed : Binds K d__law_closed ["_law_rows"] []
  g__law_closed : mg "_law_closed" = some (.ref a__law_closed)
  a__law_widest : Addr
  d__law_widest : FuncData
  F__law_widest : Fun K "_law_widest" "_law_widest" s__law_widest a__law_widest d__law_widest
  b__law_widest : Binds K d__law_widest ["_law_ranges_here"] []
  g__law_widest : mg "_law_widest" = some (.ref a__law_widest)
  a__law_due : Addr
  d__law_due : FuncData
  F__law_due : Fun K "_law_due" "_law_due" s__law_due a__law_due d__law_due
  b__law_due : Binds K d__law_due ["_law_box_here", "_law_ranges_here", "_law_marks_here"] []
  g__law_due : mg "_law_due" = some (.ref a__law_due)
  a__law_same : Addr
  d__law_same : FuncData
  F__law_same : Fun K "_law_same" "_law_same" s__law_same a__law_same d__law_same
  b__law_same : Binds K d__law_same ["_law_actual", "_law_due_here"] []
  g__law_same : mg "_law_same" = some (.ref a__law_same)
  a_frozen : Addr
  d_frozen : FuncData
  F_frozen : Fun K "frozen" "frozen" s_frozen a_frozen d_frozen
  b_frozen : Binds K d_frozen ["rows"] []
  g_frozen : mg "frozen" = some (.ref a_frozen)
  a_has_negative : Addr
  d_has_negative : FuncData
  F_has_negative : Fun K "has_negative" "has_negative" s_has_negative a_has_negative d_has_negative
  b_has_negative : Binds K d_has_negative ["rows"] []
  g_has_negative : mg "has_negative" = some (.ref a_has_negative)
  a_shorten : Addr
  d_shorten : FuncData
  F_shorten : Fun K "shorten" "shorten" s_shorten a_shorten d_shorten
  b_shorten : Binds K d_shorten ["rows", "middle"] []
  g_shorten : mg "shorten" = some (.ref a_shorten)
  a_close : Addr
  d_close : FuncData
  F_close : Fun K "close" "close" s_close a_close d_close
  b_close : Binds K d_close ["matrix"] []
  g_close : mg "close" = some (.ref a_close)
  a_round_up : Addr
  d_round_up : FuncData
  F_round_up : Fun K "round_up" "round_up" s_round_up a_round_up d_round_up
  b_round_up : Binds K d_round_up ["number", "marks", "greatest"] []
  g_round_up : mg "round_up" = some (.ref a_round_up)
  a_round_box : Addr
  d_round_box : FuncData
  F_round_box : Fun K "round_box" "round_box" s_round_box a_round_box d_round_box
  b_round_box : Binds K d_round_box ["box", "ranges", "marks"] []
  g_round_box : mg "round_box" = some (.ref a_round_box)
  a__law_right : Addr
  d__law_right : FuncData
  F__law_right : Fun K "_law_right" "_law_right" s__law_right a__law_right d__law_right
  b__law_right : Binds K d__law_right ["_law_boxes", "_law_ranges_here", "_law_marks_here"] []
  g__law_right : mg "_law_right" = some (.ref a__law_right)
  a__law_source : Addr
  d__law_source : FuncData
  F__law_source : Fun K "_law_source" "_law_source" s__law_source a__law_source d__law_source
  b__law_source : Binds K d__law_source ["_law_cell_here"] []
  g__law_source : mg "_law_source" = some (.ref a__law_source)
  a_law : Addr
  d_law : FuncData
  F_law : Fun K "law" "law" s_law a_law d_law
  b_law : Binds K d_law ["_law_script"] []
  g_law : mg "law" = some (.ref a_law)
  n_bool : mg "bool" = none
  n_enumerate : mg "enumerate" = none
  n_int : mg "int" = none
  n_isinstance : mg "isinstance" = none
  n_len : mg "len" = none
  n_list : mg "list" = none
  n_max : mg "max" = none
  n_min : mg "min" = none
  n_range : mg "range" = none
  n_set : mg "set" = none
  n_sorted : mg "sorted" = none
  n_str : mg "str" = none
  n_tuple : mg "tuple" = none
/-! ### the defs as functions -/
noncomputable def p__law_box  : FS :=
 fSeq (fIfS (fTB (fOp eqD (fV 0) (fLst (fNil))))
 (fRet (fC .non))
 (fPass))
 (fSeq (fSet (fLc (fItS (fV 0)) (gN 2) (fYes) (fOp addD (fTup (fCons (fC (.int 0)) (fNil))) (fV 2)) [2]) 1)
 (fSeq (fSet (fLst (fNil)) 3)
 (fSeq (fFor (fRg1 (fCall lenD (fCons (fOp ixD (fV 1) (fC (.int 0))) (fNil)))) (gN 4)
 (fEx (fMt "list" appendD (fV 3) (fCons (fCall tupOf (fCons (fLc (fRg1 (fCall lenD (fCons (fOp ixD (fV 1) (fC (.int 0))) (fNil)))) (gN 5) (fYes) (fCall maxD (fCons (fLc (fItS (fV 1)) (gN 2) (fYes) (fOp subD (fOp ixD (fV 2) (fV 4)) (fOp ixD (fV 2) (fV 5))) [2]) (fNil))) [5]) (fNil))) (fNil)))))
 (fRet (fCall tupOf (fCons (fV 3) (fNil)))))))
noncomputable def m__law_box : FM := body 1 6 p__law_box
noncomputable def p__law_cell  : FS :=
 fSeq (fIfS (fTB (fOp ltD (fV 1) (fCall lenD (fCons (fV 0) (fNil)))))
 (fRet (fOp ixD (fV 0) (fV 1)))
 (fPass))
 (fRet (fC (.int 0)))
noncomputable def m__law_cell : FM := body 2 2 p__law_cell
noncomputable def p__law_pick  : FS :=
 fSeq (fSet (fOp ixD (fV 0) (fC (.int 2))) 2)
 (fSeq (fAsg (fOp addD (fV 2) (fC (.int 1))) (gSb (fV 0) (fC (.int 2))))
 (fSeq (fIfS (fTB (fOp ltD (fV 1) (fC (.int 2))))
 (fRet (fC (.int 0)))
 (fPass))
 (fSeq (fIfS (fTAnd (fTB (fOp geD (fOp ixD (fV 0) (fC (.int 0))) (fOp powD (fC (.int 10)) (fC (.int 18))))) (fTB (fOp gtD (fOp ixD (fV 0) (fC (.int 1))) (fC (.int 0)))))
 (fSeq (fSet (fOp modD (fCall intD (fCons (fOp ixD (fV 0) (fC (.int 1))) (fNil))) (fV 1)) 3)
 (fSeq (fAsg (fOp fdivD (fOp ixD (fV 0) (fC (.int 1))) (fV 1)) (gSb (fV 0) (fC (.int 1))))
 (fRet (fV 3))))
 (fPass))
 (fSeq (fSet (fOp modD (fCall intD (fCons (fOp addD (fOp addD (fOp ixD (fV 0) (fC (.int 0))) (fOp mulD (fC (.int 7919)) (fV 2))) (fC (.int 13))) (fNil))) (fC (.int 2147483647))) 4)
 (fSeq (fSet (fOp modD (fCall intD (fCons (fOp mulD (fV 4) (fOp addD (fV 4) (fC (.int 48271)))) (fNil))) (fC (.int 2147483629))) 4)
 (fSeq (fSet (fOp modD (fCall intD (fCons (fOp addD (fOp mulD (fV 4) (fOp addD (fV 4) (fC (.int 69621)))) (fOp mulD (fC (.int 31)) (fV 2))) (fNil))) (fC (.int 2147483647))) 4)
 (fRet (fOp modD (fCall intD (fCons (fOp fdivD (fV 4) (fC (.int 9))) (fNil))) (fV 1)))))))))
noncomputable def m__law_pick : FM := body 2 5 p__law_pick
noncomputable def p__law_far  : FS :=
 fSeq (fIfS (fTB (fOp eqD (fOwn 2 m__law_pick (fCons (fV 0) (fCons (fC (.int 4)) (fNil)))) (fC (.int 0))))
 (fRet (fOp mulD (fOp subD (fOwn 2 m__law_pick (fCons (fV 0) (fCons (fC (.int 2000001)) (fNil)))) (fC (.int 1000000))) (fC (.int 990))))
 (fPass))
 (fRet (fOp subD (fOwn 2 m__law_pick (fCons (fV 0) (fCons (fC (.int 13)) (fNil)))) (fC (.int 6))))
noncomputable def m__law_far : FM := body 1 1 p__law_far
noncomputable def p__law_one  : FS :=
 fRet (fOp ixD (fV 1) (fOwn 2 m__law_pick (fCons (fV 0) (fCons (fCall lenD (fCons (fV 1) (fNil))) (fNil)))))
noncomputable def m__law_one : FM := body 2 2 p__law_one
noncomputable def p__law_marks  : FS :=
 fSeq (fSet (fLst (fNil)) 3)
 (fSeq (fIfS (fTB (fOp eqD (fOwn 2 m__law_pick (fCons (fV 0) (fCons (fC (.int 2)) (fNil)))) (fC (.int 0))))
 (fSet (fLst (fCons (fUn negD (fC (.int 1))) (fCons (fC (.int 0)) (fCons (fC (.int 1)) (fNil))))) 3)
 (fPass))
 (fSeq (fFor (fRg1 (fOwn 2 m__law_pick (fCons (fV 0) (fCons (fC (.int 10)) (fNil))))) (gN 4)
 (fSeq (fSet (fOwn 2 m__law_pick (fCons (fV 0) (fCons (fC (.int 6)) (fNil)))) 5)
 (fSeq (fSet (fOwn 1 m__law_far (fCons (fV 0) (fNil))) 6)
 (fSeq (fIfS (fTB (fOp gtD (fV 5) (fC (.int 1))))
 (fSet (fOwn 2 m__law_one (fCons (fV 0) (fCons (fOwn 2 m__law_one (fCons (fV 0) (fCons (fOwn 2 m__law_one (fCons (fV 0) (fCons (fV 2) (fNil)))) (fNil)))) (fNil)))) 6)
 (fIfS (fTAnd (fTB (fOp eqD (fV 5) (fC (.int 1)))) (fTB (fOp neD (fV 1) (fTup (fNil)))))
 (fSet (fOwn 2 m__law_one (fCons (fV 0) (fCons (fOwn 2 m__law_one (fCons (fV 0) (fCons (fV 1) (fNil)))) (fNil)))) 6)
 (fPass)))
 (fEx (fMt "list" appendD (fV 3) (fCons (fOp addD (fV 6) (fOwn 2 m__law_one (fCons (fV 0) (fCons (fLst (fCons (fUn negD (fC (.int 2))) (fCons (fUn negD (fC (.int 1))) (fCons (fC (.int 0)) (fCons (fC (.int 0)) (fCons (fC (.int 1)) (fCons (fC (.int 2)) (fNil)))))))) (fNil))))) (fNil))))))))
 (fRet (fCall tupOf (fCons (fUn srtSetD (fV 3)) (fNil))))))
noncomputable def m__law_marks : FM := body 3 7 p__law_marks
noncomputable def p__law_points  : FS :=
 fSeq (fSet (fLst (fNil)) 2)
 (fSeq (fFor (fRg1 (fOp addD (fC (.int 1)) (fOwn 2 m__law_pick (fCons (fV 0) (fCons (fCall maxD (fCons (fC (.int 4)) (fCons (fOp addD (fCall lenD (fCons (fV 1) (fNil))) (fC (.int 1))) (fNil)))) (fNil)))))) (gN 3)
 (fEx (fMt "list" appendD (fV 2) (fCons (fCall tupOf (fCons (fLc (fItS (fV 1)) (gN 4) (fYes) (fOp addD (fOp ixD (fV 4) (fC (.int 0))) (fOwn 2 m__law_pick (fCons (fV 0) (fCons (fOp addD (fOp subD (fOp ixD (fV 4) (fC (.int 1))) (fOp ixD (fV 4) (fC (.int 0)))) (fC (.int 1))) (fNil))))) [4]) (fNil))) (fNil)))))
 (fRet (fV 2)))
noncomputable def m__law_points : FM := body 2 5 p__law_points
noncomputable def p__law_ranges  : FS :=
 fSeq (fSet (fLst (fNil)) 2)
 (fSeq (fFor (fRg1 (fV 1)) (gN 3)
 (fSeq (fSet (fOwn 1 m__law_far (fCons (fV 0) (fNil))) 4)
 (fEx (fMt "list" appendD (fV 2) (fCons (fTup (fCons (fV 4) (fCons (fOp addD (fV 4) (fOwn 2 m__law_one (fCons (fV 0) (fCons (fLst (fCons (fC (.int 0)) (fCons (fC (.int 1)) (fCons (fC (.int 2)) (fCons (fC (.int 4)) (fCons (fC (.int 4)) (fCons (fC (.int 9)) (fCons (fC (.int 40)) (fCons (fC (.int 2000)) (fNil)))))))))) (fNil))))) (fNil)))) (fNil))))))
 (fRet (fCall tupOf (fCons (fV 2) (fNil)))))
noncomputable def m__law_ranges : FM := body 2 5 p__law_ranges
noncomputable def p__law_below  : FS :=
 fSeq (fFor (fRg1 (fCall lenD (fCons (fV 1) (fNil)))) (gN 2)
 (fFor (fRg1 (fCall lenD (fCons (fV 1) (fNil)))) (gN 3)
 (fIfS (fTB (fOp gtD (fOp ixD (fOp ixD (fV 0) (fV 2)) (fV 3)) (fOp ixD (fOp ixD (fV 1) (fV 2)) (fV 3))))
 (fRet (fC (.bl false)))
 (fPass))))
 (fRet (fC (.bl true)))
noncomputable def m__law_below : FM := body 2 4 p__law_below
noncomputable def p__law_closed  : FS :=
 fSeq (fSet (fLc (fItS (fV 0)) (gN 2) (fYes) (fCall lstOf (fCons (fV 2) (fNil))) [2]) 1)
 (fSeq (fFor (fRg1 (fCall lenD (fCons (fV 0) (fNil)))) (gN 3)
 (fFor (fRg1 (fCall lenD (fCons (fV 0) (fNil)))) (gN 4)
 (fFor (fRg1 (fCall lenD (fCons (fV 0) (fNil)))) (gN 5)
 (fAsg (fCall minD (fCons (fOp ixD (fOp ixD (fV 1) (fV 4)) (fV 5)) (fCons (fOp addD (fOp ixD (fOp ixD (fV 1) (fV 4)) (fV 3)) (fOp ixD (fOp ixD (fV 1) (fV 3)) (fV 5))) (fNil)))) (gSb (fOp ixD (fV 1) (fV 4)) (fV 5))))))
 (fRet (fCall tupOf (fCons (fLc (fItS (fV 1)) (gN 2) (fYes) (fCall tupOf (fCons (fV 2) (fNil))) [2]) (fNil)))))
noncomputable def m__law_closed : FM := body 1 6 p__law_closed
noncomputable def p__law_widest  : FS :=
 fSeq (fSet (fOp addD (fLst (fCons (fTup (fCons (fC (.int 0)) (fCons (fC (.int 0)) (fNil)))) (fNil))) (fCall lstOf (fCons (fV 0) (fNil)))) 1)
 (fSeq (fSet (fLst (fNil)) 2)
 (fSeq (fFor (fRg1 (fCall lenD (fCons (fV 1) (fNil)))) (gN 3)
 (fEx (fMt "list" appendD (fV 2) (fCons (fLc (fRg1 (fCall lenD (fCons (fV 1) (fNil)))) (gN 4) (fYes) (fOp mulD (fOp subD (fOp ixD (fOp ixD (fV 1) (fV 3)) (fC (.int 1))) (fOp ixD (fOp ixD (fV 1) (fV 4)) (fC (.int 0)))) (fCall intD (fCons (fOp neD (fV 3) (fV 4)) (fNil)))) [4]) (fNil)))))
 (fRet (fV 2))))
noncomputable def m__law_widest : FM := body 1 5 p__law_widest
noncomputable def p__law_due  : FS :=
 fSeq (fSet (fOwn 1 m__law_widest (fCons (fV 1) (fNil))) 3)
 (fSeq (fFor (fRg1 (fCall lenD (fCons (fV 3) (fNil)))) (gN 4)
 (fFor (fRg1 (fCall lenD (fCons (fV 3) (fNil)))) (gN 5)
 (fIfS (fTB (fOp neD (fV 4) (fV 5)))
 (fSeq (fSet (fLc (fItS (fV 2)) (gN 7) (fTB (fOp geD (fV 7) (fOp ixD (fOp ixD (fV 0) (fV 4)) (fV 5)))) (fV 7) [7]) 6)
 (fAsg (fCall minD (fCons (fOp addD (fV 6) (fLst (fCons (fOp ixD (fOp ixD (fV 3) (fV 4)) (fV 5)) (fNil)))) (fNil))) (gSb (fOp ixD (fV 3) (fV 4)) (fV 5))))
 (fPass))))
 (fRet (fOwn 1 m__law_closed (fCons (fV 3) (fNil)))))
noncomputable def m__law_due : FM := body 3 8 p__law_due
noncomputable def p__law_same (r__law_same : FM) : FS :=
 fSeq (fIfS (fTOr (fT (fUn (isiD "tuple") (fV 1))) (fT (fUn (isiD "list") (fV 1))))
 (fSeq (fIfS (fTOr (fTB (fOp neD (fUn (isiD "tuple") (fV 1)) (fUn (isiD "tuple") (fV 0)))) (fTB (fOp neD (fUn (isiD "list") (fV 1)) (fUn (isiD "list") (fV 0)))))
 (fRet (fC (.bl false)))
 (fPass))
 (fSeq (fIfS (fTB (fOp neD (fCall lenD (fCons (fV 0) (fNil))) (fCall lenD (fCons (fV 1) (fNil)))))
 (fRet (fC (.bl false)))
 (fPass))
 (fSeq (fFor (fRg1 (fCall lenD (fCons (fV 1) (fNil)))) (gN 2)
 (fIfS (fTNot (fT (fOwn 2 r__law_same (fCons (fOp ixD (fV 0) (fV 2)) (fCons (fOp ixD (fV 1) (fV 2)) (fNil))))))
 (fRet (fC (.bl false)))
 (fPass)))
 (fRet (fC (.bl true))))))
 (fPass))
 (fSeq (fIfS (fTB (fOp isD (fV 1) (fC .non)))
 (fRet (fOp isD (fV 0) (fC .non)))
 (fPass))
 (fSeq (fIfS (fT (fUn (isiD "bool") (fV 1)))
 (fRet (fAnd (fUn (isiD "bool") (fV 0)) (fOp eqD (fV 0) (fV 1))))
 (fPass))
 (fSeq (fIfS (fT (fUn (isiD "int") (fV 1)))
 (fRet (fAnd (fUn (isiD "int") (fV 0)) (fAnd (fNot (fUn (isiD "bool") (fV 0))) (fOp eqD (fV 0) (fV 1)))))
 (fPass))
 (fRet (fAnd (fUn (isiD "str") (fV 0)) (fOp eqD (fV 0) (fV 1)))))))
noncomputable def m__law_same : Nat → FM
  | 0 => fun _ _ => .bad
  | n + 1 => body 2 3 (p__law_same (m__law_same n))
noncomputable def p_frozen  : FS :=
 fRet (fCall tupOf (fCons (fLc (fItS (fV 0)) (gN 1) (fYes) (fCall tupOf (fCons (fV 1) (fNil))) [1]) (fNil)))
noncomputable def m_frozen : FM := body 1 2 p_frozen
noncomputable def p_has_negative  : FS :=
 fSeq (fFor (fRg1 (fCall lenD (fCons (fV 0) (fNil)))) (gN 1)
 (fIfS (fTB (fOp ltD (fOp ixD (fOp ixD (fV 0) (fV 1)) (fV 1)) (fC (.int 0))))
 (fRet (fC (.bl true)))
 (fPass)))
 (fRet (fC (.bl false)))
noncomputable def m_has_negative : FM := body 1 2 p_has_negative
noncomputable def p_shorten  : FS :=
 fSeq (fSet (fCall lenD (fCons (fV 0) (fNil))) 2)
 (fSeq (fSet (fCall lstOf (fCons (fOp ixD (fV 0) (fV 1)) (fNil))) 3)
 (fFor (fRg1 (fV 2)) (gN 4)
 (fSeq (fSet (fOp ixD (fV 0) (fV 4)) 5)
 (fSeq (fSet (fOp ixD (fV 5) (fV 1)) 6)
 (fFor (fRg1 (fV 2)) (gN 7)
 (fIfS (fTB (fOp ltD (fOp addD (fV 6) (fOp ixD (fV 3) (fV 7))) (fOp ixD (fV 5) (fV 7))))
 (fAsg (fOp addD (fV 6) (fOp ixD (fV 3) (fV 7))) (gSb (fV 5) (fV 7)))
 (fPass)))))))
noncomputable def m_shorten : FM := body 2 8 p_shorten
noncomputable def p_close  : FS :=
 fSeq (fSet (fLc (fItS (fV 0)) (gN 2) (fYes) (fCall lstOf (fCons (fV 2) (fNil))) [2]) 1)
 (fSeq (fSet (fCall lenD (fCons (fV 1) (fNil))) 3)
 (fSeq (fIfS (fT (fOwn 1 m_has_negative (fCons (fV 1) (fNil))))
 (fRet (fC .non))
 (fPass))
 (fSeq (fFor (fRg1 (fV 3)) (gN 4)
 (fAsg (fC (.int 0)) (gSb (fOp ixD (fV 1) (fV 4)) (fV 4))))
 (fSeq (fFor (fRg1 (fV 3)) (gN 5)
 (fSeq (fEx (fOwn 2 m_shorten (fCons (fV 1) (fCons (fV 5) (fNil)))))
 (fIfS (fT (fOwn 1 m_has_negative (fCons (fV 1) (fNil))))
 (fRet (fC .non))
 (fPass))))
 (fRet (fOwn 1 m_frozen (fCons (fV 1) (fNil))))))))
noncomputable def m_close : FM := body 1 6 p_close
noncomputable def p_round_up  : FS :=
 fSeq (fPar 3 4 (fCons (fC (.int 0)) (fCons (fCall lenD (fCons (fV 1) (fNil))) (fNil))))
 (fSeq (loopW (fTB (fOp ltD (fV 3) (fV 4)))
 (fSeq (fSet (fOp fdivD (fOp addD (fV 3) (fV 4)) (fC (.int 2))) 5)
 (fIfS (fTB (fOp ltD (fOp ixD (fV 1) (fV 5)) (fV 0)))
 (fSet (fOp addD (fV 5) (fC (.int 1))) 3)
 (fSet (fV 5) 4))) 1099511627776)
 (fSeq (fIfS (fTB (fOp eqD (fV 3) (fCall lenD (fCons (fV 1) (fNil)))))
 (fRet (fV 2))
 (fPass))
 (fRet (fCall minD (fCons (fOp ixD (fV 1) (fV 3)) (fCons (fV 2) (fNil)))))))
noncomputable def m_round_up : FM := body 3 6 p_round_up
noncomputable def p_round_box  : FS :=
 fSeq (fIfS (fTB (fOp isD (fV 0) (fC .non)))
 (fRet (fC .non))
 (fPass))
 (fSeq (fSet (fOp addD (fTup (fCons (fTup (fCons (fC (.int 0)) (fCons (fC (.int 0)) (fNil)))) (fNil))) (fV 1)) 3)
 (fSeq (fSet (fLst (fNil)) 4)
 (fSeq (fFor (fEnumA (fV 0)) (gTp 2 (gCs (gN 5) (gCs (gN 6) (gNl))))
 (fSeq (fSet (fLst (fNil)) 7)
 (fSeq (fFor (fEnumA (fV 6)) (gTp 2 (gCs (gN 8) (gCs (gN 9) (gNl))))
 (fIfS (fTB (fOp eqD (fV 5) (fV 8)))
 (fEx (fMt "list" appendD (fV 7) (fCons (fV 9) (fNil))))
 (fEx (fMt "list" appendD (fV 7) (fCons (fOwn 3 m_round_up (fCons (fV 9) (fCons (fV 2) (fCons (fOp subD (fOp ixD (fOp ixD (fV 3) (fV 5)) (fC (.int 1))) (fOp ixD (fOp ixD (fV 3) (fV 8)) (fC (.int 0)))) (fNil))))) (fNil))))))
 (fEx (fMt "list" appendD (fV 4) (fCons (fCall tupOf (fCons (fV 7) (fNil))) (fNil)))))))
 (fRet (fOwn 1 m_close (fCons (fCall tupOf (fCons (fV 4) (fNil))) (fNil)))))))
noncomputable def m_round_box : FM := body 3 10 p_round_box
noncomputable def p__law_right  : FS :=
 fSeq (fSet (fLst (fNil)) 3)
 (fSeq (fFor (fItS (fV 0)) (gN 4)
 (fSeq (fSet (fOwn 3 m_round_box (fCons (fV 4) (fCons (fV 1) (fCons (fV 2) (fNil))))) 5)
 (fSeq (fIfS (fTNot (fT (fOwn 2 (m__law_same 20) (fCons (fV 5) (fCons (fOwn 3 m__law_due (fCons (fV 4) (fCons (fV 1) (fCons (fV 2) (fNil))))) (fNil))))))
 (fRet (fC (.bl false)))
 (fPass))
 (fSeq (fIfS (fTOr (fTNot (fT (fOwn 2 m__law_below (fCons (fV 4) (fCons (fV 5) (fNil)))))) (fTNot (fT (fOwn 2 m__law_below (fCons (fV 5) (fCons (fOwn 1 m__law_widest (fCons (fV 1) (fNil))) (fNil)))))))
 (fRet (fC (.bl false)))
 (fPass))
 (fSeq (fIfS (fTNot (fT (fOwn 2 (m__law_same 20) (fCons (fOwn 3 m_round_box (fCons (fV 5) (fCons (fV 1) (fCons (fV 2) (fNil))))) (fCons (fV 5) (fNil))))))
 (fRet (fC (.bl false)))
 (fPass))
 (fEx (fMt "list" appendD (fV 3) (fCons (fV 5) (fNil)))))))))
 (fRet (fAnd (fOwn 2 m__law_below (fCons (fOp ixD (fV 3) (fC (.int 0))) (fCons (fOp ixD (fV 3) (fC (.int 1))) (fNil)))) (fOp isD (fOwn 3 m_round_box (fCons (fC .non) (fCons (fV 1) (fCons (fV 2) (fNil))))) (fC .non)))))
noncomputable def m__law_right : FM := body 3 6 p__law_right
noncomputable def p__law_source  : FS :=
 fRet (fLst (fCons (fV 0) (fCons (fV 0) (fCons (fC (.int 0)) (fNil)))))
noncomputable def m__law_source : FM := body 1 1 p__law_source
noncomputable def p_law  : FS :=
 fSeq (fSet (fOwn 1 m__law_source (fCons (fOp addD (fOp addD (fOwn 2 m__law_cell (fCons (fV 0) (fCons (fC (.int 0)) (fNil)))) (fOp mulD (fC (.int 4099)) (fOwn 2 m__law_cell (fCons (fV 0) (fCons (fC (.int 1)) (fNil)))))) (fOp mulD (fC (.int 7368787)) (fOwn 2 m__law_cell (fCons (fV 0) (fCons (fC (.int 2)) (fNil)))))) (fNil))) 1)
 (fSeq (fSet (fOwn 2 m__law_pick (fCons (fV 1) (fCons (fC (.int 4)) (fNil)))) 2)
 (fSeq (fIfS (fTB (fOp eqD (fOwn 2 m__law_pick (fCons (fV 1) (fCons (fC (.int 8)) (fNil)))) (fC (.int 0))))
 (fSet (fOwn 2 m__law_pick (fCons (fV 1) (fCons (fC (.int 10)) (fNil)))) 2)
 (fPass))
 (fSeq (fSet (fOwn 2 m__law_ranges (fCons (fV 1) (fCons (fV 2) (fNil)))) 3)
 (fSeq (fSet (fOwn 2 m__law_points (fCons (fV 1) (fCons (fV 3) (fNil)))) 4)
 (fSeq (fSet (fLst (fCons (fOwn 1 m__law_box (fCons (fV 4) (fNil))) (fCons (fOwn 1 m__law_box (fCons (fOp addD (fV 4) (fOwn 2 m__law_points (fCons (fV 1) (fCons (fV 3) (fNil))))) (fNil))) (fNil)))) 5)
 (fSeq (fSet (fOwn 3 m__law_marks (fCons (fV 1) (fCons (fV 3) (fCons (fV 5) (fNil))))) 6)
 (fSeq (fSet (fOwn 3 m__law_marks (fCons (fV 1) (fCons (fV 3) (fCons (fV 5) (fNil))))) 7)
 (fSeq (fIfS (fTOr (fTNot (fT (fOwn 3 m__law_right (fCons (fV 5) (fCons (fV 3) (fCons (fV 6) (fNil))))))) (fTNot (fT (fOwn 3 m__law_right (fCons (fV 5) (fCons (fV 3) (fCons (fV 7) (fNil))))))))
 (fRet (fC (.bl false)))
 (fPass))
 (fRet (fOwn 3 m__law_right (fCons (fV 5) (fCons (fV 3) (fCons (fV 6) (fNil))))))))))))))
noncomputable def m_law : FM := body 1 8 p_law
/-! ### the walk of each def -/
section
variable {P : Program} {w : World} {K : PySem.W.Frag} {mg : Str → Option Value} {base : Heap}
theorem ad__law_box (T : Txt K mg) : ADef P w K mg base 1 T.a__law_box T.d__law_box ["_law_points_here"] m__law_box :=
 adef T.F__law_box sc__law_box fun cdv A outer s H E hr =>
 ass_cons (as_if (at_cmp (aop_eq hr.units) (ae_v 0) (ae_lst (aa_nil)))
 (ass_one (as_ret (ae_non)))
 (ass_nil))
 (ass_cons (as_set (i := 1) sc__law_box.nd (ae_lc [("_law_point", 2)] (by rfl) sc__law_box.nd (ai_seq (ae_v 0)) (blkOk_by (N := n__law_box) (sc := defScope s__law_box) (by decide +kernel)) (tgt_name (by decide)) (fun _ _ _ _ _ => pg_name (i := 2) sc__law_box.nd (by rfl) (by first | exact Or.inl rfl | exact Or.inr rfl)) (fun _ _ _ _ _ => ats_nil) (fun _ _ _ _ _ => ae_op aop_add (ae_tup (aa_cons (ae_int) (aa_nil))) (ae_v 2))))
 (ass_cons (as_set (i := 3) sc__law_box.nd (ae_lst (aa_nil)))
 (ass_cons (as_for PassesOwn.never (by rfl) (ai_rg1 (by rfl) T.n_range (ae_callB acall_len (by rfl) T.n_len PySem.boot_len (aa_cons (ae_ix (hu_of hr) (ae_v 1) (ae_int)) (aa_nil)))) (ag_name sc__law_box.nd)
 (ass_one (as_ex (ae_mt PySem.F.plainAttrs_list PySem.F.slot_list_append PySem.F.type_list_append amt_append (ae_v 3) (aa_cons (ae_callT acall_tuple (by rfl) T.n_tuple PyProof.Rows.boot_tuple (aa_cons (ae_lc [("_law_j", 5)] (by rfl) sc__law_box.nd (ai_rg1 (by rfl) T.n_range (ae_callB acall_len (by rfl) T.n_len PySem.boot_len (aa_cons (ae_ix (hu_of hr) (ae_v 1) (ae_int)) (aa_nil)))) (blkOk_by (N := n__law_box) (sc := defScope s__law_box) (by decide +kernel)) (tgt_name (by decide)) (fun _ _ _ _ _ => pg_name (i := 5) sc__law_box.nd (by rfl) (by first | exact Or.inl rfl | exact Or.inr rfl)) (fun _ _ _ _ _ => ats_nil) (fun _ _ _ _ _ => ae_callB (acall_max (by rfl)) (by rfl) T.n_max PyProof.Rows.boot_max (aa_cons (ae_lc [("_law_point", 2)] (by rfl) sc__law_box.nd (ai_seq (ae_v 1)) (by change BlkOk n__law_box (PySem.Scope.mk _ _ _ _ _) _ _; exact blkOk_by (by rfl)) (tgt_name (by decide)) (fun _ _ _ _ _ => pg_name (i := 2) sc__law_box.nd (by rfl) (by first | exact Or.inl rfl | exact Or.inr rfl)) (fun _ _ _ _ _ => ats_nil) (fun _ _ _ _ _ => ae_op aop_sub (ae_ix (hu_of hr) (ae_v 2) (ae_v 4)) (ae_ix (hu_of hr) (ae_v 2) (ae_v 5)))) (aa_nil)))) (aa_nil))) (aa_nil))))))
 (ass_one (as_ret (ae_callT acall_tuple (by rfl) T.n_tuple PyProof.Rows.boot_tuple (aa_cons (ae_v 3) (aa_nil))))))))
theorem ad__law_cell (T : Txt K mg) : ADef P w K mg base 1 T.a__law_cell T.d__law_cell ["_law_script", "_law_at"] m__law_cell :=
 adef T.F__law_cell sc__law_cell fun cdv A outer s H E hr =>
 ass_cons (as_if (at_cmp aop_lt (ae_v 1) (ae_callB acall_len (by rfl) T.n_len PySem.boot_len (aa_cons (ae_v 0) (aa_nil))))
 (ass_one (as_ret (ae_ix (hu_of hr) (ae_v 0) (ae_v 1))))
 (ass_nil))
 (ass_one (as_ret (ae_int)))
theorem ad__law_pick (T : Txt K mg) : ADef P w K mg base 1 T.a__law_pick T.d__law_pick ["_law_source_here", "_law_size"] m__law_pick :=
 adef T.F__law_pick sc__law_pick fun cdv A outer s H E hr =>
 ass_cons (as_set (i := 2) sc__law_pick.nd (ae_ix (hu_of hr) (ae_v 0) (ae_int)))
 (ass_cons (as_asg (ae_op aop_add (ae_v 2) (ae_int)) (ag_sub (hu_of hr) (ae_v 0) (ae_int)))
 (ass_cons (as_if (at_cmp aop_lt (ae_v 1) (ae_int))
 (ass_one (as_ret (ae_int)))
 (ass_nil))
 (ass_cons (as_if ((aw_and (at_cmp aop_ge (ae_ix (hu_of hr) (ae_v 0) (ae_int)) (ae_op aop_pow (ae_int) (ae_int))) (aw_and1 (at_cmp aop_gt (ae_ix (hu_of hr) (ae_v 0) (ae_int)) (ae_int)))).pt)
 (ass_cons (as_set (i := 3) sc__law_pick.nd (ae_op aop_mod (ae_callT acall_int (by rfl) T.n_int PyProof.Rows.boot_int (aa_cons (ae_ix (hu_of hr) (ae_v 0) (ae_int)) (aa_nil))) (ae_v 1)))
 (ass_cons (as_asg (ae_op aop_fdiv (ae_ix (hu_of hr) (ae_v 0) (ae_int)) (ae_v 1)) (ag_sub (hu_of hr) (ae_v 0) (ae_int)))
 (ass_one (as_ret (ae_v 3)))))
 (ass_nil))
 (ass_cons (as_set (i := 4) sc__law_pick.nd (ae_op aop_mod (ae_callT acall_int (by rfl) T.n_int PyProof.Rows.boot_int (aa_cons (ae_op aop_add (ae_op aop_add (ae_ix (hu_of hr) (ae_v 0) (ae_int)) (ae_op aop_mul (ae_int) (ae_v 2))) (ae_int)) (aa_nil))) (ae_int)))
 (ass_cons (as_set (i := 4) sc__law_pick.nd (ae_op aop_mod (ae_callT acall_int (by rfl) T.n_int PyProof.Rows.boot_int (aa_cons (ae_op aop_mul (ae_v 4) (ae_op aop_add (ae_v 4) (ae_int))) (aa_nil))) (ae_int)))
 (ass_cons (as_set (i := 4) sc__law_pick.nd (ae_op aop_mod (ae_callT acall_int (by rfl) T.n_int PyProof.Rows.boot_int (aa_cons (ae_op aop_add (ae_op aop_mul (ae_v 4) (ae_op aop_add (ae_v 4) (ae_int))) (ae_op aop_mul (ae_int) (ae_v 2))) (aa_nil))) (ae_int)))
 (ass_one (as_ret (ae_op aop_mod (ae_callT acall_int (by rfl) T.n_int PyProof.Rows.boot_int (aa_cons (ae_op aop_fdiv (ae_v 4) (ae_int)) (aa_nil))) (ae_v 1))))))))))
theorem ad__law_far (T : Txt K mg) : ADef P w K mg base 2 T.a__law_far T.d__law_far ["_law_source_here"] m__law_far :=
 adef T.F__law_far sc__law_far fun cdv A outer s H E hr =>
 ass_cons (as_if (at_cmp (aop_eq hr.units) (ae_call (ad__law_pick T) (hr.mono (by omega)) (by rfl) T.g__law_pick T.F__law_pick.kp T.b__law_pick (aa_cons (ae_v 0) (aa_cons (ae_int) (aa_nil)))) (ae_int))
 (ass_one (as_ret (ae_op aop_mul (ae_op aop_sub (ae_call (ad__law_pick T) (hr.mono (by omega)) (by rfl) T.g__law_pick T.F__law_pick.kp T.b__law_pick (aa_cons (ae_v 0) (aa_cons (ae_int) (aa_nil)))) (ae_int)) (ae_int))))
 (ass_nil))
 (ass_one (as_ret (ae_op aop_sub (ae_call (ad__law_pick T) (hr.mono (by omega)) (by rfl) T.g__law_pick T.F__law_pick.kp T.b__law_pick (aa_cons (ae_v 0) (aa_cons (ae_int) (aa_nil)))) (ae_int))))
theorem ad__law_one (T : Txt K mg) : ADef P w K mg base 2 T.a__law_one T.d__law_one ["_law_source_here", "_law_row"] m__law_one :=
 adef T.F__law_one sc__law_one fun cdv A outer s H E hr =>
 ass_one (as_ret (ae_ix (hu_of hr) (ae_v 1) (ae_call (ad__law_pick T) (hr.mono (by omega)) (by rfl) T.g__law_pick T.F__law_pick.kp T.b__law_pick (aa_cons (ae_v 0) (aa_cons (ae_callB acall_len (by rfl) T.n_len PySem.boot_len (aa_cons (ae_v 1) (aa_nil))) (aa_nil))))))
theorem ad__law_marks (T : Txt K mg) : ADef P w K mg base 3 T.a__law_marks T.d__law_marks ["_law_source_here", "_law_ranges_here", "_law_boxes"] m__law_marks :=
 adef T.F__law_marks sc__law_marks fun cdv A outer s H E hr =>
 ass_cons (as_set (i := 3) sc__law_marks.nd (ae_lst (aa_nil)))
 (ass_cons (as_if (at_cmp (aop_eq hr.units) (ae_call (ad__law_pick T) (hr.mono (by omega)) (by rfl) T.g__law_pick T.F__law_pick.kp T.b__law_pick (aa_cons (ae_v 0) (aa_cons (ae_int) (aa_nil)))) (ae_int))
 (ass_one (as_set (i := 3) sc__law_marks.nd (ae_lst (aa_cons (ae_un aun_neg (ae_int)) (aa_cons (ae_int) (aa_cons (ae_int) (aa_nil)))))))
 (ass_nil))
 (ass_cons (as_for PassesOwn.never (by rfl) (ai_rg1 (by rfl) T.n_range (ae_call (ad__law_pick T) (hr.mono (by omega)) (by rfl) T.g__law_pick T.F__law_pick.kp T.b__law_pick (aa_cons (ae_v 0) (aa_cons (ae_int) (aa_nil))))) (ag_name sc__law_marks.nd)
 (ass_cons (as_set (i := 5) sc__law_marks.nd (ae_call (ad__law_pick T) (hr.mono (by omega)) (by rfl) T.g__law_pick T.F__law_pick.kp T.b__law_pick (aa_cons (ae_v 0) (aa_cons (ae_int) (aa_nil)))))
 (ass_cons (as_set (i := 6) sc__law_marks.nd (ae_call (ad__law_far T) (hr.mono (by omega)) (by rfl) T.g__law_far T.F__law_far.kp T.b__law_far (aa_cons (ae_v 0) (aa_nil))))
 (ass_cons (as_if (at_cmp aop_gt (ae_v 5) (ae_int))
 (ass_one (as_set (i := 6) sc__law_marks.nd (ae_call (ad__law_one T) (hr.mono (by omega)) (by rfl) T.g__law_one T.F__law_one.kp T.b__law_one (aa_cons (ae_v 0) (aa_cons (ae_call (ad__law_one T) (hr.mono (by omega)) (by rfl) T.g__law_one T.F__law_one.kp T.b__law_one (aa_cons (ae_v 0) (aa_cons (ae_call (ad__law_one T) (hr.mono (by omega)) (by rfl) T.g__law_one T.F__law_one.kp T.b__law_one (aa_cons (ae_v 0) (aa_cons (ae_v 2) (aa_nil)))) (aa_nil)))) (aa_nil))))))
 (ass_one (as_if ((aw_and (at_cmp (aop_eq hr.units) (ae_v 5) (ae_int)) (aw_and1 (at_cmp (aop_ne hr.units) (ae_v 1) (ae_tup (aa_nil))))).pt)
 (ass_one (as_set (i := 6) sc__law_marks.nd (ae_call (ad__law_one T) (hr.mono (by omega)) (by rfl) T.g__law_one T.F__law_one.kp T.b__law_one (aa_cons (ae_v 0) (aa_cons (ae_call (ad__law_one T) (hr.mono (by omega)) (by rfl) T.g__law_one T.F__law_one.kp T.b__law_one (aa_cons (ae_v 0) (aa_cons (ae_v 1) (aa_nil)))) (aa_nil))))))
 (ass_nil))))
 (ass_one (as_ex (ae_mt PySem.F.plainAttrs_list PySem.F.slot_list_append PySem.F.type_list_append amt_append (ae_v 3) (aa_cons (ae_op aop_add (ae_v 6) (ae_call (ad__law_one T) (hr.mono (by omega)) (by rfl) T.g__law_one T.F__law_one.kp T.b__law_one (aa_cons (ae_v 0) (aa_cons (ae_lst (aa_cons (ae_un aun_neg (ae_int)) (aa_cons (ae_un aun_neg (ae_int)) (aa_cons (ae_int) (aa_cons (ae_int) (aa_cons (ae_int) (aa_cons (ae_int) (aa_nil)))))))) (aa_nil))))) (aa_nil)))))))))
 (ass_one (as_ret (ae_callT acall_tuple (by rfl) T.n_tuple PyProof.Rows.boot_tuple (aa_cons (ae_srtSet (by rfl) (by rfl) T.n_sorted (by rfl) T.n_set (ae_v 3)) (aa_nil)))))))
theorem ad__law_points (T : Txt K mg) : ADef P w K mg base 2 T.a__law_points T.d__law_points ["_law_source_here", "_law_ranges_here"] m__law_points :=
 adef T.F__law_points sc__law_points fun cdv A outer s H E hr =>
 ass_cons (as_set (i := 2) sc__law_points.nd (ae_lst (aa_nil)))
 (ass_cons (as_for PassesOwn.never (by rfl) (ai_rg1 (by rfl) T.n_range (ae_op aop_add (ae_int) (ae_call (ad__law_pick T) (hr.mono (by omega)) (by rfl) T.g__law_pick T.F__law_pick.kp T.b__law_pick (aa_cons (ae_v 0) (aa_cons (ae_callB (acall_max (by rfl)) (by rfl) T.n_max PyProof.Rows.boot_max (aa_cons (ae_int) (aa_cons (ae_op aop_add (ae_callB acall_len (by rfl) T.n_len PySem.boot_len (aa_cons (ae_v 1) (aa_nil))) (ae_int)) (aa_nil)))) (aa_nil)))))) (ag_name sc__law_points.nd)
 (ass_one (as_ex (ae_mt PySem.F.plainAttrs_list PySem.F.slot_list_append PySem.F.type_list_append amt_append (ae_v 2) (aa_cons (ae_callT acall_tuple (by rfl) T.n_tuple PyProof.Rows.boot_tuple (aa_cons (ae_lc [("_law_pair", 4)] (by rfl) sc__law_points.nd (ai_seq (ae_v 1)) (blkOk_by (N := n__law_points) (sc := defScope s__law_points) (by decide +kernel)) (tgt_name (by decide)) (fun _ _ _ _ _ => pg_name (i := 4) sc__law_points.nd (by rfl) (by first | exact Or.inl rfl | exact Or.inr rfl)) (fun _ _ _ _ _ => ats_nil) (fun _ _ _ _ _ => ae_op aop_add (ae_ix (hu_of hr) (ae_v 4) (ae_int)) (ae_call (ad__law_pick T) (hr.mono (by omega)) (by rfl) T.g__law_pick T.F__law_pick.kp T.b__law_pick (aa_cons (ae_v 0) (aa_cons (ae_op aop_add (ae_op aop_sub (ae_ix (hu_of hr) (ae_v 4) (ae_int)) (ae_ix (hu_of hr) (ae_v 4) (ae_int))) (ae_int)) (aa_nil)))))) (aa_nil))) (aa_nil))))))
 (ass_one (as_ret (ae_v 2))))
theorem ad__law_ranges (T : Txt K mg) : ADef P w K mg base 3 T.a__law_ranges T.d__law_ranges ["_law_source_here", "_law_size"] m__law_ranges :=
 adef T.F__law_ranges sc__law_ranges fun cdv A outer s H E hr =>
 ass_cons (as_set (i := 2) sc__law_ranges.nd (ae_lst (aa_nil)))
 (ass_cons (as_for PassesOwn.never (by rfl) (ai_rg1 (by rfl) T.n_range (ae_v 1)) (ag_name sc__law_ranges.nd)
 (ass_cons (as_set (i := 4) sc__law_ranges.nd (ae_call (ad__law_far T) (hr.mono (by omega)) (by rfl) T.g__law_far T.F__law_far.kp T.b__law_far (aa_cons (ae_v 0) (aa_nil))))
 (ass_one (as_ex (ae_mt PySem.F.plainAttrs_list PySem.F.slot_list_append PySem.F.type_list_append amt_append (ae_v 2) (aa_cons (ae_tup (aa_cons (ae_v 4) (aa_cons (ae_op aop_add (ae_v 4) (ae_call (ad__law_one T) (hr.mono (by omega)) (by rfl) T.g__law_one T.F__law_one.kp T.b__law_one (aa_cons (ae_v 0) (aa_cons (ae_lst (aa_cons (ae_int) (aa_cons (ae_int) (aa_cons (ae_int) (aa_cons (ae_int) (aa_cons (ae_int) (aa_cons (ae_int) (aa_cons (ae_int) (aa_cons (ae_int) (aa_nil)))))))))) (aa_nil))))) (aa_nil)))) (aa_nil)))))))
 (ass_one (as_ret (ae_callT acall_tuple (by rfl) T.n_tuple PyProof.Rows.boot_tuple (aa_cons (ae_v 2) (aa_nil))))))
theorem ad__law_below (T : Txt K mg) : ADef P w K mg base 1 T.a__law_below T.d__law_below ["_law_small", "_law_great"] m__law_below :=
 adef T.F__law_below sc__law_below fun cdv A outer s H E hr =>
 ass_cons (as_for PassesOwn.never (by rfl) (ai_rg1 (by rfl) T.n_range (ae_callB acall_len (by rfl) T.n_len PySem.boot_len (aa_cons (ae_v 1) (aa_nil)))) (ag_name sc__law_below.nd)
 (ass_one (as_for PassesOwn.never (by rfl) (ai_rg1 (by rfl) T.n_range (ae_callB acall_len (by rfl) T.n_len PySem.boot_len (aa_cons (ae_v 1) (aa_nil)))) (ag_name sc__law_below.nd)
 (ass_one (as_if (at_cmp aop_gt (ae_ix (hu_of hr) (ae_ix (hu_of hr) (ae_v 0) (ae_v 2)) (ae_v 3)) (ae_ix (hu_of hr) (ae_ix (hu_of hr) (ae_v 1) (ae_v 2)) (ae_v 3)))
 (ass_one (as_ret (ae_bl)))
 (ass_nil))))))
 (ass_one (as_ret (ae_bl)))
theorem ad__law_closed (T : Txt K mg) : ADef P w K mg base 1 T.a__law_closed T.d__law_closed ["_law_rows"] m__law_closed :=
 adef T.F__law_closed sc__law_closed fun cdv A outer s H E hr =>
 ass_cons (as_setLc [("_law_row", 2)] (i := 1) (by rfl) sc__law_closed.nd (ai_seq (ae_v 0)) (blkOk_by (N := n__law_closed) (sc := defScope s__law_closed) (by decide +kernel)) (tgt_name (by decide)) (fun _ _ _ _ _ => pg_name (i := 2) sc__law_closed.nd (by rfl) (by first | exact Or.inl rfl | exact Or.inr rfl)) (fun _ _ _ _ _ => ats_nil) (fun _ _ _ _ _ => ae_callT acall_list (by rfl) T.n_list PyProof.Rows.boot_list (aa_cons (ae_v 2) (aa_nil))) (sw_true rfl rfl rfl (by decide +kernel)))
 (ass_cons (as_for PassesOwn.never (by rfl) (ai_rg1 (by rfl) T.n_range (ae_callB acall_len (by rfl) T.n_len PySem.boot_len (aa_cons (ae_v 0) (aa_nil)))) (ag_name sc__law_closed.nd)
 (ass_one (as_for PassesOwn.never (by rfl) (ai_rg1 (by rfl) T.n_range (ae_callB acall_len (by rfl) T.n_len PySem.boot_len (aa_cons (ae_v 0) (aa_nil)))) (ag_name sc__law_closed.nd)
 (ass_one (as_for PassesOwn.never (by rfl) (ai_rg1 (by rfl) T.n_range (ae_callB acall_len (by rfl) T.n_len PySem.boot_len (aa_cons (ae_v 0) (aa_nil)))) (ag_name sc__law_closed.nd)
 (ass_one (as_asg (ae_callB (acall_min (by rfl)) (by rfl) T.n_min PyProof.Rows.boot_min (aa_cons (ae_ix (hu_of hr) (ae_ix (hu_of hr) (ae_v 1) (ae_v 4)) (ae_v 5)) (aa_cons (ae_op aop_add (ae_ix (hu_of hr) (ae_ix (hu_of hr) (ae_v 1) (ae_v 4)) (ae_v 3)) (ae_ix (hu_of hr) (ae_ix (hu_of hr) (ae_v 1) (ae_v 3)) (ae_v 5))) (aa_nil)))) (ag_sub (hu_of hr) (ae_ix (hu_of hr) (ae_v 1) (ae_v 4)) (ae_v 5)))))))))
 (ass_one (as_ret (ae_callT acall_tuple (by rfl) T.n_tuple PyProof.Rows.boot_tuple (aa_cons (ae_lc [("_law_row", 2)] (by rfl) sc__law_closed.nd (ai_seq (ae_v 1)) (blkOk_by (N := n__law_closed) (sc := defScope s__law_closed) (by decide +kernel)) (tgt_name (by decide)) (fun _ _ _ _ _ => pg_name (i := 2) sc__law_closed.nd (by rfl) (by first | exact Or.inl rfl | exact Or.inr rfl)) (fun _ _ _ _ _ => ats_nil) (fun _ _ _ _ _ => ae_callT acall_tuple (by rfl) T.n_tuple PyProof.Rows.boot_tuple (aa_cons (ae_v 2) (aa_nil)))) (aa_nil))))))
theorem ad__law_widest (T : Txt K mg) : ADef P w K mg base 1 T.a__law_widest T.d__law_widest ["_law_ranges_here"] m__law_widest :=
 adef T.F__law_widest sc__law_widest fun cdv A outer s H E hr =>
 ass_cons (as_set (i := 1) sc__law_widest.nd (ae_op aop_add (ae_lst (aa_cons (ae_tup (aa_cons (ae_int) (aa_cons (ae_int) (aa_nil)))) (aa_nil))) (ae_callT acall_list (by rfl) T.n_list PyProof.Rows.boot_list (aa_cons (ae_v 0) (aa_nil)))))
 (ass_cons (as_set (i := 2) sc__law_widest.nd (ae_lst (aa_nil)))
 (ass_cons (as_for PassesOwn.never (by rfl) (ai_rg1 (by rfl) T.n_range (ae_callB acall_len (by rfl) T.n_len PySem.boot_len (aa_cons (ae_v 1) (aa_nil)))) (ag_name sc__law_widest.nd)
 (ass_one (as_ex (ae_mt PySem.F.plainAttrs_list PySem.F.slot_list_append PySem.F.type_list_append amt_append (ae_v 2) (aa_cons (ae_lc [("_law_j", 4)] (by rfl) sc__law_widest.nd (ai_rg1 (by rfl) T.n_range (ae_callB acall_len (by rfl) T.n_len PySem.boot_len (aa_cons (ae_v 1) (aa_nil)))) (blkOk_by (N := n__law_widest) (sc := defScope s__law_widest) (by decide +kernel)) (tgt_name (by decide)) (fun _ _ _ _ _ => pg_name (i := 4) sc__law_widest.nd (by rfl) (by first | exact Or.inl rfl | exact Or.inr rfl)) (fun _ _ _ _ _ => ats_nil) (fun _ _ _ _ _ => ae_op aop_mul (ae_op aop_sub (ae_ix (hu_of hr) (ae_ix (hu_of hr) (ae_v 1) (ae_v 3)) (ae_int)) (ae_ix (hu_of hr) (ae_ix (hu_of hr) (ae_v 1) (ae_v 4)) (ae_int))) (ae_callT acall_int (by rfl) T.n_int PyProof.Rows.boot_int (aa_cons (ae_cmp (aop_ne hr.units) (ae_v 3) (ae_v 4)) (aa_nil))))) (aa_nil))))))
 (ass_one (as_ret (ae_v 2)))))
theorem ad__law_due (T : Txt K mg) : ADef P w K mg base 2 T.a__law_due T.d__law_due ["_law_box_here", "_law_ranges_here", "_law_marks_here"] m__law_due :=
 adef T.F__law_due sc__law_due fun cdv A outer s H E hr =>
 ass_cons (as_set (i := 3) sc__law_due.nd (ae_call (ad__law_widest T) (hr.mono (by omega)) (by rfl) T.g__law_widest T.F__law_widest.kp T.b__law_widest (aa_cons (ae_v 1) (aa_nil))))
 (ass_cons (as_for PassesOwn.never (by rfl) (ai_rg1 (by rfl) T.n_range (ae_callB acall_len (by rfl) T.n_len PySem.boot_len (aa_cons (ae_v 3) (aa_nil)))) (ag_name sc__law_due.nd)
 (ass_one (as_for PassesOwn.never (by rfl) (ai_rg1 (by rfl) T.n_range (ae_callB acall_len (by rfl) T.n_len PySem.boot_len (aa_cons (ae_v 3) (aa_nil)))) (ag_name sc__law_due.nd)
 (ass_one (as_if (at_cmp (aop_ne hr.units) (ae_v 4) (ae_v 5))
 (ass_cons (as_setLc [("_law_mark", 7)] (i := 6) (by rfl) sc__law_due.nd (ai_seq (ae_v 2)) (blkOk_by (N := n__law_due) (sc := defScope s__law_due) (by decide +kernel)) (tgt_name (by decide)) (fun _ _ _ _ _ => pg_name (i := 7) sc__law_due.nd (by rfl) (by first | exact Or.inl rfl | exact Or.inr rfl)) (fun _ _ _ _ _ => ats_one (at_cmp aop_ge (ae_v 7) (ae_ix (hu_of hr) (ae_ix (hu_of hr) (ae_v 0) (ae_v 4)) (ae_v 5)))) (fun _ _ _ _ _ => ae_v 7) (sw_true rfl rfl rfl (by decide +kernel)))
 (ass_one (as_asg (ae_callB (acall_min (by rfl)) (by rfl) T.n_min PyProof.Rows.boot_min (aa_cons (ae_op aop_add (ae_v 6) (ae_lst (aa_cons (ae_ix (hu_of hr) (ae_ix (hu_of hr) (ae_v 3) (ae_v 4)) (ae_v 5)) (aa_nil)))) (aa_nil))) (ag_sub (hu_of hr) (ae_ix (hu_of hr) (ae_v 3) (ae_v 4)) (ae_v 5)))))
 (ass_nil))))))
 (ass_one (as_ret (ae_call (ad__law_closed T) (hr.mono (by omega)) (by rfl) T.g__law_closed T.F__law_closed.kp T.b__law_closed (aa_cons (ae_v 3) (aa_nil))))))
theorem ad__law_same (T : Txt K mg) : ∀ n : Nat, ADef P w K mg base (n + 0) T.a__law_same T.d__law_same ["_law_actual", "_law_due_here"] (m__law_same n)
  | 0 => adef_bad
  | n + 1 => adef_up (adef T.F__law_same sc__law_same fun cdv A outer s H E (hr : Room (n + 0) _) =>
 ass_cons (as_if ((aw_or (at_e (ae_isi (by rfl) T.n_isinstance (by rfl) T.n_tuple PyProof.Rows.boot_tuple (ae_v 1))) (aw_or1 (at_e (ae_isi (by rfl) T.n_isinstance (by rfl) T.n_list PyProof.Rows.boot_list (ae_v 1))))).pt)
 (ass_cons (as_if ((aw_or (at_cmp (aop_ne hr.units) (ae_isi (by rfl) T.n_isinstance (by rfl) T.n_tuple PyProof.Rows.boot_tuple (ae_v 1)) (ae_isi (by rfl) T.n_isinstance (by rfl) T.n_tuple PyProof.Rows.boot_tuple (ae_v 0))) (aw_or1 (at_cmp (aop_ne hr.units) (ae_isi (by rfl) T.n_isinstance (by rfl) T.n_list PyProof.Rows.boot_list (ae_v 1)) (ae_isi (by rfl) T.n_isinstance (by rfl) T.n_list PyProof.Rows.boot_list (ae_v 0))))).pt)
 (ass_one (as_ret (ae_bl)))
 (ass_nil))
 (ass_cons (as_if (at_cmp (aop_ne hr.units) (ae_callB acall_len (by rfl) T.n_len PySem.boot_len (aa_cons (ae_v 0) (aa_nil))) (ae_callB acall_len (by rfl) T.n_len PySem.boot_len (aa_cons (ae_v 1) (aa_nil))))
 (ass_one (as_ret (ae_bl)))
 (ass_nil))
 (ass_cons (as_for PassesOwn.never (by rfl) (ai_rg1 (by rfl) T.n_range (ae_callB acall_len (by rfl) T.n_len PySem.boot_len (aa_cons (ae_v 1) (aa_nil)))) (ag_name sc__law_same.nd)
 (ass_one (as_if (at_not (at_e (ae_call (ad__law_same T n) hr (by rfl) T.g__law_same T.F__law_same.kp T.b__law_same (aa_cons (ae_ix (hu_of hr) (ae_v 0) (ae_v 2)) (aa_cons (ae_ix (hu_of hr) (ae_v 1) (ae_v 2)) (aa_nil))))))
 (ass_one (as_ret (ae_bl)))
 (ass_nil))))
 (ass_one (as_ret (ae_bl))))))
 (ass_nil))
 (ass_cons (as_if (at_cmp aop_is (ae_v 1) (ae_non))
 (ass_one (as_ret (ae_cmp aop_is (ae_v 0) (ae_non))))
 (ass_nil))
 (ass_cons (as_if (at_e (ae_isi (by rfl) T.n_isinstance (by rfl) T.n_bool PyProof.Rows.boot_bool (ae_v 1)))
 (ass_one (as_ret (ae_and (ae_isi (by rfl) T.n_isinstance (by rfl) T.n_bool PyProof.Rows.boot_bool (ae_v 0)) (ae_one (ae_cmp (aop_eq hr.units) (ae_v 0) (ae_v 1))))))
 (ass_nil))
 (ass_cons (as_if (at_e (ae_isi (by rfl) T.n_isinstance (by rfl) T.n_int PyProof.Rows.boot_int (ae_v 1)))
 (ass_one (as_ret (ae_and (ae_isi (by rfl) T.n_isinstance (by rfl) T.n_int PyProof.Rows.boot_int (ae_v 0)) (ae_and (ae_not (ae_isi (by rfl) T.n_isinstance (by rfl) T.n_bool PyProof.Rows.boot_bool (ae_v 0))) (ae_one (ae_cmp (aop_eq hr.units) (ae_v 0) (ae_v 1)))))))
 (ass_nil))
 (ass_one (as_ret (ae_and (ae_isi (by rfl) T.n_isinstance (by rfl) T.n_str PyProof.Rows.boot_str (ae_v 0)) (ae_one (ae_cmp (aop_eq hr.units) (ae_v 0) (ae_v 1))))))))))
theorem ad_frozen (T : Txt K mg) : ADef P w K mg base 1 T.a_frozen T.d_frozen ["rows"] m_frozen :=
 adef T.F_frozen sc_frozen fun cdv A outer s H E hr =>
 ass_one (as_ret (ae_callT acall_tuple (by rfl) T.n_tuple PyProof.Rows.boot_tuple (aa_cons (ae_lc [("row", 1)] (by rfl) sc_frozen.nd (ai_seq (ae_v 0)) (blkOk_by (N := n_frozen) (sc := defScope s_frozen) (by decide +kernel)) (tgt_name (by decide)) (fun _ _ _ _ _ => pg_name (i := 1) sc_frozen.nd (by rfl) (by first | exact Or.inl rfl | exact Or.inr rfl)) (fun _ _ _ _ _ => ats_nil) (fun _ _ _ _ _ => ae_callT acall_tuple (by rfl) T.n_tuple PyProof.Rows.boot_tuple (aa_cons (ae_v 1) (aa_nil)))) (aa_nil))))
theorem ad_has_negative (T : Txt K mg) : ADef P w K mg base 1 T.a_has_negative T.d_has_negative ["rows"] m_has_negative :=
 adef T.F_has_negative sc_has_negative fun cdv A outer s H E hr =>
 ass_cons (as_for PassesOwn.never (by rfl) (ai_rg1 (by rfl) T.n_range (ae_callB acall_len (by rfl) T.n_len PySem.boot_len (aa_cons (ae_v 0) (aa_nil)))) (ag_name sc_has_negative.nd)
 (ass_one (as_if (at_cmp aop_lt (ae_ix (hu_of hr) (ae_ix (hu_of hr) (ae_v 0) (ae_v 1)) (ae_v 1)) (ae_int))
 (ass_one (as_ret (ae_bl)))
 (ass_nil))))
 (ass_one (as_ret (ae_bl)))
theorem ad_shorten (T : Txt K mg) : ADef P w K mg base 1 T.a_shorten T.d_shorten ["rows", "middle"] m_shorten :=
 adef T.F_shorten sc_shorten fun cdv A outer s H E hr =>
 ass_cons (as_set (i := 2) sc_shorten.nd (ae_callB acall_len (by rfl) T.n_len PySem.boot_len (aa_cons (ae_v 0) (aa_nil))))
 (ass_cons (as_set (i := 3) sc_shorten.nd (ae_callT acall_list (by rfl) T.n_list PyProof.Rows.boot_list (aa_cons (ae_ix (hu_of hr) (ae_v 0) (ae_v 1)) (aa_nil))))
 (ass_one (as_for PassesOwn.never (by rfl) (ai_rg1 (by rfl) T.n_range (ae_v 2)) (ag_name sc_shorten.nd)
 (ass_cons (as_set (i := 5) sc_shorten.nd (ae_ix (hu_of hr) (ae_v 0) (ae_v 4)))
 (ass_cons (as_set (i := 6) sc_shorten.nd (ae_ix (hu_of hr) (ae_v 5) (ae_v 1)))
 (ass_one (as_for PassesOwn.never (by rfl) (ai_rg1 (by rfl) T.n_range (ae_v 2)) (ag_name sc_shorten.nd)
 (ass_one (as_if (at_cmp aop_lt (ae_op aop_add (ae_v 6) (ae_ix (hu_of hr) (ae_v 3) (ae_v 7))) (ae_ix (hu_of hr) (ae_v 5) (ae_v 7)))
 (ass_one (as_asg (ae_op aop_add (ae_v 6) (ae_ix (hu_of hr) (ae_v 3) (ae_v 7))) (ag_sub (hu_of hr) (ae_v 5) (ae_v 7))))
 (ass_nil))))))))))
theorem ad_close (T : Txt K mg) : ADef P w K mg base 2 T.a_close T.d_close ["matrix"] m_close :=
 adef T.F_close sc_close fun cdv A outer s H E hr =>
 ass_cons (as_setLc [("row", 2)] (i := 1) (by rfl) sc_close.nd (ai_seq (ae_v 0)) (blkOk_by (N := n_close) (sc := defScope s_close) (by decide +kernel)) (tgt_name (by decide)) (fun _ _ _ _ _ => pg_name (i := 2) sc_close.nd (by rfl) (by first | exact Or.inl rfl | exact Or.inr rfl)) (fun _ _ _ _ _ => ats_nil) (fun _ _ _ _ _ => ae_callT acall_list (by rfl) T.n_list PyProof.Rows.boot_list (aa_cons (ae_v 2) (aa_nil))) (sw_true rfl rfl rfl (by decide +kernel)))
 (ass_cons (as_set (i := 3) sc_close.nd (ae_callB acall_len (by rfl) T.n_len PySem.boot_len (aa_cons (ae_v 1) (aa_nil))))
 (ass_cons (as_if (at_e (ae_call (ad_has_negative T) (hr.mono (by omega)) (by rfl) T.g_has_negative T.F_has_negative.kp T.b_has_negative (aa_cons (ae_v 1) (aa_nil))))
 (ass_one (as_ret (ae_non)))
 (ass_nil))
 (ass_cons (as_for PassesOwn.never (by rfl) (ai_rg1 (by rfl) T.n_range (ae_v 3)) (ag_name sc_close.nd)
 (ass_one (as_asg (ae_int) (ag_sub (hu_of hr) (ae_ix (hu_of hr) (ae_v 1) (ae_v 4)) (ae_v 4)))))
 (ass_cons (as_for PassesOwn.never (by rfl) (ai_rg1 (by rfl) T.n_range (ae_v 3)) (ag_name sc_close.nd)
 (ass_cons (as_ex (ae_call (ad_shorten T) (hr.mono (by omega)) (by rfl) T.g_shorten T.F_shorten.kp T.b_shorten (aa_cons (ae_v 1) (aa_cons (ae_v 5) (aa_nil)))))
 (ass_one (as_if (at_e (ae_call (ad_has_negative T) (hr.mono (by omega)) (by rfl) T.g_has_negative T.F_has_negative.kp T.b_has_negative (aa_cons (ae_v 1) (aa_nil))))
 (ass_one (as_ret (ae_non)))
 (ass_nil)))))
 (ass_one (as_ret (ae_call (ad_frozen T) (hr.mono (by omega)) (by rfl) T.g_frozen T.F_frozen.kp T.b_frozen (aa_cons (ae_v 1) (aa_nil)))))))))
theorem ad_round_up (T : Txt K mg) : ADef P w K mg base 1 T.a_round_up T.d_round_up ["number", "marks", "greatest"] m_round_up :=
 adef T.F_round_up sc_round_up fun cdv A outer s H E hr =>
 ass_cons (as_par (i := 3) (j := 4) (by rfl) sc_round_up.nd (by decide) (aa_cons (ae_int) (aa_cons (ae_callB acall_len (by rfl) T.n_len PySem.boot_len (aa_cons (ae_v 1) (aa_nil))) (aa_nil))))
 (ass_cons (as_while 1099511627776 PassesOwn.never (at_cmp aop_lt (ae_v 3) (ae_v 4))
 (ass_cons (as_set (i := 5) sc_round_up.nd (ae_op aop_fdiv (ae_op aop_add (ae_v 3) (ae_v 4)) (ae_int)))
 (ass_one (as_if (at_cmp aop_lt (ae_ix (hu_of hr) (ae_v 1) (ae_v 5)) (ae_v 0))
 (ass_one (as_set (i := 3) sc_round_up.nd (ae_op aop_add (ae_v 5) (ae_int))))
 (ass_one (as_set (i := 4) sc_round_up.nd (ae_v 5)))))))
 (ass_cons (as_if (at_cmp (aop_eq hr.units) (ae_v 3) (ae_callB acall_len (by rfl) T.n_len PySem.boot_len (aa_cons (ae_v 1) (aa_nil))))
 (ass_one (as_ret (ae_v 2)))
 (ass_nil))
 (ass_one (as_ret (ae_callB (acall_min (by rfl)) (by rfl) T.n_min PyProof.Rows.boot_min (aa_cons (ae_ix (hu_of hr) (ae_v 1) (ae_v 3)) (aa_cons (ae_v 2) (aa_nil))))))))
theorem ad_round_box (T : Txt K mg) : ADef P w K mg base 3 T.a_round_box T.d_round_box ["box", "ranges", "marks"] m_round_box :=
 adef T.F_round_box sc_round_box fun cdv A outer s H E hr =>
 ass_cons (as_if (at_cmp aop_is (ae_v 0) (ae_non))
 (ass_one (as_ret (ae_non)))
 (ass_nil))
 (ass_cons (as_set (i := 3) sc_round_box.nd (ae_op aop_add (ae_tup (aa_cons (ae_tup (aa_cons (ae_int) (aa_cons (ae_int) (aa_nil)))) (aa_nil))) (ae_v 1)))
 (ass_cons (as_set (i := 4) sc_round_box.nd (ae_lst (aa_nil)))
 (ass_cons (as_for PassesOwn.never (by rfl) (ai_enumA (by rfl) T.n_enumerate (ae_v 0)) (ag_tup (by rfl) (ags_cons (ag_name sc_round_box.nd) (ags_cons (ag_name sc_round_box.nd) (ags_nil))))
 (ass_cons (as_set (i := 7) sc_round_box.nd (ae_lst (aa_nil)))
 (ass_cons (as_for PassesOwn.never (by rfl) (ai_enumA (by rfl) T.n_enumerate (ae_v 6)) (ag_tup (by rfl) (ags_cons (ag_name sc_round_box.nd) (ags_cons (ag_name sc_round_box.nd) (ags_nil))))
 (ass_one (as_if (at_cmp (aop_eq hr.units) (ae_v 5) (ae_v 8))
 (ass_one (as_ex (ae_mt PySem.F.plainAttrs_list PySem.F.slot_list_append PySem.F.type_list_append amt_append (ae_v 7) (aa_cons (ae_v 9) (aa_nil)))))
 (ass_one (as_ex (ae_mt PySem.F.plainAttrs_list PySem.F.slot_list_append PySem.F.type_list_append amt_append (ae_v 7) (aa_cons (ae_call (ad_round_up T) (hr.mono (by omega)) (by rfl) T.g_round_up T.F_round_up.kp T.b_round_up (aa_cons (ae_v 9) (aa_cons (ae_v 2) (aa_cons (ae_op aop_sub (ae_ix (hu_of hr) (ae_ix (hu_of hr) (ae_v 3) (ae_v 5)) (ae_int)) (ae_ix (hu_of hr) (ae_ix (hu_of hr) (ae_v 3) (ae_v 8)) (ae_int))) (aa_nil))))) (aa_nil))))))))
 (ass_one (as_ex (ae_mt PySem.F.plainAttrs_list PySem.F.slot_list_append PySem.F.type_list_append amt_append (ae_v 4) (aa_cons (ae_callT acall_tuple (by rfl) T.n_tuple PyProof.Rows.boot_tuple (aa_cons (ae_v 7) (aa_nil))) (aa_nil))))))))
 (ass_one (as_ret (ae_call (ad_close T) (hr.mono (by omega)) (by rfl) T.g_close T.F_close.kp T.b_close (aa_cons (ae_callT acall_tuple (by rfl) T.n_tuple PyProof.Rows.boot_tuple (aa_cons (ae_v 4) (aa_nil))) (aa_nil))))))))
theorem ad__law_right (T : Txt K mg) : ADef P w K mg base 21 T.a__law_right T.d__law_right ["_law_boxes", "_law_ranges_here", "_law_marks_here"] m__law_right :=
 adef T.F__law_right sc__law_right fun cdv A outer s H E hr =>
 ass_cons (as_set (i := 3) sc__law_right.nd (ae_lst (aa_nil)))
 (ass_cons (as_for PassesOwn.never (by rfl) (ai_seq (ae_v 0)) (ag_name sc__law_right.nd)
 (ass_cons (as_set (i := 5) sc__law_right.nd (ae_call (ad_round_box T) (hr.mono (by omega)) (by rfl) T.g_round_box T.F_round_box.kp T.b_round_box (aa_cons (ae_v 4) (aa_cons (ae_v 1) (aa_cons (ae_v 2) (aa_nil))))))
 (ass_cons (as_if (at_not (at_e (ae_call (ad__law_same T 20) (hr.mono (by omega)) (by rfl) T.g__law_same T.F__law_same.kp T.b__law_same (aa_cons (ae_v 5) (aa_cons (ae_call (ad__law_due T) (hr.mono (by omega)) (by rfl) T.g__law_due T.F__law_due.kp T.b__law_due (aa_cons (ae_v 4) (aa_cons (ae_v 1) (aa_cons (ae_v 2) (aa_nil))))) (aa_nil))))))
 (ass_one (as_ret (ae_bl)))
 (ass_nil))
 (ass_cons (as_if ((aw_or (at_not (at_e (ae_call (ad__law_below T) (hr.mono (by omega)) (by rfl) T.g__law_below T.F__law_below.kp T.b__law_below (aa_cons (ae_v 4) (aa_cons (ae_v 5) (aa_nil)))))) (aw_or1 (at_not (at_e (ae_call (ad__law_below T) (hr.mono (by omega)) (by rfl) T.g__law_below T.F__law_below.kp T.b__law_below (aa_cons (ae_v 5) (aa_cons (ae_call (ad__law_widest T) (hr.mono (by omega)) (by rfl) T.g__law_widest T.F__law_widest.kp T.b__law_widest (aa_cons (ae_v 1) (aa_nil))) (aa_nil)))))))).pt)
 (ass_one (as_ret (ae_bl)))
 (ass_nil))
 (ass_cons (as_if (at_not (at_e (ae_call (ad__law_same T 20) (hr.mono (by omega)) (by rfl) T.g__law_same T.F__law_same.kp T.b__law_same (aa_cons (ae_call (ad_round_box T) (hr.mono (by omega)) (by rfl) T.g_round_box T.F_round_box.kp T.b_round_box (aa_cons (ae_v 5) (aa_cons (ae_v 1) (aa_cons (ae_v 2) (aa_nil))))) (aa_cons (ae_v 5) (aa_nil))))))
 (ass_one (as_ret (ae_bl)))
 (ass_nil))
 (ass_one (as_ex (ae_mt PySem.F.plainAttrs_list PySem.F.slot_list_append PySem.F.type_list_append amt_append (ae_v 3) (aa_cons (ae_v 5) (aa_nil))))))))))
 (ass_one (as_ret (ae_and (ae_call (ad__law_below T) (hr.mono (by omega)) (by rfl) T.g__law_below T.F__law_below.kp T.b__law_below (aa_cons (ae_ix (hu_of hr) (ae_v 3) (ae_int)) (aa_cons (ae_ix (hu_of hr) (ae_v 3) (ae_int)) (aa_nil)))) (ae_one (ae_cmp aop_is (ae_call (ad_round_box T) (hr.mono (by omega)) (by rfl) T.g_round_box T.F_round_box.kp T.b_round_box (aa_cons (ae_non) (aa_cons (ae_v 1) (aa_cons (ae_v 2) (aa_nil))))) (ae_non)))))))
theorem ad__law_source (T : Txt K mg) : ADef P w K mg base 1 T.a__law_source T.d__law_source ["_law_cell_here"] m__law_source :=
 adef T.F__law_source sc__law_source fun cdv A outer s H E hr =>
 ass_one (as_ret (ae_lst (aa_cons (ae_v 0) (aa_cons (ae_v 0) (aa_cons (ae_int) (aa_nil))))))
theorem ad_law (T : Txt K mg) : ADef P w K mg base 22 T.a_law T.d_law ["_law_script"] m_law :=
 adef T.F_law sc_law fun cdv A outer s H E hr =>
 ass_cons (as_set (i := 1) sc_law.nd (ae_call (ad__law_source T) (hr.mono (by omega)) (by rfl) T.g__law_source T.F__law_source.kp T.b__law_source (aa_cons (ae_op aop_add (ae_op aop_add (ae_call (ad__law_cell T) (hr.mono (by omega)) (by rfl) T.g__law_cell T.F__law_cell.kp T.b__law_cell (aa_cons (ae_v 0) (aa_cons (ae_int) (aa_nil)))) (ae_op aop_mul (ae_int) (ae_call (ad__law_cell T) (hr.mono (by omega)) (by rfl) T.g__law_cell T.F__law_cell.kp T.b__law_cell (aa_cons (ae_v 0) (aa_cons (ae_int) (aa_nil)))))) (ae_op aop_mul (ae_int) (ae_call (ad__law_cell T) (hr.mono (by omega)) (by rfl) T.g__law_cell T.F__law_cell.kp T.b__law_cell (aa_cons (ae_v 0) (aa_cons (ae_int) (aa_nil)))))) (aa_nil))))
 (ass_cons (as_set (i := 2) sc_law.nd (ae_call (ad__law_pick T) (hr.mono (by omega)) (by rfl) T.g__law_pick T.F__law_pick.kp T.b__law_pick (aa_cons (ae_v 1) (aa_cons (ae_int) (aa_nil)))))
 (ass_cons (as_if (at_cmp (aop_eq hr.units) (ae_call (ad__law_pick T) (hr.mono (by omega)) (by rfl) T.g__law_pick T.F__law_pick.kp T.b__law_pick (aa_cons (ae_v 1) (aa_cons (ae_int) (aa_nil)))) (ae_int))
 (ass_one (as_set (i := 2) sc_law.nd (ae_call (ad__law_pick T) (hr.mono (by omega)) (by rfl) T.g__law_pick T.F__law_pick.kp T.b__law_pick (aa_cons (ae_v 1) (aa_cons (ae_int) (aa_nil))))))
 (ass_nil))
 (ass_cons (as_set (i := 3) sc_law.nd (ae_call (ad__law_ranges T) (hr.mono (by omega)) (by rfl) T.g__law_ranges T.F__law_ranges.kp T.b__law_ranges (aa_cons (ae_v 1) (aa_cons (ae_v 2) (aa_nil)))))
 (ass_cons (as_set (i := 4) sc_law.nd (ae_call (ad__law_points T) (hr.mono (by omega)) (by rfl) T.g__law_points T.F__law_points.kp T.b__law_points (aa_cons (ae_v 1) (aa_cons (ae_v 3) (aa_nil)))))
 (ass_cons (as_set (i := 5) sc_law.nd (ae_lst (aa_cons (ae_call (ad__law_box T) (hr.mono (by omega)) (by rfl) T.g__law_box T.F__law_box.kp T.b__law_box (aa_cons (ae_v 4) (aa_nil))) (aa_cons (ae_call (ad__law_box T) (hr.mono (by omega)) (by rfl) T.g__law_box T.F__law_box.kp T.b__law_box (aa_cons (ae_op aop_add (ae_v 4) (ae_call (ad__law_points T) (hr.mono (by omega)) (by rfl) T.g__law_points T.F__law_points.kp T.b__law_points (aa_cons (ae_v 1) (aa_cons (ae_v 3) (aa_nil))))) (aa_nil))) (aa_nil)))))
 (ass_cons (as_set (i := 6) sc_law.nd (ae_call (ad__law_marks T) (hr.mono (by omega)) (by rfl) T.g__law_marks T.F__law_marks.kp T.b__law_marks (aa_cons (ae_v 1) (aa_cons (ae_v 3) (aa_cons (ae_v 5) (aa_nil))))))
 (ass_cons (as_set (i := 7) sc_law.nd (ae_call (ad__law_marks T) (hr.mono (by omega)) (by rfl) T.g__law_marks T.F__law_marks.kp T.b__law_marks (aa_cons (ae_v 1) (aa_cons (ae_v 3) (aa_cons (ae_v 5) (aa_nil))))))
 (ass_cons (as_if ((aw_or (at_not (at_e (ae_call (ad__law_right T) (hr.mono (by omega)) (by rfl) T.g__law_right T.F__law_right.kp T.b__law_right (aa_cons (ae_v 5) (aa_cons (ae_v 3) (aa_cons (ae_v 6) (aa_nil))))))) (aw_or1 (at_not (at_e (ae_call (ad__law_right T) (hr.mono (by omega)) (by rfl) T.g__law_right T.F__law_right.kp T.b__law_right (aa_cons (ae_v 5) (aa_cons (ae_v 3) (aa_cons (ae_v 7) (aa_nil))))))))).pt)
 (ass_one (as_ret (ae_bl)))
 (ass_nil))
 (ass_one (as_ret (ae_call (ad__law_right T) (hr.mono (by omega)) (by rfl) T.g__law_right T.F__law_right.kp T.b__law_right (aa_cons (ae_v 5) (aa_cons (ae_v 3) (aa_cons (ae_v 6) (aa_nil)))))))))))))))
end
end Law

namespace Ab

/-! ## tables of distances: what closes one -/
abbrev Mx := Nat → Nat → Int
def Feas (m : Nat) (M : Mx) (p : Nat → Int) : Prop := ∀ i j, i < m → j < m → i ≠ j → p i - p j ≤ M i j
structure Cl (m : Nat) (R : Mx) : Prop where
  tri : ∀ i l j, i < m → l < m → j < m → R i j ≤ R i l + R l j
  dg : ∀ i, i < m → R i i = 0
structure ClOf (m : Nat) (M R : Mx) : Prop where
  pos : ∀ i, i < m → 0 ≤ M i i
  cl : Cl m R
  le : ∀ i j, i < m → j < m → i ≠ j → R i j ≤ M i j
  sound : ∀ p, Feas m M p → ∀ i j, i < m → j < m → p i - p j ≤ R i j
def Closes (m : Nat) (M : Mx) : Option Mx → Prop
  | none => (∃ i, i < m ∧ M i i < 0) ∨ ¬ ∃ p, Feas m M p
  | some R => ClOf m M R
section
variable {m : Nat} {M R S : Mx}
theorem Cl.col (h : Cl m R) (le : ∀ i j, i < m → j < m → i ≠ j → R i j ≤ M i j) {j : Nat} (hj : j < m) : Feas m M fun k => R k j := fun a b ha hb hab => by
  have h1 := h.tri a b j ha hb hj
  have h2 := le a b ha hb hab
  show R a j - R b j ≤ M a b
  omega
theorem ClOf.below (h : ClOf m M R) (h' : ClOf m M S) {i j : Nat} (hi : i < m) (hj : j < m) : R i j ≤ S i j := by
  have h1 := h'.sound _ (h.cl.col h.le hj) i j hi hj
  have h2 := h.cl.dg j hj
  have h1 : R i j - R j j ≤ S i j := h1
  omega
theorem ClOf.same (h : ClOf m M R) (h' : ClOf m M S) {i j : Nat} (hi : i < m) (hj : j < m) : R i j = S i j := Int.le_antisymm (h.below h' hi hj) (h'.below h hi hj)
theorem ClOf.no (h : ClOf m M R) (h0 : 0 < m) (h' : Closes m M none) : False := by
  rcases h' with ⟨i, hi, h2⟩ | h2
  · have := h.pos i hi; omega
  · exact h2 ⟨_, h.cl.col h.le h0⟩

/-! ### one round: over k -/
structure Rnd (m : Nat) (M : Mx) (k : Nat) (R : Mx) : Prop where
  pos : ∀ i, i < m → 0 ≤ M i i
  sound : ∀ p, Feas m M p → ∀ i j, i < m → j < m → p i - p j ≤ R i j
  le : ∀ i j, i < m → j < m → i ≠ j → R i j ≤ M i j
  dg : ∀ i, i < m → R i i = 0
  tri : ∀ i l j, i < m → l < k → j < m → R i j ≤ R i l + R l j
def via (k : Nat) (R : Mx) : Mx := fun i j => if R i k + R k j < R i j then R i k + R k j else R i j
theorem Rnd.first (pos : ∀ i, i < m → 0 ≤ M i i) : Rnd m M 0 fun i j => if i = j then 0 else M i j :=
  ⟨pos, fun p hp i j hi hj => by
    by_cases e : i = j
    · subst e; simp
    · simp only [e, if_false]; exact hp i j hi hj e, fun i j _ _ e => by simp [e], fun i _ => by simp, fun i l j _ hl _ => by omega⟩
theorem Rnd.via_sound {k : Nat} (h : Rnd m M k R) (hk : k < m) : ∀ p, Feas m M p → ∀ i j, i < m → j < m → p i - p j ≤ via k R i j := fun p hp i j hi hj => by
  have h1 := h.sound p hp i j hi hj
  have h2 := h.sound p hp i k hi hk
  have h3 := h.sound p hp k j hk hj
  unfold via
  split <;> omega
theorem Rnd.neg {k i : Nat} (h : Rnd m M k R) (hk : k < m) (hi : i < m) (hn : via k R i i < 0) : ¬ ∃ p, Feas m M p := fun ⟨p, hp⟩ => by
  have := h.via_sound hk p hp i i hi hi
  omega
theorem Rnd.next {k : Nat} (h : Rnd m M k R) (hk : k < m) (hp : ∀ i, i < m → 0 ≤ via k R i i) : Rnd m M (k + 1) (via k R) := by
  have dg : ∀ i, i < m → via k R i i = 0 := fun i hi => by
    have h1 := hp i hi
    have h2 := h.dg i hi
    unfold via at h1 ⊢
    split at h1 <;> split <;> omega
  refine ⟨h.pos, h.via_sound hk, fun i j hi hj e => ?_, dg, fun i l j hi hl hj => ?_⟩
  · have := h.le i j hi hj e
    unfold via
    split <;> omega
  · have kk := h.dg k hk
    by_cases e : l = k
    · subst e
      have a1 : via l R i l = R i l := by unfold via; split <;> omega
      have a2 : via l R l j = R l j := by unfold via; split <;> omega
      rw [a1, a2]
      unfold via
      split <;> omega
    · have hl' : l < k := by omega
      have lm : l < m := by omega
      have t1 := h.tri i l j hi hl' hj
      have t2 := h.tri k l j hk hl' hj
      have t3 := h.tri i l k hi hl' hk
      have t4 := h.tri k l k hk hl' hk
      unfold via
      split <;> split <;> split <;> omega
theorem Rnd.last (h : Rnd m M m R) : ClOf m M R := ⟨h.pos, ⟨fun i l j hi hl hj => h.tri i l j hi hl hj, h.dg⟩, h.le, h.sound⟩

/-! ### one bound: i - j at most n -/
structure Inc (m : Nat) (M : Mx) (S : Nat → Nat → Prop) (R : Mx) : Prop where
  cl : Cl m R
  le : ∀ i j, i < m → j < m → i ≠ j → S i j → R i j ≤ M i j
  sound : ∀ p, Feas m M p → ∀ i j, i < m → j < m → p i - p j ≤ R i j
def bnd (i j : Nat) (n : Int) (R : Mx) : Mx := fun k l => if R k i + n + R j l < R k l then R k i + n + R j l else R k l
theorem Inc.neg {S : Nat → Nat → Prop} {i j : Nat} (h : Inc m M S R) (hi : i < m) (hj : j < m) (e : i ≠ j) (hn : M i j + R j i < 0) : ¬ ∃ p, Feas m M p := fun ⟨p, hp⟩ => by
  have h1 := hp i j hi hj e
  have h2 := h.sound p hp j i hj hi
  omega
theorem Cl.bnd {i j : Nat} {n : Int} (h : Cl m R) (hi : i < m) (hj : j < m) (hn : 0 ≤ n + R j i) : Cl m (bnd i j n R) := by
  refine ⟨fun a l b ha hl hb => ?_, fun a ha => ?_⟩
  · have t1 := h.tri a l b ha hl hb
    have t2 := h.tri a l i ha hl hi
    have t3 := h.tri j l b hj hl hb
    have t4 := h.tri j l i hj hl hi
    unfold Ab.bnd
    split <;> split <;> split <;> omega
  · have t := h.tri j a i hj ha hi
    have d := h.dg a ha
    unfold Ab.bnd
    split <;> omega
theorem Inc.next {S : Nat → Nat → Prop} {i j : Nat} (h : Inc m M S R) (hi : i < m) (hj : j < m) (e : i ≠ j) (hn : 0 ≤ M i j + R j i) : Inc m M (fun a b => S a b ∨ (a = i ∧ b = j)) (bnd i j (M i j) R) := by
  refine ⟨h.cl.bnd hi hj hn, fun a b ha hb hab hs => ?_, fun p hp a b ha hb => ?_⟩
  · rcases hs with hs | ⟨rfl, rfl⟩
    · have := h.le a b ha hb hab hs
      unfold bnd
      split <;> omega
    · have d1 := h.cl.dg a ha
      have d2 := h.cl.dg b hb
      unfold bnd
      split <;> omega
  · have h1 := h.sound p hp a b ha hb
    have h2 := h.sound p hp a i ha hi
    have h3 := h.sound p hp j b hj hb
    have h4 := hp i j hi hj e
    unfold bnd
    split <;> omega
end
end Ab

namespace Ab
/-- a ring of m places: os k stands at place k; from it to the next one es k -/
structure Ring (m : Nat) (es su : Nat → Int) (os pl : Nat → Nat) : Prop where
  m2 : 2 ≤ m
  po : ∀ i, i < m → pl i < m
  ol : ∀ k, k < m → os k < m
  op : ∀ i, i < m → os (pl i) = i
  pp : ∀ k, k < m → pl (os k) = k
  s0 : su 0 = 0
  ss : ∀ k, k < m → su (k + 1) = su k + es k
def wayP (m : Nat) (su : Nat → Int) (a b : Nat) : Int := if a ≤ b then su b - su a else su b - su a + su m
def nextP (m : Nat) (a : Nat) : Nat := if a + 1 = m then 0 else a + 1
section
variable {m : Nat} {es su : Nat → Int} {os pl : Nat → Nat} {M : Mx}
def absZ (x : Int) : Int := if x < 0 then -x else x
def tot (es : Nat → Int) : Nat → Int
  | 0 => 0
  | k + 1 => tot es k + absZ (es k)
theorem absZ_ge (x : Int) : 0 ≤ absZ x ∧ x ≤ absZ x ∧ -x ≤ absZ x := by unfold absZ; split <;> omega
theorem tot_mono {a b : Nat} (h : a ≤ b) : tot es a ≤ tot es b := by
  induction h with
  | refl => exact Int.le_refl _
  | @step k _ ih => have := (absZ_ge (es k)).1; show _ ≤ tot es k + _; omega
theorem tot_su (R : Ring m es su os pl) {a b : Nat} (h : a ≤ b) : b ≤ m → su b - su a ≤ tot es b - tot es a := by
  induction h with
  | refl => intro _; omega
  | @step k hk ih =>
    intro hm
    have h1 := ih (by omega)
    have h2 := R.ss k (by omega)
    have h3 := (absZ_ge (es k)).2.1
    show su (k + 1) - su a ≤ tot es k + absZ (es k) - tot es a
    omega
theorem way_far (R : Ring m es su os pl) {a b : Nat} (ha : a < m) (hb : b < m) : wayP m su a b ≤ tot es m := by
  unfold wayP
  have t0 : (0 : Int) = tot es 0 := rfl
  split
  · rename_i h
    have h1 := tot_su R h (by omega)
    have h2 : tot es b ≤ tot es m := tot_mono (by omega)
    have h3 : tot es 0 ≤ tot es a := tot_mono (by omega)
    omega
  · rename_i h
    have h1 := tot_su R (a := a) (b := m) (by omega) (Nat.le_refl _)
    have h2 := tot_su R (a := 0) (b := b) (by omega) (by omega)
    have h3 : tot es b ≤ tot es a := tot_mono (by omega)
    have h4 := R.s0
    omega
theorem way_next (R : Ring m es su os pl) {a : Nat} (ha : a < m) : wayP m su a (nextP m a) = es a := by
  have h := R.ss a ha
  have h0 := R.s0
  have m2 := R.m2
  unfold wayP nextP
  split
  · rename_i e
    rw [if_neg (by omega)]
    rw [e] at h
    omega
  · rw [if_pos (by omega)]; omega
theorem ring_step (R : Ring m es su os pl) {q : Nat → Int} (hq : ∀ k, k + 1 < m → q k - q (k + 1) ≤ es k) {a b : Nat} (h : a ≤ b) : b < m → q a - q b ≤ su b - su a := by
  induction h with
  | refl => intro _; omega
  | @step k hk ih =>
    intro hm
    have h1 := ih (by omega)
    have h2 := R.ss k (by omega)
    have h3 := hq k hm
    show q a - q (k + 1) ≤ su (k + 1) - su a
    omega
theorem ring_closes (R : Ring m es su os pl) (dg : ∀ i, i < m → M i i = 0) (nx : ∀ k, k < m → M (os k) (os (nextP m k)) = es k)
    (ge : ∀ i j, i < m → j < m → i ≠ j → pl j ≠ nextP m (pl i) → wayP m su (pl i) (pl j) ≤ M i j) : Closes m M (if su m < 0 then none else some fun i j => wayP m su (pl i) (pl j)) := by
  have m2 := R.m2
  have feas : ∀ p, Feas m M p → (∀ k, k + 1 < m → p (os k) - p (os (k + 1)) ≤ es k) ∧ p (os (m - 1)) - p (os 0) ≤ es (m - 1) := fun p hp => by
    refine ⟨fun k hk => ?_, ?_⟩
    · have h1 := nx k (by omega)
      have e : nextP m k = k + 1 := if_neg (by omega)
      rw [e] at h1
      rw [← h1]
      refine hp _ _ (R.ol k (by omega)) (R.ol _ hk) fun z => ?_
      have := congrArg pl z
      rw [R.pp k (by omega), R.pp _ hk] at this
      omega
    · have h1 := nx (m - 1) (by omega)
      have e : nextP m (m - 1) = 0 := if_pos (by omega)
      rw [e] at h1
      rw [← h1]
      refine hp _ _ (R.ol _ (by omega)) (R.ol _ (by omega)) fun z => ?_
      have := congrArg pl z
      rw [R.pp _ (by omega), R.pp _ (by omega)] at this
      omega
  have last := R.ss (m - 1) (by omega)
  rw [show m - 1 + 1 = m by omega] at last
  have s0 := R.s0
  split
  · rename_i hn
    refine .inr fun ⟨p, hp⟩ => ?_
    obtain ⟨h1, h2⟩ := feas p hp
    have h3 := ring_step R (q := fun k => p (os k)) h1 (a := 0) (b := m - 1) (by omega) (by omega)
    omega
  · rename_i hn
    refine ⟨fun i hi => by rw [dg i hi]; exact Int.le_refl _, ⟨fun i l j hi hl hj => ?_, fun i hi => ?_⟩, fun i j hi hj e => ?_, fun p hp i j hi hj => ?_⟩
    · show wayP m su (pl i) (pl j) ≤ wayP m su (pl i) (pl l) + wayP m su (pl l) (pl j)
      unfold wayP
      split <;> split <;> split <;> omega
    · show wayP m su (pl i) (pl i) = 0
      unfold wayP
      rw [if_pos (Nat.le_refl _)]; omega
    · by_cases h : pl j = nextP m (pl i)
      · have h1 := nx (pl i) (R.po i hi)
        rw [R.op i hi, ← h, R.op j hj] at h1
        show wayP m su (pl i) (pl j) ≤ M i j
        rw [h1, h, way_next R (R.po i hi)]
        exact Int.le_refl _
      · exact ge i j hi hj e h
    · obtain ⟨h1, h2⟩ := feas p hp
      have a := R.po i hi
      have b := R.po j hj
      have st : ∀ {a b : Nat}, a ≤ b → b < m → p (os a) - p (os b) ≤ su b - su a := fun h hb => ring_step R (q := fun k => p (os k)) h1 h hb
      show p i - p j ≤ wayP m su (pl i) (pl j)
      unfold wayP
      split
      · rename_i h
        have := st h b
        rwa [R.op i hi, R.op j hj] at this
      · rename_i h
        have h3 := st (a := pl i) (b := m - 1) (by omega) (by omega)
        have h4 := st (a := 0) (b := pl j) (by omega) b
        rw [R.op i hi] at h3
        rw [R.op j hj] at h4
        omega
end
/-- a closed table with one entry lowered -/
def low (i j : Nat) (n : Int) (R : Mx) : Mx := fun a b => if a = i ∧ b = j ∧ n < R a b then n else R a b
theorem bound_closes {m i j : Nat} {n : Int} {R : Mx} (h : Cl m R) (hi : i < m) (hj : j < m) (e : i ≠ j) : Closes m (low i j n R) (if n + R j i < 0 then none else if R i j ≤ n then some R else some (bnd i j n R)) := by
  have le : ∀ a b, low i j n R a b ≤ R a b := fun a b => by unfold low; split <;> omega
  have feas : ∀ p, Feas m (low i j n R) p → (∀ a b, a < m → b < m → p a - p b ≤ R a b) ∧ p i - p j ≤ n := fun p hp => by
    have h1 : ∀ a b, a < m → b < m → p a - p b ≤ R a b := fun a b ha hb => by
      by_cases c : a = b
      · subst c; have := h.dg a ha; omega
      · have := hp a b ha hb c; have := le a b; omega
    refine ⟨h1, ?_⟩
    have h2 := hp i j hi hj e
    have h3 := h1 i j hi hj
    unfold low at h2
    split at h2 <;> omega
  have pos : ∀ a, a < m → 0 ≤ low i j n R a a := fun a ha => by
    have := h.dg a ha
    unfold low
    rw [if_neg (fun z => e (z.1.symm.trans z.2.1))]; omega
  split
  · rename_i hn
    exact .inr fun ⟨p, hp⟩ => by
      obtain ⟨h1, h2⟩ := feas p hp
      have := h1 j i hj hi
      omega
  split
  · rename_i hn hc
    refine ⟨pos, h, fun a b _ _ _ => ?_, fun p hp => (feas p hp).1⟩
    unfold low
    split
    · rename_i z; obtain ⟨rfl, rfl, z⟩ := z; omega
    · exact Int.le_refl _
  · rename_i hn hc
    refine ⟨pos, h.bnd hi hj (by omega), fun a b ha hb _ => ?_, fun p hp a b ha hb => ?_⟩
    · have d1 := h.dg i hi
      have d2 := h.dg j hj
      by_cases z : a = i ∧ b = j ∧ n < R a b
      · unfold low
        rw [if_pos z]
        obtain ⟨rfl, rfl, z⟩ := z
        unfold bnd
        split <;> omega
      · unfold low
        rw [if_neg z]
        unfold bnd
        split <;> omega
    · obtain ⟨h1, h2⟩ := feas p hp
      have a1 := h1 a b ha hb
      have a2 := h1 a i ha hi
      have a3 := h1 j b hj hb
      unfold bnd
      split <;> omega
end Ab

namespace Ab
open scoped Classical
theorem nodup_le {α : Type} : ∀ (l L : List α), l.Nodup → (∀ x ∈ l, x ∈ L) → l.length ≤ L.length
  | [], L, _, _ => Nat.zero_le _
  | x :: l, L, nd, h => by
    have hx := h x (List.mem_cons_self ..)
    have nd := List.nodup_cons.mp nd
    have := nodup_le l (L.erase x) nd.2 fun y hy => (List.mem_erase_of_ne (show y ≠ x from fun e => nd.1 (by rw [← e]; exact hy))).mpr (h y (List.mem_cons_of_mem _ hy))
    rw [List.length_erase_of_mem hx] at this
    have := List.length_pos_of_mem hx
    rw [List.length_cons]; omega
/-- all lists of n numbers of -2 .. 2 -/
def five : List Int := [-2, -1, 0, 1, 2]
def tups : Nat → List (List Int)
  | 0 => [[]]
  | n + 1 => (tups n).flatMap fun p => five.map fun v => p ++ [v]
theorem tups_len : ∀ n, (tups n).length = 5 ^ n
  | 0 => rfl
  | n + 1 => by
    have : ∀ L : List (List Int), (L.flatMap fun p => five.map fun v => p ++ [v]).length = L.length * 5 := by
      intro L
      induction L with
      | nil => rfl
      | cons a L ih => rw [List.flatMap_cons, List.length_append, ih, List.length_map, List.length_cons]; show 5 + _ = _; omega
    show ((tups n).flatMap _).length = _
    rw [this, tups_len n, Nat.pow_succ]
theorem five_mem {v : Int} (h : -2 ≤ v) (h' : v ≤ 2) : v ∈ five := by
  have : v = -2 ∨ v = -1 ∨ v = 0 ∨ v = 1 ∨ v = 2 := by omega
  rcases this with rfl | rfl | rfl | rfl | rfl <;> decide
theorem tups_mem : ∀ (n : Nat) (p : List Int), p.length = n → (∀ v ∈ p, -2 ≤ v ∧ v ≤ 2) → p ∈ tups n
  | 0, p, h, _ => by rw [List.eq_nil_of_length_eq_zero h]; exact List.mem_singleton.mpr rfl
  | n + 1, p, h, hv => by
    have ne : p ≠ [] := fun e => by rw [e] at h; simp at h
    have e := (List.dropLast_concat_getLast ne).symm
    rw [e]
    refine List.mem_flatMap.mpr ⟨p.dropLast, tups_mem n _ (by simp [h]) fun v hv' => hv v (List.dropLast_subset _ hv'), List.mem_map.mpr ⟨p.getLast ne, ?_, rfl⟩⟩
    have := hv _ (List.getLast_mem ne)
    exact five_mem this.1 this.2
end Ab

namespace Ab
/-! ## bounds put in one after the other; M is the table that they make in the end -/
structure IncT (m : Nat) (M : Mx) (S : Nat → Nat → Int → Prop) (R : Mx) : Prop where
  cl : Cl m R
  le : ∀ i j n, S i j n → i < m → j < m → i ≠ j → R i j ≤ n
  sound : ∀ p, Feas m M p → ∀ i j, i < m → j < m → p i - p j ≤ R i j
section
variable {m : Nat} {M B R : Mx} {S : Nat → Nat → Int → Prop}
theorem IncT.first (cl : Cl m B) (h : ∀ i j, i < m → j < m → i ≠ j → M i j ≤ B i j) : IncT m M (fun i j n => n = B i j) B :=
  ⟨cl, fun i j n e _ _ _ => by rw [e]; exact Int.le_refl _, fun p hp i j hi hj => by
    by_cases e : i = j
    · subst e; have := cl.dg i hi; omega
    · have h1 := hp i j hi hj e; have h2 := h i j hi hj e; omega⟩
theorem IncT.neg {i j : Nat} {n : Int} (h : IncT m M S R) (hi : i < m) (hj : j < m) (e : i ≠ j) (hM : M i j ≤ n) (hn : n + R j i < 0) : ¬ ∃ p, Feas m M p := fun ⟨p, hp⟩ => by
  have h1 := hp i j hi hj e
  have h2 := h.sound p hp j i hj hi
  omega
theorem IncT.next {i j : Nat} {n : Int} (h : IncT m M S R) (hi : i < m) (hj : j < m) (e : i ≠ j) (hM : M i j ≤ n) (hn : 0 ≤ n + R j i) : IncT m M (fun a b k => S a b k ∨ (a = i ∧ b = j ∧ k = n)) (bnd i j n R) := by
  refine ⟨h.cl.bnd hi hj hn, fun a b k hs ha hb hab => ?_, fun p hp a b ha hb => ?_⟩
  · rcases hs with hs | ⟨rfl, rfl, rfl⟩
    · have := h.le a b k hs ha hb hab
      unfold bnd
      split <;> omega
    · have d1 := h.cl.dg a ha
      have d2 := h.cl.dg b hb
      unfold bnd
      split <;> omega
  · have h1 := h.sound p hp a b ha hb
    have h2 := h.sound p hp a i ha hi
    have h3 := h.sound p hp j b hj hb
    have h4 := hp i j hi hj e
    unfold bnd
    split <;> omega
theorem IncT.last (h : IncT m M S R) (pos : ∀ i, i < m → 0 ≤ M i i) (all : ∀ i j, i < m → j < m → i ≠ j → ∃ n, S i j n ∧ n ≤ M i j) : ClOf m M R :=
  ⟨pos, h.cl, fun i j hi hj e => by
    obtain ⟨n, h1, h2⟩ := all i j hi hj e
    exact Int.le_trans (h.le i j n h1 hi hj e) h2, h.sound⟩
theorem IncT.mono {S' : Nat → Nat → Int → Prop} (h : IncT m M S R) (q : ∀ i j n, S' i j n → S i j n) : IncT m M S' R := ⟨h.cl, fun i j n hs => h.le i j n (q i j n hs), h.sound⟩
theorem Cl.self (h : Cl m R) : ClOf m R R := ⟨fun i hi => by rw [h.dg i hi]; exact Int.le_refl _, h, fun _ _ _ _ _ => Int.le_refl _, fun p hp i j hi hj => by
  by_cases e : i = j
  · subst e; rw [h.dg i hi]; omega
  · exact hp i j hi hj e⟩
/-- tables that differ on the diagonal alone, none of them below 0 there -/
theorem ClOf.other {M' : Mx} (h : ClOf m M R) (pos : ∀ i, i < m → 0 ≤ M' i i) (e : ∀ i j, i < m → j < m → i ≠ j → M i j = M' i j) : ClOf m M' R :=
  ⟨pos, h.cl, fun i j hi hj n => by rw [← e i j hi hj n]; exact h.le i j hi hj n, fun p hp => h.sound p fun i j hi hj n => by rw [e i j hi hj n]; exact hp i j hi hj n⟩
end
/-- the least entries of two tables -/
def mnf (f g : Nat → Nat → Int) (i j : Nat) : Int := if g i j < f i j then g i j else f i j
theorem mnf_comm (f g : Mx) : mnf f g = mnf g f := by
  funext i j
  unfold mnf
  split <;> split <;> omega
theorem mnf_self (f : Mx) : mnf f f = f := by
  funext i j
  unfold mnf
  split <;> rfl
/-- the box of ranges: column 0 is 0 -/
def rbx (l h : Nat → Int) (i j : Nat) : Int := if j = i then 0 else h i - l j
theorem rbx_cl {m : Nat} {l h : Nat → Int} (le : ∀ i, i < m → l i ≤ h i) : Cl m (rbx l h) := by
  refine ⟨fun i k j hi hk hj => ?_, fun i hi => if_pos rfl⟩
  have h1 := le i hi
  have h2 := le k hk
  have h3 := le j hj
  have z : ∀ a, rbx l h a a = 0 := fun a => if_pos rfl
  have nz : ∀ {a b : Nat}, b ≠ a → rbx l h a b = h a - l b := fun e => if_neg e
  by_cases a : k = i
  · subst a; rw [z]; omega
  · by_cases b : j = k
    · subst b; rw [z]; omega
    · by_cases c : j = i
      · subst c; rw [z, nz a, nz b]; omega
      · rw [nz a, nz b, nz c]; omega
end Ab

namespace Ab
open PySem PySem.Spec PyProof.Rows L2
open scoped Classical
/-! ## lists of drawn numbers, of drawn points -/
theorem comp_draw {s i n : Nat} {lo : Int} {f : FE} {σ : ASt} {A : AH} {R : D → AH → Prop} (Pv : Int → Prop) (hs : Sr s A)
    (hf : ∀ k C, Dr s A C → DrwS s C (f (σ.set i (some (.int k))) C) fun d => ∃ v, d = .int v ∧ Pv v) (hn : n ≤ 1000)
    (hR : ∀ (q : List Int) C, q.length = n → (∀ v ∈ q, Pv v) → Dr s A C → C[A.length]? = some (.lst (q.map D.int)) → R (.ref A.length) C) :
    Sat (loopC yes (gN i) fYes f A.length σ (rngL lo n) (A ++ [.lst []])) R := by
  have sl := hs.lt
  refine comp_range (fun k acc C => ∃ q : List Int, q.length = k ∧ (∀ v ∈ q, Pv v) ∧ acc = q.map D.int ∧ Dr s A C ∧ C[A.length]? = some (.lst acc)) (fun k acc C hk ⟨q, q1, q2, q3, q4, q5⟩ => ?_) (fun acc C ⟨q, q1, q2, q3, q4, q5⟩ => ?_) (acc := []) ⟨[], rfl, by simp, rfl, Dr.app hs _, at_new⟩
  · show Sat (Res.ok (σ.set i (some (.int (lo + (k : Nat))))) C) _
    rw [sat_ok]
    refine Sat.imp (hf _ C q4) fun d C2 ⟨⟨v, e, hv⟩, dr⟩ => ?_
    subst e
    have q5 := dr.keep _ _ (by omega) q5
    refine ⟨q5, by rw [q3, List.length_map]; omega, q ++ [v], by simp; omega, fun w hw => ?_, by rw [q3]; simp, (q4.trans dr).setN (Nat.le_refl _) hs, at_set (at_lt q5)⟩
    rcases List.mem_append.mp hw with h | h
    · exact q2 w h
    · cases List.mem_singleton.mp h; exact hv
  · subst q3; exact hR q C q1 q2 q4 q5
theorem comp_drawG {α : Type} (c : α → D) {s i n : Nat} {lo : Int} {f : FE} {σ : ASt} {A : AH} {R : D → AH → Prop} (Pv : α → Prop) (hs : Sr s A)
    (hf : ∀ k C, Dr s A C → DrwS s C (f (σ.set i (some (.int k))) C) fun d => ∃ v, d = c v ∧ Pv v) (hn : n ≤ 1000)
    (hR : ∀ (q : List α) C, q.length = n → (∀ v ∈ q, Pv v) → Dr s A C → C[A.length]? = some (.lst (q.map c)) → R (.ref A.length) C) :
    Sat (loopC yes (gN i) fYes f A.length σ (rngL lo n) (A ++ [.lst []])) R := by
  have sl := hs.lt
  refine comp_range (fun k acc C => ∃ q : List α, q.length = k ∧ (∀ v ∈ q, Pv v) ∧ acc = q.map c ∧ Dr s A C ∧ C[A.length]? = some (.lst acc)) (fun k acc C hk ⟨q, q1, q2, q3, q4, q5⟩ => ?_) (fun acc C ⟨q, q1, q2, q3, q4, q5⟩ => ?_) (acc := []) ⟨[], rfl, by simp, rfl, Dr.app hs _, at_new⟩
  · show Sat (Res.ok (σ.set i (some (.int (lo + (k : Nat))))) C) _
    rw [sat_ok]
    refine Sat.imp (hf _ C q4) fun d C2 ⟨⟨v, e, hv⟩, dr⟩ => ?_
    subst e
    have q5 := dr.keep _ _ (by omega) q5
    refine ⟨q5, by rw [q3, List.length_map]; omega, q ++ [v], by simp; omega, fun w hw => ?_, by rw [q3]; simp, (q4.trans dr).setN (Nat.le_refl _) hs, at_set (at_lt q5)⟩
    rcases List.mem_append.mp hw with h | h
    · exact q2 w h
    · cases List.mem_singleton.mp h; exact hv
  · subst q3; exact hR q C q1 q2 q4 q5
theorem pts_draw {s R i j r w N n : Nat} {lo : Int} {f : FE} {σ : ASt} {A0 A : AH} {P : Fl → AH → Prop} {ps0 : List (List Int)} {x0 : Option D} (Pv : Int → Prop) (hs : Sr s A0) (D0 : Dr s A0 A) (nR : A0.length ≤ R)
    (hR : A[R]? = some (.lst (ps0.map fun p => .tup (p.map D.int)))) (hr : ∀ x, (σ.set i x)[r]? = some (some (.ref R))) (hw : ∀ x, (σ.set i x)[w]? = some (some (.int (n : Nat)))) (hn : n ≤ 1000) (hN : ps0.length + N ≤ 100000) (h0 : σ.set i x0 = σ)
    (hf : ∀ x k C, Dr s A0 C → DrwS s C (f ((wipeA (σ.set i x) [j]).set j (some (.int k))) C) fun d => ∃ v, d = .int v ∧ Pv v)
    (hP : ∀ x C (ps : List (List Int)), ps.length = N → (∀ p ∈ ps, p.length = n ∧ ∀ v ∈ p, Pv v) → Dr s A0 C → C[R]? = some (.lst ((ps0 ++ ps).map fun p => .tup (p.map D.int))) → P (.nx (σ.set i x)) C) :
    Sat (loopD yes (gN i) (fEx (fMt "list" appendD (fV r) (fCons (fCall tupOf (fCons (fLc (fRg1 (fV w)) (gN j) (fYes) f [j]) (fNil))) (fNil)))) (rngL lo N) σ A) P := by
  have sl := hs.lt
  refine range_inv (fun k σ' C => ∃ x, σ' = σ.set i x ∧ ∃ ps : List (List Int), ps.length = k ∧ (∀ p ∈ ps, p.length = n ∧ ∀ v ∈ p, Pv v) ∧ Dr s A0 C ∧ C[R]? = some (.lst ((ps0 ++ ps).map fun p => .tup (p.map D.int))))
    (fun k σ' C hk ⟨x, e, ps, p1, p2, dr, hC⟩ => ?_) (fun σ' C ⟨x, e, ps, p1, p2, dr, hC⟩ => ?_) ⟨x0, h0.symm, [], rfl, by simp, D0, by simpa using hR⟩
  · subst e
    show Sat (Res.ok ((σ.set i x).set i (some (.int (lo + (k : Nat))))) C) _
    rw [sat_ok, List.set_set]
    have e1 : ∀ A, fV r (σ.set i (some (.int (lo + (k : Nat))))) A = .ok (.ref R) A := fun A => ev_v (hr _)
    have e2 : ∀ A, fV w (wipeA (σ.set i (some (.int (lo + (k : Nat))))) []) A = .ok (.int (n : Nat)) A := fun A => ev_v (hw _)
    have e3 : ∀ A, fV w (σ.set i (some (.int (lo + (k : Nat))))) A = .ok (.int (n : Nat)) A := fun A => ev_v (hw _)
    simp only [sat_ok, sat_bad, sat_bind, sat_ite, bind_ok, bind_bad, thn_nx, thn_rt, thn_bk, thn_ct, fin_rt, fin_nx, ev_v, ev_c, ev_op, ev_un, ev_nil, ev_cons, ev_tup, ev_lst, ev_call, ev_own, ev_sl, ev_no, ev_part, ev_and, ev_or, ev_not, ev_if, ev_t, ev_tb, ev_tnot, ev_tand, ev_tor, ev_mt, ev_mt0, ev_rgd, ev_set, ev_asg, ev_ret, ev_retN, ev_ex, ev_pass, ev_brk, ev_cont, ev_ifS, ev_aug, ev_gn, ev_gtp, ev_gnl, ev_gcs, ev_gsb, ev_for, ev_rg1, ev_rg2, ev_its, ev_enum, ev_lc, ev_yes, ev_add_ii, ev_add_ss, ev_add_tt, ev_add_rr, ev_sub, ev_mul, ev_mod, ev_fdiv, ev_pow, ev_neg, ev_lt, ev_le, ev_gt, ev_ge, ev_eq_ii, ev_eq_ss, ev_eq_bb, ev_ne_ii, ev_ne_ss, ev_ne_bb, ev_is_n, ev_isnt_n, ev_int_i, ev_int_b, ev_min_ii, ev_max_ii, ev_abs, ev_tup_of, ev_tup_ofL, ev_lst_ofT, ev_lst_ofL, ev_len_t, ev_len_s, ev_len_r, ev_tru_b, ev_alloc, ev_tupD, ev_lstD, isi_tuple_non, isi_tuple_bl, isi_tuple_int, isi_tuple_str, isi_tuple_tup, isi_tuple_l, isi_tuple_f, isi_list_non, isi_list_bl, isi_list_int, isi_list_str, isi_list_tup, isi_list_l, isi_list_f, isi_bool_non, isi_bool_bl, isi_bool_int, isi_bool_str, isi_bool_tup, isi_bool_l, isi_bool_f, isi_int_non, isi_int_bl, isi_int_int, isi_int_str, isi_int_tup, isi_int_l, isi_int_f, isi_str_non, isi_str_bl, isi_str_int, isi_str_str, isi_str_tup, isi_str_l, isi_str_f, isi_dict_non, isi_dict_bl, isi_dict_int, isi_dict_str, isi_dict_tup, isi_dict_l, isi_dict_f, Ab.isNon, args, List.map, List.length_cons, List.length_nil, List.length_singleton, List.replicate, Nat.reduceSub, Nat.reduceAdd, Nat.zero_add, List.cons_append, List.nil_append, List.getElem?_cons_zero, List.getElem?_cons_succ, List.set_cons_zero, List.set_cons_succ, Option.some.injEq, decide_eq_true_eq, Bool.not_eq_true', decide_eq_false_iff_not, ite_true, ite_false, if_true, if_false, reduceIte, Bool.false_eq_true, Bool.not_true, Bool.not_false, Bool.true_eq_false, decide_true, decide_false, Nat.reduceLeDiff, Nat.reduceLT, e1, e3, ty_l hC]
    rw [if_pos (inRg_of (by omega) (by omega)), Int.toNat_natCast]
    refine comp_draw Pv dr.src (fun k' C2 d2 => hf _ k' C2 (dr.trans d2)) hn fun q C2 q1 q2 d2 hq => ?_
    have hC2 := d2.keep R _ (by omega) hC
    simp only [sat_ok, sat_bad, sat_bind, sat_ite, bind_ok, bind_bad, thn_nx, thn_rt, thn_bk, thn_ct, fin_rt, fin_nx, ev_v, ev_c, ev_op, ev_un, ev_nil, ev_cons, ev_tup, ev_lst, ev_call, ev_own, ev_sl, ev_no, ev_part, ev_and, ev_or, ev_not, ev_if, ev_t, ev_tb, ev_tnot, ev_tand, ev_tor, ev_mt, ev_mt0, ev_rgd, ev_set, ev_asg, ev_ret, ev_retN, ev_ex, ev_pass, ev_brk, ev_cont, ev_ifS, ev_aug, ev_gn, ev_gtp, ev_gnl, ev_gcs, ev_gsb, ev_for, ev_rg1, ev_rg2, ev_its, ev_enum, ev_lc, ev_yes, ev_add_ii, ev_add_ss, ev_add_tt, ev_add_rr, ev_sub, ev_mul, ev_mod, ev_fdiv, ev_pow, ev_neg, ev_lt, ev_le, ev_gt, ev_ge, ev_eq_ii, ev_eq_ss, ev_eq_bb, ev_ne_ii, ev_ne_ss, ev_ne_bb, ev_is_n, ev_isnt_n, ev_int_i, ev_int_b, ev_min_ii, ev_max_ii, ev_abs, ev_tup_of, ev_tup_ofL, ev_lst_ofT, ev_lst_ofL, ev_len_t, ev_len_s, ev_len_r, ev_tru_b, ev_alloc, ev_tupD, ev_lstD, isi_tuple_non, isi_tuple_bl, isi_tuple_int, isi_tuple_str, isi_tuple_tup, isi_tuple_l, isi_tuple_f, isi_list_non, isi_list_bl, isi_list_int, isi_list_str, isi_list_tup, isi_list_l, isi_list_f, isi_bool_non, isi_bool_bl, isi_bool_int, isi_bool_str, isi_bool_tup, isi_bool_l, isi_bool_f, isi_int_non, isi_int_bl, isi_int_int, isi_int_str, isi_int_tup, isi_int_l, isi_int_f, isi_str_non, isi_str_bl, isi_str_int, isi_str_str, isi_str_tup, isi_str_l, isi_str_f, isi_dict_non, isi_dict_bl, isi_dict_int, isi_dict_str, isi_dict_tup, isi_dict_l, isi_dict_f, Ab.isNon, args, List.map, List.length_cons, List.length_nil, List.length_singleton, List.replicate, Nat.reduceSub, Nat.reduceAdd, Nat.zero_add, List.cons_append, List.nil_append, List.getElem?_cons_zero, List.getElem?_cons_succ, List.set_cons_zero, List.set_cons_succ, Option.some.injEq, decide_eq_true_eq, Bool.not_eq_true', decide_eq_false_iff_not, ite_true, ite_false, if_true, if_false, reduceIte, Bool.false_eq_true, Bool.not_true, Bool.not_false, Bool.true_eq_false, decide_true, decide_false, Nat.reduceLeDiff, Nat.reduceLT, ev_tup_ofL (rdL_l hq)]
    rw [ev_app hC2 (by simp; omega)]
    simp only [sat_ok, sat_bad, sat_bind, sat_ite, bind_ok, bind_bad, thn_nx, thn_rt, thn_bk, thn_ct, fin_rt, fin_nx, ev_v, ev_c, ev_op, ev_un, ev_nil, ev_cons, ev_tup, ev_lst, ev_call, ev_own, ev_sl, ev_no, ev_part, ev_and, ev_or, ev_not, ev_if, ev_t, ev_tb, ev_tnot, ev_tand, ev_tor, ev_mt, ev_mt0, ev_rgd, ev_set, ev_asg, ev_ret, ev_retN, ev_ex, ev_pass, ev_brk, ev_cont, ev_ifS, ev_aug, ev_gn, ev_gtp, ev_gnl, ev_gcs, ev_gsb, ev_for, ev_rg1, ev_rg2, ev_its, ev_enum, ev_lc, ev_yes, ev_add_ii, ev_add_ss, ev_add_tt, ev_add_rr, ev_sub, ev_mul, ev_mod, ev_fdiv, ev_pow, ev_neg, ev_lt, ev_le, ev_gt, ev_ge, ev_eq_ii, ev_eq_ss, ev_eq_bb, ev_ne_ii, ev_ne_ss, ev_ne_bb, ev_is_n, ev_isnt_n, ev_int_i, ev_int_b, ev_min_ii, ev_max_ii, ev_abs, ev_tup_of, ev_tup_ofL, ev_lst_ofT, ev_lst_ofL, ev_len_t, ev_len_s, ev_len_r, ev_tru_b, ev_alloc, ev_tupD, ev_lstD, isi_tuple_non, isi_tuple_bl, isi_tuple_int, isi_tuple_str, isi_tuple_tup, isi_tuple_l, isi_tuple_f, isi_list_non, isi_list_bl, isi_list_int, isi_list_str, isi_list_tup, isi_list_l, isi_list_f, isi_bool_non, isi_bool_bl, isi_bool_int, isi_bool_str, isi_bool_tup, isi_bool_l, isi_bool_f, isi_int_non, isi_int_bl, isi_int_int, isi_int_str, isi_int_tup, isi_int_l, isi_int_f, isi_str_non, isi_str_bl, isi_str_int, isi_str_str, isi_str_tup, isi_str_l, isi_str_f, isi_dict_non, isi_dict_bl, isi_dict_int, isi_dict_str, isi_dict_tup, isi_dict_l, isi_dict_f, Ab.isNon, args, List.map, List.length_cons, List.length_nil, List.length_singleton, List.replicate, Nat.reduceSub, Nat.reduceAdd, Nat.zero_add, List.cons_append, List.nil_append, List.getElem?_cons_zero, List.getElem?_cons_succ, List.set_cons_zero, List.set_cons_succ, Option.some.injEq, decide_eq_true_eq, Bool.not_eq_true', decide_eq_false_iff_not, ite_true, ite_false, if_true, if_false, reduceIte, Bool.false_eq_true, Bool.not_true, Bool.not_false, Bool.true_eq_false, decide_true, decide_false, Nat.reduceLeDiff, Nat.reduceLT, turn_]
    refine ⟨_, rfl, ps ++ [q], by simp; omega, fun p hp => ?_, (dr.trans d2).setN nR hs, ?_⟩
    · rcases List.mem_append.mp hp with h | h
      · exact p2 p h
      · cases List.mem_singleton.mp h; exact ⟨q1, q2⟩
    · rw [at_set (at_lt hC2), ← List.append_assoc, List.map_append (l₁ := ps0 ++ ps)]; rfl
  · subst e
    exact hP x C ps p1 p2 dr hC
/-- a list's display with a test, of things that need no cell -/
theorem comp_filter {α : Type} {ok : AH → Prop} {g : FG} {t : FT} {f : FE} {s : ASt} {A : AH} {P : D → AH → Prop} {qs : List α} (c F : α → D) (b : α → Bool)
    (hok : ∀ l, ok (A ++ [.lst l])) (hf : ∀ q ∈ qs, ∀ l, Sat (g (c q) s (A ++ [.lst l])) fun s1 A1 => Sat (t s1 A1) fun bb A2 => bb = b q ∧ A2 = A ++ [.lst l] ∧ Sat (f s1 (A ++ [.lst l])) fun y A3 => y = F q ∧ A3 = A ++ [.lst l]) (hl : qs.length ≤ 1000000)
    (hP : P (.ref A.length) (A ++ [.lst ((qs.filter b).map F)])) : Sat (loopC ok g t f A.length s (qs.map c) (A ++ [.lst []])) P := by
  refine comp_inv (fun rest acc B => B = A ++ [.lst acc] ∧ ∃ pre post, qs = pre ++ post ∧ rest = post.map c ∧ acc = (pre.filter b).map F) (fun d rest acc B ⟨hB, pre, post, h1, h0, h2⟩ => ?_) (fun acc B ⟨hB, pre, post, h1, h0, h2⟩ => ?_) _ [] _ ⟨rfl, [], qs, rfl, rfl, rfl⟩
  · subst hB
    cases post with
    | nil => cases h0
    | cons q post =>
      rw [List.map_cons, List.cons.injEq] at h0
      obtain ⟨e1, e2⟩ := h0
      subst e1; subst e2
      refine ⟨hok acc, Sat.imp (hf q (by rw [h1]; simp) acc) fun s1 A1 h3 => Sat.imp h3 fun bb A2 ⟨h4, h5, h6⟩ => ?_⟩
      subst h5; subst h4
      split
      · rename_i hb
        refine Sat.imp h6 fun y A3 ⟨h4, h5⟩ => ?_
        subst h4; subst h5
        refine ⟨at_new, ?_, ?_, pre ++ [q], post, by rw [h1]; simp, rfl, by rw [h2, List.filter_append, List.filter_cons_of_pos hb]; simp⟩
        · have : qs.length = pre.length + (post.length + 1) := by rw [h1]; simp
          have e : acc.length ≤ pre.length := by rw [h2, List.length_map]; exact List.length_filter_le ..
          refine Nat.lt_of_lt_of_le (show acc.length < 1000000 by omega) (by decide)
        · rw [List.set_append_right _ _ (Nat.le_refl _), Nat.sub_self]; rfl
      · rename_i hb
        exact ⟨rfl, pre ++ [q], post, by rw [h1]; simp, rfl, by rw [h2, List.filter_append, List.filter_cons_of_neg hb]; simp⟩
  · subst hB
    cases post with
    | cons q post => cases h0
    | nil =>
      rw [List.append_nil] at h1
      subst h1; subst h2
      exact ⟨hok _, hP⟩
/-- a while by an invariant with a measure -/
theorem while_inv {c : FT} {p : FS} {P : Fl → AH → Prop} (I : Nat → ASt → AH → Prop)
    (turn : ∀ m s A, I m s A → Sat (c s A) fun b A1 => if b = true then Sat (p s A1) (turn_ (fun s2 A2 => ∃ m', m' < m ∧ I m' s2 A2) P) else P (.nx s) A1) :
    ∀ (n m : Nat) (s : ASt) (A : AH), m < n → I m s A → Sat (loopW c p n s A) P
  | 0, m, s, A, h, _ => absurd h (Nat.not_lt_zero _)
  | n + 1, m, s, A, h, hI => by
    rw [loopW, sat_bind]
    refine Sat.imp (turn m s A hI) fun b A1 h1 => ?_
    split
    · rename_i hb
      rw [if_pos hb] at h1
      obtain ⟨fl, A2, e, h2⟩ := h1.eq
      rw [e]
      cases fl with
      | nx s2 => obtain ⟨m', lt, h3⟩ := h2; exact while_inv I turn n m' s2 A2 (by omega) h3
      | ct s2 => obtain ⟨m', lt, h3⟩ := h2; exact while_inv I turn n m' s2 A2 (by omega) h3
      | bk s2 => exact h2
      | rt d => exact h2
    · rename_i hb
      rw [if_neg hb] at h1
      exact h1
/-- a list's display of numbers drawn for things that need no cell -/
theorem comp_drawL {α : Type} (c : α → D) {s : Nat} {ok : AH → Prop} {g : FG} {f : FE} {σ : ASt} {A : AH} {R : D → AH → Prop} {qs : List α} (Pv : α → Int → Prop) (hs : Sr s A) (hok : ∀ C, Dr s A C → ok C)
    (hf : ∀ a ∈ qs, ∀ C, Dr s A C → Sat (g (c a) σ C) fun s1 A1 => A1 = C ∧ DrwS s C (f s1 C) fun d => ∃ v, d = .int v ∧ Pv a v) (hn : qs.length ≤ 1000)
    (hR : ∀ (q : List Int) C, q.length = qs.length → (∀ (i : Nat) a v, qs[i]? = some a → q[i]? = some v → Pv a v) → Dr s A C → C[A.length]? = some (.lst (q.map D.int)) → R (.ref A.length) C) :
    Sat (loopC ok g fYes f A.length σ (qs.map c) (A ++ [.lst []])) R := by
  have sl := hs.lt
  refine comp_inv (fun rest acc C => ∃ pre post q, qs = pre ++ post ∧ rest = post.map c ∧ q.length = pre.length ∧ (∀ (i : Nat) a v, pre[i]? = some a → q[i]? = some v → Pv a v) ∧ acc = q.map D.int ∧ Dr s A C ∧ C[A.length]? = some (.lst acc)) (fun d rest acc C ⟨pre, post, q, e1, e2, e3, e4, e5, dr, hC⟩ => ⟨hok C dr, ?_⟩) (fun acc C ⟨pre, post, q, e1, e2, e3, e4, e5, dr, hC⟩ => ⟨hok C dr, ?_⟩) _ [] _ ⟨[], qs, [], rfl, rfl, rfl, by simp, rfl, Dr.app hs _, at_new⟩
  · cases post with
    | nil => cases e2
    | cons a post =>
      rw [List.map_cons, List.cons.injEq] at e2
      obtain ⟨e2, e6⟩ := e2
      subst e2; subst e6
      have ln := congrArg List.length e1
      rw [List.length_append, List.length_cons] at ln
      refine Sat.imp (hf a (by rw [e1]; simp) C dr) fun s1 A1 ⟨eA, h⟩ => ?_
      subst eA
      show Sat (Res.ok true A1) _
      rw [sat_ok, if_pos rfl]
      refine Sat.imp h fun d C2 ⟨⟨v, e, hv⟩, dr2⟩ => ?_
      subst e
      have hC := dr2.keep _ _ (by omega) hC
      refine ⟨hC, Nat.lt_of_lt_of_le (show acc.length < 1000000 by rw [e5, List.length_map]; omega) (by decide), pre ++ [a], post, q ++ [v], by rw [e1]; simp, rfl, by simp; omega, fun i x w hx hw => ?_, by rw [e5]; simp, (dr.trans dr2).setN (Nat.le_refl _) hs, at_set (at_lt hC)⟩
      by_cases lt : i < pre.length
      · rw [List.getElem?_append_left lt] at hx
        rw [List.getElem?_append_left (by omega)] at hw
        exact e4 i x w hx hw
      · have ei : i = pre.length := by
          have := (List.getElem?_eq_some_iff.mp hx).1
          simp at this; omega
        subst ei
        rw [List.getElem?_append_right (Nat.le_refl _), Nat.sub_self] at hx
        rw [List.getElem?_append_right (by omega), show pre.length - q.length = 0 by omega] at hw
        cases hx; cases hw
        exact hv
  · cases post with
    | cons a post => cases e2
    | nil =>
      rw [List.append_nil] at e1
      subst e1; subst e5
      exact hR q C e3 e4 dr hC
end Ab

namespace Law
open PySem PySem.Spec PyProof.Rows L2 Ab
open scoped Classical
theorem pick_spec {A : AH} {s : Nat} {n : Int} (hs : Sr s A) (hn : n < 2 ^ 100) : DrwS s A (m__law_pick [.ref s, .int n] A) (Below n) := by
  obtain ⟨c, r, k, h⟩ := hs
  have hs : s < A.length := (List.getElem?_eq_some_iff.mp h).1
  unfold DrwS
  refine sat_body rfl (sat_seq ?_)
  have i2 : ixD (.ref s) (.int 2) A = .ok (.int k) A := ev_ix_r (rdL_l h) rfl
  have t2 : stD (.ref s) (.int 2) (.int (k + 1)) A = .ok () (A.set s (.lst [.int c, .int r, .int (k + 1)])) := ev_st_l (k := 2) (j := 2) h rfl
  simp only [sat_ok, sat_bad, sat_bind, sat_ite, bind_ok, bind_bad, thn_nx, thn_rt, thn_bk, thn_ct, fin_rt, fin_nx, ev_v, ev_c, ev_op, ev_un, ev_nil, ev_cons, ev_tup, ev_lst, ev_call, ev_own, ev_sl, ev_no, ev_part, ev_and, ev_or, ev_not, ev_if, ev_t, ev_tb, ev_tnot, ev_tand, ev_tor, ev_mt, ev_mt0, ev_rgd, ev_set, ev_asg, ev_ret, ev_retN, ev_ex, ev_pass, ev_brk, ev_cont, ev_ifS, ev_aug, ev_gn, ev_gtp, ev_gnl, ev_gcs, ev_gsb, ev_for, ev_rg1, ev_rg2, ev_its, ev_enum, ev_lc, ev_yes, ev_add_ii, ev_add_ss, ev_add_tt, ev_add_rr, ev_sub, ev_mul, ev_mod, ev_fdiv, ev_pow, ev_neg, ev_lt, ev_le, ev_gt, ev_ge, ev_eq_ii, ev_eq_ss, ev_eq_bb, ev_ne_ii, ev_ne_ss, ev_ne_bb, ev_is_n, ev_isnt_n, ev_int_i, ev_int_b, ev_min_ii, ev_max_ii, ev_abs, ev_tup_of, ev_tup_ofL, ev_lst_ofT, ev_lst_ofL, ev_len_t, ev_len_s, ev_len_r, ev_tru_b, ev_alloc, ev_tupD, ev_lstD, isi_tuple_non, isi_tuple_bl, isi_tuple_int, isi_tuple_str, isi_tuple_tup, isi_tuple_l, isi_tuple_f, isi_list_non, isi_list_bl, isi_list_int, isi_list_str, isi_list_tup, isi_list_l, isi_list_f, isi_bool_non, isi_bool_bl, isi_bool_int, isi_bool_str, isi_bool_tup, isi_bool_l, isi_bool_f, isi_int_non, isi_int_bl, isi_int_int, isi_int_str, isi_int_tup, isi_int_l, isi_int_f, isi_str_non, isi_str_bl, isi_str_int, isi_str_str, isi_str_tup, isi_str_l, isi_str_f, isi_dict_non, isi_dict_bl, isi_dict_int, isi_dict_str, isi_dict_tup, isi_dict_l, isi_dict_f, Ab.isNon, args, List.map, List.length_cons, List.length_nil, List.length_singleton, List.replicate, Nat.reduceSub, Nat.reduceAdd, Nat.zero_add, List.cons_append, List.nil_append, List.getElem?_cons_zero, List.getElem?_cons_succ, List.set_cons_zero, List.set_cons_succ, Option.some.injEq, decide_eq_true_eq, Bool.not_eq_true', decide_eq_false_iff_not, ite_true, ite_false, if_true, if_false, reduceIte, Bool.false_eq_true, Bool.not_true, Bool.not_false, Bool.true_eq_false, decide_true, decide_false, Nat.reduceLeDiff, Nat.reduceLT, i2]
  refine sat_seq ?_
  simp only [sat_ok, sat_bad, sat_bind, sat_ite, bind_ok, bind_bad, thn_nx, thn_rt, thn_bk, thn_ct, fin_rt, fin_nx, ev_v, ev_c, ev_op, ev_un, ev_nil, ev_cons, ev_tup, ev_lst, ev_call, ev_own, ev_sl, ev_no, ev_part, ev_and, ev_or, ev_not, ev_if, ev_t, ev_tb, ev_tnot, ev_tand, ev_tor, ev_mt, ev_mt0, ev_rgd, ev_set, ev_asg, ev_ret, ev_retN, ev_ex, ev_pass, ev_brk, ev_cont, ev_ifS, ev_aug, ev_gn, ev_gtp, ev_gnl, ev_gcs, ev_gsb, ev_for, ev_rg1, ev_rg2, ev_its, ev_enum, ev_lc, ev_yes, ev_add_ii, ev_add_ss, ev_add_tt, ev_add_rr, ev_sub, ev_mul, ev_mod, ev_fdiv, ev_pow, ev_neg, ev_lt, ev_le, ev_gt, ev_ge, ev_eq_ii, ev_eq_ss, ev_eq_bb, ev_ne_ii, ev_ne_ss, ev_ne_bb, ev_is_n, ev_isnt_n, ev_int_i, ev_int_b, ev_min_ii, ev_max_ii, ev_abs, ev_tup_of, ev_tup_ofL, ev_lst_ofT, ev_lst_ofL, ev_len_t, ev_len_s, ev_len_r, ev_tru_b, ev_alloc, ev_tupD, ev_lstD, isi_tuple_non, isi_tuple_bl, isi_tuple_int, isi_tuple_str, isi_tuple_tup, isi_tuple_l, isi_tuple_f, isi_list_non, isi_list_bl, isi_list_int, isi_list_str, isi_list_tup, isi_list_l, isi_list_f, isi_bool_non, isi_bool_bl, isi_bool_int, isi_bool_str, isi_bool_tup, isi_bool_l, isi_bool_f, isi_int_non, isi_int_bl, isi_int_int, isi_int_str, isi_int_tup, isi_int_l, isi_int_f, isi_str_non, isi_str_bl, isi_str_int, isi_str_str, isi_str_tup, isi_str_l, isi_str_f, isi_dict_non, isi_dict_bl, isi_dict_int, isi_dict_str, isi_dict_tup, isi_dict_l, isi_dict_f, Ab.isNon, args, List.map, List.length_cons, List.length_nil, List.length_singleton, List.replicate, Nat.reduceSub, Nat.reduceAdd, Nat.zero_add, List.cons_append, List.nil_append, List.getElem?_cons_zero, List.getElem?_cons_succ, List.set_cons_zero, List.set_cons_succ, Option.some.injEq, decide_eq_true_eq, Bool.not_eq_true', decide_eq_false_iff_not, ite_true, ite_false, if_true, if_false, reduceIte, Bool.false_eq_true, Bool.not_true, Bool.not_false, Bool.true_eq_false, decide_true, decide_false, Nat.reduceLeDiff, Nat.reduceLT, t2]
  have h' : (A.set s (.lst [.int c, .int r, .int (k + 1)]))[s]? = some (.lst [.int c, .int r, .int (k + 1)]) := List.getElem?_set_self hs
  have hset : ∀ o, (A.set s (.lst [.int c, .int r, .int (k + 1)])).set s o = A.set s o := fun o => List.set_set ..
  have hA : Dr s A (A.set s (.lst [.int c, .int r, .int (k + 1)])) := .set hs
  generalize A.set s (.lst [.int c, .int r, .int (k + 1)]) = A1 at h' hset hA ⊢
  have i0 : ixD (.ref s) (.int 0) A1 = .ok (.int c) A1 := ev_ix_r (rdL_l h') rfl
  have i1 : ixD (.ref s) (.int 1) A1 = .ok (.int r) A1 := ev_ix_r (rdL_l h') rfl
  have t1 : ∀ v, stD (.ref s) (.int 1) (.int v) A1 = .ok () (A.set s (.lst [.int c, .int v, .int (k + 1)])) := fun v => by rw [ev_st_l (k := 1) (j := 1) h' rfl, hset]; rfl
  have e18 : CPow 10 18 := powOk (by decide) (by decide) (by decide)
  refine sat_seq ?_
  simp only [sat_ok, sat_bad, sat_bind, sat_ite, bind_ok, bind_bad, thn_nx, thn_rt, thn_bk, thn_ct, fin_rt, fin_nx, ev_v, ev_c, ev_op, ev_un, ev_nil, ev_cons, ev_tup, ev_lst, ev_call, ev_own, ev_sl, ev_no, ev_part, ev_and, ev_or, ev_not, ev_if, ev_t, ev_tb, ev_tnot, ev_tand, ev_tor, ev_mt, ev_mt0, ev_rgd, ev_set, ev_asg, ev_ret, ev_retN, ev_ex, ev_pass, ev_brk, ev_cont, ev_ifS, ev_aug, ev_gn, ev_gtp, ev_gnl, ev_gcs, ev_gsb, ev_for, ev_rg1, ev_rg2, ev_its, ev_enum, ev_lc, ev_yes, ev_add_ii, ev_add_ss, ev_add_tt, ev_add_rr, ev_sub, ev_mul, ev_mod, ev_fdiv, ev_pow, ev_neg, ev_lt, ev_le, ev_gt, ev_ge, ev_eq_ii, ev_eq_ss, ev_eq_bb, ev_ne_ii, ev_ne_ss, ev_ne_bb, ev_is_n, ev_isnt_n, ev_int_i, ev_int_b, ev_min_ii, ev_max_ii, ev_abs, ev_tup_of, ev_tup_ofL, ev_lst_ofT, ev_lst_ofL, ev_len_t, ev_len_s, ev_len_r, ev_tru_b, ev_alloc, ev_tupD, ev_lstD, isi_tuple_non, isi_tuple_bl, isi_tuple_int, isi_tuple_str, isi_tuple_tup, isi_tuple_l, isi_tuple_f, isi_list_non, isi_list_bl, isi_list_int, isi_list_str, isi_list_tup, isi_list_l, isi_list_f, isi_bool_non, isi_bool_bl, isi_bool_int, isi_bool_str, isi_bool_tup, isi_bool_l, isi_bool_f, isi_int_non, isi_int_bl, isi_int_int, isi_int_str, isi_int_tup, isi_int_l, isi_int_f, isi_str_non, isi_str_bl, isi_str_int, isi_str_str, isi_str_tup, isi_str_l, isi_str_f, isi_dict_non, isi_dict_bl, isi_dict_int, isi_dict_str, isi_dict_tup, isi_dict_l, isi_dict_f, Ab.isNon, args, List.map, List.length_cons, List.length_nil, List.length_singleton, List.replicate, Nat.reduceSub, Nat.reduceAdd, Nat.zero_add, List.cons_append, List.nil_append, List.getElem?_cons_zero, List.getElem?_cons_succ, List.set_cons_zero, List.set_cons_succ, Option.some.injEq, decide_eq_true_eq, Bool.not_eq_true', decide_eq_false_iff_not, ite_true, ite_false, if_true, if_false, reduceIte, Bool.false_eq_true, Bool.not_true, Bool.not_false, Bool.true_eq_false, decide_true, decide_false, Nat.reduceLeDiff, Nat.reduceLT]
  split
  · exact ⟨⟨0, rfl, by omega, .inr rfl⟩, hA⟩
  rename_i hn2
  have n0 : 0 < n := by omega
  have dn : CDivW r n := divOk n0 (Int.lt_trans hn (by decide))
  have last : ∀ x : Int, CDivW x 9 := fun x => divOk (by decide) (by decide)
  have m1 : ∀ j : Int, mulOk 7919 j := fun j => mulOk_l (by decide) (by decide)
  have m2 : ∀ j : Int, mulOk 31 j := fun j => mulOk_l (by decide) (by decide)
  have m3 : ∀ i j : Int, mulOk (i % 2147483647) j := fun i j => mulOk_l (by omega) (by omega)
  have m4 : ∀ i j : Int, mulOk (i % 2147483629) j := fun i j => mulOk_l (by omega) (by omega)
  have p1 : (0 : Int) < 2147483647 := by decide
  have p2 : (0 : Int) < 2147483629 := by decide
  refine sat_seq (sat_ifS (b := decide (10 ^ 18 ≤ c ∧ 0 < r)) ?_ (fun _ => ?_) (fun _ => ?_))
  · simp only [sat_ok, sat_bad, sat_bind, sat_ite, bind_ok, bind_bad, thn_nx, thn_rt, thn_bk, thn_ct, fin_rt, fin_nx, ev_v, ev_c, ev_op, ev_un, ev_nil, ev_cons, ev_tup, ev_lst, ev_call, ev_own, ev_sl, ev_no, ev_part, ev_and, ev_or, ev_not, ev_if, ev_t, ev_tb, ev_tnot, ev_tand, ev_tor, ev_mt, ev_mt0, ev_rgd, ev_set, ev_asg, ev_ret, ev_retN, ev_ex, ev_pass, ev_brk, ev_cont, ev_ifS, ev_aug, ev_gn, ev_gtp, ev_gnl, ev_gcs, ev_gsb, ev_for, ev_rg1, ev_rg2, ev_its, ev_enum, ev_lc, ev_yes, ev_add_ii, ev_add_ss, ev_add_tt, ev_add_rr, ev_sub, ev_mul, ev_mod, ev_fdiv, ev_pow, ev_neg, ev_lt, ev_le, ev_gt, ev_ge, ev_eq_ii, ev_eq_ss, ev_eq_bb, ev_ne_ii, ev_ne_ss, ev_ne_bb, ev_is_n, ev_isnt_n, ev_int_i, ev_int_b, ev_min_ii, ev_max_ii, ev_abs, ev_tup_of, ev_tup_ofL, ev_lst_ofT, ev_lst_ofL, ev_len_t, ev_len_s, ev_len_r, ev_tru_b, ev_alloc, ev_tupD, ev_lstD, isi_tuple_non, isi_tuple_bl, isi_tuple_int, isi_tuple_str, isi_tuple_tup, isi_tuple_l, isi_tuple_f, isi_list_non, isi_list_bl, isi_list_int, isi_list_str, isi_list_tup, isi_list_l, isi_list_f, isi_bool_non, isi_bool_bl, isi_bool_int, isi_bool_str, isi_bool_tup, isi_bool_l, isi_bool_f, isi_int_non, isi_int_bl, isi_int_int, isi_int_str, isi_int_tup, isi_int_l, isi_int_f, isi_str_non, isi_str_bl, isi_str_int, isi_str_str, isi_str_tup, isi_str_l, isi_str_f, isi_dict_non, isi_dict_bl, isi_dict_int, isi_dict_str, isi_dict_tup, isi_dict_l, isi_dict_f, Ab.isNon, args, List.map, List.length_cons, List.length_nil, List.length_singleton, List.replicate, Nat.reduceSub, Nat.reduceAdd, Nat.zero_add, List.cons_append, List.nil_append, List.getElem?_cons_zero, List.getElem?_cons_succ, List.set_cons_zero, List.set_cons_succ, Option.some.injEq, decide_eq_true_eq, Bool.not_eq_true', decide_eq_false_iff_not, ite_true, ite_false, if_true, if_false, reduceIte, Bool.false_eq_true, Bool.not_true, Bool.not_false, Bool.true_eq_false, decide_true, decide_false, Nat.reduceLeDiff, Nat.reduceLT, i0, i1, e18]
    by_cases h1 : (10 : Int) ^ Int.toNat 18 ≤ c
    · rw [if_pos h1]; congr 1; exact decide_eq_decide.mpr ⟨fun q => ⟨h1, q⟩, fun q => q.2⟩
    · rw [if_neg h1]; congr 1; exact (decide_eq_false fun q => h1 q.1).symm
  · refine sat_seq ?_
    simp only [sat_ok, sat_bad, sat_bind, sat_ite, bind_ok, bind_bad, thn_nx, thn_rt, thn_bk, thn_ct, fin_rt, fin_nx, ev_v, ev_c, ev_op, ev_un, ev_nil, ev_cons, ev_tup, ev_lst, ev_call, ev_own, ev_sl, ev_no, ev_part, ev_and, ev_or, ev_not, ev_if, ev_t, ev_tb, ev_tnot, ev_tand, ev_tor, ev_mt, ev_mt0, ev_rgd, ev_set, ev_asg, ev_ret, ev_retN, ev_ex, ev_pass, ev_brk, ev_cont, ev_ifS, ev_aug, ev_gn, ev_gtp, ev_gnl, ev_gcs, ev_gsb, ev_for, ev_rg1, ev_rg2, ev_its, ev_enum, ev_lc, ev_yes, ev_add_ii, ev_add_ss, ev_add_tt, ev_add_rr, ev_sub, ev_mul, ev_mod, ev_fdiv, ev_pow, ev_neg, ev_lt, ev_le, ev_gt, ev_ge, ev_eq_ii, ev_eq_ss, ev_eq_bb, ev_ne_ii, ev_ne_ss, ev_ne_bb, ev_is_n, ev_isnt_n, ev_int_i, ev_int_b, ev_min_ii, ev_max_ii, ev_abs, ev_tup_of, ev_tup_ofL, ev_lst_ofT, ev_lst_ofL, ev_len_t, ev_len_s, ev_len_r, ev_tru_b, ev_alloc, ev_tupD, ev_lstD, isi_tuple_non, isi_tuple_bl, isi_tuple_int, isi_tuple_str, isi_tuple_tup, isi_tuple_l, isi_tuple_f, isi_list_non, isi_list_bl, isi_list_int, isi_list_str, isi_list_tup, isi_list_l, isi_list_f, isi_bool_non, isi_bool_bl, isi_bool_int, isi_bool_str, isi_bool_tup, isi_bool_l, isi_bool_f, isi_int_non, isi_int_bl, isi_int_int, isi_int_str, isi_int_tup, isi_int_l, isi_int_f, isi_str_non, isi_str_bl, isi_str_int, isi_str_str, isi_str_tup, isi_str_l, isi_str_f, isi_dict_non, isi_dict_bl, isi_dict_int, isi_dict_str, isi_dict_tup, isi_dict_l, isi_dict_f, Ab.isNon, args, List.map, List.length_cons, List.length_nil, List.length_singleton, List.replicate, Nat.reduceSub, Nat.reduceAdd, Nat.zero_add, List.cons_append, List.nil_append, List.getElem?_cons_zero, List.getElem?_cons_succ, List.set_cons_zero, List.set_cons_succ, Option.some.injEq, decide_eq_true_eq, Bool.not_eq_true', decide_eq_false_iff_not, ite_true, ite_false, if_true, if_false, reduceIte, Bool.false_eq_true, Bool.not_true, Bool.not_false, Bool.true_eq_false, decide_true, decide_false, Nat.reduceLeDiff, Nat.reduceLT, i1, n0]
    refine sat_seq ?_
    simp only [sat_ok, sat_bad, sat_bind, sat_ite, bind_ok, bind_bad, thn_nx, thn_rt, thn_bk, thn_ct, fin_rt, fin_nx, ev_v, ev_c, ev_op, ev_un, ev_nil, ev_cons, ev_tup, ev_lst, ev_call, ev_own, ev_sl, ev_no, ev_part, ev_and, ev_or, ev_not, ev_if, ev_t, ev_tb, ev_tnot, ev_tand, ev_tor, ev_mt, ev_mt0, ev_rgd, ev_set, ev_asg, ev_ret, ev_retN, ev_ex, ev_pass, ev_brk, ev_cont, ev_ifS, ev_aug, ev_gn, ev_gtp, ev_gnl, ev_gcs, ev_gsb, ev_for, ev_rg1, ev_rg2, ev_its, ev_enum, ev_lc, ev_yes, ev_add_ii, ev_add_ss, ev_add_tt, ev_add_rr, ev_sub, ev_mul, ev_mod, ev_fdiv, ev_pow, ev_neg, ev_lt, ev_le, ev_gt, ev_ge, ev_eq_ii, ev_eq_ss, ev_eq_bb, ev_ne_ii, ev_ne_ss, ev_ne_bb, ev_is_n, ev_isnt_n, ev_int_i, ev_int_b, ev_min_ii, ev_max_ii, ev_abs, ev_tup_of, ev_tup_ofL, ev_lst_ofT, ev_lst_ofL, ev_len_t, ev_len_s, ev_len_r, ev_tru_b, ev_alloc, ev_tupD, ev_lstD, isi_tuple_non, isi_tuple_bl, isi_tuple_int, isi_tuple_str, isi_tuple_tup, isi_tuple_l, isi_tuple_f, isi_list_non, isi_list_bl, isi_list_int, isi_list_str, isi_list_tup, isi_list_l, isi_list_f, isi_bool_non, isi_bool_bl, isi_bool_int, isi_bool_str, isi_bool_tup, isi_bool_l, isi_bool_f, isi_int_non, isi_int_bl, isi_int_int, isi_int_str, isi_int_tup, isi_int_l, isi_int_f, isi_str_non, isi_str_bl, isi_str_int, isi_str_str, isi_str_tup, isi_str_l, isi_str_f, isi_dict_non, isi_dict_bl, isi_dict_int, isi_dict_str, isi_dict_tup, isi_dict_l, isi_dict_f, Ab.isNon, args, List.map, List.length_cons, List.length_nil, List.length_singleton, List.replicate, Nat.reduceSub, Nat.reduceAdd, Nat.zero_add, List.cons_append, List.nil_append, List.getElem?_cons_zero, List.getElem?_cons_succ, List.set_cons_zero, List.set_cons_succ, Option.some.injEq, decide_eq_true_eq, Bool.not_eq_true', decide_eq_false_iff_not, ite_true, ite_false, if_true, if_false, reduceIte, Bool.false_eq_true, Bool.not_true, Bool.not_false, Bool.true_eq_false, decide_true, decide_false, Nat.reduceLeDiff, Nat.reduceLT, i1, t1, dn]
    exact ⟨⟨_, rfl, Int.emod_nonneg _ (by omega), .inl (Int.emod_lt_of_pos _ n0)⟩, .set hs⟩
  · simp only [sat_ok, sat_bad, sat_bind, sat_ite, bind_ok, bind_bad, thn_nx, thn_rt, thn_bk, thn_ct, fin_rt, fin_nx, ev_v, ev_c, ev_op, ev_un, ev_nil, ev_cons, ev_tup, ev_lst, ev_call, ev_own, ev_sl, ev_no, ev_part, ev_and, ev_or, ev_not, ev_if, ev_t, ev_tb, ev_tnot, ev_tand, ev_tor, ev_mt, ev_mt0, ev_rgd, ev_set, ev_asg, ev_ret, ev_retN, ev_ex, ev_pass, ev_brk, ev_cont, ev_ifS, ev_aug, ev_gn, ev_gtp, ev_gnl, ev_gcs, ev_gsb, ev_for, ev_rg1, ev_rg2, ev_its, ev_enum, ev_lc, ev_yes, ev_add_ii, ev_add_ss, ev_add_tt, ev_add_rr, ev_sub, ev_mul, ev_mod, ev_fdiv, ev_pow, ev_neg, ev_lt, ev_le, ev_gt, ev_ge, ev_eq_ii, ev_eq_ss, ev_eq_bb, ev_ne_ii, ev_ne_ss, ev_ne_bb, ev_is_n, ev_isnt_n, ev_int_i, ev_int_b, ev_min_ii, ev_max_ii, ev_abs, ev_tup_of, ev_tup_ofL, ev_lst_ofT, ev_lst_ofL, ev_len_t, ev_len_s, ev_len_r, ev_tru_b, ev_alloc, ev_tupD, ev_lstD, isi_tuple_non, isi_tuple_bl, isi_tuple_int, isi_tuple_str, isi_tuple_tup, isi_tuple_l, isi_tuple_f, isi_list_non, isi_list_bl, isi_list_int, isi_list_str, isi_list_tup, isi_list_l, isi_list_f, isi_bool_non, isi_bool_bl, isi_bool_int, isi_bool_str, isi_bool_tup, isi_bool_l, isi_bool_f, isi_int_non, isi_int_bl, isi_int_int, isi_int_str, isi_int_tup, isi_int_l, isi_int_f, isi_str_non, isi_str_bl, isi_str_int, isi_str_str, isi_str_tup, isi_str_l, isi_str_f, isi_dict_non, isi_dict_bl, isi_dict_int, isi_dict_str, isi_dict_tup, isi_dict_l, isi_dict_f, Ab.isNon, args, List.map, List.length_cons, List.length_nil, List.length_singleton, List.replicate, Nat.reduceSub, Nat.reduceAdd, Nat.zero_add, List.cons_append, List.nil_append, List.getElem?_cons_zero, List.getElem?_cons_succ, List.set_cons_zero, List.set_cons_succ, Option.some.injEq, decide_eq_true_eq, Bool.not_eq_true', decide_eq_false_iff_not, ite_true, ite_false, if_true, if_false, reduceIte, Bool.false_eq_true, Bool.not_true, Bool.not_false, Bool.true_eq_false, decide_true, decide_false, Nat.reduceLeDiff, Nat.reduceLT]
    refine sat_seq ?_
    simp only [sat_ok, sat_bad, sat_bind, sat_ite, bind_ok, bind_bad, thn_nx, thn_rt, thn_bk, thn_ct, fin_rt, fin_nx, ev_v, ev_c, ev_op, ev_un, ev_nil, ev_cons, ev_tup, ev_lst, ev_call, ev_own, ev_sl, ev_no, ev_part, ev_and, ev_or, ev_not, ev_if, ev_t, ev_tb, ev_tnot, ev_tand, ev_tor, ev_mt, ev_mt0, ev_rgd, ev_set, ev_asg, ev_ret, ev_retN, ev_ex, ev_pass, ev_brk, ev_cont, ev_ifS, ev_aug, ev_gn, ev_gtp, ev_gnl, ev_gcs, ev_gsb, ev_for, ev_rg1, ev_rg2, ev_its, ev_enum, ev_lc, ev_yes, ev_add_ii, ev_add_ss, ev_add_tt, ev_add_rr, ev_sub, ev_mul, ev_mod, ev_fdiv, ev_pow, ev_neg, ev_lt, ev_le, ev_gt, ev_ge, ev_eq_ii, ev_eq_ss, ev_eq_bb, ev_ne_ii, ev_ne_ss, ev_ne_bb, ev_is_n, ev_isnt_n, ev_int_i, ev_int_b, ev_min_ii, ev_max_ii, ev_abs, ev_tup_of, ev_tup_ofL, ev_lst_ofT, ev_lst_ofL, ev_len_t, ev_len_s, ev_len_r, ev_tru_b, ev_alloc, ev_tupD, ev_lstD, isi_tuple_non, isi_tuple_bl, isi_tuple_int, isi_tuple_str, isi_tuple_tup, isi_tuple_l, isi_tuple_f, isi_list_non, isi_list_bl, isi_list_int, isi_list_str, isi_list_tup, isi_list_l, isi_list_f, isi_bool_non, isi_bool_bl, isi_bool_int, isi_bool_str, isi_bool_tup, isi_bool_l, isi_bool_f, isi_int_non, isi_int_bl, isi_int_int, isi_int_str, isi_int_tup, isi_int_l, isi_int_f, isi_str_non, isi_str_bl, isi_str_int, isi_str_str, isi_str_tup, isi_str_l, isi_str_f, isi_dict_non, isi_dict_bl, isi_dict_int, isi_dict_str, isi_dict_tup, isi_dict_l, isi_dict_f, Ab.isNon, args, List.map, List.length_cons, List.length_nil, List.length_singleton, List.replicate, Nat.reduceSub, Nat.reduceAdd, Nat.zero_add, List.cons_append, List.nil_append, List.getElem?_cons_zero, List.getElem?_cons_succ, List.set_cons_zero, List.set_cons_succ, Option.some.injEq, decide_eq_true_eq, Bool.not_eq_true', decide_eq_false_iff_not, ite_true, ite_false, if_true, if_false, reduceIte, Bool.false_eq_true, Bool.not_true, Bool.not_false, Bool.true_eq_false, decide_true, decide_false, Nat.reduceLeDiff, Nat.reduceLT, i0, m1, p1]
    refine sat_seq ?_
    simp only [sat_ok, sat_bad, sat_bind, sat_ite, bind_ok, bind_bad, thn_nx, thn_rt, thn_bk, thn_ct, fin_rt, fin_nx, ev_v, ev_c, ev_op, ev_un, ev_nil, ev_cons, ev_tup, ev_lst, ev_call, ev_own, ev_sl, ev_no, ev_part, ev_and, ev_or, ev_not, ev_if, ev_t, ev_tb, ev_tnot, ev_tand, ev_tor, ev_mt, ev_mt0, ev_rgd, ev_set, ev_asg, ev_ret, ev_retN, ev_ex, ev_pass, ev_brk, ev_cont, ev_ifS, ev_aug, ev_gn, ev_gtp, ev_gnl, ev_gcs, ev_gsb, ev_for, ev_rg1, ev_rg2, ev_its, ev_enum, ev_lc, ev_yes, ev_add_ii, ev_add_ss, ev_add_tt, ev_add_rr, ev_sub, ev_mul, ev_mod, ev_fdiv, ev_pow, ev_neg, ev_lt, ev_le, ev_gt, ev_ge, ev_eq_ii, ev_eq_ss, ev_eq_bb, ev_ne_ii, ev_ne_ss, ev_ne_bb, ev_is_n, ev_isnt_n, ev_int_i, ev_int_b, ev_min_ii, ev_max_ii, ev_abs, ev_tup_of, ev_tup_ofL, ev_lst_ofT, ev_lst_ofL, ev_len_t, ev_len_s, ev_len_r, ev_tru_b, ev_alloc, ev_tupD, ev_lstD, isi_tuple_non, isi_tuple_bl, isi_tuple_int, isi_tuple_str, isi_tuple_tup, isi_tuple_l, isi_tuple_f, isi_list_non, isi_list_bl, isi_list_int, isi_list_str, isi_list_tup, isi_list_l, isi_list_f, isi_bool_non, isi_bool_bl, isi_bool_int, isi_bool_str, isi_bool_tup, isi_bool_l, isi_bool_f, isi_int_non, isi_int_bl, isi_int_int, isi_int_str, isi_int_tup, isi_int_l, isi_int_f, isi_str_non, isi_str_bl, isi_str_int, isi_str_str, isi_str_tup, isi_str_l, isi_str_f, isi_dict_non, isi_dict_bl, isi_dict_int, isi_dict_str, isi_dict_tup, isi_dict_l, isi_dict_f, Ab.isNon, args, List.map, List.length_cons, List.length_nil, List.length_singleton, List.replicate, Nat.reduceSub, Nat.reduceAdd, Nat.zero_add, List.cons_append, List.nil_append, List.getElem?_cons_zero, List.getElem?_cons_succ, List.set_cons_zero, List.set_cons_succ, Option.some.injEq, decide_eq_true_eq, Bool.not_eq_true', decide_eq_false_iff_not, ite_true, ite_false, if_true, if_false, reduceIte, Bool.false_eq_true, Bool.not_true, Bool.not_false, Bool.true_eq_false, decide_true, decide_false, Nat.reduceLeDiff, Nat.reduceLT, m3, p2]
    refine sat_seq ?_
    simp only [sat_ok, sat_bad, sat_bind, sat_ite, bind_ok, bind_bad, thn_nx, thn_rt, thn_bk, thn_ct, fin_rt, fin_nx, ev_v, ev_c, ev_op, ev_un, ev_nil, ev_cons, ev_tup, ev_lst, ev_call, ev_own, ev_sl, ev_no, ev_part, ev_and, ev_or, ev_not, ev_if, ev_t, ev_tb, ev_tnot, ev_tand, ev_tor, ev_mt, ev_mt0, ev_rgd, ev_set, ev_asg, ev_ret, ev_retN, ev_ex, ev_pass, ev_brk, ev_cont, ev_ifS, ev_aug, ev_gn, ev_gtp, ev_gnl, ev_gcs, ev_gsb, ev_for, ev_rg1, ev_rg2, ev_its, ev_enum, ev_lc, ev_yes, ev_add_ii, ev_add_ss, ev_add_tt, ev_add_rr, ev_sub, ev_mul, ev_mod, ev_fdiv, ev_pow, ev_neg, ev_lt, ev_le, ev_gt, ev_ge, ev_eq_ii, ev_eq_ss, ev_eq_bb, ev_ne_ii, ev_ne_ss, ev_ne_bb, ev_is_n, ev_isnt_n, ev_int_i, ev_int_b, ev_min_ii, ev_max_ii, ev_abs, ev_tup_of, ev_tup_ofL, ev_lst_ofT, ev_lst_ofL, ev_len_t, ev_len_s, ev_len_r, ev_tru_b, ev_alloc, ev_tupD, ev_lstD, isi_tuple_non, isi_tuple_bl, isi_tuple_int, isi_tuple_str, isi_tuple_tup, isi_tuple_l, isi_tuple_f, isi_list_non, isi_list_bl, isi_list_int, isi_list_str, isi_list_tup, isi_list_l, isi_list_f, isi_bool_non, isi_bool_bl, isi_bool_int, isi_bool_str, isi_bool_tup, isi_bool_l, isi_bool_f, isi_int_non, isi_int_bl, isi_int_int, isi_int_str, isi_int_tup, isi_int_l, isi_int_f, isi_str_non, isi_str_bl, isi_str_int, isi_str_str, isi_str_tup, isi_str_l, isi_str_f, isi_dict_non, isi_dict_bl, isi_dict_int, isi_dict_str, isi_dict_tup, isi_dict_l, isi_dict_f, Ab.isNon, args, List.map, List.length_cons, List.length_nil, List.length_singleton, List.replicate, Nat.reduceSub, Nat.reduceAdd, Nat.zero_add, List.cons_append, List.nil_append, List.getElem?_cons_zero, List.getElem?_cons_succ, List.set_cons_zero, List.set_cons_succ, Option.some.injEq, decide_eq_true_eq, Bool.not_eq_true', decide_eq_false_iff_not, ite_true, ite_false, if_true, if_false, reduceIte, Bool.false_eq_true, Bool.not_true, Bool.not_false, Bool.true_eq_false, decide_true, decide_false, Nat.reduceLeDiff, Nat.reduceLT, m4, m2, p1]
    simp only [sat_ok, sat_bad, sat_bind, sat_ite, bind_ok, bind_bad, thn_nx, thn_rt, thn_bk, thn_ct, fin_rt, fin_nx, ev_v, ev_c, ev_op, ev_un, ev_nil, ev_cons, ev_tup, ev_lst, ev_call, ev_own, ev_sl, ev_no, ev_part, ev_and, ev_or, ev_not, ev_if, ev_t, ev_tb, ev_tnot, ev_tand, ev_tor, ev_mt, ev_mt0, ev_rgd, ev_set, ev_asg, ev_ret, ev_retN, ev_ex, ev_pass, ev_brk, ev_cont, ev_ifS, ev_aug, ev_gn, ev_gtp, ev_gnl, ev_gcs, ev_gsb, ev_for, ev_rg1, ev_rg2, ev_its, ev_enum, ev_lc, ev_yes, ev_add_ii, ev_add_ss, ev_add_tt, ev_add_rr, ev_sub, ev_mul, ev_mod, ev_fdiv, ev_pow, ev_neg, ev_lt, ev_le, ev_gt, ev_ge, ev_eq_ii, ev_eq_ss, ev_eq_bb, ev_ne_ii, ev_ne_ss, ev_ne_bb, ev_is_n, ev_isnt_n, ev_int_i, ev_int_b, ev_min_ii, ev_max_ii, ev_abs, ev_tup_of, ev_tup_ofL, ev_lst_ofT, ev_lst_ofL, ev_len_t, ev_len_s, ev_len_r, ev_tru_b, ev_alloc, ev_tupD, ev_lstD, isi_tuple_non, isi_tuple_bl, isi_tuple_int, isi_tuple_str, isi_tuple_tup, isi_tuple_l, isi_tuple_f, isi_list_non, isi_list_bl, isi_list_int, isi_list_str, isi_list_tup, isi_list_l, isi_list_f, isi_bool_non, isi_bool_bl, isi_bool_int, isi_bool_str, isi_bool_tup, isi_bool_l, isi_bool_f, isi_int_non, isi_int_bl, isi_int_int, isi_int_str, isi_int_tup, isi_int_l, isi_int_f, isi_str_non, isi_str_bl, isi_str_int, isi_str_str, isi_str_tup, isi_str_l, isi_str_f, isi_dict_non, isi_dict_bl, isi_dict_int, isi_dict_str, isi_dict_tup, isi_dict_l, isi_dict_f, Ab.isNon, args, List.map, List.length_cons, List.length_nil, List.length_singleton, List.replicate, Nat.reduceSub, Nat.reduceAdd, Nat.zero_add, List.cons_append, List.nil_append, List.getElem?_cons_zero, List.getElem?_cons_succ, List.set_cons_zero, List.set_cons_succ, Option.some.injEq, decide_eq_true_eq, Bool.not_eq_true', decide_eq_false_iff_not, ite_true, ite_false, if_true, if_false, reduceIte, Bool.false_eq_true, Bool.not_true, Bool.not_false, Bool.true_eq_false, decide_true, decide_false, Nat.reduceLeDiff, Nat.reduceLT, last, n0]
    exact ⟨⟨_, rfl, Int.emod_nonneg _ (by omega), .inl (Int.emod_lt_of_pos _ n0)⟩, hA⟩
theorem same_refl : ∀ (n : Nat) (d : D) (A : AH), Pl n d → m__law_same (n + 1) [d, d] A = .ok (.bl true) A := by
  intro n
  induction n with
  | zero =>
    intro d A h
    have key : Sat (m__law_same (0 + 1) [d, d] A) fun e A' => e = .bl true ∧ A' = A := by
      refine sat_body rfl (sat_seq ?_)
      cases d with
      | non => simp only [sat_ok, sat_bad, sat_bind, sat_ite, bind_ok, bind_bad, thn_nx, thn_rt, thn_bk, thn_ct, fin_rt, fin_nx, ev_v, ev_c, ev_op, ev_un, ev_nil, ev_cons, ev_tup, ev_lst, ev_call, ev_own, ev_sl, ev_no, ev_part, ev_and, ev_or, ev_not, ev_if, ev_t, ev_tb, ev_tnot, ev_tand, ev_tor, ev_mt, ev_mt0, ev_rgd, ev_set, ev_asg, ev_ret, ev_retN, ev_ex, ev_pass, ev_brk, ev_cont, ev_ifS, ev_aug, ev_gn, ev_gtp, ev_gnl, ev_gcs, ev_gsb, ev_for, ev_rg1, ev_rg2, ev_its, ev_enum, ev_lc, ev_yes, ev_add_ii, ev_add_ss, ev_add_tt, ev_add_rr, ev_sub, ev_mul, ev_mod, ev_fdiv, ev_pow, ev_neg, ev_lt, ev_le, ev_gt, ev_ge, ev_eq_ii, ev_eq_ss, ev_eq_bb, ev_ne_ii, ev_ne_ss, ev_ne_bb, ev_is_n, ev_isnt_n, ev_int_i, ev_int_b, ev_min_ii, ev_max_ii, ev_abs, ev_tup_of, ev_tup_ofL, ev_lst_ofT, ev_lst_ofL, ev_len_t, ev_len_s, ev_len_r, ev_tru_b, ev_alloc, ev_tupD, ev_lstD, isi_tuple_non, isi_tuple_bl, isi_tuple_int, isi_tuple_str, isi_tuple_tup, isi_tuple_l, isi_tuple_f, isi_list_non, isi_list_bl, isi_list_int, isi_list_str, isi_list_tup, isi_list_l, isi_list_f, isi_bool_non, isi_bool_bl, isi_bool_int, isi_bool_str, isi_bool_tup, isi_bool_l, isi_bool_f, isi_int_non, isi_int_bl, isi_int_int, isi_int_str, isi_int_tup, isi_int_l, isi_int_f, isi_str_non, isi_str_bl, isi_str_int, isi_str_str, isi_str_tup, isi_str_l, isi_str_f, isi_dict_non, isi_dict_bl, isi_dict_int, isi_dict_str, isi_dict_tup, isi_dict_l, isi_dict_f, Ab.isNon, args, List.map, List.length_cons, List.length_nil, List.length_singleton, List.replicate, Nat.reduceSub, Nat.reduceAdd, Nat.zero_add, List.cons_append, List.nil_append, List.getElem?_cons_zero, List.getElem?_cons_succ, List.set_cons_zero, List.set_cons_succ, Option.some.injEq, decide_eq_true_eq, Bool.not_eq_true', decide_eq_false_iff_not, ite_true, ite_false, if_true, if_false, reduceIte, Bool.false_eq_true, Bool.not_true, Bool.not_false, Bool.true_eq_false, decide_true, decide_false, Nat.reduceLeDiff, Nat.reduceLT]; refine sat_seq ?_; simp only [sat_ok, sat_bad, sat_bind, sat_ite, bind_ok, bind_bad, thn_nx, thn_rt, thn_bk, thn_ct, fin_rt, fin_nx, ev_v, ev_c, ev_op, ev_un, ev_nil, ev_cons, ev_tup, ev_lst, ev_call, ev_own, ev_sl, ev_no, ev_part, ev_and, ev_or, ev_not, ev_if, ev_t, ev_tb, ev_tnot, ev_tand, ev_tor, ev_mt, ev_mt0, ev_rgd, ev_set, ev_asg, ev_ret, ev_retN, ev_ex, ev_pass, ev_brk, ev_cont, ev_ifS, ev_aug, ev_gn, ev_gtp, ev_gnl, ev_gcs, ev_gsb, ev_for, ev_rg1, ev_rg2, ev_its, ev_enum, ev_lc, ev_yes, ev_add_ii, ev_add_ss, ev_add_tt, ev_add_rr, ev_sub, ev_mul, ev_mod, ev_fdiv, ev_pow, ev_neg, ev_lt, ev_le, ev_gt, ev_ge, ev_eq_ii, ev_eq_ss, ev_eq_bb, ev_ne_ii, ev_ne_ss, ev_ne_bb, ev_is_n, ev_isnt_n, ev_int_i, ev_int_b, ev_min_ii, ev_max_ii, ev_abs, ev_tup_of, ev_tup_ofL, ev_lst_ofT, ev_lst_ofL, ev_len_t, ev_len_s, ev_len_r, ev_tru_b, ev_alloc, ev_tupD, ev_lstD, isi_tuple_non, isi_tuple_bl, isi_tuple_int, isi_tuple_str, isi_tuple_tup, isi_tuple_l, isi_tuple_f, isi_list_non, isi_list_bl, isi_list_int, isi_list_str, isi_list_tup, isi_list_l, isi_list_f, isi_bool_non, isi_bool_bl, isi_bool_int, isi_bool_str, isi_bool_tup, isi_bool_l, isi_bool_f, isi_int_non, isi_int_bl, isi_int_int, isi_int_str, isi_int_tup, isi_int_l, isi_int_f, isi_str_non, isi_str_bl, isi_str_int, isi_str_str, isi_str_tup, isi_str_l, isi_str_f, isi_dict_non, isi_dict_bl, isi_dict_int, isi_dict_str, isi_dict_tup, isi_dict_l, isi_dict_f, Ab.isNon, args, List.map, List.length_cons, List.length_nil, List.length_singleton, List.replicate, Nat.reduceSub, Nat.reduceAdd, Nat.zero_add, List.cons_append, List.nil_append, List.getElem?_cons_zero, List.getElem?_cons_succ, List.set_cons_zero, List.set_cons_succ, Option.some.injEq, decide_eq_true_eq, Bool.not_eq_true', decide_eq_false_iff_not, ite_true, ite_false, if_true, if_false, reduceIte, Bool.false_eq_true, Bool.not_true, Bool.not_false, Bool.true_eq_false, decide_true, decide_false, Nat.reduceLeDiff, Nat.reduceLT]; trivial
      | bl b => simp only [sat_ok, sat_bad, sat_bind, sat_ite, bind_ok, bind_bad, thn_nx, thn_rt, thn_bk, thn_ct, fin_rt, fin_nx, ev_v, ev_c, ev_op, ev_un, ev_nil, ev_cons, ev_tup, ev_lst, ev_call, ev_own, ev_sl, ev_no, ev_part, ev_and, ev_or, ev_not, ev_if, ev_t, ev_tb, ev_tnot, ev_tand, ev_tor, ev_mt, ev_mt0, ev_rgd, ev_set, ev_asg, ev_ret, ev_retN, ev_ex, ev_pass, ev_brk, ev_cont, ev_ifS, ev_aug, ev_gn, ev_gtp, ev_gnl, ev_gcs, ev_gsb, ev_for, ev_rg1, ev_rg2, ev_its, ev_enum, ev_lc, ev_yes, ev_add_ii, ev_add_ss, ev_add_tt, ev_add_rr, ev_sub, ev_mul, ev_mod, ev_fdiv, ev_pow, ev_neg, ev_lt, ev_le, ev_gt, ev_ge, ev_eq_ii, ev_eq_ss, ev_eq_bb, ev_ne_ii, ev_ne_ss, ev_ne_bb, ev_is_n, ev_isnt_n, ev_int_i, ev_int_b, ev_min_ii, ev_max_ii, ev_abs, ev_tup_of, ev_tup_ofL, ev_lst_ofT, ev_lst_ofL, ev_len_t, ev_len_s, ev_len_r, ev_tru_b, ev_alloc, ev_tupD, ev_lstD, isi_tuple_non, isi_tuple_bl, isi_tuple_int, isi_tuple_str, isi_tuple_tup, isi_tuple_l, isi_tuple_f, isi_list_non, isi_list_bl, isi_list_int, isi_list_str, isi_list_tup, isi_list_l, isi_list_f, isi_bool_non, isi_bool_bl, isi_bool_int, isi_bool_str, isi_bool_tup, isi_bool_l, isi_bool_f, isi_int_non, isi_int_bl, isi_int_int, isi_int_str, isi_int_tup, isi_int_l, isi_int_f, isi_str_non, isi_str_bl, isi_str_int, isi_str_str, isi_str_tup, isi_str_l, isi_str_f, isi_dict_non, isi_dict_bl, isi_dict_int, isi_dict_str, isi_dict_tup, isi_dict_l, isi_dict_f, Ab.isNon, args, List.map, List.length_cons, List.length_nil, List.length_singleton, List.replicate, Nat.reduceSub, Nat.reduceAdd, Nat.zero_add, List.cons_append, List.nil_append, List.getElem?_cons_zero, List.getElem?_cons_succ, List.set_cons_zero, List.set_cons_succ, Option.some.injEq, decide_eq_true_eq, Bool.not_eq_true', decide_eq_false_iff_not, ite_true, ite_false, if_true, if_false, reduceIte, Bool.false_eq_true, Bool.not_true, Bool.not_false, Bool.true_eq_false, decide_true, decide_false, Nat.reduceLeDiff, Nat.reduceLT]; refine sat_seq ?_; simp only [sat_ok, sat_bad, sat_bind, sat_ite, bind_ok, bind_bad, thn_nx, thn_rt, thn_bk, thn_ct, fin_rt, fin_nx, ev_v, ev_c, ev_op, ev_un, ev_nil, ev_cons, ev_tup, ev_lst, ev_call, ev_own, ev_sl, ev_no, ev_part, ev_and, ev_or, ev_not, ev_if, ev_t, ev_tb, ev_tnot, ev_tand, ev_tor, ev_mt, ev_mt0, ev_rgd, ev_set, ev_asg, ev_ret, ev_retN, ev_ex, ev_pass, ev_brk, ev_cont, ev_ifS, ev_aug, ev_gn, ev_gtp, ev_gnl, ev_gcs, ev_gsb, ev_for, ev_rg1, ev_rg2, ev_its, ev_enum, ev_lc, ev_yes, ev_add_ii, ev_add_ss, ev_add_tt, ev_add_rr, ev_sub, ev_mul, ev_mod, ev_fdiv, ev_pow, ev_neg, ev_lt, ev_le, ev_gt, ev_ge, ev_eq_ii, ev_eq_ss, ev_eq_bb, ev_ne_ii, ev_ne_ss, ev_ne_bb, ev_is_n, ev_isnt_n, ev_int_i, ev_int_b, ev_min_ii, ev_max_ii, ev_abs, ev_tup_of, ev_tup_ofL, ev_lst_ofT, ev_lst_ofL, ev_len_t, ev_len_s, ev_len_r, ev_tru_b, ev_alloc, ev_tupD, ev_lstD, isi_tuple_non, isi_tuple_bl, isi_tuple_int, isi_tuple_str, isi_tuple_tup, isi_tuple_l, isi_tuple_f, isi_list_non, isi_list_bl, isi_list_int, isi_list_str, isi_list_tup, isi_list_l, isi_list_f, isi_bool_non, isi_bool_bl, isi_bool_int, isi_bool_str, isi_bool_tup, isi_bool_l, isi_bool_f, isi_int_non, isi_int_bl, isi_int_int, isi_int_str, isi_int_tup, isi_int_l, isi_int_f, isi_str_non, isi_str_bl, isi_str_int, isi_str_str, isi_str_tup, isi_str_l, isi_str_f, isi_dict_non, isi_dict_bl, isi_dict_int, isi_dict_str, isi_dict_tup, isi_dict_l, isi_dict_f, Ab.isNon, args, List.map, List.length_cons, List.length_nil, List.length_singleton, List.replicate, Nat.reduceSub, Nat.reduceAdd, Nat.zero_add, List.cons_append, List.nil_append, List.getElem?_cons_zero, List.getElem?_cons_succ, List.set_cons_zero, List.set_cons_succ, Option.some.injEq, decide_eq_true_eq, Bool.not_eq_true', decide_eq_false_iff_not, ite_true, ite_false, if_true, if_false, reduceIte, Bool.false_eq_true, Bool.not_true, Bool.not_false, Bool.true_eq_false, decide_true, decide_false, Nat.reduceLeDiff, Nat.reduceLT]; refine sat_seq ?_; simp only [sat_ok, sat_bad, sat_bind, sat_ite, bind_ok, bind_bad, thn_nx, thn_rt, thn_bk, thn_ct, fin_rt, fin_nx, ev_v, ev_c, ev_op, ev_un, ev_nil, ev_cons, ev_tup, ev_lst, ev_call, ev_own, ev_sl, ev_no, ev_part, ev_and, ev_or, ev_not, ev_if, ev_t, ev_tb, ev_tnot, ev_tand, ev_tor, ev_mt, ev_mt0, ev_rgd, ev_set, ev_asg, ev_ret, ev_retN, ev_ex, ev_pass, ev_brk, ev_cont, ev_ifS, ev_aug, ev_gn, ev_gtp, ev_gnl, ev_gcs, ev_gsb, ev_for, ev_rg1, ev_rg2, ev_its, ev_enum, ev_lc, ev_yes, ev_add_ii, ev_add_ss, ev_add_tt, ev_add_rr, ev_sub, ev_mul, ev_mod, ev_fdiv, ev_pow, ev_neg, ev_lt, ev_le, ev_gt, ev_ge, ev_eq_ii, ev_eq_ss, ev_eq_bb, ev_ne_ii, ev_ne_ss, ev_ne_bb, ev_is_n, ev_isnt_n, ev_int_i, ev_int_b, ev_min_ii, ev_max_ii, ev_abs, ev_tup_of, ev_tup_ofL, ev_lst_ofT, ev_lst_ofL, ev_len_t, ev_len_s, ev_len_r, ev_tru_b, ev_alloc, ev_tupD, ev_lstD, isi_tuple_non, isi_tuple_bl, isi_tuple_int, isi_tuple_str, isi_tuple_tup, isi_tuple_l, isi_tuple_f, isi_list_non, isi_list_bl, isi_list_int, isi_list_str, isi_list_tup, isi_list_l, isi_list_f, isi_bool_non, isi_bool_bl, isi_bool_int, isi_bool_str, isi_bool_tup, isi_bool_l, isi_bool_f, isi_int_non, isi_int_bl, isi_int_int, isi_int_str, isi_int_tup, isi_int_l, isi_int_f, isi_str_non, isi_str_bl, isi_str_int, isi_str_str, isi_str_tup, isi_str_l, isi_str_f, isi_dict_non, isi_dict_bl, isi_dict_int, isi_dict_str, isi_dict_tup, isi_dict_l, isi_dict_f, Ab.isNon, args, List.map, List.length_cons, List.length_nil, List.length_singleton, List.replicate, Nat.reduceSub, Nat.reduceAdd, Nat.zero_add, List.cons_append, List.nil_append, List.getElem?_cons_zero, List.getElem?_cons_succ, List.set_cons_zero, List.set_cons_succ, Option.some.injEq, decide_eq_true_eq, Bool.not_eq_true', decide_eq_false_iff_not, ite_true, ite_false, if_true, if_false, reduceIte, Bool.false_eq_true, Bool.not_true, Bool.not_false, Bool.true_eq_false, decide_true, decide_false, Nat.reduceLeDiff, Nat.reduceLT]; exact ⟨by simp, trivial⟩
      | int b => simp only [sat_ok, sat_bad, sat_bind, sat_ite, bind_ok, bind_bad, thn_nx, thn_rt, thn_bk, thn_ct, fin_rt, fin_nx, ev_v, ev_c, ev_op, ev_un, ev_nil, ev_cons, ev_tup, ev_lst, ev_call, ev_own, ev_sl, ev_no, ev_part, ev_and, ev_or, ev_not, ev_if, ev_t, ev_tb, ev_tnot, ev_tand, ev_tor, ev_mt, ev_mt0, ev_rgd, ev_set, ev_asg, ev_ret, ev_retN, ev_ex, ev_pass, ev_brk, ev_cont, ev_ifS, ev_aug, ev_gn, ev_gtp, ev_gnl, ev_gcs, ev_gsb, ev_for, ev_rg1, ev_rg2, ev_its, ev_enum, ev_lc, ev_yes, ev_add_ii, ev_add_ss, ev_add_tt, ev_add_rr, ev_sub, ev_mul, ev_mod, ev_fdiv, ev_pow, ev_neg, ev_lt, ev_le, ev_gt, ev_ge, ev_eq_ii, ev_eq_ss, ev_eq_bb, ev_ne_ii, ev_ne_ss, ev_ne_bb, ev_is_n, ev_isnt_n, ev_int_i, ev_int_b, ev_min_ii, ev_max_ii, ev_abs, ev_tup_of, ev_tup_ofL, ev_lst_ofT, ev_lst_ofL, ev_len_t, ev_len_s, ev_len_r, ev_tru_b, ev_alloc, ev_tupD, ev_lstD, isi_tuple_non, isi_tuple_bl, isi_tuple_int, isi_tuple_str, isi_tuple_tup, isi_tuple_l, isi_tuple_f, isi_list_non, isi_list_bl, isi_list_int, isi_list_str, isi_list_tup, isi_list_l, isi_list_f, isi_bool_non, isi_bool_bl, isi_bool_int, isi_bool_str, isi_bool_tup, isi_bool_l, isi_bool_f, isi_int_non, isi_int_bl, isi_int_int, isi_int_str, isi_int_tup, isi_int_l, isi_int_f, isi_str_non, isi_str_bl, isi_str_int, isi_str_str, isi_str_tup, isi_str_l, isi_str_f, isi_dict_non, isi_dict_bl, isi_dict_int, isi_dict_str, isi_dict_tup, isi_dict_l, isi_dict_f, Ab.isNon, args, List.map, List.length_cons, List.length_nil, List.length_singleton, List.replicate, Nat.reduceSub, Nat.reduceAdd, Nat.zero_add, List.cons_append, List.nil_append, List.getElem?_cons_zero, List.getElem?_cons_succ, List.set_cons_zero, List.set_cons_succ, Option.some.injEq, decide_eq_true_eq, Bool.not_eq_true', decide_eq_false_iff_not, ite_true, ite_false, if_true, if_false, reduceIte, Bool.false_eq_true, Bool.not_true, Bool.not_false, Bool.true_eq_false, decide_true, decide_false, Nat.reduceLeDiff, Nat.reduceLT]; refine sat_seq ?_; simp only [sat_ok, sat_bad, sat_bind, sat_ite, bind_ok, bind_bad, thn_nx, thn_rt, thn_bk, thn_ct, fin_rt, fin_nx, ev_v, ev_c, ev_op, ev_un, ev_nil, ev_cons, ev_tup, ev_lst, ev_call, ev_own, ev_sl, ev_no, ev_part, ev_and, ev_or, ev_not, ev_if, ev_t, ev_tb, ev_tnot, ev_tand, ev_tor, ev_mt, ev_mt0, ev_rgd, ev_set, ev_asg, ev_ret, ev_retN, ev_ex, ev_pass, ev_brk, ev_cont, ev_ifS, ev_aug, ev_gn, ev_gtp, ev_gnl, ev_gcs, ev_gsb, ev_for, ev_rg1, ev_rg2, ev_its, ev_enum, ev_lc, ev_yes, ev_add_ii, ev_add_ss, ev_add_tt, ev_add_rr, ev_sub, ev_mul, ev_mod, ev_fdiv, ev_pow, ev_neg, ev_lt, ev_le, ev_gt, ev_ge, ev_eq_ii, ev_eq_ss, ev_eq_bb, ev_ne_ii, ev_ne_ss, ev_ne_bb, ev_is_n, ev_isnt_n, ev_int_i, ev_int_b, ev_min_ii, ev_max_ii, ev_abs, ev_tup_of, ev_tup_ofL, ev_lst_ofT, ev_lst_ofL, ev_len_t, ev_len_s, ev_len_r, ev_tru_b, ev_alloc, ev_tupD, ev_lstD, isi_tuple_non, isi_tuple_bl, isi_tuple_int, isi_tuple_str, isi_tuple_tup, isi_tuple_l, isi_tuple_f, isi_list_non, isi_list_bl, isi_list_int, isi_list_str, isi_list_tup, isi_list_l, isi_list_f, isi_bool_non, isi_bool_bl, isi_bool_int, isi_bool_str, isi_bool_tup, isi_bool_l, isi_bool_f, isi_int_non, isi_int_bl, isi_int_int, isi_int_str, isi_int_tup, isi_int_l, isi_int_f, isi_str_non, isi_str_bl, isi_str_int, isi_str_str, isi_str_tup, isi_str_l, isi_str_f, isi_dict_non, isi_dict_bl, isi_dict_int, isi_dict_str, isi_dict_tup, isi_dict_l, isi_dict_f, Ab.isNon, args, List.map, List.length_cons, List.length_nil, List.length_singleton, List.replicate, Nat.reduceSub, Nat.reduceAdd, Nat.zero_add, List.cons_append, List.nil_append, List.getElem?_cons_zero, List.getElem?_cons_succ, List.set_cons_zero, List.set_cons_succ, Option.some.injEq, decide_eq_true_eq, Bool.not_eq_true', decide_eq_false_iff_not, ite_true, ite_false, if_true, if_false, reduceIte, Bool.false_eq_true, Bool.not_true, Bool.not_false, Bool.true_eq_false, decide_true, decide_false, Nat.reduceLeDiff, Nat.reduceLT]; refine sat_seq ?_; simp only [sat_ok, sat_bad, sat_bind, sat_ite, bind_ok, bind_bad, thn_nx, thn_rt, thn_bk, thn_ct, fin_rt, fin_nx, ev_v, ev_c, ev_op, ev_un, ev_nil, ev_cons, ev_tup, ev_lst, ev_call, ev_own, ev_sl, ev_no, ev_part, ev_and, ev_or, ev_not, ev_if, ev_t, ev_tb, ev_tnot, ev_tand, ev_tor, ev_mt, ev_mt0, ev_rgd, ev_set, ev_asg, ev_ret, ev_retN, ev_ex, ev_pass, ev_brk, ev_cont, ev_ifS, ev_aug, ev_gn, ev_gtp, ev_gnl, ev_gcs, ev_gsb, ev_for, ev_rg1, ev_rg2, ev_its, ev_enum, ev_lc, ev_yes, ev_add_ii, ev_add_ss, ev_add_tt, ev_add_rr, ev_sub, ev_mul, ev_mod, ev_fdiv, ev_pow, ev_neg, ev_lt, ev_le, ev_gt, ev_ge, ev_eq_ii, ev_eq_ss, ev_eq_bb, ev_ne_ii, ev_ne_ss, ev_ne_bb, ev_is_n, ev_isnt_n, ev_int_i, ev_int_b, ev_min_ii, ev_max_ii, ev_abs, ev_tup_of, ev_tup_ofL, ev_lst_ofT, ev_lst_ofL, ev_len_t, ev_len_s, ev_len_r, ev_tru_b, ev_alloc, ev_tupD, ev_lstD, isi_tuple_non, isi_tuple_bl, isi_tuple_int, isi_tuple_str, isi_tuple_tup, isi_tuple_l, isi_tuple_f, isi_list_non, isi_list_bl, isi_list_int, isi_list_str, isi_list_tup, isi_list_l, isi_list_f, isi_bool_non, isi_bool_bl, isi_bool_int, isi_bool_str, isi_bool_tup, isi_bool_l, isi_bool_f, isi_int_non, isi_int_bl, isi_int_int, isi_int_str, isi_int_tup, isi_int_l, isi_int_f, isi_str_non, isi_str_bl, isi_str_int, isi_str_str, isi_str_tup, isi_str_l, isi_str_f, isi_dict_non, isi_dict_bl, isi_dict_int, isi_dict_str, isi_dict_tup, isi_dict_l, isi_dict_f, Ab.isNon, args, List.map, List.length_cons, List.length_nil, List.length_singleton, List.replicate, Nat.reduceSub, Nat.reduceAdd, Nat.zero_add, List.cons_append, List.nil_append, List.getElem?_cons_zero, List.getElem?_cons_succ, List.set_cons_zero, List.set_cons_succ, Option.some.injEq, decide_eq_true_eq, Bool.not_eq_true', decide_eq_false_iff_not, ite_true, ite_false, if_true, if_false, reduceIte, Bool.false_eq_true, Bool.not_true, Bool.not_false, Bool.true_eq_false, decide_true, decide_false, Nat.reduceLeDiff, Nat.reduceLT]; refine sat_seq ?_; simp only [sat_ok, sat_bad, sat_bind, sat_ite, bind_ok, bind_bad, thn_nx, thn_rt, thn_bk, thn_ct, fin_rt, fin_nx, ev_v, ev_c, ev_op, ev_un, ev_nil, ev_cons, ev_tup, ev_lst, ev_call, ev_own, ev_sl, ev_no, ev_part, ev_and, ev_or, ev_not, ev_if, ev_t, ev_tb, ev_tnot, ev_tand, ev_tor, ev_mt, ev_mt0, ev_rgd, ev_set, ev_asg, ev_ret, ev_retN, ev_ex, ev_pass, ev_brk, ev_cont, ev_ifS, ev_aug, ev_gn, ev_gtp, ev_gnl, ev_gcs, ev_gsb, ev_for, ev_rg1, ev_rg2, ev_its, ev_enum, ev_lc, ev_yes, ev_add_ii, ev_add_ss, ev_add_tt, ev_add_rr, ev_sub, ev_mul, ev_mod, ev_fdiv, ev_pow, ev_neg, ev_lt, ev_le, ev_gt, ev_ge, ev_eq_ii, ev_eq_ss, ev_eq_bb, ev_ne_ii, ev_ne_ss, ev_ne_bb, ev_is_n, ev_isnt_n, ev_int_i, ev_int_b, ev_min_ii, ev_max_ii, ev_abs, ev_tup_of, ev_tup_ofL, ev_lst_ofT, ev_lst_ofL, ev_len_t, ev_len_s, ev_len_r, ev_tru_b, ev_alloc, ev_tupD, ev_lstD, isi_tuple_non, isi_tuple_bl, isi_tuple_int, isi_tuple_str, isi_tuple_tup, isi_tuple_l, isi_tuple_f, isi_list_non, isi_list_bl, isi_list_int, isi_list_str, isi_list_tup, isi_list_l, isi_list_f, isi_bool_non, isi_bool_bl, isi_bool_int, isi_bool_str, isi_bool_tup, isi_bool_l, isi_bool_f, isi_int_non, isi_int_bl, isi_int_int, isi_int_str, isi_int_tup, isi_int_l, isi_int_f, isi_str_non, isi_str_bl, isi_str_int, isi_str_str, isi_str_tup, isi_str_l, isi_str_f, isi_dict_non, isi_dict_bl, isi_dict_int, isi_dict_str, isi_dict_tup, isi_dict_l, isi_dict_f, Ab.isNon, args, List.map, List.length_cons, List.length_nil, List.length_singleton, List.replicate, Nat.reduceSub, Nat.reduceAdd, Nat.zero_add, List.cons_append, List.nil_append, List.getElem?_cons_zero, List.getElem?_cons_succ, List.set_cons_zero, List.set_cons_succ, Option.some.injEq, decide_eq_true_eq, Bool.not_eq_true', decide_eq_false_iff_not, ite_true, ite_false, if_true, if_false, reduceIte, Bool.false_eq_true, Bool.not_true, Bool.not_false, Bool.true_eq_false, decide_true, decide_false, Nat.reduceLeDiff, Nat.reduceLT]; exact ⟨by simp, trivial⟩
      | str b => simp only [sat_ok, sat_bad, sat_bind, sat_ite, bind_ok, bind_bad, thn_nx, thn_rt, thn_bk, thn_ct, fin_rt, fin_nx, ev_v, ev_c, ev_op, ev_un, ev_nil, ev_cons, ev_tup, ev_lst, ev_call, ev_own, ev_sl, ev_no, ev_part, ev_and, ev_or, ev_not, ev_if, ev_t, ev_tb, ev_tnot, ev_tand, ev_tor, ev_mt, ev_mt0, ev_rgd, ev_set, ev_asg, ev_ret, ev_retN, ev_ex, ev_pass, ev_brk, ev_cont, ev_ifS, ev_aug, ev_gn, ev_gtp, ev_gnl, ev_gcs, ev_gsb, ev_for, ev_rg1, ev_rg2, ev_its, ev_enum, ev_lc, ev_yes, ev_add_ii, ev_add_ss, ev_add_tt, ev_add_rr, ev_sub, ev_mul, ev_mod, ev_fdiv, ev_pow, ev_neg, ev_lt, ev_le, ev_gt, ev_ge, ev_eq_ii, ev_eq_ss, ev_eq_bb, ev_ne_ii, ev_ne_ss, ev_ne_bb, ev_is_n, ev_isnt_n, ev_int_i, ev_int_b, ev_min_ii, ev_max_ii, ev_abs, ev_tup_of, ev_tup_ofL, ev_lst_ofT, ev_lst_ofL, ev_len_t, ev_len_s, ev_len_r, ev_tru_b, ev_alloc, ev_tupD, ev_lstD, isi_tuple_non, isi_tuple_bl, isi_tuple_int, isi_tuple_str, isi_tuple_tup, isi_tuple_l, isi_tuple_f, isi_list_non, isi_list_bl, isi_list_int, isi_list_str, isi_list_tup, isi_list_l, isi_list_f, isi_bool_non, isi_bool_bl, isi_bool_int, isi_bool_str, isi_bool_tup, isi_bool_l, isi_bool_f, isi_int_non, isi_int_bl, isi_int_int, isi_int_str, isi_int_tup, isi_int_l, isi_int_f, isi_str_non, isi_str_bl, isi_str_int, isi_str_str, isi_str_tup, isi_str_l, isi_str_f, isi_dict_non, isi_dict_bl, isi_dict_int, isi_dict_str, isi_dict_tup, isi_dict_l, isi_dict_f, Ab.isNon, args, List.map, List.length_cons, List.length_nil, List.length_singleton, List.replicate, Nat.reduceSub, Nat.reduceAdd, Nat.zero_add, List.cons_append, List.nil_append, List.getElem?_cons_zero, List.getElem?_cons_succ, List.set_cons_zero, List.set_cons_succ, Option.some.injEq, decide_eq_true_eq, Bool.not_eq_true', decide_eq_false_iff_not, ite_true, ite_false, if_true, if_false, reduceIte, Bool.false_eq_true, Bool.not_true, Bool.not_false, Bool.true_eq_false, decide_true, decide_false, Nat.reduceLeDiff, Nat.reduceLT]; refine sat_seq ?_; simp only [sat_ok, sat_bad, sat_bind, sat_ite, bind_ok, bind_bad, thn_nx, thn_rt, thn_bk, thn_ct, fin_rt, fin_nx, ev_v, ev_c, ev_op, ev_un, ev_nil, ev_cons, ev_tup, ev_lst, ev_call, ev_own, ev_sl, ev_no, ev_part, ev_and, ev_or, ev_not, ev_if, ev_t, ev_tb, ev_tnot, ev_tand, ev_tor, ev_mt, ev_mt0, ev_rgd, ev_set, ev_asg, ev_ret, ev_retN, ev_ex, ev_pass, ev_brk, ev_cont, ev_ifS, ev_aug, ev_gn, ev_gtp, ev_gnl, ev_gcs, ev_gsb, ev_for, ev_rg1, ev_rg2, ev_its, ev_enum, ev_lc, ev_yes, ev_add_ii, ev_add_ss, ev_add_tt, ev_add_rr, ev_sub, ev_mul, ev_mod, ev_fdiv, ev_pow, ev_neg, ev_lt, ev_le, ev_gt, ev_ge, ev_eq_ii, ev_eq_ss, ev_eq_bb, ev_ne_ii, ev_ne_ss, ev_ne_bb, ev_is_n, ev_isnt_n, ev_int_i, ev_int_b, ev_min_ii, ev_max_ii, ev_abs, ev_tup_of, ev_tup_ofL, ev_lst_ofT, ev_lst_ofL, ev_len_t, ev_len_s, ev_len_r, ev_tru_b, ev_alloc, ev_tupD, ev_lstD, isi_tuple_non, isi_tuple_bl, isi_tuple_int, isi_tuple_str, isi_tuple_tup, isi_tuple_l, isi_tuple_f, isi_list_non, isi_list_bl, isi_list_int, isi_list_str, isi_list_tup, isi_list_l, isi_list_f, isi_bool_non, isi_bool_bl, isi_bool_int, isi_bool_str, isi_bool_tup, isi_bool_l, isi_bool_f, isi_int_non, isi_int_bl, isi_int_int, isi_int_str, isi_int_tup, isi_int_l, isi_int_f, isi_str_non, isi_str_bl, isi_str_int, isi_str_str, isi_str_tup, isi_str_l, isi_str_f, isi_dict_non, isi_dict_bl, isi_dict_int, isi_dict_str, isi_dict_tup, isi_dict_l, isi_dict_f, Ab.isNon, args, List.map, List.length_cons, List.length_nil, List.length_singleton, List.replicate, Nat.reduceSub, Nat.reduceAdd, Nat.zero_add, List.cons_append, List.nil_append, List.getElem?_cons_zero, List.getElem?_cons_succ, List.set_cons_zero, List.set_cons_succ, Option.some.injEq, decide_eq_true_eq, Bool.not_eq_true', decide_eq_false_iff_not, ite_true, ite_false, if_true, if_false, reduceIte, Bool.false_eq_true, Bool.not_true, Bool.not_false, Bool.true_eq_false, decide_true, decide_false, Nat.reduceLeDiff, Nat.reduceLT]; refine sat_seq ?_; simp only [sat_ok, sat_bad, sat_bind, sat_ite, bind_ok, bind_bad, thn_nx, thn_rt, thn_bk, thn_ct, fin_rt, fin_nx, ev_v, ev_c, ev_op, ev_un, ev_nil, ev_cons, ev_tup, ev_lst, ev_call, ev_own, ev_sl, ev_no, ev_part, ev_and, ev_or, ev_not, ev_if, ev_t, ev_tb, ev_tnot, ev_tand, ev_tor, ev_mt, ev_mt0, ev_rgd, ev_set, ev_asg, ev_ret, ev_retN, ev_ex, ev_pass, ev_brk, ev_cont, ev_ifS, ev_aug, ev_gn, ev_gtp, ev_gnl, ev_gcs, ev_gsb, ev_for, ev_rg1, ev_rg2, ev_its, ev_enum, ev_lc, ev_yes, ev_add_ii, ev_add_ss, ev_add_tt, ev_add_rr, ev_sub, ev_mul, ev_mod, ev_fdiv, ev_pow, ev_neg, ev_lt, ev_le, ev_gt, ev_ge, ev_eq_ii, ev_eq_ss, ev_eq_bb, ev_ne_ii, ev_ne_ss, ev_ne_bb, ev_is_n, ev_isnt_n, ev_int_i, ev_int_b, ev_min_ii, ev_max_ii, ev_abs, ev_tup_of, ev_tup_ofL, ev_lst_ofT, ev_lst_ofL, ev_len_t, ev_len_s, ev_len_r, ev_tru_b, ev_alloc, ev_tupD, ev_lstD, isi_tuple_non, isi_tuple_bl, isi_tuple_int, isi_tuple_str, isi_tuple_tup, isi_tuple_l, isi_tuple_f, isi_list_non, isi_list_bl, isi_list_int, isi_list_str, isi_list_tup, isi_list_l, isi_list_f, isi_bool_non, isi_bool_bl, isi_bool_int, isi_bool_str, isi_bool_tup, isi_bool_l, isi_bool_f, isi_int_non, isi_int_bl, isi_int_int, isi_int_str, isi_int_tup, isi_int_l, isi_int_f, isi_str_non, isi_str_bl, isi_str_int, isi_str_str, isi_str_tup, isi_str_l, isi_str_f, isi_dict_non, isi_dict_bl, isi_dict_int, isi_dict_str, isi_dict_tup, isi_dict_l, isi_dict_f, Ab.isNon, args, List.map, List.length_cons, List.length_nil, List.length_singleton, List.replicate, Nat.reduceSub, Nat.reduceAdd, Nat.zero_add, List.cons_append, List.nil_append, List.getElem?_cons_zero, List.getElem?_cons_succ, List.set_cons_zero, List.set_cons_succ, Option.some.injEq, decide_eq_true_eq, Bool.not_eq_true', decide_eq_false_iff_not, ite_true, ite_false, if_true, if_false, reduceIte, Bool.false_eq_true, Bool.not_true, Bool.not_false, Bool.true_eq_false, decide_true, decide_false, Nat.reduceLeDiff, Nat.reduceLT]; refine sat_seq ?_; simp only [sat_ok, sat_bad, sat_bind, sat_ite, bind_ok, bind_bad, thn_nx, thn_rt, thn_bk, thn_ct, fin_rt, fin_nx, ev_v, ev_c, ev_op, ev_un, ev_nil, ev_cons, ev_tup, ev_lst, ev_call, ev_own, ev_sl, ev_no, ev_part, ev_and, ev_or, ev_not, ev_if, ev_t, ev_tb, ev_tnot, ev_tand, ev_tor, ev_mt, ev_mt0, ev_rgd, ev_set, ev_asg, ev_ret, ev_retN, ev_ex, ev_pass, ev_brk, ev_cont, ev_ifS, ev_aug, ev_gn, ev_gtp, ev_gnl, ev_gcs, ev_gsb, ev_for, ev_rg1, ev_rg2, ev_its, ev_enum, ev_lc, ev_yes, ev_add_ii, ev_add_ss, ev_add_tt, ev_add_rr, ev_sub, ev_mul, ev_mod, ev_fdiv, ev_pow, ev_neg, ev_lt, ev_le, ev_gt, ev_ge, ev_eq_ii, ev_eq_ss, ev_eq_bb, ev_ne_ii, ev_ne_ss, ev_ne_bb, ev_is_n, ev_isnt_n, ev_int_i, ev_int_b, ev_min_ii, ev_max_ii, ev_abs, ev_tup_of, ev_tup_ofL, ev_lst_ofT, ev_lst_ofL, ev_len_t, ev_len_s, ev_len_r, ev_tru_b, ev_alloc, ev_tupD, ev_lstD, isi_tuple_non, isi_tuple_bl, isi_tuple_int, isi_tuple_str, isi_tuple_tup, isi_tuple_l, isi_tuple_f, isi_list_non, isi_list_bl, isi_list_int, isi_list_str, isi_list_tup, isi_list_l, isi_list_f, isi_bool_non, isi_bool_bl, isi_bool_int, isi_bool_str, isi_bool_tup, isi_bool_l, isi_bool_f, isi_int_non, isi_int_bl, isi_int_int, isi_int_str, isi_int_tup, isi_int_l, isi_int_f, isi_str_non, isi_str_bl, isi_str_int, isi_str_str, isi_str_tup, isi_str_l, isi_str_f, isi_dict_non, isi_dict_bl, isi_dict_int, isi_dict_str, isi_dict_tup, isi_dict_l, isi_dict_f, Ab.isNon, args, List.map, List.length_cons, List.length_nil, List.length_singleton, List.replicate, Nat.reduceSub, Nat.reduceAdd, Nat.zero_add, List.cons_append, List.nil_append, List.getElem?_cons_zero, List.getElem?_cons_succ, List.set_cons_zero, List.set_cons_succ, Option.some.injEq, decide_eq_true_eq, Bool.not_eq_true', decide_eq_false_iff_not, ite_true, ite_false, if_true, if_false, reduceIte, Bool.false_eq_true, Bool.not_true, Bool.not_false, Bool.true_eq_false, decide_true, decide_false, Nat.reduceLeDiff, Nat.reduceLT]; exact ⟨by simp, trivial⟩
      | tup ds => exact h.elim
      | ref _ => exact h.elim
    obtain ⟨e, A', h1, rfl, rfl⟩ := key.eq
    exact h1
  | succ n ih =>
    intro d A h
    have key : Sat (m__law_same (n + 1 + 1) [d, d] A) fun e A' => e = .bl true ∧ A' = A := by
      refine sat_body rfl (sat_seq ?_)
      cases d with
      | non => simp only [sat_ok, sat_bad, sat_bind, sat_ite, bind_ok, bind_bad, thn_nx, thn_rt, thn_bk, thn_ct, fin_rt, fin_nx, ev_v, ev_c, ev_op, ev_un, ev_nil, ev_cons, ev_tup, ev_lst, ev_call, ev_own, ev_sl, ev_no, ev_part, ev_and, ev_or, ev_not, ev_if, ev_t, ev_tb, ev_tnot, ev_tand, ev_tor, ev_mt, ev_mt0, ev_rgd, ev_set, ev_asg, ev_ret, ev_retN, ev_ex, ev_pass, ev_brk, ev_cont, ev_ifS, ev_aug, ev_gn, ev_gtp, ev_gnl, ev_gcs, ev_gsb, ev_for, ev_rg1, ev_rg2, ev_its, ev_enum, ev_lc, ev_yes, ev_add_ii, ev_add_ss, ev_add_tt, ev_add_rr, ev_sub, ev_mul, ev_mod, ev_fdiv, ev_pow, ev_neg, ev_lt, ev_le, ev_gt, ev_ge, ev_eq_ii, ev_eq_ss, ev_eq_bb, ev_ne_ii, ev_ne_ss, ev_ne_bb, ev_is_n, ev_isnt_n, ev_int_i, ev_int_b, ev_min_ii, ev_max_ii, ev_abs, ev_tup_of, ev_tup_ofL, ev_lst_ofT, ev_lst_ofL, ev_len_t, ev_len_s, ev_len_r, ev_tru_b, ev_alloc, ev_tupD, ev_lstD, isi_tuple_non, isi_tuple_bl, isi_tuple_int, isi_tuple_str, isi_tuple_tup, isi_tuple_l, isi_tuple_f, isi_list_non, isi_list_bl, isi_list_int, isi_list_str, isi_list_tup, isi_list_l, isi_list_f, isi_bool_non, isi_bool_bl, isi_bool_int, isi_bool_str, isi_bool_tup, isi_bool_l, isi_bool_f, isi_int_non, isi_int_bl, isi_int_int, isi_int_str, isi_int_tup, isi_int_l, isi_int_f, isi_str_non, isi_str_bl, isi_str_int, isi_str_str, isi_str_tup, isi_str_l, isi_str_f, isi_dict_non, isi_dict_bl, isi_dict_int, isi_dict_str, isi_dict_tup, isi_dict_l, isi_dict_f, Ab.isNon, args, List.map, List.length_cons, List.length_nil, List.length_singleton, List.replicate, Nat.reduceSub, Nat.reduceAdd, Nat.zero_add, List.cons_append, List.nil_append, List.getElem?_cons_zero, List.getElem?_cons_succ, List.set_cons_zero, List.set_cons_succ, Option.some.injEq, decide_eq_true_eq, Bool.not_eq_true', decide_eq_false_iff_not, ite_true, ite_false, if_true, if_false, reduceIte, Bool.false_eq_true, Bool.not_true, Bool.not_false, Bool.true_eq_false, decide_true, decide_false, Nat.reduceLeDiff, Nat.reduceLT]; refine sat_seq ?_; simp only [sat_ok, sat_bad, sat_bind, sat_ite, bind_ok, bind_bad, thn_nx, thn_rt, thn_bk, thn_ct, fin_rt, fin_nx, ev_v, ev_c, ev_op, ev_un, ev_nil, ev_cons, ev_tup, ev_lst, ev_call, ev_own, ev_sl, ev_no, ev_part, ev_and, ev_or, ev_not, ev_if, ev_t, ev_tb, ev_tnot, ev_tand, ev_tor, ev_mt, ev_mt0, ev_rgd, ev_set, ev_asg, ev_ret, ev_retN, ev_ex, ev_pass, ev_brk, ev_cont, ev_ifS, ev_aug, ev_gn, ev_gtp, ev_gnl, ev_gcs, ev_gsb, ev_for, ev_rg1, ev_rg2, ev_its, ev_enum, ev_lc, ev_yes, ev_add_ii, ev_add_ss, ev_add_tt, ev_add_rr, ev_sub, ev_mul, ev_mod, ev_fdiv, ev_pow, ev_neg, ev_lt, ev_le, ev_gt, ev_ge, ev_eq_ii, ev_eq_ss, ev_eq_bb, ev_ne_ii, ev_ne_ss, ev_ne_bb, ev_is_n, ev_isnt_n, ev_int_i, ev_int_b, ev_min_ii, ev_max_ii, ev_abs, ev_tup_of, ev_tup_ofL, ev_lst_ofT, ev_lst_ofL, ev_len_t, ev_len_s, ev_len_r, ev_tru_b, ev_alloc, ev_tupD, ev_lstD, isi_tuple_non, isi_tuple_bl, isi_tuple_int, isi_tuple_str, isi_tuple_tup, isi_tuple_l, isi_tuple_f, isi_list_non, isi_list_bl, isi_list_int, isi_list_str, isi_list_tup, isi_list_l, isi_list_f, isi_bool_non, isi_bool_bl, isi_bool_int, isi_bool_str, isi_bool_tup, isi_bool_l, isi_bool_f, isi_int_non, isi_int_bl, isi_int_int, isi_int_str, isi_int_tup, isi_int_l, isi_int_f, isi_str_non, isi_str_bl, isi_str_int, isi_str_str, isi_str_tup, isi_str_l, isi_str_f, isi_dict_non, isi_dict_bl, isi_dict_int, isi_dict_str, isi_dict_tup, isi_dict_l, isi_dict_f, Ab.isNon, args, List.map, List.length_cons, List.length_nil, List.length_singleton, List.replicate, Nat.reduceSub, Nat.reduceAdd, Nat.zero_add, List.cons_append, List.nil_append, List.getElem?_cons_zero, List.getElem?_cons_succ, List.set_cons_zero, List.set_cons_succ, Option.some.injEq, decide_eq_true_eq, Bool.not_eq_true', decide_eq_false_iff_not, ite_true, ite_false, if_true, if_false, reduceIte, Bool.false_eq_true, Bool.not_true, Bool.not_false, Bool.true_eq_false, decide_true, decide_false, Nat.reduceLeDiff, Nat.reduceLT]; trivial
      | bl b => simp only [sat_ok, sat_bad, sat_bind, sat_ite, bind_ok, bind_bad, thn_nx, thn_rt, thn_bk, thn_ct, fin_rt, fin_nx, ev_v, ev_c, ev_op, ev_un, ev_nil, ev_cons, ev_tup, ev_lst, ev_call, ev_own, ev_sl, ev_no, ev_part, ev_and, ev_or, ev_not, ev_if, ev_t, ev_tb, ev_tnot, ev_tand, ev_tor, ev_mt, ev_mt0, ev_rgd, ev_set, ev_asg, ev_ret, ev_retN, ev_ex, ev_pass, ev_brk, ev_cont, ev_ifS, ev_aug, ev_gn, ev_gtp, ev_gnl, ev_gcs, ev_gsb, ev_for, ev_rg1, ev_rg2, ev_its, ev_enum, ev_lc, ev_yes, ev_add_ii, ev_add_ss, ev_add_tt, ev_add_rr, ev_sub, ev_mul, ev_mod, ev_fdiv, ev_pow, ev_neg, ev_lt, ev_le, ev_gt, ev_ge, ev_eq_ii, ev_eq_ss, ev_eq_bb, ev_ne_ii, ev_ne_ss, ev_ne_bb, ev_is_n, ev_isnt_n, ev_int_i, ev_int_b, ev_min_ii, ev_max_ii, ev_abs, ev_tup_of, ev_tup_ofL, ev_lst_ofT, ev_lst_ofL, ev_len_t, ev_len_s, ev_len_r, ev_tru_b, ev_alloc, ev_tupD, ev_lstD, isi_tuple_non, isi_tuple_bl, isi_tuple_int, isi_tuple_str, isi_tuple_tup, isi_tuple_l, isi_tuple_f, isi_list_non, isi_list_bl, isi_list_int, isi_list_str, isi_list_tup, isi_list_l, isi_list_f, isi_bool_non, isi_bool_bl, isi_bool_int, isi_bool_str, isi_bool_tup, isi_bool_l, isi_bool_f, isi_int_non, isi_int_bl, isi_int_int, isi_int_str, isi_int_tup, isi_int_l, isi_int_f, isi_str_non, isi_str_bl, isi_str_int, isi_str_str, isi_str_tup, isi_str_l, isi_str_f, isi_dict_non, isi_dict_bl, isi_dict_int, isi_dict_str, isi_dict_tup, isi_dict_l, isi_dict_f, Ab.isNon, args, List.map, List.length_cons, List.length_nil, List.length_singleton, List.replicate, Nat.reduceSub, Nat.reduceAdd, Nat.zero_add, List.cons_append, List.nil_append, List.getElem?_cons_zero, List.getElem?_cons_succ, List.set_cons_zero, List.set_cons_succ, Option.some.injEq, decide_eq_true_eq, Bool.not_eq_true', decide_eq_false_iff_not, ite_true, ite_false, if_true, if_false, reduceIte, Bool.false_eq_true, Bool.not_true, Bool.not_false, Bool.true_eq_false, decide_true, decide_false, Nat.reduceLeDiff, Nat.reduceLT]; refine sat_seq ?_; simp only [sat_ok, sat_bad, sat_bind, sat_ite, bind_ok, bind_bad, thn_nx, thn_rt, thn_bk, thn_ct, fin_rt, fin_nx, ev_v, ev_c, ev_op, ev_un, ev_nil, ev_cons, ev_tup, ev_lst, ev_call, ev_own, ev_sl, ev_no, ev_part, ev_and, ev_or, ev_not, ev_if, ev_t, ev_tb, ev_tnot, ev_tand, ev_tor, ev_mt, ev_mt0, ev_rgd, ev_set, ev_asg, ev_ret, ev_retN, ev_ex, ev_pass, ev_brk, ev_cont, ev_ifS, ev_aug, ev_gn, ev_gtp, ev_gnl, ev_gcs, ev_gsb, ev_for, ev_rg1, ev_rg2, ev_its, ev_enum, ev_lc, ev_yes, ev_add_ii, ev_add_ss, ev_add_tt, ev_add_rr, ev_sub, ev_mul, ev_mod, ev_fdiv, ev_pow, ev_neg, ev_lt, ev_le, ev_gt, ev_ge, ev_eq_ii, ev_eq_ss, ev_eq_bb, ev_ne_ii, ev_ne_ss, ev_ne_bb, ev_is_n, ev_isnt_n, ev_int_i, ev_int_b, ev_min_ii, ev_max_ii, ev_abs, ev_tup_of, ev_tup_ofL, ev_lst_ofT, ev_lst_ofL, ev_len_t, ev_len_s, ev_len_r, ev_tru_b, ev_alloc, ev_tupD, ev_lstD, isi_tuple_non, isi_tuple_bl, isi_tuple_int, isi_tuple_str, isi_tuple_tup, isi_tuple_l, isi_tuple_f, isi_list_non, isi_list_bl, isi_list_int, isi_list_str, isi_list_tup, isi_list_l, isi_list_f, isi_bool_non, isi_bool_bl, isi_bool_int, isi_bool_str, isi_bool_tup, isi_bool_l, isi_bool_f, isi_int_non, isi_int_bl, isi_int_int, isi_int_str, isi_int_tup, isi_int_l, isi_int_f, isi_str_non, isi_str_bl, isi_str_int, isi_str_str, isi_str_tup, isi_str_l, isi_str_f, isi_dict_non, isi_dict_bl, isi_dict_int, isi_dict_str, isi_dict_tup, isi_dict_l, isi_dict_f, Ab.isNon, args, List.map, List.length_cons, List.length_nil, List.length_singleton, List.replicate, Nat.reduceSub, Nat.reduceAdd, Nat.zero_add, List.cons_append, List.nil_append, List.getElem?_cons_zero, List.getElem?_cons_succ, List.set_cons_zero, List.set_cons_succ, Option.some.injEq, decide_eq_true_eq, Bool.not_eq_true', decide_eq_false_iff_not, ite_true, ite_false, if_true, if_false, reduceIte, Bool.false_eq_true, Bool.not_true, Bool.not_false, Bool.true_eq_false, decide_true, decide_false, Nat.reduceLeDiff, Nat.reduceLT]; refine sat_seq ?_; simp only [sat_ok, sat_bad, sat_bind, sat_ite, bind_ok, bind_bad, thn_nx, thn_rt, thn_bk, thn_ct, fin_rt, fin_nx, ev_v, ev_c, ev_op, ev_un, ev_nil, ev_cons, ev_tup, ev_lst, ev_call, ev_own, ev_sl, ev_no, ev_part, ev_and, ev_or, ev_not, ev_if, ev_t, ev_tb, ev_tnot, ev_tand, ev_tor, ev_mt, ev_mt0, ev_rgd, ev_set, ev_asg, ev_ret, ev_retN, ev_ex, ev_pass, ev_brk, ev_cont, ev_ifS, ev_aug, ev_gn, ev_gtp, ev_gnl, ev_gcs, ev_gsb, ev_for, ev_rg1, ev_rg2, ev_its, ev_enum, ev_lc, ev_yes, ev_add_ii, ev_add_ss, ev_add_tt, ev_add_rr, ev_sub, ev_mul, ev_mod, ev_fdiv, ev_pow, ev_neg, ev_lt, ev_le, ev_gt, ev_ge, ev_eq_ii, ev_eq_ss, ev_eq_bb, ev_ne_ii, ev_ne_ss, ev_ne_bb, ev_is_n, ev_isnt_n, ev_int_i, ev_int_b, ev_min_ii, ev_max_ii, ev_abs, ev_tup_of, ev_tup_ofL, ev_lst_ofT, ev_lst_ofL, ev_len_t, ev_len_s, ev_len_r, ev_tru_b, ev_alloc, ev_tupD, ev_lstD, isi_tuple_non, isi_tuple_bl, isi_tuple_int, isi_tuple_str, isi_tuple_tup, isi_tuple_l, isi_tuple_f, isi_list_non, isi_list_bl, isi_list_int, isi_list_str, isi_list_tup, isi_list_l, isi_list_f, isi_bool_non, isi_bool_bl, isi_bool_int, isi_bool_str, isi_bool_tup, isi_bool_l, isi_bool_f, isi_int_non, isi_int_bl, isi_int_int, isi_int_str, isi_int_tup, isi_int_l, isi_int_f, isi_str_non, isi_str_bl, isi_str_int, isi_str_str, isi_str_tup, isi_str_l, isi_str_f, isi_dict_non, isi_dict_bl, isi_dict_int, isi_dict_str, isi_dict_tup, isi_dict_l, isi_dict_f, Ab.isNon, args, List.map, List.length_cons, List.length_nil, List.length_singleton, List.replicate, Nat.reduceSub, Nat.reduceAdd, Nat.zero_add, List.cons_append, List.nil_append, List.getElem?_cons_zero, List.getElem?_cons_succ, List.set_cons_zero, List.set_cons_succ, Option.some.injEq, decide_eq_true_eq, Bool.not_eq_true', decide_eq_false_iff_not, ite_true, ite_false, if_true, if_false, reduceIte, Bool.false_eq_true, Bool.not_true, Bool.not_false, Bool.true_eq_false, decide_true, decide_false, Nat.reduceLeDiff, Nat.reduceLT]; exact ⟨by simp, trivial⟩
      | int b => simp only [sat_ok, sat_bad, sat_bind, sat_ite, bind_ok, bind_bad, thn_nx, thn_rt, thn_bk, thn_ct, fin_rt, fin_nx, ev_v, ev_c, ev_op, ev_un, ev_nil, ev_cons, ev_tup, ev_lst, ev_call, ev_own, ev_sl, ev_no, ev_part, ev_and, ev_or, ev_not, ev_if, ev_t, ev_tb, ev_tnot, ev_tand, ev_tor, ev_mt, ev_mt0, ev_rgd, ev_set, ev_asg, ev_ret, ev_retN, ev_ex, ev_pass, ev_brk, ev_cont, ev_ifS, ev_aug, ev_gn, ev_gtp, ev_gnl, ev_gcs, ev_gsb, ev_for, ev_rg1, ev_rg2, ev_its, ev_enum, ev_lc, ev_yes, ev_add_ii, ev_add_ss, ev_add_tt, ev_add_rr, ev_sub, ev_mul, ev_mod, ev_fdiv, ev_pow, ev_neg, ev_lt, ev_le, ev_gt, ev_ge, ev_eq_ii, ev_eq_ss, ev_eq_bb, ev_ne_ii, ev_ne_ss, ev_ne_bb, ev_is_n, ev_isnt_n, ev_int_i, ev_int_b, ev_min_ii, ev_max_ii, ev_abs, ev_tup_of, ev_tup_ofL, ev_lst_ofT, ev_lst_ofL, ev_len_t, ev_len_s, ev_len_r, ev_tru_b, ev_alloc, ev_tupD, ev_lstD, isi_tuple_non, isi_tuple_bl, isi_tuple_int, isi_tuple_str, isi_tuple_tup, isi_tuple_l, isi_tuple_f, isi_list_non, isi_list_bl, isi_list_int, isi_list_str, isi_list_tup, isi_list_l, isi_list_f, isi_bool_non, isi_bool_bl, isi_bool_int, isi_bool_str, isi_bool_tup, isi_bool_l, isi_bool_f, isi_int_non, isi_int_bl, isi_int_int, isi_int_str, isi_int_tup, isi_int_l, isi_int_f, isi_str_non, isi_str_bl, isi_str_int, isi_str_str, isi_str_tup, isi_str_l, isi_str_f, isi_dict_non, isi_dict_bl, isi_dict_int, isi_dict_str, isi_dict_tup, isi_dict_l, isi_dict_f, Ab.isNon, args, List.map, List.length_cons, List.length_nil, List.length_singleton, List.replicate, Nat.reduceSub, Nat.reduceAdd, Nat.zero_add, List.cons_append, List.nil_append, List.getElem?_cons_zero, List.getElem?_cons_succ, List.set_cons_zero, List.set_cons_succ, Option.some.injEq, decide_eq_true_eq, Bool.not_eq_true', decide_eq_false_iff_not, ite_true, ite_false, if_true, if_false, reduceIte, Bool.false_eq_true, Bool.not_true, Bool.not_false, Bool.true_eq_false, decide_true, decide_false, Nat.reduceLeDiff, Nat.reduceLT]; refine sat_seq ?_; simp only [sat_ok, sat_bad, sat_bind, sat_ite, bind_ok, bind_bad, thn_nx, thn_rt, thn_bk, thn_ct, fin_rt, fin_nx, ev_v, ev_c, ev_op, ev_un, ev_nil, ev_cons, ev_tup, ev_lst, ev_call, ev_own, ev_sl, ev_no, ev_part, ev_and, ev_or, ev_not, ev_if, ev_t, ev_tb, ev_tnot, ev_tand, ev_tor, ev_mt, ev_mt0, ev_rgd, ev_set, ev_asg, ev_ret, ev_retN, ev_ex, ev_pass, ev_brk, ev_cont, ev_ifS, ev_aug, ev_gn, ev_gtp, ev_gnl, ev_gcs, ev_gsb, ev_for, ev_rg1, ev_rg2, ev_its, ev_enum, ev_lc, ev_yes, ev_add_ii, ev_add_ss, ev_add_tt, ev_add_rr, ev_sub, ev_mul, ev_mod, ev_fdiv, ev_pow, ev_neg, ev_lt, ev_le, ev_gt, ev_ge, ev_eq_ii, ev_eq_ss, ev_eq_bb, ev_ne_ii, ev_ne_ss, ev_ne_bb, ev_is_n, ev_isnt_n, ev_int_i, ev_int_b, ev_min_ii, ev_max_ii, ev_abs, ev_tup_of, ev_tup_ofL, ev_lst_ofT, ev_lst_ofL, ev_len_t, ev_len_s, ev_len_r, ev_tru_b, ev_alloc, ev_tupD, ev_lstD, isi_tuple_non, isi_tuple_bl, isi_tuple_int, isi_tuple_str, isi_tuple_tup, isi_tuple_l, isi_tuple_f, isi_list_non, isi_list_bl, isi_list_int, isi_list_str, isi_list_tup, isi_list_l, isi_list_f, isi_bool_non, isi_bool_bl, isi_bool_int, isi_bool_str, isi_bool_tup, isi_bool_l, isi_bool_f, isi_int_non, isi_int_bl, isi_int_int, isi_int_str, isi_int_tup, isi_int_l, isi_int_f, isi_str_non, isi_str_bl, isi_str_int, isi_str_str, isi_str_tup, isi_str_l, isi_str_f, isi_dict_non, isi_dict_bl, isi_dict_int, isi_dict_str, isi_dict_tup, isi_dict_l, isi_dict_f, Ab.isNon, args, List.map, List.length_cons, List.length_nil, List.length_singleton, List.replicate, Nat.reduceSub, Nat.reduceAdd, Nat.zero_add, List.cons_append, List.nil_append, List.getElem?_cons_zero, List.getElem?_cons_succ, List.set_cons_zero, List.set_cons_succ, Option.some.injEq, decide_eq_true_eq, Bool.not_eq_true', decide_eq_false_iff_not, ite_true, ite_false, if_true, if_false, reduceIte, Bool.false_eq_true, Bool.not_true, Bool.not_false, Bool.true_eq_false, decide_true, decide_false, Nat.reduceLeDiff, Nat.reduceLT]; refine sat_seq ?_; simp only [sat_ok, sat_bad, sat_bind, sat_ite, bind_ok, bind_bad, thn_nx, thn_rt, thn_bk, thn_ct, fin_rt, fin_nx, ev_v, ev_c, ev_op, ev_un, ev_nil, ev_cons, ev_tup, ev_lst, ev_call, ev_own, ev_sl, ev_no, ev_part, ev_and, ev_or, ev_not, ev_if, ev_t, ev_tb, ev_tnot, ev_tand, ev_tor, ev_mt, ev_mt0, ev_rgd, ev_set, ev_asg, ev_ret, ev_retN, ev_ex, ev_pass, ev_brk, ev_cont, ev_ifS, ev_aug, ev_gn, ev_gtp, ev_gnl, ev_gcs, ev_gsb, ev_for, ev_rg1, ev_rg2, ev_its, ev_enum, ev_lc, ev_yes, ev_add_ii, ev_add_ss, ev_add_tt, ev_add_rr, ev_sub, ev_mul, ev_mod, ev_fdiv, ev_pow, ev_neg, ev_lt, ev_le, ev_gt, ev_ge, ev_eq_ii, ev_eq_ss, ev_eq_bb, ev_ne_ii, ev_ne_ss, ev_ne_bb, ev_is_n, ev_isnt_n, ev_int_i, ev_int_b, ev_min_ii, ev_max_ii, ev_abs, ev_tup_of, ev_tup_ofL, ev_lst_ofT, ev_lst_ofL, ev_len_t, ev_len_s, ev_len_r, ev_tru_b, ev_alloc, ev_tupD, ev_lstD, isi_tuple_non, isi_tuple_bl, isi_tuple_int, isi_tuple_str, isi_tuple_tup, isi_tuple_l, isi_tuple_f, isi_list_non, isi_list_bl, isi_list_int, isi_list_str, isi_list_tup, isi_list_l, isi_list_f, isi_bool_non, isi_bool_bl, isi_bool_int, isi_bool_str, isi_bool_tup, isi_bool_l, isi_bool_f, isi_int_non, isi_int_bl, isi_int_int, isi_int_str, isi_int_tup, isi_int_l, isi_int_f, isi_str_non, isi_str_bl, isi_str_int, isi_str_str, isi_str_tup, isi_str_l, isi_str_f, isi_dict_non, isi_dict_bl, isi_dict_int, isi_dict_str, isi_dict_tup, isi_dict_l, isi_dict_f, Ab.isNon, args, List.map, List.length_cons, List.length_nil, List.length_singleton, List.replicate, Nat.reduceSub, Nat.reduceAdd, Nat.zero_add, List.cons_append, List.nil_append, List.getElem?_cons_zero, List.getElem?_cons_succ, List.set_cons_zero, List.set_cons_succ, Option.some.injEq, decide_eq_true_eq, Bool.not_eq_true', decide_eq_false_iff_not, ite_true, ite_false, if_true, if_false, reduceIte, Bool.false_eq_true, Bool.not_true, Bool.not_false, Bool.true_eq_false, decide_true, decide_false, Nat.reduceLeDiff, Nat.reduceLT]; refine sat_seq ?_; simp only [sat_ok, sat_bad, sat_bind, sat_ite, bind_ok, bind_bad, thn_nx, thn_rt, thn_bk, thn_ct, fin_rt, fin_nx, ev_v, ev_c, ev_op, ev_un, ev_nil, ev_cons, ev_tup, ev_lst, ev_call, ev_own, ev_sl, ev_no, ev_part, ev_and, ev_or, ev_not, ev_if, ev_t, ev_tb, ev_tnot, ev_tand, ev_tor, ev_mt, ev_mt0, ev_rgd, ev_set, ev_asg, ev_ret, ev_retN, ev_ex, ev_pass, ev_brk, ev_cont, ev_ifS, ev_aug, ev_gn, ev_gtp, ev_gnl, ev_gcs, ev_gsb, ev_for, ev_rg1, ev_rg2, ev_its, ev_enum, ev_lc, ev_yes, ev_add_ii, ev_add_ss, ev_add_tt, ev_add_rr, ev_sub, ev_mul, ev_mod, ev_fdiv, ev_pow, ev_neg, ev_lt, ev_le, ev_gt, ev_ge, ev_eq_ii, ev_eq_ss, ev_eq_bb, ev_ne_ii, ev_ne_ss, ev_ne_bb, ev_is_n, ev_isnt_n, ev_int_i, ev_int_b, ev_min_ii, ev_max_ii, ev_abs, ev_tup_of, ev_tup_ofL, ev_lst_ofT, ev_lst_ofL, ev_len_t, ev_len_s, ev_len_r, ev_tru_b, ev_alloc, ev_tupD, ev_lstD, isi_tuple_non, isi_tuple_bl, isi_tuple_int, isi_tuple_str, isi_tuple_tup, isi_tuple_l, isi_tuple_f, isi_list_non, isi_list_bl, isi_list_int, isi_list_str, isi_list_tup, isi_list_l, isi_list_f, isi_bool_non, isi_bool_bl, isi_bool_int, isi_bool_str, isi_bool_tup, isi_bool_l, isi_bool_f, isi_int_non, isi_int_bl, isi_int_int, isi_int_str, isi_int_tup, isi_int_l, isi_int_f, isi_str_non, isi_str_bl, isi_str_int, isi_str_str, isi_str_tup, isi_str_l, isi_str_f, isi_dict_non, isi_dict_bl, isi_dict_int, isi_dict_str, isi_dict_tup, isi_dict_l, isi_dict_f, Ab.isNon, args, List.map, List.length_cons, List.length_nil, List.length_singleton, List.replicate, Nat.reduceSub, Nat.reduceAdd, Nat.zero_add, List.cons_append, List.nil_append, List.getElem?_cons_zero, List.getElem?_cons_succ, List.set_cons_zero, List.set_cons_succ, Option.some.injEq, decide_eq_true_eq, Bool.not_eq_true', decide_eq_false_iff_not, ite_true, ite_false, if_true, if_false, reduceIte, Bool.false_eq_true, Bool.not_true, Bool.not_false, Bool.true_eq_false, decide_true, decide_false, Nat.reduceLeDiff, Nat.reduceLT]; exact ⟨by simp, trivial⟩
      | str b => simp only [sat_ok, sat_bad, sat_bind, sat_ite, bind_ok, bind_bad, thn_nx, thn_rt, thn_bk, thn_ct, fin_rt, fin_nx, ev_v, ev_c, ev_op, ev_un, ev_nil, ev_cons, ev_tup, ev_lst, ev_call, ev_own, ev_sl, ev_no, ev_part, ev_and, ev_or, ev_not, ev_if, ev_t, ev_tb, ev_tnot, ev_tand, ev_tor, ev_mt, ev_mt0, ev_rgd, ev_set, ev_asg, ev_ret, ev_retN, ev_ex, ev_pass, ev_brk, ev_cont, ev_ifS, ev_aug, ev_gn, ev_gtp, ev_gnl, ev_gcs, ev_gsb, ev_for, ev_rg1, ev_rg2, ev_its, ev_enum, ev_lc, ev_yes, ev_add_ii, ev_add_ss, ev_add_tt, ev_add_rr, ev_sub, ev_mul, ev_mod, ev_fdiv, ev_pow, ev_neg, ev_lt, ev_le, ev_gt, ev_ge, ev_eq_ii, ev_eq_ss, ev_eq_bb, ev_ne_ii, ev_ne_ss, ev_ne_bb, ev_is_n, ev_isnt_n, ev_int_i, ev_int_b, ev_min_ii, ev_max_ii, ev_abs, ev_tup_of, ev_tup_ofL, ev_lst_ofT, ev_lst_ofL, ev_len_t, ev_len_s, ev_len_r, ev_tru_b, ev_alloc, ev_tupD, ev_lstD, isi_tuple_non, isi_tuple_bl, isi_tuple_int, isi_tuple_str, isi_tuple_tup, isi_tuple_l, isi_tuple_f, isi_list_non, isi_list_bl, isi_list_int, isi_list_str, isi_list_tup, isi_list_l, isi_list_f, isi_bool_non, isi_bool_bl, isi_bool_int, isi_bool_str, isi_bool_tup, isi_bool_l, isi_bool_f, isi_int_non, isi_int_bl, isi_int_int, isi_int_str, isi_int_tup, isi_int_l, isi_int_f, isi_str_non, isi_str_bl, isi_str_int, isi_str_str, isi_str_tup, isi_str_l, isi_str_f, isi_dict_non, isi_dict_bl, isi_dict_int, isi_dict_str, isi_dict_tup, isi_dict_l, isi_dict_f, Ab.isNon, args, List.map, List.length_cons, List.length_nil, List.length_singleton, List.replicate, Nat.reduceSub, Nat.reduceAdd, Nat.zero_add, List.cons_append, List.nil_append, List.getElem?_cons_zero, List.getElem?_cons_succ, List.set_cons_zero, List.set_cons_succ, Option.some.injEq, decide_eq_true_eq, Bool.not_eq_true', decide_eq_false_iff_not, ite_true, ite_false, if_true, if_false, reduceIte, Bool.false_eq_true, Bool.not_true, Bool.not_false, Bool.true_eq_false, decide_true, decide_false, Nat.reduceLeDiff, Nat.reduceLT]; refine sat_seq ?_; simp only [sat_ok, sat_bad, sat_bind, sat_ite, bind_ok, bind_bad, thn_nx, thn_rt, thn_bk, thn_ct, fin_rt, fin_nx, ev_v, ev_c, ev_op, ev_un, ev_nil, ev_cons, ev_tup, ev_lst, ev_call, ev_own, ev_sl, ev_no, ev_part, ev_and, ev_or, ev_not, ev_if, ev_t, ev_tb, ev_tnot, ev_tand, ev_tor, ev_mt, ev_mt0, ev_rgd, ev_set, ev_asg, ev_ret, ev_retN, ev_ex, ev_pass, ev_brk, ev_cont, ev_ifS, ev_aug, ev_gn, ev_gtp, ev_gnl, ev_gcs, ev_gsb, ev_for, ev_rg1, ev_rg2, ev_its, ev_enum, ev_lc, ev_yes, ev_add_ii, ev_add_ss, ev_add_tt, ev_add_rr, ev_sub, ev_mul, ev_mod, ev_fdiv, ev_pow, ev_neg, ev_lt, ev_le, ev_gt, ev_ge, ev_eq_ii, ev_eq_ss, ev_eq_bb, ev_ne_ii, ev_ne_ss, ev_ne_bb, ev_is_n, ev_isnt_n, ev_int_i, ev_int_b, ev_min_ii, ev_max_ii, ev_abs, ev_tup_of, ev_tup_ofL, ev_lst_ofT, ev_lst_ofL, ev_len_t, ev_len_s, ev_len_r, ev_tru_b, ev_alloc, ev_tupD, ev_lstD, isi_tuple_non, isi_tuple_bl, isi_tuple_int, isi_tuple_str, isi_tuple_tup, isi_tuple_l, isi_tuple_f, isi_list_non, isi_list_bl, isi_list_int, isi_list_str, isi_list_tup, isi_list_l, isi_list_f, isi_bool_non, isi_bool_bl, isi_bool_int, isi_bool_str, isi_bool_tup, isi_bool_l, isi_bool_f, isi_int_non, isi_int_bl, isi_int_int, isi_int_str, isi_int_tup, isi_int_l, isi_int_f, isi_str_non, isi_str_bl, isi_str_int, isi_str_str, isi_str_tup, isi_str_l, isi_str_f, isi_dict_non, isi_dict_bl, isi_dict_int, isi_dict_str, isi_dict_tup, isi_dict_l, isi_dict_f, Ab.isNon, args, List.map, List.length_cons, List.length_nil, List.length_singleton, List.replicate, Nat.reduceSub, Nat.reduceAdd, Nat.zero_add, List.cons_append, List.nil_append, List.getElem?_cons_zero, List.getElem?_cons_succ, List.set_cons_zero, List.set_cons_succ, Option.some.injEq, decide_eq_true_eq, Bool.not_eq_true', decide_eq_false_iff_not, ite_true, ite_false, if_true, if_false, reduceIte, Bool.false_eq_true, Bool.not_true, Bool.not_false, Bool.true_eq_false, decide_true, decide_false, Nat.reduceLeDiff, Nat.reduceLT]; refine sat_seq ?_; simp only [sat_ok, sat_bad, sat_bind, sat_ite, bind_ok, bind_bad, thn_nx, thn_rt, thn_bk, thn_ct, fin_rt, fin_nx, ev_v, ev_c, ev_op, ev_un, ev_nil, ev_cons, ev_tup, ev_lst, ev_call, ev_own, ev_sl, ev_no, ev_part, ev_and, ev_or, ev_not, ev_if, ev_t, ev_tb, ev_tnot, ev_tand, ev_tor, ev_mt, ev_mt0, ev_rgd, ev_set, ev_asg, ev_ret, ev_retN, ev_ex, ev_pass, ev_brk, ev_cont, ev_ifS, ev_aug, ev_gn, ev_gtp, ev_gnl, ev_gcs, ev_gsb, ev_for, ev_rg1, ev_rg2, ev_its, ev_enum, ev_lc, ev_yes, ev_add_ii, ev_add_ss, ev_add_tt, ev_add_rr, ev_sub, ev_mul, ev_mod, ev_fdiv, ev_pow, ev_neg, ev_lt, ev_le, ev_gt, ev_ge, ev_eq_ii, ev_eq_ss, ev_eq_bb, ev_ne_ii, ev_ne_ss, ev_ne_bb, ev_is_n, ev_isnt_n, ev_int_i, ev_int_b, ev_min_ii, ev_max_ii, ev_abs, ev_tup_of, ev_tup_ofL, ev_lst_ofT, ev_lst_ofL, ev_len_t, ev_len_s, ev_len_r, ev_tru_b, ev_alloc, ev_tupD, ev_lstD, isi_tuple_non, isi_tuple_bl, isi_tuple_int, isi_tuple_str, isi_tuple_tup, isi_tuple_l, isi_tuple_f, isi_list_non, isi_list_bl, isi_list_int, isi_list_str, isi_list_tup, isi_list_l, isi_list_f, isi_bool_non, isi_bool_bl, isi_bool_int, isi_bool_str, isi_bool_tup, isi_bool_l, isi_bool_f, isi_int_non, isi_int_bl, isi_int_int, isi_int_str, isi_int_tup, isi_int_l, isi_int_f, isi_str_non, isi_str_bl, isi_str_int, isi_str_str, isi_str_tup, isi_str_l, isi_str_f, isi_dict_non, isi_dict_bl, isi_dict_int, isi_dict_str, isi_dict_tup, isi_dict_l, isi_dict_f, Ab.isNon, args, List.map, List.length_cons, List.length_nil, List.length_singleton, List.replicate, Nat.reduceSub, Nat.reduceAdd, Nat.zero_add, List.cons_append, List.nil_append, List.getElem?_cons_zero, List.getElem?_cons_succ, List.set_cons_zero, List.set_cons_succ, Option.some.injEq, decide_eq_true_eq, Bool.not_eq_true', decide_eq_false_iff_not, ite_true, ite_false, if_true, if_false, reduceIte, Bool.false_eq_true, Bool.not_true, Bool.not_false, Bool.true_eq_false, decide_true, decide_false, Nat.reduceLeDiff, Nat.reduceLT]; refine sat_seq ?_; simp only [sat_ok, sat_bad, sat_bind, sat_ite, bind_ok, bind_bad, thn_nx, thn_rt, thn_bk, thn_ct, fin_rt, fin_nx, ev_v, ev_c, ev_op, ev_un, ev_nil, ev_cons, ev_tup, ev_lst, ev_call, ev_own, ev_sl, ev_no, ev_part, ev_and, ev_or, ev_not, ev_if, ev_t, ev_tb, ev_tnot, ev_tand, ev_tor, ev_mt, ev_mt0, ev_rgd, ev_set, ev_asg, ev_ret, ev_retN, ev_ex, ev_pass, ev_brk, ev_cont, ev_ifS, ev_aug, ev_gn, ev_gtp, ev_gnl, ev_gcs, ev_gsb, ev_for, ev_rg1, ev_rg2, ev_its, ev_enum, ev_lc, ev_yes, ev_add_ii, ev_add_ss, ev_add_tt, ev_add_rr, ev_sub, ev_mul, ev_mod, ev_fdiv, ev_pow, ev_neg, ev_lt, ev_le, ev_gt, ev_ge, ev_eq_ii, ev_eq_ss, ev_eq_bb, ev_ne_ii, ev_ne_ss, ev_ne_bb, ev_is_n, ev_isnt_n, ev_int_i, ev_int_b, ev_min_ii, ev_max_ii, ev_abs, ev_tup_of, ev_tup_ofL, ev_lst_ofT, ev_lst_ofL, ev_len_t, ev_len_s, ev_len_r, ev_tru_b, ev_alloc, ev_tupD, ev_lstD, isi_tuple_non, isi_tuple_bl, isi_tuple_int, isi_tuple_str, isi_tuple_tup, isi_tuple_l, isi_tuple_f, isi_list_non, isi_list_bl, isi_list_int, isi_list_str, isi_list_tup, isi_list_l, isi_list_f, isi_bool_non, isi_bool_bl, isi_bool_int, isi_bool_str, isi_bool_tup, isi_bool_l, isi_bool_f, isi_int_non, isi_int_bl, isi_int_int, isi_int_str, isi_int_tup, isi_int_l, isi_int_f, isi_str_non, isi_str_bl, isi_str_int, isi_str_str, isi_str_tup, isi_str_l, isi_str_f, isi_dict_non, isi_dict_bl, isi_dict_int, isi_dict_str, isi_dict_tup, isi_dict_l, isi_dict_f, Ab.isNon, args, List.map, List.length_cons, List.length_nil, List.length_singleton, List.replicate, Nat.reduceSub, Nat.reduceAdd, Nat.zero_add, List.cons_append, List.nil_append, List.getElem?_cons_zero, List.getElem?_cons_succ, List.set_cons_zero, List.set_cons_succ, Option.some.injEq, decide_eq_true_eq, Bool.not_eq_true', decide_eq_false_iff_not, ite_true, ite_false, if_true, if_false, reduceIte, Bool.false_eq_true, Bool.not_true, Bool.not_false, Bool.true_eq_false, decide_true, decide_false, Nat.reduceLeDiff, Nat.reduceLT]; exact ⟨by simp, trivial⟩
      | ref _ => exact h.elim
      | tup ds =>
        obtain ⟨hl, hd⟩ := h
        simp only [sat_ok, sat_bad, sat_bind, sat_ite, bind_ok, bind_bad, thn_nx, thn_rt, thn_bk, thn_ct, fin_rt, fin_nx, ev_v, ev_c, ev_op, ev_un, ev_nil, ev_cons, ev_tup, ev_lst, ev_call, ev_own, ev_sl, ev_no, ev_part, ev_and, ev_or, ev_not, ev_if, ev_t, ev_tb, ev_tnot, ev_tand, ev_tor, ev_mt, ev_mt0, ev_rgd, ev_set, ev_asg, ev_ret, ev_retN, ev_ex, ev_pass, ev_brk, ev_cont, ev_ifS, ev_aug, ev_gn, ev_gtp, ev_gnl, ev_gcs, ev_gsb, ev_for, ev_rg1, ev_rg2, ev_its, ev_enum, ev_lc, ev_yes, ev_add_ii, ev_add_ss, ev_add_tt, ev_add_rr, ev_sub, ev_mul, ev_mod, ev_fdiv, ev_pow, ev_neg, ev_lt, ev_le, ev_gt, ev_ge, ev_eq_ii, ev_eq_ss, ev_eq_bb, ev_ne_ii, ev_ne_ss, ev_ne_bb, ev_is_n, ev_isnt_n, ev_int_i, ev_int_b, ev_min_ii, ev_max_ii, ev_abs, ev_tup_of, ev_tup_ofL, ev_lst_ofT, ev_lst_ofL, ev_len_t, ev_len_s, ev_len_r, ev_tru_b, ev_alloc, ev_tupD, ev_lstD, isi_tuple_non, isi_tuple_bl, isi_tuple_int, isi_tuple_str, isi_tuple_tup, isi_tuple_l, isi_tuple_f, isi_list_non, isi_list_bl, isi_list_int, isi_list_str, isi_list_tup, isi_list_l, isi_list_f, isi_bool_non, isi_bool_bl, isi_bool_int, isi_bool_str, isi_bool_tup, isi_bool_l, isi_bool_f, isi_int_non, isi_int_bl, isi_int_int, isi_int_str, isi_int_tup, isi_int_l, isi_int_f, isi_str_non, isi_str_bl, isi_str_int, isi_str_str, isi_str_tup, isi_str_l, isi_str_f, isi_dict_non, isi_dict_bl, isi_dict_int, isi_dict_str, isi_dict_tup, isi_dict_l, isi_dict_f, Ab.isNon, args, List.map, List.length_cons, List.length_nil, List.length_singleton, List.replicate, Nat.reduceSub, Nat.reduceAdd, Nat.zero_add, List.cons_append, List.nil_append, List.getElem?_cons_zero, List.getElem?_cons_succ, List.set_cons_zero, List.set_cons_succ, Option.some.injEq, decide_eq_true_eq, Bool.not_eq_true', decide_eq_false_iff_not, ite_true, ite_false, if_true, if_false, reduceIte, Bool.false_eq_true, Bool.not_true, Bool.not_false, Bool.true_eq_false, decide_true, decide_false, Nat.reduceLeDiff, Nat.reduceLT]
        refine sat_seq (sat_seq ?_)
        simp only [sat_ok, sat_bad, sat_bind, sat_ite, bind_ok, bind_bad, thn_nx, thn_rt, thn_bk, thn_ct, fin_rt, fin_nx, ev_v, ev_c, ev_op, ev_un, ev_nil, ev_cons, ev_tup, ev_lst, ev_call, ev_own, ev_sl, ev_no, ev_part, ev_and, ev_or, ev_not, ev_if, ev_t, ev_tb, ev_tnot, ev_tand, ev_tor, ev_mt, ev_mt0, ev_rgd, ev_set, ev_asg, ev_ret, ev_retN, ev_ex, ev_pass, ev_brk, ev_cont, ev_ifS, ev_aug, ev_gn, ev_gtp, ev_gnl, ev_gcs, ev_gsb, ev_for, ev_rg1, ev_rg2, ev_its, ev_enum, ev_lc, ev_yes, ev_add_ii, ev_add_ss, ev_add_tt, ev_add_rr, ev_sub, ev_mul, ev_mod, ev_fdiv, ev_pow, ev_neg, ev_lt, ev_le, ev_gt, ev_ge, ev_eq_ii, ev_eq_ss, ev_eq_bb, ev_ne_ii, ev_ne_ss, ev_ne_bb, ev_is_n, ev_isnt_n, ev_int_i, ev_int_b, ev_min_ii, ev_max_ii, ev_abs, ev_tup_of, ev_tup_ofL, ev_lst_ofT, ev_lst_ofL, ev_len_t, ev_len_s, ev_len_r, ev_tru_b, ev_alloc, ev_tupD, ev_lstD, isi_tuple_non, isi_tuple_bl, isi_tuple_int, isi_tuple_str, isi_tuple_tup, isi_tuple_l, isi_tuple_f, isi_list_non, isi_list_bl, isi_list_int, isi_list_str, isi_list_tup, isi_list_l, isi_list_f, isi_bool_non, isi_bool_bl, isi_bool_int, isi_bool_str, isi_bool_tup, isi_bool_l, isi_bool_f, isi_int_non, isi_int_bl, isi_int_int, isi_int_str, isi_int_tup, isi_int_l, isi_int_f, isi_str_non, isi_str_bl, isi_str_int, isi_str_str, isi_str_tup, isi_str_l, isi_str_f, isi_dict_non, isi_dict_bl, isi_dict_int, isi_dict_str, isi_dict_tup, isi_dict_l, isi_dict_f, Ab.isNon, args, List.map, List.length_cons, List.length_nil, List.length_singleton, List.replicate, Nat.reduceSub, Nat.reduceAdd, Nat.zero_add, List.cons_append, List.nil_append, List.getElem?_cons_zero, List.getElem?_cons_succ, List.set_cons_zero, List.set_cons_succ, Option.some.injEq, decide_eq_true_eq, Bool.not_eq_true', decide_eq_false_iff_not, ite_true, ite_false, if_true, if_false, reduceIte, Bool.false_eq_true, Bool.not_true, Bool.not_false, Bool.true_eq_false, decide_true, decide_false, Nat.reduceLeDiff, Nat.reduceLT]
        refine sat_seq ?_
        simp only [sat_ok, sat_bad, sat_bind, sat_ite, bind_ok, bind_bad, thn_nx, thn_rt, thn_bk, thn_ct, fin_rt, fin_nx, ev_v, ev_c, ev_op, ev_un, ev_nil, ev_cons, ev_tup, ev_lst, ev_call, ev_own, ev_sl, ev_no, ev_part, ev_and, ev_or, ev_not, ev_if, ev_t, ev_tb, ev_tnot, ev_tand, ev_tor, ev_mt, ev_mt0, ev_rgd, ev_set, ev_asg, ev_ret, ev_retN, ev_ex, ev_pass, ev_brk, ev_cont, ev_ifS, ev_aug, ev_gn, ev_gtp, ev_gnl, ev_gcs, ev_gsb, ev_for, ev_rg1, ev_rg2, ev_its, ev_enum, ev_lc, ev_yes, ev_add_ii, ev_add_ss, ev_add_tt, ev_add_rr, ev_sub, ev_mul, ev_mod, ev_fdiv, ev_pow, ev_neg, ev_lt, ev_le, ev_gt, ev_ge, ev_eq_ii, ev_eq_ss, ev_eq_bb, ev_ne_ii, ev_ne_ss, ev_ne_bb, ev_is_n, ev_isnt_n, ev_int_i, ev_int_b, ev_min_ii, ev_max_ii, ev_abs, ev_tup_of, ev_tup_ofL, ev_lst_ofT, ev_lst_ofL, ev_len_t, ev_len_s, ev_len_r, ev_tru_b, ev_alloc, ev_tupD, ev_lstD, isi_tuple_non, isi_tuple_bl, isi_tuple_int, isi_tuple_str, isi_tuple_tup, isi_tuple_l, isi_tuple_f, isi_list_non, isi_list_bl, isi_list_int, isi_list_str, isi_list_tup, isi_list_l, isi_list_f, isi_bool_non, isi_bool_bl, isi_bool_int, isi_bool_str, isi_bool_tup, isi_bool_l, isi_bool_f, isi_int_non, isi_int_bl, isi_int_int, isi_int_str, isi_int_tup, isi_int_l, isi_int_f, isi_str_non, isi_str_bl, isi_str_int, isi_str_str, isi_str_tup, isi_str_l, isi_str_f, isi_dict_non, isi_dict_bl, isi_dict_int, isi_dict_str, isi_dict_tup, isi_dict_l, isi_dict_f, Ab.isNon, args, List.map, List.length_cons, List.length_nil, List.length_singleton, List.replicate, Nat.reduceSub, Nat.reduceAdd, Nat.zero_add, List.cons_append, List.nil_append, List.getElem?_cons_zero, List.getElem?_cons_succ, List.set_cons_zero, List.set_cons_succ, Option.some.injEq, decide_eq_true_eq, Bool.not_eq_true', decide_eq_false_iff_not, ite_true, ite_false, if_true, if_false, reduceIte, Bool.false_eq_true, Bool.not_true, Bool.not_false, Bool.true_eq_false, decide_true, decide_false, Nat.reduceLeDiff, Nat.reduceLT]
        have hz : InRg (ds.length : Int) := inRg_nat (by omega)
        rw [if_pos hz, Int.toNat_natCast]
        refine range_inv (fun k s A' => A' = A ∧ ∃ y, s = [some (.tup ds), some (.tup ds), y]) (fun k s A' hk ⟨hA, y, hs⟩ => ?_) (fun s A' ⟨hA, y, hs⟩ => ?_) ⟨rfl, none, rfl⟩
        · subst hA; subst hs
          have g : ds[k]? = some ds[k] := List.getElem?_eq_getElem hk
          have ix : ixD (.tup ds) (.int (0 + (k : Nat))) A' = .ok ds[k] A' := ev_ix_t (by rw [atI_pos (by omega)]; rw [show (0 + (k : Nat) : Int).toNat = k by omega]; exact g)
          have rc : m__law_same (n + 1) [ds[k], ds[k]] A' = .ok (.bl true) A' := ih ds[k] A' (hd _ (List.getElem_mem hk))
          simp only [sat_ok, sat_bad, sat_bind, sat_ite, bind_ok, bind_bad, thn_nx, thn_rt, thn_bk, thn_ct, fin_rt, fin_nx, ev_v, ev_c, ev_op, ev_un, ev_nil, ev_cons, ev_tup, ev_lst, ev_call, ev_own, ev_sl, ev_no, ev_part, ev_and, ev_or, ev_not, ev_if, ev_t, ev_tb, ev_tnot, ev_tand, ev_tor, ev_mt, ev_mt0, ev_rgd, ev_set, ev_asg, ev_ret, ev_retN, ev_ex, ev_pass, ev_brk, ev_cont, ev_ifS, ev_aug, ev_gn, ev_gtp, ev_gnl, ev_gcs, ev_gsb, ev_for, ev_rg1, ev_rg2, ev_its, ev_enum, ev_lc, ev_yes, ev_add_ii, ev_add_ss, ev_add_tt, ev_add_rr, ev_sub, ev_mul, ev_mod, ev_fdiv, ev_pow, ev_neg, ev_lt, ev_le, ev_gt, ev_ge, ev_eq_ii, ev_eq_ss, ev_eq_bb, ev_ne_ii, ev_ne_ss, ev_ne_bb, ev_is_n, ev_isnt_n, ev_int_i, ev_int_b, ev_min_ii, ev_max_ii, ev_abs, ev_tup_of, ev_tup_ofL, ev_lst_ofT, ev_lst_ofL, ev_len_t, ev_len_s, ev_len_r, ev_tru_b, ev_alloc, ev_tupD, ev_lstD, isi_tuple_non, isi_tuple_bl, isi_tuple_int, isi_tuple_str, isi_tuple_tup, isi_tuple_l, isi_tuple_f, isi_list_non, isi_list_bl, isi_list_int, isi_list_str, isi_list_tup, isi_list_l, isi_list_f, isi_bool_non, isi_bool_bl, isi_bool_int, isi_bool_str, isi_bool_tup, isi_bool_l, isi_bool_f, isi_int_non, isi_int_bl, isi_int_int, isi_int_str, isi_int_tup, isi_int_l, isi_int_f, isi_str_non, isi_str_bl, isi_str_int, isi_str_str, isi_str_tup, isi_str_l, isi_str_f, isi_dict_non, isi_dict_bl, isi_dict_int, isi_dict_str, isi_dict_tup, isi_dict_l, isi_dict_f, Ab.isNon, args, List.map, List.length_cons, List.length_nil, List.length_singleton, List.replicate, Nat.reduceSub, Nat.reduceAdd, Nat.zero_add, List.cons_append, List.nil_append, List.getElem?_cons_zero, List.getElem?_cons_succ, List.set_cons_zero, List.set_cons_succ, Option.some.injEq, decide_eq_true_eq, Bool.not_eq_true', decide_eq_false_iff_not, ite_true, ite_false, if_true, if_false, reduceIte, Bool.false_eq_true, Bool.not_true, Bool.not_false, Bool.true_eq_false, decide_true, decide_false, Nat.reduceLeDiff, Nat.reduceLT, ix, rc, turn_]
          exact ⟨trivial, _, rfl⟩
        · subst hA; subst hs
          simp only [sat_ok, sat_bad, sat_bind, sat_ite, bind_ok, bind_bad, thn_nx, thn_rt, thn_bk, thn_ct, fin_rt, fin_nx, ev_v, ev_c, ev_op, ev_un, ev_nil, ev_cons, ev_tup, ev_lst, ev_call, ev_own, ev_sl, ev_no, ev_part, ev_and, ev_or, ev_not, ev_if, ev_t, ev_tb, ev_tnot, ev_tand, ev_tor, ev_mt, ev_mt0, ev_rgd, ev_set, ev_asg, ev_ret, ev_retN, ev_ex, ev_pass, ev_brk, ev_cont, ev_ifS, ev_aug, ev_gn, ev_gtp, ev_gnl, ev_gcs, ev_gsb, ev_for, ev_rg1, ev_rg2, ev_its, ev_enum, ev_lc, ev_yes, ev_add_ii, ev_add_ss, ev_add_tt, ev_add_rr, ev_sub, ev_mul, ev_mod, ev_fdiv, ev_pow, ev_neg, ev_lt, ev_le, ev_gt, ev_ge, ev_eq_ii, ev_eq_ss, ev_eq_bb, ev_ne_ii, ev_ne_ss, ev_ne_bb, ev_is_n, ev_isnt_n, ev_int_i, ev_int_b, ev_min_ii, ev_max_ii, ev_abs, ev_tup_of, ev_tup_ofL, ev_lst_ofT, ev_lst_ofL, ev_len_t, ev_len_s, ev_len_r, ev_tru_b, ev_alloc, ev_tupD, ev_lstD, isi_tuple_non, isi_tuple_bl, isi_tuple_int, isi_tuple_str, isi_tuple_tup, isi_tuple_l, isi_tuple_f, isi_list_non, isi_list_bl, isi_list_int, isi_list_str, isi_list_tup, isi_list_l, isi_list_f, isi_bool_non, isi_bool_bl, isi_bool_int, isi_bool_str, isi_bool_tup, isi_bool_l, isi_bool_f, isi_int_non, isi_int_bl, isi_int_int, isi_int_str, isi_int_tup, isi_int_l, isi_int_f, isi_str_non, isi_str_bl, isi_str_int, isi_str_str, isi_str_tup, isi_str_l, isi_str_f, isi_dict_non, isi_dict_bl, isi_dict_int, isi_dict_str, isi_dict_tup, isi_dict_l, isi_dict_f, Ab.isNon, args, List.map, List.length_cons, List.length_nil, List.length_singleton, List.replicate, Nat.reduceSub, Nat.reduceAdd, Nat.zero_add, List.cons_append, List.nil_append, List.getElem?_cons_zero, List.getElem?_cons_succ, List.set_cons_zero, List.set_cons_succ, Option.some.injEq, decide_eq_true_eq, Bool.not_eq_true', decide_eq_false_iff_not, ite_true, ite_false, if_true, if_false, reduceIte, Bool.false_eq_true, Bool.not_true, Bool.not_false, Bool.true_eq_false, decide_true, decide_false, Nat.reduceLeDiff, Nat.reduceLT, thn_]
          first | trivial | exact ⟨trivial, trivial⟩
    obtain ⟨e, A', h1, rfl, rfl⟩ := key.eq
    exact h1

/-! ### the helpers that draw -/
theorem cell_spec {A : AH} {ns : List Int} {k : Nat} (h : A[0]? = some (.frz (ns.map D.int))) (hl : ns.length ≤ 63) : ∃ v, m__law_cell [.ref 0, .int (k : Int)] A = .ok (.int v) A := by
  have key : Sat (m__law_cell [.ref 0, .int (k : Int)] A) fun d A' => (∃ v, d = .int v) ∧ A' = A := by
    refine sat_body rfl (sat_seq ?_)
    have ln : lenD [.ref 0] A = .ok (.int ((ns.map D.int).length : Nat)) A := ev_len_r (rdL_f h)
    simp only [sat_ok, sat_bad, sat_bind, sat_ite, bind_ok, bind_bad, thn_nx, thn_rt, thn_bk, thn_ct, fin_rt, fin_nx, ev_v, ev_c, ev_op, ev_un, ev_nil, ev_cons, ev_tup, ev_lst, ev_call, ev_own, ev_sl, ev_no, ev_part, ev_and, ev_or, ev_not, ev_if, ev_t, ev_tb, ev_tnot, ev_tand, ev_tor, ev_mt, ev_mt0, ev_rgd, ev_set, ev_asg, ev_ret, ev_retN, ev_ex, ev_pass, ev_brk, ev_cont, ev_ifS, ev_aug, ev_gn, ev_gtp, ev_gnl, ev_gcs, ev_gsb, ev_for, ev_rg1, ev_rg2, ev_its, ev_enum, ev_lc, ev_yes, ev_add_ii, ev_add_ss, ev_add_tt, ev_add_rr, ev_sub, ev_mul, ev_mod, ev_fdiv, ev_pow, ev_neg, ev_lt, ev_le, ev_gt, ev_ge, ev_eq_ii, ev_eq_ss, ev_eq_bb, ev_ne_ii, ev_ne_ss, ev_ne_bb, ev_is_n, ev_isnt_n, ev_int_i, ev_int_b, ev_min_ii, ev_max_ii, ev_abs, ev_tup_of, ev_tup_ofL, ev_lst_ofT, ev_lst_ofL, ev_len_t, ev_len_s, ev_len_r, ev_tru_b, ev_alloc, ev_tupD, ev_lstD, isi_tuple_non, isi_tuple_bl, isi_tuple_int, isi_tuple_str, isi_tuple_tup, isi_tuple_l, isi_tuple_f, isi_list_non, isi_list_bl, isi_list_int, isi_list_str, isi_list_tup, isi_list_l, isi_list_f, isi_bool_non, isi_bool_bl, isi_bool_int, isi_bool_str, isi_bool_tup, isi_bool_l, isi_bool_f, isi_int_non, isi_int_bl, isi_int_int, isi_int_str, isi_int_tup, isi_int_l, isi_int_f, isi_str_non, isi_str_bl, isi_str_int, isi_str_str, isi_str_tup, isi_str_l, isi_str_f, isi_dict_non, isi_dict_bl, isi_dict_int, isi_dict_str, isi_dict_tup, isi_dict_l, isi_dict_f, Ab.isNon, args, List.map, List.length_cons, List.length_nil, List.length_singleton, List.replicate, Nat.reduceSub, Nat.reduceAdd, Nat.zero_add, List.cons_append, List.nil_append, List.getElem?_cons_zero, List.getElem?_cons_succ, List.set_cons_zero, List.set_cons_succ, Option.some.injEq, decide_eq_true_eq, Bool.not_eq_true', decide_eq_false_iff_not, ite_true, ite_false, if_true, if_false, reduceIte, Bool.false_eq_true, Bool.not_true, Bool.not_false, Bool.true_eq_false, decide_true, decide_false, Nat.reduceLeDiff, Nat.reduceLT, ln]
    split
    · rename_i hk
      rw [List.length_map] at hk
      have hk' : k < ns.length := by omega
      have ix : ixD (.ref 0) (.int (k : Int)) A = .ok (.int ns[k]) A := ev_ix_r (rdL_f h) (by rw [atI_pos (by omega), Int.toNat_natCast, List.getElem?_map, List.getElem?_eq_getElem hk']; rfl)
      rw [ix]
      exact ⟨⟨_, rfl⟩, rfl⟩
    · exact ⟨⟨_, rfl⟩, trivial⟩
  obtain ⟨d, A', e, ⟨v, rfl⟩, rfl⟩ := key.eq
  exact ⟨v, e⟩
theorem source_spec {A : AH} {c : Int} : m__law_source [.int c] A = .ok (.ref A.length) (A ++ [.lst [.int c, .int c, .int 0]]) := by
  have key : Sat (m__law_source [.int c] A) fun d A' => d = .ref A.length ∧ A' = A ++ [.lst [.int c, .int c, .int 0]] := by
    refine sat_body rfl ?_
    unfold p__law_source
    simp only [sat_ok, sat_bad, sat_bind, sat_ite, bind_ok, bind_bad, thn_nx, thn_rt, thn_bk, thn_ct, fin_rt, fin_nx, ev_v, ev_c, ev_op, ev_un, ev_nil, ev_cons, ev_tup, ev_lst, ev_call, ev_own, ev_sl, ev_no, ev_part, ev_and, ev_or, ev_not, ev_if, ev_t, ev_tb, ev_tnot, ev_tand, ev_tor, ev_mt, ev_mt0, ev_rgd, ev_set, ev_asg, ev_ret, ev_retN, ev_ex, ev_pass, ev_brk, ev_cont, ev_ifS, ev_aug, ev_gn, ev_gtp, ev_gnl, ev_gcs, ev_gsb, ev_for, ev_rg1, ev_rg2, ev_its, ev_enum, ev_lc, ev_yes, ev_add_ii, ev_add_ss, ev_add_tt, ev_add_rr, ev_sub, ev_mul, ev_mod, ev_fdiv, ev_pow, ev_neg, ev_lt, ev_le, ev_gt, ev_ge, ev_eq_ii, ev_eq_ss, ev_eq_bb, ev_ne_ii, ev_ne_ss, ev_ne_bb, ev_is_n, ev_isnt_n, ev_int_i, ev_int_b, ev_min_ii, ev_max_ii, ev_abs, ev_tup_of, ev_tup_ofL, ev_lst_ofT, ev_lst_ofL, ev_len_t, ev_len_s, ev_len_r, ev_tru_b, ev_alloc, ev_tupD, ev_lstD, isi_tuple_non, isi_tuple_bl, isi_tuple_int, isi_tuple_str, isi_tuple_tup, isi_tuple_l, isi_tuple_f, isi_list_non, isi_list_bl, isi_list_int, isi_list_str, isi_list_tup, isi_list_l, isi_list_f, isi_bool_non, isi_bool_bl, isi_bool_int, isi_bool_str, isi_bool_tup, isi_bool_l, isi_bool_f, isi_int_non, isi_int_bl, isi_int_int, isi_int_str, isi_int_tup, isi_int_l, isi_int_f, isi_str_non, isi_str_bl, isi_str_int, isi_str_str, isi_str_tup, isi_str_l, isi_str_f, isi_dict_non, isi_dict_bl, isi_dict_int, isi_dict_str, isi_dict_tup, isi_dict_l, isi_dict_f, Ab.isNon, args, List.map, List.length_cons, List.length_nil, List.length_singleton, List.replicate, Nat.reduceSub, Nat.reduceAdd, Nat.zero_add, List.cons_append, List.nil_append, List.getElem?_cons_zero, List.getElem?_cons_succ, List.set_cons_zero, List.set_cons_succ, Option.some.injEq, decide_eq_true_eq, Bool.not_eq_true', decide_eq_false_iff_not, ite_true, ite_false, if_true, if_false, reduceIte, Bool.false_eq_true, Bool.not_true, Bool.not_false, Bool.true_eq_false, decide_true, decide_false, Nat.reduceLeDiff, Nat.reduceLT]
    trivial
  obtain ⟨d, A', e, rfl, rfl⟩ := key.eq
  exact e
theorem pick_pos {A : AH} {s : Nat} {n : Int} (hs : Sr s A) (h0 : 0 < n) (hn : n < 2 ^ 100) : DrwS s A (m__law_pick [.ref s, .int n] A) fun d => ∃ v, d = .int v ∧ 0 ≤ v ∧ v < n :=
  (pick_spec hs hn).imp fun d ⟨v, e, h1, h2⟩ => ⟨v, e, h1, by omega⟩
end Law

namespace Law
open PySem PySem.Spec PyProof.Rows L2 Ab
open scoped Classical
/-! ## points, tables of distances -/
def ptD (p : List Int) : D := .tup (p.map D.int)
def at0 (p : List Int) (i : Nat) : Int := ((0 : Int) :: p).getD i 0
def mx (ps : List (List Int)) (i j : Nat) : Int := maxI (ps.map fun p => at0 p i - at0 p j)
def rowD (n : Nat) (f : Nat → Int) : D := .tup ((List.range n).map fun j => .int (f j))
def matD (n : Nat) (f : Nat → Nat → Int) : D := .tup ((List.range n).map fun i => rowD n (f i))
noncomputable def hullD (ps : List (List Int)) (n : Nat) : D := if ps = [] then .non else matD (n + 1) (mx ps)
/-- points of n numbers, at most 20 (k at most) -/
structure Pts (n : Nat) (ps : List (List Int)) : Prop where
  n20 : n ≤ 20
  few : ps.length ≤ 100000
  len : ∀ p ∈ ps, p.length = n
theorem pl_row {n : Nat} {f : Nat → Int} (h : n ≤ 1000) : Pl 18 (rowD n f) := by
  refine ⟨by simp; omega, fun e he => ?_⟩
  obtain ⟨k, -, rfl⟩ := List.mem_map.mp he
  trivial
theorem pl_mat {n : Nat} {f : Nat → Nat → Int} (h : n ≤ 1000) : Pl 19 (matD n f) := by
  refine ⟨by simp; omega, fun e he => ?_⟩
  obtain ⟨k, -, rfl⟩ := List.mem_map.mp he
  exact pl_row h
theorem pl_hull {n : Nat} {ps : List (List Int)} (h : n ≤ 20) : Pl 19 (hullD ps n) := by
  unfold hullD
  split
  · trivial
  · exact pl_mat (by omega)
theorem same_hull {n : Nat} {ps : List (List Int)} {A : AH} (h : n ≤ 20) : m__law_same 20 [hullD ps n, hullD ps n] A = .ok (.bl true) A := same_refl 19 _ _ (pl_hull h)
/-! ### the list of points, asked against the empty one -/
theorem lay_ints : ∀ ns : List Int, PyData.canLayAll0 (ns.map PyData.int) = true ∧ PyData.depthAll (ns.map PyData.int) = 0
  | [] => ⟨rfl, rfl⟩
  | _ :: r => by
    obtain ⟨h1, h2⟩ := lay_ints r
    simp [PyData.canLayAll0, PyData.canLay0, PyData.depthAll, PyData.depth, h1, h2]
theorem pd_pts : ∀ ps : List (List Int), ∃ qs, pdL (ps.map ptD) = some qs ∧ PyData.canLayAll0 qs = true ∧ PyData.depthAll qs ≤ 1 ∧ PyData.eqvAll qs [] = decide (ps = [])
  | [] => ⟨[], rfl, rfl, by decide, rfl⟩
  | p :: ps => by
    obtain ⟨qs, h1, h2, h3, h4⟩ := pd_pts ps
    have e : ∀ p : List Int, pdL (p.map D.int) = some (p.map PyData.int) := by
      intro p
      induction p with
      | nil => rfl
      | cons x p ih => simp only [List.map_cons, pdL, pd, ih]
    refine ⟨.tuple (p.map .int) :: qs, ?_, ?_, ?_, ?_⟩
    · simp only [List.map_cons, pdL, pd, ptD, e, h1]
    · simp [PyData.canLayAll0, PyData.canLay0, (lay_ints p).1, h2]
    · simp [PyData.depthAll, PyData.depth, (lay_ints p).2]; omega
    · rfl
theorem eq_pts {A : AH} {r q : Nat} {ps : List (List Int)} (h : A[r]? = some (.lst (ps.map ptD))) (hq : A[q]? = some (.lst [])) : eqD (.ref r) (.ref q) A = .ok (.bl (decide (ps = []))) A := by
  obtain ⟨qs, h1, h2, h3, h4⟩ := pd_pts ps
  have e1 : pd1 A (.ref r) = some (.list qs) := by simp only [pd1, rdL_l h, h1]
  have e2 : pd1 A (.ref q) = some (.list []) := by simp only [pd1, rdL_l hq, pdL]
  have s1 : SeqAt.shaped (.list qs) = true := by simp [SeqAt.shaped, PyData.canLay0, PyData.depth, h2]; omega
  have s2 : SeqAt.shaped (.list []) = true := by simp [SeqAt.shaped, PyData.canLay0, PyData.depth, PyData.canLayAll0, PyData.depthAll]
  show okB (match pd1 A (.ref r), pd1 A (.ref q) with
    | some p, some q => if (SeqAt.shaped p && SeqAt.shaped q) = true then some (PyData.eqv p q) else none
    | _, _ => none) A = _
  rw [e1, e2]
  simp only [s1, s2, Bool.and_self, if_true]
  show Res.ok (D.bl (PyData.eqvAll qs [])) A = _
  rw [h4]
/-! ### reading -/
theorem ix_row {n i : Nat} {f : Nat → Int} {A : AH} (h : i < n) : ixD (rowD n f) (.int (i : Nat)) A = .ok (.int (f i)) A := ev_ix_t (by rw [atI_pos (by omega), Int.toNat_natCast, List.getElem?_map, List.getElem?_range h]; rfl)
theorem ix_mat {n i : Nat} {f : Nat → Nat → Int} {A : AH} (h : i < n) : ixD (matD n f) (.int (i : Nat)) A = .ok (rowD n (f i)) A := ev_ix_t (by rw [atI_pos (by omega), Int.toNat_natCast, List.getElem?_map, List.getElem?_range h]; rfl)
theorem ix_full {p : List Int} {i : Nat} {A : AH} (h : i ≤ p.length) : ixD (.tup (.int 0 :: p.map D.int)) (.int (i : Nat)) A = .ok (.int (at0 p i)) A := ev_ix_t (by
  rw [atI_pos (by omega), Int.toNat_natCast, show D.int 0 :: p.map D.int = ((0 : Int) :: p).map D.int from rfl, List.getElem?_map]
  have : i < ((0 : Int) :: p).length := by simp; omega
  rw [List.getElem?_eq_getElem this]
  show some (D.int _) = some (D.int _)
  congr 2
  unfold at0
  rw [List.getD_eq_getElem?_getD, List.getElem?_eq_getElem this]; rfl)
theorem at0_z {p : List Int} : at0 p 0 = 0 := rfl
theorem at0_s {p : List Int} {k : Nat} : at0 p (k + 1) = p.getD k 0 := rfl
theorem ix_pt {p : List Int} {i : Nat} {A : AH} (h : i < p.length) : ixD (ptD p) (.int (i : Nat)) A = .ok (.int (at0 p (i + 1))) A := ev_ix_t (by
  rw [atI_pos (by omega), Int.toNat_natCast, List.getElem?_map, List.getElem?_eq_getElem h, at0_s, List.getD_eq_getElem?_getD, List.getElem?_eq_getElem h]; rfl)
end Law

namespace Law
open PySem PySem.Spec PyProof.Rows L2 Ab
open scoped Classical
/-! ### close -/
theorem frozen_spec {A : AH} {r n : Nat} {f : Nat → Nat → Int} (x : Nat → Nat) (h : A[r]? = some (.lst ((List.range n).map fun i => .ref (x i)))) (hx : ∀ i, i < n → A[x i]? = some (.lst ((List.range n).map fun j => .int (f i j)))) (hn : n ≤ 1000) :
    Sat (m_frozen [.ref r] A) fun d A' => d = matD n f ∧ Gr A A' := by
  refine sat_body rfl ?_
  unfold p_frozen
  simp only [sat_ok, sat_bad, sat_bind, sat_ite, bind_ok, bind_bad, thn_nx, thn_rt, thn_bk, thn_ct, fin_rt, fin_nx, ev_v, ev_c, ev_op, ev_un, ev_nil, ev_cons, ev_tup, ev_lst, ev_call, ev_own, ev_sl, ev_no, ev_part, ev_and, ev_or, ev_not, ev_if, ev_t, ev_tb, ev_tnot, ev_tand, ev_tor, ev_mt, ev_mt0, ev_rgd, ev_set, ev_asg, ev_ret, ev_retN, ev_ex, ev_pass, ev_brk, ev_cont, ev_ifS, ev_aug, ev_gn, ev_gtp, ev_gnl, ev_gcs, ev_gsb, ev_for, ev_rg1, ev_rg2, ev_its, ev_enum, ev_lc, ev_yes, ev_add_ii, ev_add_ss, ev_add_tt, ev_add_rr, ev_sub, ev_mul, ev_mod, ev_fdiv, ev_pow, ev_neg, ev_lt, ev_le, ev_gt, ev_ge, ev_eq_ii, ev_eq_ss, ev_eq_bb, ev_ne_ii, ev_ne_ss, ev_ne_bb, ev_is_n, ev_isnt_n, ev_int_i, ev_int_b, ev_min_ii, ev_max_ii, ev_abs, ev_tup_of, ev_tup_ofL, ev_lst_ofT, ev_lst_ofL, ev_len_t, ev_len_s, ev_len_r, ev_tru_b, ev_alloc, ev_tupD, ev_lstD, isi_tuple_non, isi_tuple_bl, isi_tuple_int, isi_tuple_str, isi_tuple_tup, isi_tuple_l, isi_tuple_f, isi_list_non, isi_list_bl, isi_list_int, isi_list_str, isi_list_tup, isi_list_l, isi_list_f, isi_bool_non, isi_bool_bl, isi_bool_int, isi_bool_str, isi_bool_tup, isi_bool_l, isi_bool_f, isi_int_non, isi_int_bl, isi_int_int, isi_int_str, isi_int_tup, isi_int_l, isi_int_f, isi_str_non, isi_str_bl, isi_str_int, isi_str_str, isi_str_tup, isi_str_l, isi_str_f, isi_dict_non, isi_dict_bl, isi_dict_int, isi_dict_str, isi_dict_tup, isi_dict_l, isi_dict_f, Ab.isNon, args, List.map, List.length_cons, List.length_nil, List.length_singleton, List.replicate, Nat.reduceSub, Nat.reduceAdd, Nat.zero_add, List.cons_append, List.nil_append, List.getElem?_cons_zero, List.getElem?_cons_succ, List.set_cons_zero, List.set_cons_succ, Option.some.injEq, decide_eq_true_eq, Bool.not_eq_true', decide_eq_false_iff_not, ite_true, ite_false, if_true, if_false, reduceIte, Bool.false_eq_true, Bool.not_true, Bool.not_false, Bool.true_eq_false, decide_true, decide_false, Nat.reduceLeDiff, Nat.reduceLT, ev_iseq_l h, wipeA]
  have c : ((List.range n).map fun i => D.ref (x i)) = ((List.range n).filter fun i => decide (i < n)).map fun i => D.ref (x i) := by
    rw [List.filter_eq_self.mpr fun a ha => decide_eq_true (List.mem_range.mp ha)]
  refine comp_pure (fun i => D.ref (x i)) (fun i => rowD n (f i)) (fun l => rdL_l (Gr.app.keep _ _ h)) (fun i hi l => ?_) (by simp; omega) ?_
  · have hi := List.mem_range.mp hi
    simp only [sat_ok, sat_bad, sat_bind, sat_ite, bind_ok, bind_bad, thn_nx, thn_rt, thn_bk, thn_ct, fin_rt, fin_nx, ev_v, ev_c, ev_op, ev_un, ev_nil, ev_cons, ev_tup, ev_lst, ev_call, ev_own, ev_sl, ev_no, ev_part, ev_and, ev_or, ev_not, ev_if, ev_t, ev_tb, ev_tnot, ev_tand, ev_tor, ev_mt, ev_mt0, ev_rgd, ev_set, ev_asg, ev_ret, ev_retN, ev_ex, ev_pass, ev_brk, ev_cont, ev_ifS, ev_aug, ev_gn, ev_gtp, ev_gnl, ev_gcs, ev_gsb, ev_for, ev_rg1, ev_rg2, ev_its, ev_enum, ev_lc, ev_yes, ev_add_ii, ev_add_ss, ev_add_tt, ev_add_rr, ev_sub, ev_mul, ev_mod, ev_fdiv, ev_pow, ev_neg, ev_lt, ev_le, ev_gt, ev_ge, ev_eq_ii, ev_eq_ss, ev_eq_bb, ev_ne_ii, ev_ne_ss, ev_ne_bb, ev_is_n, ev_isnt_n, ev_int_i, ev_int_b, ev_min_ii, ev_max_ii, ev_abs, ev_tup_of, ev_tup_ofL, ev_lst_ofT, ev_lst_ofL, ev_len_t, ev_len_s, ev_len_r, ev_tru_b, ev_alloc, ev_tupD, ev_lstD, isi_tuple_non, isi_tuple_bl, isi_tuple_int, isi_tuple_str, isi_tuple_tup, isi_tuple_l, isi_tuple_f, isi_list_non, isi_list_bl, isi_list_int, isi_list_str, isi_list_tup, isi_list_l, isi_list_f, isi_bool_non, isi_bool_bl, isi_bool_int, isi_bool_str, isi_bool_tup, isi_bool_l, isi_bool_f, isi_int_non, isi_int_bl, isi_int_int, isi_int_str, isi_int_tup, isi_int_l, isi_int_f, isi_str_non, isi_str_bl, isi_str_int, isi_str_str, isi_str_tup, isi_str_l, isi_str_f, isi_dict_non, isi_dict_bl, isi_dict_int, isi_dict_str, isi_dict_tup, isi_dict_l, isi_dict_f, Ab.isNon, args, List.map, List.length_cons, List.length_nil, List.length_singleton, List.replicate, Nat.reduceSub, Nat.reduceAdd, Nat.zero_add, List.cons_append, List.nil_append, List.getElem?_cons_zero, List.getElem?_cons_succ, List.set_cons_zero, List.set_cons_succ, Option.some.injEq, decide_eq_true_eq, Bool.not_eq_true', decide_eq_false_iff_not, ite_true, ite_false, if_true, if_false, reduceIte, Bool.false_eq_true, Bool.not_true, Bool.not_false, Bool.true_eq_false, decide_true, decide_false, Nat.reduceLeDiff, Nat.reduceLT, ev_tup_ofL (rdL_l (Gr.app.keep _ _ (hx i hi)))]
    trivial
  · have at1 := at_new (A := A) (o := .lst ((List.range n).map fun i => rowD n (f i)))
    simp only [sat_ok, sat_bad, sat_bind, sat_ite, bind_ok, bind_bad, thn_nx, thn_rt, thn_bk, thn_ct, fin_rt, fin_nx, ev_v, ev_c, ev_op, ev_un, ev_nil, ev_cons, ev_tup, ev_lst, ev_call, ev_own, ev_sl, ev_no, ev_part, ev_and, ev_or, ev_not, ev_if, ev_t, ev_tb, ev_tnot, ev_tand, ev_tor, ev_mt, ev_mt0, ev_rgd, ev_set, ev_asg, ev_ret, ev_retN, ev_ex, ev_pass, ev_brk, ev_cont, ev_ifS, ev_aug, ev_gn, ev_gtp, ev_gnl, ev_gcs, ev_gsb, ev_for, ev_rg1, ev_rg2, ev_its, ev_enum, ev_lc, ev_yes, ev_add_ii, ev_add_ss, ev_add_tt, ev_add_rr, ev_sub, ev_mul, ev_mod, ev_fdiv, ev_pow, ev_neg, ev_lt, ev_le, ev_gt, ev_ge, ev_eq_ii, ev_eq_ss, ev_eq_bb, ev_ne_ii, ev_ne_ss, ev_ne_bb, ev_is_n, ev_isnt_n, ev_int_i, ev_int_b, ev_min_ii, ev_max_ii, ev_abs, ev_tup_of, ev_tup_ofL, ev_lst_ofT, ev_lst_ofL, ev_len_t, ev_len_s, ev_len_r, ev_tru_b, ev_alloc, ev_tupD, ev_lstD, isi_tuple_non, isi_tuple_bl, isi_tuple_int, isi_tuple_str, isi_tuple_tup, isi_tuple_l, isi_tuple_f, isi_list_non, isi_list_bl, isi_list_int, isi_list_str, isi_list_tup, isi_list_l, isi_list_f, isi_bool_non, isi_bool_bl, isi_bool_int, isi_bool_str, isi_bool_tup, isi_bool_l, isi_bool_f, isi_int_non, isi_int_bl, isi_int_int, isi_int_str, isi_int_tup, isi_int_l, isi_int_f, isi_str_non, isi_str_bl, isi_str_int, isi_str_str, isi_str_tup, isi_str_l, isi_str_f, isi_dict_non, isi_dict_bl, isi_dict_int, isi_dict_str, isi_dict_tup, isi_dict_l, isi_dict_f, Ab.isNon, args, List.map, List.length_cons, List.length_nil, List.length_singleton, List.replicate, Nat.reduceSub, Nat.reduceAdd, Nat.zero_add, List.cons_append, List.nil_append, List.getElem?_cons_zero, List.getElem?_cons_succ, List.set_cons_zero, List.set_cons_succ, Option.some.injEq, decide_eq_true_eq, Bool.not_eq_true', decide_eq_false_iff_not, ite_true, ite_false, if_true, if_false, reduceIte, Bool.false_eq_true, Bool.not_true, Bool.not_false, Bool.true_eq_false, decide_true, decide_false, Nat.reduceLeDiff, Nat.reduceLT, ev_tup_ofL (rdL_l at1)]
    exact ⟨rfl, .app⟩
/-- a table of lists: r the list of its rows, c i the i-th row -/
structure Mt (A0 A : AH) (r : Nat) (c : Nat → Nat) (m : Nat) (R : Mx) : Prop where
  gr : Gr A0 A
  rows : A[r]? = some (.lst ((List.range m).map fun i => .ref (c i)))
  row : ∀ i, i < m → A[c i]? = some (.lst ((List.range m).map fun j => .int (R i j)))
  inj : ∀ i j, i < m → j < m → c i = c j → i = j
  ne : ∀ i, i < m → c i ≠ r
  new : ∀ i, i < m → A0.length ≤ c i
theorem range_set {m j : Nat} {f : Nat → Int} {v : Int} : ((List.range m).map fun j => D.int (f j)).set j (.int v) = (List.range m).map fun k => D.int (if k = j then v else f k) := by
  apply List.ext_getElem (by simp)
  intro i h1 h2
  rw [List.getElem_set]
  simp only [List.getElem_map, List.getElem_range]
  by_cases e : j = i
  · subst e; simp
  · rw [if_neg e, if_neg (fun z => e z.symm)]
section
variable {A0 A B : AH} {r m : Nat} {c : Nat → Nat} {R : Mx}
theorem Mt.to (h : Mt A0 A r c m R) (g : Gr A B) : Mt A0 B r c m R := ⟨h.gr.trans g, g.keep _ _ h.rows, fun i hi => g.keep _ _ (h.row i hi), h.inj, h.ne, h.new⟩
theorem Mt.set (h : Mt A0 A r c m R) {i j : Nat} {v : Int} (hi : i < m) :
    Mt A0 (A.set (c i) (.lst (((List.range m).map fun j => D.int (R i j)).set j (.int v)))) r c m (fun a b => if a = i ∧ b = j then v else R a b) := by
  refine ⟨h.gr.set (h.new i hi), ?_, fun a ha => ?_, h.inj, h.ne, h.new⟩
  · rw [List.getElem?_set_ne (h.ne i hi)]; exact h.rows
  · by_cases e : a = i
    · subst e
      rw [at_set (at_lt (h.row a ha)), range_set]
      simp
    · rw [List.getElem?_set_ne (fun z => e (h.inj a i ha hi z.symm)), h.row a ha]
      simp [e]
theorem Mt.ext {S : Mx} (h : Mt A0 A r c m R) (e : ∀ i j, i < m → j < m → R i j = S i j) : Mt A0 A r c m S := ⟨h.gr, h.rows, fun i hi => by
  rw [h.row i hi]
  congr 2
  exact List.map_congr_left fun j hj => by rw [e i j hi (List.mem_range.mp hj)], h.inj, h.ne, h.new⟩
theorem Mt.len (h : Mt A0 A r c m R) : lenD [.ref r] A = .ok (.int (m : Nat)) A := (ev_len_r (rdL_l h.rows)).trans (by simp)
theorem Mt.ix (h : Mt A0 A r c m R) {i : Nat} (hi : i < m) : ixD (.ref r) (.int (i : Nat)) A = .ok (.ref (c i)) A := ev_ix_r (rdL_l h.rows) (by rw [atI_pos (by omega), Int.toNat_natCast, List.getElem?_map, List.getElem?_range hi]; rfl)
theorem ix_rowL {A : AH} {q m j : Nat} {f : Nat → Int} (h : A[q]? = some (.lst ((List.range m).map fun j => .int (f j)))) (hj : j < m) : ixD (.ref q) (.int (j : Nat)) A = .ok (.int (f j)) A := ev_ix_r (rdL_l h) (by rw [atI_pos (by omega), Int.toNat_natCast, List.getElem?_map, List.getElem?_range hj]; rfl)
theorem Mt.ix2 (h : Mt A0 A r c m R) {i j : Nat} (hi : i < m) (hj : j < m) : ixD (.ref (c i)) (.int (j : Nat)) A = .ok (.int (R i j)) A := ix_rowL (h.row i hi) hj
theorem Mt.st (h : Mt A0 A r c m R) {i j : Nat} {v : Int} (hi : i < m) (hj : j < m) : stD (.ref (c i)) (.int (j : Nat)) (.int v) A = .ok () (A.set (c i) (.lst (((List.range m).map fun j => D.int (R i j)).set j (.int v)))) :=
  ev_st_l (j := j) (h.row i hi) (by rw [ixN_pos (by omega) (by simp; omega)]; rfl)
theorem neg_spec (h : Mt A0 A r c m R) (hm : m ≤ 100) {b : Bool} (hb : b = true ↔ ∃ i, i < m ∧ R i i < 0) : m_has_negative [.ref r] A = .ok (.bl b) A := by
  have key : Sat (m_has_negative [.ref r] A) fun d A' => d = .bl b ∧ A' = A := by
    refine sat_body rfl (sat_seq ?_)
    simp only [sat_ok, sat_bad, sat_bind, sat_ite, bind_ok, bind_bad, thn_nx, thn_rt, thn_bk, thn_ct, fin_rt, fin_nx, ev_v, ev_c, ev_op, ev_un, ev_nil, ev_cons, ev_tup, ev_lst, ev_call, ev_own, ev_sl, ev_no, ev_part, ev_and, ev_or, ev_not, ev_if, ev_t, ev_tb, ev_tnot, ev_tand, ev_tor, ev_mt, ev_mt0, ev_rgd, ev_set, ev_asg, ev_ret, ev_retN, ev_ex, ev_pass, ev_brk, ev_cont, ev_ifS, ev_aug, ev_gn, ev_gtp, ev_gnl, ev_gcs, ev_gsb, ev_for, ev_rg1, ev_rg2, ev_its, ev_enum, ev_lc, ev_yes, ev_add_ii, ev_add_ss, ev_add_tt, ev_add_rr, ev_sub, ev_mul, ev_mod, ev_fdiv, ev_pow, ev_neg, ev_lt, ev_le, ev_gt, ev_ge, ev_eq_ii, ev_eq_ss, ev_eq_bb, ev_ne_ii, ev_ne_ss, ev_ne_bb, ev_is_n, ev_isnt_n, ev_int_i, ev_int_b, ev_min_ii, ev_max_ii, ev_abs, ev_tup_of, ev_tup_ofL, ev_lst_ofT, ev_lst_ofL, ev_len_t, ev_len_s, ev_len_r, ev_tru_b, ev_alloc, ev_tupD, ev_lstD, isi_tuple_non, isi_tuple_bl, isi_tuple_int, isi_tuple_str, isi_tuple_tup, isi_tuple_l, isi_tuple_f, isi_list_non, isi_list_bl, isi_list_int, isi_list_str, isi_list_tup, isi_list_l, isi_list_f, isi_bool_non, isi_bool_bl, isi_bool_int, isi_bool_str, isi_bool_tup, isi_bool_l, isi_bool_f, isi_int_non, isi_int_bl, isi_int_int, isi_int_str, isi_int_tup, isi_int_l, isi_int_f, isi_str_non, isi_str_bl, isi_str_int, isi_str_str, isi_str_tup, isi_str_l, isi_str_f, isi_dict_non, isi_dict_bl, isi_dict_int, isi_dict_str, isi_dict_tup, isi_dict_l, isi_dict_f, Ab.isNon, args, List.map, List.length_cons, List.length_nil, List.length_singleton, List.replicate, Nat.reduceSub, Nat.reduceAdd, Nat.zero_add, List.cons_append, List.nil_append, List.getElem?_cons_zero, List.getElem?_cons_succ, List.set_cons_zero, List.set_cons_succ, Option.some.injEq, decide_eq_true_eq, Bool.not_eq_true', decide_eq_false_iff_not, ite_true, ite_false, if_true, if_false, reduceIte, Bool.false_eq_true, Bool.not_true, Bool.not_false, Bool.true_eq_false, decide_true, decide_false, Nat.reduceLeDiff, Nat.reduceLT, h.len]
    rw [if_pos (inRg_of (by omega) (by omega)), Int.toNat_natCast]
    refine range_inv (fun k σ B => B = A ∧ (∀ i, i < k → 0 ≤ R i i) ∧ ∃ y, σ = [some (.ref r), y]) (fun k σ B hk ⟨hB, h1, y, hσ⟩ => ?_) (fun σ B ⟨hB, h1, y, hσ⟩ => ?_) ⟨rfl, fun _ h => absurd h (Nat.not_lt_zero _), none, rfl⟩
    · subst hB; subst hσ
      simp only [sat_ok, sat_bad, sat_bind, sat_ite, bind_ok, bind_bad, thn_nx, thn_rt, thn_bk, thn_ct, fin_rt, fin_nx, ev_v, ev_c, ev_op, ev_un, ev_nil, ev_cons, ev_tup, ev_lst, ev_call, ev_own, ev_sl, ev_no, ev_part, ev_and, ev_or, ev_not, ev_if, ev_t, ev_tb, ev_tnot, ev_tand, ev_tor, ev_mt, ev_mt0, ev_rgd, ev_set, ev_asg, ev_ret, ev_retN, ev_ex, ev_pass, ev_brk, ev_cont, ev_ifS, ev_aug, ev_gn, ev_gtp, ev_gnl, ev_gcs, ev_gsb, ev_for, ev_rg1, ev_rg2, ev_its, ev_enum, ev_lc, ev_yes, ev_add_ii, ev_add_ss, ev_add_tt, ev_add_rr, ev_sub, ev_mul, ev_mod, ev_fdiv, ev_pow, ev_neg, ev_lt, ev_le, ev_gt, ev_ge, ev_eq_ii, ev_eq_ss, ev_eq_bb, ev_ne_ii, ev_ne_ss, ev_ne_bb, ev_is_n, ev_isnt_n, ev_int_i, ev_int_b, ev_min_ii, ev_max_ii, ev_abs, ev_tup_of, ev_tup_ofL, ev_lst_ofT, ev_lst_ofL, ev_len_t, ev_len_s, ev_len_r, ev_tru_b, ev_alloc, ev_tupD, ev_lstD, isi_tuple_non, isi_tuple_bl, isi_tuple_int, isi_tuple_str, isi_tuple_tup, isi_tuple_l, isi_tuple_f, isi_list_non, isi_list_bl, isi_list_int, isi_list_str, isi_list_tup, isi_list_l, isi_list_f, isi_bool_non, isi_bool_bl, isi_bool_int, isi_bool_str, isi_bool_tup, isi_bool_l, isi_bool_f, isi_int_non, isi_int_bl, isi_int_int, isi_int_str, isi_int_tup, isi_int_l, isi_int_f, isi_str_non, isi_str_bl, isi_str_int, isi_str_str, isi_str_tup, isi_str_l, isi_str_f, isi_dict_non, isi_dict_bl, isi_dict_int, isi_dict_str, isi_dict_tup, isi_dict_l, isi_dict_f, Ab.isNon, args, List.map, List.length_cons, List.length_nil, List.length_singleton, List.replicate, Nat.reduceSub, Nat.reduceAdd, Nat.zero_add, List.cons_append, List.nil_append, List.getElem?_cons_zero, List.getElem?_cons_succ, List.set_cons_zero, List.set_cons_succ, Option.some.injEq, decide_eq_true_eq, Bool.not_eq_true', decide_eq_false_iff_not, ite_true, ite_false, if_true, if_false, reduceIte, Bool.false_eq_true, Bool.not_true, Bool.not_false, Bool.true_eq_false, decide_true, decide_false, Nat.reduceLeDiff, Nat.reduceLT, Int.zero_add, h.ix hk, h.ix2 hk hk]
      split
      · rename_i hn
        simp only [sat_ok, sat_bad, sat_bind, sat_ite, bind_ok, bind_bad, thn_nx, thn_rt, thn_bk, thn_ct, fin_rt, fin_nx, ev_v, ev_c, ev_op, ev_un, ev_nil, ev_cons, ev_tup, ev_lst, ev_call, ev_own, ev_sl, ev_no, ev_part, ev_and, ev_or, ev_not, ev_if, ev_t, ev_tb, ev_tnot, ev_tand, ev_tor, ev_mt, ev_mt0, ev_rgd, ev_set, ev_asg, ev_ret, ev_retN, ev_ex, ev_pass, ev_brk, ev_cont, ev_ifS, ev_aug, ev_gn, ev_gtp, ev_gnl, ev_gcs, ev_gsb, ev_for, ev_rg1, ev_rg2, ev_its, ev_enum, ev_lc, ev_yes, ev_add_ii, ev_add_ss, ev_add_tt, ev_add_rr, ev_sub, ev_mul, ev_mod, ev_fdiv, ev_pow, ev_neg, ev_lt, ev_le, ev_gt, ev_ge, ev_eq_ii, ev_eq_ss, ev_eq_bb, ev_ne_ii, ev_ne_ss, ev_ne_bb, ev_is_n, ev_isnt_n, ev_int_i, ev_int_b, ev_min_ii, ev_max_ii, ev_abs, ev_tup_of, ev_tup_ofL, ev_lst_ofT, ev_lst_ofL, ev_len_t, ev_len_s, ev_len_r, ev_tru_b, ev_alloc, ev_tupD, ev_lstD, isi_tuple_non, isi_tuple_bl, isi_tuple_int, isi_tuple_str, isi_tuple_tup, isi_tuple_l, isi_tuple_f, isi_list_non, isi_list_bl, isi_list_int, isi_list_str, isi_list_tup, isi_list_l, isi_list_f, isi_bool_non, isi_bool_bl, isi_bool_int, isi_bool_str, isi_bool_tup, isi_bool_l, isi_bool_f, isi_int_non, isi_int_bl, isi_int_int, isi_int_str, isi_int_tup, isi_int_l, isi_int_f, isi_str_non, isi_str_bl, isi_str_int, isi_str_str, isi_str_tup, isi_str_l, isi_str_f, isi_dict_non, isi_dict_bl, isi_dict_int, isi_dict_str, isi_dict_tup, isi_dict_l, isi_dict_f, Ab.isNon, args, List.map, List.length_cons, List.length_nil, List.length_singleton, List.replicate, Nat.reduceSub, Nat.reduceAdd, Nat.zero_add, List.cons_append, List.nil_append, List.getElem?_cons_zero, List.getElem?_cons_succ, List.set_cons_zero, List.set_cons_succ, Option.some.injEq, decide_eq_true_eq, Bool.not_eq_true', decide_eq_false_iff_not, ite_true, ite_false, if_true, if_false, reduceIte, Bool.false_eq_true, Bool.not_true, Bool.not_false, Bool.true_eq_false, decide_true, decide_false, Nat.reduceLeDiff, Nat.reduceLT, turn_]
        exact ⟨by rw [hb.mpr ⟨k, hk, hn⟩], trivial⟩
      · rename_i hn
        simp only [sat_ok, sat_bad, sat_bind, sat_ite, bind_ok, bind_bad, thn_nx, thn_rt, thn_bk, thn_ct, fin_rt, fin_nx, ev_v, ev_c, ev_op, ev_un, ev_nil, ev_cons, ev_tup, ev_lst, ev_call, ev_own, ev_sl, ev_no, ev_part, ev_and, ev_or, ev_not, ev_if, ev_t, ev_tb, ev_tnot, ev_tand, ev_tor, ev_mt, ev_mt0, ev_rgd, ev_set, ev_asg, ev_ret, ev_retN, ev_ex, ev_pass, ev_brk, ev_cont, ev_ifS, ev_aug, ev_gn, ev_gtp, ev_gnl, ev_gcs, ev_gsb, ev_for, ev_rg1, ev_rg2, ev_its, ev_enum, ev_lc, ev_yes, ev_add_ii, ev_add_ss, ev_add_tt, ev_add_rr, ev_sub, ev_mul, ev_mod, ev_fdiv, ev_pow, ev_neg, ev_lt, ev_le, ev_gt, ev_ge, ev_eq_ii, ev_eq_ss, ev_eq_bb, ev_ne_ii, ev_ne_ss, ev_ne_bb, ev_is_n, ev_isnt_n, ev_int_i, ev_int_b, ev_min_ii, ev_max_ii, ev_abs, ev_tup_of, ev_tup_ofL, ev_lst_ofT, ev_lst_ofL, ev_len_t, ev_len_s, ev_len_r, ev_tru_b, ev_alloc, ev_tupD, ev_lstD, isi_tuple_non, isi_tuple_bl, isi_tuple_int, isi_tuple_str, isi_tuple_tup, isi_tuple_l, isi_tuple_f, isi_list_non, isi_list_bl, isi_list_int, isi_list_str, isi_list_tup, isi_list_l, isi_list_f, isi_bool_non, isi_bool_bl, isi_bool_int, isi_bool_str, isi_bool_tup, isi_bool_l, isi_bool_f, isi_int_non, isi_int_bl, isi_int_int, isi_int_str, isi_int_tup, isi_int_l, isi_int_f, isi_str_non, isi_str_bl, isi_str_int, isi_str_str, isi_str_tup, isi_str_l, isi_str_f, isi_dict_non, isi_dict_bl, isi_dict_int, isi_dict_str, isi_dict_tup, isi_dict_l, isi_dict_f, Ab.isNon, args, List.map, List.length_cons, List.length_nil, List.length_singleton, List.replicate, Nat.reduceSub, Nat.reduceAdd, Nat.zero_add, List.cons_append, List.nil_append, List.getElem?_cons_zero, List.getElem?_cons_succ, List.set_cons_zero, List.set_cons_succ, Option.some.injEq, decide_eq_true_eq, Bool.not_eq_true', decide_eq_false_iff_not, ite_true, ite_false, if_true, if_false, reduceIte, Bool.false_eq_true, Bool.not_true, Bool.not_false, Bool.true_eq_false, decide_true, decide_false, Nat.reduceLeDiff, Nat.reduceLT, turn_]
        refine ⟨trivial, fun i hi => ?_, _, rfl⟩
        by_cases e : i = k
        · subst e; omega
        · exact h1 i (by omega)
    · subst hB; subst hσ
      simp only [sat_ok, sat_bad, sat_bind, sat_ite, bind_ok, bind_bad, thn_nx, thn_rt, thn_bk, thn_ct, fin_rt, fin_nx, ev_v, ev_c, ev_op, ev_un, ev_nil, ev_cons, ev_tup, ev_lst, ev_call, ev_own, ev_sl, ev_no, ev_part, ev_and, ev_or, ev_not, ev_if, ev_t, ev_tb, ev_tnot, ev_tand, ev_tor, ev_mt, ev_mt0, ev_rgd, ev_set, ev_asg, ev_ret, ev_retN, ev_ex, ev_pass, ev_brk, ev_cont, ev_ifS, ev_aug, ev_gn, ev_gtp, ev_gnl, ev_gcs, ev_gsb, ev_for, ev_rg1, ev_rg2, ev_its, ev_enum, ev_lc, ev_yes, ev_add_ii, ev_add_ss, ev_add_tt, ev_add_rr, ev_sub, ev_mul, ev_mod, ev_fdiv, ev_pow, ev_neg, ev_lt, ev_le, ev_gt, ev_ge, ev_eq_ii, ev_eq_ss, ev_eq_bb, ev_ne_ii, ev_ne_ss, ev_ne_bb, ev_is_n, ev_isnt_n, ev_int_i, ev_int_b, ev_min_ii, ev_max_ii, ev_abs, ev_tup_of, ev_tup_ofL, ev_lst_ofT, ev_lst_ofL, ev_len_t, ev_len_s, ev_len_r, ev_tru_b, ev_alloc, ev_tupD, ev_lstD, isi_tuple_non, isi_tuple_bl, isi_tuple_int, isi_tuple_str, isi_tuple_tup, isi_tuple_l, isi_tuple_f, isi_list_non, isi_list_bl, isi_list_int, isi_list_str, isi_list_tup, isi_list_l, isi_list_f, isi_bool_non, isi_bool_bl, isi_bool_int, isi_bool_str, isi_bool_tup, isi_bool_l, isi_bool_f, isi_int_non, isi_int_bl, isi_int_int, isi_int_str, isi_int_tup, isi_int_l, isi_int_f, isi_str_non, isi_str_bl, isi_str_int, isi_str_str, isi_str_tup, isi_str_l, isi_str_f, isi_dict_non, isi_dict_bl, isi_dict_int, isi_dict_str, isi_dict_tup, isi_dict_l, isi_dict_f, Ab.isNon, args, List.map, List.length_cons, List.length_nil, List.length_singleton, List.replicate, Nat.reduceSub, Nat.reduceAdd, Nat.zero_add, List.cons_append, List.nil_append, List.getElem?_cons_zero, List.getElem?_cons_succ, List.set_cons_zero, List.set_cons_succ, Option.some.injEq, decide_eq_true_eq, Bool.not_eq_true', decide_eq_false_iff_not, ite_true, ite_false, if_true, if_false, reduceIte, Bool.false_eq_true, Bool.not_true, Bool.not_false, Bool.true_eq_false, decide_true, decide_false, Nat.reduceLeDiff, Nat.reduceLT]
      refine ⟨?_, trivial⟩
      cases b with
      | false => rfl
      | true =>
        obtain ⟨i, hi, hn⟩ := hb.mp rfl
        have := h1 i hi
        omega
  obtain ⟨d, A', e, rfl, rfl⟩ := key.eq
  exact e
def part (k i j : Nat) (R : Mx) : Mx := fun a b => if a < i ∨ (a = i ∧ b < j) then via k R a b else R a b
theorem short_spec (h : Mt A0 A r c m R) (hm : m ≤ 100) {k : Nat} (hk : k < m) : Sat (m_shorten [.ref r, .int (k : Nat)] A) fun d A' => Mt A0 A' r c m (via k R) := by
  refine sat_body rfl (sat_seq ?_)
  simp only [sat_ok, sat_bad, sat_bind, sat_ite, bind_ok, bind_bad, thn_nx, thn_rt, thn_bk, thn_ct, fin_rt, fin_nx, ev_v, ev_c, ev_op, ev_un, ev_nil, ev_cons, ev_tup, ev_lst, ev_call, ev_own, ev_sl, ev_no, ev_part, ev_and, ev_or, ev_not, ev_if, ev_t, ev_tb, ev_tnot, ev_tand, ev_tor, ev_mt, ev_mt0, ev_rgd, ev_set, ev_asg, ev_ret, ev_retN, ev_ex, ev_pass, ev_brk, ev_cont, ev_ifS, ev_aug, ev_gn, ev_gtp, ev_gnl, ev_gcs, ev_gsb, ev_for, ev_rg1, ev_rg2, ev_its, ev_enum, ev_lc, ev_yes, ev_add_ii, ev_add_ss, ev_add_tt, ev_add_rr, ev_sub, ev_mul, ev_mod, ev_fdiv, ev_pow, ev_neg, ev_lt, ev_le, ev_gt, ev_ge, ev_eq_ii, ev_eq_ss, ev_eq_bb, ev_ne_ii, ev_ne_ss, ev_ne_bb, ev_is_n, ev_isnt_n, ev_int_i, ev_int_b, ev_min_ii, ev_max_ii, ev_abs, ev_tup_of, ev_tup_ofL, ev_lst_ofT, ev_lst_ofL, ev_len_t, ev_len_s, ev_len_r, ev_tru_b, ev_alloc, ev_tupD, ev_lstD, isi_tuple_non, isi_tuple_bl, isi_tuple_int, isi_tuple_str, isi_tuple_tup, isi_tuple_l, isi_tuple_f, isi_list_non, isi_list_bl, isi_list_int, isi_list_str, isi_list_tup, isi_list_l, isi_list_f, isi_bool_non, isi_bool_bl, isi_bool_int, isi_bool_str, isi_bool_tup, isi_bool_l, isi_bool_f, isi_int_non, isi_int_bl, isi_int_int, isi_int_str, isi_int_tup, isi_int_l, isi_int_f, isi_str_non, isi_str_bl, isi_str_int, isi_str_str, isi_str_tup, isi_str_l, isi_str_f, isi_dict_non, isi_dict_bl, isi_dict_int, isi_dict_str, isi_dict_tup, isi_dict_l, isi_dict_f, Ab.isNon, args, List.map, List.length_cons, List.length_nil, List.length_singleton, List.replicate, Nat.reduceSub, Nat.reduceAdd, Nat.zero_add, List.cons_append, List.nil_append, List.getElem?_cons_zero, List.getElem?_cons_succ, List.set_cons_zero, List.set_cons_succ, Option.some.injEq, decide_eq_true_eq, Bool.not_eq_true', decide_eq_false_iff_not, ite_true, ite_false, if_true, if_false, reduceIte, Bool.false_eq_true, Bool.not_true, Bool.not_false, Bool.true_eq_false, decide_true, decide_false, Nat.reduceLeDiff, Nat.reduceLT, h.len]
  refine sat_seq ?_
  have rk := h.row k hk
  simp only [sat_ok, sat_bad, sat_bind, sat_ite, bind_ok, bind_bad, thn_nx, thn_rt, thn_bk, thn_ct, fin_rt, fin_nx, ev_v, ev_c, ev_op, ev_un, ev_nil, ev_cons, ev_tup, ev_lst, ev_call, ev_own, ev_sl, ev_no, ev_part, ev_and, ev_or, ev_not, ev_if, ev_t, ev_tb, ev_tnot, ev_tand, ev_tor, ev_mt, ev_mt0, ev_rgd, ev_set, ev_asg, ev_ret, ev_retN, ev_ex, ev_pass, ev_brk, ev_cont, ev_ifS, ev_aug, ev_gn, ev_gtp, ev_gnl, ev_gcs, ev_gsb, ev_for, ev_rg1, ev_rg2, ev_its, ev_enum, ev_lc, ev_yes, ev_add_ii, ev_add_ss, ev_add_tt, ev_add_rr, ev_sub, ev_mul, ev_mod, ev_fdiv, ev_pow, ev_neg, ev_lt, ev_le, ev_gt, ev_ge, ev_eq_ii, ev_eq_ss, ev_eq_bb, ev_ne_ii, ev_ne_ss, ev_ne_bb, ev_is_n, ev_isnt_n, ev_int_i, ev_int_b, ev_min_ii, ev_max_ii, ev_abs, ev_tup_of, ev_tup_ofL, ev_lst_ofT, ev_lst_ofL, ev_len_t, ev_len_s, ev_len_r, ev_tru_b, ev_alloc, ev_tupD, ev_lstD, isi_tuple_non, isi_tuple_bl, isi_tuple_int, isi_tuple_str, isi_tuple_tup, isi_tuple_l, isi_tuple_f, isi_list_non, isi_list_bl, isi_list_int, isi_list_str, isi_list_tup, isi_list_l, isi_list_f, isi_bool_non, isi_bool_bl, isi_bool_int, isi_bool_str, isi_bool_tup, isi_bool_l, isi_bool_f, isi_int_non, isi_int_bl, isi_int_int, isi_int_str, isi_int_tup, isi_int_l, isi_int_f, isi_str_non, isi_str_bl, isi_str_int, isi_str_str, isi_str_tup, isi_str_l, isi_str_f, isi_dict_non, isi_dict_bl, isi_dict_int, isi_dict_str, isi_dict_tup, isi_dict_l, isi_dict_f, Ab.isNon, args, List.map, List.length_cons, List.length_nil, List.length_singleton, List.replicate, Nat.reduceSub, Nat.reduceAdd, Nat.zero_add, List.cons_append, List.nil_append, List.getElem?_cons_zero, List.getElem?_cons_succ, List.set_cons_zero, List.set_cons_succ, Option.some.injEq, decide_eq_true_eq, Bool.not_eq_true', decide_eq_false_iff_not, ite_true, ite_false, if_true, if_false, reduceIte, Bool.false_eq_true, Bool.not_true, Bool.not_false, Bool.true_eq_false, decide_true, decide_false, Nat.reduceLeDiff, Nat.reduceLT, h.ix hk]
  rw [ev_lst_ofL (rdL_l rk)]
  have hb := at_new (A := A) (o := .lst ((List.range m).map fun j => .int (R k j)))
  have nb : ∀ i, i < m → c i ≠ A.length := fun i hi => by have := at_lt (h.row i hi); omega
  have h := h.to (Gr.app (B := [.lst ((List.range m).map fun j => .int (R k j))]))
  generalize A ++ [AO.lst ((List.range m).map fun j => .int (R k j))] = A1 at h hb ⊢
  generalize A.length = q at hb nb ⊢
  simp only [sat_ok, sat_bad, sat_bind, sat_ite, bind_ok, bind_bad, thn_nx, thn_rt, thn_bk, thn_ct, fin_rt, fin_nx, ev_v, ev_c, ev_op, ev_un, ev_nil, ev_cons, ev_tup, ev_lst, ev_call, ev_own, ev_sl, ev_no, ev_part, ev_and, ev_or, ev_not, ev_if, ev_t, ev_tb, ev_tnot, ev_tand, ev_tor, ev_mt, ev_mt0, ev_rgd, ev_set, ev_asg, ev_ret, ev_retN, ev_ex, ev_pass, ev_brk, ev_cont, ev_ifS, ev_aug, ev_gn, ev_gtp, ev_gnl, ev_gcs, ev_gsb, ev_for, ev_rg1, ev_rg2, ev_its, ev_enum, ev_lc, ev_yes, ev_add_ii, ev_add_ss, ev_add_tt, ev_add_rr, ev_sub, ev_mul, ev_mod, ev_fdiv, ev_pow, ev_neg, ev_lt, ev_le, ev_gt, ev_ge, ev_eq_ii, ev_eq_ss, ev_eq_bb, ev_ne_ii, ev_ne_ss, ev_ne_bb, ev_is_n, ev_isnt_n, ev_int_i, ev_int_b, ev_min_ii, ev_max_ii, ev_abs, ev_tup_of, ev_tup_ofL, ev_lst_ofT, ev_lst_ofL, ev_len_t, ev_len_s, ev_len_r, ev_tru_b, ev_alloc, ev_tupD, ev_lstD, isi_tuple_non, isi_tuple_bl, isi_tuple_int, isi_tuple_str, isi_tuple_tup, isi_tuple_l, isi_tuple_f, isi_list_non, isi_list_bl, isi_list_int, isi_list_str, isi_list_tup, isi_list_l, isi_list_f, isi_bool_non, isi_bool_bl, isi_bool_int, isi_bool_str, isi_bool_tup, isi_bool_l, isi_bool_f, isi_int_non, isi_int_bl, isi_int_int, isi_int_str, isi_int_tup, isi_int_l, isi_int_f, isi_str_non, isi_str_bl, isi_str_int, isi_str_str, isi_str_tup, isi_str_l, isi_str_f, isi_dict_non, isi_dict_bl, isi_dict_int, isi_dict_str, isi_dict_tup, isi_dict_l, isi_dict_f, Ab.isNon, args, List.map, List.length_cons, List.length_nil, List.length_singleton, List.replicate, Nat.reduceSub, Nat.reduceAdd, Nat.zero_add, List.cons_append, List.nil_append, List.getElem?_cons_zero, List.getElem?_cons_succ, List.set_cons_zero, List.set_cons_succ, Option.some.injEq, decide_eq_true_eq, Bool.not_eq_true', decide_eq_false_iff_not, ite_true, ite_false, if_true, if_false, reduceIte, Bool.false_eq_true, Bool.not_true, Bool.not_false, Bool.true_eq_false, decide_true, decide_false, Nat.reduceLeDiff, Nat.reduceLT]
  rw [if_pos (inRg_of (by omega) (by omega)), Int.toNat_natCast]
  have upto : Mt A0 A1 r c m (fun a b => if a < 0 then via k R a b else R a b) := h.ext fun i j _ _ => by simp
  refine range_inv (fun i σ B => Mt A0 B r c m (fun a b => if a < i then via k R a b else R a b) ∧ B[q]? = some (.lst ((List.range m).map fun j => .int (R k j))) ∧ ∃ x y z, σ = [some (.ref r), some (.int (k : Nat)), some (.int (m : Nat)), some (.ref q), x, y, z, none] ∨ ∃ w, σ = [some (.ref r), some (.int (k : Nat)), some (.int (m : Nat)), some (.ref q), x, y, z, w])
    (fun i σ B hi ⟨hB, hq, x, y, z, hσ⟩ => ?_) (fun σ B ⟨hB, hq, x, y, z, hσ⟩ => ?_) ⟨upto, hb, none, none, none, .inl rfl⟩
  · obtain ⟨w, hσ⟩ : ∃ w, σ = [some (.ref r), some (.int (k : Nat)), some (.int (m : Nat)), some (.ref q), x, y, z, w] := by
      rcases hσ with h | ⟨w, h⟩
      · exact ⟨none, h⟩
      · exact ⟨w, h⟩
    subst hσ
    simp only [sat_ok, sat_bad, sat_bind, sat_ite, bind_ok, bind_bad, thn_nx, thn_rt, thn_bk, thn_ct, fin_rt, fin_nx, ev_v, ev_c, ev_op, ev_un, ev_nil, ev_cons, ev_tup, ev_lst, ev_call, ev_own, ev_sl, ev_no, ev_part, ev_and, ev_or, ev_not, ev_if, ev_t, ev_tb, ev_tnot, ev_tand, ev_tor, ev_mt, ev_mt0, ev_rgd, ev_set, ev_asg, ev_ret, ev_retN, ev_ex, ev_pass, ev_brk, ev_cont, ev_ifS, ev_aug, ev_gn, ev_gtp, ev_gnl, ev_gcs, ev_gsb, ev_for, ev_rg1, ev_rg2, ev_its, ev_enum, ev_lc, ev_yes, ev_add_ii, ev_add_ss, ev_add_tt, ev_add_rr, ev_sub, ev_mul, ev_mod, ev_fdiv, ev_pow, ev_neg, ev_lt, ev_le, ev_gt, ev_ge, ev_eq_ii, ev_eq_ss, ev_eq_bb, ev_ne_ii, ev_ne_ss, ev_ne_bb, ev_is_n, ev_isnt_n, ev_int_i, ev_int_b, ev_min_ii, ev_max_ii, ev_abs, ev_tup_of, ev_tup_ofL, ev_lst_ofT, ev_lst_ofL, ev_len_t, ev_len_s, ev_len_r, ev_tru_b, ev_alloc, ev_tupD, ev_lstD, isi_tuple_non, isi_tuple_bl, isi_tuple_int, isi_tuple_str, isi_tuple_tup, isi_tuple_l, isi_tuple_f, isi_list_non, isi_list_bl, isi_list_int, isi_list_str, isi_list_tup, isi_list_l, isi_list_f, isi_bool_non, isi_bool_bl, isi_bool_int, isi_bool_str, isi_bool_tup, isi_bool_l, isi_bool_f, isi_int_non, isi_int_bl, isi_int_int, isi_int_str, isi_int_tup, isi_int_l, isi_int_f, isi_str_non, isi_str_bl, isi_str_int, isi_str_str, isi_str_tup, isi_str_l, isi_str_f, isi_dict_non, isi_dict_bl, isi_dict_int, isi_dict_str, isi_dict_tup, isi_dict_l, isi_dict_f, Ab.isNon, args, List.map, List.length_cons, List.length_nil, List.length_singleton, List.replicate, Nat.reduceSub, Nat.reduceAdd, Nat.zero_add, List.cons_append, List.nil_append, List.getElem?_cons_zero, List.getElem?_cons_succ, List.set_cons_zero, List.set_cons_succ, Option.some.injEq, decide_eq_true_eq, Bool.not_eq_true', decide_eq_false_iff_not, ite_true, ite_false, if_true, if_false, reduceIte, Bool.false_eq_true, Bool.not_true, Bool.not_false, Bool.true_eq_false, decide_true, decide_false, Nat.reduceLeDiff, Nat.reduceLT, Int.zero_add]
    refine sat_seq ?_
    simp only [sat_ok, sat_bad, sat_bind, sat_ite, bind_ok, bind_bad, thn_nx, thn_rt, thn_bk, thn_ct, fin_rt, fin_nx, ev_v, ev_c, ev_op, ev_un, ev_nil, ev_cons, ev_tup, ev_lst, ev_call, ev_own, ev_sl, ev_no, ev_part, ev_and, ev_or, ev_not, ev_if, ev_t, ev_tb, ev_tnot, ev_tand, ev_tor, ev_mt, ev_mt0, ev_rgd, ev_set, ev_asg, ev_ret, ev_retN, ev_ex, ev_pass, ev_brk, ev_cont, ev_ifS, ev_aug, ev_gn, ev_gtp, ev_gnl, ev_gcs, ev_gsb, ev_for, ev_rg1, ev_rg2, ev_its, ev_enum, ev_lc, ev_yes, ev_add_ii, ev_add_ss, ev_add_tt, ev_add_rr, ev_sub, ev_mul, ev_mod, ev_fdiv, ev_pow, ev_neg, ev_lt, ev_le, ev_gt, ev_ge, ev_eq_ii, ev_eq_ss, ev_eq_bb, ev_ne_ii, ev_ne_ss, ev_ne_bb, ev_is_n, ev_isnt_n, ev_int_i, ev_int_b, ev_min_ii, ev_max_ii, ev_abs, ev_tup_of, ev_tup_ofL, ev_lst_ofT, ev_lst_ofL, ev_len_t, ev_len_s, ev_len_r, ev_tru_b, ev_alloc, ev_tupD, ev_lstD, isi_tuple_non, isi_tuple_bl, isi_tuple_int, isi_tuple_str, isi_tuple_tup, isi_tuple_l, isi_tuple_f, isi_list_non, isi_list_bl, isi_list_int, isi_list_str, isi_list_tup, isi_list_l, isi_list_f, isi_bool_non, isi_bool_bl, isi_bool_int, isi_bool_str, isi_bool_tup, isi_bool_l, isi_bool_f, isi_int_non, isi_int_bl, isi_int_int, isi_int_str, isi_int_tup, isi_int_l, isi_int_f, isi_str_non, isi_str_bl, isi_str_int, isi_str_str, isi_str_tup, isi_str_l, isi_str_f, isi_dict_non, isi_dict_bl, isi_dict_int, isi_dict_str, isi_dict_tup, isi_dict_l, isi_dict_f, Ab.isNon, args, List.map, List.length_cons, List.length_nil, List.length_singleton, List.replicate, Nat.reduceSub, Nat.reduceAdd, Nat.zero_add, List.cons_append, List.nil_append, List.getElem?_cons_zero, List.getElem?_cons_succ, List.set_cons_zero, List.set_cons_succ, Option.some.injEq, decide_eq_true_eq, Bool.not_eq_true', decide_eq_false_iff_not, ite_true, ite_false, if_true, if_false, reduceIte, Bool.false_eq_true, Bool.not_true, Bool.not_false, Bool.true_eq_false, decide_true, decide_false, Nat.reduceLeDiff, Nat.reduceLT, hB.ix hi]
    refine sat_seq ?_
    have e1 := hB.ix2 hi hk
    rw [if_neg (Nat.lt_irrefl i)] at e1
    simp only [sat_ok, sat_bad, sat_bind, sat_ite, bind_ok, bind_bad, thn_nx, thn_rt, thn_bk, thn_ct, fin_rt, fin_nx, ev_v, ev_c, ev_op, ev_un, ev_nil, ev_cons, ev_tup, ev_lst, ev_call, ev_own, ev_sl, ev_no, ev_part, ev_and, ev_or, ev_not, ev_if, ev_t, ev_tb, ev_tnot, ev_tand, ev_tor, ev_mt, ev_mt0, ev_rgd, ev_set, ev_asg, ev_ret, ev_retN, ev_ex, ev_pass, ev_brk, ev_cont, ev_ifS, ev_aug, ev_gn, ev_gtp, ev_gnl, ev_gcs, ev_gsb, ev_for, ev_rg1, ev_rg2, ev_its, ev_enum, ev_lc, ev_yes, ev_add_ii, ev_add_ss, ev_add_tt, ev_add_rr, ev_sub, ev_mul, ev_mod, ev_fdiv, ev_pow, ev_neg, ev_lt, ev_le, ev_gt, ev_ge, ev_eq_ii, ev_eq_ss, ev_eq_bb, ev_ne_ii, ev_ne_ss, ev_ne_bb, ev_is_n, ev_isnt_n, ev_int_i, ev_int_b, ev_min_ii, ev_max_ii, ev_abs, ev_tup_of, ev_tup_ofL, ev_lst_ofT, ev_lst_ofL, ev_len_t, ev_len_s, ev_len_r, ev_tru_b, ev_alloc, ev_tupD, ev_lstD, isi_tuple_non, isi_tuple_bl, isi_tuple_int, isi_tuple_str, isi_tuple_tup, isi_tuple_l, isi_tuple_f, isi_list_non, isi_list_bl, isi_list_int, isi_list_str, isi_list_tup, isi_list_l, isi_list_f, isi_bool_non, isi_bool_bl, isi_bool_int, isi_bool_str, isi_bool_tup, isi_bool_l, isi_bool_f, isi_int_non, isi_int_bl, isi_int_int, isi_int_str, isi_int_tup, isi_int_l, isi_int_f, isi_str_non, isi_str_bl, isi_str_int, isi_str_str, isi_str_tup, isi_str_l, isi_str_f, isi_dict_non, isi_dict_bl, isi_dict_int, isi_dict_str, isi_dict_tup, isi_dict_l, isi_dict_f, Ab.isNon, args, List.map, List.length_cons, List.length_nil, List.length_singleton, List.replicate, Nat.reduceSub, Nat.reduceAdd, Nat.zero_add, List.cons_append, List.nil_append, List.getElem?_cons_zero, List.getElem?_cons_succ, List.set_cons_zero, List.set_cons_succ, Option.some.injEq, decide_eq_true_eq, Bool.not_eq_true', decide_eq_false_iff_not, ite_true, ite_false, if_true, if_false, reduceIte, Bool.false_eq_true, Bool.not_true, Bool.not_false, Bool.true_eq_false, decide_true, decide_false, Nat.reduceLeDiff, Nat.reduceLT, e1]
    rw [if_pos (inRg_of (by omega) (by omega)), Int.toNat_natCast]
    refine range_inv (fun j σ C => Mt A0 C r c m (part k i j R) ∧ C[q]? = some (.lst ((List.range m).map fun j => .int (R k j))) ∧ ∃ w, σ = [some (.ref r), some (.int (k : Nat)), some (.int (m : Nat)), some (.ref q), some (.int (i : Nat)), some (.ref (c i)), some (.int (R i k)), w])
      (fun j σ C hj ⟨hC, hq, w, hσ⟩ => ?_) (fun σ C ⟨hC, hq, w, hσ⟩ => ?_) ⟨hB.ext fun a b _ _ => by unfold part; simp, hq, w, rfl⟩
    · subst hσ
      have e2 := hC.ix2 hi hj
      rw [show part k i j R i j = R i j from if_neg (by omega)] at e2
      have e3 := ix_rowL hq hj
      simp only [sat_ok, sat_bad, sat_bind, sat_ite, bind_ok, bind_bad, thn_nx, thn_rt, thn_bk, thn_ct, fin_rt, fin_nx, ev_v, ev_c, ev_op, ev_un, ev_nil, ev_cons, ev_tup, ev_lst, ev_call, ev_own, ev_sl, ev_no, ev_part, ev_and, ev_or, ev_not, ev_if, ev_t, ev_tb, ev_tnot, ev_tand, ev_tor, ev_mt, ev_mt0, ev_rgd, ev_set, ev_asg, ev_ret, ev_retN, ev_ex, ev_pass, ev_brk, ev_cont, ev_ifS, ev_aug, ev_gn, ev_gtp, ev_gnl, ev_gcs, ev_gsb, ev_for, ev_rg1, ev_rg2, ev_its, ev_enum, ev_lc, ev_yes, ev_add_ii, ev_add_ss, ev_add_tt, ev_add_rr, ev_sub, ev_mul, ev_mod, ev_fdiv, ev_pow, ev_neg, ev_lt, ev_le, ev_gt, ev_ge, ev_eq_ii, ev_eq_ss, ev_eq_bb, ev_ne_ii, ev_ne_ss, ev_ne_bb, ev_is_n, ev_isnt_n, ev_int_i, ev_int_b, ev_min_ii, ev_max_ii, ev_abs, ev_tup_of, ev_tup_ofL, ev_lst_ofT, ev_lst_ofL, ev_len_t, ev_len_s, ev_len_r, ev_tru_b, ev_alloc, ev_tupD, ev_lstD, isi_tuple_non, isi_tuple_bl, isi_tuple_int, isi_tuple_str, isi_tuple_tup, isi_tuple_l, isi_tuple_f, isi_list_non, isi_list_bl, isi_list_int, isi_list_str, isi_list_tup, isi_list_l, isi_list_f, isi_bool_non, isi_bool_bl, isi_bool_int, isi_bool_str, isi_bool_tup, isi_bool_l, isi_bool_f, isi_int_non, isi_int_bl, isi_int_int, isi_int_str, isi_int_tup, isi_int_l, isi_int_f, isi_str_non, isi_str_bl, isi_str_int, isi_str_str, isi_str_tup, isi_str_l, isi_str_f, isi_dict_non, isi_dict_bl, isi_dict_int, isi_dict_str, isi_dict_tup, isi_dict_l, isi_dict_f, Ab.isNon, args, List.map, List.length_cons, List.length_nil, List.length_singleton, List.replicate, Nat.reduceSub, Nat.reduceAdd, Nat.zero_add, List.cons_append, List.nil_append, List.getElem?_cons_zero, List.getElem?_cons_succ, List.set_cons_zero, List.set_cons_succ, Option.some.injEq, decide_eq_true_eq, Bool.not_eq_true', decide_eq_false_iff_not, ite_true, ite_false, if_true, if_false, reduceIte, Bool.false_eq_true, Bool.not_true, Bool.not_false, Bool.true_eq_false, decide_true, decide_false, Nat.reduceLeDiff, Nat.reduceLT, Int.zero_add, e2, e3]
      split
      · rename_i lt
        rw [hC.st hi hj]
        simp only [sat_ok, sat_bad, sat_bind, sat_ite, bind_ok, bind_bad, thn_nx, thn_rt, thn_bk, thn_ct, fin_rt, fin_nx, ev_v, ev_c, ev_op, ev_un, ev_nil, ev_cons, ev_tup, ev_lst, ev_call, ev_own, ev_sl, ev_no, ev_part, ev_and, ev_or, ev_not, ev_if, ev_t, ev_tb, ev_tnot, ev_tand, ev_tor, ev_mt, ev_mt0, ev_rgd, ev_set, ev_asg, ev_ret, ev_retN, ev_ex, ev_pass, ev_brk, ev_cont, ev_ifS, ev_aug, ev_gn, ev_gtp, ev_gnl, ev_gcs, ev_gsb, ev_for, ev_rg1, ev_rg2, ev_its, ev_enum, ev_lc, ev_yes, ev_add_ii, ev_add_ss, ev_add_tt, ev_add_rr, ev_sub, ev_mul, ev_mod, ev_fdiv, ev_pow, ev_neg, ev_lt, ev_le, ev_gt, ev_ge, ev_eq_ii, ev_eq_ss, ev_eq_bb, ev_ne_ii, ev_ne_ss, ev_ne_bb, ev_is_n, ev_isnt_n, ev_int_i, ev_int_b, ev_min_ii, ev_max_ii, ev_abs, ev_tup_of, ev_tup_ofL, ev_lst_ofT, ev_lst_ofL, ev_len_t, ev_len_s, ev_len_r, ev_tru_b, ev_alloc, ev_tupD, ev_lstD, isi_tuple_non, isi_tuple_bl, isi_tuple_int, isi_tuple_str, isi_tuple_tup, isi_tuple_l, isi_tuple_f, isi_list_non, isi_list_bl, isi_list_int, isi_list_str, isi_list_tup, isi_list_l, isi_list_f, isi_bool_non, isi_bool_bl, isi_bool_int, isi_bool_str, isi_bool_tup, isi_bool_l, isi_bool_f, isi_int_non, isi_int_bl, isi_int_int, isi_int_str, isi_int_tup, isi_int_l, isi_int_f, isi_str_non, isi_str_bl, isi_str_int, isi_str_str, isi_str_tup, isi_str_l, isi_str_f, isi_dict_non, isi_dict_bl, isi_dict_int, isi_dict_str, isi_dict_tup, isi_dict_l, isi_dict_f, Ab.isNon, args, List.map, List.length_cons, List.length_nil, List.length_singleton, List.replicate, Nat.reduceSub, Nat.reduceAdd, Nat.zero_add, List.cons_append, List.nil_append, List.getElem?_cons_zero, List.getElem?_cons_succ, List.set_cons_zero, List.set_cons_succ, Option.some.injEq, decide_eq_true_eq, Bool.not_eq_true', decide_eq_false_iff_not, ite_true, ite_false, if_true, if_false, reduceIte, Bool.false_eq_true, Bool.not_true, Bool.not_false, Bool.true_eq_false, decide_true, decide_false, Nat.reduceLeDiff, Nat.reduceLT, turn_]
        refine ⟨hC.set hi |>.ext fun a b ha hb => ?_, ?_, _, rfl⟩
        · unfold part
          by_cases e : a = i ∧ b = j
          · obtain ⟨rfl, rfl⟩ := e
            rw [if_pos ⟨rfl, rfl⟩, if_pos (.inr ⟨rfl, Nat.lt_succ_self _⟩)]
            unfold via
            rw [if_pos lt]
          · rw [if_neg e]
            by_cases e2 : a < i ∨ (a = i ∧ b < j)
            · rw [if_pos e2, if_pos (by omega)]
            · rw [if_neg e2, if_neg (by omega)]
        · rw [List.getElem?_set_ne (nb i hi)]; exact hq
      · rename_i lt
        simp only [sat_ok, sat_bad, sat_bind, sat_ite, bind_ok, bind_bad, thn_nx, thn_rt, thn_bk, thn_ct, fin_rt, fin_nx, ev_v, ev_c, ev_op, ev_un, ev_nil, ev_cons, ev_tup, ev_lst, ev_call, ev_own, ev_sl, ev_no, ev_part, ev_and, ev_or, ev_not, ev_if, ev_t, ev_tb, ev_tnot, ev_tand, ev_tor, ev_mt, ev_mt0, ev_rgd, ev_set, ev_asg, ev_ret, ev_retN, ev_ex, ev_pass, ev_brk, ev_cont, ev_ifS, ev_aug, ev_gn, ev_gtp, ev_gnl, ev_gcs, ev_gsb, ev_for, ev_rg1, ev_rg2, ev_its, ev_enum, ev_lc, ev_yes, ev_add_ii, ev_add_ss, ev_add_tt, ev_add_rr, ev_sub, ev_mul, ev_mod, ev_fdiv, ev_pow, ev_neg, ev_lt, ev_le, ev_gt, ev_ge, ev_eq_ii, ev_eq_ss, ev_eq_bb, ev_ne_ii, ev_ne_ss, ev_ne_bb, ev_is_n, ev_isnt_n, ev_int_i, ev_int_b, ev_min_ii, ev_max_ii, ev_abs, ev_tup_of, ev_tup_ofL, ev_lst_ofT, ev_lst_ofL, ev_len_t, ev_len_s, ev_len_r, ev_tru_b, ev_alloc, ev_tupD, ev_lstD, isi_tuple_non, isi_tuple_bl, isi_tuple_int, isi_tuple_str, isi_tuple_tup, isi_tuple_l, isi_tuple_f, isi_list_non, isi_list_bl, isi_list_int, isi_list_str, isi_list_tup, isi_list_l, isi_list_f, isi_bool_non, isi_bool_bl, isi_bool_int, isi_bool_str, isi_bool_tup, isi_bool_l, isi_bool_f, isi_int_non, isi_int_bl, isi_int_int, isi_int_str, isi_int_tup, isi_int_l, isi_int_f, isi_str_non, isi_str_bl, isi_str_int, isi_str_str, isi_str_tup, isi_str_l, isi_str_f, isi_dict_non, isi_dict_bl, isi_dict_int, isi_dict_str, isi_dict_tup, isi_dict_l, isi_dict_f, Ab.isNon, args, List.map, List.length_cons, List.length_nil, List.length_singleton, List.replicate, Nat.reduceSub, Nat.reduceAdd, Nat.zero_add, List.cons_append, List.nil_append, List.getElem?_cons_zero, List.getElem?_cons_succ, List.set_cons_zero, List.set_cons_succ, Option.some.injEq, decide_eq_true_eq, Bool.not_eq_true', decide_eq_false_iff_not, ite_true, ite_false, if_true, if_false, reduceIte, Bool.false_eq_true, Bool.not_true, Bool.not_false, Bool.true_eq_false, decide_true, decide_false, Nat.reduceLeDiff, Nat.reduceLT, turn_]
        refine ⟨hC.ext fun a b ha hb => ?_, hq, _, rfl⟩
        unfold part
        by_cases e : a = i ∧ b = j
        · obtain ⟨rfl, rfl⟩ := e
          rw [if_neg (by omega), if_pos (.inr ⟨rfl, Nat.lt_succ_self _⟩)]
          unfold via
          rw [if_neg lt]
        · by_cases e2 : a < i ∨ (a = i ∧ b < j)
          · rw [if_pos e2, if_pos (by omega)]
          · rw [if_neg e2, if_neg (by omega)]
    · subst hσ
      simp only [sat_ok, sat_bad, sat_bind, sat_ite, bind_ok, bind_bad, thn_nx, thn_rt, thn_bk, thn_ct, fin_rt, fin_nx, ev_v, ev_c, ev_op, ev_un, ev_nil, ev_cons, ev_tup, ev_lst, ev_call, ev_own, ev_sl, ev_no, ev_part, ev_and, ev_or, ev_not, ev_if, ev_t, ev_tb, ev_tnot, ev_tand, ev_tor, ev_mt, ev_mt0, ev_rgd, ev_set, ev_asg, ev_ret, ev_retN, ev_ex, ev_pass, ev_brk, ev_cont, ev_ifS, ev_aug, ev_gn, ev_gtp, ev_gnl, ev_gcs, ev_gsb, ev_for, ev_rg1, ev_rg2, ev_its, ev_enum, ev_lc, ev_yes, ev_add_ii, ev_add_ss, ev_add_tt, ev_add_rr, ev_sub, ev_mul, ev_mod, ev_fdiv, ev_pow, ev_neg, ev_lt, ev_le, ev_gt, ev_ge, ev_eq_ii, ev_eq_ss, ev_eq_bb, ev_ne_ii, ev_ne_ss, ev_ne_bb, ev_is_n, ev_isnt_n, ev_int_i, ev_int_b, ev_min_ii, ev_max_ii, ev_abs, ev_tup_of, ev_tup_ofL, ev_lst_ofT, ev_lst_ofL, ev_len_t, ev_len_s, ev_len_r, ev_tru_b, ev_alloc, ev_tupD, ev_lstD, isi_tuple_non, isi_tuple_bl, isi_tuple_int, isi_tuple_str, isi_tuple_tup, isi_tuple_l, isi_tuple_f, isi_list_non, isi_list_bl, isi_list_int, isi_list_str, isi_list_tup, isi_list_l, isi_list_f, isi_bool_non, isi_bool_bl, isi_bool_int, isi_bool_str, isi_bool_tup, isi_bool_l, isi_bool_f, isi_int_non, isi_int_bl, isi_int_int, isi_int_str, isi_int_tup, isi_int_l, isi_int_f, isi_str_non, isi_str_bl, isi_str_int, isi_str_str, isi_str_tup, isi_str_l, isi_str_f, isi_dict_non, isi_dict_bl, isi_dict_int, isi_dict_str, isi_dict_tup, isi_dict_l, isi_dict_f, Ab.isNon, args, List.map, List.length_cons, List.length_nil, List.length_singleton, List.replicate, Nat.reduceSub, Nat.reduceAdd, Nat.zero_add, List.cons_append, List.nil_append, List.getElem?_cons_zero, List.getElem?_cons_succ, List.set_cons_zero, List.set_cons_succ, Option.some.injEq, decide_eq_true_eq, Bool.not_eq_true', decide_eq_false_iff_not, ite_true, ite_false, if_true, if_false, reduceIte, Bool.false_eq_true, Bool.not_true, Bool.not_false, Bool.true_eq_false, decide_true, decide_false, Nat.reduceLeDiff, Nat.reduceLT, turn_]
      refine ⟨hC.ext fun a b ha hb => ?_, hq, _, _, _, .inr ⟨_, rfl⟩⟩
      unfold part
      by_cases e : a < i + 1
      · rw [if_pos e, if_pos (by omega)]
      · rw [if_neg e, if_neg (by omega)]
  · have f : Mt A0 B r c m (via k R) := hB.ext fun a b ha hb => if_pos ha
    rcases hσ with h | ⟨w, h⟩
    · subst h; exact f
    · subst h; exact f
end
/-! ### the whole of close -/
def outD (m : Nat) : Option Mx → D
  | none => .non
  | some R => matD m R
theorem mat_congr {m : Nat} {R S : Mx} (e : ∀ i j, i < m → j < m → R i j = S i j) : matD m R = matD m S := by
  unfold matD rowD
  congr 1
  refine List.map_congr_left fun i hi => ?_
  congr 1
  exact List.map_congr_left fun j hj => by rw [e i j (List.mem_range.mp hi) (List.mem_range.mp hj)]
theorem closes_same {m : Nat} {M : Mx} {o o' : Option Mx} (h0 : 0 < m) (h : Closes m M o) (h' : Closes m M o') : outD m o = outD m o' := by
  cases o with
  | none =>
    cases o' with
    | none => rfl
    | some R => exact (ClOf.no h' h0 h).elim
  | some R =>
    cases o' with
    | none => exact (ClOf.no h h0 h').elim
    | some S => exact mat_congr fun i j hi hj => ClOf.same h h' hi hj
theorem pl_out {m : Nat} {o : Option Mx} (h : m ≤ 1000) : Pl 19 (outD m o) := by
  cases o with
  | none => trivial
  | some R => exact pl_mat h
theorem close_spec {A : AH} {m : Nat} {M : Mx} (hm : m ≤ 100) (h0 : 0 < m) : Sat (m_close [matD m M] A) fun d A' => Gr A A' ∧ ∃ o, d = outD m o ∧ Closes m M o := by
  refine sat_body rfl (sat_seq ?_)
  simp only [sat_ok, sat_bad, sat_bind, sat_ite, bind_ok, bind_bad, thn_nx, thn_rt, thn_bk, thn_ct, fin_rt, fin_nx, ev_v, ev_c, ev_op, ev_un, ev_nil, ev_cons, ev_tup, ev_lst, ev_call, ev_own, ev_sl, ev_no, ev_part, ev_and, ev_or, ev_not, ev_if, ev_t, ev_tb, ev_tnot, ev_tand, ev_tor, ev_mt, ev_mt0, ev_rgd, ev_set, ev_asg, ev_ret, ev_retN, ev_ex, ev_pass, ev_brk, ev_cont, ev_ifS, ev_aug, ev_gn, ev_gtp, ev_gnl, ev_gcs, ev_gsb, ev_for, ev_rg1, ev_rg2, ev_its, ev_enum, ev_lc, ev_yes, ev_add_ii, ev_add_ss, ev_add_tt, ev_add_rr, ev_sub, ev_mul, ev_mod, ev_fdiv, ev_pow, ev_neg, ev_lt, ev_le, ev_gt, ev_ge, ev_eq_ii, ev_eq_ss, ev_eq_bb, ev_ne_ii, ev_ne_ss, ev_ne_bb, ev_is_n, ev_isnt_n, ev_int_i, ev_int_b, ev_min_ii, ev_max_ii, ev_abs, ev_tup_of, ev_tup_ofL, ev_lst_ofT, ev_lst_ofL, ev_len_t, ev_len_s, ev_len_r, ev_tru_b, ev_alloc, ev_tupD, ev_lstD, isi_tuple_non, isi_tuple_bl, isi_tuple_int, isi_tuple_str, isi_tuple_tup, isi_tuple_l, isi_tuple_f, isi_list_non, isi_list_bl, isi_list_int, isi_list_str, isi_list_tup, isi_list_l, isi_list_f, isi_bool_non, isi_bool_bl, isi_bool_int, isi_bool_str, isi_bool_tup, isi_bool_l, isi_bool_f, isi_int_non, isi_int_bl, isi_int_int, isi_int_str, isi_int_tup, isi_int_l, isi_int_f, isi_str_non, isi_str_bl, isi_str_int, isi_str_str, isi_str_tup, isi_str_l, isi_str_f, isi_dict_non, isi_dict_bl, isi_dict_int, isi_dict_str, isi_dict_tup, isi_dict_l, isi_dict_f, Ab.isNon, args, List.map, List.length_cons, List.length_nil, List.length_singleton, List.replicate, Nat.reduceSub, Nat.reduceAdd, Nat.zero_add, List.cons_append, List.nil_append, List.getElem?_cons_zero, List.getElem?_cons_succ, List.set_cons_zero, List.set_cons_succ, Option.some.injEq, decide_eq_true_eq, Bool.not_eq_true', decide_eq_false_iff_not, ite_true, ite_false, if_true, if_false, reduceIte, Bool.false_eq_true, Bool.not_true, Bool.not_false, Bool.true_eq_false, decide_true, decide_false, Nat.reduceLeDiff, Nat.reduceLT, wipeA]
  have its : iSeq (matD m M) A = .ok ⟨(List.range m).map fun i => rowD m (M i), yes⟩ A := rfl
  rw [its, sat_ok]
  refine comp_cnt (fun k acc B => Gr A B ∧ acc = (List.range k).map (fun i => D.ref (A.length + 1 + i)) ∧ B[A.length]? = some (.lst acc) ∧ B.length = A.length + 1 + k ∧ ∀ i, i < k → B[A.length + 1 + i]? = some (.lst ((List.range m).map fun j => .int (M i j))))
    (fun k acc B hk ⟨G, ha, hB, lB, hR⟩ => ⟨trivial, ?_⟩) (fun acc B ⟨G, ha, hB, lB, hR⟩ => ⟨trivial, ?_⟩) (acc := []) ⟨.app, rfl, at_new, by simp, fun _ h => absurd h (Nat.not_lt_zero _)⟩
  · have lst : ∀ A, lstOf [rowD m (M k)] A = .ok (.ref A.length) (A ++ [.lst ((List.range m).map fun j => .int (M k j))]) := fun A => ev_lst_ofT
    simp only [sat_ok, sat_bad, sat_bind, sat_ite, bind_ok, bind_bad, thn_nx, thn_rt, thn_bk, thn_ct, fin_rt, fin_nx, ev_v, ev_c, ev_op, ev_un, ev_nil, ev_cons, ev_tup, ev_lst, ev_call, ev_own, ev_sl, ev_no, ev_part, ev_and, ev_or, ev_not, ev_if, ev_t, ev_tb, ev_tnot, ev_tand, ev_tor, ev_mt, ev_mt0, ev_rgd, ev_set, ev_asg, ev_ret, ev_retN, ev_ex, ev_pass, ev_brk, ev_cont, ev_ifS, ev_aug, ev_gn, ev_gtp, ev_gnl, ev_gcs, ev_gsb, ev_for, ev_rg1, ev_rg2, ev_its, ev_enum, ev_lc, ev_yes, ev_add_ii, ev_add_ss, ev_add_tt, ev_add_rr, ev_sub, ev_mul, ev_mod, ev_fdiv, ev_pow, ev_neg, ev_lt, ev_le, ev_gt, ev_ge, ev_eq_ii, ev_eq_ss, ev_eq_bb, ev_ne_ii, ev_ne_ss, ev_ne_bb, ev_is_n, ev_isnt_n, ev_int_i, ev_int_b, ev_min_ii, ev_max_ii, ev_abs, ev_tup_of, ev_tup_ofL, ev_lst_ofT, ev_lst_ofL, ev_len_t, ev_len_s, ev_len_r, ev_tru_b, ev_alloc, ev_tupD, ev_lstD, isi_tuple_non, isi_tuple_bl, isi_tuple_int, isi_tuple_str, isi_tuple_tup, isi_tuple_l, isi_tuple_f, isi_list_non, isi_list_bl, isi_list_int, isi_list_str, isi_list_tup, isi_list_l, isi_list_f, isi_bool_non, isi_bool_bl, isi_bool_int, isi_bool_str, isi_bool_tup, isi_bool_l, isi_bool_f, isi_int_non, isi_int_bl, isi_int_int, isi_int_str, isi_int_tup, isi_int_l, isi_int_f, isi_str_non, isi_str_bl, isi_str_int, isi_str_str, isi_str_tup, isi_str_l, isi_str_f, isi_dict_non, isi_dict_bl, isi_dict_int, isi_dict_str, isi_dict_tup, isi_dict_l, isi_dict_f, Ab.isNon, args, List.map, List.length_cons, List.length_nil, List.length_singleton, List.replicate, Nat.reduceSub, Nat.reduceAdd, Nat.zero_add, List.cons_append, List.nil_append, List.getElem?_cons_zero, List.getElem?_cons_succ, List.set_cons_zero, List.set_cons_succ, Option.some.injEq, decide_eq_true_eq, Bool.not_eq_true', decide_eq_false_iff_not, ite_true, ite_false, if_true, if_false, reduceIte, Bool.false_eq_true, Bool.not_true, Bool.not_false, Bool.true_eq_false, decide_true, decide_false, Nat.reduceLeDiff, Nat.reduceLT, lst]
    have hB2 := (Gr.app (B := [.lst ((List.range m).map fun j => .int (M k j))])).keep _ _ hB
    refine ⟨hB2, by rw [ha]; simp; omega, (G.trans .app).set (Nat.le_refl _), ?_, at_set (at_lt hB2), by simp [lB]; omega, fun i hi => ?_⟩
    · rw [ha, List.range_succ (n := k), List.map_append, lB]; rfl
    · rw [List.getElem?_set_ne (by omega)]
      by_cases e : i = k
      · subst e
        rw [← lB]; exact at_new
      · exact Gr.app.keep _ _ (hR i (by omega))
  have T : Mt A B A.length (fun i => A.length + 1 + i) m M := ⟨G, by rw [hB, ha], hR, fun i j _ _ e => by have e : A.length + 1 + i = A.length + 1 + j := e; omega, fun i _ => by show A.length + 1 + i ≠ A.length; omega, fun i _ => by show A.length ≤ A.length + 1 + i; omega⟩
  clear ha hB lB hR G its
  generalize A.length = r at T ⊢
  generalize (fun i => r + 1 + i) = c at T
  refine sat_seq ?_
  simp only [sat_ok, sat_bad, sat_bind, sat_ite, bind_ok, bind_bad, thn_nx, thn_rt, thn_bk, thn_ct, fin_rt, fin_nx, ev_v, ev_c, ev_op, ev_un, ev_nil, ev_cons, ev_tup, ev_lst, ev_call, ev_own, ev_sl, ev_no, ev_part, ev_and, ev_or, ev_not, ev_if, ev_t, ev_tb, ev_tnot, ev_tand, ev_tor, ev_mt, ev_mt0, ev_rgd, ev_set, ev_asg, ev_ret, ev_retN, ev_ex, ev_pass, ev_brk, ev_cont, ev_ifS, ev_aug, ev_gn, ev_gtp, ev_gnl, ev_gcs, ev_gsb, ev_for, ev_rg1, ev_rg2, ev_its, ev_enum, ev_lc, ev_yes, ev_add_ii, ev_add_ss, ev_add_tt, ev_add_rr, ev_sub, ev_mul, ev_mod, ev_fdiv, ev_pow, ev_neg, ev_lt, ev_le, ev_gt, ev_ge, ev_eq_ii, ev_eq_ss, ev_eq_bb, ev_ne_ii, ev_ne_ss, ev_ne_bb, ev_is_n, ev_isnt_n, ev_int_i, ev_int_b, ev_min_ii, ev_max_ii, ev_abs, ev_tup_of, ev_tup_ofL, ev_lst_ofT, ev_lst_ofL, ev_len_t, ev_len_s, ev_len_r, ev_tru_b, ev_alloc, ev_tupD, ev_lstD, isi_tuple_non, isi_tuple_bl, isi_tuple_int, isi_tuple_str, isi_tuple_tup, isi_tuple_l, isi_tuple_f, isi_list_non, isi_list_bl, isi_list_int, isi_list_str, isi_list_tup, isi_list_l, isi_list_f, isi_bool_non, isi_bool_bl, isi_bool_int, isi_bool_str, isi_bool_tup, isi_bool_l, isi_bool_f, isi_int_non, isi_int_bl, isi_int_int, isi_int_str, isi_int_tup, isi_int_l, isi_int_f, isi_str_non, isi_str_bl, isi_str_int, isi_str_str, isi_str_tup, isi_str_l, isi_str_f, isi_dict_non, isi_dict_bl, isi_dict_int, isi_dict_str, isi_dict_tup, isi_dict_l, isi_dict_f, Ab.isNon, args, List.map, List.length_cons, List.length_nil, List.length_singleton, List.replicate, Nat.reduceSub, Nat.reduceAdd, Nat.zero_add, List.cons_append, List.nil_append, List.getElem?_cons_zero, List.getElem?_cons_succ, List.set_cons_zero, List.set_cons_succ, Option.some.injEq, decide_eq_true_eq, Bool.not_eq_true', decide_eq_false_iff_not, ite_true, ite_false, if_true, if_false, reduceIte, Bool.false_eq_true, Bool.not_true, Bool.not_false, Bool.true_eq_false, decide_true, decide_false, Nat.reduceLeDiff, Nat.reduceLT, T.len]
  refine sat_seq ?_
  have n1 := neg_spec T hm (b := decide (∃ i, i < m ∧ M i i < 0)) (by simp)
  simp only [sat_ok, sat_bad, sat_bind, sat_ite, bind_ok, bind_bad, thn_nx, thn_rt, thn_bk, thn_ct, fin_rt, fin_nx, ev_v, ev_c, ev_op, ev_un, ev_nil, ev_cons, ev_tup, ev_lst, ev_call, ev_own, ev_sl, ev_no, ev_part, ev_and, ev_or, ev_not, ev_if, ev_t, ev_tb, ev_tnot, ev_tand, ev_tor, ev_mt, ev_mt0, ev_rgd, ev_set, ev_asg, ev_ret, ev_retN, ev_ex, ev_pass, ev_brk, ev_cont, ev_ifS, ev_aug, ev_gn, ev_gtp, ev_gnl, ev_gcs, ev_gsb, ev_for, ev_rg1, ev_rg2, ev_its, ev_enum, ev_lc, ev_yes, ev_add_ii, ev_add_ss, ev_add_tt, ev_add_rr, ev_sub, ev_mul, ev_mod, ev_fdiv, ev_pow, ev_neg, ev_lt, ev_le, ev_gt, ev_ge, ev_eq_ii, ev_eq_ss, ev_eq_bb, ev_ne_ii, ev_ne_ss, ev_ne_bb, ev_is_n, ev_isnt_n, ev_int_i, ev_int_b, ev_min_ii, ev_max_ii, ev_abs, ev_tup_of, ev_tup_ofL, ev_lst_ofT, ev_lst_ofL, ev_len_t, ev_len_s, ev_len_r, ev_tru_b, ev_alloc, ev_tupD, ev_lstD, isi_tuple_non, isi_tuple_bl, isi_tuple_int, isi_tuple_str, isi_tuple_tup, isi_tuple_l, isi_tuple_f, isi_list_non, isi_list_bl, isi_list_int, isi_list_str, isi_list_tup, isi_list_l, isi_list_f, isi_bool_non, isi_bool_bl, isi_bool_int, isi_bool_str, isi_bool_tup, isi_bool_l, isi_bool_f, isi_int_non, isi_int_bl, isi_int_int, isi_int_str, isi_int_tup, isi_int_l, isi_int_f, isi_str_non, isi_str_bl, isi_str_int, isi_str_str, isi_str_tup, isi_str_l, isi_str_f, isi_dict_non, isi_dict_bl, isi_dict_int, isi_dict_str, isi_dict_tup, isi_dict_l, isi_dict_f, Ab.isNon, args, List.map, List.length_cons, List.length_nil, List.length_singleton, List.replicate, Nat.reduceSub, Nat.reduceAdd, Nat.zero_add, List.cons_append, List.nil_append, List.getElem?_cons_zero, List.getElem?_cons_succ, List.set_cons_zero, List.set_cons_succ, Option.some.injEq, decide_eq_true_eq, Bool.not_eq_true', decide_eq_false_iff_not, ite_true, ite_false, if_true, if_false, reduceIte, Bool.false_eq_true, Bool.not_true, Bool.not_false, Bool.true_eq_false, decide_true, decide_false, Nat.reduceLeDiff, Nat.reduceLT, n1]
  split
  · rename_i hn
    exact ⟨T.gr, none, rfl, .inl hn⟩
  rename_i hn
  have pos : ∀ i, i < m → 0 ≤ M i i := fun i hi => by
    by_cases e : 0 ≤ M i i
    · exact e
    · exact (hn ⟨i, hi, by omega⟩).elim
  refine sat_seq ?_
  simp only [sat_ok, sat_bad, sat_bind, sat_ite, bind_ok, bind_bad, thn_nx, thn_rt, thn_bk, thn_ct, fin_rt, fin_nx, ev_v, ev_c, ev_op, ev_un, ev_nil, ev_cons, ev_tup, ev_lst, ev_call, ev_own, ev_sl, ev_no, ev_part, ev_and, ev_or, ev_not, ev_if, ev_t, ev_tb, ev_tnot, ev_tand, ev_tor, ev_mt, ev_mt0, ev_rgd, ev_set, ev_asg, ev_ret, ev_retN, ev_ex, ev_pass, ev_brk, ev_cont, ev_ifS, ev_aug, ev_gn, ev_gtp, ev_gnl, ev_gcs, ev_gsb, ev_for, ev_rg1, ev_rg2, ev_its, ev_enum, ev_lc, ev_yes, ev_add_ii, ev_add_ss, ev_add_tt, ev_add_rr, ev_sub, ev_mul, ev_mod, ev_fdiv, ev_pow, ev_neg, ev_lt, ev_le, ev_gt, ev_ge, ev_eq_ii, ev_eq_ss, ev_eq_bb, ev_ne_ii, ev_ne_ss, ev_ne_bb, ev_is_n, ev_isnt_n, ev_int_i, ev_int_b, ev_min_ii, ev_max_ii, ev_abs, ev_tup_of, ev_tup_ofL, ev_lst_ofT, ev_lst_ofL, ev_len_t, ev_len_s, ev_len_r, ev_tru_b, ev_alloc, ev_tupD, ev_lstD, isi_tuple_non, isi_tuple_bl, isi_tuple_int, isi_tuple_str, isi_tuple_tup, isi_tuple_l, isi_tuple_f, isi_list_non, isi_list_bl, isi_list_int, isi_list_str, isi_list_tup, isi_list_l, isi_list_f, isi_bool_non, isi_bool_bl, isi_bool_int, isi_bool_str, isi_bool_tup, isi_bool_l, isi_bool_f, isi_int_non, isi_int_bl, isi_int_int, isi_int_str, isi_int_tup, isi_int_l, isi_int_f, isi_str_non, isi_str_bl, isi_str_int, isi_str_str, isi_str_tup, isi_str_l, isi_str_f, isi_dict_non, isi_dict_bl, isi_dict_int, isi_dict_str, isi_dict_tup, isi_dict_l, isi_dict_f, Ab.isNon, args, List.map, List.length_cons, List.length_nil, List.length_singleton, List.replicate, Nat.reduceSub, Nat.reduceAdd, Nat.zero_add, List.cons_append, List.nil_append, List.getElem?_cons_zero, List.getElem?_cons_succ, List.set_cons_zero, List.set_cons_succ, Option.some.injEq, decide_eq_true_eq, Bool.not_eq_true', decide_eq_false_iff_not, ite_true, ite_false, if_true, if_false, reduceIte, Bool.false_eq_true, Bool.not_true, Bool.not_false, Bool.true_eq_false, decide_true, decide_false, Nat.reduceLeDiff, Nat.reduceLT]
  rw [if_pos (inRg_of (by omega) (by omega)), Int.toNat_natCast]
  refine range_inv (fun k σ C => Mt A C r c m (fun i j => if i = j ∧ i < k then 0 else M i j) ∧ ∃ x y, σ = [some (matD m M), some (.ref r), x, some (.int (m : Nat)), y, none])
    (fun k σ C hk ⟨hC, x, y, hσ⟩ => ?_) (fun σ C ⟨hC, x, y, hσ⟩ => ?_) ⟨T.ext fun i j _ _ => by simp, _, none, rfl⟩
  · subst hσ
    simp only [sat_ok, sat_bad, sat_bind, sat_ite, bind_ok, bind_bad, thn_nx, thn_rt, thn_bk, thn_ct, fin_rt, fin_nx, ev_v, ev_c, ev_op, ev_un, ev_nil, ev_cons, ev_tup, ev_lst, ev_call, ev_own, ev_sl, ev_no, ev_part, ev_and, ev_or, ev_not, ev_if, ev_t, ev_tb, ev_tnot, ev_tand, ev_tor, ev_mt, ev_mt0, ev_rgd, ev_set, ev_asg, ev_ret, ev_retN, ev_ex, ev_pass, ev_brk, ev_cont, ev_ifS, ev_aug, ev_gn, ev_gtp, ev_gnl, ev_gcs, ev_gsb, ev_for, ev_rg1, ev_rg2, ev_its, ev_enum, ev_lc, ev_yes, ev_add_ii, ev_add_ss, ev_add_tt, ev_add_rr, ev_sub, ev_mul, ev_mod, ev_fdiv, ev_pow, ev_neg, ev_lt, ev_le, ev_gt, ev_ge, ev_eq_ii, ev_eq_ss, ev_eq_bb, ev_ne_ii, ev_ne_ss, ev_ne_bb, ev_is_n, ev_isnt_n, ev_int_i, ev_int_b, ev_min_ii, ev_max_ii, ev_abs, ev_tup_of, ev_tup_ofL, ev_lst_ofT, ev_lst_ofL, ev_len_t, ev_len_s, ev_len_r, ev_tru_b, ev_alloc, ev_tupD, ev_lstD, isi_tuple_non, isi_tuple_bl, isi_tuple_int, isi_tuple_str, isi_tuple_tup, isi_tuple_l, isi_tuple_f, isi_list_non, isi_list_bl, isi_list_int, isi_list_str, isi_list_tup, isi_list_l, isi_list_f, isi_bool_non, isi_bool_bl, isi_bool_int, isi_bool_str, isi_bool_tup, isi_bool_l, isi_bool_f, isi_int_non, isi_int_bl, isi_int_int, isi_int_str, isi_int_tup, isi_int_l, isi_int_f, isi_str_non, isi_str_bl, isi_str_int, isi_str_str, isi_str_tup, isi_str_l, isi_str_f, isi_dict_non, isi_dict_bl, isi_dict_int, isi_dict_str, isi_dict_tup, isi_dict_l, isi_dict_f, Ab.isNon, args, List.map, List.length_cons, List.length_nil, List.length_singleton, List.replicate, Nat.reduceSub, Nat.reduceAdd, Nat.zero_add, List.cons_append, List.nil_append, List.getElem?_cons_zero, List.getElem?_cons_succ, List.set_cons_zero, List.set_cons_succ, Option.some.injEq, decide_eq_true_eq, Bool.not_eq_true', decide_eq_false_iff_not, ite_true, ite_false, if_true, if_false, reduceIte, Bool.false_eq_true, Bool.not_true, Bool.not_false, Bool.true_eq_false, decide_true, decide_false, Nat.reduceLeDiff, Nat.reduceLT, Int.zero_add, hC.ix hk]
    rw [hC.st hk hk]
    simp only [sat_ok, sat_bad, sat_bind, sat_ite, bind_ok, bind_bad, thn_nx, thn_rt, thn_bk, thn_ct, fin_rt, fin_nx, ev_v, ev_c, ev_op, ev_un, ev_nil, ev_cons, ev_tup, ev_lst, ev_call, ev_own, ev_sl, ev_no, ev_part, ev_and, ev_or, ev_not, ev_if, ev_t, ev_tb, ev_tnot, ev_tand, ev_tor, ev_mt, ev_mt0, ev_rgd, ev_set, ev_asg, ev_ret, ev_retN, ev_ex, ev_pass, ev_brk, ev_cont, ev_ifS, ev_aug, ev_gn, ev_gtp, ev_gnl, ev_gcs, ev_gsb, ev_for, ev_rg1, ev_rg2, ev_its, ev_enum, ev_lc, ev_yes, ev_add_ii, ev_add_ss, ev_add_tt, ev_add_rr, ev_sub, ev_mul, ev_mod, ev_fdiv, ev_pow, ev_neg, ev_lt, ev_le, ev_gt, ev_ge, ev_eq_ii, ev_eq_ss, ev_eq_bb, ev_ne_ii, ev_ne_ss, ev_ne_bb, ev_is_n, ev_isnt_n, ev_int_i, ev_int_b, ev_min_ii, ev_max_ii, ev_abs, ev_tup_of, ev_tup_ofL, ev_lst_ofT, ev_lst_ofL, ev_len_t, ev_len_s, ev_len_r, ev_tru_b, ev_alloc, ev_tupD, ev_lstD, isi_tuple_non, isi_tuple_bl, isi_tuple_int, isi_tuple_str, isi_tuple_tup, isi_tuple_l, isi_tuple_f, isi_list_non, isi_list_bl, isi_list_int, isi_list_str, isi_list_tup, isi_list_l, isi_list_f, isi_bool_non, isi_bool_bl, isi_bool_int, isi_bool_str, isi_bool_tup, isi_bool_l, isi_bool_f, isi_int_non, isi_int_bl, isi_int_int, isi_int_str, isi_int_tup, isi_int_l, isi_int_f, isi_str_non, isi_str_bl, isi_str_int, isi_str_str, isi_str_tup, isi_str_l, isi_str_f, isi_dict_non, isi_dict_bl, isi_dict_int, isi_dict_str, isi_dict_tup, isi_dict_l, isi_dict_f, Ab.isNon, args, List.map, List.length_cons, List.length_nil, List.length_singleton, List.replicate, Nat.reduceSub, Nat.reduceAdd, Nat.zero_add, List.cons_append, List.nil_append, List.getElem?_cons_zero, List.getElem?_cons_succ, List.set_cons_zero, List.set_cons_succ, Option.some.injEq, decide_eq_true_eq, Bool.not_eq_true', decide_eq_false_iff_not, ite_true, ite_false, if_true, if_false, reduceIte, Bool.false_eq_true, Bool.not_true, Bool.not_false, Bool.true_eq_false, decide_true, decide_false, Nat.reduceLeDiff, Nat.reduceLT, turn_]
    refine ⟨hC.set hk |>.ext fun a b ha hb => ?_, _, _, rfl⟩
    by_cases e : a = k ∧ b = k
    · obtain ⟨rfl, rfl⟩ := e
      rw [if_pos ⟨rfl, rfl⟩, if_pos ⟨rfl, Nat.lt_succ_self _⟩]
    · rw [if_neg e]
      by_cases e2 : a = b ∧ a < k
      · rw [if_pos e2, if_pos ⟨e2.1, by omega⟩]
      · rw [if_neg e2, if_neg (by omega)]
  subst hσ
  have hC : Mt A C r c m (fun i j => if i = j then 0 else M i j) := hC.ext fun a b ha hb => by
    by_cases e : a = b
    · rw [if_pos ⟨e, ha⟩, if_pos e]
    · rw [if_neg e, if_neg (fun z => e z.1)]
  simp only [sat_ok, sat_bad, sat_bind, sat_ite, bind_ok, bind_bad, thn_nx, thn_rt, thn_bk, thn_ct, fin_rt, fin_nx, ev_v, ev_c, ev_op, ev_un, ev_nil, ev_cons, ev_tup, ev_lst, ev_call, ev_own, ev_sl, ev_no, ev_part, ev_and, ev_or, ev_not, ev_if, ev_t, ev_tb, ev_tnot, ev_tand, ev_tor, ev_mt, ev_mt0, ev_rgd, ev_set, ev_asg, ev_ret, ev_retN, ev_ex, ev_pass, ev_brk, ev_cont, ev_ifS, ev_aug, ev_gn, ev_gtp, ev_gnl, ev_gcs, ev_gsb, ev_for, ev_rg1, ev_rg2, ev_its, ev_enum, ev_lc, ev_yes, ev_add_ii, ev_add_ss, ev_add_tt, ev_add_rr, ev_sub, ev_mul, ev_mod, ev_fdiv, ev_pow, ev_neg, ev_lt, ev_le, ev_gt, ev_ge, ev_eq_ii, ev_eq_ss, ev_eq_bb, ev_ne_ii, ev_ne_ss, ev_ne_bb, ev_is_n, ev_isnt_n, ev_int_i, ev_int_b, ev_min_ii, ev_max_ii, ev_abs, ev_tup_of, ev_tup_ofL, ev_lst_ofT, ev_lst_ofL, ev_len_t, ev_len_s, ev_len_r, ev_tru_b, ev_alloc, ev_tupD, ev_lstD, isi_tuple_non, isi_tuple_bl, isi_tuple_int, isi_tuple_str, isi_tuple_tup, isi_tuple_l, isi_tuple_f, isi_list_non, isi_list_bl, isi_list_int, isi_list_str, isi_list_tup, isi_list_l, isi_list_f, isi_bool_non, isi_bool_bl, isi_bool_int, isi_bool_str, isi_bool_tup, isi_bool_l, isi_bool_f, isi_int_non, isi_int_bl, isi_int_int, isi_int_str, isi_int_tup, isi_int_l, isi_int_f, isi_str_non, isi_str_bl, isi_str_int, isi_str_str, isi_str_tup, isi_str_l, isi_str_f, isi_dict_non, isi_dict_bl, isi_dict_int, isi_dict_str, isi_dict_tup, isi_dict_l, isi_dict_f, Ab.isNon, args, List.map, List.length_cons, List.length_nil, List.length_singleton, List.replicate, Nat.reduceSub, Nat.reduceAdd, Nat.zero_add, List.cons_append, List.nil_append, List.getElem?_cons_zero, List.getElem?_cons_succ, List.set_cons_zero, List.set_cons_succ, Option.some.injEq, decide_eq_true_eq, Bool.not_eq_true', decide_eq_false_iff_not, ite_true, ite_false, if_true, if_false, reduceIte, Bool.false_eq_true, Bool.not_true, Bool.not_false, Bool.true_eq_false, decide_true, decide_false, Nat.reduceLeDiff, Nat.reduceLT]
  refine sat_seq ?_
  simp only [sat_ok, sat_bad, sat_bind, sat_ite, bind_ok, bind_bad, thn_nx, thn_rt, thn_bk, thn_ct, fin_rt, fin_nx, ev_v, ev_c, ev_op, ev_un, ev_nil, ev_cons, ev_tup, ev_lst, ev_call, ev_own, ev_sl, ev_no, ev_part, ev_and, ev_or, ev_not, ev_if, ev_t, ev_tb, ev_tnot, ev_tand, ev_tor, ev_mt, ev_mt0, ev_rgd, ev_set, ev_asg, ev_ret, ev_retN, ev_ex, ev_pass, ev_brk, ev_cont, ev_ifS, ev_aug, ev_gn, ev_gtp, ev_gnl, ev_gcs, ev_gsb, ev_for, ev_rg1, ev_rg2, ev_its, ev_enum, ev_lc, ev_yes, ev_add_ii, ev_add_ss, ev_add_tt, ev_add_rr, ev_sub, ev_mul, ev_mod, ev_fdiv, ev_pow, ev_neg, ev_lt, ev_le, ev_gt, ev_ge, ev_eq_ii, ev_eq_ss, ev_eq_bb, ev_ne_ii, ev_ne_ss, ev_ne_bb, ev_is_n, ev_isnt_n, ev_int_i, ev_int_b, ev_min_ii, ev_max_ii, ev_abs, ev_tup_of, ev_tup_ofL, ev_lst_ofT, ev_lst_ofL, ev_len_t, ev_len_s, ev_len_r, ev_tru_b, ev_alloc, ev_tupD, ev_lstD, isi_tuple_non, isi_tuple_bl, isi_tuple_int, isi_tuple_str, isi_tuple_tup, isi_tuple_l, isi_tuple_f, isi_list_non, isi_list_bl, isi_list_int, isi_list_str, isi_list_tup, isi_list_l, isi_list_f, isi_bool_non, isi_bool_bl, isi_bool_int, isi_bool_str, isi_bool_tup, isi_bool_l, isi_bool_f, isi_int_non, isi_int_bl, isi_int_int, isi_int_str, isi_int_tup, isi_int_l, isi_int_f, isi_str_non, isi_str_bl, isi_str_int, isi_str_str, isi_str_tup, isi_str_l, isi_str_f, isi_dict_non, isi_dict_bl, isi_dict_int, isi_dict_str, isi_dict_tup, isi_dict_l, isi_dict_f, Ab.isNon, args, List.map, List.length_cons, List.length_nil, List.length_singleton, List.replicate, Nat.reduceSub, Nat.reduceAdd, Nat.zero_add, List.cons_append, List.nil_append, List.getElem?_cons_zero, List.getElem?_cons_succ, List.set_cons_zero, List.set_cons_succ, Option.some.injEq, decide_eq_true_eq, Bool.not_eq_true', decide_eq_false_iff_not, ite_true, ite_false, if_true, if_false, reduceIte, Bool.false_eq_true, Bool.not_true, Bool.not_false, Bool.true_eq_false, decide_true, decide_false, Nat.reduceLeDiff, Nat.reduceLT]
  rw [if_pos (inRg_of (by omega) (by omega)), Int.toNat_natCast]
  refine range_inv (fun k σ E => (∃ R, Mt A E r c m R ∧ Rnd m M k R) ∧ ∃ z, σ = [some (matD m M), some (.ref r), x, some (.int (m : Nat)), y, z])
    (fun k σ E hk ⟨⟨R, hE, hR⟩, z, hσ⟩ => ?_) (fun σ E ⟨⟨R, hE, hR⟩, z, hσ⟩ => ?_) ⟨⟨_, hC, Rnd.first pos⟩, none, rfl⟩
  · subst hσ
    simp only [sat_ok, sat_bad, sat_bind, sat_ite, bind_ok, bind_bad, thn_nx, thn_rt, thn_bk, thn_ct, fin_rt, fin_nx, ev_v, ev_c, ev_op, ev_un, ev_nil, ev_cons, ev_tup, ev_lst, ev_call, ev_own, ev_sl, ev_no, ev_part, ev_and, ev_or, ev_not, ev_if, ev_t, ev_tb, ev_tnot, ev_tand, ev_tor, ev_mt, ev_mt0, ev_rgd, ev_set, ev_asg, ev_ret, ev_retN, ev_ex, ev_pass, ev_brk, ev_cont, ev_ifS, ev_aug, ev_gn, ev_gtp, ev_gnl, ev_gcs, ev_gsb, ev_for, ev_rg1, ev_rg2, ev_its, ev_enum, ev_lc, ev_yes, ev_add_ii, ev_add_ss, ev_add_tt, ev_add_rr, ev_sub, ev_mul, ev_mod, ev_fdiv, ev_pow, ev_neg, ev_lt, ev_le, ev_gt, ev_ge, ev_eq_ii, ev_eq_ss, ev_eq_bb, ev_ne_ii, ev_ne_ss, ev_ne_bb, ev_is_n, ev_isnt_n, ev_int_i, ev_int_b, ev_min_ii, ev_max_ii, ev_abs, ev_tup_of, ev_tup_ofL, ev_lst_ofT, ev_lst_ofL, ev_len_t, ev_len_s, ev_len_r, ev_tru_b, ev_alloc, ev_tupD, ev_lstD, isi_tuple_non, isi_tuple_bl, isi_tuple_int, isi_tuple_str, isi_tuple_tup, isi_tuple_l, isi_tuple_f, isi_list_non, isi_list_bl, isi_list_int, isi_list_str, isi_list_tup, isi_list_l, isi_list_f, isi_bool_non, isi_bool_bl, isi_bool_int, isi_bool_str, isi_bool_tup, isi_bool_l, isi_bool_f, isi_int_non, isi_int_bl, isi_int_int, isi_int_str, isi_int_tup, isi_int_l, isi_int_f, isi_str_non, isi_str_bl, isi_str_int, isi_str_str, isi_str_tup, isi_str_l, isi_str_f, isi_dict_non, isi_dict_bl, isi_dict_int, isi_dict_str, isi_dict_tup, isi_dict_l, isi_dict_f, Ab.isNon, args, List.map, List.length_cons, List.length_nil, List.length_singleton, List.replicate, Nat.reduceSub, Nat.reduceAdd, Nat.zero_add, List.cons_append, List.nil_append, List.getElem?_cons_zero, List.getElem?_cons_succ, List.set_cons_zero, List.set_cons_succ, Option.some.injEq, decide_eq_true_eq, Bool.not_eq_true', decide_eq_false_iff_not, ite_true, ite_false, if_true, if_false, reduceIte, Bool.false_eq_true, Bool.not_true, Bool.not_false, Bool.true_eq_false, decide_true, decide_false, Nat.reduceLeDiff, Nat.reduceLT, Int.zero_add]
    refine sat_seq ?_
    simp only [sat_ok, sat_bad, sat_bind, sat_ite, bind_ok, bind_bad, thn_nx, thn_rt, thn_bk, thn_ct, fin_rt, fin_nx, ev_v, ev_c, ev_op, ev_un, ev_nil, ev_cons, ev_tup, ev_lst, ev_call, ev_own, ev_sl, ev_no, ev_part, ev_and, ev_or, ev_not, ev_if, ev_t, ev_tb, ev_tnot, ev_tand, ev_tor, ev_mt, ev_mt0, ev_rgd, ev_set, ev_asg, ev_ret, ev_retN, ev_ex, ev_pass, ev_brk, ev_cont, ev_ifS, ev_aug, ev_gn, ev_gtp, ev_gnl, ev_gcs, ev_gsb, ev_for, ev_rg1, ev_rg2, ev_its, ev_enum, ev_lc, ev_yes, ev_add_ii, ev_add_ss, ev_add_tt, ev_add_rr, ev_sub, ev_mul, ev_mod, ev_fdiv, ev_pow, ev_neg, ev_lt, ev_le, ev_gt, ev_ge, ev_eq_ii, ev_eq_ss, ev_eq_bb, ev_ne_ii, ev_ne_ss, ev_ne_bb, ev_is_n, ev_isnt_n, ev_int_i, ev_int_b, ev_min_ii, ev_max_ii, ev_abs, ev_tup_of, ev_tup_ofL, ev_lst_ofT, ev_lst_ofL, ev_len_t, ev_len_s, ev_len_r, ev_tru_b, ev_alloc, ev_tupD, ev_lstD, isi_tuple_non, isi_tuple_bl, isi_tuple_int, isi_tuple_str, isi_tuple_tup, isi_tuple_l, isi_tuple_f, isi_list_non, isi_list_bl, isi_list_int, isi_list_str, isi_list_tup, isi_list_l, isi_list_f, isi_bool_non, isi_bool_bl, isi_bool_int, isi_bool_str, isi_bool_tup, isi_bool_l, isi_bool_f, isi_int_non, isi_int_bl, isi_int_int, isi_int_str, isi_int_tup, isi_int_l, isi_int_f, isi_str_non, isi_str_bl, isi_str_int, isi_str_str, isi_str_tup, isi_str_l, isi_str_f, isi_dict_non, isi_dict_bl, isi_dict_int, isi_dict_str, isi_dict_tup, isi_dict_l, isi_dict_f, Ab.isNon, args, List.map, List.length_cons, List.length_nil, List.length_singleton, List.replicate, Nat.reduceSub, Nat.reduceAdd, Nat.zero_add, List.cons_append, List.nil_append, List.getElem?_cons_zero, List.getElem?_cons_succ, List.set_cons_zero, List.set_cons_succ, Option.some.injEq, decide_eq_true_eq, Bool.not_eq_true', decide_eq_false_iff_not, ite_true, ite_false, if_true, if_false, reduceIte, Bool.false_eq_true, Bool.not_true, Bool.not_false, Bool.true_eq_false, decide_true, decide_false, Nat.reduceLeDiff, Nat.reduceLT]
    refine Sat.imp (short_spec hE hm hk) fun d E2 hE2 => ?_
    have n2 := neg_spec hE2 hm (b := decide (∃ i, i < m ∧ via k R i i < 0)) (by simp)
    simp only [sat_ok, sat_bad, sat_bind, sat_ite, bind_ok, bind_bad, thn_nx, thn_rt, thn_bk, thn_ct, fin_rt, fin_nx, ev_v, ev_c, ev_op, ev_un, ev_nil, ev_cons, ev_tup, ev_lst, ev_call, ev_own, ev_sl, ev_no, ev_part, ev_and, ev_or, ev_not, ev_if, ev_t, ev_tb, ev_tnot, ev_tand, ev_tor, ev_mt, ev_mt0, ev_rgd, ev_set, ev_asg, ev_ret, ev_retN, ev_ex, ev_pass, ev_brk, ev_cont, ev_ifS, ev_aug, ev_gn, ev_gtp, ev_gnl, ev_gcs, ev_gsb, ev_for, ev_rg1, ev_rg2, ev_its, ev_enum, ev_lc, ev_yes, ev_add_ii, ev_add_ss, ev_add_tt, ev_add_rr, ev_sub, ev_mul, ev_mod, ev_fdiv, ev_pow, ev_neg, ev_lt, ev_le, ev_gt, ev_ge, ev_eq_ii, ev_eq_ss, ev_eq_bb, ev_ne_ii, ev_ne_ss, ev_ne_bb, ev_is_n, ev_isnt_n, ev_int_i, ev_int_b, ev_min_ii, ev_max_ii, ev_abs, ev_tup_of, ev_tup_ofL, ev_lst_ofT, ev_lst_ofL, ev_len_t, ev_len_s, ev_len_r, ev_tru_b, ev_alloc, ev_tupD, ev_lstD, isi_tuple_non, isi_tuple_bl, isi_tuple_int, isi_tuple_str, isi_tuple_tup, isi_tuple_l, isi_tuple_f, isi_list_non, isi_list_bl, isi_list_int, isi_list_str, isi_list_tup, isi_list_l, isi_list_f, isi_bool_non, isi_bool_bl, isi_bool_int, isi_bool_str, isi_bool_tup, isi_bool_l, isi_bool_f, isi_int_non, isi_int_bl, isi_int_int, isi_int_str, isi_int_tup, isi_int_l, isi_int_f, isi_str_non, isi_str_bl, isi_str_int, isi_str_str, isi_str_tup, isi_str_l, isi_str_f, isi_dict_non, isi_dict_bl, isi_dict_int, isi_dict_str, isi_dict_tup, isi_dict_l, isi_dict_f, Ab.isNon, args, List.map, List.length_cons, List.length_nil, List.length_singleton, List.replicate, Nat.reduceSub, Nat.reduceAdd, Nat.zero_add, List.cons_append, List.nil_append, List.getElem?_cons_zero, List.getElem?_cons_succ, List.set_cons_zero, List.set_cons_succ, Option.some.injEq, decide_eq_true_eq, Bool.not_eq_true', decide_eq_false_iff_not, ite_true, ite_false, if_true, if_false, reduceIte, Bool.false_eq_true, Bool.not_true, Bool.not_false, Bool.true_eq_false, decide_true, decide_false, Nat.reduceLeDiff, Nat.reduceLT, n2]
    split
    · rename_i hn
      obtain ⟨i, hi, hn⟩ := hn
      simp only [sat_ok, sat_bad, sat_bind, sat_ite, bind_ok, bind_bad, thn_nx, thn_rt, thn_bk, thn_ct, fin_rt, fin_nx, ev_v, ev_c, ev_op, ev_un, ev_nil, ev_cons, ev_tup, ev_lst, ev_call, ev_own, ev_sl, ev_no, ev_part, ev_and, ev_or, ev_not, ev_if, ev_t, ev_tb, ev_tnot, ev_tand, ev_tor, ev_mt, ev_mt0, ev_rgd, ev_set, ev_asg, ev_ret, ev_retN, ev_ex, ev_pass, ev_brk, ev_cont, ev_ifS, ev_aug, ev_gn, ev_gtp, ev_gnl, ev_gcs, ev_gsb, ev_for, ev_rg1, ev_rg2, ev_its, ev_enum, ev_lc, ev_yes, ev_add_ii, ev_add_ss, ev_add_tt, ev_add_rr, ev_sub, ev_mul, ev_mod, ev_fdiv, ev_pow, ev_neg, ev_lt, ev_le, ev_gt, ev_ge, ev_eq_ii, ev_eq_ss, ev_eq_bb, ev_ne_ii, ev_ne_ss, ev_ne_bb, ev_is_n, ev_isnt_n, ev_int_i, ev_int_b, ev_min_ii, ev_max_ii, ev_abs, ev_tup_of, ev_tup_ofL, ev_lst_ofT, ev_lst_ofL, ev_len_t, ev_len_s, ev_len_r, ev_tru_b, ev_alloc, ev_tupD, ev_lstD, isi_tuple_non, isi_tuple_bl, isi_tuple_int, isi_tuple_str, isi_tuple_tup, isi_tuple_l, isi_tuple_f, isi_list_non, isi_list_bl, isi_list_int, isi_list_str, isi_list_tup, isi_list_l, isi_list_f, isi_bool_non, isi_bool_bl, isi_bool_int, isi_bool_str, isi_bool_tup, isi_bool_l, isi_bool_f, isi_int_non, isi_int_bl, isi_int_int, isi_int_str, isi_int_tup, isi_int_l, isi_int_f, isi_str_non, isi_str_bl, isi_str_int, isi_str_str, isi_str_tup, isi_str_l, isi_str_f, isi_dict_non, isi_dict_bl, isi_dict_int, isi_dict_str, isi_dict_tup, isi_dict_l, isi_dict_f, Ab.isNon, args, List.map, List.length_cons, List.length_nil, List.length_singleton, List.replicate, Nat.reduceSub, Nat.reduceAdd, Nat.zero_add, List.cons_append, List.nil_append, List.getElem?_cons_zero, List.getElem?_cons_succ, List.set_cons_zero, List.set_cons_succ, Option.some.injEq, decide_eq_true_eq, Bool.not_eq_true', decide_eq_false_iff_not, ite_true, ite_false, if_true, if_false, reduceIte, Bool.false_eq_true, Bool.not_true, Bool.not_false, Bool.true_eq_false, decide_true, decide_false, Nat.reduceLeDiff, Nat.reduceLT, turn_]
      exact ⟨hE2.gr, none, rfl, .inr (hR.neg hk hi hn)⟩
    · rename_i hn
      simp only [sat_ok, sat_bad, sat_bind, sat_ite, bind_ok, bind_bad, thn_nx, thn_rt, thn_bk, thn_ct, fin_rt, fin_nx, ev_v, ev_c, ev_op, ev_un, ev_nil, ev_cons, ev_tup, ev_lst, ev_call, ev_own, ev_sl, ev_no, ev_part, ev_and, ev_or, ev_not, ev_if, ev_t, ev_tb, ev_tnot, ev_tand, ev_tor, ev_mt, ev_mt0, ev_rgd, ev_set, ev_asg, ev_ret, ev_retN, ev_ex, ev_pass, ev_brk, ev_cont, ev_ifS, ev_aug, ev_gn, ev_gtp, ev_gnl, ev_gcs, ev_gsb, ev_for, ev_rg1, ev_rg2, ev_its, ev_enum, ev_lc, ev_yes, ev_add_ii, ev_add_ss, ev_add_tt, ev_add_rr, ev_sub, ev_mul, ev_mod, ev_fdiv, ev_pow, ev_neg, ev_lt, ev_le, ev_gt, ev_ge, ev_eq_ii, ev_eq_ss, ev_eq_bb, ev_ne_ii, ev_ne_ss, ev_ne_bb, ev_is_n, ev_isnt_n, ev_int_i, ev_int_b, ev_min_ii, ev_max_ii, ev_abs, ev_tup_of, ev_tup_ofL, ev_lst_ofT, ev_lst_ofL, ev_len_t, ev_len_s, ev_len_r, ev_tru_b, ev_alloc, ev_tupD, ev_lstD, isi_tuple_non, isi_tuple_bl, isi_tuple_int, isi_tuple_str, isi_tuple_tup, isi_tuple_l, isi_tuple_f, isi_list_non, isi_list_bl, isi_list_int, isi_list_str, isi_list_tup, isi_list_l, isi_list_f, isi_bool_non, isi_bool_bl, isi_bool_int, isi_bool_str, isi_bool_tup, isi_bool_l, isi_bool_f, isi_int_non, isi_int_bl, isi_int_int, isi_int_str, isi_int_tup, isi_int_l, isi_int_f, isi_str_non, isi_str_bl, isi_str_int, isi_str_str, isi_str_tup, isi_str_l, isi_str_f, isi_dict_non, isi_dict_bl, isi_dict_int, isi_dict_str, isi_dict_tup, isi_dict_l, isi_dict_f, Ab.isNon, args, List.map, List.length_cons, List.length_nil, List.length_singleton, List.replicate, Nat.reduceSub, Nat.reduceAdd, Nat.zero_add, List.cons_append, List.nil_append, List.getElem?_cons_zero, List.getElem?_cons_succ, List.set_cons_zero, List.set_cons_succ, Option.some.injEq, decide_eq_true_eq, Bool.not_eq_true', decide_eq_false_iff_not, ite_true, ite_false, if_true, if_false, reduceIte, Bool.false_eq_true, Bool.not_true, Bool.not_false, Bool.true_eq_false, decide_true, decide_false, Nat.reduceLeDiff, Nat.reduceLT, turn_]
      refine ⟨⟨_, hE2, hR.next hk fun i hi => ?_⟩, _, rfl⟩
      by_cases e : 0 ≤ via k R i i
      · exact e
      · exact (hn ⟨i, hi, by omega⟩).elim
  · subst hσ
    simp only [sat_ok, sat_bad, sat_bind, sat_ite, bind_ok, bind_bad, thn_nx, thn_rt, thn_bk, thn_ct, fin_rt, fin_nx, ev_v, ev_c, ev_op, ev_un, ev_nil, ev_cons, ev_tup, ev_lst, ev_call, ev_own, ev_sl, ev_no, ev_part, ev_and, ev_or, ev_not, ev_if, ev_t, ev_tb, ev_tnot, ev_tand, ev_tor, ev_mt, ev_mt0, ev_rgd, ev_set, ev_asg, ev_ret, ev_retN, ev_ex, ev_pass, ev_brk, ev_cont, ev_ifS, ev_aug, ev_gn, ev_gtp, ev_gnl, ev_gcs, ev_gsb, ev_for, ev_rg1, ev_rg2, ev_its, ev_enum, ev_lc, ev_yes, ev_add_ii, ev_add_ss, ev_add_tt, ev_add_rr, ev_sub, ev_mul, ev_mod, ev_fdiv, ev_pow, ev_neg, ev_lt, ev_le, ev_gt, ev_ge, ev_eq_ii, ev_eq_ss, ev_eq_bb, ev_ne_ii, ev_ne_ss, ev_ne_bb, ev_is_n, ev_isnt_n, ev_int_i, ev_int_b, ev_min_ii, ev_max_ii, ev_abs, ev_tup_of, ev_tup_ofL, ev_lst_ofT, ev_lst_ofL, ev_len_t, ev_len_s, ev_len_r, ev_tru_b, ev_alloc, ev_tupD, ev_lstD, isi_tuple_non, isi_tuple_bl, isi_tuple_int, isi_tuple_str, isi_tuple_tup, isi_tuple_l, isi_tuple_f, isi_list_non, isi_list_bl, isi_list_int, isi_list_str, isi_list_tup, isi_list_l, isi_list_f, isi_bool_non, isi_bool_bl, isi_bool_int, isi_bool_str, isi_bool_tup, isi_bool_l, isi_bool_f, isi_int_non, isi_int_bl, isi_int_int, isi_int_str, isi_int_tup, isi_int_l, isi_int_f, isi_str_non, isi_str_bl, isi_str_int, isi_str_str, isi_str_tup, isi_str_l, isi_str_f, isi_dict_non, isi_dict_bl, isi_dict_int, isi_dict_str, isi_dict_tup, isi_dict_l, isi_dict_f, Ab.isNon, args, List.map, List.length_cons, List.length_nil, List.length_singleton, List.replicate, Nat.reduceSub, Nat.reduceAdd, Nat.zero_add, List.cons_append, List.nil_append, List.getElem?_cons_zero, List.getElem?_cons_succ, List.set_cons_zero, List.set_cons_succ, Option.some.injEq, decide_eq_true_eq, Bool.not_eq_true', decide_eq_false_iff_not, ite_true, ite_false, if_true, if_false, reduceIte, Bool.false_eq_true, Bool.not_true, Bool.not_false, Bool.true_eq_false, decide_true, decide_false, Nat.reduceLeDiff, Nat.reduceLT]
    refine Sat.imp (frozen_spec c hE.rows hE.row (by omega)) fun d E2 ⟨e, G2⟩ => ?_
    exact ⟨hE.gr.trans G2, some R, e, hR.last⟩
end Law

namespace Law
open PySem PySem.Spec PyProof.Rows L2 Ab
open scoped Classical
/-! ### draws -/
theorem far_spec {A : AH} {s : Nat} (hs : Sr s A) : DrwS s A (m__law_far [.ref s] A) fun d => ∃ v, d = .int v := by
  refine sat_body rfl (sat_seq ?_)
  simp only [sat_ok, sat_bad, sat_bind, sat_ite, bind_ok, bind_bad, thn_nx, thn_rt, thn_bk, thn_ct, fin_rt, fin_nx, ev_v, ev_c, ev_op, ev_un, ev_nil, ev_cons, ev_tup, ev_lst, ev_call, ev_own, ev_sl, ev_no, ev_part, ev_and, ev_or, ev_not, ev_if, ev_t, ev_tb, ev_tnot, ev_tand, ev_tor, ev_mt, ev_mt0, ev_rgd, ev_set, ev_asg, ev_ret, ev_retN, ev_ex, ev_pass, ev_brk, ev_cont, ev_ifS, ev_aug, ev_gn, ev_gtp, ev_gnl, ev_gcs, ev_gsb, ev_for, ev_rg1, ev_rg2, ev_its, ev_enum, ev_lc, ev_yes, ev_add_ii, ev_add_ss, ev_add_tt, ev_add_rr, ev_sub, ev_mul, ev_mod, ev_fdiv, ev_pow, ev_neg, ev_lt, ev_le, ev_gt, ev_ge, ev_eq_ii, ev_eq_ss, ev_eq_bb, ev_ne_ii, ev_ne_ss, ev_ne_bb, ev_is_n, ev_isnt_n, ev_int_i, ev_int_b, ev_min_ii, ev_max_ii, ev_abs, ev_tup_of, ev_tup_ofL, ev_lst_ofT, ev_lst_ofL, ev_len_t, ev_len_s, ev_len_r, ev_tru_b, ev_alloc, ev_tupD, ev_lstD, isi_tuple_non, isi_tuple_bl, isi_tuple_int, isi_tuple_str, isi_tuple_tup, isi_tuple_l, isi_tuple_f, isi_list_non, isi_list_bl, isi_list_int, isi_list_str, isi_list_tup, isi_list_l, isi_list_f, isi_bool_non, isi_bool_bl, isi_bool_int, isi_bool_str, isi_bool_tup, isi_bool_l, isi_bool_f, isi_int_non, isi_int_bl, isi_int_int, isi_int_str, isi_int_tup, isi_int_l, isi_int_f, isi_str_non, isi_str_bl, isi_str_int, isi_str_str, isi_str_tup, isi_str_l, isi_str_f, isi_dict_non, isi_dict_bl, isi_dict_int, isi_dict_str, isi_dict_tup, isi_dict_l, isi_dict_f, Ab.isNon, args, List.map, List.length_cons, List.length_nil, List.length_singleton, List.replicate, Nat.reduceSub, Nat.reduceAdd, Nat.zero_add, List.cons_append, List.nil_append, List.getElem?_cons_zero, List.getElem?_cons_succ, List.set_cons_zero, List.set_cons_succ, Option.some.injEq, decide_eq_true_eq, Bool.not_eq_true', decide_eq_false_iff_not, ite_true, ite_false, if_true, if_false, reduceIte, Bool.false_eq_true, Bool.not_true, Bool.not_false, Bool.true_eq_false, decide_true, decide_false, Nat.reduceLeDiff, Nat.reduceLT]
  refine Sat.imp (pick_pos hs (n := 4) (by decide) (by decide)) fun d A1 ⟨⟨v, e, _, _⟩, D1⟩ => ?_
  subst e
  simp only [sat_ok, sat_bad, sat_bind, sat_ite, bind_ok, bind_bad, thn_nx, thn_rt, thn_bk, thn_ct, fin_rt, fin_nx, ev_v, ev_c, ev_op, ev_un, ev_nil, ev_cons, ev_tup, ev_lst, ev_call, ev_own, ev_sl, ev_no, ev_part, ev_and, ev_or, ev_not, ev_if, ev_t, ev_tb, ev_tnot, ev_tand, ev_tor, ev_mt, ev_mt0, ev_rgd, ev_set, ev_asg, ev_ret, ev_retN, ev_ex, ev_pass, ev_brk, ev_cont, ev_ifS, ev_aug, ev_gn, ev_gtp, ev_gnl, ev_gcs, ev_gsb, ev_for, ev_rg1, ev_rg2, ev_its, ev_enum, ev_lc, ev_yes, ev_add_ii, ev_add_ss, ev_add_tt, ev_add_rr, ev_sub, ev_mul, ev_mod, ev_fdiv, ev_pow, ev_neg, ev_lt, ev_le, ev_gt, ev_ge, ev_eq_ii, ev_eq_ss, ev_eq_bb, ev_ne_ii, ev_ne_ss, ev_ne_bb, ev_is_n, ev_isnt_n, ev_int_i, ev_int_b, ev_min_ii, ev_max_ii, ev_abs, ev_tup_of, ev_tup_ofL, ev_lst_ofT, ev_lst_ofL, ev_len_t, ev_len_s, ev_len_r, ev_tru_b, ev_alloc, ev_tupD, ev_lstD, isi_tuple_non, isi_tuple_bl, isi_tuple_int, isi_tuple_str, isi_tuple_tup, isi_tuple_l, isi_tuple_f, isi_list_non, isi_list_bl, isi_list_int, isi_list_str, isi_list_tup, isi_list_l, isi_list_f, isi_bool_non, isi_bool_bl, isi_bool_int, isi_bool_str, isi_bool_tup, isi_bool_l, isi_bool_f, isi_int_non, isi_int_bl, isi_int_int, isi_int_str, isi_int_tup, isi_int_l, isi_int_f, isi_str_non, isi_str_bl, isi_str_int, isi_str_str, isi_str_tup, isi_str_l, isi_str_f, isi_dict_non, isi_dict_bl, isi_dict_int, isi_dict_str, isi_dict_tup, isi_dict_l, isi_dict_f, Ab.isNon, args, List.map, List.length_cons, List.length_nil, List.length_singleton, List.replicate, Nat.reduceSub, Nat.reduceAdd, Nat.zero_add, List.cons_append, List.nil_append, List.getElem?_cons_zero, List.getElem?_cons_succ, List.set_cons_zero, List.set_cons_succ, Option.some.injEq, decide_eq_true_eq, Bool.not_eq_true', decide_eq_false_iff_not, ite_true, ite_false, if_true, if_false, reduceIte, Bool.false_eq_true, Bool.not_true, Bool.not_false, Bool.true_eq_false, decide_true, decide_false, Nat.reduceLeDiff, Nat.reduceLT]
  split
  · refine Sat.imp (pick_pos D1.src (n := 2000001) (by decide) (by decide)) fun d A2 ⟨⟨w, e, _, _⟩, D2⟩ => ?_
    subst e
    have m : mulOk (w - 1000000) 990 := mulOk_r (by decide) (by decide)
    simp only [sat_ok, sat_bad, sat_bind, sat_ite, bind_ok, bind_bad, thn_nx, thn_rt, thn_bk, thn_ct, fin_rt, fin_nx, ev_v, ev_c, ev_op, ev_un, ev_nil, ev_cons, ev_tup, ev_lst, ev_call, ev_own, ev_sl, ev_no, ev_part, ev_and, ev_or, ev_not, ev_if, ev_t, ev_tb, ev_tnot, ev_tand, ev_tor, ev_mt, ev_mt0, ev_rgd, ev_set, ev_asg, ev_ret, ev_retN, ev_ex, ev_pass, ev_brk, ev_cont, ev_ifS, ev_aug, ev_gn, ev_gtp, ev_gnl, ev_gcs, ev_gsb, ev_for, ev_rg1, ev_rg2, ev_its, ev_enum, ev_lc, ev_yes, ev_add_ii, ev_add_ss, ev_add_tt, ev_add_rr, ev_sub, ev_mul, ev_mod, ev_fdiv, ev_pow, ev_neg, ev_lt, ev_le, ev_gt, ev_ge, ev_eq_ii, ev_eq_ss, ev_eq_bb, ev_ne_ii, ev_ne_ss, ev_ne_bb, ev_is_n, ev_isnt_n, ev_int_i, ev_int_b, ev_min_ii, ev_max_ii, ev_abs, ev_tup_of, ev_tup_ofL, ev_lst_ofT, ev_lst_ofL, ev_len_t, ev_len_s, ev_len_r, ev_tru_b, ev_alloc, ev_tupD, ev_lstD, isi_tuple_non, isi_tuple_bl, isi_tuple_int, isi_tuple_str, isi_tuple_tup, isi_tuple_l, isi_tuple_f, isi_list_non, isi_list_bl, isi_list_int, isi_list_str, isi_list_tup, isi_list_l, isi_list_f, isi_bool_non, isi_bool_bl, isi_bool_int, isi_bool_str, isi_bool_tup, isi_bool_l, isi_bool_f, isi_int_non, isi_int_bl, isi_int_int, isi_int_str, isi_int_tup, isi_int_l, isi_int_f, isi_str_non, isi_str_bl, isi_str_int, isi_str_str, isi_str_tup, isi_str_l, isi_str_f, isi_dict_non, isi_dict_bl, isi_dict_int, isi_dict_str, isi_dict_tup, isi_dict_l, isi_dict_f, Ab.isNon, args, List.map, List.length_cons, List.length_nil, List.length_singleton, List.replicate, Nat.reduceSub, Nat.reduceAdd, Nat.zero_add, List.cons_append, List.nil_append, List.getElem?_cons_zero, List.getElem?_cons_succ, List.set_cons_zero, List.set_cons_succ, Option.some.injEq, decide_eq_true_eq, Bool.not_eq_true', decide_eq_false_iff_not, ite_true, ite_false, if_true, if_false, reduceIte, Bool.false_eq_true, Bool.not_true, Bool.not_false, Bool.true_eq_false, decide_true, decide_false, Nat.reduceLeDiff, Nat.reduceLT, m]
    exact ⟨⟨_, rfl⟩, D1.trans D2⟩
  · refine Sat.imp (pick_pos D1.src (n := 13) (by decide) (by decide)) fun d A2 ⟨⟨w, e, _, _⟩, D2⟩ => ?_
    subst e
    simp only [sat_ok, sat_bad, sat_bind, sat_ite, bind_ok, bind_bad, thn_nx, thn_rt, thn_bk, thn_ct, fin_rt, fin_nx, ev_v, ev_c, ev_op, ev_un, ev_nil, ev_cons, ev_tup, ev_lst, ev_call, ev_own, ev_sl, ev_no, ev_part, ev_and, ev_or, ev_not, ev_if, ev_t, ev_tb, ev_tnot, ev_tand, ev_tor, ev_mt, ev_mt0, ev_rgd, ev_set, ev_asg, ev_ret, ev_retN, ev_ex, ev_pass, ev_brk, ev_cont, ev_ifS, ev_aug, ev_gn, ev_gtp, ev_gnl, ev_gcs, ev_gsb, ev_for, ev_rg1, ev_rg2, ev_its, ev_enum, ev_lc, ev_yes, ev_add_ii, ev_add_ss, ev_add_tt, ev_add_rr, ev_sub, ev_mul, ev_mod, ev_fdiv, ev_pow, ev_neg, ev_lt, ev_le, ev_gt, ev_ge, ev_eq_ii, ev_eq_ss, ev_eq_bb, ev_ne_ii, ev_ne_ss, ev_ne_bb, ev_is_n, ev_isnt_n, ev_int_i, ev_int_b, ev_min_ii, ev_max_ii, ev_abs, ev_tup_of, ev_tup_ofL, ev_lst_ofT, ev_lst_ofL, ev_len_t, ev_len_s, ev_len_r, ev_tru_b, ev_alloc, ev_tupD, ev_lstD, isi_tuple_non, isi_tuple_bl, isi_tuple_int, isi_tuple_str, isi_tuple_tup, isi_tuple_l, isi_tuple_f, isi_list_non, isi_list_bl, isi_list_int, isi_list_str, isi_list_tup, isi_list_l, isi_list_f, isi_bool_non, isi_bool_bl, isi_bool_int, isi_bool_str, isi_bool_tup, isi_bool_l, isi_bool_f, isi_int_non, isi_int_bl, isi_int_int, isi_int_str, isi_int_tup, isi_int_l, isi_int_f, isi_str_non, isi_str_bl, isi_str_int, isi_str_str, isi_str_tup, isi_str_l, isi_str_f, isi_dict_non, isi_dict_bl, isi_dict_int, isi_dict_str, isi_dict_tup, isi_dict_l, isi_dict_f, Ab.isNon, args, List.map, List.length_cons, List.length_nil, List.length_singleton, List.replicate, Nat.reduceSub, Nat.reduceAdd, Nat.zero_add, List.cons_append, List.nil_append, List.getElem?_cons_zero, List.getElem?_cons_succ, List.set_cons_zero, List.set_cons_succ, Option.some.injEq, decide_eq_true_eq, Bool.not_eq_true', decide_eq_false_iff_not, ite_true, ite_false, if_true, if_false, reduceIte, Bool.false_eq_true, Bool.not_true, Bool.not_false, Bool.true_eq_false, decide_true, decide_false, Nat.reduceLeDiff, Nat.reduceLT]
    exact ⟨⟨_, rfl⟩, D1.trans D2⟩
theorem one_t {A : AH} {s : Nat} {xs : List D} (hs : Sr s A) (ne : xs ≠ []) (few : xs.length ≤ 1000) : DrwS s A (m__law_one [.ref s, .tup xs] A) fun d => d ∈ xs := by
  have pos := List.length_pos_iff.mpr ne
  refine sat_body rfl ?_
  unfold p__law_one
  simp only [sat_ok, sat_bad, sat_bind, sat_ite, bind_ok, bind_bad, thn_nx, thn_rt, thn_bk, thn_ct, fin_rt, fin_nx, ev_v, ev_c, ev_op, ev_un, ev_nil, ev_cons, ev_tup, ev_lst, ev_call, ev_own, ev_sl, ev_no, ev_part, ev_and, ev_or, ev_not, ev_if, ev_t, ev_tb, ev_tnot, ev_tand, ev_tor, ev_mt, ev_mt0, ev_rgd, ev_set, ev_asg, ev_ret, ev_retN, ev_ex, ev_pass, ev_brk, ev_cont, ev_ifS, ev_aug, ev_gn, ev_gtp, ev_gnl, ev_gcs, ev_gsb, ev_for, ev_rg1, ev_rg2, ev_its, ev_enum, ev_lc, ev_yes, ev_add_ii, ev_add_ss, ev_add_tt, ev_add_rr, ev_sub, ev_mul, ev_mod, ev_fdiv, ev_pow, ev_neg, ev_lt, ev_le, ev_gt, ev_ge, ev_eq_ii, ev_eq_ss, ev_eq_bb, ev_ne_ii, ev_ne_ss, ev_ne_bb, ev_is_n, ev_isnt_n, ev_int_i, ev_int_b, ev_min_ii, ev_max_ii, ev_abs, ev_tup_of, ev_tup_ofL, ev_lst_ofT, ev_lst_ofL, ev_len_t, ev_len_s, ev_len_r, ev_tru_b, ev_alloc, ev_tupD, ev_lstD, isi_tuple_non, isi_tuple_bl, isi_tuple_int, isi_tuple_str, isi_tuple_tup, isi_tuple_l, isi_tuple_f, isi_list_non, isi_list_bl, isi_list_int, isi_list_str, isi_list_tup, isi_list_l, isi_list_f, isi_bool_non, isi_bool_bl, isi_bool_int, isi_bool_str, isi_bool_tup, isi_bool_l, isi_bool_f, isi_int_non, isi_int_bl, isi_int_int, isi_int_str, isi_int_tup, isi_int_l, isi_int_f, isi_str_non, isi_str_bl, isi_str_int, isi_str_str, isi_str_tup, isi_str_l, isi_str_f, isi_dict_non, isi_dict_bl, isi_dict_int, isi_dict_str, isi_dict_tup, isi_dict_l, isi_dict_f, Ab.isNon, args, List.map, List.length_cons, List.length_nil, List.length_singleton, List.replicate, Nat.reduceSub, Nat.reduceAdd, Nat.zero_add, List.cons_append, List.nil_append, List.getElem?_cons_zero, List.getElem?_cons_succ, List.set_cons_zero, List.set_cons_succ, Option.some.injEq, decide_eq_true_eq, Bool.not_eq_true', decide_eq_false_iff_not, ite_true, ite_false, if_true, if_false, reduceIte, Bool.false_eq_true, Bool.not_true, Bool.not_false, Bool.true_eq_false, decide_true, decide_false, Nat.reduceLeDiff, Nat.reduceLT]
  refine Sat.imp (pick_pos hs (n := (xs.length : Nat)) (by omega) (by omega)) fun d A1 ⟨⟨v, e, v0, v1⟩, D1⟩ => ?_
  subst e
  have lt : v.toNat < xs.length := by omega
  rw [ev_ix_t (by rw [atI_pos v0, List.getElem?_eq_getElem lt])]
  exact ⟨List.getElem_mem lt, D1⟩
theorem one_l {A : AH} {s r : Nat} {xs : List D} (hs : Sr s A) (rs : r ≠ s) (h : A[r]? = some (.lst xs)) (ne : xs ≠ []) (few : xs.length ≤ 1000) : DrwS s A (m__law_one [.ref s, .ref r] A) fun d => d ∈ xs := by
  have pos := List.length_pos_iff.mpr ne
  refine sat_body rfl ?_
  unfold p__law_one
  have ln : lenD [.ref r] A = .ok (.int (xs.length : Nat)) A := ev_len_r (rdL_l h)
  simp only [sat_ok, sat_bad, sat_bind, sat_ite, bind_ok, bind_bad, thn_nx, thn_rt, thn_bk, thn_ct, fin_rt, fin_nx, ev_v, ev_c, ev_op, ev_un, ev_nil, ev_cons, ev_tup, ev_lst, ev_call, ev_own, ev_sl, ev_no, ev_part, ev_and, ev_or, ev_not, ev_if, ev_t, ev_tb, ev_tnot, ev_tand, ev_tor, ev_mt, ev_mt0, ev_rgd, ev_set, ev_asg, ev_ret, ev_retN, ev_ex, ev_pass, ev_brk, ev_cont, ev_ifS, ev_aug, ev_gn, ev_gtp, ev_gnl, ev_gcs, ev_gsb, ev_for, ev_rg1, ev_rg2, ev_its, ev_enum, ev_lc, ev_yes, ev_add_ii, ev_add_ss, ev_add_tt, ev_add_rr, ev_sub, ev_mul, ev_mod, ev_fdiv, ev_pow, ev_neg, ev_lt, ev_le, ev_gt, ev_ge, ev_eq_ii, ev_eq_ss, ev_eq_bb, ev_ne_ii, ev_ne_ss, ev_ne_bb, ev_is_n, ev_isnt_n, ev_int_i, ev_int_b, ev_min_ii, ev_max_ii, ev_abs, ev_tup_of, ev_tup_ofL, ev_lst_ofT, ev_lst_ofL, ev_len_t, ev_len_s, ev_len_r, ev_tru_b, ev_alloc, ev_tupD, ev_lstD, isi_tuple_non, isi_tuple_bl, isi_tuple_int, isi_tuple_str, isi_tuple_tup, isi_tuple_l, isi_tuple_f, isi_list_non, isi_list_bl, isi_list_int, isi_list_str, isi_list_tup, isi_list_l, isi_list_f, isi_bool_non, isi_bool_bl, isi_bool_int, isi_bool_str, isi_bool_tup, isi_bool_l, isi_bool_f, isi_int_non, isi_int_bl, isi_int_int, isi_int_str, isi_int_tup, isi_int_l, isi_int_f, isi_str_non, isi_str_bl, isi_str_int, isi_str_str, isi_str_tup, isi_str_l, isi_str_f, isi_dict_non, isi_dict_bl, isi_dict_int, isi_dict_str, isi_dict_tup, isi_dict_l, isi_dict_f, Ab.isNon, args, List.map, List.length_cons, List.length_nil, List.length_singleton, List.replicate, Nat.reduceSub, Nat.reduceAdd, Nat.zero_add, List.cons_append, List.nil_append, List.getElem?_cons_zero, List.getElem?_cons_succ, List.set_cons_zero, List.set_cons_succ, Option.some.injEq, decide_eq_true_eq, Bool.not_eq_true', decide_eq_false_iff_not, ite_true, ite_false, if_true, if_false, reduceIte, Bool.false_eq_true, Bool.not_true, Bool.not_false, Bool.true_eq_false, decide_true, decide_false, Nat.reduceLeDiff, Nat.reduceLT, ln]
  refine Sat.imp (pick_pos hs (n := (xs.length : Nat)) (by omega) (by omega)) fun d A1 ⟨⟨v, e, v0, v1⟩, D1⟩ => ?_
  subst e
  have h := D1.keep _ _ rs h
  have lt : v.toNat < xs.length := by omega
  rw [ev_ix_r (rdL_l h) (by rw [atI_pos v0, List.getElem?_eq_getElem lt])]
  exact ⟨List.getElem_mem lt, D1⟩
def prD (p : Int × Int) : D := .tup [.int p.1, .int p.2]
/-- ranges of at most 2001 numbers -/
def RgL (n : Nat) (pr : List (Int × Int)) : Prop := pr.length = n ∧ ∀ p ∈ pr, p.1 ≤ p.2 ∧ p.2 ≤ p.1 + 2000
theorem ranges_spec {A : AH} {s n : Nat} (hs : Sr s A) (hn : n ≤ 20) : DrwS s A (m__law_ranges [.ref s, .int (n : Nat)] A) fun d => ∃ pr, d = .tup (pr.map prD) ∧ RgL n pr := by
  have sl := hs.lt
  refine sat_body rfl (sat_seq ?_)
  simp only [sat_ok, sat_bad, sat_bind, sat_ite, bind_ok, bind_bad, thn_nx, thn_rt, thn_bk, thn_ct, fin_rt, fin_nx, ev_v, ev_c, ev_op, ev_un, ev_nil, ev_cons, ev_tup, ev_lst, ev_call, ev_own, ev_sl, ev_no, ev_part, ev_and, ev_or, ev_not, ev_if, ev_t, ev_tb, ev_tnot, ev_tand, ev_tor, ev_mt, ev_mt0, ev_rgd, ev_set, ev_asg, ev_ret, ev_retN, ev_ex, ev_pass, ev_brk, ev_cont, ev_ifS, ev_aug, ev_gn, ev_gtp, ev_gnl, ev_gcs, ev_gsb, ev_for, ev_rg1, ev_rg2, ev_its, ev_enum, ev_lc, ev_yes, ev_add_ii, ev_add_ss, ev_add_tt, ev_add_rr, ev_sub, ev_mul, ev_mod, ev_fdiv, ev_pow, ev_neg, ev_lt, ev_le, ev_gt, ev_ge, ev_eq_ii, ev_eq_ss, ev_eq_bb, ev_ne_ii, ev_ne_ss, ev_ne_bb, ev_is_n, ev_isnt_n, ev_int_i, ev_int_b, ev_min_ii, ev_max_ii, ev_abs, ev_tup_of, ev_tup_ofL, ev_lst_ofT, ev_lst_ofL, ev_len_t, ev_len_s, ev_len_r, ev_tru_b, ev_alloc, ev_tupD, ev_lstD, isi_tuple_non, isi_tuple_bl, isi_tuple_int, isi_tuple_str, isi_tuple_tup, isi_tuple_l, isi_tuple_f, isi_list_non, isi_list_bl, isi_list_int, isi_list_str, isi_list_tup, isi_list_l, isi_list_f, isi_bool_non, isi_bool_bl, isi_bool_int, isi_bool_str, isi_bool_tup, isi_bool_l, isi_bool_f, isi_int_non, isi_int_bl, isi_int_int, isi_int_str, isi_int_tup, isi_int_l, isi_int_f, isi_str_non, isi_str_bl, isi_str_int, isi_str_str, isi_str_tup, isi_str_l, isi_str_f, isi_dict_non, isi_dict_bl, isi_dict_int, isi_dict_str, isi_dict_tup, isi_dict_l, isi_dict_f, Ab.isNon, args, List.map, List.length_cons, List.length_nil, List.length_singleton, List.replicate, Nat.reduceSub, Nat.reduceAdd, Nat.zero_add, List.cons_append, List.nil_append, List.getElem?_cons_zero, List.getElem?_cons_succ, List.set_cons_zero, List.set_cons_succ, Option.some.injEq, decide_eq_true_eq, Bool.not_eq_true', decide_eq_false_iff_not, ite_true, ite_false, if_true, if_false, reduceIte, Bool.false_eq_true, Bool.not_true, Bool.not_false, Bool.true_eq_false, decide_true, decide_false, Nat.reduceLeDiff, Nat.reduceLT]
  refine sat_seq ?_
  have h1 := at_new (A := A) (o := .lst [])
  have D1 := Dr.app hs [AO.lst []]
  simp only [sat_ok, sat_bad, sat_bind, sat_ite, bind_ok, bind_bad, thn_nx, thn_rt, thn_bk, thn_ct, fin_rt, fin_nx, ev_v, ev_c, ev_op, ev_un, ev_nil, ev_cons, ev_tup, ev_lst, ev_call, ev_own, ev_sl, ev_no, ev_part, ev_and, ev_or, ev_not, ev_if, ev_t, ev_tb, ev_tnot, ev_tand, ev_tor, ev_mt, ev_mt0, ev_rgd, ev_set, ev_asg, ev_ret, ev_retN, ev_ex, ev_pass, ev_brk, ev_cont, ev_ifS, ev_aug, ev_gn, ev_gtp, ev_gnl, ev_gcs, ev_gsb, ev_for, ev_rg1, ev_rg2, ev_its, ev_enum, ev_lc, ev_yes, ev_add_ii, ev_add_ss, ev_add_tt, ev_add_rr, ev_sub, ev_mul, ev_mod, ev_fdiv, ev_pow, ev_neg, ev_lt, ev_le, ev_gt, ev_ge, ev_eq_ii, ev_eq_ss, ev_eq_bb, ev_ne_ii, ev_ne_ss, ev_ne_bb, ev_is_n, ev_isnt_n, ev_int_i, ev_int_b, ev_min_ii, ev_max_ii, ev_abs, ev_tup_of, ev_tup_ofL, ev_lst_ofT, ev_lst_ofL, ev_len_t, ev_len_s, ev_len_r, ev_tru_b, ev_alloc, ev_tupD, ev_lstD, isi_tuple_non, isi_tuple_bl, isi_tuple_int, isi_tuple_str, isi_tuple_tup, isi_tuple_l, isi_tuple_f, isi_list_non, isi_list_bl, isi_list_int, isi_list_str, isi_list_tup, isi_list_l, isi_list_f, isi_bool_non, isi_bool_bl, isi_bool_int, isi_bool_str, isi_bool_tup, isi_bool_l, isi_bool_f, isi_int_non, isi_int_bl, isi_int_int, isi_int_str, isi_int_tup, isi_int_l, isi_int_f, isi_str_non, isi_str_bl, isi_str_int, isi_str_str, isi_str_tup, isi_str_l, isi_str_f, isi_dict_non, isi_dict_bl, isi_dict_int, isi_dict_str, isi_dict_tup, isi_dict_l, isi_dict_f, Ab.isNon, args, List.map, List.length_cons, List.length_nil, List.length_singleton, List.replicate, Nat.reduceSub, Nat.reduceAdd, Nat.zero_add, List.cons_append, List.nil_append, List.getElem?_cons_zero, List.getElem?_cons_succ, List.set_cons_zero, List.set_cons_succ, Option.some.injEq, decide_eq_true_eq, Bool.not_eq_true', decide_eq_false_iff_not, ite_true, ite_false, if_true, if_false, reduceIte, Bool.false_eq_true, Bool.not_true, Bool.not_false, Bool.true_eq_false, decide_true, decide_false, Nat.reduceLeDiff, Nat.reduceLT]
  rw [if_pos (inRg_of (by omega) (by omega)), Int.toNat_natCast]
  refine range_inv (fun k σ B => Dr s A B ∧ (∃ pr : List (Int × Int), pr.length = k ∧ B[A.length]? = some (.lst (pr.map prD)) ∧ ∀ p ∈ pr, p.1 ≤ p.2 ∧ p.2 ≤ p.1 + 2000) ∧ ∃ x y, σ = [some (.ref s), some (.int (n : Nat)), some (.ref A.length), x, y])
    (fun k σ B hk ⟨DB, ⟨pr, pl, hB, ok⟩, x, y, hσ⟩ => ?_) (fun σ B ⟨DB, ⟨pr, pl, hB, ok⟩, x, y, hσ⟩ => ?_) ⟨D1, ⟨[], rfl, h1, by simp⟩, none, none, rfl⟩
  · subst hσ
    simp only [sat_ok, sat_bad, sat_bind, sat_ite, bind_ok, bind_bad, thn_nx, thn_rt, thn_bk, thn_ct, fin_rt, fin_nx, ev_v, ev_c, ev_op, ev_un, ev_nil, ev_cons, ev_tup, ev_lst, ev_call, ev_own, ev_sl, ev_no, ev_part, ev_and, ev_or, ev_not, ev_if, ev_t, ev_tb, ev_tnot, ev_tand, ev_tor, ev_mt, ev_mt0, ev_rgd, ev_set, ev_asg, ev_ret, ev_retN, ev_ex, ev_pass, ev_brk, ev_cont, ev_ifS, ev_aug, ev_gn, ev_gtp, ev_gnl, ev_gcs, ev_gsb, ev_for, ev_rg1, ev_rg2, ev_its, ev_enum, ev_lc, ev_yes, ev_add_ii, ev_add_ss, ev_add_tt, ev_add_rr, ev_sub, ev_mul, ev_mod, ev_fdiv, ev_pow, ev_neg, ev_lt, ev_le, ev_gt, ev_ge, ev_eq_ii, ev_eq_ss, ev_eq_bb, ev_ne_ii, ev_ne_ss, ev_ne_bb, ev_is_n, ev_isnt_n, ev_int_i, ev_int_b, ev_min_ii, ev_max_ii, ev_abs, ev_tup_of, ev_tup_ofL, ev_lst_ofT, ev_lst_ofL, ev_len_t, ev_len_s, ev_len_r, ev_tru_b, ev_alloc, ev_tupD, ev_lstD, isi_tuple_non, isi_tuple_bl, isi_tuple_int, isi_tuple_str, isi_tuple_tup, isi_tuple_l, isi_tuple_f, isi_list_non, isi_list_bl, isi_list_int, isi_list_str, isi_list_tup, isi_list_l, isi_list_f, isi_bool_non, isi_bool_bl, isi_bool_int, isi_bool_str, isi_bool_tup, isi_bool_l, isi_bool_f, isi_int_non, isi_int_bl, isi_int_int, isi_int_str, isi_int_tup, isi_int_l, isi_int_f, isi_str_non, isi_str_bl, isi_str_int, isi_str_str, isi_str_tup, isi_str_l, isi_str_f, isi_dict_non, isi_dict_bl, isi_dict_int, isi_dict_str, isi_dict_tup, isi_dict_l, isi_dict_f, Ab.isNon, args, List.map, List.length_cons, List.length_nil, List.length_singleton, List.replicate, Nat.reduceSub, Nat.reduceAdd, Nat.zero_add, List.cons_append, List.nil_append, List.getElem?_cons_zero, List.getElem?_cons_succ, List.set_cons_zero, List.set_cons_succ, Option.some.injEq, decide_eq_true_eq, Bool.not_eq_true', decide_eq_false_iff_not, ite_true, ite_false, if_true, if_false, reduceIte, Bool.false_eq_true, Bool.not_true, Bool.not_false, Bool.true_eq_false, decide_true, decide_false, Nat.reduceLeDiff, Nat.reduceLT]
    refine sat_seq ?_
    simp only [sat_ok, sat_bad, sat_bind, sat_ite, bind_ok, bind_bad, thn_nx, thn_rt, thn_bk, thn_ct, fin_rt, fin_nx, ev_v, ev_c, ev_op, ev_un, ev_nil, ev_cons, ev_tup, ev_lst, ev_call, ev_own, ev_sl, ev_no, ev_part, ev_and, ev_or, ev_not, ev_if, ev_t, ev_tb, ev_tnot, ev_tand, ev_tor, ev_mt, ev_mt0, ev_rgd, ev_set, ev_asg, ev_ret, ev_retN, ev_ex, ev_pass, ev_brk, ev_cont, ev_ifS, ev_aug, ev_gn, ev_gtp, ev_gnl, ev_gcs, ev_gsb, ev_for, ev_rg1, ev_rg2, ev_its, ev_enum, ev_lc, ev_yes, ev_add_ii, ev_add_ss, ev_add_tt, ev_add_rr, ev_sub, ev_mul, ev_mod, ev_fdiv, ev_pow, ev_neg, ev_lt, ev_le, ev_gt, ev_ge, ev_eq_ii, ev_eq_ss, ev_eq_bb, ev_ne_ii, ev_ne_ss, ev_ne_bb, ev_is_n, ev_isnt_n, ev_int_i, ev_int_b, ev_min_ii, ev_max_ii, ev_abs, ev_tup_of, ev_tup_ofL, ev_lst_ofT, ev_lst_ofL, ev_len_t, ev_len_s, ev_len_r, ev_tru_b, ev_alloc, ev_tupD, ev_lstD, isi_tuple_non, isi_tuple_bl, isi_tuple_int, isi_tuple_str, isi_tuple_tup, isi_tuple_l, isi_tuple_f, isi_list_non, isi_list_bl, isi_list_int, isi_list_str, isi_list_tup, isi_list_l, isi_list_f, isi_bool_non, isi_bool_bl, isi_bool_int, isi_bool_str, isi_bool_tup, isi_bool_l, isi_bool_f, isi_int_non, isi_int_bl, isi_int_int, isi_int_str, isi_int_tup, isi_int_l, isi_int_f, isi_str_non, isi_str_bl, isi_str_int, isi_str_str, isi_str_tup, isi_str_l, isi_str_f, isi_dict_non, isi_dict_bl, isi_dict_int, isi_dict_str, isi_dict_tup, isi_dict_l, isi_dict_f, Ab.isNon, args, List.map, List.length_cons, List.length_nil, List.length_singleton, List.replicate, Nat.reduceSub, Nat.reduceAdd, Nat.zero_add, List.cons_append, List.nil_append, List.getElem?_cons_zero, List.getElem?_cons_succ, List.set_cons_zero, List.set_cons_succ, Option.some.injEq, decide_eq_true_eq, Bool.not_eq_true', decide_eq_false_iff_not, ite_true, ite_false, if_true, if_false, reduceIte, Bool.false_eq_true, Bool.not_true, Bool.not_false, Bool.true_eq_false, decide_true, decide_false, Nat.reduceLeDiff, Nat.reduceLT]
    refine Sat.imp (far_spec DB.src) fun d B1 ⟨⟨lo, e⟩, dr⟩ => ?_
    subst e
    have hB := dr.keep _ _ (by omega) hB
    have DB := DB.trans dr
    simp only [sat_ok, sat_bad, sat_bind, sat_ite, bind_ok, bind_bad, thn_nx, thn_rt, thn_bk, thn_ct, fin_rt, fin_nx, ev_v, ev_c, ev_op, ev_un, ev_nil, ev_cons, ev_tup, ev_lst, ev_call, ev_own, ev_sl, ev_no, ev_part, ev_and, ev_or, ev_not, ev_if, ev_t, ev_tb, ev_tnot, ev_tand, ev_tor, ev_mt, ev_mt0, ev_rgd, ev_set, ev_asg, ev_ret, ev_retN, ev_ex, ev_pass, ev_brk, ev_cont, ev_ifS, ev_aug, ev_gn, ev_gtp, ev_gnl, ev_gcs, ev_gsb, ev_for, ev_rg1, ev_rg2, ev_its, ev_enum, ev_lc, ev_yes, ev_add_ii, ev_add_ss, ev_add_tt, ev_add_rr, ev_sub, ev_mul, ev_mod, ev_fdiv, ev_pow, ev_neg, ev_lt, ev_le, ev_gt, ev_ge, ev_eq_ii, ev_eq_ss, ev_eq_bb, ev_ne_ii, ev_ne_ss, ev_ne_bb, ev_is_n, ev_isnt_n, ev_int_i, ev_int_b, ev_min_ii, ev_max_ii, ev_abs, ev_tup_of, ev_tup_ofL, ev_lst_ofT, ev_lst_ofL, ev_len_t, ev_len_s, ev_len_r, ev_tru_b, ev_alloc, ev_tupD, ev_lstD, isi_tuple_non, isi_tuple_bl, isi_tuple_int, isi_tuple_str, isi_tuple_tup, isi_tuple_l, isi_tuple_f, isi_list_non, isi_list_bl, isi_list_int, isi_list_str, isi_list_tup, isi_list_l, isi_list_f, isi_bool_non, isi_bool_bl, isi_bool_int, isi_bool_str, isi_bool_tup, isi_bool_l, isi_bool_f, isi_int_non, isi_int_bl, isi_int_int, isi_int_str, isi_int_tup, isi_int_l, isi_int_f, isi_str_non, isi_str_bl, isi_str_int, isi_str_str, isi_str_tup, isi_str_l, isi_str_f, isi_dict_non, isi_dict_bl, isi_dict_int, isi_dict_str, isi_dict_tup, isi_dict_l, isi_dict_f, Ab.isNon, args, List.map, List.length_cons, List.length_nil, List.length_singleton, List.replicate, Nat.reduceSub, Nat.reduceAdd, Nat.zero_add, List.cons_append, List.nil_append, List.getElem?_cons_zero, List.getElem?_cons_succ, List.set_cons_zero, List.set_cons_succ, Option.some.injEq, decide_eq_true_eq, Bool.not_eq_true', decide_eq_false_iff_not, ite_true, ite_false, if_true, if_false, reduceIte, Bool.false_eq_true, Bool.not_true, Bool.not_false, Bool.true_eq_false, decide_true, decide_false, Nat.reduceLeDiff, Nat.reduceLT, ty_l hB]
    have h2 := at_new (A := B1) (o := .lst [.int 0, .int 1, .int 2, .int 4, .int 4, .int 9, .int 40, .int 2000])
    have lB := DB.src.lt
    have g := Gr.app (A := B1) (B := [.lst [.int 0, .int 1, .int 2, .int 4, .int 4, .int 9, .int 40, .int 2000]])
    refine Sat.imp (one_l (DB.src.gr g) (by omega) h2 (by simp) (by simp)) fun d B2 ⟨hd, dr2⟩ => ?_
    have hB := dr2.keep _ _ (by omega) (g.keep _ _ hB)
    have DB := DB.trans ((g.dr DB.src).trans dr2)
    obtain ⟨w, rfl, w0, w1⟩ : ∃ w : Int, d = .int w ∧ 0 ≤ w ∧ w ≤ 2000 := by
      simp only [List.mem_cons, List.not_mem_nil, or_false] at hd
      rcases hd with rfl | rfl | rfl | rfl | rfl | rfl | rfl | rfl <;> exact ⟨_, rfl, by decide, by decide⟩
    simp only [sat_ok, sat_bad, sat_bind, sat_ite, bind_ok, bind_bad, thn_nx, thn_rt, thn_bk, thn_ct, fin_rt, fin_nx, ev_v, ev_c, ev_op, ev_un, ev_nil, ev_cons, ev_tup, ev_lst, ev_call, ev_own, ev_sl, ev_no, ev_part, ev_and, ev_or, ev_not, ev_if, ev_t, ev_tb, ev_tnot, ev_tand, ev_tor, ev_mt, ev_mt0, ev_rgd, ev_set, ev_asg, ev_ret, ev_retN, ev_ex, ev_pass, ev_brk, ev_cont, ev_ifS, ev_aug, ev_gn, ev_gtp, ev_gnl, ev_gcs, ev_gsb, ev_for, ev_rg1, ev_rg2, ev_its, ev_enum, ev_lc, ev_yes, ev_add_ii, ev_add_ss, ev_add_tt, ev_add_rr, ev_sub, ev_mul, ev_mod, ev_fdiv, ev_pow, ev_neg, ev_lt, ev_le, ev_gt, ev_ge, ev_eq_ii, ev_eq_ss, ev_eq_bb, ev_ne_ii, ev_ne_ss, ev_ne_bb, ev_is_n, ev_isnt_n, ev_int_i, ev_int_b, ev_min_ii, ev_max_ii, ev_abs, ev_tup_of, ev_tup_ofL, ev_lst_ofT, ev_lst_ofL, ev_len_t, ev_len_s, ev_len_r, ev_tru_b, ev_alloc, ev_tupD, ev_lstD, isi_tuple_non, isi_tuple_bl, isi_tuple_int, isi_tuple_str, isi_tuple_tup, isi_tuple_l, isi_tuple_f, isi_list_non, isi_list_bl, isi_list_int, isi_list_str, isi_list_tup, isi_list_l, isi_list_f, isi_bool_non, isi_bool_bl, isi_bool_int, isi_bool_str, isi_bool_tup, isi_bool_l, isi_bool_f, isi_int_non, isi_int_bl, isi_int_int, isi_int_str, isi_int_tup, isi_int_l, isi_int_f, isi_str_non, isi_str_bl, isi_str_int, isi_str_str, isi_str_tup, isi_str_l, isi_str_f, isi_dict_non, isi_dict_bl, isi_dict_int, isi_dict_str, isi_dict_tup, isi_dict_l, isi_dict_f, Ab.isNon, args, List.map, List.length_cons, List.length_nil, List.length_singleton, List.replicate, Nat.reduceSub, Nat.reduceAdd, Nat.zero_add, List.cons_append, List.nil_append, List.getElem?_cons_zero, List.getElem?_cons_succ, List.set_cons_zero, List.set_cons_succ, Option.some.injEq, decide_eq_true_eq, Bool.not_eq_true', decide_eq_false_iff_not, ite_true, ite_false, if_true, if_false, reduceIte, Bool.false_eq_true, Bool.not_true, Bool.not_false, Bool.true_eq_false, decide_true, decide_false, Nat.reduceLeDiff, Nat.reduceLT]
    rw [ev_app hB (by simp; omega)]
    simp only [sat_ok, sat_bad, sat_bind, sat_ite, bind_ok, bind_bad, thn_nx, thn_rt, thn_bk, thn_ct, fin_rt, fin_nx, ev_v, ev_c, ev_op, ev_un, ev_nil, ev_cons, ev_tup, ev_lst, ev_call, ev_own, ev_sl, ev_no, ev_part, ev_and, ev_or, ev_not, ev_if, ev_t, ev_tb, ev_tnot, ev_tand, ev_tor, ev_mt, ev_mt0, ev_rgd, ev_set, ev_asg, ev_ret, ev_retN, ev_ex, ev_pass, ev_brk, ev_cont, ev_ifS, ev_aug, ev_gn, ev_gtp, ev_gnl, ev_gcs, ev_gsb, ev_for, ev_rg1, ev_rg2, ev_its, ev_enum, ev_lc, ev_yes, ev_add_ii, ev_add_ss, ev_add_tt, ev_add_rr, ev_sub, ev_mul, ev_mod, ev_fdiv, ev_pow, ev_neg, ev_lt, ev_le, ev_gt, ev_ge, ev_eq_ii, ev_eq_ss, ev_eq_bb, ev_ne_ii, ev_ne_ss, ev_ne_bb, ev_is_n, ev_isnt_n, ev_int_i, ev_int_b, ev_min_ii, ev_max_ii, ev_abs, ev_tup_of, ev_tup_ofL, ev_lst_ofT, ev_lst_ofL, ev_len_t, ev_len_s, ev_len_r, ev_tru_b, ev_alloc, ev_tupD, ev_lstD, isi_tuple_non, isi_tuple_bl, isi_tuple_int, isi_tuple_str, isi_tuple_tup, isi_tuple_l, isi_tuple_f, isi_list_non, isi_list_bl, isi_list_int, isi_list_str, isi_list_tup, isi_list_l, isi_list_f, isi_bool_non, isi_bool_bl, isi_bool_int, isi_bool_str, isi_bool_tup, isi_bool_l, isi_bool_f, isi_int_non, isi_int_bl, isi_int_int, isi_int_str, isi_int_tup, isi_int_l, isi_int_f, isi_str_non, isi_str_bl, isi_str_int, isi_str_str, isi_str_tup, isi_str_l, isi_str_f, isi_dict_non, isi_dict_bl, isi_dict_int, isi_dict_str, isi_dict_tup, isi_dict_l, isi_dict_f, Ab.isNon, args, List.map, List.length_cons, List.length_nil, List.length_singleton, List.replicate, Nat.reduceSub, Nat.reduceAdd, Nat.zero_add, List.cons_append, List.nil_append, List.getElem?_cons_zero, List.getElem?_cons_succ, List.set_cons_zero, List.set_cons_succ, Option.some.injEq, decide_eq_true_eq, Bool.not_eq_true', decide_eq_false_iff_not, ite_true, ite_false, if_true, if_false, reduceIte, Bool.false_eq_true, Bool.not_true, Bool.not_false, Bool.true_eq_false, decide_true, decide_false, Nat.reduceLeDiff, Nat.reduceLT, turn_]
    refine ⟨DB.setN (Nat.le_refl _) hs, ⟨pr ++ [(lo, lo + w)], by simp; omega, by rw [at_set (at_lt hB), List.map_append]; rfl, fun p hp => ?_⟩, _, _, rfl⟩
    rcases List.mem_append.mp hp with h | h
    · exact ok p h
    · cases List.mem_singleton.mp h
      refine ⟨?_, ?_⟩
      · show lo ≤ lo + w; omega
      · show lo + w ≤ lo + 2000; omega
  · subst hσ
    simp only [sat_ok, sat_bad, sat_bind, sat_ite, bind_ok, bind_bad, thn_nx, thn_rt, thn_bk, thn_ct, fin_rt, fin_nx, ev_v, ev_c, ev_op, ev_un, ev_nil, ev_cons, ev_tup, ev_lst, ev_call, ev_own, ev_sl, ev_no, ev_part, ev_and, ev_or, ev_not, ev_if, ev_t, ev_tb, ev_tnot, ev_tand, ev_tor, ev_mt, ev_mt0, ev_rgd, ev_set, ev_asg, ev_ret, ev_retN, ev_ex, ev_pass, ev_brk, ev_cont, ev_ifS, ev_aug, ev_gn, ev_gtp, ev_gnl, ev_gcs, ev_gsb, ev_for, ev_rg1, ev_rg2, ev_its, ev_enum, ev_lc, ev_yes, ev_add_ii, ev_add_ss, ev_add_tt, ev_add_rr, ev_sub, ev_mul, ev_mod, ev_fdiv, ev_pow, ev_neg, ev_lt, ev_le, ev_gt, ev_ge, ev_eq_ii, ev_eq_ss, ev_eq_bb, ev_ne_ii, ev_ne_ss, ev_ne_bb, ev_is_n, ev_isnt_n, ev_int_i, ev_int_b, ev_min_ii, ev_max_ii, ev_abs, ev_tup_of, ev_tup_ofL, ev_lst_ofT, ev_lst_ofL, ev_len_t, ev_len_s, ev_len_r, ev_tru_b, ev_alloc, ev_tupD, ev_lstD, isi_tuple_non, isi_tuple_bl, isi_tuple_int, isi_tuple_str, isi_tuple_tup, isi_tuple_l, isi_tuple_f, isi_list_non, isi_list_bl, isi_list_int, isi_list_str, isi_list_tup, isi_list_l, isi_list_f, isi_bool_non, isi_bool_bl, isi_bool_int, isi_bool_str, isi_bool_tup, isi_bool_l, isi_bool_f, isi_int_non, isi_int_bl, isi_int_int, isi_int_str, isi_int_tup, isi_int_l, isi_int_f, isi_str_non, isi_str_bl, isi_str_int, isi_str_str, isi_str_tup, isi_str_l, isi_str_f, isi_dict_non, isi_dict_bl, isi_dict_int, isi_dict_str, isi_dict_tup, isi_dict_l, isi_dict_f, Ab.isNon, args, List.map, List.length_cons, List.length_nil, List.length_singleton, List.replicate, Nat.reduceSub, Nat.reduceAdd, Nat.zero_add, List.cons_append, List.nil_append, List.getElem?_cons_zero, List.getElem?_cons_succ, List.set_cons_zero, List.set_cons_succ, Option.some.injEq, decide_eq_true_eq, Bool.not_eq_true', decide_eq_false_iff_not, ite_true, ite_false, if_true, if_false, reduceIte, Bool.false_eq_true, Bool.not_true, Bool.not_false, Bool.true_eq_false, decide_true, decide_false, Nat.reduceLeDiff, Nat.reduceLT, ev_tup_ofL (rdL_l hB)]
    exact ⟨⟨pr, rfl, pl, ok⟩, DB⟩
def fst0 (pr : List (Int × Int)) (i : Nat) : Int := (((0 : Int), (0 : Int)) :: pr).getD i (0, 0) |>.1
def snd0 (pr : List (Int × Int)) (i : Nat) : Int := (((0 : Int), (0 : Int)) :: pr).getD i (0, 0) |>.2
theorem full_ix {pr : List (Int × Int)} {i : Nat} (h : i < pr.length + 1) : (D.tup [.int 0, .int 0] :: pr.map prD)[i]? = some (.tup [.int (fst0 pr i), .int (snd0 pr i)]) := by
  rw [show D.tup [.int 0, .int 0] :: pr.map prD = (((0 : Int), (0 : Int)) :: pr).map prD from rfl, List.getElem?_map]
  unfold fst0 snd0
  have : i < (((0 : Int), (0 : Int)) :: pr).length := by simpa using h
  rw [List.getD_eq_getElem?_getD, List.getElem?_eq_getElem this]
  rfl
/-- points in ranges -/
def InR (pr : List (Int × Int)) (p : List Int) : Prop := p.length = pr.length ∧ ∀ k, fst0 pr k ≤ at0 p k ∧ at0 p k ≤ snd0 pr k
theorem inR_of {pr : List (Int × Int)} {q : List Int} (hl : q.length = pr.length) (h : ∀ (i : Nat) a v, pr[i]? = some a → q[i]? = some v → a.1 ≤ v ∧ v ≤ a.2) : InR pr q := by
  refine ⟨hl, fun k => ?_⟩
  cases k with
  | zero => exact ⟨Int.le_refl _, Int.le_refl _⟩
  | succ k =>
    rw [at0_s]
    unfold fst0 snd0
    rw [List.getD_eq_getElem?_getD, List.getD_eq_getElem?_getD, List.getElem?_cons_succ]
    by_cases lt : k < pr.length
    · rw [List.getElem?_eq_getElem lt, List.getElem?_eq_getElem (by omega)]
      exact h k _ _ (List.getElem?_eq_getElem lt) (List.getElem?_eq_getElem (by omega))
    · rw [List.getElem?_eq_none (by omega), List.getElem?_eq_none (by omega)]
      exact ⟨Int.le_refl _, Int.le_refl _⟩
theorem points_spec {A : AH} {s n : Nat} {pr : List (Int × Int)} (hs : Sr s A) (hn : n ≤ 20) (hp : RgL n pr) : Sat (m__law_points [.ref s, .tup (pr.map prD)] A) fun d A' => Dr s A A' ∧ ∃ (r : Nat) (ps : List (List Int)), d = .ref r ∧ A.length ≤ r ∧ A'[r]? = some (.lst (ps.map ptD)) ∧ ps ≠ [] ∧ ps.length ≤ 100 ∧ ∀ p ∈ ps, InR pr p := by
  have sl := hs.lt
  obtain ⟨pl, pok⟩ := hp
  refine sat_body rfl (sat_seq ?_)
  simp only [sat_ok, sat_bad, sat_bind, sat_ite, bind_ok, bind_bad, thn_nx, thn_rt, thn_bk, thn_ct, fin_rt, fin_nx, ev_v, ev_c, ev_op, ev_un, ev_nil, ev_cons, ev_tup, ev_lst, ev_call, ev_own, ev_sl, ev_no, ev_part, ev_and, ev_or, ev_not, ev_if, ev_t, ev_tb, ev_tnot, ev_tand, ev_tor, ev_mt, ev_mt0, ev_rgd, ev_set, ev_asg, ev_ret, ev_retN, ev_ex, ev_pass, ev_brk, ev_cont, ev_ifS, ev_aug, ev_gn, ev_gtp, ev_gnl, ev_gcs, ev_gsb, ev_for, ev_rg1, ev_rg2, ev_its, ev_enum, ev_lc, ev_yes, ev_add_ii, ev_add_ss, ev_add_tt, ev_add_rr, ev_sub, ev_mul, ev_mod, ev_fdiv, ev_pow, ev_neg, ev_lt, ev_le, ev_gt, ev_ge, ev_eq_ii, ev_eq_ss, ev_eq_bb, ev_ne_ii, ev_ne_ss, ev_ne_bb, ev_is_n, ev_isnt_n, ev_int_i, ev_int_b, ev_min_ii, ev_max_ii, ev_abs, ev_tup_of, ev_tup_ofL, ev_lst_ofT, ev_lst_ofL, ev_len_t, ev_len_s, ev_len_r, ev_tru_b, ev_alloc, ev_tupD, ev_lstD, isi_tuple_non, isi_tuple_bl, isi_tuple_int, isi_tuple_str, isi_tuple_tup, isi_tuple_l, isi_tuple_f, isi_list_non, isi_list_bl, isi_list_int, isi_list_str, isi_list_tup, isi_list_l, isi_list_f, isi_bool_non, isi_bool_bl, isi_bool_int, isi_bool_str, isi_bool_tup, isi_bool_l, isi_bool_f, isi_int_non, isi_int_bl, isi_int_int, isi_int_str, isi_int_tup, isi_int_l, isi_int_f, isi_str_non, isi_str_bl, isi_str_int, isi_str_str, isi_str_tup, isi_str_l, isi_str_f, isi_dict_non, isi_dict_bl, isi_dict_int, isi_dict_str, isi_dict_tup, isi_dict_l, isi_dict_f, Ab.isNon, args, List.map, List.length_cons, List.length_nil, List.length_singleton, List.replicate, Nat.reduceSub, Nat.reduceAdd, Nat.zero_add, List.cons_append, List.nil_append, List.getElem?_cons_zero, List.getElem?_cons_succ, List.set_cons_zero, List.set_cons_succ, Option.some.injEq, decide_eq_true_eq, Bool.not_eq_true', decide_eq_false_iff_not, ite_true, ite_false, if_true, if_false, reduceIte, Bool.false_eq_true, Bool.not_true, Bool.not_false, Bool.true_eq_false, decide_true, decide_false, Nat.reduceLeDiff, Nat.reduceLT]
  refine sat_seq ?_
  have h1 := at_new (A := A) (o := .lst [])
  have D1 := Dr.app hs [AO.lst []]
  generalize A ++ [AO.lst []] = A1 at *
  have ln : lenD [.tup (pr.map prD)] A1 = .ok (.int (n : Nat)) A1 := by rw [ev_len_t]; simp [pl]
  simp only [sat_ok, sat_bad, sat_bind, sat_ite, bind_ok, bind_bad, thn_nx, thn_rt, thn_bk, thn_ct, fin_rt, fin_nx, ev_v, ev_c, ev_op, ev_un, ev_nil, ev_cons, ev_tup, ev_lst, ev_call, ev_own, ev_sl, ev_no, ev_part, ev_and, ev_or, ev_not, ev_if, ev_t, ev_tb, ev_tnot, ev_tand, ev_tor, ev_mt, ev_mt0, ev_rgd, ev_set, ev_asg, ev_ret, ev_retN, ev_ex, ev_pass, ev_brk, ev_cont, ev_ifS, ev_aug, ev_gn, ev_gtp, ev_gnl, ev_gcs, ev_gsb, ev_for, ev_rg1, ev_rg2, ev_its, ev_enum, ev_lc, ev_yes, ev_add_ii, ev_add_ss, ev_add_tt, ev_add_rr, ev_sub, ev_mul, ev_mod, ev_fdiv, ev_pow, ev_neg, ev_lt, ev_le, ev_gt, ev_ge, ev_eq_ii, ev_eq_ss, ev_eq_bb, ev_ne_ii, ev_ne_ss, ev_ne_bb, ev_is_n, ev_isnt_n, ev_int_i, ev_int_b, ev_min_ii, ev_max_ii, ev_abs, ev_tup_of, ev_tup_ofL, ev_lst_ofT, ev_lst_ofL, ev_len_t, ev_len_s, ev_len_r, ev_tru_b, ev_alloc, ev_tupD, ev_lstD, isi_tuple_non, isi_tuple_bl, isi_tuple_int, isi_tuple_str, isi_tuple_tup, isi_tuple_l, isi_tuple_f, isi_list_non, isi_list_bl, isi_list_int, isi_list_str, isi_list_tup, isi_list_l, isi_list_f, isi_bool_non, isi_bool_bl, isi_bool_int, isi_bool_str, isi_bool_tup, isi_bool_l, isi_bool_f, isi_int_non, isi_int_bl, isi_int_int, isi_int_str, isi_int_tup, isi_int_l, isi_int_f, isi_str_non, isi_str_bl, isi_str_int, isi_str_str, isi_str_tup, isi_str_l, isi_str_f, isi_dict_non, isi_dict_bl, isi_dict_int, isi_dict_str, isi_dict_tup, isi_dict_l, isi_dict_f, Ab.isNon, args, List.map, List.length_cons, List.length_nil, List.length_singleton, List.replicate, Nat.reduceSub, Nat.reduceAdd, Nat.zero_add, List.cons_append, List.nil_append, List.getElem?_cons_zero, List.getElem?_cons_succ, List.set_cons_zero, List.set_cons_succ, Option.some.injEq, decide_eq_true_eq, Bool.not_eq_true', decide_eq_false_iff_not, ite_true, ite_false, if_true, if_false, reduceIte, Bool.false_eq_true, Bool.not_true, Bool.not_false, Bool.true_eq_false, decide_true, decide_false, Nat.reduceLeDiff, Nat.reduceLT, ln]
  generalize hm : (if (n : Int) + 1 > 4 then (n : Int) + 1 else 4) = m
  have m0 : 4 ≤ m ∧ m ≤ 50 := by rw [← hm]; split <;> omega
  have mx1 : maxD [.int 4, .int ((n : Int) + 1)] A1 = .ok (.int m) A1 := by rw [ev_max_ii, hm]
  first | simp only [List.length_map, pl] | skip
  simp only [hm, sat_ok, sat_bad, sat_bind, sat_ite, bind_ok, bind_bad, thn_nx, thn_rt, thn_bk, thn_ct, fin_rt, fin_nx, ev_v, ev_c, ev_op, ev_un, ev_nil, ev_cons, ev_tup, ev_lst, ev_call, ev_own, ev_sl, ev_no, ev_part, ev_and, ev_or, ev_not, ev_if, ev_t, ev_tb, ev_tnot, ev_tand, ev_tor, ev_mt, ev_mt0, ev_rgd, ev_set, ev_asg, ev_ret, ev_retN, ev_ex, ev_pass, ev_brk, ev_cont, ev_ifS, ev_aug, ev_gn, ev_gtp, ev_gnl, ev_gcs, ev_gsb, ev_for, ev_rg1, ev_rg2, ev_its, ev_enum, ev_lc, ev_yes, ev_add_ii, ev_add_ss, ev_add_tt, ev_add_rr, ev_sub, ev_mul, ev_mod, ev_fdiv, ev_pow, ev_neg, ev_lt, ev_le, ev_gt, ev_ge, ev_eq_ii, ev_eq_ss, ev_eq_bb, ev_ne_ii, ev_ne_ss, ev_ne_bb, ev_is_n, ev_isnt_n, ev_int_i, ev_int_b, ev_min_ii, ev_max_ii, ev_abs, ev_tup_of, ev_tup_ofL, ev_lst_ofT, ev_lst_ofL, ev_len_t, ev_len_s, ev_len_r, ev_tru_b, ev_alloc, ev_tupD, ev_lstD, isi_tuple_non, isi_tuple_bl, isi_tuple_int, isi_tuple_str, isi_tuple_tup, isi_tuple_l, isi_tuple_f, isi_list_non, isi_list_bl, isi_list_int, isi_list_str, isi_list_tup, isi_list_l, isi_list_f, isi_bool_non, isi_bool_bl, isi_bool_int, isi_bool_str, isi_bool_tup, isi_bool_l, isi_bool_f, isi_int_non, isi_int_bl, isi_int_int, isi_int_str, isi_int_tup, isi_int_l, isi_int_f, isi_str_non, isi_str_bl, isi_str_int, isi_str_str, isi_str_tup, isi_str_l, isi_str_f, isi_dict_non, isi_dict_bl, isi_dict_int, isi_dict_str, isi_dict_tup, isi_dict_l, isi_dict_f, Ab.isNon, args, List.map, List.length_cons, List.length_nil, List.length_singleton, List.replicate, Nat.reduceSub, Nat.reduceAdd, Nat.zero_add, List.cons_append, List.nil_append, List.getElem?_cons_zero, List.getElem?_cons_succ, List.set_cons_zero, List.set_cons_succ, Option.some.injEq, decide_eq_true_eq, Bool.not_eq_true', decide_eq_false_iff_not, ite_true, ite_false, if_true, if_false, reduceIte, Bool.false_eq_true, Bool.not_true, Bool.not_false, Bool.true_eq_false, decide_true, decide_false, Nat.reduceLeDiff, Nat.reduceLT]
  refine Sat.imp (pick_pos D1.src (n := m) (by omega) (by omega)) fun d A2 ⟨⟨w, e, w0, w1⟩, dr⟩ => ?_
  subst e
  have h2 := dr.keep _ _ (by omega) h1
  have D2 := D1.trans dr
  obtain ⟨N, hN⟩ : ∃ N : Nat, 1 + w = (N : Nat) := ⟨(1 + w).toNat, by omega⟩
  simp only [sat_ok, sat_bad, sat_bind, sat_ite, bind_ok, bind_bad, thn_nx, thn_rt, thn_bk, thn_ct, fin_rt, fin_nx, ev_v, ev_c, ev_op, ev_un, ev_nil, ev_cons, ev_tup, ev_lst, ev_call, ev_own, ev_sl, ev_no, ev_part, ev_and, ev_or, ev_not, ev_if, ev_t, ev_tb, ev_tnot, ev_tand, ev_tor, ev_mt, ev_mt0, ev_rgd, ev_set, ev_asg, ev_ret, ev_retN, ev_ex, ev_pass, ev_brk, ev_cont, ev_ifS, ev_aug, ev_gn, ev_gtp, ev_gnl, ev_gcs, ev_gsb, ev_for, ev_rg1, ev_rg2, ev_its, ev_enum, ev_lc, ev_yes, ev_add_ii, ev_add_ss, ev_add_tt, ev_add_rr, ev_sub, ev_mul, ev_mod, ev_fdiv, ev_pow, ev_neg, ev_lt, ev_le, ev_gt, ev_ge, ev_eq_ii, ev_eq_ss, ev_eq_bb, ev_ne_ii, ev_ne_ss, ev_ne_bb, ev_is_n, ev_isnt_n, ev_int_i, ev_int_b, ev_min_ii, ev_max_ii, ev_abs, ev_tup_of, ev_tup_ofL, ev_lst_ofT, ev_lst_ofL, ev_len_t, ev_len_s, ev_len_r, ev_tru_b, ev_alloc, ev_tupD, ev_lstD, isi_tuple_non, isi_tuple_bl, isi_tuple_int, isi_tuple_str, isi_tuple_tup, isi_tuple_l, isi_tuple_f, isi_list_non, isi_list_bl, isi_list_int, isi_list_str, isi_list_tup, isi_list_l, isi_list_f, isi_bool_non, isi_bool_bl, isi_bool_int, isi_bool_str, isi_bool_tup, isi_bool_l, isi_bool_f, isi_int_non, isi_int_bl, isi_int_int, isi_int_str, isi_int_tup, isi_int_l, isi_int_f, isi_str_non, isi_str_bl, isi_str_int, isi_str_str, isi_str_tup, isi_str_l, isi_str_f, isi_dict_non, isi_dict_bl, isi_dict_int, isi_dict_str, isi_dict_tup, isi_dict_l, isi_dict_f, Ab.isNon, args, List.map, List.length_cons, List.length_nil, List.length_singleton, List.replicate, Nat.reduceSub, Nat.reduceAdd, Nat.zero_add, List.cons_append, List.nil_append, List.getElem?_cons_zero, List.getElem?_cons_succ, List.set_cons_zero, List.set_cons_succ, Option.some.injEq, decide_eq_true_eq, Bool.not_eq_true', decide_eq_false_iff_not, ite_true, ite_false, if_true, if_false, reduceIte, Bool.false_eq_true, Bool.not_true, Bool.not_false, Bool.true_eq_false, decide_true, decide_false, Nat.reduceLeDiff, Nat.reduceLT, hN]
  rw [if_pos (inRg_of (by omega) (by omega)), Int.toNat_natCast]
  refine range_inv (fun k σ B => Dr s A B ∧ (∃ ps : List (List Int), ps.length = k ∧ B[A.length]? = some (.lst (ps.map ptD)) ∧ ∀ p ∈ ps, InR pr p) ∧ ∃ x, σ = [some (.ref s), some (.tup (pr.map prD)), some (.ref A.length), x, none])
    (fun k σ B hk ⟨DB, ⟨ps, pk, hB, ok⟩, x, hσ⟩ => ?_) (fun σ B ⟨DB, ⟨ps, pk, hB, ok⟩, x, hσ⟩ => ?_) ⟨D2, ⟨[], rfl, h2, by simp⟩, none, rfl⟩
  · subst hσ
    have i0 : ∀ (p : Int × Int) A, ixD (prD p) (.int 0) A = .ok (.int p.1) A := fun p A => ev_ix_t (by rw [atI_pos (by decide)]; rfl)
    have i1 : ∀ (p : Int × Int) A, ixD (prD p) (.int 1) A = .ok (.int p.2) A := fun p A => ev_ix_t (by rw [atI_pos (by decide)]; rfl)
    simp only [sat_ok, sat_bad, sat_bind, sat_ite, bind_ok, bind_bad, thn_nx, thn_rt, thn_bk, thn_ct, fin_rt, fin_nx, ev_v, ev_c, ev_op, ev_un, ev_nil, ev_cons, ev_tup, ev_lst, ev_call, ev_own, ev_sl, ev_no, ev_part, ev_and, ev_or, ev_not, ev_if, ev_t, ev_tb, ev_tnot, ev_tand, ev_tor, ev_mt, ev_mt0, ev_rgd, ev_set, ev_asg, ev_ret, ev_retN, ev_ex, ev_pass, ev_brk, ev_cont, ev_ifS, ev_aug, ev_gn, ev_gtp, ev_gnl, ev_gcs, ev_gsb, ev_for, ev_rg1, ev_rg2, ev_its, ev_enum, ev_lc, ev_yes, ev_add_ii, ev_add_ss, ev_add_tt, ev_add_rr, ev_sub, ev_mul, ev_mod, ev_fdiv, ev_pow, ev_neg, ev_lt, ev_le, ev_gt, ev_ge, ev_eq_ii, ev_eq_ss, ev_eq_bb, ev_ne_ii, ev_ne_ss, ev_ne_bb, ev_is_n, ev_isnt_n, ev_int_i, ev_int_b, ev_min_ii, ev_max_ii, ev_abs, ev_tup_of, ev_tup_ofL, ev_lst_ofT, ev_lst_ofL, ev_len_t, ev_len_s, ev_len_r, ev_tru_b, ev_alloc, ev_tupD, ev_lstD, isi_tuple_non, isi_tuple_bl, isi_tuple_int, isi_tuple_str, isi_tuple_tup, isi_tuple_l, isi_tuple_f, isi_list_non, isi_list_bl, isi_list_int, isi_list_str, isi_list_tup, isi_list_l, isi_list_f, isi_bool_non, isi_bool_bl, isi_bool_int, isi_bool_str, isi_bool_tup, isi_bool_l, isi_bool_f, isi_int_non, isi_int_bl, isi_int_int, isi_int_str, isi_int_tup, isi_int_l, isi_int_f, isi_str_non, isi_str_bl, isi_str_int, isi_str_str, isi_str_tup, isi_str_l, isi_str_f, isi_dict_non, isi_dict_bl, isi_dict_int, isi_dict_str, isi_dict_tup, isi_dict_l, isi_dict_f, Ab.isNon, args, List.map, List.length_cons, List.length_nil, List.length_singleton, List.replicate, Nat.reduceSub, Nat.reduceAdd, Nat.zero_add, List.cons_append, List.nil_append, List.getElem?_cons_zero, List.getElem?_cons_succ, List.set_cons_zero, List.set_cons_succ, Option.some.injEq, decide_eq_true_eq, Bool.not_eq_true', decide_eq_false_iff_not, ite_true, ite_false, if_true, if_false, reduceIte, Bool.false_eq_true, Bool.not_true, Bool.not_false, Bool.true_eq_false, decide_true, decide_false, Nat.reduceLeDiff, Nat.reduceLT, ty_l hB, ev_iseq_t, wipeA]
    refine comp_drawL prD (s := s) (fun a v => a.1 ≤ v ∧ v ≤ a.2) DB.src (fun _ _ => trivial) (fun a ha C DC => ?_) (by omega) fun q C ql qok DC hC => ?_
    · have aok := pok a ha
      simp only [sat_ok, sat_bad, sat_bind, sat_ite, bind_ok, bind_bad, thn_nx, thn_rt, thn_bk, thn_ct, fin_rt, fin_nx, ev_v, ev_c, ev_op, ev_un, ev_nil, ev_cons, ev_tup, ev_lst, ev_call, ev_own, ev_sl, ev_no, ev_part, ev_and, ev_or, ev_not, ev_if, ev_t, ev_tb, ev_tnot, ev_tand, ev_tor, ev_mt, ev_mt0, ev_rgd, ev_set, ev_asg, ev_ret, ev_retN, ev_ex, ev_pass, ev_brk, ev_cont, ev_ifS, ev_aug, ev_gn, ev_gtp, ev_gnl, ev_gcs, ev_gsb, ev_for, ev_rg1, ev_rg2, ev_its, ev_enum, ev_lc, ev_yes, ev_add_ii, ev_add_ss, ev_add_tt, ev_add_rr, ev_sub, ev_mul, ev_mod, ev_fdiv, ev_pow, ev_neg, ev_lt, ev_le, ev_gt, ev_ge, ev_eq_ii, ev_eq_ss, ev_eq_bb, ev_ne_ii, ev_ne_ss, ev_ne_bb, ev_is_n, ev_isnt_n, ev_int_i, ev_int_b, ev_min_ii, ev_max_ii, ev_abs, ev_tup_of, ev_tup_ofL, ev_lst_ofT, ev_lst_ofL, ev_len_t, ev_len_s, ev_len_r, ev_tru_b, ev_alloc, ev_tupD, ev_lstD, isi_tuple_non, isi_tuple_bl, isi_tuple_int, isi_tuple_str, isi_tuple_tup, isi_tuple_l, isi_tuple_f, isi_list_non, isi_list_bl, isi_list_int, isi_list_str, isi_list_tup, isi_list_l, isi_list_f, isi_bool_non, isi_bool_bl, isi_bool_int, isi_bool_str, isi_bool_tup, isi_bool_l, isi_bool_f, isi_int_non, isi_int_bl, isi_int_int, isi_int_str, isi_int_tup, isi_int_l, isi_int_f, isi_str_non, isi_str_bl, isi_str_int, isi_str_str, isi_str_tup, isi_str_l, isi_str_f, isi_dict_non, isi_dict_bl, isi_dict_int, isi_dict_str, isi_dict_tup, isi_dict_l, isi_dict_f, Ab.isNon, args, List.map, List.length_cons, List.length_nil, List.length_singleton, List.replicate, Nat.reduceSub, Nat.reduceAdd, Nat.zero_add, List.cons_append, List.nil_append, List.getElem?_cons_zero, List.getElem?_cons_succ, List.set_cons_zero, List.set_cons_succ, Option.some.injEq, decide_eq_true_eq, Bool.not_eq_true', decide_eq_false_iff_not, ite_true, ite_false, if_true, if_false, reduceIte, Bool.false_eq_true, Bool.not_true, Bool.not_false, Bool.true_eq_false, decide_true, decide_false, Nat.reduceLeDiff, Nat.reduceLT]
      refine ⟨by first | trivial | rfl, ?_⟩
      unfold DrwS
      simp only [sat_ok, sat_bad, sat_bind, sat_ite, bind_ok, bind_bad, thn_nx, thn_rt, thn_bk, thn_ct, fin_rt, fin_nx, ev_v, ev_c, ev_op, ev_un, ev_nil, ev_cons, ev_tup, ev_lst, ev_call, ev_own, ev_sl, ev_no, ev_part, ev_and, ev_or, ev_not, ev_if, ev_t, ev_tb, ev_tnot, ev_tand, ev_tor, ev_mt, ev_mt0, ev_rgd, ev_set, ev_asg, ev_ret, ev_retN, ev_ex, ev_pass, ev_brk, ev_cont, ev_ifS, ev_aug, ev_gn, ev_gtp, ev_gnl, ev_gcs, ev_gsb, ev_for, ev_rg1, ev_rg2, ev_its, ev_enum, ev_lc, ev_yes, ev_add_ii, ev_add_ss, ev_add_tt, ev_add_rr, ev_sub, ev_mul, ev_mod, ev_fdiv, ev_pow, ev_neg, ev_lt, ev_le, ev_gt, ev_ge, ev_eq_ii, ev_eq_ss, ev_eq_bb, ev_ne_ii, ev_ne_ss, ev_ne_bb, ev_is_n, ev_isnt_n, ev_int_i, ev_int_b, ev_min_ii, ev_max_ii, ev_abs, ev_tup_of, ev_tup_ofL, ev_lst_ofT, ev_lst_ofL, ev_len_t, ev_len_s, ev_len_r, ev_tru_b, ev_alloc, ev_tupD, ev_lstD, isi_tuple_non, isi_tuple_bl, isi_tuple_int, isi_tuple_str, isi_tuple_tup, isi_tuple_l, isi_tuple_f, isi_list_non, isi_list_bl, isi_list_int, isi_list_str, isi_list_tup, isi_list_l, isi_list_f, isi_bool_non, isi_bool_bl, isi_bool_int, isi_bool_str, isi_bool_tup, isi_bool_l, isi_bool_f, isi_int_non, isi_int_bl, isi_int_int, isi_int_str, isi_int_tup, isi_int_l, isi_int_f, isi_str_non, isi_str_bl, isi_str_int, isi_str_str, isi_str_tup, isi_str_l, isi_str_f, isi_dict_non, isi_dict_bl, isi_dict_int, isi_dict_str, isi_dict_tup, isi_dict_l, isi_dict_f, Ab.isNon, args, List.map, List.length_cons, List.length_nil, List.length_singleton, List.replicate, Nat.reduceSub, Nat.reduceAdd, Nat.zero_add, List.cons_append, List.nil_append, List.getElem?_cons_zero, List.getElem?_cons_succ, List.set_cons_zero, List.set_cons_succ, Option.some.injEq, decide_eq_true_eq, Bool.not_eq_true', decide_eq_false_iff_not, ite_true, ite_false, if_true, if_false, reduceIte, Bool.false_eq_true, Bool.not_true, Bool.not_false, Bool.true_eq_false, decide_true, decide_false, Nat.reduceLeDiff, Nat.reduceLT, i0, i1]
      refine Sat.imp (pick_pos DC.src (n := a.2 - a.1 + 1) (by omega) (by omega)) fun d C2 ⟨⟨v, e, v0, v1⟩, dr⟩ => ?_
      subst e
      simp only [sat_ok, sat_bad, sat_bind, sat_ite, bind_ok, bind_bad, thn_nx, thn_rt, thn_bk, thn_ct, fin_rt, fin_nx, ev_v, ev_c, ev_op, ev_un, ev_nil, ev_cons, ev_tup, ev_lst, ev_call, ev_own, ev_sl, ev_no, ev_part, ev_and, ev_or, ev_not, ev_if, ev_t, ev_tb, ev_tnot, ev_tand, ev_tor, ev_mt, ev_mt0, ev_rgd, ev_set, ev_asg, ev_ret, ev_retN, ev_ex, ev_pass, ev_brk, ev_cont, ev_ifS, ev_aug, ev_gn, ev_gtp, ev_gnl, ev_gcs, ev_gsb, ev_for, ev_rg1, ev_rg2, ev_its, ev_enum, ev_lc, ev_yes, ev_add_ii, ev_add_ss, ev_add_tt, ev_add_rr, ev_sub, ev_mul, ev_mod, ev_fdiv, ev_pow, ev_neg, ev_lt, ev_le, ev_gt, ev_ge, ev_eq_ii, ev_eq_ss, ev_eq_bb, ev_ne_ii, ev_ne_ss, ev_ne_bb, ev_is_n, ev_isnt_n, ev_int_i, ev_int_b, ev_min_ii, ev_max_ii, ev_abs, ev_tup_of, ev_tup_ofL, ev_lst_ofT, ev_lst_ofL, ev_len_t, ev_len_s, ev_len_r, ev_tru_b, ev_alloc, ev_tupD, ev_lstD, isi_tuple_non, isi_tuple_bl, isi_tuple_int, isi_tuple_str, isi_tuple_tup, isi_tuple_l, isi_tuple_f, isi_list_non, isi_list_bl, isi_list_int, isi_list_str, isi_list_tup, isi_list_l, isi_list_f, isi_bool_non, isi_bool_bl, isi_bool_int, isi_bool_str, isi_bool_tup, isi_bool_l, isi_bool_f, isi_int_non, isi_int_bl, isi_int_int, isi_int_str, isi_int_tup, isi_int_l, isi_int_f, isi_str_non, isi_str_bl, isi_str_int, isi_str_str, isi_str_tup, isi_str_l, isi_str_f, isi_dict_non, isi_dict_bl, isi_dict_int, isi_dict_str, isi_dict_tup, isi_dict_l, isi_dict_f, Ab.isNon, args, List.map, List.length_cons, List.length_nil, List.length_singleton, List.replicate, Nat.reduceSub, Nat.reduceAdd, Nat.zero_add, List.cons_append, List.nil_append, List.getElem?_cons_zero, List.getElem?_cons_succ, List.set_cons_zero, List.set_cons_succ, Option.some.injEq, decide_eq_true_eq, Bool.not_eq_true', decide_eq_false_iff_not, ite_true, ite_false, if_true, if_false, reduceIte, Bool.false_eq_true, Bool.not_true, Bool.not_false, Bool.true_eq_false, decide_true, decide_false, Nat.reduceLeDiff, Nat.reduceLT]
      exact ⟨⟨_, rfl, by omega, by omega⟩, dr⟩
    · have hC2 := DC.keep _ _ (by omega) hB
      simp only [sat_ok, sat_bad, sat_bind, sat_ite, bind_ok, bind_bad, thn_nx, thn_rt, thn_bk, thn_ct, fin_rt, fin_nx, ev_v, ev_c, ev_op, ev_un, ev_nil, ev_cons, ev_tup, ev_lst, ev_call, ev_own, ev_sl, ev_no, ev_part, ev_and, ev_or, ev_not, ev_if, ev_t, ev_tb, ev_tnot, ev_tand, ev_tor, ev_mt, ev_mt0, ev_rgd, ev_set, ev_asg, ev_ret, ev_retN, ev_ex, ev_pass, ev_brk, ev_cont, ev_ifS, ev_aug, ev_gn, ev_gtp, ev_gnl, ev_gcs, ev_gsb, ev_for, ev_rg1, ev_rg2, ev_its, ev_enum, ev_lc, ev_yes, ev_add_ii, ev_add_ss, ev_add_tt, ev_add_rr, ev_sub, ev_mul, ev_mod, ev_fdiv, ev_pow, ev_neg, ev_lt, ev_le, ev_gt, ev_ge, ev_eq_ii, ev_eq_ss, ev_eq_bb, ev_ne_ii, ev_ne_ss, ev_ne_bb, ev_is_n, ev_isnt_n, ev_int_i, ev_int_b, ev_min_ii, ev_max_ii, ev_abs, ev_tup_of, ev_tup_ofL, ev_lst_ofT, ev_lst_ofL, ev_len_t, ev_len_s, ev_len_r, ev_tru_b, ev_alloc, ev_tupD, ev_lstD, isi_tuple_non, isi_tuple_bl, isi_tuple_int, isi_tuple_str, isi_tuple_tup, isi_tuple_l, isi_tuple_f, isi_list_non, isi_list_bl, isi_list_int, isi_list_str, isi_list_tup, isi_list_l, isi_list_f, isi_bool_non, isi_bool_bl, isi_bool_int, isi_bool_str, isi_bool_tup, isi_bool_l, isi_bool_f, isi_int_non, isi_int_bl, isi_int_int, isi_int_str, isi_int_tup, isi_int_l, isi_int_f, isi_str_non, isi_str_bl, isi_str_int, isi_str_str, isi_str_tup, isi_str_l, isi_str_f, isi_dict_non, isi_dict_bl, isi_dict_int, isi_dict_str, isi_dict_tup, isi_dict_l, isi_dict_f, Ab.isNon, args, List.map, List.length_cons, List.length_nil, List.length_singleton, List.replicate, Nat.reduceSub, Nat.reduceAdd, Nat.zero_add, List.cons_append, List.nil_append, List.getElem?_cons_zero, List.getElem?_cons_succ, List.set_cons_zero, List.set_cons_succ, Option.some.injEq, decide_eq_true_eq, Bool.not_eq_true', decide_eq_false_iff_not, ite_true, ite_false, if_true, if_false, reduceIte, Bool.false_eq_true, Bool.not_true, Bool.not_false, Bool.true_eq_false, decide_true, decide_false, Nat.reduceLeDiff, Nat.reduceLT, ev_tup_ofL (rdL_l hC)]
      rw [ev_app hC2 (by simp; omega)]
      simp only [sat_ok, sat_bad, sat_bind, sat_ite, bind_ok, bind_bad, thn_nx, thn_rt, thn_bk, thn_ct, fin_rt, fin_nx, ev_v, ev_c, ev_op, ev_un, ev_nil, ev_cons, ev_tup, ev_lst, ev_call, ev_own, ev_sl, ev_no, ev_part, ev_and, ev_or, ev_not, ev_if, ev_t, ev_tb, ev_tnot, ev_tand, ev_tor, ev_mt, ev_mt0, ev_rgd, ev_set, ev_asg, ev_ret, ev_retN, ev_ex, ev_pass, ev_brk, ev_cont, ev_ifS, ev_aug, ev_gn, ev_gtp, ev_gnl, ev_gcs, ev_gsb, ev_for, ev_rg1, ev_rg2, ev_its, ev_enum, ev_lc, ev_yes, ev_add_ii, ev_add_ss, ev_add_tt, ev_add_rr, ev_sub, ev_mul, ev_mod, ev_fdiv, ev_pow, ev_neg, ev_lt, ev_le, ev_gt, ev_ge, ev_eq_ii, ev_eq_ss, ev_eq_bb, ev_ne_ii, ev_ne_ss, ev_ne_bb, ev_is_n, ev_isnt_n, ev_int_i, ev_int_b, ev_min_ii, ev_max_ii, ev_abs, ev_tup_of, ev_tup_ofL, ev_lst_ofT, ev_lst_ofL, ev_len_t, ev_len_s, ev_len_r, ev_tru_b, ev_alloc, ev_tupD, ev_lstD, isi_tuple_non, isi_tuple_bl, isi_tuple_int, isi_tuple_str, isi_tuple_tup, isi_tuple_l, isi_tuple_f, isi_list_non, isi_list_bl, isi_list_int, isi_list_str, isi_list_tup, isi_list_l, isi_list_f, isi_bool_non, isi_bool_bl, isi_bool_int, isi_bool_str, isi_bool_tup, isi_bool_l, isi_bool_f, isi_int_non, isi_int_bl, isi_int_int, isi_int_str, isi_int_tup, isi_int_l, isi_int_f, isi_str_non, isi_str_bl, isi_str_int, isi_str_str, isi_str_tup, isi_str_l, isi_str_f, isi_dict_non, isi_dict_bl, isi_dict_int, isi_dict_str, isi_dict_tup, isi_dict_l, isi_dict_f, Ab.isNon, args, List.map, List.length_cons, List.length_nil, List.length_singleton, List.replicate, Nat.reduceSub, Nat.reduceAdd, Nat.zero_add, List.cons_append, List.nil_append, List.getElem?_cons_zero, List.getElem?_cons_succ, List.set_cons_zero, List.set_cons_succ, Option.some.injEq, decide_eq_true_eq, Bool.not_eq_true', decide_eq_false_iff_not, ite_true, ite_false, if_true, if_false, reduceIte, Bool.false_eq_true, Bool.not_true, Bool.not_false, Bool.true_eq_false, decide_true, decide_false, Nat.reduceLeDiff, Nat.reduceLT, turn_]
      refine ⟨(DB.trans DC).setN (Nat.le_refl _) hs, ⟨ps ++ [q], by simp; omega, by rw [at_set (at_lt hC2), List.map_append]; rfl, fun p hp => ?_⟩, _, rfl⟩
      rcases List.mem_append.mp hp with h | h
      · exact ok p h
      · cases List.mem_singleton.mp h; exact inR_of ql qok
  · subst hσ
    simp only [sat_ok, sat_bad, sat_bind, sat_ite, bind_ok, bind_bad, thn_nx, thn_rt, thn_bk, thn_ct, fin_rt, fin_nx, ev_v, ev_c, ev_op, ev_un, ev_nil, ev_cons, ev_tup, ev_lst, ev_call, ev_own, ev_sl, ev_no, ev_part, ev_and, ev_or, ev_not, ev_if, ev_t, ev_tb, ev_tnot, ev_tand, ev_tor, ev_mt, ev_mt0, ev_rgd, ev_set, ev_asg, ev_ret, ev_retN, ev_ex, ev_pass, ev_brk, ev_cont, ev_ifS, ev_aug, ev_gn, ev_gtp, ev_gnl, ev_gcs, ev_gsb, ev_for, ev_rg1, ev_rg2, ev_its, ev_enum, ev_lc, ev_yes, ev_add_ii, ev_add_ss, ev_add_tt, ev_add_rr, ev_sub, ev_mul, ev_mod, ev_fdiv, ev_pow, ev_neg, ev_lt, ev_le, ev_gt, ev_ge, ev_eq_ii, ev_eq_ss, ev_eq_bb, ev_ne_ii, ev_ne_ss, ev_ne_bb, ev_is_n, ev_isnt_n, ev_int_i, ev_int_b, ev_min_ii, ev_max_ii, ev_abs, ev_tup_of, ev_tup_ofL, ev_lst_ofT, ev_lst_ofL, ev_len_t, ev_len_s, ev_len_r, ev_tru_b, ev_alloc, ev_tupD, ev_lstD, isi_tuple_non, isi_tuple_bl, isi_tuple_int, isi_tuple_str, isi_tuple_tup, isi_tuple_l, isi_tuple_f, isi_list_non, isi_list_bl, isi_list_int, isi_list_str, isi_list_tup, isi_list_l, isi_list_f, isi_bool_non, isi_bool_bl, isi_bool_int, isi_bool_str, isi_bool_tup, isi_bool_l, isi_bool_f, isi_int_non, isi_int_bl, isi_int_int, isi_int_str, isi_int_tup, isi_int_l, isi_int_f, isi_str_non, isi_str_bl, isi_str_int, isi_str_str, isi_str_tup, isi_str_l, isi_str_f, isi_dict_non, isi_dict_bl, isi_dict_int, isi_dict_str, isi_dict_tup, isi_dict_l, isi_dict_f, Ab.isNon, args, List.map, List.length_cons, List.length_nil, List.length_singleton, List.replicate, Nat.reduceSub, Nat.reduceAdd, Nat.zero_add, List.cons_append, List.nil_append, List.getElem?_cons_zero, List.getElem?_cons_succ, List.set_cons_zero, List.set_cons_succ, Option.some.injEq, decide_eq_true_eq, Bool.not_eq_true', decide_eq_false_iff_not, ite_true, ite_false, if_true, if_false, reduceIte, Bool.false_eq_true, Bool.not_true, Bool.not_false, Bool.true_eq_false, decide_true, decide_false, Nat.reduceLeDiff, Nat.reduceLT]
    exact ⟨DB, A.length, ps, rfl, Nat.le_refl _, hB, fun e => by rw [e] at pk; simp at pk; omega, by omega, ok⟩
/-! ### the box of points -/
theorem mx_ge {ps : List (List Int)} {p : List Int} {i j : Nat} (h : p ∈ ps) : at0 p i - at0 p j ≤ mx ps i j := maxI_le (List.mem_map.mpr ⟨p, h, rfl⟩)
theorem mx_mem {ps : List (List Int)} {i j : Nat} (h : ps ≠ []) : ∃ p ∈ ps, at0 p i - at0 p j = mx ps i j := List.mem_map.mp (maxI_mem (ns := ps.map fun p => at0 p i - at0 p j) (by simpa using h))
theorem mx_cl {m : Nat} {ps : List (List Int)} (h : ps ≠ []) : Cl m (mx ps) := by
  refine ⟨fun i l j _ _ _ => ?_, fun i _ => ?_⟩
  · obtain ⟨p, hp, e⟩ := mx_mem (i := i) (j := j) h
    have h1 := mx_ge (i := i) (j := l) hp
    have h2 := mx_ge (i := l) (j := j) hp
    omega
  · obtain ⟨p, hp, e⟩ := mx_mem (i := i) (j := i) h
    omega
def flD (p : List Int) : D := .tup (.int 0 :: p.map D.int)
theorem box_spec {A : AH} {r n : Nat} {ps : List (List Int)} (ne : ps ≠ []) (few : ps.length ≤ 1000) (len : ∀ p ∈ ps, p.length = n) (hn : n ≤ 20) (h : A[r]? = some (.lst (ps.map ptD))) :
    Sat (m__law_box [.ref r] A) fun d A' => d = matD (n + 1) (mx ps) ∧ Gr A A' := by
  refine sat_body rfl (sat_seq ?_)
  have g0 : (A ++ [AO.lst []])[r]? = some (.lst (ps.map ptD)) := by rw [List.getElem?_append_left (at_lt h)]; exact h
  have cond : ¬ ps = [] := ne
  simp only [sat_ok, sat_bad, sat_bind, sat_ite, bind_ok, bind_bad, thn_nx, thn_rt, thn_bk, thn_ct, fin_rt, fin_nx, ev_v, ev_c, ev_op, ev_un, ev_nil, ev_cons, ev_tup, ev_lst, ev_call, ev_own, ev_sl, ev_no, ev_part, ev_and, ev_or, ev_not, ev_if, ev_t, ev_tb, ev_tnot, ev_tand, ev_tor, ev_mt, ev_mt0, ev_rgd, ev_set, ev_asg, ev_ret, ev_retN, ev_ex, ev_pass, ev_brk, ev_cont, ev_ifS, ev_aug, ev_gn, ev_gtp, ev_gnl, ev_gcs, ev_gsb, ev_for, ev_rg1, ev_rg2, ev_its, ev_enum, ev_lc, ev_yes, ev_add_ii, ev_add_ss, ev_add_tt, ev_add_rr, ev_sub, ev_mul, ev_mod, ev_fdiv, ev_pow, ev_neg, ev_lt, ev_le, ev_gt, ev_ge, ev_eq_ii, ev_eq_ss, ev_eq_bb, ev_ne_ii, ev_ne_ss, ev_ne_bb, ev_is_n, ev_isnt_n, ev_int_i, ev_int_b, ev_min_ii, ev_max_ii, ev_abs, ev_tup_of, ev_tup_ofL, ev_lst_ofT, ev_lst_ofL, ev_len_t, ev_len_s, ev_len_r, ev_tru_b, ev_alloc, ev_tupD, ev_lstD, isi_tuple_non, isi_tuple_bl, isi_tuple_int, isi_tuple_str, isi_tuple_tup, isi_tuple_l, isi_tuple_f, isi_list_non, isi_list_bl, isi_list_int, isi_list_str, isi_list_tup, isi_list_l, isi_list_f, isi_bool_non, isi_bool_bl, isi_bool_int, isi_bool_str, isi_bool_tup, isi_bool_l, isi_bool_f, isi_int_non, isi_int_bl, isi_int_int, isi_int_str, isi_int_tup, isi_int_l, isi_int_f, isi_str_non, isi_str_bl, isi_str_int, isi_str_str, isi_str_tup, isi_str_l, isi_str_f, isi_dict_non, isi_dict_bl, isi_dict_int, isi_dict_str, isi_dict_tup, isi_dict_l, isi_dict_f, Ab.isNon, args, List.map, List.length_cons, List.length_nil, List.length_singleton, List.replicate, Nat.reduceSub, Nat.reduceAdd, Nat.zero_add, List.cons_append, List.nil_append, List.getElem?_cons_zero, List.getElem?_cons_succ, List.set_cons_zero, List.set_cons_succ, Option.some.injEq, decide_eq_true_eq, Bool.not_eq_true', decide_eq_false_iff_not, ite_true, ite_false, if_true, if_false, reduceIte, Bool.false_eq_true, Bool.not_true, Bool.not_false, Bool.true_eq_false, decide_true, decide_false, Nat.reduceLeDiff, Nat.reduceLT, eq_pts g0 at_new]
  rw [if_neg cond]
  refine sat_seq ?_
  have G1 : Gr A (A ++ [AO.lst []]) := .app
  generalize A ++ [AO.lst []] = A1 at *
  simp only [sat_ok, sat_bad, sat_bind, sat_ite, bind_ok, bind_bad, thn_nx, thn_rt, thn_bk, thn_ct, fin_rt, fin_nx, ev_v, ev_c, ev_op, ev_un, ev_nil, ev_cons, ev_tup, ev_lst, ev_call, ev_own, ev_sl, ev_no, ev_part, ev_and, ev_or, ev_not, ev_if, ev_t, ev_tb, ev_tnot, ev_tand, ev_tor, ev_mt, ev_mt0, ev_rgd, ev_set, ev_asg, ev_ret, ev_retN, ev_ex, ev_pass, ev_brk, ev_cont, ev_ifS, ev_aug, ev_gn, ev_gtp, ev_gnl, ev_gcs, ev_gsb, ev_for, ev_rg1, ev_rg2, ev_its, ev_enum, ev_lc, ev_yes, ev_add_ii, ev_add_ss, ev_add_tt, ev_add_rr, ev_sub, ev_mul, ev_mod, ev_fdiv, ev_pow, ev_neg, ev_lt, ev_le, ev_gt, ev_ge, ev_eq_ii, ev_eq_ss, ev_eq_bb, ev_ne_ii, ev_ne_ss, ev_ne_bb, ev_is_n, ev_isnt_n, ev_int_i, ev_int_b, ev_min_ii, ev_max_ii, ev_abs, ev_tup_of, ev_tup_ofL, ev_lst_ofT, ev_lst_ofL, ev_len_t, ev_len_s, ev_len_r, ev_tru_b, ev_alloc, ev_tupD, ev_lstD, isi_tuple_non, isi_tuple_bl, isi_tuple_int, isi_tuple_str, isi_tuple_tup, isi_tuple_l, isi_tuple_f, isi_list_non, isi_list_bl, isi_list_int, isi_list_str, isi_list_tup, isi_list_l, isi_list_f, isi_bool_non, isi_bool_bl, isi_bool_int, isi_bool_str, isi_bool_tup, isi_bool_l, isi_bool_f, isi_int_non, isi_int_bl, isi_int_int, isi_int_str, isi_int_tup, isi_int_l, isi_int_f, isi_str_non, isi_str_bl, isi_str_int, isi_str_str, isi_str_tup, isi_str_l, isi_str_f, isi_dict_non, isi_dict_bl, isi_dict_int, isi_dict_str, isi_dict_tup, isi_dict_l, isi_dict_f, Ab.isNon, args, List.map, List.length_cons, List.length_nil, List.length_singleton, List.replicate, Nat.reduceSub, Nat.reduceAdd, Nat.zero_add, List.cons_append, List.nil_append, List.getElem?_cons_zero, List.getElem?_cons_succ, List.set_cons_zero, List.set_cons_succ, Option.some.injEq, decide_eq_true_eq, Bool.not_eq_true', decide_eq_false_iff_not, ite_true, ite_false, if_true, if_false, reduceIte, Bool.false_eq_true, Bool.not_true, Bool.not_false, Bool.true_eq_false, decide_true, decide_false, Nat.reduceLeDiff, Nat.reduceLT, ev_iseq_l g0, wipeA]
  refine comp_pure ptD flD (fun l => rdL_l (Gr.app.keep _ _ g0)) (fun p hp l => ?_) (by omega) ?_
  · have z : [D.int 0].length + (p.map D.int).length ≤ sizeLine := sl_le (by simp; have := len p hp; omega)
    have a1 : ∀ A, addD (.tup [.int 0]) (ptD p) A = .ok (flD p) A := fun A => ev_add_tt z
    simp only [sat_ok, sat_bad, sat_bind, sat_ite, bind_ok, bind_bad, thn_nx, thn_rt, thn_bk, thn_ct, fin_rt, fin_nx, ev_v, ev_c, ev_op, ev_un, ev_nil, ev_cons, ev_tup, ev_lst, ev_call, ev_own, ev_sl, ev_no, ev_part, ev_and, ev_or, ev_not, ev_if, ev_t, ev_tb, ev_tnot, ev_tand, ev_tor, ev_mt, ev_mt0, ev_rgd, ev_set, ev_asg, ev_ret, ev_retN, ev_ex, ev_pass, ev_brk, ev_cont, ev_ifS, ev_aug, ev_gn, ev_gtp, ev_gnl, ev_gcs, ev_gsb, ev_for, ev_rg1, ev_rg2, ev_its, ev_enum, ev_lc, ev_yes, ev_add_ii, ev_add_ss, ev_add_tt, ev_add_rr, ev_sub, ev_mul, ev_mod, ev_fdiv, ev_pow, ev_neg, ev_lt, ev_le, ev_gt, ev_ge, ev_eq_ii, ev_eq_ss, ev_eq_bb, ev_ne_ii, ev_ne_ss, ev_ne_bb, ev_is_n, ev_isnt_n, ev_int_i, ev_int_b, ev_min_ii, ev_max_ii, ev_abs, ev_tup_of, ev_tup_ofL, ev_lst_ofT, ev_lst_ofL, ev_len_t, ev_len_s, ev_len_r, ev_tru_b, ev_alloc, ev_tupD, ev_lstD, isi_tuple_non, isi_tuple_bl, isi_tuple_int, isi_tuple_str, isi_tuple_tup, isi_tuple_l, isi_tuple_f, isi_list_non, isi_list_bl, isi_list_int, isi_list_str, isi_list_tup, isi_list_l, isi_list_f, isi_bool_non, isi_bool_bl, isi_bool_int, isi_bool_str, isi_bool_tup, isi_bool_l, isi_bool_f, isi_int_non, isi_int_bl, isi_int_int, isi_int_str, isi_int_tup, isi_int_l, isi_int_f, isi_str_non, isi_str_bl, isi_str_int, isi_str_str, isi_str_tup, isi_str_l, isi_str_f, isi_dict_non, isi_dict_bl, isi_dict_int, isi_dict_str, isi_dict_tup, isi_dict_l, isi_dict_f, Ab.isNon, args, List.map, List.length_cons, List.length_nil, List.length_singleton, List.replicate, Nat.reduceSub, Nat.reduceAdd, Nat.zero_add, List.cons_append, List.nil_append, List.getElem?_cons_zero, List.getElem?_cons_succ, List.set_cons_zero, List.set_cons_succ, Option.some.injEq, decide_eq_true_eq, Bool.not_eq_true', decide_eq_false_iff_not, ite_true, ite_false, if_true, if_false, reduceIte, Bool.false_eq_true, Bool.not_true, Bool.not_false, Bool.true_eq_false, decide_true, decide_false, Nat.reduceLeDiff, Nat.reduceLT, a1]
    first | trivial | exact ⟨trivial, trivial⟩ | exact ⟨trivial, rfl⟩
  have hF := at_new (A := A1) (o := .lst (ps.map flD))
  have G2 := G1.trans (Gr.app (B := [.lst (ps.map flD)]))
  generalize A1 ++ [AO.lst (ps.map flD)] = A2 at *
  generalize A1.length = F at *
  refine sat_seq ?_
  simp only [sat_ok, sat_bad, sat_bind, sat_ite, bind_ok, bind_bad, thn_nx, thn_rt, thn_bk, thn_ct, fin_rt, fin_nx, ev_v, ev_c, ev_op, ev_un, ev_nil, ev_cons, ev_tup, ev_lst, ev_call, ev_own, ev_sl, ev_no, ev_part, ev_and, ev_or, ev_not, ev_if, ev_t, ev_tb, ev_tnot, ev_tand, ev_tor, ev_mt, ev_mt0, ev_rgd, ev_set, ev_asg, ev_ret, ev_retN, ev_ex, ev_pass, ev_brk, ev_cont, ev_ifS, ev_aug, ev_gn, ev_gtp, ev_gnl, ev_gcs, ev_gsb, ev_for, ev_rg1, ev_rg2, ev_its, ev_enum, ev_lc, ev_yes, ev_add_ii, ev_add_ss, ev_add_tt, ev_add_rr, ev_sub, ev_mul, ev_mod, ev_fdiv, ev_pow, ev_neg, ev_lt, ev_le, ev_gt, ev_ge, ev_eq_ii, ev_eq_ss, ev_eq_bb, ev_ne_ii, ev_ne_ss, ev_ne_bb, ev_is_n, ev_isnt_n, ev_int_i, ev_int_b, ev_min_ii, ev_max_ii, ev_abs, ev_tup_of, ev_tup_ofL, ev_lst_ofT, ev_lst_ofL, ev_len_t, ev_len_s, ev_len_r, ev_tru_b, ev_alloc, ev_tupD, ev_lstD, isi_tuple_non, isi_tuple_bl, isi_tuple_int, isi_tuple_str, isi_tuple_tup, isi_tuple_l, isi_tuple_f, isi_list_non, isi_list_bl, isi_list_int, isi_list_str, isi_list_tup, isi_list_l, isi_list_f, isi_bool_non, isi_bool_bl, isi_bool_int, isi_bool_str, isi_bool_tup, isi_bool_l, isi_bool_f, isi_int_non, isi_int_bl, isi_int_int, isi_int_str, isi_int_tup, isi_int_l, isi_int_f, isi_str_non, isi_str_bl, isi_str_int, isi_str_str, isi_str_tup, isi_str_l, isi_str_f, isi_dict_non, isi_dict_bl, isi_dict_int, isi_dict_str, isi_dict_tup, isi_dict_l, isi_dict_f, Ab.isNon, args, List.map, List.length_cons, List.length_nil, List.length_singleton, List.replicate, Nat.reduceSub, Nat.reduceAdd, Nat.zero_add, List.cons_append, List.nil_append, List.getElem?_cons_zero, List.getElem?_cons_succ, List.set_cons_zero, List.set_cons_succ, Option.some.injEq, decide_eq_true_eq, Bool.not_eq_true', decide_eq_false_iff_not, ite_true, ite_false, if_true, if_false, reduceIte, Bool.false_eq_true, Bool.not_true, Bool.not_false, Bool.true_eq_false, decide_true, decide_false, Nat.reduceLeDiff, Nat.reduceLT]
  refine sat_seq ?_
  have hR := at_new (A := A2) (o := .lst [])
  have FA := at_lt hF
  have hF := (Gr.app (B := [AO.lst []])).keep _ _ hF
  have lR := G2.le
  have G3 := G2.trans (Gr.app (B := [AO.lst []]))
  generalize A2 ++ [AO.lst []] = A3 at *
  generalize A2.length = R at *
  have pos := List.length_pos_iff.mpr ne
  have f0 : ∀ {B : AH}, B[F]? = some (.lst (ps.map flD)) → ixD (.ref F) (.int 0) B = .ok (flD ps[0]) B := fun h => ev_ix_r (rdL_l h) (by rw [atI_pos (by decide)]; show (ps.map flD)[0]? = _; rw [List.getElem?_map, List.getElem?_eq_getElem pos]; rfl)
  have l0 : ∀ B, lenD [flD ps[0]] B = .ok (.int ((n + 1 : Nat) : Int)) B := fun B => by
    show lenD [.tup _] B = _
    rw [ev_len_t]; simp [len _ (List.getElem_mem pos)]
  simp only [sat_ok, sat_bad, sat_bind, sat_ite, bind_ok, bind_bad, thn_nx, thn_rt, thn_bk, thn_ct, fin_rt, fin_nx, ev_v, ev_c, ev_op, ev_un, ev_nil, ev_cons, ev_tup, ev_lst, ev_call, ev_own, ev_sl, ev_no, ev_part, ev_and, ev_or, ev_not, ev_if, ev_t, ev_tb, ev_tnot, ev_tand, ev_tor, ev_mt, ev_mt0, ev_rgd, ev_set, ev_asg, ev_ret, ev_retN, ev_ex, ev_pass, ev_brk, ev_cont, ev_ifS, ev_aug, ev_gn, ev_gtp, ev_gnl, ev_gcs, ev_gsb, ev_for, ev_rg1, ev_rg2, ev_its, ev_enum, ev_lc, ev_yes, ev_add_ii, ev_add_ss, ev_add_tt, ev_add_rr, ev_sub, ev_mul, ev_mod, ev_fdiv, ev_pow, ev_neg, ev_lt, ev_le, ev_gt, ev_ge, ev_eq_ii, ev_eq_ss, ev_eq_bb, ev_ne_ii, ev_ne_ss, ev_ne_bb, ev_is_n, ev_isnt_n, ev_int_i, ev_int_b, ev_min_ii, ev_max_ii, ev_abs, ev_tup_of, ev_tup_ofL, ev_lst_ofT, ev_lst_ofL, ev_len_t, ev_len_s, ev_len_r, ev_tru_b, ev_alloc, ev_tupD, ev_lstD, isi_tuple_non, isi_tuple_bl, isi_tuple_int, isi_tuple_str, isi_tuple_tup, isi_tuple_l, isi_tuple_f, isi_list_non, isi_list_bl, isi_list_int, isi_list_str, isi_list_tup, isi_list_l, isi_list_f, isi_bool_non, isi_bool_bl, isi_bool_int, isi_bool_str, isi_bool_tup, isi_bool_l, isi_bool_f, isi_int_non, isi_int_bl, isi_int_int, isi_int_str, isi_int_tup, isi_int_l, isi_int_f, isi_str_non, isi_str_bl, isi_str_int, isi_str_str, isi_str_tup, isi_str_l, isi_str_f, isi_dict_non, isi_dict_bl, isi_dict_int, isi_dict_str, isi_dict_tup, isi_dict_l, isi_dict_f, Ab.isNon, args, List.map, List.length_cons, List.length_nil, List.length_singleton, List.replicate, Nat.reduceSub, Nat.reduceAdd, Nat.zero_add, List.cons_append, List.nil_append, List.getElem?_cons_zero, List.getElem?_cons_succ, List.set_cons_zero, List.set_cons_succ, Option.some.injEq, decide_eq_true_eq, Bool.not_eq_true', decide_eq_false_iff_not, ite_true, ite_false, if_true, if_false, reduceIte, Bool.false_eq_true, Bool.not_true, Bool.not_false, Bool.true_eq_false, decide_true, decide_false, Nat.reduceLeDiff, Nat.reduceLT, f0 hF, l0]
  rw [if_pos (inRg_of (by omega) (by omega)), Int.toNat_natCast]
  refine range_inv (fun k σ B => Gr A B ∧ (∃ x y, σ = [some (.ref r), some (.ref F), none, some (.ref R), x, y]) ∧ B[F]? = some (.lst (ps.map flD)) ∧ B[R]? = some (.lst ((List.range k).map fun i => rowD (n + 1) (mx ps i)))) (fun k σ B hk ⟨G, ⟨x, y, hσ⟩, hF, hB⟩ => ?_) (fun σ B ⟨G, ⟨x, y, hσ⟩, hF, hB⟩ => ?_) ⟨G3, ⟨none, none, rfl⟩, hF, hR⟩
  · subst hσ
    simp only [sat_ok, sat_bad, sat_bind, sat_ite, bind_ok, bind_bad, thn_nx, thn_rt, thn_bk, thn_ct, fin_rt, fin_nx, ev_v, ev_c, ev_op, ev_un, ev_nil, ev_cons, ev_tup, ev_lst, ev_call, ev_own, ev_sl, ev_no, ev_part, ev_and, ev_or, ev_not, ev_if, ev_t, ev_tb, ev_tnot, ev_tand, ev_tor, ev_mt, ev_mt0, ev_rgd, ev_set, ev_asg, ev_ret, ev_retN, ev_ex, ev_pass, ev_brk, ev_cont, ev_ifS, ev_aug, ev_gn, ev_gtp, ev_gnl, ev_gcs, ev_gsb, ev_for, ev_rg1, ev_rg2, ev_its, ev_enum, ev_lc, ev_yes, ev_add_ii, ev_add_ss, ev_add_tt, ev_add_rr, ev_sub, ev_mul, ev_mod, ev_fdiv, ev_pow, ev_neg, ev_lt, ev_le, ev_gt, ev_ge, ev_eq_ii, ev_eq_ss, ev_eq_bb, ev_ne_ii, ev_ne_ss, ev_ne_bb, ev_is_n, ev_isnt_n, ev_int_i, ev_int_b, ev_min_ii, ev_max_ii, ev_abs, ev_tup_of, ev_tup_ofL, ev_lst_ofT, ev_lst_ofL, ev_len_t, ev_len_s, ev_len_r, ev_tru_b, ev_alloc, ev_tupD, ev_lstD, isi_tuple_non, isi_tuple_bl, isi_tuple_int, isi_tuple_str, isi_tuple_tup, isi_tuple_l, isi_tuple_f, isi_list_non, isi_list_bl, isi_list_int, isi_list_str, isi_list_tup, isi_list_l, isi_list_f, isi_bool_non, isi_bool_bl, isi_bool_int, isi_bool_str, isi_bool_tup, isi_bool_l, isi_bool_f, isi_int_non, isi_int_bl, isi_int_int, isi_int_str, isi_int_tup, isi_int_l, isi_int_f, isi_str_non, isi_str_bl, isi_str_int, isi_str_str, isi_str_tup, isi_str_l, isi_str_f, isi_dict_non, isi_dict_bl, isi_dict_int, isi_dict_str, isi_dict_tup, isi_dict_l, isi_dict_f, Ab.isNon, args, List.map, List.length_cons, List.length_nil, List.length_singleton, List.replicate, Nat.reduceSub, Nat.reduceAdd, Nat.zero_add, List.cons_append, List.nil_append, List.getElem?_cons_zero, List.getElem?_cons_succ, List.set_cons_zero, List.set_cons_succ, Option.some.injEq, decide_eq_true_eq, Bool.not_eq_true', decide_eq_false_iff_not, ite_true, ite_false, if_true, if_false, reduceIte, Bool.false_eq_true, Bool.not_true, Bool.not_false, Bool.true_eq_false, decide_true, decide_false, Nat.reduceLeDiff, Nat.reduceLT, ty_l hB, f0 hF, l0, wipeA]
    rw [if_pos (inRg_of (by omega) (by omega)), Int.toNat_natCast]
    have lB := at_lt hB
    have lF := at_lt hF
    refine comp_range (fun j acc C => Gr B C ∧ acc = (List.range j).map (fun j => D.int (mx ps k j)) ∧ C[B.length]? = some (.lst acc)) (fun j acc C hj ⟨GC, ha, hC⟩ => ?_) (fun acc C ⟨GC, ha, hC⟩ => ?_) (acc := []) ⟨.app, rfl, at_new⟩
    · have hFC := GC.keep _ _ hF
      simp only [sat_ok, sat_bad, sat_bind, sat_ite, bind_ok, bind_bad, thn_nx, thn_rt, thn_bk, thn_ct, fin_rt, fin_nx, ev_v, ev_c, ev_op, ev_un, ev_nil, ev_cons, ev_tup, ev_lst, ev_call, ev_own, ev_sl, ev_no, ev_part, ev_and, ev_or, ev_not, ev_if, ev_t, ev_tb, ev_tnot, ev_tand, ev_tor, ev_mt, ev_mt0, ev_rgd, ev_set, ev_asg, ev_ret, ev_retN, ev_ex, ev_pass, ev_brk, ev_cont, ev_ifS, ev_aug, ev_gn, ev_gtp, ev_gnl, ev_gcs, ev_gsb, ev_for, ev_rg1, ev_rg2, ev_its, ev_enum, ev_lc, ev_yes, ev_add_ii, ev_add_ss, ev_add_tt, ev_add_rr, ev_sub, ev_mul, ev_mod, ev_fdiv, ev_pow, ev_neg, ev_lt, ev_le, ev_gt, ev_ge, ev_eq_ii, ev_eq_ss, ev_eq_bb, ev_ne_ii, ev_ne_ss, ev_ne_bb, ev_is_n, ev_isnt_n, ev_int_i, ev_int_b, ev_min_ii, ev_max_ii, ev_abs, ev_tup_of, ev_tup_ofL, ev_lst_ofT, ev_lst_ofL, ev_len_t, ev_len_s, ev_len_r, ev_tru_b, ev_alloc, ev_tupD, ev_lstD, isi_tuple_non, isi_tuple_bl, isi_tuple_int, isi_tuple_str, isi_tuple_tup, isi_tuple_l, isi_tuple_f, isi_list_non, isi_list_bl, isi_list_int, isi_list_str, isi_list_tup, isi_list_l, isi_list_f, isi_bool_non, isi_bool_bl, isi_bool_int, isi_bool_str, isi_bool_tup, isi_bool_l, isi_bool_f, isi_int_non, isi_int_bl, isi_int_int, isi_int_str, isi_int_tup, isi_int_l, isi_int_f, isi_str_non, isi_str_bl, isi_str_int, isi_str_str, isi_str_tup, isi_str_l, isi_str_f, isi_dict_non, isi_dict_bl, isi_dict_int, isi_dict_str, isi_dict_tup, isi_dict_l, isi_dict_f, Ab.isNon, args, List.map, List.length_cons, List.length_nil, List.length_singleton, List.replicate, Nat.reduceSub, Nat.reduceAdd, Nat.zero_add, List.cons_append, List.nil_append, List.getElem?_cons_zero, List.getElem?_cons_succ, List.set_cons_zero, List.set_cons_succ, Option.some.injEq, decide_eq_true_eq, Bool.not_eq_true', decide_eq_false_iff_not, ite_true, ite_false, if_true, if_false, reduceIte, Bool.false_eq_true, Bool.not_true, Bool.not_false, Bool.true_eq_false, decide_true, decide_false, Nat.reduceLeDiff, Nat.reduceLT, ev_iseq_l hFC, wipeA]
      refine comp_pure flD (fun p => .int (at0 p k - at0 p j)) (fun l => rdL_l (Gr.app.keep _ _ hFC)) (fun p hp l => ?_) (by omega) ?_
      · have pl := len p hp
        have x1 : ∀ {i : Nat} A, i < n + 1 → ixD (flD p) (.int (i : Nat)) A = .ok (.int (at0 p i)) A := fun A h => ix_full (by omega)
        simp only [sat_ok, sat_bad, sat_bind, sat_ite, bind_ok, bind_bad, thn_nx, thn_rt, thn_bk, thn_ct, fin_rt, fin_nx, ev_v, ev_c, ev_op, ev_un, ev_nil, ev_cons, ev_tup, ev_lst, ev_call, ev_own, ev_sl, ev_no, ev_part, ev_and, ev_or, ev_not, ev_if, ev_t, ev_tb, ev_tnot, ev_tand, ev_tor, ev_mt, ev_mt0, ev_rgd, ev_set, ev_asg, ev_ret, ev_retN, ev_ex, ev_pass, ev_brk, ev_cont, ev_ifS, ev_aug, ev_gn, ev_gtp, ev_gnl, ev_gcs, ev_gsb, ev_for, ev_rg1, ev_rg2, ev_its, ev_enum, ev_lc, ev_yes, ev_add_ii, ev_add_ss, ev_add_tt, ev_add_rr, ev_sub, ev_mul, ev_mod, ev_fdiv, ev_pow, ev_neg, ev_lt, ev_le, ev_gt, ev_ge, ev_eq_ii, ev_eq_ss, ev_eq_bb, ev_ne_ii, ev_ne_ss, ev_ne_bb, ev_is_n, ev_isnt_n, ev_int_i, ev_int_b, ev_min_ii, ev_max_ii, ev_abs, ev_tup_of, ev_tup_ofL, ev_lst_ofT, ev_lst_ofL, ev_len_t, ev_len_s, ev_len_r, ev_tru_b, ev_alloc, ev_tupD, ev_lstD, isi_tuple_non, isi_tuple_bl, isi_tuple_int, isi_tuple_str, isi_tuple_tup, isi_tuple_l, isi_tuple_f, isi_list_non, isi_list_bl, isi_list_int, isi_list_str, isi_list_tup, isi_list_l, isi_list_f, isi_bool_non, isi_bool_bl, isi_bool_int, isi_bool_str, isi_bool_tup, isi_bool_l, isi_bool_f, isi_int_non, isi_int_bl, isi_int_int, isi_int_str, isi_int_tup, isi_int_l, isi_int_f, isi_str_non, isi_str_bl, isi_str_int, isi_str_str, isi_str_tup, isi_str_l, isi_str_f, isi_dict_non, isi_dict_bl, isi_dict_int, isi_dict_str, isi_dict_tup, isi_dict_l, isi_dict_f, Ab.isNon, args, List.map, List.length_cons, List.length_nil, List.length_singleton, List.replicate, Nat.reduceSub, Nat.reduceAdd, Nat.zero_add, List.cons_append, List.nil_append, List.getElem?_cons_zero, List.getElem?_cons_succ, List.set_cons_zero, List.set_cons_succ, Option.some.injEq, decide_eq_true_eq, Bool.not_eq_true', decide_eq_false_iff_not, ite_true, ite_false, if_true, if_false, reduceIte, Bool.false_eq_true, Bool.not_true, Bool.not_false, Bool.true_eq_false, decide_true, decide_false, Nat.reduceLeDiff, Nat.reduceLT, Int.zero_add, x1 _ hk, x1 _ hj]
        first | trivial | exact ⟨trivial, trivial⟩ | exact ⟨trivial, rfl⟩
      · have em : (ps.map fun p => D.int (at0 p k - at0 p j)) = (ps.map fun p => at0 p k - at0 p j).map D.int := by rw [List.map_map]; rfl
        have g := Gr.app (A := C) (B := [.lst (ps.map fun p => D.int (at0 p k - at0 p j))])
        have hm : maxD [.ref C.length] (C ++ [.lst (ps.map fun p => D.int (at0 p k - at0 p j))]) = .ok (.int (mx ps k j)) _ := ev_max_l (by rw [← em]; exact at_new) (by simpa using ne)
        simp only [sat_ok, sat_bad, sat_bind, sat_ite, bind_ok, bind_bad, thn_nx, thn_rt, thn_bk, thn_ct, fin_rt, fin_nx, ev_v, ev_c, ev_op, ev_un, ev_nil, ev_cons, ev_tup, ev_lst, ev_call, ev_own, ev_sl, ev_no, ev_part, ev_and, ev_or, ev_not, ev_if, ev_t, ev_tb, ev_tnot, ev_tand, ev_tor, ev_mt, ev_mt0, ev_rgd, ev_set, ev_asg, ev_ret, ev_retN, ev_ex, ev_pass, ev_brk, ev_cont, ev_ifS, ev_aug, ev_gn, ev_gtp, ev_gnl, ev_gcs, ev_gsb, ev_for, ev_rg1, ev_rg2, ev_its, ev_enum, ev_lc, ev_yes, ev_add_ii, ev_add_ss, ev_add_tt, ev_add_rr, ev_sub, ev_mul, ev_mod, ev_fdiv, ev_pow, ev_neg, ev_lt, ev_le, ev_gt, ev_ge, ev_eq_ii, ev_eq_ss, ev_eq_bb, ev_ne_ii, ev_ne_ss, ev_ne_bb, ev_is_n, ev_isnt_n, ev_int_i, ev_int_b, ev_min_ii, ev_max_ii, ev_abs, ev_tup_of, ev_tup_ofL, ev_lst_ofT, ev_lst_ofL, ev_len_t, ev_len_s, ev_len_r, ev_tru_b, ev_alloc, ev_tupD, ev_lstD, isi_tuple_non, isi_tuple_bl, isi_tuple_int, isi_tuple_str, isi_tuple_tup, isi_tuple_l, isi_tuple_f, isi_list_non, isi_list_bl, isi_list_int, isi_list_str, isi_list_tup, isi_list_l, isi_list_f, isi_bool_non, isi_bool_bl, isi_bool_int, isi_bool_str, isi_bool_tup, isi_bool_l, isi_bool_f, isi_int_non, isi_int_bl, isi_int_int, isi_int_str, isi_int_tup, isi_int_l, isi_int_f, isi_str_non, isi_str_bl, isi_str_int, isi_str_str, isi_str_tup, isi_str_l, isi_str_f, isi_dict_non, isi_dict_bl, isi_dict_int, isi_dict_str, isi_dict_tup, isi_dict_l, isi_dict_f, Ab.isNon, args, List.map, List.length_cons, List.length_nil, List.length_singleton, List.replicate, Nat.reduceSub, Nat.reduceAdd, Nat.zero_add, List.cons_append, List.nil_append, List.getElem?_cons_zero, List.getElem?_cons_succ, List.set_cons_zero, List.set_cons_succ, Option.some.injEq, decide_eq_true_eq, Bool.not_eq_true', decide_eq_false_iff_not, ite_true, ite_false, if_true, if_false, reduceIte, Bool.false_eq_true, Bool.not_true, Bool.not_false, Bool.true_eq_false, decide_true, decide_false, Nat.reduceLeDiff, Nat.reduceLT, hm]
        have hC := g.keep _ _ hC
        refine ⟨hC, by rw [ha]; simp; omega, (GC.trans g).set (Nat.le_refl _), ?_, at_set (at_lt hC)⟩
        rw [ha, List.range_succ (n := j), List.map_append]; rfl
    · subst ha
      have hB := GC.keep _ _ hB
      simp only [sat_ok, sat_bad, sat_bind, sat_ite, bind_ok, bind_bad, thn_nx, thn_rt, thn_bk, thn_ct, fin_rt, fin_nx, ev_v, ev_c, ev_op, ev_un, ev_nil, ev_cons, ev_tup, ev_lst, ev_call, ev_own, ev_sl, ev_no, ev_part, ev_and, ev_or, ev_not, ev_if, ev_t, ev_tb, ev_tnot, ev_tand, ev_tor, ev_mt, ev_mt0, ev_rgd, ev_set, ev_asg, ev_ret, ev_retN, ev_ex, ev_pass, ev_brk, ev_cont, ev_ifS, ev_aug, ev_gn, ev_gtp, ev_gnl, ev_gcs, ev_gsb, ev_for, ev_rg1, ev_rg2, ev_its, ev_enum, ev_lc, ev_yes, ev_add_ii, ev_add_ss, ev_add_tt, ev_add_rr, ev_sub, ev_mul, ev_mod, ev_fdiv, ev_pow, ev_neg, ev_lt, ev_le, ev_gt, ev_ge, ev_eq_ii, ev_eq_ss, ev_eq_bb, ev_ne_ii, ev_ne_ss, ev_ne_bb, ev_is_n, ev_isnt_n, ev_int_i, ev_int_b, ev_min_ii, ev_max_ii, ev_abs, ev_tup_of, ev_tup_ofL, ev_lst_ofT, ev_lst_ofL, ev_len_t, ev_len_s, ev_len_r, ev_tru_b, ev_alloc, ev_tupD, ev_lstD, isi_tuple_non, isi_tuple_bl, isi_tuple_int, isi_tuple_str, isi_tuple_tup, isi_tuple_l, isi_tuple_f, isi_list_non, isi_list_bl, isi_list_int, isi_list_str, isi_list_tup, isi_list_l, isi_list_f, isi_bool_non, isi_bool_bl, isi_bool_int, isi_bool_str, isi_bool_tup, isi_bool_l, isi_bool_f, isi_int_non, isi_int_bl, isi_int_int, isi_int_str, isi_int_tup, isi_int_l, isi_int_f, isi_str_non, isi_str_bl, isi_str_int, isi_str_str, isi_str_tup, isi_str_l, isi_str_f, isi_dict_non, isi_dict_bl, isi_dict_int, isi_dict_str, isi_dict_tup, isi_dict_l, isi_dict_f, Ab.isNon, args, List.map, List.length_cons, List.length_nil, List.length_singleton, List.replicate, Nat.reduceSub, Nat.reduceAdd, Nat.zero_add, List.cons_append, List.nil_append, List.getElem?_cons_zero, List.getElem?_cons_succ, List.set_cons_zero, List.set_cons_succ, Option.some.injEq, decide_eq_true_eq, Bool.not_eq_true', decide_eq_false_iff_not, ite_true, ite_false, if_true, if_false, reduceIte, Bool.false_eq_true, Bool.not_true, Bool.not_false, Bool.true_eq_false, decide_true, decide_false, Nat.reduceLeDiff, Nat.reduceLT, ev_tup_ofL (rdL_l hC)]
      rw [ev_app hB (by simp; omega)]
      simp only [sat_ok, sat_bad, sat_bind, sat_ite, bind_ok, bind_bad, thn_nx, thn_rt, thn_bk, thn_ct, fin_rt, fin_nx, ev_v, ev_c, ev_op, ev_un, ev_nil, ev_cons, ev_tup, ev_lst, ev_call, ev_own, ev_sl, ev_no, ev_part, ev_and, ev_or, ev_not, ev_if, ev_t, ev_tb, ev_tnot, ev_tand, ev_tor, ev_mt, ev_mt0, ev_rgd, ev_set, ev_asg, ev_ret, ev_retN, ev_ex, ev_pass, ev_brk, ev_cont, ev_ifS, ev_aug, ev_gn, ev_gtp, ev_gnl, ev_gcs, ev_gsb, ev_for, ev_rg1, ev_rg2, ev_its, ev_enum, ev_lc, ev_yes, ev_add_ii, ev_add_ss, ev_add_tt, ev_add_rr, ev_sub, ev_mul, ev_mod, ev_fdiv, ev_pow, ev_neg, ev_lt, ev_le, ev_gt, ev_ge, ev_eq_ii, ev_eq_ss, ev_eq_bb, ev_ne_ii, ev_ne_ss, ev_ne_bb, ev_is_n, ev_isnt_n, ev_int_i, ev_int_b, ev_min_ii, ev_max_ii, ev_abs, ev_tup_of, ev_tup_ofL, ev_lst_ofT, ev_lst_ofL, ev_len_t, ev_len_s, ev_len_r, ev_tru_b, ev_alloc, ev_tupD, ev_lstD, isi_tuple_non, isi_tuple_bl, isi_tuple_int, isi_tuple_str, isi_tuple_tup, isi_tuple_l, isi_tuple_f, isi_list_non, isi_list_bl, isi_list_int, isi_list_str, isi_list_tup, isi_list_l, isi_list_f, isi_bool_non, isi_bool_bl, isi_bool_int, isi_bool_str, isi_bool_tup, isi_bool_l, isi_bool_f, isi_int_non, isi_int_bl, isi_int_int, isi_int_str, isi_int_tup, isi_int_l, isi_int_f, isi_str_non, isi_str_bl, isi_str_int, isi_str_str, isi_str_tup, isi_str_l, isi_str_f, isi_dict_non, isi_dict_bl, isi_dict_int, isi_dict_str, isi_dict_tup, isi_dict_l, isi_dict_f, Ab.isNon, args, List.map, List.length_cons, List.length_nil, List.length_singleton, List.replicate, Nat.reduceSub, Nat.reduceAdd, Nat.zero_add, List.cons_append, List.nil_append, List.getElem?_cons_zero, List.getElem?_cons_succ, List.set_cons_zero, List.set_cons_succ, Option.some.injEq, decide_eq_true_eq, Bool.not_eq_true', decide_eq_false_iff_not, ite_true, ite_false, if_true, if_false, reduceIte, Bool.false_eq_true, Bool.not_true, Bool.not_false, Bool.true_eq_false, decide_true, decide_false, Nat.reduceLeDiff, Nat.reduceLT, turn_]
      refine ⟨(G.trans GC).set lR, ⟨_, _, rfl⟩, ?_, ?_⟩
      · rw [List.getElem?_set_ne (by omega)]; exact GC.keep _ _ hF
      · rw [at_set (at_lt hB), List.range_succ (n := k), List.map_append]; rfl
  · subst hσ
    simp only [sat_ok, sat_bad, sat_bind, sat_ite, bind_ok, bind_bad, thn_nx, thn_rt, thn_bk, thn_ct, fin_rt, fin_nx, ev_v, ev_c, ev_op, ev_un, ev_nil, ev_cons, ev_tup, ev_lst, ev_call, ev_own, ev_sl, ev_no, ev_part, ev_and, ev_or, ev_not, ev_if, ev_t, ev_tb, ev_tnot, ev_tand, ev_tor, ev_mt, ev_mt0, ev_rgd, ev_set, ev_asg, ev_ret, ev_retN, ev_ex, ev_pass, ev_brk, ev_cont, ev_ifS, ev_aug, ev_gn, ev_gtp, ev_gnl, ev_gcs, ev_gsb, ev_for, ev_rg1, ev_rg2, ev_its, ev_enum, ev_lc, ev_yes, ev_add_ii, ev_add_ss, ev_add_tt, ev_add_rr, ev_sub, ev_mul, ev_mod, ev_fdiv, ev_pow, ev_neg, ev_lt, ev_le, ev_gt, ev_ge, ev_eq_ii, ev_eq_ss, ev_eq_bb, ev_ne_ii, ev_ne_ss, ev_ne_bb, ev_is_n, ev_isnt_n, ev_int_i, ev_int_b, ev_min_ii, ev_max_ii, ev_abs, ev_tup_of, ev_tup_ofL, ev_lst_ofT, ev_lst_ofL, ev_len_t, ev_len_s, ev_len_r, ev_tru_b, ev_alloc, ev_tupD, ev_lstD, isi_tuple_non, isi_tuple_bl, isi_tuple_int, isi_tuple_str, isi_tuple_tup, isi_tuple_l, isi_tuple_f, isi_list_non, isi_list_bl, isi_list_int, isi_list_str, isi_list_tup, isi_list_l, isi_list_f, isi_bool_non, isi_bool_bl, isi_bool_int, isi_bool_str, isi_bool_tup, isi_bool_l, isi_bool_f, isi_int_non, isi_int_bl, isi_int_int, isi_int_str, isi_int_tup, isi_int_l, isi_int_f, isi_str_non, isi_str_bl, isi_str_int, isi_str_str, isi_str_tup, isi_str_l, isi_str_f, isi_dict_non, isi_dict_bl, isi_dict_int, isi_dict_str, isi_dict_tup, isi_dict_l, isi_dict_f, Ab.isNon, args, List.map, List.length_cons, List.length_nil, List.length_singleton, List.replicate, Nat.reduceSub, Nat.reduceAdd, Nat.zero_add, List.cons_append, List.nil_append, List.getElem?_cons_zero, List.getElem?_cons_succ, List.set_cons_zero, List.set_cons_succ, Option.some.injEq, decide_eq_true_eq, Bool.not_eq_true', decide_eq_false_iff_not, ite_true, ite_false, if_true, if_false, reduceIte, Bool.false_eq_true, Bool.not_true, Bool.not_false, Bool.true_eq_false, decide_true, decide_false, Nat.reduceLeDiff, Nat.reduceLT, ev_tup_ofL (rdL_l hB)]
    exact ⟨rfl, G⟩
/-! ### rounding a number up -/
def rup (us : List Int) (g x : Int) : Int := minI ((us.filter fun u => decide (x ≤ u)) ++ [g])
theorem rup_mem {us : List Int} {g x : Int} : (rup us g x ∈ us ∧ x ≤ rup us g x) ∨ rup us g x = g := by
  have := minI_mem (ns := (us.filter fun u => decide (x ≤ u)) ++ [g]) (by simp)
  rcases List.mem_append.mp this with h | h
  · rw [List.mem_filter] at h
    exact .inl ⟨h.1, of_decide_eq_true h.2⟩
  · exact .inr (List.mem_singleton.mp h)
theorem rup_le {us : List Int} {g x u : Int} (h : u ∈ us) (hx : x ≤ u) : rup us g x ≤ u := minI_le (List.mem_append_left _ (List.mem_filter.mpr ⟨h, decide_eq_true hx⟩))
theorem rup_g {us : List Int} {g x : Int} : rup us g x ≤ g := minI_le (List.mem_append_right _ (List.mem_singleton.mpr rfl))
theorem rup_ge {us : List Int} {g x : Int} (h : x ≤ g) : x ≤ rup us g x := by
  rcases rup_mem (us := us) (g := g) (x := x) with ⟨_, h1⟩ | h1
  · exact h1
  · rw [h1]; exact h
theorem rup_mono {us : List Int} {g x y : Int} (h : x ≤ y) : rup us g x ≤ rup us g y := by
  rcases rup_mem (us := us) (g := g) (x := y) with ⟨h1, h2⟩ | h1
  · exact rup_le h1 (by omega)
  · rw [h1]; exact rup_g
theorem rup_stay {us : List Int} {g x z : Int} (h : z ≤ rup us g x) : rup us g z ≤ rup us g x := by
  rcases rup_mem (us := us) (g := g) (x := x) with ⟨h1, h2⟩ | h1
  · exact rup_le h1 h
  · rw [h1]; exact rup_g
theorem srt_get {us : List Int} (h : us.Pairwise (· < ·)) {i j : Nat} (hi : i < us.length) (hj : j < us.length) (lt : i ≤ j) : us[i] ≤ us[j] := by
  by_cases e : i = j
  · subst e; exact Int.le_refl _
  · exact Int.le_of_lt (List.pairwise_iff_getElem.mp h i j hi hj (by omega))
theorem round_up_spec {A : AH} {us : List Int} {g x : Int} (h : us.Pairwise (· < ·)) (few : us.length ≤ 1000) : m_round_up [.int x, .tup (us.map D.int), .int g] A = .ok (.int (rup us g x)) A := by
  have key : Sat (m_round_up [.int x, .tup (us.map D.int), .int g] A) fun d A' => d = .int (rup us g x) ∧ A' = A := by
    refine sat_body rfl (sat_seq ?_)
    simp only [sat_ok, sat_bad, sat_bind, sat_ite, bind_ok, bind_bad, thn_nx, thn_rt, thn_bk, thn_ct, fin_rt, fin_nx, ev_v, ev_c, ev_op, ev_un, ev_nil, ev_cons, ev_tup, ev_lst, ev_call, ev_own, ev_sl, ev_no, ev_part, ev_and, ev_or, ev_not, ev_if, ev_t, ev_tb, ev_tnot, ev_tand, ev_tor, ev_mt, ev_mt0, ev_rgd, ev_set, ev_asg, ev_ret, ev_retN, ev_ex, ev_pass, ev_brk, ev_cont, ev_ifS, ev_aug, ev_gn, ev_gtp, ev_gnl, ev_gcs, ev_gsb, ev_for, ev_rg1, ev_rg2, ev_its, ev_enum, ev_lc, ev_yes, ev_add_ii, ev_add_ss, ev_add_tt, ev_add_rr, ev_sub, ev_mul, ev_mod, ev_fdiv, ev_pow, ev_neg, ev_lt, ev_le, ev_gt, ev_ge, ev_eq_ii, ev_eq_ss, ev_eq_bb, ev_ne_ii, ev_ne_ss, ev_ne_bb, ev_is_n, ev_isnt_n, ev_int_i, ev_int_b, ev_min_ii, ev_max_ii, ev_abs, ev_tup_of, ev_tup_ofL, ev_lst_ofT, ev_lst_ofL, ev_len_t, ev_len_s, ev_len_r, ev_tru_b, ev_alloc, ev_tupD, ev_lstD, isi_tuple_non, isi_tuple_bl, isi_tuple_int, isi_tuple_str, isi_tuple_tup, isi_tuple_l, isi_tuple_f, isi_list_non, isi_list_bl, isi_list_int, isi_list_str, isi_list_tup, isi_list_l, isi_list_f, isi_bool_non, isi_bool_bl, isi_bool_int, isi_bool_str, isi_bool_tup, isi_bool_l, isi_bool_f, isi_int_non, isi_int_bl, isi_int_int, isi_int_str, isi_int_tup, isi_int_l, isi_int_f, isi_str_non, isi_str_bl, isi_str_int, isi_str_str, isi_str_tup, isi_str_l, isi_str_f, isi_dict_non, isi_dict_bl, isi_dict_int, isi_dict_str, isi_dict_tup, isi_dict_l, isi_dict_f, Ab.isNon, args, List.map, List.length_cons, List.length_nil, List.length_singleton, List.replicate, Nat.reduceSub, Nat.reduceAdd, Nat.zero_add, List.cons_append, List.nil_append, List.getElem?_cons_zero, List.getElem?_cons_succ, List.set_cons_zero, List.set_cons_succ, Option.some.injEq, decide_eq_true_eq, Bool.not_eq_true', decide_eq_false_iff_not, ite_true, ite_false, if_true, if_false, reduceIte, Bool.false_eq_true, Bool.not_true, Bool.not_false, Bool.true_eq_false, decide_true, decide_false, Nat.reduceLeDiff, Nat.reduceLT, ev_par]
    refine sat_seq ?_
    have ln : ∀ A, lenD [.tup (us.map D.int)] A = .ok (.int (us.length : Nat)) A := fun A => by rw [ev_len_t]; simp
    refine while_inv (fun m σ B => B = A ∧ ∃ (a b : Nat) (z : Option D), σ = [some (.int x), some (.tup (us.map D.int)), some (.int g), some (.int (a : Nat)), some (.int (b : Nat)), z] ∧ m = b - a ∧ a ≤ b ∧ b ≤ us.length ∧ (∀ (i : Nat) (hi : i < us.length), i < a → us[i] < x) ∧ ∀ (i : Nat) (hi : i < us.length), b ≤ i → x ≤ us[i])
      (fun m σ B ⟨hB, a, b, z, hσ, hm, ab, bl, lo, hi⟩ => ?_) _ us.length _ _ (by omega) ⟨rfl, 0, us.length, none, by simp, by omega, Nat.zero_le _, Nat.le_refl _, fun i hi h => absurd h (Nat.not_lt_zero _), fun i hi h => by omega⟩
    subst hB; subst hσ
    simp only [sat_ok, sat_bad, sat_bind, sat_ite, bind_ok, bind_bad, thn_nx, thn_rt, thn_bk, thn_ct, fin_rt, fin_nx, ev_v, ev_c, ev_op, ev_un, ev_nil, ev_cons, ev_tup, ev_lst, ev_call, ev_own, ev_sl, ev_no, ev_part, ev_and, ev_or, ev_not, ev_if, ev_t, ev_tb, ev_tnot, ev_tand, ev_tor, ev_mt, ev_mt0, ev_rgd, ev_set, ev_asg, ev_ret, ev_retN, ev_ex, ev_pass, ev_brk, ev_cont, ev_ifS, ev_aug, ev_gn, ev_gtp, ev_gnl, ev_gcs, ev_gsb, ev_for, ev_rg1, ev_rg2, ev_its, ev_enum, ev_lc, ev_yes, ev_add_ii, ev_add_ss, ev_add_tt, ev_add_rr, ev_sub, ev_mul, ev_mod, ev_fdiv, ev_pow, ev_neg, ev_lt, ev_le, ev_gt, ev_ge, ev_eq_ii, ev_eq_ss, ev_eq_bb, ev_ne_ii, ev_ne_ss, ev_ne_bb, ev_is_n, ev_isnt_n, ev_int_i, ev_int_b, ev_min_ii, ev_max_ii, ev_abs, ev_tup_of, ev_tup_ofL, ev_lst_ofT, ev_lst_ofL, ev_len_t, ev_len_s, ev_len_r, ev_tru_b, ev_alloc, ev_tupD, ev_lstD, isi_tuple_non, isi_tuple_bl, isi_tuple_int, isi_tuple_str, isi_tuple_tup, isi_tuple_l, isi_tuple_f, isi_list_non, isi_list_bl, isi_list_int, isi_list_str, isi_list_tup, isi_list_l, isi_list_f, isi_bool_non, isi_bool_bl, isi_bool_int, isi_bool_str, isi_bool_tup, isi_bool_l, isi_bool_f, isi_int_non, isi_int_bl, isi_int_int, isi_int_str, isi_int_tup, isi_int_l, isi_int_f, isi_str_non, isi_str_bl, isi_str_int, isi_str_str, isi_str_tup, isi_str_l, isi_str_f, isi_dict_non, isi_dict_bl, isi_dict_int, isi_dict_str, isi_dict_tup, isi_dict_l, isi_dict_f, Ab.isNon, args, List.map, List.length_cons, List.length_nil, List.length_singleton, List.replicate, Nat.reduceSub, Nat.reduceAdd, Nat.zero_add, List.cons_append, List.nil_append, List.getElem?_cons_zero, List.getElem?_cons_succ, List.set_cons_zero, List.set_cons_succ, Option.some.injEq, decide_eq_true_eq, Bool.not_eq_true', decide_eq_false_iff_not, ite_true, ite_false, if_true, if_false, reduceIte, Bool.false_eq_true, Bool.not_true, Bool.not_false, Bool.true_eq_false, decide_true, decide_false, Nat.reduceLeDiff, Nat.reduceLT]
    split
    · rename_i lt
      have d2 : ∀ k : Int, CDivW k 2 := fun k => divOk (by decide) (by decide)
      refine sat_seq ?_
      simp only [sat_ok, sat_bad, sat_bind, sat_ite, bind_ok, bind_bad, thn_nx, thn_rt, thn_bk, thn_ct, fin_rt, fin_nx, ev_v, ev_c, ev_op, ev_un, ev_nil, ev_cons, ev_tup, ev_lst, ev_call, ev_own, ev_sl, ev_no, ev_part, ev_and, ev_or, ev_not, ev_if, ev_t, ev_tb, ev_tnot, ev_tand, ev_tor, ev_mt, ev_mt0, ev_rgd, ev_set, ev_asg, ev_ret, ev_retN, ev_ex, ev_pass, ev_brk, ev_cont, ev_ifS, ev_aug, ev_gn, ev_gtp, ev_gnl, ev_gcs, ev_gsb, ev_for, ev_rg1, ev_rg2, ev_its, ev_enum, ev_lc, ev_yes, ev_add_ii, ev_add_ss, ev_add_tt, ev_add_rr, ev_sub, ev_mul, ev_mod, ev_fdiv, ev_pow, ev_neg, ev_lt, ev_le, ev_gt, ev_ge, ev_eq_ii, ev_eq_ss, ev_eq_bb, ev_ne_ii, ev_ne_ss, ev_ne_bb, ev_is_n, ev_isnt_n, ev_int_i, ev_int_b, ev_min_ii, ev_max_ii, ev_abs, ev_tup_of, ev_tup_ofL, ev_lst_ofT, ev_lst_ofL, ev_len_t, ev_len_s, ev_len_r, ev_tru_b, ev_alloc, ev_tupD, ev_lstD, isi_tuple_non, isi_tuple_bl, isi_tuple_int, isi_tuple_str, isi_tuple_tup, isi_tuple_l, isi_tuple_f, isi_list_non, isi_list_bl, isi_list_int, isi_list_str, isi_list_tup, isi_list_l, isi_list_f, isi_bool_non, isi_bool_bl, isi_bool_int, isi_bool_str, isi_bool_tup, isi_bool_l, isi_bool_f, isi_int_non, isi_int_bl, isi_int_int, isi_int_str, isi_int_tup, isi_int_l, isi_int_f, isi_str_non, isi_str_bl, isi_str_int, isi_str_str, isi_str_tup, isi_str_l, isi_str_f, isi_dict_non, isi_dict_bl, isi_dict_int, isi_dict_str, isi_dict_tup, isi_dict_l, isi_dict_f, Ab.isNon, args, List.map, List.length_cons, List.length_nil, List.length_singleton, List.replicate, Nat.reduceSub, Nat.reduceAdd, Nat.zero_add, List.cons_append, List.nil_append, List.getElem?_cons_zero, List.getElem?_cons_succ, List.set_cons_zero, List.set_cons_succ, Option.some.injEq, decide_eq_true_eq, Bool.not_eq_true', decide_eq_false_iff_not, ite_true, ite_false, if_true, if_false, reduceIte, Bool.false_eq_true, Bool.not_true, Bool.not_false, Bool.true_eq_false, decide_true, decide_false, Nat.reduceLeDiff, Nat.reduceLT, d2]
      obtain ⟨c, hc, ac, cb⟩ : ∃ c : Nat, ((a : Int) + (b : Nat)) / 2 = (c : Nat) ∧ a ≤ c ∧ c < b := ⟨(a + b) / 2, by omega, by omega, by omega⟩
      have cl : c < us.length := by omega
      have ix : ixD (.tup (us.map D.int)) (.int (c : Nat)) B = .ok (.int us[c]) B := ev_ix_t (by rw [atI_pos (by omega), Int.toNat_natCast, List.getElem?_map, List.getElem?_eq_getElem cl]; rfl)
      simp only [hc, sat_ok, sat_bad, sat_bind, sat_ite, bind_ok, bind_bad, thn_nx, thn_rt, thn_bk, thn_ct, fin_rt, fin_nx, ev_v, ev_c, ev_op, ev_un, ev_nil, ev_cons, ev_tup, ev_lst, ev_call, ev_own, ev_sl, ev_no, ev_part, ev_and, ev_or, ev_not, ev_if, ev_t, ev_tb, ev_tnot, ev_tand, ev_tor, ev_mt, ev_mt0, ev_rgd, ev_set, ev_asg, ev_ret, ev_retN, ev_ex, ev_pass, ev_brk, ev_cont, ev_ifS, ev_aug, ev_gn, ev_gtp, ev_gnl, ev_gcs, ev_gsb, ev_for, ev_rg1, ev_rg2, ev_its, ev_enum, ev_lc, ev_yes, ev_add_ii, ev_add_ss, ev_add_tt, ev_add_rr, ev_sub, ev_mul, ev_mod, ev_fdiv, ev_pow, ev_neg, ev_lt, ev_le, ev_gt, ev_ge, ev_eq_ii, ev_eq_ss, ev_eq_bb, ev_ne_ii, ev_ne_ss, ev_ne_bb, ev_is_n, ev_isnt_n, ev_int_i, ev_int_b, ev_min_ii, ev_max_ii, ev_abs, ev_tup_of, ev_tup_ofL, ev_lst_ofT, ev_lst_ofL, ev_len_t, ev_len_s, ev_len_r, ev_tru_b, ev_alloc, ev_tupD, ev_lstD, isi_tuple_non, isi_tuple_bl, isi_tuple_int, isi_tuple_str, isi_tuple_tup, isi_tuple_l, isi_tuple_f, isi_list_non, isi_list_bl, isi_list_int, isi_list_str, isi_list_tup, isi_list_l, isi_list_f, isi_bool_non, isi_bool_bl, isi_bool_int, isi_bool_str, isi_bool_tup, isi_bool_l, isi_bool_f, isi_int_non, isi_int_bl, isi_int_int, isi_int_str, isi_int_tup, isi_int_l, isi_int_f, isi_str_non, isi_str_bl, isi_str_int, isi_str_str, isi_str_tup, isi_str_l, isi_str_f, isi_dict_non, isi_dict_bl, isi_dict_int, isi_dict_str, isi_dict_tup, isi_dict_l, isi_dict_f, Ab.isNon, args, List.map, List.length_cons, List.length_nil, List.length_singleton, List.replicate, Nat.reduceSub, Nat.reduceAdd, Nat.zero_add, List.cons_append, List.nil_append, List.getElem?_cons_zero, List.getElem?_cons_succ, List.set_cons_zero, List.set_cons_succ, Option.some.injEq, decide_eq_true_eq, Bool.not_eq_true', decide_eq_false_iff_not, ite_true, ite_false, if_true, if_false, reduceIte, Bool.false_eq_true, Bool.not_true, Bool.not_false, Bool.true_eq_false, decide_true, decide_false, Nat.reduceLeDiff, Nat.reduceLT, ix]
      split
      · rename_i l2
        simp only [sat_ok, sat_bad, sat_bind, sat_ite, bind_ok, bind_bad, thn_nx, thn_rt, thn_bk, thn_ct, fin_rt, fin_nx, ev_v, ev_c, ev_op, ev_un, ev_nil, ev_cons, ev_tup, ev_lst, ev_call, ev_own, ev_sl, ev_no, ev_part, ev_and, ev_or, ev_not, ev_if, ev_t, ev_tb, ev_tnot, ev_tand, ev_tor, ev_mt, ev_mt0, ev_rgd, ev_set, ev_asg, ev_ret, ev_retN, ev_ex, ev_pass, ev_brk, ev_cont, ev_ifS, ev_aug, ev_gn, ev_gtp, ev_gnl, ev_gcs, ev_gsb, ev_for, ev_rg1, ev_rg2, ev_its, ev_enum, ev_lc, ev_yes, ev_add_ii, ev_add_ss, ev_add_tt, ev_add_rr, ev_sub, ev_mul, ev_mod, ev_fdiv, ev_pow, ev_neg, ev_lt, ev_le, ev_gt, ev_ge, ev_eq_ii, ev_eq_ss, ev_eq_bb, ev_ne_ii, ev_ne_ss, ev_ne_bb, ev_is_n, ev_isnt_n, ev_int_i, ev_int_b, ev_min_ii, ev_max_ii, ev_abs, ev_tup_of, ev_tup_ofL, ev_lst_ofT, ev_lst_ofL, ev_len_t, ev_len_s, ev_len_r, ev_tru_b, ev_alloc, ev_tupD, ev_lstD, isi_tuple_non, isi_tuple_bl, isi_tuple_int, isi_tuple_str, isi_tuple_tup, isi_tuple_l, isi_tuple_f, isi_list_non, isi_list_bl, isi_list_int, isi_list_str, isi_list_tup, isi_list_l, isi_list_f, isi_bool_non, isi_bool_bl, isi_bool_int, isi_bool_str, isi_bool_tup, isi_bool_l, isi_bool_f, isi_int_non, isi_int_bl, isi_int_int, isi_int_str, isi_int_tup, isi_int_l, isi_int_f, isi_str_non, isi_str_bl, isi_str_int, isi_str_str, isi_str_tup, isi_str_l, isi_str_f, isi_dict_non, isi_dict_bl, isi_dict_int, isi_dict_str, isi_dict_tup, isi_dict_l, isi_dict_f, Ab.isNon, args, List.map, List.length_cons, List.length_nil, List.length_singleton, List.replicate, Nat.reduceSub, Nat.reduceAdd, Nat.zero_add, List.cons_append, List.nil_append, List.getElem?_cons_zero, List.getElem?_cons_succ, List.set_cons_zero, List.set_cons_succ, Option.some.injEq, decide_eq_true_eq, Bool.not_eq_true', decide_eq_false_iff_not, ite_true, ite_false, if_true, if_false, reduceIte, Bool.false_eq_true, Bool.not_true, Bool.not_false, Bool.true_eq_false, decide_true, decide_false, Nat.reduceLeDiff, Nat.reduceLT, turn_]
        refine ⟨b - (c + 1), by omega, trivial, c + 1, b, _, rfl, rfl, by omega, bl, fun i hi h => ?_, hi⟩
        have := srt_get ‹us.Pairwise (· < ·)› (i := i) (j := c) hi cl (by omega)
        omega
      · rename_i l2
        simp only [sat_ok, sat_bad, sat_bind, sat_ite, bind_ok, bind_bad, thn_nx, thn_rt, thn_bk, thn_ct, fin_rt, fin_nx, ev_v, ev_c, ev_op, ev_un, ev_nil, ev_cons, ev_tup, ev_lst, ev_call, ev_own, ev_sl, ev_no, ev_part, ev_and, ev_or, ev_not, ev_if, ev_t, ev_tb, ev_tnot, ev_tand, ev_tor, ev_mt, ev_mt0, ev_rgd, ev_set, ev_asg, ev_ret, ev_retN, ev_ex, ev_pass, ev_brk, ev_cont, ev_ifS, ev_aug, ev_gn, ev_gtp, ev_gnl, ev_gcs, ev_gsb, ev_for, ev_rg1, ev_rg2, ev_its, ev_enum, ev_lc, ev_yes, ev_add_ii, ev_add_ss, ev_add_tt, ev_add_rr, ev_sub, ev_mul, ev_mod, ev_fdiv, ev_pow, ev_neg, ev_lt, ev_le, ev_gt, ev_ge, ev_eq_ii, ev_eq_ss, ev_eq_bb, ev_ne_ii, ev_ne_ss, ev_ne_bb, ev_is_n, ev_isnt_n, ev_int_i, ev_int_b, ev_min_ii, ev_max_ii, ev_abs, ev_tup_of, ev_tup_ofL, ev_lst_ofT, ev_lst_ofL, ev_len_t, ev_len_s, ev_len_r, ev_tru_b, ev_alloc, ev_tupD, ev_lstD, isi_tuple_non, isi_tuple_bl, isi_tuple_int, isi_tuple_str, isi_tuple_tup, isi_tuple_l, isi_tuple_f, isi_list_non, isi_list_bl, isi_list_int, isi_list_str, isi_list_tup, isi_list_l, isi_list_f, isi_bool_non, isi_bool_bl, isi_bool_int, isi_bool_str, isi_bool_tup, isi_bool_l, isi_bool_f, isi_int_non, isi_int_bl, isi_int_int, isi_int_str, isi_int_tup, isi_int_l, isi_int_f, isi_str_non, isi_str_bl, isi_str_int, isi_str_str, isi_str_tup, isi_str_l, isi_str_f, isi_dict_non, isi_dict_bl, isi_dict_int, isi_dict_str, isi_dict_tup, isi_dict_l, isi_dict_f, Ab.isNon, args, List.map, List.length_cons, List.length_nil, List.length_singleton, List.replicate, Nat.reduceSub, Nat.reduceAdd, Nat.zero_add, List.cons_append, List.nil_append, List.getElem?_cons_zero, List.getElem?_cons_succ, List.set_cons_zero, List.set_cons_succ, Option.some.injEq, decide_eq_true_eq, Bool.not_eq_true', decide_eq_false_iff_not, ite_true, ite_false, if_true, if_false, reduceIte, Bool.false_eq_true, Bool.not_true, Bool.not_false, Bool.true_eq_false, decide_true, decide_false, Nat.reduceLeDiff, Nat.reduceLT, turn_]
        refine ⟨c - a, by omega, trivial, a, c, _, rfl, rfl, ac, by omega, lo, fun i hi h => ?_⟩
        have := srt_get ‹us.Pairwise (· < ·)› (i := c) (j := i) cl hi h
        omega
    · rename_i lt
      have e : a = b := by omega
      subst e
      refine sat_seq ?_
      simp only [sat_ok, sat_bad, sat_bind, sat_ite, bind_ok, bind_bad, thn_nx, thn_rt, thn_bk, thn_ct, fin_rt, fin_nx, ev_v, ev_c, ev_op, ev_un, ev_nil, ev_cons, ev_tup, ev_lst, ev_call, ev_own, ev_sl, ev_no, ev_part, ev_and, ev_or, ev_not, ev_if, ev_t, ev_tb, ev_tnot, ev_tand, ev_tor, ev_mt, ev_mt0, ev_rgd, ev_set, ev_asg, ev_ret, ev_retN, ev_ex, ev_pass, ev_brk, ev_cont, ev_ifS, ev_aug, ev_gn, ev_gtp, ev_gnl, ev_gcs, ev_gsb, ev_for, ev_rg1, ev_rg2, ev_its, ev_enum, ev_lc, ev_yes, ev_add_ii, ev_add_ss, ev_add_tt, ev_add_rr, ev_sub, ev_mul, ev_mod, ev_fdiv, ev_pow, ev_neg, ev_lt, ev_le, ev_gt, ev_ge, ev_eq_ii, ev_eq_ss, ev_eq_bb, ev_ne_ii, ev_ne_ss, ev_ne_bb, ev_is_n, ev_isnt_n, ev_int_i, ev_int_b, ev_min_ii, ev_max_ii, ev_abs, ev_tup_of, ev_tup_ofL, ev_lst_ofT, ev_lst_ofL, ev_len_t, ev_len_s, ev_len_r, ev_tru_b, ev_alloc, ev_tupD, ev_lstD, isi_tuple_non, isi_tuple_bl, isi_tuple_int, isi_tuple_str, isi_tuple_tup, isi_tuple_l, isi_tuple_f, isi_list_non, isi_list_bl, isi_list_int, isi_list_str, isi_list_tup, isi_list_l, isi_list_f, isi_bool_non, isi_bool_bl, isi_bool_int, isi_bool_str, isi_bool_tup, isi_bool_l, isi_bool_f, isi_int_non, isi_int_bl, isi_int_int, isi_int_str, isi_int_tup, isi_int_l, isi_int_f, isi_str_non, isi_str_bl, isi_str_int, isi_str_str, isi_str_tup, isi_str_l, isi_str_f, isi_dict_non, isi_dict_bl, isi_dict_int, isi_dict_str, isi_dict_tup, isi_dict_l, isi_dict_f, Ab.isNon, args, List.map, List.length_cons, List.length_nil, List.length_singleton, List.replicate, Nat.reduceSub, Nat.reduceAdd, Nat.zero_add, List.cons_append, List.nil_append, List.getElem?_cons_zero, List.getElem?_cons_succ, List.set_cons_zero, List.set_cons_succ, Option.some.injEq, decide_eq_true_eq, Bool.not_eq_true', decide_eq_false_iff_not, ite_true, ite_false, if_true, if_false, reduceIte, Bool.false_eq_true, Bool.not_true, Bool.not_false, Bool.true_eq_false, decide_true, decide_false, Nat.reduceLeDiff, Nat.reduceLT]
      split
      · rename_i ea
        have ea : a = us.length := by simp at ea; omega
        have em : (us.filter fun u => decide (x ≤ u)) = [] := by
          rw [List.filter_eq_nil_iff]
          intro u hu
          obtain ⟨i, hi2, rfl⟩ := List.getElem_of_mem hu
          have := lo i hi2 (by omega)
          simp; omega
        refine ⟨?_, trivial⟩
        unfold rup
        rw [em]; rfl
      · rename_i ea
        have al : a < us.length := by
          have : a ≠ us.length := fun z => ea (by simp; omega)
          omega
        have ix : ixD (.tup (us.map D.int)) (.int (a : Nat)) B = .ok (.int us[a]) B := ev_ix_t (by rw [atI_pos (by omega), Int.toNat_natCast, List.getElem?_map, List.getElem?_eq_getElem al]; rfl)
        simp only [sat_ok, sat_bad, sat_bind, sat_ite, bind_ok, bind_bad, thn_nx, thn_rt, thn_bk, thn_ct, fin_rt, fin_nx, ev_v, ev_c, ev_op, ev_un, ev_nil, ev_cons, ev_tup, ev_lst, ev_call, ev_own, ev_sl, ev_no, ev_part, ev_and, ev_or, ev_not, ev_if, ev_t, ev_tb, ev_tnot, ev_tand, ev_tor, ev_mt, ev_mt0, ev_rgd, ev_set, ev_asg, ev_ret, ev_retN, ev_ex, ev_pass, ev_brk, ev_cont, ev_ifS, ev_aug, ev_gn, ev_gtp, ev_gnl, ev_gcs, ev_gsb, ev_for, ev_rg1, ev_rg2, ev_its, ev_enum, ev_lc, ev_yes, ev_add_ii, ev_add_ss, ev_add_tt, ev_add_rr, ev_sub, ev_mul, ev_mod, ev_fdiv, ev_pow, ev_neg, ev_lt, ev_le, ev_gt, ev_ge, ev_eq_ii, ev_eq_ss, ev_eq_bb, ev_ne_ii, ev_ne_ss, ev_ne_bb, ev_is_n, ev_isnt_n, ev_int_i, ev_int_b, ev_min_ii, ev_max_ii, ev_abs, ev_tup_of, ev_tup_ofL, ev_lst_ofT, ev_lst_ofL, ev_len_t, ev_len_s, ev_len_r, ev_tru_b, ev_alloc, ev_tupD, ev_lstD, isi_tuple_non, isi_tuple_bl, isi_tuple_int, isi_tuple_str, isi_tuple_tup, isi_tuple_l, isi_tuple_f, isi_list_non, isi_list_bl, isi_list_int, isi_list_str, isi_list_tup, isi_list_l, isi_list_f, isi_bool_non, isi_bool_bl, isi_bool_int, isi_bool_str, isi_bool_tup, isi_bool_l, isi_bool_f, isi_int_non, isi_int_bl, isi_int_int, isi_int_str, isi_int_tup, isi_int_l, isi_int_f, isi_str_non, isi_str_bl, isi_str_int, isi_str_str, isi_str_tup, isi_str_l, isi_str_f, isi_dict_non, isi_dict_bl, isi_dict_int, isi_dict_str, isi_dict_tup, isi_dict_l, isi_dict_f, Ab.isNon, args, List.map, List.length_cons, List.length_nil, List.length_singleton, List.replicate, Nat.reduceSub, Nat.reduceAdd, Nat.zero_add, List.cons_append, List.nil_append, List.getElem?_cons_zero, List.getElem?_cons_succ, List.set_cons_zero, List.set_cons_succ, Option.some.injEq, decide_eq_true_eq, Bool.not_eq_true', decide_eq_false_iff_not, ite_true, ite_false, if_true, if_false, reduceIte, Bool.false_eq_true, Bool.not_true, Bool.not_false, Bool.true_eq_false, decide_true, decide_false, Nat.reduceLeDiff, Nat.reduceLT, ix]
        refine ⟨?_, trivial⟩
        have r1 : rup us g x ≤ us[a] := rup_le (List.getElem_mem al) (hi a al (Nat.le_refl _))
        have r2 := rup_g (us := us) (g := g) (x := x)
        have r3 : rup us g x = us[a] ∨ rup us g x = g ∨ us[a] ≤ rup us g x := by
          rcases rup_mem (us := us) (g := g) (x := x) with ⟨h1, h2⟩ | h1
          · obtain ⟨i, hi2, e⟩ := List.getElem_of_mem h1
            rw [← e] at h2 ⊢
            have : a ≤ i := by
              rcases Nat.lt_or_ge i a with z | z
              · have := lo i hi2 z; omega
              · exact z
            exact .inr (.inr (srt_get ‹us.Pairwise (· < ·)› al hi2 this))
          · exact .inr (.inl h1)
        congr 1
        split <;> omega
  obtain ⟨d, A', e, rfl, rfl⟩ := key.eq
  exact e
/-! ### rounding a box -/
def tbl (us : List Int) (l h : Nat → Int) (M : Mx) : Mx := fun i j => if i = j then M i j else rup us (h i - l j) (M i j)
theorem enum_rg : ∀ (m : Nat) (f : Nat → D), enumL 0 ((List.range m).map f) = (List.range m).map fun k => .tup [.int (k : Nat), f k] := fun m f => by
  apply List.ext_getElem?
  intro i
  rw [enumL_get, List.getElem?_map, List.getElem?_map]
  by_cases c : i < m
  · rw [List.getElem?_range c]
    show some (D.tup [.int ((0 + i : Nat) : Int), f i]) = _
    rw [Nat.zero_add]; rfl
  · rw [List.getElem?_eq_none (by simpa using c)]; rfl
theorem non_round {A : AH} {d e : D} : m_round_box [.non, d, e] A = .ok .non A := by
  have key : Sat (m_round_box [.non, d, e] A) fun d A' => d = .non ∧ A' = A := by
    refine sat_body rfl (sat_seq ?_)
    simp only [sat_ok, sat_bad, sat_bind, sat_ite, bind_ok, bind_bad, thn_nx, thn_rt, thn_bk, thn_ct, fin_rt, fin_nx, ev_v, ev_c, ev_op, ev_un, ev_nil, ev_cons, ev_tup, ev_lst, ev_call, ev_own, ev_sl, ev_no, ev_part, ev_and, ev_or, ev_not, ev_if, ev_t, ev_tb, ev_tnot, ev_tand, ev_tor, ev_mt, ev_mt0, ev_rgd, ev_set, ev_asg, ev_ret, ev_retN, ev_ex, ev_pass, ev_brk, ev_cont, ev_ifS, ev_aug, ev_gn, ev_gtp, ev_gnl, ev_gcs, ev_gsb, ev_for, ev_rg1, ev_rg2, ev_its, ev_enum, ev_lc, ev_yes, ev_add_ii, ev_add_ss, ev_add_tt, ev_add_rr, ev_sub, ev_mul, ev_mod, ev_fdiv, ev_pow, ev_neg, ev_lt, ev_le, ev_gt, ev_ge, ev_eq_ii, ev_eq_ss, ev_eq_bb, ev_ne_ii, ev_ne_ss, ev_ne_bb, ev_is_n, ev_isnt_n, ev_int_i, ev_int_b, ev_min_ii, ev_max_ii, ev_abs, ev_tup_of, ev_tup_ofL, ev_lst_ofT, ev_lst_ofL, ev_len_t, ev_len_s, ev_len_r, ev_tru_b, ev_alloc, ev_tupD, ev_lstD, isi_tuple_non, isi_tuple_bl, isi_tuple_int, isi_tuple_str, isi_tuple_tup, isi_tuple_l, isi_tuple_f, isi_list_non, isi_list_bl, isi_list_int, isi_list_str, isi_list_tup, isi_list_l, isi_list_f, isi_bool_non, isi_bool_bl, isi_bool_int, isi_bool_str, isi_bool_tup, isi_bool_l, isi_bool_f, isi_int_non, isi_int_bl, isi_int_int, isi_int_str, isi_int_tup, isi_int_l, isi_int_f, isi_str_non, isi_str_bl, isi_str_int, isi_str_str, isi_str_tup, isi_str_l, isi_str_f, isi_dict_non, isi_dict_bl, isi_dict_int, isi_dict_str, isi_dict_tup, isi_dict_l, isi_dict_f, Ab.isNon, args, List.map, List.length_cons, List.length_nil, List.length_singleton, List.replicate, Nat.reduceSub, Nat.reduceAdd, Nat.zero_add, List.cons_append, List.nil_append, List.getElem?_cons_zero, List.getElem?_cons_succ, List.set_cons_zero, List.set_cons_succ, Option.some.injEq, decide_eq_true_eq, Bool.not_eq_true', decide_eq_false_iff_not, ite_true, ite_false, if_true, if_false, reduceIte, Bool.false_eq_true, Bool.not_true, Bool.not_false, Bool.true_eq_false, decide_true, decide_false, Nat.reduceLeDiff, Nat.reduceLT]
    trivial
  obtain ⟨d, A', e, rfl, rfl⟩ := key.eq
  exact e
theorem round_box_spec {A : AH} {n : Nat} {M : Mx} {pr : List (Int × Int)} {us : List Int} (hn : n ≤ 99) (hp : pr.length = n) (hu : us.Pairwise (· < ·)) (few : us.length ≤ 1000) :
    Sat (m_round_box [matD (n + 1) M, .tup (pr.map prD), .tup (us.map D.int)] A) fun d A' => Gr A A' ∧ ∃ o, d = outD (n + 1) o ∧ Closes (n + 1) (tbl us (fst0 pr) (snd0 pr) M) o := by
  refine sat_body rfl (sat_seq ?_)
  have en : ∀ A, enumS (matD (n + 1) M) A = .ok ⟨(List.range (n + 1)).map fun k => .tup [.int (k : Nat), rowD (n + 1) (M k)], yes⟩ A := fun A => by
    show Res.ok (⟨enumL 0 _, yes⟩ : Src) A = _
    rw [enum_rg]
  have er : ∀ k A, enumS (rowD (n + 1) (M k)) A = .ok ⟨(List.range (n + 1)).map fun j => .tup [.int (j : Nat), .int (M k j)], yes⟩ A := fun k A => by
    show Res.ok (⟨enumL 0 _, yes⟩ : Src) A = _
    rw [enum_rg]
  have z : [D.tup [.int 0, .int 0]].length + (pr.map prD).length ≤ sizeLine := sl_le (by simp; omega)
  have a1 : ∀ A, addD (.tup [.tup [.int 0, .int 0]]) (.tup (pr.map prD)) A = .ok (.tup (.tup [.int 0, .int 0] :: pr.map prD)) A := fun A => ev_add_tt z
  have ix : ∀ {i : Nat} A, i < n + 1 → ixD (.tup (.tup [.int 0, .int 0] :: pr.map prD)) (.int (i : Nat)) A = .ok (.tup [.int (fst0 pr i), .int (snd0 pr i)]) A := fun A h => ev_ix_t (by rw [atI_pos (by omega), Int.toNat_natCast]; exact full_ix (by omega))
  have ix0 : ∀ {a b : Int} A, ixD (.tup [.int a, .int b]) (.int 0) A = .ok (.int a) A := fun A => ev_ix_t (by rw [atI_pos (by decide)]; rfl)
  have ix1 : ∀ {a b : Int} A, ixD (.tup [.int a, .int b]) (.int 1) A = .ok (.int b) A := fun A => ev_ix_t (by rw [atI_pos (by decide)]; rfl)
  obtain ⟨ds, hd⟩ : ∃ ds, matD (n + 1) M = .tup ds := ⟨_, rfl⟩
  simp only [hd] at en ⊢
  simp only [sat_ok, sat_bad, sat_bind, sat_ite, bind_ok, bind_bad, thn_nx, thn_rt, thn_bk, thn_ct, fin_rt, fin_nx, ev_v, ev_c, ev_op, ev_un, ev_nil, ev_cons, ev_tup, ev_lst, ev_call, ev_own, ev_sl, ev_no, ev_part, ev_and, ev_or, ev_not, ev_if, ev_t, ev_tb, ev_tnot, ev_tand, ev_tor, ev_mt, ev_mt0, ev_rgd, ev_set, ev_asg, ev_ret, ev_retN, ev_ex, ev_pass, ev_brk, ev_cont, ev_ifS, ev_aug, ev_gn, ev_gtp, ev_gnl, ev_gcs, ev_gsb, ev_for, ev_rg1, ev_rg2, ev_its, ev_enum, ev_lc, ev_yes, ev_add_ii, ev_add_ss, ev_add_tt, ev_add_rr, ev_sub, ev_mul, ev_mod, ev_fdiv, ev_pow, ev_neg, ev_lt, ev_le, ev_gt, ev_ge, ev_eq_ii, ev_eq_ss, ev_eq_bb, ev_ne_ii, ev_ne_ss, ev_ne_bb, ev_is_n, ev_isnt_n, ev_int_i, ev_int_b, ev_min_ii, ev_max_ii, ev_abs, ev_tup_of, ev_tup_ofL, ev_lst_ofT, ev_lst_ofL, ev_len_t, ev_len_s, ev_len_r, ev_tru_b, ev_alloc, ev_tupD, ev_lstD, isi_tuple_non, isi_tuple_bl, isi_tuple_int, isi_tuple_str, isi_tuple_tup, isi_tuple_l, isi_tuple_f, isi_list_non, isi_list_bl, isi_list_int, isi_list_str, isi_list_tup, isi_list_l, isi_list_f, isi_bool_non, isi_bool_bl, isi_bool_int, isi_bool_str, isi_bool_tup, isi_bool_l, isi_bool_f, isi_int_non, isi_int_bl, isi_int_int, isi_int_str, isi_int_tup, isi_int_l, isi_int_f, isi_str_non, isi_str_bl, isi_str_int, isi_str_str, isi_str_tup, isi_str_l, isi_str_f, isi_dict_non, isi_dict_bl, isi_dict_int, isi_dict_str, isi_dict_tup, isi_dict_l, isi_dict_f, Ab.isNon, args, List.map, List.length_cons, List.length_nil, List.length_singleton, List.replicate, Nat.reduceSub, Nat.reduceAdd, Nat.zero_add, List.cons_append, List.nil_append, List.getElem?_cons_zero, List.getElem?_cons_succ, List.set_cons_zero, List.set_cons_succ, Option.some.injEq, decide_eq_true_eq, Bool.not_eq_true', decide_eq_false_iff_not, ite_true, ite_false, if_true, if_false, reduceIte, Bool.false_eq_true, Bool.not_true, Bool.not_false, Bool.true_eq_false, decide_true, decide_false, Nat.reduceLeDiff, Nat.reduceLT]
  refine sat_seq ?_
  simp only [sat_ok, sat_bad, sat_bind, sat_ite, bind_ok, bind_bad, thn_nx, thn_rt, thn_bk, thn_ct, fin_rt, fin_nx, ev_v, ev_c, ev_op, ev_un, ev_nil, ev_cons, ev_tup, ev_lst, ev_call, ev_own, ev_sl, ev_no, ev_part, ev_and, ev_or, ev_not, ev_if, ev_t, ev_tb, ev_tnot, ev_tand, ev_tor, ev_mt, ev_mt0, ev_rgd, ev_set, ev_asg, ev_ret, ev_retN, ev_ex, ev_pass, ev_brk, ev_cont, ev_ifS, ev_aug, ev_gn, ev_gtp, ev_gnl, ev_gcs, ev_gsb, ev_for, ev_rg1, ev_rg2, ev_its, ev_enum, ev_lc, ev_yes, ev_add_ii, ev_add_ss, ev_add_tt, ev_add_rr, ev_sub, ev_mul, ev_mod, ev_fdiv, ev_pow, ev_neg, ev_lt, ev_le, ev_gt, ev_ge, ev_eq_ii, ev_eq_ss, ev_eq_bb, ev_ne_ii, ev_ne_ss, ev_ne_bb, ev_is_n, ev_isnt_n, ev_int_i, ev_int_b, ev_min_ii, ev_max_ii, ev_abs, ev_tup_of, ev_tup_ofL, ev_lst_ofT, ev_lst_ofL, ev_len_t, ev_len_s, ev_len_r, ev_tru_b, ev_alloc, ev_tupD, ev_lstD, isi_tuple_non, isi_tuple_bl, isi_tuple_int, isi_tuple_str, isi_tuple_tup, isi_tuple_l, isi_tuple_f, isi_list_non, isi_list_bl, isi_list_int, isi_list_str, isi_list_tup, isi_list_l, isi_list_f, isi_bool_non, isi_bool_bl, isi_bool_int, isi_bool_str, isi_bool_tup, isi_bool_l, isi_bool_f, isi_int_non, isi_int_bl, isi_int_int, isi_int_str, isi_int_tup, isi_int_l, isi_int_f, isi_str_non, isi_str_bl, isi_str_int, isi_str_str, isi_str_tup, isi_str_l, isi_str_f, isi_dict_non, isi_dict_bl, isi_dict_int, isi_dict_str, isi_dict_tup, isi_dict_l, isi_dict_f, Ab.isNon, args, List.map, List.length_cons, List.length_nil, List.length_singleton, List.replicate, Nat.reduceSub, Nat.reduceAdd, Nat.zero_add, List.cons_append, List.nil_append, List.getElem?_cons_zero, List.getElem?_cons_succ, List.set_cons_zero, List.set_cons_succ, Option.some.injEq, decide_eq_true_eq, Bool.not_eq_true', decide_eq_false_iff_not, ite_true, ite_false, if_true, if_false, reduceIte, Bool.false_eq_true, Bool.not_true, Bool.not_false, Bool.true_eq_false, decide_true, decide_false, Nat.reduceLeDiff, Nat.reduceLT, a1]
  refine sat_seq ?_
  generalize hF : D.tup (.tup [.int 0, .int 0] :: pr.map prD) = F at *
  simp only [sat_ok, sat_bad, sat_bind, sat_ite, bind_ok, bind_bad, thn_nx, thn_rt, thn_bk, thn_ct, fin_rt, fin_nx, ev_v, ev_c, ev_op, ev_un, ev_nil, ev_cons, ev_tup, ev_lst, ev_call, ev_own, ev_sl, ev_no, ev_part, ev_and, ev_or, ev_not, ev_if, ev_t, ev_tb, ev_tnot, ev_tand, ev_tor, ev_mt, ev_mt0, ev_rgd, ev_set, ev_asg, ev_ret, ev_retN, ev_ex, ev_pass, ev_brk, ev_cont, ev_ifS, ev_aug, ev_gn, ev_gtp, ev_gnl, ev_gcs, ev_gsb, ev_for, ev_rg1, ev_rg2, ev_its, ev_enum, ev_lc, ev_yes, ev_add_ii, ev_add_ss, ev_add_tt, ev_add_rr, ev_sub, ev_mul, ev_mod, ev_fdiv, ev_pow, ev_neg, ev_lt, ev_le, ev_gt, ev_ge, ev_eq_ii, ev_eq_ss, ev_eq_bb, ev_ne_ii, ev_ne_ss, ev_ne_bb, ev_is_n, ev_isnt_n, ev_int_i, ev_int_b, ev_min_ii, ev_max_ii, ev_abs, ev_tup_of, ev_tup_ofL, ev_lst_ofT, ev_lst_ofL, ev_len_t, ev_len_s, ev_len_r, ev_tru_b, ev_alloc, ev_tupD, ev_lstD, isi_tuple_non, isi_tuple_bl, isi_tuple_int, isi_tuple_str, isi_tuple_tup, isi_tuple_l, isi_tuple_f, isi_list_non, isi_list_bl, isi_list_int, isi_list_str, isi_list_tup, isi_list_l, isi_list_f, isi_bool_non, isi_bool_bl, isi_bool_int, isi_bool_str, isi_bool_tup, isi_bool_l, isi_bool_f, isi_int_non, isi_int_bl, isi_int_int, isi_int_str, isi_int_tup, isi_int_l, isi_int_f, isi_str_non, isi_str_bl, isi_str_int, isi_str_str, isi_str_tup, isi_str_l, isi_str_f, isi_dict_non, isi_dict_bl, isi_dict_int, isi_dict_str, isi_dict_tup, isi_dict_l, isi_dict_f, Ab.isNon, args, List.map, List.length_cons, List.length_nil, List.length_singleton, List.replicate, Nat.reduceSub, Nat.reduceAdd, Nat.zero_add, List.cons_append, List.nil_append, List.getElem?_cons_zero, List.getElem?_cons_succ, List.set_cons_zero, List.set_cons_succ, Option.some.injEq, decide_eq_true_eq, Bool.not_eq_true', decide_eq_false_iff_not, ite_true, ite_false, if_true, if_false, reduceIte, Bool.false_eq_true, Bool.not_true, Bool.not_false, Bool.true_eq_false, decide_true, decide_false, Nat.reduceLeDiff, Nat.reduceLT]
  refine sat_seq ?_
  have hR := at_new (A := A) (o := .lst [])
  simp only [sat_ok, sat_bad, sat_bind, sat_ite, bind_ok, bind_bad, thn_nx, thn_rt, thn_bk, thn_ct, fin_rt, fin_nx, ev_v, ev_c, ev_op, ev_un, ev_nil, ev_cons, ev_tup, ev_lst, ev_call, ev_own, ev_sl, ev_no, ev_part, ev_and, ev_or, ev_not, ev_if, ev_t, ev_tb, ev_tnot, ev_tand, ev_tor, ev_mt, ev_mt0, ev_rgd, ev_set, ev_asg, ev_ret, ev_retN, ev_ex, ev_pass, ev_brk, ev_cont, ev_ifS, ev_aug, ev_gn, ev_gtp, ev_gnl, ev_gcs, ev_gsb, ev_for, ev_rg1, ev_rg2, ev_its, ev_enum, ev_lc, ev_yes, ev_add_ii, ev_add_ss, ev_add_tt, ev_add_rr, ev_sub, ev_mul, ev_mod, ev_fdiv, ev_pow, ev_neg, ev_lt, ev_le, ev_gt, ev_ge, ev_eq_ii, ev_eq_ss, ev_eq_bb, ev_ne_ii, ev_ne_ss, ev_ne_bb, ev_is_n, ev_isnt_n, ev_int_i, ev_int_b, ev_min_ii, ev_max_ii, ev_abs, ev_tup_of, ev_tup_ofL, ev_lst_ofT, ev_lst_ofL, ev_len_t, ev_len_s, ev_len_r, ev_tru_b, ev_alloc, ev_tupD, ev_lstD, isi_tuple_non, isi_tuple_bl, isi_tuple_int, isi_tuple_str, isi_tuple_tup, isi_tuple_l, isi_tuple_f, isi_list_non, isi_list_bl, isi_list_int, isi_list_str, isi_list_tup, isi_list_l, isi_list_f, isi_bool_non, isi_bool_bl, isi_bool_int, isi_bool_str, isi_bool_tup, isi_bool_l, isi_bool_f, isi_int_non, isi_int_bl, isi_int_int, isi_int_str, isi_int_tup, isi_int_l, isi_int_f, isi_str_non, isi_str_bl, isi_str_int, isi_str_str, isi_str_tup, isi_str_l, isi_str_f, isi_dict_non, isi_dict_bl, isi_dict_int, isi_dict_str, isi_dict_tup, isi_dict_l, isi_dict_f, Ab.isNon, args, List.map, List.length_cons, List.length_nil, List.length_singleton, List.replicate, Nat.reduceSub, Nat.reduceAdd, Nat.zero_add, List.cons_append, List.nil_append, List.getElem?_cons_zero, List.getElem?_cons_succ, List.set_cons_zero, List.set_cons_succ, Option.some.injEq, decide_eq_true_eq, Bool.not_eq_true', decide_eq_false_iff_not, ite_true, ite_false, if_true, if_false, reduceIte, Bool.false_eq_true, Bool.not_true, Bool.not_false, Bool.true_eq_false, decide_true, decide_false, Nat.reduceLeDiff, Nat.reduceLT, ev_enumA, en]
  refine for_cnt (fun k σ B => Gr A B ∧ (∃ x y z u v, σ = [some (.tup ds), some (.tup (pr.map prD)), some (.tup (us.map D.int)), some F, some (.ref A.length), x, y, z, u, v]) ∧ B[A.length]? = some (.lst ((List.range k).map fun i => rowD (n + 1) (tbl us (fst0 pr) (snd0 pr) M i))))
    (fun k σ B hk ⟨G, ⟨x, y, z, u, v, hσ⟩, hB⟩ => ⟨trivial, ?_⟩) (fun σ B ⟨G, ⟨x, y, z, u, v, hσ⟩, hB⟩ => ⟨trivial, ?_⟩) ⟨.app, ⟨_, _, _, _, _, rfl⟩, hR⟩
  · subst hσ
    simp only [sat_ok, sat_bad, sat_bind, sat_ite, bind_ok, bind_bad, thn_nx, thn_rt, thn_bk, thn_ct, fin_rt, fin_nx, ev_v, ev_c, ev_op, ev_un, ev_nil, ev_cons, ev_tup, ev_lst, ev_call, ev_own, ev_sl, ev_no, ev_part, ev_and, ev_or, ev_not, ev_if, ev_t, ev_tb, ev_tnot, ev_tand, ev_tor, ev_mt, ev_mt0, ev_rgd, ev_set, ev_asg, ev_ret, ev_retN, ev_ex, ev_pass, ev_brk, ev_cont, ev_ifS, ev_aug, ev_gn, ev_gtp, ev_gnl, ev_gcs, ev_gsb, ev_for, ev_rg1, ev_rg2, ev_its, ev_enum, ev_lc, ev_yes, ev_add_ii, ev_add_ss, ev_add_tt, ev_add_rr, ev_sub, ev_mul, ev_mod, ev_fdiv, ev_pow, ev_neg, ev_lt, ev_le, ev_gt, ev_ge, ev_eq_ii, ev_eq_ss, ev_eq_bb, ev_ne_ii, ev_ne_ss, ev_ne_bb, ev_is_n, ev_isnt_n, ev_int_i, ev_int_b, ev_min_ii, ev_max_ii, ev_abs, ev_tup_of, ev_tup_ofL, ev_lst_ofT, ev_lst_ofL, ev_len_t, ev_len_s, ev_len_r, ev_tru_b, ev_alloc, ev_tupD, ev_lstD, isi_tuple_non, isi_tuple_bl, isi_tuple_int, isi_tuple_str, isi_tuple_tup, isi_tuple_l, isi_tuple_f, isi_list_non, isi_list_bl, isi_list_int, isi_list_str, isi_list_tup, isi_list_l, isi_list_f, isi_bool_non, isi_bool_bl, isi_bool_int, isi_bool_str, isi_bool_tup, isi_bool_l, isi_bool_f, isi_int_non, isi_int_bl, isi_int_int, isi_int_str, isi_int_tup, isi_int_l, isi_int_f, isi_str_non, isi_str_bl, isi_str_int, isi_str_str, isi_str_tup, isi_str_l, isi_str_f, isi_dict_non, isi_dict_bl, isi_dict_int, isi_dict_str, isi_dict_tup, isi_dict_l, isi_dict_f, Ab.isNon, args, List.map, List.length_cons, List.length_nil, List.length_singleton, List.replicate, Nat.reduceSub, Nat.reduceAdd, Nat.zero_add, List.cons_append, List.nil_append, List.getElem?_cons_zero, List.getElem?_cons_succ, List.set_cons_zero, List.set_cons_succ, Option.some.injEq, decide_eq_true_eq, Bool.not_eq_true', decide_eq_false_iff_not, ite_true, ite_false, if_true, if_false, reduceIte, Bool.false_eq_true, Bool.not_true, Bool.not_false, Bool.true_eq_false, decide_true, decide_false, Nat.reduceLeDiff, Nat.reduceLT]
    refine sat_seq ?_
    simp only [sat_ok, sat_bad, sat_bind, sat_ite, bind_ok, bind_bad, thn_nx, thn_rt, thn_bk, thn_ct, fin_rt, fin_nx, ev_v, ev_c, ev_op, ev_un, ev_nil, ev_cons, ev_tup, ev_lst, ev_call, ev_own, ev_sl, ev_no, ev_part, ev_and, ev_or, ev_not, ev_if, ev_t, ev_tb, ev_tnot, ev_tand, ev_tor, ev_mt, ev_mt0, ev_rgd, ev_set, ev_asg, ev_ret, ev_retN, ev_ex, ev_pass, ev_brk, ev_cont, ev_ifS, ev_aug, ev_gn, ev_gtp, ev_gnl, ev_gcs, ev_gsb, ev_for, ev_rg1, ev_rg2, ev_its, ev_enum, ev_lc, ev_yes, ev_add_ii, ev_add_ss, ev_add_tt, ev_add_rr, ev_sub, ev_mul, ev_mod, ev_fdiv, ev_pow, ev_neg, ev_lt, ev_le, ev_gt, ev_ge, ev_eq_ii, ev_eq_ss, ev_eq_bb, ev_ne_ii, ev_ne_ss, ev_ne_bb, ev_is_n, ev_isnt_n, ev_int_i, ev_int_b, ev_min_ii, ev_max_ii, ev_abs, ev_tup_of, ev_tup_ofL, ev_lst_ofT, ev_lst_ofL, ev_len_t, ev_len_s, ev_len_r, ev_tru_b, ev_alloc, ev_tupD, ev_lstD, isi_tuple_non, isi_tuple_bl, isi_tuple_int, isi_tuple_str, isi_tuple_tup, isi_tuple_l, isi_tuple_f, isi_list_non, isi_list_bl, isi_list_int, isi_list_str, isi_list_tup, isi_list_l, isi_list_f, isi_bool_non, isi_bool_bl, isi_bool_int, isi_bool_str, isi_bool_tup, isi_bool_l, isi_bool_f, isi_int_non, isi_int_bl, isi_int_int, isi_int_str, isi_int_tup, isi_int_l, isi_int_f, isi_str_non, isi_str_bl, isi_str_int, isi_str_str, isi_str_tup, isi_str_l, isi_str_f, isi_dict_non, isi_dict_bl, isi_dict_int, isi_dict_str, isi_dict_tup, isi_dict_l, isi_dict_f, Ab.isNon, args, List.map, List.length_cons, List.length_nil, List.length_singleton, List.replicate, Nat.reduceSub, Nat.reduceAdd, Nat.zero_add, List.cons_append, List.nil_append, List.getElem?_cons_zero, List.getElem?_cons_succ, List.set_cons_zero, List.set_cons_succ, Option.some.injEq, decide_eq_true_eq, Bool.not_eq_true', decide_eq_false_iff_not, ite_true, ite_false, if_true, if_false, reduceIte, Bool.false_eq_true, Bool.not_true, Bool.not_false, Bool.true_eq_false, decide_true, decide_false, Nat.reduceLeDiff, Nat.reduceLT]
    refine sat_seq ?_
    have lB := at_lt hB
    have hQ := at_new (A := B) (o := .lst [])
    have hB1 := (Gr.app (B := [AO.lst []])).keep _ _ hB
    have G1 := G.trans (Gr.app (B := [AO.lst []]))
    have lA := G.le
    generalize B ++ [AO.lst []] = B1 at *
    generalize B.length = q at *
    simp only [sat_ok, sat_bad, sat_bind, sat_ite, bind_ok, bind_bad, thn_nx, thn_rt, thn_bk, thn_ct, fin_rt, fin_nx, ev_v, ev_c, ev_op, ev_un, ev_nil, ev_cons, ev_tup, ev_lst, ev_call, ev_own, ev_sl, ev_no, ev_part, ev_and, ev_or, ev_not, ev_if, ev_t, ev_tb, ev_tnot, ev_tand, ev_tor, ev_mt, ev_mt0, ev_rgd, ev_set, ev_asg, ev_ret, ev_retN, ev_ex, ev_pass, ev_brk, ev_cont, ev_ifS, ev_aug, ev_gn, ev_gtp, ev_gnl, ev_gcs, ev_gsb, ev_for, ev_rg1, ev_rg2, ev_its, ev_enum, ev_lc, ev_yes, ev_add_ii, ev_add_ss, ev_add_tt, ev_add_rr, ev_sub, ev_mul, ev_mod, ev_fdiv, ev_pow, ev_neg, ev_lt, ev_le, ev_gt, ev_ge, ev_eq_ii, ev_eq_ss, ev_eq_bb, ev_ne_ii, ev_ne_ss, ev_ne_bb, ev_is_n, ev_isnt_n, ev_int_i, ev_int_b, ev_min_ii, ev_max_ii, ev_abs, ev_tup_of, ev_tup_ofL, ev_lst_ofT, ev_lst_ofL, ev_len_t, ev_len_s, ev_len_r, ev_tru_b, ev_alloc, ev_tupD, ev_lstD, isi_tuple_non, isi_tuple_bl, isi_tuple_int, isi_tuple_str, isi_tuple_tup, isi_tuple_l, isi_tuple_f, isi_list_non, isi_list_bl, isi_list_int, isi_list_str, isi_list_tup, isi_list_l, isi_list_f, isi_bool_non, isi_bool_bl, isi_bool_int, isi_bool_str, isi_bool_tup, isi_bool_l, isi_bool_f, isi_int_non, isi_int_bl, isi_int_int, isi_int_str, isi_int_tup, isi_int_l, isi_int_f, isi_str_non, isi_str_bl, isi_str_int, isi_str_str, isi_str_tup, isi_str_l, isi_str_f, isi_dict_non, isi_dict_bl, isi_dict_int, isi_dict_str, isi_dict_tup, isi_dict_l, isi_dict_f, Ab.isNon, args, List.map, List.length_cons, List.length_nil, List.length_singleton, List.replicate, Nat.reduceSub, Nat.reduceAdd, Nat.zero_add, List.cons_append, List.nil_append, List.getElem?_cons_zero, List.getElem?_cons_succ, List.set_cons_zero, List.set_cons_succ, Option.some.injEq, decide_eq_true_eq, Bool.not_eq_true', decide_eq_false_iff_not, ite_true, ite_false, if_true, if_false, reduceIte, Bool.false_eq_true, Bool.not_true, Bool.not_false, Bool.true_eq_false, decide_true, decide_false, Nat.reduceLeDiff, Nat.reduceLT, ev_enumA, er]
    refine for_cnt (fun j σ C => Gr A C ∧ (∃ u v, σ = [some (.tup ds), some (.tup (pr.map prD)), some (.tup (us.map D.int)), some F, some (.ref A.length), some (.int (k : Nat)), some (rowD (n + 1) (M k)), some (.ref q), u, v]) ∧ C[A.length]? = some (.lst ((List.range k).map fun i => rowD (n + 1) (tbl us (fst0 pr) (snd0 pr) M i))) ∧ C[q]? = some (.lst ((List.range j).map fun j => .int (tbl us (fst0 pr) (snd0 pr) M k j))))
      (fun j σ C hj ⟨G, ⟨u, v, hσ⟩, hB, hQ⟩ => ⟨trivial, ?_⟩) (fun σ C ⟨G, ⟨u, v, hσ⟩, hB, hQ⟩ => ⟨trivial, ?_⟩) ⟨G1, ⟨_, _, rfl⟩, hB1, hQ⟩
    · subst hσ
      have fin : ∀ (t : Int), t = tbl us (fst0 pr) (snd0 pr) M k j → Sat (appendD (.ref q) [.int t] C) fun d C2 => Gr A C2 ∧ C2[A.length]? = some (.lst ((List.range k).map fun i => rowD (n + 1) (tbl us (fst0 pr) (snd0 pr) M i))) ∧ C2[q]? = some (.lst ((List.range (j + 1)).map fun j => .int (tbl us (fst0 pr) (snd0 pr) M k j))) := fun t e => by
        rw [ev_app hQ (by simp; omega)]
        refine ⟨G.set lA, by rw [List.getElem?_set_ne (by omega)]; exact hB, ?_⟩
        rw [at_set (at_lt hQ), List.range_succ (n := j), List.map_append, e]; rfl
      simp only [sat_ok, sat_bad, sat_bind, sat_ite, bind_ok, bind_bad, thn_nx, thn_rt, thn_bk, thn_ct, fin_rt, fin_nx, ev_v, ev_c, ev_op, ev_un, ev_nil, ev_cons, ev_tup, ev_lst, ev_call, ev_own, ev_sl, ev_no, ev_part, ev_and, ev_or, ev_not, ev_if, ev_t, ev_tb, ev_tnot, ev_tand, ev_tor, ev_mt, ev_mt0, ev_rgd, ev_set, ev_asg, ev_ret, ev_retN, ev_ex, ev_pass, ev_brk, ev_cont, ev_ifS, ev_aug, ev_gn, ev_gtp, ev_gnl, ev_gcs, ev_gsb, ev_for, ev_rg1, ev_rg2, ev_its, ev_enum, ev_lc, ev_yes, ev_add_ii, ev_add_ss, ev_add_tt, ev_add_rr, ev_sub, ev_mul, ev_mod, ev_fdiv, ev_pow, ev_neg, ev_lt, ev_le, ev_gt, ev_ge, ev_eq_ii, ev_eq_ss, ev_eq_bb, ev_ne_ii, ev_ne_ss, ev_ne_bb, ev_is_n, ev_isnt_n, ev_int_i, ev_int_b, ev_min_ii, ev_max_ii, ev_abs, ev_tup_of, ev_tup_ofL, ev_lst_ofT, ev_lst_ofL, ev_len_t, ev_len_s, ev_len_r, ev_tru_b, ev_alloc, ev_tupD, ev_lstD, isi_tuple_non, isi_tuple_bl, isi_tuple_int, isi_tuple_str, isi_tuple_tup, isi_tuple_l, isi_tuple_f, isi_list_non, isi_list_bl, isi_list_int, isi_list_str, isi_list_tup, isi_list_l, isi_list_f, isi_bool_non, isi_bool_bl, isi_bool_int, isi_bool_str, isi_bool_tup, isi_bool_l, isi_bool_f, isi_int_non, isi_int_bl, isi_int_int, isi_int_str, isi_int_tup, isi_int_l, isi_int_f, isi_str_non, isi_str_bl, isi_str_int, isi_str_str, isi_str_tup, isi_str_l, isi_str_f, isi_dict_non, isi_dict_bl, isi_dict_int, isi_dict_str, isi_dict_tup, isi_dict_l, isi_dict_f, Ab.isNon, args, List.map, List.length_cons, List.length_nil, List.length_singleton, List.replicate, Nat.reduceSub, Nat.reduceAdd, Nat.zero_add, List.cons_append, List.nil_append, List.getElem?_cons_zero, List.getElem?_cons_succ, List.set_cons_zero, List.set_cons_succ, Option.some.injEq, decide_eq_true_eq, Bool.not_eq_true', decide_eq_false_iff_not, ite_true, ite_false, if_true, if_false, reduceIte, Bool.false_eq_true, Bool.not_true, Bool.not_false, Bool.true_eq_false, decide_true, decide_false, Nat.reduceLeDiff, Nat.reduceLT]
      split
      · rename_i e
        have e : k = j := by omega
        simp only [sat_ok, sat_bad, sat_bind, sat_ite, bind_ok, bind_bad, thn_nx, thn_rt, thn_bk, thn_ct, fin_rt, fin_nx, ev_v, ev_c, ev_op, ev_un, ev_nil, ev_cons, ev_tup, ev_lst, ev_call, ev_own, ev_sl, ev_no, ev_part, ev_and, ev_or, ev_not, ev_if, ev_t, ev_tb, ev_tnot, ev_tand, ev_tor, ev_mt, ev_mt0, ev_rgd, ev_set, ev_asg, ev_ret, ev_retN, ev_ex, ev_pass, ev_brk, ev_cont, ev_ifS, ev_aug, ev_gn, ev_gtp, ev_gnl, ev_gcs, ev_gsb, ev_for, ev_rg1, ev_rg2, ev_its, ev_enum, ev_lc, ev_yes, ev_add_ii, ev_add_ss, ev_add_tt, ev_add_rr, ev_sub, ev_mul, ev_mod, ev_fdiv, ev_pow, ev_neg, ev_lt, ev_le, ev_gt, ev_ge, ev_eq_ii, ev_eq_ss, ev_eq_bb, ev_ne_ii, ev_ne_ss, ev_ne_bb, ev_is_n, ev_isnt_n, ev_int_i, ev_int_b, ev_min_ii, ev_max_ii, ev_abs, ev_tup_of, ev_tup_ofL, ev_lst_ofT, ev_lst_ofL, ev_len_t, ev_len_s, ev_len_r, ev_tru_b, ev_alloc, ev_tupD, ev_lstD, isi_tuple_non, isi_tuple_bl, isi_tuple_int, isi_tuple_str, isi_tuple_tup, isi_tuple_l, isi_tuple_f, isi_list_non, isi_list_bl, isi_list_int, isi_list_str, isi_list_tup, isi_list_l, isi_list_f, isi_bool_non, isi_bool_bl, isi_bool_int, isi_bool_str, isi_bool_tup, isi_bool_l, isi_bool_f, isi_int_non, isi_int_bl, isi_int_int, isi_int_str, isi_int_tup, isi_int_l, isi_int_f, isi_str_non, isi_str_bl, isi_str_int, isi_str_str, isi_str_tup, isi_str_l, isi_str_f, isi_dict_non, isi_dict_bl, isi_dict_int, isi_dict_str, isi_dict_tup, isi_dict_l, isi_dict_f, Ab.isNon, args, List.map, List.length_cons, List.length_nil, List.length_singleton, List.replicate, Nat.reduceSub, Nat.reduceAdd, Nat.zero_add, List.cons_append, List.nil_append, List.getElem?_cons_zero, List.getElem?_cons_succ, List.set_cons_zero, List.set_cons_succ, Option.some.injEq, decide_eq_true_eq, Bool.not_eq_true', decide_eq_false_iff_not, ite_true, ite_false, if_true, if_false, reduceIte, Bool.false_eq_true, Bool.not_true, Bool.not_false, Bool.true_eq_false, decide_true, decide_false, Nat.reduceLeDiff, Nat.reduceLT, ty_l hQ]
        refine Sat.imp (fin _ (by unfold tbl; rw [if_pos e])) fun d C2 ⟨h1, h2, h3⟩ => ?_
        simp only [sat_ok, sat_bad, sat_bind, sat_ite, bind_ok, bind_bad, thn_nx, thn_rt, thn_bk, thn_ct, fin_rt, fin_nx, ev_v, ev_c, ev_op, ev_un, ev_nil, ev_cons, ev_tup, ev_lst, ev_call, ev_own, ev_sl, ev_no, ev_part, ev_and, ev_or, ev_not, ev_if, ev_t, ev_tb, ev_tnot, ev_tand, ev_tor, ev_mt, ev_mt0, ev_rgd, ev_set, ev_asg, ev_ret, ev_retN, ev_ex, ev_pass, ev_brk, ev_cont, ev_ifS, ev_aug, ev_gn, ev_gtp, ev_gnl, ev_gcs, ev_gsb, ev_for, ev_rg1, ev_rg2, ev_its, ev_enum, ev_lc, ev_yes, ev_add_ii, ev_add_ss, ev_add_tt, ev_add_rr, ev_sub, ev_mul, ev_mod, ev_fdiv, ev_pow, ev_neg, ev_lt, ev_le, ev_gt, ev_ge, ev_eq_ii, ev_eq_ss, ev_eq_bb, ev_ne_ii, ev_ne_ss, ev_ne_bb, ev_is_n, ev_isnt_n, ev_int_i, ev_int_b, ev_min_ii, ev_max_ii, ev_abs, ev_tup_of, ev_tup_ofL, ev_lst_ofT, ev_lst_ofL, ev_len_t, ev_len_s, ev_len_r, ev_tru_b, ev_alloc, ev_tupD, ev_lstD, isi_tuple_non, isi_tuple_bl, isi_tuple_int, isi_tuple_str, isi_tuple_tup, isi_tuple_l, isi_tuple_f, isi_list_non, isi_list_bl, isi_list_int, isi_list_str, isi_list_tup, isi_list_l, isi_list_f, isi_bool_non, isi_bool_bl, isi_bool_int, isi_bool_str, isi_bool_tup, isi_bool_l, isi_bool_f, isi_int_non, isi_int_bl, isi_int_int, isi_int_str, isi_int_tup, isi_int_l, isi_int_f, isi_str_non, isi_str_bl, isi_str_int, isi_str_str, isi_str_tup, isi_str_l, isi_str_f, isi_dict_non, isi_dict_bl, isi_dict_int, isi_dict_str, isi_dict_tup, isi_dict_l, isi_dict_f, Ab.isNon, args, List.map, List.length_cons, List.length_nil, List.length_singleton, List.replicate, Nat.reduceSub, Nat.reduceAdd, Nat.zero_add, List.cons_append, List.nil_append, List.getElem?_cons_zero, List.getElem?_cons_succ, List.set_cons_zero, List.set_cons_succ, Option.some.injEq, decide_eq_true_eq, Bool.not_eq_true', decide_eq_false_iff_not, ite_true, ite_false, if_true, if_false, reduceIte, Bool.false_eq_true, Bool.not_true, Bool.not_false, Bool.true_eq_false, decide_true, decide_false, Nat.reduceLeDiff, Nat.reduceLT, turn_]
        exact ⟨h1, ⟨_, _, rfl⟩, h2, h3⟩
      · rename_i e
        have e : ¬ k = j := by omega
        simp only [sat_ok, sat_bad, sat_bind, sat_ite, bind_ok, bind_bad, thn_nx, thn_rt, thn_bk, thn_ct, fin_rt, fin_nx, ev_v, ev_c, ev_op, ev_un, ev_nil, ev_cons, ev_tup, ev_lst, ev_call, ev_own, ev_sl, ev_no, ev_part, ev_and, ev_or, ev_not, ev_if, ev_t, ev_tb, ev_tnot, ev_tand, ev_tor, ev_mt, ev_mt0, ev_rgd, ev_set, ev_asg, ev_ret, ev_retN, ev_ex, ev_pass, ev_brk, ev_cont, ev_ifS, ev_aug, ev_gn, ev_gtp, ev_gnl, ev_gcs, ev_gsb, ev_for, ev_rg1, ev_rg2, ev_its, ev_enum, ev_lc, ev_yes, ev_add_ii, ev_add_ss, ev_add_tt, ev_add_rr, ev_sub, ev_mul, ev_mod, ev_fdiv, ev_pow, ev_neg, ev_lt, ev_le, ev_gt, ev_ge, ev_eq_ii, ev_eq_ss, ev_eq_bb, ev_ne_ii, ev_ne_ss, ev_ne_bb, ev_is_n, ev_isnt_n, ev_int_i, ev_int_b, ev_min_ii, ev_max_ii, ev_abs, ev_tup_of, ev_tup_ofL, ev_lst_ofT, ev_lst_ofL, ev_len_t, ev_len_s, ev_len_r, ev_tru_b, ev_alloc, ev_tupD, ev_lstD, isi_tuple_non, isi_tuple_bl, isi_tuple_int, isi_tuple_str, isi_tuple_tup, isi_tuple_l, isi_tuple_f, isi_list_non, isi_list_bl, isi_list_int, isi_list_str, isi_list_tup, isi_list_l, isi_list_f, isi_bool_non, isi_bool_bl, isi_bool_int, isi_bool_str, isi_bool_tup, isi_bool_l, isi_bool_f, isi_int_non, isi_int_bl, isi_int_int, isi_int_str, isi_int_tup, isi_int_l, isi_int_f, isi_str_non, isi_str_bl, isi_str_int, isi_str_str, isi_str_tup, isi_str_l, isi_str_f, isi_dict_non, isi_dict_bl, isi_dict_int, isi_dict_str, isi_dict_tup, isi_dict_l, isi_dict_f, Ab.isNon, args, List.map, List.length_cons, List.length_nil, List.length_singleton, List.replicate, Nat.reduceSub, Nat.reduceAdd, Nat.zero_add, List.cons_append, List.nil_append, List.getElem?_cons_zero, List.getElem?_cons_succ, List.set_cons_zero, List.set_cons_succ, Option.some.injEq, decide_eq_true_eq, Bool.not_eq_true', decide_eq_false_iff_not, ite_true, ite_false, if_true, if_false, reduceIte, Bool.false_eq_true, Bool.not_true, Bool.not_false, Bool.true_eq_false, decide_true, decide_false, Nat.reduceLeDiff, Nat.reduceLT, ty_l hQ, ix _ hk, ix _ hj, ix0, ix1, round_up_spec hu few]
        refine Sat.imp (fin _ (by unfold tbl; rw [if_neg e])) fun d C2 ⟨h1, h2, h3⟩ => ?_
        simp only [sat_ok, sat_bad, sat_bind, sat_ite, bind_ok, bind_bad, thn_nx, thn_rt, thn_bk, thn_ct, fin_rt, fin_nx, ev_v, ev_c, ev_op, ev_un, ev_nil, ev_cons, ev_tup, ev_lst, ev_call, ev_own, ev_sl, ev_no, ev_part, ev_and, ev_or, ev_not, ev_if, ev_t, ev_tb, ev_tnot, ev_tand, ev_tor, ev_mt, ev_mt0, ev_rgd, ev_set, ev_asg, ev_ret, ev_retN, ev_ex, ev_pass, ev_brk, ev_cont, ev_ifS, ev_aug, ev_gn, ev_gtp, ev_gnl, ev_gcs, ev_gsb, ev_for, ev_rg1, ev_rg2, ev_its, ev_enum, ev_lc, ev_yes, ev_add_ii, ev_add_ss, ev_add_tt, ev_add_rr, ev_sub, ev_mul, ev_mod, ev_fdiv, ev_pow, ev_neg, ev_lt, ev_le, ev_gt, ev_ge, ev_eq_ii, ev_eq_ss, ev_eq_bb, ev_ne_ii, ev_ne_ss, ev_ne_bb, ev_is_n, ev_isnt_n, ev_int_i, ev_int_b, ev_min_ii, ev_max_ii, ev_abs, ev_tup_of, ev_tup_ofL, ev_lst_ofT, ev_lst_ofL, ev_len_t, ev_len_s, ev_len_r, ev_tru_b, ev_alloc, ev_tupD, ev_lstD, isi_tuple_non, isi_tuple_bl, isi_tuple_int, isi_tuple_str, isi_tuple_tup, isi_tuple_l, isi_tuple_f, isi_list_non, isi_list_bl, isi_list_int, isi_list_str, isi_list_tup, isi_list_l, isi_list_f, isi_bool_non, isi_bool_bl, isi_bool_int, isi_bool_str, isi_bool_tup, isi_bool_l, isi_bool_f, isi_int_non, isi_int_bl, isi_int_int, isi_int_str, isi_int_tup, isi_int_l, isi_int_f, isi_str_non, isi_str_bl, isi_str_int, isi_str_str, isi_str_tup, isi_str_l, isi_str_f, isi_dict_non, isi_dict_bl, isi_dict_int, isi_dict_str, isi_dict_tup, isi_dict_l, isi_dict_f, Ab.isNon, args, List.map, List.length_cons, List.length_nil, List.length_singleton, List.replicate, Nat.reduceSub, Nat.reduceAdd, Nat.zero_add, List.cons_append, List.nil_append, List.getElem?_cons_zero, List.getElem?_cons_succ, List.set_cons_zero, List.set_cons_succ, Option.some.injEq, decide_eq_true_eq, Bool.not_eq_true', decide_eq_false_iff_not, ite_true, ite_false, if_true, if_false, reduceIte, Bool.false_eq_true, Bool.not_true, Bool.not_false, Bool.true_eq_false, decide_true, decide_false, Nat.reduceLeDiff, Nat.reduceLT, turn_]
        exact ⟨h1, ⟨_, _, rfl⟩, h2, h3⟩
    · subst hσ
      simp only [sat_ok, sat_bad, sat_bind, sat_ite, bind_ok, bind_bad, thn_nx, thn_rt, thn_bk, thn_ct, fin_rt, fin_nx, ev_v, ev_c, ev_op, ev_un, ev_nil, ev_cons, ev_tup, ev_lst, ev_call, ev_own, ev_sl, ev_no, ev_part, ev_and, ev_or, ev_not, ev_if, ev_t, ev_tb, ev_tnot, ev_tand, ev_tor, ev_mt, ev_mt0, ev_rgd, ev_set, ev_asg, ev_ret, ev_retN, ev_ex, ev_pass, ev_brk, ev_cont, ev_ifS, ev_aug, ev_gn, ev_gtp, ev_gnl, ev_gcs, ev_gsb, ev_for, ev_rg1, ev_rg2, ev_its, ev_enum, ev_lc, ev_yes, ev_add_ii, ev_add_ss, ev_add_tt, ev_add_rr, ev_sub, ev_mul, ev_mod, ev_fdiv, ev_pow, ev_neg, ev_lt, ev_le, ev_gt, ev_ge, ev_eq_ii, ev_eq_ss, ev_eq_bb, ev_ne_ii, ev_ne_ss, ev_ne_bb, ev_is_n, ev_isnt_n, ev_int_i, ev_int_b, ev_min_ii, ev_max_ii, ev_abs, ev_tup_of, ev_tup_ofL, ev_lst_ofT, ev_lst_ofL, ev_len_t, ev_len_s, ev_len_r, ev_tru_b, ev_alloc, ev_tupD, ev_lstD, isi_tuple_non, isi_tuple_bl, isi_tuple_int, isi_tuple_str, isi_tuple_tup, isi_tuple_l, isi_tuple_f, isi_list_non, isi_list_bl, isi_list_int, isi_list_str, isi_list_tup, isi_list_l, isi_list_f, isi_bool_non, isi_bool_bl, isi_bool_int, isi_bool_str, isi_bool_tup, isi_bool_l, isi_bool_f, isi_int_non, isi_int_bl, isi_int_int, isi_int_str, isi_int_tup, isi_int_l, isi_int_f, isi_str_non, isi_str_bl, isi_str_int, isi_str_str, isi_str_tup, isi_str_l, isi_str_f, isi_dict_non, isi_dict_bl, isi_dict_int, isi_dict_str, isi_dict_tup, isi_dict_l, isi_dict_f, Ab.isNon, args, List.map, List.length_cons, List.length_nil, List.length_singleton, List.replicate, Nat.reduceSub, Nat.reduceAdd, Nat.zero_add, List.cons_append, List.nil_append, List.getElem?_cons_zero, List.getElem?_cons_succ, List.set_cons_zero, List.set_cons_succ, Option.some.injEq, decide_eq_true_eq, Bool.not_eq_true', decide_eq_false_iff_not, ite_true, ite_false, if_true, if_false, reduceIte, Bool.false_eq_true, Bool.not_true, Bool.not_false, Bool.true_eq_false, decide_true, decide_false, Nat.reduceLeDiff, Nat.reduceLT, ty_l hB, ev_tup_ofL (rdL_l hQ)]
      rw [ev_app hB (by simp; omega)]
      simp only [sat_ok, sat_bad, sat_bind, sat_ite, bind_ok, bind_bad, thn_nx, thn_rt, thn_bk, thn_ct, fin_rt, fin_nx, ev_v, ev_c, ev_op, ev_un, ev_nil, ev_cons, ev_tup, ev_lst, ev_call, ev_own, ev_sl, ev_no, ev_part, ev_and, ev_or, ev_not, ev_if, ev_t, ev_tb, ev_tnot, ev_tand, ev_tor, ev_mt, ev_mt0, ev_rgd, ev_set, ev_asg, ev_ret, ev_retN, ev_ex, ev_pass, ev_brk, ev_cont, ev_ifS, ev_aug, ev_gn, ev_gtp, ev_gnl, ev_gcs, ev_gsb, ev_for, ev_rg1, ev_rg2, ev_its, ev_enum, ev_lc, ev_yes, ev_add_ii, ev_add_ss, ev_add_tt, ev_add_rr, ev_sub, ev_mul, ev_mod, ev_fdiv, ev_pow, ev_neg, ev_lt, ev_le, ev_gt, ev_ge, ev_eq_ii, ev_eq_ss, ev_eq_bb, ev_ne_ii, ev_ne_ss, ev_ne_bb, ev_is_n, ev_isnt_n, ev_int_i, ev_int_b, ev_min_ii, ev_max_ii, ev_abs, ev_tup_of, ev_tup_ofL, ev_lst_ofT, ev_lst_ofL, ev_len_t, ev_len_s, ev_len_r, ev_tru_b, ev_alloc, ev_tupD, ev_lstD, isi_tuple_non, isi_tuple_bl, isi_tuple_int, isi_tuple_str, isi_tuple_tup, isi_tuple_l, isi_tuple_f, isi_list_non, isi_list_bl, isi_list_int, isi_list_str, isi_list_tup, isi_list_l, isi_list_f, isi_bool_non, isi_bool_bl, isi_bool_int, isi_bool_str, isi_bool_tup, isi_bool_l, isi_bool_f, isi_int_non, isi_int_bl, isi_int_int, isi_int_str, isi_int_tup, isi_int_l, isi_int_f, isi_str_non, isi_str_bl, isi_str_int, isi_str_str, isi_str_tup, isi_str_l, isi_str_f, isi_dict_non, isi_dict_bl, isi_dict_int, isi_dict_str, isi_dict_tup, isi_dict_l, isi_dict_f, Ab.isNon, args, List.map, List.length_cons, List.length_nil, List.length_singleton, List.replicate, Nat.reduceSub, Nat.reduceAdd, Nat.zero_add, List.cons_append, List.nil_append, List.getElem?_cons_zero, List.getElem?_cons_succ, List.set_cons_zero, List.set_cons_succ, Option.some.injEq, decide_eq_true_eq, Bool.not_eq_true', decide_eq_false_iff_not, ite_true, ite_false, if_true, if_false, reduceIte, Bool.false_eq_true, Bool.not_true, Bool.not_false, Bool.true_eq_false, decide_true, decide_false, Nat.reduceLeDiff, Nat.reduceLT, turn_]
      refine ⟨G.set (Nat.le_refl _), ⟨_, _, _, _, _, rfl⟩, ?_⟩
      rw [at_set (at_lt hB), List.range_succ (n := k), List.map_append]; rfl
  · subst hσ
    simp only [sat_ok, sat_bad, sat_bind, sat_ite, bind_ok, bind_bad, thn_nx, thn_rt, thn_bk, thn_ct, fin_rt, fin_nx, ev_v, ev_c, ev_op, ev_un, ev_nil, ev_cons, ev_tup, ev_lst, ev_call, ev_own, ev_sl, ev_no, ev_part, ev_and, ev_or, ev_not, ev_if, ev_t, ev_tb, ev_tnot, ev_tand, ev_tor, ev_mt, ev_mt0, ev_rgd, ev_set, ev_asg, ev_ret, ev_retN, ev_ex, ev_pass, ev_brk, ev_cont, ev_ifS, ev_aug, ev_gn, ev_gtp, ev_gnl, ev_gcs, ev_gsb, ev_for, ev_rg1, ev_rg2, ev_its, ev_enum, ev_lc, ev_yes, ev_add_ii, ev_add_ss, ev_add_tt, ev_add_rr, ev_sub, ev_mul, ev_mod, ev_fdiv, ev_pow, ev_neg, ev_lt, ev_le, ev_gt, ev_ge, ev_eq_ii, ev_eq_ss, ev_eq_bb, ev_ne_ii, ev_ne_ss, ev_ne_bb, ev_is_n, ev_isnt_n, ev_int_i, ev_int_b, ev_min_ii, ev_max_ii, ev_abs, ev_tup_of, ev_tup_ofL, ev_lst_ofT, ev_lst_ofL, ev_len_t, ev_len_s, ev_len_r, ev_tru_b, ev_alloc, ev_tupD, ev_lstD, isi_tuple_non, isi_tuple_bl, isi_tuple_int, isi_tuple_str, isi_tuple_tup, isi_tuple_l, isi_tuple_f, isi_list_non, isi_list_bl, isi_list_int, isi_list_str, isi_list_tup, isi_list_l, isi_list_f, isi_bool_non, isi_bool_bl, isi_bool_int, isi_bool_str, isi_bool_tup, isi_bool_l, isi_bool_f, isi_int_non, isi_int_bl, isi_int_int, isi_int_str, isi_int_tup, isi_int_l, isi_int_f, isi_str_non, isi_str_bl, isi_str_int, isi_str_str, isi_str_tup, isi_str_l, isi_str_f, isi_dict_non, isi_dict_bl, isi_dict_int, isi_dict_str, isi_dict_tup, isi_dict_l, isi_dict_f, Ab.isNon, args, List.map, List.length_cons, List.length_nil, List.length_singleton, List.replicate, Nat.reduceSub, Nat.reduceAdd, Nat.zero_add, List.cons_append, List.nil_append, List.getElem?_cons_zero, List.getElem?_cons_succ, List.set_cons_zero, List.set_cons_succ, Option.some.injEq, decide_eq_true_eq, Bool.not_eq_true', decide_eq_false_iff_not, ite_true, ite_false, if_true, if_false, reduceIte, Bool.false_eq_true, Bool.not_true, Bool.not_false, Bool.true_eq_false, decide_true, decide_false, Nat.reduceLeDiff, Nat.reduceLT, ev_tup_ofL (rdL_l hB)]
    refine Sat.imp (close_spec (m := n + 1) (M := tbl us (fst0 pr) (snd0 pr) M) (by omega) (by omega)) fun d C ⟨G2, o, e, ho⟩ => ?_
    exact ⟨G.trans G2, o, e, ho⟩
/-! ### the law's own -/
theorem below_spec {A : AH} {m : Nat} {sm gr : D} {f g : Mx} (hm : m ≤ 100) (ln : lenD [gr] A = .ok (.int (m : Nat)) A)
    (h1 : ∀ i, i < m → ∃ x, ixD sm (.int (i : Nat)) A = .ok x A ∧ ∀ j, j < m → ixD x (.int (j : Nat)) A = .ok (.int (f i j)) A)
    (h2 : ∀ i, i < m → ∃ x, ixD gr (.int (i : Nat)) A = .ok x A ∧ ∀ j, j < m → ixD x (.int (j : Nat)) A = .ok (.int (g i j)) A)
    (le : ∀ i j, i < m → j < m → f i j ≤ g i j) : m__law_below [sm, gr] A = .ok (.bl true) A := by
  have key : Sat (m__law_below [sm, gr] A) fun d A' => d = .bl true ∧ A' = A := by
    refine sat_body rfl (sat_seq ?_)
    simp only [sat_ok, sat_bad, sat_bind, sat_ite, bind_ok, bind_bad, thn_nx, thn_rt, thn_bk, thn_ct, fin_rt, fin_nx, ev_v, ev_c, ev_op, ev_un, ev_nil, ev_cons, ev_tup, ev_lst, ev_call, ev_own, ev_sl, ev_no, ev_part, ev_and, ev_or, ev_not, ev_if, ev_t, ev_tb, ev_tnot, ev_tand, ev_tor, ev_mt, ev_mt0, ev_rgd, ev_set, ev_asg, ev_ret, ev_retN, ev_ex, ev_pass, ev_brk, ev_cont, ev_ifS, ev_aug, ev_gn, ev_gtp, ev_gnl, ev_gcs, ev_gsb, ev_for, ev_rg1, ev_rg2, ev_its, ev_enum, ev_lc, ev_yes, ev_add_ii, ev_add_ss, ev_add_tt, ev_add_rr, ev_sub, ev_mul, ev_mod, ev_fdiv, ev_pow, ev_neg, ev_lt, ev_le, ev_gt, ev_ge, ev_eq_ii, ev_eq_ss, ev_eq_bb, ev_ne_ii, ev_ne_ss, ev_ne_bb, ev_is_n, ev_isnt_n, ev_int_i, ev_int_b, ev_min_ii, ev_max_ii, ev_abs, ev_tup_of, ev_tup_ofL, ev_lst_ofT, ev_lst_ofL, ev_len_t, ev_len_s, ev_len_r, ev_tru_b, ev_alloc, ev_tupD, ev_lstD, isi_tuple_non, isi_tuple_bl, isi_tuple_int, isi_tuple_str, isi_tuple_tup, isi_tuple_l, isi_tuple_f, isi_list_non, isi_list_bl, isi_list_int, isi_list_str, isi_list_tup, isi_list_l, isi_list_f, isi_bool_non, isi_bool_bl, isi_bool_int, isi_bool_str, isi_bool_tup, isi_bool_l, isi_bool_f, isi_int_non, isi_int_bl, isi_int_int, isi_int_str, isi_int_tup, isi_int_l, isi_int_f, isi_str_non, isi_str_bl, isi_str_int, isi_str_str, isi_str_tup, isi_str_l, isi_str_f, isi_dict_non, isi_dict_bl, isi_dict_int, isi_dict_str, isi_dict_tup, isi_dict_l, isi_dict_f, Ab.isNon, args, List.map, List.length_cons, List.length_nil, List.length_singleton, List.replicate, Nat.reduceSub, Nat.reduceAdd, Nat.zero_add, List.cons_append, List.nil_append, List.getElem?_cons_zero, List.getElem?_cons_succ, List.set_cons_zero, List.set_cons_succ, Option.some.injEq, decide_eq_true_eq, Bool.not_eq_true', decide_eq_false_iff_not, ite_true, ite_false, if_true, if_false, reduceIte, Bool.false_eq_true, Bool.not_true, Bool.not_false, Bool.true_eq_false, decide_true, decide_false, Nat.reduceLeDiff, Nat.reduceLT, ln]
    rw [if_pos (inRg_of (by omega) (by omega)), Int.toNat_natCast]
    refine range_inv (fun i σ B => B = A ∧ ∃ x y, σ = [some sm, some gr, x, y]) (fun i σ B hi ⟨hB, x, y, hσ⟩ => ?_) (fun σ B ⟨hB, x, y, hσ⟩ => ?_) ⟨rfl, none, none, rfl⟩
    · subst hB; subst hσ
      simp only [sat_ok, sat_bad, sat_bind, sat_ite, bind_ok, bind_bad, thn_nx, thn_rt, thn_bk, thn_ct, fin_rt, fin_nx, ev_v, ev_c, ev_op, ev_un, ev_nil, ev_cons, ev_tup, ev_lst, ev_call, ev_own, ev_sl, ev_no, ev_part, ev_and, ev_or, ev_not, ev_if, ev_t, ev_tb, ev_tnot, ev_tand, ev_tor, ev_mt, ev_mt0, ev_rgd, ev_set, ev_asg, ev_ret, ev_retN, ev_ex, ev_pass, ev_brk, ev_cont, ev_ifS, ev_aug, ev_gn, ev_gtp, ev_gnl, ev_gcs, ev_gsb, ev_for, ev_rg1, ev_rg2, ev_its, ev_enum, ev_lc, ev_yes, ev_add_ii, ev_add_ss, ev_add_tt, ev_add_rr, ev_sub, ev_mul, ev_mod, ev_fdiv, ev_pow, ev_neg, ev_lt, ev_le, ev_gt, ev_ge, ev_eq_ii, ev_eq_ss, ev_eq_bb, ev_ne_ii, ev_ne_ss, ev_ne_bb, ev_is_n, ev_isnt_n, ev_int_i, ev_int_b, ev_min_ii, ev_max_ii, ev_abs, ev_tup_of, ev_tup_ofL, ev_lst_ofT, ev_lst_ofL, ev_len_t, ev_len_s, ev_len_r, ev_tru_b, ev_alloc, ev_tupD, ev_lstD, isi_tuple_non, isi_tuple_bl, isi_tuple_int, isi_tuple_str, isi_tuple_tup, isi_tuple_l, isi_tuple_f, isi_list_non, isi_list_bl, isi_list_int, isi_list_str, isi_list_tup, isi_list_l, isi_list_f, isi_bool_non, isi_bool_bl, isi_bool_int, isi_bool_str, isi_bool_tup, isi_bool_l, isi_bool_f, isi_int_non, isi_int_bl, isi_int_int, isi_int_str, isi_int_tup, isi_int_l, isi_int_f, isi_str_non, isi_str_bl, isi_str_int, isi_str_str, isi_str_tup, isi_str_l, isi_str_f, isi_dict_non, isi_dict_bl, isi_dict_int, isi_dict_str, isi_dict_tup, isi_dict_l, isi_dict_f, Ab.isNon, args, List.map, List.length_cons, List.length_nil, List.length_singleton, List.replicate, Nat.reduceSub, Nat.reduceAdd, Nat.zero_add, List.cons_append, List.nil_append, List.getElem?_cons_zero, List.getElem?_cons_succ, List.set_cons_zero, List.set_cons_succ, Option.some.injEq, decide_eq_true_eq, Bool.not_eq_true', decide_eq_false_iff_not, ite_true, ite_false, if_true, if_false, reduceIte, Bool.false_eq_true, Bool.not_true, Bool.not_false, Bool.true_eq_false, decide_true, decide_false, Nat.reduceLeDiff, Nat.reduceLT, ln]
      rw [if_pos (inRg_of (by omega) (by omega)), Int.toNat_natCast]
      refine range_inv (fun j σ C => C = B ∧ ∃ y, σ = [some sm, some gr, some (.int (0 + (i : Nat))), y]) (fun j σ C hj ⟨hC, y, hσ⟩ => ?_) (fun σ C ⟨hC, y, hσ⟩ => ?_) ⟨rfl, y, rfl⟩
      · subst hC; subst hσ
        obtain ⟨a, a1, a2⟩ := h1 i hi
        obtain ⟨b, b1, b2⟩ := h2 i hi
        simp only [sat_ok, sat_bad, sat_bind, sat_ite, bind_ok, bind_bad, thn_nx, thn_rt, thn_bk, thn_ct, fin_rt, fin_nx, ev_v, ev_c, ev_op, ev_un, ev_nil, ev_cons, ev_tup, ev_lst, ev_call, ev_own, ev_sl, ev_no, ev_part, ev_and, ev_or, ev_not, ev_if, ev_t, ev_tb, ev_tnot, ev_tand, ev_tor, ev_mt, ev_mt0, ev_rgd, ev_set, ev_asg, ev_ret, ev_retN, ev_ex, ev_pass, ev_brk, ev_cont, ev_ifS, ev_aug, ev_gn, ev_gtp, ev_gnl, ev_gcs, ev_gsb, ev_for, ev_rg1, ev_rg2, ev_its, ev_enum, ev_lc, ev_yes, ev_add_ii, ev_add_ss, ev_add_tt, ev_add_rr, ev_sub, ev_mul, ev_mod, ev_fdiv, ev_pow, ev_neg, ev_lt, ev_le, ev_gt, ev_ge, ev_eq_ii, ev_eq_ss, ev_eq_bb, ev_ne_ii, ev_ne_ss, ev_ne_bb, ev_is_n, ev_isnt_n, ev_int_i, ev_int_b, ev_min_ii, ev_max_ii, ev_abs, ev_tup_of, ev_tup_ofL, ev_lst_ofT, ev_lst_ofL, ev_len_t, ev_len_s, ev_len_r, ev_tru_b, ev_alloc, ev_tupD, ev_lstD, isi_tuple_non, isi_tuple_bl, isi_tuple_int, isi_tuple_str, isi_tuple_tup, isi_tuple_l, isi_tuple_f, isi_list_non, isi_list_bl, isi_list_int, isi_list_str, isi_list_tup, isi_list_l, isi_list_f, isi_bool_non, isi_bool_bl, isi_bool_int, isi_bool_str, isi_bool_tup, isi_bool_l, isi_bool_f, isi_int_non, isi_int_bl, isi_int_int, isi_int_str, isi_int_tup, isi_int_l, isi_int_f, isi_str_non, isi_str_bl, isi_str_int, isi_str_str, isi_str_tup, isi_str_l, isi_str_f, isi_dict_non, isi_dict_bl, isi_dict_int, isi_dict_str, isi_dict_tup, isi_dict_l, isi_dict_f, Ab.isNon, args, List.map, List.length_cons, List.length_nil, List.length_singleton, List.replicate, Nat.reduceSub, Nat.reduceAdd, Nat.zero_add, List.cons_append, List.nil_append, List.getElem?_cons_zero, List.getElem?_cons_succ, List.set_cons_zero, List.set_cons_succ, Option.some.injEq, decide_eq_true_eq, Bool.not_eq_true', decide_eq_false_iff_not, ite_true, ite_false, if_true, if_false, reduceIte, Bool.false_eq_true, Bool.not_true, Bool.not_false, Bool.true_eq_false, decide_true, decide_false, Nat.reduceLeDiff, Nat.reduceLT, Int.zero_add, a1, b1, a2 j hj, b2 j hj]
        rw [if_neg (by have := le i j hi hj; omega)]
        simp only [sat_ok, sat_bad, sat_bind, sat_ite, bind_ok, bind_bad, thn_nx, thn_rt, thn_bk, thn_ct, fin_rt, fin_nx, ev_v, ev_c, ev_op, ev_un, ev_nil, ev_cons, ev_tup, ev_lst, ev_call, ev_own, ev_sl, ev_no, ev_part, ev_and, ev_or, ev_not, ev_if, ev_t, ev_tb, ev_tnot, ev_tand, ev_tor, ev_mt, ev_mt0, ev_rgd, ev_set, ev_asg, ev_ret, ev_retN, ev_ex, ev_pass, ev_brk, ev_cont, ev_ifS, ev_aug, ev_gn, ev_gtp, ev_gnl, ev_gcs, ev_gsb, ev_for, ev_rg1, ev_rg2, ev_its, ev_enum, ev_lc, ev_yes, ev_add_ii, ev_add_ss, ev_add_tt, ev_add_rr, ev_sub, ev_mul, ev_mod, ev_fdiv, ev_pow, ev_neg, ev_lt, ev_le, ev_gt, ev_ge, ev_eq_ii, ev_eq_ss, ev_eq_bb, ev_ne_ii, ev_ne_ss, ev_ne_bb, ev_is_n, ev_isnt_n, ev_int_i, ev_int_b, ev_min_ii, ev_max_ii, ev_abs, ev_tup_of, ev_tup_ofL, ev_lst_ofT, ev_lst_ofL, ev_len_t, ev_len_s, ev_len_r, ev_tru_b, ev_alloc, ev_tupD, ev_lstD, isi_tuple_non, isi_tuple_bl, isi_tuple_int, isi_tuple_str, isi_tuple_tup, isi_tuple_l, isi_tuple_f, isi_list_non, isi_list_bl, isi_list_int, isi_list_str, isi_list_tup, isi_list_l, isi_list_f, isi_bool_non, isi_bool_bl, isi_bool_int, isi_bool_str, isi_bool_tup, isi_bool_l, isi_bool_f, isi_int_non, isi_int_bl, isi_int_int, isi_int_str, isi_int_tup, isi_int_l, isi_int_f, isi_str_non, isi_str_bl, isi_str_int, isi_str_str, isi_str_tup, isi_str_l, isi_str_f, isi_dict_non, isi_dict_bl, isi_dict_int, isi_dict_str, isi_dict_tup, isi_dict_l, isi_dict_f, Ab.isNon, args, List.map, List.length_cons, List.length_nil, List.length_singleton, List.replicate, Nat.reduceSub, Nat.reduceAdd, Nat.zero_add, List.cons_append, List.nil_append, List.getElem?_cons_zero, List.getElem?_cons_succ, List.set_cons_zero, List.set_cons_succ, Option.some.injEq, decide_eq_true_eq, Bool.not_eq_true', decide_eq_false_iff_not, ite_true, ite_false, if_true, if_false, reduceIte, Bool.false_eq_true, Bool.not_true, Bool.not_false, Bool.true_eq_false, decide_true, decide_false, Nat.reduceLeDiff, Nat.reduceLT, turn_]
        exact ⟨trivial, _, rfl⟩
      · subst hC; subst hσ
        simp only [sat_ok, sat_bad, sat_bind, sat_ite, bind_ok, bind_bad, thn_nx, thn_rt, thn_bk, thn_ct, fin_rt, fin_nx, ev_v, ev_c, ev_op, ev_un, ev_nil, ev_cons, ev_tup, ev_lst, ev_call, ev_own, ev_sl, ev_no, ev_part, ev_and, ev_or, ev_not, ev_if, ev_t, ev_tb, ev_tnot, ev_tand, ev_tor, ev_mt, ev_mt0, ev_rgd, ev_set, ev_asg, ev_ret, ev_retN, ev_ex, ev_pass, ev_brk, ev_cont, ev_ifS, ev_aug, ev_gn, ev_gtp, ev_gnl, ev_gcs, ev_gsb, ev_for, ev_rg1, ev_rg2, ev_its, ev_enum, ev_lc, ev_yes, ev_add_ii, ev_add_ss, ev_add_tt, ev_add_rr, ev_sub, ev_mul, ev_mod, ev_fdiv, ev_pow, ev_neg, ev_lt, ev_le, ev_gt, ev_ge, ev_eq_ii, ev_eq_ss, ev_eq_bb, ev_ne_ii, ev_ne_ss, ev_ne_bb, ev_is_n, ev_isnt_n, ev_int_i, ev_int_b, ev_min_ii, ev_max_ii, ev_abs, ev_tup_of, ev_tup_ofL, ev_lst_ofT, ev_lst_ofL, ev_len_t, ev_len_s, ev_len_r, ev_tru_b, ev_alloc, ev_tupD, ev_lstD, isi_tuple_non, isi_tuple_bl, isi_tuple_int, isi_tuple_str, isi_tuple_tup, isi_tuple_l, isi_tuple_f, isi_list_non, isi_list_bl, isi_list_int, isi_list_str, isi_list_tup, isi_list_l, isi_list_f, isi_bool_non, isi_bool_bl, isi_bool_int, isi_bool_str, isi_bool_tup, isi_bool_l, isi_bool_f, isi_int_non, isi_int_bl, isi_int_int, isi_int_str, isi_int_tup, isi_int_l, isi_int_f, isi_str_non, isi_str_bl, isi_str_int, isi_str_str, isi_str_tup, isi_str_l, isi_str_f, isi_dict_non, isi_dict_bl, isi_dict_int, isi_dict_str, isi_dict_tup, isi_dict_l, isi_dict_f, Ab.isNon, args, List.map, List.length_cons, List.length_nil, List.length_singleton, List.replicate, Nat.reduceSub, Nat.reduceAdd, Nat.zero_add, List.cons_append, List.nil_append, List.getElem?_cons_zero, List.getElem?_cons_succ, List.set_cons_zero, List.set_cons_succ, Option.some.injEq, decide_eq_true_eq, Bool.not_eq_true', decide_eq_false_iff_not, ite_true, ite_false, if_true, if_false, reduceIte, Bool.false_eq_true, Bool.not_true, Bool.not_false, Bool.true_eq_false, decide_true, decide_false, Nat.reduceLeDiff, Nat.reduceLT, turn_]
        exact ⟨trivial, _, _, rfl⟩
    · subst hB; subst hσ
      simp only [sat_ok, sat_bad, sat_bind, sat_ite, bind_ok, bind_bad, thn_nx, thn_rt, thn_bk, thn_ct, fin_rt, fin_nx, ev_v, ev_c, ev_op, ev_un, ev_nil, ev_cons, ev_tup, ev_lst, ev_call, ev_own, ev_sl, ev_no, ev_part, ev_and, ev_or, ev_not, ev_if, ev_t, ev_tb, ev_tnot, ev_tand, ev_tor, ev_mt, ev_mt0, ev_rgd, ev_set, ev_asg, ev_ret, ev_retN, ev_ex, ev_pass, ev_brk, ev_cont, ev_ifS, ev_aug, ev_gn, ev_gtp, ev_gnl, ev_gcs, ev_gsb, ev_for, ev_rg1, ev_rg2, ev_its, ev_enum, ev_lc, ev_yes, ev_add_ii, ev_add_ss, ev_add_tt, ev_add_rr, ev_sub, ev_mul, ev_mod, ev_fdiv, ev_pow, ev_neg, ev_lt, ev_le, ev_gt, ev_ge, ev_eq_ii, ev_eq_ss, ev_eq_bb, ev_ne_ii, ev_ne_ss, ev_ne_bb, ev_is_n, ev_isnt_n, ev_int_i, ev_int_b, ev_min_ii, ev_max_ii, ev_abs, ev_tup_of, ev_tup_ofL, ev_lst_ofT, ev_lst_ofL, ev_len_t, ev_len_s, ev_len_r, ev_tru_b, ev_alloc, ev_tupD, ev_lstD, isi_tuple_non, isi_tuple_bl, isi_tuple_int, isi_tuple_str, isi_tuple_tup, isi_tuple_l, isi_tuple_f, isi_list_non, isi_list_bl, isi_list_int, isi_list_str, isi_list_tup, isi_list_l, isi_list_f, isi_bool_non, isi_bool_bl, isi_bool_int, isi_bool_str, isi_bool_tup, isi_bool_l, isi_bool_f, isi_int_non, isi_int_bl, isi_int_int, isi_int_str, isi_int_tup, isi_int_l, isi_int_f, isi_str_non, isi_str_bl, isi_str_int, isi_str_str, isi_str_tup, isi_str_l, isi_str_f, isi_dict_non, isi_dict_bl, isi_dict_int, isi_dict_str, isi_dict_tup, isi_dict_l, isi_dict_f, Ab.isNon, args, List.map, List.length_cons, List.length_nil, List.length_singleton, List.replicate, Nat.reduceSub, Nat.reduceAdd, Nat.zero_add, List.cons_append, List.nil_append, List.getElem?_cons_zero, List.getElem?_cons_succ, List.set_cons_zero, List.set_cons_succ, Option.some.injEq, decide_eq_true_eq, Bool.not_eq_true', decide_eq_false_iff_not, ite_true, ite_false, if_true, if_false, reduceIte, Bool.false_eq_true, Bool.not_true, Bool.not_false, Bool.true_eq_false, decide_true, decide_false, Nat.reduceLeDiff, Nat.reduceLT]
      trivial
  obtain ⟨d, A', e, rfl, rfl⟩ := key.eq
  exact e
theorem mat_rd {A : AH} {m : Nat} {f : Mx} : ∀ i, i < m → ∃ x, ixD (matD m f) (.int (i : Nat)) A = .ok x A ∧ ∀ j, j < m → ixD x (.int (j : Nat)) A = .ok (.int (f i j)) A := fun i hi => ⟨_, ix_mat hi, fun j hj => ix_row hj⟩
theorem mat_ln {A : AH} {m : Nat} {f : Mx} : lenD [matD m f] A = .ok (.int (m : Nat)) A := by
  show lenD [.tup _] A = _
  rw [ev_len_t]; simp
theorem Mt.rd {A0 A : AH} {r m : Nat} {c : Nat → Nat} {f : Mx} (h : Mt A0 A r c m f) : ∀ i, i < m → ∃ x, ixD (.ref r) (.int (i : Nat)) A = .ok x A ∧ ∀ j, j < m → ixD x (.int (j : Nat)) A = .ok (.int (f i j)) A := fun i hi => ⟨_, h.ix hi, fun j hj => h.ix2 hi hj⟩
theorem widest_spec {A : AH} {n : Nat} {pr : List (Int × Int)} (hn : n ≤ 99) (hp : pr.length = n) : Sat (m__law_widest [.tup (pr.map prD)] A) fun d A' => ∃ r c, d = .ref r ∧ A.length ≤ r ∧ Mt A A' r c (n + 1) (rbx (fst0 pr) (snd0 pr)) := by
  refine sat_body rfl (sat_seq ?_)
  simp only [sat_ok, sat_bad, sat_bind, sat_ite, bind_ok, bind_bad, thn_nx, thn_rt, thn_bk, thn_ct, fin_rt, fin_nx, ev_v, ev_c, ev_op, ev_un, ev_nil, ev_cons, ev_tup, ev_lst, ev_call, ev_own, ev_sl, ev_no, ev_part, ev_and, ev_or, ev_not, ev_if, ev_t, ev_tb, ev_tnot, ev_tand, ev_tor, ev_mt, ev_mt0, ev_rgd, ev_set, ev_asg, ev_ret, ev_retN, ev_ex, ev_pass, ev_brk, ev_cont, ev_ifS, ev_aug, ev_gn, ev_gtp, ev_gnl, ev_gcs, ev_gsb, ev_for, ev_rg1, ev_rg2, ev_its, ev_enum, ev_lc, ev_yes, ev_add_ii, ev_add_ss, ev_add_tt, ev_add_rr, ev_sub, ev_mul, ev_mod, ev_fdiv, ev_pow, ev_neg, ev_lt, ev_le, ev_gt, ev_ge, ev_eq_ii, ev_eq_ss, ev_eq_bb, ev_ne_ii, ev_ne_ss, ev_ne_bb, ev_is_n, ev_isnt_n, ev_int_i, ev_int_b, ev_min_ii, ev_max_ii, ev_abs, ev_tup_of, ev_tup_ofL, ev_lst_ofT, ev_lst_ofL, ev_len_t, ev_len_s, ev_len_r, ev_tru_b, ev_alloc, ev_tupD, ev_lstD, isi_tuple_non, isi_tuple_bl, isi_tuple_int, isi_tuple_str, isi_tuple_tup, isi_tuple_l, isi_tuple_f, isi_list_non, isi_list_bl, isi_list_int, isi_list_str, isi_list_tup, isi_list_l, isi_list_f, isi_bool_non, isi_bool_bl, isi_bool_int, isi_bool_str, isi_bool_tup, isi_bool_l, isi_bool_f, isi_int_non, isi_int_bl, isi_int_int, isi_int_str, isi_int_tup, isi_int_l, isi_int_f, isi_str_non, isi_str_bl, isi_str_int, isi_str_str, isi_str_tup, isi_str_l, isi_str_f, isi_dict_non, isi_dict_bl, isi_dict_int, isi_dict_str, isi_dict_tup, isi_dict_l, isi_dict_f, Ab.isNon, args, List.map, List.length_cons, List.length_nil, List.length_singleton, List.replicate, Nat.reduceSub, Nat.reduceAdd, Nat.zero_add, List.cons_append, List.nil_append, List.getElem?_cons_zero, List.getElem?_cons_succ, List.set_cons_zero, List.set_cons_succ, Option.some.injEq, decide_eq_true_eq, Bool.not_eq_true', decide_eq_false_iff_not, ite_true, ite_false, if_true, if_false, reduceIte, Bool.false_eq_true, Bool.not_true, Bool.not_false, Bool.true_eq_false, decide_true, decide_false, Nat.reduceLeDiff, Nat.reduceLT]
  have l1 := at_new (A := A) (o := .lst [.tup [.int 0, .int 0]])
  have lo : ∀ A, lstOf [.tup (pr.map prD)] A = .ok (.ref A.length) (A ++ [.lst (pr.map prD)]) := fun A => rfl
  have l2 := at_new (A := A ++ [AO.lst [.tup [.int 0, .int 0]]]) (o := .lst (pr.map prD))
  have l1 := (Gr.app (B := [.lst (pr.map prD)])).keep _ _ l1
  have G := (Gr.app (A := A) (B := [AO.lst [.tup [.int 0, .int 0]]])).trans (Gr.app (B := [.lst (pr.map prD)]))
  have z : [D.tup [.int 0, .int 0]].length + (pr.map prD).length ≤ sizeLine := sl_le (by simp; omega)
  simp only [sat_ok, sat_bad, sat_bind, sat_ite, bind_ok, bind_bad, thn_nx, thn_rt, thn_bk, thn_ct, fin_rt, fin_nx, ev_v, ev_c, ev_op, ev_un, ev_nil, ev_cons, ev_tup, ev_lst, ev_call, ev_own, ev_sl, ev_no, ev_part, ev_and, ev_or, ev_not, ev_if, ev_t, ev_tb, ev_tnot, ev_tand, ev_tor, ev_mt, ev_mt0, ev_rgd, ev_set, ev_asg, ev_ret, ev_retN, ev_ex, ev_pass, ev_brk, ev_cont, ev_ifS, ev_aug, ev_gn, ev_gtp, ev_gnl, ev_gcs, ev_gsb, ev_for, ev_rg1, ev_rg2, ev_its, ev_enum, ev_lc, ev_yes, ev_add_ii, ev_add_ss, ev_add_tt, ev_add_rr, ev_sub, ev_mul, ev_mod, ev_fdiv, ev_pow, ev_neg, ev_lt, ev_le, ev_gt, ev_ge, ev_eq_ii, ev_eq_ss, ev_eq_bb, ev_ne_ii, ev_ne_ss, ev_ne_bb, ev_is_n, ev_isnt_n, ev_int_i, ev_int_b, ev_min_ii, ev_max_ii, ev_abs, ev_tup_of, ev_tup_ofL, ev_lst_ofT, ev_lst_ofL, ev_len_t, ev_len_s, ev_len_r, ev_tru_b, ev_alloc, ev_tupD, ev_lstD, isi_tuple_non, isi_tuple_bl, isi_tuple_int, isi_tuple_str, isi_tuple_tup, isi_tuple_l, isi_tuple_f, isi_list_non, isi_list_bl, isi_list_int, isi_list_str, isi_list_tup, isi_list_l, isi_list_f, isi_bool_non, isi_bool_bl, isi_bool_int, isi_bool_str, isi_bool_tup, isi_bool_l, isi_bool_f, isi_int_non, isi_int_bl, isi_int_int, isi_int_str, isi_int_tup, isi_int_l, isi_int_f, isi_str_non, isi_str_bl, isi_str_int, isi_str_str, isi_str_tup, isi_str_l, isi_str_f, isi_dict_non, isi_dict_bl, isi_dict_int, isi_dict_str, isi_dict_tup, isi_dict_l, isi_dict_f, Ab.isNon, args, List.map, List.length_cons, List.length_nil, List.length_singleton, List.replicate, Nat.reduceSub, Nat.reduceAdd, Nat.zero_add, List.cons_append, List.nil_append, List.getElem?_cons_zero, List.getElem?_cons_succ, List.set_cons_zero, List.set_cons_succ, Option.some.injEq, decide_eq_true_eq, Bool.not_eq_true', decide_eq_false_iff_not, ite_true, ite_false, if_true, if_false, reduceIte, Bool.false_eq_true, Bool.not_true, Bool.not_false, Bool.true_eq_false, decide_true, decide_false, Nat.reduceLeDiff, Nat.reduceLT, ev_add_rr (muL_l l1) (muL_l l2) z]
  generalize A ++ [AO.lst [.tup [.int 0, .int 0]]] ++ [.lst (pr.map prD)] = A2 at *
  have hF := at_new (A := A2) (o := .lst (D.tup [.int 0, .int 0] :: pr.map prD))
  have G := G.trans (Gr.app (B := [.lst (D.tup [.int 0, .int 0] :: pr.map prD)]))
  have lF := at_lt l2
  generalize A2 ++ [AO.lst (D.tup [.int 0, .int 0] :: pr.map prD)] = A3 at *
  generalize A2.length = F at *
  refine sat_seq ?_
  simp only [sat_ok, sat_bad, sat_bind, sat_ite, bind_ok, bind_bad, thn_nx, thn_rt, thn_bk, thn_ct, fin_rt, fin_nx, ev_v, ev_c, ev_op, ev_un, ev_nil, ev_cons, ev_tup, ev_lst, ev_call, ev_own, ev_sl, ev_no, ev_part, ev_and, ev_or, ev_not, ev_if, ev_t, ev_tb, ev_tnot, ev_tand, ev_tor, ev_mt, ev_mt0, ev_rgd, ev_set, ev_asg, ev_ret, ev_retN, ev_ex, ev_pass, ev_brk, ev_cont, ev_ifS, ev_aug, ev_gn, ev_gtp, ev_gnl, ev_gcs, ev_gsb, ev_for, ev_rg1, ev_rg2, ev_its, ev_enum, ev_lc, ev_yes, ev_add_ii, ev_add_ss, ev_add_tt, ev_add_rr, ev_sub, ev_mul, ev_mod, ev_fdiv, ev_pow, ev_neg, ev_lt, ev_le, ev_gt, ev_ge, ev_eq_ii, ev_eq_ss, ev_eq_bb, ev_ne_ii, ev_ne_ss, ev_ne_bb, ev_is_n, ev_isnt_n, ev_int_i, ev_int_b, ev_min_ii, ev_max_ii, ev_abs, ev_tup_of, ev_tup_ofL, ev_lst_ofT, ev_lst_ofL, ev_len_t, ev_len_s, ev_len_r, ev_tru_b, ev_alloc, ev_tupD, ev_lstD, isi_tuple_non, isi_tuple_bl, isi_tuple_int, isi_tuple_str, isi_tuple_tup, isi_tuple_l, isi_tuple_f, isi_list_non, isi_list_bl, isi_list_int, isi_list_str, isi_list_tup, isi_list_l, isi_list_f, isi_bool_non, isi_bool_bl, isi_bool_int, isi_bool_str, isi_bool_tup, isi_bool_l, isi_bool_f, isi_int_non, isi_int_bl, isi_int_int, isi_int_str, isi_int_tup, isi_int_l, isi_int_f, isi_str_non, isi_str_bl, isi_str_int, isi_str_str, isi_str_tup, isi_str_l, isi_str_f, isi_dict_non, isi_dict_bl, isi_dict_int, isi_dict_str, isi_dict_tup, isi_dict_l, isi_dict_f, Ab.isNon, args, List.map, List.length_cons, List.length_nil, List.length_singleton, List.replicate, Nat.reduceSub, Nat.reduceAdd, Nat.zero_add, List.cons_append, List.nil_append, List.getElem?_cons_zero, List.getElem?_cons_succ, List.set_cons_zero, List.set_cons_succ, Option.some.injEq, decide_eq_true_eq, Bool.not_eq_true', decide_eq_false_iff_not, ite_true, ite_false, if_true, if_false, reduceIte, Bool.false_eq_true, Bool.not_true, Bool.not_false, Bool.true_eq_false, decide_true, decide_false, Nat.reduceLeDiff, Nat.reduceLT]
  refine sat_seq ?_
  have hR := at_new (A := A3) (o := .lst [])
  have lA := G.le
  have FA := at_lt hF
  have hF := (Gr.app (B := [AO.lst []])).keep _ _ hF
  have G := G.trans (Gr.app (B := [AO.lst []]))
  generalize A3 ++ [AO.lst []] = A4 at *
  generalize A3.length = R at *
  have lnF : ∀ {B : AH}, B[F]? = some (.lst (D.tup [.int 0, .int 0] :: pr.map prD)) → lenD [.ref F] B = .ok (.int ((n + 1 : Nat) : Int)) B := fun h => (ev_len_r (rdL_l h)).trans (by simp [hp])
  have ix : ∀ {i : Nat} {B : AH}, B[F]? = some (.lst (D.tup [.int 0, .int 0] :: pr.map prD)) → i < n + 1 → ixD (.ref F) (.int (i : Nat)) B = .ok (.tup [.int (fst0 pr i), .int (snd0 pr i)]) B := fun h hi => ev_ix_r (rdL_l h) (by rw [atI_pos (by omega), Int.toNat_natCast]; exact full_ix (by omega))
  have ix0 : ∀ {a b : Int} A, ixD (.tup [.int a, .int b]) (.int 0) A = .ok (.int a) A := fun A => ev_ix_t (by rw [atI_pos (by decide)]; rfl)
  have ix1 : ∀ {a b : Int} A, ixD (.tup [.int a, .int b]) (.int 1) A = .ok (.int b) A := fun A => ev_ix_t (by rw [atI_pos (by decide)]; rfl)
  simp only [sat_ok, sat_bad, sat_bind, sat_ite, bind_ok, bind_bad, thn_nx, thn_rt, thn_bk, thn_ct, fin_rt, fin_nx, ev_v, ev_c, ev_op, ev_un, ev_nil, ev_cons, ev_tup, ev_lst, ev_call, ev_own, ev_sl, ev_no, ev_part, ev_and, ev_or, ev_not, ev_if, ev_t, ev_tb, ev_tnot, ev_tand, ev_tor, ev_mt, ev_mt0, ev_rgd, ev_set, ev_asg, ev_ret, ev_retN, ev_ex, ev_pass, ev_brk, ev_cont, ev_ifS, ev_aug, ev_gn, ev_gtp, ev_gnl, ev_gcs, ev_gsb, ev_for, ev_rg1, ev_rg2, ev_its, ev_enum, ev_lc, ev_yes, ev_add_ii, ev_add_ss, ev_add_tt, ev_add_rr, ev_sub, ev_mul, ev_mod, ev_fdiv, ev_pow, ev_neg, ev_lt, ev_le, ev_gt, ev_ge, ev_eq_ii, ev_eq_ss, ev_eq_bb, ev_ne_ii, ev_ne_ss, ev_ne_bb, ev_is_n, ev_isnt_n, ev_int_i, ev_int_b, ev_min_ii, ev_max_ii, ev_abs, ev_tup_of, ev_tup_ofL, ev_lst_ofT, ev_lst_ofL, ev_len_t, ev_len_s, ev_len_r, ev_tru_b, ev_alloc, ev_tupD, ev_lstD, isi_tuple_non, isi_tuple_bl, isi_tuple_int, isi_tuple_str, isi_tuple_tup, isi_tuple_l, isi_tuple_f, isi_list_non, isi_list_bl, isi_list_int, isi_list_str, isi_list_tup, isi_list_l, isi_list_f, isi_bool_non, isi_bool_bl, isi_bool_int, isi_bool_str, isi_bool_tup, isi_bool_l, isi_bool_f, isi_int_non, isi_int_bl, isi_int_int, isi_int_str, isi_int_tup, isi_int_l, isi_int_f, isi_str_non, isi_str_bl, isi_str_int, isi_str_str, isi_str_tup, isi_str_l, isi_str_f, isi_dict_non, isi_dict_bl, isi_dict_int, isi_dict_str, isi_dict_tup, isi_dict_l, isi_dict_f, Ab.isNon, args, List.map, List.length_cons, List.length_nil, List.length_singleton, List.replicate, Nat.reduceSub, Nat.reduceAdd, Nat.zero_add, List.cons_append, List.nil_append, List.getElem?_cons_zero, List.getElem?_cons_succ, List.set_cons_zero, List.set_cons_succ, Option.some.injEq, decide_eq_true_eq, Bool.not_eq_true', decide_eq_false_iff_not, ite_true, ite_false, if_true, if_false, reduceIte, Bool.false_eq_true, Bool.not_true, Bool.not_false, Bool.true_eq_false, decide_true, decide_false, Nat.reduceLeDiff, Nat.reduceLT, lnF hF]
  rw [if_pos (inRg_of (by omega) (by omega)), Int.toNat_natCast]
  refine range_inv (fun k σ B => Gr A B ∧ (∃ x y, σ = [some (.tup (pr.map prD)), some (.ref F), some (.ref R), x, y]) ∧ B[F]? = some (.lst (D.tup [.int 0, .int 0] :: pr.map prD)) ∧ ∃ c : Nat → Nat, B[R]? = some (.lst ((List.range k).map fun i => .ref (c i))) ∧ (∀ i, i < k → R < c i ∧ B[c i]? = some (.lst ((List.range (n + 1)).map fun j => .int (rbx (fst0 pr) (snd0 pr) i j)))) ∧ ∀ i j, i < k → j < k → c i = c j → i = j)
    (fun k σ B hk ⟨G, ⟨x, y, hσ⟩, hF, c, hR, hc, inj⟩ => ?_) (fun σ B ⟨G, ⟨x, y, hσ⟩, hF, c, hR, hc, inj⟩ => ?_) ⟨G, ⟨_, _, rfl⟩, hF, fun _ => 0, hR, fun _ h => absurd h (Nat.not_lt_zero _), fun _ _ h => absurd h (Nat.not_lt_zero _)⟩
  · subst hσ
    simp only [sat_ok, sat_bad, sat_bind, sat_ite, bind_ok, bind_bad, thn_nx, thn_rt, thn_bk, thn_ct, fin_rt, fin_nx, ev_v, ev_c, ev_op, ev_un, ev_nil, ev_cons, ev_tup, ev_lst, ev_call, ev_own, ev_sl, ev_no, ev_part, ev_and, ev_or, ev_not, ev_if, ev_t, ev_tb, ev_tnot, ev_tand, ev_tor, ev_mt, ev_mt0, ev_rgd, ev_set, ev_asg, ev_ret, ev_retN, ev_ex, ev_pass, ev_brk, ev_cont, ev_ifS, ev_aug, ev_gn, ev_gtp, ev_gnl, ev_gcs, ev_gsb, ev_for, ev_rg1, ev_rg2, ev_its, ev_enum, ev_lc, ev_yes, ev_add_ii, ev_add_ss, ev_add_tt, ev_add_rr, ev_sub, ev_mul, ev_mod, ev_fdiv, ev_pow, ev_neg, ev_lt, ev_le, ev_gt, ev_ge, ev_eq_ii, ev_eq_ss, ev_eq_bb, ev_ne_ii, ev_ne_ss, ev_ne_bb, ev_is_n, ev_isnt_n, ev_int_i, ev_int_b, ev_min_ii, ev_max_ii, ev_abs, ev_tup_of, ev_tup_ofL, ev_lst_ofT, ev_lst_ofL, ev_len_t, ev_len_s, ev_len_r, ev_tru_b, ev_alloc, ev_tupD, ev_lstD, isi_tuple_non, isi_tuple_bl, isi_tuple_int, isi_tuple_str, isi_tuple_tup, isi_tuple_l, isi_tuple_f, isi_list_non, isi_list_bl, isi_list_int, isi_list_str, isi_list_tup, isi_list_l, isi_list_f, isi_bool_non, isi_bool_bl, isi_bool_int, isi_bool_str, isi_bool_tup, isi_bool_l, isi_bool_f, isi_int_non, isi_int_bl, isi_int_int, isi_int_str, isi_int_tup, isi_int_l, isi_int_f, isi_str_non, isi_str_bl, isi_str_int, isi_str_str, isi_str_tup, isi_str_l, isi_str_f, isi_dict_non, isi_dict_bl, isi_dict_int, isi_dict_str, isi_dict_tup, isi_dict_l, isi_dict_f, Ab.isNon, args, List.map, List.length_cons, List.length_nil, List.length_singleton, List.replicate, Nat.reduceSub, Nat.reduceAdd, Nat.zero_add, List.cons_append, List.nil_append, List.getElem?_cons_zero, List.getElem?_cons_succ, List.set_cons_zero, List.set_cons_succ, Option.some.injEq, decide_eq_true_eq, Bool.not_eq_true', decide_eq_false_iff_not, ite_true, ite_false, if_true, if_false, reduceIte, Bool.false_eq_true, Bool.not_true, Bool.not_false, Bool.true_eq_false, decide_true, decide_false, Nat.reduceLeDiff, Nat.reduceLT, ty_l hR, lnF hF, wipeA]
    rw [if_pos (inRg_of (by omega) (by omega)), Int.toNat_natCast]
    refine comp_pure (fun j : Nat => .int (0 + (j : Nat))) (fun j => .int (rbx (fst0 pr) (snd0 pr) k j)) (fun _ => trivial) (fun j hj l => ?_) (by simp; omega) ?_
    · have hj := List.mem_range.mp hj
      have hF' := (Gr.app (B := [AO.lst l])).keep _ _ hF
      have m1 : ∀ a : Int, mulOk a 1 := fun a => mulOk_r (by decide) (by decide)
      have m0 : ∀ a : Int, mulOk a 0 := fun a => mulOk_r (by decide) (by decide)
      simp only [sat_ok, sat_bad, sat_bind, sat_ite, bind_ok, bind_bad, thn_nx, thn_rt, thn_bk, thn_ct, fin_rt, fin_nx, ev_v, ev_c, ev_op, ev_un, ev_nil, ev_cons, ev_tup, ev_lst, ev_call, ev_own, ev_sl, ev_no, ev_part, ev_and, ev_or, ev_not, ev_if, ev_t, ev_tb, ev_tnot, ev_tand, ev_tor, ev_mt, ev_mt0, ev_rgd, ev_set, ev_asg, ev_ret, ev_retN, ev_ex, ev_pass, ev_brk, ev_cont, ev_ifS, ev_aug, ev_gn, ev_gtp, ev_gnl, ev_gcs, ev_gsb, ev_for, ev_rg1, ev_rg2, ev_its, ev_enum, ev_lc, ev_yes, ev_add_ii, ev_add_ss, ev_add_tt, ev_add_rr, ev_sub, ev_mul, ev_mod, ev_fdiv, ev_pow, ev_neg, ev_lt, ev_le, ev_gt, ev_ge, ev_eq_ii, ev_eq_ss, ev_eq_bb, ev_ne_ii, ev_ne_ss, ev_ne_bb, ev_is_n, ev_isnt_n, ev_int_i, ev_int_b, ev_min_ii, ev_max_ii, ev_abs, ev_tup_of, ev_tup_ofL, ev_lst_ofT, ev_lst_ofL, ev_len_t, ev_len_s, ev_len_r, ev_tru_b, ev_alloc, ev_tupD, ev_lstD, isi_tuple_non, isi_tuple_bl, isi_tuple_int, isi_tuple_str, isi_tuple_tup, isi_tuple_l, isi_tuple_f, isi_list_non, isi_list_bl, isi_list_int, isi_list_str, isi_list_tup, isi_list_l, isi_list_f, isi_bool_non, isi_bool_bl, isi_bool_int, isi_bool_str, isi_bool_tup, isi_bool_l, isi_bool_f, isi_int_non, isi_int_bl, isi_int_int, isi_int_str, isi_int_tup, isi_int_l, isi_int_f, isi_str_non, isi_str_bl, isi_str_int, isi_str_str, isi_str_tup, isi_str_l, isi_str_f, isi_dict_non, isi_dict_bl, isi_dict_int, isi_dict_str, isi_dict_tup, isi_dict_l, isi_dict_f, Ab.isNon, args, List.map, List.length_cons, List.length_nil, List.length_singleton, List.replicate, Nat.reduceSub, Nat.reduceAdd, Nat.zero_add, List.cons_append, List.nil_append, List.getElem?_cons_zero, List.getElem?_cons_succ, List.set_cons_zero, List.set_cons_succ, Option.some.injEq, decide_eq_true_eq, Bool.not_eq_true', decide_eq_false_iff_not, ite_true, ite_false, if_true, if_false, reduceIte, Bool.false_eq_true, Bool.not_true, Bool.not_false, Bool.true_eq_false, decide_true, decide_false, Nat.reduceLeDiff, Nat.reduceLT, Int.zero_add, ix hF' hk, ix hF' hj, ix0, ix1]
      have md : ∀ A, mulD (.int (snd0 pr k - fst0 pr j)) (.int (if ¬ (k : Int) = (j : Nat) then 1 else 0)) A = .ok (.int (rbx (fst0 pr) (snd0 pr) k j)) A := fun A => by
        by_cases e : k = j
        · subst e
          rw [if_neg (by simp), ev_mul (m0 _), Int.mul_zero]
          unfold rbx
          rw [if_pos rfl]
        · rw [if_pos (by omega), ev_mul (m1 _), Int.mul_one]
          unfold rbx
          rw [if_neg (fun z => e z.symm)]
      rw [md]
      exact ⟨rfl, rfl⟩
    · have b1 := at_new (A := B) (o := .lst ((List.range (n + 1)).map fun j => D.int (rbx (fst0 pr) (snd0 pr) k j)))
      have g := Gr.app (A := B) (B := [.lst ((List.range (n + 1)).map fun j => D.int (rbx (fst0 pr) (snd0 pr) k j))])
      have lB := at_lt hR
      have hcl : ∀ a, a < k → c a < B.length := fun a ha => at_lt (hc a ha).2
      have hR2 := g.keep _ _ hR
      have hF2 := g.keep _ _ hF
      rw [ev_app hR2 (by simp; omega)]
      simp only [sat_ok, sat_bad, sat_bind, sat_ite, bind_ok, bind_bad, thn_nx, thn_rt, thn_bk, thn_ct, fin_rt, fin_nx, ev_v, ev_c, ev_op, ev_un, ev_nil, ev_cons, ev_tup, ev_lst, ev_call, ev_own, ev_sl, ev_no, ev_part, ev_and, ev_or, ev_not, ev_if, ev_t, ev_tb, ev_tnot, ev_tand, ev_tor, ev_mt, ev_mt0, ev_rgd, ev_set, ev_asg, ev_ret, ev_retN, ev_ex, ev_pass, ev_brk, ev_cont, ev_ifS, ev_aug, ev_gn, ev_gtp, ev_gnl, ev_gcs, ev_gsb, ev_for, ev_rg1, ev_rg2, ev_its, ev_enum, ev_lc, ev_yes, ev_add_ii, ev_add_ss, ev_add_tt, ev_add_rr, ev_sub, ev_mul, ev_mod, ev_fdiv, ev_pow, ev_neg, ev_lt, ev_le, ev_gt, ev_ge, ev_eq_ii, ev_eq_ss, ev_eq_bb, ev_ne_ii, ev_ne_ss, ev_ne_bb, ev_is_n, ev_isnt_n, ev_int_i, ev_int_b, ev_min_ii, ev_max_ii, ev_abs, ev_tup_of, ev_tup_ofL, ev_lst_ofT, ev_lst_ofL, ev_len_t, ev_len_s, ev_len_r, ev_tru_b, ev_alloc, ev_tupD, ev_lstD, isi_tuple_non, isi_tuple_bl, isi_tuple_int, isi_tuple_str, isi_tuple_tup, isi_tuple_l, isi_tuple_f, isi_list_non, isi_list_bl, isi_list_int, isi_list_str, isi_list_tup, isi_list_l, isi_list_f, isi_bool_non, isi_bool_bl, isi_bool_int, isi_bool_str, isi_bool_tup, isi_bool_l, isi_bool_f, isi_int_non, isi_int_bl, isi_int_int, isi_int_str, isi_int_tup, isi_int_l, isi_int_f, isi_str_non, isi_str_bl, isi_str_int, isi_str_str, isi_str_tup, isi_str_l, isi_str_f, isi_dict_non, isi_dict_bl, isi_dict_int, isi_dict_str, isi_dict_tup, isi_dict_l, isi_dict_f, Ab.isNon, args, List.map, List.length_cons, List.length_nil, List.length_singleton, List.replicate, Nat.reduceSub, Nat.reduceAdd, Nat.zero_add, List.cons_append, List.nil_append, List.getElem?_cons_zero, List.getElem?_cons_succ, List.set_cons_zero, List.set_cons_succ, Option.some.injEq, decide_eq_true_eq, Bool.not_eq_true', decide_eq_false_iff_not, ite_true, ite_false, if_true, if_false, reduceIte, Bool.false_eq_true, Bool.not_true, Bool.not_false, Bool.true_eq_false, decide_true, decide_false, Nat.reduceLeDiff, Nat.reduceLT, turn_]
      refine ⟨(G.trans g).set lA, ⟨_, _, rfl⟩, by rw [List.getElem?_set_ne (by omega)]; exact hF2, fun i => if i = k then B.length else c i, ?_, fun i hi => ?_, fun i j hi hj e => ?_⟩
      · rw [at_set (at_lt hR2), List.range_succ (n := k), List.map_append]
        congr 3
        · apply List.map_congr_left
          intro a ha
          have := List.mem_range.mp ha
          show _ = D.ref (if a = k then B.length else c a)
          rw [if_neg (by omega)]
        · simp
      · by_cases e : i = k
        · subst e
          simp only [if_true]
          exact ⟨lB, by rw [List.getElem?_set_ne (by omega)]; exact b1⟩
        · simp only [if_neg e]
          obtain ⟨h1, h2⟩ := hc i (by omega)
          exact ⟨h1, by rw [List.getElem?_set_ne (by omega)]; exact g.keep _ _ h2⟩
      · by_cases e1 : i = k
        · by_cases e2 : j = k
          · omega
          · simp only [if_pos e1, if_neg e2] at e
            have := hcl j (by omega); omega
        · by_cases e2 : j = k
          · simp only [if_neg e1, if_pos e2] at e
            have := hcl i (by omega); omega
          · simp only [if_neg e1, if_neg e2] at e
            exact inj i j (by omega) (by omega) e
  · subst hσ
    simp only [sat_ok, sat_bad, sat_bind, sat_ite, bind_ok, bind_bad, thn_nx, thn_rt, thn_bk, thn_ct, fin_rt, fin_nx, ev_v, ev_c, ev_op, ev_un, ev_nil, ev_cons, ev_tup, ev_lst, ev_call, ev_own, ev_sl, ev_no, ev_part, ev_and, ev_or, ev_not, ev_if, ev_t, ev_tb, ev_tnot, ev_tand, ev_tor, ev_mt, ev_mt0, ev_rgd, ev_set, ev_asg, ev_ret, ev_retN, ev_ex, ev_pass, ev_brk, ev_cont, ev_ifS, ev_aug, ev_gn, ev_gtp, ev_gnl, ev_gcs, ev_gsb, ev_for, ev_rg1, ev_rg2, ev_its, ev_enum, ev_lc, ev_yes, ev_add_ii, ev_add_ss, ev_add_tt, ev_add_rr, ev_sub, ev_mul, ev_mod, ev_fdiv, ev_pow, ev_neg, ev_lt, ev_le, ev_gt, ev_ge, ev_eq_ii, ev_eq_ss, ev_eq_bb, ev_ne_ii, ev_ne_ss, ev_ne_bb, ev_is_n, ev_isnt_n, ev_int_i, ev_int_b, ev_min_ii, ev_max_ii, ev_abs, ev_tup_of, ev_tup_ofL, ev_lst_ofT, ev_lst_ofL, ev_len_t, ev_len_s, ev_len_r, ev_tru_b, ev_alloc, ev_tupD, ev_lstD, isi_tuple_non, isi_tuple_bl, isi_tuple_int, isi_tuple_str, isi_tuple_tup, isi_tuple_l, isi_tuple_f, isi_list_non, isi_list_bl, isi_list_int, isi_list_str, isi_list_tup, isi_list_l, isi_list_f, isi_bool_non, isi_bool_bl, isi_bool_int, isi_bool_str, isi_bool_tup, isi_bool_l, isi_bool_f, isi_int_non, isi_int_bl, isi_int_int, isi_int_str, isi_int_tup, isi_int_l, isi_int_f, isi_str_non, isi_str_bl, isi_str_int, isi_str_str, isi_str_tup, isi_str_l, isi_str_f, isi_dict_non, isi_dict_bl, isi_dict_int, isi_dict_str, isi_dict_tup, isi_dict_l, isi_dict_f, Ab.isNon, args, List.map, List.length_cons, List.length_nil, List.length_singleton, List.replicate, Nat.reduceSub, Nat.reduceAdd, Nat.zero_add, List.cons_append, List.nil_append, List.getElem?_cons_zero, List.getElem?_cons_succ, List.set_cons_zero, List.set_cons_succ, Option.some.injEq, decide_eq_true_eq, Bool.not_eq_true', decide_eq_false_iff_not, ite_true, ite_false, if_true, if_false, reduceIte, Bool.false_eq_true, Bool.not_true, Bool.not_false, Bool.true_eq_false, decide_true, decide_false, Nat.reduceLeDiff, Nat.reduceLT]
    exact ⟨R, c, rfl, lA, G, hR, fun i hi => (hc i hi).2, inj, fun i hi => by have := (hc i hi).1; omega, fun i hi => by have := (hc i hi).1; omega⟩
/-! ### closing, as the law does it -/
theorem lclosed_spec {A0 A : AH} {r m : Nat} {c : Nat → Nat} {T : Mx} (h : Mt A0 A r c m T) (hm : m ≤ 100) (dg : ∀ i, i < m → T i i = 0) (fe : ∃ p, Feas m T p) :
    Sat (m__law_closed [.ref r] A) fun d A' => Gr A A' ∧ ∃ R, d = matD m R ∧ ClOf m T R := by
  refine sat_body rfl (sat_seq ?_)
  simp only [sat_ok, sat_bad, sat_bind, sat_ite, bind_ok, bind_bad, thn_nx, thn_rt, thn_bk, thn_ct, fin_rt, fin_nx, ev_v, ev_c, ev_op, ev_un, ev_nil, ev_cons, ev_tup, ev_lst, ev_call, ev_own, ev_sl, ev_no, ev_part, ev_and, ev_or, ev_not, ev_if, ev_t, ev_tb, ev_tnot, ev_tand, ev_tor, ev_mt, ev_mt0, ev_rgd, ev_set, ev_asg, ev_ret, ev_retN, ev_ex, ev_pass, ev_brk, ev_cont, ev_ifS, ev_aug, ev_gn, ev_gtp, ev_gnl, ev_gcs, ev_gsb, ev_for, ev_rg1, ev_rg2, ev_its, ev_enum, ev_lc, ev_yes, ev_add_ii, ev_add_ss, ev_add_tt, ev_add_rr, ev_sub, ev_mul, ev_mod, ev_fdiv, ev_pow, ev_neg, ev_lt, ev_le, ev_gt, ev_ge, ev_eq_ii, ev_eq_ss, ev_eq_bb, ev_ne_ii, ev_ne_ss, ev_ne_bb, ev_is_n, ev_isnt_n, ev_int_i, ev_int_b, ev_min_ii, ev_max_ii, ev_abs, ev_tup_of, ev_tup_ofL, ev_lst_ofT, ev_lst_ofL, ev_len_t, ev_len_s, ev_len_r, ev_tru_b, ev_alloc, ev_tupD, ev_lstD, isi_tuple_non, isi_tuple_bl, isi_tuple_int, isi_tuple_str, isi_tuple_tup, isi_tuple_l, isi_tuple_f, isi_list_non, isi_list_bl, isi_list_int, isi_list_str, isi_list_tup, isi_list_l, isi_list_f, isi_bool_non, isi_bool_bl, isi_bool_int, isi_bool_str, isi_bool_tup, isi_bool_l, isi_bool_f, isi_int_non, isi_int_bl, isi_int_int, isi_int_str, isi_int_tup, isi_int_l, isi_int_f, isi_str_non, isi_str_bl, isi_str_int, isi_str_str, isi_str_tup, isi_str_l, isi_str_f, isi_dict_non, isi_dict_bl, isi_dict_int, isi_dict_str, isi_dict_tup, isi_dict_l, isi_dict_f, Ab.isNon, args, List.map, List.length_cons, List.length_nil, List.length_singleton, List.replicate, Nat.reduceSub, Nat.reduceAdd, Nat.zero_add, List.cons_append, List.nil_append, List.getElem?_cons_zero, List.getElem?_cons_succ, List.set_cons_zero, List.set_cons_succ, Option.some.injEq, decide_eq_true_eq, Bool.not_eq_true', decide_eq_false_iff_not, ite_true, ite_false, if_true, if_false, reduceIte, Bool.false_eq_true, Bool.not_true, Bool.not_false, Bool.true_eq_false, decide_true, decide_false, Nat.reduceLeDiff, Nat.reduceLT, ev_iseq_l h.rows, wipeA]
  have rA := at_lt h.rows
  refine comp_cnt (fun k acc B => Gr A B ∧ acc = (List.range k).map (fun i => D.ref (A.length + 1 + i)) ∧ B[A.length]? = some (.lst acc) ∧ B.length = A.length + 1 + k ∧ ∀ i, i < k → B[A.length + 1 + i]? = some (.lst ((List.range m).map fun j => .int (T i j))))
    (fun k acc B hk ⟨G, ha, hB, lB, hR⟩ => ⟨rdL_l (G.keep _ _ h.rows), ?_⟩) (fun acc B ⟨G, ha, hB, lB, hR⟩ => ⟨rdL_l (G.keep _ _ h.rows), ?_⟩) (acc := []) ⟨.app, rfl, at_new, by simp, fun _ h => absurd h (Nat.not_lt_zero _)⟩
  · have hrow := G.keep _ _ (h.row k hk)
    simp only [sat_ok, sat_bad, sat_bind, sat_ite, bind_ok, bind_bad, thn_nx, thn_rt, thn_bk, thn_ct, fin_rt, fin_nx, ev_v, ev_c, ev_op, ev_un, ev_nil, ev_cons, ev_tup, ev_lst, ev_call, ev_own, ev_sl, ev_no, ev_part, ev_and, ev_or, ev_not, ev_if, ev_t, ev_tb, ev_tnot, ev_tand, ev_tor, ev_mt, ev_mt0, ev_rgd, ev_set, ev_asg, ev_ret, ev_retN, ev_ex, ev_pass, ev_brk, ev_cont, ev_ifS, ev_aug, ev_gn, ev_gtp, ev_gnl, ev_gcs, ev_gsb, ev_for, ev_rg1, ev_rg2, ev_its, ev_enum, ev_lc, ev_yes, ev_add_ii, ev_add_ss, ev_add_tt, ev_add_rr, ev_sub, ev_mul, ev_mod, ev_fdiv, ev_pow, ev_neg, ev_lt, ev_le, ev_gt, ev_ge, ev_eq_ii, ev_eq_ss, ev_eq_bb, ev_ne_ii, ev_ne_ss, ev_ne_bb, ev_is_n, ev_isnt_n, ev_int_i, ev_int_b, ev_min_ii, ev_max_ii, ev_abs, ev_tup_of, ev_tup_ofL, ev_lst_ofT, ev_lst_ofL, ev_len_t, ev_len_s, ev_len_r, ev_tru_b, ev_alloc, ev_tupD, ev_lstD, isi_tuple_non, isi_tuple_bl, isi_tuple_int, isi_tuple_str, isi_tuple_tup, isi_tuple_l, isi_tuple_f, isi_list_non, isi_list_bl, isi_list_int, isi_list_str, isi_list_tup, isi_list_l, isi_list_f, isi_bool_non, isi_bool_bl, isi_bool_int, isi_bool_str, isi_bool_tup, isi_bool_l, isi_bool_f, isi_int_non, isi_int_bl, isi_int_int, isi_int_str, isi_int_tup, isi_int_l, isi_int_f, isi_str_non, isi_str_bl, isi_str_int, isi_str_str, isi_str_tup, isi_str_l, isi_str_f, isi_dict_non, isi_dict_bl, isi_dict_int, isi_dict_str, isi_dict_tup, isi_dict_l, isi_dict_f, Ab.isNon, args, List.map, List.length_cons, List.length_nil, List.length_singleton, List.replicate, Nat.reduceSub, Nat.reduceAdd, Nat.zero_add, List.cons_append, List.nil_append, List.getElem?_cons_zero, List.getElem?_cons_succ, List.set_cons_zero, List.set_cons_succ, Option.some.injEq, decide_eq_true_eq, Bool.not_eq_true', decide_eq_false_iff_not, ite_true, ite_false, if_true, if_false, reduceIte, Bool.false_eq_true, Bool.not_true, Bool.not_false, Bool.true_eq_false, decide_true, decide_false, Nat.reduceLeDiff, Nat.reduceLT, ev_lst_ofL (rdL_l hrow)]
    have hB2 := (Gr.app (B := [.lst ((List.range m).map fun j => .int (T k j))])).keep _ _ hB
    refine ⟨hB2, by rw [ha]; simp; omega, (G.trans .app).set (Nat.le_refl _), ?_, at_set (at_lt hB2), by simp [lB]; omega, fun i hi => ?_⟩
    · rw [ha, List.range_succ (n := k), List.map_append, lB]; rfl
    · rw [List.getElem?_set_ne (by omega)]
      by_cases e : i = k
      · subst e
        rw [← lB]; exact at_new
      · exact Gr.app.keep _ _ (hR i (by omega))
  have W : Mt A B A.length (fun i => A.length + 1 + i) m T := ⟨G, by rw [hB, ha], hR, fun i j _ _ e => by have e : A.length + 1 + i = A.length + 1 + j := e; omega, fun i _ => by show A.length + 1 + i ≠ A.length; omega, fun i _ => by show A.length ≤ A.length + 1 + i; omega⟩
  clear ha hB lB hR G
  generalize A.length = q at W rA ⊢
  generalize (fun i => q + 1 + i) = c2 at W
  refine sat_seq ?_
  have lnr : ∀ {C : AH}, Gr A C → lenD [.ref r] C = .ok (.int (m : Nat)) C := fun g => (ev_len_r (rdL_l (g.keep _ _ h.rows))).trans (by simp)
  have pos : ∀ i, i < m → 0 ≤ T i i := fun i hi => by rw [dg i hi]; exact Int.le_refl _
  simp only [sat_ok, sat_bad, sat_bind, sat_ite, bind_ok, bind_bad, thn_nx, thn_rt, thn_bk, thn_ct, fin_rt, fin_nx, ev_v, ev_c, ev_op, ev_un, ev_nil, ev_cons, ev_tup, ev_lst, ev_call, ev_own, ev_sl, ev_no, ev_part, ev_and, ev_or, ev_not, ev_if, ev_t, ev_tb, ev_tnot, ev_tand, ev_tor, ev_mt, ev_mt0, ev_rgd, ev_set, ev_asg, ev_ret, ev_retN, ev_ex, ev_pass, ev_brk, ev_cont, ev_ifS, ev_aug, ev_gn, ev_gtp, ev_gnl, ev_gcs, ev_gsb, ev_for, ev_rg1, ev_rg2, ev_its, ev_enum, ev_lc, ev_yes, ev_add_ii, ev_add_ss, ev_add_tt, ev_add_rr, ev_sub, ev_mul, ev_mod, ev_fdiv, ev_pow, ev_neg, ev_lt, ev_le, ev_gt, ev_ge, ev_eq_ii, ev_eq_ss, ev_eq_bb, ev_ne_ii, ev_ne_ss, ev_ne_bb, ev_is_n, ev_isnt_n, ev_int_i, ev_int_b, ev_min_ii, ev_max_ii, ev_abs, ev_tup_of, ev_tup_ofL, ev_lst_ofT, ev_lst_ofL, ev_len_t, ev_len_s, ev_len_r, ev_tru_b, ev_alloc, ev_tupD, ev_lstD, isi_tuple_non, isi_tuple_bl, isi_tuple_int, isi_tuple_str, isi_tuple_tup, isi_tuple_l, isi_tuple_f, isi_list_non, isi_list_bl, isi_list_int, isi_list_str, isi_list_tup, isi_list_l, isi_list_f, isi_bool_non, isi_bool_bl, isi_bool_int, isi_bool_str, isi_bool_tup, isi_bool_l, isi_bool_f, isi_int_non, isi_int_bl, isi_int_int, isi_int_str, isi_int_tup, isi_int_l, isi_int_f, isi_str_non, isi_str_bl, isi_str_int, isi_str_str, isi_str_tup, isi_str_l, isi_str_f, isi_dict_non, isi_dict_bl, isi_dict_int, isi_dict_str, isi_dict_tup, isi_dict_l, isi_dict_f, Ab.isNon, args, List.map, List.length_cons, List.length_nil, List.length_singleton, List.replicate, Nat.reduceSub, Nat.reduceAdd, Nat.zero_add, List.cons_append, List.nil_append, List.getElem?_cons_zero, List.getElem?_cons_succ, List.set_cons_zero, List.set_cons_succ, Option.some.injEq, decide_eq_true_eq, Bool.not_eq_true', decide_eq_false_iff_not, ite_true, ite_false, if_true, if_false, reduceIte, Bool.false_eq_true, Bool.not_true, Bool.not_false, Bool.true_eq_false, decide_true, decide_false, Nat.reduceLeDiff, Nat.reduceLT, lnr W.gr]
  rw [if_pos (inRg_of (by omega) (by omega)), Int.toNat_natCast]
  refine range_inv (fun k σ C => ∃ R x y z, σ = [some (.ref r), some (.ref q), none, x, y, z] ∧ Mt A C q c2 m R ∧ Rnd m T k R)
    (fun k σ C hk ⟨R, x, y, z, hσ, hC, rn⟩ => ?_) (fun σ C ⟨R, x, y, z, hσ, hC, rn⟩ => ?_) ⟨T, none, none, none, rfl, W, by
      have f := Rnd.first pos
      have e : (fun i j => if i = j then (0 : Int) else T i j) = fun i j => if i = j then 0 else T i j := rfl
      exact ⟨pos, fun p hp i j hi hj => by have := f.sound p hp i j hi hj; by_cases z : i = j
                                           · subst z; rw [dg i hi]; omega
                                           · simpa [z] using this, fun _ _ _ _ _ => Int.le_refl _, dg, fun _ _ _ _ h _ => absurd h (Nat.not_lt_zero _)⟩⟩
  · subst hσ
    have rkk := rn.dg k hk
    have vk : ∀ i, via k R i k = R i k := fun i => by unfold via; split <;> omega
    have kv : ∀ j, via k R k j = R k j := fun j => by unfold via; split <;> omega
    simp only [sat_ok, sat_bad, sat_bind, sat_ite, bind_ok, bind_bad, thn_nx, thn_rt, thn_bk, thn_ct, fin_rt, fin_nx, ev_v, ev_c, ev_op, ev_un, ev_nil, ev_cons, ev_tup, ev_lst, ev_call, ev_own, ev_sl, ev_no, ev_part, ev_and, ev_or, ev_not, ev_if, ev_t, ev_tb, ev_tnot, ev_tand, ev_tor, ev_mt, ev_mt0, ev_rgd, ev_set, ev_asg, ev_ret, ev_retN, ev_ex, ev_pass, ev_brk, ev_cont, ev_ifS, ev_aug, ev_gn, ev_gtp, ev_gnl, ev_gcs, ev_gsb, ev_for, ev_rg1, ev_rg2, ev_its, ev_enum, ev_lc, ev_yes, ev_add_ii, ev_add_ss, ev_add_tt, ev_add_rr, ev_sub, ev_mul, ev_mod, ev_fdiv, ev_pow, ev_neg, ev_lt, ev_le, ev_gt, ev_ge, ev_eq_ii, ev_eq_ss, ev_eq_bb, ev_ne_ii, ev_ne_ss, ev_ne_bb, ev_is_n, ev_isnt_n, ev_int_i, ev_int_b, ev_min_ii, ev_max_ii, ev_abs, ev_tup_of, ev_tup_ofL, ev_lst_ofT, ev_lst_ofL, ev_len_t, ev_len_s, ev_len_r, ev_tru_b, ev_alloc, ev_tupD, ev_lstD, isi_tuple_non, isi_tuple_bl, isi_tuple_int, isi_tuple_str, isi_tuple_tup, isi_tuple_l, isi_tuple_f, isi_list_non, isi_list_bl, isi_list_int, isi_list_str, isi_list_tup, isi_list_l, isi_list_f, isi_bool_non, isi_bool_bl, isi_bool_int, isi_bool_str, isi_bool_tup, isi_bool_l, isi_bool_f, isi_int_non, isi_int_bl, isi_int_int, isi_int_str, isi_int_tup, isi_int_l, isi_int_f, isi_str_non, isi_str_bl, isi_str_int, isi_str_str, isi_str_tup, isi_str_l, isi_str_f, isi_dict_non, isi_dict_bl, isi_dict_int, isi_dict_str, isi_dict_tup, isi_dict_l, isi_dict_f, Ab.isNon, args, List.map, List.length_cons, List.length_nil, List.length_singleton, List.replicate, Nat.reduceSub, Nat.reduceAdd, Nat.zero_add, List.cons_append, List.nil_append, List.getElem?_cons_zero, List.getElem?_cons_succ, List.set_cons_zero, List.set_cons_succ, Option.some.injEq, decide_eq_true_eq, Bool.not_eq_true', decide_eq_false_iff_not, ite_true, ite_false, if_true, if_false, reduceIte, Bool.false_eq_true, Bool.not_true, Bool.not_false, Bool.true_eq_false, decide_true, decide_false, Nat.reduceLeDiff, Nat.reduceLT, lnr hC.gr]
    rw [if_pos (inRg_of (by omega) (by omega)), Int.toNat_natCast]
    refine range_inv (fun i σ C => ∃ y z, σ = [some (.ref r), some (.ref q), none, some (.int (0 + (k : Nat))), y, z] ∧ Mt A C q c2 m (part k i 0 R))
      (fun i σ C hi ⟨y, z, hσ, hC⟩ => ?_) (fun σ C ⟨y, z, hσ, hC⟩ => ?_) ⟨y, z, rfl, hC.ext fun a b _ _ => by unfold part; rw [if_neg (by omega)]⟩
    · subst hσ
      simp only [sat_ok, sat_bad, sat_bind, sat_ite, bind_ok, bind_bad, thn_nx, thn_rt, thn_bk, thn_ct, fin_rt, fin_nx, ev_v, ev_c, ev_op, ev_un, ev_nil, ev_cons, ev_tup, ev_lst, ev_call, ev_own, ev_sl, ev_no, ev_part, ev_and, ev_or, ev_not, ev_if, ev_t, ev_tb, ev_tnot, ev_tand, ev_tor, ev_mt, ev_mt0, ev_rgd, ev_set, ev_asg, ev_ret, ev_retN, ev_ex, ev_pass, ev_brk, ev_cont, ev_ifS, ev_aug, ev_gn, ev_gtp, ev_gnl, ev_gcs, ev_gsb, ev_for, ev_rg1, ev_rg2, ev_its, ev_enum, ev_lc, ev_yes, ev_add_ii, ev_add_ss, ev_add_tt, ev_add_rr, ev_sub, ev_mul, ev_mod, ev_fdiv, ev_pow, ev_neg, ev_lt, ev_le, ev_gt, ev_ge, ev_eq_ii, ev_eq_ss, ev_eq_bb, ev_ne_ii, ev_ne_ss, ev_ne_bb, ev_is_n, ev_isnt_n, ev_int_i, ev_int_b, ev_min_ii, ev_max_ii, ev_abs, ev_tup_of, ev_tup_ofL, ev_lst_ofT, ev_lst_ofL, ev_len_t, ev_len_s, ev_len_r, ev_tru_b, ev_alloc, ev_tupD, ev_lstD, isi_tuple_non, isi_tuple_bl, isi_tuple_int, isi_tuple_str, isi_tuple_tup, isi_tuple_l, isi_tuple_f, isi_list_non, isi_list_bl, isi_list_int, isi_list_str, isi_list_tup, isi_list_l, isi_list_f, isi_bool_non, isi_bool_bl, isi_bool_int, isi_bool_str, isi_bool_tup, isi_bool_l, isi_bool_f, isi_int_non, isi_int_bl, isi_int_int, isi_int_str, isi_int_tup, isi_int_l, isi_int_f, isi_str_non, isi_str_bl, isi_str_int, isi_str_str, isi_str_tup, isi_str_l, isi_str_f, isi_dict_non, isi_dict_bl, isi_dict_int, isi_dict_str, isi_dict_tup, isi_dict_l, isi_dict_f, Ab.isNon, args, List.map, List.length_cons, List.length_nil, List.length_singleton, List.replicate, Nat.reduceSub, Nat.reduceAdd, Nat.zero_add, List.cons_append, List.nil_append, List.getElem?_cons_zero, List.getElem?_cons_succ, List.set_cons_zero, List.set_cons_succ, Option.some.injEq, decide_eq_true_eq, Bool.not_eq_true', decide_eq_false_iff_not, ite_true, ite_false, if_true, if_false, reduceIte, Bool.false_eq_true, Bool.not_true, Bool.not_false, Bool.true_eq_false, decide_true, decide_false, Nat.reduceLeDiff, Nat.reduceLT, lnr hC.gr]
      rw [if_pos (inRg_of (by omega) (by omega)), Int.toNat_natCast]
      refine range_inv (fun j σ C => ∃ z, σ = [some (.ref r), some (.ref q), none, some (.int (0 + (k : Nat))), some (.int (0 + (i : Nat))), z] ∧ Mt A C q c2 m (part k i j R))
        (fun j σ C hj ⟨z, hσ, hC⟩ => ?_) (fun σ C ⟨z, hσ, hC⟩ => ?_) ⟨z, rfl, hC⟩
      · subst hσ
        have p1 : part k i j R i j = R i j := by unfold part; rw [if_neg (by omega)]
        have p2 : part k i j R i k = R i k := by unfold part; split; exact vk i; rfl
        have p3 : part k i j R k j = R k j := by unfold part; split; exact kv j; rfl
        simp only [sat_ok, sat_bad, sat_bind, sat_ite, bind_ok, bind_bad, thn_nx, thn_rt, thn_bk, thn_ct, fin_rt, fin_nx, ev_v, ev_c, ev_op, ev_un, ev_nil, ev_cons, ev_tup, ev_lst, ev_call, ev_own, ev_sl, ev_no, ev_part, ev_and, ev_or, ev_not, ev_if, ev_t, ev_tb, ev_tnot, ev_tand, ev_tor, ev_mt, ev_mt0, ev_rgd, ev_set, ev_asg, ev_ret, ev_retN, ev_ex, ev_pass, ev_brk, ev_cont, ev_ifS, ev_aug, ev_gn, ev_gtp, ev_gnl, ev_gcs, ev_gsb, ev_for, ev_rg1, ev_rg2, ev_its, ev_enum, ev_lc, ev_yes, ev_add_ii, ev_add_ss, ev_add_tt, ev_add_rr, ev_sub, ev_mul, ev_mod, ev_fdiv, ev_pow, ev_neg, ev_lt, ev_le, ev_gt, ev_ge, ev_eq_ii, ev_eq_ss, ev_eq_bb, ev_ne_ii, ev_ne_ss, ev_ne_bb, ev_is_n, ev_isnt_n, ev_int_i, ev_int_b, ev_min_ii, ev_max_ii, ev_abs, ev_tup_of, ev_tup_ofL, ev_lst_ofT, ev_lst_ofL, ev_len_t, ev_len_s, ev_len_r, ev_tru_b, ev_alloc, ev_tupD, ev_lstD, isi_tuple_non, isi_tuple_bl, isi_tuple_int, isi_tuple_str, isi_tuple_tup, isi_tuple_l, isi_tuple_f, isi_list_non, isi_list_bl, isi_list_int, isi_list_str, isi_list_tup, isi_list_l, isi_list_f, isi_bool_non, isi_bool_bl, isi_bool_int, isi_bool_str, isi_bool_tup, isi_bool_l, isi_bool_f, isi_int_non, isi_int_bl, isi_int_int, isi_int_str, isi_int_tup, isi_int_l, isi_int_f, isi_str_non, isi_str_bl, isi_str_int, isi_str_str, isi_str_tup, isi_str_l, isi_str_f, isi_dict_non, isi_dict_bl, isi_dict_int, isi_dict_str, isi_dict_tup, isi_dict_l, isi_dict_f, Ab.isNon, args, List.map, List.length_cons, List.length_nil, List.length_singleton, List.replicate, Nat.reduceSub, Nat.reduceAdd, Nat.zero_add, List.cons_append, List.nil_append, List.getElem?_cons_zero, List.getElem?_cons_succ, List.set_cons_zero, List.set_cons_succ, Option.some.injEq, decide_eq_true_eq, Bool.not_eq_true', decide_eq_false_iff_not, ite_true, ite_false, if_true, if_false, reduceIte, Bool.false_eq_true, Bool.not_true, Bool.not_false, Bool.true_eq_false, decide_true, decide_false, Nat.reduceLeDiff, Nat.reduceLT, Int.zero_add, hC.ix hi, hC.ix hk, hC.ix2 hi hj, hC.ix2 hi hk, hC.ix2 hk hj, hC.st hi hj, turn_]
        refine ⟨_, rfl, (hC.set hi).ext fun a b _ _ => ?_⟩
        rw [p1, p2, p3]
        by_cases e : a = i ∧ b = j
        · obtain ⟨rfl, rfl⟩ := e
          rw [if_pos ⟨rfl, rfl⟩]
          show via k R a b = _
          unfold part
          rw [if_pos (show a < a ∨ (a = a ∧ b < b + 1) by omega)]
        · rw [if_neg e]
          unfold part
          by_cases f : a < i ∨ (a = i ∧ b < j)
          · rw [if_pos f, if_pos (by omega)]
          · rw [if_neg f, if_neg (by omega)]
      · subst hσ
        simp only [turn_]
        refine ⟨_, _, rfl, hC.ext fun a b _ hb => ?_⟩
        unfold part
        by_cases f : a < i ∨ (a = i ∧ b < m)
        · rw [if_pos f, if_pos (by omega)]
        · rw [if_neg f, if_neg (by omega)]
    · subst hσ
      simp only [turn_]
      refine ⟨via k R, _, _, _, rfl, hC.ext fun a b ha _ => ?_, rn.next hk fun i hi => ?_⟩
      · unfold part
        rw [if_pos (by omega)]
      · rcases Int.lt_or_le (via k R i i) 0 with z | z
        · exact (rn.neg hk hi z fe).elim
        · exact z
  · subst hσ
    simp only [sat_ok, sat_bad, sat_bind, sat_ite, bind_ok, bind_bad, thn_nx, thn_rt, thn_bk, thn_ct, fin_rt, fin_nx, ev_v, ev_c, ev_op, ev_un, ev_nil, ev_cons, ev_tup, ev_lst, ev_call, ev_own, ev_sl, ev_no, ev_part, ev_and, ev_or, ev_not, ev_if, ev_t, ev_tb, ev_tnot, ev_tand, ev_tor, ev_mt, ev_mt0, ev_rgd, ev_set, ev_asg, ev_ret, ev_retN, ev_ex, ev_pass, ev_brk, ev_cont, ev_ifS, ev_aug, ev_gn, ev_gtp, ev_gnl, ev_gcs, ev_gsb, ev_for, ev_rg1, ev_rg2, ev_its, ev_enum, ev_lc, ev_yes, ev_add_ii, ev_add_ss, ev_add_tt, ev_add_rr, ev_sub, ev_mul, ev_mod, ev_fdiv, ev_pow, ev_neg, ev_lt, ev_le, ev_gt, ev_ge, ev_eq_ii, ev_eq_ss, ev_eq_bb, ev_ne_ii, ev_ne_ss, ev_ne_bb, ev_is_n, ev_isnt_n, ev_int_i, ev_int_b, ev_min_ii, ev_max_ii, ev_abs, ev_tup_of, ev_tup_ofL, ev_lst_ofT, ev_lst_ofL, ev_len_t, ev_len_s, ev_len_r, ev_tru_b, ev_alloc, ev_tupD, ev_lstD, isi_tuple_non, isi_tuple_bl, isi_tuple_int, isi_tuple_str, isi_tuple_tup, isi_tuple_l, isi_tuple_f, isi_list_non, isi_list_bl, isi_list_int, isi_list_str, isi_list_tup, isi_list_l, isi_list_f, isi_bool_non, isi_bool_bl, isi_bool_int, isi_bool_str, isi_bool_tup, isi_bool_l, isi_bool_f, isi_int_non, isi_int_bl, isi_int_int, isi_int_str, isi_int_tup, isi_int_l, isi_int_f, isi_str_non, isi_str_bl, isi_str_int, isi_str_str, isi_str_tup, isi_str_l, isi_str_f, isi_dict_non, isi_dict_bl, isi_dict_int, isi_dict_str, isi_dict_tup, isi_dict_l, isi_dict_f, Ab.isNon, args, List.map, List.length_cons, List.length_nil, List.length_singleton, List.replicate, Nat.reduceSub, Nat.reduceAdd, Nat.zero_add, List.cons_append, List.nil_append, List.getElem?_cons_zero, List.getElem?_cons_succ, List.set_cons_zero, List.set_cons_succ, Option.some.injEq, decide_eq_true_eq, Bool.not_eq_true', decide_eq_false_iff_not, ite_true, ite_false, if_true, if_false, reduceIte, Bool.false_eq_true, Bool.not_true, Bool.not_false, Bool.true_eq_false, decide_true, decide_false, Nat.reduceLeDiff, Nat.reduceLT, ev_iseq_l hC.rows, wipeA]
    refine comp_pure (fun i => D.ref (c2 i)) (fun i => rowD m (R i)) (fun l => rdL_l (Gr.app.keep _ _ hC.rows)) (fun i hi l => ?_) (by simp; omega) ?_
    · have hi := List.mem_range.mp hi
      simp only [sat_ok, sat_bad, sat_bind, sat_ite, bind_ok, bind_bad, thn_nx, thn_rt, thn_bk, thn_ct, fin_rt, fin_nx, ev_v, ev_c, ev_op, ev_un, ev_nil, ev_cons, ev_tup, ev_lst, ev_call, ev_own, ev_sl, ev_no, ev_part, ev_and, ev_or, ev_not, ev_if, ev_t, ev_tb, ev_tnot, ev_tand, ev_tor, ev_mt, ev_mt0, ev_rgd, ev_set, ev_asg, ev_ret, ev_retN, ev_ex, ev_pass, ev_brk, ev_cont, ev_ifS, ev_aug, ev_gn, ev_gtp, ev_gnl, ev_gcs, ev_gsb, ev_for, ev_rg1, ev_rg2, ev_its, ev_enum, ev_lc, ev_yes, ev_add_ii, ev_add_ss, ev_add_tt, ev_add_rr, ev_sub, ev_mul, ev_mod, ev_fdiv, ev_pow, ev_neg, ev_lt, ev_le, ev_gt, ev_ge, ev_eq_ii, ev_eq_ss, ev_eq_bb, ev_ne_ii, ev_ne_ss, ev_ne_bb, ev_is_n, ev_isnt_n, ev_int_i, ev_int_b, ev_min_ii, ev_max_ii, ev_abs, ev_tup_of, ev_tup_ofL, ev_lst_ofT, ev_lst_ofL, ev_len_t, ev_len_s, ev_len_r, ev_tru_b, ev_alloc, ev_tupD, ev_lstD, isi_tuple_non, isi_tuple_bl, isi_tuple_int, isi_tuple_str, isi_tuple_tup, isi_tuple_l, isi_tuple_f, isi_list_non, isi_list_bl, isi_list_int, isi_list_str, isi_list_tup, isi_list_l, isi_list_f, isi_bool_non, isi_bool_bl, isi_bool_int, isi_bool_str, isi_bool_tup, isi_bool_l, isi_bool_f, isi_int_non, isi_int_bl, isi_int_int, isi_int_str, isi_int_tup, isi_int_l, isi_int_f, isi_str_non, isi_str_bl, isi_str_int, isi_str_str, isi_str_tup, isi_str_l, isi_str_f, isi_dict_non, isi_dict_bl, isi_dict_int, isi_dict_str, isi_dict_tup, isi_dict_l, isi_dict_f, Ab.isNon, args, List.map, List.length_cons, List.length_nil, List.length_singleton, List.replicate, Nat.reduceSub, Nat.reduceAdd, Nat.zero_add, List.cons_append, List.nil_append, List.getElem?_cons_zero, List.getElem?_cons_succ, List.set_cons_zero, List.set_cons_succ, Option.some.injEq, decide_eq_true_eq, Bool.not_eq_true', decide_eq_false_iff_not, ite_true, ite_false, if_true, if_false, reduceIte, Bool.false_eq_true, Bool.not_true, Bool.not_false, Bool.true_eq_false, decide_true, decide_false, Nat.reduceLeDiff, Nat.reduceLT, ev_tup_ofL (rdL_l (Gr.app.keep _ _ (hC.row i hi)))]
      first | trivial | exact ⟨trivial, trivial⟩ | exact ⟨rfl, rfl⟩
    · have at1 := at_new (A := C) (o := .lst ((List.range m).map fun i => rowD m (R i)))
      simp only [sat_ok, sat_bad, sat_bind, sat_ite, bind_ok, bind_bad, thn_nx, thn_rt, thn_bk, thn_ct, fin_rt, fin_nx, ev_v, ev_c, ev_op, ev_un, ev_nil, ev_cons, ev_tup, ev_lst, ev_call, ev_own, ev_sl, ev_no, ev_part, ev_and, ev_or, ev_not, ev_if, ev_t, ev_tb, ev_tnot, ev_tand, ev_tor, ev_mt, ev_mt0, ev_rgd, ev_set, ev_asg, ev_ret, ev_retN, ev_ex, ev_pass, ev_brk, ev_cont, ev_ifS, ev_aug, ev_gn, ev_gtp, ev_gnl, ev_gcs, ev_gsb, ev_for, ev_rg1, ev_rg2, ev_its, ev_enum, ev_lc, ev_yes, ev_add_ii, ev_add_ss, ev_add_tt, ev_add_rr, ev_sub, ev_mul, ev_mod, ev_fdiv, ev_pow, ev_neg, ev_lt, ev_le, ev_gt, ev_ge, ev_eq_ii, ev_eq_ss, ev_eq_bb, ev_ne_ii, ev_ne_ss, ev_ne_bb, ev_is_n, ev_isnt_n, ev_int_i, ev_int_b, ev_min_ii, ev_max_ii, ev_abs, ev_tup_of, ev_tup_ofL, ev_lst_ofT, ev_lst_ofL, ev_len_t, ev_len_s, ev_len_r, ev_tru_b, ev_alloc, ev_tupD, ev_lstD, isi_tuple_non, isi_tuple_bl, isi_tuple_int, isi_tuple_str, isi_tuple_tup, isi_tuple_l, isi_tuple_f, isi_list_non, isi_list_bl, isi_list_int, isi_list_str, isi_list_tup, isi_list_l, isi_list_f, isi_bool_non, isi_bool_bl, isi_bool_int, isi_bool_str, isi_bool_tup, isi_bool_l, isi_bool_f, isi_int_non, isi_int_bl, isi_int_int, isi_int_str, isi_int_tup, isi_int_l, isi_int_f, isi_str_non, isi_str_bl, isi_str_int, isi_str_str, isi_str_tup, isi_str_l, isi_str_f, isi_dict_non, isi_dict_bl, isi_dict_int, isi_dict_str, isi_dict_tup, isi_dict_l, isi_dict_f, Ab.isNon, args, List.map, List.length_cons, List.length_nil, List.length_singleton, List.replicate, Nat.reduceSub, Nat.reduceAdd, Nat.zero_add, List.cons_append, List.nil_append, List.getElem?_cons_zero, List.getElem?_cons_succ, List.set_cons_zero, List.set_cons_succ, Option.some.injEq, decide_eq_true_eq, Bool.not_eq_true', decide_eq_false_iff_not, ite_true, ite_false, if_true, if_false, reduceIte, Bool.false_eq_true, Bool.not_true, Bool.not_false, Bool.true_eq_false, decide_true, decide_false, Nat.reduceLeDiff, Nat.reduceLT, ev_tup_ofL (rdL_l at1)]
      exact ⟨hC.gr.trans .app, R, rfl, rn.last⟩
theorem due_spec {A : AH} {n : Nat} {M : Mx} {pr : List (Int × Int)} {us : List Int} (hn : n ≤ 99) (hp : pr.length = n) (few : us.length ≤ 1000) (m0 : ∀ i, i < n + 1 → M i i = 0)
    (fe : ∃ p, Feas (n + 1) (tbl us (fst0 pr) (snd0 pr) M) p) :
    Sat (m__law_due [matD (n + 1) M, .tup (pr.map prD), .tup (us.map D.int)] A) fun d A' => Gr A A' ∧ ∃ R, d = matD (n + 1) R ∧ ClOf (n + 1) (tbl us (fst0 pr) (snd0 pr) M) R := by
  refine sat_body rfl (sat_seq ?_)
  have i1 : ∀ {k : Nat} A, k < n + 1 → ixD (matD (n + 1) M) (.int (k : Nat)) A = .ok (rowD (n + 1) (M k)) A := fun A h => ix_mat h
  have i2 : ∀ {k l : Nat} A, l < n + 1 → ixD (rowD (n + 1) (M k)) (.int (l : Nat)) A = .ok (.int (M k l)) A := fun A h => ix_row h
  generalize matD (n + 1) M = dM at *
  simp only [sat_ok, sat_bad, sat_bind, sat_ite, bind_ok, bind_bad, thn_nx, thn_rt, thn_bk, thn_ct, fin_rt, fin_nx, ev_v, ev_c, ev_op, ev_un, ev_nil, ev_cons, ev_tup, ev_lst, ev_call, ev_own, ev_sl, ev_no, ev_part, ev_and, ev_or, ev_not, ev_if, ev_t, ev_tb, ev_tnot, ev_tand, ev_tor, ev_mt, ev_mt0, ev_rgd, ev_set, ev_asg, ev_ret, ev_retN, ev_ex, ev_pass, ev_brk, ev_cont, ev_ifS, ev_aug, ev_gn, ev_gtp, ev_gnl, ev_gcs, ev_gsb, ev_for, ev_rg1, ev_rg2, ev_its, ev_enum, ev_lc, ev_yes, ev_add_ii, ev_add_ss, ev_add_tt, ev_add_rr, ev_sub, ev_mul, ev_mod, ev_fdiv, ev_pow, ev_neg, ev_lt, ev_le, ev_gt, ev_ge, ev_eq_ii, ev_eq_ss, ev_eq_bb, ev_ne_ii, ev_ne_ss, ev_ne_bb, ev_is_n, ev_isnt_n, ev_int_i, ev_int_b, ev_min_ii, ev_max_ii, ev_abs, ev_tup_of, ev_tup_ofL, ev_lst_ofT, ev_lst_ofL, ev_len_t, ev_len_s, ev_len_r, ev_tru_b, ev_alloc, ev_tupD, ev_lstD, isi_tuple_non, isi_tuple_bl, isi_tuple_int, isi_tuple_str, isi_tuple_tup, isi_tuple_l, isi_tuple_f, isi_list_non, isi_list_bl, isi_list_int, isi_list_str, isi_list_tup, isi_list_l, isi_list_f, isi_bool_non, isi_bool_bl, isi_bool_int, isi_bool_str, isi_bool_tup, isi_bool_l, isi_bool_f, isi_int_non, isi_int_bl, isi_int_int, isi_int_str, isi_int_tup, isi_int_l, isi_int_f, isi_str_non, isi_str_bl, isi_str_int, isi_str_str, isi_str_tup, isi_str_l, isi_str_f, isi_dict_non, isi_dict_bl, isi_dict_int, isi_dict_str, isi_dict_tup, isi_dict_l, isi_dict_f, Ab.isNon, args, List.map, List.length_cons, List.length_nil, List.length_singleton, List.replicate, Nat.reduceSub, Nat.reduceAdd, Nat.zero_add, List.cons_append, List.nil_append, List.getElem?_cons_zero, List.getElem?_cons_succ, List.set_cons_zero, List.set_cons_succ, Option.some.injEq, decide_eq_true_eq, Bool.not_eq_true', decide_eq_false_iff_not, ite_true, ite_false, if_true, if_false, reduceIte, Bool.false_eq_true, Bool.not_true, Bool.not_false, Bool.true_eq_false, decide_true, decide_false, Nat.reduceLeDiff, Nat.reduceLT]
  refine Sat.imp (widest_spec hn hp) fun d B ⟨r, c, e, rA, h⟩ => ?_
  subst e
  refine sat_seq ?_
  simp only [sat_ok, sat_bad, sat_bind, sat_ite, bind_ok, bind_bad, thn_nx, thn_rt, thn_bk, thn_ct, fin_rt, fin_nx, ev_v, ev_c, ev_op, ev_un, ev_nil, ev_cons, ev_tup, ev_lst, ev_call, ev_own, ev_sl, ev_no, ev_part, ev_and, ev_or, ev_not, ev_if, ev_t, ev_tb, ev_tnot, ev_tand, ev_tor, ev_mt, ev_mt0, ev_rgd, ev_set, ev_asg, ev_ret, ev_retN, ev_ex, ev_pass, ev_brk, ev_cont, ev_ifS, ev_aug, ev_gn, ev_gtp, ev_gnl, ev_gcs, ev_gsb, ev_for, ev_rg1, ev_rg2, ev_its, ev_enum, ev_lc, ev_yes, ev_add_ii, ev_add_ss, ev_add_tt, ev_add_rr, ev_sub, ev_mul, ev_mod, ev_fdiv, ev_pow, ev_neg, ev_lt, ev_le, ev_gt, ev_ge, ev_eq_ii, ev_eq_ss, ev_eq_bb, ev_ne_ii, ev_ne_ss, ev_ne_bb, ev_is_n, ev_isnt_n, ev_int_i, ev_int_b, ev_min_ii, ev_max_ii, ev_abs, ev_tup_of, ev_tup_ofL, ev_lst_ofT, ev_lst_ofL, ev_len_t, ev_len_s, ev_len_r, ev_tru_b, ev_alloc, ev_tupD, ev_lstD, isi_tuple_non, isi_tuple_bl, isi_tuple_int, isi_tuple_str, isi_tuple_tup, isi_tuple_l, isi_tuple_f, isi_list_non, isi_list_bl, isi_list_int, isi_list_str, isi_list_tup, isi_list_l, isi_list_f, isi_bool_non, isi_bool_bl, isi_bool_int, isi_bool_str, isi_bool_tup, isi_bool_l, isi_bool_f, isi_int_non, isi_int_bl, isi_int_int, isi_int_str, isi_int_tup, isi_int_l, isi_int_f, isi_str_non, isi_str_bl, isi_str_int, isi_str_str, isi_str_tup, isi_str_l, isi_str_f, isi_dict_non, isi_dict_bl, isi_dict_int, isi_dict_str, isi_dict_tup, isi_dict_l, isi_dict_f, Ab.isNon, args, List.map, List.length_cons, List.length_nil, List.length_singleton, List.replicate, Nat.reduceSub, Nat.reduceAdd, Nat.zero_add, List.cons_append, List.nil_append, List.getElem?_cons_zero, List.getElem?_cons_succ, List.set_cons_zero, List.set_cons_succ, Option.some.injEq, decide_eq_true_eq, Bool.not_eq_true', decide_eq_false_iff_not, ite_true, ite_false, if_true, if_false, reduceIte, Bool.false_eq_true, Bool.not_true, Bool.not_false, Bool.true_eq_false, decide_true, decide_false, Nat.reduceLeDiff, Nat.reduceLT, h.len]
  rw [if_pos (inRg_of (by omega) (by omega)), Int.toNat_natCast]
  refine Sat.imp (P := fun fl C => ∃ x y z w, fl = .nx [some dM, some (.tup (pr.map prD)), some (.tup (us.map D.int)), some (.ref r), x, y, z, w] ∧ Mt A C r c (n + 1) (tbl us (fst0 pr) (snd0 pr) M)) ?_ fun fl C ⟨x, y, z, w, e, hC⟩ => ?_
  · refine range_inv (fun i σ C => ∃ x y z w, σ = [some dM, some (.tup (pr.map prD)), some (.tup (us.map D.int)), some (.ref r), x, y, z, w] ∧ Mt A C r c (n + 1) (fun a b => if a < i then tbl us (fst0 pr) (snd0 pr) M a b else rbx (fst0 pr) (snd0 pr) a b))
      (fun i σ C hi ⟨x, y, z, w, hσ, hC⟩ => ?_) (fun σ C ⟨x, y, z, w, hσ, hC⟩ => ⟨x, y, z, w, by rw [hσ], hC.ext fun a b ha _ => by rw [if_pos ha]⟩) ⟨none, none, none, none, rfl, h.ext fun a b _ _ => by rw [if_neg (Nat.not_lt_zero _)]⟩
    subst hσ
    simp only [sat_ok, sat_bad, sat_bind, sat_ite, bind_ok, bind_bad, thn_nx, thn_rt, thn_bk, thn_ct, fin_rt, fin_nx, ev_v, ev_c, ev_op, ev_un, ev_nil, ev_cons, ev_tup, ev_lst, ev_call, ev_own, ev_sl, ev_no, ev_part, ev_and, ev_or, ev_not, ev_if, ev_t, ev_tb, ev_tnot, ev_tand, ev_tor, ev_mt, ev_mt0, ev_rgd, ev_set, ev_asg, ev_ret, ev_retN, ev_ex, ev_pass, ev_brk, ev_cont, ev_ifS, ev_aug, ev_gn, ev_gtp, ev_gnl, ev_gcs, ev_gsb, ev_for, ev_rg1, ev_rg2, ev_its, ev_enum, ev_lc, ev_yes, ev_add_ii, ev_add_ss, ev_add_tt, ev_add_rr, ev_sub, ev_mul, ev_mod, ev_fdiv, ev_pow, ev_neg, ev_lt, ev_le, ev_gt, ev_ge, ev_eq_ii, ev_eq_ss, ev_eq_bb, ev_ne_ii, ev_ne_ss, ev_ne_bb, ev_is_n, ev_isnt_n, ev_int_i, ev_int_b, ev_min_ii, ev_max_ii, ev_abs, ev_tup_of, ev_tup_ofL, ev_lst_ofT, ev_lst_ofL, ev_len_t, ev_len_s, ev_len_r, ev_tru_b, ev_alloc, ev_tupD, ev_lstD, isi_tuple_non, isi_tuple_bl, isi_tuple_int, isi_tuple_str, isi_tuple_tup, isi_tuple_l, isi_tuple_f, isi_list_non, isi_list_bl, isi_list_int, isi_list_str, isi_list_tup, isi_list_l, isi_list_f, isi_bool_non, isi_bool_bl, isi_bool_int, isi_bool_str, isi_bool_tup, isi_bool_l, isi_bool_f, isi_int_non, isi_int_bl, isi_int_int, isi_int_str, isi_int_tup, isi_int_l, isi_int_f, isi_str_non, isi_str_bl, isi_str_int, isi_str_str, isi_str_tup, isi_str_l, isi_str_f, isi_dict_non, isi_dict_bl, isi_dict_int, isi_dict_str, isi_dict_tup, isi_dict_l, isi_dict_f, Ab.isNon, args, List.map, List.length_cons, List.length_nil, List.length_singleton, List.replicate, Nat.reduceSub, Nat.reduceAdd, Nat.zero_add, List.cons_append, List.nil_append, List.getElem?_cons_zero, List.getElem?_cons_succ, List.set_cons_zero, List.set_cons_succ, Option.some.injEq, decide_eq_true_eq, Bool.not_eq_true', decide_eq_false_iff_not, ite_true, ite_false, if_true, if_false, reduceIte, Bool.false_eq_true, Bool.not_true, Bool.not_false, Bool.true_eq_false, decide_true, decide_false, Nat.reduceLeDiff, Nat.reduceLT, hC.len]
    rw [if_pos (inRg_of (by omega) (by omega)), Int.toNat_natCast]
    refine range_inv (fun j σ C => ∃ y z w, σ = [some dM, some (.tup (pr.map prD)), some (.tup (us.map D.int)), some (.ref r), some (.int (0 + (i : Nat))), y, z, w] ∧ Mt A C r c (n + 1) (fun a b => if a < i ∨ (a = i ∧ b < j) then tbl us (fst0 pr) (snd0 pr) M a b else rbx (fst0 pr) (snd0 pr) a b))
      (fun j σ C hj ⟨y, z, w, hσ, hC⟩ => ?_) (fun σ C ⟨y, z, w, hσ, hC⟩ => ?_) ⟨y, z, w, rfl, hC.ext fun a b _ _ => by
        by_cases f : a < i
        · rw [if_pos f, if_pos (by omega)]
        · rw [if_neg f, if_neg (by omega)]⟩
    · subst hσ
      obtain ⟨T0, hT⟩ : ∃ T0 : Mx, T0 = fun a b => if a < i ∨ (a = i ∧ b < j) then tbl us (fst0 pr) (snd0 pr) M a b else rbx (fst0 pr) (snd0 pr) a b := ⟨_, rfl⟩
      rw [← hT] at hC
      have t0 : T0 i j = rbx (fst0 pr) (snd0 pr) i j := by rw [hT]; exact if_neg (by omega)
      simp only [sat_ok, sat_bad, sat_bind, sat_ite, bind_ok, bind_bad, thn_nx, thn_rt, thn_bk, thn_ct, fin_rt, fin_nx, ev_v, ev_c, ev_op, ev_un, ev_nil, ev_cons, ev_tup, ev_lst, ev_call, ev_own, ev_sl, ev_no, ev_part, ev_and, ev_or, ev_not, ev_if, ev_t, ev_tb, ev_tnot, ev_tand, ev_tor, ev_mt, ev_mt0, ev_rgd, ev_set, ev_asg, ev_ret, ev_retN, ev_ex, ev_pass, ev_brk, ev_cont, ev_ifS, ev_aug, ev_gn, ev_gtp, ev_gnl, ev_gcs, ev_gsb, ev_for, ev_rg1, ev_rg2, ev_its, ev_enum, ev_lc, ev_yes, ev_add_ii, ev_add_ss, ev_add_tt, ev_add_rr, ev_sub, ev_mul, ev_mod, ev_fdiv, ev_pow, ev_neg, ev_lt, ev_le, ev_gt, ev_ge, ev_eq_ii, ev_eq_ss, ev_eq_bb, ev_ne_ii, ev_ne_ss, ev_ne_bb, ev_is_n, ev_isnt_n, ev_int_i, ev_int_b, ev_min_ii, ev_max_ii, ev_abs, ev_tup_of, ev_tup_ofL, ev_lst_ofT, ev_lst_ofL, ev_len_t, ev_len_s, ev_len_r, ev_tru_b, ev_alloc, ev_tupD, ev_lstD, isi_tuple_non, isi_tuple_bl, isi_tuple_int, isi_tuple_str, isi_tuple_tup, isi_tuple_l, isi_tuple_f, isi_list_non, isi_list_bl, isi_list_int, isi_list_str, isi_list_tup, isi_list_l, isi_list_f, isi_bool_non, isi_bool_bl, isi_bool_int, isi_bool_str, isi_bool_tup, isi_bool_l, isi_bool_f, isi_int_non, isi_int_bl, isi_int_int, isi_int_str, isi_int_tup, isi_int_l, isi_int_f, isi_str_non, isi_str_bl, isi_str_int, isi_str_str, isi_str_tup, isi_str_l, isi_str_f, isi_dict_non, isi_dict_bl, isi_dict_int, isi_dict_str, isi_dict_tup, isi_dict_l, isi_dict_f, Ab.isNon, args, List.map, List.length_cons, List.length_nil, List.length_singleton, List.replicate, Nat.reduceSub, Nat.reduceAdd, Nat.zero_add, List.cons_append, List.nil_append, List.getElem?_cons_zero, List.getElem?_cons_succ, List.set_cons_zero, List.set_cons_succ, Option.some.injEq, decide_eq_true_eq, Bool.not_eq_true', decide_eq_false_iff_not, ite_true, ite_false, if_true, if_false, reduceIte, Bool.false_eq_true, Bool.not_true, Bool.not_false, Bool.true_eq_false, decide_true, decide_false, Nat.reduceLeDiff, Nat.reduceLT, Int.zero_add]
      split
      · rename_i e
        have e : i ≠ j := fun z => e (by rw [z])
        refine sat_seq ?_
        simp only [sat_ok, sat_bad, sat_bind, sat_ite, bind_ok, bind_bad, thn_nx, thn_rt, thn_bk, thn_ct, fin_rt, fin_nx, ev_v, ev_c, ev_op, ev_un, ev_nil, ev_cons, ev_tup, ev_lst, ev_call, ev_own, ev_sl, ev_no, ev_part, ev_and, ev_or, ev_not, ev_if, ev_t, ev_tb, ev_tnot, ev_tand, ev_tor, ev_mt, ev_mt0, ev_rgd, ev_set, ev_asg, ev_ret, ev_retN, ev_ex, ev_pass, ev_brk, ev_cont, ev_ifS, ev_aug, ev_gn, ev_gtp, ev_gnl, ev_gcs, ev_gsb, ev_for, ev_rg1, ev_rg2, ev_its, ev_enum, ev_lc, ev_yes, ev_add_ii, ev_add_ss, ev_add_tt, ev_add_rr, ev_sub, ev_mul, ev_mod, ev_fdiv, ev_pow, ev_neg, ev_lt, ev_le, ev_gt, ev_ge, ev_eq_ii, ev_eq_ss, ev_eq_bb, ev_ne_ii, ev_ne_ss, ev_ne_bb, ev_is_n, ev_isnt_n, ev_int_i, ev_int_b, ev_min_ii, ev_max_ii, ev_abs, ev_tup_of, ev_tup_ofL, ev_lst_ofT, ev_lst_ofL, ev_len_t, ev_len_s, ev_len_r, ev_tru_b, ev_alloc, ev_tupD, ev_lstD, isi_tuple_non, isi_tuple_bl, isi_tuple_int, isi_tuple_str, isi_tuple_tup, isi_tuple_l, isi_tuple_f, isi_list_non, isi_list_bl, isi_list_int, isi_list_str, isi_list_tup, isi_list_l, isi_list_f, isi_bool_non, isi_bool_bl, isi_bool_int, isi_bool_str, isi_bool_tup, isi_bool_l, isi_bool_f, isi_int_non, isi_int_bl, isi_int_int, isi_int_str, isi_int_tup, isi_int_l, isi_int_f, isi_str_non, isi_str_bl, isi_str_int, isi_str_str, isi_str_tup, isi_str_l, isi_str_f, isi_dict_non, isi_dict_bl, isi_dict_int, isi_dict_str, isi_dict_tup, isi_dict_l, isi_dict_f, Ab.isNon, args, List.map, List.length_cons, List.length_nil, List.length_singleton, List.replicate, Nat.reduceSub, Nat.reduceAdd, Nat.zero_add, List.cons_append, List.nil_append, List.getElem?_cons_zero, List.getElem?_cons_succ, List.set_cons_zero, List.set_cons_succ, Option.some.injEq, decide_eq_true_eq, Bool.not_eq_true', decide_eq_false_iff_not, ite_true, ite_false, if_true, if_false, reduceIte, Bool.false_eq_true, Bool.not_true, Bool.not_false, Bool.true_eq_false, decide_true, decide_false, Nat.reduceLeDiff, Nat.reduceLT, ev_iseq_t, wipeA]
        refine comp_filter D.int D.int (fun u => decide (M i j ≤ u)) (fun _ => trivial) (fun u hu l => ?_) (by omega) ?_
        · simp only [sat_ok, sat_bad, sat_bind, sat_ite, bind_ok, bind_bad, thn_nx, thn_rt, thn_bk, thn_ct, fin_rt, fin_nx, ev_v, ev_c, ev_op, ev_un, ev_nil, ev_cons, ev_tup, ev_lst, ev_call, ev_own, ev_sl, ev_no, ev_part, ev_and, ev_or, ev_not, ev_if, ev_t, ev_tb, ev_tnot, ev_tand, ev_tor, ev_mt, ev_mt0, ev_rgd, ev_set, ev_asg, ev_ret, ev_retN, ev_ex, ev_pass, ev_brk, ev_cont, ev_ifS, ev_aug, ev_gn, ev_gtp, ev_gnl, ev_gcs, ev_gsb, ev_for, ev_rg1, ev_rg2, ev_its, ev_enum, ev_lc, ev_yes, ev_add_ii, ev_add_ss, ev_add_tt, ev_add_rr, ev_sub, ev_mul, ev_mod, ev_fdiv, ev_pow, ev_neg, ev_lt, ev_le, ev_gt, ev_ge, ev_eq_ii, ev_eq_ss, ev_eq_bb, ev_ne_ii, ev_ne_ss, ev_ne_bb, ev_is_n, ev_isnt_n, ev_int_i, ev_int_b, ev_min_ii, ev_max_ii, ev_abs, ev_tup_of, ev_tup_ofL, ev_lst_ofT, ev_lst_ofL, ev_len_t, ev_len_s, ev_len_r, ev_tru_b, ev_alloc, ev_tupD, ev_lstD, isi_tuple_non, isi_tuple_bl, isi_tuple_int, isi_tuple_str, isi_tuple_tup, isi_tuple_l, isi_tuple_f, isi_list_non, isi_list_bl, isi_list_int, isi_list_str, isi_list_tup, isi_list_l, isi_list_f, isi_bool_non, isi_bool_bl, isi_bool_int, isi_bool_str, isi_bool_tup, isi_bool_l, isi_bool_f, isi_int_non, isi_int_bl, isi_int_int, isi_int_str, isi_int_tup, isi_int_l, isi_int_f, isi_str_non, isi_str_bl, isi_str_int, isi_str_str, isi_str_tup, isi_str_l, isi_str_f, isi_dict_non, isi_dict_bl, isi_dict_int, isi_dict_str, isi_dict_tup, isi_dict_l, isi_dict_f, Ab.isNon, args, List.map, List.length_cons, List.length_nil, List.length_singleton, List.replicate, Nat.reduceSub, Nat.reduceAdd, Nat.zero_add, List.cons_append, List.nil_append, List.getElem?_cons_zero, List.getElem?_cons_succ, List.set_cons_zero, List.set_cons_succ, Option.some.injEq, decide_eq_true_eq, Bool.not_eq_true', decide_eq_false_iff_not, ite_true, ite_false, if_true, if_false, reduceIte, Bool.false_eq_true, Bool.not_true, Bool.not_false, Bool.true_eq_false, decide_true, decide_false, Nat.reduceLeDiff, Nat.reduceLT, i1 _ hi, i2 _ hj]
          first | trivial | exact ⟨trivial, trivial, trivial, trivial⟩ | exact ⟨trivial, trivial, trivial⟩ | exact ⟨trivial, trivial⟩
        have l1 := at_new (A := C) (o := .lst ((us.filter fun u => decide (M i j ≤ u)).map D.int))
        have fl : (us.filter fun u => decide (M i j ≤ u)).length ≤ us.length := List.length_filter_le ..
        have hC1 := hC.to (Gr.app (B := [.lst ((us.filter fun u => decide (M i j ≤ u)).map D.int)]))
        generalize C ++ [.lst ((us.filter fun u => decide (M i j ≤ u)).map D.int)] = C1 at *
        generalize C.length = q at *
        simp only [sat_ok, sat_bad, sat_bind, sat_ite, bind_ok, bind_bad, thn_nx, thn_rt, thn_bk, thn_ct, fin_rt, fin_nx, ev_v, ev_c, ev_op, ev_un, ev_nil, ev_cons, ev_tup, ev_lst, ev_call, ev_own, ev_sl, ev_no, ev_part, ev_and, ev_or, ev_not, ev_if, ev_t, ev_tb, ev_tnot, ev_tand, ev_tor, ev_mt, ev_mt0, ev_rgd, ev_set, ev_asg, ev_ret, ev_retN, ev_ex, ev_pass, ev_brk, ev_cont, ev_ifS, ev_aug, ev_gn, ev_gtp, ev_gnl, ev_gcs, ev_gsb, ev_for, ev_rg1, ev_rg2, ev_its, ev_enum, ev_lc, ev_yes, ev_add_ii, ev_add_ss, ev_add_tt, ev_add_rr, ev_sub, ev_mul, ev_mod, ev_fdiv, ev_pow, ev_neg, ev_lt, ev_le, ev_gt, ev_ge, ev_eq_ii, ev_eq_ss, ev_eq_bb, ev_ne_ii, ev_ne_ss, ev_ne_bb, ev_is_n, ev_isnt_n, ev_int_i, ev_int_b, ev_min_ii, ev_max_ii, ev_abs, ev_tup_of, ev_tup_ofL, ev_lst_ofT, ev_lst_ofL, ev_len_t, ev_len_s, ev_len_r, ev_tru_b, ev_alloc, ev_tupD, ev_lstD, isi_tuple_non, isi_tuple_bl, isi_tuple_int, isi_tuple_str, isi_tuple_tup, isi_tuple_l, isi_tuple_f, isi_list_non, isi_list_bl, isi_list_int, isi_list_str, isi_list_tup, isi_list_l, isi_list_f, isi_bool_non, isi_bool_bl, isi_bool_int, isi_bool_str, isi_bool_tup, isi_bool_l, isi_bool_f, isi_int_non, isi_int_bl, isi_int_int, isi_int_str, isi_int_tup, isi_int_l, isi_int_f, isi_str_non, isi_str_bl, isi_str_int, isi_str_str, isi_str_tup, isi_str_l, isi_str_f, isi_dict_non, isi_dict_bl, isi_dict_int, isi_dict_str, isi_dict_tup, isi_dict_l, isi_dict_f, Ab.isNon, args, List.map, List.length_cons, List.length_nil, List.length_singleton, List.replicate, Nat.reduceSub, Nat.reduceAdd, Nat.zero_add, List.cons_append, List.nil_append, List.getElem?_cons_zero, List.getElem?_cons_succ, List.set_cons_zero, List.set_cons_succ, Option.some.injEq, decide_eq_true_eq, Bool.not_eq_true', decide_eq_false_iff_not, ite_true, ite_false, if_true, if_false, reduceIte, Bool.false_eq_true, Bool.not_true, Bool.not_false, Bool.true_eq_false, decide_true, decide_false, Nat.reduceLeDiff, Nat.reduceLT, hC1.ix hi, hC1.ix2 hi hj, t0]
        have l2 := at_new (A := C1) (o := .lst [.int (rbx (fst0 pr) (snd0 pr) i j)])
        have l1 := (Gr.app (B := [.lst [.int (rbx (fst0 pr) (snd0 pr) i j)]])).keep _ _ l1
        have hC2 := hC1.to (Gr.app (B := [.lst [.int (rbx (fst0 pr) (snd0 pr) i j)]]))
        have zz : ((us.filter fun u => decide (M i j ≤ u)).map D.int).length + [D.int (rbx (fst0 pr) (snd0 pr) i j)].length ≤ sizeLine := sl_le (by simp; omega)
        rw [ev_add_rr (muL_l l1) (muL_l l2) zz]
        have l3 := at_new (A := C1 ++ [AO.lst [.int (rbx (fst0 pr) (snd0 pr) i j)]]) (o := .lst ((us.filter fun u => decide (M i j ≤ u)).map D.int ++ [D.int (rbx (fst0 pr) (snd0 pr) i j)]))
        have hC3 := hC2.to (Gr.app (B := [.lst ((us.filter fun u => decide (M i j ≤ u)).map D.int ++ [D.int (rbx (fst0 pr) (snd0 pr) i j)])]))
        have em : (us.filter fun u => decide (M i j ≤ u)).map D.int ++ [D.int (rbx (fst0 pr) (snd0 pr) i j)] = ((us.filter fun u => decide (M i j ≤ u)) ++ [rbx (fst0 pr) (snd0 pr) i j]).map D.int := by rw [List.map_append]; rfl
        rw [em] at l3 hC3
        rw [em]
        generalize (C1 ++ [AO.lst [.int (rbx (fst0 pr) (snd0 pr) i j)]]).length = q2 at *
        generalize C1 ++ [AO.lst [.int (rbx (fst0 pr) (snd0 pr) i j)]] ++ [AO.lst (((us.filter fun u => decide (M i j ≤ u)) ++ [rbx (fst0 pr) (snd0 pr) i j]).map D.int)] = C3 at *
        have hmin := ev_min_l l3 (by simp)
        simp only [sat_ok, sat_bad, sat_bind, sat_ite, bind_ok, bind_bad, thn_nx, thn_rt, thn_bk, thn_ct, fin_rt, fin_nx, ev_v, ev_c, ev_op, ev_un, ev_nil, ev_cons, ev_tup, ev_lst, ev_call, ev_own, ev_sl, ev_no, ev_part, ev_and, ev_or, ev_not, ev_if, ev_t, ev_tb, ev_tnot, ev_tand, ev_tor, ev_mt, ev_mt0, ev_rgd, ev_set, ev_asg, ev_ret, ev_retN, ev_ex, ev_pass, ev_brk, ev_cont, ev_ifS, ev_aug, ev_gn, ev_gtp, ev_gnl, ev_gcs, ev_gsb, ev_for, ev_rg1, ev_rg2, ev_its, ev_enum, ev_lc, ev_yes, ev_add_ii, ev_add_ss, ev_add_tt, ev_add_rr, ev_sub, ev_mul, ev_mod, ev_fdiv, ev_pow, ev_neg, ev_lt, ev_le, ev_gt, ev_ge, ev_eq_ii, ev_eq_ss, ev_eq_bb, ev_ne_ii, ev_ne_ss, ev_ne_bb, ev_is_n, ev_isnt_n, ev_int_i, ev_int_b, ev_min_ii, ev_max_ii, ev_abs, ev_tup_of, ev_tup_ofL, ev_lst_ofT, ev_lst_ofL, ev_len_t, ev_len_s, ev_len_r, ev_tru_b, ev_alloc, ev_tupD, ev_lstD, isi_tuple_non, isi_tuple_bl, isi_tuple_int, isi_tuple_str, isi_tuple_tup, isi_tuple_l, isi_tuple_f, isi_list_non, isi_list_bl, isi_list_int, isi_list_str, isi_list_tup, isi_list_l, isi_list_f, isi_bool_non, isi_bool_bl, isi_bool_int, isi_bool_str, isi_bool_tup, isi_bool_l, isi_bool_f, isi_int_non, isi_int_bl, isi_int_int, isi_int_str, isi_int_tup, isi_int_l, isi_int_f, isi_str_non, isi_str_bl, isi_str_int, isi_str_str, isi_str_tup, isi_str_l, isi_str_f, isi_dict_non, isi_dict_bl, isi_dict_int, isi_dict_str, isi_dict_tup, isi_dict_l, isi_dict_f, Ab.isNon, args, List.map, List.length_cons, List.length_nil, List.length_singleton, List.replicate, Nat.reduceSub, Nat.reduceAdd, Nat.zero_add, List.cons_append, List.nil_append, List.getElem?_cons_zero, List.getElem?_cons_succ, List.set_cons_zero, List.set_cons_succ, Option.some.injEq, decide_eq_true_eq, Bool.not_eq_true', decide_eq_false_iff_not, ite_true, ite_false, if_true, if_false, reduceIte, Bool.false_eq_true, Bool.not_true, Bool.not_false, Bool.true_eq_false, decide_true, decide_false, Nat.reduceLeDiff, Nat.reduceLT, hmin, hC3.ix hi, hC3.st hi hj, turn_]
        refine ⟨_, _, _, rfl, (hC3.set hi).ext fun a b _ _ => ?_⟩
        rw [hT]
        show (if a = i ∧ b = j then _ else if a < i ∨ (a = i ∧ b < j) then tbl us (fst0 pr) (snd0 pr) M a b else rbx (fst0 pr) (snd0 pr) a b) = if a < i ∨ (a = i ∧ b < j + 1) then tbl us (fst0 pr) (snd0 pr) M a b else rbx (fst0 pr) (snd0 pr) a b
        by_cases f : a = i ∧ b = j
        · obtain ⟨rfl, rfl⟩ := f
          rw [if_pos ⟨rfl, rfl⟩, if_pos (show a < a ∨ (a = a ∧ b < b + 1) by omega)]
          unfold tbl rup rbx
          rw [if_neg e, if_neg (fun z => e z.symm)]
        · rw [if_neg f]
          by_cases f2 : a < i ∨ (a = i ∧ b < j)
          · rw [if_pos f2, if_pos (by omega)]
          · rw [if_neg f2, if_neg (by omega)]
      · rename_i e
        have e : i = j := by omega
        simp only [sat_ok, sat_bad, sat_bind, sat_ite, bind_ok, bind_bad, thn_nx, thn_rt, thn_bk, thn_ct, fin_rt, fin_nx, ev_v, ev_c, ev_op, ev_un, ev_nil, ev_cons, ev_tup, ev_lst, ev_call, ev_own, ev_sl, ev_no, ev_part, ev_and, ev_or, ev_not, ev_if, ev_t, ev_tb, ev_tnot, ev_tand, ev_tor, ev_mt, ev_mt0, ev_rgd, ev_set, ev_asg, ev_ret, ev_retN, ev_ex, ev_pass, ev_brk, ev_cont, ev_ifS, ev_aug, ev_gn, ev_gtp, ev_gnl, ev_gcs, ev_gsb, ev_for, ev_rg1, ev_rg2, ev_its, ev_enum, ev_lc, ev_yes, ev_add_ii, ev_add_ss, ev_add_tt, ev_add_rr, ev_sub, ev_mul, ev_mod, ev_fdiv, ev_pow, ev_neg, ev_lt, ev_le, ev_gt, ev_ge, ev_eq_ii, ev_eq_ss, ev_eq_bb, ev_ne_ii, ev_ne_ss, ev_ne_bb, ev_is_n, ev_isnt_n, ev_int_i, ev_int_b, ev_min_ii, ev_max_ii, ev_abs, ev_tup_of, ev_tup_ofL, ev_lst_ofT, ev_lst_ofL, ev_len_t, ev_len_s, ev_len_r, ev_tru_b, ev_alloc, ev_tupD, ev_lstD, isi_tuple_non, isi_tuple_bl, isi_tuple_int, isi_tuple_str, isi_tuple_tup, isi_tuple_l, isi_tuple_f, isi_list_non, isi_list_bl, isi_list_int, isi_list_str, isi_list_tup, isi_list_l, isi_list_f, isi_bool_non, isi_bool_bl, isi_bool_int, isi_bool_str, isi_bool_tup, isi_bool_l, isi_bool_f, isi_int_non, isi_int_bl, isi_int_int, isi_int_str, isi_int_tup, isi_int_l, isi_int_f, isi_str_non, isi_str_bl, isi_str_int, isi_str_str, isi_str_tup, isi_str_l, isi_str_f, isi_dict_non, isi_dict_bl, isi_dict_int, isi_dict_str, isi_dict_tup, isi_dict_l, isi_dict_f, Ab.isNon, args, List.map, List.length_cons, List.length_nil, List.length_singleton, List.replicate, Nat.reduceSub, Nat.reduceAdd, Nat.zero_add, List.cons_append, List.nil_append, List.getElem?_cons_zero, List.getElem?_cons_succ, List.set_cons_zero, List.set_cons_succ, Option.some.injEq, decide_eq_true_eq, Bool.not_eq_true', decide_eq_false_iff_not, ite_true, ite_false, if_true, if_false, reduceIte, Bool.false_eq_true, Bool.not_true, Bool.not_false, Bool.true_eq_false, decide_true, decide_false, Nat.reduceLeDiff, Nat.reduceLT, turn_]
        refine ⟨_, _, _, rfl, hC.ext fun a b _ _ => ?_⟩
        rw [hT]
        show (if a < i ∨ (a = i ∧ b < j) then tbl us (fst0 pr) (snd0 pr) M a b else rbx (fst0 pr) (snd0 pr) a b) = if a < i ∨ (a = i ∧ b < j + 1) then tbl us (fst0 pr) (snd0 pr) M a b else rbx (fst0 pr) (snd0 pr) a b
        by_cases f2 : a < i ∨ (a = i ∧ b < j)
        · rw [if_pos f2, if_pos (by omega)]
        · rw [if_neg f2]
          by_cases f3 : a < i ∨ (a = i ∧ b < j + 1)
          · rw [if_pos f3]
            have ea : a = i := by omega
            have eb : b = i := by omega
            subst ea; subst eb
            unfold tbl rbx
            rw [if_pos rfl, if_pos rfl, m0 _ hi]
          · rw [if_neg f3]
    · subst hσ
      simp only [turn_]
      refine ⟨_, _, _, _, rfl, hC.ext fun a b _ hb => ?_⟩
      by_cases f : a < i ∨ (a = i ∧ b < n + 1)
      · rw [if_pos f, if_pos (by omega)]
      · rw [if_neg f, if_neg (by omega)]
  · subst e
    simp only [sat_ok, sat_bad, sat_bind, sat_ite, bind_ok, bind_bad, thn_nx, thn_rt, thn_bk, thn_ct, fin_rt, fin_nx, ev_v, ev_c, ev_op, ev_un, ev_nil, ev_cons, ev_tup, ev_lst, ev_call, ev_own, ev_sl, ev_no, ev_part, ev_and, ev_or, ev_not, ev_if, ev_t, ev_tb, ev_tnot, ev_tand, ev_tor, ev_mt, ev_mt0, ev_rgd, ev_set, ev_asg, ev_ret, ev_retN, ev_ex, ev_pass, ev_brk, ev_cont, ev_ifS, ev_aug, ev_gn, ev_gtp, ev_gnl, ev_gcs, ev_gsb, ev_for, ev_rg1, ev_rg2, ev_its, ev_enum, ev_lc, ev_yes, ev_add_ii, ev_add_ss, ev_add_tt, ev_add_rr, ev_sub, ev_mul, ev_mod, ev_fdiv, ev_pow, ev_neg, ev_lt, ev_le, ev_gt, ev_ge, ev_eq_ii, ev_eq_ss, ev_eq_bb, ev_ne_ii, ev_ne_ss, ev_ne_bb, ev_is_n, ev_isnt_n, ev_int_i, ev_int_b, ev_min_ii, ev_max_ii, ev_abs, ev_tup_of, ev_tup_ofL, ev_lst_ofT, ev_lst_ofL, ev_len_t, ev_len_s, ev_len_r, ev_tru_b, ev_alloc, ev_tupD, ev_lstD, isi_tuple_non, isi_tuple_bl, isi_tuple_int, isi_tuple_str, isi_tuple_tup, isi_tuple_l, isi_tuple_f, isi_list_non, isi_list_bl, isi_list_int, isi_list_str, isi_list_tup, isi_list_l, isi_list_f, isi_bool_non, isi_bool_bl, isi_bool_int, isi_bool_str, isi_bool_tup, isi_bool_l, isi_bool_f, isi_int_non, isi_int_bl, isi_int_int, isi_int_str, isi_int_tup, isi_int_l, isi_int_f, isi_str_non, isi_str_bl, isi_str_int, isi_str_str, isi_str_tup, isi_str_l, isi_str_f, isi_dict_non, isi_dict_bl, isi_dict_int, isi_dict_str, isi_dict_tup, isi_dict_l, isi_dict_f, Ab.isNon, args, List.map, List.length_cons, List.length_nil, List.length_singleton, List.replicate, Nat.reduceSub, Nat.reduceAdd, Nat.zero_add, List.cons_append, List.nil_append, List.getElem?_cons_zero, List.getElem?_cons_succ, List.set_cons_zero, List.set_cons_succ, Option.some.injEq, decide_eq_true_eq, Bool.not_eq_true', decide_eq_false_iff_not, ite_true, ite_false, if_true, if_false, reduceIte, Bool.false_eq_true, Bool.not_true, Bool.not_false, Bool.true_eq_false, decide_true, decide_false, Nat.reduceLeDiff, Nat.reduceLT]
    refine Sat.imp (lclosed_spec hC (by omega) (fun i hi => by unfold tbl; rw [if_pos rfl, m0 i hi]) fe) fun d C2 ⟨G2, R, e, cl⟩ => ?_
    exact ⟨hC.gr.trans G2, R, e, cl⟩
/-! ### marks -/
theorem ev_srtset {A : AH} {r : Nat} {ns : List Int} (h : A[r]? = some (.lst (ns.map D.int))) (few : ns.length < 64) : srtSetD (.ref r) A = .ok (.ref A.length) (A ++ [.lst ((uqI ns).map D.int)]) := by
  have e : ∀ xs : List Int, intsOf (xs.map D.int) = some xs := by
    intro xs
    induction xs with
    | nil => rfl
    | cons x xs ih => show (match intsOf (xs.map D.int) with | some is => some (x :: is) | none => none) = _; rw [ih]
  unfold srtSetD
  rw [rdL_l h]
  simp only [e]
  rw [if_pos few]; rfl
theorem ne_tup {A : AH} {pr : List (Int × Int)} : ∃ b, neD (.tup (pr.map prD)) (.tup []) A = .ok (.bl b) A ∧ (b = true → pr ≠ []) := by
  have pdp : ∀ pr : List (Int × Int), ∃ qs, pdL (pr.map prD) = some qs ∧ PyData.canLayAll0 qs = true ∧ PyData.depthAll qs ≤ 1 ∧ PyData.eqvAll qs [] = decide (pr = []) := by
    intro pr
    induction pr with
    | nil => exact ⟨[], rfl, rfl, by decide, rfl⟩
    | cons p pr ih =>
      obtain ⟨qs, h1, h2, h3, h4⟩ := ih
      refine ⟨.tuple [.int p.1, .int p.2] :: qs, ?_, ?_, ?_, ?_⟩
      · simp only [List.map_cons, pdL, pd, prD, h1]
      · simp [PyData.canLayAll0, PyData.canLay0, h2]
      · simp [PyData.depthAll, PyData.depth]; omega
      · rfl
  obtain ⟨qs, h1, h2, h3, h4⟩ := pdp pr
  have e1 : pd1 A (.tup (pr.map prD)) = some (.tuple qs) := by simp only [pd1, pd, h1]
  have e2 : pd1 A (.tup []) = some (.tuple []) := by simp only [pd1, pd, pdL]
  have s1 : SeqAt.shaped (.tuple qs) = true := by simp [SeqAt.shaped, PyData.canLay0, PyData.depth, h2]; omega
  have s2 : SeqAt.shaped (.tuple []) = true := by simp [SeqAt.shaped, PyData.canLay0, PyData.depth, PyData.canLayAll0, PyData.depthAll]
  refine ⟨!decide (pr = []), ?_, fun h e => by rw [e] at h; exact absurd h (by decide)⟩
  show okB ((match pd1 A (.tup (pr.map prD)), pd1 A (.tup []) with
    | some p, some q => if (SeqAt.shaped p && SeqAt.shaped q) = true then some (PyData.eqv p q) else none
    | _, _ => none).map (!·)) A = _
  rw [e1, e2]
  simp only [s1, s2, Bool.and_self, if_true]
  show Res.ok (D.bl (!(PyData.eqvAll qs []))) A = _
  rw [h4]
theorem marks_spec {A : AH} {s q n : Nat} {pr : List (Int × Int)} {M0 M1 : Mx} (hs : Sr s A) (qs : q ≠ s) (hn : n ≤ 20) (hp : pr.length = n) (hq : A[q]? = some (.lst [matD (n + 1) M0, matD (n + 1) M1])) :
    DrwS s A (m__law_marks [.ref s, .tup (pr.map prD), .ref q] A) fun d => ∃ us : List Int, d = .tup (us.map D.int) ∧ us.Pairwise (· < ·) ∧ us.length ≤ 1000 := by
  have sl := hs.lt
  refine sat_body rfl (sat_seq ?_)
  simp only [sat_ok, sat_bad, sat_bind, sat_ite, bind_ok, bind_bad, thn_nx, thn_rt, thn_bk, thn_ct, fin_rt, fin_nx, ev_v, ev_c, ev_op, ev_un, ev_nil, ev_cons, ev_tup, ev_lst, ev_call, ev_own, ev_sl, ev_no, ev_part, ev_and, ev_or, ev_not, ev_if, ev_t, ev_tb, ev_tnot, ev_tand, ev_tor, ev_mt, ev_mt0, ev_rgd, ev_set, ev_asg, ev_ret, ev_retN, ev_ex, ev_pass, ev_brk, ev_cont, ev_ifS, ev_aug, ev_gn, ev_gtp, ev_gnl, ev_gcs, ev_gsb, ev_for, ev_rg1, ev_rg2, ev_its, ev_enum, ev_lc, ev_yes, ev_add_ii, ev_add_ss, ev_add_tt, ev_add_rr, ev_sub, ev_mul, ev_mod, ev_fdiv, ev_pow, ev_neg, ev_lt, ev_le, ev_gt, ev_ge, ev_eq_ii, ev_eq_ss, ev_eq_bb, ev_ne_ii, ev_ne_ss, ev_ne_bb, ev_is_n, ev_isnt_n, ev_int_i, ev_int_b, ev_min_ii, ev_max_ii, ev_abs, ev_tup_of, ev_tup_ofL, ev_lst_ofT, ev_lst_ofL, ev_len_t, ev_len_s, ev_len_r, ev_tru_b, ev_alloc, ev_tupD, ev_lstD, isi_tuple_non, isi_tuple_bl, isi_tuple_int, isi_tuple_str, isi_tuple_tup, isi_tuple_l, isi_tuple_f, isi_list_non, isi_list_bl, isi_list_int, isi_list_str, isi_list_tup, isi_list_l, isi_list_f, isi_bool_non, isi_bool_bl, isi_bool_int, isi_bool_str, isi_bool_tup, isi_bool_l, isi_bool_f, isi_int_non, isi_int_bl, isi_int_int, isi_int_str, isi_int_tup, isi_int_l, isi_int_f, isi_str_non, isi_str_bl, isi_str_int, isi_str_str, isi_str_tup, isi_str_l, isi_str_f, isi_dict_non, isi_dict_bl, isi_dict_int, isi_dict_str, isi_dict_tup, isi_dict_l, isi_dict_f, Ab.isNon, args, List.map, List.length_cons, List.length_nil, List.length_singleton, List.replicate, Nat.reduceSub, Nat.reduceAdd, Nat.zero_add, List.cons_append, List.nil_append, List.getElem?_cons_zero, List.getElem?_cons_succ, List.set_cons_zero, List.set_cons_succ, Option.some.injEq, decide_eq_true_eq, Bool.not_eq_true', decide_eq_false_iff_not, ite_true, ite_false, if_true, if_false, reduceIte, Bool.false_eq_true, Bool.not_true, Bool.not_false, Bool.true_eq_false, decide_true, decide_false, Nat.reduceLeDiff, Nat.reduceLT]
  refine sat_seq ?_
  have h1 := at_new (A := A) (o := .lst [])
  have D1 := Dr.app hs [AO.lst []]
  have ql := at_lt hq
  have hq1 := (Gr.app (B := [AO.lst []])).keep _ _ hq
  generalize A ++ [AO.lst []] = A1 at *
  refine Sat.imp (P := fun fl B => ∃ (r : Nat) (ns : List Int), fl = .nx [some (.ref s), some (.tup (pr.map prD)), some (.ref q), some (.ref r), none, none, none] ∧ Dr s A B ∧ A.length ≤ r ∧ B[q]? = some (.lst [matD (n + 1) M0, matD (n + 1) M1]) ∧ B[r]? = some (.lst (ns.map D.int)) ∧ ns.length ≤ 3) ?_ fun fl B ⟨r, ns, e, DB, lr, hq, hr, nl⟩ => ?_
  · simp only [sat_ok, sat_bad, sat_bind, sat_ite, bind_ok, bind_bad, thn_nx, thn_rt, thn_bk, thn_ct, fin_rt, fin_nx, ev_v, ev_c, ev_op, ev_un, ev_nil, ev_cons, ev_tup, ev_lst, ev_call, ev_own, ev_sl, ev_no, ev_part, ev_and, ev_or, ev_not, ev_if, ev_t, ev_tb, ev_tnot, ev_tand, ev_tor, ev_mt, ev_mt0, ev_rgd, ev_set, ev_asg, ev_ret, ev_retN, ev_ex, ev_pass, ev_brk, ev_cont, ev_ifS, ev_aug, ev_gn, ev_gtp, ev_gnl, ev_gcs, ev_gsb, ev_for, ev_rg1, ev_rg2, ev_its, ev_enum, ev_lc, ev_yes, ev_add_ii, ev_add_ss, ev_add_tt, ev_add_rr, ev_sub, ev_mul, ev_mod, ev_fdiv, ev_pow, ev_neg, ev_lt, ev_le, ev_gt, ev_ge, ev_eq_ii, ev_eq_ss, ev_eq_bb, ev_ne_ii, ev_ne_ss, ev_ne_bb, ev_is_n, ev_isnt_n, ev_int_i, ev_int_b, ev_min_ii, ev_max_ii, ev_abs, ev_tup_of, ev_tup_ofL, ev_lst_ofT, ev_lst_ofL, ev_len_t, ev_len_s, ev_len_r, ev_tru_b, ev_alloc, ev_tupD, ev_lstD, isi_tuple_non, isi_tuple_bl, isi_tuple_int, isi_tuple_str, isi_tuple_tup, isi_tuple_l, isi_tuple_f, isi_list_non, isi_list_bl, isi_list_int, isi_list_str, isi_list_tup, isi_list_l, isi_list_f, isi_bool_non, isi_bool_bl, isi_bool_int, isi_bool_str, isi_bool_tup, isi_bool_l, isi_bool_f, isi_int_non, isi_int_bl, isi_int_int, isi_int_str, isi_int_tup, isi_int_l, isi_int_f, isi_str_non, isi_str_bl, isi_str_int, isi_str_str, isi_str_tup, isi_str_l, isi_str_f, isi_dict_non, isi_dict_bl, isi_dict_int, isi_dict_str, isi_dict_tup, isi_dict_l, isi_dict_f, Ab.isNon, args, List.map, List.length_cons, List.length_nil, List.length_singleton, List.replicate, Nat.reduceSub, Nat.reduceAdd, Nat.zero_add, List.cons_append, List.nil_append, List.getElem?_cons_zero, List.getElem?_cons_succ, List.set_cons_zero, List.set_cons_succ, Option.some.injEq, decide_eq_true_eq, Bool.not_eq_true', decide_eq_false_iff_not, ite_true, ite_false, if_true, if_false, reduceIte, Bool.false_eq_true, Bool.not_true, Bool.not_false, Bool.true_eq_false, decide_true, decide_false, Nat.reduceLeDiff, Nat.reduceLT]
    refine Sat.imp (pick_pos D1.src (n := 2) (by decide) (by decide)) fun d A2 ⟨⟨v, e, _, _⟩, dr⟩ => ?_
    subst e
    have h1 := dr.keep _ _ (by omega) h1
    have hq1 := dr.keep _ _ qs hq1
    have D2 := D1.trans dr
    simp only [sat_ok, sat_bad, sat_bind, sat_ite, bind_ok, bind_bad, thn_nx, thn_rt, thn_bk, thn_ct, fin_rt, fin_nx, ev_v, ev_c, ev_op, ev_un, ev_nil, ev_cons, ev_tup, ev_lst, ev_call, ev_own, ev_sl, ev_no, ev_part, ev_and, ev_or, ev_not, ev_if, ev_t, ev_tb, ev_tnot, ev_tand, ev_tor, ev_mt, ev_mt0, ev_rgd, ev_set, ev_asg, ev_ret, ev_retN, ev_ex, ev_pass, ev_brk, ev_cont, ev_ifS, ev_aug, ev_gn, ev_gtp, ev_gnl, ev_gcs, ev_gsb, ev_for, ev_rg1, ev_rg2, ev_its, ev_enum, ev_lc, ev_yes, ev_add_ii, ev_add_ss, ev_add_tt, ev_add_rr, ev_sub, ev_mul, ev_mod, ev_fdiv, ev_pow, ev_neg, ev_lt, ev_le, ev_gt, ev_ge, ev_eq_ii, ev_eq_ss, ev_eq_bb, ev_ne_ii, ev_ne_ss, ev_ne_bb, ev_is_n, ev_isnt_n, ev_int_i, ev_int_b, ev_min_ii, ev_max_ii, ev_abs, ev_tup_of, ev_tup_ofL, ev_lst_ofT, ev_lst_ofL, ev_len_t, ev_len_s, ev_len_r, ev_tru_b, ev_alloc, ev_tupD, ev_lstD, isi_tuple_non, isi_tuple_bl, isi_tuple_int, isi_tuple_str, isi_tuple_tup, isi_tuple_l, isi_tuple_f, isi_list_non, isi_list_bl, isi_list_int, isi_list_str, isi_list_tup, isi_list_l, isi_list_f, isi_bool_non, isi_bool_bl, isi_bool_int, isi_bool_str, isi_bool_tup, isi_bool_l, isi_bool_f, isi_int_non, isi_int_bl, isi_int_int, isi_int_str, isi_int_tup, isi_int_l, isi_int_f, isi_str_non, isi_str_bl, isi_str_int, isi_str_str, isi_str_tup, isi_str_l, isi_str_f, isi_dict_non, isi_dict_bl, isi_dict_int, isi_dict_str, isi_dict_tup, isi_dict_l, isi_dict_f, Ab.isNon, args, List.map, List.length_cons, List.length_nil, List.length_singleton, List.replicate, Nat.reduceSub, Nat.reduceAdd, Nat.zero_add, List.cons_append, List.nil_append, List.getElem?_cons_zero, List.getElem?_cons_succ, List.set_cons_zero, List.set_cons_succ, Option.some.injEq, decide_eq_true_eq, Bool.not_eq_true', decide_eq_false_iff_not, ite_true, ite_false, if_true, if_false, reduceIte, Bool.false_eq_true, Bool.not_true, Bool.not_false, Bool.true_eq_false, decide_true, decide_false, Nat.reduceLeDiff, Nat.reduceLT]
    split
    · skip
      refine ⟨A2.length, [-1, 0, 1], by first | trivial | rfl, D2.trans (Dr.app D2.src _), D2.le, (Gr.app).keep _ _ hq1, at_new, by simp⟩
    · exact ⟨A.length, [], by first | trivial | rfl, D2, Nat.le_refl _, hq1, h1, by simp⟩
  subst e
  refine sat_seq ?_
  simp only [sat_ok, sat_bad, sat_bind, sat_ite, bind_ok, bind_bad, thn_nx, thn_rt, thn_bk, thn_ct, fin_rt, fin_nx, ev_v, ev_c, ev_op, ev_un, ev_nil, ev_cons, ev_tup, ev_lst, ev_call, ev_own, ev_sl, ev_no, ev_part, ev_and, ev_or, ev_not, ev_if, ev_t, ev_tb, ev_tnot, ev_tand, ev_tor, ev_mt, ev_mt0, ev_rgd, ev_set, ev_asg, ev_ret, ev_retN, ev_ex, ev_pass, ev_brk, ev_cont, ev_ifS, ev_aug, ev_gn, ev_gtp, ev_gnl, ev_gcs, ev_gsb, ev_for, ev_rg1, ev_rg2, ev_its, ev_enum, ev_lc, ev_yes, ev_add_ii, ev_add_ss, ev_add_tt, ev_add_rr, ev_sub, ev_mul, ev_mod, ev_fdiv, ev_pow, ev_neg, ev_lt, ev_le, ev_gt, ev_ge, ev_eq_ii, ev_eq_ss, ev_eq_bb, ev_ne_ii, ev_ne_ss, ev_ne_bb, ev_is_n, ev_isnt_n, ev_int_i, ev_int_b, ev_min_ii, ev_max_ii, ev_abs, ev_tup_of, ev_tup_ofL, ev_lst_ofT, ev_lst_ofL, ev_len_t, ev_len_s, ev_len_r, ev_tru_b, ev_alloc, ev_tupD, ev_lstD, isi_tuple_non, isi_tuple_bl, isi_tuple_int, isi_tuple_str, isi_tuple_tup, isi_tuple_l, isi_tuple_f, isi_list_non, isi_list_bl, isi_list_int, isi_list_str, isi_list_tup, isi_list_l, isi_list_f, isi_bool_non, isi_bool_bl, isi_bool_int, isi_bool_str, isi_bool_tup, isi_bool_l, isi_bool_f, isi_int_non, isi_int_bl, isi_int_int, isi_int_str, isi_int_tup, isi_int_l, isi_int_f, isi_str_non, isi_str_bl, isi_str_int, isi_str_str, isi_str_tup, isi_str_l, isi_str_f, isi_dict_non, isi_dict_bl, isi_dict_int, isi_dict_str, isi_dict_tup, isi_dict_l, isi_dict_f, Ab.isNon, args, List.map, List.length_cons, List.length_nil, List.length_singleton, List.replicate, Nat.reduceSub, Nat.reduceAdd, Nat.zero_add, List.cons_append, List.nil_append, List.getElem?_cons_zero, List.getElem?_cons_succ, List.set_cons_zero, List.set_cons_succ, Option.some.injEq, decide_eq_true_eq, Bool.not_eq_true', decide_eq_false_iff_not, ite_true, ite_false, if_true, if_false, reduceIte, Bool.false_eq_true, Bool.not_true, Bool.not_false, Bool.true_eq_false, decide_true, decide_false, Nat.reduceLeDiff, Nat.reduceLT]
  refine Sat.imp (pick_pos DB.src (n := 10) (by decide) (by decide)) fun d B1 ⟨⟨k, e, k0, k1⟩, dr⟩ => ?_
  subst e
  have hr := dr.keep _ _ (by omega) hr
  have hq := dr.keep _ _ qs hq
  have DB := DB.trans dr
  obtain ⟨k, rfl⟩ : ∃ k' : Nat, k = (k' : Nat) := ⟨k.toNat, by omega⟩
  simp only [sat_ok, sat_bad, sat_bind, sat_ite, bind_ok, bind_bad, thn_nx, thn_rt, thn_bk, thn_ct, fin_rt, fin_nx, ev_v, ev_c, ev_op, ev_un, ev_nil, ev_cons, ev_tup, ev_lst, ev_call, ev_own, ev_sl, ev_no, ev_part, ev_and, ev_or, ev_not, ev_if, ev_t, ev_tb, ev_tnot, ev_tand, ev_tor, ev_mt, ev_mt0, ev_rgd, ev_set, ev_asg, ev_ret, ev_retN, ev_ex, ev_pass, ev_brk, ev_cont, ev_ifS, ev_aug, ev_gn, ev_gtp, ev_gnl, ev_gcs, ev_gsb, ev_for, ev_rg1, ev_rg2, ev_its, ev_enum, ev_lc, ev_yes, ev_add_ii, ev_add_ss, ev_add_tt, ev_add_rr, ev_sub, ev_mul, ev_mod, ev_fdiv, ev_pow, ev_neg, ev_lt, ev_le, ev_gt, ev_ge, ev_eq_ii, ev_eq_ss, ev_eq_bb, ev_ne_ii, ev_ne_ss, ev_ne_bb, ev_is_n, ev_isnt_n, ev_int_i, ev_int_b, ev_min_ii, ev_max_ii, ev_abs, ev_tup_of, ev_tup_ofL, ev_lst_ofT, ev_lst_ofL, ev_len_t, ev_len_s, ev_len_r, ev_tru_b, ev_alloc, ev_tupD, ev_lstD, isi_tuple_non, isi_tuple_bl, isi_tuple_int, isi_tuple_str, isi_tuple_tup, isi_tuple_l, isi_tuple_f, isi_list_non, isi_list_bl, isi_list_int, isi_list_str, isi_list_tup, isi_list_l, isi_list_f, isi_bool_non, isi_bool_bl, isi_bool_int, isi_bool_str, isi_bool_tup, isi_bool_l, isi_bool_f, isi_int_non, isi_int_bl, isi_int_int, isi_int_str, isi_int_tup, isi_int_l, isi_int_f, isi_str_non, isi_str_bl, isi_str_int, isi_str_str, isi_str_tup, isi_str_l, isi_str_f, isi_dict_non, isi_dict_bl, isi_dict_int, isi_dict_str, isi_dict_tup, isi_dict_l, isi_dict_f, Ab.isNon, args, List.map, List.length_cons, List.length_nil, List.length_singleton, List.replicate, Nat.reduceSub, Nat.reduceAdd, Nat.zero_add, List.cons_append, List.nil_append, List.getElem?_cons_zero, List.getElem?_cons_succ, List.set_cons_zero, List.set_cons_succ, Option.some.injEq, decide_eq_true_eq, Bool.not_eq_true', decide_eq_false_iff_not, ite_true, ite_false, if_true, if_false, reduceIte, Bool.false_eq_true, Bool.not_true, Bool.not_false, Bool.true_eq_false, decide_true, decide_false, Nat.reduceLeDiff, Nat.reduceLT]
  rw [if_pos (inRg_of (by omega) (by omega)), Int.toNat_natCast]
  refine range_inv (fun t σ C => Dr s A C ∧ C[q]? = some (.lst [matD (n + 1) M0, matD (n + 1) M1]) ∧ (∃ ns : List Int, C[r]? = some (.lst (ns.map D.int)) ∧ ns.length ≤ 3 + t) ∧ ∃ x y z, σ = [some (.ref s), some (.tup (pr.map prD)), some (.ref q), some (.ref r), x, y, z])
    (fun t σ C ht ⟨DC, hq, ⟨ns, hr, nl⟩, x, y, z, hσ⟩ => ?_) (fun σ C ⟨DC, hq, ⟨ns, hr, nl⟩, x, y, z, hσ⟩ => ?_) ⟨DB, hq, ⟨ns, hr, by omega⟩, none, none, none, rfl⟩
  · subst hσ
    simp only [sat_ok, sat_bad, sat_bind, sat_ite, bind_ok, bind_bad, thn_nx, thn_rt, thn_bk, thn_ct, fin_rt, fin_nx, ev_v, ev_c, ev_op, ev_un, ev_nil, ev_cons, ev_tup, ev_lst, ev_call, ev_own, ev_sl, ev_no, ev_part, ev_and, ev_or, ev_not, ev_if, ev_t, ev_tb, ev_tnot, ev_tand, ev_tor, ev_mt, ev_mt0, ev_rgd, ev_set, ev_asg, ev_ret, ev_retN, ev_ex, ev_pass, ev_brk, ev_cont, ev_ifS, ev_aug, ev_gn, ev_gtp, ev_gnl, ev_gcs, ev_gsb, ev_for, ev_rg1, ev_rg2, ev_its, ev_enum, ev_lc, ev_yes, ev_add_ii, ev_add_ss, ev_add_tt, ev_add_rr, ev_sub, ev_mul, ev_mod, ev_fdiv, ev_pow, ev_neg, ev_lt, ev_le, ev_gt, ev_ge, ev_eq_ii, ev_eq_ss, ev_eq_bb, ev_ne_ii, ev_ne_ss, ev_ne_bb, ev_is_n, ev_isnt_n, ev_int_i, ev_int_b, ev_min_ii, ev_max_ii, ev_abs, ev_tup_of, ev_tup_ofL, ev_lst_ofT, ev_lst_ofL, ev_len_t, ev_len_s, ev_len_r, ev_tru_b, ev_alloc, ev_tupD, ev_lstD, isi_tuple_non, isi_tuple_bl, isi_tuple_int, isi_tuple_str, isi_tuple_tup, isi_tuple_l, isi_tuple_f, isi_list_non, isi_list_bl, isi_list_int, isi_list_str, isi_list_tup, isi_list_l, isi_list_f, isi_bool_non, isi_bool_bl, isi_bool_int, isi_bool_str, isi_bool_tup, isi_bool_l, isi_bool_f, isi_int_non, isi_int_bl, isi_int_int, isi_int_str, isi_int_tup, isi_int_l, isi_int_f, isi_str_non, isi_str_bl, isi_str_int, isi_str_str, isi_str_tup, isi_str_l, isi_str_f, isi_dict_non, isi_dict_bl, isi_dict_int, isi_dict_str, isi_dict_tup, isi_dict_l, isi_dict_f, Ab.isNon, args, List.map, List.length_cons, List.length_nil, List.length_singleton, List.replicate, Nat.reduceSub, Nat.reduceAdd, Nat.zero_add, List.cons_append, List.nil_append, List.getElem?_cons_zero, List.getElem?_cons_succ, List.set_cons_zero, List.set_cons_succ, Option.some.injEq, decide_eq_true_eq, Bool.not_eq_true', decide_eq_false_iff_not, ite_true, ite_false, if_true, if_false, reduceIte, Bool.false_eq_true, Bool.not_true, Bool.not_false, Bool.true_eq_false, decide_true, decide_false, Nat.reduceLeDiff, Nat.reduceLT]
    refine sat_seq ?_
    simp only [sat_ok, sat_bad, sat_bind, sat_ite, bind_ok, bind_bad, thn_nx, thn_rt, thn_bk, thn_ct, fin_rt, fin_nx, ev_v, ev_c, ev_op, ev_un, ev_nil, ev_cons, ev_tup, ev_lst, ev_call, ev_own, ev_sl, ev_no, ev_part, ev_and, ev_or, ev_not, ev_if, ev_t, ev_tb, ev_tnot, ev_tand, ev_tor, ev_mt, ev_mt0, ev_rgd, ev_set, ev_asg, ev_ret, ev_retN, ev_ex, ev_pass, ev_brk, ev_cont, ev_ifS, ev_aug, ev_gn, ev_gtp, ev_gnl, ev_gcs, ev_gsb, ev_for, ev_rg1, ev_rg2, ev_its, ev_enum, ev_lc, ev_yes, ev_add_ii, ev_add_ss, ev_add_tt, ev_add_rr, ev_sub, ev_mul, ev_mod, ev_fdiv, ev_pow, ev_neg, ev_lt, ev_le, ev_gt, ev_ge, ev_eq_ii, ev_eq_ss, ev_eq_bb, ev_ne_ii, ev_ne_ss, ev_ne_bb, ev_is_n, ev_isnt_n, ev_int_i, ev_int_b, ev_min_ii, ev_max_ii, ev_abs, ev_tup_of, ev_tup_ofL, ev_lst_ofT, ev_lst_ofL, ev_len_t, ev_len_s, ev_len_r, ev_tru_b, ev_alloc, ev_tupD, ev_lstD, isi_tuple_non, isi_tuple_bl, isi_tuple_int, isi_tuple_str, isi_tuple_tup, isi_tuple_l, isi_tuple_f, isi_list_non, isi_list_bl, isi_list_int, isi_list_str, isi_list_tup, isi_list_l, isi_list_f, isi_bool_non, isi_bool_bl, isi_bool_int, isi_bool_str, isi_bool_tup, isi_bool_l, isi_bool_f, isi_int_non, isi_int_bl, isi_int_int, isi_int_str, isi_int_tup, isi_int_l, isi_int_f, isi_str_non, isi_str_bl, isi_str_int, isi_str_str, isi_str_tup, isi_str_l, isi_str_f, isi_dict_non, isi_dict_bl, isi_dict_int, isi_dict_str, isi_dict_tup, isi_dict_l, isi_dict_f, Ab.isNon, args, List.map, List.length_cons, List.length_nil, List.length_singleton, List.replicate, Nat.reduceSub, Nat.reduceAdd, Nat.zero_add, List.cons_append, List.nil_append, List.getElem?_cons_zero, List.getElem?_cons_succ, List.set_cons_zero, List.set_cons_succ, Option.some.injEq, decide_eq_true_eq, Bool.not_eq_true', decide_eq_false_iff_not, ite_true, ite_false, if_true, if_false, reduceIte, Bool.false_eq_true, Bool.not_true, Bool.not_false, Bool.true_eq_false, decide_true, decide_false, Nat.reduceLeDiff, Nat.reduceLT]
    refine Sat.imp (pick_pos DC.src (n := 6) (by decide) (by decide)) fun d C1 ⟨⟨ch, e, _, _⟩, dr⟩ => ?_
    subst e
    have hr := dr.keep _ _ (by omega) hr
    have hq := dr.keep _ _ qs hq
    have DC := DC.trans dr
    refine sat_seq ?_
    simp only [sat_ok, sat_bad, sat_bind, sat_ite, bind_ok, bind_bad, thn_nx, thn_rt, thn_bk, thn_ct, fin_rt, fin_nx, ev_v, ev_c, ev_op, ev_un, ev_nil, ev_cons, ev_tup, ev_lst, ev_call, ev_own, ev_sl, ev_no, ev_part, ev_and, ev_or, ev_not, ev_if, ev_t, ev_tb, ev_tnot, ev_tand, ev_tor, ev_mt, ev_mt0, ev_rgd, ev_set, ev_asg, ev_ret, ev_retN, ev_ex, ev_pass, ev_brk, ev_cont, ev_ifS, ev_aug, ev_gn, ev_gtp, ev_gnl, ev_gcs, ev_gsb, ev_for, ev_rg1, ev_rg2, ev_its, ev_enum, ev_lc, ev_yes, ev_add_ii, ev_add_ss, ev_add_tt, ev_add_rr, ev_sub, ev_mul, ev_mod, ev_fdiv, ev_pow, ev_neg, ev_lt, ev_le, ev_gt, ev_ge, ev_eq_ii, ev_eq_ss, ev_eq_bb, ev_ne_ii, ev_ne_ss, ev_ne_bb, ev_is_n, ev_isnt_n, ev_int_i, ev_int_b, ev_min_ii, ev_max_ii, ev_abs, ev_tup_of, ev_tup_ofL, ev_lst_ofT, ev_lst_ofL, ev_len_t, ev_len_s, ev_len_r, ev_tru_b, ev_alloc, ev_tupD, ev_lstD, isi_tuple_non, isi_tuple_bl, isi_tuple_int, isi_tuple_str, isi_tuple_tup, isi_tuple_l, isi_tuple_f, isi_list_non, isi_list_bl, isi_list_int, isi_list_str, isi_list_tup, isi_list_l, isi_list_f, isi_bool_non, isi_bool_bl, isi_bool_int, isi_bool_str, isi_bool_tup, isi_bool_l, isi_bool_f, isi_int_non, isi_int_bl, isi_int_int, isi_int_str, isi_int_tup, isi_int_l, isi_int_f, isi_str_non, isi_str_bl, isi_str_int, isi_str_str, isi_str_tup, isi_str_l, isi_str_f, isi_dict_non, isi_dict_bl, isi_dict_int, isi_dict_str, isi_dict_tup, isi_dict_l, isi_dict_f, Ab.isNon, args, List.map, List.length_cons, List.length_nil, List.length_singleton, List.replicate, Nat.reduceSub, Nat.reduceAdd, Nat.zero_add, List.cons_append, List.nil_append, List.getElem?_cons_zero, List.getElem?_cons_succ, List.set_cons_zero, List.set_cons_succ, Option.some.injEq, decide_eq_true_eq, Bool.not_eq_true', decide_eq_false_iff_not, ite_true, ite_false, if_true, if_false, reduceIte, Bool.false_eq_true, Bool.not_true, Bool.not_false, Bool.true_eq_false, decide_true, decide_false, Nat.reduceLeDiff, Nat.reduceLT]
    refine Sat.imp (far_spec DC.src) fun d C2 ⟨⟨nr, e⟩, dr⟩ => ?_
    subst e
    have hr := dr.keep _ _ (by omega) hr
    have hq := dr.keep _ _ qs hq
    have DC := DC.trans dr
    refine sat_seq ?_
    refine Sat.imp (P := fun fl B => ∃ w : Int, fl = .nx [some (.ref s), some (.tup (pr.map prD)), some (.ref q), some (.ref r), some (.int (0 + (t : Nat))), some (.int ch), some (.int w)] ∧ Dr s C2 B) ?_ fun fl C3 ⟨w, e, dr⟩ => ?_
    · have fb : ∀ (P : Prop) [Decidable P], True := fun _ _ => trivial
      simp only [sat_ok, sat_bad, sat_bind, sat_ite, bind_ok, bind_bad, thn_nx, thn_rt, thn_bk, thn_ct, fin_rt, fin_nx, ev_v, ev_c, ev_op, ev_un, ev_nil, ev_cons, ev_tup, ev_lst, ev_call, ev_own, ev_sl, ev_no, ev_part, ev_and, ev_or, ev_not, ev_if, ev_t, ev_tb, ev_tnot, ev_tand, ev_tor, ev_mt, ev_mt0, ev_rgd, ev_set, ev_asg, ev_ret, ev_retN, ev_ex, ev_pass, ev_brk, ev_cont, ev_ifS, ev_aug, ev_gn, ev_gtp, ev_gnl, ev_gcs, ev_gsb, ev_for, ev_rg1, ev_rg2, ev_its, ev_enum, ev_lc, ev_yes, ev_add_ii, ev_add_ss, ev_add_tt, ev_add_rr, ev_sub, ev_mul, ev_mod, ev_fdiv, ev_pow, ev_neg, ev_lt, ev_le, ev_gt, ev_ge, ev_eq_ii, ev_eq_ss, ev_eq_bb, ev_ne_ii, ev_ne_ss, ev_ne_bb, ev_is_n, ev_isnt_n, ev_int_i, ev_int_b, ev_min_ii, ev_max_ii, ev_abs, ev_tup_of, ev_tup_ofL, ev_lst_ofT, ev_lst_ofL, ev_len_t, ev_len_s, ev_len_r, ev_tru_b, ev_alloc, ev_tupD, ev_lstD, isi_tuple_non, isi_tuple_bl, isi_tuple_int, isi_tuple_str, isi_tuple_tup, isi_tuple_l, isi_tuple_f, isi_list_non, isi_list_bl, isi_list_int, isi_list_str, isi_list_tup, isi_list_l, isi_list_f, isi_bool_non, isi_bool_bl, isi_bool_int, isi_bool_str, isi_bool_tup, isi_bool_l, isi_bool_f, isi_int_non, isi_int_bl, isi_int_int, isi_int_str, isi_int_tup, isi_int_l, isi_int_f, isi_str_non, isi_str_bl, isi_str_int, isi_str_str, isi_str_tup, isi_str_l, isi_str_f, isi_dict_non, isi_dict_bl, isi_dict_int, isi_dict_str, isi_dict_tup, isi_dict_l, isi_dict_f, Ab.isNon, args, List.map, List.length_cons, List.length_nil, List.length_singleton, List.replicate, Nat.reduceSub, Nat.reduceAdd, Nat.zero_add, List.cons_append, List.nil_append, List.getElem?_cons_zero, List.getElem?_cons_succ, List.set_cons_zero, List.set_cons_succ, Option.some.injEq, decide_eq_true_eq, Bool.not_eq_true', decide_eq_false_iff_not, ite_true, ite_false, if_true, if_false, reduceIte, Bool.false_eq_true, Bool.not_true, Bool.not_false, Bool.true_eq_false, decide_true, decide_false, Nat.reduceLeDiff, Nat.reduceLT]
      split
      · refine Sat.imp (one_l DC.src qs hq (by simp) (by simp)) fun d C3 ⟨hd, d1⟩ => ?_
        obtain ⟨M, rfl⟩ : ∃ M, d = matD (n + 1) M := by
          simp only [List.mem_cons, List.not_mem_nil, or_false] at hd
          rcases hd with rfl | rfl <;> exact ⟨_, rfl⟩
        refine Sat.imp (one_t (xs := (List.range (n + 1)).map fun i => rowD (n + 1) (M i)) d1.src (by simp) (by simp; omega)) fun d C4 ⟨hd, d2⟩ => ?_
        obtain ⟨i, _, rfl⟩ := List.mem_map.mp hd
        refine Sat.imp (one_t (xs := (List.range (n + 1)).map fun j => .int (M i j)) d2.src (by simp) (by simp; omega)) fun d C5 ⟨hd, d3⟩ => ?_
        obtain ⟨j, _, rfl⟩ := List.mem_map.mp hd
        exact ⟨_, rfl, d1.trans (d2.trans d3)⟩
      · split
        · obtain ⟨b, hb, hb2⟩ := ne_tup (A := C2) (pr := pr)
          simp only [sat_ok, sat_bad, sat_bind, sat_ite, bind_ok, bind_bad, thn_nx, thn_rt, thn_bk, thn_ct, fin_rt, fin_nx, ev_v, ev_c, ev_op, ev_un, ev_nil, ev_cons, ev_tup, ev_lst, ev_call, ev_own, ev_sl, ev_no, ev_part, ev_and, ev_or, ev_not, ev_if, ev_t, ev_tb, ev_tnot, ev_tand, ev_tor, ev_mt, ev_mt0, ev_rgd, ev_set, ev_asg, ev_ret, ev_retN, ev_ex, ev_pass, ev_brk, ev_cont, ev_ifS, ev_aug, ev_gn, ev_gtp, ev_gnl, ev_gcs, ev_gsb, ev_for, ev_rg1, ev_rg2, ev_its, ev_enum, ev_lc, ev_yes, ev_add_ii, ev_add_ss, ev_add_tt, ev_add_rr, ev_sub, ev_mul, ev_mod, ev_fdiv, ev_pow, ev_neg, ev_lt, ev_le, ev_gt, ev_ge, ev_eq_ii, ev_eq_ss, ev_eq_bb, ev_ne_ii, ev_ne_ss, ev_ne_bb, ev_is_n, ev_isnt_n, ev_int_i, ev_int_b, ev_min_ii, ev_max_ii, ev_abs, ev_tup_of, ev_tup_ofL, ev_lst_ofT, ev_lst_ofL, ev_len_t, ev_len_s, ev_len_r, ev_tru_b, ev_alloc, ev_tupD, ev_lstD, isi_tuple_non, isi_tuple_bl, isi_tuple_int, isi_tuple_str, isi_tuple_tup, isi_tuple_l, isi_tuple_f, isi_list_non, isi_list_bl, isi_list_int, isi_list_str, isi_list_tup, isi_list_l, isi_list_f, isi_bool_non, isi_bool_bl, isi_bool_int, isi_bool_str, isi_bool_tup, isi_bool_l, isi_bool_f, isi_int_non, isi_int_bl, isi_int_int, isi_int_str, isi_int_tup, isi_int_l, isi_int_f, isi_str_non, isi_str_bl, isi_str_int, isi_str_str, isi_str_tup, isi_str_l, isi_str_f, isi_dict_non, isi_dict_bl, isi_dict_int, isi_dict_str, isi_dict_tup, isi_dict_l, isi_dict_f, Ab.isNon, args, List.map, List.length_cons, List.length_nil, List.length_singleton, List.replicate, Nat.reduceSub, Nat.reduceAdd, Nat.zero_add, List.cons_append, List.nil_append, List.getElem?_cons_zero, List.getElem?_cons_succ, List.set_cons_zero, List.set_cons_succ, Option.some.injEq, decide_eq_true_eq, Bool.not_eq_true', decide_eq_false_iff_not, ite_true, ite_false, if_true, if_false, reduceIte, Bool.false_eq_true, Bool.not_true, Bool.not_false, Bool.true_eq_false, decide_true, decide_false, Nat.reduceLeDiff, Nat.reduceLT, hb]
          cases b with
          | false =>
            simp only [sat_ok, sat_bad, sat_bind, sat_ite, bind_ok, bind_bad, thn_nx, thn_rt, thn_bk, thn_ct, fin_rt, fin_nx, ev_v, ev_c, ev_op, ev_un, ev_nil, ev_cons, ev_tup, ev_lst, ev_call, ev_own, ev_sl, ev_no, ev_part, ev_and, ev_or, ev_not, ev_if, ev_t, ev_tb, ev_tnot, ev_tand, ev_tor, ev_mt, ev_mt0, ev_rgd, ev_set, ev_asg, ev_ret, ev_retN, ev_ex, ev_pass, ev_brk, ev_cont, ev_ifS, ev_aug, ev_gn, ev_gtp, ev_gnl, ev_gcs, ev_gsb, ev_for, ev_rg1, ev_rg2, ev_its, ev_enum, ev_lc, ev_yes, ev_add_ii, ev_add_ss, ev_add_tt, ev_add_rr, ev_sub, ev_mul, ev_mod, ev_fdiv, ev_pow, ev_neg, ev_lt, ev_le, ev_gt, ev_ge, ev_eq_ii, ev_eq_ss, ev_eq_bb, ev_ne_ii, ev_ne_ss, ev_ne_bb, ev_is_n, ev_isnt_n, ev_int_i, ev_int_b, ev_min_ii, ev_max_ii, ev_abs, ev_tup_of, ev_tup_ofL, ev_lst_ofT, ev_lst_ofL, ev_len_t, ev_len_s, ev_len_r, ev_tru_b, ev_alloc, ev_tupD, ev_lstD, isi_tuple_non, isi_tuple_bl, isi_tuple_int, isi_tuple_str, isi_tuple_tup, isi_tuple_l, isi_tuple_f, isi_list_non, isi_list_bl, isi_list_int, isi_list_str, isi_list_tup, isi_list_l, isi_list_f, isi_bool_non, isi_bool_bl, isi_bool_int, isi_bool_str, isi_bool_tup, isi_bool_l, isi_bool_f, isi_int_non, isi_int_bl, isi_int_int, isi_int_str, isi_int_tup, isi_int_l, isi_int_f, isi_str_non, isi_str_bl, isi_str_int, isi_str_str, isi_str_tup, isi_str_l, isi_str_f, isi_dict_non, isi_dict_bl, isi_dict_int, isi_dict_str, isi_dict_tup, isi_dict_l, isi_dict_f, Ab.isNon, args, List.map, List.length_cons, List.length_nil, List.length_singleton, List.replicate, Nat.reduceSub, Nat.reduceAdd, Nat.zero_add, List.cons_append, List.nil_append, List.getElem?_cons_zero, List.getElem?_cons_succ, List.set_cons_zero, List.set_cons_succ, Option.some.injEq, decide_eq_true_eq, Bool.not_eq_true', decide_eq_false_iff_not, ite_true, ite_false, if_true, if_false, reduceIte, Bool.false_eq_true, Bool.not_true, Bool.not_false, Bool.true_eq_false, decide_true, decide_false, Nat.reduceLeDiff, Nat.reduceLT]
            exact ⟨_, by first | trivial | rfl, Dr.refl DC.src⟩
          | true =>
            have ne := hb2 rfl
            simp only [sat_ok, sat_bad, sat_bind, sat_ite, bind_ok, bind_bad, thn_nx, thn_rt, thn_bk, thn_ct, fin_rt, fin_nx, ev_v, ev_c, ev_op, ev_un, ev_nil, ev_cons, ev_tup, ev_lst, ev_call, ev_own, ev_sl, ev_no, ev_part, ev_and, ev_or, ev_not, ev_if, ev_t, ev_tb, ev_tnot, ev_tand, ev_tor, ev_mt, ev_mt0, ev_rgd, ev_set, ev_asg, ev_ret, ev_retN, ev_ex, ev_pass, ev_brk, ev_cont, ev_ifS, ev_aug, ev_gn, ev_gtp, ev_gnl, ev_gcs, ev_gsb, ev_for, ev_rg1, ev_rg2, ev_its, ev_enum, ev_lc, ev_yes, ev_add_ii, ev_add_ss, ev_add_tt, ev_add_rr, ev_sub, ev_mul, ev_mod, ev_fdiv, ev_pow, ev_neg, ev_lt, ev_le, ev_gt, ev_ge, ev_eq_ii, ev_eq_ss, ev_eq_bb, ev_ne_ii, ev_ne_ss, ev_ne_bb, ev_is_n, ev_isnt_n, ev_int_i, ev_int_b, ev_min_ii, ev_max_ii, ev_abs, ev_tup_of, ev_tup_ofL, ev_lst_ofT, ev_lst_ofL, ev_len_t, ev_len_s, ev_len_r, ev_tru_b, ev_alloc, ev_tupD, ev_lstD, isi_tuple_non, isi_tuple_bl, isi_tuple_int, isi_tuple_str, isi_tuple_tup, isi_tuple_l, isi_tuple_f, isi_list_non, isi_list_bl, isi_list_int, isi_list_str, isi_list_tup, isi_list_l, isi_list_f, isi_bool_non, isi_bool_bl, isi_bool_int, isi_bool_str, isi_bool_tup, isi_bool_l, isi_bool_f, isi_int_non, isi_int_bl, isi_int_int, isi_int_str, isi_int_tup, isi_int_l, isi_int_f, isi_str_non, isi_str_bl, isi_str_int, isi_str_str, isi_str_tup, isi_str_l, isi_str_f, isi_dict_non, isi_dict_bl, isi_dict_int, isi_dict_str, isi_dict_tup, isi_dict_l, isi_dict_f, Ab.isNon, args, List.map, List.length_cons, List.length_nil, List.length_singleton, List.replicate, Nat.reduceSub, Nat.reduceAdd, Nat.zero_add, List.cons_append, List.nil_append, List.getElem?_cons_zero, List.getElem?_cons_succ, List.set_cons_zero, List.set_cons_succ, Option.some.injEq, decide_eq_true_eq, Bool.not_eq_true', decide_eq_false_iff_not, ite_true, ite_false, if_true, if_false, reduceIte, Bool.false_eq_true, Bool.not_true, Bool.not_false, Bool.true_eq_false, decide_true, decide_false, Nat.reduceLeDiff, Nat.reduceLT]
            refine Sat.imp (one_t (xs := pr.map prD) DC.src (by simpa using ne) (by simp; omega)) fun d C3 ⟨hd, d1⟩ => ?_
            obtain ⟨p, _, rfl⟩ := List.mem_map.mp hd
            refine Sat.imp (one_t (xs := [.int p.1, .int p.2]) d1.src (by simp) (by simp)) fun d C4 ⟨hd, d2⟩ => ?_
            obtain ⟨w, rfl⟩ : ∃ w : Int, d = .int w := by
              simp only [List.mem_cons, List.not_mem_nil, or_false] at hd
              rcases hd with rfl | rfl <;> exact ⟨_, rfl⟩
            exact ⟨_, rfl, d1.trans d2⟩
        · skip
          exact ⟨_, by first | trivial | rfl, Dr.refl DC.src⟩
    · subst e
      have rl := DC.src.lt
      have hr := dr.keep _ _ (by omega) hr
      have hq := dr.keep _ _ qs hq
      have DC := DC.trans dr
      simp only [sat_ok, sat_bad, sat_bind, sat_ite, bind_ok, bind_bad, thn_nx, thn_rt, thn_bk, thn_ct, fin_rt, fin_nx, ev_v, ev_c, ev_op, ev_un, ev_nil, ev_cons, ev_tup, ev_lst, ev_call, ev_own, ev_sl, ev_no, ev_part, ev_and, ev_or, ev_not, ev_if, ev_t, ev_tb, ev_tnot, ev_tand, ev_tor, ev_mt, ev_mt0, ev_rgd, ev_set, ev_asg, ev_ret, ev_retN, ev_ex, ev_pass, ev_brk, ev_cont, ev_ifS, ev_aug, ev_gn, ev_gtp, ev_gnl, ev_gcs, ev_gsb, ev_for, ev_rg1, ev_rg2, ev_its, ev_enum, ev_lc, ev_yes, ev_add_ii, ev_add_ss, ev_add_tt, ev_add_rr, ev_sub, ev_mul, ev_mod, ev_fdiv, ev_pow, ev_neg, ev_lt, ev_le, ev_gt, ev_ge, ev_eq_ii, ev_eq_ss, ev_eq_bb, ev_ne_ii, ev_ne_ss, ev_ne_bb, ev_is_n, ev_isnt_n, ev_int_i, ev_int_b, ev_min_ii, ev_max_ii, ev_abs, ev_tup_of, ev_tup_ofL, ev_lst_ofT, ev_lst_ofL, ev_len_t, ev_len_s, ev_len_r, ev_tru_b, ev_alloc, ev_tupD, ev_lstD, isi_tuple_non, isi_tuple_bl, isi_tuple_int, isi_tuple_str, isi_tuple_tup, isi_tuple_l, isi_tuple_f, isi_list_non, isi_list_bl, isi_list_int, isi_list_str, isi_list_tup, isi_list_l, isi_list_f, isi_bool_non, isi_bool_bl, isi_bool_int, isi_bool_str, isi_bool_tup, isi_bool_l, isi_bool_f, isi_int_non, isi_int_bl, isi_int_int, isi_int_str, isi_int_tup, isi_int_l, isi_int_f, isi_str_non, isi_str_bl, isi_str_int, isi_str_str, isi_str_tup, isi_str_l, isi_str_f, isi_dict_non, isi_dict_bl, isi_dict_int, isi_dict_str, isi_dict_tup, isi_dict_l, isi_dict_f, Ab.isNon, args, List.map, List.length_cons, List.length_nil, List.length_singleton, List.replicate, Nat.reduceSub, Nat.reduceAdd, Nat.zero_add, List.cons_append, List.nil_append, List.getElem?_cons_zero, List.getElem?_cons_succ, List.set_cons_zero, List.set_cons_succ, Option.some.injEq, decide_eq_true_eq, Bool.not_eq_true', decide_eq_false_iff_not, ite_true, ite_false, if_true, if_false, reduceIte, Bool.false_eq_true, Bool.not_true, Bool.not_false, Bool.true_eq_false, decide_true, decide_false, Nat.reduceLeDiff, Nat.reduceLT, ty_l hr]
      have l2 := at_new (A := C3) (o := .lst [.int (-2), .int (-1), .int 0, .int 0, .int 1, .int 2])
      have g := Gr.app (A := C3) (B := [.lst [.int (-2), .int (-1), .int 0, .int 0, .int 1, .int 2]])
      have sC := DC.src.lt
      refine Sat.imp (one_l (DC.src.gr g) (by omega) l2 (by simp) (by simp)) fun d C4 ⟨hd, dr2⟩ => ?_
      obtain ⟨u, rfl⟩ : ∃ u : Int, d = .int u := by
        simp only [List.mem_cons, List.not_mem_nil, or_false] at hd
        rcases hd with rfl | rfl | rfl | rfl | rfl | rfl <;> exact ⟨_, rfl⟩
      have hr := dr2.keep _ _ (by omega) (g.keep _ _ hr)
      have hq := dr2.keep _ _ qs (g.keep _ _ hq)
      have DC := DC.trans ((g.dr DC.src).trans dr2)
      simp only [sat_ok, sat_bad, sat_bind, sat_ite, bind_ok, bind_bad, thn_nx, thn_rt, thn_bk, thn_ct, fin_rt, fin_nx, ev_v, ev_c, ev_op, ev_un, ev_nil, ev_cons, ev_tup, ev_lst, ev_call, ev_own, ev_sl, ev_no, ev_part, ev_and, ev_or, ev_not, ev_if, ev_t, ev_tb, ev_tnot, ev_tand, ev_tor, ev_mt, ev_mt0, ev_rgd, ev_set, ev_asg, ev_ret, ev_retN, ev_ex, ev_pass, ev_brk, ev_cont, ev_ifS, ev_aug, ev_gn, ev_gtp, ev_gnl, ev_gcs, ev_gsb, ev_for, ev_rg1, ev_rg2, ev_its, ev_enum, ev_lc, ev_yes, ev_add_ii, ev_add_ss, ev_add_tt, ev_add_rr, ev_sub, ev_mul, ev_mod, ev_fdiv, ev_pow, ev_neg, ev_lt, ev_le, ev_gt, ev_ge, ev_eq_ii, ev_eq_ss, ev_eq_bb, ev_ne_ii, ev_ne_ss, ev_ne_bb, ev_is_n, ev_isnt_n, ev_int_i, ev_int_b, ev_min_ii, ev_max_ii, ev_abs, ev_tup_of, ev_tup_ofL, ev_lst_ofT, ev_lst_ofL, ev_len_t, ev_len_s, ev_len_r, ev_tru_b, ev_alloc, ev_tupD, ev_lstD, isi_tuple_non, isi_tuple_bl, isi_tuple_int, isi_tuple_str, isi_tuple_tup, isi_tuple_l, isi_tuple_f, isi_list_non, isi_list_bl, isi_list_int, isi_list_str, isi_list_tup, isi_list_l, isi_list_f, isi_bool_non, isi_bool_bl, isi_bool_int, isi_bool_str, isi_bool_tup, isi_bool_l, isi_bool_f, isi_int_non, isi_int_bl, isi_int_int, isi_int_str, isi_int_tup, isi_int_l, isi_int_f, isi_str_non, isi_str_bl, isi_str_int, isi_str_str, isi_str_tup, isi_str_l, isi_str_f, isi_dict_non, isi_dict_bl, isi_dict_int, isi_dict_str, isi_dict_tup, isi_dict_l, isi_dict_f, Ab.isNon, args, List.map, List.length_cons, List.length_nil, List.length_singleton, List.replicate, Nat.reduceSub, Nat.reduceAdd, Nat.zero_add, List.cons_append, List.nil_append, List.getElem?_cons_zero, List.getElem?_cons_succ, List.set_cons_zero, List.set_cons_succ, Option.some.injEq, decide_eq_true_eq, Bool.not_eq_true', decide_eq_false_iff_not, ite_true, ite_false, if_true, if_false, reduceIte, Bool.false_eq_true, Bool.not_true, Bool.not_false, Bool.true_eq_false, decide_true, decide_false, Nat.reduceLeDiff, Nat.reduceLT]
      rw [ev_app hr (by simp; omega)]
      simp only [sat_ok, sat_bad, sat_bind, sat_ite, bind_ok, bind_bad, thn_nx, thn_rt, thn_bk, thn_ct, fin_rt, fin_nx, ev_v, ev_c, ev_op, ev_un, ev_nil, ev_cons, ev_tup, ev_lst, ev_call, ev_own, ev_sl, ev_no, ev_part, ev_and, ev_or, ev_not, ev_if, ev_t, ev_tb, ev_tnot, ev_tand, ev_tor, ev_mt, ev_mt0, ev_rgd, ev_set, ev_asg, ev_ret, ev_retN, ev_ex, ev_pass, ev_brk, ev_cont, ev_ifS, ev_aug, ev_gn, ev_gtp, ev_gnl, ev_gcs, ev_gsb, ev_for, ev_rg1, ev_rg2, ev_its, ev_enum, ev_lc, ev_yes, ev_add_ii, ev_add_ss, ev_add_tt, ev_add_rr, ev_sub, ev_mul, ev_mod, ev_fdiv, ev_pow, ev_neg, ev_lt, ev_le, ev_gt, ev_ge, ev_eq_ii, ev_eq_ss, ev_eq_bb, ev_ne_ii, ev_ne_ss, ev_ne_bb, ev_is_n, ev_isnt_n, ev_int_i, ev_int_b, ev_min_ii, ev_max_ii, ev_abs, ev_tup_of, ev_tup_ofL, ev_lst_ofT, ev_lst_ofL, ev_len_t, ev_len_s, ev_len_r, ev_tru_b, ev_alloc, ev_tupD, ev_lstD, isi_tuple_non, isi_tuple_bl, isi_tuple_int, isi_tuple_str, isi_tuple_tup, isi_tuple_l, isi_tuple_f, isi_list_non, isi_list_bl, isi_list_int, isi_list_str, isi_list_tup, isi_list_l, isi_list_f, isi_bool_non, isi_bool_bl, isi_bool_int, isi_bool_str, isi_bool_tup, isi_bool_l, isi_bool_f, isi_int_non, isi_int_bl, isi_int_int, isi_int_str, isi_int_tup, isi_int_l, isi_int_f, isi_str_non, isi_str_bl, isi_str_int, isi_str_str, isi_str_tup, isi_str_l, isi_str_f, isi_dict_non, isi_dict_bl, isi_dict_int, isi_dict_str, isi_dict_tup, isi_dict_l, isi_dict_f, Ab.isNon, args, List.map, List.length_cons, List.length_nil, List.length_singleton, List.replicate, Nat.reduceSub, Nat.reduceAdd, Nat.zero_add, List.cons_append, List.nil_append, List.getElem?_cons_zero, List.getElem?_cons_succ, List.set_cons_zero, List.set_cons_succ, Option.some.injEq, decide_eq_true_eq, Bool.not_eq_true', decide_eq_false_iff_not, ite_true, ite_false, if_true, if_false, reduceIte, Bool.false_eq_true, Bool.not_true, Bool.not_false, Bool.true_eq_false, decide_true, decide_false, Nat.reduceLeDiff, Nat.reduceLT, turn_]
      refine ⟨DC.setN lr hs, ?_, ⟨ns ++ [w + u], by rw [at_set (at_lt hr), List.map_append]; rfl, by simp; omega⟩, _, _, _, rfl⟩
      rw [List.getElem?_set_ne (by omega)]; exact hq
  · subst hσ
    simp only [sat_ok, sat_bad, sat_bind, sat_ite, bind_ok, bind_bad, thn_nx, thn_rt, thn_bk, thn_ct, fin_rt, fin_nx, ev_v, ev_c, ev_op, ev_un, ev_nil, ev_cons, ev_tup, ev_lst, ev_call, ev_own, ev_sl, ev_no, ev_part, ev_and, ev_or, ev_not, ev_if, ev_t, ev_tb, ev_tnot, ev_tand, ev_tor, ev_mt, ev_mt0, ev_rgd, ev_set, ev_asg, ev_ret, ev_retN, ev_ex, ev_pass, ev_brk, ev_cont, ev_ifS, ev_aug, ev_gn, ev_gtp, ev_gnl, ev_gcs, ev_gsb, ev_for, ev_rg1, ev_rg2, ev_its, ev_enum, ev_lc, ev_yes, ev_add_ii, ev_add_ss, ev_add_tt, ev_add_rr, ev_sub, ev_mul, ev_mod, ev_fdiv, ev_pow, ev_neg, ev_lt, ev_le, ev_gt, ev_ge, ev_eq_ii, ev_eq_ss, ev_eq_bb, ev_ne_ii, ev_ne_ss, ev_ne_bb, ev_is_n, ev_isnt_n, ev_int_i, ev_int_b, ev_min_ii, ev_max_ii, ev_abs, ev_tup_of, ev_tup_ofL, ev_lst_ofT, ev_lst_ofL, ev_len_t, ev_len_s, ev_len_r, ev_tru_b, ev_alloc, ev_tupD, ev_lstD, isi_tuple_non, isi_tuple_bl, isi_tuple_int, isi_tuple_str, isi_tuple_tup, isi_tuple_l, isi_tuple_f, isi_list_non, isi_list_bl, isi_list_int, isi_list_str, isi_list_tup, isi_list_l, isi_list_f, isi_bool_non, isi_bool_bl, isi_bool_int, isi_bool_str, isi_bool_tup, isi_bool_l, isi_bool_f, isi_int_non, isi_int_bl, isi_int_int, isi_int_str, isi_int_tup, isi_int_l, isi_int_f, isi_str_non, isi_str_bl, isi_str_int, isi_str_str, isi_str_tup, isi_str_l, isi_str_f, isi_dict_non, isi_dict_bl, isi_dict_int, isi_dict_str, isi_dict_tup, isi_dict_l, isi_dict_f, Ab.isNon, args, List.map, List.length_cons, List.length_nil, List.length_singleton, List.replicate, Nat.reduceSub, Nat.reduceAdd, Nat.zero_add, List.cons_append, List.nil_append, List.getElem?_cons_zero, List.getElem?_cons_succ, List.set_cons_zero, List.set_cons_succ, Option.some.injEq, decide_eq_true_eq, Bool.not_eq_true', decide_eq_false_iff_not, ite_true, ite_false, if_true, if_false, reduceIte, Bool.false_eq_true, Bool.not_true, Bool.not_false, Bool.true_eq_false, decide_true, decide_false, Nat.reduceLeDiff, Nat.reduceLT, ev_srtset hr (by omega)]
    have l2 := at_new (A := C) (o := .lst ((uqI ns).map D.int))
    simp only [ev_tup_ofL (rdL_l l2), sat_ok, sat_bad, sat_bind, sat_ite, bind_ok, bind_bad, thn_nx, thn_rt, thn_bk, thn_ct, fin_rt, fin_nx, ev_v, ev_c, ev_op, ev_un, ev_nil, ev_cons, ev_tup, ev_lst, ev_call, ev_own, ev_sl, ev_no, ev_part, ev_and, ev_or, ev_not, ev_if, ev_t, ev_tb, ev_tnot, ev_tand, ev_tor, ev_mt, ev_mt0, ev_rgd, ev_set, ev_asg, ev_ret, ev_retN, ev_ex, ev_pass, ev_brk, ev_cont, ev_ifS, ev_aug, ev_gn, ev_gtp, ev_gnl, ev_gcs, ev_gsb, ev_for, ev_rg1, ev_rg2, ev_its, ev_enum, ev_lc, ev_yes, ev_add_ii, ev_add_ss, ev_add_tt, ev_add_rr, ev_sub, ev_mul, ev_mod, ev_fdiv, ev_pow, ev_neg, ev_lt, ev_le, ev_gt, ev_ge, ev_eq_ii, ev_eq_ss, ev_eq_bb, ev_ne_ii, ev_ne_ss, ev_ne_bb, ev_is_n, ev_isnt_n, ev_int_i, ev_int_b, ev_min_ii, ev_max_ii, ev_abs, ev_tup_of, ev_tup_ofL, ev_lst_ofT, ev_lst_ofL, ev_len_t, ev_len_s, ev_len_r, ev_tru_b, ev_alloc, ev_tupD, ev_lstD, isi_tuple_non, isi_tuple_bl, isi_tuple_int, isi_tuple_str, isi_tuple_tup, isi_tuple_l, isi_tuple_f, isi_list_non, isi_list_bl, isi_list_int, isi_list_str, isi_list_tup, isi_list_l, isi_list_f, isi_bool_non, isi_bool_bl, isi_bool_int, isi_bool_str, isi_bool_tup, isi_bool_l, isi_bool_f, isi_int_non, isi_int_bl, isi_int_int, isi_int_str, isi_int_tup, isi_int_l, isi_int_f, isi_str_non, isi_str_bl, isi_str_int, isi_str_str, isi_str_tup, isi_str_l, isi_str_f, isi_dict_non, isi_dict_bl, isi_dict_int, isi_dict_str, isi_dict_tup, isi_dict_l, isi_dict_f, Ab.isNon, args, List.map, List.length_cons, List.length_nil, List.length_singleton, List.replicate, Nat.reduceSub, Nat.reduceAdd, Nat.zero_add, List.cons_append, List.nil_append, List.getElem?_cons_zero, List.getElem?_cons_succ, List.set_cons_zero, List.set_cons_succ, Option.some.injEq, decide_eq_true_eq, Bool.not_eq_true', decide_eq_false_iff_not, ite_true, ite_false, if_true, if_false, reduceIte, Bool.false_eq_true, Bool.not_true, Bool.not_false, Bool.true_eq_false, decide_true, decide_false, Nat.reduceLeDiff, Nat.reduceLT]
    have uq := uqI_uq ns
    refine ⟨⟨_, rfl, uq.1, ?_⟩, DC.trans (Dr.app DC.src _)⟩
    have nd : (uqI ns).Nodup := uq.1.imp fun h => by omega
    have := nodup_le (uqI ns) ns nd fun k hk => (uq.2 k).mp hk
    omega
/-! ### what holds of rounded boxes -/
structure Bx (m : Nat) (l h : Nat → Int) (M : Mx) : Prop where
  cl : Cl m M
  within : ∀ i j, i < m → j < m → i ≠ j → M i j ≤ h i - l j
section
variable {m : Nat} {l h : Nat → Int} {us : List Int} {M M0 M1 R R0 R1 : Mx}
theorem Bx.fe (b : Bx m l h M) (m0 : 0 < m) : ∃ p, Feas m (tbl us l h M) p := ⟨fun k => M k 0, Cl.col b.cl (fun i j hi hj e => by
  unfold tbl
  rw [if_neg e]
  exact rup_ge (b.within i j hi hj e)) m0⟩
theorem Bx.some (b : Bx m l h M) (m0 : 0 < m) {o : Option Mx} (c : Closes m (tbl us l h M) o) : ∃ R, o = some R ∧ ClOf m (tbl us l h M) R := by
  cases o with
  | some R => exact ⟨R, rfl, c⟩
  | none =>
    rcases c with ⟨i, hi, hn⟩ | hn
    · unfold tbl at hn
      rw [if_pos rfl, b.cl.dg i hi] at hn
      omega
    · exact (hn (b.fe m0)).elim
theorem Bx.up (b : Bx m l h M) (c : ClOf m (tbl us l h M) R) {i j : Nat} (hi : i < m) (hj : j < m) : M i j ≤ R i j := by
  have f := Cl.col b.cl (M := tbl us l h M) (fun i j hi hj e => by
    unfold tbl
    rw [if_neg e]
    exact rup_ge (b.within i j hi hj e)) hj
  have h1 := c.sound _ f i j hi hj
  have h2 := b.cl.dg j hj
  have h1 : M i j - M j j ≤ R i j := h1
  omega
theorem tbl_le (c : ClOf m (tbl us l h M) R) {i j : Nat} (hi : i < m) (hj : j < m) (e : i ≠ j) : R i j ≤ h i - l j := by
  have h1 := c.le i j hi hj e
  unfold tbl at h1
  rw [if_neg e] at h1
  exact Int.le_trans h1 rup_g
theorem ClOf.bx (c : ClOf m (tbl us l h M) R) : Bx m l h R := ⟨c.cl, fun i j hi hj e => tbl_le c hi hj e⟩
theorem ClOf.again (c : ClOf m (tbl us l h M) R) : ClOf m (tbl us l h R) R := by
  refine ⟨fun i hi => by unfold tbl; rw [if_pos rfl, c.cl.dg i hi]; exact Int.le_refl _, c.cl, fun i j hi hj e => ?_, fun p hp => c.sound p fun i j hi hj e => ?_⟩
  · unfold tbl
    rw [if_neg e]
    exact rup_ge (tbl_le c hi hj e)
  · have h1 := hp i j hi hj e
    have h2 := c.le i j hi hj e
    unfold tbl at h1 h2 ⊢
    rw [if_neg e] at h1 h2 ⊢
    exact Int.le_trans h1 (rup_stay h2)
theorem tbl_mono (c0 : ClOf m (tbl us l h M0) R0) (c1 : ClOf m (tbl us l h M1) R1) (le : ∀ i j, i < m → j < m → M0 i j ≤ M1 i j) {i j : Nat} (hi : i < m) (hj : j < m) : R0 i j ≤ R1 i j := by
  have f := Cl.col c0.cl (M := tbl us l h M1) (fun a b ha hb e => by
    have h1 := c0.le a b ha hb e
    unfold tbl at h1 ⊢
    rw [if_neg e] at h1 ⊢
    exact Int.le_trans h1 (rup_mono (le a b ha hb))) hj
  have h1 := c1.sound _ f i j hi hj
  have h2 := c0.cl.dg j hj
  have h1 : R0 i j - R0 j j ≤ R1 i j := h1
  omega
end
theorem right_spec {A : AH} {q n : Nat} {pr : List (Int × Int)} {us : List Int} {M0 M1 : Mx} (hn : n ≤ 20) (hp : pr.length = n) (hu : us.Pairwise (· < ·)) (few : us.length ≤ 1000) (hq : A[q]? = some (.lst [matD (n + 1) M0, matD (n + 1) M1]))
    (b0 : Bx (n + 1) (fst0 pr) (snd0 pr) M0) (b1 : Bx (n + 1) (fst0 pr) (snd0 pr) M1) (le : ∀ i j, i < n + 1 → j < n + 1 → M0 i j ≤ M1 i j) :
    Sat (m__law_right [.ref q, .tup (pr.map prD), .tup (us.map D.int)] A) fun d A' => d = .bl true ∧ Gr A A' := by
  refine sat_body rfl (sat_seq ?_)
  simp only [sat_ok, sat_bad, sat_bind, sat_ite, bind_ok, bind_bad, thn_nx, thn_rt, thn_bk, thn_ct, fin_rt, fin_nx, ev_v, ev_c, ev_op, ev_un, ev_nil, ev_cons, ev_tup, ev_lst, ev_call, ev_own, ev_sl, ev_no, ev_part, ev_and, ev_or, ev_not, ev_if, ev_t, ev_tb, ev_tnot, ev_tand, ev_tor, ev_mt, ev_mt0, ev_rgd, ev_set, ev_asg, ev_ret, ev_retN, ev_ex, ev_pass, ev_brk, ev_cont, ev_ifS, ev_aug, ev_gn, ev_gtp, ev_gnl, ev_gcs, ev_gsb, ev_for, ev_rg1, ev_rg2, ev_its, ev_enum, ev_lc, ev_yes, ev_add_ii, ev_add_ss, ev_add_tt, ev_add_rr, ev_sub, ev_mul, ev_mod, ev_fdiv, ev_pow, ev_neg, ev_lt, ev_le, ev_gt, ev_ge, ev_eq_ii, ev_eq_ss, ev_eq_bb, ev_ne_ii, ev_ne_ss, ev_ne_bb, ev_is_n, ev_isnt_n, ev_int_i, ev_int_b, ev_min_ii, ev_max_ii, ev_abs, ev_tup_of, ev_tup_ofL, ev_lst_ofT, ev_lst_ofL, ev_len_t, ev_len_s, ev_len_r, ev_tru_b, ev_alloc, ev_tupD, ev_lstD, isi_tuple_non, isi_tuple_bl, isi_tuple_int, isi_tuple_str, isi_tuple_tup, isi_tuple_l, isi_tuple_f, isi_list_non, isi_list_bl, isi_list_int, isi_list_str, isi_list_tup, isi_list_l, isi_list_f, isi_bool_non, isi_bool_bl, isi_bool_int, isi_bool_str, isi_bool_tup, isi_bool_l, isi_bool_f, isi_int_non, isi_int_bl, isi_int_int, isi_int_str, isi_int_tup, isi_int_l, isi_int_f, isi_str_non, isi_str_bl, isi_str_int, isi_str_str, isi_str_tup, isi_str_l, isi_str_f, isi_dict_non, isi_dict_bl, isi_dict_int, isi_dict_str, isi_dict_tup, isi_dict_l, isi_dict_f, Ab.isNon, args, List.map, List.length_cons, List.length_nil, List.length_singleton, List.replicate, Nat.reduceSub, Nat.reduceAdd, Nat.zero_add, List.cons_append, List.nil_append, List.getElem?_cons_zero, List.getElem?_cons_succ, List.set_cons_zero, List.set_cons_succ, Option.some.injEq, decide_eq_true_eq, Bool.not_eq_true', decide_eq_false_iff_not, ite_true, ite_false, if_true, if_false, reduceIte, Bool.false_eq_true, Bool.not_true, Bool.not_false, Bool.true_eq_false, decide_true, decide_false, Nat.reduceLeDiff, Nat.reduceLT]
  refine sat_seq ?_
  have hT := at_new (A := A) (o := .lst [])
  have qA := at_lt hq
  have G1 := Gr.app (A := A) (B := [AO.lst []])
  have hq1 := G1.keep _ _ hq
  simp only [sat_ok, sat_bad, sat_bind, sat_ite, bind_ok, bind_bad, thn_nx, thn_rt, thn_bk, thn_ct, fin_rt, fin_nx, ev_v, ev_c, ev_op, ev_un, ev_nil, ev_cons, ev_tup, ev_lst, ev_call, ev_own, ev_sl, ev_no, ev_part, ev_and, ev_or, ev_not, ev_if, ev_t, ev_tb, ev_tnot, ev_tand, ev_tor, ev_mt, ev_mt0, ev_rgd, ev_set, ev_asg, ev_ret, ev_retN, ev_ex, ev_pass, ev_brk, ev_cont, ev_ifS, ev_aug, ev_gn, ev_gtp, ev_gnl, ev_gcs, ev_gsb, ev_for, ev_rg1, ev_rg2, ev_its, ev_enum, ev_lc, ev_yes, ev_add_ii, ev_add_ss, ev_add_tt, ev_add_rr, ev_sub, ev_mul, ev_mod, ev_fdiv, ev_pow, ev_neg, ev_lt, ev_le, ev_gt, ev_ge, ev_eq_ii, ev_eq_ss, ev_eq_bb, ev_ne_ii, ev_ne_ss, ev_ne_bb, ev_is_n, ev_isnt_n, ev_int_i, ev_int_b, ev_min_ii, ev_max_ii, ev_abs, ev_tup_of, ev_tup_ofL, ev_lst_ofT, ev_lst_ofL, ev_len_t, ev_len_s, ev_len_r, ev_tru_b, ev_alloc, ev_tupD, ev_lstD, isi_tuple_non, isi_tuple_bl, isi_tuple_int, isi_tuple_str, isi_tuple_tup, isi_tuple_l, isi_tuple_f, isi_list_non, isi_list_bl, isi_list_int, isi_list_str, isi_list_tup, isi_list_l, isi_list_f, isi_bool_non, isi_bool_bl, isi_bool_int, isi_bool_str, isi_bool_tup, isi_bool_l, isi_bool_f, isi_int_non, isi_int_bl, isi_int_int, isi_int_str, isi_int_tup, isi_int_l, isi_int_f, isi_str_non, isi_str_bl, isi_str_int, isi_str_str, isi_str_tup, isi_str_l, isi_str_f, isi_dict_non, isi_dict_bl, isi_dict_int, isi_dict_str, isi_dict_tup, isi_dict_l, isi_dict_f, Ab.isNon, args, List.map, List.length_cons, List.length_nil, List.length_singleton, List.replicate, Nat.reduceSub, Nat.reduceAdd, Nat.zero_add, List.cons_append, List.nil_append, List.getElem?_cons_zero, List.getElem?_cons_succ, List.set_cons_zero, List.set_cons_succ, Option.some.injEq, decide_eq_true_eq, Bool.not_eq_true', decide_eq_false_iff_not, ite_true, ite_false, if_true, if_false, reduceIte, Bool.false_eq_true, Bool.not_true, Bool.not_false, Bool.true_eq_false, decide_true, decide_false, Nat.reduceLeDiff, Nat.reduceLT, ev_iseq_l hq1]
  refine loop_inv (fun es σ C => Gr A C ∧ (∃ (pre post : List Mx) (Rs : List Mx), [M0, M1] = pre ++ post ∧ es = post.map (matD (n + 1)) ∧ C[A.length]? = some (.lst (Rs.map (matD (n + 1)))) ∧ Rs.length = pre.length ∧ ∀ (i : Nat) M R, pre[i]? = some M → Rs[i]? = some R → ClOf (n + 1) (tbl us (fst0 pr) (snd0 pr) M) R) ∧ ∃ x y, σ = [some (.ref q), some (.tup (pr.map prD)), some (.tup (us.map D.int)), some (.ref A.length), x, y])
    (fun e es σ C ⟨G, ⟨pre, post, Rs, e1, e2, hT, rl, ok⟩, x, y, hσ⟩ => ⟨rdL_l (G.keep _ _ hq), ?_⟩) (fun σ C ⟨G, ⟨pre, post, Rs, e1, e2, hT, rl, ok⟩, x, y, hσ⟩ => ⟨rdL_l (G.keep _ _ hq), ?_⟩) _ _ _ ⟨G1, ⟨[], [M0, M1], [], rfl, rfl, hT, rfl, fun i M R h => by simp at h⟩, none, none, rfl⟩
  · subst hσ
    cases post with
    | nil => cases e2
    | cons M post =>
      rw [List.map_cons, List.cons.injEq] at e2
      obtain ⟨e2, e4⟩ := e2
      subst e2; subst e4
      have hM : M ∈ [M0, M1] := by rw [e1]; simp
      have bM : Bx (n + 1) (fst0 pr) (snd0 pr) M := by
        simp only [List.mem_cons, List.not_mem_nil, or_false] at hM
        rcases hM with rfl | rfl
        · exact b0
        · exact b1
      have l2 := congrArg List.length e1
      rw [List.length_append, List.length_cons, List.length_cons, List.length_cons, List.length_nil] at l2
      have rs : ∀ B, Sat (m_round_box [matD (n + 1) M, .tup (pr.map prD), .tup (us.map D.int)] B) _ := fun B => round_box_spec (M := M) (by omega) hp hu few
      have ds : ∀ B, Sat (m__law_due [matD (n + 1) M, .tup (pr.map prD), .tup (us.map D.int)] B) _ := fun B => due_spec (M := M) (by omega) hp few bM.cl.dg (bM.fe (by omega))
      have bs : ∀ (B : AH) (R : Mx), ClOf (n + 1) (tbl us (fst0 pr) (snd0 pr) M) R → m__law_below [matD (n + 1) M, matD (n + 1) R] B = .ok (.bl true) B := fun B R c => below_spec (by omega) mat_ln mat_rd mat_rd fun i j hi hj => bM.up c hi hj
      generalize matD (n + 1) M = dM at rs ds bs ⊢
      simp only [sat_ok, sat_bad, sat_bind, sat_ite, bind_ok, bind_bad, thn_nx, thn_rt, thn_bk, thn_ct, fin_rt, fin_nx, ev_v, ev_c, ev_op, ev_un, ev_nil, ev_cons, ev_tup, ev_lst, ev_call, ev_own, ev_sl, ev_no, ev_part, ev_and, ev_or, ev_not, ev_if, ev_t, ev_tb, ev_tnot, ev_tand, ev_tor, ev_mt, ev_mt0, ev_rgd, ev_set, ev_asg, ev_ret, ev_retN, ev_ex, ev_pass, ev_brk, ev_cont, ev_ifS, ev_aug, ev_gn, ev_gtp, ev_gnl, ev_gcs, ev_gsb, ev_for, ev_rg1, ev_rg2, ev_its, ev_enum, ev_lc, ev_yes, ev_add_ii, ev_add_ss, ev_add_tt, ev_add_rr, ev_sub, ev_mul, ev_mod, ev_fdiv, ev_pow, ev_neg, ev_lt, ev_le, ev_gt, ev_ge, ev_eq_ii, ev_eq_ss, ev_eq_bb, ev_ne_ii, ev_ne_ss, ev_ne_bb, ev_is_n, ev_isnt_n, ev_int_i, ev_int_b, ev_min_ii, ev_max_ii, ev_abs, ev_tup_of, ev_tup_ofL, ev_lst_ofT, ev_lst_ofL, ev_len_t, ev_len_s, ev_len_r, ev_tru_b, ev_alloc, ev_tupD, ev_lstD, isi_tuple_non, isi_tuple_bl, isi_tuple_int, isi_tuple_str, isi_tuple_tup, isi_tuple_l, isi_tuple_f, isi_list_non, isi_list_bl, isi_list_int, isi_list_str, isi_list_tup, isi_list_l, isi_list_f, isi_bool_non, isi_bool_bl, isi_bool_int, isi_bool_str, isi_bool_tup, isi_bool_l, isi_bool_f, isi_int_non, isi_int_bl, isi_int_int, isi_int_str, isi_int_tup, isi_int_l, isi_int_f, isi_str_non, isi_str_bl, isi_str_int, isi_str_str, isi_str_tup, isi_str_l, isi_str_f, isi_dict_non, isi_dict_bl, isi_dict_int, isi_dict_str, isi_dict_tup, isi_dict_l, isi_dict_f, Ab.isNon, args, List.map, List.length_cons, List.length_nil, List.length_singleton, List.replicate, Nat.reduceSub, Nat.reduceAdd, Nat.zero_add, List.cons_append, List.nil_append, List.getElem?_cons_zero, List.getElem?_cons_succ, List.set_cons_zero, List.set_cons_succ, Option.some.injEq, decide_eq_true_eq, Bool.not_eq_true', decide_eq_false_iff_not, ite_true, ite_false, if_true, if_false, reduceIte, Bool.false_eq_true, Bool.not_true, Bool.not_false, Bool.true_eq_false, decide_true, decide_false, Nat.reduceLeDiff, Nat.reduceLT]
      refine sat_seq ?_
      simp only [sat_ok, sat_bad, sat_bind, sat_ite, bind_ok, bind_bad, thn_nx, thn_rt, thn_bk, thn_ct, fin_rt, fin_nx, ev_v, ev_c, ev_op, ev_un, ev_nil, ev_cons, ev_tup, ev_lst, ev_call, ev_own, ev_sl, ev_no, ev_part, ev_and, ev_or, ev_not, ev_if, ev_t, ev_tb, ev_tnot, ev_tand, ev_tor, ev_mt, ev_mt0, ev_rgd, ev_set, ev_asg, ev_ret, ev_retN, ev_ex, ev_pass, ev_brk, ev_cont, ev_ifS, ev_aug, ev_gn, ev_gtp, ev_gnl, ev_gcs, ev_gsb, ev_for, ev_rg1, ev_rg2, ev_its, ev_enum, ev_lc, ev_yes, ev_add_ii, ev_add_ss, ev_add_tt, ev_add_rr, ev_sub, ev_mul, ev_mod, ev_fdiv, ev_pow, ev_neg, ev_lt, ev_le, ev_gt, ev_ge, ev_eq_ii, ev_eq_ss, ev_eq_bb, ev_ne_ii, ev_ne_ss, ev_ne_bb, ev_is_n, ev_isnt_n, ev_int_i, ev_int_b, ev_min_ii, ev_max_ii, ev_abs, ev_tup_of, ev_tup_ofL, ev_lst_ofT, ev_lst_ofL, ev_len_t, ev_len_s, ev_len_r, ev_tru_b, ev_alloc, ev_tupD, ev_lstD, isi_tuple_non, isi_tuple_bl, isi_tuple_int, isi_tuple_str, isi_tuple_tup, isi_tuple_l, isi_tuple_f, isi_list_non, isi_list_bl, isi_list_int, isi_list_str, isi_list_tup, isi_list_l, isi_list_f, isi_bool_non, isi_bool_bl, isi_bool_int, isi_bool_str, isi_bool_tup, isi_bool_l, isi_bool_f, isi_int_non, isi_int_bl, isi_int_int, isi_int_str, isi_int_tup, isi_int_l, isi_int_f, isi_str_non, isi_str_bl, isi_str_int, isi_str_str, isi_str_tup, isi_str_l, isi_str_f, isi_dict_non, isi_dict_bl, isi_dict_int, isi_dict_str, isi_dict_tup, isi_dict_l, isi_dict_f, Ab.isNon, args, List.map, List.length_cons, List.length_nil, List.length_singleton, List.replicate, Nat.reduceSub, Nat.reduceAdd, Nat.zero_add, List.cons_append, List.nil_append, List.getElem?_cons_zero, List.getElem?_cons_succ, List.set_cons_zero, List.set_cons_succ, Option.some.injEq, decide_eq_true_eq, Bool.not_eq_true', decide_eq_false_iff_not, ite_true, ite_false, if_true, if_false, reduceIte, Bool.false_eq_true, Bool.not_true, Bool.not_false, Bool.true_eq_false, decide_true, decide_false, Nat.reduceLeDiff, Nat.reduceLT]
      refine Sat.imp (rs C) fun d C1 ⟨G2, o, e, ho⟩ => ?_
      obtain ⟨R, rfl, cR⟩ := bM.some (by omega) ho
      subst e
      refine sat_seq ?_
      simp only [sat_ok, sat_bad, sat_bind, sat_ite, bind_ok, bind_bad, thn_nx, thn_rt, thn_bk, thn_ct, fin_rt, fin_nx, ev_v, ev_c, ev_op, ev_un, ev_nil, ev_cons, ev_tup, ev_lst, ev_call, ev_own, ev_sl, ev_no, ev_part, ev_and, ev_or, ev_not, ev_if, ev_t, ev_tb, ev_tnot, ev_tand, ev_tor, ev_mt, ev_mt0, ev_rgd, ev_set, ev_asg, ev_ret, ev_retN, ev_ex, ev_pass, ev_brk, ev_cont, ev_ifS, ev_aug, ev_gn, ev_gtp, ev_gnl, ev_gcs, ev_gsb, ev_for, ev_rg1, ev_rg2, ev_its, ev_enum, ev_lc, ev_yes, ev_add_ii, ev_add_ss, ev_add_tt, ev_add_rr, ev_sub, ev_mul, ev_mod, ev_fdiv, ev_pow, ev_neg, ev_lt, ev_le, ev_gt, ev_ge, ev_eq_ii, ev_eq_ss, ev_eq_bb, ev_ne_ii, ev_ne_ss, ev_ne_bb, ev_is_n, ev_isnt_n, ev_int_i, ev_int_b, ev_min_ii, ev_max_ii, ev_abs, ev_tup_of, ev_tup_ofL, ev_lst_ofT, ev_lst_ofL, ev_len_t, ev_len_s, ev_len_r, ev_tru_b, ev_alloc, ev_tupD, ev_lstD, isi_tuple_non, isi_tuple_bl, isi_tuple_int, isi_tuple_str, isi_tuple_tup, isi_tuple_l, isi_tuple_f, isi_list_non, isi_list_bl, isi_list_int, isi_list_str, isi_list_tup, isi_list_l, isi_list_f, isi_bool_non, isi_bool_bl, isi_bool_int, isi_bool_str, isi_bool_tup, isi_bool_l, isi_bool_f, isi_int_non, isi_int_bl, isi_int_int, isi_int_str, isi_int_tup, isi_int_l, isi_int_f, isi_str_non, isi_str_bl, isi_str_int, isi_str_str, isi_str_tup, isi_str_l, isi_str_f, isi_dict_non, isi_dict_bl, isi_dict_int, isi_dict_str, isi_dict_tup, isi_dict_l, isi_dict_f, Ab.isNon, args, List.map, List.length_cons, List.length_nil, List.length_singleton, List.replicate, Nat.reduceSub, Nat.reduceAdd, Nat.zero_add, List.cons_append, List.nil_append, List.getElem?_cons_zero, List.getElem?_cons_succ, List.set_cons_zero, List.set_cons_succ, Option.some.injEq, decide_eq_true_eq, Bool.not_eq_true', decide_eq_false_iff_not, ite_true, ite_false, if_true, if_false, reduceIte, Bool.false_eq_true, Bool.not_true, Bool.not_false, Bool.true_eq_false, decide_true, decide_false, Nat.reduceLeDiff, Nat.reduceLT]
      refine Sat.imp (ds C1) fun d C2 ⟨G3, R', e, cR'⟩ => ?_
      subst e
      have sm : ∀ A, m__law_same 20 [matD (n + 1) R, matD (n + 1) R] A = .ok (.bl true) A := fun A => same_refl 19 _ A (pl_mat (by omega))
      rw [mat_congr (m := n + 1) (R := R') (S := R) fun i j hi hj => cR'.same cR hi hj]
      rw [show outD (n + 1) (some R) = matD (n + 1) R from rfl]
      simp only [sat_ok, sat_bad, sat_bind, sat_ite, bind_ok, bind_bad, thn_nx, thn_rt, thn_bk, thn_ct, fin_rt, fin_nx, ev_v, ev_c, ev_op, ev_un, ev_nil, ev_cons, ev_tup, ev_lst, ev_call, ev_own, ev_sl, ev_no, ev_part, ev_and, ev_or, ev_not, ev_if, ev_t, ev_tb, ev_tnot, ev_tand, ev_tor, ev_mt, ev_mt0, ev_rgd, ev_set, ev_asg, ev_ret, ev_retN, ev_ex, ev_pass, ev_brk, ev_cont, ev_ifS, ev_aug, ev_gn, ev_gtp, ev_gnl, ev_gcs, ev_gsb, ev_for, ev_rg1, ev_rg2, ev_its, ev_enum, ev_lc, ev_yes, ev_add_ii, ev_add_ss, ev_add_tt, ev_add_rr, ev_sub, ev_mul, ev_mod, ev_fdiv, ev_pow, ev_neg, ev_lt, ev_le, ev_gt, ev_ge, ev_eq_ii, ev_eq_ss, ev_eq_bb, ev_ne_ii, ev_ne_ss, ev_ne_bb, ev_is_n, ev_isnt_n, ev_int_i, ev_int_b, ev_min_ii, ev_max_ii, ev_abs, ev_tup_of, ev_tup_ofL, ev_lst_ofT, ev_lst_ofL, ev_len_t, ev_len_s, ev_len_r, ev_tru_b, ev_alloc, ev_tupD, ev_lstD, isi_tuple_non, isi_tuple_bl, isi_tuple_int, isi_tuple_str, isi_tuple_tup, isi_tuple_l, isi_tuple_f, isi_list_non, isi_list_bl, isi_list_int, isi_list_str, isi_list_tup, isi_list_l, isi_list_f, isi_bool_non, isi_bool_bl, isi_bool_int, isi_bool_str, isi_bool_tup, isi_bool_l, isi_bool_f, isi_int_non, isi_int_bl, isi_int_int, isi_int_str, isi_int_tup, isi_int_l, isi_int_f, isi_str_non, isi_str_bl, isi_str_int, isi_str_str, isi_str_tup, isi_str_l, isi_str_f, isi_dict_non, isi_dict_bl, isi_dict_int, isi_dict_str, isi_dict_tup, isi_dict_l, isi_dict_f, Ab.isNon, args, List.map, List.length_cons, List.length_nil, List.length_singleton, List.replicate, Nat.reduceSub, Nat.reduceAdd, Nat.zero_add, List.cons_append, List.nil_append, List.getElem?_cons_zero, List.getElem?_cons_succ, List.set_cons_zero, List.set_cons_succ, Option.some.injEq, decide_eq_true_eq, Bool.not_eq_true', decide_eq_false_iff_not, ite_true, ite_false, if_true, if_false, reduceIte, Bool.false_eq_true, Bool.not_true, Bool.not_false, Bool.true_eq_false, decide_true, decide_false, Nat.reduceLeDiff, Nat.reduceLT, sm]
      refine sat_seq ?_
      simp only [sat_ok, sat_bad, sat_bind, sat_ite, bind_ok, bind_bad, thn_nx, thn_rt, thn_bk, thn_ct, fin_rt, fin_nx, ev_v, ev_c, ev_op, ev_un, ev_nil, ev_cons, ev_tup, ev_lst, ev_call, ev_own, ev_sl, ev_no, ev_part, ev_and, ev_or, ev_not, ev_if, ev_t, ev_tb, ev_tnot, ev_tand, ev_tor, ev_mt, ev_mt0, ev_rgd, ev_set, ev_asg, ev_ret, ev_retN, ev_ex, ev_pass, ev_brk, ev_cont, ev_ifS, ev_aug, ev_gn, ev_gtp, ev_gnl, ev_gcs, ev_gsb, ev_for, ev_rg1, ev_rg2, ev_its, ev_enum, ev_lc, ev_yes, ev_add_ii, ev_add_ss, ev_add_tt, ev_add_rr, ev_sub, ev_mul, ev_mod, ev_fdiv, ev_pow, ev_neg, ev_lt, ev_le, ev_gt, ev_ge, ev_eq_ii, ev_eq_ss, ev_eq_bb, ev_ne_ii, ev_ne_ss, ev_ne_bb, ev_is_n, ev_isnt_n, ev_int_i, ev_int_b, ev_min_ii, ev_max_ii, ev_abs, ev_tup_of, ev_tup_ofL, ev_lst_ofT, ev_lst_ofL, ev_len_t, ev_len_s, ev_len_r, ev_tru_b, ev_alloc, ev_tupD, ev_lstD, isi_tuple_non, isi_tuple_bl, isi_tuple_int, isi_tuple_str, isi_tuple_tup, isi_tuple_l, isi_tuple_f, isi_list_non, isi_list_bl, isi_list_int, isi_list_str, isi_list_tup, isi_list_l, isi_list_f, isi_bool_non, isi_bool_bl, isi_bool_int, isi_bool_str, isi_bool_tup, isi_bool_l, isi_bool_f, isi_int_non, isi_int_bl, isi_int_int, isi_int_str, isi_int_tup, isi_int_l, isi_int_f, isi_str_non, isi_str_bl, isi_str_int, isi_str_str, isi_str_tup, isi_str_l, isi_str_f, isi_dict_non, isi_dict_bl, isi_dict_int, isi_dict_str, isi_dict_tup, isi_dict_l, isi_dict_f, Ab.isNon, args, List.map, List.length_cons, List.length_nil, List.length_singleton, List.replicate, Nat.reduceSub, Nat.reduceAdd, Nat.zero_add, List.cons_append, List.nil_append, List.getElem?_cons_zero, List.getElem?_cons_succ, List.set_cons_zero, List.set_cons_succ, Option.some.injEq, decide_eq_true_eq, Bool.not_eq_true', decide_eq_false_iff_not, ite_true, ite_false, if_true, if_false, reduceIte, Bool.false_eq_true, Bool.not_true, Bool.not_false, Bool.true_eq_false, decide_true, decide_false, Nat.reduceLeDiff, Nat.reduceLT, bs C2 R cR]
      refine Sat.imp (widest_spec (by omega) hp) fun d C3 ⟨rw_, cw, e, _, W⟩ => ?_
      subst e
      have bw : m__law_below [matD (n + 1) R, .ref rw_] C3 = .ok (.bl true) C3 := below_spec (by omega) W.len mat_rd W.rd fun i j hi hj => by
        unfold rbx
        by_cases e : j = i
        · rw [if_pos e, e, cR.cl.dg i hi]; exact Int.le_refl _
        · rw [if_neg e]; exact tbl_le cR hi hj (fun z => e z.symm)
      simp only [sat_ok, sat_bad, sat_bind, sat_ite, bind_ok, bind_bad, thn_nx, thn_rt, thn_bk, thn_ct, fin_rt, fin_nx, ev_v, ev_c, ev_op, ev_un, ev_nil, ev_cons, ev_tup, ev_lst, ev_call, ev_own, ev_sl, ev_no, ev_part, ev_and, ev_or, ev_not, ev_if, ev_t, ev_tb, ev_tnot, ev_tand, ev_tor, ev_mt, ev_mt0, ev_rgd, ev_set, ev_asg, ev_ret, ev_retN, ev_ex, ev_pass, ev_brk, ev_cont, ev_ifS, ev_aug, ev_gn, ev_gtp, ev_gnl, ev_gcs, ev_gsb, ev_for, ev_rg1, ev_rg2, ev_its, ev_enum, ev_lc, ev_yes, ev_add_ii, ev_add_ss, ev_add_tt, ev_add_rr, ev_sub, ev_mul, ev_mod, ev_fdiv, ev_pow, ev_neg, ev_lt, ev_le, ev_gt, ev_ge, ev_eq_ii, ev_eq_ss, ev_eq_bb, ev_ne_ii, ev_ne_ss, ev_ne_bb, ev_is_n, ev_isnt_n, ev_int_i, ev_int_b, ev_min_ii, ev_max_ii, ev_abs, ev_tup_of, ev_tup_ofL, ev_lst_ofT, ev_lst_ofL, ev_len_t, ev_len_s, ev_len_r, ev_tru_b, ev_alloc, ev_tupD, ev_lstD, isi_tuple_non, isi_tuple_bl, isi_tuple_int, isi_tuple_str, isi_tuple_tup, isi_tuple_l, isi_tuple_f, isi_list_non, isi_list_bl, isi_list_int, isi_list_str, isi_list_tup, isi_list_l, isi_list_f, isi_bool_non, isi_bool_bl, isi_bool_int, isi_bool_str, isi_bool_tup, isi_bool_l, isi_bool_f, isi_int_non, isi_int_bl, isi_int_int, isi_int_str, isi_int_tup, isi_int_l, isi_int_f, isi_str_non, isi_str_bl, isi_str_int, isi_str_str, isi_str_tup, isi_str_l, isi_str_f, isi_dict_non, isi_dict_bl, isi_dict_int, isi_dict_str, isi_dict_tup, isi_dict_l, isi_dict_f, Ab.isNon, args, List.map, List.length_cons, List.length_nil, List.length_singleton, List.replicate, Nat.reduceSub, Nat.reduceAdd, Nat.zero_add, List.cons_append, List.nil_append, List.getElem?_cons_zero, List.getElem?_cons_succ, List.set_cons_zero, List.set_cons_succ, Option.some.injEq, decide_eq_true_eq, Bool.not_eq_true', decide_eq_false_iff_not, ite_true, ite_false, if_true, if_false, reduceIte, Bool.false_eq_true, Bool.not_true, Bool.not_false, Bool.true_eq_false, decide_true, decide_false, Nat.reduceLeDiff, Nat.reduceLT, bw]
      refine sat_seq ?_
      simp only [sat_ok, sat_bad, sat_bind, sat_ite, bind_ok, bind_bad, thn_nx, thn_rt, thn_bk, thn_ct, fin_rt, fin_nx, ev_v, ev_c, ev_op, ev_un, ev_nil, ev_cons, ev_tup, ev_lst, ev_call, ev_own, ev_sl, ev_no, ev_part, ev_and, ev_or, ev_not, ev_if, ev_t, ev_tb, ev_tnot, ev_tand, ev_tor, ev_mt, ev_mt0, ev_rgd, ev_set, ev_asg, ev_ret, ev_retN, ev_ex, ev_pass, ev_brk, ev_cont, ev_ifS, ev_aug, ev_gn, ev_gtp, ev_gnl, ev_gcs, ev_gsb, ev_for, ev_rg1, ev_rg2, ev_its, ev_enum, ev_lc, ev_yes, ev_add_ii, ev_add_ss, ev_add_tt, ev_add_rr, ev_sub, ev_mul, ev_mod, ev_fdiv, ev_pow, ev_neg, ev_lt, ev_le, ev_gt, ev_ge, ev_eq_ii, ev_eq_ss, ev_eq_bb, ev_ne_ii, ev_ne_ss, ev_ne_bb, ev_is_n, ev_isnt_n, ev_int_i, ev_int_b, ev_min_ii, ev_max_ii, ev_abs, ev_tup_of, ev_tup_ofL, ev_lst_ofT, ev_lst_ofL, ev_len_t, ev_len_s, ev_len_r, ev_tru_b, ev_alloc, ev_tupD, ev_lstD, isi_tuple_non, isi_tuple_bl, isi_tuple_int, isi_tuple_str, isi_tuple_tup, isi_tuple_l, isi_tuple_f, isi_list_non, isi_list_bl, isi_list_int, isi_list_str, isi_list_tup, isi_list_l, isi_list_f, isi_bool_non, isi_bool_bl, isi_bool_int, isi_bool_str, isi_bool_tup, isi_bool_l, isi_bool_f, isi_int_non, isi_int_bl, isi_int_int, isi_int_str, isi_int_tup, isi_int_l, isi_int_f, isi_str_non, isi_str_bl, isi_str_int, isi_str_str, isi_str_tup, isi_str_l, isi_str_f, isi_dict_non, isi_dict_bl, isi_dict_int, isi_dict_str, isi_dict_tup, isi_dict_l, isi_dict_f, Ab.isNon, args, List.map, List.length_cons, List.length_nil, List.length_singleton, List.replicate, Nat.reduceSub, Nat.reduceAdd, Nat.zero_add, List.cons_append, List.nil_append, List.getElem?_cons_zero, List.getElem?_cons_succ, List.set_cons_zero, List.set_cons_succ, Option.some.injEq, decide_eq_true_eq, Bool.not_eq_true', decide_eq_false_iff_not, ite_true, ite_false, if_true, if_false, reduceIte, Bool.false_eq_true, Bool.not_true, Bool.not_false, Bool.true_eq_false, decide_true, decide_false, Nat.reduceLeDiff, Nat.reduceLT]
      refine Sat.imp (round_box_spec (M := R) (by omega) hp hu few) fun d C4 ⟨G5, o, e, ho⟩ => ?_
      subst e
      rw [closes_same (o' := some R) (by omega) ho (ClOf.again cR)]
      rw [show outD (n + 1) (some R) = matD (n + 1) R from rfl]
      simp only [sat_ok, sat_bad, sat_bind, sat_ite, bind_ok, bind_bad, thn_nx, thn_rt, thn_bk, thn_ct, fin_rt, fin_nx, ev_v, ev_c, ev_op, ev_un, ev_nil, ev_cons, ev_tup, ev_lst, ev_call, ev_own, ev_sl, ev_no, ev_part, ev_and, ev_or, ev_not, ev_if, ev_t, ev_tb, ev_tnot, ev_tand, ev_tor, ev_mt, ev_mt0, ev_rgd, ev_set, ev_asg, ev_ret, ev_retN, ev_ex, ev_pass, ev_brk, ev_cont, ev_ifS, ev_aug, ev_gn, ev_gtp, ev_gnl, ev_gcs, ev_gsb, ev_for, ev_rg1, ev_rg2, ev_its, ev_enum, ev_lc, ev_yes, ev_add_ii, ev_add_ss, ev_add_tt, ev_add_rr, ev_sub, ev_mul, ev_mod, ev_fdiv, ev_pow, ev_neg, ev_lt, ev_le, ev_gt, ev_ge, ev_eq_ii, ev_eq_ss, ev_eq_bb, ev_ne_ii, ev_ne_ss, ev_ne_bb, ev_is_n, ev_isnt_n, ev_int_i, ev_int_b, ev_min_ii, ev_max_ii, ev_abs, ev_tup_of, ev_tup_ofL, ev_lst_ofT, ev_lst_ofL, ev_len_t, ev_len_s, ev_len_r, ev_tru_b, ev_alloc, ev_tupD, ev_lstD, isi_tuple_non, isi_tuple_bl, isi_tuple_int, isi_tuple_str, isi_tuple_tup, isi_tuple_l, isi_tuple_f, isi_list_non, isi_list_bl, isi_list_int, isi_list_str, isi_list_tup, isi_list_l, isi_list_f, isi_bool_non, isi_bool_bl, isi_bool_int, isi_bool_str, isi_bool_tup, isi_bool_l, isi_bool_f, isi_int_non, isi_int_bl, isi_int_int, isi_int_str, isi_int_tup, isi_int_l, isi_int_f, isi_str_non, isi_str_bl, isi_str_int, isi_str_str, isi_str_tup, isi_str_l, isi_str_f, isi_dict_non, isi_dict_bl, isi_dict_int, isi_dict_str, isi_dict_tup, isi_dict_l, isi_dict_f, Ab.isNon, args, List.map, List.length_cons, List.length_nil, List.length_singleton, List.replicate, Nat.reduceSub, Nat.reduceAdd, Nat.zero_add, List.cons_append, List.nil_append, List.getElem?_cons_zero, List.getElem?_cons_succ, List.set_cons_zero, List.set_cons_succ, Option.some.injEq, decide_eq_true_eq, Bool.not_eq_true', decide_eq_false_iff_not, ite_true, ite_false, if_true, if_false, reduceIte, Bool.false_eq_true, Bool.not_true, Bool.not_false, Bool.true_eq_false, decide_true, decide_false, Nat.reduceLeDiff, Nat.reduceLT, sm]
      have G6 := ((G2.trans G3).trans W.gr).trans G5
      have hT := G6.keep _ _ hT
      simp only [sat_ok, sat_bad, sat_bind, sat_ite, bind_ok, bind_bad, thn_nx, thn_rt, thn_bk, thn_ct, fin_rt, fin_nx, ev_v, ev_c, ev_op, ev_un, ev_nil, ev_cons, ev_tup, ev_lst, ev_call, ev_own, ev_sl, ev_no, ev_part, ev_and, ev_or, ev_not, ev_if, ev_t, ev_tb, ev_tnot, ev_tand, ev_tor, ev_mt, ev_mt0, ev_rgd, ev_set, ev_asg, ev_ret, ev_retN, ev_ex, ev_pass, ev_brk, ev_cont, ev_ifS, ev_aug, ev_gn, ev_gtp, ev_gnl, ev_gcs, ev_gsb, ev_for, ev_rg1, ev_rg2, ev_its, ev_enum, ev_lc, ev_yes, ev_add_ii, ev_add_ss, ev_add_tt, ev_add_rr, ev_sub, ev_mul, ev_mod, ev_fdiv, ev_pow, ev_neg, ev_lt, ev_le, ev_gt, ev_ge, ev_eq_ii, ev_eq_ss, ev_eq_bb, ev_ne_ii, ev_ne_ss, ev_ne_bb, ev_is_n, ev_isnt_n, ev_int_i, ev_int_b, ev_min_ii, ev_max_ii, ev_abs, ev_tup_of, ev_tup_ofL, ev_lst_ofT, ev_lst_ofL, ev_len_t, ev_len_s, ev_len_r, ev_tru_b, ev_alloc, ev_tupD, ev_lstD, isi_tuple_non, isi_tuple_bl, isi_tuple_int, isi_tuple_str, isi_tuple_tup, isi_tuple_l, isi_tuple_f, isi_list_non, isi_list_bl, isi_list_int, isi_list_str, isi_list_tup, isi_list_l, isi_list_f, isi_bool_non, isi_bool_bl, isi_bool_int, isi_bool_str, isi_bool_tup, isi_bool_l, isi_bool_f, isi_int_non, isi_int_bl, isi_int_int, isi_int_str, isi_int_tup, isi_int_l, isi_int_f, isi_str_non, isi_str_bl, isi_str_int, isi_str_str, isi_str_tup, isi_str_l, isi_str_f, isi_dict_non, isi_dict_bl, isi_dict_int, isi_dict_str, isi_dict_tup, isi_dict_l, isi_dict_f, Ab.isNon, args, List.map, List.length_cons, List.length_nil, List.length_singleton, List.replicate, Nat.reduceSub, Nat.reduceAdd, Nat.zero_add, List.cons_append, List.nil_append, List.getElem?_cons_zero, List.getElem?_cons_succ, List.set_cons_zero, List.set_cons_succ, Option.some.injEq, decide_eq_true_eq, Bool.not_eq_true', decide_eq_false_iff_not, ite_true, ite_false, if_true, if_false, reduceIte, Bool.false_eq_true, Bool.not_true, Bool.not_false, Bool.true_eq_false, decide_true, decide_false, Nat.reduceLeDiff, Nat.reduceLT, ty_l hT]
      rw [ev_app hT (by simp; omega)]
      simp only [sat_ok, sat_bad, sat_bind, sat_ite, bind_ok, bind_bad, thn_nx, thn_rt, thn_bk, thn_ct, fin_rt, fin_nx, ev_v, ev_c, ev_op, ev_un, ev_nil, ev_cons, ev_tup, ev_lst, ev_call, ev_own, ev_sl, ev_no, ev_part, ev_and, ev_or, ev_not, ev_if, ev_t, ev_tb, ev_tnot, ev_tand, ev_tor, ev_mt, ev_mt0, ev_rgd, ev_set, ev_asg, ev_ret, ev_retN, ev_ex, ev_pass, ev_brk, ev_cont, ev_ifS, ev_aug, ev_gn, ev_gtp, ev_gnl, ev_gcs, ev_gsb, ev_for, ev_rg1, ev_rg2, ev_its, ev_enum, ev_lc, ev_yes, ev_add_ii, ev_add_ss, ev_add_tt, ev_add_rr, ev_sub, ev_mul, ev_mod, ev_fdiv, ev_pow, ev_neg, ev_lt, ev_le, ev_gt, ev_ge, ev_eq_ii, ev_eq_ss, ev_eq_bb, ev_ne_ii, ev_ne_ss, ev_ne_bb, ev_is_n, ev_isnt_n, ev_int_i, ev_int_b, ev_min_ii, ev_max_ii, ev_abs, ev_tup_of, ev_tup_ofL, ev_lst_ofT, ev_lst_ofL, ev_len_t, ev_len_s, ev_len_r, ev_tru_b, ev_alloc, ev_tupD, ev_lstD, isi_tuple_non, isi_tuple_bl, isi_tuple_int, isi_tuple_str, isi_tuple_tup, isi_tuple_l, isi_tuple_f, isi_list_non, isi_list_bl, isi_list_int, isi_list_str, isi_list_tup, isi_list_l, isi_list_f, isi_bool_non, isi_bool_bl, isi_bool_int, isi_bool_str, isi_bool_tup, isi_bool_l, isi_bool_f, isi_int_non, isi_int_bl, isi_int_int, isi_int_str, isi_int_tup, isi_int_l, isi_int_f, isi_str_non, isi_str_bl, isi_str_int, isi_str_str, isi_str_tup, isi_str_l, isi_str_f, isi_dict_non, isi_dict_bl, isi_dict_int, isi_dict_str, isi_dict_tup, isi_dict_l, isi_dict_f, Ab.isNon, args, List.map, List.length_cons, List.length_nil, List.length_singleton, List.replicate, Nat.reduceSub, Nat.reduceAdd, Nat.zero_add, List.cons_append, List.nil_append, List.getElem?_cons_zero, List.getElem?_cons_succ, List.set_cons_zero, List.set_cons_succ, Option.some.injEq, decide_eq_true_eq, Bool.not_eq_true', decide_eq_false_iff_not, ite_true, ite_false, if_true, if_false, reduceIte, Bool.false_eq_true, Bool.not_true, Bool.not_false, Bool.true_eq_false, decide_true, decide_false, Nat.reduceLeDiff, Nat.reduceLT, turn_]
      refine ⟨(G.trans G6).set (Nat.le_refl _), ⟨pre ++ [M], post, Rs ++ [R], by rw [e1]; simp, rfl, by rw [at_set (at_lt hT), List.map_append]; rfl, by simp; omega, fun i M' R2 h1 h2 => ?_⟩, _, _, rfl⟩
      by_cases lt : i < pre.length
      · rw [List.getElem?_append_left lt] at h1
        rw [List.getElem?_append_left (by omega)] at h2
        exact ok i M' R2 h1 h2
      · have ei : i = pre.length := by
          have := (List.getElem?_eq_some_iff.mp h1).1
          simp at this; omega
        subst ei
        rw [List.getElem?_append_right (Nat.le_refl _), Nat.sub_self] at h1
        rw [List.getElem?_append_right (by omega), show pre.length - Rs.length = 0 by omega] at h2
        cases h1; cases h2
        exact cR
  · subst hσ
    cases post with
    | cons p post => cases e2
    | nil =>
      rw [List.append_nil] at e1
      subst e1
      obtain ⟨R0, R1, rfl⟩ : ∃ R0 R1, Rs = [R0, R1] := by
        match Rs, rl with
        | [a, b], _ => exact ⟨a, b, rfl⟩
      have c0 := ok 0 M0 R0 rfl rfl
      have c1 := ok 1 M1 R1 rfl rfl
      have x0 : ixD (.ref A.length) (.int 0) C = .ok (matD (n + 1) R0) C := ev_ix_r (rdL_l hT) (by rw [atI_pos (by decide)]; rfl)
      have x1 : ixD (.ref A.length) (.int 1) C = .ok (matD (n + 1) R1) C := ev_ix_r (rdL_l hT) (by rw [atI_pos (by decide)]; rfl)
      have bl : m__law_below [matD (n + 1) R0, matD (n + 1) R1] C = .ok (.bl true) C := below_spec (by omega) mat_ln mat_rd mat_rd fun i j hi hj => tbl_mono c0 c1 le hi hj
      simp only [sat_ok, sat_bad, sat_bind, sat_ite, bind_ok, bind_bad, thn_nx, thn_rt, thn_bk, thn_ct, fin_rt, fin_nx, ev_v, ev_c, ev_op, ev_un, ev_nil, ev_cons, ev_tup, ev_lst, ev_call, ev_own, ev_sl, ev_no, ev_part, ev_and, ev_or, ev_not, ev_if, ev_t, ev_tb, ev_tnot, ev_tand, ev_tor, ev_mt, ev_mt0, ev_rgd, ev_set, ev_asg, ev_ret, ev_retN, ev_ex, ev_pass, ev_brk, ev_cont, ev_ifS, ev_aug, ev_gn, ev_gtp, ev_gnl, ev_gcs, ev_gsb, ev_for, ev_rg1, ev_rg2, ev_its, ev_enum, ev_lc, ev_yes, ev_add_ii, ev_add_ss, ev_add_tt, ev_add_rr, ev_sub, ev_mul, ev_mod, ev_fdiv, ev_pow, ev_neg, ev_lt, ev_le, ev_gt, ev_ge, ev_eq_ii, ev_eq_ss, ev_eq_bb, ev_ne_ii, ev_ne_ss, ev_ne_bb, ev_is_n, ev_isnt_n, ev_int_i, ev_int_b, ev_min_ii, ev_max_ii, ev_abs, ev_tup_of, ev_tup_ofL, ev_lst_ofT, ev_lst_ofL, ev_len_t, ev_len_s, ev_len_r, ev_tru_b, ev_alloc, ev_tupD, ev_lstD, isi_tuple_non, isi_tuple_bl, isi_tuple_int, isi_tuple_str, isi_tuple_tup, isi_tuple_l, isi_tuple_f, isi_list_non, isi_list_bl, isi_list_int, isi_list_str, isi_list_tup, isi_list_l, isi_list_f, isi_bool_non, isi_bool_bl, isi_bool_int, isi_bool_str, isi_bool_tup, isi_bool_l, isi_bool_f, isi_int_non, isi_int_bl, isi_int_int, isi_int_str, isi_int_tup, isi_int_l, isi_int_f, isi_str_non, isi_str_bl, isi_str_int, isi_str_str, isi_str_tup, isi_str_l, isi_str_f, isi_dict_non, isi_dict_bl, isi_dict_int, isi_dict_str, isi_dict_tup, isi_dict_l, isi_dict_f, Ab.isNon, args, List.map, List.length_cons, List.length_nil, List.length_singleton, List.replicate, Nat.reduceSub, Nat.reduceAdd, Nat.zero_add, List.cons_append, List.nil_append, List.getElem?_cons_zero, List.getElem?_cons_succ, List.set_cons_zero, List.set_cons_succ, Option.some.injEq, decide_eq_true_eq, Bool.not_eq_true', decide_eq_false_iff_not, ite_true, ite_false, if_true, if_false, reduceIte, Bool.false_eq_true, Bool.not_true, Bool.not_false, Bool.true_eq_false, decide_true, decide_false, Nat.reduceLeDiff, Nat.reduceLT, x0, x1, bl, non_round]
      exact ⟨trivial, G⟩
/-! ### the law -/
theorem cell0 {A : AH} {ns : List Int} {k : Int} (h : A[0]? = some (.frz (ns.map D.int))) (hl : ns.length ≤ 63) (h0 : 0 ≤ k) : ∃ v, m__law_cell [.ref 0, .int k] A = .ok (.int v) A := by
  obtain ⟨v, e⟩ := cell_spec (k := k.toNat) h hl
  exact ⟨v, by rw [Int.toNat_of_nonneg h0] at e; exact e⟩
theorem src_new {A : AH} {v : Int} : Sr A.length (A ++ [.lst [.int v, .int v, .int 0]]) := ⟨v, v, 0, at_new⟩
theorem bx_of {n : Nat} {pr : List (Int × Int)} {ps : List (List Int)} (ne : ps ≠ []) (ok : ∀ p ∈ ps, InR pr p) : Bx (n + 1) (fst0 pr) (snd0 pr) (mx ps) := ⟨mx_cl ne, fun i j _ _ _ => by
  obtain ⟨p, hp, e⟩ := mx_mem (i := i) (j := j) ne
  have h1 := (ok p hp).2 i
  have h2 := (ok p hp).2 j
  omega⟩
theorem law_ok : ∀ ns : List Int, ns.length ≤ 63 → ∃ A', m_law [.ref 0] [.frz (ns.map D.int)] = .ok (.bl true) A' := by
  intro ns hl
  have key : Sat (m_law [.ref 0] [.frz (ns.map D.int)]) fun d A' => d = .bl true := by
    refine sat_body rfl (sat_seq ?_)
    have h0 : ([AO.frz (ns.map D.int)] : AH)[0]? = some (.frz (ns.map D.int)) := rfl
    generalize [AO.frz (ns.map D.int)] = A at h0 ⊢
    obtain ⟨v0, hv0⟩ := cell0 (k := 0) h0 hl (by decide)
    obtain ⟨v1, hv1⟩ := cell0 (k := 1) h0 hl (by decide)
    obtain ⟨v2, hv2⟩ := cell0 (k := 2) h0 hl (by decide)
    have m1 : mulOk 4099 v1 := mulOk_l (by decide) (by decide)
    have m2 : mulOk 7368787 v2 := mulOk_l (by decide) (by decide)
    simp only [sat_ok, sat_bad, sat_bind, sat_ite, bind_ok, bind_bad, thn_nx, thn_rt, thn_bk, thn_ct, fin_rt, fin_nx, ev_v, ev_c, ev_op, ev_un, ev_nil, ev_cons, ev_tup, ev_lst, ev_call, ev_own, ev_sl, ev_no, ev_part, ev_and, ev_or, ev_not, ev_if, ev_t, ev_tb, ev_tnot, ev_tand, ev_tor, ev_mt, ev_mt0, ev_rgd, ev_set, ev_asg, ev_ret, ev_retN, ev_ex, ev_pass, ev_brk, ev_cont, ev_ifS, ev_aug, ev_gn, ev_gtp, ev_gnl, ev_gcs, ev_gsb, ev_for, ev_rg1, ev_rg2, ev_its, ev_enum, ev_lc, ev_yes, ev_add_ii, ev_add_ss, ev_add_tt, ev_add_rr, ev_sub, ev_mul, ev_mod, ev_fdiv, ev_pow, ev_neg, ev_lt, ev_le, ev_gt, ev_ge, ev_eq_ii, ev_eq_ss, ev_eq_bb, ev_ne_ii, ev_ne_ss, ev_ne_bb, ev_is_n, ev_isnt_n, ev_int_i, ev_int_b, ev_min_ii, ev_max_ii, ev_abs, ev_tup_of, ev_tup_ofL, ev_lst_ofT, ev_lst_ofL, ev_len_t, ev_len_s, ev_len_r, ev_tru_b, ev_alloc, ev_tupD, ev_lstD, isi_tuple_non, isi_tuple_bl, isi_tuple_int, isi_tuple_str, isi_tuple_tup, isi_tuple_l, isi_tuple_f, isi_list_non, isi_list_bl, isi_list_int, isi_list_str, isi_list_tup, isi_list_l, isi_list_f, isi_bool_non, isi_bool_bl, isi_bool_int, isi_bool_str, isi_bool_tup, isi_bool_l, isi_bool_f, isi_int_non, isi_int_bl, isi_int_int, isi_int_str, isi_int_tup, isi_int_l, isi_int_f, isi_str_non, isi_str_bl, isi_str_int, isi_str_str, isi_str_tup, isi_str_l, isi_str_f, isi_dict_non, isi_dict_bl, isi_dict_int, isi_dict_str, isi_dict_tup, isi_dict_l, isi_dict_f, Ab.isNon, args, List.map, List.length_cons, List.length_nil, List.length_singleton, List.replicate, Nat.reduceSub, Nat.reduceAdd, Nat.zero_add, List.cons_append, List.nil_append, List.getElem?_cons_zero, List.getElem?_cons_succ, List.set_cons_zero, List.set_cons_succ, Option.some.injEq, decide_eq_true_eq, Bool.not_eq_true', decide_eq_false_iff_not, ite_true, ite_false, if_true, if_false, reduceIte, Bool.false_eq_true, Bool.not_true, Bool.not_false, Bool.true_eq_false, decide_true, decide_false, Nat.reduceLeDiff, Nat.reduceLT, hv0, hv1, hv2, m1, m2, source_spec]
    have sr := src_new (A := A) (v := v0 + 4099 * v1 + 7368787 * v2)
    generalize A ++ [.lst [.int (v0 + 4099 * v1 + 7368787 * v2), .int (v0 + 4099 * v1 + 7368787 * v2), .int 0]] = A1 at sr ⊢
    generalize A.length = s at sr ⊢
    refine sat_seq ?_
    simp only [sat_ok, sat_bad, sat_bind, sat_ite, bind_ok, bind_bad, thn_nx, thn_rt, thn_bk, thn_ct, fin_rt, fin_nx, ev_v, ev_c, ev_op, ev_un, ev_nil, ev_cons, ev_tup, ev_lst, ev_call, ev_own, ev_sl, ev_no, ev_part, ev_and, ev_or, ev_not, ev_if, ev_t, ev_tb, ev_tnot, ev_tand, ev_tor, ev_mt, ev_mt0, ev_rgd, ev_set, ev_asg, ev_ret, ev_retN, ev_ex, ev_pass, ev_brk, ev_cont, ev_ifS, ev_aug, ev_gn, ev_gtp, ev_gnl, ev_gcs, ev_gsb, ev_for, ev_rg1, ev_rg2, ev_its, ev_enum, ev_lc, ev_yes, ev_add_ii, ev_add_ss, ev_add_tt, ev_add_rr, ev_sub, ev_mul, ev_mod, ev_fdiv, ev_pow, ev_neg, ev_lt, ev_le, ev_gt, ev_ge, ev_eq_ii, ev_eq_ss, ev_eq_bb, ev_ne_ii, ev_ne_ss, ev_ne_bb, ev_is_n, ev_isnt_n, ev_int_i, ev_int_b, ev_min_ii, ev_max_ii, ev_abs, ev_tup_of, ev_tup_ofL, ev_lst_ofT, ev_lst_ofL, ev_len_t, ev_len_s, ev_len_r, ev_tru_b, ev_alloc, ev_tupD, ev_lstD, isi_tuple_non, isi_tuple_bl, isi_tuple_int, isi_tuple_str, isi_tuple_tup, isi_tuple_l, isi_tuple_f, isi_list_non, isi_list_bl, isi_list_int, isi_list_str, isi_list_tup, isi_list_l, isi_list_f, isi_bool_non, isi_bool_bl, isi_bool_int, isi_bool_str, isi_bool_tup, isi_bool_l, isi_bool_f, isi_int_non, isi_int_bl, isi_int_int, isi_int_str, isi_int_tup, isi_int_l, isi_int_f, isi_str_non, isi_str_bl, isi_str_int, isi_str_str, isi_str_tup, isi_str_l, isi_str_f, isi_dict_non, isi_dict_bl, isi_dict_int, isi_dict_str, isi_dict_tup, isi_dict_l, isi_dict_f, Ab.isNon, args, List.map, List.length_cons, List.length_nil, List.length_singleton, List.replicate, Nat.reduceSub, Nat.reduceAdd, Nat.zero_add, List.cons_append, List.nil_append, List.getElem?_cons_zero, List.getElem?_cons_succ, List.set_cons_zero, List.set_cons_succ, Option.some.injEq, decide_eq_true_eq, Bool.not_eq_true', decide_eq_false_iff_not, ite_true, ite_false, if_true, if_false, reduceIte, Bool.false_eq_true, Bool.not_true, Bool.not_false, Bool.true_eq_false, decide_true, decide_false, Nat.reduceLeDiff, Nat.reduceLT]
    refine Sat.imp (pick_pos sr (n := 4) (by decide) (by decide)) fun d A2 ⟨⟨w, e, w0, w1⟩, D1⟩ => ?_
    subst e
    refine sat_seq ?_
    refine Sat.imp (P := fun fl B => ∃ n : Nat, fl = .nx [some (.ref 0), some (.ref s), some (.int (n : Nat)), none, none, none, none, none] ∧ Sr s B ∧ n ≤ 9) ?_ fun fl B ⟨n, e, sr, n9⟩ => ?_
    · simp only [sat_ok, sat_bad, sat_bind, sat_ite, bind_ok, bind_bad, thn_nx, thn_rt, thn_bk, thn_ct, fin_rt, fin_nx, ev_v, ev_c, ev_op, ev_un, ev_nil, ev_cons, ev_tup, ev_lst, ev_call, ev_own, ev_sl, ev_no, ev_part, ev_and, ev_or, ev_not, ev_if, ev_t, ev_tb, ev_tnot, ev_tand, ev_tor, ev_mt, ev_mt0, ev_rgd, ev_set, ev_asg, ev_ret, ev_retN, ev_ex, ev_pass, ev_brk, ev_cont, ev_ifS, ev_aug, ev_gn, ev_gtp, ev_gnl, ev_gcs, ev_gsb, ev_for, ev_rg1, ev_rg2, ev_its, ev_enum, ev_lc, ev_yes, ev_add_ii, ev_add_ss, ev_add_tt, ev_add_rr, ev_sub, ev_mul, ev_mod, ev_fdiv, ev_pow, ev_neg, ev_lt, ev_le, ev_gt, ev_ge, ev_eq_ii, ev_eq_ss, ev_eq_bb, ev_ne_ii, ev_ne_ss, ev_ne_bb, ev_is_n, ev_isnt_n, ev_int_i, ev_int_b, ev_min_ii, ev_max_ii, ev_abs, ev_tup_of, ev_tup_ofL, ev_lst_ofT, ev_lst_ofL, ev_len_t, ev_len_s, ev_len_r, ev_tru_b, ev_alloc, ev_tupD, ev_lstD, isi_tuple_non, isi_tuple_bl, isi_tuple_int, isi_tuple_str, isi_tuple_tup, isi_tuple_l, isi_tuple_f, isi_list_non, isi_list_bl, isi_list_int, isi_list_str, isi_list_tup, isi_list_l, isi_list_f, isi_bool_non, isi_bool_bl, isi_bool_int, isi_bool_str, isi_bool_tup, isi_bool_l, isi_bool_f, isi_int_non, isi_int_bl, isi_int_int, isi_int_str, isi_int_tup, isi_int_l, isi_int_f, isi_str_non, isi_str_bl, isi_str_int, isi_str_str, isi_str_tup, isi_str_l, isi_str_f, isi_dict_non, isi_dict_bl, isi_dict_int, isi_dict_str, isi_dict_tup, isi_dict_l, isi_dict_f, Ab.isNon, args, List.map, List.length_cons, List.length_nil, List.length_singleton, List.replicate, Nat.reduceSub, Nat.reduceAdd, Nat.zero_add, List.cons_append, List.nil_append, List.getElem?_cons_zero, List.getElem?_cons_succ, List.set_cons_zero, List.set_cons_succ, Option.some.injEq, decide_eq_true_eq, Bool.not_eq_true', decide_eq_false_iff_not, ite_true, ite_false, if_true, if_false, reduceIte, Bool.false_eq_true, Bool.not_true, Bool.not_false, Bool.true_eq_false, decide_true, decide_false, Nat.reduceLeDiff, Nat.reduceLT]
      refine Sat.imp (pick_pos D1.src (n := 8) (by decide) (by decide)) fun d A3 ⟨⟨c, e, _, _⟩, D2⟩ => ?_
      subst e
      simp only [sat_ok, sat_bad, sat_bind, sat_ite, bind_ok, bind_bad, thn_nx, thn_rt, thn_bk, thn_ct, fin_rt, fin_nx, ev_v, ev_c, ev_op, ev_un, ev_nil, ev_cons, ev_tup, ev_lst, ev_call, ev_own, ev_sl, ev_no, ev_part, ev_and, ev_or, ev_not, ev_if, ev_t, ev_tb, ev_tnot, ev_tand, ev_tor, ev_mt, ev_mt0, ev_rgd, ev_set, ev_asg, ev_ret, ev_retN, ev_ex, ev_pass, ev_brk, ev_cont, ev_ifS, ev_aug, ev_gn, ev_gtp, ev_gnl, ev_gcs, ev_gsb, ev_for, ev_rg1, ev_rg2, ev_its, ev_enum, ev_lc, ev_yes, ev_add_ii, ev_add_ss, ev_add_tt, ev_add_rr, ev_sub, ev_mul, ev_mod, ev_fdiv, ev_pow, ev_neg, ev_lt, ev_le, ev_gt, ev_ge, ev_eq_ii, ev_eq_ss, ev_eq_bb, ev_ne_ii, ev_ne_ss, ev_ne_bb, ev_is_n, ev_isnt_n, ev_int_i, ev_int_b, ev_min_ii, ev_max_ii, ev_abs, ev_tup_of, ev_tup_ofL, ev_lst_ofT, ev_lst_ofL, ev_len_t, ev_len_s, ev_len_r, ev_tru_b, ev_alloc, ev_tupD, ev_lstD, isi_tuple_non, isi_tuple_bl, isi_tuple_int, isi_tuple_str, isi_tuple_tup, isi_tuple_l, isi_tuple_f, isi_list_non, isi_list_bl, isi_list_int, isi_list_str, isi_list_tup, isi_list_l, isi_list_f, isi_bool_non, isi_bool_bl, isi_bool_int, isi_bool_str, isi_bool_tup, isi_bool_l, isi_bool_f, isi_int_non, isi_int_bl, isi_int_int, isi_int_str, isi_int_tup, isi_int_l, isi_int_f, isi_str_non, isi_str_bl, isi_str_int, isi_str_str, isi_str_tup, isi_str_l, isi_str_f, isi_dict_non, isi_dict_bl, isi_dict_int, isi_dict_str, isi_dict_tup, isi_dict_l, isi_dict_f, Ab.isNon, args, List.map, List.length_cons, List.length_nil, List.length_singleton, List.replicate, Nat.reduceSub, Nat.reduceAdd, Nat.zero_add, List.cons_append, List.nil_append, List.getElem?_cons_zero, List.getElem?_cons_succ, List.set_cons_zero, List.set_cons_succ, Option.some.injEq, decide_eq_true_eq, Bool.not_eq_true', decide_eq_false_iff_not, ite_true, ite_false, if_true, if_false, reduceIte, Bool.false_eq_true, Bool.not_true, Bool.not_false, Bool.true_eq_false, decide_true, decide_false, Nat.reduceLeDiff, Nat.reduceLT]
      split
      · skip
        refine Sat.imp (pick_pos D2.src (n := 10) (by decide) (by decide)) fun d A4 ⟨⟨u, e, u0, u1⟩, D3⟩ => ?_
        subst e
        exact ⟨u.toNat, by rw [show ((u.toNat : Nat) : Int) = u by omega], D3.src, by omega⟩
      · exact ⟨w.toNat, by rw [show ((w.toNat : Nat) : Int) = w by omega], D2.src, by omega⟩
    subst e
    refine sat_seq ?_
    simp only [sat_ok, sat_bad, sat_bind, sat_ite, bind_ok, bind_bad, thn_nx, thn_rt, thn_bk, thn_ct, fin_rt, fin_nx, ev_v, ev_c, ev_op, ev_un, ev_nil, ev_cons, ev_tup, ev_lst, ev_call, ev_own, ev_sl, ev_no, ev_part, ev_and, ev_or, ev_not, ev_if, ev_t, ev_tb, ev_tnot, ev_tand, ev_tor, ev_mt, ev_mt0, ev_rgd, ev_set, ev_asg, ev_ret, ev_retN, ev_ex, ev_pass, ev_brk, ev_cont, ev_ifS, ev_aug, ev_gn, ev_gtp, ev_gnl, ev_gcs, ev_gsb, ev_for, ev_rg1, ev_rg2, ev_its, ev_enum, ev_lc, ev_yes, ev_add_ii, ev_add_ss, ev_add_tt, ev_add_rr, ev_sub, ev_mul, ev_mod, ev_fdiv, ev_pow, ev_neg, ev_lt, ev_le, ev_gt, ev_ge, ev_eq_ii, ev_eq_ss, ev_eq_bb, ev_ne_ii, ev_ne_ss, ev_ne_bb, ev_is_n, ev_isnt_n, ev_int_i, ev_int_b, ev_min_ii, ev_max_ii, ev_abs, ev_tup_of, ev_tup_ofL, ev_lst_ofT, ev_lst_ofL, ev_len_t, ev_len_s, ev_len_r, ev_tru_b, ev_alloc, ev_tupD, ev_lstD, isi_tuple_non, isi_tuple_bl, isi_tuple_int, isi_tuple_str, isi_tuple_tup, isi_tuple_l, isi_tuple_f, isi_list_non, isi_list_bl, isi_list_int, isi_list_str, isi_list_tup, isi_list_l, isi_list_f, isi_bool_non, isi_bool_bl, isi_bool_int, isi_bool_str, isi_bool_tup, isi_bool_l, isi_bool_f, isi_int_non, isi_int_bl, isi_int_int, isi_int_str, isi_int_tup, isi_int_l, isi_int_f, isi_str_non, isi_str_bl, isi_str_int, isi_str_str, isi_str_tup, isi_str_l, isi_str_f, isi_dict_non, isi_dict_bl, isi_dict_int, isi_dict_str, isi_dict_tup, isi_dict_l, isi_dict_f, Ab.isNon, args, List.map, List.length_cons, List.length_nil, List.length_singleton, List.replicate, Nat.reduceSub, Nat.reduceAdd, Nat.zero_add, List.cons_append, List.nil_append, List.getElem?_cons_zero, List.getElem?_cons_succ, List.set_cons_zero, List.set_cons_succ, Option.some.injEq, decide_eq_true_eq, Bool.not_eq_true', decide_eq_false_iff_not, ite_true, ite_false, if_true, if_false, reduceIte, Bool.false_eq_true, Bool.not_true, Bool.not_false, Bool.true_eq_false, decide_true, decide_false, Nat.reduceLeDiff, Nat.reduceLT]
    refine Sat.imp (ranges_spec sr (by omega)) fun d B1 ⟨⟨pr, e, rg⟩, D1⟩ => ?_
    subst e
    refine sat_seq ?_
    simp only [sat_ok, sat_bad, sat_bind, sat_ite, bind_ok, bind_bad, thn_nx, thn_rt, thn_bk, thn_ct, fin_rt, fin_nx, ev_v, ev_c, ev_op, ev_un, ev_nil, ev_cons, ev_tup, ev_lst, ev_call, ev_own, ev_sl, ev_no, ev_part, ev_and, ev_or, ev_not, ev_if, ev_t, ev_tb, ev_tnot, ev_tand, ev_tor, ev_mt, ev_mt0, ev_rgd, ev_set, ev_asg, ev_ret, ev_retN, ev_ex, ev_pass, ev_brk, ev_cont, ev_ifS, ev_aug, ev_gn, ev_gtp, ev_gnl, ev_gcs, ev_gsb, ev_for, ev_rg1, ev_rg2, ev_its, ev_enum, ev_lc, ev_yes, ev_add_ii, ev_add_ss, ev_add_tt, ev_add_rr, ev_sub, ev_mul, ev_mod, ev_fdiv, ev_pow, ev_neg, ev_lt, ev_le, ev_gt, ev_ge, ev_eq_ii, ev_eq_ss, ev_eq_bb, ev_ne_ii, ev_ne_ss, ev_ne_bb, ev_is_n, ev_isnt_n, ev_int_i, ev_int_b, ev_min_ii, ev_max_ii, ev_abs, ev_tup_of, ev_tup_ofL, ev_lst_ofT, ev_lst_ofL, ev_len_t, ev_len_s, ev_len_r, ev_tru_b, ev_alloc, ev_tupD, ev_lstD, isi_tuple_non, isi_tuple_bl, isi_tuple_int, isi_tuple_str, isi_tuple_tup, isi_tuple_l, isi_tuple_f, isi_list_non, isi_list_bl, isi_list_int, isi_list_str, isi_list_tup, isi_list_l, isi_list_f, isi_bool_non, isi_bool_bl, isi_bool_int, isi_bool_str, isi_bool_tup, isi_bool_l, isi_bool_f, isi_int_non, isi_int_bl, isi_int_int, isi_int_str, isi_int_tup, isi_int_l, isi_int_f, isi_str_non, isi_str_bl, isi_str_int, isi_str_str, isi_str_tup, isi_str_l, isi_str_f, isi_dict_non, isi_dict_bl, isi_dict_int, isi_dict_str, isi_dict_tup, isi_dict_l, isi_dict_f, Ab.isNon, args, List.map, List.length_cons, List.length_nil, List.length_singleton, List.replicate, Nat.reduceSub, Nat.reduceAdd, Nat.zero_add, List.cons_append, List.nil_append, List.getElem?_cons_zero, List.getElem?_cons_succ, List.set_cons_zero, List.set_cons_succ, Option.some.injEq, decide_eq_true_eq, Bool.not_eq_true', decide_eq_false_iff_not, ite_true, ite_false, if_true, if_false, reduceIte, Bool.false_eq_true, Bool.not_true, Bool.not_false, Bool.true_eq_false, decide_true, decide_false, Nat.reduceLeDiff, Nat.reduceLT]
    refine Sat.imp (points_spec D1.src (n := n) (by omega) rg) fun d B2 ⟨D2, r1, ps, e, lr1, hr1, ne1, few1, in1⟩ => ?_
    subst e
    have s1 := D1.src.lt
    refine sat_seq ?_
    have len1 : ∀ p ∈ ps, p.length = n := fun p hp => by rw [(in1 p hp).1, rg.1]
    simp only [sat_ok, sat_bad, sat_bind, sat_ite, bind_ok, bind_bad, thn_nx, thn_rt, thn_bk, thn_ct, fin_rt, fin_nx, ev_v, ev_c, ev_op, ev_un, ev_nil, ev_cons, ev_tup, ev_lst, ev_call, ev_own, ev_sl, ev_no, ev_part, ev_and, ev_or, ev_not, ev_if, ev_t, ev_tb, ev_tnot, ev_tand, ev_tor, ev_mt, ev_mt0, ev_rgd, ev_set, ev_asg, ev_ret, ev_retN, ev_ex, ev_pass, ev_brk, ev_cont, ev_ifS, ev_aug, ev_gn, ev_gtp, ev_gnl, ev_gcs, ev_gsb, ev_for, ev_rg1, ev_rg2, ev_its, ev_enum, ev_lc, ev_yes, ev_add_ii, ev_add_ss, ev_add_tt, ev_add_rr, ev_sub, ev_mul, ev_mod, ev_fdiv, ev_pow, ev_neg, ev_lt, ev_le, ev_gt, ev_ge, ev_eq_ii, ev_eq_ss, ev_eq_bb, ev_ne_ii, ev_ne_ss, ev_ne_bb, ev_is_n, ev_isnt_n, ev_int_i, ev_int_b, ev_min_ii, ev_max_ii, ev_abs, ev_tup_of, ev_tup_ofL, ev_lst_ofT, ev_lst_ofL, ev_len_t, ev_len_s, ev_len_r, ev_tru_b, ev_alloc, ev_tupD, ev_lstD, isi_tuple_non, isi_tuple_bl, isi_tuple_int, isi_tuple_str, isi_tuple_tup, isi_tuple_l, isi_tuple_f, isi_list_non, isi_list_bl, isi_list_int, isi_list_str, isi_list_tup, isi_list_l, isi_list_f, isi_bool_non, isi_bool_bl, isi_bool_int, isi_bool_str, isi_bool_tup, isi_bool_l, isi_bool_f, isi_int_non, isi_int_bl, isi_int_int, isi_int_str, isi_int_tup, isi_int_l, isi_int_f, isi_str_non, isi_str_bl, isi_str_int, isi_str_str, isi_str_tup, isi_str_l, isi_str_f, isi_dict_non, isi_dict_bl, isi_dict_int, isi_dict_str, isi_dict_tup, isi_dict_l, isi_dict_f, Ab.isNon, args, List.map, List.length_cons, List.length_nil, List.length_singleton, List.replicate, Nat.reduceSub, Nat.reduceAdd, Nat.zero_add, List.cons_append, List.nil_append, List.getElem?_cons_zero, List.getElem?_cons_succ, List.set_cons_zero, List.set_cons_succ, Option.some.injEq, decide_eq_true_eq, Bool.not_eq_true', decide_eq_false_iff_not, ite_true, ite_false, if_true, if_false, reduceIte, Bool.false_eq_true, Bool.not_true, Bool.not_false, Bool.true_eq_false, decide_true, decide_false, Nat.reduceLeDiff, Nat.reduceLT]
    refine Sat.imp (box_spec ne1 (by omega) len1 (by omega) hr1) fun d B3 ⟨e, G3⟩ => ?_
    subst e
    have hr1 := G3.keep _ _ hr1
    have sr3 := D2.src.gr G3
    refine Sat.imp (points_spec sr3 (n := n) (by omega) rg) fun d B4 ⟨D4, r2, qs, e, lr2, hr2, ne2, few2, in2⟩ => ?_
    subst e
    have hr1 := D4.keep _ _ (by omega) hr1
    have zz : (ps.map ptD).length + (qs.map ptD).length ≤ sizeLine := sl_le (by simp; omega)
    rw [ev_add_rr (muL_l hr1) (muL_l hr2) zz]
    simp only [sat_ok, sat_bad, sat_bind, sat_ite, bind_ok, bind_bad, thn_nx, thn_rt, thn_bk, thn_ct, fin_rt, fin_nx, ev_v, ev_c, ev_op, ev_un, ev_nil, ev_cons, ev_tup, ev_lst, ev_call, ev_own, ev_sl, ev_no, ev_part, ev_and, ev_or, ev_not, ev_if, ev_t, ev_tb, ev_tnot, ev_tand, ev_tor, ev_mt, ev_mt0, ev_rgd, ev_set, ev_asg, ev_ret, ev_retN, ev_ex, ev_pass, ev_brk, ev_cont, ev_ifS, ev_aug, ev_gn, ev_gtp, ev_gnl, ev_gcs, ev_gsb, ev_for, ev_rg1, ev_rg2, ev_its, ev_enum, ev_lc, ev_yes, ev_add_ii, ev_add_ss, ev_add_tt, ev_add_rr, ev_sub, ev_mul, ev_mod, ev_fdiv, ev_pow, ev_neg, ev_lt, ev_le, ev_gt, ev_ge, ev_eq_ii, ev_eq_ss, ev_eq_bb, ev_ne_ii, ev_ne_ss, ev_ne_bb, ev_is_n, ev_isnt_n, ev_int_i, ev_int_b, ev_min_ii, ev_max_ii, ev_abs, ev_tup_of, ev_tup_ofL, ev_lst_ofT, ev_lst_ofL, ev_len_t, ev_len_s, ev_len_r, ev_tru_b, ev_alloc, ev_tupD, ev_lstD, isi_tuple_non, isi_tuple_bl, isi_tuple_int, isi_tuple_str, isi_tuple_tup, isi_tuple_l, isi_tuple_f, isi_list_non, isi_list_bl, isi_list_int, isi_list_str, isi_list_tup, isi_list_l, isi_list_f, isi_bool_non, isi_bool_bl, isi_bool_int, isi_bool_str, isi_bool_tup, isi_bool_l, isi_bool_f, isi_int_non, isi_int_bl, isi_int_int, isi_int_str, isi_int_tup, isi_int_l, isi_int_f, isi_str_non, isi_str_bl, isi_str_int, isi_str_str, isi_str_tup, isi_str_l, isi_str_f, isi_dict_non, isi_dict_bl, isi_dict_int, isi_dict_str, isi_dict_tup, isi_dict_l, isi_dict_f, Ab.isNon, args, List.map, List.length_cons, List.length_nil, List.length_singleton, List.replicate, Nat.reduceSub, Nat.reduceAdd, Nat.zero_add, List.cons_append, List.nil_append, List.getElem?_cons_zero, List.getElem?_cons_succ, List.set_cons_zero, List.set_cons_succ, Option.some.injEq, decide_eq_true_eq, Bool.not_eq_true', decide_eq_false_iff_not, ite_true, ite_false, if_true, if_false, reduceIte, Bool.false_eq_true, Bool.not_true, Bool.not_false, Bool.true_eq_false, decide_true, decide_false, Nat.reduceLeDiff, Nat.reduceLT]
    have h5 := at_new (A := B4) (o := .lst (ps.map ptD ++ qs.map ptD))
    have em : ps.map ptD ++ qs.map ptD = (ps ++ qs).map ptD := by rw [List.map_append]
    rw [em] at h5 ⊢
    have ne3 : ps ++ qs ≠ [] := fun e => ne1 (List.append_eq_nil_iff.mp e).1
    have in3 : ∀ p ∈ ps ++ qs, InR pr p := fun p hp => (List.mem_append.mp hp).elim (in1 p) (in2 p)
    have sr5 := D4.src.gr (Gr.app (B := [.lst ((ps ++ qs).map ptD)]))
    refine Sat.imp (box_spec (n := n) ne3 (by simp; omega) (fun p hp => by rw [(in3 p hp).1, rg.1]) (by omega) h5) fun d B5 ⟨e, G5⟩ => ?_
    subst e
    have sr6 := sr5.gr G5
    have hq := at_new (A := B5) (o := .lst [matD (n + 1) (mx ps), matD (n + 1) (mx (ps ++ qs))])
    have qs_ : B5.length ≠ s := by have := sr6.lt; omega
    have sr7 := sr6.gr (Gr.app (B := [.lst [matD (n + 1) (mx ps), matD (n + 1) (mx (ps ++ qs))]]))
    generalize B5 ++ [.lst [matD (n + 1) (mx ps), matD (n + 1) (mx (ps ++ qs))]] = B6 at *
    generalize B5.length = q at *
    have b0 : Bx (n + 1) (fst0 pr) (snd0 pr) (mx ps) := bx_of ne1 in1
    have b1 : Bx (n + 1) (fst0 pr) (snd0 pr) (mx (ps ++ qs)) := bx_of ne3 in3
    have le : ∀ i j, i < n + 1 → j < n + 1 → mx ps i j ≤ mx (ps ++ qs) i j := fun i j _ _ => by
      obtain ⟨p, hp, e⟩ := mx_mem (i := i) (j := j) ne1
      rw [← e]
      exact mx_ge (List.mem_append_left _ hp)
    refine sat_seq ?_
    simp only [sat_ok, sat_bad, sat_bind, sat_ite, bind_ok, bind_bad, thn_nx, thn_rt, thn_bk, thn_ct, fin_rt, fin_nx, ev_v, ev_c, ev_op, ev_un, ev_nil, ev_cons, ev_tup, ev_lst, ev_call, ev_own, ev_sl, ev_no, ev_part, ev_and, ev_or, ev_not, ev_if, ev_t, ev_tb, ev_tnot, ev_tand, ev_tor, ev_mt, ev_mt0, ev_rgd, ev_set, ev_asg, ev_ret, ev_retN, ev_ex, ev_pass, ev_brk, ev_cont, ev_ifS, ev_aug, ev_gn, ev_gtp, ev_gnl, ev_gcs, ev_gsb, ev_for, ev_rg1, ev_rg2, ev_its, ev_enum, ev_lc, ev_yes, ev_add_ii, ev_add_ss, ev_add_tt, ev_add_rr, ev_sub, ev_mul, ev_mod, ev_fdiv, ev_pow, ev_neg, ev_lt, ev_le, ev_gt, ev_ge, ev_eq_ii, ev_eq_ss, ev_eq_bb, ev_ne_ii, ev_ne_ss, ev_ne_bb, ev_is_n, ev_isnt_n, ev_int_i, ev_int_b, ev_min_ii, ev_max_ii, ev_abs, ev_tup_of, ev_tup_ofL, ev_lst_ofT, ev_lst_ofL, ev_len_t, ev_len_s, ev_len_r, ev_tru_b, ev_alloc, ev_tupD, ev_lstD, isi_tuple_non, isi_tuple_bl, isi_tuple_int, isi_tuple_str, isi_tuple_tup, isi_tuple_l, isi_tuple_f, isi_list_non, isi_list_bl, isi_list_int, isi_list_str, isi_list_tup, isi_list_l, isi_list_f, isi_bool_non, isi_bool_bl, isi_bool_int, isi_bool_str, isi_bool_tup, isi_bool_l, isi_bool_f, isi_int_non, isi_int_bl, isi_int_int, isi_int_str, isi_int_tup, isi_int_l, isi_int_f, isi_str_non, isi_str_bl, isi_str_int, isi_str_str, isi_str_tup, isi_str_l, isi_str_f, isi_dict_non, isi_dict_bl, isi_dict_int, isi_dict_str, isi_dict_tup, isi_dict_l, isi_dict_f, Ab.isNon, args, List.map, List.length_cons, List.length_nil, List.length_singleton, List.replicate, Nat.reduceSub, Nat.reduceAdd, Nat.zero_add, List.cons_append, List.nil_append, List.getElem?_cons_zero, List.getElem?_cons_succ, List.set_cons_zero, List.set_cons_succ, Option.some.injEq, decide_eq_true_eq, Bool.not_eq_true', decide_eq_false_iff_not, ite_true, ite_false, if_true, if_false, reduceIte, Bool.false_eq_true, Bool.not_true, Bool.not_false, Bool.true_eq_false, decide_true, decide_false, Nat.reduceLeDiff, Nat.reduceLT]
    refine Sat.imp (marks_spec sr7 qs_ (by omega) rg.1 hq) fun d B7 ⟨⟨us, e, hu, few⟩, D7⟩ => ?_
    subst e
    have hq := D7.keep _ _ qs_ hq
    refine sat_seq ?_
    simp only [sat_ok, sat_bad, sat_bind, sat_ite, bind_ok, bind_bad, thn_nx, thn_rt, thn_bk, thn_ct, fin_rt, fin_nx, ev_v, ev_c, ev_op, ev_un, ev_nil, ev_cons, ev_tup, ev_lst, ev_call, ev_own, ev_sl, ev_no, ev_part, ev_and, ev_or, ev_not, ev_if, ev_t, ev_tb, ev_tnot, ev_tand, ev_tor, ev_mt, ev_mt0, ev_rgd, ev_set, ev_asg, ev_ret, ev_retN, ev_ex, ev_pass, ev_brk, ev_cont, ev_ifS, ev_aug, ev_gn, ev_gtp, ev_gnl, ev_gcs, ev_gsb, ev_for, ev_rg1, ev_rg2, ev_its, ev_enum, ev_lc, ev_yes, ev_add_ii, ev_add_ss, ev_add_tt, ev_add_rr, ev_sub, ev_mul, ev_mod, ev_fdiv, ev_pow, ev_neg, ev_lt, ev_le, ev_gt, ev_ge, ev_eq_ii, ev_eq_ss, ev_eq_bb, ev_ne_ii, ev_ne_ss, ev_ne_bb, ev_is_n, ev_isnt_n, ev_int_i, ev_int_b, ev_min_ii, ev_max_ii, ev_abs, ev_tup_of, ev_tup_ofL, ev_lst_ofT, ev_lst_ofL, ev_len_t, ev_len_s, ev_len_r, ev_tru_b, ev_alloc, ev_tupD, ev_lstD, isi_tuple_non, isi_tuple_bl, isi_tuple_int, isi_tuple_str, isi_tuple_tup, isi_tuple_l, isi_tuple_f, isi_list_non, isi_list_bl, isi_list_int, isi_list_str, isi_list_tup, isi_list_l, isi_list_f, isi_bool_non, isi_bool_bl, isi_bool_int, isi_bool_str, isi_bool_tup, isi_bool_l, isi_bool_f, isi_int_non, isi_int_bl, isi_int_int, isi_int_str, isi_int_tup, isi_int_l, isi_int_f, isi_str_non, isi_str_bl, isi_str_int, isi_str_str, isi_str_tup, isi_str_l, isi_str_f, isi_dict_non, isi_dict_bl, isi_dict_int, isi_dict_str, isi_dict_tup, isi_dict_l, isi_dict_f, Ab.isNon, args, List.map, List.length_cons, List.length_nil, List.length_singleton, List.replicate, Nat.reduceSub, Nat.reduceAdd, Nat.zero_add, List.cons_append, List.nil_append, List.getElem?_cons_zero, List.getElem?_cons_succ, List.set_cons_zero, List.set_cons_succ, Option.some.injEq, decide_eq_true_eq, Bool.not_eq_true', decide_eq_false_iff_not, ite_true, ite_false, if_true, if_false, reduceIte, Bool.false_eq_true, Bool.not_true, Bool.not_false, Bool.true_eq_false, decide_true, decide_false, Nat.reduceLeDiff, Nat.reduceLT]
    refine Sat.imp (marks_spec D7.src qs_ (by omega) rg.1 hq) fun d B8 ⟨⟨us2, e, hu2, few2'⟩, D8⟩ => ?_
    subst e
    have hq := D8.keep _ _ qs_ hq
    refine sat_seq ?_
    simp only [sat_ok, sat_bad, sat_bind, sat_ite, bind_ok, bind_bad, thn_nx, thn_rt, thn_bk, thn_ct, fin_rt, fin_nx, ev_v, ev_c, ev_op, ev_un, ev_nil, ev_cons, ev_tup, ev_lst, ev_call, ev_own, ev_sl, ev_no, ev_part, ev_and, ev_or, ev_not, ev_if, ev_t, ev_tb, ev_tnot, ev_tand, ev_tor, ev_mt, ev_mt0, ev_rgd, ev_set, ev_asg, ev_ret, ev_retN, ev_ex, ev_pass, ev_brk, ev_cont, ev_ifS, ev_aug, ev_gn, ev_gtp, ev_gnl, ev_gcs, ev_gsb, ev_for, ev_rg1, ev_rg2, ev_its, ev_enum, ev_lc, ev_yes, ev_add_ii, ev_add_ss, ev_add_tt, ev_add_rr, ev_sub, ev_mul, ev_mod, ev_fdiv, ev_pow, ev_neg, ev_lt, ev_le, ev_gt, ev_ge, ev_eq_ii, ev_eq_ss, ev_eq_bb, ev_ne_ii, ev_ne_ss, ev_ne_bb, ev_is_n, ev_isnt_n, ev_int_i, ev_int_b, ev_min_ii, ev_max_ii, ev_abs, ev_tup_of, ev_tup_ofL, ev_lst_ofT, ev_lst_ofL, ev_len_t, ev_len_s, ev_len_r, ev_tru_b, ev_alloc, ev_tupD, ev_lstD, isi_tuple_non, isi_tuple_bl, isi_tuple_int, isi_tuple_str, isi_tuple_tup, isi_tuple_l, isi_tuple_f, isi_list_non, isi_list_bl, isi_list_int, isi_list_str, isi_list_tup, isi_list_l, isi_list_f, isi_bool_non, isi_bool_bl, isi_bool_int, isi_bool_str, isi_bool_tup, isi_bool_l, isi_bool_f, isi_int_non, isi_int_bl, isi_int_int, isi_int_str, isi_int_tup, isi_int_l, isi_int_f, isi_str_non, isi_str_bl, isi_str_int, isi_str_str, isi_str_tup, isi_str_l, isi_str_f, isi_dict_non, isi_dict_bl, isi_dict_int, isi_dict_str, isi_dict_tup, isi_dict_l, isi_dict_f, Ab.isNon, args, List.map, List.length_cons, List.length_nil, List.length_singleton, List.replicate, Nat.reduceSub, Nat.reduceAdd, Nat.zero_add, List.cons_append, List.nil_append, List.getElem?_cons_zero, List.getElem?_cons_succ, List.set_cons_zero, List.set_cons_succ, Option.some.injEq, decide_eq_true_eq, Bool.not_eq_true', decide_eq_false_iff_not, ite_true, ite_false, if_true, if_false, reduceIte, Bool.false_eq_true, Bool.not_true, Bool.not_false, Bool.true_eq_false, decide_true, decide_false, Nat.reduceLeDiff, Nat.reduceLT]
    refine Sat.imp (right_spec (by omega) rg.1 hu few hq b0 b1 le) fun d B9 ⟨e, G9⟩ => ?_
    subst e
    have hq := G9.keep _ _ hq
    simp only [sat_ok, sat_bad, sat_bind, sat_ite, bind_ok, bind_bad, thn_nx, thn_rt, thn_bk, thn_ct, fin_rt, fin_nx, ev_v, ev_c, ev_op, ev_un, ev_nil, ev_cons, ev_tup, ev_lst, ev_call, ev_own, ev_sl, ev_no, ev_part, ev_and, ev_or, ev_not, ev_if, ev_t, ev_tb, ev_tnot, ev_tand, ev_tor, ev_mt, ev_mt0, ev_rgd, ev_set, ev_asg, ev_ret, ev_retN, ev_ex, ev_pass, ev_brk, ev_cont, ev_ifS, ev_aug, ev_gn, ev_gtp, ev_gnl, ev_gcs, ev_gsb, ev_for, ev_rg1, ev_rg2, ev_its, ev_enum, ev_lc, ev_yes, ev_add_ii, ev_add_ss, ev_add_tt, ev_add_rr, ev_sub, ev_mul, ev_mod, ev_fdiv, ev_pow, ev_neg, ev_lt, ev_le, ev_gt, ev_ge, ev_eq_ii, ev_eq_ss, ev_eq_bb, ev_ne_ii, ev_ne_ss, ev_ne_bb, ev_is_n, ev_isnt_n, ev_int_i, ev_int_b, ev_min_ii, ev_max_ii, ev_abs, ev_tup_of, ev_tup_ofL, ev_lst_ofT, ev_lst_ofL, ev_len_t, ev_len_s, ev_len_r, ev_tru_b, ev_alloc, ev_tupD, ev_lstD, isi_tuple_non, isi_tuple_bl, isi_tuple_int, isi_tuple_str, isi_tuple_tup, isi_tuple_l, isi_tuple_f, isi_list_non, isi_list_bl, isi_list_int, isi_list_str, isi_list_tup, isi_list_l, isi_list_f, isi_bool_non, isi_bool_bl, isi_bool_int, isi_bool_str, isi_bool_tup, isi_bool_l, isi_bool_f, isi_int_non, isi_int_bl, isi_int_int, isi_int_str, isi_int_tup, isi_int_l, isi_int_f, isi_str_non, isi_str_bl, isi_str_int, isi_str_str, isi_str_tup, isi_str_l, isi_str_f, isi_dict_non, isi_dict_bl, isi_dict_int, isi_dict_str, isi_dict_tup, isi_dict_l, isi_dict_f, Ab.isNon, args, List.map, List.length_cons, List.length_nil, List.length_singleton, List.replicate, Nat.reduceSub, Nat.reduceAdd, Nat.zero_add, List.cons_append, List.nil_append, List.getElem?_cons_zero, List.getElem?_cons_succ, List.set_cons_zero, List.set_cons_succ, Option.some.injEq, decide_eq_true_eq, Bool.not_eq_true', decide_eq_false_iff_not, ite_true, ite_false, if_true, if_false, reduceIte, Bool.false_eq_true, Bool.not_true, Bool.not_false, Bool.true_eq_false, decide_true, decide_false, Nat.reduceLeDiff, Nat.reduceLT]
    refine Sat.imp (right_spec (by omega) rg.1 hu2 few2' hq b0 b1 le) fun d B10 ⟨e, G10⟩ => ?_
    subst e
    have hq := G10.keep _ _ hq
    simp only [sat_ok, sat_bad, sat_bind, sat_ite, bind_ok, bind_bad, thn_nx, thn_rt, thn_bk, thn_ct, fin_rt, fin_nx, ev_v, ev_c, ev_op, ev_un, ev_nil, ev_cons, ev_tup, ev_lst, ev_call, ev_own, ev_sl, ev_no, ev_part, ev_and, ev_or, ev_not, ev_if, ev_t, ev_tb, ev_tnot, ev_tand, ev_tor, ev_mt, ev_mt0, ev_rgd, ev_set, ev_asg, ev_ret, ev_retN, ev_ex, ev_pass, ev_brk, ev_cont, ev_ifS, ev_aug, ev_gn, ev_gtp, ev_gnl, ev_gcs, ev_gsb, ev_for, ev_rg1, ev_rg2, ev_its, ev_enum, ev_lc, ev_yes, ev_add_ii, ev_add_ss, ev_add_tt, ev_add_rr, ev_sub, ev_mul, ev_mod, ev_fdiv, ev_pow, ev_neg, ev_lt, ev_le, ev_gt, ev_ge, ev_eq_ii, ev_eq_ss, ev_eq_bb, ev_ne_ii, ev_ne_ss, ev_ne_bb, ev_is_n, ev_isnt_n, ev_int_i, ev_int_b, ev_min_ii, ev_max_ii, ev_abs, ev_tup_of, ev_tup_ofL, ev_lst_ofT, ev_lst_ofL, ev_len_t, ev_len_s, ev_len_r, ev_tru_b, ev_alloc, ev_tupD, ev_lstD, isi_tuple_non, isi_tuple_bl, isi_tuple_int, isi_tuple_str, isi_tuple_tup, isi_tuple_l, isi_tuple_f, isi_list_non, isi_list_bl, isi_list_int, isi_list_str, isi_list_tup, isi_list_l, isi_list_f, isi_bool_non, isi_bool_bl, isi_bool_int, isi_bool_str, isi_bool_tup, isi_bool_l, isi_bool_f, isi_int_non, isi_int_bl, isi_int_int, isi_int_str, isi_int_tup, isi_int_l, isi_int_f, isi_str_non, isi_str_bl, isi_str_int, isi_str_str, isi_str_tup, isi_str_l, isi_str_f, isi_dict_non, isi_dict_bl, isi_dict_int, isi_dict_str, isi_dict_tup, isi_dict_l, isi_dict_f, Ab.isNon, args, List.map, List.length_cons, List.length_nil, List.length_singleton, List.replicate, Nat.reduceSub, Nat.reduceAdd, Nat.zero_add, List.cons_append, List.nil_append, List.getElem?_cons_zero, List.getElem?_cons_succ, List.set_cons_zero, List.set_cons_succ, Option.some.injEq, decide_eq_true_eq, Bool.not_eq_true', decide_eq_false_iff_not, ite_true, ite_false, if_true, if_false, reduceIte, Bool.false_eq_true, Bool.not_true, Bool.not_false, Bool.true_eq_false, decide_true, decide_false, Nat.reduceLeDiff, Nat.reduceLT]
    exact Sat.imp (right_spec (by omega) rg.1 hu few hq b0 b1 le) fun d B11 ⟨e, _⟩ => e
  obtain ⟨d, A', e, rfl⟩ := key.eq
  exact ⟨A', e⟩
end Law

namespace Law
open PySem PySem.Spec PyProof.Rows L2 Ab
theorem all_mk {l : PySem.W.OpenLaw} {w : World} {K : PySem.W.Frag} {h : Heap} {mg : Str → Option Value} {fa : Addr} (X : K.In h) (G : h.Ns mainGlobals mg) (hfa : mg "law" = some (.ref fa))
    {f0 : Addr} {od0 an0 : Option Addr} {sl0 : Array (Option Value)} {oc0 kV0 dc0 pm0 cd0 ct0 : Value}
    {f1 : Addr} {od1 an1 : Option Addr} {sl1 : Array (Option Value)} {oc1 kV1 dc1 pm1 cd1 ct1 : Value}
    {f2 : Addr} {od2 an2 : Option Addr} {sl2 : Array (Option Value)} {oc2 kV2 dc2 pm2 cd2 ct2 : Value}
    {f3 : Addr} {od3 an3 : Option Addr} {sl3 : Array (Option Value)} {oc3 kV3 dc3 pm3 cd3 ct3 : Value}
    {f4 : Addr} {od4 an4 : Option Addr} {sl4 : Array (Option Value)} {oc4 kV4 dc4 pm4 cd4 ct4 : Value}
    {f5 : Addr} {od5 an5 : Option Addr} {sl5 : Array (Option Value)} {oc5 kV5 dc5 pm5 cd5 ct5 : Value}
    {f6 : Addr} {od6 an6 : Option Addr} {sl6 : Array (Option Value)} {oc6 kV6 dc6 pm6 cd6 ct6 : Value}
    {f7 : Addr} {od7 an7 : Option Addr} {sl7 : Array (Option Value)} {oc7 kV7 dc7 pm7 cd7 ct7 : Value}
    {f8 : Addr} {od8 an8 : Option Addr} {sl8 : Array (Option Value)} {oc8 kV8 dc8 pm8 cd8 ct8 : Value}
    {f9 : Addr} {od9 an9 : Option Addr} {sl9 : Array (Option Value)} {oc9 kV9 dc9 pm9 cd9 ct9 : Value}
    {f10 : Addr} {od10 an10 : Option Addr} {sl10 : Array (Option Value)} {oc10 kV10 dc10 pm10 cd10 ct10 : Value}
    {f11 : Addr} {od11 an11 : Option Addr} {sl11 : Array (Option Value)} {oc11 kV11 dc11 pm11 cd11 ct11 : Value}
    {f12 : Addr} {od12 an12 : Option Addr} {sl12 : Array (Option Value)} {oc12 kV12 dc12 pm12 cd12 ct12 : Value}
    {f13 : Addr} {od13 an13 : Option Addr} {sl13 : Array (Option Value)} {oc13 kV13 dc13 pm13 cd13 ct13 : Value}
    {f14 : Addr} {od14 an14 : Option Addr} {sl14 : Array (Option Value)} {oc14 kV14 dc14 pm14 cd14 ct14 : Value}
    {f15 : Addr} {od15 an15 : Option Addr} {sl15 : Array (Option Value)} {oc15 kV15 dc15 pm15 cd15 ct15 : Value}
    {f16 : Addr} {od16 an16 : Option Addr} {sl16 : Array (Option Value)} {oc16 kV16 dc16 pm16 cd16 ct16 : Value}
    {f17 : Addr} {od17 an17 : Option Addr} {sl17 : Array (Option Value)} {oc17 kV17 dc17 pm17 cd17 ct17 : Value}
    {f18 : Addr} {od18 an18 : Option Addr} {sl18 : Array (Option Value)} {oc18 kV18 dc18 pm18 cd18 ct18 : Value}
    {f19 : Addr} {od19 an19 : Option Addr} {sl19 : Array (Option Value)} {oc19 kV19 dc19 pm19 cd19 ct19 : Value}
    {f20 : Addr} {od20 an20 : Option Addr} {sl20 : Array (Option Value)} {oc20 kV20 dc20 pm20 cd20 ct20 : Value}
    {f21 : Addr} {od21 an21 : Option Addr} {sl21 : Array (Option Value)} {oc21 kV21 dc21 pm21 cd21 ct21 : Value}
    (a0 : PySem.W.nsIn K mainGlobals "_law_box" = some (some (.ref f0))) (l0 : K.lookup f0 = some ⟨oc0, od0, .func (PySem.W.fnOf "_law_box" "_law_box" (defArgs s__law_box) (defBody s__law_box) (defScope s__law_box) .none kV0 dc0 pm0 an0 cd0 ct0), sl0⟩) (c0 : PySem.W.codeIn K cd0 "_law_box" = true) (k0 : PySem.W.keepIn K (.ref f0) = true)
    (a1 : PySem.W.nsIn K mainGlobals "_law_cell" = some (some (.ref f1))) (l1 : K.lookup f1 = some ⟨oc1, od1, .func (PySem.W.fnOf "_law_cell" "_law_cell" (defArgs s__law_cell) (defBody s__law_cell) (defScope s__law_cell) .none kV1 dc1 pm1 an1 cd1 ct1), sl1⟩) (c1 : PySem.W.codeIn K cd1 "_law_cell" = true) (k1 : PySem.W.keepIn K (.ref f1) = true)
    (a2 : PySem.W.nsIn K mainGlobals "_law_pick" = some (some (.ref f2))) (l2 : K.lookup f2 = some ⟨oc2, od2, .func (PySem.W.fnOf "_law_pick" "_law_pick" (defArgs s__law_pick) (defBody s__law_pick) (defScope s__law_pick) .none kV2 dc2 pm2 an2 cd2 ct2), sl2⟩) (c2 : PySem.W.codeIn K cd2 "_law_pick" = true) (k2 : PySem.W.keepIn K (.ref f2) = true)
    (a3 : PySem.W.nsIn K mainGlobals "_law_far" = some (some (.ref f3))) (l3 : K.lookup f3 = some ⟨oc3, od3, .func (PySem.W.fnOf "_law_far" "_law_far" (defArgs s__law_far) (defBody s__law_far) (defScope s__law_far) .none kV3 dc3 pm3 an3 cd3 ct3), sl3⟩) (c3 : PySem.W.codeIn K cd3 "_law_far" = true) (k3 : PySem.W.keepIn K (.ref f3) = true)
    (a4 : PySem.W.nsIn K mainGlobals "_law_one" = some (some (.ref f4))) (l4 : K.lookup f4 = some ⟨oc4, od4, .func (PySem.W.fnOf "_law_one" "_law_one" (defArgs s__law_one) (defBody s__law_one) (defScope s__law_one) .none kV4 dc4 pm4 an4 cd4 ct4), sl4⟩) (c4 : PySem.W.codeIn K cd4 "_law_one" = true) (k4 : PySem.W.keepIn K (.ref f4) = true)
    (a5 : PySem.W.nsIn K mainGlobals "_law_marks" = some (some (.ref f5))) (l5 : K.lookup f5 = some ⟨oc5, od5, .func (PySem.W.fnOf "_law_marks" "_law_marks" (defArgs s__law_marks) (defBody s__law_marks) (defScope s__law_marks) .none kV5 dc5 pm5 an5 cd5 ct5), sl5⟩) (c5 : PySem.W.codeIn K cd5 "_law_marks" = true) (k5 : PySem.W.keepIn K (.ref f5) = true)
    (a6 : PySem.W.nsIn K mainGlobals "_law_points" = some (some (.ref f6))) (l6 : K.lookup f6 = some ⟨oc6, od6, .func (PySem.W.fnOf "_law_points" "_law_points" (defArgs s__law_points) (defBody s__law_points) (defScope s__law_points) .none kV6 dc6 pm6 an6 cd6 ct6), sl6⟩) (c6 : PySem.W.codeIn K cd6 "_law_points" = true) (k6 : PySem.W.keepIn K (.ref f6) = true)
    (a7 : PySem.W.nsIn K mainGlobals "_law_ranges" = some (some (.ref f7))) (l7 : K.lookup f7 = some ⟨oc7, od7, .func (PySem.W.fnOf "_law_ranges" "_law_ranges" (defArgs s__law_ranges) (defBody s__law_ranges) (defScope s__law_ranges) .none kV7 dc7 pm7 an7 cd7 ct7), sl7⟩) (c7 : PySem.W.codeIn K cd7 "_law_ranges" = true) (k7 : PySem.W.keepIn K (.ref f7) = true)
    (a8 : PySem.W.nsIn K mainGlobals "_law_below" = some (some (.ref f8))) (l8 : K.lookup f8 = some ⟨oc8, od8, .func (PySem.W.fnOf "_law_below" "_law_below" (defArgs s__law_below) (defBody s__law_below) (defScope s__law_below) .none kV8 dc8 pm8 an8 cd8 ct8), sl8⟩) (c8 : PySem.W.codeIn K cd8 "_law_below" = true) (k8 : PySem.W.keepIn K (.ref f8) = true)
    (a9 : PySem.W.nsIn K mainGlobals "_law_closed" = some (some (.ref f9))) (l9 : K.lookup f9 = some ⟨oc9, od9, .func (PySem.W.fnOf "_law_closed" "_law_closed" (defArgs s__law_closed) (defBody s__law_closed) (defScope s__law_closed) .none kV9 dc9 pm9 an9 cd9 ct9), sl9⟩) (c9 : PySem.W.codeIn K cd9 "_law_closed" = true) (k9 : PySem.W.keepIn K (.ref f9) = true)
    (a10 : PySem.W.nsIn K mainGlobals "_law_widest" = some (some (.ref f10))) (l10 : K.lookup f10 = some ⟨oc10, od10, .func (PySem.W.fnOf "_law_widest" "_law_widest" (defArgs s__law_widest) (defBody s__law_widest) (defScope s__law_widest) .none kV10 dc10 pm10 an10 cd10 ct10), sl10⟩) (c10 : PySem.W.codeIn K cd10 "_law_widest" = true) (k10 : PySem.W.keepIn K (.ref f10) = true)
    (a11 : PySem.W.nsIn K mainGlobals "_law_due" = some (some (.ref f11))) (l11 : K.lookup f11 = some ⟨oc11, od11, .func (PySem.W.fnOf "_law_due" "_law_due" (defArgs s__law_due) (defBody s__law_due) (defScope s__law_due) .none kV11 dc11 pm11 an11 cd11 ct11), sl11⟩) (c11 : PySem.W.codeIn K cd11 "_law_due" = true) (k11 : PySem.W.keepIn K (.ref f11) = true)
    (a12 : PySem.W.nsIn K mainGlobals "_law_same" = some (some (.ref f12))) (l12 : K.lookup f12 = some ⟨oc12, od12, .func (PySem.W.fnOf "_law_same" "_law_same" (defArgs s__law_same) (defBody s__law_same) (defScope s__law_same) .none kV12 dc12 pm12 an12 cd12 ct12), sl12⟩) (c12 : PySem.W.codeIn K cd12 "_law_same" = true) (k12 : PySem.W.keepIn K (.ref f12) = true)
    (a13 : PySem.W.nsIn K mainGlobals "frozen" = some (some (.ref f13))) (l13 : K.lookup f13 = some ⟨oc13, od13, .func (PySem.W.fnOf "frozen" "frozen" (defArgs s_frozen) (defBody s_frozen) (defScope s_frozen) .none kV13 dc13 pm13 an13 cd13 ct13), sl13⟩) (c13 : PySem.W.codeIn K cd13 "frozen" = true) (k13 : PySem.W.keepIn K (.ref f13) = true)
    (a14 : PySem.W.nsIn K mainGlobals "has_negative" = some (some (.ref f14))) (l14 : K.lookup f14 = some ⟨oc14, od14, .func (PySem.W.fnOf "has_negative" "has_negative" (defArgs s_has_negative) (defBody s_has_negative) (defScope s_has_negative) .none kV14 dc14 pm14 an14 cd14 ct14), sl14⟩) (c14 : PySem.W.codeIn K cd14 "has_negative" = true) (k14 : PySem.W.keepIn K (.ref f14) = true)
    (a15 : PySem.W.nsIn K mainGlobals "shorten" = some (some (.ref f15))) (l15 : K.lookup f15 = some ⟨oc15, od15, .func (PySem.W.fnOf "shorten" "shorten" (defArgs s_shorten) (defBody s_shorten) (defScope s_shorten) .none kV15 dc15 pm15 an15 cd15 ct15), sl15⟩) (c15 : PySem.W.codeIn K cd15 "shorten" = true) (k15 : PySem.W.keepIn K (.ref f15) = true)
    (a16 : PySem.W.nsIn K mainGlobals "close" = some (some (.ref f16))) (l16 : K.lookup f16 = some ⟨oc16, od16, .func (PySem.W.fnOf "close" "close" (defArgs s_close) (defBody s_close) (defScope s_close) .none kV16 dc16 pm16 an16 cd16 ct16), sl16⟩) (c16 : PySem.W.codeIn K cd16 "close" = true) (k16 : PySem.W.keepIn K (.ref f16) = true)
    (a17 : PySem.W.nsIn K mainGlobals "round_up" = some (some (.ref f17))) (l17 : K.lookup f17 = some ⟨oc17, od17, .func (PySem.W.fnOf "round_up" "round_up" (defArgs s_round_up) (defBody s_round_up) (defScope s_round_up) .none kV17 dc17 pm17 an17 cd17 ct17), sl17⟩) (c17 : PySem.W.codeIn K cd17 "round_up" = true) (k17 : PySem.W.keepIn K (.ref f17) = true)
    (a18 : PySem.W.nsIn K mainGlobals "round_box" = some (some (.ref f18))) (l18 : K.lookup f18 = some ⟨oc18, od18, .func (PySem.W.fnOf "round_box" "round_box" (defArgs s_round_box) (defBody s_round_box) (defScope s_round_box) .none kV18 dc18 pm18 an18 cd18 ct18), sl18⟩) (c18 : PySem.W.codeIn K cd18 "round_box" = true) (k18 : PySem.W.keepIn K (.ref f18) = true)
    (a19 : PySem.W.nsIn K mainGlobals "_law_right" = some (some (.ref f19))) (l19 : K.lookup f19 = some ⟨oc19, od19, .func (PySem.W.fnOf "_law_right" "_law_right" (defArgs s__law_right) (defBody s__law_right) (defScope s__law_right) .none kV19 dc19 pm19 an19 cd19 ct19), sl19⟩) (c19 : PySem.W.codeIn K cd19 "_law_right" = true) (k19 : PySem.W.keepIn K (.ref f19) = true)
    (a20 : PySem.W.nsIn K mainGlobals "_law_source" = some (some (.ref f20))) (l20 : K.lookup f20 = some ⟨oc20, od20, .func (PySem.W.fnOf "_law_source" "_law_source" (defArgs s__law_source) (defBody s__law_source) (defScope s__law_source) .none kV20 dc20 pm20 an20 cd20 ct20), sl20⟩) (c20 : PySem.W.codeIn K cd20 "_law_source" = true) (k20 : PySem.W.keepIn K (.ref f20) = true)
    (a21 : PySem.W.nsIn K mainGlobals "law" = some (some (.ref f21))) (l21 : K.lookup f21 = some ⟨oc21, od21, .func (PySem.W.fnOf "law" "law" (defArgs s_law) (defBody s_law) (defScope s_law) .none kV21 dc21 pm21 an21 cd21 ct21), sl21⟩) (c21 : PySem.W.codeIn K cd21 "law" = true) (k21 : PySem.W.keepIn K (.ref f21) = true)
    (z0 : PySem.W.nsIn K mainGlobals "bool" = some none)
    (z1 : PySem.W.nsIn K mainGlobals "enumerate" = some none)
    (z2 : PySem.W.nsIn K mainGlobals "int" = some none)
    (z3 : PySem.W.nsIn K mainGlobals "isinstance" = some none)
    (z4 : PySem.W.nsIn K mainGlobals "len" = some none)
    (z5 : PySem.W.nsIn K mainGlobals "list" = some none)
    (z6 : PySem.W.nsIn K mainGlobals "max" = some none)
    (z7 : PySem.W.nsIn K mainGlobals "min" = some none)
    (z8 : PySem.W.nsIn K mainGlobals "range" = some none)
    (z9 : PySem.W.nsIn K mainGlobals "set" = some none)
    (z10 : PySem.W.nsIn K mainGlobals "sorted" = some none)
    (z11 : PySem.W.nsIn K mainGlobals "str" = some none)
    (z12 : PySem.W.nsIn K mainGlobals "tuple" = some none)
    : ∃ fd : FuncData, (∀ (s : Shared) (v : Value), BindsTo s fd ⟨[v], []⟩ [("_law_script", v)]) ∧ ∀ base : Heap, K.In base → base.Ns mainGlobals mg → FnOk l.prog w K mg base CX0 22 fa fd ["_law_script"] (spM K 1 m_law) := by
  have e := hfa.symm.trans (PySem.W.mg_of X G a21)
  cases e
  have F0 := fun_mk (st := s__law_box) l0 c0 k0
  have b0 := F0.binds (ps := ["_law_points_here"]) fun _ _ _ _ _ _ us hl => match us, hl with | [_], _ => rfl
  have F1 := fun_mk (st := s__law_cell) l1 c1 k1
  have b1 := F1.binds (ps := ["_law_script", "_law_at"]) fun _ _ _ _ _ _ us hl => match us, hl with | [_, _], _ => rfl
  have F2 := fun_mk (st := s__law_pick) l2 c2 k2
  have b2 := F2.binds (ps := ["_law_source_here", "_law_size"]) fun _ _ _ _ _ _ us hl => match us, hl with | [_, _], _ => rfl
  have F3 := fun_mk (st := s__law_far) l3 c3 k3
  have b3 := F3.binds (ps := ["_law_source_here"]) fun _ _ _ _ _ _ us hl => match us, hl with | [_], _ => rfl
  have F4 := fun_mk (st := s__law_one) l4 c4 k4
  have b4 := F4.binds (ps := ["_law_source_here", "_law_row"]) fun _ _ _ _ _ _ us hl => match us, hl with | [_, _], _ => rfl
  have F5 := fun_mk (st := s__law_marks) l5 c5 k5
  have b5 := F5.binds (ps := ["_law_source_here", "_law_ranges_here", "_law_boxes"]) fun _ _ _ _ _ _ us hl => match us, hl with | [_, _, _], _ => rfl
  have F6 := fun_mk (st := s__law_points) l6 c6 k6
  have b6 := F6.binds (ps := ["_law_source_here", "_law_ranges_here"]) fun _ _ _ _ _ _ us hl => match us, hl with | [_, _], _ => rfl
  have F7 := fun_mk (st := s__law_ranges) l7 c7 k7
  have b7 := F7.binds (ps := ["_law_source_here", "_law_size"]) fun _ _ _ _ _ _ us hl => match us, hl with | [_, _], _ => rfl
  have F8 := fun_mk (st := s__law_below) l8 c8 k8
  have b8 := F8.binds (ps := ["_law_small", "_law_great"]) fun _ _ _ _ _ _ us hl => match us, hl with | [_, _], _ => rfl
  have F9 := fun_mk (st := s__law_closed) l9 c9 k9
  have b9 := F9.binds (ps := ["_law_rows"]) fun _ _ _ _ _ _ us hl => match us, hl with | [_], _ => rfl
  have F10 := fun_mk (st := s__law_widest) l10 c10 k10
  have b10 := F10.binds (ps := ["_law_ranges_here"]) fun _ _ _ _ _ _ us hl => match us, hl with | [_], _ => rfl
  have F11 := fun_mk (st := s__law_due) l11 c11 k11
  have b11 := F11.binds (ps := ["_law_box_here", "_law_ranges_here", "_law_marks_here"]) fun _ _ _ _ _ _ us hl => match us, hl with | [_, _, _], _ => rfl
  have F12 := fun_mk (st := s__law_same) l12 c12 k12
  have b12 := F12.binds (ps := ["_law_actual", "_law_due_here"]) fun _ _ _ _ _ _ us hl => match us, hl with | [_, _], _ => rfl
  have F13 := fun_mk (st := s_frozen) l13 c13 k13
  have b13 := F13.binds (ps := ["rows"]) fun _ _ _ _ _ _ us hl => match us, hl with | [_], _ => rfl
  have F14 := fun_mk (st := s_has_negative) l14 c14 k14
  have b14 := F14.binds (ps := ["rows"]) fun _ _ _ _ _ _ us hl => match us, hl with | [_], _ => rfl
  have F15 := fun_mk (st := s_shorten) l15 c15 k15
  have b15 := F15.binds (ps := ["rows", "middle"]) fun _ _ _ _ _ _ us hl => match us, hl with | [_, _], _ => rfl
  have F16 := fun_mk (st := s_close) l16 c16 k16
  have b16 := F16.binds (ps := ["matrix"]) fun _ _ _ _ _ _ us hl => match us, hl with | [_], _ => rfl
  have F17 := fun_mk (st := s_round_up) l17 c17 k17
  have b17 := F17.binds (ps := ["number", "marks", "greatest"]) fun _ _ _ _ _ _ us hl => match us, hl with | [_, _, _], _ => rfl
  have F18 := fun_mk (st := s_round_box) l18 c18 k18
  have b18 := F18.binds (ps := ["box", "ranges", "marks"]) fun _ _ _ _ _ _ us hl => match us, hl with | [_, _, _], _ => rfl
  have F19 := fun_mk (st := s__law_right) l19 c19 k19
  have b19 := F19.binds (ps := ["_law_boxes", "_law_ranges_here", "_law_marks_here"]) fun _ _ _ _ _ _ us hl => match us, hl with | [_, _, _], _ => rfl
  have F20 := fun_mk (st := s__law_source) l20 c20 k20
  have b20 := F20.binds (ps := ["_law_cell_here"]) fun _ _ _ _ _ _ us hl => match us, hl with | [_], _ => rfl
  have F21 := fun_mk (st := s_law) l21 c21 k21
  have b21 := F21.binds (ps := ["_law_script"]) fun _ _ _ _ _ _ us hl => match us, hl with | [_], _ => rfl
  let T : Txt K mg := ⟨f0, _, F0, b0, PySem.W.mg_of X G a0, f1, _, F1, b1, PySem.W.mg_of X G a1, f2, _, F2, b2, PySem.W.mg_of X G a2, f3, _, F3, b3, PySem.W.mg_of X G a3, f4, _, F4, b4, PySem.W.mg_of X G a4, f5, _, F5, b5, PySem.W.mg_of X G a5, f6, _, F6, b6, PySem.W.mg_of X G a6, f7, _, F7, b7, PySem.W.mg_of X G a7, f8, _, F8, b8, PySem.W.mg_of X G a8, f9, _, F9, b9, PySem.W.mg_of X G a9, f10, _, F10, b10, PySem.W.mg_of X G a10, f11, _, F11, b11, PySem.W.mg_of X G a11, f12, _, F12, b12, PySem.W.mg_of X G a12, f13, _, F13, b13, PySem.W.mg_of X G a13, f14, _, F14, b14, PySem.W.mg_of X G a14, f15, _, F15, b15, PySem.W.mg_of X G a15, f16, _, F16, b16, PySem.W.mg_of X G a16, f17, _, F17, b17, PySem.W.mg_of X G a17, f18, _, F18, b18, PySem.W.mg_of X G a18, f19, _, F19, b19, PySem.W.mg_of X G a19, f20, _, F20, b20, PySem.W.mg_of X G a20, fa, _, F21, b21, PySem.W.mg_of X G a21, PySem.W.mg_none_of X G z0, PySem.W.mg_none_of X G z1, PySem.W.mg_none_of X G z2, PySem.W.mg_none_of X G z3, PySem.W.mg_none_of X G z4, PySem.W.mg_none_of X G z5, PySem.W.mg_none_of X G z6, PySem.W.mg_none_of X G z7, PySem.W.mg_none_of X G z8, PySem.W.mg_none_of X G z9, PySem.W.mg_none_of X G z10, PySem.W.mg_none_of X G z11, PySem.W.mg_none_of X G z12⟩
  exact ⟨_, fun s v => .of_eq rfl, fun base _ _ => ad_law T⟩
end Law
open PySem PySem.W PyProof.Rows
set_option maxHeartbeats 0 in
theorem PySem.Challenge.cw_neverhappens_k28_whole_rounding_is_a_clo_holds : PySem.Challenge.rw_neverhappens_k28_whole_rounding_is_a_clo.Holds := by
  w_on; o_law; k_head; (case hw => w_witness2)
  k_fill
  refine L2.walk_ofK (l := PySem.Challenge.rw_neverhappens_k28_whole_rounding_is_a_clo) (n := 63) (k := 22) (x := "_law_script") (CX := L2.CX0) (sp := fun K => Ab.spM K 1 Law.m_law) rfl (by decide) rfl ⟨rfl, by decide, by decide⟩ (fun w h Y => PySem.W.kIn_of Y) ?F (Ab.sp_law Law.law_ok) (fun _ _ _ _ h => h)
  case F =>
    intro w mg fa h KX G hmg
    refine' Law.all_mk KX G hmg ?a0 ?l0 ?c0 ?k0 ?a1 ?l1 ?c1 ?k1 ?a2 ?l2 ?c2 ?k2 ?a3 ?l3 ?c3 ?k3 ?a4 ?l4 ?c4 ?k4 ?a5 ?l5 ?c5 ?k5 ?a6 ?l6 ?c6 ?k6 ?a7 ?l7 ?c7 ?k7 ?a8 ?l8 ?c8 ?k8 ?a9 ?l9 ?c9 ?k9 ?a10 ?l10 ?c10 ?k10 ?a11 ?l11 ?c11 ?k11 ?a12 ?l12 ?c12 ?k12 ?a13 ?l13 ?c13 ?k13 ?a14 ?l14 ?c14 ?k14 ?a15 ?l15 ?c15 ?k15 ?a16 ?l16 ?c16 ?k16 ?a17 ?l17 ?c17 ?k17 ?a18 ?l18 ?c18 ?k18 ?a19 ?l19 ?c19 ?k19 ?a20 ?l20 ?c20 ?k20 ?a21 ?l21 ?c21 ?k21 ?z0 ?z1 ?z2 ?z3 ?z4 ?z5 ?z6 ?z7 ?z8 ?z9 ?z10 ?z11 ?z12
    (case a0 => k_is); (case l0 => k_is); (case c0 => k_is); (case k0 => k_is)
    (case a1 => k_is); (case l1 => k_is); (case c1 => k_is); (case k1 => k_is)
    (case a2 => k_is); (case l2 => k_is); (case c2 => k_is); (case k2 => k_is)
    (case a3 => k_is); (case l3 => k_is); (case c3 => k_is); (case k3 => k_is)
    (case a4 => k_is); (case l4 => k_is); (case c4 => k_is); (case k4 => k_is)
    (case a5 => k_is); (case l5 => k_is); (case c5 => k_is); (case k5 => k_is)
    (case a6 => k_is); (case l6 => k_is); (case c6 => k_is); (case k6 => k_is)
    (case a7 => k_is); (case l7 => k_is); (case c7 => k_is); (case k7 => k_is)
    (case a8 => k_is); (case l8 => k_is); (case c8 => k_is); (case k8 => k_is)
    (case a9 => k_is); (case l9 => k_is); (case c9 => k_is); (case k9 => k_is)
    (case a10 => k_is); (case l10 => k_is); (case c10 => k_is); (case k10 => k_is)
    (case a11 => k_is); (case l11 => k_is); (case c11 => k_is); (case k11 => k_is)
    (case a12 => k_is); (case l12 => k_is); (case c12 => k_is); (case k12 => k_is)
    (case a13 => k_is); (case l13 => k_is); (case c13 => k_is); (case k13 => k_is)
    (case a14 => k_is); (case l14 => k_is); (case c14 => k_is); (case k14 => k_is)
    (case a15 => k_is); (case l15 => k_is); (case c15 => k_is); (case k15 => k_is)
    (case a16 => k_is); (case l16 => k_is); (case c16 => k_is); (case k16 => k_is)
    (case a17 => k_is); (case l17 => k_is); (case c17 => k_is); (case k17 => k_is)
    (case a18 => k_is); (case l18 => k_is); (case c18 => k_is); (case k18 => k_is)
    (case a19 => k_is); (case l19 => k_is); (case c19 => k_is); (case k19 => k_is)
    (case a20 => k_is); (case l20 => k_is); (case c20 => k_is); (case k20 => k_is)
    (case a21 => k_is); (case l21 => k_is); (case c21 => k_is); (case k21 => k_is)
    (case z0 => k_is)
    (case z1 => k_is)
    (case z2 => k_is)
    (case z3 => k_is)
    (case z4 => k_is)
    (case z5 => k_is)
    (case z6 => k_is)
    (case z7 => k_is)
    (case z8 => k_is)
    (case z9 => k_is)
    (case z10 => k_is)
    (case z11 => k_is)
    (case z12 => k_is)
