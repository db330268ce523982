import PyProof.Rows.All
import Wide.All
import OpenK.AllK
import Wide.FinOn
import HandS.ForMost
import HandS.Wide
import HandS.TupAny
import HandS.IsInst
import HandS.Flow
import HandS.Style
import HandS.FStr
import HandS.Deep
import HandS.Small
import HandS.RaiseMore
import HandS.More
import HandS.Conv
import HandS.Zip
import HandS.Ends
import HandS.DictComp
import PySem.Challenge.RW_neverhappens_k12_evaluate
set_option Elab.async false
set_option linter.all false
set_option maxRecDepth 100000
namespace Ab
open PySem PySem.Spec PyProof.Rows L2

/-! ## data: what a value is, with tuples as plain data; what stands in a cell; the cells -/
inductive D where
  | non | bl (b : Bool) | int (i : Int) | str (x : Str) | tup (xs : List D) | ref (i : Nat)
inductive AO where
  | lst (xs : List D) | frz (xs : List D) | dic (kvs : List (Key × D)) | ins (C : Addr) (fs : List (Str × D))
abbrev AH := List AO
inductive Res (α : Type) where
  | ok (a : α) (A : AH) | exc (C : Addr) (fs : List (Str × D)) (A : AH) | bad
def Res.bind {α β : Type} (r : Res α) (k : α → AH → Res β) : Res β := match r with
  | .ok a A => k a A
  | .exc C fs A => .exc C fs A
  | .bad => .bad
abbrev ASt := List (Option D)
inductive Fl where
  | nx (s : ASt) | rt (d : D) | bk (s : ASt) | ct (s : ASt)
abbrev FE := ASt → AH → Res D
abbrev FA := ASt → AH → Res (List D)
abbrev FT := ASt → AH → Res Bool
abbrev FS := ASt → AH → Res Fl
abbrev FO := ASt → AH → Res (Option Int)
/-- a def as a function of its arguments -/
abbrev FM := List D → AH → Res D

/-! ## how data lies in the abstract heap: ρ tells the cells' addresses -/
mutual
def Rp (K : PySem.W.Frag) (ρ : List Addr) (H : Hp) : D → V → Prop
  | .non, v => v = .non
  | .bl b, v => v = .bl b
  | .int i, v => v = .int i
  | .str x, v => v = .str x
  | .ref i, v => ∃ a, ρ[i]? = some a ∧ v = .ref a
  | .tup ds, v => ∃ a xs, v = .ref a ∧ SqT K H a xs ∧ RpL K ρ H ds xs
def RpL (K : PySem.W.Frag) (ρ : List Addr) (H : Hp) : List D → List V → Prop
  | [], xs => xs = []
  | d :: ds, xs => ∃ x r, xs = x :: r ∧ Rp K ρ H d x ∧ RpL K ρ H ds r
end
def RpK {κ : Type} (K : PySem.W.Frag) (ρ : List Addr) (H : Hp) : List (κ × D) → List (κ × V) → Prop
  | [], us => us = []
  | p :: ps, us => ∃ v r, us = (p.1, v) :: r ∧ Rp K ρ H p.2 v ∧ RpK K ρ H ps r
structure Ext (K : PySem.W.Frag) (ρ : List Addr) (H : Hp) (ρ' : List Addr) (H' : Hp) : Prop where
  pre : ∃ t, ρ' = ρ ++ t
  gr : ∀ a xs, SqT K H a xs → SqT K H' a xs
/-- a list that nobody writes: the script -/
def SqF (K : PySem.W.Frag) (H : Hp) (a : Addr) (xs : List V) : Prop := (∃ o, H a = some (.frz o (.lst xs))) ∨ SqL K (fun _ => none) a xs
def isFz : AO → Bool
  | .frz _ => true
  | _ => false
def ORel (K : PySem.W.Frag) (ρ : List Addr) (H : Hp) (a : Addr) : AO → Prop
  | .lst ds => ∃ xs, H a = some (.lst xs) ∧ RpL K ρ H ds xs
  | .frz ds => ∃ xs, SqF K H a xs ∧ RpL K ρ H ds xs
  | .dic kvs => ∃ us, H a = some (.dK us) ∧ RpK K ρ H kvs us
  | .ins C fs => ∃ dx us, H a = some (.ins C dx us) ∧ RpK K ρ H fs us
structure Rel (K : PySem.W.Frag) (ρ : List Addr) (H : Hp) (A : AH) : Prop where
  len : ρ.length = A.length
  nd : ∀ (i j : Nat) (a : Addr) o u, ρ[i]? = some a → ρ[j]? = some a → A[i]? = some o → A[j]? = some u → isFz o = false → isFz u = false → i = j
  ob : ∀ (i : Nat) o, A[i]? = some o → ∃ a, ρ[i]? = some a ∧ ORel K ρ H a o
structure SRel (K : PySem.W.Frag) (ρ : List Addr) (H : Hp) (s : ASt) (σ : L2.St) : Prop where
  len : s.length = σ.length
  at_ : ∀ (i : Nat) d, s[i]? = some (some d) → ∃ v, σ[i]? = some (some v) ∧ Rp K ρ H d v
section
variable {K : PySem.W.Frag} {ρ ρ' ρ'' : List Addr} {H H' H'' : Hp} {A A' : AH} {s : ASt} {σ : L2.St} {d : D} {v : V}
theorem Ext.refl : Ext K ρ H ρ H := ⟨⟨[], by simp⟩, fun _ _ h => h⟩
theorem Ext.trans (e : Ext K ρ H ρ' H') (f : Ext K ρ' H' ρ'' H'') : Ext K ρ H ρ'' H'' := by
  obtain ⟨t, rfl⟩ := e.pre
  obtain ⟨u, rfl⟩ := f.pre
  exact ⟨⟨t ++ u, by simp⟩, fun a xs h => f.gr a xs (e.gr a xs h)⟩
theorem Ext.at_ (e : Ext K ρ H ρ' H') {i : Nat} {a : Addr} (h : ρ[i]? = some a) : ρ'[i]? = some a := by
  obtain ⟨t, rfl⟩ := e.pre
  obtain ⟨hi, _⟩ := List.getElem?_eq_some_iff.mp h
  rw [List.getElem?_append_left hi]; exact h
mutual
theorem Rp.ext (e : Ext K ρ H ρ' H') : ∀ (d : D) (v : V), Rp K ρ H d v → Rp K ρ' H' d v
  | .non, v, h => h
  | .bl b, v, h => h
  | .int i, v, h => h
  | .str x, v, h => h
  | .ref i, v, h => by
    obtain ⟨a, h1, h2⟩ := h
    exact ⟨a, e.at_ h1, h2⟩
  | .tup ds, v, h => by
    obtain ⟨a, xs, h1, h2, h3⟩ := h
    exact ⟨a, xs, h1, e.gr _ _ h2, RpL.ext e ds xs h3⟩
theorem RpL.ext (e : Ext K ρ H ρ' H') : ∀ (ds : List D) (xs : List V), RpL K ρ H ds xs → RpL K ρ' H' ds xs
  | [], xs, h => h
  | d :: ds, xs, h => by
    obtain ⟨x, r, h1, h2, h3⟩ := h
    exact ⟨x, r, h1, Rp.ext e d x h2, RpL.ext e ds r h3⟩
end
theorem RpK.ext {κ : Type} (e : Ext K ρ H ρ' H') : ∀ (ps : List (κ × D)) (us : List (κ × V)), RpK K ρ H ps us → RpK K ρ' H' ps us
  | [], us, h => h
  | p :: ps, us, h => by
    obtain ⟨v, r, h1, h2, h3⟩ := h
    exact ⟨v, r, h1, h2.ext e, RpK.ext e ps r h3⟩
theorem RpL.length : ∀ {ds : List D} {xs : List V}, RpL K ρ H ds xs → xs.length = ds.length
  | [], xs, h => by rw [show xs = [] from h]; rfl
  | d :: ds, xs, h => by
    obtain ⟨x, r, rfl, h2, h3⟩ := h
    simp [RpL.length h3]
theorem RpL.get : ∀ {ds : List D} {xs : List V} {i : Nat} {d : D}, RpL K ρ H ds xs → ds[i]? = some d → ∃ v, xs[i]? = some v ∧ Rp K ρ H d v
  | [], _, _, _, _, e => by simp at e
  | d :: ds, xs, 0, d', h, e => by
    obtain ⟨x, r, rfl, h2, h3⟩ := h
    simp at e; subst e
    exact ⟨x, by simp, h2⟩
  | d :: ds, xs, i + 1, d', h, e => by
    obtain ⟨x, r, rfl, h2, h3⟩ := h
    obtain ⟨v, e1, e2⟩ := RpL.get (i := i) h3 (by simpa using e)
    exact ⟨v, by simpa using e1, e2⟩
theorem RpL.append : ∀ {ds es : List D} {xs ys : List V}, RpL K ρ H ds xs → RpL K ρ H es ys → RpL K ρ H (ds ++ es) (xs ++ ys)
  | [], es, xs, ys, h, h' => by rw [show xs = [] from h]; exact h'
  | d :: ds, es, xs, ys, h, h' => by
    obtain ⟨x, r, rfl, h2, h3⟩ := h
    exact ⟨x, r ++ ys, rfl, h2, h3.append h'⟩
theorem RpL.one (h : Rp K ρ H d v) : RpL K ρ H [d] [v] := ⟨v, [], rfl, h, rfl⟩
theorem RpL.take : ∀ {ds : List D} {xs : List V} (n : Nat), RpL K ρ H ds xs → RpL K ρ H (ds.take n) (xs.take n)
  | ds, xs, 0, h => by simp [RpL]
  | [], xs, n + 1, h => by rw [show xs = [] from h]; simp [RpL]
  | d :: ds, xs, n + 1, h => by
    obtain ⟨x, r, rfl, h2, h3⟩ := h
    exact ⟨x, r.take n, rfl, h2, h3.take n⟩
theorem RpL.drop : ∀ {ds : List D} {xs : List V} (n : Nat), RpL K ρ H ds xs → RpL K ρ H (ds.drop n) (xs.drop n)
  | ds, xs, 0, h => h
  | [], xs, n + 1, h => by rw [show xs = [] from h]; simp [RpL]
  | d :: ds, xs, n + 1, h => by
    obtain ⟨x, r, rfl, h2, h3⟩ := h
    exact h3.drop n
theorem RpL.set : ∀ {ds : List D} {xs : List V} (i : Nat), RpL K ρ H ds xs → Rp K ρ H d v → RpL K ρ H (ds.set i d) (xs.set i v)
  | [], xs, i, h, q => by rw [show xs = [] from h]; simp [RpL]
  | e :: ds, xs, 0, h, q => by
    obtain ⟨x, r, rfl, h2, h3⟩ := h
    exact ⟨v, r, rfl, q, h3⟩
  | e :: ds, xs, i + 1, h, q => by
    obtain ⟨x, r, rfl, h2, h3⟩ := h
    exact ⟨x, r.set i v, rfl, h2, h3.set i q⟩
theorem RpL.reverse : ∀ {ds : List D} {xs : List V}, RpL K ρ H ds xs → RpL K ρ H ds.reverse xs.reverse
  | [], xs, h => by rw [show xs = [] from h]; simp [RpL]
  | d :: ds, xs, h => by
    obtain ⟨x, r, rfl, h2, h3⟩ := h
    rw [List.reverse_cons, List.reverse_cons]
    exact h3.reverse.append (RpL.one h2)
theorem RpL.rep : ∀ {ds : List D} {xs : List V} (n : Nat), RpL K ρ H ds xs → RpL K ρ H (List.replicate n ds).flatten (List.replicate n xs).flatten
  | ds, xs, 0, h => by simp [RpL]
  | ds, xs, n + 1, h => by
    rw [List.replicate_succ, List.replicate_succ, List.flatten_cons, List.flatten_cons]
    exact h.append (h.rep n)
theorem SRel.ext (h : SRel K ρ H s σ) (e : Ext K ρ H ρ' H') : SRel K ρ' H' s σ :=
  ⟨h.len, fun i d q => by
    obtain ⟨v, h1, h2⟩ := h.at_ i d q
    exact ⟨v, h1, h2.ext e⟩⟩
theorem SRel.set (h : SRel K ρ H s σ) (i : Nat) (q : Rp K ρ H d v) : SRel K ρ H (s.set i (some d)) (σ.set i (some v)) := by
  refine ⟨by simp [h.len], fun j e hj => ?_⟩
  by_cases hji : i = j
  · subst hji
    have hl : i < s.length := by
      have := (List.getElem?_eq_some_iff.mp hj).1
      simpa using this
    rw [List.getElem?_set_self hl] at hj
    cases hj
    exact ⟨v, List.getElem?_set_self (by rw [← h.len]; exact hl), q⟩
  · rw [List.getElem?_set_ne hji] at hj
    obtain ⟨w, h1, h2⟩ := h.at_ j e hj
    exact ⟨w, by rw [List.getElem?_set_ne hji]; exact h1, h2⟩
theorem SRel.wipe (h : SRel K ρ H s σ) (i : Nat) : SRel K ρ H (s.set i none) (σ.set i none) := by
  refine ⟨by simp [h.len], fun j e hj => ?_⟩
  by_cases hji : i = j
  · subst hji
    have hl : i < s.length := by
      have := (List.getElem?_eq_some_iff.mp hj).1
      simpa using this
    rw [List.getElem?_set_self hl] at hj
    cases hj
  · rw [List.getElem?_set_ne hji] at hj
    obtain ⟨w, h1, h2⟩ := h.at_ j e hj
    exact ⟨w, by rw [List.getElem?_set_ne hji]; exact h1, h2⟩
theorem Rel.at_ (R : Rel K ρ H A) {i : Nat} {o : AO} (h : A[i]? = some o) : ∃ a, ρ[i]? = some a ∧ ORel K ρ H a o := R.ob i o h
theorem SqF.sq {a : Addr} {xs : List V} (h : SqF K H a xs) : SqL K H a xs := by
  rcases h with ⟨o, h⟩ | (h | ⟨o, h⟩) | h
  · exact .inl (.inr ⟨o, h⟩)
  · cases h
  · cases h
  · exact .inr h
theorem ORel.some {a : Addr} {o : AO} (h : ORel K ρ H a o) (f : isFz o = false) : ∃ u, H a = some u := by
  cases o with
  | lst ds => obtain ⟨xs, e, _⟩ := h; exact ⟨_, e⟩
  | frz ds => cases f
  | dic ds => obtain ⟨xs, e, _⟩ := h; exact ⟨_, e⟩
  | ins C ds => obtain ⟨dx, xs, e, _⟩ := h; exact ⟨_, e⟩
theorem ORel.ext {a : Addr} {o : AO} (h : ORel K ρ H a o) (e : Ext K ρ H ρ' H') (q : isFz o = false → H' a = H a) (z : ∀ xs, SqF K H a xs → SqF K H' a xs) : ORel K ρ' H' a o := by
  cases o with
  | lst ds => obtain ⟨xs, e1, e2⟩ := h; exact ⟨xs, (q rfl).trans e1, e2.ext e⟩
  | frz ds => obtain ⟨xs, e1, e2⟩ := h; exact ⟨xs, z _ e1, e2.ext e⟩
  | dic ds => obtain ⟨xs, e1, e2⟩ := h; exact ⟨xs, (q rfl).trans e1, e2.ext e⟩
  | ins C ds => obtain ⟨dx, xs, e1, e2⟩ := h; exact ⟨dx, xs, (q rfl).trans e1, e2.ext e⟩
theorem sqF_new {p : Addr} {o : HO} (hp : H p = none) {a : Addr} (xs : List V) (h : SqF K H a xs) : SqF K (upd H p o) a xs := by
  rcases h with ⟨o', h⟩ | h
  · exact .inl ⟨o', by rw [upd_ne (ne_of_none h hp)]; exact h⟩
  · exact .inr h
theorem sqF_mut {p : Addr} {o u : HO} (hp : H p = some u) (hu : Mut (some u)) {a : Addr} (xs : List V) (h : SqF K H a xs) : SqF K (upd H p o) a xs := by
  have nf : ∀ o' x, u ≠ .frz o' x := fun o' x e => by subst e; exact hu
  rcases h with ⟨o', h⟩ | h
  · exact .inl ⟨o', by rw [upd_ne (ne_of h hp (fun e => nf _ _ e.symm))]; exact h⟩
  · exact .inr h
theorem Rel.has (R : Rel K ρ H A) {i : Nat} {a : Addr} (h : ρ[i]? = some a) : ∃ o, A[i]? = some o ∧ ORel K ρ H a o := by
  have hi : i < A.length := by rw [← R.len]; exact (List.getElem?_eq_some_iff.mp h).1
  obtain ⟨a', h1, h2⟩ := R.ob i A[i] (List.getElem?_eq_getElem hi)
  rw [h] at h1; cases h1
  exact ⟨_, List.getElem?_eq_getElem hi, h2⟩
theorem sqT_new {p : Addr} {o : HO} (hp : H p = none) : ∀ a xs, SqT K H a xs → SqT K (upd H p o) a xs := by
  intro a xs h
  rcases h with (h | ⟨o', h⟩) | h
  · exact .inl (.inl (by rw [upd_ne (ne_of_none h hp)]; exact h))
  · exact .inl (.inr ⟨o', by rw [upd_ne (ne_of_none h hp)]; exact h⟩)
  · exact .inr h
theorem sqT_mut {p : Addr} {o u : HO} (hp : H p = some u) (hu : Mut (some u)) : ∀ a xs, SqT K H a xs → SqT K (upd H p o) a xs := by
  intro a xs h
  have nt : ∀ xs, u ≠ .tup xs := fun xs e => by subst e; exact hu
  have nf : ∀ o' x, u ≠ .frz o' x := fun o' x e => by subst e; exact hu
  rcases h with (h | ⟨o', h⟩) | h
  · exact .inl (.inl (by rw [upd_ne (ne_of h hp (fun e => nt _ e.symm))]; exact h))
  · exact .inl (.inr ⟨o', by rw [upd_ne (ne_of h hp (fun e => nf _ _ e.symm))]; exact h⟩)
  · exact .inr h
theorem Ext.new {p : Addr} {o : HO} (hp : H p = none) (t : List Addr) : Ext K ρ H (ρ ++ t) (upd H p o) := ⟨⟨t, rfl⟩, sqT_new hp⟩
theorem Ext.new0 {p : Addr} {o : HO} (hp : H p = none) : Ext K ρ H ρ (upd H p o) := ⟨⟨[], by simp⟩, sqT_new hp⟩
theorem Ext.mut {p : Addr} {o u : HO} (hp : H p = some u) (hu : Mut (some u)) : Ext K ρ H ρ (upd H p o) := ⟨⟨[], by simp⟩, sqT_mut hp hu⟩
/-- an untracked thing is laid (a tuple, a temporary) -/
theorem Rel.new0 (R : Rel K ρ H A) {p : Addr} {o : HO} (hp : H p = none) : Rel K ρ (upd H p o) A :=
  ⟨R.len, R.nd, fun i ob h => by
    obtain ⟨a, h1, h2⟩ := R.ob i ob h
    exact ⟨a, h1, h2.ext (Ext.new0 hp) (fun f => by obtain ⟨u, hu⟩ := h2.some f; exact upd_ne (ne_of_none hu hp)) fun xs => sqF_new hp xs⟩⟩
/-- a new cell -/
theorem Rel.new (R : Rel K ρ H A) {p : Addr} {o : HO} {ao : AO} (hp : H p = none) (h : ORel K (ρ ++ [p]) (upd H p o) p ao) : Rel K (ρ ++ [p]) (upd H p o) (A ++ [ao]) := by
  have hn : ∀ (i : Nat) ob, ρ[i]? = some p → A[i]? = some ob → isFz ob = false → False := fun i ob hi ho f => by
    obtain ⟨a, h1, h2⟩ := R.ob i ob ho
    rw [hi] at h1; cases h1
    obtain ⟨u, hu⟩ := h2.some f
    rw [hp] at hu; cases hu
  have old : ∀ (i : Nat) {a : Addr} {ob : AO}, (ρ ++ [p])[i]? = some a → (A ++ [ao])[i]? = some ob → (ρ[i]? = some a ∧ A[i]? = some ob) ∨ (i = A.length ∧ a = p ∧ ob = ao) := fun i a ob h1 h2 => by
    by_cases hl : i < A.length
    · rw [List.getElem?_append_left hl] at h2
      rw [List.getElem?_append_left (by rw [R.len]; exact hl)] at h1
      exact .inl ⟨h1, h2⟩
    · have e : i = A.length := by
        have := (List.getElem?_eq_some_iff.mp h2).1
        simp at this; omega
      subst e
      simp at h2
      rw [← R.len] at h1; simp at h1
      exact .inr ⟨rfl, h1.symm, h2.symm⟩
  refine ⟨by simp [R.len], fun i j a ob u h1 h2 h3 h4 f1 f2 => ?_, fun i ob hi => ?_⟩
  · rcases old i h1 h3 with ⟨a1, a2⟩ | ⟨a1, a2, a3⟩
    · rcases old j h2 h4 with ⟨b1, b2⟩ | ⟨b1, b2, b3⟩
      · exact R.nd i j a ob u a1 b1 a2 b2 f1 f2
      · subst b2; exact (hn i ob a1 a2 f1).elim
    · rcases old j h2 h4 with ⟨b1, b2⟩ | ⟨b1, b2, b3⟩
      · subst a2; exact (hn j u b1 b2 f2).elim
      · rw [a1, b1]
  · by_cases hl : i < A.length
    · rw [List.getElem?_append_left hl] at hi
      obtain ⟨a, h1, h2⟩ := R.ob i ob hi
      exact ⟨a, (Ext.new (K := K) (o := o) hp [p]).at_ h1, h2.ext (Ext.new hp [p]) (fun f => by obtain ⟨u, hu⟩ := h2.some f; exact upd_ne (ne_of_none hu hp)) fun xs => sqF_new hp xs⟩
    · have e : i = A.length := by
        have := (List.getElem?_eq_some_iff.mp hi).1
        simp at this; omega
      subst e
      simp at hi; subst hi
      exact ⟨p, by rw [← R.len]; simp, h⟩
/-- a cell is written -/
theorem Rel.upd (R : Rel K ρ H A) {i : Nat} {a : Addr} {o u : HO} {ao old : AO} (ha : ρ[i]? = some a) (hA : A[i]? = some old) (fo : isFz old = false) (hu : H a = some u) (hm : Mut (some u)) (h : ORel K ρ (upd H a o) a ao) (fn : isFz ao = false) : Rel K ρ (upd H a o) (A.set i ao) := by
  have hl : i < A.length := (List.getElem?_eq_some_iff.mp hA).1
  have was : ∀ (j : Nat) {ob : AO}, (A.set i ao)[j]? = some ob → isFz ob = false → ∃ ob', A[j]? = some ob' ∧ isFz ob' = false := fun j ob hj f => by
    by_cases hji : i = j
    · subst hji; exact ⟨old, hA, fo⟩
    · rw [List.getElem?_set_ne hji] at hj; exact ⟨ob, hj, f⟩
  refine ⟨by simp [R.len], fun j k b ob u h1 h2 h3 h4 f1 f2 => ?_, fun j ob hj => ?_⟩
  · obtain ⟨o1, q1, q2⟩ := was j h3 f1
    obtain ⟨o2, q3, q4⟩ := was k h4 f2
    exact R.nd j k b o1 o2 h1 h2 q1 q3 q2 q4
  · by_cases hji : i = j
    · subst hji
      rw [List.getElem?_set_self hl] at hj
      cases hj
      exact ⟨a, ha, h⟩
    · rw [List.getElem?_set_ne hji] at hj
      obtain ⟨b, h1, h2⟩ := R.ob j ob hj
      refine ⟨b, h1, h2.ext (Ext.mut hu hm) (fun f => upd_ne ?_) fun xs => sqF_mut hu hm xs⟩
      rintro rfl
      exact hji (R.nd i j b old ob ha h1 hA hj fo f)
end

/-! ## what an outcome gives -/
def Out {α β : Type} (K : PySem.W.Frag) (E : XK) (R : List Addr → Hp → α → β → Prop) (ρ : List Addr) (H : Hp) (r : Res α) (Q : β → Hp → Prop) : Prop := match r with
  | .ok a A' => ∀ ρ' H' v, Ext K ρ H ρ' H' → Rel K ρ' H' A' → R ρ' H' a v → Q v H'
  | .exc C fs A' => ∀ ρ' H' dx us, Ext K ρ H ρ' H' → Rel K ρ' H' A' → H' dx = some (.xd us) → RpK K ρ' H' fs us → E (.ref C) (some dx) H'
  | .bad => False
abbrev OutE (K : PySem.W.Frag) (E : XK) := Out (α := D) (β := V) K E (fun ρ H d v => Rp K ρ H d v)
abbrev OutA (K : PySem.W.Frag) (E : XK) := Out (α := List D) (β := List V) K E (fun ρ H d v => RpL K ρ H d v)
abbrev OutT (K : PySem.W.Frag) (E : XK) := Out (α := Bool) (β := Bool) K E (fun _ _ d v => d = v)
abbrev OutO (K : PySem.W.Frag) (E : XK) := Out (α := Option Int) (β := Option Int) K E (fun _ _ d v => d = v)
section
variable {K : PySem.W.Frag} {E : XK} {α β γ δ : Type} {R1 : List Addr → Hp → α → β → Prop} {R2 : List Addr → Hp → γ → δ → Prop} {ρ : List Addr} {H : Hp}
/-- first r, then k -/
theorem Out.bind {r : Res α} {k : α → AH → Res γ} {Q : δ → Hp → Prop} (h : Out K E R2 ρ H (r.bind k) Q) :
    Out K E R1 ρ H r (fun v H1 => ∃ ρ1 a A1, r = .ok a A1 ∧ Ext K ρ H ρ1 H1 ∧ Rel K ρ1 H1 A1 ∧ R1 ρ1 H1 a v ∧ Out K E R2 ρ1 H1 (k a A1) Q) := by
  cases r with
  | bad => exact h
  | exc C fs A => exact h
  | ok a A =>
    intro ρ1 H1 v e1 r1 q1
    refine ⟨ρ1, a, A, rfl, e1, r1, q1, ?_⟩
    have h : Out K E R2 ρ H (k a A) Q := h
    cases hk : k a A with
    | bad => rw [hk] at h; exact h
    | exc C fs A2 => rw [hk] at h; exact fun ρ' H' dx us e2 => h ρ' H' dx us (e1.trans e2)
    | ok c A2 => rw [hk] at h; exact fun ρ' H' w e2 => h ρ' H' w (e1.trans e2)
theorem Out.ext {ρ0 : List Addr} {H0 : Hp} {r : Res α} {Q : β → Hp → Prop} (h : Out K E R1 ρ0 H0 r Q) (e : Ext K ρ0 H0 ρ H) : Out K E R1 ρ H r Q := by
  cases r with
  | bad => exact h
  | exc C fs A => exact fun ρ' H' dx us e2 => h ρ' H' dx us (e.trans e2)
  | ok c A => exact fun ρ' H' w e2 => h ρ' H' w (e.trans e2)
theorem Out.mono {r : Res α} {Q Q' : β → Hp → Prop} (h : Out K E R1 ρ H r Q) (q : ∀ v H', Q v H' → Q' v H') : Out K E R1 ρ H r Q' := by
  cases r with
  | bad => exact h
  | exc C fs A => exact h
  | ok c A => exact fun ρ' H' w e r1 q1 => q _ _ (h ρ' H' w e r1 q1)
/-- at once -/
theorem Out.now {a : α} {A : AH} {Q : β → Hp → Prop} {v : β} (h : Out K E R1 ρ H (.ok a A) Q) (R : Rel K ρ H A) (r : R1 ρ H a v) : Q v H := h ρ H v .refl R r
end

/-! ## the readings that such functions give -/
def tA (K : PySem.W.Frag) (E : XK) (f : FE) : TE := fun σ H Q => ∃ ρ s A, SRel K ρ H s σ ∧ Rel K ρ H A ∧ OutE K E ρ H (f s A) Q
def tAA (K : PySem.W.Frag) (E : XK) (f : FA) : TA := fun σ H Q => ∃ ρ s A, SRel K ρ H s σ ∧ Rel K ρ H A ∧ OutA K E ρ H (f s A) Q
def tAT (K : PySem.W.Frag) (E : XK) (f : FT) : TT := fun σ H Q => ∃ ρ s A, SRel K ρ H s σ ∧ Rel K ρ H A ∧ OutT K E ρ H (f s A) Q
def tAO (K : PySem.W.Frag) (E : XK) (f : FO) : TO := fun σ H Q => ∃ ρ s A, SRel K ρ H s σ ∧ Rel K ρ H A ∧ OutO K E ρ H (f s A) Q
def SOut (K : PySem.W.Frag) (E : XK) (ρ : List Addr) (H : Hp) (r : Res Fl) (G : Ends) : Prop := match r with
  | .ok (.nx s) A' => ∀ ρ' H' σ', Ext K ρ H ρ' H' → Rel K ρ' H' A' → SRel K ρ' H' s σ' → G.nx σ' H'
  | .ok (.bk s) A' => ∀ ρ' H' σ', Ext K ρ H ρ' H' → Rel K ρ' H' A' → SRel K ρ' H' s σ' → G.bk σ' H'
  | .ok (.ct s) A' => ∀ ρ' H' σ', Ext K ρ H ρ' H' → Rel K ρ' H' A' → SRel K ρ' H' s σ' → G.ct σ' H'
  | .ok (.rt d) A' => ∀ ρ' H' v, Ext K ρ H ρ' H' → Rel K ρ' H' A' → Rp K ρ' H' d v → G.rt v H'
  | .exc C fs A' => ∀ ρ' H' dx us, Ext K ρ H ρ' H' → Rel K ρ' H' A' → H' dx = some (.xd us) → RpK K ρ' H' fs us → E (.ref C) (some dx) H'
  | .bad => False
def tAS (K : PySem.W.Frag) (E : XK) (f : FS) : TS := fun G σ H => ∃ ρ s A, SRel K ρ H s σ ∧ Rel K ρ H A ∧ SOut K E ρ H (f s A) G
theorem SOut.ext {K : PySem.W.Frag} {E : XK} {ρ0 ρ : List Addr} {H0 H : Hp} {r : Res Fl} {G : Ends} (h : SOut K E ρ0 H0 r G) (e : Ext K ρ0 H0 ρ H) : SOut K E ρ H r G := by
  cases r with
  | bad => exact h
  | exc C fs A => exact fun ρ' H' dx us e2 => h ρ' H' dx us (e.trans e2)
  | ok c A => cases c <;> exact fun ρ' H' w e2 => h ρ' H' w (e.trans e2)
theorem Out.bindS {K : PySem.W.Frag} {E : XK} {α β : Type} {R1 : List Addr → Hp → α → β → Prop} {ρ : List Addr} {H : Hp} {r : Res α} {k : α → AH → Res Fl} {G : Ends} (h : SOut K E ρ H (r.bind k) G) :
    Out K E R1 ρ H r (fun v H1 => ∃ ρ1 a A1, r = .ok a A1 ∧ Ext K ρ H ρ1 H1 ∧ Rel K ρ1 H1 A1 ∧ R1 ρ1 H1 a v ∧ SOut K E ρ1 H1 (k a A1) G) := by
  cases r with
  | bad => exact h
  | exc C fs A => exact h
  | ok a A => exact fun ρ1 H1 v e1 r1 q1 => ⟨ρ1, a, A, rfl, e1, r1, q1, SOut.ext h e1⟩
/-- what the judgements are about -/
abbrev AE (X : Cx) (E : XK) (e : Expr) (f : FE) : Prop := PE X e (tA X.K E f)
abbrev AA (X : Cx) (E : XK) (es : List Expr) (f : FA) : Prop := PA X es (tAA X.K E f)
abbrev AT (X : Cx) (E : XK) (e : Expr) (f : FT) : Prop := PT X e (tAT X.K E f)
abbrev AO_ (X : Cx) (E : XK) (e : Option Expr) (f : FO) : Prop := PO X e (tAO X.K E f)
abbrev AS (X : Cx) (E : XK) (e : Stmt) (f : FS) : Prop := PS X e (tAS X.K E f)
abbrev ASs (X : Cx) (E : XK) (e : List Stmt) (f : FS) : Prop := PSs X e (tAS X.K E f)
section
variable {X : Cx}
theorem pe_mono {e : Expr} {t u : TE} (h : PE X e t) (m : ∀ σ H Q, u σ H Q → t σ H Q) : PE X e u := ⟨fun pins s σ H Q I q => h.run pins s σ H Q I (m _ _ _ q)⟩
theorem pa_mono {e : List Expr} {t u : TA} (h : PA X e t) (m : ∀ σ H Q, u σ H Q → t σ H Q) : PA X e u := ⟨fun pos pins s σ H Q I q => h.run pos pins s σ H Q I (m _ _ _ q)⟩
theorem pt_mono {e : Expr} {t u : TT} (h : PT X e t) (m : ∀ σ H Q, u σ H Q → t σ H Q) : PT X e u := ⟨fun pins s σ H Q I q => h.run pins s σ H Q I (m _ _ _ q)⟩
theorem pw_mono {e : Expr} {t u : TT} (h : PW X e t) (m : ∀ σ H Q, u σ H Q → t σ H Q) : PW X e u := ⟨fun whole pins s σ H Q I q => h.run whole pins s σ H Q I (m _ _ _ q)⟩
theorem ps_mono {e : Stmt} {t u : TS} (h : PS X e t) (m : ∀ G σ H, u G σ H → t G σ H) : PS X e u := ⟨fun pins s σ H G I q => h.run pins s σ H G I (m _ _ _ q)⟩
theorem pss_mono {e : List Stmt} {t u : TS} (h : PSs X e t) (m : ∀ G σ H, u G σ H → t G σ H) : PSs X e u := ⟨fun pins s σ H G I q => h.run pins s σ H G I (m _ _ _ q)⟩
theorem op_mono {f : Value → Value → Sem Value} {t u : R2} (h : OpR X f t) (m : ∀ x y H Q, u x y H Q → t x y H Q) : OpR X f u := fun pins s σ H x y v w Q I rx ry q => h pins s σ H x y v w Q I rx ry (m _ _ _ _ q)
theorem callR_mono {f : Value} {t u : List V → Hp → VK → Prop} (h : CallR X f t) (m : ∀ xs H Q, u xs H Q → t xs H Q) : CallR X f u := fun pins s σ H xs us Q I r q => h pins s σ H xs us Q I r (m _ _ _ q)
end
end Ab

namespace Ab
open PySem PySem.Spec PyProof.Rows L2
open scoped Classical

/-! ## reading cells -/
def rdL (A : AH) : D → Option (List D)
  | .ref i => match A[i]? with
    | some (.lst xs) => some xs
    | some (.frz xs) => some xs
    | _ => none
  | _ => none
def muL (A : AH) : D → Option (List D)
  | .ref i => match A[i]? with
    | some (.lst xs) => some xs
    | _ => none
  | _ => none
def rdK (A : AH) : D → Option (List (Key × D))
  | .ref i => match A[i]? with
    | some (.dic xs) => some xs
    | _ => none
  | _ => none
def rdI (A : AH) : D → Option (Addr × List (Str × D))
  | .ref i => match A[i]? with
    | some (.ins C xs) => some (C, xs)
    | _ => none
  | _ => none
def rdS (A : AH) : D → Option (List D)
  | .tup xs => some xs
  | d => rdL A d
section
variable {K : PySem.W.Frag} {ρ : List Addr} {H : Hp} {A : AH} {d : D} {v : V}
theorem rdL_ok (R : Rel K ρ H A) (r : Rp K ρ H d v) {ds : List D} (h : rdL A d = some ds) : ∃ a xs, v = .ref a ∧ SqL K H a xs ∧ RpL K ρ H ds xs := by
  cases d with
  | ref i =>
    obtain ⟨a, h1, rfl⟩ := r
    obtain ⟨o, h2, h3⟩ := R.has h1
    unfold rdL at h
    simp only [h2] at h
    cases o with
    | lst xs => cases h; obtain ⟨us, e1, e2⟩ := h3; exact ⟨a, us, rfl, .inl (.inl e1), e2⟩
    | frz xs => cases h; obtain ⟨us, e1, e2⟩ := h3; exact ⟨a, us, rfl, e1.sq, e2⟩
    | dic _ => cases h
    | ins _ _ => cases h
  | _ => cases h
theorem muL_ok (R : Rel K ρ H A) (r : Rp K ρ H d v) {ds : List D} (h : muL A d = some ds) : ∃ i a xs, d = .ref i ∧ v = .ref a ∧ ρ[i]? = some a ∧ A[i]? = some (.lst ds) ∧ H a = some (.lst xs) ∧ RpL K ρ H ds xs := by
  cases d with
  | ref i =>
    obtain ⟨a, h1, rfl⟩ := r
    obtain ⟨o, h2, h3⟩ := R.has h1
    unfold muL at h
    simp only [h2] at h
    cases o with
    | lst xs => cases h; obtain ⟨us, e1, e2⟩ := h3; exact ⟨i, a, us, rfl, rfl, h1, h2, e1, e2⟩
    | frz xs => cases h
    | dic _ => cases h
    | ins _ _ => cases h
  | _ => cases h
theorem rdK_ok (R : Rel K ρ H A) (r : Rp K ρ H d v) {ds : List (Key × D)} (h : rdK A d = some ds) : ∃ i a xs, d = .ref i ∧ v = .ref a ∧ ρ[i]? = some a ∧ A[i]? = some (.dic ds) ∧ H a = some (.dK xs) ∧ RpK K ρ H ds xs := by
  cases d with
  | ref i =>
    obtain ⟨a, h1, rfl⟩ := r
    obtain ⟨o, h2, h3⟩ := R.has h1
    unfold rdK at h
    simp only [h2] at h
    cases o with
    | dic xs => cases h; obtain ⟨us, e1, e2⟩ := h3; exact ⟨i, a, us, rfl, rfl, h1, h2, e1, e2⟩
    | lst xs => cases h
    | frz xs => cases h
    | ins _ _ => cases h
  | _ => cases h
theorem rdI_ok (R : Rel K ρ H A) (r : Rp K ρ H d v) {C : Addr} {ds : List (Str × D)} (h : rdI A d = some (C, ds)) : ∃ i a dx xs, d = .ref i ∧ v = .ref a ∧ ρ[i]? = some a ∧ A[i]? = some (.ins C ds) ∧ H a = some (.ins C dx xs) ∧ RpK K ρ H ds xs := by
  cases d with
  | ref i =>
    obtain ⟨a, h1, rfl⟩ := r
    obtain ⟨o, h2, h3⟩ := R.has h1
    unfold rdI at h
    simp only [h2] at h
    cases o with
    | ins C' xs => cases h; obtain ⟨dx, us, e1, e2⟩ := h3; exact ⟨i, a, dx, us, rfl, rfl, h1, h2, e1, e2⟩
    | lst xs => cases h
    | frz xs => cases h
    | dic _ => cases h
  | _ => cases h
theorem rdS_ok (R : Rel K ρ H A) (r : Rp K ρ H d v) {ds : List D} (h : rdS A d = some ds) : ∃ a xs, v = .ref a ∧ (SqL K H a xs ∨ SqT K H a xs) ∧ RpL K ρ H ds xs := by
  cases d with
  | tup xs =>
    cases h
    obtain ⟨a, us, h1, h2, h3⟩ := r
    exact ⟨a, us, h1, .inr h2, h3⟩
  | ref i =>
    obtain ⟨a, xs, h1, h2, h3⟩ := rdL_ok R r (show rdL A (.ref i) = some ds from h)
    exact ⟨a, xs, h1, .inl h2, h3⟩
  | _ => cases h
end

theorem RpL.isNil {K : PySem.W.Frag} {ρ : List Addr} {H : Hp} {ds : List D} (h : RpL K ρ H ds []) : ds = [] := by
  have := h.length
  cases ds with
  | nil => rfl
  | cons _ _ => simp at this
/-! ## names, constants -/
def fV (i : Nat) : FE := fun s A => match s[i]? with
  | some (some d) => .ok d A
  | _ => .bad
def fC (d : D) : FE := fun _ A => .ok d A
section
variable {X : Cx} {E : XK}
theorem ae_v (i : Nat) {x : Str} {pos : Pos} (hN : X.N[i]? = some x := by rfl) (hv : Vis X.env.scope x := by first | exact Or.inl rfl | exact Or.inr (Or.inl rfl) | exact Or.inr (Or.inr rfl)) (hd : (x == ("__debug__" : Str)) = false := by decide)
    (hcd : (x == ("__classdict__" : Str)) = false := by decide) : AE X E (.Name x pos) (fV i) := pe_mono (pe_var hN hv hd hcd) fun σ H Q h => by
  obtain ⟨ρ, s, A, hs, R, h⟩ := h
  unfold fV at h
  cases e : s[i]? with
  | none => simp only [e] at h; exact h.elim
  | some o =>
    cases o with
    | none => simp only [e] at h; exact h.elim
    | some d =>
      simp only [e] at h
      obtain ⟨v, h1, h2⟩ := hs.at_ i d e
      exact ⟨v, h1, h.now R h2⟩
theorem ae_c {e : Expr} {d : D} {v : V} (h : PE X e (tC v)) (r : ∀ ρ H, Rp X.K ρ H d v) : AE X E e (fC d) := pe_mono h fun σ H Q h => by
  obtain ⟨ρ, s, A, hs, R, h⟩ := h
  exact Out.now h R (r ρ H)
theorem ae_int {i j pos} : AE X E (.Constant (.int i) j pos) (fC (.int i)) := ae_c pe_int fun _ _ => rfl
theorem ae_bl {i j pos} : AE X E (.Constant (.bool i) j pos) (fC (.bl i)) := ae_c pe_bl fun _ _ => rfl
theorem ae_non {j pos} : AE X E (.Constant .none j pos) (fC .non) := ae_c pe_non fun _ _ => rfl
theorem ae_str {i j pos} : AE X E (.Constant (.str i) j pos) (fC (.str i)) := ae_c pe_str fun _ _ => rfl
end

/-! ## operators -/
def rA (K : PySem.W.Frag) (E : XK) (g : D → D → AH → Res D) : R2 := fun x y H Q => ∃ ρ A d e, Rel K ρ H A ∧ Rp K ρ H d x ∧ Rp K ρ H e y ∧ OutE K E ρ H (g d e A) Q
abbrev AOp (X : Cx) (E : XK) (f : Value → Value → Sem Value) (g : D → D → AH → Res D) : Prop := OpR X f (rA X.K E g)
def fOp (g : D → D → AH → Res D) (f1 f2 : FE) : FE := fun s A => (f1 s A).bind fun x A1 => (f2 s A1).bind fun y A2 => g x y A2
def rU1 (K : PySem.W.Frag) (E : XK) (g : D → AH → Res D) : V → Hp → VK → Prop := fun x H Q => ∃ ρ A d, Rel K ρ H A ∧ Rp K ρ H d x ∧ OutE K E ρ H (g d A) Q
def fUn (g : D → AH → Res D) (f1 : FE) : FE := fun s A => (f1 s A).bind fun x A1 => g x A1
section
variable {X : Cx} {E : XK} {a b : Expr} {f1 f2 : FE} {pos : Pos} {g : D → D → AH → Res D}
theorem two_ {K : PySem.W.Frag} {σ : L2.St} {H : Hp} {Q : VK} (h : tA K E (fOp g f1 f2) σ H Q) : tA K E f1 σ H fun x H1 => tA K E f2 σ H1 fun y H2 => rA K E g x y H2 Q := by
  obtain ⟨ρ, s, A, hs, R, h⟩ := h
  refine ⟨ρ, s, A, hs, R, (Out.bind h).mono fun x H1 ⟨ρ1, d, A1, _, e1, R1, r1, h1⟩ => ⟨ρ1, s, A1, hs.ext e1, R1, (Out.bind h1).mono fun y H2 ⟨ρ2, d2, A2, _, e2, R2, r2, h2⟩ => ⟨ρ2, A2, d, d2, R2, r1.ext e2, r2, h2⟩⟩⟩
theorem ae_op {op : Operator} (ho : AOp X E (binaryOp op) g) (ha : AE X E a f1) (hb : AE X E b f2) : AE X E (.BinOp a op b pos) (fOp g f1 f2) := pe_mono (pe_op ho ha hb) fun _ _ _ => two_
theorem ae_cmp {op : CmpOp} (ho : AOp X E (compareOp op) g) (ha : AE X E a f1) (hb : AE X E b f2) (hm : behindInMarks op b = false := by first | exact nomark _ | with_unfolding_all rfl) : AE X E (.Compare a [op] [b] pos) (fOp g f1 f2) := pe_mono (pe_cmpR ho ha hb hm) fun _ _ _ => two_
theorem ae_un {op : UnaryOp} {g : D → AH → Res D} (ho : UnR X (unaryOp op) (rU1 X.K E g)) (ha : AE X E a f1) : AE X E (.UnaryOp op a pos) (fUn g f1) := pe_mono (pe_un ho ha) fun σ H Q h => by
  obtain ⟨ρ, s, A, hs, R, h⟩ := h
  exact ⟨ρ, s, A, hs, R, (Out.bind h).mono fun x H1 ⟨ρ1, d, A1, _, e1, R1, r1, h1⟩ => ⟨ρ1, A1, d, R1, r1, h1⟩⟩
end

/-! ### the operators on data -/
def alloc (o : AO) (A : AH) : Res D := .ok (.ref A.length) (A ++ [o])
section
variable {K : PySem.W.Frag} {E : XK} {ρ : List Addr} {H : Hp} {A : AH} {Q : VK} {xs : List V} {ds : List D}
theorem new_lst (R : Rel K ρ H A) (r : RpL K ρ H ds xs) (h : OutE K E ρ H (alloc (.lst ds) A) Q) : ∀ p, H p = none → Q (.ref p) (upd H p (.lst xs)) := fun p hp => by
  have e : Ext K ρ H (ρ ++ [p]) (upd H p (.lst xs)) := Ext.new hp [p]
  exact h (ρ ++ [p]) (upd H p (.lst xs)) (.ref p) e (R.new hp ⟨xs, upd_same, r.ext e⟩) ⟨p, by rw [← R.len]; simp, rfl⟩
theorem new_tup (R : Rel K ρ H A) (r : RpL K ρ H ds xs) (h : OutE K E ρ H (.ok (.tup ds) A) Q) : ∀ p, H p = none → Q (.ref p) (upd H p (.tup xs)) := fun p hp => by
  have e : Ext K ρ H ρ (upd H p (.tup xs)) := Ext.new0 hp
  exact h ρ _ (.ref p) e (R.new0 hp) ⟨p, xs, rfl, .inl (.inl upd_same), r.ext e⟩
theorem new_dic {kvs : List (Key × D)} {us : List (Key × V)} (R : Rel K ρ H A) (r : RpK K ρ H kvs us) (h : OutE K E ρ H (alloc (.dic kvs) A) Q) : ∀ p, H p = none → Q (.ref p) (upd H p (.dK us)) := fun p hp => by
  have e : Ext K ρ H (ρ ++ [p]) (upd H p (.dK us)) := Ext.new hp [p]
  exact h (ρ ++ [p]) _ (.ref p) e (R.new hp ⟨us, upd_same, r.ext e⟩) ⟨p, by rw [← R.len]; simp, rfl⟩
end
def addD : D → D → AH → Res D
  | .int i, .int j, A => .ok (.int (i + j)) A
  | .str x, .str y, A => if x.length + y.length ≤ sizeLine then .ok (.str (x ++ y)) A else .bad
  | .tup xs, .tup ys, A => if xs.length + ys.length ≤ sizeLine then .ok (.tup (xs ++ ys)) A else .bad
  | .ref i, .ref j, A => match muL A (.ref i), muL A (.ref j) with
    | some xs, some ys => if xs.length + ys.length ≤ sizeLine then alloc (.lst (xs ++ ys)) A else .bad
    | _, _ => .bad
  | _, _, _ => .bad
def subD : D → D → AH → Res D
  | .int i, .int j, A => .ok (.int (i - j)) A
  | _, _, _ => .bad
def mulOk (i j : Int) : Prop := CMul i j ∨ CMulW i j
noncomputable def mulD : D → D → AH → Res D
  | .int i, .int j, A => if mulOk i j then .ok (.int (i * j)) A else .bad
  | .ref i, .int k, A => match muL A (.ref i) with
    | some xs => if -(2 ^ 63) ≤ k ∧ k < 2 ^ 63 ∧ xs.length * k.toNat ≤ sizeLine then alloc (.lst (List.replicate k.toNat xs).flatten) A else .bad
    | _ => .bad
  | _, _, _ => .bad
noncomputable def fdivD : D → D → AH → Res D
  | .int i, .int j, A => if CDivW i j then .ok (.int (i / j)) A else .bad
  | _, _, _ => .bad
def modD : D → D → AH → Res D
  | .int i, .int j, A => if 0 < j then .ok (.int (i % j)) A else .bad
  | _, _, _ => .bad
noncomputable def powD : D → D → AH → Res D
  | .int i, .int j, A => if CPow i j then .ok (.int (i ^ j.toNat)) A else .bad
  | _, _, _ => .bad
def negD : D → AH → Res D
  | .int i, A => .ok (.int (-i)) A
  | _, _ => .bad
section
variable {X : Cx} {E : XK}
theorem aop_add : AOp X E (binaryOp .Add) addD := op_mono ((op_add.or op_add_str).or (op_catA.or op_cat)) fun x y H Q h => by
  obtain ⟨ρ, A, d, e, R, r1, r2, h⟩ := h
  unfold addD at h
  split at h
  · cases r1; cases r2
    exact .inl (.inl ⟨_, _, rfl, rfl, h.now R rfl⟩)
  · split at h
    · rename_i z
      cases r1; cases r2
      exact .inl (.inr ⟨_, _, rfl, rfl, z, h.now R rfl⟩)
    · exact h.elim
  · split at h
    · rename_i xs ys z
      obtain ⟨a, us, rfl, q1, q2⟩ := r1
      obtain ⟨b, ws, rfl, q3, q4⟩ := r2
      refine .inr (.inl ⟨a, b, us, ws, rfl, rfl, q1, q3, by rw [q2.length, q4.length]; exact z, ?_, ?_, ?_⟩)
      · rintro rfl
        rw [q2.isNil, List.nil_append] at h
        exact h.now R ⟨b, ws, rfl, q3, q4⟩
      · rintro _ rfl
        rw [q4.isNil, List.append_nil] at h
        exact h.now R ⟨a, us, rfl, q1, q2⟩
      · intro _ _
        exact new_tup R (q2.append q4) h
    · exact h.elim
  · split at h
    · rename_i xs ys m1 m2
      split at h
      · rename_i z
        obtain ⟨_, a, us, _, rfl, _, _, q1, q2⟩ := muL_ok R r1 m1
        obtain ⟨_, b, ws, _, rfl, _, _, q3, q4⟩ := muL_ok R r2 m2
        refine .inr (.inr ⟨a, b, us, ws, rfl, rfl, q1, q3, by rw [q2.length, q4.length]; exact z, new_lst R (q2.append q4) h⟩)
      · exact h.elim
    · exact h.elim
  · exact h.elim
theorem aop_sub : AOp X E (binaryOp .Sub) subD := op_mono op_sub fun x y H Q h => by
  obtain ⟨ρ, A, d, e, R, r1, r2, h⟩ := h
  unfold subD at h
  split at h
  · cases r1; cases r2
    exact ⟨_, _, rfl, rfl, h.now R rfl⟩
  · exact h.elim
theorem aop_mul : AOp X E (binaryOp .Mult) mulD := op_mono ((op_mul.or op_mulW).or op_rep) fun x y H Q h => by
  obtain ⟨ρ, A, d, e, R, r1, r2, h⟩ := h
  unfold mulD at h
  split at h
  · split at h
    · rename_i z
      cases r1; cases r2
      rcases z with z | z
      · exact .inl (.inl ⟨_, _, rfl, rfl, z, h.now R rfl⟩)
      · exact .inl (.inr ⟨_, _, rfl, rfl, z, h.now R rfl⟩)
    · exact h.elim
  · split at h
    · rename_i xs m1
      split at h
      · rename_i z
        obtain ⟨_, a, us, _, rfl, _, _, q1, q2⟩ := muL_ok R r1 m1
        cases r2
        refine .inr ⟨a, _, us, rfl, rfl, q1, z.1, z.2.1, by rw [q2.length]; exact z.2.2, new_lst R (q2.rep _) h⟩
      · exact h.elim
    · exact h.elim
  · exact h.elim
theorem aop_fdiv : AOp X E (binaryOp .FloorDiv) fdivD := op_mono op_fdivW fun x y H Q h => by
  obtain ⟨ρ, A, d, e, R, r1, r2, h⟩ := h
  unfold fdivD at h
  split at h
  · split at h
    · rename_i z
      cases r1; cases r2
      exact ⟨_, _, rfl, rfl, z, h.now R rfl⟩
    · exact h.elim
  · exact h.elim
theorem aop_mod : AOp X E (binaryOp .Mod) modD := op_mono op_mod fun x y H Q h => by
  obtain ⟨ρ, A, d, e, R, r1, r2, h⟩ := h
  unfold modD at h
  split at h
  · split at h
    · rename_i z
      cases r1; cases r2
      exact ⟨_, _, rfl, rfl, z, h.now R rfl⟩
    · exact h.elim
  · exact h.elim
theorem aop_pow : AOp X E (binaryOp .Pow) powD := op_mono op_pow fun x y H Q h => by
  obtain ⟨ρ, A, d, e, R, r1, r2, h⟩ := h
  unfold powD at h
  split at h
  · split at h
    · rename_i z
      cases r1; cases r2
      exact ⟨_, _, rfl, rfl, z, h.now R rfl⟩
    · exact h.elim
  · exact h.elim
theorem aun_neg : UnR X (unaryOp .USub) (rU1 X.K E negD) := fun pins s σ H x v Q I rx h => by
  obtain ⟨ρ, A, d, R, r1, h⟩ := h
  unfold negD at h
  split at h
  · cases r1
    exact un_neg pins s σ H _ v Q I rx ⟨_, rfl, h.now R rfl⟩
  · exact h.elim
end
end Ab

namespace Ab
open PySem PySem.Spec PyProof.Rows L2
open scoped Classical

/-! ## data without cells, as PyData -/
mutual
def pd : D → Option PyData
  | .non => some .none
  | .bl b => some (.bool b)
  | .int i => some (.int i)
  | .str x => some (.str x)
  | .tup ds => match pdL ds with
    | some ps => some (.tuple ps)
    | none => none
  | .ref _ => none
def pdL : List D → Option (List PyData)
  | [] => some []
  | d :: ds => match pd d, pdL ds with
    | some p, some ps => some (p :: ps)
    | _, _ => none
end
def pd1 (A : AH) : D → Option PyData
  | .ref i => match rdL A (.ref i) with
    | some xs => match pdL xs with
      | some ps => some (.list ps)
      | none => none
    | none => none
  | d => pd d
section
variable {K : PySem.W.Frag} {ρ : List Addr} {H : Hp} {A : AH}
mutual
theorem pd_ok : ∀ (d : D) (v : V) (p : PyData), Rp K ρ H d v → pd d = some p → Dp K H v p
  | .non, v, p, r, h => by cases r; cases h; exact .non
  | .bl b, v, p, r, h => by cases r; cases h; exact .bl b
  | .int i, v, p, r, h => by cases r; cases h; exact .int i
  | .str x, v, p, r, h => by cases r; cases h; exact .str x
  | .ref i, v, p, r, h => by cases h
  | .tup ds, v, p, r, h => by
    obtain ⟨a, xs, rfl, h2, h3⟩ := r
    unfold pd at h
    split at h
    · rename_i ps e
      cases h
      exact .tup h2 (pdL_ok ds xs ps h3 e)
    · cases h
theorem pdL_ok : ∀ (ds : List D) (xs : List V) (ps : List PyData), RpL K ρ H ds xs → pdL ds = some ps → DpAll K H xs ps
  | [], xs, ps, r, h => by cases r; cases h; exact .nil
  | d :: ds, xs, ps, r, h => by
    obtain ⟨x, r', rfl, h2, h3⟩ := r
    unfold pdL at h
    split at h
    · rename_i p ps' e1 e2
      cases h
      exact .cons (pd_ok d x p h2 e1) (pdL_ok ds r' ps' h3 e2)
    · cases h
end
theorem pd1_ok (R : Rel K ρ H A) {d : D} {v : V} {p : PyData} (r : Rp K ρ H d v) (h : pd1 A d = some p) : Dp K H v p := by
  cases d with
  | ref i =>
    unfold pd1 at h
    simp only at h
    split at h
    · rename_i xs e
      split at h
      · rename_i ps e2
        cases h
        obtain ⟨a, us, rfl, q1, q2⟩ := rdL_ok R r e
        exact .lst q1 (pdL_ok xs us ps q2 e2)
      · cases h
    · cases h
  | _ => exact pd_ok _ _ _ r h
end
/-- == of plain things -/
def scalD : D → D → Option Bool
  | .int i, .int j => some (decide (i = j))
  | .str x, .str y => some (decide (x = y))
  | .bl a, .bl b => some (decide (a = b))
  | .non, .non => some true
  | .non, .int _ => some false
  | .int _, .non => some false
  | .non, .bl _ => some false
  | .bl _, .non => some false
  | .non, .str _ => some false
  | .str _, .non => some false
  | .int _, .str _ => some false
  | .str _, .int _ => some false
  | .bl _, .str _ => some false
  | .str _, .bl _ => some false
  | _, _ => none
def eqB (d e : D) (A : AH) : Option Bool := match scalD d e with
  | some b => some b
  | none => match pd1 A d, pd1 A e with
    | some p, some q => if (SeqAt.shaped p && SeqAt.shaped q) = true then some (PyData.eqv p q) else none
    | _, _ => none
def okB (o : Option Bool) (A : AH) : Res D := match o with
  | some b => .ok (.bl b) A
  | none => .bad
def eqD (d e : D) (A : AH) : Res D := okB (eqB d e A) A
def neD (d e : D) (A : AH) : Res D := okB ((eqB d e A).map (!·)) A
section
variable {X : Cx} {E : XK} {K : PySem.W.Frag} {ρ : List Addr} {H : Hp} {A : AH}
theorem scal_ok {d e : D} {x y : V} {b : Bool} (r1 : Rp K ρ H d x) (r2 : Rp K ρ H e y) (h : scalD d e = some b) : scal x y = true ∧ decide (x = y) = b := by
  cases d <;> cases e <;> first | (cases h; done) | (cases r1; cases r2; cases h; first | exact ⟨rfl, rfl⟩ | exact ⟨rfl, by simp⟩)
theorem aop_eq (hu : X.A.units + 64 < cLine) : AOp X E (compareOp .Eq) eqD := op_mono (op_eq.or (op_eqD hu)) fun x y H Q h => by
  obtain ⟨ρ, A, d, e, R, r1, r2, h⟩ := h
  unfold eqD eqB at h
  split at h
  · rename_i b e1
    obtain ⟨s1, s2⟩ := scal_ok r1 r2 e1
    exact .inl ⟨s1, by rw [s2]; exact h.now R rfl⟩
  · split at h
    · rename_i p q e1 e2
      split at h
      · rename_i z
        rw [Bool.and_eq_true] at z
        exact .inr ⟨p, q, pd1_ok R r1 e1, pd1_ok R r2 e2, z.1, z.2, h.now R rfl⟩
      · exact h.elim
    · exact h.elim
theorem aop_ne (hu : X.A.units + 64 < cLine) : AOp X E (compareOp .NotEq) neD := op_mono (op_ne.or (op_neD hu)) fun x y H Q h => by
  obtain ⟨ρ, A, d, e, R, r1, r2, h⟩ := h
  unfold neD eqB at h
  split at h
  · rename_i b e1
    obtain ⟨s1, s2⟩ := scal_ok r1 r2 e1
    exact .inl ⟨s1, by rw [s2]; exact h.now R rfl⟩
  · split at h
    · rename_i p q e1 e2
      split at h
      · rename_i z
        rw [Bool.and_eq_true] at z
        exact .inr ⟨p, q, pd1_ok R r1 e1, pd1_ok R r2 e2, z.1, z.2, h.now R rfl⟩
      · exact h.elim
    · exact h.elim
end
/-! ## is, order -/
def isNon : D → Bool
  | .non => true
  | _ => false
def isD : D → D → AH → Res D
  | d, .non, A => .ok (.bl (isNon d)) A
  | .bl a, .bl b, A => .ok (.bl (decide (a = b))) A
  | _, _, _ => .bad
def isntD : D → D → AH → Res D
  | d, .non, A => .ok (.bl (!isNon d)) A
  | .bl a, .bl b, A => .ok (.bl (!decide (a = b))) A
  | _, _, _ => .bad
def ltD : D → D → AH → Res D
  | .int i, .int j, A => .ok (.bl (decide (i < j))) A
  | .str i, .str j, A => .ok (.bl (decide (i.cps.toList < j.cps.toList))) A
  | _, _, _ => .bad
def leD : D → D → AH → Res D
  | .int i, .int j, A => .ok (.bl (decide (i ≤ j))) A
  | .str i, .str j, A => .ok (.bl (!decide (j.cps.toList < i.cps.toList))) A
  | _, _, _ => .bad
def gtD : D → D → AH → Res D
  | .int i, .int j, A => .ok (.bl (decide (j < i))) A
  | .str i, .str j, A => .ok (.bl (decide (j.cps.toList < i.cps.toList))) A
  | _, _, _ => .bad
def geD : D → D → AH → Res D
  | .int i, .int j, A => .ok (.bl (decide (j ≤ i))) A
  | .str i, .str j, A => .ok (.bl (!decide (i.cps.toList < j.cps.toList))) A
  | _, _, _ => .bad
section
variable {X : Cx} {E : XK} {K : PySem.W.Frag} {ρ : List Addr} {H : Hp} {A : AH}
theorem isNon_ok {d : D} {x : V} (r : Rp K ρ H d x) : decide (x = .non) = isNon d := by
  cases d with
  | non => cases r; rfl
  | bl _ => cases r; rfl
  | int _ => cases r; rfl
  | str _ => cases r; rfl
  | tup _ => obtain ⟨a, xs, rfl, _⟩ := r; rfl
  | ref _ => obtain ⟨a, _, rfl⟩ := r; rfl
theorem aop_is : AOp X E (compareOp .Is) isD := op_mono (op_isN.or op_isBl) fun x y H Q h => by
  obtain ⟨ρ, A, d, e, R, r1, r2, h⟩ := h
  unfold isD at h
  split at h
  · cases r2
    exact .inl ⟨rfl, by rw [isNon_ok r1]; exact h.now R rfl⟩
  · cases r1; cases r2
    exact .inr ⟨_, _, rfl, rfl, h.now R rfl⟩
  · exact h.elim
theorem aop_isnt : AOp X E (compareOp .IsNot) isntD := op_mono (op_notN.or op_notBl) fun x y H Q h => by
  obtain ⟨ρ, A, d, e, R, r1, r2, h⟩ := h
  unfold isntD at h
  split at h
  · cases r2
    exact .inl ⟨rfl, by rw [isNon_ok r1]; exact h.now R rfl⟩
  · cases r1; cases r2
    exact .inr ⟨_, _, rfl, rfl, h.now R rfl⟩
  · exact h.elim
theorem aop_lt : AOp X E (compareOp .Lt) ltD := op_mono (op_lt.or op_lt_str) fun x y H Q h => by
  obtain ⟨ρ, A, d, e, R, r1, r2, h⟩ := h
  unfold ltD at h
  split at h
  · cases r1; cases r2; exact .inl ⟨_, _, rfl, rfl, h.now R rfl⟩
  · cases r1; cases r2; exact .inr ⟨_, _, rfl, rfl, h.now R rfl⟩
  · exact h.elim
theorem aop_le : AOp X E (compareOp .LtE) leD := op_mono (op_le.or op_le_str) fun x y H Q h => by
  obtain ⟨ρ, A, d, e, R, r1, r2, h⟩ := h
  unfold leD at h
  split at h
  · cases r1; cases r2; exact .inl ⟨_, _, rfl, rfl, h.now R rfl⟩
  · cases r1; cases r2; exact .inr ⟨_, _, rfl, rfl, h.now R rfl⟩
  · exact h.elim
theorem aop_gt : AOp X E (compareOp .Gt) gtD := op_mono (op_gt.or op_gt_str) fun x y H Q h => by
  obtain ⟨ρ, A, d, e, R, r1, r2, h⟩ := h
  unfold gtD at h
  split at h
  · cases r1; cases r2; exact .inl ⟨_, _, rfl, rfl, h.now R rfl⟩
  · cases r1; cases r2; exact .inr ⟨_, _, rfl, rfl, h.now R rfl⟩
  · exact h.elim
theorem aop_ge : AOp X E (compareOp .GtE) geD := op_mono (op_ge.or op_ge_str) fun x y H Q h => by
  obtain ⟨ρ, A, d, e, R, r1, r2, h⟩ := h
  unfold geD at h
  split at h
  · cases r1; cases r2; exact .inl ⟨_, _, rfl, rfl, h.now R rfl⟩
  · cases r1; cases r2; exact .inr ⟨_, _, rfl, rfl, h.now R rfl⟩
  · exact h.elim
end
/-! ## chains -/
def fChain (g g' : D → D → AH → Res D) (f1 f2 f3 : FE) : FE := fun s A => (f1 s A).bind fun x A1 => (f2 s A1).bind fun y A2 => (g x y A2).bind fun z A3 => match z with
  | .bl true => (f3 s A3).bind fun w A4 => g' y w A4
  | .bl false => .ok (.bl false) A3
  | _ => .bad
section
variable {X : Cx} {E : XK} {a b c : Expr} {f1 f2 f3 : FE} {pos : Pos} {g g' : D → D → AH → Res D}
theorem chain_ {K : PySem.W.Frag} {σ : L2.St} {H : Hp} {Q : VK} (h : tA K E (fChain g g' f1 f2 f3) σ H Q) : tChain (rA K E g) (rA K E g') (tA K E f1) (tA K E f2) (tA K E f3) σ H Q := by
  obtain ⟨ρ, s, A, hs, R, h⟩ := h
  refine ⟨ρ, s, A, hs, R, (Out.bind h).mono fun x H1 ⟨ρ1, d, A1, _, e1, R1, r1, h1⟩ => ⟨ρ1, s, A1, hs.ext e1, R1, (Out.bind h1).mono fun y H2 ⟨ρ2, d2, A2, _, e2, R2, r2, h2⟩ => ⟨ρ2, A2, d, d2, R2, r1.ext e2, r2, ?_⟩⟩⟩
  refine (Out.bind h2).mono fun z H3 ⟨ρ3, d3, A3, _, e3, R3, r3, h3⟩ => ?_
  split at h3
  · cases r3
    refine ⟨true, rfl, ?_⟩
    rw [if_pos rfl]
    exact ⟨ρ3, s, A3, hs.ext (e1.trans (e2.trans e3)), R3, (Out.bind h3).mono fun w H4 ⟨ρ4, d4, A4, _, e4, R4, r4, h4⟩ => ⟨ρ4, A4, d2, d4, R4, r2.ext (e3.trans e4), r4, h4⟩⟩
  · cases r3
    refine ⟨false, rfl, ?_⟩
    rw [if_neg Bool.false_ne_true]
    exact h3.now R3 rfl
  · exact h3.elim
theorem ae_chain {op op' : CmpOp} (ho : AOp X E (compareOp op) g) (ho' : AOp X E (compareOp op') g') (ha : AE X E a f1) (hb : AE X E b f2) (hc : AE X E c f3) (hm : lastMarks [op, op'] [b, c] = false := by with_unfolding_all rfl) :
    AE X E (.Compare a [op, op'] [b, c] pos) (fChain g g' f1 f2 f3) := pe_mono (pe_chain ho ho' ha hb hc hm) fun _ _ _ => chain_
end
/-! ## truth, tests -/
def truD (A : AH) : D → Option Bool
  | .non => some false
  | .bl b => some b
  | .int i => some (i != 0)
  | .str x => if x.length ≤ sizeLine then some ((x.length : Int) != 0) else none
  | .tup ds => some (!ds.isEmpty)
  | .ref i => match A[i]? with
    | some (.lst xs) => some (!xs.isEmpty)
    | some (.frz xs) => some (!xs.isEmpty)
    | some (.dic xs) => some (!xs.isEmpty)
    | _ => none
theorem empty_of {α β : Type} {xs : List α} {ys : List β} (h : xs.length = ys.length) : xs.isEmpty = ys.isEmpty := by cases xs <;> cases ys <;> first | rfl | simp at h
theorem RpK.length {κ : Type} {K : PySem.W.Frag} {ρ : List Addr} {H : Hp} : ∀ {ps : List (κ × D)} {us : List (κ × V)}, RpK K ρ H ps us → us.length = ps.length
  | [], us, h => by rw [show us = [] from h]; rfl
  | p :: ps, us, h => by
    obtain ⟨x, r, rfl, h2, h3⟩ := h
    simp [RpK.length h3]
theorem tru_of {K : PySem.W.Frag} {ρ : List Addr} {H : Hp} {A : AH} {d : D} {x : V} {k : Bool} (R : Rel K ρ H A) (r : Rp K ρ H d x) (h : truD A d = some k) : TruV K x H k := by
  cases d with
  | non => cases r; cases h; rfl
  | bl _ => cases r; cases h; rfl
  | int _ => cases r; cases h; rfl
  | str y =>
    cases r
    simp only [truD] at h
    by_cases z : y.length ≤ sizeLine
    · rw [if_pos z] at h; cases h; exact ⟨z, rfl⟩
    · rw [if_neg z] at h; cases h
  | tup ds =>
    obtain ⟨a, xs, rfl, h2, h3⟩ := r
    cases h
    exact .inr (.inl ⟨xs, h2, by rw [empty_of h3.length]⟩)
  | ref i =>
    obtain ⟨a, h1, rfl⟩ := r
    obtain ⟨o, h2, h3⟩ := R.has h1
    unfold truD at h
    simp only [h2] at h
    cases o with
    | lst xs => cases h; obtain ⟨us, e1, e2⟩ := h3; exact .inl ⟨us, .inl (.inl e1), by rw [empty_of e2.length]⟩
    | frz xs => cases h; obtain ⟨us, e1, e2⟩ := h3; exact .inl ⟨us, e1.sq, by rw [empty_of e2.length]⟩
    | dic xs => cases h; obtain ⟨us, e1, e2⟩ := h3; exact .inr (.inr ⟨us, e1, by rw [empty_of e2.length]⟩)
    | ins _ _ => cases h
def tru (d : D) (A : AH) : Res Bool := match truD A d with
  | some b => .ok b A
  | none => .bad
def fT (f : FE) : FT := fun s A => (f s A).bind tru
def fTB (f : FE) : FT := fun s A => (f s A).bind fun d A1 => match d with
  | .bl b => .ok b A1
  | _ => .bad
def fTNot (f : FT) : FT := fun s A => (f s A).bind fun b A1 => .ok (!b) A1
def fTAnd (f g : FT) : FT := fun s A => (f s A).bind fun b A1 => if b = true then g s A1 else .ok false A1
def fTOr (f g : FT) : FT := fun s A => (f s A).bind fun b A1 => if b = true then .ok true A1 else g s A1
def fNot (f : FE) : FE := fun s A => (f s A).bind fun d A1 => (tru d A1).bind fun b A2 => .ok (.bl (!b)) A2
def fAnd (f g : FE) : FE := fun s A => (f s A).bind fun d A1 => (tru d A1).bind fun b A2 => if b = true then g s A2 else .ok d A2
def fOr (f g : FE) : FE := fun s A => (f s A).bind fun d A1 => (tru d A1).bind fun b A2 => if b = true then .ok d A2 else g s A2
def fIf (c : FT) (f g : FE) : FE := fun s A => (c s A).bind fun b A1 => if b = true then f s A1 else g s A1
section
variable {X : Cx} {E : XK} {a b c : Expr} {f g h : FE} {t u : FT} {pos : Pos} {rest : List Expr}
theorem tru_run {K : PySem.W.Frag} {α β : Type} {R1 : List Addr → Hp → α → β → Prop} {ρ : List Addr} {H : Hp} {A : AH} {d : D} {x : V} {k : Bool → AH → Res α} {Q : β → Hp → Prop} (R : Rel K ρ H A) (r : Rp K ρ H d x)
    (h : Out K E R1 ρ H ((tru d A).bind k) Q) : ∃ b, TruV K x H b ∧ Out K E R1 ρ H (k b A) Q := by
  unfold tru at h
  split at h
  · rename_i b e
    exact ⟨b, tru_of R r e, h⟩
  · exact h.elim
theorem at_e (ha : AE X E a f) (he : ∀ whole, isTrue a X.env whole = (do let v ← whole; standAt a.pos; holding [v] (truthy v)) := by intro _; rfl) : AT X E a (fT f) := pt_mono (pt_truth ha he) fun σ H Q hh => by
  obtain ⟨ρ, s, A, hs, R, hh⟩ := hh
  refine ⟨ρ, s, A, hs, R, (Out.bind hh).mono fun x H1 ⟨ρ1, d, A1, _, e1, R1, r1, h1⟩ => ?_⟩
  unfold tru at h1
  split at h1
  · rename_i b e
    exact ⟨b, tru_of R1 r1 e, h1.now R1 rfl⟩
  · exact h1.elim
theorem tb_ {K : PySem.W.Frag} {σ : L2.St} {H : Hp} {Q : Bool → Hp → Prop} {t : TE} {f : FE} (m : ∀ R : VK, tA K E f σ H R → t σ H R) (hh : tAT K E (fTB f) σ H Q) : tTest t σ H Q := by
  refine m _ ?_
  obtain ⟨ρ, s, A, hs, R, hh⟩ := hh
  refine ⟨ρ, s, A, hs, R, (Out.bind hh).mono fun x H1 ⟨ρ1, d, A1, _, e1, R1, r1, h1⟩ => ?_⟩
  split at h1
  · cases r1
    exact ⟨_, rfl, h1.now R1 rfl⟩
  · exact h1.elim
/-- a comparison, as a test -/
theorem at_cmp {op : CmpOp} {go : D → D → AH → Res D} (ho : AOp X E (compareOp op) go) (ha : AE X E a f) (hb : AE X E b g) (hm : behindInMarks op b = false := by first | exact nomark _ | with_unfolding_all rfl) : AT X E (.Compare a [op] [b] pos) (fTB (fOp go f g)) := pt_mono (pt_cmpR ho ha hb hm) fun σ H Q h => tb_ (fun _ => two_) h
theorem at_chain {c : Expr} {op op' : CmpOp} {go go' : D → D → AH → Res D} (ho : AOp X E (compareOp op) go) (ho' : AOp X E (compareOp op') go') (ha : AE X E a f) (hb : AE X E b g) (hc : AE X E c h) (hm : lastMarks [op, op'] [b, c] = false := by with_unfolding_all rfl) :
    AT X E (.Compare a [op, op'] [b, c] pos) (fTB (fChain go go' f g h)) := pt_mono (pt_chain ho ho' ha hb hc hm) fun σ H Q hh => tb_ (fun _ => chain_) hh
theorem at_not (ha : AT X E a t) : AT X E (.UnaryOp .Not a pos) (fTNot t) := pt_mono (pt_not ha) fun σ H Q hh => by
  obtain ⟨ρ, s, A, hs, R, hh⟩ := hh
  refine ⟨ρ, s, A, hs, R, (Out.bind hh).mono fun x H1 ⟨ρ1, d, A1, _, e1, R1, r1, h1⟩ => ?_⟩
  cases r1
  exact h1.now R1 rfl
abbrev AW (X : Cx) (E : XK) (e : Expr) (f : FT) : Prop := PW X e (tAT X.K E f)
theorem aw_and1 (ha : AT X E a t) : AW X E (.BoolOp .And [a] pos) t := pw_and1 ha
theorem aw_or1 (ha : AT X E a t) : AW X E (.BoolOp .Or [a] pos) t := pw_or1 ha
theorem aw_and (ha : AT X E a t) (hb : AW X E (.BoolOp .And (b :: rest) pos) u) : AW X E (.BoolOp .And (a :: b :: rest) pos) (fTAnd t u) := pw_mono (pw_and ha hb) fun σ H Q hh => by
  obtain ⟨ρ, s, A, hs, R, hh⟩ := hh
  refine ⟨ρ, s, A, hs, R, (Out.bind hh).mono fun x H1 ⟨ρ1, d, A1, _, e1, R1, r1, h1⟩ => ?_⟩
  cases r1
  cases x with
  | true => exact ⟨ρ1, s, A1, hs.ext e1, R1, h1⟩
  | false => exact h1.now R1 rfl
theorem aw_or (ha : AT X E a t) (hb : AW X E (.BoolOp .Or (b :: rest) pos) u) : AW X E (.BoolOp .Or (a :: b :: rest) pos) (fTOr t u) := pw_mono (pw_or ha hb) fun σ H Q hh => by
  obtain ⟨ρ, s, A, hs, R, hh⟩ := hh
  refine ⟨ρ, s, A, hs, R, (Out.bind hh).mono fun x H1 ⟨ρ1, d, A1, _, e1, R1, r1, h1⟩ => ?_⟩
  cases r1
  cases x with
  | true => exact h1.now R1 rfl
  | false => exact ⟨ρ1, s, A1, hs.ext e1, R1, h1⟩
theorem ae_one {op} (h : AE X E a f) : AE X E (.BoolOp op [a] pos) f := pe_one h
theorem ae_and (ha : AE X E a f) (hb : AE X E (.BoolOp .And (b :: rest) pos) g) : AE X E (.BoolOp .And (a :: b :: rest) pos) (fAnd f g) := pe_mono (pe_andT ha hb) fun σ H Q hh => by
  obtain ⟨ρ, s, A, hs, R, hh⟩ := hh
  refine ⟨ρ, s, A, hs, R, (Out.bind hh).mono fun x H1 ⟨ρ1, d, A1, _, e1, R1, r1, h1⟩ => ?_⟩
  obtain ⟨k, tk, h2⟩ := tru_run R1 r1 h1
  refine ⟨k, tk, ?_⟩
  cases k with
  | true => exact ⟨ρ1, s, A1, hs.ext e1, R1, h2⟩
  | false => exact h2.now R1 r1
theorem ae_or (ha : AE X E a f) (hb : AE X E (.BoolOp .Or (b :: rest) pos) g) : AE X E (.BoolOp .Or (a :: b :: rest) pos) (fOr f g) := pe_mono (pe_orT ha hb) fun σ H Q hh => by
  obtain ⟨ρ, s, A, hs, R, hh⟩ := hh
  refine ⟨ρ, s, A, hs, R, (Out.bind hh).mono fun x H1 ⟨ρ1, d, A1, _, e1, R1, r1, h1⟩ => ?_⟩
  obtain ⟨k, tk, h2⟩ := tru_run R1 r1 h1
  refine ⟨k, tk, ?_⟩
  cases k with
  | true => exact h2.now R1 r1
  | false => exact ⟨ρ1, s, A1, hs.ext e1, R1, h2⟩
theorem ae_not (ha : AE X E a f) : AE X E (.UnaryOp .Not a pos) (fNot f) := pe_mono (pe_notT ha) fun σ H Q hh => by
  obtain ⟨ρ, s, A, hs, R, hh⟩ := hh
  refine ⟨ρ, s, A, hs, R, (Out.bind hh).mono fun x H1 ⟨ρ1, d, A1, _, e1, R1, r1, h1⟩ => ?_⟩
  obtain ⟨k, tk, h2⟩ := tru_run R1 r1 h1
  exact ⟨k, tk, h2.now R1 rfl⟩
theorem ae_if (hc : AT X E c t) (ha : AE X E a f) (hb : AE X E b g) : AE X E (.IfExp c a b pos) (fIf t f g) := pe_mono (pe_ifExp hc ha hb) fun σ H Q hh => by
  obtain ⟨ρ, s, A, hs, R, hh⟩ := hh
  refine ⟨ρ, s, A, hs, R, (Out.bind hh).mono fun x H1 ⟨ρ1, d, A1, _, e1, R1, r1, h1⟩ => ?_⟩
  cases r1
  cases x with
  | true => exact ⟨ρ1, s, A1, hs.ext e1, R1, h1⟩
  | false => exact ⟨ρ1, s, A1, hs.ext e1, R1, h1⟩
end
/-! ## arguments, displays -/
def fNil : FA := fun _ A => .ok [] A
def fCons (f : FE) (fs : FA) : FA := fun s A => (f s A).bind fun x A1 => (fs s A1).bind fun xs A2 => .ok (x :: xs) A2
def tupD (xs : List D) (A : AH) : Res D := if xs.length ≤ sizeLine then .ok (.tup xs) A else .bad
def lstD (xs : List D) (A : AH) : Res D := if xs.length ≤ sizeLine then alloc (.lst xs) A else .bad
def fTup (fs : FA) : FE := fun s A => (fs s A).bind tupD
def fLst (fs : FA) : FE := fun s A => (fs s A).bind lstD
section
variable {X : Cx} {E : XK} {e : Expr} {es : List Expr} {f : FE} {fs : FA} {pos : Pos}
theorem aa_nil : AA X E [] fNil := pa_mono pa_nil fun σ H Q hh => by
  obtain ⟨ρ, s, A, hs, R, hh⟩ := hh
  exact Out.now hh R rfl
theorem aa_cons (ha : AE X E e f) (hr : AA X E es fs) (hs : starEach (e :: es) X.env = (false, eval e X.env) :: starEach es X.env := by rfl) : AA X E (e :: es) (fCons f fs) := pa_mono (pa_cons ha hr hs) fun σ H Q hh => by
  obtain ⟨ρ, s, A, hs, R, hh⟩ := hh
  refine ⟨ρ, s, A, hs, R, (Out.bind hh).mono fun x H1 ⟨ρ1, d, A1, _, e1, R1, r1, h1⟩ => ⟨ρ1, s, A1, hs.ext e1, R1, (Out.bind h1).mono fun xs H2 ⟨ρ2, ds, A2, _, e2, R2, r2, h2⟩ => ?_⟩⟩
  exact Out.now h2 R2 ⟨x, xs, rfl, r1.ext e2, r2⟩
theorem ae_tup {x1} (h : AA X E es fs) : AE X E (.Tuple es x1 pos) (fTup fs) := pe_mono (pe_tup h) fun σ H Q hh => by
  obtain ⟨ρ, s, A, hs, R, hh⟩ := hh
  refine ⟨ρ, s, A, hs, R, (Out.bind hh).mono fun x H1 ⟨ρ1, d, A1, _, e1, R1, r1, h1⟩ => ?_⟩
  unfold tupD at h1
  split at h1
  · rename_i z
    exact ⟨by rw [r1.length]; exact z, new_tup R1 r1 h1⟩
  · exact h1.elim
theorem ae_lst (h : AA X E es fs) : AE X E (.List es pos) (fLst fs) := pe_mono (pe_lst h) fun σ H Q hh => by
  obtain ⟨ρ, s, A, hs, R, hh⟩ := hh
  refine ⟨ρ, s, A, hs, R, (Out.bind hh).mono fun x H1 ⟨ρ1, d, A1, _, e1, R1, r1, h1⟩ => ?_⟩
  unfold lstD at h1
  split at h1
  · rename_i z
    exact ⟨by rw [r1.length]; exact z, new_lst R1 r1 h1⟩
  · exact h1.elim
end
end Ab

namespace Ab
open PySem PySem.Spec PyProof.Rows L2
open scoped Classical

/-! ## dicts as lists of pairs -/
def getK {κ : Type} [DecidableEq κ] (kvs : List (κ × D)) (k : κ) : Option D := (kvs.find? fun kv => decide (kv.1 = k)).map (·.2)
def setK {κ : Type} [DecidableEq κ] (kvs : List (κ × D)) (k : κ) (v : D) : List (κ × D) :=
  if (kvs.any fun kv => decide (kv.1 = k)) = true then kvs.map (fun kv => if kv.1 = k then (kv.1, v) else kv) else kvs ++ [(k, v)]
def keyOf : D → Option Key
  | .int i => some (.inl i)
  | .str x => some (.inr x)
  | _ => none
section
variable {κ : Type} [DecidableEq κ] {K : PySem.W.Frag} {ρ : List Addr} {H : Hp} {A : AH}
theorem keyOf_ok {d : D} {v : V} {k : Key} (r : Rp K ρ H d v) (h : keyOf d = some k) : v = kV k := by
  cases d <;> first | (cases h; done) | (cases h; cases r; rfl)
theorem getK_ok {k : κ} : ∀ {kvs : List (κ × D)} {us : List (κ × V)}, RpK K ρ H kvs us → match getK kvs k with
    | some d => ∃ v, valV us k = some v ∧ Rp K ρ H d v
    | none => valV us k = none
  | [], us, h => by rw [show us = [] from h]; rfl
  | p :: ps, us, h => by
    obtain ⟨v, r, rfl, h2, h3⟩ := h
    have ih := getK_ok (k := k) h3
    by_cases e : p.1 = k
    · simp only [getK, List.find?_cons, e, decide_true, Option.map_some]
      exact ⟨v, by simp [valV, List.find?_cons, e], h2⟩
    · have e1 : getK (p :: ps) k = getK ps k := by simp [getK, List.find?_cons, e]
      have e2 : valV ((p.1, v) :: r) k = valV r k := by simp [valV, List.find?_cons, e]
      rw [e1, e2]
      exact ih
theorem any_ok {k : κ} : ∀ {kvs : List (κ × D)} {us : List (κ × V)}, RpK K ρ H kvs us → (kvs.any fun kv => decide (kv.1 = k)) = us.any fun kv => decide (kv.1 = k)
  | [], us, h => by rw [show us = [] from h]; rfl
  | p :: ps, us, h => by
    obtain ⟨v, r, rfl, h2, h3⟩ := h
    rw [List.any_cons, List.any_cons, any_ok h3]
theorem RpK.app : ∀ {kvs : List (κ × D)} {us : List (κ × V)} {k : κ} {d : D} {v : V}, RpK K ρ H kvs us → Rp K ρ H d v → RpK K ρ H (kvs ++ [(k, d)]) (us ++ [(k, v)])
  | [], us, k, d, v, h, q => by rw [show us = [] from h]; exact ⟨v, [], rfl, q, rfl⟩
  | p :: ps, us, k, d, v, h, q => by
    obtain ⟨w, r, rfl, h2, h3⟩ := h
    exact ⟨w, _, rfl, h2, h3.app q⟩
theorem setK_ok {k : κ} {d : D} {v : V} {kvs : List (κ × D)} {us : List (κ × V)} (h : RpK K ρ H kvs us) (q : Rp K ρ H d v) : RpK K ρ H (setK kvs k d) (putK us k v) := by
  unfold setK putK
  rw [any_ok h]
  split
  · have all : ∀ {kvs : List (κ × D)} {us : List (κ × V)}, RpK K ρ H kvs us → RpK K ρ H (kvs.map (fun kv => if kv.1 = k then (kv.1, d) else kv)) (us.map (fun kv => if kv.1 = k then (kv.1, v) else kv)) := by
      intro kvs
      induction kvs with
      | nil => intro us h; rw [show us = [] from h]; rfl
      | cons p ps ih =>
        intro us h
        obtain ⟨w, r, rfl, h2, h3⟩ := h
        by_cases e : p.1 = k
        · simp only [List.map_cons, if_pos e]; exact ⟨v, _, rfl, q, ih h3⟩
        · simp only [List.map_cons, if_neg e]; exact ⟨w, _, rfl, h2, ih h3⟩
    exact all h
  · exact h.app q
end

/-! ## subscripts -/
def ixSeq (xs : List D) (i : Int) (A : AH) : Res D := match atI xs i with
  | some x => .ok x A
  | none => .bad
def ixD (d e : D) (A : AH) : Res D := match e with
  | .int i => match rdS A d with
    | some xs => ixSeq xs i A
    | none => match d with
      | .str z => if z.length ≤ sizeLine then (match atI z.cps.toList i with | some c => .ok (.str ⟨#[c]⟩) A | none => .bad) else .bad
      | _ => match rdK A d with
        | some kvs => (match getK kvs (.inl i) with | some v => .ok v A | none => .bad)
        | none => .bad
  | .str x => match rdK A d with
    | some kvs => (match getK kvs (.inr x) with | some v => .ok v A | none => .bad)
    | none => .bad
  | _ => .bad
section
variable {X : Cx} {E : XK}
theorem ix_dict (hu : X.A.units + 1 < cLine) : IxR X (fun x y H Q => ∃ a v, x = .ref a ∧ DGet H a y (some v) ∧ Q v H) := by
  intro value slice pins s σ H x y v u Q I rx ry h hs
  obtain ⟨a, w, rfl, g, q⟩ := h
  obtain rfl : v = Value.ref a := rx
  exact tail_any (dict_typeIs I g) PySem.F.slot_dict_getitem.lookup (d_getItem hu I g ry fun w' s3 I3 rw' => ⟨w, H, I3, rw', q⟩) hs
theorem RpL.atI {K : PySem.W.Frag} {ρ : List Addr} {H : Hp} {ds : List D} {xs : List V} {i : Int} {d : D} (r : RpL K ρ H ds xs) (h : atI ds i = some d) : ∃ v, L2.atI xs i = some v ∧ Rp K ρ H d v := by
  unfold L2.atI at h ⊢
  rw [r.length]
  cases e : ixN ds.length i with
  | none => rw [e] at h; cases h
  | some j =>
    rw [e] at h
    exact r.get h
theorem ix_mono {r r' : R2} (h : IxR X r) (m : ∀ x y H Q, r' x y H Q → r x y H Q) : IxR X r' := fun value slice pins s σ H x y v u Q I rx ry q hs => h value slice pins s σ H x y v u Q I rx ry (m _ _ _ _ q) hs
theorem aix (hu : X.A.units + 1 < cLine) : IxR X (rA X.K E ixD) := ix_mono (ix_seq.or (ix_dict hu)) fun x y H Q h => by
  obtain ⟨ρ, A, d, e, R, r1, r2, h⟩ := h
  have dic : ∀ {k : Key} {kvs : List (Key × D)} {v : D}, y = kV k → rdK A d = some kvs → getK kvs k = some v → OutE X.K E ρ H (.ok v A) Q → ∃ a w, x = .ref a ∧ DGet H a y (some w) ∧ Q w H := by
    intro k kvs v ey e1 e2 h
    obtain ⟨_, a, us, _, rfl, _, _, q1, q2⟩ := rdK_ok R r1 e1
    have g := getK_ok (k := k) q2
    rw [e2] at g
    obtain ⟨w, g1, g2⟩ := g
    exact ⟨a, w, rfl, .inl ⟨us, k, .inl q1, ey, g1.symm⟩, h.now R g2⟩
  cases e with
  | int i =>
    cases r2
    simp only [ixD] at h
    split at h
    · rename_i ds e1
      obtain ⟨a, xs, rfl, q1, q2⟩ := rdS_ok R r1 e1
      unfold ixSeq at h
      split at h
      · rename_i z e2
        obtain ⟨v, q3, q4⟩ := q2.atI e2
        rcases q1 with q1 | q1
        · exact .inl (.inl ⟨a, xs, i, v, rfl, rfl, q1, q3, h.now R q4⟩)
        · exact .inl (.inr (.inl ⟨a, xs, i, v, rfl, rfl, q1, q3, h.now R q4⟩))
      · exact h.elim
    · split at h
      · split at h
        · rename_i z
          split at h
          · rename_i c e2
            cases r1
            exact .inl (.inr (.inr ⟨_, i, c, rfl, rfl, z, e2, h.now R rfl⟩))
          · exact h.elim
        · exact h.elim
      · split at h
        · rename_i kvs e1
          split at h
          · rename_i v e2
            exact .inr (dic (k := .inl i) rfl e1 e2 h)
          · exact h.elim
        · exact h.elim
  | str z =>
    cases r2
    simp only [ixD] at h
    split at h
    · rename_i kvs e1
      split at h
      · rename_i v e2
        exact .inr (dic (k := .inr z) rfl e1 e2 h)
      · exact h.elim
    · exact h.elim
  | _ => exact h.elim
theorem ae_ix {a b : Expr} {f g : FE} {pos : Pos} (hu : X.A.units + 1 < cLine) (ha : AE X E a f) (hb : AE X E b g) (hs : PlainIx b := by exact fun _ _ => rfl) : AE X E (.Subscript a b pos) (fOp ixD f g) := pe_mono (pe_ix (aix hu) ha hb hs) fun _ _ _ => two_
end

/-! ## slices -/
def fNo : FO := fun _ A => .ok none A
def fPart (f : FE) : FO := fun s A => (f s A).bind fun d A1 => match d with
  | .int i => .ok (some i) A1
  | _ => .bad
def cutL {α : Type} (xs : List α) (lo hi : Option Int) : List α := (xs.drop (HT.sIx xs.length 0 lo)).take (HT.sIx xs.length xs.length hi - HT.sIx xs.length 0 lo)
def slD (d : D) (lo hi : Option Int) (A : AH) : Res D := match d with
  | .tup xs => .ok (.tup (cutL xs lo hi)) A
  | .str z => if z.length ≤ sizeLine then .ok (.str (cutS z lo hi)) A else .bad
  | d => match rdL A d with
    | some xs => alloc (.lst (cutL xs lo hi)) A
    | none => .bad
def fSl (f : FE) (lo hi : FO) : FE := fun s A => (f s A).bind fun d A1 => (lo s A1).bind fun l A2 => (hi s A2).bind fun h A3 => slD d l h A3
section
variable {X : Cx} {E : XK} {e : Expr} {f : FE} {lo hi : Option Expr} {fl fh : FO} {p2 pos : Pos}
theorem ao_none : AO_ X E none fNo := ⟨fun pins s σ H Q I h => po_none.run pins s σ H Q I (by
  obtain ⟨ρ, s, A, hs, R, h⟩ := h
  exact Out.now h R rfl)⟩
theorem ao_some (h : AE X E e f) : AO_ X E (some e) (fPart f) := ⟨fun pins s σ H Q I h' => (po_some h).run pins s σ H Q I (by
  obtain ⟨ρ, s, A, hs, R, h⟩ := h'
  refine ⟨ρ, s, A, hs, R, (Out.bind h).mono fun x H1 ⟨ρ1, d, A1, _, e1, R1, r1, h1⟩ => ?_⟩
  split at h1
  · cases r1
    exact ⟨_, rfl, h1.now R1 rfl⟩
  · exact h1.elim)⟩
theorem RpL.cut {K : PySem.W.Frag} {ρ : List Addr} {H : Hp} {ds : List D} {xs : List V} (r : RpL K ρ H ds xs) (lo hi : Option Int) : RpL K ρ H (cutL ds lo hi) (cutV xs lo hi) := by
  unfold cutL cutV
  rw [r.length]
  exact (r.drop _).take _
theorem cutL_all {α : Type} {xs : List α} {lo hi : Option Int} (h : HT.sIx xs.length 0 lo = 0 ∧ HT.sIx xs.length xs.length hi = xs.length) : cutL xs lo hi = xs := by
  unfold cutL
  rw [h.1, h.2]
  simp
theorem ae_sl (he : AE X E e f) (hl : AO_ X E lo fl) (hh : AO_ X E hi fh) : AE X E (.Subscript e (.Slice lo hi none p2) pos) (fSl f fl fh) := pe_mono (pe_slice ((sl_tupA.or sl_str).or sl_list) he hl hh) fun σ H Q h => by
  obtain ⟨ρ, s, A, hs, R, h⟩ := h
  refine ⟨ρ, s, A, hs, R, (Out.bind h).mono fun x H1 ⟨ρ1, d, A1, _, e1, R1, r1, h1⟩ => ⟨ρ1, s, A1, hs.ext e1, R1, (Out.bind h1).mono fun l H2 ⟨ρ2, l', A2, _, e2, R2, r2, h2⟩ => ⟨ρ2, s, A2, hs.ext (e1.trans e2), R2, (Out.bind h2).mono fun u H3 ⟨ρ3, u', A3, _, e3, R3, r3, h3⟩ => ?_⟩⟩⟩
  cases r2; cases r3
  have r1 := r1.ext (e2.trans e3)
  unfold slD at h3
  split at h3
  · rename_i xs
    obtain ⟨a, us, rfl, q1, q2⟩ := r1
    refine .inl (.inl ⟨a, us, rfl, q1, fun z => ?_, fun _ => new_tup R3 (q2.cut _ _) h3⟩)
    rw [q2.length] at z
    rw [cutL_all z] at h3
    exact h3.now R3 ⟨a, us, rfl, q1, q2⟩
  · split at h3
    · rename_i z
      cases r1
      exact .inl (.inr ⟨_, rfl, z, h3.now R3 rfl⟩)
    · exact h3.elim
  · split at h3
    · rename_i xs e4
      obtain ⟨a, us, rfl, q1, q2⟩ := rdL_ok R3 r1 e4
      exact .inr ⟨a, us, rfl, q1, new_lst R3 (q2.cut _ _) h3⟩
    · exact h3.elim
def revD (d : D) (A : AH) : Res D := match rdL A d with
  | some xs => alloc (.lst xs.reverse) A
  | none => .bad
theorem ae_rev {k : Nat} {p1 p3 : Pos} (he : AE X E e f) : AE X E (.Subscript e (.Slice none none (some (.UnaryOp .USub (.Constant (.int 1) k p1) p2)) p3) pos) (fUn revD f) := pe_mono (pe_revL he) fun σ H Q h => by
  obtain ⟨ρ, s, A, hs, R, h⟩ := h
  refine ⟨ρ, s, A, hs, R, (Out.bind h).mono fun x H1 ⟨ρ1, d, A1, _, e1, R1, r1, h1⟩ => ?_⟩
  unfold revD at h1
  split at h1
  · rename_i xs e4
    obtain ⟨a, us, rfl, q1, q2⟩ := rdL_ok R1 r1 e4
    exact ⟨a, us, rfl, q1, new_lst R1 q2.reverse h1⟩
  · exact h1.elim
end

/-! ## in -/
def toV : D → Option V
  | .non => some .non
  | .bl b => some (.bl b)
  | .int i => some (.int i)
  | .str x => some (.str x)
  | _ => none
def toVs : List D → Option (List V)
  | [] => some []
  | d :: ds => match toV d, toVs ds with
    | some v, some vs => some (v :: vs)
    | _, _ => none
theorem toV_ok {K : PySem.W.Frag} {ρ : List Addr} {H : Hp} {d : D} {v w : V} (r : Rp K ρ H d v) (h : toV d = some w) : v = w ∧ flatV v = true := by
  cases d <;> first | (cases h; done) | (cases h; cases r; exact ⟨rfl, rfl⟩)
theorem toVs_ok {K : PySem.W.Frag} {ρ : List Addr} {H : Hp} : ∀ {ds : List D} {vs ws : List V}, RpL K ρ H ds vs → toVs ds = some ws → vs = ws ∧ vs.all flatV = true
  | [], vs, ws, r, h => by cases h; rw [show vs = [] from r]; exact ⟨rfl, rfl⟩
  | d :: ds, vs, ws, r, h => by
    obtain ⟨v, vs', rfl, h2, h3⟩ := r
    unfold toVs at h
    split at h
    · rename_i w ws' e1 e2
      cases h
      obtain ⟨rfl, f1⟩ := toV_ok h2 e1
      obtain ⟨rfl, f2⟩ := toVs_ok h3 e2
      exact ⟨rfl, by rw [List.all_cons, f1, f2]; rfl⟩
    · cases h
def inB (d e : D) (A : AH) : Option Bool := match e with
  | .str y => match d with
    | .str x => some (!(Builtin.Str.occurrences y x 0 y.length 1).isEmpty)
    | _ => none
  | e => match rdK A e with
    | some kvs => match keyOf d with
      | some k => some (getK kvs k).isSome
      | none => none
    | none => match rdS A e with
      | some ys => match toV d, toVs ys with
        | some x, some us => some (inV x us)
        | _, _ => match rdL A e, pd d, pdL ys with
          | some _, some p, some ps => if (SeqAt.shaped p && SeqAt.shaped (.list ps)) = true then some (ps.any fun z => PyData.eqv z p) else none
          | _, _, _ => none
      | none => none
def inD (d e : D) (A : AH) : Res D := okB (inB d e A) A
def ninD (d e : D) (A : AH) : Res D := okB ((inB d e A).map (!·)) A
section
variable {X : Cx} {E : XK}
theorem op_in_dk (hu : X.A.units + 1 < cLine) : OpR X (compareOp .In) (fun x y H Q => ∃ a o, y = .ref a ∧ DGet H a x o ∧ Q (.bl o.isSome) H) := by
  intro pins s σ H x y v u Q I rx ry h
  obtain ⟨a, o, rfl, g, q⟩ := h
  obtain rfl : u = Value.ref a := ry
  exact d_in hu I g rx fun s3 I3 => ⟨V.bl _, H, I3, rfl, q⟩
theorem op_nin_dk (hu : X.A.units + 1 < cLine) : OpR X (compareOp .NotIn) (fun x y H Q => ∃ a o, y = .ref a ∧ DGet H a x o ∧ Q (.bl (!o.isSome)) H) := by
  intro pins s σ H x y v u Q I rx ry h
  obtain ⟨a, o, rfl, g, q⟩ := h
  obtain rfl : u = Value.ref a := ry
  exact d_notIn hu I g rx fun s3 I3 => ⟨V.bl _, H, I3, rfl, q⟩
/-- what stands behind an answer of inB -/
theorem inB_ok {K : PySem.W.Frag} {ρ : List Addr} {H : Hp} {A : AH} {d e : D} {x y : V} {b : Bool} (R : Rel K ρ H A) (r1 : Rp K ρ H d x) (r2 : Rp K ρ H e y) (h : inB d e A = some b) :
    (∃ i j, x = .str i ∧ y = .str j ∧ b = !(Builtin.Str.occurrences j i 0 j.length 1).isEmpty) ∨ (∃ p xs, y = .ref p ∧ (SqL K H p xs ∨ SqT K H p xs) ∧ flatV x = true ∧ xs.all flatV = true ∧ b = inV x xs) ∨
    (∃ a o, y = .ref a ∧ DGet H a x o ∧ b = o.isSome) ∨ (∃ d' ds, Dp K H x d' ∧ Dp K H y (.list ds) ∧ SeqAt.shaped d' = true ∧ SeqAt.shaped (.list ds) = true ∧ b = ds.any fun z => PyData.eqv z d') := by
  unfold inB at h
  split at h
  · split at h
    · cases h; cases r1; cases r2
      exact .inl ⟨_, _, rfl, rfl, rfl⟩
    · cases h
  · split at h
    · rename_i kvs e1
      split at h
      · rename_i k e2
        cases h
        obtain ⟨_, a, us, _, rfl, _, _, q1, q2⟩ := rdK_ok R r2 e1
        have ex := keyOf_ok r1 e2
        have g := getK_ok (k := k) q2
        refine .inr (.inr (.inl ⟨a, valV us k, rfl, .inl ⟨us, k, .inl q1, ex, rfl⟩, ?_⟩))
        split at g
        · rename_i d' e3
          obtain ⟨w, g1, _⟩ := g
          rw [g1, e3]; rfl
        · rename_i e3
          rw [g, e3]; rfl
      · cases h
    · split at h
      · rename_i ys e1
        split at h
        · rename_i x' us e2 e3
          cases h
          obtain ⟨a, xs, rfl, q1, q2⟩ := rdS_ok R r2 e1
          obtain ⟨rfl, f1⟩ := toV_ok r1 e2
          obtain ⟨rfl, f2⟩ := toVs_ok q2 e3
          exact .inr (.inl ⟨a, _, rfl, q1, f1, f2, rfl⟩)
        · split at h
          · rename_i zs p ps e2 e3 e4
            split at h
            · rename_i z
              rw [Bool.and_eq_true] at z
              cases h
              obtain ⟨a, xs, rfl, q1, q2⟩ := rdL_ok R r2 e2
              have ez : ys = zs := by
                cases e with
                | ref i => rw [show rdS A (.ref i) = rdL A (.ref i) from rfl] at e1; rw [e1] at e2; exact Option.some.inj e2
                | _ => cases e2
              subst ez
              exact .inr (.inr (.inr ⟨p, ps, pd_ok d x p r1 e3, .lst q1 (pdL_ok ys xs ps q2 e4), z.1, z.2, rfl⟩))
            · cases h
          · cases h
      · cases h
theorem aop_in (hu : X.A.units + 65 < cLine) : AOp X E (compareOp .In) inD := op_mono ((op_in_str.or op_in_seq).or ((op_in_dk (by omega)).or (op_inD hu))) fun x y H Q h => by
  obtain ⟨ρ, A, d, e, R, r1, r2, h⟩ := h
  unfold inD okB at h
  split at h
  · rename_i b e1
    have h := Out.now (R1 := fun ρ H d v => Rp X.K ρ H d v) (v := V.bl b) h R rfl
    rcases inB_ok R r1 r2 e1 with ⟨i, j, rfl, rfl, rfl⟩ | ⟨p, xs, rfl, q1, q2, q3, rfl⟩ | ⟨a, o, rfl, g, rfl⟩ | ⟨d', ds, q1, q2, q3, q4, rfl⟩
    · exact .inl (.inl ⟨i, j, rfl, rfl, h⟩)
    · exact .inl (.inr ⟨p, xs, rfl, q1, q2, q3, h⟩)
    · exact .inr (.inl ⟨a, o, rfl, g, h⟩)
    · exact .inr (.inr ⟨d', ds, q1, q2, q3, q4, h⟩)
  · exact h.elim
theorem aop_nin (hu : X.A.units + 65 < cLine) : AOp X E (compareOp .NotIn) ninD := op_mono ((op_notin_str.or op_notIn_seq).or ((op_nin_dk (by omega)).or (op_notInD hu))) fun x y H Q h => by
  obtain ⟨ρ, A, d, e, R, r1, r2, h⟩ := h
  unfold ninD okB at h
  cases e1 : inB d e A with
  | none => rw [e1] at h; exact h.elim
  | some b =>
    rw [e1] at h
    have h := Out.now (R1 := fun ρ H d v => Rp X.K ρ H d v) (v := V.bl (!b)) h R rfl
    rcases inB_ok R r1 r2 e1 with ⟨i, j, rfl, rfl, rfl⟩ | ⟨p, xs, rfl, q1, q2, q3, rfl⟩ | ⟨a, o, rfl, g, rfl⟩ | ⟨d', ds, q1, q2, q3, q4, rfl⟩
    · exact .inl (.inl ⟨i, j, rfl, rfl, h⟩)
    · exact .inl (.inr ⟨p, xs, rfl, q1, q2, q3, h⟩)
    · exact .inr (.inl ⟨a, o, rfl, g, h⟩)
    · exact .inr (.inr ⟨d', ds, q1, q2, q3, q4, h⟩)
end

/-! ## calls of built-ins -/
def rC (K : PySem.W.Frag) (E : XK) (g : FM) : List V → Hp → VK → Prop := fun xs H Q => ∃ ρ A ds, Rel K ρ H A ∧ RpL K ρ H ds xs ∧ OutE K E ρ H (g ds A) Q
abbrev ACall (X : Cx) (E : XK) (f : Value) (g : FM) : Prop := CallR X f (rC X.K E g)
def fCall (g : FM) (fs : FA) : FE := fun s A => (fs s A).bind fun ds A1 => g ds A1
section
variable {X : Cx} {E : XK} {e : Expr} {es : List Expr} {fs : FA} {g : FM} {x : Str} {p pos : Pos} {id T : String}
theorem call_ {K : PySem.W.Frag} {σ : L2.St} {H : Hp} {Q : VK} (h : tA K E (fCall g fs) σ H Q) : tCB (rC K E g) (tAA K E fs) σ H Q := by
  obtain ⟨ρ, s, A, hs, R, h⟩ := h
  exact ⟨ρ, s, A, hs, R, (Out.bind h).mono fun x H1 ⟨ρ1, d, A1, _, e1, R1, r1, h1⟩ => ⟨ρ1, A1, d, R1, r1, h1⟩⟩
theorem ae_callB (hc : ACall X E (.builtin id) g) (hg : Gl X x) (hm : X.mg x = none) (hv : bootBuiltins x = some (.builtin id)) (ha : AA X E (e :: es) fs) (hn : x ≠ "__name__" := by decide) (hdb : (x == ("__debug__" : Str)) = false := by decide)
    (he : starEach (e :: es) X.env = (false, eval e X.env) :: starEach es X.env := by rfl) (hpl : (backTo pos (starEach es X.env)).any (·.1) = false := by rfl) : AE X E (.Call (.Name x p) (e :: es) [] pos) (fCall g fs) :=
  pe_mono (pe_callB hc hg hm hv ha hn hdb he hpl) fun _ _ _ => call_
theorem ae_callT (hc : ACall X E (.type T) g) (hg : Gl X x) (hm : X.mg x = none) (hv : bootBuiltins x = some (.type T)) (ha : AA X E (e :: es) fs) (hn : x ≠ "__name__" := by decide) (hdb : (x == ("__debug__" : Str)) = false := by decide)
    (he : starEach (e :: es) X.env = (false, eval e X.env) :: starEach es X.env := by rfl) (hpl : (backTo pos (starEach es X.env)).any (·.1) = false := by rfl) : AE X E (.Call (.Name x p) (e :: es) [] pos) (fCall g fs) :=
  pe_mono (pe_callTy hc hg hm hv ha hn hdb he hpl) fun _ _ _ => call_
end
def intsOf : List D → Option (List Int)
  | [] => some []
  | .int i :: r => match intsOf r with
    | some is => some (i :: is)
    | none => none
  | _ :: _ => none
def blsOf : List D → Option (List Bool)
  | [] => some []
  | .bl i :: r => match blsOf r with
    | some is => some (i :: is)
    | none => none
  | _ :: _ => none
def maxI : List Int → Int
  | [] => 0
  | [x] => x
  | x :: r => if maxI r > x then maxI r else x
def minI : List Int → Int
  | [] => 0
  | [x] => x
  | x :: r => if minI r < x then minI r else x
section
variable {K : PySem.W.Frag} {ρ : List Addr} {H : Hp}
theorem ints_ok : ∀ {ds : List D} {xs : List V} {is : List Int}, RpL K ρ H ds xs → intsOf ds = some is → xs = is.map V.int
  | [], xs, is, r, h => by cases h; rw [show xs = [] from r]; rfl
  | d :: ds, xs, is, r, h => by
    obtain ⟨x, xs', rfl, h2, h3⟩ := r
    cases d with
    | int i =>
      cases h2
      unfold intsOf at h
      split at h
      · rename_i js e
        cases h
        rw [ints_ok h3 e]; rfl
      · cases h
    | _ => cases h
theorem bls_ok : ∀ {ds : List D} {xs : List V} {is : List Bool}, RpL K ρ H ds xs → blsOf ds = some is → xs = is.map V.bl
  | [], xs, is, r, h => by cases h; rw [show xs = [] from r]; rfl
  | d :: ds, xs, is, r, h => by
    obtain ⟨x, xs', rfl, h2, h3⟩ := r
    cases d with
    | bl i =>
      cases h2
      unfold blsOf at h
      split at h
      · rename_i js e
        cases h
        rw [bls_ok h3 e]; rfl
      · cases h
    | _ => cases h
end
theorem maxI_cons (x y : Int) (r : List Int) : maxI (x :: y :: r) = if maxI (y :: r) > x then maxI (y :: r) else x := rfl
theorem minI_cons (x y : Int) (r : List Int) : minI (x :: y :: r) = if minI (y :: r) < x then minI (y :: r) else x := rfl
theorem maxI_mem : ∀ {ns : List Int}, ns ≠ [] → maxI ns ∈ ns
  | [], h => absurd rfl h
  | [x], _ => by simp [maxI]
  | x :: y :: r, _ => by
    have ih := maxI_mem (ns := y :: r) (by simp)
    rw [maxI_cons]
    split
    · exact List.mem_cons_of_mem _ ih
    · exact List.mem_cons_self
theorem maxI_le : ∀ {ns : List Int} {y : Int}, y ∈ ns → y ≤ maxI ns
  | [x], y, h => by simp at h; subst h; simp [maxI]
  | x :: z :: r, y, h => by
    have ih := fun q => maxI_le (ns := z :: r) (y := y) q
    rw [maxI_cons]
    rcases List.mem_cons.mp h with e | e
    · subst e; split <;> omega
    · have := ih e; split <;> omega
theorem minI_mem : ∀ {ns : List Int}, ns ≠ [] → minI ns ∈ ns
  | [], h => absurd rfl h
  | [x], _ => by simp [minI]
  | x :: y :: r, _ => by
    have ih := minI_mem (ns := y :: r) (by simp)
    rw [minI_cons]
    split
    · exact List.mem_cons_of_mem _ ih
    · exact List.mem_cons_self
theorem minI_le : ∀ {ns : List Int} {y : Int}, y ∈ ns → minI ns ≤ y
  | [x], y, h => by simp at h; subst h; simp [minI]
  | x :: z :: r, y, h => by
    have ih := fun q => minI_le (ns := z :: r) (y := y) q
    rw [minI_cons]
    rcases List.mem_cons.mp h with e | e
    · subst e; split <;> omega
    · have := ih e; split <;> omega
theorem maxI_eq {ns : List Int} {m : Int} (h : m ∈ ns) (q : ∀ y ∈ ns, y ≤ m) : maxI ns = m := by
  have h1 := maxI_le h
  have h2 := q _ (maxI_mem (ns := ns) (by intro e; subst e; cases h))
  omega
theorem minI_eq {ns : List Int} {m : Int} (h : m ∈ ns) (q : ∀ y ∈ ns, m ≤ y) : minI ns = m := by
  have h1 := minI_le h
  have h2 := q _ (minI_mem (ns := ns) (by intro e; subst e; cases h))
  omega
def lenD : FM
  | [.str x], A => if x.length ≤ sizeLine then .ok (.int x.length) A else .bad
  | [d], A => match rdS A d with
    | some xs => .ok (.int xs.length) A
    | none => match rdK A d with
      | some xs => .ok (.int xs.length) A
      | none => .bad
  | _, _ => .bad
def intD : FM
  | [.int i], A => .ok (.int i) A
  | [.bl b], A => .ok (.int (if b then 1 else 0)) A
  | [.str x], A => if x.length ≤ 640 then (match PySem.intText? x with | some n => .ok (.int n) A | none => .bad) else .bad
  | _, _ => .bad
def strD : FM
  | [.int i], A => if i.natAbs.log2 < 1920 then .ok (.str (toString i)) A else .bad
  | [.str x], A => .ok (.str x) A
  | _, _ => .bad
def absD : FM
  | [.int i], A => .ok (.int (if i < 0 then -i else i)) A
  | _, _ => .bad
def maxD : FM
  | [.int i, .int j], A => .ok (.int (if j > i then j else i)) A
  | [d], A => match rdL A d with
    | some xs => match intsOf xs with
      | some (i :: is) => .ok (.int (maxI (i :: is))) A
      | _ => .bad
    | none => .bad
  | _, _ => .bad
def minD : FM
  | [.int i, .int j], A => .ok (.int (if j < i then j else i)) A
  | [d], A => match rdL A d with
    | some xs => match intsOf xs with
      | some (i :: is) => .ok (.int (minI (i :: is))) A
      | _ => .bad
    | none => .bad
  | _, _ => .bad
def sumD : FM
  | [d], A => match rdL A d with
    | some xs => match intsOf xs with
      | some is => .ok (.int is.sum) A
      | _ => .bad
    | none => .bad
  | _, _ => .bad
def anyD : FM
  | [d], A => match rdL A d with
    | some xs => match blsOf xs with
      | some is => .ok (.bl (is.any id)) A
      | _ => .bad
    | none => .bad
  | _, _ => .bad
def allD : FM
  | [d], A => match rdL A d with
    | some xs => match blsOf xs with
      | some is => .ok (.bl (is.all id)) A
      | _ => .bad
    | none => .bad
  | _, _ => .bad
def tupOf : FM
  | [.tup xs], A => .ok (.tup xs) A
  | [d], A => match rdL A d with
    | some xs => .ok (.tup xs) A
    | none => .bad
  | _, _ => .bad
def lstOf : FM
  | [d], A => match rdS A d with
    | some xs => alloc (.lst xs) A
    | none => match rdK A d with
      | some kvs => .bad
      | none => .bad
  | _, _ => .bad
def dicOf : FM
  | [d], A => match rdK A d with
    | some kvs => alloc (.dic kvs) A
    | none => .bad
  | _, _ => .bad
section
variable {X : Cx} {E : XK}
theorem RpL.one_inv {K : PySem.W.Frag} {ρ : List Addr} {H : Hp} {d : D} {xs : List V} (r : RpL K ρ H [d] xs) : ∃ x, xs = [x] ∧ Rp K ρ H d x := by
  obtain ⟨x, r, rfl, h, h2⟩ := r
  exact ⟨x, by rw [show r = [] from h2], h⟩
theorem RpL.two_inv {K : PySem.W.Frag} {ρ : List Addr} {H : Hp} {d e : D} {xs : List V} (r : RpL K ρ H [d, e] xs) : ∃ x y, xs = [x, y] ∧ Rp K ρ H d x ∧ Rp K ρ H e y := by
  obtain ⟨x, r, rfl, h, h2⟩ := r
  obtain ⟨y, rfl, h3⟩ := h2.one_inv
  exact ⟨x, y, rfl, h, h3⟩
theorem acall_len : ACall X E (.builtin "len") lenD := callR_mono ((call_len_seq.or call_len_str).or call_lenD) fun xs H Q h => by
  obtain ⟨ρ, A, ds, R, r, h⟩ := h
  unfold lenD at h
  split at h
  · split at h
    · rename_i z
      obtain ⟨x, rfl, r1⟩ := r.one_inv
      cases r1
      exact .inl (.inr ⟨_, rfl, z, h.now R rfl⟩)
    · exact h.elim
  · obtain ⟨x, rfl, r1⟩ := r.one_inv
    split at h
    · rename_i ys e1
      obtain ⟨a, us, rfl, q1, q2⟩ := rdS_ok R r1 e1
      exact .inl (.inl ⟨a, us, rfl, q1, h.now R (by rw [q2.length]; rfl)⟩)
    · split at h
      · rename_i kvs e1
        obtain ⟨_, a, us, _, rfl, _, _, q1, q2⟩ := rdK_ok R r1 e1
        exact .inr ⟨a, us, rfl, q1, h.now R (by rw [q2.length]; rfl)⟩
      · exact h.elim
  · exact h.elim
theorem acall_int : ACall X E (.type "int") intD := callR_mono (call_int1.or call_int_str) fun xs H Q h => by
  obtain ⟨ρ, A, ds, R, r, h⟩ := h
  unfold intD at h
  split at h
  · obtain ⟨x, rfl, r1⟩ := r.one_inv
    cases r1
    exact .inl (.inl ⟨_, rfl, h.now R rfl⟩)
  · obtain ⟨x, rfl, r1⟩ := r.one_inv
    cases r1
    exact .inl (.inr ⟨_, rfl, h.now R rfl⟩)
  · obtain ⟨x, rfl, r1⟩ := r.one_inv
    cases r1
    split at h
    · rename_i z
      split at h
      · rename_i n e
        exact .inr ⟨_, n, rfl, e, z, h.now R rfl⟩
      · exact h.elim
    · exact h.elim
  · exact h.elim
theorem acall_str : ACall X E (.type "str") strD := callR_mono (call_str_int.or SkE.call_str_str) fun xs H Q h => by
  obtain ⟨ρ, A, ds, R, r, h⟩ := h
  unfold strD at h
  split at h
  · obtain ⟨x, rfl, r1⟩ := r.one_inv
    cases r1
    split at h
    · rename_i z
      exact .inl ⟨_, rfl, z, h.now R rfl⟩
    · exact h.elim
  · obtain ⟨x, rfl, r1⟩ := r.one_inv
    cases r1
    exact .inr ⟨_, rfl, h.now R rfl⟩
  · exact h.elim
theorem acall_abs : ACall X E (.builtin "abs") absD := callR_mono call_abs fun xs H Q h => by
  obtain ⟨ρ, A, ds, R, r, h⟩ := h
  unfold absD at h
  split at h
  · obtain ⟨x, rfl, r1⟩ := r.one_inv
    cases r1
    exact ⟨_, rfl, h.now R rfl⟩
  · exact h.elim
theorem acall_max (hc : X.calm = true) : ACall X E (.builtin "max") maxD := callR_mono ((call_max2 hc).or (cr_max hc)) fun xs H Q h => by
  obtain ⟨ρ, A, ds, R, r, h⟩ := h
  unfold maxD at h
  split at h
  · obtain ⟨x, y, rfl, r1, r2⟩ := r.two_inv
    cases r1; cases r2
    exact .inl ⟨_, _, rfl, h.now R rfl⟩
  · obtain ⟨x, rfl, r1⟩ := r.one_inv
    split at h
    · rename_i ys e1
      obtain ⟨a, us, rfl, q1, q2⟩ := rdL_ok R r1 e1
      split at h
      · rename_i i is e2
        refine .inr ⟨a, i :: is, rfl, by rw [← ints_ok q2 e2]; exact q1, by simp, fun m h1 h2 => h.now R ?_⟩
        rw [maxI_eq h1 h2]; rfl
      · exact h.elim
    · exact h.elim
  · exact h.elim
theorem acall_min (hc : X.calm = true) : ACall X E (.builtin "min") minD := callR_mono ((call_min2 hc).or (cr_min hc)) fun xs H Q h => by
  obtain ⟨ρ, A, ds, R, r, h⟩ := h
  unfold minD at h
  split at h
  · obtain ⟨x, y, rfl, r1, r2⟩ := r.two_inv
    cases r1; cases r2
    exact .inl ⟨_, _, rfl, h.now R rfl⟩
  · obtain ⟨x, rfl, r1⟩ := r.one_inv
    split at h
    · rename_i ys e1
      obtain ⟨a, us, rfl, q1, q2⟩ := rdL_ok R r1 e1
      split at h
      · rename_i i is e2
        refine .inr ⟨a, i :: is, rfl, by rw [← ints_ok q2 e2]; exact q1, by simp, fun m h1 h2 => h.now R ?_⟩
        rw [minI_eq h1 h2]; rfl
      · exact h.elim
    · exact h.elim
  · exact h.elim
theorem acall_sum (hc : X.calm = true) : ACall X E (.builtin "sum") sumD := callR_mono (cr_sum hc) fun xs H Q h => by
  obtain ⟨ρ, A, ds, R, r, h⟩ := h
  unfold sumD at h
  split at h
  · obtain ⟨x, rfl, r1⟩ := r.one_inv
    split at h
    · rename_i ys e1
      obtain ⟨a, us, rfl, q1, q2⟩ := rdL_ok R r1 e1
      split at h
      · rename_i is e2
        exact ⟨a, is, rfl, by rw [← ints_ok q2 e2]; exact q1, h.now R rfl⟩
      · exact h.elim
    · exact h.elim
  · exact h.elim
theorem acall_any (hc : X.calm = true) : ACall X E (.builtin "any") anyD := callR_mono (cr_any hc) fun xs H Q h => by
  obtain ⟨ρ, A, ds, R, r, h⟩ := h
  unfold anyD at h
  split at h
  · obtain ⟨x, rfl, r1⟩ := r.one_inv
    split at h
    · rename_i ys e1
      obtain ⟨a, us, rfl, q1, q2⟩ := rdL_ok R r1 e1
      split at h
      · rename_i is e2
        exact ⟨a, is, rfl, by rw [← bls_ok q2 e2]; exact q1, h.now R rfl⟩
      · exact h.elim
    · exact h.elim
  · exact h.elim
theorem acall_all (hc : X.calm = true) : ACall X E (.builtin "all") allD := callR_mono (cr_all hc) fun xs H Q h => by
  obtain ⟨ρ, A, ds, R, r, h⟩ := h
  unfold allD at h
  split at h
  · obtain ⟨x, rfl, r1⟩ := r.one_inv
    split at h
    · rename_i ys e1
      obtain ⟨a, us, rfl, q1, q2⟩ := rdL_ok R r1 e1
      split at h
      · rename_i is e2
        exact ⟨a, is, rfl, by rw [← bls_ok q2 e2]; exact q1, h.now R rfl⟩
      · exact h.elim
    · exact h.elim
  · exact h.elim
theorem acall_tuple : ACall X E (.type "tuple") tupOf := callR_mono call_tuple_of fun xs H Q h => by
  obtain ⟨ρ, A, ds, R, r, h⟩ := h
  unfold tupOf at h
  split at h
  · obtain ⟨x, rfl, r1⟩ := r.one_inv
    obtain ⟨a, us, rfl, q1, q2⟩ := r1
    exact ⟨a, us, rfl, .inr ⟨q1, h.now R ⟨a, us, rfl, q1, q2⟩⟩⟩
  · obtain ⟨x, rfl, r1⟩ := r.one_inv
    split at h
    · rename_i ys e1
      obtain ⟨a, us, rfl, q1, q2⟩ := rdL_ok R r1 e1
      exact ⟨a, us, rfl, .inl ⟨q1, new_tup R q2 h⟩⟩
    · exact h.elim
  · exact h.elim
theorem acall_list : ACall X E (.type "list") lstOf := callR_mono call_list_of fun xs H Q h => by
  obtain ⟨ρ, A, ds, R, r, h⟩ := h
  unfold lstOf at h
  split at h
  · obtain ⟨x, rfl, r1⟩ := r.one_inv
    split at h
    · rename_i ys e1
      obtain ⟨a, us, rfl, q1, q2⟩ := rdS_ok R r1 e1
      exact ⟨a, us, rfl, q1, new_lst R q2 h⟩
    · split at h <;> exact h.elim
  · exact h.elim
theorem acall_dict : ACall X E (.type "dict") dicOf := callR_mono call_dictD fun xs H Q h => by
  obtain ⟨ρ, A, ds, R, r, h⟩ := h
  unfold dicOf at h
  split at h
  · obtain ⟨x, rfl, r1⟩ := r.one_inv
    split at h
    · rename_i ys e1
      obtain ⟨_, a, us, _, rfl, _, _, q1, q2⟩ := rdK_ok R r1 e1
      exact ⟨a, us, rfl, .inl q1, new_dic R q2 h⟩
    · exact h.elim
  · exact h.elim
end
end Ab

namespace Ab
open PySem PySem.Spec PyProof.Rows L2
open scoped Classical

/-! ## targets -/
abbrev FG := D → ASt → AH → Res ASt
def OutG (K : PySem.W.Frag) (E : XK) (ρ : List Addr) (H : Hp) (r : Res ASt) (Q : L2.St → Hp → Prop) : Prop := match r with
  | .ok s A' => ∀ ρ' H' σ', Ext K ρ H ρ' H' → Rel K ρ' H' A' → SRel K ρ' H' s σ' → Q σ' H'
  | .exc C fs A' => ∀ ρ' H' dx us, Ext K ρ H ρ' H' → Rel K ρ' H' A' → H' dx = some (.xd us) → RpK K ρ' H' fs us → E (.ref C) (some dx) H'
  | .bad => False
theorem OutG.ext {K : PySem.W.Frag} {E : XK} {ρ0 ρ : List Addr} {H0 H : Hp} {r : Res ASt} {G : L2.St → Hp → Prop} (h : OutG K E ρ0 H0 r G) (e : Ext K ρ0 H0 ρ H) : OutG K E ρ H r G := by
  cases r with
  | bad => exact h
  | exc C fs A => exact fun ρ' H' dx us e2 => h ρ' H' dx us (e.trans e2)
  | ok c A => exact fun ρ' H' w e2 => h ρ' H' w (e.trans e2)
theorem Out.bindG {K : PySem.W.Frag} {E : XK} {α β : Type} {R1 : List Addr → Hp → α → β → Prop} {ρ : List Addr} {H : Hp} {r : Res α} {k : α → AH → Res ASt} {G : L2.St → Hp → Prop} (h : OutG K E ρ H (r.bind k) G) :
    Out K E R1 ρ H r (fun v H1 => ∃ ρ1 a A1, r = .ok a A1 ∧ Ext K ρ H ρ1 H1 ∧ Rel K ρ1 H1 A1 ∧ R1 ρ1 H1 a v ∧ OutG K E ρ1 H1 (k a A1) G) := by
  cases r with
  | bad => exact h
  | exc C fs A => exact h
  | ok a A => exact fun ρ1 H1 v e1 r1 q1 => ⟨ρ1, a, A, rfl, e1, r1, q1, OutG.ext h e1⟩
theorem OutG.bindG {K : PySem.W.Frag} {E : XK} {ρ : List Addr} {H : Hp} {r : Res ASt} {k : ASt → AH → Res ASt} {G : L2.St → Hp → Prop} (h : OutG K E ρ H (r.bind k) G) :
    OutG K E ρ H r (fun σ H1 => ∃ ρ1 s A1, r = .ok s A1 ∧ Ext K ρ H ρ1 H1 ∧ Rel K ρ1 H1 A1 ∧ SRel K ρ1 H1 s σ ∧ OutG K E ρ1 H1 (k s A1) G) := by
  cases r with
  | bad => exact h
  | exc C fs A => exact h
  | ok a A => exact fun ρ1 H1 v e1 r1 q1 => ⟨ρ1, a, A, rfl, e1, r1, q1, OutG.ext h e1⟩
theorem OutG.bindS {K : PySem.W.Frag} {E : XK} {ρ : List Addr} {H : Hp} {r : Res ASt} {k : ASt → AH → Res Fl} {G : Ends} (h : SOut K E ρ H (r.bind k) G) :
    OutG K E ρ H r (fun σ H1 => ∃ ρ1 s A1, r = .ok s A1 ∧ Ext K ρ H ρ1 H1 ∧ Rel K ρ1 H1 A1 ∧ SRel K ρ1 H1 s σ ∧ SOut K E ρ1 H1 (k s A1) G) := by
  cases r with
  | bad => exact h
  | exc C fs A => exact h
  | ok a A => exact fun ρ1 H1 v e1 r1 q1 => ⟨ρ1, a, A, rfl, e1, r1, q1, SOut.ext h e1⟩
theorem OutG.mono {K : PySem.W.Frag} {E : XK} {ρ : List Addr} {H : Hp} {r : Res ASt} {Q Q' : L2.St → Hp → Prop} (h : OutG K E ρ H r Q) (q : ∀ v H', Q v H' → Q' v H') : OutG K E ρ H r Q' := by
  cases r with
  | bad => exact h
  | exc C fs A => exact h
  | ok c A => exact fun ρ' H' w e r1 q1 => q _ _ (h ρ' H' w e r1 q1)
def tAG (K : PySem.W.Frag) (E : XK) (g : FG) : TG := fun v σ H Q => ∃ ρ s A d, SRel K ρ H s σ ∧ Rel K ρ H A ∧ Rp K ρ H d v ∧ OutG K E ρ H (g d s A) Q
abbrev AG (X : Cx) (E : XK) (tg : Expr) (g : FG) : Prop := PG X tg (tAG X.K E g)
theorem pg_mono {X : Cx} {e : Expr} {t u : TG} (h : PG X e t) (m : ∀ v σ H Q, u v σ H Q → t v σ H Q) : PG X e u := ⟨fun pins s σ H v w Q I r q => h.run pins s σ H v w Q I r (m _ _ _ _ q)⟩
def gN (i : Nat) : FG := fun d s A => .ok (s.set i (some d)) A
section
variable {X : Cx} {E : XK} {pos : Pos}
theorem ag_name {i : Nat} {x : Str} (hN : X.N.Nodup) (hi : X.N[i]? = some x := by rfl) (hx : Loc X.env.scope x := by first | exact Or.inl rfl | exact Or.inr rfl) (hf : X.fn x = true ∨ X.env.scope.names.lookup x = some .local := by first | exact .inl rfl | exact .inr rfl | assumption) : AG X E (.Name x pos) (gN i) :=
  pg_mono (pg_name hN hi hx hf) fun v σ H Q h => by
    obtain ⟨ρ, s, A, d, hs, R, r, h⟩ := h
    exact h ρ H _ .refl R (hs.set i r)
/-- targets one behind the other -/
abbrev FGs := List D → ASt → AH → Res ASt
def tAGs (K : PySem.W.Frag) (E : XK) (g : FGs) : TGs := fun vs σ H Q => ∃ ρ s A ds, SRel K ρ H s σ ∧ Rel K ρ H A ∧ RpL K ρ H ds vs ∧ OutG K E ρ H (g ds s A) Q
abbrev AGs (X : Cx) (E : XK) (tg : List Expr) (g : FGs) : Prop := PGs X tg (tAGs X.K E g)
def gNl : FGs := fun ds s A => match ds with
  | [] => .ok s A
  | _ => .bad
def gCs (g : FG) (gs : FGs) : FGs := fun ds s A => match ds with
  | d :: r => (g d s A).bind fun s1 A1 => gs r s1 A1
  | _ => .bad
theorem pgs_mono {X : Cx} {e : List Expr} {t u : TGs} (h : PGs X e t) (m : ∀ v σ H Q, u v σ H Q → t v σ H Q) : PGs X e u := ⟨fun pins s σ H v w Q I r q => h.run pins s σ H v w Q I r (m _ _ _ _ q)⟩
theorem ags_nil : AGs X E [] gNl := pgs_mono pgs_nil fun v σ H Q h => by
  obtain ⟨ρ, s, A, ds, hs, R, r, h⟩ := h
  unfold gNl at h
  split at h
  · exact ⟨r, h ρ H _ .refl R hs⟩
  · exact h.elim
theorem ags_cons {e : Expr} {es : List Expr} {g : FG} {gs : FGs} (h1 : AG X E e g) (h2 : AGs X E es gs) (hs : (assignEach (e :: es) X.env).map (·.2) = assign e X.env :: (assignEach es X.env).map (·.2) := by rfl) : AGs X E (e :: es) (gCs g gs) :=
  pgs_mono (pgs_cons h1 h2 hs) fun v σ H Q h => by
    obtain ⟨ρ, s, A, ds, hs, R, r, h⟩ := h
    unfold gCs at h
    split at h
    · rename_i d ds'
      obtain ⟨x, xs, rfl, r1, r2⟩ := r
      exact ⟨x, xs, rfl, ρ, s, A, d, hs, R, r1, (OutG.bindG h).mono fun σ1 H1 ⟨ρ1, s1, A1, _, e1, R1, hs1, h1⟩ => ⟨ρ1, s1, A1, ds', hs1, R1, r2.ext e1, h1⟩⟩
    · exact h.elim
def gTp (n : Nat) (gs : FGs) : FG := fun d s A => match d with
  | .tup ds => if ds.length = n then gs ds s A else .bad
  | _ => .bad
theorem ag_tup {es : List Expr} {k : Nat} {gs : FGs} {n : Nat} (hc : X.calm = true) (h : AGs X E es gs) (hn : (assignEach es X.env).length = n := by rfl) (hst : (assignEach es X.env).findIdx? (·.1) = none := by rfl) : AG X E (.Tuple es k pos) (gTp n gs) :=
  pg_mono (pg_tup hc h hn hst) fun v σ H Q h => by
    obtain ⟨ρ, s, A, d, hs, R, r, h⟩ := h
    unfold gTp at h
    split at h
    · split at h
      · rename_i ds z
        obtain ⟨a, xs, rfl, q1, q2⟩ := r
        exact ⟨a, xs, rfl, q1, by rw [q2.length]; exact z, ρ, s, A, ds, hs, R, q2, h⟩
      · exact h.elim
    · exact h.elim
/-- o[i] = v -/
def stD (o i v : D) (A : AH) : Res Unit := match o with
  | .ref n => match A[n]? with
    | some (.lst xs) => match i with
      | .int k => match ixN xs.length k with
        | some j => .ok () (A.set n (.lst (xs.set j v)))
        | none => .bad
      | _ => .bad
    | some (.dic kvs) => match keyOf i with
      | some k => if kvs.length < sizeLine then .ok () (A.set n (.dic (setK kvs k v))) else .bad
      | none => .bad
    | _ => .bad
  | _ => .bad
def gSb (fo fi : FE) : FG := fun d s A => (fo s A).bind fun o A1 => (fi s A1).bind fun i A2 => (stD o i d A2).bind fun _ A3 => .ok s A3
theorem upd_lst {K : PySem.W.Frag} {ρ : List Addr} {H : Hp} {A : AH} {n : Nat} {a : Addr} {xs : List V} {ys : List V} {ds es : List D} (R : Rel K ρ H A) (ha : ρ[n]? = some a) (hA : A[n]? = some (.lst ds)) (hH : H a = some (.lst xs)) (r : RpL K ρ H es ys) :
    Ext K ρ H ρ (upd H a (.lst ys)) ∧ Rel K ρ (upd H a (.lst ys)) (A.set n (.lst es)) := by
  have e : Ext K ρ H ρ (upd H a (.lst ys)) := Ext.mut hH trivial
  exact ⟨e, R.upd ha hA rfl hH trivial ⟨ys, upd_same, r.ext e⟩ rfl⟩
theorem upd_dic {K : PySem.W.Frag} {ρ : List Addr} {H : Hp} {A : AH} {n : Nat} {a : Addr} {xs ys : List (Key × V)} {ds es : List (Key × D)} (R : Rel K ρ H A) (ha : ρ[n]? = some a) (hA : A[n]? = some (.dic ds)) (hH : H a = some (.dK xs)) (r : RpK K ρ H es ys) :
    Ext K ρ H ρ (upd H a (.dK ys)) ∧ Rel K ρ (upd H a (.dK ys)) (A.set n (.dic es)) := by
  have e : Ext K ρ H ρ (upd H a (.dK ys)) := Ext.mut hH trivial
  exact ⟨e, R.upd ha hA rfl hH trivial ⟨ys, upd_same, r.ext e⟩ rfl⟩
theorem set_or {t u : TSet} (h : PSet X t) (h' : PSet X u) : PSet X (fun o i v H Q => t o i v H Q ∨ u o i v H Q) := fun pins s σ H o i v ov iv w Q I r1 r2 r3 q => by
  rcases q with q | q
  · exact h pins s σ H o i v ov iv w Q I r1 r2 r3 q
  · exact h' pins s σ H o i v ov iv w Q I r1 r2 r3 q
theorem ag_sub {o i : Expr} {fo fi : FE} (hu : X.A.units + 1 < cLine) (ho : AE X E o fo) (hi : AE X E i fi)
    (ha : ∀ v, assign (.Subscript o i pos) X.env v = (do
      let ov ← holding [v] (eval o X.env)
      let iv ← holding [v, ov] (eval i X.env)
      standAt pos
      holding [v, ov, iv] (setItem ov iv v)
      release [v, ov, iv] []) := by intro _; rfl) : AG X E (.Subscript o i pos) (gSb fo fi) := pg_mono (pg_sub ho hi (set_or set_list (set_dict hu)) ha) fun v σ H Q h => by
  obtain ⟨ρ, s, A, d, hs, R, r, h⟩ := h
  refine ⟨ρ, s, A, hs, R, (Out.bindG h).mono fun x H1 ⟨ρ1, d1, A1, _, e1, R1, r1, h1⟩ => ⟨ρ1, s, A1, hs.ext e1, R1, (Out.bindG h1).mono fun y H2 ⟨ρ2, d2, A2, _, e2, R2, r2, h2⟩ => ?_⟩⟩
  have r1 := r1.ext e2
  have r := r.ext (e1.trans e2)
  have hs := hs.ext (e1.trans e2)
  unfold stD at h2
  split at h2
  · rename_i n
    obtain ⟨a, ha, rfl⟩ := r1
    split at h2
    · rename_i xs e3
      obtain ⟨a', ha', us, q1, q2⟩ := R2.ob _ _ e3
      rw [ha] at ha'; cases ha'
      split at h2
      · rename_i k _
        split at h2
        · rename_i j e4
          cases r2
          have u := upd_lst (ds := xs) R2 ha e3 q1 (q2.set j r)
          exact .inl ⟨a, us, k, j, rfl, rfl, q1, by rw [q2.length]; exact e4, h2 ρ2 _ σ u.1 u.2 (hs.ext u.1)⟩
        · exact h2.elim
      · exact h2.elim
    · rename_i kvs e3
      obtain ⟨a', ha', us, q1, q2⟩ := R2.ob _ _ e3
      rw [ha] at ha'; cases ha'
      split at h2
      · rename_i k e4
        split at h2
        · rename_i z
          have u := upd_dic R2 ha e3 q1 (setK_ok (k := k) q2 r)
          exact .inr ⟨a, _, rfl, .inl ⟨us, k, q1, keyOf_ok r2 e4, by rw [q2.length]; exact z, rfl⟩, h2 ρ2 _ σ u.1 u.2 (hs.ext u.1)⟩
        · exact h2.elim
      · exact h2.elim
    · exact h2.elim
  · exact h2.elim
end

/-! ## statements -/
def fSet (f : FE) (i : Nat) : FS := fun s A => (f s A).bind fun d A1 => .ok (.nx (s.set i (some d))) A1
def fAsg (f : FE) (g : FG) : FS := fun s A => (f s A).bind fun d A1 => (g d s A1).bind fun s' A2 => .ok (.nx s') A2
def fRet (f : FE) : FS := fun s A => (f s A).bind fun d A1 => .ok (.rt d) A1
def fRetN : FS := fun _ A => .ok (.rt .non) A
def fEx (f : FE) : FS := fun s A => (f s A).bind fun _ A1 => .ok (.nx s) A1
def fPass : FS := fun s A => .ok (.nx s) A
def fBrk : FS := fun s A => .ok (.bk s) A
def fCont : FS := fun s A => .ok (.ct s) A
def fIfS (c : FT) (f g : FS) : FS := fun s A => (c s A).bind fun b A1 => if b = true then f s A1 else g s A1
def fSeq (f g : FS) : FS := fun s A => match f s A with
  | .ok (.nx s1) A1 => g s1 A1
  | r => r
def fAug (i : Nat) (f : FE) (go : D → D → AH → Res D) : FS := fun s A => match s[i]? with
  | some (some x) => (f s A).bind fun y A1 => (go x y A1).bind fun z A2 => .ok (.nx (s.set i (some z))) A2
  | _ => .bad
section
variable {X : Cx} {E : XK} {e : Expr} {st : Stmt} {rest : List Stmt} {f : FE} {p q : FS} {c : FT} {pos pos' : Pos}
theorem as_set {i : Nat} {x : Str} (hN : X.N.Nodup) (he : AE X E e f) (hi : X.N[i]? = some x := by rfl) (hx : Loc X.env.scope x := by first | exact Or.inl rfl | exact Or.inr rfl) (hs : swapsWith e (some (.Name x pos')) pos.line X.env = pure false := by rfl) (hf : X.fn x = true ∨ X.env.scope.names.lookup x = some .local := by first | exact .inl rfl | exact .inr rfl | assumption) :
    AS X E (.Assign [.Name x pos'] e pos) (fSet f i) := ps_mono (ps_set hN hi hx he hs hf) fun G σ H h => by
  obtain ⟨ρ, s, A, hs, R, h⟩ := h
  exact ⟨ρ, s, A, hs, R, (Out.bindS h).mono fun x H1 ⟨ρ1, d, A1, _, e1, R1, r1, h1⟩ => h1 ρ1 H1 _ .refl R1 ((hs.ext e1).set i r1)⟩
theorem as_asg {tg : Expr} {g : FG} (he : AE X E e f) (hg : AG X E tg g) (hs : swapsWithSole [tg] e pos.line X.env = pure false := by rfl) (hw : swappedStores [tg] e X.env = pure none := by rfl)
    (h1 : (assignEach [tg] X.env).map (·.2) = [assign tg X.env] := by rfl) : AS X E (.Assign [tg] e pos) (fAsg f g) := ps_mono (ps_asg he hg hs hw h1) fun G σ H h => by
  obtain ⟨ρ, s, A, hs, R, h⟩ := h
  exact ⟨ρ, s, A, hs, R, (Out.bindS h).mono fun x H1 ⟨ρ1, d, A1, _, e1, R1, r1, h1⟩ => ⟨ρ1, s, A1, d, hs.ext e1, R1, r1, (OutG.bindS h1).mono fun σ2 H2 ⟨ρ2, s2, A2, _, e2, R2, hs2, h2⟩ => h2 ρ2 H2 σ2 .refl R2 hs2⟩⟩
theorem as_ret (he : AE X E e f) : AS X E (.Return (some e) pos) (fRet f) := ps_mono (ps_ret he) fun G σ H h => by
  obtain ⟨ρ, s, A, hs, R, h⟩ := h
  exact ⟨ρ, s, A, hs, R, (Out.bindS h).mono fun x H1 ⟨ρ1, d, A1, _, e1, R1, r1, h1⟩ => h1 ρ1 H1 x .refl R1 r1⟩
theorem as_retN : AS X E (.Return none pos) fRetN := ps_mono ps_retN fun G σ H h => by
  obtain ⟨ρ, s, A, hs, R, h⟩ := h
  exact h ρ H .non .refl R rfl
theorem as_ex (he : AE X E e f) (hs : swapsWith e none pos.line X.env = pure false := by rfl) : AS X E (.Expr e pos) (fEx f) := ps_mono (ps_expr he hs) fun G σ H h => by
  obtain ⟨ρ, s, A, hs, R, h⟩ := h
  exact ⟨ρ, s, A, hs, R, (Out.bindS h).mono fun x H1 ⟨ρ1, d, A1, _, e1, R1, r1, h1⟩ => h1 ρ1 H1 σ .refl R1 (hs.ext e1)⟩
theorem as_pass : AS X E (.Pass pos) fPass := ps_mono ps_pass fun G σ H h => by
  obtain ⟨ρ, s, A, hs, R, h⟩ := h
  exact h ρ H σ .refl R hs
theorem as_brk : AS X E (.Break pos) fBrk := ps_mono ps_break fun G σ H h => by
  obtain ⟨ρ, s, A, hs, R, h⟩ := h
  exact h ρ H σ .refl R hs
theorem as_cont : AS X E (.Continue pos) fCont := ps_mono ps_continue fun G σ H h => by
  obtain ⟨ρ, s, A, hs, R, h⟩ := h
  exact h ρ H σ .refl R hs
theorem as_if {u : Expr} {a b : List Stmt} (hc : AT X E u c) (ha : ASs X E a p) (hb : ASs X E b q) : AS X E (.If u a b pos) (fIfS c p q) := ps_mono (ps_if hc ha hb) fun G σ H h => by
  obtain ⟨ρ, s, A, hs, R, h⟩ := h
  refine ⟨ρ, s, A, hs, R, (Out.bindS h).mono fun x H1 ⟨ρ1, d, A1, _, e1, R1, r1, h1⟩ => ?_⟩
  cases r1
  cases x with
  | true => exact ⟨ρ1, s, A1, hs.ext e1, R1, h1⟩
  | false => exact ⟨ρ1, s, A1, hs.ext e1, R1, h1⟩
theorem ass_nil : ASs X E [] fPass := pss_mono pss_nil fun G σ H h => by
  obtain ⟨ρ, s, A, hs, R, h⟩ := h
  exact h ρ H σ .refl R hs
theorem ass_one (h : AS X E st p) : ASs X E [st] p := pss_one h
theorem ass_cons (h : AS X E st p) (h' : ASs X E rest q) : ASs X E (st :: rest) (fSeq p q) := pss_mono (pss_cons h h') fun G σ H h => by
  obtain ⟨ρ, s, A, hs, R, h⟩ := h
  refine ⟨ρ, s, A, hs, R, ?_⟩
  unfold fSeq at h
  cases e : p s A with
  | bad => rw [e] at h; exact h
  | exc C fs A1 => rw [e] at h; exact h
  | ok fl A1 =>
    rw [e] at h
    cases fl with
    | nx s1 => exact fun ρ1 H1 σ1 e1 R1 hs1 => ⟨ρ1, s1, A1, hs1, R1, SOut.ext h e1⟩
    | rt d => exact h
    | bk s1 => exact h
    | ct s1 => exact h
/-- x op= e at a name -/
def rIp (K : PySem.W.Frag) (E : XK) (g : D → D → AH → Res D) : TIp := rA K E g
theorem as_aug {i : Nat} {x : Str} {op : Operator} {go : D → D → AH → Res D} (hN : X.N.Nodup) (ho : PIp X op (rIp X.K E go)) (he : AE X E e f) (hi : X.N[i]? = some x := by rfl) (hx : Loc X.env.scope x := by first | exact Or.inl rfl | exact Or.inr rfl) (hf : X.fn x = true ∨ X.env.scope.names.lookup x = some .local := by first | exact .inl rfl | exact .inr rfl | assumption) :
    AS X E (.AugAssign (.Name x pos') op e pos) (fAug i f go) := ps_mono (ps_aug hN hi hx he ho hf) fun G σ H h => by
  obtain ⟨ρ, s, A, hs, R, h⟩ := h
  unfold fAug at h
  split at h
  · rename_i d0 e0
    obtain ⟨v, h1, h2⟩ := hs.at_ i d0 e0
    exact ⟨v, h1, ρ, s, A, hs, R, (Out.bindS h).mono fun y H1 ⟨ρ1, d, A1, _, e1, R1, r1, h1⟩ => ⟨ρ1, A1, d0, d, R1, h2.ext e1, r1, (Out.bindS h1).mono fun z H2 ⟨ρ2, d2, A2, _, e2, R2, r2, h2⟩ => h2 ρ2 H2 _ .refl R2 ((hs.ext (e1.trans e2)).set i r2)⟩⟩
  · exact h.elim
def augAddD : D → D → AH → Res D
  | .int i, .int j, A => .ok (.int (i + j)) A
  | .str x, .str y, A => if x.length + y.length ≤ sizeLine then .ok (.str (x ++ y)) A else .bad
  | _, _, _ => .bad
theorem ip_addA : PIp X .Add (rIp X.K E augAddD) := fun pins s σ H x y v u Q I rx ry h => by
  obtain ⟨ρ, A, d, e, R, r1, r2, h⟩ := h
  unfold augAddD at h
  split at h
  · cases r1; cases r2
    exact iop_add pins s σ H _ _ v u Q I rx ry ⟨_, _, rfl, rfl, h.now R rfl⟩
  · split at h
    · rename_i z
      cases r1; cases r2
      exact iop_add_str pins s σ H _ _ v u Q I rx ry ⟨_, _, rfl, rfl, z, h.now R rfl⟩
    · exact h.elim
  · exact h.elim
theorem ip_subA : PIp X .Sub (rIp X.K E subD) := fun pins s σ H x y v u Q I rx ry h => by
  obtain ⟨ρ, A, d, e, R, r1, r2, h⟩ := h
  unfold subD at h
  split at h
  · cases r1; cases r2
    exact iop_sub pins s σ H _ _ v u Q I rx ry ⟨_, _, rfl, rfl, h.now R rfl⟩
  · exact h.elim
end

/-! ## what is walked -/
/-- the items, and what must hold of the cells at every turn -/
structure Src where
  items : List D
  ok : AH → Prop
abbrev FI := ASt → AH → Res Src
/-- the walker J yields these items -/
def ItRel (K : PySem.W.Frag) (J : It) (ρ0 : List Addr) (H0 : Hp) (S : Src) : Prop := ∀ (i : Nat) ρ H A, Ext K ρ0 H0 ρ H → Rel K ρ H A → S.ok A →
  (∀ d, S.items[i]? = some d → J.go i H ∧ ∀ x H', J.yld i H x H' → Ext K ρ H ρ H' ∧ Rel K ρ H' A ∧ Rp K ρ H' d x) ∧ (S.items.length ≤ i → S.items.length = i → J.stop i H)
def OutI (K : PySem.W.Frag) (E : XK) (ρ : List Addr) (H : Hp) (r : Res Src) (Q : It → Hp → Prop) : Prop := match r with
  | .ok S A' => ∀ ρ' H' J, Ext K ρ H ρ' H' → Rel K ρ' H' A' → ItRel K J ρ' H' S → Q J H'
  | .exc C fs A' => ∀ ρ' H' dx us, Ext K ρ H ρ' H' → Rel K ρ' H' A' → H' dx = some (.xd us) → RpK K ρ' H' fs us → E (.ref C) (some dx) H'
  | .bad => False
theorem OutI.ext {K : PySem.W.Frag} {E : XK} {ρ0 ρ : List Addr} {H0 H : Hp} {r : Res Src} {G : It → Hp → Prop} (h : OutI K E ρ0 H0 r G) (e : Ext K ρ0 H0 ρ H) : OutI K E ρ H r G := by
  cases r with
  | bad => exact h
  | exc C fs A => exact fun ρ' H' dx us e2 => h ρ' H' dx us (e.trans e2)
  | ok c A => exact fun ρ' H' w e2 => h ρ' H' w (e.trans e2)
theorem Out.bindI {K : PySem.W.Frag} {E : XK} {α β : Type} {R1 : List Addr → Hp → α → β → Prop} {ρ : List Addr} {H : Hp} {r : Res α} {k : α → AH → Res Src} {G : It → Hp → Prop} (h : OutI K E ρ H (r.bind k) G) :
    Out K E R1 ρ H r (fun v H1 => ∃ ρ1 a A1, r = .ok a A1 ∧ Ext K ρ H ρ1 H1 ∧ Rel K ρ1 H1 A1 ∧ R1 ρ1 H1 a v ∧ OutI K E ρ1 H1 (k a A1) G) := by
  cases r with
  | bad => exact h
  | exc C fs A => exact h
  | ok a A => exact fun ρ1 H1 v e1 r1 q1 => ⟨ρ1, a, A, rfl, e1, r1, q1, OutI.ext h e1⟩
theorem OutI.bindS {K : PySem.W.Frag} {E : XK} {ρ : List Addr} {H : Hp} {r : Res Src} {k : Src → AH → Res Fl} {G : Ends} (h : SOut K E ρ H (r.bind k) G) :
    OutI K E ρ H r (fun J H1 => ∃ ρ1 S A1, r = .ok S A1 ∧ Ext K ρ H ρ1 H1 ∧ Rel K ρ1 H1 A1 ∧ ItRel K J ρ1 H1 S ∧ SOut K E ρ1 H1 (k S A1) G) := by
  cases r with
  | bad => exact h
  | exc C fs A => exact h
  | ok a A => exact fun ρ1 H1 v e1 r1 q1 => ⟨ρ1, a, A, rfl, e1, r1, q1, SOut.ext h e1⟩
theorem OutI.bindO {K : PySem.W.Frag} {E : XK} {α β : Type} {R1 : List Addr → Hp → α → β → Prop} {ρ : List Addr} {H : Hp} {r : Res Src} {k : Src → AH → Res α} {Q : β → Hp → Prop} (h : Out K E R1 ρ H (r.bind k) Q) :
    OutI K E ρ H r (fun J H1 => ∃ ρ1 S A1, r = .ok S A1 ∧ Ext K ρ H ρ1 H1 ∧ Rel K ρ1 H1 A1 ∧ ItRel K J ρ1 H1 S ∧ Out K E R1 ρ1 H1 (k S A1) Q) := by
  cases r with
  | bad => exact h
  | exc C fs A => exact h
  | ok a A => exact fun ρ1 H1 v e1 r1 q1 => ⟨ρ1, a, A, rfl, e1, r1, q1, Out.ext h e1⟩
theorem OutI.mono {K : PySem.W.Frag} {E : XK} {ρ : List Addr} {H : Hp} {r : Res Src} {Q Q' : It → Hp → Prop} (h : OutI K E ρ H r Q) (q : ∀ v H', Q v H' → Q' v H') : OutI K E ρ H r Q' := by
  cases r with
  | bad => exact h
  | exc C fs A => exact h
  | ok c A => exact fun ρ' H' w e r1 q1 => q _ _ (h ρ' H' w e r1 q1)
def tAI (K : PySem.W.Frag) (E : XK) (f : FI) : TI := fun σ H R => ∃ ρ s A, SRel K ρ H s σ ∧ Rel K ρ H A ∧ OutI K E ρ H (f s A) R
abbrev AI (X : Cx) (E : XK) (tg it : Expr) (f : FI) : Prop := PI X tg it (tAI X.K E f)
theorem pi_mono {X : Cx} {tg it : Expr} {t u : TI} (h : PI X tg it t) (m : ∀ σ H Q, u σ H Q → t σ H Q) : PI X tg it u := ⟨fun pins s σ H R I q => h.run pins s σ H R I (m _ _ _ q)⟩
def yes : AH → Prop := fun _ => True
def iSeq (d : D) (A : AH) : Res Src := match d with
  | .tup ds => .ok ⟨ds, yes⟩ A
  | .str x => .ok ⟨x.cps.toList.map fun c => .str ⟨#[c]⟩, yes⟩ A
  | d => match rdL A d with
    | some ds => .ok ⟨ds, fun A' => rdL A' d = some ds⟩ A
    | none => .bad
def fItS (f : FE) : FI := fun s A => (f s A).bind iSeq
def rngL (lo : Int) (n : Nat) : List D := (List.range n).map fun k => .int (lo + (k : Nat))
/-- an end of a range -/
structure InRg (j : Int) : Prop where
  lo : -(2 ^ 62) ≤ j
  hi : j < 2 ^ 62
noncomputable def fRg1 (f : FE) : FI := fun s A => (f s A).bind fun d A1 => match d with
  | .int j => if InRg j then .ok ⟨rngL 0 j.toNat, yes⟩ A1 else .bad
  | _ => .bad
noncomputable def fRg2 (f g : FE) : FI := fun s A => (f s A).bind fun d A1 => (g s A1).bind fun e A2 => match d, e with
  | .int i, .int j => if InRg i ∧ InRg j then .ok ⟨rngL i (j - i).toNat, yes⟩ A2 else .bad
  | _, _ => .bad
def enumL (k : Nat) : List D → List D
  | [] => []
  | d :: ds => .tup [.int k, d] :: enumL (k + 1) ds
def fEnum (f : FE) : FI := fun s A => (f s A).bind fun d A1 => match rdL A1 d with
  | some ds => .ok ⟨enumL 0 ds, fun A' => rdL A' d = some ds⟩ A1
  | none => .bad
def zipD : List D → List D → List D
  | a :: as, b :: bs => .tup [a, b] :: zipD as bs
  | _, _ => []
section
variable {K : PySem.W.Frag} {ρ : List Addr} {H : Hp}
theorem itr_rel (lo : Int) (n : Nat) : ItRel K (Itr lo n) ρ H ⟨rngL lo n, yes⟩ := fun i ρ' H' A e R _ => by
  have hl : (rngL lo n).length = n := by simp [rngL]
  refine ⟨fun d hd => ?_, fun h _ => by rw [show (Src.items ⟨rngL lo n, yes⟩).length = n from hl] at h; exact h⟩
  have hd : (rngL lo n)[i]? = some d := hd
  have hi : i < n := by have := (List.getElem?_eq_some_iff.mp hd).1; rwa [hl] at this
  refine ⟨hi, fun x H2 hy => ?_⟩
  obtain ⟨rfl, rfl⟩ := hy
  refine ⟨.refl, R, ?_⟩
  simp [rngL, hi] at hd
  subst hd
  rfl
theorem its_rel (x : Str) : ItRel K (Its x) ρ H ⟨x.cps.toList.map fun c => .str ⟨#[c]⟩, yes⟩ := fun i ρ' H' A e R _ => by
  refine ⟨fun d hd => ?_, fun h _ => by simpa [Its] using h⟩
  have hd : (x.cps.toList.map fun c => D.str ⟨#[c]⟩)[i]? = some d := hd
  rw [List.getElem?_map] at hd
  cases ec : x.cps.toList[i]? with
  | none => rw [ec] at hd; cases hd
  | some c =>
    rw [ec] at hd
    cases hd
    have hi : i < x.cps.size := by have := (List.getElem?_eq_some_iff.mp ec).1; simpa using this
    refine ⟨hi, fun y H2 hy => ?_⟩
    obtain ⟨rfl, c', h1, rfl⟩ := hy
    refine ⟨.refl, R, ?_⟩
    rw [← Array.getElem?_toList, ec] at h1
    cases h1
    rfl
theorem itt_rel {a : Addr} {xs : List V} {ds : List D} (h : SqT K H a xs) (r : RpL K ρ H ds xs) : ItRel K (Itt K a) ρ H ⟨ds, yes⟩ := fun i ρ' H' A e R _ => by
  have h' := e.gr _ _ h
  have r' := r.ext e
  refine ⟨fun d hd => ?_, fun hl _ => ⟨xs, h', by rw [r'.length]; exact hl⟩⟩
  obtain ⟨v, q1, q2⟩ := r'.get (show ds[i]? = some d from hd)
  refine ⟨⟨xs, v, h', q1⟩, fun x H2 hy => ?_⟩
  obtain ⟨rfl, fv⟩ := hy
  have := fv _ h'
  rw [q1] at this; cases this
  exact ⟨.refl, R, q2⟩
theorem itl_rel {a : Addr} {n : Nat} {ds : List D} (ha : ρ[n]? = some a) : ItRel K (Itl K a) ρ H ⟨ds, fun A => rdL A (.ref n) = some ds⟩ := fun i ρ' H' A e R ok => by
  have ha' := e.at_ ha
  have r0 : Rp K ρ' H' (.ref n) (.ref a) := ⟨a, ha', rfl⟩
  obtain ⟨b, xs, eb, h', r'⟩ := rdL_ok R r0 ok
  cases eb
  refine ⟨fun d hd => ?_, fun hl _ => ⟨xs, h', by rw [r'.length]; exact hl⟩⟩
  obtain ⟨v, q1, q2⟩ := r'.get (show ds[i]? = some d from hd)
  refine ⟨⟨xs, v, h', q1⟩, fun x H2 hy => ?_⟩
  obtain ⟨rfl, fv⟩ := hy
  have := fv _ h'
  rw [q1] at this; cases this
  exact ⟨.refl, R, q2⟩
end
section
variable {X : Cx} {E : XK} {tg e e2 : Expr} {f g : FE} {p pos : Pos}
theorem ai_seq (he : AE X E e f) : AI X E tg e (fItS f) := ⟨fun pins s σ H R I h => by
  obtain ⟨ρ, st, A, hs, Rl, h⟩ := h
  have base : ∀ {Q : VK}, (∀ v H1 ρ1 d A1, f st A = .ok d A1 → Ext X.K ρ H ρ1 H1 → Rel X.K ρ1 H1 A1 → Rp X.K ρ1 H1 d v → OutI X.K E ρ1 H1 (iSeq d A1) R → Q v H1) → tA X.K E f σ H Q := fun {Q} k =>
    ⟨ρ, st, A, hs, Rl, (Out.bindI h).mono fun v H1 ⟨ρ1, d, A1, q0, q1, q2, q3, q4⟩ => k v H1 ρ1 d A1 q0 q1 q2 q3 q4⟩
  cases ef : f st A with
  | bad => unfold fItS at h; rw [ef] at h; exact h.elim
  | exc C fs A1 =>
    refine (pi_tup he).run pins s σ H R I (base fun v H1 ρ1 d A1 q0 _ _ _ _ => ?_)
    rw [ef] at q0; cases q0
  | ok d0 A0 =>
    cases d0 with
    | tup ds =>
      refine (pi_tup he).run pins s σ H R I (base fun v H1 ρ1 d A1 q0 q1 q2 q3 q4 => ?_)
      rw [ef] at q0; cases q0
      obtain ⟨a, xs, rfl, z1, z2⟩ := q3
      exact ⟨a, rfl, ⟨xs, z1⟩, q4 ρ1 H1 _ .refl q2 (itt_rel z1 z2)⟩
    | str x =>
      refine (pi_str he).run pins s σ H R I (base fun v H1 ρ1 d A1 q0 q1 q2 q3 q4 => ?_)
      rw [ef] at q0; cases q0
      cases q3
      exact ⟨x, rfl, q4 ρ1 H1 _ .refl q2 (its_rel x)⟩
    | ref n =>
      refine (pi_list he).run pins s σ H R I (base fun v H1 ρ1 d A1 q0 q1 q2 q3 q4 => ?_)
      rw [ef] at q0; cases q0
      unfold iSeq at q4
      simp only at q4
      split at q4
      · rename_i ds e4
        obtain ⟨a, xs, rfl, z1, z2⟩ := rdL_ok q2 q3 e4
        obtain ⟨b, hb, eb⟩ := q3
        cases eb
        exact ⟨a, rfl, ⟨xs, z1⟩, q4 ρ1 H1 _ .refl q2 (itl_rel hb)⟩
      · exact q4.elim
    | non => exact absurd ((base (Q := fun _ _ => False) fun v H1 ρ1 d A1 q0 q1 q2 q3 q4 => by rw [ef] at q0; cases q0; exact q4)) (fun z => by
        unfold fItS at h; rw [ef] at h; exact h)
    | bl b => unfold fItS at h; rw [ef] at h; exact h.elim
    | int b => unfold fItS at h; rw [ef] at h; exact h.elim⟩
theorem ai_rg1 (hg : Gl X "range") (hm : X.mg "range" = none) (he : AE X E e f) (h1 : starEach [e] X.env = (false, eval e X.env) :: starEach [] X.env := by rfl) : AI X E tg (.Call (.Name "range" p) [e] [] pos) (fRg1 f) := pi_mono (pi_range1 (hs := h1) hg hm (aa_cons he aa_nil h1)) fun σ H Q h => by
  obtain ⟨ρ, s, A, hs, R, h⟩ := h
  have ef : fRg1 f s A = (fCons f fNil s A).bind fun ds A1 => match ds with
      | [.int j] => if InRg j then .ok ⟨rngL 0 j.toNat, yes⟩ A1 else .bad
      | _ => .bad := by
    unfold fRg1 fCons fNil
    cases f s A with
    | bad => rfl
    | exc _ _ _ => rfl
    | ok d A1 => cases d <;> rfl
  rw [ef] at h
  refine ⟨ρ, s, A, hs, R, (Out.bindI h).mono fun xs H1 ⟨ρ1, ds, A1, _, e1, R1, r1, h1⟩ => ?_⟩
  split at h1
  · split at h1
    · rename_i j _ z
      obtain ⟨x, rfl, r2⟩ := r1.one_inv
      cases r2
      exact ⟨j, rfl, z.lo, z.hi, h1 ρ1 H1 _ .refl R1 (itr_rel 0 _)⟩
    · exact h1.elim
  · exact h1.elim
theorem ai_rg2 (hg : Gl X "range") (hm : X.mg "range" = none) (he : AE X E e f) (he2 : AE X E e2 g) (h1 : starEach [e, e2] X.env = (false, eval e X.env) :: starEach [e2] X.env := by rfl) (h2 : starEach [e2] X.env = (false, eval e2 X.env) :: starEach [] X.env := by rfl) :
    AI X E tg (.Call (.Name "range" p) [e, e2] [] pos) (fRg2 f g) := pi_mono (pi_range2 (hs := h1.trans (by rw [h2]; rfl)) (hs2 := h2) hg hm (aa_cons he (aa_cons he2 aa_nil h2) h1)) fun σ H Q h => by
  obtain ⟨ρ, s, A, hs, R, h⟩ := h
  have ef : fRg2 f g s A = (fCons f (fCons g fNil) s A).bind fun ds A1 => match ds with
      | [.int i, .int j] => if InRg i ∧ InRg j then .ok ⟨rngL i (j - i).toNat, yes⟩ A1 else .bad
      | _ => .bad := by
    unfold fRg2 fCons
    cases f s A with
    | bad => rfl
    | exc _ _ _ => rfl
    | ok d A1 =>
      show (g s A1).bind _ = Res.bind (Res.bind (fCons g fNil s A1) _) _
      unfold fCons fNil
      cases g s A1 with
      | bad => rfl
      | exc _ _ _ => rfl
      | ok d' A2 => cases d <;> cases d' <;> rfl
  rw [ef] at h
  refine ⟨ρ, s, A, hs, R, (Out.bindI h).mono fun xs H1 ⟨ρ1, ds, A1, _, e1, R1, r1, h1⟩ => ?_⟩
  split at h1
  · split at h1
    · rename_i i j _ z
      obtain ⟨x, y, rfl, r2, r3⟩ := r1.two_inv
      cases r2; cases r3
      exact ⟨i, j, rfl, ⟨z.1.lo, z.1.hi, z.2.lo, z.2.hi⟩, h1 ρ1 H1 _ .refl R1 (itr_rel i _)⟩
    · exact h1.elim
  · exact h1.elim
end

/-! ## for, while -/
noncomputable def loopD (ok : AH → Prop) (g : FG) (body : FS) : List D → FS
  | [], s, A => if ok A then .ok (.nx s) A else .bad
  | d :: ds, s, A => if ok A then (g d s A).bind fun s1 A1 => (match body s1 A1 with
    | .ok (.nx s2) A2 => loopD ok g body ds s2 A2
    | .ok (.ct s2) A2 => loopD ok g body ds s2 A2
    | .ok (.bk s2) A2 => .ok (.nx s2) A2
    | r => r) else .bad
noncomputable def fFor (src : FI) (g : FG) (body : FS) : FS := fun s A => (src s A).bind fun S A1 => loopD S.ok g body S.items s A1
def loopW (c : FT) (body : FS) : Nat → FS
  | 0, _, _ => .bad
  | n + 1, s, A => (c s A).bind fun b A1 => if b = true then (match body s A1 with
    | .ok (.nx s2) A2 => loopW c body n s2 A2
    | .ok (.ct s2) A2 => loopW c body n s2 A2
    | .ok (.bk s2) A2 => .ok (.nx s2) A2
    | r => r) else .ok (.nx s) A1
section
variable {X : Cx} {E : XK} {tg iter c : Expr} {body : List Stmt} {src : FI} {g : FG} {p : FS} {t : FT} {pos : Pos}
theorem as_for (hp : PassesOwn (model X.prog X.w) X.A X.env X.xe) (hc : X.calm = true) (hi : AI X E tg iter src) (hg : AG X E tg g) (hb : ASs X E body p) (hs : ∀ x, foldedSetIterable iter X.env x = pure x := by intro _; rfl) :
    AS X E (.For tg iter body [] pos) (fFor src g p) := ps_mono (ps_for hp hc hi hg hb hs) fun G σ H h => by
  obtain ⟨ρ, s, A, hs, R, h⟩ := h
  refine ⟨ρ, s, A, hs, R, (OutI.bindS h).mono fun J H1 ⟨ρ1, S, A1, _, e1, R1, J1, h1⟩ => ?_⟩
  refine ⟨fun i m σ' H' => m = S.items.length - i ∧ i ≤ S.items.length ∧ ∃ ρ' s' A', Ext X.K ρ1 H1 ρ' H' ∧ SRel X.K ρ' H' s' σ' ∧ Rel X.K ρ' H' A' ∧ SOut X.K E ρ' H' (loopD S.ok g p (S.items.drop i) s' A') G, ⟨_, rfl, Nat.zero_le _, ρ1, s, A1, .refl, hs.ext e1, R1, by simpa using h1⟩, ?_⟩
  rintro i m σ' H' ⟨rfl, hi, ρ', s', A', e2, hs2, R2, h2⟩
  by_cases hl : i < S.items.length
  · obtain ⟨d, hd⟩ : ∃ d, S.items[i]? = some d := ⟨_, List.getElem?_eq_getElem hl⟩
    have ed : S.items.drop i = d :: S.items.drop (i + 1) := by
      rw [List.drop_eq_getElem_cons hl]
      rw [List.getElem?_eq_getElem hl] at hd
      cases hd; rfl
    rw [ed] at h2
    unfold loopD at h2
    split at h2
    · rename_i ok
      obtain ⟨go, yl⟩ := (J1 i ρ' H' A' e2 R2 ok).1 d hd
      refine .inr ⟨go, fun σ3 H3 => ∃ ρ3 s3 A3, Ext X.K ρ1 H1 ρ3 H3 ∧ SRel X.K ρ3 H3 s3 σ3 ∧ Rel X.K ρ3 H3 A3 ∧ SOut X.K E ρ3 H3 (loopD S.ok g p (S.items.drop (i + 1)) s3 A3) G, fun σ3 H3 h3 => ⟨_, by omega, rfl, hl, h3⟩, fun x H3 hy => ?_⟩
      obtain ⟨e3, R3, r3⟩ := yl x H3 hy
      refine ⟨ρ', s', A', d, hs2.ext e3, R3, r3, (OutG.bindS (h2.ext e3)).mono fun σ4 H4 ⟨ρ4, s4, A4, _, e4, R4, hs4, h4⟩ => ?_⟩
      refine ⟨ρ4, s4, A4, hs4, R4, ?_⟩
      have e5 := e2.trans (e3.trans e4)
      cases eb : p s4 A4 with
      | bad => rw [eb] at h4; exact h4
      | exc C fs A5 => rw [eb] at h4; exact h4
      | ok fl A5 =>
        rw [eb] at h4
        cases fl with
        | nx s5 => exact fun ρ5 H5 σ5 e6 R5 hs5 => ⟨ρ5, s5, A5, e5.trans e6, hs5, R5, h4.ext e6⟩
        | ct s5 => exact fun ρ5 H5 σ5 e6 R5 hs5 => ⟨ρ5, s5, A5, e5.trans e6, hs5, R5, h4.ext e6⟩
        | bk s5 => exact h4
        | rt d => exact h4
    · exact h2.elim
  · have ei : i = S.items.length := by omega
    have ed : S.items.drop i = [] := List.drop_eq_nil_of_le (by omega)
    rw [ed] at h2
    unfold loopD at h2
    split at h2
    · rename_i ok
      exact .inl ⟨(J1 i ρ' H' A' e2 R2 ok).2 (by omega) ei.symm, h2 ρ' H' σ' .refl R2 hs2⟩
    · exact h2.elim
theorem as_while (n : Nat) (hp : PassesOwn (model X.prog X.w) X.A X.env X.xe) (hc : AT X E c t) (hb : ASs X E body p) : AS X E (.While c body [] pos) (loopW t p n) := ps_mono (ps_while hp hc hb) fun G σ H h => by
  obtain ⟨ρ, s, A, hs, R, h⟩ := h
  refine ⟨fun m σ' H' => ∃ ρ' s' A', SRel X.K ρ' H' s' σ' ∧ Rel X.K ρ' H' A' ∧ SOut X.K E ρ' H' (loopW t p m s' A') G, ⟨n, ρ, s, A, hs, R, h⟩, ?_⟩
  rintro m σ' H' ⟨ρ', s', A', hs2, R2, h2⟩
  cases m with
  | zero => exact h2.elim
  | succ m =>
    refine ⟨ρ', s', A', hs2, R2, (Out.bindS h2).mono fun x H3 ⟨ρ3, b, A3, _, e3, R3, r3, h3⟩ => ?_⟩
    cases r3
    cases x with
    | true =>
      rw [if_pos rfl]
      refine ⟨fun σ3 H3 => ∃ ρ3 s3 A3, SRel X.K ρ3 H3 s3 σ3 ∧ Rel X.K ρ3 H3 A3 ∧ SOut X.K E ρ3 H3 (loopW t p m s3 A3) G, fun σ3 H3 h3 => ⟨m, by omega, h3⟩, ?_⟩
      refine ⟨ρ3, s', A3, hs2.ext e3, R3, ?_⟩
      rw [if_pos rfl] at h3
      cases eb : p s' A3 with
      | bad => rw [eb] at h3; exact h3
      | exc C fs A5 => rw [eb] at h3; exact h3
      | ok fl A5 =>
        rw [eb] at h3
        cases fl with
        | nx s5 => exact fun ρ5 H5 σ5 e6 R5 hs5 => ⟨ρ5, s5, A5, hs5, R5, h3.ext e6⟩
        | ct s5 => exact fun ρ5 H5 σ5 e6 R5 hs5 => ⟨ρ5, s5, A5, hs5, R5, h3.ext e6⟩
        | bk s5 => exact h3
        | rt d => exact h3
    | false =>
      rw [if_neg Bool.false_ne_true]
      exact h3 ρ3 H3 σ' .refl R3 (hs2.ext e3)
end
end Ab

namespace Ab
open PySem PySem.Spec PyProof.Rows L2
open scoped Classical

/-! ## list comprehensions: the new list is a cell from the start -/
def wipeA (s : ASt) : List Nat → ASt
  | [] => s
  | v :: vs => (wipeA s vs).set v none
noncomputable def loopC (ok : AH → Prop) (g : FG) (t : FT) (f : FE) (n : Nat) (s : ASt) : List D → AH → Res D
  | [], A => if ok A then .ok (.ref n) A else .bad
  | d :: ds, A => if ok A then (g d s A).bind fun s1 A1 => (t s1 A1).bind fun b A2 => if b = true then (f s1 A2).bind fun y A3 => (match A3[n]? with
      | some (.lst acc) => if acc.length < sizeLine then loopC ok g t f n s ds (A3.set n (.lst (acc ++ [y]))) else .bad
      | _ => .bad) else loopC ok g t f n s ds A2 else .bad
noncomputable def fLc (src : FI) (g : FG) (t : FT) (f : FE) (vs : List Nat) : FE := fun s A => (src s A).bind fun S A1 => loopC S.ok g t f A1.length (wipeA s vs) S.items (A1 ++ [.lst []])
def fYes : FT := fun _ A => .ok true A
section
variable {K : PySem.W.Frag} {E : XK} {ρ : List Addr} {H : Hp} {s : ASt} {σ : L2.St}
theorem SRel.wipes (h : SRel K ρ H s σ) : ∀ vs : List Nat, SRel K ρ H (wipeA s vs) (L2.wipe σ vs)
  | [] => h
  | v :: vs => SRel.wipe (h.wipes vs) v
theorem wipe_set (i : Nat) (x : Option V) : ∀ (vs : List Nat) (σ : L2.St), i ∈ vs → L2.wipe (σ.set i x) vs = L2.wipe σ vs
  | [], σ, h => by cases h
  | v :: vs, σ, h => by
    show (L2.wipe (σ.set i x) vs).set v none = (L2.wipe σ vs).set v none
    by_cases e : i ∈ vs
    · rw [wipe_set i x vs σ e]
    · have ei : i = v := by rcases List.mem_cons.mp h with q | q; exact q; exact absurd q e
      subst ei
      have comm : ∀ (ws : List Nat), i ∉ ws → L2.wipe (σ.set i x) ws = (L2.wipe σ ws).set i x := by
        intro ws
        induction ws with
        | nil => intro _; rfl
        | cons w ws ih =>
          intro hn
          have h1 : i ≠ w := fun z => hn (by rw [z]; exact List.mem_cons_self)
          have h2 : i ∉ ws := fun z => hn (List.mem_cons_of_mem _ z)
          show (L2.wipe (σ.set i x) ws).set w none = ((L2.wipe σ ws).set w none).set i x
          rw [ih h2, List.set_comm _ _ h1]
      rw [comm vs e, List.set_set]
/-- a target whose stores the block forgets again -/
structure Tgt (K : PySem.W.Frag) (vs : List Nat) (t : TG) (g : FG) : Prop where
  det : ∀ d s A, g d s A = .bad ∨ ∃ s1, g d s A = .ok s1 A
  to : ∀ (ρ : List Addr) (H : Hp) (s : ASt) (σ : L2.St) (A : AH) (d : D) (v : V) (s1 : ASt) (Q : L2.St → Hp → Prop), SRel K ρ H s σ → Rp K ρ H d v → g d s A = .ok s1 A → (∀ σ1, SRel K ρ H s1 σ1 → L2.wipe σ1 vs = L2.wipe σ vs → Q σ1 H) → t v σ H Q
structure Tgts (K : PySem.W.Frag) (vs : List Nat) (t : TGs) (g : FGs) : Prop where
  det : ∀ d s A, g d s A = .bad ∨ ∃ s1, g d s A = .ok s1 A
  to : ∀ (ρ : List Addr) (H : Hp) (s : ASt) (σ : L2.St) (A : AH) (d : List D) (v : List V) (s1 : ASt) (Q : L2.St → Hp → Prop), SRel K ρ H s σ → RpL K ρ H d v → g d s A = .ok s1 A → (∀ σ1, SRel K ρ H s1 σ1 → L2.wipe σ1 vs = L2.wipe σ vs → Q σ1 H) → t v σ H Q
theorem tgt_name {vs : List Nat} {i : Nat} (h : i ∈ vs) : Tgt K vs (gName i) (gN i) := ⟨fun d s A => .inr ⟨_, rfl⟩, fun ρ H s σ A d v s1 Q hs r e q => by
  cases e
  exact q _ (hs.set i r) (wipe_set i _ vs σ h)⟩
theorem tgts_nil {vs : List Nat} : Tgts K vs gNil gNl := ⟨fun d s A => by
  cases d with
  | nil => exact .inr ⟨_, rfl⟩
  | cons _ _ => exact .inl rfl, fun ρ H s σ A d v s1 Q hs r e q => by
  cases d with
  | nil => cases e; exact ⟨r, q _ hs rfl⟩
  | cons _ _ => cases e⟩
theorem tgts_cons {vs : List Nat} {i : Nat} {u : TGs} {gs : FGs} (h : i ∈ vs) (h2 : Tgts K vs u gs) : Tgts K vs (gCons (gName i) u) (gCs (gN i) gs) := ⟨fun d s A => by
  cases d with
  | nil => exact .inl rfl
  | cons d ds => exact h2.det ds _ A, fun ρ H s σ A d v s1 Q hs r e q => by
  cases d with
  | nil => cases e
  | cons d ds =>
    obtain ⟨x, xs, rfl, r1, r2⟩ := r
    exact ⟨x, xs, rfl, h2.to ρ H _ _ A ds xs s1 Q (hs.set i r1) r2 e fun σ1 hs1 w => q σ1 hs1 (w.trans (wipe_set i _ vs σ h))⟩⟩
theorem tgt_tup {vs : List Nat} {n : Nat} {u : TGs} {gs : FGs} (h : Tgts K vs u gs) : Tgt K vs (gTup K n u) (gTp n gs) := ⟨fun d s A => by
  cases d with
  | tup ds =>
    show (if ds.length = n then gs ds s A else .bad) = .bad ∨ ∃ s1, (if ds.length = n then gs ds s A else .bad) = .ok s1 A
    split
    · exact h.det ds s A
    · exact .inl rfl
  | _ => exact .inl rfl, fun ρ H s σ A d v s1 Q hs r e q => by
  cases d with
  | tup ds =>
    have e : (if ds.length = n then gs ds s A else .bad) = .ok s1 A := e
    split at e
    · rename_i z
      obtain ⟨a, xs, rfl, q1, q2⟩ := r
      exact ⟨a, xs, rfl, q1, by rw [q2.length]; exact z, h.to ρ H s σ A ds xs s1 Q hs q2 e q⟩
    · cases e
  | _ => cases e⟩
end
section
variable {X : Cx} {E : XK} {elt tg iter : Expr} {ifs : List Expr} {scope : Scope} {own : List (Str × Nat)} {pos : Pos} {src : FI} {tgg : TG} {g : FG} {t : FT} {f : FE}
abbrev ATs (X : Cx) (E : XK) (ifs : List Expr) (t : FT) : Prop := PTs X ifs (tAT X.K E t)
theorem ats_nil : ATs X E [] fYes := ⟨fun pins s σ H Q I h => pts_nil.run pins s σ H Q I (by
  obtain ⟨ρ, s, A, hs, R, h⟩ := h
  exact Out.now h R rfl)⟩
theorem ats_one {c : Expr} (h : AT X E c t) : ATs X E [c] t := pts_one h
theorem lc_read {K : PySem.W.Frag} {vs : List Nat} (tt : Tgt K vs tgg g) {σ : L2.St} {H : Hp} {Q : VK} (h : tA K E (fLc src g t f vs) σ H Q) :
    tLc (tAI K E src) tgg (tAT K E t) (tA K E f) vs σ H Q := by
  obtain ⟨ρ, s, A, hs, R, h⟩ := h
  refine ⟨ρ, s, A, hs, R, (OutI.bindO h).mono fun J H1 ⟨ρ1, S, A1, _, e1, R1, J1, h1⟩ => fun L hL => ?_⟩
  have eL : Ext K ρ1 H1 (ρ1 ++ [L]) (L2.upd H1 L (.lst [])) := Ext.new hL [L]
  have RL : Rel K (ρ1 ++ [L]) (L2.upd H1 L (.lst [])) (A1 ++ [.lst []]) := R1.new hL ⟨[], upd_same, rfl⟩
  have nL : (ρ1 ++ [L])[A1.length]? = some L := by rw [← R1.len]; simp
  refine ⟨fun i m H' => m = S.items.length - i ∧ i ≤ S.items.length ∧ ∃ ρ' A', Ext K (ρ1 ++ [L]) (L2.upd H1 L (.lst [])) ρ' H' ∧ Rel K ρ' H' A' ∧ OutE K E ρ' H' (loopC S.ok g t f A1.length (wipeA s vs) (S.items.drop i) A') Q,
    ⟨_, rfl, Nat.zero_le _, _, _, .refl, RL, by simpa using h1.ext eL⟩, ?_⟩
  rintro i m H' ⟨rfl, hi, ρ', A', e2, R2, h2⟩
  have hs2 : SRel K ρ' H' (wipeA s vs) (L2.wipe σ vs) := (hs.wipes _).ext (e1.trans (eL.trans e2))
  have fL : ∀ {ρ3 : List Addr} {H3 : Hp}, Ext K ρ' H' ρ3 H3 → ρ3[A1.length]? = some L := fun e => (e2.trans e).at_ nL
  by_cases hl : i < S.items.length
  · obtain ⟨d, hd⟩ : ∃ d, S.items[i]? = some d := ⟨_, List.getElem?_eq_getElem hl⟩
    have ed : S.items.drop i = d :: S.items.drop (i + 1) := by
      rw [List.drop_eq_getElem_cons hl]
      rw [List.getElem?_eq_getElem hl] at hd
      cases hd; rfl
    rw [ed] at h2
    unfold loopC at h2
    split at h2
    · rename_i ok
      obtain ⟨go, yl⟩ := (J1 i ρ' H' A' (eL.trans e2) R2 ok).1 d hd
      refine .inr ⟨go, fun H3 => ∃ ρ3 A3, Ext K (ρ1 ++ [L]) (L2.upd H1 L (.lst [])) ρ3 H3 ∧ Rel K ρ3 H3 A3 ∧ OutE K E ρ3 H3 (loopC S.ok g t f A1.length (wipeA s vs) (S.items.drop (i + 1)) A3) Q, fun H3 h3 => ⟨_, by omega, rfl, hl, h3⟩, fun x H3 hy => ?_⟩
      obtain ⟨e3, R3, r3⟩ := yl x H3 hy
      have h2 := h2.ext e3
      rcases tt.det d (wipeA s vs) A' with eg | ⟨s1, eg⟩
      · rw [eg] at h2; exact h2.elim
      · rw [eg] at h2
        change Out K E (fun ρ H d v => Rp K ρ H d v) ρ' H3 ((t s1 A').bind fun b A2 => _) Q at h2
        refine tt.to ρ' H3 _ _ A' d x s1 _ (hs2.ext e3) r3 eg fun σ1 hs3 w => ⟨w.trans ?_, ρ', s1, A', hs3, R3, (Out.bind h2).mono fun b H4 ⟨ρ4, b', A4, _, e4, R4, r4, h4⟩ => ?_⟩
        · have ww : ∀ (us ws : List Nat), (∀ i ∈ us, i ∈ ws) → L2.wipe (L2.wipe σ us) ws = L2.wipe σ ws := by
            intro us
            induction us with
            | nil => intro ws _; rfl
            | cons u us ih =>
              intro ws hw
              show L2.wipe ((L2.wipe σ us).set u none) ws = _
              rw [wipe_set u none ws _ (hw u List.mem_cons_self)]
              exact ih ws fun i hi => hw i (List.mem_cons_of_mem _ hi)
          exact ww vs vs fun i h => h
        · cases r4
          cases b with
          | false =>
            rw [if_neg Bool.false_ne_true] at h4 ⊢
            exact ⟨ρ4, A4, e2.trans (e3.trans e4), R4, h4⟩
          | true =>
            rw [if_pos rfl] at h4 ⊢
            refine ⟨ρ4, s1, A4, hs3.ext e4, R4, (Out.bind h4).mono fun y H5 ⟨ρ5, d5, A5, _, e5, R5, r5, h5⟩ => ?_⟩
            have e35 := e3.trans (e4.trans e5)
            split at h5
            · rename_i acc eA
              split at h5
              · rename_i z
                obtain ⟨a, ha, us, q1, q2⟩ := R5.ob _ _ eA
                rw [fL e35] at ha; cases ha
                have u := upd_lst (ds := acc) R5 (fL e35) eA q1 (q2.append (RpL.one r5))
                exact ⟨us, q1, by rw [q2.length]; exact z, ρ5, _, e2.trans (e35.trans u.1), u.2, h5.ext u.1⟩
              · exact h5.elim
            · exact h5.elim
    · exact h2.elim
  · have ei : i = S.items.length := by omega
    have ed : S.items.drop i = [] := List.drop_eq_nil_of_le (by omega)
    rw [ed] at h2
    unfold loopC at h2
    split at h2
    · rename_i ok
      exact .inl ⟨(J1 i ρ' H' A' (eL.trans e2) R2 ok).2 (by omega) ei.symm, h2.now R2 ⟨L, fL .refl, rfl⟩⟩
    · exact h2.elim
abbrev Blk (X : Cx) (scope : Scope) (P : Cx → Prop) : Prop := ∀ (s : Shared) (H : Hp) (C : Addr) (cl : List (Str × Addr)) (fp : List Addr), P (X.blk s H scope (compEnvC scope cl C X.env) fp)
theorem ae_lc (own : List (Str × Nat)) (hc : X.calm = true) (hN : X.N.Nodup) (hi : AI X E tg iter src) (ok : BlkOk X.N X.env.scope scope own) (tt : Tgt X.K (own.map (·.2)) tgg g)
    (hg : Blk X scope fun Y => PG Y tg tgg) (ht : Blk X scope fun Y => ATs Y E ifs t) (he : Blk X scope fun Y => AE Y E elt f) (hs : ∀ x, foldedSetIterable iter X.env x = pure x := by intro _; rfl) :
    AE X E (.ListComp elt [⟨tg, iter, ifs, 0⟩] scope pos) (fLc src g t f (own.map (·.2))) := pe_mono (pe_lc hc hN hi ok hg ht he hs) fun _ _ _ => lc_read tt
/-- name = [..] -/
theorem as_setLc (own : List (Str × Nat)) {i : Nat} {y : Str} {py spos : Pos} (hc : X.calm = true) (hN : X.N.Nodup) (hi : AI X E tg iter src) (ok : BlkOk X.N X.env.scope scope own) (tt : Tgt X.K (own.map (·.2)) tgg g)
    (hg : Blk X scope fun Y => PG Y tg tgg) (ht : Blk X scope fun Y => ATs Y E ifs t) (he : Blk X scope fun Y => AE Y E elt f) (hsw : swapsWith (.ListComp elt [⟨tg, iter, ifs, 0⟩] scope pos) (some (.Name y py)) spos.line X.env = pure true)
    (hy : X.N[i]? = some y := by rfl) (hyl : X.env.scope.names.lookup y = some .local := by rfl) (hs : ∀ x, foldedSetIterable iter X.env x = pure x := by intro _; rfl) :
    AS X E (.Assign [.Name y py] (.ListComp elt [⟨tg, iter, ifs, 0⟩] scope pos) spos) (fSet (fLc src g t f (own.map (·.2))) i) := ps_mono (ps_setLc (tt := tAT X.K E t) (te := tA X.K E f) hc hN hy hyl hsw hi ok hg ht he hs) fun G σ H h => by
  refine lc_read (t := t) (f := f) tt ?_
  obtain ⟨ρ, s, A, hs, R, h⟩ := h
  exact ⟨ρ, s, A, hs, R, (Out.bindS h).mono fun x H1 ⟨ρ1, d, A1, _, e1, R1, r1, h1⟩ => h1 ρ1 H1 _ .refl R1 ((hs.ext e1).set i r1)⟩
end

/-! ## isinstance of a built-in type -/
def tyN (A : AH) : D → Option String
  | .non => some "NoneType"
  | .bl _ => some "bool"
  | .int _ => some "int"
  | .str _ => some "str"
  | .tup _ => some "tuple"
  | .ref i => match A[i]? with
    | some (.lst _) => some "list"
    | some (.frz _) => some "list"
    | some (.dic _) => some "dict"
    | _ => none
def isiD (T : String) (d : D) (A : AH) : Res D := match tyN A d with
  | some t => match kitB t T with
    | some b => .ok (.bl b) A
    | none => .bad
  | none => .bad
theorem tyN_ok {K : PySem.W.Frag} {ρ : List Addr} {H : Hp} {A : AH} {d : D} {v : V} {t : String} (R : Rel K ρ H A) (r : Rp K ρ H d v) (h : tyN A d = some t) : TyX K H v (.type t) := by
  cases d with
  | non => cases r; cases h; exact .base .non
  | bl b => cases r; cases h; exact .base (.bl b)
  | int i => cases r; cases h; exact .base (.int i)
  | str x => cases r; cases h; exact .base (.str x)
  | tup ds =>
    obtain ⟨a, xs, rfl, q, _⟩ := r
    cases h
    rcases q with (q | ⟨o, q⟩) | ⟨o, its, n, q1, q2, _⟩
    · exact .base (.tup q)
    · exact .fTuple q
    · exact .kTuple q1 q2
  | ref i =>
    obtain ⟨a, h1, rfl⟩ := r
    obtain ⟨o, h2, h3⟩ := R.has h1
    unfold tyN at h
    simp only [h2] at h
    cases o with
    | lst xs => cases h; obtain ⟨us, e1, _⟩ := h3; exact .base (.lst e1)
    | frz xs =>
      cases h
      obtain ⟨us, e1, _⟩ := h3
      rcases e1 with ⟨o, e1⟩ | (e1 | ⟨o, e1⟩) | ⟨o, its, n, q1, q2, _⟩
      · exact .base (.frz e1)
      · cases e1
      · cases e1
      · exact .kList q1 q2
    | dic xs => cases h; obtain ⟨us, e1, _⟩ := h3; exact .base (.dK e1)
    | ins _ _ => cases h
section
variable {X : Cx} {E : XK} {a : Expr} {f : FE} {p p2 pos : Pos}
theorem ae_isi {T : String} {x : Str} (hg : Gl X "isinstance") (hm : X.mg "isinstance" = none) (hg2 : Gl X x) (hm2 : X.mg x = none) (hv2 : bootBuiltins x = some (.type T)) (ha : AE X E a f) (hn : x ≠ "__name__" := by decide) (hdb : (x == ("__debug__" : Str)) = false := by decide)
    (h1 : starEach [a, .Name x p2] X.env = (false, eval a X.env) :: starEach [.Name x p2] X.env := by rfl) (h2 : starEach [.Name x p2] X.env = (false, eval (.Name x p2) X.env) :: starEach [] X.env := by rfl)
    (hpl : (backTo pos (starEach [.Name x p2] X.env)).any (·.1) = false := by rfl) (hv : bootBuiltins "isinstance" = some (.builtin "isinstance") := by decide +kernel) :
    AE X E (.Call (.Name "isinstance" p) [a, .Name x p2] [] pos) (fUn (isiD T) f) :=
  pe_mono (pe_callB (call_isi (X := X)) hg hm hv (pa_cons ha (pa_cons (pe_bltn (v := .ty T) hg2 hm2 hv2 rfl hn hdb) pa_nil h2) h1) (by decide) (by decide) h1 hpl) fun σ H Q h => by
    obtain ⟨ρ, s, A, hs, R, h⟩ := h
    refine ⟨ρ, s, A, hs, R, (Out.bind h).mono fun v H1 ⟨ρ1, d, A1, _, e1, R1, r1, h1⟩ => ?_⟩
    unfold isiD at h1
    split at h1
    · rename_i t e2
      split at h1
      · rename_i b e3
        exact ⟨v, .ty T, .type t, .type T, b, rfl, .ty T, tyN_ok R1 r1 e2, kit_ty e3, h1.now R1 rfl⟩
      · exact h1.elim
    · exact h1.elim
end

/-! ## methods of built-in types -/
def rM (K : PySem.W.Frag) (E : XK) (g : D → FM) : V → List V → Hp → VK → Prop := fun x xs H Q => ∃ ρ A d ds, Rel K ρ H A ∧ Rp K ρ H d x ∧ RpL K ρ H ds xs ∧ OutE K E ρ H (g d ds A) Q
abbrev AMt (X : Cx) (E : XK) (id : String) (g : D → FM) : Prop := MtR X id (rM X.K E g)
def isTy (T : String) (d : D) (A : AH) : Bool := match d with
  | .str _ => T == "str"
  | d => (T == "list" && (rdL A d).isSome) || (T == "dict" && (rdK A d).isSome)
def fMt0 (T : String) (g : D → FM) (fo : FE) : FE := fun s A => (fo s A).bind fun d A1 => if isTy T d A1 = true then g d [] A1 else .bad
def fMt (T : String) (g : D → FM) (fo : FE) (fa : FA) : FE := fun s A => (fo s A).bind fun d A1 => if isTy T d A1 = true then (fa s A1).bind fun ds A2 => g d ds A2 else .bad
theorem isTy_ok {K : PySem.W.Frag} {ρ : List Addr} {H : Hp} {A : AH} {T : String} {d : D} {v : V} (R : Rel K ρ H A) (r : Rp K ρ H d v) (h : isTy T d A = true) : tyV K T v H := by
  cases d with
  | str x => cases r; exact eq_of_beq h
  | ref i =>
    have h : (((T == "list") && (rdL A (.ref i)).isSome) || ((T == "dict") && (rdK A (.ref i)).isSome)) = true := h
    rw [Bool.or_eq_true, Bool.and_eq_true, Bool.and_eq_true] at h
    rcases h with ⟨h1, h2⟩ | ⟨h1, h2⟩
    · obtain ⟨xs, e⟩ := Option.isSome_iff_exists.mp h2
      obtain ⟨a, us, rfl, q, _⟩ := rdL_ok R r e
      exact .inl ⟨eq_of_beq h1, us, q⟩
    · obtain ⟨xs, e⟩ := Option.isSome_iff_exists.mp h2
      obtain ⟨_, a, us, _, rfl, _, _, q, _⟩ := rdK_ok R r e
      exact .inr (.inr (.inl ⟨eq_of_beq h1, .inl ⟨us, q⟩⟩))
  | non => simp [isTy, rdL, rdK] at h
  | bl b => simp [isTy, rdL, rdK] at h
  | int b => simp [isTy, rdL, rdK] at h
  | tup b => simp [isTy, rdL, rdK] at h
section
variable {X : Cx} {E : XK} {o e : Expr} {es : List Expr} {fo : FE} {fa : FA} {g : D → FM} {name : Str} {apos cpos : Pos} {T id : String}
theorem ae_mt0 (pa : PlainAttrs T) (slot : Slot T name id) (hty : typeOf (.builtin id) = pure (.type "method_descriptor")) (hm : AMt X E id g) (ho : AE X E o fo)
    (hbase : attributeBase o name X.env (eval o X.env) = eval o X.env := by rfl) (hline : (apos.endLine == cpos.line) = true := by rfl) : AE X E (.Call (.Attribute o name apos) [] [] cpos) (fMt0 T g fo) :=
  pe_mono (pe_bm0 pa slot hty hm ho hbase hline) fun σ H Q h => by
    obtain ⟨ρ, s, A, hs, R, h⟩ := h
    refine ⟨ρ, s, A, hs, R, (Out.bind h).mono fun v H1 ⟨ρ1, d, A1, _, e1, R1, r1, h1⟩ => ?_⟩
    split at h1
    · rename_i z
      exact ⟨isTy_ok R1 r1 z, ρ1, A1, d, [], R1, r1, rfl, h1⟩
    · exact h1.elim
theorem ae_mt (pa : PlainAttrs T) (slot : Slot T name id) (hty : typeOf (.builtin id) = pure (.type "method_descriptor")) (hm : AMt X E id g) (ho : AE X E o fo) (ha : AA X E (e :: es) fa)
    (hbase : attributeBase o name X.env (eval o X.env) = eval o X.env := by rfl)
    (hfew : ((backTo cpos (starEach (e :: es) X.env)).all (fun x => !x.1) && (backToKw cpos (keywordEach [] X.env)).all (fun x => x.1.isSome)
      && decide ((e :: es).length + ([] : List Keyword).length + (if ([] : List Keyword).isEmpty then 0 else 1) < 30)) = true := by rfl)
    (hline : (apos.endLine == cpos.line) = true := by rfl) (hs : starEach (e :: es) X.env = (false, eval e X.env) :: starEach es X.env := by rfl) (hplain : (backTo cpos (starEach es X.env)).any (·.1) = false := by rfl) :
    AE X E (.Call (.Attribute o name apos) (e :: es) [] cpos) (fMt T g fo fa) := pe_mono (pe_bm pa slot hty hm ho ha hbase hfew hline hs hplain) fun σ H Q h => by
  obtain ⟨ρ, s, A, hs, R, h⟩ := h
  refine ⟨ρ, s, A, hs, R, (Out.bind h).mono fun v H1 ⟨ρ1, d, A1, _, e1, R1, r1, h1⟩ => ?_⟩
  split at h1
  · rename_i z
    exact ⟨isTy_ok R1 r1 z, ρ1, s, A1, hs.ext e1, R1, (Out.bind h1).mono fun vs H2 ⟨ρ2, ds, A2, _, e2, R2, r2, h2⟩ => ⟨ρ2, A2, d, ds, R2, r1.ext e2, r2, h2⟩⟩
  · exact h1.elim
def appendD (d : D) : FM
  | [y], A => match d with
    | .ref n => match A[n]? with
      | some (.lst xs) => if xs.length < sizeLine then .ok .non (A.set n (.lst (xs ++ [y]))) else .bad
      | _ => .bad
    | _ => .bad
  | _, _ => .bad
theorem mtm_mono {id : String} {r r' : V → List V → Hp → VK → Prop} (h : MtR X id r) (m : ∀ x xs H Q, r' x xs H Q → r x xs H Q) : MtR X id r' := fun pins s σ H x xs v us Q I rx rs q => h pins s σ H x xs v us Q I rx rs (m _ _ _ _ q)
theorem amt_append : AMt X E "list.append" appendD := mtm_mono mt_append fun x xs H Q h => by
  obtain ⟨ρ, A, d, ds, R, r, rs, h⟩ := h
  unfold appendD at h
  split at h
  · split at h
    · split at h
      · split at h
        · rename_i xs' eA z
          obtain ⟨a, ha, rfl⟩ := r
          obtain ⟨a', ha', us, q1, q2⟩ := R.ob _ _ eA
          rw [ha] at ha'; cases ha'
          obtain ⟨y, rfl, ry⟩ := rs.one_inv
          have u := upd_lst (ds := xs') R ha eA q1 (q2.append (RpL.one ry))
          exact ⟨a, us, y, rfl, rfl, q1, by rw [q2.length]; exact z, h ρ _ .non u.1 u.2 rfl⟩
        · exact h.elim
      · exact h.elim
    · exact h.elim
  · exact h.elim
def extendD (d : D) : FM
  | [e], A => match d with
    | .ref n => match A[n]?, muL A e with
      | some (.lst xs), some ys => if xs.length + ys.length ≤ sizeLine then .ok .non (A.set n (.lst (xs ++ ys))) else .bad
      | _, _ => .bad
    | _ => .bad
  | _, _ => .bad
theorem amt_extend : AMt X E "list.extend" extendD := mtm_mono mt_extend fun x xs H Q h => by
  obtain ⟨ρ, A, d, ds, R, r, rs, h⟩ := h
  unfold extendD at h
  split at h
  · split at h
    · split at h
      · split at h
        · rename_i xs' ys eA eY z
          obtain ⟨a, ha, rfl⟩ := r
          obtain ⟨a', ha', us, q1, q2⟩ := R.ob _ _ eA
          rw [ha] at ha'; cases ha'
          obtain ⟨y, rfl, ry⟩ := rs.one_inv
          obtain ⟨_, b, ws, _, rfl, _, _, q3, q4⟩ := muL_ok R ry eY
          have u := upd_lst (ds := xs') R ha eA q1 (q2.append q4)
          exact ⟨a, b, us, ws, rfl, rfl, q1, q3, by rw [q2.length, q4.length]; exact z, h ρ _ .non u.1 u.2 rfl⟩
        · exact h.elim
      · exact h.elim
    · exact h.elim
  · exact h.elim
def popD (d : D) : FM
  | [], A => match d with
    | .ref n => match A[n]? with
      | some (.lst xs) => match xs[xs.length - 1]? with
        | some y => .ok y (A.set n (.lst xs.dropLast))
        | none => .bad
      | _ => .bad
    | _ => .bad
  | _, _ => .bad
theorem RpL.dropLast {K : PySem.W.Frag} {ρ : List Addr} {H : Hp} {ds : List D} {xs : List V} (r : RpL K ρ H ds xs) : RpL K ρ H ds.dropLast xs.dropLast := by
  rw [List.dropLast_eq_take, List.dropLast_eq_take, r.length]
  exact r.take _
theorem amt_pop : AMt X E "list.pop" popD := mtm_mono mt_pop fun x xs H Q h => by
  obtain ⟨ρ, A, d, ds, R, r, rs, h⟩ := h
  unfold popD at h
  split at h
  · split at h
    · split at h
      · split at h
        · rename_i xs' eA _ y eY
          obtain ⟨a, ha, rfl⟩ := r
          obtain ⟨a', ha', us, q1, q2⟩ := R.ob _ _ eA
          rw [ha] at ha'; cases ha'
          obtain ⟨v, e1, e2⟩ := q2.get eY
          have u := upd_lst (ds := xs') R ha eA q1 q2.dropLast
          exact ⟨a, us, v, rfl, rs, q1, by rw [q2.length]; exact e1, h ρ _ v u.1 u.2 (e2.ext u.1)⟩
        · exact h.elim
      · exact h.elim
    · exact h.elim
  · exact h.elim
def insertD (d : D) : FM
  | [.int i, y], A => match d with
    | .ref n => match A[n]? with
      | some (.lst xs) => if xs.length < sizeLine ∧ 0 ≤ i ∧ i < 2 ^ 63 then .ok .non (A.set n (.lst (xs.take i.toNat ++ [y] ++ xs.drop i.toNat))) else .bad
      | _ => .bad
    | _ => .bad
  | _, _ => .bad
theorem amt_insert : AMt X E "list.insert" insertD := mtm_mono mt_insert fun x xs H Q h => by
  obtain ⟨ρ, A, d, ds, R, r, rs, h⟩ := h
  unfold insertD at h
  split at h
  · rename_i k y'
    split at h
    · split at h
      · split at h
        · rename_i xs' eA z
          obtain ⟨a, ha, rfl⟩ := r
          obtain ⟨a', ha', us, q1, q2⟩ := R.ob _ _ eA
          rw [ha] at ha'; cases ha'
          obtain ⟨i', y, rfl, ri, ry⟩ := rs.two_inv
          cases ri
          have u := upd_lst (ds := xs') R ha eA q1 (((q2.take k.toNat).append (RpL.one ry)).append (q2.drop k.toNat))
          exact ⟨a, us, k, y, rfl, rfl, q1, by rw [q2.length]; exact z.1, z.2.1, z.2.2, h ρ _ .non u.1 u.2 rfl⟩
        · exact h.elim
      · exact h.elim
    · exact h.elim
  · exact h.elim
end

/-! ## f-strings -/
def fmtD (d : D) (A : AH) : Res D := match d with
  | .str x => if x.length ≤ sizeLine then .ok (.str x) A else .bad
  | .int i => if i.natAbs.log2 < 1920 then .ok (.str (toString i)) A else .bad
  | _ => .bad
def jStrs : List FE → Str → FE
  | [], acc, _, A => .ok (.str acc) A
  | f :: fs, acc, s, A => (f s A).bind fun d A1 => match d with
    | .str y => if (acc ++ y).length ≤ sizeLine then jStrs fs (acc ++ y) s A1 else .bad
    | _ => .bad
inductive AJ (X : Cx) (E : XK) : List Expr → List FE → Prop where
  | nil : AJ X E [] []
  | cons {e : Expr} {f : FE} {es : List Expr} {fs : List FE} (h : AE X E e f) (r : AJ X E es fs) : AJ X E (e :: es) (f :: fs)
section
variable {X : Cx} {E : XK} {e v1 v2 : Expr} {rest : List Expr} {f : FE} {fs : List FE} {pos : Pos}
theorem ae_fmt (h : AE X E e f) : AE X E (.FormattedValue e (-1) none pos) (fUn fmtD f) := pe_mono (pe_fmt h) fun σ H Q h => by
  obtain ⟨ρ, s, A, hs, R, h⟩ := h
  refine ⟨ρ, s, A, hs, R, (Out.bind h).mono fun v H1 ⟨ρ1, d, A1, _, e1, R1, r1, h1⟩ => ?_⟩
  unfold fmtD at h1
  split at h1
  · split at h1
    · rename_i z; cases r1; exact .inl ⟨_, rfl, z, h1.now R1 rfl⟩
    · exact h1.elim
  · split at h1
    · rename_i z; cases r1; exact .inr ⟨_, rfl, z, h1.now R1 rfl⟩
    · exact h1.elim
  · exact h1.elim
theorem AJ.pj (h : AJ X E rest fs) : PJ X rest (fs.map (tA X.K E)) := by
  induction h with
  | nil => exact .nil
  | cons h _ ih => exact .cons h ih
theorem js_read {K : PySem.W.Frag} {σ : L2.St} {Q : VK} : ∀ (fs : List FE) (acc : Str) (ρ : List Addr) (s : ASt) (A : AH) (H : Hp), SRel K ρ H s σ → Rel K ρ H A → OutE K E ρ H (jStrs fs acc s A) Q → tJs (fs.map (tA K E)) acc σ H fun out H1 => Q (.str out) H1
  | [], acc, ρ, s, A, H, hs, R, h => Out.now h R rfl
  | f :: fs, acc, ρ, s, A, H, hs, R, h => by
    refine ⟨ρ, s, A, hs, R, (Out.bind h).mono fun v H1 ⟨ρ1, d, A1, _, e1, R1, r1, h1⟩ => ?_⟩
    split at h1
    · split at h1
      · rename_i z
        cases r1
        exact ⟨_, rfl, z, js_read fs _ ρ1 s A1 H1 (hs.ext e1) R1 h1⟩
      · exact h1.elim
    · exact h1.elim
theorem ae_joined (h : AJ X E (v1 :: v2 :: rest) fs) : AE X E (.JoinedStr (v1 :: v2 :: rest) pos) (jStrs fs Str.empty) := pe_mono (pe_joined h.pj) fun σ H Q h => by
  obtain ⟨ρ, s, A, hs, R, h⟩ := h
  exact js_read fs _ ρ s A H hs R h
theorem ae_joined1 (h : AE X E e f) : AE X E (.JoinedStr [e] pos) f := pe_joined1 h
end

/-! ## dict displays with text keys and int keys -/
def fDict (ks : List Key) (fs : FA) : FE := fun s A => (fs s A).bind fun ds A1 => if ds.length = ks.length then alloc (.dic (ks.zip ds)) A1 else .bad

/-! ## a def of the text -/
def spM (K : PySem.W.Frag) (n : Nat) (m : FM) : Sp := fun vs H Q _ => ∃ ρ A ds, Rel K ρ H A ∧ RpL K ρ H ds vs ∧ ds.length = n ∧ OutE K E0 ρ H (m ds A) Q
/-- the def at f does what m says, by at most k calls within one another -/
abbrev ADef (P : Program) (w : World) (K : PySem.W.Frag) (mg : Str → Option Value) (base : Heap) (k : Nat) (f : Addr) (fd : FuncData) (ps : List Str) (m : FM) : Prop := FnOk P w K mg base CX0 k f fd ps (spM K ps.length m)
/-- the parameters' slots, then the other names' -/
def args (n : Nat) (ds : List D) : ASt := ds.map some ++ List.replicate (n - ds.length) none
def finish (r : Res Fl) : Res D := match r with
  | .ok (.rt d) A => .ok d A
  | .ok (.nx _) A => .ok .non A
  | .ok _ _ => .bad
  | .exc C fs A => .exc C fs A
  | .bad => .bad
/-- a body as a function -/
def body (np n : Nat) (f : FS) : FM := fun ds A => if ds.length = np then finish (f (args n ds) A) else .bad
section
variable {P : Program} {w : World} {K : PySem.W.Frag} {mg : Str → Option Value} {base : Heap}
theorem args_rel {ρ : List Addr} {H : Hp} {ds : List D} {vs : List V} (N : List Str) (r : RpL K ρ H ds vs) : SRel K ρ H (args N.length ds) (L2.start N vs) := by
  refine ⟨by simp [args, L2.start, r.length], fun i d h => ?_⟩
  unfold args at h
  by_cases hi : i < ds.length
  · rw [List.getElem?_append_left (by simpa using hi), List.getElem?_map] at h
    cases e : ds[i]? with
    | none => rw [e] at h; cases h
    | some d' =>
      rw [e] at h
      cases h
      obtain ⟨v, q1, q2⟩ := r.get e
      refine ⟨v, ?_, q2⟩
      unfold L2.start
      rw [List.getElem?_append_left (by simpa [r.length] using hi), List.getElem?_map, q1]
      rfl
  · rw [List.getElem?_append_right (by simpa using hi), List.getElem?_replicate] at h
    split at h <;> cases h
theorem adef {x qual : Str} {st : Stmt} {f : Addr} {fd : FuncData} {N ps : List Str} {k : Nat} {p : FS} (F : Fun K x qual st f fd) (S : FnScope N ps (defScope st))
    (hb : ∀ (cdv : Value) (A : Around) (outer : List Env) (s : Shared) (H : Hp) (E : XK), Room k (A.deeper (envOfC qual (defScope st) s.heap.objs.size f cdv)) →
      ASs (cxOf CX0 P w K mg base N qual (defScope st) f cdv A outer s H E).nox E0 (defBody st) p) : ADef P w K mg base (k + 1) f fd ps (body ps.length N.length p) := by
  refine F.ok S (fun vs H Q E h => ?_) (fun cdv A outer s H vs Q E hr h => ?_)
  · obtain ⟨ρ, A, ds, R, r, z, h⟩ := h
    rw [r.length, z]
  · obtain ⟨ρ, A', ds, R, r, z, h⟩ := h
    refine ⟨_, hb cdv A outer s H E hr, ρ, args N.length ds, A', args_rel N r, R, ?_⟩
    unfold body at h
    rw [if_pos z] at h
    unfold finish at h
    show SOut K E0 ρ H (p (args N.length ds) A') _
    cases e : p (args N.length ds) A' with
    | bad => rw [e] at h; exact h
    | exc C fs A1 => rw [e] at h; exact h
    | ok fl A1 =>
      rw [e] at h
      cases fl with
      | nx s => exact fun ρ1 H1 σ1 e1 R1 _ => h ρ1 H1 .non e1 R1 rfl
      | rt d => exact h
      | bk s => exact h.elim
      | ct s => exact h.elim
/-- a def does the same by another function that has as much to say -/
theorem ADef.imp {k : Nat} {f : Addr} {fd : FuncData} {ps : List Str} {m m' : FM} (h : ADef P w K mg base k f fd ps m) (e : ∀ ρ H ds A Q, Rel K ρ H A → ds.length = ps.length → OutE K E0 ρ H (m' ds A) Q → OutE K E0 ρ H (m ds A) Q) : ADef P w K mg base k f fd ps m' :=
  FnOk.imp h fun vs H Q E ⟨ρ, A, ds, R, r, z, q⟩ => ⟨ρ, A, ds, R, r, z, e ρ H ds A Q R z q⟩
end
section
variable {X : Cx} {k n : Nat} {f : Addr} {fd : FuncData} {ps : List Str} {m : FM} {x : Str} {p pos : Pos} {e : Expr} {es : List Expr} {fs : FA}
def fOwn (n : Nat) (m : FM) (fs : FA) : FE := fun s A => (fs s A).bind fun ds A1 => if ds.length = n then m ds A1 else .bad
theorem own_ {K : PySem.W.Frag} {σ : L2.St} {H : Hp} {Q : VK} {n : Nat} (h : tA K E0 (fOwn n m fs) σ H Q) : tCall (spM K n m) [] E0 (tAA K E0 fs) σ H Q := by
  obtain ⟨ρ, s, A, hs, R, h⟩ := h
  refine ⟨ρ, s, A, hs, R, (Out.bind h).mono fun x H1 ⟨ρ1, d, A1, _, e1, R1, r1, h1⟩ => ?_⟩
  split at h1
  · rename_i z
    exact ⟨ρ1, A1, d, R1, by rw [List.append_nil]; exact r1, z, h1⟩
  · exact h1.elim
theorem ae_call (F : ADef X.prog X.w X.K X.mg X.base k f fd ps m) (hr : Room k X.A) (hg : Gl X x) (hm : X.mg x = some (.ref f)) (hk : PySem.W.keepIn X.K (.ref f) = true) (hb : Binds X.K fd ps [])
    (ha : AA X E0 (e :: es) fs) (hdb : (x == ("__debug__" : Str)) = false := by decide) (he : starEach (e :: es) X.env = (false, eval e X.env) :: starEach es X.env := by rfl) (hpl : (backTo pos (starEach es X.env)).any (·.1) = false := by rfl) (hn : ps.length = n := by rfl) :
    AE X E0 (.Call (.Name x p) (e :: es) [] pos) (fOwn n m fs) := pe_mono (pe_call F hr hg hm hk hb .nil pass0 ha hdb he hpl) fun _ _ _ h => own_ (by rw [hn]; exact h)
theorem ae_call0 (F : ADef X.prog X.w X.K X.mg X.base k f fd ps m) (hr : Room k X.A) (hg : Gl X x) (hm : X.mg x = some (.ref f)) (hk : PySem.W.keepIn X.K (.ref f) = true) (hb : Binds X.K fd ps [])
    (hdb : (x == ("__debug__" : Str)) = false := by decide) (hn : ps.length = n := by rfl) :
    AE X E0 (.Call (.Name x p) [] [] pos) (fOwn n m fNil) := pe_mono (pe_call0 F hr hg hm hk hb .nil pass0 hdb) fun σ H Q h => by
  rw [← hn] at h
  obtain ⟨ρ, s, A, hs, R, h⟩ := own_ h
  exact Out.now h R rfl
end
end Ab

namespace Ab
open PySem PySem.Spec PyProof.Rows L2
open scoped Classical

/-! ## tuple(range(..)), list(range(..)) -/
def rgD (f1 f2 : FE) (k : Int → Int → AH → Res D) : FE := fun s A => (f1 s A).bind fun d A1 => (f2 s A1).bind fun e A2 => match d, e with
  | .int i, .int j => k i j A2
  | _, _ => .bad
noncomputable def rgTup (i j : Int) (A : AH) : Res D := if RgOk i j then .ok (.tup (rngL i (j - i).toNat)) A else .bad
noncomputable def rgLst (i j : Int) (A : AH) : Res D := if RgOk i j then alloc (.lst (rngL i (j - i).toNat)) A else .bad
theorem rng_rel {K : PySem.W.Frag} {ρ : List Addr} {H : Hp} (i j : Int) : RpL K ρ H (rngL i (j - i).toNat) (rgV i j) := by
  unfold rngL rgV
  have all : ∀ l : List Nat, RpL K ρ H (l.map fun k => .int (i + (k : Nat))) (l.map fun k => V.int (i + (k : Nat))) := by
    intro l
    induction l with
    | nil => rfl
    | cons k l ih => exact ⟨_, _, rfl, rfl, ih⟩
  exact all _
section
variable {X : Cx} {E : XK} {a b : Expr} {f g : FE} {p p2 pos pos2 : Pos}
theorem rg2_ {K : PySem.W.Frag} {σ : L2.St} {H : Hp} {Q : VK} {k : Int → Int → AH → Res D} {R : Int → Int → Hp → Prop} (h : tA K E (rgD f g k) σ H Q) (m : ∀ i j ρ A H, Rel K ρ H A → OutE K E ρ H (k i j A) Q → R i j H) : tRg2 (tA K E f) (tA K E g) σ H R := by
  obtain ⟨ρ, s, A, hs, Rl, h⟩ := h
  refine ⟨ρ, s, A, hs, Rl, (Out.bind h).mono fun x H1 ⟨ρ1, d, A1, _, e1, R1, r1, h1⟩ => ⟨ρ1, s, A1, hs.ext e1, R1, (Out.bind h1).mono fun y H2 ⟨ρ2, d2, A2, _, e2, R2, r2, h2⟩ => ?_⟩⟩
  split at h2
  · cases r1; cases r2
    exact ⟨_, _, rfl, rfl, m _ _ ρ2 A2 H2 R2 h2⟩
  · exact h2.elim
theorem ae_tupRg2 (hc : X.calm = true) (hg : Gl X "tuple") (hm : X.mg "tuple" = none) (hg2 : Gl X "range") (hm2 : X.mg "range" = none) (ha : AE X E a f) (hb : AE X E b g) (na : starEach [a, b] X.env = (false, eval a X.env) :: starEach [b] X.env := by rfl)
    (nb : starEach [b] X.env = (false, eval b X.env) :: starEach [] X.env := by rfl) (hp : (backTo pos2 (starEach [b] X.env)).any (·.1) = false := by rfl) (nr : starEach [.Call (.Name "range" p2) [a, b] [] pos2] X.env = (false, eval (.Call (.Name "range" p2) [a, b] [] pos2) X.env) :: starEach [] X.env := by rfl) :
    AE X E (.Call (.Name "tuple" p) [.Call (.Name "range" p2) [a, b] [] pos2] [] pos) (rgD f g rgTup) := pe_mono (pe_tupRg hc hg hm (prg_2 hg2 hm2 ha hb na nb hp) nr) fun σ H Q h => rg2_ h fun i j ρ A H R h => by
  unfold rgTup at h
  split at h
  · rename_i z
    exact ⟨z, new_tup R (rng_rel i j) h⟩
  · exact h.elim
theorem ae_lstRg2 (hc : X.calm = true) (hg : Gl X "list") (hm : X.mg "list" = none) (hg2 : Gl X "range") (hm2 : X.mg "range" = none) (ha : AE X E a f) (hb : AE X E b g) (na : starEach [a, b] X.env = (false, eval a X.env) :: starEach [b] X.env := by rfl)
    (nb : starEach [b] X.env = (false, eval b X.env) :: starEach [] X.env := by rfl) (hp : (backTo pos2 (starEach [b] X.env)).any (·.1) = false := by rfl) (nr : starEach [.Call (.Name "range" p2) [a, b] [] pos2] X.env = (false, eval (.Call (.Name "range" p2) [a, b] [] pos2) X.env) :: starEach [] X.env := by rfl) :
    AE X E (.Call (.Name "list" p) [.Call (.Name "range" p2) [a, b] [] pos2] [] pos) (rgD f g rgLst) := pe_mono (pe_listRg hc hg hm (prg_2 hg2 hm2 ha hb na nb hp) nr) fun σ H Q h => rg2_ h fun i j ρ A H R h => by
  unfold rgLst at h
  split at h
  · rename_i z
    exact ⟨z, new_lst R (rng_rel i j) h⟩
  · exact h.elim
theorem rg1_ {K : PySem.W.Frag} {σ : L2.St} {H : Hp} {Q : VK} {k : Int → Int → AH → Res D} {R : Int → Int → Hp → Prop} (h : tA K E (rgD (fC (.int 0)) f k) σ H Q) (m : ∀ i j ρ A H, Rel K ρ H A → OutE K E ρ H (k i j A) Q → R i j H) : tRg1 (tA K E f) σ H R := by
  obtain ⟨ρ, s, A, hs, Rl, h⟩ := h
  refine ⟨ρ, s, A, hs, Rl, (Out.bind (show OutE K E ρ H ((f s A).bind fun e A2 => match D.int 0, e with | .int i, .int j => k i j A2 | _, _ => .bad) Q from h)).mono fun x H1 ⟨ρ1, d, A1, _, e1, R1, r1, h1⟩ => ?_⟩
  split at h1
  · rename_i i j e0 e1
    cases e0
    cases r1
    exact ⟨_, rfl, m _ _ ρ1 A1 H1 R1 h1⟩
  · exact h1.elim
theorem ae_tupRg1 (hc : X.calm = true) (hg : Gl X "tuple") (hm : X.mg "tuple" = none) (hg2 : Gl X "range") (hm2 : X.mg "range" = none) (ha : AE X E a f) (na : starEach [a] X.env = (false, eval a X.env) :: starEach [] X.env := by rfl)
    (nr : starEach [.Call (.Name "range" p2) [a] [] pos2] X.env = (false, eval (.Call (.Name "range" p2) [a] [] pos2) X.env) :: starEach [] X.env := by rfl) :
    AE X E (.Call (.Name "tuple" p) [.Call (.Name "range" p2) [a] [] pos2] [] pos) (rgD (fC (.int 0)) f rgTup) := pe_mono (pe_tupRg hc hg hm (prg_1 hg2 hm2 ha na) nr) fun σ H Q h => rg1_ h fun i j ρ A H R h => by
  unfold rgTup at h
  split at h
  · rename_i z
    exact ⟨z, new_tup R (rng_rel i j) h⟩
  · exact h.elim
theorem ae_lstRg1 (hc : X.calm = true) (hg : Gl X "list") (hm : X.mg "list" = none) (hg2 : Gl X "range") (hm2 : X.mg "range" = none) (ha : AE X E a f) (na : starEach [a] X.env = (false, eval a X.env) :: starEach [] X.env := by rfl)
    (nr : starEach [.Call (.Name "range" p2) [a] [] pos2] X.env = (false, eval (.Call (.Name "range" p2) [a] [] pos2) X.env) :: starEach [] X.env := by rfl) :
    AE X E (.Call (.Name "list" p) [.Call (.Name "range" p2) [a] [] pos2] [] pos) (rgD (fC (.int 0)) f rgLst) := pe_mono (pe_listRg hc hg hm (prg_1 hg2 hm2 ha na) nr) fun σ H Q h => rg1_ h fun i j ρ A H R h => by
  unfold rgLst at h
  split at h
  · rename_i z
    exact ⟨z, new_lst R (rng_rel i j) h⟩
  · exact h.elim
end

/-! ## enumerate, zip -/
theorem enumL_get : ∀ (k i : Nat) (ds : List D), (enumL k ds)[i]? = (ds[i]?).map fun d => .tup [.int ((k + i : Nat)), d]
  | k, i, [] => by simp [enumL]
  | k, 0, d :: ds => by simp [enumL]
  | k, i + 1, d :: ds => by
    show (enumL (k + 1) ds)[i]? = (ds[i]?).map _
    rw [enumL_get (k + 1) i ds]
    congr 1
    funext d
    rw [show k + 1 + i = k + (i + 1) by omega]
theorem enumL_len : ∀ (k : Nat) (ds : List D), (enumL k ds).length = ds.length
  | k, [] => rfl
  | k, d :: ds => by simp [enumL, enumL_len (k + 1) ds]
theorem zipD_get : ∀ (i : Nat) (as bs : List D) (d : D), (zipD as bs)[i]? = some d ↔ ∃ a b, as[i]? = some a ∧ bs[i]? = some b ∧ d = .tup [a, b]
  | i, [], bs, d => by simp [zipD]
  | i, a :: as, [], d => by simp [zipD]
  | 0, a :: as, b :: bs, d => by simp [zipD, eq_comm]
  | i + 1, a :: as, b :: bs, d => by
    show (zipD as bs)[i]? = some d ↔ _
    rw [zipD_get i as bs d]
    simp
theorem zipD_len : ∀ (as bs : List D), (zipD as bs).length = min as.length bs.length
  | [], bs => by simp [zipD]
  | a :: as, [] => by simp [zipD]
  | a :: as, b :: bs => by simp [zipD, zipD_len as bs, Nat.succ_min_succ]
noncomputable def fZip (f g : FE) : FI := fun s A => (f s A).bind fun d A1 => (g s A1).bind fun e A2 => match d, e with
  | .tup xs, .tup ys => .ok ⟨zipD xs ys, yes⟩ A2
  | .ref m, .ref n => match rdL A2 (.ref m), rdL A2 (.ref n) with
    | some xs, some ys => .ok ⟨zipD xs ys, fun A' => rdL A' (.ref m) = some xs ∧ rdL A' (.ref n) = some ys⟩ A2
    | _, _ => .bad
  | _, _ => .bad
section
variable {K : PySem.W.Frag} {ρ : List Addr} {H : Hp}
theorem pair_new {ρ' : List Addr} {H' : Hp} {A : AH} {T : Addr} {x y : V} {d e : D} (R : Rel K ρ' H' A) (hT : H' T = none) (r1 : Rp K ρ' H' d x) (r2 : Rp K ρ' H' e y) :
    Ext K ρ' H' ρ' (L2.upd H' T (.tup [x, y])) ∧ Rel K ρ' (L2.upd H' T (.tup [x, y])) A ∧ Rp K ρ' (L2.upd H' T (.tup [x, y])) (.tup [d, e]) (.ref T) := by
  have ex : Ext K ρ' H' ρ' (L2.upd H' T (.tup [x, y])) := Ext.new0 hT
  exact ⟨ex, R.new0 hT, T, [x, y], rfl, .inl (.inl upd_same), x, [y], rfl, r1.ext ex, y, [], rfl, r2.ext ex, rfl⟩
theorem ite_rel {a : Addr} {n : Nat} {ds : List D} (ha : ρ[n]? = some a) : ItRel K (Ite K a) ρ H ⟨enumL 0 ds, fun A => rdL A (.ref n) = some ds⟩ := fun i ρ' H' A e R ok => by
  have ha' := e.at_ ha
  obtain ⟨b, xs, eb, h', r'⟩ := rdL_ok R (show Rp K ρ' H' (.ref n) (.ref a) from ⟨a, ha', rfl⟩) ok
  cases eb
  refine ⟨fun d hd => ?_, fun hl _ => ⟨xs, h', by rw [r'.length]; rw [show (Src.items ⟨enumL 0 ds, fun A => rdL A (.ref n) = some ds⟩).length = ds.length from enumL_len 0 ds] at hl; exact hl⟩⟩
  have hd : (enumL 0 ds)[i]? = some d := hd
  rw [enumL_get] at hd
  cases ei : ds[i]? with
  | none => rw [ei] at hd; cases hd
  | some d0 =>
    rw [ei] at hd
    cases hd
    obtain ⟨v, q1, q2⟩ := r'.get ei
    refine ⟨⟨xs, v, h', q1⟩, fun x H2 hy => ?_⟩
    obtain ⟨T, w, rfl, hT, rfl, fv⟩ := hy
    have := fv _ h'
    rw [q1] at this; cases this
    rw [Nat.zero_add]
    exact pair_new R hT rfl q2
theorem itz_rel {a b : Addr} {m n : Nat} {ds es : List D} (ha : ρ[m]? = some a) (hb : ρ[n]? = some b) : ItRel K (Itz K a b) ρ H ⟨zipD ds es, fun A => rdL A (.ref m) = some ds ∧ rdL A (.ref n) = some es⟩ := fun i ρ' H' A e R ok => by
  obtain ⟨c, xs, eb, h1, r1⟩ := rdL_ok R (show Rp K ρ' H' (.ref m) (.ref a) from ⟨a, e.at_ ha, rfl⟩) ok.1
  cases eb
  obtain ⟨c, ys, eb, h2, r2⟩ := rdL_ok R (show Rp K ρ' H' (.ref n) (.ref b) from ⟨b, e.at_ hb, rfl⟩) ok.2
  cases eb
  refine ⟨fun d hd => ?_, fun hl _ => ⟨xs, ys, h1, h2, by
    have hl : (zipD ds es).length ≤ i := hl
    rw [r1.length, r2.length]; rw [zipD_len] at hl; omega⟩⟩
  obtain ⟨d1, d2, q1, q2, rfl⟩ := (zipD_get i ds es d).mp hd
  obtain ⟨v, q3, q4⟩ := r1.get q1
  obtain ⟨w, q5, q6⟩ := r2.get q2
  refine ⟨⟨xs, ys, v, w, h1, h2, q3, q5⟩, fun x H2 hy => ?_⟩
  obtain ⟨T, x1, y1, rfl, hT, rfl, f1, f2⟩ := hy
  have z1 := f1 _ h1
  have z2 := f2 _ h2
  rw [q3] at z1; cases z1
  rw [q5] at z2; cases z2
  exact pair_new R hT q4 q6
theorem itzT_rel {a b : Addr} {xs ys : List V} {ds es : List D} (h1 : SqT K H a xs) (r1 : RpL K ρ H ds xs) (h2 : SqT K H b ys) (r2 : RpL K ρ H es ys) : ItRel K (RZ.ItzT K a b) ρ H ⟨zipD ds es, yes⟩ := fun i ρ' H' A e R ok => by
  have h1 := e.gr _ _ h1
  have h2 := e.gr _ _ h2
  have r1 := r1.ext e
  have r2 := r2.ext e
  refine ⟨fun d hd => ?_, fun hl _ => ⟨xs, ys, h1, h2, by
    have hl : (zipD ds es).length ≤ i := hl
    rw [r1.length, r2.length]; rw [zipD_len] at hl; omega⟩⟩
  obtain ⟨d1, d2, q1, q2, rfl⟩ := (zipD_get i ds es d).mp hd
  obtain ⟨v, q3, q4⟩ := r1.get q1
  obtain ⟨w, q5, q6⟩ := r2.get q2
  refine ⟨⟨xs, ys, v, w, h1, h2, q3, q5⟩, fun x H2 hy => ?_⟩
  obtain ⟨T, x1, y1, rfl, hT, rfl, f1, f2⟩ := hy
  have z1 := f1 _ h1
  have z2 := f2 _ h2
  rw [q3] at z1; cases z1
  rw [q5] at z2; cases z2
  exact pair_new R hT q4 q6
end
section
variable {X : Cx} {E : XK} {e e2 : Expr} {f g : FE} {p pos tpos : Pos} {elts : List Expr} {kk : Nat}
theorem ai_enum (hg : Gl X "enumerate") (hm : X.mg "enumerate" = none) (he : AE X E e f) (h1 : starEach [e] X.env = (false, eval e X.env) :: starEach [] X.env := by rfl) : AI X E (.Tuple elts kk tpos) (.Call (.Name "enumerate" p) [e] [] pos) (fEnum f) := pi_mono (pi_enum (hs := h1) hg hm (aa_cons he aa_nil h1)) fun σ H Q h => by
  obtain ⟨ρ, s, A, hs, R, h⟩ := h
  have ef : fEnum f s A = (fCons f fNil s A).bind fun ds A1 => match ds with
      | [d] => match rdL A1 d with
        | some ds => .ok ⟨enumL 0 ds, fun A' => rdL A' d = some ds⟩ A1
        | none => .bad
      | _ => .bad := by
    unfold fEnum fCons fNil
    cases f s A with
    | bad => rfl
    | exc _ _ _ => rfl
    | ok d A1 => rfl
  rw [ef] at h
  refine ⟨ρ, s, A, hs, R, (Out.bindI h).mono fun xs H1 ⟨ρ1, ds, A1, _, e1, R1, r1, h1⟩ => ?_⟩
  split at h1
  · split at h1
    · rename_i d _ _ ds' e4
      obtain ⟨x, rfl, r2⟩ := r1.one_inv
      cases d with
      | ref n =>
        obtain ⟨a, us, rfl, q1, q2⟩ := rdL_ok R1 r2 e4
        obtain ⟨b, hb, eb⟩ := r2
        cases eb
        exact ⟨a, us, rfl, q1, h1 ρ1 H1 _ .refl R1 (ite_rel hb)⟩
      | _ => cases e4
    · exact h1.elim
  · exact h1.elim
theorem ai_zip (hg : Gl X "zip") (hm : X.mg "zip" = none) (he : AE X E e f) (he2 : AE X E e2 g) (h1 : starEach [e, e2] X.env = (false, eval e X.env) :: starEach [e2] X.env := by rfl) (h2 : starEach [e2] X.env = (false, eval e2 X.env) :: starEach [] X.env := by rfl) (hpl : (backTo pos (starEach [e2] X.env)).any (·.1) = false := by rfl) :
    AI X E (.Tuple elts kk tpos) (.Call (.Name "zip" p) [e, e2] [] pos) (fZip f g) := pi_mono (RZ.pi_zipA (hs := h1) (hpl := hpl) hg hm (aa_cons he (aa_cons he2 aa_nil h2) h1)) fun σ H Q h => by
  obtain ⟨ρ, s, A, hs, R, h⟩ := h
  have ef : fZip f g s A = (fCons f (fCons g fNil) s A).bind fun ds A2 => match ds with
      | [.tup xs, .tup ys] => .ok ⟨zipD xs ys, yes⟩ A2
      | [.ref m, .ref n] => match rdL A2 (.ref m), rdL A2 (.ref n) with
        | some xs, some ys => .ok ⟨zipD xs ys, fun A' => rdL A' (.ref m) = some xs ∧ rdL A' (.ref n) = some ys⟩ A2
        | _, _ => .bad
      | _ => .bad := by
    unfold fZip fCons
    cases f s A with
    | bad => rfl
    | exc _ _ _ => rfl
    | ok d A1 =>
      show (g s A1).bind _ = Res.bind (Res.bind (fCons g fNil s A1) _) _
      unfold fCons fNil
      cases g s A1 with
      | bad => rfl
      | exc _ _ _ => rfl
      | ok d' A2 => cases d <;> cases d' <;> rfl
  rw [ef] at h
  refine ⟨ρ, s, A, hs, R, (Out.bindI h).mono fun xs H1 ⟨ρ1, ds, A1, _, e1, R1, r1, h1⟩ => ?_⟩
  split at h1
  · obtain ⟨x, y, rfl, r2, r3⟩ := r1.two_inv
    obtain ⟨a, us, rfl, q1, q2⟩ := r2
    obtain ⟨b, ws, rfl, q3, q4⟩ := r3
    exact ⟨a, b, us, ws, rfl, .inr ⟨q1, q3, h1 ρ1 H1 _ .refl R1 (itzT_rel q1 q2 q3 q4)⟩⟩
  · split at h1
    · rename_i m n _ xs' ys' e4 e5
      obtain ⟨x, y, rfl, r2, r3⟩ := r1.two_inv
      obtain ⟨a, us, rfl, q1, q2⟩ := rdL_ok R1 r2 e4
      obtain ⟨b, ws, rfl, q3, q4⟩ := rdL_ok R1 r3 e5
      obtain ⟨a', ha, ea⟩ := r2
      cases ea
      obtain ⟨b', hb, eb⟩ := r3
      cases eb
      exact ⟨a, b, us, ws, rfl, .inl ⟨q1, q3, h1 ρ1 H1 _ .refl R1 (itz_rel ha hb)⟩⟩
    · exact h1.elim
  · exact h1.elim
end

/-! ## dict displays: the new dict is a cell from the start -/
abbrev FP := ASt → AH → Res (List (Key × D))
def fPs : List (FE × FE) → FP
  | [], _, A => .ok [] A
  | (k, v) :: r, s, A => (k s A).bind fun kd A1 => (v s A1).bind fun vd A2 => match keyOf kd with
    | some key => (fPs r s A2).bind fun ps A3 => .ok ((key, vd) :: ps) A3
    | none => .bad
def mergeD (kvs more : List (Key × D)) : List (Key × D) := more.foldl (fun acc kv => setK acc kv.1 kv.2) kvs
def fDisp (ps : List (FE × FE)) : FE := fun s A => (fPs ps s (A ++ [.dic []])).bind fun kds A1 => match A1[A.length]? with
  | some (.dic []) => if kds.length ≤ 15 then .ok (.ref A.length) (A1.set A.length (.dic (mergeD [] kds))) else .bad
  | _ => .bad
def fDict0 : FE := fun _ A => alloc (.dic []) A
inductive APs (X : Cx) (E : XK) (pos : Pos) : List (Option Expr) → List Expr → List (FE × FE) → Prop where
  | nil : APs X E pos [] [] []
  | cons {k v : Expr} {f g : FE} {ks : List (Option Expr)} {vs : List Expr} {fs : List (FE × FE)} (h : AE X E k f) (h' : AE X E v g) (r : APs X E pos ks vs fs) : APs X E pos (some k :: ks) (v :: vs) ((f, g) :: fs)
section
variable {X : Cx} {E : XK} {pos : Pos} {ks : List (Option Expr)} {vs : List Expr} {fs : List (FE × FE)}
theorem APs.pp (h : APs X E pos ks vs fs) : PPs X pos ks vs (fs.map fun p => (tA X.K E p.1, tA X.K E p.2)) := by
  induction h with
  | nil => exact pps_nil
  | cons h h' _ ih => exact pps_cons h h' ih
theorem mergeD_ok {K : PySem.W.Frag} {ρ : List Addr} {H : Hp} : ∀ {more : List (Key × D)} {mu : List (Key × V)} {kvs : List (Key × D)} {us : List (Key × V)}, RpK K ρ H more mu → RpK K ρ H kvs us → RpK K ρ H (mergeD kvs more) (mergeK us mu)
  | [], mu, kvs, us, h, q => by rw [show mu = [] from h]; exact q
  | p :: ps, mu, kvs, us, h, q => by
    obtain ⟨v, r, rfl, h2, h3⟩ := h
    exact mergeD_ok (more := ps) (mu := r) h3 (setK_ok (k := p.1) q h2)
abbrev OutP (K : PySem.W.Frag) (E : XK) := Out (α := List (Key × D)) (β := List (Key × V)) K E (fun ρ H d v => RpK K ρ H d v)
theorem ps_read {K : PySem.W.Frag} {σ : L2.St} : ∀ (fs : List (FE × FE)) (ρ : List Addr) (s : ASt) (A : AH) (H : Hp) (Q : List (Key × V) → Hp → Prop) (Q' : List (V × V) → Hp → Prop), (∀ us H', Q us H' → Q' (us.map fun kv => (kV kv.1, kv.2)) H') → SRel K ρ H s σ → Rel K ρ H A → OutP K E ρ H (fPs fs s A) Q →
    tPairs (fs.map fun p => (tA K E p.1, tA K E p.2)) σ H Q'
  | [], ρ, s, A, H, Q, Q', m, hs, R, h => m [] H (Out.now h R rfl)
  | p :: fs, ρ, s, A, H, Q, Q', m, hs, R, h => by
    refine ⟨ρ, s, A, hs, R, (Out.bind h).mono fun x H1 ⟨ρ1, d, A1, _, e1, R1, r1, h1⟩ => ⟨ρ1, s, A1, hs.ext e1, R1, (Out.bind h1).mono fun y H2 ⟨ρ2, d2, A2, _, e2, R2, r2, h2⟩ => ?_⟩⟩
    split at h2
    · rename_i key ek
      have ex := keyOf_ok (r1.ext e2) ek
      subst ex
      refine ps_read fs ρ2 s A2 H2 (fun us H3 => Q ((key, y) :: us) H3) _ (fun us H' q => m _ H' q) (hs.ext (e1.trans e2)) R2 ((Out.bind h2).mono fun us H3 ⟨ρ3, ps, A3, _, e3, R3, r3, h3⟩ => ?_)
      exact Out.now h3 R3 ⟨y, us, rfl, r2.ext e3, r3⟩
    · exact h2.elim
theorem ae_disp (h : APs X E pos ks vs fs) (hall : ks.all (·.isSome) = true := by rfl) (hl : ks.length = vs.length := by rfl) (h0 : ks ≠ [] := by exact fun z => nomatch z) (h15 : ks.length ≤ 15 := by decide) : AE X E (.Dict ks vs pos) (fDisp fs) := pe_mono (pe_disp h.pp hall hl h0 h15) fun σ H Q h => by
  obtain ⟨ρ, s, A, hs, R, h⟩ := h
  intro p hp
  have e0 : Ext X.K ρ H (ρ ++ [p]) (L2.upd H p (.dK [])) := Ext.new hp [p]
  have R0 : Rel X.K (ρ ++ [p]) (L2.upd H p (.dK [])) (A ++ [.dic []]) := R.new hp ⟨[], upd_same, rfl⟩
  have np : (ρ ++ [p])[A.length]? = some p := by rw [← R.len]; simp
  have h := Out.ext h e0
  refine ps_read fs (ρ ++ [p]) s (A ++ [.dic []]) _ (fun us H2 => H2 p = some (.dK []) ∧ us.length ≤ 15 ∧ Q (.ref p) (L2.upd H2 p (.dK (mergeK [] us)))) _ (fun us H' q => ⟨q.1, us, rfl, q.2⟩) (hs.ext e0) R0 ((Out.bind h).mono fun us H3 ⟨ρ3, kds, A3, _, e3, R3, r3, h3⟩ => ?_)
  split at h3
  · rename_i eA
    split at h3
    · rename_i z
      obtain ⟨a, ha, us0, q1, q2⟩ := R3.ob _ _ eA
      rw [e3.at_ np] at ha; cases ha
      rw [show us0 = [] from q2] at q1
      have u := upd_dic R3 (e3.at_ np) eA q1 (mergeD_ok (more := kds) (mu := us) (kvs := []) (us := []) r3 rfl)
      exact ⟨q1, by rw [r3.length]; exact z, h3 ρ3 _ (.ref p) u.1 u.2 ⟨p, e3.at_ np, rfl⟩⟩
    · exact h3.elim
  · exact h3.elim
theorem ae_dict0 : AE X E (.Dict [] [] pos) fDict0 := pe_mono pe_dnewK fun σ H Q h => by
  obtain ⟨ρ, s, A, hs, R, h⟩ := h
  exact new_dic (kvs := []) (us := []) R rfl h
end

/-! ## the law's own end -/
theorem sp_law {m : FM} (h : ∀ ns : List Int, ns.length ≤ 63 → ∃ A', m [.ref 0] [.frz (ns.map D.int)] = .ok (.bl true) A') :
    ∀ (K : PySem.W.Frag) (H : Hp) (a : Addr) (ns : List Int), ns.length ≤ 63 → Only H → SqL K H a (ns.map V.int) → spM K 1 m [.ref a] H (fun v _ => v = .bl true) fun _ _ _ => False := fun K H a ns hl hO hS => by
  obtain ⟨A', e⟩ := h ns hl
  have rl : ∀ l : List Int, RpL K [a] H (l.map D.int) (l.map V.int) := by
    intro l
    induction l with
    | nil => rfl
    | cons k l ih => exact ⟨_, _, rfl, rfl, ih⟩
  have f : SqF K H a (ns.map V.int) := by
    rcases hS with (hS | ⟨o, hS⟩) | hS
    · rcases hO a with z | ⟨o, xs, z⟩
      · rw [hS] at z; cases z
      · rw [hS] at z; cases z
    · exact .inl ⟨o, hS⟩
    · exact .inr (.inr hS)
  have R : Rel K [a] H [.frz (ns.map D.int)] := ⟨rfl, fun i j b o u h1 h2 h3 h4 f1 _ => by
    have hi : i = 0 := by have := (List.getElem?_eq_some_iff.mp h3).1; simp at this; exact this
    subst hi
    cases h3
    exact Bool.noConfusion f1, fun i o hi => by
    have hi0 : i = 0 := by have := (List.getElem?_eq_some_iff.mp hi).1; simp at this; exact this
    subst hi0
    cases hi
    exact ⟨a, rfl, _, f, rl ns⟩⟩
  refine ⟨[a], _, [.ref 0], R, ⟨_, [], rfl, ⟨a, rfl, rfl⟩, rfl⟩, rfl, ?_⟩
  rw [e]
  exact fun ρ' H' v _ _ r => r
end Ab
namespace Ab
open PySem PySem.Spec PyProof.Rows L2
section
variable {P : Program} {w : World} {K : PySem.W.Frag} {mg : Str → Option Value} {base : Heap} {k : Nat} {f : Addr} {fd : FuncData} {ps : List Str} {m : FM}
theorem adef_bad : ADef P w K mg base k f fd ps (fun _ _ => .bad) := by
  have no : ∀ vs H Q E, ¬ spM K ps.length (fun _ _ => .bad) vs H Q E := fun vs H Q E ⟨ρ, A, ds, R, r, z, q⟩ => q
  exact ⟨fun vs H Q E h => absurd h (no vs H Q E), fun A outer s H args us vs Q E _ _ _ _ h => absurd h (no vs H Q E)⟩
theorem adef_up {n L : Nat} (h : ADef P w K mg base (n + L + 1) f fd ps m) : ADef P w K mg base (n + 1 + L) f fd ps m := FnOk.mono h (by omega)
theorem u65 {A : Around} (hr : Room k A) : A.units + 65 < cLine := by have := hr.un; omega
end
end Ab

namespace Ab
open PySem PySem.Spec PyProof.Rows L2

/-! ## list.index of a plain value that is there -/
section
variable {X : Cx} {E : XK}
def firstV (y : V) : List V → Nat → Option Nat
  | [], _ => none
  | z :: zs, k => if eqV z y = true then some k else firstV y zs (k + 1)
theorem firstV_ok {y : V} : ∀ {zs : List V} {k j : Nat}, firstV y zs k = some j → ∃ i z, j = k + i ∧ zs[i]? = some z ∧ eqV z y = true ∧ ∀ (m : Nat) (z' : V), m < i → zs[m]? = some z' → eqV z' y = false
  | [], k, j, h => by cases h
  | z :: zs, k, j, h => by
    rw [firstV] at h
    split at h
    · rename_i e
      cases h
      exact ⟨0, z, rfl, rfl, e, fun m z' hm _ => absurd hm (Nat.not_lt_zero _)⟩
    · rename_i e
      obtain ⟨i, w, h1, h2, h3, h4⟩ := firstV_ok h
      refine ⟨i + 1, w, by omega, by simpa using h2, h3, fun m z' hm hz => ?_⟩
      cases m with
      | zero => cases hz; simpa using e
      | succ m => exact h4 m z' (by omega) (by simpa using hz)
def indexD (d : D) : FM
  | [y], A => match rdL A d with
    | some xs => match toV y, toVs xs with
      | some v, some vs => match firstV v vs 0 with
        | some j => .ok (.int (j : Nat)) A
        | none => .bad
      | _, _ => .bad
    | none => .bad
  | _, _ => .bad
theorem amt_index : AMt X E "list.index" indexD := mtm_mono mt_index fun x xs H Q h => by
  obtain ⟨ρ, A, d, ds, R, r, rs, h⟩ := h
  unfold indexD at h
  split at h
  · split at h
    · rename_i xs' eX
      split at h
      · rename_i v vs e1 e2
        split at h
        · rename_i j ej
          obtain ⟨a, us, rfl, q1, q2⟩ := rdL_ok R r eX
          obtain ⟨y, rfl, ry⟩ := rs.one_inv
          obtain ⟨rfl, fv⟩ := toV_ok ry e1
          obtain ⟨rfl, fvs⟩ := toVs_ok q2 e2
          obtain ⟨i, z, h1, h2, h3, h4⟩ := firstV_ok ej
          rw [Nat.zero_add] at h1
          subst h1
          exact ⟨a, us, y, j, z, rfl, rfl, q1, fv, fvs, h2, h3, h4, h.now R rfl⟩
        · exact h.elim
      · exact h.elim
    · exact h.elim
  · exact h.elim

/-! ## == and != of two dicts that are alike -/
def alike (ks ls : List (Key × D)) : Prop := ks.length = ls.length ∧ ∀ p ∈ ks, ∃ v, toV p.2 = some v ∧ ∃ d, getK ls p.1 = some d ∧ toV d = some v
theorem alike_ok {K : PySem.W.Frag} {ρ : List Addr} {H : Hp} {ks ls : List (Key × D)} {us vs : List (Key × V)} (h : alike ks ls) (r1 : RpK K ρ H ks us) (r2 : RpK K ρ H ls vs) :
    us.length = vs.length ∧ ∀ p ∈ us, valV vs p.1 = some p.2 ∧ flatB p.2 = true := by
  refine ⟨by rw [r1.length, r2.length]; exact h.1, ?_⟩
  have all : ∀ {ks : List (Key × D)} {us : List (Key × V)}, RpK K ρ H ks us → (∀ p ∈ ks, ∃ v, toV p.2 = some v ∧ ∃ d, getK ls p.1 = some d ∧ toV d = some v) → ∀ p ∈ us, valV vs p.1 = some p.2 ∧ flatB p.2 = true := by
    intro ks
    induction ks with
    | nil => intro us r _ p hp; rw [show us = [] from r] at hp; cases hp
    | cons k ks ih =>
      intro us r hk p hp
      obtain ⟨v, q, rfl, h2, h3⟩ := r
      rcases List.mem_cons.mp hp with e | e
      · subst e
        obtain ⟨w, t1, d, g, t2⟩ := hk k (List.mem_cons_self ..)
        obtain ⟨rfl, fv⟩ := toV_ok h2 t1
        have z := getK_ok (k := k.1) r2
        rw [g] at z
        obtain ⟨w, z1, z2⟩ := z
        obtain ⟨rfl, _⟩ := toV_ok z2 t2
        refine ⟨z1, ?_⟩
        show flatB w = true
        cases w <;> first | rfl | cases fv
      · exact ih h3 (fun p hp => hk p (List.mem_cons_of_mem _ hp)) p e
  exact all r1 h.2
open scoped Classical in
noncomputable def eqX (d e : D) (A : AH) : Res D := match rdK A d, rdK A e with
  | some ks, some ls => if alike ks ls then .ok (.bl true) A else .bad
  | _, _ => .bad
open scoped Classical in
noncomputable def neX (d e : D) (A : AH) : Res D := match rdK A d, rdK A e with
  | some ks, some ls => if alike ks ls then .ok (.bl false) A else .bad
  | _, _ => .bad
theorem aop_eqX (hu : X.A.units + 64 < cLine) : AOp X E (compareOp .Eq) eqX := op_mono (op_eq_dictA (by omega)) fun x y H Q h => by
  obtain ⟨ρ, A, d, e, R, r1, r2, h⟩ := h
  unfold eqX at h
  split at h
  · split at h
    · rename_i ks ls e1 e2 z
      obtain ⟨i, a, us, rfl, rfl, _, _, q1, q2⟩ := rdK_ok R r1 e1
      obtain ⟨j, b, vs, rfl, rfl, _, _, q3, q4⟩ := rdK_ok R r2 e2
      have w := alike_ok z q2 q4
      exact ⟨a, b, us, vs, rfl, rfl, q1, q3, w.1, w.2, h.now R rfl⟩
    · exact h.elim
  · exact h.elim
theorem aop_neX (hu : X.A.units + 64 < cLine) : AOp X E (compareOp .NotEq) neX := op_mono (op_ne_dictA (by omega)) fun x y H Q h => by
  obtain ⟨ρ, A, d, e, R, r1, r2, h⟩ := h
  unfold neX at h
  split at h
  · split at h
    · rename_i ks ls e1 e2 z
      obtain ⟨i, a, us, rfl, rfl, _, _, q1, q2⟩ := rdK_ok R r1 e1
      obtain ⟨j, b, vs, rfl, rfl, _, _, q3, q4⟩ := rdK_ok R r2 e2
      have w := alike_ok z q2 q4
      exact ⟨a, b, us, vs, rfl, rfl, q1, q3, w.1, w.2, h.now R rfl⟩
    · exact h.elim
  · exact h.elim

/-! ## d.update(e) -/
def mergeV (kvs more : List (Key × V)) : List (Key × V) := more.foldl (fun acc kv => putK acc kv.1 kv.2) kvs
theorem merged_kv : ∀ {more : List (Key × V)} {mu : List (Key × Value)} {kvs : List (Key × V)} {us : List (Key × Value)}, KV more mu → KV kvs us → KV (mergeV kvs more) (merged us mu)
  | _, _, kvs, us, .nil, q => q
  | _, _, kvs, us, @Paired.cons _ _ _ p u ps qs h t, q => by
    obtain ⟨h1, h2⟩ := h
    have := merged_kv t (q.put p.1 h2)
    rw [h1] at this
    show KV (mergeV (putK kvs p.1 p.2) ps) (merged (stored us u.1 u.2) qs)
    rw [← h1] at this ⊢
    exact this
theorem length_mergeV : ∀ (more kvs : List (Key × V)), (mergeV kvs more).length ≤ kvs.length + more.length
  | [], kvs => Nat.le_refl _
  | p :: ps, kvs => by
    have h1 := length_mergeV ps (putK kvs p.1 p.2)
    have h2 := length_putK kvs p.1 p.2
    show (mergeV (putK kvs p.1 p.2) ps).length ≤ _
    rw [List.length_cons]
    omega
theorem mt_update : MtR X "dict.update" fun x xs H Q => ∃ (a b : Addr) (kvs more : List (Key × V)), x = .ref a ∧ xs = [.ref b] ∧ a ≠ b ∧ H a = some (.dK kvs) ∧ H b = some (.dK more) ∧ kvs.length + more.length ≤ sizeLine ∧ Q .non (upd H a (.dK (mergeV kvs more))) := by
  intro pins s σ H x xs v us Q I rx rxs h
  obtain ⟨a, b, kvs, more, rfl, rfl, hne, ea, eb, z, q⟩ := h
  obtain rfl : v = Value.ref a := rx
  rw [Vals.ref1 rxs]
  obtain ⟨_, hd, vs, rel, dd⟩ := dk_of I.hok ea
  obtain ⟨_, hd2, ws, rel2, dd2⟩ := dk_of I.hok eb
  refine call_meetsIn PySem.F.slot_dict_update dd.typeIs PySem.F.entry_dict_update (PySem.F.args_dict_update_2 _ _) (meets_dict_update (mixKind X.prog X.w) a b hne hd2)
    ⟨vs, ws, dd, dd2, by rw [← rel.length, ← rel2.length]; exact z, fun h' dd' _ hs => ?_⟩
  have he : ∃ q, h'.get? a = some q := let ⟨q, _, _, hq, _⟩ := dd'; ⟨q, hq⟩
  exact ⟨.non, _, d_write (t' := s.toks) I (by rw [ea]; exact True.intro) hs he (dk_new (Nat.le_trans (length_mergeV _ _) z) hd (merged_kv rel2 rel) dd'), rfl, q⟩
def updateD (d : D) : FM
  | [.ref j], A => match d with
    | .ref n => match A[n]?, A[j]? with
      | some (.dic ks), some (.dic ls) => if n ≠ j ∧ ks.length + ls.length ≤ sizeLine then .ok .non (A.set n (.dic (mergeD ks ls))) else .bad
      | _, _ => .bad
    | _ => .bad
  | _, _ => .bad
theorem merge_ok {K : PySem.W.Frag} {ρ : List Addr} {H : Hp} : ∀ {more : List (Key × D)} {mu : List (Key × V)} {kvs : List (Key × D)} {us : List (Key × V)}, RpK K ρ H more mu → RpK K ρ H kvs us → RpK K ρ H (mergeD kvs more) (mergeV us mu)
  | [], mu, kvs, us, h, q => by rw [show mu = [] from h]; exact q
  | p :: ps, mu, kvs, us, h, q => by
    obtain ⟨v, r, rfl, h2, h3⟩ := h
    exact merge_ok (more := ps) (mu := r) h3 (setK_ok (k := p.1) q h2)
theorem amt_update : AMt X E "dict.update" updateD := mtm_mono mt_update fun x xs H Q h => by
  obtain ⟨ρ, A, d, ds, R, r, rs, h⟩ := h
  unfold updateD at h
  split at h
  · rename_i j
    split at h
    · rename_i n
      split at h
      · rename_i ks ls e1 e2
        split at h
        · rename_i z
          obtain ⟨a, ha, rfl⟩ := r
          obtain ⟨a', ha', us, q1, q2⟩ := R.ob _ _ e1
          rw [ha] at ha'; cases ha'
          obtain ⟨y, rfl, ry⟩ := rs.one_inv
          obtain ⟨b, hb, rfl⟩ := ry
          obtain ⟨b', hb', ws, q3, q4⟩ := R.ob _ _ e2
          rw [hb] at hb'; cases hb'
          have hne : a ≠ b := fun e => z.1 (R.nd n j a _ _ ha (by rw [hb, e]) e1 e2 rfl rfl)
          have u := upd_dic R ha e1 q1 (merge_ok q4 q2)
          exact ⟨a, b, us, ws, rfl, rfl, hne, q1, q3, by rw [q2.length, q4.length]; exact z.2, h ρ _ .non u.1 u.2 rfl⟩
        · exact h.elim
      · exact h.elim
    · exact h.elim
  · exact h.elim
end
end Ab

namespace Ab
open PySem PySem.Spec PyProof.Rows L2
open scoped Classical

/-! ## reasoning about the functions: what an outcome satisfies -/
def Sat {α : Type} (r : Res α) (P : α → AH → Prop) : Prop := match r with
  | .ok a A => P a A
  | _ => False
section
variable {α β : Type} {r : Res α} {k : α → AH → Res β} {P Q : α → AH → Prop} {R : β → AH → Prop} {a : α} {A : AH} {c : Prop} {i : Decidable c}
theorem sat_ok : Sat (.ok a A) P = P a A := rfl
theorem sat_bad : Sat (.bad : Res α) P = False := rfl
theorem sat_bind : Sat (r.bind k) R = Sat r fun a A => Sat (k a A) R := by cases r <;> rfl
theorem sat_ite {x y : Res α} : Sat (if c then x else y) P = if c then Sat x P else Sat y P := by split <;> rfl
theorem Sat.imp (h : Sat r P) (q : ∀ a A, P a A → Q a A) : Sat r Q := by
  cases r with
  | ok a A => exact q a A h
  | _ => exact h
theorem Sat.eq (h : Sat r P) : ∃ a A, r = .ok a A ∧ P a A := by
  cases r with
  | ok a A => exact ⟨a, A, rfl, h⟩
  | _ => exact h.elim
theorem sat_of {a : α} {A : AH} (e : r = .ok a A) (h : P a A) : Sat r P := by rw [e]; exact h
theorem bind_ok : (Res.ok a A).bind k = k a A := rfl
theorem bind_bad : (Res.bad : Res α).bind k = .bad := rfl
end
/-- behind a statement -/
def thn_ (g : FS) (P : Fl → AH → Prop) : Fl → AH → Prop
  | .nx s, A => Sat (g s A) P
  | fl, A => P fl A
/-- at a body's end -/
def fin_ (P : D → AH → Prop) : Fl → AH → Prop
  | .rt d, A => P d A
  | .nx _, A => P .non A
  | _, _ => False
section
variable {f g h : FE} {fs : FA} {p q : FS} {c t u : FT} {gg : FG} {gs : FGs} {s : ASt} {A : AH} {P : Fl → AH → Prop} {Q : D → AH → Prop} {i n np : Nat} {d : D} {ds : List D} {m : FM} {go : D → D → AH → Res D} {gu : D → AH → Res D}
theorem ev_seq : Sat (fSeq p q s A) P = Sat (p s A) (thn_ q P) := by
  unfold fSeq
  cases p s A with
  | ok fl A1 => cases fl <;> rfl
  | _ => rfl
theorem thn_nx : thn_ q P (.nx s) A = Sat (q s A) P := rfl
theorem thn_rt : thn_ q P (.rt d) A = P (.rt d) A := rfl
theorem thn_bk : thn_ q P (.bk s) A = P (.bk s) A := rfl
theorem thn_ct : thn_ q P (.ct s) A = P (.ct s) A := rfl
theorem fin_rt : fin_ Q (.rt d) A = Q d A := rfl
theorem fin_nx : fin_ Q (.nx s) A = Q .non A := rfl
theorem ev_finish {r : Res Fl} : Sat (finish r) Q = Sat r (fin_ Q) := by
  unfold finish
  cases r with
  | ok fl A1 => cases fl <;> rfl
  | _ => rfl
theorem ev_body (e : ds.length = np) : Sat (body np n p ds A) Q = Sat (p (args n ds) A) (fin_ Q) := by
  unfold body
  rw [if_pos e, ev_finish]
theorem sat_body (e : ds.length = np) (h : Sat (p (args n ds) A) (fin_ Q)) : Sat (body np n p ds A) Q := by rw [ev_body e]; exact h
theorem sat_seq (h : Sat (p s A) (thn_ q P)) : Sat (fSeq p q s A) P := by rw [ev_seq]; exact h
theorem sat_ifS {b : Bool} (hc : c s A = .ok b A) (hp : b = true → Sat (p s A) P) (hq : b = false → Sat (q s A) P) : Sat (fIfS c p q s A) P := by
  unfold fIfS
  rw [hc, bind_ok]
  cases b with
  | true => exact hp rfl
  | false => exact hq rfl
theorem ev_v (e : s[i]? = some (some d)) : fV i s A = .ok d A := by unfold fV; rw [e]
theorem ev_c : fC d s A = .ok d A := rfl
theorem ev_op : fOp go f g s A = (f s A).bind fun x A1 => (g s A1).bind fun y A2 => go x y A2 := rfl
theorem ev_un : fUn gu f s A = (f s A).bind fun x A1 => gu x A1 := rfl
theorem ev_chain {go' : D → D → AH → Res D} : fChain go go' f g h s A = (f s A).bind fun x A1 => (g s A1).bind fun y A2 => (go x y A2).bind fun z A3 => match z with
  | .bl true => (h s A3).bind fun w A4 => go' y w A4
  | .bl false => .ok (.bl false) A3
  | _ => .bad := rfl
theorem ev_nil : fNil s A = .ok [] A := rfl
theorem ev_cons : fCons f fs s A = (f s A).bind fun x A1 => (fs s A1).bind fun xs A2 => .ok (x :: xs) A2 := rfl
theorem ev_tup : fTup fs s A = (fs s A).bind tupD := rfl
theorem ev_lst : fLst fs s A = (fs s A).bind lstD := rfl
theorem ev_call : fCall m fs s A = (fs s A).bind fun ds A1 => m ds A1 := rfl
theorem ev_own : fOwn n m fs s A = (fs s A).bind fun ds A1 => if ds.length = n then m ds A1 else .bad := rfl
theorem ev_sl {lo hi : FO} : fSl f lo hi s A = (f s A).bind fun d A1 => (lo s A1).bind fun l A2 => (hi s A2).bind fun h A3 => slD d l h A3 := rfl
theorem ev_no : fNo s A = .ok none A := rfl
theorem ev_part : fPart f s A = (f s A).bind fun d A1 => match d with
  | .int i => .ok (some i) A1
  | _ => .bad := rfl
theorem ev_and : fAnd f g s A = (f s A).bind fun d A1 => (tru d A1).bind fun b A2 => if b = true then g s A2 else .ok d A2 := rfl
theorem ev_or : fOr f g s A = (f s A).bind fun d A1 => (tru d A1).bind fun b A2 => if b = true then .ok d A2 else g s A2 := rfl
theorem ev_not : fNot f s A = (f s A).bind fun d A1 => (tru d A1).bind fun b A2 => .ok (.bl (!b)) A2 := rfl
theorem ev_if : fIf c f g s A = (c s A).bind fun b A1 => if b = true then f s A1 else g s A1 := rfl
theorem ev_t : fT f s A = (f s A).bind tru := rfl
theorem ev_tb : fTB f s A = (f s A).bind fun d A1 => match d with
  | .bl b => .ok b A1
  | _ => .bad := rfl
theorem ev_tnot : fTNot t s A = (t s A).bind fun b A1 => .ok (!b) A1 := rfl
theorem ev_tand : fTAnd t u s A = (t s A).bind fun b A1 => if b = true then u s A1 else .ok false A1 := rfl
theorem ev_tor : fTOr t u s A = (t s A).bind fun b A1 => if b = true then .ok true A1 else u s A1 := rfl
theorem ev_mt {T : String} {gm : D → FM} : fMt T gm f fs s A = (f s A).bind fun d A1 => if isTy T d A1 = true then (fs s A1).bind fun ds A2 => gm d ds A2 else .bad := rfl
theorem ev_mt0 {T : String} {gm : D → FM} : fMt0 T gm f s A = (f s A).bind fun d A1 => if isTy T d A1 = true then gm d [] A1 else .bad := rfl
theorem ev_rgd {k : Int → Int → AH → Res D} : rgD f g k s A = (f s A).bind fun d A1 => (g s A1).bind fun e A2 => match d, e with
  | .int i, .int j => k i j A2
  | _, _ => .bad := rfl
theorem ev_set : fSet f i s A = (f s A).bind fun d A1 => .ok (.nx (s.set i (some d))) A1 := rfl
theorem ev_asg : fAsg f gg s A = (f s A).bind fun d A1 => (gg d s A1).bind fun s' A2 => .ok (.nx s') A2 := rfl
theorem ev_ret : fRet f s A = (f s A).bind fun d A1 => .ok (.rt d) A1 := rfl
theorem ev_retN : fRetN s A = .ok (.rt .non) A := rfl
theorem ev_ex : fEx f s A = (f s A).bind fun _ A1 => .ok (.nx s) A1 := rfl
theorem ev_pass : fPass s A = .ok (.nx s) A := rfl
theorem ev_brk : fBrk s A = .ok (.bk s) A := rfl
theorem ev_cont : fCont s A = .ok (.ct s) A := rfl
theorem ev_ifS : fIfS c p q s A = (c s A).bind fun b A1 => if b = true then p s A1 else q s A1 := rfl
theorem ev_aug {x : D} (e : s[i]? = some (some x)) : fAug i f go s A = (f s A).bind fun y A1 => (go x y A1).bind fun z A2 => .ok (.nx (s.set i (some z))) A2 := by unfold fAug; rw [e]
theorem ev_gn : gN i d s A = .ok (s.set i (some d)) A := rfl
theorem ev_gtp : gTp n gs (.tup ds) s A = if ds.length = n then gs ds s A else .bad := rfl
theorem ev_gnl : gNl [] s A = .ok s A := rfl
theorem ev_gcs : gCs gg gs (d :: ds) s A = (gg d s A).bind fun s1 A1 => gs ds s1 A1 := rfl
theorem ev_gsb : gSb f g d s A = (f s A).bind fun o A1 => (g s A1).bind fun i A2 => (stD o i d A2).bind fun _ A3 => .ok s A3 := rfl
theorem ev_for {src : FI} : fFor src gg p s A = (src s A).bind fun S A1 => loopD S.ok gg p S.items s A1 := rfl
theorem ev_rg1 : fRg1 f s A = (f s A).bind fun d A1 => match d with
  | .int j => if InRg j then .ok ⟨rngL 0 j.toNat, yes⟩ A1 else .bad
  | _ => .bad := rfl
theorem ev_rg2 : fRg2 f g s A = (f s A).bind fun d A1 => (g s A1).bind fun e A2 => match d, e with
  | .int i, .int j => if InRg i ∧ InRg j then .ok ⟨rngL i (j - i).toNat, yes⟩ A2 else .bad
  | _, _ => .bad := rfl
theorem inRg_nat {n : Nat} (h : n ≤ 1000000000) : InRg (n : Int) := ⟨by omega, by omega⟩
theorem inRg_of {n : Int} (h : -1000000000000 ≤ n) (h' : n ≤ 1000000000000) : InRg n := ⟨by omega, by omega⟩
theorem ev_its : fItS f s A = (f s A).bind iSeq := rfl
theorem ev_enum : fEnum f s A = (f s A).bind fun d A1 => match rdL A1 d with
  | some ds => .ok ⟨enumL 0 ds, fun A' => rdL A' d = some ds⟩ A1
  | none => .bad := rfl
theorem ev_lc {src : FI} {vs : List Nat} : fLc src gg t f vs s A = (src s A).bind fun S A1 => loopC S.ok gg t f A1.length (wipeA s vs) S.items (A1 ++ [.lst []]) := rfl
theorem ev_yes : fYes s A = .ok true A := rfl
/-! ### operators on known data -/
theorem ev_add_ii {i j : Int} : addD (.int i) (.int j) A = .ok (.int (i + j)) A := rfl
theorem ev_add_ss {x y : Str} (h : x.length + y.length ≤ sizeLine) : addD (.str x) (.str y) A = .ok (.str (x ++ y)) A := if_pos h
theorem ev_add_tt {x y : List D} (h : x.length + y.length ≤ sizeLine) : addD (.tup x) (.tup y) A = .ok (.tup (x ++ y)) A := if_pos h
theorem ev_add_rr {i j : Nat} {xs ys : List D} (h : muL A (.ref i) = some xs) (h' : muL A (.ref j) = some ys) (z : xs.length + ys.length ≤ sizeLine) : addD (.ref i) (.ref j) A = .ok (.ref A.length) (A ++ [.lst (xs ++ ys)]) := by
  show (match muL A (.ref i), muL A (.ref j) with
    | some xs, some ys => if xs.length + ys.length ≤ sizeLine then alloc (.lst (xs ++ ys)) A else .bad
    | _, _ => .bad) = _
  rw [h, h']
  exact if_pos z
theorem ev_sub {i j : Int} : subD (.int i) (.int j) A = .ok (.int (i - j)) A := rfl
theorem ev_mul {i j : Int} (h : mulOk i j) : mulD (.int i) (.int j) A = .ok (.int (i * j)) A := if_pos h
theorem ev_mod {i j : Int} (h : 0 < j) : modD (.int i) (.int j) A = .ok (.int (i % j)) A := if_pos h
theorem ev_fdiv {i j : Int} (h : CDivW i j) : fdivD (.int i) (.int j) A = .ok (.int (i / j)) A := if_pos h
theorem ev_pow {i j : Int} (h : CPow i j) : powD (.int i) (.int j) A = .ok (.int (i ^ j.toNat)) A := if_pos h
theorem ev_neg {i : Int} : negD (.int i) A = .ok (.int (-i)) A := rfl
theorem ev_lt {i j : Int} : ltD (.int i) (.int j) A = .ok (.bl (decide (i < j))) A := rfl
theorem ev_le {i j : Int} : leD (.int i) (.int j) A = .ok (.bl (decide (i ≤ j))) A := rfl
theorem ev_gt {i j : Int} : gtD (.int i) (.int j) A = .ok (.bl (decide (j < i))) A := rfl
theorem ev_ge {i j : Int} : geD (.int i) (.int j) A = .ok (.bl (decide (j ≤ i))) A := rfl
theorem ev_eq_ii {i j : Int} : eqD (.int i) (.int j) A = .ok (.bl (decide (i = j))) A := rfl
theorem ev_eq_ss {i j : Str} : eqD (.str i) (.str j) A = .ok (.bl (decide (i = j))) A := rfl
theorem ev_eq_bb {i j : Bool} : eqD (.bl i) (.bl j) A = .ok (.bl (decide (i = j))) A := rfl
theorem ev_ne_ii {i j : Int} : neD (.int i) (.int j) A = .ok (.bl (!decide (i = j))) A := rfl
theorem ev_ne_ss {i j : Str} : neD (.str i) (.str j) A = .ok (.bl (!decide (i = j))) A := rfl
theorem ev_ne_bb {i j : Bool} : neD (.bl i) (.bl j) A = .ok (.bl (!decide (i = j))) A := rfl
theorem ev_is_n : isD d .non A = .ok (.bl (isNon d)) A := by cases d <;> rfl
theorem ev_isnt_n : isntD d .non A = .ok (.bl (!isNon d)) A := by cases d <;> rfl
theorem ev_int_i {i : Int} : intD [.int i] A = .ok (.int i) A := rfl
theorem ev_int_b {i : Bool} : intD [.bl i] A = .ok (.int (if i then 1 else 0)) A := rfl
theorem ev_min_ii {i j : Int} : minD [.int i, .int j] A = .ok (.int (if j < i then j else i)) A := rfl
theorem ev_max_ii {i j : Int} : maxD [.int i, .int j] A = .ok (.int (if j > i then j else i)) A := rfl
theorem ev_abs {i : Int} : absD [.int i] A = .ok (.int (if i < 0 then -i else i)) A := rfl
theorem ev_tup_of : Ab.tupOf [D.tup ds] A = .ok (.tup ds) A := rfl
theorem ev_tup_ofL (h : rdL A (.ref n) = some ds) : Ab.tupOf [D.ref n] A = .ok (.tup ds) A := by
  show (match rdL A (.ref n) with
    | some xs => Res.ok (D.tup xs) A
    | none => .bad) = _
  rw [h]
theorem ev_lst_ofT : lstOf [.tup ds] A = .ok (.ref A.length) (A ++ [.lst ds]) := rfl
theorem ev_lst_ofL (h : rdL A (.ref n) = some ds) : lstOf [.ref n] A = .ok (.ref A.length) (A ++ [.lst ds]) := by
  show (match rdS A (.ref n) with
    | some xs => alloc (.lst xs) A
    | none => _) = _
  rw [show rdS A (.ref n) = some ds from h]
  rfl
theorem ev_len_t : lenD [.tup ds] A = .ok (.int ds.length) A := rfl
theorem ev_len_s {x : Str} (h : x.length ≤ sizeLine) : lenD [.str x] A = .ok (.int x.length) A := if_pos h
theorem ev_len_r (h : rdL A (.ref n) = some ds) : lenD [.ref n] A = .ok (.int ds.length) A := by
  show (match rdS A (.ref n) with
    | some xs => Res.ok (D.int xs.length) A
    | none => _) = _
  rw [show rdS A (.ref n) = some ds from h]
theorem atI_pos {α : Type} {xs : List α} {i : Int} (h : 0 ≤ i) : L2.atI xs i = xs[i.toNat]? := by
  unfold L2.atI ixN
  rw [if_pos h]
  by_cases hl : i < xs.length
  · rw [if_pos hl]; rfl
  · rw [if_neg hl]
    show none = _
    rw [List.getElem?_eq_none (by omega)]
theorem ev_ix_t {k : Int} {x : D} (h : L2.atI ds k = some x) : ixD (.tup ds) (D.int k) A = .ok x A := by
  show ixSeq ds k A = _
  unfold ixSeq
  rw [h]
theorem ev_ix_r {k : Int} {x : D} (h : rdL A (.ref n) = some ds) (h2 : L2.atI ds k = some x) : ixD (.ref n) (.int k) A = .ok x A := by
  show (match rdS A (.ref n) with
    | some xs => ixSeq xs k A
    | none => _) = _
  rw [show rdS A (.ref n) = some ds from h]
  show ixSeq ds k A = _
  unfold ixSeq
  rw [h2]
theorem ev_ix_s {z : Str} {k : Int} {c : Nat} (h : z.length ≤ sizeLine) (h2 : L2.atI z.cps.toList k = some c) : ixD (.str z) (.int k) A = .ok (.str ⟨#[c]⟩) A := by
  show (if z.length ≤ sizeLine then (match L2.atI z.cps.toList k with | some c => Res.ok (D.str ⟨#[c]⟩) A | none => .bad) else .bad) = _
  rw [if_pos h, h2]
theorem ev_st_l {xs : List D} {k : Int} {j : Nat} (h : A[n]? = some (.lst xs)) (h2 : ixN xs.length k = some j) : stD (.ref n) (.int k) d A = .ok () (A.set n (.lst (xs.set j d))) := by
  show (match A[n]? with
    | some (.lst xs) => _
    | some (.dic kvs) => _
    | _ => _) = _
  rw [h]
  show (match ixN xs.length k with
    | some j => Res.ok () (A.set n (.lst (xs.set j d)))
    | none => .bad) = _
  rw [h2]
theorem rdL_l {xs : List D} (h : A[n]? = some (.lst xs)) : rdL A (.ref n) = some xs := by
  show (match A[n]? with
    | some (.lst xs) => some xs
    | some (.frz xs) => some xs
    | _ => none) = _
  rw [h]
theorem rdL_f {xs : List D} (h : A[n]? = some (.frz xs)) : rdL A (.ref n) = some xs := by
  show (match A[n]? with
    | some (.lst xs) => some xs
    | some (.frz xs) => some xs
    | _ => none) = _
  rw [h]
theorem muL_l {xs : List D} (h : A[n]? = some (.lst xs)) : muL A (.ref n) = some xs := by
  show (match A[n]? with
    | some (.lst xs) => some xs
    | _ => none) = _
  rw [h]
theorem mulOk_l {i j : Int} (h1 : -(2 ^ 64) < i) (h2 : i < 2 ^ 64) : mulOk i j := .inl (.inl ⟨h1, h2⟩)
theorem mulOk_r {i j : Int} (h1 : -(2 ^ 64) < j) (h2 : j < 2 ^ 64) : mulOk i j := .inl (.inr ⟨h1, h2⟩)
theorem divOk {i j : Int} (h1 : 0 < j) (h2 : j < 2 ^ 200) : CDivW i j := wide_div (b := 200) h1 (by omega) (by decide) (by decide)
theorem powOk {i j : Int} (h1 : 0 ≤ j) (h2 : j ≤ 1000000) (h3 : i.natAbs < 2 ^ 64) : CPow i j := ⟨h1, h2, h3⟩
theorem ev_alloc {o : AO} : Ab.alloc o A = .ok (.ref A.length) (A ++ [o]) := rfl
theorem ev_tupD (h : ds.length ≤ 10000) : tupD ds A = .ok (.tup ds) A := if_pos (Nat.le_trans h (by decide))
theorem ev_lstD (h : ds.length ≤ 10000) : lstD ds A = .ok (.ref A.length) (A ++ [.lst ds]) := if_pos (Nat.le_trans h (by decide))
theorem sl_le {n : Nat} (h : n ≤ 16777216) : n ≤ sizeLine := h
theorem ev_tru_b {b : Bool} : tru (.bl b) A = .ok b A := rfl
end

/-! ### isinstance -/
theorem isi_tuple_non  {A : AH} : isiD "tuple" (.non) A = .ok (.bl false) A := by
  show (match kitB "NoneType" "tuple" with | some b => Res.ok (D.bl b) A | none => .bad) = _
  rw [show kitB "NoneType" "tuple" = some false by decide +kernel]
theorem isi_tuple_bl {b : Bool} {A : AH} : isiD "tuple" (.bl b) A = .ok (.bl false) A := by
  show (match kitB "bool" "tuple" with | some b => Res.ok (D.bl b) A | none => .bad) = _
  rw [show kitB "bool" "tuple" = some false by decide +kernel]
theorem isi_tuple_int {i : Int} {A : AH} : isiD "tuple" (.int i) A = .ok (.bl false) A := by
  show (match kitB "int" "tuple" with | some b => Res.ok (D.bl b) A | none => .bad) = _
  rw [show kitB "int" "tuple" = some false by decide +kernel]
theorem isi_tuple_str {x : Str} {A : AH} : isiD "tuple" (.str x) A = .ok (.bl false) A := by
  show (match kitB "str" "tuple" with | some b => Res.ok (D.bl b) A | none => .bad) = _
  rw [show kitB "str" "tuple" = some false by decide +kernel]
theorem isi_tuple_tup {ds : List D} {A : AH} : isiD "tuple" (.tup ds) A = .ok (.bl true) A := by
  show (match kitB "tuple" "tuple" with | some b => Res.ok (D.bl b) A | none => .bad) = _
  rw [show kitB "tuple" "tuple" = some true by decide +kernel]
theorem isi_tuple_l {A : AH} {n : Nat} {xs : List D} (h : A[n]? = some (.lst xs)) : isiD "tuple" (.ref n) A = .ok (.bl false) A := by
  unfold isiD
  rw [show tyN A (.ref n) = some "list" by simp only [tyN, h]]
  show (match kitB "list" "tuple" with | some b => Res.ok (D.bl b) A | none => .bad) = _
  rw [show kitB "list" "tuple" = some false by decide +kernel]
theorem isi_tuple_f {A : AH} {n : Nat} {xs : List D} (h : A[n]? = some (.frz xs)) : isiD "tuple" (.ref n) A = .ok (.bl false) A := by
  unfold isiD
  rw [show tyN A (.ref n) = some "list" by simp only [tyN, h]]
  show (match kitB "list" "tuple" with | some b => Res.ok (D.bl b) A | none => .bad) = _
  rw [show kitB "list" "tuple" = some false by decide +kernel]
theorem isi_list_non  {A : AH} : isiD "list" (.non) A = .ok (.bl false) A := by
  show (match kitB "NoneType" "list" with | some b => Res.ok (D.bl b) A | none => .bad) = _
  rw [show kitB "NoneType" "list" = some false by decide +kernel]
theorem isi_list_bl {b : Bool} {A : AH} : isiD "list" (.bl b) A = .ok (.bl false) A := by
  show (match kitB "bool" "list" with | some b => Res.ok (D.bl b) A | none => .bad) = _
  rw [show kitB "bool" "list" = some false by decide +kernel]
theorem isi_list_int {i : Int} {A : AH} : isiD "list" (.int i) A = .ok (.bl false) A := by
  show (match kitB "int" "list" with | some b => Res.ok (D.bl b) A | none => .bad) = _
  rw [show kitB "int" "list" = some false by decide +kernel]
theorem isi_list_str {x : Str} {A : AH} : isiD "list" (.str x) A = .ok (.bl false) A := by
  show (match kitB "str" "list" with | some b => Res.ok (D.bl b) A | none => .bad) = _
  rw [show kitB "str" "list" = some false by decide +kernel]
theorem isi_list_tup {ds : List D} {A : AH} : isiD "list" (.tup ds) A = .ok (.bl false) A := by
  show (match kitB "tuple" "list" with | some b => Res.ok (D.bl b) A | none => .bad) = _
  rw [show kitB "tuple" "list" = some false by decide +kernel]
theorem isi_list_l {A : AH} {n : Nat} {xs : List D} (h : A[n]? = some (.lst xs)) : isiD "list" (.ref n) A = .ok (.bl true) A := by
  unfold isiD
  rw [show tyN A (.ref n) = some "list" by simp only [tyN, h]]
  show (match kitB "list" "list" with | some b => Res.ok (D.bl b) A | none => .bad) = _
  rw [show kitB "list" "list" = some true by decide +kernel]
theorem isi_list_f {A : AH} {n : Nat} {xs : List D} (h : A[n]? = some (.frz xs)) : isiD "list" (.ref n) A = .ok (.bl true) A := by
  unfold isiD
  rw [show tyN A (.ref n) = some "list" by simp only [tyN, h]]
  show (match kitB "list" "list" with | some b => Res.ok (D.bl b) A | none => .bad) = _
  rw [show kitB "list" "list" = some true by decide +kernel]
theorem isi_bool_non  {A : AH} : isiD "bool" (.non) A = .ok (.bl false) A := by
  show (match kitB "NoneType" "bool" with | some b => Res.ok (D.bl b) A | none => .bad) = _
  rw [show kitB "NoneType" "bool" = some false by decide +kernel]
theorem isi_bool_bl {b : Bool} {A : AH} : isiD "bool" (.bl b) A = .ok (.bl true) A := by
  show (match kitB "bool" "bool" with | some b => Res.ok (D.bl b) A | none => .bad) = _
  rw [show kitB "bool" "bool" = some true by decide +kernel]
theorem isi_bool_int {i : Int} {A : AH} : isiD "bool" (.int i) A = .ok (.bl false) A := by
  show (match kitB "int" "bool" with | some b => Res.ok (D.bl b) A | none => .bad) = _
  rw [show kitB "int" "bool" = some false by decide +kernel]
theorem isi_bool_str {x : Str} {A : AH} : isiD "bool" (.str x) A = .ok (.bl false) A := by
  show (match kitB "str" "bool" with | some b => Res.ok (D.bl b) A | none => .bad) = _
  rw [show kitB "str" "bool" = some false by decide +kernel]
theorem isi_bool_tup {ds : List D} {A : AH} : isiD "bool" (.tup ds) A = .ok (.bl false) A := by
  show (match kitB "tuple" "bool" with | some b => Res.ok (D.bl b) A | none => .bad) = _
  rw [show kitB "tuple" "bool" = some false by decide +kernel]
theorem isi_bool_l {A : AH} {n : Nat} {xs : List D} (h : A[n]? = some (.lst xs)) : isiD "bool" (.ref n) A = .ok (.bl false) A := by
  unfold isiD
  rw [show tyN A (.ref n) = some "list" by simp only [tyN, h]]
  show (match kitB "list" "bool" with | some b => Res.ok (D.bl b) A | none => .bad) = _
  rw [show kitB "list" "bool" = some false by decide +kernel]
theorem isi_bool_f {A : AH} {n : Nat} {xs : List D} (h : A[n]? = some (.frz xs)) : isiD "bool" (.ref n) A = .ok (.bl false) A := by
  unfold isiD
  rw [show tyN A (.ref n) = some "list" by simp only [tyN, h]]
  show (match kitB "list" "bool" with | some b => Res.ok (D.bl b) A | none => .bad) = _
  rw [show kitB "list" "bool" = some false by decide +kernel]
theorem isi_int_non  {A : AH} : isiD "int" (.non) A = .ok (.bl false) A := by
  show (match kitB "NoneType" "int" with | some b => Res.ok (D.bl b) A | none => .bad) = _
  rw [show kitB "NoneType" "int" = some false by decide +kernel]
theorem isi_int_bl {b : Bool} {A : AH} : isiD "int" (.bl b) A = .ok (.bl true) A := by
  show (match kitB "bool" "int" with | some b => Res.ok (D.bl b) A | none => .bad) = _
  rw [show kitB "bool" "int" = some true by decide +kernel]
theorem isi_int_int {i : Int} {A : AH} : isiD "int" (.int i) A = .ok (.bl true) A := by
  show (match kitB "int" "int" with | some b => Res.ok (D.bl b) A | none => .bad) = _
  rw [show kitB "int" "int" = some true by decide +kernel]
theorem isi_int_str {x : Str} {A : AH} : isiD "int" (.str x) A = .ok (.bl false) A := by
  show (match kitB "str" "int" with | some b => Res.ok (D.bl b) A | none => .bad) = _
  rw [show kitB "str" "int" = some false by decide +kernel]
theorem isi_int_tup {ds : List D} {A : AH} : isiD "int" (.tup ds) A = .ok (.bl false) A := by
  show (match kitB "tuple" "int" with | some b => Res.ok (D.bl b) A | none => .bad) = _
  rw [show kitB "tuple" "int" = some false by decide +kernel]
theorem isi_int_l {A : AH} {n : Nat} {xs : List D} (h : A[n]? = some (.lst xs)) : isiD "int" (.ref n) A = .ok (.bl false) A := by
  unfold isiD
  rw [show tyN A (.ref n) = some "list" by simp only [tyN, h]]
  show (match kitB "list" "int" with | some b => Res.ok (D.bl b) A | none => .bad) = _
  rw [show kitB "list" "int" = some false by decide +kernel]
theorem isi_int_f {A : AH} {n : Nat} {xs : List D} (h : A[n]? = some (.frz xs)) : isiD "int" (.ref n) A = .ok (.bl false) A := by
  unfold isiD
  rw [show tyN A (.ref n) = some "list" by simp only [tyN, h]]
  show (match kitB "list" "int" with | some b => Res.ok (D.bl b) A | none => .bad) = _
  rw [show kitB "list" "int" = some false by decide +kernel]
theorem isi_str_non  {A : AH} : isiD "str" (.non) A = .ok (.bl false) A := by
  show (match kitB "NoneType" "str" with | some b => Res.ok (D.bl b) A | none => .bad) = _
  rw [show kitB "NoneType" "str" = some false by decide +kernel]
theorem isi_str_bl {b : Bool} {A : AH} : isiD "str" (.bl b) A = .ok (.bl false) A := by
  show (match kitB "bool" "str" with | some b => Res.ok (D.bl b) A | none => .bad) = _
  rw [show kitB "bool" "str" = some false by decide +kernel]
theorem isi_str_int {i : Int} {A : AH} : isiD "str" (.int i) A = .ok (.bl false) A := by
  show (match kitB "int" "str" with | some b => Res.ok (D.bl b) A | none => .bad) = _
  rw [show kitB "int" "str" = some false by decide +kernel]
theorem isi_str_str {x : Str} {A : AH} : isiD "str" (.str x) A = .ok (.bl true) A := by
  show (match kitB "str" "str" with | some b => Res.ok (D.bl b) A | none => .bad) = _
  rw [show kitB "str" "str" = some true by decide +kernel]
theorem isi_str_tup {ds : List D} {A : AH} : isiD "str" (.tup ds) A = .ok (.bl false) A := by
  show (match kitB "tuple" "str" with | some b => Res.ok (D.bl b) A | none => .bad) = _
  rw [show kitB "tuple" "str" = some false by decide +kernel]
theorem isi_str_l {A : AH} {n : Nat} {xs : List D} (h : A[n]? = some (.lst xs)) : isiD "str" (.ref n) A = .ok (.bl false) A := by
  unfold isiD
  rw [show tyN A (.ref n) = some "list" by simp only [tyN, h]]
  show (match kitB "list" "str" with | some b => Res.ok (D.bl b) A | none => .bad) = _
  rw [show kitB "list" "str" = some false by decide +kernel]
theorem isi_str_f {A : AH} {n : Nat} {xs : List D} (h : A[n]? = some (.frz xs)) : isiD "str" (.ref n) A = .ok (.bl false) A := by
  unfold isiD
  rw [show tyN A (.ref n) = some "list" by simp only [tyN, h]]
  show (match kitB "list" "str" with | some b => Res.ok (D.bl b) A | none => .bad) = _
  rw [show kitB "list" "str" = some false by decide +kernel]
theorem isi_dict_non  {A : AH} : isiD "dict" (.non) A = .ok (.bl false) A := by
  show (match kitB "NoneType" "dict" with | some b => Res.ok (D.bl b) A | none => .bad) = _
  rw [show kitB "NoneType" "dict" = some false by decide +kernel]
theorem isi_dict_bl {b : Bool} {A : AH} : isiD "dict" (.bl b) A = .ok (.bl false) A := by
  show (match kitB "bool" "dict" with | some b => Res.ok (D.bl b) A | none => .bad) = _
  rw [show kitB "bool" "dict" = some false by decide +kernel]
theorem isi_dict_int {i : Int} {A : AH} : isiD "dict" (.int i) A = .ok (.bl false) A := by
  show (match kitB "int" "dict" with | some b => Res.ok (D.bl b) A | none => .bad) = _
  rw [show kitB "int" "dict" = some false by decide +kernel]
theorem isi_dict_str {x : Str} {A : AH} : isiD "dict" (.str x) A = .ok (.bl false) A := by
  show (match kitB "str" "dict" with | some b => Res.ok (D.bl b) A | none => .bad) = _
  rw [show kitB "str" "dict" = some false by decide +kernel]
theorem isi_dict_tup {ds : List D} {A : AH} : isiD "dict" (.tup ds) A = .ok (.bl false) A := by
  show (match kitB "tuple" "dict" with | some b => Res.ok (D.bl b) A | none => .bad) = _
  rw [show kitB "tuple" "dict" = some false by decide +kernel]
theorem isi_dict_l {A : AH} {n : Nat} {xs : List D} (h : A[n]? = some (.lst xs)) : isiD "dict" (.ref n) A = .ok (.bl false) A := by
  unfold isiD
  rw [show tyN A (.ref n) = some "list" by simp only [tyN, h]]
  show (match kitB "list" "dict" with | some b => Res.ok (D.bl b) A | none => .bad) = _
  rw [show kitB "list" "dict" = some false by decide +kernel]
theorem isi_dict_f {A : AH} {n : Nat} {xs : List D} (h : A[n]? = some (.frz xs)) : isiD "dict" (.ref n) A = .ok (.bl false) A := by
  unfold isiD
  rw [show tyN A (.ref n) = some "list" by simp only [tyN, h]]
  show (match kitB "list" "dict" with | some b => Res.ok (D.bl b) A | none => .bad) = _
  rw [show kitB "list" "dict" = some false by decide +kernel]
/-! ## loops -/
theorem loop_nil {ok : AH → Prop} {g : FG} {p : FS} {s : ASt} {A : AH} (h : ok A) : loopD ok g p [] s A = .ok (.nx s) A := by
  unfold loopD; rw [if_pos h]
/-- what a turn's end leads to -/
def turn_ (k : ASt → AH → Prop) (P : Fl → AH → Prop) : Fl → AH → Prop
  | .nx s, A => k s A
  | .ct s, A => k s A
  | .bk s, A => P (.nx s) A
  | .rt d, A => P (.rt d) A
theorem loop_cons {ok : AH → Prop} {g : FG} {p : FS} {d : D} {ds : List D} {s : ASt} {A : AH} {P : Fl → AH → Prop} (h : ok A) :
    Sat (loopD ok g p (d :: ds) s A) P = Sat (g d s A) fun s1 A1 => Sat (p s1 A1) (turn_ (fun s2 A2 => Sat (loopD ok g p ds s2 A2) P) P) := by
  rw [loopD, if_pos h, sat_bind]
  congr 1
  funext s1 A1
  cases p s1 A1 with
  | ok fl A2 => cases fl <;> rfl
  | _ => rfl
/-- a for by an invariant over the items that are left -/
theorem loop_inv {ok : AH → Prop} {g : FG} {p : FS} {P : Fl → AH → Prop} (I : List D → ASt → AH → Prop)
    (turn : ∀ d ds s A, I (d :: ds) s A → ok A ∧ Sat (g d s A) fun s1 A1 => Sat (p s1 A1) (turn_ (I ds) P)) (last : ∀ s A, I [] s A → ok A ∧ P (.nx s) A) :
    ∀ (ds : List D) (s : ASt) (A : AH), I ds s A → Sat (loopD ok g p ds s A) P
  | [], s, A, h => by
    rw [loop_nil (last s A h).1]
    exact (last s A h).2
  | d :: ds, s, A, h => by
    obtain ⟨h1, h2⟩ := turn d ds s A h
    rw [loop_cons h1]
    refine h2.imp fun s1 A1 h3 => h3.imp fun fl A2 h4 => ?_
    cases fl with
    | nx s2 => exact loop_inv I turn last ds s2 A2 h4
    | ct s2 => exact loop_inv I turn last ds s2 A2 h4
    | bk s2 => exact h4
    | rt d => exact h4
/-- a for over a range by an invariant over the turns -/
theorem range_inv {g : FG} {p : FS} {P : Fl → AH → Prop} {lo : Int} {n : Nat} (I : Nat → ASt → AH → Prop)
    (turn : ∀ k s A, k < n → I k s A → Sat (g (.int (lo + (k : Nat))) s A) fun s1 A1 => Sat (p s1 A1) (turn_ (I (k + 1)) P)) (last : ∀ s A, I n s A → P (.nx s) A)
    {s : ASt} {A : AH} (h : I 0 s A) : Sat (loopD yes g p (rngL lo n) s A) P := by
  have e : rngL lo n = (List.range' 0 n).map fun k => .int (lo + (k : Nat)) := by rw [← List.range_eq_range']; rfl
  have key : ∀ (m k : Nat) (s : ASt) (A : AH), k + m = n → I k s A → Sat (loopD yes g p ((List.range' k m).map fun k => .int (lo + (k : Nat))) s A) P := by
    intro m
    induction m with
    | zero => intro k s A hk h; rw [show k = n by omega] at h; rw [List.range'_zero, List.map_nil, loop_nil trivial]; exact last s A h
    | succ m ih =>
      intro k s A hk h
      rw [List.range'_succ, List.map_cons, loop_cons trivial]
      refine (turn k s A (by omega) h).imp fun s1 A1 h3 => h3.imp fun fl A2 h4 => ?_
      cases fl with
      | nx s2 => exact ih (k + 1) s2 A2 (by omega) h4
      | ct s2 => exact ih (k + 1) s2 A2 (by omega) h4
      | bk s2 => exact h4
      | rt d => exact h4
  rw [e]
  exact key n 0 s A (by omega) h
end Ab

namespace Ab
open PySem PySem.Spec PyProof.Rows L2
open scoped Classical

/-! ## what the drawing helpers of the laws leave -/
/-- at s stands a source of drawn numbers -/
def Sr (s : Nat) (A : AH) : Prop := ∃ c r k : Int, A[s]? = some (.lst [.int c, .int r, .int k])
/-- all cells but the source are as they were; new ones may have come -/
structure Dr (s : Nat) (A A' : AH) : Prop where
  le : A.length ≤ A'.length
  keep : ∀ i o, i ≠ s → A[i]? = some o → A'[i]? = some o
  src : Sr s A'
theorem Dr.refl {s : Nat} {A : AH} (h : Sr s A) : Dr s A A := ⟨Nat.le_refl _, fun _ _ _ h => h, h⟩
theorem Dr.trans {s : Nat} {A B C : AH} (h : Dr s A B) (h' : Dr s B C) : Dr s A C := ⟨Nat.le_trans h.le h'.le, fun i o n e => h'.keep i o n (h.keep i o n e), h'.src⟩
theorem Sr.lt {s : Nat} {A : AH} (h : Sr s A) : s < A.length := by
  obtain ⟨c, r, k, h⟩ := h
  exact (List.getElem?_eq_some_iff.mp h).1
theorem Dr.app {s : Nat} {A : AH} (h : Sr s A) (B : AH) : Dr s A (A ++ B) := by
  have app : ∀ (i : Nat) o, A[i]? = some o → (A ++ B)[i]? = some o := fun i o e => by
    rw [List.getElem?_append_left (List.getElem?_eq_some_iff.mp e).1]; exact e
  obtain ⟨c, r, k, h⟩ := h
  exact ⟨by simp, fun i o _ e => app i o e, c, r, k, app s _ h⟩
theorem Dr.set {s : Nat} {A : AH} {c r k : Int} (h : s < A.length) : Dr s A (A.set s (.lst [.int c, .int r, .int k])) :=
  ⟨by simp, fun i o n e => by rw [List.getElem?_set_ne (Ne.symm n)]; exact e, c, r, k, List.getElem?_set_self h⟩
/-- a drawing helper that hands back what P says -/
def DrwS (s : Nat) (A : AH) (r : Res D) (P : D → Prop) : Prop := Sat r fun d A' => P d ∧ Dr s A A'
theorem DrwS.imp {s : Nat} {A : AH} {r : Res D} {P Q : D → Prop} (h : DrwS s A r P) (q : ∀ d, P d → Q d) : DrwS s A r Q := Sat.imp h fun d A' ⟨h1, h2⟩ => ⟨q d h1, h2⟩
/-- the number from 0 on, below n (0 where n is below 1) -/
def Below (n : Int) (d : D) : Prop := ∃ v, d = .int v ∧ 0 ≤ v ∧ (v < n ∨ v = 0)

/-- all cells are as they were; new ones may have come -/
structure Gr (A A' : AH) : Prop where
  le : A.length ≤ A'.length
  keep : ∀ (i : Nat) o, A[i]? = some o → A'[i]? = some o
section
variable {A B C : AH} {s r : Nat} {o : AO}
theorem at_lt (h : A[r]? = some o) : r < A.length := (List.getElem?_eq_some_iff.mp h).1
theorem at_new : (A ++ [o])[A.length]? = some o := List.getElem?_concat_length ..
theorem at_set (h : r < A.length) : (A.set r o)[r]? = some o := List.getElem?_set_self h
theorem Gr.refl : Gr A A := ⟨Nat.le_refl _, fun _ _ h => h⟩
theorem Gr.trans (h : Gr A B) (h' : Gr B C) : Gr A C := ⟨Nat.le_trans h.le h'.le, fun i o e => h'.keep i o (h.keep i o e)⟩
theorem Gr.app : Gr A (A ++ B) := ⟨by simp, fun i o e => by rw [List.getElem?_append_left (at_lt e)]; exact e⟩
theorem Gr.set (h : Gr A B) (hr : A.length ≤ r) : Gr A (B.set r o) := ⟨by simpa using h.le, fun i o' e => by
  have := at_lt e
  rw [List.getElem?_set_ne (by omega)]; exact h.keep i o' e⟩
theorem Gr.dr (h : Gr A B) (hs : Sr s A) : Dr s A B := ⟨h.le, fun i o _ e => h.keep i o e, by obtain ⟨c, r, k, e⟩ := hs; exact ⟨c, r, k, h.keep _ _ e⟩⟩
theorem Sr.gr (h : Gr A B) (hs : Sr s A) : Sr s B := (h.dr hs).src
theorem Dr.setN (h : Dr s A B) (hr : A.length ≤ r) (hs : Sr s A) : Dr s A (B.set r o) := ⟨by simpa using h.le, fun i o' n e => by
  have := at_lt e
  rw [List.getElem?_set_ne (by omega)]; exact h.keep i o' n e, by
    obtain ⟨c, q, k, e⟩ := h.src
    have := hs.lt
    exact ⟨c, q, k, by rw [List.getElem?_set_ne (by omega)]; exact e⟩⟩
/-- a list's display by an invariant over the items that are left and the list so far -/
theorem comp_inv {ok : AH → Prop} {g : FG} {t : FT} {f : FE} {n : Nat} {s : ASt} {P : D → AH → Prop} (I : List D → List D → AH → Prop)
    (turn : ∀ d ds acc A, I (d :: ds) acc A → ok A ∧ Sat (g d s A) fun s1 A1 => Sat (t s1 A1) fun b A2 => if b = true then Sat (f s1 A2) fun y A3 => A3[n]? = some (.lst acc) ∧ acc.length < sizeLine ∧ I ds (acc ++ [y]) (A3.set n (.lst (acc ++ [y]))) else I ds acc A2)
    (last : ∀ acc A, I [] acc A → ok A ∧ P (.ref n) A) : ∀ (ds acc : List D) (A : AH), I ds acc A → Sat (loopC ok g t f n s ds A) P
  | [], acc, A, h => by
    rw [loopC, if_pos (last acc A h).1]
    exact (last acc A h).2
  | d :: ds, acc, A, h => by
    obtain ⟨h1, h2⟩ := turn d ds acc A h
    rw [loopC, if_pos h1, sat_bind]
    refine h2.imp fun s1 A1 h3 => ?_
    rw [sat_bind]
    refine h3.imp fun b A2 h4 => ?_
    cases b with
    | true =>
      rw [if_pos rfl, sat_bind]
      rw [if_pos rfl] at h4
      refine h4.imp fun y A3 ⟨h5, h6, h7⟩ => ?_
      simp only [h5]
      rw [if_pos h6]
      exact comp_inv I turn last ds _ _ h7
    | false =>
      rw [if_neg Bool.false_ne_true]
      rw [if_neg Bool.false_ne_true] at h4
      exact comp_inv I turn last ds _ _ h4
/-- a list's display of values that need no cell -/
theorem comp_pure {α : Type} {ok : AH → Prop} {g : FG} {f : FE} {s : ASt} {P : D → AH → Prop} {qs : List α} (c : α → D) (F : α → D)
    (hok : ∀ l, ok (A ++ [.lst l])) (hf : ∀ q ∈ qs, ∀ l, Sat (g (c q) s (A ++ [.lst l])) fun s1 A1 => Sat (f s1 A1) fun y A3 => y = F q ∧ A3 = A ++ [.lst l]) (hl : qs.length ≤ 1000000)
    (hP : P (.ref A.length) (A ++ [.lst (qs.map F)])) : Sat (loopC ok g fYes f A.length s (qs.map c) (A ++ [.lst []])) P := by
  refine comp_inv (fun rest acc B => B = A ++ [.lst acc] ∧ ∃ pre post, qs = pre ++ post ∧ rest = post.map c ∧ acc = pre.map F) (fun d rest acc B ⟨hB, pre, post, h1, h0, h2⟩ => ?_) (fun acc B ⟨hB, pre, post, h1, h0, h2⟩ => ?_) _ [] _ ⟨rfl, [], qs, rfl, rfl, rfl⟩
  · subst hB
    cases post with
    | nil => cases h0
    | cons q post =>
      rw [List.map_cons, List.cons.injEq] at h0
      obtain ⟨e1, e2⟩ := h0
      subst e1; subst e2
      refine ⟨hok acc, Sat.imp (hf q (by rw [h1]; simp) acc) fun s1 A1 h3 => ?_⟩
      show Sat (Res.ok true A1) _
      rw [sat_ok, if_pos rfl]
      refine Sat.imp h3 fun y A3 ⟨h4, h5⟩ => ?_
      subst h4; subst h5
      refine ⟨at_new, ?_, ?_, pre ++ [q], post, by rw [h1]; simp, rfl, by rw [h2]; simp⟩
      · have : qs.length = pre.length + (post.length + 1) := by rw [h1]; simp
        have e : acc.length = pre.length := by rw [h2]; simp
        refine Nat.lt_of_lt_of_le (show acc.length < 1000000 by omega) (by decide)
      · rw [List.set_append_right _ _ (Nat.le_refl _), Nat.sub_self]; rfl
  · subst hB
    cases post with
    | cons q post => cases h0
    | nil =>
      rw [List.append_nil] at h1
      subst h1; subst h2
      exact ⟨hok _, hP⟩
/-- a list's display over a range by an invariant over the turns -/
theorem comp_range {g : FG} {f : FE} {m : Nat} {s : ASt} {P : D → AH → Prop} {lo : Int} {n : Nat} (I : Nat → List D → AH → Prop)
    (turn : ∀ k acc A, k < n → I k acc A → Sat (g (.int (lo + (k : Nat))) s A) fun s1 A1 => Sat (f s1 A1) fun y A3 => A3[m]? = some (.lst acc) ∧ acc.length < 1000000 ∧ I (k + 1) (acc ++ [y]) (A3.set m (.lst (acc ++ [y]))))
    (last : ∀ acc A, I n acc A → P (.ref m) A) {acc : List D} {A : AH} (h : I 0 acc A) : Sat (loopC yes g fYes f m s (rngL lo n) A) P := by
  have e : rngL lo n = (List.range' 0 n).map fun k => .int (lo + (k : Nat)) := by rw [← List.range_eq_range']; rfl
  rw [e]
  refine comp_inv (fun rest acc B => ∃ k j, k + j = n ∧ rest = (List.range' k j).map (fun k => .int (lo + (k : Nat))) ∧ I k acc B) (fun d rest acc B ⟨k, j, h1, h2, h3⟩ => ⟨trivial, ?_⟩) (fun acc B ⟨k, j, h1, h2, h3⟩ => ⟨trivial, ?_⟩) _ acc _ ⟨0, n, by omega, rfl, h⟩
  · cases j with
    | zero => rw [List.range'_zero, List.map_nil] at h2; cases h2
    | succ j =>
      rw [List.range'_succ, List.map_cons, List.cons.injEq] at h2
      obtain ⟨e1, e2⟩ := h2
      subst e1
      refine Sat.imp (turn k acc B (by omega) h3) fun s1 A1 h4 => ?_
      show Sat (Res.ok true A1) _
      rw [sat_ok, if_pos rfl]
      exact Sat.imp h4 fun y A3 ⟨h5, h6, h7⟩ => ⟨h5, Nat.lt_of_lt_of_le h6 (by decide), k + 1, j, by omega, e2, h7⟩
  · cases j with
    | zero => rw [show k = n by omega] at h3; exact last acc B h3
    | succ j => rw [List.range'_succ, List.map_cons] at h2; cases h2
theorem ixN_pos {n : Nat} {k : Int} (h0 : 0 ≤ k) (h : k < n) : ixN n k = some k.toNat := by
  unfold ixN
  rw [if_pos h0, if_pos h]
theorem ev_sl_l {xs : List D} {lo hi : Option Int} (h : A[r]? = some (.lst xs)) : slD (.ref r) lo hi A = .ok (.ref A.length) (A ++ [.lst (cutL xs lo hi)]) := by
  show (match rdL A (.ref r) with
    | some xs => Ab.alloc (.lst (cutL xs lo hi)) A
    | none => .bad) = _
  rw [rdL_l h]; rfl
theorem ev_app {xs : List D} {y : D} (h : A[r]? = some (.lst xs)) (hl : xs.length < 1000000) : appendD (.ref r) [y] A = .ok .non (A.set r (.lst (xs ++ [y]))) := by
  show (match A[r]? with
    | some (.lst xs) => if xs.length < sizeLine then Res.ok D.non (A.set r (.lst (xs ++ [y]))) else .bad
    | _ => .bad) = _
  rw [h]
  exact if_pos (Nat.lt_of_lt_of_le hl (by decide))
theorem ty_l {xs : List D} (h : A[r]? = some (.lst xs)) : isTy "list" (.ref r) A = true := by
  simp [isTy, rdL_l h]
theorem ev_rev {xs : List D} (h : A[r]? = some (.lst xs)) : revD (.ref r) A = .ok (.ref A.length) (A ++ [.lst xs.reverse]) := by unfold revD; rw [rdL_l h]; rfl
theorem ev_iseq_t {ds : List D} : iSeq (.tup ds) A = .ok ⟨ds, yes⟩ A := rfl
theorem ev_iseq_l {xs : List D} (h : A[r]? = some (.lst xs)) : iSeq (.ref r) A = .ok ⟨xs, fun A' => rdL A' (.ref r) = some xs⟩ A := by
  show (match rdL A (.ref r) with
    | some ds => Res.ok (⟨ds, fun A' => rdL A' (.ref r) = some ds⟩ : Src) A
    | none => .bad) = _
  rw [rdL_l h]
theorem ev_max_l {xs : List Int} (h : A[r]? = some (.lst (xs.map D.int))) (h0 : xs ≠ []) : maxD [.ref r] A = .ok (.int (maxI xs)) A := by
  show (match rdL A (.ref r) with
    | some xs => (match intsOf xs with
      | some (i :: is) => Res.ok (D.int (maxI (i :: is))) A
      | _ => .bad)
    | none => .bad) = _
  have e : ∀ xs : List Int, intsOf (xs.map D.int) = some xs := by
    intro xs
    induction xs with
    | nil => rfl
    | cons x xs ih => show (match intsOf (xs.map D.int) with | some is => some (x :: is) | none => none) = _; rw [ih]
  rw [rdL_l h]
  simp only [e]
  cases xs with
  | nil => exact (h0 rfl).elim
  | cons x xs => rfl
theorem ev_min_l {xs : List Int} (h : A[r]? = some (.lst (xs.map D.int))) (h0 : xs ≠ []) : minD [.ref r] A = .ok (.int (minI xs)) A := by
  show (match rdL A (.ref r) with
    | some xs => (match intsOf xs with
      | some (i :: is) => Res.ok (D.int (minI (i :: is))) A
      | _ => .bad)
    | none => .bad) = _
  have e : ∀ xs : List Int, intsOf (xs.map D.int) = some xs := by
    intro xs
    induction xs with
    | nil => rfl
    | cons x xs ih => show (match intsOf (xs.map D.int) with | some is => some (x :: is) | none => none) = _; rw [ih]
  rw [rdL_l h]
  simp only [e]
  cases xs with
  | nil => exact (h0 rfl).elim
  | cons x xs => rfl
end
/-! ## greatest and least -/
/-! ## plain data -/
def Pl : Nat → D → Prop
  | _, .non => True
  | _, .bl _ => True
  | _, .int _ => True
  | _, .str _ => True
  | 0, .tup _ => False
  | n + 1, .tup ds => ds.length ≤ 1000000 ∧ ∀ d ∈ ds, Pl n d
  | _, .ref _ => False
end Ab

set_option maxHeartbeats 4000000
namespace Law
open PySem PySem.Spec PyProof.Rows L2 Ab
def top (i : Nat) : Stmt := PySem.Challenge.pw_neverhappens_k12_evaluate.main.body.getD i (.Pass ⟨0, 0, 0, 0⟩)
abbrev s__law_same : Stmt := top 10
abbrev n__law_same : List Str := ["_law_actual", "_law_due", "_law_k"]
abbrev s__law_value : Stmt := top 9
abbrev n__law_value : List Str := ["_law_expression", "_law_env", "_law_sign", "_law_left", "_law_right"]
abbrev s_combine : Stmt := top 2
abbrev n_combine : List Str := ["word", "left", "right"]
abbrev s_evaluate : Stmt := top 1
abbrev n_evaluate : List Str := ["expression", "values", "word"]
abbrev s__law_agrees : Stmt := top 17
abbrev n__law_agrees : List Str := ["_law_expression", "_law_first", "_law_second", "_law_due", "_law_other", "_law_passed"]
abbrev s__law_cell : Stmt := top 4
abbrev n__law_cell : List Str := ["_law_script", "_law_at"]
abbrev s__law_pick : Stmt := top 6
abbrev n__law_pick : List Str := ["_law_source_here", "_law_size", "_law_k", "_law_digit", "_law_mixed"]
abbrev s__law_one : Stmt := top 7
abbrev n__law_one : List Str := ["_law_source_here", "_law_row"]
abbrev s__law_link : Stmt := top 13
abbrev n__law_link : List Str := ["_law_source_here", "_law_group"]
abbrev s__law_figure : Stmt := top 11
abbrev n__law_figure : List Str := ["_law_source_here", "_law_choice"]
abbrev s__law_term : Stmt := top 12
abbrev n__law_term : List Str := ["_law_source_here", "_law_names_here", "_law_depth", "_law_choice", "_law_left"]
abbrev s__law_fact : Stmt := top 14
abbrev n__law_fact : List Str := ["_law_source_here", "_law_names_here", "_law_depth", "_law_choice", "_law_left", "_law_right", "_law_group"]
abbrev s__law_names : Stmt := top 8
abbrev n__law_names : List Str := ["_law_source_here", "_law_style", "_law_names_here", "_law_k", "_law_word"]
abbrev s__law_source : Stmt := top 5
abbrev n__law_source : List Str := ["_law_cell_here"]
abbrev s__law_variables : Stmt := top 15
abbrev n__law_variables : List Str := ["_law_expression", "_law_found", "_law_part"]
abbrev s__law_values : Stmt := top 16
abbrev n__law_values : List Str := ["_law_source_here", "_law_names_here", "_law_expression", "_law_values_here", "_law_name", "_law_at"]
abbrev s_law : Stmt := top 18
abbrev n_law : List Str := ["_law_script", "_law_source_here", "_law_told", "_law_names_here", "_law_depth", "_law_choice", "_law_first", "_law_second", "_law_expression"]
theorem sc__law_same : FnScope n__law_same ["_law_actual", "_law_due"] (defScope s__law_same) := ⟨rfl, rfl, rfl, by decide +kernel, rfl, by decide +kernel, by decide +kernel⟩
theorem sc__law_value : FnScope n__law_value ["_law_expression", "_law_env"] (defScope s__law_value) := ⟨rfl, rfl, rfl, by decide +kernel, rfl, by decide +kernel, by decide +kernel⟩
theorem sc_combine : FnScope n_combine ["word", "left", "right"] (defScope s_combine) := ⟨rfl, rfl, rfl, by decide +kernel, rfl, by decide +kernel, by decide +kernel⟩
theorem sc_evaluate : FnScope n_evaluate ["expression", "values"] (defScope s_evaluate) := ⟨rfl, rfl, rfl, by decide +kernel, rfl, by decide +kernel, by decide +kernel⟩
theorem sc__law_agrees : FnScope n__law_agrees ["_law_expression", "_law_first", "_law_second"] (defScope s__law_agrees) := ⟨rfl, rfl, rfl, by decide +kernel, rfl, by decide +kernel, by decide +kernel⟩
theorem sc__law_cell : FnScope n__law_cell ["_law_script", "_law_at"] (defScope s__law_cell) := ⟨rfl, rfl, rfl, by decide +kernel, rfl, by decide +kernel, by decide +kernel⟩
theorem sc__law_pick : FnScope n__law_pick ["_law_source_here", "_law_size"] (defScope s__law_pick) := ⟨rfl, rfl, rfl, by decide +kernel, rfl, by decide +kernel, by decide +kernel⟩
theorem sc__law_one : FnScope n__law_one ["_law_source_here", "_law_row"] (defScope s__law_one) := ⟨rfl, rfl, rfl, by decide +kernel, rfl, by decide +kernel, by decide +kernel⟩
theorem sc__law_link : FnScope n__law_link ["_law_source_here", "_law_group"] (defScope s__law_link) := ⟨rfl, rfl, rfl, by decide +kernel, rfl, by decide +kernel, by decide +kernel⟩
theorem sc__law_figure : FnScope n__law_figure ["_law_source_here"] (defScope s__law_figure) := ⟨rfl, rfl, rfl, by decide +kernel, rfl, by decide +kernel, by decide +kernel⟩
theorem sc__law_term : FnScope n__law_term ["_law_source_here", "_law_names_here", "_law_depth"] (defScope s__law_term) := ⟨rfl, rfl, rfl, by decide +kernel, rfl, by decide +kernel, by decide +kernel⟩
theorem sc__law_fact : FnScope n__law_fact ["_law_source_here", "_law_names_here", "_law_depth"] (defScope s__law_fact) := ⟨rfl, rfl, rfl, by decide +kernel, rfl, by decide +kernel, by decide +kernel⟩
theorem sc__law_names : FnScope n__law_names ["_law_source_here"] (defScope s__law_names) := ⟨rfl, rfl, rfl, by decide +kernel, rfl, by decide +kernel, by decide +kernel⟩
theorem sc__law_source : FnScope n__law_source ["_law_cell_here"] (defScope s__law_source) := ⟨rfl, rfl, rfl, by decide +kernel, rfl, by decide +kernel, by decide +kernel⟩
theorem sc__law_variables : FnScope n__law_variables ["_law_expression"] (defScope s__law_variables) := ⟨rfl, rfl, rfl, by decide +kernel, rfl, by decide +kernel, by decide +kernel⟩
theorem sc__law_values : FnScope n__law_values ["_law_source_here", "_law_names_here", "_law_expression"] (defScope s__law_values) := ⟨rfl, rfl, rfl, by decide +kernel, rfl, by decide +kernel, by decide +kernel⟩
theorem sc_law : FnScope n_law ["_law_script"] (defScope s_law) := ⟨rfl, rfl, rfl, by decide +kernel, rfl, by decide +kernel, by decide +kernel⟩
/-- what the top leaves -/
structure Txt (K : PySem.W.Frag) (mg : Str → Option Value) where
  a__law_same : Addr
  d__law_same : FuncData
  F__law_same : Fun K "_law_same" "_law_same" s__law_same a__law_same d__law_same
  b__law_same : Binds K d__law_same ["_law_actual", "_law_due"] []
  g__law_same : mg "_law_same" = some (.ref a__law_same)
  a__law_value : Addr
  d__law_value : FuncData
  F__law_value : Fun K "_law_value" "_law_value" s__law_value a__law_value d__law_value
  b__law_value : Binds K d__law_value ["_law_expression", "_law_env"] []
  g__law_value : mg "_law_value" = some (.ref a__law_value)
  a_combine : Addr
  d_combine : FuncData
  F_combine : Fun K "combine" "combine" s_combine a_combine d_combine
  b_combine : Binds K d_combine ["word", "left", "right"] []
  g_combine : mg "combine" = some (.ref a_combine)
  a_evaluate : Addr
  d_evaluate : FuncData
  F_evaluate : Fun K "evaluate" "evaluate" s_evaluate a_evaluate d_evaluate
  b_evaluate : Binds K d_evaluate ["expression", "values"] []
  g_evaluate : mg "evaluate" = some (.ref a_evaluate)
  a__law_agrees : Addr
  d__law_agrees : FuncData
  F__law_agrees : Fun K "_law_agrees" "_law_agrees" s__law_agrees a__law_agrees d__law_agrees
  b__law_agrees : Binds K d__law_agrees ["_law_expression", "_law_first", "_law_second"] []
  g__law_agrees : mg "_law_agrees" = some (.ref a__law_agrees)
  a__law_cell : Addr
  d__law_cell : FuncData
  F__law_cell : Fun K "_law_cell" "_law_cell" s__law_cell a__law_cell d__law_cell
  b__law_cell : Binds K d__law_cell ["_law_script", "_law_at"] []
  g__law_cell : mg "_law_cell" = some (.ref a__law_cell)
  a__law_pick : Addr
  d__law_pick : FuncData
  F__law_pick : Fun K "_law_pick" "_law_pick" s__law_pick a__law_pick d__law_pick
  b__law_pick : Binds K d__law_pick ["_law_source_here", "_law_size"] []
  g__law_pick : mg "_law_pick" = some (.ref a__law_pick)
  a__law_one : Addr
  d__law_one : FuncData
  F__law_one : Fun K "_law_one" "_law_one" s__law_one a__law_one d__law_one
  b__law_one : Binds K d__law_one ["_law_source_here", "_law_row"] []
  g__law_one : mg "_law_one" = some (.ref a__law_one)
  a__law_link : Addr
  d__law_link : FuncData
  F__law_link : Fun K "_law_link" "_law_link" s__law_link a__law_link d__law_link
  b__law_link : Binds K d__law_link ["_law_source_here", "_law_group"] []
  g__law_link : mg "_law_link" = some (.ref a__law_link)
  a__law_figure : Addr
  d__law_figure : FuncData
  F__law_figure : Fun K "_law_figure" "_law_figure" s__law_figure a__law_figure d__law_figure
  b__law_figure : Binds K d__law_figure ["_law_source_here"] []
  g__law_figure : mg "_law_figure" = some (.ref a__law_figure)
  a__law_term : Addr
  d__law_term : FuncData
  F__law_term : Fun K "_law_term" "_law_term" s__law_term a__law_term d__law_term
  b__law_term : Binds K d__law_term ["_law_source_here", "_law_names_here", "_law_depth"] []
  g__law_term : mg "_law_term" = some (.ref a__law_term)
  a__law_fact : Addr
  d__law_fact : FuncData
  F__law_fact : Fun K "_law_fact" "_law_fact" s__law_fact a__law_fact d__law_fact
  b__law_fact : Binds K d__law_fact ["_law_source_here", "_law_names_here", "_law_depth"] []
  g__law_fact : mg "_law_fact" = some (.ref a__law_fact)
  a__law_names : Addr
  d__law_names : FuncData
  F__law_names : Fun K "_law_names" "_law_names" s__law_names a__law_names d__law_names
  b__law_names : Binds K d__law_names ["_law_source_here"] []
  g__law_names : mg "_law_names" = some (.ref a__law_names)
  a__law_source : Addr
  d__law_source : FuncData
  F__law_source : Fun K "_law_source" "_law_source" s__law_source a__law_source d__law_source
  b__law_source : Binds K d__law_source ["_law_cell_here"] []
  g__law_source : mg "_law_source" = some (.ref a__law_source)
  a__law_variables : Addr
  d__law_variables : FuncData
  F__law_variables : Fun K "_law_variables" "_law_variables" s__law_variables a__law_variables d__law_variables
  b__law_variables : Binds K d__law_variables ["_law_expression"] []
  g__law_variables : mg "_law_variables" = some (.ref a__law_variables)
  a__law_values : Addr
  d__law_values : FuncData
  F__law_values : Fun K "_law_values" "_law_values" s__law_values a__law_values d__law_values
  b__law_values : Binds K d__law_values ["_law_source_here", "_law_names_here", "_law_expression"] []
  g__law_values : mg "_law_values" = some (.ref a__law_values)
  a_law : Addr
  d_law : FuncData
  F_law : Fun K "law" "law" s_law a_law d_law
  b_law : Binds K d_law ["_law_script"] []
  g_law : mg "law" = some (.ref a_law)
  n_bool : mg "bool" = none
  n_dict : mg "dict" = none
  n_int : mg "int" = none
  n_isinstance : mg "isinstance" = none
  n_len : mg "len" = none
  n_list : mg "list" = none
  n_range : mg "range" = none
  n_str : mg "str" = none
  n_tuple : mg "tuple" = none
/-! ### the defs as functions -/
noncomputable def p__law_same (r__law_same : FM) : FS :=
 fSeq (fIfS (fTOr (fT (fUn (isiD "tuple") (fV 1))) (fT (fUn (isiD "list") (fV 1))))
 (fSeq (fIfS (fTOr (fTB (fOp neD (fUn (isiD "tuple") (fV 1)) (fUn (isiD "tuple") (fV 0)))) (fTB (fOp neD (fUn (isiD "list") (fV 1)) (fUn (isiD "list") (fV 0)))))
 (fRet (fC (.bl false)))
 (fPass))
 (fSeq (fIfS (fTB (fOp neD (fCall lenD (fCons (fV 0) (fNil))) (fCall lenD (fCons (fV 1) (fNil)))))
 (fRet (fC (.bl false)))
 (fPass))
 (fSeq (fFor (fRg1 (fCall lenD (fCons (fV 1) (fNil)))) (gN 2)
 (fIfS (fTNot (fT (fOwn 2 r__law_same (fCons (fOp ixD (fV 0) (fV 2)) (fCons (fOp ixD (fV 1) (fV 2)) (fNil))))))
 (fRet (fC (.bl false)))
 (fPass)))
 (fRet (fC (.bl true))))))
 (fPass))
 (fSeq (fIfS (fTB (fOp isD (fV 1) (fC .non)))
 (fRet (fOp isD (fV 0) (fC .non)))
 (fPass))
 (fSeq (fIfS (fT (fUn (isiD "bool") (fV 1)))
 (fRet (fAnd (fUn (isiD "bool") (fV 0)) (fOp eqD (fV 0) (fV 1))))
 (fPass))
 (fSeq (fIfS (fT (fUn (isiD "int") (fV 1)))
 (fRet (fAnd (fUn (isiD "int") (fV 0)) (fAnd (fNot (fUn (isiD "bool") (fV 0))) (fOp eqD (fV 0) (fV 1)))))
 (fPass))
 (fRet (fAnd (fUn (isiD "str") (fV 0)) (fOp eqD (fV 0) (fV 1)))))))
noncomputable def m__law_same : Nat → FM
  | 0 => fun _ _ => .bad
  | n + 1 => body 2 3 (p__law_same (m__law_same n))
noncomputable def p__law_value (r__law_value : FM) : FS :=
 fSeq (fSet (fOp ixD (fV 0) (fC (.int 0))) 2)
 (fSeq (fIfS (fTB (fOp eqD (fV 2) (fC (.str "null"))))
 (fRet (fC .non))
 (fPass))
 (fSeq (fIfS (fTB (fOp eqD (fV 2) (fC (.str "name"))))
 (fRet (fOp ixD (fV 1) (fOp ixD (fV 0) (fC (.int 1)))))
 (fPass))
 (fSeq (fIfS (fTOr (fTB (fOp eqD (fV 2) (fC (.str "num")))) (fTB (fOp eqD (fV 2) (fC (.str "flag")))))
 (fRet (fOp ixD (fV 0) (fC (.int 1))))
 (fPass))
 (fSeq (fSet (fOwn 2 r__law_value (fCons (fOp ixD (fV 0) (fC (.int 1))) (fCons (fV 1) (fNil)))) 3)
 (fSeq (fIfS (fTB (fOp eqD (fV 2) (fC (.str "not"))))
 (fRet (fNot (fV 3)))
 (fPass))
 (fSeq (fSet (fOwn 2 r__law_value (fCons (fOp ixD (fV 0) (fC (.int 2))) (fCons (fV 1) (fNil)))) 4)
 (fSeq (fIfS (fTB (fOp inD (fV 2) (fLst (fCons (fC (.str "+")) (fCons (fC (.str "-")) (fCons (fC (.str "*")) (fNil)))))))
 (fRet (fOp ixD (fLst (fCons (fOp addD (fV 3) (fV 4)) (fCons (fOp subD (fV 3) (fV 4)) (fCons (fOp mulD (fV 3) (fV 4)) (fNil))))) (fMt "list" indexD (fLst (fCons (fC (.str "+")) (fCons (fC (.str "-")) (fCons (fC (.str "*")) (fNil))))) (fCons (fV 2) (fNil)))))
 (fPass))
 (fSeq (fIfS (fTB (fOp inD (fV 2) (fLst (fCons (fC (.str "<")) (fCons (fC (.str "<=")) (fNil))))))
 (fRet (fOr (fOp ltD (fV 3) (fV 4)) (fAnd (fOp eqD (fV 2) (fC (.str "<="))) (fOp eqD (fV 3) (fV 4)))))
 (fPass))
 (fSeq (fIfS (fTB (fOp eqD (fV 2) (fC (.str "and"))))
 (fRet (fAnd (fV 3) (fV 4)))
 (fPass))
 (fSeq (fIfS (fTB (fOp eqD (fV 2) (fC (.str "or"))))
 (fRet (fOr (fV 3) (fV 4)))
 (fPass))
 (fRet (fOp eqD (fOp eqD (fV 3) (fV 4)) (fOp neD (fV 2) (fC (.str "!=")))))))))))))))
noncomputable def m__law_value : Nat → FM
  | 0 => fun _ _ => .bad
  | n + 1 => body 2 5 (p__law_value (m__law_value n))
noncomputable def p_combine  : FS :=
 fSeq (fIfS (fTB (fOp eqD (fV 0) (fC (.str "+"))))
 (fRet (fOp addD (fV 1) (fV 2)))
 (fPass))
 (fSeq (fIfS (fTB (fOp eqD (fV 0) (fC (.str "-"))))
 (fRet (fOp subD (fV 1) (fV 2)))
 (fPass))
 (fSeq (fIfS (fTB (fOp eqD (fV 0) (fC (.str "*"))))
 (fRet (fOp mulD (fV 1) (fV 2)))
 (fPass))
 (fSeq (fIfS (fTB (fOp eqD (fV 0) (fC (.str "<"))))
 (fRet (fOp ltD (fV 1) (fV 2)))
 (fPass))
 (fSeq (fIfS (fTB (fOp eqD (fV 0) (fC (.str "<="))))
 (fRet (fOp leD (fV 1) (fV 2)))
 (fPass))
 (fSeq (fIfS (fTB (fOp eqD (fV 0) (fC (.str "!="))))
 (fRet (fOp neD (fV 1) (fV 2)))
 (fPass))
 (fSeq (fIfS (fTB (fOp eqD (fV 0) (fC (.str "and"))))
 (fRet (fAnd (fV 1) (fV 2)))
 (fPass))
 (fSeq (fIfS (fTB (fOp eqD (fV 0) (fC (.str "or"))))
 (fRet (fOr (fV 1) (fV 2)))
 (fPass))
 (fRet (fOp eqD (fV 1) (fV 2))))))))))
noncomputable def m_combine : FM := body 3 3 p_combine
noncomputable def p_evaluate (r_evaluate : FM) : FS :=
 fSeq (fSet (fOp ixD (fV 0) (fC (.int 0))) 2)
 (fSeq (fIfS (fTOr (fTB (fOp eqD (fV 2) (fC (.str "num")))) (fTB (fOp eqD (fV 2) (fC (.str "flag")))))
 (fRet (fOp ixD (fV 0) (fC (.int 1))))
 (fPass))
 (fSeq (fIfS (fTB (fOp eqD (fV 2) (fC (.str "null"))))
 (fRet (fC .non))
 (fPass))
 (fSeq (fIfS (fTB (fOp eqD (fV 2) (fC (.str "name"))))
 (fRet (fOp ixD (fV 1) (fOp ixD (fV 0) (fC (.int 1)))))
 (fPass))
 (fSeq (fIfS (fTB (fOp eqD (fV 2) (fC (.str "not"))))
 (fRet (fNot (fOwn 2 r_evaluate (fCons (fOp ixD (fV 0) (fC (.int 1))) (fCons (fV 1) (fNil))))))
 (fPass))
 (fRet (fOwn 3 m_combine (fCons (fV 2) (fCons (fOwn 2 r_evaluate (fCons (fOp ixD (fV 0) (fC (.int 1))) (fCons (fV 1) (fNil)))) (fCons (fOwn 2 r_evaluate (fCons (fOp ixD (fV 0) (fC (.int 2))) (fCons (fV 1) (fNil)))) (fNil))))))))))
noncomputable def m_evaluate : Nat → FM
  | 0 => fun _ _ => .bad
  | n + 1 => body 2 3 (p_evaluate (m_evaluate n))
noncomputable def p__law_agrees  : FS :=
 fSeq (fSet (fOwn 2 (m__law_value 20) (fCons (fV 0) (fCons (fV 1) (fNil)))) 3)
 (fSeq (fSet (fOwn 2 (m__law_value 20) (fCons (fV 0) (fCons (fV 2) (fNil)))) 4)
 (fSeq (fSet (fCall dicOf (fCons (fV 1) (fNil))) 5)
 (fSeq (fIfS (fTOr (fTNot (fT (fOwn 2 (m__law_same 20) (fCons (fOwn 2 (m_evaluate 20) (fCons (fV 0) (fCons (fV 5) (fNil)))) (fCons (fV 3) (fNil)))))) (fTB (fOp neX (fV 5) (fV 1))))
 (fRet (fC (.bl false)))
 (fPass))
 (fSeq (fIfS (fTNot (fT (fOwn 2 (m__law_same 20) (fCons (fOwn 2 (m_evaluate 20) (fCons (fV 0) (fCons (fCall dicOf (fCons (fV 2) (fNil))) (fNil)))) (fCons (fV 4) (fNil))))))
 (fRet (fC (.bl false)))
 (fPass))
 (fSeq (fIfS (fTOr (fTNot (fT (fOwn 2 (m__law_same 20) (fCons (fOwn 2 (m_evaluate 20) (fCons (fV 0) (fCons (fV 5) (fNil)))) (fCons (fV 3) (fNil)))))) (fTB (fOp neX (fV 5) (fV 1))))
 (fRet (fC (.bl false)))
 (fPass))
 (fSeq (fEx (fMt "dict" updateD (fV 5) (fCons (fV 2) (fNil))))
 (fRet (fAnd (fOwn 2 (m__law_same 20) (fCons (fOwn 2 (m_evaluate 20) (fCons (fV 0) (fCons (fV 5) (fNil)))) (fCons (fV 4) (fNil)))) (fOp eqX (fV 5) (fV 2))))))))))
noncomputable def m__law_agrees : FM := body 3 6 p__law_agrees
noncomputable def p__law_cell  : FS :=
 fSeq (fIfS (fTB (fOp ltD (fV 1) (fCall lenD (fCons (fV 0) (fNil)))))
 (fRet (fOp ixD (fV 0) (fV 1)))
 (fPass))
 (fRet (fC (.int 0)))
noncomputable def m__law_cell : FM := body 2 2 p__law_cell
noncomputable def p__law_pick  : FS :=
 fSeq (fSet (fOp ixD (fV 0) (fC (.int 2))) 2)
 (fSeq (fAsg (fOp addD (fV 2) (fC (.int 1))) (gSb (fV 0) (fC (.int 2))))
 (fSeq (fIfS (fTB (fOp ltD (fV 1) (fC (.int 2))))
 (fRet (fC (.int 0)))
 (fPass))
 (fSeq (fIfS (fTAnd (fTB (fOp geD (fOp ixD (fV 0) (fC (.int 0))) (fOp powD (fC (.int 10)) (fC (.int 18))))) (fTB (fOp gtD (fOp ixD (fV 0) (fC (.int 1))) (fC (.int 0)))))
 (fSeq (fSet (fOp modD (fCall intD (fCons (fOp ixD (fV 0) (fC (.int 1))) (fNil))) (fV 1)) 3)
 (fSeq (fAsg (fOp fdivD (fOp ixD (fV 0) (fC (.int 1))) (fV 1)) (gSb (fV 0) (fC (.int 1))))
 (fRet (fV 3))))
 (fPass))
 (fSeq (fSet (fOp modD (fCall intD (fCons (fOp addD (fOp addD (fOp ixD (fV 0) (fC (.int 0))) (fOp mulD (fC (.int 7919)) (fV 2))) (fC (.int 13))) (fNil))) (fC (.int 2147483647))) 4)
 (fSeq (fSet (fOp modD (fCall intD (fCons (fOp mulD (fV 4) (fOp addD (fV 4) (fC (.int 48271)))) (fNil))) (fC (.int 2147483629))) 4)
 (fSeq (fSet (fOp modD (fCall intD (fCons (fOp addD (fOp mulD (fV 4) (fOp addD (fV 4) (fC (.int 69621)))) (fOp mulD (fC (.int 31)) (fV 2))) (fNil))) (fC (.int 2147483647))) 4)
 (fRet (fOp modD (fCall intD (fCons (fOp fdivD (fV 4) (fC (.int 9))) (fNil))) (fV 1)))))))))
noncomputable def m__law_pick : FM := body 2 5 p__law_pick
noncomputable def p__law_one  : FS :=
 fRet (fOp ixD (fV 1) (fOwn 2 m__law_pick (fCons (fV 0) (fCons (fCall lenD (fCons (fV 1) (fNil))) (fNil)))))
noncomputable def m__law_one : FM := body 2 2 p__law_one
noncomputable def p__law_link  : FS :=
 fSeq (fIfS (fTB (fOp eqD (fOwn 2 m__law_pick (fCons (fV 0) (fCons (fC (.int 4)) (fNil)))) (fC (.int 0))))
 (fRet (fTup (fCons (fC (.str "null")) (fNil))))
 (fPass))
 (fRet (fTup (fCons (fC (.str "name")) (fCons (fOwn 2 m__law_one (fCons (fV 0) (fCons (fV 1) (fNil)))) (fNil)))))
noncomputable def m__law_link : FM := body 2 2 p__law_link
noncomputable def p__law_figure  : FS :=
 fSeq (fSet (fOwn 2 m__law_pick (fCons (fV 0) (fCons (fC (.int 8)) (fNil)))) 1)
 (fSeq (fIfS (fTB (fOp ltD (fV 1) (fC (.int 5))))
 (fRet (fOp subD (fOwn 2 m__law_pick (fCons (fV 0) (fCons (fC (.int 5)) (fNil)))) (fC (.int 2))))
 (fPass))
 (fSeq (fIfS (fTB (fOp eqD (fV 1) (fC (.int 5))))
 (fRet (fOwn 2 m__law_one (fCons (fV 0) (fCons (fLst (fCons (fUn negD (fOp powD (fC (.int 10)) (fC (.int 9)))) (fCons (fOp powD (fC (.int 10)) (fC (.int 9))) (fNil)))) (fNil)))))
 (fPass))
 (fRet (fOp subD (fOp addD (fOp mulD (fOwn 2 m__law_pick (fCons (fV 0) (fCons (fC (.int 40000)) (fNil)))) (fC (.int 50000))) (fOwn 2 m__law_pick (fCons (fV 0) (fCons (fC (.int 50000)) (fNil))))) (fOp powD (fC (.int 10)) (fC (.int 9)))))))
noncomputable def m__law_figure : FM := body 1 2 p__law_figure
noncomputable def p__law_term (r__law_term : FM) : FS :=
 fSeq (fSet (fOwn 2 m__law_pick (fCons (fV 0) (fCons (fC (.int 6)) (fNil)))) 3)
 (fSeq (fIfS (fTAnd (fTB (fOp gtD (fV 2) (fC (.int 0)))) (fTB (fOp ltD (fV 3) (fC (.int 4)))))
 (fSeq (fSet (fOwn 3 r__law_term (fCons (fV 0) (fCons (fV 1) (fCons (fOp subD (fV 2) (fC (.int 1))) (fNil))))) 4)
 (fRet (fTup (fCons (fOp ixD (fLst (fCons (fC (.str "+")) (fCons (fC (.str "-")) (fCons (fC (.str "*")) (fCons (fC (.str "-")) (fNil)))))) (fV 3)) (fCons (fV 4) (fCons (fOwn 3 r__law_term (fCons (fV 0) (fCons (fV 1) (fCons (fOp subD (fV 2) (fC (.int 1))) (fNil))))) (fNil)))))))
 (fPass))
 (fSeq (fIfS (fTB (fOp eqD (fV 3) (fC (.int 4))))
 (fRet (fTup (fCons (fC (.str "num")) (fCons (fOwn 1 m__law_figure (fCons (fV 0) (fNil))) (fNil)))))
 (fPass))
 (fRet (fTup (fCons (fC (.str "name")) (fCons (fOwn 2 m__law_one (fCons (fV 0) (fCons (fSl (fV 1) (fNo) (fPart (fC (.int 3)))) (fNil)))) (fNil)))))))
noncomputable def m__law_term : Nat → FM
  | 0 => fun _ _ => .bad
  | n + 1 => body 3 5 (p__law_term (m__law_term n))
noncomputable def p__law_fact (r__law_fact : FM) : FS :=
 fSeq (fSet (fOwn 2 m__law_pick (fCons (fV 0) (fCons (fC (.int 14)) (fNil)))) 3)
 (fSeq (fIfS (fTAnd (fTB (fOp gtD (fV 2) (fC (.int 0)))) (fTB (fOp ltD (fV 3) (fC (.int 4)))))
 (fSeq (fSet (fOwn 3 (m__law_term 20) (fCons (fV 0) (fCons (fV 1) (fCons (fOp subD (fV 2) (fC (.int 1))) (fNil))))) 4)
 (fSeq (fSet (fV 4) 5)
 (fSeq (fIfS (fTB (fOp gtD (fOwn 2 m__law_pick (fCons (fV 0) (fCons (fC (.int 3)) (fNil)))) (fC (.int 0))))
 (fSet (fOwn 3 (m__law_term 20) (fCons (fV 0) (fCons (fV 1) (fCons (fOp subD (fV 2) (fC (.int 1))) (fNil))))) 5)
 (fPass))
 (fRet (fTup (fCons (fOp ixD (fLst (fCons (fC (.str "<")) (fCons (fC (.str "<=")) (fCons (fC (.str "==")) (fCons (fC (.str "!=")) (fNil)))))) (fV 3)) (fCons (fV 4) (fCons (fV 5) (fNil)))))))))
 (fPass))
 (fSeq (fIfS (fTAnd (fTB (fOp gtD (fV 2) (fC (.int 0)))) (fTB (fOp ltD (fV 3) (fC (.int 6)))))
 (fSeq (fSet (fSl (fV 1) (fPart (fOp subD (fOp mulD (fC (.int 2)) (fV 3)) (fC (.int 3)))) (fPart (fOp subD (fOp mulD (fC (.int 2)) (fV 3)) (fC (.int 1))))) 6)
 (fSeq (fSet (fOwn 2 m__law_link (fCons (fV 0) (fCons (fV 6) (fNil)))) 4)
 (fRet (fTup (fCons (fC (.str "same")) (fCons (fV 4) (fCons (fOwn 2 m__law_link (fCons (fV 0) (fCons (fV 6) (fNil)))) (fNil))))))))
 (fPass))
 (fSeq (fIfS (fTAnd (fTB (fOp gtD (fV 2) (fC (.int 0)))) (fTB (fOp ltD (fV 3) (fC (.int 8)))))
 (fRet (fTup (fCons (fC (.str "not")) (fCons (fOwn 3 r__law_fact (fCons (fV 0) (fCons (fV 1) (fCons (fOp subD (fV 2) (fC (.int 1))) (fNil))))) (fNil)))))
 (fPass))
 (fSeq (fIfS (fTAnd (fTB (fOp gtD (fV 2) (fC (.int 0)))) (fTB (fOp ltD (fV 3) (fC (.int 12)))))
 (fSeq (fSet (fOwn 3 r__law_fact (fCons (fV 0) (fCons (fV 1) (fCons (fOp subD (fV 2) (fC (.int 1))) (fNil))))) 4)
 (fRet (fTup (fCons (fOp ixD (fLst (fCons (fC (.str "and")) (fCons (fC (.str "or")) (fNil)))) (fOp modD (fV 3) (fC (.int 2)))) (fCons (fV 4) (fCons (fOwn 3 r__law_fact (fCons (fV 0) (fCons (fV 1) (fCons (fOp subD (fV 2) (fC (.int 1))) (fNil))))) (fNil)))))))
 (fPass))
 (fSeq (fIfS (fTB (fOp eqD (fV 3) (fC (.int 12))))
 (fRet (fTup (fCons (fC (.str "flag")) (fCons (fOp eqD (fOwn 2 m__law_pick (fCons (fV 0) (fCons (fC (.int 2)) (fNil)))) (fC (.int 1))) (fNil)))))
 (fPass))
 (fRet (fTup (fCons (fC (.str "name")) (fCons (fOwn 2 m__law_one (fCons (fV 0) (fCons (fSl (fV 1) (fPart (fC (.int 3))) (fPart (fC (.int 5)))) (fNil)))) (fNil))))))))))
noncomputable def m__law_fact : Nat → FM
  | 0 => fun _ _ => .bad
  | n + 1 => body 3 7 (p__law_fact (m__law_fact n))
noncomputable def p__law_names  : FS :=
 fSeq (fSet (fOwn 2 m__law_pick (fCons (fV 0) (fCons (fC (.int 4)) (fNil)))) 1)
 (fSeq (fSet (fLst (fNil)) 2)
 (fSeq (fFor (fRg1 (fC (.int 20))) (gN 3)
 (fSeq (fSet (fOp ixD (fC (.str "bcdeghijklmnopqrtuvw")) (fV 3)) 4)
 (fSeq (fIfS (fTB (fOp eqD (fV 1) (fC (.int 1))))
 (fSet (fOp addD (fV 4) (fC (.str "q7"))) 4)
 (fPass))
 (fSeq (fIfS (fTB (fOp eqD (fV 1) (fC (.int 2))))
 (fSet (fOp addD (fC (.str "zz")) (fV 4)) 4)
 (fPass))
 (fSeq (fIfS (fTB (fOp eqD (fV 1) (fC (.int 3))))
 (fSet (fOp addD (fC (.str "n")) (fCall strD (fCons (fOp addD (fOp mulD (fV 3) (fV 3)) (fC (.int 3))) (fNil)))) 4)
 (fPass))
 (fEx (fMt "list" appendD (fV 2) (fCons (fV 4) (fNil)))))))))
 (fRet (fV 2))))
noncomputable def m__law_names : FM := body 1 5 p__law_names
noncomputable def p__law_source  : FS :=
 fRet (fLst (fCons (fV 0) (fCons (fV 0) (fCons (fC (.int 0)) (fNil)))))
noncomputable def m__law_source : FM := body 1 1 p__law_source
noncomputable def p__law_variables (r__law_variables : FM) : FS :=
 fSeq (fIfS (fTB (fOp eqD (fOp ixD (fV 0) (fC (.int 0))) (fC (.str "name"))))
 (fRet (fLst (fCons (fOp ixD (fV 0) (fC (.int 1))) (fNil))))
 (fPass))
 (fSeq (fSet (fLst (fNil)) 1)
 (fSeq (fFor (fItS (fSl (fV 0) (fPart (fC (.int 1))) (fNo))) (gN 2)
 (fIfS (fT (fUn (isiD "tuple") (fV 2)))
 (fSet (fOp addD (fV 1) (fOwn 1 r__law_variables (fCons (fV 2) (fNil)))) 1)
 (fPass)))
 (fRet (fV 1))))
noncomputable def m__law_variables : Nat → FM
  | 0 => fun _ _ => .bad
  | n + 1 => body 1 3 (p__law_variables (m__law_variables n))
noncomputable def p__law_values  : FS :=
 fSeq (fSet (fDict0) 3)
 (fSeq (fFor (fItS (fOwn 1 (m__law_variables 20) (fCons (fV 2) (fNil)))) (gN 4)
 (fSeq (fSet (fMt "list" indexD (fV 1) (fCons (fV 4) (fNil))) 5)
 (fIfS (fTB (fOp ltD (fV 5) (fC (.int 3))))
 (fAsg (fOwn 1 m__law_figure (fCons (fV 0) (fNil))) (gSb (fV 3) (fV 4)))
 (fIfS (fTB (fOp ltD (fV 5) (fC (.int 5))))
 (fAsg (fOp eqD (fOwn 2 m__law_pick (fCons (fV 0) (fCons (fC (.int 2)) (fNil)))) (fC (.int 1))) (gSb (fV 3) (fV 4)))
 (fAsg (fOwn 2 m__law_one (fCons (fV 0) (fCons (fLst (fCons (fC .non) (fCons (fC .non) (fCons (fC (.int 0)) (fCons (fC (.int 1)) (fCons (fC (.int 2)) (fCons (fOp mulD (fC (.int 9)) (fOwn 2 m__law_pick (fCons (fV 0) (fCons (fC (.int 300)) (fNil))))) (fNil)))))))) (fNil)))) (gSb (fV 3) (fV 4)))))))
 (fRet (fV 3)))
noncomputable def m__law_values : FM := body 3 6 p__law_values
noncomputable def p_law  : FS :=
 fSeq (fSet (fOwn 1 m__law_source (fCons (fOp addD (fOwn 2 m__law_cell (fCons (fV 0) (fCons (fC (.int 0)) (fNil)))) (fOp mulD (fC (.int 65537)) (fOwn 2 m__law_cell (fCons (fV 0) (fCons (fC (.int 2)) (fNil)))))) (fNil))) 1)
 (fSeq (fSet (fOwn 1 m__law_source (fCons (fOp addD (fOwn 2 m__law_cell (fCons (fV 0) (fCons (fC (.int 1)) (fNil)))) (fOp mulD (fC (.int 31)) (fOwn 2 m__law_cell (fCons (fV 0) (fCons (fC (.int 0)) (fNil)))))) (fNil))) 2)
 (fSeq (fSet (fSl (fOwn 1 m__law_names (fCons (fV 1) (fNil))) (fNo) (fPart (fC (.int 9)))) 3)
 (fSeq (fFor (fItS (fLst (fCons (fC (.int 5)) (fCons (fC (.int 3)) (fCons (fC (.int 1)) (fNil)))))) (gN 4)
 (fSeq (fSet (fOwn 2 m__law_pick (fCons (fV 1) (fCons (fC (.int 6)) (fNil)))) 5)
 (fSeq (fIfS (fTB (fOp eqD (fV 5) (fC (.int 0))))
 (fSet (fOwn 2 m__law_link (fCons (fV 1) (fCons (fSl (fV 3) (fPart (fC (.int 5))) (fPart (fC (.int 7)))) (fNil)))) 8)
 (fIfS (fTB (fOp ltD (fV 5) (fC (.int 3))))
 (fSet (fOwn 3 (m__law_term 20) (fCons (fV 1) (fCons (fV 3) (fCons (fV 4) (fNil))))) 8)
 (fSet (fOwn 3 (m__law_fact 20) (fCons (fV 1) (fCons (fV 3) (fCons (fV 4) (fNil))))) 8)))
 (fSeq (fSet (fOwn 3 m__law_values (fCons (fV 2) (fCons (fV 3) (fCons (fV 8) (fNil))))) 6)
 (fSeq (fSet (fOwn 3 m__law_values (fCons (fV 2) (fCons (fV 3) (fCons (fV 8) (fNil))))) 7)
 (fIfS (fTNot (fT (fOwn 3 m__law_agrees (fCons (fV 8) (fCons (fV 6) (fCons (fV 7) (fNil)))))))
 (fRet (fC (.bl false)))
 (fPass)))))))
 (fRet (fC (.bl true))))))
noncomputable def m_law : FM := body 1 9 p_law
/-! ### the walk of each def -/
section
variable {P : Program} {w : World} {K : PySem.W.Frag} {mg : Str → Option Value} {base : Heap}
theorem ad__law_same (T : Txt K mg) : ∀ n : Nat, ADef P w K mg base (n + 0) T.a__law_same T.d__law_same ["_law_actual", "_law_due"] (m__law_same n)
  | 0 => adef_bad
  | n + 1 => adef_up (adef T.F__law_same sc__law_same fun cdv A outer s H E (hr : Room (n + 0) _) =>
 ass_cons (as_if ((aw_or (at_e (ae_isi (by rfl) T.n_isinstance (by rfl) T.n_tuple PyProof.Rows.boot_tuple (ae_v 1))) (aw_or1 (at_e (ae_isi (by rfl) T.n_isinstance (by rfl) T.n_list PyProof.Rows.boot_list (ae_v 1))))).pt)
 (ass_cons (as_if ((aw_or (at_cmp (aop_ne hr.units) (ae_isi (by rfl) T.n_isinstance (by rfl) T.n_tuple PyProof.Rows.boot_tuple (ae_v 1)) (ae_isi (by rfl) T.n_isinstance (by rfl) T.n_tuple PyProof.Rows.boot_tuple (ae_v 0))) (aw_or1 (at_cmp (aop_ne hr.units) (ae_isi (by rfl) T.n_isinstance (by rfl) T.n_list PyProof.Rows.boot_list (ae_v 1)) (ae_isi (by rfl) T.n_isinstance (by rfl) T.n_list PyProof.Rows.boot_list (ae_v 0))))).pt)
 (ass_one (as_ret (ae_bl)))
 (ass_nil))
 (ass_cons (as_if (at_cmp (aop_ne hr.units) (ae_callB acall_len (by rfl) T.n_len PySem.boot_len (aa_cons (ae_v 0) (aa_nil))) (ae_callB acall_len (by rfl) T.n_len PySem.boot_len (aa_cons (ae_v 1) (aa_nil))))
 (ass_one (as_ret (ae_bl)))
 (ass_nil))
 (ass_cons (as_for PassesOwn.never (by rfl) (ai_rg1 (by rfl) T.n_range (ae_callB acall_len (by rfl) T.n_len PySem.boot_len (aa_cons (ae_v 1) (aa_nil)))) (ag_name sc__law_same.nd)
 (ass_one (as_if (at_not (at_e (ae_call (ad__law_same T n) hr (by rfl) T.g__law_same T.F__law_same.kp T.b__law_same (aa_cons (ae_ix (hu_of hr) (ae_v 0) (ae_v 2)) (aa_cons (ae_ix (hu_of hr) (ae_v 1) (ae_v 2)) (aa_nil))))))
 (ass_one (as_ret (ae_bl)))
 (ass_nil))))
 (ass_one (as_ret (ae_bl))))))
 (ass_nil))
 (ass_cons (as_if (at_cmp aop_is (ae_v 1) (ae_non))
 (ass_one (as_ret (ae_cmp aop_is (ae_v 0) (ae_non))))
 (ass_nil))
 (ass_cons (as_if (at_e (ae_isi (by rfl) T.n_isinstance (by rfl) T.n_bool PyProof.Rows.boot_bool (ae_v 1)))
 (ass_one (as_ret (ae_and (ae_isi (by rfl) T.n_isinstance (by rfl) T.n_bool PyProof.Rows.boot_bool (ae_v 0)) (ae_one (ae_cmp (aop_eq hr.units) (ae_v 0) (ae_v 1))))))
 (ass_nil))
 (ass_cons (as_if (at_e (ae_isi (by rfl) T.n_isinstance (by rfl) T.n_int PyProof.Rows.boot_int (ae_v 1)))
 (ass_one (as_ret (ae_and (ae_isi (by rfl) T.n_isinstance (by rfl) T.n_int PyProof.Rows.boot_int (ae_v 0)) (ae_and (ae_not (ae_isi (by rfl) T.n_isinstance (by rfl) T.n_bool PyProof.Rows.boot_bool (ae_v 0))) (ae_one (ae_cmp (aop_eq hr.units) (ae_v 0) (ae_v 1)))))))
 (ass_nil))
 (ass_one (as_ret (ae_and (ae_isi (by rfl) T.n_isinstance (by rfl) T.n_str PyProof.Rows.boot_str (ae_v 0)) (ae_one (ae_cmp (aop_eq hr.units) (ae_v 0) (ae_v 1))))))))))
theorem ad__law_value (T : Txt K mg) : ∀ n : Nat, ADef P w K mg base (n + 0) T.a__law_value T.d__law_value ["_law_expression", "_law_env"] (m__law_value n)
  | 0 => adef_bad
  | n + 1 => adef_up (adef T.F__law_value sc__law_value fun cdv A outer s H E (hr : Room (n + 0) _) =>
 ass_cons (as_set (i := 2) sc__law_value.nd (ae_ix (hu_of hr) (ae_v 0) (ae_int)))
 (ass_cons (as_if (at_cmp (aop_eq hr.units) (ae_v 2) (ae_str))
 (ass_one (as_ret (ae_non)))
 (ass_nil))
 (ass_cons (as_if (at_cmp (aop_eq hr.units) (ae_v 2) (ae_str))
 (ass_one (as_ret (ae_ix (hu_of hr) (ae_v 1) (ae_ix (hu_of hr) (ae_v 0) (ae_int)))))
 (ass_nil))
 (ass_cons (as_if ((aw_or (at_cmp (aop_eq hr.units) (ae_v 2) (ae_str)) (aw_or1 (at_cmp (aop_eq hr.units) (ae_v 2) (ae_str)))).pt)
 (ass_one (as_ret (ae_ix (hu_of hr) (ae_v 0) (ae_int))))
 (ass_nil))
 (ass_cons (as_set (i := 3) sc__law_value.nd (ae_call (ad__law_value T n) hr (by rfl) T.g__law_value T.F__law_value.kp T.b__law_value (aa_cons (ae_ix (hu_of hr) (ae_v 0) (ae_int)) (aa_cons (ae_v 1) (aa_nil)))))
 (ass_cons (as_if (at_cmp (aop_eq hr.units) (ae_v 2) (ae_str))
 (ass_one (as_ret (ae_not (ae_v 3))))
 (ass_nil))
 (ass_cons (as_set (i := 4) sc__law_value.nd (ae_call (ad__law_value T n) hr (by rfl) T.g__law_value T.F__law_value.kp T.b__law_value (aa_cons (ae_ix (hu_of hr) (ae_v 0) (ae_int)) (aa_cons (ae_v 1) (aa_nil)))))
 (ass_cons (as_if (at_cmp (aop_in (u65 hr)) (ae_v 2) (ae_lst (aa_cons (ae_str) (aa_cons (ae_str) (aa_cons (ae_str) (aa_nil))))))
 (ass_one (as_ret (ae_ix (hu_of hr) (ae_lst (aa_cons (ae_op aop_add (ae_v 3) (ae_v 4)) (aa_cons (ae_op aop_sub (ae_v 3) (ae_v 4)) (aa_cons (ae_op aop_mul (ae_v 3) (ae_v 4)) (aa_nil))))) (ae_mt PySem.F.plainAttrs_list PySem.F.slot_list_index PySem.F.type_list_index amt_index (ae_lst (aa_cons (ae_str) (aa_cons (ae_str) (aa_cons (ae_str) (aa_nil))))) (aa_cons (ae_v 2) (aa_nil))))))
 (ass_nil))
 (ass_cons (as_if (at_cmp (aop_in (u65 hr)) (ae_v 2) (ae_lst (aa_cons (ae_str) (aa_cons (ae_str) (aa_nil)))))
 (ass_one (as_ret (ae_or (ae_cmp aop_lt (ae_v 3) (ae_v 4)) (ae_one (ae_and (ae_cmp (aop_eq hr.units) (ae_v 2) (ae_str)) (ae_one (ae_cmp (aop_eq hr.units) (ae_v 3) (ae_v 4))))))))
 (ass_nil))
 (ass_cons (as_if (at_cmp (aop_eq hr.units) (ae_v 2) (ae_str))
 (ass_one (as_ret (ae_and (ae_v 3) (ae_one (ae_v 4)))))
 (ass_nil))
 (ass_cons (as_if (at_cmp (aop_eq hr.units) (ae_v 2) (ae_str))
 (ass_one (as_ret (ae_or (ae_v 3) (ae_one (ae_v 4)))))
 (ass_nil))
 (ass_one (as_ret (ae_cmp (aop_eq hr.units) (ae_cmp (aop_eq hr.units) (ae_v 3) (ae_v 4)) (ae_cmp (aop_ne hr.units) (ae_v 2) (ae_str))))))))))))))))
theorem ad_combine (T : Txt K mg) : ADef P w K mg base 1 T.a_combine T.d_combine ["word", "left", "right"] m_combine :=
 adef T.F_combine sc_combine fun cdv A outer s H E hr =>
 ass_cons (as_if (at_cmp (aop_eq hr.units) (ae_v 0) (ae_str))
 (ass_one (as_ret (ae_op aop_add (ae_v 1) (ae_v 2))))
 (ass_nil))
 (ass_cons (as_if (at_cmp (aop_eq hr.units) (ae_v 0) (ae_str))
 (ass_one (as_ret (ae_op aop_sub (ae_v 1) (ae_v 2))))
 (ass_nil))
 (ass_cons (as_if (at_cmp (aop_eq hr.units) (ae_v 0) (ae_str))
 (ass_one (as_ret (ae_op aop_mul (ae_v 1) (ae_v 2))))
 (ass_nil))
 (ass_cons (as_if (at_cmp (aop_eq hr.units) (ae_v 0) (ae_str))
 (ass_one (as_ret (ae_cmp aop_lt (ae_v 1) (ae_v 2))))
 (ass_nil))
 (ass_cons (as_if (at_cmp (aop_eq hr.units) (ae_v 0) (ae_str))
 (ass_one (as_ret (ae_cmp aop_le (ae_v 1) (ae_v 2))))
 (ass_nil))
 (ass_cons (as_if (at_cmp (aop_eq hr.units) (ae_v 0) (ae_str))
 (ass_one (as_ret (ae_cmp (aop_ne hr.units) (ae_v 1) (ae_v 2))))
 (ass_nil))
 (ass_cons (as_if (at_cmp (aop_eq hr.units) (ae_v 0) (ae_str))
 (ass_one (as_ret (ae_and (ae_v 1) (ae_one (ae_v 2)))))
 (ass_nil))
 (ass_cons (as_if (at_cmp (aop_eq hr.units) (ae_v 0) (ae_str))
 (ass_one (as_ret (ae_or (ae_v 1) (ae_one (ae_v 2)))))
 (ass_nil))
 (ass_one (as_ret (ae_cmp (aop_eq hr.units) (ae_v 1) (ae_v 2)))))))))))
theorem ad_evaluate (T : Txt K mg) : ∀ n : Nat, ADef P w K mg base (n + 1) T.a_evaluate T.d_evaluate ["expression", "values"] (m_evaluate n)
  | 0 => adef_bad
  | n + 1 => adef_up (adef T.F_evaluate sc_evaluate fun cdv A outer s H E (hr : Room (n + 1) _) =>
 ass_cons (as_set (i := 2) sc_evaluate.nd (ae_ix (hu_of hr) (ae_v 0) (ae_int)))
 (ass_cons (as_if ((aw_or (at_cmp (aop_eq hr.units) (ae_v 2) (ae_str)) (aw_or1 (at_cmp (aop_eq hr.units) (ae_v 2) (ae_str)))).pt)
 (ass_one (as_ret (ae_ix (hu_of hr) (ae_v 0) (ae_int))))
 (ass_nil))
 (ass_cons (as_if (at_cmp (aop_eq hr.units) (ae_v 2) (ae_str))
 (ass_one (as_ret (ae_non)))
 (ass_nil))
 (ass_cons (as_if (at_cmp (aop_eq hr.units) (ae_v 2) (ae_str))
 (ass_one (as_ret (ae_ix (hu_of hr) (ae_v 1) (ae_ix (hu_of hr) (ae_v 0) (ae_int)))))
 (ass_nil))
 (ass_cons (as_if (at_cmp (aop_eq hr.units) (ae_v 2) (ae_str))
 (ass_one (as_ret (ae_not (ae_call (ad_evaluate T n) hr (by rfl) T.g_evaluate T.F_evaluate.kp T.b_evaluate (aa_cons (ae_ix (hu_of hr) (ae_v 0) (ae_int)) (aa_cons (ae_v 1) (aa_nil)))))))
 (ass_nil))
 (ass_one (as_ret (ae_call (ad_combine T) (hr.mono (by omega)) (by rfl) T.g_combine T.F_combine.kp T.b_combine (aa_cons (ae_v 2) (aa_cons (ae_call (ad_evaluate T n) hr (by rfl) T.g_evaluate T.F_evaluate.kp T.b_evaluate (aa_cons (ae_ix (hu_of hr) (ae_v 0) (ae_int)) (aa_cons (ae_v 1) (aa_nil)))) (aa_cons (ae_call (ad_evaluate T n) hr (by rfl) T.g_evaluate T.F_evaluate.kp T.b_evaluate (aa_cons (ae_ix (hu_of hr) (ae_v 0) (ae_int)) (aa_cons (ae_v 1) (aa_nil)))) (aa_nil))))))))))))
theorem ad__law_agrees (T : Txt K mg) : ADef P w K mg base 22 T.a__law_agrees T.d__law_agrees ["_law_expression", "_law_first", "_law_second"] m__law_agrees :=
 adef T.F__law_agrees sc__law_agrees fun cdv A outer s H E hr =>
 ass_cons (as_set (i := 3) sc__law_agrees.nd (ae_call (ad__law_value T 20) (hr.mono (by omega)) (by rfl) T.g__law_value T.F__law_value.kp T.b__law_value (aa_cons (ae_v 0) (aa_cons (ae_v 1) (aa_nil)))))
 (ass_cons (as_set (i := 4) sc__law_agrees.nd (ae_call (ad__law_value T 20) (hr.mono (by omega)) (by rfl) T.g__law_value T.F__law_value.kp T.b__law_value (aa_cons (ae_v 0) (aa_cons (ae_v 2) (aa_nil)))))
 (ass_cons (as_set (i := 5) sc__law_agrees.nd (ae_callT acall_dict (by rfl) T.n_dict PyProof.Rows.boot_dict (aa_cons (ae_v 1) (aa_nil))))
 (ass_cons (as_if ((aw_or (at_not (at_e (ae_call (ad__law_same T 20) (hr.mono (by omega)) (by rfl) T.g__law_same T.F__law_same.kp T.b__law_same (aa_cons (ae_call (ad_evaluate T 20) (hr.mono (by omega)) (by rfl) T.g_evaluate T.F_evaluate.kp T.b_evaluate (aa_cons (ae_v 0) (aa_cons (ae_v 5) (aa_nil)))) (aa_cons (ae_v 3) (aa_nil)))))) (aw_or1 (at_cmp (aop_neX hr.units) (ae_v 5) (ae_v 1)))).pt)
 (ass_one (as_ret (ae_bl)))
 (ass_nil))
 (ass_cons (as_if (at_not (at_e (ae_call (ad__law_same T 20) (hr.mono (by omega)) (by rfl) T.g__law_same T.F__law_same.kp T.b__law_same (aa_cons (ae_call (ad_evaluate T 20) (hr.mono (by omega)) (by rfl) T.g_evaluate T.F_evaluate.kp T.b_evaluate (aa_cons (ae_v 0) (aa_cons (ae_callT acall_dict (by rfl) T.n_dict PyProof.Rows.boot_dict (aa_cons (ae_v 2) (aa_nil))) (aa_nil)))) (aa_cons (ae_v 4) (aa_nil))))))
 (ass_one (as_ret (ae_bl)))
 (ass_nil))
 (ass_cons (as_if ((aw_or (at_not (at_e (ae_call (ad__law_same T 20) (hr.mono (by omega)) (by rfl) T.g__law_same T.F__law_same.kp T.b__law_same (aa_cons (ae_call (ad_evaluate T 20) (hr.mono (by omega)) (by rfl) T.g_evaluate T.F_evaluate.kp T.b_evaluate (aa_cons (ae_v 0) (aa_cons (ae_v 5) (aa_nil)))) (aa_cons (ae_v 3) (aa_nil)))))) (aw_or1 (at_cmp (aop_neX hr.units) (ae_v 5) (ae_v 1)))).pt)
 (ass_one (as_ret (ae_bl)))
 (ass_nil))
 (ass_cons (as_ex (ae_mt PySem.F.plainAttrs_dict PySem.F.slot_dict_update PySem.F.type_dict_update amt_update (ae_v 5) (aa_cons (ae_v 2) (aa_nil))))
 (ass_one (as_ret (ae_and (ae_call (ad__law_same T 20) (hr.mono (by omega)) (by rfl) T.g__law_same T.F__law_same.kp T.b__law_same (aa_cons (ae_call (ad_evaluate T 20) (hr.mono (by omega)) (by rfl) T.g_evaluate T.F_evaluate.kp T.b_evaluate (aa_cons (ae_v 0) (aa_cons (ae_v 5) (aa_nil)))) (aa_cons (ae_v 4) (aa_nil)))) (ae_one (ae_cmp (aop_eqX hr.units) (ae_v 5) (ae_v 2))))))))))))
theorem ad__law_cell (T : Txt K mg) : ADef P w K mg base 1 T.a__law_cell T.d__law_cell ["_law_script", "_law_at"] m__law_cell :=
 adef T.F__law_cell sc__law_cell fun cdv A outer s H E hr =>
 ass_cons (as_if (at_cmp aop_lt (ae_v 1) (ae_callB acall_len (by rfl) T.n_len PySem.boot_len (aa_cons (ae_v 0) (aa_nil))))
 (ass_one (as_ret (ae_ix (hu_of hr) (ae_v 0) (ae_v 1))))
 (ass_nil))
 (ass_one (as_ret (ae_int)))
theorem ad__law_pick (T : Txt K mg) : ADef P w K mg base 1 T.a__law_pick T.d__law_pick ["_law_source_here", "_law_size"] m__law_pick :=
 adef T.F__law_pick sc__law_pick fun cdv A outer s H E hr =>
 ass_cons (as_set (i := 2) sc__law_pick.nd (ae_ix (hu_of hr) (ae_v 0) (ae_int)))
 (ass_cons (as_asg (ae_op aop_add (ae_v 2) (ae_int)) (ag_sub (hu_of hr) (ae_v 0) (ae_int)))
 (ass_cons (as_if (at_cmp aop_lt (ae_v 1) (ae_int))
 (ass_one (as_ret (ae_int)))
 (ass_nil))
 (ass_cons (as_if ((aw_and (at_cmp aop_ge (ae_ix (hu_of hr) (ae_v 0) (ae_int)) (ae_op aop_pow (ae_int) (ae_int))) (aw_and1 (at_cmp aop_gt (ae_ix (hu_of hr) (ae_v 0) (ae_int)) (ae_int)))).pt)
 (ass_cons (as_set (i := 3) sc__law_pick.nd (ae_op aop_mod (ae_callT acall_int (by rfl) T.n_int PyProof.Rows.boot_int (aa_cons (ae_ix (hu_of hr) (ae_v 0) (ae_int)) (aa_nil))) (ae_v 1)))
 (ass_cons (as_asg (ae_op aop_fdiv (ae_ix (hu_of hr) (ae_v 0) (ae_int)) (ae_v 1)) (ag_sub (hu_of hr) (ae_v 0) (ae_int)))
 (ass_one (as_ret (ae_v 3)))))
 (ass_nil))
 (ass_cons (as_set (i := 4) sc__law_pick.nd (ae_op aop_mod (ae_callT acall_int (by rfl) T.n_int PyProof.Rows.boot_int (aa_cons (ae_op aop_add (ae_op aop_add (ae_ix (hu_of hr) (ae_v 0) (ae_int)) (ae_op aop_mul (ae_int) (ae_v 2))) (ae_int)) (aa_nil))) (ae_int)))
 (ass_cons (as_set (i := 4) sc__law_pick.nd (ae_op aop_mod (ae_callT acall_int (by rfl) T.n_int PyProof.Rows.boot_int (aa_cons (ae_op aop_mul (ae_v 4) (ae_op aop_add (ae_v 4) (ae_int))) (aa_nil))) (ae_int)))
 (ass_cons (as_set (i := 4) sc__law_pick.nd (ae_op aop_mod (ae_callT acall_int (by rfl) T.n_int PyProof.Rows.boot_int (aa_cons (ae_op aop_add (ae_op aop_mul (ae_v 4) (ae_op aop_add (ae_v 4) (ae_int))) (ae_op aop_mul (ae_int) (ae_v 2))) (aa_nil))) (ae_int)))
 (ass_one (as_ret (ae_op aop_mod (ae_callT acall_int (by rfl) T.n_int PyProof.Rows.boot_int (aa_cons (ae_op aop_fdiv (ae_v 4) (ae_int)) (aa_nil))) (ae_v 1))))))))))
theorem ad__law_one (T : Txt K mg) : ADef P w K mg base 2 T.a__law_one T.d__law_one ["_law_source_here", "_law_row"] m__law_one :=
 adef T.F__law_one sc__law_one fun cdv A outer s H E hr =>
 ass_one (as_ret (ae_ix (hu_of hr) (ae_v 1) (ae_call (ad__law_pick T) (hr.mono (by omega)) (by rfl) T.g__law_pick T.F__law_pick.kp T.b__law_pick (aa_cons (ae_v 0) (aa_cons (ae_callB acall_len (by rfl) T.n_len PySem.boot_len (aa_cons (ae_v 1) (aa_nil))) (aa_nil))))))
theorem ad__law_link (T : Txt K mg) : ADef P w K mg base 3 T.a__law_link T.d__law_link ["_law_source_here", "_law_group"] m__law_link :=
 adef T.F__law_link sc__law_link fun cdv A outer s H E hr =>
 ass_cons (as_if (at_cmp (aop_eq hr.units) (ae_call (ad__law_pick T) (hr.mono (by omega)) (by rfl) T.g__law_pick T.F__law_pick.kp T.b__law_pick (aa_cons (ae_v 0) (aa_cons (ae_int) (aa_nil)))) (ae_int))
 (ass_one (as_ret (ae_tup (aa_cons (ae_str) (aa_nil)))))
 (ass_nil))
 (ass_one (as_ret (ae_tup (aa_cons (ae_str) (aa_cons (ae_call (ad__law_one T) (hr.mono (by omega)) (by rfl) T.g__law_one T.F__law_one.kp T.b__law_one (aa_cons (ae_v 0) (aa_cons (ae_v 1) (aa_nil)))) (aa_nil))))))
theorem ad__law_figure (T : Txt K mg) : ADef P w K mg base 3 T.a__law_figure T.d__law_figure ["_law_source_here"] m__law_figure :=
 adef T.F__law_figure sc__law_figure fun cdv A outer s H E hr =>
 ass_cons (as_set (i := 1) sc__law_figure.nd (ae_call (ad__law_pick T) (hr.mono (by omega)) (by rfl) T.g__law_pick T.F__law_pick.kp T.b__law_pick (aa_cons (ae_v 0) (aa_cons (ae_int) (aa_nil)))))
 (ass_cons (as_if (at_cmp aop_lt (ae_v 1) (ae_int))
 (ass_one (as_ret (ae_op aop_sub (ae_call (ad__law_pick T) (hr.mono (by omega)) (by rfl) T.g__law_pick T.F__law_pick.kp T.b__law_pick (aa_cons (ae_v 0) (aa_cons (ae_int) (aa_nil)))) (ae_int))))
 (ass_nil))
 (ass_cons (as_if (at_cmp (aop_eq hr.units) (ae_v 1) (ae_int))
 (ass_one (as_ret (ae_call (ad__law_one T) (hr.mono (by omega)) (by rfl) T.g__law_one T.F__law_one.kp T.b__law_one (aa_cons (ae_v 0) (aa_cons (ae_lst (aa_cons (ae_un aun_neg (ae_op aop_pow (ae_int) (ae_int))) (aa_cons (ae_op aop_pow (ae_int) (ae_int)) (aa_nil)))) (aa_nil))))))
 (ass_nil))
 (ass_one (as_ret (ae_op aop_sub (ae_op aop_add (ae_op aop_mul (ae_call (ad__law_pick T) (hr.mono (by omega)) (by rfl) T.g__law_pick T.F__law_pick.kp T.b__law_pick (aa_cons (ae_v 0) (aa_cons (ae_int) (aa_nil)))) (ae_int)) (ae_call (ad__law_pick T) (hr.mono (by omega)) (by rfl) T.g__law_pick T.F__law_pick.kp T.b__law_pick (aa_cons (ae_v 0) (aa_cons (ae_int) (aa_nil))))) (ae_op aop_pow (ae_int) (ae_int)))))))
theorem ad__law_term (T : Txt K mg) : ∀ n : Nat, ADef P w K mg base (n + 3) T.a__law_term T.d__law_term ["_law_source_here", "_law_names_here", "_law_depth"] (m__law_term n)
  | 0 => adef_bad
  | n + 1 => adef_up (adef T.F__law_term sc__law_term fun cdv A outer s H E (hr : Room (n + 3) _) =>
 ass_cons (as_set (i := 3) sc__law_term.nd (ae_call (ad__law_pick T) (hr.mono (by omega)) (by rfl) T.g__law_pick T.F__law_pick.kp T.b__law_pick (aa_cons (ae_v 0) (aa_cons (ae_int) (aa_nil)))))
 (ass_cons (as_if ((aw_and (at_cmp aop_gt (ae_v 2) (ae_int)) (aw_and1 (at_cmp aop_lt (ae_v 3) (ae_int)))).pt)
 (ass_cons (as_set (i := 4) sc__law_term.nd (ae_call (ad__law_term T n) hr (by rfl) T.g__law_term T.F__law_term.kp T.b__law_term (aa_cons (ae_v 0) (aa_cons (ae_v 1) (aa_cons (ae_op aop_sub (ae_v 2) (ae_int)) (aa_nil))))))
 (ass_one (as_ret (ae_tup (aa_cons (ae_ix (hu_of hr) (ae_lst (aa_cons (ae_str) (aa_cons (ae_str) (aa_cons (ae_str) (aa_cons (ae_str) (aa_nil)))))) (ae_v 3)) (aa_cons (ae_v 4) (aa_cons (ae_call (ad__law_term T n) hr (by rfl) T.g__law_term T.F__law_term.kp T.b__law_term (aa_cons (ae_v 0) (aa_cons (ae_v 1) (aa_cons (ae_op aop_sub (ae_v 2) (ae_int)) (aa_nil))))) (aa_nil))))))))
 (ass_nil))
 (ass_cons (as_if (at_cmp (aop_eq hr.units) (ae_v 3) (ae_int))
 (ass_one (as_ret (ae_tup (aa_cons (ae_str) (aa_cons (ae_call (ad__law_figure T) (hr.mono (by omega)) (by rfl) T.g__law_figure T.F__law_figure.kp T.b__law_figure (aa_cons (ae_v 0) (aa_nil))) (aa_nil))))))
 (ass_nil))
 (ass_one (as_ret (ae_tup (aa_cons (ae_str) (aa_cons (ae_call (ad__law_one T) (hr.mono (by omega)) (by rfl) T.g__law_one T.F__law_one.kp T.b__law_one (aa_cons (ae_v 0) (aa_cons (ae_sl (ae_v 1) (ao_none) (ao_some (ae_int))) (aa_nil)))) (aa_nil)))))))))
theorem ad__law_fact (T : Txt K mg) : ∀ n : Nat, ADef P w K mg base (n + 23) T.a__law_fact T.d__law_fact ["_law_source_here", "_law_names_here", "_law_depth"] (m__law_fact n)
  | 0 => adef_bad
  | n + 1 => adef_up (adef T.F__law_fact sc__law_fact fun cdv A outer s H E (hr : Room (n + 23) _) =>
 ass_cons (as_set (i := 3) sc__law_fact.nd (ae_call (ad__law_pick T) (hr.mono (by omega)) (by rfl) T.g__law_pick T.F__law_pick.kp T.b__law_pick (aa_cons (ae_v 0) (aa_cons (ae_int) (aa_nil)))))
 (ass_cons (as_if ((aw_and (at_cmp aop_gt (ae_v 2) (ae_int)) (aw_and1 (at_cmp aop_lt (ae_v 3) (ae_int)))).pt)
 (ass_cons (as_set (i := 4) sc__law_fact.nd (ae_call (ad__law_term T 20) (hr.mono (by omega)) (by rfl) T.g__law_term T.F__law_term.kp T.b__law_term (aa_cons (ae_v 0) (aa_cons (ae_v 1) (aa_cons (ae_op aop_sub (ae_v 2) (ae_int)) (aa_nil))))))
 (ass_cons (as_set (i := 5) sc__law_fact.nd (ae_v 4))
 (ass_cons (as_if (at_cmp aop_gt (ae_call (ad__law_pick T) (hr.mono (by omega)) (by rfl) T.g__law_pick T.F__law_pick.kp T.b__law_pick (aa_cons (ae_v 0) (aa_cons (ae_int) (aa_nil)))) (ae_int))
 (ass_one (as_set (i := 5) sc__law_fact.nd (ae_call (ad__law_term T 20) (hr.mono (by omega)) (by rfl) T.g__law_term T.F__law_term.kp T.b__law_term (aa_cons (ae_v 0) (aa_cons (ae_v 1) (aa_cons (ae_op aop_sub (ae_v 2) (ae_int)) (aa_nil)))))))
 (ass_nil))
 (ass_one (as_ret (ae_tup (aa_cons (ae_ix (hu_of hr) (ae_lst (aa_cons (ae_str) (aa_cons (ae_str) (aa_cons (ae_str) (aa_cons (ae_str) (aa_nil)))))) (ae_v 3)) (aa_cons (ae_v 4) (aa_cons (ae_v 5) (aa_nil))))))))))
 (ass_nil))
 (ass_cons (as_if ((aw_and (at_cmp aop_gt (ae_v 2) (ae_int)) (aw_and1 (at_cmp aop_lt (ae_v 3) (ae_int)))).pt)
 (ass_cons (as_set (i := 6) sc__law_fact.nd (ae_sl (ae_v 1) (ao_some (ae_op aop_sub (ae_op aop_mul (ae_int) (ae_v 3)) (ae_int))) (ao_some (ae_op aop_sub (ae_op aop_mul (ae_int) (ae_v 3)) (ae_int)))))
 (ass_cons (as_set (i := 4) sc__law_fact.nd (ae_call (ad__law_link T) (hr.mono (by omega)) (by rfl) T.g__law_link T.F__law_link.kp T.b__law_link (aa_cons (ae_v 0) (aa_cons (ae_v 6) (aa_nil)))))
 (ass_one (as_ret (ae_tup (aa_cons (ae_str) (aa_cons (ae_v 4) (aa_cons (ae_call (ad__law_link T) (hr.mono (by omega)) (by rfl) T.g__law_link T.F__law_link.kp T.b__law_link (aa_cons (ae_v 0) (aa_cons (ae_v 6) (aa_nil)))) (aa_nil)))))))))
 (ass_nil))
 (ass_cons (as_if ((aw_and (at_cmp aop_gt (ae_v 2) (ae_int)) (aw_and1 (at_cmp aop_lt (ae_v 3) (ae_int)))).pt)
 (ass_one (as_ret (ae_tup (aa_cons (ae_str) (aa_cons (ae_call (ad__law_fact T n) hr (by rfl) T.g__law_fact T.F__law_fact.kp T.b__law_fact (aa_cons (ae_v 0) (aa_cons (ae_v 1) (aa_cons (ae_op aop_sub (ae_v 2) (ae_int)) (aa_nil))))) (aa_nil))))))
 (ass_nil))
 (ass_cons (as_if ((aw_and (at_cmp aop_gt (ae_v 2) (ae_int)) (aw_and1 (at_cmp aop_lt (ae_v 3) (ae_int)))).pt)
 (ass_cons (as_set (i := 4) sc__law_fact.nd (ae_call (ad__law_fact T n) hr (by rfl) T.g__law_fact T.F__law_fact.kp T.b__law_fact (aa_cons (ae_v 0) (aa_cons (ae_v 1) (aa_cons (ae_op aop_sub (ae_v 2) (ae_int)) (aa_nil))))))
 (ass_one (as_ret (ae_tup (aa_cons (ae_ix (hu_of hr) (ae_lst (aa_cons (ae_str) (aa_cons (ae_str) (aa_nil)))) (ae_op aop_mod (ae_v 3) (ae_int))) (aa_cons (ae_v 4) (aa_cons (ae_call (ad__law_fact T n) hr (by rfl) T.g__law_fact T.F__law_fact.kp T.b__law_fact (aa_cons (ae_v 0) (aa_cons (ae_v 1) (aa_cons (ae_op aop_sub (ae_v 2) (ae_int)) (aa_nil))))) (aa_nil))))))))
 (ass_nil))
 (ass_cons (as_if (at_cmp (aop_eq hr.units) (ae_v 3) (ae_int))
 (ass_one (as_ret (ae_tup (aa_cons (ae_str) (aa_cons (ae_cmp (aop_eq hr.units) (ae_call (ad__law_pick T) (hr.mono (by omega)) (by rfl) T.g__law_pick T.F__law_pick.kp T.b__law_pick (aa_cons (ae_v 0) (aa_cons (ae_int) (aa_nil)))) (ae_int)) (aa_nil))))))
 (ass_nil))
 (ass_one (as_ret (ae_tup (aa_cons (ae_str) (aa_cons (ae_call (ad__law_one T) (hr.mono (by omega)) (by rfl) T.g__law_one T.F__law_one.kp T.b__law_one (aa_cons (ae_v 0) (aa_cons (ae_sl (ae_v 1) (ao_some (ae_int)) (ao_some (ae_int))) (aa_nil)))) (aa_nil))))))))))))
theorem ad__law_names (T : Txt K mg) : ADef P w K mg base 2 T.a__law_names T.d__law_names ["_law_source_here"] m__law_names :=
 adef T.F__law_names sc__law_names fun cdv A outer s H E hr =>
 ass_cons (as_set (i := 1) sc__law_names.nd (ae_call (ad__law_pick T) (hr.mono (by omega)) (by rfl) T.g__law_pick T.F__law_pick.kp T.b__law_pick (aa_cons (ae_v 0) (aa_cons (ae_int) (aa_nil)))))
 (ass_cons (as_set (i := 2) sc__law_names.nd (ae_lst (aa_nil)))
 (ass_cons (as_for PassesOwn.never (by rfl) (ai_rg1 (by rfl) T.n_range (ae_int)) (ag_name sc__law_names.nd)
 (ass_cons (as_set (i := 4) sc__law_names.nd (ae_ix (hu_of hr) (ae_str) (ae_v 3)))
 (ass_cons (as_if (at_cmp (aop_eq hr.units) (ae_v 1) (ae_int))
 (ass_one (as_set (i := 4) sc__law_names.nd (ae_op aop_add (ae_v 4) (ae_str))))
 (ass_nil))
 (ass_cons (as_if (at_cmp (aop_eq hr.units) (ae_v 1) (ae_int))
 (ass_one (as_set (i := 4) sc__law_names.nd (ae_op aop_add (ae_str) (ae_v 4))))
 (ass_nil))
 (ass_cons (as_if (at_cmp (aop_eq hr.units) (ae_v 1) (ae_int))
 (ass_one (as_set (i := 4) sc__law_names.nd (ae_op aop_add (ae_str) (ae_callT acall_str (by rfl) T.n_str PyProof.Rows.boot_str (aa_cons (ae_op aop_add (ae_op aop_mul (ae_v 3) (ae_v 3)) (ae_int)) (aa_nil))))))
 (ass_nil))
 (ass_one (as_ex (ae_mt PySem.F.plainAttrs_list PySem.F.slot_list_append PySem.F.type_list_append amt_append (ae_v 2) (aa_cons (ae_v 4) (aa_nil))))))))))
 (ass_one (as_ret (ae_v 2)))))
theorem ad__law_source (T : Txt K mg) : ADef P w K mg base 1 T.a__law_source T.d__law_source ["_law_cell_here"] m__law_source :=
 adef T.F__law_source sc__law_source fun cdv A outer s H E hr =>
 ass_one (as_ret (ae_lst (aa_cons (ae_v 0) (aa_cons (ae_v 0) (aa_cons (ae_int) (aa_nil))))))
theorem ad__law_variables (T : Txt K mg) : ∀ n : Nat, ADef P w K mg base (n + 0) T.a__law_variables T.d__law_variables ["_law_expression"] (m__law_variables n)
  | 0 => adef_bad
  | n + 1 => adef_up (adef T.F__law_variables sc__law_variables fun cdv A outer s H E (hr : Room (n + 0) _) =>
 ass_cons (as_if (at_cmp (aop_eq hr.units) (ae_ix (hu_of hr) (ae_v 0) (ae_int)) (ae_str))
 (ass_one (as_ret (ae_lst (aa_cons (ae_ix (hu_of hr) (ae_v 0) (ae_int)) (aa_nil)))))
 (ass_nil))
 (ass_cons (as_set (i := 1) sc__law_variables.nd (ae_lst (aa_nil)))
 (ass_cons (as_for PassesOwn.never (by rfl) (ai_seq (ae_sl (ae_v 0) (ao_some (ae_int)) (ao_none))) (ag_name sc__law_variables.nd)
 (ass_one (as_if (at_e (ae_isi (by rfl) T.n_isinstance (by rfl) T.n_tuple PyProof.Rows.boot_tuple (ae_v 2)))
 (ass_one (as_set (i := 1) sc__law_variables.nd (ae_op aop_add (ae_v 1) (ae_call (ad__law_variables T n) hr (by rfl) T.g__law_variables T.F__law_variables.kp T.b__law_variables (aa_cons (ae_v 2) (aa_nil))))))
 (ass_nil))))
 (ass_one (as_ret (ae_v 1))))))
theorem ad__law_values (T : Txt K mg) : ADef P w K mg base 21 T.a__law_values T.d__law_values ["_law_source_here", "_law_names_here", "_law_expression"] m__law_values :=
 adef T.F__law_values sc__law_values fun cdv A outer s H E hr =>
 ass_cons (as_set (i := 3) sc__law_values.nd (ae_dict0))
 (ass_cons (as_for PassesOwn.never (by rfl) (ai_seq (ae_call (ad__law_variables T 20) (hr.mono (by omega)) (by rfl) T.g__law_variables T.F__law_variables.kp T.b__law_variables (aa_cons (ae_v 2) (aa_nil)))) (ag_name sc__law_values.nd)
 (ass_cons (as_set (i := 5) sc__law_values.nd (ae_mt PySem.F.plainAttrs_list PySem.F.slot_list_index PySem.F.type_list_index amt_index (ae_v 1) (aa_cons (ae_v 4) (aa_nil))))
 (ass_one (as_if (at_cmp aop_lt (ae_v 5) (ae_int))
 (ass_one (as_asg (ae_call (ad__law_figure T) (hr.mono (by omega)) (by rfl) T.g__law_figure T.F__law_figure.kp T.b__law_figure (aa_cons (ae_v 0) (aa_nil))) (ag_sub (hu_of hr) (ae_v 3) (ae_v 4))))
 (ass_one (as_if (at_cmp aop_lt (ae_v 5) (ae_int))
 (ass_one (as_asg (ae_cmp (aop_eq hr.units) (ae_call (ad__law_pick T) (hr.mono (by omega)) (by rfl) T.g__law_pick T.F__law_pick.kp T.b__law_pick (aa_cons (ae_v 0) (aa_cons (ae_int) (aa_nil)))) (ae_int)) (ag_sub (hu_of hr) (ae_v 3) (ae_v 4))))
 (ass_one (as_asg (ae_call (ad__law_one T) (hr.mono (by omega)) (by rfl) T.g__law_one T.F__law_one.kp T.b__law_one (aa_cons (ae_v 0) (aa_cons (ae_lst (aa_cons (ae_non) (aa_cons (ae_non) (aa_cons (ae_int) (aa_cons (ae_int) (aa_cons (ae_int) (aa_cons (ae_op aop_mul (ae_int) (ae_call (ad__law_pick T) (hr.mono (by omega)) (by rfl) T.g__law_pick T.F__law_pick.kp T.b__law_pick (aa_cons (ae_v 0) (aa_cons (ae_int) (aa_nil))))) (aa_nil)))))))) (aa_nil)))) (ag_sub (hu_of hr) (ae_v 3) (ae_v 4))))))))))
 (ass_one (as_ret (ae_v 3))))
theorem ad_law (T : Txt K mg) : ADef P w K mg base 44 T.a_law T.d_law ["_law_script"] m_law :=
 adef T.F_law sc_law fun cdv A outer s H E hr =>
 ass_cons (as_set (i := 1) sc_law.nd (ae_call (ad__law_source T) (hr.mono (by omega)) (by rfl) T.g__law_source T.F__law_source.kp T.b__law_source (aa_cons (ae_op aop_add (ae_call (ad__law_cell T) (hr.mono (by omega)) (by rfl) T.g__law_cell T.F__law_cell.kp T.b__law_cell (aa_cons (ae_v 0) (aa_cons (ae_int) (aa_nil)))) (ae_op aop_mul (ae_int) (ae_call (ad__law_cell T) (hr.mono (by omega)) (by rfl) T.g__law_cell T.F__law_cell.kp T.b__law_cell (aa_cons (ae_v 0) (aa_cons (ae_int) (aa_nil)))))) (aa_nil))))
 (ass_cons (as_set (i := 2) sc_law.nd (ae_call (ad__law_source T) (hr.mono (by omega)) (by rfl) T.g__law_source T.F__law_source.kp T.b__law_source (aa_cons (ae_op aop_add (ae_call (ad__law_cell T) (hr.mono (by omega)) (by rfl) T.g__law_cell T.F__law_cell.kp T.b__law_cell (aa_cons (ae_v 0) (aa_cons (ae_int) (aa_nil)))) (ae_op aop_mul (ae_int) (ae_call (ad__law_cell T) (hr.mono (by omega)) (by rfl) T.g__law_cell T.F__law_cell.kp T.b__law_cell (aa_cons (ae_v 0) (aa_cons (ae_int) (aa_nil)))))) (aa_nil))))
 (ass_cons (as_set (i := 3) sc_law.nd (ae_sl (ae_call (ad__law_names T) (hr.mono (by omega)) (by rfl) T.g__law_names T.F__law_names.kp T.b__law_names (aa_cons (ae_v 1) (aa_nil))) (ao_none) (ao_some (ae_int))))
 (ass_cons (as_for PassesOwn.never (by rfl) (ai_seq (ae_lst (aa_cons (ae_int) (aa_cons (ae_int) (aa_cons (ae_int) (aa_nil)))))) (ag_name sc_law.nd)
 (ass_cons (as_set (i := 5) sc_law.nd (ae_call (ad__law_pick T) (hr.mono (by omega)) (by rfl) T.g__law_pick T.F__law_pick.kp T.b__law_pick (aa_cons (ae_v 1) (aa_cons (ae_int) (aa_nil)))))
 (ass_cons (as_if (at_cmp (aop_eq hr.units) (ae_v 5) (ae_int))
 (ass_one (as_set (i := 8) sc_law.nd (ae_call (ad__law_link T) (hr.mono (by omega)) (by rfl) T.g__law_link T.F__law_link.kp T.b__law_link (aa_cons (ae_v 1) (aa_cons (ae_sl (ae_v 3) (ao_some (ae_int)) (ao_some (ae_int))) (aa_nil))))))
 (ass_one (as_if (at_cmp aop_lt (ae_v 5) (ae_int))
 (ass_one (as_set (i := 8) sc_law.nd (ae_call (ad__law_term T 20) (hr.mono (by omega)) (by rfl) T.g__law_term T.F__law_term.kp T.b__law_term (aa_cons (ae_v 1) (aa_cons (ae_v 3) (aa_cons (ae_v 4) (aa_nil)))))))
 (ass_one (as_set (i := 8) sc_law.nd (ae_call (ad__law_fact T 20) (hr.mono (by omega)) (by rfl) T.g__law_fact T.F__law_fact.kp T.b__law_fact (aa_cons (ae_v 1) (aa_cons (ae_v 3) (aa_cons (ae_v 4) (aa_nil))))))))))
 (ass_cons (as_set (i := 6) sc_law.nd (ae_call (ad__law_values T) (hr.mono (by omega)) (by rfl) T.g__law_values T.F__law_values.kp T.b__law_values (aa_cons (ae_v 2) (aa_cons (ae_v 3) (aa_cons (ae_v 8) (aa_nil))))))
 (ass_cons (as_set (i := 7) sc_law.nd (ae_call (ad__law_values T) (hr.mono (by omega)) (by rfl) T.g__law_values T.F__law_values.kp T.b__law_values (aa_cons (ae_v 2) (aa_cons (ae_v 3) (aa_cons (ae_v 8) (aa_nil))))))
 (ass_one (as_if (at_not (at_e (ae_call (ad__law_agrees T) (hr.mono (by omega)) (by rfl) T.g__law_agrees T.F__law_agrees.kp T.b__law_agrees (aa_cons (ae_v 8) (aa_cons (ae_v 6) (aa_cons (ae_v 7) (aa_nil)))))))
 (ass_one (as_ret (ae_bl)))
 (ass_nil))))))))
 (ass_one (as_ret (ae_bl))))))
end
end Law

namespace Law
open PySem PySem.Spec PyProof.Rows L2 Ab
open scoped Classical
theorem pick_spec {A : AH} {s : Nat} {n : Int} (hs : Sr s A) (hn : n < 2 ^ 60) : DrwS s A (m__law_pick [.ref s, .int n] A) (Below n) := by
  obtain ⟨c, r, k, h⟩ := hs
  have hs : s < A.length := (List.getElem?_eq_some_iff.mp h).1
  unfold DrwS
  refine sat_body rfl (sat_seq ?_)
  have i2 : ixD (.ref s) (.int 2) A = .ok (.int k) A := ev_ix_r (rdL_l h) rfl
  have t2 : stD (.ref s) (.int 2) (.int (k + 1)) A = .ok () (A.set s (.lst [.int c, .int r, .int (k + 1)])) := ev_st_l (k := 2) (j := 2) h rfl
  simp only [sat_ok, sat_bad, sat_bind, sat_ite, bind_ok, bind_bad, thn_nx, thn_rt, thn_bk, thn_ct, fin_rt, fin_nx, ev_v, ev_c, ev_op, ev_un, ev_nil, ev_cons, ev_tup, ev_lst, ev_call, ev_own, ev_sl, ev_no, ev_part, ev_and, ev_or, ev_not, ev_if, ev_t, ev_tb, ev_tnot, ev_tand, ev_tor, ev_mt, ev_mt0, ev_rgd, ev_set, ev_asg, ev_ret, ev_retN, ev_ex, ev_pass, ev_brk, ev_cont, ev_ifS, ev_aug, ev_gn, ev_gtp, ev_gnl, ev_gcs, ev_gsb, ev_for, ev_rg1, ev_rg2, ev_its, ev_enum, ev_lc, ev_yes, ev_add_ii, ev_add_ss, ev_add_tt, ev_add_rr, ev_sub, ev_mul, ev_mod, ev_fdiv, ev_pow, ev_neg, ev_lt, ev_le, ev_gt, ev_ge, ev_eq_ii, ev_eq_ss, ev_eq_bb, ev_ne_ii, ev_ne_ss, ev_ne_bb, ev_is_n, ev_isnt_n, ev_int_i, ev_int_b, ev_min_ii, ev_max_ii, ev_abs, ev_tup_of, ev_tup_ofL, ev_lst_ofT, ev_lst_ofL, ev_len_t, ev_len_s, ev_len_r, ev_tru_b, ev_alloc, ev_tupD, ev_lstD, isi_tuple_non, isi_tuple_bl, isi_tuple_int, isi_tuple_str, isi_tuple_tup, isi_tuple_l, isi_tuple_f, isi_list_non, isi_list_bl, isi_list_int, isi_list_str, isi_list_tup, isi_list_l, isi_list_f, isi_bool_non, isi_bool_bl, isi_bool_int, isi_bool_str, isi_bool_tup, isi_bool_l, isi_bool_f, isi_int_non, isi_int_bl, isi_int_int, isi_int_str, isi_int_tup, isi_int_l, isi_int_f, isi_str_non, isi_str_bl, isi_str_int, isi_str_str, isi_str_tup, isi_str_l, isi_str_f, isi_dict_non, isi_dict_bl, isi_dict_int, isi_dict_str, isi_dict_tup, isi_dict_l, isi_dict_f, Ab.isNon, args, List.map, List.length_cons, List.length_nil, List.length_singleton, List.replicate, Nat.reduceSub, Nat.reduceAdd, Nat.zero_add, List.cons_append, List.nil_append, List.getElem?_cons_zero, List.getElem?_cons_succ, List.set_cons_zero, List.set_cons_succ, Option.some.injEq, decide_eq_true_eq, Bool.not_eq_true', decide_eq_false_iff_not, ite_true, ite_false, if_true, if_false, reduceIte, Bool.false_eq_true, Bool.not_true, Bool.not_false, Bool.true_eq_false, decide_true, decide_false, Nat.reduceLeDiff, Nat.reduceLT, i2]
  refine sat_seq ?_
  simp only [sat_ok, sat_bad, sat_bind, sat_ite, bind_ok, bind_bad, thn_nx, thn_rt, thn_bk, thn_ct, fin_rt, fin_nx, ev_v, ev_c, ev_op, ev_un, ev_nil, ev_cons, ev_tup, ev_lst, ev_call, ev_own, ev_sl, ev_no, ev_part, ev_and, ev_or, ev_not, ev_if, ev_t, ev_tb, ev_tnot, ev_tand, ev_tor, ev_mt, ev_mt0, ev_rgd, ev_set, ev_asg, ev_ret, ev_retN, ev_ex, ev_pass, ev_brk, ev_cont, ev_ifS, ev_aug, ev_gn, ev_gtp, ev_gnl, ev_gcs, ev_gsb, ev_for, ev_rg1, ev_rg2, ev_its, ev_enum, ev_lc, ev_yes, ev_add_ii, ev_add_ss, ev_add_tt, ev_add_rr, ev_sub, ev_mul, ev_mod, ev_fdiv, ev_pow, ev_neg, ev_lt, ev_le, ev_gt, ev_ge, ev_eq_ii, ev_eq_ss, ev_eq_bb, ev_ne_ii, ev_ne_ss, ev_ne_bb, ev_is_n, ev_isnt_n, ev_int_i, ev_int_b, ev_min_ii, ev_max_ii, ev_abs, ev_tup_of, ev_tup_ofL, ev_lst_ofT, ev_lst_ofL, ev_len_t, ev_len_s, ev_len_r, ev_tru_b, ev_alloc, ev_tupD, ev_lstD, isi_tuple_non, isi_tuple_bl, isi_tuple_int, isi_tuple_str, isi_tuple_tup, isi_tuple_l, isi_tuple_f, isi_list_non, isi_list_bl, isi_list_int, isi_list_str, isi_list_tup, isi_list_l, isi_list_f, isi_bool_non, isi_bool_bl, isi_bool_int, isi_bool_str, isi_bool_tup, isi_bool_l, isi_bool_f, isi_int_non, isi_int_bl, isi_int_int, isi_int_str, isi_int_tup, isi_int_l, isi_int_f, isi_str_non, isi_str_bl, isi_str_int, isi_str_str, isi_str_tup, isi_str_l, isi_str_f, isi_dict_non, isi_dict_bl, isi_dict_int, isi_dict_str, isi_dict_tup, isi_dict_l, isi_dict_f, Ab.isNon, args, List.map, List.length_cons, List.length_nil, List.length_singleton, List.replicate, Nat.reduceSub, Nat.reduceAdd, Nat.zero_add, List.cons_append, List.nil_append, List.getElem?_cons_zero, List.getElem?_cons_succ, List.set_cons_zero, List.set_cons_succ, Option.some.injEq, decide_eq_true_eq, Bool.not_eq_true', decide_eq_false_iff_not, ite_true, ite_false, if_true, if_false, reduceIte, Bool.false_eq_true, Bool.not_true, Bool.not_false, Bool.true_eq_false, decide_true, decide_false, Nat.reduceLeDiff, Nat.reduceLT, t2]
  have h' : (A.set s (.lst [.int c, .int r, .int (k + 1)]))[s]? = some (.lst [.int c, .int r, .int (k + 1)]) := List.getElem?_set_self hs
  have hset : ∀ o, (A.set s (.lst [.int c, .int r, .int (k + 1)])).set s o = A.set s o := fun o => List.set_set ..
  have hA : Dr s A (A.set s (.lst [.int c, .int r, .int (k + 1)])) := .set hs
  generalize A.set s (.lst [.int c, .int r, .int (k + 1)]) = A1 at h' hset hA ⊢
  have i0 : ixD (.ref s) (.int 0) A1 = .ok (.int c) A1 := ev_ix_r (rdL_l h') rfl
  have i1 : ixD (.ref s) (.int 1) A1 = .ok (.int r) A1 := ev_ix_r (rdL_l h') rfl
  have t1 : ∀ v, stD (.ref s) (.int 1) (.int v) A1 = .ok () (A.set s (.lst [.int c, .int v, .int (k + 1)])) := fun v => by rw [ev_st_l (k := 1) (j := 1) h' rfl, hset]; rfl
  have e18 : CPow 10 18 := powOk (by decide) (by decide) (by decide)
  refine sat_seq ?_
  simp only [sat_ok, sat_bad, sat_bind, sat_ite, bind_ok, bind_bad, thn_nx, thn_rt, thn_bk, thn_ct, fin_rt, fin_nx, ev_v, ev_c, ev_op, ev_un, ev_nil, ev_cons, ev_tup, ev_lst, ev_call, ev_own, ev_sl, ev_no, ev_part, ev_and, ev_or, ev_not, ev_if, ev_t, ev_tb, ev_tnot, ev_tand, ev_tor, ev_mt, ev_mt0, ev_rgd, ev_set, ev_asg, ev_ret, ev_retN, ev_ex, ev_pass, ev_brk, ev_cont, ev_ifS, ev_aug, ev_gn, ev_gtp, ev_gnl, ev_gcs, ev_gsb, ev_for, ev_rg1, ev_rg2, ev_its, ev_enum, ev_lc, ev_yes, ev_add_ii, ev_add_ss, ev_add_tt, ev_add_rr, ev_sub, ev_mul, ev_mod, ev_fdiv, ev_pow, ev_neg, ev_lt, ev_le, ev_gt, ev_ge, ev_eq_ii, ev_eq_ss, ev_eq_bb, ev_ne_ii, ev_ne_ss, ev_ne_bb, ev_is_n, ev_isnt_n, ev_int_i, ev_int_b, ev_min_ii, ev_max_ii, ev_abs, ev_tup_of, ev_tup_ofL, ev_lst_ofT, ev_lst_ofL, ev_len_t, ev_len_s, ev_len_r, ev_tru_b, ev_alloc, ev_tupD, ev_lstD, isi_tuple_non, isi_tuple_bl, isi_tuple_int, isi_tuple_str, isi_tuple_tup, isi_tuple_l, isi_tuple_f, isi_list_non, isi_list_bl, isi_list_int, isi_list_str, isi_list_tup, isi_list_l, isi_list_f, isi_bool_non, isi_bool_bl, isi_bool_int, isi_bool_str, isi_bool_tup, isi_bool_l, isi_bool_f, isi_int_non, isi_int_bl, isi_int_int, isi_int_str, isi_int_tup, isi_int_l, isi_int_f, isi_str_non, isi_str_bl, isi_str_int, isi_str_str, isi_str_tup, isi_str_l, isi_str_f, isi_dict_non, isi_dict_bl, isi_dict_int, isi_dict_str, isi_dict_tup, isi_dict_l, isi_dict_f, Ab.isNon, args, List.map, List.length_cons, List.length_nil, List.length_singleton, List.replicate, Nat.reduceSub, Nat.reduceAdd, Nat.zero_add, List.cons_append, List.nil_append, List.getElem?_cons_zero, List.getElem?_cons_succ, List.set_cons_zero, List.set_cons_succ, Option.some.injEq, decide_eq_true_eq, Bool.not_eq_true', decide_eq_false_iff_not, ite_true, ite_false, if_true, if_false, reduceIte, Bool.false_eq_true, Bool.not_true, Bool.not_false, Bool.true_eq_false, decide_true, decide_false, Nat.reduceLeDiff, Nat.reduceLT]
  split
  · exact ⟨⟨0, rfl, by omega, .inr rfl⟩, hA⟩
  rename_i hn2
  have n0 : 0 < n := by omega
  have dn : CDivW r n := divOk n0 (Int.lt_trans hn (by decide))
  have last : ∀ x : Int, CDivW x 9 := fun x => divOk (by decide) (by decide)
  have m1 : ∀ j : Int, mulOk 7919 j := fun j => mulOk_l (by decide) (by decide)
  have m2 : ∀ j : Int, mulOk 31 j := fun j => mulOk_l (by decide) (by decide)
  have m3 : ∀ i j : Int, mulOk (i % 2147483647) j := fun i j => mulOk_l (by omega) (by omega)
  have m4 : ∀ i j : Int, mulOk (i % 2147483629) j := fun i j => mulOk_l (by omega) (by omega)
  have p1 : (0 : Int) < 2147483647 := by decide
  have p2 : (0 : Int) < 2147483629 := by decide
  refine sat_seq (sat_ifS (b := decide (10 ^ 18 ≤ c ∧ 0 < r)) ?_ (fun _ => ?_) (fun _ => ?_))
  · simp only [sat_ok, sat_bad, sat_bind, sat_ite, bind_ok, bind_bad, thn_nx, thn_rt, thn_bk, thn_ct, fin_rt, fin_nx, ev_v, ev_c, ev_op, ev_un, ev_nil, ev_cons, ev_tup, ev_lst, ev_call, ev_own, ev_sl, ev_no, ev_part, ev_and, ev_or, ev_not, ev_if, ev_t, ev_tb, ev_tnot, ev_tand, ev_tor, ev_mt, ev_mt0, ev_rgd, ev_set, ev_asg, ev_ret, ev_retN, ev_ex, ev_pass, ev_brk, ev_cont, ev_ifS, ev_aug, ev_gn, ev_gtp, ev_gnl, ev_gcs, ev_gsb, ev_for, ev_rg1, ev_rg2, ev_its, ev_enum, ev_lc, ev_yes, ev_add_ii, ev_add_ss, ev_add_tt, ev_add_rr, ev_sub, ev_mul, ev_mod, ev_fdiv, ev_pow, ev_neg, ev_lt, ev_le, ev_gt, ev_ge, ev_eq_ii, ev_eq_ss, ev_eq_bb, ev_ne_ii, ev_ne_ss, ev_ne_bb, ev_is_n, ev_isnt_n, ev_int_i, ev_int_b, ev_min_ii, ev_max_ii, ev_abs, ev_tup_of, ev_tup_ofL, ev_lst_ofT, ev_lst_ofL, ev_len_t, ev_len_s, ev_len_r, ev_tru_b, ev_alloc, ev_tupD, ev_lstD, isi_tuple_non, isi_tuple_bl, isi_tuple_int, isi_tuple_str, isi_tuple_tup, isi_tuple_l, isi_tuple_f, isi_list_non, isi_list_bl, isi_list_int, isi_list_str, isi_list_tup, isi_list_l, isi_list_f, isi_bool_non, isi_bool_bl, isi_bool_int, isi_bool_str, isi_bool_tup, isi_bool_l, isi_bool_f, isi_int_non, isi_int_bl, isi_int_int, isi_int_str, isi_int_tup, isi_int_l, isi_int_f, isi_str_non, isi_str_bl, isi_str_int, isi_str_str, isi_str_tup, isi_str_l, isi_str_f, isi_dict_non, isi_dict_bl, isi_dict_int, isi_dict_str, isi_dict_tup, isi_dict_l, isi_dict_f, Ab.isNon, args, List.map, List.length_cons, List.length_nil, List.length_singleton, List.replicate, Nat.reduceSub, Nat.reduceAdd, Nat.zero_add, List.cons_append, List.nil_append, List.getElem?_cons_zero, List.getElem?_cons_succ, List.set_cons_zero, List.set_cons_succ, Option.some.injEq, decide_eq_true_eq, Bool.not_eq_true', decide_eq_false_iff_not, ite_true, ite_false, if_true, if_false, reduceIte, Bool.false_eq_true, Bool.not_true, Bool.not_false, Bool.true_eq_false, decide_true, decide_false, Nat.reduceLeDiff, Nat.reduceLT, i0, i1, e18]
    by_cases h1 : (10 : Int) ^ Int.toNat 18 ≤ c
    · rw [if_pos h1]; congr 1; exact decide_eq_decide.mpr ⟨fun q => ⟨h1, q⟩, fun q => q.2⟩
    · rw [if_neg h1]; congr 1; exact (decide_eq_false fun q => h1 q.1).symm
  · refine sat_seq ?_
    simp only [sat_ok, sat_bad, sat_bind, sat_ite, bind_ok, bind_bad, thn_nx, thn_rt, thn_bk, thn_ct, fin_rt, fin_nx, ev_v, ev_c, ev_op, ev_un, ev_nil, ev_cons, ev_tup, ev_lst, ev_call, ev_own, ev_sl, ev_no, ev_part, ev_and, ev_or, ev_not, ev_if, ev_t, ev_tb, ev_tnot, ev_tand, ev_tor, ev_mt, ev_mt0, ev_rgd, ev_set, ev_asg, ev_ret, ev_retN, ev_ex, ev_pass, ev_brk, ev_cont, ev_ifS, ev_aug, ev_gn, ev_gtp, ev_gnl, ev_gcs, ev_gsb, ev_for, ev_rg1, ev_rg2, ev_its, ev_enum, ev_lc, ev_yes, ev_add_ii, ev_add_ss, ev_add_tt, ev_add_rr, ev_sub, ev_mul, ev_mod, ev_fdiv, ev_pow, ev_neg, ev_lt, ev_le, ev_gt, ev_ge, ev_eq_ii, ev_eq_ss, ev_eq_bb, ev_ne_ii, ev_ne_ss, ev_ne_bb, ev_is_n, ev_isnt_n, ev_int_i, ev_int_b, ev_min_ii, ev_max_ii, ev_abs, ev_tup_of, ev_tup_ofL, ev_lst_ofT, ev_lst_ofL, ev_len_t, ev_len_s, ev_len_r, ev_tru_b, ev_alloc, ev_tupD, ev_lstD, isi_tuple_non, isi_tuple_bl, isi_tuple_int, isi_tuple_str, isi_tuple_tup, isi_tuple_l, isi_tuple_f, isi_list_non, isi_list_bl, isi_list_int, isi_list_str, isi_list_tup, isi_list_l, isi_list_f, isi_bool_non, isi_bool_bl, isi_bool_int, isi_bool_str, isi_bool_tup, isi_bool_l, isi_bool_f, isi_int_non, isi_int_bl, isi_int_int, isi_int_str, isi_int_tup, isi_int_l, isi_int_f, isi_str_non, isi_str_bl, isi_str_int, isi_str_str, isi_str_tup, isi_str_l, isi_str_f, isi_dict_non, isi_dict_bl, isi_dict_int, isi_dict_str, isi_dict_tup, isi_dict_l, isi_dict_f, Ab.isNon, args, List.map, List.length_cons, List.length_nil, List.length_singleton, List.replicate, Nat.reduceSub, Nat.reduceAdd, Nat.zero_add, List.cons_append, List.nil_append, List.getElem?_cons_zero, List.getElem?_cons_succ, List.set_cons_zero, List.set_cons_succ, Option.some.injEq, decide_eq_true_eq, Bool.not_eq_true', decide_eq_false_iff_not, ite_true, ite_false, if_true, if_false, reduceIte, Bool.false_eq_true, Bool.not_true, Bool.not_false, Bool.true_eq_false, decide_true, decide_false, Nat.reduceLeDiff, Nat.reduceLT, i1, n0]
    refine sat_seq ?_
    simp only [sat_ok, sat_bad, sat_bind, sat_ite, bind_ok, bind_bad, thn_nx, thn_rt, thn_bk, thn_ct, fin_rt, fin_nx, ev_v, ev_c, ev_op, ev_un, ev_nil, ev_cons, ev_tup, ev_lst, ev_call, ev_own, ev_sl, ev_no, ev_part, ev_and, ev_or, ev_not, ev_if, ev_t, ev_tb, ev_tnot, ev_tand, ev_tor, ev_mt, ev_mt0, ev_rgd, ev_set, ev_asg, ev_ret, ev_retN, ev_ex, ev_pass, ev_brk, ev_cont, ev_ifS, ev_aug, ev_gn, ev_gtp, ev_gnl, ev_gcs, ev_gsb, ev_for, ev_rg1, ev_rg2, ev_its, ev_enum, ev_lc, ev_yes, ev_add_ii, ev_add_ss, ev_add_tt, ev_add_rr, ev_sub, ev_mul, ev_mod, ev_fdiv, ev_pow, ev_neg, ev_lt, ev_le, ev_gt, ev_ge, ev_eq_ii, ev_eq_ss, ev_eq_bb, ev_ne_ii, ev_ne_ss, ev_ne_bb, ev_is_n, ev_isnt_n, ev_int_i, ev_int_b, ev_min_ii, ev_max_ii, ev_abs, ev_tup_of, ev_tup_ofL, ev_lst_ofT, ev_lst_ofL, ev_len_t, ev_len_s, ev_len_r, ev_tru_b, ev_alloc, ev_tupD, ev_lstD, isi_tuple_non, isi_tuple_bl, isi_tuple_int, isi_tuple_str, isi_tuple_tup, isi_tuple_l, isi_tuple_f, isi_list_non, isi_list_bl, isi_list_int, isi_list_str, isi_list_tup, isi_list_l, isi_list_f, isi_bool_non, isi_bool_bl, isi_bool_int, isi_bool_str, isi_bool_tup, isi_bool_l, isi_bool_f, isi_int_non, isi_int_bl, isi_int_int, isi_int_str, isi_int_tup, isi_int_l, isi_int_f, isi_str_non, isi_str_bl, isi_str_int, isi_str_str, isi_str_tup, isi_str_l, isi_str_f, isi_dict_non, isi_dict_bl, isi_dict_int, isi_dict_str, isi_dict_tup, isi_dict_l, isi_dict_f, Ab.isNon, args, List.map, List.length_cons, List.length_nil, List.length_singleton, List.replicate, Nat.reduceSub, Nat.reduceAdd, Nat.zero_add, List.cons_append, List.nil_append, List.getElem?_cons_zero, List.getElem?_cons_succ, List.set_cons_zero, List.set_cons_succ, Option.some.injEq, decide_eq_true_eq, Bool.not_eq_true', decide_eq_false_iff_not, ite_true, ite_false, if_true, if_false, reduceIte, Bool.false_eq_true, Bool.not_true, Bool.not_false, Bool.true_eq_false, decide_true, decide_false, Nat.reduceLeDiff, Nat.reduceLT, i1, t1, dn]
    exact ⟨⟨_, rfl, Int.emod_nonneg _ (by omega), .inl (Int.emod_lt_of_pos _ n0)⟩, .set hs⟩
  · simp only [sat_ok, sat_bad, sat_bind, sat_ite, bind_ok, bind_bad, thn_nx, thn_rt, thn_bk, thn_ct, fin_rt, fin_nx, ev_v, ev_c, ev_op, ev_un, ev_nil, ev_cons, ev_tup, ev_lst, ev_call, ev_own, ev_sl, ev_no, ev_part, ev_and, ev_or, ev_not, ev_if, ev_t, ev_tb, ev_tnot, ev_tand, ev_tor, ev_mt, ev_mt0, ev_rgd, ev_set, ev_asg, ev_ret, ev_retN, ev_ex, ev_pass, ev_brk, ev_cont, ev_ifS, ev_aug, ev_gn, ev_gtp, ev_gnl, ev_gcs, ev_gsb, ev_for, ev_rg1, ev_rg2, ev_its, ev_enum, ev_lc, ev_yes, ev_add_ii, ev_add_ss, ev_add_tt, ev_add_rr, ev_sub, ev_mul, ev_mod, ev_fdiv, ev_pow, ev_neg, ev_lt, ev_le, ev_gt, ev_ge, ev_eq_ii, ev_eq_ss, ev_eq_bb, ev_ne_ii, ev_ne_ss, ev_ne_bb, ev_is_n, ev_isnt_n, ev_int_i, ev_int_b, ev_min_ii, ev_max_ii, ev_abs, ev_tup_of, ev_tup_ofL, ev_lst_ofT, ev_lst_ofL, ev_len_t, ev_len_s, ev_len_r, ev_tru_b, ev_alloc, ev_tupD, ev_lstD, isi_tuple_non, isi_tuple_bl, isi_tuple_int, isi_tuple_str, isi_tuple_tup, isi_tuple_l, isi_tuple_f, isi_list_non, isi_list_bl, isi_list_int, isi_list_str, isi_list_tup, isi_list_l, isi_list_f, isi_bool_non, isi_bool_bl, isi_bool_int, isi_bool_str, isi_bool_tup, isi_bool_l, isi_bool_f, isi_int_non, isi_int_bl, isi_int_int, isi_int_str, isi_int_tup, isi_int_l, isi_int_f, isi_str_non, isi_str_bl, isi_str_int, isi_str_str, isi_str_tup, isi_str_l, isi_str_f, isi_dict_non, isi_dict_bl, isi_dict_int, isi_dict_str, isi_dict_tup, isi_dict_l, isi_dict_f, Ab.isNon, args, List.map, List.length_cons, List.length_nil, List.length_singleton, List.replicate, Nat.reduceSub, Nat.reduceAdd, Nat.zero_add, List.cons_append, List.nil_append, List.getElem?_cons_zero, List.getElem?_cons_succ, List.set_cons_zero, List.set_cons_succ, Option.some.injEq, decide_eq_true_eq, Bool.not_eq_true', decide_eq_false_iff_not, ite_true, ite_false, if_true, if_false, reduceIte, Bool.false_eq_true, Bool.not_true, Bool.not_false, Bool.true_eq_false, decide_true, decide_false, Nat.reduceLeDiff, Nat.reduceLT]
    refine sat_seq ?_
    simp only [sat_ok, sat_bad, sat_bind, sat_ite, bind_ok, bind_bad, thn_nx, thn_rt, thn_bk, thn_ct, fin_rt, fin_nx, ev_v, ev_c, ev_op, ev_un, ev_nil, ev_cons, ev_tup, ev_lst, ev_call, ev_own, ev_sl, ev_no, ev_part, ev_and, ev_or, ev_not, ev_if, ev_t, ev_tb, ev_tnot, ev_tand, ev_tor, ev_mt, ev_mt0, ev_rgd, ev_set, ev_asg, ev_ret, ev_retN, ev_ex, ev_pass, ev_brk, ev_cont, ev_ifS, ev_aug, ev_gn, ev_gtp, ev_gnl, ev_gcs, ev_gsb, ev_for, ev_rg1, ev_rg2, ev_its, ev_enum, ev_lc, ev_yes, ev_add_ii, ev_add_ss, ev_add_tt, ev_add_rr, ev_sub, ev_mul, ev_mod, ev_fdiv, ev_pow, ev_neg, ev_lt, ev_le, ev_gt, ev_ge, ev_eq_ii, ev_eq_ss, ev_eq_bb, ev_ne_ii, ev_ne_ss, ev_ne_bb, ev_is_n, ev_isnt_n, ev_int_i, ev_int_b, ev_min_ii, ev_max_ii, ev_abs, ev_tup_of, ev_tup_ofL, ev_lst_ofT, ev_lst_ofL, ev_len_t, ev_len_s, ev_len_r, ev_tru_b, ev_alloc, ev_tupD, ev_lstD, isi_tuple_non, isi_tuple_bl, isi_tuple_int, isi_tuple_str, isi_tuple_tup, isi_tuple_l, isi_tuple_f, isi_list_non, isi_list_bl, isi_list_int, isi_list_str, isi_list_tup, isi_list_l, isi_list_f, isi_bool_non, isi_bool_bl, isi_bool_int, isi_bool_str, isi_bool_tup, isi_bool_l, isi_bool_f, isi_int_non, isi_int_bl, isi_int_int, isi_int_str, isi_int_tup, isi_int_l, isi_int_f, isi_str_non, isi_str_bl, isi_str_int, isi_str_str, isi_str_tup, isi_str_l, isi_str_f, isi_dict_non, isi_dict_bl, isi_dict_int, isi_dict_str, isi_dict_tup, isi_dict_l, isi_dict_f, Ab.isNon, args, List.map, List.length_cons, List.length_nil, List.length_singleton, List.replicate, Nat.reduceSub, Nat.reduceAdd, Nat.zero_add, List.cons_append, List.nil_append, List.getElem?_cons_zero, List.getElem?_cons_succ, List.set_cons_zero, List.set_cons_succ, Option.some.injEq, decide_eq_true_eq, Bool.not_eq_true', decide_eq_false_iff_not, ite_true, ite_false, if_true, if_false, reduceIte, Bool.false_eq_true, Bool.not_true, Bool.not_false, Bool.true_eq_false, decide_true, decide_false, Nat.reduceLeDiff, Nat.reduceLT, i0, m1, p1]
    refine sat_seq ?_
    simp only [sat_ok, sat_bad, sat_bind, sat_ite, bind_ok, bind_bad, thn_nx, thn_rt, thn_bk, thn_ct, fin_rt, fin_nx, ev_v, ev_c, ev_op, ev_un, ev_nil, ev_cons, ev_tup, ev_lst, ev_call, ev_own, ev_sl, ev_no, ev_part, ev_and, ev_or, ev_not, ev_if, ev_t, ev_tb, ev_tnot, ev_tand, ev_tor, ev_mt, ev_mt0, ev_rgd, ev_set, ev_asg, ev_ret, ev_retN, ev_ex, ev_pass, ev_brk, ev_cont, ev_ifS, ev_aug, ev_gn, ev_gtp, ev_gnl, ev_gcs, ev_gsb, ev_for, ev_rg1, ev_rg2, ev_its, ev_enum, ev_lc, ev_yes, ev_add_ii, ev_add_ss, ev_add_tt, ev_add_rr, ev_sub, ev_mul, ev_mod, ev_fdiv, ev_pow, ev_neg, ev_lt, ev_le, ev_gt, ev_ge, ev_eq_ii, ev_eq_ss, ev_eq_bb, ev_ne_ii, ev_ne_ss, ev_ne_bb, ev_is_n, ev_isnt_n, ev_int_i, ev_int_b, ev_min_ii, ev_max_ii, ev_abs, ev_tup_of, ev_tup_ofL, ev_lst_ofT, ev_lst_ofL, ev_len_t, ev_len_s, ev_len_r, ev_tru_b, ev_alloc, ev_tupD, ev_lstD, isi_tuple_non, isi_tuple_bl, isi_tuple_int, isi_tuple_str, isi_tuple_tup, isi_tuple_l, isi_tuple_f, isi_list_non, isi_list_bl, isi_list_int, isi_list_str, isi_list_tup, isi_list_l, isi_list_f, isi_bool_non, isi_bool_bl, isi_bool_int, isi_bool_str, isi_bool_tup, isi_bool_l, isi_bool_f, isi_int_non, isi_int_bl, isi_int_int, isi_int_str, isi_int_tup, isi_int_l, isi_int_f, isi_str_non, isi_str_bl, isi_str_int, isi_str_str, isi_str_tup, isi_str_l, isi_str_f, isi_dict_non, isi_dict_bl, isi_dict_int, isi_dict_str, isi_dict_tup, isi_dict_l, isi_dict_f, Ab.isNon, args, List.map, List.length_cons, List.length_nil, List.length_singleton, List.replicate, Nat.reduceSub, Nat.reduceAdd, Nat.zero_add, List.cons_append, List.nil_append, List.getElem?_cons_zero, List.getElem?_cons_succ, List.set_cons_zero, List.set_cons_succ, Option.some.injEq, decide_eq_true_eq, Bool.not_eq_true', decide_eq_false_iff_not, ite_true, ite_false, if_true, if_false, reduceIte, Bool.false_eq_true, Bool.not_true, Bool.not_false, Bool.true_eq_false, decide_true, decide_false, Nat.reduceLeDiff, Nat.reduceLT, m3, p2]
    refine sat_seq ?_
    simp only [sat_ok, sat_bad, sat_bind, sat_ite, bind_ok, bind_bad, thn_nx, thn_rt, thn_bk, thn_ct, fin_rt, fin_nx, ev_v, ev_c, ev_op, ev_un, ev_nil, ev_cons, ev_tup, ev_lst, ev_call, ev_own, ev_sl, ev_no, ev_part, ev_and, ev_or, ev_not, ev_if, ev_t, ev_tb, ev_tnot, ev_tand, ev_tor, ev_mt, ev_mt0, ev_rgd, ev_set, ev_asg, ev_ret, ev_retN, ev_ex, ev_pass, ev_brk, ev_cont, ev_ifS, ev_aug, ev_gn, ev_gtp, ev_gnl, ev_gcs, ev_gsb, ev_for, ev_rg1, ev_rg2, ev_its, ev_enum, ev_lc, ev_yes, ev_add_ii, ev_add_ss, ev_add_tt, ev_add_rr, ev_sub, ev_mul, ev_mod, ev_fdiv, ev_pow, ev_neg, ev_lt, ev_le, ev_gt, ev_ge, ev_eq_ii, ev_eq_ss, ev_eq_bb, ev_ne_ii, ev_ne_ss, ev_ne_bb, ev_is_n, ev_isnt_n, ev_int_i, ev_int_b, ev_min_ii, ev_max_ii, ev_abs, ev_tup_of, ev_tup_ofL, ev_lst_ofT, ev_lst_ofL, ev_len_t, ev_len_s, ev_len_r, ev_tru_b, ev_alloc, ev_tupD, ev_lstD, isi_tuple_non, isi_tuple_bl, isi_tuple_int, isi_tuple_str, isi_tuple_tup, isi_tuple_l, isi_tuple_f, isi_list_non, isi_list_bl, isi_list_int, isi_list_str, isi_list_tup, isi_list_l, isi_list_f, isi_bool_non, isi_bool_bl, isi_bool_int, isi_bool_str, isi_bool_tup, isi_bool_l, isi_bool_f, isi_int_non, isi_int_bl, isi_int_int, isi_int_str, isi_int_tup, isi_int_l, isi_int_f, isi_str_non, isi_str_bl, isi_str_int, isi_str_str, isi_str_tup, isi_str_l, isi_str_f, isi_dict_non, isi_dict_bl, isi_dict_int, isi_dict_str, isi_dict_tup, isi_dict_l, isi_dict_f, Ab.isNon, args, List.map, List.length_cons, List.length_nil, List.length_singleton, List.replicate, Nat.reduceSub, Nat.reduceAdd, Nat.zero_add, List.cons_append, List.nil_append, List.getElem?_cons_zero, List.getElem?_cons_succ, List.set_cons_zero, List.set_cons_succ, Option.some.injEq, decide_eq_true_eq, Bool.not_eq_true', decide_eq_false_iff_not, ite_true, ite_false, if_true, if_false, reduceIte, Bool.false_eq_true, Bool.not_true, Bool.not_false, Bool.true_eq_false, decide_true, decide_false, Nat.reduceLeDiff, Nat.reduceLT, m4, m2, p1]
    simp only [sat_ok, sat_bad, sat_bind, sat_ite, bind_ok, bind_bad, thn_nx, thn_rt, thn_bk, thn_ct, fin_rt, fin_nx, ev_v, ev_c, ev_op, ev_un, ev_nil, ev_cons, ev_tup, ev_lst, ev_call, ev_own, ev_sl, ev_no, ev_part, ev_and, ev_or, ev_not, ev_if, ev_t, ev_tb, ev_tnot, ev_tand, ev_tor, ev_mt, ev_mt0, ev_rgd, ev_set, ev_asg, ev_ret, ev_retN, ev_ex, ev_pass, ev_brk, ev_cont, ev_ifS, ev_aug, ev_gn, ev_gtp, ev_gnl, ev_gcs, ev_gsb, ev_for, ev_rg1, ev_rg2, ev_its, ev_enum, ev_lc, ev_yes, ev_add_ii, ev_add_ss, ev_add_tt, ev_add_rr, ev_sub, ev_mul, ev_mod, ev_fdiv, ev_pow, ev_neg, ev_lt, ev_le, ev_gt, ev_ge, ev_eq_ii, ev_eq_ss, ev_eq_bb, ev_ne_ii, ev_ne_ss, ev_ne_bb, ev_is_n, ev_isnt_n, ev_int_i, ev_int_b, ev_min_ii, ev_max_ii, ev_abs, ev_tup_of, ev_tup_ofL, ev_lst_ofT, ev_lst_ofL, ev_len_t, ev_len_s, ev_len_r, ev_tru_b, ev_alloc, ev_tupD, ev_lstD, isi_tuple_non, isi_tuple_bl, isi_tuple_int, isi_tuple_str, isi_tuple_tup, isi_tuple_l, isi_tuple_f, isi_list_non, isi_list_bl, isi_list_int, isi_list_str, isi_list_tup, isi_list_l, isi_list_f, isi_bool_non, isi_bool_bl, isi_bool_int, isi_bool_str, isi_bool_tup, isi_bool_l, isi_bool_f, isi_int_non, isi_int_bl, isi_int_int, isi_int_str, isi_int_tup, isi_int_l, isi_int_f, isi_str_non, isi_str_bl, isi_str_int, isi_str_str, isi_str_tup, isi_str_l, isi_str_f, isi_dict_non, isi_dict_bl, isi_dict_int, isi_dict_str, isi_dict_tup, isi_dict_l, isi_dict_f, Ab.isNon, args, List.map, List.length_cons, List.length_nil, List.length_singleton, List.replicate, Nat.reduceSub, Nat.reduceAdd, Nat.zero_add, List.cons_append, List.nil_append, List.getElem?_cons_zero, List.getElem?_cons_succ, List.set_cons_zero, List.set_cons_succ, Option.some.injEq, decide_eq_true_eq, Bool.not_eq_true', decide_eq_false_iff_not, ite_true, ite_false, if_true, if_false, reduceIte, Bool.false_eq_true, Bool.not_true, Bool.not_false, Bool.true_eq_false, decide_true, decide_false, Nat.reduceLeDiff, Nat.reduceLT, last, n0]
    exact ⟨⟨_, rfl, Int.emod_nonneg _ (by omega), .inl (Int.emod_lt_of_pos _ n0)⟩, hA⟩
theorem same_refl : ∀ (n : Nat) (d : D) (A : AH), Pl n d → m__law_same (n + 1) [d, d] A = .ok (.bl true) A := by
  intro n
  induction n with
  | zero =>
    intro d A h
    have key : Sat (m__law_same (0 + 1) [d, d] A) fun e A' => e = .bl true ∧ A' = A := by
      refine sat_body rfl (sat_seq ?_)
      cases d with
      | non => simp only [sat_ok, sat_bad, sat_bind, sat_ite, bind_ok, bind_bad, thn_nx, thn_rt, thn_bk, thn_ct, fin_rt, fin_nx, ev_v, ev_c, ev_op, ev_un, ev_nil, ev_cons, ev_tup, ev_lst, ev_call, ev_own, ev_sl, ev_no, ev_part, ev_and, ev_or, ev_not, ev_if, ev_t, ev_tb, ev_tnot, ev_tand, ev_tor, ev_mt, ev_mt0, ev_rgd, ev_set, ev_asg, ev_ret, ev_retN, ev_ex, ev_pass, ev_brk, ev_cont, ev_ifS, ev_aug, ev_gn, ev_gtp, ev_gnl, ev_gcs, ev_gsb, ev_for, ev_rg1, ev_rg2, ev_its, ev_enum, ev_lc, ev_yes, ev_add_ii, ev_add_ss, ev_add_tt, ev_add_rr, ev_sub, ev_mul, ev_mod, ev_fdiv, ev_pow, ev_neg, ev_lt, ev_le, ev_gt, ev_ge, ev_eq_ii, ev_eq_ss, ev_eq_bb, ev_ne_ii, ev_ne_ss, ev_ne_bb, ev_is_n, ev_isnt_n, ev_int_i, ev_int_b, ev_min_ii, ev_max_ii, ev_abs, ev_tup_of, ev_tup_ofL, ev_lst_ofT, ev_lst_ofL, ev_len_t, ev_len_s, ev_len_r, ev_tru_b, ev_alloc, ev_tupD, ev_lstD, isi_tuple_non, isi_tuple_bl, isi_tuple_int, isi_tuple_str, isi_tuple_tup, isi_tuple_l, isi_tuple_f, isi_list_non, isi_list_bl, isi_list_int, isi_list_str, isi_list_tup, isi_list_l, isi_list_f, isi_bool_non, isi_bool_bl, isi_bool_int, isi_bool_str, isi_bool_tup, isi_bool_l, isi_bool_f, isi_int_non, isi_int_bl, isi_int_int, isi_int_str, isi_int_tup, isi_int_l, isi_int_f, isi_str_non, isi_str_bl, isi_str_int, isi_str_str, isi_str_tup, isi_str_l, isi_str_f, isi_dict_non, isi_dict_bl, isi_dict_int, isi_dict_str, isi_dict_tup, isi_dict_l, isi_dict_f, Ab.isNon, args, List.map, List.length_cons, List.length_nil, List.length_singleton, List.replicate, Nat.reduceSub, Nat.reduceAdd, Nat.zero_add, List.cons_append, List.nil_append, List.getElem?_cons_zero, List.getElem?_cons_succ, List.set_cons_zero, List.set_cons_succ, Option.some.injEq, decide_eq_true_eq, Bool.not_eq_true', decide_eq_false_iff_not, ite_true, ite_false, if_true, if_false, reduceIte, Bool.false_eq_true, Bool.not_true, Bool.not_false, Bool.true_eq_false, decide_true, decide_false, Nat.reduceLeDiff, Nat.reduceLT]; refine sat_seq ?_; simp only [sat_ok, sat_bad, sat_bind, sat_ite, bind_ok, bind_bad, thn_nx, thn_rt, thn_bk, thn_ct, fin_rt, fin_nx, ev_v, ev_c, ev_op, ev_un, ev_nil, ev_cons, ev_tup, ev_lst, ev_call, ev_own, ev_sl, ev_no, ev_part, ev_and, ev_or, ev_not, ev_if, ev_t, ev_tb, ev_tnot, ev_tand, ev_tor, ev_mt, ev_mt0, ev_rgd, ev_set, ev_asg, ev_ret, ev_retN, ev_ex, ev_pass, ev_brk, ev_cont, ev_ifS, ev_aug, ev_gn, ev_gtp, ev_gnl, ev_gcs, ev_gsb, ev_for, ev_rg1, ev_rg2, ev_its, ev_enum, ev_lc, ev_yes, ev_add_ii, ev_add_ss, ev_add_tt, ev_add_rr, ev_sub, ev_mul, ev_mod, ev_fdiv, ev_pow, ev_neg, ev_lt, ev_le, ev_gt, ev_ge, ev_eq_ii, ev_eq_ss, ev_eq_bb, ev_ne_ii, ev_ne_ss, ev_ne_bb, ev_is_n, ev_isnt_n, ev_int_i, ev_int_b, ev_min_ii, ev_max_ii, ev_abs, ev_tup_of, ev_tup_ofL, ev_lst_ofT, ev_lst_ofL, ev_len_t, ev_len_s, ev_len_r, ev_tru_b, ev_alloc, ev_tupD, ev_lstD, isi_tuple_non, isi_tuple_bl, isi_tuple_int, isi_tuple_str, isi_tuple_tup, isi_tuple_l, isi_tuple_f, isi_list_non, isi_list_bl, isi_list_int, isi_list_str, isi_list_tup, isi_list_l, isi_list_f, isi_bool_non, isi_bool_bl, isi_bool_int, isi_bool_str, isi_bool_tup, isi_bool_l, isi_bool_f, isi_int_non, isi_int_bl, isi_int_int, isi_int_str, isi_int_tup, isi_int_l, isi_int_f, isi_str_non, isi_str_bl, isi_str_int, isi_str_str, isi_str_tup, isi_str_l, isi_str_f, isi_dict_non, isi_dict_bl, isi_dict_int, isi_dict_str, isi_dict_tup, isi_dict_l, isi_dict_f, Ab.isNon, args, List.map, List.length_cons, List.length_nil, List.length_singleton, List.replicate, Nat.reduceSub, Nat.reduceAdd, Nat.zero_add, List.cons_append, List.nil_append, List.getElem?_cons_zero, List.getElem?_cons_succ, List.set_cons_zero, List.set_cons_succ, Option.some.injEq, decide_eq_true_eq, Bool.not_eq_true', decide_eq_false_iff_not, ite_true, ite_false, if_true, if_false, reduceIte, Bool.false_eq_true, Bool.not_true, Bool.not_false, Bool.true_eq_false, decide_true, decide_false, Nat.reduceLeDiff, Nat.reduceLT]; trivial
      | bl b => simp only [sat_ok, sat_bad, sat_bind, sat_ite, bind_ok, bind_bad, thn_nx, thn_rt, thn_bk, thn_ct, fin_rt, fin_nx, ev_v, ev_c, ev_op, ev_un, ev_nil, ev_cons, ev_tup, ev_lst, ev_call, ev_own, ev_sl, ev_no, ev_part, ev_and, ev_or, ev_not, ev_if, ev_t, ev_tb, ev_tnot, ev_tand, ev_tor, ev_mt, ev_mt0, ev_rgd, ev_set, ev_asg, ev_ret, ev_retN, ev_ex, ev_pass, ev_brk, ev_cont, ev_ifS, ev_aug, ev_gn, ev_gtp, ev_gnl, ev_gcs, ev_gsb, ev_for, ev_rg1, ev_rg2, ev_its, ev_enum, ev_lc, ev_yes, ev_add_ii, ev_add_ss, ev_add_tt, ev_add_rr, ev_sub, ev_mul, ev_mod, ev_fdiv, ev_pow, ev_neg, ev_lt, ev_le, ev_gt, ev_ge, ev_eq_ii, ev_eq_ss, ev_eq_bb, ev_ne_ii, ev_ne_ss, ev_ne_bb, ev_is_n, ev_isnt_n, ev_int_i, ev_int_b, ev_min_ii, ev_max_ii, ev_abs, ev_tup_of, ev_tup_ofL, ev_lst_ofT, ev_lst_ofL, ev_len_t, ev_len_s, ev_len_r, ev_tru_b, ev_alloc, ev_tupD, ev_lstD, isi_tuple_non, isi_tuple_bl, isi_tuple_int, isi_tuple_str, isi_tuple_tup, isi_tuple_l, isi_tuple_f, isi_list_non, isi_list_bl, isi_list_int, isi_list_str, isi_list_tup, isi_list_l, isi_list_f, isi_bool_non, isi_bool_bl, isi_bool_int, isi_bool_str, isi_bool_tup, isi_bool_l, isi_bool_f, isi_int_non, isi_int_bl, isi_int_int, isi_int_str, isi_int_tup, isi_int_l, isi_int_f, isi_str_non, isi_str_bl, isi_str_int, isi_str_str, isi_str_tup, isi_str_l, isi_str_f, isi_dict_non, isi_dict_bl, isi_dict_int, isi_dict_str, isi_dict_tup, isi_dict_l, isi_dict_f, Ab.isNon, args, List.map, List.length_cons, List.length_nil, List.length_singleton, List.replicate, Nat.reduceSub, Nat.reduceAdd, Nat.zero_add, List.cons_append, List.nil_append, List.getElem?_cons_zero, List.getElem?_cons_succ, List.set_cons_zero, List.set_cons_succ, Option.some.injEq, decide_eq_true_eq, Bool.not_eq_true', decide_eq_false_iff_not, ite_true, ite_false, if_true, if_false, reduceIte, Bool.false_eq_true, Bool.not_true, Bool.not_false, Bool.true_eq_false, decide_true, decide_false, Nat.reduceLeDiff, Nat.reduceLT]; refine sat_seq ?_; simp only [sat_ok, sat_bad, sat_bind, sat_ite, bind_ok, bind_bad, thn_nx, thn_rt, thn_bk, thn_ct, fin_rt, fin_nx, ev_v, ev_c, ev_op, ev_un, ev_nil, ev_cons, ev_tup, ev_lst, ev_call, ev_own, ev_sl, ev_no, ev_part, ev_and, ev_or, ev_not, ev_if, ev_t, ev_tb, ev_tnot, ev_tand, ev_tor, ev_mt, ev_mt0, ev_rgd, ev_set, ev_asg, ev_ret, ev_retN, ev_ex, ev_pass, ev_brk, ev_cont, ev_ifS, ev_aug, ev_gn, ev_gtp, ev_gnl, ev_gcs, ev_gsb, ev_for, ev_rg1, ev_rg2, ev_its, ev_enum, ev_lc, ev_yes, ev_add_ii, ev_add_ss, ev_add_tt, ev_add_rr, ev_sub, ev_mul, ev_mod, ev_fdiv, ev_pow, ev_neg, ev_lt, ev_le, ev_gt, ev_ge, ev_eq_ii, ev_eq_ss, ev_eq_bb, ev_ne_ii, ev_ne_ss, ev_ne_bb, ev_is_n, ev_isnt_n, ev_int_i, ev_int_b, ev_min_ii, ev_max_ii, ev_abs, ev_tup_of, ev_tup_ofL, ev_lst_ofT, ev_lst_ofL, ev_len_t, ev_len_s, ev_len_r, ev_tru_b, ev_alloc, ev_tupD, ev_lstD, isi_tuple_non, isi_tuple_bl, isi_tuple_int, isi_tuple_str, isi_tuple_tup, isi_tuple_l, isi_tuple_f, isi_list_non, isi_list_bl, isi_list_int, isi_list_str, isi_list_tup, isi_list_l, isi_list_f, isi_bool_non, isi_bool_bl, isi_bool_int, isi_bool_str, isi_bool_tup, isi_bool_l, isi_bool_f, isi_int_non, isi_int_bl, isi_int_int, isi_int_str, isi_int_tup, isi_int_l, isi_int_f, isi_str_non, isi_str_bl, isi_str_int, isi_str_str, isi_str_tup, isi_str_l, isi_str_f, isi_dict_non, isi_dict_bl, isi_dict_int, isi_dict_str, isi_dict_tup, isi_dict_l, isi_dict_f, Ab.isNon, args, List.map, List.length_cons, List.length_nil, List.length_singleton, List.replicate, Nat.reduceSub, Nat.reduceAdd, Nat.zero_add, List.cons_append, List.nil_append, List.getElem?_cons_zero, List.getElem?_cons_succ, List.set_cons_zero, List.set_cons_succ, Option.some.injEq, decide_eq_true_eq, Bool.not_eq_true', decide_eq_false_iff_not, ite_true, ite_false, if_true, if_false, reduceIte, Bool.false_eq_true, Bool.not_true, Bool.not_false, Bool.true_eq_false, decide_true, decide_false, Nat.reduceLeDiff, Nat.reduceLT]; refine sat_seq ?_; simp only [sat_ok, sat_bad, sat_bind, sat_ite, bind_ok, bind_bad, thn_nx, thn_rt, thn_bk, thn_ct, fin_rt, fin_nx, ev_v, ev_c, ev_op, ev_un, ev_nil, ev_cons, ev_tup, ev_lst, ev_call, ev_own, ev_sl, ev_no, ev_part, ev_and, ev_or, ev_not, ev_if, ev_t, ev_tb, ev_tnot, ev_tand, ev_tor, ev_mt, ev_mt0, ev_rgd, ev_set, ev_asg, ev_ret, ev_retN, ev_ex, ev_pass, ev_brk, ev_cont, ev_ifS, ev_aug, ev_gn, ev_gtp, ev_gnl, ev_gcs, ev_gsb, ev_for, ev_rg1, ev_rg2, ev_its, ev_enum, ev_lc, ev_yes, ev_add_ii, ev_add_ss, ev_add_tt, ev_add_rr, ev_sub, ev_mul, ev_mod, ev_fdiv, ev_pow, ev_neg, ev_lt, ev_le, ev_gt, ev_ge, ev_eq_ii, ev_eq_ss, ev_eq_bb, ev_ne_ii, ev_ne_ss, ev_ne_bb, ev_is_n, ev_isnt_n, ev_int_i, ev_int_b, ev_min_ii, ev_max_ii, ev_abs, ev_tup_of, ev_tup_ofL, ev_lst_ofT, ev_lst_ofL, ev_len_t, ev_len_s, ev_len_r, ev_tru_b, ev_alloc, ev_tupD, ev_lstD, isi_tuple_non, isi_tuple_bl, isi_tuple_int, isi_tuple_str, isi_tuple_tup, isi_tuple_l, isi_tuple_f, isi_list_non, isi_list_bl, isi_list_int, isi_list_str, isi_list_tup, isi_list_l, isi_list_f, isi_bool_non, isi_bool_bl, isi_bool_int, isi_bool_str, isi_bool_tup, isi_bool_l, isi_bool_f, isi_int_non, isi_int_bl, isi_int_int, isi_int_str, isi_int_tup, isi_int_l, isi_int_f, isi_str_non, isi_str_bl, isi_str_int, isi_str_str, isi_str_tup, isi_str_l, isi_str_f, isi_dict_non, isi_dict_bl, isi_dict_int, isi_dict_str, isi_dict_tup, isi_dict_l, isi_dict_f, Ab.isNon, args, List.map, List.length_cons, List.length_nil, List.length_singleton, List.replicate, Nat.reduceSub, Nat.reduceAdd, Nat.zero_add, List.cons_append, List.nil_append, List.getElem?_cons_zero, List.getElem?_cons_succ, List.set_cons_zero, List.set_cons_succ, Option.some.injEq, decide_eq_true_eq, Bool.not_eq_true', decide_eq_false_iff_not, ite_true, ite_false, if_true, if_false, reduceIte, Bool.false_eq_true, Bool.not_true, Bool.not_false, Bool.true_eq_false, decide_true, decide_false, Nat.reduceLeDiff, Nat.reduceLT]; exact ⟨by simp, trivial⟩
      | int b => simp only [sat_ok, sat_bad, sat_bind, sat_ite, bind_ok, bind_bad, thn_nx, thn_rt, thn_bk, thn_ct, fin_rt, fin_nx, ev_v, ev_c, ev_op, ev_un, ev_nil, ev_cons, ev_tup, ev_lst, ev_call, ev_own, ev_sl, ev_no, ev_part, ev_and, ev_or, ev_not, ev_if, ev_t, ev_tb, ev_tnot, ev_tand, ev_tor, ev_mt, ev_mt0, ev_rgd, ev_set, ev_asg, ev_ret, ev_retN, ev_ex, ev_pass, ev_brk, ev_cont, ev_ifS, ev_aug, ev_gn, ev_gtp, ev_gnl, ev_gcs, ev_gsb, ev_for, ev_rg1, ev_rg2, ev_its, ev_enum, ev_lc, ev_yes, ev_add_ii, ev_add_ss, ev_add_tt, ev_add_rr, ev_sub, ev_mul, ev_mod, ev_fdiv, ev_pow, ev_neg, ev_lt, ev_le, ev_gt, ev_ge, ev_eq_ii, ev_eq_ss, ev_eq_bb, ev_ne_ii, ev_ne_ss, ev_ne_bb, ev_is_n, ev_isnt_n, ev_int_i, ev_int_b, ev_min_ii, ev_max_ii, ev_abs, ev_tup_of, ev_tup_ofL, ev_lst_ofT, ev_lst_ofL, ev_len_t, ev_len_s, ev_len_r, ev_tru_b, ev_alloc, ev_tupD, ev_lstD, isi_tuple_non, isi_tuple_bl, isi_tuple_int, isi_tuple_str, isi_tuple_tup, isi_tuple_l, isi_tuple_f, isi_list_non, isi_list_bl, isi_list_int, isi_list_str, isi_list_tup, isi_list_l, isi_list_f, isi_bool_non, isi_bool_bl, isi_bool_int, isi_bool_str, isi_bool_tup, isi_bool_l, isi_bool_f, isi_int_non, isi_int_bl, isi_int_int, isi_int_str, isi_int_tup, isi_int_l, isi_int_f, isi_str_non, isi_str_bl, isi_str_int, isi_str_str, isi_str_tup, isi_str_l, isi_str_f, isi_dict_non, isi_dict_bl, isi_dict_int, isi_dict_str, isi_dict_tup, isi_dict_l, isi_dict_f, Ab.isNon, args, List.map, List.length_cons, List.length_nil, List.length_singleton, List.replicate, Nat.reduceSub, Nat.reduceAdd, Nat.zero_add, List.cons_append, List.nil_append, List.getElem?_cons_zero, List.getElem?_cons_succ, List.set_cons_zero, List.set_cons_succ, Option.some.injEq, decide_eq_true_eq, Bool.not_eq_true', decide_eq_false_iff_not, ite_true, ite_false, if_true, if_false, reduceIte, Bool.false_eq_true, Bool.not_true, Bool.not_false, Bool.true_eq_false, decide_true, decide_false, Nat.reduceLeDiff, Nat.reduceLT]; refine sat_seq ?_; simp only [sat_ok, sat_bad, sat_bind, sat_ite, bind_ok, bind_bad, thn_nx, thn_rt, thn_bk, thn_ct, fin_rt, fin_nx, ev_v, ev_c, ev_op, ev_un, ev_nil, ev_cons, ev_tup, ev_lst, ev_call, ev_own, ev_sl, ev_no, ev_part, ev_and, ev_or, ev_not, ev_if, ev_t, ev_tb, ev_tnot, ev_tand, ev_tor, ev_mt, ev_mt0, ev_rgd, ev_set, ev_asg, ev_ret, ev_retN, ev_ex, ev_pass, ev_brk, ev_cont, ev_ifS, ev_aug, ev_gn, ev_gtp, ev_gnl, ev_gcs, ev_gsb, ev_for, ev_rg1, ev_rg2, ev_its, ev_enum, ev_lc, ev_yes, ev_add_ii, ev_add_ss, ev_add_tt, ev_add_rr, ev_sub, ev_mul, ev_mod, ev_fdiv, ev_pow, ev_neg, ev_lt, ev_le, ev_gt, ev_ge, ev_eq_ii, ev_eq_ss, ev_eq_bb, ev_ne_ii, ev_ne_ss, ev_ne_bb, ev_is_n, ev_isnt_n, ev_int_i, ev_int_b, ev_min_ii, ev_max_ii, ev_abs, ev_tup_of, ev_tup_ofL, ev_lst_ofT, ev_lst_ofL, ev_len_t, ev_len_s, ev_len_r, ev_tru_b, ev_alloc, ev_tupD, ev_lstD, isi_tuple_non, isi_tuple_bl, isi_tuple_int, isi_tuple_str, isi_tuple_tup, isi_tuple_l, isi_tuple_f, isi_list_non, isi_list_bl, isi_list_int, isi_list_str, isi_list_tup, isi_list_l, isi_list_f, isi_bool_non, isi_bool_bl, isi_bool_int, isi_bool_str, isi_bool_tup, isi_bool_l, isi_bool_f, isi_int_non, isi_int_bl, isi_int_int, isi_int_str, isi_int_tup, isi_int_l, isi_int_f, isi_str_non, isi_str_bl, isi_str_int, isi_str_str, isi_str_tup, isi_str_l, isi_str_f, isi_dict_non, isi_dict_bl, isi_dict_int, isi_dict_str, isi_dict_tup, isi_dict_l, isi_dict_f, Ab.isNon, args, List.map, List.length_cons, List.length_nil, List.length_singleton, List.replicate, Nat.reduceSub, Nat.reduceAdd, Nat.zero_add, List.cons_append, List.nil_append, List.getElem?_cons_zero, List.getElem?_cons_succ, List.set_cons_zero, List.set_cons_succ, Option.some.injEq, decide_eq_true_eq, Bool.not_eq_true', decide_eq_false_iff_not, ite_true, ite_false, if_true, if_false, reduceIte, Bool.false_eq_true, Bool.not_true, Bool.not_false, Bool.true_eq_false, decide_true, decide_false, Nat.reduceLeDiff, Nat.reduceLT]; refine sat_seq ?_; simp only [sat_ok, sat_bad, sat_bind, sat_ite, bind_ok, bind_bad, thn_nx, thn_rt, thn_bk, thn_ct, fin_rt, fin_nx, ev_v, ev_c, ev_op, ev_un, ev_nil, ev_cons, ev_tup, ev_lst, ev_call, ev_own, ev_sl, ev_no, ev_part, ev_and, ev_or, ev_not, ev_if, ev_t, ev_tb, ev_tnot, ev_tand, ev_tor, ev_mt, ev_mt0, ev_rgd, ev_set, ev_asg, ev_ret, ev_retN, ev_ex, ev_pass, ev_brk, ev_cont, ev_ifS, ev_aug, ev_gn, ev_gtp, ev_gnl, ev_gcs, ev_gsb, ev_for, ev_rg1, ev_rg2, ev_its, ev_enum, ev_lc, ev_yes, ev_add_ii, ev_add_ss, ev_add_tt, ev_add_rr, ev_sub, ev_mul, ev_mod, ev_fdiv, ev_pow, ev_neg, ev_lt, ev_le, ev_gt, ev_ge, ev_eq_ii, ev_eq_ss, ev_eq_bb, ev_ne_ii, ev_ne_ss, ev_ne_bb, ev_is_n, ev_isnt_n, ev_int_i, ev_int_b, ev_min_ii, ev_max_ii, ev_abs, ev_tup_of, ev_tup_ofL, ev_lst_ofT, ev_lst_ofL, ev_len_t, ev_len_s, ev_len_r, ev_tru_b, ev_alloc, ev_tupD, ev_lstD, isi_tuple_non, isi_tuple_bl, isi_tuple_int, isi_tuple_str, isi_tuple_tup, isi_tuple_l, isi_tuple_f, isi_list_non, isi_list_bl, isi_list_int, isi_list_str, isi_list_tup, isi_list_l, isi_list_f, isi_bool_non, isi_bool_bl, isi_bool_int, isi_bool_str, isi_bool_tup, isi_bool_l, isi_bool_f, isi_int_non, isi_int_bl, isi_int_int, isi_int_str, isi_int_tup, isi_int_l, isi_int_f, isi_str_non, isi_str_bl, isi_str_int, isi_str_str, isi_str_tup, isi_str_l, isi_str_f, isi_dict_non, isi_dict_bl, isi_dict_int, isi_dict_str, isi_dict_tup, isi_dict_l, isi_dict_f, Ab.isNon, args, List.map, List.length_cons, List.length_nil, List.length_singleton, List.replicate, Nat.reduceSub, Nat.reduceAdd, Nat.zero_add, List.cons_append, List.nil_append, List.getElem?_cons_zero, List.getElem?_cons_succ, List.set_cons_zero, List.set_cons_succ, Option.some.injEq, decide_eq_true_eq, Bool.not_eq_true', decide_eq_false_iff_not, ite_true, ite_false, if_true, if_false, reduceIte, Bool.false_eq_true, Bool.not_true, Bool.not_false, Bool.true_eq_false, decide_true, decide_false, Nat.reduceLeDiff, Nat.reduceLT]; refine sat_seq ?_; simp only [sat_ok, sat_bad, sat_bind, sat_ite, bind_ok, bind_bad, thn_nx, thn_rt, thn_bk, thn_ct, fin_rt, fin_nx, ev_v, ev_c, ev_op, ev_un, ev_nil, ev_cons, ev_tup, ev_lst, ev_call, ev_own, ev_sl, ev_no, ev_part, ev_and, ev_or, ev_not, ev_if, ev_t, ev_tb, ev_tnot, ev_tand, ev_tor, ev_mt, ev_mt0, ev_rgd, ev_set, ev_asg, ev_ret, ev_retN, ev_ex, ev_pass, ev_brk, ev_cont, ev_ifS, ev_aug, ev_gn, ev_gtp, ev_gnl, ev_gcs, ev_gsb, ev_for, ev_rg1, ev_rg2, ev_its, ev_enum, ev_lc, ev_yes, ev_add_ii, ev_add_ss, ev_add_tt, ev_add_rr, ev_sub, ev_mul, ev_mod, ev_fdiv, ev_pow, ev_neg, ev_lt, ev_le, ev_gt, ev_ge, ev_eq_ii, ev_eq_ss, ev_eq_bb, ev_ne_ii, ev_ne_ss, ev_ne_bb, ev_is_n, ev_isnt_n, ev_int_i, ev_int_b, ev_min_ii, ev_max_ii, ev_abs, ev_tup_of, ev_tup_ofL, ev_lst_ofT, ev_lst_ofL, ev_len_t, ev_len_s, ev_len_r, ev_tru_b, ev_alloc, ev_tupD, ev_lstD, isi_tuple_non, isi_tuple_bl, isi_tuple_int, isi_tuple_str, isi_tuple_tup, isi_tuple_l, isi_tuple_f, isi_list_non, isi_list_bl, isi_list_int, isi_list_str, isi_list_tup, isi_list_l, isi_list_f, isi_bool_non, isi_bool_bl, isi_bool_int, isi_bool_str, isi_bool_tup, isi_bool_l, isi_bool_f, isi_int_non, isi_int_bl, isi_int_int, isi_int_str, isi_int_tup, isi_int_l, isi_int_f, isi_str_non, isi_str_bl, isi_str_int, isi_str_str, isi_str_tup, isi_str_l, isi_str_f, isi_dict_non, isi_dict_bl, isi_dict_int, isi_dict_str, isi_dict_tup, isi_dict_l, isi_dict_f, Ab.isNon, args, List.map, List.length_cons, List.length_nil, List.length_singleton, List.replicate, Nat.reduceSub, Nat.reduceAdd, Nat.zero_add, List.cons_append, List.nil_append, List.getElem?_cons_zero, List.getElem?_cons_succ, List.set_cons_zero, List.set_cons_succ, Option.some.injEq, decide_eq_true_eq, Bool.not_eq_true', decide_eq_false_iff_not, ite_true, ite_false, if_true, if_false, reduceIte, Bool.false_eq_true, Bool.not_true, Bool.not_false, Bool.true_eq_false, decide_true, decide_false, Nat.reduceLeDiff, Nat.reduceLT]; exact ⟨by simp, trivial⟩
      | str b => simp only [sat_ok, sat_bad, sat_bind, sat_ite, bind_ok, bind_bad, thn_nx, thn_rt, thn_bk, thn_ct, fin_rt, fin_nx, ev_v, ev_c, ev_op, ev_un, ev_nil, ev_cons, ev_tup, ev_lst, ev_call, ev_own, ev_sl, ev_no, ev_part, ev_and, ev_or, ev_not, ev_if, ev_t, ev_tb, ev_tnot, ev_tand, ev_tor, ev_mt, ev_mt0, ev_rgd, ev_set, ev_asg, ev_ret, ev_retN, ev_ex, ev_pass, ev_brk, ev_cont, ev_ifS, ev_aug, ev_gn, ev_gtp, ev_gnl, ev_gcs, ev_gsb, ev_for, ev_rg1, ev_rg2, ev_its, ev_enum, ev_lc, ev_yes, ev_add_ii, ev_add_ss, ev_add_tt, ev_add_rr, ev_sub, ev_mul, ev_mod, ev_fdiv, ev_pow, ev_neg, ev_lt, ev_le, ev_gt, ev_ge, ev_eq_ii, ev_eq_ss, ev_eq_bb, ev_ne_ii, ev_ne_ss, ev_ne_bb, ev_is_n, ev_isnt_n, ev_int_i, ev_int_b, ev_min_ii, ev_max_ii, ev_abs, ev_tup_of, ev_tup_ofL, ev_lst_ofT, ev_lst_ofL, ev_len_t, ev_len_s, ev_len_r, ev_tru_b, ev_alloc, ev_tupD, ev_lstD, isi_tuple_non, isi_tuple_bl, isi_tuple_int, isi_tuple_str, isi_tuple_tup, isi_tuple_l, isi_tuple_f, isi_list_non, isi_list_bl, isi_list_int, isi_list_str, isi_list_tup, isi_list_l, isi_list_f, isi_bool_non, isi_bool_bl, isi_bool_int, isi_bool_str, isi_bool_tup, isi_bool_l, isi_bool_f, isi_int_non, isi_int_bl, isi_int_int, isi_int_str, isi_int_tup, isi_int_l, isi_int_f, isi_str_non, isi_str_bl, isi_str_int, isi_str_str, isi_str_tup, isi_str_l, isi_str_f, isi_dict_non, isi_dict_bl, isi_dict_int, isi_dict_str, isi_dict_tup, isi_dict_l, isi_dict_f, Ab.isNon, args, List.map, List.length_cons, List.length_nil, List.length_singleton, List.replicate, Nat.reduceSub, Nat.reduceAdd, Nat.zero_add, List.cons_append, List.nil_append, List.getElem?_cons_zero, List.getElem?_cons_succ, List.set_cons_zero, List.set_cons_succ, Option.some.injEq, decide_eq_true_eq, Bool.not_eq_true', decide_eq_false_iff_not, ite_true, ite_false, if_true, if_false, reduceIte, Bool.false_eq_true, Bool.not_true, Bool.not_false, Bool.true_eq_false, decide_true, decide_false, Nat.reduceLeDiff, Nat.reduceLT]; refine sat_seq ?_; simp only [sat_ok, sat_bad, sat_bind, sat_ite, bind_ok, bind_bad, thn_nx, thn_rt, thn_bk, thn_ct, fin_rt, fin_nx, ev_v, ev_c, ev_op, ev_un, ev_nil, ev_cons, ev_tup, ev_lst, ev_call, ev_own, ev_sl, ev_no, ev_part, ev_and, ev_or, ev_not, ev_if, ev_t, ev_tb, ev_tnot, ev_tand, ev_tor, ev_mt, ev_mt0, ev_rgd, ev_set, ev_asg, ev_ret, ev_retN, ev_ex, ev_pass, ev_brk, ev_cont, ev_ifS, ev_aug, ev_gn, ev_gtp, ev_gnl, ev_gcs, ev_gsb, ev_for, ev_rg1, ev_rg2, ev_its, ev_enum, ev_lc, ev_yes, ev_add_ii, ev_add_ss, ev_add_tt, ev_add_rr, ev_sub, ev_mul, ev_mod, ev_fdiv, ev_pow, ev_neg, ev_lt, ev_le, ev_gt, ev_ge, ev_eq_ii, ev_eq_ss, ev_eq_bb, ev_ne_ii, ev_ne_ss, ev_ne_bb, ev_is_n, ev_isnt_n, ev_int_i, ev_int_b, ev_min_ii, ev_max_ii, ev_abs, ev_tup_of, ev_tup_ofL, ev_lst_ofT, ev_lst_ofL, ev_len_t, ev_len_s, ev_len_r, ev_tru_b, ev_alloc, ev_tupD, ev_lstD, isi_tuple_non, isi_tuple_bl, isi_tuple_int, isi_tuple_str, isi_tuple_tup, isi_tuple_l, isi_tuple_f, isi_list_non, isi_list_bl, isi_list_int, isi_list_str, isi_list_tup, isi_list_l, isi_list_f, isi_bool_non, isi_bool_bl, isi_bool_int, isi_bool_str, isi_bool_tup, isi_bool_l, isi_bool_f, isi_int_non, isi_int_bl, isi_int_int, isi_int_str, isi_int_tup, isi_int_l, isi_int_f, isi_str_non, isi_str_bl, isi_str_int, isi_str_str, isi_str_tup, isi_str_l, isi_str_f, isi_dict_non, isi_dict_bl, isi_dict_int, isi_dict_str, isi_dict_tup, isi_dict_l, isi_dict_f, Ab.isNon, args, List.map, List.length_cons, List.length_nil, List.length_singleton, List.replicate, Nat.reduceSub, Nat.reduceAdd, Nat.zero_add, List.cons_append, List.nil_append, List.getElem?_cons_zero, List.getElem?_cons_succ, List.set_cons_zero, List.set_cons_succ, Option.some.injEq, decide_eq_true_eq, Bool.not_eq_true', decide_eq_false_iff_not, ite_true, ite_false, if_true, if_false, reduceIte, Bool.false_eq_true, Bool.not_true, Bool.not_false, Bool.true_eq_false, decide_true, decide_false, Nat.reduceLeDiff, Nat.reduceLT]; refine sat_seq ?_; simp only [sat_ok, sat_bad, sat_bind, sat_ite, bind_ok, bind_bad, thn_nx, thn_rt, thn_bk, thn_ct, fin_rt, fin_nx, ev_v, ev_c, ev_op, ev_un, ev_nil, ev_cons, ev_tup, ev_lst, ev_call, ev_own, ev_sl, ev_no, ev_part, ev_and, ev_or, ev_not, ev_if, ev_t, ev_tb, ev_tnot, ev_tand, ev_tor, ev_mt, ev_mt0, ev_rgd, ev_set, ev_asg, ev_ret, ev_retN, ev_ex, ev_pass, ev_brk, ev_cont, ev_ifS, ev_aug, ev_gn, ev_gtp, ev_gnl, ev_gcs, ev_gsb, ev_for, ev_rg1, ev_rg2, ev_its, ev_enum, ev_lc, ev_yes, ev_add_ii, ev_add_ss, ev_add_tt, ev_add_rr, ev_sub, ev_mul, ev_mod, ev_fdiv, ev_pow, ev_neg, ev_lt, ev_le, ev_gt, ev_ge, ev_eq_ii, ev_eq_ss, ev_eq_bb, ev_ne_ii, ev_ne_ss, ev_ne_bb, ev_is_n, ev_isnt_n, ev_int_i, ev_int_b, ev_min_ii, ev_max_ii, ev_abs, ev_tup_of, ev_tup_ofL, ev_lst_ofT, ev_lst_ofL, ev_len_t, ev_len_s, ev_len_r, ev_tru_b, ev_alloc, ev_tupD, ev_lstD, isi_tuple_non, isi_tuple_bl, isi_tuple_int, isi_tuple_str, isi_tuple_tup, isi_tuple_l, isi_tuple_f, isi_list_non, isi_list_bl, isi_list_int, isi_list_str, isi_list_tup, isi_list_l, isi_list_f, isi_bool_non, isi_bool_bl, isi_bool_int, isi_bool_str, isi_bool_tup, isi_bool_l, isi_bool_f, isi_int_non, isi_int_bl, isi_int_int, isi_int_str, isi_int_tup, isi_int_l, isi_int_f, isi_str_non, isi_str_bl, isi_str_int, isi_str_str, isi_str_tup, isi_str_l, isi_str_f, isi_dict_non, isi_dict_bl, isi_dict_int, isi_dict_str, isi_dict_tup, isi_dict_l, isi_dict_f, Ab.isNon, args, List.map, List.length_cons, List.length_nil, List.length_singleton, List.replicate, Nat.reduceSub, Nat.reduceAdd, Nat.zero_add, List.cons_append, List.nil_append, List.getElem?_cons_zero, List.getElem?_cons_succ, List.set_cons_zero, List.set_cons_succ, Option.some.injEq, decide_eq_true_eq, Bool.not_eq_true', decide_eq_false_iff_not, ite_true, ite_false, if_true, if_false, reduceIte, Bool.false_eq_true, Bool.not_true, Bool.not_false, Bool.true_eq_false, decide_true, decide_false, Nat.reduceLeDiff, Nat.reduceLT]; refine sat_seq ?_; simp only [sat_ok, sat_bad, sat_bind, sat_ite, bind_ok, bind_bad, thn_nx, thn_rt, thn_bk, thn_ct, fin_rt, fin_nx, ev_v, ev_c, ev_op, ev_un, ev_nil, ev_cons, ev_tup, ev_lst, ev_call, ev_own, ev_sl, ev_no, ev_part, ev_and, ev_or, ev_not, ev_if, ev_t, ev_tb, ev_tnot, ev_tand, ev_tor, ev_mt, ev_mt0, ev_rgd, ev_set, ev_asg, ev_ret, ev_retN, ev_ex, ev_pass, ev_brk, ev_cont, ev_ifS, ev_aug, ev_gn, ev_gtp, ev_gnl, ev_gcs, ev_gsb, ev_for, ev_rg1, ev_rg2, ev_its, ev_enum, ev_lc, ev_yes, ev_add_ii, ev_add_ss, ev_add_tt, ev_add_rr, ev_sub, ev_mul, ev_mod, ev_fdiv, ev_pow, ev_neg, ev_lt, ev_le, ev_gt, ev_ge, ev_eq_ii, ev_eq_ss, ev_eq_bb, ev_ne_ii, ev_ne_ss, ev_ne_bb, ev_is_n, ev_isnt_n, ev_int_i, ev_int_b, ev_min_ii, ev_max_ii, ev_abs, ev_tup_of, ev_tup_ofL, ev_lst_ofT, ev_lst_ofL, ev_len_t, ev_len_s, ev_len_r, ev_tru_b, ev_alloc, ev_tupD, ev_lstD, isi_tuple_non, isi_tuple_bl, isi_tuple_int, isi_tuple_str, isi_tuple_tup, isi_tuple_l, isi_tuple_f, isi_list_non, isi_list_bl, isi_list_int, isi_list_str, isi_list_tup, isi_list_l, isi_list_f, isi_bool_non, isi_bool_bl, isi_bool_int, isi_bool_str, isi_bool_tup, isi_bool_l, isi_bool_f, isi_int_non, isi_int_bl, isi_int_int, isi_int_str, isi_int_tup, isi_int_l, isi_int_f, isi_str_non, isi_str_bl, isi_str_int, isi_str_str, isi_str_tup, isi_str_l, isi_str_f, isi_dict_non, isi_dict_bl, isi_dict_int, isi_dict_str, isi_dict_tup, isi_dict_l, isi_dict_f, Ab.isNon, args, List.map, List.length_cons, List.length_nil, List.length_singleton, List.replicate, Nat.reduceSub, Nat.reduceAdd, Nat.zero_add, List.cons_append, List.nil_append, List.getElem?_cons_zero, List.getElem?_cons_succ, List.set_cons_zero, List.set_cons_succ, Option.some.injEq, decide_eq_true_eq, Bool.not_eq_true', decide_eq_false_iff_not, ite_true, ite_false, if_true, if_false, reduceIte, Bool.false_eq_true, Bool.not_true, Bool.not_false, Bool.true_eq_false, decide_true, decide_false, Nat.reduceLeDiff, Nat.reduceLT]; exact ⟨by simp, trivial⟩
      | tup ds => exact h.elim
      | ref _ => exact h.elim
    obtain ⟨e, A', h1, rfl, rfl⟩ := key.eq
    exact h1
  | succ n ih =>
    intro d A h
    have key : Sat (m__law_same (n + 1 + 1) [d, d] A) fun e A' => e = .bl true ∧ A' = A := by
      refine sat_body rfl (sat_seq ?_)
      cases d with
      | non => simp only [sat_ok, sat_bad, sat_bind, sat_ite, bind_ok, bind_bad, thn_nx, thn_rt, thn_bk, thn_ct, fin_rt, fin_nx, ev_v, ev_c, ev_op, ev_un, ev_nil, ev_cons, ev_tup, ev_lst, ev_call, ev_own, ev_sl, ev_no, ev_part, ev_and, ev_or, ev_not, ev_if, ev_t, ev_tb, ev_tnot, ev_tand, ev_tor, ev_mt, ev_mt0, ev_rgd, ev_set, ev_asg, ev_ret, ev_retN, ev_ex, ev_pass, ev_brk, ev_cont, ev_ifS, ev_aug, ev_gn, ev_gtp, ev_gnl, ev_gcs, ev_gsb, ev_for, ev_rg1, ev_rg2, ev_its, ev_enum, ev_lc, ev_yes, ev_add_ii, ev_add_ss, ev_add_tt, ev_add_rr, ev_sub, ev_mul, ev_mod, ev_fdiv, ev_pow, ev_neg, ev_lt, ev_le, ev_gt, ev_ge, ev_eq_ii, ev_eq_ss, ev_eq_bb, ev_ne_ii, ev_ne_ss, ev_ne_bb, ev_is_n, ev_isnt_n, ev_int_i, ev_int_b, ev_min_ii, ev_max_ii, ev_abs, ev_tup_of, ev_tup_ofL, ev_lst_ofT, ev_lst_ofL, ev_len_t, ev_len_s, ev_len_r, ev_tru_b, ev_alloc, ev_tupD, ev_lstD, isi_tuple_non, isi_tuple_bl, isi_tuple_int, isi_tuple_str, isi_tuple_tup, isi_tuple_l, isi_tuple_f, isi_list_non, isi_list_bl, isi_list_int, isi_list_str, isi_list_tup, isi_list_l, isi_list_f, isi_bool_non, isi_bool_bl, isi_bool_int, isi_bool_str, isi_bool_tup, isi_bool_l, isi_bool_f, isi_int_non, isi_int_bl, isi_int_int, isi_int_str, isi_int_tup, isi_int_l, isi_int_f, isi_str_non, isi_str_bl, isi_str_int, isi_str_str, isi_str_tup, isi_str_l, isi_str_f, isi_dict_non, isi_dict_bl, isi_dict_int, isi_dict_str, isi_dict_tup, isi_dict_l, isi_dict_f, Ab.isNon, args, List.map, List.length_cons, List.length_nil, List.length_singleton, List.replicate, Nat.reduceSub, Nat.reduceAdd, Nat.zero_add, List.cons_append, List.nil_append, List.getElem?_cons_zero, List.getElem?_cons_succ, List.set_cons_zero, List.set_cons_succ, Option.some.injEq, decide_eq_true_eq, Bool.not_eq_true', decide_eq_false_iff_not, ite_true, ite_false, if_true, if_false, reduceIte, Bool.false_eq_true, Bool.not_true, Bool.not_false, Bool.true_eq_false, decide_true, decide_false, Nat.reduceLeDiff, Nat.reduceLT]; refine sat_seq ?_; simp only [sat_ok, sat_bad, sat_bind, sat_ite, bind_ok, bind_bad, thn_nx, thn_rt, thn_bk, thn_ct, fin_rt, fin_nx, ev_v, ev_c, ev_op, ev_un, ev_nil, ev_cons, ev_tup, ev_lst, ev_call, ev_own, ev_sl, ev_no, ev_part, ev_and, ev_or, ev_not, ev_if, ev_t, ev_tb, ev_tnot, ev_tand, ev_tor, ev_mt, ev_mt0, ev_rgd, ev_set, ev_asg, ev_ret, ev_retN, ev_ex, ev_pass, ev_brk, ev_cont, ev_ifS, ev_aug, ev_gn, ev_gtp, ev_gnl, ev_gcs, ev_gsb, ev_for, ev_rg1, ev_rg2, ev_its, ev_enum, ev_lc, ev_yes, ev_add_ii, ev_add_ss, ev_add_tt, ev_add_rr, ev_sub, ev_mul, ev_mod, ev_fdiv, ev_pow, ev_neg, ev_lt, ev_le, ev_gt, ev_ge, ev_eq_ii, ev_eq_ss, ev_eq_bb, ev_ne_ii, ev_ne_ss, ev_ne_bb, ev_is_n, ev_isnt_n, ev_int_i, ev_int_b, ev_min_ii, ev_max_ii, ev_abs, ev_tup_of, ev_tup_ofL, ev_lst_ofT, ev_lst_ofL, ev_len_t, ev_len_s, ev_len_r, ev_tru_b, ev_alloc, ev_tupD, ev_lstD, isi_tuple_non, isi_tuple_bl, isi_tuple_int, isi_tuple_str, isi_tuple_tup, isi_tuple_l, isi_tuple_f, isi_list_non, isi_list_bl, isi_list_int, isi_list_str, isi_list_tup, isi_list_l, isi_list_f, isi_bool_non, isi_bool_bl, isi_bool_int, isi_bool_str, isi_bool_tup, isi_bool_l, isi_bool_f, isi_int_non, isi_int_bl, isi_int_int, isi_int_str, isi_int_tup, isi_int_l, isi_int_f, isi_str_non, isi_str_bl, isi_str_int, isi_str_str, isi_str_tup, isi_str_l, isi_str_f, isi_dict_non, isi_dict_bl, isi_dict_int, isi_dict_str, isi_dict_tup, isi_dict_l, isi_dict_f, Ab.isNon, args, List.map, List.length_cons, List.length_nil, List.length_singleton, List.replicate, Nat.reduceSub, Nat.reduceAdd, Nat.zero_add, List.cons_append, List.nil_append, List.getElem?_cons_zero, List.getElem?_cons_succ, List.set_cons_zero, List.set_cons_succ, Option.some.injEq, decide_eq_true_eq, Bool.not_eq_true', decide_eq_false_iff_not, ite_true, ite_false, if_true, if_false, reduceIte, Bool.false_eq_true, Bool.not_true, Bool.not_false, Bool.true_eq_false, decide_true, decide_false, Nat.reduceLeDiff, Nat.reduceLT]; trivial
      | bl b => simp only [sat_ok, sat_bad, sat_bind, sat_ite, bind_ok, bind_bad, thn_nx, thn_rt, thn_bk, thn_ct, fin_rt, fin_nx, ev_v, ev_c, ev_op, ev_un, ev_nil, ev_cons, ev_tup, ev_lst, ev_call, ev_own, ev_sl, ev_no, ev_part, ev_and, ev_or, ev_not, ev_if, ev_t, ev_tb, ev_tnot, ev_tand, ev_tor, ev_mt, ev_mt0, ev_rgd, ev_set, ev_asg, ev_ret, ev_retN, ev_ex, ev_pass, ev_brk, ev_cont, ev_ifS, ev_aug, ev_gn, ev_gtp, ev_gnl, ev_gcs, ev_gsb, ev_for, ev_rg1, ev_rg2, ev_its, ev_enum, ev_lc, ev_yes, ev_add_ii, ev_add_ss, ev_add_tt, ev_add_rr, ev_sub, ev_mul, ev_mod, ev_fdiv, ev_pow, ev_neg, ev_lt, ev_le, ev_gt, ev_ge, ev_eq_ii, ev_eq_ss, ev_eq_bb, ev_ne_ii, ev_ne_ss, ev_ne_bb, ev_is_n, ev_isnt_n, ev_int_i, ev_int_b, ev_min_ii, ev_max_ii, ev_abs, ev_tup_of, ev_tup_ofL, ev_lst_ofT, ev_lst_ofL, ev_len_t, ev_len_s, ev_len_r, ev_tru_b, ev_alloc, ev_tupD, ev_lstD, isi_tuple_non, isi_tuple_bl, isi_tuple_int, isi_tuple_str, isi_tuple_tup, isi_tuple_l, isi_tuple_f, isi_list_non, isi_list_bl, isi_list_int, isi_list_str, isi_list_tup, isi_list_l, isi_list_f, isi_bool_non, isi_bool_bl, isi_bool_int, isi_bool_str, isi_bool_tup, isi_bool_l, isi_bool_f, isi_int_non, isi_int_bl, isi_int_int, isi_int_str, isi_int_tup, isi_int_l, isi_int_f, isi_str_non, isi_str_bl, isi_str_int, isi_str_str, isi_str_tup, isi_str_l, isi_str_f, isi_dict_non, isi_dict_bl, isi_dict_int, isi_dict_str, isi_dict_tup, isi_dict_l, isi_dict_f, Ab.isNon, args, List.map, List.length_cons, List.length_nil, List.length_singleton, List.replicate, Nat.reduceSub, Nat.reduceAdd, Nat.zero_add, List.cons_append, List.nil_append, List.getElem?_cons_zero, List.getElem?_cons_succ, List.set_cons_zero, List.set_cons_succ, Option.some.injEq, decide_eq_true_eq, Bool.not_eq_true', decide_eq_false_iff_not, ite_true, ite_false, if_true, if_false, reduceIte, Bool.false_eq_true, Bool.not_true, Bool.not_false, Bool.true_eq_false, decide_true, decide_false, Nat.reduceLeDiff, Nat.reduceLT]; refine sat_seq ?_; simp only [sat_ok, sat_bad, sat_bind, sat_ite, bind_ok, bind_bad, thn_nx, thn_rt, thn_bk, thn_ct, fin_rt, fin_nx, ev_v, ev_c, ev_op, ev_un, ev_nil, ev_cons, ev_tup, ev_lst, ev_call, ev_own, ev_sl, ev_no, ev_part, ev_and, ev_or, ev_not, ev_if, ev_t, ev_tb, ev_tnot, ev_tand, ev_tor, ev_mt, ev_mt0, ev_rgd, ev_set, ev_asg, ev_ret, ev_retN, ev_ex, ev_pass, ev_brk, ev_cont, ev_ifS, ev_aug, ev_gn, ev_gtp, ev_gnl, ev_gcs, ev_gsb, ev_for, ev_rg1, ev_rg2, ev_its, ev_enum, ev_lc, ev_yes, ev_add_ii, ev_add_ss, ev_add_tt, ev_add_rr, ev_sub, ev_mul, ev_mod, ev_fdiv, ev_pow, ev_neg, ev_lt, ev_le, ev_gt, ev_ge, ev_eq_ii, ev_eq_ss, ev_eq_bb, ev_ne_ii, ev_ne_ss, ev_ne_bb, ev_is_n, ev_isnt_n, ev_int_i, ev_int_b, ev_min_ii, ev_max_ii, ev_abs, ev_tup_of, ev_tup_ofL, ev_lst_ofT, ev_lst_ofL, ev_len_t, ev_len_s, ev_len_r, ev_tru_b, ev_alloc, ev_tupD, ev_lstD, isi_tuple_non, isi_tuple_bl, isi_tuple_int, isi_tuple_str, isi_tuple_tup, isi_tuple_l, isi_tuple_f, isi_list_non, isi_list_bl, isi_list_int, isi_list_str, isi_list_tup, isi_list_l, isi_list_f, isi_bool_non, isi_bool_bl, isi_bool_int, isi_bool_str, isi_bool_tup, isi_bool_l, isi_bool_f, isi_int_non, isi_int_bl, isi_int_int, isi_int_str, isi_int_tup, isi_int_l, isi_int_f, isi_str_non, isi_str_bl, isi_str_int, isi_str_str, isi_str_tup, isi_str_l, isi_str_f, isi_dict_non, isi_dict_bl, isi_dict_int, isi_dict_str, isi_dict_tup, isi_dict_l, isi_dict_f, Ab.isNon, args, List.map, List.length_cons, List.length_nil, List.length_singleton, List.replicate, Nat.reduceSub, Nat.reduceAdd, Nat.zero_add, List.cons_append, List.nil_append, List.getElem?_cons_zero, List.getElem?_cons_succ, List.set_cons_zero, List.set_cons_succ, Option.some.injEq, decide_eq_true_eq, Bool.not_eq_true', decide_eq_false_iff_not, ite_true, ite_false, if_true, if_false, reduceIte, Bool.false_eq_true, Bool.not_true, Bool.not_false, Bool.true_eq_false, decide_true, decide_false, Nat.reduceLeDiff, Nat.reduceLT]; refine sat_seq ?_; simp only [sat_ok, sat_bad, sat_bind, sat_ite, bind_ok, bind_bad, thn_nx, thn_rt, thn_bk, thn_ct, fin_rt, fin_nx, ev_v, ev_c, ev_op, ev_un, ev_nil, ev_cons, ev_tup, ev_lst, ev_call, ev_own, ev_sl, ev_no, ev_part, ev_and, ev_or, ev_not, ev_if, ev_t, ev_tb, ev_tnot, ev_tand, ev_tor, ev_mt, ev_mt0, ev_rgd, ev_set, ev_asg, ev_ret, ev_retN, ev_ex, ev_pass, ev_brk, ev_cont, ev_ifS, ev_aug, ev_gn, ev_gtp, ev_gnl, ev_gcs, ev_gsb, ev_for, ev_rg1, ev_rg2, ev_its, ev_enum, ev_lc, ev_yes, ev_add_ii, ev_add_ss, ev_add_tt, ev_add_rr, ev_sub, ev_mul, ev_mod, ev_fdiv, ev_pow, ev_neg, ev_lt, ev_le, ev_gt, ev_ge, ev_eq_ii, ev_eq_ss, ev_eq_bb, ev_ne_ii, ev_ne_ss, ev_ne_bb, ev_is_n, ev_isnt_n, ev_int_i, ev_int_b, ev_min_ii, ev_max_ii, ev_abs, ev_tup_of, ev_tup_ofL, ev_lst_ofT, ev_lst_ofL, ev_len_t, ev_len_s, ev_len_r, ev_tru_b, ev_alloc, ev_tupD, ev_lstD, isi_tuple_non, isi_tuple_bl, isi_tuple_int, isi_tuple_str, isi_tuple_tup, isi_tuple_l, isi_tuple_f, isi_list_non, isi_list_bl, isi_list_int, isi_list_str, isi_list_tup, isi_list_l, isi_list_f, isi_bool_non, isi_bool_bl, isi_bool_int, isi_bool_str, isi_bool_tup, isi_bool_l, isi_bool_f, isi_int_non, isi_int_bl, isi_int_int, isi_int_str, isi_int_tup, isi_int_l, isi_int_f, isi_str_non, isi_str_bl, isi_str_int, isi_str_str, isi_str_tup, isi_str_l, isi_str_f, isi_dict_non, isi_dict_bl, isi_dict_int, isi_dict_str, isi_dict_tup, isi_dict_l, isi_dict_f, Ab.isNon, args, List.map, List.length_cons, List.length_nil, List.length_singleton, List.replicate, Nat.reduceSub, Nat.reduceAdd, Nat.zero_add, List.cons_append, List.nil_append, List.getElem?_cons_zero, List.getElem?_cons_succ, List.set_cons_zero, List.set_cons_succ, Option.some.injEq, decide_eq_true_eq, Bool.not_eq_true', decide_eq_false_iff_not, ite_true, ite_false, if_true, if_false, reduceIte, Bool.false_eq_true, Bool.not_true, Bool.not_false, Bool.true_eq_false, decide_true, decide_false, Nat.reduceLeDiff, Nat.reduceLT]; exact ⟨by simp, trivial⟩
      | int b => simp only [sat_ok, sat_bad, sat_bind, sat_ite, bind_ok, bind_bad, thn_nx, thn_rt, thn_bk, thn_ct, fin_rt, fin_nx, ev_v, ev_c, ev_op, ev_un, ev_nil, ev_cons, ev_tup, ev_lst, ev_call, ev_own, ev_sl, ev_no, ev_part, ev_and, ev_or, ev_not, ev_if, ev_t, ev_tb, ev_tnot, ev_tand, ev_tor, ev_mt, ev_mt0, ev_rgd, ev_set, ev_asg, ev_ret, ev_retN, ev_ex, ev_pass, ev_brk, ev_cont, ev_ifS, ev_aug, ev_gn, ev_gtp, ev_gnl, ev_gcs, ev_gsb, ev_for, ev_rg1, ev_rg2, ev_its, ev_enum, ev_lc, ev_yes, ev_add_ii, ev_add_ss, ev_add_tt, ev_add_rr, ev_sub, ev_mul, ev_mod, ev_fdiv, ev_pow, ev_neg, ev_lt, ev_le, ev_gt, ev_ge, ev_eq_ii, ev_eq_ss, ev_eq_bb, ev_ne_ii, ev_ne_ss, ev_ne_bb, ev_is_n, ev_isnt_n, ev_int_i, ev_int_b, ev_min_ii, ev_max_ii, ev_abs, ev_tup_of, ev_tup_ofL, ev_lst_ofT, ev_lst_ofL, ev_len_t, ev_len_s, ev_len_r, ev_tru_b, ev_alloc, ev_tupD, ev_lstD, isi_tuple_non, isi_tuple_bl, isi_tuple_int, isi_tuple_str, isi_tuple_tup, isi_tuple_l, isi_tuple_f, isi_list_non, isi_list_bl, isi_list_int, isi_list_str, isi_list_tup, isi_list_l, isi_list_f, isi_bool_non, isi_bool_bl, isi_bool_int, isi_bool_str, isi_bool_tup, isi_bool_l, isi_bool_f, isi_int_non, isi_int_bl, isi_int_int, isi_int_str, isi_int_tup, isi_int_l, isi_int_f, isi_str_non, isi_str_bl, isi_str_int, isi_str_str, isi_str_tup, isi_str_l, isi_str_f, isi_dict_non, isi_dict_bl, isi_dict_int, isi_dict_str, isi_dict_tup, isi_dict_l, isi_dict_f, Ab.isNon, args, List.map, List.length_cons, List.length_nil, List.length_singleton, List.replicate, Nat.reduceSub, Nat.reduceAdd, Nat.zero_add, List.cons_append, List.nil_append, List.getElem?_cons_zero, List.getElem?_cons_succ, List.set_cons_zero, List.set_cons_succ, Option.some.injEq, decide_eq_true_eq, Bool.not_eq_true', decide_eq_false_iff_not, ite_true, ite_false, if_true, if_false, reduceIte, Bool.false_eq_true, Bool.not_true, Bool.not_false, Bool.true_eq_false, decide_true, decide_false, Nat.reduceLeDiff, Nat.reduceLT]; refine sat_seq ?_; simp only [sat_ok, sat_bad, sat_bind, sat_ite, bind_ok, bind_bad, thn_nx, thn_rt, thn_bk, thn_ct, fin_rt, fin_nx, ev_v, ev_c, ev_op, ev_un, ev_nil, ev_cons, ev_tup, ev_lst, ev_call, ev_own, ev_sl, ev_no, ev_part, ev_and, ev_or, ev_not, ev_if, ev_t, ev_tb, ev_tnot, ev_tand, ev_tor, ev_mt, ev_mt0, ev_rgd, ev_set, ev_asg, ev_ret, ev_retN, ev_ex, ev_pass, ev_brk, ev_cont, ev_ifS, ev_aug, ev_gn, ev_gtp, ev_gnl, ev_gcs, ev_gsb, ev_for, ev_rg1, ev_rg2, ev_its, ev_enum, ev_lc, ev_yes, ev_add_ii, ev_add_ss, ev_add_tt, ev_add_rr, ev_sub, ev_mul, ev_mod, ev_fdiv, ev_pow, ev_neg, ev_lt, ev_le, ev_gt, ev_ge, ev_eq_ii, ev_eq_ss, ev_eq_bb, ev_ne_ii, ev_ne_ss, ev_ne_bb, ev_is_n, ev_isnt_n, ev_int_i, ev_int_b, ev_min_ii, ev_max_ii, ev_abs, ev_tup_of, ev_tup_ofL, ev_lst_ofT, ev_lst_ofL, ev_len_t, ev_len_s, ev_len_r, ev_tru_b, ev_alloc, ev_tupD, ev_lstD, isi_tuple_non, isi_tuple_bl, isi_tuple_int, isi_tuple_str, isi_tuple_tup, isi_tuple_l, isi_tuple_f, isi_list_non, isi_list_bl, isi_list_int, isi_list_str, isi_list_tup, isi_list_l, isi_list_f, isi_bool_non, isi_bool_bl, isi_bool_int, isi_bool_str, isi_bool_tup, isi_bool_l, isi_bool_f, isi_int_non, isi_int_bl, isi_int_int, isi_int_str, isi_int_tup, isi_int_l, isi_int_f, isi_str_non, isi_str_bl, isi_str_int, isi_str_str, isi_str_tup, isi_str_l, isi_str_f, isi_dict_non, isi_dict_bl, isi_dict_int, isi_dict_str, isi_dict_tup, isi_dict_l, isi_dict_f, Ab.isNon, args, List.map, List.length_cons, List.length_nil, List.length_singleton, List.replicate, Nat.reduceSub, Nat.reduceAdd, Nat.zero_add, List.cons_append, List.nil_append, List.getElem?_cons_zero, List.getElem?_cons_succ, List.set_cons_zero, List.set_cons_succ, Option.some.injEq, decide_eq_true_eq, Bool.not_eq_true', decide_eq_false_iff_not, ite_true, ite_false, if_true, if_false, reduceIte, Bool.false_eq_true, Bool.not_true, Bool.not_false, Bool.true_eq_false, decide_true, decide_false, Nat.reduceLeDiff, Nat.reduceLT]; refine sat_seq ?_; simp only [sat_ok, sat_bad, sat_bind, sat_ite, bind_ok, bind_bad, thn_nx, thn_rt, thn_bk, thn_ct, fin_rt, fin_nx, ev_v, ev_c, ev_op, ev_un, ev_nil, ev_cons, ev_tup, ev_lst, ev_call, ev_own, ev_sl, ev_no, ev_part, ev_and, ev_or, ev_not, ev_if, ev_t, ev_tb, ev_tnot, ev_tand, ev_tor, ev_mt, ev_mt0, ev_rgd, ev_set, ev_asg, ev_ret, ev_retN, ev_ex, ev_pass, ev_brk, ev_cont, ev_ifS, ev_aug, ev_gn, ev_gtp, ev_gnl, ev_gcs, ev_gsb, ev_for, ev_rg1, ev_rg2, ev_its, ev_enum, ev_lc, ev_yes, ev_add_ii, ev_add_ss, ev_add_tt, ev_add_rr, ev_sub, ev_mul, ev_mod, ev_fdiv, ev_pow, ev_neg, ev_lt, ev_le, ev_gt, ev_ge, ev_eq_ii, ev_eq_ss, ev_eq_bb, ev_ne_ii, ev_ne_ss, ev_ne_bb, ev_is_n, ev_isnt_n, ev_int_i, ev_int_b, ev_min_ii, ev_max_ii, ev_abs, ev_tup_of, ev_tup_ofL, ev_lst_ofT, ev_lst_ofL, ev_len_t, ev_len_s, ev_len_r, ev_tru_b, ev_alloc, ev_tupD, ev_lstD, isi_tuple_non, isi_tuple_bl, isi_tuple_int, isi_tuple_str, isi_tuple_tup, isi_tuple_l, isi_tuple_f, isi_list_non, isi_list_bl, isi_list_int, isi_list_str, isi_list_tup, isi_list_l, isi_list_f, isi_bool_non, isi_bool_bl, isi_bool_int, isi_bool_str, isi_bool_tup, isi_bool_l, isi_bool_f, isi_int_non, isi_int_bl, isi_int_int, isi_int_str, isi_int_tup, isi_int_l, isi_int_f, isi_str_non, isi_str_bl, isi_str_int, isi_str_str, isi_str_tup, isi_str_l, isi_str_f, isi_dict_non, isi_dict_bl, isi_dict_int, isi_dict_str, isi_dict_tup, isi_dict_l, isi_dict_f, Ab.isNon, args, List.map, List.length_cons, List.length_nil, List.length_singleton, List.replicate, Nat.reduceSub, Nat.reduceAdd, Nat.zero_add, List.cons_append, List.nil_append, List.getElem?_cons_zero, List.getElem?_cons_succ, List.set_cons_zero, List.set_cons_succ, Option.some.injEq, decide_eq_true_eq, Bool.not_eq_true', decide_eq_false_iff_not, ite_true, ite_false, if_true, if_false, reduceIte, Bool.false_eq_true, Bool.not_true, Bool.not_false, Bool.true_eq_false, decide_true, decide_false, Nat.reduceLeDiff, Nat.reduceLT]; refine sat_seq ?_; simp only [sat_ok, sat_bad, sat_bind, sat_ite, bind_ok, bind_bad, thn_nx, thn_rt, thn_bk, thn_ct, fin_rt, fin_nx, ev_v, ev_c, ev_op, ev_un, ev_nil, ev_cons, ev_tup, ev_lst, ev_call, ev_own, ev_sl, ev_no, ev_part, ev_and, ev_or, ev_not, ev_if, ev_t, ev_tb, ev_tnot, ev_tand, ev_tor, ev_mt, ev_mt0, ev_rgd, ev_set, ev_asg, ev_ret, ev_retN, ev_ex, ev_pass, ev_brk, ev_cont, ev_ifS, ev_aug, ev_gn, ev_gtp, ev_gnl, ev_gcs, ev_gsb, ev_for, ev_rg1, ev_rg2, ev_its, ev_enum, ev_lc, ev_yes, ev_add_ii, ev_add_ss, ev_add_tt, ev_add_rr, ev_sub, ev_mul, ev_mod, ev_fdiv, ev_pow, ev_neg, ev_lt, ev_le, ev_gt, ev_ge, ev_eq_ii, ev_eq_ss, ev_eq_bb, ev_ne_ii, ev_ne_ss, ev_ne_bb, ev_is_n, ev_isnt_n, ev_int_i, ev_int_b, ev_min_ii, ev_max_ii, ev_abs, ev_tup_of, ev_tup_ofL, ev_lst_ofT, ev_lst_ofL, ev_len_t, ev_len_s, ev_len_r, ev_tru_b, ev_alloc, ev_tupD, ev_lstD, isi_tuple_non, isi_tuple_bl, isi_tuple_int, isi_tuple_str, isi_tuple_tup, isi_tuple_l, isi_tuple_f, isi_list_non, isi_list_bl, isi_list_int, isi_list_str, isi_list_tup, isi_list_l, isi_list_f, isi_bool_non, isi_bool_bl, isi_bool_int, isi_bool_str, isi_bool_tup, isi_bool_l, isi_bool_f, isi_int_non, isi_int_bl, isi_int_int, isi_int_str, isi_int_tup, isi_int_l, isi_int_f, isi_str_non, isi_str_bl, isi_str_int, isi_str_str, isi_str_tup, isi_str_l, isi_str_f, isi_dict_non, isi_dict_bl, isi_dict_int, isi_dict_str, isi_dict_tup, isi_dict_l, isi_dict_f, Ab.isNon, args, List.map, List.length_cons, List.length_nil, List.length_singleton, List.replicate, Nat.reduceSub, Nat.reduceAdd, Nat.zero_add, List.cons_append, List.nil_append, List.getElem?_cons_zero, List.getElem?_cons_succ, List.set_cons_zero, List.set_cons_succ, Option.some.injEq, decide_eq_true_eq, Bool.not_eq_true', decide_eq_false_iff_not, ite_true, ite_false, if_true, if_false, reduceIte, Bool.false_eq_true, Bool.not_true, Bool.not_false, Bool.true_eq_false, decide_true, decide_false, Nat.reduceLeDiff, Nat.reduceLT]; exact ⟨by simp, trivial⟩
      | str b => simp only [sat_ok, sat_bad, sat_bind, sat_ite, bind_ok, bind_bad, thn_nx, thn_rt, thn_bk, thn_ct, fin_rt, fin_nx, ev_v, ev_c, ev_op, ev_un, ev_nil, ev_cons, ev_tup, ev_lst, ev_call, ev_own, ev_sl, ev_no, ev_part, ev_and, ev_or, ev_not, ev_if, ev_t, ev_tb, ev_tnot, ev_tand, ev_tor, ev_mt, ev_mt0, ev_rgd, ev_set, ev_asg, ev_ret, ev_retN, ev_ex, ev_pass, ev_brk, ev_cont, ev_ifS, ev_aug, ev_gn, ev_gtp, ev_gnl, ev_gcs, ev_gsb, ev_for, ev_rg1, ev_rg2, ev_its, ev_enum, ev_lc, ev_yes, ev_add_ii, ev_add_ss, ev_add_tt, ev_add_rr, ev_sub, ev_mul, ev_mod, ev_fdiv, ev_pow, ev_neg, ev_lt, ev_le, ev_gt, ev_ge, ev_eq_ii, ev_eq_ss, ev_eq_bb, ev_ne_ii, ev_ne_ss, ev_ne_bb, ev_is_n, ev_isnt_n, ev_int_i, ev_int_b, ev_min_ii, ev_max_ii, ev_abs, ev_tup_of, ev_tup_ofL, ev_lst_ofT, ev_lst_ofL, ev_len_t, ev_len_s, ev_len_r, ev_tru_b, ev_alloc, ev_tupD, ev_lstD, isi_tuple_non, isi_tuple_bl, isi_tuple_int, isi_tuple_str, isi_tuple_tup, isi_tuple_l, isi_tuple_f, isi_list_non, isi_list_bl, isi_list_int, isi_list_str, isi_list_tup, isi_list_l, isi_list_f, isi_bool_non, isi_bool_bl, isi_bool_int, isi_bool_str, isi_bool_tup, isi_bool_l, isi_bool_f, isi_int_non, isi_int_bl, isi_int_int, isi_int_str, isi_int_tup, isi_int_l, isi_int_f, isi_str_non, isi_str_bl, isi_str_int, isi_str_str, isi_str_tup, isi_str_l, isi_str_f, isi_dict_non, isi_dict_bl, isi_dict_int, isi_dict_str, isi_dict_tup, isi_dict_l, isi_dict_f, Ab.isNon, args, List.map, List.length_cons, List.length_nil, List.length_singleton, List.replicate, Nat.reduceSub, Nat.reduceAdd, Nat.zero_add, List.cons_append, List.nil_append, List.getElem?_cons_zero, List.getElem?_cons_succ, List.set_cons_zero, List.set_cons_succ, Option.some.injEq, decide_eq_true_eq, Bool.not_eq_true', decide_eq_false_iff_not, ite_true, ite_false, if_true, if_false, reduceIte, Bool.false_eq_true, Bool.not_true, Bool.not_false, Bool.true_eq_false, decide_true, decide_false, Nat.reduceLeDiff, Nat.reduceLT]; refine sat_seq ?_; simp only [sat_ok, sat_bad, sat_bind, sat_ite, bind_ok, bind_bad, thn_nx, thn_rt, thn_bk, thn_ct, fin_rt, fin_nx, ev_v, ev_c, ev_op, ev_un, ev_nil, ev_cons, ev_tup, ev_lst, ev_call, ev_own, ev_sl, ev_no, ev_part, ev_and, ev_or, ev_not, ev_if, ev_t, ev_tb, ev_tnot, ev_tand, ev_tor, ev_mt, ev_mt0, ev_rgd, ev_set, ev_asg, ev_ret, ev_retN, ev_ex, ev_pass, ev_brk, ev_cont, ev_ifS, ev_aug, ev_gn, ev_gtp, ev_gnl, ev_gcs, ev_gsb, ev_for, ev_rg1, ev_rg2, ev_its, ev_enum, ev_lc, ev_yes, ev_add_ii, ev_add_ss, ev_add_tt, ev_add_rr, ev_sub, ev_mul, ev_mod, ev_fdiv, ev_pow, ev_neg, ev_lt, ev_le, ev_gt, ev_ge, ev_eq_ii, ev_eq_ss, ev_eq_bb, ev_ne_ii, ev_ne_ss, ev_ne_bb, ev_is_n, ev_isnt_n, ev_int_i, ev_int_b, ev_min_ii, ev_max_ii, ev_abs, ev_tup_of, ev_tup_ofL, ev_lst_ofT, ev_lst_ofL, ev_len_t, ev_len_s, ev_len_r, ev_tru_b, ev_alloc, ev_tupD, ev_lstD, isi_tuple_non, isi_tuple_bl, isi_tuple_int, isi_tuple_str, isi_tuple_tup, isi_tuple_l, isi_tuple_f, isi_list_non, isi_list_bl, isi_list_int, isi_list_str, isi_list_tup, isi_list_l, isi_list_f, isi_bool_non, isi_bool_bl, isi_bool_int, isi_bool_str, isi_bool_tup, isi_bool_l, isi_bool_f, isi_int_non, isi_int_bl, isi_int_int, isi_int_str, isi_int_tup, isi_int_l, isi_int_f, isi_str_non, isi_str_bl, isi_str_int, isi_str_str, isi_str_tup, isi_str_l, isi_str_f, isi_dict_non, isi_dict_bl, isi_dict_int, isi_dict_str, isi_dict_tup, isi_dict_l, isi_dict_f, Ab.isNon, args, List.map, List.length_cons, List.length_nil, List.length_singleton, List.replicate, Nat.reduceSub, Nat.reduceAdd, Nat.zero_add, List.cons_append, List.nil_append, List.getElem?_cons_zero, List.getElem?_cons_succ, List.set_cons_zero, List.set_cons_succ, Option.some.injEq, decide_eq_true_eq, Bool.not_eq_true', decide_eq_false_iff_not, ite_true, ite_false, if_true, if_false, reduceIte, Bool.false_eq_true, Bool.not_true, Bool.not_false, Bool.true_eq_false, decide_true, decide_false, Nat.reduceLeDiff, Nat.reduceLT]; refine sat_seq ?_; simp only [sat_ok, sat_bad, sat_bind, sat_ite, bind_ok, bind_bad, thn_nx, thn_rt, thn_bk, thn_ct, fin_rt, fin_nx, ev_v, ev_c, ev_op, ev_un, ev_nil, ev_cons, ev_tup, ev_lst, ev_call, ev_own, ev_sl, ev_no, ev_part, ev_and, ev_or, ev_not, ev_if, ev_t, ev_tb, ev_tnot, ev_tand, ev_tor, ev_mt, ev_mt0, ev_rgd, ev_set, ev_asg, ev_ret, ev_retN, ev_ex, ev_pass, ev_brk, ev_cont, ev_ifS, ev_aug, ev_gn, ev_gtp, ev_gnl, ev_gcs, ev_gsb, ev_for, ev_rg1, ev_rg2, ev_its, ev_enum, ev_lc, ev_yes, ev_add_ii, ev_add_ss, ev_add_tt, ev_add_rr, ev_sub, ev_mul, ev_mod, ev_fdiv, ev_pow, ev_neg, ev_lt, ev_le, ev_gt, ev_ge, ev_eq_ii, ev_eq_ss, ev_eq_bb, ev_ne_ii, ev_ne_ss, ev_ne_bb, ev_is_n, ev_isnt_n, ev_int_i, ev_int_b, ev_min_ii, ev_max_ii, ev_abs, ev_tup_of, ev_tup_ofL, ev_lst_ofT, ev_lst_ofL, ev_len_t, ev_len_s, ev_len_r, ev_tru_b, ev_alloc, ev_tupD, ev_lstD, isi_tuple_non, isi_tuple_bl, isi_tuple_int, isi_tuple_str, isi_tuple_tup, isi_tuple_l, isi_tuple_f, isi_list_non, isi_list_bl, isi_list_int, isi_list_str, isi_list_tup, isi_list_l, isi_list_f, isi_bool_non, isi_bool_bl, isi_bool_int, isi_bool_str, isi_bool_tup, isi_bool_l, isi_bool_f, isi_int_non, isi_int_bl, isi_int_int, isi_int_str, isi_int_tup, isi_int_l, isi_int_f, isi_str_non, isi_str_bl, isi_str_int, isi_str_str, isi_str_tup, isi_str_l, isi_str_f, isi_dict_non, isi_dict_bl, isi_dict_int, isi_dict_str, isi_dict_tup, isi_dict_l, isi_dict_f, Ab.isNon, args, List.map, List.length_cons, List.length_nil, List.length_singleton, List.replicate, Nat.reduceSub, Nat.reduceAdd, Nat.zero_add, List.cons_append, List.nil_append, List.getElem?_cons_zero, List.getElem?_cons_succ, List.set_cons_zero, List.set_cons_succ, Option.some.injEq, decide_eq_true_eq, Bool.not_eq_true', decide_eq_false_iff_not, ite_true, ite_false, if_true, if_false, reduceIte, Bool.false_eq_true, Bool.not_true, Bool.not_false, Bool.true_eq_false, decide_true, decide_false, Nat.reduceLeDiff, Nat.reduceLT]; refine sat_seq ?_; simp only [sat_ok, sat_bad, sat_bind, sat_ite, bind_ok, bind_bad, thn_nx, thn_rt, thn_bk, thn_ct, fin_rt, fin_nx, ev_v, ev_c, ev_op, ev_un, ev_nil, ev_cons, ev_tup, ev_lst, ev_call, ev_own, ev_sl, ev_no, ev_part, ev_and, ev_or, ev_not, ev_if, ev_t, ev_tb, ev_tnot, ev_tand, ev_tor, ev_mt, ev_mt0, ev_rgd, ev_set, ev_asg, ev_ret, ev_retN, ev_ex, ev_pass, ev_brk, ev_cont, ev_ifS, ev_aug, ev_gn, ev_gtp, ev_gnl, ev_gcs, ev_gsb, ev_for, ev_rg1, ev_rg2, ev_its, ev_enum, ev_lc, ev_yes, ev_add_ii, ev_add_ss, ev_add_tt, ev_add_rr, ev_sub, ev_mul, ev_mod, ev_fdiv, ev_pow, ev_neg, ev_lt, ev_le, ev_gt, ev_ge, ev_eq_ii, ev_eq_ss, ev_eq_bb, ev_ne_ii, ev_ne_ss, ev_ne_bb, ev_is_n, ev_isnt_n, ev_int_i, ev_int_b, ev_min_ii, ev_max_ii, ev_abs, ev_tup_of, ev_tup_ofL, ev_lst_ofT, ev_lst_ofL, ev_len_t, ev_len_s, ev_len_r, ev_tru_b, ev_alloc, ev_tupD, ev_lstD, isi_tuple_non, isi_tuple_bl, isi_tuple_int, isi_tuple_str, isi_tuple_tup, isi_tuple_l, isi_tuple_f, isi_list_non, isi_list_bl, isi_list_int, isi_list_str, isi_list_tup, isi_list_l, isi_list_f, isi_bool_non, isi_bool_bl, isi_bool_int, isi_bool_str, isi_bool_tup, isi_bool_l, isi_bool_f, isi_int_non, isi_int_bl, isi_int_int, isi_int_str, isi_int_tup, isi_int_l, isi_int_f, isi_str_non, isi_str_bl, isi_str_int, isi_str_str, isi_str_tup, isi_str_l, isi_str_f, isi_dict_non, isi_dict_bl, isi_dict_int, isi_dict_str, isi_dict_tup, isi_dict_l, isi_dict_f, Ab.isNon, args, List.map, List.length_cons, List.length_nil, List.length_singleton, List.replicate, Nat.reduceSub, Nat.reduceAdd, Nat.zero_add, List.cons_append, List.nil_append, List.getElem?_cons_zero, List.getElem?_cons_succ, List.set_cons_zero, List.set_cons_succ, Option.some.injEq, decide_eq_true_eq, Bool.not_eq_true', decide_eq_false_iff_not, ite_true, ite_false, if_true, if_false, reduceIte, Bool.false_eq_true, Bool.not_true, Bool.not_false, Bool.true_eq_false, decide_true, decide_false, Nat.reduceLeDiff, Nat.reduceLT]; exact ⟨by simp, trivial⟩
      | ref _ => exact h.elim
      | tup ds =>
        obtain ⟨hl, hd⟩ := h
        simp only [sat_ok, sat_bad, sat_bind, sat_ite, bind_ok, bind_bad, thn_nx, thn_rt, thn_bk, thn_ct, fin_rt, fin_nx, ev_v, ev_c, ev_op, ev_un, ev_nil, ev_cons, ev_tup, ev_lst, ev_call, ev_own, ev_sl, ev_no, ev_part, ev_and, ev_or, ev_not, ev_if, ev_t, ev_tb, ev_tnot, ev_tand, ev_tor, ev_mt, ev_mt0, ev_rgd, ev_set, ev_asg, ev_ret, ev_retN, ev_ex, ev_pass, ev_brk, ev_cont, ev_ifS, ev_aug, ev_gn, ev_gtp, ev_gnl, ev_gcs, ev_gsb, ev_for, ev_rg1, ev_rg2, ev_its, ev_enum, ev_lc, ev_yes, ev_add_ii, ev_add_ss, ev_add_tt, ev_add_rr, ev_sub, ev_mul, ev_mod, ev_fdiv, ev_pow, ev_neg, ev_lt, ev_le, ev_gt, ev_ge, ev_eq_ii, ev_eq_ss, ev_eq_bb, ev_ne_ii, ev_ne_ss, ev_ne_bb, ev_is_n, ev_isnt_n, ev_int_i, ev_int_b, ev_min_ii, ev_max_ii, ev_abs, ev_tup_of, ev_tup_ofL, ev_lst_ofT, ev_lst_ofL, ev_len_t, ev_len_s, ev_len_r, ev_tru_b, ev_alloc, ev_tupD, ev_lstD, isi_tuple_non, isi_tuple_bl, isi_tuple_int, isi_tuple_str, isi_tuple_tup, isi_tuple_l, isi_tuple_f, isi_list_non, isi_list_bl, isi_list_int, isi_list_str, isi_list_tup, isi_list_l, isi_list_f, isi_bool_non, isi_bool_bl, isi_bool_int, isi_bool_str, isi_bool_tup, isi_bool_l, isi_bool_f, isi_int_non, isi_int_bl, isi_int_int, isi_int_str, isi_int_tup, isi_int_l, isi_int_f, isi_str_non, isi_str_bl, isi_str_int, isi_str_str, isi_str_tup, isi_str_l, isi_str_f, isi_dict_non, isi_dict_bl, isi_dict_int, isi_dict_str, isi_dict_tup, isi_dict_l, isi_dict_f, Ab.isNon, args, List.map, List.length_cons, List.length_nil, List.length_singleton, List.replicate, Nat.reduceSub, Nat.reduceAdd, Nat.zero_add, List.cons_append, List.nil_append, List.getElem?_cons_zero, List.getElem?_cons_succ, List.set_cons_zero, List.set_cons_succ, Option.some.injEq, decide_eq_true_eq, Bool.not_eq_true', decide_eq_false_iff_not, ite_true, ite_false, if_true, if_false, reduceIte, Bool.false_eq_true, Bool.not_true, Bool.not_false, Bool.true_eq_false, decide_true, decide_false, Nat.reduceLeDiff, Nat.reduceLT]
        refine sat_seq (sat_seq ?_)
        simp only [sat_ok, sat_bad, sat_bind, sat_ite, bind_ok, bind_bad, thn_nx, thn_rt, thn_bk, thn_ct, fin_rt, fin_nx, ev_v, ev_c, ev_op, ev_un, ev_nil, ev_cons, ev_tup, ev_lst, ev_call, ev_own, ev_sl, ev_no, ev_part, ev_and, ev_or, ev_not, ev_if, ev_t, ev_tb, ev_tnot, ev_tand, ev_tor, ev_mt, ev_mt0, ev_rgd, ev_set, ev_asg, ev_ret, ev_retN, ev_ex, ev_pass, ev_brk, ev_cont, ev_ifS, ev_aug, ev_gn, ev_gtp, ev_gnl, ev_gcs, ev_gsb, ev_for, ev_rg1, ev_rg2, ev_its, ev_enum, ev_lc, ev_yes, ev_add_ii, ev_add_ss, ev_add_tt, ev_add_rr, ev_sub, ev_mul, ev_mod, ev_fdiv, ev_pow, ev_neg, ev_lt, ev_le, ev_gt, ev_ge, ev_eq_ii, ev_eq_ss, ev_eq_bb, ev_ne_ii, ev_ne_ss, ev_ne_bb, ev_is_n, ev_isnt_n, ev_int_i, ev_int_b, ev_min_ii, ev_max_ii, ev_abs, ev_tup_of, ev_tup_ofL, ev_lst_ofT, ev_lst_ofL, ev_len_t, ev_len_s, ev_len_r, ev_tru_b, ev_alloc, ev_tupD, ev_lstD, isi_tuple_non, isi_tuple_bl, isi_tuple_int, isi_tuple_str, isi_tuple_tup, isi_tuple_l, isi_tuple_f, isi_list_non, isi_list_bl, isi_list_int, isi_list_str, isi_list_tup, isi_list_l, isi_list_f, isi_bool_non, isi_bool_bl, isi_bool_int, isi_bool_str, isi_bool_tup, isi_bool_l, isi_bool_f, isi_int_non, isi_int_bl, isi_int_int, isi_int_str, isi_int_tup, isi_int_l, isi_int_f, isi_str_non, isi_str_bl, isi_str_int, isi_str_str, isi_str_tup, isi_str_l, isi_str_f, isi_dict_non, isi_dict_bl, isi_dict_int, isi_dict_str, isi_dict_tup, isi_dict_l, isi_dict_f, Ab.isNon, args, List.map, List.length_cons, List.length_nil, List.length_singleton, List.replicate, Nat.reduceSub, Nat.reduceAdd, Nat.zero_add, List.cons_append, List.nil_append, List.getElem?_cons_zero, List.getElem?_cons_succ, List.set_cons_zero, List.set_cons_succ, Option.some.injEq, decide_eq_true_eq, Bool.not_eq_true', decide_eq_false_iff_not, ite_true, ite_false, if_true, if_false, reduceIte, Bool.false_eq_true, Bool.not_true, Bool.not_false, Bool.true_eq_false, decide_true, decide_false, Nat.reduceLeDiff, Nat.reduceLT]
        refine sat_seq ?_
        simp only [sat_ok, sat_bad, sat_bind, sat_ite, bind_ok, bind_bad, thn_nx, thn_rt, thn_bk, thn_ct, fin_rt, fin_nx, ev_v, ev_c, ev_op, ev_un, ev_nil, ev_cons, ev_tup, ev_lst, ev_call, ev_own, ev_sl, ev_no, ev_part, ev_and, ev_or, ev_not, ev_if, ev_t, ev_tb, ev_tnot, ev_tand, ev_tor, ev_mt, ev_mt0, ev_rgd, ev_set, ev_asg, ev_ret, ev_retN, ev_ex, ev_pass, ev_brk, ev_cont, ev_ifS, ev_aug, ev_gn, ev_gtp, ev_gnl, ev_gcs, ev_gsb, ev_for, ev_rg1, ev_rg2, ev_its, ev_enum, ev_lc, ev_yes, ev_add_ii, ev_add_ss, ev_add_tt, ev_add_rr, ev_sub, ev_mul, ev_mod, ev_fdiv, ev_pow, ev_neg, ev_lt, ev_le, ev_gt, ev_ge, ev_eq_ii, ev_eq_ss, ev_eq_bb, ev_ne_ii, ev_ne_ss, ev_ne_bb, ev_is_n, ev_isnt_n, ev_int_i, ev_int_b, ev_min_ii, ev_max_ii, ev_abs, ev_tup_of, ev_tup_ofL, ev_lst_ofT, ev_lst_ofL, ev_len_t, ev_len_s, ev_len_r, ev_tru_b, ev_alloc, ev_tupD, ev_lstD, isi_tuple_non, isi_tuple_bl, isi_tuple_int, isi_tuple_str, isi_tuple_tup, isi_tuple_l, isi_tuple_f, isi_list_non, isi_list_bl, isi_list_int, isi_list_str, isi_list_tup, isi_list_l, isi_list_f, isi_bool_non, isi_bool_bl, isi_bool_int, isi_bool_str, isi_bool_tup, isi_bool_l, isi_bool_f, isi_int_non, isi_int_bl, isi_int_int, isi_int_str, isi_int_tup, isi_int_l, isi_int_f, isi_str_non, isi_str_bl, isi_str_int, isi_str_str, isi_str_tup, isi_str_l, isi_str_f, isi_dict_non, isi_dict_bl, isi_dict_int, isi_dict_str, isi_dict_tup, isi_dict_l, isi_dict_f, Ab.isNon, args, List.map, List.length_cons, List.length_nil, List.length_singleton, List.replicate, Nat.reduceSub, Nat.reduceAdd, Nat.zero_add, List.cons_append, List.nil_append, List.getElem?_cons_zero, List.getElem?_cons_succ, List.set_cons_zero, List.set_cons_succ, Option.some.injEq, decide_eq_true_eq, Bool.not_eq_true', decide_eq_false_iff_not, ite_true, ite_false, if_true, if_false, reduceIte, Bool.false_eq_true, Bool.not_true, Bool.not_false, Bool.true_eq_false, decide_true, decide_false, Nat.reduceLeDiff, Nat.reduceLT]
        have hz : InRg (ds.length : Int) := inRg_nat (by omega)
        rw [if_pos hz, Int.toNat_natCast]
        refine range_inv (fun k s A' => A' = A ∧ ∃ y, s = [some (.tup ds), some (.tup ds), y]) (fun k s A' hk ⟨hA, y, hs⟩ => ?_) (fun s A' ⟨hA, y, hs⟩ => ?_) ⟨rfl, none, rfl⟩
        · subst hA; subst hs
          have g : ds[k]? = some ds[k] := List.getElem?_eq_getElem hk
          have ix : ixD (.tup ds) (.int (0 + (k : Nat))) A' = .ok ds[k] A' := ev_ix_t (by rw [atI_pos (by omega)]; rw [show (0 + (k : Nat) : Int).toNat = k by omega]; exact g)
          have rc : m__law_same (n + 1) [ds[k], ds[k]] A' = .ok (.bl true) A' := ih ds[k] A' (hd _ (List.getElem_mem hk))
          simp only [sat_ok, sat_bad, sat_bind, sat_ite, bind_ok, bind_bad, thn_nx, thn_rt, thn_bk, thn_ct, fin_rt, fin_nx, ev_v, ev_c, ev_op, ev_un, ev_nil, ev_cons, ev_tup, ev_lst, ev_call, ev_own, ev_sl, ev_no, ev_part, ev_and, ev_or, ev_not, ev_if, ev_t, ev_tb, ev_tnot, ev_tand, ev_tor, ev_mt, ev_mt0, ev_rgd, ev_set, ev_asg, ev_ret, ev_retN, ev_ex, ev_pass, ev_brk, ev_cont, ev_ifS, ev_aug, ev_gn, ev_gtp, ev_gnl, ev_gcs, ev_gsb, ev_for, ev_rg1, ev_rg2, ev_its, ev_enum, ev_lc, ev_yes, ev_add_ii, ev_add_ss, ev_add_tt, ev_add_rr, ev_sub, ev_mul, ev_mod, ev_fdiv, ev_pow, ev_neg, ev_lt, ev_le, ev_gt, ev_ge, ev_eq_ii, ev_eq_ss, ev_eq_bb, ev_ne_ii, ev_ne_ss, ev_ne_bb, ev_is_n, ev_isnt_n, ev_int_i, ev_int_b, ev_min_ii, ev_max_ii, ev_abs, ev_tup_of, ev_tup_ofL, ev_lst_ofT, ev_lst_ofL, ev_len_t, ev_len_s, ev_len_r, ev_tru_b, ev_alloc, ev_tupD, ev_lstD, isi_tuple_non, isi_tuple_bl, isi_tuple_int, isi_tuple_str, isi_tuple_tup, isi_tuple_l, isi_tuple_f, isi_list_non, isi_list_bl, isi_list_int, isi_list_str, isi_list_tup, isi_list_l, isi_list_f, isi_bool_non, isi_bool_bl, isi_bool_int, isi_bool_str, isi_bool_tup, isi_bool_l, isi_bool_f, isi_int_non, isi_int_bl, isi_int_int, isi_int_str, isi_int_tup, isi_int_l, isi_int_f, isi_str_non, isi_str_bl, isi_str_int, isi_str_str, isi_str_tup, isi_str_l, isi_str_f, isi_dict_non, isi_dict_bl, isi_dict_int, isi_dict_str, isi_dict_tup, isi_dict_l, isi_dict_f, Ab.isNon, args, List.map, List.length_cons, List.length_nil, List.length_singleton, List.replicate, Nat.reduceSub, Nat.reduceAdd, Nat.zero_add, List.cons_append, List.nil_append, List.getElem?_cons_zero, List.getElem?_cons_succ, List.set_cons_zero, List.set_cons_succ, Option.some.injEq, decide_eq_true_eq, Bool.not_eq_true', decide_eq_false_iff_not, ite_true, ite_false, if_true, if_false, reduceIte, Bool.false_eq_true, Bool.not_true, Bool.not_false, Bool.true_eq_false, decide_true, decide_false, Nat.reduceLeDiff, Nat.reduceLT, ix, rc, turn_]
          exact ⟨trivial, _, rfl⟩
        · subst hA; subst hs
          simp only [sat_ok, sat_bad, sat_bind, sat_ite, bind_ok, bind_bad, thn_nx, thn_rt, thn_bk, thn_ct, fin_rt, fin_nx, ev_v, ev_c, ev_op, ev_un, ev_nil, ev_cons, ev_tup, ev_lst, ev_call, ev_own, ev_sl, ev_no, ev_part, ev_and, ev_or, ev_not, ev_if, ev_t, ev_tb, ev_tnot, ev_tand, ev_tor, ev_mt, ev_mt0, ev_rgd, ev_set, ev_asg, ev_ret, ev_retN, ev_ex, ev_pass, ev_brk, ev_cont, ev_ifS, ev_aug, ev_gn, ev_gtp, ev_gnl, ev_gcs, ev_gsb, ev_for, ev_rg1, ev_rg2, ev_its, ev_enum, ev_lc, ev_yes, ev_add_ii, ev_add_ss, ev_add_tt, ev_add_rr, ev_sub, ev_mul, ev_mod, ev_fdiv, ev_pow, ev_neg, ev_lt, ev_le, ev_gt, ev_ge, ev_eq_ii, ev_eq_ss, ev_eq_bb, ev_ne_ii, ev_ne_ss, ev_ne_bb, ev_is_n, ev_isnt_n, ev_int_i, ev_int_b, ev_min_ii, ev_max_ii, ev_abs, ev_tup_of, ev_tup_ofL, ev_lst_ofT, ev_lst_ofL, ev_len_t, ev_len_s, ev_len_r, ev_tru_b, ev_alloc, ev_tupD, ev_lstD, isi_tuple_non, isi_tuple_bl, isi_tuple_int, isi_tuple_str, isi_tuple_tup, isi_tuple_l, isi_tuple_f, isi_list_non, isi_list_bl, isi_list_int, isi_list_str, isi_list_tup, isi_list_l, isi_list_f, isi_bool_non, isi_bool_bl, isi_bool_int, isi_bool_str, isi_bool_tup, isi_bool_l, isi_bool_f, isi_int_non, isi_int_bl, isi_int_int, isi_int_str, isi_int_tup, isi_int_l, isi_int_f, isi_str_non, isi_str_bl, isi_str_int, isi_str_str, isi_str_tup, isi_str_l, isi_str_f, isi_dict_non, isi_dict_bl, isi_dict_int, isi_dict_str, isi_dict_tup, isi_dict_l, isi_dict_f, Ab.isNon, args, List.map, List.length_cons, List.length_nil, List.length_singleton, List.replicate, Nat.reduceSub, Nat.reduceAdd, Nat.zero_add, List.cons_append, List.nil_append, List.getElem?_cons_zero, List.getElem?_cons_succ, List.set_cons_zero, List.set_cons_succ, Option.some.injEq, decide_eq_true_eq, Bool.not_eq_true', decide_eq_false_iff_not, ite_true, ite_false, if_true, if_false, reduceIte, Bool.false_eq_true, Bool.not_true, Bool.not_false, Bool.true_eq_false, decide_true, decide_false, Nat.reduceLeDiff, Nat.reduceLT, thn_]
          first | trivial | exact ⟨trivial, trivial⟩
    obtain ⟨e, A', h1, rfl, rfl⟩ := key.eq
    exact h1

/-! ### the helpers that draw -/
theorem cell_spec {A : AH} {ns : List Int} {k : Nat} (h : A[0]? = some (.frz (ns.map D.int))) (hl : ns.length ≤ 63) : ∃ v, m__law_cell [.ref 0, .int (k : Int)] A = .ok (.int v) A := by
  have key : Sat (m__law_cell [.ref 0, .int (k : Int)] A) fun d A' => (∃ v, d = .int v) ∧ A' = A := by
    refine sat_body rfl (sat_seq ?_)
    have ln : lenD [.ref 0] A = .ok (.int ((ns.map D.int).length : Nat)) A := ev_len_r (rdL_f h)
    simp only [sat_ok, sat_bad, sat_bind, sat_ite, bind_ok, bind_bad, thn_nx, thn_rt, thn_bk, thn_ct, fin_rt, fin_nx, ev_v, ev_c, ev_op, ev_un, ev_nil, ev_cons, ev_tup, ev_lst, ev_call, ev_own, ev_sl, ev_no, ev_part, ev_and, ev_or, ev_not, ev_if, ev_t, ev_tb, ev_tnot, ev_tand, ev_tor, ev_mt, ev_mt0, ev_rgd, ev_set, ev_asg, ev_ret, ev_retN, ev_ex, ev_pass, ev_brk, ev_cont, ev_ifS, ev_aug, ev_gn, ev_gtp, ev_gnl, ev_gcs, ev_gsb, ev_for, ev_rg1, ev_rg2, ev_its, ev_enum, ev_lc, ev_yes, ev_add_ii, ev_add_ss, ev_add_tt, ev_add_rr, ev_sub, ev_mul, ev_mod, ev_fdiv, ev_pow, ev_neg, ev_lt, ev_le, ev_gt, ev_ge, ev_eq_ii, ev_eq_ss, ev_eq_bb, ev_ne_ii, ev_ne_ss, ev_ne_bb, ev_is_n, ev_isnt_n, ev_int_i, ev_int_b, ev_min_ii, ev_max_ii, ev_abs, ev_tup_of, ev_tup_ofL, ev_lst_ofT, ev_lst_ofL, ev_len_t, ev_len_s, ev_len_r, ev_tru_b, ev_alloc, ev_tupD, ev_lstD, isi_tuple_non, isi_tuple_bl, isi_tuple_int, isi_tuple_str, isi_tuple_tup, isi_tuple_l, isi_tuple_f, isi_list_non, isi_list_bl, isi_list_int, isi_list_str, isi_list_tup, isi_list_l, isi_list_f, isi_bool_non, isi_bool_bl, isi_bool_int, isi_bool_str, isi_bool_tup, isi_bool_l, isi_bool_f, isi_int_non, isi_int_bl, isi_int_int, isi_int_str, isi_int_tup, isi_int_l, isi_int_f, isi_str_non, isi_str_bl, isi_str_int, isi_str_str, isi_str_tup, isi_str_l, isi_str_f, isi_dict_non, isi_dict_bl, isi_dict_int, isi_dict_str, isi_dict_tup, isi_dict_l, isi_dict_f, Ab.isNon, args, List.map, List.length_cons, List.length_nil, List.length_singleton, List.replicate, Nat.reduceSub, Nat.reduceAdd, Nat.zero_add, List.cons_append, List.nil_append, List.getElem?_cons_zero, List.getElem?_cons_succ, List.set_cons_zero, List.set_cons_succ, Option.some.injEq, decide_eq_true_eq, Bool.not_eq_true', decide_eq_false_iff_not, ite_true, ite_false, if_true, if_false, reduceIte, Bool.false_eq_true, Bool.not_true, Bool.not_false, Bool.true_eq_false, decide_true, decide_false, Nat.reduceLeDiff, Nat.reduceLT, ln]
    split
    · rename_i hk
      rw [List.length_map] at hk
      have hk' : k < ns.length := by omega
      have ix : ixD (.ref 0) (.int (k : Int)) A = .ok (.int ns[k]) A := ev_ix_r (rdL_f h) (by rw [atI_pos (by omega), Int.toNat_natCast, List.getElem?_map, List.getElem?_eq_getElem hk']; rfl)
      rw [ix]
      exact ⟨⟨_, rfl⟩, rfl⟩
    · exact ⟨⟨_, rfl⟩, trivial⟩
  obtain ⟨d, A', e, ⟨v, rfl⟩, rfl⟩ := key.eq
  exact ⟨v, e⟩
theorem source_spec {A : AH} {c : Int} : m__law_source [.int c] A = .ok (.ref A.length) (A ++ [.lst [.int c, .int c, .int 0]]) := by
  have key : Sat (m__law_source [.int c] A) fun d A' => d = .ref A.length ∧ A' = A ++ [.lst [.int c, .int c, .int 0]] := by
    refine sat_body rfl ?_
    unfold p__law_source
    simp only [sat_ok, sat_bad, sat_bind, sat_ite, bind_ok, bind_bad, thn_nx, thn_rt, thn_bk, thn_ct, fin_rt, fin_nx, ev_v, ev_c, ev_op, ev_un, ev_nil, ev_cons, ev_tup, ev_lst, ev_call, ev_own, ev_sl, ev_no, ev_part, ev_and, ev_or, ev_not, ev_if, ev_t, ev_tb, ev_tnot, ev_tand, ev_tor, ev_mt, ev_mt0, ev_rgd, ev_set, ev_asg, ev_ret, ev_retN, ev_ex, ev_pass, ev_brk, ev_cont, ev_ifS, ev_aug, ev_gn, ev_gtp, ev_gnl, ev_gcs, ev_gsb, ev_for, ev_rg1, ev_rg2, ev_its, ev_enum, ev_lc, ev_yes, ev_add_ii, ev_add_ss, ev_add_tt, ev_add_rr, ev_sub, ev_mul, ev_mod, ev_fdiv, ev_pow, ev_neg, ev_lt, ev_le, ev_gt, ev_ge, ev_eq_ii, ev_eq_ss, ev_eq_bb, ev_ne_ii, ev_ne_ss, ev_ne_bb, ev_is_n, ev_isnt_n, ev_int_i, ev_int_b, ev_min_ii, ev_max_ii, ev_abs, ev_tup_of, ev_tup_ofL, ev_lst_ofT, ev_lst_ofL, ev_len_t, ev_len_s, ev_len_r, ev_tru_b, ev_alloc, ev_tupD, ev_lstD, isi_tuple_non, isi_tuple_bl, isi_tuple_int, isi_tuple_str, isi_tuple_tup, isi_tuple_l, isi_tuple_f, isi_list_non, isi_list_bl, isi_list_int, isi_list_str, isi_list_tup, isi_list_l, isi_list_f, isi_bool_non, isi_bool_bl, isi_bool_int, isi_bool_str, isi_bool_tup, isi_bool_l, isi_bool_f, isi_int_non, isi_int_bl, isi_int_int, isi_int_str, isi_int_tup, isi_int_l, isi_int_f, isi_str_non, isi_str_bl, isi_str_int, isi_str_str, isi_str_tup, isi_str_l, isi_str_f, isi_dict_non, isi_dict_bl, isi_dict_int, isi_dict_str, isi_dict_tup, isi_dict_l, isi_dict_f, Ab.isNon, args, List.map, List.length_cons, List.length_nil, List.length_singleton, List.replicate, Nat.reduceSub, Nat.reduceAdd, Nat.zero_add, List.cons_append, List.nil_append, List.getElem?_cons_zero, List.getElem?_cons_succ, List.set_cons_zero, List.set_cons_succ, Option.some.injEq, decide_eq_true_eq, Bool.not_eq_true', decide_eq_false_iff_not, ite_true, ite_false, if_true, if_false, reduceIte, Bool.false_eq_true, Bool.not_true, Bool.not_false, Bool.true_eq_false, decide_true, decide_false, Nat.reduceLeDiff, Nat.reduceLT]
    trivial
  obtain ⟨d, A', e, rfl, rfl⟩ := key.eq
  exact e
theorem pick_pos {A : AH} {s : Nat} {n : Int} (hs : Sr s A) (h0 : 0 < n) (hn : n < 2 ^ 60) : DrwS s A (m__law_pick [.ref s, .int n] A) fun d => ∃ v, d = .int v ∧ 0 ≤ v ∧ v < n :=
  (pick_spec hs hn).imp fun d ⟨v, e, h1, h2⟩ => ⟨v, e, h1, by omega⟩
end Law

set_option exponentiation.threshold 4096
namespace Law
open PySem PySem.Spec PyProof.Rows L2 Ab
open scoped Classical
/-! ### sorts, expressions with their names, values -/
inductive So where
  | t | l | f
def at_ (j : Nat) : So → Prop
  | .t => j < 3
  | .f => 3 ≤ j ∧ j < 5
  | .l => 5 ≤ j ∧ j < 9
inductive Op : So → So → Str → Prop where
  | add : Op .t .t "+"
  | sub : Op .t .t "-"
  | mul : Op .t .t "*"
  | lt : Op .t .f "<"
  | le : Op .t .f "<="
  | eq : Op .t .f "=="
  | ne : Op .t .f "!="
  | same : Op .l .f "same"
  | and : Op .f .f "and"
  | or : Op .f .f "or"
inductive Ex (ns : List Str) : So → Nat → D → List Str → Prop where
  | num (n : Nat) (i : Int) (h : i.natAbs < 2 ^ 32) : Ex ns .t n (.tup [.str "num", .int i]) []
  | flag (n : Nat) (b : Bool) : Ex ns .f n (.tup [.str "flag", .bl b]) []
  | null (n : Nat) : Ex ns .l n (.tup [.str "null"]) []
  | name (s : So) (n j : Nat) (x : Str) (hx : ns[j]? = some x) (hj : at_ j s) : Ex ns s n (.tup [.str "name", .str x]) [x]
  | neg (n : Nat) (d : D) (vs : List Str) (h : Ex ns .f n d vs) : Ex ns .f (n + 1) (.tup [.str "not", d]) vs
  | bin (s s' : So) (n : Nat) (w : Str) (l r : D) (vs us : List Str) (hw : Op s' s w) (h : Ex ns s' n l vs) (h' : Ex ns s' n r us) : Ex ns s (n + 1) (.tup [.str w, l, r]) (vs ++ us)
def Vl (n : Nat) : So → D → Prop
  | .t, d => ∃ i : Int, d = .int i ∧ i.natAbs < 2 ^ (32 * 2 ^ n)
  | .f, d => ∃ b, d = .bl b
  | .l, d => d = .non ∨ ∃ i, d = .int i
/-- a name's value fits its sort -/
def Gd (ns : List Str) (x : Str) (d : D) : Prop := ∀ s j, ns[j]? = some x → at_ j s → Vl 0 s d
def Good (ns : List Str) (kvs : List (Key × D)) (vs : List Str) : Prop := ∀ x ∈ vs, ∃ d, getK kvs (.inr x) = some d ∧ Gd ns x d
theorem ixa {d : D} {ds : List D} {A : AH} : ixD (.tup (d :: ds)) (.int 0) A = .ok d A := ev_ix_t (by rw [atI_pos (by decide)]; rfl)
theorem ixb {d e : D} {ds : List D} {A : AH} : ixD (.tup (d :: e :: ds)) (.int 1) A = .ok e A := ev_ix_t (by rw [atI_pos (by decide)]; rfl)
theorem ixc {d e f : D} {ds : List D} {A : AH} : ixD (.tup (d :: e :: f :: ds)) (.int 2) A = .ok f A := ev_ix_t (by rw [atI_pos (by decide)]; rfl)
theorem ixk {w : Nat} {x : Str} {v : D} {kvs : List (Key × D)} {A : AH} (h : A[w]? = some (.dic kvs)) (g : getK kvs (.inr x) = some v) : ixD (.ref w) (.str x) A = .ok v A := by
  show (match rdK A (.ref w) with
    | some kvs => (match getK kvs (.inr x) with | some v => Res.ok v A | none => .bad)
    | none => .bad) = _
  rw [show rdK A (.ref w) = some kvs by simp only [rdK, h]]
  simp only [g]
theorem eq_sc {d e : D} {b : Bool} {A : AH} (h : scalD d e = some b) : eqD d e A = .ok (.bl b) A := by
  unfold eqD eqB; rw [h]; rfl
theorem ne_sc {d e : D} {b : Bool} {A : AH} (h : scalD d e = some b) : neD d e A = .ok (.bl (!b)) A := by
  unfold neD eqB; rw [h]; rfl
theorem toVs_str : ∀ xs : List Str, toVs (xs.map D.str) = some (xs.map V.str)
  | [] => rfl
  | x :: xs => by simp only [List.map_cons, toVs, toV, toVs_str xs]
theorem in_lst {r : Nat} {xs : List Str} {x : Str} {A : AH} (h : A[r]? = some (.lst (xs.map D.str))) : inD (.str x) (.ref r) A = .ok (.bl (xs.any fun y => y == x)) A := by
  have k : rdK A (.ref r) = none := by simp only [rdK, h]
  have s : rdS A (.ref r) = some (xs.map D.str) := rdL_l h
  have e : inB (.str x) (.ref r) A = some (inV (.str x) (xs.map V.str)) := by simp only [inB, k, s, toVs_str, toV]
  have z : inV (.str x) (xs.map V.str) = xs.any fun y => y == x := by unfold inV; rw [List.any_map]; rfl
  unfold inD; rw [e, z]; rfl
theorem first_str {x : Str} : ∀ {xs : List Str} {j : Nat} {k : Nat}, xs[j]? = some x → xs.Nodup → firstV (.str x) (xs.map V.str) k = some (k + j)
  | [], j, k, h, _ => by cases h
  | y :: xs, 0, k, h, _ => by
    cases h
    show (if eqV (.str x) (.str x) = true then some k else _) = _
    rw [if_pos (by show (x == x) = true; simp)]; rfl
  | y :: xs, j + 1, k, h, nd => by
    have h : xs[j]? = some x := h
    have ne : ¬ y = x := fun e => (List.nodup_cons.mp nd).1 (by rw [e]; exact List.mem_of_getElem? h)
    show (if eqV (.str y) (.str x) = true then some k else firstV (.str x) (xs.map V.str) (k + 1)) = _
    rw [if_neg (by show ¬ (y == x) = true; simpa using ne), first_str h (List.nodup_cons.mp nd).2]
    congr 1; omega
theorem index_lst {r j : Nat} {xs : List Str} {x : Str} {A : AH} (h : A[r]? = some (.lst (xs.map D.str))) (hx : xs[j]? = some x) (nd : xs.Nodup) : indexD (.ref r) [.str x] A = .ok (.int (j : Nat)) A := by
  show (match rdL A (.ref r) with
    | some xs => (match toV (.str x), toVs xs with
      | some v, some vs => (match firstV v vs 0 with
        | some j => Res.ok (D.int (j : Nat)) A
        | none => .bad)
      | _, _ => .bad)
    | none => .bad) = _
  rw [rdL_l h]
  simp only [toVs_str, toV, first_str hx nd, Nat.zero_add]
/-! ### what an expression is worth -/
theorem pow_le {n m : Nat} (h : n ≤ m) : 2 ^ n ≤ 2 ^ m := Nat.pow_le_pow_right (by decide) h
theorem one_le {n : Nat} : 1 ≤ 2 ^ n := Nat.one_le_two_pow
theorem big_add {n : Nat} {i j : Int} (hi : i.natAbs < 2 ^ (32 * 2 ^ n)) (hj : j.natAbs < 2 ^ (32 * 2 ^ n)) : (i + j).natAbs < 2 ^ (32 * 2 ^ (n + 1)) ∧ (i - j).natAbs < 2 ^ (32 * 2 ^ (n + 1)) := by
  have h1 : 2 * 2 ^ (32 * 2 ^ n) ≤ 2 ^ (32 * 2 ^ (n + 1)) := by
    rw [← Nat.pow_succ']
    refine pow_le ?_
    have := @one_le n
    rw [Nat.pow_succ]; omega
  omega
theorem big_mul {n : Nat} {i j : Int} (hi : i.natAbs < 2 ^ (32 * 2 ^ n)) (hj : j.natAbs < 2 ^ (32 * 2 ^ n)) : (i * j).natAbs < 2 ^ (32 * 2 ^ (n + 1)) := by
  rw [Int.natAbs_mul, show 32 * 2 ^ (n + 1) = 32 * 2 ^ n + 32 * 2 ^ n by rw [Nat.pow_succ]; omega, Nat.pow_add]
  exact Nat.mul_lt_mul'' hi hj
theorem big_ok {n : Nat} {i j : Int} (hn : n ≤ 6) (hi : i.natAbs < 2 ^ (32 * 2 ^ n)) (hj : j.natAbs < 2 ^ (32 * 2 ^ n)) : mulOk i j := by
  have lg : ∀ i : Int, i.natAbs < 2 ^ (32 * 2 ^ n) → i.natAbs.log2 ≤ 2048 := fun i hi => by
    by_cases e : i.natAbs = 0
    · rw [e]; decide
    · have h1 := (Nat.log2_lt e).mpr hi
      have h2 : 2 ^ n ≤ 2 ^ 6 := pow_le hn
      omega
  have h1 := lg i hi
  have h2 := lg j hj
  exact .inr (show _ + _ < 1000000 by omega)
/-- what the law's own walk does behind its two operands -/
noncomputable def vtail : FS := (fSeq (fIfS (fTB (fOp inD (fV 2) (fLst (fCons (fC (.str "+")) (fCons (fC (.str "-")) (fCons (fC (.str "*")) (fNil)))))))
 (fRet (fOp ixD (fLst (fCons (fOp addD (fV 3) (fV 4)) (fCons (fOp subD (fV 3) (fV 4)) (fCons (fOp mulD (fV 3) (fV 4)) (fNil))))) (fMt "list" indexD (fLst (fCons (fC (.str "+")) (fCons (fC (.str "-")) (fCons (fC (.str "*")) (fNil))))) (fCons (fV 2) (fNil)))))
 (fPass))
 (fSeq (fIfS (fTB (fOp inD (fV 2) (fLst (fCons (fC (.str "<")) (fCons (fC (.str "<=")) (fNil))))))
 (fRet (fOr (fOp ltD (fV 3) (fV 4)) (fAnd (fOp eqD (fV 2) (fC (.str "<="))) (fOp eqD (fV 3) (fV 4)))))
 (fPass))
 (fSeq (fIfS (fTB (fOp eqD (fV 2) (fC (.str "and"))))
 (fRet (fAnd (fV 3) (fV 4)))
 (fPass))
 (fSeq (fIfS (fTB (fOp eqD (fV 2) (fC (.str "or"))))
 (fRet (fOr (fV 3) (fV 4)))
 (fPass))
 (fRet (fOp eqD (fOp eqD (fV 3) (fV 4)) (fOp neD (fV 2) (fC (.str "!=")))))))))
/-- an operator, both ways -/
def opw (w : Str) (s' s : So) (n : Nat) (v1 v2 : D) (v : D) : Prop := Vl (n + 1) s v ∧ (∀ A, m_combine [.str w, v1, v2] A = .ok v A) ∧
  ∀ (A : AH) (x y : Option D), Sat (vtail [x, y, some (.str w), some v1, some v2] A) (fin_ fun d A' => d = v ∧ Gr A A')
theorem low3 {A : AH} {w : Str} : inD (.str w) (.ref A.length) (A ++ [.lst [.str "+", .str "-", .str "*"]]) = .ok (.bl (["+", "-", "*"].any fun y => y == w)) (A ++ [.lst [.str "+", .str "-", .str "*"]]) := in_lst (xs := ["+", "-", "*"]) at_new
theorem low2 {A : AH} {w : Str} : inD (.str w) (.ref A.length) (A ++ [.lst [.str "<", .str "<="]]) = .ok (.bl (["<", "<="].any fun y => y == w)) (A ++ [.lst [.str "<", .str "<="]]) := in_lst (xs := ["<", "<="]) at_new
theorem ty3 {A : AH} : isTy "list" (.ref A.length) (A ++ [.lst [.str "+", .str "-", .str "*"]]) = true := ty_l at_new
theorem arith {A : AH} {x : D} {w : Str} {k : Nat} {i j l : Int} (hk : (["+", "-", "*"] : List Str)[k]? = some w) (hx : [D.int i, .int j, .int l][k]? = some x) :
    Sat (((indexD (.ref (A ++ [AO.lst [.int i, .int j, .int l]]).length) [.str w] (A ++ [AO.lst [.int i, .int j, .int l]] ++ [.lst [.str "+", .str "-", .str "*"]])).bind fun z B => ixD (.ref A.length) z B)) fun d A' => d = x ∧ Gr A A' := by
  have e : indexD (.ref (A ++ [AO.lst [.int i, .int j, .int l]]).length) [.str w] (A ++ [AO.lst [.int i, .int j, .int l]] ++ [.lst [.str "+", .str "-", .str "*"]]) = .ok (.int (k : Nat)) _ := index_lst (xs := ["+", "-", "*"]) at_new hk (by decide)
  rw [e, bind_ok]
  rw [ev_ix_r (x := x) (rdL_l (Gr.app.keep _ _ at_new)) (by rw [atI_pos (by omega), Int.toNat_natCast]; exact hx)]
  exact ⟨rfl, Gr.app.trans .app⟩
theorem comb_spec {w : Str} {s s' : So} {n : Nat} {v1 v2 : D} (hw : Op s' s w) (hn : n ≤ 6) (h1 : Vl n s' v1) (h2 : Vl n s' v2) : ∃ v, opw w s' s n v1 v2 v := by
  have fin : ∀ v, (∀ A, Sat (m_combine [.str w, v1, v2] A) fun e A' => e = v ∧ A' = A) → ∀ A, m_combine [.str w, v1, v2] A = .ok v A := fun v h A => by
    obtain ⟨e, A', h1, rfl, rfl⟩ := (h A).eq
    exact h1
  have pick : ∀ (A : AH) (w : Str) (bs : Bool), (["+", "-", "*"].any fun y => y == w) = bs → inD (.str w) (.ref A.length) (A ++ [.lst [.str "+", .str "-", .str "*"]]) = .ok (.bl bs) (A ++ [.lst [.str "+", .str "-", .str "*"]]) := fun A w bs h => by rw [low3, h]
  have pick2 : ∀ (A : AH) (w : Str) (bs : Bool), (["<", "<="].any fun y => y == w) = bs → inD (.str w) (.ref A.length) (A ++ [.lst [.str "<", .str "<="]]) = .ok (.bl bs) (A ++ [.lst [.str "<", .str "<="]]) := fun A w bs h => by rw [low2, h]
  cases hw with
  | add =>
    obtain ⟨i, rfl, hi⟩ := h1; obtain ⟨j, rfl, hj⟩ := h2
    refine ⟨.int (i + j), ⟨_, rfl, (big_add hi hj).1⟩, fin _ fun A => sat_body rfl (sat_seq ?_), fun A x y => ?_⟩
    · simp (decide := true) only [sat_ok, sat_bad, sat_bind, sat_ite, bind_ok, bind_bad, thn_nx, thn_rt, thn_bk, thn_ct, fin_rt, fin_nx, ev_v, ev_c, ev_op, ev_un, ev_nil, ev_cons, ev_tup, ev_lst, ev_call, ev_own, ev_sl, ev_no, ev_part, ev_and, ev_or, ev_not, ev_if, ev_t, ev_tb, ev_tnot, ev_tand, ev_tor, ev_mt, ev_mt0, ev_rgd, ev_set, ev_asg, ev_ret, ev_retN, ev_ex, ev_pass, ev_brk, ev_cont, ev_ifS, ev_aug, ev_gn, ev_gtp, ev_gnl, ev_gcs, ev_gsb, ev_for, ev_rg1, ev_rg2, ev_its, ev_enum, ev_lc, ev_yes, ev_add_ii, ev_add_ss, ev_add_tt, ev_add_rr, ev_sub, ev_mul, ev_mod, ev_fdiv, ev_pow, ev_neg, ev_lt, ev_le, ev_gt, ev_ge, ev_eq_ii, ev_eq_ss, ev_eq_bb, ev_ne_ii, ev_ne_ss, ev_ne_bb, ev_is_n, ev_isnt_n, ev_int_i, ev_int_b, ev_min_ii, ev_max_ii, ev_abs, ev_tup_of, ev_tup_ofL, ev_lst_ofT, ev_lst_ofL, ev_len_t, ev_len_s, ev_len_r, ev_tru_b, ev_alloc, ev_tupD, ev_lstD, isi_tuple_non, isi_tuple_bl, isi_tuple_int, isi_tuple_str, isi_tuple_tup, isi_tuple_l, isi_tuple_f, isi_list_non, isi_list_bl, isi_list_int, isi_list_str, isi_list_tup, isi_list_l, isi_list_f, isi_bool_non, isi_bool_bl, isi_bool_int, isi_bool_str, isi_bool_tup, isi_bool_l, isi_bool_f, isi_int_non, isi_int_bl, isi_int_int, isi_int_str, isi_int_tup, isi_int_l, isi_int_f, isi_str_non, isi_str_bl, isi_str_int, isi_str_str, isi_str_tup, isi_str_l, isi_str_f, isi_dict_non, isi_dict_bl, isi_dict_int, isi_dict_str, isi_dict_tup, isi_dict_l, isi_dict_f, Ab.isNon, args, List.map, List.length_cons, List.length_nil, List.length_singleton, List.replicate, Nat.reduceSub, Nat.reduceAdd, Nat.zero_add, List.cons_append, List.nil_append, List.getElem?_cons_zero, List.getElem?_cons_succ, List.set_cons_zero, List.set_cons_succ, Option.some.injEq, decide_eq_true_eq, Bool.not_eq_true', decide_eq_false_iff_not, ite_true, ite_false, if_true, if_false, reduceIte, Bool.false_eq_true, Bool.not_true, Bool.not_false, Bool.true_eq_false, decide_true, decide_false, Nat.reduceLeDiff, Nat.reduceLT]
    · unfold vtail; refine sat_seq ?_
      have m := big_ok hn hi hj
      have q := fun A => pick A "+" true (by decide)
      simp (decide := true) only [sat_ok, sat_bad, sat_bind, sat_ite, bind_ok, bind_bad, thn_nx, thn_rt, thn_bk, thn_ct, fin_rt, fin_nx, ev_v, ev_c, ev_op, ev_un, ev_nil, ev_cons, ev_tup, ev_lst, ev_call, ev_own, ev_sl, ev_no, ev_part, ev_and, ev_or, ev_not, ev_if, ev_t, ev_tb, ev_tnot, ev_tand, ev_tor, ev_mt, ev_mt0, ev_rgd, ev_set, ev_asg, ev_ret, ev_retN, ev_ex, ev_pass, ev_brk, ev_cont, ev_ifS, ev_aug, ev_gn, ev_gtp, ev_gnl, ev_gcs, ev_gsb, ev_for, ev_rg1, ev_rg2, ev_its, ev_enum, ev_lc, ev_yes, ev_add_ii, ev_add_ss, ev_add_tt, ev_add_rr, ev_sub, ev_mul, ev_mod, ev_fdiv, ev_pow, ev_neg, ev_lt, ev_le, ev_gt, ev_ge, ev_eq_ii, ev_eq_ss, ev_eq_bb, ev_ne_ii, ev_ne_ss, ev_ne_bb, ev_is_n, ev_isnt_n, ev_int_i, ev_int_b, ev_min_ii, ev_max_ii, ev_abs, ev_tup_of, ev_tup_ofL, ev_lst_ofT, ev_lst_ofL, ev_len_t, ev_len_s, ev_len_r, ev_tru_b, ev_alloc, ev_tupD, ev_lstD, isi_tuple_non, isi_tuple_bl, isi_tuple_int, isi_tuple_str, isi_tuple_tup, isi_tuple_l, isi_tuple_f, isi_list_non, isi_list_bl, isi_list_int, isi_list_str, isi_list_tup, isi_list_l, isi_list_f, isi_bool_non, isi_bool_bl, isi_bool_int, isi_bool_str, isi_bool_tup, isi_bool_l, isi_bool_f, isi_int_non, isi_int_bl, isi_int_int, isi_int_str, isi_int_tup, isi_int_l, isi_int_f, isi_str_non, isi_str_bl, isi_str_int, isi_str_str, isi_str_tup, isi_str_l, isi_str_f, isi_dict_non, isi_dict_bl, isi_dict_int, isi_dict_str, isi_dict_tup, isi_dict_l, isi_dict_f, Ab.isNon, args, List.map, List.length_cons, List.length_nil, List.length_singleton, List.replicate, Nat.reduceSub, Nat.reduceAdd, Nat.zero_add, List.cons_append, List.nil_append, List.getElem?_cons_zero, List.getElem?_cons_succ, List.set_cons_zero, List.set_cons_succ, Option.some.injEq, decide_eq_true_eq, Bool.not_eq_true', decide_eq_false_iff_not, ite_true, ite_false, if_true, if_false, reduceIte, Bool.false_eq_true, Bool.not_true, Bool.not_false, Bool.true_eq_false, decide_true, decide_false, Nat.reduceLeDiff, Nat.reduceLT, q, m, ty3]
      have z := arith (A := A ++ [.lst [.str "+", .str "-", .str "*"]]) (k := 0) (w := "+") (i := i + j) (j := i - j) (l := i * j) rfl rfl
      simp only [sat_bind] at z
      exact Sat.imp z fun d A' h => Sat.imp h fun d A' h => ⟨h.1, Gr.app.trans h.2⟩
  | sub =>
    obtain ⟨i, rfl, hi⟩ := h1; obtain ⟨j, rfl, hj⟩ := h2
    refine ⟨.int (i - j), ⟨_, rfl, (big_add hi hj).2⟩, fin _ fun A => sat_body rfl (sat_seq ?_), fun A x y => ?_⟩
    · simp (decide := true) only [sat_ok, sat_bad, sat_bind, sat_ite, bind_ok, bind_bad, thn_nx, thn_rt, thn_bk, thn_ct, fin_rt, fin_nx, ev_v, ev_c, ev_op, ev_un, ev_nil, ev_cons, ev_tup, ev_lst, ev_call, ev_own, ev_sl, ev_no, ev_part, ev_and, ev_or, ev_not, ev_if, ev_t, ev_tb, ev_tnot, ev_tand, ev_tor, ev_mt, ev_mt0, ev_rgd, ev_set, ev_asg, ev_ret, ev_retN, ev_ex, ev_pass, ev_brk, ev_cont, ev_ifS, ev_aug, ev_gn, ev_gtp, ev_gnl, ev_gcs, ev_gsb, ev_for, ev_rg1, ev_rg2, ev_its, ev_enum, ev_lc, ev_yes, ev_add_ii, ev_add_ss, ev_add_tt, ev_add_rr, ev_sub, ev_mul, ev_mod, ev_fdiv, ev_pow, ev_neg, ev_lt, ev_le, ev_gt, ev_ge, ev_eq_ii, ev_eq_ss, ev_eq_bb, ev_ne_ii, ev_ne_ss, ev_ne_bb, ev_is_n, ev_isnt_n, ev_int_i, ev_int_b, ev_min_ii, ev_max_ii, ev_abs, ev_tup_of, ev_tup_ofL, ev_lst_ofT, ev_lst_ofL, ev_len_t, ev_len_s, ev_len_r, ev_tru_b, ev_alloc, ev_tupD, ev_lstD, isi_tuple_non, isi_tuple_bl, isi_tuple_int, isi_tuple_str, isi_tuple_tup, isi_tuple_l, isi_tuple_f, isi_list_non, isi_list_bl, isi_list_int, isi_list_str, isi_list_tup, isi_list_l, isi_list_f, isi_bool_non, isi_bool_bl, isi_bool_int, isi_bool_str, isi_bool_tup, isi_bool_l, isi_bool_f, isi_int_non, isi_int_bl, isi_int_int, isi_int_str, isi_int_tup, isi_int_l, isi_int_f, isi_str_non, isi_str_bl, isi_str_int, isi_str_str, isi_str_tup, isi_str_l, isi_str_f, isi_dict_non, isi_dict_bl, isi_dict_int, isi_dict_str, isi_dict_tup, isi_dict_l, isi_dict_f, Ab.isNon, args, List.map, List.length_cons, List.length_nil, List.length_singleton, List.replicate, Nat.reduceSub, Nat.reduceAdd, Nat.zero_add, List.cons_append, List.nil_append, List.getElem?_cons_zero, List.getElem?_cons_succ, List.set_cons_zero, List.set_cons_succ, Option.some.injEq, decide_eq_true_eq, Bool.not_eq_true', decide_eq_false_iff_not, ite_true, ite_false, if_true, if_false, reduceIte, Bool.false_eq_true, Bool.not_true, Bool.not_false, Bool.true_eq_false, decide_true, decide_false, Nat.reduceLeDiff, Nat.reduceLT]
      refine sat_seq ?_; simp (decide := true) only [sat_ok, sat_bad, sat_bind, sat_ite, bind_ok, bind_bad, thn_nx, thn_rt, thn_bk, thn_ct, fin_rt, fin_nx, ev_v, ev_c, ev_op, ev_un, ev_nil, ev_cons, ev_tup, ev_lst, ev_call, ev_own, ev_sl, ev_no, ev_part, ev_and, ev_or, ev_not, ev_if, ev_t, ev_tb, ev_tnot, ev_tand, ev_tor, ev_mt, ev_mt0, ev_rgd, ev_set, ev_asg, ev_ret, ev_retN, ev_ex, ev_pass, ev_brk, ev_cont, ev_ifS, ev_aug, ev_gn, ev_gtp, ev_gnl, ev_gcs, ev_gsb, ev_for, ev_rg1, ev_rg2, ev_its, ev_enum, ev_lc, ev_yes, ev_add_ii, ev_add_ss, ev_add_tt, ev_add_rr, ev_sub, ev_mul, ev_mod, ev_fdiv, ev_pow, ev_neg, ev_lt, ev_le, ev_gt, ev_ge, ev_eq_ii, ev_eq_ss, ev_eq_bb, ev_ne_ii, ev_ne_ss, ev_ne_bb, ev_is_n, ev_isnt_n, ev_int_i, ev_int_b, ev_min_ii, ev_max_ii, ev_abs, ev_tup_of, ev_tup_ofL, ev_lst_ofT, ev_lst_ofL, ev_len_t, ev_len_s, ev_len_r, ev_tru_b, ev_alloc, ev_tupD, ev_lstD, isi_tuple_non, isi_tuple_bl, isi_tuple_int, isi_tuple_str, isi_tuple_tup, isi_tuple_l, isi_tuple_f, isi_list_non, isi_list_bl, isi_list_int, isi_list_str, isi_list_tup, isi_list_l, isi_list_f, isi_bool_non, isi_bool_bl, isi_bool_int, isi_bool_str, isi_bool_tup, isi_bool_l, isi_bool_f, isi_int_non, isi_int_bl, isi_int_int, isi_int_str, isi_int_tup, isi_int_l, isi_int_f, isi_str_non, isi_str_bl, isi_str_int, isi_str_str, isi_str_tup, isi_str_l, isi_str_f, isi_dict_non, isi_dict_bl, isi_dict_int, isi_dict_str, isi_dict_tup, isi_dict_l, isi_dict_f, Ab.isNon, args, List.map, List.length_cons, List.length_nil, List.length_singleton, List.replicate, Nat.reduceSub, Nat.reduceAdd, Nat.zero_add, List.cons_append, List.nil_append, List.getElem?_cons_zero, List.getElem?_cons_succ, List.set_cons_zero, List.set_cons_succ, Option.some.injEq, decide_eq_true_eq, Bool.not_eq_true', decide_eq_false_iff_not, ite_true, ite_false, if_true, if_false, reduceIte, Bool.false_eq_true, Bool.not_true, Bool.not_false, Bool.true_eq_false, decide_true, decide_false, Nat.reduceLeDiff, Nat.reduceLT]
    · unfold vtail; refine sat_seq ?_
      have m := big_ok hn hi hj
      have q := fun A => pick A "-" true (by decide)
      simp (decide := true) only [sat_ok, sat_bad, sat_bind, sat_ite, bind_ok, bind_bad, thn_nx, thn_rt, thn_bk, thn_ct, fin_rt, fin_nx, ev_v, ev_c, ev_op, ev_un, ev_nil, ev_cons, ev_tup, ev_lst, ev_call, ev_own, ev_sl, ev_no, ev_part, ev_and, ev_or, ev_not, ev_if, ev_t, ev_tb, ev_tnot, ev_tand, ev_tor, ev_mt, ev_mt0, ev_rgd, ev_set, ev_asg, ev_ret, ev_retN, ev_ex, ev_pass, ev_brk, ev_cont, ev_ifS, ev_aug, ev_gn, ev_gtp, ev_gnl, ev_gcs, ev_gsb, ev_for, ev_rg1, ev_rg2, ev_its, ev_enum, ev_lc, ev_yes, ev_add_ii, ev_add_ss, ev_add_tt, ev_add_rr, ev_sub, ev_mul, ev_mod, ev_fdiv, ev_pow, ev_neg, ev_lt, ev_le, ev_gt, ev_ge, ev_eq_ii, ev_eq_ss, ev_eq_bb, ev_ne_ii, ev_ne_ss, ev_ne_bb, ev_is_n, ev_isnt_n, ev_int_i, ev_int_b, ev_min_ii, ev_max_ii, ev_abs, ev_tup_of, ev_tup_ofL, ev_lst_ofT, ev_lst_ofL, ev_len_t, ev_len_s, ev_len_r, ev_tru_b, ev_alloc, ev_tupD, ev_lstD, isi_tuple_non, isi_tuple_bl, isi_tuple_int, isi_tuple_str, isi_tuple_tup, isi_tuple_l, isi_tuple_f, isi_list_non, isi_list_bl, isi_list_int, isi_list_str, isi_list_tup, isi_list_l, isi_list_f, isi_bool_non, isi_bool_bl, isi_bool_int, isi_bool_str, isi_bool_tup, isi_bool_l, isi_bool_f, isi_int_non, isi_int_bl, isi_int_int, isi_int_str, isi_int_tup, isi_int_l, isi_int_f, isi_str_non, isi_str_bl, isi_str_int, isi_str_str, isi_str_tup, isi_str_l, isi_str_f, isi_dict_non, isi_dict_bl, isi_dict_int, isi_dict_str, isi_dict_tup, isi_dict_l, isi_dict_f, Ab.isNon, args, List.map, List.length_cons, List.length_nil, List.length_singleton, List.replicate, Nat.reduceSub, Nat.reduceAdd, Nat.zero_add, List.cons_append, List.nil_append, List.getElem?_cons_zero, List.getElem?_cons_succ, List.set_cons_zero, List.set_cons_succ, Option.some.injEq, decide_eq_true_eq, Bool.not_eq_true', decide_eq_false_iff_not, ite_true, ite_false, if_true, if_false, reduceIte, Bool.false_eq_true, Bool.not_true, Bool.not_false, Bool.true_eq_false, decide_true, decide_false, Nat.reduceLeDiff, Nat.reduceLT, q, m, ty3]
      have z := arith (A := A ++ [.lst [.str "+", .str "-", .str "*"]]) (k := 1) (w := "-") (i := i + j) (j := i - j) (l := i * j) rfl rfl
      simp only [sat_bind] at z
      exact Sat.imp z fun d A' h => Sat.imp h fun d A' h => ⟨h.1, Gr.app.trans h.2⟩
  | mul =>
    obtain ⟨i, rfl, hi⟩ := h1; obtain ⟨j, rfl, hj⟩ := h2
    have m := big_ok hn hi hj
    refine ⟨.int (i * j), ⟨_, rfl, big_mul hi hj⟩, fin _ fun A => sat_body rfl (sat_seq ?_), fun A x y => ?_⟩
    · simp (decide := true) only [sat_ok, sat_bad, sat_bind, sat_ite, bind_ok, bind_bad, thn_nx, thn_rt, thn_bk, thn_ct, fin_rt, fin_nx, ev_v, ev_c, ev_op, ev_un, ev_nil, ev_cons, ev_tup, ev_lst, ev_call, ev_own, ev_sl, ev_no, ev_part, ev_and, ev_or, ev_not, ev_if, ev_t, ev_tb, ev_tnot, ev_tand, ev_tor, ev_mt, ev_mt0, ev_rgd, ev_set, ev_asg, ev_ret, ev_retN, ev_ex, ev_pass, ev_brk, ev_cont, ev_ifS, ev_aug, ev_gn, ev_gtp, ev_gnl, ev_gcs, ev_gsb, ev_for, ev_rg1, ev_rg2, ev_its, ev_enum, ev_lc, ev_yes, ev_add_ii, ev_add_ss, ev_add_tt, ev_add_rr, ev_sub, ev_mul, ev_mod, ev_fdiv, ev_pow, ev_neg, ev_lt, ev_le, ev_gt, ev_ge, ev_eq_ii, ev_eq_ss, ev_eq_bb, ev_ne_ii, ev_ne_ss, ev_ne_bb, ev_is_n, ev_isnt_n, ev_int_i, ev_int_b, ev_min_ii, ev_max_ii, ev_abs, ev_tup_of, ev_tup_ofL, ev_lst_ofT, ev_lst_ofL, ev_len_t, ev_len_s, ev_len_r, ev_tru_b, ev_alloc, ev_tupD, ev_lstD, isi_tuple_non, isi_tuple_bl, isi_tuple_int, isi_tuple_str, isi_tuple_tup, isi_tuple_l, isi_tuple_f, isi_list_non, isi_list_bl, isi_list_int, isi_list_str, isi_list_tup, isi_list_l, isi_list_f, isi_bool_non, isi_bool_bl, isi_bool_int, isi_bool_str, isi_bool_tup, isi_bool_l, isi_bool_f, isi_int_non, isi_int_bl, isi_int_int, isi_int_str, isi_int_tup, isi_int_l, isi_int_f, isi_str_non, isi_str_bl, isi_str_int, isi_str_str, isi_str_tup, isi_str_l, isi_str_f, isi_dict_non, isi_dict_bl, isi_dict_int, isi_dict_str, isi_dict_tup, isi_dict_l, isi_dict_f, Ab.isNon, args, List.map, List.length_cons, List.length_nil, List.length_singleton, List.replicate, Nat.reduceSub, Nat.reduceAdd, Nat.zero_add, List.cons_append, List.nil_append, List.getElem?_cons_zero, List.getElem?_cons_succ, List.set_cons_zero, List.set_cons_succ, Option.some.injEq, decide_eq_true_eq, Bool.not_eq_true', decide_eq_false_iff_not, ite_true, ite_false, if_true, if_false, reduceIte, Bool.false_eq_true, Bool.not_true, Bool.not_false, Bool.true_eq_false, decide_true, decide_false, Nat.reduceLeDiff, Nat.reduceLT]
      refine sat_seq ?_; simp (decide := true) only [sat_ok, sat_bad, sat_bind, sat_ite, bind_ok, bind_bad, thn_nx, thn_rt, thn_bk, thn_ct, fin_rt, fin_nx, ev_v, ev_c, ev_op, ev_un, ev_nil, ev_cons, ev_tup, ev_lst, ev_call, ev_own, ev_sl, ev_no, ev_part, ev_and, ev_or, ev_not, ev_if, ev_t, ev_tb, ev_tnot, ev_tand, ev_tor, ev_mt, ev_mt0, ev_rgd, ev_set, ev_asg, ev_ret, ev_retN, ev_ex, ev_pass, ev_brk, ev_cont, ev_ifS, ev_aug, ev_gn, ev_gtp, ev_gnl, ev_gcs, ev_gsb, ev_for, ev_rg1, ev_rg2, ev_its, ev_enum, ev_lc, ev_yes, ev_add_ii, ev_add_ss, ev_add_tt, ev_add_rr, ev_sub, ev_mul, ev_mod, ev_fdiv, ev_pow, ev_neg, ev_lt, ev_le, ev_gt, ev_ge, ev_eq_ii, ev_eq_ss, ev_eq_bb, ev_ne_ii, ev_ne_ss, ev_ne_bb, ev_is_n, ev_isnt_n, ev_int_i, ev_int_b, ev_min_ii, ev_max_ii, ev_abs, ev_tup_of, ev_tup_ofL, ev_lst_ofT, ev_lst_ofL, ev_len_t, ev_len_s, ev_len_r, ev_tru_b, ev_alloc, ev_tupD, ev_lstD, isi_tuple_non, isi_tuple_bl, isi_tuple_int, isi_tuple_str, isi_tuple_tup, isi_tuple_l, isi_tuple_f, isi_list_non, isi_list_bl, isi_list_int, isi_list_str, isi_list_tup, isi_list_l, isi_list_f, isi_bool_non, isi_bool_bl, isi_bool_int, isi_bool_str, isi_bool_tup, isi_bool_l, isi_bool_f, isi_int_non, isi_int_bl, isi_int_int, isi_int_str, isi_int_tup, isi_int_l, isi_int_f, isi_str_non, isi_str_bl, isi_str_int, isi_str_str, isi_str_tup, isi_str_l, isi_str_f, isi_dict_non, isi_dict_bl, isi_dict_int, isi_dict_str, isi_dict_tup, isi_dict_l, isi_dict_f, Ab.isNon, args, List.map, List.length_cons, List.length_nil, List.length_singleton, List.replicate, Nat.reduceSub, Nat.reduceAdd, Nat.zero_add, List.cons_append, List.nil_append, List.getElem?_cons_zero, List.getElem?_cons_succ, List.set_cons_zero, List.set_cons_succ, Option.some.injEq, decide_eq_true_eq, Bool.not_eq_true', decide_eq_false_iff_not, ite_true, ite_false, if_true, if_false, reduceIte, Bool.false_eq_true, Bool.not_true, Bool.not_false, Bool.true_eq_false, decide_true, decide_false, Nat.reduceLeDiff, Nat.reduceLT]
      refine sat_seq ?_; simp (decide := true) only [sat_ok, sat_bad, sat_bind, sat_ite, bind_ok, bind_bad, thn_nx, thn_rt, thn_bk, thn_ct, fin_rt, fin_nx, ev_v, ev_c, ev_op, ev_un, ev_nil, ev_cons, ev_tup, ev_lst, ev_call, ev_own, ev_sl, ev_no, ev_part, ev_and, ev_or, ev_not, ev_if, ev_t, ev_tb, ev_tnot, ev_tand, ev_tor, ev_mt, ev_mt0, ev_rgd, ev_set, ev_asg, ev_ret, ev_retN, ev_ex, ev_pass, ev_brk, ev_cont, ev_ifS, ev_aug, ev_gn, ev_gtp, ev_gnl, ev_gcs, ev_gsb, ev_for, ev_rg1, ev_rg2, ev_its, ev_enum, ev_lc, ev_yes, ev_add_ii, ev_add_ss, ev_add_tt, ev_add_rr, ev_sub, ev_mul, ev_mod, ev_fdiv, ev_pow, ev_neg, ev_lt, ev_le, ev_gt, ev_ge, ev_eq_ii, ev_eq_ss, ev_eq_bb, ev_ne_ii, ev_ne_ss, ev_ne_bb, ev_is_n, ev_isnt_n, ev_int_i, ev_int_b, ev_min_ii, ev_max_ii, ev_abs, ev_tup_of, ev_tup_ofL, ev_lst_ofT, ev_lst_ofL, ev_len_t, ev_len_s, ev_len_r, ev_tru_b, ev_alloc, ev_tupD, ev_lstD, isi_tuple_non, isi_tuple_bl, isi_tuple_int, isi_tuple_str, isi_tuple_tup, isi_tuple_l, isi_tuple_f, isi_list_non, isi_list_bl, isi_list_int, isi_list_str, isi_list_tup, isi_list_l, isi_list_f, isi_bool_non, isi_bool_bl, isi_bool_int, isi_bool_str, isi_bool_tup, isi_bool_l, isi_bool_f, isi_int_non, isi_int_bl, isi_int_int, isi_int_str, isi_int_tup, isi_int_l, isi_int_f, isi_str_non, isi_str_bl, isi_str_int, isi_str_str, isi_str_tup, isi_str_l, isi_str_f, isi_dict_non, isi_dict_bl, isi_dict_int, isi_dict_str, isi_dict_tup, isi_dict_l, isi_dict_f, Ab.isNon, args, List.map, List.length_cons, List.length_nil, List.length_singleton, List.replicate, Nat.reduceSub, Nat.reduceAdd, Nat.zero_add, List.cons_append, List.nil_append, List.getElem?_cons_zero, List.getElem?_cons_succ, List.set_cons_zero, List.set_cons_succ, Option.some.injEq, decide_eq_true_eq, Bool.not_eq_true', decide_eq_false_iff_not, ite_true, ite_false, if_true, if_false, reduceIte, Bool.false_eq_true, Bool.not_true, Bool.not_false, Bool.true_eq_false, decide_true, decide_false, Nat.reduceLeDiff, Nat.reduceLT, m]
    · unfold vtail; refine sat_seq ?_
      have m := big_ok hn hi hj
      have q := fun A => pick A "*" true (by decide)
      simp (decide := true) only [sat_ok, sat_bad, sat_bind, sat_ite, bind_ok, bind_bad, thn_nx, thn_rt, thn_bk, thn_ct, fin_rt, fin_nx, ev_v, ev_c, ev_op, ev_un, ev_nil, ev_cons, ev_tup, ev_lst, ev_call, ev_own, ev_sl, ev_no, ev_part, ev_and, ev_or, ev_not, ev_if, ev_t, ev_tb, ev_tnot, ev_tand, ev_tor, ev_mt, ev_mt0, ev_rgd, ev_set, ev_asg, ev_ret, ev_retN, ev_ex, ev_pass, ev_brk, ev_cont, ev_ifS, ev_aug, ev_gn, ev_gtp, ev_gnl, ev_gcs, ev_gsb, ev_for, ev_rg1, ev_rg2, ev_its, ev_enum, ev_lc, ev_yes, ev_add_ii, ev_add_ss, ev_add_tt, ev_add_rr, ev_sub, ev_mul, ev_mod, ev_fdiv, ev_pow, ev_neg, ev_lt, ev_le, ev_gt, ev_ge, ev_eq_ii, ev_eq_ss, ev_eq_bb, ev_ne_ii, ev_ne_ss, ev_ne_bb, ev_is_n, ev_isnt_n, ev_int_i, ev_int_b, ev_min_ii, ev_max_ii, ev_abs, ev_tup_of, ev_tup_ofL, ev_lst_ofT, ev_lst_ofL, ev_len_t, ev_len_s, ev_len_r, ev_tru_b, ev_alloc, ev_tupD, ev_lstD, isi_tuple_non, isi_tuple_bl, isi_tuple_int, isi_tuple_str, isi_tuple_tup, isi_tuple_l, isi_tuple_f, isi_list_non, isi_list_bl, isi_list_int, isi_list_str, isi_list_tup, isi_list_l, isi_list_f, isi_bool_non, isi_bool_bl, isi_bool_int, isi_bool_str, isi_bool_tup, isi_bool_l, isi_bool_f, isi_int_non, isi_int_bl, isi_int_int, isi_int_str, isi_int_tup, isi_int_l, isi_int_f, isi_str_non, isi_str_bl, isi_str_int, isi_str_str, isi_str_tup, isi_str_l, isi_str_f, isi_dict_non, isi_dict_bl, isi_dict_int, isi_dict_str, isi_dict_tup, isi_dict_l, isi_dict_f, Ab.isNon, args, List.map, List.length_cons, List.length_nil, List.length_singleton, List.replicate, Nat.reduceSub, Nat.reduceAdd, Nat.zero_add, List.cons_append, List.nil_append, List.getElem?_cons_zero, List.getElem?_cons_succ, List.set_cons_zero, List.set_cons_succ, Option.some.injEq, decide_eq_true_eq, Bool.not_eq_true', decide_eq_false_iff_not, ite_true, ite_false, if_true, if_false, reduceIte, Bool.false_eq_true, Bool.not_true, Bool.not_false, Bool.true_eq_false, decide_true, decide_false, Nat.reduceLeDiff, Nat.reduceLT, q, m, ty3]
      have z := arith (A := A ++ [.lst [.str "+", .str "-", .str "*"]]) (k := 2) (w := "*") (i := i + j) (j := i - j) (l := i * j) rfl rfl
      simp only [sat_bind] at z
      exact Sat.imp z fun d A' h => Sat.imp h fun d A' h => ⟨h.1, Gr.app.trans h.2⟩
  | lt =>
    obtain ⟨i, rfl, hi⟩ := h1; obtain ⟨j, rfl, hj⟩ := h2
    refine ⟨.bl (decide (i < j)), ⟨_, rfl⟩, fin _ fun A => sat_body rfl (sat_seq ?_), fun A x y => ?_⟩
    · simp (decide := true) only [sat_ok, sat_bad, sat_bind, sat_ite, bind_ok, bind_bad, thn_nx, thn_rt, thn_bk, thn_ct, fin_rt, fin_nx, ev_v, ev_c, ev_op, ev_un, ev_nil, ev_cons, ev_tup, ev_lst, ev_call, ev_own, ev_sl, ev_no, ev_part, ev_and, ev_or, ev_not, ev_if, ev_t, ev_tb, ev_tnot, ev_tand, ev_tor, ev_mt, ev_mt0, ev_rgd, ev_set, ev_asg, ev_ret, ev_retN, ev_ex, ev_pass, ev_brk, ev_cont, ev_ifS, ev_aug, ev_gn, ev_gtp, ev_gnl, ev_gcs, ev_gsb, ev_for, ev_rg1, ev_rg2, ev_its, ev_enum, ev_lc, ev_yes, ev_add_ii, ev_add_ss, ev_add_tt, ev_add_rr, ev_sub, ev_mul, ev_mod, ev_fdiv, ev_pow, ev_neg, ev_lt, ev_le, ev_gt, ev_ge, ev_eq_ii, ev_eq_ss, ev_eq_bb, ev_ne_ii, ev_ne_ss, ev_ne_bb, ev_is_n, ev_isnt_n, ev_int_i, ev_int_b, ev_min_ii, ev_max_ii, ev_abs, ev_tup_of, ev_tup_ofL, ev_lst_ofT, ev_lst_ofL, ev_len_t, ev_len_s, ev_len_r, ev_tru_b, ev_alloc, ev_tupD, ev_lstD, isi_tuple_non, isi_tuple_bl, isi_tuple_int, isi_tuple_str, isi_tuple_tup, isi_tuple_l, isi_tuple_f, isi_list_non, isi_list_bl, isi_list_int, isi_list_str, isi_list_tup, isi_list_l, isi_list_f, isi_bool_non, isi_bool_bl, isi_bool_int, isi_bool_str, isi_bool_tup, isi_bool_l, isi_bool_f, isi_int_non, isi_int_bl, isi_int_int, isi_int_str, isi_int_tup, isi_int_l, isi_int_f, isi_str_non, isi_str_bl, isi_str_int, isi_str_str, isi_str_tup, isi_str_l, isi_str_f, isi_dict_non, isi_dict_bl, isi_dict_int, isi_dict_str, isi_dict_tup, isi_dict_l, isi_dict_f, Ab.isNon, args, List.map, List.length_cons, List.length_nil, List.length_singleton, List.replicate, Nat.reduceSub, Nat.reduceAdd, Nat.zero_add, List.cons_append, List.nil_append, List.getElem?_cons_zero, List.getElem?_cons_succ, List.set_cons_zero, List.set_cons_succ, Option.some.injEq, decide_eq_true_eq, Bool.not_eq_true', decide_eq_false_iff_not, ite_true, ite_false, if_true, if_false, reduceIte, Bool.false_eq_true, Bool.not_true, Bool.not_false, Bool.true_eq_false, decide_true, decide_false, Nat.reduceLeDiff, Nat.reduceLT]
      refine sat_seq ?_; simp (decide := true) only [sat_ok, sat_bad, sat_bind, sat_ite, bind_ok, bind_bad, thn_nx, thn_rt, thn_bk, thn_ct, fin_rt, fin_nx, ev_v, ev_c, ev_op, ev_un, ev_nil, ev_cons, ev_tup, ev_lst, ev_call, ev_own, ev_sl, ev_no, ev_part, ev_and, ev_or, ev_not, ev_if, ev_t, ev_tb, ev_tnot, ev_tand, ev_tor, ev_mt, ev_mt0, ev_rgd, ev_set, ev_asg, ev_ret, ev_retN, ev_ex, ev_pass, ev_brk, ev_cont, ev_ifS, ev_aug, ev_gn, ev_gtp, ev_gnl, ev_gcs, ev_gsb, ev_for, ev_rg1, ev_rg2, ev_its, ev_enum, ev_lc, ev_yes, ev_add_ii, ev_add_ss, ev_add_tt, ev_add_rr, ev_sub, ev_mul, ev_mod, ev_fdiv, ev_pow, ev_neg, ev_lt, ev_le, ev_gt, ev_ge, ev_eq_ii, ev_eq_ss, ev_eq_bb, ev_ne_ii, ev_ne_ss, ev_ne_bb, ev_is_n, ev_isnt_n, ev_int_i, ev_int_b, ev_min_ii, ev_max_ii, ev_abs, ev_tup_of, ev_tup_ofL, ev_lst_ofT, ev_lst_ofL, ev_len_t, ev_len_s, ev_len_r, ev_tru_b, ev_alloc, ev_tupD, ev_lstD, isi_tuple_non, isi_tuple_bl, isi_tuple_int, isi_tuple_str, isi_tuple_tup, isi_tuple_l, isi_tuple_f, isi_list_non, isi_list_bl, isi_list_int, isi_list_str, isi_list_tup, isi_list_l, isi_list_f, isi_bool_non, isi_bool_bl, isi_bool_int, isi_bool_str, isi_bool_tup, isi_bool_l, isi_bool_f, isi_int_non, isi_int_bl, isi_int_int, isi_int_str, isi_int_tup, isi_int_l, isi_int_f, isi_str_non, isi_str_bl, isi_str_int, isi_str_str, isi_str_tup, isi_str_l, isi_str_f, isi_dict_non, isi_dict_bl, isi_dict_int, isi_dict_str, isi_dict_tup, isi_dict_l, isi_dict_f, Ab.isNon, args, List.map, List.length_cons, List.length_nil, List.length_singleton, List.replicate, Nat.reduceSub, Nat.reduceAdd, Nat.zero_add, List.cons_append, List.nil_append, List.getElem?_cons_zero, List.getElem?_cons_succ, List.set_cons_zero, List.set_cons_succ, Option.some.injEq, decide_eq_true_eq, Bool.not_eq_true', decide_eq_false_iff_not, ite_true, ite_false, if_true, if_false, reduceIte, Bool.false_eq_true, Bool.not_true, Bool.not_false, Bool.true_eq_false, decide_true, decide_false, Nat.reduceLeDiff, Nat.reduceLT]
      refine sat_seq ?_; simp (decide := true) only [sat_ok, sat_bad, sat_bind, sat_ite, bind_ok, bind_bad, thn_nx, thn_rt, thn_bk, thn_ct, fin_rt, fin_nx, ev_v, ev_c, ev_op, ev_un, ev_nil, ev_cons, ev_tup, ev_lst, ev_call, ev_own, ev_sl, ev_no, ev_part, ev_and, ev_or, ev_not, ev_if, ev_t, ev_tb, ev_tnot, ev_tand, ev_tor, ev_mt, ev_mt0, ev_rgd, ev_set, ev_asg, ev_ret, ev_retN, ev_ex, ev_pass, ev_brk, ev_cont, ev_ifS, ev_aug, ev_gn, ev_gtp, ev_gnl, ev_gcs, ev_gsb, ev_for, ev_rg1, ev_rg2, ev_its, ev_enum, ev_lc, ev_yes, ev_add_ii, ev_add_ss, ev_add_tt, ev_add_rr, ev_sub, ev_mul, ev_mod, ev_fdiv, ev_pow, ev_neg, ev_lt, ev_le, ev_gt, ev_ge, ev_eq_ii, ev_eq_ss, ev_eq_bb, ev_ne_ii, ev_ne_ss, ev_ne_bb, ev_is_n, ev_isnt_n, ev_int_i, ev_int_b, ev_min_ii, ev_max_ii, ev_abs, ev_tup_of, ev_tup_ofL, ev_lst_ofT, ev_lst_ofL, ev_len_t, ev_len_s, ev_len_r, ev_tru_b, ev_alloc, ev_tupD, ev_lstD, isi_tuple_non, isi_tuple_bl, isi_tuple_int, isi_tuple_str, isi_tuple_tup, isi_tuple_l, isi_tuple_f, isi_list_non, isi_list_bl, isi_list_int, isi_list_str, isi_list_tup, isi_list_l, isi_list_f, isi_bool_non, isi_bool_bl, isi_bool_int, isi_bool_str, isi_bool_tup, isi_bool_l, isi_bool_f, isi_int_non, isi_int_bl, isi_int_int, isi_int_str, isi_int_tup, isi_int_l, isi_int_f, isi_str_non, isi_str_bl, isi_str_int, isi_str_str, isi_str_tup, isi_str_l, isi_str_f, isi_dict_non, isi_dict_bl, isi_dict_int, isi_dict_str, isi_dict_tup, isi_dict_l, isi_dict_f, Ab.isNon, args, List.map, List.length_cons, List.length_nil, List.length_singleton, List.replicate, Nat.reduceSub, Nat.reduceAdd, Nat.zero_add, List.cons_append, List.nil_append, List.getElem?_cons_zero, List.getElem?_cons_succ, List.set_cons_zero, List.set_cons_succ, Option.some.injEq, decide_eq_true_eq, Bool.not_eq_true', decide_eq_false_iff_not, ite_true, ite_false, if_true, if_false, reduceIte, Bool.false_eq_true, Bool.not_true, Bool.not_false, Bool.true_eq_false, decide_true, decide_false, Nat.reduceLeDiff, Nat.reduceLT]
      refine sat_seq ?_; simp (decide := true) only [sat_ok, sat_bad, sat_bind, sat_ite, bind_ok, bind_bad, thn_nx, thn_rt, thn_bk, thn_ct, fin_rt, fin_nx, ev_v, ev_c, ev_op, ev_un, ev_nil, ev_cons, ev_tup, ev_lst, ev_call, ev_own, ev_sl, ev_no, ev_part, ev_and, ev_or, ev_not, ev_if, ev_t, ev_tb, ev_tnot, ev_tand, ev_tor, ev_mt, ev_mt0, ev_rgd, ev_set, ev_asg, ev_ret, ev_retN, ev_ex, ev_pass, ev_brk, ev_cont, ev_ifS, ev_aug, ev_gn, ev_gtp, ev_gnl, ev_gcs, ev_gsb, ev_for, ev_rg1, ev_rg2, ev_its, ev_enum, ev_lc, ev_yes, ev_add_ii, ev_add_ss, ev_add_tt, ev_add_rr, ev_sub, ev_mul, ev_mod, ev_fdiv, ev_pow, ev_neg, ev_lt, ev_le, ev_gt, ev_ge, ev_eq_ii, ev_eq_ss, ev_eq_bb, ev_ne_ii, ev_ne_ss, ev_ne_bb, ev_is_n, ev_isnt_n, ev_int_i, ev_int_b, ev_min_ii, ev_max_ii, ev_abs, ev_tup_of, ev_tup_ofL, ev_lst_ofT, ev_lst_ofL, ev_len_t, ev_len_s, ev_len_r, ev_tru_b, ev_alloc, ev_tupD, ev_lstD, isi_tuple_non, isi_tuple_bl, isi_tuple_int, isi_tuple_str, isi_tuple_tup, isi_tuple_l, isi_tuple_f, isi_list_non, isi_list_bl, isi_list_int, isi_list_str, isi_list_tup, isi_list_l, isi_list_f, isi_bool_non, isi_bool_bl, isi_bool_int, isi_bool_str, isi_bool_tup, isi_bool_l, isi_bool_f, isi_int_non, isi_int_bl, isi_int_int, isi_int_str, isi_int_tup, isi_int_l, isi_int_f, isi_str_non, isi_str_bl, isi_str_int, isi_str_str, isi_str_tup, isi_str_l, isi_str_f, isi_dict_non, isi_dict_bl, isi_dict_int, isi_dict_str, isi_dict_tup, isi_dict_l, isi_dict_f, Ab.isNon, args, List.map, List.length_cons, List.length_nil, List.length_singleton, List.replicate, Nat.reduceSub, Nat.reduceAdd, Nat.zero_add, List.cons_append, List.nil_append, List.getElem?_cons_zero, List.getElem?_cons_succ, List.set_cons_zero, List.set_cons_succ, Option.some.injEq, decide_eq_true_eq, Bool.not_eq_true', decide_eq_false_iff_not, ite_true, ite_false, if_true, if_false, reduceIte, Bool.false_eq_true, Bool.not_true, Bool.not_false, Bool.true_eq_false, decide_true, decide_false, Nat.reduceLeDiff, Nat.reduceLT]
    · unfold vtail; refine sat_seq ?_
      have q := fun A => pick A "<" false (by decide)
      simp (decide := true) only [sat_ok, sat_bad, sat_bind, sat_ite, bind_ok, bind_bad, thn_nx, thn_rt, thn_bk, thn_ct, fin_rt, fin_nx, ev_v, ev_c, ev_op, ev_un, ev_nil, ev_cons, ev_tup, ev_lst, ev_call, ev_own, ev_sl, ev_no, ev_part, ev_and, ev_or, ev_not, ev_if, ev_t, ev_tb, ev_tnot, ev_tand, ev_tor, ev_mt, ev_mt0, ev_rgd, ev_set, ev_asg, ev_ret, ev_retN, ev_ex, ev_pass, ev_brk, ev_cont, ev_ifS, ev_aug, ev_gn, ev_gtp, ev_gnl, ev_gcs, ev_gsb, ev_for, ev_rg1, ev_rg2, ev_its, ev_enum, ev_lc, ev_yes, ev_add_ii, ev_add_ss, ev_add_tt, ev_add_rr, ev_sub, ev_mul, ev_mod, ev_fdiv, ev_pow, ev_neg, ev_lt, ev_le, ev_gt, ev_ge, ev_eq_ii, ev_eq_ss, ev_eq_bb, ev_ne_ii, ev_ne_ss, ev_ne_bb, ev_is_n, ev_isnt_n, ev_int_i, ev_int_b, ev_min_ii, ev_max_ii, ev_abs, ev_tup_of, ev_tup_ofL, ev_lst_ofT, ev_lst_ofL, ev_len_t, ev_len_s, ev_len_r, ev_tru_b, ev_alloc, ev_tupD, ev_lstD, isi_tuple_non, isi_tuple_bl, isi_tuple_int, isi_tuple_str, isi_tuple_tup, isi_tuple_l, isi_tuple_f, isi_list_non, isi_list_bl, isi_list_int, isi_list_str, isi_list_tup, isi_list_l, isi_list_f, isi_bool_non, isi_bool_bl, isi_bool_int, isi_bool_str, isi_bool_tup, isi_bool_l, isi_bool_f, isi_int_non, isi_int_bl, isi_int_int, isi_int_str, isi_int_tup, isi_int_l, isi_int_f, isi_str_non, isi_str_bl, isi_str_int, isi_str_str, isi_str_tup, isi_str_l, isi_str_f, isi_dict_non, isi_dict_bl, isi_dict_int, isi_dict_str, isi_dict_tup, isi_dict_l, isi_dict_f, Ab.isNon, args, List.map, List.length_cons, List.length_nil, List.length_singleton, List.replicate, Nat.reduceSub, Nat.reduceAdd, Nat.zero_add, List.cons_append, List.nil_append, List.getElem?_cons_zero, List.getElem?_cons_succ, List.set_cons_zero, List.set_cons_succ, Option.some.injEq, decide_eq_true_eq, Bool.not_eq_true', decide_eq_false_iff_not, ite_true, ite_false, if_true, if_false, reduceIte, Bool.false_eq_true, Bool.not_true, Bool.not_false, Bool.true_eq_false, decide_true, decide_false, Nat.reduceLeDiff, Nat.reduceLT, q]
      refine sat_seq ?_
      have q := fun A => pick2 A "<" true (by decide)
      simp (decide := true) only [sat_ok, sat_bad, sat_bind, sat_ite, bind_ok, bind_bad, thn_nx, thn_rt, thn_bk, thn_ct, fin_rt, fin_nx, ev_v, ev_c, ev_op, ev_un, ev_nil, ev_cons, ev_tup, ev_lst, ev_call, ev_own, ev_sl, ev_no, ev_part, ev_and, ev_or, ev_not, ev_if, ev_t, ev_tb, ev_tnot, ev_tand, ev_tor, ev_mt, ev_mt0, ev_rgd, ev_set, ev_asg, ev_ret, ev_retN, ev_ex, ev_pass, ev_brk, ev_cont, ev_ifS, ev_aug, ev_gn, ev_gtp, ev_gnl, ev_gcs, ev_gsb, ev_for, ev_rg1, ev_rg2, ev_its, ev_enum, ev_lc, ev_yes, ev_add_ii, ev_add_ss, ev_add_tt, ev_add_rr, ev_sub, ev_mul, ev_mod, ev_fdiv, ev_pow, ev_neg, ev_lt, ev_le, ev_gt, ev_ge, ev_eq_ii, ev_eq_ss, ev_eq_bb, ev_ne_ii, ev_ne_ss, ev_ne_bb, ev_is_n, ev_isnt_n, ev_int_i, ev_int_b, ev_min_ii, ev_max_ii, ev_abs, ev_tup_of, ev_tup_ofL, ev_lst_ofT, ev_lst_ofL, ev_len_t, ev_len_s, ev_len_r, ev_tru_b, ev_alloc, ev_tupD, ev_lstD, isi_tuple_non, isi_tuple_bl, isi_tuple_int, isi_tuple_str, isi_tuple_tup, isi_tuple_l, isi_tuple_f, isi_list_non, isi_list_bl, isi_list_int, isi_list_str, isi_list_tup, isi_list_l, isi_list_f, isi_bool_non, isi_bool_bl, isi_bool_int, isi_bool_str, isi_bool_tup, isi_bool_l, isi_bool_f, isi_int_non, isi_int_bl, isi_int_int, isi_int_str, isi_int_tup, isi_int_l, isi_int_f, isi_str_non, isi_str_bl, isi_str_int, isi_str_str, isi_str_tup, isi_str_l, isi_str_f, isi_dict_non, isi_dict_bl, isi_dict_int, isi_dict_str, isi_dict_tup, isi_dict_l, isi_dict_f, Ab.isNon, args, List.map, List.length_cons, List.length_nil, List.length_singleton, List.replicate, Nat.reduceSub, Nat.reduceAdd, Nat.zero_add, List.cons_append, List.nil_append, List.getElem?_cons_zero, List.getElem?_cons_succ, List.set_cons_zero, List.set_cons_succ, Option.some.injEq, decide_eq_true_eq, Bool.not_eq_true', decide_eq_false_iff_not, ite_true, ite_false, if_true, if_false, reduceIte, Bool.false_eq_true, Bool.not_true, Bool.not_false, Bool.true_eq_false, decide_true, decide_false, Nat.reduceLeDiff, Nat.reduceLT, q]
      by_cases c : i < j
      · simp (decide := true) only [sat_ok, sat_bad, sat_bind, sat_ite, bind_ok, bind_bad, thn_nx, thn_rt, thn_bk, thn_ct, fin_rt, fin_nx, ev_v, ev_c, ev_op, ev_un, ev_nil, ev_cons, ev_tup, ev_lst, ev_call, ev_own, ev_sl, ev_no, ev_part, ev_and, ev_or, ev_not, ev_if, ev_t, ev_tb, ev_tnot, ev_tand, ev_tor, ev_mt, ev_mt0, ev_rgd, ev_set, ev_asg, ev_ret, ev_retN, ev_ex, ev_pass, ev_brk, ev_cont, ev_ifS, ev_aug, ev_gn, ev_gtp, ev_gnl, ev_gcs, ev_gsb, ev_for, ev_rg1, ev_rg2, ev_its, ev_enum, ev_lc, ev_yes, ev_add_ii, ev_add_ss, ev_add_tt, ev_add_rr, ev_sub, ev_mul, ev_mod, ev_fdiv, ev_pow, ev_neg, ev_lt, ev_le, ev_gt, ev_ge, ev_eq_ii, ev_eq_ss, ev_eq_bb, ev_ne_ii, ev_ne_ss, ev_ne_bb, ev_is_n, ev_isnt_n, ev_int_i, ev_int_b, ev_min_ii, ev_max_ii, ev_abs, ev_tup_of, ev_tup_ofL, ev_lst_ofT, ev_lst_ofL, ev_len_t, ev_len_s, ev_len_r, ev_tru_b, ev_alloc, ev_tupD, ev_lstD, isi_tuple_non, isi_tuple_bl, isi_tuple_int, isi_tuple_str, isi_tuple_tup, isi_tuple_l, isi_tuple_f, isi_list_non, isi_list_bl, isi_list_int, isi_list_str, isi_list_tup, isi_list_l, isi_list_f, isi_bool_non, isi_bool_bl, isi_bool_int, isi_bool_str, isi_bool_tup, isi_bool_l, isi_bool_f, isi_int_non, isi_int_bl, isi_int_int, isi_int_str, isi_int_tup, isi_int_l, isi_int_f, isi_str_non, isi_str_bl, isi_str_int, isi_str_str, isi_str_tup, isi_str_l, isi_str_f, isi_dict_non, isi_dict_bl, isi_dict_int, isi_dict_str, isi_dict_tup, isi_dict_l, isi_dict_f, Ab.isNon, args, List.map, List.length_cons, List.length_nil, List.length_singleton, List.replicate, Nat.reduceSub, Nat.reduceAdd, Nat.zero_add, List.cons_append, List.nil_append, List.getElem?_cons_zero, List.getElem?_cons_succ, List.set_cons_zero, List.set_cons_succ, Option.some.injEq, decide_eq_true_eq, Bool.not_eq_true', decide_eq_false_iff_not, ite_true, ite_false, if_true, if_false, reduceIte, Bool.false_eq_true, Bool.not_true, Bool.not_false, Bool.true_eq_false, decide_true, decide_false, Nat.reduceLeDiff, Nat.reduceLT, c]; exact ⟨trivial, Gr.app.trans .app⟩
      · simp (decide := true) only [sat_ok, sat_bad, sat_bind, sat_ite, bind_ok, bind_bad, thn_nx, thn_rt, thn_bk, thn_ct, fin_rt, fin_nx, ev_v, ev_c, ev_op, ev_un, ev_nil, ev_cons, ev_tup, ev_lst, ev_call, ev_own, ev_sl, ev_no, ev_part, ev_and, ev_or, ev_not, ev_if, ev_t, ev_tb, ev_tnot, ev_tand, ev_tor, ev_mt, ev_mt0, ev_rgd, ev_set, ev_asg, ev_ret, ev_retN, ev_ex, ev_pass, ev_brk, ev_cont, ev_ifS, ev_aug, ev_gn, ev_gtp, ev_gnl, ev_gcs, ev_gsb, ev_for, ev_rg1, ev_rg2, ev_its, ev_enum, ev_lc, ev_yes, ev_add_ii, ev_add_ss, ev_add_tt, ev_add_rr, ev_sub, ev_mul, ev_mod, ev_fdiv, ev_pow, ev_neg, ev_lt, ev_le, ev_gt, ev_ge, ev_eq_ii, ev_eq_ss, ev_eq_bb, ev_ne_ii, ev_ne_ss, ev_ne_bb, ev_is_n, ev_isnt_n, ev_int_i, ev_int_b, ev_min_ii, ev_max_ii, ev_abs, ev_tup_of, ev_tup_ofL, ev_lst_ofT, ev_lst_ofL, ev_len_t, ev_len_s, ev_len_r, ev_tru_b, ev_alloc, ev_tupD, ev_lstD, isi_tuple_non, isi_tuple_bl, isi_tuple_int, isi_tuple_str, isi_tuple_tup, isi_tuple_l, isi_tuple_f, isi_list_non, isi_list_bl, isi_list_int, isi_list_str, isi_list_tup, isi_list_l, isi_list_f, isi_bool_non, isi_bool_bl, isi_bool_int, isi_bool_str, isi_bool_tup, isi_bool_l, isi_bool_f, isi_int_non, isi_int_bl, isi_int_int, isi_int_str, isi_int_tup, isi_int_l, isi_int_f, isi_str_non, isi_str_bl, isi_str_int, isi_str_str, isi_str_tup, isi_str_l, isi_str_f, isi_dict_non, isi_dict_bl, isi_dict_int, isi_dict_str, isi_dict_tup, isi_dict_l, isi_dict_f, Ab.isNon, args, List.map, List.length_cons, List.length_nil, List.length_singleton, List.replicate, Nat.reduceSub, Nat.reduceAdd, Nat.zero_add, List.cons_append, List.nil_append, List.getElem?_cons_zero, List.getElem?_cons_succ, List.set_cons_zero, List.set_cons_succ, Option.some.injEq, decide_eq_true_eq, Bool.not_eq_true', decide_eq_false_iff_not, ite_true, ite_false, if_true, if_false, reduceIte, Bool.false_eq_true, Bool.not_true, Bool.not_false, Bool.true_eq_false, decide_true, decide_false, Nat.reduceLeDiff, Nat.reduceLT, c]; exact ⟨trivial, Gr.app.trans .app⟩
  | le =>
    obtain ⟨i, rfl, hi⟩ := h1; obtain ⟨j, rfl, hj⟩ := h2
    refine ⟨.bl (decide (i ≤ j)), ⟨_, rfl⟩, fin _ fun A => sat_body rfl (sat_seq ?_), fun A x y => ?_⟩
    · simp (decide := true) only [sat_ok, sat_bad, sat_bind, sat_ite, bind_ok, bind_bad, thn_nx, thn_rt, thn_bk, thn_ct, fin_rt, fin_nx, ev_v, ev_c, ev_op, ev_un, ev_nil, ev_cons, ev_tup, ev_lst, ev_call, ev_own, ev_sl, ev_no, ev_part, ev_and, ev_or, ev_not, ev_if, ev_t, ev_tb, ev_tnot, ev_tand, ev_tor, ev_mt, ev_mt0, ev_rgd, ev_set, ev_asg, ev_ret, ev_retN, ev_ex, ev_pass, ev_brk, ev_cont, ev_ifS, ev_aug, ev_gn, ev_gtp, ev_gnl, ev_gcs, ev_gsb, ev_for, ev_rg1, ev_rg2, ev_its, ev_enum, ev_lc, ev_yes, ev_add_ii, ev_add_ss, ev_add_tt, ev_add_rr, ev_sub, ev_mul, ev_mod, ev_fdiv, ev_pow, ev_neg, ev_lt, ev_le, ev_gt, ev_ge, ev_eq_ii, ev_eq_ss, ev_eq_bb, ev_ne_ii, ev_ne_ss, ev_ne_bb, ev_is_n, ev_isnt_n, ev_int_i, ev_int_b, ev_min_ii, ev_max_ii, ev_abs, ev_tup_of, ev_tup_ofL, ev_lst_ofT, ev_lst_ofL, ev_len_t, ev_len_s, ev_len_r, ev_tru_b, ev_alloc, ev_tupD, ev_lstD, isi_tuple_non, isi_tuple_bl, isi_tuple_int, isi_tuple_str, isi_tuple_tup, isi_tuple_l, isi_tuple_f, isi_list_non, isi_list_bl, isi_list_int, isi_list_str, isi_list_tup, isi_list_l, isi_list_f, isi_bool_non, isi_bool_bl, isi_bool_int, isi_bool_str, isi_bool_tup, isi_bool_l, isi_bool_f, isi_int_non, isi_int_bl, isi_int_int, isi_int_str, isi_int_tup, isi_int_l, isi_int_f, isi_str_non, isi_str_bl, isi_str_int, isi_str_str, isi_str_tup, isi_str_l, isi_str_f, isi_dict_non, isi_dict_bl, isi_dict_int, isi_dict_str, isi_dict_tup, isi_dict_l, isi_dict_f, Ab.isNon, args, List.map, List.length_cons, List.length_nil, List.length_singleton, List.replicate, Nat.reduceSub, Nat.reduceAdd, Nat.zero_add, List.cons_append, List.nil_append, List.getElem?_cons_zero, List.getElem?_cons_succ, List.set_cons_zero, List.set_cons_succ, Option.some.injEq, decide_eq_true_eq, Bool.not_eq_true', decide_eq_false_iff_not, ite_true, ite_false, if_true, if_false, reduceIte, Bool.false_eq_true, Bool.not_true, Bool.not_false, Bool.true_eq_false, decide_true, decide_false, Nat.reduceLeDiff, Nat.reduceLT]
      refine sat_seq ?_; simp (decide := true) only [sat_ok, sat_bad, sat_bind, sat_ite, bind_ok, bind_bad, thn_nx, thn_rt, thn_bk, thn_ct, fin_rt, fin_nx, ev_v, ev_c, ev_op, ev_un, ev_nil, ev_cons, ev_tup, ev_lst, ev_call, ev_own, ev_sl, ev_no, ev_part, ev_and, ev_or, ev_not, ev_if, ev_t, ev_tb, ev_tnot, ev_tand, ev_tor, ev_mt, ev_mt0, ev_rgd, ev_set, ev_asg, ev_ret, ev_retN, ev_ex, ev_pass, ev_brk, ev_cont, ev_ifS, ev_aug, ev_gn, ev_gtp, ev_gnl, ev_gcs, ev_gsb, ev_for, ev_rg1, ev_rg2, ev_its, ev_enum, ev_lc, ev_yes, ev_add_ii, ev_add_ss, ev_add_tt, ev_add_rr, ev_sub, ev_mul, ev_mod, ev_fdiv, ev_pow, ev_neg, ev_lt, ev_le, ev_gt, ev_ge, ev_eq_ii, ev_eq_ss, ev_eq_bb, ev_ne_ii, ev_ne_ss, ev_ne_bb, ev_is_n, ev_isnt_n, ev_int_i, ev_int_b, ev_min_ii, ev_max_ii, ev_abs, ev_tup_of, ev_tup_ofL, ev_lst_ofT, ev_lst_ofL, ev_len_t, ev_len_s, ev_len_r, ev_tru_b, ev_alloc, ev_tupD, ev_lstD, isi_tuple_non, isi_tuple_bl, isi_tuple_int, isi_tuple_str, isi_tuple_tup, isi_tuple_l, isi_tuple_f, isi_list_non, isi_list_bl, isi_list_int, isi_list_str, isi_list_tup, isi_list_l, isi_list_f, isi_bool_non, isi_bool_bl, isi_bool_int, isi_bool_str, isi_bool_tup, isi_bool_l, isi_bool_f, isi_int_non, isi_int_bl, isi_int_int, isi_int_str, isi_int_tup, isi_int_l, isi_int_f, isi_str_non, isi_str_bl, isi_str_int, isi_str_str, isi_str_tup, isi_str_l, isi_str_f, isi_dict_non, isi_dict_bl, isi_dict_int, isi_dict_str, isi_dict_tup, isi_dict_l, isi_dict_f, Ab.isNon, args, List.map, List.length_cons, List.length_nil, List.length_singleton, List.replicate, Nat.reduceSub, Nat.reduceAdd, Nat.zero_add, List.cons_append, List.nil_append, List.getElem?_cons_zero, List.getElem?_cons_succ, List.set_cons_zero, List.set_cons_succ, Option.some.injEq, decide_eq_true_eq, Bool.not_eq_true', decide_eq_false_iff_not, ite_true, ite_false, if_true, if_false, reduceIte, Bool.false_eq_true, Bool.not_true, Bool.not_false, Bool.true_eq_false, decide_true, decide_false, Nat.reduceLeDiff, Nat.reduceLT]
      refine sat_seq ?_; simp (decide := true) only [sat_ok, sat_bad, sat_bind, sat_ite, bind_ok, bind_bad, thn_nx, thn_rt, thn_bk, thn_ct, fin_rt, fin_nx, ev_v, ev_c, ev_op, ev_un, ev_nil, ev_cons, ev_tup, ev_lst, ev_call, ev_own, ev_sl, ev_no, ev_part, ev_and, ev_or, ev_not, ev_if, ev_t, ev_tb, ev_tnot, ev_tand, ev_tor, ev_mt, ev_mt0, ev_rgd, ev_set, ev_asg, ev_ret, ev_retN, ev_ex, ev_pass, ev_brk, ev_cont, ev_ifS, ev_aug, ev_gn, ev_gtp, ev_gnl, ev_gcs, ev_gsb, ev_for, ev_rg1, ev_rg2, ev_its, ev_enum, ev_lc, ev_yes, ev_add_ii, ev_add_ss, ev_add_tt, ev_add_rr, ev_sub, ev_mul, ev_mod, ev_fdiv, ev_pow, ev_neg, ev_lt, ev_le, ev_gt, ev_ge, ev_eq_ii, ev_eq_ss, ev_eq_bb, ev_ne_ii, ev_ne_ss, ev_ne_bb, ev_is_n, ev_isnt_n, ev_int_i, ev_int_b, ev_min_ii, ev_max_ii, ev_abs, ev_tup_of, ev_tup_ofL, ev_lst_ofT, ev_lst_ofL, ev_len_t, ev_len_s, ev_len_r, ev_tru_b, ev_alloc, ev_tupD, ev_lstD, isi_tuple_non, isi_tuple_bl, isi_tuple_int, isi_tuple_str, isi_tuple_tup, isi_tuple_l, isi_tuple_f, isi_list_non, isi_list_bl, isi_list_int, isi_list_str, isi_list_tup, isi_list_l, isi_list_f, isi_bool_non, isi_bool_bl, isi_bool_int, isi_bool_str, isi_bool_tup, isi_bool_l, isi_bool_f, isi_int_non, isi_int_bl, isi_int_int, isi_int_str, isi_int_tup, isi_int_l, isi_int_f, isi_str_non, isi_str_bl, isi_str_int, isi_str_str, isi_str_tup, isi_str_l, isi_str_f, isi_dict_non, isi_dict_bl, isi_dict_int, isi_dict_str, isi_dict_tup, isi_dict_l, isi_dict_f, Ab.isNon, args, List.map, List.length_cons, List.length_nil, List.length_singleton, List.replicate, Nat.reduceSub, Nat.reduceAdd, Nat.zero_add, List.cons_append, List.nil_append, List.getElem?_cons_zero, List.getElem?_cons_succ, List.set_cons_zero, List.set_cons_succ, Option.some.injEq, decide_eq_true_eq, Bool.not_eq_true', decide_eq_false_iff_not, ite_true, ite_false, if_true, if_false, reduceIte, Bool.false_eq_true, Bool.not_true, Bool.not_false, Bool.true_eq_false, decide_true, decide_false, Nat.reduceLeDiff, Nat.reduceLT]
      refine sat_seq ?_; simp (decide := true) only [sat_ok, sat_bad, sat_bind, sat_ite, bind_ok, bind_bad, thn_nx, thn_rt, thn_bk, thn_ct, fin_rt, fin_nx, ev_v, ev_c, ev_op, ev_un, ev_nil, ev_cons, ev_tup, ev_lst, ev_call, ev_own, ev_sl, ev_no, ev_part, ev_and, ev_or, ev_not, ev_if, ev_t, ev_tb, ev_tnot, ev_tand, ev_tor, ev_mt, ev_mt0, ev_rgd, ev_set, ev_asg, ev_ret, ev_retN, ev_ex, ev_pass, ev_brk, ev_cont, ev_ifS, ev_aug, ev_gn, ev_gtp, ev_gnl, ev_gcs, ev_gsb, ev_for, ev_rg1, ev_rg2, ev_its, ev_enum, ev_lc, ev_yes, ev_add_ii, ev_add_ss, ev_add_tt, ev_add_rr, ev_sub, ev_mul, ev_mod, ev_fdiv, ev_pow, ev_neg, ev_lt, ev_le, ev_gt, ev_ge, ev_eq_ii, ev_eq_ss, ev_eq_bb, ev_ne_ii, ev_ne_ss, ev_ne_bb, ev_is_n, ev_isnt_n, ev_int_i, ev_int_b, ev_min_ii, ev_max_ii, ev_abs, ev_tup_of, ev_tup_ofL, ev_lst_ofT, ev_lst_ofL, ev_len_t, ev_len_s, ev_len_r, ev_tru_b, ev_alloc, ev_tupD, ev_lstD, isi_tuple_non, isi_tuple_bl, isi_tuple_int, isi_tuple_str, isi_tuple_tup, isi_tuple_l, isi_tuple_f, isi_list_non, isi_list_bl, isi_list_int, isi_list_str, isi_list_tup, isi_list_l, isi_list_f, isi_bool_non, isi_bool_bl, isi_bool_int, isi_bool_str, isi_bool_tup, isi_bool_l, isi_bool_f, isi_int_non, isi_int_bl, isi_int_int, isi_int_str, isi_int_tup, isi_int_l, isi_int_f, isi_str_non, isi_str_bl, isi_str_int, isi_str_str, isi_str_tup, isi_str_l, isi_str_f, isi_dict_non, isi_dict_bl, isi_dict_int, isi_dict_str, isi_dict_tup, isi_dict_l, isi_dict_f, Ab.isNon, args, List.map, List.length_cons, List.length_nil, List.length_singleton, List.replicate, Nat.reduceSub, Nat.reduceAdd, Nat.zero_add, List.cons_append, List.nil_append, List.getElem?_cons_zero, List.getElem?_cons_succ, List.set_cons_zero, List.set_cons_succ, Option.some.injEq, decide_eq_true_eq, Bool.not_eq_true', decide_eq_false_iff_not, ite_true, ite_false, if_true, if_false, reduceIte, Bool.false_eq_true, Bool.not_true, Bool.not_false, Bool.true_eq_false, decide_true, decide_false, Nat.reduceLeDiff, Nat.reduceLT]
      refine sat_seq ?_; simp (decide := true) only [sat_ok, sat_bad, sat_bind, sat_ite, bind_ok, bind_bad, thn_nx, thn_rt, thn_bk, thn_ct, fin_rt, fin_nx, ev_v, ev_c, ev_op, ev_un, ev_nil, ev_cons, ev_tup, ev_lst, ev_call, ev_own, ev_sl, ev_no, ev_part, ev_and, ev_or, ev_not, ev_if, ev_t, ev_tb, ev_tnot, ev_tand, ev_tor, ev_mt, ev_mt0, ev_rgd, ev_set, ev_asg, ev_ret, ev_retN, ev_ex, ev_pass, ev_brk, ev_cont, ev_ifS, ev_aug, ev_gn, ev_gtp, ev_gnl, ev_gcs, ev_gsb, ev_for, ev_rg1, ev_rg2, ev_its, ev_enum, ev_lc, ev_yes, ev_add_ii, ev_add_ss, ev_add_tt, ev_add_rr, ev_sub, ev_mul, ev_mod, ev_fdiv, ev_pow, ev_neg, ev_lt, ev_le, ev_gt, ev_ge, ev_eq_ii, ev_eq_ss, ev_eq_bb, ev_ne_ii, ev_ne_ss, ev_ne_bb, ev_is_n, ev_isnt_n, ev_int_i, ev_int_b, ev_min_ii, ev_max_ii, ev_abs, ev_tup_of, ev_tup_ofL, ev_lst_ofT, ev_lst_ofL, ev_len_t, ev_len_s, ev_len_r, ev_tru_b, ev_alloc, ev_tupD, ev_lstD, isi_tuple_non, isi_tuple_bl, isi_tuple_int, isi_tuple_str, isi_tuple_tup, isi_tuple_l, isi_tuple_f, isi_list_non, isi_list_bl, isi_list_int, isi_list_str, isi_list_tup, isi_list_l, isi_list_f, isi_bool_non, isi_bool_bl, isi_bool_int, isi_bool_str, isi_bool_tup, isi_bool_l, isi_bool_f, isi_int_non, isi_int_bl, isi_int_int, isi_int_str, isi_int_tup, isi_int_l, isi_int_f, isi_str_non, isi_str_bl, isi_str_int, isi_str_str, isi_str_tup, isi_str_l, isi_str_f, isi_dict_non, isi_dict_bl, isi_dict_int, isi_dict_str, isi_dict_tup, isi_dict_l, isi_dict_f, Ab.isNon, args, List.map, List.length_cons, List.length_nil, List.length_singleton, List.replicate, Nat.reduceSub, Nat.reduceAdd, Nat.zero_add, List.cons_append, List.nil_append, List.getElem?_cons_zero, List.getElem?_cons_succ, List.set_cons_zero, List.set_cons_succ, Option.some.injEq, decide_eq_true_eq, Bool.not_eq_true', decide_eq_false_iff_not, ite_true, ite_false, if_true, if_false, reduceIte, Bool.false_eq_true, Bool.not_true, Bool.not_false, Bool.true_eq_false, decide_true, decide_false, Nat.reduceLeDiff, Nat.reduceLT]
    · unfold vtail; refine sat_seq ?_
      have q := fun A => pick A "<=" false (by decide)
      simp (decide := true) only [sat_ok, sat_bad, sat_bind, sat_ite, bind_ok, bind_bad, thn_nx, thn_rt, thn_bk, thn_ct, fin_rt, fin_nx, ev_v, ev_c, ev_op, ev_un, ev_nil, ev_cons, ev_tup, ev_lst, ev_call, ev_own, ev_sl, ev_no, ev_part, ev_and, ev_or, ev_not, ev_if, ev_t, ev_tb, ev_tnot, ev_tand, ev_tor, ev_mt, ev_mt0, ev_rgd, ev_set, ev_asg, ev_ret, ev_retN, ev_ex, ev_pass, ev_brk, ev_cont, ev_ifS, ev_aug, ev_gn, ev_gtp, ev_gnl, ev_gcs, ev_gsb, ev_for, ev_rg1, ev_rg2, ev_its, ev_enum, ev_lc, ev_yes, ev_add_ii, ev_add_ss, ev_add_tt, ev_add_rr, ev_sub, ev_mul, ev_mod, ev_fdiv, ev_pow, ev_neg, ev_lt, ev_le, ev_gt, ev_ge, ev_eq_ii, ev_eq_ss, ev_eq_bb, ev_ne_ii, ev_ne_ss, ev_ne_bb, ev_is_n, ev_isnt_n, ev_int_i, ev_int_b, ev_min_ii, ev_max_ii, ev_abs, ev_tup_of, ev_tup_ofL, ev_lst_ofT, ev_lst_ofL, ev_len_t, ev_len_s, ev_len_r, ev_tru_b, ev_alloc, ev_tupD, ev_lstD, isi_tuple_non, isi_tuple_bl, isi_tuple_int, isi_tuple_str, isi_tuple_tup, isi_tuple_l, isi_tuple_f, isi_list_non, isi_list_bl, isi_list_int, isi_list_str, isi_list_tup, isi_list_l, isi_list_f, isi_bool_non, isi_bool_bl, isi_bool_int, isi_bool_str, isi_bool_tup, isi_bool_l, isi_bool_f, isi_int_non, isi_int_bl, isi_int_int, isi_int_str, isi_int_tup, isi_int_l, isi_int_f, isi_str_non, isi_str_bl, isi_str_int, isi_str_str, isi_str_tup, isi_str_l, isi_str_f, isi_dict_non, isi_dict_bl, isi_dict_int, isi_dict_str, isi_dict_tup, isi_dict_l, isi_dict_f, Ab.isNon, args, List.map, List.length_cons, List.length_nil, List.length_singleton, List.replicate, Nat.reduceSub, Nat.reduceAdd, Nat.zero_add, List.cons_append, List.nil_append, List.getElem?_cons_zero, List.getElem?_cons_succ, List.set_cons_zero, List.set_cons_succ, Option.some.injEq, decide_eq_true_eq, Bool.not_eq_true', decide_eq_false_iff_not, ite_true, ite_false, if_true, if_false, reduceIte, Bool.false_eq_true, Bool.not_true, Bool.not_false, Bool.true_eq_false, decide_true, decide_false, Nat.reduceLeDiff, Nat.reduceLT, q]
      refine sat_seq ?_
      have q := fun A => pick2 A "<=" true (by decide)
      simp (decide := true) only [sat_ok, sat_bad, sat_bind, sat_ite, bind_ok, bind_bad, thn_nx, thn_rt, thn_bk, thn_ct, fin_rt, fin_nx, ev_v, ev_c, ev_op, ev_un, ev_nil, ev_cons, ev_tup, ev_lst, ev_call, ev_own, ev_sl, ev_no, ev_part, ev_and, ev_or, ev_not, ev_if, ev_t, ev_tb, ev_tnot, ev_tand, ev_tor, ev_mt, ev_mt0, ev_rgd, ev_set, ev_asg, ev_ret, ev_retN, ev_ex, ev_pass, ev_brk, ev_cont, ev_ifS, ev_aug, ev_gn, ev_gtp, ev_gnl, ev_gcs, ev_gsb, ev_for, ev_rg1, ev_rg2, ev_its, ev_enum, ev_lc, ev_yes, ev_add_ii, ev_add_ss, ev_add_tt, ev_add_rr, ev_sub, ev_mul, ev_mod, ev_fdiv, ev_pow, ev_neg, ev_lt, ev_le, ev_gt, ev_ge, ev_eq_ii, ev_eq_ss, ev_eq_bb, ev_ne_ii, ev_ne_ss, ev_ne_bb, ev_is_n, ev_isnt_n, ev_int_i, ev_int_b, ev_min_ii, ev_max_ii, ev_abs, ev_tup_of, ev_tup_ofL, ev_lst_ofT, ev_lst_ofL, ev_len_t, ev_len_s, ev_len_r, ev_tru_b, ev_alloc, ev_tupD, ev_lstD, isi_tuple_non, isi_tuple_bl, isi_tuple_int, isi_tuple_str, isi_tuple_tup, isi_tuple_l, isi_tuple_f, isi_list_non, isi_list_bl, isi_list_int, isi_list_str, isi_list_tup, isi_list_l, isi_list_f, isi_bool_non, isi_bool_bl, isi_bool_int, isi_bool_str, isi_bool_tup, isi_bool_l, isi_bool_f, isi_int_non, isi_int_bl, isi_int_int, isi_int_str, isi_int_tup, isi_int_l, isi_int_f, isi_str_non, isi_str_bl, isi_str_int, isi_str_str, isi_str_tup, isi_str_l, isi_str_f, isi_dict_non, isi_dict_bl, isi_dict_int, isi_dict_str, isi_dict_tup, isi_dict_l, isi_dict_f, Ab.isNon, args, List.map, List.length_cons, List.length_nil, List.length_singleton, List.replicate, Nat.reduceSub, Nat.reduceAdd, Nat.zero_add, List.cons_append, List.nil_append, List.getElem?_cons_zero, List.getElem?_cons_succ, List.set_cons_zero, List.set_cons_succ, Option.some.injEq, decide_eq_true_eq, Bool.not_eq_true', decide_eq_false_iff_not, ite_true, ite_false, if_true, if_false, reduceIte, Bool.false_eq_true, Bool.not_true, Bool.not_false, Bool.true_eq_false, decide_true, decide_false, Nat.reduceLeDiff, Nat.reduceLT, q]
      by_cases c : i < j
      · simp (decide := true) only [sat_ok, sat_bad, sat_bind, sat_ite, bind_ok, bind_bad, thn_nx, thn_rt, thn_bk, thn_ct, fin_rt, fin_nx, ev_v, ev_c, ev_op, ev_un, ev_nil, ev_cons, ev_tup, ev_lst, ev_call, ev_own, ev_sl, ev_no, ev_part, ev_and, ev_or, ev_not, ev_if, ev_t, ev_tb, ev_tnot, ev_tand, ev_tor, ev_mt, ev_mt0, ev_rgd, ev_set, ev_asg, ev_ret, ev_retN, ev_ex, ev_pass, ev_brk, ev_cont, ev_ifS, ev_aug, ev_gn, ev_gtp, ev_gnl, ev_gcs, ev_gsb, ev_for, ev_rg1, ev_rg2, ev_its, ev_enum, ev_lc, ev_yes, ev_add_ii, ev_add_ss, ev_add_tt, ev_add_rr, ev_sub, ev_mul, ev_mod, ev_fdiv, ev_pow, ev_neg, ev_lt, ev_le, ev_gt, ev_ge, ev_eq_ii, ev_eq_ss, ev_eq_bb, ev_ne_ii, ev_ne_ss, ev_ne_bb, ev_is_n, ev_isnt_n, ev_int_i, ev_int_b, ev_min_ii, ev_max_ii, ev_abs, ev_tup_of, ev_tup_ofL, ev_lst_ofT, ev_lst_ofL, ev_len_t, ev_len_s, ev_len_r, ev_tru_b, ev_alloc, ev_tupD, ev_lstD, isi_tuple_non, isi_tuple_bl, isi_tuple_int, isi_tuple_str, isi_tuple_tup, isi_tuple_l, isi_tuple_f, isi_list_non, isi_list_bl, isi_list_int, isi_list_str, isi_list_tup, isi_list_l, isi_list_f, isi_bool_non, isi_bool_bl, isi_bool_int, isi_bool_str, isi_bool_tup, isi_bool_l, isi_bool_f, isi_int_non, isi_int_bl, isi_int_int, isi_int_str, isi_int_tup, isi_int_l, isi_int_f, isi_str_non, isi_str_bl, isi_str_int, isi_str_str, isi_str_tup, isi_str_l, isi_str_f, isi_dict_non, isi_dict_bl, isi_dict_int, isi_dict_str, isi_dict_tup, isi_dict_l, isi_dict_f, Ab.isNon, args, List.map, List.length_cons, List.length_nil, List.length_singleton, List.replicate, Nat.reduceSub, Nat.reduceAdd, Nat.zero_add, List.cons_append, List.nil_append, List.getElem?_cons_zero, List.getElem?_cons_succ, List.set_cons_zero, List.set_cons_succ, Option.some.injEq, decide_eq_true_eq, Bool.not_eq_true', decide_eq_false_iff_not, ite_true, ite_false, if_true, if_false, reduceIte, Bool.false_eq_true, Bool.not_true, Bool.not_false, Bool.true_eq_false, decide_true, decide_false, Nat.reduceLeDiff, Nat.reduceLT, c]; exact ⟨by rw [decide_eq_true (by omega : i ≤ j)], Gr.app.trans .app⟩
      · simp (decide := true) only [sat_ok, sat_bad, sat_bind, sat_ite, bind_ok, bind_bad, thn_nx, thn_rt, thn_bk, thn_ct, fin_rt, fin_nx, ev_v, ev_c, ev_op, ev_un, ev_nil, ev_cons, ev_tup, ev_lst, ev_call, ev_own, ev_sl, ev_no, ev_part, ev_and, ev_or, ev_not, ev_if, ev_t, ev_tb, ev_tnot, ev_tand, ev_tor, ev_mt, ev_mt0, ev_rgd, ev_set, ev_asg, ev_ret, ev_retN, ev_ex, ev_pass, ev_brk, ev_cont, ev_ifS, ev_aug, ev_gn, ev_gtp, ev_gnl, ev_gcs, ev_gsb, ev_for, ev_rg1, ev_rg2, ev_its, ev_enum, ev_lc, ev_yes, ev_add_ii, ev_add_ss, ev_add_tt, ev_add_rr, ev_sub, ev_mul, ev_mod, ev_fdiv, ev_pow, ev_neg, ev_lt, ev_le, ev_gt, ev_ge, ev_eq_ii, ev_eq_ss, ev_eq_bb, ev_ne_ii, ev_ne_ss, ev_ne_bb, ev_is_n, ev_isnt_n, ev_int_i, ev_int_b, ev_min_ii, ev_max_ii, ev_abs, ev_tup_of, ev_tup_ofL, ev_lst_ofT, ev_lst_ofL, ev_len_t, ev_len_s, ev_len_r, ev_tru_b, ev_alloc, ev_tupD, ev_lstD, isi_tuple_non, isi_tuple_bl, isi_tuple_int, isi_tuple_str, isi_tuple_tup, isi_tuple_l, isi_tuple_f, isi_list_non, isi_list_bl, isi_list_int, isi_list_str, isi_list_tup, isi_list_l, isi_list_f, isi_bool_non, isi_bool_bl, isi_bool_int, isi_bool_str, isi_bool_tup, isi_bool_l, isi_bool_f, isi_int_non, isi_int_bl, isi_int_int, isi_int_str, isi_int_tup, isi_int_l, isi_int_f, isi_str_non, isi_str_bl, isi_str_int, isi_str_str, isi_str_tup, isi_str_l, isi_str_f, isi_dict_non, isi_dict_bl, isi_dict_int, isi_dict_str, isi_dict_tup, isi_dict_l, isi_dict_f, Ab.isNon, args, List.map, List.length_cons, List.length_nil, List.length_singleton, List.replicate, Nat.reduceSub, Nat.reduceAdd, Nat.zero_add, List.cons_append, List.nil_append, List.getElem?_cons_zero, List.getElem?_cons_succ, List.set_cons_zero, List.set_cons_succ, Option.some.injEq, decide_eq_true_eq, Bool.not_eq_true', decide_eq_false_iff_not, ite_true, ite_false, if_true, if_false, reduceIte, Bool.false_eq_true, Bool.not_true, Bool.not_false, Bool.true_eq_false, decide_true, decide_false, Nat.reduceLeDiff, Nat.reduceLT, c]; exact ⟨by congr 1; exact decide_eq_decide.mpr (by omega), Gr.app.trans .app⟩
  | ne =>
    obtain ⟨i, rfl, hi⟩ := h1; obtain ⟨j, rfl, hj⟩ := h2
    refine ⟨.bl (!decide (i = j)), ⟨_, rfl⟩, fin _ fun A => sat_body rfl (sat_seq ?_), fun A x y => ?_⟩
    · simp (decide := true) only [sat_ok, sat_bad, sat_bind, sat_ite, bind_ok, bind_bad, thn_nx, thn_rt, thn_bk, thn_ct, fin_rt, fin_nx, ev_v, ev_c, ev_op, ev_un, ev_nil, ev_cons, ev_tup, ev_lst, ev_call, ev_own, ev_sl, ev_no, ev_part, ev_and, ev_or, ev_not, ev_if, ev_t, ev_tb, ev_tnot, ev_tand, ev_tor, ev_mt, ev_mt0, ev_rgd, ev_set, ev_asg, ev_ret, ev_retN, ev_ex, ev_pass, ev_brk, ev_cont, ev_ifS, ev_aug, ev_gn, ev_gtp, ev_gnl, ev_gcs, ev_gsb, ev_for, ev_rg1, ev_rg2, ev_its, ev_enum, ev_lc, ev_yes, ev_add_ii, ev_add_ss, ev_add_tt, ev_add_rr, ev_sub, ev_mul, ev_mod, ev_fdiv, ev_pow, ev_neg, ev_lt, ev_le, ev_gt, ev_ge, ev_eq_ii, ev_eq_ss, ev_eq_bb, ev_ne_ii, ev_ne_ss, ev_ne_bb, ev_is_n, ev_isnt_n, ev_int_i, ev_int_b, ev_min_ii, ev_max_ii, ev_abs, ev_tup_of, ev_tup_ofL, ev_lst_ofT, ev_lst_ofL, ev_len_t, ev_len_s, ev_len_r, ev_tru_b, ev_alloc, ev_tupD, ev_lstD, isi_tuple_non, isi_tuple_bl, isi_tuple_int, isi_tuple_str, isi_tuple_tup, isi_tuple_l, isi_tuple_f, isi_list_non, isi_list_bl, isi_list_int, isi_list_str, isi_list_tup, isi_list_l, isi_list_f, isi_bool_non, isi_bool_bl, isi_bool_int, isi_bool_str, isi_bool_tup, isi_bool_l, isi_bool_f, isi_int_non, isi_int_bl, isi_int_int, isi_int_str, isi_int_tup, isi_int_l, isi_int_f, isi_str_non, isi_str_bl, isi_str_int, isi_str_str, isi_str_tup, isi_str_l, isi_str_f, isi_dict_non, isi_dict_bl, isi_dict_int, isi_dict_str, isi_dict_tup, isi_dict_l, isi_dict_f, Ab.isNon, args, List.map, List.length_cons, List.length_nil, List.length_singleton, List.replicate, Nat.reduceSub, Nat.reduceAdd, Nat.zero_add, List.cons_append, List.nil_append, List.getElem?_cons_zero, List.getElem?_cons_succ, List.set_cons_zero, List.set_cons_succ, Option.some.injEq, decide_eq_true_eq, Bool.not_eq_true', decide_eq_false_iff_not, ite_true, ite_false, if_true, if_false, reduceIte, Bool.false_eq_true, Bool.not_true, Bool.not_false, Bool.true_eq_false, decide_true, decide_false, Nat.reduceLeDiff, Nat.reduceLT]
      refine sat_seq ?_; simp (decide := true) only [sat_ok, sat_bad, sat_bind, sat_ite, bind_ok, bind_bad, thn_nx, thn_rt, thn_bk, thn_ct, fin_rt, fin_nx, ev_v, ev_c, ev_op, ev_un, ev_nil, ev_cons, ev_tup, ev_lst, ev_call, ev_own, ev_sl, ev_no, ev_part, ev_and, ev_or, ev_not, ev_if, ev_t, ev_tb, ev_tnot, ev_tand, ev_tor, ev_mt, ev_mt0, ev_rgd, ev_set, ev_asg, ev_ret, ev_retN, ev_ex, ev_pass, ev_brk, ev_cont, ev_ifS, ev_aug, ev_gn, ev_gtp, ev_gnl, ev_gcs, ev_gsb, ev_for, ev_rg1, ev_rg2, ev_its, ev_enum, ev_lc, ev_yes, ev_add_ii, ev_add_ss, ev_add_tt, ev_add_rr, ev_sub, ev_mul, ev_mod, ev_fdiv, ev_pow, ev_neg, ev_lt, ev_le, ev_gt, ev_ge, ev_eq_ii, ev_eq_ss, ev_eq_bb, ev_ne_ii, ev_ne_ss, ev_ne_bb, ev_is_n, ev_isnt_n, ev_int_i, ev_int_b, ev_min_ii, ev_max_ii, ev_abs, ev_tup_of, ev_tup_ofL, ev_lst_ofT, ev_lst_ofL, ev_len_t, ev_len_s, ev_len_r, ev_tru_b, ev_alloc, ev_tupD, ev_lstD, isi_tuple_non, isi_tuple_bl, isi_tuple_int, isi_tuple_str, isi_tuple_tup, isi_tuple_l, isi_tuple_f, isi_list_non, isi_list_bl, isi_list_int, isi_list_str, isi_list_tup, isi_list_l, isi_list_f, isi_bool_non, isi_bool_bl, isi_bool_int, isi_bool_str, isi_bool_tup, isi_bool_l, isi_bool_f, isi_int_non, isi_int_bl, isi_int_int, isi_int_str, isi_int_tup, isi_int_l, isi_int_f, isi_str_non, isi_str_bl, isi_str_int, isi_str_str, isi_str_tup, isi_str_l, isi_str_f, isi_dict_non, isi_dict_bl, isi_dict_int, isi_dict_str, isi_dict_tup, isi_dict_l, isi_dict_f, Ab.isNon, args, List.map, List.length_cons, List.length_nil, List.length_singleton, List.replicate, Nat.reduceSub, Nat.reduceAdd, Nat.zero_add, List.cons_append, List.nil_append, List.getElem?_cons_zero, List.getElem?_cons_succ, List.set_cons_zero, List.set_cons_succ, Option.some.injEq, decide_eq_true_eq, Bool.not_eq_true', decide_eq_false_iff_not, ite_true, ite_false, if_true, if_false, reduceIte, Bool.false_eq_true, Bool.not_true, Bool.not_false, Bool.true_eq_false, decide_true, decide_false, Nat.reduceLeDiff, Nat.reduceLT]
      refine sat_seq ?_; simp (decide := true) only [sat_ok, sat_bad, sat_bind, sat_ite, bind_ok, bind_bad, thn_nx, thn_rt, thn_bk, thn_ct, fin_rt, fin_nx, ev_v, ev_c, ev_op, ev_un, ev_nil, ev_cons, ev_tup, ev_lst, ev_call, ev_own, ev_sl, ev_no, ev_part, ev_and, ev_or, ev_not, ev_if, ev_t, ev_tb, ev_tnot, ev_tand, ev_tor, ev_mt, ev_mt0, ev_rgd, ev_set, ev_asg, ev_ret, ev_retN, ev_ex, ev_pass, ev_brk, ev_cont, ev_ifS, ev_aug, ev_gn, ev_gtp, ev_gnl, ev_gcs, ev_gsb, ev_for, ev_rg1, ev_rg2, ev_its, ev_enum, ev_lc, ev_yes, ev_add_ii, ev_add_ss, ev_add_tt, ev_add_rr, ev_sub, ev_mul, ev_mod, ev_fdiv, ev_pow, ev_neg, ev_lt, ev_le, ev_gt, ev_ge, ev_eq_ii, ev_eq_ss, ev_eq_bb, ev_ne_ii, ev_ne_ss, ev_ne_bb, ev_is_n, ev_isnt_n, ev_int_i, ev_int_b, ev_min_ii, ev_max_ii, ev_abs, ev_tup_of, ev_tup_ofL, ev_lst_ofT, ev_lst_ofL, ev_len_t, ev_len_s, ev_len_r, ev_tru_b, ev_alloc, ev_tupD, ev_lstD, isi_tuple_non, isi_tuple_bl, isi_tuple_int, isi_tuple_str, isi_tuple_tup, isi_tuple_l, isi_tuple_f, isi_list_non, isi_list_bl, isi_list_int, isi_list_str, isi_list_tup, isi_list_l, isi_list_f, isi_bool_non, isi_bool_bl, isi_bool_int, isi_bool_str, isi_bool_tup, isi_bool_l, isi_bool_f, isi_int_non, isi_int_bl, isi_int_int, isi_int_str, isi_int_tup, isi_int_l, isi_int_f, isi_str_non, isi_str_bl, isi_str_int, isi_str_str, isi_str_tup, isi_str_l, isi_str_f, isi_dict_non, isi_dict_bl, isi_dict_int, isi_dict_str, isi_dict_tup, isi_dict_l, isi_dict_f, Ab.isNon, args, List.map, List.length_cons, List.length_nil, List.length_singleton, List.replicate, Nat.reduceSub, Nat.reduceAdd, Nat.zero_add, List.cons_append, List.nil_append, List.getElem?_cons_zero, List.getElem?_cons_succ, List.set_cons_zero, List.set_cons_succ, Option.some.injEq, decide_eq_true_eq, Bool.not_eq_true', decide_eq_false_iff_not, ite_true, ite_false, if_true, if_false, reduceIte, Bool.false_eq_true, Bool.not_true, Bool.not_false, Bool.true_eq_false, decide_true, decide_false, Nat.reduceLeDiff, Nat.reduceLT]
      refine sat_seq ?_; simp (decide := true) only [sat_ok, sat_bad, sat_bind, sat_ite, bind_ok, bind_bad, thn_nx, thn_rt, thn_bk, thn_ct, fin_rt, fin_nx, ev_v, ev_c, ev_op, ev_un, ev_nil, ev_cons, ev_tup, ev_lst, ev_call, ev_own, ev_sl, ev_no, ev_part, ev_and, ev_or, ev_not, ev_if, ev_t, ev_tb, ev_tnot, ev_tand, ev_tor, ev_mt, ev_mt0, ev_rgd, ev_set, ev_asg, ev_ret, ev_retN, ev_ex, ev_pass, ev_brk, ev_cont, ev_ifS, ev_aug, ev_gn, ev_gtp, ev_gnl, ev_gcs, ev_gsb, ev_for, ev_rg1, ev_rg2, ev_its, ev_enum, ev_lc, ev_yes, ev_add_ii, ev_add_ss, ev_add_tt, ev_add_rr, ev_sub, ev_mul, ev_mod, ev_fdiv, ev_pow, ev_neg, ev_lt, ev_le, ev_gt, ev_ge, ev_eq_ii, ev_eq_ss, ev_eq_bb, ev_ne_ii, ev_ne_ss, ev_ne_bb, ev_is_n, ev_isnt_n, ev_int_i, ev_int_b, ev_min_ii, ev_max_ii, ev_abs, ev_tup_of, ev_tup_ofL, ev_lst_ofT, ev_lst_ofL, ev_len_t, ev_len_s, ev_len_r, ev_tru_b, ev_alloc, ev_tupD, ev_lstD, isi_tuple_non, isi_tuple_bl, isi_tuple_int, isi_tuple_str, isi_tuple_tup, isi_tuple_l, isi_tuple_f, isi_list_non, isi_list_bl, isi_list_int, isi_list_str, isi_list_tup, isi_list_l, isi_list_f, isi_bool_non, isi_bool_bl, isi_bool_int, isi_bool_str, isi_bool_tup, isi_bool_l, isi_bool_f, isi_int_non, isi_int_bl, isi_int_int, isi_int_str, isi_int_tup, isi_int_l, isi_int_f, isi_str_non, isi_str_bl, isi_str_int, isi_str_str, isi_str_tup, isi_str_l, isi_str_f, isi_dict_non, isi_dict_bl, isi_dict_int, isi_dict_str, isi_dict_tup, isi_dict_l, isi_dict_f, Ab.isNon, args, List.map, List.length_cons, List.length_nil, List.length_singleton, List.replicate, Nat.reduceSub, Nat.reduceAdd, Nat.zero_add, List.cons_append, List.nil_append, List.getElem?_cons_zero, List.getElem?_cons_succ, List.set_cons_zero, List.set_cons_succ, Option.some.injEq, decide_eq_true_eq, Bool.not_eq_true', decide_eq_false_iff_not, ite_true, ite_false, if_true, if_false, reduceIte, Bool.false_eq_true, Bool.not_true, Bool.not_false, Bool.true_eq_false, decide_true, decide_false, Nat.reduceLeDiff, Nat.reduceLT]
      refine sat_seq ?_; simp (decide := true) only [sat_ok, sat_bad, sat_bind, sat_ite, bind_ok, bind_bad, thn_nx, thn_rt, thn_bk, thn_ct, fin_rt, fin_nx, ev_v, ev_c, ev_op, ev_un, ev_nil, ev_cons, ev_tup, ev_lst, ev_call, ev_own, ev_sl, ev_no, ev_part, ev_and, ev_or, ev_not, ev_if, ev_t, ev_tb, ev_tnot, ev_tand, ev_tor, ev_mt, ev_mt0, ev_rgd, ev_set, ev_asg, ev_ret, ev_retN, ev_ex, ev_pass, ev_brk, ev_cont, ev_ifS, ev_aug, ev_gn, ev_gtp, ev_gnl, ev_gcs, ev_gsb, ev_for, ev_rg1, ev_rg2, ev_its, ev_enum, ev_lc, ev_yes, ev_add_ii, ev_add_ss, ev_add_tt, ev_add_rr, ev_sub, ev_mul, ev_mod, ev_fdiv, ev_pow, ev_neg, ev_lt, ev_le, ev_gt, ev_ge, ev_eq_ii, ev_eq_ss, ev_eq_bb, ev_ne_ii, ev_ne_ss, ev_ne_bb, ev_is_n, ev_isnt_n, ev_int_i, ev_int_b, ev_min_ii, ev_max_ii, ev_abs, ev_tup_of, ev_tup_ofL, ev_lst_ofT, ev_lst_ofL, ev_len_t, ev_len_s, ev_len_r, ev_tru_b, ev_alloc, ev_tupD, ev_lstD, isi_tuple_non, isi_tuple_bl, isi_tuple_int, isi_tuple_str, isi_tuple_tup, isi_tuple_l, isi_tuple_f, isi_list_non, isi_list_bl, isi_list_int, isi_list_str, isi_list_tup, isi_list_l, isi_list_f, isi_bool_non, isi_bool_bl, isi_bool_int, isi_bool_str, isi_bool_tup, isi_bool_l, isi_bool_f, isi_int_non, isi_int_bl, isi_int_int, isi_int_str, isi_int_tup, isi_int_l, isi_int_f, isi_str_non, isi_str_bl, isi_str_int, isi_str_str, isi_str_tup, isi_str_l, isi_str_f, isi_dict_non, isi_dict_bl, isi_dict_int, isi_dict_str, isi_dict_tup, isi_dict_l, isi_dict_f, Ab.isNon, args, List.map, List.length_cons, List.length_nil, List.length_singleton, List.replicate, Nat.reduceSub, Nat.reduceAdd, Nat.zero_add, List.cons_append, List.nil_append, List.getElem?_cons_zero, List.getElem?_cons_succ, List.set_cons_zero, List.set_cons_succ, Option.some.injEq, decide_eq_true_eq, Bool.not_eq_true', decide_eq_false_iff_not, ite_true, ite_false, if_true, if_false, reduceIte, Bool.false_eq_true, Bool.not_true, Bool.not_false, Bool.true_eq_false, decide_true, decide_false, Nat.reduceLeDiff, Nat.reduceLT]
      refine sat_seq ?_; simp (decide := true) only [sat_ok, sat_bad, sat_bind, sat_ite, bind_ok, bind_bad, thn_nx, thn_rt, thn_bk, thn_ct, fin_rt, fin_nx, ev_v, ev_c, ev_op, ev_un, ev_nil, ev_cons, ev_tup, ev_lst, ev_call, ev_own, ev_sl, ev_no, ev_part, ev_and, ev_or, ev_not, ev_if, ev_t, ev_tb, ev_tnot, ev_tand, ev_tor, ev_mt, ev_mt0, ev_rgd, ev_set, ev_asg, ev_ret, ev_retN, ev_ex, ev_pass, ev_brk, ev_cont, ev_ifS, ev_aug, ev_gn, ev_gtp, ev_gnl, ev_gcs, ev_gsb, ev_for, ev_rg1, ev_rg2, ev_its, ev_enum, ev_lc, ev_yes, ev_add_ii, ev_add_ss, ev_add_tt, ev_add_rr, ev_sub, ev_mul, ev_mod, ev_fdiv, ev_pow, ev_neg, ev_lt, ev_le, ev_gt, ev_ge, ev_eq_ii, ev_eq_ss, ev_eq_bb, ev_ne_ii, ev_ne_ss, ev_ne_bb, ev_is_n, ev_isnt_n, ev_int_i, ev_int_b, ev_min_ii, ev_max_ii, ev_abs, ev_tup_of, ev_tup_ofL, ev_lst_ofT, ev_lst_ofL, ev_len_t, ev_len_s, ev_len_r, ev_tru_b, ev_alloc, ev_tupD, ev_lstD, isi_tuple_non, isi_tuple_bl, isi_tuple_int, isi_tuple_str, isi_tuple_tup, isi_tuple_l, isi_tuple_f, isi_list_non, isi_list_bl, isi_list_int, isi_list_str, isi_list_tup, isi_list_l, isi_list_f, isi_bool_non, isi_bool_bl, isi_bool_int, isi_bool_str, isi_bool_tup, isi_bool_l, isi_bool_f, isi_int_non, isi_int_bl, isi_int_int, isi_int_str, isi_int_tup, isi_int_l, isi_int_f, isi_str_non, isi_str_bl, isi_str_int, isi_str_str, isi_str_tup, isi_str_l, isi_str_f, isi_dict_non, isi_dict_bl, isi_dict_int, isi_dict_str, isi_dict_tup, isi_dict_l, isi_dict_f, Ab.isNon, args, List.map, List.length_cons, List.length_nil, List.length_singleton, List.replicate, Nat.reduceSub, Nat.reduceAdd, Nat.zero_add, List.cons_append, List.nil_append, List.getElem?_cons_zero, List.getElem?_cons_succ, List.set_cons_zero, List.set_cons_succ, Option.some.injEq, decide_eq_true_eq, Bool.not_eq_true', decide_eq_false_iff_not, ite_true, ite_false, if_true, if_false, reduceIte, Bool.false_eq_true, Bool.not_true, Bool.not_false, Bool.true_eq_false, decide_true, decide_false, Nat.reduceLeDiff, Nat.reduceLT]
    · unfold vtail; refine sat_seq ?_
      have q := fun A => pick A "!=" false (by decide)
      simp (decide := true) only [sat_ok, sat_bad, sat_bind, sat_ite, bind_ok, bind_bad, thn_nx, thn_rt, thn_bk, thn_ct, fin_rt, fin_nx, ev_v, ev_c, ev_op, ev_un, ev_nil, ev_cons, ev_tup, ev_lst, ev_call, ev_own, ev_sl, ev_no, ev_part, ev_and, ev_or, ev_not, ev_if, ev_t, ev_tb, ev_tnot, ev_tand, ev_tor, ev_mt, ev_mt0, ev_rgd, ev_set, ev_asg, ev_ret, ev_retN, ev_ex, ev_pass, ev_brk, ev_cont, ev_ifS, ev_aug, ev_gn, ev_gtp, ev_gnl, ev_gcs, ev_gsb, ev_for, ev_rg1, ev_rg2, ev_its, ev_enum, ev_lc, ev_yes, ev_add_ii, ev_add_ss, ev_add_tt, ev_add_rr, ev_sub, ev_mul, ev_mod, ev_fdiv, ev_pow, ev_neg, ev_lt, ev_le, ev_gt, ev_ge, ev_eq_ii, ev_eq_ss, ev_eq_bb, ev_ne_ii, ev_ne_ss, ev_ne_bb, ev_is_n, ev_isnt_n, ev_int_i, ev_int_b, ev_min_ii, ev_max_ii, ev_abs, ev_tup_of, ev_tup_ofL, ev_lst_ofT, ev_lst_ofL, ev_len_t, ev_len_s, ev_len_r, ev_tru_b, ev_alloc, ev_tupD, ev_lstD, isi_tuple_non, isi_tuple_bl, isi_tuple_int, isi_tuple_str, isi_tuple_tup, isi_tuple_l, isi_tuple_f, isi_list_non, isi_list_bl, isi_list_int, isi_list_str, isi_list_tup, isi_list_l, isi_list_f, isi_bool_non, isi_bool_bl, isi_bool_int, isi_bool_str, isi_bool_tup, isi_bool_l, isi_bool_f, isi_int_non, isi_int_bl, isi_int_int, isi_int_str, isi_int_tup, isi_int_l, isi_int_f, isi_str_non, isi_str_bl, isi_str_int, isi_str_str, isi_str_tup, isi_str_l, isi_str_f, isi_dict_non, isi_dict_bl, isi_dict_int, isi_dict_str, isi_dict_tup, isi_dict_l, isi_dict_f, Ab.isNon, args, List.map, List.length_cons, List.length_nil, List.length_singleton, List.replicate, Nat.reduceSub, Nat.reduceAdd, Nat.zero_add, List.cons_append, List.nil_append, List.getElem?_cons_zero, List.getElem?_cons_succ, List.set_cons_zero, List.set_cons_succ, Option.some.injEq, decide_eq_true_eq, Bool.not_eq_true', decide_eq_false_iff_not, ite_true, ite_false, if_true, if_false, reduceIte, Bool.false_eq_true, Bool.not_true, Bool.not_false, Bool.true_eq_false, decide_true, decide_false, Nat.reduceLeDiff, Nat.reduceLT, q]
      refine sat_seq ?_
      have q := fun A => pick2 A "!=" false (by decide)
      simp (decide := true) only [sat_ok, sat_bad, sat_bind, sat_ite, bind_ok, bind_bad, thn_nx, thn_rt, thn_bk, thn_ct, fin_rt, fin_nx, ev_v, ev_c, ev_op, ev_un, ev_nil, ev_cons, ev_tup, ev_lst, ev_call, ev_own, ev_sl, ev_no, ev_part, ev_and, ev_or, ev_not, ev_if, ev_t, ev_tb, ev_tnot, ev_tand, ev_tor, ev_mt, ev_mt0, ev_rgd, ev_set, ev_asg, ev_ret, ev_retN, ev_ex, ev_pass, ev_brk, ev_cont, ev_ifS, ev_aug, ev_gn, ev_gtp, ev_gnl, ev_gcs, ev_gsb, ev_for, ev_rg1, ev_rg2, ev_its, ev_enum, ev_lc, ev_yes, ev_add_ii, ev_add_ss, ev_add_tt, ev_add_rr, ev_sub, ev_mul, ev_mod, ev_fdiv, ev_pow, ev_neg, ev_lt, ev_le, ev_gt, ev_ge, ev_eq_ii, ev_eq_ss, ev_eq_bb, ev_ne_ii, ev_ne_ss, ev_ne_bb, ev_is_n, ev_isnt_n, ev_int_i, ev_int_b, ev_min_ii, ev_max_ii, ev_abs, ev_tup_of, ev_tup_ofL, ev_lst_ofT, ev_lst_ofL, ev_len_t, ev_len_s, ev_len_r, ev_tru_b, ev_alloc, ev_tupD, ev_lstD, isi_tuple_non, isi_tuple_bl, isi_tuple_int, isi_tuple_str, isi_tuple_tup, isi_tuple_l, isi_tuple_f, isi_list_non, isi_list_bl, isi_list_int, isi_list_str, isi_list_tup, isi_list_l, isi_list_f, isi_bool_non, isi_bool_bl, isi_bool_int, isi_bool_str, isi_bool_tup, isi_bool_l, isi_bool_f, isi_int_non, isi_int_bl, isi_int_int, isi_int_str, isi_int_tup, isi_int_l, isi_int_f, isi_str_non, isi_str_bl, isi_str_int, isi_str_str, isi_str_tup, isi_str_l, isi_str_f, isi_dict_non, isi_dict_bl, isi_dict_int, isi_dict_str, isi_dict_tup, isi_dict_l, isi_dict_f, Ab.isNon, args, List.map, List.length_cons, List.length_nil, List.length_singleton, List.replicate, Nat.reduceSub, Nat.reduceAdd, Nat.zero_add, List.cons_append, List.nil_append, List.getElem?_cons_zero, List.getElem?_cons_succ, List.set_cons_zero, List.set_cons_succ, Option.some.injEq, decide_eq_true_eq, Bool.not_eq_true', decide_eq_false_iff_not, ite_true, ite_false, if_true, if_false, reduceIte, Bool.false_eq_true, Bool.not_true, Bool.not_false, Bool.true_eq_false, decide_true, decide_false, Nat.reduceLeDiff, Nat.reduceLT, q]
      refine sat_seq ?_; simp (decide := true) only [sat_ok, sat_bad, sat_bind, sat_ite, bind_ok, bind_bad, thn_nx, thn_rt, thn_bk, thn_ct, fin_rt, fin_nx, ev_v, ev_c, ev_op, ev_un, ev_nil, ev_cons, ev_tup, ev_lst, ev_call, ev_own, ev_sl, ev_no, ev_part, ev_and, ev_or, ev_not, ev_if, ev_t, ev_tb, ev_tnot, ev_tand, ev_tor, ev_mt, ev_mt0, ev_rgd, ev_set, ev_asg, ev_ret, ev_retN, ev_ex, ev_pass, ev_brk, ev_cont, ev_ifS, ev_aug, ev_gn, ev_gtp, ev_gnl, ev_gcs, ev_gsb, ev_for, ev_rg1, ev_rg2, ev_its, ev_enum, ev_lc, ev_yes, ev_add_ii, ev_add_ss, ev_add_tt, ev_add_rr, ev_sub, ev_mul, ev_mod, ev_fdiv, ev_pow, ev_neg, ev_lt, ev_le, ev_gt, ev_ge, ev_eq_ii, ev_eq_ss, ev_eq_bb, ev_ne_ii, ev_ne_ss, ev_ne_bb, ev_is_n, ev_isnt_n, ev_int_i, ev_int_b, ev_min_ii, ev_max_ii, ev_abs, ev_tup_of, ev_tup_ofL, ev_lst_ofT, ev_lst_ofL, ev_len_t, ev_len_s, ev_len_r, ev_tru_b, ev_alloc, ev_tupD, ev_lstD, isi_tuple_non, isi_tuple_bl, isi_tuple_int, isi_tuple_str, isi_tuple_tup, isi_tuple_l, isi_tuple_f, isi_list_non, isi_list_bl, isi_list_int, isi_list_str, isi_list_tup, isi_list_l, isi_list_f, isi_bool_non, isi_bool_bl, isi_bool_int, isi_bool_str, isi_bool_tup, isi_bool_l, isi_bool_f, isi_int_non, isi_int_bl, isi_int_int, isi_int_str, isi_int_tup, isi_int_l, isi_int_f, isi_str_non, isi_str_bl, isi_str_int, isi_str_str, isi_str_tup, isi_str_l, isi_str_f, isi_dict_non, isi_dict_bl, isi_dict_int, isi_dict_str, isi_dict_tup, isi_dict_l, isi_dict_f, Ab.isNon, args, List.map, List.length_cons, List.length_nil, List.length_singleton, List.replicate, Nat.reduceSub, Nat.reduceAdd, Nat.zero_add, List.cons_append, List.nil_append, List.getElem?_cons_zero, List.getElem?_cons_succ, List.set_cons_zero, List.set_cons_succ, Option.some.injEq, decide_eq_true_eq, Bool.not_eq_true', decide_eq_false_iff_not, ite_true, ite_false, if_true, if_false, reduceIte, Bool.false_eq_true, Bool.not_true, Bool.not_false, Bool.true_eq_false, decide_true, decide_false, Nat.reduceLeDiff, Nat.reduceLT]
      refine sat_seq ?_; simp (decide := true) only [sat_ok, sat_bad, sat_bind, sat_ite, bind_ok, bind_bad, thn_nx, thn_rt, thn_bk, thn_ct, fin_rt, fin_nx, ev_v, ev_c, ev_op, ev_un, ev_nil, ev_cons, ev_tup, ev_lst, ev_call, ev_own, ev_sl, ev_no, ev_part, ev_and, ev_or, ev_not, ev_if, ev_t, ev_tb, ev_tnot, ev_tand, ev_tor, ev_mt, ev_mt0, ev_rgd, ev_set, ev_asg, ev_ret, ev_retN, ev_ex, ev_pass, ev_brk, ev_cont, ev_ifS, ev_aug, ev_gn, ev_gtp, ev_gnl, ev_gcs, ev_gsb, ev_for, ev_rg1, ev_rg2, ev_its, ev_enum, ev_lc, ev_yes, ev_add_ii, ev_add_ss, ev_add_tt, ev_add_rr, ev_sub, ev_mul, ev_mod, ev_fdiv, ev_pow, ev_neg, ev_lt, ev_le, ev_gt, ev_ge, ev_eq_ii, ev_eq_ss, ev_eq_bb, ev_ne_ii, ev_ne_ss, ev_ne_bb, ev_is_n, ev_isnt_n, ev_int_i, ev_int_b, ev_min_ii, ev_max_ii, ev_abs, ev_tup_of, ev_tup_ofL, ev_lst_ofT, ev_lst_ofL, ev_len_t, ev_len_s, ev_len_r, ev_tru_b, ev_alloc, ev_tupD, ev_lstD, isi_tuple_non, isi_tuple_bl, isi_tuple_int, isi_tuple_str, isi_tuple_tup, isi_tuple_l, isi_tuple_f, isi_list_non, isi_list_bl, isi_list_int, isi_list_str, isi_list_tup, isi_list_l, isi_list_f, isi_bool_non, isi_bool_bl, isi_bool_int, isi_bool_str, isi_bool_tup, isi_bool_l, isi_bool_f, isi_int_non, isi_int_bl, isi_int_int, isi_int_str, isi_int_tup, isi_int_l, isi_int_f, isi_str_non, isi_str_bl, isi_str_int, isi_str_str, isi_str_tup, isi_str_l, isi_str_f, isi_dict_non, isi_dict_bl, isi_dict_int, isi_dict_str, isi_dict_tup, isi_dict_l, isi_dict_f, Ab.isNon, args, List.map, List.length_cons, List.length_nil, List.length_singleton, List.replicate, Nat.reduceSub, Nat.reduceAdd, Nat.zero_add, List.cons_append, List.nil_append, List.getElem?_cons_zero, List.getElem?_cons_succ, List.set_cons_zero, List.set_cons_succ, Option.some.injEq, decide_eq_true_eq, Bool.not_eq_true', decide_eq_false_iff_not, ite_true, ite_false, if_true, if_false, reduceIte, Bool.false_eq_true, Bool.not_true, Bool.not_false, Bool.true_eq_false, decide_true, decide_false, Nat.reduceLeDiff, Nat.reduceLT]
      exact ⟨by simp, Gr.app.trans .app⟩
  | and =>
    obtain ⟨i, rfl⟩ := h1; obtain ⟨j, rfl⟩ := h2
    refine ⟨.bl (i && j), ⟨_, rfl⟩, fin _ fun A => sat_body rfl (sat_seq ?_), fun A x y => ?_⟩
    · simp (decide := true) only [sat_ok, sat_bad, sat_bind, sat_ite, bind_ok, bind_bad, thn_nx, thn_rt, thn_bk, thn_ct, fin_rt, fin_nx, ev_v, ev_c, ev_op, ev_un, ev_nil, ev_cons, ev_tup, ev_lst, ev_call, ev_own, ev_sl, ev_no, ev_part, ev_and, ev_or, ev_not, ev_if, ev_t, ev_tb, ev_tnot, ev_tand, ev_tor, ev_mt, ev_mt0, ev_rgd, ev_set, ev_asg, ev_ret, ev_retN, ev_ex, ev_pass, ev_brk, ev_cont, ev_ifS, ev_aug, ev_gn, ev_gtp, ev_gnl, ev_gcs, ev_gsb, ev_for, ev_rg1, ev_rg2, ev_its, ev_enum, ev_lc, ev_yes, ev_add_ii, ev_add_ss, ev_add_tt, ev_add_rr, ev_sub, ev_mul, ev_mod, ev_fdiv, ev_pow, ev_neg, ev_lt, ev_le, ev_gt, ev_ge, ev_eq_ii, ev_eq_ss, ev_eq_bb, ev_ne_ii, ev_ne_ss, ev_ne_bb, ev_is_n, ev_isnt_n, ev_int_i, ev_int_b, ev_min_ii, ev_max_ii, ev_abs, ev_tup_of, ev_tup_ofL, ev_lst_ofT, ev_lst_ofL, ev_len_t, ev_len_s, ev_len_r, ev_tru_b, ev_alloc, ev_tupD, ev_lstD, isi_tuple_non, isi_tuple_bl, isi_tuple_int, isi_tuple_str, isi_tuple_tup, isi_tuple_l, isi_tuple_f, isi_list_non, isi_list_bl, isi_list_int, isi_list_str, isi_list_tup, isi_list_l, isi_list_f, isi_bool_non, isi_bool_bl, isi_bool_int, isi_bool_str, isi_bool_tup, isi_bool_l, isi_bool_f, isi_int_non, isi_int_bl, isi_int_int, isi_int_str, isi_int_tup, isi_int_l, isi_int_f, isi_str_non, isi_str_bl, isi_str_int, isi_str_str, isi_str_tup, isi_str_l, isi_str_f, isi_dict_non, isi_dict_bl, isi_dict_int, isi_dict_str, isi_dict_tup, isi_dict_l, isi_dict_f, Ab.isNon, args, List.map, List.length_cons, List.length_nil, List.length_singleton, List.replicate, Nat.reduceSub, Nat.reduceAdd, Nat.zero_add, List.cons_append, List.nil_append, List.getElem?_cons_zero, List.getElem?_cons_succ, List.set_cons_zero, List.set_cons_succ, Option.some.injEq, decide_eq_true_eq, Bool.not_eq_true', decide_eq_false_iff_not, ite_true, ite_false, if_true, if_false, reduceIte, Bool.false_eq_true, Bool.not_true, Bool.not_false, Bool.true_eq_false, decide_true, decide_false, Nat.reduceLeDiff, Nat.reduceLT]
      refine sat_seq ?_; simp (decide := true) only [sat_ok, sat_bad, sat_bind, sat_ite, bind_ok, bind_bad, thn_nx, thn_rt, thn_bk, thn_ct, fin_rt, fin_nx, ev_v, ev_c, ev_op, ev_un, ev_nil, ev_cons, ev_tup, ev_lst, ev_call, ev_own, ev_sl, ev_no, ev_part, ev_and, ev_or, ev_not, ev_if, ev_t, ev_tb, ev_tnot, ev_tand, ev_tor, ev_mt, ev_mt0, ev_rgd, ev_set, ev_asg, ev_ret, ev_retN, ev_ex, ev_pass, ev_brk, ev_cont, ev_ifS, ev_aug, ev_gn, ev_gtp, ev_gnl, ev_gcs, ev_gsb, ev_for, ev_rg1, ev_rg2, ev_its, ev_enum, ev_lc, ev_yes, ev_add_ii, ev_add_ss, ev_add_tt, ev_add_rr, ev_sub, ev_mul, ev_mod, ev_fdiv, ev_pow, ev_neg, ev_lt, ev_le, ev_gt, ev_ge, ev_eq_ii, ev_eq_ss, ev_eq_bb, ev_ne_ii, ev_ne_ss, ev_ne_bb, ev_is_n, ev_isnt_n, ev_int_i, ev_int_b, ev_min_ii, ev_max_ii, ev_abs, ev_tup_of, ev_tup_ofL, ev_lst_ofT, ev_lst_ofL, ev_len_t, ev_len_s, ev_len_r, ev_tru_b, ev_alloc, ev_tupD, ev_lstD, isi_tuple_non, isi_tuple_bl, isi_tuple_int, isi_tuple_str, isi_tuple_tup, isi_tuple_l, isi_tuple_f, isi_list_non, isi_list_bl, isi_list_int, isi_list_str, isi_list_tup, isi_list_l, isi_list_f, isi_bool_non, isi_bool_bl, isi_bool_int, isi_bool_str, isi_bool_tup, isi_bool_l, isi_bool_f, isi_int_non, isi_int_bl, isi_int_int, isi_int_str, isi_int_tup, isi_int_l, isi_int_f, isi_str_non, isi_str_bl, isi_str_int, isi_str_str, isi_str_tup, isi_str_l, isi_str_f, isi_dict_non, isi_dict_bl, isi_dict_int, isi_dict_str, isi_dict_tup, isi_dict_l, isi_dict_f, Ab.isNon, args, List.map, List.length_cons, List.length_nil, List.length_singleton, List.replicate, Nat.reduceSub, Nat.reduceAdd, Nat.zero_add, List.cons_append, List.nil_append, List.getElem?_cons_zero, List.getElem?_cons_succ, List.set_cons_zero, List.set_cons_succ, Option.some.injEq, decide_eq_true_eq, Bool.not_eq_true', decide_eq_false_iff_not, ite_true, ite_false, if_true, if_false, reduceIte, Bool.false_eq_true, Bool.not_true, Bool.not_false, Bool.true_eq_false, decide_true, decide_false, Nat.reduceLeDiff, Nat.reduceLT]
      refine sat_seq ?_; simp (decide := true) only [sat_ok, sat_bad, sat_bind, sat_ite, bind_ok, bind_bad, thn_nx, thn_rt, thn_bk, thn_ct, fin_rt, fin_nx, ev_v, ev_c, ev_op, ev_un, ev_nil, ev_cons, ev_tup, ev_lst, ev_call, ev_own, ev_sl, ev_no, ev_part, ev_and, ev_or, ev_not, ev_if, ev_t, ev_tb, ev_tnot, ev_tand, ev_tor, ev_mt, ev_mt0, ev_rgd, ev_set, ev_asg, ev_ret, ev_retN, ev_ex, ev_pass, ev_brk, ev_cont, ev_ifS, ev_aug, ev_gn, ev_gtp, ev_gnl, ev_gcs, ev_gsb, ev_for, ev_rg1, ev_rg2, ev_its, ev_enum, ev_lc, ev_yes, ev_add_ii, ev_add_ss, ev_add_tt, ev_add_rr, ev_sub, ev_mul, ev_mod, ev_fdiv, ev_pow, ev_neg, ev_lt, ev_le, ev_gt, ev_ge, ev_eq_ii, ev_eq_ss, ev_eq_bb, ev_ne_ii, ev_ne_ss, ev_ne_bb, ev_is_n, ev_isnt_n, ev_int_i, ev_int_b, ev_min_ii, ev_max_ii, ev_abs, ev_tup_of, ev_tup_ofL, ev_lst_ofT, ev_lst_ofL, ev_len_t, ev_len_s, ev_len_r, ev_tru_b, ev_alloc, ev_tupD, ev_lstD, isi_tuple_non, isi_tuple_bl, isi_tuple_int, isi_tuple_str, isi_tuple_tup, isi_tuple_l, isi_tuple_f, isi_list_non, isi_list_bl, isi_list_int, isi_list_str, isi_list_tup, isi_list_l, isi_list_f, isi_bool_non, isi_bool_bl, isi_bool_int, isi_bool_str, isi_bool_tup, isi_bool_l, isi_bool_f, isi_int_non, isi_int_bl, isi_int_int, isi_int_str, isi_int_tup, isi_int_l, isi_int_f, isi_str_non, isi_str_bl, isi_str_int, isi_str_str, isi_str_tup, isi_str_l, isi_str_f, isi_dict_non, isi_dict_bl, isi_dict_int, isi_dict_str, isi_dict_tup, isi_dict_l, isi_dict_f, Ab.isNon, args, List.map, List.length_cons, List.length_nil, List.length_singleton, List.replicate, Nat.reduceSub, Nat.reduceAdd, Nat.zero_add, List.cons_append, List.nil_append, List.getElem?_cons_zero, List.getElem?_cons_succ, List.set_cons_zero, List.set_cons_succ, Option.some.injEq, decide_eq_true_eq, Bool.not_eq_true', decide_eq_false_iff_not, ite_true, ite_false, if_true, if_false, reduceIte, Bool.false_eq_true, Bool.not_true, Bool.not_false, Bool.true_eq_false, decide_true, decide_false, Nat.reduceLeDiff, Nat.reduceLT]
      refine sat_seq ?_; simp (decide := true) only [sat_ok, sat_bad, sat_bind, sat_ite, bind_ok, bind_bad, thn_nx, thn_rt, thn_bk, thn_ct, fin_rt, fin_nx, ev_v, ev_c, ev_op, ev_un, ev_nil, ev_cons, ev_tup, ev_lst, ev_call, ev_own, ev_sl, ev_no, ev_part, ev_and, ev_or, ev_not, ev_if, ev_t, ev_tb, ev_tnot, ev_tand, ev_tor, ev_mt, ev_mt0, ev_rgd, ev_set, ev_asg, ev_ret, ev_retN, ev_ex, ev_pass, ev_brk, ev_cont, ev_ifS, ev_aug, ev_gn, ev_gtp, ev_gnl, ev_gcs, ev_gsb, ev_for, ev_rg1, ev_rg2, ev_its, ev_enum, ev_lc, ev_yes, ev_add_ii, ev_add_ss, ev_add_tt, ev_add_rr, ev_sub, ev_mul, ev_mod, ev_fdiv, ev_pow, ev_neg, ev_lt, ev_le, ev_gt, ev_ge, ev_eq_ii, ev_eq_ss, ev_eq_bb, ev_ne_ii, ev_ne_ss, ev_ne_bb, ev_is_n, ev_isnt_n, ev_int_i, ev_int_b, ev_min_ii, ev_max_ii, ev_abs, ev_tup_of, ev_tup_ofL, ev_lst_ofT, ev_lst_ofL, ev_len_t, ev_len_s, ev_len_r, ev_tru_b, ev_alloc, ev_tupD, ev_lstD, isi_tuple_non, isi_tuple_bl, isi_tuple_int, isi_tuple_str, isi_tuple_tup, isi_tuple_l, isi_tuple_f, isi_list_non, isi_list_bl, isi_list_int, isi_list_str, isi_list_tup, isi_list_l, isi_list_f, isi_bool_non, isi_bool_bl, isi_bool_int, isi_bool_str, isi_bool_tup, isi_bool_l, isi_bool_f, isi_int_non, isi_int_bl, isi_int_int, isi_int_str, isi_int_tup, isi_int_l, isi_int_f, isi_str_non, isi_str_bl, isi_str_int, isi_str_str, isi_str_tup, isi_str_l, isi_str_f, isi_dict_non, isi_dict_bl, isi_dict_int, isi_dict_str, isi_dict_tup, isi_dict_l, isi_dict_f, Ab.isNon, args, List.map, List.length_cons, List.length_nil, List.length_singleton, List.replicate, Nat.reduceSub, Nat.reduceAdd, Nat.zero_add, List.cons_append, List.nil_append, List.getElem?_cons_zero, List.getElem?_cons_succ, List.set_cons_zero, List.set_cons_succ, Option.some.injEq, decide_eq_true_eq, Bool.not_eq_true', decide_eq_false_iff_not, ite_true, ite_false, if_true, if_false, reduceIte, Bool.false_eq_true, Bool.not_true, Bool.not_false, Bool.true_eq_false, decide_true, decide_false, Nat.reduceLeDiff, Nat.reduceLT]
      refine sat_seq ?_; simp (decide := true) only [sat_ok, sat_bad, sat_bind, sat_ite, bind_ok, bind_bad, thn_nx, thn_rt, thn_bk, thn_ct, fin_rt, fin_nx, ev_v, ev_c, ev_op, ev_un, ev_nil, ev_cons, ev_tup, ev_lst, ev_call, ev_own, ev_sl, ev_no, ev_part, ev_and, ev_or, ev_not, ev_if, ev_t, ev_tb, ev_tnot, ev_tand, ev_tor, ev_mt, ev_mt0, ev_rgd, ev_set, ev_asg, ev_ret, ev_retN, ev_ex, ev_pass, ev_brk, ev_cont, ev_ifS, ev_aug, ev_gn, ev_gtp, ev_gnl, ev_gcs, ev_gsb, ev_for, ev_rg1, ev_rg2, ev_its, ev_enum, ev_lc, ev_yes, ev_add_ii, ev_add_ss, ev_add_tt, ev_add_rr, ev_sub, ev_mul, ev_mod, ev_fdiv, ev_pow, ev_neg, ev_lt, ev_le, ev_gt, ev_ge, ev_eq_ii, ev_eq_ss, ev_eq_bb, ev_ne_ii, ev_ne_ss, ev_ne_bb, ev_is_n, ev_isnt_n, ev_int_i, ev_int_b, ev_min_ii, ev_max_ii, ev_abs, ev_tup_of, ev_tup_ofL, ev_lst_ofT, ev_lst_ofL, ev_len_t, ev_len_s, ev_len_r, ev_tru_b, ev_alloc, ev_tupD, ev_lstD, isi_tuple_non, isi_tuple_bl, isi_tuple_int, isi_tuple_str, isi_tuple_tup, isi_tuple_l, isi_tuple_f, isi_list_non, isi_list_bl, isi_list_int, isi_list_str, isi_list_tup, isi_list_l, isi_list_f, isi_bool_non, isi_bool_bl, isi_bool_int, isi_bool_str, isi_bool_tup, isi_bool_l, isi_bool_f, isi_int_non, isi_int_bl, isi_int_int, isi_int_str, isi_int_tup, isi_int_l, isi_int_f, isi_str_non, isi_str_bl, isi_str_int, isi_str_str, isi_str_tup, isi_str_l, isi_str_f, isi_dict_non, isi_dict_bl, isi_dict_int, isi_dict_str, isi_dict_tup, isi_dict_l, isi_dict_f, Ab.isNon, args, List.map, List.length_cons, List.length_nil, List.length_singleton, List.replicate, Nat.reduceSub, Nat.reduceAdd, Nat.zero_add, List.cons_append, List.nil_append, List.getElem?_cons_zero, List.getElem?_cons_succ, List.set_cons_zero, List.set_cons_succ, Option.some.injEq, decide_eq_true_eq, Bool.not_eq_true', decide_eq_false_iff_not, ite_true, ite_false, if_true, if_false, reduceIte, Bool.false_eq_true, Bool.not_true, Bool.not_false, Bool.true_eq_false, decide_true, decide_false, Nat.reduceLeDiff, Nat.reduceLT]
      refine sat_seq ?_; simp (decide := true) only [sat_ok, sat_bad, sat_bind, sat_ite, bind_ok, bind_bad, thn_nx, thn_rt, thn_bk, thn_ct, fin_rt, fin_nx, ev_v, ev_c, ev_op, ev_un, ev_nil, ev_cons, ev_tup, ev_lst, ev_call, ev_own, ev_sl, ev_no, ev_part, ev_and, ev_or, ev_not, ev_if, ev_t, ev_tb, ev_tnot, ev_tand, ev_tor, ev_mt, ev_mt0, ev_rgd, ev_set, ev_asg, ev_ret, ev_retN, ev_ex, ev_pass, ev_brk, ev_cont, ev_ifS, ev_aug, ev_gn, ev_gtp, ev_gnl, ev_gcs, ev_gsb, ev_for, ev_rg1, ev_rg2, ev_its, ev_enum, ev_lc, ev_yes, ev_add_ii, ev_add_ss, ev_add_tt, ev_add_rr, ev_sub, ev_mul, ev_mod, ev_fdiv, ev_pow, ev_neg, ev_lt, ev_le, ev_gt, ev_ge, ev_eq_ii, ev_eq_ss, ev_eq_bb, ev_ne_ii, ev_ne_ss, ev_ne_bb, ev_is_n, ev_isnt_n, ev_int_i, ev_int_b, ev_min_ii, ev_max_ii, ev_abs, ev_tup_of, ev_tup_ofL, ev_lst_ofT, ev_lst_ofL, ev_len_t, ev_len_s, ev_len_r, ev_tru_b, ev_alloc, ev_tupD, ev_lstD, isi_tuple_non, isi_tuple_bl, isi_tuple_int, isi_tuple_str, isi_tuple_tup, isi_tuple_l, isi_tuple_f, isi_list_non, isi_list_bl, isi_list_int, isi_list_str, isi_list_tup, isi_list_l, isi_list_f, isi_bool_non, isi_bool_bl, isi_bool_int, isi_bool_str, isi_bool_tup, isi_bool_l, isi_bool_f, isi_int_non, isi_int_bl, isi_int_int, isi_int_str, isi_int_tup, isi_int_l, isi_int_f, isi_str_non, isi_str_bl, isi_str_int, isi_str_str, isi_str_tup, isi_str_l, isi_str_f, isi_dict_non, isi_dict_bl, isi_dict_int, isi_dict_str, isi_dict_tup, isi_dict_l, isi_dict_f, Ab.isNon, args, List.map, List.length_cons, List.length_nil, List.length_singleton, List.replicate, Nat.reduceSub, Nat.reduceAdd, Nat.zero_add, List.cons_append, List.nil_append, List.getElem?_cons_zero, List.getElem?_cons_succ, List.set_cons_zero, List.set_cons_succ, Option.some.injEq, decide_eq_true_eq, Bool.not_eq_true', decide_eq_false_iff_not, ite_true, ite_false, if_true, if_false, reduceIte, Bool.false_eq_true, Bool.not_true, Bool.not_false, Bool.true_eq_false, decide_true, decide_false, Nat.reduceLeDiff, Nat.reduceLT]
      refine sat_seq ?_; simp (decide := true) only [sat_ok, sat_bad, sat_bind, sat_ite, bind_ok, bind_bad, thn_nx, thn_rt, thn_bk, thn_ct, fin_rt, fin_nx, ev_v, ev_c, ev_op, ev_un, ev_nil, ev_cons, ev_tup, ev_lst, ev_call, ev_own, ev_sl, ev_no, ev_part, ev_and, ev_or, ev_not, ev_if, ev_t, ev_tb, ev_tnot, ev_tand, ev_tor, ev_mt, ev_mt0, ev_rgd, ev_set, ev_asg, ev_ret, ev_retN, ev_ex, ev_pass, ev_brk, ev_cont, ev_ifS, ev_aug, ev_gn, ev_gtp, ev_gnl, ev_gcs, ev_gsb, ev_for, ev_rg1, ev_rg2, ev_its, ev_enum, ev_lc, ev_yes, ev_add_ii, ev_add_ss, ev_add_tt, ev_add_rr, ev_sub, ev_mul, ev_mod, ev_fdiv, ev_pow, ev_neg, ev_lt, ev_le, ev_gt, ev_ge, ev_eq_ii, ev_eq_ss, ev_eq_bb, ev_ne_ii, ev_ne_ss, ev_ne_bb, ev_is_n, ev_isnt_n, ev_int_i, ev_int_b, ev_min_ii, ev_max_ii, ev_abs, ev_tup_of, ev_tup_ofL, ev_lst_ofT, ev_lst_ofL, ev_len_t, ev_len_s, ev_len_r, ev_tru_b, ev_alloc, ev_tupD, ev_lstD, isi_tuple_non, isi_tuple_bl, isi_tuple_int, isi_tuple_str, isi_tuple_tup, isi_tuple_l, isi_tuple_f, isi_list_non, isi_list_bl, isi_list_int, isi_list_str, isi_list_tup, isi_list_l, isi_list_f, isi_bool_non, isi_bool_bl, isi_bool_int, isi_bool_str, isi_bool_tup, isi_bool_l, isi_bool_f, isi_int_non, isi_int_bl, isi_int_int, isi_int_str, isi_int_tup, isi_int_l, isi_int_f, isi_str_non, isi_str_bl, isi_str_int, isi_str_str, isi_str_tup, isi_str_l, isi_str_f, isi_dict_non, isi_dict_bl, isi_dict_int, isi_dict_str, isi_dict_tup, isi_dict_l, isi_dict_f, Ab.isNon, args, List.map, List.length_cons, List.length_nil, List.length_singleton, List.replicate, Nat.reduceSub, Nat.reduceAdd, Nat.zero_add, List.cons_append, List.nil_append, List.getElem?_cons_zero, List.getElem?_cons_succ, List.set_cons_zero, List.set_cons_succ, Option.some.injEq, decide_eq_true_eq, Bool.not_eq_true', decide_eq_false_iff_not, ite_true, ite_false, if_true, if_false, reduceIte, Bool.false_eq_true, Bool.not_true, Bool.not_false, Bool.true_eq_false, decide_true, decide_false, Nat.reduceLeDiff, Nat.reduceLT]
      cases i <;> simp
    · unfold vtail; refine sat_seq ?_
      have q := fun A => pick A "and" false (by decide)
      simp (decide := true) only [sat_ok, sat_bad, sat_bind, sat_ite, bind_ok, bind_bad, thn_nx, thn_rt, thn_bk, thn_ct, fin_rt, fin_nx, ev_v, ev_c, ev_op, ev_un, ev_nil, ev_cons, ev_tup, ev_lst, ev_call, ev_own, ev_sl, ev_no, ev_part, ev_and, ev_or, ev_not, ev_if, ev_t, ev_tb, ev_tnot, ev_tand, ev_tor, ev_mt, ev_mt0, ev_rgd, ev_set, ev_asg, ev_ret, ev_retN, ev_ex, ev_pass, ev_brk, ev_cont, ev_ifS, ev_aug, ev_gn, ev_gtp, ev_gnl, ev_gcs, ev_gsb, ev_for, ev_rg1, ev_rg2, ev_its, ev_enum, ev_lc, ev_yes, ev_add_ii, ev_add_ss, ev_add_tt, ev_add_rr, ev_sub, ev_mul, ev_mod, ev_fdiv, ev_pow, ev_neg, ev_lt, ev_le, ev_gt, ev_ge, ev_eq_ii, ev_eq_ss, ev_eq_bb, ev_ne_ii, ev_ne_ss, ev_ne_bb, ev_is_n, ev_isnt_n, ev_int_i, ev_int_b, ev_min_ii, ev_max_ii, ev_abs, ev_tup_of, ev_tup_ofL, ev_lst_ofT, ev_lst_ofL, ev_len_t, ev_len_s, ev_len_r, ev_tru_b, ev_alloc, ev_tupD, ev_lstD, isi_tuple_non, isi_tuple_bl, isi_tuple_int, isi_tuple_str, isi_tuple_tup, isi_tuple_l, isi_tuple_f, isi_list_non, isi_list_bl, isi_list_int, isi_list_str, isi_list_tup, isi_list_l, isi_list_f, isi_bool_non, isi_bool_bl, isi_bool_int, isi_bool_str, isi_bool_tup, isi_bool_l, isi_bool_f, isi_int_non, isi_int_bl, isi_int_int, isi_int_str, isi_int_tup, isi_int_l, isi_int_f, isi_str_non, isi_str_bl, isi_str_int, isi_str_str, isi_str_tup, isi_str_l, isi_str_f, isi_dict_non, isi_dict_bl, isi_dict_int, isi_dict_str, isi_dict_tup, isi_dict_l, isi_dict_f, Ab.isNon, args, List.map, List.length_cons, List.length_nil, List.length_singleton, List.replicate, Nat.reduceSub, Nat.reduceAdd, Nat.zero_add, List.cons_append, List.nil_append, List.getElem?_cons_zero, List.getElem?_cons_succ, List.set_cons_zero, List.set_cons_succ, Option.some.injEq, decide_eq_true_eq, Bool.not_eq_true', decide_eq_false_iff_not, ite_true, ite_false, if_true, if_false, reduceIte, Bool.false_eq_true, Bool.not_true, Bool.not_false, Bool.true_eq_false, decide_true, decide_false, Nat.reduceLeDiff, Nat.reduceLT, q]
      refine sat_seq ?_
      have q := fun A => pick2 A "and" false (by decide)
      simp (decide := true) only [sat_ok, sat_bad, sat_bind, sat_ite, bind_ok, bind_bad, thn_nx, thn_rt, thn_bk, thn_ct, fin_rt, fin_nx, ev_v, ev_c, ev_op, ev_un, ev_nil, ev_cons, ev_tup, ev_lst, ev_call, ev_own, ev_sl, ev_no, ev_part, ev_and, ev_or, ev_not, ev_if, ev_t, ev_tb, ev_tnot, ev_tand, ev_tor, ev_mt, ev_mt0, ev_rgd, ev_set, ev_asg, ev_ret, ev_retN, ev_ex, ev_pass, ev_brk, ev_cont, ev_ifS, ev_aug, ev_gn, ev_gtp, ev_gnl, ev_gcs, ev_gsb, ev_for, ev_rg1, ev_rg2, ev_its, ev_enum, ev_lc, ev_yes, ev_add_ii, ev_add_ss, ev_add_tt, ev_add_rr, ev_sub, ev_mul, ev_mod, ev_fdiv, ev_pow, ev_neg, ev_lt, ev_le, ev_gt, ev_ge, ev_eq_ii, ev_eq_ss, ev_eq_bb, ev_ne_ii, ev_ne_ss, ev_ne_bb, ev_is_n, ev_isnt_n, ev_int_i, ev_int_b, ev_min_ii, ev_max_ii, ev_abs, ev_tup_of, ev_tup_ofL, ev_lst_ofT, ev_lst_ofL, ev_len_t, ev_len_s, ev_len_r, ev_tru_b, ev_alloc, ev_tupD, ev_lstD, isi_tuple_non, isi_tuple_bl, isi_tuple_int, isi_tuple_str, isi_tuple_tup, isi_tuple_l, isi_tuple_f, isi_list_non, isi_list_bl, isi_list_int, isi_list_str, isi_list_tup, isi_list_l, isi_list_f, isi_bool_non, isi_bool_bl, isi_bool_int, isi_bool_str, isi_bool_tup, isi_bool_l, isi_bool_f, isi_int_non, isi_int_bl, isi_int_int, isi_int_str, isi_int_tup, isi_int_l, isi_int_f, isi_str_non, isi_str_bl, isi_str_int, isi_str_str, isi_str_tup, isi_str_l, isi_str_f, isi_dict_non, isi_dict_bl, isi_dict_int, isi_dict_str, isi_dict_tup, isi_dict_l, isi_dict_f, Ab.isNon, args, List.map, List.length_cons, List.length_nil, List.length_singleton, List.replicate, Nat.reduceSub, Nat.reduceAdd, Nat.zero_add, List.cons_append, List.nil_append, List.getElem?_cons_zero, List.getElem?_cons_succ, List.set_cons_zero, List.set_cons_succ, Option.some.injEq, decide_eq_true_eq, Bool.not_eq_true', decide_eq_false_iff_not, ite_true, ite_false, if_true, if_false, reduceIte, Bool.false_eq_true, Bool.not_true, Bool.not_false, Bool.true_eq_false, decide_true, decide_false, Nat.reduceLeDiff, Nat.reduceLT, q]
      refine sat_seq ?_; simp (decide := true) only [sat_ok, sat_bad, sat_bind, sat_ite, bind_ok, bind_bad, thn_nx, thn_rt, thn_bk, thn_ct, fin_rt, fin_nx, ev_v, ev_c, ev_op, ev_un, ev_nil, ev_cons, ev_tup, ev_lst, ev_call, ev_own, ev_sl, ev_no, ev_part, ev_and, ev_or, ev_not, ev_if, ev_t, ev_tb, ev_tnot, ev_tand, ev_tor, ev_mt, ev_mt0, ev_rgd, ev_set, ev_asg, ev_ret, ev_retN, ev_ex, ev_pass, ev_brk, ev_cont, ev_ifS, ev_aug, ev_gn, ev_gtp, ev_gnl, ev_gcs, ev_gsb, ev_for, ev_rg1, ev_rg2, ev_its, ev_enum, ev_lc, ev_yes, ev_add_ii, ev_add_ss, ev_add_tt, ev_add_rr, ev_sub, ev_mul, ev_mod, ev_fdiv, ev_pow, ev_neg, ev_lt, ev_le, ev_gt, ev_ge, ev_eq_ii, ev_eq_ss, ev_eq_bb, ev_ne_ii, ev_ne_ss, ev_ne_bb, ev_is_n, ev_isnt_n, ev_int_i, ev_int_b, ev_min_ii, ev_max_ii, ev_abs, ev_tup_of, ev_tup_ofL, ev_lst_ofT, ev_lst_ofL, ev_len_t, ev_len_s, ev_len_r, ev_tru_b, ev_alloc, ev_tupD, ev_lstD, isi_tuple_non, isi_tuple_bl, isi_tuple_int, isi_tuple_str, isi_tuple_tup, isi_tuple_l, isi_tuple_f, isi_list_non, isi_list_bl, isi_list_int, isi_list_str, isi_list_tup, isi_list_l, isi_list_f, isi_bool_non, isi_bool_bl, isi_bool_int, isi_bool_str, isi_bool_tup, isi_bool_l, isi_bool_f, isi_int_non, isi_int_bl, isi_int_int, isi_int_str, isi_int_tup, isi_int_l, isi_int_f, isi_str_non, isi_str_bl, isi_str_int, isi_str_str, isi_str_tup, isi_str_l, isi_str_f, isi_dict_non, isi_dict_bl, isi_dict_int, isi_dict_str, isi_dict_tup, isi_dict_l, isi_dict_f, Ab.isNon, args, List.map, List.length_cons, List.length_nil, List.length_singleton, List.replicate, Nat.reduceSub, Nat.reduceAdd, Nat.zero_add, List.cons_append, List.nil_append, List.getElem?_cons_zero, List.getElem?_cons_succ, List.set_cons_zero, List.set_cons_succ, Option.some.injEq, decide_eq_true_eq, Bool.not_eq_true', decide_eq_false_iff_not, ite_true, ite_false, if_true, if_false, reduceIte, Bool.false_eq_true, Bool.not_true, Bool.not_false, Bool.true_eq_false, decide_true, decide_false, Nat.reduceLeDiff, Nat.reduceLT]
      cases i <;> (simp (decide := true) only [sat_ok, sat_bad, sat_bind, sat_ite, bind_ok, bind_bad, thn_nx, thn_rt, thn_bk, thn_ct, fin_rt, fin_nx, ev_v, ev_c, ev_op, ev_un, ev_nil, ev_cons, ev_tup, ev_lst, ev_call, ev_own, ev_sl, ev_no, ev_part, ev_and, ev_or, ev_not, ev_if, ev_t, ev_tb, ev_tnot, ev_tand, ev_tor, ev_mt, ev_mt0, ev_rgd, ev_set, ev_asg, ev_ret, ev_retN, ev_ex, ev_pass, ev_brk, ev_cont, ev_ifS, ev_aug, ev_gn, ev_gtp, ev_gnl, ev_gcs, ev_gsb, ev_for, ev_rg1, ev_rg2, ev_its, ev_enum, ev_lc, ev_yes, ev_add_ii, ev_add_ss, ev_add_tt, ev_add_rr, ev_sub, ev_mul, ev_mod, ev_fdiv, ev_pow, ev_neg, ev_lt, ev_le, ev_gt, ev_ge, ev_eq_ii, ev_eq_ss, ev_eq_bb, ev_ne_ii, ev_ne_ss, ev_ne_bb, ev_is_n, ev_isnt_n, ev_int_i, ev_int_b, ev_min_ii, ev_max_ii, ev_abs, ev_tup_of, ev_tup_ofL, ev_lst_ofT, ev_lst_ofL, ev_len_t, ev_len_s, ev_len_r, ev_tru_b, ev_alloc, ev_tupD, ev_lstD, isi_tuple_non, isi_tuple_bl, isi_tuple_int, isi_tuple_str, isi_tuple_tup, isi_tuple_l, isi_tuple_f, isi_list_non, isi_list_bl, isi_list_int, isi_list_str, isi_list_tup, isi_list_l, isi_list_f, isi_bool_non, isi_bool_bl, isi_bool_int, isi_bool_str, isi_bool_tup, isi_bool_l, isi_bool_f, isi_int_non, isi_int_bl, isi_int_int, isi_int_str, isi_int_tup, isi_int_l, isi_int_f, isi_str_non, isi_str_bl, isi_str_int, isi_str_str, isi_str_tup, isi_str_l, isi_str_f, isi_dict_non, isi_dict_bl, isi_dict_int, isi_dict_str, isi_dict_tup, isi_dict_l, isi_dict_f, Ab.isNon, args, List.map, List.length_cons, List.length_nil, List.length_singleton, List.replicate, Nat.reduceSub, Nat.reduceAdd, Nat.zero_add, List.cons_append, List.nil_append, List.getElem?_cons_zero, List.getElem?_cons_succ, List.set_cons_zero, List.set_cons_succ, Option.some.injEq, decide_eq_true_eq, Bool.not_eq_true', decide_eq_false_iff_not, ite_true, ite_false, if_true, if_false, reduceIte, Bool.false_eq_true, Bool.not_true, Bool.not_false, Bool.true_eq_false, decide_true, decide_false, Nat.reduceLeDiff, Nat.reduceLT]; exact ⟨by simp, Gr.app.trans .app⟩)
  | or =>
    obtain ⟨i, rfl⟩ := h1; obtain ⟨j, rfl⟩ := h2
    refine ⟨.bl (i || j), ⟨_, rfl⟩, fin _ fun A => sat_body rfl (sat_seq ?_), fun A x y => ?_⟩
    · simp (decide := true) only [sat_ok, sat_bad, sat_bind, sat_ite, bind_ok, bind_bad, thn_nx, thn_rt, thn_bk, thn_ct, fin_rt, fin_nx, ev_v, ev_c, ev_op, ev_un, ev_nil, ev_cons, ev_tup, ev_lst, ev_call, ev_own, ev_sl, ev_no, ev_part, ev_and, ev_or, ev_not, ev_if, ev_t, ev_tb, ev_tnot, ev_tand, ev_tor, ev_mt, ev_mt0, ev_rgd, ev_set, ev_asg, ev_ret, ev_retN, ev_ex, ev_pass, ev_brk, ev_cont, ev_ifS, ev_aug, ev_gn, ev_gtp, ev_gnl, ev_gcs, ev_gsb, ev_for, ev_rg1, ev_rg2, ev_its, ev_enum, ev_lc, ev_yes, ev_add_ii, ev_add_ss, ev_add_tt, ev_add_rr, ev_sub, ev_mul, ev_mod, ev_fdiv, ev_pow, ev_neg, ev_lt, ev_le, ev_gt, ev_ge, ev_eq_ii, ev_eq_ss, ev_eq_bb, ev_ne_ii, ev_ne_ss, ev_ne_bb, ev_is_n, ev_isnt_n, ev_int_i, ev_int_b, ev_min_ii, ev_max_ii, ev_abs, ev_tup_of, ev_tup_ofL, ev_lst_ofT, ev_lst_ofL, ev_len_t, ev_len_s, ev_len_r, ev_tru_b, ev_alloc, ev_tupD, ev_lstD, isi_tuple_non, isi_tuple_bl, isi_tuple_int, isi_tuple_str, isi_tuple_tup, isi_tuple_l, isi_tuple_f, isi_list_non, isi_list_bl, isi_list_int, isi_list_str, isi_list_tup, isi_list_l, isi_list_f, isi_bool_non, isi_bool_bl, isi_bool_int, isi_bool_str, isi_bool_tup, isi_bool_l, isi_bool_f, isi_int_non, isi_int_bl, isi_int_int, isi_int_str, isi_int_tup, isi_int_l, isi_int_f, isi_str_non, isi_str_bl, isi_str_int, isi_str_str, isi_str_tup, isi_str_l, isi_str_f, isi_dict_non, isi_dict_bl, isi_dict_int, isi_dict_str, isi_dict_tup, isi_dict_l, isi_dict_f, Ab.isNon, args, List.map, List.length_cons, List.length_nil, List.length_singleton, List.replicate, Nat.reduceSub, Nat.reduceAdd, Nat.zero_add, List.cons_append, List.nil_append, List.getElem?_cons_zero, List.getElem?_cons_succ, List.set_cons_zero, List.set_cons_succ, Option.some.injEq, decide_eq_true_eq, Bool.not_eq_true', decide_eq_false_iff_not, ite_true, ite_false, if_true, if_false, reduceIte, Bool.false_eq_true, Bool.not_true, Bool.not_false, Bool.true_eq_false, decide_true, decide_false, Nat.reduceLeDiff, Nat.reduceLT]
      refine sat_seq ?_; simp (decide := true) only [sat_ok, sat_bad, sat_bind, sat_ite, bind_ok, bind_bad, thn_nx, thn_rt, thn_bk, thn_ct, fin_rt, fin_nx, ev_v, ev_c, ev_op, ev_un, ev_nil, ev_cons, ev_tup, ev_lst, ev_call, ev_own, ev_sl, ev_no, ev_part, ev_and, ev_or, ev_not, ev_if, ev_t, ev_tb, ev_tnot, ev_tand, ev_tor, ev_mt, ev_mt0, ev_rgd, ev_set, ev_asg, ev_ret, ev_retN, ev_ex, ev_pass, ev_brk, ev_cont, ev_ifS, ev_aug, ev_gn, ev_gtp, ev_gnl, ev_gcs, ev_gsb, ev_for, ev_rg1, ev_rg2, ev_its, ev_enum, ev_lc, ev_yes, ev_add_ii, ev_add_ss, ev_add_tt, ev_add_rr, ev_sub, ev_mul, ev_mod, ev_fdiv, ev_pow, ev_neg, ev_lt, ev_le, ev_gt, ev_ge, ev_eq_ii, ev_eq_ss, ev_eq_bb, ev_ne_ii, ev_ne_ss, ev_ne_bb, ev_is_n, ev_isnt_n, ev_int_i, ev_int_b, ev_min_ii, ev_max_ii, ev_abs, ev_tup_of, ev_tup_ofL, ev_lst_ofT, ev_lst_ofL, ev_len_t, ev_len_s, ev_len_r, ev_tru_b, ev_alloc, ev_tupD, ev_lstD, isi_tuple_non, isi_tuple_bl, isi_tuple_int, isi_tuple_str, isi_tuple_tup, isi_tuple_l, isi_tuple_f, isi_list_non, isi_list_bl, isi_list_int, isi_list_str, isi_list_tup, isi_list_l, isi_list_f, isi_bool_non, isi_bool_bl, isi_bool_int, isi_bool_str, isi_bool_tup, isi_bool_l, isi_bool_f, isi_int_non, isi_int_bl, isi_int_int, isi_int_str, isi_int_tup, isi_int_l, isi_int_f, isi_str_non, isi_str_bl, isi_str_int, isi_str_str, isi_str_tup, isi_str_l, isi_str_f, isi_dict_non, isi_dict_bl, isi_dict_int, isi_dict_str, isi_dict_tup, isi_dict_l, isi_dict_f, Ab.isNon, args, List.map, List.length_cons, List.length_nil, List.length_singleton, List.replicate, Nat.reduceSub, Nat.reduceAdd, Nat.zero_add, List.cons_append, List.nil_append, List.getElem?_cons_zero, List.getElem?_cons_succ, List.set_cons_zero, List.set_cons_succ, Option.some.injEq, decide_eq_true_eq, Bool.not_eq_true', decide_eq_false_iff_not, ite_true, ite_false, if_true, if_false, reduceIte, Bool.false_eq_true, Bool.not_true, Bool.not_false, Bool.true_eq_false, decide_true, decide_false, Nat.reduceLeDiff, Nat.reduceLT]
      refine sat_seq ?_; simp (decide := true) only [sat_ok, sat_bad, sat_bind, sat_ite, bind_ok, bind_bad, thn_nx, thn_rt, thn_bk, thn_ct, fin_rt, fin_nx, ev_v, ev_c, ev_op, ev_un, ev_nil, ev_cons, ev_tup, ev_lst, ev_call, ev_own, ev_sl, ev_no, ev_part, ev_and, ev_or, ev_not, ev_if, ev_t, ev_tb, ev_tnot, ev_tand, ev_tor, ev_mt, ev_mt0, ev_rgd, ev_set, ev_asg, ev_ret, ev_retN, ev_ex, ev_pass, ev_brk, ev_cont, ev_ifS, ev_aug, ev_gn, ev_gtp, ev_gnl, ev_gcs, ev_gsb, ev_for, ev_rg1, ev_rg2, ev_its, ev_enum, ev_lc, ev_yes, ev_add_ii, ev_add_ss, ev_add_tt, ev_add_rr, ev_sub, ev_mul, ev_mod, ev_fdiv, ev_pow, ev_neg, ev_lt, ev_le, ev_gt, ev_ge, ev_eq_ii, ev_eq_ss, ev_eq_bb, ev_ne_ii, ev_ne_ss, ev_ne_bb, ev_is_n, ev_isnt_n, ev_int_i, ev_int_b, ev_min_ii, ev_max_ii, ev_abs, ev_tup_of, ev_tup_ofL, ev_lst_ofT, ev_lst_ofL, ev_len_t, ev_len_s, ev_len_r, ev_tru_b, ev_alloc, ev_tupD, ev_lstD, isi_tuple_non, isi_tuple_bl, isi_tuple_int, isi_tuple_str, isi_tuple_tup, isi_tuple_l, isi_tuple_f, isi_list_non, isi_list_bl, isi_list_int, isi_list_str, isi_list_tup, isi_list_l, isi_list_f, isi_bool_non, isi_bool_bl, isi_bool_int, isi_bool_str, isi_bool_tup, isi_bool_l, isi_bool_f, isi_int_non, isi_int_bl, isi_int_int, isi_int_str, isi_int_tup, isi_int_l, isi_int_f, isi_str_non, isi_str_bl, isi_str_int, isi_str_str, isi_str_tup, isi_str_l, isi_str_f, isi_dict_non, isi_dict_bl, isi_dict_int, isi_dict_str, isi_dict_tup, isi_dict_l, isi_dict_f, Ab.isNon, args, List.map, List.length_cons, List.length_nil, List.length_singleton, List.replicate, Nat.reduceSub, Nat.reduceAdd, Nat.zero_add, List.cons_append, List.nil_append, List.getElem?_cons_zero, List.getElem?_cons_succ, List.set_cons_zero, List.set_cons_succ, Option.some.injEq, decide_eq_true_eq, Bool.not_eq_true', decide_eq_false_iff_not, ite_true, ite_false, if_true, if_false, reduceIte, Bool.false_eq_true, Bool.not_true, Bool.not_false, Bool.true_eq_false, decide_true, decide_false, Nat.reduceLeDiff, Nat.reduceLT]
      refine sat_seq ?_; simp (decide := true) only [sat_ok, sat_bad, sat_bind, sat_ite, bind_ok, bind_bad, thn_nx, thn_rt, thn_bk, thn_ct, fin_rt, fin_nx, ev_v, ev_c, ev_op, ev_un, ev_nil, ev_cons, ev_tup, ev_lst, ev_call, ev_own, ev_sl, ev_no, ev_part, ev_and, ev_or, ev_not, ev_if, ev_t, ev_tb, ev_tnot, ev_tand, ev_tor, ev_mt, ev_mt0, ev_rgd, ev_set, ev_asg, ev_ret, ev_retN, ev_ex, ev_pass, ev_brk, ev_cont, ev_ifS, ev_aug, ev_gn, ev_gtp, ev_gnl, ev_gcs, ev_gsb, ev_for, ev_rg1, ev_rg2, ev_its, ev_enum, ev_lc, ev_yes, ev_add_ii, ev_add_ss, ev_add_tt, ev_add_rr, ev_sub, ev_mul, ev_mod, ev_fdiv, ev_pow, ev_neg, ev_lt, ev_le, ev_gt, ev_ge, ev_eq_ii, ev_eq_ss, ev_eq_bb, ev_ne_ii, ev_ne_ss, ev_ne_bb, ev_is_n, ev_isnt_n, ev_int_i, ev_int_b, ev_min_ii, ev_max_ii, ev_abs, ev_tup_of, ev_tup_ofL, ev_lst_ofT, ev_lst_ofL, ev_len_t, ev_len_s, ev_len_r, ev_tru_b, ev_alloc, ev_tupD, ev_lstD, isi_tuple_non, isi_tuple_bl, isi_tuple_int, isi_tuple_str, isi_tuple_tup, isi_tuple_l, isi_tuple_f, isi_list_non, isi_list_bl, isi_list_int, isi_list_str, isi_list_tup, isi_list_l, isi_list_f, isi_bool_non, isi_bool_bl, isi_bool_int, isi_bool_str, isi_bool_tup, isi_bool_l, isi_bool_f, isi_int_non, isi_int_bl, isi_int_int, isi_int_str, isi_int_tup, isi_int_l, isi_int_f, isi_str_non, isi_str_bl, isi_str_int, isi_str_str, isi_str_tup, isi_str_l, isi_str_f, isi_dict_non, isi_dict_bl, isi_dict_int, isi_dict_str, isi_dict_tup, isi_dict_l, isi_dict_f, Ab.isNon, args, List.map, List.length_cons, List.length_nil, List.length_singleton, List.replicate, Nat.reduceSub, Nat.reduceAdd, Nat.zero_add, List.cons_append, List.nil_append, List.getElem?_cons_zero, List.getElem?_cons_succ, List.set_cons_zero, List.set_cons_succ, Option.some.injEq, decide_eq_true_eq, Bool.not_eq_true', decide_eq_false_iff_not, ite_true, ite_false, if_true, if_false, reduceIte, Bool.false_eq_true, Bool.not_true, Bool.not_false, Bool.true_eq_false, decide_true, decide_false, Nat.reduceLeDiff, Nat.reduceLT]
      refine sat_seq ?_; simp (decide := true) only [sat_ok, sat_bad, sat_bind, sat_ite, bind_ok, bind_bad, thn_nx, thn_rt, thn_bk, thn_ct, fin_rt, fin_nx, ev_v, ev_c, ev_op, ev_un, ev_nil, ev_cons, ev_tup, ev_lst, ev_call, ev_own, ev_sl, ev_no, ev_part, ev_and, ev_or, ev_not, ev_if, ev_t, ev_tb, ev_tnot, ev_tand, ev_tor, ev_mt, ev_mt0, ev_rgd, ev_set, ev_asg, ev_ret, ev_retN, ev_ex, ev_pass, ev_brk, ev_cont, ev_ifS, ev_aug, ev_gn, ev_gtp, ev_gnl, ev_gcs, ev_gsb, ev_for, ev_rg1, ev_rg2, ev_its, ev_enum, ev_lc, ev_yes, ev_add_ii, ev_add_ss, ev_add_tt, ev_add_rr, ev_sub, ev_mul, ev_mod, ev_fdiv, ev_pow, ev_neg, ev_lt, ev_le, ev_gt, ev_ge, ev_eq_ii, ev_eq_ss, ev_eq_bb, ev_ne_ii, ev_ne_ss, ev_ne_bb, ev_is_n, ev_isnt_n, ev_int_i, ev_int_b, ev_min_ii, ev_max_ii, ev_abs, ev_tup_of, ev_tup_ofL, ev_lst_ofT, ev_lst_ofL, ev_len_t, ev_len_s, ev_len_r, ev_tru_b, ev_alloc, ev_tupD, ev_lstD, isi_tuple_non, isi_tuple_bl, isi_tuple_int, isi_tuple_str, isi_tuple_tup, isi_tuple_l, isi_tuple_f, isi_list_non, isi_list_bl, isi_list_int, isi_list_str, isi_list_tup, isi_list_l, isi_list_f, isi_bool_non, isi_bool_bl, isi_bool_int, isi_bool_str, isi_bool_tup, isi_bool_l, isi_bool_f, isi_int_non, isi_int_bl, isi_int_int, isi_int_str, isi_int_tup, isi_int_l, isi_int_f, isi_str_non, isi_str_bl, isi_str_int, isi_str_str, isi_str_tup, isi_str_l, isi_str_f, isi_dict_non, isi_dict_bl, isi_dict_int, isi_dict_str, isi_dict_tup, isi_dict_l, isi_dict_f, Ab.isNon, args, List.map, List.length_cons, List.length_nil, List.length_singleton, List.replicate, Nat.reduceSub, Nat.reduceAdd, Nat.zero_add, List.cons_append, List.nil_append, List.getElem?_cons_zero, List.getElem?_cons_succ, List.set_cons_zero, List.set_cons_succ, Option.some.injEq, decide_eq_true_eq, Bool.not_eq_true', decide_eq_false_iff_not, ite_true, ite_false, if_true, if_false, reduceIte, Bool.false_eq_true, Bool.not_true, Bool.not_false, Bool.true_eq_false, decide_true, decide_false, Nat.reduceLeDiff, Nat.reduceLT]
      refine sat_seq ?_; simp (decide := true) only [sat_ok, sat_bad, sat_bind, sat_ite, bind_ok, bind_bad, thn_nx, thn_rt, thn_bk, thn_ct, fin_rt, fin_nx, ev_v, ev_c, ev_op, ev_un, ev_nil, ev_cons, ev_tup, ev_lst, ev_call, ev_own, ev_sl, ev_no, ev_part, ev_and, ev_or, ev_not, ev_if, ev_t, ev_tb, ev_tnot, ev_tand, ev_tor, ev_mt, ev_mt0, ev_rgd, ev_set, ev_asg, ev_ret, ev_retN, ev_ex, ev_pass, ev_brk, ev_cont, ev_ifS, ev_aug, ev_gn, ev_gtp, ev_gnl, ev_gcs, ev_gsb, ev_for, ev_rg1, ev_rg2, ev_its, ev_enum, ev_lc, ev_yes, ev_add_ii, ev_add_ss, ev_add_tt, ev_add_rr, ev_sub, ev_mul, ev_mod, ev_fdiv, ev_pow, ev_neg, ev_lt, ev_le, ev_gt, ev_ge, ev_eq_ii, ev_eq_ss, ev_eq_bb, ev_ne_ii, ev_ne_ss, ev_ne_bb, ev_is_n, ev_isnt_n, ev_int_i, ev_int_b, ev_min_ii, ev_max_ii, ev_abs, ev_tup_of, ev_tup_ofL, ev_lst_ofT, ev_lst_ofL, ev_len_t, ev_len_s, ev_len_r, ev_tru_b, ev_alloc, ev_tupD, ev_lstD, isi_tuple_non, isi_tuple_bl, isi_tuple_int, isi_tuple_str, isi_tuple_tup, isi_tuple_l, isi_tuple_f, isi_list_non, isi_list_bl, isi_list_int, isi_list_str, isi_list_tup, isi_list_l, isi_list_f, isi_bool_non, isi_bool_bl, isi_bool_int, isi_bool_str, isi_bool_tup, isi_bool_l, isi_bool_f, isi_int_non, isi_int_bl, isi_int_int, isi_int_str, isi_int_tup, isi_int_l, isi_int_f, isi_str_non, isi_str_bl, isi_str_int, isi_str_str, isi_str_tup, isi_str_l, isi_str_f, isi_dict_non, isi_dict_bl, isi_dict_int, isi_dict_str, isi_dict_tup, isi_dict_l, isi_dict_f, Ab.isNon, args, List.map, List.length_cons, List.length_nil, List.length_singleton, List.replicate, Nat.reduceSub, Nat.reduceAdd, Nat.zero_add, List.cons_append, List.nil_append, List.getElem?_cons_zero, List.getElem?_cons_succ, List.set_cons_zero, List.set_cons_succ, Option.some.injEq, decide_eq_true_eq, Bool.not_eq_true', decide_eq_false_iff_not, ite_true, ite_false, if_true, if_false, reduceIte, Bool.false_eq_true, Bool.not_true, Bool.not_false, Bool.true_eq_false, decide_true, decide_false, Nat.reduceLeDiff, Nat.reduceLT]
      refine sat_seq ?_; simp (decide := true) only [sat_ok, sat_bad, sat_bind, sat_ite, bind_ok, bind_bad, thn_nx, thn_rt, thn_bk, thn_ct, fin_rt, fin_nx, ev_v, ev_c, ev_op, ev_un, ev_nil, ev_cons, ev_tup, ev_lst, ev_call, ev_own, ev_sl, ev_no, ev_part, ev_and, ev_or, ev_not, ev_if, ev_t, ev_tb, ev_tnot, ev_tand, ev_tor, ev_mt, ev_mt0, ev_rgd, ev_set, ev_asg, ev_ret, ev_retN, ev_ex, ev_pass, ev_brk, ev_cont, ev_ifS, ev_aug, ev_gn, ev_gtp, ev_gnl, ev_gcs, ev_gsb, ev_for, ev_rg1, ev_rg2, ev_its, ev_enum, ev_lc, ev_yes, ev_add_ii, ev_add_ss, ev_add_tt, ev_add_rr, ev_sub, ev_mul, ev_mod, ev_fdiv, ev_pow, ev_neg, ev_lt, ev_le, ev_gt, ev_ge, ev_eq_ii, ev_eq_ss, ev_eq_bb, ev_ne_ii, ev_ne_ss, ev_ne_bb, ev_is_n, ev_isnt_n, ev_int_i, ev_int_b, ev_min_ii, ev_max_ii, ev_abs, ev_tup_of, ev_tup_ofL, ev_lst_ofT, ev_lst_ofL, ev_len_t, ev_len_s, ev_len_r, ev_tru_b, ev_alloc, ev_tupD, ev_lstD, isi_tuple_non, isi_tuple_bl, isi_tuple_int, isi_tuple_str, isi_tuple_tup, isi_tuple_l, isi_tuple_f, isi_list_non, isi_list_bl, isi_list_int, isi_list_str, isi_list_tup, isi_list_l, isi_list_f, isi_bool_non, isi_bool_bl, isi_bool_int, isi_bool_str, isi_bool_tup, isi_bool_l, isi_bool_f, isi_int_non, isi_int_bl, isi_int_int, isi_int_str, isi_int_tup, isi_int_l, isi_int_f, isi_str_non, isi_str_bl, isi_str_int, isi_str_str, isi_str_tup, isi_str_l, isi_str_f, isi_dict_non, isi_dict_bl, isi_dict_int, isi_dict_str, isi_dict_tup, isi_dict_l, isi_dict_f, Ab.isNon, args, List.map, List.length_cons, List.length_nil, List.length_singleton, List.replicate, Nat.reduceSub, Nat.reduceAdd, Nat.zero_add, List.cons_append, List.nil_append, List.getElem?_cons_zero, List.getElem?_cons_succ, List.set_cons_zero, List.set_cons_succ, Option.some.injEq, decide_eq_true_eq, Bool.not_eq_true', decide_eq_false_iff_not, ite_true, ite_false, if_true, if_false, reduceIte, Bool.false_eq_true, Bool.not_true, Bool.not_false, Bool.true_eq_false, decide_true, decide_false, Nat.reduceLeDiff, Nat.reduceLT]
      refine sat_seq ?_; simp (decide := true) only [sat_ok, sat_bad, sat_bind, sat_ite, bind_ok, bind_bad, thn_nx, thn_rt, thn_bk, thn_ct, fin_rt, fin_nx, ev_v, ev_c, ev_op, ev_un, ev_nil, ev_cons, ev_tup, ev_lst, ev_call, ev_own, ev_sl, ev_no, ev_part, ev_and, ev_or, ev_not, ev_if, ev_t, ev_tb, ev_tnot, ev_tand, ev_tor, ev_mt, ev_mt0, ev_rgd, ev_set, ev_asg, ev_ret, ev_retN, ev_ex, ev_pass, ev_brk, ev_cont, ev_ifS, ev_aug, ev_gn, ev_gtp, ev_gnl, ev_gcs, ev_gsb, ev_for, ev_rg1, ev_rg2, ev_its, ev_enum, ev_lc, ev_yes, ev_add_ii, ev_add_ss, ev_add_tt, ev_add_rr, ev_sub, ev_mul, ev_mod, ev_fdiv, ev_pow, ev_neg, ev_lt, ev_le, ev_gt, ev_ge, ev_eq_ii, ev_eq_ss, ev_eq_bb, ev_ne_ii, ev_ne_ss, ev_ne_bb, ev_is_n, ev_isnt_n, ev_int_i, ev_int_b, ev_min_ii, ev_max_ii, ev_abs, ev_tup_of, ev_tup_ofL, ev_lst_ofT, ev_lst_ofL, ev_len_t, ev_len_s, ev_len_r, ev_tru_b, ev_alloc, ev_tupD, ev_lstD, isi_tuple_non, isi_tuple_bl, isi_tuple_int, isi_tuple_str, isi_tuple_tup, isi_tuple_l, isi_tuple_f, isi_list_non, isi_list_bl, isi_list_int, isi_list_str, isi_list_tup, isi_list_l, isi_list_f, isi_bool_non, isi_bool_bl, isi_bool_int, isi_bool_str, isi_bool_tup, isi_bool_l, isi_bool_f, isi_int_non, isi_int_bl, isi_int_int, isi_int_str, isi_int_tup, isi_int_l, isi_int_f, isi_str_non, isi_str_bl, isi_str_int, isi_str_str, isi_str_tup, isi_str_l, isi_str_f, isi_dict_non, isi_dict_bl, isi_dict_int, isi_dict_str, isi_dict_tup, isi_dict_l, isi_dict_f, Ab.isNon, args, List.map, List.length_cons, List.length_nil, List.length_singleton, List.replicate, Nat.reduceSub, Nat.reduceAdd, Nat.zero_add, List.cons_append, List.nil_append, List.getElem?_cons_zero, List.getElem?_cons_succ, List.set_cons_zero, List.set_cons_succ, Option.some.injEq, decide_eq_true_eq, Bool.not_eq_true', decide_eq_false_iff_not, ite_true, ite_false, if_true, if_false, reduceIte, Bool.false_eq_true, Bool.not_true, Bool.not_false, Bool.true_eq_false, decide_true, decide_false, Nat.reduceLeDiff, Nat.reduceLT]
      cases i <;> simp
    · unfold vtail; refine sat_seq ?_
      have q := fun A => pick A "or" false (by decide)
      simp (decide := true) only [sat_ok, sat_bad, sat_bind, sat_ite, bind_ok, bind_bad, thn_nx, thn_rt, thn_bk, thn_ct, fin_rt, fin_nx, ev_v, ev_c, ev_op, ev_un, ev_nil, ev_cons, ev_tup, ev_lst, ev_call, ev_own, ev_sl, ev_no, ev_part, ev_and, ev_or, ev_not, ev_if, ev_t, ev_tb, ev_tnot, ev_tand, ev_tor, ev_mt, ev_mt0, ev_rgd, ev_set, ev_asg, ev_ret, ev_retN, ev_ex, ev_pass, ev_brk, ev_cont, ev_ifS, ev_aug, ev_gn, ev_gtp, ev_gnl, ev_gcs, ev_gsb, ev_for, ev_rg1, ev_rg2, ev_its, ev_enum, ev_lc, ev_yes, ev_add_ii, ev_add_ss, ev_add_tt, ev_add_rr, ev_sub, ev_mul, ev_mod, ev_fdiv, ev_pow, ev_neg, ev_lt, ev_le, ev_gt, ev_ge, ev_eq_ii, ev_eq_ss, ev_eq_bb, ev_ne_ii, ev_ne_ss, ev_ne_bb, ev_is_n, ev_isnt_n, ev_int_i, ev_int_b, ev_min_ii, ev_max_ii, ev_abs, ev_tup_of, ev_tup_ofL, ev_lst_ofT, ev_lst_ofL, ev_len_t, ev_len_s, ev_len_r, ev_tru_b, ev_alloc, ev_tupD, ev_lstD, isi_tuple_non, isi_tuple_bl, isi_tuple_int, isi_tuple_str, isi_tuple_tup, isi_tuple_l, isi_tuple_f, isi_list_non, isi_list_bl, isi_list_int, isi_list_str, isi_list_tup, isi_list_l, isi_list_f, isi_bool_non, isi_bool_bl, isi_bool_int, isi_bool_str, isi_bool_tup, isi_bool_l, isi_bool_f, isi_int_non, isi_int_bl, isi_int_int, isi_int_str, isi_int_tup, isi_int_l, isi_int_f, isi_str_non, isi_str_bl, isi_str_int, isi_str_str, isi_str_tup, isi_str_l, isi_str_f, isi_dict_non, isi_dict_bl, isi_dict_int, isi_dict_str, isi_dict_tup, isi_dict_l, isi_dict_f, Ab.isNon, args, List.map, List.length_cons, List.length_nil, List.length_singleton, List.replicate, Nat.reduceSub, Nat.reduceAdd, Nat.zero_add, List.cons_append, List.nil_append, List.getElem?_cons_zero, List.getElem?_cons_succ, List.set_cons_zero, List.set_cons_succ, Option.some.injEq, decide_eq_true_eq, Bool.not_eq_true', decide_eq_false_iff_not, ite_true, ite_false, if_true, if_false, reduceIte, Bool.false_eq_true, Bool.not_true, Bool.not_false, Bool.true_eq_false, decide_true, decide_false, Nat.reduceLeDiff, Nat.reduceLT, q]
      refine sat_seq ?_
      have q := fun A => pick2 A "or" false (by decide)
      simp (decide := true) only [sat_ok, sat_bad, sat_bind, sat_ite, bind_ok, bind_bad, thn_nx, thn_rt, thn_bk, thn_ct, fin_rt, fin_nx, ev_v, ev_c, ev_op, ev_un, ev_nil, ev_cons, ev_tup, ev_lst, ev_call, ev_own, ev_sl, ev_no, ev_part, ev_and, ev_or, ev_not, ev_if, ev_t, ev_tb, ev_tnot, ev_tand, ev_tor, ev_mt, ev_mt0, ev_rgd, ev_set, ev_asg, ev_ret, ev_retN, ev_ex, ev_pass, ev_brk, ev_cont, ev_ifS, ev_aug, ev_gn, ev_gtp, ev_gnl, ev_gcs, ev_gsb, ev_for, ev_rg1, ev_rg2, ev_its, ev_enum, ev_lc, ev_yes, ev_add_ii, ev_add_ss, ev_add_tt, ev_add_rr, ev_sub, ev_mul, ev_mod, ev_fdiv, ev_pow, ev_neg, ev_lt, ev_le, ev_gt, ev_ge, ev_eq_ii, ev_eq_ss, ev_eq_bb, ev_ne_ii, ev_ne_ss, ev_ne_bb, ev_is_n, ev_isnt_n, ev_int_i, ev_int_b, ev_min_ii, ev_max_ii, ev_abs, ev_tup_of, ev_tup_ofL, ev_lst_ofT, ev_lst_ofL, ev_len_t, ev_len_s, ev_len_r, ev_tru_b, ev_alloc, ev_tupD, ev_lstD, isi_tuple_non, isi_tuple_bl, isi_tuple_int, isi_tuple_str, isi_tuple_tup, isi_tuple_l, isi_tuple_f, isi_list_non, isi_list_bl, isi_list_int, isi_list_str, isi_list_tup, isi_list_l, isi_list_f, isi_bool_non, isi_bool_bl, isi_bool_int, isi_bool_str, isi_bool_tup, isi_bool_l, isi_bool_f, isi_int_non, isi_int_bl, isi_int_int, isi_int_str, isi_int_tup, isi_int_l, isi_int_f, isi_str_non, isi_str_bl, isi_str_int, isi_str_str, isi_str_tup, isi_str_l, isi_str_f, isi_dict_non, isi_dict_bl, isi_dict_int, isi_dict_str, isi_dict_tup, isi_dict_l, isi_dict_f, Ab.isNon, args, List.map, List.length_cons, List.length_nil, List.length_singleton, List.replicate, Nat.reduceSub, Nat.reduceAdd, Nat.zero_add, List.cons_append, List.nil_append, List.getElem?_cons_zero, List.getElem?_cons_succ, List.set_cons_zero, List.set_cons_succ, Option.some.injEq, decide_eq_true_eq, Bool.not_eq_true', decide_eq_false_iff_not, ite_true, ite_false, if_true, if_false, reduceIte, Bool.false_eq_true, Bool.not_true, Bool.not_false, Bool.true_eq_false, decide_true, decide_false, Nat.reduceLeDiff, Nat.reduceLT, q]
      refine sat_seq ?_; simp (decide := true) only [sat_ok, sat_bad, sat_bind, sat_ite, bind_ok, bind_bad, thn_nx, thn_rt, thn_bk, thn_ct, fin_rt, fin_nx, ev_v, ev_c, ev_op, ev_un, ev_nil, ev_cons, ev_tup, ev_lst, ev_call, ev_own, ev_sl, ev_no, ev_part, ev_and, ev_or, ev_not, ev_if, ev_t, ev_tb, ev_tnot, ev_tand, ev_tor, ev_mt, ev_mt0, ev_rgd, ev_set, ev_asg, ev_ret, ev_retN, ev_ex, ev_pass, ev_brk, ev_cont, ev_ifS, ev_aug, ev_gn, ev_gtp, ev_gnl, ev_gcs, ev_gsb, ev_for, ev_rg1, ev_rg2, ev_its, ev_enum, ev_lc, ev_yes, ev_add_ii, ev_add_ss, ev_add_tt, ev_add_rr, ev_sub, ev_mul, ev_mod, ev_fdiv, ev_pow, ev_neg, ev_lt, ev_le, ev_gt, ev_ge, ev_eq_ii, ev_eq_ss, ev_eq_bb, ev_ne_ii, ev_ne_ss, ev_ne_bb, ev_is_n, ev_isnt_n, ev_int_i, ev_int_b, ev_min_ii, ev_max_ii, ev_abs, ev_tup_of, ev_tup_ofL, ev_lst_ofT, ev_lst_ofL, ev_len_t, ev_len_s, ev_len_r, ev_tru_b, ev_alloc, ev_tupD, ev_lstD, isi_tuple_non, isi_tuple_bl, isi_tuple_int, isi_tuple_str, isi_tuple_tup, isi_tuple_l, isi_tuple_f, isi_list_non, isi_list_bl, isi_list_int, isi_list_str, isi_list_tup, isi_list_l, isi_list_f, isi_bool_non, isi_bool_bl, isi_bool_int, isi_bool_str, isi_bool_tup, isi_bool_l, isi_bool_f, isi_int_non, isi_int_bl, isi_int_int, isi_int_str, isi_int_tup, isi_int_l, isi_int_f, isi_str_non, isi_str_bl, isi_str_int, isi_str_str, isi_str_tup, isi_str_l, isi_str_f, isi_dict_non, isi_dict_bl, isi_dict_int, isi_dict_str, isi_dict_tup, isi_dict_l, isi_dict_f, Ab.isNon, args, List.map, List.length_cons, List.length_nil, List.length_singleton, List.replicate, Nat.reduceSub, Nat.reduceAdd, Nat.zero_add, List.cons_append, List.nil_append, List.getElem?_cons_zero, List.getElem?_cons_succ, List.set_cons_zero, List.set_cons_succ, Option.some.injEq, decide_eq_true_eq, Bool.not_eq_true', decide_eq_false_iff_not, ite_true, ite_false, if_true, if_false, reduceIte, Bool.false_eq_true, Bool.not_true, Bool.not_false, Bool.true_eq_false, decide_true, decide_false, Nat.reduceLeDiff, Nat.reduceLT]
      refine sat_seq ?_; simp (decide := true) only [sat_ok, sat_bad, sat_bind, sat_ite, bind_ok, bind_bad, thn_nx, thn_rt, thn_bk, thn_ct, fin_rt, fin_nx, ev_v, ev_c, ev_op, ev_un, ev_nil, ev_cons, ev_tup, ev_lst, ev_call, ev_own, ev_sl, ev_no, ev_part, ev_and, ev_or, ev_not, ev_if, ev_t, ev_tb, ev_tnot, ev_tand, ev_tor, ev_mt, ev_mt0, ev_rgd, ev_set, ev_asg, ev_ret, ev_retN, ev_ex, ev_pass, ev_brk, ev_cont, ev_ifS, ev_aug, ev_gn, ev_gtp, ev_gnl, ev_gcs, ev_gsb, ev_for, ev_rg1, ev_rg2, ev_its, ev_enum, ev_lc, ev_yes, ev_add_ii, ev_add_ss, ev_add_tt, ev_add_rr, ev_sub, ev_mul, ev_mod, ev_fdiv, ev_pow, ev_neg, ev_lt, ev_le, ev_gt, ev_ge, ev_eq_ii, ev_eq_ss, ev_eq_bb, ev_ne_ii, ev_ne_ss, ev_ne_bb, ev_is_n, ev_isnt_n, ev_int_i, ev_int_b, ev_min_ii, ev_max_ii, ev_abs, ev_tup_of, ev_tup_ofL, ev_lst_ofT, ev_lst_ofL, ev_len_t, ev_len_s, ev_len_r, ev_tru_b, ev_alloc, ev_tupD, ev_lstD, isi_tuple_non, isi_tuple_bl, isi_tuple_int, isi_tuple_str, isi_tuple_tup, isi_tuple_l, isi_tuple_f, isi_list_non, isi_list_bl, isi_list_int, isi_list_str, isi_list_tup, isi_list_l, isi_list_f, isi_bool_non, isi_bool_bl, isi_bool_int, isi_bool_str, isi_bool_tup, isi_bool_l, isi_bool_f, isi_int_non, isi_int_bl, isi_int_int, isi_int_str, isi_int_tup, isi_int_l, isi_int_f, isi_str_non, isi_str_bl, isi_str_int, isi_str_str, isi_str_tup, isi_str_l, isi_str_f, isi_dict_non, isi_dict_bl, isi_dict_int, isi_dict_str, isi_dict_tup, isi_dict_l, isi_dict_f, Ab.isNon, args, List.map, List.length_cons, List.length_nil, List.length_singleton, List.replicate, Nat.reduceSub, Nat.reduceAdd, Nat.zero_add, List.cons_append, List.nil_append, List.getElem?_cons_zero, List.getElem?_cons_succ, List.set_cons_zero, List.set_cons_succ, Option.some.injEq, decide_eq_true_eq, Bool.not_eq_true', decide_eq_false_iff_not, ite_true, ite_false, if_true, if_false, reduceIte, Bool.false_eq_true, Bool.not_true, Bool.not_false, Bool.true_eq_false, decide_true, decide_false, Nat.reduceLeDiff, Nat.reduceLT]
      cases i <;> (simp (decide := true) only [sat_ok, sat_bad, sat_bind, sat_ite, bind_ok, bind_bad, thn_nx, thn_rt, thn_bk, thn_ct, fin_rt, fin_nx, ev_v, ev_c, ev_op, ev_un, ev_nil, ev_cons, ev_tup, ev_lst, ev_call, ev_own, ev_sl, ev_no, ev_part, ev_and, ev_or, ev_not, ev_if, ev_t, ev_tb, ev_tnot, ev_tand, ev_tor, ev_mt, ev_mt0, ev_rgd, ev_set, ev_asg, ev_ret, ev_retN, ev_ex, ev_pass, ev_brk, ev_cont, ev_ifS, ev_aug, ev_gn, ev_gtp, ev_gnl, ev_gcs, ev_gsb, ev_for, ev_rg1, ev_rg2, ev_its, ev_enum, ev_lc, ev_yes, ev_add_ii, ev_add_ss, ev_add_tt, ev_add_rr, ev_sub, ev_mul, ev_mod, ev_fdiv, ev_pow, ev_neg, ev_lt, ev_le, ev_gt, ev_ge, ev_eq_ii, ev_eq_ss, ev_eq_bb, ev_ne_ii, ev_ne_ss, ev_ne_bb, ev_is_n, ev_isnt_n, ev_int_i, ev_int_b, ev_min_ii, ev_max_ii, ev_abs, ev_tup_of, ev_tup_ofL, ev_lst_ofT, ev_lst_ofL, ev_len_t, ev_len_s, ev_len_r, ev_tru_b, ev_alloc, ev_tupD, ev_lstD, isi_tuple_non, isi_tuple_bl, isi_tuple_int, isi_tuple_str, isi_tuple_tup, isi_tuple_l, isi_tuple_f, isi_list_non, isi_list_bl, isi_list_int, isi_list_str, isi_list_tup, isi_list_l, isi_list_f, isi_bool_non, isi_bool_bl, isi_bool_int, isi_bool_str, isi_bool_tup, isi_bool_l, isi_bool_f, isi_int_non, isi_int_bl, isi_int_int, isi_int_str, isi_int_tup, isi_int_l, isi_int_f, isi_str_non, isi_str_bl, isi_str_int, isi_str_str, isi_str_tup, isi_str_l, isi_str_f, isi_dict_non, isi_dict_bl, isi_dict_int, isi_dict_str, isi_dict_tup, isi_dict_l, isi_dict_f, Ab.isNon, args, List.map, List.length_cons, List.length_nil, List.length_singleton, List.replicate, Nat.reduceSub, Nat.reduceAdd, Nat.zero_add, List.cons_append, List.nil_append, List.getElem?_cons_zero, List.getElem?_cons_succ, List.set_cons_zero, List.set_cons_succ, Option.some.injEq, decide_eq_true_eq, Bool.not_eq_true', decide_eq_false_iff_not, ite_true, ite_false, if_true, if_false, reduceIte, Bool.false_eq_true, Bool.not_true, Bool.not_false, Bool.true_eq_false, decide_true, decide_false, Nat.reduceLeDiff, Nat.reduceLT]; exact ⟨by simp, Gr.app.trans .app⟩)
  | eq =>
    obtain ⟨i, rfl, hi⟩ := h1; obtain ⟨j, rfl, hj⟩ := h2
    refine ⟨.bl (decide (i = j)), ⟨_, rfl⟩, fin _ fun A => sat_body rfl (sat_seq ?_), fun A x y => ?_⟩
    · simp (decide := true) only [sat_ok, sat_bad, sat_bind, sat_ite, bind_ok, bind_bad, thn_nx, thn_rt, thn_bk, thn_ct, fin_rt, fin_nx, ev_v, ev_c, ev_op, ev_un, ev_nil, ev_cons, ev_tup, ev_lst, ev_call, ev_own, ev_sl, ev_no, ev_part, ev_and, ev_or, ev_not, ev_if, ev_t, ev_tb, ev_tnot, ev_tand, ev_tor, ev_mt, ev_mt0, ev_rgd, ev_set, ev_asg, ev_ret, ev_retN, ev_ex, ev_pass, ev_brk, ev_cont, ev_ifS, ev_aug, ev_gn, ev_gtp, ev_gnl, ev_gcs, ev_gsb, ev_for, ev_rg1, ev_rg2, ev_its, ev_enum, ev_lc, ev_yes, ev_add_ii, ev_add_ss, ev_add_tt, ev_add_rr, ev_sub, ev_mul, ev_mod, ev_fdiv, ev_pow, ev_neg, ev_lt, ev_le, ev_gt, ev_ge, ev_eq_ii, ev_eq_ss, ev_eq_bb, ev_ne_ii, ev_ne_ss, ev_ne_bb, ev_is_n, ev_isnt_n, ev_int_i, ev_int_b, ev_min_ii, ev_max_ii, ev_abs, ev_tup_of, ev_tup_ofL, ev_lst_ofT, ev_lst_ofL, ev_len_t, ev_len_s, ev_len_r, ev_tru_b, ev_alloc, ev_tupD, ev_lstD, isi_tuple_non, isi_tuple_bl, isi_tuple_int, isi_tuple_str, isi_tuple_tup, isi_tuple_l, isi_tuple_f, isi_list_non, isi_list_bl, isi_list_int, isi_list_str, isi_list_tup, isi_list_l, isi_list_f, isi_bool_non, isi_bool_bl, isi_bool_int, isi_bool_str, isi_bool_tup, isi_bool_l, isi_bool_f, isi_int_non, isi_int_bl, isi_int_int, isi_int_str, isi_int_tup, isi_int_l, isi_int_f, isi_str_non, isi_str_bl, isi_str_int, isi_str_str, isi_str_tup, isi_str_l, isi_str_f, isi_dict_non, isi_dict_bl, isi_dict_int, isi_dict_str, isi_dict_tup, isi_dict_l, isi_dict_f, Ab.isNon, args, List.map, List.length_cons, List.length_nil, List.length_singleton, List.replicate, Nat.reduceSub, Nat.reduceAdd, Nat.zero_add, List.cons_append, List.nil_append, List.getElem?_cons_zero, List.getElem?_cons_succ, List.set_cons_zero, List.set_cons_succ, Option.some.injEq, decide_eq_true_eq, Bool.not_eq_true', decide_eq_false_iff_not, ite_true, ite_false, if_true, if_false, reduceIte, Bool.false_eq_true, Bool.not_true, Bool.not_false, Bool.true_eq_false, decide_true, decide_false, Nat.reduceLeDiff, Nat.reduceLT]
      refine sat_seq ?_; simp (decide := true) only [sat_ok, sat_bad, sat_bind, sat_ite, bind_ok, bind_bad, thn_nx, thn_rt, thn_bk, thn_ct, fin_rt, fin_nx, ev_v, ev_c, ev_op, ev_un, ev_nil, ev_cons, ev_tup, ev_lst, ev_call, ev_own, ev_sl, ev_no, ev_part, ev_and, ev_or, ev_not, ev_if, ev_t, ev_tb, ev_tnot, ev_tand, ev_tor, ev_mt, ev_mt0, ev_rgd, ev_set, ev_asg, ev_ret, ev_retN, ev_ex, ev_pass, ev_brk, ev_cont, ev_ifS, ev_aug, ev_gn, ev_gtp, ev_gnl, ev_gcs, ev_gsb, ev_for, ev_rg1, ev_rg2, ev_its, ev_enum, ev_lc, ev_yes, ev_add_ii, ev_add_ss, ev_add_tt, ev_add_rr, ev_sub, ev_mul, ev_mod, ev_fdiv, ev_pow, ev_neg, ev_lt, ev_le, ev_gt, ev_ge, ev_eq_ii, ev_eq_ss, ev_eq_bb, ev_ne_ii, ev_ne_ss, ev_ne_bb, ev_is_n, ev_isnt_n, ev_int_i, ev_int_b, ev_min_ii, ev_max_ii, ev_abs, ev_tup_of, ev_tup_ofL, ev_lst_ofT, ev_lst_ofL, ev_len_t, ev_len_s, ev_len_r, ev_tru_b, ev_alloc, ev_tupD, ev_lstD, isi_tuple_non, isi_tuple_bl, isi_tuple_int, isi_tuple_str, isi_tuple_tup, isi_tuple_l, isi_tuple_f, isi_list_non, isi_list_bl, isi_list_int, isi_list_str, isi_list_tup, isi_list_l, isi_list_f, isi_bool_non, isi_bool_bl, isi_bool_int, isi_bool_str, isi_bool_tup, isi_bool_l, isi_bool_f, isi_int_non, isi_int_bl, isi_int_int, isi_int_str, isi_int_tup, isi_int_l, isi_int_f, isi_str_non, isi_str_bl, isi_str_int, isi_str_str, isi_str_tup, isi_str_l, isi_str_f, isi_dict_non, isi_dict_bl, isi_dict_int, isi_dict_str, isi_dict_tup, isi_dict_l, isi_dict_f, Ab.isNon, args, List.map, List.length_cons, List.length_nil, List.length_singleton, List.replicate, Nat.reduceSub, Nat.reduceAdd, Nat.zero_add, List.cons_append, List.nil_append, List.getElem?_cons_zero, List.getElem?_cons_succ, List.set_cons_zero, List.set_cons_succ, Option.some.injEq, decide_eq_true_eq, Bool.not_eq_true', decide_eq_false_iff_not, ite_true, ite_false, if_true, if_false, reduceIte, Bool.false_eq_true, Bool.not_true, Bool.not_false, Bool.true_eq_false, decide_true, decide_false, Nat.reduceLeDiff, Nat.reduceLT]
      refine sat_seq ?_; simp (decide := true) only [sat_ok, sat_bad, sat_bind, sat_ite, bind_ok, bind_bad, thn_nx, thn_rt, thn_bk, thn_ct, fin_rt, fin_nx, ev_v, ev_c, ev_op, ev_un, ev_nil, ev_cons, ev_tup, ev_lst, ev_call, ev_own, ev_sl, ev_no, ev_part, ev_and, ev_or, ev_not, ev_if, ev_t, ev_tb, ev_tnot, ev_tand, ev_tor, ev_mt, ev_mt0, ev_rgd, ev_set, ev_asg, ev_ret, ev_retN, ev_ex, ev_pass, ev_brk, ev_cont, ev_ifS, ev_aug, ev_gn, ev_gtp, ev_gnl, ev_gcs, ev_gsb, ev_for, ev_rg1, ev_rg2, ev_its, ev_enum, ev_lc, ev_yes, ev_add_ii, ev_add_ss, ev_add_tt, ev_add_rr, ev_sub, ev_mul, ev_mod, ev_fdiv, ev_pow, ev_neg, ev_lt, ev_le, ev_gt, ev_ge, ev_eq_ii, ev_eq_ss, ev_eq_bb, ev_ne_ii, ev_ne_ss, ev_ne_bb, ev_is_n, ev_isnt_n, ev_int_i, ev_int_b, ev_min_ii, ev_max_ii, ev_abs, ev_tup_of, ev_tup_ofL, ev_lst_ofT, ev_lst_ofL, ev_len_t, ev_len_s, ev_len_r, ev_tru_b, ev_alloc, ev_tupD, ev_lstD, isi_tuple_non, isi_tuple_bl, isi_tuple_int, isi_tuple_str, isi_tuple_tup, isi_tuple_l, isi_tuple_f, isi_list_non, isi_list_bl, isi_list_int, isi_list_str, isi_list_tup, isi_list_l, isi_list_f, isi_bool_non, isi_bool_bl, isi_bool_int, isi_bool_str, isi_bool_tup, isi_bool_l, isi_bool_f, isi_int_non, isi_int_bl, isi_int_int, isi_int_str, isi_int_tup, isi_int_l, isi_int_f, isi_str_non, isi_str_bl, isi_str_int, isi_str_str, isi_str_tup, isi_str_l, isi_str_f, isi_dict_non, isi_dict_bl, isi_dict_int, isi_dict_str, isi_dict_tup, isi_dict_l, isi_dict_f, Ab.isNon, args, List.map, List.length_cons, List.length_nil, List.length_singleton, List.replicate, Nat.reduceSub, Nat.reduceAdd, Nat.zero_add, List.cons_append, List.nil_append, List.getElem?_cons_zero, List.getElem?_cons_succ, List.set_cons_zero, List.set_cons_succ, Option.some.injEq, decide_eq_true_eq, Bool.not_eq_true', decide_eq_false_iff_not, ite_true, ite_false, if_true, if_false, reduceIte, Bool.false_eq_true, Bool.not_true, Bool.not_false, Bool.true_eq_false, decide_true, decide_false, Nat.reduceLeDiff, Nat.reduceLT]
      refine sat_seq ?_; simp (decide := true) only [sat_ok, sat_bad, sat_bind, sat_ite, bind_ok, bind_bad, thn_nx, thn_rt, thn_bk, thn_ct, fin_rt, fin_nx, ev_v, ev_c, ev_op, ev_un, ev_nil, ev_cons, ev_tup, ev_lst, ev_call, ev_own, ev_sl, ev_no, ev_part, ev_and, ev_or, ev_not, ev_if, ev_t, ev_tb, ev_tnot, ev_tand, ev_tor, ev_mt, ev_mt0, ev_rgd, ev_set, ev_asg, ev_ret, ev_retN, ev_ex, ev_pass, ev_brk, ev_cont, ev_ifS, ev_aug, ev_gn, ev_gtp, ev_gnl, ev_gcs, ev_gsb, ev_for, ev_rg1, ev_rg2, ev_its, ev_enum, ev_lc, ev_yes, ev_add_ii, ev_add_ss, ev_add_tt, ev_add_rr, ev_sub, ev_mul, ev_mod, ev_fdiv, ev_pow, ev_neg, ev_lt, ev_le, ev_gt, ev_ge, ev_eq_ii, ev_eq_ss, ev_eq_bb, ev_ne_ii, ev_ne_ss, ev_ne_bb, ev_is_n, ev_isnt_n, ev_int_i, ev_int_b, ev_min_ii, ev_max_ii, ev_abs, ev_tup_of, ev_tup_ofL, ev_lst_ofT, ev_lst_ofL, ev_len_t, ev_len_s, ev_len_r, ev_tru_b, ev_alloc, ev_tupD, ev_lstD, isi_tuple_non, isi_tuple_bl, isi_tuple_int, isi_tuple_str, isi_tuple_tup, isi_tuple_l, isi_tuple_f, isi_list_non, isi_list_bl, isi_list_int, isi_list_str, isi_list_tup, isi_list_l, isi_list_f, isi_bool_non, isi_bool_bl, isi_bool_int, isi_bool_str, isi_bool_tup, isi_bool_l, isi_bool_f, isi_int_non, isi_int_bl, isi_int_int, isi_int_str, isi_int_tup, isi_int_l, isi_int_f, isi_str_non, isi_str_bl, isi_str_int, isi_str_str, isi_str_tup, isi_str_l, isi_str_f, isi_dict_non, isi_dict_bl, isi_dict_int, isi_dict_str, isi_dict_tup, isi_dict_l, isi_dict_f, Ab.isNon, args, List.map, List.length_cons, List.length_nil, List.length_singleton, List.replicate, Nat.reduceSub, Nat.reduceAdd, Nat.zero_add, List.cons_append, List.nil_append, List.getElem?_cons_zero, List.getElem?_cons_succ, List.set_cons_zero, List.set_cons_succ, Option.some.injEq, decide_eq_true_eq, Bool.not_eq_true', decide_eq_false_iff_not, ite_true, ite_false, if_true, if_false, reduceIte, Bool.false_eq_true, Bool.not_true, Bool.not_false, Bool.true_eq_false, decide_true, decide_false, Nat.reduceLeDiff, Nat.reduceLT]
      refine sat_seq ?_; simp (decide := true) only [sat_ok, sat_bad, sat_bind, sat_ite, bind_ok, bind_bad, thn_nx, thn_rt, thn_bk, thn_ct, fin_rt, fin_nx, ev_v, ev_c, ev_op, ev_un, ev_nil, ev_cons, ev_tup, ev_lst, ev_call, ev_own, ev_sl, ev_no, ev_part, ev_and, ev_or, ev_not, ev_if, ev_t, ev_tb, ev_tnot, ev_tand, ev_tor, ev_mt, ev_mt0, ev_rgd, ev_set, ev_asg, ev_ret, ev_retN, ev_ex, ev_pass, ev_brk, ev_cont, ev_ifS, ev_aug, ev_gn, ev_gtp, ev_gnl, ev_gcs, ev_gsb, ev_for, ev_rg1, ev_rg2, ev_its, ev_enum, ev_lc, ev_yes, ev_add_ii, ev_add_ss, ev_add_tt, ev_add_rr, ev_sub, ev_mul, ev_mod, ev_fdiv, ev_pow, ev_neg, ev_lt, ev_le, ev_gt, ev_ge, ev_eq_ii, ev_eq_ss, ev_eq_bb, ev_ne_ii, ev_ne_ss, ev_ne_bb, ev_is_n, ev_isnt_n, ev_int_i, ev_int_b, ev_min_ii, ev_max_ii, ev_abs, ev_tup_of, ev_tup_ofL, ev_lst_ofT, ev_lst_ofL, ev_len_t, ev_len_s, ev_len_r, ev_tru_b, ev_alloc, ev_tupD, ev_lstD, isi_tuple_non, isi_tuple_bl, isi_tuple_int, isi_tuple_str, isi_tuple_tup, isi_tuple_l, isi_tuple_f, isi_list_non, isi_list_bl, isi_list_int, isi_list_str, isi_list_tup, isi_list_l, isi_list_f, isi_bool_non, isi_bool_bl, isi_bool_int, isi_bool_str, isi_bool_tup, isi_bool_l, isi_bool_f, isi_int_non, isi_int_bl, isi_int_int, isi_int_str, isi_int_tup, isi_int_l, isi_int_f, isi_str_non, isi_str_bl, isi_str_int, isi_str_str, isi_str_tup, isi_str_l, isi_str_f, isi_dict_non, isi_dict_bl, isi_dict_int, isi_dict_str, isi_dict_tup, isi_dict_l, isi_dict_f, Ab.isNon, args, List.map, List.length_cons, List.length_nil, List.length_singleton, List.replicate, Nat.reduceSub, Nat.reduceAdd, Nat.zero_add, List.cons_append, List.nil_append, List.getElem?_cons_zero, List.getElem?_cons_succ, List.set_cons_zero, List.set_cons_succ, Option.some.injEq, decide_eq_true_eq, Bool.not_eq_true', decide_eq_false_iff_not, ite_true, ite_false, if_true, if_false, reduceIte, Bool.false_eq_true, Bool.not_true, Bool.not_false, Bool.true_eq_false, decide_true, decide_false, Nat.reduceLeDiff, Nat.reduceLT]
      refine sat_seq ?_; simp (decide := true) only [sat_ok, sat_bad, sat_bind, sat_ite, bind_ok, bind_bad, thn_nx, thn_rt, thn_bk, thn_ct, fin_rt, fin_nx, ev_v, ev_c, ev_op, ev_un, ev_nil, ev_cons, ev_tup, ev_lst, ev_call, ev_own, ev_sl, ev_no, ev_part, ev_and, ev_or, ev_not, ev_if, ev_t, ev_tb, ev_tnot, ev_tand, ev_tor, ev_mt, ev_mt0, ev_rgd, ev_set, ev_asg, ev_ret, ev_retN, ev_ex, ev_pass, ev_brk, ev_cont, ev_ifS, ev_aug, ev_gn, ev_gtp, ev_gnl, ev_gcs, ev_gsb, ev_for, ev_rg1, ev_rg2, ev_its, ev_enum, ev_lc, ev_yes, ev_add_ii, ev_add_ss, ev_add_tt, ev_add_rr, ev_sub, ev_mul, ev_mod, ev_fdiv, ev_pow, ev_neg, ev_lt, ev_le, ev_gt, ev_ge, ev_eq_ii, ev_eq_ss, ev_eq_bb, ev_ne_ii, ev_ne_ss, ev_ne_bb, ev_is_n, ev_isnt_n, ev_int_i, ev_int_b, ev_min_ii, ev_max_ii, ev_abs, ev_tup_of, ev_tup_ofL, ev_lst_ofT, ev_lst_ofL, ev_len_t, ev_len_s, ev_len_r, ev_tru_b, ev_alloc, ev_tupD, ev_lstD, isi_tuple_non, isi_tuple_bl, isi_tuple_int, isi_tuple_str, isi_tuple_tup, isi_tuple_l, isi_tuple_f, isi_list_non, isi_list_bl, isi_list_int, isi_list_str, isi_list_tup, isi_list_l, isi_list_f, isi_bool_non, isi_bool_bl, isi_bool_int, isi_bool_str, isi_bool_tup, isi_bool_l, isi_bool_f, isi_int_non, isi_int_bl, isi_int_int, isi_int_str, isi_int_tup, isi_int_l, isi_int_f, isi_str_non, isi_str_bl, isi_str_int, isi_str_str, isi_str_tup, isi_str_l, isi_str_f, isi_dict_non, isi_dict_bl, isi_dict_int, isi_dict_str, isi_dict_tup, isi_dict_l, isi_dict_f, Ab.isNon, args, List.map, List.length_cons, List.length_nil, List.length_singleton, List.replicate, Nat.reduceSub, Nat.reduceAdd, Nat.zero_add, List.cons_append, List.nil_append, List.getElem?_cons_zero, List.getElem?_cons_succ, List.set_cons_zero, List.set_cons_succ, Option.some.injEq, decide_eq_true_eq, Bool.not_eq_true', decide_eq_false_iff_not, ite_true, ite_false, if_true, if_false, reduceIte, Bool.false_eq_true, Bool.not_true, Bool.not_false, Bool.true_eq_false, decide_true, decide_false, Nat.reduceLeDiff, Nat.reduceLT]
      refine sat_seq ?_; simp (decide := true) only [sat_ok, sat_bad, sat_bind, sat_ite, bind_ok, bind_bad, thn_nx, thn_rt, thn_bk, thn_ct, fin_rt, fin_nx, ev_v, ev_c, ev_op, ev_un, ev_nil, ev_cons, ev_tup, ev_lst, ev_call, ev_own, ev_sl, ev_no, ev_part, ev_and, ev_or, ev_not, ev_if, ev_t, ev_tb, ev_tnot, ev_tand, ev_tor, ev_mt, ev_mt0, ev_rgd, ev_set, ev_asg, ev_ret, ev_retN, ev_ex, ev_pass, ev_brk, ev_cont, ev_ifS, ev_aug, ev_gn, ev_gtp, ev_gnl, ev_gcs, ev_gsb, ev_for, ev_rg1, ev_rg2, ev_its, ev_enum, ev_lc, ev_yes, ev_add_ii, ev_add_ss, ev_add_tt, ev_add_rr, ev_sub, ev_mul, ev_mod, ev_fdiv, ev_pow, ev_neg, ev_lt, ev_le, ev_gt, ev_ge, ev_eq_ii, ev_eq_ss, ev_eq_bb, ev_ne_ii, ev_ne_ss, ev_ne_bb, ev_is_n, ev_isnt_n, ev_int_i, ev_int_b, ev_min_ii, ev_max_ii, ev_abs, ev_tup_of, ev_tup_ofL, ev_lst_ofT, ev_lst_ofL, ev_len_t, ev_len_s, ev_len_r, ev_tru_b, ev_alloc, ev_tupD, ev_lstD, isi_tuple_non, isi_tuple_bl, isi_tuple_int, isi_tuple_str, isi_tuple_tup, isi_tuple_l, isi_tuple_f, isi_list_non, isi_list_bl, isi_list_int, isi_list_str, isi_list_tup, isi_list_l, isi_list_f, isi_bool_non, isi_bool_bl, isi_bool_int, isi_bool_str, isi_bool_tup, isi_bool_l, isi_bool_f, isi_int_non, isi_int_bl, isi_int_int, isi_int_str, isi_int_tup, isi_int_l, isi_int_f, isi_str_non, isi_str_bl, isi_str_int, isi_str_str, isi_str_tup, isi_str_l, isi_str_f, isi_dict_non, isi_dict_bl, isi_dict_int, isi_dict_str, isi_dict_tup, isi_dict_l, isi_dict_f, Ab.isNon, args, List.map, List.length_cons, List.length_nil, List.length_singleton, List.replicate, Nat.reduceSub, Nat.reduceAdd, Nat.zero_add, List.cons_append, List.nil_append, List.getElem?_cons_zero, List.getElem?_cons_succ, List.set_cons_zero, List.set_cons_succ, Option.some.injEq, decide_eq_true_eq, Bool.not_eq_true', decide_eq_false_iff_not, ite_true, ite_false, if_true, if_false, reduceIte, Bool.false_eq_true, Bool.not_true, Bool.not_false, Bool.true_eq_false, decide_true, decide_false, Nat.reduceLeDiff, Nat.reduceLT]
      refine sat_seq ?_; simp (decide := true) only [sat_ok, sat_bad, sat_bind, sat_ite, bind_ok, bind_bad, thn_nx, thn_rt, thn_bk, thn_ct, fin_rt, fin_nx, ev_v, ev_c, ev_op, ev_un, ev_nil, ev_cons, ev_tup, ev_lst, ev_call, ev_own, ev_sl, ev_no, ev_part, ev_and, ev_or, ev_not, ev_if, ev_t, ev_tb, ev_tnot, ev_tand, ev_tor, ev_mt, ev_mt0, ev_rgd, ev_set, ev_asg, ev_ret, ev_retN, ev_ex, ev_pass, ev_brk, ev_cont, ev_ifS, ev_aug, ev_gn, ev_gtp, ev_gnl, ev_gcs, ev_gsb, ev_for, ev_rg1, ev_rg2, ev_its, ev_enum, ev_lc, ev_yes, ev_add_ii, ev_add_ss, ev_add_tt, ev_add_rr, ev_sub, ev_mul, ev_mod, ev_fdiv, ev_pow, ev_neg, ev_lt, ev_le, ev_gt, ev_ge, ev_eq_ii, ev_eq_ss, ev_eq_bb, ev_ne_ii, ev_ne_ss, ev_ne_bb, ev_is_n, ev_isnt_n, ev_int_i, ev_int_b, ev_min_ii, ev_max_ii, ev_abs, ev_tup_of, ev_tup_ofL, ev_lst_ofT, ev_lst_ofL, ev_len_t, ev_len_s, ev_len_r, ev_tru_b, ev_alloc, ev_tupD, ev_lstD, isi_tuple_non, isi_tuple_bl, isi_tuple_int, isi_tuple_str, isi_tuple_tup, isi_tuple_l, isi_tuple_f, isi_list_non, isi_list_bl, isi_list_int, isi_list_str, isi_list_tup, isi_list_l, isi_list_f, isi_bool_non, isi_bool_bl, isi_bool_int, isi_bool_str, isi_bool_tup, isi_bool_l, isi_bool_f, isi_int_non, isi_int_bl, isi_int_int, isi_int_str, isi_int_tup, isi_int_l, isi_int_f, isi_str_non, isi_str_bl, isi_str_int, isi_str_str, isi_str_tup, isi_str_l, isi_str_f, isi_dict_non, isi_dict_bl, isi_dict_int, isi_dict_str, isi_dict_tup, isi_dict_l, isi_dict_f, Ab.isNon, args, List.map, List.length_cons, List.length_nil, List.length_singleton, List.replicate, Nat.reduceSub, Nat.reduceAdd, Nat.zero_add, List.cons_append, List.nil_append, List.getElem?_cons_zero, List.getElem?_cons_succ, List.set_cons_zero, List.set_cons_succ, Option.some.injEq, decide_eq_true_eq, Bool.not_eq_true', decide_eq_false_iff_not, ite_true, ite_false, if_true, if_false, reduceIte, Bool.false_eq_true, Bool.not_true, Bool.not_false, Bool.true_eq_false, decide_true, decide_false, Nat.reduceLeDiff, Nat.reduceLT]
    · unfold vtail; refine sat_seq ?_
      have q := fun A => pick A "==" false (by decide)
      simp (decide := true) only [sat_ok, sat_bad, sat_bind, sat_ite, bind_ok, bind_bad, thn_nx, thn_rt, thn_bk, thn_ct, fin_rt, fin_nx, ev_v, ev_c, ev_op, ev_un, ev_nil, ev_cons, ev_tup, ev_lst, ev_call, ev_own, ev_sl, ev_no, ev_part, ev_and, ev_or, ev_not, ev_if, ev_t, ev_tb, ev_tnot, ev_tand, ev_tor, ev_mt, ev_mt0, ev_rgd, ev_set, ev_asg, ev_ret, ev_retN, ev_ex, ev_pass, ev_brk, ev_cont, ev_ifS, ev_aug, ev_gn, ev_gtp, ev_gnl, ev_gcs, ev_gsb, ev_for, ev_rg1, ev_rg2, ev_its, ev_enum, ev_lc, ev_yes, ev_add_ii, ev_add_ss, ev_add_tt, ev_add_rr, ev_sub, ev_mul, ev_mod, ev_fdiv, ev_pow, ev_neg, ev_lt, ev_le, ev_gt, ev_ge, ev_eq_ii, ev_eq_ss, ev_eq_bb, ev_ne_ii, ev_ne_ss, ev_ne_bb, ev_is_n, ev_isnt_n, ev_int_i, ev_int_b, ev_min_ii, ev_max_ii, ev_abs, ev_tup_of, ev_tup_ofL, ev_lst_ofT, ev_lst_ofL, ev_len_t, ev_len_s, ev_len_r, ev_tru_b, ev_alloc, ev_tupD, ev_lstD, isi_tuple_non, isi_tuple_bl, isi_tuple_int, isi_tuple_str, isi_tuple_tup, isi_tuple_l, isi_tuple_f, isi_list_non, isi_list_bl, isi_list_int, isi_list_str, isi_list_tup, isi_list_l, isi_list_f, isi_bool_non, isi_bool_bl, isi_bool_int, isi_bool_str, isi_bool_tup, isi_bool_l, isi_bool_f, isi_int_non, isi_int_bl, isi_int_int, isi_int_str, isi_int_tup, isi_int_l, isi_int_f, isi_str_non, isi_str_bl, isi_str_int, isi_str_str, isi_str_tup, isi_str_l, isi_str_f, isi_dict_non, isi_dict_bl, isi_dict_int, isi_dict_str, isi_dict_tup, isi_dict_l, isi_dict_f, Ab.isNon, args, List.map, List.length_cons, List.length_nil, List.length_singleton, List.replicate, Nat.reduceSub, Nat.reduceAdd, Nat.zero_add, List.cons_append, List.nil_append, List.getElem?_cons_zero, List.getElem?_cons_succ, List.set_cons_zero, List.set_cons_succ, Option.some.injEq, decide_eq_true_eq, Bool.not_eq_true', decide_eq_false_iff_not, ite_true, ite_false, if_true, if_false, reduceIte, Bool.false_eq_true, Bool.not_true, Bool.not_false, Bool.true_eq_false, decide_true, decide_false, Nat.reduceLeDiff, Nat.reduceLT, q]
      refine sat_seq ?_
      have q := fun A => pick2 A "==" false (by decide)
      simp (decide := true) only [sat_ok, sat_bad, sat_bind, sat_ite, bind_ok, bind_bad, thn_nx, thn_rt, thn_bk, thn_ct, fin_rt, fin_nx, ev_v, ev_c, ev_op, ev_un, ev_nil, ev_cons, ev_tup, ev_lst, ev_call, ev_own, ev_sl, ev_no, ev_part, ev_and, ev_or, ev_not, ev_if, ev_t, ev_tb, ev_tnot, ev_tand, ev_tor, ev_mt, ev_mt0, ev_rgd, ev_set, ev_asg, ev_ret, ev_retN, ev_ex, ev_pass, ev_brk, ev_cont, ev_ifS, ev_aug, ev_gn, ev_gtp, ev_gnl, ev_gcs, ev_gsb, ev_for, ev_rg1, ev_rg2, ev_its, ev_enum, ev_lc, ev_yes, ev_add_ii, ev_add_ss, ev_add_tt, ev_add_rr, ev_sub, ev_mul, ev_mod, ev_fdiv, ev_pow, ev_neg, ev_lt, ev_le, ev_gt, ev_ge, ev_eq_ii, ev_eq_ss, ev_eq_bb, ev_ne_ii, ev_ne_ss, ev_ne_bb, ev_is_n, ev_isnt_n, ev_int_i, ev_int_b, ev_min_ii, ev_max_ii, ev_abs, ev_tup_of, ev_tup_ofL, ev_lst_ofT, ev_lst_ofL, ev_len_t, ev_len_s, ev_len_r, ev_tru_b, ev_alloc, ev_tupD, ev_lstD, isi_tuple_non, isi_tuple_bl, isi_tuple_int, isi_tuple_str, isi_tuple_tup, isi_tuple_l, isi_tuple_f, isi_list_non, isi_list_bl, isi_list_int, isi_list_str, isi_list_tup, isi_list_l, isi_list_f, isi_bool_non, isi_bool_bl, isi_bool_int, isi_bool_str, isi_bool_tup, isi_bool_l, isi_bool_f, isi_int_non, isi_int_bl, isi_int_int, isi_int_str, isi_int_tup, isi_int_l, isi_int_f, isi_str_non, isi_str_bl, isi_str_int, isi_str_str, isi_str_tup, isi_str_l, isi_str_f, isi_dict_non, isi_dict_bl, isi_dict_int, isi_dict_str, isi_dict_tup, isi_dict_l, isi_dict_f, Ab.isNon, args, List.map, List.length_cons, List.length_nil, List.length_singleton, List.replicate, Nat.reduceSub, Nat.reduceAdd, Nat.zero_add, List.cons_append, List.nil_append, List.getElem?_cons_zero, List.getElem?_cons_succ, List.set_cons_zero, List.set_cons_succ, Option.some.injEq, decide_eq_true_eq, Bool.not_eq_true', decide_eq_false_iff_not, ite_true, ite_false, if_true, if_false, reduceIte, Bool.false_eq_true, Bool.not_true, Bool.not_false, Bool.true_eq_false, decide_true, decide_false, Nat.reduceLeDiff, Nat.reduceLT, q]
      refine sat_seq ?_; simp (decide := true) only [sat_ok, sat_bad, sat_bind, sat_ite, bind_ok, bind_bad, thn_nx, thn_rt, thn_bk, thn_ct, fin_rt, fin_nx, ev_v, ev_c, ev_op, ev_un, ev_nil, ev_cons, ev_tup, ev_lst, ev_call, ev_own, ev_sl, ev_no, ev_part, ev_and, ev_or, ev_not, ev_if, ev_t, ev_tb, ev_tnot, ev_tand, ev_tor, ev_mt, ev_mt0, ev_rgd, ev_set, ev_asg, ev_ret, ev_retN, ev_ex, ev_pass, ev_brk, ev_cont, ev_ifS, ev_aug, ev_gn, ev_gtp, ev_gnl, ev_gcs, ev_gsb, ev_for, ev_rg1, ev_rg2, ev_its, ev_enum, ev_lc, ev_yes, ev_add_ii, ev_add_ss, ev_add_tt, ev_add_rr, ev_sub, ev_mul, ev_mod, ev_fdiv, ev_pow, ev_neg, ev_lt, ev_le, ev_gt, ev_ge, ev_eq_ii, ev_eq_ss, ev_eq_bb, ev_ne_ii, ev_ne_ss, ev_ne_bb, ev_is_n, ev_isnt_n, ev_int_i, ev_int_b, ev_min_ii, ev_max_ii, ev_abs, ev_tup_of, ev_tup_ofL, ev_lst_ofT, ev_lst_ofL, ev_len_t, ev_len_s, ev_len_r, ev_tru_b, ev_alloc, ev_tupD, ev_lstD, isi_tuple_non, isi_tuple_bl, isi_tuple_int, isi_tuple_str, isi_tuple_tup, isi_tuple_l, isi_tuple_f, isi_list_non, isi_list_bl, isi_list_int, isi_list_str, isi_list_tup, isi_list_l, isi_list_f, isi_bool_non, isi_bool_bl, isi_bool_int, isi_bool_str, isi_bool_tup, isi_bool_l, isi_bool_f, isi_int_non, isi_int_bl, isi_int_int, isi_int_str, isi_int_tup, isi_int_l, isi_int_f, isi_str_non, isi_str_bl, isi_str_int, isi_str_str, isi_str_tup, isi_str_l, isi_str_f, isi_dict_non, isi_dict_bl, isi_dict_int, isi_dict_str, isi_dict_tup, isi_dict_l, isi_dict_f, Ab.isNon, args, List.map, List.length_cons, List.length_nil, List.length_singleton, List.replicate, Nat.reduceSub, Nat.reduceAdd, Nat.zero_add, List.cons_append, List.nil_append, List.getElem?_cons_zero, List.getElem?_cons_succ, List.set_cons_zero, List.set_cons_succ, Option.some.injEq, decide_eq_true_eq, Bool.not_eq_true', decide_eq_false_iff_not, ite_true, ite_false, if_true, if_false, reduceIte, Bool.false_eq_true, Bool.not_true, Bool.not_false, Bool.true_eq_false, decide_true, decide_false, Nat.reduceLeDiff, Nat.reduceLT]
      refine sat_seq ?_; simp (decide := true) only [sat_ok, sat_bad, sat_bind, sat_ite, bind_ok, bind_bad, thn_nx, thn_rt, thn_bk, thn_ct, fin_rt, fin_nx, ev_v, ev_c, ev_op, ev_un, ev_nil, ev_cons, ev_tup, ev_lst, ev_call, ev_own, ev_sl, ev_no, ev_part, ev_and, ev_or, ev_not, ev_if, ev_t, ev_tb, ev_tnot, ev_tand, ev_tor, ev_mt, ev_mt0, ev_rgd, ev_set, ev_asg, ev_ret, ev_retN, ev_ex, ev_pass, ev_brk, ev_cont, ev_ifS, ev_aug, ev_gn, ev_gtp, ev_gnl, ev_gcs, ev_gsb, ev_for, ev_rg1, ev_rg2, ev_its, ev_enum, ev_lc, ev_yes, ev_add_ii, ev_add_ss, ev_add_tt, ev_add_rr, ev_sub, ev_mul, ev_mod, ev_fdiv, ev_pow, ev_neg, ev_lt, ev_le, ev_gt, ev_ge, ev_eq_ii, ev_eq_ss, ev_eq_bb, ev_ne_ii, ev_ne_ss, ev_ne_bb, ev_is_n, ev_isnt_n, ev_int_i, ev_int_b, ev_min_ii, ev_max_ii, ev_abs, ev_tup_of, ev_tup_ofL, ev_lst_ofT, ev_lst_ofL, ev_len_t, ev_len_s, ev_len_r, ev_tru_b, ev_alloc, ev_tupD, ev_lstD, isi_tuple_non, isi_tuple_bl, isi_tuple_int, isi_tuple_str, isi_tuple_tup, isi_tuple_l, isi_tuple_f, isi_list_non, isi_list_bl, isi_list_int, isi_list_str, isi_list_tup, isi_list_l, isi_list_f, isi_bool_non, isi_bool_bl, isi_bool_int, isi_bool_str, isi_bool_tup, isi_bool_l, isi_bool_f, isi_int_non, isi_int_bl, isi_int_int, isi_int_str, isi_int_tup, isi_int_l, isi_int_f, isi_str_non, isi_str_bl, isi_str_int, isi_str_str, isi_str_tup, isi_str_l, isi_str_f, isi_dict_non, isi_dict_bl, isi_dict_int, isi_dict_str, isi_dict_tup, isi_dict_l, isi_dict_f, Ab.isNon, args, List.map, List.length_cons, List.length_nil, List.length_singleton, List.replicate, Nat.reduceSub, Nat.reduceAdd, Nat.zero_add, List.cons_append, List.nil_append, List.getElem?_cons_zero, List.getElem?_cons_succ, List.set_cons_zero, List.set_cons_succ, Option.some.injEq, decide_eq_true_eq, Bool.not_eq_true', decide_eq_false_iff_not, ite_true, ite_false, if_true, if_false, reduceIte, Bool.false_eq_true, Bool.not_true, Bool.not_false, Bool.true_eq_false, decide_true, decide_false, Nat.reduceLeDiff, Nat.reduceLT]
      exact ⟨by simp, Gr.app.trans .app⟩
  | same =>
    obtain ⟨b, hb⟩ : ∃ b, scalD v1 v2 = some b := by
      rcases h1 with rfl | ⟨i, rfl⟩ <;> rcases h2 with rfl | ⟨j, rfl⟩ <;> exact ⟨_, rfl⟩
    refine ⟨.bl b, ⟨_, rfl⟩, fin _ fun A => sat_body rfl (sat_seq ?_), fun A x y => ?_⟩
    · simp (decide := true) only [sat_ok, sat_bad, sat_bind, sat_ite, bind_ok, bind_bad, thn_nx, thn_rt, thn_bk, thn_ct, fin_rt, fin_nx, ev_v, ev_c, ev_op, ev_un, ev_nil, ev_cons, ev_tup, ev_lst, ev_call, ev_own, ev_sl, ev_no, ev_part, ev_and, ev_or, ev_not, ev_if, ev_t, ev_tb, ev_tnot, ev_tand, ev_tor, ev_mt, ev_mt0, ev_rgd, ev_set, ev_asg, ev_ret, ev_retN, ev_ex, ev_pass, ev_brk, ev_cont, ev_ifS, ev_aug, ev_gn, ev_gtp, ev_gnl, ev_gcs, ev_gsb, ev_for, ev_rg1, ev_rg2, ev_its, ev_enum, ev_lc, ev_yes, ev_add_ii, ev_add_ss, ev_add_tt, ev_add_rr, ev_sub, ev_mul, ev_mod, ev_fdiv, ev_pow, ev_neg, ev_lt, ev_le, ev_gt, ev_ge, ev_eq_ii, ev_eq_ss, ev_eq_bb, ev_ne_ii, ev_ne_ss, ev_ne_bb, ev_is_n, ev_isnt_n, ev_int_i, ev_int_b, ev_min_ii, ev_max_ii, ev_abs, ev_tup_of, ev_tup_ofL, ev_lst_ofT, ev_lst_ofL, ev_len_t, ev_len_s, ev_len_r, ev_tru_b, ev_alloc, ev_tupD, ev_lstD, isi_tuple_non, isi_tuple_bl, isi_tuple_int, isi_tuple_str, isi_tuple_tup, isi_tuple_l, isi_tuple_f, isi_list_non, isi_list_bl, isi_list_int, isi_list_str, isi_list_tup, isi_list_l, isi_list_f, isi_bool_non, isi_bool_bl, isi_bool_int, isi_bool_str, isi_bool_tup, isi_bool_l, isi_bool_f, isi_int_non, isi_int_bl, isi_int_int, isi_int_str, isi_int_tup, isi_int_l, isi_int_f, isi_str_non, isi_str_bl, isi_str_int, isi_str_str, isi_str_tup, isi_str_l, isi_str_f, isi_dict_non, isi_dict_bl, isi_dict_int, isi_dict_str, isi_dict_tup, isi_dict_l, isi_dict_f, Ab.isNon, args, List.map, List.length_cons, List.length_nil, List.length_singleton, List.replicate, Nat.reduceSub, Nat.reduceAdd, Nat.zero_add, List.cons_append, List.nil_append, List.getElem?_cons_zero, List.getElem?_cons_succ, List.set_cons_zero, List.set_cons_succ, Option.some.injEq, decide_eq_true_eq, Bool.not_eq_true', decide_eq_false_iff_not, ite_true, ite_false, if_true, if_false, reduceIte, Bool.false_eq_true, Bool.not_true, Bool.not_false, Bool.true_eq_false, decide_true, decide_false, Nat.reduceLeDiff, Nat.reduceLT]
      refine sat_seq ?_; simp (decide := true) only [sat_ok, sat_bad, sat_bind, sat_ite, bind_ok, bind_bad, thn_nx, thn_rt, thn_bk, thn_ct, fin_rt, fin_nx, ev_v, ev_c, ev_op, ev_un, ev_nil, ev_cons, ev_tup, ev_lst, ev_call, ev_own, ev_sl, ev_no, ev_part, ev_and, ev_or, ev_not, ev_if, ev_t, ev_tb, ev_tnot, ev_tand, ev_tor, ev_mt, ev_mt0, ev_rgd, ev_set, ev_asg, ev_ret, ev_retN, ev_ex, ev_pass, ev_brk, ev_cont, ev_ifS, ev_aug, ev_gn, ev_gtp, ev_gnl, ev_gcs, ev_gsb, ev_for, ev_rg1, ev_rg2, ev_its, ev_enum, ev_lc, ev_yes, ev_add_ii, ev_add_ss, ev_add_tt, ev_add_rr, ev_sub, ev_mul, ev_mod, ev_fdiv, ev_pow, ev_neg, ev_lt, ev_le, ev_gt, ev_ge, ev_eq_ii, ev_eq_ss, ev_eq_bb, ev_ne_ii, ev_ne_ss, ev_ne_bb, ev_is_n, ev_isnt_n, ev_int_i, ev_int_b, ev_min_ii, ev_max_ii, ev_abs, ev_tup_of, ev_tup_ofL, ev_lst_ofT, ev_lst_ofL, ev_len_t, ev_len_s, ev_len_r, ev_tru_b, ev_alloc, ev_tupD, ev_lstD, isi_tuple_non, isi_tuple_bl, isi_tuple_int, isi_tuple_str, isi_tuple_tup, isi_tuple_l, isi_tuple_f, isi_list_non, isi_list_bl, isi_list_int, isi_list_str, isi_list_tup, isi_list_l, isi_list_f, isi_bool_non, isi_bool_bl, isi_bool_int, isi_bool_str, isi_bool_tup, isi_bool_l, isi_bool_f, isi_int_non, isi_int_bl, isi_int_int, isi_int_str, isi_int_tup, isi_int_l, isi_int_f, isi_str_non, isi_str_bl, isi_str_int, isi_str_str, isi_str_tup, isi_str_l, isi_str_f, isi_dict_non, isi_dict_bl, isi_dict_int, isi_dict_str, isi_dict_tup, isi_dict_l, isi_dict_f, Ab.isNon, args, List.map, List.length_cons, List.length_nil, List.length_singleton, List.replicate, Nat.reduceSub, Nat.reduceAdd, Nat.zero_add, List.cons_append, List.nil_append, List.getElem?_cons_zero, List.getElem?_cons_succ, List.set_cons_zero, List.set_cons_succ, Option.some.injEq, decide_eq_true_eq, Bool.not_eq_true', decide_eq_false_iff_not, ite_true, ite_false, if_true, if_false, reduceIte, Bool.false_eq_true, Bool.not_true, Bool.not_false, Bool.true_eq_false, decide_true, decide_false, Nat.reduceLeDiff, Nat.reduceLT]
      refine sat_seq ?_; simp (decide := true) only [sat_ok, sat_bad, sat_bind, sat_ite, bind_ok, bind_bad, thn_nx, thn_rt, thn_bk, thn_ct, fin_rt, fin_nx, ev_v, ev_c, ev_op, ev_un, ev_nil, ev_cons, ev_tup, ev_lst, ev_call, ev_own, ev_sl, ev_no, ev_part, ev_and, ev_or, ev_not, ev_if, ev_t, ev_tb, ev_tnot, ev_tand, ev_tor, ev_mt, ev_mt0, ev_rgd, ev_set, ev_asg, ev_ret, ev_retN, ev_ex, ev_pass, ev_brk, ev_cont, ev_ifS, ev_aug, ev_gn, ev_gtp, ev_gnl, ev_gcs, ev_gsb, ev_for, ev_rg1, ev_rg2, ev_its, ev_enum, ev_lc, ev_yes, ev_add_ii, ev_add_ss, ev_add_tt, ev_add_rr, ev_sub, ev_mul, ev_mod, ev_fdiv, ev_pow, ev_neg, ev_lt, ev_le, ev_gt, ev_ge, ev_eq_ii, ev_eq_ss, ev_eq_bb, ev_ne_ii, ev_ne_ss, ev_ne_bb, ev_is_n, ev_isnt_n, ev_int_i, ev_int_b, ev_min_ii, ev_max_ii, ev_abs, ev_tup_of, ev_tup_ofL, ev_lst_ofT, ev_lst_ofL, ev_len_t, ev_len_s, ev_len_r, ev_tru_b, ev_alloc, ev_tupD, ev_lstD, isi_tuple_non, isi_tuple_bl, isi_tuple_int, isi_tuple_str, isi_tuple_tup, isi_tuple_l, isi_tuple_f, isi_list_non, isi_list_bl, isi_list_int, isi_list_str, isi_list_tup, isi_list_l, isi_list_f, isi_bool_non, isi_bool_bl, isi_bool_int, isi_bool_str, isi_bool_tup, isi_bool_l, isi_bool_f, isi_int_non, isi_int_bl, isi_int_int, isi_int_str, isi_int_tup, isi_int_l, isi_int_f, isi_str_non, isi_str_bl, isi_str_int, isi_str_str, isi_str_tup, isi_str_l, isi_str_f, isi_dict_non, isi_dict_bl, isi_dict_int, isi_dict_str, isi_dict_tup, isi_dict_l, isi_dict_f, Ab.isNon, args, List.map, List.length_cons, List.length_nil, List.length_singleton, List.replicate, Nat.reduceSub, Nat.reduceAdd, Nat.zero_add, List.cons_append, List.nil_append, List.getElem?_cons_zero, List.getElem?_cons_succ, List.set_cons_zero, List.set_cons_succ, Option.some.injEq, decide_eq_true_eq, Bool.not_eq_true', decide_eq_false_iff_not, ite_true, ite_false, if_true, if_false, reduceIte, Bool.false_eq_true, Bool.not_true, Bool.not_false, Bool.true_eq_false, decide_true, decide_false, Nat.reduceLeDiff, Nat.reduceLT]
      refine sat_seq ?_; simp (decide := true) only [sat_ok, sat_bad, sat_bind, sat_ite, bind_ok, bind_bad, thn_nx, thn_rt, thn_bk, thn_ct, fin_rt, fin_nx, ev_v, ev_c, ev_op, ev_un, ev_nil, ev_cons, ev_tup, ev_lst, ev_call, ev_own, ev_sl, ev_no, ev_part, ev_and, ev_or, ev_not, ev_if, ev_t, ev_tb, ev_tnot, ev_tand, ev_tor, ev_mt, ev_mt0, ev_rgd, ev_set, ev_asg, ev_ret, ev_retN, ev_ex, ev_pass, ev_brk, ev_cont, ev_ifS, ev_aug, ev_gn, ev_gtp, ev_gnl, ev_gcs, ev_gsb, ev_for, ev_rg1, ev_rg2, ev_its, ev_enum, ev_lc, ev_yes, ev_add_ii, ev_add_ss, ev_add_tt, ev_add_rr, ev_sub, ev_mul, ev_mod, ev_fdiv, ev_pow, ev_neg, ev_lt, ev_le, ev_gt, ev_ge, ev_eq_ii, ev_eq_ss, ev_eq_bb, ev_ne_ii, ev_ne_ss, ev_ne_bb, ev_is_n, ev_isnt_n, ev_int_i, ev_int_b, ev_min_ii, ev_max_ii, ev_abs, ev_tup_of, ev_tup_ofL, ev_lst_ofT, ev_lst_ofL, ev_len_t, ev_len_s, ev_len_r, ev_tru_b, ev_alloc, ev_tupD, ev_lstD, isi_tuple_non, isi_tuple_bl, isi_tuple_int, isi_tuple_str, isi_tuple_tup, isi_tuple_l, isi_tuple_f, isi_list_non, isi_list_bl, isi_list_int, isi_list_str, isi_list_tup, isi_list_l, isi_list_f, isi_bool_non, isi_bool_bl, isi_bool_int, isi_bool_str, isi_bool_tup, isi_bool_l, isi_bool_f, isi_int_non, isi_int_bl, isi_int_int, isi_int_str, isi_int_tup, isi_int_l, isi_int_f, isi_str_non, isi_str_bl, isi_str_int, isi_str_str, isi_str_tup, isi_str_l, isi_str_f, isi_dict_non, isi_dict_bl, isi_dict_int, isi_dict_str, isi_dict_tup, isi_dict_l, isi_dict_f, Ab.isNon, args, List.map, List.length_cons, List.length_nil, List.length_singleton, List.replicate, Nat.reduceSub, Nat.reduceAdd, Nat.zero_add, List.cons_append, List.nil_append, List.getElem?_cons_zero, List.getElem?_cons_succ, List.set_cons_zero, List.set_cons_succ, Option.some.injEq, decide_eq_true_eq, Bool.not_eq_true', decide_eq_false_iff_not, ite_true, ite_false, if_true, if_false, reduceIte, Bool.false_eq_true, Bool.not_true, Bool.not_false, Bool.true_eq_false, decide_true, decide_false, Nat.reduceLeDiff, Nat.reduceLT]
      refine sat_seq ?_; simp (decide := true) only [sat_ok, sat_bad, sat_bind, sat_ite, bind_ok, bind_bad, thn_nx, thn_rt, thn_bk, thn_ct, fin_rt, fin_nx, ev_v, ev_c, ev_op, ev_un, ev_nil, ev_cons, ev_tup, ev_lst, ev_call, ev_own, ev_sl, ev_no, ev_part, ev_and, ev_or, ev_not, ev_if, ev_t, ev_tb, ev_tnot, ev_tand, ev_tor, ev_mt, ev_mt0, ev_rgd, ev_set, ev_asg, ev_ret, ev_retN, ev_ex, ev_pass, ev_brk, ev_cont, ev_ifS, ev_aug, ev_gn, ev_gtp, ev_gnl, ev_gcs, ev_gsb, ev_for, ev_rg1, ev_rg2, ev_its, ev_enum, ev_lc, ev_yes, ev_add_ii, ev_add_ss, ev_add_tt, ev_add_rr, ev_sub, ev_mul, ev_mod, ev_fdiv, ev_pow, ev_neg, ev_lt, ev_le, ev_gt, ev_ge, ev_eq_ii, ev_eq_ss, ev_eq_bb, ev_ne_ii, ev_ne_ss, ev_ne_bb, ev_is_n, ev_isnt_n, ev_int_i, ev_int_b, ev_min_ii, ev_max_ii, ev_abs, ev_tup_of, ev_tup_ofL, ev_lst_ofT, ev_lst_ofL, ev_len_t, ev_len_s, ev_len_r, ev_tru_b, ev_alloc, ev_tupD, ev_lstD, isi_tuple_non, isi_tuple_bl, isi_tuple_int, isi_tuple_str, isi_tuple_tup, isi_tuple_l, isi_tuple_f, isi_list_non, isi_list_bl, isi_list_int, isi_list_str, isi_list_tup, isi_list_l, isi_list_f, isi_bool_non, isi_bool_bl, isi_bool_int, isi_bool_str, isi_bool_tup, isi_bool_l, isi_bool_f, isi_int_non, isi_int_bl, isi_int_int, isi_int_str, isi_int_tup, isi_int_l, isi_int_f, isi_str_non, isi_str_bl, isi_str_int, isi_str_str, isi_str_tup, isi_str_l, isi_str_f, isi_dict_non, isi_dict_bl, isi_dict_int, isi_dict_str, isi_dict_tup, isi_dict_l, isi_dict_f, Ab.isNon, args, List.map, List.length_cons, List.length_nil, List.length_singleton, List.replicate, Nat.reduceSub, Nat.reduceAdd, Nat.zero_add, List.cons_append, List.nil_append, List.getElem?_cons_zero, List.getElem?_cons_succ, List.set_cons_zero, List.set_cons_succ, Option.some.injEq, decide_eq_true_eq, Bool.not_eq_true', decide_eq_false_iff_not, ite_true, ite_false, if_true, if_false, reduceIte, Bool.false_eq_true, Bool.not_true, Bool.not_false, Bool.true_eq_false, decide_true, decide_false, Nat.reduceLeDiff, Nat.reduceLT]
      refine sat_seq ?_; simp (decide := true) only [sat_ok, sat_bad, sat_bind, sat_ite, bind_ok, bind_bad, thn_nx, thn_rt, thn_bk, thn_ct, fin_rt, fin_nx, ev_v, ev_c, ev_op, ev_un, ev_nil, ev_cons, ev_tup, ev_lst, ev_call, ev_own, ev_sl, ev_no, ev_part, ev_and, ev_or, ev_not, ev_if, ev_t, ev_tb, ev_tnot, ev_tand, ev_tor, ev_mt, ev_mt0, ev_rgd, ev_set, ev_asg, ev_ret, ev_retN, ev_ex, ev_pass, ev_brk, ev_cont, ev_ifS, ev_aug, ev_gn, ev_gtp, ev_gnl, ev_gcs, ev_gsb, ev_for, ev_rg1, ev_rg2, ev_its, ev_enum, ev_lc, ev_yes, ev_add_ii, ev_add_ss, ev_add_tt, ev_add_rr, ev_sub, ev_mul, ev_mod, ev_fdiv, ev_pow, ev_neg, ev_lt, ev_le, ev_gt, ev_ge, ev_eq_ii, ev_eq_ss, ev_eq_bb, ev_ne_ii, ev_ne_ss, ev_ne_bb, ev_is_n, ev_isnt_n, ev_int_i, ev_int_b, ev_min_ii, ev_max_ii, ev_abs, ev_tup_of, ev_tup_ofL, ev_lst_ofT, ev_lst_ofL, ev_len_t, ev_len_s, ev_len_r, ev_tru_b, ev_alloc, ev_tupD, ev_lstD, isi_tuple_non, isi_tuple_bl, isi_tuple_int, isi_tuple_str, isi_tuple_tup, isi_tuple_l, isi_tuple_f, isi_list_non, isi_list_bl, isi_list_int, isi_list_str, isi_list_tup, isi_list_l, isi_list_f, isi_bool_non, isi_bool_bl, isi_bool_int, isi_bool_str, isi_bool_tup, isi_bool_l, isi_bool_f, isi_int_non, isi_int_bl, isi_int_int, isi_int_str, isi_int_tup, isi_int_l, isi_int_f, isi_str_non, isi_str_bl, isi_str_int, isi_str_str, isi_str_tup, isi_str_l, isi_str_f, isi_dict_non, isi_dict_bl, isi_dict_int, isi_dict_str, isi_dict_tup, isi_dict_l, isi_dict_f, Ab.isNon, args, List.map, List.length_cons, List.length_nil, List.length_singleton, List.replicate, Nat.reduceSub, Nat.reduceAdd, Nat.zero_add, List.cons_append, List.nil_append, List.getElem?_cons_zero, List.getElem?_cons_succ, List.set_cons_zero, List.set_cons_succ, Option.some.injEq, decide_eq_true_eq, Bool.not_eq_true', decide_eq_false_iff_not, ite_true, ite_false, if_true, if_false, reduceIte, Bool.false_eq_true, Bool.not_true, Bool.not_false, Bool.true_eq_false, decide_true, decide_false, Nat.reduceLeDiff, Nat.reduceLT]
      refine sat_seq ?_; simp (decide := true) only [sat_ok, sat_bad, sat_bind, sat_ite, bind_ok, bind_bad, thn_nx, thn_rt, thn_bk, thn_ct, fin_rt, fin_nx, ev_v, ev_c, ev_op, ev_un, ev_nil, ev_cons, ev_tup, ev_lst, ev_call, ev_own, ev_sl, ev_no, ev_part, ev_and, ev_or, ev_not, ev_if, ev_t, ev_tb, ev_tnot, ev_tand, ev_tor, ev_mt, ev_mt0, ev_rgd, ev_set, ev_asg, ev_ret, ev_retN, ev_ex, ev_pass, ev_brk, ev_cont, ev_ifS, ev_aug, ev_gn, ev_gtp, ev_gnl, ev_gcs, ev_gsb, ev_for, ev_rg1, ev_rg2, ev_its, ev_enum, ev_lc, ev_yes, ev_add_ii, ev_add_ss, ev_add_tt, ev_add_rr, ev_sub, ev_mul, ev_mod, ev_fdiv, ev_pow, ev_neg, ev_lt, ev_le, ev_gt, ev_ge, ev_eq_ii, ev_eq_ss, ev_eq_bb, ev_ne_ii, ev_ne_ss, ev_ne_bb, ev_is_n, ev_isnt_n, ev_int_i, ev_int_b, ev_min_ii, ev_max_ii, ev_abs, ev_tup_of, ev_tup_ofL, ev_lst_ofT, ev_lst_ofL, ev_len_t, ev_len_s, ev_len_r, ev_tru_b, ev_alloc, ev_tupD, ev_lstD, isi_tuple_non, isi_tuple_bl, isi_tuple_int, isi_tuple_str, isi_tuple_tup, isi_tuple_l, isi_tuple_f, isi_list_non, isi_list_bl, isi_list_int, isi_list_str, isi_list_tup, isi_list_l, isi_list_f, isi_bool_non, isi_bool_bl, isi_bool_int, isi_bool_str, isi_bool_tup, isi_bool_l, isi_bool_f, isi_int_non, isi_int_bl, isi_int_int, isi_int_str, isi_int_tup, isi_int_l, isi_int_f, isi_str_non, isi_str_bl, isi_str_int, isi_str_str, isi_str_tup, isi_str_l, isi_str_f, isi_dict_non, isi_dict_bl, isi_dict_int, isi_dict_str, isi_dict_tup, isi_dict_l, isi_dict_f, Ab.isNon, args, List.map, List.length_cons, List.length_nil, List.length_singleton, List.replicate, Nat.reduceSub, Nat.reduceAdd, Nat.zero_add, List.cons_append, List.nil_append, List.getElem?_cons_zero, List.getElem?_cons_succ, List.set_cons_zero, List.set_cons_succ, Option.some.injEq, decide_eq_true_eq, Bool.not_eq_true', decide_eq_false_iff_not, ite_true, ite_false, if_true, if_false, reduceIte, Bool.false_eq_true, Bool.not_true, Bool.not_false, Bool.true_eq_false, decide_true, decide_false, Nat.reduceLeDiff, Nat.reduceLT]
      refine sat_seq ?_; simp (decide := true) only [sat_ok, sat_bad, sat_bind, sat_ite, bind_ok, bind_bad, thn_nx, thn_rt, thn_bk, thn_ct, fin_rt, fin_nx, ev_v, ev_c, ev_op, ev_un, ev_nil, ev_cons, ev_tup, ev_lst, ev_call, ev_own, ev_sl, ev_no, ev_part, ev_and, ev_or, ev_not, ev_if, ev_t, ev_tb, ev_tnot, ev_tand, ev_tor, ev_mt, ev_mt0, ev_rgd, ev_set, ev_asg, ev_ret, ev_retN, ev_ex, ev_pass, ev_brk, ev_cont, ev_ifS, ev_aug, ev_gn, ev_gtp, ev_gnl, ev_gcs, ev_gsb, ev_for, ev_rg1, ev_rg2, ev_its, ev_enum, ev_lc, ev_yes, ev_add_ii, ev_add_ss, ev_add_tt, ev_add_rr, ev_sub, ev_mul, ev_mod, ev_fdiv, ev_pow, ev_neg, ev_lt, ev_le, ev_gt, ev_ge, ev_eq_ii, ev_eq_ss, ev_eq_bb, ev_ne_ii, ev_ne_ss, ev_ne_bb, ev_is_n, ev_isnt_n, ev_int_i, ev_int_b, ev_min_ii, ev_max_ii, ev_abs, ev_tup_of, ev_tup_ofL, ev_lst_ofT, ev_lst_ofL, ev_len_t, ev_len_s, ev_len_r, ev_tru_b, ev_alloc, ev_tupD, ev_lstD, isi_tuple_non, isi_tuple_bl, isi_tuple_int, isi_tuple_str, isi_tuple_tup, isi_tuple_l, isi_tuple_f, isi_list_non, isi_list_bl, isi_list_int, isi_list_str, isi_list_tup, isi_list_l, isi_list_f, isi_bool_non, isi_bool_bl, isi_bool_int, isi_bool_str, isi_bool_tup, isi_bool_l, isi_bool_f, isi_int_non, isi_int_bl, isi_int_int, isi_int_str, isi_int_tup, isi_int_l, isi_int_f, isi_str_non, isi_str_bl, isi_str_int, isi_str_str, isi_str_tup, isi_str_l, isi_str_f, isi_dict_non, isi_dict_bl, isi_dict_int, isi_dict_str, isi_dict_tup, isi_dict_l, isi_dict_f, Ab.isNon, args, List.map, List.length_cons, List.length_nil, List.length_singleton, List.replicate, Nat.reduceSub, Nat.reduceAdd, Nat.zero_add, List.cons_append, List.nil_append, List.getElem?_cons_zero, List.getElem?_cons_succ, List.set_cons_zero, List.set_cons_succ, Option.some.injEq, decide_eq_true_eq, Bool.not_eq_true', decide_eq_false_iff_not, ite_true, ite_false, if_true, if_false, reduceIte, Bool.false_eq_true, Bool.not_true, Bool.not_false, Bool.true_eq_false, decide_true, decide_false, Nat.reduceLeDiff, Nat.reduceLT, eq_sc hb]
    · unfold vtail; refine sat_seq ?_
      have q := fun A => pick A "same" false (by decide)
      simp (decide := true) only [sat_ok, sat_bad, sat_bind, sat_ite, bind_ok, bind_bad, thn_nx, thn_rt, thn_bk, thn_ct, fin_rt, fin_nx, ev_v, ev_c, ev_op, ev_un, ev_nil, ev_cons, ev_tup, ev_lst, ev_call, ev_own, ev_sl, ev_no, ev_part, ev_and, ev_or, ev_not, ev_if, ev_t, ev_tb, ev_tnot, ev_tand, ev_tor, ev_mt, ev_mt0, ev_rgd, ev_set, ev_asg, ev_ret, ev_retN, ev_ex, ev_pass, ev_brk, ev_cont, ev_ifS, ev_aug, ev_gn, ev_gtp, ev_gnl, ev_gcs, ev_gsb, ev_for, ev_rg1, ev_rg2, ev_its, ev_enum, ev_lc, ev_yes, ev_add_ii, ev_add_ss, ev_add_tt, ev_add_rr, ev_sub, ev_mul, ev_mod, ev_fdiv, ev_pow, ev_neg, ev_lt, ev_le, ev_gt, ev_ge, ev_eq_ii, ev_eq_ss, ev_eq_bb, ev_ne_ii, ev_ne_ss, ev_ne_bb, ev_is_n, ev_isnt_n, ev_int_i, ev_int_b, ev_min_ii, ev_max_ii, ev_abs, ev_tup_of, ev_tup_ofL, ev_lst_ofT, ev_lst_ofL, ev_len_t, ev_len_s, ev_len_r, ev_tru_b, ev_alloc, ev_tupD, ev_lstD, isi_tuple_non, isi_tuple_bl, isi_tuple_int, isi_tuple_str, isi_tuple_tup, isi_tuple_l, isi_tuple_f, isi_list_non, isi_list_bl, isi_list_int, isi_list_str, isi_list_tup, isi_list_l, isi_list_f, isi_bool_non, isi_bool_bl, isi_bool_int, isi_bool_str, isi_bool_tup, isi_bool_l, isi_bool_f, isi_int_non, isi_int_bl, isi_int_int, isi_int_str, isi_int_tup, isi_int_l, isi_int_f, isi_str_non, isi_str_bl, isi_str_int, isi_str_str, isi_str_tup, isi_str_l, isi_str_f, isi_dict_non, isi_dict_bl, isi_dict_int, isi_dict_str, isi_dict_tup, isi_dict_l, isi_dict_f, Ab.isNon, args, List.map, List.length_cons, List.length_nil, List.length_singleton, List.replicate, Nat.reduceSub, Nat.reduceAdd, Nat.zero_add, List.cons_append, List.nil_append, List.getElem?_cons_zero, List.getElem?_cons_succ, List.set_cons_zero, List.set_cons_succ, Option.some.injEq, decide_eq_true_eq, Bool.not_eq_true', decide_eq_false_iff_not, ite_true, ite_false, if_true, if_false, reduceIte, Bool.false_eq_true, Bool.not_true, Bool.not_false, Bool.true_eq_false, decide_true, decide_false, Nat.reduceLeDiff, Nat.reduceLT, q]
      refine sat_seq ?_
      have q := fun A => pick2 A "same" false (by decide)
      simp (decide := true) only [sat_ok, sat_bad, sat_bind, sat_ite, bind_ok, bind_bad, thn_nx, thn_rt, thn_bk, thn_ct, fin_rt, fin_nx, ev_v, ev_c, ev_op, ev_un, ev_nil, ev_cons, ev_tup, ev_lst, ev_call, ev_own, ev_sl, ev_no, ev_part, ev_and, ev_or, ev_not, ev_if, ev_t, ev_tb, ev_tnot, ev_tand, ev_tor, ev_mt, ev_mt0, ev_rgd, ev_set, ev_asg, ev_ret, ev_retN, ev_ex, ev_pass, ev_brk, ev_cont, ev_ifS, ev_aug, ev_gn, ev_gtp, ev_gnl, ev_gcs, ev_gsb, ev_for, ev_rg1, ev_rg2, ev_its, ev_enum, ev_lc, ev_yes, ev_add_ii, ev_add_ss, ev_add_tt, ev_add_rr, ev_sub, ev_mul, ev_mod, ev_fdiv, ev_pow, ev_neg, ev_lt, ev_le, ev_gt, ev_ge, ev_eq_ii, ev_eq_ss, ev_eq_bb, ev_ne_ii, ev_ne_ss, ev_ne_bb, ev_is_n, ev_isnt_n, ev_int_i, ev_int_b, ev_min_ii, ev_max_ii, ev_abs, ev_tup_of, ev_tup_ofL, ev_lst_ofT, ev_lst_ofL, ev_len_t, ev_len_s, ev_len_r, ev_tru_b, ev_alloc, ev_tupD, ev_lstD, isi_tuple_non, isi_tuple_bl, isi_tuple_int, isi_tuple_str, isi_tuple_tup, isi_tuple_l, isi_tuple_f, isi_list_non, isi_list_bl, isi_list_int, isi_list_str, isi_list_tup, isi_list_l, isi_list_f, isi_bool_non, isi_bool_bl, isi_bool_int, isi_bool_str, isi_bool_tup, isi_bool_l, isi_bool_f, isi_int_non, isi_int_bl, isi_int_int, isi_int_str, isi_int_tup, isi_int_l, isi_int_f, isi_str_non, isi_str_bl, isi_str_int, isi_str_str, isi_str_tup, isi_str_l, isi_str_f, isi_dict_non, isi_dict_bl, isi_dict_int, isi_dict_str, isi_dict_tup, isi_dict_l, isi_dict_f, Ab.isNon, args, List.map, List.length_cons, List.length_nil, List.length_singleton, List.replicate, Nat.reduceSub, Nat.reduceAdd, Nat.zero_add, List.cons_append, List.nil_append, List.getElem?_cons_zero, List.getElem?_cons_succ, List.set_cons_zero, List.set_cons_succ, Option.some.injEq, decide_eq_true_eq, Bool.not_eq_true', decide_eq_false_iff_not, ite_true, ite_false, if_true, if_false, reduceIte, Bool.false_eq_true, Bool.not_true, Bool.not_false, Bool.true_eq_false, decide_true, decide_false, Nat.reduceLeDiff, Nat.reduceLT, q]
      refine sat_seq ?_; simp (decide := true) only [sat_ok, sat_bad, sat_bind, sat_ite, bind_ok, bind_bad, thn_nx, thn_rt, thn_bk, thn_ct, fin_rt, fin_nx, ev_v, ev_c, ev_op, ev_un, ev_nil, ev_cons, ev_tup, ev_lst, ev_call, ev_own, ev_sl, ev_no, ev_part, ev_and, ev_or, ev_not, ev_if, ev_t, ev_tb, ev_tnot, ev_tand, ev_tor, ev_mt, ev_mt0, ev_rgd, ev_set, ev_asg, ev_ret, ev_retN, ev_ex, ev_pass, ev_brk, ev_cont, ev_ifS, ev_aug, ev_gn, ev_gtp, ev_gnl, ev_gcs, ev_gsb, ev_for, ev_rg1, ev_rg2, ev_its, ev_enum, ev_lc, ev_yes, ev_add_ii, ev_add_ss, ev_add_tt, ev_add_rr, ev_sub, ev_mul, ev_mod, ev_fdiv, ev_pow, ev_neg, ev_lt, ev_le, ev_gt, ev_ge, ev_eq_ii, ev_eq_ss, ev_eq_bb, ev_ne_ii, ev_ne_ss, ev_ne_bb, ev_is_n, ev_isnt_n, ev_int_i, ev_int_b, ev_min_ii, ev_max_ii, ev_abs, ev_tup_of, ev_tup_ofL, ev_lst_ofT, ev_lst_ofL, ev_len_t, ev_len_s, ev_len_r, ev_tru_b, ev_alloc, ev_tupD, ev_lstD, isi_tuple_non, isi_tuple_bl, isi_tuple_int, isi_tuple_str, isi_tuple_tup, isi_tuple_l, isi_tuple_f, isi_list_non, isi_list_bl, isi_list_int, isi_list_str, isi_list_tup, isi_list_l, isi_list_f, isi_bool_non, isi_bool_bl, isi_bool_int, isi_bool_str, isi_bool_tup, isi_bool_l, isi_bool_f, isi_int_non, isi_int_bl, isi_int_int, isi_int_str, isi_int_tup, isi_int_l, isi_int_f, isi_str_non, isi_str_bl, isi_str_int, isi_str_str, isi_str_tup, isi_str_l, isi_str_f, isi_dict_non, isi_dict_bl, isi_dict_int, isi_dict_str, isi_dict_tup, isi_dict_l, isi_dict_f, Ab.isNon, args, List.map, List.length_cons, List.length_nil, List.length_singleton, List.replicate, Nat.reduceSub, Nat.reduceAdd, Nat.zero_add, List.cons_append, List.nil_append, List.getElem?_cons_zero, List.getElem?_cons_succ, List.set_cons_zero, List.set_cons_succ, Option.some.injEq, decide_eq_true_eq, Bool.not_eq_true', decide_eq_false_iff_not, ite_true, ite_false, if_true, if_false, reduceIte, Bool.false_eq_true, Bool.not_true, Bool.not_false, Bool.true_eq_false, decide_true, decide_false, Nat.reduceLeDiff, Nat.reduceLT]
      refine sat_seq ?_; simp (decide := true) only [sat_ok, sat_bad, sat_bind, sat_ite, bind_ok, bind_bad, thn_nx, thn_rt, thn_bk, thn_ct, fin_rt, fin_nx, ev_v, ev_c, ev_op, ev_un, ev_nil, ev_cons, ev_tup, ev_lst, ev_call, ev_own, ev_sl, ev_no, ev_part, ev_and, ev_or, ev_not, ev_if, ev_t, ev_tb, ev_tnot, ev_tand, ev_tor, ev_mt, ev_mt0, ev_rgd, ev_set, ev_asg, ev_ret, ev_retN, ev_ex, ev_pass, ev_brk, ev_cont, ev_ifS, ev_aug, ev_gn, ev_gtp, ev_gnl, ev_gcs, ev_gsb, ev_for, ev_rg1, ev_rg2, ev_its, ev_enum, ev_lc, ev_yes, ev_add_ii, ev_add_ss, ev_add_tt, ev_add_rr, ev_sub, ev_mul, ev_mod, ev_fdiv, ev_pow, ev_neg, ev_lt, ev_le, ev_gt, ev_ge, ev_eq_ii, ev_eq_ss, ev_eq_bb, ev_ne_ii, ev_ne_ss, ev_ne_bb, ev_is_n, ev_isnt_n, ev_int_i, ev_int_b, ev_min_ii, ev_max_ii, ev_abs, ev_tup_of, ev_tup_ofL, ev_lst_ofT, ev_lst_ofL, ev_len_t, ev_len_s, ev_len_r, ev_tru_b, ev_alloc, ev_tupD, ev_lstD, isi_tuple_non, isi_tuple_bl, isi_tuple_int, isi_tuple_str, isi_tuple_tup, isi_tuple_l, isi_tuple_f, isi_list_non, isi_list_bl, isi_list_int, isi_list_str, isi_list_tup, isi_list_l, isi_list_f, isi_bool_non, isi_bool_bl, isi_bool_int, isi_bool_str, isi_bool_tup, isi_bool_l, isi_bool_f, isi_int_non, isi_int_bl, isi_int_int, isi_int_str, isi_int_tup, isi_int_l, isi_int_f, isi_str_non, isi_str_bl, isi_str_int, isi_str_str, isi_str_tup, isi_str_l, isi_str_f, isi_dict_non, isi_dict_bl, isi_dict_int, isi_dict_str, isi_dict_tup, isi_dict_l, isi_dict_f, Ab.isNon, args, List.map, List.length_cons, List.length_nil, List.length_singleton, List.replicate, Nat.reduceSub, Nat.reduceAdd, Nat.zero_add, List.cons_append, List.nil_append, List.getElem?_cons_zero, List.getElem?_cons_succ, List.set_cons_zero, List.set_cons_succ, Option.some.injEq, decide_eq_true_eq, Bool.not_eq_true', decide_eq_false_iff_not, ite_true, ite_false, if_true, if_false, reduceIte, Bool.false_eq_true, Bool.not_true, Bool.not_false, Bool.true_eq_false, decide_true, decide_false, Nat.reduceLeDiff, Nat.reduceLT, eq_sc hb]
      exact ⟨by simp, Gr.app.trans .app⟩
theorem Vl.up {n : Nat} {s : So} {d : D} (h : Vl 0 s d) : Vl n s d := by
  cases s with
  | t =>
    obtain ⟨i, e, h⟩ := h
    refine ⟨i, e, Nat.lt_of_lt_of_le h (pow_le ?_)⟩
    have := @one_le n
    omega
  | f => exact h
  | l => exact h
def Ev (kvs : List (Key × D)) (n : Nat) (d v : D) : Prop := ∀ m, n < m → ∀ (r : Nat) (A : AH), A[r]? = some (.dic kvs) → m_evaluate m [d, .ref r] A = .ok v A ∧ Sat (m__law_value m [d, .ref r] A) fun e A' => e = v ∧ Gr A A'
theorem eval_spec {ns : List Str} {kvs : List (Key × D)} {s : So} {n : Nat} {d : D} {vs : List Str} (h : Ex ns s n d vs) : n ≤ 6 → Good ns kvs vs → ∃ v, Vl n s v ∧ Ev kvs n d v := by
  have one : ∀ {f : FM} {ds : List D} {v : D} {A : AH}, (Sat (f ds A) fun e A' => e = v ∧ A' = A) → f ds A = .ok v A := fun h => by
    obtain ⟨e, A', h1, rfl, rfl⟩ := h.eq
    exact h1
  induction h with
  | num n i h =>
    intro hn hg
    refine ⟨.int i, Vl.up (s := .t) ⟨i, rfl, h⟩, fun m hm r A hr => ?_⟩
    obtain ⟨m, rfl⟩ : ∃ k, m = k + 1 := ⟨m - 1, by omega⟩
    refine ⟨one (sat_body rfl (sat_seq ?_)), sat_body rfl (sat_seq ?_)⟩
    · simp only [sat_ok, sat_bad, sat_bind, sat_ite, bind_ok, bind_bad, thn_nx, thn_rt, thn_bk, thn_ct, fin_rt, fin_nx, ev_v, ev_c, ev_op, ev_un, ev_nil, ev_cons, ev_tup, ev_lst, ev_call, ev_own, ev_sl, ev_no, ev_part, ev_and, ev_or, ev_not, ev_if, ev_t, ev_tb, ev_tnot, ev_tand, ev_tor, ev_mt, ev_mt0, ev_rgd, ev_set, ev_asg, ev_ret, ev_retN, ev_ex, ev_pass, ev_brk, ev_cont, ev_ifS, ev_aug, ev_gn, ev_gtp, ev_gnl, ev_gcs, ev_gsb, ev_for, ev_rg1, ev_rg2, ev_its, ev_enum, ev_lc, ev_yes, ev_add_ii, ev_add_ss, ev_add_tt, ev_add_rr, ev_sub, ev_mul, ev_mod, ev_fdiv, ev_pow, ev_neg, ev_lt, ev_le, ev_gt, ev_ge, ev_eq_ii, ev_eq_ss, ev_eq_bb, ev_ne_ii, ev_ne_ss, ev_ne_bb, ev_is_n, ev_isnt_n, ev_int_i, ev_int_b, ev_min_ii, ev_max_ii, ev_abs, ev_tup_of, ev_tup_ofL, ev_lst_ofT, ev_lst_ofL, ev_len_t, ev_len_s, ev_len_r, ev_tru_b, ev_alloc, ev_tupD, ev_lstD, isi_tuple_non, isi_tuple_bl, isi_tuple_int, isi_tuple_str, isi_tuple_tup, isi_tuple_l, isi_tuple_f, isi_list_non, isi_list_bl, isi_list_int, isi_list_str, isi_list_tup, isi_list_l, isi_list_f, isi_bool_non, isi_bool_bl, isi_bool_int, isi_bool_str, isi_bool_tup, isi_bool_l, isi_bool_f, isi_int_non, isi_int_bl, isi_int_int, isi_int_str, isi_int_tup, isi_int_l, isi_int_f, isi_str_non, isi_str_bl, isi_str_int, isi_str_str, isi_str_tup, isi_str_l, isi_str_f, isi_dict_non, isi_dict_bl, isi_dict_int, isi_dict_str, isi_dict_tup, isi_dict_l, isi_dict_f, Ab.isNon, args, List.map, List.length_cons, List.length_nil, List.length_singleton, List.replicate, Nat.reduceSub, Nat.reduceAdd, Nat.zero_add, List.cons_append, List.nil_append, List.getElem?_cons_zero, List.getElem?_cons_succ, List.set_cons_zero, List.set_cons_succ, Option.some.injEq, decide_eq_true_eq, Bool.not_eq_true', decide_eq_false_iff_not, ite_true, ite_false, if_true, if_false, reduceIte, Bool.false_eq_true, Bool.not_true, Bool.not_false, Bool.true_eq_false, decide_true, decide_false, Nat.reduceLeDiff, Nat.reduceLT, ixa]
      refine sat_seq ?_; simp (decide := true) only [sat_ok, sat_bad, sat_bind, sat_ite, bind_ok, bind_bad, thn_nx, thn_rt, thn_bk, thn_ct, fin_rt, fin_nx, ev_v, ev_c, ev_op, ev_un, ev_nil, ev_cons, ev_tup, ev_lst, ev_call, ev_own, ev_sl, ev_no, ev_part, ev_and, ev_or, ev_not, ev_if, ev_t, ev_tb, ev_tnot, ev_tand, ev_tor, ev_mt, ev_mt0, ev_rgd, ev_set, ev_asg, ev_ret, ev_retN, ev_ex, ev_pass, ev_brk, ev_cont, ev_ifS, ev_aug, ev_gn, ev_gtp, ev_gnl, ev_gcs, ev_gsb, ev_for, ev_rg1, ev_rg2, ev_its, ev_enum, ev_lc, ev_yes, ev_add_ii, ev_add_ss, ev_add_tt, ev_add_rr, ev_sub, ev_mul, ev_mod, ev_fdiv, ev_pow, ev_neg, ev_lt, ev_le, ev_gt, ev_ge, ev_eq_ii, ev_eq_ss, ev_eq_bb, ev_ne_ii, ev_ne_ss, ev_ne_bb, ev_is_n, ev_isnt_n, ev_int_i, ev_int_b, ev_min_ii, ev_max_ii, ev_abs, ev_tup_of, ev_tup_ofL, ev_lst_ofT, ev_lst_ofL, ev_len_t, ev_len_s, ev_len_r, ev_tru_b, ev_alloc, ev_tupD, ev_lstD, isi_tuple_non, isi_tuple_bl, isi_tuple_int, isi_tuple_str, isi_tuple_tup, isi_tuple_l, isi_tuple_f, isi_list_non, isi_list_bl, isi_list_int, isi_list_str, isi_list_tup, isi_list_l, isi_list_f, isi_bool_non, isi_bool_bl, isi_bool_int, isi_bool_str, isi_bool_tup, isi_bool_l, isi_bool_f, isi_int_non, isi_int_bl, isi_int_int, isi_int_str, isi_int_tup, isi_int_l, isi_int_f, isi_str_non, isi_str_bl, isi_str_int, isi_str_str, isi_str_tup, isi_str_l, isi_str_f, isi_dict_non, isi_dict_bl, isi_dict_int, isi_dict_str, isi_dict_tup, isi_dict_l, isi_dict_f, Ab.isNon, args, List.map, List.length_cons, List.length_nil, List.length_singleton, List.replicate, Nat.reduceSub, Nat.reduceAdd, Nat.zero_add, List.cons_append, List.nil_append, List.getElem?_cons_zero, List.getElem?_cons_succ, List.set_cons_zero, List.set_cons_succ, Option.some.injEq, decide_eq_true_eq, Bool.not_eq_true', decide_eq_false_iff_not, ite_true, ite_false, if_true, if_false, reduceIte, Bool.false_eq_true, Bool.not_true, Bool.not_false, Bool.true_eq_false, decide_true, decide_false, Nat.reduceLeDiff, Nat.reduceLT, ixb]
    · simp only [sat_ok, sat_bad, sat_bind, sat_ite, bind_ok, bind_bad, thn_nx, thn_rt, thn_bk, thn_ct, fin_rt, fin_nx, ev_v, ev_c, ev_op, ev_un, ev_nil, ev_cons, ev_tup, ev_lst, ev_call, ev_own, ev_sl, ev_no, ev_part, ev_and, ev_or, ev_not, ev_if, ev_t, ev_tb, ev_tnot, ev_tand, ev_tor, ev_mt, ev_mt0, ev_rgd, ev_set, ev_asg, ev_ret, ev_retN, ev_ex, ev_pass, ev_brk, ev_cont, ev_ifS, ev_aug, ev_gn, ev_gtp, ev_gnl, ev_gcs, ev_gsb, ev_for, ev_rg1, ev_rg2, ev_its, ev_enum, ev_lc, ev_yes, ev_add_ii, ev_add_ss, ev_add_tt, ev_add_rr, ev_sub, ev_mul, ev_mod, ev_fdiv, ev_pow, ev_neg, ev_lt, ev_le, ev_gt, ev_ge, ev_eq_ii, ev_eq_ss, ev_eq_bb, ev_ne_ii, ev_ne_ss, ev_ne_bb, ev_is_n, ev_isnt_n, ev_int_i, ev_int_b, ev_min_ii, ev_max_ii, ev_abs, ev_tup_of, ev_tup_ofL, ev_lst_ofT, ev_lst_ofL, ev_len_t, ev_len_s, ev_len_r, ev_tru_b, ev_alloc, ev_tupD, ev_lstD, isi_tuple_non, isi_tuple_bl, isi_tuple_int, isi_tuple_str, isi_tuple_tup, isi_tuple_l, isi_tuple_f, isi_list_non, isi_list_bl, isi_list_int, isi_list_str, isi_list_tup, isi_list_l, isi_list_f, isi_bool_non, isi_bool_bl, isi_bool_int, isi_bool_str, isi_bool_tup, isi_bool_l, isi_bool_f, isi_int_non, isi_int_bl, isi_int_int, isi_int_str, isi_int_tup, isi_int_l, isi_int_f, isi_str_non, isi_str_bl, isi_str_int, isi_str_str, isi_str_tup, isi_str_l, isi_str_f, isi_dict_non, isi_dict_bl, isi_dict_int, isi_dict_str, isi_dict_tup, isi_dict_l, isi_dict_f, Ab.isNon, args, List.map, List.length_cons, List.length_nil, List.length_singleton, List.replicate, Nat.reduceSub, Nat.reduceAdd, Nat.zero_add, List.cons_append, List.nil_append, List.getElem?_cons_zero, List.getElem?_cons_succ, List.set_cons_zero, List.set_cons_succ, Option.some.injEq, decide_eq_true_eq, Bool.not_eq_true', decide_eq_false_iff_not, ite_true, ite_false, if_true, if_false, reduceIte, Bool.false_eq_true, Bool.not_true, Bool.not_false, Bool.true_eq_false, decide_true, decide_false, Nat.reduceLeDiff, Nat.reduceLT, ixa]
      refine sat_seq ?_; simp (decide := true) only [sat_ok, sat_bad, sat_bind, sat_ite, bind_ok, bind_bad, thn_nx, thn_rt, thn_bk, thn_ct, fin_rt, fin_nx, ev_v, ev_c, ev_op, ev_un, ev_nil, ev_cons, ev_tup, ev_lst, ev_call, ev_own, ev_sl, ev_no, ev_part, ev_and, ev_or, ev_not, ev_if, ev_t, ev_tb, ev_tnot, ev_tand, ev_tor, ev_mt, ev_mt0, ev_rgd, ev_set, ev_asg, ev_ret, ev_retN, ev_ex, ev_pass, ev_brk, ev_cont, ev_ifS, ev_aug, ev_gn, ev_gtp, ev_gnl, ev_gcs, ev_gsb, ev_for, ev_rg1, ev_rg2, ev_its, ev_enum, ev_lc, ev_yes, ev_add_ii, ev_add_ss, ev_add_tt, ev_add_rr, ev_sub, ev_mul, ev_mod, ev_fdiv, ev_pow, ev_neg, ev_lt, ev_le, ev_gt, ev_ge, ev_eq_ii, ev_eq_ss, ev_eq_bb, ev_ne_ii, ev_ne_ss, ev_ne_bb, ev_is_n, ev_isnt_n, ev_int_i, ev_int_b, ev_min_ii, ev_max_ii, ev_abs, ev_tup_of, ev_tup_ofL, ev_lst_ofT, ev_lst_ofL, ev_len_t, ev_len_s, ev_len_r, ev_tru_b, ev_alloc, ev_tupD, ev_lstD, isi_tuple_non, isi_tuple_bl, isi_tuple_int, isi_tuple_str, isi_tuple_tup, isi_tuple_l, isi_tuple_f, isi_list_non, isi_list_bl, isi_list_int, isi_list_str, isi_list_tup, isi_list_l, isi_list_f, isi_bool_non, isi_bool_bl, isi_bool_int, isi_bool_str, isi_bool_tup, isi_bool_l, isi_bool_f, isi_int_non, isi_int_bl, isi_int_int, isi_int_str, isi_int_tup, isi_int_l, isi_int_f, isi_str_non, isi_str_bl, isi_str_int, isi_str_str, isi_str_tup, isi_str_l, isi_str_f, isi_dict_non, isi_dict_bl, isi_dict_int, isi_dict_str, isi_dict_tup, isi_dict_l, isi_dict_f, Ab.isNon, args, List.map, List.length_cons, List.length_nil, List.length_singleton, List.replicate, Nat.reduceSub, Nat.reduceAdd, Nat.zero_add, List.cons_append, List.nil_append, List.getElem?_cons_zero, List.getElem?_cons_succ, List.set_cons_zero, List.set_cons_succ, Option.some.injEq, decide_eq_true_eq, Bool.not_eq_true', decide_eq_false_iff_not, ite_true, ite_false, if_true, if_false, reduceIte, Bool.false_eq_true, Bool.not_true, Bool.not_false, Bool.true_eq_false, decide_true, decide_false, Nat.reduceLeDiff, Nat.reduceLT]
      refine sat_seq ?_; simp (decide := true) only [sat_ok, sat_bad, sat_bind, sat_ite, bind_ok, bind_bad, thn_nx, thn_rt, thn_bk, thn_ct, fin_rt, fin_nx, ev_v, ev_c, ev_op, ev_un, ev_nil, ev_cons, ev_tup, ev_lst, ev_call, ev_own, ev_sl, ev_no, ev_part, ev_and, ev_or, ev_not, ev_if, ev_t, ev_tb, ev_tnot, ev_tand, ev_tor, ev_mt, ev_mt0, ev_rgd, ev_set, ev_asg, ev_ret, ev_retN, ev_ex, ev_pass, ev_brk, ev_cont, ev_ifS, ev_aug, ev_gn, ev_gtp, ev_gnl, ev_gcs, ev_gsb, ev_for, ev_rg1, ev_rg2, ev_its, ev_enum, ev_lc, ev_yes, ev_add_ii, ev_add_ss, ev_add_tt, ev_add_rr, ev_sub, ev_mul, ev_mod, ev_fdiv, ev_pow, ev_neg, ev_lt, ev_le, ev_gt, ev_ge, ev_eq_ii, ev_eq_ss, ev_eq_bb, ev_ne_ii, ev_ne_ss, ev_ne_bb, ev_is_n, ev_isnt_n, ev_int_i, ev_int_b, ev_min_ii, ev_max_ii, ev_abs, ev_tup_of, ev_tup_ofL, ev_lst_ofT, ev_lst_ofL, ev_len_t, ev_len_s, ev_len_r, ev_tru_b, ev_alloc, ev_tupD, ev_lstD, isi_tuple_non, isi_tuple_bl, isi_tuple_int, isi_tuple_str, isi_tuple_tup, isi_tuple_l, isi_tuple_f, isi_list_non, isi_list_bl, isi_list_int, isi_list_str, isi_list_tup, isi_list_l, isi_list_f, isi_bool_non, isi_bool_bl, isi_bool_int, isi_bool_str, isi_bool_tup, isi_bool_l, isi_bool_f, isi_int_non, isi_int_bl, isi_int_int, isi_int_str, isi_int_tup, isi_int_l, isi_int_f, isi_str_non, isi_str_bl, isi_str_int, isi_str_str, isi_str_tup, isi_str_l, isi_str_f, isi_dict_non, isi_dict_bl, isi_dict_int, isi_dict_str, isi_dict_tup, isi_dict_l, isi_dict_f, Ab.isNon, args, List.map, List.length_cons, List.length_nil, List.length_singleton, List.replicate, Nat.reduceSub, Nat.reduceAdd, Nat.zero_add, List.cons_append, List.nil_append, List.getElem?_cons_zero, List.getElem?_cons_succ, List.set_cons_zero, List.set_cons_succ, Option.some.injEq, decide_eq_true_eq, Bool.not_eq_true', decide_eq_false_iff_not, ite_true, ite_false, if_true, if_false, reduceIte, Bool.false_eq_true, Bool.not_true, Bool.not_false, Bool.true_eq_false, decide_true, decide_false, Nat.reduceLeDiff, Nat.reduceLT]
      refine sat_seq ?_; simp (decide := true) only [sat_ok, sat_bad, sat_bind, sat_ite, bind_ok, bind_bad, thn_nx, thn_rt, thn_bk, thn_ct, fin_rt, fin_nx, ev_v, ev_c, ev_op, ev_un, ev_nil, ev_cons, ev_tup, ev_lst, ev_call, ev_own, ev_sl, ev_no, ev_part, ev_and, ev_or, ev_not, ev_if, ev_t, ev_tb, ev_tnot, ev_tand, ev_tor, ev_mt, ev_mt0, ev_rgd, ev_set, ev_asg, ev_ret, ev_retN, ev_ex, ev_pass, ev_brk, ev_cont, ev_ifS, ev_aug, ev_gn, ev_gtp, ev_gnl, ev_gcs, ev_gsb, ev_for, ev_rg1, ev_rg2, ev_its, ev_enum, ev_lc, ev_yes, ev_add_ii, ev_add_ss, ev_add_tt, ev_add_rr, ev_sub, ev_mul, ev_mod, ev_fdiv, ev_pow, ev_neg, ev_lt, ev_le, ev_gt, ev_ge, ev_eq_ii, ev_eq_ss, ev_eq_bb, ev_ne_ii, ev_ne_ss, ev_ne_bb, ev_is_n, ev_isnt_n, ev_int_i, ev_int_b, ev_min_ii, ev_max_ii, ev_abs, ev_tup_of, ev_tup_ofL, ev_lst_ofT, ev_lst_ofL, ev_len_t, ev_len_s, ev_len_r, ev_tru_b, ev_alloc, ev_tupD, ev_lstD, isi_tuple_non, isi_tuple_bl, isi_tuple_int, isi_tuple_str, isi_tuple_tup, isi_tuple_l, isi_tuple_f, isi_list_non, isi_list_bl, isi_list_int, isi_list_str, isi_list_tup, isi_list_l, isi_list_f, isi_bool_non, isi_bool_bl, isi_bool_int, isi_bool_str, isi_bool_tup, isi_bool_l, isi_bool_f, isi_int_non, isi_int_bl, isi_int_int, isi_int_str, isi_int_tup, isi_int_l, isi_int_f, isi_str_non, isi_str_bl, isi_str_int, isi_str_str, isi_str_tup, isi_str_l, isi_str_f, isi_dict_non, isi_dict_bl, isi_dict_int, isi_dict_str, isi_dict_tup, isi_dict_l, isi_dict_f, Ab.isNon, args, List.map, List.length_cons, List.length_nil, List.length_singleton, List.replicate, Nat.reduceSub, Nat.reduceAdd, Nat.zero_add, List.cons_append, List.nil_append, List.getElem?_cons_zero, List.getElem?_cons_succ, List.set_cons_zero, List.set_cons_succ, Option.some.injEq, decide_eq_true_eq, Bool.not_eq_true', decide_eq_false_iff_not, ite_true, ite_false, if_true, if_false, reduceIte, Bool.false_eq_true, Bool.not_true, Bool.not_false, Bool.true_eq_false, decide_true, decide_false, Nat.reduceLeDiff, Nat.reduceLT, ixb]
      exact ⟨trivial, .refl⟩
  | flag n b =>
    intro hn hg
    refine ⟨.bl b, ⟨b, rfl⟩, fun m hm r A hr => ?_⟩
    obtain ⟨m, rfl⟩ : ∃ k, m = k + 1 := ⟨m - 1, by omega⟩
    refine ⟨one (sat_body rfl (sat_seq ?_)), sat_body rfl (sat_seq ?_)⟩
    · simp only [sat_ok, sat_bad, sat_bind, sat_ite, bind_ok, bind_bad, thn_nx, thn_rt, thn_bk, thn_ct, fin_rt, fin_nx, ev_v, ev_c, ev_op, ev_un, ev_nil, ev_cons, ev_tup, ev_lst, ev_call, ev_own, ev_sl, ev_no, ev_part, ev_and, ev_or, ev_not, ev_if, ev_t, ev_tb, ev_tnot, ev_tand, ev_tor, ev_mt, ev_mt0, ev_rgd, ev_set, ev_asg, ev_ret, ev_retN, ev_ex, ev_pass, ev_brk, ev_cont, ev_ifS, ev_aug, ev_gn, ev_gtp, ev_gnl, ev_gcs, ev_gsb, ev_for, ev_rg1, ev_rg2, ev_its, ev_enum, ev_lc, ev_yes, ev_add_ii, ev_add_ss, ev_add_tt, ev_add_rr, ev_sub, ev_mul, ev_mod, ev_fdiv, ev_pow, ev_neg, ev_lt, ev_le, ev_gt, ev_ge, ev_eq_ii, ev_eq_ss, ev_eq_bb, ev_ne_ii, ev_ne_ss, ev_ne_bb, ev_is_n, ev_isnt_n, ev_int_i, ev_int_b, ev_min_ii, ev_max_ii, ev_abs, ev_tup_of, ev_tup_ofL, ev_lst_ofT, ev_lst_ofL, ev_len_t, ev_len_s, ev_len_r, ev_tru_b, ev_alloc, ev_tupD, ev_lstD, isi_tuple_non, isi_tuple_bl, isi_tuple_int, isi_tuple_str, isi_tuple_tup, isi_tuple_l, isi_tuple_f, isi_list_non, isi_list_bl, isi_list_int, isi_list_str, isi_list_tup, isi_list_l, isi_list_f, isi_bool_non, isi_bool_bl, isi_bool_int, isi_bool_str, isi_bool_tup, isi_bool_l, isi_bool_f, isi_int_non, isi_int_bl, isi_int_int, isi_int_str, isi_int_tup, isi_int_l, isi_int_f, isi_str_non, isi_str_bl, isi_str_int, isi_str_str, isi_str_tup, isi_str_l, isi_str_f, isi_dict_non, isi_dict_bl, isi_dict_int, isi_dict_str, isi_dict_tup, isi_dict_l, isi_dict_f, Ab.isNon, args, List.map, List.length_cons, List.length_nil, List.length_singleton, List.replicate, Nat.reduceSub, Nat.reduceAdd, Nat.zero_add, List.cons_append, List.nil_append, List.getElem?_cons_zero, List.getElem?_cons_succ, List.set_cons_zero, List.set_cons_succ, Option.some.injEq, decide_eq_true_eq, Bool.not_eq_true', decide_eq_false_iff_not, ite_true, ite_false, if_true, if_false, reduceIte, Bool.false_eq_true, Bool.not_true, Bool.not_false, Bool.true_eq_false, decide_true, decide_false, Nat.reduceLeDiff, Nat.reduceLT, ixa]
      refine sat_seq ?_; simp (decide := true) only [sat_ok, sat_bad, sat_bind, sat_ite, bind_ok, bind_bad, thn_nx, thn_rt, thn_bk, thn_ct, fin_rt, fin_nx, ev_v, ev_c, ev_op, ev_un, ev_nil, ev_cons, ev_tup, ev_lst, ev_call, ev_own, ev_sl, ev_no, ev_part, ev_and, ev_or, ev_not, ev_if, ev_t, ev_tb, ev_tnot, ev_tand, ev_tor, ev_mt, ev_mt0, ev_rgd, ev_set, ev_asg, ev_ret, ev_retN, ev_ex, ev_pass, ev_brk, ev_cont, ev_ifS, ev_aug, ev_gn, ev_gtp, ev_gnl, ev_gcs, ev_gsb, ev_for, ev_rg1, ev_rg2, ev_its, ev_enum, ev_lc, ev_yes, ev_add_ii, ev_add_ss, ev_add_tt, ev_add_rr, ev_sub, ev_mul, ev_mod, ev_fdiv, ev_pow, ev_neg, ev_lt, ev_le, ev_gt, ev_ge, ev_eq_ii, ev_eq_ss, ev_eq_bb, ev_ne_ii, ev_ne_ss, ev_ne_bb, ev_is_n, ev_isnt_n, ev_int_i, ev_int_b, ev_min_ii, ev_max_ii, ev_abs, ev_tup_of, ev_tup_ofL, ev_lst_ofT, ev_lst_ofL, ev_len_t, ev_len_s, ev_len_r, ev_tru_b, ev_alloc, ev_tupD, ev_lstD, isi_tuple_non, isi_tuple_bl, isi_tuple_int, isi_tuple_str, isi_tuple_tup, isi_tuple_l, isi_tuple_f, isi_list_non, isi_list_bl, isi_list_int, isi_list_str, isi_list_tup, isi_list_l, isi_list_f, isi_bool_non, isi_bool_bl, isi_bool_int, isi_bool_str, isi_bool_tup, isi_bool_l, isi_bool_f, isi_int_non, isi_int_bl, isi_int_int, isi_int_str, isi_int_tup, isi_int_l, isi_int_f, isi_str_non, isi_str_bl, isi_str_int, isi_str_str, isi_str_tup, isi_str_l, isi_str_f, isi_dict_non, isi_dict_bl, isi_dict_int, isi_dict_str, isi_dict_tup, isi_dict_l, isi_dict_f, Ab.isNon, args, List.map, List.length_cons, List.length_nil, List.length_singleton, List.replicate, Nat.reduceSub, Nat.reduceAdd, Nat.zero_add, List.cons_append, List.nil_append, List.getElem?_cons_zero, List.getElem?_cons_succ, List.set_cons_zero, List.set_cons_succ, Option.some.injEq, decide_eq_true_eq, Bool.not_eq_true', decide_eq_false_iff_not, ite_true, ite_false, if_true, if_false, reduceIte, Bool.false_eq_true, Bool.not_true, Bool.not_false, Bool.true_eq_false, decide_true, decide_false, Nat.reduceLeDiff, Nat.reduceLT, ixb]
    · simp only [sat_ok, sat_bad, sat_bind, sat_ite, bind_ok, bind_bad, thn_nx, thn_rt, thn_bk, thn_ct, fin_rt, fin_nx, ev_v, ev_c, ev_op, ev_un, ev_nil, ev_cons, ev_tup, ev_lst, ev_call, ev_own, ev_sl, ev_no, ev_part, ev_and, ev_or, ev_not, ev_if, ev_t, ev_tb, ev_tnot, ev_tand, ev_tor, ev_mt, ev_mt0, ev_rgd, ev_set, ev_asg, ev_ret, ev_retN, ev_ex, ev_pass, ev_brk, ev_cont, ev_ifS, ev_aug, ev_gn, ev_gtp, ev_gnl, ev_gcs, ev_gsb, ev_for, ev_rg1, ev_rg2, ev_its, ev_enum, ev_lc, ev_yes, ev_add_ii, ev_add_ss, ev_add_tt, ev_add_rr, ev_sub, ev_mul, ev_mod, ev_fdiv, ev_pow, ev_neg, ev_lt, ev_le, ev_gt, ev_ge, ev_eq_ii, ev_eq_ss, ev_eq_bb, ev_ne_ii, ev_ne_ss, ev_ne_bb, ev_is_n, ev_isnt_n, ev_int_i, ev_int_b, ev_min_ii, ev_max_ii, ev_abs, ev_tup_of, ev_tup_ofL, ev_lst_ofT, ev_lst_ofL, ev_len_t, ev_len_s, ev_len_r, ev_tru_b, ev_alloc, ev_tupD, ev_lstD, isi_tuple_non, isi_tuple_bl, isi_tuple_int, isi_tuple_str, isi_tuple_tup, isi_tuple_l, isi_tuple_f, isi_list_non, isi_list_bl, isi_list_int, isi_list_str, isi_list_tup, isi_list_l, isi_list_f, isi_bool_non, isi_bool_bl, isi_bool_int, isi_bool_str, isi_bool_tup, isi_bool_l, isi_bool_f, isi_int_non, isi_int_bl, isi_int_int, isi_int_str, isi_int_tup, isi_int_l, isi_int_f, isi_str_non, isi_str_bl, isi_str_int, isi_str_str, isi_str_tup, isi_str_l, isi_str_f, isi_dict_non, isi_dict_bl, isi_dict_int, isi_dict_str, isi_dict_tup, isi_dict_l, isi_dict_f, Ab.isNon, args, List.map, List.length_cons, List.length_nil, List.length_singleton, List.replicate, Nat.reduceSub, Nat.reduceAdd, Nat.zero_add, List.cons_append, List.nil_append, List.getElem?_cons_zero, List.getElem?_cons_succ, List.set_cons_zero, List.set_cons_succ, Option.some.injEq, decide_eq_true_eq, Bool.not_eq_true', decide_eq_false_iff_not, ite_true, ite_false, if_true, if_false, reduceIte, Bool.false_eq_true, Bool.not_true, Bool.not_false, Bool.true_eq_false, decide_true, decide_false, Nat.reduceLeDiff, Nat.reduceLT, ixa]
      refine sat_seq ?_; simp (decide := true) only [sat_ok, sat_bad, sat_bind, sat_ite, bind_ok, bind_bad, thn_nx, thn_rt, thn_bk, thn_ct, fin_rt, fin_nx, ev_v, ev_c, ev_op, ev_un, ev_nil, ev_cons, ev_tup, ev_lst, ev_call, ev_own, ev_sl, ev_no, ev_part, ev_and, ev_or, ev_not, ev_if, ev_t, ev_tb, ev_tnot, ev_tand, ev_tor, ev_mt, ev_mt0, ev_rgd, ev_set, ev_asg, ev_ret, ev_retN, ev_ex, ev_pass, ev_brk, ev_cont, ev_ifS, ev_aug, ev_gn, ev_gtp, ev_gnl, ev_gcs, ev_gsb, ev_for, ev_rg1, ev_rg2, ev_its, ev_enum, ev_lc, ev_yes, ev_add_ii, ev_add_ss, ev_add_tt, ev_add_rr, ev_sub, ev_mul, ev_mod, ev_fdiv, ev_pow, ev_neg, ev_lt, ev_le, ev_gt, ev_ge, ev_eq_ii, ev_eq_ss, ev_eq_bb, ev_ne_ii, ev_ne_ss, ev_ne_bb, ev_is_n, ev_isnt_n, ev_int_i, ev_int_b, ev_min_ii, ev_max_ii, ev_abs, ev_tup_of, ev_tup_ofL, ev_lst_ofT, ev_lst_ofL, ev_len_t, ev_len_s, ev_len_r, ev_tru_b, ev_alloc, ev_tupD, ev_lstD, isi_tuple_non, isi_tuple_bl, isi_tuple_int, isi_tuple_str, isi_tuple_tup, isi_tuple_l, isi_tuple_f, isi_list_non, isi_list_bl, isi_list_int, isi_list_str, isi_list_tup, isi_list_l, isi_list_f, isi_bool_non, isi_bool_bl, isi_bool_int, isi_bool_str, isi_bool_tup, isi_bool_l, isi_bool_f, isi_int_non, isi_int_bl, isi_int_int, isi_int_str, isi_int_tup, isi_int_l, isi_int_f, isi_str_non, isi_str_bl, isi_str_int, isi_str_str, isi_str_tup, isi_str_l, isi_str_f, isi_dict_non, isi_dict_bl, isi_dict_int, isi_dict_str, isi_dict_tup, isi_dict_l, isi_dict_f, Ab.isNon, args, List.map, List.length_cons, List.length_nil, List.length_singleton, List.replicate, Nat.reduceSub, Nat.reduceAdd, Nat.zero_add, List.cons_append, List.nil_append, List.getElem?_cons_zero, List.getElem?_cons_succ, List.set_cons_zero, List.set_cons_succ, Option.some.injEq, decide_eq_true_eq, Bool.not_eq_true', decide_eq_false_iff_not, ite_true, ite_false, if_true, if_false, reduceIte, Bool.false_eq_true, Bool.not_true, Bool.not_false, Bool.true_eq_false, decide_true, decide_false, Nat.reduceLeDiff, Nat.reduceLT]
      refine sat_seq ?_; simp (decide := true) only [sat_ok, sat_bad, sat_bind, sat_ite, bind_ok, bind_bad, thn_nx, thn_rt, thn_bk, thn_ct, fin_rt, fin_nx, ev_v, ev_c, ev_op, ev_un, ev_nil, ev_cons, ev_tup, ev_lst, ev_call, ev_own, ev_sl, ev_no, ev_part, ev_and, ev_or, ev_not, ev_if, ev_t, ev_tb, ev_tnot, ev_tand, ev_tor, ev_mt, ev_mt0, ev_rgd, ev_set, ev_asg, ev_ret, ev_retN, ev_ex, ev_pass, ev_brk, ev_cont, ev_ifS, ev_aug, ev_gn, ev_gtp, ev_gnl, ev_gcs, ev_gsb, ev_for, ev_rg1, ev_rg2, ev_its, ev_enum, ev_lc, ev_yes, ev_add_ii, ev_add_ss, ev_add_tt, ev_add_rr, ev_sub, ev_mul, ev_mod, ev_fdiv, ev_pow, ev_neg, ev_lt, ev_le, ev_gt, ev_ge, ev_eq_ii, ev_eq_ss, ev_eq_bb, ev_ne_ii, ev_ne_ss, ev_ne_bb, ev_is_n, ev_isnt_n, ev_int_i, ev_int_b, ev_min_ii, ev_max_ii, ev_abs, ev_tup_of, ev_tup_ofL, ev_lst_ofT, ev_lst_ofL, ev_len_t, ev_len_s, ev_len_r, ev_tru_b, ev_alloc, ev_tupD, ev_lstD, isi_tuple_non, isi_tuple_bl, isi_tuple_int, isi_tuple_str, isi_tuple_tup, isi_tuple_l, isi_tuple_f, isi_list_non, isi_list_bl, isi_list_int, isi_list_str, isi_list_tup, isi_list_l, isi_list_f, isi_bool_non, isi_bool_bl, isi_bool_int, isi_bool_str, isi_bool_tup, isi_bool_l, isi_bool_f, isi_int_non, isi_int_bl, isi_int_int, isi_int_str, isi_int_tup, isi_int_l, isi_int_f, isi_str_non, isi_str_bl, isi_str_int, isi_str_str, isi_str_tup, isi_str_l, isi_str_f, isi_dict_non, isi_dict_bl, isi_dict_int, isi_dict_str, isi_dict_tup, isi_dict_l, isi_dict_f, Ab.isNon, args, List.map, List.length_cons, List.length_nil, List.length_singleton, List.replicate, Nat.reduceSub, Nat.reduceAdd, Nat.zero_add, List.cons_append, List.nil_append, List.getElem?_cons_zero, List.getElem?_cons_succ, List.set_cons_zero, List.set_cons_succ, Option.some.injEq, decide_eq_true_eq, Bool.not_eq_true', decide_eq_false_iff_not, ite_true, ite_false, if_true, if_false, reduceIte, Bool.false_eq_true, Bool.not_true, Bool.not_false, Bool.true_eq_false, decide_true, decide_false, Nat.reduceLeDiff, Nat.reduceLT]
      refine sat_seq ?_; simp (decide := true) only [sat_ok, sat_bad, sat_bind, sat_ite, bind_ok, bind_bad, thn_nx, thn_rt, thn_bk, thn_ct, fin_rt, fin_nx, ev_v, ev_c, ev_op, ev_un, ev_nil, ev_cons, ev_tup, ev_lst, ev_call, ev_own, ev_sl, ev_no, ev_part, ev_and, ev_or, ev_not, ev_if, ev_t, ev_tb, ev_tnot, ev_tand, ev_tor, ev_mt, ev_mt0, ev_rgd, ev_set, ev_asg, ev_ret, ev_retN, ev_ex, ev_pass, ev_brk, ev_cont, ev_ifS, ev_aug, ev_gn, ev_gtp, ev_gnl, ev_gcs, ev_gsb, ev_for, ev_rg1, ev_rg2, ev_its, ev_enum, ev_lc, ev_yes, ev_add_ii, ev_add_ss, ev_add_tt, ev_add_rr, ev_sub, ev_mul, ev_mod, ev_fdiv, ev_pow, ev_neg, ev_lt, ev_le, ev_gt, ev_ge, ev_eq_ii, ev_eq_ss, ev_eq_bb, ev_ne_ii, ev_ne_ss, ev_ne_bb, ev_is_n, ev_isnt_n, ev_int_i, ev_int_b, ev_min_ii, ev_max_ii, ev_abs, ev_tup_of, ev_tup_ofL, ev_lst_ofT, ev_lst_ofL, ev_len_t, ev_len_s, ev_len_r, ev_tru_b, ev_alloc, ev_tupD, ev_lstD, isi_tuple_non, isi_tuple_bl, isi_tuple_int, isi_tuple_str, isi_tuple_tup, isi_tuple_l, isi_tuple_f, isi_list_non, isi_list_bl, isi_list_int, isi_list_str, isi_list_tup, isi_list_l, isi_list_f, isi_bool_non, isi_bool_bl, isi_bool_int, isi_bool_str, isi_bool_tup, isi_bool_l, isi_bool_f, isi_int_non, isi_int_bl, isi_int_int, isi_int_str, isi_int_tup, isi_int_l, isi_int_f, isi_str_non, isi_str_bl, isi_str_int, isi_str_str, isi_str_tup, isi_str_l, isi_str_f, isi_dict_non, isi_dict_bl, isi_dict_int, isi_dict_str, isi_dict_tup, isi_dict_l, isi_dict_f, Ab.isNon, args, List.map, List.length_cons, List.length_nil, List.length_singleton, List.replicate, Nat.reduceSub, Nat.reduceAdd, Nat.zero_add, List.cons_append, List.nil_append, List.getElem?_cons_zero, List.getElem?_cons_succ, List.set_cons_zero, List.set_cons_succ, Option.some.injEq, decide_eq_true_eq, Bool.not_eq_true', decide_eq_false_iff_not, ite_true, ite_false, if_true, if_false, reduceIte, Bool.false_eq_true, Bool.not_true, Bool.not_false, Bool.true_eq_false, decide_true, decide_false, Nat.reduceLeDiff, Nat.reduceLT, ixb]
      exact ⟨trivial, .refl⟩
  | null n =>
    intro hn hg
    refine ⟨.non, .inl rfl, fun m hm r A hr => ?_⟩
    obtain ⟨m, rfl⟩ : ∃ k, m = k + 1 := ⟨m - 1, by omega⟩
    refine ⟨one (sat_body rfl (sat_seq ?_)), sat_body rfl (sat_seq ?_)⟩
    · simp only [sat_ok, sat_bad, sat_bind, sat_ite, bind_ok, bind_bad, thn_nx, thn_rt, thn_bk, thn_ct, fin_rt, fin_nx, ev_v, ev_c, ev_op, ev_un, ev_nil, ev_cons, ev_tup, ev_lst, ev_call, ev_own, ev_sl, ev_no, ev_part, ev_and, ev_or, ev_not, ev_if, ev_t, ev_tb, ev_tnot, ev_tand, ev_tor, ev_mt, ev_mt0, ev_rgd, ev_set, ev_asg, ev_ret, ev_retN, ev_ex, ev_pass, ev_brk, ev_cont, ev_ifS, ev_aug, ev_gn, ev_gtp, ev_gnl, ev_gcs, ev_gsb, ev_for, ev_rg1, ev_rg2, ev_its, ev_enum, ev_lc, ev_yes, ev_add_ii, ev_add_ss, ev_add_tt, ev_add_rr, ev_sub, ev_mul, ev_mod, ev_fdiv, ev_pow, ev_neg, ev_lt, ev_le, ev_gt, ev_ge, ev_eq_ii, ev_eq_ss, ev_eq_bb, ev_ne_ii, ev_ne_ss, ev_ne_bb, ev_is_n, ev_isnt_n, ev_int_i, ev_int_b, ev_min_ii, ev_max_ii, ev_abs, ev_tup_of, ev_tup_ofL, ev_lst_ofT, ev_lst_ofL, ev_len_t, ev_len_s, ev_len_r, ev_tru_b, ev_alloc, ev_tupD, ev_lstD, isi_tuple_non, isi_tuple_bl, isi_tuple_int, isi_tuple_str, isi_tuple_tup, isi_tuple_l, isi_tuple_f, isi_list_non, isi_list_bl, isi_list_int, isi_list_str, isi_list_tup, isi_list_l, isi_list_f, isi_bool_non, isi_bool_bl, isi_bool_int, isi_bool_str, isi_bool_tup, isi_bool_l, isi_bool_f, isi_int_non, isi_int_bl, isi_int_int, isi_int_str, isi_int_tup, isi_int_l, isi_int_f, isi_str_non, isi_str_bl, isi_str_int, isi_str_str, isi_str_tup, isi_str_l, isi_str_f, isi_dict_non, isi_dict_bl, isi_dict_int, isi_dict_str, isi_dict_tup, isi_dict_l, isi_dict_f, Ab.isNon, args, List.map, List.length_cons, List.length_nil, List.length_singleton, List.replicate, Nat.reduceSub, Nat.reduceAdd, Nat.zero_add, List.cons_append, List.nil_append, List.getElem?_cons_zero, List.getElem?_cons_succ, List.set_cons_zero, List.set_cons_succ, Option.some.injEq, decide_eq_true_eq, Bool.not_eq_true', decide_eq_false_iff_not, ite_true, ite_false, if_true, if_false, reduceIte, Bool.false_eq_true, Bool.not_true, Bool.not_false, Bool.true_eq_false, decide_true, decide_false, Nat.reduceLeDiff, Nat.reduceLT, ixa]
      refine sat_seq ?_; simp (decide := true) only [sat_ok, sat_bad, sat_bind, sat_ite, bind_ok, bind_bad, thn_nx, thn_rt, thn_bk, thn_ct, fin_rt, fin_nx, ev_v, ev_c, ev_op, ev_un, ev_nil, ev_cons, ev_tup, ev_lst, ev_call, ev_own, ev_sl, ev_no, ev_part, ev_and, ev_or, ev_not, ev_if, ev_t, ev_tb, ev_tnot, ev_tand, ev_tor, ev_mt, ev_mt0, ev_rgd, ev_set, ev_asg, ev_ret, ev_retN, ev_ex, ev_pass, ev_brk, ev_cont, ev_ifS, ev_aug, ev_gn, ev_gtp, ev_gnl, ev_gcs, ev_gsb, ev_for, ev_rg1, ev_rg2, ev_its, ev_enum, ev_lc, ev_yes, ev_add_ii, ev_add_ss, ev_add_tt, ev_add_rr, ev_sub, ev_mul, ev_mod, ev_fdiv, ev_pow, ev_neg, ev_lt, ev_le, ev_gt, ev_ge, ev_eq_ii, ev_eq_ss, ev_eq_bb, ev_ne_ii, ev_ne_ss, ev_ne_bb, ev_is_n, ev_isnt_n, ev_int_i, ev_int_b, ev_min_ii, ev_max_ii, ev_abs, ev_tup_of, ev_tup_ofL, ev_lst_ofT, ev_lst_ofL, ev_len_t, ev_len_s, ev_len_r, ev_tru_b, ev_alloc, ev_tupD, ev_lstD, isi_tuple_non, isi_tuple_bl, isi_tuple_int, isi_tuple_str, isi_tuple_tup, isi_tuple_l, isi_tuple_f, isi_list_non, isi_list_bl, isi_list_int, isi_list_str, isi_list_tup, isi_list_l, isi_list_f, isi_bool_non, isi_bool_bl, isi_bool_int, isi_bool_str, isi_bool_tup, isi_bool_l, isi_bool_f, isi_int_non, isi_int_bl, isi_int_int, isi_int_str, isi_int_tup, isi_int_l, isi_int_f, isi_str_non, isi_str_bl, isi_str_int, isi_str_str, isi_str_tup, isi_str_l, isi_str_f, isi_dict_non, isi_dict_bl, isi_dict_int, isi_dict_str, isi_dict_tup, isi_dict_l, isi_dict_f, Ab.isNon, args, List.map, List.length_cons, List.length_nil, List.length_singleton, List.replicate, Nat.reduceSub, Nat.reduceAdd, Nat.zero_add, List.cons_append, List.nil_append, List.getElem?_cons_zero, List.getElem?_cons_succ, List.set_cons_zero, List.set_cons_succ, Option.some.injEq, decide_eq_true_eq, Bool.not_eq_true', decide_eq_false_iff_not, ite_true, ite_false, if_true, if_false, reduceIte, Bool.false_eq_true, Bool.not_true, Bool.not_false, Bool.true_eq_false, decide_true, decide_false, Nat.reduceLeDiff, Nat.reduceLT]
      refine sat_seq ?_; simp (decide := true) only [sat_ok, sat_bad, sat_bind, sat_ite, bind_ok, bind_bad, thn_nx, thn_rt, thn_bk, thn_ct, fin_rt, fin_nx, ev_v, ev_c, ev_op, ev_un, ev_nil, ev_cons, ev_tup, ev_lst, ev_call, ev_own, ev_sl, ev_no, ev_part, ev_and, ev_or, ev_not, ev_if, ev_t, ev_tb, ev_tnot, ev_tand, ev_tor, ev_mt, ev_mt0, ev_rgd, ev_set, ev_asg, ev_ret, ev_retN, ev_ex, ev_pass, ev_brk, ev_cont, ev_ifS, ev_aug, ev_gn, ev_gtp, ev_gnl, ev_gcs, ev_gsb, ev_for, ev_rg1, ev_rg2, ev_its, ev_enum, ev_lc, ev_yes, ev_add_ii, ev_add_ss, ev_add_tt, ev_add_rr, ev_sub, ev_mul, ev_mod, ev_fdiv, ev_pow, ev_neg, ev_lt, ev_le, ev_gt, ev_ge, ev_eq_ii, ev_eq_ss, ev_eq_bb, ev_ne_ii, ev_ne_ss, ev_ne_bb, ev_is_n, ev_isnt_n, ev_int_i, ev_int_b, ev_min_ii, ev_max_ii, ev_abs, ev_tup_of, ev_tup_ofL, ev_lst_ofT, ev_lst_ofL, ev_len_t, ev_len_s, ev_len_r, ev_tru_b, ev_alloc, ev_tupD, ev_lstD, isi_tuple_non, isi_tuple_bl, isi_tuple_int, isi_tuple_str, isi_tuple_tup, isi_tuple_l, isi_tuple_f, isi_list_non, isi_list_bl, isi_list_int, isi_list_str, isi_list_tup, isi_list_l, isi_list_f, isi_bool_non, isi_bool_bl, isi_bool_int, isi_bool_str, isi_bool_tup, isi_bool_l, isi_bool_f, isi_int_non, isi_int_bl, isi_int_int, isi_int_str, isi_int_tup, isi_int_l, isi_int_f, isi_str_non, isi_str_bl, isi_str_int, isi_str_str, isi_str_tup, isi_str_l, isi_str_f, isi_dict_non, isi_dict_bl, isi_dict_int, isi_dict_str, isi_dict_tup, isi_dict_l, isi_dict_f, Ab.isNon, args, List.map, List.length_cons, List.length_nil, List.length_singleton, List.replicate, Nat.reduceSub, Nat.reduceAdd, Nat.zero_add, List.cons_append, List.nil_append, List.getElem?_cons_zero, List.getElem?_cons_succ, List.set_cons_zero, List.set_cons_succ, Option.some.injEq, decide_eq_true_eq, Bool.not_eq_true', decide_eq_false_iff_not, ite_true, ite_false, if_true, if_false, reduceIte, Bool.false_eq_true, Bool.not_true, Bool.not_false, Bool.true_eq_false, decide_true, decide_false, Nat.reduceLeDiff, Nat.reduceLT]
    · simp only [sat_ok, sat_bad, sat_bind, sat_ite, bind_ok, bind_bad, thn_nx, thn_rt, thn_bk, thn_ct, fin_rt, fin_nx, ev_v, ev_c, ev_op, ev_un, ev_nil, ev_cons, ev_tup, ev_lst, ev_call, ev_own, ev_sl, ev_no, ev_part, ev_and, ev_or, ev_not, ev_if, ev_t, ev_tb, ev_tnot, ev_tand, ev_tor, ev_mt, ev_mt0, ev_rgd, ev_set, ev_asg, ev_ret, ev_retN, ev_ex, ev_pass, ev_brk, ev_cont, ev_ifS, ev_aug, ev_gn, ev_gtp, ev_gnl, ev_gcs, ev_gsb, ev_for, ev_rg1, ev_rg2, ev_its, ev_enum, ev_lc, ev_yes, ev_add_ii, ev_add_ss, ev_add_tt, ev_add_rr, ev_sub, ev_mul, ev_mod, ev_fdiv, ev_pow, ev_neg, ev_lt, ev_le, ev_gt, ev_ge, ev_eq_ii, ev_eq_ss, ev_eq_bb, ev_ne_ii, ev_ne_ss, ev_ne_bb, ev_is_n, ev_isnt_n, ev_int_i, ev_int_b, ev_min_ii, ev_max_ii, ev_abs, ev_tup_of, ev_tup_ofL, ev_lst_ofT, ev_lst_ofL, ev_len_t, ev_len_s, ev_len_r, ev_tru_b, ev_alloc, ev_tupD, ev_lstD, isi_tuple_non, isi_tuple_bl, isi_tuple_int, isi_tuple_str, isi_tuple_tup, isi_tuple_l, isi_tuple_f, isi_list_non, isi_list_bl, isi_list_int, isi_list_str, isi_list_tup, isi_list_l, isi_list_f, isi_bool_non, isi_bool_bl, isi_bool_int, isi_bool_str, isi_bool_tup, isi_bool_l, isi_bool_f, isi_int_non, isi_int_bl, isi_int_int, isi_int_str, isi_int_tup, isi_int_l, isi_int_f, isi_str_non, isi_str_bl, isi_str_int, isi_str_str, isi_str_tup, isi_str_l, isi_str_f, isi_dict_non, isi_dict_bl, isi_dict_int, isi_dict_str, isi_dict_tup, isi_dict_l, isi_dict_f, Ab.isNon, args, List.map, List.length_cons, List.length_nil, List.length_singleton, List.replicate, Nat.reduceSub, Nat.reduceAdd, Nat.zero_add, List.cons_append, List.nil_append, List.getElem?_cons_zero, List.getElem?_cons_succ, List.set_cons_zero, List.set_cons_succ, Option.some.injEq, decide_eq_true_eq, Bool.not_eq_true', decide_eq_false_iff_not, ite_true, ite_false, if_true, if_false, reduceIte, Bool.false_eq_true, Bool.not_true, Bool.not_false, Bool.true_eq_false, decide_true, decide_false, Nat.reduceLeDiff, Nat.reduceLT, ixa]
      refine sat_seq ?_; simp (decide := true) only [sat_ok, sat_bad, sat_bind, sat_ite, bind_ok, bind_bad, thn_nx, thn_rt, thn_bk, thn_ct, fin_rt, fin_nx, ev_v, ev_c, ev_op, ev_un, ev_nil, ev_cons, ev_tup, ev_lst, ev_call, ev_own, ev_sl, ev_no, ev_part, ev_and, ev_or, ev_not, ev_if, ev_t, ev_tb, ev_tnot, ev_tand, ev_tor, ev_mt, ev_mt0, ev_rgd, ev_set, ev_asg, ev_ret, ev_retN, ev_ex, ev_pass, ev_brk, ev_cont, ev_ifS, ev_aug, ev_gn, ev_gtp, ev_gnl, ev_gcs, ev_gsb, ev_for, ev_rg1, ev_rg2, ev_its, ev_enum, ev_lc, ev_yes, ev_add_ii, ev_add_ss, ev_add_tt, ev_add_rr, ev_sub, ev_mul, ev_mod, ev_fdiv, ev_pow, ev_neg, ev_lt, ev_le, ev_gt, ev_ge, ev_eq_ii, ev_eq_ss, ev_eq_bb, ev_ne_ii, ev_ne_ss, ev_ne_bb, ev_is_n, ev_isnt_n, ev_int_i, ev_int_b, ev_min_ii, ev_max_ii, ev_abs, ev_tup_of, ev_tup_ofL, ev_lst_ofT, ev_lst_ofL, ev_len_t, ev_len_s, ev_len_r, ev_tru_b, ev_alloc, ev_tupD, ev_lstD, isi_tuple_non, isi_tuple_bl, isi_tuple_int, isi_tuple_str, isi_tuple_tup, isi_tuple_l, isi_tuple_f, isi_list_non, isi_list_bl, isi_list_int, isi_list_str, isi_list_tup, isi_list_l, isi_list_f, isi_bool_non, isi_bool_bl, isi_bool_int, isi_bool_str, isi_bool_tup, isi_bool_l, isi_bool_f, isi_int_non, isi_int_bl, isi_int_int, isi_int_str, isi_int_tup, isi_int_l, isi_int_f, isi_str_non, isi_str_bl, isi_str_int, isi_str_str, isi_str_tup, isi_str_l, isi_str_f, isi_dict_non, isi_dict_bl, isi_dict_int, isi_dict_str, isi_dict_tup, isi_dict_l, isi_dict_f, Ab.isNon, args, List.map, List.length_cons, List.length_nil, List.length_singleton, List.replicate, Nat.reduceSub, Nat.reduceAdd, Nat.zero_add, List.cons_append, List.nil_append, List.getElem?_cons_zero, List.getElem?_cons_succ, List.set_cons_zero, List.set_cons_succ, Option.some.injEq, decide_eq_true_eq, Bool.not_eq_true', decide_eq_false_iff_not, ite_true, ite_false, if_true, if_false, reduceIte, Bool.false_eq_true, Bool.not_true, Bool.not_false, Bool.true_eq_false, decide_true, decide_false, Nat.reduceLeDiff, Nat.reduceLT]
      exact ⟨trivial, .refl⟩
  | name s n j x hx hj =>
    intro hn hg
    obtain ⟨v, hv, gv⟩ := hg x (List.mem_singleton.mpr rfl)
    refine ⟨v, (gv s j hx hj).up, fun m hm r A hr => ?_⟩
    obtain ⟨m, rfl⟩ : ∃ k, m = k + 1 := ⟨m - 1, by omega⟩
    refine ⟨one (sat_body rfl (sat_seq ?_)), sat_body rfl (sat_seq ?_)⟩
    · simp only [sat_ok, sat_bad, sat_bind, sat_ite, bind_ok, bind_bad, thn_nx, thn_rt, thn_bk, thn_ct, fin_rt, fin_nx, ev_v, ev_c, ev_op, ev_un, ev_nil, ev_cons, ev_tup, ev_lst, ev_call, ev_own, ev_sl, ev_no, ev_part, ev_and, ev_or, ev_not, ev_if, ev_t, ev_tb, ev_tnot, ev_tand, ev_tor, ev_mt, ev_mt0, ev_rgd, ev_set, ev_asg, ev_ret, ev_retN, ev_ex, ev_pass, ev_brk, ev_cont, ev_ifS, ev_aug, ev_gn, ev_gtp, ev_gnl, ev_gcs, ev_gsb, ev_for, ev_rg1, ev_rg2, ev_its, ev_enum, ev_lc, ev_yes, ev_add_ii, ev_add_ss, ev_add_tt, ev_add_rr, ev_sub, ev_mul, ev_mod, ev_fdiv, ev_pow, ev_neg, ev_lt, ev_le, ev_gt, ev_ge, ev_eq_ii, ev_eq_ss, ev_eq_bb, ev_ne_ii, ev_ne_ss, ev_ne_bb, ev_is_n, ev_isnt_n, ev_int_i, ev_int_b, ev_min_ii, ev_max_ii, ev_abs, ev_tup_of, ev_tup_ofL, ev_lst_ofT, ev_lst_ofL, ev_len_t, ev_len_s, ev_len_r, ev_tru_b, ev_alloc, ev_tupD, ev_lstD, isi_tuple_non, isi_tuple_bl, isi_tuple_int, isi_tuple_str, isi_tuple_tup, isi_tuple_l, isi_tuple_f, isi_list_non, isi_list_bl, isi_list_int, isi_list_str, isi_list_tup, isi_list_l, isi_list_f, isi_bool_non, isi_bool_bl, isi_bool_int, isi_bool_str, isi_bool_tup, isi_bool_l, isi_bool_f, isi_int_non, isi_int_bl, isi_int_int, isi_int_str, isi_int_tup, isi_int_l, isi_int_f, isi_str_non, isi_str_bl, isi_str_int, isi_str_str, isi_str_tup, isi_str_l, isi_str_f, isi_dict_non, isi_dict_bl, isi_dict_int, isi_dict_str, isi_dict_tup, isi_dict_l, isi_dict_f, Ab.isNon, args, List.map, List.length_cons, List.length_nil, List.length_singleton, List.replicate, Nat.reduceSub, Nat.reduceAdd, Nat.zero_add, List.cons_append, List.nil_append, List.getElem?_cons_zero, List.getElem?_cons_succ, List.set_cons_zero, List.set_cons_succ, Option.some.injEq, decide_eq_true_eq, Bool.not_eq_true', decide_eq_false_iff_not, ite_true, ite_false, if_true, if_false, reduceIte, Bool.false_eq_true, Bool.not_true, Bool.not_false, Bool.true_eq_false, decide_true, decide_false, Nat.reduceLeDiff, Nat.reduceLT, ixa]
      refine sat_seq ?_; simp (decide := true) only [sat_ok, sat_bad, sat_bind, sat_ite, bind_ok, bind_bad, thn_nx, thn_rt, thn_bk, thn_ct, fin_rt, fin_nx, ev_v, ev_c, ev_op, ev_un, ev_nil, ev_cons, ev_tup, ev_lst, ev_call, ev_own, ev_sl, ev_no, ev_part, ev_and, ev_or, ev_not, ev_if, ev_t, ev_tb, ev_tnot, ev_tand, ev_tor, ev_mt, ev_mt0, ev_rgd, ev_set, ev_asg, ev_ret, ev_retN, ev_ex, ev_pass, ev_brk, ev_cont, ev_ifS, ev_aug, ev_gn, ev_gtp, ev_gnl, ev_gcs, ev_gsb, ev_for, ev_rg1, ev_rg2, ev_its, ev_enum, ev_lc, ev_yes, ev_add_ii, ev_add_ss, ev_add_tt, ev_add_rr, ev_sub, ev_mul, ev_mod, ev_fdiv, ev_pow, ev_neg, ev_lt, ev_le, ev_gt, ev_ge, ev_eq_ii, ev_eq_ss, ev_eq_bb, ev_ne_ii, ev_ne_ss, ev_ne_bb, ev_is_n, ev_isnt_n, ev_int_i, ev_int_b, ev_min_ii, ev_max_ii, ev_abs, ev_tup_of, ev_tup_ofL, ev_lst_ofT, ev_lst_ofL, ev_len_t, ev_len_s, ev_len_r, ev_tru_b, ev_alloc, ev_tupD, ev_lstD, isi_tuple_non, isi_tuple_bl, isi_tuple_int, isi_tuple_str, isi_tuple_tup, isi_tuple_l, isi_tuple_f, isi_list_non, isi_list_bl, isi_list_int, isi_list_str, isi_list_tup, isi_list_l, isi_list_f, isi_bool_non, isi_bool_bl, isi_bool_int, isi_bool_str, isi_bool_tup, isi_bool_l, isi_bool_f, isi_int_non, isi_int_bl, isi_int_int, isi_int_str, isi_int_tup, isi_int_l, isi_int_f, isi_str_non, isi_str_bl, isi_str_int, isi_str_str, isi_str_tup, isi_str_l, isi_str_f, isi_dict_non, isi_dict_bl, isi_dict_int, isi_dict_str, isi_dict_tup, isi_dict_l, isi_dict_f, Ab.isNon, args, List.map, List.length_cons, List.length_nil, List.length_singleton, List.replicate, Nat.reduceSub, Nat.reduceAdd, Nat.zero_add, List.cons_append, List.nil_append, List.getElem?_cons_zero, List.getElem?_cons_succ, List.set_cons_zero, List.set_cons_succ, Option.some.injEq, decide_eq_true_eq, Bool.not_eq_true', decide_eq_false_iff_not, ite_true, ite_false, if_true, if_false, reduceIte, Bool.false_eq_true, Bool.not_true, Bool.not_false, Bool.true_eq_false, decide_true, decide_false, Nat.reduceLeDiff, Nat.reduceLT]
      refine sat_seq ?_; simp (decide := true) only [sat_ok, sat_bad, sat_bind, sat_ite, bind_ok, bind_bad, thn_nx, thn_rt, thn_bk, thn_ct, fin_rt, fin_nx, ev_v, ev_c, ev_op, ev_un, ev_nil, ev_cons, ev_tup, ev_lst, ev_call, ev_own, ev_sl, ev_no, ev_part, ev_and, ev_or, ev_not, ev_if, ev_t, ev_tb, ev_tnot, ev_tand, ev_tor, ev_mt, ev_mt0, ev_rgd, ev_set, ev_asg, ev_ret, ev_retN, ev_ex, ev_pass, ev_brk, ev_cont, ev_ifS, ev_aug, ev_gn, ev_gtp, ev_gnl, ev_gcs, ev_gsb, ev_for, ev_rg1, ev_rg2, ev_its, ev_enum, ev_lc, ev_yes, ev_add_ii, ev_add_ss, ev_add_tt, ev_add_rr, ev_sub, ev_mul, ev_mod, ev_fdiv, ev_pow, ev_neg, ev_lt, ev_le, ev_gt, ev_ge, ev_eq_ii, ev_eq_ss, ev_eq_bb, ev_ne_ii, ev_ne_ss, ev_ne_bb, ev_is_n, ev_isnt_n, ev_int_i, ev_int_b, ev_min_ii, ev_max_ii, ev_abs, ev_tup_of, ev_tup_ofL, ev_lst_ofT, ev_lst_ofL, ev_len_t, ev_len_s, ev_len_r, ev_tru_b, ev_alloc, ev_tupD, ev_lstD, isi_tuple_non, isi_tuple_bl, isi_tuple_int, isi_tuple_str, isi_tuple_tup, isi_tuple_l, isi_tuple_f, isi_list_non, isi_list_bl, isi_list_int, isi_list_str, isi_list_tup, isi_list_l, isi_list_f, isi_bool_non, isi_bool_bl, isi_bool_int, isi_bool_str, isi_bool_tup, isi_bool_l, isi_bool_f, isi_int_non, isi_int_bl, isi_int_int, isi_int_str, isi_int_tup, isi_int_l, isi_int_f, isi_str_non, isi_str_bl, isi_str_int, isi_str_str, isi_str_tup, isi_str_l, isi_str_f, isi_dict_non, isi_dict_bl, isi_dict_int, isi_dict_str, isi_dict_tup, isi_dict_l, isi_dict_f, Ab.isNon, args, List.map, List.length_cons, List.length_nil, List.length_singleton, List.replicate, Nat.reduceSub, Nat.reduceAdd, Nat.zero_add, List.cons_append, List.nil_append, List.getElem?_cons_zero, List.getElem?_cons_succ, List.set_cons_zero, List.set_cons_succ, Option.some.injEq, decide_eq_true_eq, Bool.not_eq_true', decide_eq_false_iff_not, ite_true, ite_false, if_true, if_false, reduceIte, Bool.false_eq_true, Bool.not_true, Bool.not_false, Bool.true_eq_false, decide_true, decide_false, Nat.reduceLeDiff, Nat.reduceLT]
      refine sat_seq ?_; simp (decide := true) only [sat_ok, sat_bad, sat_bind, sat_ite, bind_ok, bind_bad, thn_nx, thn_rt, thn_bk, thn_ct, fin_rt, fin_nx, ev_v, ev_c, ev_op, ev_un, ev_nil, ev_cons, ev_tup, ev_lst, ev_call, ev_own, ev_sl, ev_no, ev_part, ev_and, ev_or, ev_not, ev_if, ev_t, ev_tb, ev_tnot, ev_tand, ev_tor, ev_mt, ev_mt0, ev_rgd, ev_set, ev_asg, ev_ret, ev_retN, ev_ex, ev_pass, ev_brk, ev_cont, ev_ifS, ev_aug, ev_gn, ev_gtp, ev_gnl, ev_gcs, ev_gsb, ev_for, ev_rg1, ev_rg2, ev_its, ev_enum, ev_lc, ev_yes, ev_add_ii, ev_add_ss, ev_add_tt, ev_add_rr, ev_sub, ev_mul, ev_mod, ev_fdiv, ev_pow, ev_neg, ev_lt, ev_le, ev_gt, ev_ge, ev_eq_ii, ev_eq_ss, ev_eq_bb, ev_ne_ii, ev_ne_ss, ev_ne_bb, ev_is_n, ev_isnt_n, ev_int_i, ev_int_b, ev_min_ii, ev_max_ii, ev_abs, ev_tup_of, ev_tup_ofL, ev_lst_ofT, ev_lst_ofL, ev_len_t, ev_len_s, ev_len_r, ev_tru_b, ev_alloc, ev_tupD, ev_lstD, isi_tuple_non, isi_tuple_bl, isi_tuple_int, isi_tuple_str, isi_tuple_tup, isi_tuple_l, isi_tuple_f, isi_list_non, isi_list_bl, isi_list_int, isi_list_str, isi_list_tup, isi_list_l, isi_list_f, isi_bool_non, isi_bool_bl, isi_bool_int, isi_bool_str, isi_bool_tup, isi_bool_l, isi_bool_f, isi_int_non, isi_int_bl, isi_int_int, isi_int_str, isi_int_tup, isi_int_l, isi_int_f, isi_str_non, isi_str_bl, isi_str_int, isi_str_str, isi_str_tup, isi_str_l, isi_str_f, isi_dict_non, isi_dict_bl, isi_dict_int, isi_dict_str, isi_dict_tup, isi_dict_l, isi_dict_f, Ab.isNon, args, List.map, List.length_cons, List.length_nil, List.length_singleton, List.replicate, Nat.reduceSub, Nat.reduceAdd, Nat.zero_add, List.cons_append, List.nil_append, List.getElem?_cons_zero, List.getElem?_cons_succ, List.set_cons_zero, List.set_cons_succ, Option.some.injEq, decide_eq_true_eq, Bool.not_eq_true', decide_eq_false_iff_not, ite_true, ite_false, if_true, if_false, reduceIte, Bool.false_eq_true, Bool.not_true, Bool.not_false, Bool.true_eq_false, decide_true, decide_false, Nat.reduceLeDiff, Nat.reduceLT, ixb, ixk hr hv]
    · simp only [sat_ok, sat_bad, sat_bind, sat_ite, bind_ok, bind_bad, thn_nx, thn_rt, thn_bk, thn_ct, fin_rt, fin_nx, ev_v, ev_c, ev_op, ev_un, ev_nil, ev_cons, ev_tup, ev_lst, ev_call, ev_own, ev_sl, ev_no, ev_part, ev_and, ev_or, ev_not, ev_if, ev_t, ev_tb, ev_tnot, ev_tand, ev_tor, ev_mt, ev_mt0, ev_rgd, ev_set, ev_asg, ev_ret, ev_retN, ev_ex, ev_pass, ev_brk, ev_cont, ev_ifS, ev_aug, ev_gn, ev_gtp, ev_gnl, ev_gcs, ev_gsb, ev_for, ev_rg1, ev_rg2, ev_its, ev_enum, ev_lc, ev_yes, ev_add_ii, ev_add_ss, ev_add_tt, ev_add_rr, ev_sub, ev_mul, ev_mod, ev_fdiv, ev_pow, ev_neg, ev_lt, ev_le, ev_gt, ev_ge, ev_eq_ii, ev_eq_ss, ev_eq_bb, ev_ne_ii, ev_ne_ss, ev_ne_bb, ev_is_n, ev_isnt_n, ev_int_i, ev_int_b, ev_min_ii, ev_max_ii, ev_abs, ev_tup_of, ev_tup_ofL, ev_lst_ofT, ev_lst_ofL, ev_len_t, ev_len_s, ev_len_r, ev_tru_b, ev_alloc, ev_tupD, ev_lstD, isi_tuple_non, isi_tuple_bl, isi_tuple_int, isi_tuple_str, isi_tuple_tup, isi_tuple_l, isi_tuple_f, isi_list_non, isi_list_bl, isi_list_int, isi_list_str, isi_list_tup, isi_list_l, isi_list_f, isi_bool_non, isi_bool_bl, isi_bool_int, isi_bool_str, isi_bool_tup, isi_bool_l, isi_bool_f, isi_int_non, isi_int_bl, isi_int_int, isi_int_str, isi_int_tup, isi_int_l, isi_int_f, isi_str_non, isi_str_bl, isi_str_int, isi_str_str, isi_str_tup, isi_str_l, isi_str_f, isi_dict_non, isi_dict_bl, isi_dict_int, isi_dict_str, isi_dict_tup, isi_dict_l, isi_dict_f, Ab.isNon, args, List.map, List.length_cons, List.length_nil, List.length_singleton, List.replicate, Nat.reduceSub, Nat.reduceAdd, Nat.zero_add, List.cons_append, List.nil_append, List.getElem?_cons_zero, List.getElem?_cons_succ, List.set_cons_zero, List.set_cons_succ, Option.some.injEq, decide_eq_true_eq, Bool.not_eq_true', decide_eq_false_iff_not, ite_true, ite_false, if_true, if_false, reduceIte, Bool.false_eq_true, Bool.not_true, Bool.not_false, Bool.true_eq_false, decide_true, decide_false, Nat.reduceLeDiff, Nat.reduceLT, ixa]
      refine sat_seq ?_; simp (decide := true) only [sat_ok, sat_bad, sat_bind, sat_ite, bind_ok, bind_bad, thn_nx, thn_rt, thn_bk, thn_ct, fin_rt, fin_nx, ev_v, ev_c, ev_op, ev_un, ev_nil, ev_cons, ev_tup, ev_lst, ev_call, ev_own, ev_sl, ev_no, ev_part, ev_and, ev_or, ev_not, ev_if, ev_t, ev_tb, ev_tnot, ev_tand, ev_tor, ev_mt, ev_mt0, ev_rgd, ev_set, ev_asg, ev_ret, ev_retN, ev_ex, ev_pass, ev_brk, ev_cont, ev_ifS, ev_aug, ev_gn, ev_gtp, ev_gnl, ev_gcs, ev_gsb, ev_for, ev_rg1, ev_rg2, ev_its, ev_enum, ev_lc, ev_yes, ev_add_ii, ev_add_ss, ev_add_tt, ev_add_rr, ev_sub, ev_mul, ev_mod, ev_fdiv, ev_pow, ev_neg, ev_lt, ev_le, ev_gt, ev_ge, ev_eq_ii, ev_eq_ss, ev_eq_bb, ev_ne_ii, ev_ne_ss, ev_ne_bb, ev_is_n, ev_isnt_n, ev_int_i, ev_int_b, ev_min_ii, ev_max_ii, ev_abs, ev_tup_of, ev_tup_ofL, ev_lst_ofT, ev_lst_ofL, ev_len_t, ev_len_s, ev_len_r, ev_tru_b, ev_alloc, ev_tupD, ev_lstD, isi_tuple_non, isi_tuple_bl, isi_tuple_int, isi_tuple_str, isi_tuple_tup, isi_tuple_l, isi_tuple_f, isi_list_non, isi_list_bl, isi_list_int, isi_list_str, isi_list_tup, isi_list_l, isi_list_f, isi_bool_non, isi_bool_bl, isi_bool_int, isi_bool_str, isi_bool_tup, isi_bool_l, isi_bool_f, isi_int_non, isi_int_bl, isi_int_int, isi_int_str, isi_int_tup, isi_int_l, isi_int_f, isi_str_non, isi_str_bl, isi_str_int, isi_str_str, isi_str_tup, isi_str_l, isi_str_f, isi_dict_non, isi_dict_bl, isi_dict_int, isi_dict_str, isi_dict_tup, isi_dict_l, isi_dict_f, Ab.isNon, args, List.map, List.length_cons, List.length_nil, List.length_singleton, List.replicate, Nat.reduceSub, Nat.reduceAdd, Nat.zero_add, List.cons_append, List.nil_append, List.getElem?_cons_zero, List.getElem?_cons_succ, List.set_cons_zero, List.set_cons_succ, Option.some.injEq, decide_eq_true_eq, Bool.not_eq_true', decide_eq_false_iff_not, ite_true, ite_false, if_true, if_false, reduceIte, Bool.false_eq_true, Bool.not_true, Bool.not_false, Bool.true_eq_false, decide_true, decide_false, Nat.reduceLeDiff, Nat.reduceLT]
      refine sat_seq ?_; simp (decide := true) only [sat_ok, sat_bad, sat_bind, sat_ite, bind_ok, bind_bad, thn_nx, thn_rt, thn_bk, thn_ct, fin_rt, fin_nx, ev_v, ev_c, ev_op, ev_un, ev_nil, ev_cons, ev_tup, ev_lst, ev_call, ev_own, ev_sl, ev_no, ev_part, ev_and, ev_or, ev_not, ev_if, ev_t, ev_tb, ev_tnot, ev_tand, ev_tor, ev_mt, ev_mt0, ev_rgd, ev_set, ev_asg, ev_ret, ev_retN, ev_ex, ev_pass, ev_brk, ev_cont, ev_ifS, ev_aug, ev_gn, ev_gtp, ev_gnl, ev_gcs, ev_gsb, ev_for, ev_rg1, ev_rg2, ev_its, ev_enum, ev_lc, ev_yes, ev_add_ii, ev_add_ss, ev_add_tt, ev_add_rr, ev_sub, ev_mul, ev_mod, ev_fdiv, ev_pow, ev_neg, ev_lt, ev_le, ev_gt, ev_ge, ev_eq_ii, ev_eq_ss, ev_eq_bb, ev_ne_ii, ev_ne_ss, ev_ne_bb, ev_is_n, ev_isnt_n, ev_int_i, ev_int_b, ev_min_ii, ev_max_ii, ev_abs, ev_tup_of, ev_tup_ofL, ev_lst_ofT, ev_lst_ofL, ev_len_t, ev_len_s, ev_len_r, ev_tru_b, ev_alloc, ev_tupD, ev_lstD, isi_tuple_non, isi_tuple_bl, isi_tuple_int, isi_tuple_str, isi_tuple_tup, isi_tuple_l, isi_tuple_f, isi_list_non, isi_list_bl, isi_list_int, isi_list_str, isi_list_tup, isi_list_l, isi_list_f, isi_bool_non, isi_bool_bl, isi_bool_int, isi_bool_str, isi_bool_tup, isi_bool_l, isi_bool_f, isi_int_non, isi_int_bl, isi_int_int, isi_int_str, isi_int_tup, isi_int_l, isi_int_f, isi_str_non, isi_str_bl, isi_str_int, isi_str_str, isi_str_tup, isi_str_l, isi_str_f, isi_dict_non, isi_dict_bl, isi_dict_int, isi_dict_str, isi_dict_tup, isi_dict_l, isi_dict_f, Ab.isNon, args, List.map, List.length_cons, List.length_nil, List.length_singleton, List.replicate, Nat.reduceSub, Nat.reduceAdd, Nat.zero_add, List.cons_append, List.nil_append, List.getElem?_cons_zero, List.getElem?_cons_succ, List.set_cons_zero, List.set_cons_succ, Option.some.injEq, decide_eq_true_eq, Bool.not_eq_true', decide_eq_false_iff_not, ite_true, ite_false, if_true, if_false, reduceIte, Bool.false_eq_true, Bool.not_true, Bool.not_false, Bool.true_eq_false, decide_true, decide_false, Nat.reduceLeDiff, Nat.reduceLT, ixb, ixk hr hv]
      exact ⟨trivial, .refl⟩
  | neg n d vs h ih =>
    intro hn hg
    obtain ⟨v, ⟨b, rfl⟩, he⟩ := ih (by omega) hg
    refine ⟨.bl (!b), ⟨_, rfl⟩, fun m hm r A hr => ?_⟩
    obtain ⟨m, rfl⟩ : ∃ k, m = k + 1 := ⟨m - 1, by omega⟩
    obtain ⟨h1, h2⟩ := he m (by omega) r A hr
    refine ⟨one (sat_body rfl (sat_seq ?_)), sat_body rfl (sat_seq ?_)⟩
    · simp only [sat_ok, sat_bad, sat_bind, sat_ite, bind_ok, bind_bad, thn_nx, thn_rt, thn_bk, thn_ct, fin_rt, fin_nx, ev_v, ev_c, ev_op, ev_un, ev_nil, ev_cons, ev_tup, ev_lst, ev_call, ev_own, ev_sl, ev_no, ev_part, ev_and, ev_or, ev_not, ev_if, ev_t, ev_tb, ev_tnot, ev_tand, ev_tor, ev_mt, ev_mt0, ev_rgd, ev_set, ev_asg, ev_ret, ev_retN, ev_ex, ev_pass, ev_brk, ev_cont, ev_ifS, ev_aug, ev_gn, ev_gtp, ev_gnl, ev_gcs, ev_gsb, ev_for, ev_rg1, ev_rg2, ev_its, ev_enum, ev_lc, ev_yes, ev_add_ii, ev_add_ss, ev_add_tt, ev_add_rr, ev_sub, ev_mul, ev_mod, ev_fdiv, ev_pow, ev_neg, ev_lt, ev_le, ev_gt, ev_ge, ev_eq_ii, ev_eq_ss, ev_eq_bb, ev_ne_ii, ev_ne_ss, ev_ne_bb, ev_is_n, ev_isnt_n, ev_int_i, ev_int_b, ev_min_ii, ev_max_ii, ev_abs, ev_tup_of, ev_tup_ofL, ev_lst_ofT, ev_lst_ofL, ev_len_t, ev_len_s, ev_len_r, ev_tru_b, ev_alloc, ev_tupD, ev_lstD, isi_tuple_non, isi_tuple_bl, isi_tuple_int, isi_tuple_str, isi_tuple_tup, isi_tuple_l, isi_tuple_f, isi_list_non, isi_list_bl, isi_list_int, isi_list_str, isi_list_tup, isi_list_l, isi_list_f, isi_bool_non, isi_bool_bl, isi_bool_int, isi_bool_str, isi_bool_tup, isi_bool_l, isi_bool_f, isi_int_non, isi_int_bl, isi_int_int, isi_int_str, isi_int_tup, isi_int_l, isi_int_f, isi_str_non, isi_str_bl, isi_str_int, isi_str_str, isi_str_tup, isi_str_l, isi_str_f, isi_dict_non, isi_dict_bl, isi_dict_int, isi_dict_str, isi_dict_tup, isi_dict_l, isi_dict_f, Ab.isNon, args, List.map, List.length_cons, List.length_nil, List.length_singleton, List.replicate, Nat.reduceSub, Nat.reduceAdd, Nat.zero_add, List.cons_append, List.nil_append, List.getElem?_cons_zero, List.getElem?_cons_succ, List.set_cons_zero, List.set_cons_succ, Option.some.injEq, decide_eq_true_eq, Bool.not_eq_true', decide_eq_false_iff_not, ite_true, ite_false, if_true, if_false, reduceIte, Bool.false_eq_true, Bool.not_true, Bool.not_false, Bool.true_eq_false, decide_true, decide_false, Nat.reduceLeDiff, Nat.reduceLT, ixa]
      refine sat_seq ?_; simp (decide := true) only [sat_ok, sat_bad, sat_bind, sat_ite, bind_ok, bind_bad, thn_nx, thn_rt, thn_bk, thn_ct, fin_rt, fin_nx, ev_v, ev_c, ev_op, ev_un, ev_nil, ev_cons, ev_tup, ev_lst, ev_call, ev_own, ev_sl, ev_no, ev_part, ev_and, ev_or, ev_not, ev_if, ev_t, ev_tb, ev_tnot, ev_tand, ev_tor, ev_mt, ev_mt0, ev_rgd, ev_set, ev_asg, ev_ret, ev_retN, ev_ex, ev_pass, ev_brk, ev_cont, ev_ifS, ev_aug, ev_gn, ev_gtp, ev_gnl, ev_gcs, ev_gsb, ev_for, ev_rg1, ev_rg2, ev_its, ev_enum, ev_lc, ev_yes, ev_add_ii, ev_add_ss, ev_add_tt, ev_add_rr, ev_sub, ev_mul, ev_mod, ev_fdiv, ev_pow, ev_neg, ev_lt, ev_le, ev_gt, ev_ge, ev_eq_ii, ev_eq_ss, ev_eq_bb, ev_ne_ii, ev_ne_ss, ev_ne_bb, ev_is_n, ev_isnt_n, ev_int_i, ev_int_b, ev_min_ii, ev_max_ii, ev_abs, ev_tup_of, ev_tup_ofL, ev_lst_ofT, ev_lst_ofL, ev_len_t, ev_len_s, ev_len_r, ev_tru_b, ev_alloc, ev_tupD, ev_lstD, isi_tuple_non, isi_tuple_bl, isi_tuple_int, isi_tuple_str, isi_tuple_tup, isi_tuple_l, isi_tuple_f, isi_list_non, isi_list_bl, isi_list_int, isi_list_str, isi_list_tup, isi_list_l, isi_list_f, isi_bool_non, isi_bool_bl, isi_bool_int, isi_bool_str, isi_bool_tup, isi_bool_l, isi_bool_f, isi_int_non, isi_int_bl, isi_int_int, isi_int_str, isi_int_tup, isi_int_l, isi_int_f, isi_str_non, isi_str_bl, isi_str_int, isi_str_str, isi_str_tup, isi_str_l, isi_str_f, isi_dict_non, isi_dict_bl, isi_dict_int, isi_dict_str, isi_dict_tup, isi_dict_l, isi_dict_f, Ab.isNon, args, List.map, List.length_cons, List.length_nil, List.length_singleton, List.replicate, Nat.reduceSub, Nat.reduceAdd, Nat.zero_add, List.cons_append, List.nil_append, List.getElem?_cons_zero, List.getElem?_cons_succ, List.set_cons_zero, List.set_cons_succ, Option.some.injEq, decide_eq_true_eq, Bool.not_eq_true', decide_eq_false_iff_not, ite_true, ite_false, if_true, if_false, reduceIte, Bool.false_eq_true, Bool.not_true, Bool.not_false, Bool.true_eq_false, decide_true, decide_false, Nat.reduceLeDiff, Nat.reduceLT]
      refine sat_seq ?_; simp (decide := true) only [sat_ok, sat_bad, sat_bind, sat_ite, bind_ok, bind_bad, thn_nx, thn_rt, thn_bk, thn_ct, fin_rt, fin_nx, ev_v, ev_c, ev_op, ev_un, ev_nil, ev_cons, ev_tup, ev_lst, ev_call, ev_own, ev_sl, ev_no, ev_part, ev_and, ev_or, ev_not, ev_if, ev_t, ev_tb, ev_tnot, ev_tand, ev_tor, ev_mt, ev_mt0, ev_rgd, ev_set, ev_asg, ev_ret, ev_retN, ev_ex, ev_pass, ev_brk, ev_cont, ev_ifS, ev_aug, ev_gn, ev_gtp, ev_gnl, ev_gcs, ev_gsb, ev_for, ev_rg1, ev_rg2, ev_its, ev_enum, ev_lc, ev_yes, ev_add_ii, ev_add_ss, ev_add_tt, ev_add_rr, ev_sub, ev_mul, ev_mod, ev_fdiv, ev_pow, ev_neg, ev_lt, ev_le, ev_gt, ev_ge, ev_eq_ii, ev_eq_ss, ev_eq_bb, ev_ne_ii, ev_ne_ss, ev_ne_bb, ev_is_n, ev_isnt_n, ev_int_i, ev_int_b, ev_min_ii, ev_max_ii, ev_abs, ev_tup_of, ev_tup_ofL, ev_lst_ofT, ev_lst_ofL, ev_len_t, ev_len_s, ev_len_r, ev_tru_b, ev_alloc, ev_tupD, ev_lstD, isi_tuple_non, isi_tuple_bl, isi_tuple_int, isi_tuple_str, isi_tuple_tup, isi_tuple_l, isi_tuple_f, isi_list_non, isi_list_bl, isi_list_int, isi_list_str, isi_list_tup, isi_list_l, isi_list_f, isi_bool_non, isi_bool_bl, isi_bool_int, isi_bool_str, isi_bool_tup, isi_bool_l, isi_bool_f, isi_int_non, isi_int_bl, isi_int_int, isi_int_str, isi_int_tup, isi_int_l, isi_int_f, isi_str_non, isi_str_bl, isi_str_int, isi_str_str, isi_str_tup, isi_str_l, isi_str_f, isi_dict_non, isi_dict_bl, isi_dict_int, isi_dict_str, isi_dict_tup, isi_dict_l, isi_dict_f, Ab.isNon, args, List.map, List.length_cons, List.length_nil, List.length_singleton, List.replicate, Nat.reduceSub, Nat.reduceAdd, Nat.zero_add, List.cons_append, List.nil_append, List.getElem?_cons_zero, List.getElem?_cons_succ, List.set_cons_zero, List.set_cons_succ, Option.some.injEq, decide_eq_true_eq, Bool.not_eq_true', decide_eq_false_iff_not, ite_true, ite_false, if_true, if_false, reduceIte, Bool.false_eq_true, Bool.not_true, Bool.not_false, Bool.true_eq_false, decide_true, decide_false, Nat.reduceLeDiff, Nat.reduceLT]
      refine sat_seq ?_; simp (decide := true) only [sat_ok, sat_bad, sat_bind, sat_ite, bind_ok, bind_bad, thn_nx, thn_rt, thn_bk, thn_ct, fin_rt, fin_nx, ev_v, ev_c, ev_op, ev_un, ev_nil, ev_cons, ev_tup, ev_lst, ev_call, ev_own, ev_sl, ev_no, ev_part, ev_and, ev_or, ev_not, ev_if, ev_t, ev_tb, ev_tnot, ev_tand, ev_tor, ev_mt, ev_mt0, ev_rgd, ev_set, ev_asg, ev_ret, ev_retN, ev_ex, ev_pass, ev_brk, ev_cont, ev_ifS, ev_aug, ev_gn, ev_gtp, ev_gnl, ev_gcs, ev_gsb, ev_for, ev_rg1, ev_rg2, ev_its, ev_enum, ev_lc, ev_yes, ev_add_ii, ev_add_ss, ev_add_tt, ev_add_rr, ev_sub, ev_mul, ev_mod, ev_fdiv, ev_pow, ev_neg, ev_lt, ev_le, ev_gt, ev_ge, ev_eq_ii, ev_eq_ss, ev_eq_bb, ev_ne_ii, ev_ne_ss, ev_ne_bb, ev_is_n, ev_isnt_n, ev_int_i, ev_int_b, ev_min_ii, ev_max_ii, ev_abs, ev_tup_of, ev_tup_ofL, ev_lst_ofT, ev_lst_ofL, ev_len_t, ev_len_s, ev_len_r, ev_tru_b, ev_alloc, ev_tupD, ev_lstD, isi_tuple_non, isi_tuple_bl, isi_tuple_int, isi_tuple_str, isi_tuple_tup, isi_tuple_l, isi_tuple_f, isi_list_non, isi_list_bl, isi_list_int, isi_list_str, isi_list_tup, isi_list_l, isi_list_f, isi_bool_non, isi_bool_bl, isi_bool_int, isi_bool_str, isi_bool_tup, isi_bool_l, isi_bool_f, isi_int_non, isi_int_bl, isi_int_int, isi_int_str, isi_int_tup, isi_int_l, isi_int_f, isi_str_non, isi_str_bl, isi_str_int, isi_str_str, isi_str_tup, isi_str_l, isi_str_f, isi_dict_non, isi_dict_bl, isi_dict_int, isi_dict_str, isi_dict_tup, isi_dict_l, isi_dict_f, Ab.isNon, args, List.map, List.length_cons, List.length_nil, List.length_singleton, List.replicate, Nat.reduceSub, Nat.reduceAdd, Nat.zero_add, List.cons_append, List.nil_append, List.getElem?_cons_zero, List.getElem?_cons_succ, List.set_cons_zero, List.set_cons_succ, Option.some.injEq, decide_eq_true_eq, Bool.not_eq_true', decide_eq_false_iff_not, ite_true, ite_false, if_true, if_false, reduceIte, Bool.false_eq_true, Bool.not_true, Bool.not_false, Bool.true_eq_false, decide_true, decide_false, Nat.reduceLeDiff, Nat.reduceLT]
      refine sat_seq ?_; simp (decide := true) only [sat_ok, sat_bad, sat_bind, sat_ite, bind_ok, bind_bad, thn_nx, thn_rt, thn_bk, thn_ct, fin_rt, fin_nx, ev_v, ev_c, ev_op, ev_un, ev_nil, ev_cons, ev_tup, ev_lst, ev_call, ev_own, ev_sl, ev_no, ev_part, ev_and, ev_or, ev_not, ev_if, ev_t, ev_tb, ev_tnot, ev_tand, ev_tor, ev_mt, ev_mt0, ev_rgd, ev_set, ev_asg, ev_ret, ev_retN, ev_ex, ev_pass, ev_brk, ev_cont, ev_ifS, ev_aug, ev_gn, ev_gtp, ev_gnl, ev_gcs, ev_gsb, ev_for, ev_rg1, ev_rg2, ev_its, ev_enum, ev_lc, ev_yes, ev_add_ii, ev_add_ss, ev_add_tt, ev_add_rr, ev_sub, ev_mul, ev_mod, ev_fdiv, ev_pow, ev_neg, ev_lt, ev_le, ev_gt, ev_ge, ev_eq_ii, ev_eq_ss, ev_eq_bb, ev_ne_ii, ev_ne_ss, ev_ne_bb, ev_is_n, ev_isnt_n, ev_int_i, ev_int_b, ev_min_ii, ev_max_ii, ev_abs, ev_tup_of, ev_tup_ofL, ev_lst_ofT, ev_lst_ofL, ev_len_t, ev_len_s, ev_len_r, ev_tru_b, ev_alloc, ev_tupD, ev_lstD, isi_tuple_non, isi_tuple_bl, isi_tuple_int, isi_tuple_str, isi_tuple_tup, isi_tuple_l, isi_tuple_f, isi_list_non, isi_list_bl, isi_list_int, isi_list_str, isi_list_tup, isi_list_l, isi_list_f, isi_bool_non, isi_bool_bl, isi_bool_int, isi_bool_str, isi_bool_tup, isi_bool_l, isi_bool_f, isi_int_non, isi_int_bl, isi_int_int, isi_int_str, isi_int_tup, isi_int_l, isi_int_f, isi_str_non, isi_str_bl, isi_str_int, isi_str_str, isi_str_tup, isi_str_l, isi_str_f, isi_dict_non, isi_dict_bl, isi_dict_int, isi_dict_str, isi_dict_tup, isi_dict_l, isi_dict_f, Ab.isNon, args, List.map, List.length_cons, List.length_nil, List.length_singleton, List.replicate, Nat.reduceSub, Nat.reduceAdd, Nat.zero_add, List.cons_append, List.nil_append, List.getElem?_cons_zero, List.getElem?_cons_succ, List.set_cons_zero, List.set_cons_succ, Option.some.injEq, decide_eq_true_eq, Bool.not_eq_true', decide_eq_false_iff_not, ite_true, ite_false, if_true, if_false, reduceIte, Bool.false_eq_true, Bool.not_true, Bool.not_false, Bool.true_eq_false, decide_true, decide_false, Nat.reduceLeDiff, Nat.reduceLT, ixb, h1]
    · simp only [sat_ok, sat_bad, sat_bind, sat_ite, bind_ok, bind_bad, thn_nx, thn_rt, thn_bk, thn_ct, fin_rt, fin_nx, ev_v, ev_c, ev_op, ev_un, ev_nil, ev_cons, ev_tup, ev_lst, ev_call, ev_own, ev_sl, ev_no, ev_part, ev_and, ev_or, ev_not, ev_if, ev_t, ev_tb, ev_tnot, ev_tand, ev_tor, ev_mt, ev_mt0, ev_rgd, ev_set, ev_asg, ev_ret, ev_retN, ev_ex, ev_pass, ev_brk, ev_cont, ev_ifS, ev_aug, ev_gn, ev_gtp, ev_gnl, ev_gcs, ev_gsb, ev_for, ev_rg1, ev_rg2, ev_its, ev_enum, ev_lc, ev_yes, ev_add_ii, ev_add_ss, ev_add_tt, ev_add_rr, ev_sub, ev_mul, ev_mod, ev_fdiv, ev_pow, ev_neg, ev_lt, ev_le, ev_gt, ev_ge, ev_eq_ii, ev_eq_ss, ev_eq_bb, ev_ne_ii, ev_ne_ss, ev_ne_bb, ev_is_n, ev_isnt_n, ev_int_i, ev_int_b, ev_min_ii, ev_max_ii, ev_abs, ev_tup_of, ev_tup_ofL, ev_lst_ofT, ev_lst_ofL, ev_len_t, ev_len_s, ev_len_r, ev_tru_b, ev_alloc, ev_tupD, ev_lstD, isi_tuple_non, isi_tuple_bl, isi_tuple_int, isi_tuple_str, isi_tuple_tup, isi_tuple_l, isi_tuple_f, isi_list_non, isi_list_bl, isi_list_int, isi_list_str, isi_list_tup, isi_list_l, isi_list_f, isi_bool_non, isi_bool_bl, isi_bool_int, isi_bool_str, isi_bool_tup, isi_bool_l, isi_bool_f, isi_int_non, isi_int_bl, isi_int_int, isi_int_str, isi_int_tup, isi_int_l, isi_int_f, isi_str_non, isi_str_bl, isi_str_int, isi_str_str, isi_str_tup, isi_str_l, isi_str_f, isi_dict_non, isi_dict_bl, isi_dict_int, isi_dict_str, isi_dict_tup, isi_dict_l, isi_dict_f, Ab.isNon, args, List.map, List.length_cons, List.length_nil, List.length_singleton, List.replicate, Nat.reduceSub, Nat.reduceAdd, Nat.zero_add, List.cons_append, List.nil_append, List.getElem?_cons_zero, List.getElem?_cons_succ, List.set_cons_zero, List.set_cons_succ, Option.some.injEq, decide_eq_true_eq, Bool.not_eq_true', decide_eq_false_iff_not, ite_true, ite_false, if_true, if_false, reduceIte, Bool.false_eq_true, Bool.not_true, Bool.not_false, Bool.true_eq_false, decide_true, decide_false, Nat.reduceLeDiff, Nat.reduceLT, ixa]
      refine sat_seq ?_; simp (decide := true) only [sat_ok, sat_bad, sat_bind, sat_ite, bind_ok, bind_bad, thn_nx, thn_rt, thn_bk, thn_ct, fin_rt, fin_nx, ev_v, ev_c, ev_op, ev_un, ev_nil, ev_cons, ev_tup, ev_lst, ev_call, ev_own, ev_sl, ev_no, ev_part, ev_and, ev_or, ev_not, ev_if, ev_t, ev_tb, ev_tnot, ev_tand, ev_tor, ev_mt, ev_mt0, ev_rgd, ev_set, ev_asg, ev_ret, ev_retN, ev_ex, ev_pass, ev_brk, ev_cont, ev_ifS, ev_aug, ev_gn, ev_gtp, ev_gnl, ev_gcs, ev_gsb, ev_for, ev_rg1, ev_rg2, ev_its, ev_enum, ev_lc, ev_yes, ev_add_ii, ev_add_ss, ev_add_tt, ev_add_rr, ev_sub, ev_mul, ev_mod, ev_fdiv, ev_pow, ev_neg, ev_lt, ev_le, ev_gt, ev_ge, ev_eq_ii, ev_eq_ss, ev_eq_bb, ev_ne_ii, ev_ne_ss, ev_ne_bb, ev_is_n, ev_isnt_n, ev_int_i, ev_int_b, ev_min_ii, ev_max_ii, ev_abs, ev_tup_of, ev_tup_ofL, ev_lst_ofT, ev_lst_ofL, ev_len_t, ev_len_s, ev_len_r, ev_tru_b, ev_alloc, ev_tupD, ev_lstD, isi_tuple_non, isi_tuple_bl, isi_tuple_int, isi_tuple_str, isi_tuple_tup, isi_tuple_l, isi_tuple_f, isi_list_non, isi_list_bl, isi_list_int, isi_list_str, isi_list_tup, isi_list_l, isi_list_f, isi_bool_non, isi_bool_bl, isi_bool_int, isi_bool_str, isi_bool_tup, isi_bool_l, isi_bool_f, isi_int_non, isi_int_bl, isi_int_int, isi_int_str, isi_int_tup, isi_int_l, isi_int_f, isi_str_non, isi_str_bl, isi_str_int, isi_str_str, isi_str_tup, isi_str_l, isi_str_f, isi_dict_non, isi_dict_bl, isi_dict_int, isi_dict_str, isi_dict_tup, isi_dict_l, isi_dict_f, Ab.isNon, args, List.map, List.length_cons, List.length_nil, List.length_singleton, List.replicate, Nat.reduceSub, Nat.reduceAdd, Nat.zero_add, List.cons_append, List.nil_append, List.getElem?_cons_zero, List.getElem?_cons_succ, List.set_cons_zero, List.set_cons_succ, Option.some.injEq, decide_eq_true_eq, Bool.not_eq_true', decide_eq_false_iff_not, ite_true, ite_false, if_true, if_false, reduceIte, Bool.false_eq_true, Bool.not_true, Bool.not_false, Bool.true_eq_false, decide_true, decide_false, Nat.reduceLeDiff, Nat.reduceLT]
      refine sat_seq ?_; simp (decide := true) only [sat_ok, sat_bad, sat_bind, sat_ite, bind_ok, bind_bad, thn_nx, thn_rt, thn_bk, thn_ct, fin_rt, fin_nx, ev_v, ev_c, ev_op, ev_un, ev_nil, ev_cons, ev_tup, ev_lst, ev_call, ev_own, ev_sl, ev_no, ev_part, ev_and, ev_or, ev_not, ev_if, ev_t, ev_tb, ev_tnot, ev_tand, ev_tor, ev_mt, ev_mt0, ev_rgd, ev_set, ev_asg, ev_ret, ev_retN, ev_ex, ev_pass, ev_brk, ev_cont, ev_ifS, ev_aug, ev_gn, ev_gtp, ev_gnl, ev_gcs, ev_gsb, ev_for, ev_rg1, ev_rg2, ev_its, ev_enum, ev_lc, ev_yes, ev_add_ii, ev_add_ss, ev_add_tt, ev_add_rr, ev_sub, ev_mul, ev_mod, ev_fdiv, ev_pow, ev_neg, ev_lt, ev_le, ev_gt, ev_ge, ev_eq_ii, ev_eq_ss, ev_eq_bb, ev_ne_ii, ev_ne_ss, ev_ne_bb, ev_is_n, ev_isnt_n, ev_int_i, ev_int_b, ev_min_ii, ev_max_ii, ev_abs, ev_tup_of, ev_tup_ofL, ev_lst_ofT, ev_lst_ofL, ev_len_t, ev_len_s, ev_len_r, ev_tru_b, ev_alloc, ev_tupD, ev_lstD, isi_tuple_non, isi_tuple_bl, isi_tuple_int, isi_tuple_str, isi_tuple_tup, isi_tuple_l, isi_tuple_f, isi_list_non, isi_list_bl, isi_list_int, isi_list_str, isi_list_tup, isi_list_l, isi_list_f, isi_bool_non, isi_bool_bl, isi_bool_int, isi_bool_str, isi_bool_tup, isi_bool_l, isi_bool_f, isi_int_non, isi_int_bl, isi_int_int, isi_int_str, isi_int_tup, isi_int_l, isi_int_f, isi_str_non, isi_str_bl, isi_str_int, isi_str_str, isi_str_tup, isi_str_l, isi_str_f, isi_dict_non, isi_dict_bl, isi_dict_int, isi_dict_str, isi_dict_tup, isi_dict_l, isi_dict_f, Ab.isNon, args, List.map, List.length_cons, List.length_nil, List.length_singleton, List.replicate, Nat.reduceSub, Nat.reduceAdd, Nat.zero_add, List.cons_append, List.nil_append, List.getElem?_cons_zero, List.getElem?_cons_succ, List.set_cons_zero, List.set_cons_succ, Option.some.injEq, decide_eq_true_eq, Bool.not_eq_true', decide_eq_false_iff_not, ite_true, ite_false, if_true, if_false, reduceIte, Bool.false_eq_true, Bool.not_true, Bool.not_false, Bool.true_eq_false, decide_true, decide_false, Nat.reduceLeDiff, Nat.reduceLT]
      refine sat_seq ?_; simp (decide := true) only [sat_ok, sat_bad, sat_bind, sat_ite, bind_ok, bind_bad, thn_nx, thn_rt, thn_bk, thn_ct, fin_rt, fin_nx, ev_v, ev_c, ev_op, ev_un, ev_nil, ev_cons, ev_tup, ev_lst, ev_call, ev_own, ev_sl, ev_no, ev_part, ev_and, ev_or, ev_not, ev_if, ev_t, ev_tb, ev_tnot, ev_tand, ev_tor, ev_mt, ev_mt0, ev_rgd, ev_set, ev_asg, ev_ret, ev_retN, ev_ex, ev_pass, ev_brk, ev_cont, ev_ifS, ev_aug, ev_gn, ev_gtp, ev_gnl, ev_gcs, ev_gsb, ev_for, ev_rg1, ev_rg2, ev_its, ev_enum, ev_lc, ev_yes, ev_add_ii, ev_add_ss, ev_add_tt, ev_add_rr, ev_sub, ev_mul, ev_mod, ev_fdiv, ev_pow, ev_neg, ev_lt, ev_le, ev_gt, ev_ge, ev_eq_ii, ev_eq_ss, ev_eq_bb, ev_ne_ii, ev_ne_ss, ev_ne_bb, ev_is_n, ev_isnt_n, ev_int_i, ev_int_b, ev_min_ii, ev_max_ii, ev_abs, ev_tup_of, ev_tup_ofL, ev_lst_ofT, ev_lst_ofL, ev_len_t, ev_len_s, ev_len_r, ev_tru_b, ev_alloc, ev_tupD, ev_lstD, isi_tuple_non, isi_tuple_bl, isi_tuple_int, isi_tuple_str, isi_tuple_tup, isi_tuple_l, isi_tuple_f, isi_list_non, isi_list_bl, isi_list_int, isi_list_str, isi_list_tup, isi_list_l, isi_list_f, isi_bool_non, isi_bool_bl, isi_bool_int, isi_bool_str, isi_bool_tup, isi_bool_l, isi_bool_f, isi_int_non, isi_int_bl, isi_int_int, isi_int_str, isi_int_tup, isi_int_l, isi_int_f, isi_str_non, isi_str_bl, isi_str_int, isi_str_str, isi_str_tup, isi_str_l, isi_str_f, isi_dict_non, isi_dict_bl, isi_dict_int, isi_dict_str, isi_dict_tup, isi_dict_l, isi_dict_f, Ab.isNon, args, List.map, List.length_cons, List.length_nil, List.length_singleton, List.replicate, Nat.reduceSub, Nat.reduceAdd, Nat.zero_add, List.cons_append, List.nil_append, List.getElem?_cons_zero, List.getElem?_cons_succ, List.set_cons_zero, List.set_cons_succ, Option.some.injEq, decide_eq_true_eq, Bool.not_eq_true', decide_eq_false_iff_not, ite_true, ite_false, if_true, if_false, reduceIte, Bool.false_eq_true, Bool.not_true, Bool.not_false, Bool.true_eq_false, decide_true, decide_false, Nat.reduceLeDiff, Nat.reduceLT]
      refine sat_seq ?_; simp only [sat_ok, sat_bad, sat_bind, sat_ite, bind_ok, bind_bad, thn_nx, thn_rt, thn_bk, thn_ct, fin_rt, fin_nx, ev_v, ev_c, ev_op, ev_un, ev_nil, ev_cons, ev_tup, ev_lst, ev_call, ev_own, ev_sl, ev_no, ev_part, ev_and, ev_or, ev_not, ev_if, ev_t, ev_tb, ev_tnot, ev_tand, ev_tor, ev_mt, ev_mt0, ev_rgd, ev_set, ev_asg, ev_ret, ev_retN, ev_ex, ev_pass, ev_brk, ev_cont, ev_ifS, ev_aug, ev_gn, ev_gtp, ev_gnl, ev_gcs, ev_gsb, ev_for, ev_rg1, ev_rg2, ev_its, ev_enum, ev_lc, ev_yes, ev_add_ii, ev_add_ss, ev_add_tt, ev_add_rr, ev_sub, ev_mul, ev_mod, ev_fdiv, ev_pow, ev_neg, ev_lt, ev_le, ev_gt, ev_ge, ev_eq_ii, ev_eq_ss, ev_eq_bb, ev_ne_ii, ev_ne_ss, ev_ne_bb, ev_is_n, ev_isnt_n, ev_int_i, ev_int_b, ev_min_ii, ev_max_ii, ev_abs, ev_tup_of, ev_tup_ofL, ev_lst_ofT, ev_lst_ofL, ev_len_t, ev_len_s, ev_len_r, ev_tru_b, ev_alloc, ev_tupD, ev_lstD, isi_tuple_non, isi_tuple_bl, isi_tuple_int, isi_tuple_str, isi_tuple_tup, isi_tuple_l, isi_tuple_f, isi_list_non, isi_list_bl, isi_list_int, isi_list_str, isi_list_tup, isi_list_l, isi_list_f, isi_bool_non, isi_bool_bl, isi_bool_int, isi_bool_str, isi_bool_tup, isi_bool_l, isi_bool_f, isi_int_non, isi_int_bl, isi_int_int, isi_int_str, isi_int_tup, isi_int_l, isi_int_f, isi_str_non, isi_str_bl, isi_str_int, isi_str_str, isi_str_tup, isi_str_l, isi_str_f, isi_dict_non, isi_dict_bl, isi_dict_int, isi_dict_str, isi_dict_tup, isi_dict_l, isi_dict_f, Ab.isNon, args, List.map, List.length_cons, List.length_nil, List.length_singleton, List.replicate, Nat.reduceSub, Nat.reduceAdd, Nat.zero_add, List.cons_append, List.nil_append, List.getElem?_cons_zero, List.getElem?_cons_succ, List.set_cons_zero, List.set_cons_succ, Option.some.injEq, decide_eq_true_eq, Bool.not_eq_true', decide_eq_false_iff_not, ite_true, ite_false, if_true, if_false, reduceIte, Bool.false_eq_true, Bool.not_true, Bool.not_false, Bool.true_eq_false, decide_true, decide_false, Nat.reduceLeDiff, Nat.reduceLT, ixb]
      refine Sat.imp h2 fun e A1 ⟨e1, G⟩ => ?_
      subst e1
      refine sat_seq ?_; simp (decide := true) only [sat_ok, sat_bad, sat_bind, sat_ite, bind_ok, bind_bad, thn_nx, thn_rt, thn_bk, thn_ct, fin_rt, fin_nx, ev_v, ev_c, ev_op, ev_un, ev_nil, ev_cons, ev_tup, ev_lst, ev_call, ev_own, ev_sl, ev_no, ev_part, ev_and, ev_or, ev_not, ev_if, ev_t, ev_tb, ev_tnot, ev_tand, ev_tor, ev_mt, ev_mt0, ev_rgd, ev_set, ev_asg, ev_ret, ev_retN, ev_ex, ev_pass, ev_brk, ev_cont, ev_ifS, ev_aug, ev_gn, ev_gtp, ev_gnl, ev_gcs, ev_gsb, ev_for, ev_rg1, ev_rg2, ev_its, ev_enum, ev_lc, ev_yes, ev_add_ii, ev_add_ss, ev_add_tt, ev_add_rr, ev_sub, ev_mul, ev_mod, ev_fdiv, ev_pow, ev_neg, ev_lt, ev_le, ev_gt, ev_ge, ev_eq_ii, ev_eq_ss, ev_eq_bb, ev_ne_ii, ev_ne_ss, ev_ne_bb, ev_is_n, ev_isnt_n, ev_int_i, ev_int_b, ev_min_ii, ev_max_ii, ev_abs, ev_tup_of, ev_tup_ofL, ev_lst_ofT, ev_lst_ofL, ev_len_t, ev_len_s, ev_len_r, ev_tru_b, ev_alloc, ev_tupD, ev_lstD, isi_tuple_non, isi_tuple_bl, isi_tuple_int, isi_tuple_str, isi_tuple_tup, isi_tuple_l, isi_tuple_f, isi_list_non, isi_list_bl, isi_list_int, isi_list_str, isi_list_tup, isi_list_l, isi_list_f, isi_bool_non, isi_bool_bl, isi_bool_int, isi_bool_str, isi_bool_tup, isi_bool_l, isi_bool_f, isi_int_non, isi_int_bl, isi_int_int, isi_int_str, isi_int_tup, isi_int_l, isi_int_f, isi_str_non, isi_str_bl, isi_str_int, isi_str_str, isi_str_tup, isi_str_l, isi_str_f, isi_dict_non, isi_dict_bl, isi_dict_int, isi_dict_str, isi_dict_tup, isi_dict_l, isi_dict_f, Ab.isNon, args, List.map, List.length_cons, List.length_nil, List.length_singleton, List.replicate, Nat.reduceSub, Nat.reduceAdd, Nat.zero_add, List.cons_append, List.nil_append, List.getElem?_cons_zero, List.getElem?_cons_succ, List.set_cons_zero, List.set_cons_succ, Option.some.injEq, decide_eq_true_eq, Bool.not_eq_true', decide_eq_false_iff_not, ite_true, ite_false, if_true, if_false, reduceIte, Bool.false_eq_true, Bool.not_true, Bool.not_false, Bool.true_eq_false, decide_true, decide_false, Nat.reduceLeDiff, Nat.reduceLT]
      exact ⟨trivial, G⟩
  | bin s s' n w l r vs us hw h h' ih ih' =>
    intro hn hg
    obtain ⟨v1, g1, he1⟩ := ih (by omega) fun x hx => hg x (List.mem_append_left _ hx)
    obtain ⟨v2, g2, he2⟩ := ih' (by omega) fun x hx => hg x (List.mem_append_right _ hx)
    obtain ⟨v, gv, hc, ht⟩ := comb_spec hw (by omega) g1 g2
    refine ⟨v, gv, fun m hm q A hr => ?_⟩
    obtain ⟨m, rfl⟩ : ∃ k, m = k + 1 := ⟨m - 1, by omega⟩
    obtain ⟨h1, h2⟩ := he1 m (by omega) q A hr
    obtain ⟨n1, n2, n3, n4, n5⟩ : w ≠ "null" ∧ w ≠ "name" ∧ w ≠ "num" ∧ w ≠ "flag" ∧ w ≠ "not" := by cases hw <;> decide
    refine ⟨one (sat_body rfl (sat_seq ?_)), sat_body rfl (sat_seq ?_)⟩
    · simp only [sat_ok, sat_bad, sat_bind, sat_ite, bind_ok, bind_bad, thn_nx, thn_rt, thn_bk, thn_ct, fin_rt, fin_nx, ev_v, ev_c, ev_op, ev_un, ev_nil, ev_cons, ev_tup, ev_lst, ev_call, ev_own, ev_sl, ev_no, ev_part, ev_and, ev_or, ev_not, ev_if, ev_t, ev_tb, ev_tnot, ev_tand, ev_tor, ev_mt, ev_mt0, ev_rgd, ev_set, ev_asg, ev_ret, ev_retN, ev_ex, ev_pass, ev_brk, ev_cont, ev_ifS, ev_aug, ev_gn, ev_gtp, ev_gnl, ev_gcs, ev_gsb, ev_for, ev_rg1, ev_rg2, ev_its, ev_enum, ev_lc, ev_yes, ev_add_ii, ev_add_ss, ev_add_tt, ev_add_rr, ev_sub, ev_mul, ev_mod, ev_fdiv, ev_pow, ev_neg, ev_lt, ev_le, ev_gt, ev_ge, ev_eq_ii, ev_eq_ss, ev_eq_bb, ev_ne_ii, ev_ne_ss, ev_ne_bb, ev_is_n, ev_isnt_n, ev_int_i, ev_int_b, ev_min_ii, ev_max_ii, ev_abs, ev_tup_of, ev_tup_ofL, ev_lst_ofT, ev_lst_ofL, ev_len_t, ev_len_s, ev_len_r, ev_tru_b, ev_alloc, ev_tupD, ev_lstD, isi_tuple_non, isi_tuple_bl, isi_tuple_int, isi_tuple_str, isi_tuple_tup, isi_tuple_l, isi_tuple_f, isi_list_non, isi_list_bl, isi_list_int, isi_list_str, isi_list_tup, isi_list_l, isi_list_f, isi_bool_non, isi_bool_bl, isi_bool_int, isi_bool_str, isi_bool_tup, isi_bool_l, isi_bool_f, isi_int_non, isi_int_bl, isi_int_int, isi_int_str, isi_int_tup, isi_int_l, isi_int_f, isi_str_non, isi_str_bl, isi_str_int, isi_str_str, isi_str_tup, isi_str_l, isi_str_f, isi_dict_non, isi_dict_bl, isi_dict_int, isi_dict_str, isi_dict_tup, isi_dict_l, isi_dict_f, Ab.isNon, args, List.map, List.length_cons, List.length_nil, List.length_singleton, List.replicate, Nat.reduceSub, Nat.reduceAdd, Nat.zero_add, List.cons_append, List.nil_append, List.getElem?_cons_zero, List.getElem?_cons_succ, List.set_cons_zero, List.set_cons_succ, Option.some.injEq, decide_eq_true_eq, Bool.not_eq_true', decide_eq_false_iff_not, ite_true, ite_false, if_true, if_false, reduceIte, Bool.false_eq_true, Bool.not_true, Bool.not_false, Bool.true_eq_false, decide_true, decide_false, Nat.reduceLeDiff, Nat.reduceLT, ixa]
      refine sat_seq ?_; simp only [sat_ok, sat_bad, sat_bind, sat_ite, bind_ok, bind_bad, thn_nx, thn_rt, thn_bk, thn_ct, fin_rt, fin_nx, ev_v, ev_c, ev_op, ev_un, ev_nil, ev_cons, ev_tup, ev_lst, ev_call, ev_own, ev_sl, ev_no, ev_part, ev_and, ev_or, ev_not, ev_if, ev_t, ev_tb, ev_tnot, ev_tand, ev_tor, ev_mt, ev_mt0, ev_rgd, ev_set, ev_asg, ev_ret, ev_retN, ev_ex, ev_pass, ev_brk, ev_cont, ev_ifS, ev_aug, ev_gn, ev_gtp, ev_gnl, ev_gcs, ev_gsb, ev_for, ev_rg1, ev_rg2, ev_its, ev_enum, ev_lc, ev_yes, ev_add_ii, ev_add_ss, ev_add_tt, ev_add_rr, ev_sub, ev_mul, ev_mod, ev_fdiv, ev_pow, ev_neg, ev_lt, ev_le, ev_gt, ev_ge, ev_eq_ii, ev_eq_ss, ev_eq_bb, ev_ne_ii, ev_ne_ss, ev_ne_bb, ev_is_n, ev_isnt_n, ev_int_i, ev_int_b, ev_min_ii, ev_max_ii, ev_abs, ev_tup_of, ev_tup_ofL, ev_lst_ofT, ev_lst_ofL, ev_len_t, ev_len_s, ev_len_r, ev_tru_b, ev_alloc, ev_tupD, ev_lstD, isi_tuple_non, isi_tuple_bl, isi_tuple_int, isi_tuple_str, isi_tuple_tup, isi_tuple_l, isi_tuple_f, isi_list_non, isi_list_bl, isi_list_int, isi_list_str, isi_list_tup, isi_list_l, isi_list_f, isi_bool_non, isi_bool_bl, isi_bool_int, isi_bool_str, isi_bool_tup, isi_bool_l, isi_bool_f, isi_int_non, isi_int_bl, isi_int_int, isi_int_str, isi_int_tup, isi_int_l, isi_int_f, isi_str_non, isi_str_bl, isi_str_int, isi_str_str, isi_str_tup, isi_str_l, isi_str_f, isi_dict_non, isi_dict_bl, isi_dict_int, isi_dict_str, isi_dict_tup, isi_dict_l, isi_dict_f, Ab.isNon, args, List.map, List.length_cons, List.length_nil, List.length_singleton, List.replicate, Nat.reduceSub, Nat.reduceAdd, Nat.zero_add, List.cons_append, List.nil_append, List.getElem?_cons_zero, List.getElem?_cons_succ, List.set_cons_zero, List.set_cons_succ, Option.some.injEq, decide_eq_true_eq, Bool.not_eq_true', decide_eq_false_iff_not, ite_true, ite_false, if_true, if_false, reduceIte, Bool.false_eq_true, Bool.not_true, Bool.not_false, Bool.true_eq_false, decide_true, decide_false, Nat.reduceLeDiff, Nat.reduceLT, n3, n4]
      refine sat_seq ?_; simp only [sat_ok, sat_bad, sat_bind, sat_ite, bind_ok, bind_bad, thn_nx, thn_rt, thn_bk, thn_ct, fin_rt, fin_nx, ev_v, ev_c, ev_op, ev_un, ev_nil, ev_cons, ev_tup, ev_lst, ev_call, ev_own, ev_sl, ev_no, ev_part, ev_and, ev_or, ev_not, ev_if, ev_t, ev_tb, ev_tnot, ev_tand, ev_tor, ev_mt, ev_mt0, ev_rgd, ev_set, ev_asg, ev_ret, ev_retN, ev_ex, ev_pass, ev_brk, ev_cont, ev_ifS, ev_aug, ev_gn, ev_gtp, ev_gnl, ev_gcs, ev_gsb, ev_for, ev_rg1, ev_rg2, ev_its, ev_enum, ev_lc, ev_yes, ev_add_ii, ev_add_ss, ev_add_tt, ev_add_rr, ev_sub, ev_mul, ev_mod, ev_fdiv, ev_pow, ev_neg, ev_lt, ev_le, ev_gt, ev_ge, ev_eq_ii, ev_eq_ss, ev_eq_bb, ev_ne_ii, ev_ne_ss, ev_ne_bb, ev_is_n, ev_isnt_n, ev_int_i, ev_int_b, ev_min_ii, ev_max_ii, ev_abs, ev_tup_of, ev_tup_ofL, ev_lst_ofT, ev_lst_ofL, ev_len_t, ev_len_s, ev_len_r, ev_tru_b, ev_alloc, ev_tupD, ev_lstD, isi_tuple_non, isi_tuple_bl, isi_tuple_int, isi_tuple_str, isi_tuple_tup, isi_tuple_l, isi_tuple_f, isi_list_non, isi_list_bl, isi_list_int, isi_list_str, isi_list_tup, isi_list_l, isi_list_f, isi_bool_non, isi_bool_bl, isi_bool_int, isi_bool_str, isi_bool_tup, isi_bool_l, isi_bool_f, isi_int_non, isi_int_bl, isi_int_int, isi_int_str, isi_int_tup, isi_int_l, isi_int_f, isi_str_non, isi_str_bl, isi_str_int, isi_str_str, isi_str_tup, isi_str_l, isi_str_f, isi_dict_non, isi_dict_bl, isi_dict_int, isi_dict_str, isi_dict_tup, isi_dict_l, isi_dict_f, Ab.isNon, args, List.map, List.length_cons, List.length_nil, List.length_singleton, List.replicate, Nat.reduceSub, Nat.reduceAdd, Nat.zero_add, List.cons_append, List.nil_append, List.getElem?_cons_zero, List.getElem?_cons_succ, List.set_cons_zero, List.set_cons_succ, Option.some.injEq, decide_eq_true_eq, Bool.not_eq_true', decide_eq_false_iff_not, ite_true, ite_false, if_true, if_false, reduceIte, Bool.false_eq_true, Bool.not_true, Bool.not_false, Bool.true_eq_false, decide_true, decide_false, Nat.reduceLeDiff, Nat.reduceLT, n1]
      refine sat_seq ?_; simp only [sat_ok, sat_bad, sat_bind, sat_ite, bind_ok, bind_bad, thn_nx, thn_rt, thn_bk, thn_ct, fin_rt, fin_nx, ev_v, ev_c, ev_op, ev_un, ev_nil, ev_cons, ev_tup, ev_lst, ev_call, ev_own, ev_sl, ev_no, ev_part, ev_and, ev_or, ev_not, ev_if, ev_t, ev_tb, ev_tnot, ev_tand, ev_tor, ev_mt, ev_mt0, ev_rgd, ev_set, ev_asg, ev_ret, ev_retN, ev_ex, ev_pass, ev_brk, ev_cont, ev_ifS, ev_aug, ev_gn, ev_gtp, ev_gnl, ev_gcs, ev_gsb, ev_for, ev_rg1, ev_rg2, ev_its, ev_enum, ev_lc, ev_yes, ev_add_ii, ev_add_ss, ev_add_tt, ev_add_rr, ev_sub, ev_mul, ev_mod, ev_fdiv, ev_pow, ev_neg, ev_lt, ev_le, ev_gt, ev_ge, ev_eq_ii, ev_eq_ss, ev_eq_bb, ev_ne_ii, ev_ne_ss, ev_ne_bb, ev_is_n, ev_isnt_n, ev_int_i, ev_int_b, ev_min_ii, ev_max_ii, ev_abs, ev_tup_of, ev_tup_ofL, ev_lst_ofT, ev_lst_ofL, ev_len_t, ev_len_s, ev_len_r, ev_tru_b, ev_alloc, ev_tupD, ev_lstD, isi_tuple_non, isi_tuple_bl, isi_tuple_int, isi_tuple_str, isi_tuple_tup, isi_tuple_l, isi_tuple_f, isi_list_non, isi_list_bl, isi_list_int, isi_list_str, isi_list_tup, isi_list_l, isi_list_f, isi_bool_non, isi_bool_bl, isi_bool_int, isi_bool_str, isi_bool_tup, isi_bool_l, isi_bool_f, isi_int_non, isi_int_bl, isi_int_int, isi_int_str, isi_int_tup, isi_int_l, isi_int_f, isi_str_non, isi_str_bl, isi_str_int, isi_str_str, isi_str_tup, isi_str_l, isi_str_f, isi_dict_non, isi_dict_bl, isi_dict_int, isi_dict_str, isi_dict_tup, isi_dict_l, isi_dict_f, Ab.isNon, args, List.map, List.length_cons, List.length_nil, List.length_singleton, List.replicate, Nat.reduceSub, Nat.reduceAdd, Nat.zero_add, List.cons_append, List.nil_append, List.getElem?_cons_zero, List.getElem?_cons_succ, List.set_cons_zero, List.set_cons_succ, Option.some.injEq, decide_eq_true_eq, Bool.not_eq_true', decide_eq_false_iff_not, ite_true, ite_false, if_true, if_false, reduceIte, Bool.false_eq_true, Bool.not_true, Bool.not_false, Bool.true_eq_false, decide_true, decide_false, Nat.reduceLeDiff, Nat.reduceLT, n2]
      refine sat_seq ?_; simp only [sat_ok, sat_bad, sat_bind, sat_ite, bind_ok, bind_bad, thn_nx, thn_rt, thn_bk, thn_ct, fin_rt, fin_nx, ev_v, ev_c, ev_op, ev_un, ev_nil, ev_cons, ev_tup, ev_lst, ev_call, ev_own, ev_sl, ev_no, ev_part, ev_and, ev_or, ev_not, ev_if, ev_t, ev_tb, ev_tnot, ev_tand, ev_tor, ev_mt, ev_mt0, ev_rgd, ev_set, ev_asg, ev_ret, ev_retN, ev_ex, ev_pass, ev_brk, ev_cont, ev_ifS, ev_aug, ev_gn, ev_gtp, ev_gnl, ev_gcs, ev_gsb, ev_for, ev_rg1, ev_rg2, ev_its, ev_enum, ev_lc, ev_yes, ev_add_ii, ev_add_ss, ev_add_tt, ev_add_rr, ev_sub, ev_mul, ev_mod, ev_fdiv, ev_pow, ev_neg, ev_lt, ev_le, ev_gt, ev_ge, ev_eq_ii, ev_eq_ss, ev_eq_bb, ev_ne_ii, ev_ne_ss, ev_ne_bb, ev_is_n, ev_isnt_n, ev_int_i, ev_int_b, ev_min_ii, ev_max_ii, ev_abs, ev_tup_of, ev_tup_ofL, ev_lst_ofT, ev_lst_ofL, ev_len_t, ev_len_s, ev_len_r, ev_tru_b, ev_alloc, ev_tupD, ev_lstD, isi_tuple_non, isi_tuple_bl, isi_tuple_int, isi_tuple_str, isi_tuple_tup, isi_tuple_l, isi_tuple_f, isi_list_non, isi_list_bl, isi_list_int, isi_list_str, isi_list_tup, isi_list_l, isi_list_f, isi_bool_non, isi_bool_bl, isi_bool_int, isi_bool_str, isi_bool_tup, isi_bool_l, isi_bool_f, isi_int_non, isi_int_bl, isi_int_int, isi_int_str, isi_int_tup, isi_int_l, isi_int_f, isi_str_non, isi_str_bl, isi_str_int, isi_str_str, isi_str_tup, isi_str_l, isi_str_f, isi_dict_non, isi_dict_bl, isi_dict_int, isi_dict_str, isi_dict_tup, isi_dict_l, isi_dict_f, Ab.isNon, args, List.map, List.length_cons, List.length_nil, List.length_singleton, List.replicate, Nat.reduceSub, Nat.reduceAdd, Nat.zero_add, List.cons_append, List.nil_append, List.getElem?_cons_zero, List.getElem?_cons_succ, List.set_cons_zero, List.set_cons_succ, Option.some.injEq, decide_eq_true_eq, Bool.not_eq_true', decide_eq_false_iff_not, ite_true, ite_false, if_true, if_false, reduceIte, Bool.false_eq_true, Bool.not_true, Bool.not_false, Bool.true_eq_false, decide_true, decide_false, Nat.reduceLeDiff, Nat.reduceLT, n5]
      simp only [sat_ok, sat_bad, sat_bind, sat_ite, bind_ok, bind_bad, thn_nx, thn_rt, thn_bk, thn_ct, fin_rt, fin_nx, ev_v, ev_c, ev_op, ev_un, ev_nil, ev_cons, ev_tup, ev_lst, ev_call, ev_own, ev_sl, ev_no, ev_part, ev_and, ev_or, ev_not, ev_if, ev_t, ev_tb, ev_tnot, ev_tand, ev_tor, ev_mt, ev_mt0, ev_rgd, ev_set, ev_asg, ev_ret, ev_retN, ev_ex, ev_pass, ev_brk, ev_cont, ev_ifS, ev_aug, ev_gn, ev_gtp, ev_gnl, ev_gcs, ev_gsb, ev_for, ev_rg1, ev_rg2, ev_its, ev_enum, ev_lc, ev_yes, ev_add_ii, ev_add_ss, ev_add_tt, ev_add_rr, ev_sub, ev_mul, ev_mod, ev_fdiv, ev_pow, ev_neg, ev_lt, ev_le, ev_gt, ev_ge, ev_eq_ii, ev_eq_ss, ev_eq_bb, ev_ne_ii, ev_ne_ss, ev_ne_bb, ev_is_n, ev_isnt_n, ev_int_i, ev_int_b, ev_min_ii, ev_max_ii, ev_abs, ev_tup_of, ev_tup_ofL, ev_lst_ofT, ev_lst_ofL, ev_len_t, ev_len_s, ev_len_r, ev_tru_b, ev_alloc, ev_tupD, ev_lstD, isi_tuple_non, isi_tuple_bl, isi_tuple_int, isi_tuple_str, isi_tuple_tup, isi_tuple_l, isi_tuple_f, isi_list_non, isi_list_bl, isi_list_int, isi_list_str, isi_list_tup, isi_list_l, isi_list_f, isi_bool_non, isi_bool_bl, isi_bool_int, isi_bool_str, isi_bool_tup, isi_bool_l, isi_bool_f, isi_int_non, isi_int_bl, isi_int_int, isi_int_str, isi_int_tup, isi_int_l, isi_int_f, isi_str_non, isi_str_bl, isi_str_int, isi_str_str, isi_str_tup, isi_str_l, isi_str_f, isi_dict_non, isi_dict_bl, isi_dict_int, isi_dict_str, isi_dict_tup, isi_dict_l, isi_dict_f, Ab.isNon, args, List.map, List.length_cons, List.length_nil, List.length_singleton, List.replicate, Nat.reduceSub, Nat.reduceAdd, Nat.zero_add, List.cons_append, List.nil_append, List.getElem?_cons_zero, List.getElem?_cons_succ, List.set_cons_zero, List.set_cons_succ, Option.some.injEq, decide_eq_true_eq, Bool.not_eq_true', decide_eq_false_iff_not, ite_true, ite_false, if_true, if_false, reduceIte, Bool.false_eq_true, Bool.not_true, Bool.not_false, Bool.true_eq_false, decide_true, decide_false, Nat.reduceLeDiff, Nat.reduceLT, ixb, h1, ixc, (he2 m (by omega) q A hr).1, hc]
      trivial
    · simp only [sat_ok, sat_bad, sat_bind, sat_ite, bind_ok, bind_bad, thn_nx, thn_rt, thn_bk, thn_ct, fin_rt, fin_nx, ev_v, ev_c, ev_op, ev_un, ev_nil, ev_cons, ev_tup, ev_lst, ev_call, ev_own, ev_sl, ev_no, ev_part, ev_and, ev_or, ev_not, ev_if, ev_t, ev_tb, ev_tnot, ev_tand, ev_tor, ev_mt, ev_mt0, ev_rgd, ev_set, ev_asg, ev_ret, ev_retN, ev_ex, ev_pass, ev_brk, ev_cont, ev_ifS, ev_aug, ev_gn, ev_gtp, ev_gnl, ev_gcs, ev_gsb, ev_for, ev_rg1, ev_rg2, ev_its, ev_enum, ev_lc, ev_yes, ev_add_ii, ev_add_ss, ev_add_tt, ev_add_rr, ev_sub, ev_mul, ev_mod, ev_fdiv, ev_pow, ev_neg, ev_lt, ev_le, ev_gt, ev_ge, ev_eq_ii, ev_eq_ss, ev_eq_bb, ev_ne_ii, ev_ne_ss, ev_ne_bb, ev_is_n, ev_isnt_n, ev_int_i, ev_int_b, ev_min_ii, ev_max_ii, ev_abs, ev_tup_of, ev_tup_ofL, ev_lst_ofT, ev_lst_ofL, ev_len_t, ev_len_s, ev_len_r, ev_tru_b, ev_alloc, ev_tupD, ev_lstD, isi_tuple_non, isi_tuple_bl, isi_tuple_int, isi_tuple_str, isi_tuple_tup, isi_tuple_l, isi_tuple_f, isi_list_non, isi_list_bl, isi_list_int, isi_list_str, isi_list_tup, isi_list_l, isi_list_f, isi_bool_non, isi_bool_bl, isi_bool_int, isi_bool_str, isi_bool_tup, isi_bool_l, isi_bool_f, isi_int_non, isi_int_bl, isi_int_int, isi_int_str, isi_int_tup, isi_int_l, isi_int_f, isi_str_non, isi_str_bl, isi_str_int, isi_str_str, isi_str_tup, isi_str_l, isi_str_f, isi_dict_non, isi_dict_bl, isi_dict_int, isi_dict_str, isi_dict_tup, isi_dict_l, isi_dict_f, Ab.isNon, args, List.map, List.length_cons, List.length_nil, List.length_singleton, List.replicate, Nat.reduceSub, Nat.reduceAdd, Nat.zero_add, List.cons_append, List.nil_append, List.getElem?_cons_zero, List.getElem?_cons_succ, List.set_cons_zero, List.set_cons_succ, Option.some.injEq, decide_eq_true_eq, Bool.not_eq_true', decide_eq_false_iff_not, ite_true, ite_false, if_true, if_false, reduceIte, Bool.false_eq_true, Bool.not_true, Bool.not_false, Bool.true_eq_false, decide_true, decide_false, Nat.reduceLeDiff, Nat.reduceLT, ixa]
      refine sat_seq ?_; simp only [sat_ok, sat_bad, sat_bind, sat_ite, bind_ok, bind_bad, thn_nx, thn_rt, thn_bk, thn_ct, fin_rt, fin_nx, ev_v, ev_c, ev_op, ev_un, ev_nil, ev_cons, ev_tup, ev_lst, ev_call, ev_own, ev_sl, ev_no, ev_part, ev_and, ev_or, ev_not, ev_if, ev_t, ev_tb, ev_tnot, ev_tand, ev_tor, ev_mt, ev_mt0, ev_rgd, ev_set, ev_asg, ev_ret, ev_retN, ev_ex, ev_pass, ev_brk, ev_cont, ev_ifS, ev_aug, ev_gn, ev_gtp, ev_gnl, ev_gcs, ev_gsb, ev_for, ev_rg1, ev_rg2, ev_its, ev_enum, ev_lc, ev_yes, ev_add_ii, ev_add_ss, ev_add_tt, ev_add_rr, ev_sub, ev_mul, ev_mod, ev_fdiv, ev_pow, ev_neg, ev_lt, ev_le, ev_gt, ev_ge, ev_eq_ii, ev_eq_ss, ev_eq_bb, ev_ne_ii, ev_ne_ss, ev_ne_bb, ev_is_n, ev_isnt_n, ev_int_i, ev_int_b, ev_min_ii, ev_max_ii, ev_abs, ev_tup_of, ev_tup_ofL, ev_lst_ofT, ev_lst_ofL, ev_len_t, ev_len_s, ev_len_r, ev_tru_b, ev_alloc, ev_tupD, ev_lstD, isi_tuple_non, isi_tuple_bl, isi_tuple_int, isi_tuple_str, isi_tuple_tup, isi_tuple_l, isi_tuple_f, isi_list_non, isi_list_bl, isi_list_int, isi_list_str, isi_list_tup, isi_list_l, isi_list_f, isi_bool_non, isi_bool_bl, isi_bool_int, isi_bool_str, isi_bool_tup, isi_bool_l, isi_bool_f, isi_int_non, isi_int_bl, isi_int_int, isi_int_str, isi_int_tup, isi_int_l, isi_int_f, isi_str_non, isi_str_bl, isi_str_int, isi_str_str, isi_str_tup, isi_str_l, isi_str_f, isi_dict_non, isi_dict_bl, isi_dict_int, isi_dict_str, isi_dict_tup, isi_dict_l, isi_dict_f, Ab.isNon, args, List.map, List.length_cons, List.length_nil, List.length_singleton, List.replicate, Nat.reduceSub, Nat.reduceAdd, Nat.zero_add, List.cons_append, List.nil_append, List.getElem?_cons_zero, List.getElem?_cons_succ, List.set_cons_zero, List.set_cons_succ, Option.some.injEq, decide_eq_true_eq, Bool.not_eq_true', decide_eq_false_iff_not, ite_true, ite_false, if_true, if_false, reduceIte, Bool.false_eq_true, Bool.not_true, Bool.not_false, Bool.true_eq_false, decide_true, decide_false, Nat.reduceLeDiff, Nat.reduceLT, n1]
      refine sat_seq ?_; simp only [sat_ok, sat_bad, sat_bind, sat_ite, bind_ok, bind_bad, thn_nx, thn_rt, thn_bk, thn_ct, fin_rt, fin_nx, ev_v, ev_c, ev_op, ev_un, ev_nil, ev_cons, ev_tup, ev_lst, ev_call, ev_own, ev_sl, ev_no, ev_part, ev_and, ev_or, ev_not, ev_if, ev_t, ev_tb, ev_tnot, ev_tand, ev_tor, ev_mt, ev_mt0, ev_rgd, ev_set, ev_asg, ev_ret, ev_retN, ev_ex, ev_pass, ev_brk, ev_cont, ev_ifS, ev_aug, ev_gn, ev_gtp, ev_gnl, ev_gcs, ev_gsb, ev_for, ev_rg1, ev_rg2, ev_its, ev_enum, ev_lc, ev_yes, ev_add_ii, ev_add_ss, ev_add_tt, ev_add_rr, ev_sub, ev_mul, ev_mod, ev_fdiv, ev_pow, ev_neg, ev_lt, ev_le, ev_gt, ev_ge, ev_eq_ii, ev_eq_ss, ev_eq_bb, ev_ne_ii, ev_ne_ss, ev_ne_bb, ev_is_n, ev_isnt_n, ev_int_i, ev_int_b, ev_min_ii, ev_max_ii, ev_abs, ev_tup_of, ev_tup_ofL, ev_lst_ofT, ev_lst_ofL, ev_len_t, ev_len_s, ev_len_r, ev_tru_b, ev_alloc, ev_tupD, ev_lstD, isi_tuple_non, isi_tuple_bl, isi_tuple_int, isi_tuple_str, isi_tuple_tup, isi_tuple_l, isi_tuple_f, isi_list_non, isi_list_bl, isi_list_int, isi_list_str, isi_list_tup, isi_list_l, isi_list_f, isi_bool_non, isi_bool_bl, isi_bool_int, isi_bool_str, isi_bool_tup, isi_bool_l, isi_bool_f, isi_int_non, isi_int_bl, isi_int_int, isi_int_str, isi_int_tup, isi_int_l, isi_int_f, isi_str_non, isi_str_bl, isi_str_int, isi_str_str, isi_str_tup, isi_str_l, isi_str_f, isi_dict_non, isi_dict_bl, isi_dict_int, isi_dict_str, isi_dict_tup, isi_dict_l, isi_dict_f, Ab.isNon, args, List.map, List.length_cons, List.length_nil, List.length_singleton, List.replicate, Nat.reduceSub, Nat.reduceAdd, Nat.zero_add, List.cons_append, List.nil_append, List.getElem?_cons_zero, List.getElem?_cons_succ, List.set_cons_zero, List.set_cons_succ, Option.some.injEq, decide_eq_true_eq, Bool.not_eq_true', decide_eq_false_iff_not, ite_true, ite_false, if_true, if_false, reduceIte, Bool.false_eq_true, Bool.not_true, Bool.not_false, Bool.true_eq_false, decide_true, decide_false, Nat.reduceLeDiff, Nat.reduceLT, n2]
      refine sat_seq ?_; simp only [sat_ok, sat_bad, sat_bind, sat_ite, bind_ok, bind_bad, thn_nx, thn_rt, thn_bk, thn_ct, fin_rt, fin_nx, ev_v, ev_c, ev_op, ev_un, ev_nil, ev_cons, ev_tup, ev_lst, ev_call, ev_own, ev_sl, ev_no, ev_part, ev_and, ev_or, ev_not, ev_if, ev_t, ev_tb, ev_tnot, ev_tand, ev_tor, ev_mt, ev_mt0, ev_rgd, ev_set, ev_asg, ev_ret, ev_retN, ev_ex, ev_pass, ev_brk, ev_cont, ev_ifS, ev_aug, ev_gn, ev_gtp, ev_gnl, ev_gcs, ev_gsb, ev_for, ev_rg1, ev_rg2, ev_its, ev_enum, ev_lc, ev_yes, ev_add_ii, ev_add_ss, ev_add_tt, ev_add_rr, ev_sub, ev_mul, ev_mod, ev_fdiv, ev_pow, ev_neg, ev_lt, ev_le, ev_gt, ev_ge, ev_eq_ii, ev_eq_ss, ev_eq_bb, ev_ne_ii, ev_ne_ss, ev_ne_bb, ev_is_n, ev_isnt_n, ev_int_i, ev_int_b, ev_min_ii, ev_max_ii, ev_abs, ev_tup_of, ev_tup_ofL, ev_lst_ofT, ev_lst_ofL, ev_len_t, ev_len_s, ev_len_r, ev_tru_b, ev_alloc, ev_tupD, ev_lstD, isi_tuple_non, isi_tuple_bl, isi_tuple_int, isi_tuple_str, isi_tuple_tup, isi_tuple_l, isi_tuple_f, isi_list_non, isi_list_bl, isi_list_int, isi_list_str, isi_list_tup, isi_list_l, isi_list_f, isi_bool_non, isi_bool_bl, isi_bool_int, isi_bool_str, isi_bool_tup, isi_bool_l, isi_bool_f, isi_int_non, isi_int_bl, isi_int_int, isi_int_str, isi_int_tup, isi_int_l, isi_int_f, isi_str_non, isi_str_bl, isi_str_int, isi_str_str, isi_str_tup, isi_str_l, isi_str_f, isi_dict_non, isi_dict_bl, isi_dict_int, isi_dict_str, isi_dict_tup, isi_dict_l, isi_dict_f, Ab.isNon, args, List.map, List.length_cons, List.length_nil, List.length_singleton, List.replicate, Nat.reduceSub, Nat.reduceAdd, Nat.zero_add, List.cons_append, List.nil_append, List.getElem?_cons_zero, List.getElem?_cons_succ, List.set_cons_zero, List.set_cons_succ, Option.some.injEq, decide_eq_true_eq, Bool.not_eq_true', decide_eq_false_iff_not, ite_true, ite_false, if_true, if_false, reduceIte, Bool.false_eq_true, Bool.not_true, Bool.not_false, Bool.true_eq_false, decide_true, decide_false, Nat.reduceLeDiff, Nat.reduceLT, n3, n4]
      refine sat_seq ?_; simp only [sat_ok, sat_bad, sat_bind, sat_ite, bind_ok, bind_bad, thn_nx, thn_rt, thn_bk, thn_ct, fin_rt, fin_nx, ev_v, ev_c, ev_op, ev_un, ev_nil, ev_cons, ev_tup, ev_lst, ev_call, ev_own, ev_sl, ev_no, ev_part, ev_and, ev_or, ev_not, ev_if, ev_t, ev_tb, ev_tnot, ev_tand, ev_tor, ev_mt, ev_mt0, ev_rgd, ev_set, ev_asg, ev_ret, ev_retN, ev_ex, ev_pass, ev_brk, ev_cont, ev_ifS, ev_aug, ev_gn, ev_gtp, ev_gnl, ev_gcs, ev_gsb, ev_for, ev_rg1, ev_rg2, ev_its, ev_enum, ev_lc, ev_yes, ev_add_ii, ev_add_ss, ev_add_tt, ev_add_rr, ev_sub, ev_mul, ev_mod, ev_fdiv, ev_pow, ev_neg, ev_lt, ev_le, ev_gt, ev_ge, ev_eq_ii, ev_eq_ss, ev_eq_bb, ev_ne_ii, ev_ne_ss, ev_ne_bb, ev_is_n, ev_isnt_n, ev_int_i, ev_int_b, ev_min_ii, ev_max_ii, ev_abs, ev_tup_of, ev_tup_ofL, ev_lst_ofT, ev_lst_ofL, ev_len_t, ev_len_s, ev_len_r, ev_tru_b, ev_alloc, ev_tupD, ev_lstD, isi_tuple_non, isi_tuple_bl, isi_tuple_int, isi_tuple_str, isi_tuple_tup, isi_tuple_l, isi_tuple_f, isi_list_non, isi_list_bl, isi_list_int, isi_list_str, isi_list_tup, isi_list_l, isi_list_f, isi_bool_non, isi_bool_bl, isi_bool_int, isi_bool_str, isi_bool_tup, isi_bool_l, isi_bool_f, isi_int_non, isi_int_bl, isi_int_int, isi_int_str, isi_int_tup, isi_int_l, isi_int_f, isi_str_non, isi_str_bl, isi_str_int, isi_str_str, isi_str_tup, isi_str_l, isi_str_f, isi_dict_non, isi_dict_bl, isi_dict_int, isi_dict_str, isi_dict_tup, isi_dict_l, isi_dict_f, Ab.isNon, args, List.map, List.length_cons, List.length_nil, List.length_singleton, List.replicate, Nat.reduceSub, Nat.reduceAdd, Nat.zero_add, List.cons_append, List.nil_append, List.getElem?_cons_zero, List.getElem?_cons_succ, List.set_cons_zero, List.set_cons_succ, Option.some.injEq, decide_eq_true_eq, Bool.not_eq_true', decide_eq_false_iff_not, ite_true, ite_false, if_true, if_false, reduceIte, Bool.false_eq_true, Bool.not_true, Bool.not_false, Bool.true_eq_false, decide_true, decide_false, Nat.reduceLeDiff, Nat.reduceLT, ixb]
      refine Sat.imp h2 fun e A1 ⟨e1, G⟩ => ?_
      subst e1
      refine sat_seq ?_; simp only [sat_ok, sat_bad, sat_bind, sat_ite, bind_ok, bind_bad, thn_nx, thn_rt, thn_bk, thn_ct, fin_rt, fin_nx, ev_v, ev_c, ev_op, ev_un, ev_nil, ev_cons, ev_tup, ev_lst, ev_call, ev_own, ev_sl, ev_no, ev_part, ev_and, ev_or, ev_not, ev_if, ev_t, ev_tb, ev_tnot, ev_tand, ev_tor, ev_mt, ev_mt0, ev_rgd, ev_set, ev_asg, ev_ret, ev_retN, ev_ex, ev_pass, ev_brk, ev_cont, ev_ifS, ev_aug, ev_gn, ev_gtp, ev_gnl, ev_gcs, ev_gsb, ev_for, ev_rg1, ev_rg2, ev_its, ev_enum, ev_lc, ev_yes, ev_add_ii, ev_add_ss, ev_add_tt, ev_add_rr, ev_sub, ev_mul, ev_mod, ev_fdiv, ev_pow, ev_neg, ev_lt, ev_le, ev_gt, ev_ge, ev_eq_ii, ev_eq_ss, ev_eq_bb, ev_ne_ii, ev_ne_ss, ev_ne_bb, ev_is_n, ev_isnt_n, ev_int_i, ev_int_b, ev_min_ii, ev_max_ii, ev_abs, ev_tup_of, ev_tup_ofL, ev_lst_ofT, ev_lst_ofL, ev_len_t, ev_len_s, ev_len_r, ev_tru_b, ev_alloc, ev_tupD, ev_lstD, isi_tuple_non, isi_tuple_bl, isi_tuple_int, isi_tuple_str, isi_tuple_tup, isi_tuple_l, isi_tuple_f, isi_list_non, isi_list_bl, isi_list_int, isi_list_str, isi_list_tup, isi_list_l, isi_list_f, isi_bool_non, isi_bool_bl, isi_bool_int, isi_bool_str, isi_bool_tup, isi_bool_l, isi_bool_f, isi_int_non, isi_int_bl, isi_int_int, isi_int_str, isi_int_tup, isi_int_l, isi_int_f, isi_str_non, isi_str_bl, isi_str_int, isi_str_str, isi_str_tup, isi_str_l, isi_str_f, isi_dict_non, isi_dict_bl, isi_dict_int, isi_dict_str, isi_dict_tup, isi_dict_l, isi_dict_f, Ab.isNon, args, List.map, List.length_cons, List.length_nil, List.length_singleton, List.replicate, Nat.reduceSub, Nat.reduceAdd, Nat.zero_add, List.cons_append, List.nil_append, List.getElem?_cons_zero, List.getElem?_cons_succ, List.set_cons_zero, List.set_cons_succ, Option.some.injEq, decide_eq_true_eq, Bool.not_eq_true', decide_eq_false_iff_not, ite_true, ite_false, if_true, if_false, reduceIte, Bool.false_eq_true, Bool.not_true, Bool.not_false, Bool.true_eq_false, decide_true, decide_false, Nat.reduceLeDiff, Nat.reduceLT, n5]
      refine sat_seq ?_; simp only [sat_ok, sat_bad, sat_bind, sat_ite, bind_ok, bind_bad, thn_nx, thn_rt, thn_bk, thn_ct, fin_rt, fin_nx, ev_v, ev_c, ev_op, ev_un, ev_nil, ev_cons, ev_tup, ev_lst, ev_call, ev_own, ev_sl, ev_no, ev_part, ev_and, ev_or, ev_not, ev_if, ev_t, ev_tb, ev_tnot, ev_tand, ev_tor, ev_mt, ev_mt0, ev_rgd, ev_set, ev_asg, ev_ret, ev_retN, ev_ex, ev_pass, ev_brk, ev_cont, ev_ifS, ev_aug, ev_gn, ev_gtp, ev_gnl, ev_gcs, ev_gsb, ev_for, ev_rg1, ev_rg2, ev_its, ev_enum, ev_lc, ev_yes, ev_add_ii, ev_add_ss, ev_add_tt, ev_add_rr, ev_sub, ev_mul, ev_mod, ev_fdiv, ev_pow, ev_neg, ev_lt, ev_le, ev_gt, ev_ge, ev_eq_ii, ev_eq_ss, ev_eq_bb, ev_ne_ii, ev_ne_ss, ev_ne_bb, ev_is_n, ev_isnt_n, ev_int_i, ev_int_b, ev_min_ii, ev_max_ii, ev_abs, ev_tup_of, ev_tup_ofL, ev_lst_ofT, ev_lst_ofL, ev_len_t, ev_len_s, ev_len_r, ev_tru_b, ev_alloc, ev_tupD, ev_lstD, isi_tuple_non, isi_tuple_bl, isi_tuple_int, isi_tuple_str, isi_tuple_tup, isi_tuple_l, isi_tuple_f, isi_list_non, isi_list_bl, isi_list_int, isi_list_str, isi_list_tup, isi_list_l, isi_list_f, isi_bool_non, isi_bool_bl, isi_bool_int, isi_bool_str, isi_bool_tup, isi_bool_l, isi_bool_f, isi_int_non, isi_int_bl, isi_int_int, isi_int_str, isi_int_tup, isi_int_l, isi_int_f, isi_str_non, isi_str_bl, isi_str_int, isi_str_str, isi_str_tup, isi_str_l, isi_str_f, isi_dict_non, isi_dict_bl, isi_dict_int, isi_dict_str, isi_dict_tup, isi_dict_l, isi_dict_f, Ab.isNon, args, List.map, List.length_cons, List.length_nil, List.length_singleton, List.replicate, Nat.reduceSub, Nat.reduceAdd, Nat.zero_add, List.cons_append, List.nil_append, List.getElem?_cons_zero, List.getElem?_cons_succ, List.set_cons_zero, List.set_cons_succ, Option.some.injEq, decide_eq_true_eq, Bool.not_eq_true', decide_eq_false_iff_not, ite_true, ite_false, if_true, if_false, reduceIte, Bool.false_eq_true, Bool.not_true, Bool.not_false, Bool.true_eq_false, decide_true, decide_false, Nat.reduceLeDiff, Nat.reduceLT, ixc]
      refine Sat.imp (he2 m (by omega) q A1 (G.keep _ _ hr)).2 fun e A2 ⟨e1, G2⟩ => ?_
      subst e1
      exact Sat.imp (ht A2 _ _) fun fl A3 hfl => by
        cases fl with
        | rt d => exact ⟨hfl.1, G.trans (G2.trans hfl.2)⟩
        | nx st => exact ⟨hfl.1, G.trans (G2.trans hfl.2)⟩
        | bk st => exact hfl
        | ct st => exact hfl
/-! ### drawn -/
theorem one_lst {A : AH} {s r : Nat} {xs : List D} (hs : Sr s A) (hr : r ≠ s) (hx : A[r]? = some (.lst xs)) (h0 : xs.length ≠ 0) (hz : xs.length ≤ 1000) : DrwS s A (m__law_one [.ref s, .ref r] A) fun d => d ∈ xs := by
  refine sat_body rfl ?_
  unfold p__law_one
  have ln : lenD [.ref r] A = .ok (.int xs.length) A := ev_len_r (rdL_l hx)
  simp only [sat_ok, sat_bad, sat_bind, sat_ite, bind_ok, bind_bad, thn_nx, thn_rt, thn_bk, thn_ct, fin_rt, fin_nx, ev_v, ev_c, ev_op, ev_un, ev_nil, ev_cons, ev_tup, ev_lst, ev_call, ev_own, ev_sl, ev_no, ev_part, ev_and, ev_or, ev_not, ev_if, ev_t, ev_tb, ev_tnot, ev_tand, ev_tor, ev_mt, ev_mt0, ev_rgd, ev_set, ev_asg, ev_ret, ev_retN, ev_ex, ev_pass, ev_brk, ev_cont, ev_ifS, ev_aug, ev_gn, ev_gtp, ev_gnl, ev_gcs, ev_gsb, ev_for, ev_rg1, ev_rg2, ev_its, ev_enum, ev_lc, ev_yes, ev_add_ii, ev_add_ss, ev_add_tt, ev_add_rr, ev_sub, ev_mul, ev_mod, ev_fdiv, ev_pow, ev_neg, ev_lt, ev_le, ev_gt, ev_ge, ev_eq_ii, ev_eq_ss, ev_eq_bb, ev_ne_ii, ev_ne_ss, ev_ne_bb, ev_is_n, ev_isnt_n, ev_int_i, ev_int_b, ev_min_ii, ev_max_ii, ev_abs, ev_tup_of, ev_tup_ofL, ev_lst_ofT, ev_lst_ofL, ev_len_t, ev_len_s, ev_len_r, ev_tru_b, ev_alloc, ev_tupD, ev_lstD, isi_tuple_non, isi_tuple_bl, isi_tuple_int, isi_tuple_str, isi_tuple_tup, isi_tuple_l, isi_tuple_f, isi_list_non, isi_list_bl, isi_list_int, isi_list_str, isi_list_tup, isi_list_l, isi_list_f, isi_bool_non, isi_bool_bl, isi_bool_int, isi_bool_str, isi_bool_tup, isi_bool_l, isi_bool_f, isi_int_non, isi_int_bl, isi_int_int, isi_int_str, isi_int_tup, isi_int_l, isi_int_f, isi_str_non, isi_str_bl, isi_str_int, isi_str_str, isi_str_tup, isi_str_l, isi_str_f, isi_dict_non, isi_dict_bl, isi_dict_int, isi_dict_str, isi_dict_tup, isi_dict_l, isi_dict_f, Ab.isNon, args, List.map, List.length_cons, List.length_nil, List.length_singleton, List.replicate, Nat.reduceSub, Nat.reduceAdd, Nat.zero_add, List.cons_append, List.nil_append, List.getElem?_cons_zero, List.getElem?_cons_succ, List.set_cons_zero, List.set_cons_succ, Option.some.injEq, decide_eq_true_eq, Bool.not_eq_true', decide_eq_false_iff_not, ite_true, ite_false, if_true, if_false, reduceIte, Bool.false_eq_true, Bool.not_true, Bool.not_false, Bool.true_eq_false, decide_true, decide_false, Nat.reduceLeDiff, Nat.reduceLT, ln]
  refine Sat.imp (pick_pos hs (n := xs.length) (by omega) (by omega)) fun d A' ⟨⟨v, e, h1, h2⟩, dr⟩ => ?_
  subst e
  have hv : v.toNat < xs.length := by omega
  have ix : ixD (.ref r) (.int v) A' = .ok xs[v.toNat] A' := ev_ix_r (rdL_l (dr.keep r _ hr hx)) (by rw [atI_pos h1, List.getElem?_eq_getElem hv])
  simp only [sat_ok, sat_bad, sat_bind, sat_ite, bind_ok, bind_bad, thn_nx, thn_rt, thn_bk, thn_ct, fin_rt, fin_nx, ev_v, ev_c, ev_op, ev_un, ev_nil, ev_cons, ev_tup, ev_lst, ev_call, ev_own, ev_sl, ev_no, ev_part, ev_and, ev_or, ev_not, ev_if, ev_t, ev_tb, ev_tnot, ev_tand, ev_tor, ev_mt, ev_mt0, ev_rgd, ev_set, ev_asg, ev_ret, ev_retN, ev_ex, ev_pass, ev_brk, ev_cont, ev_ifS, ev_aug, ev_gn, ev_gtp, ev_gnl, ev_gcs, ev_gsb, ev_for, ev_rg1, ev_rg2, ev_its, ev_enum, ev_lc, ev_yes, ev_add_ii, ev_add_ss, ev_add_tt, ev_add_rr, ev_sub, ev_mul, ev_mod, ev_fdiv, ev_pow, ev_neg, ev_lt, ev_le, ev_gt, ev_ge, ev_eq_ii, ev_eq_ss, ev_eq_bb, ev_ne_ii, ev_ne_ss, ev_ne_bb, ev_is_n, ev_isnt_n, ev_int_i, ev_int_b, ev_min_ii, ev_max_ii, ev_abs, ev_tup_of, ev_tup_ofL, ev_lst_ofT, ev_lst_ofL, ev_len_t, ev_len_s, ev_len_r, ev_tru_b, ev_alloc, ev_tupD, ev_lstD, isi_tuple_non, isi_tuple_bl, isi_tuple_int, isi_tuple_str, isi_tuple_tup, isi_tuple_l, isi_tuple_f, isi_list_non, isi_list_bl, isi_list_int, isi_list_str, isi_list_tup, isi_list_l, isi_list_f, isi_bool_non, isi_bool_bl, isi_bool_int, isi_bool_str, isi_bool_tup, isi_bool_l, isi_bool_f, isi_int_non, isi_int_bl, isi_int_int, isi_int_str, isi_int_tup, isi_int_l, isi_int_f, isi_str_non, isi_str_bl, isi_str_int, isi_str_str, isi_str_tup, isi_str_l, isi_str_f, isi_dict_non, isi_dict_bl, isi_dict_int, isi_dict_str, isi_dict_tup, isi_dict_l, isi_dict_f, Ab.isNon, args, List.map, List.length_cons, List.length_nil, List.length_singleton, List.replicate, Nat.reduceSub, Nat.reduceAdd, Nat.zero_add, List.cons_append, List.nil_append, List.getElem?_cons_zero, List.getElem?_cons_succ, List.set_cons_zero, List.set_cons_succ, Option.some.injEq, decide_eq_true_eq, Bool.not_eq_true', decide_eq_false_iff_not, ite_true, ite_false, if_true, if_false, reduceIte, Bool.false_eq_true, Bool.not_true, Bool.not_false, Bool.true_eq_false, decide_true, decide_false, Nat.reduceLeDiff, Nat.reduceLT, ix]
  exact ⟨List.getElem_mem hv, dr⟩
theorem cut_names {ns : List Str} {a b : Nat} : cutL (ns.map D.str) (some (a : Nat)) (some (b : Nat)) = ((ns.drop (min a ns.length)).take (min b ns.length - min a ns.length)).map D.str := by
  unfold cutL
  rw [List.length_map, HT.sIx_nat, HT.sIx_nat, List.map_take, List.map_drop]
theorem cut_names0 {ns : List Str} {b : Nat} : cutL (ns.map D.str) none (some (b : Nat)) = (ns.take (min b ns.length)).map D.str := by
  unfold cutL
  rw [List.length_map, HT.sIx_nat, HT.sIx_none, List.map_take, List.drop_zero, Nat.sub_zero]
theorem mem_cut {ns : List Str} {d : D} {a k : Nat} (h : d ∈ ((ns.drop a).take k).map D.str) : ∃ j x, d = .str x ∧ a ≤ j ∧ j < a + k ∧ ns[j]? = some x := by
  obtain ⟨x, hx, rfl⟩ := List.mem_map.mp h
  obtain ⟨i, hi⟩ := List.mem_iff_getElem?.mp hx
  have hk : i < k := by
    have := (List.getElem?_eq_some_iff.mp hi).1
    rw [List.length_take] at this; omega
  rw [List.getElem?_take_of_lt hk, List.getElem?_drop] at hi
  exact ⟨a + i, x, rfl, by omega, by omega, hi⟩
section
variable {s rn : Nat} {A : AH} {ns : List Str}
theorem link_spec {g a b : Nat} (hs : Sr s A) (gs : g ≠ s) (hl : ns.length = 9) (ha : 5 ≤ a) (hab : a < b) (hb : b ≤ 9) (hg : A[g]? = some (.lst (((ns.drop a).take (b - a)).map D.str))) (n : Nat) :
    DrwS s A (m__law_link [.ref s, .ref g] A) fun d => ∃ vs, Ex ns .l n d vs := by
  refine sat_body rfl (sat_seq ?_)
  simp only [sat_ok, sat_bad, sat_bind, sat_ite, bind_ok, bind_bad, thn_nx, thn_rt, thn_bk, thn_ct, fin_rt, fin_nx, ev_v, ev_c, ev_op, ev_un, ev_nil, ev_cons, ev_tup, ev_lst, ev_call, ev_own, ev_sl, ev_no, ev_part, ev_and, ev_or, ev_not, ev_if, ev_t, ev_tb, ev_tnot, ev_tand, ev_tor, ev_mt, ev_mt0, ev_rgd, ev_set, ev_asg, ev_ret, ev_retN, ev_ex, ev_pass, ev_brk, ev_cont, ev_ifS, ev_aug, ev_gn, ev_gtp, ev_gnl, ev_gcs, ev_gsb, ev_for, ev_rg1, ev_rg2, ev_its, ev_enum, ev_lc, ev_yes, ev_add_ii, ev_add_ss, ev_add_tt, ev_add_rr, ev_sub, ev_mul, ev_mod, ev_fdiv, ev_pow, ev_neg, ev_lt, ev_le, ev_gt, ev_ge, ev_eq_ii, ev_eq_ss, ev_eq_bb, ev_ne_ii, ev_ne_ss, ev_ne_bb, ev_is_n, ev_isnt_n, ev_int_i, ev_int_b, ev_min_ii, ev_max_ii, ev_abs, ev_tup_of, ev_tup_ofL, ev_lst_ofT, ev_lst_ofL, ev_len_t, ev_len_s, ev_len_r, ev_tru_b, ev_alloc, ev_tupD, ev_lstD, isi_tuple_non, isi_tuple_bl, isi_tuple_int, isi_tuple_str, isi_tuple_tup, isi_tuple_l, isi_tuple_f, isi_list_non, isi_list_bl, isi_list_int, isi_list_str, isi_list_tup, isi_list_l, isi_list_f, isi_bool_non, isi_bool_bl, isi_bool_int, isi_bool_str, isi_bool_tup, isi_bool_l, isi_bool_f, isi_int_non, isi_int_bl, isi_int_int, isi_int_str, isi_int_tup, isi_int_l, isi_int_f, isi_str_non, isi_str_bl, isi_str_int, isi_str_str, isi_str_tup, isi_str_l, isi_str_f, isi_dict_non, isi_dict_bl, isi_dict_int, isi_dict_str, isi_dict_tup, isi_dict_l, isi_dict_f, Ab.isNon, args, List.map, List.length_cons, List.length_nil, List.length_singleton, List.replicate, Nat.reduceSub, Nat.reduceAdd, Nat.zero_add, List.cons_append, List.nil_append, List.getElem?_cons_zero, List.getElem?_cons_succ, List.set_cons_zero, List.set_cons_succ, Option.some.injEq, decide_eq_true_eq, Bool.not_eq_true', decide_eq_false_iff_not, ite_true, ite_false, if_true, if_false, reduceIte, Bool.false_eq_true, Bool.not_true, Bool.not_false, Bool.true_eq_false, decide_true, decide_false, Nat.reduceLeDiff, Nat.reduceLT]
  refine Sat.imp (pick_pos hs (n := 4) (by decide) (by decide)) fun d A1 ⟨⟨v, e, h1, h2⟩, dr⟩ => ?_
  subst e
  simp only [sat_ok, sat_bad, sat_bind, sat_ite, bind_ok, bind_bad, thn_nx, thn_rt, thn_bk, thn_ct, fin_rt, fin_nx, ev_v, ev_c, ev_op, ev_un, ev_nil, ev_cons, ev_tup, ev_lst, ev_call, ev_own, ev_sl, ev_no, ev_part, ev_and, ev_or, ev_not, ev_if, ev_t, ev_tb, ev_tnot, ev_tand, ev_tor, ev_mt, ev_mt0, ev_rgd, ev_set, ev_asg, ev_ret, ev_retN, ev_ex, ev_pass, ev_brk, ev_cont, ev_ifS, ev_aug, ev_gn, ev_gtp, ev_gnl, ev_gcs, ev_gsb, ev_for, ev_rg1, ev_rg2, ev_its, ev_enum, ev_lc, ev_yes, ev_add_ii, ev_add_ss, ev_add_tt, ev_add_rr, ev_sub, ev_mul, ev_mod, ev_fdiv, ev_pow, ev_neg, ev_lt, ev_le, ev_gt, ev_ge, ev_eq_ii, ev_eq_ss, ev_eq_bb, ev_ne_ii, ev_ne_ss, ev_ne_bb, ev_is_n, ev_isnt_n, ev_int_i, ev_int_b, ev_min_ii, ev_max_ii, ev_abs, ev_tup_of, ev_tup_ofL, ev_lst_ofT, ev_lst_ofL, ev_len_t, ev_len_s, ev_len_r, ev_tru_b, ev_alloc, ev_tupD, ev_lstD, isi_tuple_non, isi_tuple_bl, isi_tuple_int, isi_tuple_str, isi_tuple_tup, isi_tuple_l, isi_tuple_f, isi_list_non, isi_list_bl, isi_list_int, isi_list_str, isi_list_tup, isi_list_l, isi_list_f, isi_bool_non, isi_bool_bl, isi_bool_int, isi_bool_str, isi_bool_tup, isi_bool_l, isi_bool_f, isi_int_non, isi_int_bl, isi_int_int, isi_int_str, isi_int_tup, isi_int_l, isi_int_f, isi_str_non, isi_str_bl, isi_str_int, isi_str_str, isi_str_tup, isi_str_l, isi_str_f, isi_dict_non, isi_dict_bl, isi_dict_int, isi_dict_str, isi_dict_tup, isi_dict_l, isi_dict_f, Ab.isNon, args, List.map, List.length_cons, List.length_nil, List.length_singleton, List.replicate, Nat.reduceSub, Nat.reduceAdd, Nat.zero_add, List.cons_append, List.nil_append, List.getElem?_cons_zero, List.getElem?_cons_succ, List.set_cons_zero, List.set_cons_succ, Option.some.injEq, decide_eq_true_eq, Bool.not_eq_true', decide_eq_false_iff_not, ite_true, ite_false, if_true, if_false, reduceIte, Bool.false_eq_true, Bool.not_true, Bool.not_false, Bool.true_eq_false, decide_true, decide_false, Nat.reduceLeDiff, Nat.reduceLT]
  split
  · exact ⟨⟨_, .null n⟩, dr⟩
  have hg1 := dr.keep _ _ gs hg
  refine Sat.imp (one_lst dr.src gs hg1 (by simp; omega) (by simp; omega)) fun d A2 ⟨hd, dr2⟩ => ?_
  obtain ⟨j, x, e, j1, j2, hx⟩ := mem_cut hd
  subst e
  exact ⟨⟨_, .name .l n j x hx ⟨by omega, by omega⟩⟩, dr.trans dr2⟩
theorem figure_spec (hs : Sr s A) : DrwS s A (m__law_figure [.ref s] A) fun d => ∃ i : Int, d = .int i ∧ i.natAbs < 2 ^ 32 := by
  refine sat_body rfl (sat_seq ?_)
  simp only [sat_ok, sat_bad, sat_bind, sat_ite, bind_ok, bind_bad, thn_nx, thn_rt, thn_bk, thn_ct, fin_rt, fin_nx, ev_v, ev_c, ev_op, ev_un, ev_nil, ev_cons, ev_tup, ev_lst, ev_call, ev_own, ev_sl, ev_no, ev_part, ev_and, ev_or, ev_not, ev_if, ev_t, ev_tb, ev_tnot, ev_tand, ev_tor, ev_mt, ev_mt0, ev_rgd, ev_set, ev_asg, ev_ret, ev_retN, ev_ex, ev_pass, ev_brk, ev_cont, ev_ifS, ev_aug, ev_gn, ev_gtp, ev_gnl, ev_gcs, ev_gsb, ev_for, ev_rg1, ev_rg2, ev_its, ev_enum, ev_lc, ev_yes, ev_add_ii, ev_add_ss, ev_add_tt, ev_add_rr, ev_sub, ev_mul, ev_mod, ev_fdiv, ev_pow, ev_neg, ev_lt, ev_le, ev_gt, ev_ge, ev_eq_ii, ev_eq_ss, ev_eq_bb, ev_ne_ii, ev_ne_ss, ev_ne_bb, ev_is_n, ev_isnt_n, ev_int_i, ev_int_b, ev_min_ii, ev_max_ii, ev_abs, ev_tup_of, ev_tup_ofL, ev_lst_ofT, ev_lst_ofL, ev_len_t, ev_len_s, ev_len_r, ev_tru_b, ev_alloc, ev_tupD, ev_lstD, isi_tuple_non, isi_tuple_bl, isi_tuple_int, isi_tuple_str, isi_tuple_tup, isi_tuple_l, isi_tuple_f, isi_list_non, isi_list_bl, isi_list_int, isi_list_str, isi_list_tup, isi_list_l, isi_list_f, isi_bool_non, isi_bool_bl, isi_bool_int, isi_bool_str, isi_bool_tup, isi_bool_l, isi_bool_f, isi_int_non, isi_int_bl, isi_int_int, isi_int_str, isi_int_tup, isi_int_l, isi_int_f, isi_str_non, isi_str_bl, isi_str_int, isi_str_str, isi_str_tup, isi_str_l, isi_str_f, isi_dict_non, isi_dict_bl, isi_dict_int, isi_dict_str, isi_dict_tup, isi_dict_l, isi_dict_f, Ab.isNon, args, List.map, List.length_cons, List.length_nil, List.length_singleton, List.replicate, Nat.reduceSub, Nat.reduceAdd, Nat.zero_add, List.cons_append, List.nil_append, List.getElem?_cons_zero, List.getElem?_cons_succ, List.set_cons_zero, List.set_cons_succ, Option.some.injEq, decide_eq_true_eq, Bool.not_eq_true', decide_eq_false_iff_not, ite_true, ite_false, if_true, if_false, reduceIte, Bool.false_eq_true, Bool.not_true, Bool.not_false, Bool.true_eq_false, decide_true, decide_false, Nat.reduceLeDiff, Nat.reduceLT]
  refine Sat.imp (pick_pos hs (n := 8) (by decide) (by decide)) fun d A1 ⟨⟨v, e, h1, h2⟩, dr⟩ => ?_
  subst e
  refine sat_seq ?_
  simp only [sat_ok, sat_bad, sat_bind, sat_ite, bind_ok, bind_bad, thn_nx, thn_rt, thn_bk, thn_ct, fin_rt, fin_nx, ev_v, ev_c, ev_op, ev_un, ev_nil, ev_cons, ev_tup, ev_lst, ev_call, ev_own, ev_sl, ev_no, ev_part, ev_and, ev_or, ev_not, ev_if, ev_t, ev_tb, ev_tnot, ev_tand, ev_tor, ev_mt, ev_mt0, ev_rgd, ev_set, ev_asg, ev_ret, ev_retN, ev_ex, ev_pass, ev_brk, ev_cont, ev_ifS, ev_aug, ev_gn, ev_gtp, ev_gnl, ev_gcs, ev_gsb, ev_for, ev_rg1, ev_rg2, ev_its, ev_enum, ev_lc, ev_yes, ev_add_ii, ev_add_ss, ev_add_tt, ev_add_rr, ev_sub, ev_mul, ev_mod, ev_fdiv, ev_pow, ev_neg, ev_lt, ev_le, ev_gt, ev_ge, ev_eq_ii, ev_eq_ss, ev_eq_bb, ev_ne_ii, ev_ne_ss, ev_ne_bb, ev_is_n, ev_isnt_n, ev_int_i, ev_int_b, ev_min_ii, ev_max_ii, ev_abs, ev_tup_of, ev_tup_ofL, ev_lst_ofT, ev_lst_ofL, ev_len_t, ev_len_s, ev_len_r, ev_tru_b, ev_alloc, ev_tupD, ev_lstD, isi_tuple_non, isi_tuple_bl, isi_tuple_int, isi_tuple_str, isi_tuple_tup, isi_tuple_l, isi_tuple_f, isi_list_non, isi_list_bl, isi_list_int, isi_list_str, isi_list_tup, isi_list_l, isi_list_f, isi_bool_non, isi_bool_bl, isi_bool_int, isi_bool_str, isi_bool_tup, isi_bool_l, isi_bool_f, isi_int_non, isi_int_bl, isi_int_int, isi_int_str, isi_int_tup, isi_int_l, isi_int_f, isi_str_non, isi_str_bl, isi_str_int, isi_str_str, isi_str_tup, isi_str_l, isi_str_f, isi_dict_non, isi_dict_bl, isi_dict_int, isi_dict_str, isi_dict_tup, isi_dict_l, isi_dict_f, Ab.isNon, args, List.map, List.length_cons, List.length_nil, List.length_singleton, List.replicate, Nat.reduceSub, Nat.reduceAdd, Nat.zero_add, List.cons_append, List.nil_append, List.getElem?_cons_zero, List.getElem?_cons_succ, List.set_cons_zero, List.set_cons_succ, Option.some.injEq, decide_eq_true_eq, Bool.not_eq_true', decide_eq_false_iff_not, ite_true, ite_false, if_true, if_false, reduceIte, Bool.false_eq_true, Bool.not_true, Bool.not_false, Bool.true_eq_false, decide_true, decide_false, Nat.reduceLeDiff, Nat.reduceLT]
  have e9 : CPow 10 9 := powOk (by decide) (by decide) (by decide)
  have e0 : (10 : Int) ^ (9 : Int).toNat = 1000000000 := by decide
  split
  · refine Sat.imp (pick_pos dr.src (n := 5) (by decide) (by decide)) fun d A2 ⟨⟨u, e, h3, h4⟩, dr2⟩ => ?_
    subst e
    simp only [sat_ok, sat_bad, sat_bind, sat_ite, bind_ok, bind_bad, thn_nx, thn_rt, thn_bk, thn_ct, fin_rt, fin_nx, ev_v, ev_c, ev_op, ev_un, ev_nil, ev_cons, ev_tup, ev_lst, ev_call, ev_own, ev_sl, ev_no, ev_part, ev_and, ev_or, ev_not, ev_if, ev_t, ev_tb, ev_tnot, ev_tand, ev_tor, ev_mt, ev_mt0, ev_rgd, ev_set, ev_asg, ev_ret, ev_retN, ev_ex, ev_pass, ev_brk, ev_cont, ev_ifS, ev_aug, ev_gn, ev_gtp, ev_gnl, ev_gcs, ev_gsb, ev_for, ev_rg1, ev_rg2, ev_its, ev_enum, ev_lc, ev_yes, ev_add_ii, ev_add_ss, ev_add_tt, ev_add_rr, ev_sub, ev_mul, ev_mod, ev_fdiv, ev_pow, ev_neg, ev_lt, ev_le, ev_gt, ev_ge, ev_eq_ii, ev_eq_ss, ev_eq_bb, ev_ne_ii, ev_ne_ss, ev_ne_bb, ev_is_n, ev_isnt_n, ev_int_i, ev_int_b, ev_min_ii, ev_max_ii, ev_abs, ev_tup_of, ev_tup_ofL, ev_lst_ofT, ev_lst_ofL, ev_len_t, ev_len_s, ev_len_r, ev_tru_b, ev_alloc, ev_tupD, ev_lstD, isi_tuple_non, isi_tuple_bl, isi_tuple_int, isi_tuple_str, isi_tuple_tup, isi_tuple_l, isi_tuple_f, isi_list_non, isi_list_bl, isi_list_int, isi_list_str, isi_list_tup, isi_list_l, isi_list_f, isi_bool_non, isi_bool_bl, isi_bool_int, isi_bool_str, isi_bool_tup, isi_bool_l, isi_bool_f, isi_int_non, isi_int_bl, isi_int_int, isi_int_str, isi_int_tup, isi_int_l, isi_int_f, isi_str_non, isi_str_bl, isi_str_int, isi_str_str, isi_str_tup, isi_str_l, isi_str_f, isi_dict_non, isi_dict_bl, isi_dict_int, isi_dict_str, isi_dict_tup, isi_dict_l, isi_dict_f, Ab.isNon, args, List.map, List.length_cons, List.length_nil, List.length_singleton, List.replicate, Nat.reduceSub, Nat.reduceAdd, Nat.zero_add, List.cons_append, List.nil_append, List.getElem?_cons_zero, List.getElem?_cons_succ, List.set_cons_zero, List.set_cons_succ, Option.some.injEq, decide_eq_true_eq, Bool.not_eq_true', decide_eq_false_iff_not, ite_true, ite_false, if_true, if_false, reduceIte, Bool.false_eq_true, Bool.not_true, Bool.not_false, Bool.true_eq_false, decide_true, decide_false, Nat.reduceLeDiff, Nat.reduceLT]
    exact ⟨⟨_, rfl, by omega⟩, dr.trans dr2⟩
  refine sat_seq ?_
  simp only [sat_ok, sat_bad, sat_bind, sat_ite, bind_ok, bind_bad, thn_nx, thn_rt, thn_bk, thn_ct, fin_rt, fin_nx, ev_v, ev_c, ev_op, ev_un, ev_nil, ev_cons, ev_tup, ev_lst, ev_call, ev_own, ev_sl, ev_no, ev_part, ev_and, ev_or, ev_not, ev_if, ev_t, ev_tb, ev_tnot, ev_tand, ev_tor, ev_mt, ev_mt0, ev_rgd, ev_set, ev_asg, ev_ret, ev_retN, ev_ex, ev_pass, ev_brk, ev_cont, ev_ifS, ev_aug, ev_gn, ev_gtp, ev_gnl, ev_gcs, ev_gsb, ev_for, ev_rg1, ev_rg2, ev_its, ev_enum, ev_lc, ev_yes, ev_add_ii, ev_add_ss, ev_add_tt, ev_add_rr, ev_sub, ev_mul, ev_mod, ev_fdiv, ev_pow, ev_neg, ev_lt, ev_le, ev_gt, ev_ge, ev_eq_ii, ev_eq_ss, ev_eq_bb, ev_ne_ii, ev_ne_ss, ev_ne_bb, ev_is_n, ev_isnt_n, ev_int_i, ev_int_b, ev_min_ii, ev_max_ii, ev_abs, ev_tup_of, ev_tup_ofL, ev_lst_ofT, ev_lst_ofL, ev_len_t, ev_len_s, ev_len_r, ev_tru_b, ev_alloc, ev_tupD, ev_lstD, isi_tuple_non, isi_tuple_bl, isi_tuple_int, isi_tuple_str, isi_tuple_tup, isi_tuple_l, isi_tuple_f, isi_list_non, isi_list_bl, isi_list_int, isi_list_str, isi_list_tup, isi_list_l, isi_list_f, isi_bool_non, isi_bool_bl, isi_bool_int, isi_bool_str, isi_bool_tup, isi_bool_l, isi_bool_f, isi_int_non, isi_int_bl, isi_int_int, isi_int_str, isi_int_tup, isi_int_l, isi_int_f, isi_str_non, isi_str_bl, isi_str_int, isi_str_str, isi_str_tup, isi_str_l, isi_str_f, isi_dict_non, isi_dict_bl, isi_dict_int, isi_dict_str, isi_dict_tup, isi_dict_l, isi_dict_f, Ab.isNon, args, List.map, List.length_cons, List.length_nil, List.length_singleton, List.replicate, Nat.reduceSub, Nat.reduceAdd, Nat.zero_add, List.cons_append, List.nil_append, List.getElem?_cons_zero, List.getElem?_cons_succ, List.set_cons_zero, List.set_cons_succ, Option.some.injEq, decide_eq_true_eq, Bool.not_eq_true', decide_eq_false_iff_not, ite_true, ite_false, if_true, if_false, reduceIte, Bool.false_eq_true, Bool.not_true, Bool.not_false, Bool.true_eq_false, decide_true, decide_false, Nat.reduceLeDiff, Nat.reduceLT]
  split
  · simp only [sat_ok, sat_bad, sat_bind, sat_ite, bind_ok, bind_bad, thn_nx, thn_rt, thn_bk, thn_ct, fin_rt, fin_nx, ev_v, ev_c, ev_op, ev_un, ev_nil, ev_cons, ev_tup, ev_lst, ev_call, ev_own, ev_sl, ev_no, ev_part, ev_and, ev_or, ev_not, ev_if, ev_t, ev_tb, ev_tnot, ev_tand, ev_tor, ev_mt, ev_mt0, ev_rgd, ev_set, ev_asg, ev_ret, ev_retN, ev_ex, ev_pass, ev_brk, ev_cont, ev_ifS, ev_aug, ev_gn, ev_gtp, ev_gnl, ev_gcs, ev_gsb, ev_for, ev_rg1, ev_rg2, ev_its, ev_enum, ev_lc, ev_yes, ev_add_ii, ev_add_ss, ev_add_tt, ev_add_rr, ev_sub, ev_mul, ev_mod, ev_fdiv, ev_pow, ev_neg, ev_lt, ev_le, ev_gt, ev_ge, ev_eq_ii, ev_eq_ss, ev_eq_bb, ev_ne_ii, ev_ne_ss, ev_ne_bb, ev_is_n, ev_isnt_n, ev_int_i, ev_int_b, ev_min_ii, ev_max_ii, ev_abs, ev_tup_of, ev_tup_ofL, ev_lst_ofT, ev_lst_ofL, ev_len_t, ev_len_s, ev_len_r, ev_tru_b, ev_alloc, ev_tupD, ev_lstD, isi_tuple_non, isi_tuple_bl, isi_tuple_int, isi_tuple_str, isi_tuple_tup, isi_tuple_l, isi_tuple_f, isi_list_non, isi_list_bl, isi_list_int, isi_list_str, isi_list_tup, isi_list_l, isi_list_f, isi_bool_non, isi_bool_bl, isi_bool_int, isi_bool_str, isi_bool_tup, isi_bool_l, isi_bool_f, isi_int_non, isi_int_bl, isi_int_int, isi_int_str, isi_int_tup, isi_int_l, isi_int_f, isi_str_non, isi_str_bl, isi_str_int, isi_str_str, isi_str_tup, isi_str_l, isi_str_f, isi_dict_non, isi_dict_bl, isi_dict_int, isi_dict_str, isi_dict_tup, isi_dict_l, isi_dict_f, Ab.isNon, args, List.map, List.length_cons, List.length_nil, List.length_singleton, List.replicate, Nat.reduceSub, Nat.reduceAdd, Nat.zero_add, List.cons_append, List.nil_append, List.getElem?_cons_zero, List.getElem?_cons_succ, List.set_cons_zero, List.set_cons_succ, Option.some.injEq, decide_eq_true_eq, Bool.not_eq_true', decide_eq_false_iff_not, ite_true, ite_false, if_true, if_false, reduceIte, Bool.false_eq_true, Bool.not_true, Bool.not_false, Bool.true_eq_false, decide_true, decide_false, Nat.reduceLeDiff, Nat.reduceLT, e9, e0]
    have sl := dr.src.lt
    refine Sat.imp (one_lst (Dr.app dr.src _).src (by omega) at_new (by simp) (by simp)) fun d A2 ⟨hd, dr2⟩ => ?_
    refine ⟨?_, dr.trans ((Dr.app dr.src _).trans dr2)⟩
    simp only [List.mem_cons, List.not_mem_nil, or_false] at hd
    rcases hd with rfl | rfl
    · exact ⟨_, rfl, by decide⟩
    · exact ⟨_, rfl, by decide⟩
  · refine Sat.imp (pick_pos dr.src (n := 40000) (by decide) (by decide)) fun d A2 ⟨⟨u, e, h3, h4⟩, dr2⟩ => ?_
    subst e
    have m : mulOk u 50000 := mulOk_r (by decide) (by decide)
    simp only [sat_ok, sat_bad, sat_bind, sat_ite, bind_ok, bind_bad, thn_nx, thn_rt, thn_bk, thn_ct, fin_rt, fin_nx, ev_v, ev_c, ev_op, ev_un, ev_nil, ev_cons, ev_tup, ev_lst, ev_call, ev_own, ev_sl, ev_no, ev_part, ev_and, ev_or, ev_not, ev_if, ev_t, ev_tb, ev_tnot, ev_tand, ev_tor, ev_mt, ev_mt0, ev_rgd, ev_set, ev_asg, ev_ret, ev_retN, ev_ex, ev_pass, ev_brk, ev_cont, ev_ifS, ev_aug, ev_gn, ev_gtp, ev_gnl, ev_gcs, ev_gsb, ev_for, ev_rg1, ev_rg2, ev_its, ev_enum, ev_lc, ev_yes, ev_add_ii, ev_add_ss, ev_add_tt, ev_add_rr, ev_sub, ev_mul, ev_mod, ev_fdiv, ev_pow, ev_neg, ev_lt, ev_le, ev_gt, ev_ge, ev_eq_ii, ev_eq_ss, ev_eq_bb, ev_ne_ii, ev_ne_ss, ev_ne_bb, ev_is_n, ev_isnt_n, ev_int_i, ev_int_b, ev_min_ii, ev_max_ii, ev_abs, ev_tup_of, ev_tup_ofL, ev_lst_ofT, ev_lst_ofL, ev_len_t, ev_len_s, ev_len_r, ev_tru_b, ev_alloc, ev_tupD, ev_lstD, isi_tuple_non, isi_tuple_bl, isi_tuple_int, isi_tuple_str, isi_tuple_tup, isi_tuple_l, isi_tuple_f, isi_list_non, isi_list_bl, isi_list_int, isi_list_str, isi_list_tup, isi_list_l, isi_list_f, isi_bool_non, isi_bool_bl, isi_bool_int, isi_bool_str, isi_bool_tup, isi_bool_l, isi_bool_f, isi_int_non, isi_int_bl, isi_int_int, isi_int_str, isi_int_tup, isi_int_l, isi_int_f, isi_str_non, isi_str_bl, isi_str_int, isi_str_str, isi_str_tup, isi_str_l, isi_str_f, isi_dict_non, isi_dict_bl, isi_dict_int, isi_dict_str, isi_dict_tup, isi_dict_l, isi_dict_f, Ab.isNon, args, List.map, List.length_cons, List.length_nil, List.length_singleton, List.replicate, Nat.reduceSub, Nat.reduceAdd, Nat.zero_add, List.cons_append, List.nil_append, List.getElem?_cons_zero, List.getElem?_cons_succ, List.set_cons_zero, List.set_cons_succ, Option.some.injEq, decide_eq_true_eq, Bool.not_eq_true', decide_eq_false_iff_not, ite_true, ite_false, if_true, if_false, reduceIte, Bool.false_eq_true, Bool.not_true, Bool.not_false, Bool.true_eq_false, decide_true, decide_false, Nat.reduceLeDiff, Nat.reduceLT, m]
    refine Sat.imp (pick_pos dr2.src (n := 50000) (by decide) (by decide)) fun d A3 ⟨⟨u2, e, h5, h6⟩, dr3⟩ => ?_
    subst e
    simp only [sat_ok, sat_bad, sat_bind, sat_ite, bind_ok, bind_bad, thn_nx, thn_rt, thn_bk, thn_ct, fin_rt, fin_nx, ev_v, ev_c, ev_op, ev_un, ev_nil, ev_cons, ev_tup, ev_lst, ev_call, ev_own, ev_sl, ev_no, ev_part, ev_and, ev_or, ev_not, ev_if, ev_t, ev_tb, ev_tnot, ev_tand, ev_tor, ev_mt, ev_mt0, ev_rgd, ev_set, ev_asg, ev_ret, ev_retN, ev_ex, ev_pass, ev_brk, ev_cont, ev_ifS, ev_aug, ev_gn, ev_gtp, ev_gnl, ev_gcs, ev_gsb, ev_for, ev_rg1, ev_rg2, ev_its, ev_enum, ev_lc, ev_yes, ev_add_ii, ev_add_ss, ev_add_tt, ev_add_rr, ev_sub, ev_mul, ev_mod, ev_fdiv, ev_pow, ev_neg, ev_lt, ev_le, ev_gt, ev_ge, ev_eq_ii, ev_eq_ss, ev_eq_bb, ev_ne_ii, ev_ne_ss, ev_ne_bb, ev_is_n, ev_isnt_n, ev_int_i, ev_int_b, ev_min_ii, ev_max_ii, ev_abs, ev_tup_of, ev_tup_ofL, ev_lst_ofT, ev_lst_ofL, ev_len_t, ev_len_s, ev_len_r, ev_tru_b, ev_alloc, ev_tupD, ev_lstD, isi_tuple_non, isi_tuple_bl, isi_tuple_int, isi_tuple_str, isi_tuple_tup, isi_tuple_l, isi_tuple_f, isi_list_non, isi_list_bl, isi_list_int, isi_list_str, isi_list_tup, isi_list_l, isi_list_f, isi_bool_non, isi_bool_bl, isi_bool_int, isi_bool_str, isi_bool_tup, isi_bool_l, isi_bool_f, isi_int_non, isi_int_bl, isi_int_int, isi_int_str, isi_int_tup, isi_int_l, isi_int_f, isi_str_non, isi_str_bl, isi_str_int, isi_str_str, isi_str_tup, isi_str_l, isi_str_f, isi_dict_non, isi_dict_bl, isi_dict_int, isi_dict_str, isi_dict_tup, isi_dict_l, isi_dict_f, Ab.isNon, args, List.map, List.length_cons, List.length_nil, List.length_singleton, List.replicate, Nat.reduceSub, Nat.reduceAdd, Nat.zero_add, List.cons_append, List.nil_append, List.getElem?_cons_zero, List.getElem?_cons_succ, List.set_cons_zero, List.set_cons_succ, Option.some.injEq, decide_eq_true_eq, Bool.not_eq_true', decide_eq_false_iff_not, ite_true, ite_false, if_true, if_false, reduceIte, Bool.false_eq_true, Bool.not_true, Bool.not_false, Bool.true_eq_false, decide_true, decide_false, Nat.reduceLeDiff, Nat.reduceLT, e9, e0]
    exact ⟨⟨_, rfl, by omega⟩, dr.trans (dr2.trans dr3)⟩
end
section
variable {s rn : Nat} {ns : List Str}
theorem bl_ifn {n v c : Int} {A : AH} : (if 0 < n then (Res.ok (decide (v < c)) A : Res Bool) else Res.ok false A) = Res.ok (decide (0 < n ∧ v < c)) A := by
  by_cases h : 0 < n
  · rw [if_pos h]; congr 1; exact decide_eq_decide.mpr ⟨fun q => ⟨h, q⟩, fun q => q.2⟩
  · rw [if_neg h]; congr 1; exact (decide_eq_false fun q => h q.1).symm
theorem term_step {n : Nat} {f : FM} (rs : rn ≠ s) (hl : ns.length = 9)
    (sub : ∀ n', n = n' + 1 → ∀ A, Sr s A → A[rn]? = some (.lst (ns.map D.str)) → DrwS s A (f [.ref s, .ref rn, .int (n' : Nat)] A) fun d => ∃ vs, Ex ns .t n' d vs)
    {A : AH} (hs : Sr s A) (hr : A[rn]? = some (.lst (ns.map D.str))) : DrwS s A (body 3 5 (p__law_term f) [.ref s, .ref rn, .int (n : Nat)] A) fun d => ∃ vs, Ex ns .t n d vs := by
  refine sat_body rfl (sat_seq ?_)
  simp only [sat_ok, sat_bad, sat_bind, sat_ite, bind_ok, bind_bad, thn_nx, thn_rt, thn_bk, thn_ct, fin_rt, fin_nx, ev_v, ev_c, ev_op, ev_un, ev_nil, ev_cons, ev_tup, ev_lst, ev_call, ev_own, ev_sl, ev_no, ev_part, ev_and, ev_or, ev_not, ev_if, ev_t, ev_tb, ev_tnot, ev_tand, ev_tor, ev_mt, ev_mt0, ev_rgd, ev_set, ev_asg, ev_ret, ev_retN, ev_ex, ev_pass, ev_brk, ev_cont, ev_ifS, ev_aug, ev_gn, ev_gtp, ev_gnl, ev_gcs, ev_gsb, ev_for, ev_rg1, ev_rg2, ev_its, ev_enum, ev_lc, ev_yes, ev_add_ii, ev_add_ss, ev_add_tt, ev_add_rr, ev_sub, ev_mul, ev_mod, ev_fdiv, ev_pow, ev_neg, ev_lt, ev_le, ev_gt, ev_ge, ev_eq_ii, ev_eq_ss, ev_eq_bb, ev_ne_ii, ev_ne_ss, ev_ne_bb, ev_is_n, ev_isnt_n, ev_int_i, ev_int_b, ev_min_ii, ev_max_ii, ev_abs, ev_tup_of, ev_tup_ofL, ev_lst_ofT, ev_lst_ofL, ev_len_t, ev_len_s, ev_len_r, ev_tru_b, ev_alloc, ev_tupD, ev_lstD, isi_tuple_non, isi_tuple_bl, isi_tuple_int, isi_tuple_str, isi_tuple_tup, isi_tuple_l, isi_tuple_f, isi_list_non, isi_list_bl, isi_list_int, isi_list_str, isi_list_tup, isi_list_l, isi_list_f, isi_bool_non, isi_bool_bl, isi_bool_int, isi_bool_str, isi_bool_tup, isi_bool_l, isi_bool_f, isi_int_non, isi_int_bl, isi_int_int, isi_int_str, isi_int_tup, isi_int_l, isi_int_f, isi_str_non, isi_str_bl, isi_str_int, isi_str_str, isi_str_tup, isi_str_l, isi_str_f, isi_dict_non, isi_dict_bl, isi_dict_int, isi_dict_str, isi_dict_tup, isi_dict_l, isi_dict_f, Ab.isNon, args, List.map, List.length_cons, List.length_nil, List.length_singleton, List.replicate, Nat.reduceSub, Nat.reduceAdd, Nat.zero_add, List.cons_append, List.nil_append, List.getElem?_cons_zero, List.getElem?_cons_succ, List.set_cons_zero, List.set_cons_succ, Option.some.injEq, decide_eq_true_eq, Bool.not_eq_true', decide_eq_false_iff_not, ite_true, ite_false, if_true, if_false, reduceIte, Bool.false_eq_true, Bool.not_true, Bool.not_false, Bool.true_eq_false, decide_true, decide_false, Nat.reduceLeDiff, Nat.reduceLT]
  refine Sat.imp (pick_pos hs (n := 6) (by decide) (by decide)) fun d A1 ⟨⟨v, e, h1, h2⟩, dr⟩ => ?_
  subst e
  have hr1 := dr.keep _ _ rs hr
  refine sat_seq (sat_ifS (b := decide (0 < (n : Int) ∧ v < 4)) ?_ (fun hb => ?_) (fun hb => ?_))
  · simp only [sat_ok, sat_bad, sat_bind, sat_ite, bind_ok, bind_bad, thn_nx, thn_rt, thn_bk, thn_ct, fin_rt, fin_nx, ev_v, ev_c, ev_op, ev_un, ev_nil, ev_cons, ev_tup, ev_lst, ev_call, ev_own, ev_sl, ev_no, ev_part, ev_and, ev_or, ev_not, ev_if, ev_t, ev_tb, ev_tnot, ev_tand, ev_tor, ev_mt, ev_mt0, ev_rgd, ev_set, ev_asg, ev_ret, ev_retN, ev_ex, ev_pass, ev_brk, ev_cont, ev_ifS, ev_aug, ev_gn, ev_gtp, ev_gnl, ev_gcs, ev_gsb, ev_for, ev_rg1, ev_rg2, ev_its, ev_enum, ev_lc, ev_yes, ev_add_ii, ev_add_ss, ev_add_tt, ev_add_rr, ev_sub, ev_mul, ev_mod, ev_fdiv, ev_pow, ev_neg, ev_lt, ev_le, ev_gt, ev_ge, ev_eq_ii, ev_eq_ss, ev_eq_bb, ev_ne_ii, ev_ne_ss, ev_ne_bb, ev_is_n, ev_isnt_n, ev_int_i, ev_int_b, ev_min_ii, ev_max_ii, ev_abs, ev_tup_of, ev_tup_ofL, ev_lst_ofT, ev_lst_ofL, ev_len_t, ev_len_s, ev_len_r, ev_tru_b, ev_alloc, ev_tupD, ev_lstD, isi_tuple_non, isi_tuple_bl, isi_tuple_int, isi_tuple_str, isi_tuple_tup, isi_tuple_l, isi_tuple_f, isi_list_non, isi_list_bl, isi_list_int, isi_list_str, isi_list_tup, isi_list_l, isi_list_f, isi_bool_non, isi_bool_bl, isi_bool_int, isi_bool_str, isi_bool_tup, isi_bool_l, isi_bool_f, isi_int_non, isi_int_bl, isi_int_int, isi_int_str, isi_int_tup, isi_int_l, isi_int_f, isi_str_non, isi_str_bl, isi_str_int, isi_str_str, isi_str_tup, isi_str_l, isi_str_f, isi_dict_non, isi_dict_bl, isi_dict_int, isi_dict_str, isi_dict_tup, isi_dict_l, isi_dict_f, Ab.isNon, args, List.map, List.length_cons, List.length_nil, List.length_singleton, List.replicate, Nat.reduceSub, Nat.reduceAdd, Nat.zero_add, List.cons_append, List.nil_append, List.getElem?_cons_zero, List.getElem?_cons_succ, List.set_cons_zero, List.set_cons_succ, Option.some.injEq, decide_eq_true_eq, Bool.not_eq_true', decide_eq_false_iff_not, ite_true, ite_false, if_true, if_false, reduceIte, Bool.false_eq_true, Bool.not_true, Bool.not_false, Bool.true_eq_false, decide_true, decide_false, Nat.reduceLeDiff, Nat.reduceLT, bl_ifn]
  · obtain ⟨hn, hv⟩ := of_decide_eq_true hb
    obtain ⟨n', rfl⟩ : ∃ n', n = n' + 1 := ⟨n - 1, by omega⟩
    have en : (((n' + 1 : Nat) : Int) - 1) = (n' : Nat) := by omega
    refine sat_seq ?_
    simp only [sat_ok, sat_bad, sat_bind, sat_ite, bind_ok, bind_bad, thn_nx, thn_rt, thn_bk, thn_ct, fin_rt, fin_nx, ev_v, ev_c, ev_op, ev_un, ev_nil, ev_cons, ev_tup, ev_lst, ev_call, ev_own, ev_sl, ev_no, ev_part, ev_and, ev_or, ev_not, ev_if, ev_t, ev_tb, ev_tnot, ev_tand, ev_tor, ev_mt, ev_mt0, ev_rgd, ev_set, ev_asg, ev_ret, ev_retN, ev_ex, ev_pass, ev_brk, ev_cont, ev_ifS, ev_aug, ev_gn, ev_gtp, ev_gnl, ev_gcs, ev_gsb, ev_for, ev_rg1, ev_rg2, ev_its, ev_enum, ev_lc, ev_yes, ev_add_ii, ev_add_ss, ev_add_tt, ev_add_rr, ev_sub, ev_mul, ev_mod, ev_fdiv, ev_pow, ev_neg, ev_lt, ev_le, ev_gt, ev_ge, ev_eq_ii, ev_eq_ss, ev_eq_bb, ev_ne_ii, ev_ne_ss, ev_ne_bb, ev_is_n, ev_isnt_n, ev_int_i, ev_int_b, ev_min_ii, ev_max_ii, ev_abs, ev_tup_of, ev_tup_ofL, ev_lst_ofT, ev_lst_ofL, ev_len_t, ev_len_s, ev_len_r, ev_tru_b, ev_alloc, ev_tupD, ev_lstD, isi_tuple_non, isi_tuple_bl, isi_tuple_int, isi_tuple_str, isi_tuple_tup, isi_tuple_l, isi_tuple_f, isi_list_non, isi_list_bl, isi_list_int, isi_list_str, isi_list_tup, isi_list_l, isi_list_f, isi_bool_non, isi_bool_bl, isi_bool_int, isi_bool_str, isi_bool_tup, isi_bool_l, isi_bool_f, isi_int_non, isi_int_bl, isi_int_int, isi_int_str, isi_int_tup, isi_int_l, isi_int_f, isi_str_non, isi_str_bl, isi_str_int, isi_str_str, isi_str_tup, isi_str_l, isi_str_f, isi_dict_non, isi_dict_bl, isi_dict_int, isi_dict_str, isi_dict_tup, isi_dict_l, isi_dict_f, Ab.isNon, args, List.map, List.length_cons, List.length_nil, List.length_singleton, List.replicate, Nat.reduceSub, Nat.reduceAdd, Nat.zero_add, List.cons_append, List.nil_append, List.getElem?_cons_zero, List.getElem?_cons_succ, List.set_cons_zero, List.set_cons_succ, Option.some.injEq, decide_eq_true_eq, Bool.not_eq_true', decide_eq_false_iff_not, ite_true, ite_false, if_true, if_false, reduceIte, Bool.false_eq_true, Bool.not_true, Bool.not_false, Bool.true_eq_false, decide_true, decide_false, Nat.reduceLeDiff, Nat.reduceLT, en]
    refine Sat.imp (sub n' rfl A1 dr.src hr1) fun l A2 ⟨⟨vs, hv1⟩, dr2⟩ => ?_
    have dr2 := dr.trans dr2
    have hr2 := dr2.keep _ _ rs hr
    obtain ⟨w, hw, hi⟩ : ∃ w, Op .t .t w ∧ ([.str "+", .str "-", .str "*", .str "-"] : List D)[v.toNat]? = some (.str w) := by
      have : v = 0 ∨ v = 1 ∨ v = 2 ∨ v = 3 := by omega
      rcases this with rfl | rfl | rfl | rfl
      · exact ⟨_, .add, rfl⟩
      · exact ⟨_, .sub, rfl⟩
      · exact ⟨_, .mul, rfl⟩
      · exact ⟨_, .sub, rfl⟩
    rw [ev_ix_r (x := .str w) (rdL_l at_new) (by rw [atI_pos h1]; exact hi)]
    have dr3 := dr2.trans (Dr.app dr2.src [.lst [.str "+", .str "-", .str "*", .str "-"]])
    have hr3 := dr3.keep _ _ rs hr
    simp only [sat_ok, sat_bad, sat_bind, sat_ite, bind_ok, bind_bad, thn_nx, thn_rt, thn_bk, thn_ct, fin_rt, fin_nx, ev_v, ev_c, ev_op, ev_un, ev_nil, ev_cons, ev_tup, ev_lst, ev_call, ev_own, ev_sl, ev_no, ev_part, ev_and, ev_or, ev_not, ev_if, ev_t, ev_tb, ev_tnot, ev_tand, ev_tor, ev_mt, ev_mt0, ev_rgd, ev_set, ev_asg, ev_ret, ev_retN, ev_ex, ev_pass, ev_brk, ev_cont, ev_ifS, ev_aug, ev_gn, ev_gtp, ev_gnl, ev_gcs, ev_gsb, ev_for, ev_rg1, ev_rg2, ev_its, ev_enum, ev_lc, ev_yes, ev_add_ii, ev_add_ss, ev_add_tt, ev_add_rr, ev_sub, ev_mul, ev_mod, ev_fdiv, ev_pow, ev_neg, ev_lt, ev_le, ev_gt, ev_ge, ev_eq_ii, ev_eq_ss, ev_eq_bb, ev_ne_ii, ev_ne_ss, ev_ne_bb, ev_is_n, ev_isnt_n, ev_int_i, ev_int_b, ev_min_ii, ev_max_ii, ev_abs, ev_tup_of, ev_tup_ofL, ev_lst_ofT, ev_lst_ofL, ev_len_t, ev_len_s, ev_len_r, ev_tru_b, ev_alloc, ev_tupD, ev_lstD, isi_tuple_non, isi_tuple_bl, isi_tuple_int, isi_tuple_str, isi_tuple_tup, isi_tuple_l, isi_tuple_f, isi_list_non, isi_list_bl, isi_list_int, isi_list_str, isi_list_tup, isi_list_l, isi_list_f, isi_bool_non, isi_bool_bl, isi_bool_int, isi_bool_str, isi_bool_tup, isi_bool_l, isi_bool_f, isi_int_non, isi_int_bl, isi_int_int, isi_int_str, isi_int_tup, isi_int_l, isi_int_f, isi_str_non, isi_str_bl, isi_str_int, isi_str_str, isi_str_tup, isi_str_l, isi_str_f, isi_dict_non, isi_dict_bl, isi_dict_int, isi_dict_str, isi_dict_tup, isi_dict_l, isi_dict_f, Ab.isNon, args, List.map, List.length_cons, List.length_nil, List.length_singleton, List.replicate, Nat.reduceSub, Nat.reduceAdd, Nat.zero_add, List.cons_append, List.nil_append, List.getElem?_cons_zero, List.getElem?_cons_succ, List.set_cons_zero, List.set_cons_succ, Option.some.injEq, decide_eq_true_eq, Bool.not_eq_true', decide_eq_false_iff_not, ite_true, ite_false, if_true, if_false, reduceIte, Bool.false_eq_true, Bool.not_true, Bool.not_false, Bool.true_eq_false, decide_true, decide_false, Nat.reduceLeDiff, Nat.reduceLT, en]
    refine Sat.imp (sub n' rfl _ dr3.src hr3) fun r A4 ⟨⟨us, hv2⟩, dr4⟩ => ?_
    exact ⟨⟨_, .bin .t .t n' w l r vs us hw hv1 hv2⟩, dr3.trans dr4⟩
  · simp only [sat_ok, sat_bad, sat_bind, sat_ite, bind_ok, bind_bad, thn_nx, thn_rt, thn_bk, thn_ct, fin_rt, fin_nx, ev_v, ev_c, ev_op, ev_un, ev_nil, ev_cons, ev_tup, ev_lst, ev_call, ev_own, ev_sl, ev_no, ev_part, ev_and, ev_or, ev_not, ev_if, ev_t, ev_tb, ev_tnot, ev_tand, ev_tor, ev_mt, ev_mt0, ev_rgd, ev_set, ev_asg, ev_ret, ev_retN, ev_ex, ev_pass, ev_brk, ev_cont, ev_ifS, ev_aug, ev_gn, ev_gtp, ev_gnl, ev_gcs, ev_gsb, ev_for, ev_rg1, ev_rg2, ev_its, ev_enum, ev_lc, ev_yes, ev_add_ii, ev_add_ss, ev_add_tt, ev_add_rr, ev_sub, ev_mul, ev_mod, ev_fdiv, ev_pow, ev_neg, ev_lt, ev_le, ev_gt, ev_ge, ev_eq_ii, ev_eq_ss, ev_eq_bb, ev_ne_ii, ev_ne_ss, ev_ne_bb, ev_is_n, ev_isnt_n, ev_int_i, ev_int_b, ev_min_ii, ev_max_ii, ev_abs, ev_tup_of, ev_tup_ofL, ev_lst_ofT, ev_lst_ofL, ev_len_t, ev_len_s, ev_len_r, ev_tru_b, ev_alloc, ev_tupD, ev_lstD, isi_tuple_non, isi_tuple_bl, isi_tuple_int, isi_tuple_str, isi_tuple_tup, isi_tuple_l, isi_tuple_f, isi_list_non, isi_list_bl, isi_list_int, isi_list_str, isi_list_tup, isi_list_l, isi_list_f, isi_bool_non, isi_bool_bl, isi_bool_int, isi_bool_str, isi_bool_tup, isi_bool_l, isi_bool_f, isi_int_non, isi_int_bl, isi_int_int, isi_int_str, isi_int_tup, isi_int_l, isi_int_f, isi_str_non, isi_str_bl, isi_str_int, isi_str_str, isi_str_tup, isi_str_l, isi_str_f, isi_dict_non, isi_dict_bl, isi_dict_int, isi_dict_str, isi_dict_tup, isi_dict_l, isi_dict_f, Ab.isNon, args, List.map, List.length_cons, List.length_nil, List.length_singleton, List.replicate, Nat.reduceSub, Nat.reduceAdd, Nat.zero_add, List.cons_append, List.nil_append, List.getElem?_cons_zero, List.getElem?_cons_succ, List.set_cons_zero, List.set_cons_succ, Option.some.injEq, decide_eq_true_eq, Bool.not_eq_true', decide_eq_false_iff_not, ite_true, ite_false, if_true, if_false, reduceIte, Bool.false_eq_true, Bool.not_true, Bool.not_false, Bool.true_eq_false, decide_true, decide_false, Nat.reduceLeDiff, Nat.reduceLT]
    refine sat_seq ?_
    simp only [sat_ok, sat_bad, sat_bind, sat_ite, bind_ok, bind_bad, thn_nx, thn_rt, thn_bk, thn_ct, fin_rt, fin_nx, ev_v, ev_c, ev_op, ev_un, ev_nil, ev_cons, ev_tup, ev_lst, ev_call, ev_own, ev_sl, ev_no, ev_part, ev_and, ev_or, ev_not, ev_if, ev_t, ev_tb, ev_tnot, ev_tand, ev_tor, ev_mt, ev_mt0, ev_rgd, ev_set, ev_asg, ev_ret, ev_retN, ev_ex, ev_pass, ev_brk, ev_cont, ev_ifS, ev_aug, ev_gn, ev_gtp, ev_gnl, ev_gcs, ev_gsb, ev_for, ev_rg1, ev_rg2, ev_its, ev_enum, ev_lc, ev_yes, ev_add_ii, ev_add_ss, ev_add_tt, ev_add_rr, ev_sub, ev_mul, ev_mod, ev_fdiv, ev_pow, ev_neg, ev_lt, ev_le, ev_gt, ev_ge, ev_eq_ii, ev_eq_ss, ev_eq_bb, ev_ne_ii, ev_ne_ss, ev_ne_bb, ev_is_n, ev_isnt_n, ev_int_i, ev_int_b, ev_min_ii, ev_max_ii, ev_abs, ev_tup_of, ev_tup_ofL, ev_lst_ofT, ev_lst_ofL, ev_len_t, ev_len_s, ev_len_r, ev_tru_b, ev_alloc, ev_tupD, ev_lstD, isi_tuple_non, isi_tuple_bl, isi_tuple_int, isi_tuple_str, isi_tuple_tup, isi_tuple_l, isi_tuple_f, isi_list_non, isi_list_bl, isi_list_int, isi_list_str, isi_list_tup, isi_list_l, isi_list_f, isi_bool_non, isi_bool_bl, isi_bool_int, isi_bool_str, isi_bool_tup, isi_bool_l, isi_bool_f, isi_int_non, isi_int_bl, isi_int_int, isi_int_str, isi_int_tup, isi_int_l, isi_int_f, isi_str_non, isi_str_bl, isi_str_int, isi_str_str, isi_str_tup, isi_str_l, isi_str_f, isi_dict_non, isi_dict_bl, isi_dict_int, isi_dict_str, isi_dict_tup, isi_dict_l, isi_dict_f, Ab.isNon, args, List.map, List.length_cons, List.length_nil, List.length_singleton, List.replicate, Nat.reduceSub, Nat.reduceAdd, Nat.zero_add, List.cons_append, List.nil_append, List.getElem?_cons_zero, List.getElem?_cons_succ, List.set_cons_zero, List.set_cons_succ, Option.some.injEq, decide_eq_true_eq, Bool.not_eq_true', decide_eq_false_iff_not, ite_true, ite_false, if_true, if_false, reduceIte, Bool.false_eq_true, Bool.not_true, Bool.not_false, Bool.true_eq_false, decide_true, decide_false, Nat.reduceLeDiff, Nat.reduceLT]
    split
    · refine Sat.imp (figure_spec dr.src) fun d A2 ⟨⟨i, e, hi⟩, dr2⟩ => ?_
      subst e
      exact ⟨⟨_, .num n i hi⟩, dr.trans dr2⟩
    · rw [ev_sl_l hr1]
      have c3 : cutL (ns.map D.str) none (some 3) = ((ns.drop 0).take 3).map D.str := by rw [show (3 : Int) = ((3 : Nat) : Int) from rfl, cut_names0, hl]; rfl
      rw [c3]
      have sl := dr.src.lt
      have dr2 := dr.trans (Dr.app dr.src [.lst (((ns.drop 0).take 3).map D.str)])
      simp only [sat_ok, sat_bad, sat_bind, sat_ite, bind_ok, bind_bad, thn_nx, thn_rt, thn_bk, thn_ct, fin_rt, fin_nx, ev_v, ev_c, ev_op, ev_un, ev_nil, ev_cons, ev_tup, ev_lst, ev_call, ev_own, ev_sl, ev_no, ev_part, ev_and, ev_or, ev_not, ev_if, ev_t, ev_tb, ev_tnot, ev_tand, ev_tor, ev_mt, ev_mt0, ev_rgd, ev_set, ev_asg, ev_ret, ev_retN, ev_ex, ev_pass, ev_brk, ev_cont, ev_ifS, ev_aug, ev_gn, ev_gtp, ev_gnl, ev_gcs, ev_gsb, ev_for, ev_rg1, ev_rg2, ev_its, ev_enum, ev_lc, ev_yes, ev_add_ii, ev_add_ss, ev_add_tt, ev_add_rr, ev_sub, ev_mul, ev_mod, ev_fdiv, ev_pow, ev_neg, ev_lt, ev_le, ev_gt, ev_ge, ev_eq_ii, ev_eq_ss, ev_eq_bb, ev_ne_ii, ev_ne_ss, ev_ne_bb, ev_is_n, ev_isnt_n, ev_int_i, ev_int_b, ev_min_ii, ev_max_ii, ev_abs, ev_tup_of, ev_tup_ofL, ev_lst_ofT, ev_lst_ofL, ev_len_t, ev_len_s, ev_len_r, ev_tru_b, ev_alloc, ev_tupD, ev_lstD, isi_tuple_non, isi_tuple_bl, isi_tuple_int, isi_tuple_str, isi_tuple_tup, isi_tuple_l, isi_tuple_f, isi_list_non, isi_list_bl, isi_list_int, isi_list_str, isi_list_tup, isi_list_l, isi_list_f, isi_bool_non, isi_bool_bl, isi_bool_int, isi_bool_str, isi_bool_tup, isi_bool_l, isi_bool_f, isi_int_non, isi_int_bl, isi_int_int, isi_int_str, isi_int_tup, isi_int_l, isi_int_f, isi_str_non, isi_str_bl, isi_str_int, isi_str_str, isi_str_tup, isi_str_l, isi_str_f, isi_dict_non, isi_dict_bl, isi_dict_int, isi_dict_str, isi_dict_tup, isi_dict_l, isi_dict_f, Ab.isNon, args, List.map, List.length_cons, List.length_nil, List.length_singleton, List.replicate, Nat.reduceSub, Nat.reduceAdd, Nat.zero_add, List.cons_append, List.nil_append, List.getElem?_cons_zero, List.getElem?_cons_succ, List.set_cons_zero, List.set_cons_succ, Option.some.injEq, decide_eq_true_eq, Bool.not_eq_true', decide_eq_false_iff_not, ite_true, ite_false, if_true, if_false, reduceIte, Bool.false_eq_true, Bool.not_true, Bool.not_false, Bool.true_eq_false, decide_true, decide_false, Nat.reduceLeDiff, Nat.reduceLT]
      refine Sat.imp (one_lst dr2.src (by omega) at_new (by rw [List.length_map, List.length_take, List.length_drop]; omega) (by rw [List.length_map, List.length_take, List.length_drop]; omega)) fun d A3 ⟨hd, dr3⟩ => ?_
      obtain ⟨j, x, e, j1, j2, hx⟩ := mem_cut hd
      subst e
      exact ⟨⟨_, .name .t n j x hx (show j < 3 by omega)⟩, dr2.trans dr3⟩
theorem term_spec (rs : rn ≠ s) (hl : ns.length = 9) : ∀ (n k : Nat) (A : AH), Sr s A → A[rn]? = some (.lst (ns.map D.str)) → DrwS s A (m__law_term (n + k + 1) [.ref s, .ref rn, .int (n : Nat)] A) fun d => ∃ vs, Ex ns .t n d vs
  | 0, k, A, hs, hr => term_step rs hl (fun n' e => by omega) hs hr
  | n + 1, k, A, hs, hr => by
    rw [show n + 1 + k + 1 = (n + k + 1) + 1 by omega]
    exact term_step rs hl (fun n' e A hs hr => by cases e; exact term_spec rs hl n k A hs hr) hs hr
theorem fact_step {n : Nat} {f : FM} (rs : rn ≠ s) (hl : ns.length = 9) (hn6 : n ≤ 6)
    (sub : ∀ n', n = n' + 1 → ∀ A, Sr s A → A[rn]? = some (.lst (ns.map D.str)) → DrwS s A (f [.ref s, .ref rn, .int (n' : Nat)] A) fun d => ∃ vs, Ex ns .f n' d vs)
    {A : AH} (hs : Sr s A) (hr : A[rn]? = some (.lst (ns.map D.str))) : DrwS s A (body 3 7 (p__law_fact f) [.ref s, .ref rn, .int (n : Nat)] A) fun d => ∃ vs, Ex ns .f n d vs := by
  refine sat_body rfl (sat_seq ?_)
  simp only [sat_ok, sat_bad, sat_bind, sat_ite, bind_ok, bind_bad, thn_nx, thn_rt, thn_bk, thn_ct, fin_rt, fin_nx, ev_v, ev_c, ev_op, ev_un, ev_nil, ev_cons, ev_tup, ev_lst, ev_call, ev_own, ev_sl, ev_no, ev_part, ev_and, ev_or, ev_not, ev_if, ev_t, ev_tb, ev_tnot, ev_tand, ev_tor, ev_mt, ev_mt0, ev_rgd, ev_set, ev_asg, ev_ret, ev_retN, ev_ex, ev_pass, ev_brk, ev_cont, ev_ifS, ev_aug, ev_gn, ev_gtp, ev_gnl, ev_gcs, ev_gsb, ev_for, ev_rg1, ev_rg2, ev_its, ev_enum, ev_lc, ev_yes, ev_add_ii, ev_add_ss, ev_add_tt, ev_add_rr, ev_sub, ev_mul, ev_mod, ev_fdiv, ev_pow, ev_neg, ev_lt, ev_le, ev_gt, ev_ge, ev_eq_ii, ev_eq_ss, ev_eq_bb, ev_ne_ii, ev_ne_ss, ev_ne_bb, ev_is_n, ev_isnt_n, ev_int_i, ev_int_b, ev_min_ii, ev_max_ii, ev_abs, ev_tup_of, ev_tup_ofL, ev_lst_ofT, ev_lst_ofL, ev_len_t, ev_len_s, ev_len_r, ev_tru_b, ev_alloc, ev_tupD, ev_lstD, isi_tuple_non, isi_tuple_bl, isi_tuple_int, isi_tuple_str, isi_tuple_tup, isi_tuple_l, isi_tuple_f, isi_list_non, isi_list_bl, isi_list_int, isi_list_str, isi_list_tup, isi_list_l, isi_list_f, isi_bool_non, isi_bool_bl, isi_bool_int, isi_bool_str, isi_bool_tup, isi_bool_l, isi_bool_f, isi_int_non, isi_int_bl, isi_int_int, isi_int_str, isi_int_tup, isi_int_l, isi_int_f, isi_str_non, isi_str_bl, isi_str_int, isi_str_str, isi_str_tup, isi_str_l, isi_str_f, isi_dict_non, isi_dict_bl, isi_dict_int, isi_dict_str, isi_dict_tup, isi_dict_l, isi_dict_f, Ab.isNon, args, List.map, List.length_cons, List.length_nil, List.length_singleton, List.replicate, Nat.reduceSub, Nat.reduceAdd, Nat.zero_add, List.cons_append, List.nil_append, List.getElem?_cons_zero, List.getElem?_cons_succ, List.set_cons_zero, List.set_cons_succ, Option.some.injEq, decide_eq_true_eq, Bool.not_eq_true', decide_eq_false_iff_not, ite_true, ite_false, if_true, if_false, reduceIte, Bool.false_eq_true, Bool.not_true, Bool.not_false, Bool.true_eq_false, decide_true, decide_false, Nat.reduceLeDiff, Nat.reduceLT]
  refine Sat.imp (pick_pos hs (n := 14) (by decide) (by decide)) fun d A1 ⟨⟨v, e, h1, h2⟩, dr⟩ => ?_
  subst e
  have hr1 := dr.keep _ _ rs hr
  have sl := dr.src.lt
  have term : ∀ n', n = n' + 1 → ∀ A, Sr s A → A[rn]? = some (.lst (ns.map D.str)) → DrwS s A (m__law_term 20 [.ref s, .ref rn, .int (n' : Nat)] A) fun d => ∃ vs, Ex ns .t n' d vs := fun n' e A hs hr => by
    have := term_spec rs hl n' (19 - n') A hs hr
    rwa [show n' + (19 - n') + 1 = 20 by omega] at this
  refine sat_seq (sat_ifS (b := decide (0 < (n : Int) ∧ v < 4)) ?_ (fun hb => ?_) (fun hb => ?_))
  · simp only [sat_ok, sat_bad, sat_bind, sat_ite, bind_ok, bind_bad, thn_nx, thn_rt, thn_bk, thn_ct, fin_rt, fin_nx, ev_v, ev_c, ev_op, ev_un, ev_nil, ev_cons, ev_tup, ev_lst, ev_call, ev_own, ev_sl, ev_no, ev_part, ev_and, ev_or, ev_not, ev_if, ev_t, ev_tb, ev_tnot, ev_tand, ev_tor, ev_mt, ev_mt0, ev_rgd, ev_set, ev_asg, ev_ret, ev_retN, ev_ex, ev_pass, ev_brk, ev_cont, ev_ifS, ev_aug, ev_gn, ev_gtp, ev_gnl, ev_gcs, ev_gsb, ev_for, ev_rg1, ev_rg2, ev_its, ev_enum, ev_lc, ev_yes, ev_add_ii, ev_add_ss, ev_add_tt, ev_add_rr, ev_sub, ev_mul, ev_mod, ev_fdiv, ev_pow, ev_neg, ev_lt, ev_le, ev_gt, ev_ge, ev_eq_ii, ev_eq_ss, ev_eq_bb, ev_ne_ii, ev_ne_ss, ev_ne_bb, ev_is_n, ev_isnt_n, ev_int_i, ev_int_b, ev_min_ii, ev_max_ii, ev_abs, ev_tup_of, ev_tup_ofL, ev_lst_ofT, ev_lst_ofL, ev_len_t, ev_len_s, ev_len_r, ev_tru_b, ev_alloc, ev_tupD, ev_lstD, isi_tuple_non, isi_tuple_bl, isi_tuple_int, isi_tuple_str, isi_tuple_tup, isi_tuple_l, isi_tuple_f, isi_list_non, isi_list_bl, isi_list_int, isi_list_str, isi_list_tup, isi_list_l, isi_list_f, isi_bool_non, isi_bool_bl, isi_bool_int, isi_bool_str, isi_bool_tup, isi_bool_l, isi_bool_f, isi_int_non, isi_int_bl, isi_int_int, isi_int_str, isi_int_tup, isi_int_l, isi_int_f, isi_str_non, isi_str_bl, isi_str_int, isi_str_str, isi_str_tup, isi_str_l, isi_str_f, isi_dict_non, isi_dict_bl, isi_dict_int, isi_dict_str, isi_dict_tup, isi_dict_l, isi_dict_f, Ab.isNon, args, List.map, List.length_cons, List.length_nil, List.length_singleton, List.replicate, Nat.reduceSub, Nat.reduceAdd, Nat.zero_add, List.cons_append, List.nil_append, List.getElem?_cons_zero, List.getElem?_cons_succ, List.set_cons_zero, List.set_cons_succ, Option.some.injEq, decide_eq_true_eq, Bool.not_eq_true', decide_eq_false_iff_not, ite_true, ite_false, if_true, if_false, reduceIte, Bool.false_eq_true, Bool.not_true, Bool.not_false, Bool.true_eq_false, decide_true, decide_false, Nat.reduceLeDiff, Nat.reduceLT, bl_ifn]
  · obtain ⟨hn, hv⟩ := of_decide_eq_true hb
    obtain ⟨n', rfl⟩ : ∃ n', n = n' + 1 := ⟨n - 1, by omega⟩
    have en : (((n' + 1 : Nat) : Int) - 1) = (n' : Nat) := by omega
    refine sat_seq ?_
    simp only [sat_ok, sat_bad, sat_bind, sat_ite, bind_ok, bind_bad, thn_nx, thn_rt, thn_bk, thn_ct, fin_rt, fin_nx, ev_v, ev_c, ev_op, ev_un, ev_nil, ev_cons, ev_tup, ev_lst, ev_call, ev_own, ev_sl, ev_no, ev_part, ev_and, ev_or, ev_not, ev_if, ev_t, ev_tb, ev_tnot, ev_tand, ev_tor, ev_mt, ev_mt0, ev_rgd, ev_set, ev_asg, ev_ret, ev_retN, ev_ex, ev_pass, ev_brk, ev_cont, ev_ifS, ev_aug, ev_gn, ev_gtp, ev_gnl, ev_gcs, ev_gsb, ev_for, ev_rg1, ev_rg2, ev_its, ev_enum, ev_lc, ev_yes, ev_add_ii, ev_add_ss, ev_add_tt, ev_add_rr, ev_sub, ev_mul, ev_mod, ev_fdiv, ev_pow, ev_neg, ev_lt, ev_le, ev_gt, ev_ge, ev_eq_ii, ev_eq_ss, ev_eq_bb, ev_ne_ii, ev_ne_ss, ev_ne_bb, ev_is_n, ev_isnt_n, ev_int_i, ev_int_b, ev_min_ii, ev_max_ii, ev_abs, ev_tup_of, ev_tup_ofL, ev_lst_ofT, ev_lst_ofL, ev_len_t, ev_len_s, ev_len_r, ev_tru_b, ev_alloc, ev_tupD, ev_lstD, isi_tuple_non, isi_tuple_bl, isi_tuple_int, isi_tuple_str, isi_tuple_tup, isi_tuple_l, isi_tuple_f, isi_list_non, isi_list_bl, isi_list_int, isi_list_str, isi_list_tup, isi_list_l, isi_list_f, isi_bool_non, isi_bool_bl, isi_bool_int, isi_bool_str, isi_bool_tup, isi_bool_l, isi_bool_f, isi_int_non, isi_int_bl, isi_int_int, isi_int_str, isi_int_tup, isi_int_l, isi_int_f, isi_str_non, isi_str_bl, isi_str_int, isi_str_str, isi_str_tup, isi_str_l, isi_str_f, isi_dict_non, isi_dict_bl, isi_dict_int, isi_dict_str, isi_dict_tup, isi_dict_l, isi_dict_f, Ab.isNon, args, List.map, List.length_cons, List.length_nil, List.length_singleton, List.replicate, Nat.reduceSub, Nat.reduceAdd, Nat.zero_add, List.cons_append, List.nil_append, List.getElem?_cons_zero, List.getElem?_cons_succ, List.set_cons_zero, List.set_cons_succ, Option.some.injEq, decide_eq_true_eq, Bool.not_eq_true', decide_eq_false_iff_not, ite_true, ite_false, if_true, if_false, reduceIte, Bool.false_eq_true, Bool.not_true, Bool.not_false, Bool.true_eq_false, decide_true, decide_false, Nat.reduceLeDiff, Nat.reduceLT, en]
    refine Sat.imp (term n' rfl A1 dr.src hr1) fun l A2 ⟨⟨vs, hv1⟩, dr2⟩ => ?_
    have dr2 := dr.trans dr2
    have hr2 := dr2.keep _ _ rs hr
    refine sat_seq ?_
    simp only [sat_ok, sat_bad, sat_bind, sat_ite, bind_ok, bind_bad, thn_nx, thn_rt, thn_bk, thn_ct, fin_rt, fin_nx, ev_v, ev_c, ev_op, ev_un, ev_nil, ev_cons, ev_tup, ev_lst, ev_call, ev_own, ev_sl, ev_no, ev_part, ev_and, ev_or, ev_not, ev_if, ev_t, ev_tb, ev_tnot, ev_tand, ev_tor, ev_mt, ev_mt0, ev_rgd, ev_set, ev_asg, ev_ret, ev_retN, ev_ex, ev_pass, ev_brk, ev_cont, ev_ifS, ev_aug, ev_gn, ev_gtp, ev_gnl, ev_gcs, ev_gsb, ev_for, ev_rg1, ev_rg2, ev_its, ev_enum, ev_lc, ev_yes, ev_add_ii, ev_add_ss, ev_add_tt, ev_add_rr, ev_sub, ev_mul, ev_mod, ev_fdiv, ev_pow, ev_neg, ev_lt, ev_le, ev_gt, ev_ge, ev_eq_ii, ev_eq_ss, ev_eq_bb, ev_ne_ii, ev_ne_ss, ev_ne_bb, ev_is_n, ev_isnt_n, ev_int_i, ev_int_b, ev_min_ii, ev_max_ii, ev_abs, ev_tup_of, ev_tup_ofL, ev_lst_ofT, ev_lst_ofL, ev_len_t, ev_len_s, ev_len_r, ev_tru_b, ev_alloc, ev_tupD, ev_lstD, isi_tuple_non, isi_tuple_bl, isi_tuple_int, isi_tuple_str, isi_tuple_tup, isi_tuple_l, isi_tuple_f, isi_list_non, isi_list_bl, isi_list_int, isi_list_str, isi_list_tup, isi_list_l, isi_list_f, isi_bool_non, isi_bool_bl, isi_bool_int, isi_bool_str, isi_bool_tup, isi_bool_l, isi_bool_f, isi_int_non, isi_int_bl, isi_int_int, isi_int_str, isi_int_tup, isi_int_l, isi_int_f, isi_str_non, isi_str_bl, isi_str_int, isi_str_str, isi_str_tup, isi_str_l, isi_str_f, isi_dict_non, isi_dict_bl, isi_dict_int, isi_dict_str, isi_dict_tup, isi_dict_l, isi_dict_f, Ab.isNon, args, List.map, List.length_cons, List.length_nil, List.length_singleton, List.replicate, Nat.reduceSub, Nat.reduceAdd, Nat.zero_add, List.cons_append, List.nil_append, List.getElem?_cons_zero, List.getElem?_cons_succ, List.set_cons_zero, List.set_cons_succ, Option.some.injEq, decide_eq_true_eq, Bool.not_eq_true', decide_eq_false_iff_not, ite_true, ite_false, if_true, if_false, reduceIte, Bool.false_eq_true, Bool.not_true, Bool.not_false, Bool.true_eq_false, decide_true, decide_false, Nat.reduceLeDiff, Nat.reduceLT]
    refine sat_seq ?_
    have step : Sat (fIfS (fTB (fOp gtD (fOwn 2 m__law_pick (fCons (fV 0) (fCons (fC (.int 3)) (fNil)))) (fC (.int 0))))
        (fSet (fOwn 3 (m__law_term 20) (fCons (fV 0) (fCons (fV 1) (fCons (fOp subD (fV 2) (fC (.int 1))) (fNil))))) 5)
        (fPass) [some (.ref s), some (.ref rn), some (.int ((n' + 1 : Nat) : Int)), some (.int v), some l, some l, none] A2) fun fl A3 => Dr s A A3 ∧ ∃ r us, fl = .nx [some (.ref s), some (.ref rn), some (.int ((n' + 1 : Nat) : Int)), some (.int v), some l, some r, none] ∧ Ex ns .t n' r us := by
      simp only [sat_ok, sat_bad, sat_bind, sat_ite, bind_ok, bind_bad, thn_nx, thn_rt, thn_bk, thn_ct, fin_rt, fin_nx, ev_v, ev_c, ev_op, ev_un, ev_nil, ev_cons, ev_tup, ev_lst, ev_call, ev_own, ev_sl, ev_no, ev_part, ev_and, ev_or, ev_not, ev_if, ev_t, ev_tb, ev_tnot, ev_tand, ev_tor, ev_mt, ev_mt0, ev_rgd, ev_set, ev_asg, ev_ret, ev_retN, ev_ex, ev_pass, ev_brk, ev_cont, ev_ifS, ev_aug, ev_gn, ev_gtp, ev_gnl, ev_gcs, ev_gsb, ev_for, ev_rg1, ev_rg2, ev_its, ev_enum, ev_lc, ev_yes, ev_add_ii, ev_add_ss, ev_add_tt, ev_add_rr, ev_sub, ev_mul, ev_mod, ev_fdiv, ev_pow, ev_neg, ev_lt, ev_le, ev_gt, ev_ge, ev_eq_ii, ev_eq_ss, ev_eq_bb, ev_ne_ii, ev_ne_ss, ev_ne_bb, ev_is_n, ev_isnt_n, ev_int_i, ev_int_b, ev_min_ii, ev_max_ii, ev_abs, ev_tup_of, ev_tup_ofL, ev_lst_ofT, ev_lst_ofL, ev_len_t, ev_len_s, ev_len_r, ev_tru_b, ev_alloc, ev_tupD, ev_lstD, isi_tuple_non, isi_tuple_bl, isi_tuple_int, isi_tuple_str, isi_tuple_tup, isi_tuple_l, isi_tuple_f, isi_list_non, isi_list_bl, isi_list_int, isi_list_str, isi_list_tup, isi_list_l, isi_list_f, isi_bool_non, isi_bool_bl, isi_bool_int, isi_bool_str, isi_bool_tup, isi_bool_l, isi_bool_f, isi_int_non, isi_int_bl, isi_int_int, isi_int_str, isi_int_tup, isi_int_l, isi_int_f, isi_str_non, isi_str_bl, isi_str_int, isi_str_str, isi_str_tup, isi_str_l, isi_str_f, isi_dict_non, isi_dict_bl, isi_dict_int, isi_dict_str, isi_dict_tup, isi_dict_l, isi_dict_f, Ab.isNon, args, List.map, List.length_cons, List.length_nil, List.length_singleton, List.replicate, Nat.reduceSub, Nat.reduceAdd, Nat.zero_add, List.cons_append, List.nil_append, List.getElem?_cons_zero, List.getElem?_cons_succ, List.set_cons_zero, List.set_cons_succ, Option.some.injEq, decide_eq_true_eq, Bool.not_eq_true', decide_eq_false_iff_not, ite_true, ite_false, if_true, if_false, reduceIte, Bool.false_eq_true, Bool.not_true, Bool.not_false, Bool.true_eq_false, decide_true, decide_false, Nat.reduceLeDiff, Nat.reduceLT]
      refine Sat.imp (pick_pos dr2.src (n := 3) (by decide) (by decide)) fun d A3 ⟨⟨u, e, h3, h4⟩, dr3⟩ => ?_
      subst e
      have dr3 := dr2.trans dr3
      have hr3 := dr3.keep _ _ rs hr
      simp only [sat_ok, sat_bad, sat_bind, sat_ite, bind_ok, bind_bad, thn_nx, thn_rt, thn_bk, thn_ct, fin_rt, fin_nx, ev_v, ev_c, ev_op, ev_un, ev_nil, ev_cons, ev_tup, ev_lst, ev_call, ev_own, ev_sl, ev_no, ev_part, ev_and, ev_or, ev_not, ev_if, ev_t, ev_tb, ev_tnot, ev_tand, ev_tor, ev_mt, ev_mt0, ev_rgd, ev_set, ev_asg, ev_ret, ev_retN, ev_ex, ev_pass, ev_brk, ev_cont, ev_ifS, ev_aug, ev_gn, ev_gtp, ev_gnl, ev_gcs, ev_gsb, ev_for, ev_rg1, ev_rg2, ev_its, ev_enum, ev_lc, ev_yes, ev_add_ii, ev_add_ss, ev_add_tt, ev_add_rr, ev_sub, ev_mul, ev_mod, ev_fdiv, ev_pow, ev_neg, ev_lt, ev_le, ev_gt, ev_ge, ev_eq_ii, ev_eq_ss, ev_eq_bb, ev_ne_ii, ev_ne_ss, ev_ne_bb, ev_is_n, ev_isnt_n, ev_int_i, ev_int_b, ev_min_ii, ev_max_ii, ev_abs, ev_tup_of, ev_tup_ofL, ev_lst_ofT, ev_lst_ofL, ev_len_t, ev_len_s, ev_len_r, ev_tru_b, ev_alloc, ev_tupD, ev_lstD, isi_tuple_non, isi_tuple_bl, isi_tuple_int, isi_tuple_str, isi_tuple_tup, isi_tuple_l, isi_tuple_f, isi_list_non, isi_list_bl, isi_list_int, isi_list_str, isi_list_tup, isi_list_l, isi_list_f, isi_bool_non, isi_bool_bl, isi_bool_int, isi_bool_str, isi_bool_tup, isi_bool_l, isi_bool_f, isi_int_non, isi_int_bl, isi_int_int, isi_int_str, isi_int_tup, isi_int_l, isi_int_f, isi_str_non, isi_str_bl, isi_str_int, isi_str_str, isi_str_tup, isi_str_l, isi_str_f, isi_dict_non, isi_dict_bl, isi_dict_int, isi_dict_str, isi_dict_tup, isi_dict_l, isi_dict_f, Ab.isNon, args, List.map, List.length_cons, List.length_nil, List.length_singleton, List.replicate, Nat.reduceSub, Nat.reduceAdd, Nat.zero_add, List.cons_append, List.nil_append, List.getElem?_cons_zero, List.getElem?_cons_succ, List.set_cons_zero, List.set_cons_succ, Option.some.injEq, decide_eq_true_eq, Bool.not_eq_true', decide_eq_false_iff_not, ite_true, ite_false, if_true, if_false, reduceIte, Bool.false_eq_true, Bool.not_true, Bool.not_false, Bool.true_eq_false, decide_true, decide_false, Nat.reduceLeDiff, Nat.reduceLT]
      split
      · simp only [en]
        refine Sat.imp (term n' rfl A3 dr3.src hr3) fun r A4 ⟨⟨us, hv2⟩, dr4⟩ => ?_
        exact ⟨dr3.trans dr4, r, us, rfl, hv2⟩
      · exact ⟨dr3, l, vs, rfl, hv1⟩
    refine Sat.imp step fun fl A3 ⟨dr3, r, us, e, hv2⟩ => ?_
    subst e
    obtain ⟨w, hw, hi⟩ : ∃ w, Op .t .f w ∧ ([.str "<", .str "<=", .str "==", .str "!="] : List D)[v.toNat]? = some (.str w) := by
      have : v = 0 ∨ v = 1 ∨ v = 2 ∨ v = 3 := by omega
      rcases this with rfl | rfl | rfl | rfl
      · exact ⟨_, .lt, rfl⟩
      · exact ⟨_, .le, rfl⟩
      · exact ⟨_, .eq, rfl⟩
      · exact ⟨_, .ne, rfl⟩
    simp only [sat_ok, sat_bad, sat_bind, sat_ite, bind_ok, bind_bad, thn_nx, thn_rt, thn_bk, thn_ct, fin_rt, fin_nx, ev_v, ev_c, ev_op, ev_un, ev_nil, ev_cons, ev_tup, ev_lst, ev_call, ev_own, ev_sl, ev_no, ev_part, ev_and, ev_or, ev_not, ev_if, ev_t, ev_tb, ev_tnot, ev_tand, ev_tor, ev_mt, ev_mt0, ev_rgd, ev_set, ev_asg, ev_ret, ev_retN, ev_ex, ev_pass, ev_brk, ev_cont, ev_ifS, ev_aug, ev_gn, ev_gtp, ev_gnl, ev_gcs, ev_gsb, ev_for, ev_rg1, ev_rg2, ev_its, ev_enum, ev_lc, ev_yes, ev_add_ii, ev_add_ss, ev_add_tt, ev_add_rr, ev_sub, ev_mul, ev_mod, ev_fdiv, ev_pow, ev_neg, ev_lt, ev_le, ev_gt, ev_ge, ev_eq_ii, ev_eq_ss, ev_eq_bb, ev_ne_ii, ev_ne_ss, ev_ne_bb, ev_is_n, ev_isnt_n, ev_int_i, ev_int_b, ev_min_ii, ev_max_ii, ev_abs, ev_tup_of, ev_tup_ofL, ev_lst_ofT, ev_lst_ofL, ev_len_t, ev_len_s, ev_len_r, ev_tru_b, ev_alloc, ev_tupD, ev_lstD, isi_tuple_non, isi_tuple_bl, isi_tuple_int, isi_tuple_str, isi_tuple_tup, isi_tuple_l, isi_tuple_f, isi_list_non, isi_list_bl, isi_list_int, isi_list_str, isi_list_tup, isi_list_l, isi_list_f, isi_bool_non, isi_bool_bl, isi_bool_int, isi_bool_str, isi_bool_tup, isi_bool_l, isi_bool_f, isi_int_non, isi_int_bl, isi_int_int, isi_int_str, isi_int_tup, isi_int_l, isi_int_f, isi_str_non, isi_str_bl, isi_str_int, isi_str_str, isi_str_tup, isi_str_l, isi_str_f, isi_dict_non, isi_dict_bl, isi_dict_int, isi_dict_str, isi_dict_tup, isi_dict_l, isi_dict_f, Ab.isNon, args, List.map, List.length_cons, List.length_nil, List.length_singleton, List.replicate, Nat.reduceSub, Nat.reduceAdd, Nat.zero_add, List.cons_append, List.nil_append, List.getElem?_cons_zero, List.getElem?_cons_succ, List.set_cons_zero, List.set_cons_succ, Option.some.injEq, decide_eq_true_eq, Bool.not_eq_true', decide_eq_false_iff_not, ite_true, ite_false, if_true, if_false, reduceIte, Bool.false_eq_true, Bool.not_true, Bool.not_false, Bool.true_eq_false, decide_true, decide_false, Nat.reduceLeDiff, Nat.reduceLT]
    rw [ev_ix_r (x := .str w) (rdL_l at_new) (by rw [atI_pos h1]; exact hi)]
    simp only [sat_ok, sat_bad, sat_bind, sat_ite, bind_ok, bind_bad, thn_nx, thn_rt, thn_bk, thn_ct, fin_rt, fin_nx, ev_v, ev_c, ev_op, ev_un, ev_nil, ev_cons, ev_tup, ev_lst, ev_call, ev_own, ev_sl, ev_no, ev_part, ev_and, ev_or, ev_not, ev_if, ev_t, ev_tb, ev_tnot, ev_tand, ev_tor, ev_mt, ev_mt0, ev_rgd, ev_set, ev_asg, ev_ret, ev_retN, ev_ex, ev_pass, ev_brk, ev_cont, ev_ifS, ev_aug, ev_gn, ev_gtp, ev_gnl, ev_gcs, ev_gsb, ev_for, ev_rg1, ev_rg2, ev_its, ev_enum, ev_lc, ev_yes, ev_add_ii, ev_add_ss, ev_add_tt, ev_add_rr, ev_sub, ev_mul, ev_mod, ev_fdiv, ev_pow, ev_neg, ev_lt, ev_le, ev_gt, ev_ge, ev_eq_ii, ev_eq_ss, ev_eq_bb, ev_ne_ii, ev_ne_ss, ev_ne_bb, ev_is_n, ev_isnt_n, ev_int_i, ev_int_b, ev_min_ii, ev_max_ii, ev_abs, ev_tup_of, ev_tup_ofL, ev_lst_ofT, ev_lst_ofL, ev_len_t, ev_len_s, ev_len_r, ev_tru_b, ev_alloc, ev_tupD, ev_lstD, isi_tuple_non, isi_tuple_bl, isi_tuple_int, isi_tuple_str, isi_tuple_tup, isi_tuple_l, isi_tuple_f, isi_list_non, isi_list_bl, isi_list_int, isi_list_str, isi_list_tup, isi_list_l, isi_list_f, isi_bool_non, isi_bool_bl, isi_bool_int, isi_bool_str, isi_bool_tup, isi_bool_l, isi_bool_f, isi_int_non, isi_int_bl, isi_int_int, isi_int_str, isi_int_tup, isi_int_l, isi_int_f, isi_str_non, isi_str_bl, isi_str_int, isi_str_str, isi_str_tup, isi_str_l, isi_str_f, isi_dict_non, isi_dict_bl, isi_dict_int, isi_dict_str, isi_dict_tup, isi_dict_l, isi_dict_f, Ab.isNon, args, List.map, List.length_cons, List.length_nil, List.length_singleton, List.replicate, Nat.reduceSub, Nat.reduceAdd, Nat.zero_add, List.cons_append, List.nil_append, List.getElem?_cons_zero, List.getElem?_cons_succ, List.set_cons_zero, List.set_cons_succ, Option.some.injEq, decide_eq_true_eq, Bool.not_eq_true', decide_eq_false_iff_not, ite_true, ite_false, if_true, if_false, reduceIte, Bool.false_eq_true, Bool.not_true, Bool.not_false, Bool.true_eq_false, decide_true, decide_false, Nat.reduceLeDiff, Nat.reduceLT]
    exact ⟨⟨_, .bin .f .t n' w l r vs us hw hv1 hv2⟩, dr3.trans (Dr.app dr3.src _)⟩
  simp only [sat_ok, sat_bad, sat_bind, sat_ite, bind_ok, bind_bad, thn_nx, thn_rt, thn_bk, thn_ct, fin_rt, fin_nx, ev_v, ev_c, ev_op, ev_un, ev_nil, ev_cons, ev_tup, ev_lst, ev_call, ev_own, ev_sl, ev_no, ev_part, ev_and, ev_or, ev_not, ev_if, ev_t, ev_tb, ev_tnot, ev_tand, ev_tor, ev_mt, ev_mt0, ev_rgd, ev_set, ev_asg, ev_ret, ev_retN, ev_ex, ev_pass, ev_brk, ev_cont, ev_ifS, ev_aug, ev_gn, ev_gtp, ev_gnl, ev_gcs, ev_gsb, ev_for, ev_rg1, ev_rg2, ev_its, ev_enum, ev_lc, ev_yes, ev_add_ii, ev_add_ss, ev_add_tt, ev_add_rr, ev_sub, ev_mul, ev_mod, ev_fdiv, ev_pow, ev_neg, ev_lt, ev_le, ev_gt, ev_ge, ev_eq_ii, ev_eq_ss, ev_eq_bb, ev_ne_ii, ev_ne_ss, ev_ne_bb, ev_is_n, ev_isnt_n, ev_int_i, ev_int_b, ev_min_ii, ev_max_ii, ev_abs, ev_tup_of, ev_tup_ofL, ev_lst_ofT, ev_lst_ofL, ev_len_t, ev_len_s, ev_len_r, ev_tru_b, ev_alloc, ev_tupD, ev_lstD, isi_tuple_non, isi_tuple_bl, isi_tuple_int, isi_tuple_str, isi_tuple_tup, isi_tuple_l, isi_tuple_f, isi_list_non, isi_list_bl, isi_list_int, isi_list_str, isi_list_tup, isi_list_l, isi_list_f, isi_bool_non, isi_bool_bl, isi_bool_int, isi_bool_str, isi_bool_tup, isi_bool_l, isi_bool_f, isi_int_non, isi_int_bl, isi_int_int, isi_int_str, isi_int_tup, isi_int_l, isi_int_f, isi_str_non, isi_str_bl, isi_str_int, isi_str_str, isi_str_tup, isi_str_l, isi_str_f, isi_dict_non, isi_dict_bl, isi_dict_int, isi_dict_str, isi_dict_tup, isi_dict_l, isi_dict_f, Ab.isNon, args, List.map, List.length_cons, List.length_nil, List.length_singleton, List.replicate, Nat.reduceSub, Nat.reduceAdd, Nat.zero_add, List.cons_append, List.nil_append, List.getElem?_cons_zero, List.getElem?_cons_succ, List.set_cons_zero, List.set_cons_succ, Option.some.injEq, decide_eq_true_eq, Bool.not_eq_true', decide_eq_false_iff_not, ite_true, ite_false, if_true, if_false, reduceIte, Bool.false_eq_true, Bool.not_true, Bool.not_false, Bool.true_eq_false, decide_true, decide_false, Nat.reduceLeDiff, Nat.reduceLT]
  refine sat_seq (sat_ifS (b := decide (0 < (n : Int) ∧ v < 6)) ?_ (fun hb2 => ?_) (fun hb2 => ?_))
  · simp only [sat_ok, sat_bad, sat_bind, sat_ite, bind_ok, bind_bad, thn_nx, thn_rt, thn_bk, thn_ct, fin_rt, fin_nx, ev_v, ev_c, ev_op, ev_un, ev_nil, ev_cons, ev_tup, ev_lst, ev_call, ev_own, ev_sl, ev_no, ev_part, ev_and, ev_or, ev_not, ev_if, ev_t, ev_tb, ev_tnot, ev_tand, ev_tor, ev_mt, ev_mt0, ev_rgd, ev_set, ev_asg, ev_ret, ev_retN, ev_ex, ev_pass, ev_brk, ev_cont, ev_ifS, ev_aug, ev_gn, ev_gtp, ev_gnl, ev_gcs, ev_gsb, ev_for, ev_rg1, ev_rg2, ev_its, ev_enum, ev_lc, ev_yes, ev_add_ii, ev_add_ss, ev_add_tt, ev_add_rr, ev_sub, ev_mul, ev_mod, ev_fdiv, ev_pow, ev_neg, ev_lt, ev_le, ev_gt, ev_ge, ev_eq_ii, ev_eq_ss, ev_eq_bb, ev_ne_ii, ev_ne_ss, ev_ne_bb, ev_is_n, ev_isnt_n, ev_int_i, ev_int_b, ev_min_ii, ev_max_ii, ev_abs, ev_tup_of, ev_tup_ofL, ev_lst_ofT, ev_lst_ofL, ev_len_t, ev_len_s, ev_len_r, ev_tru_b, ev_alloc, ev_tupD, ev_lstD, isi_tuple_non, isi_tuple_bl, isi_tuple_int, isi_tuple_str, isi_tuple_tup, isi_tuple_l, isi_tuple_f, isi_list_non, isi_list_bl, isi_list_int, isi_list_str, isi_list_tup, isi_list_l, isi_list_f, isi_bool_non, isi_bool_bl, isi_bool_int, isi_bool_str, isi_bool_tup, isi_bool_l, isi_bool_f, isi_int_non, isi_int_bl, isi_int_int, isi_int_str, isi_int_tup, isi_int_l, isi_int_f, isi_str_non, isi_str_bl, isi_str_int, isi_str_str, isi_str_tup, isi_str_l, isi_str_f, isi_dict_non, isi_dict_bl, isi_dict_int, isi_dict_str, isi_dict_tup, isi_dict_l, isi_dict_f, Ab.isNon, args, List.map, List.length_cons, List.length_nil, List.length_singleton, List.replicate, Nat.reduceSub, Nat.reduceAdd, Nat.zero_add, List.cons_append, List.nil_append, List.getElem?_cons_zero, List.getElem?_cons_succ, List.set_cons_zero, List.set_cons_succ, Option.some.injEq, decide_eq_true_eq, Bool.not_eq_true', decide_eq_false_iff_not, ite_true, ite_false, if_true, if_false, reduceIte, Bool.false_eq_true, Bool.not_true, Bool.not_false, Bool.true_eq_false, decide_true, decide_false, Nat.reduceLeDiff, Nat.reduceLT, bl_ifn]
  · obtain ⟨hn, hv⟩ := of_decide_eq_true hb2
    obtain ⟨n', rfl⟩ : ∃ n', n = n' + 1 := ⟨n - 1, by omega⟩
    have hv4 : 4 ≤ v := by have := of_decide_eq_false hb; omega
    have m2 : ∀ j : Int, mulOk 2 j := fun j => mulOk_l (by decide) (by decide)
    refine sat_seq ?_
    simp only [sat_ok, sat_bad, sat_bind, sat_ite, bind_ok, bind_bad, thn_nx, thn_rt, thn_bk, thn_ct, fin_rt, fin_nx, ev_v, ev_c, ev_op, ev_un, ev_nil, ev_cons, ev_tup, ev_lst, ev_call, ev_own, ev_sl, ev_no, ev_part, ev_and, ev_or, ev_not, ev_if, ev_t, ev_tb, ev_tnot, ev_tand, ev_tor, ev_mt, ev_mt0, ev_rgd, ev_set, ev_asg, ev_ret, ev_retN, ev_ex, ev_pass, ev_brk, ev_cont, ev_ifS, ev_aug, ev_gn, ev_gtp, ev_gnl, ev_gcs, ev_gsb, ev_for, ev_rg1, ev_rg2, ev_its, ev_enum, ev_lc, ev_yes, ev_add_ii, ev_add_ss, ev_add_tt, ev_add_rr, ev_sub, ev_mul, ev_mod, ev_fdiv, ev_pow, ev_neg, ev_lt, ev_le, ev_gt, ev_ge, ev_eq_ii, ev_eq_ss, ev_eq_bb, ev_ne_ii, ev_ne_ss, ev_ne_bb, ev_is_n, ev_isnt_n, ev_int_i, ev_int_b, ev_min_ii, ev_max_ii, ev_abs, ev_tup_of, ev_tup_ofL, ev_lst_ofT, ev_lst_ofL, ev_len_t, ev_len_s, ev_len_r, ev_tru_b, ev_alloc, ev_tupD, ev_lstD, isi_tuple_non, isi_tuple_bl, isi_tuple_int, isi_tuple_str, isi_tuple_tup, isi_tuple_l, isi_tuple_f, isi_list_non, isi_list_bl, isi_list_int, isi_list_str, isi_list_tup, isi_list_l, isi_list_f, isi_bool_non, isi_bool_bl, isi_bool_int, isi_bool_str, isi_bool_tup, isi_bool_l, isi_bool_f, isi_int_non, isi_int_bl, isi_int_int, isi_int_str, isi_int_tup, isi_int_l, isi_int_f, isi_str_non, isi_str_bl, isi_str_int, isi_str_str, isi_str_tup, isi_str_l, isi_str_f, isi_dict_non, isi_dict_bl, isi_dict_int, isi_dict_str, isi_dict_tup, isi_dict_l, isi_dict_f, Ab.isNon, args, List.map, List.length_cons, List.length_nil, List.length_singleton, List.replicate, Nat.reduceSub, Nat.reduceAdd, Nat.zero_add, List.cons_append, List.nil_append, List.getElem?_cons_zero, List.getElem?_cons_succ, List.set_cons_zero, List.set_cons_succ, Option.some.injEq, decide_eq_true_eq, Bool.not_eq_true', decide_eq_false_iff_not, ite_true, ite_false, if_true, if_false, reduceIte, Bool.false_eq_true, Bool.not_true, Bool.not_false, Bool.true_eq_false, decide_true, decide_false, Nat.reduceLeDiff, Nat.reduceLT, m2]
    rw [ev_sl_l hr1]
    obtain ⟨a, b, ha, hab, hb9, ec⟩ : ∃ a b : Nat, 5 ≤ a ∧ a < b ∧ b ≤ 9 ∧ cutL (ns.map D.str) (some (2 * v - 3)) (some (2 * v - 1)) = ((ns.drop a).take (b - a)).map D.str := by
      refine ⟨(2 * v - 3).toNat, (2 * v - 1).toNat, by omega, by omega, by omega, ?_⟩
      have e1 : (2 * v - 3) = (((2 * v - 3).toNat : Nat) : Int) := by omega
      have e2 : (2 * v - 1) = (((2 * v - 1).toNat : Nat) : Int) := by omega
      have := cut_names (ns := ns) (a := (2 * v - 3).toNat) (b := (2 * v - 1).toNat)
      rw [← e1, ← e2, hl, Nat.min_eq_left (by omega), Nat.min_eq_left (by omega)] at this
      exact this
    rw [ec]
    have dr2 := dr.trans (Dr.app dr.src [.lst (((ns.drop a).take (b - a)).map D.str)])
    have hg := at_new (A := A1) (o := .lst (((ns.drop a).take (b - a)).map D.str))
    have gs : A1.length ≠ s := by omega
    refine sat_seq ?_
    simp only [sat_ok, sat_bad, sat_bind, sat_ite, bind_ok, bind_bad, thn_nx, thn_rt, thn_bk, thn_ct, fin_rt, fin_nx, ev_v, ev_c, ev_op, ev_un, ev_nil, ev_cons, ev_tup, ev_lst, ev_call, ev_own, ev_sl, ev_no, ev_part, ev_and, ev_or, ev_not, ev_if, ev_t, ev_tb, ev_tnot, ev_tand, ev_tor, ev_mt, ev_mt0, ev_rgd, ev_set, ev_asg, ev_ret, ev_retN, ev_ex, ev_pass, ev_brk, ev_cont, ev_ifS, ev_aug, ev_gn, ev_gtp, ev_gnl, ev_gcs, ev_gsb, ev_for, ev_rg1, ev_rg2, ev_its, ev_enum, ev_lc, ev_yes, ev_add_ii, ev_add_ss, ev_add_tt, ev_add_rr, ev_sub, ev_mul, ev_mod, ev_fdiv, ev_pow, ev_neg, ev_lt, ev_le, ev_gt, ev_ge, ev_eq_ii, ev_eq_ss, ev_eq_bb, ev_ne_ii, ev_ne_ss, ev_ne_bb, ev_is_n, ev_isnt_n, ev_int_i, ev_int_b, ev_min_ii, ev_max_ii, ev_abs, ev_tup_of, ev_tup_ofL, ev_lst_ofT, ev_lst_ofL, ev_len_t, ev_len_s, ev_len_r, ev_tru_b, ev_alloc, ev_tupD, ev_lstD, isi_tuple_non, isi_tuple_bl, isi_tuple_int, isi_tuple_str, isi_tuple_tup, isi_tuple_l, isi_tuple_f, isi_list_non, isi_list_bl, isi_list_int, isi_list_str, isi_list_tup, isi_list_l, isi_list_f, isi_bool_non, isi_bool_bl, isi_bool_int, isi_bool_str, isi_bool_tup, isi_bool_l, isi_bool_f, isi_int_non, isi_int_bl, isi_int_int, isi_int_str, isi_int_tup, isi_int_l, isi_int_f, isi_str_non, isi_str_bl, isi_str_int, isi_str_str, isi_str_tup, isi_str_l, isi_str_f, isi_dict_non, isi_dict_bl, isi_dict_int, isi_dict_str, isi_dict_tup, isi_dict_l, isi_dict_f, Ab.isNon, args, List.map, List.length_cons, List.length_nil, List.length_singleton, List.replicate, Nat.reduceSub, Nat.reduceAdd, Nat.zero_add, List.cons_append, List.nil_append, List.getElem?_cons_zero, List.getElem?_cons_succ, List.set_cons_zero, List.set_cons_succ, Option.some.injEq, decide_eq_true_eq, Bool.not_eq_true', decide_eq_false_iff_not, ite_true, ite_false, if_true, if_false, reduceIte, Bool.false_eq_true, Bool.not_true, Bool.not_false, Bool.true_eq_false, decide_true, decide_false, Nat.reduceLeDiff, Nat.reduceLT]
    refine Sat.imp (link_spec dr2.src gs hl ha hab hb9 hg n') fun l A3 ⟨⟨vs, hv1⟩, dr3⟩ => ?_
    have hg := dr3.keep _ _ gs hg
    have dr3 := dr2.trans dr3
    refine Sat.imp (link_spec dr3.src gs hl ha hab hb9 hg n') fun r A4 ⟨⟨us, hv2⟩, dr4⟩ => ?_
    exact ⟨⟨_, .bin .f .l n' "same" l r vs us .same hv1 hv2⟩, dr3.trans dr4⟩
  simp only [sat_ok, sat_bad, sat_bind, sat_ite, bind_ok, bind_bad, thn_nx, thn_rt, thn_bk, thn_ct, fin_rt, fin_nx, ev_v, ev_c, ev_op, ev_un, ev_nil, ev_cons, ev_tup, ev_lst, ev_call, ev_own, ev_sl, ev_no, ev_part, ev_and, ev_or, ev_not, ev_if, ev_t, ev_tb, ev_tnot, ev_tand, ev_tor, ev_mt, ev_mt0, ev_rgd, ev_set, ev_asg, ev_ret, ev_retN, ev_ex, ev_pass, ev_brk, ev_cont, ev_ifS, ev_aug, ev_gn, ev_gtp, ev_gnl, ev_gcs, ev_gsb, ev_for, ev_rg1, ev_rg2, ev_its, ev_enum, ev_lc, ev_yes, ev_add_ii, ev_add_ss, ev_add_tt, ev_add_rr, ev_sub, ev_mul, ev_mod, ev_fdiv, ev_pow, ev_neg, ev_lt, ev_le, ev_gt, ev_ge, ev_eq_ii, ev_eq_ss, ev_eq_bb, ev_ne_ii, ev_ne_ss, ev_ne_bb, ev_is_n, ev_isnt_n, ev_int_i, ev_int_b, ev_min_ii, ev_max_ii, ev_abs, ev_tup_of, ev_tup_ofL, ev_lst_ofT, ev_lst_ofL, ev_len_t, ev_len_s, ev_len_r, ev_tru_b, ev_alloc, ev_tupD, ev_lstD, isi_tuple_non, isi_tuple_bl, isi_tuple_int, isi_tuple_str, isi_tuple_tup, isi_tuple_l, isi_tuple_f, isi_list_non, isi_list_bl, isi_list_int, isi_list_str, isi_list_tup, isi_list_l, isi_list_f, isi_bool_non, isi_bool_bl, isi_bool_int, isi_bool_str, isi_bool_tup, isi_bool_l, isi_bool_f, isi_int_non, isi_int_bl, isi_int_int, isi_int_str, isi_int_tup, isi_int_l, isi_int_f, isi_str_non, isi_str_bl, isi_str_int, isi_str_str, isi_str_tup, isi_str_l, isi_str_f, isi_dict_non, isi_dict_bl, isi_dict_int, isi_dict_str, isi_dict_tup, isi_dict_l, isi_dict_f, Ab.isNon, args, List.map, List.length_cons, List.length_nil, List.length_singleton, List.replicate, Nat.reduceSub, Nat.reduceAdd, Nat.zero_add, List.cons_append, List.nil_append, List.getElem?_cons_zero, List.getElem?_cons_succ, List.set_cons_zero, List.set_cons_succ, Option.some.injEq, decide_eq_true_eq, Bool.not_eq_true', decide_eq_false_iff_not, ite_true, ite_false, if_true, if_false, reduceIte, Bool.false_eq_true, Bool.not_true, Bool.not_false, Bool.true_eq_false, decide_true, decide_false, Nat.reduceLeDiff, Nat.reduceLT]
  refine sat_seq (sat_ifS (b := decide (0 < (n : Int) ∧ v < 8)) ?_ (fun hb3 => ?_) (fun hb3 => ?_))
  · simp only [sat_ok, sat_bad, sat_bind, sat_ite, bind_ok, bind_bad, thn_nx, thn_rt, thn_bk, thn_ct, fin_rt, fin_nx, ev_v, ev_c, ev_op, ev_un, ev_nil, ev_cons, ev_tup, ev_lst, ev_call, ev_own, ev_sl, ev_no, ev_part, ev_and, ev_or, ev_not, ev_if, ev_t, ev_tb, ev_tnot, ev_tand, ev_tor, ev_mt, ev_mt0, ev_rgd, ev_set, ev_asg, ev_ret, ev_retN, ev_ex, ev_pass, ev_brk, ev_cont, ev_ifS, ev_aug, ev_gn, ev_gtp, ev_gnl, ev_gcs, ev_gsb, ev_for, ev_rg1, ev_rg2, ev_its, ev_enum, ev_lc, ev_yes, ev_add_ii, ev_add_ss, ev_add_tt, ev_add_rr, ev_sub, ev_mul, ev_mod, ev_fdiv, ev_pow, ev_neg, ev_lt, ev_le, ev_gt, ev_ge, ev_eq_ii, ev_eq_ss, ev_eq_bb, ev_ne_ii, ev_ne_ss, ev_ne_bb, ev_is_n, ev_isnt_n, ev_int_i, ev_int_b, ev_min_ii, ev_max_ii, ev_abs, ev_tup_of, ev_tup_ofL, ev_lst_ofT, ev_lst_ofL, ev_len_t, ev_len_s, ev_len_r, ev_tru_b, ev_alloc, ev_tupD, ev_lstD, isi_tuple_non, isi_tuple_bl, isi_tuple_int, isi_tuple_str, isi_tuple_tup, isi_tuple_l, isi_tuple_f, isi_list_non, isi_list_bl, isi_list_int, isi_list_str, isi_list_tup, isi_list_l, isi_list_f, isi_bool_non, isi_bool_bl, isi_bool_int, isi_bool_str, isi_bool_tup, isi_bool_l, isi_bool_f, isi_int_non, isi_int_bl, isi_int_int, isi_int_str, isi_int_tup, isi_int_l, isi_int_f, isi_str_non, isi_str_bl, isi_str_int, isi_str_str, isi_str_tup, isi_str_l, isi_str_f, isi_dict_non, isi_dict_bl, isi_dict_int, isi_dict_str, isi_dict_tup, isi_dict_l, isi_dict_f, Ab.isNon, args, List.map, List.length_cons, List.length_nil, List.length_singleton, List.replicate, Nat.reduceSub, Nat.reduceAdd, Nat.zero_add, List.cons_append, List.nil_append, List.getElem?_cons_zero, List.getElem?_cons_succ, List.set_cons_zero, List.set_cons_succ, Option.some.injEq, decide_eq_true_eq, Bool.not_eq_true', decide_eq_false_iff_not, ite_true, ite_false, if_true, if_false, reduceIte, Bool.false_eq_true, Bool.not_true, Bool.not_false, Bool.true_eq_false, decide_true, decide_false, Nat.reduceLeDiff, Nat.reduceLT, bl_ifn]
  · obtain ⟨hn, hv⟩ := of_decide_eq_true hb3
    obtain ⟨n', rfl⟩ : ∃ n', n = n' + 1 := ⟨n - 1, by omega⟩
    have en : (((n' + 1 : Nat) : Int) - 1) = (n' : Nat) := by omega
    simp only [sat_ok, sat_bad, sat_bind, sat_ite, bind_ok, bind_bad, thn_nx, thn_rt, thn_bk, thn_ct, fin_rt, fin_nx, ev_v, ev_c, ev_op, ev_un, ev_nil, ev_cons, ev_tup, ev_lst, ev_call, ev_own, ev_sl, ev_no, ev_part, ev_and, ev_or, ev_not, ev_if, ev_t, ev_tb, ev_tnot, ev_tand, ev_tor, ev_mt, ev_mt0, ev_rgd, ev_set, ev_asg, ev_ret, ev_retN, ev_ex, ev_pass, ev_brk, ev_cont, ev_ifS, ev_aug, ev_gn, ev_gtp, ev_gnl, ev_gcs, ev_gsb, ev_for, ev_rg1, ev_rg2, ev_its, ev_enum, ev_lc, ev_yes, ev_add_ii, ev_add_ss, ev_add_tt, ev_add_rr, ev_sub, ev_mul, ev_mod, ev_fdiv, ev_pow, ev_neg, ev_lt, ev_le, ev_gt, ev_ge, ev_eq_ii, ev_eq_ss, ev_eq_bb, ev_ne_ii, ev_ne_ss, ev_ne_bb, ev_is_n, ev_isnt_n, ev_int_i, ev_int_b, ev_min_ii, ev_max_ii, ev_abs, ev_tup_of, ev_tup_ofL, ev_lst_ofT, ev_lst_ofL, ev_len_t, ev_len_s, ev_len_r, ev_tru_b, ev_alloc, ev_tupD, ev_lstD, isi_tuple_non, isi_tuple_bl, isi_tuple_int, isi_tuple_str, isi_tuple_tup, isi_tuple_l, isi_tuple_f, isi_list_non, isi_list_bl, isi_list_int, isi_list_str, isi_list_tup, isi_list_l, isi_list_f, isi_bool_non, isi_bool_bl, isi_bool_int, isi_bool_str, isi_bool_tup, isi_bool_l, isi_bool_f, isi_int_non, isi_int_bl, isi_int_int, isi_int_str, isi_int_tup, isi_int_l, isi_int_f, isi_str_non, isi_str_bl, isi_str_int, isi_str_str, isi_str_tup, isi_str_l, isi_str_f, isi_dict_non, isi_dict_bl, isi_dict_int, isi_dict_str, isi_dict_tup, isi_dict_l, isi_dict_f, Ab.isNon, args, List.map, List.length_cons, List.length_nil, List.length_singleton, List.replicate, Nat.reduceSub, Nat.reduceAdd, Nat.zero_add, List.cons_append, List.nil_append, List.getElem?_cons_zero, List.getElem?_cons_succ, List.set_cons_zero, List.set_cons_succ, Option.some.injEq, decide_eq_true_eq, Bool.not_eq_true', decide_eq_false_iff_not, ite_true, ite_false, if_true, if_false, reduceIte, Bool.false_eq_true, Bool.not_true, Bool.not_false, Bool.true_eq_false, decide_true, decide_false, Nat.reduceLeDiff, Nat.reduceLT, en]
    refine Sat.imp (sub n' rfl A1 dr.src hr1) fun l A2 ⟨⟨vs, hv1⟩, dr2⟩ => ?_
    exact ⟨⟨_, .neg n' l vs hv1⟩, dr.trans dr2⟩
  simp only [sat_ok, sat_bad, sat_bind, sat_ite, bind_ok, bind_bad, thn_nx, thn_rt, thn_bk, thn_ct, fin_rt, fin_nx, ev_v, ev_c, ev_op, ev_un, ev_nil, ev_cons, ev_tup, ev_lst, ev_call, ev_own, ev_sl, ev_no, ev_part, ev_and, ev_or, ev_not, ev_if, ev_t, ev_tb, ev_tnot, ev_tand, ev_tor, ev_mt, ev_mt0, ev_rgd, ev_set, ev_asg, ev_ret, ev_retN, ev_ex, ev_pass, ev_brk, ev_cont, ev_ifS, ev_aug, ev_gn, ev_gtp, ev_gnl, ev_gcs, ev_gsb, ev_for, ev_rg1, ev_rg2, ev_its, ev_enum, ev_lc, ev_yes, ev_add_ii, ev_add_ss, ev_add_tt, ev_add_rr, ev_sub, ev_mul, ev_mod, ev_fdiv, ev_pow, ev_neg, ev_lt, ev_le, ev_gt, ev_ge, ev_eq_ii, ev_eq_ss, ev_eq_bb, ev_ne_ii, ev_ne_ss, ev_ne_bb, ev_is_n, ev_isnt_n, ev_int_i, ev_int_b, ev_min_ii, ev_max_ii, ev_abs, ev_tup_of, ev_tup_ofL, ev_lst_ofT, ev_lst_ofL, ev_len_t, ev_len_s, ev_len_r, ev_tru_b, ev_alloc, ev_tupD, ev_lstD, isi_tuple_non, isi_tuple_bl, isi_tuple_int, isi_tuple_str, isi_tuple_tup, isi_tuple_l, isi_tuple_f, isi_list_non, isi_list_bl, isi_list_int, isi_list_str, isi_list_tup, isi_list_l, isi_list_f, isi_bool_non, isi_bool_bl, isi_bool_int, isi_bool_str, isi_bool_tup, isi_bool_l, isi_bool_f, isi_int_non, isi_int_bl, isi_int_int, isi_int_str, isi_int_tup, isi_int_l, isi_int_f, isi_str_non, isi_str_bl, isi_str_int, isi_str_str, isi_str_tup, isi_str_l, isi_str_f, isi_dict_non, isi_dict_bl, isi_dict_int, isi_dict_str, isi_dict_tup, isi_dict_l, isi_dict_f, Ab.isNon, args, List.map, List.length_cons, List.length_nil, List.length_singleton, List.replicate, Nat.reduceSub, Nat.reduceAdd, Nat.zero_add, List.cons_append, List.nil_append, List.getElem?_cons_zero, List.getElem?_cons_succ, List.set_cons_zero, List.set_cons_succ, Option.some.injEq, decide_eq_true_eq, Bool.not_eq_true', decide_eq_false_iff_not, ite_true, ite_false, if_true, if_false, reduceIte, Bool.false_eq_true, Bool.not_true, Bool.not_false, Bool.true_eq_false, decide_true, decide_false, Nat.reduceLeDiff, Nat.reduceLT]
  refine sat_seq (sat_ifS (b := decide (0 < (n : Int) ∧ v < 12)) ?_ (fun hb4 => ?_) (fun hb4 => ?_))
  · simp only [sat_ok, sat_bad, sat_bind, sat_ite, bind_ok, bind_bad, thn_nx, thn_rt, thn_bk, thn_ct, fin_rt, fin_nx, ev_v, ev_c, ev_op, ev_un, ev_nil, ev_cons, ev_tup, ev_lst, ev_call, ev_own, ev_sl, ev_no, ev_part, ev_and, ev_or, ev_not, ev_if, ev_t, ev_tb, ev_tnot, ev_tand, ev_tor, ev_mt, ev_mt0, ev_rgd, ev_set, ev_asg, ev_ret, ev_retN, ev_ex, ev_pass, ev_brk, ev_cont, ev_ifS, ev_aug, ev_gn, ev_gtp, ev_gnl, ev_gcs, ev_gsb, ev_for, ev_rg1, ev_rg2, ev_its, ev_enum, ev_lc, ev_yes, ev_add_ii, ev_add_ss, ev_add_tt, ev_add_rr, ev_sub, ev_mul, ev_mod, ev_fdiv, ev_pow, ev_neg, ev_lt, ev_le, ev_gt, ev_ge, ev_eq_ii, ev_eq_ss, ev_eq_bb, ev_ne_ii, ev_ne_ss, ev_ne_bb, ev_is_n, ev_isnt_n, ev_int_i, ev_int_b, ev_min_ii, ev_max_ii, ev_abs, ev_tup_of, ev_tup_ofL, ev_lst_ofT, ev_lst_ofL, ev_len_t, ev_len_s, ev_len_r, ev_tru_b, ev_alloc, ev_tupD, ev_lstD, isi_tuple_non, isi_tuple_bl, isi_tuple_int, isi_tuple_str, isi_tuple_tup, isi_tuple_l, isi_tuple_f, isi_list_non, isi_list_bl, isi_list_int, isi_list_str, isi_list_tup, isi_list_l, isi_list_f, isi_bool_non, isi_bool_bl, isi_bool_int, isi_bool_str, isi_bool_tup, isi_bool_l, isi_bool_f, isi_int_non, isi_int_bl, isi_int_int, isi_int_str, isi_int_tup, isi_int_l, isi_int_f, isi_str_non, isi_str_bl, isi_str_int, isi_str_str, isi_str_tup, isi_str_l, isi_str_f, isi_dict_non, isi_dict_bl, isi_dict_int, isi_dict_str, isi_dict_tup, isi_dict_l, isi_dict_f, Ab.isNon, args, List.map, List.length_cons, List.length_nil, List.length_singleton, List.replicate, Nat.reduceSub, Nat.reduceAdd, Nat.zero_add, List.cons_append, List.nil_append, List.getElem?_cons_zero, List.getElem?_cons_succ, List.set_cons_zero, List.set_cons_succ, Option.some.injEq, decide_eq_true_eq, Bool.not_eq_true', decide_eq_false_iff_not, ite_true, ite_false, if_true, if_false, reduceIte, Bool.false_eq_true, Bool.not_true, Bool.not_false, Bool.true_eq_false, decide_true, decide_false, Nat.reduceLeDiff, Nat.reduceLT, bl_ifn]
  · obtain ⟨hn, hv⟩ := of_decide_eq_true hb4
    obtain ⟨n', rfl⟩ : ∃ n', n = n' + 1 := ⟨n - 1, by omega⟩
    have en : (((n' + 1 : Nat) : Int) - 1) = (n' : Nat) := by omega
    refine sat_seq ?_
    simp only [sat_ok, sat_bad, sat_bind, sat_ite, bind_ok, bind_bad, thn_nx, thn_rt, thn_bk, thn_ct, fin_rt, fin_nx, ev_v, ev_c, ev_op, ev_un, ev_nil, ev_cons, ev_tup, ev_lst, ev_call, ev_own, ev_sl, ev_no, ev_part, ev_and, ev_or, ev_not, ev_if, ev_t, ev_tb, ev_tnot, ev_tand, ev_tor, ev_mt, ev_mt0, ev_rgd, ev_set, ev_asg, ev_ret, ev_retN, ev_ex, ev_pass, ev_brk, ev_cont, ev_ifS, ev_aug, ev_gn, ev_gtp, ev_gnl, ev_gcs, ev_gsb, ev_for, ev_rg1, ev_rg2, ev_its, ev_enum, ev_lc, ev_yes, ev_add_ii, ev_add_ss, ev_add_tt, ev_add_rr, ev_sub, ev_mul, ev_mod, ev_fdiv, ev_pow, ev_neg, ev_lt, ev_le, ev_gt, ev_ge, ev_eq_ii, ev_eq_ss, ev_eq_bb, ev_ne_ii, ev_ne_ss, ev_ne_bb, ev_is_n, ev_isnt_n, ev_int_i, ev_int_b, ev_min_ii, ev_max_ii, ev_abs, ev_tup_of, ev_tup_ofL, ev_lst_ofT, ev_lst_ofL, ev_len_t, ev_len_s, ev_len_r, ev_tru_b, ev_alloc, ev_tupD, ev_lstD, isi_tuple_non, isi_tuple_bl, isi_tuple_int, isi_tuple_str, isi_tuple_tup, isi_tuple_l, isi_tuple_f, isi_list_non, isi_list_bl, isi_list_int, isi_list_str, isi_list_tup, isi_list_l, isi_list_f, isi_bool_non, isi_bool_bl, isi_bool_int, isi_bool_str, isi_bool_tup, isi_bool_l, isi_bool_f, isi_int_non, isi_int_bl, isi_int_int, isi_int_str, isi_int_tup, isi_int_l, isi_int_f, isi_str_non, isi_str_bl, isi_str_int, isi_str_str, isi_str_tup, isi_str_l, isi_str_f, isi_dict_non, isi_dict_bl, isi_dict_int, isi_dict_str, isi_dict_tup, isi_dict_l, isi_dict_f, Ab.isNon, args, List.map, List.length_cons, List.length_nil, List.length_singleton, List.replicate, Nat.reduceSub, Nat.reduceAdd, Nat.zero_add, List.cons_append, List.nil_append, List.getElem?_cons_zero, List.getElem?_cons_succ, List.set_cons_zero, List.set_cons_succ, Option.some.injEq, decide_eq_true_eq, Bool.not_eq_true', decide_eq_false_iff_not, ite_true, ite_false, if_true, if_false, reduceIte, Bool.false_eq_true, Bool.not_true, Bool.not_false, Bool.true_eq_false, decide_true, decide_false, Nat.reduceLeDiff, Nat.reduceLT, en]
    refine Sat.imp (sub n' rfl A1 dr.src hr1) fun l A2 ⟨⟨vs, hv1⟩, dr2⟩ => ?_
    have dr2 := dr.trans dr2
    have p2 : (0 : Int) < 2 := by decide
    obtain ⟨w, hw, hi⟩ : ∃ w, Op .f .f w ∧ ([.str "and", .str "or"] : List D)[(v % 2).toNat]? = some (.str w) := by
      have : v % 2 = 0 ∨ v % 2 = 1 := by omega
      rcases this with h | h <;> rw [h]
      · exact ⟨_, .and, rfl⟩
      · exact ⟨_, .or, rfl⟩
    simp only [sat_ok, sat_bad, sat_bind, sat_ite, bind_ok, bind_bad, thn_nx, thn_rt, thn_bk, thn_ct, fin_rt, fin_nx, ev_v, ev_c, ev_op, ev_un, ev_nil, ev_cons, ev_tup, ev_lst, ev_call, ev_own, ev_sl, ev_no, ev_part, ev_and, ev_or, ev_not, ev_if, ev_t, ev_tb, ev_tnot, ev_tand, ev_tor, ev_mt, ev_mt0, ev_rgd, ev_set, ev_asg, ev_ret, ev_retN, ev_ex, ev_pass, ev_brk, ev_cont, ev_ifS, ev_aug, ev_gn, ev_gtp, ev_gnl, ev_gcs, ev_gsb, ev_for, ev_rg1, ev_rg2, ev_its, ev_enum, ev_lc, ev_yes, ev_add_ii, ev_add_ss, ev_add_tt, ev_add_rr, ev_sub, ev_mul, ev_mod, ev_fdiv, ev_pow, ev_neg, ev_lt, ev_le, ev_gt, ev_ge, ev_eq_ii, ev_eq_ss, ev_eq_bb, ev_ne_ii, ev_ne_ss, ev_ne_bb, ev_is_n, ev_isnt_n, ev_int_i, ev_int_b, ev_min_ii, ev_max_ii, ev_abs, ev_tup_of, ev_tup_ofL, ev_lst_ofT, ev_lst_ofL, ev_len_t, ev_len_s, ev_len_r, ev_tru_b, ev_alloc, ev_tupD, ev_lstD, isi_tuple_non, isi_tuple_bl, isi_tuple_int, isi_tuple_str, isi_tuple_tup, isi_tuple_l, isi_tuple_f, isi_list_non, isi_list_bl, isi_list_int, isi_list_str, isi_list_tup, isi_list_l, isi_list_f, isi_bool_non, isi_bool_bl, isi_bool_int, isi_bool_str, isi_bool_tup, isi_bool_l, isi_bool_f, isi_int_non, isi_int_bl, isi_int_int, isi_int_str, isi_int_tup, isi_int_l, isi_int_f, isi_str_non, isi_str_bl, isi_str_int, isi_str_str, isi_str_tup, isi_str_l, isi_str_f, isi_dict_non, isi_dict_bl, isi_dict_int, isi_dict_str, isi_dict_tup, isi_dict_l, isi_dict_f, Ab.isNon, args, List.map, List.length_cons, List.length_nil, List.length_singleton, List.replicate, Nat.reduceSub, Nat.reduceAdd, Nat.zero_add, List.cons_append, List.nil_append, List.getElem?_cons_zero, List.getElem?_cons_succ, List.set_cons_zero, List.set_cons_succ, Option.some.injEq, decide_eq_true_eq, Bool.not_eq_true', decide_eq_false_iff_not, ite_true, ite_false, if_true, if_false, reduceIte, Bool.false_eq_true, Bool.not_true, Bool.not_false, Bool.true_eq_false, decide_true, decide_false, Nat.reduceLeDiff, Nat.reduceLT, p2]
    rw [ev_ix_r (x := .str w) (rdL_l at_new) (by rw [atI_pos (by omega)]; exact hi)]
    have dr3 := dr2.trans (Dr.app dr2.src [.lst [.str "and", .str "or"]])
    have hr3 := dr3.keep _ _ rs hr
    simp only [sat_ok, sat_bad, sat_bind, sat_ite, bind_ok, bind_bad, thn_nx, thn_rt, thn_bk, thn_ct, fin_rt, fin_nx, ev_v, ev_c, ev_op, ev_un, ev_nil, ev_cons, ev_tup, ev_lst, ev_call, ev_own, ev_sl, ev_no, ev_part, ev_and, ev_or, ev_not, ev_if, ev_t, ev_tb, ev_tnot, ev_tand, ev_tor, ev_mt, ev_mt0, ev_rgd, ev_set, ev_asg, ev_ret, ev_retN, ev_ex, ev_pass, ev_brk, ev_cont, ev_ifS, ev_aug, ev_gn, ev_gtp, ev_gnl, ev_gcs, ev_gsb, ev_for, ev_rg1, ev_rg2, ev_its, ev_enum, ev_lc, ev_yes, ev_add_ii, ev_add_ss, ev_add_tt, ev_add_rr, ev_sub, ev_mul, ev_mod, ev_fdiv, ev_pow, ev_neg, ev_lt, ev_le, ev_gt, ev_ge, ev_eq_ii, ev_eq_ss, ev_eq_bb, ev_ne_ii, ev_ne_ss, ev_ne_bb, ev_is_n, ev_isnt_n, ev_int_i, ev_int_b, ev_min_ii, ev_max_ii, ev_abs, ev_tup_of, ev_tup_ofL, ev_lst_ofT, ev_lst_ofL, ev_len_t, ev_len_s, ev_len_r, ev_tru_b, ev_alloc, ev_tupD, ev_lstD, isi_tuple_non, isi_tuple_bl, isi_tuple_int, isi_tuple_str, isi_tuple_tup, isi_tuple_l, isi_tuple_f, isi_list_non, isi_list_bl, isi_list_int, isi_list_str, isi_list_tup, isi_list_l, isi_list_f, isi_bool_non, isi_bool_bl, isi_bool_int, isi_bool_str, isi_bool_tup, isi_bool_l, isi_bool_f, isi_int_non, isi_int_bl, isi_int_int, isi_int_str, isi_int_tup, isi_int_l, isi_int_f, isi_str_non, isi_str_bl, isi_str_int, isi_str_str, isi_str_tup, isi_str_l, isi_str_f, isi_dict_non, isi_dict_bl, isi_dict_int, isi_dict_str, isi_dict_tup, isi_dict_l, isi_dict_f, Ab.isNon, args, List.map, List.length_cons, List.length_nil, List.length_singleton, List.replicate, Nat.reduceSub, Nat.reduceAdd, Nat.zero_add, List.cons_append, List.nil_append, List.getElem?_cons_zero, List.getElem?_cons_succ, List.set_cons_zero, List.set_cons_succ, Option.some.injEq, decide_eq_true_eq, Bool.not_eq_true', decide_eq_false_iff_not, ite_true, ite_false, if_true, if_false, reduceIte, Bool.false_eq_true, Bool.not_true, Bool.not_false, Bool.true_eq_false, decide_true, decide_false, Nat.reduceLeDiff, Nat.reduceLT, en]
    refine Sat.imp (sub n' rfl _ dr3.src hr3) fun r A4 ⟨⟨us, hv2⟩, dr4⟩ => ?_
    exact ⟨⟨_, .bin .f .f n' w l r vs us hw hv1 hv2⟩, dr3.trans dr4⟩
  simp only [sat_ok, sat_bad, sat_bind, sat_ite, bind_ok, bind_bad, thn_nx, thn_rt, thn_bk, thn_ct, fin_rt, fin_nx, ev_v, ev_c, ev_op, ev_un, ev_nil, ev_cons, ev_tup, ev_lst, ev_call, ev_own, ev_sl, ev_no, ev_part, ev_and, ev_or, ev_not, ev_if, ev_t, ev_tb, ev_tnot, ev_tand, ev_tor, ev_mt, ev_mt0, ev_rgd, ev_set, ev_asg, ev_ret, ev_retN, ev_ex, ev_pass, ev_brk, ev_cont, ev_ifS, ev_aug, ev_gn, ev_gtp, ev_gnl, ev_gcs, ev_gsb, ev_for, ev_rg1, ev_rg2, ev_its, ev_enum, ev_lc, ev_yes, ev_add_ii, ev_add_ss, ev_add_tt, ev_add_rr, ev_sub, ev_mul, ev_mod, ev_fdiv, ev_pow, ev_neg, ev_lt, ev_le, ev_gt, ev_ge, ev_eq_ii, ev_eq_ss, ev_eq_bb, ev_ne_ii, ev_ne_ss, ev_ne_bb, ev_is_n, ev_isnt_n, ev_int_i, ev_int_b, ev_min_ii, ev_max_ii, ev_abs, ev_tup_of, ev_tup_ofL, ev_lst_ofT, ev_lst_ofL, ev_len_t, ev_len_s, ev_len_r, ev_tru_b, ev_alloc, ev_tupD, ev_lstD, isi_tuple_non, isi_tuple_bl, isi_tuple_int, isi_tuple_str, isi_tuple_tup, isi_tuple_l, isi_tuple_f, isi_list_non, isi_list_bl, isi_list_int, isi_list_str, isi_list_tup, isi_list_l, isi_list_f, isi_bool_non, isi_bool_bl, isi_bool_int, isi_bool_str, isi_bool_tup, isi_bool_l, isi_bool_f, isi_int_non, isi_int_bl, isi_int_int, isi_int_str, isi_int_tup, isi_int_l, isi_int_f, isi_str_non, isi_str_bl, isi_str_int, isi_str_str, isi_str_tup, isi_str_l, isi_str_f, isi_dict_non, isi_dict_bl, isi_dict_int, isi_dict_str, isi_dict_tup, isi_dict_l, isi_dict_f, Ab.isNon, args, List.map, List.length_cons, List.length_nil, List.length_singleton, List.replicate, Nat.reduceSub, Nat.reduceAdd, Nat.zero_add, List.cons_append, List.nil_append, List.getElem?_cons_zero, List.getElem?_cons_succ, List.set_cons_zero, List.set_cons_succ, Option.some.injEq, decide_eq_true_eq, Bool.not_eq_true', decide_eq_false_iff_not, ite_true, ite_false, if_true, if_false, reduceIte, Bool.false_eq_true, Bool.not_true, Bool.not_false, Bool.true_eq_false, decide_true, decide_false, Nat.reduceLeDiff, Nat.reduceLT]
  refine sat_seq ?_
  simp only [sat_ok, sat_bad, sat_bind, sat_ite, bind_ok, bind_bad, thn_nx, thn_rt, thn_bk, thn_ct, fin_rt, fin_nx, ev_v, ev_c, ev_op, ev_un, ev_nil, ev_cons, ev_tup, ev_lst, ev_call, ev_own, ev_sl, ev_no, ev_part, ev_and, ev_or, ev_not, ev_if, ev_t, ev_tb, ev_tnot, ev_tand, ev_tor, ev_mt, ev_mt0, ev_rgd, ev_set, ev_asg, ev_ret, ev_retN, ev_ex, ev_pass, ev_brk, ev_cont, ev_ifS, ev_aug, ev_gn, ev_gtp, ev_gnl, ev_gcs, ev_gsb, ev_for, ev_rg1, ev_rg2, ev_its, ev_enum, ev_lc, ev_yes, ev_add_ii, ev_add_ss, ev_add_tt, ev_add_rr, ev_sub, ev_mul, ev_mod, ev_fdiv, ev_pow, ev_neg, ev_lt, ev_le, ev_gt, ev_ge, ev_eq_ii, ev_eq_ss, ev_eq_bb, ev_ne_ii, ev_ne_ss, ev_ne_bb, ev_is_n, ev_isnt_n, ev_int_i, ev_int_b, ev_min_ii, ev_max_ii, ev_abs, ev_tup_of, ev_tup_ofL, ev_lst_ofT, ev_lst_ofL, ev_len_t, ev_len_s, ev_len_r, ev_tru_b, ev_alloc, ev_tupD, ev_lstD, isi_tuple_non, isi_tuple_bl, isi_tuple_int, isi_tuple_str, isi_tuple_tup, isi_tuple_l, isi_tuple_f, isi_list_non, isi_list_bl, isi_list_int, isi_list_str, isi_list_tup, isi_list_l, isi_list_f, isi_bool_non, isi_bool_bl, isi_bool_int, isi_bool_str, isi_bool_tup, isi_bool_l, isi_bool_f, isi_int_non, isi_int_bl, isi_int_int, isi_int_str, isi_int_tup, isi_int_l, isi_int_f, isi_str_non, isi_str_bl, isi_str_int, isi_str_str, isi_str_tup, isi_str_l, isi_str_f, isi_dict_non, isi_dict_bl, isi_dict_int, isi_dict_str, isi_dict_tup, isi_dict_l, isi_dict_f, Ab.isNon, args, List.map, List.length_cons, List.length_nil, List.length_singleton, List.replicate, Nat.reduceSub, Nat.reduceAdd, Nat.zero_add, List.cons_append, List.nil_append, List.getElem?_cons_zero, List.getElem?_cons_succ, List.set_cons_zero, List.set_cons_succ, Option.some.injEq, decide_eq_true_eq, Bool.not_eq_true', decide_eq_false_iff_not, ite_true, ite_false, if_true, if_false, reduceIte, Bool.false_eq_true, Bool.not_true, Bool.not_false, Bool.true_eq_false, decide_true, decide_false, Nat.reduceLeDiff, Nat.reduceLT]
  split
  · refine Sat.imp (pick_pos dr.src (n := 2) (by decide) (by decide)) fun d A2 ⟨⟨u, e, h3, h4⟩, dr2⟩ => ?_
    subst e
    simp only [sat_ok, sat_bad, sat_bind, sat_ite, bind_ok, bind_bad, thn_nx, thn_rt, thn_bk, thn_ct, fin_rt, fin_nx, ev_v, ev_c, ev_op, ev_un, ev_nil, ev_cons, ev_tup, ev_lst, ev_call, ev_own, ev_sl, ev_no, ev_part, ev_and, ev_or, ev_not, ev_if, ev_t, ev_tb, ev_tnot, ev_tand, ev_tor, ev_mt, ev_mt0, ev_rgd, ev_set, ev_asg, ev_ret, ev_retN, ev_ex, ev_pass, ev_brk, ev_cont, ev_ifS, ev_aug, ev_gn, ev_gtp, ev_gnl, ev_gcs, ev_gsb, ev_for, ev_rg1, ev_rg2, ev_its, ev_enum, ev_lc, ev_yes, ev_add_ii, ev_add_ss, ev_add_tt, ev_add_rr, ev_sub, ev_mul, ev_mod, ev_fdiv, ev_pow, ev_neg, ev_lt, ev_le, ev_gt, ev_ge, ev_eq_ii, ev_eq_ss, ev_eq_bb, ev_ne_ii, ev_ne_ss, ev_ne_bb, ev_is_n, ev_isnt_n, ev_int_i, ev_int_b, ev_min_ii, ev_max_ii, ev_abs, ev_tup_of, ev_tup_ofL, ev_lst_ofT, ev_lst_ofL, ev_len_t, ev_len_s, ev_len_r, ev_tru_b, ev_alloc, ev_tupD, ev_lstD, isi_tuple_non, isi_tuple_bl, isi_tuple_int, isi_tuple_str, isi_tuple_tup, isi_tuple_l, isi_tuple_f, isi_list_non, isi_list_bl, isi_list_int, isi_list_str, isi_list_tup, isi_list_l, isi_list_f, isi_bool_non, isi_bool_bl, isi_bool_int, isi_bool_str, isi_bool_tup, isi_bool_l, isi_bool_f, isi_int_non, isi_int_bl, isi_int_int, isi_int_str, isi_int_tup, isi_int_l, isi_int_f, isi_str_non, isi_str_bl, isi_str_int, isi_str_str, isi_str_tup, isi_str_l, isi_str_f, isi_dict_non, isi_dict_bl, isi_dict_int, isi_dict_str, isi_dict_tup, isi_dict_l, isi_dict_f, Ab.isNon, args, List.map, List.length_cons, List.length_nil, List.length_singleton, List.replicate, Nat.reduceSub, Nat.reduceAdd, Nat.zero_add, List.cons_append, List.nil_append, List.getElem?_cons_zero, List.getElem?_cons_succ, List.set_cons_zero, List.set_cons_succ, Option.some.injEq, decide_eq_true_eq, Bool.not_eq_true', decide_eq_false_iff_not, ite_true, ite_false, if_true, if_false, reduceIte, Bool.false_eq_true, Bool.not_true, Bool.not_false, Bool.true_eq_false, decide_true, decide_false, Nat.reduceLeDiff, Nat.reduceLT]
    exact ⟨⟨_, .flag n _⟩, dr.trans dr2⟩
  · rw [ev_sl_l hr1]
    have c3 : cutL (ns.map D.str) (some 3) (some 5) = ((ns.drop 3).take 2).map D.str := by
      have := cut_names (ns := ns) (a := 3) (b := 5)
      rw [hl] at this
      exact this
    rw [c3]
    have dr2 := dr.trans (Dr.app dr.src [.lst (((ns.drop 3).take 2).map D.str)])
    simp only [sat_ok, sat_bad, sat_bind, sat_ite, bind_ok, bind_bad, thn_nx, thn_rt, thn_bk, thn_ct, fin_rt, fin_nx, ev_v, ev_c, ev_op, ev_un, ev_nil, ev_cons, ev_tup, ev_lst, ev_call, ev_own, ev_sl, ev_no, ev_part, ev_and, ev_or, ev_not, ev_if, ev_t, ev_tb, ev_tnot, ev_tand, ev_tor, ev_mt, ev_mt0, ev_rgd, ev_set, ev_asg, ev_ret, ev_retN, ev_ex, ev_pass, ev_brk, ev_cont, ev_ifS, ev_aug, ev_gn, ev_gtp, ev_gnl, ev_gcs, ev_gsb, ev_for, ev_rg1, ev_rg2, ev_its, ev_enum, ev_lc, ev_yes, ev_add_ii, ev_add_ss, ev_add_tt, ev_add_rr, ev_sub, ev_mul, ev_mod, ev_fdiv, ev_pow, ev_neg, ev_lt, ev_le, ev_gt, ev_ge, ev_eq_ii, ev_eq_ss, ev_eq_bb, ev_ne_ii, ev_ne_ss, ev_ne_bb, ev_is_n, ev_isnt_n, ev_int_i, ev_int_b, ev_min_ii, ev_max_ii, ev_abs, ev_tup_of, ev_tup_ofL, ev_lst_ofT, ev_lst_ofL, ev_len_t, ev_len_s, ev_len_r, ev_tru_b, ev_alloc, ev_tupD, ev_lstD, isi_tuple_non, isi_tuple_bl, isi_tuple_int, isi_tuple_str, isi_tuple_tup, isi_tuple_l, isi_tuple_f, isi_list_non, isi_list_bl, isi_list_int, isi_list_str, isi_list_tup, isi_list_l, isi_list_f, isi_bool_non, isi_bool_bl, isi_bool_int, isi_bool_str, isi_bool_tup, isi_bool_l, isi_bool_f, isi_int_non, isi_int_bl, isi_int_int, isi_int_str, isi_int_tup, isi_int_l, isi_int_f, isi_str_non, isi_str_bl, isi_str_int, isi_str_str, isi_str_tup, isi_str_l, isi_str_f, isi_dict_non, isi_dict_bl, isi_dict_int, isi_dict_str, isi_dict_tup, isi_dict_l, isi_dict_f, Ab.isNon, args, List.map, List.length_cons, List.length_nil, List.length_singleton, List.replicate, Nat.reduceSub, Nat.reduceAdd, Nat.zero_add, List.cons_append, List.nil_append, List.getElem?_cons_zero, List.getElem?_cons_succ, List.set_cons_zero, List.set_cons_succ, Option.some.injEq, decide_eq_true_eq, Bool.not_eq_true', decide_eq_false_iff_not, ite_true, ite_false, if_true, if_false, reduceIte, Bool.false_eq_true, Bool.not_true, Bool.not_false, Bool.true_eq_false, decide_true, decide_false, Nat.reduceLeDiff, Nat.reduceLT]
    refine Sat.imp (one_lst dr2.src (by omega) at_new (by rw [List.length_map, List.length_take, List.length_drop]; omega) (by rw [List.length_map, List.length_take, List.length_drop]; omega)) fun d A3 ⟨hd, dr3⟩ => ?_
    obtain ⟨j, x, e, j1, j2, hx⟩ := mem_cut hd
    subst e
    exact ⟨⟨_, .name .f n j x hx ⟨by omega, by omega⟩⟩, dr2.trans dr3⟩
theorem fact_spec (rs : rn ≠ s) (hl : ns.length = 9) : ∀ (n k : Nat) (A : AH), n ≤ 6 → Sr s A → A[rn]? = some (.lst (ns.map D.str)) → DrwS s A (m__law_fact (n + k + 1) [.ref s, .ref rn, .int (n : Nat)] A) fun d => ∃ vs, Ex ns .f n d vs
  | 0, k, A, hn, hs, hr => fact_step rs hl hn (fun n' e => by omega) hs hr
  | n + 1, k, A, hn, hs, hr => by
    rw [show n + 1 + k + 1 = (n + k + 1) + 1 by omega]
    exact fact_step rs hl hn (fun n' e A hs hr => by cases e; exact fact_spec rs hl n k A (by omega) hs hr) hs hr
end
/-! ### variables -/
theorem Ex.tup {ns : List Str} {s : So} {n : Nat} {d : D} {vs : List Str} (h : Ex ns s n d vs) : ∃ ds, d = .tup ds := by cases h <;> exact ⟨_, rfl⟩
theorem Ex.few {ns : List Str} {s : So} {n : Nat} {d : D} {vs : List Str} (h : Ex ns s n d vs) : vs.length ≤ 2 ^ n := by
  induction h with
  | name s n j x hx hj => exact one_le
  | neg n d vs h ih => rw [Nat.pow_succ]; omega
  | bin s s' n w l r vs us hw h h' ih ih' => rw [List.length_append, Nat.pow_succ]; omega
  | _ => exact Nat.zero_le _
theorem Ex.nm {ns : List Str} {s : So} {n : Nat} {d : D} {vs : List Str} (h : Ex ns s n d vs) : ∀ x ∈ vs, ∃ (s : So) (j : Nat), ns[j]? = some x ∧ at_ j s := by
  induction h with
  | name s n j x hx hj => intro y hy; cases List.mem_singleton.mp hy; exact ⟨s, j, hx, hj⟩
  | neg n d vs h ih => exact ih
  | bin s s' n w l r vs us hw h h' ih ih' => intro y hy; exact (List.mem_append.mp hy).elim (ih y) (ih' y)
  | _ => intro y hy; cases hy
theorem vars_spec {ns : List Str} {s : So} {n : Nat} {d : D} {vs : List Str} (h : Ex ns s n d vs) : n ≤ 6 → ∀ (m : Nat) (A : AH), n < m → Sat (m__law_variables m [d] A) fun e A' => Gr A A' ∧ ∃ r, e = .ref r ∧ A'[r]? = some (.lst (vs.map D.str)) := by
  have cut1 : ∀ (x : D), cutL [x] (some 1) none = [] := fun x => rfl
  have cut2 : ∀ (x y : D), cutL [x, y] (some 1) none = [y] := fun x y => rfl
  have cut3 : ∀ (x y z : D), cutL [x, y, z] (some 1) none = [y, z] := fun x y z => rfl
  have sl : ∀ (xs : List D) (A : AH) a b, slD (.tup xs) a b A = .ok (.tup (cutL xs a b)) A := fun _ _ _ _ => rfl
  induction h with
  | num n i h =>
    intro hn m A hm
    obtain ⟨m, rfl⟩ : ∃ k, m = k + 1 := ⟨m - 1, by omega⟩
    refine sat_body rfl (sat_seq ?_)
    simp (decide := true) only [sat_ok, sat_bad, sat_bind, sat_ite, bind_ok, bind_bad, thn_nx, thn_rt, thn_bk, thn_ct, fin_rt, fin_nx, ev_v, ev_c, ev_op, ev_un, ev_nil, ev_cons, ev_tup, ev_lst, ev_call, ev_own, ev_sl, ev_no, ev_part, ev_and, ev_or, ev_not, ev_if, ev_t, ev_tb, ev_tnot, ev_tand, ev_tor, ev_mt, ev_mt0, ev_rgd, ev_set, ev_asg, ev_ret, ev_retN, ev_ex, ev_pass, ev_brk, ev_cont, ev_ifS, ev_aug, ev_gn, ev_gtp, ev_gnl, ev_gcs, ev_gsb, ev_for, ev_rg1, ev_rg2, ev_its, ev_enum, ev_lc, ev_yes, ev_add_ii, ev_add_ss, ev_add_tt, ev_add_rr, ev_sub, ev_mul, ev_mod, ev_fdiv, ev_pow, ev_neg, ev_lt, ev_le, ev_gt, ev_ge, ev_eq_ii, ev_eq_ss, ev_eq_bb, ev_ne_ii, ev_ne_ss, ev_ne_bb, ev_is_n, ev_isnt_n, ev_int_i, ev_int_b, ev_min_ii, ev_max_ii, ev_abs, ev_tup_of, ev_tup_ofL, ev_lst_ofT, ev_lst_ofL, ev_len_t, ev_len_s, ev_len_r, ev_tru_b, ev_alloc, ev_tupD, ev_lstD, isi_tuple_non, isi_tuple_bl, isi_tuple_int, isi_tuple_str, isi_tuple_tup, isi_tuple_l, isi_tuple_f, isi_list_non, isi_list_bl, isi_list_int, isi_list_str, isi_list_tup, isi_list_l, isi_list_f, isi_bool_non, isi_bool_bl, isi_bool_int, isi_bool_str, isi_bool_tup, isi_bool_l, isi_bool_f, isi_int_non, isi_int_bl, isi_int_int, isi_int_str, isi_int_tup, isi_int_l, isi_int_f, isi_str_non, isi_str_bl, isi_str_int, isi_str_str, isi_str_tup, isi_str_l, isi_str_f, isi_dict_non, isi_dict_bl, isi_dict_int, isi_dict_str, isi_dict_tup, isi_dict_l, isi_dict_f, Ab.isNon, args, List.map, List.length_cons, List.length_nil, List.length_singleton, List.replicate, Nat.reduceSub, Nat.reduceAdd, Nat.zero_add, List.cons_append, List.nil_append, List.getElem?_cons_zero, List.getElem?_cons_succ, List.set_cons_zero, List.set_cons_succ, Option.some.injEq, decide_eq_true_eq, Bool.not_eq_true', decide_eq_false_iff_not, ite_true, ite_false, if_true, if_false, reduceIte, Bool.false_eq_true, Bool.not_true, Bool.not_false, Bool.true_eq_false, decide_true, decide_false, Nat.reduceLeDiff, Nat.reduceLT, ixa]
    refine sat_seq ?_; simp only [sat_ok, sat_bad, sat_bind, sat_ite, bind_ok, bind_bad, thn_nx, thn_rt, thn_bk, thn_ct, fin_rt, fin_nx, ev_v, ev_c, ev_op, ev_un, ev_nil, ev_cons, ev_tup, ev_lst, ev_call, ev_own, ev_sl, ev_no, ev_part, ev_and, ev_or, ev_not, ev_if, ev_t, ev_tb, ev_tnot, ev_tand, ev_tor, ev_mt, ev_mt0, ev_rgd, ev_set, ev_asg, ev_ret, ev_retN, ev_ex, ev_pass, ev_brk, ev_cont, ev_ifS, ev_aug, ev_gn, ev_gtp, ev_gnl, ev_gcs, ev_gsb, ev_for, ev_rg1, ev_rg2, ev_its, ev_enum, ev_lc, ev_yes, ev_add_ii, ev_add_ss, ev_add_tt, ev_add_rr, ev_sub, ev_mul, ev_mod, ev_fdiv, ev_pow, ev_neg, ev_lt, ev_le, ev_gt, ev_ge, ev_eq_ii, ev_eq_ss, ev_eq_bb, ev_ne_ii, ev_ne_ss, ev_ne_bb, ev_is_n, ev_isnt_n, ev_int_i, ev_int_b, ev_min_ii, ev_max_ii, ev_abs, ev_tup_of, ev_tup_ofL, ev_lst_ofT, ev_lst_ofL, ev_len_t, ev_len_s, ev_len_r, ev_tru_b, ev_alloc, ev_tupD, ev_lstD, isi_tuple_non, isi_tuple_bl, isi_tuple_int, isi_tuple_str, isi_tuple_tup, isi_tuple_l, isi_tuple_f, isi_list_non, isi_list_bl, isi_list_int, isi_list_str, isi_list_tup, isi_list_l, isi_list_f, isi_bool_non, isi_bool_bl, isi_bool_int, isi_bool_str, isi_bool_tup, isi_bool_l, isi_bool_f, isi_int_non, isi_int_bl, isi_int_int, isi_int_str, isi_int_tup, isi_int_l, isi_int_f, isi_str_non, isi_str_bl, isi_str_int, isi_str_str, isi_str_tup, isi_str_l, isi_str_f, isi_dict_non, isi_dict_bl, isi_dict_int, isi_dict_str, isi_dict_tup, isi_dict_l, isi_dict_f, Ab.isNon, args, List.map, List.length_cons, List.length_nil, List.length_singleton, List.replicate, Nat.reduceSub, Nat.reduceAdd, Nat.zero_add, List.cons_append, List.nil_append, List.getElem?_cons_zero, List.getElem?_cons_succ, List.set_cons_zero, List.set_cons_succ, Option.some.injEq, decide_eq_true_eq, Bool.not_eq_true', decide_eq_false_iff_not, ite_true, ite_false, if_true, if_false, reduceIte, Bool.false_eq_true, Bool.not_true, Bool.not_false, Bool.true_eq_false, decide_true, decide_false, Nat.reduceLeDiff, Nat.reduceLT]
    refine sat_seq ?_; simp only [sat_ok, sat_bad, sat_bind, sat_ite, bind_ok, bind_bad, thn_nx, thn_rt, thn_bk, thn_ct, fin_rt, fin_nx, ev_v, ev_c, ev_op, ev_un, ev_nil, ev_cons, ev_tup, ev_lst, ev_call, ev_own, ev_sl, ev_no, ev_part, ev_and, ev_or, ev_not, ev_if, ev_t, ev_tb, ev_tnot, ev_tand, ev_tor, ev_mt, ev_mt0, ev_rgd, ev_set, ev_asg, ev_ret, ev_retN, ev_ex, ev_pass, ev_brk, ev_cont, ev_ifS, ev_aug, ev_gn, ev_gtp, ev_gnl, ev_gcs, ev_gsb, ev_for, ev_rg1, ev_rg2, ev_its, ev_enum, ev_lc, ev_yes, ev_add_ii, ev_add_ss, ev_add_tt, ev_add_rr, ev_sub, ev_mul, ev_mod, ev_fdiv, ev_pow, ev_neg, ev_lt, ev_le, ev_gt, ev_ge, ev_eq_ii, ev_eq_ss, ev_eq_bb, ev_ne_ii, ev_ne_ss, ev_ne_bb, ev_is_n, ev_isnt_n, ev_int_i, ev_int_b, ev_min_ii, ev_max_ii, ev_abs, ev_tup_of, ev_tup_ofL, ev_lst_ofT, ev_lst_ofL, ev_len_t, ev_len_s, ev_len_r, ev_tru_b, ev_alloc, ev_tupD, ev_lstD, isi_tuple_non, isi_tuple_bl, isi_tuple_int, isi_tuple_str, isi_tuple_tup, isi_tuple_l, isi_tuple_f, isi_list_non, isi_list_bl, isi_list_int, isi_list_str, isi_list_tup, isi_list_l, isi_list_f, isi_bool_non, isi_bool_bl, isi_bool_int, isi_bool_str, isi_bool_tup, isi_bool_l, isi_bool_f, isi_int_non, isi_int_bl, isi_int_int, isi_int_str, isi_int_tup, isi_int_l, isi_int_f, isi_str_non, isi_str_bl, isi_str_int, isi_str_str, isi_str_tup, isi_str_l, isi_str_f, isi_dict_non, isi_dict_bl, isi_dict_int, isi_dict_str, isi_dict_tup, isi_dict_l, isi_dict_f, Ab.isNon, args, List.map, List.length_cons, List.length_nil, List.length_singleton, List.replicate, Nat.reduceSub, Nat.reduceAdd, Nat.zero_add, List.cons_append, List.nil_append, List.getElem?_cons_zero, List.getElem?_cons_succ, List.set_cons_zero, List.set_cons_succ, Option.some.injEq, decide_eq_true_eq, Bool.not_eq_true', decide_eq_false_iff_not, ite_true, ite_false, if_true, if_false, reduceIte, Bool.false_eq_true, Bool.not_true, Bool.not_false, Bool.true_eq_false, decide_true, decide_false, Nat.reduceLeDiff, Nat.reduceLT, sl, cut2, ev_iseq_t]
    rw [loop_cons trivial]; simp only [sat_ok, sat_bad, sat_bind, sat_ite, bind_ok, bind_bad, thn_nx, thn_rt, thn_bk, thn_ct, fin_rt, fin_nx, ev_v, ev_c, ev_op, ev_un, ev_nil, ev_cons, ev_tup, ev_lst, ev_call, ev_own, ev_sl, ev_no, ev_part, ev_and, ev_or, ev_not, ev_if, ev_t, ev_tb, ev_tnot, ev_tand, ev_tor, ev_mt, ev_mt0, ev_rgd, ev_set, ev_asg, ev_ret, ev_retN, ev_ex, ev_pass, ev_brk, ev_cont, ev_ifS, ev_aug, ev_gn, ev_gtp, ev_gnl, ev_gcs, ev_gsb, ev_for, ev_rg1, ev_rg2, ev_its, ev_enum, ev_lc, ev_yes, ev_add_ii, ev_add_ss, ev_add_tt, ev_add_rr, ev_sub, ev_mul, ev_mod, ev_fdiv, ev_pow, ev_neg, ev_lt, ev_le, ev_gt, ev_ge, ev_eq_ii, ev_eq_ss, ev_eq_bb, ev_ne_ii, ev_ne_ss, ev_ne_bb, ev_is_n, ev_isnt_n, ev_int_i, ev_int_b, ev_min_ii, ev_max_ii, ev_abs, ev_tup_of, ev_tup_ofL, ev_lst_ofT, ev_lst_ofL, ev_len_t, ev_len_s, ev_len_r, ev_tru_b, ev_alloc, ev_tupD, ev_lstD, isi_tuple_non, isi_tuple_bl, isi_tuple_int, isi_tuple_str, isi_tuple_tup, isi_tuple_l, isi_tuple_f, isi_list_non, isi_list_bl, isi_list_int, isi_list_str, isi_list_tup, isi_list_l, isi_list_f, isi_bool_non, isi_bool_bl, isi_bool_int, isi_bool_str, isi_bool_tup, isi_bool_l, isi_bool_f, isi_int_non, isi_int_bl, isi_int_int, isi_int_str, isi_int_tup, isi_int_l, isi_int_f, isi_str_non, isi_str_bl, isi_str_int, isi_str_str, isi_str_tup, isi_str_l, isi_str_f, isi_dict_non, isi_dict_bl, isi_dict_int, isi_dict_str, isi_dict_tup, isi_dict_l, isi_dict_f, Ab.isNon, args, List.map, List.length_cons, List.length_nil, List.length_singleton, List.replicate, Nat.reduceSub, Nat.reduceAdd, Nat.zero_add, List.cons_append, List.nil_append, List.getElem?_cons_zero, List.getElem?_cons_succ, List.set_cons_zero, List.set_cons_succ, Option.some.injEq, decide_eq_true_eq, Bool.not_eq_true', decide_eq_false_iff_not, ite_true, ite_false, if_true, if_false, reduceIte, Bool.false_eq_true, Bool.not_true, Bool.not_false, Bool.true_eq_false, decide_true, decide_false, Nat.reduceLeDiff, Nat.reduceLT, turn_]
    rw [loop_nil trivial]; simp only [sat_ok, sat_bad, sat_bind, sat_ite, bind_ok, bind_bad, thn_nx, thn_rt, thn_bk, thn_ct, fin_rt, fin_nx, ev_v, ev_c, ev_op, ev_un, ev_nil, ev_cons, ev_tup, ev_lst, ev_call, ev_own, ev_sl, ev_no, ev_part, ev_and, ev_or, ev_not, ev_if, ev_t, ev_tb, ev_tnot, ev_tand, ev_tor, ev_mt, ev_mt0, ev_rgd, ev_set, ev_asg, ev_ret, ev_retN, ev_ex, ev_pass, ev_brk, ev_cont, ev_ifS, ev_aug, ev_gn, ev_gtp, ev_gnl, ev_gcs, ev_gsb, ev_for, ev_rg1, ev_rg2, ev_its, ev_enum, ev_lc, ev_yes, ev_add_ii, ev_add_ss, ev_add_tt, ev_add_rr, ev_sub, ev_mul, ev_mod, ev_fdiv, ev_pow, ev_neg, ev_lt, ev_le, ev_gt, ev_ge, ev_eq_ii, ev_eq_ss, ev_eq_bb, ev_ne_ii, ev_ne_ss, ev_ne_bb, ev_is_n, ev_isnt_n, ev_int_i, ev_int_b, ev_min_ii, ev_max_ii, ev_abs, ev_tup_of, ev_tup_ofL, ev_lst_ofT, ev_lst_ofL, ev_len_t, ev_len_s, ev_len_r, ev_tru_b, ev_alloc, ev_tupD, ev_lstD, isi_tuple_non, isi_tuple_bl, isi_tuple_int, isi_tuple_str, isi_tuple_tup, isi_tuple_l, isi_tuple_f, isi_list_non, isi_list_bl, isi_list_int, isi_list_str, isi_list_tup, isi_list_l, isi_list_f, isi_bool_non, isi_bool_bl, isi_bool_int, isi_bool_str, isi_bool_tup, isi_bool_l, isi_bool_f, isi_int_non, isi_int_bl, isi_int_int, isi_int_str, isi_int_tup, isi_int_l, isi_int_f, isi_str_non, isi_str_bl, isi_str_int, isi_str_str, isi_str_tup, isi_str_l, isi_str_f, isi_dict_non, isi_dict_bl, isi_dict_int, isi_dict_str, isi_dict_tup, isi_dict_l, isi_dict_f, Ab.isNon, args, List.map, List.length_cons, List.length_nil, List.length_singleton, List.replicate, Nat.reduceSub, Nat.reduceAdd, Nat.zero_add, List.cons_append, List.nil_append, List.getElem?_cons_zero, List.getElem?_cons_succ, List.set_cons_zero, List.set_cons_succ, Option.some.injEq, decide_eq_true_eq, Bool.not_eq_true', decide_eq_false_iff_not, ite_true, ite_false, if_true, if_false, reduceIte, Bool.false_eq_true, Bool.not_true, Bool.not_false, Bool.true_eq_false, decide_true, decide_false, Nat.reduceLeDiff, Nat.reduceLT]
    exact ⟨.app, _, rfl, at_new⟩
  | flag n b =>
    intro hn m A hm
    obtain ⟨m, rfl⟩ : ∃ k, m = k + 1 := ⟨m - 1, by omega⟩
    refine sat_body rfl (sat_seq ?_)
    simp (decide := true) only [sat_ok, sat_bad, sat_bind, sat_ite, bind_ok, bind_bad, thn_nx, thn_rt, thn_bk, thn_ct, fin_rt, fin_nx, ev_v, ev_c, ev_op, ev_un, ev_nil, ev_cons, ev_tup, ev_lst, ev_call, ev_own, ev_sl, ev_no, ev_part, ev_and, ev_or, ev_not, ev_if, ev_t, ev_tb, ev_tnot, ev_tand, ev_tor, ev_mt, ev_mt0, ev_rgd, ev_set, ev_asg, ev_ret, ev_retN, ev_ex, ev_pass, ev_brk, ev_cont, ev_ifS, ev_aug, ev_gn, ev_gtp, ev_gnl, ev_gcs, ev_gsb, ev_for, ev_rg1, ev_rg2, ev_its, ev_enum, ev_lc, ev_yes, ev_add_ii, ev_add_ss, ev_add_tt, ev_add_rr, ev_sub, ev_mul, ev_mod, ev_fdiv, ev_pow, ev_neg, ev_lt, ev_le, ev_gt, ev_ge, ev_eq_ii, ev_eq_ss, ev_eq_bb, ev_ne_ii, ev_ne_ss, ev_ne_bb, ev_is_n, ev_isnt_n, ev_int_i, ev_int_b, ev_min_ii, ev_max_ii, ev_abs, ev_tup_of, ev_tup_ofL, ev_lst_ofT, ev_lst_ofL, ev_len_t, ev_len_s, ev_len_r, ev_tru_b, ev_alloc, ev_tupD, ev_lstD, isi_tuple_non, isi_tuple_bl, isi_tuple_int, isi_tuple_str, isi_tuple_tup, isi_tuple_l, isi_tuple_f, isi_list_non, isi_list_bl, isi_list_int, isi_list_str, isi_list_tup, isi_list_l, isi_list_f, isi_bool_non, isi_bool_bl, isi_bool_int, isi_bool_str, isi_bool_tup, isi_bool_l, isi_bool_f, isi_int_non, isi_int_bl, isi_int_int, isi_int_str, isi_int_tup, isi_int_l, isi_int_f, isi_str_non, isi_str_bl, isi_str_int, isi_str_str, isi_str_tup, isi_str_l, isi_str_f, isi_dict_non, isi_dict_bl, isi_dict_int, isi_dict_str, isi_dict_tup, isi_dict_l, isi_dict_f, Ab.isNon, args, List.map, List.length_cons, List.length_nil, List.length_singleton, List.replicate, Nat.reduceSub, Nat.reduceAdd, Nat.zero_add, List.cons_append, List.nil_append, List.getElem?_cons_zero, List.getElem?_cons_succ, List.set_cons_zero, List.set_cons_succ, Option.some.injEq, decide_eq_true_eq, Bool.not_eq_true', decide_eq_false_iff_not, ite_true, ite_false, if_true, if_false, reduceIte, Bool.false_eq_true, Bool.not_true, Bool.not_false, Bool.true_eq_false, decide_true, decide_false, Nat.reduceLeDiff, Nat.reduceLT, ixa]
    refine sat_seq ?_; simp only [sat_ok, sat_bad, sat_bind, sat_ite, bind_ok, bind_bad, thn_nx, thn_rt, thn_bk, thn_ct, fin_rt, fin_nx, ev_v, ev_c, ev_op, ev_un, ev_nil, ev_cons, ev_tup, ev_lst, ev_call, ev_own, ev_sl, ev_no, ev_part, ev_and, ev_or, ev_not, ev_if, ev_t, ev_tb, ev_tnot, ev_tand, ev_tor, ev_mt, ev_mt0, ev_rgd, ev_set, ev_asg, ev_ret, ev_retN, ev_ex, ev_pass, ev_brk, ev_cont, ev_ifS, ev_aug, ev_gn, ev_gtp, ev_gnl, ev_gcs, ev_gsb, ev_for, ev_rg1, ev_rg2, ev_its, ev_enum, ev_lc, ev_yes, ev_add_ii, ev_add_ss, ev_add_tt, ev_add_rr, ev_sub, ev_mul, ev_mod, ev_fdiv, ev_pow, ev_neg, ev_lt, ev_le, ev_gt, ev_ge, ev_eq_ii, ev_eq_ss, ev_eq_bb, ev_ne_ii, ev_ne_ss, ev_ne_bb, ev_is_n, ev_isnt_n, ev_int_i, ev_int_b, ev_min_ii, ev_max_ii, ev_abs, ev_tup_of, ev_tup_ofL, ev_lst_ofT, ev_lst_ofL, ev_len_t, ev_len_s, ev_len_r, ev_tru_b, ev_alloc, ev_tupD, ev_lstD, isi_tuple_non, isi_tuple_bl, isi_tuple_int, isi_tuple_str, isi_tuple_tup, isi_tuple_l, isi_tuple_f, isi_list_non, isi_list_bl, isi_list_int, isi_list_str, isi_list_tup, isi_list_l, isi_list_f, isi_bool_non, isi_bool_bl, isi_bool_int, isi_bool_str, isi_bool_tup, isi_bool_l, isi_bool_f, isi_int_non, isi_int_bl, isi_int_int, isi_int_str, isi_int_tup, isi_int_l, isi_int_f, isi_str_non, isi_str_bl, isi_str_int, isi_str_str, isi_str_tup, isi_str_l, isi_str_f, isi_dict_non, isi_dict_bl, isi_dict_int, isi_dict_str, isi_dict_tup, isi_dict_l, isi_dict_f, Ab.isNon, args, List.map, List.length_cons, List.length_nil, List.length_singleton, List.replicate, Nat.reduceSub, Nat.reduceAdd, Nat.zero_add, List.cons_append, List.nil_append, List.getElem?_cons_zero, List.getElem?_cons_succ, List.set_cons_zero, List.set_cons_succ, Option.some.injEq, decide_eq_true_eq, Bool.not_eq_true', decide_eq_false_iff_not, ite_true, ite_false, if_true, if_false, reduceIte, Bool.false_eq_true, Bool.not_true, Bool.not_false, Bool.true_eq_false, decide_true, decide_false, Nat.reduceLeDiff, Nat.reduceLT]
    refine sat_seq ?_; simp only [sat_ok, sat_bad, sat_bind, sat_ite, bind_ok, bind_bad, thn_nx, thn_rt, thn_bk, thn_ct, fin_rt, fin_nx, ev_v, ev_c, ev_op, ev_un, ev_nil, ev_cons, ev_tup, ev_lst, ev_call, ev_own, ev_sl, ev_no, ev_part, ev_and, ev_or, ev_not, ev_if, ev_t, ev_tb, ev_tnot, ev_tand, ev_tor, ev_mt, ev_mt0, ev_rgd, ev_set, ev_asg, ev_ret, ev_retN, ev_ex, ev_pass, ev_brk, ev_cont, ev_ifS, ev_aug, ev_gn, ev_gtp, ev_gnl, ev_gcs, ev_gsb, ev_for, ev_rg1, ev_rg2, ev_its, ev_enum, ev_lc, ev_yes, ev_add_ii, ev_add_ss, ev_add_tt, ev_add_rr, ev_sub, ev_mul, ev_mod, ev_fdiv, ev_pow, ev_neg, ev_lt, ev_le, ev_gt, ev_ge, ev_eq_ii, ev_eq_ss, ev_eq_bb, ev_ne_ii, ev_ne_ss, ev_ne_bb, ev_is_n, ev_isnt_n, ev_int_i, ev_int_b, ev_min_ii, ev_max_ii, ev_abs, ev_tup_of, ev_tup_ofL, ev_lst_ofT, ev_lst_ofL, ev_len_t, ev_len_s, ev_len_r, ev_tru_b, ev_alloc, ev_tupD, ev_lstD, isi_tuple_non, isi_tuple_bl, isi_tuple_int, isi_tuple_str, isi_tuple_tup, isi_tuple_l, isi_tuple_f, isi_list_non, isi_list_bl, isi_list_int, isi_list_str, isi_list_tup, isi_list_l, isi_list_f, isi_bool_non, isi_bool_bl, isi_bool_int, isi_bool_str, isi_bool_tup, isi_bool_l, isi_bool_f, isi_int_non, isi_int_bl, isi_int_int, isi_int_str, isi_int_tup, isi_int_l, isi_int_f, isi_str_non, isi_str_bl, isi_str_int, isi_str_str, isi_str_tup, isi_str_l, isi_str_f, isi_dict_non, isi_dict_bl, isi_dict_int, isi_dict_str, isi_dict_tup, isi_dict_l, isi_dict_f, Ab.isNon, args, List.map, List.length_cons, List.length_nil, List.length_singleton, List.replicate, Nat.reduceSub, Nat.reduceAdd, Nat.zero_add, List.cons_append, List.nil_append, List.getElem?_cons_zero, List.getElem?_cons_succ, List.set_cons_zero, List.set_cons_succ, Option.some.injEq, decide_eq_true_eq, Bool.not_eq_true', decide_eq_false_iff_not, ite_true, ite_false, if_true, if_false, reduceIte, Bool.false_eq_true, Bool.not_true, Bool.not_false, Bool.true_eq_false, decide_true, decide_false, Nat.reduceLeDiff, Nat.reduceLT, sl, cut2, ev_iseq_t]
    rw [loop_cons trivial]; simp only [sat_ok, sat_bad, sat_bind, sat_ite, bind_ok, bind_bad, thn_nx, thn_rt, thn_bk, thn_ct, fin_rt, fin_nx, ev_v, ev_c, ev_op, ev_un, ev_nil, ev_cons, ev_tup, ev_lst, ev_call, ev_own, ev_sl, ev_no, ev_part, ev_and, ev_or, ev_not, ev_if, ev_t, ev_tb, ev_tnot, ev_tand, ev_tor, ev_mt, ev_mt0, ev_rgd, ev_set, ev_asg, ev_ret, ev_retN, ev_ex, ev_pass, ev_brk, ev_cont, ev_ifS, ev_aug, ev_gn, ev_gtp, ev_gnl, ev_gcs, ev_gsb, ev_for, ev_rg1, ev_rg2, ev_its, ev_enum, ev_lc, ev_yes, ev_add_ii, ev_add_ss, ev_add_tt, ev_add_rr, ev_sub, ev_mul, ev_mod, ev_fdiv, ev_pow, ev_neg, ev_lt, ev_le, ev_gt, ev_ge, ev_eq_ii, ev_eq_ss, ev_eq_bb, ev_ne_ii, ev_ne_ss, ev_ne_bb, ev_is_n, ev_isnt_n, ev_int_i, ev_int_b, ev_min_ii, ev_max_ii, ev_abs, ev_tup_of, ev_tup_ofL, ev_lst_ofT, ev_lst_ofL, ev_len_t, ev_len_s, ev_len_r, ev_tru_b, ev_alloc, ev_tupD, ev_lstD, isi_tuple_non, isi_tuple_bl, isi_tuple_int, isi_tuple_str, isi_tuple_tup, isi_tuple_l, isi_tuple_f, isi_list_non, isi_list_bl, isi_list_int, isi_list_str, isi_list_tup, isi_list_l, isi_list_f, isi_bool_non, isi_bool_bl, isi_bool_int, isi_bool_str, isi_bool_tup, isi_bool_l, isi_bool_f, isi_int_non, isi_int_bl, isi_int_int, isi_int_str, isi_int_tup, isi_int_l, isi_int_f, isi_str_non, isi_str_bl, isi_str_int, isi_str_str, isi_str_tup, isi_str_l, isi_str_f, isi_dict_non, isi_dict_bl, isi_dict_int, isi_dict_str, isi_dict_tup, isi_dict_l, isi_dict_f, Ab.isNon, args, List.map, List.length_cons, List.length_nil, List.length_singleton, List.replicate, Nat.reduceSub, Nat.reduceAdd, Nat.zero_add, List.cons_append, List.nil_append, List.getElem?_cons_zero, List.getElem?_cons_succ, List.set_cons_zero, List.set_cons_succ, Option.some.injEq, decide_eq_true_eq, Bool.not_eq_true', decide_eq_false_iff_not, ite_true, ite_false, if_true, if_false, reduceIte, Bool.false_eq_true, Bool.not_true, Bool.not_false, Bool.true_eq_false, decide_true, decide_false, Nat.reduceLeDiff, Nat.reduceLT, turn_]
    rw [loop_nil trivial]; simp only [sat_ok, sat_bad, sat_bind, sat_ite, bind_ok, bind_bad, thn_nx, thn_rt, thn_bk, thn_ct, fin_rt, fin_nx, ev_v, ev_c, ev_op, ev_un, ev_nil, ev_cons, ev_tup, ev_lst, ev_call, ev_own, ev_sl, ev_no, ev_part, ev_and, ev_or, ev_not, ev_if, ev_t, ev_tb, ev_tnot, ev_tand, ev_tor, ev_mt, ev_mt0, ev_rgd, ev_set, ev_asg, ev_ret, ev_retN, ev_ex, ev_pass, ev_brk, ev_cont, ev_ifS, ev_aug, ev_gn, ev_gtp, ev_gnl, ev_gcs, ev_gsb, ev_for, ev_rg1, ev_rg2, ev_its, ev_enum, ev_lc, ev_yes, ev_add_ii, ev_add_ss, ev_add_tt, ev_add_rr, ev_sub, ev_mul, ev_mod, ev_fdiv, ev_pow, ev_neg, ev_lt, ev_le, ev_gt, ev_ge, ev_eq_ii, ev_eq_ss, ev_eq_bb, ev_ne_ii, ev_ne_ss, ev_ne_bb, ev_is_n, ev_isnt_n, ev_int_i, ev_int_b, ev_min_ii, ev_max_ii, ev_abs, ev_tup_of, ev_tup_ofL, ev_lst_ofT, ev_lst_ofL, ev_len_t, ev_len_s, ev_len_r, ev_tru_b, ev_alloc, ev_tupD, ev_lstD, isi_tuple_non, isi_tuple_bl, isi_tuple_int, isi_tuple_str, isi_tuple_tup, isi_tuple_l, isi_tuple_f, isi_list_non, isi_list_bl, isi_list_int, isi_list_str, isi_list_tup, isi_list_l, isi_list_f, isi_bool_non, isi_bool_bl, isi_bool_int, isi_bool_str, isi_bool_tup, isi_bool_l, isi_bool_f, isi_int_non, isi_int_bl, isi_int_int, isi_int_str, isi_int_tup, isi_int_l, isi_int_f, isi_str_non, isi_str_bl, isi_str_int, isi_str_str, isi_str_tup, isi_str_l, isi_str_f, isi_dict_non, isi_dict_bl, isi_dict_int, isi_dict_str, isi_dict_tup, isi_dict_l, isi_dict_f, Ab.isNon, args, List.map, List.length_cons, List.length_nil, List.length_singleton, List.replicate, Nat.reduceSub, Nat.reduceAdd, Nat.zero_add, List.cons_append, List.nil_append, List.getElem?_cons_zero, List.getElem?_cons_succ, List.set_cons_zero, List.set_cons_succ, Option.some.injEq, decide_eq_true_eq, Bool.not_eq_true', decide_eq_false_iff_not, ite_true, ite_false, if_true, if_false, reduceIte, Bool.false_eq_true, Bool.not_true, Bool.not_false, Bool.true_eq_false, decide_true, decide_false, Nat.reduceLeDiff, Nat.reduceLT]
    exact ⟨.app, _, rfl, at_new⟩
  | null n =>
    intro hn m A hm
    obtain ⟨m, rfl⟩ : ∃ k, m = k + 1 := ⟨m - 1, by omega⟩
    refine sat_body rfl (sat_seq ?_)
    simp (decide := true) only [sat_ok, sat_bad, sat_bind, sat_ite, bind_ok, bind_bad, thn_nx, thn_rt, thn_bk, thn_ct, fin_rt, fin_nx, ev_v, ev_c, ev_op, ev_un, ev_nil, ev_cons, ev_tup, ev_lst, ev_call, ev_own, ev_sl, ev_no, ev_part, ev_and, ev_or, ev_not, ev_if, ev_t, ev_tb, ev_tnot, ev_tand, ev_tor, ev_mt, ev_mt0, ev_rgd, ev_set, ev_asg, ev_ret, ev_retN, ev_ex, ev_pass, ev_brk, ev_cont, ev_ifS, ev_aug, ev_gn, ev_gtp, ev_gnl, ev_gcs, ev_gsb, ev_for, ev_rg1, ev_rg2, ev_its, ev_enum, ev_lc, ev_yes, ev_add_ii, ev_add_ss, ev_add_tt, ev_add_rr, ev_sub, ev_mul, ev_mod, ev_fdiv, ev_pow, ev_neg, ev_lt, ev_le, ev_gt, ev_ge, ev_eq_ii, ev_eq_ss, ev_eq_bb, ev_ne_ii, ev_ne_ss, ev_ne_bb, ev_is_n, ev_isnt_n, ev_int_i, ev_int_b, ev_min_ii, ev_max_ii, ev_abs, ev_tup_of, ev_tup_ofL, ev_lst_ofT, ev_lst_ofL, ev_len_t, ev_len_s, ev_len_r, ev_tru_b, ev_alloc, ev_tupD, ev_lstD, isi_tuple_non, isi_tuple_bl, isi_tuple_int, isi_tuple_str, isi_tuple_tup, isi_tuple_l, isi_tuple_f, isi_list_non, isi_list_bl, isi_list_int, isi_list_str, isi_list_tup, isi_list_l, isi_list_f, isi_bool_non, isi_bool_bl, isi_bool_int, isi_bool_str, isi_bool_tup, isi_bool_l, isi_bool_f, isi_int_non, isi_int_bl, isi_int_int, isi_int_str, isi_int_tup, isi_int_l, isi_int_f, isi_str_non, isi_str_bl, isi_str_int, isi_str_str, isi_str_tup, isi_str_l, isi_str_f, isi_dict_non, isi_dict_bl, isi_dict_int, isi_dict_str, isi_dict_tup, isi_dict_l, isi_dict_f, Ab.isNon, args, List.map, List.length_cons, List.length_nil, List.length_singleton, List.replicate, Nat.reduceSub, Nat.reduceAdd, Nat.zero_add, List.cons_append, List.nil_append, List.getElem?_cons_zero, List.getElem?_cons_succ, List.set_cons_zero, List.set_cons_succ, Option.some.injEq, decide_eq_true_eq, Bool.not_eq_true', decide_eq_false_iff_not, ite_true, ite_false, if_true, if_false, reduceIte, Bool.false_eq_true, Bool.not_true, Bool.not_false, Bool.true_eq_false, decide_true, decide_false, Nat.reduceLeDiff, Nat.reduceLT, ixa]
    refine sat_seq ?_; simp only [sat_ok, sat_bad, sat_bind, sat_ite, bind_ok, bind_bad, thn_nx, thn_rt, thn_bk, thn_ct, fin_rt, fin_nx, ev_v, ev_c, ev_op, ev_un, ev_nil, ev_cons, ev_tup, ev_lst, ev_call, ev_own, ev_sl, ev_no, ev_part, ev_and, ev_or, ev_not, ev_if, ev_t, ev_tb, ev_tnot, ev_tand, ev_tor, ev_mt, ev_mt0, ev_rgd, ev_set, ev_asg, ev_ret, ev_retN, ev_ex, ev_pass, ev_brk, ev_cont, ev_ifS, ev_aug, ev_gn, ev_gtp, ev_gnl, ev_gcs, ev_gsb, ev_for, ev_rg1, ev_rg2, ev_its, ev_enum, ev_lc, ev_yes, ev_add_ii, ev_add_ss, ev_add_tt, ev_add_rr, ev_sub, ev_mul, ev_mod, ev_fdiv, ev_pow, ev_neg, ev_lt, ev_le, ev_gt, ev_ge, ev_eq_ii, ev_eq_ss, ev_eq_bb, ev_ne_ii, ev_ne_ss, ev_ne_bb, ev_is_n, ev_isnt_n, ev_int_i, ev_int_b, ev_min_ii, ev_max_ii, ev_abs, ev_tup_of, ev_tup_ofL, ev_lst_ofT, ev_lst_ofL, ev_len_t, ev_len_s, ev_len_r, ev_tru_b, ev_alloc, ev_tupD, ev_lstD, isi_tuple_non, isi_tuple_bl, isi_tuple_int, isi_tuple_str, isi_tuple_tup, isi_tuple_l, isi_tuple_f, isi_list_non, isi_list_bl, isi_list_int, isi_list_str, isi_list_tup, isi_list_l, isi_list_f, isi_bool_non, isi_bool_bl, isi_bool_int, isi_bool_str, isi_bool_tup, isi_bool_l, isi_bool_f, isi_int_non, isi_int_bl, isi_int_int, isi_int_str, isi_int_tup, isi_int_l, isi_int_f, isi_str_non, isi_str_bl, isi_str_int, isi_str_str, isi_str_tup, isi_str_l, isi_str_f, isi_dict_non, isi_dict_bl, isi_dict_int, isi_dict_str, isi_dict_tup, isi_dict_l, isi_dict_f, Ab.isNon, args, List.map, List.length_cons, List.length_nil, List.length_singleton, List.replicate, Nat.reduceSub, Nat.reduceAdd, Nat.zero_add, List.cons_append, List.nil_append, List.getElem?_cons_zero, List.getElem?_cons_succ, List.set_cons_zero, List.set_cons_succ, Option.some.injEq, decide_eq_true_eq, Bool.not_eq_true', decide_eq_false_iff_not, ite_true, ite_false, if_true, if_false, reduceIte, Bool.false_eq_true, Bool.not_true, Bool.not_false, Bool.true_eq_false, decide_true, decide_false, Nat.reduceLeDiff, Nat.reduceLT]
    refine sat_seq ?_; simp only [sat_ok, sat_bad, sat_bind, sat_ite, bind_ok, bind_bad, thn_nx, thn_rt, thn_bk, thn_ct, fin_rt, fin_nx, ev_v, ev_c, ev_op, ev_un, ev_nil, ev_cons, ev_tup, ev_lst, ev_call, ev_own, ev_sl, ev_no, ev_part, ev_and, ev_or, ev_not, ev_if, ev_t, ev_tb, ev_tnot, ev_tand, ev_tor, ev_mt, ev_mt0, ev_rgd, ev_set, ev_asg, ev_ret, ev_retN, ev_ex, ev_pass, ev_brk, ev_cont, ev_ifS, ev_aug, ev_gn, ev_gtp, ev_gnl, ev_gcs, ev_gsb, ev_for, ev_rg1, ev_rg2, ev_its, ev_enum, ev_lc, ev_yes, ev_add_ii, ev_add_ss, ev_add_tt, ev_add_rr, ev_sub, ev_mul, ev_mod, ev_fdiv, ev_pow, ev_neg, ev_lt, ev_le, ev_gt, ev_ge, ev_eq_ii, ev_eq_ss, ev_eq_bb, ev_ne_ii, ev_ne_ss, ev_ne_bb, ev_is_n, ev_isnt_n, ev_int_i, ev_int_b, ev_min_ii, ev_max_ii, ev_abs, ev_tup_of, ev_tup_ofL, ev_lst_ofT, ev_lst_ofL, ev_len_t, ev_len_s, ev_len_r, ev_tru_b, ev_alloc, ev_tupD, ev_lstD, isi_tuple_non, isi_tuple_bl, isi_tuple_int, isi_tuple_str, isi_tuple_tup, isi_tuple_l, isi_tuple_f, isi_list_non, isi_list_bl, isi_list_int, isi_list_str, isi_list_tup, isi_list_l, isi_list_f, isi_bool_non, isi_bool_bl, isi_bool_int, isi_bool_str, isi_bool_tup, isi_bool_l, isi_bool_f, isi_int_non, isi_int_bl, isi_int_int, isi_int_str, isi_int_tup, isi_int_l, isi_int_f, isi_str_non, isi_str_bl, isi_str_int, isi_str_str, isi_str_tup, isi_str_l, isi_str_f, isi_dict_non, isi_dict_bl, isi_dict_int, isi_dict_str, isi_dict_tup, isi_dict_l, isi_dict_f, Ab.isNon, args, List.map, List.length_cons, List.length_nil, List.length_singleton, List.replicate, Nat.reduceSub, Nat.reduceAdd, Nat.zero_add, List.cons_append, List.nil_append, List.getElem?_cons_zero, List.getElem?_cons_succ, List.set_cons_zero, List.set_cons_succ, Option.some.injEq, decide_eq_true_eq, Bool.not_eq_true', decide_eq_false_iff_not, ite_true, ite_false, if_true, if_false, reduceIte, Bool.false_eq_true, Bool.not_true, Bool.not_false, Bool.true_eq_false, decide_true, decide_false, Nat.reduceLeDiff, Nat.reduceLT, sl, cut1, ev_iseq_t]
    rw [loop_nil trivial]; simp only [sat_ok, sat_bad, sat_bind, sat_ite, bind_ok, bind_bad, thn_nx, thn_rt, thn_bk, thn_ct, fin_rt, fin_nx, ev_v, ev_c, ev_op, ev_un, ev_nil, ev_cons, ev_tup, ev_lst, ev_call, ev_own, ev_sl, ev_no, ev_part, ev_and, ev_or, ev_not, ev_if, ev_t, ev_tb, ev_tnot, ev_tand, ev_tor, ev_mt, ev_mt0, ev_rgd, ev_set, ev_asg, ev_ret, ev_retN, ev_ex, ev_pass, ev_brk, ev_cont, ev_ifS, ev_aug, ev_gn, ev_gtp, ev_gnl, ev_gcs, ev_gsb, ev_for, ev_rg1, ev_rg2, ev_its, ev_enum, ev_lc, ev_yes, ev_add_ii, ev_add_ss, ev_add_tt, ev_add_rr, ev_sub, ev_mul, ev_mod, ev_fdiv, ev_pow, ev_neg, ev_lt, ev_le, ev_gt, ev_ge, ev_eq_ii, ev_eq_ss, ev_eq_bb, ev_ne_ii, ev_ne_ss, ev_ne_bb, ev_is_n, ev_isnt_n, ev_int_i, ev_int_b, ev_min_ii, ev_max_ii, ev_abs, ev_tup_of, ev_tup_ofL, ev_lst_ofT, ev_lst_ofL, ev_len_t, ev_len_s, ev_len_r, ev_tru_b, ev_alloc, ev_tupD, ev_lstD, isi_tuple_non, isi_tuple_bl, isi_tuple_int, isi_tuple_str, isi_tuple_tup, isi_tuple_l, isi_tuple_f, isi_list_non, isi_list_bl, isi_list_int, isi_list_str, isi_list_tup, isi_list_l, isi_list_f, isi_bool_non, isi_bool_bl, isi_bool_int, isi_bool_str, isi_bool_tup, isi_bool_l, isi_bool_f, isi_int_non, isi_int_bl, isi_int_int, isi_int_str, isi_int_tup, isi_int_l, isi_int_f, isi_str_non, isi_str_bl, isi_str_int, isi_str_str, isi_str_tup, isi_str_l, isi_str_f, isi_dict_non, isi_dict_bl, isi_dict_int, isi_dict_str, isi_dict_tup, isi_dict_l, isi_dict_f, Ab.isNon, args, List.map, List.length_cons, List.length_nil, List.length_singleton, List.replicate, Nat.reduceSub, Nat.reduceAdd, Nat.zero_add, List.cons_append, List.nil_append, List.getElem?_cons_zero, List.getElem?_cons_succ, List.set_cons_zero, List.set_cons_succ, Option.some.injEq, decide_eq_true_eq, Bool.not_eq_true', decide_eq_false_iff_not, ite_true, ite_false, if_true, if_false, reduceIte, Bool.false_eq_true, Bool.not_true, Bool.not_false, Bool.true_eq_false, decide_true, decide_false, Nat.reduceLeDiff, Nat.reduceLT]
    exact ⟨.app, _, rfl, at_new⟩
  | name s n j x hx hj =>
    intro hn m A hm
    obtain ⟨m, rfl⟩ : ∃ k, m = k + 1 := ⟨m - 1, by omega⟩
    refine sat_body rfl (sat_seq ?_)
    simp (decide := true) only [sat_ok, sat_bad, sat_bind, sat_ite, bind_ok, bind_bad, thn_nx, thn_rt, thn_bk, thn_ct, fin_rt, fin_nx, ev_v, ev_c, ev_op, ev_un, ev_nil, ev_cons, ev_tup, ev_lst, ev_call, ev_own, ev_sl, ev_no, ev_part, ev_and, ev_or, ev_not, ev_if, ev_t, ev_tb, ev_tnot, ev_tand, ev_tor, ev_mt, ev_mt0, ev_rgd, ev_set, ev_asg, ev_ret, ev_retN, ev_ex, ev_pass, ev_brk, ev_cont, ev_ifS, ev_aug, ev_gn, ev_gtp, ev_gnl, ev_gcs, ev_gsb, ev_for, ev_rg1, ev_rg2, ev_its, ev_enum, ev_lc, ev_yes, ev_add_ii, ev_add_ss, ev_add_tt, ev_add_rr, ev_sub, ev_mul, ev_mod, ev_fdiv, ev_pow, ev_neg, ev_lt, ev_le, ev_gt, ev_ge, ev_eq_ii, ev_eq_ss, ev_eq_bb, ev_ne_ii, ev_ne_ss, ev_ne_bb, ev_is_n, ev_isnt_n, ev_int_i, ev_int_b, ev_min_ii, ev_max_ii, ev_abs, ev_tup_of, ev_tup_ofL, ev_lst_ofT, ev_lst_ofL, ev_len_t, ev_len_s, ev_len_r, ev_tru_b, ev_alloc, ev_tupD, ev_lstD, isi_tuple_non, isi_tuple_bl, isi_tuple_int, isi_tuple_str, isi_tuple_tup, isi_tuple_l, isi_tuple_f, isi_list_non, isi_list_bl, isi_list_int, isi_list_str, isi_list_tup, isi_list_l, isi_list_f, isi_bool_non, isi_bool_bl, isi_bool_int, isi_bool_str, isi_bool_tup, isi_bool_l, isi_bool_f, isi_int_non, isi_int_bl, isi_int_int, isi_int_str, isi_int_tup, isi_int_l, isi_int_f, isi_str_non, isi_str_bl, isi_str_int, isi_str_str, isi_str_tup, isi_str_l, isi_str_f, isi_dict_non, isi_dict_bl, isi_dict_int, isi_dict_str, isi_dict_tup, isi_dict_l, isi_dict_f, Ab.isNon, args, List.map, List.length_cons, List.length_nil, List.length_singleton, List.replicate, Nat.reduceSub, Nat.reduceAdd, Nat.zero_add, List.cons_append, List.nil_append, List.getElem?_cons_zero, List.getElem?_cons_succ, List.set_cons_zero, List.set_cons_succ, Option.some.injEq, decide_eq_true_eq, Bool.not_eq_true', decide_eq_false_iff_not, ite_true, ite_false, if_true, if_false, reduceIte, Bool.false_eq_true, Bool.not_true, Bool.not_false, Bool.true_eq_false, decide_true, decide_false, Nat.reduceLeDiff, Nat.reduceLT, ixa, ixb]
    exact ⟨.app, _, rfl, at_new⟩
  | neg n d vs h ih =>
    intro hn m A hm
    obtain ⟨m, rfl⟩ : ∃ k, m = k + 1 := ⟨m - 1, by omega⟩
    obtain ⟨ds, rfl⟩ := h.tup
    have few := h.few
    have : 2 ^ n ≤ 2 ^ 6 := pow_le (by omega)
    refine sat_body rfl (sat_seq ?_)
    simp (decide := true) only [sat_ok, sat_bad, sat_bind, sat_ite, bind_ok, bind_bad, thn_nx, thn_rt, thn_bk, thn_ct, fin_rt, fin_nx, ev_v, ev_c, ev_op, ev_un, ev_nil, ev_cons, ev_tup, ev_lst, ev_call, ev_own, ev_sl, ev_no, ev_part, ev_and, ev_or, ev_not, ev_if, ev_t, ev_tb, ev_tnot, ev_tand, ev_tor, ev_mt, ev_mt0, ev_rgd, ev_set, ev_asg, ev_ret, ev_retN, ev_ex, ev_pass, ev_brk, ev_cont, ev_ifS, ev_aug, ev_gn, ev_gtp, ev_gnl, ev_gcs, ev_gsb, ev_for, ev_rg1, ev_rg2, ev_its, ev_enum, ev_lc, ev_yes, ev_add_ii, ev_add_ss, ev_add_tt, ev_add_rr, ev_sub, ev_mul, ev_mod, ev_fdiv, ev_pow, ev_neg, ev_lt, ev_le, ev_gt, ev_ge, ev_eq_ii, ev_eq_ss, ev_eq_bb, ev_ne_ii, ev_ne_ss, ev_ne_bb, ev_is_n, ev_isnt_n, ev_int_i, ev_int_b, ev_min_ii, ev_max_ii, ev_abs, ev_tup_of, ev_tup_ofL, ev_lst_ofT, ev_lst_ofL, ev_len_t, ev_len_s, ev_len_r, ev_tru_b, ev_alloc, ev_tupD, ev_lstD, isi_tuple_non, isi_tuple_bl, isi_tuple_int, isi_tuple_str, isi_tuple_tup, isi_tuple_l, isi_tuple_f, isi_list_non, isi_list_bl, isi_list_int, isi_list_str, isi_list_tup, isi_list_l, isi_list_f, isi_bool_non, isi_bool_bl, isi_bool_int, isi_bool_str, isi_bool_tup, isi_bool_l, isi_bool_f, isi_int_non, isi_int_bl, isi_int_int, isi_int_str, isi_int_tup, isi_int_l, isi_int_f, isi_str_non, isi_str_bl, isi_str_int, isi_str_str, isi_str_tup, isi_str_l, isi_str_f, isi_dict_non, isi_dict_bl, isi_dict_int, isi_dict_str, isi_dict_tup, isi_dict_l, isi_dict_f, Ab.isNon, args, List.map, List.length_cons, List.length_nil, List.length_singleton, List.replicate, Nat.reduceSub, Nat.reduceAdd, Nat.zero_add, List.cons_append, List.nil_append, List.getElem?_cons_zero, List.getElem?_cons_succ, List.set_cons_zero, List.set_cons_succ, Option.some.injEq, decide_eq_true_eq, Bool.not_eq_true', decide_eq_false_iff_not, ite_true, ite_false, if_true, if_false, reduceIte, Bool.false_eq_true, Bool.not_true, Bool.not_false, Bool.true_eq_false, decide_true, decide_false, Nat.reduceLeDiff, Nat.reduceLT, ixa]
    refine sat_seq ?_; simp only [sat_ok, sat_bad, sat_bind, sat_ite, bind_ok, bind_bad, thn_nx, thn_rt, thn_bk, thn_ct, fin_rt, fin_nx, ev_v, ev_c, ev_op, ev_un, ev_nil, ev_cons, ev_tup, ev_lst, ev_call, ev_own, ev_sl, ev_no, ev_part, ev_and, ev_or, ev_not, ev_if, ev_t, ev_tb, ev_tnot, ev_tand, ev_tor, ev_mt, ev_mt0, ev_rgd, ev_set, ev_asg, ev_ret, ev_retN, ev_ex, ev_pass, ev_brk, ev_cont, ev_ifS, ev_aug, ev_gn, ev_gtp, ev_gnl, ev_gcs, ev_gsb, ev_for, ev_rg1, ev_rg2, ev_its, ev_enum, ev_lc, ev_yes, ev_add_ii, ev_add_ss, ev_add_tt, ev_add_rr, ev_sub, ev_mul, ev_mod, ev_fdiv, ev_pow, ev_neg, ev_lt, ev_le, ev_gt, ev_ge, ev_eq_ii, ev_eq_ss, ev_eq_bb, ev_ne_ii, ev_ne_ss, ev_ne_bb, ev_is_n, ev_isnt_n, ev_int_i, ev_int_b, ev_min_ii, ev_max_ii, ev_abs, ev_tup_of, ev_tup_ofL, ev_lst_ofT, ev_lst_ofL, ev_len_t, ev_len_s, ev_len_r, ev_tru_b, ev_alloc, ev_tupD, ev_lstD, isi_tuple_non, isi_tuple_bl, isi_tuple_int, isi_tuple_str, isi_tuple_tup, isi_tuple_l, isi_tuple_f, isi_list_non, isi_list_bl, isi_list_int, isi_list_str, isi_list_tup, isi_list_l, isi_list_f, isi_bool_non, isi_bool_bl, isi_bool_int, isi_bool_str, isi_bool_tup, isi_bool_l, isi_bool_f, isi_int_non, isi_int_bl, isi_int_int, isi_int_str, isi_int_tup, isi_int_l, isi_int_f, isi_str_non, isi_str_bl, isi_str_int, isi_str_str, isi_str_tup, isi_str_l, isi_str_f, isi_dict_non, isi_dict_bl, isi_dict_int, isi_dict_str, isi_dict_tup, isi_dict_l, isi_dict_f, Ab.isNon, args, List.map, List.length_cons, List.length_nil, List.length_singleton, List.replicate, Nat.reduceSub, Nat.reduceAdd, Nat.zero_add, List.cons_append, List.nil_append, List.getElem?_cons_zero, List.getElem?_cons_succ, List.set_cons_zero, List.set_cons_succ, Option.some.injEq, decide_eq_true_eq, Bool.not_eq_true', decide_eq_false_iff_not, ite_true, ite_false, if_true, if_false, reduceIte, Bool.false_eq_true, Bool.not_true, Bool.not_false, Bool.true_eq_false, decide_true, decide_false, Nat.reduceLeDiff, Nat.reduceLT]
    refine sat_seq ?_; simp only [sat_ok, sat_bad, sat_bind, sat_ite, bind_ok, bind_bad, thn_nx, thn_rt, thn_bk, thn_ct, fin_rt, fin_nx, ev_v, ev_c, ev_op, ev_un, ev_nil, ev_cons, ev_tup, ev_lst, ev_call, ev_own, ev_sl, ev_no, ev_part, ev_and, ev_or, ev_not, ev_if, ev_t, ev_tb, ev_tnot, ev_tand, ev_tor, ev_mt, ev_mt0, ev_rgd, ev_set, ev_asg, ev_ret, ev_retN, ev_ex, ev_pass, ev_brk, ev_cont, ev_ifS, ev_aug, ev_gn, ev_gtp, ev_gnl, ev_gcs, ev_gsb, ev_for, ev_rg1, ev_rg2, ev_its, ev_enum, ev_lc, ev_yes, ev_add_ii, ev_add_ss, ev_add_tt, ev_add_rr, ev_sub, ev_mul, ev_mod, ev_fdiv, ev_pow, ev_neg, ev_lt, ev_le, ev_gt, ev_ge, ev_eq_ii, ev_eq_ss, ev_eq_bb, ev_ne_ii, ev_ne_ss, ev_ne_bb, ev_is_n, ev_isnt_n, ev_int_i, ev_int_b, ev_min_ii, ev_max_ii, ev_abs, ev_tup_of, ev_tup_ofL, ev_lst_ofT, ev_lst_ofL, ev_len_t, ev_len_s, ev_len_r, ev_tru_b, ev_alloc, ev_tupD, ev_lstD, isi_tuple_non, isi_tuple_bl, isi_tuple_int, isi_tuple_str, isi_tuple_tup, isi_tuple_l, isi_tuple_f, isi_list_non, isi_list_bl, isi_list_int, isi_list_str, isi_list_tup, isi_list_l, isi_list_f, isi_bool_non, isi_bool_bl, isi_bool_int, isi_bool_str, isi_bool_tup, isi_bool_l, isi_bool_f, isi_int_non, isi_int_bl, isi_int_int, isi_int_str, isi_int_tup, isi_int_l, isi_int_f, isi_str_non, isi_str_bl, isi_str_int, isi_str_str, isi_str_tup, isi_str_l, isi_str_f, isi_dict_non, isi_dict_bl, isi_dict_int, isi_dict_str, isi_dict_tup, isi_dict_l, isi_dict_f, Ab.isNon, args, List.map, List.length_cons, List.length_nil, List.length_singleton, List.replicate, Nat.reduceSub, Nat.reduceAdd, Nat.zero_add, List.cons_append, List.nil_append, List.getElem?_cons_zero, List.getElem?_cons_succ, List.set_cons_zero, List.set_cons_succ, Option.some.injEq, decide_eq_true_eq, Bool.not_eq_true', decide_eq_false_iff_not, ite_true, ite_false, if_true, if_false, reduceIte, Bool.false_eq_true, Bool.not_true, Bool.not_false, Bool.true_eq_false, decide_true, decide_false, Nat.reduceLeDiff, Nat.reduceLT, sl, cut2, ev_iseq_t]
    rw [loop_cons trivial]; simp only [sat_ok, sat_bad, sat_bind, sat_ite, bind_ok, bind_bad, thn_nx, thn_rt, thn_bk, thn_ct, fin_rt, fin_nx, ev_v, ev_c, ev_op, ev_un, ev_nil, ev_cons, ev_tup, ev_lst, ev_call, ev_own, ev_sl, ev_no, ev_part, ev_and, ev_or, ev_not, ev_if, ev_t, ev_tb, ev_tnot, ev_tand, ev_tor, ev_mt, ev_mt0, ev_rgd, ev_set, ev_asg, ev_ret, ev_retN, ev_ex, ev_pass, ev_brk, ev_cont, ev_ifS, ev_aug, ev_gn, ev_gtp, ev_gnl, ev_gcs, ev_gsb, ev_for, ev_rg1, ev_rg2, ev_its, ev_enum, ev_lc, ev_yes, ev_add_ii, ev_add_ss, ev_add_tt, ev_add_rr, ev_sub, ev_mul, ev_mod, ev_fdiv, ev_pow, ev_neg, ev_lt, ev_le, ev_gt, ev_ge, ev_eq_ii, ev_eq_ss, ev_eq_bb, ev_ne_ii, ev_ne_ss, ev_ne_bb, ev_is_n, ev_isnt_n, ev_int_i, ev_int_b, ev_min_ii, ev_max_ii, ev_abs, ev_tup_of, ev_tup_ofL, ev_lst_ofT, ev_lst_ofL, ev_len_t, ev_len_s, ev_len_r, ev_tru_b, ev_alloc, ev_tupD, ev_lstD, isi_tuple_non, isi_tuple_bl, isi_tuple_int, isi_tuple_str, isi_tuple_tup, isi_tuple_l, isi_tuple_f, isi_list_non, isi_list_bl, isi_list_int, isi_list_str, isi_list_tup, isi_list_l, isi_list_f, isi_bool_non, isi_bool_bl, isi_bool_int, isi_bool_str, isi_bool_tup, isi_bool_l, isi_bool_f, isi_int_non, isi_int_bl, isi_int_int, isi_int_str, isi_int_tup, isi_int_l, isi_int_f, isi_str_non, isi_str_bl, isi_str_int, isi_str_str, isi_str_tup, isi_str_l, isi_str_f, isi_dict_non, isi_dict_bl, isi_dict_int, isi_dict_str, isi_dict_tup, isi_dict_l, isi_dict_f, Ab.isNon, args, List.map, List.length_cons, List.length_nil, List.length_singleton, List.replicate, Nat.reduceSub, Nat.reduceAdd, Nat.zero_add, List.cons_append, List.nil_append, List.getElem?_cons_zero, List.getElem?_cons_succ, List.set_cons_zero, List.set_cons_succ, Option.some.injEq, decide_eq_true_eq, Bool.not_eq_true', decide_eq_false_iff_not, ite_true, ite_false, if_true, if_false, reduceIte, Bool.false_eq_true, Bool.not_true, Bool.not_false, Bool.true_eq_false, decide_true, decide_false, Nat.reduceLeDiff, Nat.reduceLT]
    refine Sat.imp (ih (by omega) m _ (by omega)) fun e A1 ⟨G, r, e1, hr⟩ => ?_
    subst e1
    have h0 := G.keep _ _ (at_new (A := A) (o := .lst []))
    rw [ev_add_rr (muL_l h0) (muL_l hr) (sl_le (by simp; omega))]
    simp only [sat_ok, sat_bad, sat_bind, sat_ite, bind_ok, bind_bad, thn_nx, thn_rt, thn_bk, thn_ct, fin_rt, fin_nx, ev_v, ev_c, ev_op, ev_un, ev_nil, ev_cons, ev_tup, ev_lst, ev_call, ev_own, ev_sl, ev_no, ev_part, ev_and, ev_or, ev_not, ev_if, ev_t, ev_tb, ev_tnot, ev_tand, ev_tor, ev_mt, ev_mt0, ev_rgd, ev_set, ev_asg, ev_ret, ev_retN, ev_ex, ev_pass, ev_brk, ev_cont, ev_ifS, ev_aug, ev_gn, ev_gtp, ev_gnl, ev_gcs, ev_gsb, ev_for, ev_rg1, ev_rg2, ev_its, ev_enum, ev_lc, ev_yes, ev_add_ii, ev_add_ss, ev_add_tt, ev_add_rr, ev_sub, ev_mul, ev_mod, ev_fdiv, ev_pow, ev_neg, ev_lt, ev_le, ev_gt, ev_ge, ev_eq_ii, ev_eq_ss, ev_eq_bb, ev_ne_ii, ev_ne_ss, ev_ne_bb, ev_is_n, ev_isnt_n, ev_int_i, ev_int_b, ev_min_ii, ev_max_ii, ev_abs, ev_tup_of, ev_tup_ofL, ev_lst_ofT, ev_lst_ofL, ev_len_t, ev_len_s, ev_len_r, ev_tru_b, ev_alloc, ev_tupD, ev_lstD, isi_tuple_non, isi_tuple_bl, isi_tuple_int, isi_tuple_str, isi_tuple_tup, isi_tuple_l, isi_tuple_f, isi_list_non, isi_list_bl, isi_list_int, isi_list_str, isi_list_tup, isi_list_l, isi_list_f, isi_bool_non, isi_bool_bl, isi_bool_int, isi_bool_str, isi_bool_tup, isi_bool_l, isi_bool_f, isi_int_non, isi_int_bl, isi_int_int, isi_int_str, isi_int_tup, isi_int_l, isi_int_f, isi_str_non, isi_str_bl, isi_str_int, isi_str_str, isi_str_tup, isi_str_l, isi_str_f, isi_dict_non, isi_dict_bl, isi_dict_int, isi_dict_str, isi_dict_tup, isi_dict_l, isi_dict_f, Ab.isNon, args, List.map, List.length_cons, List.length_nil, List.length_singleton, List.replicate, Nat.reduceSub, Nat.reduceAdd, Nat.zero_add, List.cons_append, List.nil_append, List.getElem?_cons_zero, List.getElem?_cons_succ, List.set_cons_zero, List.set_cons_succ, Option.some.injEq, decide_eq_true_eq, Bool.not_eq_true', decide_eq_false_iff_not, ite_true, ite_false, if_true, if_false, reduceIte, Bool.false_eq_true, Bool.not_true, Bool.not_false, Bool.true_eq_false, decide_true, decide_false, Nat.reduceLeDiff, Nat.reduceLT, turn_]
    rw [loop_nil trivial]; simp only [sat_ok, sat_bad, sat_bind, sat_ite, bind_ok, bind_bad, thn_nx, thn_rt, thn_bk, thn_ct, fin_rt, fin_nx, ev_v, ev_c, ev_op, ev_un, ev_nil, ev_cons, ev_tup, ev_lst, ev_call, ev_own, ev_sl, ev_no, ev_part, ev_and, ev_or, ev_not, ev_if, ev_t, ev_tb, ev_tnot, ev_tand, ev_tor, ev_mt, ev_mt0, ev_rgd, ev_set, ev_asg, ev_ret, ev_retN, ev_ex, ev_pass, ev_brk, ev_cont, ev_ifS, ev_aug, ev_gn, ev_gtp, ev_gnl, ev_gcs, ev_gsb, ev_for, ev_rg1, ev_rg2, ev_its, ev_enum, ev_lc, ev_yes, ev_add_ii, ev_add_ss, ev_add_tt, ev_add_rr, ev_sub, ev_mul, ev_mod, ev_fdiv, ev_pow, ev_neg, ev_lt, ev_le, ev_gt, ev_ge, ev_eq_ii, ev_eq_ss, ev_eq_bb, ev_ne_ii, ev_ne_ss, ev_ne_bb, ev_is_n, ev_isnt_n, ev_int_i, ev_int_b, ev_min_ii, ev_max_ii, ev_abs, ev_tup_of, ev_tup_ofL, ev_lst_ofT, ev_lst_ofL, ev_len_t, ev_len_s, ev_len_r, ev_tru_b, ev_alloc, ev_tupD, ev_lstD, isi_tuple_non, isi_tuple_bl, isi_tuple_int, isi_tuple_str, isi_tuple_tup, isi_tuple_l, isi_tuple_f, isi_list_non, isi_list_bl, isi_list_int, isi_list_str, isi_list_tup, isi_list_l, isi_list_f, isi_bool_non, isi_bool_bl, isi_bool_int, isi_bool_str, isi_bool_tup, isi_bool_l, isi_bool_f, isi_int_non, isi_int_bl, isi_int_int, isi_int_str, isi_int_tup, isi_int_l, isi_int_f, isi_str_non, isi_str_bl, isi_str_int, isi_str_str, isi_str_tup, isi_str_l, isi_str_f, isi_dict_non, isi_dict_bl, isi_dict_int, isi_dict_str, isi_dict_tup, isi_dict_l, isi_dict_f, Ab.isNon, args, List.map, List.length_cons, List.length_nil, List.length_singleton, List.replicate, Nat.reduceSub, Nat.reduceAdd, Nat.zero_add, List.cons_append, List.nil_append, List.getElem?_cons_zero, List.getElem?_cons_succ, List.set_cons_zero, List.set_cons_succ, Option.some.injEq, decide_eq_true_eq, Bool.not_eq_true', decide_eq_false_iff_not, ite_true, ite_false, if_true, if_false, reduceIte, Bool.false_eq_true, Bool.not_true, Bool.not_false, Bool.true_eq_false, decide_true, decide_false, Nat.reduceLeDiff, Nat.reduceLT]
    exact ⟨Gr.app.trans (G.trans .app), _, rfl, at_new⟩
  | bin s s' n w l r vs us hw h h' ih ih' =>
    intro hn m A hm
    obtain ⟨m, rfl⟩ : ∃ k, m = k + 1 := ⟨m - 1, by omega⟩
    obtain ⟨ds, rfl⟩ := h.tup
    obtain ⟨es, rfl⟩ := h'.tup
    have few := h.few
    have few' := h'.few
    have : 2 ^ n ≤ 2 ^ 6 := pow_le (by omega)
    have nm : w ≠ "name" := by cases hw <;> decide
    refine sat_body rfl (sat_seq ?_)
    simp only [sat_ok, sat_bad, sat_bind, sat_ite, bind_ok, bind_bad, thn_nx, thn_rt, thn_bk, thn_ct, fin_rt, fin_nx, ev_v, ev_c, ev_op, ev_un, ev_nil, ev_cons, ev_tup, ev_lst, ev_call, ev_own, ev_sl, ev_no, ev_part, ev_and, ev_or, ev_not, ev_if, ev_t, ev_tb, ev_tnot, ev_tand, ev_tor, ev_mt, ev_mt0, ev_rgd, ev_set, ev_asg, ev_ret, ev_retN, ev_ex, ev_pass, ev_brk, ev_cont, ev_ifS, ev_aug, ev_gn, ev_gtp, ev_gnl, ev_gcs, ev_gsb, ev_for, ev_rg1, ev_rg2, ev_its, ev_enum, ev_lc, ev_yes, ev_add_ii, ev_add_ss, ev_add_tt, ev_add_rr, ev_sub, ev_mul, ev_mod, ev_fdiv, ev_pow, ev_neg, ev_lt, ev_le, ev_gt, ev_ge, ev_eq_ii, ev_eq_ss, ev_eq_bb, ev_ne_ii, ev_ne_ss, ev_ne_bb, ev_is_n, ev_isnt_n, ev_int_i, ev_int_b, ev_min_ii, ev_max_ii, ev_abs, ev_tup_of, ev_tup_ofL, ev_lst_ofT, ev_lst_ofL, ev_len_t, ev_len_s, ev_len_r, ev_tru_b, ev_alloc, ev_tupD, ev_lstD, isi_tuple_non, isi_tuple_bl, isi_tuple_int, isi_tuple_str, isi_tuple_tup, isi_tuple_l, isi_tuple_f, isi_list_non, isi_list_bl, isi_list_int, isi_list_str, isi_list_tup, isi_list_l, isi_list_f, isi_bool_non, isi_bool_bl, isi_bool_int, isi_bool_str, isi_bool_tup, isi_bool_l, isi_bool_f, isi_int_non, isi_int_bl, isi_int_int, isi_int_str, isi_int_tup, isi_int_l, isi_int_f, isi_str_non, isi_str_bl, isi_str_int, isi_str_str, isi_str_tup, isi_str_l, isi_str_f, isi_dict_non, isi_dict_bl, isi_dict_int, isi_dict_str, isi_dict_tup, isi_dict_l, isi_dict_f, Ab.isNon, args, List.map, List.length_cons, List.length_nil, List.length_singleton, List.replicate, Nat.reduceSub, Nat.reduceAdd, Nat.zero_add, List.cons_append, List.nil_append, List.getElem?_cons_zero, List.getElem?_cons_succ, List.set_cons_zero, List.set_cons_succ, Option.some.injEq, decide_eq_true_eq, Bool.not_eq_true', decide_eq_false_iff_not, ite_true, ite_false, if_true, if_false, reduceIte, Bool.false_eq_true, Bool.not_true, Bool.not_false, Bool.true_eq_false, decide_true, decide_false, Nat.reduceLeDiff, Nat.reduceLT, ixa, nm]
    refine sat_seq ?_; simp only [sat_ok, sat_bad, sat_bind, sat_ite, bind_ok, bind_bad, thn_nx, thn_rt, thn_bk, thn_ct, fin_rt, fin_nx, ev_v, ev_c, ev_op, ev_un, ev_nil, ev_cons, ev_tup, ev_lst, ev_call, ev_own, ev_sl, ev_no, ev_part, ev_and, ev_or, ev_not, ev_if, ev_t, ev_tb, ev_tnot, ev_tand, ev_tor, ev_mt, ev_mt0, ev_rgd, ev_set, ev_asg, ev_ret, ev_retN, ev_ex, ev_pass, ev_brk, ev_cont, ev_ifS, ev_aug, ev_gn, ev_gtp, ev_gnl, ev_gcs, ev_gsb, ev_for, ev_rg1, ev_rg2, ev_its, ev_enum, ev_lc, ev_yes, ev_add_ii, ev_add_ss, ev_add_tt, ev_add_rr, ev_sub, ev_mul, ev_mod, ev_fdiv, ev_pow, ev_neg, ev_lt, ev_le, ev_gt, ev_ge, ev_eq_ii, ev_eq_ss, ev_eq_bb, ev_ne_ii, ev_ne_ss, ev_ne_bb, ev_is_n, ev_isnt_n, ev_int_i, ev_int_b, ev_min_ii, ev_max_ii, ev_abs, ev_tup_of, ev_tup_ofL, ev_lst_ofT, ev_lst_ofL, ev_len_t, ev_len_s, ev_len_r, ev_tru_b, ev_alloc, ev_tupD, ev_lstD, isi_tuple_non, isi_tuple_bl, isi_tuple_int, isi_tuple_str, isi_tuple_tup, isi_tuple_l, isi_tuple_f, isi_list_non, isi_list_bl, isi_list_int, isi_list_str, isi_list_tup, isi_list_l, isi_list_f, isi_bool_non, isi_bool_bl, isi_bool_int, isi_bool_str, isi_bool_tup, isi_bool_l, isi_bool_f, isi_int_non, isi_int_bl, isi_int_int, isi_int_str, isi_int_tup, isi_int_l, isi_int_f, isi_str_non, isi_str_bl, isi_str_int, isi_str_str, isi_str_tup, isi_str_l, isi_str_f, isi_dict_non, isi_dict_bl, isi_dict_int, isi_dict_str, isi_dict_tup, isi_dict_l, isi_dict_f, Ab.isNon, args, List.map, List.length_cons, List.length_nil, List.length_singleton, List.replicate, Nat.reduceSub, Nat.reduceAdd, Nat.zero_add, List.cons_append, List.nil_append, List.getElem?_cons_zero, List.getElem?_cons_succ, List.set_cons_zero, List.set_cons_succ, Option.some.injEq, decide_eq_true_eq, Bool.not_eq_true', decide_eq_false_iff_not, ite_true, ite_false, if_true, if_false, reduceIte, Bool.false_eq_true, Bool.not_true, Bool.not_false, Bool.true_eq_false, decide_true, decide_false, Nat.reduceLeDiff, Nat.reduceLT]
    refine sat_seq ?_; simp only [sat_ok, sat_bad, sat_bind, sat_ite, bind_ok, bind_bad, thn_nx, thn_rt, thn_bk, thn_ct, fin_rt, fin_nx, ev_v, ev_c, ev_op, ev_un, ev_nil, ev_cons, ev_tup, ev_lst, ev_call, ev_own, ev_sl, ev_no, ev_part, ev_and, ev_or, ev_not, ev_if, ev_t, ev_tb, ev_tnot, ev_tand, ev_tor, ev_mt, ev_mt0, ev_rgd, ev_set, ev_asg, ev_ret, ev_retN, ev_ex, ev_pass, ev_brk, ev_cont, ev_ifS, ev_aug, ev_gn, ev_gtp, ev_gnl, ev_gcs, ev_gsb, ev_for, ev_rg1, ev_rg2, ev_its, ev_enum, ev_lc, ev_yes, ev_add_ii, ev_add_ss, ev_add_tt, ev_add_rr, ev_sub, ev_mul, ev_mod, ev_fdiv, ev_pow, ev_neg, ev_lt, ev_le, ev_gt, ev_ge, ev_eq_ii, ev_eq_ss, ev_eq_bb, ev_ne_ii, ev_ne_ss, ev_ne_bb, ev_is_n, ev_isnt_n, ev_int_i, ev_int_b, ev_min_ii, ev_max_ii, ev_abs, ev_tup_of, ev_tup_ofL, ev_lst_ofT, ev_lst_ofL, ev_len_t, ev_len_s, ev_len_r, ev_tru_b, ev_alloc, ev_tupD, ev_lstD, isi_tuple_non, isi_tuple_bl, isi_tuple_int, isi_tuple_str, isi_tuple_tup, isi_tuple_l, isi_tuple_f, isi_list_non, isi_list_bl, isi_list_int, isi_list_str, isi_list_tup, isi_list_l, isi_list_f, isi_bool_non, isi_bool_bl, isi_bool_int, isi_bool_str, isi_bool_tup, isi_bool_l, isi_bool_f, isi_int_non, isi_int_bl, isi_int_int, isi_int_str, isi_int_tup, isi_int_l, isi_int_f, isi_str_non, isi_str_bl, isi_str_int, isi_str_str, isi_str_tup, isi_str_l, isi_str_f, isi_dict_non, isi_dict_bl, isi_dict_int, isi_dict_str, isi_dict_tup, isi_dict_l, isi_dict_f, Ab.isNon, args, List.map, List.length_cons, List.length_nil, List.length_singleton, List.replicate, Nat.reduceSub, Nat.reduceAdd, Nat.zero_add, List.cons_append, List.nil_append, List.getElem?_cons_zero, List.getElem?_cons_succ, List.set_cons_zero, List.set_cons_succ, Option.some.injEq, decide_eq_true_eq, Bool.not_eq_true', decide_eq_false_iff_not, ite_true, ite_false, if_true, if_false, reduceIte, Bool.false_eq_true, Bool.not_true, Bool.not_false, Bool.true_eq_false, decide_true, decide_false, Nat.reduceLeDiff, Nat.reduceLT, sl, cut3, ev_iseq_t]
    rw [loop_cons trivial]; simp only [sat_ok, sat_bad, sat_bind, sat_ite, bind_ok, bind_bad, thn_nx, thn_rt, thn_bk, thn_ct, fin_rt, fin_nx, ev_v, ev_c, ev_op, ev_un, ev_nil, ev_cons, ev_tup, ev_lst, ev_call, ev_own, ev_sl, ev_no, ev_part, ev_and, ev_or, ev_not, ev_if, ev_t, ev_tb, ev_tnot, ev_tand, ev_tor, ev_mt, ev_mt0, ev_rgd, ev_set, ev_asg, ev_ret, ev_retN, ev_ex, ev_pass, ev_brk, ev_cont, ev_ifS, ev_aug, ev_gn, ev_gtp, ev_gnl, ev_gcs, ev_gsb, ev_for, ev_rg1, ev_rg2, ev_its, ev_enum, ev_lc, ev_yes, ev_add_ii, ev_add_ss, ev_add_tt, ev_add_rr, ev_sub, ev_mul, ev_mod, ev_fdiv, ev_pow, ev_neg, ev_lt, ev_le, ev_gt, ev_ge, ev_eq_ii, ev_eq_ss, ev_eq_bb, ev_ne_ii, ev_ne_ss, ev_ne_bb, ev_is_n, ev_isnt_n, ev_int_i, ev_int_b, ev_min_ii, ev_max_ii, ev_abs, ev_tup_of, ev_tup_ofL, ev_lst_ofT, ev_lst_ofL, ev_len_t, ev_len_s, ev_len_r, ev_tru_b, ev_alloc, ev_tupD, ev_lstD, isi_tuple_non, isi_tuple_bl, isi_tuple_int, isi_tuple_str, isi_tuple_tup, isi_tuple_l, isi_tuple_f, isi_list_non, isi_list_bl, isi_list_int, isi_list_str, isi_list_tup, isi_list_l, isi_list_f, isi_bool_non, isi_bool_bl, isi_bool_int, isi_bool_str, isi_bool_tup, isi_bool_l, isi_bool_f, isi_int_non, isi_int_bl, isi_int_int, isi_int_str, isi_int_tup, isi_int_l, isi_int_f, isi_str_non, isi_str_bl, isi_str_int, isi_str_str, isi_str_tup, isi_str_l, isi_str_f, isi_dict_non, isi_dict_bl, isi_dict_int, isi_dict_str, isi_dict_tup, isi_dict_l, isi_dict_f, Ab.isNon, args, List.map, List.length_cons, List.length_nil, List.length_singleton, List.replicate, Nat.reduceSub, Nat.reduceAdd, Nat.zero_add, List.cons_append, List.nil_append, List.getElem?_cons_zero, List.getElem?_cons_succ, List.set_cons_zero, List.set_cons_succ, Option.some.injEq, decide_eq_true_eq, Bool.not_eq_true', decide_eq_false_iff_not, ite_true, ite_false, if_true, if_false, reduceIte, Bool.false_eq_true, Bool.not_true, Bool.not_false, Bool.true_eq_false, decide_true, decide_false, Nat.reduceLeDiff, Nat.reduceLT]
    refine Sat.imp (ih (by omega) m _ (by omega)) fun e A1 ⟨G, r, e1, hr⟩ => ?_
    subst e1
    have h0 := G.keep _ _ (at_new (A := A) (o := .lst []))
    rw [ev_add_rr (muL_l h0) (muL_l hr) (sl_le (by simp; omega))]
    simp only [sat_ok, sat_bad, sat_bind, sat_ite, bind_ok, bind_bad, thn_nx, thn_rt, thn_bk, thn_ct, fin_rt, fin_nx, ev_v, ev_c, ev_op, ev_un, ev_nil, ev_cons, ev_tup, ev_lst, ev_call, ev_own, ev_sl, ev_no, ev_part, ev_and, ev_or, ev_not, ev_if, ev_t, ev_tb, ev_tnot, ev_tand, ev_tor, ev_mt, ev_mt0, ev_rgd, ev_set, ev_asg, ev_ret, ev_retN, ev_ex, ev_pass, ev_brk, ev_cont, ev_ifS, ev_aug, ev_gn, ev_gtp, ev_gnl, ev_gcs, ev_gsb, ev_for, ev_rg1, ev_rg2, ev_its, ev_enum, ev_lc, ev_yes, ev_add_ii, ev_add_ss, ev_add_tt, ev_add_rr, ev_sub, ev_mul, ev_mod, ev_fdiv, ev_pow, ev_neg, ev_lt, ev_le, ev_gt, ev_ge, ev_eq_ii, ev_eq_ss, ev_eq_bb, ev_ne_ii, ev_ne_ss, ev_ne_bb, ev_is_n, ev_isnt_n, ev_int_i, ev_int_b, ev_min_ii, ev_max_ii, ev_abs, ev_tup_of, ev_tup_ofL, ev_lst_ofT, ev_lst_ofL, ev_len_t, ev_len_s, ev_len_r, ev_tru_b, ev_alloc, ev_tupD, ev_lstD, isi_tuple_non, isi_tuple_bl, isi_tuple_int, isi_tuple_str, isi_tuple_tup, isi_tuple_l, isi_tuple_f, isi_list_non, isi_list_bl, isi_list_int, isi_list_str, isi_list_tup, isi_list_l, isi_list_f, isi_bool_non, isi_bool_bl, isi_bool_int, isi_bool_str, isi_bool_tup, isi_bool_l, isi_bool_f, isi_int_non, isi_int_bl, isi_int_int, isi_int_str, isi_int_tup, isi_int_l, isi_int_f, isi_str_non, isi_str_bl, isi_str_int, isi_str_str, isi_str_tup, isi_str_l, isi_str_f, isi_dict_non, isi_dict_bl, isi_dict_int, isi_dict_str, isi_dict_tup, isi_dict_l, isi_dict_f, Ab.isNon, args, List.map, List.length_cons, List.length_nil, List.length_singleton, List.replicate, Nat.reduceSub, Nat.reduceAdd, Nat.zero_add, List.cons_append, List.nil_append, List.getElem?_cons_zero, List.getElem?_cons_succ, List.set_cons_zero, List.set_cons_succ, Option.some.injEq, decide_eq_true_eq, Bool.not_eq_true', decide_eq_false_iff_not, ite_true, ite_false, if_true, if_false, reduceIte, Bool.false_eq_true, Bool.not_true, Bool.not_false, Bool.true_eq_false, decide_true, decide_false, Nat.reduceLeDiff, Nat.reduceLT, turn_]
    rw [loop_cons trivial]; simp only [sat_ok, sat_bad, sat_bind, sat_ite, bind_ok, bind_bad, thn_nx, thn_rt, thn_bk, thn_ct, fin_rt, fin_nx, ev_v, ev_c, ev_op, ev_un, ev_nil, ev_cons, ev_tup, ev_lst, ev_call, ev_own, ev_sl, ev_no, ev_part, ev_and, ev_or, ev_not, ev_if, ev_t, ev_tb, ev_tnot, ev_tand, ev_tor, ev_mt, ev_mt0, ev_rgd, ev_set, ev_asg, ev_ret, ev_retN, ev_ex, ev_pass, ev_brk, ev_cont, ev_ifS, ev_aug, ev_gn, ev_gtp, ev_gnl, ev_gcs, ev_gsb, ev_for, ev_rg1, ev_rg2, ev_its, ev_enum, ev_lc, ev_yes, ev_add_ii, ev_add_ss, ev_add_tt, ev_add_rr, ev_sub, ev_mul, ev_mod, ev_fdiv, ev_pow, ev_neg, ev_lt, ev_le, ev_gt, ev_ge, ev_eq_ii, ev_eq_ss, ev_eq_bb, ev_ne_ii, ev_ne_ss, ev_ne_bb, ev_is_n, ev_isnt_n, ev_int_i, ev_int_b, ev_min_ii, ev_max_ii, ev_abs, ev_tup_of, ev_tup_ofL, ev_lst_ofT, ev_lst_ofL, ev_len_t, ev_len_s, ev_len_r, ev_tru_b, ev_alloc, ev_tupD, ev_lstD, isi_tuple_non, isi_tuple_bl, isi_tuple_int, isi_tuple_str, isi_tuple_tup, isi_tuple_l, isi_tuple_f, isi_list_non, isi_list_bl, isi_list_int, isi_list_str, isi_list_tup, isi_list_l, isi_list_f, isi_bool_non, isi_bool_bl, isi_bool_int, isi_bool_str, isi_bool_tup, isi_bool_l, isi_bool_f, isi_int_non, isi_int_bl, isi_int_int, isi_int_str, isi_int_tup, isi_int_l, isi_int_f, isi_str_non, isi_str_bl, isi_str_int, isi_str_str, isi_str_tup, isi_str_l, isi_str_f, isi_dict_non, isi_dict_bl, isi_dict_int, isi_dict_str, isi_dict_tup, isi_dict_l, isi_dict_f, Ab.isNon, args, List.map, List.length_cons, List.length_nil, List.length_singleton, List.replicate, Nat.reduceSub, Nat.reduceAdd, Nat.zero_add, List.cons_append, List.nil_append, List.getElem?_cons_zero, List.getElem?_cons_succ, List.set_cons_zero, List.set_cons_succ, Option.some.injEq, decide_eq_true_eq, Bool.not_eq_true', decide_eq_false_iff_not, ite_true, ite_false, if_true, if_false, reduceIte, Bool.false_eq_true, Bool.not_true, Bool.not_false, Bool.true_eq_false, decide_true, decide_false, Nat.reduceLeDiff, Nat.reduceLT]
    have h1 := at_new (A := A1) (o := .lst ([] ++ vs.map D.str))
    simp only [List.nil_append] at h1 ⊢
    refine Sat.imp (ih' (by omega) m _ (by omega)) fun e A2 ⟨G2, r2, e1, hr2⟩ => ?_
    subst e1
    have h1 := G2.keep _ _ h1
    rw [ev_add_rr (muL_l h1) (muL_l hr2) (sl_le (by simp; omega))]
    simp only [sat_ok, sat_bad, sat_bind, sat_ite, bind_ok, bind_bad, thn_nx, thn_rt, thn_bk, thn_ct, fin_rt, fin_nx, ev_v, ev_c, ev_op, ev_un, ev_nil, ev_cons, ev_tup, ev_lst, ev_call, ev_own, ev_sl, ev_no, ev_part, ev_and, ev_or, ev_not, ev_if, ev_t, ev_tb, ev_tnot, ev_tand, ev_tor, ev_mt, ev_mt0, ev_rgd, ev_set, ev_asg, ev_ret, ev_retN, ev_ex, ev_pass, ev_brk, ev_cont, ev_ifS, ev_aug, ev_gn, ev_gtp, ev_gnl, ev_gcs, ev_gsb, ev_for, ev_rg1, ev_rg2, ev_its, ev_enum, ev_lc, ev_yes, ev_add_ii, ev_add_ss, ev_add_tt, ev_add_rr, ev_sub, ev_mul, ev_mod, ev_fdiv, ev_pow, ev_neg, ev_lt, ev_le, ev_gt, ev_ge, ev_eq_ii, ev_eq_ss, ev_eq_bb, ev_ne_ii, ev_ne_ss, ev_ne_bb, ev_is_n, ev_isnt_n, ev_int_i, ev_int_b, ev_min_ii, ev_max_ii, ev_abs, ev_tup_of, ev_tup_ofL, ev_lst_ofT, ev_lst_ofL, ev_len_t, ev_len_s, ev_len_r, ev_tru_b, ev_alloc, ev_tupD, ev_lstD, isi_tuple_non, isi_tuple_bl, isi_tuple_int, isi_tuple_str, isi_tuple_tup, isi_tuple_l, isi_tuple_f, isi_list_non, isi_list_bl, isi_list_int, isi_list_str, isi_list_tup, isi_list_l, isi_list_f, isi_bool_non, isi_bool_bl, isi_bool_int, isi_bool_str, isi_bool_tup, isi_bool_l, isi_bool_f, isi_int_non, isi_int_bl, isi_int_int, isi_int_str, isi_int_tup, isi_int_l, isi_int_f, isi_str_non, isi_str_bl, isi_str_int, isi_str_str, isi_str_tup, isi_str_l, isi_str_f, isi_dict_non, isi_dict_bl, isi_dict_int, isi_dict_str, isi_dict_tup, isi_dict_l, isi_dict_f, Ab.isNon, args, List.map, List.length_cons, List.length_nil, List.length_singleton, List.replicate, Nat.reduceSub, Nat.reduceAdd, Nat.zero_add, List.cons_append, List.nil_append, List.getElem?_cons_zero, List.getElem?_cons_succ, List.set_cons_zero, List.set_cons_succ, Option.some.injEq, decide_eq_true_eq, Bool.not_eq_true', decide_eq_false_iff_not, ite_true, ite_false, if_true, if_false, reduceIte, Bool.false_eq_true, Bool.not_true, Bool.not_false, Bool.true_eq_false, decide_true, decide_false, Nat.reduceLeDiff, Nat.reduceLT, turn_]
    rw [loop_nil trivial]; simp only [sat_ok, sat_bad, sat_bind, sat_ite, bind_ok, bind_bad, thn_nx, thn_rt, thn_bk, thn_ct, fin_rt, fin_nx, ev_v, ev_c, ev_op, ev_un, ev_nil, ev_cons, ev_tup, ev_lst, ev_call, ev_own, ev_sl, ev_no, ev_part, ev_and, ev_or, ev_not, ev_if, ev_t, ev_tb, ev_tnot, ev_tand, ev_tor, ev_mt, ev_mt0, ev_rgd, ev_set, ev_asg, ev_ret, ev_retN, ev_ex, ev_pass, ev_brk, ev_cont, ev_ifS, ev_aug, ev_gn, ev_gtp, ev_gnl, ev_gcs, ev_gsb, ev_for, ev_rg1, ev_rg2, ev_its, ev_enum, ev_lc, ev_yes, ev_add_ii, ev_add_ss, ev_add_tt, ev_add_rr, ev_sub, ev_mul, ev_mod, ev_fdiv, ev_pow, ev_neg, ev_lt, ev_le, ev_gt, ev_ge, ev_eq_ii, ev_eq_ss, ev_eq_bb, ev_ne_ii, ev_ne_ss, ev_ne_bb, ev_is_n, ev_isnt_n, ev_int_i, ev_int_b, ev_min_ii, ev_max_ii, ev_abs, ev_tup_of, ev_tup_ofL, ev_lst_ofT, ev_lst_ofL, ev_len_t, ev_len_s, ev_len_r, ev_tru_b, ev_alloc, ev_tupD, ev_lstD, isi_tuple_non, isi_tuple_bl, isi_tuple_int, isi_tuple_str, isi_tuple_tup, isi_tuple_l, isi_tuple_f, isi_list_non, isi_list_bl, isi_list_int, isi_list_str, isi_list_tup, isi_list_l, isi_list_f, isi_bool_non, isi_bool_bl, isi_bool_int, isi_bool_str, isi_bool_tup, isi_bool_l, isi_bool_f, isi_int_non, isi_int_bl, isi_int_int, isi_int_str, isi_int_tup, isi_int_l, isi_int_f, isi_str_non, isi_str_bl, isi_str_int, isi_str_str, isi_str_tup, isi_str_l, isi_str_f, isi_dict_non, isi_dict_bl, isi_dict_int, isi_dict_str, isi_dict_tup, isi_dict_l, isi_dict_f, Ab.isNon, args, List.map, List.length_cons, List.length_nil, List.length_singleton, List.replicate, Nat.reduceSub, Nat.reduceAdd, Nat.zero_add, List.cons_append, List.nil_append, List.getElem?_cons_zero, List.getElem?_cons_succ, List.set_cons_zero, List.set_cons_succ, Option.some.injEq, decide_eq_true_eq, Bool.not_eq_true', decide_eq_false_iff_not, ite_true, ite_false, if_true, if_false, reduceIte, Bool.false_eq_true, Bool.not_true, Bool.not_false, Bool.true_eq_false, decide_true, decide_false, Nat.reduceLeDiff, Nat.reduceLT]
    refine ⟨Gr.app.trans (G.trans (Gr.app.trans (G2.trans .app))), _, rfl, ?_⟩
    rw [List.map_append]
    exact at_new
/-! ### dicts -/
theorem getK_set (kvs : List (Key × D)) (k k' : Key) (v : D) : getK (setK kvs k v) k' = if k' = k then some v else getK kvs k' := by
  have e1 : ∀ (kvs : List (Key × D)), getK kvs k' = match kvs with | [] => none | p :: r => if p.1 = k' then some p.2 else getK r k' := fun kvs => by
    cases kvs with
    | nil => rfl
    | cons p r => by_cases h : p.1 = k' <;> simp [getK, List.find?_cons, h]
  have any : ∀ kvs : List (Key × D), (kvs.any fun kv => decide (kv.1 = k)) = false → getK (kvs ++ [(k, v)]) k' = if k' = k then some v else getK kvs k' := by
    intro kvs
    induction kvs with
    | nil => intro _; by_cases h : k' = k <;> simp [getK, List.find?_cons, h, Eq.comm]
    | cons p r ih =>
      intro ha
      rw [List.any_cons, Bool.or_eq_false_iff] at ha
      rw [List.cons_append, e1 (p :: (r ++ [(k, v)])), e1 (p :: r)]
      simp only
      rw [ih ha.2]
      by_cases h : p.1 = k'
      · have : ¬ k' = k := fun q => by simpa [h, q] using ha.1
        rw [if_pos h, if_neg this, if_pos h]
      · rw [if_neg h, if_neg h]
  have map : ∀ kvs : List (Key × D), getK (kvs.map fun kv => if kv.1 = k then (kv.1, v) else kv) k' = if k' = k then (if (kvs.any fun kv => decide (kv.1 = k)) = true then some v else none) else getK kvs k' := by
    intro kvs
    induction kvs with
    | nil => by_cases h : k' = k <;> simp [getK, h]
    | cons p r ih =>
      rw [List.map_cons, e1 ((if p.1 = k then (p.1, v) else p) :: _), e1 (p :: r)]
      simp only
      rw [ih, List.any_cons]
      by_cases h : p.1 = k
      · rw [if_pos h]
        by_cases h2 : k' = k
        · simp [h, h2]
        · simp only [h2, if_false]
          rw [if_neg (by rw [h]; exact fun q => h2 q.symm), if_neg (by rw [h]; exact fun q => h2 q.symm)]
      · rw [if_neg h]
        by_cases h2 : k' = k
        · simp only [h2, h, if_true, if_false, decide_false, Bool.false_or]
        · simp only [h2, if_false]
  unfold setK
  by_cases h : (kvs.any fun kv => decide (kv.1 = k)) = true
  · rw [if_pos h, map, if_pos h]
  · rw [if_neg h]; exact any kvs (Bool.eq_false_iff.mpr h)
theorem keys_set (kvs : List (Key × D)) (k : Key) (v : D) : (setK kvs k v).map (·.1) = if k ∈ kvs.map (·.1) then kvs.map (·.1) else kvs.map (·.1) ++ [k] := by
  have e : (kvs.any fun kv => decide (kv.1 = k)) = true ↔ k ∈ kvs.map (·.1) := by
    rw [List.any_eq_true, List.mem_map]
    exact ⟨fun ⟨p, hp, h⟩ => ⟨p, hp, of_decide_eq_true h⟩, fun ⟨p, hp, h⟩ => ⟨p, hp, decide_eq_true h⟩⟩
  unfold setK
  by_cases h : (kvs.any fun kv => decide (kv.1 = k)) = true
  · rw [if_pos h, if_pos (e.mp h), List.map_map]
    apply List.map_congr_left
    intro p _
    by_cases q : p.1 = k <;> simp [q]
  · rw [if_neg h, if_neg fun q => h (e.mpr q)]; simp
theorem mem_set {kvs : List (Key × D)} {k : Key} {v : D} {p : Key × D} (h : p ∈ setK kvs k v) : p ∈ kvs ∨ p.2 = v := by
  unfold setK at h
  split at h
  · obtain ⟨q, hq, e⟩ := List.mem_map.mp h
    split at e
    · exact .inr (by rw [← e])
    · exact .inl (by rw [← e]; exact hq)
  · rcases List.mem_append.mp h with h | h
    · exact .inl h
    · cases List.mem_singleton.mp h; exact .inr rfl
/-- a dict with keys ks (each once), plain values -/
structure Dk (kvs : List (Key × D)) (ks : List Key) : Prop where
  keys : kvs.map (·.1) = ks
  nd : ks.Nodup
  pl : ∀ p ∈ kvs, ∃ v, toV p.2 = some v
noncomputable def addKey (ks : List Key) (x : Str) : List Key := if (Sum.inr x : Key) ∈ ks then ks else ks ++ [.inr x]
theorem Dk.set {kvs : List (Key × D)} {ks : List Key} (h : Dk kvs ks) {x : Str} {d : D} {v : V} (hv : toV d = some v) : Dk (setK kvs (.inr x) d) (addKey ks x) := by
  refine ⟨by rw [keys_set, h.keys]; rfl, ?_, fun p hp => ?_⟩
  · unfold addKey
    split
    · exact h.nd
    · rename_i q
      rw [List.nodup_append]
      exact ⟨h.nd, by simp, fun a ha b hb => by cases List.mem_singleton.mp hb; exact fun e => q (e ▸ ha)⟩
  · rcases mem_set hp with q | q
    · exact h.pl p q
    · exact ⟨v, by rw [q]; exact hv⟩
theorem Dk.get {kvs : List (Key × D)} {ks : List Key} (h : Dk kvs ks) : ∀ p ∈ kvs, getK kvs p.1 = some p.2 := by
  have nd : (kvs.map (·.1)).Nodup := by rw [h.keys]; exact h.nd
  clear h
  induction kvs with
  | nil => intro p hp; cases hp
  | cons q r ih =>
    intro p hp
    rw [List.map_cons, List.nodup_cons] at nd
    rcases List.mem_cons.mp hp with e | e
    · subst e; simp [getK, List.find?_cons]
    · have : ¬ q.1 = p.1 := fun z => nd.1 (by rw [z]; exact List.mem_map.mpr ⟨p, e, rfl⟩)
      have := ih nd.2 p e
      simp [getK, List.find?_cons, *] at this ⊢
      assumption
theorem Dk.alike {kvs : List (Key × D)} {ks : List Key} (h : Dk kvs ks) : alike kvs kvs := ⟨rfl, fun p hp => by
  obtain ⟨v, hv⟩ := h.pl p hp
  exact ⟨v, hv, p.2, h.get p hp, hv⟩⟩
theorem set_mid {pre r : List (Key × D)} {k : Key} {v w : D} (h : k ∉ pre.map (·.1)) (h' : k ∉ r.map (·.1)) : setK (pre ++ (k, v) :: r) k w = pre ++ (k, w) :: r := by
  have id : ∀ l : List (Key × D), k ∉ l.map (·.1) → l.map (fun kv => if kv.1 = k then (kv.1, w) else kv) = l := fun l hl => by
    have e : l.map (fun kv => if kv.1 = k then (kv.1, w) else kv) = l.map id := List.map_congr_left fun p hp => if_neg fun e => hl (List.mem_map.mpr ⟨p, hp, e⟩)
    rw [e, List.map_id]
  unfold setK
  rw [if_pos (by simp), List.map_append, List.map_cons, id pre h, id r h', if_pos rfl]
theorem merge_same : ∀ (r1 r2 pre : List (Key × D)), r1.map (·.1) = r2.map (·.1) → ((pre ++ r1).map (·.1)).Nodup → mergeD (pre ++ r1) r2 = pre ++ r2
  | [], [], pre, _, _ => rfl
  | p :: r1, q :: r2, pre, h, nd => by
    rw [List.map_cons, List.map_cons, List.cons.injEq] at h
    obtain ⟨h1, h2⟩ := h
    rw [List.map_append, List.nodup_append, List.map_cons, List.nodup_cons] at nd
    obtain ⟨n1, ⟨n2, n3⟩, n4⟩ := nd
    have a : q.1 ∉ pre.map (·.1) := fun z => n4 _ z _ (List.mem_cons_self ..) h1.symm
    have b : q.1 ∉ r1.map (·.1) := by rw [← h1]; exact n2
    show mergeD (setK (pre ++ p :: r1) q.1 q.2) r2 = _
    have e : p = (q.1, p.2) := by rw [← h1]
    rw [e, set_mid a b]
    have := merge_same r1 r2 (pre ++ [q]) h2 (by
      rw [List.append_assoc, List.map_append, List.nodup_append]
      refine ⟨n1, (by show ((q :: r1).map (·.1)).Nodup; rw [List.map_cons, List.nodup_cons]; exact ⟨b, n3⟩), fun x hx y hy => ?_⟩
      rcases List.mem_cons.mp hy with e | e
      · rw [e]; exact fun z => a (by have z' : x = q.1 := z; rw [← z']; exact hx)
      · exact n4 x hx y (List.mem_cons_of_mem _ e))
    simpa using this
/-! ### values -/
theorem str_len (x y : Str) : (x ++ y).length = x.length + y.length := by
  show (x.cps ++ y.cps).size = x.cps.size + y.cps.size
  simp
theorem num_len {i : Int} (h : i.natAbs < 10 ^ 12) : (Str.ofString (toString i)).length ≤ 13 := by
  rw [PySem.ofString_length]
  exact int_text_length_le10 (k := 12) (by decide) h
theorem num_log {i : Int} (h : i.natAbs < 10 ^ 12) : i.natAbs.log2 < 1920 := by
  by_cases e : i.natAbs = 0
  · rw [e]; decide
  · refine (Nat.log2_lt e).mpr (Nat.lt_trans h ?_)
    exact Nat.lt_of_lt_of_le (show 10 ^ 12 < 2 ^ 50 by decide) (Nat.pow_le_pow_right (by decide) (by decide))
theorem ev_str_i {i : Int} {A : AH} (z : i.natAbs < 10 ^ 12) : strD [.int i] A = .ok (.str (toString i)) A := if_pos (num_log z)
theorem add_ss {x y : Str} {A : AH} (z : (x ++ y).length ≤ 1000000) : addD (.str x) (.str y) A = .ok (.str (x ++ y)) A := ev_add_ss (by rw [str_len] at z; exact Nat.le_trans z (by decide))
theorem st_k {n : Nat} {kvs : List (Key × D)} {x : Str} {v : D} {A : AH} (h : A[n]? = some (.dic kvs)) (z : kvs.length < 1000000) : stD (.ref n) (.str x) v A = .ok () (A.set n (.dic (setK kvs (.inr x) v))) := by
  show (match A[n]? with
    | some (.lst xs) => _
    | some (.dic kvs) => (match keyOf (.str x) with
      | some k => if kvs.length < sizeLine then Res.ok () (A.set n (.dic (setK kvs k v))) else .bad
      | none => .bad)
    | _ => _) = _
  rw [h]
  exact if_pos (Nat.lt_of_lt_of_le z (by decide))
theorem Dk.len {kvs : List (Key × D)} {ks : List Key} (h : Dk kvs ks) : kvs.length = ks.length := by rw [← h.keys, List.length_map]
theorem add_len (xs : List Str) : ∀ ks : List Key, (xs.foldl addKey ks).length ≤ ks.length + xs.length := by
  induction xs with
  | nil => intro ks; exact Nat.le_refl _
  | cons x xs ih =>
    intro ks
    have h1 := ih (addKey ks x)
    have h2 : (addKey ks x).length ≤ ks.length + 1 := by unfold addKey; split <;> simp
    rw [List.foldl_cons, List.length_cons]
    omega
theorem nd_at {ns : List Str} {x : Str} {i j : Nat} (nd : ns.Nodup) (hi : ns[i]? = some x) (hj : ns[j]? = some x) : i = j := by
  have h := (first_str (k := 0) hi nd).symm.trans (first_str (k := 0) hj nd)
  have := Option.some.inj h
  omega
theorem values_spec {s rn : Nat} {ns : List Str} {A : AH} {sx : So} {n : Nat} {d : D} {vs : List Str} (hs : Sr s A) (rs : rn ≠ s) (hr : A[rn]? = some (.lst (ns.map D.str))) (nd : ns.Nodup) (hx : Ex ns sx n d vs) (hn : n ≤ 6) :
    Sat (m__law_values [.ref s, .ref rn, d] A) fun e A' => Dr s A A' ∧ ∃ r kvs, e = .ref r ∧ r ≠ s ∧ A'[r]? = some (.dic kvs) ∧ Dk kvs (vs.foldl addKey []) ∧ Good ns kvs vs := by
  have sl := hs.lt
  have few := hx.few
  have : 2 ^ n ≤ 2 ^ 6 := pow_le hn
  refine sat_body rfl (sat_seq ?_)
  have d0 : ∀ s A, fDict0 s A = .ok (.ref A.length) (A ++ [.dic []]) := fun _ _ => rfl
  simp only [sat_ok, sat_bad, sat_bind, sat_ite, bind_ok, bind_bad, thn_nx, thn_rt, thn_bk, thn_ct, fin_rt, fin_nx, ev_v, ev_c, ev_op, ev_un, ev_nil, ev_cons, ev_tup, ev_lst, ev_call, ev_own, ev_sl, ev_no, ev_part, ev_and, ev_or, ev_not, ev_if, ev_t, ev_tb, ev_tnot, ev_tand, ev_tor, ev_mt, ev_mt0, ev_rgd, ev_set, ev_asg, ev_ret, ev_retN, ev_ex, ev_pass, ev_brk, ev_cont, ev_ifS, ev_aug, ev_gn, ev_gtp, ev_gnl, ev_gcs, ev_gsb, ev_for, ev_rg1, ev_rg2, ev_its, ev_enum, ev_lc, ev_yes, ev_add_ii, ev_add_ss, ev_add_tt, ev_add_rr, ev_sub, ev_mul, ev_mod, ev_fdiv, ev_pow, ev_neg, ev_lt, ev_le, ev_gt, ev_ge, ev_eq_ii, ev_eq_ss, ev_eq_bb, ev_ne_ii, ev_ne_ss, ev_ne_bb, ev_is_n, ev_isnt_n, ev_int_i, ev_int_b, ev_min_ii, ev_max_ii, ev_abs, ev_tup_of, ev_tup_ofL, ev_lst_ofT, ev_lst_ofL, ev_len_t, ev_len_s, ev_len_r, ev_tru_b, ev_alloc, ev_tupD, ev_lstD, isi_tuple_non, isi_tuple_bl, isi_tuple_int, isi_tuple_str, isi_tuple_tup, isi_tuple_l, isi_tuple_f, isi_list_non, isi_list_bl, isi_list_int, isi_list_str, isi_list_tup, isi_list_l, isi_list_f, isi_bool_non, isi_bool_bl, isi_bool_int, isi_bool_str, isi_bool_tup, isi_bool_l, isi_bool_f, isi_int_non, isi_int_bl, isi_int_int, isi_int_str, isi_int_tup, isi_int_l, isi_int_f, isi_str_non, isi_str_bl, isi_str_int, isi_str_str, isi_str_tup, isi_str_l, isi_str_f, isi_dict_non, isi_dict_bl, isi_dict_int, isi_dict_str, isi_dict_tup, isi_dict_l, isi_dict_f, Ab.isNon, args, List.map, List.length_cons, List.length_nil, List.length_singleton, List.replicate, Nat.reduceSub, Nat.reduceAdd, Nat.zero_add, List.cons_append, List.nil_append, List.getElem?_cons_zero, List.getElem?_cons_succ, List.set_cons_zero, List.set_cons_succ, Option.some.injEq, decide_eq_true_eq, Bool.not_eq_true', decide_eq_false_iff_not, ite_true, ite_false, if_true, if_false, reduceIte, Bool.false_eq_true, Bool.not_true, Bool.not_false, Bool.true_eq_false, decide_true, decide_false, Nat.reduceLeDiff, Nat.reduceLT, d0]
  refine sat_seq ?_
  have G1 := Gr.app (A := A) (B := [.dic []])
  have hR := at_new (A := A) (o := .dic [])
  simp only [sat_ok, sat_bad, sat_bind, sat_ite, bind_ok, bind_bad, thn_nx, thn_rt, thn_bk, thn_ct, fin_rt, fin_nx, ev_v, ev_c, ev_op, ev_un, ev_nil, ev_cons, ev_tup, ev_lst, ev_call, ev_own, ev_sl, ev_no, ev_part, ev_and, ev_or, ev_not, ev_if, ev_t, ev_tb, ev_tnot, ev_tand, ev_tor, ev_mt, ev_mt0, ev_rgd, ev_set, ev_asg, ev_ret, ev_retN, ev_ex, ev_pass, ev_brk, ev_cont, ev_ifS, ev_aug, ev_gn, ev_gtp, ev_gnl, ev_gcs, ev_gsb, ev_for, ev_rg1, ev_rg2, ev_its, ev_enum, ev_lc, ev_yes, ev_add_ii, ev_add_ss, ev_add_tt, ev_add_rr, ev_sub, ev_mul, ev_mod, ev_fdiv, ev_pow, ev_neg, ev_lt, ev_le, ev_gt, ev_ge, ev_eq_ii, ev_eq_ss, ev_eq_bb, ev_ne_ii, ev_ne_ss, ev_ne_bb, ev_is_n, ev_isnt_n, ev_int_i, ev_int_b, ev_min_ii, ev_max_ii, ev_abs, ev_tup_of, ev_tup_ofL, ev_lst_ofT, ev_lst_ofL, ev_len_t, ev_len_s, ev_len_r, ev_tru_b, ev_alloc, ev_tupD, ev_lstD, isi_tuple_non, isi_tuple_bl, isi_tuple_int, isi_tuple_str, isi_tuple_tup, isi_tuple_l, isi_tuple_f, isi_list_non, isi_list_bl, isi_list_int, isi_list_str, isi_list_tup, isi_list_l, isi_list_f, isi_bool_non, isi_bool_bl, isi_bool_int, isi_bool_str, isi_bool_tup, isi_bool_l, isi_bool_f, isi_int_non, isi_int_bl, isi_int_int, isi_int_str, isi_int_tup, isi_int_l, isi_int_f, isi_str_non, isi_str_bl, isi_str_int, isi_str_str, isi_str_tup, isi_str_l, isi_str_f, isi_dict_non, isi_dict_bl, isi_dict_int, isi_dict_str, isi_dict_tup, isi_dict_l, isi_dict_f, Ab.isNon, args, List.map, List.length_cons, List.length_nil, List.length_singleton, List.replicate, Nat.reduceSub, Nat.reduceAdd, Nat.zero_add, List.cons_append, List.nil_append, List.getElem?_cons_zero, List.getElem?_cons_succ, List.set_cons_zero, List.set_cons_succ, Option.some.injEq, decide_eq_true_eq, Bool.not_eq_true', decide_eq_false_iff_not, ite_true, ite_false, if_true, if_false, reduceIte, Bool.false_eq_true, Bool.not_true, Bool.not_false, Bool.true_eq_false, decide_true, decide_false, Nat.reduceLeDiff, Nat.reduceLT]
  refine Sat.imp (vars_spec hx hn 20 _ (by omega)) fun e A1 ⟨G2, rv, e1, hv⟩ => ?_
  subst e1
  have G := G1.trans G2
  have hR := G2.keep _ _ hR
  have D1 := G.dr hs
  have rvs : rv ≠ s := fun e => by
    obtain ⟨c, q, k, hq⟩ := D1.src
    rw [e, hq] at hv
    have hv := (AO.lst.inj (Option.some.inj hv))
    cases vs with
    | nil => cases hv
    | cons x vs => rw [List.map_cons, List.cons.injEq] at hv; exact nomatch hv.1
  rw [ev_iseq_l hv]
  simp only [sat_ok, sat_bad, sat_bind, sat_ite, bind_ok, bind_bad, thn_nx, thn_rt, thn_bk, thn_ct, fin_rt, fin_nx, ev_v, ev_c, ev_op, ev_un, ev_nil, ev_cons, ev_tup, ev_lst, ev_call, ev_own, ev_sl, ev_no, ev_part, ev_and, ev_or, ev_not, ev_if, ev_t, ev_tb, ev_tnot, ev_tand, ev_tor, ev_mt, ev_mt0, ev_rgd, ev_set, ev_asg, ev_ret, ev_retN, ev_ex, ev_pass, ev_brk, ev_cont, ev_ifS, ev_aug, ev_gn, ev_gtp, ev_gnl, ev_gcs, ev_gsb, ev_for, ev_rg1, ev_rg2, ev_its, ev_enum, ev_lc, ev_yes, ev_add_ii, ev_add_ss, ev_add_tt, ev_add_rr, ev_sub, ev_mul, ev_mod, ev_fdiv, ev_pow, ev_neg, ev_lt, ev_le, ev_gt, ev_ge, ev_eq_ii, ev_eq_ss, ev_eq_bb, ev_ne_ii, ev_ne_ss, ev_ne_bb, ev_is_n, ev_isnt_n, ev_int_i, ev_int_b, ev_min_ii, ev_max_ii, ev_abs, ev_tup_of, ev_tup_ofL, ev_lst_ofT, ev_lst_ofL, ev_len_t, ev_len_s, ev_len_r, ev_tru_b, ev_alloc, ev_tupD, ev_lstD, isi_tuple_non, isi_tuple_bl, isi_tuple_int, isi_tuple_str, isi_tuple_tup, isi_tuple_l, isi_tuple_f, isi_list_non, isi_list_bl, isi_list_int, isi_list_str, isi_list_tup, isi_list_l, isi_list_f, isi_bool_non, isi_bool_bl, isi_bool_int, isi_bool_str, isi_bool_tup, isi_bool_l, isi_bool_f, isi_int_non, isi_int_bl, isi_int_int, isi_int_str, isi_int_tup, isi_int_l, isi_int_f, isi_str_non, isi_str_bl, isi_str_int, isi_str_str, isi_str_tup, isi_str_l, isi_str_f, isi_dict_non, isi_dict_bl, isi_dict_int, isi_dict_str, isi_dict_tup, isi_dict_l, isi_dict_f, Ab.isNon, args, List.map, List.length_cons, List.length_nil, List.length_singleton, List.replicate, Nat.reduceSub, Nat.reduceAdd, Nat.zero_add, List.cons_append, List.nil_append, List.getElem?_cons_zero, List.getElem?_cons_succ, List.set_cons_zero, List.set_cons_succ, Option.some.injEq, decide_eq_true_eq, Bool.not_eq_true', decide_eq_false_iff_not, ite_true, ite_false, if_true, if_false, reduceIte, Bool.false_eq_true, Bool.not_true, Bool.not_false, Bool.true_eq_false, decide_true, decide_false, Nat.reduceLeDiff, Nat.reduceLT]
  have rR : rv ≠ A.length := fun e => by rw [e, hR] at hv; cases hv
  refine loop_inv (fun ds σ B => Dr s A B ∧ B[rv]? = some (.lst (vs.map D.str)) ∧ ∃ pre post kvs, vs = pre ++ post ∧ ds = post.map D.str ∧ B[A.length]? = some (.dic kvs) ∧ Dk kvs (pre.foldl addKey []) ∧ Good ns kvs pre ∧ ∃ y z, σ = [some (.ref s), some (.ref rn), some d, some (.ref A.length), y, z])
    (fun dd ds σ B ⟨DB, hB, pre, post, kvs, e1, e2, hK, dk, gd, y, z, hσ⟩ => ?_) (fun σ B ⟨DB, hB, pre, post, kvs, e1, e2, hK, dk, gd, y, z, hσ⟩ => ?_) _ _ _ ⟨D1, hv, [], vs, [], rfl, rfl, hR, ⟨rfl, by simp, by simp⟩, (fun x hx => by cases hx), none, none, rfl⟩
  · subst hσ
    refine ⟨rdL_l hB, ?_⟩
    cases post with
    | nil => cases e2
    | cons x post =>
      rw [List.map_cons, List.cons.injEq] at e2
      obtain ⟨e2, e3⟩ := e2
      subst e2; subst e3
      obtain ⟨s', j, hj, hat⟩ := hx.nm x (by rw [e1]; simp)
      have hrB := DB.keep _ _ rs hr
      have fin : ∀ (v : D) (w : V) (B' : AH) (z : Option D), Dr s B B' → toV v = some w → (∀ s', at_ j s' → Vl 0 s' v) →
          Sat ((stD (.ref A.length) (.str x) v B').bind fun _ A3 => Res.ok (Fl.nx [some (.ref s), some (.ref rn), some d, some (.ref A.length), some (.str x), some (.int (j : Nat))]) A3) (turn_ (fun σ B => Dr s A B ∧ B[rv]? = some (.lst (vs.map D.str)) ∧ ∃ pre post' kvs, vs = pre ++ post' ∧ post.map D.str = post'.map D.str ∧ B[A.length]? = some (.dic kvs) ∧ Dk kvs (pre.foldl addKey []) ∧ Good ns kvs pre ∧ ∃ y z, σ = [some (.ref s), some (.ref rn), some d, some (.ref A.length), y, z]) (thn_ (fRet (fV 3)) (fin_ fun e A' => Dr s A A' ∧ ∃ r kvs, e = .ref r ∧ r ≠ s ∧ A'[r]? = some (.dic kvs) ∧ Dk kvs (vs.foldl addKey []) ∧ Good ns kvs vs))) := by
        intro v w B' z dr hv hg
        have hK' := dr.keep _ _ (by omega) hK
        have l1 := add_len pre []
        have l2 := congrArg List.length e1
        rw [List.length_append, List.length_cons] at l2
        rw [st_k hK' (by rw [dk.len]; simp at l1; omega), bind_ok]
        refine ⟨(DB.trans dr).setN (Nat.le_refl _) hs, ?_, pre ++ [x], post, _, by rw [e1]; simp, rfl, at_set (at_lt hK'), ?_, ?_, _, _, rfl⟩
        · rw [List.getElem?_set_ne (Ne.symm rR)]; exact dr.keep _ _ rvs hB
        · rw [List.foldl_append]; exact dk.set hv
        · intro y hy
          rw [getK_set]
          by_cases e : y = x
          · subst e
            rw [if_pos rfl]
            exact ⟨v, rfl, fun s2 j2 h1 h2 => hg s2 (by rw [nd_at nd hj h1]; exact h2)⟩
          · rw [if_neg (fun q => e (Sum.inr.inj q))]
            rcases List.mem_append.mp hy with h | h
            · exact gd y h
            · exact (e (List.mem_singleton.mp h)).elim
      simp only [sat_ok, sat_bad, sat_bind, sat_ite, bind_ok, bind_bad, thn_nx, thn_rt, thn_bk, thn_ct, fin_rt, fin_nx, ev_v, ev_c, ev_op, ev_un, ev_nil, ev_cons, ev_tup, ev_lst, ev_call, ev_own, ev_sl, ev_no, ev_part, ev_and, ev_or, ev_not, ev_if, ev_t, ev_tb, ev_tnot, ev_tand, ev_tor, ev_mt, ev_mt0, ev_rgd, ev_set, ev_asg, ev_ret, ev_retN, ev_ex, ev_pass, ev_brk, ev_cont, ev_ifS, ev_aug, ev_gn, ev_gtp, ev_gnl, ev_gcs, ev_gsb, ev_for, ev_rg1, ev_rg2, ev_its, ev_enum, ev_lc, ev_yes, ev_add_ii, ev_add_ss, ev_add_tt, ev_add_rr, ev_sub, ev_mul, ev_mod, ev_fdiv, ev_pow, ev_neg, ev_lt, ev_le, ev_gt, ev_ge, ev_eq_ii, ev_eq_ss, ev_eq_bb, ev_ne_ii, ev_ne_ss, ev_ne_bb, ev_is_n, ev_isnt_n, ev_int_i, ev_int_b, ev_min_ii, ev_max_ii, ev_abs, ev_tup_of, ev_tup_ofL, ev_lst_ofT, ev_lst_ofL, ev_len_t, ev_len_s, ev_len_r, ev_tru_b, ev_alloc, ev_tupD, ev_lstD, isi_tuple_non, isi_tuple_bl, isi_tuple_int, isi_tuple_str, isi_tuple_tup, isi_tuple_l, isi_tuple_f, isi_list_non, isi_list_bl, isi_list_int, isi_list_str, isi_list_tup, isi_list_l, isi_list_f, isi_bool_non, isi_bool_bl, isi_bool_int, isi_bool_str, isi_bool_tup, isi_bool_l, isi_bool_f, isi_int_non, isi_int_bl, isi_int_int, isi_int_str, isi_int_tup, isi_int_l, isi_int_f, isi_str_non, isi_str_bl, isi_str_int, isi_str_str, isi_str_tup, isi_str_l, isi_str_f, isi_dict_non, isi_dict_bl, isi_dict_int, isi_dict_str, isi_dict_tup, isi_dict_l, isi_dict_f, Ab.isNon, args, List.map, List.length_cons, List.length_nil, List.length_singleton, List.replicate, Nat.reduceSub, Nat.reduceAdd, Nat.zero_add, List.cons_append, List.nil_append, List.getElem?_cons_zero, List.getElem?_cons_succ, List.set_cons_zero, List.set_cons_succ, Option.some.injEq, decide_eq_true_eq, Bool.not_eq_true', decide_eq_false_iff_not, ite_true, ite_false, if_true, if_false, reduceIte, Bool.false_eq_true, Bool.not_true, Bool.not_false, Bool.true_eq_false, decide_true, decide_false, Nat.reduceLeDiff, Nat.reduceLT, ty_l hrB, index_lst hrB hj nd]
      refine sat_seq ?_
      simp only [sat_ok, sat_bad, sat_bind, sat_ite, bind_ok, bind_bad, thn_nx, thn_rt, thn_bk, thn_ct, fin_rt, fin_nx, ev_v, ev_c, ev_op, ev_un, ev_nil, ev_cons, ev_tup, ev_lst, ev_call, ev_own, ev_sl, ev_no, ev_part, ev_and, ev_or, ev_not, ev_if, ev_t, ev_tb, ev_tnot, ev_tand, ev_tor, ev_mt, ev_mt0, ev_rgd, ev_set, ev_asg, ev_ret, ev_retN, ev_ex, ev_pass, ev_brk, ev_cont, ev_ifS, ev_aug, ev_gn, ev_gtp, ev_gnl, ev_gcs, ev_gsb, ev_for, ev_rg1, ev_rg2, ev_its, ev_enum, ev_lc, ev_yes, ev_add_ii, ev_add_ss, ev_add_tt, ev_add_rr, ev_sub, ev_mul, ev_mod, ev_fdiv, ev_pow, ev_neg, ev_lt, ev_le, ev_gt, ev_ge, ev_eq_ii, ev_eq_ss, ev_eq_bb, ev_ne_ii, ev_ne_ss, ev_ne_bb, ev_is_n, ev_isnt_n, ev_int_i, ev_int_b, ev_min_ii, ev_max_ii, ev_abs, ev_tup_of, ev_tup_ofL, ev_lst_ofT, ev_lst_ofL, ev_len_t, ev_len_s, ev_len_r, ev_tru_b, ev_alloc, ev_tupD, ev_lstD, isi_tuple_non, isi_tuple_bl, isi_tuple_int, isi_tuple_str, isi_tuple_tup, isi_tuple_l, isi_tuple_f, isi_list_non, isi_list_bl, isi_list_int, isi_list_str, isi_list_tup, isi_list_l, isi_list_f, isi_bool_non, isi_bool_bl, isi_bool_int, isi_bool_str, isi_bool_tup, isi_bool_l, isi_bool_f, isi_int_non, isi_int_bl, isi_int_int, isi_int_str, isi_int_tup, isi_int_l, isi_int_f, isi_str_non, isi_str_bl, isi_str_int, isi_str_str, isi_str_tup, isi_str_l, isi_str_f, isi_dict_non, isi_dict_bl, isi_dict_int, isi_dict_str, isi_dict_tup, isi_dict_l, isi_dict_f, Ab.isNon, args, List.map, List.length_cons, List.length_nil, List.length_singleton, List.replicate, Nat.reduceSub, Nat.reduceAdd, Nat.zero_add, List.cons_append, List.nil_append, List.getElem?_cons_zero, List.getElem?_cons_succ, List.set_cons_zero, List.set_cons_succ, Option.some.injEq, decide_eq_true_eq, Bool.not_eq_true', decide_eq_false_iff_not, ite_true, ite_false, if_true, if_false, reduceIte, Bool.false_eq_true, Bool.not_true, Bool.not_false, Bool.true_eq_false, decide_true, decide_false, Nat.reduceLeDiff, Nat.reduceLT, ty_l hrB, index_lst hrB hj nd]
      split
      · refine Sat.imp (figure_spec DB.src) fun v B' ⟨⟨i, e, hi⟩, dr⟩ => ?_
        subst e
        have z := fin (.int i) _ B' none dr rfl (fun s' h => by
          cases s' with
          | t => exact ⟨i, rfl, hi⟩
          | f => have : 3 ≤ j := h.1; omega
          | l => have : 5 ≤ j := h.1; omega)
        simp only [sat_bind, sat_ok] at z
        exact z
      split
      · refine Sat.imp (pick_pos DB.src (n := 2) (by decide) (by decide)) fun v B' ⟨⟨i, e, hi⟩, dr⟩ => ?_
        subst e
        simp only [sat_ok, sat_bad, sat_bind, sat_ite, bind_ok, bind_bad, thn_nx, thn_rt, thn_bk, thn_ct, fin_rt, fin_nx, ev_v, ev_c, ev_op, ev_un, ev_nil, ev_cons, ev_tup, ev_lst, ev_call, ev_own, ev_sl, ev_no, ev_part, ev_and, ev_or, ev_not, ev_if, ev_t, ev_tb, ev_tnot, ev_tand, ev_tor, ev_mt, ev_mt0, ev_rgd, ev_set, ev_asg, ev_ret, ev_retN, ev_ex, ev_pass, ev_brk, ev_cont, ev_ifS, ev_aug, ev_gn, ev_gtp, ev_gnl, ev_gcs, ev_gsb, ev_for, ev_rg1, ev_rg2, ev_its, ev_enum, ev_lc, ev_yes, ev_add_ii, ev_add_ss, ev_add_tt, ev_add_rr, ev_sub, ev_mul, ev_mod, ev_fdiv, ev_pow, ev_neg, ev_lt, ev_le, ev_gt, ev_ge, ev_eq_ii, ev_eq_ss, ev_eq_bb, ev_ne_ii, ev_ne_ss, ev_ne_bb, ev_is_n, ev_isnt_n, ev_int_i, ev_int_b, ev_min_ii, ev_max_ii, ev_abs, ev_tup_of, ev_tup_ofL, ev_lst_ofT, ev_lst_ofL, ev_len_t, ev_len_s, ev_len_r, ev_tru_b, ev_alloc, ev_tupD, ev_lstD, isi_tuple_non, isi_tuple_bl, isi_tuple_int, isi_tuple_str, isi_tuple_tup, isi_tuple_l, isi_tuple_f, isi_list_non, isi_list_bl, isi_list_int, isi_list_str, isi_list_tup, isi_list_l, isi_list_f, isi_bool_non, isi_bool_bl, isi_bool_int, isi_bool_str, isi_bool_tup, isi_bool_l, isi_bool_f, isi_int_non, isi_int_bl, isi_int_int, isi_int_str, isi_int_tup, isi_int_l, isi_int_f, isi_str_non, isi_str_bl, isi_str_int, isi_str_str, isi_str_tup, isi_str_l, isi_str_f, isi_dict_non, isi_dict_bl, isi_dict_int, isi_dict_str, isi_dict_tup, isi_dict_l, isi_dict_f, Ab.isNon, args, List.map, List.length_cons, List.length_nil, List.length_singleton, List.replicate, Nat.reduceSub, Nat.reduceAdd, Nat.zero_add, List.cons_append, List.nil_append, List.getElem?_cons_zero, List.getElem?_cons_succ, List.set_cons_zero, List.set_cons_succ, Option.some.injEq, decide_eq_true_eq, Bool.not_eq_true', decide_eq_false_iff_not, ite_true, ite_false, if_true, if_false, reduceIte, Bool.false_eq_true, Bool.not_true, Bool.not_false, Bool.true_eq_false, decide_true, decide_false, Nat.reduceLeDiff, Nat.reduceLT]
        have z := fin (.bl (decide (i = 1))) _ B' none dr rfl (fun s' h => by
          cases s' with
          | t => have : j < 3 := h; omega
          | f => exact ⟨_, rfl⟩
          | l => have : 5 ≤ j := h.1; omega)
        simp only [sat_bind, sat_ok] at z
        exact z
      refine Sat.imp (pick_pos DB.src (n := 300) (by decide) (by decide)) fun v B1 ⟨⟨i, e, hi, hi2⟩, dr⟩ => ?_
      subst e
      have m9 : mulOk 9 i := mulOk_l (by decide) (by decide)
      simp only [sat_ok, sat_bad, sat_bind, sat_ite, bind_ok, bind_bad, thn_nx, thn_rt, thn_bk, thn_ct, fin_rt, fin_nx, ev_v, ev_c, ev_op, ev_un, ev_nil, ev_cons, ev_tup, ev_lst, ev_call, ev_own, ev_sl, ev_no, ev_part, ev_and, ev_or, ev_not, ev_if, ev_t, ev_tb, ev_tnot, ev_tand, ev_tor, ev_mt, ev_mt0, ev_rgd, ev_set, ev_asg, ev_ret, ev_retN, ev_ex, ev_pass, ev_brk, ev_cont, ev_ifS, ev_aug, ev_gn, ev_gtp, ev_gnl, ev_gcs, ev_gsb, ev_for, ev_rg1, ev_rg2, ev_its, ev_enum, ev_lc, ev_yes, ev_add_ii, ev_add_ss, ev_add_tt, ev_add_rr, ev_sub, ev_mul, ev_mod, ev_fdiv, ev_pow, ev_neg, ev_lt, ev_le, ev_gt, ev_ge, ev_eq_ii, ev_eq_ss, ev_eq_bb, ev_ne_ii, ev_ne_ss, ev_ne_bb, ev_is_n, ev_isnt_n, ev_int_i, ev_int_b, ev_min_ii, ev_max_ii, ev_abs, ev_tup_of, ev_tup_ofL, ev_lst_ofT, ev_lst_ofL, ev_len_t, ev_len_s, ev_len_r, ev_tru_b, ev_alloc, ev_tupD, ev_lstD, isi_tuple_non, isi_tuple_bl, isi_tuple_int, isi_tuple_str, isi_tuple_tup, isi_tuple_l, isi_tuple_f, isi_list_non, isi_list_bl, isi_list_int, isi_list_str, isi_list_tup, isi_list_l, isi_list_f, isi_bool_non, isi_bool_bl, isi_bool_int, isi_bool_str, isi_bool_tup, isi_bool_l, isi_bool_f, isi_int_non, isi_int_bl, isi_int_int, isi_int_str, isi_int_tup, isi_int_l, isi_int_f, isi_str_non, isi_str_bl, isi_str_int, isi_str_str, isi_str_tup, isi_str_l, isi_str_f, isi_dict_non, isi_dict_bl, isi_dict_int, isi_dict_str, isi_dict_tup, isi_dict_l, isi_dict_f, Ab.isNon, args, List.map, List.length_cons, List.length_nil, List.length_singleton, List.replicate, Nat.reduceSub, Nat.reduceAdd, Nat.zero_add, List.cons_append, List.nil_append, List.getElem?_cons_zero, List.getElem?_cons_succ, List.set_cons_zero, List.set_cons_succ, Option.some.injEq, decide_eq_true_eq, Bool.not_eq_true', decide_eq_false_iff_not, ite_true, ite_false, if_true, if_false, reduceIte, Bool.false_eq_true, Bool.not_true, Bool.not_false, Bool.true_eq_false, decide_true, decide_false, Nat.reduceLeDiff, Nat.reduceLT, m9]
      have sl1 := dr.src.lt
      refine Sat.imp (one_lst (Dr.app dr.src _).src (by omega) at_new (by simp) (by simp)) fun v B2 ⟨hd, dr2⟩ => ?_
      have dr3 := dr.trans ((Dr.app dr.src _).trans dr2)
      obtain ⟨w, hw, hl⟩ : ∃ w, toV v = some w ∧ (v = .non ∨ ∃ i, v = .int i) := by
        simp only [List.mem_cons, List.not_mem_nil, or_false] at hd
        rcases hd with rfl | rfl | rfl | rfl | rfl | rfl
        · exact ⟨_, rfl, .inl rfl⟩
        · exact ⟨_, rfl, .inl rfl⟩
        · exact ⟨_, rfl, .inr ⟨_, rfl⟩⟩
        · exact ⟨_, rfl, .inr ⟨_, rfl⟩⟩
        · exact ⟨_, rfl, .inr ⟨_, rfl⟩⟩
        · exact ⟨_, rfl, .inr ⟨_, rfl⟩⟩
      have z := fin v w B2 none dr3 hw (fun s' h => by
        cases s' with
        | t => have : j < 3 := h; omega
        | f => have : j < 5 := h.2; omega
        | l => exact hl)
      simp only [sat_bind, sat_ok] at z
      exact z
  · subst hσ
    refine ⟨rdL_l hB, ?_⟩
    cases post with
    | cons x post => cases e2
    | nil =>
      rw [List.append_nil] at e1
      subst e1
      simp only [sat_ok, sat_bad, sat_bind, sat_ite, bind_ok, bind_bad, thn_nx, thn_rt, thn_bk, thn_ct, fin_rt, fin_nx, ev_v, ev_c, ev_op, ev_un, ev_nil, ev_cons, ev_tup, ev_lst, ev_call, ev_own, ev_sl, ev_no, ev_part, ev_and, ev_or, ev_not, ev_if, ev_t, ev_tb, ev_tnot, ev_tand, ev_tor, ev_mt, ev_mt0, ev_rgd, ev_set, ev_asg, ev_ret, ev_retN, ev_ex, ev_pass, ev_brk, ev_cont, ev_ifS, ev_aug, ev_gn, ev_gtp, ev_gnl, ev_gcs, ev_gsb, ev_for, ev_rg1, ev_rg2, ev_its, ev_enum, ev_lc, ev_yes, ev_add_ii, ev_add_ss, ev_add_tt, ev_add_rr, ev_sub, ev_mul, ev_mod, ev_fdiv, ev_pow, ev_neg, ev_lt, ev_le, ev_gt, ev_ge, ev_eq_ii, ev_eq_ss, ev_eq_bb, ev_ne_ii, ev_ne_ss, ev_ne_bb, ev_is_n, ev_isnt_n, ev_int_i, ev_int_b, ev_min_ii, ev_max_ii, ev_abs, ev_tup_of, ev_tup_ofL, ev_lst_ofT, ev_lst_ofL, ev_len_t, ev_len_s, ev_len_r, ev_tru_b, ev_alloc, ev_tupD, ev_lstD, isi_tuple_non, isi_tuple_bl, isi_tuple_int, isi_tuple_str, isi_tuple_tup, isi_tuple_l, isi_tuple_f, isi_list_non, isi_list_bl, isi_list_int, isi_list_str, isi_list_tup, isi_list_l, isi_list_f, isi_bool_non, isi_bool_bl, isi_bool_int, isi_bool_str, isi_bool_tup, isi_bool_l, isi_bool_f, isi_int_non, isi_int_bl, isi_int_int, isi_int_str, isi_int_tup, isi_int_l, isi_int_f, isi_str_non, isi_str_bl, isi_str_int, isi_str_str, isi_str_tup, isi_str_l, isi_str_f, isi_dict_non, isi_dict_bl, isi_dict_int, isi_dict_str, isi_dict_tup, isi_dict_l, isi_dict_f, Ab.isNon, args, List.map, List.length_cons, List.length_nil, List.length_singleton, List.replicate, Nat.reduceSub, Nat.reduceAdd, Nat.zero_add, List.cons_append, List.nil_append, List.getElem?_cons_zero, List.getElem?_cons_succ, List.set_cons_zero, List.set_cons_succ, Option.some.injEq, decide_eq_true_eq, Bool.not_eq_true', decide_eq_false_iff_not, ite_true, ite_false, if_true, if_false, reduceIte, Bool.false_eq_true, Bool.not_true, Bool.not_false, Bool.true_eq_false, decide_true, decide_false, Nat.reduceLeDiff, Nat.reduceLT]
      exact ⟨DB, _, kvs, rfl, by omega, hK, dk, gd⟩
/-! ### the answers -/
theorem rdK_d {r : Nat} {kvs : List (Key × D)} {A : AH} (h : A[r]? = some (.dic kvs)) : rdK A (.ref r) = some kvs := by simp only [rdK, h]
theorem ne_like {p q : Nat} {ks : List (Key × D)} {kk : List Key} {A : AH} (hp : A[p]? = some (.dic ks)) (hq : A[q]? = some (.dic ks)) (h : Dk ks kk) : neX (.ref p) (.ref q) A = .ok (.bl false) A := by
  unfold neX
  rw [rdK_d hp, rdK_d hq]
  exact if_pos h.alike
theorem eq_like {p q : Nat} {ks : List (Key × D)} {kk : List Key} {A : AH} (hp : A[p]? = some (.dic ks)) (hq : A[q]? = some (.dic ks)) (h : Dk ks kk) : eqX (.ref p) (.ref q) A = .ok (.bl true) A := by
  unfold eqX
  rw [rdK_d hp, rdK_d hq]
  exact if_pos h.alike
theorem dic_of {p : Nat} {ks : List (Key × D)} {A : AH} (hp : A[p]? = some (.dic ks)) : dicOf [.ref p] A = .ok (.ref A.length) (A ++ [.dic ks]) := by
  show (match rdK A (.ref p) with
    | some kvs => Ab.alloc (.dic kvs) A
    | none => .bad) = _
  rw [rdK_d hp]; rfl
theorem upd_of {p q : Nat} {ks ls : List (Key × D)} {A : AH} (hp : A[p]? = some (.dic ks)) (hq : A[q]? = some (.dic ls)) (hne : p ≠ q) (z : ks.length + ls.length ≤ 100000) : updateD (.ref p) [.ref q] A = .ok .non (A.set p (.dic (mergeD ks ls))) := by
  show (match A[p]?, A[q]? with
    | some (.dic ks), some (.dic ls) => if p ≠ q ∧ ks.length + ls.length ≤ sizeLine then Res.ok D.non (A.set p (.dic (mergeD ks ls))) else .bad
    | _, _ => .bad) = _
  rw [hp, hq]
  exact if_pos ⟨hne, Nat.le_trans z (by decide)⟩
theorem Vl.same {n : Nat} {s : So} {v : D} {A : AH} (h : Vl n s v) : m__law_same 20 [v, v] A = .ok (.bl true) A := by
  refine same_refl 19 v A ?_
  cases s with
  | t => obtain ⟨i, rfl, _⟩ := h; trivial
  | f => obtain ⟨i, rfl⟩ := h; trivial
  | l => rcases h with rfl | ⟨i, rfl⟩ <;> trivial
theorem agrees_spec {ns : List Str} {sx : So} {n : Nat} {d : D} {vs : List Str} {A : AH} {r1 r2 : Nat} {k1 k2 : List (Key × D)} (hx : Ex ns sx n d vs) (hn : n ≤ 6) (h1 : A[r1]? = some (.dic k1)) (h2 : A[r2]? = some (.dic k2))
    (d1 : Dk k1 (vs.foldl addKey [])) (d2 : Dk k2 (vs.foldl addKey [])) (g1 : Good ns k1 vs) (g2 : Good ns k2 vs) : Sat (m__law_agrees [d, .ref r1, .ref r2] A) fun e A' => e = .bl true ∧ Gr A A' := by
  obtain ⟨v1, l1, e1⟩ := eval_spec hx hn g1
  obtain ⟨v2, l2, e2⟩ := eval_spec hx hn g2
  have few := hx.few
  have : 2 ^ n ≤ 2 ^ 6 := pow_le hn
  have q1 := add_len vs []
  refine sat_body rfl (sat_seq ?_)
  simp only [sat_ok, sat_bad, sat_bind, sat_ite, bind_ok, bind_bad, thn_nx, thn_rt, thn_bk, thn_ct, fin_rt, fin_nx, ev_v, ev_c, ev_op, ev_un, ev_nil, ev_cons, ev_tup, ev_lst, ev_call, ev_own, ev_sl, ev_no, ev_part, ev_and, ev_or, ev_not, ev_if, ev_t, ev_tb, ev_tnot, ev_tand, ev_tor, ev_mt, ev_mt0, ev_rgd, ev_set, ev_asg, ev_ret, ev_retN, ev_ex, ev_pass, ev_brk, ev_cont, ev_ifS, ev_aug, ev_gn, ev_gtp, ev_gnl, ev_gcs, ev_gsb, ev_for, ev_rg1, ev_rg2, ev_its, ev_enum, ev_lc, ev_yes, ev_add_ii, ev_add_ss, ev_add_tt, ev_add_rr, ev_sub, ev_mul, ev_mod, ev_fdiv, ev_pow, ev_neg, ev_lt, ev_le, ev_gt, ev_ge, ev_eq_ii, ev_eq_ss, ev_eq_bb, ev_ne_ii, ev_ne_ss, ev_ne_bb, ev_is_n, ev_isnt_n, ev_int_i, ev_int_b, ev_min_ii, ev_max_ii, ev_abs, ev_tup_of, ev_tup_ofL, ev_lst_ofT, ev_lst_ofL, ev_len_t, ev_len_s, ev_len_r, ev_tru_b, ev_alloc, ev_tupD, ev_lstD, isi_tuple_non, isi_tuple_bl, isi_tuple_int, isi_tuple_str, isi_tuple_tup, isi_tuple_l, isi_tuple_f, isi_list_non, isi_list_bl, isi_list_int, isi_list_str, isi_list_tup, isi_list_l, isi_list_f, isi_bool_non, isi_bool_bl, isi_bool_int, isi_bool_str, isi_bool_tup, isi_bool_l, isi_bool_f, isi_int_non, isi_int_bl, isi_int_int, isi_int_str, isi_int_tup, isi_int_l, isi_int_f, isi_str_non, isi_str_bl, isi_str_int, isi_str_str, isi_str_tup, isi_str_l, isi_str_f, isi_dict_non, isi_dict_bl, isi_dict_int, isi_dict_str, isi_dict_tup, isi_dict_l, isi_dict_f, Ab.isNon, args, List.map, List.length_cons, List.length_nil, List.length_singleton, List.replicate, Nat.reduceSub, Nat.reduceAdd, Nat.zero_add, List.cons_append, List.nil_append, List.getElem?_cons_zero, List.getElem?_cons_succ, List.set_cons_zero, List.set_cons_succ, Option.some.injEq, decide_eq_true_eq, Bool.not_eq_true', decide_eq_false_iff_not, ite_true, ite_false, if_true, if_false, reduceIte, Bool.false_eq_true, Bool.not_true, Bool.not_false, Bool.true_eq_false, decide_true, decide_false, Nat.reduceLeDiff, Nat.reduceLT]
  refine Sat.imp (e1 20 (by omega) r1 A h1).2 fun e A1 ⟨ev, G⟩ => ?_
  subst ev
  have h1 := G.keep _ _ h1
  have h2 := G.keep _ _ h2
  refine sat_seq ?_
  simp only [sat_ok, sat_bad, sat_bind, sat_ite, bind_ok, bind_bad, thn_nx, thn_rt, thn_bk, thn_ct, fin_rt, fin_nx, ev_v, ev_c, ev_op, ev_un, ev_nil, ev_cons, ev_tup, ev_lst, ev_call, ev_own, ev_sl, ev_no, ev_part, ev_and, ev_or, ev_not, ev_if, ev_t, ev_tb, ev_tnot, ev_tand, ev_tor, ev_mt, ev_mt0, ev_rgd, ev_set, ev_asg, ev_ret, ev_retN, ev_ex, ev_pass, ev_brk, ev_cont, ev_ifS, ev_aug, ev_gn, ev_gtp, ev_gnl, ev_gcs, ev_gsb, ev_for, ev_rg1, ev_rg2, ev_its, ev_enum, ev_lc, ev_yes, ev_add_ii, ev_add_ss, ev_add_tt, ev_add_rr, ev_sub, ev_mul, ev_mod, ev_fdiv, ev_pow, ev_neg, ev_lt, ev_le, ev_gt, ev_ge, ev_eq_ii, ev_eq_ss, ev_eq_bb, ev_ne_ii, ev_ne_ss, ev_ne_bb, ev_is_n, ev_isnt_n, ev_int_i, ev_int_b, ev_min_ii, ev_max_ii, ev_abs, ev_tup_of, ev_tup_ofL, ev_lst_ofT, ev_lst_ofL, ev_len_t, ev_len_s, ev_len_r, ev_tru_b, ev_alloc, ev_tupD, ev_lstD, isi_tuple_non, isi_tuple_bl, isi_tuple_int, isi_tuple_str, isi_tuple_tup, isi_tuple_l, isi_tuple_f, isi_list_non, isi_list_bl, isi_list_int, isi_list_str, isi_list_tup, isi_list_l, isi_list_f, isi_bool_non, isi_bool_bl, isi_bool_int, isi_bool_str, isi_bool_tup, isi_bool_l, isi_bool_f, isi_int_non, isi_int_bl, isi_int_int, isi_int_str, isi_int_tup, isi_int_l, isi_int_f, isi_str_non, isi_str_bl, isi_str_int, isi_str_str, isi_str_tup, isi_str_l, isi_str_f, isi_dict_non, isi_dict_bl, isi_dict_int, isi_dict_str, isi_dict_tup, isi_dict_l, isi_dict_f, Ab.isNon, args, List.map, List.length_cons, List.length_nil, List.length_singleton, List.replicate, Nat.reduceSub, Nat.reduceAdd, Nat.zero_add, List.cons_append, List.nil_append, List.getElem?_cons_zero, List.getElem?_cons_succ, List.set_cons_zero, List.set_cons_succ, Option.some.injEq, decide_eq_true_eq, Bool.not_eq_true', decide_eq_false_iff_not, ite_true, ite_false, if_true, if_false, reduceIte, Bool.false_eq_true, Bool.not_true, Bool.not_false, Bool.true_eq_false, decide_true, decide_false, Nat.reduceLeDiff, Nat.reduceLT]
  refine Sat.imp (e2 20 (by omega) r2 A1 h2).2 fun e A2 ⟨ev, G2⟩ => ?_
  subst ev
  have h1 := G2.keep _ _ h1
  have h2 := G2.keep _ _ h2
  have G := G.trans G2
  refine sat_seq ?_
  simp only [sat_ok, sat_bad, sat_bind, sat_ite, bind_ok, bind_bad, thn_nx, thn_rt, thn_bk, thn_ct, fin_rt, fin_nx, ev_v, ev_c, ev_op, ev_un, ev_nil, ev_cons, ev_tup, ev_lst, ev_call, ev_own, ev_sl, ev_no, ev_part, ev_and, ev_or, ev_not, ev_if, ev_t, ev_tb, ev_tnot, ev_tand, ev_tor, ev_mt, ev_mt0, ev_rgd, ev_set, ev_asg, ev_ret, ev_retN, ev_ex, ev_pass, ev_brk, ev_cont, ev_ifS, ev_aug, ev_gn, ev_gtp, ev_gnl, ev_gcs, ev_gsb, ev_for, ev_rg1, ev_rg2, ev_its, ev_enum, ev_lc, ev_yes, ev_add_ii, ev_add_ss, ev_add_tt, ev_add_rr, ev_sub, ev_mul, ev_mod, ev_fdiv, ev_pow, ev_neg, ev_lt, ev_le, ev_gt, ev_ge, ev_eq_ii, ev_eq_ss, ev_eq_bb, ev_ne_ii, ev_ne_ss, ev_ne_bb, ev_is_n, ev_isnt_n, ev_int_i, ev_int_b, ev_min_ii, ev_max_ii, ev_abs, ev_tup_of, ev_tup_ofL, ev_lst_ofT, ev_lst_ofL, ev_len_t, ev_len_s, ev_len_r, ev_tru_b, ev_alloc, ev_tupD, ev_lstD, isi_tuple_non, isi_tuple_bl, isi_tuple_int, isi_tuple_str, isi_tuple_tup, isi_tuple_l, isi_tuple_f, isi_list_non, isi_list_bl, isi_list_int, isi_list_str, isi_list_tup, isi_list_l, isi_list_f, isi_bool_non, isi_bool_bl, isi_bool_int, isi_bool_str, isi_bool_tup, isi_bool_l, isi_bool_f, isi_int_non, isi_int_bl, isi_int_int, isi_int_str, isi_int_tup, isi_int_l, isi_int_f, isi_str_non, isi_str_bl, isi_str_int, isi_str_str, isi_str_tup, isi_str_l, isi_str_f, isi_dict_non, isi_dict_bl, isi_dict_int, isi_dict_str, isi_dict_tup, isi_dict_l, isi_dict_f, Ab.isNon, args, List.map, List.length_cons, List.length_nil, List.length_singleton, List.replicate, Nat.reduceSub, Nat.reduceAdd, Nat.zero_add, List.cons_append, List.nil_append, List.getElem?_cons_zero, List.getElem?_cons_succ, List.set_cons_zero, List.set_cons_succ, Option.some.injEq, decide_eq_true_eq, Bool.not_eq_true', decide_eq_false_iff_not, ite_true, ite_false, if_true, if_false, reduceIte, Bool.false_eq_true, Bool.not_true, Bool.not_false, Bool.true_eq_false, decide_true, decide_false, Nat.reduceLeDiff, Nat.reduceLT, dic_of h1]
  have hp := at_new (A := A2) (o := .dic k1)
  have pr2 : A2.length ≠ r2 := by have := at_lt h2; omega
  have G3 := Gr.app (A := A2) (B := [.dic k1])
  have h1 := G3.keep _ _ h1
  have h2 := G3.keep _ _ h2
  have G := G.trans G3
  have lp : A.length ≤ A2.length := by have := G.le; have := (Gr.trans (A := A) (B := A2) (C := A2) (by assumption) .refl).le; omega
  generalize A2 ++ [AO.dic k1] = A3 at hp h1 h2 G ⊢
  generalize A2.length = p at hp pr2 lp ⊢
  refine sat_seq ?_
  simp only [sat_ok, sat_bad, sat_bind, sat_ite, bind_ok, bind_bad, thn_nx, thn_rt, thn_bk, thn_ct, fin_rt, fin_nx, ev_v, ev_c, ev_op, ev_un, ev_nil, ev_cons, ev_tup, ev_lst, ev_call, ev_own, ev_sl, ev_no, ev_part, ev_and, ev_or, ev_not, ev_if, ev_t, ev_tb, ev_tnot, ev_tand, ev_tor, ev_mt, ev_mt0, ev_rgd, ev_set, ev_asg, ev_ret, ev_retN, ev_ex, ev_pass, ev_brk, ev_cont, ev_ifS, ev_aug, ev_gn, ev_gtp, ev_gnl, ev_gcs, ev_gsb, ev_for, ev_rg1, ev_rg2, ev_its, ev_enum, ev_lc, ev_yes, ev_add_ii, ev_add_ss, ev_add_tt, ev_add_rr, ev_sub, ev_mul, ev_mod, ev_fdiv, ev_pow, ev_neg, ev_lt, ev_le, ev_gt, ev_ge, ev_eq_ii, ev_eq_ss, ev_eq_bb, ev_ne_ii, ev_ne_ss, ev_ne_bb, ev_is_n, ev_isnt_n, ev_int_i, ev_int_b, ev_min_ii, ev_max_ii, ev_abs, ev_tup_of, ev_tup_ofL, ev_lst_ofT, ev_lst_ofL, ev_len_t, ev_len_s, ev_len_r, ev_tru_b, ev_alloc, ev_tupD, ev_lstD, isi_tuple_non, isi_tuple_bl, isi_tuple_int, isi_tuple_str, isi_tuple_tup, isi_tuple_l, isi_tuple_f, isi_list_non, isi_list_bl, isi_list_int, isi_list_str, isi_list_tup, isi_list_l, isi_list_f, isi_bool_non, isi_bool_bl, isi_bool_int, isi_bool_str, isi_bool_tup, isi_bool_l, isi_bool_f, isi_int_non, isi_int_bl, isi_int_int, isi_int_str, isi_int_tup, isi_int_l, isi_int_f, isi_str_non, isi_str_bl, isi_str_int, isi_str_str, isi_str_tup, isi_str_l, isi_str_f, isi_dict_non, isi_dict_bl, isi_dict_int, isi_dict_str, isi_dict_tup, isi_dict_l, isi_dict_f, Ab.isNon, args, List.map, List.length_cons, List.length_nil, List.length_singleton, List.replicate, Nat.reduceSub, Nat.reduceAdd, Nat.zero_add, List.cons_append, List.nil_append, List.getElem?_cons_zero, List.getElem?_cons_succ, List.set_cons_zero, List.set_cons_succ, Option.some.injEq, decide_eq_true_eq, Bool.not_eq_true', decide_eq_false_iff_not, ite_true, ite_false, if_true, if_false, reduceIte, Bool.false_eq_true, Bool.not_true, Bool.not_false, Bool.true_eq_false, decide_true, decide_false, Nat.reduceLeDiff, Nat.reduceLT, (e1 20 (by omega) p A3 hp).1, l1.same, ne_like hp h1 d1]
  refine sat_seq ?_
  simp only [sat_ok, sat_bad, sat_bind, sat_ite, bind_ok, bind_bad, thn_nx, thn_rt, thn_bk, thn_ct, fin_rt, fin_nx, ev_v, ev_c, ev_op, ev_un, ev_nil, ev_cons, ev_tup, ev_lst, ev_call, ev_own, ev_sl, ev_no, ev_part, ev_and, ev_or, ev_not, ev_if, ev_t, ev_tb, ev_tnot, ev_tand, ev_tor, ev_mt, ev_mt0, ev_rgd, ev_set, ev_asg, ev_ret, ev_retN, ev_ex, ev_pass, ev_brk, ev_cont, ev_ifS, ev_aug, ev_gn, ev_gtp, ev_gnl, ev_gcs, ev_gsb, ev_for, ev_rg1, ev_rg2, ev_its, ev_enum, ev_lc, ev_yes, ev_add_ii, ev_add_ss, ev_add_tt, ev_add_rr, ev_sub, ev_mul, ev_mod, ev_fdiv, ev_pow, ev_neg, ev_lt, ev_le, ev_gt, ev_ge, ev_eq_ii, ev_eq_ss, ev_eq_bb, ev_ne_ii, ev_ne_ss, ev_ne_bb, ev_is_n, ev_isnt_n, ev_int_i, ev_int_b, ev_min_ii, ev_max_ii, ev_abs, ev_tup_of, ev_tup_ofL, ev_lst_ofT, ev_lst_ofL, ev_len_t, ev_len_s, ev_len_r, ev_tru_b, ev_alloc, ev_tupD, ev_lstD, isi_tuple_non, isi_tuple_bl, isi_tuple_int, isi_tuple_str, isi_tuple_tup, isi_tuple_l, isi_tuple_f, isi_list_non, isi_list_bl, isi_list_int, isi_list_str, isi_list_tup, isi_list_l, isi_list_f, isi_bool_non, isi_bool_bl, isi_bool_int, isi_bool_str, isi_bool_tup, isi_bool_l, isi_bool_f, isi_int_non, isi_int_bl, isi_int_int, isi_int_str, isi_int_tup, isi_int_l, isi_int_f, isi_str_non, isi_str_bl, isi_str_int, isi_str_str, isi_str_tup, isi_str_l, isi_str_f, isi_dict_non, isi_dict_bl, isi_dict_int, isi_dict_str, isi_dict_tup, isi_dict_l, isi_dict_f, Ab.isNon, args, List.map, List.length_cons, List.length_nil, List.length_singleton, List.replicate, Nat.reduceSub, Nat.reduceAdd, Nat.zero_add, List.cons_append, List.nil_append, List.getElem?_cons_zero, List.getElem?_cons_succ, List.set_cons_zero, List.set_cons_succ, Option.some.injEq, decide_eq_true_eq, Bool.not_eq_true', decide_eq_false_iff_not, ite_true, ite_false, if_true, if_false, reduceIte, Bool.false_eq_true, Bool.not_true, Bool.not_false, Bool.true_eq_false, decide_true, decide_false, Nat.reduceLeDiff, Nat.reduceLT, dic_of h2]
  have hq := at_new (A := A3) (o := .dic k2)
  have G4 := Gr.app (A := A3) (B := [.dic k2])
  have hp := G4.keep _ _ hp
  have h1 := G4.keep _ _ h1
  have h2 := G4.keep _ _ h2
  have G := G.trans G4
  simp only [sat_ok, sat_bad, sat_bind, sat_ite, bind_ok, bind_bad, thn_nx, thn_rt, thn_bk, thn_ct, fin_rt, fin_nx, ev_v, ev_c, ev_op, ev_un, ev_nil, ev_cons, ev_tup, ev_lst, ev_call, ev_own, ev_sl, ev_no, ev_part, ev_and, ev_or, ev_not, ev_if, ev_t, ev_tb, ev_tnot, ev_tand, ev_tor, ev_mt, ev_mt0, ev_rgd, ev_set, ev_asg, ev_ret, ev_retN, ev_ex, ev_pass, ev_brk, ev_cont, ev_ifS, ev_aug, ev_gn, ev_gtp, ev_gnl, ev_gcs, ev_gsb, ev_for, ev_rg1, ev_rg2, ev_its, ev_enum, ev_lc, ev_yes, ev_add_ii, ev_add_ss, ev_add_tt, ev_add_rr, ev_sub, ev_mul, ev_mod, ev_fdiv, ev_pow, ev_neg, ev_lt, ev_le, ev_gt, ev_ge, ev_eq_ii, ev_eq_ss, ev_eq_bb, ev_ne_ii, ev_ne_ss, ev_ne_bb, ev_is_n, ev_isnt_n, ev_int_i, ev_int_b, ev_min_ii, ev_max_ii, ev_abs, ev_tup_of, ev_tup_ofL, ev_lst_ofT, ev_lst_ofL, ev_len_t, ev_len_s, ev_len_r, ev_tru_b, ev_alloc, ev_tupD, ev_lstD, isi_tuple_non, isi_tuple_bl, isi_tuple_int, isi_tuple_str, isi_tuple_tup, isi_tuple_l, isi_tuple_f, isi_list_non, isi_list_bl, isi_list_int, isi_list_str, isi_list_tup, isi_list_l, isi_list_f, isi_bool_non, isi_bool_bl, isi_bool_int, isi_bool_str, isi_bool_tup, isi_bool_l, isi_bool_f, isi_int_non, isi_int_bl, isi_int_int, isi_int_str, isi_int_tup, isi_int_l, isi_int_f, isi_str_non, isi_str_bl, isi_str_int, isi_str_str, isi_str_tup, isi_str_l, isi_str_f, isi_dict_non, isi_dict_bl, isi_dict_int, isi_dict_str, isi_dict_tup, isi_dict_l, isi_dict_f, Ab.isNon, args, List.map, List.length_cons, List.length_nil, List.length_singleton, List.replicate, Nat.reduceSub, Nat.reduceAdd, Nat.zero_add, List.cons_append, List.nil_append, List.getElem?_cons_zero, List.getElem?_cons_succ, List.set_cons_zero, List.set_cons_succ, Option.some.injEq, decide_eq_true_eq, Bool.not_eq_true', decide_eq_false_iff_not, ite_true, ite_false, if_true, if_false, reduceIte, Bool.false_eq_true, Bool.not_true, Bool.not_false, Bool.true_eq_false, decide_true, decide_false, Nat.reduceLeDiff, Nat.reduceLT, (e2 20 (by omega) A3.length _ hq).1, l2.same]
  generalize A3 ++ [AO.dic k2] = A4 at hp h1 h2 G ⊢
  refine sat_seq ?_
  simp only [sat_ok, sat_bad, sat_bind, sat_ite, bind_ok, bind_bad, thn_nx, thn_rt, thn_bk, thn_ct, fin_rt, fin_nx, ev_v, ev_c, ev_op, ev_un, ev_nil, ev_cons, ev_tup, ev_lst, ev_call, ev_own, ev_sl, ev_no, ev_part, ev_and, ev_or, ev_not, ev_if, ev_t, ev_tb, ev_tnot, ev_tand, ev_tor, ev_mt, ev_mt0, ev_rgd, ev_set, ev_asg, ev_ret, ev_retN, ev_ex, ev_pass, ev_brk, ev_cont, ev_ifS, ev_aug, ev_gn, ev_gtp, ev_gnl, ev_gcs, ev_gsb, ev_for, ev_rg1, ev_rg2, ev_its, ev_enum, ev_lc, ev_yes, ev_add_ii, ev_add_ss, ev_add_tt, ev_add_rr, ev_sub, ev_mul, ev_mod, ev_fdiv, ev_pow, ev_neg, ev_lt, ev_le, ev_gt, ev_ge, ev_eq_ii, ev_eq_ss, ev_eq_bb, ev_ne_ii, ev_ne_ss, ev_ne_bb, ev_is_n, ev_isnt_n, ev_int_i, ev_int_b, ev_min_ii, ev_max_ii, ev_abs, ev_tup_of, ev_tup_ofL, ev_lst_ofT, ev_lst_ofL, ev_len_t, ev_len_s, ev_len_r, ev_tru_b, ev_alloc, ev_tupD, ev_lstD, isi_tuple_non, isi_tuple_bl, isi_tuple_int, isi_tuple_str, isi_tuple_tup, isi_tuple_l, isi_tuple_f, isi_list_non, isi_list_bl, isi_list_int, isi_list_str, isi_list_tup, isi_list_l, isi_list_f, isi_bool_non, isi_bool_bl, isi_bool_int, isi_bool_str, isi_bool_tup, isi_bool_l, isi_bool_f, isi_int_non, isi_int_bl, isi_int_int, isi_int_str, isi_int_tup, isi_int_l, isi_int_f, isi_str_non, isi_str_bl, isi_str_int, isi_str_str, isi_str_tup, isi_str_l, isi_str_f, isi_dict_non, isi_dict_bl, isi_dict_int, isi_dict_str, isi_dict_tup, isi_dict_l, isi_dict_f, Ab.isNon, args, List.map, List.length_cons, List.length_nil, List.length_singleton, List.replicate, Nat.reduceSub, Nat.reduceAdd, Nat.zero_add, List.cons_append, List.nil_append, List.getElem?_cons_zero, List.getElem?_cons_succ, List.set_cons_zero, List.set_cons_succ, Option.some.injEq, decide_eq_true_eq, Bool.not_eq_true', decide_eq_false_iff_not, ite_true, ite_false, if_true, if_false, reduceIte, Bool.false_eq_true, Bool.not_true, Bool.not_false, Bool.true_eq_false, decide_true, decide_false, Nat.reduceLeDiff, Nat.reduceLT, (e1 20 (by omega) p A4 hp).1, l1.same, ne_like hp h1 d1]
  refine sat_seq ?_
  have ty : isTy "dict" (.ref p) A4 = true := by simp [isTy, rdK_d hp]
  have mg : mergeD k1 k2 = k2 := merge_same k1 k2 [] (by rw [d1.keys, d2.keys]) (by rw [List.nil_append, d1.keys]; exact d1.nd)
  have up := upd_of hp h2 pr2 (by rw [d1.len, d2.len]; simp at q1; omega)
  rw [mg] at up
  simp only [sat_ok, sat_bad, sat_bind, sat_ite, bind_ok, bind_bad, thn_nx, thn_rt, thn_bk, thn_ct, fin_rt, fin_nx, ev_v, ev_c, ev_op, ev_un, ev_nil, ev_cons, ev_tup, ev_lst, ev_call, ev_own, ev_sl, ev_no, ev_part, ev_and, ev_or, ev_not, ev_if, ev_t, ev_tb, ev_tnot, ev_tand, ev_tor, ev_mt, ev_mt0, ev_rgd, ev_set, ev_asg, ev_ret, ev_retN, ev_ex, ev_pass, ev_brk, ev_cont, ev_ifS, ev_aug, ev_gn, ev_gtp, ev_gnl, ev_gcs, ev_gsb, ev_for, ev_rg1, ev_rg2, ev_its, ev_enum, ev_lc, ev_yes, ev_add_ii, ev_add_ss, ev_add_tt, ev_add_rr, ev_sub, ev_mul, ev_mod, ev_fdiv, ev_pow, ev_neg, ev_lt, ev_le, ev_gt, ev_ge, ev_eq_ii, ev_eq_ss, ev_eq_bb, ev_ne_ii, ev_ne_ss, ev_ne_bb, ev_is_n, ev_isnt_n, ev_int_i, ev_int_b, ev_min_ii, ev_max_ii, ev_abs, ev_tup_of, ev_tup_ofL, ev_lst_ofT, ev_lst_ofL, ev_len_t, ev_len_s, ev_len_r, ev_tru_b, ev_alloc, ev_tupD, ev_lstD, isi_tuple_non, isi_tuple_bl, isi_tuple_int, isi_tuple_str, isi_tuple_tup, isi_tuple_l, isi_tuple_f, isi_list_non, isi_list_bl, isi_list_int, isi_list_str, isi_list_tup, isi_list_l, isi_list_f, isi_bool_non, isi_bool_bl, isi_bool_int, isi_bool_str, isi_bool_tup, isi_bool_l, isi_bool_f, isi_int_non, isi_int_bl, isi_int_int, isi_int_str, isi_int_tup, isi_int_l, isi_int_f, isi_str_non, isi_str_bl, isi_str_int, isi_str_str, isi_str_tup, isi_str_l, isi_str_f, isi_dict_non, isi_dict_bl, isi_dict_int, isi_dict_str, isi_dict_tup, isi_dict_l, isi_dict_f, Ab.isNon, args, List.map, List.length_cons, List.length_nil, List.length_singleton, List.replicate, Nat.reduceSub, Nat.reduceAdd, Nat.zero_add, List.cons_append, List.nil_append, List.getElem?_cons_zero, List.getElem?_cons_succ, List.set_cons_zero, List.set_cons_succ, Option.some.injEq, decide_eq_true_eq, Bool.not_eq_true', decide_eq_false_iff_not, ite_true, ite_false, if_true, if_false, reduceIte, Bool.false_eq_true, Bool.not_true, Bool.not_false, Bool.true_eq_false, decide_true, decide_false, Nat.reduceLeDiff, Nat.reduceLT, ty, up]
  have hp' := at_set (o := .dic k2) (at_lt hp)
  have h2' : (A4.set p (.dic k2))[r2]? = some (.dic k2) := by rw [List.getElem?_set_ne pr2]; exact h2
  have G := G.set (o := .dic k2) lp
  simp only [sat_ok, sat_bad, sat_bind, sat_ite, bind_ok, bind_bad, thn_nx, thn_rt, thn_bk, thn_ct, fin_rt, fin_nx, ev_v, ev_c, ev_op, ev_un, ev_nil, ev_cons, ev_tup, ev_lst, ev_call, ev_own, ev_sl, ev_no, ev_part, ev_and, ev_or, ev_not, ev_if, ev_t, ev_tb, ev_tnot, ev_tand, ev_tor, ev_mt, ev_mt0, ev_rgd, ev_set, ev_asg, ev_ret, ev_retN, ev_ex, ev_pass, ev_brk, ev_cont, ev_ifS, ev_aug, ev_gn, ev_gtp, ev_gnl, ev_gcs, ev_gsb, ev_for, ev_rg1, ev_rg2, ev_its, ev_enum, ev_lc, ev_yes, ev_add_ii, ev_add_ss, ev_add_tt, ev_add_rr, ev_sub, ev_mul, ev_mod, ev_fdiv, ev_pow, ev_neg, ev_lt, ev_le, ev_gt, ev_ge, ev_eq_ii, ev_eq_ss, ev_eq_bb, ev_ne_ii, ev_ne_ss, ev_ne_bb, ev_is_n, ev_isnt_n, ev_int_i, ev_int_b, ev_min_ii, ev_max_ii, ev_abs, ev_tup_of, ev_tup_ofL, ev_lst_ofT, ev_lst_ofL, ev_len_t, ev_len_s, ev_len_r, ev_tru_b, ev_alloc, ev_tupD, ev_lstD, isi_tuple_non, isi_tuple_bl, isi_tuple_int, isi_tuple_str, isi_tuple_tup, isi_tuple_l, isi_tuple_f, isi_list_non, isi_list_bl, isi_list_int, isi_list_str, isi_list_tup, isi_list_l, isi_list_f, isi_bool_non, isi_bool_bl, isi_bool_int, isi_bool_str, isi_bool_tup, isi_bool_l, isi_bool_f, isi_int_non, isi_int_bl, isi_int_int, isi_int_str, isi_int_tup, isi_int_l, isi_int_f, isi_str_non, isi_str_bl, isi_str_int, isi_str_str, isi_str_tup, isi_str_l, isi_str_f, isi_dict_non, isi_dict_bl, isi_dict_int, isi_dict_str, isi_dict_tup, isi_dict_l, isi_dict_f, Ab.isNon, args, List.map, List.length_cons, List.length_nil, List.length_singleton, List.replicate, Nat.reduceSub, Nat.reduceAdd, Nat.zero_add, List.cons_append, List.nil_append, List.getElem?_cons_zero, List.getElem?_cons_succ, List.set_cons_zero, List.set_cons_succ, Option.some.injEq, decide_eq_true_eq, Bool.not_eq_true', decide_eq_false_iff_not, ite_true, ite_false, if_true, if_false, reduceIte, Bool.false_eq_true, Bool.not_true, Bool.not_false, Bool.true_eq_false, decide_true, decide_false, Nat.reduceLeDiff, Nat.reduceLT, (e2 20 (by omega) p _ hp').1, l2.same, eq_like hp' h2' d2]
  exact ⟨trivial, G⟩
/-! ### the names -/
def base (k : Nat) : Str := ⟨#[(("bcdeghijklmnopqrtuvw" : Str).cps.toList.getD k 0)]⟩
def nmS (v k : Nat) : Str := match v with
  | 3 => "n" ++ (toString ((k : Int) * (k : Int) + 3) : Str)
  | 2 => "zz" ++ base k
  | 1 => base k ++ "q7"
  | _ => base k
theorem nmS_nd : ∀ v : Nat, v < 4 → ((List.range 9).map (nmS v)).Nodup
  | 0, _ => by decide +kernel
  | 1, _ => by decide +kernel
  | 2, _ => by decide +kernel
  | 3, _ => by decide +kernel
  | v + 4, h => by omega
theorem names_spec {s : Nat} {A : AH} (hs : Sr s A) : Sat (m__law_names [.ref s] A) fun e A' => Dr s A A' ∧ ∃ r v, e = .ref r ∧ A.length ≤ r ∧ v < 4 ∧ A'[r]? = some (.lst (((List.range 20).map (nmS v)).map D.str)) := by
  have sl := hs.lt
  refine sat_body rfl (sat_seq ?_)
  simp only [sat_ok, sat_bad, sat_bind, sat_ite, bind_ok, bind_bad, thn_nx, thn_rt, thn_bk, thn_ct, fin_rt, fin_nx, ev_v, ev_c, ev_op, ev_un, ev_nil, ev_cons, ev_tup, ev_lst, ev_call, ev_own, ev_sl, ev_no, ev_part, ev_and, ev_or, ev_not, ev_if, ev_t, ev_tb, ev_tnot, ev_tand, ev_tor, ev_mt, ev_mt0, ev_rgd, ev_set, ev_asg, ev_ret, ev_retN, ev_ex, ev_pass, ev_brk, ev_cont, ev_ifS, ev_aug, ev_gn, ev_gtp, ev_gnl, ev_gcs, ev_gsb, ev_for, ev_rg1, ev_rg2, ev_its, ev_enum, ev_lc, ev_yes, ev_add_ii, ev_add_ss, ev_add_tt, ev_add_rr, ev_sub, ev_mul, ev_mod, ev_fdiv, ev_pow, ev_neg, ev_lt, ev_le, ev_gt, ev_ge, ev_eq_ii, ev_eq_ss, ev_eq_bb, ev_ne_ii, ev_ne_ss, ev_ne_bb, ev_is_n, ev_isnt_n, ev_int_i, ev_int_b, ev_min_ii, ev_max_ii, ev_abs, ev_tup_of, ev_tup_ofL, ev_lst_ofT, ev_lst_ofL, ev_len_t, ev_len_s, ev_len_r, ev_tru_b, ev_alloc, ev_tupD, ev_lstD, isi_tuple_non, isi_tuple_bl, isi_tuple_int, isi_tuple_str, isi_tuple_tup, isi_tuple_l, isi_tuple_f, isi_list_non, isi_list_bl, isi_list_int, isi_list_str, isi_list_tup, isi_list_l, isi_list_f, isi_bool_non, isi_bool_bl, isi_bool_int, isi_bool_str, isi_bool_tup, isi_bool_l, isi_bool_f, isi_int_non, isi_int_bl, isi_int_int, isi_int_str, isi_int_tup, isi_int_l, isi_int_f, isi_str_non, isi_str_bl, isi_str_int, isi_str_str, isi_str_tup, isi_str_l, isi_str_f, isi_dict_non, isi_dict_bl, isi_dict_int, isi_dict_str, isi_dict_tup, isi_dict_l, isi_dict_f, Ab.isNon, args, List.map, List.length_cons, List.length_nil, List.length_singleton, List.replicate, Nat.reduceSub, Nat.reduceAdd, Nat.zero_add, List.cons_append, List.nil_append, List.getElem?_cons_zero, List.getElem?_cons_succ, List.set_cons_zero, List.set_cons_succ, Option.some.injEq, decide_eq_true_eq, Bool.not_eq_true', decide_eq_false_iff_not, ite_true, ite_false, if_true, if_false, reduceIte, Bool.false_eq_true, Bool.not_true, Bool.not_false, Bool.true_eq_false, decide_true, decide_false, Nat.reduceLeDiff, Nat.reduceLT]
  refine Sat.imp (pick_pos hs (n := 4) (by decide) (by decide)) fun d A1 ⟨⟨v, e, h1, h2⟩, dr⟩ => ?_
  subst e
  have le := dr.le
  obtain ⟨u, rfl⟩ : ∃ u : Nat, v = (u : Nat) := ⟨v.toNat, by omega⟩
  refine sat_seq ?_
  simp only [sat_ok, sat_bad, sat_bind, sat_ite, bind_ok, bind_bad, thn_nx, thn_rt, thn_bk, thn_ct, fin_rt, fin_nx, ev_v, ev_c, ev_op, ev_un, ev_nil, ev_cons, ev_tup, ev_lst, ev_call, ev_own, ev_sl, ev_no, ev_part, ev_and, ev_or, ev_not, ev_if, ev_t, ev_tb, ev_tnot, ev_tand, ev_tor, ev_mt, ev_mt0, ev_rgd, ev_set, ev_asg, ev_ret, ev_retN, ev_ex, ev_pass, ev_brk, ev_cont, ev_ifS, ev_aug, ev_gn, ev_gtp, ev_gnl, ev_gcs, ev_gsb, ev_for, ev_rg1, ev_rg2, ev_its, ev_enum, ev_lc, ev_yes, ev_add_ii, ev_add_ss, ev_add_tt, ev_add_rr, ev_sub, ev_mul, ev_mod, ev_fdiv, ev_pow, ev_neg, ev_lt, ev_le, ev_gt, ev_ge, ev_eq_ii, ev_eq_ss, ev_eq_bb, ev_ne_ii, ev_ne_ss, ev_ne_bb, ev_is_n, ev_isnt_n, ev_int_i, ev_int_b, ev_min_ii, ev_max_ii, ev_abs, ev_tup_of, ev_tup_ofL, ev_lst_ofT, ev_lst_ofL, ev_len_t, ev_len_s, ev_len_r, ev_tru_b, ev_alloc, ev_tupD, ev_lstD, isi_tuple_non, isi_tuple_bl, isi_tuple_int, isi_tuple_str, isi_tuple_tup, isi_tuple_l, isi_tuple_f, isi_list_non, isi_list_bl, isi_list_int, isi_list_str, isi_list_tup, isi_list_l, isi_list_f, isi_bool_non, isi_bool_bl, isi_bool_int, isi_bool_str, isi_bool_tup, isi_bool_l, isi_bool_f, isi_int_non, isi_int_bl, isi_int_int, isi_int_str, isi_int_tup, isi_int_l, isi_int_f, isi_str_non, isi_str_bl, isi_str_int, isi_str_str, isi_str_tup, isi_str_l, isi_str_f, isi_dict_non, isi_dict_bl, isi_dict_int, isi_dict_str, isi_dict_tup, isi_dict_l, isi_dict_f, Ab.isNon, args, List.map, List.length_cons, List.length_nil, List.length_singleton, List.replicate, Nat.reduceSub, Nat.reduceAdd, Nat.zero_add, List.cons_append, List.nil_append, List.getElem?_cons_zero, List.getElem?_cons_succ, List.set_cons_zero, List.set_cons_succ, Option.some.injEq, decide_eq_true_eq, Bool.not_eq_true', decide_eq_false_iff_not, ite_true, ite_false, if_true, if_false, reduceIte, Bool.false_eq_true, Bool.not_true, Bool.not_false, Bool.true_eq_false, decide_true, decide_false, Nat.reduceLeDiff, Nat.reduceLT]
  refine sat_seq ?_
  have hR := at_new (A := A1) (o := .lst [])
  have dr := dr.trans (Dr.app dr.src [.lst []])
  simp only [sat_ok, sat_bad, sat_bind, sat_ite, bind_ok, bind_bad, thn_nx, thn_rt, thn_bk, thn_ct, fin_rt, fin_nx, ev_v, ev_c, ev_op, ev_un, ev_nil, ev_cons, ev_tup, ev_lst, ev_call, ev_own, ev_sl, ev_no, ev_part, ev_and, ev_or, ev_not, ev_if, ev_t, ev_tb, ev_tnot, ev_tand, ev_tor, ev_mt, ev_mt0, ev_rgd, ev_set, ev_asg, ev_ret, ev_retN, ev_ex, ev_pass, ev_brk, ev_cont, ev_ifS, ev_aug, ev_gn, ev_gtp, ev_gnl, ev_gcs, ev_gsb, ev_for, ev_rg1, ev_rg2, ev_its, ev_enum, ev_lc, ev_yes, ev_add_ii, ev_add_ss, ev_add_tt, ev_add_rr, ev_sub, ev_mul, ev_mod, ev_fdiv, ev_pow, ev_neg, ev_lt, ev_le, ev_gt, ev_ge, ev_eq_ii, ev_eq_ss, ev_eq_bb, ev_ne_ii, ev_ne_ss, ev_ne_bb, ev_is_n, ev_isnt_n, ev_int_i, ev_int_b, ev_min_ii, ev_max_ii, ev_abs, ev_tup_of, ev_tup_ofL, ev_lst_ofT, ev_lst_ofL, ev_len_t, ev_len_s, ev_len_r, ev_tru_b, ev_alloc, ev_tupD, ev_lstD, isi_tuple_non, isi_tuple_bl, isi_tuple_int, isi_tuple_str, isi_tuple_tup, isi_tuple_l, isi_tuple_f, isi_list_non, isi_list_bl, isi_list_int, isi_list_str, isi_list_tup, isi_list_l, isi_list_f, isi_bool_non, isi_bool_bl, isi_bool_int, isi_bool_str, isi_bool_tup, isi_bool_l, isi_bool_f, isi_int_non, isi_int_bl, isi_int_int, isi_int_str, isi_int_tup, isi_int_l, isi_int_f, isi_str_non, isi_str_bl, isi_str_int, isi_str_str, isi_str_tup, isi_str_l, isi_str_f, isi_dict_non, isi_dict_bl, isi_dict_int, isi_dict_str, isi_dict_tup, isi_dict_l, isi_dict_f, Ab.isNon, args, List.map, List.length_cons, List.length_nil, List.length_singleton, List.replicate, Nat.reduceSub, Nat.reduceAdd, Nat.zero_add, List.cons_append, List.nil_append, List.getElem?_cons_zero, List.getElem?_cons_succ, List.set_cons_zero, List.set_cons_succ, Option.some.injEq, decide_eq_true_eq, Bool.not_eq_true', decide_eq_false_iff_not, ite_true, ite_false, if_true, if_false, reduceIte, Bool.false_eq_true, Bool.not_true, Bool.not_false, Bool.true_eq_false, decide_true, decide_false, Nat.reduceLeDiff, Nat.reduceLT]
  rw [if_pos (inRg_of (by decide) (by decide))]
  refine range_inv (fun k σ B => Dr s A B ∧ B[A1.length]? = some (.lst (((List.range k).map (nmS u)).map D.str)) ∧ ∃ y z, σ = [some (.ref s), some (.int (u : Nat)), some (.ref A1.length), y, z])
    (fun k σ B hk ⟨DB, hB, y, z, hσ⟩ => ?_) (fun σ B ⟨DB, hB, y, z, hσ⟩ => ?_) ⟨dr, hR, none, none, rfl⟩
  · subst hσ
    have hk : k < 20 := hk
    have ib : ixD (.str "bcdeghijklmnopqrtuvw") (.int (k : Nat)) B = .ok (.str (base k)) B := by
      have hl : k < ("bcdeghijklmnopqrtuvw" : Str).cps.toList.length := by show k < 20; exact hk
      have e : ("bcdeghijklmnopqrtuvw" : Str).cps.toList.getD k 0 = ("bcdeghijklmnopqrtuvw" : Str).cps.toList[k] := by rw [List.getD_eq_getElem?_getD, List.getElem?_eq_getElem hl]; rfl
      unfold base
      rw [e]
      exact ev_ix_s (sl_le (by show 20 ≤ _; decide)) (by rw [atI_pos (by omega), Int.toNat_natCast, List.getElem?_eq_getElem hl])
    have bl : (base k).length = 1 := rfl
    simp only [sat_ok, sat_bad, sat_bind, sat_ite, bind_ok, bind_bad, thn_nx, thn_rt, thn_bk, thn_ct, fin_rt, fin_nx, ev_v, ev_c, ev_op, ev_un, ev_nil, ev_cons, ev_tup, ev_lst, ev_call, ev_own, ev_sl, ev_no, ev_part, ev_and, ev_or, ev_not, ev_if, ev_t, ev_tb, ev_tnot, ev_tand, ev_tor, ev_mt, ev_mt0, ev_rgd, ev_set, ev_asg, ev_ret, ev_retN, ev_ex, ev_pass, ev_brk, ev_cont, ev_ifS, ev_aug, ev_gn, ev_gtp, ev_gnl, ev_gcs, ev_gsb, ev_for, ev_rg1, ev_rg2, ev_its, ev_enum, ev_lc, ev_yes, ev_add_ii, ev_add_ss, ev_add_tt, ev_add_rr, ev_sub, ev_mul, ev_mod, ev_fdiv, ev_pow, ev_neg, ev_lt, ev_le, ev_gt, ev_ge, ev_eq_ii, ev_eq_ss, ev_eq_bb, ev_ne_ii, ev_ne_ss, ev_ne_bb, ev_is_n, ev_isnt_n, ev_int_i, ev_int_b, ev_min_ii, ev_max_ii, ev_abs, ev_tup_of, ev_tup_ofL, ev_lst_ofT, ev_lst_ofL, ev_len_t, ev_len_s, ev_len_r, ev_tru_b, ev_alloc, ev_tupD, ev_lstD, isi_tuple_non, isi_tuple_bl, isi_tuple_int, isi_tuple_str, isi_tuple_tup, isi_tuple_l, isi_tuple_f, isi_list_non, isi_list_bl, isi_list_int, isi_list_str, isi_list_tup, isi_list_l, isi_list_f, isi_bool_non, isi_bool_bl, isi_bool_int, isi_bool_str, isi_bool_tup, isi_bool_l, isi_bool_f, isi_int_non, isi_int_bl, isi_int_int, isi_int_str, isi_int_tup, isi_int_l, isi_int_f, isi_str_non, isi_str_bl, isi_str_int, isi_str_str, isi_str_tup, isi_str_l, isi_str_f, isi_dict_non, isi_dict_bl, isi_dict_int, isi_dict_str, isi_dict_tup, isi_dict_l, isi_dict_f, Ab.isNon, args, List.map, List.length_cons, List.length_nil, List.length_singleton, List.replicate, Nat.reduceSub, Nat.reduceAdd, Nat.zero_add, List.cons_append, List.nil_append, List.getElem?_cons_zero, List.getElem?_cons_succ, List.set_cons_zero, List.set_cons_succ, Option.some.injEq, decide_eq_true_eq, Bool.not_eq_true', decide_eq_false_iff_not, ite_true, ite_false, if_true, if_false, reduceIte, Bool.false_eq_true, Bool.not_true, Bool.not_false, Bool.true_eq_false, decide_true, decide_false, Nat.reduceLeDiff, Nat.reduceLT, Int.zero_add]
    refine sat_seq ?_
    simp only [sat_ok, sat_bad, sat_bind, sat_ite, bind_ok, bind_bad, thn_nx, thn_rt, thn_bk, thn_ct, fin_rt, fin_nx, ev_v, ev_c, ev_op, ev_un, ev_nil, ev_cons, ev_tup, ev_lst, ev_call, ev_own, ev_sl, ev_no, ev_part, ev_and, ev_or, ev_not, ev_if, ev_t, ev_tb, ev_tnot, ev_tand, ev_tor, ev_mt, ev_mt0, ev_rgd, ev_set, ev_asg, ev_ret, ev_retN, ev_ex, ev_pass, ev_brk, ev_cont, ev_ifS, ev_aug, ev_gn, ev_gtp, ev_gnl, ev_gcs, ev_gsb, ev_for, ev_rg1, ev_rg2, ev_its, ev_enum, ev_lc, ev_yes, ev_add_ii, ev_add_ss, ev_add_tt, ev_add_rr, ev_sub, ev_mul, ev_mod, ev_fdiv, ev_pow, ev_neg, ev_lt, ev_le, ev_gt, ev_ge, ev_eq_ii, ev_eq_ss, ev_eq_bb, ev_ne_ii, ev_ne_ss, ev_ne_bb, ev_is_n, ev_isnt_n, ev_int_i, ev_int_b, ev_min_ii, ev_max_ii, ev_abs, ev_tup_of, ev_tup_ofL, ev_lst_ofT, ev_lst_ofL, ev_len_t, ev_len_s, ev_len_r, ev_tru_b, ev_alloc, ev_tupD, ev_lstD, isi_tuple_non, isi_tuple_bl, isi_tuple_int, isi_tuple_str, isi_tuple_tup, isi_tuple_l, isi_tuple_f, isi_list_non, isi_list_bl, isi_list_int, isi_list_str, isi_list_tup, isi_list_l, isi_list_f, isi_bool_non, isi_bool_bl, isi_bool_int, isi_bool_str, isi_bool_tup, isi_bool_l, isi_bool_f, isi_int_non, isi_int_bl, isi_int_int, isi_int_str, isi_int_tup, isi_int_l, isi_int_f, isi_str_non, isi_str_bl, isi_str_int, isi_str_str, isi_str_tup, isi_str_l, isi_str_f, isi_dict_non, isi_dict_bl, isi_dict_int, isi_dict_str, isi_dict_tup, isi_dict_l, isi_dict_f, Ab.isNon, args, List.map, List.length_cons, List.length_nil, List.length_singleton, List.replicate, Nat.reduceSub, Nat.reduceAdd, Nat.zero_add, List.cons_append, List.nil_append, List.getElem?_cons_zero, List.getElem?_cons_succ, List.set_cons_zero, List.set_cons_succ, Option.some.injEq, decide_eq_true_eq, Bool.not_eq_true', decide_eq_false_iff_not, ite_true, ite_false, if_true, if_false, reduceIte, Bool.false_eq_true, Bool.not_true, Bool.not_false, Bool.true_eq_false, decide_true, decide_false, Nat.reduceLeDiff, Nat.reduceLT, ib]
    have step : ∀ (j w : Nat) (x y : Str) (P : Fl → AH → Prop) (σ : ASt) (g : FE), P (.nx σ) B → True := fun _ _ _ _ _ _ _ _ => trivial
    have fin : ∀ (x : Str), x = nmS u k → Sat (appendD (.ref A1.length) [.str x] B) fun a B' => Dr s A B' ∧ B'[A1.length]? = some (.lst (((List.range (k + 1)).map (nmS u)).map D.str)) := fun x hx => by
      rw [ev_app hB (by simp; omega)]
      refine ⟨DB.setN le hs, ?_⟩
      rw [at_set (at_lt hB), List.range_succ (n := k), List.map_append, List.map_append, hx]; rfl
    have u4 : u = 0 ∨ u = 1 ∨ u = 2 ∨ u = 3 := by omega
    rcases u4 with rfl | rfl | rfl | rfl
    · refine sat_seq ?_; simp (decide := true) only [sat_ok, sat_bad, sat_bind, sat_ite, bind_ok, bind_bad, thn_nx, thn_rt, thn_bk, thn_ct, fin_rt, fin_nx, ev_v, ev_c, ev_op, ev_un, ev_nil, ev_cons, ev_tup, ev_lst, ev_call, ev_own, ev_sl, ev_no, ev_part, ev_and, ev_or, ev_not, ev_if, ev_t, ev_tb, ev_tnot, ev_tand, ev_tor, ev_mt, ev_mt0, ev_rgd, ev_set, ev_asg, ev_ret, ev_retN, ev_ex, ev_pass, ev_brk, ev_cont, ev_ifS, ev_aug, ev_gn, ev_gtp, ev_gnl, ev_gcs, ev_gsb, ev_for, ev_rg1, ev_rg2, ev_its, ev_enum, ev_lc, ev_yes, ev_add_ii, ev_add_ss, ev_add_tt, ev_add_rr, ev_sub, ev_mul, ev_mod, ev_fdiv, ev_pow, ev_neg, ev_lt, ev_le, ev_gt, ev_ge, ev_eq_ii, ev_eq_ss, ev_eq_bb, ev_ne_ii, ev_ne_ss, ev_ne_bb, ev_is_n, ev_isnt_n, ev_int_i, ev_int_b, ev_min_ii, ev_max_ii, ev_abs, ev_tup_of, ev_tup_ofL, ev_lst_ofT, ev_lst_ofL, ev_len_t, ev_len_s, ev_len_r, ev_tru_b, ev_alloc, ev_tupD, ev_lstD, isi_tuple_non, isi_tuple_bl, isi_tuple_int, isi_tuple_str, isi_tuple_tup, isi_tuple_l, isi_tuple_f, isi_list_non, isi_list_bl, isi_list_int, isi_list_str, isi_list_tup, isi_list_l, isi_list_f, isi_bool_non, isi_bool_bl, isi_bool_int, isi_bool_str, isi_bool_tup, isi_bool_l, isi_bool_f, isi_int_non, isi_int_bl, isi_int_int, isi_int_str, isi_int_tup, isi_int_l, isi_int_f, isi_str_non, isi_str_bl, isi_str_int, isi_str_str, isi_str_tup, isi_str_l, isi_str_f, isi_dict_non, isi_dict_bl, isi_dict_int, isi_dict_str, isi_dict_tup, isi_dict_l, isi_dict_f, Ab.isNon, args, List.map, List.length_cons, List.length_nil, List.length_singleton, List.replicate, Nat.reduceSub, Nat.reduceAdd, Nat.zero_add, List.cons_append, List.nil_append, List.getElem?_cons_zero, List.getElem?_cons_succ, List.set_cons_zero, List.set_cons_succ, Option.some.injEq, decide_eq_true_eq, Bool.not_eq_true', decide_eq_false_iff_not, ite_true, ite_false, if_true, if_false, reduceIte, Bool.false_eq_true, Bool.not_true, Bool.not_false, Bool.true_eq_false, decide_true, decide_false, Nat.reduceLeDiff, Nat.reduceLT]
      refine sat_seq ?_; simp (decide := true) only [sat_ok, sat_bad, sat_bind, sat_ite, bind_ok, bind_bad, thn_nx, thn_rt, thn_bk, thn_ct, fin_rt, fin_nx, ev_v, ev_c, ev_op, ev_un, ev_nil, ev_cons, ev_tup, ev_lst, ev_call, ev_own, ev_sl, ev_no, ev_part, ev_and, ev_or, ev_not, ev_if, ev_t, ev_tb, ev_tnot, ev_tand, ev_tor, ev_mt, ev_mt0, ev_rgd, ev_set, ev_asg, ev_ret, ev_retN, ev_ex, ev_pass, ev_brk, ev_cont, ev_ifS, ev_aug, ev_gn, ev_gtp, ev_gnl, ev_gcs, ev_gsb, ev_for, ev_rg1, ev_rg2, ev_its, ev_enum, ev_lc, ev_yes, ev_add_ii, ev_add_ss, ev_add_tt, ev_add_rr, ev_sub, ev_mul, ev_mod, ev_fdiv, ev_pow, ev_neg, ev_lt, ev_le, ev_gt, ev_ge, ev_eq_ii, ev_eq_ss, ev_eq_bb, ev_ne_ii, ev_ne_ss, ev_ne_bb, ev_is_n, ev_isnt_n, ev_int_i, ev_int_b, ev_min_ii, ev_max_ii, ev_abs, ev_tup_of, ev_tup_ofL, ev_lst_ofT, ev_lst_ofL, ev_len_t, ev_len_s, ev_len_r, ev_tru_b, ev_alloc, ev_tupD, ev_lstD, isi_tuple_non, isi_tuple_bl, isi_tuple_int, isi_tuple_str, isi_tuple_tup, isi_tuple_l, isi_tuple_f, isi_list_non, isi_list_bl, isi_list_int, isi_list_str, isi_list_tup, isi_list_l, isi_list_f, isi_bool_non, isi_bool_bl, isi_bool_int, isi_bool_str, isi_bool_tup, isi_bool_l, isi_bool_f, isi_int_non, isi_int_bl, isi_int_int, isi_int_str, isi_int_tup, isi_int_l, isi_int_f, isi_str_non, isi_str_bl, isi_str_int, isi_str_str, isi_str_tup, isi_str_l, isi_str_f, isi_dict_non, isi_dict_bl, isi_dict_int, isi_dict_str, isi_dict_tup, isi_dict_l, isi_dict_f, Ab.isNon, args, List.map, List.length_cons, List.length_nil, List.length_singleton, List.replicate, Nat.reduceSub, Nat.reduceAdd, Nat.zero_add, List.cons_append, List.nil_append, List.getElem?_cons_zero, List.getElem?_cons_succ, List.set_cons_zero, List.set_cons_succ, Option.some.injEq, decide_eq_true_eq, Bool.not_eq_true', decide_eq_false_iff_not, ite_true, ite_false, if_true, if_false, reduceIte, Bool.false_eq_true, Bool.not_true, Bool.not_false, Bool.true_eq_false, decide_true, decide_false, Nat.reduceLeDiff, Nat.reduceLT]
      refine sat_seq ?_; simp (decide := true) only [sat_ok, sat_bad, sat_bind, sat_ite, bind_ok, bind_bad, thn_nx, thn_rt, thn_bk, thn_ct, fin_rt, fin_nx, ev_v, ev_c, ev_op, ev_un, ev_nil, ev_cons, ev_tup, ev_lst, ev_call, ev_own, ev_sl, ev_no, ev_part, ev_and, ev_or, ev_not, ev_if, ev_t, ev_tb, ev_tnot, ev_tand, ev_tor, ev_mt, ev_mt0, ev_rgd, ev_set, ev_asg, ev_ret, ev_retN, ev_ex, ev_pass, ev_brk, ev_cont, ev_ifS, ev_aug, ev_gn, ev_gtp, ev_gnl, ev_gcs, ev_gsb, ev_for, ev_rg1, ev_rg2, ev_its, ev_enum, ev_lc, ev_yes, ev_add_ii, ev_add_ss, ev_add_tt, ev_add_rr, ev_sub, ev_mul, ev_mod, ev_fdiv, ev_pow, ev_neg, ev_lt, ev_le, ev_gt, ev_ge, ev_eq_ii, ev_eq_ss, ev_eq_bb, ev_ne_ii, ev_ne_ss, ev_ne_bb, ev_is_n, ev_isnt_n, ev_int_i, ev_int_b, ev_min_ii, ev_max_ii, ev_abs, ev_tup_of, ev_tup_ofL, ev_lst_ofT, ev_lst_ofL, ev_len_t, ev_len_s, ev_len_r, ev_tru_b, ev_alloc, ev_tupD, ev_lstD, isi_tuple_non, isi_tuple_bl, isi_tuple_int, isi_tuple_str, isi_tuple_tup, isi_tuple_l, isi_tuple_f, isi_list_non, isi_list_bl, isi_list_int, isi_list_str, isi_list_tup, isi_list_l, isi_list_f, isi_bool_non, isi_bool_bl, isi_bool_int, isi_bool_str, isi_bool_tup, isi_bool_l, isi_bool_f, isi_int_non, isi_int_bl, isi_int_int, isi_int_str, isi_int_tup, isi_int_l, isi_int_f, isi_str_non, isi_str_bl, isi_str_int, isi_str_str, isi_str_tup, isi_str_l, isi_str_f, isi_dict_non, isi_dict_bl, isi_dict_int, isi_dict_str, isi_dict_tup, isi_dict_l, isi_dict_f, Ab.isNon, args, List.map, List.length_cons, List.length_nil, List.length_singleton, List.replicate, Nat.reduceSub, Nat.reduceAdd, Nat.zero_add, List.cons_append, List.nil_append, List.getElem?_cons_zero, List.getElem?_cons_succ, List.set_cons_zero, List.set_cons_succ, Option.some.injEq, decide_eq_true_eq, Bool.not_eq_true', decide_eq_false_iff_not, ite_true, ite_false, if_true, if_false, reduceIte, Bool.false_eq_true, Bool.not_true, Bool.not_false, Bool.true_eq_false, decide_true, decide_false, Nat.reduceLeDiff, Nat.reduceLT]
      simp only [sat_ok, sat_bad, sat_bind, sat_ite, bind_ok, bind_bad, thn_nx, thn_rt, thn_bk, thn_ct, fin_rt, fin_nx, ev_v, ev_c, ev_op, ev_un, ev_nil, ev_cons, ev_tup, ev_lst, ev_call, ev_own, ev_sl, ev_no, ev_part, ev_and, ev_or, ev_not, ev_if, ev_t, ev_tb, ev_tnot, ev_tand, ev_tor, ev_mt, ev_mt0, ev_rgd, ev_set, ev_asg, ev_ret, ev_retN, ev_ex, ev_pass, ev_brk, ev_cont, ev_ifS, ev_aug, ev_gn, ev_gtp, ev_gnl, ev_gcs, ev_gsb, ev_for, ev_rg1, ev_rg2, ev_its, ev_enum, ev_lc, ev_yes, ev_add_ii, ev_add_ss, ev_add_tt, ev_add_rr, ev_sub, ev_mul, ev_mod, ev_fdiv, ev_pow, ev_neg, ev_lt, ev_le, ev_gt, ev_ge, ev_eq_ii, ev_eq_ss, ev_eq_bb, ev_ne_ii, ev_ne_ss, ev_ne_bb, ev_is_n, ev_isnt_n, ev_int_i, ev_int_b, ev_min_ii, ev_max_ii, ev_abs, ev_tup_of, ev_tup_ofL, ev_lst_ofT, ev_lst_ofL, ev_len_t, ev_len_s, ev_len_r, ev_tru_b, ev_alloc, ev_tupD, ev_lstD, isi_tuple_non, isi_tuple_bl, isi_tuple_int, isi_tuple_str, isi_tuple_tup, isi_tuple_l, isi_tuple_f, isi_list_non, isi_list_bl, isi_list_int, isi_list_str, isi_list_tup, isi_list_l, isi_list_f, isi_bool_non, isi_bool_bl, isi_bool_int, isi_bool_str, isi_bool_tup, isi_bool_l, isi_bool_f, isi_int_non, isi_int_bl, isi_int_int, isi_int_str, isi_int_tup, isi_int_l, isi_int_f, isi_str_non, isi_str_bl, isi_str_int, isi_str_str, isi_str_tup, isi_str_l, isi_str_f, isi_dict_non, isi_dict_bl, isi_dict_int, isi_dict_str, isi_dict_tup, isi_dict_l, isi_dict_f, Ab.isNon, args, List.map, List.length_cons, List.length_nil, List.length_singleton, List.replicate, Nat.reduceSub, Nat.reduceAdd, Nat.zero_add, List.cons_append, List.nil_append, List.getElem?_cons_zero, List.getElem?_cons_succ, List.set_cons_zero, List.set_cons_succ, Option.some.injEq, decide_eq_true_eq, Bool.not_eq_true', decide_eq_false_iff_not, ite_true, ite_false, if_true, if_false, reduceIte, Bool.false_eq_true, Bool.not_true, Bool.not_false, Bool.true_eq_false, decide_true, decide_false, Nat.reduceLeDiff, Nat.reduceLT, ty_l hB]
      exact Sat.imp (fin _ rfl) fun a B' ⟨q1, q2⟩ => ⟨q1, q2, _, _, rfl⟩
    · refine sat_seq ?_; simp (decide := true) only [sat_ok, sat_bad, sat_bind, sat_ite, bind_ok, bind_bad, thn_nx, thn_rt, thn_bk, thn_ct, fin_rt, fin_nx, ev_v, ev_c, ev_op, ev_un, ev_nil, ev_cons, ev_tup, ev_lst, ev_call, ev_own, ev_sl, ev_no, ev_part, ev_and, ev_or, ev_not, ev_if, ev_t, ev_tb, ev_tnot, ev_tand, ev_tor, ev_mt, ev_mt0, ev_rgd, ev_set, ev_asg, ev_ret, ev_retN, ev_ex, ev_pass, ev_brk, ev_cont, ev_ifS, ev_aug, ev_gn, ev_gtp, ev_gnl, ev_gcs, ev_gsb, ev_for, ev_rg1, ev_rg2, ev_its, ev_enum, ev_lc, ev_yes, ev_add_ii, ev_add_ss, ev_add_tt, ev_add_rr, ev_sub, ev_mul, ev_mod, ev_fdiv, ev_pow, ev_neg, ev_lt, ev_le, ev_gt, ev_ge, ev_eq_ii, ev_eq_ss, ev_eq_bb, ev_ne_ii, ev_ne_ss, ev_ne_bb, ev_is_n, ev_isnt_n, ev_int_i, ev_int_b, ev_min_ii, ev_max_ii, ev_abs, ev_tup_of, ev_tup_ofL, ev_lst_ofT, ev_lst_ofL, ev_len_t, ev_len_s, ev_len_r, ev_tru_b, ev_alloc, ev_tupD, ev_lstD, isi_tuple_non, isi_tuple_bl, isi_tuple_int, isi_tuple_str, isi_tuple_tup, isi_tuple_l, isi_tuple_f, isi_list_non, isi_list_bl, isi_list_int, isi_list_str, isi_list_tup, isi_list_l, isi_list_f, isi_bool_non, isi_bool_bl, isi_bool_int, isi_bool_str, isi_bool_tup, isi_bool_l, isi_bool_f, isi_int_non, isi_int_bl, isi_int_int, isi_int_str, isi_int_tup, isi_int_l, isi_int_f, isi_str_non, isi_str_bl, isi_str_int, isi_str_str, isi_str_tup, isi_str_l, isi_str_f, isi_dict_non, isi_dict_bl, isi_dict_int, isi_dict_str, isi_dict_tup, isi_dict_l, isi_dict_f, Ab.isNon, args, List.map, List.length_cons, List.length_nil, List.length_singleton, List.replicate, Nat.reduceSub, Nat.reduceAdd, Nat.zero_add, List.cons_append, List.nil_append, List.getElem?_cons_zero, List.getElem?_cons_succ, List.set_cons_zero, List.set_cons_succ, Option.some.injEq, decide_eq_true_eq, Bool.not_eq_true', decide_eq_false_iff_not, ite_true, ite_false, if_true, if_false, reduceIte, Bool.false_eq_true, Bool.not_true, Bool.not_false, Bool.true_eq_false, decide_true, decide_false, Nat.reduceLeDiff, Nat.reduceLT]
      rw [add_ss (by rw [str_len, bl]; show 1 + 2 ≤ _; decide)]
      simp only [sat_ok, sat_bad, sat_bind, sat_ite, bind_ok, bind_bad, thn_nx, thn_rt, thn_bk, thn_ct, fin_rt, fin_nx, ev_v, ev_c, ev_op, ev_un, ev_nil, ev_cons, ev_tup, ev_lst, ev_call, ev_own, ev_sl, ev_no, ev_part, ev_and, ev_or, ev_not, ev_if, ev_t, ev_tb, ev_tnot, ev_tand, ev_tor, ev_mt, ev_mt0, ev_rgd, ev_set, ev_asg, ev_ret, ev_retN, ev_ex, ev_pass, ev_brk, ev_cont, ev_ifS, ev_aug, ev_gn, ev_gtp, ev_gnl, ev_gcs, ev_gsb, ev_for, ev_rg1, ev_rg2, ev_its, ev_enum, ev_lc, ev_yes, ev_add_ii, ev_add_ss, ev_add_tt, ev_add_rr, ev_sub, ev_mul, ev_mod, ev_fdiv, ev_pow, ev_neg, ev_lt, ev_le, ev_gt, ev_ge, ev_eq_ii, ev_eq_ss, ev_eq_bb, ev_ne_ii, ev_ne_ss, ev_ne_bb, ev_is_n, ev_isnt_n, ev_int_i, ev_int_b, ev_min_ii, ev_max_ii, ev_abs, ev_tup_of, ev_tup_ofL, ev_lst_ofT, ev_lst_ofL, ev_len_t, ev_len_s, ev_len_r, ev_tru_b, ev_alloc, ev_tupD, ev_lstD, isi_tuple_non, isi_tuple_bl, isi_tuple_int, isi_tuple_str, isi_tuple_tup, isi_tuple_l, isi_tuple_f, isi_list_non, isi_list_bl, isi_list_int, isi_list_str, isi_list_tup, isi_list_l, isi_list_f, isi_bool_non, isi_bool_bl, isi_bool_int, isi_bool_str, isi_bool_tup, isi_bool_l, isi_bool_f, isi_int_non, isi_int_bl, isi_int_int, isi_int_str, isi_int_tup, isi_int_l, isi_int_f, isi_str_non, isi_str_bl, isi_str_int, isi_str_str, isi_str_tup, isi_str_l, isi_str_f, isi_dict_non, isi_dict_bl, isi_dict_int, isi_dict_str, isi_dict_tup, isi_dict_l, isi_dict_f, Ab.isNon, args, List.map, List.length_cons, List.length_nil, List.length_singleton, List.replicate, Nat.reduceSub, Nat.reduceAdd, Nat.zero_add, List.cons_append, List.nil_append, List.getElem?_cons_zero, List.getElem?_cons_succ, List.set_cons_zero, List.set_cons_succ, Option.some.injEq, decide_eq_true_eq, Bool.not_eq_true', decide_eq_false_iff_not, ite_true, ite_false, if_true, if_false, reduceIte, Bool.false_eq_true, Bool.not_true, Bool.not_false, Bool.true_eq_false, decide_true, decide_false, Nat.reduceLeDiff, Nat.reduceLT]
      refine sat_seq ?_; simp (decide := true) only [sat_ok, sat_bad, sat_bind, sat_ite, bind_ok, bind_bad, thn_nx, thn_rt, thn_bk, thn_ct, fin_rt, fin_nx, ev_v, ev_c, ev_op, ev_un, ev_nil, ev_cons, ev_tup, ev_lst, ev_call, ev_own, ev_sl, ev_no, ev_part, ev_and, ev_or, ev_not, ev_if, ev_t, ev_tb, ev_tnot, ev_tand, ev_tor, ev_mt, ev_mt0, ev_rgd, ev_set, ev_asg, ev_ret, ev_retN, ev_ex, ev_pass, ev_brk, ev_cont, ev_ifS, ev_aug, ev_gn, ev_gtp, ev_gnl, ev_gcs, ev_gsb, ev_for, ev_rg1, ev_rg2, ev_its, ev_enum, ev_lc, ev_yes, ev_add_ii, ev_add_ss, ev_add_tt, ev_add_rr, ev_sub, ev_mul, ev_mod, ev_fdiv, ev_pow, ev_neg, ev_lt, ev_le, ev_gt, ev_ge, ev_eq_ii, ev_eq_ss, ev_eq_bb, ev_ne_ii, ev_ne_ss, ev_ne_bb, ev_is_n, ev_isnt_n, ev_int_i, ev_int_b, ev_min_ii, ev_max_ii, ev_abs, ev_tup_of, ev_tup_ofL, ev_lst_ofT, ev_lst_ofL, ev_len_t, ev_len_s, ev_len_r, ev_tru_b, ev_alloc, ev_tupD, ev_lstD, isi_tuple_non, isi_tuple_bl, isi_tuple_int, isi_tuple_str, isi_tuple_tup, isi_tuple_l, isi_tuple_f, isi_list_non, isi_list_bl, isi_list_int, isi_list_str, isi_list_tup, isi_list_l, isi_list_f, isi_bool_non, isi_bool_bl, isi_bool_int, isi_bool_str, isi_bool_tup, isi_bool_l, isi_bool_f, isi_int_non, isi_int_bl, isi_int_int, isi_int_str, isi_int_tup, isi_int_l, isi_int_f, isi_str_non, isi_str_bl, isi_str_int, isi_str_str, isi_str_tup, isi_str_l, isi_str_f, isi_dict_non, isi_dict_bl, isi_dict_int, isi_dict_str, isi_dict_tup, isi_dict_l, isi_dict_f, Ab.isNon, args, List.map, List.length_cons, List.length_nil, List.length_singleton, List.replicate, Nat.reduceSub, Nat.reduceAdd, Nat.zero_add, List.cons_append, List.nil_append, List.getElem?_cons_zero, List.getElem?_cons_succ, List.set_cons_zero, List.set_cons_succ, Option.some.injEq, decide_eq_true_eq, Bool.not_eq_true', decide_eq_false_iff_not, ite_true, ite_false, if_true, if_false, reduceIte, Bool.false_eq_true, Bool.not_true, Bool.not_false, Bool.true_eq_false, decide_true, decide_false, Nat.reduceLeDiff, Nat.reduceLT]
      refine sat_seq ?_; simp (decide := true) only [sat_ok, sat_bad, sat_bind, sat_ite, bind_ok, bind_bad, thn_nx, thn_rt, thn_bk, thn_ct, fin_rt, fin_nx, ev_v, ev_c, ev_op, ev_un, ev_nil, ev_cons, ev_tup, ev_lst, ev_call, ev_own, ev_sl, ev_no, ev_part, ev_and, ev_or, ev_not, ev_if, ev_t, ev_tb, ev_tnot, ev_tand, ev_tor, ev_mt, ev_mt0, ev_rgd, ev_set, ev_asg, ev_ret, ev_retN, ev_ex, ev_pass, ev_brk, ev_cont, ev_ifS, ev_aug, ev_gn, ev_gtp, ev_gnl, ev_gcs, ev_gsb, ev_for, ev_rg1, ev_rg2, ev_its, ev_enum, ev_lc, ev_yes, ev_add_ii, ev_add_ss, ev_add_tt, ev_add_rr, ev_sub, ev_mul, ev_mod, ev_fdiv, ev_pow, ev_neg, ev_lt, ev_le, ev_gt, ev_ge, ev_eq_ii, ev_eq_ss, ev_eq_bb, ev_ne_ii, ev_ne_ss, ev_ne_bb, ev_is_n, ev_isnt_n, ev_int_i, ev_int_b, ev_min_ii, ev_max_ii, ev_abs, ev_tup_of, ev_tup_ofL, ev_lst_ofT, ev_lst_ofL, ev_len_t, ev_len_s, ev_len_r, ev_tru_b, ev_alloc, ev_tupD, ev_lstD, isi_tuple_non, isi_tuple_bl, isi_tuple_int, isi_tuple_str, isi_tuple_tup, isi_tuple_l, isi_tuple_f, isi_list_non, isi_list_bl, isi_list_int, isi_list_str, isi_list_tup, isi_list_l, isi_list_f, isi_bool_non, isi_bool_bl, isi_bool_int, isi_bool_str, isi_bool_tup, isi_bool_l, isi_bool_f, isi_int_non, isi_int_bl, isi_int_int, isi_int_str, isi_int_tup, isi_int_l, isi_int_f, isi_str_non, isi_str_bl, isi_str_int, isi_str_str, isi_str_tup, isi_str_l, isi_str_f, isi_dict_non, isi_dict_bl, isi_dict_int, isi_dict_str, isi_dict_tup, isi_dict_l, isi_dict_f, Ab.isNon, args, List.map, List.length_cons, List.length_nil, List.length_singleton, List.replicate, Nat.reduceSub, Nat.reduceAdd, Nat.zero_add, List.cons_append, List.nil_append, List.getElem?_cons_zero, List.getElem?_cons_succ, List.set_cons_zero, List.set_cons_succ, Option.some.injEq, decide_eq_true_eq, Bool.not_eq_true', decide_eq_false_iff_not, ite_true, ite_false, if_true, if_false, reduceIte, Bool.false_eq_true, Bool.not_true, Bool.not_false, Bool.true_eq_false, decide_true, decide_false, Nat.reduceLeDiff, Nat.reduceLT]
      simp only [sat_ok, sat_bad, sat_bind, sat_ite, bind_ok, bind_bad, thn_nx, thn_rt, thn_bk, thn_ct, fin_rt, fin_nx, ev_v, ev_c, ev_op, ev_un, ev_nil, ev_cons, ev_tup, ev_lst, ev_call, ev_own, ev_sl, ev_no, ev_part, ev_and, ev_or, ev_not, ev_if, ev_t, ev_tb, ev_tnot, ev_tand, ev_tor, ev_mt, ev_mt0, ev_rgd, ev_set, ev_asg, ev_ret, ev_retN, ev_ex, ev_pass, ev_brk, ev_cont, ev_ifS, ev_aug, ev_gn, ev_gtp, ev_gnl, ev_gcs, ev_gsb, ev_for, ev_rg1, ev_rg2, ev_its, ev_enum, ev_lc, ev_yes, ev_add_ii, ev_add_ss, ev_add_tt, ev_add_rr, ev_sub, ev_mul, ev_mod, ev_fdiv, ev_pow, ev_neg, ev_lt, ev_le, ev_gt, ev_ge, ev_eq_ii, ev_eq_ss, ev_eq_bb, ev_ne_ii, ev_ne_ss, ev_ne_bb, ev_is_n, ev_isnt_n, ev_int_i, ev_int_b, ev_min_ii, ev_max_ii, ev_abs, ev_tup_of, ev_tup_ofL, ev_lst_ofT, ev_lst_ofL, ev_len_t, ev_len_s, ev_len_r, ev_tru_b, ev_alloc, ev_tupD, ev_lstD, isi_tuple_non, isi_tuple_bl, isi_tuple_int, isi_tuple_str, isi_tuple_tup, isi_tuple_l, isi_tuple_f, isi_list_non, isi_list_bl, isi_list_int, isi_list_str, isi_list_tup, isi_list_l, isi_list_f, isi_bool_non, isi_bool_bl, isi_bool_int, isi_bool_str, isi_bool_tup, isi_bool_l, isi_bool_f, isi_int_non, isi_int_bl, isi_int_int, isi_int_str, isi_int_tup, isi_int_l, isi_int_f, isi_str_non, isi_str_bl, isi_str_int, isi_str_str, isi_str_tup, isi_str_l, isi_str_f, isi_dict_non, isi_dict_bl, isi_dict_int, isi_dict_str, isi_dict_tup, isi_dict_l, isi_dict_f, Ab.isNon, args, List.map, List.length_cons, List.length_nil, List.length_singleton, List.replicate, Nat.reduceSub, Nat.reduceAdd, Nat.zero_add, List.cons_append, List.nil_append, List.getElem?_cons_zero, List.getElem?_cons_succ, List.set_cons_zero, List.set_cons_succ, Option.some.injEq, decide_eq_true_eq, Bool.not_eq_true', decide_eq_false_iff_not, ite_true, ite_false, if_true, if_false, reduceIte, Bool.false_eq_true, Bool.not_true, Bool.not_false, Bool.true_eq_false, decide_true, decide_false, Nat.reduceLeDiff, Nat.reduceLT, ty_l hB]
      exact Sat.imp (fin _ rfl) fun a B' ⟨q1, q2⟩ => ⟨q1, q2, _, _, rfl⟩
    · refine sat_seq ?_; simp (decide := true) only [sat_ok, sat_bad, sat_bind, sat_ite, bind_ok, bind_bad, thn_nx, thn_rt, thn_bk, thn_ct, fin_rt, fin_nx, ev_v, ev_c, ev_op, ev_un, ev_nil, ev_cons, ev_tup, ev_lst, ev_call, ev_own, ev_sl, ev_no, ev_part, ev_and, ev_or, ev_not, ev_if, ev_t, ev_tb, ev_tnot, ev_tand, ev_tor, ev_mt, ev_mt0, ev_rgd, ev_set, ev_asg, ev_ret, ev_retN, ev_ex, ev_pass, ev_brk, ev_cont, ev_ifS, ev_aug, ev_gn, ev_gtp, ev_gnl, ev_gcs, ev_gsb, ev_for, ev_rg1, ev_rg2, ev_its, ev_enum, ev_lc, ev_yes, ev_add_ii, ev_add_ss, ev_add_tt, ev_add_rr, ev_sub, ev_mul, ev_mod, ev_fdiv, ev_pow, ev_neg, ev_lt, ev_le, ev_gt, ev_ge, ev_eq_ii, ev_eq_ss, ev_eq_bb, ev_ne_ii, ev_ne_ss, ev_ne_bb, ev_is_n, ev_isnt_n, ev_int_i, ev_int_b, ev_min_ii, ev_max_ii, ev_abs, ev_tup_of, ev_tup_ofL, ev_lst_ofT, ev_lst_ofL, ev_len_t, ev_len_s, ev_len_r, ev_tru_b, ev_alloc, ev_tupD, ev_lstD, isi_tuple_non, isi_tuple_bl, isi_tuple_int, isi_tuple_str, isi_tuple_tup, isi_tuple_l, isi_tuple_f, isi_list_non, isi_list_bl, isi_list_int, isi_list_str, isi_list_tup, isi_list_l, isi_list_f, isi_bool_non, isi_bool_bl, isi_bool_int, isi_bool_str, isi_bool_tup, isi_bool_l, isi_bool_f, isi_int_non, isi_int_bl, isi_int_int, isi_int_str, isi_int_tup, isi_int_l, isi_int_f, isi_str_non, isi_str_bl, isi_str_int, isi_str_str, isi_str_tup, isi_str_l, isi_str_f, isi_dict_non, isi_dict_bl, isi_dict_int, isi_dict_str, isi_dict_tup, isi_dict_l, isi_dict_f, Ab.isNon, args, List.map, List.length_cons, List.length_nil, List.length_singleton, List.replicate, Nat.reduceSub, Nat.reduceAdd, Nat.zero_add, List.cons_append, List.nil_append, List.getElem?_cons_zero, List.getElem?_cons_succ, List.set_cons_zero, List.set_cons_succ, Option.some.injEq, decide_eq_true_eq, Bool.not_eq_true', decide_eq_false_iff_not, ite_true, ite_false, if_true, if_false, reduceIte, Bool.false_eq_true, Bool.not_true, Bool.not_false, Bool.true_eq_false, decide_true, decide_false, Nat.reduceLeDiff, Nat.reduceLT]
      refine sat_seq ?_; simp (decide := true) only [sat_ok, sat_bad, sat_bind, sat_ite, bind_ok, bind_bad, thn_nx, thn_rt, thn_bk, thn_ct, fin_rt, fin_nx, ev_v, ev_c, ev_op, ev_un, ev_nil, ev_cons, ev_tup, ev_lst, ev_call, ev_own, ev_sl, ev_no, ev_part, ev_and, ev_or, ev_not, ev_if, ev_t, ev_tb, ev_tnot, ev_tand, ev_tor, ev_mt, ev_mt0, ev_rgd, ev_set, ev_asg, ev_ret, ev_retN, ev_ex, ev_pass, ev_brk, ev_cont, ev_ifS, ev_aug, ev_gn, ev_gtp, ev_gnl, ev_gcs, ev_gsb, ev_for, ev_rg1, ev_rg2, ev_its, ev_enum, ev_lc, ev_yes, ev_add_ii, ev_add_ss, ev_add_tt, ev_add_rr, ev_sub, ev_mul, ev_mod, ev_fdiv, ev_pow, ev_neg, ev_lt, ev_le, ev_gt, ev_ge, ev_eq_ii, ev_eq_ss, ev_eq_bb, ev_ne_ii, ev_ne_ss, ev_ne_bb, ev_is_n, ev_isnt_n, ev_int_i, ev_int_b, ev_min_ii, ev_max_ii, ev_abs, ev_tup_of, ev_tup_ofL, ev_lst_ofT, ev_lst_ofL, ev_len_t, ev_len_s, ev_len_r, ev_tru_b, ev_alloc, ev_tupD, ev_lstD, isi_tuple_non, isi_tuple_bl, isi_tuple_int, isi_tuple_str, isi_tuple_tup, isi_tuple_l, isi_tuple_f, isi_list_non, isi_list_bl, isi_list_int, isi_list_str, isi_list_tup, isi_list_l, isi_list_f, isi_bool_non, isi_bool_bl, isi_bool_int, isi_bool_str, isi_bool_tup, isi_bool_l, isi_bool_f, isi_int_non, isi_int_bl, isi_int_int, isi_int_str, isi_int_tup, isi_int_l, isi_int_f, isi_str_non, isi_str_bl, isi_str_int, isi_str_str, isi_str_tup, isi_str_l, isi_str_f, isi_dict_non, isi_dict_bl, isi_dict_int, isi_dict_str, isi_dict_tup, isi_dict_l, isi_dict_f, Ab.isNon, args, List.map, List.length_cons, List.length_nil, List.length_singleton, List.replicate, Nat.reduceSub, Nat.reduceAdd, Nat.zero_add, List.cons_append, List.nil_append, List.getElem?_cons_zero, List.getElem?_cons_succ, List.set_cons_zero, List.set_cons_succ, Option.some.injEq, decide_eq_true_eq, Bool.not_eq_true', decide_eq_false_iff_not, ite_true, ite_false, if_true, if_false, reduceIte, Bool.false_eq_true, Bool.not_true, Bool.not_false, Bool.true_eq_false, decide_true, decide_false, Nat.reduceLeDiff, Nat.reduceLT]
      rw [add_ss (by rw [str_len, bl]; show 2 + 1 ≤ _; decide)]
      simp only [sat_ok, sat_bad, sat_bind, sat_ite, bind_ok, bind_bad, thn_nx, thn_rt, thn_bk, thn_ct, fin_rt, fin_nx, ev_v, ev_c, ev_op, ev_un, ev_nil, ev_cons, ev_tup, ev_lst, ev_call, ev_own, ev_sl, ev_no, ev_part, ev_and, ev_or, ev_not, ev_if, ev_t, ev_tb, ev_tnot, ev_tand, ev_tor, ev_mt, ev_mt0, ev_rgd, ev_set, ev_asg, ev_ret, ev_retN, ev_ex, ev_pass, ev_brk, ev_cont, ev_ifS, ev_aug, ev_gn, ev_gtp, ev_gnl, ev_gcs, ev_gsb, ev_for, ev_rg1, ev_rg2, ev_its, ev_enum, ev_lc, ev_yes, ev_add_ii, ev_add_ss, ev_add_tt, ev_add_rr, ev_sub, ev_mul, ev_mod, ev_fdiv, ev_pow, ev_neg, ev_lt, ev_le, ev_gt, ev_ge, ev_eq_ii, ev_eq_ss, ev_eq_bb, ev_ne_ii, ev_ne_ss, ev_ne_bb, ev_is_n, ev_isnt_n, ev_int_i, ev_int_b, ev_min_ii, ev_max_ii, ev_abs, ev_tup_of, ev_tup_ofL, ev_lst_ofT, ev_lst_ofL, ev_len_t, ev_len_s, ev_len_r, ev_tru_b, ev_alloc, ev_tupD, ev_lstD, isi_tuple_non, isi_tuple_bl, isi_tuple_int, isi_tuple_str, isi_tuple_tup, isi_tuple_l, isi_tuple_f, isi_list_non, isi_list_bl, isi_list_int, isi_list_str, isi_list_tup, isi_list_l, isi_list_f, isi_bool_non, isi_bool_bl, isi_bool_int, isi_bool_str, isi_bool_tup, isi_bool_l, isi_bool_f, isi_int_non, isi_int_bl, isi_int_int, isi_int_str, isi_int_tup, isi_int_l, isi_int_f, isi_str_non, isi_str_bl, isi_str_int, isi_str_str, isi_str_tup, isi_str_l, isi_str_f, isi_dict_non, isi_dict_bl, isi_dict_int, isi_dict_str, isi_dict_tup, isi_dict_l, isi_dict_f, Ab.isNon, args, List.map, List.length_cons, List.length_nil, List.length_singleton, List.replicate, Nat.reduceSub, Nat.reduceAdd, Nat.zero_add, List.cons_append, List.nil_append, List.getElem?_cons_zero, List.getElem?_cons_succ, List.set_cons_zero, List.set_cons_succ, Option.some.injEq, decide_eq_true_eq, Bool.not_eq_true', decide_eq_false_iff_not, ite_true, ite_false, if_true, if_false, reduceIte, Bool.false_eq_true, Bool.not_true, Bool.not_false, Bool.true_eq_false, decide_true, decide_false, Nat.reduceLeDiff, Nat.reduceLT]
      refine sat_seq ?_; simp (decide := true) only [sat_ok, sat_bad, sat_bind, sat_ite, bind_ok, bind_bad, thn_nx, thn_rt, thn_bk, thn_ct, fin_rt, fin_nx, ev_v, ev_c, ev_op, ev_un, ev_nil, ev_cons, ev_tup, ev_lst, ev_call, ev_own, ev_sl, ev_no, ev_part, ev_and, ev_or, ev_not, ev_if, ev_t, ev_tb, ev_tnot, ev_tand, ev_tor, ev_mt, ev_mt0, ev_rgd, ev_set, ev_asg, ev_ret, ev_retN, ev_ex, ev_pass, ev_brk, ev_cont, ev_ifS, ev_aug, ev_gn, ev_gtp, ev_gnl, ev_gcs, ev_gsb, ev_for, ev_rg1, ev_rg2, ev_its, ev_enum, ev_lc, ev_yes, ev_add_ii, ev_add_ss, ev_add_tt, ev_add_rr, ev_sub, ev_mul, ev_mod, ev_fdiv, ev_pow, ev_neg, ev_lt, ev_le, ev_gt, ev_ge, ev_eq_ii, ev_eq_ss, ev_eq_bb, ev_ne_ii, ev_ne_ss, ev_ne_bb, ev_is_n, ev_isnt_n, ev_int_i, ev_int_b, ev_min_ii, ev_max_ii, ev_abs, ev_tup_of, ev_tup_ofL, ev_lst_ofT, ev_lst_ofL, ev_len_t, ev_len_s, ev_len_r, ev_tru_b, ev_alloc, ev_tupD, ev_lstD, isi_tuple_non, isi_tuple_bl, isi_tuple_int, isi_tuple_str, isi_tuple_tup, isi_tuple_l, isi_tuple_f, isi_list_non, isi_list_bl, isi_list_int, isi_list_str, isi_list_tup, isi_list_l, isi_list_f, isi_bool_non, isi_bool_bl, isi_bool_int, isi_bool_str, isi_bool_tup, isi_bool_l, isi_bool_f, isi_int_non, isi_int_bl, isi_int_int, isi_int_str, isi_int_tup, isi_int_l, isi_int_f, isi_str_non, isi_str_bl, isi_str_int, isi_str_str, isi_str_tup, isi_str_l, isi_str_f, isi_dict_non, isi_dict_bl, isi_dict_int, isi_dict_str, isi_dict_tup, isi_dict_l, isi_dict_f, Ab.isNon, args, List.map, List.length_cons, List.length_nil, List.length_singleton, List.replicate, Nat.reduceSub, Nat.reduceAdd, Nat.zero_add, List.cons_append, List.nil_append, List.getElem?_cons_zero, List.getElem?_cons_succ, List.set_cons_zero, List.set_cons_succ, Option.some.injEq, decide_eq_true_eq, Bool.not_eq_true', decide_eq_false_iff_not, ite_true, ite_false, if_true, if_false, reduceIte, Bool.false_eq_true, Bool.not_true, Bool.not_false, Bool.true_eq_false, decide_true, decide_false, Nat.reduceLeDiff, Nat.reduceLT]
      simp only [sat_ok, sat_bad, sat_bind, sat_ite, bind_ok, bind_bad, thn_nx, thn_rt, thn_bk, thn_ct, fin_rt, fin_nx, ev_v, ev_c, ev_op, ev_un, ev_nil, ev_cons, ev_tup, ev_lst, ev_call, ev_own, ev_sl, ev_no, ev_part, ev_and, ev_or, ev_not, ev_if, ev_t, ev_tb, ev_tnot, ev_tand, ev_tor, ev_mt, ev_mt0, ev_rgd, ev_set, ev_asg, ev_ret, ev_retN, ev_ex, ev_pass, ev_brk, ev_cont, ev_ifS, ev_aug, ev_gn, ev_gtp, ev_gnl, ev_gcs, ev_gsb, ev_for, ev_rg1, ev_rg2, ev_its, ev_enum, ev_lc, ev_yes, ev_add_ii, ev_add_ss, ev_add_tt, ev_add_rr, ev_sub, ev_mul, ev_mod, ev_fdiv, ev_pow, ev_neg, ev_lt, ev_le, ev_gt, ev_ge, ev_eq_ii, ev_eq_ss, ev_eq_bb, ev_ne_ii, ev_ne_ss, ev_ne_bb, ev_is_n, ev_isnt_n, ev_int_i, ev_int_b, ev_min_ii, ev_max_ii, ev_abs, ev_tup_of, ev_tup_ofL, ev_lst_ofT, ev_lst_ofL, ev_len_t, ev_len_s, ev_len_r, ev_tru_b, ev_alloc, ev_tupD, ev_lstD, isi_tuple_non, isi_tuple_bl, isi_tuple_int, isi_tuple_str, isi_tuple_tup, isi_tuple_l, isi_tuple_f, isi_list_non, isi_list_bl, isi_list_int, isi_list_str, isi_list_tup, isi_list_l, isi_list_f, isi_bool_non, isi_bool_bl, isi_bool_int, isi_bool_str, isi_bool_tup, isi_bool_l, isi_bool_f, isi_int_non, isi_int_bl, isi_int_int, isi_int_str, isi_int_tup, isi_int_l, isi_int_f, isi_str_non, isi_str_bl, isi_str_int, isi_str_str, isi_str_tup, isi_str_l, isi_str_f, isi_dict_non, isi_dict_bl, isi_dict_int, isi_dict_str, isi_dict_tup, isi_dict_l, isi_dict_f, Ab.isNon, args, List.map, List.length_cons, List.length_nil, List.length_singleton, List.replicate, Nat.reduceSub, Nat.reduceAdd, Nat.zero_add, List.cons_append, List.nil_append, List.getElem?_cons_zero, List.getElem?_cons_succ, List.set_cons_zero, List.set_cons_succ, Option.some.injEq, decide_eq_true_eq, Bool.not_eq_true', decide_eq_false_iff_not, ite_true, ite_false, if_true, if_false, reduceIte, Bool.false_eq_true, Bool.not_true, Bool.not_false, Bool.true_eq_false, decide_true, decide_false, Nat.reduceLeDiff, Nat.reduceLT, ty_l hB]
      exact Sat.imp (fin _ rfl) fun a B' ⟨q1, q2⟩ => ⟨q1, q2, _, _, rfl⟩
    · have kk : ((k : Int) * (k : Int) + 3).natAbs < 10 ^ 12 := by
        have h1 : (k : Int) * (k : Int) ≤ 20 * 20 := Int.mul_le_mul (by omega) (by omega) (by omega) (by omega)
        have h2 : 0 ≤ (k : Int) * (k : Int) := Int.mul_nonneg (by omega) (by omega)
        omega
      have mk : mulOk (k : Int) (k : Int) := mulOk_l (by omega) (by omega)
      refine sat_seq ?_; simp (decide := true) only [sat_ok, sat_bad, sat_bind, sat_ite, bind_ok, bind_bad, thn_nx, thn_rt, thn_bk, thn_ct, fin_rt, fin_nx, ev_v, ev_c, ev_op, ev_un, ev_nil, ev_cons, ev_tup, ev_lst, ev_call, ev_own, ev_sl, ev_no, ev_part, ev_and, ev_or, ev_not, ev_if, ev_t, ev_tb, ev_tnot, ev_tand, ev_tor, ev_mt, ev_mt0, ev_rgd, ev_set, ev_asg, ev_ret, ev_retN, ev_ex, ev_pass, ev_brk, ev_cont, ev_ifS, ev_aug, ev_gn, ev_gtp, ev_gnl, ev_gcs, ev_gsb, ev_for, ev_rg1, ev_rg2, ev_its, ev_enum, ev_lc, ev_yes, ev_add_ii, ev_add_ss, ev_add_tt, ev_add_rr, ev_sub, ev_mul, ev_mod, ev_fdiv, ev_pow, ev_neg, ev_lt, ev_le, ev_gt, ev_ge, ev_eq_ii, ev_eq_ss, ev_eq_bb, ev_ne_ii, ev_ne_ss, ev_ne_bb, ev_is_n, ev_isnt_n, ev_int_i, ev_int_b, ev_min_ii, ev_max_ii, ev_abs, ev_tup_of, ev_tup_ofL, ev_lst_ofT, ev_lst_ofL, ev_len_t, ev_len_s, ev_len_r, ev_tru_b, ev_alloc, ev_tupD, ev_lstD, isi_tuple_non, isi_tuple_bl, isi_tuple_int, isi_tuple_str, isi_tuple_tup, isi_tuple_l, isi_tuple_f, isi_list_non, isi_list_bl, isi_list_int, isi_list_str, isi_list_tup, isi_list_l, isi_list_f, isi_bool_non, isi_bool_bl, isi_bool_int, isi_bool_str, isi_bool_tup, isi_bool_l, isi_bool_f, isi_int_non, isi_int_bl, isi_int_int, isi_int_str, isi_int_tup, isi_int_l, isi_int_f, isi_str_non, isi_str_bl, isi_str_int, isi_str_str, isi_str_tup, isi_str_l, isi_str_f, isi_dict_non, isi_dict_bl, isi_dict_int, isi_dict_str, isi_dict_tup, isi_dict_l, isi_dict_f, Ab.isNon, args, List.map, List.length_cons, List.length_nil, List.length_singleton, List.replicate, Nat.reduceSub, Nat.reduceAdd, Nat.zero_add, List.cons_append, List.nil_append, List.getElem?_cons_zero, List.getElem?_cons_succ, List.set_cons_zero, List.set_cons_succ, Option.some.injEq, decide_eq_true_eq, Bool.not_eq_true', decide_eq_false_iff_not, ite_true, ite_false, if_true, if_false, reduceIte, Bool.false_eq_true, Bool.not_true, Bool.not_false, Bool.true_eq_false, decide_true, decide_false, Nat.reduceLeDiff, Nat.reduceLT]
      refine sat_seq ?_; simp (decide := true) only [sat_ok, sat_bad, sat_bind, sat_ite, bind_ok, bind_bad, thn_nx, thn_rt, thn_bk, thn_ct, fin_rt, fin_nx, ev_v, ev_c, ev_op, ev_un, ev_nil, ev_cons, ev_tup, ev_lst, ev_call, ev_own, ev_sl, ev_no, ev_part, ev_and, ev_or, ev_not, ev_if, ev_t, ev_tb, ev_tnot, ev_tand, ev_tor, ev_mt, ev_mt0, ev_rgd, ev_set, ev_asg, ev_ret, ev_retN, ev_ex, ev_pass, ev_brk, ev_cont, ev_ifS, ev_aug, ev_gn, ev_gtp, ev_gnl, ev_gcs, ev_gsb, ev_for, ev_rg1, ev_rg2, ev_its, ev_enum, ev_lc, ev_yes, ev_add_ii, ev_add_ss, ev_add_tt, ev_add_rr, ev_sub, ev_mul, ev_mod, ev_fdiv, ev_pow, ev_neg, ev_lt, ev_le, ev_gt, ev_ge, ev_eq_ii, ev_eq_ss, ev_eq_bb, ev_ne_ii, ev_ne_ss, ev_ne_bb, ev_is_n, ev_isnt_n, ev_int_i, ev_int_b, ev_min_ii, ev_max_ii, ev_abs, ev_tup_of, ev_tup_ofL, ev_lst_ofT, ev_lst_ofL, ev_len_t, ev_len_s, ev_len_r, ev_tru_b, ev_alloc, ev_tupD, ev_lstD, isi_tuple_non, isi_tuple_bl, isi_tuple_int, isi_tuple_str, isi_tuple_tup, isi_tuple_l, isi_tuple_f, isi_list_non, isi_list_bl, isi_list_int, isi_list_str, isi_list_tup, isi_list_l, isi_list_f, isi_bool_non, isi_bool_bl, isi_bool_int, isi_bool_str, isi_bool_tup, isi_bool_l, isi_bool_f, isi_int_non, isi_int_bl, isi_int_int, isi_int_str, isi_int_tup, isi_int_l, isi_int_f, isi_str_non, isi_str_bl, isi_str_int, isi_str_str, isi_str_tup, isi_str_l, isi_str_f, isi_dict_non, isi_dict_bl, isi_dict_int, isi_dict_str, isi_dict_tup, isi_dict_l, isi_dict_f, Ab.isNon, args, List.map, List.length_cons, List.length_nil, List.length_singleton, List.replicate, Nat.reduceSub, Nat.reduceAdd, Nat.zero_add, List.cons_append, List.nil_append, List.getElem?_cons_zero, List.getElem?_cons_succ, List.set_cons_zero, List.set_cons_succ, Option.some.injEq, decide_eq_true_eq, Bool.not_eq_true', decide_eq_false_iff_not, ite_true, ite_false, if_true, if_false, reduceIte, Bool.false_eq_true, Bool.not_true, Bool.not_false, Bool.true_eq_false, decide_true, decide_false, Nat.reduceLeDiff, Nat.reduceLT]
      refine sat_seq ?_; simp (decide := true) only [sat_ok, sat_bad, sat_bind, sat_ite, bind_ok, bind_bad, thn_nx, thn_rt, thn_bk, thn_ct, fin_rt, fin_nx, ev_v, ev_c, ev_op, ev_un, ev_nil, ev_cons, ev_tup, ev_lst, ev_call, ev_own, ev_sl, ev_no, ev_part, ev_and, ev_or, ev_not, ev_if, ev_t, ev_tb, ev_tnot, ev_tand, ev_tor, ev_mt, ev_mt0, ev_rgd, ev_set, ev_asg, ev_ret, ev_retN, ev_ex, ev_pass, ev_brk, ev_cont, ev_ifS, ev_aug, ev_gn, ev_gtp, ev_gnl, ev_gcs, ev_gsb, ev_for, ev_rg1, ev_rg2, ev_its, ev_enum, ev_lc, ev_yes, ev_add_ii, ev_add_ss, ev_add_tt, ev_add_rr, ev_sub, ev_mul, ev_mod, ev_fdiv, ev_pow, ev_neg, ev_lt, ev_le, ev_gt, ev_ge, ev_eq_ii, ev_eq_ss, ev_eq_bb, ev_ne_ii, ev_ne_ss, ev_ne_bb, ev_is_n, ev_isnt_n, ev_int_i, ev_int_b, ev_min_ii, ev_max_ii, ev_abs, ev_tup_of, ev_tup_ofL, ev_lst_ofT, ev_lst_ofL, ev_len_t, ev_len_s, ev_len_r, ev_tru_b, ev_alloc, ev_tupD, ev_lstD, isi_tuple_non, isi_tuple_bl, isi_tuple_int, isi_tuple_str, isi_tuple_tup, isi_tuple_l, isi_tuple_f, isi_list_non, isi_list_bl, isi_list_int, isi_list_str, isi_list_tup, isi_list_l, isi_list_f, isi_bool_non, isi_bool_bl, isi_bool_int, isi_bool_str, isi_bool_tup, isi_bool_l, isi_bool_f, isi_int_non, isi_int_bl, isi_int_int, isi_int_str, isi_int_tup, isi_int_l, isi_int_f, isi_str_non, isi_str_bl, isi_str_int, isi_str_str, isi_str_tup, isi_str_l, isi_str_f, isi_dict_non, isi_dict_bl, isi_dict_int, isi_dict_str, isi_dict_tup, isi_dict_l, isi_dict_f, Ab.isNon, args, List.map, List.length_cons, List.length_nil, List.length_singleton, List.replicate, Nat.reduceSub, Nat.reduceAdd, Nat.zero_add, List.cons_append, List.nil_append, List.getElem?_cons_zero, List.getElem?_cons_succ, List.set_cons_zero, List.set_cons_succ, Option.some.injEq, decide_eq_true_eq, Bool.not_eq_true', decide_eq_false_iff_not, ite_true, ite_false, if_true, if_false, reduceIte, Bool.false_eq_true, Bool.not_true, Bool.not_false, Bool.true_eq_false, decide_true, decide_false, Nat.reduceLeDiff, Nat.reduceLT, mk, ev_str_i kk]
      rw [add_ss (by rw [str_len]; have := num_len kk; show 1 + _ ≤ _; omega)]
      simp only [sat_ok, sat_bad, sat_bind, sat_ite, bind_ok, bind_bad, thn_nx, thn_rt, thn_bk, thn_ct, fin_rt, fin_nx, ev_v, ev_c, ev_op, ev_un, ev_nil, ev_cons, ev_tup, ev_lst, ev_call, ev_own, ev_sl, ev_no, ev_part, ev_and, ev_or, ev_not, ev_if, ev_t, ev_tb, ev_tnot, ev_tand, ev_tor, ev_mt, ev_mt0, ev_rgd, ev_set, ev_asg, ev_ret, ev_retN, ev_ex, ev_pass, ev_brk, ev_cont, ev_ifS, ev_aug, ev_gn, ev_gtp, ev_gnl, ev_gcs, ev_gsb, ev_for, ev_rg1, ev_rg2, ev_its, ev_enum, ev_lc, ev_yes, ev_add_ii, ev_add_ss, ev_add_tt, ev_add_rr, ev_sub, ev_mul, ev_mod, ev_fdiv, ev_pow, ev_neg, ev_lt, ev_le, ev_gt, ev_ge, ev_eq_ii, ev_eq_ss, ev_eq_bb, ev_ne_ii, ev_ne_ss, ev_ne_bb, ev_is_n, ev_isnt_n, ev_int_i, ev_int_b, ev_min_ii, ev_max_ii, ev_abs, ev_tup_of, ev_tup_ofL, ev_lst_ofT, ev_lst_ofL, ev_len_t, ev_len_s, ev_len_r, ev_tru_b, ev_alloc, ev_tupD, ev_lstD, isi_tuple_non, isi_tuple_bl, isi_tuple_int, isi_tuple_str, isi_tuple_tup, isi_tuple_l, isi_tuple_f, isi_list_non, isi_list_bl, isi_list_int, isi_list_str, isi_list_tup, isi_list_l, isi_list_f, isi_bool_non, isi_bool_bl, isi_bool_int, isi_bool_str, isi_bool_tup, isi_bool_l, isi_bool_f, isi_int_non, isi_int_bl, isi_int_int, isi_int_str, isi_int_tup, isi_int_l, isi_int_f, isi_str_non, isi_str_bl, isi_str_int, isi_str_str, isi_str_tup, isi_str_l, isi_str_f, isi_dict_non, isi_dict_bl, isi_dict_int, isi_dict_str, isi_dict_tup, isi_dict_l, isi_dict_f, Ab.isNon, args, List.map, List.length_cons, List.length_nil, List.length_singleton, List.replicate, Nat.reduceSub, Nat.reduceAdd, Nat.zero_add, List.cons_append, List.nil_append, List.getElem?_cons_zero, List.getElem?_cons_succ, List.set_cons_zero, List.set_cons_succ, Option.some.injEq, decide_eq_true_eq, Bool.not_eq_true', decide_eq_false_iff_not, ite_true, ite_false, if_true, if_false, reduceIte, Bool.false_eq_true, Bool.not_true, Bool.not_false, Bool.true_eq_false, decide_true, decide_false, Nat.reduceLeDiff, Nat.reduceLT, ty_l hB]
      exact Sat.imp (fin _ rfl) fun a B' ⟨q1, q2⟩ => ⟨q1, q2, _, _, rfl⟩
  · subst hσ
    simp only [sat_ok, sat_bad, sat_bind, sat_ite, bind_ok, bind_bad, thn_nx, thn_rt, thn_bk, thn_ct, fin_rt, fin_nx, ev_v, ev_c, ev_op, ev_un, ev_nil, ev_cons, ev_tup, ev_lst, ev_call, ev_own, ev_sl, ev_no, ev_part, ev_and, ev_or, ev_not, ev_if, ev_t, ev_tb, ev_tnot, ev_tand, ev_tor, ev_mt, ev_mt0, ev_rgd, ev_set, ev_asg, ev_ret, ev_retN, ev_ex, ev_pass, ev_brk, ev_cont, ev_ifS, ev_aug, ev_gn, ev_gtp, ev_gnl, ev_gcs, ev_gsb, ev_for, ev_rg1, ev_rg2, ev_its, ev_enum, ev_lc, ev_yes, ev_add_ii, ev_add_ss, ev_add_tt, ev_add_rr, ev_sub, ev_mul, ev_mod, ev_fdiv, ev_pow, ev_neg, ev_lt, ev_le, ev_gt, ev_ge, ev_eq_ii, ev_eq_ss, ev_eq_bb, ev_ne_ii, ev_ne_ss, ev_ne_bb, ev_is_n, ev_isnt_n, ev_int_i, ev_int_b, ev_min_ii, ev_max_ii, ev_abs, ev_tup_of, ev_tup_ofL, ev_lst_ofT, ev_lst_ofL, ev_len_t, ev_len_s, ev_len_r, ev_tru_b, ev_alloc, ev_tupD, ev_lstD, isi_tuple_non, isi_tuple_bl, isi_tuple_int, isi_tuple_str, isi_tuple_tup, isi_tuple_l, isi_tuple_f, isi_list_non, isi_list_bl, isi_list_int, isi_list_str, isi_list_tup, isi_list_l, isi_list_f, isi_bool_non, isi_bool_bl, isi_bool_int, isi_bool_str, isi_bool_tup, isi_bool_l, isi_bool_f, isi_int_non, isi_int_bl, isi_int_int, isi_int_str, isi_int_tup, isi_int_l, isi_int_f, isi_str_non, isi_str_bl, isi_str_int, isi_str_str, isi_str_tup, isi_str_l, isi_str_f, isi_dict_non, isi_dict_bl, isi_dict_int, isi_dict_str, isi_dict_tup, isi_dict_l, isi_dict_f, Ab.isNon, args, List.map, List.length_cons, List.length_nil, List.length_singleton, List.replicate, Nat.reduceSub, Nat.reduceAdd, Nat.zero_add, List.cons_append, List.nil_append, List.getElem?_cons_zero, List.getElem?_cons_succ, List.set_cons_zero, List.set_cons_succ, Option.some.injEq, decide_eq_true_eq, Bool.not_eq_true', decide_eq_false_iff_not, ite_true, ite_false, if_true, if_false, reduceIte, Bool.false_eq_true, Bool.not_true, Bool.not_false, Bool.true_eq_false, decide_true, decide_false, Nat.reduceLeDiff, Nat.reduceLT]
    exact ⟨DB, _, u, rfl, le, by omega, hB⟩
/-! ### the law -/
theorem cell0 {A : AH} {ns : List Int} {k : Int} (h : A[0]? = some (.frz (ns.map D.int))) (hl : ns.length ≤ 63) (h0 : 0 ≤ k) : ∃ v, m__law_cell [.ref 0, .int k] A = .ok (.int v) A := by
  obtain ⟨v, e⟩ := cell_spec (k := k.toNat) h hl
  exact ⟨v, by rw [Int.toNat_of_nonneg h0] at e; exact e⟩
theorem src_new {A : AH} {v : Int} : Sr A.length (A ++ [.lst [.int v, .int v, .int 0]]) := ⟨v, v, 0, at_new⟩
theorem _root_.Ab.Sr.dr {s s' : Nat} {A B : AH} (h : Sr s' A) (d : Dr s A B) (n : s' ≠ s) : Sr s' B := by
  obtain ⟨c, r, k, e⟩ := h
  exact ⟨c, r, k, d.keep _ _ n e⟩
theorem _root_.Ab.Sr.ne {s r : Nat} {A : AH} {xs : List Str} (h : Sr s A) (hr : A[r]? = some (.lst (xs.map D.str))) : r ≠ s := fun e => by
  obtain ⟨c, q, k, hq⟩ := h
  rw [e, hq] at hr
  have hv := (AO.lst.inj (Option.some.inj hr))
  cases xs with
  | nil => cases hv
  | cons x vs => rw [List.map_cons, List.cons.injEq] at hv; exact nomatch hv.1
theorem law_ok : ∀ ns : List Int, ns.length ≤ 63 → ∃ A', m_law [.ref 0] [.frz (ns.map D.int)] = .ok (.bl true) A' := by
  intro ns hl
  have key : Sat (m_law [.ref 0] [.frz (ns.map D.int)]) fun d A' => d = .bl true := by
    refine sat_body rfl (sat_seq ?_)
    have h0 : ([AO.frz (ns.map D.int)] : AH)[0]? = some (.frz (ns.map D.int)) := rfl
    generalize [AO.frz (ns.map D.int)] = A at h0 ⊢
    have mw : ∀ j : Int, mulOk 65537 j := fun j => mulOk_l (by decide) (by decide)
    have m3 : ∀ j : Int, mulOk 31 j := fun j => mulOk_l (by decide) (by decide)
    obtain ⟨v, hv⟩ := cell0 (k := 0) h0 hl (by decide)
    obtain ⟨v2, hv2⟩ := cell0 (k := 2) h0 hl (by decide)
    simp only [sat_ok, sat_bad, sat_bind, sat_ite, bind_ok, bind_bad, thn_nx, thn_rt, thn_bk, thn_ct, fin_rt, fin_nx, ev_v, ev_c, ev_op, ev_un, ev_nil, ev_cons, ev_tup, ev_lst, ev_call, ev_own, ev_sl, ev_no, ev_part, ev_and, ev_or, ev_not, ev_if, ev_t, ev_tb, ev_tnot, ev_tand, ev_tor, ev_mt, ev_mt0, ev_rgd, ev_set, ev_asg, ev_ret, ev_retN, ev_ex, ev_pass, ev_brk, ev_cont, ev_ifS, ev_aug, ev_gn, ev_gtp, ev_gnl, ev_gcs, ev_gsb, ev_for, ev_rg1, ev_rg2, ev_its, ev_enum, ev_lc, ev_yes, ev_add_ii, ev_add_ss, ev_add_tt, ev_add_rr, ev_sub, ev_mul, ev_mod, ev_fdiv, ev_pow, ev_neg, ev_lt, ev_le, ev_gt, ev_ge, ev_eq_ii, ev_eq_ss, ev_eq_bb, ev_ne_ii, ev_ne_ss, ev_ne_bb, ev_is_n, ev_isnt_n, ev_int_i, ev_int_b, ev_min_ii, ev_max_ii, ev_abs, ev_tup_of, ev_tup_ofL, ev_lst_ofT, ev_lst_ofL, ev_len_t, ev_len_s, ev_len_r, ev_tru_b, ev_alloc, ev_tupD, ev_lstD, isi_tuple_non, isi_tuple_bl, isi_tuple_int, isi_tuple_str, isi_tuple_tup, isi_tuple_l, isi_tuple_f, isi_list_non, isi_list_bl, isi_list_int, isi_list_str, isi_list_tup, isi_list_l, isi_list_f, isi_bool_non, isi_bool_bl, isi_bool_int, isi_bool_str, isi_bool_tup, isi_bool_l, isi_bool_f, isi_int_non, isi_int_bl, isi_int_int, isi_int_str, isi_int_tup, isi_int_l, isi_int_f, isi_str_non, isi_str_bl, isi_str_int, isi_str_str, isi_str_tup, isi_str_l, isi_str_f, isi_dict_non, isi_dict_bl, isi_dict_int, isi_dict_str, isi_dict_tup, isi_dict_l, isi_dict_f, Ab.isNon, args, List.map, List.length_cons, List.length_nil, List.length_singleton, List.replicate, Nat.reduceSub, Nat.reduceAdd, Nat.zero_add, List.cons_append, List.nil_append, List.getElem?_cons_zero, List.getElem?_cons_succ, List.set_cons_zero, List.set_cons_succ, Option.some.injEq, decide_eq_true_eq, Bool.not_eq_true', decide_eq_false_iff_not, ite_true, ite_false, if_true, if_false, reduceIte, Bool.false_eq_true, Bool.not_true, Bool.not_false, Bool.true_eq_false, decide_true, decide_false, Nat.reduceLeDiff, Nat.reduceLT, hv, hv2, mw, source_spec]
    generalize v + 65537 * v2 = w
    have S1 := src_new (A := A) (v := w)
    have h0 := (Gr.app (B := [.lst [.int w, .int w, .int 0]])).keep _ _ h0
    generalize A ++ [.lst [.int w, .int w, .int 0]] = A1 at h0 S1 ⊢
    generalize A.length = s1 at S1 ⊢
    refine sat_seq ?_
    obtain ⟨v, hv⟩ := cell0 (k := 0) h0 hl (by decide)
    obtain ⟨v1, hv1⟩ := cell0 (k := 1) h0 hl (by decide)
    simp only [sat_ok, sat_bad, sat_bind, sat_ite, bind_ok, bind_bad, thn_nx, thn_rt, thn_bk, thn_ct, fin_rt, fin_nx, ev_v, ev_c, ev_op, ev_un, ev_nil, ev_cons, ev_tup, ev_lst, ev_call, ev_own, ev_sl, ev_no, ev_part, ev_and, ev_or, ev_not, ev_if, ev_t, ev_tb, ev_tnot, ev_tand, ev_tor, ev_mt, ev_mt0, ev_rgd, ev_set, ev_asg, ev_ret, ev_retN, ev_ex, ev_pass, ev_brk, ev_cont, ev_ifS, ev_aug, ev_gn, ev_gtp, ev_gnl, ev_gcs, ev_gsb, ev_for, ev_rg1, ev_rg2, ev_its, ev_enum, ev_lc, ev_yes, ev_add_ii, ev_add_ss, ev_add_tt, ev_add_rr, ev_sub, ev_mul, ev_mod, ev_fdiv, ev_pow, ev_neg, ev_lt, ev_le, ev_gt, ev_ge, ev_eq_ii, ev_eq_ss, ev_eq_bb, ev_ne_ii, ev_ne_ss, ev_ne_bb, ev_is_n, ev_isnt_n, ev_int_i, ev_int_b, ev_min_ii, ev_max_ii, ev_abs, ev_tup_of, ev_tup_ofL, ev_lst_ofT, ev_lst_ofL, ev_len_t, ev_len_s, ev_len_r, ev_tru_b, ev_alloc, ev_tupD, ev_lstD, isi_tuple_non, isi_tuple_bl, isi_tuple_int, isi_tuple_str, isi_tuple_tup, isi_tuple_l, isi_tuple_f, isi_list_non, isi_list_bl, isi_list_int, isi_list_str, isi_list_tup, isi_list_l, isi_list_f, isi_bool_non, isi_bool_bl, isi_bool_int, isi_bool_str, isi_bool_tup, isi_bool_l, isi_bool_f, isi_int_non, isi_int_bl, isi_int_int, isi_int_str, isi_int_tup, isi_int_l, isi_int_f, isi_str_non, isi_str_bl, isi_str_int, isi_str_str, isi_str_tup, isi_str_l, isi_str_f, isi_dict_non, isi_dict_bl, isi_dict_int, isi_dict_str, isi_dict_tup, isi_dict_l, isi_dict_f, Ab.isNon, args, List.map, List.length_cons, List.length_nil, List.length_singleton, List.replicate, Nat.reduceSub, Nat.reduceAdd, Nat.zero_add, List.cons_append, List.nil_append, List.getElem?_cons_zero, List.getElem?_cons_succ, List.set_cons_zero, List.set_cons_succ, Option.some.injEq, decide_eq_true_eq, Bool.not_eq_true', decide_eq_false_iff_not, ite_true, ite_false, if_true, if_false, reduceIte, Bool.false_eq_true, Bool.not_true, Bool.not_false, Bool.true_eq_false, decide_true, decide_false, Nat.reduceLeDiff, Nat.reduceLT, hv, hv1, m3, source_spec]
    generalize v1 + 31 * v = w
    have S2 := src_new (A := A1) (v := w)
    have n12 : A1.length ≠ s1 := by have := S1.lt; omega
    have S1 := S1.gr (Gr.app (B := [.lst [.int w, .int w, .int 0]]))
    clear h0 hv hv1 hv2
    generalize A1 ++ [.lst [.int w, .int w, .int 0]] = A2 at S1 S2 ⊢
    generalize A1.length = s2 at S2 n12 ⊢
    refine sat_seq ?_
    simp only [sat_ok, sat_bad, sat_bind, sat_ite, bind_ok, bind_bad, thn_nx, thn_rt, thn_bk, thn_ct, fin_rt, fin_nx, ev_v, ev_c, ev_op, ev_un, ev_nil, ev_cons, ev_tup, ev_lst, ev_call, ev_own, ev_sl, ev_no, ev_part, ev_and, ev_or, ev_not, ev_if, ev_t, ev_tb, ev_tnot, ev_tand, ev_tor, ev_mt, ev_mt0, ev_rgd, ev_set, ev_asg, ev_ret, ev_retN, ev_ex, ev_pass, ev_brk, ev_cont, ev_ifS, ev_aug, ev_gn, ev_gtp, ev_gnl, ev_gcs, ev_gsb, ev_for, ev_rg1, ev_rg2, ev_its, ev_enum, ev_lc, ev_yes, ev_add_ii, ev_add_ss, ev_add_tt, ev_add_rr, ev_sub, ev_mul, ev_mod, ev_fdiv, ev_pow, ev_neg, ev_lt, ev_le, ev_gt, ev_ge, ev_eq_ii, ev_eq_ss, ev_eq_bb, ev_ne_ii, ev_ne_ss, ev_ne_bb, ev_is_n, ev_isnt_n, ev_int_i, ev_int_b, ev_min_ii, ev_max_ii, ev_abs, ev_tup_of, ev_tup_ofL, ev_lst_ofT, ev_lst_ofL, ev_len_t, ev_len_s, ev_len_r, ev_tru_b, ev_alloc, ev_tupD, ev_lstD, isi_tuple_non, isi_tuple_bl, isi_tuple_int, isi_tuple_str, isi_tuple_tup, isi_tuple_l, isi_tuple_f, isi_list_non, isi_list_bl, isi_list_int, isi_list_str, isi_list_tup, isi_list_l, isi_list_f, isi_bool_non, isi_bool_bl, isi_bool_int, isi_bool_str, isi_bool_tup, isi_bool_l, isi_bool_f, isi_int_non, isi_int_bl, isi_int_int, isi_int_str, isi_int_tup, isi_int_l, isi_int_f, isi_str_non, isi_str_bl, isi_str_int, isi_str_str, isi_str_tup, isi_str_l, isi_str_f, isi_dict_non, isi_dict_bl, isi_dict_int, isi_dict_str, isi_dict_tup, isi_dict_l, isi_dict_f, Ab.isNon, args, List.map, List.length_cons, List.length_nil, List.length_singleton, List.replicate, Nat.reduceSub, Nat.reduceAdd, Nat.zero_add, List.cons_append, List.nil_append, List.getElem?_cons_zero, List.getElem?_cons_succ, List.set_cons_zero, List.set_cons_succ, Option.some.injEq, decide_eq_true_eq, Bool.not_eq_true', decide_eq_false_iff_not, ite_true, ite_false, if_true, if_false, reduceIte, Bool.false_eq_true, Bool.not_true, Bool.not_false, Bool.true_eq_false, decide_true, decide_false, Nat.reduceLeDiff, Nat.reduceLT]
    refine Sat.imp (names_spec S1) fun d A3 ⟨dr, r, u, e, lr, hu, hr⟩ => ?_
    subst e
    have S2 := S2.dr dr n12
    have S1 := dr.src
    rw [ev_sl_l hr]
    have c9 : cutL (((List.range 20).map (nmS u)).map D.str) none (some 9) = ((List.range 9).map (nmS u)).map D.str := rfl
    rw [c9]
    have nd := nmS_nd u hu
    have hN := at_new (A := A3) (o := .lst (((List.range 9).map (nmS u)).map D.str))
    have S1 := S1.gr (Gr.app (B := [.lst (((List.range 9).map (nmS u)).map D.str)]))
    have S2 := S2.gr (Gr.app (B := [.lst (((List.range 9).map (nmS u)).map D.str)]))
    have l9 : ((List.range 9).map (nmS u)).length = 9 := by simp
    clear hr c9
    generalize (List.range 9).map (nmS u) = nn at nd hN S1 S2 l9 ⊢
    generalize A3 ++ [.lst (nn.map D.str)] = A4 at hN S1 S2 ⊢
    generalize A3.length = rn at hN ⊢
    simp only [sat_ok, sat_bad, sat_bind, sat_ite, bind_ok, bind_bad, thn_nx, thn_rt, thn_bk, thn_ct, fin_rt, fin_nx, ev_v, ev_c, ev_op, ev_un, ev_nil, ev_cons, ev_tup, ev_lst, ev_call, ev_own, ev_sl, ev_no, ev_part, ev_and, ev_or, ev_not, ev_if, ev_t, ev_tb, ev_tnot, ev_tand, ev_tor, ev_mt, ev_mt0, ev_rgd, ev_set, ev_asg, ev_ret, ev_retN, ev_ex, ev_pass, ev_brk, ev_cont, ev_ifS, ev_aug, ev_gn, ev_gtp, ev_gnl, ev_gcs, ev_gsb, ev_for, ev_rg1, ev_rg2, ev_its, ev_enum, ev_lc, ev_yes, ev_add_ii, ev_add_ss, ev_add_tt, ev_add_rr, ev_sub, ev_mul, ev_mod, ev_fdiv, ev_pow, ev_neg, ev_lt, ev_le, ev_gt, ev_ge, ev_eq_ii, ev_eq_ss, ev_eq_bb, ev_ne_ii, ev_ne_ss, ev_ne_bb, ev_is_n, ev_isnt_n, ev_int_i, ev_int_b, ev_min_ii, ev_max_ii, ev_abs, ev_tup_of, ev_tup_ofL, ev_lst_ofT, ev_lst_ofL, ev_len_t, ev_len_s, ev_len_r, ev_tru_b, ev_alloc, ev_tupD, ev_lstD, isi_tuple_non, isi_tuple_bl, isi_tuple_int, isi_tuple_str, isi_tuple_tup, isi_tuple_l, isi_tuple_f, isi_list_non, isi_list_bl, isi_list_int, isi_list_str, isi_list_tup, isi_list_l, isi_list_f, isi_bool_non, isi_bool_bl, isi_bool_int, isi_bool_str, isi_bool_tup, isi_bool_l, isi_bool_f, isi_int_non, isi_int_bl, isi_int_int, isi_int_str, isi_int_tup, isi_int_l, isi_int_f, isi_str_non, isi_str_bl, isi_str_int, isi_str_str, isi_str_tup, isi_str_l, isi_str_f, isi_dict_non, isi_dict_bl, isi_dict_int, isi_dict_str, isi_dict_tup, isi_dict_l, isi_dict_f, Ab.isNon, args, List.map, List.length_cons, List.length_nil, List.length_singleton, List.replicate, Nat.reduceSub, Nat.reduceAdd, Nat.zero_add, List.cons_append, List.nil_append, List.getElem?_cons_zero, List.getElem?_cons_succ, List.set_cons_zero, List.set_cons_succ, Option.some.injEq, decide_eq_true_eq, Bool.not_eq_true', decide_eq_false_iff_not, ite_true, ite_false, if_true, if_false, reduceIte, Bool.false_eq_true, Bool.not_true, Bool.not_false, Bool.true_eq_false, decide_true, decide_false, Nat.reduceLeDiff, Nat.reduceLT]
    refine sat_seq ?_
    simp only [sat_ok, sat_bad, sat_bind, sat_ite, bind_ok, bind_bad, thn_nx, thn_rt, thn_bk, thn_ct, fin_rt, fin_nx, ev_v, ev_c, ev_op, ev_un, ev_nil, ev_cons, ev_tup, ev_lst, ev_call, ev_own, ev_sl, ev_no, ev_part, ev_and, ev_or, ev_not, ev_if, ev_t, ev_tb, ev_tnot, ev_tand, ev_tor, ev_mt, ev_mt0, ev_rgd, ev_set, ev_asg, ev_ret, ev_retN, ev_ex, ev_pass, ev_brk, ev_cont, ev_ifS, ev_aug, ev_gn, ev_gtp, ev_gnl, ev_gcs, ev_gsb, ev_for, ev_rg1, ev_rg2, ev_its, ev_enum, ev_lc, ev_yes, ev_add_ii, ev_add_ss, ev_add_tt, ev_add_rr, ev_sub, ev_mul, ev_mod, ev_fdiv, ev_pow, ev_neg, ev_lt, ev_le, ev_gt, ev_ge, ev_eq_ii, ev_eq_ss, ev_eq_bb, ev_ne_ii, ev_ne_ss, ev_ne_bb, ev_is_n, ev_isnt_n, ev_int_i, ev_int_b, ev_min_ii, ev_max_ii, ev_abs, ev_tup_of, ev_tup_ofL, ev_lst_ofT, ev_lst_ofL, ev_len_t, ev_len_s, ev_len_r, ev_tru_b, ev_alloc, ev_tupD, ev_lstD, isi_tuple_non, isi_tuple_bl, isi_tuple_int, isi_tuple_str, isi_tuple_tup, isi_tuple_l, isi_tuple_f, isi_list_non, isi_list_bl, isi_list_int, isi_list_str, isi_list_tup, isi_list_l, isi_list_f, isi_bool_non, isi_bool_bl, isi_bool_int, isi_bool_str, isi_bool_tup, isi_bool_l, isi_bool_f, isi_int_non, isi_int_bl, isi_int_int, isi_int_str, isi_int_tup, isi_int_l, isi_int_f, isi_str_non, isi_str_bl, isi_str_int, isi_str_str, isi_str_tup, isi_str_l, isi_str_f, isi_dict_non, isi_dict_bl, isi_dict_int, isi_dict_str, isi_dict_tup, isi_dict_l, isi_dict_f, Ab.isNon, args, List.map, List.length_cons, List.length_nil, List.length_singleton, List.replicate, Nat.reduceSub, Nat.reduceAdd, Nat.zero_add, List.cons_append, List.nil_append, List.getElem?_cons_zero, List.getElem?_cons_succ, List.set_cons_zero, List.set_cons_succ, Option.some.injEq, decide_eq_true_eq, Bool.not_eq_true', decide_eq_false_iff_not, ite_true, ite_false, if_true, if_false, reduceIte, Bool.false_eq_true, Bool.not_true, Bool.not_false, Bool.true_eq_false, decide_true, decide_false, Nat.reduceLeDiff, Nat.reduceLT]
    have hL := at_new (A := A4) (o := .lst [.int 5, .int 3, .int 1])
    have L1 : A4.length ≠ s1 := by have := S1.lt; omega
    have L2 : A4.length ≠ s2 := by have := S2.lt; omega
    have S1 := S1.gr (Gr.app (B := [.lst [.int 5, .int 3, .int 1]]))
    have S2 := S2.gr (Gr.app (B := [.lst [.int 5, .int 3, .int 1]]))
    have hN := (Gr.app (B := [.lst [.int 5, .int 3, .int 1]])).keep _ _ hN
    generalize A4 ++ [.lst [.int 5, .int 3, .int 1]] = A5 at hN S1 S2 hL ⊢
    generalize A4.length = rl at hL L1 L2 ⊢
    rw [ev_iseq_l hL]
    simp only [sat_ok, sat_bad, sat_bind, sat_ite, bind_ok, bind_bad, thn_nx, thn_rt, thn_bk, thn_ct, fin_rt, fin_nx, ev_v, ev_c, ev_op, ev_un, ev_nil, ev_cons, ev_tup, ev_lst, ev_call, ev_own, ev_sl, ev_no, ev_part, ev_and, ev_or, ev_not, ev_if, ev_t, ev_tb, ev_tnot, ev_tand, ev_tor, ev_mt, ev_mt0, ev_rgd, ev_set, ev_asg, ev_ret, ev_retN, ev_ex, ev_pass, ev_brk, ev_cont, ev_ifS, ev_aug, ev_gn, ev_gtp, ev_gnl, ev_gcs, ev_gsb, ev_for, ev_rg1, ev_rg2, ev_its, ev_enum, ev_lc, ev_yes, ev_add_ii, ev_add_ss, ev_add_tt, ev_add_rr, ev_sub, ev_mul, ev_mod, ev_fdiv, ev_pow, ev_neg, ev_lt, ev_le, ev_gt, ev_ge, ev_eq_ii, ev_eq_ss, ev_eq_bb, ev_ne_ii, ev_ne_ss, ev_ne_bb, ev_is_n, ev_isnt_n, ev_int_i, ev_int_b, ev_min_ii, ev_max_ii, ev_abs, ev_tup_of, ev_tup_ofL, ev_lst_ofT, ev_lst_ofL, ev_len_t, ev_len_s, ev_len_r, ev_tru_b, ev_alloc, ev_tupD, ev_lstD, isi_tuple_non, isi_tuple_bl, isi_tuple_int, isi_tuple_str, isi_tuple_tup, isi_tuple_l, isi_tuple_f, isi_list_non, isi_list_bl, isi_list_int, isi_list_str, isi_list_tup, isi_list_l, isi_list_f, isi_bool_non, isi_bool_bl, isi_bool_int, isi_bool_str, isi_bool_tup, isi_bool_l, isi_bool_f, isi_int_non, isi_int_bl, isi_int_int, isi_int_str, isi_int_tup, isi_int_l, isi_int_f, isi_str_non, isi_str_bl, isi_str_int, isi_str_str, isi_str_tup, isi_str_l, isi_str_f, isi_dict_non, isi_dict_bl, isi_dict_int, isi_dict_str, isi_dict_tup, isi_dict_l, isi_dict_f, Ab.isNon, args, List.map, List.length_cons, List.length_nil, List.length_singleton, List.replicate, Nat.reduceSub, Nat.reduceAdd, Nat.zero_add, List.cons_append, List.nil_append, List.getElem?_cons_zero, List.getElem?_cons_succ, List.set_cons_zero, List.set_cons_succ, Option.some.injEq, decide_eq_true_eq, Bool.not_eq_true', decide_eq_false_iff_not, ite_true, ite_false, if_true, if_false, reduceIte, Bool.false_eq_true, Bool.not_true, Bool.not_false, Bool.true_eq_false, decide_true, decide_false, Nat.reduceLeDiff, Nat.reduceLT]
    refine loop_inv (fun ds σ B => Sr s1 B ∧ Sr s2 B ∧ B[rn]? = some (.lst (nn.map D.str)) ∧ B[rl]? = some (.lst [.int 5, .int 3, .int 1]) ∧ (∀ d ∈ ds, ∃ n : Nat, d = .int (n : Nat) ∧ n ≤ 5) ∧ ∃ a b c e f, σ = [some (.ref 0), some (.ref s1), some (.ref s2), some (.ref rn), a, b, c, e, f])
      (fun d ds σ B ⟨S1, S2, hN, hL, hd, a, b, c, e, f, hσ⟩ => ?_) (fun σ B ⟨S1, S2, hN, hL, hd, a, b, c, e, f, hσ⟩ => ?_) _ _ _ ⟨S1, S2, hN, hL, ?_, none, none, none, none, none, rfl⟩
    · subst hσ
      obtain ⟨n, hdn, hn⟩ := hd d (List.mem_cons_self ..)
      subst hdn
      refine ⟨rdL_l hL, ?_⟩
      simp only [sat_ok, sat_bad, sat_bind, sat_ite, bind_ok, bind_bad, thn_nx, thn_rt, thn_bk, thn_ct, fin_rt, fin_nx, ev_v, ev_c, ev_op, ev_un, ev_nil, ev_cons, ev_tup, ev_lst, ev_call, ev_own, ev_sl, ev_no, ev_part, ev_and, ev_or, ev_not, ev_if, ev_t, ev_tb, ev_tnot, ev_tand, ev_tor, ev_mt, ev_mt0, ev_rgd, ev_set, ev_asg, ev_ret, ev_retN, ev_ex, ev_pass, ev_brk, ev_cont, ev_ifS, ev_aug, ev_gn, ev_gtp, ev_gnl, ev_gcs, ev_gsb, ev_for, ev_rg1, ev_rg2, ev_its, ev_enum, ev_lc, ev_yes, ev_add_ii, ev_add_ss, ev_add_tt, ev_add_rr, ev_sub, ev_mul, ev_mod, ev_fdiv, ev_pow, ev_neg, ev_lt, ev_le, ev_gt, ev_ge, ev_eq_ii, ev_eq_ss, ev_eq_bb, ev_ne_ii, ev_ne_ss, ev_ne_bb, ev_is_n, ev_isnt_n, ev_int_i, ev_int_b, ev_min_ii, ev_max_ii, ev_abs, ev_tup_of, ev_tup_ofL, ev_lst_ofT, ev_lst_ofL, ev_len_t, ev_len_s, ev_len_r, ev_tru_b, ev_alloc, ev_tupD, ev_lstD, isi_tuple_non, isi_tuple_bl, isi_tuple_int, isi_tuple_str, isi_tuple_tup, isi_tuple_l, isi_tuple_f, isi_list_non, isi_list_bl, isi_list_int, isi_list_str, isi_list_tup, isi_list_l, isi_list_f, isi_bool_non, isi_bool_bl, isi_bool_int, isi_bool_str, isi_bool_tup, isi_bool_l, isi_bool_f, isi_int_non, isi_int_bl, isi_int_int, isi_int_str, isi_int_tup, isi_int_l, isi_int_f, isi_str_non, isi_str_bl, isi_str_int, isi_str_str, isi_str_tup, isi_str_l, isi_str_f, isi_dict_non, isi_dict_bl, isi_dict_int, isi_dict_str, isi_dict_tup, isi_dict_l, isi_dict_f, Ab.isNon, args, List.map, List.length_cons, List.length_nil, List.length_singleton, List.replicate, Nat.reduceSub, Nat.reduceAdd, Nat.zero_add, List.cons_append, List.nil_append, List.getElem?_cons_zero, List.getElem?_cons_succ, List.set_cons_zero, List.set_cons_succ, Option.some.injEq, decide_eq_true_eq, Bool.not_eq_true', decide_eq_false_iff_not, ite_true, ite_false, if_true, if_false, reduceIte, Bool.false_eq_true, Bool.not_true, Bool.not_false, Bool.true_eq_false, decide_true, decide_false, Nat.reduceLeDiff, Nat.reduceLT]
      refine sat_seq ?_
      simp only [sat_ok, sat_bad, sat_bind, sat_ite, bind_ok, bind_bad, thn_nx, thn_rt, thn_bk, thn_ct, fin_rt, fin_nx, ev_v, ev_c, ev_op, ev_un, ev_nil, ev_cons, ev_tup, ev_lst, ev_call, ev_own, ev_sl, ev_no, ev_part, ev_and, ev_or, ev_not, ev_if, ev_t, ev_tb, ev_tnot, ev_tand, ev_tor, ev_mt, ev_mt0, ev_rgd, ev_set, ev_asg, ev_ret, ev_retN, ev_ex, ev_pass, ev_brk, ev_cont, ev_ifS, ev_aug, ev_gn, ev_gtp, ev_gnl, ev_gcs, ev_gsb, ev_for, ev_rg1, ev_rg2, ev_its, ev_enum, ev_lc, ev_yes, ev_add_ii, ev_add_ss, ev_add_tt, ev_add_rr, ev_sub, ev_mul, ev_mod, ev_fdiv, ev_pow, ev_neg, ev_lt, ev_le, ev_gt, ev_ge, ev_eq_ii, ev_eq_ss, ev_eq_bb, ev_ne_ii, ev_ne_ss, ev_ne_bb, ev_is_n, ev_isnt_n, ev_int_i, ev_int_b, ev_min_ii, ev_max_ii, ev_abs, ev_tup_of, ev_tup_ofL, ev_lst_ofT, ev_lst_ofL, ev_len_t, ev_len_s, ev_len_r, ev_tru_b, ev_alloc, ev_tupD, ev_lstD, isi_tuple_non, isi_tuple_bl, isi_tuple_int, isi_tuple_str, isi_tuple_tup, isi_tuple_l, isi_tuple_f, isi_list_non, isi_list_bl, isi_list_int, isi_list_str, isi_list_tup, isi_list_l, isi_list_f, isi_bool_non, isi_bool_bl, isi_bool_int, isi_bool_str, isi_bool_tup, isi_bool_l, isi_bool_f, isi_int_non, isi_int_bl, isi_int_int, isi_int_str, isi_int_tup, isi_int_l, isi_int_f, isi_str_non, isi_str_bl, isi_str_int, isi_str_str, isi_str_tup, isi_str_l, isi_str_f, isi_dict_non, isi_dict_bl, isi_dict_int, isi_dict_str, isi_dict_tup, isi_dict_l, isi_dict_f, Ab.isNon, args, List.map, List.length_cons, List.length_nil, List.length_singleton, List.replicate, Nat.reduceSub, Nat.reduceAdd, Nat.zero_add, List.cons_append, List.nil_append, List.getElem?_cons_zero, List.getElem?_cons_succ, List.set_cons_zero, List.set_cons_succ, Option.some.injEq, decide_eq_true_eq, Bool.not_eq_true', decide_eq_false_iff_not, ite_true, ite_false, if_true, if_false, reduceIte, Bool.false_eq_true, Bool.not_true, Bool.not_false, Bool.true_eq_false, decide_true, decide_false, Nat.reduceLeDiff, Nat.reduceLT]
      refine Sat.imp (pick_pos S1 (n := 6) (by decide) (by decide)) fun d B1 ⟨⟨v, e1, v0, v1⟩, dr⟩ => ?_
      subst e1
      have hN1 := dr.keep _ _ (S1.ne hN) hN
      refine sat_seq ?_
      have rs1 : rn ≠ s1 := S1.ne hN
      have rs2 : rn ≠ s2 := S2.ne hN
      have step : Sat (fIfS (fTB (fOp eqD (fV 5) (fC (.int 0))))
 (fSet (fOwn 2 m__law_link (fCons (fV 1) (fCons (fSl (fV 3) (fPart (fC (.int 5))) (fPart (fC (.int 7)))) (fNil)))) 8)
 (fIfS (fTB (fOp ltD (fV 5) (fC (.int 3))))
 (fSet (fOwn 3 (m__law_term 20) (fCons (fV 1) (fCons (fV 3) (fCons (fV 4) (fNil))))) 8)
 (fSet (fOwn 3 (m__law_fact 20) (fCons (fV 1) (fCons (fV 3) (fCons (fV 4) (fNil))))) 8))
          [some (.ref 0), some (.ref s1), some (.ref s2), some (.ref rn), some (.int (n : Nat)), some (.int v), c, e, f] B1) fun fl B2 => Dr s1 B B2 ∧ ∃ x s vs, fl = .nx [some (.ref 0), some (.ref s1), some (.ref s2), some (.ref rn), some (.int (n : Nat)), some (.int v), c, e, some x] ∧ Ex nn s n x vs := by
        simp only [sat_ok, sat_bad, sat_bind, sat_ite, bind_ok, bind_bad, thn_nx, thn_rt, thn_bk, thn_ct, fin_rt, fin_nx, ev_v, ev_c, ev_op, ev_un, ev_nil, ev_cons, ev_tup, ev_lst, ev_call, ev_own, ev_sl, ev_no, ev_part, ev_and, ev_or, ev_not, ev_if, ev_t, ev_tb, ev_tnot, ev_tand, ev_tor, ev_mt, ev_mt0, ev_rgd, ev_set, ev_asg, ev_ret, ev_retN, ev_ex, ev_pass, ev_brk, ev_cont, ev_ifS, ev_aug, ev_gn, ev_gtp, ev_gnl, ev_gcs, ev_gsb, ev_for, ev_rg1, ev_rg2, ev_its, ev_enum, ev_lc, ev_yes, ev_add_ii, ev_add_ss, ev_add_tt, ev_add_rr, ev_sub, ev_mul, ev_mod, ev_fdiv, ev_pow, ev_neg, ev_lt, ev_le, ev_gt, ev_ge, ev_eq_ii, ev_eq_ss, ev_eq_bb, ev_ne_ii, ev_ne_ss, ev_ne_bb, ev_is_n, ev_isnt_n, ev_int_i, ev_int_b, ev_min_ii, ev_max_ii, ev_abs, ev_tup_of, ev_tup_ofL, ev_lst_ofT, ev_lst_ofL, ev_len_t, ev_len_s, ev_len_r, ev_tru_b, ev_alloc, ev_tupD, ev_lstD, isi_tuple_non, isi_tuple_bl, isi_tuple_int, isi_tuple_str, isi_tuple_tup, isi_tuple_l, isi_tuple_f, isi_list_non, isi_list_bl, isi_list_int, isi_list_str, isi_list_tup, isi_list_l, isi_list_f, isi_bool_non, isi_bool_bl, isi_bool_int, isi_bool_str, isi_bool_tup, isi_bool_l, isi_bool_f, isi_int_non, isi_int_bl, isi_int_int, isi_int_str, isi_int_tup, isi_int_l, isi_int_f, isi_str_non, isi_str_bl, isi_str_int, isi_str_str, isi_str_tup, isi_str_l, isi_str_f, isi_dict_non, isi_dict_bl, isi_dict_int, isi_dict_str, isi_dict_tup, isi_dict_l, isi_dict_f, Ab.isNon, args, List.map, List.length_cons, List.length_nil, List.length_singleton, List.replicate, Nat.reduceSub, Nat.reduceAdd, Nat.zero_add, List.cons_append, List.nil_append, List.getElem?_cons_zero, List.getElem?_cons_succ, List.set_cons_zero, List.set_cons_succ, Option.some.injEq, decide_eq_true_eq, Bool.not_eq_true', decide_eq_false_iff_not, ite_true, ite_false, if_true, if_false, reduceIte, Bool.false_eq_true, Bool.not_true, Bool.not_false, Bool.true_eq_false, decide_true, decide_false, Nat.reduceLeDiff, Nat.reduceLT]
        split
        · rw [ev_sl_l hN1]
          have c3 : cutL (nn.map D.str) (some 5) (some 7) = ((nn.drop 5).take (7 - 5)).map D.str := by
            have := cut_names (ns := nn) (a := 5) (b := 7)
            rw [l9] at this
            exact this
          rw [c3]
          simp only [sat_ok, sat_bad, sat_bind, sat_ite, bind_ok, bind_bad, thn_nx, thn_rt, thn_bk, thn_ct, fin_rt, fin_nx, ev_v, ev_c, ev_op, ev_un, ev_nil, ev_cons, ev_tup, ev_lst, ev_call, ev_own, ev_sl, ev_no, ev_part, ev_and, ev_or, ev_not, ev_if, ev_t, ev_tb, ev_tnot, ev_tand, ev_tor, ev_mt, ev_mt0, ev_rgd, ev_set, ev_asg, ev_ret, ev_retN, ev_ex, ev_pass, ev_brk, ev_cont, ev_ifS, ev_aug, ev_gn, ev_gtp, ev_gnl, ev_gcs, ev_gsb, ev_for, ev_rg1, ev_rg2, ev_its, ev_enum, ev_lc, ev_yes, ev_add_ii, ev_add_ss, ev_add_tt, ev_add_rr, ev_sub, ev_mul, ev_mod, ev_fdiv, ev_pow, ev_neg, ev_lt, ev_le, ev_gt, ev_ge, ev_eq_ii, ev_eq_ss, ev_eq_bb, ev_ne_ii, ev_ne_ss, ev_ne_bb, ev_is_n, ev_isnt_n, ev_int_i, ev_int_b, ev_min_ii, ev_max_ii, ev_abs, ev_tup_of, ev_tup_ofL, ev_lst_ofT, ev_lst_ofL, ev_len_t, ev_len_s, ev_len_r, ev_tru_b, ev_alloc, ev_tupD, ev_lstD, isi_tuple_non, isi_tuple_bl, isi_tuple_int, isi_tuple_str, isi_tuple_tup, isi_tuple_l, isi_tuple_f, isi_list_non, isi_list_bl, isi_list_int, isi_list_str, isi_list_tup, isi_list_l, isi_list_f, isi_bool_non, isi_bool_bl, isi_bool_int, isi_bool_str, isi_bool_tup, isi_bool_l, isi_bool_f, isi_int_non, isi_int_bl, isi_int_int, isi_int_str, isi_int_tup, isi_int_l, isi_int_f, isi_str_non, isi_str_bl, isi_str_int, isi_str_str, isi_str_tup, isi_str_l, isi_str_f, isi_dict_non, isi_dict_bl, isi_dict_int, isi_dict_str, isi_dict_tup, isi_dict_l, isi_dict_f, Ab.isNon, args, List.map, List.length_cons, List.length_nil, List.length_singleton, List.replicate, Nat.reduceSub, Nat.reduceAdd, Nat.zero_add, List.cons_append, List.nil_append, List.getElem?_cons_zero, List.getElem?_cons_succ, List.set_cons_zero, List.set_cons_succ, Option.some.injEq, decide_eq_true_eq, Bool.not_eq_true', decide_eq_false_iff_not, ite_true, ite_false, if_true, if_false, reduceIte, Bool.false_eq_true, Bool.not_true, Bool.not_false, Bool.true_eq_false, decide_true, decide_false, Nat.reduceLeDiff, Nat.reduceLT]
          have dr2 := dr.trans (Dr.app dr.src [.lst (((nn.drop 5).take (7 - 5)).map D.str)])
          have sl := dr.src.lt
          refine Sat.imp (link_spec dr2.src (g := B1.length) (by omega) l9 (by decide) (by decide) (by decide) at_new n) fun x B2 ⟨⟨vs, hx⟩, dr3⟩ => ?_
          exact ⟨dr2.trans dr3, x, _, vs, rfl, hx⟩
        · split
          · have := term_spec rs1 l9 n (19 - n) B1 dr.src hN1
            rw [show n + (19 - n) + 1 = 20 by omega] at this
            refine Sat.imp this fun x B2 ⟨⟨vs, hx⟩, dr3⟩ => ?_
            exact ⟨dr.trans dr3, x, _, vs, rfl, hx⟩
          · have := fact_spec rs1 l9 n (19 - n) B1 (by omega) dr.src hN1
            rw [show n + (19 - n) + 1 = 20 by omega] at this
            refine Sat.imp this fun x B2 ⟨⟨vs, hx⟩, dr3⟩ => ?_
            exact ⟨dr.trans dr3, x, _, vs, rfl, hx⟩
      refine Sat.imp step fun fl B2 ⟨dr, x, sx, vs, e1, hx⟩ => ?_
      subst e1
      have hN := dr.keep _ _ rs1 hN
      have hL := dr.keep _ _ L1 hL
      have S2 := S2.dr dr n12
      have S1 := dr.src
      refine sat_seq ?_
      simp only [sat_ok, sat_bad, sat_bind, sat_ite, bind_ok, bind_bad, thn_nx, thn_rt, thn_bk, thn_ct, fin_rt, fin_nx, ev_v, ev_c, ev_op, ev_un, ev_nil, ev_cons, ev_tup, ev_lst, ev_call, ev_own, ev_sl, ev_no, ev_part, ev_and, ev_or, ev_not, ev_if, ev_t, ev_tb, ev_tnot, ev_tand, ev_tor, ev_mt, ev_mt0, ev_rgd, ev_set, ev_asg, ev_ret, ev_retN, ev_ex, ev_pass, ev_brk, ev_cont, ev_ifS, ev_aug, ev_gn, ev_gtp, ev_gnl, ev_gcs, ev_gsb, ev_for, ev_rg1, ev_rg2, ev_its, ev_enum, ev_lc, ev_yes, ev_add_ii, ev_add_ss, ev_add_tt, ev_add_rr, ev_sub, ev_mul, ev_mod, ev_fdiv, ev_pow, ev_neg, ev_lt, ev_le, ev_gt, ev_ge, ev_eq_ii, ev_eq_ss, ev_eq_bb, ev_ne_ii, ev_ne_ss, ev_ne_bb, ev_is_n, ev_isnt_n, ev_int_i, ev_int_b, ev_min_ii, ev_max_ii, ev_abs, ev_tup_of, ev_tup_ofL, ev_lst_ofT, ev_lst_ofL, ev_len_t, ev_len_s, ev_len_r, ev_tru_b, ev_alloc, ev_tupD, ev_lstD, isi_tuple_non, isi_tuple_bl, isi_tuple_int, isi_tuple_str, isi_tuple_tup, isi_tuple_l, isi_tuple_f, isi_list_non, isi_list_bl, isi_list_int, isi_list_str, isi_list_tup, isi_list_l, isi_list_f, isi_bool_non, isi_bool_bl, isi_bool_int, isi_bool_str, isi_bool_tup, isi_bool_l, isi_bool_f, isi_int_non, isi_int_bl, isi_int_int, isi_int_str, isi_int_tup, isi_int_l, isi_int_f, isi_str_non, isi_str_bl, isi_str_int, isi_str_str, isi_str_tup, isi_str_l, isi_str_f, isi_dict_non, isi_dict_bl, isi_dict_int, isi_dict_str, isi_dict_tup, isi_dict_l, isi_dict_f, Ab.isNon, args, List.map, List.length_cons, List.length_nil, List.length_singleton, List.replicate, Nat.reduceSub, Nat.reduceAdd, Nat.zero_add, List.cons_append, List.nil_append, List.getElem?_cons_zero, List.getElem?_cons_succ, List.set_cons_zero, List.set_cons_succ, Option.some.injEq, decide_eq_true_eq, Bool.not_eq_true', decide_eq_false_iff_not, ite_true, ite_false, if_true, if_false, reduceIte, Bool.false_eq_true, Bool.not_true, Bool.not_false, Bool.true_eq_false, decide_true, decide_false, Nat.reduceLeDiff, Nat.reduceLT]
      refine Sat.imp (values_spec S2 rs2 hN nd hx (by omega)) fun y B3 ⟨dr, r1, k1, e1, q1, h1, d1, g1⟩ => ?_
      subst e1
      have hN := dr.keep _ _ rs2 hN
      have hL := dr.keep _ _ L2 hL
      have S1 := S1.dr dr (Ne.symm n12)
      have S2 := dr.src
      refine sat_seq ?_
      simp only [sat_ok, sat_bad, sat_bind, sat_ite, bind_ok, bind_bad, thn_nx, thn_rt, thn_bk, thn_ct, fin_rt, fin_nx, ev_v, ev_c, ev_op, ev_un, ev_nil, ev_cons, ev_tup, ev_lst, ev_call, ev_own, ev_sl, ev_no, ev_part, ev_and, ev_or, ev_not, ev_if, ev_t, ev_tb, ev_tnot, ev_tand, ev_tor, ev_mt, ev_mt0, ev_rgd, ev_set, ev_asg, ev_ret, ev_retN, ev_ex, ev_pass, ev_brk, ev_cont, ev_ifS, ev_aug, ev_gn, ev_gtp, ev_gnl, ev_gcs, ev_gsb, ev_for, ev_rg1, ev_rg2, ev_its, ev_enum, ev_lc, ev_yes, ev_add_ii, ev_add_ss, ev_add_tt, ev_add_rr, ev_sub, ev_mul, ev_mod, ev_fdiv, ev_pow, ev_neg, ev_lt, ev_le, ev_gt, ev_ge, ev_eq_ii, ev_eq_ss, ev_eq_bb, ev_ne_ii, ev_ne_ss, ev_ne_bb, ev_is_n, ev_isnt_n, ev_int_i, ev_int_b, ev_min_ii, ev_max_ii, ev_abs, ev_tup_of, ev_tup_ofL, ev_lst_ofT, ev_lst_ofL, ev_len_t, ev_len_s, ev_len_r, ev_tru_b, ev_alloc, ev_tupD, ev_lstD, isi_tuple_non, isi_tuple_bl, isi_tuple_int, isi_tuple_str, isi_tuple_tup, isi_tuple_l, isi_tuple_f, isi_list_non, isi_list_bl, isi_list_int, isi_list_str, isi_list_tup, isi_list_l, isi_list_f, isi_bool_non, isi_bool_bl, isi_bool_int, isi_bool_str, isi_bool_tup, isi_bool_l, isi_bool_f, isi_int_non, isi_int_bl, isi_int_int, isi_int_str, isi_int_tup, isi_int_l, isi_int_f, isi_str_non, isi_str_bl, isi_str_int, isi_str_str, isi_str_tup, isi_str_l, isi_str_f, isi_dict_non, isi_dict_bl, isi_dict_int, isi_dict_str, isi_dict_tup, isi_dict_l, isi_dict_f, Ab.isNon, args, List.map, List.length_cons, List.length_nil, List.length_singleton, List.replicate, Nat.reduceSub, Nat.reduceAdd, Nat.zero_add, List.cons_append, List.nil_append, List.getElem?_cons_zero, List.getElem?_cons_succ, List.set_cons_zero, List.set_cons_succ, Option.some.injEq, decide_eq_true_eq, Bool.not_eq_true', decide_eq_false_iff_not, ite_true, ite_false, if_true, if_false, reduceIte, Bool.false_eq_true, Bool.not_true, Bool.not_false, Bool.true_eq_false, decide_true, decide_false, Nat.reduceLeDiff, Nat.reduceLT]
      refine Sat.imp (values_spec S2 rs2 hN nd hx (by omega)) fun y B4 ⟨dr, r2, k2, e1, q2, h2, d2, g2⟩ => ?_
      subst e1
      have h1 := dr.keep _ _ q1 h1
      have hN := dr.keep _ _ rs2 hN
      have hL := dr.keep _ _ L2 hL
      have S1 := S1.dr dr (Ne.symm n12)
      have S2 := dr.src
      refine Sat.imp (agrees_spec hx (by omega) h1 h2 d1 d2 g1 g2) fun y B5 ⟨e1, G⟩ => ?_
      subst e1
      simp only [sat_ok, sat_bad, sat_bind, sat_ite, bind_ok, bind_bad, thn_nx, thn_rt, thn_bk, thn_ct, fin_rt, fin_nx, ev_v, ev_c, ev_op, ev_un, ev_nil, ev_cons, ev_tup, ev_lst, ev_call, ev_own, ev_sl, ev_no, ev_part, ev_and, ev_or, ev_not, ev_if, ev_t, ev_tb, ev_tnot, ev_tand, ev_tor, ev_mt, ev_mt0, ev_rgd, ev_set, ev_asg, ev_ret, ev_retN, ev_ex, ev_pass, ev_brk, ev_cont, ev_ifS, ev_aug, ev_gn, ev_gtp, ev_gnl, ev_gcs, ev_gsb, ev_for, ev_rg1, ev_rg2, ev_its, ev_enum, ev_lc, ev_yes, ev_add_ii, ev_add_ss, ev_add_tt, ev_add_rr, ev_sub, ev_mul, ev_mod, ev_fdiv, ev_pow, ev_neg, ev_lt, ev_le, ev_gt, ev_ge, ev_eq_ii, ev_eq_ss, ev_eq_bb, ev_ne_ii, ev_ne_ss, ev_ne_bb, ev_is_n, ev_isnt_n, ev_int_i, ev_int_b, ev_min_ii, ev_max_ii, ev_abs, ev_tup_of, ev_tup_ofL, ev_lst_ofT, ev_lst_ofL, ev_len_t, ev_len_s, ev_len_r, ev_tru_b, ev_alloc, ev_tupD, ev_lstD, isi_tuple_non, isi_tuple_bl, isi_tuple_int, isi_tuple_str, isi_tuple_tup, isi_tuple_l, isi_tuple_f, isi_list_non, isi_list_bl, isi_list_int, isi_list_str, isi_list_tup, isi_list_l, isi_list_f, isi_bool_non, isi_bool_bl, isi_bool_int, isi_bool_str, isi_bool_tup, isi_bool_l, isi_bool_f, isi_int_non, isi_int_bl, isi_int_int, isi_int_str, isi_int_tup, isi_int_l, isi_int_f, isi_str_non, isi_str_bl, isi_str_int, isi_str_str, isi_str_tup, isi_str_l, isi_str_f, isi_dict_non, isi_dict_bl, isi_dict_int, isi_dict_str, isi_dict_tup, isi_dict_l, isi_dict_f, Ab.isNon, args, List.map, List.length_cons, List.length_nil, List.length_singleton, List.replicate, Nat.reduceSub, Nat.reduceAdd, Nat.zero_add, List.cons_append, List.nil_append, List.getElem?_cons_zero, List.getElem?_cons_succ, List.set_cons_zero, List.set_cons_succ, Option.some.injEq, decide_eq_true_eq, Bool.not_eq_true', decide_eq_false_iff_not, ite_true, ite_false, if_true, if_false, reduceIte, Bool.false_eq_true, Bool.not_true, Bool.not_false, Bool.true_eq_false, decide_true, decide_false, Nat.reduceLeDiff, Nat.reduceLT, turn_]
      exact ⟨S1.gr G, S2.gr G, G.keep _ _ hN, G.keep _ _ hL, fun d' hd' => hd d' (List.mem_cons_of_mem _ hd'), _, _, _, _, _, rfl⟩
    · subst hσ
      refine ⟨rdL_l hL, ?_⟩
      simp only [sat_ok, sat_bad, sat_bind, sat_ite, bind_ok, bind_bad, thn_nx, thn_rt, thn_bk, thn_ct, fin_rt, fin_nx, ev_v, ev_c, ev_op, ev_un, ev_nil, ev_cons, ev_tup, ev_lst, ev_call, ev_own, ev_sl, ev_no, ev_part, ev_and, ev_or, ev_not, ev_if, ev_t, ev_tb, ev_tnot, ev_tand, ev_tor, ev_mt, ev_mt0, ev_rgd, ev_set, ev_asg, ev_ret, ev_retN, ev_ex, ev_pass, ev_brk, ev_cont, ev_ifS, ev_aug, ev_gn, ev_gtp, ev_gnl, ev_gcs, ev_gsb, ev_for, ev_rg1, ev_rg2, ev_its, ev_enum, ev_lc, ev_yes, ev_add_ii, ev_add_ss, ev_add_tt, ev_add_rr, ev_sub, ev_mul, ev_mod, ev_fdiv, ev_pow, ev_neg, ev_lt, ev_le, ev_gt, ev_ge, ev_eq_ii, ev_eq_ss, ev_eq_bb, ev_ne_ii, ev_ne_ss, ev_ne_bb, ev_is_n, ev_isnt_n, ev_int_i, ev_int_b, ev_min_ii, ev_max_ii, ev_abs, ev_tup_of, ev_tup_ofL, ev_lst_ofT, ev_lst_ofL, ev_len_t, ev_len_s, ev_len_r, ev_tru_b, ev_alloc, ev_tupD, ev_lstD, isi_tuple_non, isi_tuple_bl, isi_tuple_int, isi_tuple_str, isi_tuple_tup, isi_tuple_l, isi_tuple_f, isi_list_non, isi_list_bl, isi_list_int, isi_list_str, isi_list_tup, isi_list_l, isi_list_f, isi_bool_non, isi_bool_bl, isi_bool_int, isi_bool_str, isi_bool_tup, isi_bool_l, isi_bool_f, isi_int_non, isi_int_bl, isi_int_int, isi_int_str, isi_int_tup, isi_int_l, isi_int_f, isi_str_non, isi_str_bl, isi_str_int, isi_str_str, isi_str_tup, isi_str_l, isi_str_f, isi_dict_non, isi_dict_bl, isi_dict_int, isi_dict_str, isi_dict_tup, isi_dict_l, isi_dict_f, Ab.isNon, args, List.map, List.length_cons, List.length_nil, List.length_singleton, List.replicate, Nat.reduceSub, Nat.reduceAdd, Nat.zero_add, List.cons_append, List.nil_append, List.getElem?_cons_zero, List.getElem?_cons_succ, List.set_cons_zero, List.set_cons_succ, Option.some.injEq, decide_eq_true_eq, Bool.not_eq_true', decide_eq_false_iff_not, ite_true, ite_false, if_true, if_false, reduceIte, Bool.false_eq_true, Bool.not_true, Bool.not_false, Bool.true_eq_false, decide_true, decide_false, Nat.reduceLeDiff, Nat.reduceLT]
    · intro d hd
      simp only [List.mem_cons, List.not_mem_nil, or_false] at hd
      rcases hd with rfl | rfl | rfl
      · exact ⟨5, rfl, by decide⟩
      · exact ⟨3, rfl, by decide⟩
      · exact ⟨1, rfl, by decide⟩
  obtain ⟨d, A', e, rfl⟩ := key.eq
  exact ⟨A', e⟩
end Law

namespace Law
open PySem PySem.Spec PyProof.Rows L2 Ab
theorem all_mk {l : PySem.W.OpenLaw} {w : World} {K : PySem.W.Frag} {h : Heap} {mg : Str → Option Value} {fa : Addr} (X : K.In h) (G : h.Ns mainGlobals mg) (hfa : mg "law" = some (.ref fa))
    {f0 : Addr} {od0 an0 : Option Addr} {sl0 : Array (Option Value)} {oc0 kV0 dc0 pm0 cd0 ct0 : Value}
    {f1 : Addr} {od1 an1 : Option Addr} {sl1 : Array (Option Value)} {oc1 kV1 dc1 pm1 cd1 ct1 : Value}
    {f2 : Addr} {od2 an2 : Option Addr} {sl2 : Array (Option Value)} {oc2 kV2 dc2 pm2 cd2 ct2 : Value}
    {f3 : Addr} {od3 an3 : Option Addr} {sl3 : Array (Option Value)} {oc3 kV3 dc3 pm3 cd3 ct3 : Value}
    {f4 : Addr} {od4 an4 : Option Addr} {sl4 : Array (Option Value)} {oc4 kV4 dc4 pm4 cd4 ct4 : Value}
    {f5 : Addr} {od5 an5 : Option Addr} {sl5 : Array (Option Value)} {oc5 kV5 dc5 pm5 cd5 ct5 : Value}
    {f6 : Addr} {od6 an6 : Option Addr} {sl6 : Array (Option Value)} {oc6 kV6 dc6 pm6 cd6 ct6 : Value}
    {f7 : Addr} {od7 an7 : Option Addr} {sl7 : Array (Option Value)} {oc7 kV7 dc7 pm7 cd7 ct7 : Value}
    {f8 : Addr} {od8 an8 : Option Addr} {sl8 : Array (Option Value)} {oc8 kV8 dc8 pm8 cd8 ct8 : Value}
    {f9 : Addr} {od9 an9 : Option Addr} {sl9 : Array (Option Value)} {oc9 kV9 dc9 pm9 cd9 ct9 : Value}
    {f10 : Addr} {od10 an10 : Option Addr} {sl10 : Array (Option Value)} {oc10 kV10 dc10 pm10 cd10 ct10 : Value}
    {f11 : Addr} {od11 an11 : Option Addr} {sl11 : Array (Option Value)} {oc11 kV11 dc11 pm11 cd11 ct11 : Value}
    {f12 : Addr} {od12 an12 : Option Addr} {sl12 : Array (Option Value)} {oc12 kV12 dc12 pm12 cd12 ct12 : Value}
    {f13 : Addr} {od13 an13 : Option Addr} {sl13 : Array (Option Value)} {oc13 kV13 dc13 pm13 cd13 ct13 : Value}
    {f14 : Addr} {od14 an14 : Option Addr} {sl14 : Array (Option Value)} {oc14 kV14 dc14 pm14 cd14 ct14 : Value}
    {f15 : Addr} {od15 an15 : Option Addr} {sl15 : Array (Option Value)} {oc15 kV15 dc15 pm15 cd15 ct15 : Value}
    {f16 : Addr} {od16 an16 : Option Addr} {sl16 : Array (Option Value)} {oc16 kV16 dc16 pm16 cd16 ct16 : Value}
    (a0 : PySem.W.nsIn K mainGlobals "_law_same" = some (some (.ref f0))) (l0 : K.lookup f0 = some ⟨oc0, od0, .func (PySem.W.fnOf "_law_same" "_law_same" (defArgs s__law_same) (defBody s__law_same) (defScope s__law_same) .none kV0 dc0 pm0 an0 cd0 ct0), sl0⟩) (c0 : PySem.W.codeIn K cd0 "_law_same" = true) (k0 : PySem.W.keepIn K (.ref f0) = true)
    (a1 : PySem.W.nsIn K mainGlobals "_law_value" = some (some (.ref f1))) (l1 : K.lookup f1 = some ⟨oc1, od1, .func (PySem.W.fnOf "_law_value" "_law_value" (defArgs s__law_value) (defBody s__law_value) (defScope s__law_value) .none kV1 dc1 pm1 an1 cd1 ct1), sl1⟩) (c1 : PySem.W.codeIn K cd1 "_law_value" = true) (k1 : PySem.W.keepIn K (.ref f1) = true)
    (a2 : PySem.W.nsIn K mainGlobals "combine" = some (some (.ref f2))) (l2 : K.lookup f2 = some ⟨oc2, od2, .func (PySem.W.fnOf "combine" "combine" (defArgs s_combine) (defBody s_combine) (defScope s_combine) .none kV2 dc2 pm2 an2 cd2 ct2), sl2⟩) (c2 : PySem.W.codeIn K cd2 "combine" = true) (k2 : PySem.W.keepIn K (.ref f2) = true)
    (a3 : PySem.W.nsIn K mainGlobals "evaluate" = some (some (.ref f3))) (l3 : K.lookup f3 = some ⟨oc3, od3, .func (PySem.W.fnOf "evaluate" "evaluate" (defArgs s_evaluate) (defBody s_evaluate) (defScope s_evaluate) .none kV3 dc3 pm3 an3 cd3 ct3), sl3⟩) (c3 : PySem.W.codeIn K cd3 "evaluate" = true) (k3 : PySem.W.keepIn K (.ref f3) = true)
    (a4 : PySem.W.nsIn K mainGlobals "_law_agrees" = some (some (.ref f4))) (l4 : K.lookup f4 = some ⟨oc4, od4, .func (PySem.W.fnOf "_law_agrees" "_law_agrees" (defArgs s__law_agrees) (defBody s__law_agrees) (defScope s__law_agrees) .none kV4 dc4 pm4 an4 cd4 ct4), sl4⟩) (c4 : PySem.W.codeIn K cd4 "_law_agrees" = true) (k4 : PySem.W.keepIn K (.ref f4) = true)
    (a5 : PySem.W.nsIn K mainGlobals "_law_cell" = some (some (.ref f5))) (l5 : K.lookup f5 = some ⟨oc5, od5, .func (PySem.W.fnOf "_law_cell" "_law_cell" (defArgs s__law_cell) (defBody s__law_cell) (defScope s__law_cell) .none kV5 dc5 pm5 an5 cd5 ct5), sl5⟩) (c5 : PySem.W.codeIn K cd5 "_law_cell" = true) (k5 : PySem.W.keepIn K (.ref f5) = true)
    (a6 : PySem.W.nsIn K mainGlobals "_law_pick" = some (some (.ref f6))) (l6 : K.lookup f6 = some ⟨oc6, od6, .func (PySem.W.fnOf "_law_pick" "_law_pick" (defArgs s__law_pick) (defBody s__law_pick) (defScope s__law_pick) .none kV6 dc6 pm6 an6 cd6 ct6), sl6⟩) (c6 : PySem.W.codeIn K cd6 "_law_pick" = true) (k6 : PySem.W.keepIn K (.ref f6) = true)
    (a7 : PySem.W.nsIn K mainGlobals "_law_one" = some (some (.ref f7))) (l7 : K.lookup f7 = some ⟨oc7, od7, .func (PySem.W.fnOf "_law_one" "_law_one" (defArgs s__law_one) (defBody s__law_one) (defScope s__law_one) .none kV7 dc7 pm7 an7 cd7 ct7), sl7⟩) (c7 : PySem.W.codeIn K cd7 "_law_one" = true) (k7 : PySem.W.keepIn K (.ref f7) = true)
    (a8 : PySem.W.nsIn K mainGlobals "_law_link" = some (some (.ref f8))) (l8 : K.lookup f8 = some ⟨oc8, od8, .func (PySem.W.fnOf "_law_link" "_law_link" (defArgs s__law_link) (defBody s__law_link) (defScope s__law_link) .none kV8 dc8 pm8 an8 cd8 ct8), sl8⟩) (c8 : PySem.W.codeIn K cd8 "_law_link" = true) (k8 : PySem.W.keepIn K (.ref f8) = true)
    (a9 : PySem.W.nsIn K mainGlobals "_law_figure" = some (some (.ref f9))) (l9 : K.lookup f9 = some ⟨oc9, od9, .func (PySem.W.fnOf "_law_figure" "_law_figure" (defArgs s__law_figure) (defBody s__law_figure) (defScope s__law_figure) .none kV9 dc9 pm9 an9 cd9 ct9), sl9⟩) (c9 : PySem.W.codeIn K cd9 "_law_figure" = true) (k9 : PySem.W.keepIn K (.ref f9) = true)
    (a10 : PySem.W.nsIn K mainGlobals "_law_term" = some (some (.ref f10))) (l10 : K.lookup f10 = some ⟨oc10, od10, .func (PySem.W.fnOf "_law_term" "_law_term" (defArgs s__law_term) (defBody s__law_term) (defScope s__law_term) .none kV10 dc10 pm10 an10 cd10 ct10), sl10⟩) (c10 : PySem.W.codeIn K cd10 "_law_term" = true) (k10 : PySem.W.keepIn K (.ref f10) = true)
    (a11 : PySem.W.nsIn K mainGlobals "_law_fact" = some (some (.ref f11))) (l11 : K.lookup f11 = some ⟨oc11, od11, .func (PySem.W.fnOf "_law_fact" "_law_fact" (defArgs s__law_fact) (defBody s__law_fact) (defScope s__law_fact) .none kV11 dc11 pm11 an11 cd11 ct11), sl11⟩) (c11 : PySem.W.codeIn K cd11 "_law_fact" = true) (k11 : PySem.W.keepIn K (.ref f11) = true)
    (a12 : PySem.W.nsIn K mainGlobals "_law_names" = some (some (.ref f12))) (l12 : K.lookup f12 = some ⟨oc12, od12, .func (PySem.W.fnOf "_law_names" "_law_names" (defArgs s__law_names) (defBody s__law_names) (defScope s__law_names) .none kV12 dc12 pm12 an12 cd12 ct12), sl12⟩) (c12 : PySem.W.codeIn K cd12 "_law_names" = true) (k12 : PySem.W.keepIn K (.ref f12) = true)
    (a13 : PySem.W.nsIn K mainGlobals "_law_source" = some (some (.ref f13))) (l13 : K.lookup f13 = some ⟨oc13, od13, .func (PySem.W.fnOf "_law_source" "_law_source" (defArgs s__law_source) (defBody s__law_source) (defScope s__law_source) .none kV13 dc13 pm13 an13 cd13 ct13), sl13⟩) (c13 : PySem.W.codeIn K cd13 "_law_source" = true) (k13 : PySem.W.keepIn K (.ref f13) = true)
    (a14 : PySem.W.nsIn K mainGlobals "_law_variables" = some (some (.ref f14))) (l14 : K.lookup f14 = some ⟨oc14, od14, .func (PySem.W.fnOf "_law_variables" "_law_variables" (defArgs s__law_variables) (defBody s__law_variables) (defScope s__law_variables) .none kV14 dc14 pm14 an14 cd14 ct14), sl14⟩) (c14 : PySem.W.codeIn K cd14 "_law_variables" = true) (k14 : PySem.W.keepIn K (.ref f14) = true)
    (a15 : PySem.W.nsIn K mainGlobals "_law_values" = some (some (.ref f15))) (l15 : K.lookup f15 = some ⟨oc15, od15, .func (PySem.W.fnOf "_law_values" "_law_values" (defArgs s__law_values) (defBody s__law_values) (defScope s__law_values) .none kV15 dc15 pm15 an15 cd15 ct15), sl15⟩) (c15 : PySem.W.codeIn K cd15 "_law_values" = true) (k15 : PySem.W.keepIn K (.ref f15) = true)
    (a16 : PySem.W.nsIn K mainGlobals "law" = some (some (.ref f16))) (l16 : K.lookup f16 = some ⟨oc16, od16, .func (PySem.W.fnOf "law" "law" (defArgs s_law) (defBody s_law) (defScope s_law) .none kV16 dc16 pm16 an16 cd16 ct16), sl16⟩) (c16 : PySem.W.codeIn K cd16 "law" = true) (k16 : PySem.W.keepIn K (.ref f16) = true)
    (z0 : PySem.W.nsIn K mainGlobals "bool" = some none)
    (z1 : PySem.W.nsIn K mainGlobals "dict" = some none)
    (z2 : PySem.W.nsIn K mainGlobals "int" = some none)
    (z3 : PySem.W.nsIn K mainGlobals "isinstance" = some none)
    (z4 : PySem.W.nsIn K mainGlobals "len" = some none)
    (z5 : PySem.W.nsIn K mainGlobals "list" = some none)
    (z6 : PySem.W.nsIn K mainGlobals "range" = some none)
    (z7 : PySem.W.nsIn K mainGlobals "str" = some none)
    (z8 : PySem.W.nsIn K mainGlobals "tuple" = some none)
    : ∃ fd : FuncData, (∀ (s : Shared) (v : Value), BindsTo s fd ⟨[v], []⟩ [("_law_script", v)]) ∧ ∀ base : Heap, K.In base → base.Ns mainGlobals mg → FnOk l.prog w K mg base CX0 44 fa fd ["_law_script"] (spM K 1 m_law) := by
  have e := hfa.symm.trans (PySem.W.mg_of X G a16)
  cases e
  have F0 := fun_mk (st := s__law_same) l0 c0 k0
  have b0 := F0.binds (ps := ["_law_actual", "_law_due"]) fun _ _ _ _ _ _ us hl => match us, hl with | [_, _], _ => rfl
  have F1 := fun_mk (st := s__law_value) l1 c1 k1
  have b1 := F1.binds (ps := ["_law_expression", "_law_env"]) fun _ _ _ _ _ _ us hl => match us, hl with | [_, _], _ => rfl
  have F2 := fun_mk (st := s_combine) l2 c2 k2
  have b2 := F2.binds (ps := ["word", "left", "right"]) fun _ _ _ _ _ _ us hl => match us, hl with | [_, _, _], _ => rfl
  have F3 := fun_mk (st := s_evaluate) l3 c3 k3
  have b3 := F3.binds (ps := ["expression", "values"]) fun _ _ _ _ _ _ us hl => match us, hl with | [_, _], _ => rfl
  have F4 := fun_mk (st := s__law_agrees) l4 c4 k4
  have b4 := F4.binds (ps := ["_law_expression", "_law_first", "_law_second"]) fun _ _ _ _ _ _ us hl => match us, hl with | [_, _, _], _ => rfl
  have F5 := fun_mk (st := s__law_cell) l5 c5 k5
  have b5 := F5.binds (ps := ["_law_script", "_law_at"]) fun _ _ _ _ _ _ us hl => match us, hl with | [_, _], _ => rfl
  have F6 := fun_mk (st := s__law_pick) l6 c6 k6
  have b6 := F6.binds (ps := ["_law_source_here", "_law_size"]) fun _ _ _ _ _ _ us hl => match us, hl with | [_, _], _ => rfl
  have F7 := fun_mk (st := s__law_one) l7 c7 k7
  have b7 := F7.binds (ps := ["_law_source_here", "_law_row"]) fun _ _ _ _ _ _ us hl => match us, hl with | [_, _], _ => rfl
  have F8 := fun_mk (st := s__law_link) l8 c8 k8
  have b8 := F8.binds (ps := ["_law_source_here", "_law_group"]) fun _ _ _ _ _ _ us hl => match us, hl with | [_, _], _ => rfl
  have F9 := fun_mk (st := s__law_figure) l9 c9 k9
  have b9 := F9.binds (ps := ["_law_source_here"]) fun _ _ _ _ _ _ us hl => match us, hl with | [_], _ => rfl
  have F10 := fun_mk (st := s__law_term) l10 c10 k10
  have b10 := F10.binds (ps := ["_law_source_here", "_law_names_here", "_law_depth"]) fun _ _ _ _ _ _ us hl => match us, hl with | [_, _, _], _ => rfl
  have F11 := fun_mk (st := s__law_fact) l11 c11 k11
  have b11 := F11.binds (ps := ["_law_source_here", "_law_names_here", "_law_depth"]) fun _ _ _ _ _ _ us hl => match us, hl with | [_, _, _], _ => rfl
  have F12 := fun_mk (st := s__law_names) l12 c12 k12
  have b12 := F12.binds (ps := ["_law_source_here"]) fun _ _ _ _ _ _ us hl => match us, hl with | [_], _ => rfl
  have F13 := fun_mk (st := s__law_source) l13 c13 k13
  have b13 := F13.binds (ps := ["_law_cell_here"]) fun _ _ _ _ _ _ us hl => match us, hl with | [_], _ => rfl
  have F14 := fun_mk (st := s__law_variables) l14 c14 k14
  have b14 := F14.binds (ps := ["_law_expression"]) fun _ _ _ _ _ _ us hl => match us, hl with | [_], _ => rfl
  have F15 := fun_mk (st := s__law_values) l15 c15 k15
  have b15 := F15.binds (ps := ["_law_source_here", "_law_names_here", "_law_expression"]) fun _ _ _ _ _ _ us hl => match us, hl with | [_, _, _], _ => rfl
  have F16 := fun_mk (st := s_law) l16 c16 k16
  have b16 := F16.binds (ps := ["_law_script"]) fun _ _ _ _ _ _ us hl => match us, hl with | [_], _ => rfl
  let T : Txt K mg := ⟨f0, _, F0, b0, PySem.W.mg_of X G a0, f1, _, F1, b1, PySem.W.mg_of X G a1, f2, _, F2, b2, PySem.W.mg_of X G a2, f3, _, F3, b3, PySem.W.mg_of X G a3, f4, _, F4, b4, PySem.W.mg_of X G a4, f5, _, F5, b5, PySem.W.mg_of X G a5, f6, _, F6, b6, PySem.W.mg_of X G a6, f7, _, F7, b7, PySem.W.mg_of X G a7, f8, _, F8, b8, PySem.W.mg_of X G a8, f9, _, F9, b9, PySem.W.mg_of X G a9, f10, _, F10, b10, PySem.W.mg_of X G a10, f11, _, F11, b11, PySem.W.mg_of X G a11, f12, _, F12, b12, PySem.W.mg_of X G a12, f13, _, F13, b13, PySem.W.mg_of X G a13, f14, _, F14, b14, PySem.W.mg_of X G a14, f15, _, F15, b15, PySem.W.mg_of X G a15, fa, _, F16, b16, PySem.W.mg_of X G a16, PySem.W.mg_none_of X G z0, PySem.W.mg_none_of X G z1, PySem.W.mg_none_of X G z2, PySem.W.mg_none_of X G z3, PySem.W.mg_none_of X G z4, PySem.W.mg_none_of X G z5, PySem.W.mg_none_of X G z6, PySem.W.mg_none_of X G z7, PySem.W.mg_none_of X G z8⟩
  exact ⟨_, fun s v => .of_eq rfl, fun base _ _ => ad_law T⟩
end Law
open PySem PySem.W PyProof.Rows
set_option maxRecDepth 100000 in
set_option maxHeartbeats 0 in
theorem PySem.Challenge.cw_neverhappens_k12_evaluate_holds : PySem.Challenge.rw_neverhappens_k12_evaluate.Holds := by
  w_on; o_law; k_head; (case hw => w_witness2)
  k_fill
  refine L2.walk_ofK (l := PySem.Challenge.rw_neverhappens_k12_evaluate) (n := 63) (k := 44) (x := "_law_script") (CX := L2.CX0) (sp := fun K => Ab.spM K 1 Law.m_law) rfl (by decide) rfl ⟨rfl, by decide, by decide⟩ (fun w h Y => PySem.W.kIn_of Y) ?F (Ab.sp_law Law.law_ok) (fun _ _ _ _ h => h)
  case F =>
    intro w mg fa h KX G hmg
    refine' Law.all_mk KX G hmg ?a0 ?l0 ?c0 ?k0 ?a1 ?l1 ?c1 ?k1 ?a2 ?l2 ?c2 ?k2 ?a3 ?l3 ?c3 ?k3 ?a4 ?l4 ?c4 ?k4 ?a5 ?l5 ?c5 ?k5 ?a6 ?l6 ?c6 ?k6 ?a7 ?l7 ?c7 ?k7 ?a8 ?l8 ?c8 ?k8 ?a9 ?l9 ?c9 ?k9 ?a10 ?l10 ?c10 ?k10 ?a11 ?l11 ?c11 ?k11 ?a12 ?l12 ?c12 ?k12 ?a13 ?l13 ?c13 ?k13 ?a14 ?l14 ?c14 ?k14 ?a15 ?l15 ?c15 ?k15 ?a16 ?l16 ?c16 ?k16 ?z0 ?z1 ?z2 ?z3 ?z4 ?z5 ?z6 ?z7 ?z8
    (case a0 => k_is); (case l0 => k_is); (case c0 => k_is); (case k0 => k_is)
    (case a1 => k_is); (case l1 => k_is); (case c1 => k_is); (case k1 => k_is)
    (case a2 => k_is); (case l2 => k_is); (case c2 => k_is); (case k2 => k_is)
    (case a3 => k_is); (case l3 => k_is); (case c3 => k_is); (case k3 => k_is)
    (case a4 => k_is); (case l4 => k_is); (case c4 => k_is); (case k4 => k_is)
    (case a5 => k_is); (case l5 => k_is); (case c5 => k_is); (case k5 => k_is)
    (case a6 => k_is); (case l6 => k_is); (case c6 => k_is); (case k6 => k_is)
    (case a7 => k_is); (case l7 => k_is); (case c7 => k_is); (case k7 => k_is)
    (case a8 => k_is); (case l8 => k_is); (case c8 => k_is); (case k8 => k_is)
    (case a9 => k_is); (case l9 => k_is); (case c9 => k_is); (case k9 => k_is)
    (case a10 => k_is); (case l10 => k_is); (case c10 => k_is); (case k10 => k_is)
    (case a11 => k_is); (case l11 => k_is); (case c11 => k_is); (case k11 => k_is)
    (case a12 => k_is); (case l12 => k_is); (case c12 => k_is); (case k12 => k_is)
    (case a13 => k_is); (case l13 => k_is); (case c13 => k_is); (case k13 => k_is)
    (case a14 => k_is); (case l14 => k_is); (case c14 => k_is); (case k14 => k_is)
    (case a15 => k_is); (case l15 => k_is); (case c15 => k_is); (case k15 => k_is)
    (case a16 => k_is); (case l16 => k_is); (case c16 => k_is); (case k16 => k_is)
    (case z0 => k_is)
    (case z1 => k_is)
    (case z2 => k_is)
    (case z3 => k_is)
    (case z4 => k_is)
    (case z5 => k_is)
    (case z6 => k_is)
    (case z7 => k_is)
    (case z8 => k_is)
