import PyProof.Rows.All
import Wide.All
import OpenK.AllK
import Wide.FinOn
import HandS.ForMost
import HandS.Wide
import HandS.TupAny
import HandS.IsInst
import HandS.Flow
import HandS.Style
import HandS.FStr
import HandS.Deep
import HandS.Small
import HandS.RaiseMore
import HandS.More
import HandS.Conv
import HandS.Zip
import HandS.Ends
import HandS.DictComp
import PySem.Challenge.RW_neverhappens_k17_close
set_option Elab.async false
set_option linter.all false
set_option maxRecDepth 100000
namespace Ab
open PySem PySem.Spec PyProof.Rows L2

/-! ## data: what a value is, with tuples as plain data; what stands in a cell; the cells -/
inductive D where
  | non | bl (b : Bool) | int (i : Int) | str (x : Str) | tup (xs : List D) | ref (i : Nat)
inductive AO where
  | lst (xs : List D) | frz (xs : List D) | dic (kvs : List (Key × D)) | ins (C : Addr) (fs : List (Str × D))
abbrev AH := List AO
inductive Res (α : Type) where
  | ok (a : α) (A : AH) | exc (C : Addr) (fs : List (Str × D)) (A : AH) | bad
def Res.bind {α β : Type} (r : Res α) (k : α → AH → Res β) : Res β := match r with
  | .ok a A => k a A
  | .exc C fs A => .exc C fs A
  | .bad => .bad
abbrev ASt := List (Option D)
inductive Fl where
  | nx (s : ASt) | rt (d : D) | bk (s : ASt) | ct (s : ASt)
abbrev FE := ASt → AH → Res D
abbrev FA := ASt → AH → Res (List D)
abbrev FT := ASt → AH → Res Bool
abbrev FS := ASt → AH → Res Fl
abbrev FO := ASt → AH → Res (Option Int)
/-- a def as a function of its arguments -/
abbrev FM := List D → AH → Res D

/-! ## how data lies in the abstract heap: ρ tells the cells' addresses -/
mutual
def Rp (K : PySem.W.Frag) (ρ : List Addr) (H : Hp) : D → V → Prop
  | .non, v => v = .non
  | .bl b, v => v = .bl b
  | .int i, v => v = .int i
  | .str x, v => v = .str x
  | .ref i, v => ∃ a, ρ[i]? = some a ∧ v = .ref a
  | .tup ds, v => ∃ a xs, v = .ref a ∧ SqT K H a xs ∧ RpL K ρ H ds xs
def RpL (K : PySem.W.Frag) (ρ : List Addr) (H : Hp) : List D → List V → Prop
  | [], xs => xs = []
  | d :: ds, xs => ∃ x r, xs = x :: r ∧ Rp K ρ H d x ∧ RpL K ρ H ds r
end
def RpK {κ : Type} (K : PySem.W.Frag) (ρ : List Addr) (H : Hp) : List (κ × D) → List (κ × V) → Prop
  | [], us => us = []
  | p :: ps, us => ∃ v r, us = (p.1, v) :: r ∧ Rp K ρ H p.2 v ∧ RpK K ρ H ps r
structure Ext (K : PySem.W.Frag) (ρ : List Addr) (H : Hp) (ρ' : List Addr) (H' : Hp) : Prop where
  pre : ∃ t, ρ' = ρ ++ t
  gr : ∀ a xs, SqT K H a xs → SqT K H' a xs
/-- a list that nobody writes: the script -/
def SqF (K : PySem.W.Frag) (H : Hp) (a : Addr) (xs : List V) : Prop := (∃ o, H a = some (.frz o (.lst xs))) ∨ SqL K (fun _ => none) a xs
def isFz : AO → Bool
  | .frz _ => true
  | _ => false
def ORel (K : PySem.W.Frag) (ρ : List Addr) (H : Hp) (a : Addr) : AO → Prop
  | .lst ds => ∃ xs, H a = some (.lst xs) ∧ RpL K ρ H ds xs
  | .frz ds => ∃ xs, SqF K H a xs ∧ RpL K ρ H ds xs
  | .dic kvs => ∃ us, H a = some (.dK us) ∧ RpK K ρ H kvs us
  | .ins C fs => ∃ dx us, H a = some (.ins C dx us) ∧ RpK K ρ H fs us
structure Rel (K : PySem.W.Frag) (ρ : List Addr) (H : Hp) (A : AH) : Prop where
  len : ρ.length = A.length
  nd : ∀ (i j : Nat) (a : Addr) o u, ρ[i]? = some a → ρ[j]? = some a → A[i]? = some o → A[j]? = some u → isFz o = false → isFz u = false → i = j
  ob : ∀ (i : Nat) o, A[i]? = some o → ∃ a, ρ[i]? = some a ∧ ORel K ρ H a o
structure SRel (K : PySem.W.Frag) (ρ : List Addr) (H : Hp) (s : ASt) (σ : L2.St) : Prop where
  len : s.length = σ.length
  at_ : ∀ (i : Nat) d, s[i]? = some (some d) → ∃ v, σ[i]? = some (some v) ∧ Rp K ρ H d v
section
variable {K : PySem.W.Frag} {ρ ρ' ρ'' : List Addr} {H H' H'' : Hp} {A A' : AH} {s : ASt} {σ : L2.St} {d : D} {v : V}
theorem Ext.refl : Ext K ρ H ρ H := ⟨⟨[], by simp⟩, fun _ _ h => h⟩
theorem Ext.trans (e : Ext K ρ H ρ' H') (f : Ext K ρ' H' ρ'' H'') : Ext K ρ H ρ'' H'' := by
  obtain ⟨t, rfl⟩ := e.pre
  obtain ⟨u, rfl⟩ := f.pre
  exact ⟨⟨t ++ u, by simp⟩, fun a xs h => f.gr a xs (e.gr a xs h)⟩
theorem Ext.at_ (e : Ext K ρ H ρ' H') {i : Nat} {a : Addr} (h : ρ[i]? = some a) : ρ'[i]? = some a := by
  obtain ⟨t, rfl⟩ := e.pre
  obtain ⟨hi, _⟩ := List.getElem?_eq_some_iff.mp h
  rw [List.getElem?_append_left hi]; exact h
mutual
theorem Rp.ext (e : Ext K ρ H ρ' H') : ∀ (d : D) (v : V), Rp K ρ H d v → Rp K ρ' H' d v
  | .non, v, h => h
  | .bl b, v, h => h
  | .int i, v, h => h
  | .str x, v, h => h
  | .ref i, v, h => by
    obtain ⟨a, h1, h2⟩ := h
    exact ⟨a, e.at_ h1, h2⟩
  | .tup ds, v, h => by
    obtain ⟨a, xs, h1, h2, h3⟩ := h
    exact ⟨a, xs, h1, e.gr _ _ h2, RpL.ext e ds xs h3⟩
theorem RpL.ext (e : Ext K ρ H ρ' H') : ∀ (ds : List D) (xs : List V), RpL K ρ H ds xs → RpL K ρ' H' ds xs
  | [], xs, h => h
  | d :: ds, xs, h => by
    obtain ⟨x, r, h1, h2, h3⟩ := h
    exact ⟨x, r, h1, Rp.ext e d x h2, RpL.ext e ds r h3⟩
end
theorem RpK.ext {κ : Type} (e : Ext K ρ H ρ' H') : ∀ (ps : List (κ × D)) (us : List (κ × V)), RpK K ρ H ps us → RpK K ρ' H' ps us
  | [], us, h => h
  | p :: ps, us, h => by
    obtain ⟨v, r, h1, h2, h3⟩ := h
    exact ⟨v, r, h1, h2.ext e, RpK.ext e ps r h3⟩
theorem RpL.length : ∀ {ds : List D} {xs : List V}, RpL K ρ H ds xs → xs.length = ds.length
  | [], xs, h => by rw [show xs = [] from h]; rfl
  | d :: ds, xs, h => by
    obtain ⟨x, r, rfl, h2, h3⟩ := h
    simp [RpL.length h3]
theorem RpL.get : ∀ {ds : List D} {xs : List V} {i : Nat} {d : D}, RpL K ρ H ds xs → ds[i]? = some d → ∃ v, xs[i]? = some v ∧ Rp K ρ H d v
  | [], _, _, _, _, e => by simp at e
  | d :: ds, xs, 0, d', h, e => by
    obtain ⟨x, r, rfl, h2, h3⟩ := h
    simp at e; subst e
    exact ⟨x, by simp, h2⟩
  | d :: ds, xs, i + 1, d', h, e => by
    obtain ⟨x, r, rfl, h2, h3⟩ := h
    obtain ⟨v, e1, e2⟩ := RpL.get (i := i) h3 (by simpa using e)
    exact ⟨v, by simpa using e1, e2⟩
theorem RpL.append : ∀ {ds es : List D} {xs ys : List V}, RpL K ρ H ds xs → RpL K ρ H es ys → RpL K ρ H (ds ++ es) (xs ++ ys)
  | [], es, xs, ys, h, h' => by rw [show xs = [] from h]; exact h'
  | d :: ds, es, xs, ys, h, h' => by
    obtain ⟨x, r, rfl, h2, h3⟩ := h
    exact ⟨x, r ++ ys, rfl, h2, h3.append h'⟩
theorem RpL.one (h : Rp K ρ H d v) : RpL K ρ H [d] [v] := ⟨v, [], rfl, h, rfl⟩
theorem RpL.take : ∀ {ds : List D} {xs : List V} (n : Nat), RpL K ρ H ds xs → RpL K ρ H (ds.take n) (xs.take n)
  | ds, xs, 0, h => by simp [RpL]
  | [], xs, n + 1, h => by rw [show xs = [] from h]; simp [RpL]
  | d :: ds, xs, n + 1, h => by
    obtain ⟨x, r, rfl, h2, h3⟩ := h
    exact ⟨x, r.take n, rfl, h2, h3.take n⟩
theorem RpL.drop : ∀ {ds : List D} {xs : List V} (n : Nat), RpL K ρ H ds xs → RpL K ρ H (ds.drop n) (xs.drop n)
  | ds, xs, 0, h => h
  | [], xs, n + 1, h => by rw [show xs = [] from h]; simp [RpL]
  | d :: ds, xs, n + 1, h => by
    obtain ⟨x, r, rfl, h2, h3⟩ := h
    exact h3.drop n
theorem RpL.set : ∀ {ds : List D} {xs : List V} (i : Nat), RpL K ρ H ds xs → Rp K ρ H d v → RpL K ρ H (ds.set i d) (xs.set i v)
  | [], xs, i, h, q => by rw [show xs = [] from h]; simp [RpL]
  | e :: ds, xs, 0, h, q => by
    obtain ⟨x, r, rfl, h2, h3⟩ := h
    exact ⟨v, r, rfl, q, h3⟩
  | e :: ds, xs, i + 1, h, q => by
    obtain ⟨x, r, rfl, h2, h3⟩ := h
    exact ⟨x, r.set i v, rfl, h2, h3.set i q⟩
theorem RpL.reverse : ∀ {ds : List D} {xs : List V}, RpL K ρ H ds xs → RpL K ρ H ds.reverse xs.reverse
  | [], xs, h => by rw [show xs = [] from h]; simp [RpL]
  | d :: ds, xs, h => by
    obtain ⟨x, r, rfl, h2, h3⟩ := h
    rw [List.reverse_cons, List.reverse_cons]
    exact h3.reverse.append (RpL.one h2)
theorem RpL.rep : ∀ {ds : List D} {xs : List V} (n : Nat), RpL K ρ H ds xs → RpL K ρ H (List.replicate n ds).flatten (List.replicate n xs).flatten
  | ds, xs, 0, h => by simp [RpL]
  | ds, xs, n + 1, h => by
    rw [List.replicate_succ, List.replicate_succ, List.flatten_cons, List.flatten_cons]
    exact h.append (h.rep n)
theorem SRel.ext (h : SRel K ρ H s σ) (e : Ext K ρ H ρ' H') : SRel K ρ' H' s σ :=
  ⟨h.len, fun i d q => by
    obtain ⟨v, h1, h2⟩ := h.at_ i d q
    exact ⟨v, h1, h2.ext e⟩⟩
theorem SRel.set (h : SRel K ρ H s σ) (i : Nat) (q : Rp K ρ H d v) : SRel K ρ H (s.set i (some d)) (σ.set i (some v)) := by
  refine ⟨by simp [h.len], fun j e hj => ?_⟩
  by_cases hji : i = j
  · subst hji
    have hl : i < s.length := by
      have := (List.getElem?_eq_some_iff.mp hj).1
      simpa using this
    rw [List.getElem?_set_self hl] at hj
    cases hj
    exact ⟨v, List.getElem?_set_self (by rw [← h.len]; exact hl), q⟩
  · rw [List.getElem?_set_ne hji] at hj
    obtain ⟨w, h1, h2⟩ := h.at_ j e hj
    exact ⟨w, by rw [List.getElem?_set_ne hji]; exact h1, h2⟩
theorem SRel.wipe (h : SRel K ρ H s σ) (i : Nat) : SRel K ρ H (s.set i none) (σ.set i none) := by
  refine ⟨by simp [h.len], fun j e hj => ?_⟩
  by_cases hji : i = j
  · subst hji
    have hl : i < s.length := by
      have := (List.getElem?_eq_some_iff.mp hj).1
      simpa using this
    rw [List.getElem?_set_self hl] at hj
    cases hj
  · rw [List.getElem?_set_ne hji] at hj
    obtain ⟨w, h1, h2⟩ := h.at_ j e hj
    exact ⟨w, by rw [List.getElem?_set_ne hji]; exact h1, h2⟩
theorem Rel.at_ (R : Rel K ρ H A) {i : Nat} {o : AO} (h : A[i]? = some o) : ∃ a, ρ[i]? = some a ∧ ORel K ρ H a o := R.ob i o h
theorem SqF.sq {a : Addr} {xs : List V} (h : SqF K H a xs) : SqL K H a xs := by
  rcases h with ⟨o, h⟩ | (h | ⟨o, h⟩) | h
  · exact .inl (.inr ⟨o, h⟩)
  · cases h
  · cases h
  · exact .inr h
theorem ORel.some {a : Addr} {o : AO} (h : ORel K ρ H a o) (f : isFz o = false) : ∃ u, H a = some u := by
  cases o with
  | lst ds => obtain ⟨xs, e, _⟩ := h; exact ⟨_, e⟩
  | frz ds => cases f
  | dic ds => obtain ⟨xs, e, _⟩ := h; exact ⟨_, e⟩
  | ins C ds => obtain ⟨dx, xs, e, _⟩ := h; exact ⟨_, e⟩
theorem ORel.ext {a : Addr} {o : AO} (h : ORel K ρ H a o) (e : Ext K ρ H ρ' H') (q : isFz o = false → H' a = H a) (z : ∀ xs, SqF K H a xs → SqF K H' a xs) : ORel K ρ' H' a o := by
  cases o with
  | lst ds => obtain ⟨xs, e1, e2⟩ := h; exact ⟨xs, (q rfl).trans e1, e2.ext e⟩
  | frz ds => obtain ⟨xs, e1, e2⟩ := h; exact ⟨xs, z _ e1, e2.ext e⟩
  | dic ds => obtain ⟨xs, e1, e2⟩ := h; exact ⟨xs, (q rfl).trans e1, e2.ext e⟩
  | ins C ds => obtain ⟨dx, xs, e1, e2⟩ := h; exact ⟨dx, xs, (q rfl).trans e1, e2.ext e⟩
theorem sqF_new {p : Addr} {o : HO} (hp : H p = none) {a : Addr} (xs : List V) (h : SqF K H a xs) : SqF K (upd H p o) a xs := by
  rcases h with ⟨o', h⟩ | h
  · exact .inl ⟨o', by rw [upd_ne (ne_of_none h hp)]; exact h⟩
  · exact .inr h
theorem sqF_mut {p : Addr} {o u : HO} (hp : H p = some u) (hu : Mut (some u)) {a : Addr} (xs : List V) (h : SqF K H a xs) : SqF K (upd H p o) a xs := by
  have nf : ∀ o' x, u ≠ .frz o' x := fun o' x e => by subst e; exact hu
  rcases h with ⟨o', h⟩ | h
  · exact .inl ⟨o', by rw [upd_ne (ne_of h hp (fun e => nf _ _ e.symm))]; exact h⟩
  · exact .inr h
theorem Rel.has (R : Rel K ρ H A) {i : Nat} {a : Addr} (h : ρ[i]? = some a) : ∃ o, A[i]? = some o ∧ ORel K ρ H a o := by
  have hi : i < A.length := by rw [← R.len]; exact (List.getElem?_eq_some_iff.mp h).1
  obtain ⟨a', h1, h2⟩ := R.ob i A[i] (List.getElem?_eq_getElem hi)
  rw [h] at h1; cases h1
  exact ⟨_, List.getElem?_eq_getElem hi, h2⟩
theorem sqT_new {p : Addr} {o : HO} (hp : H p = none) : ∀ a xs, SqT K H a xs → SqT K (upd H p o) a xs := by
  intro a xs h
  rcases h with (h | ⟨o', h⟩) | h
  · exact .inl (.inl (by rw [upd_ne (ne_of_none h hp)]; exact h))
  · exact .inl (.inr ⟨o', by rw [upd_ne (ne_of_none h hp)]; exact h⟩)
  · exact .inr h
theorem sqT_mut {p : Addr} {o u : HO} (hp : H p = some u) (hu : Mut (some u)) : ∀ a xs, SqT K H a xs → SqT K (upd H p o) a xs := by
  intro a xs h
  have nt : ∀ xs, u ≠ .tup xs := fun xs e => by subst e; exact hu
  have nf : ∀ o' x, u ≠ .frz o' x := fun o' x e => by subst e; exact hu
  rcases h with (h | ⟨o', h⟩) | h
  · exact .inl (.inl (by rw [upd_ne (ne_of h hp (fun e => nt _ e.symm))]; exact h))
  · exact .inl (.inr ⟨o', by rw [upd_ne (ne_of h hp (fun e => nf _ _ e.symm))]; exact h⟩)
  · exact .inr h
theorem Ext.new {p : Addr} {o : HO} (hp : H p = none) (t : List Addr) : Ext K ρ H (ρ ++ t) (upd H p o) := ⟨⟨t, rfl⟩, sqT_new hp⟩
theorem Ext.new0 {p : Addr} {o : HO} (hp : H p = none) : Ext K ρ H ρ (upd H p o) := ⟨⟨[], by simp⟩, sqT_new hp⟩
theorem Ext.mut {p : Addr} {o u : HO} (hp : H p = some u) (hu : Mut (some u)) : Ext K ρ H ρ (upd H p o) := ⟨⟨[], by simp⟩, sqT_mut hp hu⟩
/-- an untracked thing is laid (a tuple, a temporary) -/
theorem Rel.new0 (R : Rel K ρ H A) {p : Addr} {o : HO} (hp : H p = none) : Rel K ρ (upd H p o) A :=
  ⟨R.len, R.nd, fun i ob h => by
    obtain ⟨a, h1, h2⟩ := R.ob i ob h
    exact ⟨a, h1, h2.ext (Ext.new0 hp) (fun f => by obtain ⟨u, hu⟩ := h2.some f; exact upd_ne (ne_of_none hu hp)) fun xs => sqF_new hp xs⟩⟩
/-- a new cell -/
theorem Rel.new (R : Rel K ρ H A) {p : Addr} {o : HO} {ao : AO} (hp : H p = none) (h : ORel K (ρ ++ [p]) (upd H p o) p ao) : Rel K (ρ ++ [p]) (upd H p o) (A ++ [ao]) := by
  have hn : ∀ (i : Nat) ob, ρ[i]? = some p → A[i]? = some ob → isFz ob = false → False := fun i ob hi ho f => by
    obtain ⟨a, h1, h2⟩ := R.ob i ob ho
    rw [hi] at h1; cases h1
    obtain ⟨u, hu⟩ := h2.some f
    rw [hp] at hu; cases hu
  have old : ∀ (i : Nat) {a : Addr} {ob : AO}, (ρ ++ [p])[i]? = some a → (A ++ [ao])[i]? = some ob → (ρ[i]? = some a ∧ A[i]? = some ob) ∨ (i = A.length ∧ a = p ∧ ob = ao) := fun i a ob h1 h2 => by
    by_cases hl : i < A.length
    · rw [List.getElem?_append_left hl] at h2
      rw [List.getElem?_append_left (by rw [R.len]; exact hl)] at h1
      exact .inl ⟨h1, h2⟩
    · have e : i = A.length := by
        have := (List.getElem?_eq_some_iff.mp h2).1
        simp at this; omega
      subst e
      simp at h2
      rw [← R.len] at h1; simp at h1
      exact .inr ⟨rfl, h1.symm, h2.symm⟩
  refine ⟨by simp [R.len], fun i j a ob u h1 h2 h3 h4 f1 f2 => ?_, fun i ob hi => ?_⟩
  · rcases old i h1 h3 with ⟨a1, a2⟩ | ⟨a1, a2, a3⟩
    · rcases old j h2 h4 with ⟨b1, b2⟩ | ⟨b1, b2, b3⟩
      · exact R.nd i j a ob u a1 b1 a2 b2 f1 f2
      · subst b2; exact (hn i ob a1 a2 f1).elim
    · rcases old j h2 h4 with ⟨b1, b2⟩ | ⟨b1, b2, b3⟩
      · subst a2; exact (hn j u b1 b2 f2).elim
      · rw [a1, b1]
  · by_cases hl : i < A.length
    · rw [List.getElem?_append_left hl] at hi
      obtain ⟨a, h1, h2⟩ := R.ob i ob hi
      exact ⟨a, (Ext.new (K := K) (o := o) hp [p]).at_ h1, h2.ext (Ext.new hp [p]) (fun f => by obtain ⟨u, hu⟩ := h2.some f; exact upd_ne (ne_of_none hu hp)) fun xs => sqF_new hp xs⟩
    · have e : i = A.length := by
        have := (List.getElem?_eq_some_iff.mp hi).1
        simp at this; omega
      subst e
      simp at hi; subst hi
      exact ⟨p, by rw [← R.len]; simp, h⟩
/-- a cell is written -/
theorem Rel.upd (R : Rel K ρ H A) {i : Nat} {a : Addr} {o u : HO} {ao old : AO} (ha : ρ[i]? = some a) (hA : A[i]? = some old) (fo : isFz old = false) (hu : H a = some u) (hm : Mut (some u)) (h : ORel K ρ (upd H a o) a ao) (fn : isFz ao = false) : Rel K ρ (upd H a o) (A.set i ao) := by
  have hl : i < A.length := (List.getElem?_eq_some_iff.mp hA).1
  have was : ∀ (j : Nat) {ob : AO}, (A.set i ao)[j]? = some ob → isFz ob = false → ∃ ob', A[j]? = some ob' ∧ isFz ob' = false := fun j ob hj f => by
    by_cases hji : i = j
    · subst hji; exact ⟨old, hA, fo⟩
    · rw [List.getElem?_set_ne hji] at hj; exact ⟨ob, hj, f⟩
  refine ⟨by simp [R.len], fun j k b ob u h1 h2 h3 h4 f1 f2 => ?_, fun j ob hj => ?_⟩
  · obtain ⟨o1, q1, q2⟩ := was j h3 f1
    obtain ⟨o2, q3, q4⟩ := was k h4 f2
    exact R.nd j k b o1 o2 h1 h2 q1 q3 q2 q4
  · by_cases hji : i = j
    · subst hji
      rw [List.getElem?_set_self hl] at hj
      cases hj
      exact ⟨a, ha, h⟩
    · rw [List.getElem?_set_ne hji] at hj
      obtain ⟨b, h1, h2⟩ := R.ob j ob hj
      refine ⟨b, h1, h2.ext (Ext.mut hu hm) (fun f => upd_ne ?_) fun xs => sqF_mut hu hm xs⟩
      rintro rfl
      exact hji (R.nd i j b old ob ha h1 hA hj fo f)
end

/-! ## what an outcome gives -/
def Out {α β : Type} (K : PySem.W.Frag) (E : XK) (R : List Addr → Hp → α → β → Prop) (ρ : List Addr) (H : Hp) (r : Res α) (Q : β → Hp → Prop) : Prop := match r with
  | .ok a A' => ∀ ρ' H' v, Ext K ρ H ρ' H' → Rel K ρ' H' A' → R ρ' H' a v → Q v H'
  | .exc C fs A' => ∀ ρ' H' dx us, Ext K ρ H ρ' H' → Rel K ρ' H' A' → H' dx = some (.xd us) → RpK K ρ' H' fs us → E (.ref C) (some dx) H'
  | .bad => False
abbrev OutE (K : PySem.W.Frag) (E : XK) := Out (α := D) (β := V) K E (fun ρ H d v => Rp K ρ H d v)
abbrev OutA (K : PySem.W.Frag) (E : XK) := Out (α := List D) (β := List V) K E (fun ρ H d v => RpL K ρ H d v)
abbrev OutT (K : PySem.W.Frag) (E : XK) := Out (α := Bool) (β := Bool) K E (fun _ _ d v => d = v)
abbrev OutO (K : PySem.W.Frag) (E : XK) := Out (α := Option Int) (β := Option Int) K E (fun _ _ d v => d = v)
section
variable {K : PySem.W.Frag} {E : XK} {α β γ δ : Type} {R1 : List Addr → Hp → α → β → Prop} {R2 : List Addr → Hp → γ → δ → Prop} {ρ : List Addr} {H : Hp}
/-- first r, then k -/
theorem Out.bind {r : Res α} {k : α → AH → Res γ} {Q : δ → Hp → Prop} (h : Out K E R2 ρ H (r.bind k) Q) :
    Out K E R1 ρ H r (fun v H1 => ∃ ρ1 a A1, r = .ok a A1 ∧ Ext K ρ H ρ1 H1 ∧ Rel K ρ1 H1 A1 ∧ R1 ρ1 H1 a v ∧ Out K E R2 ρ1 H1 (k a A1) Q) := by
  cases r with
  | bad => exact h
  | exc C fs A => exact h
  | ok a A =>
    intro ρ1 H1 v e1 r1 q1
    refine ⟨ρ1, a, A, rfl, e1, r1, q1, ?_⟩
    have h : Out K E R2 ρ H (k a A) Q := h
    cases hk : k a A with
    | bad => rw [hk] at h; exact h
    | exc C fs A2 => rw [hk] at h; exact fun ρ' H' dx us e2 => h ρ' H' dx us (e1.trans e2)
    | ok c A2 => rw [hk] at h; exact fun ρ' H' w e2 => h ρ' H' w (e1.trans e2)
theorem Out.ext {ρ0 : List Addr} {H0 : Hp} {r : Res α} {Q : β → Hp → Prop} (h : Out K E R1 ρ0 H0 r Q) (e : Ext K ρ0 H0 ρ H) : Out K E R1 ρ H r Q := by
  cases r with
  | bad => exact h
  | exc C fs A => exact fun ρ' H' dx us e2 => h ρ' H' dx us (e.trans e2)
  | ok c A => exact fun ρ' H' w e2 => h ρ' H' w (e.trans e2)
theorem Out.mono {r : Res α} {Q Q' : β → Hp → Prop} (h : Out K E R1 ρ H r Q) (q : ∀ v H', Q v H' → Q' v H') : Out K E R1 ρ H r Q' := by
  cases r with
  | bad => exact h
  | exc C fs A => exact h
  | ok c A => exact fun ρ' H' w e r1 q1 => q _ _ (h ρ' H' w e r1 q1)
/-- at once -/
theorem Out.now {a : α} {A : AH} {Q : β → Hp → Prop} {v : β} (h : Out K E R1 ρ H (.ok a A) Q) (R : Rel K ρ H A) (r : R1 ρ H a v) : Q v H := h ρ H v .refl R r
end

/-! ## the readings that such functions give -/
def tA (K : PySem.W.Frag) (E : XK) (f : FE) : TE := fun σ H Q => ∃ ρ s A, SRel K ρ H s σ ∧ Rel K ρ H A ∧ OutE K E ρ H (f s A) Q
def tAA (K : PySem.W.Frag) (E : XK) (f : FA) : TA := fun σ H Q => ∃ ρ s A, SRel K ρ H s σ ∧ Rel K ρ H A ∧ OutA K E ρ H (f s A) Q
def tAT (K : PySem.W.Frag) (E : XK) (f : FT) : TT := fun σ H Q => ∃ ρ s A, SRel K ρ H s σ ∧ Rel K ρ H A ∧ OutT K E ρ H (f s A) Q
def tAO (K : PySem.W.Frag) (E : XK) (f : FO) : TO := fun σ H Q => ∃ ρ s A, SRel K ρ H s σ ∧ Rel K ρ H A ∧ OutO K E ρ H (f s A) Q
def SOut (K : PySem.W.Frag) (E : XK) (ρ : List Addr) (H : Hp) (r : Res Fl) (G : Ends) : Prop := match r with
  | .ok (.nx s) A' => ∀ ρ' H' σ', Ext K ρ H ρ' H' → Rel K ρ' H' A' → SRel K ρ' H' s σ' → G.nx σ' H'
  | .ok (.bk s) A' => ∀ ρ' H' σ', Ext K ρ H ρ' H' → Rel K ρ' H' A' → SRel K ρ' H' s σ' → G.bk σ' H'
  | .ok (.ct s) A' => ∀ ρ' H' σ', Ext K ρ H ρ' H' → Rel K ρ' H' A' → SRel K ρ' H' s σ' → G.ct σ' H'
  | .ok (.rt d) A' => ∀ ρ' H' v, Ext K ρ H ρ' H' → Rel K ρ' H' A' → Rp K ρ' H' d v → G.rt v H'
  | .exc C fs A' => ∀ ρ' H' dx us, Ext K ρ H ρ' H' → Rel K ρ' H' A' → H' dx = some (.xd us) → RpK K ρ' H' fs us → E (.ref C) (some dx) H'
  | .bad => False
def tAS (K : PySem.W.Frag) (E : XK) (f : FS) : TS := fun G σ H => ∃ ρ s A, SRel K ρ H s σ ∧ Rel K ρ H A ∧ SOut K E ρ H (f s A) G
theorem SOut.ext {K : PySem.W.Frag} {E : XK} {ρ0 ρ : List Addr} {H0 H : Hp} {r : Res Fl} {G : Ends} (h : SOut K E ρ0 H0 r G) (e : Ext K ρ0 H0 ρ H) : SOut K E ρ H r G := by
  cases r with
  | bad => exact h
  | exc C fs A => exact fun ρ' H' dx us e2 => h ρ' H' dx us (e.trans e2)
  | ok c A => cases c <;> exact fun ρ' H' w e2 => h ρ' H' w (e.trans e2)
theorem Out.bindS {K : PySem.W.Frag} {E : XK} {α β : Type} {R1 : List Addr → Hp → α → β → Prop} {ρ : List Addr} {H : Hp} {r : Res α} {k : α → AH → Res Fl} {G : Ends} (h : SOut K E ρ H (r.bind k) G) :
    Out K E R1 ρ H r (fun v H1 => ∃ ρ1 a A1, r = .ok a A1 ∧ Ext K ρ H ρ1 H1 ∧ Rel K ρ1 H1 A1 ∧ R1 ρ1 H1 a v ∧ SOut K E ρ1 H1 (k a A1) G) := by
  cases r with
  | bad => exact h
  | exc C fs A => exact h
  | ok a A => exact fun ρ1 H1 v e1 r1 q1 => ⟨ρ1, a, A, rfl, e1, r1, q1, SOut.ext h e1⟩
/-- what the judgements are about -/
abbrev AE (X : Cx) (E : XK) (e : Expr) (f : FE) : Prop := PE X e (tA X.K E f)
abbrev AA (X : Cx) (E : XK) (es : List Expr) (f : FA) : Prop := PA X es (tAA X.K E f)
abbrev AT (X : Cx) (E : XK) (e : Expr) (f : FT) : Prop := PT X e (tAT X.K E f)
abbrev AO_ (X : Cx) (E : XK) (e : Option Expr) (f : FO) : Prop := PO X e (tAO X.K E f)
abbrev AS (X : Cx) (E : XK) (e : Stmt) (f : FS) : Prop := PS X e (tAS X.K E f)
abbrev ASs (X : Cx) (E : XK) (e : List Stmt) (f : FS) : Prop := PSs X e (tAS X.K E f)
section
variable {X : Cx}
theorem pe_mono {e : Expr} {t u : TE} (h : PE X e t) (m : ∀ σ H Q, u σ H Q → t σ H Q) : PE X e u := ⟨fun pins s σ H Q I q => h.run pins s σ H Q I (m _ _ _ q)⟩
theorem pa_mono {e : List Expr} {t u : TA} (h : PA X e t) (m : ∀ σ H Q, u σ H Q → t σ H Q) : PA X e u := ⟨fun pos pins s σ H Q I q => h.run pos pins s σ H Q I (m _ _ _ q)⟩
theorem pt_mono {e : Expr} {t u : TT} (h : PT X e t) (m : ∀ σ H Q, u σ H Q → t σ H Q) : PT X e u := ⟨fun pins s σ H Q I q => h.run pins s σ H Q I (m _ _ _ q)⟩
theorem pw_mono {e : Expr} {t u : TT} (h : PW X e t) (m : ∀ σ H Q, u σ H Q → t σ H Q) : PW X e u := ⟨fun whole pins s σ H Q I q => h.run whole pins s σ H Q I (m _ _ _ q)⟩
theorem ps_mono {e : Stmt} {t u : TS} (h : PS X e t) (m : ∀ G σ H, u G σ H → t G σ H) : PS X e u := ⟨fun pins s σ H G I q => h.run pins s σ H G I (m _ _ _ q)⟩
theorem pss_mono {e : List Stmt} {t u : TS} (h : PSs X e t) (m : ∀ G σ H, u G σ H → t G σ H) : PSs X e u := ⟨fun pins s σ H G I q => h.run pins s σ H G I (m _ _ _ q)⟩
theorem op_mono {f : Value → Value → Sem Value} {t u : R2} (h : OpR X f t) (m : ∀ x y H Q, u x y H Q → t x y H Q) : OpR X f u := fun pins s σ H x y v w Q I rx ry q => h pins s σ H x y v w Q I rx ry (m _ _ _ _ q)
theorem callR_mono {f : Value} {t u : List V → Hp → VK → Prop} (h : CallR X f t) (m : ∀ xs H Q, u xs H Q → t xs H Q) : CallR X f u := fun pins s σ H xs us Q I r q => h pins s σ H xs us Q I r (m _ _ _ q)
end
end Ab

namespace Ab
open PySem PySem.Spec PyProof.Rows L2
open scoped Classical

/-! ## reading cells -/
def rdL (A : AH) : D → Option (List D)
  | .ref i => match A[i]? with
    | some (.lst xs) => some xs
    | some (.frz xs) => some xs
    | _ => none
  | _ => none
def muL (A : AH) : D → Option (List D)
  | .ref i => match A[i]? with
    | some (.lst xs) => some xs
    | _ => none
  | _ => none
def rdK (A : AH) : D → Option (List (Key × D))
  | .ref i => match A[i]? with
    | some (.dic xs) => some xs
    | _ => none
  | _ => none
def rdI (A : AH) : D → Option (Addr × List (Str × D))
  | .ref i => match A[i]? with
    | some (.ins C xs) => some (C, xs)
    | _ => none
  | _ => none
def rdS (A : AH) : D → Option (List D)
  | .tup xs => some xs
  | d => rdL A d
section
variable {K : PySem.W.Frag} {ρ : List Addr} {H : Hp} {A : AH} {d : D} {v : V}
theorem rdL_ok (R : Rel K ρ H A) (r : Rp K ρ H d v) {ds : List D} (h : rdL A d = some ds) : ∃ a xs, v = .ref a ∧ SqL K H a xs ∧ RpL K ρ H ds xs := by
  cases d with
  | ref i =>
    obtain ⟨a, h1, rfl⟩ := r
    obtain ⟨o, h2, h3⟩ := R.has h1
    unfold rdL at h
    simp only [h2] at h
    cases o with
    | lst xs => cases h; obtain ⟨us, e1, e2⟩ := h3; exact ⟨a, us, rfl, .inl (.inl e1), e2⟩
    | frz xs => cases h; obtain ⟨us, e1, e2⟩ := h3; exact ⟨a, us, rfl, e1.sq, e2⟩
    | dic _ => cases h
    | ins _ _ => cases h
  | _ => cases h
theorem muL_ok (R : Rel K ρ H A) (r : Rp K ρ H d v) {ds : List D} (h : muL A d = some ds) : ∃ i a xs, d = .ref i ∧ v = .ref a ∧ ρ[i]? = some a ∧ A[i]? = some (.lst ds) ∧ H a = some (.lst xs) ∧ RpL K ρ H ds xs := by
  cases d with
  | ref i =>
    obtain ⟨a, h1, rfl⟩ := r
    obtain ⟨o, h2, h3⟩ := R.has h1
    unfold muL at h
    simp only [h2] at h
    cases o with
    | lst xs => cases h; obtain ⟨us, e1, e2⟩ := h3; exact ⟨i, a, us, rfl, rfl, h1, h2, e1, e2⟩
    | frz xs => cases h
    | dic _ => cases h
    | ins _ _ => cases h
  | _ => cases h
theorem rdK_ok (R : Rel K ρ H A) (r : Rp K ρ H d v) {ds : List (Key × D)} (h : rdK A d = some ds) : ∃ i a xs, d = .ref i ∧ v = .ref a ∧ ρ[i]? = some a ∧ A[i]? = some (.dic ds) ∧ H a = some (.dK xs) ∧ RpK K ρ H ds xs := by
  cases d with
  | ref i =>
    obtain ⟨a, h1, rfl⟩ := r
    obtain ⟨o, h2, h3⟩ := R.has h1
    unfold rdK at h
    simp only [h2] at h
    cases o with
    | dic xs => cases h; obtain ⟨us, e1, e2⟩ := h3; exact ⟨i, a, us, rfl, rfl, h1, h2, e1, e2⟩
    | lst xs => cases h
    | frz xs => cases h
    | ins _ _ => cases h
  | _ => cases h
theorem rdI_ok (R : Rel K ρ H A) (r : Rp K ρ H d v) {C : Addr} {ds : List (Str × D)} (h : rdI A d = some (C, ds)) : ∃ i a dx xs, d = .ref i ∧ v = .ref a ∧ ρ[i]? = some a ∧ A[i]? = some (.ins C ds) ∧ H a = some (.ins C dx xs) ∧ RpK K ρ H ds xs := by
  cases d with
  | ref i =>
    obtain ⟨a, h1, rfl⟩ := r
    obtain ⟨o, h2, h3⟩ := R.has h1
    unfold rdI at h
    simp only [h2] at h
    cases o with
    | ins C' xs => cases h; obtain ⟨dx, us, e1, e2⟩ := h3; exact ⟨i, a, dx, us, rfl, rfl, h1, h2, e1, e2⟩
    | lst xs => cases h
    | frz xs => cases h
    | dic _ => cases h
  | _ => cases h
theorem rdS_ok (R : Rel K ρ H A) (r : Rp K ρ H d v) {ds : List D} (h : rdS A d = some ds) : ∃ a xs, v = .ref a ∧ (SqL K H a xs ∨ SqT K H a xs) ∧ RpL K ρ H ds xs := by
  cases d with
  | tup xs =>
    cases h
    obtain ⟨a, us, h1, h2, h3⟩ := r
    exact ⟨a, us, h1, .inr h2, h3⟩
  | ref i =>
    obtain ⟨a, xs, h1, h2, h3⟩ := rdL_ok R r (show rdL A (.ref i) = some ds from h)
    exact ⟨a, xs, h1, .inl h2, h3⟩
  | _ => cases h
end

theorem RpL.isNil {K : PySem.W.Frag} {ρ : List Addr} {H : Hp} {ds : List D} (h : RpL K ρ H ds []) : ds = [] := by
  have := h.length
  cases ds with
  | nil => rfl
  | cons _ _ => simp at this
/-! ## names, constants -/
def fV (i : Nat) : FE := fun s A => match s[i]? with
  | some (some d) => .ok d A
  | _ => .bad
def fC (d : D) : FE := fun _ A => .ok d A
section
variable {X : Cx} {E : XK}
theorem ae_v (i : Nat) {x : Str} {pos : Pos} (hN : X.N[i]? = some x := by rfl) (hv : Vis X.env.scope x := by first | exact Or.inl rfl | exact Or.inr (Or.inl rfl) | exact Or.inr (Or.inr rfl)) (hd : (x == ("__debug__" : Str)) = false := by decide)
    (hcd : (x == ("__classdict__" : Str)) = false := by decide) : AE X E (.Name x pos) (fV i) := pe_mono (pe_var hN hv hd hcd) fun σ H Q h => by
  obtain ⟨ρ, s, A, hs, R, h⟩ := h
  unfold fV at h
  cases e : s[i]? with
  | none => simp only [e] at h; exact h.elim
  | some o =>
    cases o with
    | none => simp only [e] at h; exact h.elim
    | some d =>
      simp only [e] at h
      obtain ⟨v, h1, h2⟩ := hs.at_ i d e
      exact ⟨v, h1, h.now R h2⟩
theorem ae_c {e : Expr} {d : D} {v : V} (h : PE X e (tC v)) (r : ∀ ρ H, Rp X.K ρ H d v) : AE X E e (fC d) := pe_mono h fun σ H Q h => by
  obtain ⟨ρ, s, A, hs, R, h⟩ := h
  exact Out.now h R (r ρ H)
theorem ae_int {i j pos} : AE X E (.Constant (.int i) j pos) (fC (.int i)) := ae_c pe_int fun _ _ => rfl
theorem ae_bl {i j pos} : AE X E (.Constant (.bool i) j pos) (fC (.bl i)) := ae_c pe_bl fun _ _ => rfl
theorem ae_non {j pos} : AE X E (.Constant .none j pos) (fC .non) := ae_c pe_non fun _ _ => rfl
theorem ae_str {i j pos} : AE X E (.Constant (.str i) j pos) (fC (.str i)) := ae_c pe_str fun _ _ => rfl
end

/-! ## operators -/
def rA (K : PySem.W.Frag) (E : XK) (g : D → D → AH → Res D) : R2 := fun x y H Q => ∃ ρ A d e, Rel K ρ H A ∧ Rp K ρ H d x ∧ Rp K ρ H e y ∧ OutE K E ρ H (g d e A) Q
abbrev AOp (X : Cx) (E : XK) (f : Value → Value → Sem Value) (g : D → D → AH → Res D) : Prop := OpR X f (rA X.K E g)
def fOp (g : D → D → AH → Res D) (f1 f2 : FE) : FE := fun s A => (f1 s A).bind fun x A1 => (f2 s A1).bind fun y A2 => g x y A2
def rU1 (K : PySem.W.Frag) (E : XK) (g : D → AH → Res D) : V → Hp → VK → Prop := fun x H Q => ∃ ρ A d, Rel K ρ H A ∧ Rp K ρ H d x ∧ OutE K E ρ H (g d A) Q
def fUn (g : D → AH → Res D) (f1 : FE) : FE := fun s A => (f1 s A).bind fun x A1 => g x A1
section
variable {X : Cx} {E : XK} {a b : Expr} {f1 f2 : FE} {pos : Pos} {g : D → D → AH → Res D}
theorem two_ {K : PySem.W.Frag} {σ : L2.St} {H : Hp} {Q : VK} (h : tA K E (fOp g f1 f2) σ H Q) : tA K E f1 σ H fun x H1 => tA K E f2 σ H1 fun y H2 => rA K E g x y H2 Q := by
  obtain ⟨ρ, s, A, hs, R, h⟩ := h
  refine ⟨ρ, s, A, hs, R, (Out.bind h).mono fun x H1 ⟨ρ1, d, A1, _, e1, R1, r1, h1⟩ => ⟨ρ1, s, A1, hs.ext e1, R1, (Out.bind h1).mono fun y H2 ⟨ρ2, d2, A2, _, e2, R2, r2, h2⟩ => ⟨ρ2, A2, d, d2, R2, r1.ext e2, r2, h2⟩⟩⟩
theorem ae_op {op : Operator} (ho : AOp X E (binaryOp op) g) (ha : AE X E a f1) (hb : AE X E b f2) : AE X E (.BinOp a op b pos) (fOp g f1 f2) := pe_mono (pe_op ho ha hb) fun _ _ _ => two_
theorem ae_cmp {op : CmpOp} (ho : AOp X E (compareOp op) g) (ha : AE X E a f1) (hb : AE X E b f2) (hm : behindInMarks op b = false := by first | exact nomark _ | with_unfolding_all rfl) : AE X E (.Compare a [op] [b] pos) (fOp g f1 f2) := pe_mono (pe_cmpR ho ha hb hm) fun _ _ _ => two_
theorem ae_un {op : UnaryOp} {g : D → AH → Res D} (ho : UnR X (unaryOp op) (rU1 X.K E g)) (ha : AE X E a f1) : AE X E (.UnaryOp op a pos) (fUn g f1) := pe_mono (pe_un ho ha) fun σ H Q h => by
  obtain ⟨ρ, s, A, hs, R, h⟩ := h
  exact ⟨ρ, s, A, hs, R, (Out.bind h).mono fun x H1 ⟨ρ1, d, A1, _, e1, R1, r1, h1⟩ => ⟨ρ1, A1, d, R1, r1, h1⟩⟩
end

/-! ### the operators on data -/
def alloc (o : AO) (A : AH) : Res D := .ok (.ref A.length) (A ++ [o])
section
variable {K : PySem.W.Frag} {E : XK} {ρ : List Addr} {H : Hp} {A : AH} {Q : VK} {xs : List V} {ds : List D}
theorem new_lst (R : Rel K ρ H A) (r : RpL K ρ H ds xs) (h : OutE K E ρ H (alloc (.lst ds) A) Q) : ∀ p, H p = none → Q (.ref p) (upd H p (.lst xs)) := fun p hp => by
  have e : Ext K ρ H (ρ ++ [p]) (upd H p (.lst xs)) := Ext.new hp [p]
  exact h (ρ ++ [p]) (upd H p (.lst xs)) (.ref p) e (R.new hp ⟨xs, upd_same, r.ext e⟩) ⟨p, by rw [← R.len]; simp, rfl⟩
theorem new_tup (R : Rel K ρ H A) (r : RpL K ρ H ds xs) (h : OutE K E ρ H (.ok (.tup ds) A) Q) : ∀ p, H p = none → Q (.ref p) (upd H p (.tup xs)) := fun p hp => by
  have e : Ext K ρ H ρ (upd H p (.tup xs)) := Ext.new0 hp
  exact h ρ _ (.ref p) e (R.new0 hp) ⟨p, xs, rfl, .inl (.inl upd_same), r.ext e⟩
theorem new_dic {kvs : List (Key × D)} {us : List (Key × V)} (R : Rel K ρ H A) (r : RpK K ρ H kvs us) (h : OutE K E ρ H (alloc (.dic kvs) A) Q) : ∀ p, H p = none → Q (.ref p) (upd H p (.dK us)) := fun p hp => by
  have e : Ext K ρ H (ρ ++ [p]) (upd H p (.dK us)) := Ext.new hp [p]
  exact h (ρ ++ [p]) _ (.ref p) e (R.new hp ⟨us, upd_same, r.ext e⟩) ⟨p, by rw [← R.len]; simp, rfl⟩
end
def addD : D → D → AH → Res D
  | .int i, .int j, A => .ok (.int (i + j)) A
  | .str x, .str y, A => if x.length + y.length ≤ sizeLine then .ok (.str (x ++ y)) A else .bad
  | .tup xs, .tup ys, A => if xs.length + ys.length ≤ sizeLine then .ok (.tup (xs ++ ys)) A else .bad
  | .ref i, .ref j, A => match muL A (.ref i), muL A (.ref j) with
    | some xs, some ys => if xs.length + ys.length ≤ sizeLine then alloc (.lst (xs ++ ys)) A else .bad
    | _, _ => .bad
  | _, _, _ => .bad
def subD : D → D → AH → Res D
  | .int i, .int j, A => .ok (.int (i - j)) A
  | _, _, _ => .bad
def mulOk (i j : Int) : Prop := CMul i j ∨ CMulW i j
noncomputable def mulD : D → D → AH → Res D
  | .int i, .int j, A => if mulOk i j then .ok (.int (i * j)) A else .bad
  | .ref i, .int k, A => match muL A (.ref i) with
    | some xs => if -(2 ^ 63) ≤ k ∧ k < 2 ^ 63 ∧ xs.length * k.toNat ≤ sizeLine then alloc (.lst (List.replicate k.toNat xs).flatten) A else .bad
    | _ => .bad
  | _, _, _ => .bad
noncomputable def fdivD : D → D → AH → Res D
  | .int i, .int j, A => if CDivW i j then .ok (.int (i / j)) A else .bad
  | _, _, _ => .bad
def modD : D → D → AH → Res D
  | .int i, .int j, A => if 0 < j then .ok (.int (i % j)) A else .bad
  | _, _, _ => .bad
noncomputable def powD : D → D → AH → Res D
  | .int i, .int j, A => if CPow i j then .ok (.int (i ^ j.toNat)) A else .bad
  | _, _, _ => .bad
def negD : D → AH → Res D
  | .int i, A => .ok (.int (-i)) A
  | _, _ => .bad
section
variable {X : Cx} {E : XK}
theorem aop_add : AOp X E (binaryOp .Add) addD := op_mono ((op_add.or op_add_str).or (op_catA.or op_cat)) fun x y H Q h => by
  obtain ⟨ρ, A, d, e, R, r1, r2, h⟩ := h
  unfold addD at h
  split at h
  · cases r1; cases r2
    exact .inl (.inl ⟨_, _, rfl, rfl, h.now R rfl⟩)
  · split at h
    · rename_i z
      cases r1; cases r2
      exact .inl (.inr ⟨_, _, rfl, rfl, z, h.now R rfl⟩)
    · exact h.elim
  · split at h
    · rename_i xs ys z
      obtain ⟨a, us, rfl, q1, q2⟩ := r1
      obtain ⟨b, ws, rfl, q3, q4⟩ := r2
      refine .inr (.inl ⟨a, b, us, ws, rfl, rfl, q1, q3, by rw [q2.length, q4.length]; exact z, ?_, ?_, ?_⟩)
      · rintro rfl
        rw [q2.isNil, List.nil_append] at h
        exact h.now R ⟨b, ws, rfl, q3, q4⟩
      · rintro _ rfl
        rw [q4.isNil, List.append_nil] at h
        exact h.now R ⟨a, us, rfl, q1, q2⟩
      · intro _ _
        exact new_tup R (q2.append q4) h
    · exact h.elim
  · split at h
    · rename_i xs ys m1 m2
      split at h
      · rename_i z
        obtain ⟨_, a, us, _, rfl, _, _, q1, q2⟩ := muL_ok R r1 m1
        obtain ⟨_, b, ws, _, rfl, _, _, q3, q4⟩ := muL_ok R r2 m2
        refine .inr (.inr ⟨a, b, us, ws, rfl, rfl, q1, q3, by rw [q2.length, q4.length]; exact z, new_lst R (q2.append q4) h⟩)
      · exact h.elim
    · exact h.elim
  · exact h.elim
theorem aop_sub : AOp X E (binaryOp .Sub) subD := op_mono op_sub fun x y H Q h => by
  obtain ⟨ρ, A, d, e, R, r1, r2, h⟩ := h
  unfold subD at h
  split at h
  · cases r1; cases r2
    exact ⟨_, _, rfl, rfl, h.now R rfl⟩
  · exact h.elim
theorem aop_mul : AOp X E (binaryOp .Mult) mulD := op_mono ((op_mul.or op_mulW).or op_rep) fun x y H Q h => by
  obtain ⟨ρ, A, d, e, R, r1, r2, h⟩ := h
  unfold mulD at h
  split at h
  · split at h
    · rename_i z
      cases r1; cases r2
      rcases z with z | z
      · exact .inl (.inl ⟨_, _, rfl, rfl, z, h.now R rfl⟩)
      · exact .inl (.inr ⟨_, _, rfl, rfl, z, h.now R rfl⟩)
    · exact h.elim
  · split at h
    · rename_i xs m1
      split at h
      · rename_i z
        obtain ⟨_, a, us, _, rfl, _, _, q1, q2⟩ := muL_ok R r1 m1
        cases r2
        refine .inr ⟨a, _, us, rfl, rfl, q1, z.1, z.2.1, by rw [q2.length]; exact z.2.2, new_lst R (q2.rep _) h⟩
      · exact h.elim
    · exact h.elim
  · exact h.elim
theorem aop_fdiv : AOp X E (binaryOp .FloorDiv) fdivD := op_mono op_fdivW fun x y H Q h => by
  obtain ⟨ρ, A, d, e, R, r1, r2, h⟩ := h
  unfold fdivD at h
  split at h
  · split at h
    · rename_i z
      cases r1; cases r2
      exact ⟨_, _, rfl, rfl, z, h.now R rfl⟩
    · exact h.elim
  · exact h.elim
theorem aop_mod : AOp X E (binaryOp .Mod) modD := op_mono op_mod fun x y H Q h => by
  obtain ⟨ρ, A, d, e, R, r1, r2, h⟩ := h
  unfold modD at h
  split at h
  · split at h
    · rename_i z
      cases r1; cases r2
      exact ⟨_, _, rfl, rfl, z, h.now R rfl⟩
    · exact h.elim
  · exact h.elim
theorem aop_pow : AOp X E (binaryOp .Pow) powD := op_mono op_pow fun x y H Q h => by
  obtain ⟨ρ, A, d, e, R, r1, r2, h⟩ := h
  unfold powD at h
  split at h
  · split at h
    · rename_i z
      cases r1; cases r2
      exact ⟨_, _, rfl, rfl, z, h.now R rfl⟩
    · exact h.elim
  · exact h.elim
theorem aun_neg : UnR X (unaryOp .USub) (rU1 X.K E negD) := fun pins s σ H x v Q I rx h => by
  obtain ⟨ρ, A, d, R, r1, h⟩ := h
  unfold negD at h
  split at h
  · cases r1
    exact un_neg pins s σ H _ v Q I rx ⟨_, rfl, h.now R rfl⟩
  · exact h.elim
end
end Ab

namespace Ab
open PySem PySem.Spec PyProof.Rows L2
open scoped Classical

/-! ## data without cells, as PyData -/
mutual
def pd : D → Option PyData
  | .non => some .none
  | .bl b => some (.bool b)
  | .int i => some (.int i)
  | .str x => some (.str x)
  | .tup ds => match pdL ds with
    | some ps => some (.tuple ps)
    | none => none
  | .ref _ => none
def pdL : List D → Option (List PyData)
  | [] => some []
  | d :: ds => match pd d, pdL ds with
    | some p, some ps => some (p :: ps)
    | _, _ => none
end
def pd1 (A : AH) : D → Option PyData
  | .ref i => match rdL A (.ref i) with
    | some xs => match pdL xs with
      | some ps => some (.list ps)
      | none => none
    | none => none
  | d => pd d
section
variable {K : PySem.W.Frag} {ρ : List Addr} {H : Hp} {A : AH}
mutual
theorem pd_ok : ∀ (d : D) (v : V) (p : PyData), Rp K ρ H d v → pd d = some p → Dp K H v p
  | .non, v, p, r, h => by cases r; cases h; exact .non
  | .bl b, v, p, r, h => by cases r; cases h; exact .bl b
  | .int i, v, p, r, h => by cases r; cases h; exact .int i
  | .str x, v, p, r, h => by cases r; cases h; exact .str x
  | .ref i, v, p, r, h => by cases h
  | .tup ds, v, p, r, h => by
    obtain ⟨a, xs, rfl, h2, h3⟩ := r
    unfold pd at h
    split at h
    · rename_i ps e
      cases h
      exact .tup h2 (pdL_ok ds xs ps h3 e)
    · cases h
theorem pdL_ok : ∀ (ds : List D) (xs : List V) (ps : List PyData), RpL K ρ H ds xs → pdL ds = some ps → DpAll K H xs ps
  | [], xs, ps, r, h => by cases r; cases h; exact .nil
  | d :: ds, xs, ps, r, h => by
    obtain ⟨x, r', rfl, h2, h3⟩ := r
    unfold pdL at h
    split at h
    · rename_i p ps' e1 e2
      cases h
      exact .cons (pd_ok d x p h2 e1) (pdL_ok ds r' ps' h3 e2)
    · cases h
end
theorem pd1_ok (R : Rel K ρ H A) {d : D} {v : V} {p : PyData} (r : Rp K ρ H d v) (h : pd1 A d = some p) : Dp K H v p := by
  cases d with
  | ref i =>
    unfold pd1 at h
    simp only at h
    split at h
    · rename_i xs e
      split at h
      · rename_i ps e2
        cases h
        obtain ⟨a, us, rfl, q1, q2⟩ := rdL_ok R r e
        exact .lst q1 (pdL_ok xs us ps q2 e2)
      · cases h
    · cases h
  | _ => exact pd_ok _ _ _ r h
end
/-- == of plain things -/
def scalD : D → D → Option Bool
  | .int i, .int j => some (decide (i = j))
  | .str x, .str y => some (decide (x = y))
  | .bl a, .bl b => some (decide (a = b))
  | .non, .non => some true
  | .non, .int _ => some false
  | .int _, .non => some false
  | .non, .bl _ => some false
  | .bl _, .non => some false
  | .non, .str _ => some false
  | .str _, .non => some false
  | .int _, .str _ => some false
  | .str _, .int _ => some false
  | .bl _, .str _ => some false
  | .str _, .bl _ => some false
  | _, _ => none
def eqB (d e : D) (A : AH) : Option Bool := match scalD d e with
  | some b => some b
  | none => match pd1 A d, pd1 A e with
    | some p, some q => if (SeqAt.shaped p && SeqAt.shaped q) = true then some (PyData.eqv p q) else none
    | _, _ => none
def okB (o : Option Bool) (A : AH) : Res D := match o with
  | some b => .ok (.bl b) A
  | none => .bad
def eqD (d e : D) (A : AH) : Res D := okB (eqB d e A) A
def neD (d e : D) (A : AH) : Res D := okB ((eqB d e A).map (!·)) A
section
variable {X : Cx} {E : XK} {K : PySem.W.Frag} {ρ : List Addr} {H : Hp} {A : AH}
theorem scal_ok {d e : D} {x y : V} {b : Bool} (r1 : Rp K ρ H d x) (r2 : Rp K ρ H e y) (h : scalD d e = some b) : scal x y = true ∧ decide (x = y) = b := by
  cases d <;> cases e <;> first | (cases h; done) | (cases r1; cases r2; cases h; first | exact ⟨rfl, rfl⟩ | exact ⟨rfl, by simp⟩)
theorem aop_eq (hu : X.A.units + 64 < cLine) : AOp X E (compareOp .Eq) eqD := op_mono (op_eq.or (op_eqD hu)) fun x y H Q h => by
  obtain ⟨ρ, A, d, e, R, r1, r2, h⟩ := h
  unfold eqD eqB at h
  split at h
  · rename_i b e1
    obtain ⟨s1, s2⟩ := scal_ok r1 r2 e1
    exact .inl ⟨s1, by rw [s2]; exact h.now R rfl⟩
  · split at h
    · rename_i p q e1 e2
      split at h
      · rename_i z
        rw [Bool.and_eq_true] at z
        exact .inr ⟨p, q, pd1_ok R r1 e1, pd1_ok R r2 e2, z.1, z.2, h.now R rfl⟩
      · exact h.elim
    · exact h.elim
theorem aop_ne (hu : X.A.units + 64 < cLine) : AOp X E (compareOp .NotEq) neD := op_mono (op_ne.or (op_neD hu)) fun x y H Q h => by
  obtain ⟨ρ, A, d, e, R, r1, r2, h⟩ := h
  unfold neD eqB at h
  split at h
  · rename_i b e1
    obtain ⟨s1, s2⟩ := scal_ok r1 r2 e1
    exact .inl ⟨s1, by rw [s2]; exact h.now R rfl⟩
  · split at h
    · rename_i p q e1 e2
      split at h
      · rename_i z
        rw [Bool.and_eq_true] at z
        exact .inr ⟨p, q, pd1_ok R r1 e1, pd1_ok R r2 e2, z.1, z.2, h.now R rfl⟩
      · exact h.elim
    · exact h.elim
end
/-! ## is, order -/
def isNon : D → Bool
  | .non => true
  | _ => false
def isD : D → D → AH → Res D
  | d, .non, A => .ok (.bl (isNon d)) A
  | .bl a, .bl b, A => .ok (.bl (decide (a = b))) A
  | _, _, _ => .bad
def isntD : D → D → AH → Res D
  | d, .non, A => .ok (.bl (!isNon d)) A
  | .bl a, .bl b, A => .ok (.bl (!decide (a = b))) A
  | _, _, _ => .bad
def ltD : D → D → AH → Res D
  | .int i, .int j, A => .ok (.bl (decide (i < j))) A
  | .str i, .str j, A => .ok (.bl (decide (i.cps.toList < j.cps.toList))) A
  | _, _, _ => .bad
def leD : D → D → AH → Res D
  | .int i, .int j, A => .ok (.bl (decide (i ≤ j))) A
  | .str i, .str j, A => .ok (.bl (!decide (j.cps.toList < i.cps.toList))) A
  | _, _, _ => .bad
def gtD : D → D → AH → Res D
  | .int i, .int j, A => .ok (.bl (decide (j < i))) A
  | .str i, .str j, A => .ok (.bl (decide (j.cps.toList < i.cps.toList))) A
  | _, _, _ => .bad
def geD : D → D → AH → Res D
  | .int i, .int j, A => .ok (.bl (decide (j ≤ i))) A
  | .str i, .str j, A => .ok (.bl (!decide (i.cps.toList < j.cps.toList))) A
  | _, _, _ => .bad
section
variable {X : Cx} {E : XK} {K : PySem.W.Frag} {ρ : List Addr} {H : Hp} {A : AH}
theorem isNon_ok {d : D} {x : V} (r : Rp K ρ H d x) : decide (x = .non) = isNon d := by
  cases d with
  | non => cases r; rfl
  | bl _ => cases r; rfl
  | int _ => cases r; rfl
  | str _ => cases r; rfl
  | tup _ => obtain ⟨a, xs, rfl, _⟩ := r; rfl
  | ref _ => obtain ⟨a, _, rfl⟩ := r; rfl
theorem aop_is : AOp X E (compareOp .Is) isD := op_mono (op_isN.or op_isBl) fun x y H Q h => by
  obtain ⟨ρ, A, d, e, R, r1, r2, h⟩ := h
  unfold isD at h
  split at h
  · cases r2
    exact .inl ⟨rfl, by rw [isNon_ok r1]; exact h.now R rfl⟩
  · cases r1; cases r2
    exact .inr ⟨_, _, rfl, rfl, h.now R rfl⟩
  · exact h.elim
theorem aop_isnt : AOp X E (compareOp .IsNot) isntD := op_mono (op_notN.or op_notBl) fun x y H Q h => by
  obtain ⟨ρ, A, d, e, R, r1, r2, h⟩ := h
  unfold isntD at h
  split at h
  · cases r2
    exact .inl ⟨rfl, by rw [isNon_ok r1]; exact h.now R rfl⟩
  · cases r1; cases r2
    exact .inr ⟨_, _, rfl, rfl, h.now R rfl⟩
  · exact h.elim
theorem aop_lt : AOp X E (compareOp .Lt) ltD := op_mono (op_lt.or op_lt_str) fun x y H Q h => by
  obtain ⟨ρ, A, d, e, R, r1, r2, h⟩ := h
  unfold ltD at h
  split at h
  · cases r1; cases r2; exact .inl ⟨_, _, rfl, rfl, h.now R rfl⟩
  · cases r1; cases r2; exact .inr ⟨_, _, rfl, rfl, h.now R rfl⟩
  · exact h.elim
theorem aop_le : AOp X E (compareOp .LtE) leD := op_mono (op_le.or op_le_str) fun x y H Q h => by
  obtain ⟨ρ, A, d, e, R, r1, r2, h⟩ := h
  unfold leD at h
  split at h
  · cases r1; cases r2; exact .inl ⟨_, _, rfl, rfl, h.now R rfl⟩
  · cases r1; cases r2; exact .inr ⟨_, _, rfl, rfl, h.now R rfl⟩
  · exact h.elim
theorem aop_gt : AOp X E (compareOp .Gt) gtD := op_mono (op_gt.or op_gt_str) fun x y H Q h => by
  obtain ⟨ρ, A, d, e, R, r1, r2, h⟩ := h
  unfold gtD at h
  split at h
  · cases r1; cases r2; exact .inl ⟨_, _, rfl, rfl, h.now R rfl⟩
  · cases r1; cases r2; exact .inr ⟨_, _, rfl, rfl, h.now R rfl⟩
  · exact h.elim
theorem aop_ge : AOp X E (compareOp .GtE) geD := op_mono (op_ge.or op_ge_str) fun x y H Q h => by
  obtain ⟨ρ, A, d, e, R, r1, r2, h⟩ := h
  unfold geD at h
  split at h
  · cases r1; cases r2; exact .inl ⟨_, _, rfl, rfl, h.now R rfl⟩
  · cases r1; cases r2; exact .inr ⟨_, _, rfl, rfl, h.now R rfl⟩
  · exact h.elim
end
/-! ## chains -/
def fChain (g g' : D → D → AH → Res D) (f1 f2 f3 : FE) : FE := fun s A => (f1 s A).bind fun x A1 => (f2 s A1).bind fun y A2 => (g x y A2).bind fun z A3 => match z with
  | .bl true => (f3 s A3).bind fun w A4 => g' y w A4
  | .bl false => .ok (.bl false) A3
  | _ => .bad
section
variable {X : Cx} {E : XK} {a b c : Expr} {f1 f2 f3 : FE} {pos : Pos} {g g' : D → D → AH → Res D}
theorem chain_ {K : PySem.W.Frag} {σ : L2.St} {H : Hp} {Q : VK} (h : tA K E (fChain g g' f1 f2 f3) σ H Q) : tChain (rA K E g) (rA K E g') (tA K E f1) (tA K E f2) (tA K E f3) σ H Q := by
  obtain ⟨ρ, s, A, hs, R, h⟩ := h
  refine ⟨ρ, s, A, hs, R, (Out.bind h).mono fun x H1 ⟨ρ1, d, A1, _, e1, R1, r1, h1⟩ => ⟨ρ1, s, A1, hs.ext e1, R1, (Out.bind h1).mono fun y H2 ⟨ρ2, d2, A2, _, e2, R2, r2, h2⟩ => ⟨ρ2, A2, d, d2, R2, r1.ext e2, r2, ?_⟩⟩⟩
  refine (Out.bind h2).mono fun z H3 ⟨ρ3, d3, A3, _, e3, R3, r3, h3⟩ => ?_
  split at h3
  · cases r3
    refine ⟨true, rfl, ?_⟩
    rw [if_pos rfl]
    exact ⟨ρ3, s, A3, hs.ext (e1.trans (e2.trans e3)), R3, (Out.bind h3).mono fun w H4 ⟨ρ4, d4, A4, _, e4, R4, r4, h4⟩ => ⟨ρ4, A4, d2, d4, R4, r2.ext (e3.trans e4), r4, h4⟩⟩
  · cases r3
    refine ⟨false, rfl, ?_⟩
    rw [if_neg Bool.false_ne_true]
    exact h3.now R3 rfl
  · exact h3.elim
theorem ae_chain {op op' : CmpOp} (ho : AOp X E (compareOp op) g) (ho' : AOp X E (compareOp op') g') (ha : AE X E a f1) (hb : AE X E b f2) (hc : AE X E c f3) (hm : lastMarks [op, op'] [b, c] = false := by with_unfolding_all rfl) :
    AE X E (.Compare a [op, op'] [b, c] pos) (fChain g g' f1 f2 f3) := pe_mono (pe_chain ho ho' ha hb hc hm) fun _ _ _ => chain_
end
/-! ## truth, tests -/
def truD (A : AH) : D → Option Bool
  | .non => some false
  | .bl b => some b
  | .int i => some (i != 0)
  | .str x => if x.length ≤ sizeLine then some ((x.length : Int) != 0) else none
  | .tup ds => some (!ds.isEmpty)
  | .ref i => match A[i]? with
    | some (.lst xs) => some (!xs.isEmpty)
    | some (.frz xs) => some (!xs.isEmpty)
    | some (.dic xs) => some (!xs.isEmpty)
    | _ => none
theorem empty_of {α β : Type} {xs : List α} {ys : List β} (h : xs.length = ys.length) : xs.isEmpty = ys.isEmpty := by cases xs <;> cases ys <;> first | rfl | simp at h
theorem RpK.length {κ : Type} {K : PySem.W.Frag} {ρ : List Addr} {H : Hp} : ∀ {ps : List (κ × D)} {us : List (κ × V)}, RpK K ρ H ps us → us.length = ps.length
  | [], us, h => by rw [show us = [] from h]; rfl
  | p :: ps, us, h => by
    obtain ⟨x, r, rfl, h2, h3⟩ := h
    simp [RpK.length h3]
theorem tru_of {K : PySem.W.Frag} {ρ : List Addr} {H : Hp} {A : AH} {d : D} {x : V} {k : Bool} (R : Rel K ρ H A) (r : Rp K ρ H d x) (h : truD A d = some k) : TruV K x H k := by
  cases d with
  | non => cases r; cases h; rfl
  | bl _ => cases r; cases h; rfl
  | int _ => cases r; cases h; rfl
  | str y =>
    cases r
    simp only [truD] at h
    by_cases z : y.length ≤ sizeLine
    · rw [if_pos z] at h; cases h; exact ⟨z, rfl⟩
    · rw [if_neg z] at h; cases h
  | tup ds =>
    obtain ⟨a, xs, rfl, h2, h3⟩ := r
    cases h
    exact .inr (.inl ⟨xs, h2, by rw [empty_of h3.length]⟩)
  | ref i =>
    obtain ⟨a, h1, rfl⟩ := r
    obtain ⟨o, h2, h3⟩ := R.has h1
    unfold truD at h
    simp only [h2] at h
    cases o with
    | lst xs => cases h; obtain ⟨us, e1, e2⟩ := h3; exact .inl ⟨us, .inl (.inl e1), by rw [empty_of e2.length]⟩
    | frz xs => cases h; obtain ⟨us, e1, e2⟩ := h3; exact .inl ⟨us, e1.sq, by rw [empty_of e2.length]⟩
    | dic xs => cases h; obtain ⟨us, e1, e2⟩ := h3; exact .inr (.inr ⟨us, e1, by rw [empty_of e2.length]⟩)
    | ins _ _ => cases h
def tru (d : D) (A : AH) : Res Bool := match truD A d with
  | some b => .ok b A
  | none => .bad
def fT (f : FE) : FT := fun s A => (f s A).bind tru
def fTB (f : FE) : FT := fun s A => (f s A).bind fun d A1 => match d with
  | .bl b => .ok b A1
  | _ => .bad
def fTNot (f : FT) : FT := fun s A => (f s A).bind fun b A1 => .ok (!b) A1
def fTAnd (f g : FT) : FT := fun s A => (f s A).bind fun b A1 => if b = true then g s A1 else .ok false A1
def fTOr (f g : FT) : FT := fun s A => (f s A).bind fun b A1 => if b = true then .ok true A1 else g s A1
def fNot (f : FE) : FE := fun s A => (f s A).bind fun d A1 => (tru d A1).bind fun b A2 => .ok (.bl (!b)) A2
def fAnd (f g : FE) : FE := fun s A => (f s A).bind fun d A1 => (tru d A1).bind fun b A2 => if b = true then g s A2 else .ok d A2
def fOr (f g : FE) : FE := fun s A => (f s A).bind fun d A1 => (tru d A1).bind fun b A2 => if b = true then .ok d A2 else g s A2
def fIf (c : FT) (f g : FE) : FE := fun s A => (c s A).bind fun b A1 => if b = true then f s A1 else g s A1
section
variable {X : Cx} {E : XK} {a b c : Expr} {f g h : FE} {t u : FT} {pos : Pos} {rest : List Expr}
theorem tru_run {K : PySem.W.Frag} {α β : Type} {R1 : List Addr → Hp → α → β → Prop} {ρ : List Addr} {H : Hp} {A : AH} {d : D} {x : V} {k : Bool → AH → Res α} {Q : β → Hp → Prop} (R : Rel K ρ H A) (r : Rp K ρ H d x)
    (h : Out K E R1 ρ H ((tru d A).bind k) Q) : ∃ b, TruV K x H b ∧ Out K E R1 ρ H (k b A) Q := by
  unfold tru at h
  split at h
  · rename_i b e
    exact ⟨b, tru_of R r e, h⟩
  · exact h.elim
theorem at_e (ha : AE X E a f) (he : ∀ whole, isTrue a X.env whole = (do let v ← whole; standAt a.pos; holding [v] (truthy v)) := by intro _; rfl) : AT X E a (fT f) := pt_mono (pt_truth ha he) fun σ H Q hh => by
  obtain ⟨ρ, s, A, hs, R, hh⟩ := hh
  refine ⟨ρ, s, A, hs, R, (Out.bind hh).mono fun x H1 ⟨ρ1, d, A1, _, e1, R1, r1, h1⟩ => ?_⟩
  unfold tru at h1
  split at h1
  · rename_i b e
    exact ⟨b, tru_of R1 r1 e, h1.now R1 rfl⟩
  · exact h1.elim
theorem tb_ {K : PySem.W.Frag} {σ : L2.St} {H : Hp} {Q : Bool → Hp → Prop} {t : TE} {f : FE} (m : ∀ R : VK, tA K E f σ H R → t σ H R) (hh : tAT K E (fTB f) σ H Q) : tTest t σ H Q := by
  refine m _ ?_
  obtain ⟨ρ, s, A, hs, R, hh⟩ := hh
  refine ⟨ρ, s, A, hs, R, (Out.bind hh).mono fun x H1 ⟨ρ1, d, A1, _, e1, R1, r1, h1⟩ => ?_⟩
  split at h1
  · cases r1
    exact ⟨_, rfl, h1.now R1 rfl⟩
  · exact h1.elim
/-- a comparison, as a test -/
theorem at_cmp {op : CmpOp} {go : D → D → AH → Res D} (ho : AOp X E (compareOp op) go) (ha : AE X E a f) (hb : AE X E b g) (hm : behindInMarks op b = false := by first | exact nomark _ | with_unfolding_all rfl) : AT X E (.Compare a [op] [b] pos) (fTB (fOp go f g)) := pt_mono (pt_cmpR ho ha hb hm) fun σ H Q h => tb_ (fun _ => two_) h
theorem at_chain {c : Expr} {op op' : CmpOp} {go go' : D → D → AH → Res D} (ho : AOp X E (compareOp op) go) (ho' : AOp X E (compareOp op') go') (ha : AE X E a f) (hb : AE X E b g) (hc : AE X E c h) (hm : lastMarks [op, op'] [b, c] = false := by with_unfolding_all rfl) :
    AT X E (.Compare a [op, op'] [b, c] pos) (fTB (fChain go go' f g h)) := pt_mono (pt_chain ho ho' ha hb hc hm) fun σ H Q hh => tb_ (fun _ => chain_) hh
theorem at_not (ha : AT X E a t) : AT X E (.UnaryOp .Not a pos) (fTNot t) := pt_mono (pt_not ha) fun σ H Q hh => by
  obtain ⟨ρ, s, A, hs, R, hh⟩ := hh
  refine ⟨ρ, s, A, hs, R, (Out.bind hh).mono fun x H1 ⟨ρ1, d, A1, _, e1, R1, r1, h1⟩ => ?_⟩
  cases r1
  exact h1.now R1 rfl
abbrev AW (X : Cx) (E : XK) (e : Expr) (f : FT) : Prop := PW X e (tAT X.K E f)
theorem aw_and1 (ha : AT X E a t) : AW X E (.BoolOp .And [a] pos) t := pw_and1 ha
theorem aw_or1 (ha : AT X E a t) : AW X E (.BoolOp .Or [a] pos) t := pw_or1 ha
theorem aw_and (ha : AT X E a t) (hb : AW X E (.BoolOp .And (b :: rest) pos) u) : AW X E (.BoolOp .And (a :: b :: rest) pos) (fTAnd t u) := pw_mono (pw_and ha hb) fun σ H Q hh => by
  obtain ⟨ρ, s, A, hs, R, hh⟩ := hh
  refine ⟨ρ, s, A, hs, R, (Out.bind hh).mono fun x H1 ⟨ρ1, d, A1, _, e1, R1, r1, h1⟩ => ?_⟩
  cases r1
  cases x with
  | true => exact ⟨ρ1, s, A1, hs.ext e1, R1, h1⟩
  | false => exact h1.now R1 rfl
theorem aw_or (ha : AT X E a t) (hb : AW X E (.BoolOp .Or (b :: rest) pos) u) : AW X E (.BoolOp .Or (a :: b :: rest) pos) (fTOr t u) := pw_mono (pw_or ha hb) fun σ H Q hh => by
  obtain ⟨ρ, s, A, hs, R, hh⟩ := hh
  refine ⟨ρ, s, A, hs, R, (Out.bind hh).mono fun x H1 ⟨ρ1, d, A1, _, e1, R1, r1, h1⟩ => ?_⟩
  cases r1
  cases x with
  | true => exact h1.now R1 rfl
  | false => exact ⟨ρ1, s, A1, hs.ext e1, R1, h1⟩
theorem ae_one {op} (h : AE X E a f) : AE X E (.BoolOp op [a] pos) f := pe_one h
theorem ae_and (ha : AE X E a f) (hb : AE X E (.BoolOp .And (b :: rest) pos) g) : AE X E (.BoolOp .And (a :: b :: rest) pos) (fAnd f g) := pe_mono (pe_andT ha hb) fun σ H Q hh => by
  obtain ⟨ρ, s, A, hs, R, hh⟩ := hh
  refine ⟨ρ, s, A, hs, R, (Out.bind hh).mono fun x H1 ⟨ρ1, d, A1, _, e1, R1, r1, h1⟩ => ?_⟩
  obtain ⟨k, tk, h2⟩ := tru_run R1 r1 h1
  refine ⟨k, tk, ?_⟩
  cases k with
  | true => exact ⟨ρ1, s, A1, hs.ext e1, R1, h2⟩
  | false => exact h2.now R1 r1
theorem ae_or (ha : AE X E a f) (hb : AE X E (.BoolOp .Or (b :: rest) pos) g) : AE X E (.BoolOp .Or (a :: b :: rest) pos) (fOr f g) := pe_mono (pe_orT ha hb) fun σ H Q hh => by
  obtain ⟨ρ, s, A, hs, R, hh⟩ := hh
  refine ⟨ρ, s, A, hs, R, (Out.bind hh).mono fun x H1 ⟨ρ1, d, A1, _, e1, R1, r1, h1⟩ => ?_⟩
  obtain ⟨k, tk, h2⟩ := tru_run R1 r1 h1
  refine ⟨k, tk, ?_⟩
  cases k with
  | true => exact h2.now R1 r1
  | false => exact ⟨ρ1, s, A1, hs.ext e1, R1, h2⟩
theorem ae_not (ha : AE X E a f) : AE X E (.UnaryOp .Not a pos) (fNot f) := pe_mono (pe_notT ha) fun σ H Q hh => by
  obtain ⟨ρ, s, A, hs, R, hh⟩ := hh
  refine ⟨ρ, s, A, hs, R, (Out.bind hh).mono fun x H1 ⟨ρ1, d, A1, _, e1, R1, r1, h1⟩ => ?_⟩
  obtain ⟨k, tk, h2⟩ := tru_run R1 r1 h1
  exact ⟨k, tk, h2.now R1 rfl⟩
theorem ae_if (hc : AT X E c t) (ha : AE X E a f) (hb : AE X E b g) : AE X E (.IfExp c a b pos) (fIf t f g) := pe_mono (pe_ifExp hc ha hb) fun σ H Q hh => by
  obtain ⟨ρ, s, A, hs, R, hh⟩ := hh
  refine ⟨ρ, s, A, hs, R, (Out.bind hh).mono fun x H1 ⟨ρ1, d, A1, _, e1, R1, r1, h1⟩ => ?_⟩
  cases r1
  cases x with
  | true => exact ⟨ρ1, s, A1, hs.ext e1, R1, h1⟩
  | false => exact ⟨ρ1, s, A1, hs.ext e1, R1, h1⟩
end
/-! ## arguments, displays -/
def fNil : FA := fun _ A => .ok [] A
def fCons (f : FE) (fs : FA) : FA := fun s A => (f s A).bind fun x A1 => (fs s A1).bind fun xs A2 => .ok (x :: xs) A2
def tupD (xs : List D) (A : AH) : Res D := if xs.length ≤ sizeLine then .ok (.tup xs) A else .bad
def lstD (xs : List D) (A : AH) : Res D := if xs.length ≤ sizeLine then alloc (.lst xs) A else .bad
def fTup (fs : FA) : FE := fun s A => (fs s A).bind tupD
def fLst (fs : FA) : FE := fun s A => (fs s A).bind lstD
section
variable {X : Cx} {E : XK} {e : Expr} {es : List Expr} {f : FE} {fs : FA} {pos : Pos}
theorem aa_nil : AA X E [] fNil := pa_mono pa_nil fun σ H Q hh => by
  obtain ⟨ρ, s, A, hs, R, hh⟩ := hh
  exact Out.now hh R rfl
theorem aa_cons (ha : AE X E e f) (hr : AA X E es fs) (hs : starEach (e :: es) X.env = (false, eval e X.env) :: starEach es X.env := by rfl) : AA X E (e :: es) (fCons f fs) := pa_mono (pa_cons ha hr hs) fun σ H Q hh => by
  obtain ⟨ρ, s, A, hs, R, hh⟩ := hh
  refine ⟨ρ, s, A, hs, R, (Out.bind hh).mono fun x H1 ⟨ρ1, d, A1, _, e1, R1, r1, h1⟩ => ⟨ρ1, s, A1, hs.ext e1, R1, (Out.bind h1).mono fun xs H2 ⟨ρ2, ds, A2, _, e2, R2, r2, h2⟩ => ?_⟩⟩
  exact Out.now h2 R2 ⟨x, xs, rfl, r1.ext e2, r2⟩
theorem ae_tup {x1} (h : AA X E es fs) : AE X E (.Tuple es x1 pos) (fTup fs) := pe_mono (pe_tup h) fun σ H Q hh => by
  obtain ⟨ρ, s, A, hs, R, hh⟩ := hh
  refine ⟨ρ, s, A, hs, R, (Out.bind hh).mono fun x H1 ⟨ρ1, d, A1, _, e1, R1, r1, h1⟩ => ?_⟩
  unfold tupD at h1
  split at h1
  · rename_i z
    exact ⟨by rw [r1.length]; exact z, new_tup R1 r1 h1⟩
  · exact h1.elim
theorem ae_lst (h : AA X E es fs) : AE X E (.List es pos) (fLst fs) := pe_mono (pe_lst h) fun σ H Q hh => by
  obtain ⟨ρ, s, A, hs, R, hh⟩ := hh
  refine ⟨ρ, s, A, hs, R, (Out.bind hh).mono fun x H1 ⟨ρ1, d, A1, _, e1, R1, r1, h1⟩ => ?_⟩
  unfold lstD at h1
  split at h1
  · rename_i z
    exact ⟨by rw [r1.length]; exact z, new_lst R1 r1 h1⟩
  · exact h1.elim
end
end Ab

namespace Ab
open PySem PySem.Spec PyProof.Rows L2
open scoped Classical

/-! ## dicts as lists of pairs -/
def getK {κ : Type} [DecidableEq κ] (kvs : List (κ × D)) (k : κ) : Option D := (kvs.find? fun kv => decide (kv.1 = k)).map (·.2)
def setK {κ : Type} [DecidableEq κ] (kvs : List (κ × D)) (k : κ) (v : D) : List (κ × D) :=
  if (kvs.any fun kv => decide (kv.1 = k)) = true then kvs.map (fun kv => if kv.1 = k then (kv.1, v) else kv) else kvs ++ [(k, v)]
def keyOf : D → Option Key
  | .int i => some (.inl i)
  | .str x => some (.inr x)
  | _ => none
section
variable {κ : Type} [DecidableEq κ] {K : PySem.W.Frag} {ρ : List Addr} {H : Hp} {A : AH}
theorem keyOf_ok {d : D} {v : V} {k : Key} (r : Rp K ρ H d v) (h : keyOf d = some k) : v = kV k := by
  cases d <;> first | (cases h; done) | (cases h; cases r; rfl)
theorem getK_ok {k : κ} : ∀ {kvs : List (κ × D)} {us : List (κ × V)}, RpK K ρ H kvs us → match getK kvs k with
    | some d => ∃ v, valV us k = some v ∧ Rp K ρ H d v
    | none => valV us k = none
  | [], us, h => by rw [show us = [] from h]; rfl
  | p :: ps, us, h => by
    obtain ⟨v, r, rfl, h2, h3⟩ := h
    have ih := getK_ok (k := k) h3
    by_cases e : p.1 = k
    · simp only [getK, List.find?_cons, e, decide_true, Option.map_some]
      exact ⟨v, by simp [valV, List.find?_cons, e], h2⟩
    · have e1 : getK (p :: ps) k = getK ps k := by simp [getK, List.find?_cons, e]
      have e2 : valV ((p.1, v) :: r) k = valV r k := by simp [valV, List.find?_cons, e]
      rw [e1, e2]
      exact ih
theorem any_ok {k : κ} : ∀ {kvs : List (κ × D)} {us : List (κ × V)}, RpK K ρ H kvs us → (kvs.any fun kv => decide (kv.1 = k)) = us.any fun kv => decide (kv.1 = k)
  | [], us, h => by rw [show us = [] from h]; rfl
  | p :: ps, us, h => by
    obtain ⟨v, r, rfl, h2, h3⟩ := h
    rw [List.any_cons, List.any_cons, any_ok h3]
theorem RpK.app : ∀ {kvs : List (κ × D)} {us : List (κ × V)} {k : κ} {d : D} {v : V}, RpK K ρ H kvs us → Rp K ρ H d v → RpK K ρ H (kvs ++ [(k, d)]) (us ++ [(k, v)])
  | [], us, k, d, v, h, q => by rw [show us = [] from h]; exact ⟨v, [], rfl, q, rfl⟩
  | p :: ps, us, k, d, v, h, q => by
    obtain ⟨w, r, rfl, h2, h3⟩ := h
    exact ⟨w, _, rfl, h2, h3.app q⟩
theorem setK_ok {k : κ} {d : D} {v : V} {kvs : List (κ × D)} {us : List (κ × V)} (h : RpK K ρ H kvs us) (q : Rp K ρ H d v) : RpK K ρ H (setK kvs k d) (putK us k v) := by
  unfold setK putK
  rw [any_ok h]
  split
  · have all : ∀ {kvs : List (κ × D)} {us : List (κ × V)}, RpK K ρ H kvs us → RpK K ρ H (kvs.map (fun kv => if kv.1 = k then (kv.1, d) else kv)) (us.map (fun kv => if kv.1 = k then (kv.1, v) else kv)) := by
      intro kvs
      induction kvs with
      | nil => intro us h; rw [show us = [] from h]; rfl
      | cons p ps ih =>
        intro us h
        obtain ⟨w, r, rfl, h2, h3⟩ := h
        by_cases e : p.1 = k
        · simp only [List.map_cons, if_pos e]; exact ⟨v, _, rfl, q, ih h3⟩
        · simp only [List.map_cons, if_neg e]; exact ⟨w, _, rfl, h2, ih h3⟩
    exact all h
  · exact h.app q
end

/-! ## subscripts -/
def ixSeq (xs : List D) (i : Int) (A : AH) : Res D := match atI xs i with
  | some x => .ok x A
  | none => .bad
def ixD (d e : D) (A : AH) : Res D := match e with
  | .int i => match rdS A d with
    | some xs => ixSeq xs i A
    | none => match d with
      | .str z => if z.length ≤ sizeLine then (match atI z.cps.toList i with | some c => .ok (.str ⟨#[c]⟩) A | none => .bad) else .bad
      | _ => match rdK A d with
        | some kvs => (match getK kvs (.inl i) with | some v => .ok v A | none => .bad)
        | none => .bad
  | .str x => match rdK A d with
    | some kvs => (match getK kvs (.inr x) with | some v => .ok v A | none => .bad)
    | none => .bad
  | _ => .bad
section
variable {X : Cx} {E : XK}
theorem ix_dict (hu : X.A.units + 1 < cLine) : IxR X (fun x y H Q => ∃ a v, x = .ref a ∧ DGet H a y (some v) ∧ Q v H) := by
  intro value slice pins s σ H x y v u Q I rx ry h hs
  obtain ⟨a, w, rfl, g, q⟩ := h
  obtain rfl : v = Value.ref a := rx
  exact tail_any (dict_typeIs I g) PySem.F.slot_dict_getitem.lookup (d_getItem hu I g ry fun w' s3 I3 rw' => ⟨w, H, I3, rw', q⟩) hs
theorem RpL.atI {K : PySem.W.Frag} {ρ : List Addr} {H : Hp} {ds : List D} {xs : List V} {i : Int} {d : D} (r : RpL K ρ H ds xs) (h : atI ds i = some d) : ∃ v, L2.atI xs i = some v ∧ Rp K ρ H d v := by
  unfold L2.atI at h ⊢
  rw [r.length]
  cases e : ixN ds.length i with
  | none => rw [e] at h; cases h
  | some j =>
    rw [e] at h
    exact r.get h
theorem ix_mono {r r' : R2} (h : IxR X r) (m : ∀ x y H Q, r' x y H Q → r x y H Q) : IxR X r' := fun value slice pins s σ H x y v u Q I rx ry q hs => h value slice pins s σ H x y v u Q I rx ry (m _ _ _ _ q) hs
theorem aix (hu : X.A.units + 1 < cLine) : IxR X (rA X.K E ixD) := ix_mono (ix_seq.or (ix_dict hu)) fun x y H Q h => by
  obtain ⟨ρ, A, d, e, R, r1, r2, h⟩ := h
  have dic : ∀ {k : Key} {kvs : List (Key × D)} {v : D}, y = kV k → rdK A d = some kvs → getK kvs k = some v → OutE X.K E ρ H (.ok v A) Q → ∃ a w, x = .ref a ∧ DGet H a y (some w) ∧ Q w H := by
    intro k kvs v ey e1 e2 h
    obtain ⟨_, a, us, _, rfl, _, _, q1, q2⟩ := rdK_ok R r1 e1
    have g := getK_ok (k := k) q2
    rw [e2] at g
    obtain ⟨w, g1, g2⟩ := g
    exact ⟨a, w, rfl, .inl ⟨us, k, .inl q1, ey, g1.symm⟩, h.now R g2⟩
  cases e with
  | int i =>
    cases r2
    simp only [ixD] at h
    split at h
    · rename_i ds e1
      obtain ⟨a, xs, rfl, q1, q2⟩ := rdS_ok R r1 e1
      unfold ixSeq at h
      split at h
      · rename_i z e2
        obtain ⟨v, q3, q4⟩ := q2.atI e2
        rcases q1 with q1 | q1
        · exact .inl (.inl ⟨a, xs, i, v, rfl, rfl, q1, q3, h.now R q4⟩)
        · exact .inl (.inr (.inl ⟨a, xs, i, v, rfl, rfl, q1, q3, h.now R q4⟩))
      · exact h.elim
    · split at h
      · split at h
        · rename_i z
          split at h
          · rename_i c e2
            cases r1
            exact .inl (.inr (.inr ⟨_, i, c, rfl, rfl, z, e2, h.now R rfl⟩))
          · exact h.elim
        · exact h.elim
      · split at h
        · rename_i kvs e1
          split at h
          · rename_i v e2
            exact .inr (dic (k := .inl i) rfl e1 e2 h)
          · exact h.elim
        · exact h.elim
  | str z =>
    cases r2
    simp only [ixD] at h
    split at h
    · rename_i kvs e1
      split at h
      · rename_i v e2
        exact .inr (dic (k := .inr z) rfl e1 e2 h)
      · exact h.elim
    · exact h.elim
  | _ => exact h.elim
theorem ae_ix {a b : Expr} {f g : FE} {pos : Pos} (hu : X.A.units + 1 < cLine) (ha : AE X E a f) (hb : AE X E b g) (hs : PlainIx b := by exact fun _ _ => rfl) : AE X E (.Subscript a b pos) (fOp ixD f g) := pe_mono (pe_ix (aix hu) ha hb hs) fun _ _ _ => two_
end

/-! ## slices -/
def fNo : FO := fun _ A => .ok none A
def fPart (f : FE) : FO := fun s A => (f s A).bind fun d A1 => match d with
  | .int i => .ok (some i) A1
  | _ => .bad
def cutL {α : Type} (xs : List α) (lo hi : Option Int) : List α := (xs.drop (HT.sIx xs.length 0 lo)).take (HT.sIx xs.length xs.length hi - HT.sIx xs.length 0 lo)
def slD (d : D) (lo hi : Option Int) (A : AH) : Res D := match d with
  | .tup xs => .ok (.tup (cutL xs lo hi)) A
  | .str z => if z.length ≤ sizeLine then .ok (.str (cutS z lo hi)) A else .bad
  | d => match rdL A d with
    | some xs => alloc (.lst (cutL xs lo hi)) A
    | none => .bad
def fSl (f : FE) (lo hi : FO) : FE := fun s A => (f s A).bind fun d A1 => (lo s A1).bind fun l A2 => (hi s A2).bind fun h A3 => slD d l h A3
section
variable {X : Cx} {E : XK} {e : Expr} {f : FE} {lo hi : Option Expr} {fl fh : FO} {p2 pos : Pos}
theorem ao_none : AO_ X E none fNo := ⟨fun pins s σ H Q I h => po_none.run pins s σ H Q I (by
  obtain ⟨ρ, s, A, hs, R, h⟩ := h
  exact Out.now h R rfl)⟩
theorem ao_some (h : AE X E e f) : AO_ X E (some e) (fPart f) := ⟨fun pins s σ H Q I h' => (po_some h).run pins s σ H Q I (by
  obtain ⟨ρ, s, A, hs, R, h⟩ := h'
  refine ⟨ρ, s, A, hs, R, (Out.bind h).mono fun x H1 ⟨ρ1, d, A1, _, e1, R1, r1, h1⟩ => ?_⟩
  split at h1
  · cases r1
    exact ⟨_, rfl, h1.now R1 rfl⟩
  · exact h1.elim)⟩
theorem RpL.cut {K : PySem.W.Frag} {ρ : List Addr} {H : Hp} {ds : List D} {xs : List V} (r : RpL K ρ H ds xs) (lo hi : Option Int) : RpL K ρ H (cutL ds lo hi) (cutV xs lo hi) := by
  unfold cutL cutV
  rw [r.length]
  exact (r.drop _).take _
theorem cutL_all {α : Type} {xs : List α} {lo hi : Option Int} (h : HT.sIx xs.length 0 lo = 0 ∧ HT.sIx xs.length xs.length hi = xs.length) : cutL xs lo hi = xs := by
  unfold cutL
  rw [h.1, h.2]
  simp
theorem ae_sl (he : AE X E e f) (hl : AO_ X E lo fl) (hh : AO_ X E hi fh) : AE X E (.Subscript e (.Slice lo hi none p2) pos) (fSl f fl fh) := pe_mono (pe_slice ((sl_tupA.or sl_str).or sl_list) he hl hh) fun σ H Q h => by
  obtain ⟨ρ, s, A, hs, R, h⟩ := h
  refine ⟨ρ, s, A, hs, R, (Out.bind h).mono fun x H1 ⟨ρ1, d, A1, _, e1, R1, r1, h1⟩ => ⟨ρ1, s, A1, hs.ext e1, R1, (Out.bind h1).mono fun l H2 ⟨ρ2, l', A2, _, e2, R2, r2, h2⟩ => ⟨ρ2, s, A2, hs.ext (e1.trans e2), R2, (Out.bind h2).mono fun u H3 ⟨ρ3, u', A3, _, e3, R3, r3, h3⟩ => ?_⟩⟩⟩
  cases r2; cases r3
  have r1 := r1.ext (e2.trans e3)
  unfold slD at h3
  split at h3
  · rename_i xs
    obtain ⟨a, us, rfl, q1, q2⟩ := r1
    refine .inl (.inl ⟨a, us, rfl, q1, fun z => ?_, fun _ => new_tup R3 (q2.cut _ _) h3⟩)
    rw [q2.length] at z
    rw [cutL_all z] at h3
    exact h3.now R3 ⟨a, us, rfl, q1, q2⟩
  · split at h3
    · rename_i z
      cases r1
      exact .inl (.inr ⟨_, rfl, z, h3.now R3 rfl⟩)
    · exact h3.elim
  · split at h3
    · rename_i xs e4
      obtain ⟨a, us, rfl, q1, q2⟩ := rdL_ok R3 r1 e4
      exact .inr ⟨a, us, rfl, q1, new_lst R3 (q2.cut _ _) h3⟩
    · exact h3.elim
def revD (d : D) (A : AH) : Res D := match rdL A d with
  | some xs => alloc (.lst xs.reverse) A
  | none => .bad
theorem ae_rev {k : Nat} {p1 p3 : Pos} (he : AE X E e f) : AE X E (.Subscript e (.Slice none none (some (.UnaryOp .USub (.Constant (.int 1) k p1) p2)) p3) pos) (fUn revD f) := pe_mono (pe_revL he) fun σ H Q h => by
  obtain ⟨ρ, s, A, hs, R, h⟩ := h
  refine ⟨ρ, s, A, hs, R, (Out.bind h).mono fun x H1 ⟨ρ1, d, A1, _, e1, R1, r1, h1⟩ => ?_⟩
  unfold revD at h1
  split at h1
  · rename_i xs e4
    obtain ⟨a, us, rfl, q1, q2⟩ := rdL_ok R1 r1 e4
    exact ⟨a, us, rfl, q1, new_lst R1 q2.reverse h1⟩
  · exact h1.elim
end

/-! ## in -/
def toV : D → Option V
  | .non => some .non
  | .bl b => some (.bl b)
  | .int i => some (.int i)
  | .str x => some (.str x)
  | _ => none
def toVs : List D → Option (List V)
  | [] => some []
  | d :: ds => match toV d, toVs ds with
    | some v, some vs => some (v :: vs)
    | _, _ => none
theorem toV_ok {K : PySem.W.Frag} {ρ : List Addr} {H : Hp} {d : D} {v w : V} (r : Rp K ρ H d v) (h : toV d = some w) : v = w ∧ flatV v = true := by
  cases d <;> first | (cases h; done) | (cases h; cases r; exact ⟨rfl, rfl⟩)
theorem toVs_ok {K : PySem.W.Frag} {ρ : List Addr} {H : Hp} : ∀ {ds : List D} {vs ws : List V}, RpL K ρ H ds vs → toVs ds = some ws → vs = ws ∧ vs.all flatV = true
  | [], vs, ws, r, h => by cases h; rw [show vs = [] from r]; exact ⟨rfl, rfl⟩
  | d :: ds, vs, ws, r, h => by
    obtain ⟨v, vs', rfl, h2, h3⟩ := r
    unfold toVs at h
    split at h
    · rename_i w ws' e1 e2
      cases h
      obtain ⟨rfl, f1⟩ := toV_ok h2 e1
      obtain ⟨rfl, f2⟩ := toVs_ok h3 e2
      exact ⟨rfl, by rw [List.all_cons, f1, f2]; rfl⟩
    · cases h
def inB (d e : D) (A : AH) : Option Bool := match e with
  | .str y => match d with
    | .str x => some (!(Builtin.Str.occurrences y x 0 y.length 1).isEmpty)
    | _ => none
  | e => match rdK A e with
    | some kvs => match keyOf d with
      | some k => some (getK kvs k).isSome
      | none => none
    | none => match rdS A e with
      | some ys => match toV d, toVs ys with
        | some x, some us => some (inV x us)
        | _, _ => match rdL A e, pd d, pdL ys with
          | some _, some p, some ps => if (SeqAt.shaped p && SeqAt.shaped (.list ps)) = true then some (ps.any fun z => PyData.eqv z p) else none
          | _, _, _ => none
      | none => none
def inD (d e : D) (A : AH) : Res D := okB (inB d e A) A
def ninD (d e : D) (A : AH) : Res D := okB ((inB d e A).map (!·)) A
section
variable {X : Cx} {E : XK}
theorem op_in_dk (hu : X.A.units + 1 < cLine) : OpR X (compareOp .In) (fun x y H Q => ∃ a o, y = .ref a ∧ DGet H a x o ∧ Q (.bl o.isSome) H) := by
  intro pins s σ H x y v u Q I rx ry h
  obtain ⟨a, o, rfl, g, q⟩ := h
  obtain rfl : u = Value.ref a := ry
  exact d_in hu I g rx fun s3 I3 => ⟨V.bl _, H, I3, rfl, q⟩
theorem op_nin_dk (hu : X.A.units + 1 < cLine) : OpR X (compareOp .NotIn) (fun x y H Q => ∃ a o, y = .ref a ∧ DGet H a x o ∧ Q (.bl (!o.isSome)) H) := by
  intro pins s σ H x y v u Q I rx ry h
  obtain ⟨a, o, rfl, g, q⟩ := h
  obtain rfl : u = Value.ref a := ry
  exact d_notIn hu I g rx fun s3 I3 => ⟨V.bl _, H, I3, rfl, q⟩
/-- what stands behind an answer of inB -/
theorem inB_ok {K : PySem.W.Frag} {ρ : List Addr} {H : Hp} {A : AH} {d e : D} {x y : V} {b : Bool} (R : Rel K ρ H A) (r1 : Rp K ρ H d x) (r2 : Rp K ρ H e y) (h : inB d e A = some b) :
    (∃ i j, x = .str i ∧ y = .str j ∧ b = !(Builtin.Str.occurrences j i 0 j.length 1).isEmpty) ∨ (∃ p xs, y = .ref p ∧ (SqL K H p xs ∨ SqT K H p xs) ∧ flatV x = true ∧ xs.all flatV = true ∧ b = inV x xs) ∨
    (∃ a o, y = .ref a ∧ DGet H a x o ∧ b = o.isSome) ∨ (∃ d' ds, Dp K H x d' ∧ Dp K H y (.list ds) ∧ SeqAt.shaped d' = true ∧ SeqAt.shaped (.list ds) = true ∧ b = ds.any fun z => PyData.eqv z d') := by
  unfold inB at h
  split at h
  · split at h
    · cases h; cases r1; cases r2
      exact .inl ⟨_, _, rfl, rfl, rfl⟩
    · cases h
  · split at h
    · rename_i kvs e1
      split at h
      · rename_i k e2
        cases h
        obtain ⟨_, a, us, _, rfl, _, _, q1, q2⟩ := rdK_ok R r2 e1
        have ex := keyOf_ok r1 e2
        have g := getK_ok (k := k) q2
        refine .inr (.inr (.inl ⟨a, valV us k, rfl, .inl ⟨us, k, .inl q1, ex, rfl⟩, ?_⟩))
        split at g
        · rename_i d' e3
          obtain ⟨w, g1, _⟩ := g
          rw [g1, e3]; rfl
        · rename_i e3
          rw [g, e3]; rfl
      · cases h
    · split at h
      · rename_i ys e1
        split at h
        · rename_i x' us e2 e3
          cases h
          obtain ⟨a, xs, rfl, q1, q2⟩ := rdS_ok R r2 e1
          obtain ⟨rfl, f1⟩ := toV_ok r1 e2
          obtain ⟨rfl, f2⟩ := toVs_ok q2 e3
          exact .inr (.inl ⟨a, _, rfl, q1, f1, f2, rfl⟩)
        · split at h
          · rename_i zs p ps e2 e3 e4
            split at h
            · rename_i z
              rw [Bool.and_eq_true] at z
              cases h
              obtain ⟨a, xs, rfl, q1, q2⟩ := rdL_ok R r2 e2
              have ez : ys = zs := by
                cases e with
                | ref i => rw [show rdS A (.ref i) = rdL A (.ref i) from rfl] at e1; rw [e1] at e2; exact Option.some.inj e2
                | _ => cases e2
              subst ez
              exact .inr (.inr (.inr ⟨p, ps, pd_ok d x p r1 e3, .lst q1 (pdL_ok ys xs ps q2 e4), z.1, z.2, rfl⟩))
            · cases h
          · cases h
      · cases h
theorem aop_in (hu : X.A.units + 65 < cLine) : AOp X E (compareOp .In) inD := op_mono ((op_in_str.or op_in_seq).or ((op_in_dk (by omega)).or (op_inD hu))) fun x y H Q h => by
  obtain ⟨ρ, A, d, e, R, r1, r2, h⟩ := h
  unfold inD okB at h
  split at h
  · rename_i b e1
    have h := Out.now (R1 := fun ρ H d v => Rp X.K ρ H d v) (v := V.bl b) h R rfl
    rcases inB_ok R r1 r2 e1 with ⟨i, j, rfl, rfl, rfl⟩ | ⟨p, xs, rfl, q1, q2, q3, rfl⟩ | ⟨a, o, rfl, g, rfl⟩ | ⟨d', ds, q1, q2, q3, q4, rfl⟩
    · exact .inl (.inl ⟨i, j, rfl, rfl, h⟩)
    · exact .inl (.inr ⟨p, xs, rfl, q1, q2, q3, h⟩)
    · exact .inr (.inl ⟨a, o, rfl, g, h⟩)
    · exact .inr (.inr ⟨d', ds, q1, q2, q3, q4, h⟩)
  · exact h.elim
theorem aop_nin (hu : X.A.units + 65 < cLine) : AOp X E (compareOp .NotIn) ninD := op_mono ((op_notin_str.or op_notIn_seq).or ((op_nin_dk (by omega)).or (op_notInD hu))) fun x y H Q h => by
  obtain ⟨ρ, A, d, e, R, r1, r2, h⟩ := h
  unfold ninD okB at h
  cases e1 : inB d e A with
  | none => rw [e1] at h; exact h.elim
  | some b =>
    rw [e1] at h
    have h := Out.now (R1 := fun ρ H d v => Rp X.K ρ H d v) (v := V.bl (!b)) h R rfl
    rcases inB_ok R r1 r2 e1 with ⟨i, j, rfl, rfl, rfl⟩ | ⟨p, xs, rfl, q1, q2, q3, rfl⟩ | ⟨a, o, rfl, g, rfl⟩ | ⟨d', ds, q1, q2, q3, q4, rfl⟩
    · exact .inl (.inl ⟨i, j, rfl, rfl, h⟩)
    · exact .inl (.inr ⟨p, xs, rfl, q1, q2, q3, h⟩)
    · exact .inr (.inl ⟨a, o, rfl, g, h⟩)
    · exact .inr (.inr ⟨d', ds, q1, q2, q3, q4, h⟩)
end

/-! ## calls of built-ins -/
def rC (K : PySem.W.Frag) (E : XK) (g : FM) : List V → Hp → VK → Prop := fun xs H Q => ∃ ρ A ds, Rel K ρ H A ∧ RpL K ρ H ds xs ∧ OutE K E ρ H (g ds A) Q
abbrev ACall (X : Cx) (E : XK) (f : Value) (g : FM) : Prop := CallR X f (rC X.K E g)
def fCall (g : FM) (fs : FA) : FE := fun s A => (fs s A).bind fun ds A1 => g ds A1
section
variable {X : Cx} {E : XK} {e : Expr} {es : List Expr} {fs : FA} {g : FM} {x : Str} {p pos : Pos} {id T : String}
theorem call_ {K : PySem.W.Frag} {σ : L2.St} {H : Hp} {Q : VK} (h : tA K E (fCall g fs) σ H Q) : tCB (rC K E g) (tAA K E fs) σ H Q := by
  obtain ⟨ρ, s, A, hs, R, h⟩ := h
  exact ⟨ρ, s, A, hs, R, (Out.bind h).mono fun x H1 ⟨ρ1, d, A1, _, e1, R1, r1, h1⟩ => ⟨ρ1, A1, d, R1, r1, h1⟩⟩
theorem ae_callB (hc : ACall X E (.builtin id) g) (hg : Gl X x) (hm : X.mg x = none) (hv : bootBuiltins x = some (.builtin id)) (ha : AA X E (e :: es) fs) (hn : x ≠ "__name__" := by decide) (hdb : (x == ("__debug__" : Str)) = false := by decide)
    (he : starEach (e :: es) X.env = (false, eval e X.env) :: starEach es X.env := by rfl) (hpl : (backTo pos (starEach es X.env)).any (·.1) = false := by rfl) : AE X E (.Call (.Name x p) (e :: es) [] pos) (fCall g fs) :=
  pe_mono (pe_callB hc hg hm hv ha hn hdb he hpl) fun _ _ _ => call_
theorem ae_callT (hc : ACall X E (.type T) g) (hg : Gl X x) (hm : X.mg x = none) (hv : bootBuiltins x = some (.type T)) (ha : AA X E (e :: es) fs) (hn : x ≠ "__name__" := by decide) (hdb : (x == ("__debug__" : Str)) = false := by decide)
    (he : starEach (e :: es) X.env = (false, eval e X.env) :: starEach es X.env := by rfl) (hpl : (backTo pos (starEach es X.env)).any (·.1) = false := by rfl) : AE X E (.Call (.Name x p) (e :: es) [] pos) (fCall g fs) :=
  pe_mono (pe_callTy hc hg hm hv ha hn hdb he hpl) fun _ _ _ => call_
end
def intsOf : List D → Option (List Int)
  | [] => some []
  | .int i :: r => match intsOf r with
    | some is => some (i :: is)
    | none => none
  | _ :: _ => none
def blsOf : List D → Option (List Bool)
  | [] => some []
  | .bl i :: r => match blsOf r with
    | some is => some (i :: is)
    | none => none
  | _ :: _ => none
def maxI : List Int → Int
  | [] => 0
  | [x] => x
  | x :: r => if maxI r > x then maxI r else x
def minI : List Int → Int
  | [] => 0
  | [x] => x
  | x :: r => if minI r < x then minI r else x
section
variable {K : PySem.W.Frag} {ρ : List Addr} {H : Hp}
theorem ints_ok : ∀ {ds : List D} {xs : List V} {is : List Int}, RpL K ρ H ds xs → intsOf ds = some is → xs = is.map V.int
  | [], xs, is, r, h => by cases h; rw [show xs = [] from r]; rfl
  | d :: ds, xs, is, r, h => by
    obtain ⟨x, xs', rfl, h2, h3⟩ := r
    cases d with
    | int i =>
      cases h2
      unfold intsOf at h
      split at h
      · rename_i js e
        cases h
        rw [ints_ok h3 e]; rfl
      · cases h
    | _ => cases h
theorem bls_ok : ∀ {ds : List D} {xs : List V} {is : List Bool}, RpL K ρ H ds xs → blsOf ds = some is → xs = is.map V.bl
  | [], xs, is, r, h => by cases h; rw [show xs = [] from r]; rfl
  | d :: ds, xs, is, r, h => by
    obtain ⟨x, xs', rfl, h2, h3⟩ := r
    cases d with
    | bl i =>
      cases h2
      unfold blsOf at h
      split at h
      · rename_i js e
        cases h
        rw [bls_ok h3 e]; rfl
      · cases h
    | _ => cases h
end
theorem maxI_cons (x y : Int) (r : List Int) : maxI (x :: y :: r) = if maxI (y :: r) > x then maxI (y :: r) else x := rfl
theorem minI_cons (x y : Int) (r : List Int) : minI (x :: y :: r) = if minI (y :: r) < x then minI (y :: r) else x := rfl
theorem maxI_mem : ∀ {ns : List Int}, ns ≠ [] → maxI ns ∈ ns
  | [], h => absurd rfl h
  | [x], _ => by simp [maxI]
  | x :: y :: r, _ => by
    have ih := maxI_mem (ns := y :: r) (by simp)
    rw [maxI_cons]
    split
    · exact List.mem_cons_of_mem _ ih
    · exact List.mem_cons_self
theorem maxI_le : ∀ {ns : List Int} {y : Int}, y ∈ ns → y ≤ maxI ns
  | [x], y, h => by simp at h; subst h; simp [maxI]
  | x :: z :: r, y, h => by
    have ih := fun q => maxI_le (ns := z :: r) (y := y) q
    rw [maxI_cons]
    rcases List.mem_cons.mp h with e | e
    · subst e; split <;> omega
    · have := ih e; split <;> omega
theorem minI_mem : ∀ {ns : List Int}, ns ≠ [] → minI ns ∈ ns
  | [], h => absurd rfl h
  | [x], _ => by simp [minI]
  | x :: y :: r, _ => by
    have ih := minI_mem (ns := y :: r) (by simp)
    rw [minI_cons]
    split
    · exact List.mem_cons_of_mem _ ih
    · exact List.mem_cons_self
theorem minI_le : ∀ {ns : List Int} {y : Int}, y ∈ ns → minI ns ≤ y
  | [x], y, h => by simp at h; subst h; simp [minI]
  | x :: z :: r, y, h => by
    have ih := fun q => minI_le (ns := z :: r) (y := y) q
    rw [minI_cons]
    rcases List.mem_cons.mp h with e | e
    · subst e; split <;> omega
    · have := ih e; split <;> omega
theorem maxI_eq {ns : List Int} {m : Int} (h : m ∈ ns) (q : ∀ y ∈ ns, y ≤ m) : maxI ns = m := by
  have h1 := maxI_le h
  have h2 := q _ (maxI_mem (ns := ns) (by intro e; subst e; cases h))
  omega
theorem minI_eq {ns : List Int} {m : Int} (h : m ∈ ns) (q : ∀ y ∈ ns, m ≤ y) : minI ns = m := by
  have h1 := minI_le h
  have h2 := q _ (minI_mem (ns := ns) (by intro e; subst e; cases h))
  omega
def lenD : FM
  | [.str x], A => if x.length ≤ sizeLine then .ok (.int x.length) A else .bad
  | [d], A => match rdS A d with
    | some xs => .ok (.int xs.length) A
    | none => match rdK A d with
      | some xs => .ok (.int xs.length) A
      | none => .bad
  | _, _ => .bad
def intD : FM
  | [.int i], A => .ok (.int i) A
  | [.bl b], A => .ok (.int (if b then 1 else 0)) A
  | [.str x], A => if x.length ≤ 640 then (match PySem.intText? x with | some n => .ok (.int n) A | none => .bad) else .bad
  | _, _ => .bad
def strD : FM
  | [.int i], A => if i.natAbs.log2 < 1920 then .ok (.str (toString i)) A else .bad
  | [.str x], A => .ok (.str x) A
  | _, _ => .bad
def absD : FM
  | [.int i], A => .ok (.int (if i < 0 then -i else i)) A
  | _, _ => .bad
def maxD : FM
  | [.int i, .int j], A => .ok (.int (if j > i then j else i)) A
  | [d], A => match rdL A d with
    | some xs => match intsOf xs with
      | some (i :: is) => .ok (.int (maxI (i :: is))) A
      | _ => .bad
    | none => .bad
  | _, _ => .bad
def minD : FM
  | [.int i, .int j], A => .ok (.int (if j < i then j else i)) A
  | [d], A => match rdL A d with
    | some xs => match intsOf xs with
      | some (i :: is) => .ok (.int (minI (i :: is))) A
      | _ => .bad
    | none => .bad
  | _, _ => .bad
def sumD : FM
  | [d], A => match rdL A d with
    | some xs => match intsOf xs with
      | some is => .ok (.int is.sum) A
      | _ => .bad
    | none => .bad
  | _, _ => .bad
def anyD : FM
  | [d], A => match rdL A d with
    | some xs => match blsOf xs with
      | some is => .ok (.bl (is.any id)) A
      | _ => .bad
    | none => .bad
  | _, _ => .bad
def allD : FM
  | [d], A => match rdL A d with
    | some xs => match blsOf xs with
      | some is => .ok (.bl (is.all id)) A
      | _ => .bad
    | none => .bad
  | _, _ => .bad
def tupOf : FM
  | [.tup xs], A => .ok (.tup xs) A
  | [d], A => match rdL A d with
    | some xs => .ok (.tup xs) A
    | none => .bad
  | _, _ => .bad
def lstOf : FM
  | [d], A => match rdS A d with
    | some xs => alloc (.lst xs) A
    | none => match rdK A d with
      | some kvs => .bad
      | none => .bad
  | _, _ => .bad
def dicOf : FM
  | [d], A => match rdK A d with
    | some kvs => alloc (.dic kvs) A
    | none => .bad
  | _, _ => .bad
section
variable {X : Cx} {E : XK}
theorem RpL.one_inv {K : PySem.W.Frag} {ρ : List Addr} {H : Hp} {d : D} {xs : List V} (r : RpL K ρ H [d] xs) : ∃ x, xs = [x] ∧ Rp K ρ H d x := by
  obtain ⟨x, r, rfl, h, h2⟩ := r
  exact ⟨x, by rw [show r = [] from h2], h⟩
theorem RpL.two_inv {K : PySem.W.Frag} {ρ : List Addr} {H : Hp} {d e : D} {xs : List V} (r : RpL K ρ H [d, e] xs) : ∃ x y, xs = [x, y] ∧ Rp K ρ H d x ∧ Rp K ρ H e y := by
  obtain ⟨x, r, rfl, h, h2⟩ := r
  obtain ⟨y, rfl, h3⟩ := h2.one_inv
  exact ⟨x, y, rfl, h, h3⟩
theorem acall_len : ACall X E (.builtin "len") lenD := callR_mono ((call_len_seq.or call_len_str).or call_lenD) fun xs H Q h => by
  obtain ⟨ρ, A, ds, R, r, h⟩ := h
  unfold lenD at h
  split at h
  · split at h
    · rename_i z
      obtain ⟨x, rfl, r1⟩ := r.one_inv
      cases r1
      exact .inl (.inr ⟨_, rfl, z, h.now R rfl⟩)
    · exact h.elim
  · obtain ⟨x, rfl, r1⟩ := r.one_inv
    split at h
    · rename_i ys e1
      obtain ⟨a, us, rfl, q1, q2⟩ := rdS_ok R r1 e1
      exact .inl (.inl ⟨a, us, rfl, q1, h.now R (by rw [q2.length]; rfl)⟩)
    · split at h
      · rename_i kvs e1
        obtain ⟨_, a, us, _, rfl, _, _, q1, q2⟩ := rdK_ok R r1 e1
        exact .inr ⟨a, us, rfl, q1, h.now R (by rw [q2.length]; rfl)⟩
      · exact h.elim
  · exact h.elim
theorem acall_int : ACall X E (.type "int") intD := callR_mono (call_int1.or call_int_str) fun xs H Q h => by
  obtain ⟨ρ, A, ds, R, r, h⟩ := h
  unfold intD at h
  split at h
  · obtain ⟨x, rfl, r1⟩ := r.one_inv
    cases r1
    exact .inl (.inl ⟨_, rfl, h.now R rfl⟩)
  · obtain ⟨x, rfl, r1⟩ := r.one_inv
    cases r1
    exact .inl (.inr ⟨_, rfl, h.now R rfl⟩)
  · obtain ⟨x, rfl, r1⟩ := r.one_inv
    cases r1
    split at h
    · rename_i z
      split at h
      · rename_i n e
        exact .inr ⟨_, n, rfl, e, z, h.now R rfl⟩
      · exact h.elim
    · exact h.elim
  · exact h.elim
theorem acall_str : ACall X E (.type "str") strD := callR_mono (call_str_int.or SkE.call_str_str) fun xs H Q h => by
  obtain ⟨ρ, A, ds, R, r, h⟩ := h
  unfold strD at h
  split at h
  · obtain ⟨x, rfl, r1⟩ := r.one_inv
    cases r1
    split at h
    · rename_i z
      exact .inl ⟨_, rfl, z, h.now R rfl⟩
    · exact h.elim
  · obtain ⟨x, rfl, r1⟩ := r.one_inv
    cases r1
    exact .inr ⟨_, rfl, h.now R rfl⟩
  · exact h.elim
theorem acall_abs : ACall X E (.builtin "abs") absD := callR_mono call_abs fun xs H Q h => by
  obtain ⟨ρ, A, ds, R, r, h⟩ := h
  unfold absD at h
  split at h
  · obtain ⟨x, rfl, r1⟩ := r.one_inv
    cases r1
    exact ⟨_, rfl, h.now R rfl⟩
  · exact h.elim
theorem acall_max (hc : X.calm = true) : ACall X E (.builtin "max") maxD := callR_mono ((call_max2 hc).or (cr_max hc)) fun xs H Q h => by
  obtain ⟨ρ, A, ds, R, r, h⟩ := h
  unfold maxD at h
  split at h
  · obtain ⟨x, y, rfl, r1, r2⟩ := r.two_inv
    cases r1; cases r2
    exact .inl ⟨_, _, rfl, h.now R rfl⟩
  · obtain ⟨x, rfl, r1⟩ := r.one_inv
    split at h
    · rename_i ys e1
      obtain ⟨a, us, rfl, q1, q2⟩ := rdL_ok R r1 e1
      split at h
      · rename_i i is e2
        refine .inr ⟨a, i :: is, rfl, by rw [← ints_ok q2 e2]; exact q1, by simp, fun m h1 h2 => h.now R ?_⟩
        rw [maxI_eq h1 h2]; rfl
      · exact h.elim
    · exact h.elim
  · exact h.elim
theorem acall_min (hc : X.calm = true) : ACall X E (.builtin "min") minD := callR_mono ((call_min2 hc).or (cr_min hc)) fun xs H Q h => by
  obtain ⟨ρ, A, ds, R, r, h⟩ := h
  unfold minD at h
  split at h
  · obtain ⟨x, y, rfl, r1, r2⟩ := r.two_inv
    cases r1; cases r2
    exact .inl ⟨_, _, rfl, h.now R rfl⟩
  · obtain ⟨x, rfl, r1⟩ := r.one_inv
    split at h
    · rename_i ys e1
      obtain ⟨a, us, rfl, q1, q2⟩ := rdL_ok R r1 e1
      split at h
      · rename_i i is e2
        refine .inr ⟨a, i :: is, rfl, by rw [← ints_ok q2 e2]; exact q1, by simp, fun m h1 h2 => h.now R ?_⟩
        rw [minI_eq h1 h2]; rfl
      · exact h.elim
    · exact h.elim
  · exact h.elim
theorem acall_sum (hc : X.calm = true) : ACall X E (.builtin "sum") sumD := callR_mono (cr_sum hc) fun xs H Q h => by
  obtain ⟨ρ, A, ds, R, r, h⟩ := h
  unfold sumD at h
  split at h
  · obtain ⟨x, rfl, r1⟩ := r.one_inv
    split at h
    · rename_i ys e1
      obtain ⟨a, us, rfl, q1, q2⟩ := rdL_ok R r1 e1
      split at h
      · rename_i is e2
        exact ⟨a, is, rfl, by rw [← ints_ok q2 e2]; exact q1, h.now R rfl⟩
      · exact h.elim
    · exact h.elim
  · exact h.elim
theorem acall_any (hc : X.calm = true) : ACall X E (.builtin "any") anyD := callR_mono (cr_any hc) fun xs H Q h => by
  obtain ⟨ρ, A, ds, R, r, h⟩ := h
  unfold anyD at h
  split at h
  · obtain ⟨x, rfl, r1⟩ := r.one_inv
    split at h
    · rename_i ys e1
      obtain ⟨a, us, rfl, q1, q2⟩ := rdL_ok R r1 e1
      split at h
      · rename_i is e2
        exact ⟨a, is, rfl, by rw [← bls_ok q2 e2]; exact q1, h.now R rfl⟩
      · exact h.elim
    · exact h.elim
  · exact h.elim
theorem acall_all (hc : X.calm = true) : ACall X E (.builtin "all") allD := callR_mono (cr_all hc) fun xs H Q h => by
  obtain ⟨ρ, A, ds, R, r, h⟩ := h
  unfold allD at h
  split at h
  · obtain ⟨x, rfl, r1⟩ := r.one_inv
    split at h
    · rename_i ys e1
      obtain ⟨a, us, rfl, q1, q2⟩ := rdL_ok R r1 e1
      split at h
      · rename_i is e2
        exact ⟨a, is, rfl, by rw [← bls_ok q2 e2]; exact q1, h.now R rfl⟩
      · exact h.elim
    · exact h.elim
  · exact h.elim
theorem acall_tuple : ACall X E (.type "tuple") tupOf := callR_mono call_tuple_of fun xs H Q h => by
  obtain ⟨ρ, A, ds, R, r, h⟩ := h
  unfold tupOf at h
  split at h
  · obtain ⟨x, rfl, r1⟩ := r.one_inv
    obtain ⟨a, us, rfl, q1, q2⟩ := r1
    exact ⟨a, us, rfl, .inr ⟨q1, h.now R ⟨a, us, rfl, q1, q2⟩⟩⟩
  · obtain ⟨x, rfl, r1⟩ := r.one_inv
    split at h
    · rename_i ys e1
      obtain ⟨a, us, rfl, q1, q2⟩ := rdL_ok R r1 e1
      exact ⟨a, us, rfl, .inl ⟨q1, new_tup R q2 h⟩⟩
    · exact h.elim
  · exact h.elim
theorem acall_list : ACall X E (.type "list") lstOf := callR_mono call_list_of fun xs H Q h => by
  obtain ⟨ρ, A, ds, R, r, h⟩ := h
  unfold lstOf at h
  split at h
  · obtain ⟨x, rfl, r1⟩ := r.one_inv
    split at h
    · rename_i ys e1
      obtain ⟨a, us, rfl, q1, q2⟩ := rdS_ok R r1 e1
      exact ⟨a, us, rfl, q1, new_lst R q2 h⟩
    · split at h <;> exact h.elim
  · exact h.elim
theorem acall_dict : ACall X E (.type "dict") dicOf := callR_mono call_dictD fun xs H Q h => by
  obtain ⟨ρ, A, ds, R, r, h⟩ := h
  unfold dicOf at h
  split at h
  · obtain ⟨x, rfl, r1⟩ := r.one_inv
    split at h
    · rename_i ys e1
      obtain ⟨_, a, us, _, rfl, _, _, q1, q2⟩ := rdK_ok R r1 e1
      exact ⟨a, us, rfl, .inl q1, new_dic R q2 h⟩
    · exact h.elim
  · exact h.elim
end
end Ab

namespace Ab
open PySem PySem.Spec PyProof.Rows L2
open scoped Classical

/-! ## targets -/
abbrev FG := D → ASt → AH → Res ASt
def OutG (K : PySem.W.Frag) (E : XK) (ρ : List Addr) (H : Hp) (r : Res ASt) (Q : L2.St → Hp → Prop) : Prop := match r with
  | .ok s A' => ∀ ρ' H' σ', Ext K ρ H ρ' H' → Rel K ρ' H' A' → SRel K ρ' H' s σ' → Q σ' H'
  | .exc C fs A' => ∀ ρ' H' dx us, Ext K ρ H ρ' H' → Rel K ρ' H' A' → H' dx = some (.xd us) → RpK K ρ' H' fs us → E (.ref C) (some dx) H'
  | .bad => False
theorem OutG.ext {K : PySem.W.Frag} {E : XK} {ρ0 ρ : List Addr} {H0 H : Hp} {r : Res ASt} {G : L2.St → Hp → Prop} (h : OutG K E ρ0 H0 r G) (e : Ext K ρ0 H0 ρ H) : OutG K E ρ H r G := by
  cases r with
  | bad => exact h
  | exc C fs A => exact fun ρ' H' dx us e2 => h ρ' H' dx us (e.trans e2)
  | ok c A => exact fun ρ' H' w e2 => h ρ' H' w (e.trans e2)
theorem Out.bindG {K : PySem.W.Frag} {E : XK} {α β : Type} {R1 : List Addr → Hp → α → β → Prop} {ρ : List Addr} {H : Hp} {r : Res α} {k : α → AH → Res ASt} {G : L2.St → Hp → Prop} (h : OutG K E ρ H (r.bind k) G) :
    Out K E R1 ρ H r (fun v H1 => ∃ ρ1 a A1, r = .ok a A1 ∧ Ext K ρ H ρ1 H1 ∧ Rel K ρ1 H1 A1 ∧ R1 ρ1 H1 a v ∧ OutG K E ρ1 H1 (k a A1) G) := by
  cases r with
  | bad => exact h
  | exc C fs A => exact h
  | ok a A => exact fun ρ1 H1 v e1 r1 q1 => ⟨ρ1, a, A, rfl, e1, r1, q1, OutG.ext h e1⟩
theorem OutG.bindG {K : PySem.W.Frag} {E : XK} {ρ : List Addr} {H : Hp} {r : Res ASt} {k : ASt → AH → Res ASt} {G : L2.St → Hp → Prop} (h : OutG K E ρ H (r.bind k) G) :
    OutG K E ρ H r (fun σ H1 => ∃ ρ1 s A1, r = .ok s A1 ∧ Ext K ρ H ρ1 H1 ∧ Rel K ρ1 H1 A1 ∧ SRel K ρ1 H1 s σ ∧ OutG K E ρ1 H1 (k s A1) G) := by
  cases r with
  | bad => exact h
  | exc C fs A => exact h
  | ok a A => exact fun ρ1 H1 v e1 r1 q1 => ⟨ρ1, a, A, rfl, e1, r1, q1, OutG.ext h e1⟩
theorem OutG.bindS {K : PySem.W.Frag} {E : XK} {ρ : List Addr} {H : Hp} {r : Res ASt} {k : ASt → AH → Res Fl} {G : Ends} (h : SOut K E ρ H (r.bind k) G) :
    OutG K E ρ H r (fun σ H1 => ∃ ρ1 s A1, r = .ok s A1 ∧ Ext K ρ H ρ1 H1 ∧ Rel K ρ1 H1 A1 ∧ SRel K ρ1 H1 s σ ∧ SOut K E ρ1 H1 (k s A1) G) := by
  cases r with
  | bad => exact h
  | exc C fs A => exact h
  | ok a A => exact fun ρ1 H1 v e1 r1 q1 => ⟨ρ1, a, A, rfl, e1, r1, q1, SOut.ext h e1⟩
theorem OutG.mono {K : PySem.W.Frag} {E : XK} {ρ : List Addr} {H : Hp} {r : Res ASt} {Q Q' : L2.St → Hp → Prop} (h : OutG K E ρ H r Q) (q : ∀ v H', Q v H' → Q' v H') : OutG K E ρ H r Q' := by
  cases r with
  | bad => exact h
  | exc C fs A => exact h
  | ok c A => exact fun ρ' H' w e r1 q1 => q _ _ (h ρ' H' w e r1 q1)
def tAG (K : PySem.W.Frag) (E : XK) (g : FG) : TG := fun v σ H Q => ∃ ρ s A d, SRel K ρ H s σ ∧ Rel K ρ H A ∧ Rp K ρ H d v ∧ OutG K E ρ H (g d s A) Q
abbrev AG (X : Cx) (E : XK) (tg : Expr) (g : FG) : Prop := PG X tg (tAG X.K E g)
theorem pg_mono {X : Cx} {e : Expr} {t u : TG} (h : PG X e t) (m : ∀ v σ H Q, u v σ H Q → t v σ H Q) : PG X e u := ⟨fun pins s σ H v w Q I r q => h.run pins s σ H v w Q I r (m _ _ _ _ q)⟩
def gN (i : Nat) : FG := fun d s A => .ok (s.set i (some d)) A
section
variable {X : Cx} {E : XK} {pos : Pos}
theorem ag_name {i : Nat} {x : Str} (hN : X.N.Nodup) (hi : X.N[i]? = some x := by rfl) (hx : Loc X.env.scope x := by first | exact Or.inl rfl | exact Or.inr rfl) (hf : X.fn x = true ∨ X.env.scope.names.lookup x = some .local := by first | exact .inl rfl | exact .inr rfl | assumption) : AG X E (.Name x pos) (gN i) :=
  pg_mono (pg_name hN hi hx hf) fun v σ H Q h => by
    obtain ⟨ρ, s, A, d, hs, R, r, h⟩ := h
    exact h ρ H _ .refl R (hs.set i r)
/-- targets one behind the other -/
abbrev FGs := List D → ASt → AH → Res ASt
def tAGs (K : PySem.W.Frag) (E : XK) (g : FGs) : TGs := fun vs σ H Q => ∃ ρ s A ds, SRel K ρ H s σ ∧ Rel K ρ H A ∧ RpL K ρ H ds vs ∧ OutG K E ρ H (g ds s A) Q
abbrev AGs (X : Cx) (E : XK) (tg : List Expr) (g : FGs) : Prop := PGs X tg (tAGs X.K E g)
def gNl : FGs := fun ds s A => match ds with
  | [] => .ok s A
  | _ => .bad
def gCs (g : FG) (gs : FGs) : FGs := fun ds s A => match ds with
  | d :: r => (g d s A).bind fun s1 A1 => gs r s1 A1
  | _ => .bad
theorem pgs_mono {X : Cx} {e : List Expr} {t u : TGs} (h : PGs X e t) (m : ∀ v σ H Q, u v σ H Q → t v σ H Q) : PGs X e u := ⟨fun pins s σ H v w Q I r q => h.run pins s σ H v w Q I r (m _ _ _ _ q)⟩
theorem ags_nil : AGs X E [] gNl := pgs_mono pgs_nil fun v σ H Q h => by
  obtain ⟨ρ, s, A, ds, hs, R, r, h⟩ := h
  unfold gNl at h
  split at h
  · exact ⟨r, h ρ H _ .refl R hs⟩
  · exact h.elim
theorem ags_cons {e : Expr} {es : List Expr} {g : FG} {gs : FGs} (h1 : AG X E e g) (h2 : AGs X E es gs) (hs : (assignEach (e :: es) X.env).map (·.2) = assign e X.env :: (assignEach es X.env).map (·.2) := by rfl) : AGs X E (e :: es) (gCs g gs) :=
  pgs_mono (pgs_cons h1 h2 hs) fun v σ H Q h => by
    obtain ⟨ρ, s, A, ds, hs, R, r, h⟩ := h
    unfold gCs at h
    split at h
    · rename_i d ds'
      obtain ⟨x, xs, rfl, r1, r2⟩ := r
      exact ⟨x, xs, rfl, ρ, s, A, d, hs, R, r1, (OutG.bindG h).mono fun σ1 H1 ⟨ρ1, s1, A1, _, e1, R1, hs1, h1⟩ => ⟨ρ1, s1, A1, ds', hs1, R1, r2.ext e1, h1⟩⟩
    · exact h.elim
def gTp (n : Nat) (gs : FGs) : FG := fun d s A => match d with
  | .tup ds => if ds.length = n then gs ds s A else .bad
  | _ => .bad
theorem ag_tup {es : List Expr} {k : Nat} {gs : FGs} {n : Nat} (hc : X.calm = true) (h : AGs X E es gs) (hn : (assignEach es X.env).length = n := by rfl) (hst : (assignEach es X.env).findIdx? (·.1) = none := by rfl) : AG X E (.Tuple es k pos) (gTp n gs) :=
  pg_mono (pg_tup hc h hn hst) fun v σ H Q h => by
    obtain ⟨ρ, s, A, d, hs, R, r, h⟩ := h
    unfold gTp at h
    split at h
    · split at h
      · rename_i ds z
        obtain ⟨a, xs, rfl, q1, q2⟩ := r
        exact ⟨a, xs, rfl, q1, by rw [q2.length]; exact z, ρ, s, A, ds, hs, R, q2, h⟩
      · exact h.elim
    · exact h.elim
/-- o[i] = v -/
def stD (o i v : D) (A : AH) : Res Unit := match o with
  | .ref n => match A[n]? with
    | some (.lst xs) => match i with
      | .int k => match ixN xs.length k with
        | some j => .ok () (A.set n (.lst (xs.set j v)))
        | none => .bad
      | _ => .bad
    | some (.dic kvs) => match keyOf i with
      | some k => if kvs.length < sizeLine then .ok () (A.set n (.dic (setK kvs k v))) else .bad
      | none => .bad
    | _ => .bad
  | _ => .bad
def gSb (fo fi : FE) : FG := fun d s A => (fo s A).bind fun o A1 => (fi s A1).bind fun i A2 => (stD o i d A2).bind fun _ A3 => .ok s A3
theorem upd_lst {K : PySem.W.Frag} {ρ : List Addr} {H : Hp} {A : AH} {n : Nat} {a : Addr} {xs : List V} {ys : List V} {ds es : List D} (R : Rel K ρ H A) (ha : ρ[n]? = some a) (hA : A[n]? = some (.lst ds)) (hH : H a = some (.lst xs)) (r : RpL K ρ H es ys) :
    Ext K ρ H ρ (upd H a (.lst ys)) ∧ Rel K ρ (upd H a (.lst ys)) (A.set n (.lst es)) := by
  have e : Ext K ρ H ρ (upd H a (.lst ys)) := Ext.mut hH trivial
  exact ⟨e, R.upd ha hA rfl hH trivial ⟨ys, upd_same, r.ext e⟩ rfl⟩
theorem upd_dic {K : PySem.W.Frag} {ρ : List Addr} {H : Hp} {A : AH} {n : Nat} {a : Addr} {xs ys : List (Key × V)} {ds es : List (Key × D)} (R : Rel K ρ H A) (ha : ρ[n]? = some a) (hA : A[n]? = some (.dic ds)) (hH : H a = some (.dK xs)) (r : RpK K ρ H es ys) :
    Ext K ρ H ρ (upd H a (.dK ys)) ∧ Rel K ρ (upd H a (.dK ys)) (A.set n (.dic es)) := by
  have e : Ext K ρ H ρ (upd H a (.dK ys)) := Ext.mut hH trivial
  exact ⟨e, R.upd ha hA rfl hH trivial ⟨ys, upd_same, r.ext e⟩ rfl⟩
theorem set_or {t u : TSet} (h : PSet X t) (h' : PSet X u) : PSet X (fun o i v H Q => t o i v H Q ∨ u o i v H Q) := fun pins s σ H o i v ov iv w Q I r1 r2 r3 q => by
  rcases q with q | q
  · exact h pins s σ H o i v ov iv w Q I r1 r2 r3 q
  · exact h' pins s σ H o i v ov iv w Q I r1 r2 r3 q
theorem ag_sub {o i : Expr} {fo fi : FE} (hu : X.A.units + 1 < cLine) (ho : AE X E o fo) (hi : AE X E i fi)
    (ha : ∀ v, assign (.Subscript o i pos) X.env v = (do
      let ov ← holding [v] (eval o X.env)
      let iv ← holding [v, ov] (eval i X.env)
      standAt pos
      holding [v, ov, iv] (setItem ov iv v)
      release [v, ov, iv] []) := by intro _; rfl) : AG X E (.Subscript o i pos) (gSb fo fi) := pg_mono (pg_sub ho hi (set_or set_list (set_dict hu)) ha) fun v σ H Q h => by
  obtain ⟨ρ, s, A, d, hs, R, r, h⟩ := h
  refine ⟨ρ, s, A, hs, R, (Out.bindG h).mono fun x H1 ⟨ρ1, d1, A1, _, e1, R1, r1, h1⟩ => ⟨ρ1, s, A1, hs.ext e1, R1, (Out.bindG h1).mono fun y H2 ⟨ρ2, d2, A2, _, e2, R2, r2, h2⟩ => ?_⟩⟩
  have r1 := r1.ext e2
  have r := r.ext (e1.trans e2)
  have hs := hs.ext (e1.trans e2)
  unfold stD at h2
  split at h2
  · rename_i n
    obtain ⟨a, ha, rfl⟩ := r1
    split at h2
    · rename_i xs e3
      obtain ⟨a', ha', us, q1, q2⟩ := R2.ob _ _ e3
      rw [ha] at ha'; cases ha'
      split at h2
      · rename_i k _
        split at h2
        · rename_i j e4
          cases r2
          have u := upd_lst (ds := xs) R2 ha e3 q1 (q2.set j r)
          exact .inl ⟨a, us, k, j, rfl, rfl, q1, by rw [q2.length]; exact e4, h2 ρ2 _ σ u.1 u.2 (hs.ext u.1)⟩
        · exact h2.elim
      · exact h2.elim
    · rename_i kvs e3
      obtain ⟨a', ha', us, q1, q2⟩ := R2.ob _ _ e3
      rw [ha] at ha'; cases ha'
      split at h2
      · rename_i k e4
        split at h2
        · rename_i z
          have u := upd_dic R2 ha e3 q1 (setK_ok (k := k) q2 r)
          exact .inr ⟨a, _, rfl, .inl ⟨us, k, q1, keyOf_ok r2 e4, by rw [q2.length]; exact z, rfl⟩, h2 ρ2 _ σ u.1 u.2 (hs.ext u.1)⟩
        · exact h2.elim
      · exact h2.elim
    · exact h2.elim
  · exact h2.elim
end

/-! ## statements -/
def fSet (f : FE) (i : Nat) : FS := fun s A => (f s A).bind fun d A1 => .ok (.nx (s.set i (some d))) A1
def fAsg (f : FE) (g : FG) : FS := fun s A => (f s A).bind fun d A1 => (g d s A1).bind fun s' A2 => .ok (.nx s') A2
def fRet (f : FE) : FS := fun s A => (f s A).bind fun d A1 => .ok (.rt d) A1
def fRetN : FS := fun _ A => .ok (.rt .non) A
def fEx (f : FE) : FS := fun s A => (f s A).bind fun _ A1 => .ok (.nx s) A1
def fPass : FS := fun s A => .ok (.nx s) A
def fBrk : FS := fun s A => .ok (.bk s) A
def fCont : FS := fun s A => .ok (.ct s) A
def fIfS (c : FT) (f g : FS) : FS := fun s A => (c s A).bind fun b A1 => if b = true then f s A1 else g s A1
def fSeq (f g : FS) : FS := fun s A => match f s A with
  | .ok (.nx s1) A1 => g s1 A1
  | r => r
def fAug (i : Nat) (f : FE) (go : D → D → AH → Res D) : FS := fun s A => match s[i]? with
  | some (some x) => (f s A).bind fun y A1 => (go x y A1).bind fun z A2 => .ok (.nx (s.set i (some z))) A2
  | _ => .bad
section
variable {X : Cx} {E : XK} {e : Expr} {st : Stmt} {rest : List Stmt} {f : FE} {p q : FS} {c : FT} {pos pos' : Pos}
theorem as_set {i : Nat} {x : Str} (hN : X.N.Nodup) (he : AE X E e f) (hi : X.N[i]? = some x := by rfl) (hx : Loc X.env.scope x := by first | exact Or.inl rfl | exact Or.inr rfl) (hs : swapsWith e (some (.Name x pos')) pos.line X.env = pure false := by rfl) (hf : X.fn x = true ∨ X.env.scope.names.lookup x = some .local := by first | exact .inl rfl | exact .inr rfl | assumption) :
    AS X E (.Assign [.Name x pos'] e pos) (fSet f i) := ps_mono (ps_set hN hi hx he hs hf) fun G σ H h => by
  obtain ⟨ρ, s, A, hs, R, h⟩ := h
  exact ⟨ρ, s, A, hs, R, (Out.bindS h).mono fun x H1 ⟨ρ1, d, A1, _, e1, R1, r1, h1⟩ => h1 ρ1 H1 _ .refl R1 ((hs.ext e1).set i r1)⟩
theorem as_asg {tg : Expr} {g : FG} (he : AE X E e f) (hg : AG X E tg g) (hs : swapsWithSole [tg] e pos.line X.env = pure false := by rfl) (hw : swappedStores [tg] e X.env = pure none := by rfl)
    (h1 : (assignEach [tg] X.env).map (·.2) = [assign tg X.env] := by rfl) : AS X E (.Assign [tg] e pos) (fAsg f g) := ps_mono (ps_asg he hg hs hw h1) fun G σ H h => by
  obtain ⟨ρ, s, A, hs, R, h⟩ := h
  exact ⟨ρ, s, A, hs, R, (Out.bindS h).mono fun x H1 ⟨ρ1, d, A1, _, e1, R1, r1, h1⟩ => ⟨ρ1, s, A1, d, hs.ext e1, R1, r1, (OutG.bindS h1).mono fun σ2 H2 ⟨ρ2, s2, A2, _, e2, R2, hs2, h2⟩ => h2 ρ2 H2 σ2 .refl R2 hs2⟩⟩
theorem as_ret (he : AE X E e f) : AS X E (.Return (some e) pos) (fRet f) := ps_mono (ps_ret he) fun G σ H h => by
  obtain ⟨ρ, s, A, hs, R, h⟩ := h
  exact ⟨ρ, s, A, hs, R, (Out.bindS h).mono fun x H1 ⟨ρ1, d, A1, _, e1, R1, r1, h1⟩ => h1 ρ1 H1 x .refl R1 r1⟩
theorem as_retN : AS X E (.Return none pos) fRetN := ps_mono ps_retN fun G σ H h => by
  obtain ⟨ρ, s, A, hs, R, h⟩ := h
  exact h ρ H .non .refl R rfl
theorem as_ex (he : AE X E e f) (hs : swapsWith e none pos.line X.env = pure false := by rfl) : AS X E (.Expr e pos) (fEx f) := ps_mono (ps_expr he hs) fun G σ H h => by
  obtain ⟨ρ, s, A, hs, R, h⟩ := h
  exact ⟨ρ, s, A, hs, R, (Out.bindS h).mono fun x H1 ⟨ρ1, d, A1, _, e1, R1, r1, h1⟩ => h1 ρ1 H1 σ .refl R1 (hs.ext e1)⟩
theorem as_pass : AS X E (.Pass pos) fPass := ps_mono ps_pass fun G σ H h => by
  obtain ⟨ρ, s, A, hs, R, h⟩ := h
  exact h ρ H σ .refl R hs
theorem as_brk : AS X E (.Break pos) fBrk := ps_mono ps_break fun G σ H h => by
  obtain ⟨ρ, s, A, hs, R, h⟩ := h
  exact h ρ H σ .refl R hs
theorem as_cont : AS X E (.Continue pos) fCont := ps_mono ps_continue fun G σ H h => by
  obtain ⟨ρ, s, A, hs, R, h⟩ := h
  exact h ρ H σ .refl R hs
theorem as_if {u : Expr} {a b : List Stmt} (hc : AT X E u c) (ha : ASs X E a p) (hb : ASs X E b q) : AS X E (.If u a b pos) (fIfS c p q) := ps_mono (ps_if hc ha hb) fun G σ H h => by
  obtain ⟨ρ, s, A, hs, R, h⟩ := h
  refine ⟨ρ, s, A, hs, R, (Out.bindS h).mono fun x H1 ⟨ρ1, d, A1, _, e1, R1, r1, h1⟩ => ?_⟩
  cases r1
  cases x with
  | true => exact ⟨ρ1, s, A1, hs.ext e1, R1, h1⟩
  | false => exact ⟨ρ1, s, A1, hs.ext e1, R1, h1⟩
theorem ass_nil : ASs X E [] fPass := pss_mono pss_nil fun G σ H h => by
  obtain ⟨ρ, s, A, hs, R, h⟩ := h
  exact h ρ H σ .refl R hs
theorem ass_one (h : AS X E st p) : ASs X E [st] p := pss_one h
theorem ass_cons (h : AS X E st p) (h' : ASs X E rest q) : ASs X E (st :: rest) (fSeq p q) := pss_mono (pss_cons h h') fun G σ H h => by
  obtain ⟨ρ, s, A, hs, R, h⟩ := h
  refine ⟨ρ, s, A, hs, R, ?_⟩
  unfold fSeq at h
  cases e : p s A with
  | bad => rw [e] at h; exact h
  | exc C fs A1 => rw [e] at h; exact h
  | ok fl A1 =>
    rw [e] at h
    cases fl with
    | nx s1 => exact fun ρ1 H1 σ1 e1 R1 hs1 => ⟨ρ1, s1, A1, hs1, R1, SOut.ext h e1⟩
    | rt d => exact h
    | bk s1 => exact h
    | ct s1 => exact h
/-- x op= e at a name -/
def rIp (K : PySem.W.Frag) (E : XK) (g : D → D → AH → Res D) : TIp := rA K E g
theorem as_aug {i : Nat} {x : Str} {op : Operator} {go : D → D → AH → Res D} (hN : X.N.Nodup) (ho : PIp X op (rIp X.K E go)) (he : AE X E e f) (hi : X.N[i]? = some x := by rfl) (hx : Loc X.env.scope x := by first | exact Or.inl rfl | exact Or.inr rfl) (hf : X.fn x = true ∨ X.env.scope.names.lookup x = some .local := by first | exact .inl rfl | exact .inr rfl | assumption) :
    AS X E (.AugAssign (.Name x pos') op e pos) (fAug i f go) := ps_mono (ps_aug hN hi hx he ho hf) fun G σ H h => by
  obtain ⟨ρ, s, A, hs, R, h⟩ := h
  unfold fAug at h
  split at h
  · rename_i d0 e0
    obtain ⟨v, h1, h2⟩ := hs.at_ i d0 e0
    exact ⟨v, h1, ρ, s, A, hs, R, (Out.bindS h).mono fun y H1 ⟨ρ1, d, A1, _, e1, R1, r1, h1⟩ => ⟨ρ1, A1, d0, d, R1, h2.ext e1, r1, (Out.bindS h1).mono fun z H2 ⟨ρ2, d2, A2, _, e2, R2, r2, h2⟩ => h2 ρ2 H2 _ .refl R2 ((hs.ext (e1.trans e2)).set i r2)⟩⟩
  · exact h.elim
def augAddD : D → D → AH → Res D
  | .int i, .int j, A => .ok (.int (i + j)) A
  | .str x, .str y, A => if x.length + y.length ≤ sizeLine then .ok (.str (x ++ y)) A else .bad
  | _, _, _ => .bad
theorem ip_addA : PIp X .Add (rIp X.K E augAddD) := fun pins s σ H x y v u Q I rx ry h => by
  obtain ⟨ρ, A, d, e, R, r1, r2, h⟩ := h
  unfold augAddD at h
  split at h
  · cases r1; cases r2
    exact iop_add pins s σ H _ _ v u Q I rx ry ⟨_, _, rfl, rfl, h.now R rfl⟩
  · split at h
    · rename_i z
      cases r1; cases r2
      exact iop_add_str pins s σ H _ _ v u Q I rx ry ⟨_, _, rfl, rfl, z, h.now R rfl⟩
    · exact h.elim
  · exact h.elim
theorem ip_subA : PIp X .Sub (rIp X.K E subD) := fun pins s σ H x y v u Q I rx ry h => by
  obtain ⟨ρ, A, d, e, R, r1, r2, h⟩ := h
  unfold subD at h
  split at h
  · cases r1; cases r2
    exact iop_sub pins s σ H _ _ v u Q I rx ry ⟨_, _, rfl, rfl, h.now R rfl⟩
  · exact h.elim
end

/-! ## what is walked -/
/-- the items, and what must hold of the cells at every turn -/
structure Src where
  items : List D
  ok : AH → Prop
abbrev FI := ASt → AH → Res Src
/-- the walker J yields these items -/
def ItRel (K : PySem.W.Frag) (J : It) (ρ0 : List Addr) (H0 : Hp) (S : Src) : Prop := ∀ (i : Nat) ρ H A, Ext K ρ0 H0 ρ H → Rel K ρ H A → S.ok A →
  (∀ d, S.items[i]? = some d → J.go i H ∧ ∀ x H', J.yld i H x H' → Ext K ρ H ρ H' ∧ Rel K ρ H' A ∧ Rp K ρ H' d x) ∧ (S.items.length ≤ i → S.items.length = i → J.stop i H)
def OutI (K : PySem.W.Frag) (E : XK) (ρ : List Addr) (H : Hp) (r : Res Src) (Q : It → Hp → Prop) : Prop := match r with
  | .ok S A' => ∀ ρ' H' J, Ext K ρ H ρ' H' → Rel K ρ' H' A' → ItRel K J ρ' H' S → Q J H'
  | .exc C fs A' => ∀ ρ' H' dx us, Ext K ρ H ρ' H' → Rel K ρ' H' A' → H' dx = some (.xd us) → RpK K ρ' H' fs us → E (.ref C) (some dx) H'
  | .bad => False
theorem OutI.ext {K : PySem.W.Frag} {E : XK} {ρ0 ρ : List Addr} {H0 H : Hp} {r : Res Src} {G : It → Hp → Prop} (h : OutI K E ρ0 H0 r G) (e : Ext K ρ0 H0 ρ H) : OutI K E ρ H r G := by
  cases r with
  | bad => exact h
  | exc C fs A => exact fun ρ' H' dx us e2 => h ρ' H' dx us (e.trans e2)
  | ok c A => exact fun ρ' H' w e2 => h ρ' H' w (e.trans e2)
theorem Out.bindI {K : PySem.W.Frag} {E : XK} {α β : Type} {R1 : List Addr → Hp → α → β → Prop} {ρ : List Addr} {H : Hp} {r : Res α} {k : α → AH → Res Src} {G : It → Hp → Prop} (h : OutI K E ρ H (r.bind k) G) :
    Out K E R1 ρ H r (fun v H1 => ∃ ρ1 a A1, r = .ok a A1 ∧ Ext K ρ H ρ1 H1 ∧ Rel K ρ1 H1 A1 ∧ R1 ρ1 H1 a v ∧ OutI K E ρ1 H1 (k a A1) G) := by
  cases r with
  | bad => exact h
  | exc C fs A => exact h
  | ok a A => exact fun ρ1 H1 v e1 r1 q1 => ⟨ρ1, a, A, rfl, e1, r1, q1, OutI.ext h e1⟩
theorem OutI.bindS {K : PySem.W.Frag} {E : XK} {ρ : List Addr} {H : Hp} {r : Res Src} {k : Src → AH → Res Fl} {G : Ends} (h : SOut K E ρ H (r.bind k) G) :
    OutI K E ρ H r (fun J H1 => ∃ ρ1 S A1, r = .ok S A1 ∧ Ext K ρ H ρ1 H1 ∧ Rel K ρ1 H1 A1 ∧ ItRel K J ρ1 H1 S ∧ SOut K E ρ1 H1 (k S A1) G) := by
  cases r with
  | bad => exact h
  | exc C fs A => exact h
  | ok a A => exact fun ρ1 H1 v e1 r1 q1 => ⟨ρ1, a, A, rfl, e1, r1, q1, SOut.ext h e1⟩
theorem OutI.bindO {K : PySem.W.Frag} {E : XK} {α β : Type} {R1 : List Addr → Hp → α → β → Prop} {ρ : List Addr} {H : Hp} {r : Res Src} {k : Src → AH → Res α} {Q : β → Hp → Prop} (h : Out K E R1 ρ H (r.bind k) Q) :
    OutI K E ρ H r (fun J H1 => ∃ ρ1 S A1, r = .ok S A1 ∧ Ext K ρ H ρ1 H1 ∧ Rel K ρ1 H1 A1 ∧ ItRel K J ρ1 H1 S ∧ Out K E R1 ρ1 H1 (k S A1) Q) := by
  cases r with
  | bad => exact h
  | exc C fs A => exact h
  | ok a A => exact fun ρ1 H1 v e1 r1 q1 => ⟨ρ1, a, A, rfl, e1, r1, q1, Out.ext h e1⟩
theorem OutI.mono {K : PySem.W.Frag} {E : XK} {ρ : List Addr} {H : Hp} {r : Res Src} {Q Q' : It → Hp → Prop} (h : OutI K E ρ H r Q) (q : ∀ v H', Q v H' → Q' v H') : OutI K E ρ H r Q' := by
  cases r with
  | bad => exact h
  | exc C fs A => exact h
  | ok c A => exact fun ρ' H' w e r1 q1 => q _ _ (h ρ' H' w e r1 q1)
def tAI (K : PySem.W.Frag) (E : XK) (f : FI) : TI := fun σ H R => ∃ ρ s A, SRel K ρ H s σ ∧ Rel K ρ H A ∧ OutI K E ρ H (f s A) R
abbrev AI (X : Cx) (E : XK) (tg it : Expr) (f : FI) : Prop := PI X tg it (tAI X.K E f)
theorem pi_mono {X : Cx} {tg it : Expr} {t u : TI} (h : PI X tg it t) (m : ∀ σ H Q, u σ H Q → t σ H Q) : PI X tg it u := ⟨fun pins s σ H R I q => h.run pins s σ H R I (m _ _ _ q)⟩
def yes : AH → Prop := fun _ => True
def iSeq (d : D) (A : AH) : Res Src := match d with
  | .tup ds => .ok ⟨ds, yes⟩ A
  | .str x => .ok ⟨x.cps.toList.map fun c => .str ⟨#[c]⟩, yes⟩ A
  | d => match rdL A d with
    | some ds => .ok ⟨ds, fun A' => rdL A' d = some ds⟩ A
    | none => .bad
def fItS (f : FE) : FI := fun s A => (f s A).bind iSeq
def rngL (lo : Int) (n : Nat) : List D := (List.range n).map fun k => .int (lo + (k : Nat))
/-- an end of a range -/
structure InRg (j : Int) : Prop where
  lo : -(2 ^ 62) ≤ j
  hi : j < 2 ^ 62
noncomputable def fRg1 (f : FE) : FI := fun s A => (f s A).bind fun d A1 => match d with
  | .int j => if InRg j then .ok ⟨rngL 0 j.toNat, yes⟩ A1 else .bad
  | _ => .bad
noncomputable def fRg2 (f g : FE) : FI := fun s A => (f s A).bind fun d A1 => (g s A1).bind fun e A2 => match d, e with
  | .int i, .int j => if InRg i ∧ InRg j then .ok ⟨rngL i (j - i).toNat, yes⟩ A2 else .bad
  | _, _ => .bad
def enumL (k : Nat) : List D → List D
  | [] => []
  | d :: ds => .tup [.int k, d] :: enumL (k + 1) ds
def fEnum (f : FE) : FI := fun s A => (f s A).bind fun d A1 => match rdL A1 d with
  | some ds => .ok ⟨enumL 0 ds, fun A' => rdL A' d = some ds⟩ A1
  | none => .bad
def zipD : List D → List D → List D
  | a :: as, b :: bs => .tup [a, b] :: zipD as bs
  | _, _ => []
section
variable {K : PySem.W.Frag} {ρ : List Addr} {H : Hp}
theorem itr_rel (lo : Int) (n : Nat) : ItRel K (Itr lo n) ρ H ⟨rngL lo n, yes⟩ := fun i ρ' H' A e R _ => by
  have hl : (rngL lo n).length = n := by simp [rngL]
  refine ⟨fun d hd => ?_, fun h _ => by rw [show (Src.items ⟨rngL lo n, yes⟩).length = n from hl] at h; exact h⟩
  have hd : (rngL lo n)[i]? = some d := hd
  have hi : i < n := by have := (List.getElem?_eq_some_iff.mp hd).1; rwa [hl] at this
  refine ⟨hi, fun x H2 hy => ?_⟩
  obtain ⟨rfl, rfl⟩ := hy
  refine ⟨.refl, R, ?_⟩
  simp [rngL, hi] at hd
  subst hd
  rfl
theorem its_rel (x : Str) : ItRel K (Its x) ρ H ⟨x.cps.toList.map fun c => .str ⟨#[c]⟩, yes⟩ := fun i ρ' H' A e R _ => by
  refine ⟨fun d hd => ?_, fun h _ => by simpa [Its] using h⟩
  have hd : (x.cps.toList.map fun c => D.str ⟨#[c]⟩)[i]? = some d := hd
  rw [List.getElem?_map] at hd
  cases ec : x.cps.toList[i]? with
  | none => rw [ec] at hd; cases hd
  | some c =>
    rw [ec] at hd
    cases hd
    have hi : i < x.cps.size := by have := (List.getElem?_eq_some_iff.mp ec).1; simpa using this
    refine ⟨hi, fun y H2 hy => ?_⟩
    obtain ⟨rfl, c', h1, rfl⟩ := hy
    refine ⟨.refl, R, ?_⟩
    rw [← Array.getElem?_toList, ec] at h1
    cases h1
    rfl
theorem itt_rel {a : Addr} {xs : List V} {ds : List D} (h : SqT K H a xs) (r : RpL K ρ H ds xs) : ItRel K (Itt K a) ρ H ⟨ds, yes⟩ := fun i ρ' H' A e R _ => by
  have h' := e.gr _ _ h
  have r' := r.ext e
  refine ⟨fun d hd => ?_, fun hl _ => ⟨xs, h', by rw [r'.length]; exact hl⟩⟩
  obtain ⟨v, q1, q2⟩ := r'.get (show ds[i]? = some d from hd)
  refine ⟨⟨xs, v, h', q1⟩, fun x H2 hy => ?_⟩
  obtain ⟨rfl, fv⟩ := hy
  have := fv _ h'
  rw [q1] at this; cases this
  exact ⟨.refl, R, q2⟩
theorem itl_rel {a : Addr} {n : Nat} {ds : List D} (ha : ρ[n]? = some a) : ItRel K (Itl K a) ρ H ⟨ds, fun A => rdL A (.ref n) = some ds⟩ := fun i ρ' H' A e R ok => by
  have ha' := e.at_ ha
  have r0 : Rp K ρ' H' (.ref n) (.ref a) := ⟨a, ha', rfl⟩
  obtain ⟨b, xs, eb, h', r'⟩ := rdL_ok R r0 ok
  cases eb
  refine ⟨fun d hd => ?_, fun hl _ => ⟨xs, h', by rw [r'.length]; exact hl⟩⟩
  obtain ⟨v, q1, q2⟩ := r'.get (show ds[i]? = some d from hd)
  refine ⟨⟨xs, v, h', q1⟩, fun x H2 hy => ?_⟩
  obtain ⟨rfl, fv⟩ := hy
  have := fv _ h'
  rw [q1] at this; cases this
  exact ⟨.refl, R, q2⟩
end
section
variable {X : Cx} {E : XK} {tg e e2 : Expr} {f g : FE} {p pos : Pos}
theorem ai_seq (he : AE X E e f) : AI X E tg e (fItS f) := ⟨fun pins s σ H R I h => by
  obtain ⟨ρ, st, A, hs, Rl, h⟩ := h
  have base : ∀ {Q : VK}, (∀ v H1 ρ1 d A1, f st A = .ok d A1 → Ext X.K ρ H ρ1 H1 → Rel X.K ρ1 H1 A1 → Rp X.K ρ1 H1 d v → OutI X.K E ρ1 H1 (iSeq d A1) R → Q v H1) → tA X.K E f σ H Q := fun {Q} k =>
    ⟨ρ, st, A, hs, Rl, (Out.bindI h).mono fun v H1 ⟨ρ1, d, A1, q0, q1, q2, q3, q4⟩ => k v H1 ρ1 d A1 q0 q1 q2 q3 q4⟩
  cases ef : f st A with
  | bad => unfold fItS at h; rw [ef] at h; exact h.elim
  | exc C fs A1 =>
    refine (pi_tup he).run pins s σ H R I (base fun v H1 ρ1 d A1 q0 _ _ _ _ => ?_)
    rw [ef] at q0; cases q0
  | ok d0 A0 =>
    cases d0 with
    | tup ds =>
      refine (pi_tup he).run pins s σ H R I (base fun v H1 ρ1 d A1 q0 q1 q2 q3 q4 => ?_)
      rw [ef] at q0; cases q0
      obtain ⟨a, xs, rfl, z1, z2⟩ := q3
      exact ⟨a, rfl, ⟨xs, z1⟩, q4 ρ1 H1 _ .refl q2 (itt_rel z1 z2)⟩
    | str x =>
      refine (pi_str he).run pins s σ H R I (base fun v H1 ρ1 d A1 q0 q1 q2 q3 q4 => ?_)
      rw [ef] at q0; cases q0
      cases q3
      exact ⟨x, rfl, q4 ρ1 H1 _ .refl q2 (its_rel x)⟩
    | ref n =>
      refine (pi_list he).run pins s σ H R I (base fun v H1 ρ1 d A1 q0 q1 q2 q3 q4 => ?_)
      rw [ef] at q0; cases q0
      unfold iSeq at q4
      simp only at q4
      split at q4
      · rename_i ds e4
        obtain ⟨a, xs, rfl, z1, z2⟩ := rdL_ok q2 q3 e4
        obtain ⟨b, hb, eb⟩ := q3
        cases eb
        exact ⟨a, rfl, ⟨xs, z1⟩, q4 ρ1 H1 _ .refl q2 (itl_rel hb)⟩
      · exact q4.elim
    | non => exact absurd ((base (Q := fun _ _ => False) fun v H1 ρ1 d A1 q0 q1 q2 q3 q4 => by rw [ef] at q0; cases q0; exact q4)) (fun z => by
        unfold fItS at h; rw [ef] at h; exact h)
    | bl b => unfold fItS at h; rw [ef] at h; exact h.elim
    | int b => unfold fItS at h; rw [ef] at h; exact h.elim⟩
theorem ai_rg1 (hg : Gl X "range") (hm : X.mg "range" = none) (he : AE X E e f) (h1 : starEach [e] X.env = (false, eval e X.env) :: starEach [] X.env := by rfl) : AI X E tg (.Call (.Name "range" p) [e] [] pos) (fRg1 f) := pi_mono (pi_range1 (hs := h1) hg hm (aa_cons he aa_nil h1)) fun σ H Q h => by
  obtain ⟨ρ, s, A, hs, R, h⟩ := h
  have ef : fRg1 f s A = (fCons f fNil s A).bind fun ds A1 => match ds with
      | [.int j] => if InRg j then .ok ⟨rngL 0 j.toNat, yes⟩ A1 else .bad
      | _ => .bad := by
    unfold fRg1 fCons fNil
    cases f s A with
    | bad => rfl
    | exc _ _ _ => rfl
    | ok d A1 => cases d <;> rfl
  rw [ef] at h
  refine ⟨ρ, s, A, hs, R, (Out.bindI h).mono fun xs H1 ⟨ρ1, ds, A1, _, e1, R1, r1, h1⟩ => ?_⟩
  split at h1
  · split at h1
    · rename_i j _ z
      obtain ⟨x, rfl, r2⟩ := r1.one_inv
      cases r2
      exact ⟨j, rfl, z.lo, z.hi, h1 ρ1 H1 _ .refl R1 (itr_rel 0 _)⟩
    · exact h1.elim
  · exact h1.elim
theorem ai_rg2 (hg : Gl X "range") (hm : X.mg "range" = none) (he : AE X E e f) (he2 : AE X E e2 g) (h1 : starEach [e, e2] X.env = (false, eval e X.env) :: starEach [e2] X.env := by rfl) (h2 : starEach [e2] X.env = (false, eval e2 X.env) :: starEach [] X.env := by rfl) :
    AI X E tg (.Call (.Name "range" p) [e, e2] [] pos) (fRg2 f g) := pi_mono (pi_range2 (hs := h1.trans (by rw [h2]; rfl)) (hs2 := h2) hg hm (aa_cons he (aa_cons he2 aa_nil h2) h1)) fun σ H Q h => by
  obtain ⟨ρ, s, A, hs, R, h⟩ := h
  have ef : fRg2 f g s A = (fCons f (fCons g fNil) s A).bind fun ds A1 => match ds with
      | [.int i, .int j] => if InRg i ∧ InRg j then .ok ⟨rngL i (j - i).toNat, yes⟩ A1 else .bad
      | _ => .bad := by
    unfold fRg2 fCons
    cases f s A with
    | bad => rfl
    | exc _ _ _ => rfl
    | ok d A1 =>
      show (g s A1).bind _ = Res.bind (Res.bind (fCons g fNil s A1) _) _
      unfold fCons fNil
      cases g s A1 with
      | bad => rfl
      | exc _ _ _ => rfl
      | ok d' A2 => cases d <;> cases d' <;> rfl
  rw [ef] at h
  refine ⟨ρ, s, A, hs, R, (Out.bindI h).mono fun xs H1 ⟨ρ1, ds, A1, _, e1, R1, r1, h1⟩ => ?_⟩
  split at h1
  · split at h1
    · rename_i i j _ z
      obtain ⟨x, y, rfl, r2, r3⟩ := r1.two_inv
      cases r2; cases r3
      exact ⟨i, j, rfl, ⟨z.1.lo, z.1.hi, z.2.lo, z.2.hi⟩, h1 ρ1 H1 _ .refl R1 (itr_rel i _)⟩
    · exact h1.elim
  · exact h1.elim
end

/-! ## for, while -/
noncomputable def loopD (ok : AH → Prop) (g : FG) (body : FS) : List D → FS
  | [], s, A => if ok A then .ok (.nx s) A else .bad
  | d :: ds, s, A => if ok A then (g d s A).bind fun s1 A1 => (match body s1 A1 with
    | .ok (.nx s2) A2 => loopD ok g body ds s2 A2
    | .ok (.ct s2) A2 => loopD ok g body ds s2 A2
    | .ok (.bk s2) A2 => .ok (.nx s2) A2
    | r => r) else .bad
noncomputable def fFor (src : FI) (g : FG) (body : FS) : FS := fun s A => (src s A).bind fun S A1 => loopD S.ok g body S.items s A1
def loopW (c : FT) (body : FS) : Nat → FS
  | 0, _, _ => .bad
  | n + 1, s, A => (c s A).bind fun b A1 => if b = true then (match body s A1 with
    | .ok (.nx s2) A2 => loopW c body n s2 A2
    | .ok (.ct s2) A2 => loopW c body n s2 A2
    | .ok (.bk s2) A2 => .ok (.nx s2) A2
    | r => r) else .ok (.nx s) A1
section
variable {X : Cx} {E : XK} {tg iter c : Expr} {body : List Stmt} {src : FI} {g : FG} {p : FS} {t : FT} {pos : Pos}
theorem as_for (hp : PassesOwn (model X.prog X.w) X.A X.env X.xe) (hc : X.calm = true) (hi : AI X E tg iter src) (hg : AG X E tg g) (hb : ASs X E body p) (hs : ∀ x, foldedSetIterable iter X.env x = pure x := by intro _; rfl) :
    AS X E (.For tg iter body [] pos) (fFor src g p) := ps_mono (ps_for hp hc hi hg hb hs) fun G σ H h => by
  obtain ⟨ρ, s, A, hs, R, h⟩ := h
  refine ⟨ρ, s, A, hs, R, (OutI.bindS h).mono fun J H1 ⟨ρ1, S, A1, _, e1, R1, J1, h1⟩ => ?_⟩
  refine ⟨fun i m σ' H' => m = S.items.length - i ∧ i ≤ S.items.length ∧ ∃ ρ' s' A', Ext X.K ρ1 H1 ρ' H' ∧ SRel X.K ρ' H' s' σ' ∧ Rel X.K ρ' H' A' ∧ SOut X.K E ρ' H' (loopD S.ok g p (S.items.drop i) s' A') G, ⟨_, rfl, Nat.zero_le _, ρ1, s, A1, .refl, hs.ext e1, R1, by simpa using h1⟩, ?_⟩
  rintro i m σ' H' ⟨rfl, hi, ρ', s', A', e2, hs2, R2, h2⟩
  by_cases hl : i < S.items.length
  · obtain ⟨d, hd⟩ : ∃ d, S.items[i]? = some d := ⟨_, List.getElem?_eq_getElem hl⟩
    have ed : S.items.drop i = d :: S.items.drop (i + 1) := by
      rw [List.drop_eq_getElem_cons hl]
      rw [List.getElem?_eq_getElem hl] at hd
      cases hd; rfl
    rw [ed] at h2
    unfold loopD at h2
    split at h2
    · rename_i ok
      obtain ⟨go, yl⟩ := (J1 i ρ' H' A' e2 R2 ok).1 d hd
      refine .inr ⟨go, fun σ3 H3 => ∃ ρ3 s3 A3, Ext X.K ρ1 H1 ρ3 H3 ∧ SRel X.K ρ3 H3 s3 σ3 ∧ Rel X.K ρ3 H3 A3 ∧ SOut X.K E ρ3 H3 (loopD S.ok g p (S.items.drop (i + 1)) s3 A3) G, fun σ3 H3 h3 => ⟨_, by omega, rfl, hl, h3⟩, fun x H3 hy => ?_⟩
      obtain ⟨e3, R3, r3⟩ := yl x H3 hy
      refine ⟨ρ', s', A', d, hs2.ext e3, R3, r3, (OutG.bindS (h2.ext e3)).mono fun σ4 H4 ⟨ρ4, s4, A4, _, e4, R4, hs4, h4⟩ => ?_⟩
      refine ⟨ρ4, s4, A4, hs4, R4, ?_⟩
      have e5 := e2.trans (e3.trans e4)
      cases eb : p s4 A4 with
      | bad => rw [eb] at h4; exact h4
      | exc C fs A5 => rw [eb] at h4; exact h4
      | ok fl A5 =>
        rw [eb] at h4
        cases fl with
        | nx s5 => exact fun ρ5 H5 σ5 e6 R5 hs5 => ⟨ρ5, s5, A5, e5.trans e6, hs5, R5, h4.ext e6⟩
        | ct s5 => exact fun ρ5 H5 σ5 e6 R5 hs5 => ⟨ρ5, s5, A5, e5.trans e6, hs5, R5, h4.ext e6⟩
        | bk s5 => exact h4
        | rt d => exact h4
    · exact h2.elim
  · have ei : i = S.items.length := by omega
    have ed : S.items.drop i = [] := List.drop_eq_nil_of_le (by omega)
    rw [ed] at h2
    unfold loopD at h2
    split at h2
    · rename_i ok
      exact .inl ⟨(J1 i ρ' H' A' e2 R2 ok).2 (by omega) ei.symm, h2 ρ' H' σ' .refl R2 hs2⟩
    · exact h2.elim
theorem as_while (n : Nat) (hp : PassesOwn (model X.prog X.w) X.A X.env X.xe) (hc : AT X E c t) (hb : ASs X E body p) : AS X E (.While c body [] pos) (loopW t p n) := ps_mono (ps_while hp hc hb) fun G σ H h => by
  obtain ⟨ρ, s, A, hs, R, h⟩ := h
  refine ⟨fun m σ' H' => ∃ ρ' s' A', SRel X.K ρ' H' s' σ' ∧ Rel X.K ρ' H' A' ∧ SOut X.K E ρ' H' (loopW t p m s' A') G, ⟨n, ρ, s, A, hs, R, h⟩, ?_⟩
  rintro m σ' H' ⟨ρ', s', A', hs2, R2, h2⟩
  cases m with
  | zero => exact h2.elim
  | succ m =>
    refine ⟨ρ', s', A', hs2, R2, (Out.bindS h2).mono fun x H3 ⟨ρ3, b, A3, _, e3, R3, r3, h3⟩ => ?_⟩
    cases r3
    cases x with
    | true =>
      rw [if_pos rfl]
      refine ⟨fun σ3 H3 => ∃ ρ3 s3 A3, SRel X.K ρ3 H3 s3 σ3 ∧ Rel X.K ρ3 H3 A3 ∧ SOut X.K E ρ3 H3 (loopW t p m s3 A3) G, fun σ3 H3 h3 => ⟨m, by omega, h3⟩, ?_⟩
      refine ⟨ρ3, s', A3, hs2.ext e3, R3, ?_⟩
      rw [if_pos rfl] at h3
      cases eb : p s' A3 with
      | bad => rw [eb] at h3; exact h3
      | exc C fs A5 => rw [eb] at h3; exact h3
      | ok fl A5 =>
        rw [eb] at h3
        cases fl with
        | nx s5 => exact fun ρ5 H5 σ5 e6 R5 hs5 => ⟨ρ5, s5, A5, hs5, R5, h3.ext e6⟩
        | ct s5 => exact fun ρ5 H5 σ5 e6 R5 hs5 => ⟨ρ5, s5, A5, hs5, R5, h3.ext e6⟩
        | bk s5 => exact h3
        | rt d => exact h3
    | false =>
      rw [if_neg Bool.false_ne_true]
      exact h3 ρ3 H3 σ' .refl R3 (hs2.ext e3)
end
end Ab

namespace Ab
open PySem PySem.Spec PyProof.Rows L2
open scoped Classical

/-! ## list comprehensions: the new list is a cell from the start -/
def wipeA (s : ASt) : List Nat → ASt
  | [] => s
  | v :: vs => (wipeA s vs).set v none
noncomputable def loopC (ok : AH → Prop) (g : FG) (t : FT) (f : FE) (n : Nat) (s : ASt) : List D → AH → Res D
  | [], A => if ok A then .ok (.ref n) A else .bad
  | d :: ds, A => if ok A then (g d s A).bind fun s1 A1 => (t s1 A1).bind fun b A2 => if b = true then (f s1 A2).bind fun y A3 => (match A3[n]? with
      | some (.lst acc) => if acc.length < sizeLine then loopC ok g t f n s ds (A3.set n (.lst (acc ++ [y]))) else .bad
      | _ => .bad) else loopC ok g t f n s ds A2 else .bad
noncomputable def fLc (src : FI) (g : FG) (t : FT) (f : FE) (vs : List Nat) : FE := fun s A => (src s A).bind fun S A1 => loopC S.ok g t f A1.length (wipeA s vs) S.items (A1 ++ [.lst []])
def fYes : FT := fun _ A => .ok true A
section
variable {K : PySem.W.Frag} {E : XK} {ρ : List Addr} {H : Hp} {s : ASt} {σ : L2.St}
theorem SRel.wipes (h : SRel K ρ H s σ) : ∀ vs : List Nat, SRel K ρ H (wipeA s vs) (L2.wipe σ vs)
  | [] => h
  | v :: vs => SRel.wipe (h.wipes vs) v
theorem wipe_set (i : Nat) (x : Option V) : ∀ (vs : List Nat) (σ : L2.St), i ∈ vs → L2.wipe (σ.set i x) vs = L2.wipe σ vs
  | [], σ, h => by cases h
  | v :: vs, σ, h => by
    show (L2.wipe (σ.set i x) vs).set v none = (L2.wipe σ vs).set v none
    by_cases e : i ∈ vs
    · rw [wipe_set i x vs σ e]
    · have ei : i = v := by rcases List.mem_cons.mp h with q | q; exact q; exact absurd q e
      subst ei
      have comm : ∀ (ws : List Nat), i ∉ ws → L2.wipe (σ.set i x) ws = (L2.wipe σ ws).set i x := by
        intro ws
        induction ws with
        | nil => intro _; rfl
        | cons w ws ih =>
          intro hn
          have h1 : i ≠ w := fun z => hn (by rw [z]; exact List.mem_cons_self)
          have h2 : i ∉ ws := fun z => hn (List.mem_cons_of_mem _ z)
          show (L2.wipe (σ.set i x) ws).set w none = ((L2.wipe σ ws).set w none).set i x
          rw [ih h2, List.set_comm _ _ h1]
      rw [comm vs e, List.set_set]
/-- a target whose stores the block forgets again -/
structure Tgt (K : PySem.W.Frag) (vs : List Nat) (t : TG) (g : FG) : Prop where
  det : ∀ d s A, g d s A = .bad ∨ ∃ s1, g d s A = .ok s1 A
  to : ∀ (ρ : List Addr) (H : Hp) (s : ASt) (σ : L2.St) (A : AH) (d : D) (v : V) (s1 : ASt) (Q : L2.St → Hp → Prop), SRel K ρ H s σ → Rp K ρ H d v → g d s A = .ok s1 A → (∀ σ1, SRel K ρ H s1 σ1 → L2.wipe σ1 vs = L2.wipe σ vs → Q σ1 H) → t v σ H Q
structure Tgts (K : PySem.W.Frag) (vs : List Nat) (t : TGs) (g : FGs) : Prop where
  det : ∀ d s A, g d s A = .bad ∨ ∃ s1, g d s A = .ok s1 A
  to : ∀ (ρ : List Addr) (H : Hp) (s : ASt) (σ : L2.St) (A : AH) (d : List D) (v : List V) (s1 : ASt) (Q : L2.St → Hp → Prop), SRel K ρ H s σ → RpL K ρ H d v → g d s A = .ok s1 A → (∀ σ1, SRel K ρ H s1 σ1 → L2.wipe σ1 vs = L2.wipe σ vs → Q σ1 H) → t v σ H Q
theorem tgt_name {vs : List Nat} {i : Nat} (h : i ∈ vs) : Tgt K vs (gName i) (gN i) := ⟨fun d s A => .inr ⟨_, rfl⟩, fun ρ H s σ A d v s1 Q hs r e q => by
  cases e
  exact q _ (hs.set i r) (wipe_set i _ vs σ h)⟩
theorem tgts_nil {vs : List Nat} : Tgts K vs gNil gNl := ⟨fun d s A => by
  cases d with
  | nil => exact .inr ⟨_, rfl⟩
  | cons _ _ => exact .inl rfl, fun ρ H s σ A d v s1 Q hs r e q => by
  cases d with
  | nil => cases e; exact ⟨r, q _ hs rfl⟩
  | cons _ _ => cases e⟩
theorem tgts_cons {vs : List Nat} {i : Nat} {u : TGs} {gs : FGs} (h : i ∈ vs) (h2 : Tgts K vs u gs) : Tgts K vs (gCons (gName i) u) (gCs (gN i) gs) := ⟨fun d s A => by
  cases d with
  | nil => exact .inl rfl
  | cons d ds => exact h2.det ds _ A, fun ρ H s σ A d v s1 Q hs r e q => by
  cases d with
  | nil => cases e
  | cons d ds =>
    obtain ⟨x, xs, rfl, r1, r2⟩ := r
    exact ⟨x, xs, rfl, h2.to ρ H _ _ A ds xs s1 Q (hs.set i r1) r2 e fun σ1 hs1 w => q σ1 hs1 (w.trans (wipe_set i _ vs σ h))⟩⟩
theorem tgt_tup {vs : List Nat} {n : Nat} {u : TGs} {gs : FGs} (h : Tgts K vs u gs) : Tgt K vs (gTup K n u) (gTp n gs) := ⟨fun d s A => by
  cases d with
  | tup ds =>
    show (if ds.length = n then gs ds s A else .bad) = .bad ∨ ∃ s1, (if ds.length = n then gs ds s A else .bad) = .ok s1 A
    split
    · exact h.det ds s A
    · exact .inl rfl
  | _ => exact .inl rfl, fun ρ H s σ A d v s1 Q hs r e q => by
  cases d with
  | tup ds =>
    have e : (if ds.length = n then gs ds s A else .bad) = .ok s1 A := e
    split at e
    · rename_i z
      obtain ⟨a, xs, rfl, q1, q2⟩ := r
      exact ⟨a, xs, rfl, q1, by rw [q2.length]; exact z, h.to ρ H s σ A ds xs s1 Q hs q2 e q⟩
    · cases e
  | _ => cases e⟩
end
section
variable {X : Cx} {E : XK} {elt tg iter : Expr} {ifs : List Expr} {scope : Scope} {own : List (Str × Nat)} {pos : Pos} {src : FI} {tgg : TG} {g : FG} {t : FT} {f : FE}
abbrev ATs (X : Cx) (E : XK) (ifs : List Expr) (t : FT) : Prop := PTs X ifs (tAT X.K E t)
theorem ats_nil : ATs X E [] fYes := ⟨fun pins s σ H Q I h => pts_nil.run pins s σ H Q I (by
  obtain ⟨ρ, s, A, hs, R, h⟩ := h
  exact Out.now h R rfl)⟩
theorem ats_one {c : Expr} (h : AT X E c t) : ATs X E [c] t := pts_one h
theorem lc_read {K : PySem.W.Frag} {vs : List Nat} (tt : Tgt K vs tgg g) {σ : L2.St} {H : Hp} {Q : VK} (h : tA K E (fLc src g t f vs) σ H Q) :
    tLc (tAI K E src) tgg (tAT K E t) (tA K E f) vs σ H Q := by
  obtain ⟨ρ, s, A, hs, R, h⟩ := h
  refine ⟨ρ, s, A, hs, R, (OutI.bindO h).mono fun J H1 ⟨ρ1, S, A1, _, e1, R1, J1, h1⟩ => fun L hL => ?_⟩
  have eL : Ext K ρ1 H1 (ρ1 ++ [L]) (L2.upd H1 L (.lst [])) := Ext.new hL [L]
  have RL : Rel K (ρ1 ++ [L]) (L2.upd H1 L (.lst [])) (A1 ++ [.lst []]) := R1.new hL ⟨[], upd_same, rfl⟩
  have nL : (ρ1 ++ [L])[A1.length]? = some L := by rw [← R1.len]; simp
  refine ⟨fun i m H' => m = S.items.length - i ∧ i ≤ S.items.length ∧ ∃ ρ' A', Ext K (ρ1 ++ [L]) (L2.upd H1 L (.lst [])) ρ' H' ∧ Rel K ρ' H' A' ∧ OutE K E ρ' H' (loopC S.ok g t f A1.length (wipeA s vs) (S.items.drop i) A') Q,
    ⟨_, rfl, Nat.zero_le _, _, _, .refl, RL, by simpa using h1.ext eL⟩, ?_⟩
  rintro i m H' ⟨rfl, hi, ρ', A', e2, R2, h2⟩
  have hs2 : SRel K ρ' H' (wipeA s vs) (L2.wipe σ vs) := (hs.wipes _).ext (e1.trans (eL.trans e2))
  have fL : ∀ {ρ3 : List Addr} {H3 : Hp}, Ext K ρ' H' ρ3 H3 → ρ3[A1.length]? = some L := fun e => (e2.trans e).at_ nL
  by_cases hl : i < S.items.length
  · obtain ⟨d, hd⟩ : ∃ d, S.items[i]? = some d := ⟨_, List.getElem?_eq_getElem hl⟩
    have ed : S.items.drop i = d :: S.items.drop (i + 1) := by
      rw [List.drop_eq_getElem_cons hl]
      rw [List.getElem?_eq_getElem hl] at hd
      cases hd; rfl
    rw [ed] at h2
    unfold loopC at h2
    split at h2
    · rename_i ok
      obtain ⟨go, yl⟩ := (J1 i ρ' H' A' (eL.trans e2) R2 ok).1 d hd
      refine .inr ⟨go, fun H3 => ∃ ρ3 A3, Ext K (ρ1 ++ [L]) (L2.upd H1 L (.lst [])) ρ3 H3 ∧ Rel K ρ3 H3 A3 ∧ OutE K E ρ3 H3 (loopC S.ok g t f A1.length (wipeA s vs) (S.items.drop (i + 1)) A3) Q, fun H3 h3 => ⟨_, by omega, rfl, hl, h3⟩, fun x H3 hy => ?_⟩
      obtain ⟨e3, R3, r3⟩ := yl x H3 hy
      have h2 := h2.ext e3
      rcases tt.det d (wipeA s vs) A' with eg | ⟨s1, eg⟩
      · rw [eg] at h2; exact h2.elim
      · rw [eg] at h2
        change Out K E (fun ρ H d v => Rp K ρ H d v) ρ' H3 ((t s1 A').bind fun b A2 => _) Q at h2
        refine tt.to ρ' H3 _ _ A' d x s1 _ (hs2.ext e3) r3 eg fun σ1 hs3 w => ⟨w.trans ?_, ρ', s1, A', hs3, R3, (Out.bind h2).mono fun b H4 ⟨ρ4, b', A4, _, e4, R4, r4, h4⟩ => ?_⟩
        · have ww : ∀ (us ws : List Nat), (∀ i ∈ us, i ∈ ws) → L2.wipe (L2.wipe σ us) ws = L2.wipe σ ws := by
            intro us
            induction us with
            | nil => intro ws _; rfl
            | cons u us ih =>
              intro ws hw
              show L2.wipe ((L2.wipe σ us).set u none) ws = _
              rw [wipe_set u none ws _ (hw u List.mem_cons_self)]
              exact ih ws fun i hi => hw i (List.mem_cons_of_mem _ hi)
          exact ww vs vs fun i h => h
        · cases r4
          cases b with
          | false =>
            rw [if_neg Bool.false_ne_true] at h4 ⊢
            exact ⟨ρ4, A4, e2.trans (e3.trans e4), R4, h4⟩
          | true =>
            rw [if_pos rfl] at h4 ⊢
            refine ⟨ρ4, s1, A4, hs3.ext e4, R4, (Out.bind h4).mono fun y H5 ⟨ρ5, d5, A5, _, e5, R5, r5, h5⟩ => ?_⟩
            have e35 := e3.trans (e4.trans e5)
            split at h5
            · rename_i acc eA
              split at h5
              · rename_i z
                obtain ⟨a, ha, us, q1, q2⟩ := R5.ob _ _ eA
                rw [fL e35] at ha; cases ha
                have u := upd_lst (ds := acc) R5 (fL e35) eA q1 (q2.append (RpL.one r5))
                exact ⟨us, q1, by rw [q2.length]; exact z, ρ5, _, e2.trans (e35.trans u.1), u.2, h5.ext u.1⟩
              · exact h5.elim
            · exact h5.elim
    · exact h2.elim
  · have ei : i = S.items.length := by omega
    have ed : S.items.drop i = [] := List.drop_eq_nil_of_le (by omega)
    rw [ed] at h2
    unfold loopC at h2
    split at h2
    · rename_i ok
      exact .inl ⟨(J1 i ρ' H' A' (eL.trans e2) R2 ok).2 (by omega) ei.symm, h2.now R2 ⟨L, fL .refl, rfl⟩⟩
    · exact h2.elim
abbrev Blk (X : Cx) (scope : Scope) (P : Cx → Prop) : Prop := ∀ (s : Shared) (H : Hp) (C : Addr) (cl : List (Str × Addr)) (fp : List Addr), P (X.blk s H scope (compEnvC scope cl C X.env) fp)
theorem ae_lc (own : List (Str × Nat)) (hc : X.calm = true) (hN : X.N.Nodup) (hi : AI X E tg iter src) (ok : BlkOk X.N X.env.scope scope own) (tt : Tgt X.K (own.map (·.2)) tgg g)
    (hg : Blk X scope fun Y => PG Y tg tgg) (ht : Blk X scope fun Y => ATs Y E ifs t) (he : Blk X scope fun Y => AE Y E elt f) (hs : ∀ x, foldedSetIterable iter X.env x = pure x := by intro _; rfl) :
    AE X E (.ListComp elt [⟨tg, iter, ifs, 0⟩] scope pos) (fLc src g t f (own.map (·.2))) := pe_mono (pe_lc hc hN hi ok hg ht he hs) fun _ _ _ => lc_read tt
/-- name = [..] -/
theorem as_setLc (own : List (Str × Nat)) {i : Nat} {y : Str} {py spos : Pos} (hc : X.calm = true) (hN : X.N.Nodup) (hi : AI X E tg iter src) (ok : BlkOk X.N X.env.scope scope own) (tt : Tgt X.K (own.map (·.2)) tgg g)
    (hg : Blk X scope fun Y => PG Y tg tgg) (ht : Blk X scope fun Y => ATs Y E ifs t) (he : Blk X scope fun Y => AE Y E elt f) (hsw : swapsWith (.ListComp elt [⟨tg, iter, ifs, 0⟩] scope pos) (some (.Name y py)) spos.line X.env = pure true)
    (hy : X.N[i]? = some y := by rfl) (hyl : X.env.scope.names.lookup y = some .local := by rfl) (hs : ∀ x, foldedSetIterable iter X.env x = pure x := by intro _; rfl) :
    AS X E (.Assign [.Name y py] (.ListComp elt [⟨tg, iter, ifs, 0⟩] scope pos) spos) (fSet (fLc src g t f (own.map (·.2))) i) := ps_mono (ps_setLc (tt := tAT X.K E t) (te := tA X.K E f) hc hN hy hyl hsw hi ok hg ht he hs) fun G σ H h => by
  refine lc_read (t := t) (f := f) tt ?_
  obtain ⟨ρ, s, A, hs, R, h⟩ := h
  exact ⟨ρ, s, A, hs, R, (Out.bindS h).mono fun x H1 ⟨ρ1, d, A1, _, e1, R1, r1, h1⟩ => h1 ρ1 H1 _ .refl R1 ((hs.ext e1).set i r1)⟩
end

/-! ## isinstance of a built-in type -/
def tyN (A : AH) : D → Option String
  | .non => some "NoneType"
  | .bl _ => some "bool"
  | .int _ => some "int"
  | .str _ => some "str"
  | .tup _ => some "tuple"
  | .ref i => match A[i]? with
    | some (.lst _) => some "list"
    | some (.frz _) => some "list"
    | some (.dic _) => some "dict"
    | _ => none
def isiD (T : String) (d : D) (A : AH) : Res D := match tyN A d with
  | some t => match kitB t T with
    | some b => .ok (.bl b) A
    | none => .bad
  | none => .bad
theorem tyN_ok {K : PySem.W.Frag} {ρ : List Addr} {H : Hp} {A : AH} {d : D} {v : V} {t : String} (R : Rel K ρ H A) (r : Rp K ρ H d v) (h : tyN A d = some t) : TyX K H v (.type t) := by
  cases d with
  | non => cases r; cases h; exact .base .non
  | bl b => cases r; cases h; exact .base (.bl b)
  | int i => cases r; cases h; exact .base (.int i)
  | str x => cases r; cases h; exact .base (.str x)
  | tup ds =>
    obtain ⟨a, xs, rfl, q, _⟩ := r
    cases h
    rcases q with (q | ⟨o, q⟩) | ⟨o, its, n, q1, q2, _⟩
    · exact .base (.tup q)
    · exact .fTuple q
    · exact .kTuple q1 q2
  | ref i =>
    obtain ⟨a, h1, rfl⟩ := r
    obtain ⟨o, h2, h3⟩ := R.has h1
    unfold tyN at h
    simp only [h2] at h
    cases o with
    | lst xs => cases h; obtain ⟨us, e1, _⟩ := h3; exact .base (.lst e1)
    | frz xs =>
      cases h
      obtain ⟨us, e1, _⟩ := h3
      rcases e1 with ⟨o, e1⟩ | (e1 | ⟨o, e1⟩) | ⟨o, its, n, q1, q2, _⟩
      · exact .base (.frz e1)
      · cases e1
      · cases e1
      · exact .kList q1 q2
    | dic xs => cases h; obtain ⟨us, e1, _⟩ := h3; exact .base (.dK e1)
    | ins _ _ => cases h
section
variable {X : Cx} {E : XK} {a : Expr} {f : FE} {p p2 pos : Pos}
theorem ae_isi {T : String} {x : Str} (hg : Gl X "isinstance") (hm : X.mg "isinstance" = none) (hg2 : Gl X x) (hm2 : X.mg x = none) (hv2 : bootBuiltins x = some (.type T)) (ha : AE X E a f) (hn : x ≠ "__name__" := by decide) (hdb : (x == ("__debug__" : Str)) = false := by decide)
    (h1 : starEach [a, .Name x p2] X.env = (false, eval a X.env) :: starEach [.Name x p2] X.env := by rfl) (h2 : starEach [.Name x p2] X.env = (false, eval (.Name x p2) X.env) :: starEach [] X.env := by rfl)
    (hpl : (backTo pos (starEach [.Name x p2] X.env)).any (·.1) = false := by rfl) (hv : bootBuiltins "isinstance" = some (.builtin "isinstance") := by decide +kernel) :
    AE X E (.Call (.Name "isinstance" p) [a, .Name x p2] [] pos) (fUn (isiD T) f) :=
  pe_mono (pe_callB (call_isi (X := X)) hg hm hv (pa_cons ha (pa_cons (pe_bltn (v := .ty T) hg2 hm2 hv2 rfl hn hdb) pa_nil h2) h1) (by decide) (by decide) h1 hpl) fun σ H Q h => by
    obtain ⟨ρ, s, A, hs, R, h⟩ := h
    refine ⟨ρ, s, A, hs, R, (Out.bind h).mono fun v H1 ⟨ρ1, d, A1, _, e1, R1, r1, h1⟩ => ?_⟩
    unfold isiD at h1
    split at h1
    · rename_i t e2
      split at h1
      · rename_i b e3
        exact ⟨v, .ty T, .type t, .type T, b, rfl, .ty T, tyN_ok R1 r1 e2, kit_ty e3, h1.now R1 rfl⟩
      · exact h1.elim
    · exact h1.elim
end

/-! ## methods of built-in types -/
def rM (K : PySem.W.Frag) (E : XK) (g : D → FM) : V → List V → Hp → VK → Prop := fun x xs H Q => ∃ ρ A d ds, Rel K ρ H A ∧ Rp K ρ H d x ∧ RpL K ρ H ds xs ∧ OutE K E ρ H (g d ds A) Q
abbrev AMt (X : Cx) (E : XK) (id : String) (g : D → FM) : Prop := MtR X id (rM X.K E g)
def isTy (T : String) (d : D) (A : AH) : Bool := match d with
  | .str _ => T == "str"
  | d => (T == "list" && (rdL A d).isSome) || (T == "dict" && (rdK A d).isSome)
def fMt0 (T : String) (g : D → FM) (fo : FE) : FE := fun s A => (fo s A).bind fun d A1 => if isTy T d A1 = true then g d [] A1 else .bad
def fMt (T : String) (g : D → FM) (fo : FE) (fa : FA) : FE := fun s A => (fo s A).bind fun d A1 => if isTy T d A1 = true then (fa s A1).bind fun ds A2 => g d ds A2 else .bad
theorem isTy_ok {K : PySem.W.Frag} {ρ : List Addr} {H : Hp} {A : AH} {T : String} {d : D} {v : V} (R : Rel K ρ H A) (r : Rp K ρ H d v) (h : isTy T d A = true) : tyV K T v H := by
  cases d with
  | str x => cases r; exact eq_of_beq h
  | ref i =>
    have h : (((T == "list") && (rdL A (.ref i)).isSome) || ((T == "dict") && (rdK A (.ref i)).isSome)) = true := h
    rw [Bool.or_eq_true, Bool.and_eq_true, Bool.and_eq_true] at h
    rcases h with ⟨h1, h2⟩ | ⟨h1, h2⟩
    · obtain ⟨xs, e⟩ := Option.isSome_iff_exists.mp h2
      obtain ⟨a, us, rfl, q, _⟩ := rdL_ok R r e
      exact .inl ⟨eq_of_beq h1, us, q⟩
    · obtain ⟨xs, e⟩ := Option.isSome_iff_exists.mp h2
      obtain ⟨_, a, us, _, rfl, _, _, q, _⟩ := rdK_ok R r e
      exact .inr (.inr (.inl ⟨eq_of_beq h1, .inl ⟨us, q⟩⟩))
  | non => simp [isTy, rdL, rdK] at h
  | bl b => simp [isTy, rdL, rdK] at h
  | int b => simp [isTy, rdL, rdK] at h
  | tup b => simp [isTy, rdL, rdK] at h
section
variable {X : Cx} {E : XK} {o e : Expr} {es : List Expr} {fo : FE} {fa : FA} {g : D → FM} {name : Str} {apos cpos : Pos} {T id : String}
theorem ae_mt0 (pa : PlainAttrs T) (slot : Slot T name id) (hty : typeOf (.builtin id) = pure (.type "method_descriptor")) (hm : AMt X E id g) (ho : AE X E o fo)
    (hbase : attributeBase o name X.env (eval o X.env) = eval o X.env := by rfl) (hline : (apos.endLine == cpos.line) = true := by rfl) : AE X E (.Call (.Attribute o name apos) [] [] cpos) (fMt0 T g fo) :=
  pe_mono (pe_bm0 pa slot hty hm ho hbase hline) fun σ H Q h => by
    obtain ⟨ρ, s, A, hs, R, h⟩ := h
    refine ⟨ρ, s, A, hs, R, (Out.bind h).mono fun v H1 ⟨ρ1, d, A1, _, e1, R1, r1, h1⟩ => ?_⟩
    split at h1
    · rename_i z
      exact ⟨isTy_ok R1 r1 z, ρ1, A1, d, [], R1, r1, rfl, h1⟩
    · exact h1.elim
theorem ae_mt (pa : PlainAttrs T) (slot : Slot T name id) (hty : typeOf (.builtin id) = pure (.type "method_descriptor")) (hm : AMt X E id g) (ho : AE X E o fo) (ha : AA X E (e :: es) fa)
    (hbase : attributeBase o name X.env (eval o X.env) = eval o X.env := by rfl)
    (hfew : ((backTo cpos (starEach (e :: es) X.env)).all (fun x => !x.1) && (backToKw cpos (keywordEach [] X.env)).all (fun x => x.1.isSome)
      && decide ((e :: es).length + ([] : List Keyword).length + (if ([] : List Keyword).isEmpty then 0 else 1) < 30)) = true := by rfl)
    (hline : (apos.endLine == cpos.line) = true := by rfl) (hs : starEach (e :: es) X.env = (false, eval e X.env) :: starEach es X.env := by rfl) (hplain : (backTo cpos (starEach es X.env)).any (·.1) = false := by rfl) :
    AE X E (.Call (.Attribute o name apos) (e :: es) [] cpos) (fMt T g fo fa) := pe_mono (pe_bm pa slot hty hm ho ha hbase hfew hline hs hplain) fun σ H Q h => by
  obtain ⟨ρ, s, A, hs, R, h⟩ := h
  refine ⟨ρ, s, A, hs, R, (Out.bind h).mono fun v H1 ⟨ρ1, d, A1, _, e1, R1, r1, h1⟩ => ?_⟩
  split at h1
  · rename_i z
    exact ⟨isTy_ok R1 r1 z, ρ1, s, A1, hs.ext e1, R1, (Out.bind h1).mono fun vs H2 ⟨ρ2, ds, A2, _, e2, R2, r2, h2⟩ => ⟨ρ2, A2, d, ds, R2, r1.ext e2, r2, h2⟩⟩
  · exact h1.elim
def appendD (d : D) : FM
  | [y], A => match d with
    | .ref n => match A[n]? with
      | some (.lst xs) => if xs.length < sizeLine then .ok .non (A.set n (.lst (xs ++ [y]))) else .bad
      | _ => .bad
    | _ => .bad
  | _, _ => .bad
theorem mtm_mono {id : String} {r r' : V → List V → Hp → VK → Prop} (h : MtR X id r) (m : ∀ x xs H Q, r' x xs H Q → r x xs H Q) : MtR X id r' := fun pins s σ H x xs v us Q I rx rs q => h pins s σ H x xs v us Q I rx rs (m _ _ _ _ q)
theorem amt_append : AMt X E "list.append" appendD := mtm_mono mt_append fun x xs H Q h => by
  obtain ⟨ρ, A, d, ds, R, r, rs, h⟩ := h
  unfold appendD at h
  split at h
  · split at h
    · split at h
      · split at h
        · rename_i xs' eA z
          obtain ⟨a, ha, rfl⟩ := r
          obtain ⟨a', ha', us, q1, q2⟩ := R.ob _ _ eA
          rw [ha] at ha'; cases ha'
          obtain ⟨y, rfl, ry⟩ := rs.one_inv
          have u := upd_lst (ds := xs') R ha eA q1 (q2.append (RpL.one ry))
          exact ⟨a, us, y, rfl, rfl, q1, by rw [q2.length]; exact z, h ρ _ .non u.1 u.2 rfl⟩
        · exact h.elim
      · exact h.elim
    · exact h.elim
  · exact h.elim
def extendD (d : D) : FM
  | [e], A => match d with
    | .ref n => match A[n]?, muL A e with
      | some (.lst xs), some ys => if xs.length + ys.length ≤ sizeLine then .ok .non (A.set n (.lst (xs ++ ys))) else .bad
      | _, _ => .bad
    | _ => .bad
  | _, _ => .bad
theorem amt_extend : AMt X E "list.extend" extendD := mtm_mono mt_extend fun x xs H Q h => by
  obtain ⟨ρ, A, d, ds, R, r, rs, h⟩ := h
  unfold extendD at h
  split at h
  · split at h
    · split at h
      · split at h
        · rename_i xs' ys eA eY z
          obtain ⟨a, ha, rfl⟩ := r
          obtain ⟨a', ha', us, q1, q2⟩ := R.ob _ _ eA
          rw [ha] at ha'; cases ha'
          obtain ⟨y, rfl, ry⟩ := rs.one_inv
          obtain ⟨_, b, ws, _, rfl, _, _, q3, q4⟩ := muL_ok R ry eY
          have u := upd_lst (ds := xs') R ha eA q1 (q2.append q4)
          exact ⟨a, b, us, ws, rfl, rfl, q1, q3, by rw [q2.length, q4.length]; exact z, h ρ _ .non u.1 u.2 rfl⟩
        · exact h.elim
      · exact h.elim
    · exact h.elim
  · exact h.elim
def popD (d : D) : FM
  | [], A => match d with
    | .ref n => match A[n]? with
      | some (.lst xs) => match xs[xs.length - 1]? with
        | some y => .ok y (A.set n (.lst xs.dropLast))
        | none => .bad
      | _ => .bad
    | _ => .bad
  | _, _ => .bad
theorem RpL.dropLast {K : PySem.W.Frag} {ρ : List Addr} {H : Hp} {ds : List D} {xs : List V} (r : RpL K ρ H ds xs) : RpL K ρ H ds.dropLast xs.dropLast := by
  rw [List.dropLast_eq_take, List.dropLast_eq_take, r.length]
  exact r.take _
theorem amt_pop : AMt X E "list.pop" popD := mtm_mono mt_pop fun x xs H Q h => by
  obtain ⟨ρ, A, d, ds, R, r, rs, h⟩ := h
  unfold popD at h
  split at h
  · split at h
    · split at h
      · split at h
        · rename_i xs' eA _ y eY
          obtain ⟨a, ha, rfl⟩ := r
          obtain ⟨a', ha', us, q1, q2⟩ := R.ob _ _ eA
          rw [ha] at ha'; cases ha'
          obtain ⟨v, e1, e2⟩ := q2.get eY
          have u := upd_lst (ds := xs') R ha eA q1 q2.dropLast
          exact ⟨a, us, v, rfl, rs, q1, by rw [q2.length]; exact e1, h ρ _ v u.1 u.2 (e2.ext u.1)⟩
        · exact h.elim
      · exact h.elim
    · exact h.elim
  · exact h.elim
def insertD (d : D) : FM
  | [.int i, y], A => match d with
    | .ref n => match A[n]? with
      | some (.lst xs) => if xs.length < sizeLine ∧ 0 ≤ i ∧ i < 2 ^ 63 then .ok .non (A.set n (.lst (xs.take i.toNat ++ [y] ++ xs.drop i.toNat))) else .bad
      | _ => .bad
    | _ => .bad
  | _, _ => .bad
theorem amt_insert : AMt X E "list.insert" insertD := mtm_mono mt_insert fun x xs H Q h => by
  obtain ⟨ρ, A, d, ds, R, r, rs, h⟩ := h
  unfold insertD at h
  split at h
  · rename_i k y'
    split at h
    · split at h
      · split at h
        · rename_i xs' eA z
          obtain ⟨a, ha, rfl⟩ := r
          obtain ⟨a', ha', us, q1, q2⟩ := R.ob _ _ eA
          rw [ha] at ha'; cases ha'
          obtain ⟨i', y, rfl, ri, ry⟩ := rs.two_inv
          cases ri
          have u := upd_lst (ds := xs') R ha eA q1 (((q2.take k.toNat).append (RpL.one ry)).append (q2.drop k.toNat))
          exact ⟨a, us, k, y, rfl, rfl, q1, by rw [q2.length]; exact z.1, z.2.1, z.2.2, h ρ _ .non u.1 u.2 rfl⟩
        · exact h.elim
      · exact h.elim
    · exact h.elim
  · exact h.elim
end

/-! ## f-strings -/
def fmtD (d : D) (A : AH) : Res D := match d with
  | .str x => if x.length ≤ sizeLine then .ok (.str x) A else .bad
  | .int i => if i.natAbs.log2 < 1920 then .ok (.str (toString i)) A else .bad
  | _ => .bad
def jStrs : List FE → Str → FE
  | [], acc, _, A => .ok (.str acc) A
  | f :: fs, acc, s, A => (f s A).bind fun d A1 => match d with
    | .str y => if (acc ++ y).length ≤ sizeLine then jStrs fs (acc ++ y) s A1 else .bad
    | _ => .bad
inductive AJ (X : Cx) (E : XK) : List Expr → List FE → Prop where
  | nil : AJ X E [] []
  | cons {e : Expr} {f : FE} {es : List Expr} {fs : List FE} (h : AE X E e f) (r : AJ X E es fs) : AJ X E (e :: es) (f :: fs)
section
variable {X : Cx} {E : XK} {e v1 v2 : Expr} {rest : List Expr} {f : FE} {fs : List FE} {pos : Pos}
theorem ae_fmt (h : AE X E e f) : AE X E (.FormattedValue e (-1) none pos) (fUn fmtD f) := pe_mono (pe_fmt h) fun σ H Q h => by
  obtain ⟨ρ, s, A, hs, R, h⟩ := h
  refine ⟨ρ, s, A, hs, R, (Out.bind h).mono fun v H1 ⟨ρ1, d, A1, _, e1, R1, r1, h1⟩ => ?_⟩
  unfold fmtD at h1
  split at h1
  · split at h1
    · rename_i z; cases r1; exact .inl ⟨_, rfl, z, h1.now R1 rfl⟩
    · exact h1.elim
  · split at h1
    · rename_i z; cases r1; exact .inr ⟨_, rfl, z, h1.now R1 rfl⟩
    · exact h1.elim
  · exact h1.elim
theorem AJ.pj (h : AJ X E rest fs) : PJ X rest (fs.map (tA X.K E)) := by
  induction h with
  | nil => exact .nil
  | cons h _ ih => exact .cons h ih
theorem js_read {K : PySem.W.Frag} {σ : L2.St} {Q : VK} : ∀ (fs : List FE) (acc : Str) (ρ : List Addr) (s : ASt) (A : AH) (H : Hp), SRel K ρ H s σ → Rel K ρ H A → OutE K E ρ H (jStrs fs acc s A) Q → tJs (fs.map (tA K E)) acc σ H fun out H1 => Q (.str out) H1
  | [], acc, ρ, s, A, H, hs, R, h => Out.now h R rfl
  | f :: fs, acc, ρ, s, A, H, hs, R, h => by
    refine ⟨ρ, s, A, hs, R, (Out.bind h).mono fun v H1 ⟨ρ1, d, A1, _, e1, R1, r1, h1⟩ => ?_⟩
    split at h1
    · split at h1
      · rename_i z
        cases r1
        exact ⟨_, rfl, z, js_read fs _ ρ1 s A1 H1 (hs.ext e1) R1 h1⟩
      · exact h1.elim
    · exact h1.elim
theorem ae_joined (h : AJ X E (v1 :: v2 :: rest) fs) : AE X E (.JoinedStr (v1 :: v2 :: rest) pos) (jStrs fs Str.empty) := pe_mono (pe_joined h.pj) fun σ H Q h => by
  obtain ⟨ρ, s, A, hs, R, h⟩ := h
  exact js_read fs _ ρ s A H hs R h
theorem ae_joined1 (h : AE X E e f) : AE X E (.JoinedStr [e] pos) f := pe_joined1 h
end

/-! ## dict displays with text keys and int keys -/
def fDict (ks : List Key) (fs : FA) : FE := fun s A => (fs s A).bind fun ds A1 => if ds.length = ks.length then alloc (.dic (ks.zip ds)) A1 else .bad

/-! ## a def of the text -/
def spM (K : PySem.W.Frag) (n : Nat) (m : FM) : Sp := fun vs H Q _ => ∃ ρ A ds, Rel K ρ H A ∧ RpL K ρ H ds vs ∧ ds.length = n ∧ OutE K E0 ρ H (m ds A) Q
/-- the def at f does what m says, by at most k calls within one another -/
abbrev ADef (P : Program) (w : World) (K : PySem.W.Frag) (mg : Str → Option Value) (base : Heap) (k : Nat) (f : Addr) (fd : FuncData) (ps : List Str) (m : FM) : Prop := FnOk P w K mg base CX0 k f fd ps (spM K ps.length m)
/-- the parameters' slots, then the other names' -/
def args (n : Nat) (ds : List D) : ASt := ds.map some ++ List.replicate (n - ds.length) none
def finish (r : Res Fl) : Res D := match r with
  | .ok (.rt d) A => .ok d A
  | .ok (.nx _) A => .ok .non A
  | .ok _ _ => .bad
  | .exc C fs A => .exc C fs A
  | .bad => .bad
/-- a body as a function -/
def body (np n : Nat) (f : FS) : FM := fun ds A => if ds.length = np then finish (f (args n ds) A) else .bad
section
variable {P : Program} {w : World} {K : PySem.W.Frag} {mg : Str → Option Value} {base : Heap}
theorem args_rel {ρ : List Addr} {H : Hp} {ds : List D} {vs : List V} (N : List Str) (r : RpL K ρ H ds vs) : SRel K ρ H (args N.length ds) (L2.start N vs) := by
  refine ⟨by simp [args, L2.start, r.length], fun i d h => ?_⟩
  unfold args at h
  by_cases hi : i < ds.length
  · rw [List.getElem?_append_left (by simpa using hi), List.getElem?_map] at h
    cases e : ds[i]? with
    | none => rw [e] at h; cases h
    | some d' =>
      rw [e] at h
      cases h
      obtain ⟨v, q1, q2⟩ := r.get e
      refine ⟨v, ?_, q2⟩
      unfold L2.start
      rw [List.getElem?_append_left (by simpa [r.length] using hi), List.getElem?_map, q1]
      rfl
  · rw [List.getElem?_append_right (by simpa using hi), List.getElem?_replicate] at h
    split at h <;> cases h
theorem adef {x qual : Str} {st : Stmt} {f : Addr} {fd : FuncData} {N ps : List Str} {k : Nat} {p : FS} (F : Fun K x qual st f fd) (S : FnScope N ps (defScope st))
    (hb : ∀ (cdv : Value) (A : Around) (outer : List Env) (s : Shared) (H : Hp) (E : XK), Room k (A.deeper (envOfC qual (defScope st) s.heap.objs.size f cdv)) →
      ASs (cxOf CX0 P w K mg base N qual (defScope st) f cdv A outer s H E).nox E0 (defBody st) p) : ADef P w K mg base (k + 1) f fd ps (body ps.length N.length p) := by
  refine F.ok S (fun vs H Q E h => ?_) (fun cdv A outer s H vs Q E hr h => ?_)
  · obtain ⟨ρ, A, ds, R, r, z, h⟩ := h
    rw [r.length, z]
  · obtain ⟨ρ, A', ds, R, r, z, h⟩ := h
    refine ⟨_, hb cdv A outer s H E hr, ρ, args N.length ds, A', args_rel N r, R, ?_⟩
    unfold body at h
    rw [if_pos z] at h
    unfold finish at h
    show SOut K E0 ρ H (p (args N.length ds) A') _
    cases e : p (args N.length ds) A' with
    | bad => rw [e] at h; exact h
    | exc C fs A1 => rw [e] at h; exact h
    | ok fl A1 =>
      rw [e] at h
      cases fl with
      | nx s => exact fun ρ1 H1 σ1 e1 R1 _ => h ρ1 H1 .non e1 R1 rfl
      | rt d => exact h
      | bk s => exact h.elim
      | ct s => exact h.elim
/-- a def does the same by another function that has as much to say -/
theorem ADef.imp {k : Nat} {f : Addr} {fd : FuncData} {ps : List Str} {m m' : FM} (h : ADef P w K mg base k f fd ps m) (e : ∀ ρ H ds A Q, Rel K ρ H A → ds.length = ps.length → OutE K E0 ρ H (m' ds A) Q → OutE K E0 ρ H (m ds A) Q) : ADef P w K mg base k f fd ps m' :=
  FnOk.imp h fun vs H Q E ⟨ρ, A, ds, R, r, z, q⟩ => ⟨ρ, A, ds, R, r, z, e ρ H ds A Q R z q⟩
end
section
variable {X : Cx} {k n : Nat} {f : Addr} {fd : FuncData} {ps : List Str} {m : FM} {x : Str} {p pos : Pos} {e : Expr} {es : List Expr} {fs : FA}
def fOwn (n : Nat) (m : FM) (fs : FA) : FE := fun s A => (fs s A).bind fun ds A1 => if ds.length = n then m ds A1 else .bad
theorem own_ {K : PySem.W.Frag} {σ : L2.St} {H : Hp} {Q : VK} {n : Nat} (h : tA K E0 (fOwn n m fs) σ H Q) : tCall (spM K n m) [] E0 (tAA K E0 fs) σ H Q := by
  obtain ⟨ρ, s, A, hs, R, h⟩ := h
  refine ⟨ρ, s, A, hs, R, (Out.bind h).mono fun x H1 ⟨ρ1, d, A1, _, e1, R1, r1, h1⟩ => ?_⟩
  split at h1
  · rename_i z
    exact ⟨ρ1, A1, d, R1, by rw [List.append_nil]; exact r1, z, h1⟩
  · exact h1.elim
theorem ae_call (F : ADef X.prog X.w X.K X.mg X.base k f fd ps m) (hr : Room k X.A) (hg : Gl X x) (hm : X.mg x = some (.ref f)) (hk : PySem.W.keepIn X.K (.ref f) = true) (hb : Binds X.K fd ps [])
    (ha : AA X E0 (e :: es) fs) (hdb : (x == ("__debug__" : Str)) = false := by decide) (he : starEach (e :: es) X.env = (false, eval e X.env) :: starEach es X.env := by rfl) (hpl : (backTo pos (starEach es X.env)).any (·.1) = false := by rfl) (hn : ps.length = n := by rfl) :
    AE X E0 (.Call (.Name x p) (e :: es) [] pos) (fOwn n m fs) := pe_mono (pe_call F hr hg hm hk hb .nil pass0 ha hdb he hpl) fun _ _ _ h => own_ (by rw [hn]; exact h)
theorem ae_call0 (F : ADef X.prog X.w X.K X.mg X.base k f fd ps m) (hr : Room k X.A) (hg : Gl X x) (hm : X.mg x = some (.ref f)) (hk : PySem.W.keepIn X.K (.ref f) = true) (hb : Binds X.K fd ps [])
    (hdb : (x == ("__debug__" : Str)) = false := by decide) (hn : ps.length = n := by rfl) :
    AE X E0 (.Call (.Name x p) [] [] pos) (fOwn n m fNil) := pe_mono (pe_call0 F hr hg hm hk hb .nil pass0 hdb) fun σ H Q h => by
  rw [← hn] at h
  obtain ⟨ρ, s, A, hs, R, h⟩ := own_ h
  exact Out.now h R rfl
end
end Ab

namespace Ab
open PySem PySem.Spec PyProof.Rows L2
open scoped Classical

/-! ## tuple(range(..)), list(range(..)) -/
def rgD (f1 f2 : FE) (k : Int → Int → AH → Res D) : FE := fun s A => (f1 s A).bind fun d A1 => (f2 s A1).bind fun e A2 => match d, e with
  | .int i, .int j => k i j A2
  | _, _ => .bad
noncomputable def rgTup (i j : Int) (A : AH) : Res D := if RgOk i j then .ok (.tup (rngL i (j - i).toNat)) A else .bad
noncomputable def rgLst (i j : Int) (A : AH) : Res D := if RgOk i j then alloc (.lst (rngL i (j - i).toNat)) A else .bad
theorem rng_rel {K : PySem.W.Frag} {ρ : List Addr} {H : Hp} (i j : Int) : RpL K ρ H (rngL i (j - i).toNat) (rgV i j) := by
  unfold rngL rgV
  have all : ∀ l : List Nat, RpL K ρ H (l.map fun k => .int (i + (k : Nat))) (l.map fun k => V.int (i + (k : Nat))) := by
    intro l
    induction l with
    | nil => rfl
    | cons k l ih => exact ⟨_, _, rfl, rfl, ih⟩
  exact all _
section
variable {X : Cx} {E : XK} {a b : Expr} {f g : FE} {p p2 pos pos2 : Pos}
theorem rg2_ {K : PySem.W.Frag} {σ : L2.St} {H : Hp} {Q : VK} {k : Int → Int → AH → Res D} {R : Int → Int → Hp → Prop} (h : tA K E (rgD f g k) σ H Q) (m : ∀ i j ρ A H, Rel K ρ H A → OutE K E ρ H (k i j A) Q → R i j H) : tRg2 (tA K E f) (tA K E g) σ H R := by
  obtain ⟨ρ, s, A, hs, Rl, h⟩ := h
  refine ⟨ρ, s, A, hs, Rl, (Out.bind h).mono fun x H1 ⟨ρ1, d, A1, _, e1, R1, r1, h1⟩ => ⟨ρ1, s, A1, hs.ext e1, R1, (Out.bind h1).mono fun y H2 ⟨ρ2, d2, A2, _, e2, R2, r2, h2⟩ => ?_⟩⟩
  split at h2
  · cases r1; cases r2
    exact ⟨_, _, rfl, rfl, m _ _ ρ2 A2 H2 R2 h2⟩
  · exact h2.elim
theorem ae_tupRg2 (hc : X.calm = true) (hg : Gl X "tuple") (hm : X.mg "tuple" = none) (hg2 : Gl X "range") (hm2 : X.mg "range" = none) (ha : AE X E a f) (hb : AE X E b g) (na : starEach [a, b] X.env = (false, eval a X.env) :: starEach [b] X.env := by rfl)
    (nb : starEach [b] X.env = (false, eval b X.env) :: starEach [] X.env := by rfl) (hp : (backTo pos2 (starEach [b] X.env)).any (·.1) = false := by rfl) (nr : starEach [.Call (.Name "range" p2) [a, b] [] pos2] X.env = (false, eval (.Call (.Name "range" p2) [a, b] [] pos2) X.env) :: starEach [] X.env := by rfl) :
    AE X E (.Call (.Name "tuple" p) [.Call (.Name "range" p2) [a, b] [] pos2] [] pos) (rgD f g rgTup) := pe_mono (pe_tupRg hc hg hm (prg_2 hg2 hm2 ha hb na nb hp) nr) fun σ H Q h => rg2_ h fun i j ρ A H R h => by
  unfold rgTup at h
  split at h
  · rename_i z
    exact ⟨z, new_tup R (rng_rel i j) h⟩
  · exact h.elim
theorem ae_lstRg2 (hc : X.calm = true) (hg : Gl X "list") (hm : X.mg "list" = none) (hg2 : Gl X "range") (hm2 : X.mg "range" = none) (ha : AE X E a f) (hb : AE X E b g) (na : starEach [a, b] X.env = (false, eval a X.env) :: starEach [b] X.env := by rfl)
    (nb : starEach [b] X.env = (false, eval b X.env) :: starEach [] X.env := by rfl) (hp : (backTo pos2 (starEach [b] X.env)).any (·.1) = false := by rfl) (nr : starEach [.Call (.Name "range" p2) [a, b] [] pos2] X.env = (false, eval (.Call (.Name "range" p2) [a, b] [] pos2) X.env) :: starEach [] X.env := by rfl) :
    AE X E (.Call (.Name "list" p) [.Call (.Name "range" p2) [a, b] [] pos2] [] pos) (rgD f g rgLst) := pe_mono (pe_listRg hc hg hm (prg_2 hg2 hm2 ha hb na nb hp) nr) fun σ H Q h => rg2_ h fun i j ρ A H R h => by
  unfold rgLst at h
  split at h
  · rename_i z
    exact ⟨z, new_lst R (rng_rel i j) h⟩
  · exact h.elim
theorem rg1_ {K : PySem.W.Frag} {σ : L2.St} {H : Hp} {Q : VK} {k : Int → Int → AH → Res D} {R : Int → Int → Hp → Prop} (h : tA K E (rgD (fC (.int 0)) f k) σ H Q) (m : ∀ i j ρ A H, Rel K ρ H A → OutE K E ρ H (k i j A) Q → R i j H) : tRg1 (tA K E f) σ H R := by
  obtain ⟨ρ, s, A, hs, Rl, h⟩ := h
  refine ⟨ρ, s, A, hs, Rl, (Out.bind (show OutE K E ρ H ((f s A).bind fun e A2 => match D.int 0, e with | .int i, .int j => k i j A2 | _, _ => .bad) Q from h)).mono fun x H1 ⟨ρ1, d, A1, _, e1, R1, r1, h1⟩ => ?_⟩
  split at h1
  · rename_i i j e0 e1
    cases e0
    cases r1
    exact ⟨_, rfl, m _ _ ρ1 A1 H1 R1 h1⟩
  · exact h1.elim
theorem ae_tupRg1 (hc : X.calm = true) (hg : Gl X "tuple") (hm : X.mg "tuple" = none) (hg2 : Gl X "range") (hm2 : X.mg "range" = none) (ha : AE X E a f) (na : starEach [a] X.env = (false, eval a X.env) :: starEach [] X.env := by rfl)
    (nr : starEach [.Call (.Name "range" p2) [a] [] pos2] X.env = (false, eval (.Call (.Name "range" p2) [a] [] pos2) X.env) :: starEach [] X.env := by rfl) :
    AE X E (.Call (.Name "tuple" p) [.Call (.Name "range" p2) [a] [] pos2] [] pos) (rgD (fC (.int 0)) f rgTup) := pe_mono (pe_tupRg hc hg hm (prg_1 hg2 hm2 ha na) nr) fun σ H Q h => rg1_ h fun i j ρ A H R h => by
  unfold rgTup at h
  split at h
  · rename_i z
    exact ⟨z, new_tup R (rng_rel i j) h⟩
  · exact h.elim
theorem ae_lstRg1 (hc : X.calm = true) (hg : Gl X "list") (hm : X.mg "list" = none) (hg2 : Gl X "range") (hm2 : X.mg "range" = none) (ha : AE X E a f) (na : starEach [a] X.env = (false, eval a X.env) :: starEach [] X.env := by rfl)
    (nr : starEach [.Call (.Name "range" p2) [a] [] pos2] X.env = (false, eval (.Call (.Name "range" p2) [a] [] pos2) X.env) :: starEach [] X.env := by rfl) :
    AE X E (.Call (.Name "list" p) [.Call (.Name "range" p2) [a] [] pos2] [] pos) (rgD (fC (.int 0)) f rgLst) := pe_mono (pe_listRg hc hg hm (prg_1 hg2 hm2 ha na) nr) fun σ H Q h => rg1_ h fun i j ρ A H R h => by
  unfold rgLst at h
  split at h
  · rename_i z
    exact ⟨z, new_lst R (rng_rel i j) h⟩
  · exact h.elim
end

/-! ## enumerate, zip -/
theorem enumL_get : ∀ (k i : Nat) (ds : List D), (enumL k ds)[i]? = (ds[i]?).map fun d => .tup [.int ((k + i : Nat)), d]
  | k, i, [] => by simp [enumL]
  | k, 0, d :: ds => by simp [enumL]
  | k, i + 1, d :: ds => by
    show (enumL (k + 1) ds)[i]? = (ds[i]?).map _
    rw [enumL_get (k + 1) i ds]
    congr 1
    funext d
    rw [show k + 1 + i = k + (i + 1) by omega]
theorem enumL_len : ∀ (k : Nat) (ds : List D), (enumL k ds).length = ds.length
  | k, [] => rfl
  | k, d :: ds => by simp [enumL, enumL_len (k + 1) ds]
theorem zipD_get : ∀ (i : Nat) (as bs : List D) (d : D), (zipD as bs)[i]? = some d ↔ ∃ a b, as[i]? = some a ∧ bs[i]? = some b ∧ d = .tup [a, b]
  | i, [], bs, d => by simp [zipD]
  | i, a :: as, [], d => by simp [zipD]
  | 0, a :: as, b :: bs, d => by simp [zipD, eq_comm]
  | i + 1, a :: as, b :: bs, d => by
    show (zipD as bs)[i]? = some d ↔ _
    rw [zipD_get i as bs d]
    simp
theorem zipD_len : ∀ (as bs : List D), (zipD as bs).length = min as.length bs.length
  | [], bs => by simp [zipD]
  | a :: as, [] => by simp [zipD]
  | a :: as, b :: bs => by simp [zipD, zipD_len as bs, Nat.succ_min_succ]
noncomputable def fZip (f g : FE) : FI := fun s A => (f s A).bind fun d A1 => (g s A1).bind fun e A2 => match d, e with
  | .tup xs, .tup ys => .ok ⟨zipD xs ys, yes⟩ A2
  | .ref m, .ref n => match rdL A2 (.ref m), rdL A2 (.ref n) with
    | some xs, some ys => .ok ⟨zipD xs ys, fun A' => rdL A' (.ref m) = some xs ∧ rdL A' (.ref n) = some ys⟩ A2
    | _, _ => .bad
  | _, _ => .bad
section
variable {K : PySem.W.Frag} {ρ : List Addr} {H : Hp}
theorem pair_new {ρ' : List Addr} {H' : Hp} {A : AH} {T : Addr} {x y : V} {d e : D} (R : Rel K ρ' H' A) (hT : H' T = none) (r1 : Rp K ρ' H' d x) (r2 : Rp K ρ' H' e y) :
    Ext K ρ' H' ρ' (L2.upd H' T (.tup [x, y])) ∧ Rel K ρ' (L2.upd H' T (.tup [x, y])) A ∧ Rp K ρ' (L2.upd H' T (.tup [x, y])) (.tup [d, e]) (.ref T) := by
  have ex : Ext K ρ' H' ρ' (L2.upd H' T (.tup [x, y])) := Ext.new0 hT
  exact ⟨ex, R.new0 hT, T, [x, y], rfl, .inl (.inl upd_same), x, [y], rfl, r1.ext ex, y, [], rfl, r2.ext ex, rfl⟩
theorem ite_rel {a : Addr} {n : Nat} {ds : List D} (ha : ρ[n]? = some a) : ItRel K (Ite K a) ρ H ⟨enumL 0 ds, fun A => rdL A (.ref n) = some ds⟩ := fun i ρ' H' A e R ok => by
  have ha' := e.at_ ha
  obtain ⟨b, xs, eb, h', r'⟩ := rdL_ok R (show Rp K ρ' H' (.ref n) (.ref a) from ⟨a, ha', rfl⟩) ok
  cases eb
  refine ⟨fun d hd => ?_, fun hl _ => ⟨xs, h', by rw [r'.length]; rw [show (Src.items ⟨enumL 0 ds, fun A => rdL A (.ref n) = some ds⟩).length = ds.length from enumL_len 0 ds] at hl; exact hl⟩⟩
  have hd : (enumL 0 ds)[i]? = some d := hd
  rw [enumL_get] at hd
  cases ei : ds[i]? with
  | none => rw [ei] at hd; cases hd
  | some d0 =>
    rw [ei] at hd
    cases hd
    obtain ⟨v, q1, q2⟩ := r'.get ei
    refine ⟨⟨xs, v, h', q1⟩, fun x H2 hy => ?_⟩
    obtain ⟨T, w, rfl, hT, rfl, fv⟩ := hy
    have := fv _ h'
    rw [q1] at this; cases this
    rw [Nat.zero_add]
    exact pair_new R hT rfl q2
theorem itz_rel {a b : Addr} {m n : Nat} {ds es : List D} (ha : ρ[m]? = some a) (hb : ρ[n]? = some b) : ItRel K (Itz K a b) ρ H ⟨zipD ds es, fun A => rdL A (.ref m) = some ds ∧ rdL A (.ref n) = some es⟩ := fun i ρ' H' A e R ok => by
  obtain ⟨c, xs, eb, h1, r1⟩ := rdL_ok R (show Rp K ρ' H' (.ref m) (.ref a) from ⟨a, e.at_ ha, rfl⟩) ok.1
  cases eb
  obtain ⟨c, ys, eb, h2, r2⟩ := rdL_ok R (show Rp K ρ' H' (.ref n) (.ref b) from ⟨b, e.at_ hb, rfl⟩) ok.2
  cases eb
  refine ⟨fun d hd => ?_, fun hl _ => ⟨xs, ys, h1, h2, by
    have hl : (zipD ds es).length ≤ i := hl
    rw [r1.length, r2.length]; rw [zipD_len] at hl; omega⟩⟩
  obtain ⟨d1, d2, q1, q2, rfl⟩ := (zipD_get i ds es d).mp hd
  obtain ⟨v, q3, q4⟩ := r1.get q1
  obtain ⟨w, q5, q6⟩ := r2.get q2
  refine ⟨⟨xs, ys, v, w, h1, h2, q3, q5⟩, fun x H2 hy => ?_⟩
  obtain ⟨T, x1, y1, rfl, hT, rfl, f1, f2⟩ := hy
  have z1 := f1 _ h1
  have z2 := f2 _ h2
  rw [q3] at z1; cases z1
  rw [q5] at z2; cases z2
  exact pair_new R hT q4 q6
theorem itzT_rel {a b : Addr} {xs ys : List V} {ds es : List D} (h1 : SqT K H a xs) (r1 : RpL K ρ H ds xs) (h2 : SqT K H b ys) (r2 : RpL K ρ H es ys) : ItRel K (RZ.ItzT K a b) ρ H ⟨zipD ds es, yes⟩ := fun i ρ' H' A e R ok => by
  have h1 := e.gr _ _ h1
  have h2 := e.gr _ _ h2
  have r1 := r1.ext e
  have r2 := r2.ext e
  refine ⟨fun d hd => ?_, fun hl _ => ⟨xs, ys, h1, h2, by
    have hl : (zipD ds es).length ≤ i := hl
    rw [r1.length, r2.length]; rw [zipD_len] at hl; omega⟩⟩
  obtain ⟨d1, d2, q1, q2, rfl⟩ := (zipD_get i ds es d).mp hd
  obtain ⟨v, q3, q4⟩ := r1.get q1
  obtain ⟨w, q5, q6⟩ := r2.get q2
  refine ⟨⟨xs, ys, v, w, h1, h2, q3, q5⟩, fun x H2 hy => ?_⟩
  obtain ⟨T, x1, y1, rfl, hT, rfl, f1, f2⟩ := hy
  have z1 := f1 _ h1
  have z2 := f2 _ h2
  rw [q3] at z1; cases z1
  rw [q5] at z2; cases z2
  exact pair_new R hT q4 q6
end
section
variable {X : Cx} {E : XK} {e e2 : Expr} {f g : FE} {p pos tpos : Pos} {elts : List Expr} {kk : Nat}
theorem ai_enum (hg : Gl X "enumerate") (hm : X.mg "enumerate" = none) (he : AE X E e f) (h1 : starEach [e] X.env = (false, eval e X.env) :: starEach [] X.env := by rfl) : AI X E (.Tuple elts kk tpos) (.Call (.Name "enumerate" p) [e] [] pos) (fEnum f) := pi_mono (pi_enum (hs := h1) hg hm (aa_cons he aa_nil h1)) fun σ H Q h => by
  obtain ⟨ρ, s, A, hs, R, h⟩ := h
  have ef : fEnum f s A = (fCons f fNil s A).bind fun ds A1 => match ds with
      | [d] => match rdL A1 d with
        | some ds => .ok ⟨enumL 0 ds, fun A' => rdL A' d = some ds⟩ A1
        | none => .bad
      | _ => .bad := by
    unfold fEnum fCons fNil
    cases f s A with
    | bad => rfl
    | exc _ _ _ => rfl
    | ok d A1 => rfl
  rw [ef] at h
  refine ⟨ρ, s, A, hs, R, (Out.bindI h).mono fun xs H1 ⟨ρ1, ds, A1, _, e1, R1, r1, h1⟩ => ?_⟩
  split at h1
  · split at h1
    · rename_i d _ _ ds' e4
      obtain ⟨x, rfl, r2⟩ := r1.one_inv
      cases d with
      | ref n =>
        obtain ⟨a, us, rfl, q1, q2⟩ := rdL_ok R1 r2 e4
        obtain ⟨b, hb, eb⟩ := r2
        cases eb
        exact ⟨a, us, rfl, q1, h1 ρ1 H1 _ .refl R1 (ite_rel hb)⟩
      | _ => cases e4
    · exact h1.elim
  · exact h1.elim
theorem ai_zip (hg : Gl X "zip") (hm : X.mg "zip" = none) (he : AE X E e f) (he2 : AE X E e2 g) (h1 : starEach [e, e2] X.env = (false, eval e X.env) :: starEach [e2] X.env := by rfl) (h2 : starEach [e2] X.env = (false, eval e2 X.env) :: starEach [] X.env := by rfl) (hpl : (backTo pos (starEach [e2] X.env)).any (·.1) = false := by rfl) :
    AI X E (.Tuple elts kk tpos) (.Call (.Name "zip" p) [e, e2] [] pos) (fZip f g) := pi_mono (RZ.pi_zipA (hs := h1) (hpl := hpl) hg hm (aa_cons he (aa_cons he2 aa_nil h2) h1)) fun σ H Q h => by
  obtain ⟨ρ, s, A, hs, R, h⟩ := h
  have ef : fZip f g s A = (fCons f (fCons g fNil) s A).bind fun ds A2 => match ds with
      | [.tup xs, .tup ys] => .ok ⟨zipD xs ys, yes⟩ A2
      | [.ref m, .ref n] => match rdL A2 (.ref m), rdL A2 (.ref n) with
        | some xs, some ys => .ok ⟨zipD xs ys, fun A' => rdL A' (.ref m) = some xs ∧ rdL A' (.ref n) = some ys⟩ A2
        | _, _ => .bad
      | _ => .bad := by
    unfold fZip fCons
    cases f s A with
    | bad => rfl
    | exc _ _ _ => rfl
    | ok d A1 =>
      show (g s A1).bind _ = Res.bind (Res.bind (fCons g fNil s A1) _) _
      unfold fCons fNil
      cases g s A1 with
      | bad => rfl
      | exc _ _ _ => rfl
      | ok d' A2 => cases d <;> cases d' <;> rfl
  rw [ef] at h
  refine ⟨ρ, s, A, hs, R, (Out.bindI h).mono fun xs H1 ⟨ρ1, ds, A1, _, e1, R1, r1, h1⟩ => ?_⟩
  split at h1
  · obtain ⟨x, y, rfl, r2, r3⟩ := r1.two_inv
    obtain ⟨a, us, rfl, q1, q2⟩ := r2
    obtain ⟨b, ws, rfl, q3, q4⟩ := r3
    exact ⟨a, b, us, ws, rfl, .inr ⟨q1, q3, h1 ρ1 H1 _ .refl R1 (itzT_rel q1 q2 q3 q4)⟩⟩
  · split at h1
    · rename_i m n _ xs' ys' e4 e5
      obtain ⟨x, y, rfl, r2, r3⟩ := r1.two_inv
      obtain ⟨a, us, rfl, q1, q2⟩ := rdL_ok R1 r2 e4
      obtain ⟨b, ws, rfl, q3, q4⟩ := rdL_ok R1 r3 e5
      obtain ⟨a', ha, ea⟩ := r2
      cases ea
      obtain ⟨b', hb, eb⟩ := r3
      cases eb
      exact ⟨a, b, us, ws, rfl, .inl ⟨q1, q3, h1 ρ1 H1 _ .refl R1 (itz_rel ha hb)⟩⟩
    · exact h1.elim
  · exact h1.elim
end

/-! ## dict displays: the new dict is a cell from the start -/
abbrev FP := ASt → AH → Res (List (Key × D))
def fPs : List (FE × FE) → FP
  | [], _, A => .ok [] A
  | (k, v) :: r, s, A => (k s A).bind fun kd A1 => (v s A1).bind fun vd A2 => match keyOf kd with
    | some key => (fPs r s A2).bind fun ps A3 => .ok ((key, vd) :: ps) A3
    | none => .bad
def mergeD (kvs more : List (Key × D)) : List (Key × D) := more.foldl (fun acc kv => setK acc kv.1 kv.2) kvs
def fDisp (ps : List (FE × FE)) : FE := fun s A => (fPs ps s (A ++ [.dic []])).bind fun kds A1 => match A1[A.length]? with
  | some (.dic []) => if kds.length ≤ 15 then .ok (.ref A.length) (A1.set A.length (.dic (mergeD [] kds))) else .bad
  | _ => .bad
def fDict0 : FE := fun _ A => alloc (.dic []) A
inductive APs (X : Cx) (E : XK) (pos : Pos) : List (Option Expr) → List Expr → List (FE × FE) → Prop where
  | nil : APs X E pos [] [] []
  | cons {k v : Expr} {f g : FE} {ks : List (Option Expr)} {vs : List Expr} {fs : List (FE × FE)} (h : AE X E k f) (h' : AE X E v g) (r : APs X E pos ks vs fs) : APs X E pos (some k :: ks) (v :: vs) ((f, g) :: fs)
section
variable {X : Cx} {E : XK} {pos : Pos} {ks : List (Option Expr)} {vs : List Expr} {fs : List (FE × FE)}
theorem APs.pp (h : APs X E pos ks vs fs) : PPs X pos ks vs (fs.map fun p => (tA X.K E p.1, tA X.K E p.2)) := by
  induction h with
  | nil => exact pps_nil
  | cons h h' _ ih => exact pps_cons h h' ih
theorem mergeD_ok {K : PySem.W.Frag} {ρ : List Addr} {H : Hp} : ∀ {more : List (Key × D)} {mu : List (Key × V)} {kvs : List (Key × D)} {us : List (Key × V)}, RpK K ρ H more mu → RpK K ρ H kvs us → RpK K ρ H (mergeD kvs more) (mergeK us mu)
  | [], mu, kvs, us, h, q => by rw [show mu = [] from h]; exact q
  | p :: ps, mu, kvs, us, h, q => by
    obtain ⟨v, r, rfl, h2, h3⟩ := h
    exact mergeD_ok (more := ps) (mu := r) h3 (setK_ok (k := p.1) q h2)
abbrev OutP (K : PySem.W.Frag) (E : XK) := Out (α := List (Key × D)) (β := List (Key × V)) K E (fun ρ H d v => RpK K ρ H d v)
theorem ps_read {K : PySem.W.Frag} {σ : L2.St} : ∀ (fs : List (FE × FE)) (ρ : List Addr) (s : ASt) (A : AH) (H : Hp) (Q : List (Key × V) → Hp → Prop) (Q' : List (V × V) → Hp → Prop), (∀ us H', Q us H' → Q' (us.map fun kv => (kV kv.1, kv.2)) H') → SRel K ρ H s σ → Rel K ρ H A → OutP K E ρ H (fPs fs s A) Q →
    tPairs (fs.map fun p => (tA K E p.1, tA K E p.2)) σ H Q'
  | [], ρ, s, A, H, Q, Q', m, hs, R, h => m [] H (Out.now h R rfl)
  | p :: fs, ρ, s, A, H, Q, Q', m, hs, R, h => by
    refine ⟨ρ, s, A, hs, R, (Out.bind h).mono fun x H1 ⟨ρ1, d, A1, _, e1, R1, r1, h1⟩ => ⟨ρ1, s, A1, hs.ext e1, R1, (Out.bind h1).mono fun y H2 ⟨ρ2, d2, A2, _, e2, R2, r2, h2⟩ => ?_⟩⟩
    split at h2
    · rename_i key ek
      have ex := keyOf_ok (r1.ext e2) ek
      subst ex
      refine ps_read fs ρ2 s A2 H2 (fun us H3 => Q ((key, y) :: us) H3) _ (fun us H' q => m _ H' q) (hs.ext (e1.trans e2)) R2 ((Out.bind h2).mono fun us H3 ⟨ρ3, ps, A3, _, e3, R3, r3, h3⟩ => ?_)
      exact Out.now h3 R3 ⟨y, us, rfl, r2.ext e3, r3⟩
    · exact h2.elim
theorem ae_disp (h : APs X E pos ks vs fs) (hall : ks.all (·.isSome) = true := by rfl) (hl : ks.length = vs.length := by rfl) (h0 : ks ≠ [] := by exact fun z => nomatch z) (h15 : ks.length ≤ 15 := by decide) : AE X E (.Dict ks vs pos) (fDisp fs) := pe_mono (pe_disp h.pp hall hl h0 h15) fun σ H Q h => by
  obtain ⟨ρ, s, A, hs, R, h⟩ := h
  intro p hp
  have e0 : Ext X.K ρ H (ρ ++ [p]) (L2.upd H p (.dK [])) := Ext.new hp [p]
  have R0 : Rel X.K (ρ ++ [p]) (L2.upd H p (.dK [])) (A ++ [.dic []]) := R.new hp ⟨[], upd_same, rfl⟩
  have np : (ρ ++ [p])[A.length]? = some p := by rw [← R.len]; simp
  have h := Out.ext h e0
  refine ps_read fs (ρ ++ [p]) s (A ++ [.dic []]) _ (fun us H2 => H2 p = some (.dK []) ∧ us.length ≤ 15 ∧ Q (.ref p) (L2.upd H2 p (.dK (mergeK [] us)))) _ (fun us H' q => ⟨q.1, us, rfl, q.2⟩) (hs.ext e0) R0 ((Out.bind h).mono fun us H3 ⟨ρ3, kds, A3, _, e3, R3, r3, h3⟩ => ?_)
  split at h3
  · rename_i eA
    split at h3
    · rename_i z
      obtain ⟨a, ha, us0, q1, q2⟩ := R3.ob _ _ eA
      rw [e3.at_ np] at ha; cases ha
      rw [show us0 = [] from q2] at q1
      have u := upd_dic R3 (e3.at_ np) eA q1 (mergeD_ok (more := kds) (mu := us) (kvs := []) (us := []) r3 rfl)
      exact ⟨q1, by rw [r3.length]; exact z, h3 ρ3 _ (.ref p) u.1 u.2 ⟨p, e3.at_ np, rfl⟩⟩
    · exact h3.elim
  · exact h3.elim
theorem ae_dict0 : AE X E (.Dict [] [] pos) fDict0 := pe_mono pe_dnewK fun σ H Q h => by
  obtain ⟨ρ, s, A, hs, R, h⟩ := h
  exact new_dic (kvs := []) (us := []) R rfl h
end

/-! ## the law's own end -/
theorem sp_law {m : FM} (h : ∀ ns : List Int, ns.length ≤ 63 → ∃ A', m [.ref 0] [.frz (ns.map D.int)] = .ok (.bl true) A') :
    ∀ (K : PySem.W.Frag) (H : Hp) (a : Addr) (ns : List Int), ns.length ≤ 63 → Only H → SqL K H a (ns.map V.int) → spM K 1 m [.ref a] H (fun v _ => v = .bl true) fun _ _ _ => False := fun K H a ns hl hO hS => by
  obtain ⟨A', e⟩ := h ns hl
  have rl : ∀ l : List Int, RpL K [a] H (l.map D.int) (l.map V.int) := by
    intro l
    induction l with
    | nil => rfl
    | cons k l ih => exact ⟨_, _, rfl, rfl, ih⟩
  have f : SqF K H a (ns.map V.int) := by
    rcases hS with (hS | ⟨o, hS⟩) | hS
    · rcases hO a with z | ⟨o, xs, z⟩
      · rw [hS] at z; cases z
      · rw [hS] at z; cases z
    · exact .inl ⟨o, hS⟩
    · exact .inr (.inr hS)
  have R : Rel K [a] H [.frz (ns.map D.int)] := ⟨rfl, fun i j b o u h1 h2 h3 h4 f1 _ => by
    have hi : i = 0 := by have := (List.getElem?_eq_some_iff.mp h3).1; simp at this; exact this
    subst hi
    cases h3
    exact Bool.noConfusion f1, fun i o hi => by
    have hi0 : i = 0 := by have := (List.getElem?_eq_some_iff.mp hi).1; simp at this; exact this
    subst hi0
    cases hi
    exact ⟨a, rfl, _, f, rl ns⟩⟩
  refine ⟨[a], _, [.ref 0], R, ⟨_, [], rfl, ⟨a, rfl, rfl⟩, rfl⟩, rfl, ?_⟩
  rw [e]
  exact fun ρ' H' v _ _ r => r
end Ab
namespace Ab
open PySem PySem.Spec PyProof.Rows L2
section
variable {P : Program} {w : World} {K : PySem.W.Frag} {mg : Str → Option Value} {base : Heap} {k : Nat} {f : Addr} {fd : FuncData} {ps : List Str} {m : FM}
theorem adef_bad : ADef P w K mg base k f fd ps (fun _ _ => .bad) := by
  have no : ∀ vs H Q E, ¬ spM K ps.length (fun _ _ => .bad) vs H Q E := fun vs H Q E ⟨ρ, A, ds, R, r, z, q⟩ => q
  exact ⟨fun vs H Q E h => absurd h (no vs H Q E), fun A outer s H args us vs Q E _ _ _ _ h => absurd h (no vs H Q E)⟩
theorem adef_up {n L : Nat} (h : ADef P w K mg base (n + L + 1) f fd ps m) : ADef P w K mg base (n + 1 + L) f fd ps m := FnOk.mono h (by omega)
theorem u65 {A : Around} (hr : Room k A) : A.units + 65 < cLine := by have := hr.un; omega
end
end Ab

namespace Ab
open PySem PySem.Spec PyProof.Rows L2

/-! ## list.index of a plain value that is there -/
section
variable {X : Cx} {E : XK}
def firstV (y : V) : List V → Nat → Option Nat
  | [], _ => none
  | z :: zs, k => if eqV z y = true then some k else firstV y zs (k + 1)
theorem firstV_ok {y : V} : ∀ {zs : List V} {k j : Nat}, firstV y zs k = some j → ∃ i z, j = k + i ∧ zs[i]? = some z ∧ eqV z y = true ∧ ∀ (m : Nat) (z' : V), m < i → zs[m]? = some z' → eqV z' y = false
  | [], k, j, h => by cases h
  | z :: zs, k, j, h => by
    rw [firstV] at h
    split at h
    · rename_i e
      cases h
      exact ⟨0, z, rfl, rfl, e, fun m z' hm _ => absurd hm (Nat.not_lt_zero _)⟩
    · rename_i e
      obtain ⟨i, w, h1, h2, h3, h4⟩ := firstV_ok h
      refine ⟨i + 1, w, by omega, by simpa using h2, h3, fun m z' hm hz => ?_⟩
      cases m with
      | zero => cases hz; simpa using e
      | succ m => exact h4 m z' (by omega) (by simpa using hz)
def indexD (d : D) : FM
  | [y], A => match rdL A d with
    | some xs => match toV y, toVs xs with
      | some v, some vs => match firstV v vs 0 with
        | some j => .ok (.int (j : Nat)) A
        | none => .bad
      | _, _ => .bad
    | none => .bad
  | _, _ => .bad
theorem amt_index : AMt X E "list.index" indexD := mtm_mono mt_index fun x xs H Q h => by
  obtain ⟨ρ, A, d, ds, R, r, rs, h⟩ := h
  unfold indexD at h
  split at h
  · split at h
    · rename_i xs' eX
      split at h
      · rename_i v vs e1 e2
        split at h
        · rename_i j ej
          obtain ⟨a, us, rfl, q1, q2⟩ := rdL_ok R r eX
          obtain ⟨y, rfl, ry⟩ := rs.one_inv
          obtain ⟨rfl, fv⟩ := toV_ok ry e1
          obtain ⟨rfl, fvs⟩ := toVs_ok q2 e2
          obtain ⟨i, z, h1, h2, h3, h4⟩ := firstV_ok ej
          rw [Nat.zero_add] at h1
          subst h1
          exact ⟨a, us, y, j, z, rfl, rfl, q1, fv, fvs, h2, h3, h4, h.now R rfl⟩
        · exact h.elim
      · exact h.elim
    · exact h.elim
  · exact h.elim

/-! ## == and != of two dicts that are alike -/
def alike (ks ls : List (Key × D)) : Prop := ks.length = ls.length ∧ ∀ p ∈ ks, ∃ v, toV p.2 = some v ∧ ∃ d, getK ls p.1 = some d ∧ toV d = some v
theorem alike_ok {K : PySem.W.Frag} {ρ : List Addr} {H : Hp} {ks ls : List (Key × D)} {us vs : List (Key × V)} (h : alike ks ls) (r1 : RpK K ρ H ks us) (r2 : RpK K ρ H ls vs) :
    us.length = vs.length ∧ ∀ p ∈ us, valV vs p.1 = some p.2 ∧ flatB p.2 = true := by
  refine ⟨by rw [r1.length, r2.length]; exact h.1, ?_⟩
  have all : ∀ {ks : List (Key × D)} {us : List (Key × V)}, RpK K ρ H ks us → (∀ p ∈ ks, ∃ v, toV p.2 = some v ∧ ∃ d, getK ls p.1 = some d ∧ toV d = some v) → ∀ p ∈ us, valV vs p.1 = some p.2 ∧ flatB p.2 = true := by
    intro ks
    induction ks with
    | nil => intro us r _ p hp; rw [show us = [] from r] at hp; cases hp
    | cons k ks ih =>
      intro us r hk p hp
      obtain ⟨v, q, rfl, h2, h3⟩ := r
      rcases List.mem_cons.mp hp with e | e
      · subst e
        obtain ⟨w, t1, d, g, t2⟩ := hk k (List.mem_cons_self ..)
        obtain ⟨rfl, fv⟩ := toV_ok h2 t1
        have z := getK_ok (k := k.1) r2
        rw [g] at z
        obtain ⟨w, z1, z2⟩ := z
        obtain ⟨rfl, _⟩ := toV_ok z2 t2
        refine ⟨z1, ?_⟩
        show flatB w = true
        cases w <;> first | rfl | cases fv
      · exact ih h3 (fun p hp => hk p (List.mem_cons_of_mem _ hp)) p e
  exact all r1 h.2
open scoped Classical in
noncomputable def eqX (d e : D) (A : AH) : Res D := match rdK A d, rdK A e with
  | some ks, some ls => if alike ks ls then .ok (.bl true) A else .bad
  | _, _ => .bad
open scoped Classical in
noncomputable def neX (d e : D) (A : AH) : Res D := match rdK A d, rdK A e with
  | some ks, some ls => if alike ks ls then .ok (.bl false) A else .bad
  | _, _ => .bad
theorem aop_eqX (hu : X.A.units + 64 < cLine) : AOp X E (compareOp .Eq) eqX := op_mono (op_eq_dictA (by omega)) fun x y H Q h => by
  obtain ⟨ρ, A, d, e, R, r1, r2, h⟩ := h
  unfold eqX at h
  split at h
  · split at h
    · rename_i ks ls e1 e2 z
      obtain ⟨i, a, us, rfl, rfl, _, _, q1, q2⟩ := rdK_ok R r1 e1
      obtain ⟨j, b, vs, rfl, rfl, _, _, q3, q4⟩ := rdK_ok R r2 e2
      have w := alike_ok z q2 q4
      exact ⟨a, b, us, vs, rfl, rfl, q1, q3, w.1, w.2, h.now R rfl⟩
    · exact h.elim
  · exact h.elim
theorem aop_neX (hu : X.A.units + 64 < cLine) : AOp X E (compareOp .NotEq) neX := op_mono (op_ne_dictA (by omega)) fun x y H Q h => by
  obtain ⟨ρ, A, d, e, R, r1, r2, h⟩ := h
  unfold neX at h
  split at h
  · split at h
    · rename_i ks ls e1 e2 z
      obtain ⟨i, a, us, rfl, rfl, _, _, q1, q2⟩ := rdK_ok R r1 e1
      obtain ⟨j, b, vs, rfl, rfl, _, _, q3, q4⟩ := rdK_ok R r2 e2
      have w := alike_ok z q2 q4
      exact ⟨a, b, us, vs, rfl, rfl, q1, q3, w.1, w.2, h.now R rfl⟩
    · exact h.elim
  · exact h.elim

/-! ## d.update(e) -/
def mergeV (kvs more : List (Key × V)) : List (Key × V) := more.foldl (fun acc kv => putK acc kv.1 kv.2) kvs
theorem merged_kv : ∀ {more : List (Key × V)} {mu : List (Key × Value)} {kvs : List (Key × V)} {us : List (Key × Value)}, KV more mu → KV kvs us → KV (mergeV kvs more) (merged us mu)
  | _, _, kvs, us, .nil, q => q
  | _, _, kvs, us, @Paired.cons _ _ _ p u ps qs h t, q => by
    obtain ⟨h1, h2⟩ := h
    have := merged_kv t (q.put p.1 h2)
    rw [h1] at this
    show KV (mergeV (putK kvs p.1 p.2) ps) (merged (stored us u.1 u.2) qs)
    rw [← h1] at this ⊢
    exact this
theorem length_mergeV : ∀ (more kvs : List (Key × V)), (mergeV kvs more).length ≤ kvs.length + more.length
  | [], kvs => Nat.le_refl _
  | p :: ps, kvs => by
    have h1 := length_mergeV ps (putK kvs p.1 p.2)
    have h2 := length_putK kvs p.1 p.2
    show (mergeV (putK kvs p.1 p.2) ps).length ≤ _
    rw [List.length_cons]
    omega
theorem mt_update : MtR X "dict.update" fun x xs H Q => ∃ (a b : Addr) (kvs more : List (Key × V)), x = .ref a ∧ xs = [.ref b] ∧ a ≠ b ∧ H a = some (.dK kvs) ∧ H b = some (.dK more) ∧ kvs.length + more.length ≤ sizeLine ∧ Q .non (upd H a (.dK (mergeV kvs more))) := by
  intro pins s σ H x xs v us Q I rx rxs h
  obtain ⟨a, b, kvs, more, rfl, rfl, hne, ea, eb, z, q⟩ := h
  obtain rfl : v = Value.ref a := rx
  rw [Vals.ref1 rxs]
  obtain ⟨_, hd, vs, rel, dd⟩ := dk_of I.hok ea
  obtain ⟨_, hd2, ws, rel2, dd2⟩ := dk_of I.hok eb
  refine call_meetsIn PySem.F.slot_dict_update dd.typeIs PySem.F.entry_dict_update (PySem.F.args_dict_update_2 _ _) (meets_dict_update (mixKind X.prog X.w) a b hne hd2)
    ⟨vs, ws, dd, dd2, by rw [← rel.length, ← rel2.length]; exact z, fun h' dd' _ hs => ?_⟩
  have he : ∃ q, h'.get? a = some q := let ⟨q, _, _, hq, _⟩ := dd'; ⟨q, hq⟩
  exact ⟨.non, _, d_write (t' := s.toks) I (by rw [ea]; exact True.intro) hs he (dk_new (Nat.le_trans (length_mergeV _ _) z) hd (merged_kv rel2 rel) dd'), rfl, q⟩
def updateD (d : D) : FM
  | [.ref j], A => match d with
    | .ref n => match A[n]?, A[j]? with
      | some (.dic ks), some (.dic ls) => if n ≠ j ∧ ks.length + ls.length ≤ sizeLine then .ok .non (A.set n (.dic (mergeD ks ls))) else .bad
      | _, _ => .bad
    | _ => .bad
  | _, _ => .bad
theorem merge_ok {K : PySem.W.Frag} {ρ : List Addr} {H : Hp} : ∀ {more : List (Key × D)} {mu : List (Key × V)} {kvs : List (Key × D)} {us : List (Key × V)}, RpK K ρ H more mu → RpK K ρ H kvs us → RpK K ρ H (mergeD kvs more) (mergeV us mu)
  | [], mu, kvs, us, h, q => by rw [show mu = [] from h]; exact q
  | p :: ps, mu, kvs, us, h, q => by
    obtain ⟨v, r, rfl, h2, h3⟩ := h
    exact merge_ok (more := ps) (mu := r) h3 (setK_ok (k := p.1) q h2)
theorem amt_update : AMt X E "dict.update" updateD := mtm_mono mt_update fun x xs H Q h => by
  obtain ⟨ρ, A, d, ds, R, r, rs, h⟩ := h
  unfold updateD at h
  split at h
  · rename_i j
    split at h
    · rename_i n
      split at h
      · rename_i ks ls e1 e2
        split at h
        · rename_i z
          obtain ⟨a, ha, rfl⟩ := r
          obtain ⟨a', ha', us, q1, q2⟩ := R.ob _ _ e1
          rw [ha] at ha'; cases ha'
          obtain ⟨y, rfl, ry⟩ := rs.one_inv
          obtain ⟨b, hb, rfl⟩ := ry
          obtain ⟨b', hb', ws, q3, q4⟩ := R.ob _ _ e2
          rw [hb] at hb'; cases hb'
          have hne : a ≠ b := fun e => z.1 (R.nd n j a _ _ ha (by rw [hb, e]) e1 e2 rfl rfl)
          have u := upd_dic R ha e1 q1 (merge_ok q4 q2)
          exact ⟨a, b, us, ws, rfl, rfl, hne, q1, q3, by rw [q2.length, q4.length]; exact z.2, h ρ _ .non u.1 u.2 rfl⟩
        · exact h.elim
      · exact h.elim
    · exact h.elim
  · exact h.elim
/-! ## xs.pop(i), i from the front -/
theorem RpL.eraseIdx {K : PySem.W.Frag} {ρ : List Addr} {H : Hp} : ∀ {ds : List D} {xs : List V} (k : Nat), RpL K ρ H ds xs → RpL K ρ H (ds.eraseIdx k) (xs.eraseIdx k)
  | [], xs, k, r => by rw [show xs = [] from r]; exact rfl
  | d :: ds, xs, 0, r => by obtain ⟨x, r', rfl, _, h⟩ := r; exact h
  | d :: ds, xs, k + 1, r => by obtain ⟨x, r', rfl, h1, h⟩ := r; exact ⟨x, _, rfl, h1, RpL.eraseIdx k h⟩
def popAtD (d : D) : FM
  | [.int i], A => match d with
    | .ref n => match A[n]? with
      | some (.lst xs) => if 0 ≤ i ∧ i < 2 ^ 62 then (match xs[i.toNat]? with
        | some y => .ok y (A.set n (.lst (xs.eraseIdx i.toNat)))
        | none => .bad) else .bad
      | _ => .bad
    | _ => .bad
  | _, _ => .bad
theorem amt_popAt : AMt X E "list.pop" popAtD := mtm_mono mt_popAt fun x xs H Q h => by
  obtain ⟨ρ, A, d, ds, R, r, rs, h⟩ := h
  unfold popAtD at h
  split at h
  · rename_i i
    split at h
    · split at h
      · split at h
        · rename_i xs' eA z
          split at h
          · rename_i y eY
            obtain ⟨a, ha, rfl⟩ := r
            obtain ⟨a', ha', us, q1, q2⟩ := R.ob _ _ eA
            rw [ha] at ha'; cases ha'
            obtain ⟨v, e1, e2⟩ := q2.get eY
            obtain ⟨w, rfl, rw'⟩ := rs.one_inv
            cases rw'
            have hl : i.toNat < us.length := (List.getElem?_eq_some_iff.mp e1).1
            have u := upd_lst (ds := xs') R ha eA q1 (RpL.eraseIdx i.toNat q2)
            exact ⟨a, us, i, i.toNat, v, rfl, rfl, q1, by omega, by omega, by unfold seqIndex?; simp; omega, e1, h ρ _ v u.1 u.2 (e2.ext u.1)⟩
          · exact h.elim
        · exact h.elim
      · exact h.elim
    · exact h.elim
  · exact h.elim
end
end Ab

namespace Ab
open PySem PySem.Spec PyProof.Rows L2
open scoped Classical

/-! ## reasoning about the functions: what an outcome satisfies -/
def Sat {α : Type} (r : Res α) (P : α → AH → Prop) : Prop := match r with
  | .ok a A => P a A
  | _ => False
section
variable {α β : Type} {r : Res α} {k : α → AH → Res β} {P Q : α → AH → Prop} {R : β → AH → Prop} {a : α} {A : AH} {c : Prop} {i : Decidable c}
theorem sat_ok : Sat (.ok a A) P = P a A := rfl
theorem sat_bad : Sat (.bad : Res α) P = False := rfl
theorem sat_bind : Sat (r.bind k) R = Sat r fun a A => Sat (k a A) R := by cases r <;> rfl
theorem sat_ite {x y : Res α} : Sat (if c then x else y) P = if c then Sat x P else Sat y P := by split <;> rfl
theorem Sat.imp (h : Sat r P) (q : ∀ a A, P a A → Q a A) : Sat r Q := by
  cases r with
  | ok a A => exact q a A h
  | _ => exact h
theorem Sat.eq (h : Sat r P) : ∃ a A, r = .ok a A ∧ P a A := by
  cases r with
  | ok a A => exact ⟨a, A, rfl, h⟩
  | _ => exact h.elim
theorem sat_of {a : α} {A : AH} (e : r = .ok a A) (h : P a A) : Sat r P := by rw [e]; exact h
theorem bind_ok : (Res.ok a A).bind k = k a A := rfl
theorem bind_bad : (Res.bad : Res α).bind k = .bad := rfl
end
/-- behind a statement -/
def thn_ (g : FS) (P : Fl → AH → Prop) : Fl → AH → Prop
  | .nx s, A => Sat (g s A) P
  | fl, A => P fl A
/-- at a body's end -/
def fin_ (P : D → AH → Prop) : Fl → AH → Prop
  | .rt d, A => P d A
  | .nx _, A => P .non A
  | _, _ => False
section
variable {f g h : FE} {fs : FA} {p q : FS} {c t u : FT} {gg : FG} {gs : FGs} {s : ASt} {A : AH} {P : Fl → AH → Prop} {Q : D → AH → Prop} {i n np : Nat} {d : D} {ds : List D} {m : FM} {go : D → D → AH → Res D} {gu : D → AH → Res D}
theorem ev_seq : Sat (fSeq p q s A) P = Sat (p s A) (thn_ q P) := by
  unfold fSeq
  cases p s A with
  | ok fl A1 => cases fl <;> rfl
  | _ => rfl
theorem thn_nx : thn_ q P (.nx s) A = Sat (q s A) P := rfl
theorem thn_rt : thn_ q P (.rt d) A = P (.rt d) A := rfl
theorem thn_bk : thn_ q P (.bk s) A = P (.bk s) A := rfl
theorem thn_ct : thn_ q P (.ct s) A = P (.ct s) A := rfl
theorem fin_rt : fin_ Q (.rt d) A = Q d A := rfl
theorem fin_nx : fin_ Q (.nx s) A = Q .non A := rfl
theorem ev_finish {r : Res Fl} : Sat (finish r) Q = Sat r (fin_ Q) := by
  unfold finish
  cases r with
  | ok fl A1 => cases fl <;> rfl
  | _ => rfl
theorem ev_body (e : ds.length = np) : Sat (body np n p ds A) Q = Sat (p (args n ds) A) (fin_ Q) := by
  unfold body
  rw [if_pos e, ev_finish]
theorem sat_body (e : ds.length = np) (h : Sat (p (args n ds) A) (fin_ Q)) : Sat (body np n p ds A) Q := by rw [ev_body e]; exact h
theorem sat_seq (h : Sat (p s A) (thn_ q P)) : Sat (fSeq p q s A) P := by rw [ev_seq]; exact h
theorem sat_ifS {b : Bool} (hc : c s A = .ok b A) (hp : b = true → Sat (p s A) P) (hq : b = false → Sat (q s A) P) : Sat (fIfS c p q s A) P := by
  unfold fIfS
  rw [hc, bind_ok]
  cases b with
  | true => exact hp rfl
  | false => exact hq rfl
theorem ev_v (e : s[i]? = some (some d)) : fV i s A = .ok d A := by unfold fV; rw [e]
theorem ev_c : fC d s A = .ok d A := rfl
theorem ev_op : fOp go f g s A = (f s A).bind fun x A1 => (g s A1).bind fun y A2 => go x y A2 := rfl
theorem ev_un : fUn gu f s A = (f s A).bind fun x A1 => gu x A1 := rfl
theorem ev_chain {go' : D → D → AH → Res D} : fChain go go' f g h s A = (f s A).bind fun x A1 => (g s A1).bind fun y A2 => (go x y A2).bind fun z A3 => match z with
  | .bl true => (h s A3).bind fun w A4 => go' y w A4
  | .bl false => .ok (.bl false) A3
  | _ => .bad := rfl
theorem ev_nil : fNil s A = .ok [] A := rfl
theorem ev_cons : fCons f fs s A = (f s A).bind fun x A1 => (fs s A1).bind fun xs A2 => .ok (x :: xs) A2 := rfl
theorem ev_tup : fTup fs s A = (fs s A).bind tupD := rfl
theorem ev_lst : fLst fs s A = (fs s A).bind lstD := rfl
theorem ev_call : fCall m fs s A = (fs s A).bind fun ds A1 => m ds A1 := rfl
theorem ev_own : fOwn n m fs s A = (fs s A).bind fun ds A1 => if ds.length = n then m ds A1 else .bad := rfl
theorem ev_sl {lo hi : FO} : fSl f lo hi s A = (f s A).bind fun d A1 => (lo s A1).bind fun l A2 => (hi s A2).bind fun h A3 => slD d l h A3 := rfl
theorem ev_no : fNo s A = .ok none A := rfl
theorem ev_part : fPart f s A = (f s A).bind fun d A1 => match d with
  | .int i => .ok (some i) A1
  | _ => .bad := rfl
theorem ev_and : fAnd f g s A = (f s A).bind fun d A1 => (tru d A1).bind fun b A2 => if b = true then g s A2 else .ok d A2 := rfl
theorem ev_or : fOr f g s A = (f s A).bind fun d A1 => (tru d A1).bind fun b A2 => if b = true then .ok d A2 else g s A2 := rfl
theorem ev_not : fNot f s A = (f s A).bind fun d A1 => (tru d A1).bind fun b A2 => .ok (.bl (!b)) A2 := rfl
theorem ev_if : fIf c f g s A = (c s A).bind fun b A1 => if b = true then f s A1 else g s A1 := rfl
theorem ev_t : fT f s A = (f s A).bind tru := rfl
theorem ev_tb : fTB f s A = (f s A).bind fun d A1 => match d with
  | .bl b => .ok b A1
  | _ => .bad := rfl
theorem ev_tnot : fTNot t s A = (t s A).bind fun b A1 => .ok (!b) A1 := rfl
theorem ev_tand : fTAnd t u s A = (t s A).bind fun b A1 => if b = true then u s A1 else .ok false A1 := rfl
theorem ev_tor : fTOr t u s A = (t s A).bind fun b A1 => if b = true then .ok true A1 else u s A1 := rfl
theorem ev_mt {T : String} {gm : D → FM} : fMt T gm f fs s A = (f s A).bind fun d A1 => if isTy T d A1 = true then (fs s A1).bind fun ds A2 => gm d ds A2 else .bad := rfl
theorem ev_mt0 {T : String} {gm : D → FM} : fMt0 T gm f s A = (f s A).bind fun d A1 => if isTy T d A1 = true then gm d [] A1 else .bad := rfl
theorem ev_rgd {k : Int → Int → AH → Res D} : rgD f g k s A = (f s A).bind fun d A1 => (g s A1).bind fun e A2 => match d, e with
  | .int i, .int j => k i j A2
  | _, _ => .bad := rfl
theorem ev_set : fSet f i s A = (f s A).bind fun d A1 => .ok (.nx (s.set i (some d))) A1 := rfl
theorem ev_asg : fAsg f gg s A = (f s A).bind fun d A1 => (gg d s A1).bind fun s' A2 => .ok (.nx s') A2 := rfl
theorem ev_ret : fRet f s A = (f s A).bind fun d A1 => .ok (.rt d) A1 := rfl
theorem ev_retN : fRetN s A = .ok (.rt .non) A := rfl
theorem ev_ex : fEx f s A = (f s A).bind fun _ A1 => .ok (.nx s) A1 := rfl
theorem ev_pass : fPass s A = .ok (.nx s) A := rfl
theorem ev_brk : fBrk s A = .ok (.bk s) A := rfl
theorem ev_cont : fCont s A = .ok (.ct s) A := rfl
theorem ev_ifS : fIfS c p q s A = (c s A).bind fun b A1 => if b = true then p s A1 else q s A1 := rfl
theorem ev_aug {x : D} (e : s[i]? = some (some x)) : fAug i f go s A = (f s A).bind fun y A1 => (go x y A1).bind fun z A2 => .ok (.nx (s.set i (some z))) A2 := by unfold fAug; rw [e]
theorem ev_gn : gN i d s A = .ok (s.set i (some d)) A := rfl
theorem ev_gtp : gTp n gs (.tup ds) s A = if ds.length = n then gs ds s A else .bad := rfl
theorem ev_gnl : gNl [] s A = .ok s A := rfl
theorem ev_gcs : gCs gg gs (d :: ds) s A = (gg d s A).bind fun s1 A1 => gs ds s1 A1 := rfl
theorem ev_gsb : gSb f g d s A = (f s A).bind fun o A1 => (g s A1).bind fun i A2 => (stD o i d A2).bind fun _ A3 => .ok s A3 := rfl
theorem ev_for {src : FI} : fFor src gg p s A = (src s A).bind fun S A1 => loopD S.ok gg p S.items s A1 := rfl
theorem ev_rg1 : fRg1 f s A = (f s A).bind fun d A1 => match d with
  | .int j => if InRg j then .ok ⟨rngL 0 j.toNat, yes⟩ A1 else .bad
  | _ => .bad := rfl
theorem ev_rg2 : fRg2 f g s A = (f s A).bind fun d A1 => (g s A1).bind fun e A2 => match d, e with
  | .int i, .int j => if InRg i ∧ InRg j then .ok ⟨rngL i (j - i).toNat, yes⟩ A2 else .bad
  | _, _ => .bad := rfl
theorem inRg_nat {n : Nat} (h : n ≤ 1000000000) : InRg (n : Int) := ⟨by omega, by omega⟩
theorem inRg_of {n : Int} (h : -1000000000000 ≤ n) (h' : n ≤ 1000000000000) : InRg n := ⟨by omega, by omega⟩
theorem ev_its : fItS f s A = (f s A).bind iSeq := rfl
theorem ev_enum : fEnum f s A = (f s A).bind fun d A1 => match rdL A1 d with
  | some ds => .ok ⟨enumL 0 ds, fun A' => rdL A' d = some ds⟩ A1
  | none => .bad := rfl
theorem ev_lc {src : FI} {vs : List Nat} : fLc src gg t f vs s A = (src s A).bind fun S A1 => loopC S.ok gg t f A1.length (wipeA s vs) S.items (A1 ++ [.lst []]) := rfl
theorem ev_yes : fYes s A = .ok true A := rfl
/-! ### operators on known data -/
theorem ev_add_ii {i j : Int} : addD (.int i) (.int j) A = .ok (.int (i + j)) A := rfl
theorem ev_add_ss {x y : Str} (h : x.length + y.length ≤ sizeLine) : addD (.str x) (.str y) A = .ok (.str (x ++ y)) A := if_pos h
theorem ev_add_tt {x y : List D} (h : x.length + y.length ≤ sizeLine) : addD (.tup x) (.tup y) A = .ok (.tup (x ++ y)) A := if_pos h
theorem ev_add_rr {i j : Nat} {xs ys : List D} (h : muL A (.ref i) = some xs) (h' : muL A (.ref j) = some ys) (z : xs.length + ys.length ≤ sizeLine) : addD (.ref i) (.ref j) A = .ok (.ref A.length) (A ++ [.lst (xs ++ ys)]) := by
  show (match muL A (.ref i), muL A (.ref j) with
    | some xs, some ys => if xs.length + ys.length ≤ sizeLine then alloc (.lst (xs ++ ys)) A else .bad
    | _, _ => .bad) = _
  rw [h, h']
  exact if_pos z
theorem ev_sub {i j : Int} : subD (.int i) (.int j) A = .ok (.int (i - j)) A := rfl
theorem ev_mul {i j : Int} (h : mulOk i j) : mulD (.int i) (.int j) A = .ok (.int (i * j)) A := if_pos h
theorem ev_mod {i j : Int} (h : 0 < j) : modD (.int i) (.int j) A = .ok (.int (i % j)) A := if_pos h
theorem ev_fdiv {i j : Int} (h : CDivW i j) : fdivD (.int i) (.int j) A = .ok (.int (i / j)) A := if_pos h
theorem ev_pow {i j : Int} (h : CPow i j) : powD (.int i) (.int j) A = .ok (.int (i ^ j.toNat)) A := if_pos h
theorem ev_neg {i : Int} : negD (.int i) A = .ok (.int (-i)) A := rfl
theorem ev_lt {i j : Int} : ltD (.int i) (.int j) A = .ok (.bl (decide (i < j))) A := rfl
theorem ev_le {i j : Int} : leD (.int i) (.int j) A = .ok (.bl (decide (i ≤ j))) A := rfl
theorem ev_gt {i j : Int} : gtD (.int i) (.int j) A = .ok (.bl (decide (j < i))) A := rfl
theorem ev_ge {i j : Int} : geD (.int i) (.int j) A = .ok (.bl (decide (j ≤ i))) A := rfl
theorem ev_eq_ii {i j : Int} : eqD (.int i) (.int j) A = .ok (.bl (decide (i = j))) A := rfl
theorem ev_eq_ss {i j : Str} : eqD (.str i) (.str j) A = .ok (.bl (decide (i = j))) A := rfl
theorem ev_eq_bb {i j : Bool} : eqD (.bl i) (.bl j) A = .ok (.bl (decide (i = j))) A := rfl
theorem ev_ne_ii {i j : Int} : neD (.int i) (.int j) A = .ok (.bl (!decide (i = j))) A := rfl
theorem ev_ne_ss {i j : Str} : neD (.str i) (.str j) A = .ok (.bl (!decide (i = j))) A := rfl
theorem ev_ne_bb {i j : Bool} : neD (.bl i) (.bl j) A = .ok (.bl (!decide (i = j))) A := rfl
theorem ev_is_n : isD d .non A = .ok (.bl (isNon d)) A := by cases d <;> rfl
theorem ev_isnt_n : isntD d .non A = .ok (.bl (!isNon d)) A := by cases d <;> rfl
theorem ev_int_i {i : Int} : intD [.int i] A = .ok (.int i) A := rfl
theorem ev_int_b {i : Bool} : intD [.bl i] A = .ok (.int (if i then 1 else 0)) A := rfl
theorem ev_min_ii {i j : Int} : minD [.int i, .int j] A = .ok (.int (if j < i then j else i)) A := rfl
theorem ev_max_ii {i j : Int} : maxD [.int i, .int j] A = .ok (.int (if j > i then j else i)) A := rfl
theorem ev_abs {i : Int} : absD [.int i] A = .ok (.int (if i < 0 then -i else i)) A := rfl
theorem ev_tup_of : Ab.tupOf [D.tup ds] A = .ok (.tup ds) A := rfl
theorem ev_tup_ofL (h : rdL A (.ref n) = some ds) : Ab.tupOf [D.ref n] A = .ok (.tup ds) A := by
  show (match rdL A (.ref n) with
    | some xs => Res.ok (D.tup xs) A
    | none => .bad) = _
  rw [h]
theorem ev_lst_ofT : lstOf [.tup ds] A = .ok (.ref A.length) (A ++ [.lst ds]) := rfl
theorem ev_lst_ofL (h : rdL A (.ref n) = some ds) : lstOf [.ref n] A = .ok (.ref A.length) (A ++ [.lst ds]) := by
  show (match rdS A (.ref n) with
    | some xs => alloc (.lst xs) A
    | none => _) = _
  rw [show rdS A (.ref n) = some ds from h]
  rfl
theorem ev_len_t : lenD [.tup ds] A = .ok (.int ds.length) A := rfl
theorem ev_len_s {x : Str} (h : x.length ≤ sizeLine) : lenD [.str x] A = .ok (.int x.length) A := if_pos h
theorem ev_len_r (h : rdL A (.ref n) = some ds) : lenD [.ref n] A = .ok (.int ds.length) A := by
  show (match rdS A (.ref n) with
    | some xs => Res.ok (D.int xs.length) A
    | none => _) = _
  rw [show rdS A (.ref n) = some ds from h]
theorem atI_pos {α : Type} {xs : List α} {i : Int} (h : 0 ≤ i) : L2.atI xs i = xs[i.toNat]? := by
  unfold L2.atI ixN
  rw [if_pos h]
  by_cases hl : i < xs.length
  · rw [if_pos hl]; rfl
  · rw [if_neg hl]
    show none = _
    rw [List.getElem?_eq_none (by omega)]
theorem ev_ix_t {k : Int} {x : D} (h : L2.atI ds k = some x) : ixD (.tup ds) (D.int k) A = .ok x A := by
  show ixSeq ds k A = _
  unfold ixSeq
  rw [h]
theorem ev_ix_r {k : Int} {x : D} (h : rdL A (.ref n) = some ds) (h2 : L2.atI ds k = some x) : ixD (.ref n) (.int k) A = .ok x A := by
  show (match rdS A (.ref n) with
    | some xs => ixSeq xs k A
    | none => _) = _
  rw [show rdS A (.ref n) = some ds from h]
  show ixSeq ds k A = _
  unfold ixSeq
  rw [h2]
theorem ev_ix_s {z : Str} {k : Int} {c : Nat} (h : z.length ≤ sizeLine) (h2 : L2.atI z.cps.toList k = some c) : ixD (.str z) (.int k) A = .ok (.str ⟨#[c]⟩) A := by
  show (if z.length ≤ sizeLine then (match L2.atI z.cps.toList k with | some c => Res.ok (D.str ⟨#[c]⟩) A | none => .bad) else .bad) = _
  rw [if_pos h, h2]
theorem ev_st_l {xs : List D} {k : Int} {j : Nat} (h : A[n]? = some (.lst xs)) (h2 : ixN xs.length k = some j) : stD (.ref n) (.int k) d A = .ok () (A.set n (.lst (xs.set j d))) := by
  show (match A[n]? with
    | some (.lst xs) => _
    | some (.dic kvs) => _
    | _ => _) = _
  rw [h]
  show (match ixN xs.length k with
    | some j => Res.ok () (A.set n (.lst (xs.set j d)))
    | none => .bad) = _
  rw [h2]
theorem rdL_l {xs : List D} (h : A[n]? = some (.lst xs)) : rdL A (.ref n) = some xs := by
  show (match A[n]? with
    | some (.lst xs) => some xs
    | some (.frz xs) => some xs
    | _ => none) = _
  rw [h]
theorem rdL_f {xs : List D} (h : A[n]? = some (.frz xs)) : rdL A (.ref n) = some xs := by
  show (match A[n]? with
    | some (.lst xs) => some xs
    | some (.frz xs) => some xs
    | _ => none) = _
  rw [h]
theorem muL_l {xs : List D} (h : A[n]? = some (.lst xs)) : muL A (.ref n) = some xs := by
  show (match A[n]? with
    | some (.lst xs) => some xs
    | _ => none) = _
  rw [h]
theorem mulOk_l {i j : Int} (h1 : -(2 ^ 64) < i) (h2 : i < 2 ^ 64) : mulOk i j := .inl (.inl ⟨h1, h2⟩)
theorem mulOk_r {i j : Int} (h1 : -(2 ^ 64) < j) (h2 : j < 2 ^ 64) : mulOk i j := .inl (.inr ⟨h1, h2⟩)
theorem divOk {i j : Int} (h1 : 0 < j) (h2 : j < 2 ^ 200) : CDivW i j := wide_div (b := 200) h1 (by omega) (by decide) (by decide)
theorem powOk {i j : Int} (h1 : 0 ≤ j) (h2 : j ≤ 1000000) (h3 : i.natAbs < 2 ^ 64) : CPow i j := ⟨h1, h2, h3⟩
theorem ev_alloc {o : AO} : Ab.alloc o A = .ok (.ref A.length) (A ++ [o]) := rfl
theorem ev_tupD (h : ds.length ≤ 10000) : tupD ds A = .ok (.tup ds) A := if_pos (Nat.le_trans h (by decide))
theorem ev_lstD (h : ds.length ≤ 10000) : lstD ds A = .ok (.ref A.length) (A ++ [.lst ds]) := if_pos (Nat.le_trans h (by decide))
theorem sl_le {n : Nat} (h : n ≤ 16777216) : n ≤ sizeLine := h
theorem ev_tru_b {b : Bool} : tru (.bl b) A = .ok b A := rfl
end

/-! ### isinstance -/
theorem isi_tuple_non  {A : AH} : isiD "tuple" (.non) A = .ok (.bl false) A := by
  show (match kitB "NoneType" "tuple" with | some b => Res.ok (D.bl b) A | none => .bad) = _
  rw [show kitB "NoneType" "tuple" = some false by decide +kernel]
theorem isi_tuple_bl {b : Bool} {A : AH} : isiD "tuple" (.bl b) A = .ok (.bl false) A := by
  show (match kitB "bool" "tuple" with | some b => Res.ok (D.bl b) A | none => .bad) = _
  rw [show kitB "bool" "tuple" = some false by decide +kernel]
theorem isi_tuple_int {i : Int} {A : AH} : isiD "tuple" (.int i) A = .ok (.bl false) A := by
  show (match kitB "int" "tuple" with | some b => Res.ok (D.bl b) A | none => .bad) = _
  rw [show kitB "int" "tuple" = some false by decide +kernel]
theorem isi_tuple_str {x : Str} {A : AH} : isiD "tuple" (.str x) A = .ok (.bl false) A := by
  show (match kitB "str" "tuple" with | some b => Res.ok (D.bl b) A | none => .bad) = _
  rw [show kitB "str" "tuple" = some false by decide +kernel]
theorem isi_tuple_tup {ds : List D} {A : AH} : isiD "tuple" (.tup ds) A = .ok (.bl true) A := by
  show (match kitB "tuple" "tuple" with | some b => Res.ok (D.bl b) A | none => .bad) = _
  rw [show kitB "tuple" "tuple" = some true by decide +kernel]
theorem isi_tuple_l {A : AH} {n : Nat} {xs : List D} (h : A[n]? = some (.lst xs)) : isiD "tuple" (.ref n) A = .ok (.bl false) A := by
  unfold isiD
  rw [show tyN A (.ref n) = some "list" by simp only [tyN, h]]
  show (match kitB "list" "tuple" with | some b => Res.ok (D.bl b) A | none => .bad) = _
  rw [show kitB "list" "tuple" = some false by decide +kernel]
theorem isi_tuple_f {A : AH} {n : Nat} {xs : List D} (h : A[n]? = some (.frz xs)) : isiD "tuple" (.ref n) A = .ok (.bl false) A := by
  unfold isiD
  rw [show tyN A (.ref n) = some "list" by simp only [tyN, h]]
  show (match kitB "list" "tuple" with | some b => Res.ok (D.bl b) A | none => .bad) = _
  rw [show kitB "list" "tuple" = some false by decide +kernel]
theorem isi_list_non  {A : AH} : isiD "list" (.non) A = .ok (.bl false) A := by
  show (match kitB "NoneType" "list" with | some b => Res.ok (D.bl b) A | none => .bad) = _
  rw [show kitB "NoneType" "list" = some false by decide +kernel]
theorem isi_list_bl {b : Bool} {A : AH} : isiD "list" (.bl b) A = .ok (.bl false) A := by
  show (match kitB "bool" "list" with | some b => Res.ok (D.bl b) A | none => .bad) = _
  rw [show kitB "bool" "list" = some false by decide +kernel]
theorem isi_list_int {i : Int} {A : AH} : isiD "list" (.int i) A = .ok (.bl false) A := by
  show (match kitB "int" "list" with | some b => Res.ok (D.bl b) A | none => .bad) = _
  rw [show kitB "int" "list" = some false by decide +kernel]
theorem isi_list_str {x : Str} {A : AH} : isiD "list" (.str x) A = .ok (.bl false) A := by
  show (match kitB "str" "list" with | some b => Res.ok (D.bl b) A | none => .bad) = _
  rw [show kitB "str" "list" = some false by decide +kernel]
theorem isi_list_tup {ds : List D} {A : AH} : isiD "list" (.tup ds) A = .ok (.bl false) A := by
  show (match kitB "tuple" "list" with | some b => Res.ok (D.bl b) A | none => .bad) = _
  rw [show kitB "tuple" "list" = some false by decide +kernel]
theorem isi_list_l {A : AH} {n : Nat} {xs : List D} (h : A[n]? = some (.lst xs)) : isiD "list" (.ref n) A = .ok (.bl true) A := by
  unfold isiD
  rw [show tyN A (.ref n) = some "list" by simp only [tyN, h]]
  show (match kitB "list" "list" with | some b => Res.ok (D.bl b) A | none => .bad) = _
  rw [show kitB "list" "list" = some true by decide +kernel]
theorem isi_list_f {A : AH} {n : Nat} {xs : List D} (h : A[n]? = some (.frz xs)) : isiD "list" (.ref n) A = .ok (.bl true) A := by
  unfold isiD
  rw [show tyN A (.ref n) = some "list" by simp only [tyN, h]]
  show (match kitB "list" "list" with | some b => Res.ok (D.bl b) A | none => .bad) = _
  rw [show kitB "list" "list" = some true by decide +kernel]
theorem isi_bool_non  {A : AH} : isiD "bool" (.non) A = .ok (.bl false) A := by
  show (match kitB "NoneType" "bool" with | some b => Res.ok (D.bl b) A | none => .bad) = _
  rw [show kitB "NoneType" "bool" = some false by decide +kernel]
theorem isi_bool_bl {b : Bool} {A : AH} : isiD "bool" (.bl b) A = .ok (.bl true) A := by
  show (match kitB "bool" "bool" with | some b => Res.ok (D.bl b) A | none => .bad) = _
  rw [show kitB "bool" "bool" = some true by decide +kernel]
theorem isi_bool_int {i : Int} {A : AH} : isiD "bool" (.int i) A = .ok (.bl false) A := by
  show (match kitB "int" "bool" with | some b => Res.ok (D.bl b) A | none => .bad) = _
  rw [show kitB "int" "bool" = some false by decide +kernel]
theorem isi_bool_str {x : Str} {A : AH} : isiD "bool" (.str x) A = .ok (.bl false) A := by
  show (match kitB "str" "bool" with | some b => Res.ok (D.bl b) A | none => .bad) = _
  rw [show kitB "str" "bool" = some false by decide +kernel]
theorem isi_bool_tup {ds : List D} {A : AH} : isiD "bool" (.tup ds) A = .ok (.bl false) A := by
  show (match kitB "tuple" "bool" with | some b => Res.ok (D.bl b) A | none => .bad) = _
  rw [show kitB "tuple" "bool" = some false by decide +kernel]
theorem isi_bool_l {A : AH} {n : Nat} {xs : List D} (h : A[n]? = some (.lst xs)) : isiD "bool" (.ref n) A = .ok (.bl false) A := by
  unfold isiD
  rw [show tyN A (.ref n) = some "list" by simp only [tyN, h]]
  show (match kitB "list" "bool" with | some b => Res.ok (D.bl b) A | none => .bad) = _
  rw [show kitB "list" "bool" = some false by decide +kernel]
theorem isi_bool_f {A : AH} {n : Nat} {xs : List D} (h : A[n]? = some (.frz xs)) : isiD "bool" (.ref n) A = .ok (.bl false) A := by
  unfold isiD
  rw [show tyN A (.ref n) = some "list" by simp only [tyN, h]]
  show (match kitB "list" "bool" with | some b => Res.ok (D.bl b) A | none => .bad) = _
  rw [show kitB "list" "bool" = some false by decide +kernel]
theorem isi_int_non  {A : AH} : isiD "int" (.non) A = .ok (.bl false) A := by
  show (match kitB "NoneType" "int" with | some b => Res.ok (D.bl b) A | none => .bad) = _
  rw [show kitB "NoneType" "int" = some false by decide +kernel]
theorem isi_int_bl {b : Bool} {A : AH} : isiD "int" (.bl b) A = .ok (.bl true) A := by
  show (match kitB "bool" "int" with | some b => Res.ok (D.bl b) A | none => .bad) = _
  rw [show kitB "bool" "int" = some true by decide +kernel]
theorem isi_int_int {i : Int} {A : AH} : isiD "int" (.int i) A = .ok (.bl true) A := by
  show (match kitB "int" "int" with | some b => Res.ok (D.bl b) A | none => .bad) = _
  rw [show kitB "int" "int" = some true by decide +kernel]
theorem isi_int_str {x : Str} {A : AH} : isiD "int" (.str x) A = .ok (.bl false) A := by
  show (match kitB "str" "int" with | some b => Res.ok (D.bl b) A | none => .bad) = _
  rw [show kitB "str" "int" = some false by decide +kernel]
theorem isi_int_tup {ds : List D} {A : AH} : isiD "int" (.tup ds) A = .ok (.bl false) A := by
  show (match kitB "tuple" "int" with | some b => Res.ok (D.bl b) A | none => .bad) = _
  rw [show kitB "tuple" "int" = some false by decide +kernel]
theorem isi_int_l {A : AH} {n : Nat} {xs : List D} (h : A[n]? = some (.lst xs)) : isiD "int" (.ref n) A = .ok (.bl false) A := by
  unfold isiD
  rw [show tyN A (.ref n) = some "list" by simp only [tyN, h]]
  show (match kitB "list" "int" with | some b => Res.ok (D.bl b) A | none => .bad) = _
  rw [show kitB "list" "int" = some false by decide +kernel]
theorem isi_int_f {A : AH} {n : Nat} {xs : List D} (h : A[n]? = some (.frz xs)) : isiD "int" (.ref n) A = .ok (.bl false) A := by
  unfold isiD
  rw [show tyN A (.ref n) = some "list" by simp only [tyN, h]]
  show (match kitB "list" "int" with | some b => Res.ok (D.bl b) A | none => .bad) = _
  rw [show kitB "list" "int" = some false by decide +kernel]
theorem isi_str_non  {A : AH} : isiD "str" (.non) A = .ok (.bl false) A := by
  show (match kitB "NoneType" "str" with | some b => Res.ok (D.bl b) A | none => .bad) = _
  rw [show kitB "NoneType" "str" = some false by decide +kernel]
theorem isi_str_bl {b : Bool} {A : AH} : isiD "str" (.bl b) A = .ok (.bl false) A := by
  show (match kitB "bool" "str" with | some b => Res.ok (D.bl b) A | none => .bad) = _
  rw [show kitB "bool" "str" = some false by decide +kernel]
theorem isi_str_int {i : Int} {A : AH} : isiD "str" (.int i) A = .ok (.bl false) A := by
  show (match kitB "int" "str" with | some b => Res.ok (D.bl b) A | none => .bad) = _
  rw [show kitB "int" "str" = some false by decide +kernel]
theorem isi_str_str {x : Str} {A : AH} : isiD "str" (.str x) A = .ok (.bl true) A := by
  show (match kitB "str" "str" with | some b => Res.ok (D.bl b) A | none => .bad) = _
  rw [show kitB "str" "str" = some true by decide +kernel]
theorem isi_str_tup {ds : List D} {A : AH} : isiD "str" (.tup ds) A = .ok (.bl false) A := by
  show (match kitB "tuple" "str" with | some b => Res.ok (D.bl b) A | none => .bad) = _
  rw [show kitB "tuple" "str" = some false by decide +kernel]
theorem isi_str_l {A : AH} {n : Nat} {xs : List D} (h : A[n]? = some (.lst xs)) : isiD "str" (.ref n) A = .ok (.bl false) A := by
  unfold isiD
  rw [show tyN A (.ref n) = some "list" by simp only [tyN, h]]
  show (match kitB "list" "str" with | some b => Res.ok (D.bl b) A | none => .bad) = _
  rw [show kitB "list" "str" = some false by decide +kernel]
theorem isi_str_f {A : AH} {n : Nat} {xs : List D} (h : A[n]? = some (.frz xs)) : isiD "str" (.ref n) A = .ok (.bl false) A := by
  unfold isiD
  rw [show tyN A (.ref n) = some "list" by simp only [tyN, h]]
  show (match kitB "list" "str" with | some b => Res.ok (D.bl b) A | none => .bad) = _
  rw [show kitB "list" "str" = some false by decide +kernel]
theorem isi_dict_non  {A : AH} : isiD "dict" (.non) A = .ok (.bl false) A := by
  show (match kitB "NoneType" "dict" with | some b => Res.ok (D.bl b) A | none => .bad) = _
  rw [show kitB "NoneType" "dict" = some false by decide +kernel]
theorem isi_dict_bl {b : Bool} {A : AH} : isiD "dict" (.bl b) A = .ok (.bl false) A := by
  show (match kitB "bool" "dict" with | some b => Res.ok (D.bl b) A | none => .bad) = _
  rw [show kitB "bool" "dict" = some false by decide +kernel]
theorem isi_dict_int {i : Int} {A : AH} : isiD "dict" (.int i) A = .ok (.bl false) A := by
  show (match kitB "int" "dict" with | some b => Res.ok (D.bl b) A | none => .bad) = _
  rw [show kitB "int" "dict" = some false by decide +kernel]
theorem isi_dict_str {x : Str} {A : AH} : isiD "dict" (.str x) A = .ok (.bl false) A := by
  show (match kitB "str" "dict" with | some b => Res.ok (D.bl b) A | none => .bad) = _
  rw [show kitB "str" "dict" = some false by decide +kernel]
theorem isi_dict_tup {ds : List D} {A : AH} : isiD "dict" (.tup ds) A = .ok (.bl false) A := by
  show (match kitB "tuple" "dict" with | some b => Res.ok (D.bl b) A | none => .bad) = _
  rw [show kitB "tuple" "dict" = some false by decide +kernel]
theorem isi_dict_l {A : AH} {n : Nat} {xs : List D} (h : A[n]? = some (.lst xs)) : isiD "dict" (.ref n) A = .ok (.bl false) A := by
  unfold isiD
  rw [show tyN A (.ref n) = some "list" by simp only [tyN, h]]
  show (match kitB "list" "dict" with | some b => Res.ok (D.bl b) A | none => .bad) = _
  rw [show kitB "list" "dict" = some false by decide +kernel]
theorem isi_dict_f {A : AH} {n : Nat} {xs : List D} (h : A[n]? = some (.frz xs)) : isiD "dict" (.ref n) A = .ok (.bl false) A := by
  unfold isiD
  rw [show tyN A (.ref n) = some "list" by simp only [tyN, h]]
  show (match kitB "list" "dict" with | some b => Res.ok (D.bl b) A | none => .bad) = _
  rw [show kitB "list" "dict" = some false by decide +kernel]
/-! ## loops -/
theorem loop_nil {ok : AH → Prop} {g : FG} {p : FS} {s : ASt} {A : AH} (h : ok A) : loopD ok g p [] s A = .ok (.nx s) A := by
  unfold loopD; rw [if_pos h]
/-- what a turn's end leads to -/
def turn_ (k : ASt → AH → Prop) (P : Fl → AH → Prop) : Fl → AH → Prop
  | .nx s, A => k s A
  | .ct s, A => k s A
  | .bk s, A => P (.nx s) A
  | .rt d, A => P (.rt d) A
theorem loop_cons {ok : AH → Prop} {g : FG} {p : FS} {d : D} {ds : List D} {s : ASt} {A : AH} {P : Fl → AH → Prop} (h : ok A) :
    Sat (loopD ok g p (d :: ds) s A) P = Sat (g d s A) fun s1 A1 => Sat (p s1 A1) (turn_ (fun s2 A2 => Sat (loopD ok g p ds s2 A2) P) P) := by
  rw [loopD, if_pos h, sat_bind]
  congr 1
  funext s1 A1
  cases p s1 A1 with
  | ok fl A2 => cases fl <;> rfl
  | _ => rfl
/-- a for by an invariant over the items that are left -/
theorem loop_inv {ok : AH → Prop} {g : FG} {p : FS} {P : Fl → AH → Prop} (I : List D → ASt → AH → Prop)
    (turn : ∀ d ds s A, I (d :: ds) s A → ok A ∧ Sat (g d s A) fun s1 A1 => Sat (p s1 A1) (turn_ (I ds) P)) (last : ∀ s A, I [] s A → ok A ∧ P (.nx s) A) :
    ∀ (ds : List D) (s : ASt) (A : AH), I ds s A → Sat (loopD ok g p ds s A) P
  | [], s, A, h => by
    rw [loop_nil (last s A h).1]
    exact (last s A h).2
  | d :: ds, s, A, h => by
    obtain ⟨h1, h2⟩ := turn d ds s A h
    rw [loop_cons h1]
    refine h2.imp fun s1 A1 h3 => h3.imp fun fl A2 h4 => ?_
    cases fl with
    | nx s2 => exact loop_inv I turn last ds s2 A2 h4
    | ct s2 => exact loop_inv I turn last ds s2 A2 h4
    | bk s2 => exact h4
    | rt d => exact h4
/-- a for over a range by an invariant over the turns -/
theorem range_inv {g : FG} {p : FS} {P : Fl → AH → Prop} {lo : Int} {n : Nat} (I : Nat → ASt → AH → Prop)
    (turn : ∀ k s A, k < n → I k s A → Sat (g (.int (lo + (k : Nat))) s A) fun s1 A1 => Sat (p s1 A1) (turn_ (I (k + 1)) P)) (last : ∀ s A, I n s A → P (.nx s) A)
    {s : ASt} {A : AH} (h : I 0 s A) : Sat (loopD yes g p (rngL lo n) s A) P := by
  have e : rngL lo n = (List.range' 0 n).map fun k => .int (lo + (k : Nat)) := by rw [← List.range_eq_range']; rfl
  have key : ∀ (m k : Nat) (s : ASt) (A : AH), k + m = n → I k s A → Sat (loopD yes g p ((List.range' k m).map fun k => .int (lo + (k : Nat))) s A) P := by
    intro m
    induction m with
    | zero => intro k s A hk h; rw [show k = n by omega] at h; rw [List.range'_zero, List.map_nil, loop_nil trivial]; exact last s A h
    | succ m ih =>
      intro k s A hk h
      rw [List.range'_succ, List.map_cons, loop_cons trivial]
      refine (turn k s A (by omega) h).imp fun s1 A1 h3 => h3.imp fun fl A2 h4 => ?_
      cases fl with
      | nx s2 => exact ih (k + 1) s2 A2 (by omega) h4
      | ct s2 => exact ih (k + 1) s2 A2 (by omega) h4
      | bk s2 => exact h4
      | rt d => exact h4
  rw [e]
  exact key n 0 s A (by omega) h
end Ab

namespace Ab
open PySem PySem.Spec PyProof.Rows L2
open scoped Classical

/-! ## what the drawing helpers of the laws leave -/
/-- at s stands a source of drawn numbers -/
def Sr (s : Nat) (A : AH) : Prop := ∃ c r k : Int, A[s]? = some (.lst [.int c, .int r, .int k])
/-- all cells but the source are as they were; new ones may have come -/
structure Dr (s : Nat) (A A' : AH) : Prop where
  le : A.length ≤ A'.length
  keep : ∀ i o, i ≠ s → A[i]? = some o → A'[i]? = some o
  src : Sr s A'
theorem Dr.refl {s : Nat} {A : AH} (h : Sr s A) : Dr s A A := ⟨Nat.le_refl _, fun _ _ _ h => h, h⟩
theorem Dr.trans {s : Nat} {A B C : AH} (h : Dr s A B) (h' : Dr s B C) : Dr s A C := ⟨Nat.le_trans h.le h'.le, fun i o n e => h'.keep i o n (h.keep i o n e), h'.src⟩
theorem Sr.lt {s : Nat} {A : AH} (h : Sr s A) : s < A.length := by
  obtain ⟨c, r, k, h⟩ := h
  exact (List.getElem?_eq_some_iff.mp h).1
theorem Dr.app {s : Nat} {A : AH} (h : Sr s A) (B : AH) : Dr s A (A ++ B) := by
  have app : ∀ (i : Nat) o, A[i]? = some o → (A ++ B)[i]? = some o := fun i o e => by
    rw [List.getElem?_append_left (List.getElem?_eq_some_iff.mp e).1]; exact e
  obtain ⟨c, r, k, h⟩ := h
  exact ⟨by simp, fun i o _ e => app i o e, c, r, k, app s _ h⟩
theorem Dr.set {s : Nat} {A : AH} {c r k : Int} (h : s < A.length) : Dr s A (A.set s (.lst [.int c, .int r, .int k])) :=
  ⟨by simp, fun i o n e => by rw [List.getElem?_set_ne (Ne.symm n)]; exact e, c, r, k, List.getElem?_set_self h⟩
/-- a drawing helper that hands back what P says -/
def DrwS (s : Nat) (A : AH) (r : Res D) (P : D → Prop) : Prop := Sat r fun d A' => P d ∧ Dr s A A'
theorem DrwS.imp {s : Nat} {A : AH} {r : Res D} {P Q : D → Prop} (h : DrwS s A r P) (q : ∀ d, P d → Q d) : DrwS s A r Q := Sat.imp h fun d A' ⟨h1, h2⟩ => ⟨q d h1, h2⟩
/-- the number from 0 on, below n (0 where n is below 1) -/
def Below (n : Int) (d : D) : Prop := ∃ v, d = .int v ∧ 0 ≤ v ∧ (v < n ∨ v = 0)

/-- all cells are as they were; new ones may have come -/
structure Gr (A A' : AH) : Prop where
  le : A.length ≤ A'.length
  keep : ∀ (i : Nat) o, A[i]? = some o → A'[i]? = some o
section
variable {A B C : AH} {s r : Nat} {o : AO}
theorem at_lt (h : A[r]? = some o) : r < A.length := (List.getElem?_eq_some_iff.mp h).1
theorem at_new : (A ++ [o])[A.length]? = some o := List.getElem?_concat_length ..
theorem at_set (h : r < A.length) : (A.set r o)[r]? = some o := List.getElem?_set_self h
theorem Gr.refl : Gr A A := ⟨Nat.le_refl _, fun _ _ h => h⟩
theorem Gr.trans (h : Gr A B) (h' : Gr B C) : Gr A C := ⟨Nat.le_trans h.le h'.le, fun i o e => h'.keep i o (h.keep i o e)⟩
theorem Gr.app : Gr A (A ++ B) := ⟨by simp, fun i o e => by rw [List.getElem?_append_left (at_lt e)]; exact e⟩
theorem Gr.set (h : Gr A B) (hr : A.length ≤ r) : Gr A (B.set r o) := ⟨by simpa using h.le, fun i o' e => by
  have := at_lt e
  rw [List.getElem?_set_ne (by omega)]; exact h.keep i o' e⟩
theorem Gr.dr (h : Gr A B) (hs : Sr s A) : Dr s A B := ⟨h.le, fun i o _ e => h.keep i o e, by obtain ⟨c, r, k, e⟩ := hs; exact ⟨c, r, k, h.keep _ _ e⟩⟩
theorem Sr.gr (h : Gr A B) (hs : Sr s A) : Sr s B := (h.dr hs).src
theorem Dr.setN (h : Dr s A B) (hr : A.length ≤ r) (hs : Sr s A) : Dr s A (B.set r o) := ⟨by simpa using h.le, fun i o' n e => by
  have := at_lt e
  rw [List.getElem?_set_ne (by omega)]; exact h.keep i o' n e, by
    obtain ⟨c, q, k, e⟩ := h.src
    have := hs.lt
    exact ⟨c, q, k, by rw [List.getElem?_set_ne (by omega)]; exact e⟩⟩
/-- a list's display by an invariant over the items that are left and the list so far -/
theorem comp_inv {ok : AH → Prop} {g : FG} {t : FT} {f : FE} {n : Nat} {s : ASt} {P : D → AH → Prop} (I : List D → List D → AH → Prop)
    (turn : ∀ d ds acc A, I (d :: ds) acc A → ok A ∧ Sat (g d s A) fun s1 A1 => Sat (t s1 A1) fun b A2 => if b = true then Sat (f s1 A2) fun y A3 => A3[n]? = some (.lst acc) ∧ acc.length < sizeLine ∧ I ds (acc ++ [y]) (A3.set n (.lst (acc ++ [y]))) else I ds acc A2)
    (last : ∀ acc A, I [] acc A → ok A ∧ P (.ref n) A) : ∀ (ds acc : List D) (A : AH), I ds acc A → Sat (loopC ok g t f n s ds A) P
  | [], acc, A, h => by
    rw [loopC, if_pos (last acc A h).1]
    exact (last acc A h).2
  | d :: ds, acc, A, h => by
    obtain ⟨h1, h2⟩ := turn d ds acc A h
    rw [loopC, if_pos h1, sat_bind]
    refine h2.imp fun s1 A1 h3 => ?_
    rw [sat_bind]
    refine h3.imp fun b A2 h4 => ?_
    cases b with
    | true =>
      rw [if_pos rfl, sat_bind]
      rw [if_pos rfl] at h4
      refine h4.imp fun y A3 ⟨h5, h6, h7⟩ => ?_
      simp only [h5]
      rw [if_pos h6]
      exact comp_inv I turn last ds _ _ h7
    | false =>
      rw [if_neg Bool.false_ne_true]
      rw [if_neg Bool.false_ne_true] at h4
      exact comp_inv I turn last ds _ _ h4
/-- a list's display of values that need no cell -/
theorem comp_pure {α : Type} {ok : AH → Prop} {g : FG} {f : FE} {s : ASt} {P : D → AH → Prop} {qs : List α} (c : α → D) (F : α → D)
    (hok : ∀ l, ok (A ++ [.lst l])) (hf : ∀ q ∈ qs, ∀ l, Sat (g (c q) s (A ++ [.lst l])) fun s1 A1 => Sat (f s1 A1) fun y A3 => y = F q ∧ A3 = A ++ [.lst l]) (hl : qs.length ≤ 1000000)
    (hP : P (.ref A.length) (A ++ [.lst (qs.map F)])) : Sat (loopC ok g fYes f A.length s (qs.map c) (A ++ [.lst []])) P := by
  refine comp_inv (fun rest acc B => B = A ++ [.lst acc] ∧ ∃ pre post, qs = pre ++ post ∧ rest = post.map c ∧ acc = pre.map F) (fun d rest acc B ⟨hB, pre, post, h1, h0, h2⟩ => ?_) (fun acc B ⟨hB, pre, post, h1, h0, h2⟩ => ?_) _ [] _ ⟨rfl, [], qs, rfl, rfl, rfl⟩
  · subst hB
    cases post with
    | nil => cases h0
    | cons q post =>
      rw [List.map_cons, List.cons.injEq] at h0
      obtain ⟨e1, e2⟩ := h0
      subst e1; subst e2
      refine ⟨hok acc, Sat.imp (hf q (by rw [h1]; simp) acc) fun s1 A1 h3 => ?_⟩
      show Sat (Res.ok true A1) _
      rw [sat_ok, if_pos rfl]
      refine Sat.imp h3 fun y A3 ⟨h4, h5⟩ => ?_
      subst h4; subst h5
      refine ⟨at_new, ?_, ?_, pre ++ [q], post, by rw [h1]; simp, rfl, by rw [h2]; simp⟩
      · have : qs.length = pre.length + (post.length + 1) := by rw [h1]; simp
        have e : acc.length = pre.length := by rw [h2]; simp
        refine Nat.lt_of_lt_of_le (show acc.length < 1000000 by omega) (by decide)
      · rw [List.set_append_right _ _ (Nat.le_refl _), Nat.sub_self]; rfl
  · subst hB
    cases post with
    | cons q post => cases h0
    | nil =>
      rw [List.append_nil] at h1
      subst h1; subst h2
      exact ⟨hok _, hP⟩
/-- a list's display over counted items, by an invariant over the turns -/
theorem comp_cnt {ok : AH → Prop} {g : FG} {f : FE} {m : Nat} {s : ASt} {P : D → AH → Prop} {it : Nat → D} {n : Nat} (I : Nat → List D → AH → Prop)
    (turn : ∀ k acc A, k < n → I k acc A → ok A ∧ Sat (g (it k) s A) fun s1 A1 => Sat (f s1 A1) fun y A3 => A3[m]? = some (.lst acc) ∧ acc.length < 1000000 ∧ I (k + 1) (acc ++ [y]) (A3.set m (.lst (acc ++ [y]))))
    (last : ∀ acc A, I n acc A → ok A ∧ P (.ref m) A) {acc : List D} {A : AH} (h : I 0 acc A) : Sat (loopC ok g fYes f m s ((List.range n).map it) A) P := by
  rw [List.range_eq_range']
  refine comp_inv (fun rest acc B => ∃ k j, k + j = n ∧ rest = (List.range' k j).map it ∧ I k acc B) (fun d rest acc B ⟨k, j, h1, h2, h3⟩ => ?_) (fun acc B ⟨k, j, h1, h2, h3⟩ => ?_) _ acc _ ⟨0, n, by omega, rfl, h⟩
  · cases j with
    | zero => rw [List.range'_zero, List.map_nil] at h2; cases h2
    | succ j =>
      rw [List.range'_succ, List.map_cons, List.cons.injEq] at h2
      obtain ⟨e1, e2⟩ := h2
      subst e1
      obtain ⟨o1, o2⟩ := turn k acc B (by omega) h3
      refine ⟨o1, Sat.imp o2 fun s1 A1 h4 => ?_⟩
      show Sat (Res.ok true A1) _
      rw [sat_ok, if_pos rfl]
      exact Sat.imp h4 fun y A3 ⟨h5, h6, h7⟩ => ⟨h5, Nat.lt_of_lt_of_le h6 (by decide), k + 1, j, by omega, e2, h7⟩
  · cases j with
    | zero => rw [show k = n by omega] at h3; exact last acc B h3
    | succ j => rw [List.range'_succ, List.map_cons] at h2; cases h2
/-- a for over counted items -/
theorem for_cnt {ok : AH → Prop} {g : FG} {p : FS} {P : Fl → AH → Prop} {it : Nat → D} {n : Nat} (I : Nat → ASt → AH → Prop)
    (turn : ∀ k s A, k < n → I k s A → ok A ∧ Sat (g (it k) s A) fun s1 A1 => Sat (p s1 A1) (turn_ (I (k + 1)) P)) (last : ∀ s A, I n s A → ok A ∧ P (.nx s) A)
    {s : ASt} {A : AH} (h : I 0 s A) : Sat (loopD ok g p ((List.range n).map it) s A) P := by
  rw [List.range_eq_range']
  refine loop_inv (fun rest s B => ∃ k j, k + j = n ∧ rest = (List.range' k j).map it ∧ I k s B) (fun d rest s B ⟨k, j, h1, h2, h3⟩ => ?_) (fun s B ⟨k, j, h1, h2, h3⟩ => ?_) _ _ _ ⟨0, n, by omega, rfl, h⟩
  · cases j with
    | zero => rw [List.range'_zero, List.map_nil] at h2; cases h2
    | succ j =>
      rw [List.range'_succ, List.map_cons, List.cons.injEq] at h2
      obtain ⟨e1, e2⟩ := h2
      subst e1
      obtain ⟨o1, o2⟩ := turn k s B (by omega) h3
      refine ⟨o1, Sat.imp o2 fun s1 A1 h4 => Sat.imp h4 fun fl A2 h5 => ?_⟩
      cases fl with
      | nx s2 => exact ⟨k + 1, j, by omega, e2, h5⟩
      | ct s2 => exact ⟨k + 1, j, by omega, e2, h5⟩
      | bk s2 => exact h5
      | rt d => exact h5
  · cases j with
    | zero => rw [show k = n by omega] at h3; exact last s B h3
    | succ j => rw [List.range'_succ, List.map_cons] at h2; cases h2
/-- a list's display over a range by an invariant over the turns -/
theorem comp_range {g : FG} {f : FE} {m : Nat} {s : ASt} {P : D → AH → Prop} {lo : Int} {n : Nat} (I : Nat → List D → AH → Prop)
    (turn : ∀ k acc A, k < n → I k acc A → Sat (g (.int (lo + (k : Nat))) s A) fun s1 A1 => Sat (f s1 A1) fun y A3 => A3[m]? = some (.lst acc) ∧ acc.length < 1000000 ∧ I (k + 1) (acc ++ [y]) (A3.set m (.lst (acc ++ [y]))))
    (last : ∀ acc A, I n acc A → P (.ref m) A) {acc : List D} {A : AH} (h : I 0 acc A) : Sat (loopC yes g fYes f m s (rngL lo n) A) P := by
  have e : rngL lo n = (List.range' 0 n).map fun k => .int (lo + (k : Nat)) := by rw [← List.range_eq_range']; rfl
  rw [e]
  refine comp_inv (fun rest acc B => ∃ k j, k + j = n ∧ rest = (List.range' k j).map (fun k => .int (lo + (k : Nat))) ∧ I k acc B) (fun d rest acc B ⟨k, j, h1, h2, h3⟩ => ⟨trivial, ?_⟩) (fun acc B ⟨k, j, h1, h2, h3⟩ => ⟨trivial, ?_⟩) _ acc _ ⟨0, n, by omega, rfl, h⟩
  · cases j with
    | zero => rw [List.range'_zero, List.map_nil] at h2; cases h2
    | succ j =>
      rw [List.range'_succ, List.map_cons, List.cons.injEq] at h2
      obtain ⟨e1, e2⟩ := h2
      subst e1
      refine Sat.imp (turn k acc B (by omega) h3) fun s1 A1 h4 => ?_
      show Sat (Res.ok true A1) _
      rw [sat_ok, if_pos rfl]
      exact Sat.imp h4 fun y A3 ⟨h5, h6, h7⟩ => ⟨h5, Nat.lt_of_lt_of_le h6 (by decide), k + 1, j, by omega, e2, h7⟩
  · cases j with
    | zero => rw [show k = n by omega] at h3; exact last acc B h3
    | succ j => rw [List.range'_succ, List.map_cons] at h2; cases h2
theorem ixN_pos {n : Nat} {k : Int} (h0 : 0 ≤ k) (h : k < n) : ixN n k = some k.toNat := by
  unfold ixN
  rw [if_pos h0, if_pos h]
theorem ev_sl_l {xs : List D} {lo hi : Option Int} (h : A[r]? = some (.lst xs)) : slD (.ref r) lo hi A = .ok (.ref A.length) (A ++ [.lst (cutL xs lo hi)]) := by
  show (match rdL A (.ref r) with
    | some xs => Ab.alloc (.lst (cutL xs lo hi)) A
    | none => .bad) = _
  rw [rdL_l h]; rfl
theorem ev_app {xs : List D} {y : D} (h : A[r]? = some (.lst xs)) (hl : xs.length < 1000000) : appendD (.ref r) [y] A = .ok .non (A.set r (.lst (xs ++ [y]))) := by
  show (match A[r]? with
    | some (.lst xs) => if xs.length < sizeLine then Res.ok D.non (A.set r (.lst (xs ++ [y]))) else .bad
    | _ => .bad) = _
  rw [h]
  exact if_pos (Nat.lt_of_lt_of_le hl (by decide))
theorem ty_l {xs : List D} (h : A[r]? = some (.lst xs)) : isTy "list" (.ref r) A = true := by
  simp [isTy, rdL_l h]
theorem ev_rev {xs : List D} (h : A[r]? = some (.lst xs)) : revD (.ref r) A = .ok (.ref A.length) (A ++ [.lst xs.reverse]) := by unfold revD; rw [rdL_l h]; rfl
theorem ev_iseq_t {ds : List D} : iSeq (.tup ds) A = .ok ⟨ds, yes⟩ A := rfl
theorem ev_iseq_l {xs : List D} (h : A[r]? = some (.lst xs)) : iSeq (.ref r) A = .ok ⟨xs, fun A' => rdL A' (.ref r) = some xs⟩ A := by
  show (match rdL A (.ref r) with
    | some ds => Res.ok (⟨ds, fun A' => rdL A' (.ref r) = some ds⟩ : Src) A
    | none => .bad) = _
  rw [rdL_l h]
theorem ev_max_l {xs : List Int} (h : A[r]? = some (.lst (xs.map D.int))) (h0 : xs ≠ []) : maxD [.ref r] A = .ok (.int (maxI xs)) A := by
  show (match rdL A (.ref r) with
    | some xs => (match intsOf xs with
      | some (i :: is) => Res.ok (D.int (maxI (i :: is))) A
      | _ => .bad)
    | none => .bad) = _
  have e : ∀ xs : List Int, intsOf (xs.map D.int) = some xs := by
    intro xs
    induction xs with
    | nil => rfl
    | cons x xs ih => show (match intsOf (xs.map D.int) with | some is => some (x :: is) | none => none) = _; rw [ih]
  rw [rdL_l h]
  simp only [e]
  cases xs with
  | nil => exact (h0 rfl).elim
  | cons x xs => rfl
theorem ev_min_l {xs : List Int} (h : A[r]? = some (.lst (xs.map D.int))) (h0 : xs ≠ []) : minD [.ref r] A = .ok (.int (minI xs)) A := by
  show (match rdL A (.ref r) with
    | some xs => (match intsOf xs with
      | some (i :: is) => Res.ok (D.int (minI (i :: is))) A
      | _ => .bad)
    | none => .bad) = _
  have e : ∀ xs : List Int, intsOf (xs.map D.int) = some xs := by
    intro xs
    induction xs with
    | nil => rfl
    | cons x xs ih => show (match intsOf (xs.map D.int) with | some is => some (x :: is) | none => none) = _; rw [ih]
  rw [rdL_l h]
  simp only [e]
  cases xs with
  | nil => exact (h0 rfl).elim
  | cons x xs => rfl
end
/-! ## greatest and least -/
/-! ## plain data -/
def Pl : Nat → D → Prop
  | _, .non => True
  | _, .bl _ => True
  | _, .int _ => True
  | _, .str _ => True
  | 0, .tup _ => False
  | n + 1, .tup ds => ds.length ≤ 1000000 ∧ ∀ d ∈ ds, Pl n d
  | _, .ref _ => False
end Ab

set_option maxHeartbeats 4000000
namespace Law
open PySem PySem.Spec PyProof.Rows L2 Ab
def top (i : Nat) : Stmt := PySem.Challenge.pw_neverhappens_k17_close.main.body.getD i (.Pass ⟨0, 0, 0, 0⟩)
abbrev s__law_cell : Stmt := top 6
abbrev n__law_cell : List Str := ["_law_script", "_law_at"]
abbrev s__law_pick : Stmt := top 8
abbrev n__law_pick : List Str := ["_law_source_here", "_law_size", "_law_k", "_law_digit", "_law_mixed"]
abbrev s__law_number : Stmt := top 13
abbrev n__law_number : List Str := ["_law_source_here", "_law_unit"]
abbrev s__law_way : Stmt := top 19
abbrev n__law_way : List Str := ["_law_sums", "_law_first", "_law_last"]
abbrev s__law_ring : Stmt := top 20
abbrev n__law_ring : List Str := ["_law_source_here", "_law_size", "_law_near", "_law_left", "_law_order", "_law_k", "_law_entries", "_law_far", "_law_entry", "_law_place", "_law_sums", "_law_rows", "_law_told", "_law_i", "_law_ways", "_law_row", "_law_at", "_law_j"]
abbrev s__law_same : Stmt := top 10
abbrev n__law_same : List Str := ["_law_actual", "_law_due", "_law_k"]
abbrev s__law_diagonal : Stmt := top 15
abbrev n__law_diagonal : List Str := ["_law_source_here", "_law_rows", "_law_odd", "_law_at", "_law_i", "_law_row"]
abbrev s__law_hull : Stmt := top 9
abbrev n__law_hull : List Str := ["_law_points_here", "_law_size", "_law_rows", "_law_i", "_law_row", "_law_j", "_law_point"]
abbrev s__law_fits : Stmt := top 12
abbrev n__law_fits : List Str := ["_law_matrix", "_law_point", "_law_c", "_law_value", "_law_k"]
abbrev s__law_points : Stmt := top 11
abbrev n__law_points : List Str := ["_law_matrix", "_law_i", "_law_points_here", "_law_c", "_law_longer", "_law_point", "_law_value"]
abbrev s__law_small : Stmt := top 16
abbrev n__law_small : List Str := ["_law_source_here", "_law_size", "_law_low", "_law_rows", "_law_i", "_law_j", "_law_matrix"]
abbrev s__law_source : Stmt := top 7
abbrev n__law_source : List Str := ["_law_cell_here"]
abbrev s__law_bounded : Stmt := top 14
abbrev n__law_bounded : List Str := ["_law_matrix", "_law_i", "_law_j", "_law_number_here", "_law_rows", "_law_k", "_law_start", "_law_m"]
abbrev s__law_closed : Stmt := top 17
abbrev n__law_closed : List Str := ["_law_matrix", "_law_size", "_law_far", "_law_row", "_law_entry", "_law_rows", "_law_i", "_law_box", "_law_j"]
abbrev s__law_wide : Stmt := top 18
abbrev n__law_wide : List Str := ["_law_source_here", "_law_size", "_law_values", "_law_k", "_law_unit", "_law_low", "_law_rows", "_law_i", "_law_row", "_law_j", "_law_matrix"]
abbrev s_frozen : Stmt := top 4
abbrev n_frozen : List Str := ["rows", "row"]
abbrev s_has_negative : Stmt := top 2
abbrev n_has_negative : List Str := ["rows", "at"]
abbrev s_shorten : Stmt := top 3
abbrev n_shorten : List Str := ["rows", "middle", "size", "behind", "i", "row", "ahead", "j"]
abbrev s_close : Stmt := top 1
abbrev n_close : List Str := ["matrix", "rows", "row", "size", "at", "middle"]
abbrev s_law : Stmt := top 21
abbrev n_law : List Str := ["_law_script", "_law_source_here", "_law_pair", "_law_choice"]
theorem sc__law_cell : FnScope n__law_cell ["_law_script", "_law_at"] (defScope s__law_cell) := ⟨rfl, rfl, rfl, by decide +kernel, rfl, by decide +kernel, by decide +kernel⟩
theorem sc__law_pick : FnScope n__law_pick ["_law_source_here", "_law_size"] (defScope s__law_pick) := ⟨rfl, rfl, rfl, by decide +kernel, rfl, by decide +kernel, by decide +kernel⟩
theorem sc__law_number : FnScope n__law_number ["_law_source_here"] (defScope s__law_number) := ⟨rfl, rfl, rfl, by decide +kernel, rfl, by decide +kernel, by decide +kernel⟩
theorem sc__law_way : FnScope n__law_way ["_law_sums", "_law_first", "_law_last"] (defScope s__law_way) := ⟨rfl, rfl, rfl, by decide +kernel, rfl, by decide +kernel, by decide +kernel⟩
theorem sc__law_ring : FnScope n__law_ring ["_law_source_here"] (defScope s__law_ring) := ⟨rfl, rfl, rfl, by decide +kernel, rfl, by decide +kernel, by decide +kernel⟩
theorem sc__law_same : FnScope n__law_same ["_law_actual", "_law_due"] (defScope s__law_same) := ⟨rfl, rfl, rfl, by decide +kernel, rfl, by decide +kernel, by decide +kernel⟩
theorem sc__law_diagonal : FnScope n__law_diagonal ["_law_source_here", "_law_rows"] (defScope s__law_diagonal) := ⟨rfl, rfl, rfl, by decide +kernel, rfl, by decide +kernel, by decide +kernel⟩
theorem sc__law_hull : FnScope n__law_hull ["_law_points_here", "_law_size"] (defScope s__law_hull) := ⟨rfl, rfl, rfl, by decide +kernel, rfl, by decide +kernel, by decide +kernel⟩
theorem sc__law_fits : FnScope n__law_fits ["_law_matrix", "_law_point", "_law_c", "_law_value"] (defScope s__law_fits) := ⟨rfl, rfl, rfl, by decide +kernel, rfl, by decide +kernel, by decide +kernel⟩
theorem sc__law_points : FnScope n__law_points ["_law_matrix"] (defScope s__law_points) := ⟨rfl, rfl, rfl, by decide +kernel, rfl, by decide +kernel, by decide +kernel⟩
theorem sc__law_small : FnScope n__law_small ["_law_source_here"] (defScope s__law_small) := ⟨rfl, rfl, rfl, by decide +kernel, rfl, by decide +kernel, by decide +kernel⟩
theorem sc__law_source : FnScope n__law_source ["_law_cell_here"] (defScope s__law_source) := ⟨rfl, rfl, rfl, by decide +kernel, rfl, by decide +kernel, by decide +kernel⟩
theorem sc__law_bounded : FnScope n__law_bounded ["_law_matrix", "_law_i", "_law_j", "_law_number_here"] (defScope s__law_bounded) := ⟨rfl, rfl, rfl, by decide +kernel, rfl, by decide +kernel, by decide +kernel⟩
theorem sc__law_closed : FnScope n__law_closed ["_law_matrix"] (defScope s__law_closed) := ⟨rfl, rfl, rfl, by decide +kernel, rfl, by decide +kernel, by decide +kernel⟩
theorem sc__law_wide : FnScope n__law_wide ["_law_source_here"] (defScope s__law_wide) := ⟨rfl, rfl, rfl, by decide +kernel, rfl, by decide +kernel, by decide +kernel⟩
theorem sc_frozen : FnScope n_frozen ["rows"] (defScope s_frozen) := ⟨rfl, rfl, rfl, by decide +kernel, rfl, by decide +kernel, by decide +kernel⟩
theorem sc_has_negative : FnScope n_has_negative ["rows"] (defScope s_has_negative) := ⟨rfl, rfl, rfl, by decide +kernel, rfl, by decide +kernel, by decide +kernel⟩
theorem sc_shorten : FnScope n_shorten ["rows", "middle"] (defScope s_shorten) := ⟨rfl, rfl, rfl, by decide +kernel, rfl, by decide +kernel, by decide +kernel⟩
theorem sc_close : FnScope n_close ["matrix"] (defScope s_close) := ⟨rfl, rfl, rfl, by decide +kernel, rfl, by decide +kernel, by decide +kernel⟩
theorem sc_law : FnScope n_law ["_law_script"] (defScope s_law) := ⟨rfl, rfl, rfl, by decide +kernel, rfl, by decide +kernel, by decide +kernel⟩
/-- what the top leaves -/
structure Txt (K : PySem.W.Frag) (mg : Str → Option Value) where
  a__law_cell : Addr
  d__law_cell : FuncData
  F__law_cell : Fun K "_law_cell" "_law_cell" s__law_cell a__law_cell d__law_cell
  b__law_cell : Binds K d__law_cell ["_law_script", "_law_at"] []
  g__law_cell : mg "_law_cell" = some (.ref a__law_cell)
  a__law_pick : Addr
  d__law_pick : FuncData
  F__law_pick : Fun K "_law_pick" "_law_pick" s__law_pick a__law_pick d__law_pick
  b__law_pick : Binds K d__law_pick ["_law_source_here", "_law_size"] []
  g__law_pick : mg "_law_pick" = some (.ref a__law_pick)
  a__law_number : Addr
  d__law_number : FuncData
  F__law_number : Fun K "_law_number" "_law_number" s__law_number a__law_number d__law_number
  b__law_number : Binds K d__law_number ["_law_source_here"] []
  g__law_number : mg "_law_number" = some (.ref a__law_number)
  a__law_way : Addr
  d__law_way : FuncData
  F__law_way : Fun K "_law_way" "_law_way" s__law_way a__law_way d__law_way
  b__law_way : Binds K d__law_way ["_law_sums", "_law_first", "_law_last"] []
  g__law_way : mg "_law_way" = some (.ref a__law_way)
  a__law_ring : Addr
  d__law_ring : FuncData
  F__law_ring : Fun K "_law_ring" "_law_ring" s__law_ring a__law_ring d__law_ring
  b__law_ring : Binds K d__law_ring ["_law_source_here"] []
  g__law_ring : mg "_law_ring" = some (.ref a__law_ring)
  a__law_same : Addr
  d__law_same : FuncData
  F__law_same : Fun K "_law_same" "_law_same" s__law_same a__law_same d__law_same
  b__law_same : Binds K d__law_same ["_law_actual", "_law_due"] []
  g__law_same : mg "_law_same" = some (.ref a__law_same)
  a__law_diagonal : Addr
  d__law_diagonal : FuncData
  F__law_diagonal : Fun K "_law_diagonal" "_law_diagonal" s__law_diagonal a__law_diagonal d__law_diagonal
  b__law_diagonal : Binds K d__law_diagonal ["_law_source_here", "_law_rows"] []
  g__law_diagonal : mg "_law_diagonal" = some (.ref a__law_diagonal)
  a__law_hull : Addr
  d__law_hull : FuncData
  F__law_hull : Fun K "_law_hull" "_law_hull" s__law_hull a__law_hull d__law_hull
  b__law_hull : Binds K d__law_hull ["_law_points_here", "_law_size"] []
  g__law_hull : mg "_law_hull" = some (.ref a__law_hull)
  a__law_fits : Addr
  d__law_fits : FuncData
  F__law_fits : Fun K "_law_fits" "_law_fits" s__law_fits a__law_fits d__law_fits
  b__law_fits : Binds K d__law_fits ["_law_matrix", "_law_point", "_law_c", "_law_value"] []
  g__law_fits : mg "_law_fits" = some (.ref a__law_fits)
  a__law_points : Addr
  d__law_points : FuncData
  F__law_points : Fun K "_law_points" "_law_points" s__law_points a__law_points d__law_points
  b__law_points : Binds K d__law_points ["_law_matrix"] []
  g__law_points : mg "_law_points" = some (.ref a__law_points)
  a__law_small : Addr
  d__law_small : FuncData
  F__law_small : Fun K "_law_small" "_law_small" s__law_small a__law_small d__law_small
  b__law_small : Binds K d__law_small ["_law_source_here"] []
  g__law_small : mg "_law_small" = some (.ref a__law_small)
  a__law_source : Addr
  d__law_source : FuncData
  F__law_source : Fun K "_law_source" "_law_source" s__law_source a__law_source d__law_source
  b__law_source : Binds K d__law_source ["_law_cell_here"] []
  g__law_source : mg "_law_source" = some (.ref a__law_source)
  a__law_bounded : Addr
  d__law_bounded : FuncData
  F__law_bounded : Fun K "_law_bounded" "_law_bounded" s__law_bounded a__law_bounded d__law_bounded
  b__law_bounded : Binds K d__law_bounded ["_law_matrix", "_law_i", "_law_j", "_law_number_here"] []
  g__law_bounded : mg "_law_bounded" = some (.ref a__law_bounded)
  a__law_closed : Addr
  d__law_closed : FuncData
  F__law_closed : Fun K "_law_closed" "_law_closed" s__law_closed a__law_closed d__law_closed
  b__law_closed : Binds K d__law_closed ["_law_matrix"] []
  g__law_closed : mg "_law_closed" = some (.ref a__law_closed)
  a__law_wide : Addr
  d__law_wide : FuncData
  F__law_wide : Fun K "_law_wide" "_law_wide" s__law_wide a__law_wide d__law_wide
  b__law_wide : Binds K d__law_wide ["_law_source_here"] []
  g__law_wide : mg "_law_wide" = some (.ref a__law_wide)
  a_frozen : Addr
  d_frozen : FuncData
  F_frozen : Fun K "frozen" "frozen" s_frozen a_frozen d_frozen
  b_frozen : Binds K d_frozen ["rows"] []
  g_frozen : mg "frozen" = some (.ref a_frozen)
  a_has_negative : Addr
  d_has_negative : FuncData
  F_has_negative : Fun K "has_negative" "has_negative" s_has_negative a_has_negative d_has_negative
  b_has_negative : Binds K d_has_negative ["rows"] []
  g_has_negative : mg "has_negative" = some (.ref a_has_negative)
  a_shorten : Addr
  d_shorten : FuncData
  F_shorten : Fun K "shorten" "shorten" s_shorten a_shorten d_shorten
  b_shorten : Binds K d_shorten ["rows", "middle"] []
  g_shorten : mg "shorten" = some (.ref a_shorten)
  a_close : Addr
  d_close : FuncData
  F_close : Fun K "close" "close" s_close a_close d_close
  b_close : Binds K d_close ["matrix"] []
  g_close : mg "close" = some (.ref a_close)
  a_law : Addr
  d_law : FuncData
  F_law : Fun K "law" "law" s_law a_law d_law
  b_law : Binds K d_law ["_law_script"] []
  g_law : mg "law" = some (.ref a_law)
  n_abs : mg "abs" = none
  n_bool : mg "bool" = none
  n_int : mg "int" = none
  n_isinstance : mg "isinstance" = none
  n_len : mg "len" = none
  n_list : mg "list" = none
  n_max : mg "max" = none
  n_min : mg "min" = none
  n_range : mg "range" = none
  n_str : mg "str" = none
  n_sum : mg "sum" = none
  n_tuple : mg "tuple" = none
/-! ### the defs as functions -/
noncomputable def p__law_cell  : FS :=
 fSeq (fIfS (fTB (fOp ltD (fV 1) (fCall lenD (fCons (fV 0) (fNil)))))
 (fRet (fOp ixD (fV 0) (fV 1)))
 (fPass))
 (fRet (fC (.int 0)))
noncomputable def m__law_cell : FM := body 2 2 p__law_cell
noncomputable def p__law_pick  : FS :=
 fSeq (fSet (fOp ixD (fV 0) (fC (.int 2))) 2)
 (fSeq (fAsg (fOp addD (fV 2) (fC (.int 1))) (gSb (fV 0) (fC (.int 2))))
 (fSeq (fIfS (fTB (fOp ltD (fV 1) (fC (.int 2))))
 (fRet (fC (.int 0)))
 (fPass))
 (fSeq (fIfS (fTAnd (fTB (fOp geD (fOp ixD (fV 0) (fC (.int 0))) (fOp powD (fC (.int 10)) (fC (.int 18))))) (fTB (fOp gtD (fOp ixD (fV 0) (fC (.int 1))) (fC (.int 0)))))
 (fSeq (fSet (fOp modD (fCall intD (fCons (fOp ixD (fV 0) (fC (.int 1))) (fNil))) (fV 1)) 3)
 (fSeq (fAsg (fOp fdivD (fOp ixD (fV 0) (fC (.int 1))) (fV 1)) (gSb (fV 0) (fC (.int 1))))
 (fRet (fV 3))))
 (fPass))
 (fSeq (fSet (fOp modD (fCall intD (fCons (fOp addD (fOp addD (fOp ixD (fV 0) (fC (.int 0))) (fOp mulD (fC (.int 7919)) (fV 2))) (fC (.int 13))) (fNil))) (fC (.int 2147483647))) 4)
 (fSeq (fSet (fOp modD (fCall intD (fCons (fOp mulD (fV 4) (fOp addD (fV 4) (fC (.int 48271)))) (fNil))) (fC (.int 2147483629))) 4)
 (fSeq (fSet (fOp modD (fCall intD (fCons (fOp addD (fOp mulD (fV 4) (fOp addD (fV 4) (fC (.int 69621)))) (fOp mulD (fC (.int 31)) (fV 2))) (fNil))) (fC (.int 2147483647))) 4)
 (fRet (fOp modD (fCall intD (fCons (fOp fdivD (fV 4) (fC (.int 9))) (fNil))) (fV 1)))))))))
noncomputable def m__law_pick : FM := body 2 5 p__law_pick
noncomputable def p__law_number  : FS :=
 fSeq (fSet (fOp ixD (fLst (fCons (fC (.int 1)) (fCons (fC (.int 1)) (fCons (fC (.int 1000)) (fCons (fOp powD (fC (.int 10)) (fC (.int 8))) (fCons (fOp powD (fC (.int 10)) (fC (.int 17))) (fNil))))))) (fOwn 2 m__law_pick (fCons (fV 0) (fCons (fC (.int 5)) (fNil))))) 1)
 (fRet (fOp subD (fOp addD (fOp mulD (fOp subD (fOwn 2 m__law_pick (fCons (fV 0) (fCons (fC (.int 19)) (fNil)))) (fC (.int 9))) (fV 1)) (fOwn 2 m__law_pick (fCons (fV 0) (fCons (fC (.int 7)) (fNil))))) (fC (.int 3))))
noncomputable def m__law_number : FM := body 1 2 p__law_number
noncomputable def p__law_way  : FS :=
 fSeq (fIfS (fTB (fOp leD (fV 1) (fV 2)))
 (fRet (fOp subD (fOp ixD (fV 0) (fV 2)) (fOp ixD (fV 0) (fV 1))))
 (fPass))
 (fRet (fOp addD (fOp subD (fOp ixD (fV 0) (fV 2)) (fOp ixD (fV 0) (fV 1))) (fOp ixD (fV 0) (fUn negD (fC (.int 1))))))
noncomputable def m__law_way : FM := body 3 3 p__law_way
noncomputable def p__law_ring  : FS :=
 fSeq (fSet (fOp addD (fC (.int 1)) (fOwn 2 m__law_pick (fCons (fV 0) (fCons (fC (.int 6)) (fNil))))) 1)
 (fSeq (fIfS (fTB (fOp eqD (fOwn 2 m__law_pick (fCons (fV 0) (fCons (fC (.int 2)) (fNil)))) (fC (.int 0))))
 (fSet (fOp addD (fC (.int 7)) (fOwn 2 m__law_pick (fCons (fV 0) (fCons (fC (.int 14)) (fNil))))) 1)
 (fPass))
 (fSeq (fSet (fOwn 2 m__law_pick (fCons (fV 0) (fCons (fC (.int 2)) (fNil)))) 2)
 (fSeq (fSet (rgD (fC (.int 0)) (fOp addD (fV 1) (fC (.int 1))) rgLst) 3)
 (fSeq (fSet (fLst (fNil)) 4)
 (fSeq (fFor (fRg1 (fOp addD (fV 1) (fC (.int 1)))) (gN 5)
 (fEx (fMt "list" appendD (fV 4) (fCons (fMt "list" popAtD (fV 3) (fCons (fOwn 2 m__law_pick (fCons (fV 0) (fCons (fCall lenD (fCons (fV 3) (fNil))) (fNil)))) (fNil))) (fNil)))))
 (fSeq (fSet (fLc (fRg1 (fV 1)) (gN 5) (fYes) (fOwn 1 m__law_number (fCons (fV 0) (fNil))) [5]) 6)
 (fSeq (fEx (fMt "list" appendD (fV 6) (fCons (fOp subD (fOp subD (fOwn 2 m__law_pick (fCons (fV 0) (fCons (fC (.int 5)) (fNil)))) (fC (.int 1))) (fCall sumD (fCons (fV 6) (fNil)))) (fNil))))
 (fSeq (fSet (fCall sumD (fCons (fLc (fItS (fV 6)) (gN 8) (fYes) (fCall absD (fCons (fV 8) (fNil))) [8]) (fNil))) 7)
 (fSeq (fSet (fOp mulD (fLst (fCons (fC (.int 0)) (fNil))) (fOp addD (fV 1) (fC (.int 1)))) 9)
 (fSeq (fSet (fLst (fCons (fC (.int 0)) (fNil))) 10)
 (fSeq (fFor (fRg1 (fOp addD (fV 1) (fC (.int 1)))) (gN 5)
 (fSeq (fAsg (fV 5) (gSb (fV 9) (fOp ixD (fV 4) (fV 5))))
 (fEx (fMt "list" appendD (fV 10) (fCons (fOp addD (fOp ixD (fV 10) (fV 5)) (fOp ixD (fV 6) (fV 5))) (fNil))))))
 (fSeq (fSet (fLst (fNil)) 11)
 (fSeq (fSet (fLst (fNil)) 12)
 (fSeq (fFor (fRg1 (fOp addD (fV 1) (fC (.int 1)))) (gN 13)
 (fSeq (fSet (fLc (fRg1 (fOp addD (fV 1) (fC (.int 1)))) (gN 17) (fYes) (fOwn 3 m__law_way (fCons (fV 10) (fCons (fOp ixD (fV 9) (fV 13)) (fCons (fOp ixD (fV 9) (fV 17)) (fNil))))) [17]) 14)
 (fSeq (fSet (fLc (fRg1 (fOp addD (fV 1) (fC (.int 1)))) (gN 17) (fYes) (fOp addD (fOp addD (fOp mulD (fOp ixD (fV 14) (fV 17)) (fV 2)) (fOp mulD (fV 7) (fOp subD (fC (.int 1)) (fV 2)))) (fOp modD (fCall intD (fCons (fOp addD (fV 13) (fOp mulD (fC (.int 2)) (fV 17))) (fNil))) (fC (.int 3)))) [17]) 15)
 (fSeq (fAsg (fC (.int 0)) (gSb (fV 15) (fV 13)))
 (fSeq (fSet (fOp ixD (fV 4) (fOp modD (fCall intD (fCons (fOp addD (fOp ixD (fV 9) (fV 13)) (fC (.int 1))) (fNil))) (fOp addD (fV 1) (fC (.int 1))))) 16)
 (fSeq (fAsg (fOp ixD (fV 6) (fOp ixD (fV 9) (fV 13))) (gSb (fV 15) (fV 16)))
 (fSeq (fEx (fMt "list" appendD (fV 11) (fCons (fCall tupOf (fCons (fV 15) (fNil))) (fNil))))
 (fEx (fMt "list" appendD (fV 12) (fCons (fCall tupOf (fCons (fV 14) (fNil))) (fNil)))))))))))
 (fSeq (fIfS (fTB (fOp ltD (fOp ixD (fV 10) (fOp addD (fV 1) (fC (.int 1)))) (fC (.int 0))))
 (fRet (fLst (fCons (fCall tupOf (fCons (fV 11) (fNil))) (fCons (fC .non) (fNil)))))
 (fPass))
 (fRet (fLst (fCons (fCall tupOf (fCons (fV 11) (fNil))) (fCons (fCall tupOf (fCons (fV 12) (fNil))) (fNil))))))))))))))))))))
noncomputable def m__law_ring : FM := body 1 18 p__law_ring
noncomputable def p__law_same (r__law_same : FM) : FS :=
 fSeq (fIfS (fTOr (fT (fUn (isiD "tuple") (fV 1))) (fT (fUn (isiD "list") (fV 1))))
 (fSeq (fIfS (fTOr (fTB (fOp neD (fUn (isiD "tuple") (fV 1)) (fUn (isiD "tuple") (fV 0)))) (fTB (fOp neD (fUn (isiD "list") (fV 1)) (fUn (isiD "list") (fV 0)))))
 (fRet (fC (.bl false)))
 (fPass))
 (fSeq (fIfS (fTB (fOp neD (fCall lenD (fCons (fV 0) (fNil))) (fCall lenD (fCons (fV 1) (fNil)))))
 (fRet (fC (.bl false)))
 (fPass))
 (fSeq (fFor (fRg1 (fCall lenD (fCons (fV 1) (fNil)))) (gN 2)
 (fIfS (fTNot (fT (fOwn 2 r__law_same (fCons (fOp ixD (fV 0) (fV 2)) (fCons (fOp ixD (fV 1) (fV 2)) (fNil))))))
 (fRet (fC (.bl false)))
 (fPass)))
 (fRet (fC (.bl true))))))
 (fPass))
 (fSeq (fIfS (fTB (fOp isD (fV 1) (fC .non)))
 (fRet (fOp isD (fV 0) (fC .non)))
 (fPass))
 (fSeq (fIfS (fT (fUn (isiD "bool") (fV 1)))
 (fRet (fAnd (fUn (isiD "bool") (fV 0)) (fOp eqD (fV 0) (fV 1))))
 (fPass))
 (fSeq (fIfS (fT (fUn (isiD "int") (fV 1)))
 (fRet (fAnd (fUn (isiD "int") (fV 0)) (fAnd (fNot (fUn (isiD "bool") (fV 0))) (fOp eqD (fV 0) (fV 1)))))
 (fPass))
 (fRet (fAnd (fUn (isiD "str") (fV 0)) (fOp eqD (fV 0) (fV 1)))))))
noncomputable def m__law_same : Nat → FM
  | 0 => fun _ _ => .bad
  | n + 1 => body 2 3 (p__law_same (m__law_same n))
noncomputable def p__law_diagonal  : FS :=
 fSeq (fSet (fOwn 2 m__law_pick (fCons (fV 0) (fCons (fC (.int 6)) (fNil)))) 2)
 (fSeq (fSet (fOwn 2 m__law_pick (fCons (fV 0) (fCons (fCall lenD (fCons (fV 1) (fNil))) (fNil)))) 3)
 (fSeq (fFor (fRg1 (fCall lenD (fCons (fV 1) (fNil)))) (gN 4)
 (fSeq (fSet (fOp ixD (fV 1) (fV 4)) 5)
 (fSeq (fAsg (fC (.int 0)) (gSb (fV 5) (fV 4)))
 (fSeq (fIfS (fTB (fOp ltD (fV 2) (fC (.int 2))))
 (fAsg (fOwn 2 m__law_pick (fCons (fV 0) (fCons (fC (.int 4)) (fNil)))) (gSb (fV 5) (fV 4)))
 (fPass))
 (fIfS (fTAnd (fTB (fOp eqD (fV 2) (fC (.int 2)))) (fTB (fOp eqD (fV 4) (fV 3))))
 (fAsg (fOp subD (fOp subD (fC (.int 0)) (fC (.int 1))) (fOwn 2 m__law_pick (fCons (fV 0) (fCons (fC (.int 3)) (fNil))))) (gSb (fV 5) (fV 4)))
 (fPass))))))
 (fRet (fCall tupOf (fCons (fLc (fItS (fV 1)) (gN 5) (fYes) (fCall tupOf (fCons (fV 5) (fNil))) [5]) (fNil))))))
noncomputable def m__law_diagonal : FM := body 2 6 p__law_diagonal
noncomputable def p__law_hull  : FS :=
 fSeq (fIfS (fTB (fOp eqD (fV 0) (fLst (fNil))))
 (fRet (fC .non))
 (fPass))
 (fSeq (fSet (fLst (fNil)) 2)
 (fSeq (fFor (fRg1 (fOp addD (fV 1) (fC (.int 1)))) (gN 3)
 (fSeq (fSet (fLst (fNil)) 4)
 (fSeq (fFor (fRg1 (fOp addD (fV 1) (fC (.int 1)))) (gN 5)
 (fEx (fMt "list" appendD (fV 4) (fCons (fCall maxD (fCons (fLc (fItS (fV 0)) (gN 6) (fYes) (fOp subD (fOp ixD (fOp addD (fTup (fCons (fC (.int 0)) (fNil))) (fV 6)) (fV 3)) (fOp ixD (fOp addD (fTup (fCons (fC (.int 0)) (fNil))) (fV 6)) (fV 5))) [6]) (fNil))) (fNil)))))
 (fEx (fMt "list" appendD (fV 2) (fCons (fCall tupOf (fCons (fV 4) (fNil))) (fNil)))))))
 (fRet (fCall tupOf (fCons (fV 2) (fNil))))))
noncomputable def m__law_hull : FM := body 2 7 p__law_hull
noncomputable def p__law_fits  : FS :=
 fSeq (fFor (fRg1 (fCall lenD (fCons (fV 1) (fNil)))) (gN 4)
 (fIfS (fTOr (fTB (fOp gtD (fOp subD (fV 3) (fOp ixD (fV 1) (fV 4))) (fOp ixD (fOp ixD (fV 0) (fV 2)) (fOp addD (fV 4) (fC (.int 1)))))) (fTB (fOp gtD (fOp subD (fOp ixD (fV 1) (fV 4)) (fV 3)) (fOp ixD (fOp ixD (fV 0) (fOp addD (fV 4) (fC (.int 1)))) (fV 2)))))
 (fRet (fC (.bl false)))
 (fPass)))
 (fRet (fC (.bl true)))
noncomputable def m__law_fits : FM := body 4 5 p__law_fits
noncomputable def p__law_points  : FS :=
 fSeq (fIfS (fTOr (fTB (fOp isD (fV 0) (fC .non))) (fTB (fOp ltD (fCall minD (fCons (fLc (fRg1 (fCall lenD (fCons (fV 0) (fNil)))) (gN 1) (fYes) (fOp ixD (fOp ixD (fV 0) (fV 1)) (fV 1)) [1]) (fNil))) (fC (.int 0)))))
 (fRet (fLst (fNil)))
 (fPass))
 (fSeq (fSet (fLst (fCons (fTup (fNil)) (fNil))) 2)
 (fSeq (fFor (fRg2 (fC (.int 1)) (fCall lenD (fCons (fV 0) (fNil)))) (gN 3)
 (fSeq (fSet (fLst (fNil)) 4)
 (fSeq (fFor (fItS (fV 2)) (gN 5)
 (fFor (fRg2 (fOp subD (fC (.int 0)) (fOp ixD (fOp ixD (fV 0) (fC (.int 0))) (fV 3))) (fOp addD (fOp ixD (fOp ixD (fV 0) (fV 3)) (fC (.int 0))) (fC (.int 1)))) (gN 6)
 (fIfS (fT (fOwn 4 m__law_fits (fCons (fV 0) (fCons (fV 5) (fCons (fV 3) (fCons (fV 6) (fNil)))))))
 (fEx (fMt "list" appendD (fV 4) (fCons (fOp addD (fV 5) (fTup (fCons (fV 6) (fNil)))) (fNil))))
 (fPass))))
 (fSet (fCall lstOf (fCons (fV 4) (fNil))) 2))))
 (fRet (fV 2))))
noncomputable def m__law_points : FM := body 1 7 p__law_points
noncomputable def p__law_small  : FS :=
 fSeq (fSet (fOwn 2 m__law_pick (fCons (fV 0) (fCons (fC (.int 4)) (fNil)))) 1)
 (fSeq (fSet (fOwn 2 m__law_pick (fCons (fV 0) (fCons (fC (.int 3)) (fNil)))) 2)
 (fSeq (fSet (fLst (fNil)) 3)
 (fSeq (fFor (fRg1 (fOp addD (fV 1) (fC (.int 1)))) (gN 4)
 (fEx (fMt "list" appendD (fV 3) (fCons (fLc (fRg1 (fOp addD (fV 1) (fC (.int 1)))) (gN 5) (fYes) (fOp subD (fOwn 2 m__law_pick (fCons (fV 0) (fCons (fC (.int 6)) (fNil)))) (fV 2)) [5]) (fNil)))))
 (fSeq (fSet (fOwn 2 m__law_diagonal (fCons (fV 0) (fCons (fV 3) (fNil)))) 6)
 (fRet (fLst (fCons (fV 6) (fCons (fOwn 2 m__law_hull (fCons (fOwn 1 m__law_points (fCons (fV 6) (fNil))) (fCons (fV 1) (fNil)))) (fNil)))))))))
noncomputable def m__law_small : FM := body 1 7 p__law_small
noncomputable def p__law_source  : FS :=
 fRet (fLst (fCons (fV 0) (fCons (fV 0) (fCons (fC (.int 0)) (fNil)))))
noncomputable def m__law_source : FM := body 1 1 p__law_source
noncomputable def p__law_bounded  : FS :=
 fSeq (fIfS (fTOr (fTB (fOp isD (fV 0) (fC .non))) (fTB (fOp ltD (fOp addD (fV 3) (fOp ixD (fOp ixD (fV 0) (fV 2)) (fV 1))) (fC (.int 0)))))
 (fRet (fC .non))
 (fPass))
 (fSeq (fSet (fLst (fNil)) 4)
 (fSeq (fFor (fRg1 (fCall lenD (fCons (fV 0) (fNil)))) (gN 5)
 (fSeq (fSet (fOp addD (fOp ixD (fOp ixD (fV 0) (fV 5)) (fV 1)) (fV 3)) 6)
 (fEx (fMt "list" appendD (fV 4) (fCons (fCall tupOf (fCons (fLc (fRg1 (fCall lenD (fCons (fV 0) (fNil)))) (gN 7) (fYes) (fCall minD (fCons (fOp ixD (fOp ixD (fV 0) (fV 5)) (fV 7)) (fCons (fOp addD (fV 6) (fOp ixD (fOp ixD (fV 0) (fV 2)) (fV 7))) (fNil)))) [7]) (fNil))) (fNil))))))
 (fRet (fCall tupOf (fCons (fV 4) (fNil))))))
noncomputable def m__law_bounded : FM := body 4 8 p__law_bounded
noncomputable def p__law_closed  : FS :=
 fSeq (fSet (fCall lenD (fCons (fV 0) (fNil))) 1)
 (fSeq (fSet (fC (.int 1)) 2)
 (fSeq (fFor (fItS (fV 0)) (gN 3)
 (fSet (fOp addD (fV 2) (fCall sumD (fCons (fLc (fItS (fV 3)) (gN 4) (fYes) (fCall absD (fCons (fV 4) (fNil))) [4]) (fNil)))) 2))
 (fSeq (fSet (fLst (fNil)) 5)
 (fSeq (fFor (fRg1 (fV 1)) (gN 6)
 (fSeq (fSet (fOp mulD (fLst (fCons (fV 2) (fNil))) (fV 1)) 3)
 (fSeq (fAsg (fC (.int 0)) (gSb (fV 3) (fV 6)))
 (fEx (fMt "list" appendD (fV 5) (fCons (fCall tupOf (fCons (fV 3) (fNil))) (fNil)))))))
 (fSeq (fSet (fCall tupOf (fCons (fV 5) (fNil))) 7)
 (fSeq (fFor (fRg1 (fV 1)) (gN 6)
 (fSeq (fIfS (fTB (fOp ltD (fOp ixD (fOp ixD (fV 0) (fV 6)) (fV 6)) (fC (.int 0))))
 (fRet (fC .non))
 (fPass))
 (fFor (fRg1 (fV 1)) (gN 8)
 (fIfS (fTB (fOp neD (fV 6) (fV 8)))
 (fSet (fOwn 4 m__law_bounded (fCons (fV 7) (fCons (fV 6) (fCons (fV 8) (fCons (fOp ixD (fOp ixD (fV 0) (fV 6)) (fV 8)) (fNil)))))) 7)
 (fPass)))))
 (fRet (fV 7))))))))
noncomputable def m__law_closed : FM := body 1 9 p__law_closed
noncomputable def p__law_wide  : FS :=
 fSeq (fSet (fOwn 2 m__law_pick (fCons (fV 0) (fCons (fC (.int 7)) (fNil)))) 1)
 (fSeq (fSet (fLc (fRg1 (fOp addD (fV 1) (fC (.int 1)))) (gN 3) (fYes) (fOwn 1 m__law_number (fCons (fV 0) (fNil))) [3]) 2)
 (fSeq (fSet (fOp ixD (fLst (fCons (fC (.int 1)) (fCons (fC (.int 1000)) (fCons (fOp addD (fOp powD (fC (.int 10)) (fC (.int 8))) (fC (.int 7))) (fNil))))) (fOwn 2 m__law_pick (fCons (fV 0) (fCons (fC (.int 3)) (fNil))))) 4)
 (fSeq (fSet (fOwn 2 m__law_pick (fCons (fV 0) (fCons (fC (.int 3)) (fNil)))) 5)
 (fSeq (fSet (fLst (fNil)) 6)
 (fSeq (fFor (fRg1 (fOp addD (fV 1) (fC (.int 1)))) (gN 7)
 (fSeq (fSet (fLst (fNil)) 8)
 (fSeq (fFor (fRg1 (fOp addD (fV 1) (fC (.int 1)))) (gN 9)
 (fEx (fMt "list" appendD (fV 8) (fCons (fOp addD (fOp addD (fOp subD (fOp ixD (fV 2) (fV 7)) (fOp ixD (fV 2) (fV 9))) (fOp mulD (fOp subD (fOwn 2 m__law_pick (fCons (fV 0) (fCons (fC (.int 9)) (fNil)))) (fV 5)) (fV 4))) (fOwn 2 m__law_pick (fCons (fV 0) (fCons (fC (.int 3)) (fNil))))) (fNil)))))
 (fEx (fMt "list" appendD (fV 6) (fCons (fV 8) (fNil)))))))
 (fSeq (fSet (fOwn 2 m__law_diagonal (fCons (fV 0) (fCons (fV 6) (fNil)))) 10)
 (fRet (fLst (fCons (fV 10) (fCons (fOwn 1 m__law_closed (fCons (fV 10) (fNil))) (fNil)))))))))))
noncomputable def m__law_wide : FM := body 1 11 p__law_wide
noncomputable def p_frozen  : FS :=
 fRet (fCall tupOf (fCons (fLc (fItS (fV 0)) (gN 1) (fYes) (fCall tupOf (fCons (fV 1) (fNil))) [1]) (fNil)))
noncomputable def m_frozen : FM := body 1 2 p_frozen
noncomputable def p_has_negative  : FS :=
 fSeq (fFor (fRg1 (fCall lenD (fCons (fV 0) (fNil)))) (gN 1)
 (fIfS (fTB (fOp ltD (fOp ixD (fOp ixD (fV 0) (fV 1)) (fV 1)) (fC (.int 0))))
 (fRet (fC (.bl true)))
 (fPass)))
 (fRet (fC (.bl false)))
noncomputable def m_has_negative : FM := body 1 2 p_has_negative
noncomputable def p_shorten  : FS :=
 fSeq (fSet (fCall lenD (fCons (fV 0) (fNil))) 2)
 (fSeq (fSet (fCall lstOf (fCons (fOp ixD (fV 0) (fV 1)) (fNil))) 3)
 (fFor (fRg1 (fV 2)) (gN 4)
 (fSeq (fSet (fOp ixD (fV 0) (fV 4)) 5)
 (fSeq (fSet (fOp ixD (fV 5) (fV 1)) 6)
 (fFor (fRg1 (fV 2)) (gN 7)
 (fIfS (fTB (fOp ltD (fOp addD (fV 6) (fOp ixD (fV 3) (fV 7))) (fOp ixD (fV 5) (fV 7))))
 (fAsg (fOp addD (fV 6) (fOp ixD (fV 3) (fV 7))) (gSb (fV 5) (fV 7)))
 (fPass)))))))
noncomputable def m_shorten : FM := body 2 8 p_shorten
noncomputable def p_close  : FS :=
 fSeq (fSet (fLc (fItS (fV 0)) (gN 2) (fYes) (fCall lstOf (fCons (fV 2) (fNil))) [2]) 1)
 (fSeq (fSet (fCall lenD (fCons (fV 1) (fNil))) 3)
 (fSeq (fIfS (fT (fOwn 1 m_has_negative (fCons (fV 1) (fNil))))
 (fRet (fC .non))
 (fPass))
 (fSeq (fFor (fRg1 (fV 3)) (gN 4)
 (fAsg (fC (.int 0)) (gSb (fOp ixD (fV 1) (fV 4)) (fV 4))))
 (fSeq (fFor (fRg1 (fV 3)) (gN 5)
 (fSeq (fEx (fOwn 2 m_shorten (fCons (fV 1) (fCons (fV 5) (fNil)))))
 (fIfS (fT (fOwn 1 m_has_negative (fCons (fV 1) (fNil))))
 (fRet (fC .non))
 (fPass))))
 (fRet (fOwn 1 m_frozen (fCons (fV 1) (fNil))))))))
noncomputable def m_close : FM := body 1 6 p_close
noncomputable def p_law  : FS :=
 fSeq (fSet (fOwn 1 m__law_source (fCons (fOwn 2 m__law_cell (fCons (fV 0) (fCons (fC (.int 0)) (fNil)))) (fNil))) 1)
 (fSeq (fSet (fLst (fNil)) 2)
 (fSeq (fSet (fOwn 2 m__law_pick (fCons (fV 1) (fCons (fC (.int 4)) (fNil)))) 3)
 (fSeq (fIfS (fTB (fOp eqD (fV 3) (fC (.int 0))))
 (fSet (fOwn 1 m__law_ring (fCons (fV 1) (fNil))) 2)
 (fIfS (fTB (fOp eqD (fV 3) (fC (.int 1))))
 (fSet (fOwn 1 m__law_wide (fCons (fV 1) (fNil))) 2)
 (fSet (fOwn 1 m__law_small (fCons (fV 1) (fNil))) 2)))
 (fSeq (fIfS (fTNot (fT (fOwn 2 (m__law_same 20) (fCons (fOwn 1 m_close (fCons (fOp ixD (fV 2) (fC (.int 0))) (fNil))) (fCons (fOp ixD (fV 2) (fC (.int 1))) (fNil))))))
 (fRet (fC (.bl false)))
 (fPass))
 (fSeq (fIfS (fTAnd (fTB (fOp isntD (fOp ixD (fV 2) (fC (.int 1))) (fC .non))) (fTAnd (fTB (fOp ltD (fCall lenD (fCons (fOp ixD (fV 2) (fC (.int 1))) (fNil))) (fC (.int 9)))) (fTNot (fT (fOwn 2 (m__law_same 20) (fCons (fOwn 1 m_close (fCons (fOp ixD (fV 2) (fC (.int 1))) (fNil))) (fCons (fOp ixD (fV 2) (fC (.int 1))) (fNil))))))))
 (fRet (fC (.bl false)))
 (fPass))
 (fSeq (fSet (fOwn 1 m__law_small (fCons (fOwn 1 m__law_source (fCons (fOwn 2 m__law_cell (fCons (fV 0) (fCons (fC (.int 1)) (fNil)))) (fNil))) (fNil))) 2)
 (fSeq (fIfS (fTNot (fT (fOwn 2 (m__law_same 20) (fCons (fOwn 1 m_close (fCons (fOp ixD (fV 2) (fC (.int 0))) (fNil))) (fCons (fOp ixD (fV 2) (fC (.int 1))) (fNil))))))
 (fRet (fC (.bl false)))
 (fPass))
 (fSeq (fSet (fOwn 1 m__law_wide (fCons (fOwn 1 m__law_source (fCons (fOwn 2 m__law_cell (fCons (fV 0) (fCons (fC (.int 2)) (fNil)))) (fNil))) (fNil))) 2)
 (fRet (fOwn 2 (m__law_same 20) (fCons (fOwn 1 m_close (fCons (fOp ixD (fV 2) (fC (.int 0))) (fNil))) (fCons (fOp ixD (fV 2) (fC (.int 1))) (fNil)))))))))))))
noncomputable def m_law : FM := body 1 4 p_law
/-! ### the walk of each def -/
section
variable {P : Program} {w : World} {K : PySem.W.Frag} {mg : Str → Option Value} {base : Heap}
theorem ad__law_cell (T : Txt K mg) : ADef P w K mg base 1 T.a__law_cell T.d__law_cell ["_law_script", "_law_at"] m__law_cell :=
 adef T.F__law_cell sc__law_cell fun cdv A outer s H E hr =>
 ass_cons (as_if (at_cmp aop_lt (ae_v 1) (ae_callB acall_len (by rfl) T.n_len PySem.boot_len (aa_cons (ae_v 0) (aa_nil))))
 (ass_one (as_ret (ae_ix (hu_of hr) (ae_v 0) (ae_v 1))))
 (ass_nil))
 (ass_one (as_ret (ae_int)))
theorem ad__law_pick (T : Txt K mg) : ADef P w K mg base 1 T.a__law_pick T.d__law_pick ["_law_source_here", "_law_size"] m__law_pick :=
 adef T.F__law_pick sc__law_pick fun cdv A outer s H E hr =>
 ass_cons (as_set (i := 2) sc__law_pick.nd (ae_ix (hu_of hr) (ae_v 0) (ae_int)))
 (ass_cons (as_asg (ae_op aop_add (ae_v 2) (ae_int)) (ag_sub (hu_of hr) (ae_v 0) (ae_int)))
 (ass_cons (as_if (at_cmp aop_lt (ae_v 1) (ae_int))
 (ass_one (as_ret (ae_int)))
 (ass_nil))
 (ass_cons (as_if ((aw_and (at_cmp aop_ge (ae_ix (hu_of hr) (ae_v 0) (ae_int)) (ae_op aop_pow (ae_int) (ae_int))) (aw_and1 (at_cmp aop_gt (ae_ix (hu_of hr) (ae_v 0) (ae_int)) (ae_int)))).pt)
 (ass_cons (as_set (i := 3) sc__law_pick.nd (ae_op aop_mod (ae_callT acall_int (by rfl) T.n_int PyProof.Rows.boot_int (aa_cons (ae_ix (hu_of hr) (ae_v 0) (ae_int)) (aa_nil))) (ae_v 1)))
 (ass_cons (as_asg (ae_op aop_fdiv (ae_ix (hu_of hr) (ae_v 0) (ae_int)) (ae_v 1)) (ag_sub (hu_of hr) (ae_v 0) (ae_int)))
 (ass_one (as_ret (ae_v 3)))))
 (ass_nil))
 (ass_cons (as_set (i := 4) sc__law_pick.nd (ae_op aop_mod (ae_callT acall_int (by rfl) T.n_int PyProof.Rows.boot_int (aa_cons (ae_op aop_add (ae_op aop_add (ae_ix (hu_of hr) (ae_v 0) (ae_int)) (ae_op aop_mul (ae_int) (ae_v 2))) (ae_int)) (aa_nil))) (ae_int)))
 (ass_cons (as_set (i := 4) sc__law_pick.nd (ae_op aop_mod (ae_callT acall_int (by rfl) T.n_int PyProof.Rows.boot_int (aa_cons (ae_op aop_mul (ae_v 4) (ae_op aop_add (ae_v 4) (ae_int))) (aa_nil))) (ae_int)))
 (ass_cons (as_set (i := 4) sc__law_pick.nd (ae_op aop_mod (ae_callT acall_int (by rfl) T.n_int PyProof.Rows.boot_int (aa_cons (ae_op aop_add (ae_op aop_mul (ae_v 4) (ae_op aop_add (ae_v 4) (ae_int))) (ae_op aop_mul (ae_int) (ae_v 2))) (aa_nil))) (ae_int)))
 (ass_one (as_ret (ae_op aop_mod (ae_callT acall_int (by rfl) T.n_int PyProof.Rows.boot_int (aa_cons (ae_op aop_fdiv (ae_v 4) (ae_int)) (aa_nil))) (ae_v 1))))))))))
theorem ad__law_number (T : Txt K mg) : ADef P w K mg base 2 T.a__law_number T.d__law_number ["_law_source_here"] m__law_number :=
 adef T.F__law_number sc__law_number fun cdv A outer s H E hr =>
 ass_cons (as_set (i := 1) sc__law_number.nd (ae_ix (hu_of hr) (ae_lst (aa_cons (ae_int) (aa_cons (ae_int) (aa_cons (ae_int) (aa_cons (ae_op aop_pow (ae_int) (ae_int)) (aa_cons (ae_op aop_pow (ae_int) (ae_int)) (aa_nil))))))) (ae_call (ad__law_pick T) (hr.mono (by omega)) (by rfl) T.g__law_pick T.F__law_pick.kp T.b__law_pick (aa_cons (ae_v 0) (aa_cons (ae_int) (aa_nil))))))
 (ass_one (as_ret (ae_op aop_sub (ae_op aop_add (ae_op aop_mul (ae_op aop_sub (ae_call (ad__law_pick T) (hr.mono (by omega)) (by rfl) T.g__law_pick T.F__law_pick.kp T.b__law_pick (aa_cons (ae_v 0) (aa_cons (ae_int) (aa_nil)))) (ae_int)) (ae_v 1)) (ae_call (ad__law_pick T) (hr.mono (by omega)) (by rfl) T.g__law_pick T.F__law_pick.kp T.b__law_pick (aa_cons (ae_v 0) (aa_cons (ae_int) (aa_nil))))) (ae_int))))
theorem ad__law_way (T : Txt K mg) : ADef P w K mg base 1 T.a__law_way T.d__law_way ["_law_sums", "_law_first", "_law_last"] m__law_way :=
 adef T.F__law_way sc__law_way fun cdv A outer s H E hr =>
 ass_cons (as_if (at_cmp aop_le (ae_v 1) (ae_v 2))
 (ass_one (as_ret (ae_op aop_sub (ae_ix (hu_of hr) (ae_v 0) (ae_v 2)) (ae_ix (hu_of hr) (ae_v 0) (ae_v 1)))))
 (ass_nil))
 (ass_one (as_ret (ae_op aop_add (ae_op aop_sub (ae_ix (hu_of hr) (ae_v 0) (ae_v 2)) (ae_ix (hu_of hr) (ae_v 0) (ae_v 1))) (ae_ix (hu_of hr) (ae_v 0) (ae_un aun_neg (ae_int))))))
theorem ad__law_ring (T : Txt K mg) : ADef P w K mg base 3 T.a__law_ring T.d__law_ring ["_law_source_here"] m__law_ring :=
 adef T.F__law_ring sc__law_ring fun cdv A outer s H E hr =>
 ass_cons (as_set (i := 1) sc__law_ring.nd (ae_op aop_add (ae_int) (ae_call (ad__law_pick T) (hr.mono (by omega)) (by rfl) T.g__law_pick T.F__law_pick.kp T.b__law_pick (aa_cons (ae_v 0) (aa_cons (ae_int) (aa_nil))))))
 (ass_cons (as_if (at_cmp (aop_eq hr.units) (ae_call (ad__law_pick T) (hr.mono (by omega)) (by rfl) T.g__law_pick T.F__law_pick.kp T.b__law_pick (aa_cons (ae_v 0) (aa_cons (ae_int) (aa_nil)))) (ae_int))
 (ass_one (as_set (i := 1) sc__law_ring.nd (ae_op aop_add (ae_int) (ae_call (ad__law_pick T) (hr.mono (by omega)) (by rfl) T.g__law_pick T.F__law_pick.kp T.b__law_pick (aa_cons (ae_v 0) (aa_cons (ae_int) (aa_nil)))))))
 (ass_nil))
 (ass_cons (as_set (i := 2) sc__law_ring.nd (ae_call (ad__law_pick T) (hr.mono (by omega)) (by rfl) T.g__law_pick T.F__law_pick.kp T.b__law_pick (aa_cons (ae_v 0) (aa_cons (ae_int) (aa_nil)))))
 (ass_cons (as_set (i := 3) sc__law_ring.nd (ae_lstRg1 (by rfl) (by rfl) T.n_list (by rfl) T.n_range (ae_op aop_add (ae_v 1) (ae_int))))
 (ass_cons (as_set (i := 4) sc__law_ring.nd (ae_lst (aa_nil)))
 (ass_cons (as_for PassesOwn.never (by rfl) (ai_rg1 (by rfl) T.n_range (ae_op aop_add (ae_v 1) (ae_int))) (ag_name sc__law_ring.nd)
 (ass_one (as_ex (ae_mt PySem.F.plainAttrs_list PySem.F.slot_list_append PySem.F.type_list_append amt_append (ae_v 4) (aa_cons (ae_mt PySem.F.plainAttrs_list PySem.F.slot_list_pop PySem.F.type_list_pop amt_popAt (ae_v 3) (aa_cons (ae_call (ad__law_pick T) (hr.mono (by omega)) (by rfl) T.g__law_pick T.F__law_pick.kp T.b__law_pick (aa_cons (ae_v 0) (aa_cons (ae_callB acall_len (by rfl) T.n_len PySem.boot_len (aa_cons (ae_v 3) (aa_nil))) (aa_nil)))) (aa_nil))) (aa_nil))))))
 (ass_cons (as_setLc [("_law_k", 5)] (i := 6) (by rfl) sc__law_ring.nd (ai_rg1 (by rfl) T.n_range (ae_v 1)) (blkOk_by (N := n__law_ring) (sc := defScope s__law_ring) (by decide +kernel)) (tgt_name (by decide)) (fun _ _ _ _ _ => pg_name (i := 5) sc__law_ring.nd (by rfl) (by first | exact Or.inl rfl | exact Or.inr rfl)) (fun _ _ _ _ _ => ats_nil) (fun _ _ _ _ _ => ae_call (ad__law_number T) (hr.mono (by omega)) (by rfl) T.g__law_number T.F__law_number.kp T.b__law_number (aa_cons (ae_v 0) (aa_nil))) (sw_true rfl rfl rfl (by decide +kernel)))
 (ass_cons (as_ex (ae_mt PySem.F.plainAttrs_list PySem.F.slot_list_append PySem.F.type_list_append amt_append (ae_v 6) (aa_cons (ae_op aop_sub (ae_op aop_sub (ae_call (ad__law_pick T) (hr.mono (by omega)) (by rfl) T.g__law_pick T.F__law_pick.kp T.b__law_pick (aa_cons (ae_v 0) (aa_cons (ae_int) (aa_nil)))) (ae_int)) (ae_callB (acall_sum (by rfl)) (by rfl) T.n_sum PyProof.Rows.boot_sum (aa_cons (ae_v 6) (aa_nil)))) (aa_nil))))
 (ass_cons (as_set (i := 7) sc__law_ring.nd (ae_callB (acall_sum (by rfl)) (by rfl) T.n_sum PyProof.Rows.boot_sum (aa_cons (ae_lc [("_law_entry", 8)] (by rfl) sc__law_ring.nd (ai_seq (ae_v 6)) (blkOk_by (N := n__law_ring) (sc := defScope s__law_ring) (by decide +kernel)) (tgt_name (by decide)) (fun _ _ _ _ _ => pg_name (i := 8) sc__law_ring.nd (by rfl) (by first | exact Or.inl rfl | exact Or.inr rfl)) (fun _ _ _ _ _ => ats_nil) (fun _ _ _ _ _ => ae_callB acall_abs (by rfl) T.n_abs PyProof.Rows.boot_abs (aa_cons (ae_v 8) (aa_nil)))) (aa_nil))))
 (ass_cons (as_set (i := 9) sc__law_ring.nd (ae_op aop_mul (ae_lst (aa_cons (ae_int) (aa_nil))) (ae_op aop_add (ae_v 1) (ae_int))))
 (ass_cons (as_set (i := 10) sc__law_ring.nd (ae_lst (aa_cons (ae_int) (aa_nil))))
 (ass_cons (as_for PassesOwn.never (by rfl) (ai_rg1 (by rfl) T.n_range (ae_op aop_add (ae_v 1) (ae_int))) (ag_name sc__law_ring.nd)
 (ass_cons (as_asg (ae_v 5) (ag_sub (hu_of hr) (ae_v 9) (ae_ix (hu_of hr) (ae_v 4) (ae_v 5))))
 (ass_one (as_ex (ae_mt PySem.F.plainAttrs_list PySem.F.slot_list_append PySem.F.type_list_append amt_append (ae_v 10) (aa_cons (ae_op aop_add (ae_ix (hu_of hr) (ae_v 10) (ae_v 5)) (ae_ix (hu_of hr) (ae_v 6) (ae_v 5))) (aa_nil)))))))
 (ass_cons (as_set (i := 11) sc__law_ring.nd (ae_lst (aa_nil)))
 (ass_cons (as_set (i := 12) sc__law_ring.nd (ae_lst (aa_nil)))
 (ass_cons (as_for PassesOwn.never (by rfl) (ai_rg1 (by rfl) T.n_range (ae_op aop_add (ae_v 1) (ae_int))) (ag_name sc__law_ring.nd)
 (ass_cons (as_set (i := 14) sc__law_ring.nd (ae_lc [("_law_j", 17)] (by rfl) sc__law_ring.nd (ai_rg1 (by rfl) T.n_range (ae_op aop_add (ae_v 1) (ae_int))) (blkOk_by (N := n__law_ring) (sc := defScope s__law_ring) (by decide +kernel)) (tgt_name (by decide)) (fun _ _ _ _ _ => pg_name (i := 17) sc__law_ring.nd (by rfl) (by first | exact Or.inl rfl | exact Or.inr rfl)) (fun _ _ _ _ _ => ats_nil) (fun _ _ _ _ _ => ae_call (ad__law_way T) (hr.mono (by omega)) (by rfl) T.g__law_way T.F__law_way.kp T.b__law_way (aa_cons (ae_v 10) (aa_cons (ae_ix (hu_of hr) (ae_v 9) (ae_v 13)) (aa_cons (ae_ix (hu_of hr) (ae_v 9) (ae_v 17)) (aa_nil)))))))
 (ass_cons (as_setLc [("_law_j", 17)] (i := 15) (by rfl) sc__law_ring.nd (ai_rg1 (by rfl) T.n_range (ae_op aop_add (ae_v 1) (ae_int))) (blkOk_by (N := n__law_ring) (sc := defScope s__law_ring) (by decide +kernel)) (tgt_name (by decide)) (fun _ _ _ _ _ => pg_name (i := 17) sc__law_ring.nd (by rfl) (by first | exact Or.inl rfl | exact Or.inr rfl)) (fun _ _ _ _ _ => ats_nil) (fun _ _ _ _ _ => ae_op aop_add (ae_op aop_add (ae_op aop_mul (ae_ix (hu_of hr) (ae_v 14) (ae_v 17)) (ae_v 2)) (ae_op aop_mul (ae_v 7) (ae_op aop_sub (ae_int) (ae_v 2)))) (ae_op aop_mod (ae_callT acall_int (by rfl) T.n_int PyProof.Rows.boot_int (aa_cons (ae_op aop_add (ae_v 13) (ae_op aop_mul (ae_int) (ae_v 17))) (aa_nil))) (ae_int))) (sw_true rfl rfl rfl (by decide +kernel)))
 (ass_cons (as_asg (ae_int) (ag_sub (hu_of hr) (ae_v 15) (ae_v 13)))
 (ass_cons (as_set (i := 16) sc__law_ring.nd (ae_ix (hu_of hr) (ae_v 4) (ae_op aop_mod (ae_callT acall_int (by rfl) T.n_int PyProof.Rows.boot_int (aa_cons (ae_op aop_add (ae_ix (hu_of hr) (ae_v 9) (ae_v 13)) (ae_int)) (aa_nil))) (ae_op aop_add (ae_v 1) (ae_int)))))
 (ass_cons (as_asg (ae_ix (hu_of hr) (ae_v 6) (ae_ix (hu_of hr) (ae_v 9) (ae_v 13))) (ag_sub (hu_of hr) (ae_v 15) (ae_v 16)))
 (ass_cons (as_ex (ae_mt PySem.F.plainAttrs_list PySem.F.slot_list_append PySem.F.type_list_append amt_append (ae_v 11) (aa_cons (ae_callT acall_tuple (by rfl) T.n_tuple PyProof.Rows.boot_tuple (aa_cons (ae_v 15) (aa_nil))) (aa_nil))))
 (ass_one (as_ex (ae_mt PySem.F.plainAttrs_list PySem.F.slot_list_append PySem.F.type_list_append amt_append (ae_v 12) (aa_cons (ae_callT acall_tuple (by rfl) T.n_tuple PyProof.Rows.boot_tuple (aa_cons (ae_v 14) (aa_nil))) (aa_nil))))))))))))
 (ass_cons (as_if (at_cmp aop_lt (ae_ix (hu_of hr) (ae_v 10) (ae_op aop_add (ae_v 1) (ae_int))) (ae_int))
 (ass_one (as_ret (ae_lst (aa_cons (ae_callT acall_tuple (by rfl) T.n_tuple PyProof.Rows.boot_tuple (aa_cons (ae_v 11) (aa_nil))) (aa_cons (ae_non) (aa_nil))))))
 (ass_nil))
 (ass_one (as_ret (ae_lst (aa_cons (ae_callT acall_tuple (by rfl) T.n_tuple PyProof.Rows.boot_tuple (aa_cons (ae_v 11) (aa_nil))) (aa_cons (ae_callT acall_tuple (by rfl) T.n_tuple PyProof.Rows.boot_tuple (aa_cons (ae_v 12) (aa_nil))) (aa_nil)))))))))))))))))))))
theorem ad__law_same (T : Txt K mg) : ∀ n : Nat, ADef P w K mg base (n + 0) T.a__law_same T.d__law_same ["_law_actual", "_law_due"] (m__law_same n)
  | 0 => adef_bad
  | n + 1 => adef_up (adef T.F__law_same sc__law_same fun cdv A outer s H E (hr : Room (n + 0) _) =>
 ass_cons (as_if ((aw_or (at_e (ae_isi (by rfl) T.n_isinstance (by rfl) T.n_tuple PyProof.Rows.boot_tuple (ae_v 1))) (aw_or1 (at_e (ae_isi (by rfl) T.n_isinstance (by rfl) T.n_list PyProof.Rows.boot_list (ae_v 1))))).pt)
 (ass_cons (as_if ((aw_or (at_cmp (aop_ne hr.units) (ae_isi (by rfl) T.n_isinstance (by rfl) T.n_tuple PyProof.Rows.boot_tuple (ae_v 1)) (ae_isi (by rfl) T.n_isinstance (by rfl) T.n_tuple PyProof.Rows.boot_tuple (ae_v 0))) (aw_or1 (at_cmp (aop_ne hr.units) (ae_isi (by rfl) T.n_isinstance (by rfl) T.n_list PyProof.Rows.boot_list (ae_v 1)) (ae_isi (by rfl) T.n_isinstance (by rfl) T.n_list PyProof.Rows.boot_list (ae_v 0))))).pt)
 (ass_one (as_ret (ae_bl)))
 (ass_nil))
 (ass_cons (as_if (at_cmp (aop_ne hr.units) (ae_callB acall_len (by rfl) T.n_len PySem.boot_len (aa_cons (ae_v 0) (aa_nil))) (ae_callB acall_len (by rfl) T.n_len PySem.boot_len (aa_cons (ae_v 1) (aa_nil))))
 (ass_one (as_ret (ae_bl)))
 (ass_nil))
 (ass_cons (as_for PassesOwn.never (by rfl) (ai_rg1 (by rfl) T.n_range (ae_callB acall_len (by rfl) T.n_len PySem.boot_len (aa_cons (ae_v 1) (aa_nil)))) (ag_name sc__law_same.nd)
 (ass_one (as_if (at_not (at_e (ae_call (ad__law_same T n) hr (by rfl) T.g__law_same T.F__law_same.kp T.b__law_same (aa_cons (ae_ix (hu_of hr) (ae_v 0) (ae_v 2)) (aa_cons (ae_ix (hu_of hr) (ae_v 1) (ae_v 2)) (aa_nil))))))
 (ass_one (as_ret (ae_bl)))
 (ass_nil))))
 (ass_one (as_ret (ae_bl))))))
 (ass_nil))
 (ass_cons (as_if (at_cmp aop_is (ae_v 1) (ae_non))
 (ass_one (as_ret (ae_cmp aop_is (ae_v 0) (ae_non))))
 (ass_nil))
 (ass_cons (as_if (at_e (ae_isi (by rfl) T.n_isinstance (by rfl) T.n_bool PyProof.Rows.boot_bool (ae_v 1)))
 (ass_one (as_ret (ae_and (ae_isi (by rfl) T.n_isinstance (by rfl) T.n_bool PyProof.Rows.boot_bool (ae_v 0)) (ae_one (ae_cmp (aop_eq hr.units) (ae_v 0) (ae_v 1))))))
 (ass_nil))
 (ass_cons (as_if (at_e (ae_isi (by rfl) T.n_isinstance (by rfl) T.n_int PyProof.Rows.boot_int (ae_v 1)))
 (ass_one (as_ret (ae_and (ae_isi (by rfl) T.n_isinstance (by rfl) T.n_int PyProof.Rows.boot_int (ae_v 0)) (ae_and (ae_not (ae_isi (by rfl) T.n_isinstance (by rfl) T.n_bool PyProof.Rows.boot_bool (ae_v 0))) (ae_one (ae_cmp (aop_eq hr.units) (ae_v 0) (ae_v 1)))))))
 (ass_nil))
 (ass_one (as_ret (ae_and (ae_isi (by rfl) T.n_isinstance (by rfl) T.n_str PyProof.Rows.boot_str (ae_v 0)) (ae_one (ae_cmp (aop_eq hr.units) (ae_v 0) (ae_v 1))))))))))
theorem ad__law_diagonal (T : Txt K mg) : ADef P w K mg base 2 T.a__law_diagonal T.d__law_diagonal ["_law_source_here", "_law_rows"] m__law_diagonal :=
 adef T.F__law_diagonal sc__law_diagonal fun cdv A outer s H E hr =>
 ass_cons (as_set (i := 2) sc__law_diagonal.nd (ae_call (ad__law_pick T) (hr.mono (by omega)) (by rfl) T.g__law_pick T.F__law_pick.kp T.b__law_pick (aa_cons (ae_v 0) (aa_cons (ae_int) (aa_nil)))))
 (ass_cons (as_set (i := 3) sc__law_diagonal.nd (ae_call (ad__law_pick T) (hr.mono (by omega)) (by rfl) T.g__law_pick T.F__law_pick.kp T.b__law_pick (aa_cons (ae_v 0) (aa_cons (ae_callB acall_len (by rfl) T.n_len PySem.boot_len (aa_cons (ae_v 1) (aa_nil))) (aa_nil)))))
 (ass_cons (as_for PassesOwn.never (by rfl) (ai_rg1 (by rfl) T.n_range (ae_callB acall_len (by rfl) T.n_len PySem.boot_len (aa_cons (ae_v 1) (aa_nil)))) (ag_name sc__law_diagonal.nd)
 (ass_cons (as_set (i := 5) sc__law_diagonal.nd (ae_ix (hu_of hr) (ae_v 1) (ae_v 4)))
 (ass_cons (as_asg (ae_int) (ag_sub (hu_of hr) (ae_v 5) (ae_v 4)))
 (ass_cons (as_if (at_cmp aop_lt (ae_v 2) (ae_int))
 (ass_one (as_asg (ae_call (ad__law_pick T) (hr.mono (by omega)) (by rfl) T.g__law_pick T.F__law_pick.kp T.b__law_pick (aa_cons (ae_v 0) (aa_cons (ae_int) (aa_nil)))) (ag_sub (hu_of hr) (ae_v 5) (ae_v 4))))
 (ass_nil))
 (ass_one (as_if ((aw_and (at_cmp (aop_eq hr.units) (ae_v 2) (ae_int)) (aw_and1 (at_cmp (aop_eq hr.units) (ae_v 4) (ae_v 3)))).pt)
 (ass_one (as_asg (ae_op aop_sub (ae_op aop_sub (ae_int) (ae_int)) (ae_call (ad__law_pick T) (hr.mono (by omega)) (by rfl) T.g__law_pick T.F__law_pick.kp T.b__law_pick (aa_cons (ae_v 0) (aa_cons (ae_int) (aa_nil))))) (ag_sub (hu_of hr) (ae_v 5) (ae_v 4))))
 (ass_nil)))))))
 (ass_one (as_ret (ae_callT acall_tuple (by rfl) T.n_tuple PyProof.Rows.boot_tuple (aa_cons (ae_lc [("_law_row", 5)] (by rfl) sc__law_diagonal.nd (ai_seq (ae_v 1)) (blkOk_by (N := n__law_diagonal) (sc := defScope s__law_diagonal) (by decide +kernel)) (tgt_name (by decide)) (fun _ _ _ _ _ => pg_name (i := 5) sc__law_diagonal.nd (by rfl) (by first | exact Or.inl rfl | exact Or.inr rfl)) (fun _ _ _ _ _ => ats_nil) (fun _ _ _ _ _ => ae_callT acall_tuple (by rfl) T.n_tuple PyProof.Rows.boot_tuple (aa_cons (ae_v 5) (aa_nil)))) (aa_nil)))))))
theorem ad__law_hull (T : Txt K mg) : ADef P w K mg base 1 T.a__law_hull T.d__law_hull ["_law_points_here", "_law_size"] m__law_hull :=
 adef T.F__law_hull sc__law_hull fun cdv A outer s H E hr =>
 ass_cons (as_if (at_cmp (aop_eq hr.units) (ae_v 0) (ae_lst (aa_nil)))
 (ass_one (as_ret (ae_non)))
 (ass_nil))
 (ass_cons (as_set (i := 2) sc__law_hull.nd (ae_lst (aa_nil)))
 (ass_cons (as_for PassesOwn.never (by rfl) (ai_rg1 (by rfl) T.n_range (ae_op aop_add (ae_v 1) (ae_int))) (ag_name sc__law_hull.nd)
 (ass_cons (as_set (i := 4) sc__law_hull.nd (ae_lst (aa_nil)))
 (ass_cons (as_for PassesOwn.never (by rfl) (ai_rg1 (by rfl) T.n_range (ae_op aop_add (ae_v 1) (ae_int))) (ag_name sc__law_hull.nd)
 (ass_one (as_ex (ae_mt PySem.F.plainAttrs_list PySem.F.slot_list_append PySem.F.type_list_append amt_append (ae_v 4) (aa_cons (ae_callB (acall_max (by rfl)) (by rfl) T.n_max PyProof.Rows.boot_max (aa_cons (ae_lc [("_law_point", 6)] (by rfl) sc__law_hull.nd (ai_seq (ae_v 0)) (blkOk_by (N := n__law_hull) (sc := defScope s__law_hull) (by decide +kernel)) (tgt_name (by decide)) (fun _ _ _ _ _ => pg_name (i := 6) sc__law_hull.nd (by rfl) (by first | exact Or.inl rfl | exact Or.inr rfl)) (fun _ _ _ _ _ => ats_nil) (fun _ _ _ _ _ => ae_op aop_sub (ae_ix (hu_of hr) (ae_op aop_add (ae_tup (aa_cons (ae_int) (aa_nil))) (ae_v 6)) (ae_v 3)) (ae_ix (hu_of hr) (ae_op aop_add (ae_tup (aa_cons (ae_int) (aa_nil))) (ae_v 6)) (ae_v 5)))) (aa_nil))) (aa_nil))))))
 (ass_one (as_ex (ae_mt PySem.F.plainAttrs_list PySem.F.slot_list_append PySem.F.type_list_append amt_append (ae_v 2) (aa_cons (ae_callT acall_tuple (by rfl) T.n_tuple PyProof.Rows.boot_tuple (aa_cons (ae_v 4) (aa_nil))) (aa_nil))))))))
 (ass_one (as_ret (ae_callT acall_tuple (by rfl) T.n_tuple PyProof.Rows.boot_tuple (aa_cons (ae_v 2) (aa_nil)))))))
theorem ad__law_fits (T : Txt K mg) : ADef P w K mg base 1 T.a__law_fits T.d__law_fits ["_law_matrix", "_law_point", "_law_c", "_law_value"] m__law_fits :=
 adef T.F__law_fits sc__law_fits fun cdv A outer s H E hr =>
 ass_cons (as_for PassesOwn.never (by rfl) (ai_rg1 (by rfl) T.n_range (ae_callB acall_len (by rfl) T.n_len PySem.boot_len (aa_cons (ae_v 1) (aa_nil)))) (ag_name sc__law_fits.nd)
 (ass_one (as_if ((aw_or (at_cmp aop_gt (ae_op aop_sub (ae_v 3) (ae_ix (hu_of hr) (ae_v 1) (ae_v 4))) (ae_ix (hu_of hr) (ae_ix (hu_of hr) (ae_v 0) (ae_v 2)) (ae_op aop_add (ae_v 4) (ae_int)))) (aw_or1 (at_cmp aop_gt (ae_op aop_sub (ae_ix (hu_of hr) (ae_v 1) (ae_v 4)) (ae_v 3)) (ae_ix (hu_of hr) (ae_ix (hu_of hr) (ae_v 0) (ae_op aop_add (ae_v 4) (ae_int))) (ae_v 2))))).pt)
 (ass_one (as_ret (ae_bl)))
 (ass_nil))))
 (ass_one (as_ret (ae_bl)))
theorem ad__law_points (T : Txt K mg) : ADef P w K mg base 2 T.a__law_points T.d__law_points ["_law_matrix"] m__law_points :=
 adef T.F__law_points sc__law_points fun cdv A outer s H E hr =>
 ass_cons (as_if ((aw_or (at_cmp aop_is (ae_v 0) (ae_non)) (aw_or1 (at_cmp aop_lt (ae_callB (acall_min (by rfl)) (by rfl) T.n_min PyProof.Rows.boot_min (aa_cons (ae_lc [("_law_i", 1)] (by rfl) sc__law_points.nd (ai_rg1 (by rfl) T.n_range (ae_callB acall_len (by rfl) T.n_len PySem.boot_len (aa_cons (ae_v 0) (aa_nil)))) (blkOk_by (N := n__law_points) (sc := defScope s__law_points) (by decide +kernel)) (tgt_name (by decide)) (fun _ _ _ _ _ => pg_name (i := 1) sc__law_points.nd (by rfl) (by first | exact Or.inl rfl | exact Or.inr rfl)) (fun _ _ _ _ _ => ats_nil) (fun _ _ _ _ _ => ae_ix (hu_of hr) (ae_ix (hu_of hr) (ae_v 0) (ae_v 1)) (ae_v 1))) (aa_nil))) (ae_int)))).pt)
 (ass_one (as_ret (ae_lst (aa_nil))))
 (ass_nil))
 (ass_cons (as_set (i := 2) sc__law_points.nd (ae_lst (aa_cons (ae_tup (aa_nil)) (aa_nil))))
 (ass_cons (as_for PassesOwn.never (by rfl) (ai_rg2 (by rfl) T.n_range (ae_int) (ae_callB acall_len (by rfl) T.n_len PySem.boot_len (aa_cons (ae_v 0) (aa_nil)))) (ag_name sc__law_points.nd)
 (ass_cons (as_set (i := 4) sc__law_points.nd (ae_lst (aa_nil)))
 (ass_cons (as_for PassesOwn.never (by rfl) (ai_seq (ae_v 2)) (ag_name sc__law_points.nd)
 (ass_one (as_for PassesOwn.never (by rfl) (ai_rg2 (by rfl) T.n_range (ae_op aop_sub (ae_int) (ae_ix (hu_of hr) (ae_ix (hu_of hr) (ae_v 0) (ae_int)) (ae_v 3))) (ae_op aop_add (ae_ix (hu_of hr) (ae_ix (hu_of hr) (ae_v 0) (ae_v 3)) (ae_int)) (ae_int))) (ag_name sc__law_points.nd)
 (ass_one (as_if (at_e (ae_call (ad__law_fits T) (hr.mono (by omega)) (by rfl) T.g__law_fits T.F__law_fits.kp T.b__law_fits (aa_cons (ae_v 0) (aa_cons (ae_v 5) (aa_cons (ae_v 3) (aa_cons (ae_v 6) (aa_nil)))))))
 (ass_one (as_ex (ae_mt PySem.F.plainAttrs_list PySem.F.slot_list_append PySem.F.type_list_append amt_append (ae_v 4) (aa_cons (ae_op aop_add (ae_v 5) (ae_tup (aa_cons (ae_v 6) (aa_nil)))) (aa_nil)))))
 (ass_nil))))))
 (ass_one (as_set (i := 2) sc__law_points.nd (ae_callT acall_list (by rfl) T.n_list PyProof.Rows.boot_list (aa_cons (ae_v 4) (aa_nil))))))))
 (ass_one (as_ret (ae_v 2)))))
theorem ad__law_small (T : Txt K mg) : ADef P w K mg base 3 T.a__law_small T.d__law_small ["_law_source_here"] m__law_small :=
 adef T.F__law_small sc__law_small fun cdv A outer s H E hr =>
 ass_cons (as_set (i := 1) sc__law_small.nd (ae_call (ad__law_pick T) (hr.mono (by omega)) (by rfl) T.g__law_pick T.F__law_pick.kp T.b__law_pick (aa_cons (ae_v 0) (aa_cons (ae_int) (aa_nil)))))
 (ass_cons (as_set (i := 2) sc__law_small.nd (ae_call (ad__law_pick T) (hr.mono (by omega)) (by rfl) T.g__law_pick T.F__law_pick.kp T.b__law_pick (aa_cons (ae_v 0) (aa_cons (ae_int) (aa_nil)))))
 (ass_cons (as_set (i := 3) sc__law_small.nd (ae_lst (aa_nil)))
 (ass_cons (as_for PassesOwn.never (by rfl) (ai_rg1 (by rfl) T.n_range (ae_op aop_add (ae_v 1) (ae_int))) (ag_name sc__law_small.nd)
 (ass_one (as_ex (ae_mt PySem.F.plainAttrs_list PySem.F.slot_list_append PySem.F.type_list_append amt_append (ae_v 3) (aa_cons (ae_lc [("_law_j", 5)] (by rfl) sc__law_small.nd (ai_rg1 (by rfl) T.n_range (ae_op aop_add (ae_v 1) (ae_int))) (blkOk_by (N := n__law_small) (sc := defScope s__law_small) (by decide +kernel)) (tgt_name (by decide)) (fun _ _ _ _ _ => pg_name (i := 5) sc__law_small.nd (by rfl) (by first | exact Or.inl rfl | exact Or.inr rfl)) (fun _ _ _ _ _ => ats_nil) (fun _ _ _ _ _ => ae_op aop_sub (ae_call (ad__law_pick T) (hr.mono (by omega)) (by rfl) T.g__law_pick T.F__law_pick.kp T.b__law_pick (aa_cons (ae_v 0) (aa_cons (ae_int) (aa_nil)))) (ae_v 2))) (aa_nil))))))
 (ass_cons (as_set (i := 6) sc__law_small.nd (ae_call (ad__law_diagonal T) (hr.mono (by omega)) (by rfl) T.g__law_diagonal T.F__law_diagonal.kp T.b__law_diagonal (aa_cons (ae_v 0) (aa_cons (ae_v 3) (aa_nil)))))
 (ass_one (as_ret (ae_lst (aa_cons (ae_v 6) (aa_cons (ae_call (ad__law_hull T) (hr.mono (by omega)) (by rfl) T.g__law_hull T.F__law_hull.kp T.b__law_hull (aa_cons (ae_call (ad__law_points T) (hr.mono (by omega)) (by rfl) T.g__law_points T.F__law_points.kp T.b__law_points (aa_cons (ae_v 6) (aa_nil))) (aa_cons (ae_v 1) (aa_nil)))) (aa_nil))))))))))
theorem ad__law_source (T : Txt K mg) : ADef P w K mg base 1 T.a__law_source T.d__law_source ["_law_cell_here"] m__law_source :=
 adef T.F__law_source sc__law_source fun cdv A outer s H E hr =>
 ass_one (as_ret (ae_lst (aa_cons (ae_v 0) (aa_cons (ae_v 0) (aa_cons (ae_int) (aa_nil))))))
theorem ad__law_bounded (T : Txt K mg) : ADef P w K mg base 1 T.a__law_bounded T.d__law_bounded ["_law_matrix", "_law_i", "_law_j", "_law_number_here"] m__law_bounded :=
 adef T.F__law_bounded sc__law_bounded fun cdv A outer s H E hr =>
 ass_cons (as_if ((aw_or (at_cmp aop_is (ae_v 0) (ae_non)) (aw_or1 (at_cmp aop_lt (ae_op aop_add (ae_v 3) (ae_ix (hu_of hr) (ae_ix (hu_of hr) (ae_v 0) (ae_v 2)) (ae_v 1))) (ae_int)))).pt)
 (ass_one (as_ret (ae_non)))
 (ass_nil))
 (ass_cons (as_set (i := 4) sc__law_bounded.nd (ae_lst (aa_nil)))
 (ass_cons (as_for PassesOwn.never (by rfl) (ai_rg1 (by rfl) T.n_range (ae_callB acall_len (by rfl) T.n_len PySem.boot_len (aa_cons (ae_v 0) (aa_nil)))) (ag_name sc__law_bounded.nd)
 (ass_cons (as_set (i := 6) sc__law_bounded.nd (ae_op aop_add (ae_ix (hu_of hr) (ae_ix (hu_of hr) (ae_v 0) (ae_v 5)) (ae_v 1)) (ae_v 3)))
 (ass_one (as_ex (ae_mt PySem.F.plainAttrs_list PySem.F.slot_list_append PySem.F.type_list_append amt_append (ae_v 4) (aa_cons (ae_callT acall_tuple (by rfl) T.n_tuple PyProof.Rows.boot_tuple (aa_cons (ae_lc [("_law_m", 7)] (by rfl) sc__law_bounded.nd (ai_rg1 (by rfl) T.n_range (ae_callB acall_len (by rfl) T.n_len PySem.boot_len (aa_cons (ae_v 0) (aa_nil)))) (blkOk_by (N := n__law_bounded) (sc := defScope s__law_bounded) (by decide +kernel)) (tgt_name (by decide)) (fun _ _ _ _ _ => pg_name (i := 7) sc__law_bounded.nd (by rfl) (by first | exact Or.inl rfl | exact Or.inr rfl)) (fun _ _ _ _ _ => ats_nil) (fun _ _ _ _ _ => ae_callB (acall_min (by rfl)) (by rfl) T.n_min PyProof.Rows.boot_min (aa_cons (ae_ix (hu_of hr) (ae_ix (hu_of hr) (ae_v 0) (ae_v 5)) (ae_v 7)) (aa_cons (ae_op aop_add (ae_v 6) (ae_ix (hu_of hr) (ae_ix (hu_of hr) (ae_v 0) (ae_v 2)) (ae_v 7))) (aa_nil))))) (aa_nil))) (aa_nil)))))))
 (ass_one (as_ret (ae_callT acall_tuple (by rfl) T.n_tuple PyProof.Rows.boot_tuple (aa_cons (ae_v 4) (aa_nil)))))))
theorem ad__law_closed (T : Txt K mg) : ADef P w K mg base 2 T.a__law_closed T.d__law_closed ["_law_matrix"] m__law_closed :=
 adef T.F__law_closed sc__law_closed fun cdv A outer s H E hr =>
 ass_cons (as_set (i := 1) sc__law_closed.nd (ae_callB acall_len (by rfl) T.n_len PySem.boot_len (aa_cons (ae_v 0) (aa_nil))))
 (ass_cons (as_set (i := 2) sc__law_closed.nd (ae_int))
 (ass_cons (as_for PassesOwn.never (by rfl) (ai_seq (ae_v 0)) (ag_name sc__law_closed.nd)
 (ass_one (as_set (i := 2) sc__law_closed.nd (ae_op aop_add (ae_v 2) (ae_callB (acall_sum (by rfl)) (by rfl) T.n_sum PyProof.Rows.boot_sum (aa_cons (ae_lc [("_law_entry", 4)] (by rfl) sc__law_closed.nd (ai_seq (ae_v 3)) (blkOk_by (N := n__law_closed) (sc := defScope s__law_closed) (by decide +kernel)) (tgt_name (by decide)) (fun _ _ _ _ _ => pg_name (i := 4) sc__law_closed.nd (by rfl) (by first | exact Or.inl rfl | exact Or.inr rfl)) (fun _ _ _ _ _ => ats_nil) (fun _ _ _ _ _ => ae_callB acall_abs (by rfl) T.n_abs PyProof.Rows.boot_abs (aa_cons (ae_v 4) (aa_nil)))) (aa_nil)))))))
 (ass_cons (as_set (i := 5) sc__law_closed.nd (ae_lst (aa_nil)))
 (ass_cons (as_for PassesOwn.never (by rfl) (ai_rg1 (by rfl) T.n_range (ae_v 1)) (ag_name sc__law_closed.nd)
 (ass_cons (as_set (i := 3) sc__law_closed.nd (ae_op aop_mul (ae_lst (aa_cons (ae_v 2) (aa_nil))) (ae_v 1)))
 (ass_cons (as_asg (ae_int) (ag_sub (hu_of hr) (ae_v 3) (ae_v 6)))
 (ass_one (as_ex (ae_mt PySem.F.plainAttrs_list PySem.F.slot_list_append PySem.F.type_list_append amt_append (ae_v 5) (aa_cons (ae_callT acall_tuple (by rfl) T.n_tuple PyProof.Rows.boot_tuple (aa_cons (ae_v 3) (aa_nil))) (aa_nil))))))))
 (ass_cons (as_set (i := 7) sc__law_closed.nd (ae_callT acall_tuple (by rfl) T.n_tuple PyProof.Rows.boot_tuple (aa_cons (ae_v 5) (aa_nil))))
 (ass_cons (as_for PassesOwn.never (by rfl) (ai_rg1 (by rfl) T.n_range (ae_v 1)) (ag_name sc__law_closed.nd)
 (ass_cons (as_if (at_cmp aop_lt (ae_ix (hu_of hr) (ae_ix (hu_of hr) (ae_v 0) (ae_v 6)) (ae_v 6)) (ae_int))
 (ass_one (as_ret (ae_non)))
 (ass_nil))
 (ass_one (as_for PassesOwn.never (by rfl) (ai_rg1 (by rfl) T.n_range (ae_v 1)) (ag_name sc__law_closed.nd)
 (ass_one (as_if (at_cmp (aop_ne hr.units) (ae_v 6) (ae_v 8))
 (ass_one (as_set (i := 7) sc__law_closed.nd (ae_call (ad__law_bounded T) (hr.mono (by omega)) (by rfl) T.g__law_bounded T.F__law_bounded.kp T.b__law_bounded (aa_cons (ae_v 7) (aa_cons (ae_v 6) (aa_cons (ae_v 8) (aa_cons (ae_ix (hu_of hr) (ae_ix (hu_of hr) (ae_v 0) (ae_v 6)) (ae_v 8)) (aa_nil))))))))
 (ass_nil)))))))
 (ass_one (as_ret (ae_v 7)))))))))
theorem ad__law_wide (T : Txt K mg) : ADef P w K mg base 3 T.a__law_wide T.d__law_wide ["_law_source_here"] m__law_wide :=
 adef T.F__law_wide sc__law_wide fun cdv A outer s H E hr =>
 ass_cons (as_set (i := 1) sc__law_wide.nd (ae_call (ad__law_pick T) (hr.mono (by omega)) (by rfl) T.g__law_pick T.F__law_pick.kp T.b__law_pick (aa_cons (ae_v 0) (aa_cons (ae_int) (aa_nil)))))
 (ass_cons (as_setLc [("_law_k", 3)] (i := 2) (by rfl) sc__law_wide.nd (ai_rg1 (by rfl) T.n_range (ae_op aop_add (ae_v 1) (ae_int))) (blkOk_by (N := n__law_wide) (sc := defScope s__law_wide) (by decide +kernel)) (tgt_name (by decide)) (fun _ _ _ _ _ => pg_name (i := 3) sc__law_wide.nd (by rfl) (by first | exact Or.inl rfl | exact Or.inr rfl)) (fun _ _ _ _ _ => ats_nil) (fun _ _ _ _ _ => ae_call (ad__law_number T) (hr.mono (by omega)) (by rfl) T.g__law_number T.F__law_number.kp T.b__law_number (aa_cons (ae_v 0) (aa_nil))) (sw_true rfl rfl rfl (by decide +kernel)))
 (ass_cons (as_set (i := 4) sc__law_wide.nd (ae_ix (hu_of hr) (ae_lst (aa_cons (ae_int) (aa_cons (ae_int) (aa_cons (ae_op aop_add (ae_op aop_pow (ae_int) (ae_int)) (ae_int)) (aa_nil))))) (ae_call (ad__law_pick T) (hr.mono (by omega)) (by rfl) T.g__law_pick T.F__law_pick.kp T.b__law_pick (aa_cons (ae_v 0) (aa_cons (ae_int) (aa_nil))))))
 (ass_cons (as_set (i := 5) sc__law_wide.nd (ae_call (ad__law_pick T) (hr.mono (by omega)) (by rfl) T.g__law_pick T.F__law_pick.kp T.b__law_pick (aa_cons (ae_v 0) (aa_cons (ae_int) (aa_nil)))))
 (ass_cons (as_set (i := 6) sc__law_wide.nd (ae_lst (aa_nil)))
 (ass_cons (as_for PassesOwn.never (by rfl) (ai_rg1 (by rfl) T.n_range (ae_op aop_add (ae_v 1) (ae_int))) (ag_name sc__law_wide.nd)
 (ass_cons (as_set (i := 8) sc__law_wide.nd (ae_lst (aa_nil)))
 (ass_cons (as_for PassesOwn.never (by rfl) (ai_rg1 (by rfl) T.n_range (ae_op aop_add (ae_v 1) (ae_int))) (ag_name sc__law_wide.nd)
 (ass_one (as_ex (ae_mt PySem.F.plainAttrs_list PySem.F.slot_list_append PySem.F.type_list_append amt_append (ae_v 8) (aa_cons (ae_op aop_add (ae_op aop_add (ae_op aop_sub (ae_ix (hu_of hr) (ae_v 2) (ae_v 7)) (ae_ix (hu_of hr) (ae_v 2) (ae_v 9))) (ae_op aop_mul (ae_op aop_sub (ae_call (ad__law_pick T) (hr.mono (by omega)) (by rfl) T.g__law_pick T.F__law_pick.kp T.b__law_pick (aa_cons (ae_v 0) (aa_cons (ae_int) (aa_nil)))) (ae_v 5)) (ae_v 4))) (ae_call (ad__law_pick T) (hr.mono (by omega)) (by rfl) T.g__law_pick T.F__law_pick.kp T.b__law_pick (aa_cons (ae_v 0) (aa_cons (ae_int) (aa_nil))))) (aa_nil))))))
 (ass_one (as_ex (ae_mt PySem.F.plainAttrs_list PySem.F.slot_list_append PySem.F.type_list_append amt_append (ae_v 6) (aa_cons (ae_v 8) (aa_nil))))))))
 (ass_cons (as_set (i := 10) sc__law_wide.nd (ae_call (ad__law_diagonal T) (hr.mono (by omega)) (by rfl) T.g__law_diagonal T.F__law_diagonal.kp T.b__law_diagonal (aa_cons (ae_v 0) (aa_cons (ae_v 6) (aa_nil)))))
 (ass_one (as_ret (ae_lst (aa_cons (ae_v 10) (aa_cons (ae_call (ad__law_closed T) (hr.mono (by omega)) (by rfl) T.g__law_closed T.F__law_closed.kp T.b__law_closed (aa_cons (ae_v 10) (aa_nil))) (aa_nil))))))))))))
theorem ad_frozen (T : Txt K mg) : ADef P w K mg base 1 T.a_frozen T.d_frozen ["rows"] m_frozen :=
 adef T.F_frozen sc_frozen fun cdv A outer s H E hr =>
 ass_one (as_ret (ae_callT acall_tuple (by rfl) T.n_tuple PyProof.Rows.boot_tuple (aa_cons (ae_lc [("row", 1)] (by rfl) sc_frozen.nd (ai_seq (ae_v 0)) (blkOk_by (N := n_frozen) (sc := defScope s_frozen) (by decide +kernel)) (tgt_name (by decide)) (fun _ _ _ _ _ => pg_name (i := 1) sc_frozen.nd (by rfl) (by first | exact Or.inl rfl | exact Or.inr rfl)) (fun _ _ _ _ _ => ats_nil) (fun _ _ _ _ _ => ae_callT acall_tuple (by rfl) T.n_tuple PyProof.Rows.boot_tuple (aa_cons (ae_v 1) (aa_nil)))) (aa_nil))))
theorem ad_has_negative (T : Txt K mg) : ADef P w K mg base 1 T.a_has_negative T.d_has_negative ["rows"] m_has_negative :=
 adef T.F_has_negative sc_has_negative fun cdv A outer s H E hr =>
 ass_cons (as_for PassesOwn.never (by rfl) (ai_rg1 (by rfl) T.n_range (ae_callB acall_len (by rfl) T.n_len PySem.boot_len (aa_cons (ae_v 0) (aa_nil)))) (ag_name sc_has_negative.nd)
 (ass_one (as_if (at_cmp aop_lt (ae_ix (hu_of hr) (ae_ix (hu_of hr) (ae_v 0) (ae_v 1)) (ae_v 1)) (ae_int))
 (ass_one (as_ret (ae_bl)))
 (ass_nil))))
 (ass_one (as_ret (ae_bl)))
theorem ad_shorten (T : Txt K mg) : ADef P w K mg base 1 T.a_shorten T.d_shorten ["rows", "middle"] m_shorten :=
 adef T.F_shorten sc_shorten fun cdv A outer s H E hr =>
 ass_cons (as_set (i := 2) sc_shorten.nd (ae_callB acall_len (by rfl) T.n_len PySem.boot_len (aa_cons (ae_v 0) (aa_nil))))
 (ass_cons (as_set (i := 3) sc_shorten.nd (ae_callT acall_list (by rfl) T.n_list PyProof.Rows.boot_list (aa_cons (ae_ix (hu_of hr) (ae_v 0) (ae_v 1)) (aa_nil))))
 (ass_one (as_for PassesOwn.never (by rfl) (ai_rg1 (by rfl) T.n_range (ae_v 2)) (ag_name sc_shorten.nd)
 (ass_cons (as_set (i := 5) sc_shorten.nd (ae_ix (hu_of hr) (ae_v 0) (ae_v 4)))
 (ass_cons (as_set (i := 6) sc_shorten.nd (ae_ix (hu_of hr) (ae_v 5) (ae_v 1)))
 (ass_one (as_for PassesOwn.never (by rfl) (ai_rg1 (by rfl) T.n_range (ae_v 2)) (ag_name sc_shorten.nd)
 (ass_one (as_if (at_cmp aop_lt (ae_op aop_add (ae_v 6) (ae_ix (hu_of hr) (ae_v 3) (ae_v 7))) (ae_ix (hu_of hr) (ae_v 5) (ae_v 7)))
 (ass_one (as_asg (ae_op aop_add (ae_v 6) (ae_ix (hu_of hr) (ae_v 3) (ae_v 7))) (ag_sub (hu_of hr) (ae_v 5) (ae_v 7))))
 (ass_nil))))))))))
theorem ad_close (T : Txt K mg) : ADef P w K mg base 2 T.a_close T.d_close ["matrix"] m_close :=
 adef T.F_close sc_close fun cdv A outer s H E hr =>
 ass_cons (as_setLc [("row", 2)] (i := 1) (by rfl) sc_close.nd (ai_seq (ae_v 0)) (blkOk_by (N := n_close) (sc := defScope s_close) (by decide +kernel)) (tgt_name (by decide)) (fun _ _ _ _ _ => pg_name (i := 2) sc_close.nd (by rfl) (by first | exact Or.inl rfl | exact Or.inr rfl)) (fun _ _ _ _ _ => ats_nil) (fun _ _ _ _ _ => ae_callT acall_list (by rfl) T.n_list PyProof.Rows.boot_list (aa_cons (ae_v 2) (aa_nil))) (sw_true rfl rfl rfl (by decide +kernel)))
 (ass_cons (as_set (i := 3) sc_close.nd (ae_callB acall_len (by rfl) T.n_len PySem.boot_len (aa_cons (ae_v 1) (aa_nil))))
 (ass_cons (as_if (at_e (ae_call (ad_has_negative T) (hr.mono (by omega)) (by rfl) T.g_has_negative T.F_has_negative.kp T.b_has_negative (aa_cons (ae_v 1) (aa_nil))))
 (ass_one (as_ret (ae_non)))
 (ass_nil))
 (ass_cons (as_for PassesOwn.never (by rfl) (ai_rg1 (by rfl) T.n_range (ae_v 3)) (ag_name sc_close.nd)
 (ass_one (as_asg (ae_int) (ag_sub (hu_of hr) (ae_ix (hu_of hr) (ae_v 1) (ae_v 4)) (ae_v 4)))))
 (ass_cons (as_for PassesOwn.never (by rfl) (ai_rg1 (by rfl) T.n_range (ae_v 3)) (ag_name sc_close.nd)
 (ass_cons (as_ex (ae_call (ad_shorten T) (hr.mono (by omega)) (by rfl) T.g_shorten T.F_shorten.kp T.b_shorten (aa_cons (ae_v 1) (aa_cons (ae_v 5) (aa_nil)))))
 (ass_one (as_if (at_e (ae_call (ad_has_negative T) (hr.mono (by omega)) (by rfl) T.g_has_negative T.F_has_negative.kp T.b_has_negative (aa_cons (ae_v 1) (aa_nil))))
 (ass_one (as_ret (ae_non)))
 (ass_nil)))))
 (ass_one (as_ret (ae_call (ad_frozen T) (hr.mono (by omega)) (by rfl) T.g_frozen T.F_frozen.kp T.b_frozen (aa_cons (ae_v 1) (aa_nil)))))))))
theorem ad_law (T : Txt K mg) : ADef P w K mg base 21 T.a_law T.d_law ["_law_script"] m_law :=
 adef T.F_law sc_law fun cdv A outer s H E hr =>
 ass_cons (as_set (i := 1) sc_law.nd (ae_call (ad__law_source T) (hr.mono (by omega)) (by rfl) T.g__law_source T.F__law_source.kp T.b__law_source (aa_cons (ae_call (ad__law_cell T) (hr.mono (by omega)) (by rfl) T.g__law_cell T.F__law_cell.kp T.b__law_cell (aa_cons (ae_v 0) (aa_cons (ae_int) (aa_nil)))) (aa_nil))))
 (ass_cons (as_set (i := 2) sc_law.nd (ae_lst (aa_nil)))
 (ass_cons (as_set (i := 3) sc_law.nd (ae_call (ad__law_pick T) (hr.mono (by omega)) (by rfl) T.g__law_pick T.F__law_pick.kp T.b__law_pick (aa_cons (ae_v 1) (aa_cons (ae_int) (aa_nil)))))
 (ass_cons (as_if (at_cmp (aop_eq hr.units) (ae_v 3) (ae_int))
 (ass_one (as_set (i := 2) sc_law.nd (ae_call (ad__law_ring T) (hr.mono (by omega)) (by rfl) T.g__law_ring T.F__law_ring.kp T.b__law_ring (aa_cons (ae_v 1) (aa_nil)))))
 (ass_one (as_if (at_cmp (aop_eq hr.units) (ae_v 3) (ae_int))
 (ass_one (as_set (i := 2) sc_law.nd (ae_call (ad__law_wide T) (hr.mono (by omega)) (by rfl) T.g__law_wide T.F__law_wide.kp T.b__law_wide (aa_cons (ae_v 1) (aa_nil)))))
 (ass_one (as_set (i := 2) sc_law.nd (ae_call (ad__law_small T) (hr.mono (by omega)) (by rfl) T.g__law_small T.F__law_small.kp T.b__law_small (aa_cons (ae_v 1) (aa_nil))))))))
 (ass_cons (as_if (at_not (at_e (ae_call (ad__law_same T 20) (hr.mono (by omega)) (by rfl) T.g__law_same T.F__law_same.kp T.b__law_same (aa_cons (ae_call (ad_close T) (hr.mono (by omega)) (by rfl) T.g_close T.F_close.kp T.b_close (aa_cons (ae_ix (hu_of hr) (ae_v 2) (ae_int)) (aa_nil))) (aa_cons (ae_ix (hu_of hr) (ae_v 2) (ae_int)) (aa_nil))))))
 (ass_one (as_ret (ae_bl)))
 (ass_nil))
 (ass_cons (as_if ((aw_and (at_cmp aop_isnt (ae_ix (hu_of hr) (ae_v 2) (ae_int)) (ae_non)) (aw_and (at_cmp aop_lt (ae_callB acall_len (by rfl) T.n_len PySem.boot_len (aa_cons (ae_ix (hu_of hr) (ae_v 2) (ae_int)) (aa_nil))) (ae_int)) (aw_and1 (at_not (at_e (ae_call (ad__law_same T 20) (hr.mono (by omega)) (by rfl) T.g__law_same T.F__law_same.kp T.b__law_same (aa_cons (ae_call (ad_close T) (hr.mono (by omega)) (by rfl) T.g_close T.F_close.kp T.b_close (aa_cons (ae_ix (hu_of hr) (ae_v 2) (ae_int)) (aa_nil))) (aa_cons (ae_ix (hu_of hr) (ae_v 2) (ae_int)) (aa_nil))))))))).pt)
 (ass_one (as_ret (ae_bl)))
 (ass_nil))
 (ass_cons (as_set (i := 2) sc_law.nd (ae_call (ad__law_small T) (hr.mono (by omega)) (by rfl) T.g__law_small T.F__law_small.kp T.b__law_small (aa_cons (ae_call (ad__law_source T) (hr.mono (by omega)) (by rfl) T.g__law_source T.F__law_source.kp T.b__law_source (aa_cons (ae_call (ad__law_cell T) (hr.mono (by omega)) (by rfl) T.g__law_cell T.F__law_cell.kp T.b__law_cell (aa_cons (ae_v 0) (aa_cons (ae_int) (aa_nil)))) (aa_nil))) (aa_nil))))
 (ass_cons (as_if (at_not (at_e (ae_call (ad__law_same T 20) (hr.mono (by omega)) (by rfl) T.g__law_same T.F__law_same.kp T.b__law_same (aa_cons (ae_call (ad_close T) (hr.mono (by omega)) (by rfl) T.g_close T.F_close.kp T.b_close (aa_cons (ae_ix (hu_of hr) (ae_v 2) (ae_int)) (aa_nil))) (aa_cons (ae_ix (hu_of hr) (ae_v 2) (ae_int)) (aa_nil))))))
 (ass_one (as_ret (ae_bl)))
 (ass_nil))
 (ass_cons (as_set (i := 2) sc_law.nd (ae_call (ad__law_wide T) (hr.mono (by omega)) (by rfl) T.g__law_wide T.F__law_wide.kp T.b__law_wide (aa_cons (ae_call (ad__law_source T) (hr.mono (by omega)) (by rfl) T.g__law_source T.F__law_source.kp T.b__law_source (aa_cons (ae_call (ad__law_cell T) (hr.mono (by omega)) (by rfl) T.g__law_cell T.F__law_cell.kp T.b__law_cell (aa_cons (ae_v 0) (aa_cons (ae_int) (aa_nil)))) (aa_nil))) (aa_nil))))
 (ass_one (as_ret (ae_call (ad__law_same T 20) (hr.mono (by omega)) (by rfl) T.g__law_same T.F__law_same.kp T.b__law_same (aa_cons (ae_call (ad_close T) (hr.mono (by omega)) (by rfl) T.g_close T.F_close.kp T.b_close (aa_cons (ae_ix (hu_of hr) (ae_v 2) (ae_int)) (aa_nil))) (aa_cons (ae_ix (hu_of hr) (ae_v 2) (ae_int)) (aa_nil))))))))))))))
end
end Law

namespace Ab

/-! ## tables of distances: what closes one -/
abbrev Mx := Nat → Nat → Int
def Feas (m : Nat) (M : Mx) (p : Nat → Int) : Prop := ∀ i j, i < m → j < m → i ≠ j → p i - p j ≤ M i j
structure Cl (m : Nat) (R : Mx) : Prop where
  tri : ∀ i l j, i < m → l < m → j < m → R i j ≤ R i l + R l j
  dg : ∀ i, i < m → R i i = 0
structure ClOf (m : Nat) (M R : Mx) : Prop where
  pos : ∀ i, i < m → 0 ≤ M i i
  cl : Cl m R
  le : ∀ i j, i < m → j < m → i ≠ j → R i j ≤ M i j
  sound : ∀ p, Feas m M p → ∀ i j, i < m → j < m → p i - p j ≤ R i j
def Closes (m : Nat) (M : Mx) : Option Mx → Prop
  | none => (∃ i, i < m ∧ M i i < 0) ∨ ¬ ∃ p, Feas m M p
  | some R => ClOf m M R
section
variable {m : Nat} {M R S : Mx}
theorem Cl.col (h : Cl m R) (le : ∀ i j, i < m → j < m → i ≠ j → R i j ≤ M i j) {j : Nat} (hj : j < m) : Feas m M fun k => R k j := fun a b ha hb hab => by
  have h1 := h.tri a b j ha hb hj
  have h2 := le a b ha hb hab
  show R a j - R b j ≤ M a b
  omega
theorem ClOf.below (h : ClOf m M R) (h' : ClOf m M S) {i j : Nat} (hi : i < m) (hj : j < m) : R i j ≤ S i j := by
  have h1 := h'.sound _ (h.cl.col h.le hj) i j hi hj
  have h2 := h.cl.dg j hj
  have h1 : R i j - R j j ≤ S i j := h1
  omega
theorem ClOf.same (h : ClOf m M R) (h' : ClOf m M S) {i j : Nat} (hi : i < m) (hj : j < m) : R i j = S i j := Int.le_antisymm (h.below h' hi hj) (h'.below h hi hj)
theorem ClOf.no (h : ClOf m M R) (h0 : 0 < m) (h' : Closes m M none) : False := by
  rcases h' with ⟨i, hi, h2⟩ | h2
  · have := h.pos i hi; omega
  · exact h2 ⟨_, h.cl.col h.le h0⟩

/-! ### one round: over k -/
structure Rnd (m : Nat) (M : Mx) (k : Nat) (R : Mx) : Prop where
  pos : ∀ i, i < m → 0 ≤ M i i
  sound : ∀ p, Feas m M p → ∀ i j, i < m → j < m → p i - p j ≤ R i j
  le : ∀ i j, i < m → j < m → i ≠ j → R i j ≤ M i j
  dg : ∀ i, i < m → R i i = 0
  tri : ∀ i l j, i < m → l < k → j < m → R i j ≤ R i l + R l j
def via (k : Nat) (R : Mx) : Mx := fun i j => if R i k + R k j < R i j then R i k + R k j else R i j
theorem Rnd.first (pos : ∀ i, i < m → 0 ≤ M i i) : Rnd m M 0 fun i j => if i = j then 0 else M i j :=
  ⟨pos, fun p hp i j hi hj => by
    by_cases e : i = j
    · subst e; simp
    · simp only [e, if_false]; exact hp i j hi hj e, fun i j _ _ e => by simp [e], fun i _ => by simp, fun i l j _ hl _ => by omega⟩
theorem Rnd.via_sound {k : Nat} (h : Rnd m M k R) (hk : k < m) : ∀ p, Feas m M p → ∀ i j, i < m → j < m → p i - p j ≤ via k R i j := fun p hp i j hi hj => by
  have h1 := h.sound p hp i j hi hj
  have h2 := h.sound p hp i k hi hk
  have h3 := h.sound p hp k j hk hj
  unfold via
  split <;> omega
theorem Rnd.neg {k i : Nat} (h : Rnd m M k R) (hk : k < m) (hi : i < m) (hn : via k R i i < 0) : ¬ ∃ p, Feas m M p := fun ⟨p, hp⟩ => by
  have := h.via_sound hk p hp i i hi hi
  omega
theorem Rnd.next {k : Nat} (h : Rnd m M k R) (hk : k < m) (hp : ∀ i, i < m → 0 ≤ via k R i i) : Rnd m M (k + 1) (via k R) := by
  have dg : ∀ i, i < m → via k R i i = 0 := fun i hi => by
    have h1 := hp i hi
    have h2 := h.dg i hi
    unfold via at h1 ⊢
    split at h1 <;> split <;> omega
  refine ⟨h.pos, h.via_sound hk, fun i j hi hj e => ?_, dg, fun i l j hi hl hj => ?_⟩
  · have := h.le i j hi hj e
    unfold via
    split <;> omega
  · have kk := h.dg k hk
    by_cases e : l = k
    · subst e
      have a1 : via l R i l = R i l := by unfold via; split <;> omega
      have a2 : via l R l j = R l j := by unfold via; split <;> omega
      rw [a1, a2]
      unfold via
      split <;> omega
    · have hl' : l < k := by omega
      have lm : l < m := by omega
      have t1 := h.tri i l j hi hl' hj
      have t2 := h.tri k l j hk hl' hj
      have t3 := h.tri i l k hi hl' hk
      have t4 := h.tri k l k hk hl' hk
      unfold via
      split <;> split <;> split <;> omega
theorem Rnd.last (h : Rnd m M m R) : ClOf m M R := ⟨h.pos, ⟨fun i l j hi hl hj => h.tri i l j hi hl hj, h.dg⟩, h.le, h.sound⟩

/-! ### one bound: i - j at most n -/
structure Inc (m : Nat) (M : Mx) (S : Nat → Nat → Prop) (R : Mx) : Prop where
  cl : Cl m R
  le : ∀ i j, i < m → j < m → i ≠ j → S i j → R i j ≤ M i j
  sound : ∀ p, Feas m M p → ∀ i j, i < m → j < m → p i - p j ≤ R i j
def bnd (i j : Nat) (n : Int) (R : Mx) : Mx := fun k l => if R k i + n + R j l < R k l then R k i + n + R j l else R k l
theorem Inc.neg {S : Nat → Nat → Prop} {i j : Nat} (h : Inc m M S R) (hi : i < m) (hj : j < m) (e : i ≠ j) (hn : M i j + R j i < 0) : ¬ ∃ p, Feas m M p := fun ⟨p, hp⟩ => by
  have h1 := hp i j hi hj e
  have h2 := h.sound p hp j i hj hi
  omega
theorem Cl.bnd {i j : Nat} {n : Int} (h : Cl m R) (hi : i < m) (hj : j < m) (hn : 0 ≤ n + R j i) : Cl m (bnd i j n R) := by
  refine ⟨fun a l b ha hl hb => ?_, fun a ha => ?_⟩
  · have t1 := h.tri a l b ha hl hb
    have t2 := h.tri a l i ha hl hi
    have t3 := h.tri j l b hj hl hb
    have t4 := h.tri j l i hj hl hi
    unfold Ab.bnd
    split <;> split <;> split <;> omega
  · have t := h.tri j a i hj ha hi
    have d := h.dg a ha
    unfold Ab.bnd
    split <;> omega
theorem Inc.next {S : Nat → Nat → Prop} {i j : Nat} (h : Inc m M S R) (hi : i < m) (hj : j < m) (e : i ≠ j) (hn : 0 ≤ M i j + R j i) : Inc m M (fun a b => S a b ∨ (a = i ∧ b = j)) (bnd i j (M i j) R) := by
  refine ⟨h.cl.bnd hi hj hn, fun a b ha hb hab hs => ?_, fun p hp a b ha hb => ?_⟩
  · rcases hs with hs | ⟨rfl, rfl⟩
    · have := h.le a b ha hb hab hs
      unfold bnd
      split <;> omega
    · have d1 := h.cl.dg a ha
      have d2 := h.cl.dg b hb
      unfold bnd
      split <;> omega
  · have h1 := h.sound p hp a b ha hb
    have h2 := h.sound p hp a i ha hi
    have h3 := h.sound p hp j b hj hb
    have h4 := hp i j hi hj e
    unfold bnd
    split <;> omega
end
end Ab

namespace Ab
/-- a ring of m places: os k stands at place k; from it to the next one es k -/
structure Ring (m : Nat) (es su : Nat → Int) (os pl : Nat → Nat) : Prop where
  m2 : 2 ≤ m
  po : ∀ i, i < m → pl i < m
  ol : ∀ k, k < m → os k < m
  op : ∀ i, i < m → os (pl i) = i
  pp : ∀ k, k < m → pl (os k) = k
  s0 : su 0 = 0
  ss : ∀ k, k < m → su (k + 1) = su k + es k
def wayP (m : Nat) (su : Nat → Int) (a b : Nat) : Int := if a ≤ b then su b - su a else su b - su a + su m
def nextP (m : Nat) (a : Nat) : Nat := if a + 1 = m then 0 else a + 1
section
variable {m : Nat} {es su : Nat → Int} {os pl : Nat → Nat} {M : Mx}
def absZ (x : Int) : Int := if x < 0 then -x else x
def tot (es : Nat → Int) : Nat → Int
  | 0 => 0
  | k + 1 => tot es k + absZ (es k)
theorem absZ_ge (x : Int) : 0 ≤ absZ x ∧ x ≤ absZ x ∧ -x ≤ absZ x := by unfold absZ; split <;> omega
theorem tot_mono {a b : Nat} (h : a ≤ b) : tot es a ≤ tot es b := by
  induction h with
  | refl => exact Int.le_refl _
  | @step k _ ih => have := (absZ_ge (es k)).1; show _ ≤ tot es k + _; omega
theorem tot_su (R : Ring m es su os pl) {a b : Nat} (h : a ≤ b) : b ≤ m → su b - su a ≤ tot es b - tot es a := by
  induction h with
  | refl => intro _; omega
  | @step k hk ih =>
    intro hm
    have h1 := ih (by omega)
    have h2 := R.ss k (by omega)
    have h3 := (absZ_ge (es k)).2.1
    show su (k + 1) - su a ≤ tot es k + absZ (es k) - tot es a
    omega
theorem way_far (R : Ring m es su os pl) {a b : Nat} (ha : a < m) (hb : b < m) : wayP m su a b ≤ tot es m := by
  unfold wayP
  have t0 : (0 : Int) = tot es 0 := rfl
  split
  · rename_i h
    have h1 := tot_su R h (by omega)
    have h2 : tot es b ≤ tot es m := tot_mono (by omega)
    have h3 : tot es 0 ≤ tot es a := tot_mono (by omega)
    omega
  · rename_i h
    have h1 := tot_su R (a := a) (b := m) (by omega) (Nat.le_refl _)
    have h2 := tot_su R (a := 0) (b := b) (by omega) (by omega)
    have h3 : tot es b ≤ tot es a := tot_mono (by omega)
    have h4 := R.s0
    omega
theorem way_next (R : Ring m es su os pl) {a : Nat} (ha : a < m) : wayP m su a (nextP m a) = es a := by
  have h := R.ss a ha
  have h0 := R.s0
  have m2 := R.m2
  unfold wayP nextP
  split
  · rename_i e
    rw [if_neg (by omega)]
    rw [e] at h
    omega
  · rw [if_pos (by omega)]; omega
theorem ring_step (R : Ring m es su os pl) {q : Nat → Int} (hq : ∀ k, k + 1 < m → q k - q (k + 1) ≤ es k) {a b : Nat} (h : a ≤ b) : b < m → q a - q b ≤ su b - su a := by
  induction h with
  | refl => intro _; omega
  | @step k hk ih =>
    intro hm
    have h1 := ih (by omega)
    have h2 := R.ss k (by omega)
    have h3 := hq k hm
    show q a - q (k + 1) ≤ su (k + 1) - su a
    omega
theorem ring_closes (R : Ring m es su os pl) (dg : ∀ i, i < m → M i i = 0) (nx : ∀ k, k < m → M (os k) (os (nextP m k)) = es k)
    (ge : ∀ i j, i < m → j < m → i ≠ j → pl j ≠ nextP m (pl i) → wayP m su (pl i) (pl j) ≤ M i j) : Closes m M (if su m < 0 then none else some fun i j => wayP m su (pl i) (pl j)) := by
  have m2 := R.m2
  have feas : ∀ p, Feas m M p → (∀ k, k + 1 < m → p (os k) - p (os (k + 1)) ≤ es k) ∧ p (os (m - 1)) - p (os 0) ≤ es (m - 1) := fun p hp => by
    refine ⟨fun k hk => ?_, ?_⟩
    · have h1 := nx k (by omega)
      have e : nextP m k = k + 1 := if_neg (by omega)
      rw [e] at h1
      rw [← h1]
      refine hp _ _ (R.ol k (by omega)) (R.ol _ hk) fun z => ?_
      have := congrArg pl z
      rw [R.pp k (by omega), R.pp _ hk] at this
      omega
    · have h1 := nx (m - 1) (by omega)
      have e : nextP m (m - 1) = 0 := if_pos (by omega)
      rw [e] at h1
      rw [← h1]
      refine hp _ _ (R.ol _ (by omega)) (R.ol _ (by omega)) fun z => ?_
      have := congrArg pl z
      rw [R.pp _ (by omega), R.pp _ (by omega)] at this
      omega
  have last := R.ss (m - 1) (by omega)
  rw [show m - 1 + 1 = m by omega] at last
  have s0 := R.s0
  split
  · rename_i hn
    refine .inr fun ⟨p, hp⟩ => ?_
    obtain ⟨h1, h2⟩ := feas p hp
    have h3 := ring_step R (q := fun k => p (os k)) h1 (a := 0) (b := m - 1) (by omega) (by omega)
    omega
  · rename_i hn
    refine ⟨fun i hi => by rw [dg i hi]; exact Int.le_refl _, ⟨fun i l j hi hl hj => ?_, fun i hi => ?_⟩, fun i j hi hj e => ?_, fun p hp i j hi hj => ?_⟩
    · show wayP m su (pl i) (pl j) ≤ wayP m su (pl i) (pl l) + wayP m su (pl l) (pl j)
      unfold wayP
      split <;> split <;> split <;> omega
    · show wayP m su (pl i) (pl i) = 0
      unfold wayP
      rw [if_pos (Nat.le_refl _)]; omega
    · by_cases h : pl j = nextP m (pl i)
      · have h1 := nx (pl i) (R.po i hi)
        rw [R.op i hi, ← h, R.op j hj] at h1
        show wayP m su (pl i) (pl j) ≤ M i j
        rw [h1, h, way_next R (R.po i hi)]
        exact Int.le_refl _
      · exact ge i j hi hj e h
    · obtain ⟨h1, h2⟩ := feas p hp
      have a := R.po i hi
      have b := R.po j hj
      have st : ∀ {a b : Nat}, a ≤ b → b < m → p (os a) - p (os b) ≤ su b - su a := fun h hb => ring_step R (q := fun k => p (os k)) h1 h hb
      show p i - p j ≤ wayP m su (pl i) (pl j)
      unfold wayP
      split
      · rename_i h
        have := st h b
        rwa [R.op i hi, R.op j hj] at this
      · rename_i h
        have h3 := st (a := pl i) (b := m - 1) (by omega) (by omega)
        have h4 := st (a := 0) (b := pl j) (by omega) b
        rw [R.op i hi] at h3
        rw [R.op j hj] at h4
        omega
end
end Ab

namespace Law
open PySem PySem.Spec PyProof.Rows L2 Ab
open scoped Classical
theorem pick_spec {A : AH} {s : Nat} {n : Int} (hs : Sr s A) (hn : n < 2 ^ 60) : DrwS s A (m__law_pick [.ref s, .int n] A) (Below n) := by
  obtain ⟨c, r, k, h⟩ := hs
  have hs : s < A.length := (List.getElem?_eq_some_iff.mp h).1
  unfold DrwS
  refine sat_body rfl (sat_seq ?_)
  have i2 : ixD (.ref s) (.int 2) A = .ok (.int k) A := ev_ix_r (rdL_l h) rfl
  have t2 : stD (.ref s) (.int 2) (.int (k + 1)) A = .ok () (A.set s (.lst [.int c, .int r, .int (k + 1)])) := ev_st_l (k := 2) (j := 2) h rfl
  simp only [sat_ok, sat_bad, sat_bind, sat_ite, bind_ok, bind_bad, thn_nx, thn_rt, thn_bk, thn_ct, fin_rt, fin_nx, ev_v, ev_c, ev_op, ev_un, ev_nil, ev_cons, ev_tup, ev_lst, ev_call, ev_own, ev_sl, ev_no, ev_part, ev_and, ev_or, ev_not, ev_if, ev_t, ev_tb, ev_tnot, ev_tand, ev_tor, ev_mt, ev_mt0, ev_rgd, ev_set, ev_asg, ev_ret, ev_retN, ev_ex, ev_pass, ev_brk, ev_cont, ev_ifS, ev_aug, ev_gn, ev_gtp, ev_gnl, ev_gcs, ev_gsb, ev_for, ev_rg1, ev_rg2, ev_its, ev_enum, ev_lc, ev_yes, ev_add_ii, ev_add_ss, ev_add_tt, ev_add_rr, ev_sub, ev_mul, ev_mod, ev_fdiv, ev_pow, ev_neg, ev_lt, ev_le, ev_gt, ev_ge, ev_eq_ii, ev_eq_ss, ev_eq_bb, ev_ne_ii, ev_ne_ss, ev_ne_bb, ev_is_n, ev_isnt_n, ev_int_i, ev_int_b, ev_min_ii, ev_max_ii, ev_abs, ev_tup_of, ev_tup_ofL, ev_lst_ofT, ev_lst_ofL, ev_len_t, ev_len_s, ev_len_r, ev_tru_b, ev_alloc, ev_tupD, ev_lstD, isi_tuple_non, isi_tuple_bl, isi_tuple_int, isi_tuple_str, isi_tuple_tup, isi_tuple_l, isi_tuple_f, isi_list_non, isi_list_bl, isi_list_int, isi_list_str, isi_list_tup, isi_list_l, isi_list_f, isi_bool_non, isi_bool_bl, isi_bool_int, isi_bool_str, isi_bool_tup, isi_bool_l, isi_bool_f, isi_int_non, isi_int_bl, isi_int_int, isi_int_str, isi_int_tup, isi_int_l, isi_int_f, isi_str_non, isi_str_bl, isi_str_int, isi_str_str, isi_str_tup, isi_str_l, isi_str_f, isi_dict_non, isi_dict_bl, isi_dict_int, isi_dict_str, isi_dict_tup, isi_dict_l, isi_dict_f, Ab.isNon, args, List.map, List.length_cons, List.length_nil, List.length_singleton, List.replicate, Nat.reduceSub, Nat.reduceAdd, Nat.zero_add, List.cons_append, List.nil_append, List.getElem?_cons_zero, List.getElem?_cons_succ, List.set_cons_zero, List.set_cons_succ, Option.some.injEq, decide_eq_true_eq, Bool.not_eq_true', decide_eq_false_iff_not, ite_true, ite_false, if_true, if_false, reduceIte, Bool.false_eq_true, Bool.not_true, Bool.not_false, Bool.true_eq_false, decide_true, decide_false, Nat.reduceLeDiff, Nat.reduceLT, i2]
  refine sat_seq ?_
  simp only [sat_ok, sat_bad, sat_bind, sat_ite, bind_ok, bind_bad, thn_nx, thn_rt, thn_bk, thn_ct, fin_rt, fin_nx, ev_v, ev_c, ev_op, ev_un, ev_nil, ev_cons, ev_tup, ev_lst, ev_call, ev_own, ev_sl, ev_no, ev_part, ev_and, ev_or, ev_not, ev_if, ev_t, ev_tb, ev_tnot, ev_tand, ev_tor, ev_mt, ev_mt0, ev_rgd, ev_set, ev_asg, ev_ret, ev_retN, ev_ex, ev_pass, ev_brk, ev_cont, ev_ifS, ev_aug, ev_gn, ev_gtp, ev_gnl, ev_gcs, ev_gsb, ev_for, ev_rg1, ev_rg2, ev_its, ev_enum, ev_lc, ev_yes, ev_add_ii, ev_add_ss, ev_add_tt, ev_add_rr, ev_sub, ev_mul, ev_mod, ev_fdiv, ev_pow, ev_neg, ev_lt, ev_le, ev_gt, ev_ge, ev_eq_ii, ev_eq_ss, ev_eq_bb, ev_ne_ii, ev_ne_ss, ev_ne_bb, ev_is_n, ev_isnt_n, ev_int_i, ev_int_b, ev_min_ii, ev_max_ii, ev_abs, ev_tup_of, ev_tup_ofL, ev_lst_ofT, ev_lst_ofL, ev_len_t, ev_len_s, ev_len_r, ev_tru_b, ev_alloc, ev_tupD, ev_lstD, isi_tuple_non, isi_tuple_bl, isi_tuple_int, isi_tuple_str, isi_tuple_tup, isi_tuple_l, isi_tuple_f, isi_list_non, isi_list_bl, isi_list_int, isi_list_str, isi_list_tup, isi_list_l, isi_list_f, isi_bool_non, isi_bool_bl, isi_bool_int, isi_bool_str, isi_bool_tup, isi_bool_l, isi_bool_f, isi_int_non, isi_int_bl, isi_int_int, isi_int_str, isi_int_tup, isi_int_l, isi_int_f, isi_str_non, isi_str_bl, isi_str_int, isi_str_str, isi_str_tup, isi_str_l, isi_str_f, isi_dict_non, isi_dict_bl, isi_dict_int, isi_dict_str, isi_dict_tup, isi_dict_l, isi_dict_f, Ab.isNon, args, List.map, List.length_cons, List.length_nil, List.length_singleton, List.replicate, Nat.reduceSub, Nat.reduceAdd, Nat.zero_add, List.cons_append, List.nil_append, List.getElem?_cons_zero, List.getElem?_cons_succ, List.set_cons_zero, List.set_cons_succ, Option.some.injEq, decide_eq_true_eq, Bool.not_eq_true', decide_eq_false_iff_not, ite_true, ite_false, if_true, if_false, reduceIte, Bool.false_eq_true, Bool.not_true, Bool.not_false, Bool.true_eq_false, decide_true, decide_false, Nat.reduceLeDiff, Nat.reduceLT, t2]
  have h' : (A.set s (.lst [.int c, .int r, .int (k + 1)]))[s]? = some (.lst [.int c, .int r, .int (k + 1)]) := List.getElem?_set_self hs
  have hset : ∀ o, (A.set s (.lst [.int c, .int r, .int (k + 1)])).set s o = A.set s o := fun o => List.set_set ..
  have hA : Dr s A (A.set s (.lst [.int c, .int r, .int (k + 1)])) := .set hs
  generalize A.set s (.lst [.int c, .int r, .int (k + 1)]) = A1 at h' hset hA ⊢
  have i0 : ixD (.ref s) (.int 0) A1 = .ok (.int c) A1 := ev_ix_r (rdL_l h') rfl
  have i1 : ixD (.ref s) (.int 1) A1 = .ok (.int r) A1 := ev_ix_r (rdL_l h') rfl
  have t1 : ∀ v, stD (.ref s) (.int 1) (.int v) A1 = .ok () (A.set s (.lst [.int c, .int v, .int (k + 1)])) := fun v => by rw [ev_st_l (k := 1) (j := 1) h' rfl, hset]; rfl
  have e18 : CPow 10 18 := powOk (by decide) (by decide) (by decide)
  refine sat_seq ?_
  simp only [sat_ok, sat_bad, sat_bind, sat_ite, bind_ok, bind_bad, thn_nx, thn_rt, thn_bk, thn_ct, fin_rt, fin_nx, ev_v, ev_c, ev_op, ev_un, ev_nil, ev_cons, ev_tup, ev_lst, ev_call, ev_own, ev_sl, ev_no, ev_part, ev_and, ev_or, ev_not, ev_if, ev_t, ev_tb, ev_tnot, ev_tand, ev_tor, ev_mt, ev_mt0, ev_rgd, ev_set, ev_asg, ev_ret, ev_retN, ev_ex, ev_pass, ev_brk, ev_cont, ev_ifS, ev_aug, ev_gn, ev_gtp, ev_gnl, ev_gcs, ev_gsb, ev_for, ev_rg1, ev_rg2, ev_its, ev_enum, ev_lc, ev_yes, ev_add_ii, ev_add_ss, ev_add_tt, ev_add_rr, ev_sub, ev_mul, ev_mod, ev_fdiv, ev_pow, ev_neg, ev_lt, ev_le, ev_gt, ev_ge, ev_eq_ii, ev_eq_ss, ev_eq_bb, ev_ne_ii, ev_ne_ss, ev_ne_bb, ev_is_n, ev_isnt_n, ev_int_i, ev_int_b, ev_min_ii, ev_max_ii, ev_abs, ev_tup_of, ev_tup_ofL, ev_lst_ofT, ev_lst_ofL, ev_len_t, ev_len_s, ev_len_r, ev_tru_b, ev_alloc, ev_tupD, ev_lstD, isi_tuple_non, isi_tuple_bl, isi_tuple_int, isi_tuple_str, isi_tuple_tup, isi_tuple_l, isi_tuple_f, isi_list_non, isi_list_bl, isi_list_int, isi_list_str, isi_list_tup, isi_list_l, isi_list_f, isi_bool_non, isi_bool_bl, isi_bool_int, isi_bool_str, isi_bool_tup, isi_bool_l, isi_bool_f, isi_int_non, isi_int_bl, isi_int_int, isi_int_str, isi_int_tup, isi_int_l, isi_int_f, isi_str_non, isi_str_bl, isi_str_int, isi_str_str, isi_str_tup, isi_str_l, isi_str_f, isi_dict_non, isi_dict_bl, isi_dict_int, isi_dict_str, isi_dict_tup, isi_dict_l, isi_dict_f, Ab.isNon, args, List.map, List.length_cons, List.length_nil, List.length_singleton, List.replicate, Nat.reduceSub, Nat.reduceAdd, Nat.zero_add, List.cons_append, List.nil_append, List.getElem?_cons_zero, List.getElem?_cons_succ, List.set_cons_zero, List.set_cons_succ, Option.some.injEq, decide_eq_true_eq, Bool.not_eq_true', decide_eq_false_iff_not, ite_true, ite_false, if_true, if_false, reduceIte, Bool.false_eq_true, Bool.not_true, Bool.not_false, Bool.true_eq_false, decide_true, decide_false, Nat.reduceLeDiff, Nat.reduceLT]
  split
  · exact ⟨⟨0, rfl, by omega, .inr rfl⟩, hA⟩
  rename_i hn2
  have n0 : 0 < n := by omega
  have dn : CDivW r n := divOk n0 (Int.lt_trans hn (by decide))
  have last : ∀ x : Int, CDivW x 9 := fun x => divOk (by decide) (by decide)
  have m1 : ∀ j : Int, mulOk 7919 j := fun j => mulOk_l (by decide) (by decide)
  have m2 : ∀ j : Int, mulOk 31 j := fun j => mulOk_l (by decide) (by decide)
  have m3 : ∀ i j : Int, mulOk (i % 2147483647) j := fun i j => mulOk_l (by omega) (by omega)
  have m4 : ∀ i j : Int, mulOk (i % 2147483629) j := fun i j => mulOk_l (by omega) (by omega)
  have p1 : (0 : Int) < 2147483647 := by decide
  have p2 : (0 : Int) < 2147483629 := by decide
  refine sat_seq (sat_ifS (b := decide (10 ^ 18 ≤ c ∧ 0 < r)) ?_ (fun _ => ?_) (fun _ => ?_))
  · simp only [sat_ok, sat_bad, sat_bind, sat_ite, bind_ok, bind_bad, thn_nx, thn_rt, thn_bk, thn_ct, fin_rt, fin_nx, ev_v, ev_c, ev_op, ev_un, ev_nil, ev_cons, ev_tup, ev_lst, ev_call, ev_own, ev_sl, ev_no, ev_part, ev_and, ev_or, ev_not, ev_if, ev_t, ev_tb, ev_tnot, ev_tand, ev_tor, ev_mt, ev_mt0, ev_rgd, ev_set, ev_asg, ev_ret, ev_retN, ev_ex, ev_pass, ev_brk, ev_cont, ev_ifS, ev_aug, ev_gn, ev_gtp, ev_gnl, ev_gcs, ev_gsb, ev_for, ev_rg1, ev_rg2, ev_its, ev_enum, ev_lc, ev_yes, ev_add_ii, ev_add_ss, ev_add_tt, ev_add_rr, ev_sub, ev_mul, ev_mod, ev_fdiv, ev_pow, ev_neg, ev_lt, ev_le, ev_gt, ev_ge, ev_eq_ii, ev_eq_ss, ev_eq_bb, ev_ne_ii, ev_ne_ss, ev_ne_bb, ev_is_n, ev_isnt_n, ev_int_i, ev_int_b, ev_min_ii, ev_max_ii, ev_abs, ev_tup_of, ev_tup_ofL, ev_lst_ofT, ev_lst_ofL, ev_len_t, ev_len_s, ev_len_r, ev_tru_b, ev_alloc, ev_tupD, ev_lstD, isi_tuple_non, isi_tuple_bl, isi_tuple_int, isi_tuple_str, isi_tuple_tup, isi_tuple_l, isi_tuple_f, isi_list_non, isi_list_bl, isi_list_int, isi_list_str, isi_list_tup, isi_list_l, isi_list_f, isi_bool_non, isi_bool_bl, isi_bool_int, isi_bool_str, isi_bool_tup, isi_bool_l, isi_bool_f, isi_int_non, isi_int_bl, isi_int_int, isi_int_str, isi_int_tup, isi_int_l, isi_int_f, isi_str_non, isi_str_bl, isi_str_int, isi_str_str, isi_str_tup, isi_str_l, isi_str_f, isi_dict_non, isi_dict_bl, isi_dict_int, isi_dict_str, isi_dict_tup, isi_dict_l, isi_dict_f, Ab.isNon, args, List.map, List.length_cons, List.length_nil, List.length_singleton, List.replicate, Nat.reduceSub, Nat.reduceAdd, Nat.zero_add, List.cons_append, List.nil_append, List.getElem?_cons_zero, List.getElem?_cons_succ, List.set_cons_zero, List.set_cons_succ, Option.some.injEq, decide_eq_true_eq, Bool.not_eq_true', decide_eq_false_iff_not, ite_true, ite_false, if_true, if_false, reduceIte, Bool.false_eq_true, Bool.not_true, Bool.not_false, Bool.true_eq_false, decide_true, decide_false, Nat.reduceLeDiff, Nat.reduceLT, i0, i1, e18]
    by_cases h1 : (10 : Int) ^ Int.toNat 18 ≤ c
    · rw [if_pos h1]; congr 1; exact decide_eq_decide.mpr ⟨fun q => ⟨h1, q⟩, fun q => q.2⟩
    · rw [if_neg h1]; congr 1; exact (decide_eq_false fun q => h1 q.1).symm
  · refine sat_seq ?_
    simp only [sat_ok, sat_bad, sat_bind, sat_ite, bind_ok, bind_bad, thn_nx, thn_rt, thn_bk, thn_ct, fin_rt, fin_nx, ev_v, ev_c, ev_op, ev_un, ev_nil, ev_cons, ev_tup, ev_lst, ev_call, ev_own, ev_sl, ev_no, ev_part, ev_and, ev_or, ev_not, ev_if, ev_t, ev_tb, ev_tnot, ev_tand, ev_tor, ev_mt, ev_mt0, ev_rgd, ev_set, ev_asg, ev_ret, ev_retN, ev_ex, ev_pass, ev_brk, ev_cont, ev_ifS, ev_aug, ev_gn, ev_gtp, ev_gnl, ev_gcs, ev_gsb, ev_for, ev_rg1, ev_rg2, ev_its, ev_enum, ev_lc, ev_yes, ev_add_ii, ev_add_ss, ev_add_tt, ev_add_rr, ev_sub, ev_mul, ev_mod, ev_fdiv, ev_pow, ev_neg, ev_lt, ev_le, ev_gt, ev_ge, ev_eq_ii, ev_eq_ss, ev_eq_bb, ev_ne_ii, ev_ne_ss, ev_ne_bb, ev_is_n, ev_isnt_n, ev_int_i, ev_int_b, ev_min_ii, ev_max_ii, ev_abs, ev_tup_of, ev_tup_ofL, ev_lst_ofT, ev_lst_ofL, ev_len_t, ev_len_s, ev_len_r, ev_tru_b, ev_alloc, ev_tupD, ev_lstD, isi_tuple_non, isi_tuple_bl, isi_tuple_int, isi_tuple_str, isi_tuple_tup, isi_tuple_l, isi_tuple_f, isi_list_non, isi_list_bl, isi_list_int, isi_list_str, isi_list_tup, isi_list_l, isi_list_f, isi_bool_non, isi_bool_bl, isi_bool_int, isi_bool_str, isi_bool_tup, isi_bool_l, isi_bool_f, isi_int_non, isi_int_bl, isi_int_int, isi_int_str, isi_int_tup, isi_int_l, isi_int_f, isi_str_non, isi_str_bl, isi_str_int, isi_str_str, isi_str_tup, isi_str_l, isi_str_f, isi_dict_non, isi_dict_bl, isi_dict_int, isi_dict_str, isi_dict_tup, isi_dict_l, isi_dict_f, Ab.isNon, args, List.map, List.length_cons, List.length_nil, List.length_singleton, List.replicate, Nat.reduceSub, Nat.reduceAdd, Nat.zero_add, List.cons_append, List.nil_append, List.getElem?_cons_zero, List.getElem?_cons_succ, List.set_cons_zero, List.set_cons_succ, Option.some.injEq, decide_eq_true_eq, Bool.not_eq_true', decide_eq_false_iff_not, ite_true, ite_false, if_true, if_false, reduceIte, Bool.false_eq_true, Bool.not_true, Bool.not_false, Bool.true_eq_false, decide_true, decide_false, Nat.reduceLeDiff, Nat.reduceLT, i1, n0]
    refine sat_seq ?_
    simp only [sat_ok, sat_bad, sat_bind, sat_ite, bind_ok, bind_bad, thn_nx, thn_rt, thn_bk, thn_ct, fin_rt, fin_nx, ev_v, ev_c, ev_op, ev_un, ev_nil, ev_cons, ev_tup, ev_lst, ev_call, ev_own, ev_sl, ev_no, ev_part, ev_and, ev_or, ev_not, ev_if, ev_t, ev_tb, ev_tnot, ev_tand, ev_tor, ev_mt, ev_mt0, ev_rgd, ev_set, ev_asg, ev_ret, ev_retN, ev_ex, ev_pass, ev_brk, ev_cont, ev_ifS, ev_aug, ev_gn, ev_gtp, ev_gnl, ev_gcs, ev_gsb, ev_for, ev_rg1, ev_rg2, ev_its, ev_enum, ev_lc, ev_yes, ev_add_ii, ev_add_ss, ev_add_tt, ev_add_rr, ev_sub, ev_mul, ev_mod, ev_fdiv, ev_pow, ev_neg, ev_lt, ev_le, ev_gt, ev_ge, ev_eq_ii, ev_eq_ss, ev_eq_bb, ev_ne_ii, ev_ne_ss, ev_ne_bb, ev_is_n, ev_isnt_n, ev_int_i, ev_int_b, ev_min_ii, ev_max_ii, ev_abs, ev_tup_of, ev_tup_ofL, ev_lst_ofT, ev_lst_ofL, ev_len_t, ev_len_s, ev_len_r, ev_tru_b, ev_alloc, ev_tupD, ev_lstD, isi_tuple_non, isi_tuple_bl, isi_tuple_int, isi_tuple_str, isi_tuple_tup, isi_tuple_l, isi_tuple_f, isi_list_non, isi_list_bl, isi_list_int, isi_list_str, isi_list_tup, isi_list_l, isi_list_f, isi_bool_non, isi_bool_bl, isi_bool_int, isi_bool_str, isi_bool_tup, isi_bool_l, isi_bool_f, isi_int_non, isi_int_bl, isi_int_int, isi_int_str, isi_int_tup, isi_int_l, isi_int_f, isi_str_non, isi_str_bl, isi_str_int, isi_str_str, isi_str_tup, isi_str_l, isi_str_f, isi_dict_non, isi_dict_bl, isi_dict_int, isi_dict_str, isi_dict_tup, isi_dict_l, isi_dict_f, Ab.isNon, args, List.map, List.length_cons, List.length_nil, List.length_singleton, List.replicate, Nat.reduceSub, Nat.reduceAdd, Nat.zero_add, List.cons_append, List.nil_append, List.getElem?_cons_zero, List.getElem?_cons_succ, List.set_cons_zero, List.set_cons_succ, Option.some.injEq, decide_eq_true_eq, Bool.not_eq_true', decide_eq_false_iff_not, ite_true, ite_false, if_true, if_false, reduceIte, Bool.false_eq_true, Bool.not_true, Bool.not_false, Bool.true_eq_false, decide_true, decide_false, Nat.reduceLeDiff, Nat.reduceLT, i1, t1, dn]
    exact ⟨⟨_, rfl, Int.emod_nonneg _ (by omega), .inl (Int.emod_lt_of_pos _ n0)⟩, .set hs⟩
  · simp only [sat_ok, sat_bad, sat_bind, sat_ite, bind_ok, bind_bad, thn_nx, thn_rt, thn_bk, thn_ct, fin_rt, fin_nx, ev_v, ev_c, ev_op, ev_un, ev_nil, ev_cons, ev_tup, ev_lst, ev_call, ev_own, ev_sl, ev_no, ev_part, ev_and, ev_or, ev_not, ev_if, ev_t, ev_tb, ev_tnot, ev_tand, ev_tor, ev_mt, ev_mt0, ev_rgd, ev_set, ev_asg, ev_ret, ev_retN, ev_ex, ev_pass, ev_brk, ev_cont, ev_ifS, ev_aug, ev_gn, ev_gtp, ev_gnl, ev_gcs, ev_gsb, ev_for, ev_rg1, ev_rg2, ev_its, ev_enum, ev_lc, ev_yes, ev_add_ii, ev_add_ss, ev_add_tt, ev_add_rr, ev_sub, ev_mul, ev_mod, ev_fdiv, ev_pow, ev_neg, ev_lt, ev_le, ev_gt, ev_ge, ev_eq_ii, ev_eq_ss, ev_eq_bb, ev_ne_ii, ev_ne_ss, ev_ne_bb, ev_is_n, ev_isnt_n, ev_int_i, ev_int_b, ev_min_ii, ev_max_ii, ev_abs, ev_tup_of, ev_tup_ofL, ev_lst_ofT, ev_lst_ofL, ev_len_t, ev_len_s, ev_len_r, ev_tru_b, ev_alloc, ev_tupD, ev_lstD, isi_tuple_non, isi_tuple_bl, isi_tuple_int, isi_tuple_str, isi_tuple_tup, isi_tuple_l, isi_tuple_f, isi_list_non, isi_list_bl, isi_list_int, isi_list_str, isi_list_tup, isi_list_l, isi_list_f, isi_bool_non, isi_bool_bl, isi_bool_int, isi_bool_str, isi_bool_tup, isi_bool_l, isi_bool_f, isi_int_non, isi_int_bl, isi_int_int, isi_int_str, isi_int_tup, isi_int_l, isi_int_f, isi_str_non, isi_str_bl, isi_str_int, isi_str_str, isi_str_tup, isi_str_l, isi_str_f, isi_dict_non, isi_dict_bl, isi_dict_int, isi_dict_str, isi_dict_tup, isi_dict_l, isi_dict_f, Ab.isNon, args, List.map, List.length_cons, List.length_nil, List.length_singleton, List.replicate, Nat.reduceSub, Nat.reduceAdd, Nat.zero_add, List.cons_append, List.nil_append, List.getElem?_cons_zero, List.getElem?_cons_succ, List.set_cons_zero, List.set_cons_succ, Option.some.injEq, decide_eq_true_eq, Bool.not_eq_true', decide_eq_false_iff_not, ite_true, ite_false, if_true, if_false, reduceIte, Bool.false_eq_true, Bool.not_true, Bool.not_false, Bool.true_eq_false, decide_true, decide_false, Nat.reduceLeDiff, Nat.reduceLT]
    refine sat_seq ?_
    simp only [sat_ok, sat_bad, sat_bind, sat_ite, bind_ok, bind_bad, thn_nx, thn_rt, thn_bk, thn_ct, fin_rt, fin_nx, ev_v, ev_c, ev_op, ev_un, ev_nil, ev_cons, ev_tup, ev_lst, ev_call, ev_own, ev_sl, ev_no, ev_part, ev_and, ev_or, ev_not, ev_if, ev_t, ev_tb, ev_tnot, ev_tand, ev_tor, ev_mt, ev_mt0, ev_rgd, ev_set, ev_asg, ev_ret, ev_retN, ev_ex, ev_pass, ev_brk, ev_cont, ev_ifS, ev_aug, ev_gn, ev_gtp, ev_gnl, ev_gcs, ev_gsb, ev_for, ev_rg1, ev_rg2, ev_its, ev_enum, ev_lc, ev_yes, ev_add_ii, ev_add_ss, ev_add_tt, ev_add_rr, ev_sub, ev_mul, ev_mod, ev_fdiv, ev_pow, ev_neg, ev_lt, ev_le, ev_gt, ev_ge, ev_eq_ii, ev_eq_ss, ev_eq_bb, ev_ne_ii, ev_ne_ss, ev_ne_bb, ev_is_n, ev_isnt_n, ev_int_i, ev_int_b, ev_min_ii, ev_max_ii, ev_abs, ev_tup_of, ev_tup_ofL, ev_lst_ofT, ev_lst_ofL, ev_len_t, ev_len_s, ev_len_r, ev_tru_b, ev_alloc, ev_tupD, ev_lstD, isi_tuple_non, isi_tuple_bl, isi_tuple_int, isi_tuple_str, isi_tuple_tup, isi_tuple_l, isi_tuple_f, isi_list_non, isi_list_bl, isi_list_int, isi_list_str, isi_list_tup, isi_list_l, isi_list_f, isi_bool_non, isi_bool_bl, isi_bool_int, isi_bool_str, isi_bool_tup, isi_bool_l, isi_bool_f, isi_int_non, isi_int_bl, isi_int_int, isi_int_str, isi_int_tup, isi_int_l, isi_int_f, isi_str_non, isi_str_bl, isi_str_int, isi_str_str, isi_str_tup, isi_str_l, isi_str_f, isi_dict_non, isi_dict_bl, isi_dict_int, isi_dict_str, isi_dict_tup, isi_dict_l, isi_dict_f, Ab.isNon, args, List.map, List.length_cons, List.length_nil, List.length_singleton, List.replicate, Nat.reduceSub, Nat.reduceAdd, Nat.zero_add, List.cons_append, List.nil_append, List.getElem?_cons_zero, List.getElem?_cons_succ, List.set_cons_zero, List.set_cons_succ, Option.some.injEq, decide_eq_true_eq, Bool.not_eq_true', decide_eq_false_iff_not, ite_true, ite_false, if_true, if_false, reduceIte, Bool.false_eq_true, Bool.not_true, Bool.not_false, Bool.true_eq_false, decide_true, decide_false, Nat.reduceLeDiff, Nat.reduceLT, i0, m1, p1]
    refine sat_seq ?_
    simp only [sat_ok, sat_bad, sat_bind, sat_ite, bind_ok, bind_bad, thn_nx, thn_rt, thn_bk, thn_ct, fin_rt, fin_nx, ev_v, ev_c, ev_op, ev_un, ev_nil, ev_cons, ev_tup, ev_lst, ev_call, ev_own, ev_sl, ev_no, ev_part, ev_and, ev_or, ev_not, ev_if, ev_t, ev_tb, ev_tnot, ev_tand, ev_tor, ev_mt, ev_mt0, ev_rgd, ev_set, ev_asg, ev_ret, ev_retN, ev_ex, ev_pass, ev_brk, ev_cont, ev_ifS, ev_aug, ev_gn, ev_gtp, ev_gnl, ev_gcs, ev_gsb, ev_for, ev_rg1, ev_rg2, ev_its, ev_enum, ev_lc, ev_yes, ev_add_ii, ev_add_ss, ev_add_tt, ev_add_rr, ev_sub, ev_mul, ev_mod, ev_fdiv, ev_pow, ev_neg, ev_lt, ev_le, ev_gt, ev_ge, ev_eq_ii, ev_eq_ss, ev_eq_bb, ev_ne_ii, ev_ne_ss, ev_ne_bb, ev_is_n, ev_isnt_n, ev_int_i, ev_int_b, ev_min_ii, ev_max_ii, ev_abs, ev_tup_of, ev_tup_ofL, ev_lst_ofT, ev_lst_ofL, ev_len_t, ev_len_s, ev_len_r, ev_tru_b, ev_alloc, ev_tupD, ev_lstD, isi_tuple_non, isi_tuple_bl, isi_tuple_int, isi_tuple_str, isi_tuple_tup, isi_tuple_l, isi_tuple_f, isi_list_non, isi_list_bl, isi_list_int, isi_list_str, isi_list_tup, isi_list_l, isi_list_f, isi_bool_non, isi_bool_bl, isi_bool_int, isi_bool_str, isi_bool_tup, isi_bool_l, isi_bool_f, isi_int_non, isi_int_bl, isi_int_int, isi_int_str, isi_int_tup, isi_int_l, isi_int_f, isi_str_non, isi_str_bl, isi_str_int, isi_str_str, isi_str_tup, isi_str_l, isi_str_f, isi_dict_non, isi_dict_bl, isi_dict_int, isi_dict_str, isi_dict_tup, isi_dict_l, isi_dict_f, Ab.isNon, args, List.map, List.length_cons, List.length_nil, List.length_singleton, List.replicate, Nat.reduceSub, Nat.reduceAdd, Nat.zero_add, List.cons_append, List.nil_append, List.getElem?_cons_zero, List.getElem?_cons_succ, List.set_cons_zero, List.set_cons_succ, Option.some.injEq, decide_eq_true_eq, Bool.not_eq_true', decide_eq_false_iff_not, ite_true, ite_false, if_true, if_false, reduceIte, Bool.false_eq_true, Bool.not_true, Bool.not_false, Bool.true_eq_false, decide_true, decide_false, Nat.reduceLeDiff, Nat.reduceLT, m3, p2]
    refine sat_seq ?_
    simp only [sat_ok, sat_bad, sat_bind, sat_ite, bind_ok, bind_bad, thn_nx, thn_rt, thn_bk, thn_ct, fin_rt, fin_nx, ev_v, ev_c, ev_op, ev_un, ev_nil, ev_cons, ev_tup, ev_lst, ev_call, ev_own, ev_sl, ev_no, ev_part, ev_and, ev_or, ev_not, ev_if, ev_t, ev_tb, ev_tnot, ev_tand, ev_tor, ev_mt, ev_mt0, ev_rgd, ev_set, ev_asg, ev_ret, ev_retN, ev_ex, ev_pass, ev_brk, ev_cont, ev_ifS, ev_aug, ev_gn, ev_gtp, ev_gnl, ev_gcs, ev_gsb, ev_for, ev_rg1, ev_rg2, ev_its, ev_enum, ev_lc, ev_yes, ev_add_ii, ev_add_ss, ev_add_tt, ev_add_rr, ev_sub, ev_mul, ev_mod, ev_fdiv, ev_pow, ev_neg, ev_lt, ev_le, ev_gt, ev_ge, ev_eq_ii, ev_eq_ss, ev_eq_bb, ev_ne_ii, ev_ne_ss, ev_ne_bb, ev_is_n, ev_isnt_n, ev_int_i, ev_int_b, ev_min_ii, ev_max_ii, ev_abs, ev_tup_of, ev_tup_ofL, ev_lst_ofT, ev_lst_ofL, ev_len_t, ev_len_s, ev_len_r, ev_tru_b, ev_alloc, ev_tupD, ev_lstD, isi_tuple_non, isi_tuple_bl, isi_tuple_int, isi_tuple_str, isi_tuple_tup, isi_tuple_l, isi_tuple_f, isi_list_non, isi_list_bl, isi_list_int, isi_list_str, isi_list_tup, isi_list_l, isi_list_f, isi_bool_non, isi_bool_bl, isi_bool_int, isi_bool_str, isi_bool_tup, isi_bool_l, isi_bool_f, isi_int_non, isi_int_bl, isi_int_int, isi_int_str, isi_int_tup, isi_int_l, isi_int_f, isi_str_non, isi_str_bl, isi_str_int, isi_str_str, isi_str_tup, isi_str_l, isi_str_f, isi_dict_non, isi_dict_bl, isi_dict_int, isi_dict_str, isi_dict_tup, isi_dict_l, isi_dict_f, Ab.isNon, args, List.map, List.length_cons, List.length_nil, List.length_singleton, List.replicate, Nat.reduceSub, Nat.reduceAdd, Nat.zero_add, List.cons_append, List.nil_append, List.getElem?_cons_zero, List.getElem?_cons_succ, List.set_cons_zero, List.set_cons_succ, Option.some.injEq, decide_eq_true_eq, Bool.not_eq_true', decide_eq_false_iff_not, ite_true, ite_false, if_true, if_false, reduceIte, Bool.false_eq_true, Bool.not_true, Bool.not_false, Bool.true_eq_false, decide_true, decide_false, Nat.reduceLeDiff, Nat.reduceLT, m4, m2, p1]
    simp only [sat_ok, sat_bad, sat_bind, sat_ite, bind_ok, bind_bad, thn_nx, thn_rt, thn_bk, thn_ct, fin_rt, fin_nx, ev_v, ev_c, ev_op, ev_un, ev_nil, ev_cons, ev_tup, ev_lst, ev_call, ev_own, ev_sl, ev_no, ev_part, ev_and, ev_or, ev_not, ev_if, ev_t, ev_tb, ev_tnot, ev_tand, ev_tor, ev_mt, ev_mt0, ev_rgd, ev_set, ev_asg, ev_ret, ev_retN, ev_ex, ev_pass, ev_brk, ev_cont, ev_ifS, ev_aug, ev_gn, ev_gtp, ev_gnl, ev_gcs, ev_gsb, ev_for, ev_rg1, ev_rg2, ev_its, ev_enum, ev_lc, ev_yes, ev_add_ii, ev_add_ss, ev_add_tt, ev_add_rr, ev_sub, ev_mul, ev_mod, ev_fdiv, ev_pow, ev_neg, ev_lt, ev_le, ev_gt, ev_ge, ev_eq_ii, ev_eq_ss, ev_eq_bb, ev_ne_ii, ev_ne_ss, ev_ne_bb, ev_is_n, ev_isnt_n, ev_int_i, ev_int_b, ev_min_ii, ev_max_ii, ev_abs, ev_tup_of, ev_tup_ofL, ev_lst_ofT, ev_lst_ofL, ev_len_t, ev_len_s, ev_len_r, ev_tru_b, ev_alloc, ev_tupD, ev_lstD, isi_tuple_non, isi_tuple_bl, isi_tuple_int, isi_tuple_str, isi_tuple_tup, isi_tuple_l, isi_tuple_f, isi_list_non, isi_list_bl, isi_list_int, isi_list_str, isi_list_tup, isi_list_l, isi_list_f, isi_bool_non, isi_bool_bl, isi_bool_int, isi_bool_str, isi_bool_tup, isi_bool_l, isi_bool_f, isi_int_non, isi_int_bl, isi_int_int, isi_int_str, isi_int_tup, isi_int_l, isi_int_f, isi_str_non, isi_str_bl, isi_str_int, isi_str_str, isi_str_tup, isi_str_l, isi_str_f, isi_dict_non, isi_dict_bl, isi_dict_int, isi_dict_str, isi_dict_tup, isi_dict_l, isi_dict_f, Ab.isNon, args, List.map, List.length_cons, List.length_nil, List.length_singleton, List.replicate, Nat.reduceSub, Nat.reduceAdd, Nat.zero_add, List.cons_append, List.nil_append, List.getElem?_cons_zero, List.getElem?_cons_succ, List.set_cons_zero, List.set_cons_succ, Option.some.injEq, decide_eq_true_eq, Bool.not_eq_true', decide_eq_false_iff_not, ite_true, ite_false, if_true, if_false, reduceIte, Bool.false_eq_true, Bool.not_true, Bool.not_false, Bool.true_eq_false, decide_true, decide_false, Nat.reduceLeDiff, Nat.reduceLT, last, n0]
    exact ⟨⟨_, rfl, Int.emod_nonneg _ (by omega), .inl (Int.emod_lt_of_pos _ n0)⟩, hA⟩
theorem same_refl : ∀ (n : Nat) (d : D) (A : AH), Pl n d → m__law_same (n + 1) [d, d] A = .ok (.bl true) A := by
  intro n
  induction n with
  | zero =>
    intro d A h
    have key : Sat (m__law_same (0 + 1) [d, d] A) fun e A' => e = .bl true ∧ A' = A := by
      refine sat_body rfl (sat_seq ?_)
      cases d with
      | non => simp only [sat_ok, sat_bad, sat_bind, sat_ite, bind_ok, bind_bad, thn_nx, thn_rt, thn_bk, thn_ct, fin_rt, fin_nx, ev_v, ev_c, ev_op, ev_un, ev_nil, ev_cons, ev_tup, ev_lst, ev_call, ev_own, ev_sl, ev_no, ev_part, ev_and, ev_or, ev_not, ev_if, ev_t, ev_tb, ev_tnot, ev_tand, ev_tor, ev_mt, ev_mt0, ev_rgd, ev_set, ev_asg, ev_ret, ev_retN, ev_ex, ev_pass, ev_brk, ev_cont, ev_ifS, ev_aug, ev_gn, ev_gtp, ev_gnl, ev_gcs, ev_gsb, ev_for, ev_rg1, ev_rg2, ev_its, ev_enum, ev_lc, ev_yes, ev_add_ii, ev_add_ss, ev_add_tt, ev_add_rr, ev_sub, ev_mul, ev_mod, ev_fdiv, ev_pow, ev_neg, ev_lt, ev_le, ev_gt, ev_ge, ev_eq_ii, ev_eq_ss, ev_eq_bb, ev_ne_ii, ev_ne_ss, ev_ne_bb, ev_is_n, ev_isnt_n, ev_int_i, ev_int_b, ev_min_ii, ev_max_ii, ev_abs, ev_tup_of, ev_tup_ofL, ev_lst_ofT, ev_lst_ofL, ev_len_t, ev_len_s, ev_len_r, ev_tru_b, ev_alloc, ev_tupD, ev_lstD, isi_tuple_non, isi_tuple_bl, isi_tuple_int, isi_tuple_str, isi_tuple_tup, isi_tuple_l, isi_tuple_f, isi_list_non, isi_list_bl, isi_list_int, isi_list_str, isi_list_tup, isi_list_l, isi_list_f, isi_bool_non, isi_bool_bl, isi_bool_int, isi_bool_str, isi_bool_tup, isi_bool_l, isi_bool_f, isi_int_non, isi_int_bl, isi_int_int, isi_int_str, isi_int_tup, isi_int_l, isi_int_f, isi_str_non, isi_str_bl, isi_str_int, isi_str_str, isi_str_tup, isi_str_l, isi_str_f, isi_dict_non, isi_dict_bl, isi_dict_int, isi_dict_str, isi_dict_tup, isi_dict_l, isi_dict_f, Ab.isNon, args, List.map, List.length_cons, List.length_nil, List.length_singleton, List.replicate, Nat.reduceSub, Nat.reduceAdd, Nat.zero_add, List.cons_append, List.nil_append, List.getElem?_cons_zero, List.getElem?_cons_succ, List.set_cons_zero, List.set_cons_succ, Option.some.injEq, decide_eq_true_eq, Bool.not_eq_true', decide_eq_false_iff_not, ite_true, ite_false, if_true, if_false, reduceIte, Bool.false_eq_true, Bool.not_true, Bool.not_false, Bool.true_eq_false, decide_true, decide_false, Nat.reduceLeDiff, Nat.reduceLT]; refine sat_seq ?_; simp only [sat_ok, sat_bad, sat_bind, sat_ite, bind_ok, bind_bad, thn_nx, thn_rt, thn_bk, thn_ct, fin_rt, fin_nx, ev_v, ev_c, ev_op, ev_un, ev_nil, ev_cons, ev_tup, ev_lst, ev_call, ev_own, ev_sl, ev_no, ev_part, ev_and, ev_or, ev_not, ev_if, ev_t, ev_tb, ev_tnot, ev_tand, ev_tor, ev_mt, ev_mt0, ev_rgd, ev_set, ev_asg, ev_ret, ev_retN, ev_ex, ev_pass, ev_brk, ev_cont, ev_ifS, ev_aug, ev_gn, ev_gtp, ev_gnl, ev_gcs, ev_gsb, ev_for, ev_rg1, ev_rg2, ev_its, ev_enum, ev_lc, ev_yes, ev_add_ii, ev_add_ss, ev_add_tt, ev_add_rr, ev_sub, ev_mul, ev_mod, ev_fdiv, ev_pow, ev_neg, ev_lt, ev_le, ev_gt, ev_ge, ev_eq_ii, ev_eq_ss, ev_eq_bb, ev_ne_ii, ev_ne_ss, ev_ne_bb, ev_is_n, ev_isnt_n, ev_int_i, ev_int_b, ev_min_ii, ev_max_ii, ev_abs, ev_tup_of, ev_tup_ofL, ev_lst_ofT, ev_lst_ofL, ev_len_t, ev_len_s, ev_len_r, ev_tru_b, ev_alloc, ev_tupD, ev_lstD, isi_tuple_non, isi_tuple_bl, isi_tuple_int, isi_tuple_str, isi_tuple_tup, isi_tuple_l, isi_tuple_f, isi_list_non, isi_list_bl, isi_list_int, isi_list_str, isi_list_tup, isi_list_l, isi_list_f, isi_bool_non, isi_bool_bl, isi_bool_int, isi_bool_str, isi_bool_tup, isi_bool_l, isi_bool_f, isi_int_non, isi_int_bl, isi_int_int, isi_int_str, isi_int_tup, isi_int_l, isi_int_f, isi_str_non, isi_str_bl, isi_str_int, isi_str_str, isi_str_tup, isi_str_l, isi_str_f, isi_dict_non, isi_dict_bl, isi_dict_int, isi_dict_str, isi_dict_tup, isi_dict_l, isi_dict_f, Ab.isNon, args, List.map, List.length_cons, List.length_nil, List.length_singleton, List.replicate, Nat.reduceSub, Nat.reduceAdd, Nat.zero_add, List.cons_append, List.nil_append, List.getElem?_cons_zero, List.getElem?_cons_succ, List.set_cons_zero, List.set_cons_succ, Option.some.injEq, decide_eq_true_eq, Bool.not_eq_true', decide_eq_false_iff_not, ite_true, ite_false, if_true, if_false, reduceIte, Bool.false_eq_true, Bool.not_true, Bool.not_false, Bool.true_eq_false, decide_true, decide_false, Nat.reduceLeDiff, Nat.reduceLT]; trivial
      | bl b => simp only [sat_ok, sat_bad, sat_bind, sat_ite, bind_ok, bind_bad, thn_nx, thn_rt, thn_bk, thn_ct, fin_rt, fin_nx, ev_v, ev_c, ev_op, ev_un, ev_nil, ev_cons, ev_tup, ev_lst, ev_call, ev_own, ev_sl, ev_no, ev_part, ev_and, ev_or, ev_not, ev_if, ev_t, ev_tb, ev_tnot, ev_tand, ev_tor, ev_mt, ev_mt0, ev_rgd, ev_set, ev_asg, ev_ret, ev_retN, ev_ex, ev_pass, ev_brk, ev_cont, ev_ifS, ev_aug, ev_gn, ev_gtp, ev_gnl, ev_gcs, ev_gsb, ev_for, ev_rg1, ev_rg2, ev_its, ev_enum, ev_lc, ev_yes, ev_add_ii, ev_add_ss, ev_add_tt, ev_add_rr, ev_sub, ev_mul, ev_mod, ev_fdiv, ev_pow, ev_neg, ev_lt, ev_le, ev_gt, ev_ge, ev_eq_ii, ev_eq_ss, ev_eq_bb, ev_ne_ii, ev_ne_ss, ev_ne_bb, ev_is_n, ev_isnt_n, ev_int_i, ev_int_b, ev_min_ii, ev_max_ii, ev_abs, ev_tup_of, ev_tup_ofL, ev_lst_ofT, ev_lst_ofL, ev_len_t, ev_len_s, ev_len_r, ev_tru_b, ev_alloc, ev_tupD, ev_lstD, isi_tuple_non, isi_tuple_bl, isi_tuple_int, isi_tuple_str, isi_tuple_tup, isi_tuple_l, isi_tuple_f, isi_list_non, isi_list_bl, isi_list_int, isi_list_str, isi_list_tup, isi_list_l, isi_list_f, isi_bool_non, isi_bool_bl, isi_bool_int, isi_bool_str, isi_bool_tup, isi_bool_l, isi_bool_f, isi_int_non, isi_int_bl, isi_int_int, isi_int_str, isi_int_tup, isi_int_l, isi_int_f, isi_str_non, isi_str_bl, isi_str_int, isi_str_str, isi_str_tup, isi_str_l, isi_str_f, isi_dict_non, isi_dict_bl, isi_dict_int, isi_dict_str, isi_dict_tup, isi_dict_l, isi_dict_f, Ab.isNon, args, List.map, List.length_cons, List.length_nil, List.length_singleton, List.replicate, Nat.reduceSub, Nat.reduceAdd, Nat.zero_add, List.cons_append, List.nil_append, List.getElem?_cons_zero, List.getElem?_cons_succ, List.set_cons_zero, List.set_cons_succ, Option.some.injEq, decide_eq_true_eq, Bool.not_eq_true', decide_eq_false_iff_not, ite_true, ite_false, if_true, if_false, reduceIte, Bool.false_eq_true, Bool.not_true, Bool.not_false, Bool.true_eq_false, decide_true, decide_false, Nat.reduceLeDiff, Nat.reduceLT]; refine sat_seq ?_; simp only [sat_ok, sat_bad, sat_bind, sat_ite, bind_ok, bind_bad, thn_nx, thn_rt, thn_bk, thn_ct, fin_rt, fin_nx, ev_v, ev_c, ev_op, ev_un, ev_nil, ev_cons, ev_tup, ev_lst, ev_call, ev_own, ev_sl, ev_no, ev_part, ev_and, ev_or, ev_not, ev_if, ev_t, ev_tb, ev_tnot, ev_tand, ev_tor, ev_mt, ev_mt0, ev_rgd, ev_set, ev_asg, ev_ret, ev_retN, ev_ex, ev_pass, ev_brk, ev_cont, ev_ifS, ev_aug, ev_gn, ev_gtp, ev_gnl, ev_gcs, ev_gsb, ev_for, ev_rg1, ev_rg2, ev_its, ev_enum, ev_lc, ev_yes, ev_add_ii, ev_add_ss, ev_add_tt, ev_add_rr, ev_sub, ev_mul, ev_mod, ev_fdiv, ev_pow, ev_neg, ev_lt, ev_le, ev_gt, ev_ge, ev_eq_ii, ev_eq_ss, ev_eq_bb, ev_ne_ii, ev_ne_ss, ev_ne_bb, ev_is_n, ev_isnt_n, ev_int_i, ev_int_b, ev_min_ii, ev_max_ii, ev_abs, ev_tup_of, ev_tup_ofL, ev_lst_ofT, ev_lst_ofL, ev_len_t, ev_len_s, ev_len_r, ev_tru_b, ev_alloc, ev_tupD, ev_lstD, isi_tuple_non, isi_tuple_bl, isi_tuple_int, isi_tuple_str, isi_tuple_tup, isi_tuple_l, isi_tuple_f, isi_list_non, isi_list_bl, isi_list_int, isi_list_str, isi_list_tup, isi_list_l, isi_list_f, isi_bool_non, isi_bool_bl, isi_bool_int, isi_bool_str, isi_bool_tup, isi_bool_l, isi_bool_f, isi_int_non, isi_int_bl, isi_int_int, isi_int_str, isi_int_tup, isi_int_l, isi_int_f, isi_str_non, isi_str_bl, isi_str_int, isi_str_str, isi_str_tup, isi_str_l, isi_str_f, isi_dict_non, isi_dict_bl, isi_dict_int, isi_dict_str, isi_dict_tup, isi_dict_l, isi_dict_f, Ab.isNon, args, List.map, List.length_cons, List.length_nil, List.length_singleton, List.replicate, Nat.reduceSub, Nat.reduceAdd, Nat.zero_add, List.cons_append, List.nil_append, List.getElem?_cons_zero, List.getElem?_cons_succ, List.set_cons_zero, List.set_cons_succ, Option.some.injEq, decide_eq_true_eq, Bool.not_eq_true', decide_eq_false_iff_not, ite_true, ite_false, if_true, if_false, reduceIte, Bool.false_eq_true, Bool.not_true, Bool.not_false, Bool.true_eq_false, decide_true, decide_false, Nat.reduceLeDiff, Nat.reduceLT]; refine sat_seq ?_; simp only [sat_ok, sat_bad, sat_bind, sat_ite, bind_ok, bind_bad, thn_nx, thn_rt, thn_bk, thn_ct, fin_rt, fin_nx, ev_v, ev_c, ev_op, ev_un, ev_nil, ev_cons, ev_tup, ev_lst, ev_call, ev_own, ev_sl, ev_no, ev_part, ev_and, ev_or, ev_not, ev_if, ev_t, ev_tb, ev_tnot, ev_tand, ev_tor, ev_mt, ev_mt0, ev_rgd, ev_set, ev_asg, ev_ret, ev_retN, ev_ex, ev_pass, ev_brk, ev_cont, ev_ifS, ev_aug, ev_gn, ev_gtp, ev_gnl, ev_gcs, ev_gsb, ev_for, ev_rg1, ev_rg2, ev_its, ev_enum, ev_lc, ev_yes, ev_add_ii, ev_add_ss, ev_add_tt, ev_add_rr, ev_sub, ev_mul, ev_mod, ev_fdiv, ev_pow, ev_neg, ev_lt, ev_le, ev_gt, ev_ge, ev_eq_ii, ev_eq_ss, ev_eq_bb, ev_ne_ii, ev_ne_ss, ev_ne_bb, ev_is_n, ev_isnt_n, ev_int_i, ev_int_b, ev_min_ii, ev_max_ii, ev_abs, ev_tup_of, ev_tup_ofL, ev_lst_ofT, ev_lst_ofL, ev_len_t, ev_len_s, ev_len_r, ev_tru_b, ev_alloc, ev_tupD, ev_lstD, isi_tuple_non, isi_tuple_bl, isi_tuple_int, isi_tuple_str, isi_tuple_tup, isi_tuple_l, isi_tuple_f, isi_list_non, isi_list_bl, isi_list_int, isi_list_str, isi_list_tup, isi_list_l, isi_list_f, isi_bool_non, isi_bool_bl, isi_bool_int, isi_bool_str, isi_bool_tup, isi_bool_l, isi_bool_f, isi_int_non, isi_int_bl, isi_int_int, isi_int_str, isi_int_tup, isi_int_l, isi_int_f, isi_str_non, isi_str_bl, isi_str_int, isi_str_str, isi_str_tup, isi_str_l, isi_str_f, isi_dict_non, isi_dict_bl, isi_dict_int, isi_dict_str, isi_dict_tup, isi_dict_l, isi_dict_f, Ab.isNon, args, List.map, List.length_cons, List.length_nil, List.length_singleton, List.replicate, Nat.reduceSub, Nat.reduceAdd, Nat.zero_add, List.cons_append, List.nil_append, List.getElem?_cons_zero, List.getElem?_cons_succ, List.set_cons_zero, List.set_cons_succ, Option.some.injEq, decide_eq_true_eq, Bool.not_eq_true', decide_eq_false_iff_not, ite_true, ite_false, if_true, if_false, reduceIte, Bool.false_eq_true, Bool.not_true, Bool.not_false, Bool.true_eq_false, decide_true, decide_false, Nat.reduceLeDiff, Nat.reduceLT]; exact ⟨by simp, trivial⟩
      | int b => simp only [sat_ok, sat_bad, sat_bind, sat_ite, bind_ok, bind_bad, thn_nx, thn_rt, thn_bk, thn_ct, fin_rt, fin_nx, ev_v, ev_c, ev_op, ev_un, ev_nil, ev_cons, ev_tup, ev_lst, ev_call, ev_own, ev_sl, ev_no, ev_part, ev_and, ev_or, ev_not, ev_if, ev_t, ev_tb, ev_tnot, ev_tand, ev_tor, ev_mt, ev_mt0, ev_rgd, ev_set, ev_asg, ev_ret, ev_retN, ev_ex, ev_pass, ev_brk, ev_cont, ev_ifS, ev_aug, ev_gn, ev_gtp, ev_gnl, ev_gcs, ev_gsb, ev_for, ev_rg1, ev_rg2, ev_its, ev_enum, ev_lc, ev_yes, ev_add_ii, ev_add_ss, ev_add_tt, ev_add_rr, ev_sub, ev_mul, ev_mod, ev_fdiv, ev_pow, ev_neg, ev_lt, ev_le, ev_gt, ev_ge, ev_eq_ii, ev_eq_ss, ev_eq_bb, ev_ne_ii, ev_ne_ss, ev_ne_bb, ev_is_n, ev_isnt_n, ev_int_i, ev_int_b, ev_min_ii, ev_max_ii, ev_abs, ev_tup_of, ev_tup_ofL, ev_lst_ofT, ev_lst_ofL, ev_len_t, ev_len_s, ev_len_r, ev_tru_b, ev_alloc, ev_tupD, ev_lstD, isi_tuple_non, isi_tuple_bl, isi_tuple_int, isi_tuple_str, isi_tuple_tup, isi_tuple_l, isi_tuple_f, isi_list_non, isi_list_bl, isi_list_int, isi_list_str, isi_list_tup, isi_list_l, isi_list_f, isi_bool_non, isi_bool_bl, isi_bool_int, isi_bool_str, isi_bool_tup, isi_bool_l, isi_bool_f, isi_int_non, isi_int_bl, isi_int_int, isi_int_str, isi_int_tup, isi_int_l, isi_int_f, isi_str_non, isi_str_bl, isi_str_int, isi_str_str, isi_str_tup, isi_str_l, isi_str_f, isi_dict_non, isi_dict_bl, isi_dict_int, isi_dict_str, isi_dict_tup, isi_dict_l, isi_dict_f, Ab.isNon, args, List.map, List.length_cons, List.length_nil, List.length_singleton, List.replicate, Nat.reduceSub, Nat.reduceAdd, Nat.zero_add, List.cons_append, List.nil_append, List.getElem?_cons_zero, List.getElem?_cons_succ, List.set_cons_zero, List.set_cons_succ, Option.some.injEq, decide_eq_true_eq, Bool.not_eq_true', decide_eq_false_iff_not, ite_true, ite_false, if_true, if_false, reduceIte, Bool.false_eq_true, Bool.not_true, Bool.not_false, Bool.true_eq_false, decide_true, decide_false, Nat.reduceLeDiff, Nat.reduceLT]; refine sat_seq ?_; simp only [sat_ok, sat_bad, sat_bind, sat_ite, bind_ok, bind_bad, thn_nx, thn_rt, thn_bk, thn_ct, fin_rt, fin_nx, ev_v, ev_c, ev_op, ev_un, ev_nil, ev_cons, ev_tup, ev_lst, ev_call, ev_own, ev_sl, ev_no, ev_part, ev_and, ev_or, ev_not, ev_if, ev_t, ev_tb, ev_tnot, ev_tand, ev_tor, ev_mt, ev_mt0, ev_rgd, ev_set, ev_asg, ev_ret, ev_retN, ev_ex, ev_pass, ev_brk, ev_cont, ev_ifS, ev_aug, ev_gn, ev_gtp, ev_gnl, ev_gcs, ev_gsb, ev_for, ev_rg1, ev_rg2, ev_its, ev_enum, ev_lc, ev_yes, ev_add_ii, ev_add_ss, ev_add_tt, ev_add_rr, ev_sub, ev_mul, ev_mod, ev_fdiv, ev_pow, ev_neg, ev_lt, ev_le, ev_gt, ev_ge, ev_eq_ii, ev_eq_ss, ev_eq_bb, ev_ne_ii, ev_ne_ss, ev_ne_bb, ev_is_n, ev_isnt_n, ev_int_i, ev_int_b, ev_min_ii, ev_max_ii, ev_abs, ev_tup_of, ev_tup_ofL, ev_lst_ofT, ev_lst_ofL, ev_len_t, ev_len_s, ev_len_r, ev_tru_b, ev_alloc, ev_tupD, ev_lstD, isi_tuple_non, isi_tuple_bl, isi_tuple_int, isi_tuple_str, isi_tuple_tup, isi_tuple_l, isi_tuple_f, isi_list_non, isi_list_bl, isi_list_int, isi_list_str, isi_list_tup, isi_list_l, isi_list_f, isi_bool_non, isi_bool_bl, isi_bool_int, isi_bool_str, isi_bool_tup, isi_bool_l, isi_bool_f, isi_int_non, isi_int_bl, isi_int_int, isi_int_str, isi_int_tup, isi_int_l, isi_int_f, isi_str_non, isi_str_bl, isi_str_int, isi_str_str, isi_str_tup, isi_str_l, isi_str_f, isi_dict_non, isi_dict_bl, isi_dict_int, isi_dict_str, isi_dict_tup, isi_dict_l, isi_dict_f, Ab.isNon, args, List.map, List.length_cons, List.length_nil, List.length_singleton, List.replicate, Nat.reduceSub, Nat.reduceAdd, Nat.zero_add, List.cons_append, List.nil_append, List.getElem?_cons_zero, List.getElem?_cons_succ, List.set_cons_zero, List.set_cons_succ, Option.some.injEq, decide_eq_true_eq, Bool.not_eq_true', decide_eq_false_iff_not, ite_true, ite_false, if_true, if_false, reduceIte, Bool.false_eq_true, Bool.not_true, Bool.not_false, Bool.true_eq_false, decide_true, decide_false, Nat.reduceLeDiff, Nat.reduceLT]; refine sat_seq ?_; simp only [sat_ok, sat_bad, sat_bind, sat_ite, bind_ok, bind_bad, thn_nx, thn_rt, thn_bk, thn_ct, fin_rt, fin_nx, ev_v, ev_c, ev_op, ev_un, ev_nil, ev_cons, ev_tup, ev_lst, ev_call, ev_own, ev_sl, ev_no, ev_part, ev_and, ev_or, ev_not, ev_if, ev_t, ev_tb, ev_tnot, ev_tand, ev_tor, ev_mt, ev_mt0, ev_rgd, ev_set, ev_asg, ev_ret, ev_retN, ev_ex, ev_pass, ev_brk, ev_cont, ev_ifS, ev_aug, ev_gn, ev_gtp, ev_gnl, ev_gcs, ev_gsb, ev_for, ev_rg1, ev_rg2, ev_its, ev_enum, ev_lc, ev_yes, ev_add_ii, ev_add_ss, ev_add_tt, ev_add_rr, ev_sub, ev_mul, ev_mod, ev_fdiv, ev_pow, ev_neg, ev_lt, ev_le, ev_gt, ev_ge, ev_eq_ii, ev_eq_ss, ev_eq_bb, ev_ne_ii, ev_ne_ss, ev_ne_bb, ev_is_n, ev_isnt_n, ev_int_i, ev_int_b, ev_min_ii, ev_max_ii, ev_abs, ev_tup_of, ev_tup_ofL, ev_lst_ofT, ev_lst_ofL, ev_len_t, ev_len_s, ev_len_r, ev_tru_b, ev_alloc, ev_tupD, ev_lstD, isi_tuple_non, isi_tuple_bl, isi_tuple_int, isi_tuple_str, isi_tuple_tup, isi_tuple_l, isi_tuple_f, isi_list_non, isi_list_bl, isi_list_int, isi_list_str, isi_list_tup, isi_list_l, isi_list_f, isi_bool_non, isi_bool_bl, isi_bool_int, isi_bool_str, isi_bool_tup, isi_bool_l, isi_bool_f, isi_int_non, isi_int_bl, isi_int_int, isi_int_str, isi_int_tup, isi_int_l, isi_int_f, isi_str_non, isi_str_bl, isi_str_int, isi_str_str, isi_str_tup, isi_str_l, isi_str_f, isi_dict_non, isi_dict_bl, isi_dict_int, isi_dict_str, isi_dict_tup, isi_dict_l, isi_dict_f, Ab.isNon, args, List.map, List.length_cons, List.length_nil, List.length_singleton, List.replicate, Nat.reduceSub, Nat.reduceAdd, Nat.zero_add, List.cons_append, List.nil_append, List.getElem?_cons_zero, List.getElem?_cons_succ, List.set_cons_zero, List.set_cons_succ, Option.some.injEq, decide_eq_true_eq, Bool.not_eq_true', decide_eq_false_iff_not, ite_true, ite_false, if_true, if_false, reduceIte, Bool.false_eq_true, Bool.not_true, Bool.not_false, Bool.true_eq_false, decide_true, decide_false, Nat.reduceLeDiff, Nat.reduceLT]; refine sat_seq ?_; simp only [sat_ok, sat_bad, sat_bind, sat_ite, bind_ok, bind_bad, thn_nx, thn_rt, thn_bk, thn_ct, fin_rt, fin_nx, ev_v, ev_c, ev_op, ev_un, ev_nil, ev_cons, ev_tup, ev_lst, ev_call, ev_own, ev_sl, ev_no, ev_part, ev_and, ev_or, ev_not, ev_if, ev_t, ev_tb, ev_tnot, ev_tand, ev_tor, ev_mt, ev_mt0, ev_rgd, ev_set, ev_asg, ev_ret, ev_retN, ev_ex, ev_pass, ev_brk, ev_cont, ev_ifS, ev_aug, ev_gn, ev_gtp, ev_gnl, ev_gcs, ev_gsb, ev_for, ev_rg1, ev_rg2, ev_its, ev_enum, ev_lc, ev_yes, ev_add_ii, ev_add_ss, ev_add_tt, ev_add_rr, ev_sub, ev_mul, ev_mod, ev_fdiv, ev_pow, ev_neg, ev_lt, ev_le, ev_gt, ev_ge, ev_eq_ii, ev_eq_ss, ev_eq_bb, ev_ne_ii, ev_ne_ss, ev_ne_bb, ev_is_n, ev_isnt_n, ev_int_i, ev_int_b, ev_min_ii, ev_max_ii, ev_abs, ev_tup_of, ev_tup_ofL, ev_lst_ofT, ev_lst_ofL, ev_len_t, ev_len_s, ev_len_r, ev_tru_b, ev_alloc, ev_tupD, ev_lstD, isi_tuple_non, isi_tuple_bl, isi_tuple_int, isi_tuple_str, isi_tuple_tup, isi_tuple_l, isi_tuple_f, isi_list_non, isi_list_bl, isi_list_int, isi_list_str, isi_list_tup, isi_list_l, isi_list_f, isi_bool_non, isi_bool_bl, isi_bool_int, isi_bool_str, isi_bool_tup, isi_bool_l, isi_bool_f, isi_int_non, isi_int_bl, isi_int_int, isi_int_str, isi_int_tup, isi_int_l, isi_int_f, isi_str_non, isi_str_bl, isi_str_int, isi_str_str, isi_str_tup, isi_str_l, isi_str_f, isi_dict_non, isi_dict_bl, isi_dict_int, isi_dict_str, isi_dict_tup, isi_dict_l, isi_dict_f, Ab.isNon, args, List.map, List.length_cons, List.length_nil, List.length_singleton, List.replicate, Nat.reduceSub, Nat.reduceAdd, Nat.zero_add, List.cons_append, List.nil_append, List.getElem?_cons_zero, List.getElem?_cons_succ, List.set_cons_zero, List.set_cons_succ, Option.some.injEq, decide_eq_true_eq, Bool.not_eq_true', decide_eq_false_iff_not, ite_true, ite_false, if_true, if_false, reduceIte, Bool.false_eq_true, Bool.not_true, Bool.not_false, Bool.true_eq_false, decide_true, decide_false, Nat.reduceLeDiff, Nat.reduceLT]; exact ⟨by simp, trivial⟩
      | str b => simp only [sat_ok, sat_bad, sat_bind, sat_ite, bind_ok, bind_bad, thn_nx, thn_rt, thn_bk, thn_ct, fin_rt, fin_nx, ev_v, ev_c, ev_op, ev_un, ev_nil, ev_cons, ev_tup, ev_lst, ev_call, ev_own, ev_sl, ev_no, ev_part, ev_and, ev_or, ev_not, ev_if, ev_t, ev_tb, ev_tnot, ev_tand, ev_tor, ev_mt, ev_mt0, ev_rgd, ev_set, ev_asg, ev_ret, ev_retN, ev_ex, ev_pass, ev_brk, ev_cont, ev_ifS, ev_aug, ev_gn, ev_gtp, ev_gnl, ev_gcs, ev_gsb, ev_for, ev_rg1, ev_rg2, ev_its, ev_enum, ev_lc, ev_yes, ev_add_ii, ev_add_ss, ev_add_tt, ev_add_rr, ev_sub, ev_mul, ev_mod, ev_fdiv, ev_pow, ev_neg, ev_lt, ev_le, ev_gt, ev_ge, ev_eq_ii, ev_eq_ss, ev_eq_bb, ev_ne_ii, ev_ne_ss, ev_ne_bb, ev_is_n, ev_isnt_n, ev_int_i, ev_int_b, ev_min_ii, ev_max_ii, ev_abs, ev_tup_of, ev_tup_ofL, ev_lst_ofT, ev_lst_ofL, ev_len_t, ev_len_s, ev_len_r, ev_tru_b, ev_alloc, ev_tupD, ev_lstD, isi_tuple_non, isi_tuple_bl, isi_tuple_int, isi_tuple_str, isi_tuple_tup, isi_tuple_l, isi_tuple_f, isi_list_non, isi_list_bl, isi_list_int, isi_list_str, isi_list_tup, isi_list_l, isi_list_f, isi_bool_non, isi_bool_bl, isi_bool_int, isi_bool_str, isi_bool_tup, isi_bool_l, isi_bool_f, isi_int_non, isi_int_bl, isi_int_int, isi_int_str, isi_int_tup, isi_int_l, isi_int_f, isi_str_non, isi_str_bl, isi_str_int, isi_str_str, isi_str_tup, isi_str_l, isi_str_f, isi_dict_non, isi_dict_bl, isi_dict_int, isi_dict_str, isi_dict_tup, isi_dict_l, isi_dict_f, Ab.isNon, args, List.map, List.length_cons, List.length_nil, List.length_singleton, List.replicate, Nat.reduceSub, Nat.reduceAdd, Nat.zero_add, List.cons_append, List.nil_append, List.getElem?_cons_zero, List.getElem?_cons_succ, List.set_cons_zero, List.set_cons_succ, Option.some.injEq, decide_eq_true_eq, Bool.not_eq_true', decide_eq_false_iff_not, ite_true, ite_false, if_true, if_false, reduceIte, Bool.false_eq_true, Bool.not_true, Bool.not_false, Bool.true_eq_false, decide_true, decide_false, Nat.reduceLeDiff, Nat.reduceLT]; refine sat_seq ?_; simp only [sat_ok, sat_bad, sat_bind, sat_ite, bind_ok, bind_bad, thn_nx, thn_rt, thn_bk, thn_ct, fin_rt, fin_nx, ev_v, ev_c, ev_op, ev_un, ev_nil, ev_cons, ev_tup, ev_lst, ev_call, ev_own, ev_sl, ev_no, ev_part, ev_and, ev_or, ev_not, ev_if, ev_t, ev_tb, ev_tnot, ev_tand, ev_tor, ev_mt, ev_mt0, ev_rgd, ev_set, ev_asg, ev_ret, ev_retN, ev_ex, ev_pass, ev_brk, ev_cont, ev_ifS, ev_aug, ev_gn, ev_gtp, ev_gnl, ev_gcs, ev_gsb, ev_for, ev_rg1, ev_rg2, ev_its, ev_enum, ev_lc, ev_yes, ev_add_ii, ev_add_ss, ev_add_tt, ev_add_rr, ev_sub, ev_mul, ev_mod, ev_fdiv, ev_pow, ev_neg, ev_lt, ev_le, ev_gt, ev_ge, ev_eq_ii, ev_eq_ss, ev_eq_bb, ev_ne_ii, ev_ne_ss, ev_ne_bb, ev_is_n, ev_isnt_n, ev_int_i, ev_int_b, ev_min_ii, ev_max_ii, ev_abs, ev_tup_of, ev_tup_ofL, ev_lst_ofT, ev_lst_ofL, ev_len_t, ev_len_s, ev_len_r, ev_tru_b, ev_alloc, ev_tupD, ev_lstD, isi_tuple_non, isi_tuple_bl, isi_tuple_int, isi_tuple_str, isi_tuple_tup, isi_tuple_l, isi_tuple_f, isi_list_non, isi_list_bl, isi_list_int, isi_list_str, isi_list_tup, isi_list_l, isi_list_f, isi_bool_non, isi_bool_bl, isi_bool_int, isi_bool_str, isi_bool_tup, isi_bool_l, isi_bool_f, isi_int_non, isi_int_bl, isi_int_int, isi_int_str, isi_int_tup, isi_int_l, isi_int_f, isi_str_non, isi_str_bl, isi_str_int, isi_str_str, isi_str_tup, isi_str_l, isi_str_f, isi_dict_non, isi_dict_bl, isi_dict_int, isi_dict_str, isi_dict_tup, isi_dict_l, isi_dict_f, Ab.isNon, args, List.map, List.length_cons, List.length_nil, List.length_singleton, List.replicate, Nat.reduceSub, Nat.reduceAdd, Nat.zero_add, List.cons_append, List.nil_append, List.getElem?_cons_zero, List.getElem?_cons_succ, List.set_cons_zero, List.set_cons_succ, Option.some.injEq, decide_eq_true_eq, Bool.not_eq_true', decide_eq_false_iff_not, ite_true, ite_false, if_true, if_false, reduceIte, Bool.false_eq_true, Bool.not_true, Bool.not_false, Bool.true_eq_false, decide_true, decide_false, Nat.reduceLeDiff, Nat.reduceLT]; refine sat_seq ?_; simp only [sat_ok, sat_bad, sat_bind, sat_ite, bind_ok, bind_bad, thn_nx, thn_rt, thn_bk, thn_ct, fin_rt, fin_nx, ev_v, ev_c, ev_op, ev_un, ev_nil, ev_cons, ev_tup, ev_lst, ev_call, ev_own, ev_sl, ev_no, ev_part, ev_and, ev_or, ev_not, ev_if, ev_t, ev_tb, ev_tnot, ev_tand, ev_tor, ev_mt, ev_mt0, ev_rgd, ev_set, ev_asg, ev_ret, ev_retN, ev_ex, ev_pass, ev_brk, ev_cont, ev_ifS, ev_aug, ev_gn, ev_gtp, ev_gnl, ev_gcs, ev_gsb, ev_for, ev_rg1, ev_rg2, ev_its, ev_enum, ev_lc, ev_yes, ev_add_ii, ev_add_ss, ev_add_tt, ev_add_rr, ev_sub, ev_mul, ev_mod, ev_fdiv, ev_pow, ev_neg, ev_lt, ev_le, ev_gt, ev_ge, ev_eq_ii, ev_eq_ss, ev_eq_bb, ev_ne_ii, ev_ne_ss, ev_ne_bb, ev_is_n, ev_isnt_n, ev_int_i, ev_int_b, ev_min_ii, ev_max_ii, ev_abs, ev_tup_of, ev_tup_ofL, ev_lst_ofT, ev_lst_ofL, ev_len_t, ev_len_s, ev_len_r, ev_tru_b, ev_alloc, ev_tupD, ev_lstD, isi_tuple_non, isi_tuple_bl, isi_tuple_int, isi_tuple_str, isi_tuple_tup, isi_tuple_l, isi_tuple_f, isi_list_non, isi_list_bl, isi_list_int, isi_list_str, isi_list_tup, isi_list_l, isi_list_f, isi_bool_non, isi_bool_bl, isi_bool_int, isi_bool_str, isi_bool_tup, isi_bool_l, isi_bool_f, isi_int_non, isi_int_bl, isi_int_int, isi_int_str, isi_int_tup, isi_int_l, isi_int_f, isi_str_non, isi_str_bl, isi_str_int, isi_str_str, isi_str_tup, isi_str_l, isi_str_f, isi_dict_non, isi_dict_bl, isi_dict_int, isi_dict_str, isi_dict_tup, isi_dict_l, isi_dict_f, Ab.isNon, args, List.map, List.length_cons, List.length_nil, List.length_singleton, List.replicate, Nat.reduceSub, Nat.reduceAdd, Nat.zero_add, List.cons_append, List.nil_append, List.getElem?_cons_zero, List.getElem?_cons_succ, List.set_cons_zero, List.set_cons_succ, Option.some.injEq, decide_eq_true_eq, Bool.not_eq_true', decide_eq_false_iff_not, ite_true, ite_false, if_true, if_false, reduceIte, Bool.false_eq_true, Bool.not_true, Bool.not_false, Bool.true_eq_false, decide_true, decide_false, Nat.reduceLeDiff, Nat.reduceLT]; refine sat_seq ?_; simp only [sat_ok, sat_bad, sat_bind, sat_ite, bind_ok, bind_bad, thn_nx, thn_rt, thn_bk, thn_ct, fin_rt, fin_nx, ev_v, ev_c, ev_op, ev_un, ev_nil, ev_cons, ev_tup, ev_lst, ev_call, ev_own, ev_sl, ev_no, ev_part, ev_and, ev_or, ev_not, ev_if, ev_t, ev_tb, ev_tnot, ev_tand, ev_tor, ev_mt, ev_mt0, ev_rgd, ev_set, ev_asg, ev_ret, ev_retN, ev_ex, ev_pass, ev_brk, ev_cont, ev_ifS, ev_aug, ev_gn, ev_gtp, ev_gnl, ev_gcs, ev_gsb, ev_for, ev_rg1, ev_rg2, ev_its, ev_enum, ev_lc, ev_yes, ev_add_ii, ev_add_ss, ev_add_tt, ev_add_rr, ev_sub, ev_mul, ev_mod, ev_fdiv, ev_pow, ev_neg, ev_lt, ev_le, ev_gt, ev_ge, ev_eq_ii, ev_eq_ss, ev_eq_bb, ev_ne_ii, ev_ne_ss, ev_ne_bb, ev_is_n, ev_isnt_n, ev_int_i, ev_int_b, ev_min_ii, ev_max_ii, ev_abs, ev_tup_of, ev_tup_ofL, ev_lst_ofT, ev_lst_ofL, ev_len_t, ev_len_s, ev_len_r, ev_tru_b, ev_alloc, ev_tupD, ev_lstD, isi_tuple_non, isi_tuple_bl, isi_tuple_int, isi_tuple_str, isi_tuple_tup, isi_tuple_l, isi_tuple_f, isi_list_non, isi_list_bl, isi_list_int, isi_list_str, isi_list_tup, isi_list_l, isi_list_f, isi_bool_non, isi_bool_bl, isi_bool_int, isi_bool_str, isi_bool_tup, isi_bool_l, isi_bool_f, isi_int_non, isi_int_bl, isi_int_int, isi_int_str, isi_int_tup, isi_int_l, isi_int_f, isi_str_non, isi_str_bl, isi_str_int, isi_str_str, isi_str_tup, isi_str_l, isi_str_f, isi_dict_non, isi_dict_bl, isi_dict_int, isi_dict_str, isi_dict_tup, isi_dict_l, isi_dict_f, Ab.isNon, args, List.map, List.length_cons, List.length_nil, List.length_singleton, List.replicate, Nat.reduceSub, Nat.reduceAdd, Nat.zero_add, List.cons_append, List.nil_append, List.getElem?_cons_zero, List.getElem?_cons_succ, List.set_cons_zero, List.set_cons_succ, Option.some.injEq, decide_eq_true_eq, Bool.not_eq_true', decide_eq_false_iff_not, ite_true, ite_false, if_true, if_false, reduceIte, Bool.false_eq_true, Bool.not_true, Bool.not_false, Bool.true_eq_false, decide_true, decide_false, Nat.reduceLeDiff, Nat.reduceLT]; exact ⟨by simp, trivial⟩
      | tup ds => exact h.elim
      | ref _ => exact h.elim
    obtain ⟨e, A', h1, rfl, rfl⟩ := key.eq
    exact h1
  | succ n ih =>
    intro d A h
    have key : Sat (m__law_same (n + 1 + 1) [d, d] A) fun e A' => e = .bl true ∧ A' = A := by
      refine sat_body rfl (sat_seq ?_)
      cases d with
      | non => simp only [sat_ok, sat_bad, sat_bind, sat_ite, bind_ok, bind_bad, thn_nx, thn_rt, thn_bk, thn_ct, fin_rt, fin_nx, ev_v, ev_c, ev_op, ev_un, ev_nil, ev_cons, ev_tup, ev_lst, ev_call, ev_own, ev_sl, ev_no, ev_part, ev_and, ev_or, ev_not, ev_if, ev_t, ev_tb, ev_tnot, ev_tand, ev_tor, ev_mt, ev_mt0, ev_rgd, ev_set, ev_asg, ev_ret, ev_retN, ev_ex, ev_pass, ev_brk, ev_cont, ev_ifS, ev_aug, ev_gn, ev_gtp, ev_gnl, ev_gcs, ev_gsb, ev_for, ev_rg1, ev_rg2, ev_its, ev_enum, ev_lc, ev_yes, ev_add_ii, ev_add_ss, ev_add_tt, ev_add_rr, ev_sub, ev_mul, ev_mod, ev_fdiv, ev_pow, ev_neg, ev_lt, ev_le, ev_gt, ev_ge, ev_eq_ii, ev_eq_ss, ev_eq_bb, ev_ne_ii, ev_ne_ss, ev_ne_bb, ev_is_n, ev_isnt_n, ev_int_i, ev_int_b, ev_min_ii, ev_max_ii, ev_abs, ev_tup_of, ev_tup_ofL, ev_lst_ofT, ev_lst_ofL, ev_len_t, ev_len_s, ev_len_r, ev_tru_b, ev_alloc, ev_tupD, ev_lstD, isi_tuple_non, isi_tuple_bl, isi_tuple_int, isi_tuple_str, isi_tuple_tup, isi_tuple_l, isi_tuple_f, isi_list_non, isi_list_bl, isi_list_int, isi_list_str, isi_list_tup, isi_list_l, isi_list_f, isi_bool_non, isi_bool_bl, isi_bool_int, isi_bool_str, isi_bool_tup, isi_bool_l, isi_bool_f, isi_int_non, isi_int_bl, isi_int_int, isi_int_str, isi_int_tup, isi_int_l, isi_int_f, isi_str_non, isi_str_bl, isi_str_int, isi_str_str, isi_str_tup, isi_str_l, isi_str_f, isi_dict_non, isi_dict_bl, isi_dict_int, isi_dict_str, isi_dict_tup, isi_dict_l, isi_dict_f, Ab.isNon, args, List.map, List.length_cons, List.length_nil, List.length_singleton, List.replicate, Nat.reduceSub, Nat.reduceAdd, Nat.zero_add, List.cons_append, List.nil_append, List.getElem?_cons_zero, List.getElem?_cons_succ, List.set_cons_zero, List.set_cons_succ, Option.some.injEq, decide_eq_true_eq, Bool.not_eq_true', decide_eq_false_iff_not, ite_true, ite_false, if_true, if_false, reduceIte, Bool.false_eq_true, Bool.not_true, Bool.not_false, Bool.true_eq_false, decide_true, decide_false, Nat.reduceLeDiff, Nat.reduceLT]; refine sat_seq ?_; simp only [sat_ok, sat_bad, sat_bind, sat_ite, bind_ok, bind_bad, thn_nx, thn_rt, thn_bk, thn_ct, fin_rt, fin_nx, ev_v, ev_c, ev_op, ev_un, ev_nil, ev_cons, ev_tup, ev_lst, ev_call, ev_own, ev_sl, ev_no, ev_part, ev_and, ev_or, ev_not, ev_if, ev_t, ev_tb, ev_tnot, ev_tand, ev_tor, ev_mt, ev_mt0, ev_rgd, ev_set, ev_asg, ev_ret, ev_retN, ev_ex, ev_pass, ev_brk, ev_cont, ev_ifS, ev_aug, ev_gn, ev_gtp, ev_gnl, ev_gcs, ev_gsb, ev_for, ev_rg1, ev_rg2, ev_its, ev_enum, ev_lc, ev_yes, ev_add_ii, ev_add_ss, ev_add_tt, ev_add_rr, ev_sub, ev_mul, ev_mod, ev_fdiv, ev_pow, ev_neg, ev_lt, ev_le, ev_gt, ev_ge, ev_eq_ii, ev_eq_ss, ev_eq_bb, ev_ne_ii, ev_ne_ss, ev_ne_bb, ev_is_n, ev_isnt_n, ev_int_i, ev_int_b, ev_min_ii, ev_max_ii, ev_abs, ev_tup_of, ev_tup_ofL, ev_lst_ofT, ev_lst_ofL, ev_len_t, ev_len_s, ev_len_r, ev_tru_b, ev_alloc, ev_tupD, ev_lstD, isi_tuple_non, isi_tuple_bl, isi_tuple_int, isi_tuple_str, isi_tuple_tup, isi_tuple_l, isi_tuple_f, isi_list_non, isi_list_bl, isi_list_int, isi_list_str, isi_list_tup, isi_list_l, isi_list_f, isi_bool_non, isi_bool_bl, isi_bool_int, isi_bool_str, isi_bool_tup, isi_bool_l, isi_bool_f, isi_int_non, isi_int_bl, isi_int_int, isi_int_str, isi_int_tup, isi_int_l, isi_int_f, isi_str_non, isi_str_bl, isi_str_int, isi_str_str, isi_str_tup, isi_str_l, isi_str_f, isi_dict_non, isi_dict_bl, isi_dict_int, isi_dict_str, isi_dict_tup, isi_dict_l, isi_dict_f, Ab.isNon, args, List.map, List.length_cons, List.length_nil, List.length_singleton, List.replicate, Nat.reduceSub, Nat.reduceAdd, Nat.zero_add, List.cons_append, List.nil_append, List.getElem?_cons_zero, List.getElem?_cons_succ, List.set_cons_zero, List.set_cons_succ, Option.some.injEq, decide_eq_true_eq, Bool.not_eq_true', decide_eq_false_iff_not, ite_true, ite_false, if_true, if_false, reduceIte, Bool.false_eq_true, Bool.not_true, Bool.not_false, Bool.true_eq_false, decide_true, decide_false, Nat.reduceLeDiff, Nat.reduceLT]; trivial
      | bl b => simp only [sat_ok, sat_bad, sat_bind, sat_ite, bind_ok, bind_bad, thn_nx, thn_rt, thn_bk, thn_ct, fin_rt, fin_nx, ev_v, ev_c, ev_op, ev_un, ev_nil, ev_cons, ev_tup, ev_lst, ev_call, ev_own, ev_sl, ev_no, ev_part, ev_and, ev_or, ev_not, ev_if, ev_t, ev_tb, ev_tnot, ev_tand, ev_tor, ev_mt, ev_mt0, ev_rgd, ev_set, ev_asg, ev_ret, ev_retN, ev_ex, ev_pass, ev_brk, ev_cont, ev_ifS, ev_aug, ev_gn, ev_gtp, ev_gnl, ev_gcs, ev_gsb, ev_for, ev_rg1, ev_rg2, ev_its, ev_enum, ev_lc, ev_yes, ev_add_ii, ev_add_ss, ev_add_tt, ev_add_rr, ev_sub, ev_mul, ev_mod, ev_fdiv, ev_pow, ev_neg, ev_lt, ev_le, ev_gt, ev_ge, ev_eq_ii, ev_eq_ss, ev_eq_bb, ev_ne_ii, ev_ne_ss, ev_ne_bb, ev_is_n, ev_isnt_n, ev_int_i, ev_int_b, ev_min_ii, ev_max_ii, ev_abs, ev_tup_of, ev_tup_ofL, ev_lst_ofT, ev_lst_ofL, ev_len_t, ev_len_s, ev_len_r, ev_tru_b, ev_alloc, ev_tupD, ev_lstD, isi_tuple_non, isi_tuple_bl, isi_tuple_int, isi_tuple_str, isi_tuple_tup, isi_tuple_l, isi_tuple_f, isi_list_non, isi_list_bl, isi_list_int, isi_list_str, isi_list_tup, isi_list_l, isi_list_f, isi_bool_non, isi_bool_bl, isi_bool_int, isi_bool_str, isi_bool_tup, isi_bool_l, isi_bool_f, isi_int_non, isi_int_bl, isi_int_int, isi_int_str, isi_int_tup, isi_int_l, isi_int_f, isi_str_non, isi_str_bl, isi_str_int, isi_str_str, isi_str_tup, isi_str_l, isi_str_f, isi_dict_non, isi_dict_bl, isi_dict_int, isi_dict_str, isi_dict_tup, isi_dict_l, isi_dict_f, Ab.isNon, args, List.map, List.length_cons, List.length_nil, List.length_singleton, List.replicate, Nat.reduceSub, Nat.reduceAdd, Nat.zero_add, List.cons_append, List.nil_append, List.getElem?_cons_zero, List.getElem?_cons_succ, List.set_cons_zero, List.set_cons_succ, Option.some.injEq, decide_eq_true_eq, Bool.not_eq_true', decide_eq_false_iff_not, ite_true, ite_false, if_true, if_false, reduceIte, Bool.false_eq_true, Bool.not_true, Bool.not_false, Bool.true_eq_false, decide_true, decide_false, Nat.reduceLeDiff, Nat.reduceLT]; refine sat_seq ?_; simp only [sat_ok, sat_bad, sat_bind, sat_ite, bind_ok, bind_bad, thn_nx, thn_rt, thn_bk, thn_ct, fin_rt, fin_nx, ev_v, ev_c, ev_op, ev_un, ev_nil, ev_cons, ev_tup, ev_lst, ev_call, ev_own, ev_sl, ev_no, ev_part, ev_and, ev_or, ev_not, ev_if, ev_t, ev_tb, ev_tnot, ev_tand, ev_tor, ev_mt, ev_mt0, ev_rgd, ev_set, ev_asg, ev_ret, ev_retN, ev_ex, ev_pass, ev_brk, ev_cont, ev_ifS, ev_aug, ev_gn, ev_gtp, ev_gnl, ev_gcs, ev_gsb, ev_for, ev_rg1, ev_rg2, ev_its, ev_enum, ev_lc, ev_yes, ev_add_ii, ev_add_ss, ev_add_tt, ev_add_rr, ev_sub, ev_mul, ev_mod, ev_fdiv, ev_pow, ev_neg, ev_lt, ev_le, ev_gt, ev_ge, ev_eq_ii, ev_eq_ss, ev_eq_bb, ev_ne_ii, ev_ne_ss, ev_ne_bb, ev_is_n, ev_isnt_n, ev_int_i, ev_int_b, ev_min_ii, ev_max_ii, ev_abs, ev_tup_of, ev_tup_ofL, ev_lst_ofT, ev_lst_ofL, ev_len_t, ev_len_s, ev_len_r, ev_tru_b, ev_alloc, ev_tupD, ev_lstD, isi_tuple_non, isi_tuple_bl, isi_tuple_int, isi_tuple_str, isi_tuple_tup, isi_tuple_l, isi_tuple_f, isi_list_non, isi_list_bl, isi_list_int, isi_list_str, isi_list_tup, isi_list_l, isi_list_f, isi_bool_non, isi_bool_bl, isi_bool_int, isi_bool_str, isi_bool_tup, isi_bool_l, isi_bool_f, isi_int_non, isi_int_bl, isi_int_int, isi_int_str, isi_int_tup, isi_int_l, isi_int_f, isi_str_non, isi_str_bl, isi_str_int, isi_str_str, isi_str_tup, isi_str_l, isi_str_f, isi_dict_non, isi_dict_bl, isi_dict_int, isi_dict_str, isi_dict_tup, isi_dict_l, isi_dict_f, Ab.isNon, args, List.map, List.length_cons, List.length_nil, List.length_singleton, List.replicate, Nat.reduceSub, Nat.reduceAdd, Nat.zero_add, List.cons_append, List.nil_append, List.getElem?_cons_zero, List.getElem?_cons_succ, List.set_cons_zero, List.set_cons_succ, Option.some.injEq, decide_eq_true_eq, Bool.not_eq_true', decide_eq_false_iff_not, ite_true, ite_false, if_true, if_false, reduceIte, Bool.false_eq_true, Bool.not_true, Bool.not_false, Bool.true_eq_false, decide_true, decide_false, Nat.reduceLeDiff, Nat.reduceLT]; refine sat_seq ?_; simp only [sat_ok, sat_bad, sat_bind, sat_ite, bind_ok, bind_bad, thn_nx, thn_rt, thn_bk, thn_ct, fin_rt, fin_nx, ev_v, ev_c, ev_op, ev_un, ev_nil, ev_cons, ev_tup, ev_lst, ev_call, ev_own, ev_sl, ev_no, ev_part, ev_and, ev_or, ev_not, ev_if, ev_t, ev_tb, ev_tnot, ev_tand, ev_tor, ev_mt, ev_mt0, ev_rgd, ev_set, ev_asg, ev_ret, ev_retN, ev_ex, ev_pass, ev_brk, ev_cont, ev_ifS, ev_aug, ev_gn, ev_gtp, ev_gnl, ev_gcs, ev_gsb, ev_for, ev_rg1, ev_rg2, ev_its, ev_enum, ev_lc, ev_yes, ev_add_ii, ev_add_ss, ev_add_tt, ev_add_rr, ev_sub, ev_mul, ev_mod, ev_fdiv, ev_pow, ev_neg, ev_lt, ev_le, ev_gt, ev_ge, ev_eq_ii, ev_eq_ss, ev_eq_bb, ev_ne_ii, ev_ne_ss, ev_ne_bb, ev_is_n, ev_isnt_n, ev_int_i, ev_int_b, ev_min_ii, ev_max_ii, ev_abs, ev_tup_of, ev_tup_ofL, ev_lst_ofT, ev_lst_ofL, ev_len_t, ev_len_s, ev_len_r, ev_tru_b, ev_alloc, ev_tupD, ev_lstD, isi_tuple_non, isi_tuple_bl, isi_tuple_int, isi_tuple_str, isi_tuple_tup, isi_tuple_l, isi_tuple_f, isi_list_non, isi_list_bl, isi_list_int, isi_list_str, isi_list_tup, isi_list_l, isi_list_f, isi_bool_non, isi_bool_bl, isi_bool_int, isi_bool_str, isi_bool_tup, isi_bool_l, isi_bool_f, isi_int_non, isi_int_bl, isi_int_int, isi_int_str, isi_int_tup, isi_int_l, isi_int_f, isi_str_non, isi_str_bl, isi_str_int, isi_str_str, isi_str_tup, isi_str_l, isi_str_f, isi_dict_non, isi_dict_bl, isi_dict_int, isi_dict_str, isi_dict_tup, isi_dict_l, isi_dict_f, Ab.isNon, args, List.map, List.length_cons, List.length_nil, List.length_singleton, List.replicate, Nat.reduceSub, Nat.reduceAdd, Nat.zero_add, List.cons_append, List.nil_append, List.getElem?_cons_zero, List.getElem?_cons_succ, List.set_cons_zero, List.set_cons_succ, Option.some.injEq, decide_eq_true_eq, Bool.not_eq_true', decide_eq_false_iff_not, ite_true, ite_false, if_true, if_false, reduceIte, Bool.false_eq_true, Bool.not_true, Bool.not_false, Bool.true_eq_false, decide_true, decide_false, Nat.reduceLeDiff, Nat.reduceLT]; exact ⟨by simp, trivial⟩
      | int b => simp only [sat_ok, sat_bad, sat_bind, sat_ite, bind_ok, bind_bad, thn_nx, thn_rt, thn_bk, thn_ct, fin_rt, fin_nx, ev_v, ev_c, ev_op, ev_un, ev_nil, ev_cons, ev_tup, ev_lst, ev_call, ev_own, ev_sl, ev_no, ev_part, ev_and, ev_or, ev_not, ev_if, ev_t, ev_tb, ev_tnot, ev_tand, ev_tor, ev_mt, ev_mt0, ev_rgd, ev_set, ev_asg, ev_ret, ev_retN, ev_ex, ev_pass, ev_brk, ev_cont, ev_ifS, ev_aug, ev_gn, ev_gtp, ev_gnl, ev_gcs, ev_gsb, ev_for, ev_rg1, ev_rg2, ev_its, ev_enum, ev_lc, ev_yes, ev_add_ii, ev_add_ss, ev_add_tt, ev_add_rr, ev_sub, ev_mul, ev_mod, ev_fdiv, ev_pow, ev_neg, ev_lt, ev_le, ev_gt, ev_ge, ev_eq_ii, ev_eq_ss, ev_eq_bb, ev_ne_ii, ev_ne_ss, ev_ne_bb, ev_is_n, ev_isnt_n, ev_int_i, ev_int_b, ev_min_ii, ev_max_ii, ev_abs, ev_tup_of, ev_tup_ofL, ev_lst_ofT, ev_lst_ofL, ev_len_t, ev_len_s, ev_len_r, ev_tru_b, ev_alloc, ev_tupD, ev_lstD, isi_tuple_non, isi_tuple_bl, isi_tuple_int, isi_tuple_str, isi_tuple_tup, isi_tuple_l, isi_tuple_f, isi_list_non, isi_list_bl, isi_list_int, isi_list_str, isi_list_tup, isi_list_l, isi_list_f, isi_bool_non, isi_bool_bl, isi_bool_int, isi_bool_str, isi_bool_tup, isi_bool_l, isi_bool_f, isi_int_non, isi_int_bl, isi_int_int, isi_int_str, isi_int_tup, isi_int_l, isi_int_f, isi_str_non, isi_str_bl, isi_str_int, isi_str_str, isi_str_tup, isi_str_l, isi_str_f, isi_dict_non, isi_dict_bl, isi_dict_int, isi_dict_str, isi_dict_tup, isi_dict_l, isi_dict_f, Ab.isNon, args, List.map, List.length_cons, List.length_nil, List.length_singleton, List.replicate, Nat.reduceSub, Nat.reduceAdd, Nat.zero_add, List.cons_append, List.nil_append, List.getElem?_cons_zero, List.getElem?_cons_succ, List.set_cons_zero, List.set_cons_succ, Option.some.injEq, decide_eq_true_eq, Bool.not_eq_true', decide_eq_false_iff_not, ite_true, ite_false, if_true, if_false, reduceIte, Bool.false_eq_true, Bool.not_true, Bool.not_false, Bool.true_eq_false, decide_true, decide_false, Nat.reduceLeDiff, Nat.reduceLT]; refine sat_seq ?_; simp only [sat_ok, sat_bad, sat_bind, sat_ite, bind_ok, bind_bad, thn_nx, thn_rt, thn_bk, thn_ct, fin_rt, fin_nx, ev_v, ev_c, ev_op, ev_un, ev_nil, ev_cons, ev_tup, ev_lst, ev_call, ev_own, ev_sl, ev_no, ev_part, ev_and, ev_or, ev_not, ev_if, ev_t, ev_tb, ev_tnot, ev_tand, ev_tor, ev_mt, ev_mt0, ev_rgd, ev_set, ev_asg, ev_ret, ev_retN, ev_ex, ev_pass, ev_brk, ev_cont, ev_ifS, ev_aug, ev_gn, ev_gtp, ev_gnl, ev_gcs, ev_gsb, ev_for, ev_rg1, ev_rg2, ev_its, ev_enum, ev_lc, ev_yes, ev_add_ii, ev_add_ss, ev_add_tt, ev_add_rr, ev_sub, ev_mul, ev_mod, ev_fdiv, ev_pow, ev_neg, ev_lt, ev_le, ev_gt, ev_ge, ev_eq_ii, ev_eq_ss, ev_eq_bb, ev_ne_ii, ev_ne_ss, ev_ne_bb, ev_is_n, ev_isnt_n, ev_int_i, ev_int_b, ev_min_ii, ev_max_ii, ev_abs, ev_tup_of, ev_tup_ofL, ev_lst_ofT, ev_lst_ofL, ev_len_t, ev_len_s, ev_len_r, ev_tru_b, ev_alloc, ev_tupD, ev_lstD, isi_tuple_non, isi_tuple_bl, isi_tuple_int, isi_tuple_str, isi_tuple_tup, isi_tuple_l, isi_tuple_f, isi_list_non, isi_list_bl, isi_list_int, isi_list_str, isi_list_tup, isi_list_l, isi_list_f, isi_bool_non, isi_bool_bl, isi_bool_int, isi_bool_str, isi_bool_tup, isi_bool_l, isi_bool_f, isi_int_non, isi_int_bl, isi_int_int, isi_int_str, isi_int_tup, isi_int_l, isi_int_f, isi_str_non, isi_str_bl, isi_str_int, isi_str_str, isi_str_tup, isi_str_l, isi_str_f, isi_dict_non, isi_dict_bl, isi_dict_int, isi_dict_str, isi_dict_tup, isi_dict_l, isi_dict_f, Ab.isNon, args, List.map, List.length_cons, List.length_nil, List.length_singleton, List.replicate, Nat.reduceSub, Nat.reduceAdd, Nat.zero_add, List.cons_append, List.nil_append, List.getElem?_cons_zero, List.getElem?_cons_succ, List.set_cons_zero, List.set_cons_succ, Option.some.injEq, decide_eq_true_eq, Bool.not_eq_true', decide_eq_false_iff_not, ite_true, ite_false, if_true, if_false, reduceIte, Bool.false_eq_true, Bool.not_true, Bool.not_false, Bool.true_eq_false, decide_true, decide_false, Nat.reduceLeDiff, Nat.reduceLT]; refine sat_seq ?_; simp only [sat_ok, sat_bad, sat_bind, sat_ite, bind_ok, bind_bad, thn_nx, thn_rt, thn_bk, thn_ct, fin_rt, fin_nx, ev_v, ev_c, ev_op, ev_un, ev_nil, ev_cons, ev_tup, ev_lst, ev_call, ev_own, ev_sl, ev_no, ev_part, ev_and, ev_or, ev_not, ev_if, ev_t, ev_tb, ev_tnot, ev_tand, ev_tor, ev_mt, ev_mt0, ev_rgd, ev_set, ev_asg, ev_ret, ev_retN, ev_ex, ev_pass, ev_brk, ev_cont, ev_ifS, ev_aug, ev_gn, ev_gtp, ev_gnl, ev_gcs, ev_gsb, ev_for, ev_rg1, ev_rg2, ev_its, ev_enum, ev_lc, ev_yes, ev_add_ii, ev_add_ss, ev_add_tt, ev_add_rr, ev_sub, ev_mul, ev_mod, ev_fdiv, ev_pow, ev_neg, ev_lt, ev_le, ev_gt, ev_ge, ev_eq_ii, ev_eq_ss, ev_eq_bb, ev_ne_ii, ev_ne_ss, ev_ne_bb, ev_is_n, ev_isnt_n, ev_int_i, ev_int_b, ev_min_ii, ev_max_ii, ev_abs, ev_tup_of, ev_tup_ofL, ev_lst_ofT, ev_lst_ofL, ev_len_t, ev_len_s, ev_len_r, ev_tru_b, ev_alloc, ev_tupD, ev_lstD, isi_tuple_non, isi_tuple_bl, isi_tuple_int, isi_tuple_str, isi_tuple_tup, isi_tuple_l, isi_tuple_f, isi_list_non, isi_list_bl, isi_list_int, isi_list_str, isi_list_tup, isi_list_l, isi_list_f, isi_bool_non, isi_bool_bl, isi_bool_int, isi_bool_str, isi_bool_tup, isi_bool_l, isi_bool_f, isi_int_non, isi_int_bl, isi_int_int, isi_int_str, isi_int_tup, isi_int_l, isi_int_f, isi_str_non, isi_str_bl, isi_str_int, isi_str_str, isi_str_tup, isi_str_l, isi_str_f, isi_dict_non, isi_dict_bl, isi_dict_int, isi_dict_str, isi_dict_tup, isi_dict_l, isi_dict_f, Ab.isNon, args, List.map, List.length_cons, List.length_nil, List.length_singleton, List.replicate, Nat.reduceSub, Nat.reduceAdd, Nat.zero_add, List.cons_append, List.nil_append, List.getElem?_cons_zero, List.getElem?_cons_succ, List.set_cons_zero, List.set_cons_succ, Option.some.injEq, decide_eq_true_eq, Bool.not_eq_true', decide_eq_false_iff_not, ite_true, ite_false, if_true, if_false, reduceIte, Bool.false_eq_true, Bool.not_true, Bool.not_false, Bool.true_eq_false, decide_true, decide_false, Nat.reduceLeDiff, Nat.reduceLT]; refine sat_seq ?_; simp only [sat_ok, sat_bad, sat_bind, sat_ite, bind_ok, bind_bad, thn_nx, thn_rt, thn_bk, thn_ct, fin_rt, fin_nx, ev_v, ev_c, ev_op, ev_un, ev_nil, ev_cons, ev_tup, ev_lst, ev_call, ev_own, ev_sl, ev_no, ev_part, ev_and, ev_or, ev_not, ev_if, ev_t, ev_tb, ev_tnot, ev_tand, ev_tor, ev_mt, ev_mt0, ev_rgd, ev_set, ev_asg, ev_ret, ev_retN, ev_ex, ev_pass, ev_brk, ev_cont, ev_ifS, ev_aug, ev_gn, ev_gtp, ev_gnl, ev_gcs, ev_gsb, ev_for, ev_rg1, ev_rg2, ev_its, ev_enum, ev_lc, ev_yes, ev_add_ii, ev_add_ss, ev_add_tt, ev_add_rr, ev_sub, ev_mul, ev_mod, ev_fdiv, ev_pow, ev_neg, ev_lt, ev_le, ev_gt, ev_ge, ev_eq_ii, ev_eq_ss, ev_eq_bb, ev_ne_ii, ev_ne_ss, ev_ne_bb, ev_is_n, ev_isnt_n, ev_int_i, ev_int_b, ev_min_ii, ev_max_ii, ev_abs, ev_tup_of, ev_tup_ofL, ev_lst_ofT, ev_lst_ofL, ev_len_t, ev_len_s, ev_len_r, ev_tru_b, ev_alloc, ev_tupD, ev_lstD, isi_tuple_non, isi_tuple_bl, isi_tuple_int, isi_tuple_str, isi_tuple_tup, isi_tuple_l, isi_tuple_f, isi_list_non, isi_list_bl, isi_list_int, isi_list_str, isi_list_tup, isi_list_l, isi_list_f, isi_bool_non, isi_bool_bl, isi_bool_int, isi_bool_str, isi_bool_tup, isi_bool_l, isi_bool_f, isi_int_non, isi_int_bl, isi_int_int, isi_int_str, isi_int_tup, isi_int_l, isi_int_f, isi_str_non, isi_str_bl, isi_str_int, isi_str_str, isi_str_tup, isi_str_l, isi_str_f, isi_dict_non, isi_dict_bl, isi_dict_int, isi_dict_str, isi_dict_tup, isi_dict_l, isi_dict_f, Ab.isNon, args, List.map, List.length_cons, List.length_nil, List.length_singleton, List.replicate, Nat.reduceSub, Nat.reduceAdd, Nat.zero_add, List.cons_append, List.nil_append, List.getElem?_cons_zero, List.getElem?_cons_succ, List.set_cons_zero, List.set_cons_succ, Option.some.injEq, decide_eq_true_eq, Bool.not_eq_true', decide_eq_false_iff_not, ite_true, ite_false, if_true, if_false, reduceIte, Bool.false_eq_true, Bool.not_true, Bool.not_false, Bool.true_eq_false, decide_true, decide_false, Nat.reduceLeDiff, Nat.reduceLT]; exact ⟨by simp, trivial⟩
      | str b => simp only [sat_ok, sat_bad, sat_bind, sat_ite, bind_ok, bind_bad, thn_nx, thn_rt, thn_bk, thn_ct, fin_rt, fin_nx, ev_v, ev_c, ev_op, ev_un, ev_nil, ev_cons, ev_tup, ev_lst, ev_call, ev_own, ev_sl, ev_no, ev_part, ev_and, ev_or, ev_not, ev_if, ev_t, ev_tb, ev_tnot, ev_tand, ev_tor, ev_mt, ev_mt0, ev_rgd, ev_set, ev_asg, ev_ret, ev_retN, ev_ex, ev_pass, ev_brk, ev_cont, ev_ifS, ev_aug, ev_gn, ev_gtp, ev_gnl, ev_gcs, ev_gsb, ev_for, ev_rg1, ev_rg2, ev_its, ev_enum, ev_lc, ev_yes, ev_add_ii, ev_add_ss, ev_add_tt, ev_add_rr, ev_sub, ev_mul, ev_mod, ev_fdiv, ev_pow, ev_neg, ev_lt, ev_le, ev_gt, ev_ge, ev_eq_ii, ev_eq_ss, ev_eq_bb, ev_ne_ii, ev_ne_ss, ev_ne_bb, ev_is_n, ev_isnt_n, ev_int_i, ev_int_b, ev_min_ii, ev_max_ii, ev_abs, ev_tup_of, ev_tup_ofL, ev_lst_ofT, ev_lst_ofL, ev_len_t, ev_len_s, ev_len_r, ev_tru_b, ev_alloc, ev_tupD, ev_lstD, isi_tuple_non, isi_tuple_bl, isi_tuple_int, isi_tuple_str, isi_tuple_tup, isi_tuple_l, isi_tuple_f, isi_list_non, isi_list_bl, isi_list_int, isi_list_str, isi_list_tup, isi_list_l, isi_list_f, isi_bool_non, isi_bool_bl, isi_bool_int, isi_bool_str, isi_bool_tup, isi_bool_l, isi_bool_f, isi_int_non, isi_int_bl, isi_int_int, isi_int_str, isi_int_tup, isi_int_l, isi_int_f, isi_str_non, isi_str_bl, isi_str_int, isi_str_str, isi_str_tup, isi_str_l, isi_str_f, isi_dict_non, isi_dict_bl, isi_dict_int, isi_dict_str, isi_dict_tup, isi_dict_l, isi_dict_f, Ab.isNon, args, List.map, List.length_cons, List.length_nil, List.length_singleton, List.replicate, Nat.reduceSub, Nat.reduceAdd, Nat.zero_add, List.cons_append, List.nil_append, List.getElem?_cons_zero, List.getElem?_cons_succ, List.set_cons_zero, List.set_cons_succ, Option.some.injEq, decide_eq_true_eq, Bool.not_eq_true', decide_eq_false_iff_not, ite_true, ite_false, if_true, if_false, reduceIte, Bool.false_eq_true, Bool.not_true, Bool.not_false, Bool.true_eq_false, decide_true, decide_false, Nat.reduceLeDiff, Nat.reduceLT]; refine sat_seq ?_; simp only [sat_ok, sat_bad, sat_bind, sat_ite, bind_ok, bind_bad, thn_nx, thn_rt, thn_bk, thn_ct, fin_rt, fin_nx, ev_v, ev_c, ev_op, ev_un, ev_nil, ev_cons, ev_tup, ev_lst, ev_call, ev_own, ev_sl, ev_no, ev_part, ev_and, ev_or, ev_not, ev_if, ev_t, ev_tb, ev_tnot, ev_tand, ev_tor, ev_mt, ev_mt0, ev_rgd, ev_set, ev_asg, ev_ret, ev_retN, ev_ex, ev_pass, ev_brk, ev_cont, ev_ifS, ev_aug, ev_gn, ev_gtp, ev_gnl, ev_gcs, ev_gsb, ev_for, ev_rg1, ev_rg2, ev_its, ev_enum, ev_lc, ev_yes, ev_add_ii, ev_add_ss, ev_add_tt, ev_add_rr, ev_sub, ev_mul, ev_mod, ev_fdiv, ev_pow, ev_neg, ev_lt, ev_le, ev_gt, ev_ge, ev_eq_ii, ev_eq_ss, ev_eq_bb, ev_ne_ii, ev_ne_ss, ev_ne_bb, ev_is_n, ev_isnt_n, ev_int_i, ev_int_b, ev_min_ii, ev_max_ii, ev_abs, ev_tup_of, ev_tup_ofL, ev_lst_ofT, ev_lst_ofL, ev_len_t, ev_len_s, ev_len_r, ev_tru_b, ev_alloc, ev_tupD, ev_lstD, isi_tuple_non, isi_tuple_bl, isi_tuple_int, isi_tuple_str, isi_tuple_tup, isi_tuple_l, isi_tuple_f, isi_list_non, isi_list_bl, isi_list_int, isi_list_str, isi_list_tup, isi_list_l, isi_list_f, isi_bool_non, isi_bool_bl, isi_bool_int, isi_bool_str, isi_bool_tup, isi_bool_l, isi_bool_f, isi_int_non, isi_int_bl, isi_int_int, isi_int_str, isi_int_tup, isi_int_l, isi_int_f, isi_str_non, isi_str_bl, isi_str_int, isi_str_str, isi_str_tup, isi_str_l, isi_str_f, isi_dict_non, isi_dict_bl, isi_dict_int, isi_dict_str, isi_dict_tup, isi_dict_l, isi_dict_f, Ab.isNon, args, List.map, List.length_cons, List.length_nil, List.length_singleton, List.replicate, Nat.reduceSub, Nat.reduceAdd, Nat.zero_add, List.cons_append, List.nil_append, List.getElem?_cons_zero, List.getElem?_cons_succ, List.set_cons_zero, List.set_cons_succ, Option.some.injEq, decide_eq_true_eq, Bool.not_eq_true', decide_eq_false_iff_not, ite_true, ite_false, if_true, if_false, reduceIte, Bool.false_eq_true, Bool.not_true, Bool.not_false, Bool.true_eq_false, decide_true, decide_false, Nat.reduceLeDiff, Nat.reduceLT]; refine sat_seq ?_; simp only [sat_ok, sat_bad, sat_bind, sat_ite, bind_ok, bind_bad, thn_nx, thn_rt, thn_bk, thn_ct, fin_rt, fin_nx, ev_v, ev_c, ev_op, ev_un, ev_nil, ev_cons, ev_tup, ev_lst, ev_call, ev_own, ev_sl, ev_no, ev_part, ev_and, ev_or, ev_not, ev_if, ev_t, ev_tb, ev_tnot, ev_tand, ev_tor, ev_mt, ev_mt0, ev_rgd, ev_set, ev_asg, ev_ret, ev_retN, ev_ex, ev_pass, ev_brk, ev_cont, ev_ifS, ev_aug, ev_gn, ev_gtp, ev_gnl, ev_gcs, ev_gsb, ev_for, ev_rg1, ev_rg2, ev_its, ev_enum, ev_lc, ev_yes, ev_add_ii, ev_add_ss, ev_add_tt, ev_add_rr, ev_sub, ev_mul, ev_mod, ev_fdiv, ev_pow, ev_neg, ev_lt, ev_le, ev_gt, ev_ge, ev_eq_ii, ev_eq_ss, ev_eq_bb, ev_ne_ii, ev_ne_ss, ev_ne_bb, ev_is_n, ev_isnt_n, ev_int_i, ev_int_b, ev_min_ii, ev_max_ii, ev_abs, ev_tup_of, ev_tup_ofL, ev_lst_ofT, ev_lst_ofL, ev_len_t, ev_len_s, ev_len_r, ev_tru_b, ev_alloc, ev_tupD, ev_lstD, isi_tuple_non, isi_tuple_bl, isi_tuple_int, isi_tuple_str, isi_tuple_tup, isi_tuple_l, isi_tuple_f, isi_list_non, isi_list_bl, isi_list_int, isi_list_str, isi_list_tup, isi_list_l, isi_list_f, isi_bool_non, isi_bool_bl, isi_bool_int, isi_bool_str, isi_bool_tup, isi_bool_l, isi_bool_f, isi_int_non, isi_int_bl, isi_int_int, isi_int_str, isi_int_tup, isi_int_l, isi_int_f, isi_str_non, isi_str_bl, isi_str_int, isi_str_str, isi_str_tup, isi_str_l, isi_str_f, isi_dict_non, isi_dict_bl, isi_dict_int, isi_dict_str, isi_dict_tup, isi_dict_l, isi_dict_f, Ab.isNon, args, List.map, List.length_cons, List.length_nil, List.length_singleton, List.replicate, Nat.reduceSub, Nat.reduceAdd, Nat.zero_add, List.cons_append, List.nil_append, List.getElem?_cons_zero, List.getElem?_cons_succ, List.set_cons_zero, List.set_cons_succ, Option.some.injEq, decide_eq_true_eq, Bool.not_eq_true', decide_eq_false_iff_not, ite_true, ite_false, if_true, if_false, reduceIte, Bool.false_eq_true, Bool.not_true, Bool.not_false, Bool.true_eq_false, decide_true, decide_false, Nat.reduceLeDiff, Nat.reduceLT]; refine sat_seq ?_; simp only [sat_ok, sat_bad, sat_bind, sat_ite, bind_ok, bind_bad, thn_nx, thn_rt, thn_bk, thn_ct, fin_rt, fin_nx, ev_v, ev_c, ev_op, ev_un, ev_nil, ev_cons, ev_tup, ev_lst, ev_call, ev_own, ev_sl, ev_no, ev_part, ev_and, ev_or, ev_not, ev_if, ev_t, ev_tb, ev_tnot, ev_tand, ev_tor, ev_mt, ev_mt0, ev_rgd, ev_set, ev_asg, ev_ret, ev_retN, ev_ex, ev_pass, ev_brk, ev_cont, ev_ifS, ev_aug, ev_gn, ev_gtp, ev_gnl, ev_gcs, ev_gsb, ev_for, ev_rg1, ev_rg2, ev_its, ev_enum, ev_lc, ev_yes, ev_add_ii, ev_add_ss, ev_add_tt, ev_add_rr, ev_sub, ev_mul, ev_mod, ev_fdiv, ev_pow, ev_neg, ev_lt, ev_le, ev_gt, ev_ge, ev_eq_ii, ev_eq_ss, ev_eq_bb, ev_ne_ii, ev_ne_ss, ev_ne_bb, ev_is_n, ev_isnt_n, ev_int_i, ev_int_b, ev_min_ii, ev_max_ii, ev_abs, ev_tup_of, ev_tup_ofL, ev_lst_ofT, ev_lst_ofL, ev_len_t, ev_len_s, ev_len_r, ev_tru_b, ev_alloc, ev_tupD, ev_lstD, isi_tuple_non, isi_tuple_bl, isi_tuple_int, isi_tuple_str, isi_tuple_tup, isi_tuple_l, isi_tuple_f, isi_list_non, isi_list_bl, isi_list_int, isi_list_str, isi_list_tup, isi_list_l, isi_list_f, isi_bool_non, isi_bool_bl, isi_bool_int, isi_bool_str, isi_bool_tup, isi_bool_l, isi_bool_f, isi_int_non, isi_int_bl, isi_int_int, isi_int_str, isi_int_tup, isi_int_l, isi_int_f, isi_str_non, isi_str_bl, isi_str_int, isi_str_str, isi_str_tup, isi_str_l, isi_str_f, isi_dict_non, isi_dict_bl, isi_dict_int, isi_dict_str, isi_dict_tup, isi_dict_l, isi_dict_f, Ab.isNon, args, List.map, List.length_cons, List.length_nil, List.length_singleton, List.replicate, Nat.reduceSub, Nat.reduceAdd, Nat.zero_add, List.cons_append, List.nil_append, List.getElem?_cons_zero, List.getElem?_cons_succ, List.set_cons_zero, List.set_cons_succ, Option.some.injEq, decide_eq_true_eq, Bool.not_eq_true', decide_eq_false_iff_not, ite_true, ite_false, if_true, if_false, reduceIte, Bool.false_eq_true, Bool.not_true, Bool.not_false, Bool.true_eq_false, decide_true, decide_false, Nat.reduceLeDiff, Nat.reduceLT]; exact ⟨by simp, trivial⟩
      | ref _ => exact h.elim
      | tup ds =>
        obtain ⟨hl, hd⟩ := h
        simp only [sat_ok, sat_bad, sat_bind, sat_ite, bind_ok, bind_bad, thn_nx, thn_rt, thn_bk, thn_ct, fin_rt, fin_nx, ev_v, ev_c, ev_op, ev_un, ev_nil, ev_cons, ev_tup, ev_lst, ev_call, ev_own, ev_sl, ev_no, ev_part, ev_and, ev_or, ev_not, ev_if, ev_t, ev_tb, ev_tnot, ev_tand, ev_tor, ev_mt, ev_mt0, ev_rgd, ev_set, ev_asg, ev_ret, ev_retN, ev_ex, ev_pass, ev_brk, ev_cont, ev_ifS, ev_aug, ev_gn, ev_gtp, ev_gnl, ev_gcs, ev_gsb, ev_for, ev_rg1, ev_rg2, ev_its, ev_enum, ev_lc, ev_yes, ev_add_ii, ev_add_ss, ev_add_tt, ev_add_rr, ev_sub, ev_mul, ev_mod, ev_fdiv, ev_pow, ev_neg, ev_lt, ev_le, ev_gt, ev_ge, ev_eq_ii, ev_eq_ss, ev_eq_bb, ev_ne_ii, ev_ne_ss, ev_ne_bb, ev_is_n, ev_isnt_n, ev_int_i, ev_int_b, ev_min_ii, ev_max_ii, ev_abs, ev_tup_of, ev_tup_ofL, ev_lst_ofT, ev_lst_ofL, ev_len_t, ev_len_s, ev_len_r, ev_tru_b, ev_alloc, ev_tupD, ev_lstD, isi_tuple_non, isi_tuple_bl, isi_tuple_int, isi_tuple_str, isi_tuple_tup, isi_tuple_l, isi_tuple_f, isi_list_non, isi_list_bl, isi_list_int, isi_list_str, isi_list_tup, isi_list_l, isi_list_f, isi_bool_non, isi_bool_bl, isi_bool_int, isi_bool_str, isi_bool_tup, isi_bool_l, isi_bool_f, isi_int_non, isi_int_bl, isi_int_int, isi_int_str, isi_int_tup, isi_int_l, isi_int_f, isi_str_non, isi_str_bl, isi_str_int, isi_str_str, isi_str_tup, isi_str_l, isi_str_f, isi_dict_non, isi_dict_bl, isi_dict_int, isi_dict_str, isi_dict_tup, isi_dict_l, isi_dict_f, Ab.isNon, args, List.map, List.length_cons, List.length_nil, List.length_singleton, List.replicate, Nat.reduceSub, Nat.reduceAdd, Nat.zero_add, List.cons_append, List.nil_append, List.getElem?_cons_zero, List.getElem?_cons_succ, List.set_cons_zero, List.set_cons_succ, Option.some.injEq, decide_eq_true_eq, Bool.not_eq_true', decide_eq_false_iff_not, ite_true, ite_false, if_true, if_false, reduceIte, Bool.false_eq_true, Bool.not_true, Bool.not_false, Bool.true_eq_false, decide_true, decide_false, Nat.reduceLeDiff, Nat.reduceLT]
        refine sat_seq (sat_seq ?_)
        simp only [sat_ok, sat_bad, sat_bind, sat_ite, bind_ok, bind_bad, thn_nx, thn_rt, thn_bk, thn_ct, fin_rt, fin_nx, ev_v, ev_c, ev_op, ev_un, ev_nil, ev_cons, ev_tup, ev_lst, ev_call, ev_own, ev_sl, ev_no, ev_part, ev_and, ev_or, ev_not, ev_if, ev_t, ev_tb, ev_tnot, ev_tand, ev_tor, ev_mt, ev_mt0, ev_rgd, ev_set, ev_asg, ev_ret, ev_retN, ev_ex, ev_pass, ev_brk, ev_cont, ev_ifS, ev_aug, ev_gn, ev_gtp, ev_gnl, ev_gcs, ev_gsb, ev_for, ev_rg1, ev_rg2, ev_its, ev_enum, ev_lc, ev_yes, ev_add_ii, ev_add_ss, ev_add_tt, ev_add_rr, ev_sub, ev_mul, ev_mod, ev_fdiv, ev_pow, ev_neg, ev_lt, ev_le, ev_gt, ev_ge, ev_eq_ii, ev_eq_ss, ev_eq_bb, ev_ne_ii, ev_ne_ss, ev_ne_bb, ev_is_n, ev_isnt_n, ev_int_i, ev_int_b, ev_min_ii, ev_max_ii, ev_abs, ev_tup_of, ev_tup_ofL, ev_lst_ofT, ev_lst_ofL, ev_len_t, ev_len_s, ev_len_r, ev_tru_b, ev_alloc, ev_tupD, ev_lstD, isi_tuple_non, isi_tuple_bl, isi_tuple_int, isi_tuple_str, isi_tuple_tup, isi_tuple_l, isi_tuple_f, isi_list_non, isi_list_bl, isi_list_int, isi_list_str, isi_list_tup, isi_list_l, isi_list_f, isi_bool_non, isi_bool_bl, isi_bool_int, isi_bool_str, isi_bool_tup, isi_bool_l, isi_bool_f, isi_int_non, isi_int_bl, isi_int_int, isi_int_str, isi_int_tup, isi_int_l, isi_int_f, isi_str_non, isi_str_bl, isi_str_int, isi_str_str, isi_str_tup, isi_str_l, isi_str_f, isi_dict_non, isi_dict_bl, isi_dict_int, isi_dict_str, isi_dict_tup, isi_dict_l, isi_dict_f, Ab.isNon, args, List.map, List.length_cons, List.length_nil, List.length_singleton, List.replicate, Nat.reduceSub, Nat.reduceAdd, Nat.zero_add, List.cons_append, List.nil_append, List.getElem?_cons_zero, List.getElem?_cons_succ, List.set_cons_zero, List.set_cons_succ, Option.some.injEq, decide_eq_true_eq, Bool.not_eq_true', decide_eq_false_iff_not, ite_true, ite_false, if_true, if_false, reduceIte, Bool.false_eq_true, Bool.not_true, Bool.not_false, Bool.true_eq_false, decide_true, decide_false, Nat.reduceLeDiff, Nat.reduceLT]
        refine sat_seq ?_
        simp only [sat_ok, sat_bad, sat_bind, sat_ite, bind_ok, bind_bad, thn_nx, thn_rt, thn_bk, thn_ct, fin_rt, fin_nx, ev_v, ev_c, ev_op, ev_un, ev_nil, ev_cons, ev_tup, ev_lst, ev_call, ev_own, ev_sl, ev_no, ev_part, ev_and, ev_or, ev_not, ev_if, ev_t, ev_tb, ev_tnot, ev_tand, ev_tor, ev_mt, ev_mt0, ev_rgd, ev_set, ev_asg, ev_ret, ev_retN, ev_ex, ev_pass, ev_brk, ev_cont, ev_ifS, ev_aug, ev_gn, ev_gtp, ev_gnl, ev_gcs, ev_gsb, ev_for, ev_rg1, ev_rg2, ev_its, ev_enum, ev_lc, ev_yes, ev_add_ii, ev_add_ss, ev_add_tt, ev_add_rr, ev_sub, ev_mul, ev_mod, ev_fdiv, ev_pow, ev_neg, ev_lt, ev_le, ev_gt, ev_ge, ev_eq_ii, ev_eq_ss, ev_eq_bb, ev_ne_ii, ev_ne_ss, ev_ne_bb, ev_is_n, ev_isnt_n, ev_int_i, ev_int_b, ev_min_ii, ev_max_ii, ev_abs, ev_tup_of, ev_tup_ofL, ev_lst_ofT, ev_lst_ofL, ev_len_t, ev_len_s, ev_len_r, ev_tru_b, ev_alloc, ev_tupD, ev_lstD, isi_tuple_non, isi_tuple_bl, isi_tuple_int, isi_tuple_str, isi_tuple_tup, isi_tuple_l, isi_tuple_f, isi_list_non, isi_list_bl, isi_list_int, isi_list_str, isi_list_tup, isi_list_l, isi_list_f, isi_bool_non, isi_bool_bl, isi_bool_int, isi_bool_str, isi_bool_tup, isi_bool_l, isi_bool_f, isi_int_non, isi_int_bl, isi_int_int, isi_int_str, isi_int_tup, isi_int_l, isi_int_f, isi_str_non, isi_str_bl, isi_str_int, isi_str_str, isi_str_tup, isi_str_l, isi_str_f, isi_dict_non, isi_dict_bl, isi_dict_int, isi_dict_str, isi_dict_tup, isi_dict_l, isi_dict_f, Ab.isNon, args, List.map, List.length_cons, List.length_nil, List.length_singleton, List.replicate, Nat.reduceSub, Nat.reduceAdd, Nat.zero_add, List.cons_append, List.nil_append, List.getElem?_cons_zero, List.getElem?_cons_succ, List.set_cons_zero, List.set_cons_succ, Option.some.injEq, decide_eq_true_eq, Bool.not_eq_true', decide_eq_false_iff_not, ite_true, ite_false, if_true, if_false, reduceIte, Bool.false_eq_true, Bool.not_true, Bool.not_false, Bool.true_eq_false, decide_true, decide_false, Nat.reduceLeDiff, Nat.reduceLT]
        have hz : InRg (ds.length : Int) := inRg_nat (by omega)
        rw [if_pos hz, Int.toNat_natCast]
        refine range_inv (fun k s A' => A' = A ∧ ∃ y, s = [some (.tup ds), some (.tup ds), y]) (fun k s A' hk ⟨hA, y, hs⟩ => ?_) (fun s A' ⟨hA, y, hs⟩ => ?_) ⟨rfl, none, rfl⟩
        · subst hA; subst hs
          have g : ds[k]? = some ds[k] := List.getElem?_eq_getElem hk
          have ix : ixD (.tup ds) (.int (0 + (k : Nat))) A' = .ok ds[k] A' := ev_ix_t (by rw [atI_pos (by omega)]; rw [show (0 + (k : Nat) : Int).toNat = k by omega]; exact g)
          have rc : m__law_same (n + 1) [ds[k], ds[k]] A' = .ok (.bl true) A' := ih ds[k] A' (hd _ (List.getElem_mem hk))
          simp only [sat_ok, sat_bad, sat_bind, sat_ite, bind_ok, bind_bad, thn_nx, thn_rt, thn_bk, thn_ct, fin_rt, fin_nx, ev_v, ev_c, ev_op, ev_un, ev_nil, ev_cons, ev_tup, ev_lst, ev_call, ev_own, ev_sl, ev_no, ev_part, ev_and, ev_or, ev_not, ev_if, ev_t, ev_tb, ev_tnot, ev_tand, ev_tor, ev_mt, ev_mt0, ev_rgd, ev_set, ev_asg, ev_ret, ev_retN, ev_ex, ev_pass, ev_brk, ev_cont, ev_ifS, ev_aug, ev_gn, ev_gtp, ev_gnl, ev_gcs, ev_gsb, ev_for, ev_rg1, ev_rg2, ev_its, ev_enum, ev_lc, ev_yes, ev_add_ii, ev_add_ss, ev_add_tt, ev_add_rr, ev_sub, ev_mul, ev_mod, ev_fdiv, ev_pow, ev_neg, ev_lt, ev_le, ev_gt, ev_ge, ev_eq_ii, ev_eq_ss, ev_eq_bb, ev_ne_ii, ev_ne_ss, ev_ne_bb, ev_is_n, ev_isnt_n, ev_int_i, ev_int_b, ev_min_ii, ev_max_ii, ev_abs, ev_tup_of, ev_tup_ofL, ev_lst_ofT, ev_lst_ofL, ev_len_t, ev_len_s, ev_len_r, ev_tru_b, ev_alloc, ev_tupD, ev_lstD, isi_tuple_non, isi_tuple_bl, isi_tuple_int, isi_tuple_str, isi_tuple_tup, isi_tuple_l, isi_tuple_f, isi_list_non, isi_list_bl, isi_list_int, isi_list_str, isi_list_tup, isi_list_l, isi_list_f, isi_bool_non, isi_bool_bl, isi_bool_int, isi_bool_str, isi_bool_tup, isi_bool_l, isi_bool_f, isi_int_non, isi_int_bl, isi_int_int, isi_int_str, isi_int_tup, isi_int_l, isi_int_f, isi_str_non, isi_str_bl, isi_str_int, isi_str_str, isi_str_tup, isi_str_l, isi_str_f, isi_dict_non, isi_dict_bl, isi_dict_int, isi_dict_str, isi_dict_tup, isi_dict_l, isi_dict_f, Ab.isNon, args, List.map, List.length_cons, List.length_nil, List.length_singleton, List.replicate, Nat.reduceSub, Nat.reduceAdd, Nat.zero_add, List.cons_append, List.nil_append, List.getElem?_cons_zero, List.getElem?_cons_succ, List.set_cons_zero, List.set_cons_succ, Option.some.injEq, decide_eq_true_eq, Bool.not_eq_true', decide_eq_false_iff_not, ite_true, ite_false, if_true, if_false, reduceIte, Bool.false_eq_true, Bool.not_true, Bool.not_false, Bool.true_eq_false, decide_true, decide_false, Nat.reduceLeDiff, Nat.reduceLT, ix, rc, turn_]
          exact ⟨trivial, _, rfl⟩
        · subst hA; subst hs
          simp only [sat_ok, sat_bad, sat_bind, sat_ite, bind_ok, bind_bad, thn_nx, thn_rt, thn_bk, thn_ct, fin_rt, fin_nx, ev_v, ev_c, ev_op, ev_un, ev_nil, ev_cons, ev_tup, ev_lst, ev_call, ev_own, ev_sl, ev_no, ev_part, ev_and, ev_or, ev_not, ev_if, ev_t, ev_tb, ev_tnot, ev_tand, ev_tor, ev_mt, ev_mt0, ev_rgd, ev_set, ev_asg, ev_ret, ev_retN, ev_ex, ev_pass, ev_brk, ev_cont, ev_ifS, ev_aug, ev_gn, ev_gtp, ev_gnl, ev_gcs, ev_gsb, ev_for, ev_rg1, ev_rg2, ev_its, ev_enum, ev_lc, ev_yes, ev_add_ii, ev_add_ss, ev_add_tt, ev_add_rr, ev_sub, ev_mul, ev_mod, ev_fdiv, ev_pow, ev_neg, ev_lt, ev_le, ev_gt, ev_ge, ev_eq_ii, ev_eq_ss, ev_eq_bb, ev_ne_ii, ev_ne_ss, ev_ne_bb, ev_is_n, ev_isnt_n, ev_int_i, ev_int_b, ev_min_ii, ev_max_ii, ev_abs, ev_tup_of, ev_tup_ofL, ev_lst_ofT, ev_lst_ofL, ev_len_t, ev_len_s, ev_len_r, ev_tru_b, ev_alloc, ev_tupD, ev_lstD, isi_tuple_non, isi_tuple_bl, isi_tuple_int, isi_tuple_str, isi_tuple_tup, isi_tuple_l, isi_tuple_f, isi_list_non, isi_list_bl, isi_list_int, isi_list_str, isi_list_tup, isi_list_l, isi_list_f, isi_bool_non, isi_bool_bl, isi_bool_int, isi_bool_str, isi_bool_tup, isi_bool_l, isi_bool_f, isi_int_non, isi_int_bl, isi_int_int, isi_int_str, isi_int_tup, isi_int_l, isi_int_f, isi_str_non, isi_str_bl, isi_str_int, isi_str_str, isi_str_tup, isi_str_l, isi_str_f, isi_dict_non, isi_dict_bl, isi_dict_int, isi_dict_str, isi_dict_tup, isi_dict_l, isi_dict_f, Ab.isNon, args, List.map, List.length_cons, List.length_nil, List.length_singleton, List.replicate, Nat.reduceSub, Nat.reduceAdd, Nat.zero_add, List.cons_append, List.nil_append, List.getElem?_cons_zero, List.getElem?_cons_succ, List.set_cons_zero, List.set_cons_succ, Option.some.injEq, decide_eq_true_eq, Bool.not_eq_true', decide_eq_false_iff_not, ite_true, ite_false, if_true, if_false, reduceIte, Bool.false_eq_true, Bool.not_true, Bool.not_false, Bool.true_eq_false, decide_true, decide_false, Nat.reduceLeDiff, Nat.reduceLT, thn_]
          first | trivial | exact ⟨trivial, trivial⟩
    obtain ⟨e, A', h1, rfl, rfl⟩ := key.eq
    exact h1

/-! ### the helpers that draw -/
theorem cell_spec {A : AH} {ns : List Int} {k : Nat} (h : A[0]? = some (.frz (ns.map D.int))) (hl : ns.length ≤ 63) : ∃ v, m__law_cell [.ref 0, .int (k : Int)] A = .ok (.int v) A := by
  have key : Sat (m__law_cell [.ref 0, .int (k : Int)] A) fun d A' => (∃ v, d = .int v) ∧ A' = A := by
    refine sat_body rfl (sat_seq ?_)
    have ln : lenD [.ref 0] A = .ok (.int ((ns.map D.int).length : Nat)) A := ev_len_r (rdL_f h)
    simp only [sat_ok, sat_bad, sat_bind, sat_ite, bind_ok, bind_bad, thn_nx, thn_rt, thn_bk, thn_ct, fin_rt, fin_nx, ev_v, ev_c, ev_op, ev_un, ev_nil, ev_cons, ev_tup, ev_lst, ev_call, ev_own, ev_sl, ev_no, ev_part, ev_and, ev_or, ev_not, ev_if, ev_t, ev_tb, ev_tnot, ev_tand, ev_tor, ev_mt, ev_mt0, ev_rgd, ev_set, ev_asg, ev_ret, ev_retN, ev_ex, ev_pass, ev_brk, ev_cont, ev_ifS, ev_aug, ev_gn, ev_gtp, ev_gnl, ev_gcs, ev_gsb, ev_for, ev_rg1, ev_rg2, ev_its, ev_enum, ev_lc, ev_yes, ev_add_ii, ev_add_ss, ev_add_tt, ev_add_rr, ev_sub, ev_mul, ev_mod, ev_fdiv, ev_pow, ev_neg, ev_lt, ev_le, ev_gt, ev_ge, ev_eq_ii, ev_eq_ss, ev_eq_bb, ev_ne_ii, ev_ne_ss, ev_ne_bb, ev_is_n, ev_isnt_n, ev_int_i, ev_int_b, ev_min_ii, ev_max_ii, ev_abs, ev_tup_of, ev_tup_ofL, ev_lst_ofT, ev_lst_ofL, ev_len_t, ev_len_s, ev_len_r, ev_tru_b, ev_alloc, ev_tupD, ev_lstD, isi_tuple_non, isi_tuple_bl, isi_tuple_int, isi_tuple_str, isi_tuple_tup, isi_tuple_l, isi_tuple_f, isi_list_non, isi_list_bl, isi_list_int, isi_list_str, isi_list_tup, isi_list_l, isi_list_f, isi_bool_non, isi_bool_bl, isi_bool_int, isi_bool_str, isi_bool_tup, isi_bool_l, isi_bool_f, isi_int_non, isi_int_bl, isi_int_int, isi_int_str, isi_int_tup, isi_int_l, isi_int_f, isi_str_non, isi_str_bl, isi_str_int, isi_str_str, isi_str_tup, isi_str_l, isi_str_f, isi_dict_non, isi_dict_bl, isi_dict_int, isi_dict_str, isi_dict_tup, isi_dict_l, isi_dict_f, Ab.isNon, args, List.map, List.length_cons, List.length_nil, List.length_singleton, List.replicate, Nat.reduceSub, Nat.reduceAdd, Nat.zero_add, List.cons_append, List.nil_append, List.getElem?_cons_zero, List.getElem?_cons_succ, List.set_cons_zero, List.set_cons_succ, Option.some.injEq, decide_eq_true_eq, Bool.not_eq_true', decide_eq_false_iff_not, ite_true, ite_false, if_true, if_false, reduceIte, Bool.false_eq_true, Bool.not_true, Bool.not_false, Bool.true_eq_false, decide_true, decide_false, Nat.reduceLeDiff, Nat.reduceLT, ln]
    split
    · rename_i hk
      rw [List.length_map] at hk
      have hk' : k < ns.length := by omega
      have ix : ixD (.ref 0) (.int (k : Int)) A = .ok (.int ns[k]) A := ev_ix_r (rdL_f h) (by rw [atI_pos (by omega), Int.toNat_natCast, List.getElem?_map, List.getElem?_eq_getElem hk']; rfl)
      rw [ix]
      exact ⟨⟨_, rfl⟩, rfl⟩
    · exact ⟨⟨_, rfl⟩, trivial⟩
  obtain ⟨d, A', e, ⟨v, rfl⟩, rfl⟩ := key.eq
  exact ⟨v, e⟩
theorem source_spec {A : AH} {c : Int} : m__law_source [.int c] A = .ok (.ref A.length) (A ++ [.lst [.int c, .int c, .int 0]]) := by
  have key : Sat (m__law_source [.int c] A) fun d A' => d = .ref A.length ∧ A' = A ++ [.lst [.int c, .int c, .int 0]] := by
    refine sat_body rfl ?_
    unfold p__law_source
    simp only [sat_ok, sat_bad, sat_bind, sat_ite, bind_ok, bind_bad, thn_nx, thn_rt, thn_bk, thn_ct, fin_rt, fin_nx, ev_v, ev_c, ev_op, ev_un, ev_nil, ev_cons, ev_tup, ev_lst, ev_call, ev_own, ev_sl, ev_no, ev_part, ev_and, ev_or, ev_not, ev_if, ev_t, ev_tb, ev_tnot, ev_tand, ev_tor, ev_mt, ev_mt0, ev_rgd, ev_set, ev_asg, ev_ret, ev_retN, ev_ex, ev_pass, ev_brk, ev_cont, ev_ifS, ev_aug, ev_gn, ev_gtp, ev_gnl, ev_gcs, ev_gsb, ev_for, ev_rg1, ev_rg2, ev_its, ev_enum, ev_lc, ev_yes, ev_add_ii, ev_add_ss, ev_add_tt, ev_add_rr, ev_sub, ev_mul, ev_mod, ev_fdiv, ev_pow, ev_neg, ev_lt, ev_le, ev_gt, ev_ge, ev_eq_ii, ev_eq_ss, ev_eq_bb, ev_ne_ii, ev_ne_ss, ev_ne_bb, ev_is_n, ev_isnt_n, ev_int_i, ev_int_b, ev_min_ii, ev_max_ii, ev_abs, ev_tup_of, ev_tup_ofL, ev_lst_ofT, ev_lst_ofL, ev_len_t, ev_len_s, ev_len_r, ev_tru_b, ev_alloc, ev_tupD, ev_lstD, isi_tuple_non, isi_tuple_bl, isi_tuple_int, isi_tuple_str, isi_tuple_tup, isi_tuple_l, isi_tuple_f, isi_list_non, isi_list_bl, isi_list_int, isi_list_str, isi_list_tup, isi_list_l, isi_list_f, isi_bool_non, isi_bool_bl, isi_bool_int, isi_bool_str, isi_bool_tup, isi_bool_l, isi_bool_f, isi_int_non, isi_int_bl, isi_int_int, isi_int_str, isi_int_tup, isi_int_l, isi_int_f, isi_str_non, isi_str_bl, isi_str_int, isi_str_str, isi_str_tup, isi_str_l, isi_str_f, isi_dict_non, isi_dict_bl, isi_dict_int, isi_dict_str, isi_dict_tup, isi_dict_l, isi_dict_f, Ab.isNon, args, List.map, List.length_cons, List.length_nil, List.length_singleton, List.replicate, Nat.reduceSub, Nat.reduceAdd, Nat.zero_add, List.cons_append, List.nil_append, List.getElem?_cons_zero, List.getElem?_cons_succ, List.set_cons_zero, List.set_cons_succ, Option.some.injEq, decide_eq_true_eq, Bool.not_eq_true', decide_eq_false_iff_not, ite_true, ite_false, if_true, if_false, reduceIte, Bool.false_eq_true, Bool.not_true, Bool.not_false, Bool.true_eq_false, decide_true, decide_false, Nat.reduceLeDiff, Nat.reduceLT]
    trivial
  obtain ⟨d, A', e, rfl, rfl⟩ := key.eq
  exact e
theorem pick_pos {A : AH} {s : Nat} {n : Int} (hs : Sr s A) (h0 : 0 < n) (hn : n < 2 ^ 60) : DrwS s A (m__law_pick [.ref s, .int n] A) fun d => ∃ v, d = .int v ∧ 0 ≤ v ∧ v < n :=
  (pick_spec hs hn).imp fun d ⟨v, e, h1, h2⟩ => ⟨v, e, h1, by omega⟩
end Law

namespace Law
open PySem PySem.Spec PyProof.Rows L2 Ab
open scoped Classical
/-! ## points, tables of distances -/
def ptD (p : List Int) : D := .tup (p.map D.int)
def at0 (p : List Int) (i : Nat) : Int := ((0 : Int) :: p).getD i 0
def mx (ps : List (List Int)) (i j : Nat) : Int := maxI (ps.map fun p => at0 p i - at0 p j)
def rowD (n : Nat) (f : Nat → Int) : D := .tup ((List.range n).map fun j => .int (f j))
def matD (n : Nat) (f : Nat → Nat → Int) : D := .tup ((List.range n).map fun i => rowD n (f i))
noncomputable def hullD (ps : List (List Int)) (n : Nat) : D := if ps = [] then .non else matD (n + 1) (mx ps)
/-- points of n numbers, at most 20 (k at most) -/
structure Pts (n : Nat) (ps : List (List Int)) : Prop where
  n20 : n ≤ 20
  few : ps.length ≤ 100000
  len : ∀ p ∈ ps, p.length = n
theorem pl_row {n : Nat} {f : Nat → Int} (h : n ≤ 1000) : Pl 18 (rowD n f) := by
  refine ⟨by simp; omega, fun e he => ?_⟩
  obtain ⟨k, -, rfl⟩ := List.mem_map.mp he
  trivial
theorem pl_mat {n : Nat} {f : Nat → Nat → Int} (h : n ≤ 1000) : Pl 19 (matD n f) := by
  refine ⟨by simp; omega, fun e he => ?_⟩
  obtain ⟨k, -, rfl⟩ := List.mem_map.mp he
  exact pl_row h
theorem pl_hull {n : Nat} {ps : List (List Int)} (h : n ≤ 20) : Pl 19 (hullD ps n) := by
  unfold hullD
  split
  · trivial
  · exact pl_mat (by omega)
theorem same_hull {n : Nat} {ps : List (List Int)} {A : AH} (h : n ≤ 20) : m__law_same 20 [hullD ps n, hullD ps n] A = .ok (.bl true) A := same_refl 19 _ _ (pl_hull h)
/-! ### the list of points, asked against the empty one -/
theorem lay_ints : ∀ ns : List Int, PyData.canLayAll0 (ns.map PyData.int) = true ∧ PyData.depthAll (ns.map PyData.int) = 0
  | [] => ⟨rfl, rfl⟩
  | _ :: r => by
    obtain ⟨h1, h2⟩ := lay_ints r
    simp [PyData.canLayAll0, PyData.canLay0, PyData.depthAll, PyData.depth, h1, h2]
theorem pd_pts : ∀ ps : List (List Int), ∃ qs, pdL (ps.map ptD) = some qs ∧ PyData.canLayAll0 qs = true ∧ PyData.depthAll qs ≤ 1 ∧ PyData.eqvAll qs [] = decide (ps = [])
  | [] => ⟨[], rfl, rfl, by decide, rfl⟩
  | p :: ps => by
    obtain ⟨qs, h1, h2, h3, h4⟩ := pd_pts ps
    have e : ∀ p : List Int, pdL (p.map D.int) = some (p.map PyData.int) := by
      intro p
      induction p with
      | nil => rfl
      | cons x p ih => simp only [List.map_cons, pdL, pd, ih]
    refine ⟨.tuple (p.map .int) :: qs, ?_, ?_, ?_, ?_⟩
    · simp only [List.map_cons, pdL, pd, ptD, e, h1]
    · simp [PyData.canLayAll0, PyData.canLay0, (lay_ints p).1, h2]
    · simp [PyData.depthAll, PyData.depth, (lay_ints p).2]; omega
    · rfl
theorem eq_pts {A : AH} {r q : Nat} {ps : List (List Int)} (h : A[r]? = some (.lst (ps.map ptD))) (hq : A[q]? = some (.lst [])) : eqD (.ref r) (.ref q) A = .ok (.bl (decide (ps = []))) A := by
  obtain ⟨qs, h1, h2, h3, h4⟩ := pd_pts ps
  have e1 : pd1 A (.ref r) = some (.list qs) := by simp only [pd1, rdL_l h, h1]
  have e2 : pd1 A (.ref q) = some (.list []) := by simp only [pd1, rdL_l hq, pdL]
  have s1 : SeqAt.shaped (.list qs) = true := by simp [SeqAt.shaped, PyData.canLay0, PyData.depth, h2]; omega
  have s2 : SeqAt.shaped (.list []) = true := by simp [SeqAt.shaped, PyData.canLay0, PyData.depth, PyData.canLayAll0, PyData.depthAll]
  show okB (match pd1 A (.ref r), pd1 A (.ref q) with
    | some p, some q => if (SeqAt.shaped p && SeqAt.shaped q) = true then some (PyData.eqv p q) else none
    | _, _ => none) A = _
  rw [e1, e2]
  simp only [s1, s2, Bool.and_self, if_true]
  show Res.ok (D.bl (PyData.eqvAll qs [])) A = _
  rw [h4]
/-! ### reading -/
theorem ix_row {n i : Nat} {f : Nat → Int} {A : AH} (h : i < n) : ixD (rowD n f) (.int (i : Nat)) A = .ok (.int (f i)) A := ev_ix_t (by rw [atI_pos (by omega), Int.toNat_natCast, List.getElem?_map, List.getElem?_range h]; rfl)
theorem ix_mat {n i : Nat} {f : Nat → Nat → Int} {A : AH} (h : i < n) : ixD (matD n f) (.int (i : Nat)) A = .ok (rowD n (f i)) A := ev_ix_t (by rw [atI_pos (by omega), Int.toNat_natCast, List.getElem?_map, List.getElem?_range h]; rfl)
theorem ix_full {p : List Int} {i : Nat} {A : AH} (h : i ≤ p.length) : ixD (.tup (.int 0 :: p.map D.int)) (.int (i : Nat)) A = .ok (.int (at0 p i)) A := ev_ix_t (by
  rw [atI_pos (by omega), Int.toNat_natCast, show D.int 0 :: p.map D.int = ((0 : Int) :: p).map D.int from rfl, List.getElem?_map]
  have : i < ((0 : Int) :: p).length := by simp; omega
  rw [List.getElem?_eq_getElem this]
  show some (D.int _) = some (D.int _)
  congr 2
  unfold at0
  rw [List.getD_eq_getElem?_getD, List.getElem?_eq_getElem this]; rfl)
theorem at0_z {p : List Int} : at0 p 0 = 0 := rfl
theorem at0_s {p : List Int} {k : Nat} : at0 p (k + 1) = p.getD k 0 := rfl
theorem ix_pt {p : List Int} {i : Nat} {A : AH} (h : i < p.length) : ixD (ptD p) (.int (i : Nat)) A = .ok (.int (at0 p (i + 1))) A := ev_ix_t (by
  rw [atI_pos (by omega), Int.toNat_natCast, List.getElem?_map, List.getElem?_eq_getElem h, at0_s, List.getD_eq_getElem?_getD, List.getElem?_eq_getElem h]; rfl)
end Law

namespace Law
open PySem PySem.Spec PyProof.Rows L2 Ab
open scoped Classical
/-! ### the table of points -/
theorem hull_spec {A : AH} {r n : Nat} {ps : List (List Int)} (hp : Pts n ps) (h : A[r]? = some (.lst (ps.map ptD))) :
    Sat (m__law_hull [.ref r, .int (n : Nat)] A) fun d A' => d = hullD ps n ∧ Gr A A' := by
  have n20 := hp.n20
  refine sat_body rfl (sat_seq ?_)
  have g0 : (A ++ [AO.lst []])[r]? = some (.lst (ps.map ptD)) := by rw [List.getElem?_append_left (at_lt h)]; exact h
  simp only [sat_ok, sat_bad, sat_bind, sat_ite, bind_ok, bind_bad, thn_nx, thn_rt, thn_bk, thn_ct, fin_rt, fin_nx, ev_v, ev_c, ev_op, ev_un, ev_nil, ev_cons, ev_tup, ev_lst, ev_call, ev_own, ev_sl, ev_no, ev_part, ev_and, ev_or, ev_not, ev_if, ev_t, ev_tb, ev_tnot, ev_tand, ev_tor, ev_mt, ev_mt0, ev_rgd, ev_set, ev_asg, ev_ret, ev_retN, ev_ex, ev_pass, ev_brk, ev_cont, ev_ifS, ev_aug, ev_gn, ev_gtp, ev_gnl, ev_gcs, ev_gsb, ev_for, ev_rg1, ev_rg2, ev_its, ev_enum, ev_lc, ev_yes, ev_add_ii, ev_add_ss, ev_add_tt, ev_add_rr, ev_sub, ev_mul, ev_mod, ev_fdiv, ev_pow, ev_neg, ev_lt, ev_le, ev_gt, ev_ge, ev_eq_ii, ev_eq_ss, ev_eq_bb, ev_ne_ii, ev_ne_ss, ev_ne_bb, ev_is_n, ev_isnt_n, ev_int_i, ev_int_b, ev_min_ii, ev_max_ii, ev_abs, ev_tup_of, ev_tup_ofL, ev_lst_ofT, ev_lst_ofL, ev_len_t, ev_len_s, ev_len_r, ev_tru_b, ev_alloc, ev_tupD, ev_lstD, isi_tuple_non, isi_tuple_bl, isi_tuple_int, isi_tuple_str, isi_tuple_tup, isi_tuple_l, isi_tuple_f, isi_list_non, isi_list_bl, isi_list_int, isi_list_str, isi_list_tup, isi_list_l, isi_list_f, isi_bool_non, isi_bool_bl, isi_bool_int, isi_bool_str, isi_bool_tup, isi_bool_l, isi_bool_f, isi_int_non, isi_int_bl, isi_int_int, isi_int_str, isi_int_tup, isi_int_l, isi_int_f, isi_str_non, isi_str_bl, isi_str_int, isi_str_str, isi_str_tup, isi_str_l, isi_str_f, isi_dict_non, isi_dict_bl, isi_dict_int, isi_dict_str, isi_dict_tup, isi_dict_l, isi_dict_f, Ab.isNon, args, List.map, List.length_cons, List.length_nil, List.length_singleton, List.replicate, Nat.reduceSub, Nat.reduceAdd, Nat.zero_add, List.cons_append, List.nil_append, List.getElem?_cons_zero, List.getElem?_cons_succ, List.set_cons_zero, List.set_cons_succ, Option.some.injEq, decide_eq_true_eq, Bool.not_eq_true', decide_eq_false_iff_not, ite_true, ite_false, if_true, if_false, reduceIte, Bool.false_eq_true, Bool.not_true, Bool.not_false, Bool.true_eq_false, decide_true, decide_false, Nat.reduceLeDiff, Nat.reduceLT, eq_pts g0 at_new]
  split
  · rename_i e
    exact ⟨by rw [hullD, if_pos e], .app⟩
  rename_i hne
  refine sat_seq ?_
  simp only [sat_ok, sat_bad, sat_bind, sat_ite, bind_ok, bind_bad, thn_nx, thn_rt, thn_bk, thn_ct, fin_rt, fin_nx, ev_v, ev_c, ev_op, ev_un, ev_nil, ev_cons, ev_tup, ev_lst, ev_call, ev_own, ev_sl, ev_no, ev_part, ev_and, ev_or, ev_not, ev_if, ev_t, ev_tb, ev_tnot, ev_tand, ev_tor, ev_mt, ev_mt0, ev_rgd, ev_set, ev_asg, ev_ret, ev_retN, ev_ex, ev_pass, ev_brk, ev_cont, ev_ifS, ev_aug, ev_gn, ev_gtp, ev_gnl, ev_gcs, ev_gsb, ev_for, ev_rg1, ev_rg2, ev_its, ev_enum, ev_lc, ev_yes, ev_add_ii, ev_add_ss, ev_add_tt, ev_add_rr, ev_sub, ev_mul, ev_mod, ev_fdiv, ev_pow, ev_neg, ev_lt, ev_le, ev_gt, ev_ge, ev_eq_ii, ev_eq_ss, ev_eq_bb, ev_ne_ii, ev_ne_ss, ev_ne_bb, ev_is_n, ev_isnt_n, ev_int_i, ev_int_b, ev_min_ii, ev_max_ii, ev_abs, ev_tup_of, ev_tup_ofL, ev_lst_ofT, ev_lst_ofL, ev_len_t, ev_len_s, ev_len_r, ev_tru_b, ev_alloc, ev_tupD, ev_lstD, isi_tuple_non, isi_tuple_bl, isi_tuple_int, isi_tuple_str, isi_tuple_tup, isi_tuple_l, isi_tuple_f, isi_list_non, isi_list_bl, isi_list_int, isi_list_str, isi_list_tup, isi_list_l, isi_list_f, isi_bool_non, isi_bool_bl, isi_bool_int, isi_bool_str, isi_bool_tup, isi_bool_l, isi_bool_f, isi_int_non, isi_int_bl, isi_int_int, isi_int_str, isi_int_tup, isi_int_l, isi_int_f, isi_str_non, isi_str_bl, isi_str_int, isi_str_str, isi_str_tup, isi_str_l, isi_str_f, isi_dict_non, isi_dict_bl, isi_dict_int, isi_dict_str, isi_dict_tup, isi_dict_l, isi_dict_f, Ab.isNon, args, List.map, List.length_cons, List.length_nil, List.length_singleton, List.replicate, Nat.reduceSub, Nat.reduceAdd, Nat.zero_add, List.cons_append, List.nil_append, List.getElem?_cons_zero, List.getElem?_cons_succ, List.set_cons_zero, List.set_cons_succ, Option.some.injEq, decide_eq_true_eq, Bool.not_eq_true', decide_eq_false_iff_not, ite_true, ite_false, if_true, if_false, reduceIte, Bool.false_eq_true, Bool.not_true, Bool.not_false, Bool.true_eq_false, decide_true, decide_false, Nat.reduceLeDiff, Nat.reduceLT]
  have G1 : Gr A (A ++ [AO.lst []] ++ [AO.lst []]) := Gr.app.trans .app
  have hr2 : A.length ≤ (A ++ [AO.lst []]).length := by simp
  have f2 : (A ++ [AO.lst []] ++ [AO.lst []])[(A ++ [AO.lst []]).length]? = some (.lst []) := at_new
  generalize (A ++ [AO.lst []]).length = R at hr2 f2 ⊢
  generalize A ++ [AO.lst []] ++ [AO.lst []] = A1 at G1 f2 ⊢
  refine sat_seq ?_
  simp only [sat_ok, sat_bad, sat_bind, sat_ite, bind_ok, bind_bad, thn_nx, thn_rt, thn_bk, thn_ct, fin_rt, fin_nx, ev_v, ev_c, ev_op, ev_un, ev_nil, ev_cons, ev_tup, ev_lst, ev_call, ev_own, ev_sl, ev_no, ev_part, ev_and, ev_or, ev_not, ev_if, ev_t, ev_tb, ev_tnot, ev_tand, ev_tor, ev_mt, ev_mt0, ev_rgd, ev_set, ev_asg, ev_ret, ev_retN, ev_ex, ev_pass, ev_brk, ev_cont, ev_ifS, ev_aug, ev_gn, ev_gtp, ev_gnl, ev_gcs, ev_gsb, ev_for, ev_rg1, ev_rg2, ev_its, ev_enum, ev_lc, ev_yes, ev_add_ii, ev_add_ss, ev_add_tt, ev_add_rr, ev_sub, ev_mul, ev_mod, ev_fdiv, ev_pow, ev_neg, ev_lt, ev_le, ev_gt, ev_ge, ev_eq_ii, ev_eq_ss, ev_eq_bb, ev_ne_ii, ev_ne_ss, ev_ne_bb, ev_is_n, ev_isnt_n, ev_int_i, ev_int_b, ev_min_ii, ev_max_ii, ev_abs, ev_tup_of, ev_tup_ofL, ev_lst_ofT, ev_lst_ofL, ev_len_t, ev_len_s, ev_len_r, ev_tru_b, ev_alloc, ev_tupD, ev_lstD, isi_tuple_non, isi_tuple_bl, isi_tuple_int, isi_tuple_str, isi_tuple_tup, isi_tuple_l, isi_tuple_f, isi_list_non, isi_list_bl, isi_list_int, isi_list_str, isi_list_tup, isi_list_l, isi_list_f, isi_bool_non, isi_bool_bl, isi_bool_int, isi_bool_str, isi_bool_tup, isi_bool_l, isi_bool_f, isi_int_non, isi_int_bl, isi_int_int, isi_int_str, isi_int_tup, isi_int_l, isi_int_f, isi_str_non, isi_str_bl, isi_str_int, isi_str_str, isi_str_tup, isi_str_l, isi_str_f, isi_dict_non, isi_dict_bl, isi_dict_int, isi_dict_str, isi_dict_tup, isi_dict_l, isi_dict_f, Ab.isNon, args, List.map, List.length_cons, List.length_nil, List.length_singleton, List.replicate, Nat.reduceSub, Nat.reduceAdd, Nat.zero_add, List.cons_append, List.nil_append, List.getElem?_cons_zero, List.getElem?_cons_succ, List.set_cons_zero, List.set_cons_succ, Option.some.injEq, decide_eq_true_eq, Bool.not_eq_true', decide_eq_false_iff_not, ite_true, ite_false, if_true, if_false, reduceIte, Bool.false_eq_true, Bool.not_true, Bool.not_false, Bool.true_eq_false, decide_true, decide_false, Nat.reduceLeDiff, Nat.reduceLT]
  rw [if_pos (inRg_of (by omega) (by omega)), show ((n : Int) + 1).toNat = n + 1 by omega]
  refine range_inv (fun k σ B => Gr A B ∧ (∃ x y z, σ = [some (.ref r), some (.int (n : Nat)), some (.ref R), x, y, z, none]) ∧ B[R]? = some (.lst ((List.range k).map fun i => rowD (n + 1) (mx ps i)))) (fun k σ B hk ⟨G, ⟨x, y, z, hσ⟩, hB⟩ => ?_) (fun σ B ⟨G, ⟨x, y, z, hσ⟩, hB⟩ => ?_) ⟨G1, ⟨none, none, none, rfl⟩, f2⟩
  · subst hσ
    simp only [sat_ok, sat_bad, sat_bind, sat_ite, bind_ok, bind_bad, thn_nx, thn_rt, thn_bk, thn_ct, fin_rt, fin_nx, ev_v, ev_c, ev_op, ev_un, ev_nil, ev_cons, ev_tup, ev_lst, ev_call, ev_own, ev_sl, ev_no, ev_part, ev_and, ev_or, ev_not, ev_if, ev_t, ev_tb, ev_tnot, ev_tand, ev_tor, ev_mt, ev_mt0, ev_rgd, ev_set, ev_asg, ev_ret, ev_retN, ev_ex, ev_pass, ev_brk, ev_cont, ev_ifS, ev_aug, ev_gn, ev_gtp, ev_gnl, ev_gcs, ev_gsb, ev_for, ev_rg1, ev_rg2, ev_its, ev_enum, ev_lc, ev_yes, ev_add_ii, ev_add_ss, ev_add_tt, ev_add_rr, ev_sub, ev_mul, ev_mod, ev_fdiv, ev_pow, ev_neg, ev_lt, ev_le, ev_gt, ev_ge, ev_eq_ii, ev_eq_ss, ev_eq_bb, ev_ne_ii, ev_ne_ss, ev_ne_bb, ev_is_n, ev_isnt_n, ev_int_i, ev_int_b, ev_min_ii, ev_max_ii, ev_abs, ev_tup_of, ev_tup_ofL, ev_lst_ofT, ev_lst_ofL, ev_len_t, ev_len_s, ev_len_r, ev_tru_b, ev_alloc, ev_tupD, ev_lstD, isi_tuple_non, isi_tuple_bl, isi_tuple_int, isi_tuple_str, isi_tuple_tup, isi_tuple_l, isi_tuple_f, isi_list_non, isi_list_bl, isi_list_int, isi_list_str, isi_list_tup, isi_list_l, isi_list_f, isi_bool_non, isi_bool_bl, isi_bool_int, isi_bool_str, isi_bool_tup, isi_bool_l, isi_bool_f, isi_int_non, isi_int_bl, isi_int_int, isi_int_str, isi_int_tup, isi_int_l, isi_int_f, isi_str_non, isi_str_bl, isi_str_int, isi_str_str, isi_str_tup, isi_str_l, isi_str_f, isi_dict_non, isi_dict_bl, isi_dict_int, isi_dict_str, isi_dict_tup, isi_dict_l, isi_dict_f, Ab.isNon, args, List.map, List.length_cons, List.length_nil, List.length_singleton, List.replicate, Nat.reduceSub, Nat.reduceAdd, Nat.zero_add, List.cons_append, List.nil_append, List.getElem?_cons_zero, List.getElem?_cons_succ, List.set_cons_zero, List.set_cons_succ, Option.some.injEq, decide_eq_true_eq, Bool.not_eq_true', decide_eq_false_iff_not, ite_true, ite_false, if_true, if_false, reduceIte, Bool.false_eq_true, Bool.not_true, Bool.not_false, Bool.true_eq_false, decide_true, decide_false, Nat.reduceLeDiff, Nat.reduceLT]
    refine sat_seq ?_
    simp only [sat_ok, sat_bad, sat_bind, sat_ite, bind_ok, bind_bad, thn_nx, thn_rt, thn_bk, thn_ct, fin_rt, fin_nx, ev_v, ev_c, ev_op, ev_un, ev_nil, ev_cons, ev_tup, ev_lst, ev_call, ev_own, ev_sl, ev_no, ev_part, ev_and, ev_or, ev_not, ev_if, ev_t, ev_tb, ev_tnot, ev_tand, ev_tor, ev_mt, ev_mt0, ev_rgd, ev_set, ev_asg, ev_ret, ev_retN, ev_ex, ev_pass, ev_brk, ev_cont, ev_ifS, ev_aug, ev_gn, ev_gtp, ev_gnl, ev_gcs, ev_gsb, ev_for, ev_rg1, ev_rg2, ev_its, ev_enum, ev_lc, ev_yes, ev_add_ii, ev_add_ss, ev_add_tt, ev_add_rr, ev_sub, ev_mul, ev_mod, ev_fdiv, ev_pow, ev_neg, ev_lt, ev_le, ev_gt, ev_ge, ev_eq_ii, ev_eq_ss, ev_eq_bb, ev_ne_ii, ev_ne_ss, ev_ne_bb, ev_is_n, ev_isnt_n, ev_int_i, ev_int_b, ev_min_ii, ev_max_ii, ev_abs, ev_tup_of, ev_tup_ofL, ev_lst_ofT, ev_lst_ofL, ev_len_t, ev_len_s, ev_len_r, ev_tru_b, ev_alloc, ev_tupD, ev_lstD, isi_tuple_non, isi_tuple_bl, isi_tuple_int, isi_tuple_str, isi_tuple_tup, isi_tuple_l, isi_tuple_f, isi_list_non, isi_list_bl, isi_list_int, isi_list_str, isi_list_tup, isi_list_l, isi_list_f, isi_bool_non, isi_bool_bl, isi_bool_int, isi_bool_str, isi_bool_tup, isi_bool_l, isi_bool_f, isi_int_non, isi_int_bl, isi_int_int, isi_int_str, isi_int_tup, isi_int_l, isi_int_f, isi_str_non, isi_str_bl, isi_str_int, isi_str_str, isi_str_tup, isi_str_l, isi_str_f, isi_dict_non, isi_dict_bl, isi_dict_int, isi_dict_str, isi_dict_tup, isi_dict_l, isi_dict_f, Ab.isNon, args, List.map, List.length_cons, List.length_nil, List.length_singleton, List.replicate, Nat.reduceSub, Nat.reduceAdd, Nat.zero_add, List.cons_append, List.nil_append, List.getElem?_cons_zero, List.getElem?_cons_succ, List.set_cons_zero, List.set_cons_succ, Option.some.injEq, decide_eq_true_eq, Bool.not_eq_true', decide_eq_false_iff_not, ite_true, ite_false, if_true, if_false, reduceIte, Bool.false_eq_true, Bool.not_true, Bool.not_false, Bool.true_eq_false, decide_true, decide_false, Nat.reduceLeDiff, Nat.reduceLT, Int.zero_add]
    have G2 : Gr A (B ++ [AO.lst []]) := G.trans .app
    have rB := at_lt hB
    have hB' : (B ++ [AO.lst []])[R]? = some (.lst ((List.range k).map fun i => rowD (n + 1) (mx ps i))) := by rw [List.getElem?_append_left rB]; exact hB
    have hS : (B ++ [AO.lst []])[B.length]? = some (.lst []) := at_new
    have lS : A.length ≤ B.length := G.le
    generalize B.length = S at rB hS lS ⊢
    generalize B ++ [AO.lst []] = B1 at G2 hB' hS ⊢
    refine sat_seq ?_
    simp only [sat_ok, sat_bad, sat_bind, sat_ite, bind_ok, bind_bad, thn_nx, thn_rt, thn_bk, thn_ct, fin_rt, fin_nx, ev_v, ev_c, ev_op, ev_un, ev_nil, ev_cons, ev_tup, ev_lst, ev_call, ev_own, ev_sl, ev_no, ev_part, ev_and, ev_or, ev_not, ev_if, ev_t, ev_tb, ev_tnot, ev_tand, ev_tor, ev_mt, ev_mt0, ev_rgd, ev_set, ev_asg, ev_ret, ev_retN, ev_ex, ev_pass, ev_brk, ev_cont, ev_ifS, ev_aug, ev_gn, ev_gtp, ev_gnl, ev_gcs, ev_gsb, ev_for, ev_rg1, ev_rg2, ev_its, ev_enum, ev_lc, ev_yes, ev_add_ii, ev_add_ss, ev_add_tt, ev_add_rr, ev_sub, ev_mul, ev_mod, ev_fdiv, ev_pow, ev_neg, ev_lt, ev_le, ev_gt, ev_ge, ev_eq_ii, ev_eq_ss, ev_eq_bb, ev_ne_ii, ev_ne_ss, ev_ne_bb, ev_is_n, ev_isnt_n, ev_int_i, ev_int_b, ev_min_ii, ev_max_ii, ev_abs, ev_tup_of, ev_tup_ofL, ev_lst_ofT, ev_lst_ofL, ev_len_t, ev_len_s, ev_len_r, ev_tru_b, ev_alloc, ev_tupD, ev_lstD, isi_tuple_non, isi_tuple_bl, isi_tuple_int, isi_tuple_str, isi_tuple_tup, isi_tuple_l, isi_tuple_f, isi_list_non, isi_list_bl, isi_list_int, isi_list_str, isi_list_tup, isi_list_l, isi_list_f, isi_bool_non, isi_bool_bl, isi_bool_int, isi_bool_str, isi_bool_tup, isi_bool_l, isi_bool_f, isi_int_non, isi_int_bl, isi_int_int, isi_int_str, isi_int_tup, isi_int_l, isi_int_f, isi_str_non, isi_str_bl, isi_str_int, isi_str_str, isi_str_tup, isi_str_l, isi_str_f, isi_dict_non, isi_dict_bl, isi_dict_int, isi_dict_str, isi_dict_tup, isi_dict_l, isi_dict_f, Ab.isNon, args, List.map, List.length_cons, List.length_nil, List.length_singleton, List.replicate, Nat.reduceSub, Nat.reduceAdd, Nat.zero_add, List.cons_append, List.nil_append, List.getElem?_cons_zero, List.getElem?_cons_succ, List.set_cons_zero, List.set_cons_succ, Option.some.injEq, decide_eq_true_eq, Bool.not_eq_true', decide_eq_false_iff_not, ite_true, ite_false, if_true, if_false, reduceIte, Bool.false_eq_true, Bool.not_true, Bool.not_false, Bool.true_eq_false, decide_true, decide_false, Nat.reduceLeDiff, Nat.reduceLT]
    rw [if_pos (inRg_of (by omega) (by omega)), show ((n : Int) + 1).toNat = n + 1 by omega]
    refine range_inv (fun j σ C => Gr A C ∧ (∃ z, σ = [some (.ref r), some (.int (n : Nat)), some (.ref R), some (.int (k : Nat)), some (.ref S), z, none]) ∧ C[R]? = some (.lst ((List.range k).map fun i => rowD (n + 1) (mx ps i))) ∧ C[S]? = some (.lst ((List.range j).map fun j => .int (mx ps k j)))) (fun j σ C hj ⟨G, ⟨z, hσ⟩, hR, hS⟩ => ?_) (fun σ C ⟨G, ⟨z, hσ⟩, hR, hS⟩ => ?_) ⟨G2, ⟨z, rfl⟩, hB', hS⟩
    · subst hσ
      simp only [sat_ok, sat_bad, sat_bind, sat_ite, bind_ok, bind_bad, thn_nx, thn_rt, thn_bk, thn_ct, fin_rt, fin_nx, ev_v, ev_c, ev_op, ev_un, ev_nil, ev_cons, ev_tup, ev_lst, ev_call, ev_own, ev_sl, ev_no, ev_part, ev_and, ev_or, ev_not, ev_if, ev_t, ev_tb, ev_tnot, ev_tand, ev_tor, ev_mt, ev_mt0, ev_rgd, ev_set, ev_asg, ev_ret, ev_retN, ev_ex, ev_pass, ev_brk, ev_cont, ev_ifS, ev_aug, ev_gn, ev_gtp, ev_gnl, ev_gcs, ev_gsb, ev_for, ev_rg1, ev_rg2, ev_its, ev_enum, ev_lc, ev_yes, ev_add_ii, ev_add_ss, ev_add_tt, ev_add_rr, ev_sub, ev_mul, ev_mod, ev_fdiv, ev_pow, ev_neg, ev_lt, ev_le, ev_gt, ev_ge, ev_eq_ii, ev_eq_ss, ev_eq_bb, ev_ne_ii, ev_ne_ss, ev_ne_bb, ev_is_n, ev_isnt_n, ev_int_i, ev_int_b, ev_min_ii, ev_max_ii, ev_abs, ev_tup_of, ev_tup_ofL, ev_lst_ofT, ev_lst_ofL, ev_len_t, ev_len_s, ev_len_r, ev_tru_b, ev_alloc, ev_tupD, ev_lstD, isi_tuple_non, isi_tuple_bl, isi_tuple_int, isi_tuple_str, isi_tuple_tup, isi_tuple_l, isi_tuple_f, isi_list_non, isi_list_bl, isi_list_int, isi_list_str, isi_list_tup, isi_list_l, isi_list_f, isi_bool_non, isi_bool_bl, isi_bool_int, isi_bool_str, isi_bool_tup, isi_bool_l, isi_bool_f, isi_int_non, isi_int_bl, isi_int_int, isi_int_str, isi_int_tup, isi_int_l, isi_int_f, isi_str_non, isi_str_bl, isi_str_int, isi_str_str, isi_str_tup, isi_str_l, isi_str_f, isi_dict_non, isi_dict_bl, isi_dict_int, isi_dict_str, isi_dict_tup, isi_dict_l, isi_dict_f, Ab.isNon, args, List.map, List.length_cons, List.length_nil, List.length_singleton, List.replicate, Nat.reduceSub, Nat.reduceAdd, Nat.zero_add, List.cons_append, List.nil_append, List.getElem?_cons_zero, List.getElem?_cons_succ, List.set_cons_zero, List.set_cons_succ, Option.some.injEq, decide_eq_true_eq, Bool.not_eq_true', decide_eq_false_iff_not, ite_true, ite_false, if_true, if_false, reduceIte, Bool.false_eq_true, Bool.not_true, Bool.not_false, Bool.true_eq_false, decide_true, decide_false, Nat.reduceLeDiff, Nat.reduceLT, Int.zero_add, ty_l hS, ev_iseq_l (G.keep _ _ h), wipeA]
      refine comp_pure ptD (fun p => .int (at0 p k - at0 p j)) (fun l => rdL_l (by rw [List.getElem?_append_left (at_lt (G.keep _ _ h))]; exact G.keep _ _ h)) (fun p hq l => ?_) (by have := hp.few; omega) ?_
      · have pl := hp.len p hq
        have z : [D.int 0].length + (p.map D.int).length ≤ sizeLine := sl_le (by simp; omega)
        have a1 : ∀ A, addD (.tup [.int 0]) (ptD p) A = .ok (.tup (.int 0 :: p.map D.int)) A := fun A => ev_add_tt z
        simp only [sat_ok, sat_bad, sat_bind, sat_ite, bind_ok, bind_bad, thn_nx, thn_rt, thn_bk, thn_ct, fin_rt, fin_nx, ev_v, ev_c, ev_op, ev_un, ev_nil, ev_cons, ev_tup, ev_lst, ev_call, ev_own, ev_sl, ev_no, ev_part, ev_and, ev_or, ev_not, ev_if, ev_t, ev_tb, ev_tnot, ev_tand, ev_tor, ev_mt, ev_mt0, ev_rgd, ev_set, ev_asg, ev_ret, ev_retN, ev_ex, ev_pass, ev_brk, ev_cont, ev_ifS, ev_aug, ev_gn, ev_gtp, ev_gnl, ev_gcs, ev_gsb, ev_for, ev_rg1, ev_rg2, ev_its, ev_enum, ev_lc, ev_yes, ev_add_ii, ev_add_ss, ev_add_tt, ev_add_rr, ev_sub, ev_mul, ev_mod, ev_fdiv, ev_pow, ev_neg, ev_lt, ev_le, ev_gt, ev_ge, ev_eq_ii, ev_eq_ss, ev_eq_bb, ev_ne_ii, ev_ne_ss, ev_ne_bb, ev_is_n, ev_isnt_n, ev_int_i, ev_int_b, ev_min_ii, ev_max_ii, ev_abs, ev_tup_of, ev_tup_ofL, ev_lst_ofT, ev_lst_ofL, ev_len_t, ev_len_s, ev_len_r, ev_tru_b, ev_alloc, ev_tupD, ev_lstD, isi_tuple_non, isi_tuple_bl, isi_tuple_int, isi_tuple_str, isi_tuple_tup, isi_tuple_l, isi_tuple_f, isi_list_non, isi_list_bl, isi_list_int, isi_list_str, isi_list_tup, isi_list_l, isi_list_f, isi_bool_non, isi_bool_bl, isi_bool_int, isi_bool_str, isi_bool_tup, isi_bool_l, isi_bool_f, isi_int_non, isi_int_bl, isi_int_int, isi_int_str, isi_int_tup, isi_int_l, isi_int_f, isi_str_non, isi_str_bl, isi_str_int, isi_str_str, isi_str_tup, isi_str_l, isi_str_f, isi_dict_non, isi_dict_bl, isi_dict_int, isi_dict_str, isi_dict_tup, isi_dict_l, isi_dict_f, Ab.isNon, args, List.map, List.length_cons, List.length_nil, List.length_singleton, List.replicate, Nat.reduceSub, Nat.reduceAdd, Nat.zero_add, List.cons_append, List.nil_append, List.getElem?_cons_zero, List.getElem?_cons_succ, List.set_cons_zero, List.set_cons_succ, Option.some.injEq, decide_eq_true_eq, Bool.not_eq_true', decide_eq_false_iff_not, ite_true, ite_false, if_true, if_false, reduceIte, Bool.false_eq_true, Bool.not_true, Bool.not_false, Bool.true_eq_false, decide_true, decide_false, Nat.reduceLeDiff, Nat.reduceLT, a1]
        rw [ix_full (by omega)]
        simp only [sat_ok, sat_bad, sat_bind, sat_ite, bind_ok, bind_bad, thn_nx, thn_rt, thn_bk, thn_ct, fin_rt, fin_nx, ev_v, ev_c, ev_op, ev_un, ev_nil, ev_cons, ev_tup, ev_lst, ev_call, ev_own, ev_sl, ev_no, ev_part, ev_and, ev_or, ev_not, ev_if, ev_t, ev_tb, ev_tnot, ev_tand, ev_tor, ev_mt, ev_mt0, ev_rgd, ev_set, ev_asg, ev_ret, ev_retN, ev_ex, ev_pass, ev_brk, ev_cont, ev_ifS, ev_aug, ev_gn, ev_gtp, ev_gnl, ev_gcs, ev_gsb, ev_for, ev_rg1, ev_rg2, ev_its, ev_enum, ev_lc, ev_yes, ev_add_ii, ev_add_ss, ev_add_tt, ev_add_rr, ev_sub, ev_mul, ev_mod, ev_fdiv, ev_pow, ev_neg, ev_lt, ev_le, ev_gt, ev_ge, ev_eq_ii, ev_eq_ss, ev_eq_bb, ev_ne_ii, ev_ne_ss, ev_ne_bb, ev_is_n, ev_isnt_n, ev_int_i, ev_int_b, ev_min_ii, ev_max_ii, ev_abs, ev_tup_of, ev_tup_ofL, ev_lst_ofT, ev_lst_ofL, ev_len_t, ev_len_s, ev_len_r, ev_tru_b, ev_alloc, ev_tupD, ev_lstD, isi_tuple_non, isi_tuple_bl, isi_tuple_int, isi_tuple_str, isi_tuple_tup, isi_tuple_l, isi_tuple_f, isi_list_non, isi_list_bl, isi_list_int, isi_list_str, isi_list_tup, isi_list_l, isi_list_f, isi_bool_non, isi_bool_bl, isi_bool_int, isi_bool_str, isi_bool_tup, isi_bool_l, isi_bool_f, isi_int_non, isi_int_bl, isi_int_int, isi_int_str, isi_int_tup, isi_int_l, isi_int_f, isi_str_non, isi_str_bl, isi_str_int, isi_str_str, isi_str_tup, isi_str_l, isi_str_f, isi_dict_non, isi_dict_bl, isi_dict_int, isi_dict_str, isi_dict_tup, isi_dict_l, isi_dict_f, Ab.isNon, args, List.map, List.length_cons, List.length_nil, List.length_singleton, List.replicate, Nat.reduceSub, Nat.reduceAdd, Nat.zero_add, List.cons_append, List.nil_append, List.getElem?_cons_zero, List.getElem?_cons_succ, List.set_cons_zero, List.set_cons_succ, Option.some.injEq, decide_eq_true_eq, Bool.not_eq_true', decide_eq_false_iff_not, ite_true, ite_false, if_true, if_false, reduceIte, Bool.false_eq_true, Bool.not_true, Bool.not_false, Bool.true_eq_false, decide_true, decide_false, Nat.reduceLeDiff, Nat.reduceLT, a1]
        rw [ix_full (by omega)]
        simp only [sat_ok, sat_bad, sat_bind, sat_ite, bind_ok, bind_bad, thn_nx, thn_rt, thn_bk, thn_ct, fin_rt, fin_nx, ev_v, ev_c, ev_op, ev_un, ev_nil, ev_cons, ev_tup, ev_lst, ev_call, ev_own, ev_sl, ev_no, ev_part, ev_and, ev_or, ev_not, ev_if, ev_t, ev_tb, ev_tnot, ev_tand, ev_tor, ev_mt, ev_mt0, ev_rgd, ev_set, ev_asg, ev_ret, ev_retN, ev_ex, ev_pass, ev_brk, ev_cont, ev_ifS, ev_aug, ev_gn, ev_gtp, ev_gnl, ev_gcs, ev_gsb, ev_for, ev_rg1, ev_rg2, ev_its, ev_enum, ev_lc, ev_yes, ev_add_ii, ev_add_ss, ev_add_tt, ev_add_rr, ev_sub, ev_mul, ev_mod, ev_fdiv, ev_pow, ev_neg, ev_lt, ev_le, ev_gt, ev_ge, ev_eq_ii, ev_eq_ss, ev_eq_bb, ev_ne_ii, ev_ne_ss, ev_ne_bb, ev_is_n, ev_isnt_n, ev_int_i, ev_int_b, ev_min_ii, ev_max_ii, ev_abs, ev_tup_of, ev_tup_ofL, ev_lst_ofT, ev_lst_ofL, ev_len_t, ev_len_s, ev_len_r, ev_tru_b, ev_alloc, ev_tupD, ev_lstD, isi_tuple_non, isi_tuple_bl, isi_tuple_int, isi_tuple_str, isi_tuple_tup, isi_tuple_l, isi_tuple_f, isi_list_non, isi_list_bl, isi_list_int, isi_list_str, isi_list_tup, isi_list_l, isi_list_f, isi_bool_non, isi_bool_bl, isi_bool_int, isi_bool_str, isi_bool_tup, isi_bool_l, isi_bool_f, isi_int_non, isi_int_bl, isi_int_int, isi_int_str, isi_int_tup, isi_int_l, isi_int_f, isi_str_non, isi_str_bl, isi_str_int, isi_str_str, isi_str_tup, isi_str_l, isi_str_f, isi_dict_non, isi_dict_bl, isi_dict_int, isi_dict_str, isi_dict_tup, isi_dict_l, isi_dict_f, Ab.isNon, args, List.map, List.length_cons, List.length_nil, List.length_singleton, List.replicate, Nat.reduceSub, Nat.reduceAdd, Nat.zero_add, List.cons_append, List.nil_append, List.getElem?_cons_zero, List.getElem?_cons_succ, List.set_cons_zero, List.set_cons_succ, Option.some.injEq, decide_eq_true_eq, Bool.not_eq_true', decide_eq_false_iff_not, ite_true, ite_false, if_true, if_false, reduceIte, Bool.false_eq_true, Bool.not_true, Bool.not_false, Bool.true_eq_false, decide_true, decide_false, Nat.reduceLeDiff, Nat.reduceLT]
        trivial
      · have em : (ps.map fun p => D.int (at0 p k - at0 p j)) = (ps.map fun p => at0 p k - at0 p j).map D.int := by rw [List.map_map]; rfl
        have G3 : Gr C (C ++ [.lst (ps.map fun p => D.int (at0 p k - at0 p j))]) := .app
        have hm : maxD [.ref C.length] (C ++ [.lst (ps.map fun p => D.int (at0 p k - at0 p j))]) = .ok (.int (mx ps k j)) _ := ev_max_l (by rw [← em]; exact at_new) (by simpa using hne)
        simp only [sat_ok, sat_bad, sat_bind, sat_ite, bind_ok, bind_bad, thn_nx, thn_rt, thn_bk, thn_ct, fin_rt, fin_nx, ev_v, ev_c, ev_op, ev_un, ev_nil, ev_cons, ev_tup, ev_lst, ev_call, ev_own, ev_sl, ev_no, ev_part, ev_and, ev_or, ev_not, ev_if, ev_t, ev_tb, ev_tnot, ev_tand, ev_tor, ev_mt, ev_mt0, ev_rgd, ev_set, ev_asg, ev_ret, ev_retN, ev_ex, ev_pass, ev_brk, ev_cont, ev_ifS, ev_aug, ev_gn, ev_gtp, ev_gnl, ev_gcs, ev_gsb, ev_for, ev_rg1, ev_rg2, ev_its, ev_enum, ev_lc, ev_yes, ev_add_ii, ev_add_ss, ev_add_tt, ev_add_rr, ev_sub, ev_mul, ev_mod, ev_fdiv, ev_pow, ev_neg, ev_lt, ev_le, ev_gt, ev_ge, ev_eq_ii, ev_eq_ss, ev_eq_bb, ev_ne_ii, ev_ne_ss, ev_ne_bb, ev_is_n, ev_isnt_n, ev_int_i, ev_int_b, ev_min_ii, ev_max_ii, ev_abs, ev_tup_of, ev_tup_ofL, ev_lst_ofT, ev_lst_ofL, ev_len_t, ev_len_s, ev_len_r, ev_tru_b, ev_alloc, ev_tupD, ev_lstD, isi_tuple_non, isi_tuple_bl, isi_tuple_int, isi_tuple_str, isi_tuple_tup, isi_tuple_l, isi_tuple_f, isi_list_non, isi_list_bl, isi_list_int, isi_list_str, isi_list_tup, isi_list_l, isi_list_f, isi_bool_non, isi_bool_bl, isi_bool_int, isi_bool_str, isi_bool_tup, isi_bool_l, isi_bool_f, isi_int_non, isi_int_bl, isi_int_int, isi_int_str, isi_int_tup, isi_int_l, isi_int_f, isi_str_non, isi_str_bl, isi_str_int, isi_str_str, isi_str_tup, isi_str_l, isi_str_f, isi_dict_non, isi_dict_bl, isi_dict_int, isi_dict_str, isi_dict_tup, isi_dict_l, isi_dict_f, Ab.isNon, args, List.map, List.length_cons, List.length_nil, List.length_singleton, List.replicate, Nat.reduceSub, Nat.reduceAdd, Nat.zero_add, List.cons_append, List.nil_append, List.getElem?_cons_zero, List.getElem?_cons_succ, List.set_cons_zero, List.set_cons_succ, Option.some.injEq, decide_eq_true_eq, Bool.not_eq_true', decide_eq_false_iff_not, ite_true, ite_false, if_true, if_false, reduceIte, Bool.false_eq_true, Bool.not_true, Bool.not_false, Bool.true_eq_false, decide_true, decide_false, Nat.reduceLeDiff, Nat.reduceLT, hm]
        have hS := G3.keep _ _ hS
        have hR := G3.keep _ _ hR
        rw [ev_app hS (by simp; omega)]
        simp only [sat_ok, sat_bad, sat_bind, sat_ite, bind_ok, bind_bad, thn_nx, thn_rt, thn_bk, thn_ct, fin_rt, fin_nx, ev_v, ev_c, ev_op, ev_un, ev_nil, ev_cons, ev_tup, ev_lst, ev_call, ev_own, ev_sl, ev_no, ev_part, ev_and, ev_or, ev_not, ev_if, ev_t, ev_tb, ev_tnot, ev_tand, ev_tor, ev_mt, ev_mt0, ev_rgd, ev_set, ev_asg, ev_ret, ev_retN, ev_ex, ev_pass, ev_brk, ev_cont, ev_ifS, ev_aug, ev_gn, ev_gtp, ev_gnl, ev_gcs, ev_gsb, ev_for, ev_rg1, ev_rg2, ev_its, ev_enum, ev_lc, ev_yes, ev_add_ii, ev_add_ss, ev_add_tt, ev_add_rr, ev_sub, ev_mul, ev_mod, ev_fdiv, ev_pow, ev_neg, ev_lt, ev_le, ev_gt, ev_ge, ev_eq_ii, ev_eq_ss, ev_eq_bb, ev_ne_ii, ev_ne_ss, ev_ne_bb, ev_is_n, ev_isnt_n, ev_int_i, ev_int_b, ev_min_ii, ev_max_ii, ev_abs, ev_tup_of, ev_tup_ofL, ev_lst_ofT, ev_lst_ofL, ev_len_t, ev_len_s, ev_len_r, ev_tru_b, ev_alloc, ev_tupD, ev_lstD, isi_tuple_non, isi_tuple_bl, isi_tuple_int, isi_tuple_str, isi_tuple_tup, isi_tuple_l, isi_tuple_f, isi_list_non, isi_list_bl, isi_list_int, isi_list_str, isi_list_tup, isi_list_l, isi_list_f, isi_bool_non, isi_bool_bl, isi_bool_int, isi_bool_str, isi_bool_tup, isi_bool_l, isi_bool_f, isi_int_non, isi_int_bl, isi_int_int, isi_int_str, isi_int_tup, isi_int_l, isi_int_f, isi_str_non, isi_str_bl, isi_str_int, isi_str_str, isi_str_tup, isi_str_l, isi_str_f, isi_dict_non, isi_dict_bl, isi_dict_int, isi_dict_str, isi_dict_tup, isi_dict_l, isi_dict_f, Ab.isNon, args, List.map, List.length_cons, List.length_nil, List.length_singleton, List.replicate, Nat.reduceSub, Nat.reduceAdd, Nat.zero_add, List.cons_append, List.nil_append, List.getElem?_cons_zero, List.getElem?_cons_succ, List.set_cons_zero, List.set_cons_succ, Option.some.injEq, decide_eq_true_eq, Bool.not_eq_true', decide_eq_false_iff_not, ite_true, ite_false, if_true, if_false, reduceIte, Bool.false_eq_true, Bool.not_true, Bool.not_false, Bool.true_eq_false, decide_true, decide_false, Nat.reduceLeDiff, Nat.reduceLT, turn_]
        refine ⟨(G.trans G3).set lS, ⟨_, rfl⟩, ?_, ?_⟩
        · rw [List.getElem?_set_ne (by omega)]; exact hR
        · rw [at_set (at_lt hS), List.range_succ (n := j), List.map_append]; rfl
    · subst hσ
      simp only [sat_ok, sat_bad, sat_bind, sat_ite, bind_ok, bind_bad, thn_nx, thn_rt, thn_bk, thn_ct, fin_rt, fin_nx, ev_v, ev_c, ev_op, ev_un, ev_nil, ev_cons, ev_tup, ev_lst, ev_call, ev_own, ev_sl, ev_no, ev_part, ev_and, ev_or, ev_not, ev_if, ev_t, ev_tb, ev_tnot, ev_tand, ev_tor, ev_mt, ev_mt0, ev_rgd, ev_set, ev_asg, ev_ret, ev_retN, ev_ex, ev_pass, ev_brk, ev_cont, ev_ifS, ev_aug, ev_gn, ev_gtp, ev_gnl, ev_gcs, ev_gsb, ev_for, ev_rg1, ev_rg2, ev_its, ev_enum, ev_lc, ev_yes, ev_add_ii, ev_add_ss, ev_add_tt, ev_add_rr, ev_sub, ev_mul, ev_mod, ev_fdiv, ev_pow, ev_neg, ev_lt, ev_le, ev_gt, ev_ge, ev_eq_ii, ev_eq_ss, ev_eq_bb, ev_ne_ii, ev_ne_ss, ev_ne_bb, ev_is_n, ev_isnt_n, ev_int_i, ev_int_b, ev_min_ii, ev_max_ii, ev_abs, ev_tup_of, ev_tup_ofL, ev_lst_ofT, ev_lst_ofL, ev_len_t, ev_len_s, ev_len_r, ev_tru_b, ev_alloc, ev_tupD, ev_lstD, isi_tuple_non, isi_tuple_bl, isi_tuple_int, isi_tuple_str, isi_tuple_tup, isi_tuple_l, isi_tuple_f, isi_list_non, isi_list_bl, isi_list_int, isi_list_str, isi_list_tup, isi_list_l, isi_list_f, isi_bool_non, isi_bool_bl, isi_bool_int, isi_bool_str, isi_bool_tup, isi_bool_l, isi_bool_f, isi_int_non, isi_int_bl, isi_int_int, isi_int_str, isi_int_tup, isi_int_l, isi_int_f, isi_str_non, isi_str_bl, isi_str_int, isi_str_str, isi_str_tup, isi_str_l, isi_str_f, isi_dict_non, isi_dict_bl, isi_dict_int, isi_dict_str, isi_dict_tup, isi_dict_l, isi_dict_f, Ab.isNon, args, List.map, List.length_cons, List.length_nil, List.length_singleton, List.replicate, Nat.reduceSub, Nat.reduceAdd, Nat.zero_add, List.cons_append, List.nil_append, List.getElem?_cons_zero, List.getElem?_cons_succ, List.set_cons_zero, List.set_cons_succ, Option.some.injEq, decide_eq_true_eq, Bool.not_eq_true', decide_eq_false_iff_not, ite_true, ite_false, if_true, if_false, reduceIte, Bool.false_eq_true, Bool.not_true, Bool.not_false, Bool.true_eq_false, decide_true, decide_false, Nat.reduceLeDiff, Nat.reduceLT, ty_l hR, ev_tup_ofL (rdL_l hS)]
      rw [ev_app hR (by simp; omega)]
      simp only [sat_ok, sat_bad, sat_bind, sat_ite, bind_ok, bind_bad, thn_nx, thn_rt, thn_bk, thn_ct, fin_rt, fin_nx, ev_v, ev_c, ev_op, ev_un, ev_nil, ev_cons, ev_tup, ev_lst, ev_call, ev_own, ev_sl, ev_no, ev_part, ev_and, ev_or, ev_not, ev_if, ev_t, ev_tb, ev_tnot, ev_tand, ev_tor, ev_mt, ev_mt0, ev_rgd, ev_set, ev_asg, ev_ret, ev_retN, ev_ex, ev_pass, ev_brk, ev_cont, ev_ifS, ev_aug, ev_gn, ev_gtp, ev_gnl, ev_gcs, ev_gsb, ev_for, ev_rg1, ev_rg2, ev_its, ev_enum, ev_lc, ev_yes, ev_add_ii, ev_add_ss, ev_add_tt, ev_add_rr, ev_sub, ev_mul, ev_mod, ev_fdiv, ev_pow, ev_neg, ev_lt, ev_le, ev_gt, ev_ge, ev_eq_ii, ev_eq_ss, ev_eq_bb, ev_ne_ii, ev_ne_ss, ev_ne_bb, ev_is_n, ev_isnt_n, ev_int_i, ev_int_b, ev_min_ii, ev_max_ii, ev_abs, ev_tup_of, ev_tup_ofL, ev_lst_ofT, ev_lst_ofL, ev_len_t, ev_len_s, ev_len_r, ev_tru_b, ev_alloc, ev_tupD, ev_lstD, isi_tuple_non, isi_tuple_bl, isi_tuple_int, isi_tuple_str, isi_tuple_tup, isi_tuple_l, isi_tuple_f, isi_list_non, isi_list_bl, isi_list_int, isi_list_str, isi_list_tup, isi_list_l, isi_list_f, isi_bool_non, isi_bool_bl, isi_bool_int, isi_bool_str, isi_bool_tup, isi_bool_l, isi_bool_f, isi_int_non, isi_int_bl, isi_int_int, isi_int_str, isi_int_tup, isi_int_l, isi_int_f, isi_str_non, isi_str_bl, isi_str_int, isi_str_str, isi_str_tup, isi_str_l, isi_str_f, isi_dict_non, isi_dict_bl, isi_dict_int, isi_dict_str, isi_dict_tup, isi_dict_l, isi_dict_f, Ab.isNon, args, List.map, List.length_cons, List.length_nil, List.length_singleton, List.replicate, Nat.reduceSub, Nat.reduceAdd, Nat.zero_add, List.cons_append, List.nil_append, List.getElem?_cons_zero, List.getElem?_cons_succ, List.set_cons_zero, List.set_cons_succ, Option.some.injEq, decide_eq_true_eq, Bool.not_eq_true', decide_eq_false_iff_not, ite_true, ite_false, if_true, if_false, reduceIte, Bool.false_eq_true, Bool.not_true, Bool.not_false, Bool.true_eq_false, decide_true, decide_false, Nat.reduceLeDiff, Nat.reduceLT, turn_]
      refine ⟨G.set hr2, ⟨_, _, _, rfl⟩, ?_⟩
      rw [at_set (at_lt hR), List.range_succ (n := k), List.map_append]; rfl
  · subst hσ
    simp only [sat_ok, sat_bad, sat_bind, sat_ite, bind_ok, bind_bad, thn_nx, thn_rt, thn_bk, thn_ct, fin_rt, fin_nx, ev_v, ev_c, ev_op, ev_un, ev_nil, ev_cons, ev_tup, ev_lst, ev_call, ev_own, ev_sl, ev_no, ev_part, ev_and, ev_or, ev_not, ev_if, ev_t, ev_tb, ev_tnot, ev_tand, ev_tor, ev_mt, ev_mt0, ev_rgd, ev_set, ev_asg, ev_ret, ev_retN, ev_ex, ev_pass, ev_brk, ev_cont, ev_ifS, ev_aug, ev_gn, ev_gtp, ev_gnl, ev_gcs, ev_gsb, ev_for, ev_rg1, ev_rg2, ev_its, ev_enum, ev_lc, ev_yes, ev_add_ii, ev_add_ss, ev_add_tt, ev_add_rr, ev_sub, ev_mul, ev_mod, ev_fdiv, ev_pow, ev_neg, ev_lt, ev_le, ev_gt, ev_ge, ev_eq_ii, ev_eq_ss, ev_eq_bb, ev_ne_ii, ev_ne_ss, ev_ne_bb, ev_is_n, ev_isnt_n, ev_int_i, ev_int_b, ev_min_ii, ev_max_ii, ev_abs, ev_tup_of, ev_tup_ofL, ev_lst_ofT, ev_lst_ofL, ev_len_t, ev_len_s, ev_len_r, ev_tru_b, ev_alloc, ev_tupD, ev_lstD, isi_tuple_non, isi_tuple_bl, isi_tuple_int, isi_tuple_str, isi_tuple_tup, isi_tuple_l, isi_tuple_f, isi_list_non, isi_list_bl, isi_list_int, isi_list_str, isi_list_tup, isi_list_l, isi_list_f, isi_bool_non, isi_bool_bl, isi_bool_int, isi_bool_str, isi_bool_tup, isi_bool_l, isi_bool_f, isi_int_non, isi_int_bl, isi_int_int, isi_int_str, isi_int_tup, isi_int_l, isi_int_f, isi_str_non, isi_str_bl, isi_str_int, isi_str_str, isi_str_tup, isi_str_l, isi_str_f, isi_dict_non, isi_dict_bl, isi_dict_int, isi_dict_str, isi_dict_tup, isi_dict_l, isi_dict_f, Ab.isNon, args, List.map, List.length_cons, List.length_nil, List.length_singleton, List.replicate, Nat.reduceSub, Nat.reduceAdd, Nat.zero_add, List.cons_append, List.nil_append, List.getElem?_cons_zero, List.getElem?_cons_succ, List.set_cons_zero, List.set_cons_succ, Option.some.injEq, decide_eq_true_eq, Bool.not_eq_true', decide_eq_false_iff_not, ite_true, ite_false, if_true, if_false, reduceIte, Bool.false_eq_true, Bool.not_true, Bool.not_false, Bool.true_eq_false, decide_true, decide_false, Nat.reduceLeDiff, Nat.reduceLT, ev_tup_ofL (rdL_l hB)]
    exact ⟨by rw [hullD, if_neg hne]; rfl, G⟩
end Law

namespace Law
open PySem PySem.Spec PyProof.Rows L2 Ab
open scoped Classical
/-! ### the drawn points -/
theorem znumber_spec {A : AH} {s : Nat} (hs : Sr s A) : DrwS s A (m__law_number [.ref s] A) fun d => ∃ v, d = .int v := by
  refine sat_body rfl (sat_seq ?_)
  have e8 : CPow 10 8 := powOk (by decide) (by decide) (by decide)
  have e17 : CPow 10 17 := powOk (by decide) (by decide) (by decide)
  simp only [sat_ok, sat_bad, sat_bind, sat_ite, bind_ok, bind_bad, thn_nx, thn_rt, thn_bk, thn_ct, fin_rt, fin_nx, ev_v, ev_c, ev_op, ev_un, ev_nil, ev_cons, ev_tup, ev_lst, ev_call, ev_own, ev_sl, ev_no, ev_part, ev_and, ev_or, ev_not, ev_if, ev_t, ev_tb, ev_tnot, ev_tand, ev_tor, ev_mt, ev_mt0, ev_rgd, ev_set, ev_asg, ev_ret, ev_retN, ev_ex, ev_pass, ev_brk, ev_cont, ev_ifS, ev_aug, ev_gn, ev_gtp, ev_gnl, ev_gcs, ev_gsb, ev_for, ev_rg1, ev_rg2, ev_its, ev_enum, ev_lc, ev_yes, ev_add_ii, ev_add_ss, ev_add_tt, ev_add_rr, ev_sub, ev_mul, ev_mod, ev_fdiv, ev_pow, ev_neg, ev_lt, ev_le, ev_gt, ev_ge, ev_eq_ii, ev_eq_ss, ev_eq_bb, ev_ne_ii, ev_ne_ss, ev_ne_bb, ev_is_n, ev_isnt_n, ev_int_i, ev_int_b, ev_min_ii, ev_max_ii, ev_abs, ev_tup_of, ev_tup_ofL, ev_lst_ofT, ev_lst_ofL, ev_len_t, ev_len_s, ev_len_r, ev_tru_b, ev_alloc, ev_tupD, ev_lstD, isi_tuple_non, isi_tuple_bl, isi_tuple_int, isi_tuple_str, isi_tuple_tup, isi_tuple_l, isi_tuple_f, isi_list_non, isi_list_bl, isi_list_int, isi_list_str, isi_list_tup, isi_list_l, isi_list_f, isi_bool_non, isi_bool_bl, isi_bool_int, isi_bool_str, isi_bool_tup, isi_bool_l, isi_bool_f, isi_int_non, isi_int_bl, isi_int_int, isi_int_str, isi_int_tup, isi_int_l, isi_int_f, isi_str_non, isi_str_bl, isi_str_int, isi_str_str, isi_str_tup, isi_str_l, isi_str_f, isi_dict_non, isi_dict_bl, isi_dict_int, isi_dict_str, isi_dict_tup, isi_dict_l, isi_dict_f, Ab.isNon, args, List.map, List.length_cons, List.length_nil, List.length_singleton, List.replicate, Nat.reduceSub, Nat.reduceAdd, Nat.zero_add, List.cons_append, List.nil_append, List.getElem?_cons_zero, List.getElem?_cons_succ, List.set_cons_zero, List.set_cons_succ, Option.some.injEq, decide_eq_true_eq, Bool.not_eq_true', decide_eq_false_iff_not, ite_true, ite_false, if_true, if_false, reduceIte, Bool.false_eq_true, Bool.not_true, Bool.not_false, Bool.true_eq_false, decide_true, decide_false, Nat.reduceLeDiff, Nat.reduceLT, e8, e17]
  have sl := hs.lt
  have at1 : ∀ o : AO, (A ++ [o])[A.length]? = some o := fun o => at_new
  refine Sat.imp (pick_pos (Gr.app.dr hs).src (n := 5) (by decide) (by decide)) fun d A1 ⟨⟨v, e, h1, h2⟩, dr⟩ => ?_
  subst e
  have hl := dr.keep A.length _ (by omega) at_new
  have dr := ((Gr.app (B := [_])).dr hs).trans dr
  obtain ⟨u, hu⟩ : ∃ u : Int, ixD (.ref A.length) (.int v) A1 = .ok (.int u) A1 := by
    have : v = 0 ∨ v = 1 ∨ v = 2 ∨ v = 3 ∨ v = 4 := by omega
    rcases this with rfl | rfl | rfl | rfl | rfl <;> exact ⟨_, ev_ix_r (rdL_l hl) (by rw [atI_pos (by decide)]; rfl)⟩
  simp only [sat_ok, sat_bad, sat_bind, sat_ite, bind_ok, bind_bad, thn_nx, thn_rt, thn_bk, thn_ct, fin_rt, fin_nx, ev_v, ev_c, ev_op, ev_un, ev_nil, ev_cons, ev_tup, ev_lst, ev_call, ev_own, ev_sl, ev_no, ev_part, ev_and, ev_or, ev_not, ev_if, ev_t, ev_tb, ev_tnot, ev_tand, ev_tor, ev_mt, ev_mt0, ev_rgd, ev_set, ev_asg, ev_ret, ev_retN, ev_ex, ev_pass, ev_brk, ev_cont, ev_ifS, ev_aug, ev_gn, ev_gtp, ev_gnl, ev_gcs, ev_gsb, ev_for, ev_rg1, ev_rg2, ev_its, ev_enum, ev_lc, ev_yes, ev_add_ii, ev_add_ss, ev_add_tt, ev_add_rr, ev_sub, ev_mul, ev_mod, ev_fdiv, ev_pow, ev_neg, ev_lt, ev_le, ev_gt, ev_ge, ev_eq_ii, ev_eq_ss, ev_eq_bb, ev_ne_ii, ev_ne_ss, ev_ne_bb, ev_is_n, ev_isnt_n, ev_int_i, ev_int_b, ev_min_ii, ev_max_ii, ev_abs, ev_tup_of, ev_tup_ofL, ev_lst_ofT, ev_lst_ofL, ev_len_t, ev_len_s, ev_len_r, ev_tru_b, ev_alloc, ev_tupD, ev_lstD, isi_tuple_non, isi_tuple_bl, isi_tuple_int, isi_tuple_str, isi_tuple_tup, isi_tuple_l, isi_tuple_f, isi_list_non, isi_list_bl, isi_list_int, isi_list_str, isi_list_tup, isi_list_l, isi_list_f, isi_bool_non, isi_bool_bl, isi_bool_int, isi_bool_str, isi_bool_tup, isi_bool_l, isi_bool_f, isi_int_non, isi_int_bl, isi_int_int, isi_int_str, isi_int_tup, isi_int_l, isi_int_f, isi_str_non, isi_str_bl, isi_str_int, isi_str_str, isi_str_tup, isi_str_l, isi_str_f, isi_dict_non, isi_dict_bl, isi_dict_int, isi_dict_str, isi_dict_tup, isi_dict_l, isi_dict_f, Ab.isNon, args, List.map, List.length_cons, List.length_nil, List.length_singleton, List.replicate, Nat.reduceSub, Nat.reduceAdd, Nat.zero_add, List.cons_append, List.nil_append, List.getElem?_cons_zero, List.getElem?_cons_succ, List.set_cons_zero, List.set_cons_succ, Option.some.injEq, decide_eq_true_eq, Bool.not_eq_true', decide_eq_false_iff_not, ite_true, ite_false, if_true, if_false, reduceIte, Bool.false_eq_true, Bool.not_true, Bool.not_false, Bool.true_eq_false, decide_true, decide_false, Nat.reduceLeDiff, Nat.reduceLT, hu]
  refine Sat.imp (pick_pos dr.src (n := 19) (by decide) (by decide)) fun d A2 ⟨⟨v2, e, h3, h4⟩, dr2⟩ => ?_
  subst e
  have m : mulOk (v2 - 9) u := mulOk_l (by omega) (by omega)
  simp only [sat_ok, sat_bad, sat_bind, sat_ite, bind_ok, bind_bad, thn_nx, thn_rt, thn_bk, thn_ct, fin_rt, fin_nx, ev_v, ev_c, ev_op, ev_un, ev_nil, ev_cons, ev_tup, ev_lst, ev_call, ev_own, ev_sl, ev_no, ev_part, ev_and, ev_or, ev_not, ev_if, ev_t, ev_tb, ev_tnot, ev_tand, ev_tor, ev_mt, ev_mt0, ev_rgd, ev_set, ev_asg, ev_ret, ev_retN, ev_ex, ev_pass, ev_brk, ev_cont, ev_ifS, ev_aug, ev_gn, ev_gtp, ev_gnl, ev_gcs, ev_gsb, ev_for, ev_rg1, ev_rg2, ev_its, ev_enum, ev_lc, ev_yes, ev_add_ii, ev_add_ss, ev_add_tt, ev_add_rr, ev_sub, ev_mul, ev_mod, ev_fdiv, ev_pow, ev_neg, ev_lt, ev_le, ev_gt, ev_ge, ev_eq_ii, ev_eq_ss, ev_eq_bb, ev_ne_ii, ev_ne_ss, ev_ne_bb, ev_is_n, ev_isnt_n, ev_int_i, ev_int_b, ev_min_ii, ev_max_ii, ev_abs, ev_tup_of, ev_tup_ofL, ev_lst_ofT, ev_lst_ofL, ev_len_t, ev_len_s, ev_len_r, ev_tru_b, ev_alloc, ev_tupD, ev_lstD, isi_tuple_non, isi_tuple_bl, isi_tuple_int, isi_tuple_str, isi_tuple_tup, isi_tuple_l, isi_tuple_f, isi_list_non, isi_list_bl, isi_list_int, isi_list_str, isi_list_tup, isi_list_l, isi_list_f, isi_bool_non, isi_bool_bl, isi_bool_int, isi_bool_str, isi_bool_tup, isi_bool_l, isi_bool_f, isi_int_non, isi_int_bl, isi_int_int, isi_int_str, isi_int_tup, isi_int_l, isi_int_f, isi_str_non, isi_str_bl, isi_str_int, isi_str_str, isi_str_tup, isi_str_l, isi_str_f, isi_dict_non, isi_dict_bl, isi_dict_int, isi_dict_str, isi_dict_tup, isi_dict_l, isi_dict_f, Ab.isNon, args, List.map, List.length_cons, List.length_nil, List.length_singleton, List.replicate, Nat.reduceSub, Nat.reduceAdd, Nat.zero_add, List.cons_append, List.nil_append, List.getElem?_cons_zero, List.getElem?_cons_succ, List.set_cons_zero, List.set_cons_succ, Option.some.injEq, decide_eq_true_eq, Bool.not_eq_true', decide_eq_false_iff_not, ite_true, ite_false, if_true, if_false, reduceIte, Bool.false_eq_true, Bool.not_true, Bool.not_false, Bool.true_eq_false, decide_true, decide_false, Nat.reduceLeDiff, Nat.reduceLT, m]
  refine Sat.imp (pick_pos dr2.src (n := 7) (by decide) (by decide)) fun d A3 ⟨⟨v3, e, h5, h6⟩, dr3⟩ => ?_
  subst e
  simp only [sat_ok, sat_bad, sat_bind, sat_ite, bind_ok, bind_bad, thn_nx, thn_rt, thn_bk, thn_ct, fin_rt, fin_nx, ev_v, ev_c, ev_op, ev_un, ev_nil, ev_cons, ev_tup, ev_lst, ev_call, ev_own, ev_sl, ev_no, ev_part, ev_and, ev_or, ev_not, ev_if, ev_t, ev_tb, ev_tnot, ev_tand, ev_tor, ev_mt, ev_mt0, ev_rgd, ev_set, ev_asg, ev_ret, ev_retN, ev_ex, ev_pass, ev_brk, ev_cont, ev_ifS, ev_aug, ev_gn, ev_gtp, ev_gnl, ev_gcs, ev_gsb, ev_for, ev_rg1, ev_rg2, ev_its, ev_enum, ev_lc, ev_yes, ev_add_ii, ev_add_ss, ev_add_tt, ev_add_rr, ev_sub, ev_mul, ev_mod, ev_fdiv, ev_pow, ev_neg, ev_lt, ev_le, ev_gt, ev_ge, ev_eq_ii, ev_eq_ss, ev_eq_bb, ev_ne_ii, ev_ne_ss, ev_ne_bb, ev_is_n, ev_isnt_n, ev_int_i, ev_int_b, ev_min_ii, ev_max_ii, ev_abs, ev_tup_of, ev_tup_ofL, ev_lst_ofT, ev_lst_ofL, ev_len_t, ev_len_s, ev_len_r, ev_tru_b, ev_alloc, ev_tupD, ev_lstD, isi_tuple_non, isi_tuple_bl, isi_tuple_int, isi_tuple_str, isi_tuple_tup, isi_tuple_l, isi_tuple_f, isi_list_non, isi_list_bl, isi_list_int, isi_list_str, isi_list_tup, isi_list_l, isi_list_f, isi_bool_non, isi_bool_bl, isi_bool_int, isi_bool_str, isi_bool_tup, isi_bool_l, isi_bool_f, isi_int_non, isi_int_bl, isi_int_int, isi_int_str, isi_int_tup, isi_int_l, isi_int_f, isi_str_non, isi_str_bl, isi_str_int, isi_str_str, isi_str_tup, isi_str_l, isi_str_f, isi_dict_non, isi_dict_bl, isi_dict_int, isi_dict_str, isi_dict_tup, isi_dict_l, isi_dict_f, Ab.isNon, args, List.map, List.length_cons, List.length_nil, List.length_singleton, List.replicate, Nat.reduceSub, Nat.reduceAdd, Nat.zero_add, List.cons_append, List.nil_append, List.getElem?_cons_zero, List.getElem?_cons_succ, List.set_cons_zero, List.set_cons_succ, Option.some.injEq, decide_eq_true_eq, Bool.not_eq_true', decide_eq_false_iff_not, ite_true, ite_false, if_true, if_false, reduceIte, Bool.false_eq_true, Bool.not_true, Bool.not_false, Bool.true_eq_false, decide_true, decide_false, Nat.reduceLeDiff, Nat.reduceLT]
  exact ⟨⟨_, rfl⟩, dr.trans (dr2.trans dr3)⟩
end Law

namespace Law
open PySem PySem.Spec PyProof.Rows L2 Ab
open scoped Classical
/-! ### close -/
theorem frozen_spec {A : AH} {r n : Nat} {f : Nat → Nat → Int} (x : Nat → Nat) (h : A[r]? = some (.lst ((List.range n).map fun i => .ref (x i)))) (hx : ∀ i, i < n → A[x i]? = some (.lst ((List.range n).map fun j => .int (f i j)))) (hn : n ≤ 1000) :
    Sat (m_frozen [.ref r] A) fun d A' => d = matD n f ∧ Gr A A' := by
  refine sat_body rfl ?_
  unfold p_frozen
  simp only [sat_ok, sat_bad, sat_bind, sat_ite, bind_ok, bind_bad, thn_nx, thn_rt, thn_bk, thn_ct, fin_rt, fin_nx, ev_v, ev_c, ev_op, ev_un, ev_nil, ev_cons, ev_tup, ev_lst, ev_call, ev_own, ev_sl, ev_no, ev_part, ev_and, ev_or, ev_not, ev_if, ev_t, ev_tb, ev_tnot, ev_tand, ev_tor, ev_mt, ev_mt0, ev_rgd, ev_set, ev_asg, ev_ret, ev_retN, ev_ex, ev_pass, ev_brk, ev_cont, ev_ifS, ev_aug, ev_gn, ev_gtp, ev_gnl, ev_gcs, ev_gsb, ev_for, ev_rg1, ev_rg2, ev_its, ev_enum, ev_lc, ev_yes, ev_add_ii, ev_add_ss, ev_add_tt, ev_add_rr, ev_sub, ev_mul, ev_mod, ev_fdiv, ev_pow, ev_neg, ev_lt, ev_le, ev_gt, ev_ge, ev_eq_ii, ev_eq_ss, ev_eq_bb, ev_ne_ii, ev_ne_ss, ev_ne_bb, ev_is_n, ev_isnt_n, ev_int_i, ev_int_b, ev_min_ii, ev_max_ii, ev_abs, ev_tup_of, ev_tup_ofL, ev_lst_ofT, ev_lst_ofL, ev_len_t, ev_len_s, ev_len_r, ev_tru_b, ev_alloc, ev_tupD, ev_lstD, isi_tuple_non, isi_tuple_bl, isi_tuple_int, isi_tuple_str, isi_tuple_tup, isi_tuple_l, isi_tuple_f, isi_list_non, isi_list_bl, isi_list_int, isi_list_str, isi_list_tup, isi_list_l, isi_list_f, isi_bool_non, isi_bool_bl, isi_bool_int, isi_bool_str, isi_bool_tup, isi_bool_l, isi_bool_f, isi_int_non, isi_int_bl, isi_int_int, isi_int_str, isi_int_tup, isi_int_l, isi_int_f, isi_str_non, isi_str_bl, isi_str_int, isi_str_str, isi_str_tup, isi_str_l, isi_str_f, isi_dict_non, isi_dict_bl, isi_dict_int, isi_dict_str, isi_dict_tup, isi_dict_l, isi_dict_f, Ab.isNon, args, List.map, List.length_cons, List.length_nil, List.length_singleton, List.replicate, Nat.reduceSub, Nat.reduceAdd, Nat.zero_add, List.cons_append, List.nil_append, List.getElem?_cons_zero, List.getElem?_cons_succ, List.set_cons_zero, List.set_cons_succ, Option.some.injEq, decide_eq_true_eq, Bool.not_eq_true', decide_eq_false_iff_not, ite_true, ite_false, if_true, if_false, reduceIte, Bool.false_eq_true, Bool.not_true, Bool.not_false, Bool.true_eq_false, decide_true, decide_false, Nat.reduceLeDiff, Nat.reduceLT, ev_iseq_l h, wipeA]
  have c : ((List.range n).map fun i => D.ref (x i)) = ((List.range n).filter fun i => decide (i < n)).map fun i => D.ref (x i) := by
    rw [List.filter_eq_self.mpr fun a ha => decide_eq_true (List.mem_range.mp ha)]
  refine comp_pure (fun i => D.ref (x i)) (fun i => rowD n (f i)) (fun l => rdL_l (Gr.app.keep _ _ h)) (fun i hi l => ?_) (by simp; omega) ?_
  · have hi := List.mem_range.mp hi
    simp only [sat_ok, sat_bad, sat_bind, sat_ite, bind_ok, bind_bad, thn_nx, thn_rt, thn_bk, thn_ct, fin_rt, fin_nx, ev_v, ev_c, ev_op, ev_un, ev_nil, ev_cons, ev_tup, ev_lst, ev_call, ev_own, ev_sl, ev_no, ev_part, ev_and, ev_or, ev_not, ev_if, ev_t, ev_tb, ev_tnot, ev_tand, ev_tor, ev_mt, ev_mt0, ev_rgd, ev_set, ev_asg, ev_ret, ev_retN, ev_ex, ev_pass, ev_brk, ev_cont, ev_ifS, ev_aug, ev_gn, ev_gtp, ev_gnl, ev_gcs, ev_gsb, ev_for, ev_rg1, ev_rg2, ev_its, ev_enum, ev_lc, ev_yes, ev_add_ii, ev_add_ss, ev_add_tt, ev_add_rr, ev_sub, ev_mul, ev_mod, ev_fdiv, ev_pow, ev_neg, ev_lt, ev_le, ev_gt, ev_ge, ev_eq_ii, ev_eq_ss, ev_eq_bb, ev_ne_ii, ev_ne_ss, ev_ne_bb, ev_is_n, ev_isnt_n, ev_int_i, ev_int_b, ev_min_ii, ev_max_ii, ev_abs, ev_tup_of, ev_tup_ofL, ev_lst_ofT, ev_lst_ofL, ev_len_t, ev_len_s, ev_len_r, ev_tru_b, ev_alloc, ev_tupD, ev_lstD, isi_tuple_non, isi_tuple_bl, isi_tuple_int, isi_tuple_str, isi_tuple_tup, isi_tuple_l, isi_tuple_f, isi_list_non, isi_list_bl, isi_list_int, isi_list_str, isi_list_tup, isi_list_l, isi_list_f, isi_bool_non, isi_bool_bl, isi_bool_int, isi_bool_str, isi_bool_tup, isi_bool_l, isi_bool_f, isi_int_non, isi_int_bl, isi_int_int, isi_int_str, isi_int_tup, isi_int_l, isi_int_f, isi_str_non, isi_str_bl, isi_str_int, isi_str_str, isi_str_tup, isi_str_l, isi_str_f, isi_dict_non, isi_dict_bl, isi_dict_int, isi_dict_str, isi_dict_tup, isi_dict_l, isi_dict_f, Ab.isNon, args, List.map, List.length_cons, List.length_nil, List.length_singleton, List.replicate, Nat.reduceSub, Nat.reduceAdd, Nat.zero_add, List.cons_append, List.nil_append, List.getElem?_cons_zero, List.getElem?_cons_succ, List.set_cons_zero, List.set_cons_succ, Option.some.injEq, decide_eq_true_eq, Bool.not_eq_true', decide_eq_false_iff_not, ite_true, ite_false, if_true, if_false, reduceIte, Bool.false_eq_true, Bool.not_true, Bool.not_false, Bool.true_eq_false, decide_true, decide_false, Nat.reduceLeDiff, Nat.reduceLT, ev_tup_ofL (rdL_l (Gr.app.keep _ _ (hx i hi)))]
    trivial
  · have at1 := at_new (A := A) (o := .lst ((List.range n).map fun i => rowD n (f i)))
    simp only [sat_ok, sat_bad, sat_bind, sat_ite, bind_ok, bind_bad, thn_nx, thn_rt, thn_bk, thn_ct, fin_rt, fin_nx, ev_v, ev_c, ev_op, ev_un, ev_nil, ev_cons, ev_tup, ev_lst, ev_call, ev_own, ev_sl, ev_no, ev_part, ev_and, ev_or, ev_not, ev_if, ev_t, ev_tb, ev_tnot, ev_tand, ev_tor, ev_mt, ev_mt0, ev_rgd, ev_set, ev_asg, ev_ret, ev_retN, ev_ex, ev_pass, ev_brk, ev_cont, ev_ifS, ev_aug, ev_gn, ev_gtp, ev_gnl, ev_gcs, ev_gsb, ev_for, ev_rg1, ev_rg2, ev_its, ev_enum, ev_lc, ev_yes, ev_add_ii, ev_add_ss, ev_add_tt, ev_add_rr, ev_sub, ev_mul, ev_mod, ev_fdiv, ev_pow, ev_neg, ev_lt, ev_le, ev_gt, ev_ge, ev_eq_ii, ev_eq_ss, ev_eq_bb, ev_ne_ii, ev_ne_ss, ev_ne_bb, ev_is_n, ev_isnt_n, ev_int_i, ev_int_b, ev_min_ii, ev_max_ii, ev_abs, ev_tup_of, ev_tup_ofL, ev_lst_ofT, ev_lst_ofL, ev_len_t, ev_len_s, ev_len_r, ev_tru_b, ev_alloc, ev_tupD, ev_lstD, isi_tuple_non, isi_tuple_bl, isi_tuple_int, isi_tuple_str, isi_tuple_tup, isi_tuple_l, isi_tuple_f, isi_list_non, isi_list_bl, isi_list_int, isi_list_str, isi_list_tup, isi_list_l, isi_list_f, isi_bool_non, isi_bool_bl, isi_bool_int, isi_bool_str, isi_bool_tup, isi_bool_l, isi_bool_f, isi_int_non, isi_int_bl, isi_int_int, isi_int_str, isi_int_tup, isi_int_l, isi_int_f, isi_str_non, isi_str_bl, isi_str_int, isi_str_str, isi_str_tup, isi_str_l, isi_str_f, isi_dict_non, isi_dict_bl, isi_dict_int, isi_dict_str, isi_dict_tup, isi_dict_l, isi_dict_f, Ab.isNon, args, List.map, List.length_cons, List.length_nil, List.length_singleton, List.replicate, Nat.reduceSub, Nat.reduceAdd, Nat.zero_add, List.cons_append, List.nil_append, List.getElem?_cons_zero, List.getElem?_cons_succ, List.set_cons_zero, List.set_cons_succ, Option.some.injEq, decide_eq_true_eq, Bool.not_eq_true', decide_eq_false_iff_not, ite_true, ite_false, if_true, if_false, reduceIte, Bool.false_eq_true, Bool.not_true, Bool.not_false, Bool.true_eq_false, decide_true, decide_false, Nat.reduceLeDiff, Nat.reduceLT, ev_tup_ofL (rdL_l at1)]
    exact ⟨rfl, .app⟩
/-- a table of lists: r the list of its rows, c i the i-th row -/
structure Mt (A0 A : AH) (r : Nat) (c : Nat → Nat) (m : Nat) (R : Mx) : Prop where
  gr : Gr A0 A
  rows : A[r]? = some (.lst ((List.range m).map fun i => .ref (c i)))
  row : ∀ i, i < m → A[c i]? = some (.lst ((List.range m).map fun j => .int (R i j)))
  inj : ∀ i j, i < m → j < m → c i = c j → i = j
  ne : ∀ i, i < m → c i ≠ r
  new : ∀ i, i < m → A0.length ≤ c i
theorem range_set {m j : Nat} {f : Nat → Int} {v : Int} : ((List.range m).map fun j => D.int (f j)).set j (.int v) = (List.range m).map fun k => D.int (if k = j then v else f k) := by
  apply List.ext_getElem (by simp)
  intro i h1 h2
  rw [List.getElem_set]
  simp only [List.getElem_map, List.getElem_range]
  by_cases e : j = i
  · subst e; simp
  · rw [if_neg e, if_neg (fun z => e z.symm)]
section
variable {A0 A B : AH} {r m : Nat} {c : Nat → Nat} {R : Mx}
theorem Mt.to (h : Mt A0 A r c m R) (g : Gr A B) : Mt A0 B r c m R := ⟨h.gr.trans g, g.keep _ _ h.rows, fun i hi => g.keep _ _ (h.row i hi), h.inj, h.ne, h.new⟩
theorem Mt.set (h : Mt A0 A r c m R) {i j : Nat} {v : Int} (hi : i < m) :
    Mt A0 (A.set (c i) (.lst (((List.range m).map fun j => D.int (R i j)).set j (.int v)))) r c m (fun a b => if a = i ∧ b = j then v else R a b) := by
  refine ⟨h.gr.set (h.new i hi), ?_, fun a ha => ?_, h.inj, h.ne, h.new⟩
  · rw [List.getElem?_set_ne (h.ne i hi)]; exact h.rows
  · by_cases e : a = i
    · subst e
      rw [at_set (at_lt (h.row a ha)), range_set]
      simp
    · rw [List.getElem?_set_ne (fun z => e (h.inj a i ha hi z.symm)), h.row a ha]
      simp [e]
theorem Mt.ext {S : Mx} (h : Mt A0 A r c m R) (e : ∀ i j, i < m → j < m → R i j = S i j) : Mt A0 A r c m S := ⟨h.gr, h.rows, fun i hi => by
  rw [h.row i hi]
  congr 2
  exact List.map_congr_left fun j hj => by rw [e i j hi (List.mem_range.mp hj)], h.inj, h.ne, h.new⟩
theorem Mt.len (h : Mt A0 A r c m R) : lenD [.ref r] A = .ok (.int (m : Nat)) A := (ev_len_r (rdL_l h.rows)).trans (by simp)
theorem Mt.ix (h : Mt A0 A r c m R) {i : Nat} (hi : i < m) : ixD (.ref r) (.int (i : Nat)) A = .ok (.ref (c i)) A := ev_ix_r (rdL_l h.rows) (by rw [atI_pos (by omega), Int.toNat_natCast, List.getElem?_map, List.getElem?_range hi]; rfl)
theorem ix_rowL {A : AH} {q m j : Nat} {f : Nat → Int} (h : A[q]? = some (.lst ((List.range m).map fun j => .int (f j)))) (hj : j < m) : ixD (.ref q) (.int (j : Nat)) A = .ok (.int (f j)) A := ev_ix_r (rdL_l h) (by rw [atI_pos (by omega), Int.toNat_natCast, List.getElem?_map, List.getElem?_range hj]; rfl)
theorem Mt.ix2 (h : Mt A0 A r c m R) {i j : Nat} (hi : i < m) (hj : j < m) : ixD (.ref (c i)) (.int (j : Nat)) A = .ok (.int (R i j)) A := ix_rowL (h.row i hi) hj
theorem Mt.st (h : Mt A0 A r c m R) {i j : Nat} {v : Int} (hi : i < m) (hj : j < m) : stD (.ref (c i)) (.int (j : Nat)) (.int v) A = .ok () (A.set (c i) (.lst (((List.range m).map fun j => D.int (R i j)).set j (.int v)))) :=
  ev_st_l (j := j) (h.row i hi) (by rw [ixN_pos (by omega) (by simp; omega)]; rfl)
theorem neg_spec (h : Mt A0 A r c m R) (hm : m ≤ 100) {b : Bool} (hb : b = true ↔ ∃ i, i < m ∧ R i i < 0) : m_has_negative [.ref r] A = .ok (.bl b) A := by
  have key : Sat (m_has_negative [.ref r] A) fun d A' => d = .bl b ∧ A' = A := by
    refine sat_body rfl (sat_seq ?_)
    simp only [sat_ok, sat_bad, sat_bind, sat_ite, bind_ok, bind_bad, thn_nx, thn_rt, thn_bk, thn_ct, fin_rt, fin_nx, ev_v, ev_c, ev_op, ev_un, ev_nil, ev_cons, ev_tup, ev_lst, ev_call, ev_own, ev_sl, ev_no, ev_part, ev_and, ev_or, ev_not, ev_if, ev_t, ev_tb, ev_tnot, ev_tand, ev_tor, ev_mt, ev_mt0, ev_rgd, ev_set, ev_asg, ev_ret, ev_retN, ev_ex, ev_pass, ev_brk, ev_cont, ev_ifS, ev_aug, ev_gn, ev_gtp, ev_gnl, ev_gcs, ev_gsb, ev_for, ev_rg1, ev_rg2, ev_its, ev_enum, ev_lc, ev_yes, ev_add_ii, ev_add_ss, ev_add_tt, ev_add_rr, ev_sub, ev_mul, ev_mod, ev_fdiv, ev_pow, ev_neg, ev_lt, ev_le, ev_gt, ev_ge, ev_eq_ii, ev_eq_ss, ev_eq_bb, ev_ne_ii, ev_ne_ss, ev_ne_bb, ev_is_n, ev_isnt_n, ev_int_i, ev_int_b, ev_min_ii, ev_max_ii, ev_abs, ev_tup_of, ev_tup_ofL, ev_lst_ofT, ev_lst_ofL, ev_len_t, ev_len_s, ev_len_r, ev_tru_b, ev_alloc, ev_tupD, ev_lstD, isi_tuple_non, isi_tuple_bl, isi_tuple_int, isi_tuple_str, isi_tuple_tup, isi_tuple_l, isi_tuple_f, isi_list_non, isi_list_bl, isi_list_int, isi_list_str, isi_list_tup, isi_list_l, isi_list_f, isi_bool_non, isi_bool_bl, isi_bool_int, isi_bool_str, isi_bool_tup, isi_bool_l, isi_bool_f, isi_int_non, isi_int_bl, isi_int_int, isi_int_str, isi_int_tup, isi_int_l, isi_int_f, isi_str_non, isi_str_bl, isi_str_int, isi_str_str, isi_str_tup, isi_str_l, isi_str_f, isi_dict_non, isi_dict_bl, isi_dict_int, isi_dict_str, isi_dict_tup, isi_dict_l, isi_dict_f, Ab.isNon, args, List.map, List.length_cons, List.length_nil, List.length_singleton, List.replicate, Nat.reduceSub, Nat.reduceAdd, Nat.zero_add, List.cons_append, List.nil_append, List.getElem?_cons_zero, List.getElem?_cons_succ, List.set_cons_zero, List.set_cons_succ, Option.some.injEq, decide_eq_true_eq, Bool.not_eq_true', decide_eq_false_iff_not, ite_true, ite_false, if_true, if_false, reduceIte, Bool.false_eq_true, Bool.not_true, Bool.not_false, Bool.true_eq_false, decide_true, decide_false, Nat.reduceLeDiff, Nat.reduceLT, h.len]
    rw [if_pos (inRg_of (by omega) (by omega)), Int.toNat_natCast]
    refine range_inv (fun k σ B => B = A ∧ (∀ i, i < k → 0 ≤ R i i) ∧ ∃ y, σ = [some (.ref r), y]) (fun k σ B hk ⟨hB, h1, y, hσ⟩ => ?_) (fun σ B ⟨hB, h1, y, hσ⟩ => ?_) ⟨rfl, fun _ h => absurd h (Nat.not_lt_zero _), none, rfl⟩
    · subst hB; subst hσ
      simp only [sat_ok, sat_bad, sat_bind, sat_ite, bind_ok, bind_bad, thn_nx, thn_rt, thn_bk, thn_ct, fin_rt, fin_nx, ev_v, ev_c, ev_op, ev_un, ev_nil, ev_cons, ev_tup, ev_lst, ev_call, ev_own, ev_sl, ev_no, ev_part, ev_and, ev_or, ev_not, ev_if, ev_t, ev_tb, ev_tnot, ev_tand, ev_tor, ev_mt, ev_mt0, ev_rgd, ev_set, ev_asg, ev_ret, ev_retN, ev_ex, ev_pass, ev_brk, ev_cont, ev_ifS, ev_aug, ev_gn, ev_gtp, ev_gnl, ev_gcs, ev_gsb, ev_for, ev_rg1, ev_rg2, ev_its, ev_enum, ev_lc, ev_yes, ev_add_ii, ev_add_ss, ev_add_tt, ev_add_rr, ev_sub, ev_mul, ev_mod, ev_fdiv, ev_pow, ev_neg, ev_lt, ev_le, ev_gt, ev_ge, ev_eq_ii, ev_eq_ss, ev_eq_bb, ev_ne_ii, ev_ne_ss, ev_ne_bb, ev_is_n, ev_isnt_n, ev_int_i, ev_int_b, ev_min_ii, ev_max_ii, ev_abs, ev_tup_of, ev_tup_ofL, ev_lst_ofT, ev_lst_ofL, ev_len_t, ev_len_s, ev_len_r, ev_tru_b, ev_alloc, ev_tupD, ev_lstD, isi_tuple_non, isi_tuple_bl, isi_tuple_int, isi_tuple_str, isi_tuple_tup, isi_tuple_l, isi_tuple_f, isi_list_non, isi_list_bl, isi_list_int, isi_list_str, isi_list_tup, isi_list_l, isi_list_f, isi_bool_non, isi_bool_bl, isi_bool_int, isi_bool_str, isi_bool_tup, isi_bool_l, isi_bool_f, isi_int_non, isi_int_bl, isi_int_int, isi_int_str, isi_int_tup, isi_int_l, isi_int_f, isi_str_non, isi_str_bl, isi_str_int, isi_str_str, isi_str_tup, isi_str_l, isi_str_f, isi_dict_non, isi_dict_bl, isi_dict_int, isi_dict_str, isi_dict_tup, isi_dict_l, isi_dict_f, Ab.isNon, args, List.map, List.length_cons, List.length_nil, List.length_singleton, List.replicate, Nat.reduceSub, Nat.reduceAdd, Nat.zero_add, List.cons_append, List.nil_append, List.getElem?_cons_zero, List.getElem?_cons_succ, List.set_cons_zero, List.set_cons_succ, Option.some.injEq, decide_eq_true_eq, Bool.not_eq_true', decide_eq_false_iff_not, ite_true, ite_false, if_true, if_false, reduceIte, Bool.false_eq_true, Bool.not_true, Bool.not_false, Bool.true_eq_false, decide_true, decide_false, Nat.reduceLeDiff, Nat.reduceLT, Int.zero_add, h.ix hk, h.ix2 hk hk]
      split
      · rename_i hn
        simp only [sat_ok, sat_bad, sat_bind, sat_ite, bind_ok, bind_bad, thn_nx, thn_rt, thn_bk, thn_ct, fin_rt, fin_nx, ev_v, ev_c, ev_op, ev_un, ev_nil, ev_cons, ev_tup, ev_lst, ev_call, ev_own, ev_sl, ev_no, ev_part, ev_and, ev_or, ev_not, ev_if, ev_t, ev_tb, ev_tnot, ev_tand, ev_tor, ev_mt, ev_mt0, ev_rgd, ev_set, ev_asg, ev_ret, ev_retN, ev_ex, ev_pass, ev_brk, ev_cont, ev_ifS, ev_aug, ev_gn, ev_gtp, ev_gnl, ev_gcs, ev_gsb, ev_for, ev_rg1, ev_rg2, ev_its, ev_enum, ev_lc, ev_yes, ev_add_ii, ev_add_ss, ev_add_tt, ev_add_rr, ev_sub, ev_mul, ev_mod, ev_fdiv, ev_pow, ev_neg, ev_lt, ev_le, ev_gt, ev_ge, ev_eq_ii, ev_eq_ss, ev_eq_bb, ev_ne_ii, ev_ne_ss, ev_ne_bb, ev_is_n, ev_isnt_n, ev_int_i, ev_int_b, ev_min_ii, ev_max_ii, ev_abs, ev_tup_of, ev_tup_ofL, ev_lst_ofT, ev_lst_ofL, ev_len_t, ev_len_s, ev_len_r, ev_tru_b, ev_alloc, ev_tupD, ev_lstD, isi_tuple_non, isi_tuple_bl, isi_tuple_int, isi_tuple_str, isi_tuple_tup, isi_tuple_l, isi_tuple_f, isi_list_non, isi_list_bl, isi_list_int, isi_list_str, isi_list_tup, isi_list_l, isi_list_f, isi_bool_non, isi_bool_bl, isi_bool_int, isi_bool_str, isi_bool_tup, isi_bool_l, isi_bool_f, isi_int_non, isi_int_bl, isi_int_int, isi_int_str, isi_int_tup, isi_int_l, isi_int_f, isi_str_non, isi_str_bl, isi_str_int, isi_str_str, isi_str_tup, isi_str_l, isi_str_f, isi_dict_non, isi_dict_bl, isi_dict_int, isi_dict_str, isi_dict_tup, isi_dict_l, isi_dict_f, Ab.isNon, args, List.map, List.length_cons, List.length_nil, List.length_singleton, List.replicate, Nat.reduceSub, Nat.reduceAdd, Nat.zero_add, List.cons_append, List.nil_append, List.getElem?_cons_zero, List.getElem?_cons_succ, List.set_cons_zero, List.set_cons_succ, Option.some.injEq, decide_eq_true_eq, Bool.not_eq_true', decide_eq_false_iff_not, ite_true, ite_false, if_true, if_false, reduceIte, Bool.false_eq_true, Bool.not_true, Bool.not_false, Bool.true_eq_false, decide_true, decide_false, Nat.reduceLeDiff, Nat.reduceLT, turn_]
        exact ⟨by rw [hb.mpr ⟨k, hk, hn⟩], trivial⟩
      · rename_i hn
        simp only [sat_ok, sat_bad, sat_bind, sat_ite, bind_ok, bind_bad, thn_nx, thn_rt, thn_bk, thn_ct, fin_rt, fin_nx, ev_v, ev_c, ev_op, ev_un, ev_nil, ev_cons, ev_tup, ev_lst, ev_call, ev_own, ev_sl, ev_no, ev_part, ev_and, ev_or, ev_not, ev_if, ev_t, ev_tb, ev_tnot, ev_tand, ev_tor, ev_mt, ev_mt0, ev_rgd, ev_set, ev_asg, ev_ret, ev_retN, ev_ex, ev_pass, ev_brk, ev_cont, ev_ifS, ev_aug, ev_gn, ev_gtp, ev_gnl, ev_gcs, ev_gsb, ev_for, ev_rg1, ev_rg2, ev_its, ev_enum, ev_lc, ev_yes, ev_add_ii, ev_add_ss, ev_add_tt, ev_add_rr, ev_sub, ev_mul, ev_mod, ev_fdiv, ev_pow, ev_neg, ev_lt, ev_le, ev_gt, ev_ge, ev_eq_ii, ev_eq_ss, ev_eq_bb, ev_ne_ii, ev_ne_ss, ev_ne_bb, ev_is_n, ev_isnt_n, ev_int_i, ev_int_b, ev_min_ii, ev_max_ii, ev_abs, ev_tup_of, ev_tup_ofL, ev_lst_ofT, ev_lst_ofL, ev_len_t, ev_len_s, ev_len_r, ev_tru_b, ev_alloc, ev_tupD, ev_lstD, isi_tuple_non, isi_tuple_bl, isi_tuple_int, isi_tuple_str, isi_tuple_tup, isi_tuple_l, isi_tuple_f, isi_list_non, isi_list_bl, isi_list_int, isi_list_str, isi_list_tup, isi_list_l, isi_list_f, isi_bool_non, isi_bool_bl, isi_bool_int, isi_bool_str, isi_bool_tup, isi_bool_l, isi_bool_f, isi_int_non, isi_int_bl, isi_int_int, isi_int_str, isi_int_tup, isi_int_l, isi_int_f, isi_str_non, isi_str_bl, isi_str_int, isi_str_str, isi_str_tup, isi_str_l, isi_str_f, isi_dict_non, isi_dict_bl, isi_dict_int, isi_dict_str, isi_dict_tup, isi_dict_l, isi_dict_f, Ab.isNon, args, List.map, List.length_cons, List.length_nil, List.length_singleton, List.replicate, Nat.reduceSub, Nat.reduceAdd, Nat.zero_add, List.cons_append, List.nil_append, List.getElem?_cons_zero, List.getElem?_cons_succ, List.set_cons_zero, List.set_cons_succ, Option.some.injEq, decide_eq_true_eq, Bool.not_eq_true', decide_eq_false_iff_not, ite_true, ite_false, if_true, if_false, reduceIte, Bool.false_eq_true, Bool.not_true, Bool.not_false, Bool.true_eq_false, decide_true, decide_false, Nat.reduceLeDiff, Nat.reduceLT, turn_]
        refine ⟨trivial, fun i hi => ?_, _, rfl⟩
        by_cases e : i = k
        · subst e; omega
        · exact h1 i (by omega)
    · subst hB; subst hσ
      simp only [sat_ok, sat_bad, sat_bind, sat_ite, bind_ok, bind_bad, thn_nx, thn_rt, thn_bk, thn_ct, fin_rt, fin_nx, ev_v, ev_c, ev_op, ev_un, ev_nil, ev_cons, ev_tup, ev_lst, ev_call, ev_own, ev_sl, ev_no, ev_part, ev_and, ev_or, ev_not, ev_if, ev_t, ev_tb, ev_tnot, ev_tand, ev_tor, ev_mt, ev_mt0, ev_rgd, ev_set, ev_asg, ev_ret, ev_retN, ev_ex, ev_pass, ev_brk, ev_cont, ev_ifS, ev_aug, ev_gn, ev_gtp, ev_gnl, ev_gcs, ev_gsb, ev_for, ev_rg1, ev_rg2, ev_its, ev_enum, ev_lc, ev_yes, ev_add_ii, ev_add_ss, ev_add_tt, ev_add_rr, ev_sub, ev_mul, ev_mod, ev_fdiv, ev_pow, ev_neg, ev_lt, ev_le, ev_gt, ev_ge, ev_eq_ii, ev_eq_ss, ev_eq_bb, ev_ne_ii, ev_ne_ss, ev_ne_bb, ev_is_n, ev_isnt_n, ev_int_i, ev_int_b, ev_min_ii, ev_max_ii, ev_abs, ev_tup_of, ev_tup_ofL, ev_lst_ofT, ev_lst_ofL, ev_len_t, ev_len_s, ev_len_r, ev_tru_b, ev_alloc, ev_tupD, ev_lstD, isi_tuple_non, isi_tuple_bl, isi_tuple_int, isi_tuple_str, isi_tuple_tup, isi_tuple_l, isi_tuple_f, isi_list_non, isi_list_bl, isi_list_int, isi_list_str, isi_list_tup, isi_list_l, isi_list_f, isi_bool_non, isi_bool_bl, isi_bool_int, isi_bool_str, isi_bool_tup, isi_bool_l, isi_bool_f, isi_int_non, isi_int_bl, isi_int_int, isi_int_str, isi_int_tup, isi_int_l, isi_int_f, isi_str_non, isi_str_bl, isi_str_int, isi_str_str, isi_str_tup, isi_str_l, isi_str_f, isi_dict_non, isi_dict_bl, isi_dict_int, isi_dict_str, isi_dict_tup, isi_dict_l, isi_dict_f, Ab.isNon, args, List.map, List.length_cons, List.length_nil, List.length_singleton, List.replicate, Nat.reduceSub, Nat.reduceAdd, Nat.zero_add, List.cons_append, List.nil_append, List.getElem?_cons_zero, List.getElem?_cons_succ, List.set_cons_zero, List.set_cons_succ, Option.some.injEq, decide_eq_true_eq, Bool.not_eq_true', decide_eq_false_iff_not, ite_true, ite_false, if_true, if_false, reduceIte, Bool.false_eq_true, Bool.not_true, Bool.not_false, Bool.true_eq_false, decide_true, decide_false, Nat.reduceLeDiff, Nat.reduceLT]
      refine ⟨?_, trivial⟩
      cases b with
      | false => rfl
      | true =>
        obtain ⟨i, hi, hn⟩ := hb.mp rfl
        have := h1 i hi
        omega
  obtain ⟨d, A', e, rfl, rfl⟩ := key.eq
  exact e
def part (k i j : Nat) (R : Mx) : Mx := fun a b => if a < i ∨ (a = i ∧ b < j) then via k R a b else R a b
theorem short_spec (h : Mt A0 A r c m R) (hm : m ≤ 100) {k : Nat} (hk : k < m) : Sat (m_shorten [.ref r, .int (k : Nat)] A) fun d A' => Mt A0 A' r c m (via k R) := by
  refine sat_body rfl (sat_seq ?_)
  simp only [sat_ok, sat_bad, sat_bind, sat_ite, bind_ok, bind_bad, thn_nx, thn_rt, thn_bk, thn_ct, fin_rt, fin_nx, ev_v, ev_c, ev_op, ev_un, ev_nil, ev_cons, ev_tup, ev_lst, ev_call, ev_own, ev_sl, ev_no, ev_part, ev_and, ev_or, ev_not, ev_if, ev_t, ev_tb, ev_tnot, ev_tand, ev_tor, ev_mt, ev_mt0, ev_rgd, ev_set, ev_asg, ev_ret, ev_retN, ev_ex, ev_pass, ev_brk, ev_cont, ev_ifS, ev_aug, ev_gn, ev_gtp, ev_gnl, ev_gcs, ev_gsb, ev_for, ev_rg1, ev_rg2, ev_its, ev_enum, ev_lc, ev_yes, ev_add_ii, ev_add_ss, ev_add_tt, ev_add_rr, ev_sub, ev_mul, ev_mod, ev_fdiv, ev_pow, ev_neg, ev_lt, ev_le, ev_gt, ev_ge, ev_eq_ii, ev_eq_ss, ev_eq_bb, ev_ne_ii, ev_ne_ss, ev_ne_bb, ev_is_n, ev_isnt_n, ev_int_i, ev_int_b, ev_min_ii, ev_max_ii, ev_abs, ev_tup_of, ev_tup_ofL, ev_lst_ofT, ev_lst_ofL, ev_len_t, ev_len_s, ev_len_r, ev_tru_b, ev_alloc, ev_tupD, ev_lstD, isi_tuple_non, isi_tuple_bl, isi_tuple_int, isi_tuple_str, isi_tuple_tup, isi_tuple_l, isi_tuple_f, isi_list_non, isi_list_bl, isi_list_int, isi_list_str, isi_list_tup, isi_list_l, isi_list_f, isi_bool_non, isi_bool_bl, isi_bool_int, isi_bool_str, isi_bool_tup, isi_bool_l, isi_bool_f, isi_int_non, isi_int_bl, isi_int_int, isi_int_str, isi_int_tup, isi_int_l, isi_int_f, isi_str_non, isi_str_bl, isi_str_int, isi_str_str, isi_str_tup, isi_str_l, isi_str_f, isi_dict_non, isi_dict_bl, isi_dict_int, isi_dict_str, isi_dict_tup, isi_dict_l, isi_dict_f, Ab.isNon, args, List.map, List.length_cons, List.length_nil, List.length_singleton, List.replicate, Nat.reduceSub, Nat.reduceAdd, Nat.zero_add, List.cons_append, List.nil_append, List.getElem?_cons_zero, List.getElem?_cons_succ, List.set_cons_zero, List.set_cons_succ, Option.some.injEq, decide_eq_true_eq, Bool.not_eq_true', decide_eq_false_iff_not, ite_true, ite_false, if_true, if_false, reduceIte, Bool.false_eq_true, Bool.not_true, Bool.not_false, Bool.true_eq_false, decide_true, decide_false, Nat.reduceLeDiff, Nat.reduceLT, h.len]
  refine sat_seq ?_
  have rk := h.row k hk
  simp only [sat_ok, sat_bad, sat_bind, sat_ite, bind_ok, bind_bad, thn_nx, thn_rt, thn_bk, thn_ct, fin_rt, fin_nx, ev_v, ev_c, ev_op, ev_un, ev_nil, ev_cons, ev_tup, ev_lst, ev_call, ev_own, ev_sl, ev_no, ev_part, ev_and, ev_or, ev_not, ev_if, ev_t, ev_tb, ev_tnot, ev_tand, ev_tor, ev_mt, ev_mt0, ev_rgd, ev_set, ev_asg, ev_ret, ev_retN, ev_ex, ev_pass, ev_brk, ev_cont, ev_ifS, ev_aug, ev_gn, ev_gtp, ev_gnl, ev_gcs, ev_gsb, ev_for, ev_rg1, ev_rg2, ev_its, ev_enum, ev_lc, ev_yes, ev_add_ii, ev_add_ss, ev_add_tt, ev_add_rr, ev_sub, ev_mul, ev_mod, ev_fdiv, ev_pow, ev_neg, ev_lt, ev_le, ev_gt, ev_ge, ev_eq_ii, ev_eq_ss, ev_eq_bb, ev_ne_ii, ev_ne_ss, ev_ne_bb, ev_is_n, ev_isnt_n, ev_int_i, ev_int_b, ev_min_ii, ev_max_ii, ev_abs, ev_tup_of, ev_tup_ofL, ev_lst_ofT, ev_lst_ofL, ev_len_t, ev_len_s, ev_len_r, ev_tru_b, ev_alloc, ev_tupD, ev_lstD, isi_tuple_non, isi_tuple_bl, isi_tuple_int, isi_tuple_str, isi_tuple_tup, isi_tuple_l, isi_tuple_f, isi_list_non, isi_list_bl, isi_list_int, isi_list_str, isi_list_tup, isi_list_l, isi_list_f, isi_bool_non, isi_bool_bl, isi_bool_int, isi_bool_str, isi_bool_tup, isi_bool_l, isi_bool_f, isi_int_non, isi_int_bl, isi_int_int, isi_int_str, isi_int_tup, isi_int_l, isi_int_f, isi_str_non, isi_str_bl, isi_str_int, isi_str_str, isi_str_tup, isi_str_l, isi_str_f, isi_dict_non, isi_dict_bl, isi_dict_int, isi_dict_str, isi_dict_tup, isi_dict_l, isi_dict_f, Ab.isNon, args, List.map, List.length_cons, List.length_nil, List.length_singleton, List.replicate, Nat.reduceSub, Nat.reduceAdd, Nat.zero_add, List.cons_append, List.nil_append, List.getElem?_cons_zero, List.getElem?_cons_succ, List.set_cons_zero, List.set_cons_succ, Option.some.injEq, decide_eq_true_eq, Bool.not_eq_true', decide_eq_false_iff_not, ite_true, ite_false, if_true, if_false, reduceIte, Bool.false_eq_true, Bool.not_true, Bool.not_false, Bool.true_eq_false, decide_true, decide_false, Nat.reduceLeDiff, Nat.reduceLT, h.ix hk]
  rw [ev_lst_ofL (rdL_l rk)]
  have hb := at_new (A := A) (o := .lst ((List.range m).map fun j => .int (R k j)))
  have nb : ∀ i, i < m → c i ≠ A.length := fun i hi => by have := at_lt (h.row i hi); omega
  have h := h.to (Gr.app (B := [.lst ((List.range m).map fun j => .int (R k j))]))
  generalize A ++ [AO.lst ((List.range m).map fun j => .int (R k j))] = A1 at h hb ⊢
  generalize A.length = q at hb nb ⊢
  simp only [sat_ok, sat_bad, sat_bind, sat_ite, bind_ok, bind_bad, thn_nx, thn_rt, thn_bk, thn_ct, fin_rt, fin_nx, ev_v, ev_c, ev_op, ev_un, ev_nil, ev_cons, ev_tup, ev_lst, ev_call, ev_own, ev_sl, ev_no, ev_part, ev_and, ev_or, ev_not, ev_if, ev_t, ev_tb, ev_tnot, ev_tand, ev_tor, ev_mt, ev_mt0, ev_rgd, ev_set, ev_asg, ev_ret, ev_retN, ev_ex, ev_pass, ev_brk, ev_cont, ev_ifS, ev_aug, ev_gn, ev_gtp, ev_gnl, ev_gcs, ev_gsb, ev_for, ev_rg1, ev_rg2, ev_its, ev_enum, ev_lc, ev_yes, ev_add_ii, ev_add_ss, ev_add_tt, ev_add_rr, ev_sub, ev_mul, ev_mod, ev_fdiv, ev_pow, ev_neg, ev_lt, ev_le, ev_gt, ev_ge, ev_eq_ii, ev_eq_ss, ev_eq_bb, ev_ne_ii, ev_ne_ss, ev_ne_bb, ev_is_n, ev_isnt_n, ev_int_i, ev_int_b, ev_min_ii, ev_max_ii, ev_abs, ev_tup_of, ev_tup_ofL, ev_lst_ofT, ev_lst_ofL, ev_len_t, ev_len_s, ev_len_r, ev_tru_b, ev_alloc, ev_tupD, ev_lstD, isi_tuple_non, isi_tuple_bl, isi_tuple_int, isi_tuple_str, isi_tuple_tup, isi_tuple_l, isi_tuple_f, isi_list_non, isi_list_bl, isi_list_int, isi_list_str, isi_list_tup, isi_list_l, isi_list_f, isi_bool_non, isi_bool_bl, isi_bool_int, isi_bool_str, isi_bool_tup, isi_bool_l, isi_bool_f, isi_int_non, isi_int_bl, isi_int_int, isi_int_str, isi_int_tup, isi_int_l, isi_int_f, isi_str_non, isi_str_bl, isi_str_int, isi_str_str, isi_str_tup, isi_str_l, isi_str_f, isi_dict_non, isi_dict_bl, isi_dict_int, isi_dict_str, isi_dict_tup, isi_dict_l, isi_dict_f, Ab.isNon, args, List.map, List.length_cons, List.length_nil, List.length_singleton, List.replicate, Nat.reduceSub, Nat.reduceAdd, Nat.zero_add, List.cons_append, List.nil_append, List.getElem?_cons_zero, List.getElem?_cons_succ, List.set_cons_zero, List.set_cons_succ, Option.some.injEq, decide_eq_true_eq, Bool.not_eq_true', decide_eq_false_iff_not, ite_true, ite_false, if_true, if_false, reduceIte, Bool.false_eq_true, Bool.not_true, Bool.not_false, Bool.true_eq_false, decide_true, decide_false, Nat.reduceLeDiff, Nat.reduceLT]
  rw [if_pos (inRg_of (by omega) (by omega)), Int.toNat_natCast]
  have upto : Mt A0 A1 r c m (fun a b => if a < 0 then via k R a b else R a b) := h.ext fun i j _ _ => by simp
  refine range_inv (fun i σ B => Mt A0 B r c m (fun a b => if a < i then via k R a b else R a b) ∧ B[q]? = some (.lst ((List.range m).map fun j => .int (R k j))) ∧ ∃ x y z, σ = [some (.ref r), some (.int (k : Nat)), some (.int (m : Nat)), some (.ref q), x, y, z, none] ∨ ∃ w, σ = [some (.ref r), some (.int (k : Nat)), some (.int (m : Nat)), some (.ref q), x, y, z, w])
    (fun i σ B hi ⟨hB, hq, x, y, z, hσ⟩ => ?_) (fun σ B ⟨hB, hq, x, y, z, hσ⟩ => ?_) ⟨upto, hb, none, none, none, .inl rfl⟩
  · obtain ⟨w, hσ⟩ : ∃ w, σ = [some (.ref r), some (.int (k : Nat)), some (.int (m : Nat)), some (.ref q), x, y, z, w] := by
      rcases hσ with h | ⟨w, h⟩
      · exact ⟨none, h⟩
      · exact ⟨w, h⟩
    subst hσ
    simp only [sat_ok, sat_bad, sat_bind, sat_ite, bind_ok, bind_bad, thn_nx, thn_rt, thn_bk, thn_ct, fin_rt, fin_nx, ev_v, ev_c, ev_op, ev_un, ev_nil, ev_cons, ev_tup, ev_lst, ev_call, ev_own, ev_sl, ev_no, ev_part, ev_and, ev_or, ev_not, ev_if, ev_t, ev_tb, ev_tnot, ev_tand, ev_tor, ev_mt, ev_mt0, ev_rgd, ev_set, ev_asg, ev_ret, ev_retN, ev_ex, ev_pass, ev_brk, ev_cont, ev_ifS, ev_aug, ev_gn, ev_gtp, ev_gnl, ev_gcs, ev_gsb, ev_for, ev_rg1, ev_rg2, ev_its, ev_enum, ev_lc, ev_yes, ev_add_ii, ev_add_ss, ev_add_tt, ev_add_rr, ev_sub, ev_mul, ev_mod, ev_fdiv, ev_pow, ev_neg, ev_lt, ev_le, ev_gt, ev_ge, ev_eq_ii, ev_eq_ss, ev_eq_bb, ev_ne_ii, ev_ne_ss, ev_ne_bb, ev_is_n, ev_isnt_n, ev_int_i, ev_int_b, ev_min_ii, ev_max_ii, ev_abs, ev_tup_of, ev_tup_ofL, ev_lst_ofT, ev_lst_ofL, ev_len_t, ev_len_s, ev_len_r, ev_tru_b, ev_alloc, ev_tupD, ev_lstD, isi_tuple_non, isi_tuple_bl, isi_tuple_int, isi_tuple_str, isi_tuple_tup, isi_tuple_l, isi_tuple_f, isi_list_non, isi_list_bl, isi_list_int, isi_list_str, isi_list_tup, isi_list_l, isi_list_f, isi_bool_non, isi_bool_bl, isi_bool_int, isi_bool_str, isi_bool_tup, isi_bool_l, isi_bool_f, isi_int_non, isi_int_bl, isi_int_int, isi_int_str, isi_int_tup, isi_int_l, isi_int_f, isi_str_non, isi_str_bl, isi_str_int, isi_str_str, isi_str_tup, isi_str_l, isi_str_f, isi_dict_non, isi_dict_bl, isi_dict_int, isi_dict_str, isi_dict_tup, isi_dict_l, isi_dict_f, Ab.isNon, args, List.map, List.length_cons, List.length_nil, List.length_singleton, List.replicate, Nat.reduceSub, Nat.reduceAdd, Nat.zero_add, List.cons_append, List.nil_append, List.getElem?_cons_zero, List.getElem?_cons_succ, List.set_cons_zero, List.set_cons_succ, Option.some.injEq, decide_eq_true_eq, Bool.not_eq_true', decide_eq_false_iff_not, ite_true, ite_false, if_true, if_false, reduceIte, Bool.false_eq_true, Bool.not_true, Bool.not_false, Bool.true_eq_false, decide_true, decide_false, Nat.reduceLeDiff, Nat.reduceLT, Int.zero_add]
    refine sat_seq ?_
    simp only [sat_ok, sat_bad, sat_bind, sat_ite, bind_ok, bind_bad, thn_nx, thn_rt, thn_bk, thn_ct, fin_rt, fin_nx, ev_v, ev_c, ev_op, ev_un, ev_nil, ev_cons, ev_tup, ev_lst, ev_call, ev_own, ev_sl, ev_no, ev_part, ev_and, ev_or, ev_not, ev_if, ev_t, ev_tb, ev_tnot, ev_tand, ev_tor, ev_mt, ev_mt0, ev_rgd, ev_set, ev_asg, ev_ret, ev_retN, ev_ex, ev_pass, ev_brk, ev_cont, ev_ifS, ev_aug, ev_gn, ev_gtp, ev_gnl, ev_gcs, ev_gsb, ev_for, ev_rg1, ev_rg2, ev_its, ev_enum, ev_lc, ev_yes, ev_add_ii, ev_add_ss, ev_add_tt, ev_add_rr, ev_sub, ev_mul, ev_mod, ev_fdiv, ev_pow, ev_neg, ev_lt, ev_le, ev_gt, ev_ge, ev_eq_ii, ev_eq_ss, ev_eq_bb, ev_ne_ii, ev_ne_ss, ev_ne_bb, ev_is_n, ev_isnt_n, ev_int_i, ev_int_b, ev_min_ii, ev_max_ii, ev_abs, ev_tup_of, ev_tup_ofL, ev_lst_ofT, ev_lst_ofL, ev_len_t, ev_len_s, ev_len_r, ev_tru_b, ev_alloc, ev_tupD, ev_lstD, isi_tuple_non, isi_tuple_bl, isi_tuple_int, isi_tuple_str, isi_tuple_tup, isi_tuple_l, isi_tuple_f, isi_list_non, isi_list_bl, isi_list_int, isi_list_str, isi_list_tup, isi_list_l, isi_list_f, isi_bool_non, isi_bool_bl, isi_bool_int, isi_bool_str, isi_bool_tup, isi_bool_l, isi_bool_f, isi_int_non, isi_int_bl, isi_int_int, isi_int_str, isi_int_tup, isi_int_l, isi_int_f, isi_str_non, isi_str_bl, isi_str_int, isi_str_str, isi_str_tup, isi_str_l, isi_str_f, isi_dict_non, isi_dict_bl, isi_dict_int, isi_dict_str, isi_dict_tup, isi_dict_l, isi_dict_f, Ab.isNon, args, List.map, List.length_cons, List.length_nil, List.length_singleton, List.replicate, Nat.reduceSub, Nat.reduceAdd, Nat.zero_add, List.cons_append, List.nil_append, List.getElem?_cons_zero, List.getElem?_cons_succ, List.set_cons_zero, List.set_cons_succ, Option.some.injEq, decide_eq_true_eq, Bool.not_eq_true', decide_eq_false_iff_not, ite_true, ite_false, if_true, if_false, reduceIte, Bool.false_eq_true, Bool.not_true, Bool.not_false, Bool.true_eq_false, decide_true, decide_false, Nat.reduceLeDiff, Nat.reduceLT, hB.ix hi]
    refine sat_seq ?_
    have e1 := hB.ix2 hi hk
    rw [if_neg (Nat.lt_irrefl i)] at e1
    simp only [sat_ok, sat_bad, sat_bind, sat_ite, bind_ok, bind_bad, thn_nx, thn_rt, thn_bk, thn_ct, fin_rt, fin_nx, ev_v, ev_c, ev_op, ev_un, ev_nil, ev_cons, ev_tup, ev_lst, ev_call, ev_own, ev_sl, ev_no, ev_part, ev_and, ev_or, ev_not, ev_if, ev_t, ev_tb, ev_tnot, ev_tand, ev_tor, ev_mt, ev_mt0, ev_rgd, ev_set, ev_asg, ev_ret, ev_retN, ev_ex, ev_pass, ev_brk, ev_cont, ev_ifS, ev_aug, ev_gn, ev_gtp, ev_gnl, ev_gcs, ev_gsb, ev_for, ev_rg1, ev_rg2, ev_its, ev_enum, ev_lc, ev_yes, ev_add_ii, ev_add_ss, ev_add_tt, ev_add_rr, ev_sub, ev_mul, ev_mod, ev_fdiv, ev_pow, ev_neg, ev_lt, ev_le, ev_gt, ev_ge, ev_eq_ii, ev_eq_ss, ev_eq_bb, ev_ne_ii, ev_ne_ss, ev_ne_bb, ev_is_n, ev_isnt_n, ev_int_i, ev_int_b, ev_min_ii, ev_max_ii, ev_abs, ev_tup_of, ev_tup_ofL, ev_lst_ofT, ev_lst_ofL, ev_len_t, ev_len_s, ev_len_r, ev_tru_b, ev_alloc, ev_tupD, ev_lstD, isi_tuple_non, isi_tuple_bl, isi_tuple_int, isi_tuple_str, isi_tuple_tup, isi_tuple_l, isi_tuple_f, isi_list_non, isi_list_bl, isi_list_int, isi_list_str, isi_list_tup, isi_list_l, isi_list_f, isi_bool_non, isi_bool_bl, isi_bool_int, isi_bool_str, isi_bool_tup, isi_bool_l, isi_bool_f, isi_int_non, isi_int_bl, isi_int_int, isi_int_str, isi_int_tup, isi_int_l, isi_int_f, isi_str_non, isi_str_bl, isi_str_int, isi_str_str, isi_str_tup, isi_str_l, isi_str_f, isi_dict_non, isi_dict_bl, isi_dict_int, isi_dict_str, isi_dict_tup, isi_dict_l, isi_dict_f, Ab.isNon, args, List.map, List.length_cons, List.length_nil, List.length_singleton, List.replicate, Nat.reduceSub, Nat.reduceAdd, Nat.zero_add, List.cons_append, List.nil_append, List.getElem?_cons_zero, List.getElem?_cons_succ, List.set_cons_zero, List.set_cons_succ, Option.some.injEq, decide_eq_true_eq, Bool.not_eq_true', decide_eq_false_iff_not, ite_true, ite_false, if_true, if_false, reduceIte, Bool.false_eq_true, Bool.not_true, Bool.not_false, Bool.true_eq_false, decide_true, decide_false, Nat.reduceLeDiff, Nat.reduceLT, e1]
    rw [if_pos (inRg_of (by omega) (by omega)), Int.toNat_natCast]
    refine range_inv (fun j σ C => Mt A0 C r c m (part k i j R) ∧ C[q]? = some (.lst ((List.range m).map fun j => .int (R k j))) ∧ ∃ w, σ = [some (.ref r), some (.int (k : Nat)), some (.int (m : Nat)), some (.ref q), some (.int (i : Nat)), some (.ref (c i)), some (.int (R i k)), w])
      (fun j σ C hj ⟨hC, hq, w, hσ⟩ => ?_) (fun σ C ⟨hC, hq, w, hσ⟩ => ?_) ⟨hB.ext fun a b _ _ => by unfold part; simp, hq, w, rfl⟩
    · subst hσ
      have e2 := hC.ix2 hi hj
      rw [show part k i j R i j = R i j from if_neg (by omega)] at e2
      have e3 := ix_rowL hq hj
      simp only [sat_ok, sat_bad, sat_bind, sat_ite, bind_ok, bind_bad, thn_nx, thn_rt, thn_bk, thn_ct, fin_rt, fin_nx, ev_v, ev_c, ev_op, ev_un, ev_nil, ev_cons, ev_tup, ev_lst, ev_call, ev_own, ev_sl, ev_no, ev_part, ev_and, ev_or, ev_not, ev_if, ev_t, ev_tb, ev_tnot, ev_tand, ev_tor, ev_mt, ev_mt0, ev_rgd, ev_set, ev_asg, ev_ret, ev_retN, ev_ex, ev_pass, ev_brk, ev_cont, ev_ifS, ev_aug, ev_gn, ev_gtp, ev_gnl, ev_gcs, ev_gsb, ev_for, ev_rg1, ev_rg2, ev_its, ev_enum, ev_lc, ev_yes, ev_add_ii, ev_add_ss, ev_add_tt, ev_add_rr, ev_sub, ev_mul, ev_mod, ev_fdiv, ev_pow, ev_neg, ev_lt, ev_le, ev_gt, ev_ge, ev_eq_ii, ev_eq_ss, ev_eq_bb, ev_ne_ii, ev_ne_ss, ev_ne_bb, ev_is_n, ev_isnt_n, ev_int_i, ev_int_b, ev_min_ii, ev_max_ii, ev_abs, ev_tup_of, ev_tup_ofL, ev_lst_ofT, ev_lst_ofL, ev_len_t, ev_len_s, ev_len_r, ev_tru_b, ev_alloc, ev_tupD, ev_lstD, isi_tuple_non, isi_tuple_bl, isi_tuple_int, isi_tuple_str, isi_tuple_tup, isi_tuple_l, isi_tuple_f, isi_list_non, isi_list_bl, isi_list_int, isi_list_str, isi_list_tup, isi_list_l, isi_list_f, isi_bool_non, isi_bool_bl, isi_bool_int, isi_bool_str, isi_bool_tup, isi_bool_l, isi_bool_f, isi_int_non, isi_int_bl, isi_int_int, isi_int_str, isi_int_tup, isi_int_l, isi_int_f, isi_str_non, isi_str_bl, isi_str_int, isi_str_str, isi_str_tup, isi_str_l, isi_str_f, isi_dict_non, isi_dict_bl, isi_dict_int, isi_dict_str, isi_dict_tup, isi_dict_l, isi_dict_f, Ab.isNon, args, List.map, List.length_cons, List.length_nil, List.length_singleton, List.replicate, Nat.reduceSub, Nat.reduceAdd, Nat.zero_add, List.cons_append, List.nil_append, List.getElem?_cons_zero, List.getElem?_cons_succ, List.set_cons_zero, List.set_cons_succ, Option.some.injEq, decide_eq_true_eq, Bool.not_eq_true', decide_eq_false_iff_not, ite_true, ite_false, if_true, if_false, reduceIte, Bool.false_eq_true, Bool.not_true, Bool.not_false, Bool.true_eq_false, decide_true, decide_false, Nat.reduceLeDiff, Nat.reduceLT, Int.zero_add, e2, e3]
      split
      · rename_i lt
        rw [hC.st hi hj]
        simp only [sat_ok, sat_bad, sat_bind, sat_ite, bind_ok, bind_bad, thn_nx, thn_rt, thn_bk, thn_ct, fin_rt, fin_nx, ev_v, ev_c, ev_op, ev_un, ev_nil, ev_cons, ev_tup, ev_lst, ev_call, ev_own, ev_sl, ev_no, ev_part, ev_and, ev_or, ev_not, ev_if, ev_t, ev_tb, ev_tnot, ev_tand, ev_tor, ev_mt, ev_mt0, ev_rgd, ev_set, ev_asg, ev_ret, ev_retN, ev_ex, ev_pass, ev_brk, ev_cont, ev_ifS, ev_aug, ev_gn, ev_gtp, ev_gnl, ev_gcs, ev_gsb, ev_for, ev_rg1, ev_rg2, ev_its, ev_enum, ev_lc, ev_yes, ev_add_ii, ev_add_ss, ev_add_tt, ev_add_rr, ev_sub, ev_mul, ev_mod, ev_fdiv, ev_pow, ev_neg, ev_lt, ev_le, ev_gt, ev_ge, ev_eq_ii, ev_eq_ss, ev_eq_bb, ev_ne_ii, ev_ne_ss, ev_ne_bb, ev_is_n, ev_isnt_n, ev_int_i, ev_int_b, ev_min_ii, ev_max_ii, ev_abs, ev_tup_of, ev_tup_ofL, ev_lst_ofT, ev_lst_ofL, ev_len_t, ev_len_s, ev_len_r, ev_tru_b, ev_alloc, ev_tupD, ev_lstD, isi_tuple_non, isi_tuple_bl, isi_tuple_int, isi_tuple_str, isi_tuple_tup, isi_tuple_l, isi_tuple_f, isi_list_non, isi_list_bl, isi_list_int, isi_list_str, isi_list_tup, isi_list_l, isi_list_f, isi_bool_non, isi_bool_bl, isi_bool_int, isi_bool_str, isi_bool_tup, isi_bool_l, isi_bool_f, isi_int_non, isi_int_bl, isi_int_int, isi_int_str, isi_int_tup, isi_int_l, isi_int_f, isi_str_non, isi_str_bl, isi_str_int, isi_str_str, isi_str_tup, isi_str_l, isi_str_f, isi_dict_non, isi_dict_bl, isi_dict_int, isi_dict_str, isi_dict_tup, isi_dict_l, isi_dict_f, Ab.isNon, args, List.map, List.length_cons, List.length_nil, List.length_singleton, List.replicate, Nat.reduceSub, Nat.reduceAdd, Nat.zero_add, List.cons_append, List.nil_append, List.getElem?_cons_zero, List.getElem?_cons_succ, List.set_cons_zero, List.set_cons_succ, Option.some.injEq, decide_eq_true_eq, Bool.not_eq_true', decide_eq_false_iff_not, ite_true, ite_false, if_true, if_false, reduceIte, Bool.false_eq_true, Bool.not_true, Bool.not_false, Bool.true_eq_false, decide_true, decide_false, Nat.reduceLeDiff, Nat.reduceLT, turn_]
        refine ⟨hC.set hi |>.ext fun a b ha hb => ?_, ?_, _, rfl⟩
        · unfold part
          by_cases e : a = i ∧ b = j
          · obtain ⟨rfl, rfl⟩ := e
            rw [if_pos ⟨rfl, rfl⟩, if_pos (.inr ⟨rfl, Nat.lt_succ_self _⟩)]
            unfold via
            rw [if_pos lt]
          · rw [if_neg e]
            by_cases e2 : a < i ∨ (a = i ∧ b < j)
            · rw [if_pos e2, if_pos (by omega)]
            · rw [if_neg e2, if_neg (by omega)]
        · rw [List.getElem?_set_ne (nb i hi)]; exact hq
      · rename_i lt
        simp only [sat_ok, sat_bad, sat_bind, sat_ite, bind_ok, bind_bad, thn_nx, thn_rt, thn_bk, thn_ct, fin_rt, fin_nx, ev_v, ev_c, ev_op, ev_un, ev_nil, ev_cons, ev_tup, ev_lst, ev_call, ev_own, ev_sl, ev_no, ev_part, ev_and, ev_or, ev_not, ev_if, ev_t, ev_tb, ev_tnot, ev_tand, ev_tor, ev_mt, ev_mt0, ev_rgd, ev_set, ev_asg, ev_ret, ev_retN, ev_ex, ev_pass, ev_brk, ev_cont, ev_ifS, ev_aug, ev_gn, ev_gtp, ev_gnl, ev_gcs, ev_gsb, ev_for, ev_rg1, ev_rg2, ev_its, ev_enum, ev_lc, ev_yes, ev_add_ii, ev_add_ss, ev_add_tt, ev_add_rr, ev_sub, ev_mul, ev_mod, ev_fdiv, ev_pow, ev_neg, ev_lt, ev_le, ev_gt, ev_ge, ev_eq_ii, ev_eq_ss, ev_eq_bb, ev_ne_ii, ev_ne_ss, ev_ne_bb, ev_is_n, ev_isnt_n, ev_int_i, ev_int_b, ev_min_ii, ev_max_ii, ev_abs, ev_tup_of, ev_tup_ofL, ev_lst_ofT, ev_lst_ofL, ev_len_t, ev_len_s, ev_len_r, ev_tru_b, ev_alloc, ev_tupD, ev_lstD, isi_tuple_non, isi_tuple_bl, isi_tuple_int, isi_tuple_str, isi_tuple_tup, isi_tuple_l, isi_tuple_f, isi_list_non, isi_list_bl, isi_list_int, isi_list_str, isi_list_tup, isi_list_l, isi_list_f, isi_bool_non, isi_bool_bl, isi_bool_int, isi_bool_str, isi_bool_tup, isi_bool_l, isi_bool_f, isi_int_non, isi_int_bl, isi_int_int, isi_int_str, isi_int_tup, isi_int_l, isi_int_f, isi_str_non, isi_str_bl, isi_str_int, isi_str_str, isi_str_tup, isi_str_l, isi_str_f, isi_dict_non, isi_dict_bl, isi_dict_int, isi_dict_str, isi_dict_tup, isi_dict_l, isi_dict_f, Ab.isNon, args, List.map, List.length_cons, List.length_nil, List.length_singleton, List.replicate, Nat.reduceSub, Nat.reduceAdd, Nat.zero_add, List.cons_append, List.nil_append, List.getElem?_cons_zero, List.getElem?_cons_succ, List.set_cons_zero, List.set_cons_succ, Option.some.injEq, decide_eq_true_eq, Bool.not_eq_true', decide_eq_false_iff_not, ite_true, ite_false, if_true, if_false, reduceIte, Bool.false_eq_true, Bool.not_true, Bool.not_false, Bool.true_eq_false, decide_true, decide_false, Nat.reduceLeDiff, Nat.reduceLT, turn_]
        refine ⟨hC.ext fun a b ha hb => ?_, hq, _, rfl⟩
        unfold part
        by_cases e : a = i ∧ b = j
        · obtain ⟨rfl, rfl⟩ := e
          rw [if_neg (by omega), if_pos (.inr ⟨rfl, Nat.lt_succ_self _⟩)]
          unfold via
          rw [if_neg lt]
        · by_cases e2 : a < i ∨ (a = i ∧ b < j)
          · rw [if_pos e2, if_pos (by omega)]
          · rw [if_neg e2, if_neg (by omega)]
    · subst hσ
      simp only [sat_ok, sat_bad, sat_bind, sat_ite, bind_ok, bind_bad, thn_nx, thn_rt, thn_bk, thn_ct, fin_rt, fin_nx, ev_v, ev_c, ev_op, ev_un, ev_nil, ev_cons, ev_tup, ev_lst, ev_call, ev_own, ev_sl, ev_no, ev_part, ev_and, ev_or, ev_not, ev_if, ev_t, ev_tb, ev_tnot, ev_tand, ev_tor, ev_mt, ev_mt0, ev_rgd, ev_set, ev_asg, ev_ret, ev_retN, ev_ex, ev_pass, ev_brk, ev_cont, ev_ifS, ev_aug, ev_gn, ev_gtp, ev_gnl, ev_gcs, ev_gsb, ev_for, ev_rg1, ev_rg2, ev_its, ev_enum, ev_lc, ev_yes, ev_add_ii, ev_add_ss, ev_add_tt, ev_add_rr, ev_sub, ev_mul, ev_mod, ev_fdiv, ev_pow, ev_neg, ev_lt, ev_le, ev_gt, ev_ge, ev_eq_ii, ev_eq_ss, ev_eq_bb, ev_ne_ii, ev_ne_ss, ev_ne_bb, ev_is_n, ev_isnt_n, ev_int_i, ev_int_b, ev_min_ii, ev_max_ii, ev_abs, ev_tup_of, ev_tup_ofL, ev_lst_ofT, ev_lst_ofL, ev_len_t, ev_len_s, ev_len_r, ev_tru_b, ev_alloc, ev_tupD, ev_lstD, isi_tuple_non, isi_tuple_bl, isi_tuple_int, isi_tuple_str, isi_tuple_tup, isi_tuple_l, isi_tuple_f, isi_list_non, isi_list_bl, isi_list_int, isi_list_str, isi_list_tup, isi_list_l, isi_list_f, isi_bool_non, isi_bool_bl, isi_bool_int, isi_bool_str, isi_bool_tup, isi_bool_l, isi_bool_f, isi_int_non, isi_int_bl, isi_int_int, isi_int_str, isi_int_tup, isi_int_l, isi_int_f, isi_str_non, isi_str_bl, isi_str_int, isi_str_str, isi_str_tup, isi_str_l, isi_str_f, isi_dict_non, isi_dict_bl, isi_dict_int, isi_dict_str, isi_dict_tup, isi_dict_l, isi_dict_f, Ab.isNon, args, List.map, List.length_cons, List.length_nil, List.length_singleton, List.replicate, Nat.reduceSub, Nat.reduceAdd, Nat.zero_add, List.cons_append, List.nil_append, List.getElem?_cons_zero, List.getElem?_cons_succ, List.set_cons_zero, List.set_cons_succ, Option.some.injEq, decide_eq_true_eq, Bool.not_eq_true', decide_eq_false_iff_not, ite_true, ite_false, if_true, if_false, reduceIte, Bool.false_eq_true, Bool.not_true, Bool.not_false, Bool.true_eq_false, decide_true, decide_false, Nat.reduceLeDiff, Nat.reduceLT, turn_]
      refine ⟨hC.ext fun a b ha hb => ?_, hq, _, _, _, .inr ⟨_, rfl⟩⟩
      unfold part
      by_cases e : a < i + 1
      · rw [if_pos e, if_pos (by omega)]
      · rw [if_neg e, if_neg (by omega)]
  · have f : Mt A0 B r c m (via k R) := hB.ext fun a b ha hb => if_pos ha
    rcases hσ with h | ⟨w, h⟩
    · subst h; exact f
    · subst h; exact f
end
/-! ### the whole of close -/
def outD (m : Nat) : Option Mx → D
  | none => .non
  | some R => matD m R
theorem mat_congr {m : Nat} {R S : Mx} (e : ∀ i j, i < m → j < m → R i j = S i j) : matD m R = matD m S := by
  unfold matD rowD
  congr 1
  refine List.map_congr_left fun i hi => ?_
  congr 1
  exact List.map_congr_left fun j hj => by rw [e i j (List.mem_range.mp hi) (List.mem_range.mp hj)]
theorem closes_same {m : Nat} {M : Mx} {o o' : Option Mx} (h0 : 0 < m) (h : Closes m M o) (h' : Closes m M o') : outD m o = outD m o' := by
  cases o with
  | none =>
    cases o' with
    | none => rfl
    | some R => exact (ClOf.no h' h0 h).elim
  | some R =>
    cases o' with
    | none => exact (ClOf.no h h0 h').elim
    | some S => exact mat_congr fun i j hi hj => ClOf.same h h' hi hj
theorem pl_out {m : Nat} {o : Option Mx} (h : m ≤ 1000) : Pl 19 (outD m o) := by
  cases o with
  | none => trivial
  | some R => exact pl_mat h
theorem close_spec {A : AH} {m : Nat} {M : Mx} (hm : m ≤ 100) (h0 : 0 < m) : Sat (m_close [matD m M] A) fun d A' => Gr A A' ∧ ∃ o, d = outD m o ∧ Closes m M o := by
  refine sat_body rfl (sat_seq ?_)
  simp only [sat_ok, sat_bad, sat_bind, sat_ite, bind_ok, bind_bad, thn_nx, thn_rt, thn_bk, thn_ct, fin_rt, fin_nx, ev_v, ev_c, ev_op, ev_un, ev_nil, ev_cons, ev_tup, ev_lst, ev_call, ev_own, ev_sl, ev_no, ev_part, ev_and, ev_or, ev_not, ev_if, ev_t, ev_tb, ev_tnot, ev_tand, ev_tor, ev_mt, ev_mt0, ev_rgd, ev_set, ev_asg, ev_ret, ev_retN, ev_ex, ev_pass, ev_brk, ev_cont, ev_ifS, ev_aug, ev_gn, ev_gtp, ev_gnl, ev_gcs, ev_gsb, ev_for, ev_rg1, ev_rg2, ev_its, ev_enum, ev_lc, ev_yes, ev_add_ii, ev_add_ss, ev_add_tt, ev_add_rr, ev_sub, ev_mul, ev_mod, ev_fdiv, ev_pow, ev_neg, ev_lt, ev_le, ev_gt, ev_ge, ev_eq_ii, ev_eq_ss, ev_eq_bb, ev_ne_ii, ev_ne_ss, ev_ne_bb, ev_is_n, ev_isnt_n, ev_int_i, ev_int_b, ev_min_ii, ev_max_ii, ev_abs, ev_tup_of, ev_tup_ofL, ev_lst_ofT, ev_lst_ofL, ev_len_t, ev_len_s, ev_len_r, ev_tru_b, ev_alloc, ev_tupD, ev_lstD, isi_tuple_non, isi_tuple_bl, isi_tuple_int, isi_tuple_str, isi_tuple_tup, isi_tuple_l, isi_tuple_f, isi_list_non, isi_list_bl, isi_list_int, isi_list_str, isi_list_tup, isi_list_l, isi_list_f, isi_bool_non, isi_bool_bl, isi_bool_int, isi_bool_str, isi_bool_tup, isi_bool_l, isi_bool_f, isi_int_non, isi_int_bl, isi_int_int, isi_int_str, isi_int_tup, isi_int_l, isi_int_f, isi_str_non, isi_str_bl, isi_str_int, isi_str_str, isi_str_tup, isi_str_l, isi_str_f, isi_dict_non, isi_dict_bl, isi_dict_int, isi_dict_str, isi_dict_tup, isi_dict_l, isi_dict_f, Ab.isNon, args, List.map, List.length_cons, List.length_nil, List.length_singleton, List.replicate, Nat.reduceSub, Nat.reduceAdd, Nat.zero_add, List.cons_append, List.nil_append, List.getElem?_cons_zero, List.getElem?_cons_succ, List.set_cons_zero, List.set_cons_succ, Option.some.injEq, decide_eq_true_eq, Bool.not_eq_true', decide_eq_false_iff_not, ite_true, ite_false, if_true, if_false, reduceIte, Bool.false_eq_true, Bool.not_true, Bool.not_false, Bool.true_eq_false, decide_true, decide_false, Nat.reduceLeDiff, Nat.reduceLT, wipeA]
  have its : iSeq (matD m M) A = .ok ⟨(List.range m).map fun i => rowD m (M i), yes⟩ A := rfl
  rw [its, sat_ok]
  refine comp_cnt (fun k acc B => Gr A B ∧ acc = (List.range k).map (fun i => D.ref (A.length + 1 + i)) ∧ B[A.length]? = some (.lst acc) ∧ B.length = A.length + 1 + k ∧ ∀ i, i < k → B[A.length + 1 + i]? = some (.lst ((List.range m).map fun j => .int (M i j))))
    (fun k acc B hk ⟨G, ha, hB, lB, hR⟩ => ⟨trivial, ?_⟩) (fun acc B ⟨G, ha, hB, lB, hR⟩ => ⟨trivial, ?_⟩) (acc := []) ⟨.app, rfl, at_new, by simp, fun _ h => absurd h (Nat.not_lt_zero _)⟩
  · have lst : ∀ A, lstOf [rowD m (M k)] A = .ok (.ref A.length) (A ++ [.lst ((List.range m).map fun j => .int (M k j))]) := fun A => ev_lst_ofT
    simp only [sat_ok, sat_bad, sat_bind, sat_ite, bind_ok, bind_bad, thn_nx, thn_rt, thn_bk, thn_ct, fin_rt, fin_nx, ev_v, ev_c, ev_op, ev_un, ev_nil, ev_cons, ev_tup, ev_lst, ev_call, ev_own, ev_sl, ev_no, ev_part, ev_and, ev_or, ev_not, ev_if, ev_t, ev_tb, ev_tnot, ev_tand, ev_tor, ev_mt, ev_mt0, ev_rgd, ev_set, ev_asg, ev_ret, ev_retN, ev_ex, ev_pass, ev_brk, ev_cont, ev_ifS, ev_aug, ev_gn, ev_gtp, ev_gnl, ev_gcs, ev_gsb, ev_for, ev_rg1, ev_rg2, ev_its, ev_enum, ev_lc, ev_yes, ev_add_ii, ev_add_ss, ev_add_tt, ev_add_rr, ev_sub, ev_mul, ev_mod, ev_fdiv, ev_pow, ev_neg, ev_lt, ev_le, ev_gt, ev_ge, ev_eq_ii, ev_eq_ss, ev_eq_bb, ev_ne_ii, ev_ne_ss, ev_ne_bb, ev_is_n, ev_isnt_n, ev_int_i, ev_int_b, ev_min_ii, ev_max_ii, ev_abs, ev_tup_of, ev_tup_ofL, ev_lst_ofT, ev_lst_ofL, ev_len_t, ev_len_s, ev_len_r, ev_tru_b, ev_alloc, ev_tupD, ev_lstD, isi_tuple_non, isi_tuple_bl, isi_tuple_int, isi_tuple_str, isi_tuple_tup, isi_tuple_l, isi_tuple_f, isi_list_non, isi_list_bl, isi_list_int, isi_list_str, isi_list_tup, isi_list_l, isi_list_f, isi_bool_non, isi_bool_bl, isi_bool_int, isi_bool_str, isi_bool_tup, isi_bool_l, isi_bool_f, isi_int_non, isi_int_bl, isi_int_int, isi_int_str, isi_int_tup, isi_int_l, isi_int_f, isi_str_non, isi_str_bl, isi_str_int, isi_str_str, isi_str_tup, isi_str_l, isi_str_f, isi_dict_non, isi_dict_bl, isi_dict_int, isi_dict_str, isi_dict_tup, isi_dict_l, isi_dict_f, Ab.isNon, args, List.map, List.length_cons, List.length_nil, List.length_singleton, List.replicate, Nat.reduceSub, Nat.reduceAdd, Nat.zero_add, List.cons_append, List.nil_append, List.getElem?_cons_zero, List.getElem?_cons_succ, List.set_cons_zero, List.set_cons_succ, Option.some.injEq, decide_eq_true_eq, Bool.not_eq_true', decide_eq_false_iff_not, ite_true, ite_false, if_true, if_false, reduceIte, Bool.false_eq_true, Bool.not_true, Bool.not_false, Bool.true_eq_false, decide_true, decide_false, Nat.reduceLeDiff, Nat.reduceLT, lst]
    have hB2 := (Gr.app (B := [.lst ((List.range m).map fun j => .int (M k j))])).keep _ _ hB
    refine ⟨hB2, by rw [ha]; simp; omega, (G.trans .app).set (Nat.le_refl _), ?_, at_set (at_lt hB2), by simp [lB]; omega, fun i hi => ?_⟩
    · rw [ha, List.range_succ (n := k), List.map_append, lB]; rfl
    · rw [List.getElem?_set_ne (by omega)]
      by_cases e : i = k
      · subst e
        rw [← lB]; exact at_new
      · exact Gr.app.keep _ _ (hR i (by omega))
  have T : Mt A B A.length (fun i => A.length + 1 + i) m M := ⟨G, by rw [hB, ha], hR, fun i j _ _ e => by have e : A.length + 1 + i = A.length + 1 + j := e; omega, fun i _ => by show A.length + 1 + i ≠ A.length; omega, fun i _ => by show A.length ≤ A.length + 1 + i; omega⟩
  clear ha hB lB hR G its
  generalize A.length = r at T ⊢
  generalize (fun i => r + 1 + i) = c at T
  refine sat_seq ?_
  simp only [sat_ok, sat_bad, sat_bind, sat_ite, bind_ok, bind_bad, thn_nx, thn_rt, thn_bk, thn_ct, fin_rt, fin_nx, ev_v, ev_c, ev_op, ev_un, ev_nil, ev_cons, ev_tup, ev_lst, ev_call, ev_own, ev_sl, ev_no, ev_part, ev_and, ev_or, ev_not, ev_if, ev_t, ev_tb, ev_tnot, ev_tand, ev_tor, ev_mt, ev_mt0, ev_rgd, ev_set, ev_asg, ev_ret, ev_retN, ev_ex, ev_pass, ev_brk, ev_cont, ev_ifS, ev_aug, ev_gn, ev_gtp, ev_gnl, ev_gcs, ev_gsb, ev_for, ev_rg1, ev_rg2, ev_its, ev_enum, ev_lc, ev_yes, ev_add_ii, ev_add_ss, ev_add_tt, ev_add_rr, ev_sub, ev_mul, ev_mod, ev_fdiv, ev_pow, ev_neg, ev_lt, ev_le, ev_gt, ev_ge, ev_eq_ii, ev_eq_ss, ev_eq_bb, ev_ne_ii, ev_ne_ss, ev_ne_bb, ev_is_n, ev_isnt_n, ev_int_i, ev_int_b, ev_min_ii, ev_max_ii, ev_abs, ev_tup_of, ev_tup_ofL, ev_lst_ofT, ev_lst_ofL, ev_len_t, ev_len_s, ev_len_r, ev_tru_b, ev_alloc, ev_tupD, ev_lstD, isi_tuple_non, isi_tuple_bl, isi_tuple_int, isi_tuple_str, isi_tuple_tup, isi_tuple_l, isi_tuple_f, isi_list_non, isi_list_bl, isi_list_int, isi_list_str, isi_list_tup, isi_list_l, isi_list_f, isi_bool_non, isi_bool_bl, isi_bool_int, isi_bool_str, isi_bool_tup, isi_bool_l, isi_bool_f, isi_int_non, isi_int_bl, isi_int_int, isi_int_str, isi_int_tup, isi_int_l, isi_int_f, isi_str_non, isi_str_bl, isi_str_int, isi_str_str, isi_str_tup, isi_str_l, isi_str_f, isi_dict_non, isi_dict_bl, isi_dict_int, isi_dict_str, isi_dict_tup, isi_dict_l, isi_dict_f, Ab.isNon, args, List.map, List.length_cons, List.length_nil, List.length_singleton, List.replicate, Nat.reduceSub, Nat.reduceAdd, Nat.zero_add, List.cons_append, List.nil_append, List.getElem?_cons_zero, List.getElem?_cons_succ, List.set_cons_zero, List.set_cons_succ, Option.some.injEq, decide_eq_true_eq, Bool.not_eq_true', decide_eq_false_iff_not, ite_true, ite_false, if_true, if_false, reduceIte, Bool.false_eq_true, Bool.not_true, Bool.not_false, Bool.true_eq_false, decide_true, decide_false, Nat.reduceLeDiff, Nat.reduceLT, T.len]
  refine sat_seq ?_
  have n1 := neg_spec T hm (b := decide (∃ i, i < m ∧ M i i < 0)) (by simp)
  simp only [sat_ok, sat_bad, sat_bind, sat_ite, bind_ok, bind_bad, thn_nx, thn_rt, thn_bk, thn_ct, fin_rt, fin_nx, ev_v, ev_c, ev_op, ev_un, ev_nil, ev_cons, ev_tup, ev_lst, ev_call, ev_own, ev_sl, ev_no, ev_part, ev_and, ev_or, ev_not, ev_if, ev_t, ev_tb, ev_tnot, ev_tand, ev_tor, ev_mt, ev_mt0, ev_rgd, ev_set, ev_asg, ev_ret, ev_retN, ev_ex, ev_pass, ev_brk, ev_cont, ev_ifS, ev_aug, ev_gn, ev_gtp, ev_gnl, ev_gcs, ev_gsb, ev_for, ev_rg1, ev_rg2, ev_its, ev_enum, ev_lc, ev_yes, ev_add_ii, ev_add_ss, ev_add_tt, ev_add_rr, ev_sub, ev_mul, ev_mod, ev_fdiv, ev_pow, ev_neg, ev_lt, ev_le, ev_gt, ev_ge, ev_eq_ii, ev_eq_ss, ev_eq_bb, ev_ne_ii, ev_ne_ss, ev_ne_bb, ev_is_n, ev_isnt_n, ev_int_i, ev_int_b, ev_min_ii, ev_max_ii, ev_abs, ev_tup_of, ev_tup_ofL, ev_lst_ofT, ev_lst_ofL, ev_len_t, ev_len_s, ev_len_r, ev_tru_b, ev_alloc, ev_tupD, ev_lstD, isi_tuple_non, isi_tuple_bl, isi_tuple_int, isi_tuple_str, isi_tuple_tup, isi_tuple_l, isi_tuple_f, isi_list_non, isi_list_bl, isi_list_int, isi_list_str, isi_list_tup, isi_list_l, isi_list_f, isi_bool_non, isi_bool_bl, isi_bool_int, isi_bool_str, isi_bool_tup, isi_bool_l, isi_bool_f, isi_int_non, isi_int_bl, isi_int_int, isi_int_str, isi_int_tup, isi_int_l, isi_int_f, isi_str_non, isi_str_bl, isi_str_int, isi_str_str, isi_str_tup, isi_str_l, isi_str_f, isi_dict_non, isi_dict_bl, isi_dict_int, isi_dict_str, isi_dict_tup, isi_dict_l, isi_dict_f, Ab.isNon, args, List.map, List.length_cons, List.length_nil, List.length_singleton, List.replicate, Nat.reduceSub, Nat.reduceAdd, Nat.zero_add, List.cons_append, List.nil_append, List.getElem?_cons_zero, List.getElem?_cons_succ, List.set_cons_zero, List.set_cons_succ, Option.some.injEq, decide_eq_true_eq, Bool.not_eq_true', decide_eq_false_iff_not, ite_true, ite_false, if_true, if_false, reduceIte, Bool.false_eq_true, Bool.not_true, Bool.not_false, Bool.true_eq_false, decide_true, decide_false, Nat.reduceLeDiff, Nat.reduceLT, n1]
  split
  · rename_i hn
    exact ⟨T.gr, none, rfl, .inl hn⟩
  rename_i hn
  have pos : ∀ i, i < m → 0 ≤ M i i := fun i hi => by
    by_cases e : 0 ≤ M i i
    · exact e
    · exact (hn ⟨i, hi, by omega⟩).elim
  refine sat_seq ?_
  simp only [sat_ok, sat_bad, sat_bind, sat_ite, bind_ok, bind_bad, thn_nx, thn_rt, thn_bk, thn_ct, fin_rt, fin_nx, ev_v, ev_c, ev_op, ev_un, ev_nil, ev_cons, ev_tup, ev_lst, ev_call, ev_own, ev_sl, ev_no, ev_part, ev_and, ev_or, ev_not, ev_if, ev_t, ev_tb, ev_tnot, ev_tand, ev_tor, ev_mt, ev_mt0, ev_rgd, ev_set, ev_asg, ev_ret, ev_retN, ev_ex, ev_pass, ev_brk, ev_cont, ev_ifS, ev_aug, ev_gn, ev_gtp, ev_gnl, ev_gcs, ev_gsb, ev_for, ev_rg1, ev_rg2, ev_its, ev_enum, ev_lc, ev_yes, ev_add_ii, ev_add_ss, ev_add_tt, ev_add_rr, ev_sub, ev_mul, ev_mod, ev_fdiv, ev_pow, ev_neg, ev_lt, ev_le, ev_gt, ev_ge, ev_eq_ii, ev_eq_ss, ev_eq_bb, ev_ne_ii, ev_ne_ss, ev_ne_bb, ev_is_n, ev_isnt_n, ev_int_i, ev_int_b, ev_min_ii, ev_max_ii, ev_abs, ev_tup_of, ev_tup_ofL, ev_lst_ofT, ev_lst_ofL, ev_len_t, ev_len_s, ev_len_r, ev_tru_b, ev_alloc, ev_tupD, ev_lstD, isi_tuple_non, isi_tuple_bl, isi_tuple_int, isi_tuple_str, isi_tuple_tup, isi_tuple_l, isi_tuple_f, isi_list_non, isi_list_bl, isi_list_int, isi_list_str, isi_list_tup, isi_list_l, isi_list_f, isi_bool_non, isi_bool_bl, isi_bool_int, isi_bool_str, isi_bool_tup, isi_bool_l, isi_bool_f, isi_int_non, isi_int_bl, isi_int_int, isi_int_str, isi_int_tup, isi_int_l, isi_int_f, isi_str_non, isi_str_bl, isi_str_int, isi_str_str, isi_str_tup, isi_str_l, isi_str_f, isi_dict_non, isi_dict_bl, isi_dict_int, isi_dict_str, isi_dict_tup, isi_dict_l, isi_dict_f, Ab.isNon, args, List.map, List.length_cons, List.length_nil, List.length_singleton, List.replicate, Nat.reduceSub, Nat.reduceAdd, Nat.zero_add, List.cons_append, List.nil_append, List.getElem?_cons_zero, List.getElem?_cons_succ, List.set_cons_zero, List.set_cons_succ, Option.some.injEq, decide_eq_true_eq, Bool.not_eq_true', decide_eq_false_iff_not, ite_true, ite_false, if_true, if_false, reduceIte, Bool.false_eq_true, Bool.not_true, Bool.not_false, Bool.true_eq_false, decide_true, decide_false, Nat.reduceLeDiff, Nat.reduceLT]
  rw [if_pos (inRg_of (by omega) (by omega)), Int.toNat_natCast]
  refine range_inv (fun k σ C => Mt A C r c m (fun i j => if i = j ∧ i < k then 0 else M i j) ∧ ∃ x y, σ = [some (matD m M), some (.ref r), x, some (.int (m : Nat)), y, none])
    (fun k σ C hk ⟨hC, x, y, hσ⟩ => ?_) (fun σ C ⟨hC, x, y, hσ⟩ => ?_) ⟨T.ext fun i j _ _ => by simp, _, none, rfl⟩
  · subst hσ
    simp only [sat_ok, sat_bad, sat_bind, sat_ite, bind_ok, bind_bad, thn_nx, thn_rt, thn_bk, thn_ct, fin_rt, fin_nx, ev_v, ev_c, ev_op, ev_un, ev_nil, ev_cons, ev_tup, ev_lst, ev_call, ev_own, ev_sl, ev_no, ev_part, ev_and, ev_or, ev_not, ev_if, ev_t, ev_tb, ev_tnot, ev_tand, ev_tor, ev_mt, ev_mt0, ev_rgd, ev_set, ev_asg, ev_ret, ev_retN, ev_ex, ev_pass, ev_brk, ev_cont, ev_ifS, ev_aug, ev_gn, ev_gtp, ev_gnl, ev_gcs, ev_gsb, ev_for, ev_rg1, ev_rg2, ev_its, ev_enum, ev_lc, ev_yes, ev_add_ii, ev_add_ss, ev_add_tt, ev_add_rr, ev_sub, ev_mul, ev_mod, ev_fdiv, ev_pow, ev_neg, ev_lt, ev_le, ev_gt, ev_ge, ev_eq_ii, ev_eq_ss, ev_eq_bb, ev_ne_ii, ev_ne_ss, ev_ne_bb, ev_is_n, ev_isnt_n, ev_int_i, ev_int_b, ev_min_ii, ev_max_ii, ev_abs, ev_tup_of, ev_tup_ofL, ev_lst_ofT, ev_lst_ofL, ev_len_t, ev_len_s, ev_len_r, ev_tru_b, ev_alloc, ev_tupD, ev_lstD, isi_tuple_non, isi_tuple_bl, isi_tuple_int, isi_tuple_str, isi_tuple_tup, isi_tuple_l, isi_tuple_f, isi_list_non, isi_list_bl, isi_list_int, isi_list_str, isi_list_tup, isi_list_l, isi_list_f, isi_bool_non, isi_bool_bl, isi_bool_int, isi_bool_str, isi_bool_tup, isi_bool_l, isi_bool_f, isi_int_non, isi_int_bl, isi_int_int, isi_int_str, isi_int_tup, isi_int_l, isi_int_f, isi_str_non, isi_str_bl, isi_str_int, isi_str_str, isi_str_tup, isi_str_l, isi_str_f, isi_dict_non, isi_dict_bl, isi_dict_int, isi_dict_str, isi_dict_tup, isi_dict_l, isi_dict_f, Ab.isNon, args, List.map, List.length_cons, List.length_nil, List.length_singleton, List.replicate, Nat.reduceSub, Nat.reduceAdd, Nat.zero_add, List.cons_append, List.nil_append, List.getElem?_cons_zero, List.getElem?_cons_succ, List.set_cons_zero, List.set_cons_succ, Option.some.injEq, decide_eq_true_eq, Bool.not_eq_true', decide_eq_false_iff_not, ite_true, ite_false, if_true, if_false, reduceIte, Bool.false_eq_true, Bool.not_true, Bool.not_false, Bool.true_eq_false, decide_true, decide_false, Nat.reduceLeDiff, Nat.reduceLT, Int.zero_add, hC.ix hk]
    rw [hC.st hk hk]
    simp only [sat_ok, sat_bad, sat_bind, sat_ite, bind_ok, bind_bad, thn_nx, thn_rt, thn_bk, thn_ct, fin_rt, fin_nx, ev_v, ev_c, ev_op, ev_un, ev_nil, ev_cons, ev_tup, ev_lst, ev_call, ev_own, ev_sl, ev_no, ev_part, ev_and, ev_or, ev_not, ev_if, ev_t, ev_tb, ev_tnot, ev_tand, ev_tor, ev_mt, ev_mt0, ev_rgd, ev_set, ev_asg, ev_ret, ev_retN, ev_ex, ev_pass, ev_brk, ev_cont, ev_ifS, ev_aug, ev_gn, ev_gtp, ev_gnl, ev_gcs, ev_gsb, ev_for, ev_rg1, ev_rg2, ev_its, ev_enum, ev_lc, ev_yes, ev_add_ii, ev_add_ss, ev_add_tt, ev_add_rr, ev_sub, ev_mul, ev_mod, ev_fdiv, ev_pow, ev_neg, ev_lt, ev_le, ev_gt, ev_ge, ev_eq_ii, ev_eq_ss, ev_eq_bb, ev_ne_ii, ev_ne_ss, ev_ne_bb, ev_is_n, ev_isnt_n, ev_int_i, ev_int_b, ev_min_ii, ev_max_ii, ev_abs, ev_tup_of, ev_tup_ofL, ev_lst_ofT, ev_lst_ofL, ev_len_t, ev_len_s, ev_len_r, ev_tru_b, ev_alloc, ev_tupD, ev_lstD, isi_tuple_non, isi_tuple_bl, isi_tuple_int, isi_tuple_str, isi_tuple_tup, isi_tuple_l, isi_tuple_f, isi_list_non, isi_list_bl, isi_list_int, isi_list_str, isi_list_tup, isi_list_l, isi_list_f, isi_bool_non, isi_bool_bl, isi_bool_int, isi_bool_str, isi_bool_tup, isi_bool_l, isi_bool_f, isi_int_non, isi_int_bl, isi_int_int, isi_int_str, isi_int_tup, isi_int_l, isi_int_f, isi_str_non, isi_str_bl, isi_str_int, isi_str_str, isi_str_tup, isi_str_l, isi_str_f, isi_dict_non, isi_dict_bl, isi_dict_int, isi_dict_str, isi_dict_tup, isi_dict_l, isi_dict_f, Ab.isNon, args, List.map, List.length_cons, List.length_nil, List.length_singleton, List.replicate, Nat.reduceSub, Nat.reduceAdd, Nat.zero_add, List.cons_append, List.nil_append, List.getElem?_cons_zero, List.getElem?_cons_succ, List.set_cons_zero, List.set_cons_succ, Option.some.injEq, decide_eq_true_eq, Bool.not_eq_true', decide_eq_false_iff_not, ite_true, ite_false, if_true, if_false, reduceIte, Bool.false_eq_true, Bool.not_true, Bool.not_false, Bool.true_eq_false, decide_true, decide_false, Nat.reduceLeDiff, Nat.reduceLT, turn_]
    refine ⟨hC.set hk |>.ext fun a b ha hb => ?_, _, _, rfl⟩
    by_cases e : a = k ∧ b = k
    · obtain ⟨rfl, rfl⟩ := e
      rw [if_pos ⟨rfl, rfl⟩, if_pos ⟨rfl, Nat.lt_succ_self _⟩]
    · rw [if_neg e]
      by_cases e2 : a = b ∧ a < k
      · rw [if_pos e2, if_pos ⟨e2.1, by omega⟩]
      · rw [if_neg e2, if_neg (by omega)]
  subst hσ
  have hC : Mt A C r c m (fun i j => if i = j then 0 else M i j) := hC.ext fun a b ha hb => by
    by_cases e : a = b
    · rw [if_pos ⟨e, ha⟩, if_pos e]
    · rw [if_neg e, if_neg (fun z => e z.1)]
  simp only [sat_ok, sat_bad, sat_bind, sat_ite, bind_ok, bind_bad, thn_nx, thn_rt, thn_bk, thn_ct, fin_rt, fin_nx, ev_v, ev_c, ev_op, ev_un, ev_nil, ev_cons, ev_tup, ev_lst, ev_call, ev_own, ev_sl, ev_no, ev_part, ev_and, ev_or, ev_not, ev_if, ev_t, ev_tb, ev_tnot, ev_tand, ev_tor, ev_mt, ev_mt0, ev_rgd, ev_set, ev_asg, ev_ret, ev_retN, ev_ex, ev_pass, ev_brk, ev_cont, ev_ifS, ev_aug, ev_gn, ev_gtp, ev_gnl, ev_gcs, ev_gsb, ev_for, ev_rg1, ev_rg2, ev_its, ev_enum, ev_lc, ev_yes, ev_add_ii, ev_add_ss, ev_add_tt, ev_add_rr, ev_sub, ev_mul, ev_mod, ev_fdiv, ev_pow, ev_neg, ev_lt, ev_le, ev_gt, ev_ge, ev_eq_ii, ev_eq_ss, ev_eq_bb, ev_ne_ii, ev_ne_ss, ev_ne_bb, ev_is_n, ev_isnt_n, ev_int_i, ev_int_b, ev_min_ii, ev_max_ii, ev_abs, ev_tup_of, ev_tup_ofL, ev_lst_ofT, ev_lst_ofL, ev_len_t, ev_len_s, ev_len_r, ev_tru_b, ev_alloc, ev_tupD, ev_lstD, isi_tuple_non, isi_tuple_bl, isi_tuple_int, isi_tuple_str, isi_tuple_tup, isi_tuple_l, isi_tuple_f, isi_list_non, isi_list_bl, isi_list_int, isi_list_str, isi_list_tup, isi_list_l, isi_list_f, isi_bool_non, isi_bool_bl, isi_bool_int, isi_bool_str, isi_bool_tup, isi_bool_l, isi_bool_f, isi_int_non, isi_int_bl, isi_int_int, isi_int_str, isi_int_tup, isi_int_l, isi_int_f, isi_str_non, isi_str_bl, isi_str_int, isi_str_str, isi_str_tup, isi_str_l, isi_str_f, isi_dict_non, isi_dict_bl, isi_dict_int, isi_dict_str, isi_dict_tup, isi_dict_l, isi_dict_f, Ab.isNon, args, List.map, List.length_cons, List.length_nil, List.length_singleton, List.replicate, Nat.reduceSub, Nat.reduceAdd, Nat.zero_add, List.cons_append, List.nil_append, List.getElem?_cons_zero, List.getElem?_cons_succ, List.set_cons_zero, List.set_cons_succ, Option.some.injEq, decide_eq_true_eq, Bool.not_eq_true', decide_eq_false_iff_not, ite_true, ite_false, if_true, if_false, reduceIte, Bool.false_eq_true, Bool.not_true, Bool.not_false, Bool.true_eq_false, decide_true, decide_false, Nat.reduceLeDiff, Nat.reduceLT]
  refine sat_seq ?_
  simp only [sat_ok, sat_bad, sat_bind, sat_ite, bind_ok, bind_bad, thn_nx, thn_rt, thn_bk, thn_ct, fin_rt, fin_nx, ev_v, ev_c, ev_op, ev_un, ev_nil, ev_cons, ev_tup, ev_lst, ev_call, ev_own, ev_sl, ev_no, ev_part, ev_and, ev_or, ev_not, ev_if, ev_t, ev_tb, ev_tnot, ev_tand, ev_tor, ev_mt, ev_mt0, ev_rgd, ev_set, ev_asg, ev_ret, ev_retN, ev_ex, ev_pass, ev_brk, ev_cont, ev_ifS, ev_aug, ev_gn, ev_gtp, ev_gnl, ev_gcs, ev_gsb, ev_for, ev_rg1, ev_rg2, ev_its, ev_enum, ev_lc, ev_yes, ev_add_ii, ev_add_ss, ev_add_tt, ev_add_rr, ev_sub, ev_mul, ev_mod, ev_fdiv, ev_pow, ev_neg, ev_lt, ev_le, ev_gt, ev_ge, ev_eq_ii, ev_eq_ss, ev_eq_bb, ev_ne_ii, ev_ne_ss, ev_ne_bb, ev_is_n, ev_isnt_n, ev_int_i, ev_int_b, ev_min_ii, ev_max_ii, ev_abs, ev_tup_of, ev_tup_ofL, ev_lst_ofT, ev_lst_ofL, ev_len_t, ev_len_s, ev_len_r, ev_tru_b, ev_alloc, ev_tupD, ev_lstD, isi_tuple_non, isi_tuple_bl, isi_tuple_int, isi_tuple_str, isi_tuple_tup, isi_tuple_l, isi_tuple_f, isi_list_non, isi_list_bl, isi_list_int, isi_list_str, isi_list_tup, isi_list_l, isi_list_f, isi_bool_non, isi_bool_bl, isi_bool_int, isi_bool_str, isi_bool_tup, isi_bool_l, isi_bool_f, isi_int_non, isi_int_bl, isi_int_int, isi_int_str, isi_int_tup, isi_int_l, isi_int_f, isi_str_non, isi_str_bl, isi_str_int, isi_str_str, isi_str_tup, isi_str_l, isi_str_f, isi_dict_non, isi_dict_bl, isi_dict_int, isi_dict_str, isi_dict_tup, isi_dict_l, isi_dict_f, Ab.isNon, args, List.map, List.length_cons, List.length_nil, List.length_singleton, List.replicate, Nat.reduceSub, Nat.reduceAdd, Nat.zero_add, List.cons_append, List.nil_append, List.getElem?_cons_zero, List.getElem?_cons_succ, List.set_cons_zero, List.set_cons_succ, Option.some.injEq, decide_eq_true_eq, Bool.not_eq_true', decide_eq_false_iff_not, ite_true, ite_false, if_true, if_false, reduceIte, Bool.false_eq_true, Bool.not_true, Bool.not_false, Bool.true_eq_false, decide_true, decide_false, Nat.reduceLeDiff, Nat.reduceLT]
  rw [if_pos (inRg_of (by omega) (by omega)), Int.toNat_natCast]
  refine range_inv (fun k σ E => (∃ R, Mt A E r c m R ∧ Rnd m M k R) ∧ ∃ z, σ = [some (matD m M), some (.ref r), x, some (.int (m : Nat)), y, z])
    (fun k σ E hk ⟨⟨R, hE, hR⟩, z, hσ⟩ => ?_) (fun σ E ⟨⟨R, hE, hR⟩, z, hσ⟩ => ?_) ⟨⟨_, hC, Rnd.first pos⟩, none, rfl⟩
  · subst hσ
    simp only [sat_ok, sat_bad, sat_bind, sat_ite, bind_ok, bind_bad, thn_nx, thn_rt, thn_bk, thn_ct, fin_rt, fin_nx, ev_v, ev_c, ev_op, ev_un, ev_nil, ev_cons, ev_tup, ev_lst, ev_call, ev_own, ev_sl, ev_no, ev_part, ev_and, ev_or, ev_not, ev_if, ev_t, ev_tb, ev_tnot, ev_tand, ev_tor, ev_mt, ev_mt0, ev_rgd, ev_set, ev_asg, ev_ret, ev_retN, ev_ex, ev_pass, ev_brk, ev_cont, ev_ifS, ev_aug, ev_gn, ev_gtp, ev_gnl, ev_gcs, ev_gsb, ev_for, ev_rg1, ev_rg2, ev_its, ev_enum, ev_lc, ev_yes, ev_add_ii, ev_add_ss, ev_add_tt, ev_add_rr, ev_sub, ev_mul, ev_mod, ev_fdiv, ev_pow, ev_neg, ev_lt, ev_le, ev_gt, ev_ge, ev_eq_ii, ev_eq_ss, ev_eq_bb, ev_ne_ii, ev_ne_ss, ev_ne_bb, ev_is_n, ev_isnt_n, ev_int_i, ev_int_b, ev_min_ii, ev_max_ii, ev_abs, ev_tup_of, ev_tup_ofL, ev_lst_ofT, ev_lst_ofL, ev_len_t, ev_len_s, ev_len_r, ev_tru_b, ev_alloc, ev_tupD, ev_lstD, isi_tuple_non, isi_tuple_bl, isi_tuple_int, isi_tuple_str, isi_tuple_tup, isi_tuple_l, isi_tuple_f, isi_list_non, isi_list_bl, isi_list_int, isi_list_str, isi_list_tup, isi_list_l, isi_list_f, isi_bool_non, isi_bool_bl, isi_bool_int, isi_bool_str, isi_bool_tup, isi_bool_l, isi_bool_f, isi_int_non, isi_int_bl, isi_int_int, isi_int_str, isi_int_tup, isi_int_l, isi_int_f, isi_str_non, isi_str_bl, isi_str_int, isi_str_str, isi_str_tup, isi_str_l, isi_str_f, isi_dict_non, isi_dict_bl, isi_dict_int, isi_dict_str, isi_dict_tup, isi_dict_l, isi_dict_f, Ab.isNon, args, List.map, List.length_cons, List.length_nil, List.length_singleton, List.replicate, Nat.reduceSub, Nat.reduceAdd, Nat.zero_add, List.cons_append, List.nil_append, List.getElem?_cons_zero, List.getElem?_cons_succ, List.set_cons_zero, List.set_cons_succ, Option.some.injEq, decide_eq_true_eq, Bool.not_eq_true', decide_eq_false_iff_not, ite_true, ite_false, if_true, if_false, reduceIte, Bool.false_eq_true, Bool.not_true, Bool.not_false, Bool.true_eq_false, decide_true, decide_false, Nat.reduceLeDiff, Nat.reduceLT, Int.zero_add]
    refine sat_seq ?_
    simp only [sat_ok, sat_bad, sat_bind, sat_ite, bind_ok, bind_bad, thn_nx, thn_rt, thn_bk, thn_ct, fin_rt, fin_nx, ev_v, ev_c, ev_op, ev_un, ev_nil, ev_cons, ev_tup, ev_lst, ev_call, ev_own, ev_sl, ev_no, ev_part, ev_and, ev_or, ev_not, ev_if, ev_t, ev_tb, ev_tnot, ev_tand, ev_tor, ev_mt, ev_mt0, ev_rgd, ev_set, ev_asg, ev_ret, ev_retN, ev_ex, ev_pass, ev_brk, ev_cont, ev_ifS, ev_aug, ev_gn, ev_gtp, ev_gnl, ev_gcs, ev_gsb, ev_for, ev_rg1, ev_rg2, ev_its, ev_enum, ev_lc, ev_yes, ev_add_ii, ev_add_ss, ev_add_tt, ev_add_rr, ev_sub, ev_mul, ev_mod, ev_fdiv, ev_pow, ev_neg, ev_lt, ev_le, ev_gt, ev_ge, ev_eq_ii, ev_eq_ss, ev_eq_bb, ev_ne_ii, ev_ne_ss, ev_ne_bb, ev_is_n, ev_isnt_n, ev_int_i, ev_int_b, ev_min_ii, ev_max_ii, ev_abs, ev_tup_of, ev_tup_ofL, ev_lst_ofT, ev_lst_ofL, ev_len_t, ev_len_s, ev_len_r, ev_tru_b, ev_alloc, ev_tupD, ev_lstD, isi_tuple_non, isi_tuple_bl, isi_tuple_int, isi_tuple_str, isi_tuple_tup, isi_tuple_l, isi_tuple_f, isi_list_non, isi_list_bl, isi_list_int, isi_list_str, isi_list_tup, isi_list_l, isi_list_f, isi_bool_non, isi_bool_bl, isi_bool_int, isi_bool_str, isi_bool_tup, isi_bool_l, isi_bool_f, isi_int_non, isi_int_bl, isi_int_int, isi_int_str, isi_int_tup, isi_int_l, isi_int_f, isi_str_non, isi_str_bl, isi_str_int, isi_str_str, isi_str_tup, isi_str_l, isi_str_f, isi_dict_non, isi_dict_bl, isi_dict_int, isi_dict_str, isi_dict_tup, isi_dict_l, isi_dict_f, Ab.isNon, args, List.map, List.length_cons, List.length_nil, List.length_singleton, List.replicate, Nat.reduceSub, Nat.reduceAdd, Nat.zero_add, List.cons_append, List.nil_append, List.getElem?_cons_zero, List.getElem?_cons_succ, List.set_cons_zero, List.set_cons_succ, Option.some.injEq, decide_eq_true_eq, Bool.not_eq_true', decide_eq_false_iff_not, ite_true, ite_false, if_true, if_false, reduceIte, Bool.false_eq_true, Bool.not_true, Bool.not_false, Bool.true_eq_false, decide_true, decide_false, Nat.reduceLeDiff, Nat.reduceLT]
    refine Sat.imp (short_spec hE hm hk) fun d E2 hE2 => ?_
    have n2 := neg_spec hE2 hm (b := decide (∃ i, i < m ∧ via k R i i < 0)) (by simp)
    simp only [sat_ok, sat_bad, sat_bind, sat_ite, bind_ok, bind_bad, thn_nx, thn_rt, thn_bk, thn_ct, fin_rt, fin_nx, ev_v, ev_c, ev_op, ev_un, ev_nil, ev_cons, ev_tup, ev_lst, ev_call, ev_own, ev_sl, ev_no, ev_part, ev_and, ev_or, ev_not, ev_if, ev_t, ev_tb, ev_tnot, ev_tand, ev_tor, ev_mt, ev_mt0, ev_rgd, ev_set, ev_asg, ev_ret, ev_retN, ev_ex, ev_pass, ev_brk, ev_cont, ev_ifS, ev_aug, ev_gn, ev_gtp, ev_gnl, ev_gcs, ev_gsb, ev_for, ev_rg1, ev_rg2, ev_its, ev_enum, ev_lc, ev_yes, ev_add_ii, ev_add_ss, ev_add_tt, ev_add_rr, ev_sub, ev_mul, ev_mod, ev_fdiv, ev_pow, ev_neg, ev_lt, ev_le, ev_gt, ev_ge, ev_eq_ii, ev_eq_ss, ev_eq_bb, ev_ne_ii, ev_ne_ss, ev_ne_bb, ev_is_n, ev_isnt_n, ev_int_i, ev_int_b, ev_min_ii, ev_max_ii, ev_abs, ev_tup_of, ev_tup_ofL, ev_lst_ofT, ev_lst_ofL, ev_len_t, ev_len_s, ev_len_r, ev_tru_b, ev_alloc, ev_tupD, ev_lstD, isi_tuple_non, isi_tuple_bl, isi_tuple_int, isi_tuple_str, isi_tuple_tup, isi_tuple_l, isi_tuple_f, isi_list_non, isi_list_bl, isi_list_int, isi_list_str, isi_list_tup, isi_list_l, isi_list_f, isi_bool_non, isi_bool_bl, isi_bool_int, isi_bool_str, isi_bool_tup, isi_bool_l, isi_bool_f, isi_int_non, isi_int_bl, isi_int_int, isi_int_str, isi_int_tup, isi_int_l, isi_int_f, isi_str_non, isi_str_bl, isi_str_int, isi_str_str, isi_str_tup, isi_str_l, isi_str_f, isi_dict_non, isi_dict_bl, isi_dict_int, isi_dict_str, isi_dict_tup, isi_dict_l, isi_dict_f, Ab.isNon, args, List.map, List.length_cons, List.length_nil, List.length_singleton, List.replicate, Nat.reduceSub, Nat.reduceAdd, Nat.zero_add, List.cons_append, List.nil_append, List.getElem?_cons_zero, List.getElem?_cons_succ, List.set_cons_zero, List.set_cons_succ, Option.some.injEq, decide_eq_true_eq, Bool.not_eq_true', decide_eq_false_iff_not, ite_true, ite_false, if_true, if_false, reduceIte, Bool.false_eq_true, Bool.not_true, Bool.not_false, Bool.true_eq_false, decide_true, decide_false, Nat.reduceLeDiff, Nat.reduceLT, n2]
    split
    · rename_i hn
      obtain ⟨i, hi, hn⟩ := hn
      simp only [sat_ok, sat_bad, sat_bind, sat_ite, bind_ok, bind_bad, thn_nx, thn_rt, thn_bk, thn_ct, fin_rt, fin_nx, ev_v, ev_c, ev_op, ev_un, ev_nil, ev_cons, ev_tup, ev_lst, ev_call, ev_own, ev_sl, ev_no, ev_part, ev_and, ev_or, ev_not, ev_if, ev_t, ev_tb, ev_tnot, ev_tand, ev_tor, ev_mt, ev_mt0, ev_rgd, ev_set, ev_asg, ev_ret, ev_retN, ev_ex, ev_pass, ev_brk, ev_cont, ev_ifS, ev_aug, ev_gn, ev_gtp, ev_gnl, ev_gcs, ev_gsb, ev_for, ev_rg1, ev_rg2, ev_its, ev_enum, ev_lc, ev_yes, ev_add_ii, ev_add_ss, ev_add_tt, ev_add_rr, ev_sub, ev_mul, ev_mod, ev_fdiv, ev_pow, ev_neg, ev_lt, ev_le, ev_gt, ev_ge, ev_eq_ii, ev_eq_ss, ev_eq_bb, ev_ne_ii, ev_ne_ss, ev_ne_bb, ev_is_n, ev_isnt_n, ev_int_i, ev_int_b, ev_min_ii, ev_max_ii, ev_abs, ev_tup_of, ev_tup_ofL, ev_lst_ofT, ev_lst_ofL, ev_len_t, ev_len_s, ev_len_r, ev_tru_b, ev_alloc, ev_tupD, ev_lstD, isi_tuple_non, isi_tuple_bl, isi_tuple_int, isi_tuple_str, isi_tuple_tup, isi_tuple_l, isi_tuple_f, isi_list_non, isi_list_bl, isi_list_int, isi_list_str, isi_list_tup, isi_list_l, isi_list_f, isi_bool_non, isi_bool_bl, isi_bool_int, isi_bool_str, isi_bool_tup, isi_bool_l, isi_bool_f, isi_int_non, isi_int_bl, isi_int_int, isi_int_str, isi_int_tup, isi_int_l, isi_int_f, isi_str_non, isi_str_bl, isi_str_int, isi_str_str, isi_str_tup, isi_str_l, isi_str_f, isi_dict_non, isi_dict_bl, isi_dict_int, isi_dict_str, isi_dict_tup, isi_dict_l, isi_dict_f, Ab.isNon, args, List.map, List.length_cons, List.length_nil, List.length_singleton, List.replicate, Nat.reduceSub, Nat.reduceAdd, Nat.zero_add, List.cons_append, List.nil_append, List.getElem?_cons_zero, List.getElem?_cons_succ, List.set_cons_zero, List.set_cons_succ, Option.some.injEq, decide_eq_true_eq, Bool.not_eq_true', decide_eq_false_iff_not, ite_true, ite_false, if_true, if_false, reduceIte, Bool.false_eq_true, Bool.not_true, Bool.not_false, Bool.true_eq_false, decide_true, decide_false, Nat.reduceLeDiff, Nat.reduceLT, turn_]
      exact ⟨hE2.gr, none, rfl, .inr (hR.neg hk hi hn)⟩
    · rename_i hn
      simp only [sat_ok, sat_bad, sat_bind, sat_ite, bind_ok, bind_bad, thn_nx, thn_rt, thn_bk, thn_ct, fin_rt, fin_nx, ev_v, ev_c, ev_op, ev_un, ev_nil, ev_cons, ev_tup, ev_lst, ev_call, ev_own, ev_sl, ev_no, ev_part, ev_and, ev_or, ev_not, ev_if, ev_t, ev_tb, ev_tnot, ev_tand, ev_tor, ev_mt, ev_mt0, ev_rgd, ev_set, ev_asg, ev_ret, ev_retN, ev_ex, ev_pass, ev_brk, ev_cont, ev_ifS, ev_aug, ev_gn, ev_gtp, ev_gnl, ev_gcs, ev_gsb, ev_for, ev_rg1, ev_rg2, ev_its, ev_enum, ev_lc, ev_yes, ev_add_ii, ev_add_ss, ev_add_tt, ev_add_rr, ev_sub, ev_mul, ev_mod, ev_fdiv, ev_pow, ev_neg, ev_lt, ev_le, ev_gt, ev_ge, ev_eq_ii, ev_eq_ss, ev_eq_bb, ev_ne_ii, ev_ne_ss, ev_ne_bb, ev_is_n, ev_isnt_n, ev_int_i, ev_int_b, ev_min_ii, ev_max_ii, ev_abs, ev_tup_of, ev_tup_ofL, ev_lst_ofT, ev_lst_ofL, ev_len_t, ev_len_s, ev_len_r, ev_tru_b, ev_alloc, ev_tupD, ev_lstD, isi_tuple_non, isi_tuple_bl, isi_tuple_int, isi_tuple_str, isi_tuple_tup, isi_tuple_l, isi_tuple_f, isi_list_non, isi_list_bl, isi_list_int, isi_list_str, isi_list_tup, isi_list_l, isi_list_f, isi_bool_non, isi_bool_bl, isi_bool_int, isi_bool_str, isi_bool_tup, isi_bool_l, isi_bool_f, isi_int_non, isi_int_bl, isi_int_int, isi_int_str, isi_int_tup, isi_int_l, isi_int_f, isi_str_non, isi_str_bl, isi_str_int, isi_str_str, isi_str_tup, isi_str_l, isi_str_f, isi_dict_non, isi_dict_bl, isi_dict_int, isi_dict_str, isi_dict_tup, isi_dict_l, isi_dict_f, Ab.isNon, args, List.map, List.length_cons, List.length_nil, List.length_singleton, List.replicate, Nat.reduceSub, Nat.reduceAdd, Nat.zero_add, List.cons_append, List.nil_append, List.getElem?_cons_zero, List.getElem?_cons_succ, List.set_cons_zero, List.set_cons_succ, Option.some.injEq, decide_eq_true_eq, Bool.not_eq_true', decide_eq_false_iff_not, ite_true, ite_false, if_true, if_false, reduceIte, Bool.false_eq_true, Bool.not_true, Bool.not_false, Bool.true_eq_false, decide_true, decide_false, Nat.reduceLeDiff, Nat.reduceLT, turn_]
      refine ⟨⟨_, hE2, hR.next hk fun i hi => ?_⟩, _, rfl⟩
      by_cases e : 0 ≤ via k R i i
      · exact e
      · exact (hn ⟨i, hi, by omega⟩).elim
  · subst hσ
    simp only [sat_ok, sat_bad, sat_bind, sat_ite, bind_ok, bind_bad, thn_nx, thn_rt, thn_bk, thn_ct, fin_rt, fin_nx, ev_v, ev_c, ev_op, ev_un, ev_nil, ev_cons, ev_tup, ev_lst, ev_call, ev_own, ev_sl, ev_no, ev_part, ev_and, ev_or, ev_not, ev_if, ev_t, ev_tb, ev_tnot, ev_tand, ev_tor, ev_mt, ev_mt0, ev_rgd, ev_set, ev_asg, ev_ret, ev_retN, ev_ex, ev_pass, ev_brk, ev_cont, ev_ifS, ev_aug, ev_gn, ev_gtp, ev_gnl, ev_gcs, ev_gsb, ev_for, ev_rg1, ev_rg2, ev_its, ev_enum, ev_lc, ev_yes, ev_add_ii, ev_add_ss, ev_add_tt, ev_add_rr, ev_sub, ev_mul, ev_mod, ev_fdiv, ev_pow, ev_neg, ev_lt, ev_le, ev_gt, ev_ge, ev_eq_ii, ev_eq_ss, ev_eq_bb, ev_ne_ii, ev_ne_ss, ev_ne_bb, ev_is_n, ev_isnt_n, ev_int_i, ev_int_b, ev_min_ii, ev_max_ii, ev_abs, ev_tup_of, ev_tup_ofL, ev_lst_ofT, ev_lst_ofL, ev_len_t, ev_len_s, ev_len_r, ev_tru_b, ev_alloc, ev_tupD, ev_lstD, isi_tuple_non, isi_tuple_bl, isi_tuple_int, isi_tuple_str, isi_tuple_tup, isi_tuple_l, isi_tuple_f, isi_list_non, isi_list_bl, isi_list_int, isi_list_str, isi_list_tup, isi_list_l, isi_list_f, isi_bool_non, isi_bool_bl, isi_bool_int, isi_bool_str, isi_bool_tup, isi_bool_l, isi_bool_f, isi_int_non, isi_int_bl, isi_int_int, isi_int_str, isi_int_tup, isi_int_l, isi_int_f, isi_str_non, isi_str_bl, isi_str_int, isi_str_str, isi_str_tup, isi_str_l, isi_str_f, isi_dict_non, isi_dict_bl, isi_dict_int, isi_dict_str, isi_dict_tup, isi_dict_l, isi_dict_f, Ab.isNon, args, List.map, List.length_cons, List.length_nil, List.length_singleton, List.replicate, Nat.reduceSub, Nat.reduceAdd, Nat.zero_add, List.cons_append, List.nil_append, List.getElem?_cons_zero, List.getElem?_cons_succ, List.set_cons_zero, List.set_cons_succ, Option.some.injEq, decide_eq_true_eq, Bool.not_eq_true', decide_eq_false_iff_not, ite_true, ite_false, if_true, if_false, reduceIte, Bool.false_eq_true, Bool.not_true, Bool.not_false, Bool.true_eq_false, decide_true, decide_false, Nat.reduceLeDiff, Nat.reduceLT]
    refine Sat.imp (frozen_spec c hE.rows hE.row (by omega)) fun d E2 ⟨e, G2⟩ => ?_
    exact ⟨hE.gr.trans G2, some R, e, hR.last⟩
end Law

namespace Law
open PySem PySem.Spec PyProof.Rows L2 Ab
open scoped Classical
/-! ### the law's own bounds -/
theorem non_bounded {A : AH} {i j n : D} : m__law_bounded [.non, i, j, n] A = .ok .non A := by
  have key : Sat (m__law_bounded [.non, i, j, n] A) fun d A' => d = .non ∧ A' = A := by
    refine sat_body rfl (sat_seq ?_)
    simp only [sat_ok, sat_bad, sat_bind, sat_ite, bind_ok, bind_bad, thn_nx, thn_rt, thn_bk, thn_ct, fin_rt, fin_nx, ev_v, ev_c, ev_op, ev_un, ev_nil, ev_cons, ev_tup, ev_lst, ev_call, ev_own, ev_sl, ev_no, ev_part, ev_and, ev_or, ev_not, ev_if, ev_t, ev_tb, ev_tnot, ev_tand, ev_tor, ev_mt, ev_mt0, ev_rgd, ev_set, ev_asg, ev_ret, ev_retN, ev_ex, ev_pass, ev_brk, ev_cont, ev_ifS, ev_aug, ev_gn, ev_gtp, ev_gnl, ev_gcs, ev_gsb, ev_for, ev_rg1, ev_rg2, ev_its, ev_enum, ev_lc, ev_yes, ev_add_ii, ev_add_ss, ev_add_tt, ev_add_rr, ev_sub, ev_mul, ev_mod, ev_fdiv, ev_pow, ev_neg, ev_lt, ev_le, ev_gt, ev_ge, ev_eq_ii, ev_eq_ss, ev_eq_bb, ev_ne_ii, ev_ne_ss, ev_ne_bb, ev_is_n, ev_isnt_n, ev_int_i, ev_int_b, ev_min_ii, ev_max_ii, ev_abs, ev_tup_of, ev_tup_ofL, ev_lst_ofT, ev_lst_ofL, ev_len_t, ev_len_s, ev_len_r, ev_tru_b, ev_alloc, ev_tupD, ev_lstD, isi_tuple_non, isi_tuple_bl, isi_tuple_int, isi_tuple_str, isi_tuple_tup, isi_tuple_l, isi_tuple_f, isi_list_non, isi_list_bl, isi_list_int, isi_list_str, isi_list_tup, isi_list_l, isi_list_f, isi_bool_non, isi_bool_bl, isi_bool_int, isi_bool_str, isi_bool_tup, isi_bool_l, isi_bool_f, isi_int_non, isi_int_bl, isi_int_int, isi_int_str, isi_int_tup, isi_int_l, isi_int_f, isi_str_non, isi_str_bl, isi_str_int, isi_str_str, isi_str_tup, isi_str_l, isi_str_f, isi_dict_non, isi_dict_bl, isi_dict_int, isi_dict_str, isi_dict_tup, isi_dict_l, isi_dict_f, Ab.isNon, args, List.map, List.length_cons, List.length_nil, List.length_singleton, List.replicate, Nat.reduceSub, Nat.reduceAdd, Nat.zero_add, List.cons_append, List.nil_append, List.getElem?_cons_zero, List.getElem?_cons_succ, List.set_cons_zero, List.set_cons_succ, Option.some.injEq, decide_eq_true_eq, Bool.not_eq_true', decide_eq_false_iff_not, ite_true, ite_false, if_true, if_false, reduceIte, Bool.false_eq_true, Bool.not_true, Bool.not_false, Bool.true_eq_false, decide_true, decide_false, Nat.reduceLeDiff, Nat.reduceLT]
    trivial
  obtain ⟨d, A', e, rfl, rfl⟩ := key.eq
  exact e
theorem bounded_spec {A : AH} {m i j : Nat} {n : Int} {R : Mx} (hm : m ≤ 100) (hi : i < m) (hj : j < m) : Sat (m__law_bounded [matD m R, .int (i : Nat), .int (j : Nat), .int n] A) fun d A' => Gr A A' ∧ d = outD m (if n + R j i < 0 then none else some (bnd i j n R)) := by
  refine sat_body rfl (sat_seq ?_)
  have ln : ∀ A, lenD [matD m R] A = .ok (.int (m : Nat)) A := fun A => by
    show lenD [.tup _] A = _
    rw [ev_len_t]; simp
  have i1 : ∀ {k : Nat} A, k < m → ixD (matD m R) (.int (k : Nat)) A = .ok (rowD m (R k)) A := fun A h => ix_mat h
  have i2 : ∀ {k l : Nat} A, l < m → ixD (rowD m (R k)) (.int (l : Nat)) A = .ok (.int (R k l)) A := fun A h => ix_row h
  obtain ⟨ds, hd, dl⟩ : ∃ ds, matD m R = .tup ds ∧ ds.length = m := ⟨_, rfl, by simp⟩
  simp only [hd] at i1 ln ⊢
  refine sat_ifS (b := decide (n + R j i < 0)) ?_ (fun hb => ?_) (fun hb => ?_)
  · simp only [sat_ok, sat_bad, sat_bind, sat_ite, bind_ok, bind_bad, thn_nx, thn_rt, thn_bk, thn_ct, fin_rt, fin_nx, ev_v, ev_c, ev_op, ev_un, ev_nil, ev_cons, ev_tup, ev_lst, ev_call, ev_own, ev_sl, ev_no, ev_part, ev_and, ev_or, ev_not, ev_if, ev_t, ev_tb, ev_tnot, ev_tand, ev_tor, ev_mt, ev_mt0, ev_rgd, ev_set, ev_asg, ev_ret, ev_retN, ev_ex, ev_pass, ev_brk, ev_cont, ev_ifS, ev_aug, ev_gn, ev_gtp, ev_gnl, ev_gcs, ev_gsb, ev_for, ev_rg1, ev_rg2, ev_its, ev_enum, ev_lc, ev_yes, ev_add_ii, ev_add_ss, ev_add_tt, ev_add_rr, ev_sub, ev_mul, ev_mod, ev_fdiv, ev_pow, ev_neg, ev_lt, ev_le, ev_gt, ev_ge, ev_eq_ii, ev_eq_ss, ev_eq_bb, ev_ne_ii, ev_ne_ss, ev_ne_bb, ev_is_n, ev_isnt_n, ev_int_i, ev_int_b, ev_min_ii, ev_max_ii, ev_abs, ev_tup_of, ev_tup_ofL, ev_lst_ofT, ev_lst_ofL, ev_len_t, ev_len_s, ev_len_r, ev_tru_b, ev_alloc, ev_tupD, ev_lstD, isi_tuple_non, isi_tuple_bl, isi_tuple_int, isi_tuple_str, isi_tuple_tup, isi_tuple_l, isi_tuple_f, isi_list_non, isi_list_bl, isi_list_int, isi_list_str, isi_list_tup, isi_list_l, isi_list_f, isi_bool_non, isi_bool_bl, isi_bool_int, isi_bool_str, isi_bool_tup, isi_bool_l, isi_bool_f, isi_int_non, isi_int_bl, isi_int_int, isi_int_str, isi_int_tup, isi_int_l, isi_int_f, isi_str_non, isi_str_bl, isi_str_int, isi_str_str, isi_str_tup, isi_str_l, isi_str_f, isi_dict_non, isi_dict_bl, isi_dict_int, isi_dict_str, isi_dict_tup, isi_dict_l, isi_dict_f, Ab.isNon, args, List.map, List.length_cons, List.length_nil, List.length_singleton, List.replicate, Nat.reduceSub, Nat.reduceAdd, Nat.zero_add, List.cons_append, List.nil_append, List.getElem?_cons_zero, List.getElem?_cons_succ, List.set_cons_zero, List.set_cons_succ, Option.some.injEq, decide_eq_true_eq, Bool.not_eq_true', decide_eq_false_iff_not, ite_true, ite_false, if_true, if_false, reduceIte, Bool.false_eq_true, Bool.not_true, Bool.not_false, Bool.true_eq_false, decide_true, decide_false, Nat.reduceLeDiff, Nat.reduceLT, i1 A hj, i2 A hi]
  · have hb := of_decide_eq_true hb
    simp only [sat_ok, sat_bad, sat_bind, sat_ite, bind_ok, bind_bad, thn_nx, thn_rt, thn_bk, thn_ct, fin_rt, fin_nx, ev_v, ev_c, ev_op, ev_un, ev_nil, ev_cons, ev_tup, ev_lst, ev_call, ev_own, ev_sl, ev_no, ev_part, ev_and, ev_or, ev_not, ev_if, ev_t, ev_tb, ev_tnot, ev_tand, ev_tor, ev_mt, ev_mt0, ev_rgd, ev_set, ev_asg, ev_ret, ev_retN, ev_ex, ev_pass, ev_brk, ev_cont, ev_ifS, ev_aug, ev_gn, ev_gtp, ev_gnl, ev_gcs, ev_gsb, ev_for, ev_rg1, ev_rg2, ev_its, ev_enum, ev_lc, ev_yes, ev_add_ii, ev_add_ss, ev_add_tt, ev_add_rr, ev_sub, ev_mul, ev_mod, ev_fdiv, ev_pow, ev_neg, ev_lt, ev_le, ev_gt, ev_ge, ev_eq_ii, ev_eq_ss, ev_eq_bb, ev_ne_ii, ev_ne_ss, ev_ne_bb, ev_is_n, ev_isnt_n, ev_int_i, ev_int_b, ev_min_ii, ev_max_ii, ev_abs, ev_tup_of, ev_tup_ofL, ev_lst_ofT, ev_lst_ofL, ev_len_t, ev_len_s, ev_len_r, ev_tru_b, ev_alloc, ev_tupD, ev_lstD, isi_tuple_non, isi_tuple_bl, isi_tuple_int, isi_tuple_str, isi_tuple_tup, isi_tuple_l, isi_tuple_f, isi_list_non, isi_list_bl, isi_list_int, isi_list_str, isi_list_tup, isi_list_l, isi_list_f, isi_bool_non, isi_bool_bl, isi_bool_int, isi_bool_str, isi_bool_tup, isi_bool_l, isi_bool_f, isi_int_non, isi_int_bl, isi_int_int, isi_int_str, isi_int_tup, isi_int_l, isi_int_f, isi_str_non, isi_str_bl, isi_str_int, isi_str_str, isi_str_tup, isi_str_l, isi_str_f, isi_dict_non, isi_dict_bl, isi_dict_int, isi_dict_str, isi_dict_tup, isi_dict_l, isi_dict_f, Ab.isNon, args, List.map, List.length_cons, List.length_nil, List.length_singleton, List.replicate, Nat.reduceSub, Nat.reduceAdd, Nat.zero_add, List.cons_append, List.nil_append, List.getElem?_cons_zero, List.getElem?_cons_succ, List.set_cons_zero, List.set_cons_succ, Option.some.injEq, decide_eq_true_eq, Bool.not_eq_true', decide_eq_false_iff_not, ite_true, ite_false, if_true, if_false, reduceIte, Bool.false_eq_true, Bool.not_true, Bool.not_false, Bool.true_eq_false, decide_true, decide_false, Nat.reduceLeDiff, Nat.reduceLT]
    exact ⟨.refl, by rw [if_pos hb]; rfl⟩
  · have hb := of_decide_eq_false hb
    simp only [sat_ok, sat_bad, sat_bind, sat_ite, bind_ok, bind_bad, thn_nx, thn_rt, thn_bk, thn_ct, fin_rt, fin_nx, ev_v, ev_c, ev_op, ev_un, ev_nil, ev_cons, ev_tup, ev_lst, ev_call, ev_own, ev_sl, ev_no, ev_part, ev_and, ev_or, ev_not, ev_if, ev_t, ev_tb, ev_tnot, ev_tand, ev_tor, ev_mt, ev_mt0, ev_rgd, ev_set, ev_asg, ev_ret, ev_retN, ev_ex, ev_pass, ev_brk, ev_cont, ev_ifS, ev_aug, ev_gn, ev_gtp, ev_gnl, ev_gcs, ev_gsb, ev_for, ev_rg1, ev_rg2, ev_its, ev_enum, ev_lc, ev_yes, ev_add_ii, ev_add_ss, ev_add_tt, ev_add_rr, ev_sub, ev_mul, ev_mod, ev_fdiv, ev_pow, ev_neg, ev_lt, ev_le, ev_gt, ev_ge, ev_eq_ii, ev_eq_ss, ev_eq_bb, ev_ne_ii, ev_ne_ss, ev_ne_bb, ev_is_n, ev_isnt_n, ev_int_i, ev_int_b, ev_min_ii, ev_max_ii, ev_abs, ev_tup_of, ev_tup_ofL, ev_lst_ofT, ev_lst_ofL, ev_len_t, ev_len_s, ev_len_r, ev_tru_b, ev_alloc, ev_tupD, ev_lstD, isi_tuple_non, isi_tuple_bl, isi_tuple_int, isi_tuple_str, isi_tuple_tup, isi_tuple_l, isi_tuple_f, isi_list_non, isi_list_bl, isi_list_int, isi_list_str, isi_list_tup, isi_list_l, isi_list_f, isi_bool_non, isi_bool_bl, isi_bool_int, isi_bool_str, isi_bool_tup, isi_bool_l, isi_bool_f, isi_int_non, isi_int_bl, isi_int_int, isi_int_str, isi_int_tup, isi_int_l, isi_int_f, isi_str_non, isi_str_bl, isi_str_int, isi_str_str, isi_str_tup, isi_str_l, isi_str_f, isi_dict_non, isi_dict_bl, isi_dict_int, isi_dict_str, isi_dict_tup, isi_dict_l, isi_dict_f, Ab.isNon, args, List.map, List.length_cons, List.length_nil, List.length_singleton, List.replicate, Nat.reduceSub, Nat.reduceAdd, Nat.zero_add, List.cons_append, List.nil_append, List.getElem?_cons_zero, List.getElem?_cons_succ, List.set_cons_zero, List.set_cons_succ, Option.some.injEq, decide_eq_true_eq, Bool.not_eq_true', decide_eq_false_iff_not, ite_true, ite_false, if_true, if_false, reduceIte, Bool.false_eq_true, Bool.not_true, Bool.not_false, Bool.true_eq_false, decide_true, decide_false, Nat.reduceLeDiff, Nat.reduceLT]
    refine sat_seq ?_
    simp only [sat_ok, sat_bad, sat_bind, sat_ite, bind_ok, bind_bad, thn_nx, thn_rt, thn_bk, thn_ct, fin_rt, fin_nx, ev_v, ev_c, ev_op, ev_un, ev_nil, ev_cons, ev_tup, ev_lst, ev_call, ev_own, ev_sl, ev_no, ev_part, ev_and, ev_or, ev_not, ev_if, ev_t, ev_tb, ev_tnot, ev_tand, ev_tor, ev_mt, ev_mt0, ev_rgd, ev_set, ev_asg, ev_ret, ev_retN, ev_ex, ev_pass, ev_brk, ev_cont, ev_ifS, ev_aug, ev_gn, ev_gtp, ev_gnl, ev_gcs, ev_gsb, ev_for, ev_rg1, ev_rg2, ev_its, ev_enum, ev_lc, ev_yes, ev_add_ii, ev_add_ss, ev_add_tt, ev_add_rr, ev_sub, ev_mul, ev_mod, ev_fdiv, ev_pow, ev_neg, ev_lt, ev_le, ev_gt, ev_ge, ev_eq_ii, ev_eq_ss, ev_eq_bb, ev_ne_ii, ev_ne_ss, ev_ne_bb, ev_is_n, ev_isnt_n, ev_int_i, ev_int_b, ev_min_ii, ev_max_ii, ev_abs, ev_tup_of, ev_tup_ofL, ev_lst_ofT, ev_lst_ofL, ev_len_t, ev_len_s, ev_len_r, ev_tru_b, ev_alloc, ev_tupD, ev_lstD, isi_tuple_non, isi_tuple_bl, isi_tuple_int, isi_tuple_str, isi_tuple_tup, isi_tuple_l, isi_tuple_f, isi_list_non, isi_list_bl, isi_list_int, isi_list_str, isi_list_tup, isi_list_l, isi_list_f, isi_bool_non, isi_bool_bl, isi_bool_int, isi_bool_str, isi_bool_tup, isi_bool_l, isi_bool_f, isi_int_non, isi_int_bl, isi_int_int, isi_int_str, isi_int_tup, isi_int_l, isi_int_f, isi_str_non, isi_str_bl, isi_str_int, isi_str_str, isi_str_tup, isi_str_l, isi_str_f, isi_dict_non, isi_dict_bl, isi_dict_int, isi_dict_str, isi_dict_tup, isi_dict_l, isi_dict_f, Ab.isNon, args, List.map, List.length_cons, List.length_nil, List.length_singleton, List.replicate, Nat.reduceSub, Nat.reduceAdd, Nat.zero_add, List.cons_append, List.nil_append, List.getElem?_cons_zero, List.getElem?_cons_succ, List.set_cons_zero, List.set_cons_succ, Option.some.injEq, decide_eq_true_eq, Bool.not_eq_true', decide_eq_false_iff_not, ite_true, ite_false, if_true, if_false, reduceIte, Bool.false_eq_true, Bool.not_true, Bool.not_false, Bool.true_eq_false, decide_true, decide_false, Nat.reduceLeDiff, Nat.reduceLT]
    refine sat_seq ?_
    simp only [sat_ok, sat_bad, sat_bind, sat_ite, bind_ok, bind_bad, thn_nx, thn_rt, thn_bk, thn_ct, fin_rt, fin_nx, ev_v, ev_c, ev_op, ev_un, ev_nil, ev_cons, ev_tup, ev_lst, ev_call, ev_own, ev_sl, ev_no, ev_part, ev_and, ev_or, ev_not, ev_if, ev_t, ev_tb, ev_tnot, ev_tand, ev_tor, ev_mt, ev_mt0, ev_rgd, ev_set, ev_asg, ev_ret, ev_retN, ev_ex, ev_pass, ev_brk, ev_cont, ev_ifS, ev_aug, ev_gn, ev_gtp, ev_gnl, ev_gcs, ev_gsb, ev_for, ev_rg1, ev_rg2, ev_its, ev_enum, ev_lc, ev_yes, ev_add_ii, ev_add_ss, ev_add_tt, ev_add_rr, ev_sub, ev_mul, ev_mod, ev_fdiv, ev_pow, ev_neg, ev_lt, ev_le, ev_gt, ev_ge, ev_eq_ii, ev_eq_ss, ev_eq_bb, ev_ne_ii, ev_ne_ss, ev_ne_bb, ev_is_n, ev_isnt_n, ev_int_i, ev_int_b, ev_min_ii, ev_max_ii, ev_abs, ev_tup_of, ev_tup_ofL, ev_lst_ofT, ev_lst_ofL, ev_len_t, ev_len_s, ev_len_r, ev_tru_b, ev_alloc, ev_tupD, ev_lstD, isi_tuple_non, isi_tuple_bl, isi_tuple_int, isi_tuple_str, isi_tuple_tup, isi_tuple_l, isi_tuple_f, isi_list_non, isi_list_bl, isi_list_int, isi_list_str, isi_list_tup, isi_list_l, isi_list_f, isi_bool_non, isi_bool_bl, isi_bool_int, isi_bool_str, isi_bool_tup, isi_bool_l, isi_bool_f, isi_int_non, isi_int_bl, isi_int_int, isi_int_str, isi_int_tup, isi_int_l, isi_int_f, isi_str_non, isi_str_bl, isi_str_int, isi_str_str, isi_str_tup, isi_str_l, isi_str_f, isi_dict_non, isi_dict_bl, isi_dict_int, isi_dict_str, isi_dict_tup, isi_dict_l, isi_dict_f, Ab.isNon, args, List.map, List.length_cons, List.length_nil, List.length_singleton, List.replicate, Nat.reduceSub, Nat.reduceAdd, Nat.zero_add, List.cons_append, List.nil_append, List.getElem?_cons_zero, List.getElem?_cons_succ, List.set_cons_zero, List.set_cons_succ, Option.some.injEq, decide_eq_true_eq, Bool.not_eq_true', decide_eq_false_iff_not, ite_true, ite_false, if_true, if_false, reduceIte, Bool.false_eq_true, Bool.not_true, Bool.not_false, Bool.true_eq_false, decide_true, decide_false, Nat.reduceLeDiff, Nat.reduceLT, dl]
    rw [if_pos (inRg_of (by omega) (by omega)), Int.toNat_natCast]
    refine range_inv (fun k σ B => Gr A B ∧ B[A.length]? = some (.lst ((List.range k).map fun a => rowD m (bnd i j n R a))) ∧ ∃ x y, σ = [some (.tup ds), some (.int (i : Nat)), some (.int (j : Nat)), some (.int n), some (.ref A.length), x, y, none])
      (fun k σ B hk ⟨G, hB, x, y, hσ⟩ => ?_) (fun σ B ⟨G, hB, x, y, hσ⟩ => ?_) ⟨.app, at_new, none, none, rfl⟩
    · subst hσ
      simp only [sat_ok, sat_bad, sat_bind, sat_ite, bind_ok, bind_bad, thn_nx, thn_rt, thn_bk, thn_ct, fin_rt, fin_nx, ev_v, ev_c, ev_op, ev_un, ev_nil, ev_cons, ev_tup, ev_lst, ev_call, ev_own, ev_sl, ev_no, ev_part, ev_and, ev_or, ev_not, ev_if, ev_t, ev_tb, ev_tnot, ev_tand, ev_tor, ev_mt, ev_mt0, ev_rgd, ev_set, ev_asg, ev_ret, ev_retN, ev_ex, ev_pass, ev_brk, ev_cont, ev_ifS, ev_aug, ev_gn, ev_gtp, ev_gnl, ev_gcs, ev_gsb, ev_for, ev_rg1, ev_rg2, ev_its, ev_enum, ev_lc, ev_yes, ev_add_ii, ev_add_ss, ev_add_tt, ev_add_rr, ev_sub, ev_mul, ev_mod, ev_fdiv, ev_pow, ev_neg, ev_lt, ev_le, ev_gt, ev_ge, ev_eq_ii, ev_eq_ss, ev_eq_bb, ev_ne_ii, ev_ne_ss, ev_ne_bb, ev_is_n, ev_isnt_n, ev_int_i, ev_int_b, ev_min_ii, ev_max_ii, ev_abs, ev_tup_of, ev_tup_ofL, ev_lst_ofT, ev_lst_ofL, ev_len_t, ev_len_s, ev_len_r, ev_tru_b, ev_alloc, ev_tupD, ev_lstD, isi_tuple_non, isi_tuple_bl, isi_tuple_int, isi_tuple_str, isi_tuple_tup, isi_tuple_l, isi_tuple_f, isi_list_non, isi_list_bl, isi_list_int, isi_list_str, isi_list_tup, isi_list_l, isi_list_f, isi_bool_non, isi_bool_bl, isi_bool_int, isi_bool_str, isi_bool_tup, isi_bool_l, isi_bool_f, isi_int_non, isi_int_bl, isi_int_int, isi_int_str, isi_int_tup, isi_int_l, isi_int_f, isi_str_non, isi_str_bl, isi_str_int, isi_str_str, isi_str_tup, isi_str_l, isi_str_f, isi_dict_non, isi_dict_bl, isi_dict_int, isi_dict_str, isi_dict_tup, isi_dict_l, isi_dict_f, Ab.isNon, args, List.map, List.length_cons, List.length_nil, List.length_singleton, List.replicate, Nat.reduceSub, Nat.reduceAdd, Nat.zero_add, List.cons_append, List.nil_append, List.getElem?_cons_zero, List.getElem?_cons_succ, List.set_cons_zero, List.set_cons_succ, Option.some.injEq, decide_eq_true_eq, Bool.not_eq_true', decide_eq_false_iff_not, ite_true, ite_false, if_true, if_false, reduceIte, Bool.false_eq_true, Bool.not_true, Bool.not_false, Bool.true_eq_false, decide_true, decide_false, Nat.reduceLeDiff, Nat.reduceLT, Int.zero_add]
      refine sat_seq ?_
      simp only [sat_ok, sat_bad, sat_bind, sat_ite, bind_ok, bind_bad, thn_nx, thn_rt, thn_bk, thn_ct, fin_rt, fin_nx, ev_v, ev_c, ev_op, ev_un, ev_nil, ev_cons, ev_tup, ev_lst, ev_call, ev_own, ev_sl, ev_no, ev_part, ev_and, ev_or, ev_not, ev_if, ev_t, ev_tb, ev_tnot, ev_tand, ev_tor, ev_mt, ev_mt0, ev_rgd, ev_set, ev_asg, ev_ret, ev_retN, ev_ex, ev_pass, ev_brk, ev_cont, ev_ifS, ev_aug, ev_gn, ev_gtp, ev_gnl, ev_gcs, ev_gsb, ev_for, ev_rg1, ev_rg2, ev_its, ev_enum, ev_lc, ev_yes, ev_add_ii, ev_add_ss, ev_add_tt, ev_add_rr, ev_sub, ev_mul, ev_mod, ev_fdiv, ev_pow, ev_neg, ev_lt, ev_le, ev_gt, ev_ge, ev_eq_ii, ev_eq_ss, ev_eq_bb, ev_ne_ii, ev_ne_ss, ev_ne_bb, ev_is_n, ev_isnt_n, ev_int_i, ev_int_b, ev_min_ii, ev_max_ii, ev_abs, ev_tup_of, ev_tup_ofL, ev_lst_ofT, ev_lst_ofL, ev_len_t, ev_len_s, ev_len_r, ev_tru_b, ev_alloc, ev_tupD, ev_lstD, isi_tuple_non, isi_tuple_bl, isi_tuple_int, isi_tuple_str, isi_tuple_tup, isi_tuple_l, isi_tuple_f, isi_list_non, isi_list_bl, isi_list_int, isi_list_str, isi_list_tup, isi_list_l, isi_list_f, isi_bool_non, isi_bool_bl, isi_bool_int, isi_bool_str, isi_bool_tup, isi_bool_l, isi_bool_f, isi_int_non, isi_int_bl, isi_int_int, isi_int_str, isi_int_tup, isi_int_l, isi_int_f, isi_str_non, isi_str_bl, isi_str_int, isi_str_str, isi_str_tup, isi_str_l, isi_str_f, isi_dict_non, isi_dict_bl, isi_dict_int, isi_dict_str, isi_dict_tup, isi_dict_l, isi_dict_f, Ab.isNon, args, List.map, List.length_cons, List.length_nil, List.length_singleton, List.replicate, Nat.reduceSub, Nat.reduceAdd, Nat.zero_add, List.cons_append, List.nil_append, List.getElem?_cons_zero, List.getElem?_cons_succ, List.set_cons_zero, List.set_cons_succ, Option.some.injEq, decide_eq_true_eq, Bool.not_eq_true', decide_eq_false_iff_not, ite_true, ite_false, if_true, if_false, reduceIte, Bool.false_eq_true, Bool.not_true, Bool.not_false, Bool.true_eq_false, decide_true, decide_false, Nat.reduceLeDiff, Nat.reduceLT, i1 B hk, i2 B hi]
      simp only [sat_ok, sat_bad, sat_bind, sat_ite, bind_ok, bind_bad, thn_nx, thn_rt, thn_bk, thn_ct, fin_rt, fin_nx, ev_v, ev_c, ev_op, ev_un, ev_nil, ev_cons, ev_tup, ev_lst, ev_call, ev_own, ev_sl, ev_no, ev_part, ev_and, ev_or, ev_not, ev_if, ev_t, ev_tb, ev_tnot, ev_tand, ev_tor, ev_mt, ev_mt0, ev_rgd, ev_set, ev_asg, ev_ret, ev_retN, ev_ex, ev_pass, ev_brk, ev_cont, ev_ifS, ev_aug, ev_gn, ev_gtp, ev_gnl, ev_gcs, ev_gsb, ev_for, ev_rg1, ev_rg2, ev_its, ev_enum, ev_lc, ev_yes, ev_add_ii, ev_add_ss, ev_add_tt, ev_add_rr, ev_sub, ev_mul, ev_mod, ev_fdiv, ev_pow, ev_neg, ev_lt, ev_le, ev_gt, ev_ge, ev_eq_ii, ev_eq_ss, ev_eq_bb, ev_ne_ii, ev_ne_ss, ev_ne_bb, ev_is_n, ev_isnt_n, ev_int_i, ev_int_b, ev_min_ii, ev_max_ii, ev_abs, ev_tup_of, ev_tup_ofL, ev_lst_ofT, ev_lst_ofL, ev_len_t, ev_len_s, ev_len_r, ev_tru_b, ev_alloc, ev_tupD, ev_lstD, isi_tuple_non, isi_tuple_bl, isi_tuple_int, isi_tuple_str, isi_tuple_tup, isi_tuple_l, isi_tuple_f, isi_list_non, isi_list_bl, isi_list_int, isi_list_str, isi_list_tup, isi_list_l, isi_list_f, isi_bool_non, isi_bool_bl, isi_bool_int, isi_bool_str, isi_bool_tup, isi_bool_l, isi_bool_f, isi_int_non, isi_int_bl, isi_int_int, isi_int_str, isi_int_tup, isi_int_l, isi_int_f, isi_str_non, isi_str_bl, isi_str_int, isi_str_str, isi_str_tup, isi_str_l, isi_str_f, isi_dict_non, isi_dict_bl, isi_dict_int, isi_dict_str, isi_dict_tup, isi_dict_l, isi_dict_f, Ab.isNon, args, List.map, List.length_cons, List.length_nil, List.length_singleton, List.replicate, Nat.reduceSub, Nat.reduceAdd, Nat.zero_add, List.cons_append, List.nil_append, List.getElem?_cons_zero, List.getElem?_cons_succ, List.set_cons_zero, List.set_cons_succ, Option.some.injEq, decide_eq_true_eq, Bool.not_eq_true', decide_eq_false_iff_not, ite_true, ite_false, if_true, if_false, reduceIte, Bool.false_eq_true, Bool.not_true, Bool.not_false, Bool.true_eq_false, decide_true, decide_false, Nat.reduceLeDiff, Nat.reduceLT, ty_l hB, wipeA, dl]
      rw [if_pos (inRg_of (by omega) (by omega)), Int.toNat_natCast]
      refine comp_pure (fun l : Nat => .int (0 + (l : Nat))) (fun l => .int (bnd i j n R k l)) (fun _ => trivial) (fun l hl acc => ?_) (by simp; omega) ?_
      · have hl := List.mem_range.mp hl
        simp only [sat_ok, sat_bad, sat_bind, sat_ite, bind_ok, bind_bad, thn_nx, thn_rt, thn_bk, thn_ct, fin_rt, fin_nx, ev_v, ev_c, ev_op, ev_un, ev_nil, ev_cons, ev_tup, ev_lst, ev_call, ev_own, ev_sl, ev_no, ev_part, ev_and, ev_or, ev_not, ev_if, ev_t, ev_tb, ev_tnot, ev_tand, ev_tor, ev_mt, ev_mt0, ev_rgd, ev_set, ev_asg, ev_ret, ev_retN, ev_ex, ev_pass, ev_brk, ev_cont, ev_ifS, ev_aug, ev_gn, ev_gtp, ev_gnl, ev_gcs, ev_gsb, ev_for, ev_rg1, ev_rg2, ev_its, ev_enum, ev_lc, ev_yes, ev_add_ii, ev_add_ss, ev_add_tt, ev_add_rr, ev_sub, ev_mul, ev_mod, ev_fdiv, ev_pow, ev_neg, ev_lt, ev_le, ev_gt, ev_ge, ev_eq_ii, ev_eq_ss, ev_eq_bb, ev_ne_ii, ev_ne_ss, ev_ne_bb, ev_is_n, ev_isnt_n, ev_int_i, ev_int_b, ev_min_ii, ev_max_ii, ev_abs, ev_tup_of, ev_tup_ofL, ev_lst_ofT, ev_lst_ofL, ev_len_t, ev_len_s, ev_len_r, ev_tru_b, ev_alloc, ev_tupD, ev_lstD, isi_tuple_non, isi_tuple_bl, isi_tuple_int, isi_tuple_str, isi_tuple_tup, isi_tuple_l, isi_tuple_f, isi_list_non, isi_list_bl, isi_list_int, isi_list_str, isi_list_tup, isi_list_l, isi_list_f, isi_bool_non, isi_bool_bl, isi_bool_int, isi_bool_str, isi_bool_tup, isi_bool_l, isi_bool_f, isi_int_non, isi_int_bl, isi_int_int, isi_int_str, isi_int_tup, isi_int_l, isi_int_f, isi_str_non, isi_str_bl, isi_str_int, isi_str_str, isi_str_tup, isi_str_l, isi_str_f, isi_dict_non, isi_dict_bl, isi_dict_int, isi_dict_str, isi_dict_tup, isi_dict_l, isi_dict_f, Ab.isNon, args, List.map, List.length_cons, List.length_nil, List.length_singleton, List.replicate, Nat.reduceSub, Nat.reduceAdd, Nat.zero_add, List.cons_append, List.nil_append, List.getElem?_cons_zero, List.getElem?_cons_succ, List.set_cons_zero, List.set_cons_succ, Option.some.injEq, decide_eq_true_eq, Bool.not_eq_true', decide_eq_false_iff_not, ite_true, ite_false, if_true, if_false, reduceIte, Bool.false_eq_true, Bool.not_true, Bool.not_false, Bool.true_eq_false, decide_true, decide_false, Nat.reduceLeDiff, Nat.reduceLT, Int.zero_add]
        rw [i1 _ hk, sat_ok, i2 _ hl, sat_ok, i1 _ hj, sat_ok, i2 _ hl]
        simp only [sat_ok, sat_bad, sat_bind, sat_ite, bind_ok, bind_bad, thn_nx, thn_rt, thn_bk, thn_ct, fin_rt, fin_nx, ev_v, ev_c, ev_op, ev_un, ev_nil, ev_cons, ev_tup, ev_lst, ev_call, ev_own, ev_sl, ev_no, ev_part, ev_and, ev_or, ev_not, ev_if, ev_t, ev_tb, ev_tnot, ev_tand, ev_tor, ev_mt, ev_mt0, ev_rgd, ev_set, ev_asg, ev_ret, ev_retN, ev_ex, ev_pass, ev_brk, ev_cont, ev_ifS, ev_aug, ev_gn, ev_gtp, ev_gnl, ev_gcs, ev_gsb, ev_for, ev_rg1, ev_rg2, ev_its, ev_enum, ev_lc, ev_yes, ev_add_ii, ev_add_ss, ev_add_tt, ev_add_rr, ev_sub, ev_mul, ev_mod, ev_fdiv, ev_pow, ev_neg, ev_lt, ev_le, ev_gt, ev_ge, ev_eq_ii, ev_eq_ss, ev_eq_bb, ev_ne_ii, ev_ne_ss, ev_ne_bb, ev_is_n, ev_isnt_n, ev_int_i, ev_int_b, ev_min_ii, ev_max_ii, ev_abs, ev_tup_of, ev_tup_ofL, ev_lst_ofT, ev_lst_ofL, ev_len_t, ev_len_s, ev_len_r, ev_tru_b, ev_alloc, ev_tupD, ev_lstD, isi_tuple_non, isi_tuple_bl, isi_tuple_int, isi_tuple_str, isi_tuple_tup, isi_tuple_l, isi_tuple_f, isi_list_non, isi_list_bl, isi_list_int, isi_list_str, isi_list_tup, isi_list_l, isi_list_f, isi_bool_non, isi_bool_bl, isi_bool_int, isi_bool_str, isi_bool_tup, isi_bool_l, isi_bool_f, isi_int_non, isi_int_bl, isi_int_int, isi_int_str, isi_int_tup, isi_int_l, isi_int_f, isi_str_non, isi_str_bl, isi_str_int, isi_str_str, isi_str_tup, isi_str_l, isi_str_f, isi_dict_non, isi_dict_bl, isi_dict_int, isi_dict_str, isi_dict_tup, isi_dict_l, isi_dict_f, Ab.isNon, args, List.map, List.length_cons, List.length_nil, List.length_singleton, List.replicate, Nat.reduceSub, Nat.reduceAdd, Nat.zero_add, List.cons_append, List.nil_append, List.getElem?_cons_zero, List.getElem?_cons_succ, List.set_cons_zero, List.set_cons_succ, Option.some.injEq, decide_eq_true_eq, Bool.not_eq_true', decide_eq_false_iff_not, ite_true, ite_false, if_true, if_false, reduceIte, Bool.false_eq_true, Bool.not_true, Bool.not_false, Bool.true_eq_false, decide_true, decide_false, Nat.reduceLeDiff, Nat.reduceLT]
        exact ⟨rfl, trivial⟩
      · have hB2 := (Gr.app (B := [.lst ((List.range m).map fun l => .int (bnd i j n R k l))])).keep _ _ hB
        have at1 := at_new (A := B) (o := .lst ((List.range m).map fun l => .int (bnd i j n R k l)))
        simp only [sat_ok, sat_bad, sat_bind, sat_ite, bind_ok, bind_bad, thn_nx, thn_rt, thn_bk, thn_ct, fin_rt, fin_nx, ev_v, ev_c, ev_op, ev_un, ev_nil, ev_cons, ev_tup, ev_lst, ev_call, ev_own, ev_sl, ev_no, ev_part, ev_and, ev_or, ev_not, ev_if, ev_t, ev_tb, ev_tnot, ev_tand, ev_tor, ev_mt, ev_mt0, ev_rgd, ev_set, ev_asg, ev_ret, ev_retN, ev_ex, ev_pass, ev_brk, ev_cont, ev_ifS, ev_aug, ev_gn, ev_gtp, ev_gnl, ev_gcs, ev_gsb, ev_for, ev_rg1, ev_rg2, ev_its, ev_enum, ev_lc, ev_yes, ev_add_ii, ev_add_ss, ev_add_tt, ev_add_rr, ev_sub, ev_mul, ev_mod, ev_fdiv, ev_pow, ev_neg, ev_lt, ev_le, ev_gt, ev_ge, ev_eq_ii, ev_eq_ss, ev_eq_bb, ev_ne_ii, ev_ne_ss, ev_ne_bb, ev_is_n, ev_isnt_n, ev_int_i, ev_int_b, ev_min_ii, ev_max_ii, ev_abs, ev_tup_of, ev_tup_ofL, ev_lst_ofT, ev_lst_ofL, ev_len_t, ev_len_s, ev_len_r, ev_tru_b, ev_alloc, ev_tupD, ev_lstD, isi_tuple_non, isi_tuple_bl, isi_tuple_int, isi_tuple_str, isi_tuple_tup, isi_tuple_l, isi_tuple_f, isi_list_non, isi_list_bl, isi_list_int, isi_list_str, isi_list_tup, isi_list_l, isi_list_f, isi_bool_non, isi_bool_bl, isi_bool_int, isi_bool_str, isi_bool_tup, isi_bool_l, isi_bool_f, isi_int_non, isi_int_bl, isi_int_int, isi_int_str, isi_int_tup, isi_int_l, isi_int_f, isi_str_non, isi_str_bl, isi_str_int, isi_str_str, isi_str_tup, isi_str_l, isi_str_f, isi_dict_non, isi_dict_bl, isi_dict_int, isi_dict_str, isi_dict_tup, isi_dict_l, isi_dict_f, Ab.isNon, args, List.map, List.length_cons, List.length_nil, List.length_singleton, List.replicate, Nat.reduceSub, Nat.reduceAdd, Nat.zero_add, List.cons_append, List.nil_append, List.getElem?_cons_zero, List.getElem?_cons_succ, List.set_cons_zero, List.set_cons_succ, Option.some.injEq, decide_eq_true_eq, Bool.not_eq_true', decide_eq_false_iff_not, ite_true, ite_false, if_true, if_false, reduceIte, Bool.false_eq_true, Bool.not_true, Bool.not_false, Bool.true_eq_false, decide_true, decide_false, Nat.reduceLeDiff, Nat.reduceLT, ev_tup_ofL (rdL_l at1)]
        rw [ev_app hB2 (by simp; omega)]
        simp only [sat_ok, sat_bad, sat_bind, sat_ite, bind_ok, bind_bad, thn_nx, thn_rt, thn_bk, thn_ct, fin_rt, fin_nx, ev_v, ev_c, ev_op, ev_un, ev_nil, ev_cons, ev_tup, ev_lst, ev_call, ev_own, ev_sl, ev_no, ev_part, ev_and, ev_or, ev_not, ev_if, ev_t, ev_tb, ev_tnot, ev_tand, ev_tor, ev_mt, ev_mt0, ev_rgd, ev_set, ev_asg, ev_ret, ev_retN, ev_ex, ev_pass, ev_brk, ev_cont, ev_ifS, ev_aug, ev_gn, ev_gtp, ev_gnl, ev_gcs, ev_gsb, ev_for, ev_rg1, ev_rg2, ev_its, ev_enum, ev_lc, ev_yes, ev_add_ii, ev_add_ss, ev_add_tt, ev_add_rr, ev_sub, ev_mul, ev_mod, ev_fdiv, ev_pow, ev_neg, ev_lt, ev_le, ev_gt, ev_ge, ev_eq_ii, ev_eq_ss, ev_eq_bb, ev_ne_ii, ev_ne_ss, ev_ne_bb, ev_is_n, ev_isnt_n, ev_int_i, ev_int_b, ev_min_ii, ev_max_ii, ev_abs, ev_tup_of, ev_tup_ofL, ev_lst_ofT, ev_lst_ofL, ev_len_t, ev_len_s, ev_len_r, ev_tru_b, ev_alloc, ev_tupD, ev_lstD, isi_tuple_non, isi_tuple_bl, isi_tuple_int, isi_tuple_str, isi_tuple_tup, isi_tuple_l, isi_tuple_f, isi_list_non, isi_list_bl, isi_list_int, isi_list_str, isi_list_tup, isi_list_l, isi_list_f, isi_bool_non, isi_bool_bl, isi_bool_int, isi_bool_str, isi_bool_tup, isi_bool_l, isi_bool_f, isi_int_non, isi_int_bl, isi_int_int, isi_int_str, isi_int_tup, isi_int_l, isi_int_f, isi_str_non, isi_str_bl, isi_str_int, isi_str_str, isi_str_tup, isi_str_l, isi_str_f, isi_dict_non, isi_dict_bl, isi_dict_int, isi_dict_str, isi_dict_tup, isi_dict_l, isi_dict_f, Ab.isNon, args, List.map, List.length_cons, List.length_nil, List.length_singleton, List.replicate, Nat.reduceSub, Nat.reduceAdd, Nat.zero_add, List.cons_append, List.nil_append, List.getElem?_cons_zero, List.getElem?_cons_succ, List.set_cons_zero, List.set_cons_succ, Option.some.injEq, decide_eq_true_eq, Bool.not_eq_true', decide_eq_false_iff_not, ite_true, ite_false, if_true, if_false, reduceIte, Bool.false_eq_true, Bool.not_true, Bool.not_false, Bool.true_eq_false, decide_true, decide_false, Nat.reduceLeDiff, Nat.reduceLT, turn_]
        refine ⟨(G.trans .app).set (Nat.le_refl _), ?_, _, _, rfl⟩
        rw [at_set (at_lt hB2), List.range_succ (n := k), List.map_append]; rfl
    · subst hσ
      simp only [sat_ok, sat_bad, sat_bind, sat_ite, bind_ok, bind_bad, thn_nx, thn_rt, thn_bk, thn_ct, fin_rt, fin_nx, ev_v, ev_c, ev_op, ev_un, ev_nil, ev_cons, ev_tup, ev_lst, ev_call, ev_own, ev_sl, ev_no, ev_part, ev_and, ev_or, ev_not, ev_if, ev_t, ev_tb, ev_tnot, ev_tand, ev_tor, ev_mt, ev_mt0, ev_rgd, ev_set, ev_asg, ev_ret, ev_retN, ev_ex, ev_pass, ev_brk, ev_cont, ev_ifS, ev_aug, ev_gn, ev_gtp, ev_gnl, ev_gcs, ev_gsb, ev_for, ev_rg1, ev_rg2, ev_its, ev_enum, ev_lc, ev_yes, ev_add_ii, ev_add_ss, ev_add_tt, ev_add_rr, ev_sub, ev_mul, ev_mod, ev_fdiv, ev_pow, ev_neg, ev_lt, ev_le, ev_gt, ev_ge, ev_eq_ii, ev_eq_ss, ev_eq_bb, ev_ne_ii, ev_ne_ss, ev_ne_bb, ev_is_n, ev_isnt_n, ev_int_i, ev_int_b, ev_min_ii, ev_max_ii, ev_abs, ev_tup_of, ev_tup_ofL, ev_lst_ofT, ev_lst_ofL, ev_len_t, ev_len_s, ev_len_r, ev_tru_b, ev_alloc, ev_tupD, ev_lstD, isi_tuple_non, isi_tuple_bl, isi_tuple_int, isi_tuple_str, isi_tuple_tup, isi_tuple_l, isi_tuple_f, isi_list_non, isi_list_bl, isi_list_int, isi_list_str, isi_list_tup, isi_list_l, isi_list_f, isi_bool_non, isi_bool_bl, isi_bool_int, isi_bool_str, isi_bool_tup, isi_bool_l, isi_bool_f, isi_int_non, isi_int_bl, isi_int_int, isi_int_str, isi_int_tup, isi_int_l, isi_int_f, isi_str_non, isi_str_bl, isi_str_int, isi_str_str, isi_str_tup, isi_str_l, isi_str_f, isi_dict_non, isi_dict_bl, isi_dict_int, isi_dict_str, isi_dict_tup, isi_dict_l, isi_dict_f, Ab.isNon, args, List.map, List.length_cons, List.length_nil, List.length_singleton, List.replicate, Nat.reduceSub, Nat.reduceAdd, Nat.zero_add, List.cons_append, List.nil_append, List.getElem?_cons_zero, List.getElem?_cons_succ, List.set_cons_zero, List.set_cons_succ, Option.some.injEq, decide_eq_true_eq, Bool.not_eq_true', decide_eq_false_iff_not, ite_true, ite_false, if_true, if_false, reduceIte, Bool.false_eq_true, Bool.not_true, Bool.not_false, Bool.true_eq_false, decide_true, decide_false, Nat.reduceLeDiff, Nat.reduceLT, ev_tup_ofL (rdL_l hB)]
      exact ⟨G, by rw [if_neg hb]; rfl⟩
/-! ### closed by bounds -/
theorem ints_of (xs : List Int) : intsOf (xs.map D.int) = some xs := by
  induction xs with
  | nil => rfl
  | cons x xs ih => show (match intsOf (xs.map D.int) with | some is => some (x :: is) | none => none) = _; rw [ih]
theorem ev_sum_l {A : AH} {r : Nat} {xs : List Int} (h : A[r]? = some (.lst (xs.map D.int))) : sumD [.ref r] A = .ok (.int xs.sum) A := by
  show (match rdL A (.ref r) with
    | some xs => (match intsOf xs with
      | some is => Res.ok (D.int is.sum) A
      | _ => .bad)
    | none => .bad) = _
  rw [rdL_l h]
  simp only [ints_of]
theorem sum_ge : ∀ {xs : List Int}, (∀ x ∈ xs, 0 ≤ x) → 0 ≤ xs.sum ∧ ∀ x ∈ xs, x ≤ xs.sum
  | [], _ => ⟨by simp, fun x h => by cases h⟩
  | y :: xs, h => by
    obtain ⟨h1, h2⟩ := sum_ge fun x hx => h x (List.mem_cons_of_mem _ hx)
    have h3 := h y (List.mem_cons_self ..)
    rw [List.sum_cons]
    refine ⟨by omega, fun x hx => ?_⟩
    rcases List.mem_cons.mp hx with e | e
    · omega
    · have := h2 x e; omega
def absI (x : Int) : Int := if x < 0 then -x else x
theorem rep_spec {A : AH} {r m : Nat} {d : D} (h : A[r]? = some (.lst [d])) (hm : m ≤ 1000) : mulD (.ref r) (.int (m : Nat)) A = .ok (.ref A.length) (A ++ [.lst ((List.range m).map fun _ => d)]) := by
  have e : (List.replicate m [d]).flatten = (List.range m).map fun _ => d := by
    apply List.ext_getElem
    · simp
    · intro a h1 h2
      rw [List.getElem_map]
      have hm : (List.replicate m [d]).flatten[a] ∈ (List.replicate m [d]).flatten := List.getElem_mem _
      obtain ⟨l, hl, hx⟩ := List.mem_flatten.mp hm
      rw [(List.mem_replicate.mp hl).2] at hx
      exact List.mem_singleton.mp hx
  show (match muL A (.ref r) with
    | some xs => if -(2 ^ 63) ≤ ((m : Nat) : Int) ∧ ((m : Nat) : Int) < 2 ^ 63 ∧ xs.length * ((m : Nat) : Int).toNat ≤ sizeLine then Ab.alloc (.lst (List.replicate ((m : Nat) : Int).toNat xs).flatten) A else .bad
    | _ => .bad) = _
  rw [muL_l h]
  show (if _ then _ else _) = _
  rw [if_pos ⟨by omega, by omega, sl_le (by rw [Int.toNat_natCast, List.length_singleton]; omega)⟩, Int.toNat_natCast, e]
  rfl
theorem closed_spec {A : AH} {m : Nat} {M : Mx} (hm : m ≤ 100) (h0 : 0 < m) : Sat (m__law_closed [matD m M] A) fun d A' => Gr A A' ∧ ∃ o, d = outD m o ∧ Closes m M o := by
  refine sat_body rfl (sat_seq ?_)
  have ln : ∀ A, lenD [matD m M] A = .ok (.int (m : Nat)) A := fun A => by
    show lenD [.tup _] A = _
    rw [ev_len_t]; simp
  have its : ∀ A, iSeq (matD m M) A = .ok ⟨(List.range m).map fun i => rowD m (M i), yes⟩ A := fun A => rfl
  have itr : ∀ i A, iSeq (rowD m (M i)) A = .ok ⟨(List.range m).map fun j => .int (M i j), yes⟩ A := fun i A => rfl
  have i1 : ∀ {k : Nat} A, k < m → ixD (matD m M) (.int (k : Nat)) A = .ok (rowD m (M k)) A := fun A h => ix_mat h
  have i2 : ∀ {k l : Nat} A, l < m → ixD (rowD m (M k)) (.int (l : Nat)) A = .ok (.int (M k l)) A := fun A h => ix_row h
  simp only [sat_ok, sat_bad, sat_bind, sat_ite, bind_ok, bind_bad, thn_nx, thn_rt, thn_bk, thn_ct, fin_rt, fin_nx, ev_v, ev_c, ev_op, ev_un, ev_nil, ev_cons, ev_tup, ev_lst, ev_call, ev_own, ev_sl, ev_no, ev_part, ev_and, ev_or, ev_not, ev_if, ev_t, ev_tb, ev_tnot, ev_tand, ev_tor, ev_mt, ev_mt0, ev_rgd, ev_set, ev_asg, ev_ret, ev_retN, ev_ex, ev_pass, ev_brk, ev_cont, ev_ifS, ev_aug, ev_gn, ev_gtp, ev_gnl, ev_gcs, ev_gsb, ev_for, ev_rg1, ev_rg2, ev_its, ev_enum, ev_lc, ev_yes, ev_add_ii, ev_add_ss, ev_add_tt, ev_add_rr, ev_sub, ev_mul, ev_mod, ev_fdiv, ev_pow, ev_neg, ev_lt, ev_le, ev_gt, ev_ge, ev_eq_ii, ev_eq_ss, ev_eq_bb, ev_ne_ii, ev_ne_ss, ev_ne_bb, ev_is_n, ev_isnt_n, ev_int_i, ev_int_b, ev_min_ii, ev_max_ii, ev_abs, ev_tup_of, ev_tup_ofL, ev_lst_ofT, ev_lst_ofL, ev_len_t, ev_len_s, ev_len_r, ev_tru_b, ev_alloc, ev_tupD, ev_lstD, isi_tuple_non, isi_tuple_bl, isi_tuple_int, isi_tuple_str, isi_tuple_tup, isi_tuple_l, isi_tuple_f, isi_list_non, isi_list_bl, isi_list_int, isi_list_str, isi_list_tup, isi_list_l, isi_list_f, isi_bool_non, isi_bool_bl, isi_bool_int, isi_bool_str, isi_bool_tup, isi_bool_l, isi_bool_f, isi_int_non, isi_int_bl, isi_int_int, isi_int_str, isi_int_tup, isi_int_l, isi_int_f, isi_str_non, isi_str_bl, isi_str_int, isi_str_str, isi_str_tup, isi_str_l, isi_str_f, isi_dict_non, isi_dict_bl, isi_dict_int, isi_dict_str, isi_dict_tup, isi_dict_l, isi_dict_f, Ab.isNon, args, List.map, List.length_cons, List.length_nil, List.length_singleton, List.replicate, Nat.reduceSub, Nat.reduceAdd, Nat.zero_add, List.cons_append, List.nil_append, List.getElem?_cons_zero, List.getElem?_cons_succ, List.set_cons_zero, List.set_cons_succ, Option.some.injEq, decide_eq_true_eq, Bool.not_eq_true', decide_eq_false_iff_not, ite_true, ite_false, if_true, if_false, reduceIte, Bool.false_eq_true, Bool.not_true, Bool.not_false, Bool.true_eq_false, decide_true, decide_false, Nat.reduceLeDiff, Nat.reduceLT, ln]
  refine sat_seq ?_
  simp only [sat_ok, sat_bad, sat_bind, sat_ite, bind_ok, bind_bad, thn_nx, thn_rt, thn_bk, thn_ct, fin_rt, fin_nx, ev_v, ev_c, ev_op, ev_un, ev_nil, ev_cons, ev_tup, ev_lst, ev_call, ev_own, ev_sl, ev_no, ev_part, ev_and, ev_or, ev_not, ev_if, ev_t, ev_tb, ev_tnot, ev_tand, ev_tor, ev_mt, ev_mt0, ev_rgd, ev_set, ev_asg, ev_ret, ev_retN, ev_ex, ev_pass, ev_brk, ev_cont, ev_ifS, ev_aug, ev_gn, ev_gtp, ev_gnl, ev_gcs, ev_gsb, ev_for, ev_rg1, ev_rg2, ev_its, ev_enum, ev_lc, ev_yes, ev_add_ii, ev_add_ss, ev_add_tt, ev_add_rr, ev_sub, ev_mul, ev_mod, ev_fdiv, ev_pow, ev_neg, ev_lt, ev_le, ev_gt, ev_ge, ev_eq_ii, ev_eq_ss, ev_eq_bb, ev_ne_ii, ev_ne_ss, ev_ne_bb, ev_is_n, ev_isnt_n, ev_int_i, ev_int_b, ev_min_ii, ev_max_ii, ev_abs, ev_tup_of, ev_tup_ofL, ev_lst_ofT, ev_lst_ofL, ev_len_t, ev_len_s, ev_len_r, ev_tru_b, ev_alloc, ev_tupD, ev_lstD, isi_tuple_non, isi_tuple_bl, isi_tuple_int, isi_tuple_str, isi_tuple_tup, isi_tuple_l, isi_tuple_f, isi_list_non, isi_list_bl, isi_list_int, isi_list_str, isi_list_tup, isi_list_l, isi_list_f, isi_bool_non, isi_bool_bl, isi_bool_int, isi_bool_str, isi_bool_tup, isi_bool_l, isi_bool_f, isi_int_non, isi_int_bl, isi_int_int, isi_int_str, isi_int_tup, isi_int_l, isi_int_f, isi_str_non, isi_str_bl, isi_str_int, isi_str_str, isi_str_tup, isi_str_l, isi_str_f, isi_dict_non, isi_dict_bl, isi_dict_int, isi_dict_str, isi_dict_tup, isi_dict_l, isi_dict_f, Ab.isNon, args, List.map, List.length_cons, List.length_nil, List.length_singleton, List.replicate, Nat.reduceSub, Nat.reduceAdd, Nat.zero_add, List.cons_append, List.nil_append, List.getElem?_cons_zero, List.getElem?_cons_succ, List.set_cons_zero, List.set_cons_succ, Option.some.injEq, decide_eq_true_eq, Bool.not_eq_true', decide_eq_false_iff_not, ite_true, ite_false, if_true, if_false, reduceIte, Bool.false_eq_true, Bool.not_true, Bool.not_false, Bool.true_eq_false, decide_true, decide_false, Nat.reduceLeDiff, Nat.reduceLT]
  refine sat_seq ?_
  simp only [sat_ok, sat_bad, sat_bind, sat_ite, bind_ok, bind_bad, thn_nx, thn_rt, thn_bk, thn_ct, fin_rt, fin_nx, ev_v, ev_c, ev_op, ev_un, ev_nil, ev_cons, ev_tup, ev_lst, ev_call, ev_own, ev_sl, ev_no, ev_part, ev_and, ev_or, ev_not, ev_if, ev_t, ev_tb, ev_tnot, ev_tand, ev_tor, ev_mt, ev_mt0, ev_rgd, ev_set, ev_asg, ev_ret, ev_retN, ev_ex, ev_pass, ev_brk, ev_cont, ev_ifS, ev_aug, ev_gn, ev_gtp, ev_gnl, ev_gcs, ev_gsb, ev_for, ev_rg1, ev_rg2, ev_its, ev_enum, ev_lc, ev_yes, ev_add_ii, ev_add_ss, ev_add_tt, ev_add_rr, ev_sub, ev_mul, ev_mod, ev_fdiv, ev_pow, ev_neg, ev_lt, ev_le, ev_gt, ev_ge, ev_eq_ii, ev_eq_ss, ev_eq_bb, ev_ne_ii, ev_ne_ss, ev_ne_bb, ev_is_n, ev_isnt_n, ev_int_i, ev_int_b, ev_min_ii, ev_max_ii, ev_abs, ev_tup_of, ev_tup_ofL, ev_lst_ofT, ev_lst_ofL, ev_len_t, ev_len_s, ev_len_r, ev_tru_b, ev_alloc, ev_tupD, ev_lstD, isi_tuple_non, isi_tuple_bl, isi_tuple_int, isi_tuple_str, isi_tuple_tup, isi_tuple_l, isi_tuple_f, isi_list_non, isi_list_bl, isi_list_int, isi_list_str, isi_list_tup, isi_list_l, isi_list_f, isi_bool_non, isi_bool_bl, isi_bool_int, isi_bool_str, isi_bool_tup, isi_bool_l, isi_bool_f, isi_int_non, isi_int_bl, isi_int_int, isi_int_str, isi_int_tup, isi_int_l, isi_int_f, isi_str_non, isi_str_bl, isi_str_int, isi_str_str, isi_str_tup, isi_str_l, isi_str_f, isi_dict_non, isi_dict_bl, isi_dict_int, isi_dict_str, isi_dict_tup, isi_dict_l, isi_dict_f, Ab.isNon, args, List.map, List.length_cons, List.length_nil, List.length_singleton, List.replicate, Nat.reduceSub, Nat.reduceAdd, Nat.zero_add, List.cons_append, List.nil_append, List.getElem?_cons_zero, List.getElem?_cons_succ, List.set_cons_zero, List.set_cons_succ, Option.some.injEq, decide_eq_true_eq, Bool.not_eq_true', decide_eq_false_iff_not, ite_true, ite_false, if_true, if_false, reduceIte, Bool.false_eq_true, Bool.not_true, Bool.not_false, Bool.true_eq_false, decide_true, decide_false, Nat.reduceLeDiff, Nat.reduceLT, its]
  refine for_cnt (fun k σ B => Gr A B ∧ ∃ far : Int, 1 ≤ far ∧ (∀ i j, i < k → j < m → absI (M i j) ≤ far) ∧ ∃ x, σ = [some (matD m M), some (.int (m : Nat)), some (.int far), x, none, none, none, none, none])
    (fun k σ B hk ⟨G, far, f1, f2, x, hσ⟩ => ⟨trivial, ?_⟩) (fun σ B ⟨G, far, f1, f2, x, hσ⟩ => ⟨trivial, ?_⟩) ⟨.refl, 1, by decide, fun i j h _ => absurd h (Nat.not_lt_zero _), none, rfl⟩
  · subst hσ
    simp only [sat_ok, sat_bad, sat_bind, sat_ite, bind_ok, bind_bad, thn_nx, thn_rt, thn_bk, thn_ct, fin_rt, fin_nx, ev_v, ev_c, ev_op, ev_un, ev_nil, ev_cons, ev_tup, ev_lst, ev_call, ev_own, ev_sl, ev_no, ev_part, ev_and, ev_or, ev_not, ev_if, ev_t, ev_tb, ev_tnot, ev_tand, ev_tor, ev_mt, ev_mt0, ev_rgd, ev_set, ev_asg, ev_ret, ev_retN, ev_ex, ev_pass, ev_brk, ev_cont, ev_ifS, ev_aug, ev_gn, ev_gtp, ev_gnl, ev_gcs, ev_gsb, ev_for, ev_rg1, ev_rg2, ev_its, ev_enum, ev_lc, ev_yes, ev_add_ii, ev_add_ss, ev_add_tt, ev_add_rr, ev_sub, ev_mul, ev_mod, ev_fdiv, ev_pow, ev_neg, ev_lt, ev_le, ev_gt, ev_ge, ev_eq_ii, ev_eq_ss, ev_eq_bb, ev_ne_ii, ev_ne_ss, ev_ne_bb, ev_is_n, ev_isnt_n, ev_int_i, ev_int_b, ev_min_ii, ev_max_ii, ev_abs, ev_tup_of, ev_tup_ofL, ev_lst_ofT, ev_lst_ofL, ev_len_t, ev_len_s, ev_len_r, ev_tru_b, ev_alloc, ev_tupD, ev_lstD, isi_tuple_non, isi_tuple_bl, isi_tuple_int, isi_tuple_str, isi_tuple_tup, isi_tuple_l, isi_tuple_f, isi_list_non, isi_list_bl, isi_list_int, isi_list_str, isi_list_tup, isi_list_l, isi_list_f, isi_bool_non, isi_bool_bl, isi_bool_int, isi_bool_str, isi_bool_tup, isi_bool_l, isi_bool_f, isi_int_non, isi_int_bl, isi_int_int, isi_int_str, isi_int_tup, isi_int_l, isi_int_f, isi_str_non, isi_str_bl, isi_str_int, isi_str_str, isi_str_tup, isi_str_l, isi_str_f, isi_dict_non, isi_dict_bl, isi_dict_int, isi_dict_str, isi_dict_tup, isi_dict_l, isi_dict_f, Ab.isNon, args, List.map, List.length_cons, List.length_nil, List.length_singleton, List.replicate, Nat.reduceSub, Nat.reduceAdd, Nat.zero_add, List.cons_append, List.nil_append, List.getElem?_cons_zero, List.getElem?_cons_succ, List.set_cons_zero, List.set_cons_succ, Option.some.injEq, decide_eq_true_eq, Bool.not_eq_true', decide_eq_false_iff_not, ite_true, ite_false, if_true, if_false, reduceIte, Bool.false_eq_true, Bool.not_true, Bool.not_false, Bool.true_eq_false, decide_true, decide_false, Nat.reduceLeDiff, Nat.reduceLT, itr, wipeA]
    refine comp_pure (fun j : Nat => .int (M k j)) (fun j => .int (absI (M k j))) (fun _ => trivial) (fun j hj l => ?_) (by simp; omega) ?_
    · simp only [sat_ok, sat_bad, sat_bind, sat_ite, bind_ok, bind_bad, thn_nx, thn_rt, thn_bk, thn_ct, fin_rt, fin_nx, ev_v, ev_c, ev_op, ev_un, ev_nil, ev_cons, ev_tup, ev_lst, ev_call, ev_own, ev_sl, ev_no, ev_part, ev_and, ev_or, ev_not, ev_if, ev_t, ev_tb, ev_tnot, ev_tand, ev_tor, ev_mt, ev_mt0, ev_rgd, ev_set, ev_asg, ev_ret, ev_retN, ev_ex, ev_pass, ev_brk, ev_cont, ev_ifS, ev_aug, ev_gn, ev_gtp, ev_gnl, ev_gcs, ev_gsb, ev_for, ev_rg1, ev_rg2, ev_its, ev_enum, ev_lc, ev_yes, ev_add_ii, ev_add_ss, ev_add_tt, ev_add_rr, ev_sub, ev_mul, ev_mod, ev_fdiv, ev_pow, ev_neg, ev_lt, ev_le, ev_gt, ev_ge, ev_eq_ii, ev_eq_ss, ev_eq_bb, ev_ne_ii, ev_ne_ss, ev_ne_bb, ev_is_n, ev_isnt_n, ev_int_i, ev_int_b, ev_min_ii, ev_max_ii, ev_abs, ev_tup_of, ev_tup_ofL, ev_lst_ofT, ev_lst_ofL, ev_len_t, ev_len_s, ev_len_r, ev_tru_b, ev_alloc, ev_tupD, ev_lstD, isi_tuple_non, isi_tuple_bl, isi_tuple_int, isi_tuple_str, isi_tuple_tup, isi_tuple_l, isi_tuple_f, isi_list_non, isi_list_bl, isi_list_int, isi_list_str, isi_list_tup, isi_list_l, isi_list_f, isi_bool_non, isi_bool_bl, isi_bool_int, isi_bool_str, isi_bool_tup, isi_bool_l, isi_bool_f, isi_int_non, isi_int_bl, isi_int_int, isi_int_str, isi_int_tup, isi_int_l, isi_int_f, isi_str_non, isi_str_bl, isi_str_int, isi_str_str, isi_str_tup, isi_str_l, isi_str_f, isi_dict_non, isi_dict_bl, isi_dict_int, isi_dict_str, isi_dict_tup, isi_dict_l, isi_dict_f, Ab.isNon, args, List.map, List.length_cons, List.length_nil, List.length_singleton, List.replicate, Nat.reduceSub, Nat.reduceAdd, Nat.zero_add, List.cons_append, List.nil_append, List.getElem?_cons_zero, List.getElem?_cons_succ, List.set_cons_zero, List.set_cons_succ, Option.some.injEq, decide_eq_true_eq, Bool.not_eq_true', decide_eq_false_iff_not, ite_true, ite_false, if_true, if_false, reduceIte, Bool.false_eq_true, Bool.not_true, Bool.not_false, Bool.true_eq_false, decide_true, decide_false, Nat.reduceLeDiff, Nat.reduceLT]
      exact ⟨rfl, trivial⟩
    · have em : ((List.range m).map fun j => D.int (absI (M k j))) = ((List.range m).map fun j => absI (M k j)).map D.int := by rw [List.map_map]; rfl
      have hs : sumD [.ref B.length] (B ++ [.lst ((List.range m).map fun j => D.int (absI (M k j)))]) = .ok (.int ((List.range m).map fun j => absI (M k j)).sum) _ := ev_sum_l (by rw [← em]; exact at_new)
      obtain ⟨s1, s2⟩ := sum_ge (xs := (List.range m).map fun j => absI (M k j)) (fun x hx => by
        obtain ⟨j, _, rfl⟩ := List.mem_map.mp hx
        show 0 ≤ absI (M k j)
        unfold absI
        split <;> omega)
      simp only [sat_ok, sat_bad, sat_bind, sat_ite, bind_ok, bind_bad, thn_nx, thn_rt, thn_bk, thn_ct, fin_rt, fin_nx, ev_v, ev_c, ev_op, ev_un, ev_nil, ev_cons, ev_tup, ev_lst, ev_call, ev_own, ev_sl, ev_no, ev_part, ev_and, ev_or, ev_not, ev_if, ev_t, ev_tb, ev_tnot, ev_tand, ev_tor, ev_mt, ev_mt0, ev_rgd, ev_set, ev_asg, ev_ret, ev_retN, ev_ex, ev_pass, ev_brk, ev_cont, ev_ifS, ev_aug, ev_gn, ev_gtp, ev_gnl, ev_gcs, ev_gsb, ev_for, ev_rg1, ev_rg2, ev_its, ev_enum, ev_lc, ev_yes, ev_add_ii, ev_add_ss, ev_add_tt, ev_add_rr, ev_sub, ev_mul, ev_mod, ev_fdiv, ev_pow, ev_neg, ev_lt, ev_le, ev_gt, ev_ge, ev_eq_ii, ev_eq_ss, ev_eq_bb, ev_ne_ii, ev_ne_ss, ev_ne_bb, ev_is_n, ev_isnt_n, ev_int_i, ev_int_b, ev_min_ii, ev_max_ii, ev_abs, ev_tup_of, ev_tup_ofL, ev_lst_ofT, ev_lst_ofL, ev_len_t, ev_len_s, ev_len_r, ev_tru_b, ev_alloc, ev_tupD, ev_lstD, isi_tuple_non, isi_tuple_bl, isi_tuple_int, isi_tuple_str, isi_tuple_tup, isi_tuple_l, isi_tuple_f, isi_list_non, isi_list_bl, isi_list_int, isi_list_str, isi_list_tup, isi_list_l, isi_list_f, isi_bool_non, isi_bool_bl, isi_bool_int, isi_bool_str, isi_bool_tup, isi_bool_l, isi_bool_f, isi_int_non, isi_int_bl, isi_int_int, isi_int_str, isi_int_tup, isi_int_l, isi_int_f, isi_str_non, isi_str_bl, isi_str_int, isi_str_str, isi_str_tup, isi_str_l, isi_str_f, isi_dict_non, isi_dict_bl, isi_dict_int, isi_dict_str, isi_dict_tup, isi_dict_l, isi_dict_f, Ab.isNon, args, List.map, List.length_cons, List.length_nil, List.length_singleton, List.replicate, Nat.reduceSub, Nat.reduceAdd, Nat.zero_add, List.cons_append, List.nil_append, List.getElem?_cons_zero, List.getElem?_cons_succ, List.set_cons_zero, List.set_cons_succ, Option.some.injEq, decide_eq_true_eq, Bool.not_eq_true', decide_eq_false_iff_not, ite_true, ite_false, if_true, if_false, reduceIte, Bool.false_eq_true, Bool.not_true, Bool.not_false, Bool.true_eq_false, decide_true, decide_false, Nat.reduceLeDiff, Nat.reduceLT, hs, turn_]
      refine ⟨G.trans .app, _, by omega, fun i j hi hj => ?_, _, rfl⟩
      by_cases e : i = k
      · subst e
        have := s2 (absI (M i j)) (List.mem_map.mpr ⟨j, List.mem_range.mpr hj, rfl⟩)
        omega
      · have := f2 i j (by omega) hj
        omega
  subst hσ
  simp only [sat_ok, sat_bad, sat_bind, sat_ite, bind_ok, bind_bad, thn_nx, thn_rt, thn_bk, thn_ct, fin_rt, fin_nx, ev_v, ev_c, ev_op, ev_un, ev_nil, ev_cons, ev_tup, ev_lst, ev_call, ev_own, ev_sl, ev_no, ev_part, ev_and, ev_or, ev_not, ev_if, ev_t, ev_tb, ev_tnot, ev_tand, ev_tor, ev_mt, ev_mt0, ev_rgd, ev_set, ev_asg, ev_ret, ev_retN, ev_ex, ev_pass, ev_brk, ev_cont, ev_ifS, ev_aug, ev_gn, ev_gtp, ev_gnl, ev_gcs, ev_gsb, ev_for, ev_rg1, ev_rg2, ev_its, ev_enum, ev_lc, ev_yes, ev_add_ii, ev_add_ss, ev_add_tt, ev_add_rr, ev_sub, ev_mul, ev_mod, ev_fdiv, ev_pow, ev_neg, ev_lt, ev_le, ev_gt, ev_ge, ev_eq_ii, ev_eq_ss, ev_eq_bb, ev_ne_ii, ev_ne_ss, ev_ne_bb, ev_is_n, ev_isnt_n, ev_int_i, ev_int_b, ev_min_ii, ev_max_ii, ev_abs, ev_tup_of, ev_tup_ofL, ev_lst_ofT, ev_lst_ofL, ev_len_t, ev_len_s, ev_len_r, ev_tru_b, ev_alloc, ev_tupD, ev_lstD, isi_tuple_non, isi_tuple_bl, isi_tuple_int, isi_tuple_str, isi_tuple_tup, isi_tuple_l, isi_tuple_f, isi_list_non, isi_list_bl, isi_list_int, isi_list_str, isi_list_tup, isi_list_l, isi_list_f, isi_bool_non, isi_bool_bl, isi_bool_int, isi_bool_str, isi_bool_tup, isi_bool_l, isi_bool_f, isi_int_non, isi_int_bl, isi_int_int, isi_int_str, isi_int_tup, isi_int_l, isi_int_f, isi_str_non, isi_str_bl, isi_str_int, isi_str_str, isi_str_tup, isi_str_l, isi_str_f, isi_dict_non, isi_dict_bl, isi_dict_int, isi_dict_str, isi_dict_tup, isi_dict_l, isi_dict_f, Ab.isNon, args, List.map, List.length_cons, List.length_nil, List.length_singleton, List.replicate, Nat.reduceSub, Nat.reduceAdd, Nat.zero_add, List.cons_append, List.nil_append, List.getElem?_cons_zero, List.getElem?_cons_succ, List.set_cons_zero, List.set_cons_succ, Option.some.injEq, decide_eq_true_eq, Bool.not_eq_true', decide_eq_false_iff_not, ite_true, ite_false, if_true, if_false, reduceIte, Bool.false_eq_true, Bool.not_true, Bool.not_false, Bool.true_eq_false, decide_true, decide_false, Nat.reduceLeDiff, Nat.reduceLT]
  refine sat_seq ?_
  simp only [sat_ok, sat_bad, sat_bind, sat_ite, bind_ok, bind_bad, thn_nx, thn_rt, thn_bk, thn_ct, fin_rt, fin_nx, ev_v, ev_c, ev_op, ev_un, ev_nil, ev_cons, ev_tup, ev_lst, ev_call, ev_own, ev_sl, ev_no, ev_part, ev_and, ev_or, ev_not, ev_if, ev_t, ev_tb, ev_tnot, ev_tand, ev_tor, ev_mt, ev_mt0, ev_rgd, ev_set, ev_asg, ev_ret, ev_retN, ev_ex, ev_pass, ev_brk, ev_cont, ev_ifS, ev_aug, ev_gn, ev_gtp, ev_gnl, ev_gcs, ev_gsb, ev_for, ev_rg1, ev_rg2, ev_its, ev_enum, ev_lc, ev_yes, ev_add_ii, ev_add_ss, ev_add_tt, ev_add_rr, ev_sub, ev_mul, ev_mod, ev_fdiv, ev_pow, ev_neg, ev_lt, ev_le, ev_gt, ev_ge, ev_eq_ii, ev_eq_ss, ev_eq_bb, ev_ne_ii, ev_ne_ss, ev_ne_bb, ev_is_n, ev_isnt_n, ev_int_i, ev_int_b, ev_min_ii, ev_max_ii, ev_abs, ev_tup_of, ev_tup_ofL, ev_lst_ofT, ev_lst_ofL, ev_len_t, ev_len_s, ev_len_r, ev_tru_b, ev_alloc, ev_tupD, ev_lstD, isi_tuple_non, isi_tuple_bl, isi_tuple_int, isi_tuple_str, isi_tuple_tup, isi_tuple_l, isi_tuple_f, isi_list_non, isi_list_bl, isi_list_int, isi_list_str, isi_list_tup, isi_list_l, isi_list_f, isi_bool_non, isi_bool_bl, isi_bool_int, isi_bool_str, isi_bool_tup, isi_bool_l, isi_bool_f, isi_int_non, isi_int_bl, isi_int_int, isi_int_str, isi_int_tup, isi_int_l, isi_int_f, isi_str_non, isi_str_bl, isi_str_int, isi_str_str, isi_str_tup, isi_str_l, isi_str_f, isi_dict_non, isi_dict_bl, isi_dict_int, isi_dict_str, isi_dict_tup, isi_dict_l, isi_dict_f, Ab.isNon, args, List.map, List.length_cons, List.length_nil, List.length_singleton, List.replicate, Nat.reduceSub, Nat.reduceAdd, Nat.zero_add, List.cons_append, List.nil_append, List.getElem?_cons_zero, List.getElem?_cons_succ, List.set_cons_zero, List.set_cons_succ, Option.some.injEq, decide_eq_true_eq, Bool.not_eq_true', decide_eq_false_iff_not, ite_true, ite_false, if_true, if_false, reduceIte, Bool.false_eq_true, Bool.not_true, Bool.not_false, Bool.true_eq_false, decide_true, decide_false, Nat.reduceLeDiff, Nat.reduceLT]
  refine sat_seq ?_
  simp only [sat_ok, sat_bad, sat_bind, sat_ite, bind_ok, bind_bad, thn_nx, thn_rt, thn_bk, thn_ct, fin_rt, fin_nx, ev_v, ev_c, ev_op, ev_un, ev_nil, ev_cons, ev_tup, ev_lst, ev_call, ev_own, ev_sl, ev_no, ev_part, ev_and, ev_or, ev_not, ev_if, ev_t, ev_tb, ev_tnot, ev_tand, ev_tor, ev_mt, ev_mt0, ev_rgd, ev_set, ev_asg, ev_ret, ev_retN, ev_ex, ev_pass, ev_brk, ev_cont, ev_ifS, ev_aug, ev_gn, ev_gtp, ev_gnl, ev_gcs, ev_gsb, ev_for, ev_rg1, ev_rg2, ev_its, ev_enum, ev_lc, ev_yes, ev_add_ii, ev_add_ss, ev_add_tt, ev_add_rr, ev_sub, ev_mul, ev_mod, ev_fdiv, ev_pow, ev_neg, ev_lt, ev_le, ev_gt, ev_ge, ev_eq_ii, ev_eq_ss, ev_eq_bb, ev_ne_ii, ev_ne_ss, ev_ne_bb, ev_is_n, ev_isnt_n, ev_int_i, ev_int_b, ev_min_ii, ev_max_ii, ev_abs, ev_tup_of, ev_tup_ofL, ev_lst_ofT, ev_lst_ofL, ev_len_t, ev_len_s, ev_len_r, ev_tru_b, ev_alloc, ev_tupD, ev_lstD, isi_tuple_non, isi_tuple_bl, isi_tuple_int, isi_tuple_str, isi_tuple_tup, isi_tuple_l, isi_tuple_f, isi_list_non, isi_list_bl, isi_list_int, isi_list_str, isi_list_tup, isi_list_l, isi_list_f, isi_bool_non, isi_bool_bl, isi_bool_int, isi_bool_str, isi_bool_tup, isi_bool_l, isi_bool_f, isi_int_non, isi_int_bl, isi_int_int, isi_int_str, isi_int_tup, isi_int_l, isi_int_f, isi_str_non, isi_str_bl, isi_str_int, isi_str_str, isi_str_tup, isi_str_l, isi_str_f, isi_dict_non, isi_dict_bl, isi_dict_int, isi_dict_str, isi_dict_tup, isi_dict_l, isi_dict_f, Ab.isNon, args, List.map, List.length_cons, List.length_nil, List.length_singleton, List.replicate, Nat.reduceSub, Nat.reduceAdd, Nat.zero_add, List.cons_append, List.nil_append, List.getElem?_cons_zero, List.getElem?_cons_succ, List.set_cons_zero, List.set_cons_succ, Option.some.injEq, decide_eq_true_eq, Bool.not_eq_true', decide_eq_false_iff_not, ite_true, ite_false, if_true, if_false, reduceIte, Bool.false_eq_true, Bool.not_true, Bool.not_false, Bool.true_eq_false, decide_true, decide_false, Nat.reduceLeDiff, Nat.reduceLT]
  rw [if_pos (inRg_of (by omega) (by omega)), Int.toNat_natCast]
  have lB := G.le
  refine range_inv (fun k σ C => Gr A C ∧ C[B.length]? = some (.lst ((List.range k).map fun i => rowD m fun j => if i = j then 0 else far)) ∧ ∃ x y, σ = [some (matD m M), some (.int (m : Nat)), some (.int far), x, none, some (.ref B.length), y, none, none])
    (fun k σ C hk ⟨G, hC, x, y, hσ⟩ => ?_) (fun σ C ⟨G, hC, x, y, hσ⟩ => ?_) ⟨G.trans .app, at_new, _, none, rfl⟩
  · subst hσ
    simp only [sat_ok, sat_bad, sat_bind, sat_ite, bind_ok, bind_bad, thn_nx, thn_rt, thn_bk, thn_ct, fin_rt, fin_nx, ev_v, ev_c, ev_op, ev_un, ev_nil, ev_cons, ev_tup, ev_lst, ev_call, ev_own, ev_sl, ev_no, ev_part, ev_and, ev_or, ev_not, ev_if, ev_t, ev_tb, ev_tnot, ev_tand, ev_tor, ev_mt, ev_mt0, ev_rgd, ev_set, ev_asg, ev_ret, ev_retN, ev_ex, ev_pass, ev_brk, ev_cont, ev_ifS, ev_aug, ev_gn, ev_gtp, ev_gnl, ev_gcs, ev_gsb, ev_for, ev_rg1, ev_rg2, ev_its, ev_enum, ev_lc, ev_yes, ev_add_ii, ev_add_ss, ev_add_tt, ev_add_rr, ev_sub, ev_mul, ev_mod, ev_fdiv, ev_pow, ev_neg, ev_lt, ev_le, ev_gt, ev_ge, ev_eq_ii, ev_eq_ss, ev_eq_bb, ev_ne_ii, ev_ne_ss, ev_ne_bb, ev_is_n, ev_isnt_n, ev_int_i, ev_int_b, ev_min_ii, ev_max_ii, ev_abs, ev_tup_of, ev_tup_ofL, ev_lst_ofT, ev_lst_ofL, ev_len_t, ev_len_s, ev_len_r, ev_tru_b, ev_alloc, ev_tupD, ev_lstD, isi_tuple_non, isi_tuple_bl, isi_tuple_int, isi_tuple_str, isi_tuple_tup, isi_tuple_l, isi_tuple_f, isi_list_non, isi_list_bl, isi_list_int, isi_list_str, isi_list_tup, isi_list_l, isi_list_f, isi_bool_non, isi_bool_bl, isi_bool_int, isi_bool_str, isi_bool_tup, isi_bool_l, isi_bool_f, isi_int_non, isi_int_bl, isi_int_int, isi_int_str, isi_int_tup, isi_int_l, isi_int_f, isi_str_non, isi_str_bl, isi_str_int, isi_str_str, isi_str_tup, isi_str_l, isi_str_f, isi_dict_non, isi_dict_bl, isi_dict_int, isi_dict_str, isi_dict_tup, isi_dict_l, isi_dict_f, Ab.isNon, args, List.map, List.length_cons, List.length_nil, List.length_singleton, List.replicate, Nat.reduceSub, Nat.reduceAdd, Nat.zero_add, List.cons_append, List.nil_append, List.getElem?_cons_zero, List.getElem?_cons_succ, List.set_cons_zero, List.set_cons_succ, Option.some.injEq, decide_eq_true_eq, Bool.not_eq_true', decide_eq_false_iff_not, ite_true, ite_false, if_true, if_false, reduceIte, Bool.false_eq_true, Bool.not_true, Bool.not_false, Bool.true_eq_false, decide_true, decide_false, Nat.reduceLeDiff, Nat.reduceLT, Int.zero_add]
    refine sat_seq ?_
    have rB := at_lt hC
    have rep := rep_spec (A := C ++ [.lst [.int far]]) (r := C.length) (d := .int far) (m := m) at_new (by omega)
    simp only [sat_ok, sat_bad, sat_bind, sat_ite, bind_ok, bind_bad, thn_nx, thn_rt, thn_bk, thn_ct, fin_rt, fin_nx, ev_v, ev_c, ev_op, ev_un, ev_nil, ev_cons, ev_tup, ev_lst, ev_call, ev_own, ev_sl, ev_no, ev_part, ev_and, ev_or, ev_not, ev_if, ev_t, ev_tb, ev_tnot, ev_tand, ev_tor, ev_mt, ev_mt0, ev_rgd, ev_set, ev_asg, ev_ret, ev_retN, ev_ex, ev_pass, ev_brk, ev_cont, ev_ifS, ev_aug, ev_gn, ev_gtp, ev_gnl, ev_gcs, ev_gsb, ev_for, ev_rg1, ev_rg2, ev_its, ev_enum, ev_lc, ev_yes, ev_add_ii, ev_add_ss, ev_add_tt, ev_add_rr, ev_sub, ev_mul, ev_mod, ev_fdiv, ev_pow, ev_neg, ev_lt, ev_le, ev_gt, ev_ge, ev_eq_ii, ev_eq_ss, ev_eq_bb, ev_ne_ii, ev_ne_ss, ev_ne_bb, ev_is_n, ev_isnt_n, ev_int_i, ev_int_b, ev_min_ii, ev_max_ii, ev_abs, ev_tup_of, ev_tup_ofL, ev_lst_ofT, ev_lst_ofL, ev_len_t, ev_len_s, ev_len_r, ev_tru_b, ev_alloc, ev_tupD, ev_lstD, isi_tuple_non, isi_tuple_bl, isi_tuple_int, isi_tuple_str, isi_tuple_tup, isi_tuple_l, isi_tuple_f, isi_list_non, isi_list_bl, isi_list_int, isi_list_str, isi_list_tup, isi_list_l, isi_list_f, isi_bool_non, isi_bool_bl, isi_bool_int, isi_bool_str, isi_bool_tup, isi_bool_l, isi_bool_f, isi_int_non, isi_int_bl, isi_int_int, isi_int_str, isi_int_tup, isi_int_l, isi_int_f, isi_str_non, isi_str_bl, isi_str_int, isi_str_str, isi_str_tup, isi_str_l, isi_str_f, isi_dict_non, isi_dict_bl, isi_dict_int, isi_dict_str, isi_dict_tup, isi_dict_l, isi_dict_f, Ab.isNon, args, List.map, List.length_cons, List.length_nil, List.length_singleton, List.replicate, Nat.reduceSub, Nat.reduceAdd, Nat.zero_add, List.cons_append, List.nil_append, List.getElem?_cons_zero, List.getElem?_cons_succ, List.set_cons_zero, List.set_cons_succ, Option.some.injEq, decide_eq_true_eq, Bool.not_eq_true', decide_eq_false_iff_not, ite_true, ite_false, if_true, if_false, reduceIte, Bool.false_eq_true, Bool.not_true, Bool.not_false, Bool.true_eq_false, decide_true, decide_false, Nat.reduceLeDiff, Nat.reduceLT, rep]
    have hR := at_new (A := C ++ [AO.lst [.int far]]) (o := .lst ((List.range m).map fun _ => .int far))
    have hC := (Gr.app (B := [.lst ((List.range m).map fun _ => D.int far)])).keep _ _ ((Gr.app (B := [.lst [.int far]])).keep _ _ hC)
    have G := G.trans ((Gr.app (B := [.lst [.int far]])).trans (Gr.app (B := [.lst ((List.range m).map fun _ => D.int far)])))
    have nb : (C ++ [AO.lst [.int far]]).length ≠ B.length := by simp; omega
    have lA : A.length ≤ (C ++ [AO.lst [.int far]]).length := by simp; omega
    generalize C ++ [AO.lst [.int far]] ++ [AO.lst ((List.range m).map fun _ => D.int far)] = C1 at hR hC G ⊢
    generalize (C ++ [AO.lst [.int far]]).length = q at hR nb lA ⊢
    refine sat_seq ?_
    simp only [sat_ok, sat_bad, sat_bind, sat_ite, bind_ok, bind_bad, thn_nx, thn_rt, thn_bk, thn_ct, fin_rt, fin_nx, ev_v, ev_c, ev_op, ev_un, ev_nil, ev_cons, ev_tup, ev_lst, ev_call, ev_own, ev_sl, ev_no, ev_part, ev_and, ev_or, ev_not, ev_if, ev_t, ev_tb, ev_tnot, ev_tand, ev_tor, ev_mt, ev_mt0, ev_rgd, ev_set, ev_asg, ev_ret, ev_retN, ev_ex, ev_pass, ev_brk, ev_cont, ev_ifS, ev_aug, ev_gn, ev_gtp, ev_gnl, ev_gcs, ev_gsb, ev_for, ev_rg1, ev_rg2, ev_its, ev_enum, ev_lc, ev_yes, ev_add_ii, ev_add_ss, ev_add_tt, ev_add_rr, ev_sub, ev_mul, ev_mod, ev_fdiv, ev_pow, ev_neg, ev_lt, ev_le, ev_gt, ev_ge, ev_eq_ii, ev_eq_ss, ev_eq_bb, ev_ne_ii, ev_ne_ss, ev_ne_bb, ev_is_n, ev_isnt_n, ev_int_i, ev_int_b, ev_min_ii, ev_max_ii, ev_abs, ev_tup_of, ev_tup_ofL, ev_lst_ofT, ev_lst_ofL, ev_len_t, ev_len_s, ev_len_r, ev_tru_b, ev_alloc, ev_tupD, ev_lstD, isi_tuple_non, isi_tuple_bl, isi_tuple_int, isi_tuple_str, isi_tuple_tup, isi_tuple_l, isi_tuple_f, isi_list_non, isi_list_bl, isi_list_int, isi_list_str, isi_list_tup, isi_list_l, isi_list_f, isi_bool_non, isi_bool_bl, isi_bool_int, isi_bool_str, isi_bool_tup, isi_bool_l, isi_bool_f, isi_int_non, isi_int_bl, isi_int_int, isi_int_str, isi_int_tup, isi_int_l, isi_int_f, isi_str_non, isi_str_bl, isi_str_int, isi_str_str, isi_str_tup, isi_str_l, isi_str_f, isi_dict_non, isi_dict_bl, isi_dict_int, isi_dict_str, isi_dict_tup, isi_dict_l, isi_dict_f, Ab.isNon, args, List.map, List.length_cons, List.length_nil, List.length_singleton, List.replicate, Nat.reduceSub, Nat.reduceAdd, Nat.zero_add, List.cons_append, List.nil_append, List.getElem?_cons_zero, List.getElem?_cons_succ, List.set_cons_zero, List.set_cons_succ, Option.some.injEq, decide_eq_true_eq, Bool.not_eq_true', decide_eq_false_iff_not, ite_true, ite_false, if_true, if_false, reduceIte, Bool.false_eq_true, Bool.not_true, Bool.not_false, Bool.true_eq_false, decide_true, decide_false, Nat.reduceLeDiff, Nat.reduceLT]
    rw [ev_st_l (j := k) hR (by rw [ixN_pos (by omega) (by simp; omega)]; rfl)]
    have e0 : ((List.range m).map fun _ => D.int far).set k (.int 0) = (List.range m).map fun j => D.int (if j = k then 0 else far) := range_set (f := fun _ => far)
    rw [e0]
    have hR2 := at_set (o := .lst ((List.range m).map fun j => D.int (if j = k then 0 else far))) (at_lt hR)
    have hC2 : (C1.set q (.lst ((List.range m).map fun j => D.int (if j = k then 0 else far))))[B.length]? = some (.lst ((List.range k).map fun i => rowD m fun j => if i = j then 0 else far)) := by rw [List.getElem?_set_ne nb]; exact hC
    have G2 := G.set (o := .lst ((List.range m).map fun j => D.int (if j = k then 0 else far))) lA
    generalize C1.set q (.lst ((List.range m).map fun j => D.int (if j = k then 0 else far))) = C2 at hR2 hC2 G2 ⊢
    simp only [sat_ok, sat_bad, sat_bind, sat_ite, bind_ok, bind_bad, thn_nx, thn_rt, thn_bk, thn_ct, fin_rt, fin_nx, ev_v, ev_c, ev_op, ev_un, ev_nil, ev_cons, ev_tup, ev_lst, ev_call, ev_own, ev_sl, ev_no, ev_part, ev_and, ev_or, ev_not, ev_if, ev_t, ev_tb, ev_tnot, ev_tand, ev_tor, ev_mt, ev_mt0, ev_rgd, ev_set, ev_asg, ev_ret, ev_retN, ev_ex, ev_pass, ev_brk, ev_cont, ev_ifS, ev_aug, ev_gn, ev_gtp, ev_gnl, ev_gcs, ev_gsb, ev_for, ev_rg1, ev_rg2, ev_its, ev_enum, ev_lc, ev_yes, ev_add_ii, ev_add_ss, ev_add_tt, ev_add_rr, ev_sub, ev_mul, ev_mod, ev_fdiv, ev_pow, ev_neg, ev_lt, ev_le, ev_gt, ev_ge, ev_eq_ii, ev_eq_ss, ev_eq_bb, ev_ne_ii, ev_ne_ss, ev_ne_bb, ev_is_n, ev_isnt_n, ev_int_i, ev_int_b, ev_min_ii, ev_max_ii, ev_abs, ev_tup_of, ev_tup_ofL, ev_lst_ofT, ev_lst_ofL, ev_len_t, ev_len_s, ev_len_r, ev_tru_b, ev_alloc, ev_tupD, ev_lstD, isi_tuple_non, isi_tuple_bl, isi_tuple_int, isi_tuple_str, isi_tuple_tup, isi_tuple_l, isi_tuple_f, isi_list_non, isi_list_bl, isi_list_int, isi_list_str, isi_list_tup, isi_list_l, isi_list_f, isi_bool_non, isi_bool_bl, isi_bool_int, isi_bool_str, isi_bool_tup, isi_bool_l, isi_bool_f, isi_int_non, isi_int_bl, isi_int_int, isi_int_str, isi_int_tup, isi_int_l, isi_int_f, isi_str_non, isi_str_bl, isi_str_int, isi_str_str, isi_str_tup, isi_str_l, isi_str_f, isi_dict_non, isi_dict_bl, isi_dict_int, isi_dict_str, isi_dict_tup, isi_dict_l, isi_dict_f, Ab.isNon, args, List.map, List.length_cons, List.length_nil, List.length_singleton, List.replicate, Nat.reduceSub, Nat.reduceAdd, Nat.zero_add, List.cons_append, List.nil_append, List.getElem?_cons_zero, List.getElem?_cons_succ, List.set_cons_zero, List.set_cons_succ, Option.some.injEq, decide_eq_true_eq, Bool.not_eq_true', decide_eq_false_iff_not, ite_true, ite_false, if_true, if_false, reduceIte, Bool.false_eq_true, Bool.not_true, Bool.not_false, Bool.true_eq_false, decide_true, decide_false, Nat.reduceLeDiff, Nat.reduceLT, ty_l hC2, ev_tup_ofL (rdL_l hR2)]
    rw [ev_app hC2 (by simp; omega)]
    simp only [sat_ok, sat_bad, sat_bind, sat_ite, bind_ok, bind_bad, thn_nx, thn_rt, thn_bk, thn_ct, fin_rt, fin_nx, ev_v, ev_c, ev_op, ev_un, ev_nil, ev_cons, ev_tup, ev_lst, ev_call, ev_own, ev_sl, ev_no, ev_part, ev_and, ev_or, ev_not, ev_if, ev_t, ev_tb, ev_tnot, ev_tand, ev_tor, ev_mt, ev_mt0, ev_rgd, ev_set, ev_asg, ev_ret, ev_retN, ev_ex, ev_pass, ev_brk, ev_cont, ev_ifS, ev_aug, ev_gn, ev_gtp, ev_gnl, ev_gcs, ev_gsb, ev_for, ev_rg1, ev_rg2, ev_its, ev_enum, ev_lc, ev_yes, ev_add_ii, ev_add_ss, ev_add_tt, ev_add_rr, ev_sub, ev_mul, ev_mod, ev_fdiv, ev_pow, ev_neg, ev_lt, ev_le, ev_gt, ev_ge, ev_eq_ii, ev_eq_ss, ev_eq_bb, ev_ne_ii, ev_ne_ss, ev_ne_bb, ev_is_n, ev_isnt_n, ev_int_i, ev_int_b, ev_min_ii, ev_max_ii, ev_abs, ev_tup_of, ev_tup_ofL, ev_lst_ofT, ev_lst_ofL, ev_len_t, ev_len_s, ev_len_r, ev_tru_b, ev_alloc, ev_tupD, ev_lstD, isi_tuple_non, isi_tuple_bl, isi_tuple_int, isi_tuple_str, isi_tuple_tup, isi_tuple_l, isi_tuple_f, isi_list_non, isi_list_bl, isi_list_int, isi_list_str, isi_list_tup, isi_list_l, isi_list_f, isi_bool_non, isi_bool_bl, isi_bool_int, isi_bool_str, isi_bool_tup, isi_bool_l, isi_bool_f, isi_int_non, isi_int_bl, isi_int_int, isi_int_str, isi_int_tup, isi_int_l, isi_int_f, isi_str_non, isi_str_bl, isi_str_int, isi_str_str, isi_str_tup, isi_str_l, isi_str_f, isi_dict_non, isi_dict_bl, isi_dict_int, isi_dict_str, isi_dict_tup, isi_dict_l, isi_dict_f, Ab.isNon, args, List.map, List.length_cons, List.length_nil, List.length_singleton, List.replicate, Nat.reduceSub, Nat.reduceAdd, Nat.zero_add, List.cons_append, List.nil_append, List.getElem?_cons_zero, List.getElem?_cons_succ, List.set_cons_zero, List.set_cons_succ, Option.some.injEq, decide_eq_true_eq, Bool.not_eq_true', decide_eq_false_iff_not, ite_true, ite_false, if_true, if_false, reduceIte, Bool.false_eq_true, Bool.not_true, Bool.not_false, Bool.true_eq_false, decide_true, decide_false, Nat.reduceLeDiff, Nat.reduceLT, turn_]
    refine ⟨G2.set lB, ?_, _, _, rfl⟩
    rw [at_set (at_lt hC2), List.range_succ (n := k), List.map_append]
    congr 3
    show [D.tup _] = [D.tup _]
    congr 2
    exact List.map_congr_left fun j _ => by
      show D.int (if j = k then 0 else far) = D.int (if k = j then 0 else far)
      by_cases e : k = j
      · rw [if_pos e, if_pos e.symm]
      · rw [if_neg e, if_neg fun z => e z.symm]
  subst hσ
  simp only [sat_ok, sat_bad, sat_bind, sat_ite, bind_ok, bind_bad, thn_nx, thn_rt, thn_bk, thn_ct, fin_rt, fin_nx, ev_v, ev_c, ev_op, ev_un, ev_nil, ev_cons, ev_tup, ev_lst, ev_call, ev_own, ev_sl, ev_no, ev_part, ev_and, ev_or, ev_not, ev_if, ev_t, ev_tb, ev_tnot, ev_tand, ev_tor, ev_mt, ev_mt0, ev_rgd, ev_set, ev_asg, ev_ret, ev_retN, ev_ex, ev_pass, ev_brk, ev_cont, ev_ifS, ev_aug, ev_gn, ev_gtp, ev_gnl, ev_gcs, ev_gsb, ev_for, ev_rg1, ev_rg2, ev_its, ev_enum, ev_lc, ev_yes, ev_add_ii, ev_add_ss, ev_add_tt, ev_add_rr, ev_sub, ev_mul, ev_mod, ev_fdiv, ev_pow, ev_neg, ev_lt, ev_le, ev_gt, ev_ge, ev_eq_ii, ev_eq_ss, ev_eq_bb, ev_ne_ii, ev_ne_ss, ev_ne_bb, ev_is_n, ev_isnt_n, ev_int_i, ev_int_b, ev_min_ii, ev_max_ii, ev_abs, ev_tup_of, ev_tup_ofL, ev_lst_ofT, ev_lst_ofL, ev_len_t, ev_len_s, ev_len_r, ev_tru_b, ev_alloc, ev_tupD, ev_lstD, isi_tuple_non, isi_tuple_bl, isi_tuple_int, isi_tuple_str, isi_tuple_tup, isi_tuple_l, isi_tuple_f, isi_list_non, isi_list_bl, isi_list_int, isi_list_str, isi_list_tup, isi_list_l, isi_list_f, isi_bool_non, isi_bool_bl, isi_bool_int, isi_bool_str, isi_bool_tup, isi_bool_l, isi_bool_f, isi_int_non, isi_int_bl, isi_int_int, isi_int_str, isi_int_tup, isi_int_l, isi_int_f, isi_str_non, isi_str_bl, isi_str_int, isi_str_str, isi_str_tup, isi_str_l, isi_str_f, isi_dict_non, isi_dict_bl, isi_dict_int, isi_dict_str, isi_dict_tup, isi_dict_l, isi_dict_f, Ab.isNon, args, List.map, List.length_cons, List.length_nil, List.length_singleton, List.replicate, Nat.reduceSub, Nat.reduceAdd, Nat.zero_add, List.cons_append, List.nil_append, List.getElem?_cons_zero, List.getElem?_cons_succ, List.set_cons_zero, List.set_cons_succ, Option.some.injEq, decide_eq_true_eq, Bool.not_eq_true', decide_eq_false_iff_not, ite_true, ite_false, if_true, if_false, reduceIte, Bool.false_eq_true, Bool.not_true, Bool.not_false, Bool.true_eq_false, decide_true, decide_false, Nat.reduceLeDiff, Nat.reduceLT]
  refine sat_seq ?_
  simp only [sat_ok, sat_bad, sat_bind, sat_ite, bind_ok, bind_bad, thn_nx, thn_rt, thn_bk, thn_ct, fin_rt, fin_nx, ev_v, ev_c, ev_op, ev_un, ev_nil, ev_cons, ev_tup, ev_lst, ev_call, ev_own, ev_sl, ev_no, ev_part, ev_and, ev_or, ev_not, ev_if, ev_t, ev_tb, ev_tnot, ev_tand, ev_tor, ev_mt, ev_mt0, ev_rgd, ev_set, ev_asg, ev_ret, ev_retN, ev_ex, ev_pass, ev_brk, ev_cont, ev_ifS, ev_aug, ev_gn, ev_gtp, ev_gnl, ev_gcs, ev_gsb, ev_for, ev_rg1, ev_rg2, ev_its, ev_enum, ev_lc, ev_yes, ev_add_ii, ev_add_ss, ev_add_tt, ev_add_rr, ev_sub, ev_mul, ev_mod, ev_fdiv, ev_pow, ev_neg, ev_lt, ev_le, ev_gt, ev_ge, ev_eq_ii, ev_eq_ss, ev_eq_bb, ev_ne_ii, ev_ne_ss, ev_ne_bb, ev_is_n, ev_isnt_n, ev_int_i, ev_int_b, ev_min_ii, ev_max_ii, ev_abs, ev_tup_of, ev_tup_ofL, ev_lst_ofT, ev_lst_ofL, ev_len_t, ev_len_s, ev_len_r, ev_tru_b, ev_alloc, ev_tupD, ev_lstD, isi_tuple_non, isi_tuple_bl, isi_tuple_int, isi_tuple_str, isi_tuple_tup, isi_tuple_l, isi_tuple_f, isi_list_non, isi_list_bl, isi_list_int, isi_list_str, isi_list_tup, isi_list_l, isi_list_f, isi_bool_non, isi_bool_bl, isi_bool_int, isi_bool_str, isi_bool_tup, isi_bool_l, isi_bool_f, isi_int_non, isi_int_bl, isi_int_int, isi_int_str, isi_int_tup, isi_int_l, isi_int_f, isi_str_non, isi_str_bl, isi_str_int, isi_str_str, isi_str_tup, isi_str_l, isi_str_f, isi_dict_non, isi_dict_bl, isi_dict_int, isi_dict_str, isi_dict_tup, isi_dict_l, isi_dict_f, Ab.isNon, args, List.map, List.length_cons, List.length_nil, List.length_singleton, List.replicate, Nat.reduceSub, Nat.reduceAdd, Nat.zero_add, List.cons_append, List.nil_append, List.getElem?_cons_zero, List.getElem?_cons_succ, List.set_cons_zero, List.set_cons_succ, Option.some.injEq, decide_eq_true_eq, Bool.not_eq_true', decide_eq_false_iff_not, ite_true, ite_false, if_true, if_false, reduceIte, Bool.false_eq_true, Bool.not_true, Bool.not_false, Bool.true_eq_false, decide_true, decide_false, Nat.reduceLeDiff, Nat.reduceLT, ev_tup_ofL (rdL_l hC)]
  rw [show D.tup ((List.range m).map fun i => rowD m fun j => if i = j then 0 else far) = outD m (some fun i j => if i = j then 0 else far) from rfl]
  have f3 : ∀ i j, i < m → j < m → M i j ≤ far := fun i j hi hj => by
    have := f2 i j hi hj
    unfold absI at this
    split at this <;> omega
  have start : Inc m M (fun _ _ => False) fun i j => if i = j then 0 else far := by
    refine ⟨⟨fun i l j _ _ _ => ?_, fun i _ => by simp⟩, fun _ _ _ _ _ h => h.elim, fun p hp i j hi hj => ?_⟩
    · split <;> split <;> split <;> omega
    · split
      · rename_i e; subst e; omega
      · rename_i e
        have := hp i j hi hj e
        have := f3 i j hi hj
        omega
  -- what stands in the box
  let St : (Nat → Nat → Prop) → Option Mx → Prop := fun S o => match o with
    | none => ¬ ∃ p, Feas m M p
    | some R => Inc m M S R
  refine sat_seq ?_
  simp only [sat_ok, sat_bad, sat_bind, sat_ite, bind_ok, bind_bad, thn_nx, thn_rt, thn_bk, thn_ct, fin_rt, fin_nx, ev_v, ev_c, ev_op, ev_un, ev_nil, ev_cons, ev_tup, ev_lst, ev_call, ev_own, ev_sl, ev_no, ev_part, ev_and, ev_or, ev_not, ev_if, ev_t, ev_tb, ev_tnot, ev_tand, ev_tor, ev_mt, ev_mt0, ev_rgd, ev_set, ev_asg, ev_ret, ev_retN, ev_ex, ev_pass, ev_brk, ev_cont, ev_ifS, ev_aug, ev_gn, ev_gtp, ev_gnl, ev_gcs, ev_gsb, ev_for, ev_rg1, ev_rg2, ev_its, ev_enum, ev_lc, ev_yes, ev_add_ii, ev_add_ss, ev_add_tt, ev_add_rr, ev_sub, ev_mul, ev_mod, ev_fdiv, ev_pow, ev_neg, ev_lt, ev_le, ev_gt, ev_ge, ev_eq_ii, ev_eq_ss, ev_eq_bb, ev_ne_ii, ev_ne_ss, ev_ne_bb, ev_is_n, ev_isnt_n, ev_int_i, ev_int_b, ev_min_ii, ev_max_ii, ev_abs, ev_tup_of, ev_tup_ofL, ev_lst_ofT, ev_lst_ofL, ev_len_t, ev_len_s, ev_len_r, ev_tru_b, ev_alloc, ev_tupD, ev_lstD, isi_tuple_non, isi_tuple_bl, isi_tuple_int, isi_tuple_str, isi_tuple_tup, isi_tuple_l, isi_tuple_f, isi_list_non, isi_list_bl, isi_list_int, isi_list_str, isi_list_tup, isi_list_l, isi_list_f, isi_bool_non, isi_bool_bl, isi_bool_int, isi_bool_str, isi_bool_tup, isi_bool_l, isi_bool_f, isi_int_non, isi_int_bl, isi_int_int, isi_int_str, isi_int_tup, isi_int_l, isi_int_f, isi_str_non, isi_str_bl, isi_str_int, isi_str_str, isi_str_tup, isi_str_l, isi_str_f, isi_dict_non, isi_dict_bl, isi_dict_int, isi_dict_str, isi_dict_tup, isi_dict_l, isi_dict_f, Ab.isNon, args, List.map, List.length_cons, List.length_nil, List.length_singleton, List.replicate, Nat.reduceSub, Nat.reduceAdd, Nat.zero_add, List.cons_append, List.nil_append, List.getElem?_cons_zero, List.getElem?_cons_succ, List.set_cons_zero, List.set_cons_succ, Option.some.injEq, decide_eq_true_eq, Bool.not_eq_true', decide_eq_false_iff_not, ite_true, ite_false, if_true, if_false, reduceIte, Bool.false_eq_true, Bool.not_true, Bool.not_false, Bool.true_eq_false, decide_true, decide_false, Nat.reduceLeDiff, Nat.reduceLT]
  rw [if_pos (inRg_of (by omega) (by omega)), Int.toNat_natCast]
  refine range_inv (fun k σ E => Gr A E ∧ (∀ i, i < k → 0 ≤ M i i) ∧ ∃ o, St (fun a b => a < k) o ∧ ∃ x y z w, σ = [some (matD m M), some (.int (m : Nat)), some (.int far), x, none, y, z, some (outD m o), w])
    (fun k σ E hk ⟨G, pos, o, ho, x, y, z, w, hσ⟩ => ?_) (fun σ E ⟨G, pos, o, ho, x, y, z, w, hσ⟩ => ?_) ⟨G, fun _ h => absurd h (Nat.not_lt_zero _), _, (by show Inc m M _ _; exact ⟨start.cl, fun i j _ _ _ h => absurd h (Nat.not_lt_zero _), start.sound⟩), _, _, _, none, rfl⟩
  · subst hσ
    simp only [sat_ok, sat_bad, sat_bind, sat_ite, bind_ok, bind_bad, thn_nx, thn_rt, thn_bk, thn_ct, fin_rt, fin_nx, ev_v, ev_c, ev_op, ev_un, ev_nil, ev_cons, ev_tup, ev_lst, ev_call, ev_own, ev_sl, ev_no, ev_part, ev_and, ev_or, ev_not, ev_if, ev_t, ev_tb, ev_tnot, ev_tand, ev_tor, ev_mt, ev_mt0, ev_rgd, ev_set, ev_asg, ev_ret, ev_retN, ev_ex, ev_pass, ev_brk, ev_cont, ev_ifS, ev_aug, ev_gn, ev_gtp, ev_gnl, ev_gcs, ev_gsb, ev_for, ev_rg1, ev_rg2, ev_its, ev_enum, ev_lc, ev_yes, ev_add_ii, ev_add_ss, ev_add_tt, ev_add_rr, ev_sub, ev_mul, ev_mod, ev_fdiv, ev_pow, ev_neg, ev_lt, ev_le, ev_gt, ev_ge, ev_eq_ii, ev_eq_ss, ev_eq_bb, ev_ne_ii, ev_ne_ss, ev_ne_bb, ev_is_n, ev_isnt_n, ev_int_i, ev_int_b, ev_min_ii, ev_max_ii, ev_abs, ev_tup_of, ev_tup_ofL, ev_lst_ofT, ev_lst_ofL, ev_len_t, ev_len_s, ev_len_r, ev_tru_b, ev_alloc, ev_tupD, ev_lstD, isi_tuple_non, isi_tuple_bl, isi_tuple_int, isi_tuple_str, isi_tuple_tup, isi_tuple_l, isi_tuple_f, isi_list_non, isi_list_bl, isi_list_int, isi_list_str, isi_list_tup, isi_list_l, isi_list_f, isi_bool_non, isi_bool_bl, isi_bool_int, isi_bool_str, isi_bool_tup, isi_bool_l, isi_bool_f, isi_int_non, isi_int_bl, isi_int_int, isi_int_str, isi_int_tup, isi_int_l, isi_int_f, isi_str_non, isi_str_bl, isi_str_int, isi_str_str, isi_str_tup, isi_str_l, isi_str_f, isi_dict_non, isi_dict_bl, isi_dict_int, isi_dict_str, isi_dict_tup, isi_dict_l, isi_dict_f, Ab.isNon, args, List.map, List.length_cons, List.length_nil, List.length_singleton, List.replicate, Nat.reduceSub, Nat.reduceAdd, Nat.zero_add, List.cons_append, List.nil_append, List.getElem?_cons_zero, List.getElem?_cons_succ, List.set_cons_zero, List.set_cons_succ, Option.some.injEq, decide_eq_true_eq, Bool.not_eq_true', decide_eq_false_iff_not, ite_true, ite_false, if_true, if_false, reduceIte, Bool.false_eq_true, Bool.not_true, Bool.not_false, Bool.true_eq_false, decide_true, decide_false, Nat.reduceLeDiff, Nat.reduceLT, Int.zero_add]
    refine sat_seq ?_
    simp only [sat_ok, sat_bad, sat_bind, sat_ite, bind_ok, bind_bad, thn_nx, thn_rt, thn_bk, thn_ct, fin_rt, fin_nx, ev_v, ev_c, ev_op, ev_un, ev_nil, ev_cons, ev_tup, ev_lst, ev_call, ev_own, ev_sl, ev_no, ev_part, ev_and, ev_or, ev_not, ev_if, ev_t, ev_tb, ev_tnot, ev_tand, ev_tor, ev_mt, ev_mt0, ev_rgd, ev_set, ev_asg, ev_ret, ev_retN, ev_ex, ev_pass, ev_brk, ev_cont, ev_ifS, ev_aug, ev_gn, ev_gtp, ev_gnl, ev_gcs, ev_gsb, ev_for, ev_rg1, ev_rg2, ev_its, ev_enum, ev_lc, ev_yes, ev_add_ii, ev_add_ss, ev_add_tt, ev_add_rr, ev_sub, ev_mul, ev_mod, ev_fdiv, ev_pow, ev_neg, ev_lt, ev_le, ev_gt, ev_ge, ev_eq_ii, ev_eq_ss, ev_eq_bb, ev_ne_ii, ev_ne_ss, ev_ne_bb, ev_is_n, ev_isnt_n, ev_int_i, ev_int_b, ev_min_ii, ev_max_ii, ev_abs, ev_tup_of, ev_tup_ofL, ev_lst_ofT, ev_lst_ofL, ev_len_t, ev_len_s, ev_len_r, ev_tru_b, ev_alloc, ev_tupD, ev_lstD, isi_tuple_non, isi_tuple_bl, isi_tuple_int, isi_tuple_str, isi_tuple_tup, isi_tuple_l, isi_tuple_f, isi_list_non, isi_list_bl, isi_list_int, isi_list_str, isi_list_tup, isi_list_l, isi_list_f, isi_bool_non, isi_bool_bl, isi_bool_int, isi_bool_str, isi_bool_tup, isi_bool_l, isi_bool_f, isi_int_non, isi_int_bl, isi_int_int, isi_int_str, isi_int_tup, isi_int_l, isi_int_f, isi_str_non, isi_str_bl, isi_str_int, isi_str_str, isi_str_tup, isi_str_l, isi_str_f, isi_dict_non, isi_dict_bl, isi_dict_int, isi_dict_str, isi_dict_tup, isi_dict_l, isi_dict_f, Ab.isNon, args, List.map, List.length_cons, List.length_nil, List.length_singleton, List.replicate, Nat.reduceSub, Nat.reduceAdd, Nat.zero_add, List.cons_append, List.nil_append, List.getElem?_cons_zero, List.getElem?_cons_succ, List.set_cons_zero, List.set_cons_succ, Option.some.injEq, decide_eq_true_eq, Bool.not_eq_true', decide_eq_false_iff_not, ite_true, ite_false, if_true, if_false, reduceIte, Bool.false_eq_true, Bool.not_true, Bool.not_false, Bool.true_eq_false, decide_true, decide_false, Nat.reduceLeDiff, Nat.reduceLT, i1 E hk, i2 E hk]
    split
    · rename_i hn
      simp only [sat_ok, sat_bad, sat_bind, sat_ite, bind_ok, bind_bad, thn_nx, thn_rt, thn_bk, thn_ct, fin_rt, fin_nx, ev_v, ev_c, ev_op, ev_un, ev_nil, ev_cons, ev_tup, ev_lst, ev_call, ev_own, ev_sl, ev_no, ev_part, ev_and, ev_or, ev_not, ev_if, ev_t, ev_tb, ev_tnot, ev_tand, ev_tor, ev_mt, ev_mt0, ev_rgd, ev_set, ev_asg, ev_ret, ev_retN, ev_ex, ev_pass, ev_brk, ev_cont, ev_ifS, ev_aug, ev_gn, ev_gtp, ev_gnl, ev_gcs, ev_gsb, ev_for, ev_rg1, ev_rg2, ev_its, ev_enum, ev_lc, ev_yes, ev_add_ii, ev_add_ss, ev_add_tt, ev_add_rr, ev_sub, ev_mul, ev_mod, ev_fdiv, ev_pow, ev_neg, ev_lt, ev_le, ev_gt, ev_ge, ev_eq_ii, ev_eq_ss, ev_eq_bb, ev_ne_ii, ev_ne_ss, ev_ne_bb, ev_is_n, ev_isnt_n, ev_int_i, ev_int_b, ev_min_ii, ev_max_ii, ev_abs, ev_tup_of, ev_tup_ofL, ev_lst_ofT, ev_lst_ofL, ev_len_t, ev_len_s, ev_len_r, ev_tru_b, ev_alloc, ev_tupD, ev_lstD, isi_tuple_non, isi_tuple_bl, isi_tuple_int, isi_tuple_str, isi_tuple_tup, isi_tuple_l, isi_tuple_f, isi_list_non, isi_list_bl, isi_list_int, isi_list_str, isi_list_tup, isi_list_l, isi_list_f, isi_bool_non, isi_bool_bl, isi_bool_int, isi_bool_str, isi_bool_tup, isi_bool_l, isi_bool_f, isi_int_non, isi_int_bl, isi_int_int, isi_int_str, isi_int_tup, isi_int_l, isi_int_f, isi_str_non, isi_str_bl, isi_str_int, isi_str_str, isi_str_tup, isi_str_l, isi_str_f, isi_dict_non, isi_dict_bl, isi_dict_int, isi_dict_str, isi_dict_tup, isi_dict_l, isi_dict_f, Ab.isNon, args, List.map, List.length_cons, List.length_nil, List.length_singleton, List.replicate, Nat.reduceSub, Nat.reduceAdd, Nat.zero_add, List.cons_append, List.nil_append, List.getElem?_cons_zero, List.getElem?_cons_succ, List.set_cons_zero, List.set_cons_succ, Option.some.injEq, decide_eq_true_eq, Bool.not_eq_true', decide_eq_false_iff_not, ite_true, ite_false, if_true, if_false, reduceIte, Bool.false_eq_true, Bool.not_true, Bool.not_false, Bool.true_eq_false, decide_true, decide_false, Nat.reduceLeDiff, Nat.reduceLT, turn_]
      exact ⟨G, none, rfl, .inl ⟨k, hk, hn⟩⟩
    rename_i hn
    rw [if_pos (inRg_of (by omega) (by omega)), Int.toNat_natCast]
    refine range_inv (fun l σ F => Gr A F ∧ ∃ o, St (fun a b => a < k ∨ (a = k ∧ b < l)) o ∧ ∃ w, σ = [some (matD m M), some (.int (m : Nat)), some (.int far), x, none, y, some (.int (k : Nat)), some (outD m o), w])
      (fun l σ F hl ⟨G, o, ho, w, hσ⟩ => ?_) (fun σ F ⟨G, o, ho, w, hσ⟩ => ?_) ⟨G, o, (by
        cases o with
        | none => exact ho
        | some R => exact ⟨ho.cl, fun i j hi hj e h => ho.le i j hi hj e (by omega), ho.sound⟩), w, rfl⟩
    · subst hσ
      simp only [sat_ok, sat_bad, sat_bind, sat_ite, bind_ok, bind_bad, thn_nx, thn_rt, thn_bk, thn_ct, fin_rt, fin_nx, ev_v, ev_c, ev_op, ev_un, ev_nil, ev_cons, ev_tup, ev_lst, ev_call, ev_own, ev_sl, ev_no, ev_part, ev_and, ev_or, ev_not, ev_if, ev_t, ev_tb, ev_tnot, ev_tand, ev_tor, ev_mt, ev_mt0, ev_rgd, ev_set, ev_asg, ev_ret, ev_retN, ev_ex, ev_pass, ev_brk, ev_cont, ev_ifS, ev_aug, ev_gn, ev_gtp, ev_gnl, ev_gcs, ev_gsb, ev_for, ev_rg1, ev_rg2, ev_its, ev_enum, ev_lc, ev_yes, ev_add_ii, ev_add_ss, ev_add_tt, ev_add_rr, ev_sub, ev_mul, ev_mod, ev_fdiv, ev_pow, ev_neg, ev_lt, ev_le, ev_gt, ev_ge, ev_eq_ii, ev_eq_ss, ev_eq_bb, ev_ne_ii, ev_ne_ss, ev_ne_bb, ev_is_n, ev_isnt_n, ev_int_i, ev_int_b, ev_min_ii, ev_max_ii, ev_abs, ev_tup_of, ev_tup_ofL, ev_lst_ofT, ev_lst_ofL, ev_len_t, ev_len_s, ev_len_r, ev_tru_b, ev_alloc, ev_tupD, ev_lstD, isi_tuple_non, isi_tuple_bl, isi_tuple_int, isi_tuple_str, isi_tuple_tup, isi_tuple_l, isi_tuple_f, isi_list_non, isi_list_bl, isi_list_int, isi_list_str, isi_list_tup, isi_list_l, isi_list_f, isi_bool_non, isi_bool_bl, isi_bool_int, isi_bool_str, isi_bool_tup, isi_bool_l, isi_bool_f, isi_int_non, isi_int_bl, isi_int_int, isi_int_str, isi_int_tup, isi_int_l, isi_int_f, isi_str_non, isi_str_bl, isi_str_int, isi_str_str, isi_str_tup, isi_str_l, isi_str_f, isi_dict_non, isi_dict_bl, isi_dict_int, isi_dict_str, isi_dict_tup, isi_dict_l, isi_dict_f, Ab.isNon, args, List.map, List.length_cons, List.length_nil, List.length_singleton, List.replicate, Nat.reduceSub, Nat.reduceAdd, Nat.zero_add, List.cons_append, List.nil_append, List.getElem?_cons_zero, List.getElem?_cons_succ, List.set_cons_zero, List.set_cons_succ, Option.some.injEq, decide_eq_true_eq, Bool.not_eq_true', decide_eq_false_iff_not, ite_true, ite_false, if_true, if_false, reduceIte, Bool.false_eq_true, Bool.not_true, Bool.not_false, Bool.true_eq_false, decide_true, decide_false, Nat.reduceLeDiff, Nat.reduceLT, Int.zero_add]
      by_cases e : (k : Int) = (l : Int)
      · simp (decide := true) only [sat_ok, sat_bad, sat_bind, sat_ite, bind_ok, bind_bad, thn_nx, thn_rt, thn_bk, thn_ct, fin_rt, fin_nx, ev_v, ev_c, ev_op, ev_un, ev_nil, ev_cons, ev_tup, ev_lst, ev_call, ev_own, ev_sl, ev_no, ev_part, ev_and, ev_or, ev_not, ev_if, ev_t, ev_tb, ev_tnot, ev_tand, ev_tor, ev_mt, ev_mt0, ev_rgd, ev_set, ev_asg, ev_ret, ev_retN, ev_ex, ev_pass, ev_brk, ev_cont, ev_ifS, ev_aug, ev_gn, ev_gtp, ev_gnl, ev_gcs, ev_gsb, ev_for, ev_rg1, ev_rg2, ev_its, ev_enum, ev_lc, ev_yes, ev_add_ii, ev_add_ss, ev_add_tt, ev_add_rr, ev_sub, ev_mul, ev_mod, ev_fdiv, ev_pow, ev_neg, ev_lt, ev_le, ev_gt, ev_ge, ev_eq_ii, ev_eq_ss, ev_eq_bb, ev_ne_ii, ev_ne_ss, ev_ne_bb, ev_is_n, ev_isnt_n, ev_int_i, ev_int_b, ev_min_ii, ev_max_ii, ev_abs, ev_tup_of, ev_tup_ofL, ev_lst_ofT, ev_lst_ofL, ev_len_t, ev_len_s, ev_len_r, ev_tru_b, ev_alloc, ev_tupD, ev_lstD, isi_tuple_non, isi_tuple_bl, isi_tuple_int, isi_tuple_str, isi_tuple_tup, isi_tuple_l, isi_tuple_f, isi_list_non, isi_list_bl, isi_list_int, isi_list_str, isi_list_tup, isi_list_l, isi_list_f, isi_bool_non, isi_bool_bl, isi_bool_int, isi_bool_str, isi_bool_tup, isi_bool_l, isi_bool_f, isi_int_non, isi_int_bl, isi_int_int, isi_int_str, isi_int_tup, isi_int_l, isi_int_f, isi_str_non, isi_str_bl, isi_str_int, isi_str_str, isi_str_tup, isi_str_l, isi_str_f, isi_dict_non, isi_dict_bl, isi_dict_int, isi_dict_str, isi_dict_tup, isi_dict_l, isi_dict_f, Ab.isNon, args, List.map, List.length_cons, List.length_nil, List.length_singleton, List.replicate, Nat.reduceSub, Nat.reduceAdd, Nat.zero_add, List.cons_append, List.nil_append, List.getElem?_cons_zero, List.getElem?_cons_succ, List.set_cons_zero, List.set_cons_succ, Option.some.injEq, decide_eq_true_eq, Bool.not_eq_true', decide_eq_false_iff_not, ite_true, ite_false, if_true, if_false, reduceIte, Bool.false_eq_true, Bool.not_true, Bool.not_false, Bool.true_eq_false, decide_true, decide_false, Nat.reduceLeDiff, Nat.reduceLT, e, turn_]
        have e : k = l := by omega
        subst e
        refine ⟨G, o, ?_, _, rfl⟩
        cases o with
        | none => exact ho
        | some R => exact ⟨ho.cl, fun i j hi hj e h => ho.le i j hi hj e (by omega), ho.sound⟩
      · simp only [sat_ok, sat_bad, sat_bind, sat_ite, bind_ok, bind_bad, thn_nx, thn_rt, thn_bk, thn_ct, fin_rt, fin_nx, ev_v, ev_c, ev_op, ev_un, ev_nil, ev_cons, ev_tup, ev_lst, ev_call, ev_own, ev_sl, ev_no, ev_part, ev_and, ev_or, ev_not, ev_if, ev_t, ev_tb, ev_tnot, ev_tand, ev_tor, ev_mt, ev_mt0, ev_rgd, ev_set, ev_asg, ev_ret, ev_retN, ev_ex, ev_pass, ev_brk, ev_cont, ev_ifS, ev_aug, ev_gn, ev_gtp, ev_gnl, ev_gcs, ev_gsb, ev_for, ev_rg1, ev_rg2, ev_its, ev_enum, ev_lc, ev_yes, ev_add_ii, ev_add_ss, ev_add_tt, ev_add_rr, ev_sub, ev_mul, ev_mod, ev_fdiv, ev_pow, ev_neg, ev_lt, ev_le, ev_gt, ev_ge, ev_eq_ii, ev_eq_ss, ev_eq_bb, ev_ne_ii, ev_ne_ss, ev_ne_bb, ev_is_n, ev_isnt_n, ev_int_i, ev_int_b, ev_min_ii, ev_max_ii, ev_abs, ev_tup_of, ev_tup_ofL, ev_lst_ofT, ev_lst_ofL, ev_len_t, ev_len_s, ev_len_r, ev_tru_b, ev_alloc, ev_tupD, ev_lstD, isi_tuple_non, isi_tuple_bl, isi_tuple_int, isi_tuple_str, isi_tuple_tup, isi_tuple_l, isi_tuple_f, isi_list_non, isi_list_bl, isi_list_int, isi_list_str, isi_list_tup, isi_list_l, isi_list_f, isi_bool_non, isi_bool_bl, isi_bool_int, isi_bool_str, isi_bool_tup, isi_bool_l, isi_bool_f, isi_int_non, isi_int_bl, isi_int_int, isi_int_str, isi_int_tup, isi_int_l, isi_int_f, isi_str_non, isi_str_bl, isi_str_int, isi_str_str, isi_str_tup, isi_str_l, isi_str_f, isi_dict_non, isi_dict_bl, isi_dict_int, isi_dict_str, isi_dict_tup, isi_dict_l, isi_dict_f, Ab.isNon, args, List.map, List.length_cons, List.length_nil, List.length_singleton, List.replicate, Nat.reduceSub, Nat.reduceAdd, Nat.zero_add, List.cons_append, List.nil_append, List.getElem?_cons_zero, List.getElem?_cons_succ, List.set_cons_zero, List.set_cons_succ, Option.some.injEq, decide_eq_true_eq, Bool.not_eq_true', decide_eq_false_iff_not, ite_true, ite_false, if_true, if_false, reduceIte, Bool.false_eq_true, Bool.not_true, Bool.not_false, Bool.true_eq_false, decide_true, decide_false, Nat.reduceLeDiff, Nat.reduceLT, e, i1 F hk, i2 F hl]
        have e : k ≠ l := by omega
        cases o with
        | none =>
          rw [show outD m none = .non from rfl, non_bounded]
          simp only [sat_ok, sat_bad, sat_bind, sat_ite, bind_ok, bind_bad, thn_nx, thn_rt, thn_bk, thn_ct, fin_rt, fin_nx, ev_v, ev_c, ev_op, ev_un, ev_nil, ev_cons, ev_tup, ev_lst, ev_call, ev_own, ev_sl, ev_no, ev_part, ev_and, ev_or, ev_not, ev_if, ev_t, ev_tb, ev_tnot, ev_tand, ev_tor, ev_mt, ev_mt0, ev_rgd, ev_set, ev_asg, ev_ret, ev_retN, ev_ex, ev_pass, ev_brk, ev_cont, ev_ifS, ev_aug, ev_gn, ev_gtp, ev_gnl, ev_gcs, ev_gsb, ev_for, ev_rg1, ev_rg2, ev_its, ev_enum, ev_lc, ev_yes, ev_add_ii, ev_add_ss, ev_add_tt, ev_add_rr, ev_sub, ev_mul, ev_mod, ev_fdiv, ev_pow, ev_neg, ev_lt, ev_le, ev_gt, ev_ge, ev_eq_ii, ev_eq_ss, ev_eq_bb, ev_ne_ii, ev_ne_ss, ev_ne_bb, ev_is_n, ev_isnt_n, ev_int_i, ev_int_b, ev_min_ii, ev_max_ii, ev_abs, ev_tup_of, ev_tup_ofL, ev_lst_ofT, ev_lst_ofL, ev_len_t, ev_len_s, ev_len_r, ev_tru_b, ev_alloc, ev_tupD, ev_lstD, isi_tuple_non, isi_tuple_bl, isi_tuple_int, isi_tuple_str, isi_tuple_tup, isi_tuple_l, isi_tuple_f, isi_list_non, isi_list_bl, isi_list_int, isi_list_str, isi_list_tup, isi_list_l, isi_list_f, isi_bool_non, isi_bool_bl, isi_bool_int, isi_bool_str, isi_bool_tup, isi_bool_l, isi_bool_f, isi_int_non, isi_int_bl, isi_int_int, isi_int_str, isi_int_tup, isi_int_l, isi_int_f, isi_str_non, isi_str_bl, isi_str_int, isi_str_str, isi_str_tup, isi_str_l, isi_str_f, isi_dict_non, isi_dict_bl, isi_dict_int, isi_dict_str, isi_dict_tup, isi_dict_l, isi_dict_f, Ab.isNon, args, List.map, List.length_cons, List.length_nil, List.length_singleton, List.replicate, Nat.reduceSub, Nat.reduceAdd, Nat.zero_add, List.cons_append, List.nil_append, List.getElem?_cons_zero, List.getElem?_cons_succ, List.set_cons_zero, List.set_cons_succ, Option.some.injEq, decide_eq_true_eq, Bool.not_eq_true', decide_eq_false_iff_not, ite_true, ite_false, if_true, if_false, reduceIte, Bool.false_eq_true, Bool.not_true, Bool.not_false, Bool.true_eq_false, decide_true, decide_false, Nat.reduceLeDiff, Nat.reduceLT, turn_]
          exact ⟨G, none, ho, _, rfl⟩
        | some R =>
          refine Sat.imp (bounded_spec hm hk hl) fun d F2 ⟨G2, ed⟩ => ?_
          subst ed
          simp only [sat_ok, sat_bad, sat_bind, sat_ite, bind_ok, bind_bad, thn_nx, thn_rt, thn_bk, thn_ct, fin_rt, fin_nx, ev_v, ev_c, ev_op, ev_un, ev_nil, ev_cons, ev_tup, ev_lst, ev_call, ev_own, ev_sl, ev_no, ev_part, ev_and, ev_or, ev_not, ev_if, ev_t, ev_tb, ev_tnot, ev_tand, ev_tor, ev_mt, ev_mt0, ev_rgd, ev_set, ev_asg, ev_ret, ev_retN, ev_ex, ev_pass, ev_brk, ev_cont, ev_ifS, ev_aug, ev_gn, ev_gtp, ev_gnl, ev_gcs, ev_gsb, ev_for, ev_rg1, ev_rg2, ev_its, ev_enum, ev_lc, ev_yes, ev_add_ii, ev_add_ss, ev_add_tt, ev_add_rr, ev_sub, ev_mul, ev_mod, ev_fdiv, ev_pow, ev_neg, ev_lt, ev_le, ev_gt, ev_ge, ev_eq_ii, ev_eq_ss, ev_eq_bb, ev_ne_ii, ev_ne_ss, ev_ne_bb, ev_is_n, ev_isnt_n, ev_int_i, ev_int_b, ev_min_ii, ev_max_ii, ev_abs, ev_tup_of, ev_tup_ofL, ev_lst_ofT, ev_lst_ofL, ev_len_t, ev_len_s, ev_len_r, ev_tru_b, ev_alloc, ev_tupD, ev_lstD, isi_tuple_non, isi_tuple_bl, isi_tuple_int, isi_tuple_str, isi_tuple_tup, isi_tuple_l, isi_tuple_f, isi_list_non, isi_list_bl, isi_list_int, isi_list_str, isi_list_tup, isi_list_l, isi_list_f, isi_bool_non, isi_bool_bl, isi_bool_int, isi_bool_str, isi_bool_tup, isi_bool_l, isi_bool_f, isi_int_non, isi_int_bl, isi_int_int, isi_int_str, isi_int_tup, isi_int_l, isi_int_f, isi_str_non, isi_str_bl, isi_str_int, isi_str_str, isi_str_tup, isi_str_l, isi_str_f, isi_dict_non, isi_dict_bl, isi_dict_int, isi_dict_str, isi_dict_tup, isi_dict_l, isi_dict_f, Ab.isNon, args, List.map, List.length_cons, List.length_nil, List.length_singleton, List.replicate, Nat.reduceSub, Nat.reduceAdd, Nat.zero_add, List.cons_append, List.nil_append, List.getElem?_cons_zero, List.getElem?_cons_succ, List.set_cons_zero, List.set_cons_succ, Option.some.injEq, decide_eq_true_eq, Bool.not_eq_true', decide_eq_false_iff_not, ite_true, ite_false, if_true, if_false, reduceIte, Bool.false_eq_true, Bool.not_true, Bool.not_false, Bool.true_eq_false, decide_true, decide_false, Nat.reduceLeDiff, Nat.reduceLT, turn_]
          refine ⟨G.trans G2, _, ?_, _, rfl⟩
          by_cases hb : M k l + R l k < 0
          · rw [if_pos hb]
            exact Inc.neg ho hk hl e hb
          · rw [if_neg hb]
            have h2 := Inc.next ho hk hl e (by omega)
            exact ⟨h2.cl, fun i j hi hj e h => h2.le i j hi hj e (by omega), h2.sound⟩
    · subst hσ
      simp only [sat_ok, sat_bad, sat_bind, sat_ite, bind_ok, bind_bad, thn_nx, thn_rt, thn_bk, thn_ct, fin_rt, fin_nx, ev_v, ev_c, ev_op, ev_un, ev_nil, ev_cons, ev_tup, ev_lst, ev_call, ev_own, ev_sl, ev_no, ev_part, ev_and, ev_or, ev_not, ev_if, ev_t, ev_tb, ev_tnot, ev_tand, ev_tor, ev_mt, ev_mt0, ev_rgd, ev_set, ev_asg, ev_ret, ev_retN, ev_ex, ev_pass, ev_brk, ev_cont, ev_ifS, ev_aug, ev_gn, ev_gtp, ev_gnl, ev_gcs, ev_gsb, ev_for, ev_rg1, ev_rg2, ev_its, ev_enum, ev_lc, ev_yes, ev_add_ii, ev_add_ss, ev_add_tt, ev_add_rr, ev_sub, ev_mul, ev_mod, ev_fdiv, ev_pow, ev_neg, ev_lt, ev_le, ev_gt, ev_ge, ev_eq_ii, ev_eq_ss, ev_eq_bb, ev_ne_ii, ev_ne_ss, ev_ne_bb, ev_is_n, ev_isnt_n, ev_int_i, ev_int_b, ev_min_ii, ev_max_ii, ev_abs, ev_tup_of, ev_tup_ofL, ev_lst_ofT, ev_lst_ofL, ev_len_t, ev_len_s, ev_len_r, ev_tru_b, ev_alloc, ev_tupD, ev_lstD, isi_tuple_non, isi_tuple_bl, isi_tuple_int, isi_tuple_str, isi_tuple_tup, isi_tuple_l, isi_tuple_f, isi_list_non, isi_list_bl, isi_list_int, isi_list_str, isi_list_tup, isi_list_l, isi_list_f, isi_bool_non, isi_bool_bl, isi_bool_int, isi_bool_str, isi_bool_tup, isi_bool_l, isi_bool_f, isi_int_non, isi_int_bl, isi_int_int, isi_int_str, isi_int_tup, isi_int_l, isi_int_f, isi_str_non, isi_str_bl, isi_str_int, isi_str_str, isi_str_tup, isi_str_l, isi_str_f, isi_dict_non, isi_dict_bl, isi_dict_int, isi_dict_str, isi_dict_tup, isi_dict_l, isi_dict_f, Ab.isNon, args, List.map, List.length_cons, List.length_nil, List.length_singleton, List.replicate, Nat.reduceSub, Nat.reduceAdd, Nat.zero_add, List.cons_append, List.nil_append, List.getElem?_cons_zero, List.getElem?_cons_succ, List.set_cons_zero, List.set_cons_succ, Option.some.injEq, decide_eq_true_eq, Bool.not_eq_true', decide_eq_false_iff_not, ite_true, ite_false, if_true, if_false, reduceIte, Bool.false_eq_true, Bool.not_true, Bool.not_false, Bool.true_eq_false, decide_true, decide_false, Nat.reduceLeDiff, Nat.reduceLT, turn_]
      refine ⟨G, fun i hi => ?_, o, ?_, _, _, _, _, rfl⟩
      · by_cases e : i = k
        · subst e; omega
        · exact pos i (by omega)
      · cases o with
        | none => exact ho
        | some R => exact ⟨ho.cl, fun i j hi hj e h => ho.le i j hi hj e (by omega), ho.sound⟩
  · subst hσ
    simp only [sat_ok, sat_bad, sat_bind, sat_ite, bind_ok, bind_bad, thn_nx, thn_rt, thn_bk, thn_ct, fin_rt, fin_nx, ev_v, ev_c, ev_op, ev_un, ev_nil, ev_cons, ev_tup, ev_lst, ev_call, ev_own, ev_sl, ev_no, ev_part, ev_and, ev_or, ev_not, ev_if, ev_t, ev_tb, ev_tnot, ev_tand, ev_tor, ev_mt, ev_mt0, ev_rgd, ev_set, ev_asg, ev_ret, ev_retN, ev_ex, ev_pass, ev_brk, ev_cont, ev_ifS, ev_aug, ev_gn, ev_gtp, ev_gnl, ev_gcs, ev_gsb, ev_for, ev_rg1, ev_rg2, ev_its, ev_enum, ev_lc, ev_yes, ev_add_ii, ev_add_ss, ev_add_tt, ev_add_rr, ev_sub, ev_mul, ev_mod, ev_fdiv, ev_pow, ev_neg, ev_lt, ev_le, ev_gt, ev_ge, ev_eq_ii, ev_eq_ss, ev_eq_bb, ev_ne_ii, ev_ne_ss, ev_ne_bb, ev_is_n, ev_isnt_n, ev_int_i, ev_int_b, ev_min_ii, ev_max_ii, ev_abs, ev_tup_of, ev_tup_ofL, ev_lst_ofT, ev_lst_ofL, ev_len_t, ev_len_s, ev_len_r, ev_tru_b, ev_alloc, ev_tupD, ev_lstD, isi_tuple_non, isi_tuple_bl, isi_tuple_int, isi_tuple_str, isi_tuple_tup, isi_tuple_l, isi_tuple_f, isi_list_non, isi_list_bl, isi_list_int, isi_list_str, isi_list_tup, isi_list_l, isi_list_f, isi_bool_non, isi_bool_bl, isi_bool_int, isi_bool_str, isi_bool_tup, isi_bool_l, isi_bool_f, isi_int_non, isi_int_bl, isi_int_int, isi_int_str, isi_int_tup, isi_int_l, isi_int_f, isi_str_non, isi_str_bl, isi_str_int, isi_str_str, isi_str_tup, isi_str_l, isi_str_f, isi_dict_non, isi_dict_bl, isi_dict_int, isi_dict_str, isi_dict_tup, isi_dict_l, isi_dict_f, Ab.isNon, args, List.map, List.length_cons, List.length_nil, List.length_singleton, List.replicate, Nat.reduceSub, Nat.reduceAdd, Nat.zero_add, List.cons_append, List.nil_append, List.getElem?_cons_zero, List.getElem?_cons_succ, List.set_cons_zero, List.set_cons_succ, Option.some.injEq, decide_eq_true_eq, Bool.not_eq_true', decide_eq_false_iff_not, ite_true, ite_false, if_true, if_false, reduceIte, Bool.false_eq_true, Bool.not_true, Bool.not_false, Bool.true_eq_false, decide_true, decide_false, Nat.reduceLeDiff, Nat.reduceLT]
    refine ⟨G, o, rfl, ?_⟩
    cases o with
    | none => exact .inr ho
    | some R => exact ⟨pos, ho.cl, fun i j hi hj e => ho.le i j hi hj e hi, ho.sound⟩
end Law

namespace Law
open PySem PySem.Spec PyProof.Rows L2 Ab
open scoped Classical
/-! ### all points of a table -/
def Fp (M : Mx) (c : Nat) (p : List Int) : Prop := p.length = c ∧ ∀ i j, i ≤ c → j ≤ c → i ≠ j → at0 p i - at0 p j ≤ M i j
theorem at0_old {p : List Int} {v : Int} {i : Nat} (h : i ≤ p.length) : at0 (p ++ [v]) i = at0 p i := by
  unfold at0
  rw [List.getD_eq_getElem?_getD, List.getD_eq_getElem?_getD, ← List.cons_append, List.getElem?_append_left (by simp; omega)]
theorem at0_new {p : List Int} {v : Int} : at0 (p ++ [v]) (p.length + 1) = v := by
  unfold at0
  rw [List.getD_eq_getElem?_getD, ← List.cons_append, List.getElem?_append_right (by simp)]
  simp
/-- what v adds at column c + 1 -/
def Add (M : Mx) (p : List Int) (v : Int) : Prop := ∀ i, i ≤ p.length → v - at0 p i ≤ M (p.length + 1) i ∧ at0 p i - v ≤ M i (p.length + 1)
theorem fp_snoc {M : Mx} {c : Nat} {p : List Int} {v : Int} : Fp M (c + 1) (p ++ [v]) ↔ Fp M c p ∧ Add M p v := by
  constructor
  · rintro ⟨h1, h2⟩
    rw [List.length_append, List.length_singleton] at h1
    have h1 : p.length = c := by omega
    subst h1
    refine ⟨⟨rfl, fun i j hi hj e => ?_⟩, fun i hi => ?_⟩
    · have := h2 i j (by omega) (by omega) e
      rwa [at0_old hi, at0_old hj] at this
    · have a := h2 (p.length + 1) i (by omega) (by omega) (by omega)
      have b := h2 i (p.length + 1) (by omega) (by omega) (by omega)
      rw [at0_new, at0_old hi] at a b
      exact ⟨a, b⟩
  · rintro ⟨⟨h1, h2⟩, h3⟩
    subst h1
    refine ⟨by simp, fun i j hi hj e => ?_⟩
    by_cases ei : i = p.length + 1
    · subst ei
      rw [at0_new, at0_old (by omega)]
      exact (h3 j (by omega)).1
    · by_cases ej : j = p.length + 1
      · subst ej
        rw [at0_new, at0_old (by omega)]
        exact (h3 i (by omega)).2
      · rw [at0_old (by omega), at0_old (by omega)]
        exact h2 i j (by omega) (by omega) e
theorem fits_spec {A : AH} {m c : Nat} {M : Mx} {p : List Int} {v : Int} {b : Bool} (hl : p.length = c) (hc : c + 1 < m) (hm : m ≤ 100) (h1 : v ≤ M (c + 1) 0) (h2 : -v ≤ M 0 (c + 1)) (hb : b = true ↔ Add M p v) :
    m__law_fits [matD m M, ptD p, .int ((c + 1 : Nat) : Int), .int v] A = .ok (.bl b) A := by
  have key : Sat (m__law_fits [matD m M, ptD p, .int ((c + 1 : Nat) : Int), .int v] A) fun d A' => d = .bl b ∧ A' = A := by
    refine sat_body rfl (sat_seq ?_)
    have ln : ∀ A, lenD [ptD p] A = .ok (.int (c : Nat)) A := fun A => by
      show lenD [.tup _] A = _
      rw [ev_len_t]; simp [hl]
    simp only [sat_ok, sat_bad, sat_bind, sat_ite, bind_ok, bind_bad, thn_nx, thn_rt, thn_bk, thn_ct, fin_rt, fin_nx, ev_v, ev_c, ev_op, ev_un, ev_nil, ev_cons, ev_tup, ev_lst, ev_call, ev_own, ev_sl, ev_no, ev_part, ev_and, ev_or, ev_not, ev_if, ev_t, ev_tb, ev_tnot, ev_tand, ev_tor, ev_mt, ev_mt0, ev_rgd, ev_set, ev_asg, ev_ret, ev_retN, ev_ex, ev_pass, ev_brk, ev_cont, ev_ifS, ev_aug, ev_gn, ev_gtp, ev_gnl, ev_gcs, ev_gsb, ev_for, ev_rg1, ev_rg2, ev_its, ev_enum, ev_lc, ev_yes, ev_add_ii, ev_add_ss, ev_add_tt, ev_add_rr, ev_sub, ev_mul, ev_mod, ev_fdiv, ev_pow, ev_neg, ev_lt, ev_le, ev_gt, ev_ge, ev_eq_ii, ev_eq_ss, ev_eq_bb, ev_ne_ii, ev_ne_ss, ev_ne_bb, ev_is_n, ev_isnt_n, ev_int_i, ev_int_b, ev_min_ii, ev_max_ii, ev_abs, ev_tup_of, ev_tup_ofL, ev_lst_ofT, ev_lst_ofL, ev_len_t, ev_len_s, ev_len_r, ev_tru_b, ev_alloc, ev_tupD, ev_lstD, isi_tuple_non, isi_tuple_bl, isi_tuple_int, isi_tuple_str, isi_tuple_tup, isi_tuple_l, isi_tuple_f, isi_list_non, isi_list_bl, isi_list_int, isi_list_str, isi_list_tup, isi_list_l, isi_list_f, isi_bool_non, isi_bool_bl, isi_bool_int, isi_bool_str, isi_bool_tup, isi_bool_l, isi_bool_f, isi_int_non, isi_int_bl, isi_int_int, isi_int_str, isi_int_tup, isi_int_l, isi_int_f, isi_str_non, isi_str_bl, isi_str_int, isi_str_str, isi_str_tup, isi_str_l, isi_str_f, isi_dict_non, isi_dict_bl, isi_dict_int, isi_dict_str, isi_dict_tup, isi_dict_l, isi_dict_f, Ab.isNon, args, List.map, List.length_cons, List.length_nil, List.length_singleton, List.replicate, Nat.reduceSub, Nat.reduceAdd, Nat.zero_add, List.cons_append, List.nil_append, List.getElem?_cons_zero, List.getElem?_cons_succ, List.set_cons_zero, List.set_cons_succ, Option.some.injEq, decide_eq_true_eq, Bool.not_eq_true', decide_eq_false_iff_not, ite_true, ite_false, if_true, if_false, reduceIte, Bool.false_eq_true, Bool.not_true, Bool.not_false, Bool.true_eq_false, decide_true, decide_false, Nat.reduceLeDiff, Nat.reduceLT, ln]
    rw [if_pos (inRg_of (by omega) (by omega)), Int.toNat_natCast]
    refine range_inv (fun k σ B => B = A ∧ (∀ i, i ≤ k → v - at0 p i ≤ M (c + 1) i ∧ at0 p i - v ≤ M i (c + 1)) ∧ ∃ y, σ = [some (matD m M), some (ptD p), some (.int ((c + 1 : Nat) : Int)), some (.int v), y])
      (fun k σ B hk ⟨hB, q, y, hσ⟩ => ?_) (fun σ B ⟨hB, q, y, hσ⟩ => ?_) ⟨rfl, fun i hi => by cases (Nat.le_zero.mp hi); rw [at0_z]; omega, none, rfl⟩
    · subst hB; subst hσ
      simp only [sat_ok, sat_bad, sat_bind, sat_ite, bind_ok, bind_bad, thn_nx, thn_rt, thn_bk, thn_ct, fin_rt, fin_nx, ev_v, ev_c, ev_op, ev_un, ev_nil, ev_cons, ev_tup, ev_lst, ev_call, ev_own, ev_sl, ev_no, ev_part, ev_and, ev_or, ev_not, ev_if, ev_t, ev_tb, ev_tnot, ev_tand, ev_tor, ev_mt, ev_mt0, ev_rgd, ev_set, ev_asg, ev_ret, ev_retN, ev_ex, ev_pass, ev_brk, ev_cont, ev_ifS, ev_aug, ev_gn, ev_gtp, ev_gnl, ev_gcs, ev_gsb, ev_for, ev_rg1, ev_rg2, ev_its, ev_enum, ev_lc, ev_yes, ev_add_ii, ev_add_ss, ev_add_tt, ev_add_rr, ev_sub, ev_mul, ev_mod, ev_fdiv, ev_pow, ev_neg, ev_lt, ev_le, ev_gt, ev_ge, ev_eq_ii, ev_eq_ss, ev_eq_bb, ev_ne_ii, ev_ne_ss, ev_ne_bb, ev_is_n, ev_isnt_n, ev_int_i, ev_int_b, ev_min_ii, ev_max_ii, ev_abs, ev_tup_of, ev_tup_ofL, ev_lst_ofT, ev_lst_ofL, ev_len_t, ev_len_s, ev_len_r, ev_tru_b, ev_alloc, ev_tupD, ev_lstD, isi_tuple_non, isi_tuple_bl, isi_tuple_int, isi_tuple_str, isi_tuple_tup, isi_tuple_l, isi_tuple_f, isi_list_non, isi_list_bl, isi_list_int, isi_list_str, isi_list_tup, isi_list_l, isi_list_f, isi_bool_non, isi_bool_bl, isi_bool_int, isi_bool_str, isi_bool_tup, isi_bool_l, isi_bool_f, isi_int_non, isi_int_bl, isi_int_int, isi_int_str, isi_int_tup, isi_int_l, isi_int_f, isi_str_non, isi_str_bl, isi_str_int, isi_str_str, isi_str_tup, isi_str_l, isi_str_f, isi_dict_non, isi_dict_bl, isi_dict_int, isi_dict_str, isi_dict_tup, isi_dict_l, isi_dict_f, Ab.isNon, args, List.map, List.length_cons, List.length_nil, List.length_singleton, List.replicate, Nat.reduceSub, Nat.reduceAdd, Nat.zero_add, List.cons_append, List.nil_append, List.getElem?_cons_zero, List.getElem?_cons_succ, List.set_cons_zero, List.set_cons_succ, Option.some.injEq, decide_eq_true_eq, Bool.not_eq_true', decide_eq_false_iff_not, ite_true, ite_false, if_true, if_false, reduceIte, Bool.false_eq_true, Bool.not_true, Bool.not_false, Bool.true_eq_false, decide_true, decide_false, Nat.reduceLeDiff, Nat.reduceLT, Int.zero_add]
      rw [ix_pt (by omega), sat_ok]
      simp only [sat_ok, sat_bad, sat_bind, sat_ite, bind_ok, bind_bad, thn_nx, thn_rt, thn_bk, thn_ct, fin_rt, fin_nx, ev_v, ev_c, ev_op, ev_un, ev_nil, ev_cons, ev_tup, ev_lst, ev_call, ev_own, ev_sl, ev_no, ev_part, ev_and, ev_or, ev_not, ev_if, ev_t, ev_tb, ev_tnot, ev_tand, ev_tor, ev_mt, ev_mt0, ev_rgd, ev_set, ev_asg, ev_ret, ev_retN, ev_ex, ev_pass, ev_brk, ev_cont, ev_ifS, ev_aug, ev_gn, ev_gtp, ev_gnl, ev_gcs, ev_gsb, ev_for, ev_rg1, ev_rg2, ev_its, ev_enum, ev_lc, ev_yes, ev_add_ii, ev_add_ss, ev_add_tt, ev_add_rr, ev_sub, ev_mul, ev_mod, ev_fdiv, ev_pow, ev_neg, ev_lt, ev_le, ev_gt, ev_ge, ev_eq_ii, ev_eq_ss, ev_eq_bb, ev_ne_ii, ev_ne_ss, ev_ne_bb, ev_is_n, ev_isnt_n, ev_int_i, ev_int_b, ev_min_ii, ev_max_ii, ev_abs, ev_tup_of, ev_tup_ofL, ev_lst_ofT, ev_lst_ofL, ev_len_t, ev_len_s, ev_len_r, ev_tru_b, ev_alloc, ev_tupD, ev_lstD, isi_tuple_non, isi_tuple_bl, isi_tuple_int, isi_tuple_str, isi_tuple_tup, isi_tuple_l, isi_tuple_f, isi_list_non, isi_list_bl, isi_list_int, isi_list_str, isi_list_tup, isi_list_l, isi_list_f, isi_bool_non, isi_bool_bl, isi_bool_int, isi_bool_str, isi_bool_tup, isi_bool_l, isi_bool_f, isi_int_non, isi_int_bl, isi_int_int, isi_int_str, isi_int_tup, isi_int_l, isi_int_f, isi_str_non, isi_str_bl, isi_str_int, isi_str_str, isi_str_tup, isi_str_l, isi_str_f, isi_dict_non, isi_dict_bl, isi_dict_int, isi_dict_str, isi_dict_tup, isi_dict_l, isi_dict_f, Ab.isNon, args, List.map, List.length_cons, List.length_nil, List.length_singleton, List.replicate, Nat.reduceSub, Nat.reduceAdd, Nat.zero_add, List.cons_append, List.nil_append, List.getElem?_cons_zero, List.getElem?_cons_succ, List.set_cons_zero, List.set_cons_succ, Option.some.injEq, decide_eq_true_eq, Bool.not_eq_true', decide_eq_false_iff_not, ite_true, ite_false, if_true, if_false, reduceIte, Bool.false_eq_true, Bool.not_true, Bool.not_false, Bool.true_eq_false, decide_true, decide_false, Nat.reduceLeDiff, Nat.reduceLT]
      rw [ix_mat hc, sat_ok]
      rw [show ((k : Int) + 1) = ((k + 1 : Nat) : Int) by omega, ix_row (by omega), sat_ok]
      simp only [sat_ok, sat_bad, sat_bind, sat_ite, bind_ok, bind_bad, thn_nx, thn_rt, thn_bk, thn_ct, fin_rt, fin_nx, ev_v, ev_c, ev_op, ev_un, ev_nil, ev_cons, ev_tup, ev_lst, ev_call, ev_own, ev_sl, ev_no, ev_part, ev_and, ev_or, ev_not, ev_if, ev_t, ev_tb, ev_tnot, ev_tand, ev_tor, ev_mt, ev_mt0, ev_rgd, ev_set, ev_asg, ev_ret, ev_retN, ev_ex, ev_pass, ev_brk, ev_cont, ev_ifS, ev_aug, ev_gn, ev_gtp, ev_gnl, ev_gcs, ev_gsb, ev_for, ev_rg1, ev_rg2, ev_its, ev_enum, ev_lc, ev_yes, ev_add_ii, ev_add_ss, ev_add_tt, ev_add_rr, ev_sub, ev_mul, ev_mod, ev_fdiv, ev_pow, ev_neg, ev_lt, ev_le, ev_gt, ev_ge, ev_eq_ii, ev_eq_ss, ev_eq_bb, ev_ne_ii, ev_ne_ss, ev_ne_bb, ev_is_n, ev_isnt_n, ev_int_i, ev_int_b, ev_min_ii, ev_max_ii, ev_abs, ev_tup_of, ev_tup_ofL, ev_lst_ofT, ev_lst_ofL, ev_len_t, ev_len_s, ev_len_r, ev_tru_b, ev_alloc, ev_tupD, ev_lstD, isi_tuple_non, isi_tuple_bl, isi_tuple_int, isi_tuple_str, isi_tuple_tup, isi_tuple_l, isi_tuple_f, isi_list_non, isi_list_bl, isi_list_int, isi_list_str, isi_list_tup, isi_list_l, isi_list_f, isi_bool_non, isi_bool_bl, isi_bool_int, isi_bool_str, isi_bool_tup, isi_bool_l, isi_bool_f, isi_int_non, isi_int_bl, isi_int_int, isi_int_str, isi_int_tup, isi_int_l, isi_int_f, isi_str_non, isi_str_bl, isi_str_int, isi_str_str, isi_str_tup, isi_str_l, isi_str_f, isi_dict_non, isi_dict_bl, isi_dict_int, isi_dict_str, isi_dict_tup, isi_dict_l, isi_dict_f, Ab.isNon, args, List.map, List.length_cons, List.length_nil, List.length_singleton, List.replicate, Nat.reduceSub, Nat.reduceAdd, Nat.zero_add, List.cons_append, List.nil_append, List.getElem?_cons_zero, List.getElem?_cons_succ, List.set_cons_zero, List.set_cons_succ, Option.some.injEq, decide_eq_true_eq, Bool.not_eq_true', decide_eq_false_iff_not, ite_true, ite_false, if_true, if_false, reduceIte, Bool.false_eq_true, Bool.not_true, Bool.not_false, Bool.true_eq_false, decide_true, decide_false, Nat.reduceLeDiff, Nat.reduceLT]
      split
      · rename_i lt
        simp only [sat_ok, sat_bad, sat_bind, sat_ite, bind_ok, bind_bad, thn_nx, thn_rt, thn_bk, thn_ct, fin_rt, fin_nx, ev_v, ev_c, ev_op, ev_un, ev_nil, ev_cons, ev_tup, ev_lst, ev_call, ev_own, ev_sl, ev_no, ev_part, ev_and, ev_or, ev_not, ev_if, ev_t, ev_tb, ev_tnot, ev_tand, ev_tor, ev_mt, ev_mt0, ev_rgd, ev_set, ev_asg, ev_ret, ev_retN, ev_ex, ev_pass, ev_brk, ev_cont, ev_ifS, ev_aug, ev_gn, ev_gtp, ev_gnl, ev_gcs, ev_gsb, ev_for, ev_rg1, ev_rg2, ev_its, ev_enum, ev_lc, ev_yes, ev_add_ii, ev_add_ss, ev_add_tt, ev_add_rr, ev_sub, ev_mul, ev_mod, ev_fdiv, ev_pow, ev_neg, ev_lt, ev_le, ev_gt, ev_ge, ev_eq_ii, ev_eq_ss, ev_eq_bb, ev_ne_ii, ev_ne_ss, ev_ne_bb, ev_is_n, ev_isnt_n, ev_int_i, ev_int_b, ev_min_ii, ev_max_ii, ev_abs, ev_tup_of, ev_tup_ofL, ev_lst_ofT, ev_lst_ofL, ev_len_t, ev_len_s, ev_len_r, ev_tru_b, ev_alloc, ev_tupD, ev_lstD, isi_tuple_non, isi_tuple_bl, isi_tuple_int, isi_tuple_str, isi_tuple_tup, isi_tuple_l, isi_tuple_f, isi_list_non, isi_list_bl, isi_list_int, isi_list_str, isi_list_tup, isi_list_l, isi_list_f, isi_bool_non, isi_bool_bl, isi_bool_int, isi_bool_str, isi_bool_tup, isi_bool_l, isi_bool_f, isi_int_non, isi_int_bl, isi_int_int, isi_int_str, isi_int_tup, isi_int_l, isi_int_f, isi_str_non, isi_str_bl, isi_str_int, isi_str_str, isi_str_tup, isi_str_l, isi_str_f, isi_dict_non, isi_dict_bl, isi_dict_int, isi_dict_str, isi_dict_tup, isi_dict_l, isi_dict_f, Ab.isNon, args, List.map, List.length_cons, List.length_nil, List.length_singleton, List.replicate, Nat.reduceSub, Nat.reduceAdd, Nat.zero_add, List.cons_append, List.nil_append, List.getElem?_cons_zero, List.getElem?_cons_succ, List.set_cons_zero, List.set_cons_succ, Option.some.injEq, decide_eq_true_eq, Bool.not_eq_true', decide_eq_false_iff_not, ite_true, ite_false, if_true, if_false, reduceIte, Bool.false_eq_true, Bool.not_true, Bool.not_false, Bool.true_eq_false, decide_true, decide_false, Nat.reduceLeDiff, Nat.reduceLT, turn_]
        refine ⟨?_, trivial⟩
        cases b with
        | false => rfl
        | true => have := (hb.mp rfl (k + 1) (by omega)).1; rw [hl] at this; omega
      rename_i lt
      rw [ix_pt (by omega), sat_ok]
      simp only [sat_ok, sat_bad, sat_bind, sat_ite, bind_ok, bind_bad, thn_nx, thn_rt, thn_bk, thn_ct, fin_rt, fin_nx, ev_v, ev_c, ev_op, ev_un, ev_nil, ev_cons, ev_tup, ev_lst, ev_call, ev_own, ev_sl, ev_no, ev_part, ev_and, ev_or, ev_not, ev_if, ev_t, ev_tb, ev_tnot, ev_tand, ev_tor, ev_mt, ev_mt0, ev_rgd, ev_set, ev_asg, ev_ret, ev_retN, ev_ex, ev_pass, ev_brk, ev_cont, ev_ifS, ev_aug, ev_gn, ev_gtp, ev_gnl, ev_gcs, ev_gsb, ev_for, ev_rg1, ev_rg2, ev_its, ev_enum, ev_lc, ev_yes, ev_add_ii, ev_add_ss, ev_add_tt, ev_add_rr, ev_sub, ev_mul, ev_mod, ev_fdiv, ev_pow, ev_neg, ev_lt, ev_le, ev_gt, ev_ge, ev_eq_ii, ev_eq_ss, ev_eq_bb, ev_ne_ii, ev_ne_ss, ev_ne_bb, ev_is_n, ev_isnt_n, ev_int_i, ev_int_b, ev_min_ii, ev_max_ii, ev_abs, ev_tup_of, ev_tup_ofL, ev_lst_ofT, ev_lst_ofL, ev_len_t, ev_len_s, ev_len_r, ev_tru_b, ev_alloc, ev_tupD, ev_lstD, isi_tuple_non, isi_tuple_bl, isi_tuple_int, isi_tuple_str, isi_tuple_tup, isi_tuple_l, isi_tuple_f, isi_list_non, isi_list_bl, isi_list_int, isi_list_str, isi_list_tup, isi_list_l, isi_list_f, isi_bool_non, isi_bool_bl, isi_bool_int, isi_bool_str, isi_bool_tup, isi_bool_l, isi_bool_f, isi_int_non, isi_int_bl, isi_int_int, isi_int_str, isi_int_tup, isi_int_l, isi_int_f, isi_str_non, isi_str_bl, isi_str_int, isi_str_str, isi_str_tup, isi_str_l, isi_str_f, isi_dict_non, isi_dict_bl, isi_dict_int, isi_dict_str, isi_dict_tup, isi_dict_l, isi_dict_f, Ab.isNon, args, List.map, List.length_cons, List.length_nil, List.length_singleton, List.replicate, Nat.reduceSub, Nat.reduceAdd, Nat.zero_add, List.cons_append, List.nil_append, List.getElem?_cons_zero, List.getElem?_cons_succ, List.set_cons_zero, List.set_cons_succ, Option.some.injEq, decide_eq_true_eq, Bool.not_eq_true', decide_eq_false_iff_not, ite_true, ite_false, if_true, if_false, reduceIte, Bool.false_eq_true, Bool.not_true, Bool.not_false, Bool.true_eq_false, decide_true, decide_false, Nat.reduceLeDiff, Nat.reduceLT]
      rw [ix_mat (by omega), sat_ok, ix_row hc, sat_ok]
      simp only [sat_ok, sat_bad, sat_bind, sat_ite, bind_ok, bind_bad, thn_nx, thn_rt, thn_bk, thn_ct, fin_rt, fin_nx, ev_v, ev_c, ev_op, ev_un, ev_nil, ev_cons, ev_tup, ev_lst, ev_call, ev_own, ev_sl, ev_no, ev_part, ev_and, ev_or, ev_not, ev_if, ev_t, ev_tb, ev_tnot, ev_tand, ev_tor, ev_mt, ev_mt0, ev_rgd, ev_set, ev_asg, ev_ret, ev_retN, ev_ex, ev_pass, ev_brk, ev_cont, ev_ifS, ev_aug, ev_gn, ev_gtp, ev_gnl, ev_gcs, ev_gsb, ev_for, ev_rg1, ev_rg2, ev_its, ev_enum, ev_lc, ev_yes, ev_add_ii, ev_add_ss, ev_add_tt, ev_add_rr, ev_sub, ev_mul, ev_mod, ev_fdiv, ev_pow, ev_neg, ev_lt, ev_le, ev_gt, ev_ge, ev_eq_ii, ev_eq_ss, ev_eq_bb, ev_ne_ii, ev_ne_ss, ev_ne_bb, ev_is_n, ev_isnt_n, ev_int_i, ev_int_b, ev_min_ii, ev_max_ii, ev_abs, ev_tup_of, ev_tup_ofL, ev_lst_ofT, ev_lst_ofL, ev_len_t, ev_len_s, ev_len_r, ev_tru_b, ev_alloc, ev_tupD, ev_lstD, isi_tuple_non, isi_tuple_bl, isi_tuple_int, isi_tuple_str, isi_tuple_tup, isi_tuple_l, isi_tuple_f, isi_list_non, isi_list_bl, isi_list_int, isi_list_str, isi_list_tup, isi_list_l, isi_list_f, isi_bool_non, isi_bool_bl, isi_bool_int, isi_bool_str, isi_bool_tup, isi_bool_l, isi_bool_f, isi_int_non, isi_int_bl, isi_int_int, isi_int_str, isi_int_tup, isi_int_l, isi_int_f, isi_str_non, isi_str_bl, isi_str_int, isi_str_str, isi_str_tup, isi_str_l, isi_str_f, isi_dict_non, isi_dict_bl, isi_dict_int, isi_dict_str, isi_dict_tup, isi_dict_l, isi_dict_f, Ab.isNon, args, List.map, List.length_cons, List.length_nil, List.length_singleton, List.replicate, Nat.reduceSub, Nat.reduceAdd, Nat.zero_add, List.cons_append, List.nil_append, List.getElem?_cons_zero, List.getElem?_cons_succ, List.set_cons_zero, List.set_cons_succ, Option.some.injEq, decide_eq_true_eq, Bool.not_eq_true', decide_eq_false_iff_not, ite_true, ite_false, if_true, if_false, reduceIte, Bool.false_eq_true, Bool.not_true, Bool.not_false, Bool.true_eq_false, decide_true, decide_false, Nat.reduceLeDiff, Nat.reduceLT]
      split
      · rename_i lt
        simp only [sat_ok, sat_bad, sat_bind, sat_ite, bind_ok, bind_bad, thn_nx, thn_rt, thn_bk, thn_ct, fin_rt, fin_nx, ev_v, ev_c, ev_op, ev_un, ev_nil, ev_cons, ev_tup, ev_lst, ev_call, ev_own, ev_sl, ev_no, ev_part, ev_and, ev_or, ev_not, ev_if, ev_t, ev_tb, ev_tnot, ev_tand, ev_tor, ev_mt, ev_mt0, ev_rgd, ev_set, ev_asg, ev_ret, ev_retN, ev_ex, ev_pass, ev_brk, ev_cont, ev_ifS, ev_aug, ev_gn, ev_gtp, ev_gnl, ev_gcs, ev_gsb, ev_for, ev_rg1, ev_rg2, ev_its, ev_enum, ev_lc, ev_yes, ev_add_ii, ev_add_ss, ev_add_tt, ev_add_rr, ev_sub, ev_mul, ev_mod, ev_fdiv, ev_pow, ev_neg, ev_lt, ev_le, ev_gt, ev_ge, ev_eq_ii, ev_eq_ss, ev_eq_bb, ev_ne_ii, ev_ne_ss, ev_ne_bb, ev_is_n, ev_isnt_n, ev_int_i, ev_int_b, ev_min_ii, ev_max_ii, ev_abs, ev_tup_of, ev_tup_ofL, ev_lst_ofT, ev_lst_ofL, ev_len_t, ev_len_s, ev_len_r, ev_tru_b, ev_alloc, ev_tupD, ev_lstD, isi_tuple_non, isi_tuple_bl, isi_tuple_int, isi_tuple_str, isi_tuple_tup, isi_tuple_l, isi_tuple_f, isi_list_non, isi_list_bl, isi_list_int, isi_list_str, isi_list_tup, isi_list_l, isi_list_f, isi_bool_non, isi_bool_bl, isi_bool_int, isi_bool_str, isi_bool_tup, isi_bool_l, isi_bool_f, isi_int_non, isi_int_bl, isi_int_int, isi_int_str, isi_int_tup, isi_int_l, isi_int_f, isi_str_non, isi_str_bl, isi_str_int, isi_str_str, isi_str_tup, isi_str_l, isi_str_f, isi_dict_non, isi_dict_bl, isi_dict_int, isi_dict_str, isi_dict_tup, isi_dict_l, isi_dict_f, Ab.isNon, args, List.map, List.length_cons, List.length_nil, List.length_singleton, List.replicate, Nat.reduceSub, Nat.reduceAdd, Nat.zero_add, List.cons_append, List.nil_append, List.getElem?_cons_zero, List.getElem?_cons_succ, List.set_cons_zero, List.set_cons_succ, Option.some.injEq, decide_eq_true_eq, Bool.not_eq_true', decide_eq_false_iff_not, ite_true, ite_false, if_true, if_false, reduceIte, Bool.false_eq_true, Bool.not_true, Bool.not_false, Bool.true_eq_false, decide_true, decide_false, Nat.reduceLeDiff, Nat.reduceLT, turn_]
        refine ⟨?_, trivial⟩
        cases b with
        | false => rfl
        | true => have := (hb.mp rfl (k + 1) (by omega)).2; rw [hl] at this; omega
      · rename_i lt2
        simp only [sat_ok, sat_bad, sat_bind, sat_ite, bind_ok, bind_bad, thn_nx, thn_rt, thn_bk, thn_ct, fin_rt, fin_nx, ev_v, ev_c, ev_op, ev_un, ev_nil, ev_cons, ev_tup, ev_lst, ev_call, ev_own, ev_sl, ev_no, ev_part, ev_and, ev_or, ev_not, ev_if, ev_t, ev_tb, ev_tnot, ev_tand, ev_tor, ev_mt, ev_mt0, ev_rgd, ev_set, ev_asg, ev_ret, ev_retN, ev_ex, ev_pass, ev_brk, ev_cont, ev_ifS, ev_aug, ev_gn, ev_gtp, ev_gnl, ev_gcs, ev_gsb, ev_for, ev_rg1, ev_rg2, ev_its, ev_enum, ev_lc, ev_yes, ev_add_ii, ev_add_ss, ev_add_tt, ev_add_rr, ev_sub, ev_mul, ev_mod, ev_fdiv, ev_pow, ev_neg, ev_lt, ev_le, ev_gt, ev_ge, ev_eq_ii, ev_eq_ss, ev_eq_bb, ev_ne_ii, ev_ne_ss, ev_ne_bb, ev_is_n, ev_isnt_n, ev_int_i, ev_int_b, ev_min_ii, ev_max_ii, ev_abs, ev_tup_of, ev_tup_ofL, ev_lst_ofT, ev_lst_ofL, ev_len_t, ev_len_s, ev_len_r, ev_tru_b, ev_alloc, ev_tupD, ev_lstD, isi_tuple_non, isi_tuple_bl, isi_tuple_int, isi_tuple_str, isi_tuple_tup, isi_tuple_l, isi_tuple_f, isi_list_non, isi_list_bl, isi_list_int, isi_list_str, isi_list_tup, isi_list_l, isi_list_f, isi_bool_non, isi_bool_bl, isi_bool_int, isi_bool_str, isi_bool_tup, isi_bool_l, isi_bool_f, isi_int_non, isi_int_bl, isi_int_int, isi_int_str, isi_int_tup, isi_int_l, isi_int_f, isi_str_non, isi_str_bl, isi_str_int, isi_str_str, isi_str_tup, isi_str_l, isi_str_f, isi_dict_non, isi_dict_bl, isi_dict_int, isi_dict_str, isi_dict_tup, isi_dict_l, isi_dict_f, Ab.isNon, args, List.map, List.length_cons, List.length_nil, List.length_singleton, List.replicate, Nat.reduceSub, Nat.reduceAdd, Nat.zero_add, List.cons_append, List.nil_append, List.getElem?_cons_zero, List.getElem?_cons_succ, List.set_cons_zero, List.set_cons_succ, Option.some.injEq, decide_eq_true_eq, Bool.not_eq_true', decide_eq_false_iff_not, ite_true, ite_false, if_true, if_false, reduceIte, Bool.false_eq_true, Bool.not_true, Bool.not_false, Bool.true_eq_false, decide_true, decide_false, Nat.reduceLeDiff, Nat.reduceLT, turn_]
        refine ⟨trivial, fun i hi => ?_, _, rfl⟩
        by_cases e : i = k + 1
        · subst e; omega
        · exact q i (by omega)
    · subst hB; subst hσ
      simp only [sat_ok, sat_bad, sat_bind, sat_ite, bind_ok, bind_bad, thn_nx, thn_rt, thn_bk, thn_ct, fin_rt, fin_nx, ev_v, ev_c, ev_op, ev_un, ev_nil, ev_cons, ev_tup, ev_lst, ev_call, ev_own, ev_sl, ev_no, ev_part, ev_and, ev_or, ev_not, ev_if, ev_t, ev_tb, ev_tnot, ev_tand, ev_tor, ev_mt, ev_mt0, ev_rgd, ev_set, ev_asg, ev_ret, ev_retN, ev_ex, ev_pass, ev_brk, ev_cont, ev_ifS, ev_aug, ev_gn, ev_gtp, ev_gnl, ev_gcs, ev_gsb, ev_for, ev_rg1, ev_rg2, ev_its, ev_enum, ev_lc, ev_yes, ev_add_ii, ev_add_ss, ev_add_tt, ev_add_rr, ev_sub, ev_mul, ev_mod, ev_fdiv, ev_pow, ev_neg, ev_lt, ev_le, ev_gt, ev_ge, ev_eq_ii, ev_eq_ss, ev_eq_bb, ev_ne_ii, ev_ne_ss, ev_ne_bb, ev_is_n, ev_isnt_n, ev_int_i, ev_int_b, ev_min_ii, ev_max_ii, ev_abs, ev_tup_of, ev_tup_ofL, ev_lst_ofT, ev_lst_ofL, ev_len_t, ev_len_s, ev_len_r, ev_tru_b, ev_alloc, ev_tupD, ev_lstD, isi_tuple_non, isi_tuple_bl, isi_tuple_int, isi_tuple_str, isi_tuple_tup, isi_tuple_l, isi_tuple_f, isi_list_non, isi_list_bl, isi_list_int, isi_list_str, isi_list_tup, isi_list_l, isi_list_f, isi_bool_non, isi_bool_bl, isi_bool_int, isi_bool_str, isi_bool_tup, isi_bool_l, isi_bool_f, isi_int_non, isi_int_bl, isi_int_int, isi_int_str, isi_int_tup, isi_int_l, isi_int_f, isi_str_non, isi_str_bl, isi_str_int, isi_str_str, isi_str_tup, isi_str_l, isi_str_f, isi_dict_non, isi_dict_bl, isi_dict_int, isi_dict_str, isi_dict_tup, isi_dict_l, isi_dict_f, Ab.isNon, args, List.map, List.length_cons, List.length_nil, List.length_singleton, List.replicate, Nat.reduceSub, Nat.reduceAdd, Nat.zero_add, List.cons_append, List.nil_append, List.getElem?_cons_zero, List.getElem?_cons_succ, List.set_cons_zero, List.set_cons_succ, Option.some.injEq, decide_eq_true_eq, Bool.not_eq_true', decide_eq_false_iff_not, ite_true, ite_false, if_true, if_false, reduceIte, Bool.false_eq_true, Bool.not_true, Bool.not_false, Bool.true_eq_false, decide_true, decide_false, Nat.reduceLeDiff, Nat.reduceLT]
      refine ⟨?_, trivial⟩
      rw [hb.mpr fun i hi => by have := q i (by omega); rw [hl]; exact this]
  obtain ⟨d, A', e, rfl, rfl⟩ := key.eq
  exact e
/-- a small table -/
structure Sm (m : Nat) (M : Mx) : Prop where
  m4 : m ≤ 4
  m1 : 0 < m
  lo : ∀ i j, i < m → j < m → i ≠ j → -3 ≤ M i j
  hi : ∀ i j, i < m → j < m → i ≠ j → M i j ≤ 5
theorem hull_closes {m : Nat} {M : Mx} {ps : List (List Int)} (h0 : 0 < m) (pos : ∀ i, i < m → 0 ≤ M i i) (h : ∀ p, p ∈ ps ↔ Fp M (m - 1) p) : Closes m M (if ps = [] then none else some (mx ps)) := by
  have norm : ∀ p : Nat → Int, Feas m M p → ∃ q ∈ ps, ∀ i, i < m → at0 q i = p i - p 0 := fun p hp => by
    have a : ∀ i, i < m → at0 ((List.range (m - 1)).map fun k => p (k + 1) - p 0) i = p i - p 0 := fun i hi => by
      cases i with
      | zero => rw [at0_z]; omega
      | succ i => rw [at0_s, List.getD_eq_getElem?_getD, List.getElem?_map, List.getElem?_range (by omega)]; rfl
    refine ⟨_, (h _).mpr ⟨by simp, fun i j hi hj e => ?_⟩, a⟩
    rw [a i (by omega), a j (by omega)]
    have := hp i j (by omega) (by omega) e
    omega
  split
  · rename_i e
    refine .inr fun ⟨p, hp⟩ => ?_
    obtain ⟨q, hq, _⟩ := norm p hp
    rw [e] at hq; cases hq
  · rename_i e
    have mem : ∀ i j, ∃ p ∈ ps, at0 p i - at0 p j = mx ps i j := fun i j => List.mem_map.mp (maxI_mem (ns := ps.map fun p => at0 p i - at0 p j) (by simpa using e))
    have ge : ∀ p ∈ ps, ∀ i j, at0 p i - at0 p j ≤ mx ps i j := fun p hp i j => maxI_le (List.mem_map.mpr ⟨p, hp, rfl⟩)
    refine ⟨pos, ⟨fun i l j _ _ _ => ?_, fun i _ => ?_⟩, fun i j hi hj ne => ?_, fun p hp i j hi hj => ?_⟩
    · obtain ⟨p, hp, e1⟩ := mem i j
      have h1 := ge p hp i l
      have h2 := ge p hp l j
      omega
    · obtain ⟨p, hp, e1⟩ := mem i i
      omega
    · obtain ⟨p, hp, e1⟩ := mem i j
      have := ((h p).mp hp).2 i j (by omega) (by omega) ne
      omega
    · obtain ⟨q, hq, a⟩ := norm p hp
      have := ge q hq i j
      rw [a i hi, a j hj] at this
      omega
/-! ### listing them -/
theorem pow11 {c : Nat} (h : c ≤ 3) : 11 ^ c ≤ 1331 := Nat.pow_le_pow_right (n := 11) (by decide) h
theorem points_spec {A : AH} {m : Nat} {M : Mx} (sm : Sm m M) : Sat (m__law_points [matD m M] A) fun d A' => Gr A A' ∧ ∃ r ps, d = .ref r ∧ A'[r]? = some (.lst (ps.map ptD)) ∧ ps.length ≤ 1331 ∧ (((∃ i, i < m ∧ M i i < 0) ∧ ps = []) ∨ ((∀ i, i < m → 0 ≤ M i i) ∧ ∀ p, p ∈ ps ↔ Fp M (m - 1) p)) := by
  have m4 := sm.m4
  have m1 := sm.m1
  refine sat_body rfl (sat_seq ?_)
  have ln : ∀ A, lenD [matD m M] A = .ok (.int (m : Nat)) A := fun A => by
    show lenD [.tup _] A = _
    rw [ev_len_t]; simp
  have i1 : ∀ {k : Nat} A, k < m → ixD (matD m M) (.int (k : Nat)) A = .ok (rowD m (M k)) A := fun A h => ix_mat h
  have i2 : ∀ {k l : Nat} A, l < m → ixD (rowD m (M k)) (.int (l : Nat)) A = .ok (.int (M k l)) A := fun A h => ix_row h
  have fit : ∀ {A : AH} {c : Nat} {p : List Int} {v : Int} {b : Bool}, p.length = c → c + 1 < m → v ≤ M (c + 1) 0 → -v ≤ M 0 (c + 1) → (b = true ↔ Add M p v) → m__law_fits [matD m M, ptD p, .int ((c + 1 : Nat) : Int), .int v] A = .ok (.bl b) A := fun hl hc h1 h2 hb => fits_spec hl hc (by omega) h1 h2 hb
  obtain ⟨ds, hd, dl⟩ : ∃ ds, matD m M = .tup ds ∧ ds.length = m := ⟨_, rfl, by simp⟩
  simp only [hd] at i1 ln fit ⊢
  simp only [sat_ok, sat_bad, sat_bind, sat_ite, bind_ok, bind_bad, thn_nx, thn_rt, thn_bk, thn_ct, fin_rt, fin_nx, ev_v, ev_c, ev_op, ev_un, ev_nil, ev_cons, ev_tup, ev_lst, ev_call, ev_own, ev_sl, ev_no, ev_part, ev_and, ev_or, ev_not, ev_if, ev_t, ev_tb, ev_tnot, ev_tand, ev_tor, ev_mt, ev_mt0, ev_rgd, ev_set, ev_asg, ev_ret, ev_retN, ev_ex, ev_pass, ev_brk, ev_cont, ev_ifS, ev_aug, ev_gn, ev_gtp, ev_gnl, ev_gcs, ev_gsb, ev_for, ev_rg1, ev_rg2, ev_its, ev_enum, ev_lc, ev_yes, ev_add_ii, ev_add_ss, ev_add_tt, ev_add_rr, ev_sub, ev_mul, ev_mod, ev_fdiv, ev_pow, ev_neg, ev_lt, ev_le, ev_gt, ev_ge, ev_eq_ii, ev_eq_ss, ev_eq_bb, ev_ne_ii, ev_ne_ss, ev_ne_bb, ev_is_n, ev_isnt_n, ev_int_i, ev_int_b, ev_min_ii, ev_max_ii, ev_abs, ev_tup_of, ev_tup_ofL, ev_lst_ofT, ev_lst_ofL, ev_len_t, ev_len_s, ev_len_r, ev_tru_b, ev_alloc, ev_tupD, ev_lstD, isi_tuple_non, isi_tuple_bl, isi_tuple_int, isi_tuple_str, isi_tuple_tup, isi_tuple_l, isi_tuple_f, isi_list_non, isi_list_bl, isi_list_int, isi_list_str, isi_list_tup, isi_list_l, isi_list_f, isi_bool_non, isi_bool_bl, isi_bool_int, isi_bool_str, isi_bool_tup, isi_bool_l, isi_bool_f, isi_int_non, isi_int_bl, isi_int_int, isi_int_str, isi_int_tup, isi_int_l, isi_int_f, isi_str_non, isi_str_bl, isi_str_int, isi_str_str, isi_str_tup, isi_str_l, isi_str_f, isi_dict_non, isi_dict_bl, isi_dict_int, isi_dict_str, isi_dict_tup, isi_dict_l, isi_dict_f, Ab.isNon, args, List.map, List.length_cons, List.length_nil, List.length_singleton, List.replicate, Nat.reduceSub, Nat.reduceAdd, Nat.zero_add, List.cons_append, List.nil_append, List.getElem?_cons_zero, List.getElem?_cons_succ, List.set_cons_zero, List.set_cons_succ, Option.some.injEq, decide_eq_true_eq, Bool.not_eq_true', decide_eq_false_iff_not, ite_true, ite_false, if_true, if_false, reduceIte, Bool.false_eq_true, Bool.not_true, Bool.not_false, Bool.true_eq_false, decide_true, decide_false, Nat.reduceLeDiff, Nat.reduceLT, dl, wipeA]
  rw [if_pos (inRg_of (by omega) (by omega)), Int.toNat_natCast]
  refine comp_pure (fun k : Nat => .int (0 + (k : Nat))) (fun k => .int (M k k)) (fun _ => trivial) (fun k hk l => ?_) (by simp; omega) ?_
  · have hk := List.mem_range.mp hk
    simp only [sat_ok, sat_bad, sat_bind, sat_ite, bind_ok, bind_bad, thn_nx, thn_rt, thn_bk, thn_ct, fin_rt, fin_nx, ev_v, ev_c, ev_op, ev_un, ev_nil, ev_cons, ev_tup, ev_lst, ev_call, ev_own, ev_sl, ev_no, ev_part, ev_and, ev_or, ev_not, ev_if, ev_t, ev_tb, ev_tnot, ev_tand, ev_tor, ev_mt, ev_mt0, ev_rgd, ev_set, ev_asg, ev_ret, ev_retN, ev_ex, ev_pass, ev_brk, ev_cont, ev_ifS, ev_aug, ev_gn, ev_gtp, ev_gnl, ev_gcs, ev_gsb, ev_for, ev_rg1, ev_rg2, ev_its, ev_enum, ev_lc, ev_yes, ev_add_ii, ev_add_ss, ev_add_tt, ev_add_rr, ev_sub, ev_mul, ev_mod, ev_fdiv, ev_pow, ev_neg, ev_lt, ev_le, ev_gt, ev_ge, ev_eq_ii, ev_eq_ss, ev_eq_bb, ev_ne_ii, ev_ne_ss, ev_ne_bb, ev_is_n, ev_isnt_n, ev_int_i, ev_int_b, ev_min_ii, ev_max_ii, ev_abs, ev_tup_of, ev_tup_ofL, ev_lst_ofT, ev_lst_ofL, ev_len_t, ev_len_s, ev_len_r, ev_tru_b, ev_alloc, ev_tupD, ev_lstD, isi_tuple_non, isi_tuple_bl, isi_tuple_int, isi_tuple_str, isi_tuple_tup, isi_tuple_l, isi_tuple_f, isi_list_non, isi_list_bl, isi_list_int, isi_list_str, isi_list_tup, isi_list_l, isi_list_f, isi_bool_non, isi_bool_bl, isi_bool_int, isi_bool_str, isi_bool_tup, isi_bool_l, isi_bool_f, isi_int_non, isi_int_bl, isi_int_int, isi_int_str, isi_int_tup, isi_int_l, isi_int_f, isi_str_non, isi_str_bl, isi_str_int, isi_str_str, isi_str_tup, isi_str_l, isi_str_f, isi_dict_non, isi_dict_bl, isi_dict_int, isi_dict_str, isi_dict_tup, isi_dict_l, isi_dict_f, Ab.isNon, args, List.map, List.length_cons, List.length_nil, List.length_singleton, List.replicate, Nat.reduceSub, Nat.reduceAdd, Nat.zero_add, List.cons_append, List.nil_append, List.getElem?_cons_zero, List.getElem?_cons_succ, List.set_cons_zero, List.set_cons_succ, Option.some.injEq, decide_eq_true_eq, Bool.not_eq_true', decide_eq_false_iff_not, ite_true, ite_false, if_true, if_false, reduceIte, Bool.false_eq_true, Bool.not_true, Bool.not_false, Bool.true_eq_false, decide_true, decide_false, Nat.reduceLeDiff, Nat.reduceLT, Int.zero_add]
    rw [i1 _ hk, sat_ok, i2 _ hk]
    exact ⟨rfl, rfl⟩
  have em : ((List.range m).map fun k => D.int (M k k)) = ((List.range m).map fun k => M k k).map D.int := by rw [List.map_map]; rfl
  have ne : ((List.range m).map fun k => M k k) ≠ [] := fun e => by
    have := congrArg List.length e
    simp at this; omega
  have hs : minD [.ref A.length] (A ++ [.lst ((List.range m).map fun k => D.int (M k k))]) = .ok (.int (minI ((List.range m).map fun k => M k k))) _ := ev_min_l (by rw [← em]; exact at_new) ne
  simp only [sat_ok, sat_bad, sat_bind, sat_ite, bind_ok, bind_bad, thn_nx, thn_rt, thn_bk, thn_ct, fin_rt, fin_nx, ev_v, ev_c, ev_op, ev_un, ev_nil, ev_cons, ev_tup, ev_lst, ev_call, ev_own, ev_sl, ev_no, ev_part, ev_and, ev_or, ev_not, ev_if, ev_t, ev_tb, ev_tnot, ev_tand, ev_tor, ev_mt, ev_mt0, ev_rgd, ev_set, ev_asg, ev_ret, ev_retN, ev_ex, ev_pass, ev_brk, ev_cont, ev_ifS, ev_aug, ev_gn, ev_gtp, ev_gnl, ev_gcs, ev_gsb, ev_for, ev_rg1, ev_rg2, ev_its, ev_enum, ev_lc, ev_yes, ev_add_ii, ev_add_ss, ev_add_tt, ev_add_rr, ev_sub, ev_mul, ev_mod, ev_fdiv, ev_pow, ev_neg, ev_lt, ev_le, ev_gt, ev_ge, ev_eq_ii, ev_eq_ss, ev_eq_bb, ev_ne_ii, ev_ne_ss, ev_ne_bb, ev_is_n, ev_isnt_n, ev_int_i, ev_int_b, ev_min_ii, ev_max_ii, ev_abs, ev_tup_of, ev_tup_ofL, ev_lst_ofT, ev_lst_ofL, ev_len_t, ev_len_s, ev_len_r, ev_tru_b, ev_alloc, ev_tupD, ev_lstD, isi_tuple_non, isi_tuple_bl, isi_tuple_int, isi_tuple_str, isi_tuple_tup, isi_tuple_l, isi_tuple_f, isi_list_non, isi_list_bl, isi_list_int, isi_list_str, isi_list_tup, isi_list_l, isi_list_f, isi_bool_non, isi_bool_bl, isi_bool_int, isi_bool_str, isi_bool_tup, isi_bool_l, isi_bool_f, isi_int_non, isi_int_bl, isi_int_int, isi_int_str, isi_int_tup, isi_int_l, isi_int_f, isi_str_non, isi_str_bl, isi_str_int, isi_str_str, isi_str_tup, isi_str_l, isi_str_f, isi_dict_non, isi_dict_bl, isi_dict_int, isi_dict_str, isi_dict_tup, isi_dict_l, isi_dict_f, Ab.isNon, args, List.map, List.length_cons, List.length_nil, List.length_singleton, List.replicate, Nat.reduceSub, Nat.reduceAdd, Nat.zero_add, List.cons_append, List.nil_append, List.getElem?_cons_zero, List.getElem?_cons_succ, List.set_cons_zero, List.set_cons_succ, Option.some.injEq, decide_eq_true_eq, Bool.not_eq_true', decide_eq_false_iff_not, ite_true, ite_false, if_true, if_false, reduceIte, Bool.false_eq_true, Bool.not_true, Bool.not_false, Bool.true_eq_false, decide_true, decide_false, Nat.reduceLeDiff, Nat.reduceLT, hs]
  have G0 := Gr.app (A := A) (B := [.lst ((List.range m).map fun k => D.int (M k k))])
  generalize A ++ [AO.lst ((List.range m).map fun k => D.int (M k k))] = A1 at G0 ⊢
  split
  · rename_i hn
    obtain ⟨k, hk, e⟩ := List.mem_map.mp (minI_mem ne)
    exact ⟨G0.trans .app, _, [], rfl, at_new, by simp, .inl ⟨⟨k, List.mem_range.mp hk, by omega⟩, rfl⟩⟩
  rename_i hn
  have pos : ∀ i, i < m → 0 ≤ M i i := fun i hi => by
    have := minI_le (ns := (List.range m).map fun k => M k k) (List.mem_map.mpr ⟨i, List.mem_range.mpr hi, rfl⟩)
    have this : minI ((List.range m).map fun k => M k k) ≤ M i i := this
    omega
  refine sat_seq ?_
  simp only [sat_ok, sat_bad, sat_bind, sat_ite, bind_ok, bind_bad, thn_nx, thn_rt, thn_bk, thn_ct, fin_rt, fin_nx, ev_v, ev_c, ev_op, ev_un, ev_nil, ev_cons, ev_tup, ev_lst, ev_call, ev_own, ev_sl, ev_no, ev_part, ev_and, ev_or, ev_not, ev_if, ev_t, ev_tb, ev_tnot, ev_tand, ev_tor, ev_mt, ev_mt0, ev_rgd, ev_set, ev_asg, ev_ret, ev_retN, ev_ex, ev_pass, ev_brk, ev_cont, ev_ifS, ev_aug, ev_gn, ev_gtp, ev_gnl, ev_gcs, ev_gsb, ev_for, ev_rg1, ev_rg2, ev_its, ev_enum, ev_lc, ev_yes, ev_add_ii, ev_add_ss, ev_add_tt, ev_add_rr, ev_sub, ev_mul, ev_mod, ev_fdiv, ev_pow, ev_neg, ev_lt, ev_le, ev_gt, ev_ge, ev_eq_ii, ev_eq_ss, ev_eq_bb, ev_ne_ii, ev_ne_ss, ev_ne_bb, ev_is_n, ev_isnt_n, ev_int_i, ev_int_b, ev_min_ii, ev_max_ii, ev_abs, ev_tup_of, ev_tup_ofL, ev_lst_ofT, ev_lst_ofL, ev_len_t, ev_len_s, ev_len_r, ev_tru_b, ev_alloc, ev_tupD, ev_lstD, isi_tuple_non, isi_tuple_bl, isi_tuple_int, isi_tuple_str, isi_tuple_tup, isi_tuple_l, isi_tuple_f, isi_list_non, isi_list_bl, isi_list_int, isi_list_str, isi_list_tup, isi_list_l, isi_list_f, isi_bool_non, isi_bool_bl, isi_bool_int, isi_bool_str, isi_bool_tup, isi_bool_l, isi_bool_f, isi_int_non, isi_int_bl, isi_int_int, isi_int_str, isi_int_tup, isi_int_l, isi_int_f, isi_str_non, isi_str_bl, isi_str_int, isi_str_str, isi_str_tup, isi_str_l, isi_str_f, isi_dict_non, isi_dict_bl, isi_dict_int, isi_dict_str, isi_dict_tup, isi_dict_l, isi_dict_f, Ab.isNon, args, List.map, List.length_cons, List.length_nil, List.length_singleton, List.replicate, Nat.reduceSub, Nat.reduceAdd, Nat.zero_add, List.cons_append, List.nil_append, List.getElem?_cons_zero, List.getElem?_cons_succ, List.set_cons_zero, List.set_cons_succ, Option.some.injEq, decide_eq_true_eq, Bool.not_eq_true', decide_eq_false_iff_not, ite_true, ite_false, if_true, if_false, reduceIte, Bool.false_eq_true, Bool.not_true, Bool.not_false, Bool.true_eq_false, decide_true, decide_false, Nat.reduceLeDiff, Nat.reduceLT]
  refine sat_seq ?_
  have h1 := at_new (A := A1) (o := .lst [.tup []])
  have G1 := G0.trans (Gr.app (B := [AO.lst [.tup []]]))
  simp only [sat_ok, sat_bad, sat_bind, sat_ite, bind_ok, bind_bad, thn_nx, thn_rt, thn_bk, thn_ct, fin_rt, fin_nx, ev_v, ev_c, ev_op, ev_un, ev_nil, ev_cons, ev_tup, ev_lst, ev_call, ev_own, ev_sl, ev_no, ev_part, ev_and, ev_or, ev_not, ev_if, ev_t, ev_tb, ev_tnot, ev_tand, ev_tor, ev_mt, ev_mt0, ev_rgd, ev_set, ev_asg, ev_ret, ev_retN, ev_ex, ev_pass, ev_brk, ev_cont, ev_ifS, ev_aug, ev_gn, ev_gtp, ev_gnl, ev_gcs, ev_gsb, ev_for, ev_rg1, ev_rg2, ev_its, ev_enum, ev_lc, ev_yes, ev_add_ii, ev_add_ss, ev_add_tt, ev_add_rr, ev_sub, ev_mul, ev_mod, ev_fdiv, ev_pow, ev_neg, ev_lt, ev_le, ev_gt, ev_ge, ev_eq_ii, ev_eq_ss, ev_eq_bb, ev_ne_ii, ev_ne_ss, ev_ne_bb, ev_is_n, ev_isnt_n, ev_int_i, ev_int_b, ev_min_ii, ev_max_ii, ev_abs, ev_tup_of, ev_tup_ofL, ev_lst_ofT, ev_lst_ofL, ev_len_t, ev_len_s, ev_len_r, ev_tru_b, ev_alloc, ev_tupD, ev_lstD, isi_tuple_non, isi_tuple_bl, isi_tuple_int, isi_tuple_str, isi_tuple_tup, isi_tuple_l, isi_tuple_f, isi_list_non, isi_list_bl, isi_list_int, isi_list_str, isi_list_tup, isi_list_l, isi_list_f, isi_bool_non, isi_bool_bl, isi_bool_int, isi_bool_str, isi_bool_tup, isi_bool_l, isi_bool_f, isi_int_non, isi_int_bl, isi_int_int, isi_int_str, isi_int_tup, isi_int_l, isi_int_f, isi_str_non, isi_str_bl, isi_str_int, isi_str_str, isi_str_tup, isi_str_l, isi_str_f, isi_dict_non, isi_dict_bl, isi_dict_int, isi_dict_str, isi_dict_tup, isi_dict_l, isi_dict_f, Ab.isNon, args, List.map, List.length_cons, List.length_nil, List.length_singleton, List.replicate, Nat.reduceSub, Nat.reduceAdd, Nat.zero_add, List.cons_append, List.nil_append, List.getElem?_cons_zero, List.getElem?_cons_succ, List.set_cons_zero, List.set_cons_succ, Option.some.injEq, decide_eq_true_eq, Bool.not_eq_true', decide_eq_false_iff_not, ite_true, ite_false, if_true, if_false, reduceIte, Bool.false_eq_true, Bool.not_true, Bool.not_false, Bool.true_eq_false, decide_true, decide_false, Nat.reduceLeDiff, Nat.reduceLT, dl]
  generalize A1 ++ [AO.lst [.tup []]] = A2 at h1 G1 ⊢
  generalize A1.length = r1 at h1 ⊢
  rw [if_pos ⟨inRg_of (by decide) (by decide), inRg_of (by omega) (by omega)⟩, show ((m : Int) - 1).toNat = m - 1 by omega]
  have start : ∀ p : List Int, p ∈ ([[]] : List (List Int)) ↔ Fp M 0 p := fun p => by
    constructor
    · intro h
      cases List.mem_singleton.mp h
      exact ⟨rfl, fun i j hi hj e => by omega⟩
    · rintro ⟨h, _⟩
      exact List.mem_singleton.mpr (List.eq_nil_of_length_eq_zero h)
  refine range_inv (fun c σ B => Gr A B ∧ ∃ r ps, B[r]? = some (.lst (ps.map ptD)) ∧ ps.length ≤ 11 ^ c ∧ (∀ p, p ∈ ps ↔ Fp M c p) ∧ ∃ x y z w, σ = [some (.tup ds), none, some (.ref r), x, y, z, w])
    (fun c σ B hc ⟨G, r, ps, hr, pl, pp, x, y, z, w, hσ⟩ => ?_) (fun σ B ⟨G, r, ps, hr, pl, pp, x, y, z, w, hσ⟩ => ?_) ⟨G1, r1, [[]], h1, by simp, start, none, none, none, none, rfl⟩
  · subst hσ
    have p3 := pow11 (c := c) (by omega)
    have lo1 := sm.lo (c + 1) 0 (by omega) (by omega) (by omega)
    have lo2 := sm.lo 0 (c + 1) (by omega) (by omega) (by omega)
    have hi1 := sm.hi (c + 1) 0 (by omega) (by omega) (by omega)
    have hi2 := sm.hi 0 (c + 1) (by omega) (by omega) (by omega)
    have c1 : (1 + (c : Int)) = ((c + 1 : Nat) : Int) := by omega
    simp only [sat_ok, sat_bad, sat_bind, sat_ite, bind_ok, bind_bad, thn_nx, thn_rt, thn_bk, thn_ct, fin_rt, fin_nx, ev_v, ev_c, ev_op, ev_un, ev_nil, ev_cons, ev_tup, ev_lst, ev_call, ev_own, ev_sl, ev_no, ev_part, ev_and, ev_or, ev_not, ev_if, ev_t, ev_tb, ev_tnot, ev_tand, ev_tor, ev_mt, ev_mt0, ev_rgd, ev_set, ev_asg, ev_ret, ev_retN, ev_ex, ev_pass, ev_brk, ev_cont, ev_ifS, ev_aug, ev_gn, ev_gtp, ev_gnl, ev_gcs, ev_gsb, ev_for, ev_rg1, ev_rg2, ev_its, ev_enum, ev_lc, ev_yes, ev_add_ii, ev_add_ss, ev_add_tt, ev_add_rr, ev_sub, ev_mul, ev_mod, ev_fdiv, ev_pow, ev_neg, ev_lt, ev_le, ev_gt, ev_ge, ev_eq_ii, ev_eq_ss, ev_eq_bb, ev_ne_ii, ev_ne_ss, ev_ne_bb, ev_is_n, ev_isnt_n, ev_int_i, ev_int_b, ev_min_ii, ev_max_ii, ev_abs, ev_tup_of, ev_tup_ofL, ev_lst_ofT, ev_lst_ofL, ev_len_t, ev_len_s, ev_len_r, ev_tru_b, ev_alloc, ev_tupD, ev_lstD, isi_tuple_non, isi_tuple_bl, isi_tuple_int, isi_tuple_str, isi_tuple_tup, isi_tuple_l, isi_tuple_f, isi_list_non, isi_list_bl, isi_list_int, isi_list_str, isi_list_tup, isi_list_l, isi_list_f, isi_bool_non, isi_bool_bl, isi_bool_int, isi_bool_str, isi_bool_tup, isi_bool_l, isi_bool_f, isi_int_non, isi_int_bl, isi_int_int, isi_int_str, isi_int_tup, isi_int_l, isi_int_f, isi_str_non, isi_str_bl, isi_str_int, isi_str_str, isi_str_tup, isi_str_l, isi_str_f, isi_dict_non, isi_dict_bl, isi_dict_int, isi_dict_str, isi_dict_tup, isi_dict_l, isi_dict_f, Ab.isNon, args, List.map, List.length_cons, List.length_nil, List.length_singleton, List.replicate, Nat.reduceSub, Nat.reduceAdd, Nat.zero_add, List.cons_append, List.nil_append, List.getElem?_cons_zero, List.getElem?_cons_succ, List.set_cons_zero, List.set_cons_succ, Option.some.injEq, decide_eq_true_eq, Bool.not_eq_true', decide_eq_false_iff_not, ite_true, ite_false, if_true, if_false, reduceIte, Bool.false_eq_true, Bool.not_true, Bool.not_false, Bool.true_eq_false, decide_true, decide_false, Nat.reduceLeDiff, Nat.reduceLT, c1]
    refine sat_seq ?_
    simp only [sat_ok, sat_bad, sat_bind, sat_ite, bind_ok, bind_bad, thn_nx, thn_rt, thn_bk, thn_ct, fin_rt, fin_nx, ev_v, ev_c, ev_op, ev_un, ev_nil, ev_cons, ev_tup, ev_lst, ev_call, ev_own, ev_sl, ev_no, ev_part, ev_and, ev_or, ev_not, ev_if, ev_t, ev_tb, ev_tnot, ev_tand, ev_tor, ev_mt, ev_mt0, ev_rgd, ev_set, ev_asg, ev_ret, ev_retN, ev_ex, ev_pass, ev_brk, ev_cont, ev_ifS, ev_aug, ev_gn, ev_gtp, ev_gnl, ev_gcs, ev_gsb, ev_for, ev_rg1, ev_rg2, ev_its, ev_enum, ev_lc, ev_yes, ev_add_ii, ev_add_ss, ev_add_tt, ev_add_rr, ev_sub, ev_mul, ev_mod, ev_fdiv, ev_pow, ev_neg, ev_lt, ev_le, ev_gt, ev_ge, ev_eq_ii, ev_eq_ss, ev_eq_bb, ev_ne_ii, ev_ne_ss, ev_ne_bb, ev_is_n, ev_isnt_n, ev_int_i, ev_int_b, ev_min_ii, ev_max_ii, ev_abs, ev_tup_of, ev_tup_ofL, ev_lst_ofT, ev_lst_ofL, ev_len_t, ev_len_s, ev_len_r, ev_tru_b, ev_alloc, ev_tupD, ev_lstD, isi_tuple_non, isi_tuple_bl, isi_tuple_int, isi_tuple_str, isi_tuple_tup, isi_tuple_l, isi_tuple_f, isi_list_non, isi_list_bl, isi_list_int, isi_list_str, isi_list_tup, isi_list_l, isi_list_f, isi_bool_non, isi_bool_bl, isi_bool_int, isi_bool_str, isi_bool_tup, isi_bool_l, isi_bool_f, isi_int_non, isi_int_bl, isi_int_int, isi_int_str, isi_int_tup, isi_int_l, isi_int_f, isi_str_non, isi_str_bl, isi_str_int, isi_str_str, isi_str_tup, isi_str_l, isi_str_f, isi_dict_non, isi_dict_bl, isi_dict_int, isi_dict_str, isi_dict_tup, isi_dict_l, isi_dict_f, Ab.isNon, args, List.map, List.length_cons, List.length_nil, List.length_singleton, List.replicate, Nat.reduceSub, Nat.reduceAdd, Nat.zero_add, List.cons_append, List.nil_append, List.getElem?_cons_zero, List.getElem?_cons_succ, List.set_cons_zero, List.set_cons_succ, Option.some.injEq, decide_eq_true_eq, Bool.not_eq_true', decide_eq_false_iff_not, ite_true, ite_false, if_true, if_false, reduceIte, Bool.false_eq_true, Bool.not_true, Bool.not_false, Bool.true_eq_false, decide_true, decide_false, Nat.reduceLeDiff, Nat.reduceLT]
    refine sat_seq ?_
    have hL := at_new (A := B) (o := .lst [])
    have lA : A.length ≤ B.length := G.le
    have G := G.trans (Gr.app (B := [AO.lst []]))
    have nr : B.length ≠ r := by have := at_lt hr; omega
    have hr := (Gr.app (B := [AO.lst []])).keep _ _ hr
    simp only [sat_ok, sat_bad, sat_bind, sat_ite, bind_ok, bind_bad, thn_nx, thn_rt, thn_bk, thn_ct, fin_rt, fin_nx, ev_v, ev_c, ev_op, ev_un, ev_nil, ev_cons, ev_tup, ev_lst, ev_call, ev_own, ev_sl, ev_no, ev_part, ev_and, ev_or, ev_not, ev_if, ev_t, ev_tb, ev_tnot, ev_tand, ev_tor, ev_mt, ev_mt0, ev_rgd, ev_set, ev_asg, ev_ret, ev_retN, ev_ex, ev_pass, ev_brk, ev_cont, ev_ifS, ev_aug, ev_gn, ev_gtp, ev_gnl, ev_gcs, ev_gsb, ev_for, ev_rg1, ev_rg2, ev_its, ev_enum, ev_lc, ev_yes, ev_add_ii, ev_add_ss, ev_add_tt, ev_add_rr, ev_sub, ev_mul, ev_mod, ev_fdiv, ev_pow, ev_neg, ev_lt, ev_le, ev_gt, ev_ge, ev_eq_ii, ev_eq_ss, ev_eq_bb, ev_ne_ii, ev_ne_ss, ev_ne_bb, ev_is_n, ev_isnt_n, ev_int_i, ev_int_b, ev_min_ii, ev_max_ii, ev_abs, ev_tup_of, ev_tup_ofL, ev_lst_ofT, ev_lst_ofL, ev_len_t, ev_len_s, ev_len_r, ev_tru_b, ev_alloc, ev_tupD, ev_lstD, isi_tuple_non, isi_tuple_bl, isi_tuple_int, isi_tuple_str, isi_tuple_tup, isi_tuple_l, isi_tuple_f, isi_list_non, isi_list_bl, isi_list_int, isi_list_str, isi_list_tup, isi_list_l, isi_list_f, isi_bool_non, isi_bool_bl, isi_bool_int, isi_bool_str, isi_bool_tup, isi_bool_l, isi_bool_f, isi_int_non, isi_int_bl, isi_int_int, isi_int_str, isi_int_tup, isi_int_l, isi_int_f, isi_str_non, isi_str_bl, isi_str_int, isi_str_str, isi_str_tup, isi_str_l, isi_str_f, isi_dict_non, isi_dict_bl, isi_dict_int, isi_dict_str, isi_dict_tup, isi_dict_l, isi_dict_f, Ab.isNon, args, List.map, List.length_cons, List.length_nil, List.length_singleton, List.replicate, Nat.reduceSub, Nat.reduceAdd, Nat.zero_add, List.cons_append, List.nil_append, List.getElem?_cons_zero, List.getElem?_cons_succ, List.set_cons_zero, List.set_cons_succ, Option.some.injEq, decide_eq_true_eq, Bool.not_eq_true', decide_eq_false_iff_not, ite_true, ite_false, if_true, if_false, reduceIte, Bool.false_eq_true, Bool.not_true, Bool.not_false, Bool.true_eq_false, decide_true, decide_false, Nat.reduceLeDiff, Nat.reduceLT]
    rw [ev_iseq_l hr]
    generalize B ++ [AO.lst []] = B1 at hL hr G ⊢
    generalize B.length = q at hL nr lA ⊢
    simp only [sat_ok, sat_bad, sat_bind, sat_ite, bind_ok, bind_bad, thn_nx, thn_rt, thn_bk, thn_ct, fin_rt, fin_nx, ev_v, ev_c, ev_op, ev_un, ev_nil, ev_cons, ev_tup, ev_lst, ev_call, ev_own, ev_sl, ev_no, ev_part, ev_and, ev_or, ev_not, ev_if, ev_t, ev_tb, ev_tnot, ev_tand, ev_tor, ev_mt, ev_mt0, ev_rgd, ev_set, ev_asg, ev_ret, ev_retN, ev_ex, ev_pass, ev_brk, ev_cont, ev_ifS, ev_aug, ev_gn, ev_gtp, ev_gnl, ev_gcs, ev_gsb, ev_for, ev_rg1, ev_rg2, ev_its, ev_enum, ev_lc, ev_yes, ev_add_ii, ev_add_ss, ev_add_tt, ev_add_rr, ev_sub, ev_mul, ev_mod, ev_fdiv, ev_pow, ev_neg, ev_lt, ev_le, ev_gt, ev_ge, ev_eq_ii, ev_eq_ss, ev_eq_bb, ev_ne_ii, ev_ne_ss, ev_ne_bb, ev_is_n, ev_isnt_n, ev_int_i, ev_int_b, ev_min_ii, ev_max_ii, ev_abs, ev_tup_of, ev_tup_ofL, ev_lst_ofT, ev_lst_ofL, ev_len_t, ev_len_s, ev_len_r, ev_tru_b, ev_alloc, ev_tupD, ev_lstD, isi_tuple_non, isi_tuple_bl, isi_tuple_int, isi_tuple_str, isi_tuple_tup, isi_tuple_l, isi_tuple_f, isi_list_non, isi_list_bl, isi_list_int, isi_list_str, isi_list_tup, isi_list_l, isi_list_f, isi_bool_non, isi_bool_bl, isi_bool_int, isi_bool_str, isi_bool_tup, isi_bool_l, isi_bool_f, isi_int_non, isi_int_bl, isi_int_int, isi_int_str, isi_int_tup, isi_int_l, isi_int_f, isi_str_non, isi_str_bl, isi_str_int, isi_str_str, isi_str_tup, isi_str_l, isi_str_f, isi_dict_non, isi_dict_bl, isi_dict_int, isi_dict_str, isi_dict_tup, isi_dict_l, isi_dict_f, Ab.isNon, args, List.map, List.length_cons, List.length_nil, List.length_singleton, List.replicate, Nat.reduceSub, Nat.reduceAdd, Nat.zero_add, List.cons_append, List.nil_append, List.getElem?_cons_zero, List.getElem?_cons_succ, List.set_cons_zero, List.set_cons_succ, Option.some.injEq, decide_eq_true_eq, Bool.not_eq_true', decide_eq_false_iff_not, ite_true, ite_false, if_true, if_false, reduceIte, Bool.false_eq_true, Bool.not_true, Bool.not_false, Bool.true_eq_false, decide_true, decide_false, Nat.reduceLeDiff, Nat.reduceLT]
    refine loop_inv (fun es σ C => Gr A C ∧ C[r]? = some (.lst (ps.map ptD)) ∧ (∃ pre post qs, ps = pre ++ post ∧ es = post.map ptD ∧ C[q]? = some (.lst (qs.map ptD)) ∧ qs.length ≤ 11 * pre.length ∧ (∀ p', p' ∈ qs ↔ ∃ p v, p' = p ++ [v] ∧ p ∈ pre ∧ Add M p v)) ∧ ∃ z w, σ = [some (.tup ds), none, some (.ref r), some (.int ((c + 1 : Nat) : Int)), some (.ref q), z, w])
      (fun e es σ C ⟨G, hr, ⟨pre, post, qs, e1, e2, hq, ql, qq⟩, z, w, hσ⟩ => ?_) (fun σ C ⟨G, hr, ⟨pre, post, qs, e1, e2, hq, ql, qq⟩, z, w, hσ⟩ => ?_) _ _ _ ⟨G, hr, ⟨[], ps, [], rfl, rfl, hL, by simp, fun p' => ⟨fun h => (by cases h), fun ⟨p, v, _, h, _⟩ => (by cases h)⟩⟩, z, w, rfl⟩
    · subst hσ
      refine ⟨rdL_l hr, ?_⟩
      cases post with
      | nil => cases e2
      | cons p post =>
        rw [List.map_cons, List.cons.injEq] at e2
        obtain ⟨e2, e3⟩ := e2
        subst e2; subst e3
        have fp := (pp p).mp (by rw [e1]; simp)
        have l1 := congrArg List.length e1
        rw [List.length_append, List.length_cons] at l1
        simp only [sat_ok, sat_bad, sat_bind, sat_ite, bind_ok, bind_bad, thn_nx, thn_rt, thn_bk, thn_ct, fin_rt, fin_nx, ev_v, ev_c, ev_op, ev_un, ev_nil, ev_cons, ev_tup, ev_lst, ev_call, ev_own, ev_sl, ev_no, ev_part, ev_and, ev_or, ev_not, ev_if, ev_t, ev_tb, ev_tnot, ev_tand, ev_tor, ev_mt, ev_mt0, ev_rgd, ev_set, ev_asg, ev_ret, ev_retN, ev_ex, ev_pass, ev_brk, ev_cont, ev_ifS, ev_aug, ev_gn, ev_gtp, ev_gnl, ev_gcs, ev_gsb, ev_for, ev_rg1, ev_rg2, ev_its, ev_enum, ev_lc, ev_yes, ev_add_ii, ev_add_ss, ev_add_tt, ev_add_rr, ev_sub, ev_mul, ev_mod, ev_fdiv, ev_pow, ev_neg, ev_lt, ev_le, ev_gt, ev_ge, ev_eq_ii, ev_eq_ss, ev_eq_bb, ev_ne_ii, ev_ne_ss, ev_ne_bb, ev_is_n, ev_isnt_n, ev_int_i, ev_int_b, ev_min_ii, ev_max_ii, ev_abs, ev_tup_of, ev_tup_ofL, ev_lst_ofT, ev_lst_ofL, ev_len_t, ev_len_s, ev_len_r, ev_tru_b, ev_alloc, ev_tupD, ev_lstD, isi_tuple_non, isi_tuple_bl, isi_tuple_int, isi_tuple_str, isi_tuple_tup, isi_tuple_l, isi_tuple_f, isi_list_non, isi_list_bl, isi_list_int, isi_list_str, isi_list_tup, isi_list_l, isi_list_f, isi_bool_non, isi_bool_bl, isi_bool_int, isi_bool_str, isi_bool_tup, isi_bool_l, isi_bool_f, isi_int_non, isi_int_bl, isi_int_int, isi_int_str, isi_int_tup, isi_int_l, isi_int_f, isi_str_non, isi_str_bl, isi_str_int, isi_str_str, isi_str_tup, isi_str_l, isi_str_f, isi_dict_non, isi_dict_bl, isi_dict_int, isi_dict_str, isi_dict_tup, isi_dict_l, isi_dict_f, Ab.isNon, args, List.map, List.length_cons, List.length_nil, List.length_singleton, List.replicate, Nat.reduceSub, Nat.reduceAdd, Nat.zero_add, List.cons_append, List.nil_append, List.getElem?_cons_zero, List.getElem?_cons_succ, List.set_cons_zero, List.set_cons_succ, Option.some.injEq, decide_eq_true_eq, Bool.not_eq_true', decide_eq_false_iff_not, ite_true, ite_false, if_true, if_false, reduceIte, Bool.false_eq_true, Bool.not_true, Bool.not_false, Bool.true_eq_false, decide_true, decide_false, Nat.reduceLeDiff, Nat.reduceLT]
        have z0 : ixD (.tup ds) (.int 0) C = .ok (rowD m (M 0)) C := i1 (k := 0) C (by omega)
        have z1 : ∀ A, ixD (rowD m (M (c + 1))) (.int 0) A = .ok (.int (M (c + 1) 0)) A := fun A => i2 (l := 0) A (by omega)
        simp only [z0, i2 C (show c + 1 < m by omega), i1 C (show c + 1 < m by omega), z1, sat_ok, sat_bad, sat_bind, sat_ite, bind_ok, bind_bad, thn_nx, thn_rt, thn_bk, thn_ct, fin_rt, fin_nx, ev_v, ev_c, ev_op, ev_un, ev_nil, ev_cons, ev_tup, ev_lst, ev_call, ev_own, ev_sl, ev_no, ev_part, ev_and, ev_or, ev_not, ev_if, ev_t, ev_tb, ev_tnot, ev_tand, ev_tor, ev_mt, ev_mt0, ev_rgd, ev_set, ev_asg, ev_ret, ev_retN, ev_ex, ev_pass, ev_brk, ev_cont, ev_ifS, ev_aug, ev_gn, ev_gtp, ev_gnl, ev_gcs, ev_gsb, ev_for, ev_rg1, ev_rg2, ev_its, ev_enum, ev_lc, ev_yes, ev_add_ii, ev_add_ss, ev_add_tt, ev_add_rr, ev_sub, ev_mul, ev_mod, ev_fdiv, ev_pow, ev_neg, ev_lt, ev_le, ev_gt, ev_ge, ev_eq_ii, ev_eq_ss, ev_eq_bb, ev_ne_ii, ev_ne_ss, ev_ne_bb, ev_is_n, ev_isnt_n, ev_int_i, ev_int_b, ev_min_ii, ev_max_ii, ev_abs, ev_tup_of, ev_tup_ofL, ev_lst_ofT, ev_lst_ofL, ev_len_t, ev_len_s, ev_len_r, ev_tru_b, ev_alloc, ev_tupD, ev_lstD, isi_tuple_non, isi_tuple_bl, isi_tuple_int, isi_tuple_str, isi_tuple_tup, isi_tuple_l, isi_tuple_f, isi_list_non, isi_list_bl, isi_list_int, isi_list_str, isi_list_tup, isi_list_l, isi_list_f, isi_bool_non, isi_bool_bl, isi_bool_int, isi_bool_str, isi_bool_tup, isi_bool_l, isi_bool_f, isi_int_non, isi_int_bl, isi_int_int, isi_int_str, isi_int_tup, isi_int_l, isi_int_f, isi_str_non, isi_str_bl, isi_str_int, isi_str_str, isi_str_tup, isi_str_l, isi_str_f, isi_dict_non, isi_dict_bl, isi_dict_int, isi_dict_str, isi_dict_tup, isi_dict_l, isi_dict_f, Ab.isNon, args, List.map, List.length_cons, List.length_nil, List.length_singleton, List.replicate, Nat.reduceSub, Nat.reduceAdd, Nat.zero_add, List.cons_append, List.nil_append, List.getElem?_cons_zero, List.getElem?_cons_succ, List.set_cons_zero, List.set_cons_succ, Option.some.injEq, decide_eq_true_eq, Bool.not_eq_true', decide_eq_false_iff_not, ite_true, ite_false, if_true, if_false, reduceIte, Bool.false_eq_true, Bool.not_true, Bool.not_false, Bool.true_eq_false, decide_true, decide_false, Nat.reduceLeDiff, Nat.reduceLT]
        rw [if_pos ⟨inRg_of (by omega) (by omega), inRg_of (by omega) (by omega)⟩]
        obtain ⟨w0, hw⟩ : ∃ w0 : Nat, (M (c + 1) 0 + 1 - (0 - M 0 (c + 1))).toNat = w0 ∧ w0 ≤ 11 := ⟨_, rfl, by omega⟩
        rw [hw.1]
        refine range_inv (fun k σ E => Gr A E ∧ E[r]? = some (.lst (ps.map ptD)) ∧ (∃ qs', E[q]? = some (.lst (qs'.map ptD)) ∧ qs'.length ≤ qs.length + k ∧ (∀ p', p' ∈ qs' ↔ p' ∈ qs ∨ ∃ v, p' = p ++ [v] ∧ 0 - M 0 (c + 1) ≤ v ∧ v < 0 - M 0 (c + 1) + (k : Nat) ∧ Add M p v)) ∧ ∃ w, σ = [some (.tup ds), none, some (.ref r), some (.int ((c + 1 : Nat) : Int)), some (.ref q), some (ptD p), w])
          (fun k σ E hk ⟨G, hr, ⟨qs', hq, ql', qq'⟩, w, hσ⟩ => ?_) (fun σ E ⟨G, hr, ⟨qs', hq, ql', qq'⟩, w, hσ⟩ => ?_) ⟨G, hr, ⟨qs, hq, by omega, fun p' => ⟨.inl, fun h => h.elim id fun ⟨v, _, h1, h2, _⟩ => by omega⟩⟩, w, rfl⟩
        · subst hσ
          simp only [sat_ok, sat_bad, sat_bind, sat_ite, bind_ok, bind_bad, thn_nx, thn_rt, thn_bk, thn_ct, fin_rt, fin_nx, ev_v, ev_c, ev_op, ev_un, ev_nil, ev_cons, ev_tup, ev_lst, ev_call, ev_own, ev_sl, ev_no, ev_part, ev_and, ev_or, ev_not, ev_if, ev_t, ev_tb, ev_tnot, ev_tand, ev_tor, ev_mt, ev_mt0, ev_rgd, ev_set, ev_asg, ev_ret, ev_retN, ev_ex, ev_pass, ev_brk, ev_cont, ev_ifS, ev_aug, ev_gn, ev_gtp, ev_gnl, ev_gcs, ev_gsb, ev_for, ev_rg1, ev_rg2, ev_its, ev_enum, ev_lc, ev_yes, ev_add_ii, ev_add_ss, ev_add_tt, ev_add_rr, ev_sub, ev_mul, ev_mod, ev_fdiv, ev_pow, ev_neg, ev_lt, ev_le, ev_gt, ev_ge, ev_eq_ii, ev_eq_ss, ev_eq_bb, ev_ne_ii, ev_ne_ss, ev_ne_bb, ev_is_n, ev_isnt_n, ev_int_i, ev_int_b, ev_min_ii, ev_max_ii, ev_abs, ev_tup_of, ev_tup_ofL, ev_lst_ofT, ev_lst_ofL, ev_len_t, ev_len_s, ev_len_r, ev_tru_b, ev_alloc, ev_tupD, ev_lstD, isi_tuple_non, isi_tuple_bl, isi_tuple_int, isi_tuple_str, isi_tuple_tup, isi_tuple_l, isi_tuple_f, isi_list_non, isi_list_bl, isi_list_int, isi_list_str, isi_list_tup, isi_list_l, isi_list_f, isi_bool_non, isi_bool_bl, isi_bool_int, isi_bool_str, isi_bool_tup, isi_bool_l, isi_bool_f, isi_int_non, isi_int_bl, isi_int_int, isi_int_str, isi_int_tup, isi_int_l, isi_int_f, isi_str_non, isi_str_bl, isi_str_int, isi_str_str, isi_str_tup, isi_str_l, isi_str_f, isi_dict_non, isi_dict_bl, isi_dict_int, isi_dict_str, isi_dict_tup, isi_dict_l, isi_dict_f, Ab.isNon, args, List.map, List.length_cons, List.length_nil, List.length_singleton, List.replicate, Nat.reduceSub, Nat.reduceAdd, Nat.zero_add, List.cons_append, List.nil_append, List.getElem?_cons_zero, List.getElem?_cons_succ, List.set_cons_zero, List.set_cons_succ, Option.some.injEq, decide_eq_true_eq, Bool.not_eq_true', decide_eq_false_iff_not, ite_true, ite_false, if_true, if_false, reduceIte, Bool.false_eq_true, Bool.not_true, Bool.not_false, Bool.true_eq_false, decide_true, decide_false, Nat.reduceLeDiff, Nat.reduceLT]
          rw [fit fp.1 (by omega) (by omega) (by omega) (b := decide (Add M p (0 - M 0 (c + 1) + (k : Nat)))) (by simp)]
          simp only [sat_ok, sat_bad, sat_bind, sat_ite, bind_ok, bind_bad, thn_nx, thn_rt, thn_bk, thn_ct, fin_rt, fin_nx, ev_v, ev_c, ev_op, ev_un, ev_nil, ev_cons, ev_tup, ev_lst, ev_call, ev_own, ev_sl, ev_no, ev_part, ev_and, ev_or, ev_not, ev_if, ev_t, ev_tb, ev_tnot, ev_tand, ev_tor, ev_mt, ev_mt0, ev_rgd, ev_set, ev_asg, ev_ret, ev_retN, ev_ex, ev_pass, ev_brk, ev_cont, ev_ifS, ev_aug, ev_gn, ev_gtp, ev_gnl, ev_gcs, ev_gsb, ev_for, ev_rg1, ev_rg2, ev_its, ev_enum, ev_lc, ev_yes, ev_add_ii, ev_add_ss, ev_add_tt, ev_add_rr, ev_sub, ev_mul, ev_mod, ev_fdiv, ev_pow, ev_neg, ev_lt, ev_le, ev_gt, ev_ge, ev_eq_ii, ev_eq_ss, ev_eq_bb, ev_ne_ii, ev_ne_ss, ev_ne_bb, ev_is_n, ev_isnt_n, ev_int_i, ev_int_b, ev_min_ii, ev_max_ii, ev_abs, ev_tup_of, ev_tup_ofL, ev_lst_ofT, ev_lst_ofL, ev_len_t, ev_len_s, ev_len_r, ev_tru_b, ev_alloc, ev_tupD, ev_lstD, isi_tuple_non, isi_tuple_bl, isi_tuple_int, isi_tuple_str, isi_tuple_tup, isi_tuple_l, isi_tuple_f, isi_list_non, isi_list_bl, isi_list_int, isi_list_str, isi_list_tup, isi_list_l, isi_list_f, isi_bool_non, isi_bool_bl, isi_bool_int, isi_bool_str, isi_bool_tup, isi_bool_l, isi_bool_f, isi_int_non, isi_int_bl, isi_int_int, isi_int_str, isi_int_tup, isi_int_l, isi_int_f, isi_str_non, isi_str_bl, isi_str_int, isi_str_str, isi_str_tup, isi_str_l, isi_str_f, isi_dict_non, isi_dict_bl, isi_dict_int, isi_dict_str, isi_dict_tup, isi_dict_l, isi_dict_f, Ab.isNon, args, List.map, List.length_cons, List.length_nil, List.length_singleton, List.replicate, Nat.reduceSub, Nat.reduceAdd, Nat.zero_add, List.cons_append, List.nil_append, List.getElem?_cons_zero, List.getElem?_cons_succ, List.set_cons_zero, List.set_cons_succ, Option.some.injEq, decide_eq_true_eq, Bool.not_eq_true', decide_eq_false_iff_not, ite_true, ite_false, if_true, if_false, reduceIte, Bool.false_eq_true, Bool.not_true, Bool.not_false, Bool.true_eq_false, decide_true, decide_false, Nat.reduceLeDiff, Nat.reduceLT]
          split
          · rename_i ad
            have z : (p.map D.int).length + [D.int (0 - M 0 (c + 1) + (k : Nat))].length ≤ sizeLine := sl_le (by simp; have := fp.1; omega)
            have a1 : addD (ptD p) (.tup [.int (0 - M 0 (c + 1) + (k : Nat))]) E = .ok (ptD (p ++ [0 - M 0 (c + 1) + (k : Nat)])) E := (ev_add_tt z).trans (by unfold ptD; rw [List.map_append]; rfl)
            simp only [sat_ok, sat_bad, sat_bind, sat_ite, bind_ok, bind_bad, thn_nx, thn_rt, thn_bk, thn_ct, fin_rt, fin_nx, ev_v, ev_c, ev_op, ev_un, ev_nil, ev_cons, ev_tup, ev_lst, ev_call, ev_own, ev_sl, ev_no, ev_part, ev_and, ev_or, ev_not, ev_if, ev_t, ev_tb, ev_tnot, ev_tand, ev_tor, ev_mt, ev_mt0, ev_rgd, ev_set, ev_asg, ev_ret, ev_retN, ev_ex, ev_pass, ev_brk, ev_cont, ev_ifS, ev_aug, ev_gn, ev_gtp, ev_gnl, ev_gcs, ev_gsb, ev_for, ev_rg1, ev_rg2, ev_its, ev_enum, ev_lc, ev_yes, ev_add_ii, ev_add_ss, ev_add_tt, ev_add_rr, ev_sub, ev_mul, ev_mod, ev_fdiv, ev_pow, ev_neg, ev_lt, ev_le, ev_gt, ev_ge, ev_eq_ii, ev_eq_ss, ev_eq_bb, ev_ne_ii, ev_ne_ss, ev_ne_bb, ev_is_n, ev_isnt_n, ev_int_i, ev_int_b, ev_min_ii, ev_max_ii, ev_abs, ev_tup_of, ev_tup_ofL, ev_lst_ofT, ev_lst_ofL, ev_len_t, ev_len_s, ev_len_r, ev_tru_b, ev_alloc, ev_tupD, ev_lstD, isi_tuple_non, isi_tuple_bl, isi_tuple_int, isi_tuple_str, isi_tuple_tup, isi_tuple_l, isi_tuple_f, isi_list_non, isi_list_bl, isi_list_int, isi_list_str, isi_list_tup, isi_list_l, isi_list_f, isi_bool_non, isi_bool_bl, isi_bool_int, isi_bool_str, isi_bool_tup, isi_bool_l, isi_bool_f, isi_int_non, isi_int_bl, isi_int_int, isi_int_str, isi_int_tup, isi_int_l, isi_int_f, isi_str_non, isi_str_bl, isi_str_int, isi_str_str, isi_str_tup, isi_str_l, isi_str_f, isi_dict_non, isi_dict_bl, isi_dict_int, isi_dict_str, isi_dict_tup, isi_dict_l, isi_dict_f, Ab.isNon, args, List.map, List.length_cons, List.length_nil, List.length_singleton, List.replicate, Nat.reduceSub, Nat.reduceAdd, Nat.zero_add, List.cons_append, List.nil_append, List.getElem?_cons_zero, List.getElem?_cons_succ, List.set_cons_zero, List.set_cons_succ, Option.some.injEq, decide_eq_true_eq, Bool.not_eq_true', decide_eq_false_iff_not, ite_true, ite_false, if_true, if_false, reduceIte, Bool.false_eq_true, Bool.not_true, Bool.not_false, Bool.true_eq_false, decide_true, decide_false, Nat.reduceLeDiff, Nat.reduceLT, ty_l hq, a1]
            rw [ev_app hq (by simp; omega)]
            simp only [sat_ok, sat_bad, sat_bind, sat_ite, bind_ok, bind_bad, thn_nx, thn_rt, thn_bk, thn_ct, fin_rt, fin_nx, ev_v, ev_c, ev_op, ev_un, ev_nil, ev_cons, ev_tup, ev_lst, ev_call, ev_own, ev_sl, ev_no, ev_part, ev_and, ev_or, ev_not, ev_if, ev_t, ev_tb, ev_tnot, ev_tand, ev_tor, ev_mt, ev_mt0, ev_rgd, ev_set, ev_asg, ev_ret, ev_retN, ev_ex, ev_pass, ev_brk, ev_cont, ev_ifS, ev_aug, ev_gn, ev_gtp, ev_gnl, ev_gcs, ev_gsb, ev_for, ev_rg1, ev_rg2, ev_its, ev_enum, ev_lc, ev_yes, ev_add_ii, ev_add_ss, ev_add_tt, ev_add_rr, ev_sub, ev_mul, ev_mod, ev_fdiv, ev_pow, ev_neg, ev_lt, ev_le, ev_gt, ev_ge, ev_eq_ii, ev_eq_ss, ev_eq_bb, ev_ne_ii, ev_ne_ss, ev_ne_bb, ev_is_n, ev_isnt_n, ev_int_i, ev_int_b, ev_min_ii, ev_max_ii, ev_abs, ev_tup_of, ev_tup_ofL, ev_lst_ofT, ev_lst_ofL, ev_len_t, ev_len_s, ev_len_r, ev_tru_b, ev_alloc, ev_tupD, ev_lstD, isi_tuple_non, isi_tuple_bl, isi_tuple_int, isi_tuple_str, isi_tuple_tup, isi_tuple_l, isi_tuple_f, isi_list_non, isi_list_bl, isi_list_int, isi_list_str, isi_list_tup, isi_list_l, isi_list_f, isi_bool_non, isi_bool_bl, isi_bool_int, isi_bool_str, isi_bool_tup, isi_bool_l, isi_bool_f, isi_int_non, isi_int_bl, isi_int_int, isi_int_str, isi_int_tup, isi_int_l, isi_int_f, isi_str_non, isi_str_bl, isi_str_int, isi_str_str, isi_str_tup, isi_str_l, isi_str_f, isi_dict_non, isi_dict_bl, isi_dict_int, isi_dict_str, isi_dict_tup, isi_dict_l, isi_dict_f, Ab.isNon, args, List.map, List.length_cons, List.length_nil, List.length_singleton, List.replicate, Nat.reduceSub, Nat.reduceAdd, Nat.zero_add, List.cons_append, List.nil_append, List.getElem?_cons_zero, List.getElem?_cons_succ, List.set_cons_zero, List.set_cons_succ, Option.some.injEq, decide_eq_true_eq, Bool.not_eq_true', decide_eq_false_iff_not, ite_true, ite_false, if_true, if_false, reduceIte, Bool.false_eq_true, Bool.not_true, Bool.not_false, Bool.true_eq_false, decide_true, decide_false, Nat.reduceLeDiff, Nat.reduceLT, turn_]
            refine ⟨G.set lA, by rw [List.getElem?_set_ne nr]; exact hr, ⟨qs' ++ [p ++ [0 - M 0 (c + 1) + (k : Nat)]], by rw [at_set (at_lt hq), List.map_append]; rfl, by simp; omega, fun p' => ?_⟩, _, rfl⟩
            rw [List.mem_append, qq', List.mem_singleton]
            constructor
            · rintro ((h | ⟨v, e, h1, h2, h3⟩) | h)
              · exact .inl h
              · exact .inr ⟨v, e, h1, by omega, h3⟩
              · exact .inr ⟨_, h, by omega, by omega, ad⟩
            · rintro (h | ⟨v, e, h1, h2, h3⟩)
              · exact .inl (.inl h)
              · by_cases ev : v = 0 - M 0 (c + 1) + (k : Nat)
                · exact .inr (by rw [e, ev])
                · exact .inl (.inr ⟨v, e, h1, by omega, h3⟩)
          · rename_i ad
            simp only [sat_ok, sat_bad, sat_bind, sat_ite, bind_ok, bind_bad, thn_nx, thn_rt, thn_bk, thn_ct, fin_rt, fin_nx, ev_v, ev_c, ev_op, ev_un, ev_nil, ev_cons, ev_tup, ev_lst, ev_call, ev_own, ev_sl, ev_no, ev_part, ev_and, ev_or, ev_not, ev_if, ev_t, ev_tb, ev_tnot, ev_tand, ev_tor, ev_mt, ev_mt0, ev_rgd, ev_set, ev_asg, ev_ret, ev_retN, ev_ex, ev_pass, ev_brk, ev_cont, ev_ifS, ev_aug, ev_gn, ev_gtp, ev_gnl, ev_gcs, ev_gsb, ev_for, ev_rg1, ev_rg2, ev_its, ev_enum, ev_lc, ev_yes, ev_add_ii, ev_add_ss, ev_add_tt, ev_add_rr, ev_sub, ev_mul, ev_mod, ev_fdiv, ev_pow, ev_neg, ev_lt, ev_le, ev_gt, ev_ge, ev_eq_ii, ev_eq_ss, ev_eq_bb, ev_ne_ii, ev_ne_ss, ev_ne_bb, ev_is_n, ev_isnt_n, ev_int_i, ev_int_b, ev_min_ii, ev_max_ii, ev_abs, ev_tup_of, ev_tup_ofL, ev_lst_ofT, ev_lst_ofL, ev_len_t, ev_len_s, ev_len_r, ev_tru_b, ev_alloc, ev_tupD, ev_lstD, isi_tuple_non, isi_tuple_bl, isi_tuple_int, isi_tuple_str, isi_tuple_tup, isi_tuple_l, isi_tuple_f, isi_list_non, isi_list_bl, isi_list_int, isi_list_str, isi_list_tup, isi_list_l, isi_list_f, isi_bool_non, isi_bool_bl, isi_bool_int, isi_bool_str, isi_bool_tup, isi_bool_l, isi_bool_f, isi_int_non, isi_int_bl, isi_int_int, isi_int_str, isi_int_tup, isi_int_l, isi_int_f, isi_str_non, isi_str_bl, isi_str_int, isi_str_str, isi_str_tup, isi_str_l, isi_str_f, isi_dict_non, isi_dict_bl, isi_dict_int, isi_dict_str, isi_dict_tup, isi_dict_l, isi_dict_f, Ab.isNon, args, List.map, List.length_cons, List.length_nil, List.length_singleton, List.replicate, Nat.reduceSub, Nat.reduceAdd, Nat.zero_add, List.cons_append, List.nil_append, List.getElem?_cons_zero, List.getElem?_cons_succ, List.set_cons_zero, List.set_cons_succ, Option.some.injEq, decide_eq_true_eq, Bool.not_eq_true', decide_eq_false_iff_not, ite_true, ite_false, if_true, if_false, reduceIte, Bool.false_eq_true, Bool.not_true, Bool.not_false, Bool.true_eq_false, decide_true, decide_false, Nat.reduceLeDiff, Nat.reduceLT, turn_]
            refine ⟨G, hr, ⟨qs', hq, by omega, fun p' => ?_⟩, _, rfl⟩
            rw [qq']
            constructor
            · rintro (h | ⟨v, e, h1, h2, h3⟩)
              · exact .inl h
              · exact .inr ⟨v, e, h1, by omega, h3⟩
            · rintro (h | ⟨v, e, h1, h2, h3⟩)
              · exact .inl h
              · by_cases ev : v = 0 - M 0 (c + 1) + (k : Nat)
                · exact (ad (ev ▸ h3)).elim
                · exact .inr ⟨v, e, h1, by omega, h3⟩
        · subst hσ
          simp only [sat_ok, sat_bad, sat_bind, sat_ite, bind_ok, bind_bad, thn_nx, thn_rt, thn_bk, thn_ct, fin_rt, fin_nx, ev_v, ev_c, ev_op, ev_un, ev_nil, ev_cons, ev_tup, ev_lst, ev_call, ev_own, ev_sl, ev_no, ev_part, ev_and, ev_or, ev_not, ev_if, ev_t, ev_tb, ev_tnot, ev_tand, ev_tor, ev_mt, ev_mt0, ev_rgd, ev_set, ev_asg, ev_ret, ev_retN, ev_ex, ev_pass, ev_brk, ev_cont, ev_ifS, ev_aug, ev_gn, ev_gtp, ev_gnl, ev_gcs, ev_gsb, ev_for, ev_rg1, ev_rg2, ev_its, ev_enum, ev_lc, ev_yes, ev_add_ii, ev_add_ss, ev_add_tt, ev_add_rr, ev_sub, ev_mul, ev_mod, ev_fdiv, ev_pow, ev_neg, ev_lt, ev_le, ev_gt, ev_ge, ev_eq_ii, ev_eq_ss, ev_eq_bb, ev_ne_ii, ev_ne_ss, ev_ne_bb, ev_is_n, ev_isnt_n, ev_int_i, ev_int_b, ev_min_ii, ev_max_ii, ev_abs, ev_tup_of, ev_tup_ofL, ev_lst_ofT, ev_lst_ofL, ev_len_t, ev_len_s, ev_len_r, ev_tru_b, ev_alloc, ev_tupD, ev_lstD, isi_tuple_non, isi_tuple_bl, isi_tuple_int, isi_tuple_str, isi_tuple_tup, isi_tuple_l, isi_tuple_f, isi_list_non, isi_list_bl, isi_list_int, isi_list_str, isi_list_tup, isi_list_l, isi_list_f, isi_bool_non, isi_bool_bl, isi_bool_int, isi_bool_str, isi_bool_tup, isi_bool_l, isi_bool_f, isi_int_non, isi_int_bl, isi_int_int, isi_int_str, isi_int_tup, isi_int_l, isi_int_f, isi_str_non, isi_str_bl, isi_str_int, isi_str_str, isi_str_tup, isi_str_l, isi_str_f, isi_dict_non, isi_dict_bl, isi_dict_int, isi_dict_str, isi_dict_tup, isi_dict_l, isi_dict_f, Ab.isNon, args, List.map, List.length_cons, List.length_nil, List.length_singleton, List.replicate, Nat.reduceSub, Nat.reduceAdd, Nat.zero_add, List.cons_append, List.nil_append, List.getElem?_cons_zero, List.getElem?_cons_succ, List.set_cons_zero, List.set_cons_succ, Option.some.injEq, decide_eq_true_eq, Bool.not_eq_true', decide_eq_false_iff_not, ite_true, ite_false, if_true, if_false, reduceIte, Bool.false_eq_true, Bool.not_true, Bool.not_false, Bool.true_eq_false, decide_true, decide_false, Nat.reduceLeDiff, Nat.reduceLT, turn_]
          refine ⟨G, hr, ⟨pre ++ [p], post, qs', by rw [e1]; simp, rfl, hq, by simp; omega, fun p' => ?_⟩, _, _, rfl⟩
          rw [qq', qq]
          constructor
          · rintro (⟨p2, v, e, h1, h2⟩ | ⟨v, e, _, _, h3⟩)
            · exact ⟨p2, v, e, List.mem_append_left _ h1, h2⟩
            · exact ⟨p, v, e, List.mem_append_right _ (List.mem_singleton.mpr rfl), h3⟩
          · rintro ⟨p2, v, e, h1, h2⟩
            rcases List.mem_append.mp h1 with h | h
            · exact .inl ⟨p2, v, e, h, h2⟩
            · cases List.mem_singleton.mp h
              have := h2 0 (by omega)
              rw [at0_z, fp.1] at this
              exact .inr ⟨v, e, by omega, by omega, h2⟩
    · subst hσ
      refine ⟨rdL_l hr, ?_⟩
      cases post with
      | cons p post => cases e2
      | nil =>
        rw [List.append_nil] at e1
        subst e1
        simp only [sat_ok, sat_bad, sat_bind, sat_ite, bind_ok, bind_bad, thn_nx, thn_rt, thn_bk, thn_ct, fin_rt, fin_nx, ev_v, ev_c, ev_op, ev_un, ev_nil, ev_cons, ev_tup, ev_lst, ev_call, ev_own, ev_sl, ev_no, ev_part, ev_and, ev_or, ev_not, ev_if, ev_t, ev_tb, ev_tnot, ev_tand, ev_tor, ev_mt, ev_mt0, ev_rgd, ev_set, ev_asg, ev_ret, ev_retN, ev_ex, ev_pass, ev_brk, ev_cont, ev_ifS, ev_aug, ev_gn, ev_gtp, ev_gnl, ev_gcs, ev_gsb, ev_for, ev_rg1, ev_rg2, ev_its, ev_enum, ev_lc, ev_yes, ev_add_ii, ev_add_ss, ev_add_tt, ev_add_rr, ev_sub, ev_mul, ev_mod, ev_fdiv, ev_pow, ev_neg, ev_lt, ev_le, ev_gt, ev_ge, ev_eq_ii, ev_eq_ss, ev_eq_bb, ev_ne_ii, ev_ne_ss, ev_ne_bb, ev_is_n, ev_isnt_n, ev_int_i, ev_int_b, ev_min_ii, ev_max_ii, ev_abs, ev_tup_of, ev_tup_ofL, ev_lst_ofT, ev_lst_ofL, ev_len_t, ev_len_s, ev_len_r, ev_tru_b, ev_alloc, ev_tupD, ev_lstD, isi_tuple_non, isi_tuple_bl, isi_tuple_int, isi_tuple_str, isi_tuple_tup, isi_tuple_l, isi_tuple_f, isi_list_non, isi_list_bl, isi_list_int, isi_list_str, isi_list_tup, isi_list_l, isi_list_f, isi_bool_non, isi_bool_bl, isi_bool_int, isi_bool_str, isi_bool_tup, isi_bool_l, isi_bool_f, isi_int_non, isi_int_bl, isi_int_int, isi_int_str, isi_int_tup, isi_int_l, isi_int_f, isi_str_non, isi_str_bl, isi_str_int, isi_str_str, isi_str_tup, isi_str_l, isi_str_f, isi_dict_non, isi_dict_bl, isi_dict_int, isi_dict_str, isi_dict_tup, isi_dict_l, isi_dict_f, Ab.isNon, args, List.map, List.length_cons, List.length_nil, List.length_singleton, List.replicate, Nat.reduceSub, Nat.reduceAdd, Nat.zero_add, List.cons_append, List.nil_append, List.getElem?_cons_zero, List.getElem?_cons_succ, List.set_cons_zero, List.set_cons_succ, Option.some.injEq, decide_eq_true_eq, Bool.not_eq_true', decide_eq_false_iff_not, ite_true, ite_false, if_true, if_false, reduceIte, Bool.false_eq_true, Bool.not_true, Bool.not_false, Bool.true_eq_false, decide_true, decide_false, Nat.reduceLeDiff, Nat.reduceLT]
        rw [ev_lst_ofL (rdL_l hq)]
        simp only [sat_ok, sat_bad, sat_bind, sat_ite, bind_ok, bind_bad, thn_nx, thn_rt, thn_bk, thn_ct, fin_rt, fin_nx, ev_v, ev_c, ev_op, ev_un, ev_nil, ev_cons, ev_tup, ev_lst, ev_call, ev_own, ev_sl, ev_no, ev_part, ev_and, ev_or, ev_not, ev_if, ev_t, ev_tb, ev_tnot, ev_tand, ev_tor, ev_mt, ev_mt0, ev_rgd, ev_set, ev_asg, ev_ret, ev_retN, ev_ex, ev_pass, ev_brk, ev_cont, ev_ifS, ev_aug, ev_gn, ev_gtp, ev_gnl, ev_gcs, ev_gsb, ev_for, ev_rg1, ev_rg2, ev_its, ev_enum, ev_lc, ev_yes, ev_add_ii, ev_add_ss, ev_add_tt, ev_add_rr, ev_sub, ev_mul, ev_mod, ev_fdiv, ev_pow, ev_neg, ev_lt, ev_le, ev_gt, ev_ge, ev_eq_ii, ev_eq_ss, ev_eq_bb, ev_ne_ii, ev_ne_ss, ev_ne_bb, ev_is_n, ev_isnt_n, ev_int_i, ev_int_b, ev_min_ii, ev_max_ii, ev_abs, ev_tup_of, ev_tup_ofL, ev_lst_ofT, ev_lst_ofL, ev_len_t, ev_len_s, ev_len_r, ev_tru_b, ev_alloc, ev_tupD, ev_lstD, isi_tuple_non, isi_tuple_bl, isi_tuple_int, isi_tuple_str, isi_tuple_tup, isi_tuple_l, isi_tuple_f, isi_list_non, isi_list_bl, isi_list_int, isi_list_str, isi_list_tup, isi_list_l, isi_list_f, isi_bool_non, isi_bool_bl, isi_bool_int, isi_bool_str, isi_bool_tup, isi_bool_l, isi_bool_f, isi_int_non, isi_int_bl, isi_int_int, isi_int_str, isi_int_tup, isi_int_l, isi_int_f, isi_str_non, isi_str_bl, isi_str_int, isi_str_str, isi_str_tup, isi_str_l, isi_str_f, isi_dict_non, isi_dict_bl, isi_dict_int, isi_dict_str, isi_dict_tup, isi_dict_l, isi_dict_f, Ab.isNon, args, List.map, List.length_cons, List.length_nil, List.length_singleton, List.replicate, Nat.reduceSub, Nat.reduceAdd, Nat.zero_add, List.cons_append, List.nil_append, List.getElem?_cons_zero, List.getElem?_cons_succ, List.set_cons_zero, List.set_cons_succ, Option.some.injEq, decide_eq_true_eq, Bool.not_eq_true', decide_eq_false_iff_not, ite_true, ite_false, if_true, if_false, reduceIte, Bool.false_eq_true, Bool.not_true, Bool.not_false, Bool.true_eq_false, decide_true, decide_false, Nat.reduceLeDiff, Nat.reduceLT, turn_]
        refine ⟨G.trans .app, _, qs, at_new, ?_, fun p' => ?_, _, _, _, _, rfl⟩
        · rw [Nat.pow_succ]; omega
        · rw [qq]
          constructor
          · rintro ⟨p, v, e, h1, h2⟩
            rw [e]
            exact fp_snoc.mpr ⟨(pp p).mp h1, h2⟩
          · intro h
            have l := h.1
            obtain ⟨p, v, rfl⟩ : ∃ p v, p' = p ++ [v] := by
              have : p' ≠ [] := fun e => by rw [e] at l; simp at l
              exact ⟨p'.dropLast, p'.getLast this, (List.dropLast_concat_getLast this).symm⟩
            obtain ⟨h1, h2⟩ := fp_snoc.mp h
            exact ⟨p, v, rfl, (pp p).mpr h1, h2⟩
  · subst hσ
    simp only [sat_ok, sat_bad, sat_bind, sat_ite, bind_ok, bind_bad, thn_nx, thn_rt, thn_bk, thn_ct, fin_rt, fin_nx, ev_v, ev_c, ev_op, ev_un, ev_nil, ev_cons, ev_tup, ev_lst, ev_call, ev_own, ev_sl, ev_no, ev_part, ev_and, ev_or, ev_not, ev_if, ev_t, ev_tb, ev_tnot, ev_tand, ev_tor, ev_mt, ev_mt0, ev_rgd, ev_set, ev_asg, ev_ret, ev_retN, ev_ex, ev_pass, ev_brk, ev_cont, ev_ifS, ev_aug, ev_gn, ev_gtp, ev_gnl, ev_gcs, ev_gsb, ev_for, ev_rg1, ev_rg2, ev_its, ev_enum, ev_lc, ev_yes, ev_add_ii, ev_add_ss, ev_add_tt, ev_add_rr, ev_sub, ev_mul, ev_mod, ev_fdiv, ev_pow, ev_neg, ev_lt, ev_le, ev_gt, ev_ge, ev_eq_ii, ev_eq_ss, ev_eq_bb, ev_ne_ii, ev_ne_ss, ev_ne_bb, ev_is_n, ev_isnt_n, ev_int_i, ev_int_b, ev_min_ii, ev_max_ii, ev_abs, ev_tup_of, ev_tup_ofL, ev_lst_ofT, ev_lst_ofL, ev_len_t, ev_len_s, ev_len_r, ev_tru_b, ev_alloc, ev_tupD, ev_lstD, isi_tuple_non, isi_tuple_bl, isi_tuple_int, isi_tuple_str, isi_tuple_tup, isi_tuple_l, isi_tuple_f, isi_list_non, isi_list_bl, isi_list_int, isi_list_str, isi_list_tup, isi_list_l, isi_list_f, isi_bool_non, isi_bool_bl, isi_bool_int, isi_bool_str, isi_bool_tup, isi_bool_l, isi_bool_f, isi_int_non, isi_int_bl, isi_int_int, isi_int_str, isi_int_tup, isi_int_l, isi_int_f, isi_str_non, isi_str_bl, isi_str_int, isi_str_str, isi_str_tup, isi_str_l, isi_str_f, isi_dict_non, isi_dict_bl, isi_dict_int, isi_dict_str, isi_dict_tup, isi_dict_l, isi_dict_f, Ab.isNon, args, List.map, List.length_cons, List.length_nil, List.length_singleton, List.replicate, Nat.reduceSub, Nat.reduceAdd, Nat.zero_add, List.cons_append, List.nil_append, List.getElem?_cons_zero, List.getElem?_cons_succ, List.set_cons_zero, List.set_cons_succ, Option.some.injEq, decide_eq_true_eq, Bool.not_eq_true', decide_eq_false_iff_not, ite_true, ite_false, if_true, if_false, reduceIte, Bool.false_eq_true, Bool.not_true, Bool.not_false, Bool.true_eq_false, decide_true, decide_false, Nat.reduceLeDiff, Nat.reduceLT]
    have := pow11 (c := m - 1) (by omega)
    exact ⟨G, r, ps, rfl, hr, by omega, .inr ⟨pos, pp⟩⟩
end Law

namespace Law
open PySem PySem.Spec PyProof.Rows L2 Ab
open scoped Classical
/-! ### the drawn tables -/
theorem Mt.draw {A B : AH} {r m s : Nat} {c : Nat → Nat} {R : Mx} (h : Mt [] A r c m R) (d : Dr s A B) (rs : r ≠ s) (cs : ∀ i, i < m → c i ≠ s) : Mt [] B r c m R :=
  ⟨⟨Nat.zero_le _, fun i o e => by simp at e⟩, d.keep _ _ rs h.rows, fun i hi => d.keep _ _ (cs i hi) (h.row i hi), h.inj, h.ne, h.new⟩
theorem diag_spec {A0 A : AH} {s r m : Nat} {c : Nat → Nat} {M : Mx} (hs : Sr s A0) (D0 : Dr s A0 A) (T : Mt [] A r c m M) (rn : A0.length ≤ r) (cn : ∀ i, i < m → A0.length ≤ c i) (h0 : 0 < m) (hm : m ≤ 100) :
    Sat (m__law_diagonal [.ref s, .ref r] A) fun d A' => Dr s A0 A' ∧ ∃ M', d = matD m M' ∧ ∀ i j, i ≠ j → M' i j = M i j := by
  have sl := hs.lt
  have rs : r ≠ s := by omega
  have cs : ∀ i, i < m → c i ≠ s := fun i hi => by have := cn i hi; omega
  refine sat_body rfl (sat_seq ?_)
  simp only [sat_ok, sat_bad, sat_bind, sat_ite, bind_ok, bind_bad, thn_nx, thn_rt, thn_bk, thn_ct, fin_rt, fin_nx, ev_v, ev_c, ev_op, ev_un, ev_nil, ev_cons, ev_tup, ev_lst, ev_call, ev_own, ev_sl, ev_no, ev_part, ev_and, ev_or, ev_not, ev_if, ev_t, ev_tb, ev_tnot, ev_tand, ev_tor, ev_mt, ev_mt0, ev_rgd, ev_set, ev_asg, ev_ret, ev_retN, ev_ex, ev_pass, ev_brk, ev_cont, ev_ifS, ev_aug, ev_gn, ev_gtp, ev_gnl, ev_gcs, ev_gsb, ev_for, ev_rg1, ev_rg2, ev_its, ev_enum, ev_lc, ev_yes, ev_add_ii, ev_add_ss, ev_add_tt, ev_add_rr, ev_sub, ev_mul, ev_mod, ev_fdiv, ev_pow, ev_neg, ev_lt, ev_le, ev_gt, ev_ge, ev_eq_ii, ev_eq_ss, ev_eq_bb, ev_ne_ii, ev_ne_ss, ev_ne_bb, ev_is_n, ev_isnt_n, ev_int_i, ev_int_b, ev_min_ii, ev_max_ii, ev_abs, ev_tup_of, ev_tup_ofL, ev_lst_ofT, ev_lst_ofL, ev_len_t, ev_len_s, ev_len_r, ev_tru_b, ev_alloc, ev_tupD, ev_lstD, isi_tuple_non, isi_tuple_bl, isi_tuple_int, isi_tuple_str, isi_tuple_tup, isi_tuple_l, isi_tuple_f, isi_list_non, isi_list_bl, isi_list_int, isi_list_str, isi_list_tup, isi_list_l, isi_list_f, isi_bool_non, isi_bool_bl, isi_bool_int, isi_bool_str, isi_bool_tup, isi_bool_l, isi_bool_f, isi_int_non, isi_int_bl, isi_int_int, isi_int_str, isi_int_tup, isi_int_l, isi_int_f, isi_str_non, isi_str_bl, isi_str_int, isi_str_str, isi_str_tup, isi_str_l, isi_str_f, isi_dict_non, isi_dict_bl, isi_dict_int, isi_dict_str, isi_dict_tup, isi_dict_l, isi_dict_f, Ab.isNon, args, List.map, List.length_cons, List.length_nil, List.length_singleton, List.replicate, Nat.reduceSub, Nat.reduceAdd, Nat.zero_add, List.cons_append, List.nil_append, List.getElem?_cons_zero, List.getElem?_cons_succ, List.set_cons_zero, List.set_cons_succ, Option.some.injEq, decide_eq_true_eq, Bool.not_eq_true', decide_eq_false_iff_not, ite_true, ite_false, if_true, if_false, reduceIte, Bool.false_eq_true, Bool.not_true, Bool.not_false, Bool.true_eq_false, decide_true, decide_false, Nat.reduceLeDiff, Nat.reduceLT]
  refine Sat.imp (pick_pos D0.src (n := 6) (by decide) (by decide)) fun d A1 ⟨⟨odd, e, o0, o1⟩, dr⟩ => ?_
  subst e
  have T := T.draw dr rs cs
  have D0 := D0.trans dr
  refine sat_seq ?_
  simp only [sat_ok, sat_bad, sat_bind, sat_ite, bind_ok, bind_bad, thn_nx, thn_rt, thn_bk, thn_ct, fin_rt, fin_nx, ev_v, ev_c, ev_op, ev_un, ev_nil, ev_cons, ev_tup, ev_lst, ev_call, ev_own, ev_sl, ev_no, ev_part, ev_and, ev_or, ev_not, ev_if, ev_t, ev_tb, ev_tnot, ev_tand, ev_tor, ev_mt, ev_mt0, ev_rgd, ev_set, ev_asg, ev_ret, ev_retN, ev_ex, ev_pass, ev_brk, ev_cont, ev_ifS, ev_aug, ev_gn, ev_gtp, ev_gnl, ev_gcs, ev_gsb, ev_for, ev_rg1, ev_rg2, ev_its, ev_enum, ev_lc, ev_yes, ev_add_ii, ev_add_ss, ev_add_tt, ev_add_rr, ev_sub, ev_mul, ev_mod, ev_fdiv, ev_pow, ev_neg, ev_lt, ev_le, ev_gt, ev_ge, ev_eq_ii, ev_eq_ss, ev_eq_bb, ev_ne_ii, ev_ne_ss, ev_ne_bb, ev_is_n, ev_isnt_n, ev_int_i, ev_int_b, ev_min_ii, ev_max_ii, ev_abs, ev_tup_of, ev_tup_ofL, ev_lst_ofT, ev_lst_ofL, ev_len_t, ev_len_s, ev_len_r, ev_tru_b, ev_alloc, ev_tupD, ev_lstD, isi_tuple_non, isi_tuple_bl, isi_tuple_int, isi_tuple_str, isi_tuple_tup, isi_tuple_l, isi_tuple_f, isi_list_non, isi_list_bl, isi_list_int, isi_list_str, isi_list_tup, isi_list_l, isi_list_f, isi_bool_non, isi_bool_bl, isi_bool_int, isi_bool_str, isi_bool_tup, isi_bool_l, isi_bool_f, isi_int_non, isi_int_bl, isi_int_int, isi_int_str, isi_int_tup, isi_int_l, isi_int_f, isi_str_non, isi_str_bl, isi_str_int, isi_str_str, isi_str_tup, isi_str_l, isi_str_f, isi_dict_non, isi_dict_bl, isi_dict_int, isi_dict_str, isi_dict_tup, isi_dict_l, isi_dict_f, Ab.isNon, args, List.map, List.length_cons, List.length_nil, List.length_singleton, List.replicate, Nat.reduceSub, Nat.reduceAdd, Nat.zero_add, List.cons_append, List.nil_append, List.getElem?_cons_zero, List.getElem?_cons_succ, List.set_cons_zero, List.set_cons_succ, Option.some.injEq, decide_eq_true_eq, Bool.not_eq_true', decide_eq_false_iff_not, ite_true, ite_false, if_true, if_false, reduceIte, Bool.false_eq_true, Bool.not_true, Bool.not_false, Bool.true_eq_false, decide_true, decide_false, Nat.reduceLeDiff, Nat.reduceLT, T.len]
  refine Sat.imp (pick_pos D0.src (n := (m : Nat)) (by omega) (by omega)) fun d A2 ⟨⟨at', e, a0, a1⟩, dr⟩ => ?_
  subst e
  have T := T.draw dr rs cs
  have D0 := D0.trans dr
  refine sat_seq ?_
  simp only [sat_ok, sat_bad, sat_bind, sat_ite, bind_ok, bind_bad, thn_nx, thn_rt, thn_bk, thn_ct, fin_rt, fin_nx, ev_v, ev_c, ev_op, ev_un, ev_nil, ev_cons, ev_tup, ev_lst, ev_call, ev_own, ev_sl, ev_no, ev_part, ev_and, ev_or, ev_not, ev_if, ev_t, ev_tb, ev_tnot, ev_tand, ev_tor, ev_mt, ev_mt0, ev_rgd, ev_set, ev_asg, ev_ret, ev_retN, ev_ex, ev_pass, ev_brk, ev_cont, ev_ifS, ev_aug, ev_gn, ev_gtp, ev_gnl, ev_gcs, ev_gsb, ev_for, ev_rg1, ev_rg2, ev_its, ev_enum, ev_lc, ev_yes, ev_add_ii, ev_add_ss, ev_add_tt, ev_add_rr, ev_sub, ev_mul, ev_mod, ev_fdiv, ev_pow, ev_neg, ev_lt, ev_le, ev_gt, ev_ge, ev_eq_ii, ev_eq_ss, ev_eq_bb, ev_ne_ii, ev_ne_ss, ev_ne_bb, ev_is_n, ev_isnt_n, ev_int_i, ev_int_b, ev_min_ii, ev_max_ii, ev_abs, ev_tup_of, ev_tup_ofL, ev_lst_ofT, ev_lst_ofL, ev_len_t, ev_len_s, ev_len_r, ev_tru_b, ev_alloc, ev_tupD, ev_lstD, isi_tuple_non, isi_tuple_bl, isi_tuple_int, isi_tuple_str, isi_tuple_tup, isi_tuple_l, isi_tuple_f, isi_list_non, isi_list_bl, isi_list_int, isi_list_str, isi_list_tup, isi_list_l, isi_list_f, isi_bool_non, isi_bool_bl, isi_bool_int, isi_bool_str, isi_bool_tup, isi_bool_l, isi_bool_f, isi_int_non, isi_int_bl, isi_int_int, isi_int_str, isi_int_tup, isi_int_l, isi_int_f, isi_str_non, isi_str_bl, isi_str_int, isi_str_str, isi_str_tup, isi_str_l, isi_str_f, isi_dict_non, isi_dict_bl, isi_dict_int, isi_dict_str, isi_dict_tup, isi_dict_l, isi_dict_f, Ab.isNon, args, List.map, List.length_cons, List.length_nil, List.length_singleton, List.replicate, Nat.reduceSub, Nat.reduceAdd, Nat.zero_add, List.cons_append, List.nil_append, List.getElem?_cons_zero, List.getElem?_cons_succ, List.set_cons_zero, List.set_cons_succ, Option.some.injEq, decide_eq_true_eq, Bool.not_eq_true', decide_eq_false_iff_not, ite_true, ite_false, if_true, if_false, reduceIte, Bool.false_eq_true, Bool.not_true, Bool.not_false, Bool.true_eq_false, decide_true, decide_false, Nat.reduceLeDiff, Nat.reduceLT, T.len]
  rw [if_pos (inRg_of (by omega) (by omega)), Int.toNat_natCast]
  refine range_inv (fun k σ B => Dr s A0 B ∧ (∃ M', Mt [] B r c m M' ∧ ∀ i j, i ≠ j → M' i j = M i j) ∧ ∃ x y, σ = [some (.ref s), some (.ref r), some (.int odd), some (.int at'), x, y])
    (fun k σ B hk ⟨DB, ⟨M', T, hM⟩, x, y, hσ⟩ => ?_) (fun σ B ⟨DB, ⟨M', T, hM⟩, x, y, hσ⟩ => ?_) ⟨D0, ⟨M, T, fun _ _ _ => rfl⟩, none, none, rfl⟩
  · subst hσ
    simp only [sat_ok, sat_bad, sat_bind, sat_ite, bind_ok, bind_bad, thn_nx, thn_rt, thn_bk, thn_ct, fin_rt, fin_nx, ev_v, ev_c, ev_op, ev_un, ev_nil, ev_cons, ev_tup, ev_lst, ev_call, ev_own, ev_sl, ev_no, ev_part, ev_and, ev_or, ev_not, ev_if, ev_t, ev_tb, ev_tnot, ev_tand, ev_tor, ev_mt, ev_mt0, ev_rgd, ev_set, ev_asg, ev_ret, ev_retN, ev_ex, ev_pass, ev_brk, ev_cont, ev_ifS, ev_aug, ev_gn, ev_gtp, ev_gnl, ev_gcs, ev_gsb, ev_for, ev_rg1, ev_rg2, ev_its, ev_enum, ev_lc, ev_yes, ev_add_ii, ev_add_ss, ev_add_tt, ev_add_rr, ev_sub, ev_mul, ev_mod, ev_fdiv, ev_pow, ev_neg, ev_lt, ev_le, ev_gt, ev_ge, ev_eq_ii, ev_eq_ss, ev_eq_bb, ev_ne_ii, ev_ne_ss, ev_ne_bb, ev_is_n, ev_isnt_n, ev_int_i, ev_int_b, ev_min_ii, ev_max_ii, ev_abs, ev_tup_of, ev_tup_ofL, ev_lst_ofT, ev_lst_ofL, ev_len_t, ev_len_s, ev_len_r, ev_tru_b, ev_alloc, ev_tupD, ev_lstD, isi_tuple_non, isi_tuple_bl, isi_tuple_int, isi_tuple_str, isi_tuple_tup, isi_tuple_l, isi_tuple_f, isi_list_non, isi_list_bl, isi_list_int, isi_list_str, isi_list_tup, isi_list_l, isi_list_f, isi_bool_non, isi_bool_bl, isi_bool_int, isi_bool_str, isi_bool_tup, isi_bool_l, isi_bool_f, isi_int_non, isi_int_bl, isi_int_int, isi_int_str, isi_int_tup, isi_int_l, isi_int_f, isi_str_non, isi_str_bl, isi_str_int, isi_str_str, isi_str_tup, isi_str_l, isi_str_f, isi_dict_non, isi_dict_bl, isi_dict_int, isi_dict_str, isi_dict_tup, isi_dict_l, isi_dict_f, Ab.isNon, args, List.map, List.length_cons, List.length_nil, List.length_singleton, List.replicate, Nat.reduceSub, Nat.reduceAdd, Nat.zero_add, List.cons_append, List.nil_append, List.getElem?_cons_zero, List.getElem?_cons_succ, List.set_cons_zero, List.set_cons_succ, Option.some.injEq, decide_eq_true_eq, Bool.not_eq_true', decide_eq_false_iff_not, ite_true, ite_false, if_true, if_false, reduceIte, Bool.false_eq_true, Bool.not_true, Bool.not_false, Bool.true_eq_false, decide_true, decide_false, Nat.reduceLeDiff, Nat.reduceLT, Int.zero_add]
    refine sat_seq ?_
    simp only [sat_ok, sat_bad, sat_bind, sat_ite, bind_ok, bind_bad, thn_nx, thn_rt, thn_bk, thn_ct, fin_rt, fin_nx, ev_v, ev_c, ev_op, ev_un, ev_nil, ev_cons, ev_tup, ev_lst, ev_call, ev_own, ev_sl, ev_no, ev_part, ev_and, ev_or, ev_not, ev_if, ev_t, ev_tb, ev_tnot, ev_tand, ev_tor, ev_mt, ev_mt0, ev_rgd, ev_set, ev_asg, ev_ret, ev_retN, ev_ex, ev_pass, ev_brk, ev_cont, ev_ifS, ev_aug, ev_gn, ev_gtp, ev_gnl, ev_gcs, ev_gsb, ev_for, ev_rg1, ev_rg2, ev_its, ev_enum, ev_lc, ev_yes, ev_add_ii, ev_add_ss, ev_add_tt, ev_add_rr, ev_sub, ev_mul, ev_mod, ev_fdiv, ev_pow, ev_neg, ev_lt, ev_le, ev_gt, ev_ge, ev_eq_ii, ev_eq_ss, ev_eq_bb, ev_ne_ii, ev_ne_ss, ev_ne_bb, ev_is_n, ev_isnt_n, ev_int_i, ev_int_b, ev_min_ii, ev_max_ii, ev_abs, ev_tup_of, ev_tup_ofL, ev_lst_ofT, ev_lst_ofL, ev_len_t, ev_len_s, ev_len_r, ev_tru_b, ev_alloc, ev_tupD, ev_lstD, isi_tuple_non, isi_tuple_bl, isi_tuple_int, isi_tuple_str, isi_tuple_tup, isi_tuple_l, isi_tuple_f, isi_list_non, isi_list_bl, isi_list_int, isi_list_str, isi_list_tup, isi_list_l, isi_list_f, isi_bool_non, isi_bool_bl, isi_bool_int, isi_bool_str, isi_bool_tup, isi_bool_l, isi_bool_f, isi_int_non, isi_int_bl, isi_int_int, isi_int_str, isi_int_tup, isi_int_l, isi_int_f, isi_str_non, isi_str_bl, isi_str_int, isi_str_str, isi_str_tup, isi_str_l, isi_str_f, isi_dict_non, isi_dict_bl, isi_dict_int, isi_dict_str, isi_dict_tup, isi_dict_l, isi_dict_f, Ab.isNon, args, List.map, List.length_cons, List.length_nil, List.length_singleton, List.replicate, Nat.reduceSub, Nat.reduceAdd, Nat.zero_add, List.cons_append, List.nil_append, List.getElem?_cons_zero, List.getElem?_cons_succ, List.set_cons_zero, List.set_cons_succ, Option.some.injEq, decide_eq_true_eq, Bool.not_eq_true', decide_eq_false_iff_not, ite_true, ite_false, if_true, if_false, reduceIte, Bool.false_eq_true, Bool.not_true, Bool.not_false, Bool.true_eq_false, decide_true, decide_false, Nat.reduceLeDiff, Nat.reduceLT, T.ix hk]
    refine sat_seq ?_
    simp only [sat_ok, sat_bad, sat_bind, sat_ite, bind_ok, bind_bad, thn_nx, thn_rt, thn_bk, thn_ct, fin_rt, fin_nx, ev_v, ev_c, ev_op, ev_un, ev_nil, ev_cons, ev_tup, ev_lst, ev_call, ev_own, ev_sl, ev_no, ev_part, ev_and, ev_or, ev_not, ev_if, ev_t, ev_tb, ev_tnot, ev_tand, ev_tor, ev_mt, ev_mt0, ev_rgd, ev_set, ev_asg, ev_ret, ev_retN, ev_ex, ev_pass, ev_brk, ev_cont, ev_ifS, ev_aug, ev_gn, ev_gtp, ev_gnl, ev_gcs, ev_gsb, ev_for, ev_rg1, ev_rg2, ev_its, ev_enum, ev_lc, ev_yes, ev_add_ii, ev_add_ss, ev_add_tt, ev_add_rr, ev_sub, ev_mul, ev_mod, ev_fdiv, ev_pow, ev_neg, ev_lt, ev_le, ev_gt, ev_ge, ev_eq_ii, ev_eq_ss, ev_eq_bb, ev_ne_ii, ev_ne_ss, ev_ne_bb, ev_is_n, ev_isnt_n, ev_int_i, ev_int_b, ev_min_ii, ev_max_ii, ev_abs, ev_tup_of, ev_tup_ofL, ev_lst_ofT, ev_lst_ofL, ev_len_t, ev_len_s, ev_len_r, ev_tru_b, ev_alloc, ev_tupD, ev_lstD, isi_tuple_non, isi_tuple_bl, isi_tuple_int, isi_tuple_str, isi_tuple_tup, isi_tuple_l, isi_tuple_f, isi_list_non, isi_list_bl, isi_list_int, isi_list_str, isi_list_tup, isi_list_l, isi_list_f, isi_bool_non, isi_bool_bl, isi_bool_int, isi_bool_str, isi_bool_tup, isi_bool_l, isi_bool_f, isi_int_non, isi_int_bl, isi_int_int, isi_int_str, isi_int_tup, isi_int_l, isi_int_f, isi_str_non, isi_str_bl, isi_str_int, isi_str_str, isi_str_tup, isi_str_l, isi_str_f, isi_dict_non, isi_dict_bl, isi_dict_int, isi_dict_str, isi_dict_tup, isi_dict_l, isi_dict_f, Ab.isNon, args, List.map, List.length_cons, List.length_nil, List.length_singleton, List.replicate, Nat.reduceSub, Nat.reduceAdd, Nat.zero_add, List.cons_append, List.nil_append, List.getElem?_cons_zero, List.getElem?_cons_succ, List.set_cons_zero, List.set_cons_succ, Option.some.injEq, decide_eq_true_eq, Bool.not_eq_true', decide_eq_false_iff_not, ite_true, ite_false, if_true, if_false, reduceIte, Bool.false_eq_true, Bool.not_true, Bool.not_false, Bool.true_eq_false, decide_true, decide_false, Nat.reduceLeDiff, Nat.reduceLT]
    rw [T.st hk hk]
    simp only [sat_ok, sat_bad, sat_bind, sat_ite, bind_ok, bind_bad, thn_nx, thn_rt, thn_bk, thn_ct, fin_rt, fin_nx, ev_v, ev_c, ev_op, ev_un, ev_nil, ev_cons, ev_tup, ev_lst, ev_call, ev_own, ev_sl, ev_no, ev_part, ev_and, ev_or, ev_not, ev_if, ev_t, ev_tb, ev_tnot, ev_tand, ev_tor, ev_mt, ev_mt0, ev_rgd, ev_set, ev_asg, ev_ret, ev_retN, ev_ex, ev_pass, ev_brk, ev_cont, ev_ifS, ev_aug, ev_gn, ev_gtp, ev_gnl, ev_gcs, ev_gsb, ev_for, ev_rg1, ev_rg2, ev_its, ev_enum, ev_lc, ev_yes, ev_add_ii, ev_add_ss, ev_add_tt, ev_add_rr, ev_sub, ev_mul, ev_mod, ev_fdiv, ev_pow, ev_neg, ev_lt, ev_le, ev_gt, ev_ge, ev_eq_ii, ev_eq_ss, ev_eq_bb, ev_ne_ii, ev_ne_ss, ev_ne_bb, ev_is_n, ev_isnt_n, ev_int_i, ev_int_b, ev_min_ii, ev_max_ii, ev_abs, ev_tup_of, ev_tup_ofL, ev_lst_ofT, ev_lst_ofL, ev_len_t, ev_len_s, ev_len_r, ev_tru_b, ev_alloc, ev_tupD, ev_lstD, isi_tuple_non, isi_tuple_bl, isi_tuple_int, isi_tuple_str, isi_tuple_tup, isi_tuple_l, isi_tuple_f, isi_list_non, isi_list_bl, isi_list_int, isi_list_str, isi_list_tup, isi_list_l, isi_list_f, isi_bool_non, isi_bool_bl, isi_bool_int, isi_bool_str, isi_bool_tup, isi_bool_l, isi_bool_f, isi_int_non, isi_int_bl, isi_int_int, isi_int_str, isi_int_tup, isi_int_l, isi_int_f, isi_str_non, isi_str_bl, isi_str_int, isi_str_str, isi_str_tup, isi_str_l, isi_str_f, isi_dict_non, isi_dict_bl, isi_dict_int, isi_dict_str, isi_dict_tup, isi_dict_l, isi_dict_f, Ab.isNon, args, List.map, List.length_cons, List.length_nil, List.length_singleton, List.replicate, Nat.reduceSub, Nat.reduceAdd, Nat.zero_add, List.cons_append, List.nil_append, List.getElem?_cons_zero, List.getElem?_cons_succ, List.set_cons_zero, List.set_cons_succ, Option.some.injEq, decide_eq_true_eq, Bool.not_eq_true', decide_eq_false_iff_not, ite_true, ite_false, if_true, if_false, reduceIte, Bool.false_eq_true, Bool.not_true, Bool.not_false, Bool.true_eq_false, decide_true, decide_false, Nat.reduceLeDiff, Nat.reduceLT]
    have put : ∀ {B : AH} {M' : Mx} (v : Int), Mt [] B r c m M' → (∀ i j, i ≠ j → M' i j = M i j) → ∃ M'', Mt [] (B.set (c k) (.lst (((List.range m).map fun j => D.int (M' k j)).set k (.int v)))) r c m M'' ∧ ∀ i j, i ≠ j → M'' i j = M i j := fun v T h =>
      ⟨_, T.set hk, fun i j e => by rw [if_neg (fun z => e (z.1.trans z.2.symm))]; exact h i j e⟩
    obtain ⟨M1, T1, hM1⟩ := put 0 T hM
    have D1 := DB.setN (o := .lst (((List.range m).map fun j => D.int (M' k j)).set k (.int 0))) (cn k hk) hs
    generalize B.set (c k) (.lst (((List.range m).map fun j => D.int (M' k j)).set k (.int 0))) = B1 at T1 D1 ⊢
    refine sat_seq ?_
    have step : Sat (fIfS (fTB (fOp ltD (fV 2) (fC (.int 2))))
        (fAsg (fOwn 2 m__law_pick (fCons (fV 0) (fCons (fC (.int 4)) (fNil)))) (gSb (fV 5) (fV 4))) (fPass)
        [some (.ref s), some (.ref r), some (.int odd), some (.int at'), some (.int (k : Nat)), some (.ref (c k))] B1) fun fl B2 => fl = .nx [some (.ref s), some (.ref r), some (.int odd), some (.int at'), some (.int (k : Nat)), some (.ref (c k))] ∧ Dr s A0 B2 ∧ ∃ M'', Mt [] B2 r c m M'' ∧ ∀ i j, i ≠ j → M'' i j = M i j := by
      simp only [sat_ok, sat_bad, sat_bind, sat_ite, bind_ok, bind_bad, thn_nx, thn_rt, thn_bk, thn_ct, fin_rt, fin_nx, ev_v, ev_c, ev_op, ev_un, ev_nil, ev_cons, ev_tup, ev_lst, ev_call, ev_own, ev_sl, ev_no, ev_part, ev_and, ev_or, ev_not, ev_if, ev_t, ev_tb, ev_tnot, ev_tand, ev_tor, ev_mt, ev_mt0, ev_rgd, ev_set, ev_asg, ev_ret, ev_retN, ev_ex, ev_pass, ev_brk, ev_cont, ev_ifS, ev_aug, ev_gn, ev_gtp, ev_gnl, ev_gcs, ev_gsb, ev_for, ev_rg1, ev_rg2, ev_its, ev_enum, ev_lc, ev_yes, ev_add_ii, ev_add_ss, ev_add_tt, ev_add_rr, ev_sub, ev_mul, ev_mod, ev_fdiv, ev_pow, ev_neg, ev_lt, ev_le, ev_gt, ev_ge, ev_eq_ii, ev_eq_ss, ev_eq_bb, ev_ne_ii, ev_ne_ss, ev_ne_bb, ev_is_n, ev_isnt_n, ev_int_i, ev_int_b, ev_min_ii, ev_max_ii, ev_abs, ev_tup_of, ev_tup_ofL, ev_lst_ofT, ev_lst_ofL, ev_len_t, ev_len_s, ev_len_r, ev_tru_b, ev_alloc, ev_tupD, ev_lstD, isi_tuple_non, isi_tuple_bl, isi_tuple_int, isi_tuple_str, isi_tuple_tup, isi_tuple_l, isi_tuple_f, isi_list_non, isi_list_bl, isi_list_int, isi_list_str, isi_list_tup, isi_list_l, isi_list_f, isi_bool_non, isi_bool_bl, isi_bool_int, isi_bool_str, isi_bool_tup, isi_bool_l, isi_bool_f, isi_int_non, isi_int_bl, isi_int_int, isi_int_str, isi_int_tup, isi_int_l, isi_int_f, isi_str_non, isi_str_bl, isi_str_int, isi_str_str, isi_str_tup, isi_str_l, isi_str_f, isi_dict_non, isi_dict_bl, isi_dict_int, isi_dict_str, isi_dict_tup, isi_dict_l, isi_dict_f, Ab.isNon, args, List.map, List.length_cons, List.length_nil, List.length_singleton, List.replicate, Nat.reduceSub, Nat.reduceAdd, Nat.zero_add, List.cons_append, List.nil_append, List.getElem?_cons_zero, List.getElem?_cons_succ, List.set_cons_zero, List.set_cons_succ, Option.some.injEq, decide_eq_true_eq, Bool.not_eq_true', decide_eq_false_iff_not, ite_true, ite_false, if_true, if_false, reduceIte, Bool.false_eq_true, Bool.not_true, Bool.not_false, Bool.true_eq_false, decide_true, decide_false, Nat.reduceLeDiff, Nat.reduceLT]
      split
      · refine Sat.imp (pick_pos D1.src (n := 4) (by decide) (by decide)) fun d B2 ⟨⟨v, e, _, _⟩, dr⟩ => ?_
        subst e
        have T2 := T1.draw dr rs cs
        rw [T2.st hk hk]
        simp only [sat_ok, sat_bad, sat_bind, sat_ite, bind_ok, bind_bad, thn_nx, thn_rt, thn_bk, thn_ct, fin_rt, fin_nx, ev_v, ev_c, ev_op, ev_un, ev_nil, ev_cons, ev_tup, ev_lst, ev_call, ev_own, ev_sl, ev_no, ev_part, ev_and, ev_or, ev_not, ev_if, ev_t, ev_tb, ev_tnot, ev_tand, ev_tor, ev_mt, ev_mt0, ev_rgd, ev_set, ev_asg, ev_ret, ev_retN, ev_ex, ev_pass, ev_brk, ev_cont, ev_ifS, ev_aug, ev_gn, ev_gtp, ev_gnl, ev_gcs, ev_gsb, ev_for, ev_rg1, ev_rg2, ev_its, ev_enum, ev_lc, ev_yes, ev_add_ii, ev_add_ss, ev_add_tt, ev_add_rr, ev_sub, ev_mul, ev_mod, ev_fdiv, ev_pow, ev_neg, ev_lt, ev_le, ev_gt, ev_ge, ev_eq_ii, ev_eq_ss, ev_eq_bb, ev_ne_ii, ev_ne_ss, ev_ne_bb, ev_is_n, ev_isnt_n, ev_int_i, ev_int_b, ev_min_ii, ev_max_ii, ev_abs, ev_tup_of, ev_tup_ofL, ev_lst_ofT, ev_lst_ofL, ev_len_t, ev_len_s, ev_len_r, ev_tru_b, ev_alloc, ev_tupD, ev_lstD, isi_tuple_non, isi_tuple_bl, isi_tuple_int, isi_tuple_str, isi_tuple_tup, isi_tuple_l, isi_tuple_f, isi_list_non, isi_list_bl, isi_list_int, isi_list_str, isi_list_tup, isi_list_l, isi_list_f, isi_bool_non, isi_bool_bl, isi_bool_int, isi_bool_str, isi_bool_tup, isi_bool_l, isi_bool_f, isi_int_non, isi_int_bl, isi_int_int, isi_int_str, isi_int_tup, isi_int_l, isi_int_f, isi_str_non, isi_str_bl, isi_str_int, isi_str_str, isi_str_tup, isi_str_l, isi_str_f, isi_dict_non, isi_dict_bl, isi_dict_int, isi_dict_str, isi_dict_tup, isi_dict_l, isi_dict_f, Ab.isNon, args, List.map, List.length_cons, List.length_nil, List.length_singleton, List.replicate, Nat.reduceSub, Nat.reduceAdd, Nat.zero_add, List.cons_append, List.nil_append, List.getElem?_cons_zero, List.getElem?_cons_succ, List.set_cons_zero, List.set_cons_succ, Option.some.injEq, decide_eq_true_eq, Bool.not_eq_true', decide_eq_false_iff_not, ite_true, ite_false, if_true, if_false, reduceIte, Bool.false_eq_true, Bool.not_true, Bool.not_false, Bool.true_eq_false, decide_true, decide_false, Nat.reduceLeDiff, Nat.reduceLT]
        exact ⟨trivial, (D1.trans dr).setN (cn k hk) hs, put v T2 hM1⟩
      · exact ⟨trivial, D1, _, T1, hM1⟩
    refine Sat.imp step fun fl B2 ⟨e, D2, M2, T2, hM2⟩ => ?_
    subst e
    simp only [sat_ok, sat_bad, sat_bind, sat_ite, bind_ok, bind_bad, thn_nx, thn_rt, thn_bk, thn_ct, fin_rt, fin_nx, ev_v, ev_c, ev_op, ev_un, ev_nil, ev_cons, ev_tup, ev_lst, ev_call, ev_own, ev_sl, ev_no, ev_part, ev_and, ev_or, ev_not, ev_if, ev_t, ev_tb, ev_tnot, ev_tand, ev_tor, ev_mt, ev_mt0, ev_rgd, ev_set, ev_asg, ev_ret, ev_retN, ev_ex, ev_pass, ev_brk, ev_cont, ev_ifS, ev_aug, ev_gn, ev_gtp, ev_gnl, ev_gcs, ev_gsb, ev_for, ev_rg1, ev_rg2, ev_its, ev_enum, ev_lc, ev_yes, ev_add_ii, ev_add_ss, ev_add_tt, ev_add_rr, ev_sub, ev_mul, ev_mod, ev_fdiv, ev_pow, ev_neg, ev_lt, ev_le, ev_gt, ev_ge, ev_eq_ii, ev_eq_ss, ev_eq_bb, ev_ne_ii, ev_ne_ss, ev_ne_bb, ev_is_n, ev_isnt_n, ev_int_i, ev_int_b, ev_min_ii, ev_max_ii, ev_abs, ev_tup_of, ev_tup_ofL, ev_lst_ofT, ev_lst_ofL, ev_len_t, ev_len_s, ev_len_r, ev_tru_b, ev_alloc, ev_tupD, ev_lstD, isi_tuple_non, isi_tuple_bl, isi_tuple_int, isi_tuple_str, isi_tuple_tup, isi_tuple_l, isi_tuple_f, isi_list_non, isi_list_bl, isi_list_int, isi_list_str, isi_list_tup, isi_list_l, isi_list_f, isi_bool_non, isi_bool_bl, isi_bool_int, isi_bool_str, isi_bool_tup, isi_bool_l, isi_bool_f, isi_int_non, isi_int_bl, isi_int_int, isi_int_str, isi_int_tup, isi_int_l, isi_int_f, isi_str_non, isi_str_bl, isi_str_int, isi_str_str, isi_str_tup, isi_str_l, isi_str_f, isi_dict_non, isi_dict_bl, isi_dict_int, isi_dict_str, isi_dict_tup, isi_dict_l, isi_dict_f, Ab.isNon, args, List.map, List.length_cons, List.length_nil, List.length_singleton, List.replicate, Nat.reduceSub, Nat.reduceAdd, Nat.zero_add, List.cons_append, List.nil_append, List.getElem?_cons_zero, List.getElem?_cons_succ, List.set_cons_zero, List.set_cons_succ, Option.some.injEq, decide_eq_true_eq, Bool.not_eq_true', decide_eq_false_iff_not, ite_true, ite_false, if_true, if_false, reduceIte, Bool.false_eq_true, Bool.not_true, Bool.not_false, Bool.true_eq_false, decide_true, decide_false, Nat.reduceLeDiff, Nat.reduceLT]
    split
    · split
      · refine Sat.imp (pick_pos D2.src (n := 3) (by decide) (by decide)) fun d B3 ⟨⟨v, e, _, _⟩, dr⟩ => ?_
        subst e
        have T3 := T2.draw dr rs cs
        simp only [sat_ok, sat_bad, sat_bind, sat_ite, bind_ok, bind_bad, thn_nx, thn_rt, thn_bk, thn_ct, fin_rt, fin_nx, ev_v, ev_c, ev_op, ev_un, ev_nil, ev_cons, ev_tup, ev_lst, ev_call, ev_own, ev_sl, ev_no, ev_part, ev_and, ev_or, ev_not, ev_if, ev_t, ev_tb, ev_tnot, ev_tand, ev_tor, ev_mt, ev_mt0, ev_rgd, ev_set, ev_asg, ev_ret, ev_retN, ev_ex, ev_pass, ev_brk, ev_cont, ev_ifS, ev_aug, ev_gn, ev_gtp, ev_gnl, ev_gcs, ev_gsb, ev_for, ev_rg1, ev_rg2, ev_its, ev_enum, ev_lc, ev_yes, ev_add_ii, ev_add_ss, ev_add_tt, ev_add_rr, ev_sub, ev_mul, ev_mod, ev_fdiv, ev_pow, ev_neg, ev_lt, ev_le, ev_gt, ev_ge, ev_eq_ii, ev_eq_ss, ev_eq_bb, ev_ne_ii, ev_ne_ss, ev_ne_bb, ev_is_n, ev_isnt_n, ev_int_i, ev_int_b, ev_min_ii, ev_max_ii, ev_abs, ev_tup_of, ev_tup_ofL, ev_lst_ofT, ev_lst_ofL, ev_len_t, ev_len_s, ev_len_r, ev_tru_b, ev_alloc, ev_tupD, ev_lstD, isi_tuple_non, isi_tuple_bl, isi_tuple_int, isi_tuple_str, isi_tuple_tup, isi_tuple_l, isi_tuple_f, isi_list_non, isi_list_bl, isi_list_int, isi_list_str, isi_list_tup, isi_list_l, isi_list_f, isi_bool_non, isi_bool_bl, isi_bool_int, isi_bool_str, isi_bool_tup, isi_bool_l, isi_bool_f, isi_int_non, isi_int_bl, isi_int_int, isi_int_str, isi_int_tup, isi_int_l, isi_int_f, isi_str_non, isi_str_bl, isi_str_int, isi_str_str, isi_str_tup, isi_str_l, isi_str_f, isi_dict_non, isi_dict_bl, isi_dict_int, isi_dict_str, isi_dict_tup, isi_dict_l, isi_dict_f, Ab.isNon, args, List.map, List.length_cons, List.length_nil, List.length_singleton, List.replicate, Nat.reduceSub, Nat.reduceAdd, Nat.zero_add, List.cons_append, List.nil_append, List.getElem?_cons_zero, List.getElem?_cons_succ, List.set_cons_zero, List.set_cons_succ, Option.some.injEq, decide_eq_true_eq, Bool.not_eq_true', decide_eq_false_iff_not, ite_true, ite_false, if_true, if_false, reduceIte, Bool.false_eq_true, Bool.not_true, Bool.not_false, Bool.true_eq_false, decide_true, decide_false, Nat.reduceLeDiff, Nat.reduceLT]
        rw [T3.st hk hk]
        simp only [sat_ok, sat_bad, sat_bind, sat_ite, bind_ok, bind_bad, thn_nx, thn_rt, thn_bk, thn_ct, fin_rt, fin_nx, ev_v, ev_c, ev_op, ev_un, ev_nil, ev_cons, ev_tup, ev_lst, ev_call, ev_own, ev_sl, ev_no, ev_part, ev_and, ev_or, ev_not, ev_if, ev_t, ev_tb, ev_tnot, ev_tand, ev_tor, ev_mt, ev_mt0, ev_rgd, ev_set, ev_asg, ev_ret, ev_retN, ev_ex, ev_pass, ev_brk, ev_cont, ev_ifS, ev_aug, ev_gn, ev_gtp, ev_gnl, ev_gcs, ev_gsb, ev_for, ev_rg1, ev_rg2, ev_its, ev_enum, ev_lc, ev_yes, ev_add_ii, ev_add_ss, ev_add_tt, ev_add_rr, ev_sub, ev_mul, ev_mod, ev_fdiv, ev_pow, ev_neg, ev_lt, ev_le, ev_gt, ev_ge, ev_eq_ii, ev_eq_ss, ev_eq_bb, ev_ne_ii, ev_ne_ss, ev_ne_bb, ev_is_n, ev_isnt_n, ev_int_i, ev_int_b, ev_min_ii, ev_max_ii, ev_abs, ev_tup_of, ev_tup_ofL, ev_lst_ofT, ev_lst_ofL, ev_len_t, ev_len_s, ev_len_r, ev_tru_b, ev_alloc, ev_tupD, ev_lstD, isi_tuple_non, isi_tuple_bl, isi_tuple_int, isi_tuple_str, isi_tuple_tup, isi_tuple_l, isi_tuple_f, isi_list_non, isi_list_bl, isi_list_int, isi_list_str, isi_list_tup, isi_list_l, isi_list_f, isi_bool_non, isi_bool_bl, isi_bool_int, isi_bool_str, isi_bool_tup, isi_bool_l, isi_bool_f, isi_int_non, isi_int_bl, isi_int_int, isi_int_str, isi_int_tup, isi_int_l, isi_int_f, isi_str_non, isi_str_bl, isi_str_int, isi_str_str, isi_str_tup, isi_str_l, isi_str_f, isi_dict_non, isi_dict_bl, isi_dict_int, isi_dict_str, isi_dict_tup, isi_dict_l, isi_dict_f, Ab.isNon, args, List.map, List.length_cons, List.length_nil, List.length_singleton, List.replicate, Nat.reduceSub, Nat.reduceAdd, Nat.zero_add, List.cons_append, List.nil_append, List.getElem?_cons_zero, List.getElem?_cons_succ, List.set_cons_zero, List.set_cons_succ, Option.some.injEq, decide_eq_true_eq, Bool.not_eq_true', decide_eq_false_iff_not, ite_true, ite_false, if_true, if_false, reduceIte, Bool.false_eq_true, Bool.not_true, Bool.not_false, Bool.true_eq_false, decide_true, decide_false, Nat.reduceLeDiff, Nat.reduceLT, turn_]
        exact ⟨(D2.trans dr).setN (cn k hk) hs, put _ T3 hM2, _, _, rfl⟩
      · simp only [sat_ok, sat_bad, sat_bind, sat_ite, bind_ok, bind_bad, thn_nx, thn_rt, thn_bk, thn_ct, fin_rt, fin_nx, ev_v, ev_c, ev_op, ev_un, ev_nil, ev_cons, ev_tup, ev_lst, ev_call, ev_own, ev_sl, ev_no, ev_part, ev_and, ev_or, ev_not, ev_if, ev_t, ev_tb, ev_tnot, ev_tand, ev_tor, ev_mt, ev_mt0, ev_rgd, ev_set, ev_asg, ev_ret, ev_retN, ev_ex, ev_pass, ev_brk, ev_cont, ev_ifS, ev_aug, ev_gn, ev_gtp, ev_gnl, ev_gcs, ev_gsb, ev_for, ev_rg1, ev_rg2, ev_its, ev_enum, ev_lc, ev_yes, ev_add_ii, ev_add_ss, ev_add_tt, ev_add_rr, ev_sub, ev_mul, ev_mod, ev_fdiv, ev_pow, ev_neg, ev_lt, ev_le, ev_gt, ev_ge, ev_eq_ii, ev_eq_ss, ev_eq_bb, ev_ne_ii, ev_ne_ss, ev_ne_bb, ev_is_n, ev_isnt_n, ev_int_i, ev_int_b, ev_min_ii, ev_max_ii, ev_abs, ev_tup_of, ev_tup_ofL, ev_lst_ofT, ev_lst_ofL, ev_len_t, ev_len_s, ev_len_r, ev_tru_b, ev_alloc, ev_tupD, ev_lstD, isi_tuple_non, isi_tuple_bl, isi_tuple_int, isi_tuple_str, isi_tuple_tup, isi_tuple_l, isi_tuple_f, isi_list_non, isi_list_bl, isi_list_int, isi_list_str, isi_list_tup, isi_list_l, isi_list_f, isi_bool_non, isi_bool_bl, isi_bool_int, isi_bool_str, isi_bool_tup, isi_bool_l, isi_bool_f, isi_int_non, isi_int_bl, isi_int_int, isi_int_str, isi_int_tup, isi_int_l, isi_int_f, isi_str_non, isi_str_bl, isi_str_int, isi_str_str, isi_str_tup, isi_str_l, isi_str_f, isi_dict_non, isi_dict_bl, isi_dict_int, isi_dict_str, isi_dict_tup, isi_dict_l, isi_dict_f, Ab.isNon, args, List.map, List.length_cons, List.length_nil, List.length_singleton, List.replicate, Nat.reduceSub, Nat.reduceAdd, Nat.zero_add, List.cons_append, List.nil_append, List.getElem?_cons_zero, List.getElem?_cons_succ, List.set_cons_zero, List.set_cons_succ, Option.some.injEq, decide_eq_true_eq, Bool.not_eq_true', decide_eq_false_iff_not, ite_true, ite_false, if_true, if_false, reduceIte, Bool.false_eq_true, Bool.not_true, Bool.not_false, Bool.true_eq_false, decide_true, decide_false, Nat.reduceLeDiff, Nat.reduceLT, turn_]
        exact ⟨D2, ⟨_, T2, hM2⟩, _, _, rfl⟩
    · simp only [sat_ok, sat_bad, sat_bind, sat_ite, bind_ok, bind_bad, thn_nx, thn_rt, thn_bk, thn_ct, fin_rt, fin_nx, ev_v, ev_c, ev_op, ev_un, ev_nil, ev_cons, ev_tup, ev_lst, ev_call, ev_own, ev_sl, ev_no, ev_part, ev_and, ev_or, ev_not, ev_if, ev_t, ev_tb, ev_tnot, ev_tand, ev_tor, ev_mt, ev_mt0, ev_rgd, ev_set, ev_asg, ev_ret, ev_retN, ev_ex, ev_pass, ev_brk, ev_cont, ev_ifS, ev_aug, ev_gn, ev_gtp, ev_gnl, ev_gcs, ev_gsb, ev_for, ev_rg1, ev_rg2, ev_its, ev_enum, ev_lc, ev_yes, ev_add_ii, ev_add_ss, ev_add_tt, ev_add_rr, ev_sub, ev_mul, ev_mod, ev_fdiv, ev_pow, ev_neg, ev_lt, ev_le, ev_gt, ev_ge, ev_eq_ii, ev_eq_ss, ev_eq_bb, ev_ne_ii, ev_ne_ss, ev_ne_bb, ev_is_n, ev_isnt_n, ev_int_i, ev_int_b, ev_min_ii, ev_max_ii, ev_abs, ev_tup_of, ev_tup_ofL, ev_lst_ofT, ev_lst_ofL, ev_len_t, ev_len_s, ev_len_r, ev_tru_b, ev_alloc, ev_tupD, ev_lstD, isi_tuple_non, isi_tuple_bl, isi_tuple_int, isi_tuple_str, isi_tuple_tup, isi_tuple_l, isi_tuple_f, isi_list_non, isi_list_bl, isi_list_int, isi_list_str, isi_list_tup, isi_list_l, isi_list_f, isi_bool_non, isi_bool_bl, isi_bool_int, isi_bool_str, isi_bool_tup, isi_bool_l, isi_bool_f, isi_int_non, isi_int_bl, isi_int_int, isi_int_str, isi_int_tup, isi_int_l, isi_int_f, isi_str_non, isi_str_bl, isi_str_int, isi_str_str, isi_str_tup, isi_str_l, isi_str_f, isi_dict_non, isi_dict_bl, isi_dict_int, isi_dict_str, isi_dict_tup, isi_dict_l, isi_dict_f, Ab.isNon, args, List.map, List.length_cons, List.length_nil, List.length_singleton, List.replicate, Nat.reduceSub, Nat.reduceAdd, Nat.zero_add, List.cons_append, List.nil_append, List.getElem?_cons_zero, List.getElem?_cons_succ, List.set_cons_zero, List.set_cons_succ, Option.some.injEq, decide_eq_true_eq, Bool.not_eq_true', decide_eq_false_iff_not, ite_true, ite_false, if_true, if_false, reduceIte, Bool.false_eq_true, Bool.not_true, Bool.not_false, Bool.true_eq_false, decide_true, decide_false, Nat.reduceLeDiff, Nat.reduceLT, turn_]
      exact ⟨D2, ⟨_, T2, hM2⟩, _, _, rfl⟩
  · subst hσ
    simp only [sat_ok, sat_bad, sat_bind, sat_ite, bind_ok, bind_bad, thn_nx, thn_rt, thn_bk, thn_ct, fin_rt, fin_nx, ev_v, ev_c, ev_op, ev_un, ev_nil, ev_cons, ev_tup, ev_lst, ev_call, ev_own, ev_sl, ev_no, ev_part, ev_and, ev_or, ev_not, ev_if, ev_t, ev_tb, ev_tnot, ev_tand, ev_tor, ev_mt, ev_mt0, ev_rgd, ev_set, ev_asg, ev_ret, ev_retN, ev_ex, ev_pass, ev_brk, ev_cont, ev_ifS, ev_aug, ev_gn, ev_gtp, ev_gnl, ev_gcs, ev_gsb, ev_for, ev_rg1, ev_rg2, ev_its, ev_enum, ev_lc, ev_yes, ev_add_ii, ev_add_ss, ev_add_tt, ev_add_rr, ev_sub, ev_mul, ev_mod, ev_fdiv, ev_pow, ev_neg, ev_lt, ev_le, ev_gt, ev_ge, ev_eq_ii, ev_eq_ss, ev_eq_bb, ev_ne_ii, ev_ne_ss, ev_ne_bb, ev_is_n, ev_isnt_n, ev_int_i, ev_int_b, ev_min_ii, ev_max_ii, ev_abs, ev_tup_of, ev_tup_ofL, ev_lst_ofT, ev_lst_ofL, ev_len_t, ev_len_s, ev_len_r, ev_tru_b, ev_alloc, ev_tupD, ev_lstD, isi_tuple_non, isi_tuple_bl, isi_tuple_int, isi_tuple_str, isi_tuple_tup, isi_tuple_l, isi_tuple_f, isi_list_non, isi_list_bl, isi_list_int, isi_list_str, isi_list_tup, isi_list_l, isi_list_f, isi_bool_non, isi_bool_bl, isi_bool_int, isi_bool_str, isi_bool_tup, isi_bool_l, isi_bool_f, isi_int_non, isi_int_bl, isi_int_int, isi_int_str, isi_int_tup, isi_int_l, isi_int_f, isi_str_non, isi_str_bl, isi_str_int, isi_str_str, isi_str_tup, isi_str_l, isi_str_f, isi_dict_non, isi_dict_bl, isi_dict_int, isi_dict_str, isi_dict_tup, isi_dict_l, isi_dict_f, Ab.isNon, args, List.map, List.length_cons, List.length_nil, List.length_singleton, List.replicate, Nat.reduceSub, Nat.reduceAdd, Nat.zero_add, List.cons_append, List.nil_append, List.getElem?_cons_zero, List.getElem?_cons_succ, List.set_cons_zero, List.set_cons_succ, Option.some.injEq, decide_eq_true_eq, Bool.not_eq_true', decide_eq_false_iff_not, ite_true, ite_false, if_true, if_false, reduceIte, Bool.false_eq_true, Bool.not_true, Bool.not_false, Bool.true_eq_false, decide_true, decide_false, Nat.reduceLeDiff, Nat.reduceLT, wipeA]
    rw [ev_iseq_l T.rows]
    simp only [sat_ok, sat_bad, sat_bind, sat_ite, bind_ok, bind_bad, thn_nx, thn_rt, thn_bk, thn_ct, fin_rt, fin_nx, ev_v, ev_c, ev_op, ev_un, ev_nil, ev_cons, ev_tup, ev_lst, ev_call, ev_own, ev_sl, ev_no, ev_part, ev_and, ev_or, ev_not, ev_if, ev_t, ev_tb, ev_tnot, ev_tand, ev_tor, ev_mt, ev_mt0, ev_rgd, ev_set, ev_asg, ev_ret, ev_retN, ev_ex, ev_pass, ev_brk, ev_cont, ev_ifS, ev_aug, ev_gn, ev_gtp, ev_gnl, ev_gcs, ev_gsb, ev_for, ev_rg1, ev_rg2, ev_its, ev_enum, ev_lc, ev_yes, ev_add_ii, ev_add_ss, ev_add_tt, ev_add_rr, ev_sub, ev_mul, ev_mod, ev_fdiv, ev_pow, ev_neg, ev_lt, ev_le, ev_gt, ev_ge, ev_eq_ii, ev_eq_ss, ev_eq_bb, ev_ne_ii, ev_ne_ss, ev_ne_bb, ev_is_n, ev_isnt_n, ev_int_i, ev_int_b, ev_min_ii, ev_max_ii, ev_abs, ev_tup_of, ev_tup_ofL, ev_lst_ofT, ev_lst_ofL, ev_len_t, ev_len_s, ev_len_r, ev_tru_b, ev_alloc, ev_tupD, ev_lstD, isi_tuple_non, isi_tuple_bl, isi_tuple_int, isi_tuple_str, isi_tuple_tup, isi_tuple_l, isi_tuple_f, isi_list_non, isi_list_bl, isi_list_int, isi_list_str, isi_list_tup, isi_list_l, isi_list_f, isi_bool_non, isi_bool_bl, isi_bool_int, isi_bool_str, isi_bool_tup, isi_bool_l, isi_bool_f, isi_int_non, isi_int_bl, isi_int_int, isi_int_str, isi_int_tup, isi_int_l, isi_int_f, isi_str_non, isi_str_bl, isi_str_int, isi_str_str, isi_str_tup, isi_str_l, isi_str_f, isi_dict_non, isi_dict_bl, isi_dict_int, isi_dict_str, isi_dict_tup, isi_dict_l, isi_dict_f, Ab.isNon, args, List.map, List.length_cons, List.length_nil, List.length_singleton, List.replicate, Nat.reduceSub, Nat.reduceAdd, Nat.zero_add, List.cons_append, List.nil_append, List.getElem?_cons_zero, List.getElem?_cons_succ, List.set_cons_zero, List.set_cons_succ, Option.some.injEq, decide_eq_true_eq, Bool.not_eq_true', decide_eq_false_iff_not, ite_true, ite_false, if_true, if_false, reduceIte, Bool.false_eq_true, Bool.not_true, Bool.not_false, Bool.true_eq_false, decide_true, decide_false, Nat.reduceLeDiff, Nat.reduceLT]
    refine comp_pure (fun i => D.ref (c i)) (fun i => rowD m (M' i)) (fun l => rdL_l (Gr.app.keep _ _ T.rows)) (fun i hi l => ?_) (by simp; omega) ?_
    · have hi := List.mem_range.mp hi
      simp only [sat_ok, sat_bad, sat_bind, sat_ite, bind_ok, bind_bad, thn_nx, thn_rt, thn_bk, thn_ct, fin_rt, fin_nx, ev_v, ev_c, ev_op, ev_un, ev_nil, ev_cons, ev_tup, ev_lst, ev_call, ev_own, ev_sl, ev_no, ev_part, ev_and, ev_or, ev_not, ev_if, ev_t, ev_tb, ev_tnot, ev_tand, ev_tor, ev_mt, ev_mt0, ev_rgd, ev_set, ev_asg, ev_ret, ev_retN, ev_ex, ev_pass, ev_brk, ev_cont, ev_ifS, ev_aug, ev_gn, ev_gtp, ev_gnl, ev_gcs, ev_gsb, ev_for, ev_rg1, ev_rg2, ev_its, ev_enum, ev_lc, ev_yes, ev_add_ii, ev_add_ss, ev_add_tt, ev_add_rr, ev_sub, ev_mul, ev_mod, ev_fdiv, ev_pow, ev_neg, ev_lt, ev_le, ev_gt, ev_ge, ev_eq_ii, ev_eq_ss, ev_eq_bb, ev_ne_ii, ev_ne_ss, ev_ne_bb, ev_is_n, ev_isnt_n, ev_int_i, ev_int_b, ev_min_ii, ev_max_ii, ev_abs, ev_tup_of, ev_tup_ofL, ev_lst_ofT, ev_lst_ofL, ev_len_t, ev_len_s, ev_len_r, ev_tru_b, ev_alloc, ev_tupD, ev_lstD, isi_tuple_non, isi_tuple_bl, isi_tuple_int, isi_tuple_str, isi_tuple_tup, isi_tuple_l, isi_tuple_f, isi_list_non, isi_list_bl, isi_list_int, isi_list_str, isi_list_tup, isi_list_l, isi_list_f, isi_bool_non, isi_bool_bl, isi_bool_int, isi_bool_str, isi_bool_tup, isi_bool_l, isi_bool_f, isi_int_non, isi_int_bl, isi_int_int, isi_int_str, isi_int_tup, isi_int_l, isi_int_f, isi_str_non, isi_str_bl, isi_str_int, isi_str_str, isi_str_tup, isi_str_l, isi_str_f, isi_dict_non, isi_dict_bl, isi_dict_int, isi_dict_str, isi_dict_tup, isi_dict_l, isi_dict_f, Ab.isNon, args, List.map, List.length_cons, List.length_nil, List.length_singleton, List.replicate, Nat.reduceSub, Nat.reduceAdd, Nat.zero_add, List.cons_append, List.nil_append, List.getElem?_cons_zero, List.getElem?_cons_succ, List.set_cons_zero, List.set_cons_succ, Option.some.injEq, decide_eq_true_eq, Bool.not_eq_true', decide_eq_false_iff_not, ite_true, ite_false, if_true, if_false, reduceIte, Bool.false_eq_true, Bool.not_true, Bool.not_false, Bool.true_eq_false, decide_true, decide_false, Nat.reduceLeDiff, Nat.reduceLT, ev_tup_ofL (rdL_l (Gr.app.keep _ _ (T.row i hi)))]
      trivial
    · have at1 := at_new (A := B) (o := .lst ((List.range m).map fun i => rowD m (M' i)))
      simp only [sat_ok, sat_bad, sat_bind, sat_ite, bind_ok, bind_bad, thn_nx, thn_rt, thn_bk, thn_ct, fin_rt, fin_nx, ev_v, ev_c, ev_op, ev_un, ev_nil, ev_cons, ev_tup, ev_lst, ev_call, ev_own, ev_sl, ev_no, ev_part, ev_and, ev_or, ev_not, ev_if, ev_t, ev_tb, ev_tnot, ev_tand, ev_tor, ev_mt, ev_mt0, ev_rgd, ev_set, ev_asg, ev_ret, ev_retN, ev_ex, ev_pass, ev_brk, ev_cont, ev_ifS, ev_aug, ev_gn, ev_gtp, ev_gnl, ev_gcs, ev_gsb, ev_for, ev_rg1, ev_rg2, ev_its, ev_enum, ev_lc, ev_yes, ev_add_ii, ev_add_ss, ev_add_tt, ev_add_rr, ev_sub, ev_mul, ev_mod, ev_fdiv, ev_pow, ev_neg, ev_lt, ev_le, ev_gt, ev_ge, ev_eq_ii, ev_eq_ss, ev_eq_bb, ev_ne_ii, ev_ne_ss, ev_ne_bb, ev_is_n, ev_isnt_n, ev_int_i, ev_int_b, ev_min_ii, ev_max_ii, ev_abs, ev_tup_of, ev_tup_ofL, ev_lst_ofT, ev_lst_ofL, ev_len_t, ev_len_s, ev_len_r, ev_tru_b, ev_alloc, ev_tupD, ev_lstD, isi_tuple_non, isi_tuple_bl, isi_tuple_int, isi_tuple_str, isi_tuple_tup, isi_tuple_l, isi_tuple_f, isi_list_non, isi_list_bl, isi_list_int, isi_list_str, isi_list_tup, isi_list_l, isi_list_f, isi_bool_non, isi_bool_bl, isi_bool_int, isi_bool_str, isi_bool_tup, isi_bool_l, isi_bool_f, isi_int_non, isi_int_bl, isi_int_int, isi_int_str, isi_int_tup, isi_int_l, isi_int_f, isi_str_non, isi_str_bl, isi_str_int, isi_str_str, isi_str_tup, isi_str_l, isi_str_f, isi_dict_non, isi_dict_bl, isi_dict_int, isi_dict_str, isi_dict_tup, isi_dict_l, isi_dict_f, Ab.isNon, args, List.map, List.length_cons, List.length_nil, List.length_singleton, List.replicate, Nat.reduceSub, Nat.reduceAdd, Nat.zero_add, List.cons_append, List.nil_append, List.getElem?_cons_zero, List.getElem?_cons_succ, List.set_cons_zero, List.set_cons_succ, Option.some.injEq, decide_eq_true_eq, Bool.not_eq_true', decide_eq_false_iff_not, ite_true, ite_false, if_true, if_false, reduceIte, Bool.false_eq_true, Bool.not_true, Bool.not_false, Bool.true_eq_false, decide_true, decide_false, Nat.reduceLeDiff, Nat.reduceLT, ev_tup_ofL (rdL_l at1)]
      exact ⟨DB.trans (Dr.app DB.src _), M', rfl, hM⟩
/-- a pair: a table, and what closes it -/
def Pair (A : AH) (r : Nat) : Prop := ∃ m M o, 0 < m ∧ m ≤ 30 ∧ A[r]? = some (.lst [matD m M, outD m o]) ∧ Closes m M o
theorem rows_new {B : AH} {r m : Nat} {M : Mx} (x : Nat → Nat) (hr : B[r]? = some (.lst ((List.range m).map fun i => .ref (x i)))) (hx : ∀ i, i < m → r < x i ∧ B[x i]? = some (.lst ((List.range m).map fun j => .int (M i j)))) (inj : ∀ i j, i < m → j < m → x i = x j → i = j) : Mt [] B r x m M :=
  ⟨⟨Nat.zero_le _, fun i o e => by simp at e⟩, hr, fun i hi => (hx i hi).2, inj, fun i hi => by have := (hx i hi).1; omega, fun _ _ => Nat.zero_le _⟩
/-! ### small and wide -/
structure Rows (P : Int → Prop) (B : AH) (R k m : Nat) (x : Nat → Nat) (M : Mx) : Prop where
  at_ : B[R]? = some (.lst ((List.range k).map fun i => .ref (x i)))
  row : ∀ i, i < k → R < x i ∧ B[x i]? = some (.lst ((List.range m).map fun j => .int (M i j)))
  inj : ∀ i j, i < k → j < k → x i = x j → i = j
  ok : ∀ i j, i < k → j < m → P (M i j)
theorem rows_step {P : Int → Prop} {B B' : AH} {s R k m q : Nat} {x : Nat → Nat} {M : Mx} {f : Nat → Int} (h : Rows P B R k m x M) (d : Dr s B B') (sR : s < R) (hk : k < 1000) (hq : B.length ≤ q) (hr : B'[q]? = some (.lst ((List.range m).map fun j => .int (f j)))) (hP : ∀ j, j < m → P (f j)) :
    ∃ B'', appendD (.ref R) [.ref q] B' = .ok .non B'' ∧ B'' = B'.set R (.lst ((List.range (k + 1)).map fun i => .ref (if i = k then q else x i))) ∧ Rows P B'' R (k + 1) m (fun i => if i = k then q else x i) (fun i => if i = k then f else M i) := by
  have hR := d.keep R _ (by omega) h.at_
  have lR := at_lt h.at_
  have e : ((List.range k).map fun i => D.ref (x i)) ++ [.ref q] = (List.range (k + 1)).map fun i => .ref (if i = k then q else x i) := by
    rw [List.range_succ, List.map_append]
    congr 1
    · exact List.map_congr_left fun i hi => by rw [if_neg (by have := List.mem_range.mp hi; omega)]
    · simp
  refine ⟨_, ev_app hR (by simp; omega), by rw [e], ?_⟩
  rw [e]
  refine ⟨at_set (at_lt hR), fun i hi => ?_, fun i j hi hj => ?_, fun i j hi hj => ?_⟩
  · by_cases c : i = k
    · subst c
      simp only [if_true]
      exact ⟨by omega, by rw [List.getElem?_set_ne (by omega)]; exact hr⟩
    · simp only [if_neg c]
      obtain ⟨h1, h2⟩ := h.row i (by omega)
      exact ⟨h1, by rw [List.getElem?_set_ne (by omega)]; exact d.keep _ _ (by omega) h2⟩
  · by_cases c : i = k
    · by_cases c2 : j = k
      · omega
      · simp only [if_pos c, if_neg c2]
        intro z
        have := at_lt (h.row j (by omega)).2
        omega
    · by_cases c2 : j = k
      · simp only [if_neg c, if_pos c2]
        intro z
        have := at_lt (h.row i (by omega)).2
        omega
      · simp only [if_neg c, if_neg c2]
        exact h.inj i j (by omega) (by omega)
  · by_cases c : i = k
    · simp only [if_pos c]; exact hP j hj
    · simp only [if_neg c]; exact h.ok i j (by omega) hj
theorem hull_out {ps : List (List Int)} {n : Nat} : hullD ps n = outD (n + 1) (if ps = [] then none else some (mx ps)) := by
  unfold hullD
  split <;> rfl
theorem small_spec {A : AH} {s : Nat} (hs : Sr s A) : Sat (m__law_small [.ref s] A) fun d A' => Dr s A A' ∧ ∃ r, d = .ref r ∧ Pair A' r := by
  have sl := hs.lt
  refine sat_body rfl (sat_seq ?_)
  simp only [sat_ok, sat_bad, sat_bind, sat_ite, bind_ok, bind_bad, thn_nx, thn_rt, thn_bk, thn_ct, fin_rt, fin_nx, ev_v, ev_c, ev_op, ev_un, ev_nil, ev_cons, ev_tup, ev_lst, ev_call, ev_own, ev_sl, ev_no, ev_part, ev_and, ev_or, ev_not, ev_if, ev_t, ev_tb, ev_tnot, ev_tand, ev_tor, ev_mt, ev_mt0, ev_rgd, ev_set, ev_asg, ev_ret, ev_retN, ev_ex, ev_pass, ev_brk, ev_cont, ev_ifS, ev_aug, ev_gn, ev_gtp, ev_gnl, ev_gcs, ev_gsb, ev_for, ev_rg1, ev_rg2, ev_its, ev_enum, ev_lc, ev_yes, ev_add_ii, ev_add_ss, ev_add_tt, ev_add_rr, ev_sub, ev_mul, ev_mod, ev_fdiv, ev_pow, ev_neg, ev_lt, ev_le, ev_gt, ev_ge, ev_eq_ii, ev_eq_ss, ev_eq_bb, ev_ne_ii, ev_ne_ss, ev_ne_bb, ev_is_n, ev_isnt_n, ev_int_i, ev_int_b, ev_min_ii, ev_max_ii, ev_abs, ev_tup_of, ev_tup_ofL, ev_lst_ofT, ev_lst_ofL, ev_len_t, ev_len_s, ev_len_r, ev_tru_b, ev_alloc, ev_tupD, ev_lstD, isi_tuple_non, isi_tuple_bl, isi_tuple_int, isi_tuple_str, isi_tuple_tup, isi_tuple_l, isi_tuple_f, isi_list_non, isi_list_bl, isi_list_int, isi_list_str, isi_list_tup, isi_list_l, isi_list_f, isi_bool_non, isi_bool_bl, isi_bool_int, isi_bool_str, isi_bool_tup, isi_bool_l, isi_bool_f, isi_int_non, isi_int_bl, isi_int_int, isi_int_str, isi_int_tup, isi_int_l, isi_int_f, isi_str_non, isi_str_bl, isi_str_int, isi_str_str, isi_str_tup, isi_str_l, isi_str_f, isi_dict_non, isi_dict_bl, isi_dict_int, isi_dict_str, isi_dict_tup, isi_dict_l, isi_dict_f, Ab.isNon, args, List.map, List.length_cons, List.length_nil, List.length_singleton, List.replicate, Nat.reduceSub, Nat.reduceAdd, Nat.zero_add, List.cons_append, List.nil_append, List.getElem?_cons_zero, List.getElem?_cons_succ, List.set_cons_zero, List.set_cons_succ, Option.some.injEq, decide_eq_true_eq, Bool.not_eq_true', decide_eq_false_iff_not, ite_true, ite_false, if_true, if_false, reduceIte, Bool.false_eq_true, Bool.not_true, Bool.not_false, Bool.true_eq_false, decide_true, decide_false, Nat.reduceLeDiff, Nat.reduceLT]
  refine Sat.imp (pick_pos hs (n := 4) (by decide) (by decide)) fun d A1 ⟨⟨v, e, v0, v1⟩, D1⟩ => ?_
  subst e
  refine sat_seq ?_
  simp only [sat_ok, sat_bad, sat_bind, sat_ite, bind_ok, bind_bad, thn_nx, thn_rt, thn_bk, thn_ct, fin_rt, fin_nx, ev_v, ev_c, ev_op, ev_un, ev_nil, ev_cons, ev_tup, ev_lst, ev_call, ev_own, ev_sl, ev_no, ev_part, ev_and, ev_or, ev_not, ev_if, ev_t, ev_tb, ev_tnot, ev_tand, ev_tor, ev_mt, ev_mt0, ev_rgd, ev_set, ev_asg, ev_ret, ev_retN, ev_ex, ev_pass, ev_brk, ev_cont, ev_ifS, ev_aug, ev_gn, ev_gtp, ev_gnl, ev_gcs, ev_gsb, ev_for, ev_rg1, ev_rg2, ev_its, ev_enum, ev_lc, ev_yes, ev_add_ii, ev_add_ss, ev_add_tt, ev_add_rr, ev_sub, ev_mul, ev_mod, ev_fdiv, ev_pow, ev_neg, ev_lt, ev_le, ev_gt, ev_ge, ev_eq_ii, ev_eq_ss, ev_eq_bb, ev_ne_ii, ev_ne_ss, ev_ne_bb, ev_is_n, ev_isnt_n, ev_int_i, ev_int_b, ev_min_ii, ev_max_ii, ev_abs, ev_tup_of, ev_tup_ofL, ev_lst_ofT, ev_lst_ofL, ev_len_t, ev_len_s, ev_len_r, ev_tru_b, ev_alloc, ev_tupD, ev_lstD, isi_tuple_non, isi_tuple_bl, isi_tuple_int, isi_tuple_str, isi_tuple_tup, isi_tuple_l, isi_tuple_f, isi_list_non, isi_list_bl, isi_list_int, isi_list_str, isi_list_tup, isi_list_l, isi_list_f, isi_bool_non, isi_bool_bl, isi_bool_int, isi_bool_str, isi_bool_tup, isi_bool_l, isi_bool_f, isi_int_non, isi_int_bl, isi_int_int, isi_int_str, isi_int_tup, isi_int_l, isi_int_f, isi_str_non, isi_str_bl, isi_str_int, isi_str_str, isi_str_tup, isi_str_l, isi_str_f, isi_dict_non, isi_dict_bl, isi_dict_int, isi_dict_str, isi_dict_tup, isi_dict_l, isi_dict_f, Ab.isNon, args, List.map, List.length_cons, List.length_nil, List.length_singleton, List.replicate, Nat.reduceSub, Nat.reduceAdd, Nat.zero_add, List.cons_append, List.nil_append, List.getElem?_cons_zero, List.getElem?_cons_succ, List.set_cons_zero, List.set_cons_succ, Option.some.injEq, decide_eq_true_eq, Bool.not_eq_true', decide_eq_false_iff_not, ite_true, ite_false, if_true, if_false, reduceIte, Bool.false_eq_true, Bool.not_true, Bool.not_false, Bool.true_eq_false, decide_true, decide_false, Nat.reduceLeDiff, Nat.reduceLT]
  refine Sat.imp (pick_pos D1.src (n := 3) (by decide) (by decide)) fun d A2 ⟨⟨low, e, l0, l1⟩, dr⟩ => ?_
  subst e
  have D2 := D1.trans dr
  obtain ⟨n, rfl⟩ : ∃ n : Nat, v = (n : Nat) := ⟨v.toNat, by omega⟩
  refine sat_seq ?_
  simp only [sat_ok, sat_bad, sat_bind, sat_ite, bind_ok, bind_bad, thn_nx, thn_rt, thn_bk, thn_ct, fin_rt, fin_nx, ev_v, ev_c, ev_op, ev_un, ev_nil, ev_cons, ev_tup, ev_lst, ev_call, ev_own, ev_sl, ev_no, ev_part, ev_and, ev_or, ev_not, ev_if, ev_t, ev_tb, ev_tnot, ev_tand, ev_tor, ev_mt, ev_mt0, ev_rgd, ev_set, ev_asg, ev_ret, ev_retN, ev_ex, ev_pass, ev_brk, ev_cont, ev_ifS, ev_aug, ev_gn, ev_gtp, ev_gnl, ev_gcs, ev_gsb, ev_for, ev_rg1, ev_rg2, ev_its, ev_enum, ev_lc, ev_yes, ev_add_ii, ev_add_ss, ev_add_tt, ev_add_rr, ev_sub, ev_mul, ev_mod, ev_fdiv, ev_pow, ev_neg, ev_lt, ev_le, ev_gt, ev_ge, ev_eq_ii, ev_eq_ss, ev_eq_bb, ev_ne_ii, ev_ne_ss, ev_ne_bb, ev_is_n, ev_isnt_n, ev_int_i, ev_int_b, ev_min_ii, ev_max_ii, ev_abs, ev_tup_of, ev_tup_ofL, ev_lst_ofT, ev_lst_ofL, ev_len_t, ev_len_s, ev_len_r, ev_tru_b, ev_alloc, ev_tupD, ev_lstD, isi_tuple_non, isi_tuple_bl, isi_tuple_int, isi_tuple_str, isi_tuple_tup, isi_tuple_l, isi_tuple_f, isi_list_non, isi_list_bl, isi_list_int, isi_list_str, isi_list_tup, isi_list_l, isi_list_f, isi_bool_non, isi_bool_bl, isi_bool_int, isi_bool_str, isi_bool_tup, isi_bool_l, isi_bool_f, isi_int_non, isi_int_bl, isi_int_int, isi_int_str, isi_int_tup, isi_int_l, isi_int_f, isi_str_non, isi_str_bl, isi_str_int, isi_str_str, isi_str_tup, isi_str_l, isi_str_f, isi_dict_non, isi_dict_bl, isi_dict_int, isi_dict_str, isi_dict_tup, isi_dict_l, isi_dict_f, Ab.isNon, args, List.map, List.length_cons, List.length_nil, List.length_singleton, List.replicate, Nat.reduceSub, Nat.reduceAdd, Nat.zero_add, List.cons_append, List.nil_append, List.getElem?_cons_zero, List.getElem?_cons_succ, List.set_cons_zero, List.set_cons_succ, Option.some.injEq, decide_eq_true_eq, Bool.not_eq_true', decide_eq_false_iff_not, ite_true, ite_false, if_true, if_false, reduceIte, Bool.false_eq_true, Bool.not_true, Bool.not_false, Bool.true_eq_false, decide_true, decide_false, Nat.reduceLeDiff, Nat.reduceLT]
  refine sat_seq ?_
  have hR := at_new (A := A2) (o := .lst [])
  have lR := D2.le
  have D3 := D2.trans (Dr.app D2.src [AO.lst []])
  simp only [sat_ok, sat_bad, sat_bind, sat_ite, bind_ok, bind_bad, thn_nx, thn_rt, thn_bk, thn_ct, fin_rt, fin_nx, ev_v, ev_c, ev_op, ev_un, ev_nil, ev_cons, ev_tup, ev_lst, ev_call, ev_own, ev_sl, ev_no, ev_part, ev_and, ev_or, ev_not, ev_if, ev_t, ev_tb, ev_tnot, ev_tand, ev_tor, ev_mt, ev_mt0, ev_rgd, ev_set, ev_asg, ev_ret, ev_retN, ev_ex, ev_pass, ev_brk, ev_cont, ev_ifS, ev_aug, ev_gn, ev_gtp, ev_gnl, ev_gcs, ev_gsb, ev_for, ev_rg1, ev_rg2, ev_its, ev_enum, ev_lc, ev_yes, ev_add_ii, ev_add_ss, ev_add_tt, ev_add_rr, ev_sub, ev_mul, ev_mod, ev_fdiv, ev_pow, ev_neg, ev_lt, ev_le, ev_gt, ev_ge, ev_eq_ii, ev_eq_ss, ev_eq_bb, ev_ne_ii, ev_ne_ss, ev_ne_bb, ev_is_n, ev_isnt_n, ev_int_i, ev_int_b, ev_min_ii, ev_max_ii, ev_abs, ev_tup_of, ev_tup_ofL, ev_lst_ofT, ev_lst_ofL, ev_len_t, ev_len_s, ev_len_r, ev_tru_b, ev_alloc, ev_tupD, ev_lstD, isi_tuple_non, isi_tuple_bl, isi_tuple_int, isi_tuple_str, isi_tuple_tup, isi_tuple_l, isi_tuple_f, isi_list_non, isi_list_bl, isi_list_int, isi_list_str, isi_list_tup, isi_list_l, isi_list_f, isi_bool_non, isi_bool_bl, isi_bool_int, isi_bool_str, isi_bool_tup, isi_bool_l, isi_bool_f, isi_int_non, isi_int_bl, isi_int_int, isi_int_str, isi_int_tup, isi_int_l, isi_int_f, isi_str_non, isi_str_bl, isi_str_int, isi_str_str, isi_str_tup, isi_str_l, isi_str_f, isi_dict_non, isi_dict_bl, isi_dict_int, isi_dict_str, isi_dict_tup, isi_dict_l, isi_dict_f, Ab.isNon, args, List.map, List.length_cons, List.length_nil, List.length_singleton, List.replicate, Nat.reduceSub, Nat.reduceAdd, Nat.zero_add, List.cons_append, List.nil_append, List.getElem?_cons_zero, List.getElem?_cons_succ, List.set_cons_zero, List.set_cons_succ, Option.some.injEq, decide_eq_true_eq, Bool.not_eq_true', decide_eq_false_iff_not, ite_true, ite_false, if_true, if_false, reduceIte, Bool.false_eq_true, Bool.not_true, Bool.not_false, Bool.true_eq_false, decide_true, decide_false, Nat.reduceLeDiff, Nat.reduceLT]
  rw [if_pos (inRg_of (by omega) (by omega)), show ((n : Int) + 1).toNat = n + 1 by omega]
  refine range_inv (fun k σ B => Dr s A B ∧ (∃ x M, Rows (fun v => -3 ≤ v ∧ v ≤ 5) B A2.length k (n + 1) x M) ∧ ∃ y, σ = [some (.ref s), some (.int (n : Nat)), some (.int low), some (.ref A2.length), y, none, none])
    (fun k σ B hk ⟨DB, ⟨x, M, hX⟩, y, hσ⟩ => ?_) (fun σ B ⟨DB, ⟨x, M, hX⟩, y, hσ⟩ => ?_) ⟨D3, ⟨fun _ => 0, fun _ _ => 0, hR, fun _ h => absurd h (Nat.not_lt_zero _), fun _ _ h => absurd h (Nat.not_lt_zero _), fun _ _ h => absurd h (Nat.not_lt_zero _)⟩, none, rfl⟩
  · subst hσ
    have sB := DB.src.lt
    simp only [sat_ok, sat_bad, sat_bind, sat_ite, bind_ok, bind_bad, thn_nx, thn_rt, thn_bk, thn_ct, fin_rt, fin_nx, ev_v, ev_c, ev_op, ev_un, ev_nil, ev_cons, ev_tup, ev_lst, ev_call, ev_own, ev_sl, ev_no, ev_part, ev_and, ev_or, ev_not, ev_if, ev_t, ev_tb, ev_tnot, ev_tand, ev_tor, ev_mt, ev_mt0, ev_rgd, ev_set, ev_asg, ev_ret, ev_retN, ev_ex, ev_pass, ev_brk, ev_cont, ev_ifS, ev_aug, ev_gn, ev_gtp, ev_gnl, ev_gcs, ev_gsb, ev_for, ev_rg1, ev_rg2, ev_its, ev_enum, ev_lc, ev_yes, ev_add_ii, ev_add_ss, ev_add_tt, ev_add_rr, ev_sub, ev_mul, ev_mod, ev_fdiv, ev_pow, ev_neg, ev_lt, ev_le, ev_gt, ev_ge, ev_eq_ii, ev_eq_ss, ev_eq_bb, ev_ne_ii, ev_ne_ss, ev_ne_bb, ev_is_n, ev_isnt_n, ev_int_i, ev_int_b, ev_min_ii, ev_max_ii, ev_abs, ev_tup_of, ev_tup_ofL, ev_lst_ofT, ev_lst_ofL, ev_len_t, ev_len_s, ev_len_r, ev_tru_b, ev_alloc, ev_tupD, ev_lstD, isi_tuple_non, isi_tuple_bl, isi_tuple_int, isi_tuple_str, isi_tuple_tup, isi_tuple_l, isi_tuple_f, isi_list_non, isi_list_bl, isi_list_int, isi_list_str, isi_list_tup, isi_list_l, isi_list_f, isi_bool_non, isi_bool_bl, isi_bool_int, isi_bool_str, isi_bool_tup, isi_bool_l, isi_bool_f, isi_int_non, isi_int_bl, isi_int_int, isi_int_str, isi_int_tup, isi_int_l, isi_int_f, isi_str_non, isi_str_bl, isi_str_int, isi_str_str, isi_str_tup, isi_str_l, isi_str_f, isi_dict_non, isi_dict_bl, isi_dict_int, isi_dict_str, isi_dict_tup, isi_dict_l, isi_dict_f, Ab.isNon, args, List.map, List.length_cons, List.length_nil, List.length_singleton, List.replicate, Nat.reduceSub, Nat.reduceAdd, Nat.zero_add, List.cons_append, List.nil_append, List.getElem?_cons_zero, List.getElem?_cons_succ, List.set_cons_zero, List.set_cons_succ, Option.some.injEq, decide_eq_true_eq, Bool.not_eq_true', decide_eq_false_iff_not, ite_true, ite_false, if_true, if_false, reduceIte, Bool.false_eq_true, Bool.not_true, Bool.not_false, Bool.true_eq_false, decide_true, decide_false, Nat.reduceLeDiff, Nat.reduceLT, ty_l hX.at_, wipeA]
    rw [if_pos (inRg_of (by omega) (by omega)), show ((n : Int) + 1).toNat = n + 1 by omega]
    refine comp_range (fun j acc C => Dr s B C ∧ ∃ f : Nat → Int, acc = (List.range j).map (fun j => D.int (f j)) ∧ (∀ i, i < j → -3 ≤ f i ∧ f i ≤ 5) ∧ C[B.length]? = some (.lst acc)) (fun j acc C hj ⟨DC, f, ha, hf, hC⟩ => ?_) (fun acc C ⟨DC, f, ha, hf, hC⟩ => ?_) (acc := []) ⟨Dr.app DB.src _, fun _ => 0, rfl, fun _ h => absurd h (Nat.not_lt_zero _), at_new⟩
    · simp only [sat_ok, sat_bad, sat_bind, sat_ite, bind_ok, bind_bad, thn_nx, thn_rt, thn_bk, thn_ct, fin_rt, fin_nx, ev_v, ev_c, ev_op, ev_un, ev_nil, ev_cons, ev_tup, ev_lst, ev_call, ev_own, ev_sl, ev_no, ev_part, ev_and, ev_or, ev_not, ev_if, ev_t, ev_tb, ev_tnot, ev_tand, ev_tor, ev_mt, ev_mt0, ev_rgd, ev_set, ev_asg, ev_ret, ev_retN, ev_ex, ev_pass, ev_brk, ev_cont, ev_ifS, ev_aug, ev_gn, ev_gtp, ev_gnl, ev_gcs, ev_gsb, ev_for, ev_rg1, ev_rg2, ev_its, ev_enum, ev_lc, ev_yes, ev_add_ii, ev_add_ss, ev_add_tt, ev_add_rr, ev_sub, ev_mul, ev_mod, ev_fdiv, ev_pow, ev_neg, ev_lt, ev_le, ev_gt, ev_ge, ev_eq_ii, ev_eq_ss, ev_eq_bb, ev_ne_ii, ev_ne_ss, ev_ne_bb, ev_is_n, ev_isnt_n, ev_int_i, ev_int_b, ev_min_ii, ev_max_ii, ev_abs, ev_tup_of, ev_tup_ofL, ev_lst_ofT, ev_lst_ofL, ev_len_t, ev_len_s, ev_len_r, ev_tru_b, ev_alloc, ev_tupD, ev_lstD, isi_tuple_non, isi_tuple_bl, isi_tuple_int, isi_tuple_str, isi_tuple_tup, isi_tuple_l, isi_tuple_f, isi_list_non, isi_list_bl, isi_list_int, isi_list_str, isi_list_tup, isi_list_l, isi_list_f, isi_bool_non, isi_bool_bl, isi_bool_int, isi_bool_str, isi_bool_tup, isi_bool_l, isi_bool_f, isi_int_non, isi_int_bl, isi_int_int, isi_int_str, isi_int_tup, isi_int_l, isi_int_f, isi_str_non, isi_str_bl, isi_str_int, isi_str_str, isi_str_tup, isi_str_l, isi_str_f, isi_dict_non, isi_dict_bl, isi_dict_int, isi_dict_str, isi_dict_tup, isi_dict_l, isi_dict_f, Ab.isNon, args, List.map, List.length_cons, List.length_nil, List.length_singleton, List.replicate, Nat.reduceSub, Nat.reduceAdd, Nat.zero_add, List.cons_append, List.nil_append, List.getElem?_cons_zero, List.getElem?_cons_succ, List.set_cons_zero, List.set_cons_succ, Option.some.injEq, decide_eq_true_eq, Bool.not_eq_true', decide_eq_false_iff_not, ite_true, ite_false, if_true, if_false, reduceIte, Bool.false_eq_true, Bool.not_true, Bool.not_false, Bool.true_eq_false, decide_true, decide_false, Nat.reduceLeDiff, Nat.reduceLT]
      refine Sat.imp (pick_pos DC.src (n := 6) (by decide) (by decide)) fun d C2 ⟨⟨w, e, w0, w1⟩, dr⟩ => ?_
      subst e
      have hC := dr.keep _ _ (by omega) hC
      simp only [sat_ok, sat_bad, sat_bind, sat_ite, bind_ok, bind_bad, thn_nx, thn_rt, thn_bk, thn_ct, fin_rt, fin_nx, ev_v, ev_c, ev_op, ev_un, ev_nil, ev_cons, ev_tup, ev_lst, ev_call, ev_own, ev_sl, ev_no, ev_part, ev_and, ev_or, ev_not, ev_if, ev_t, ev_tb, ev_tnot, ev_tand, ev_tor, ev_mt, ev_mt0, ev_rgd, ev_set, ev_asg, ev_ret, ev_retN, ev_ex, ev_pass, ev_brk, ev_cont, ev_ifS, ev_aug, ev_gn, ev_gtp, ev_gnl, ev_gcs, ev_gsb, ev_for, ev_rg1, ev_rg2, ev_its, ev_enum, ev_lc, ev_yes, ev_add_ii, ev_add_ss, ev_add_tt, ev_add_rr, ev_sub, ev_mul, ev_mod, ev_fdiv, ev_pow, ev_neg, ev_lt, ev_le, ev_gt, ev_ge, ev_eq_ii, ev_eq_ss, ev_eq_bb, ev_ne_ii, ev_ne_ss, ev_ne_bb, ev_is_n, ev_isnt_n, ev_int_i, ev_int_b, ev_min_ii, ev_max_ii, ev_abs, ev_tup_of, ev_tup_ofL, ev_lst_ofT, ev_lst_ofL, ev_len_t, ev_len_s, ev_len_r, ev_tru_b, ev_alloc, ev_tupD, ev_lstD, isi_tuple_non, isi_tuple_bl, isi_tuple_int, isi_tuple_str, isi_tuple_tup, isi_tuple_l, isi_tuple_f, isi_list_non, isi_list_bl, isi_list_int, isi_list_str, isi_list_tup, isi_list_l, isi_list_f, isi_bool_non, isi_bool_bl, isi_bool_int, isi_bool_str, isi_bool_tup, isi_bool_l, isi_bool_f, isi_int_non, isi_int_bl, isi_int_int, isi_int_str, isi_int_tup, isi_int_l, isi_int_f, isi_str_non, isi_str_bl, isi_str_int, isi_str_str, isi_str_tup, isi_str_l, isi_str_f, isi_dict_non, isi_dict_bl, isi_dict_int, isi_dict_str, isi_dict_tup, isi_dict_l, isi_dict_f, Ab.isNon, args, List.map, List.length_cons, List.length_nil, List.length_singleton, List.replicate, Nat.reduceSub, Nat.reduceAdd, Nat.zero_add, List.cons_append, List.nil_append, List.getElem?_cons_zero, List.getElem?_cons_succ, List.set_cons_zero, List.set_cons_succ, Option.some.injEq, decide_eq_true_eq, Bool.not_eq_true', decide_eq_false_iff_not, ite_true, ite_false, if_true, if_false, reduceIte, Bool.false_eq_true, Bool.not_true, Bool.not_false, Bool.true_eq_false, decide_true, decide_false, Nat.reduceLeDiff, Nat.reduceLT]
      refine ⟨hC, by rw [ha]; simp; omega, (DC.trans dr).setN (Nat.le_refl _) DB.src, fun i => if i = j then w - low else f i, ?_, fun i hi => ?_, at_set (at_lt hC)⟩
      · rw [ha, List.range_succ (n := j), List.map_append]
        congr 1
        · exact List.map_congr_left fun i hi => by
            show D.int (f i) = D.int (if i = j then w - low else f i)
            rw [if_neg (by have := List.mem_range.mp hi; omega)]
        · simp
      · by_cases c : i = j
        · simp only [if_pos c]; omega
        · simp only [if_neg c]; exact hf i (by omega)
    · subst ha
      obtain ⟨C2, e1, e2, hX2⟩ := rows_step hX DC (by omega) (by omega) (Nat.le_refl _) hC hf
      simp only [sat_ok, sat_bad, sat_bind, sat_ite, bind_ok, bind_bad, thn_nx, thn_rt, thn_bk, thn_ct, fin_rt, fin_nx, ev_v, ev_c, ev_op, ev_un, ev_nil, ev_cons, ev_tup, ev_lst, ev_call, ev_own, ev_sl, ev_no, ev_part, ev_and, ev_or, ev_not, ev_if, ev_t, ev_tb, ev_tnot, ev_tand, ev_tor, ev_mt, ev_mt0, ev_rgd, ev_set, ev_asg, ev_ret, ev_retN, ev_ex, ev_pass, ev_brk, ev_cont, ev_ifS, ev_aug, ev_gn, ev_gtp, ev_gnl, ev_gcs, ev_gsb, ev_for, ev_rg1, ev_rg2, ev_its, ev_enum, ev_lc, ev_yes, ev_add_ii, ev_add_ss, ev_add_tt, ev_add_rr, ev_sub, ev_mul, ev_mod, ev_fdiv, ev_pow, ev_neg, ev_lt, ev_le, ev_gt, ev_ge, ev_eq_ii, ev_eq_ss, ev_eq_bb, ev_ne_ii, ev_ne_ss, ev_ne_bb, ev_is_n, ev_isnt_n, ev_int_i, ev_int_b, ev_min_ii, ev_max_ii, ev_abs, ev_tup_of, ev_tup_ofL, ev_lst_ofT, ev_lst_ofL, ev_len_t, ev_len_s, ev_len_r, ev_tru_b, ev_alloc, ev_tupD, ev_lstD, isi_tuple_non, isi_tuple_bl, isi_tuple_int, isi_tuple_str, isi_tuple_tup, isi_tuple_l, isi_tuple_f, isi_list_non, isi_list_bl, isi_list_int, isi_list_str, isi_list_tup, isi_list_l, isi_list_f, isi_bool_non, isi_bool_bl, isi_bool_int, isi_bool_str, isi_bool_tup, isi_bool_l, isi_bool_f, isi_int_non, isi_int_bl, isi_int_int, isi_int_str, isi_int_tup, isi_int_l, isi_int_f, isi_str_non, isi_str_bl, isi_str_int, isi_str_str, isi_str_tup, isi_str_l, isi_str_f, isi_dict_non, isi_dict_bl, isi_dict_int, isi_dict_str, isi_dict_tup, isi_dict_l, isi_dict_f, Ab.isNon, args, List.map, List.length_cons, List.length_nil, List.length_singleton, List.replicate, Nat.reduceSub, Nat.reduceAdd, Nat.zero_add, List.cons_append, List.nil_append, List.getElem?_cons_zero, List.getElem?_cons_succ, List.set_cons_zero, List.set_cons_succ, Option.some.injEq, decide_eq_true_eq, Bool.not_eq_true', decide_eq_false_iff_not, ite_true, ite_false, if_true, if_false, reduceIte, Bool.false_eq_true, Bool.not_true, Bool.not_false, Bool.true_eq_false, decide_true, decide_false, Nat.reduceLeDiff, Nat.reduceLT, e1, turn_]
      exact ⟨by rw [e2]; exact (DB.trans DC).setN lR hs, ⟨_, _, hX2⟩, _, rfl⟩
  · subst hσ
    simp only [sat_ok, sat_bad, sat_bind, sat_ite, bind_ok, bind_bad, thn_nx, thn_rt, thn_bk, thn_ct, fin_rt, fin_nx, ev_v, ev_c, ev_op, ev_un, ev_nil, ev_cons, ev_tup, ev_lst, ev_call, ev_own, ev_sl, ev_no, ev_part, ev_and, ev_or, ev_not, ev_if, ev_t, ev_tb, ev_tnot, ev_tand, ev_tor, ev_mt, ev_mt0, ev_rgd, ev_set, ev_asg, ev_ret, ev_retN, ev_ex, ev_pass, ev_brk, ev_cont, ev_ifS, ev_aug, ev_gn, ev_gtp, ev_gnl, ev_gcs, ev_gsb, ev_for, ev_rg1, ev_rg2, ev_its, ev_enum, ev_lc, ev_yes, ev_add_ii, ev_add_ss, ev_add_tt, ev_add_rr, ev_sub, ev_mul, ev_mod, ev_fdiv, ev_pow, ev_neg, ev_lt, ev_le, ev_gt, ev_ge, ev_eq_ii, ev_eq_ss, ev_eq_bb, ev_ne_ii, ev_ne_ss, ev_ne_bb, ev_is_n, ev_isnt_n, ev_int_i, ev_int_b, ev_min_ii, ev_max_ii, ev_abs, ev_tup_of, ev_tup_ofL, ev_lst_ofT, ev_lst_ofL, ev_len_t, ev_len_s, ev_len_r, ev_tru_b, ev_alloc, ev_tupD, ev_lstD, isi_tuple_non, isi_tuple_bl, isi_tuple_int, isi_tuple_str, isi_tuple_tup, isi_tuple_l, isi_tuple_f, isi_list_non, isi_list_bl, isi_list_int, isi_list_str, isi_list_tup, isi_list_l, isi_list_f, isi_bool_non, isi_bool_bl, isi_bool_int, isi_bool_str, isi_bool_tup, isi_bool_l, isi_bool_f, isi_int_non, isi_int_bl, isi_int_int, isi_int_str, isi_int_tup, isi_int_l, isi_int_f, isi_str_non, isi_str_bl, isi_str_int, isi_str_str, isi_str_tup, isi_str_l, isi_str_f, isi_dict_non, isi_dict_bl, isi_dict_int, isi_dict_str, isi_dict_tup, isi_dict_l, isi_dict_f, Ab.isNon, args, List.map, List.length_cons, List.length_nil, List.length_singleton, List.replicate, Nat.reduceSub, Nat.reduceAdd, Nat.zero_add, List.cons_append, List.nil_append, List.getElem?_cons_zero, List.getElem?_cons_succ, List.set_cons_zero, List.set_cons_succ, Option.some.injEq, decide_eq_true_eq, Bool.not_eq_true', decide_eq_false_iff_not, ite_true, ite_false, if_true, if_false, reduceIte, Bool.false_eq_true, Bool.not_true, Bool.not_false, Bool.true_eq_false, decide_true, decide_false, Nat.reduceLeDiff, Nat.reduceLT]
    refine sat_seq ?_
    simp only [sat_ok, sat_bad, sat_bind, sat_ite, bind_ok, bind_bad, thn_nx, thn_rt, thn_bk, thn_ct, fin_rt, fin_nx, ev_v, ev_c, ev_op, ev_un, ev_nil, ev_cons, ev_tup, ev_lst, ev_call, ev_own, ev_sl, ev_no, ev_part, ev_and, ev_or, ev_not, ev_if, ev_t, ev_tb, ev_tnot, ev_tand, ev_tor, ev_mt, ev_mt0, ev_rgd, ev_set, ev_asg, ev_ret, ev_retN, ev_ex, ev_pass, ev_brk, ev_cont, ev_ifS, ev_aug, ev_gn, ev_gtp, ev_gnl, ev_gcs, ev_gsb, ev_for, ev_rg1, ev_rg2, ev_its, ev_enum, ev_lc, ev_yes, ev_add_ii, ev_add_ss, ev_add_tt, ev_add_rr, ev_sub, ev_mul, ev_mod, ev_fdiv, ev_pow, ev_neg, ev_lt, ev_le, ev_gt, ev_ge, ev_eq_ii, ev_eq_ss, ev_eq_bb, ev_ne_ii, ev_ne_ss, ev_ne_bb, ev_is_n, ev_isnt_n, ev_int_i, ev_int_b, ev_min_ii, ev_max_ii, ev_abs, ev_tup_of, ev_tup_ofL, ev_lst_ofT, ev_lst_ofL, ev_len_t, ev_len_s, ev_len_r, ev_tru_b, ev_alloc, ev_tupD, ev_lstD, isi_tuple_non, isi_tuple_bl, isi_tuple_int, isi_tuple_str, isi_tuple_tup, isi_tuple_l, isi_tuple_f, isi_list_non, isi_list_bl, isi_list_int, isi_list_str, isi_list_tup, isi_list_l, isi_list_f, isi_bool_non, isi_bool_bl, isi_bool_int, isi_bool_str, isi_bool_tup, isi_bool_l, isi_bool_f, isi_int_non, isi_int_bl, isi_int_int, isi_int_str, isi_int_tup, isi_int_l, isi_int_f, isi_str_non, isi_str_bl, isi_str_int, isi_str_str, isi_str_tup, isi_str_l, isi_str_f, isi_dict_non, isi_dict_bl, isi_dict_int, isi_dict_str, isi_dict_tup, isi_dict_l, isi_dict_f, Ab.isNon, args, List.map, List.length_cons, List.length_nil, List.length_singleton, List.replicate, Nat.reduceSub, Nat.reduceAdd, Nat.zero_add, List.cons_append, List.nil_append, List.getElem?_cons_zero, List.getElem?_cons_succ, List.set_cons_zero, List.set_cons_succ, Option.some.injEq, decide_eq_true_eq, Bool.not_eq_true', decide_eq_false_iff_not, ite_true, ite_false, if_true, if_false, reduceIte, Bool.false_eq_true, Bool.not_true, Bool.not_false, Bool.true_eq_false, decide_true, decide_false, Nat.reduceLeDiff, Nat.reduceLT]
    have T := rows_new x hX.at_ hX.row hX.inj
    refine Sat.imp (diag_spec hs DB T lR (fun i hi => by have := (hX.row i hi).1; omega) (by omega) (by omega)) fun d B1 ⟨D4, M', e, hM⟩ => ?_
    subst e
    have sm : Sm (n + 1) M' := ⟨by omega, by omega, fun i j hi hj e => by rw [hM i j e]; exact (hX.ok i j hi hj).1, fun i j hi hj e => by rw [hM i j e]; exact (hX.ok i j hi hj).2⟩
    refine Sat.imp (points_spec sm) fun d B2 ⟨G, r, ps, e, hr, pl, hp⟩ => ?_
    subst e
    have pts : Pts n ps := ⟨by omega, by omega, fun p hp' => by
      rcases hp with ⟨_, e⟩ | ⟨_, h⟩
      · rw [e] at hp'; cases hp'
      · exact ((h p).mp hp').1⟩
    refine Sat.imp (hull_spec pts hr) fun d B3 ⟨e, G2⟩ => ?_
    subst e
    refine ⟨D4.trans (((G.trans G2).trans .app).dr D4.src), _, rfl, n + 1, M', if ps = [] then none else some (mx ps), by omega, by omega, by rw [hull_out]; exact at_new, ?_⟩
    rcases hp with ⟨h1, e⟩ | ⟨h1, h2⟩
    · rw [if_pos e]; exact .inl h1
    · exact hull_closes (by omega) h1 h2
theorem wide_spec {A : AH} {s : Nat} (hs : Sr s A) : Sat (m__law_wide [.ref s] A) fun d A' => Dr s A A' ∧ ∃ r, d = .ref r ∧ Pair A' r := by
  have sl := hs.lt
  refine sat_body rfl (sat_seq ?_)
  simp only [sat_ok, sat_bad, sat_bind, sat_ite, bind_ok, bind_bad, thn_nx, thn_rt, thn_bk, thn_ct, fin_rt, fin_nx, ev_v, ev_c, ev_op, ev_un, ev_nil, ev_cons, ev_tup, ev_lst, ev_call, ev_own, ev_sl, ev_no, ev_part, ev_and, ev_or, ev_not, ev_if, ev_t, ev_tb, ev_tnot, ev_tand, ev_tor, ev_mt, ev_mt0, ev_rgd, ev_set, ev_asg, ev_ret, ev_retN, ev_ex, ev_pass, ev_brk, ev_cont, ev_ifS, ev_aug, ev_gn, ev_gtp, ev_gnl, ev_gcs, ev_gsb, ev_for, ev_rg1, ev_rg2, ev_its, ev_enum, ev_lc, ev_yes, ev_add_ii, ev_add_ss, ev_add_tt, ev_add_rr, ev_sub, ev_mul, ev_mod, ev_fdiv, ev_pow, ev_neg, ev_lt, ev_le, ev_gt, ev_ge, ev_eq_ii, ev_eq_ss, ev_eq_bb, ev_ne_ii, ev_ne_ss, ev_ne_bb, ev_is_n, ev_isnt_n, ev_int_i, ev_int_b, ev_min_ii, ev_max_ii, ev_abs, ev_tup_of, ev_tup_ofL, ev_lst_ofT, ev_lst_ofL, ev_len_t, ev_len_s, ev_len_r, ev_tru_b, ev_alloc, ev_tupD, ev_lstD, isi_tuple_non, isi_tuple_bl, isi_tuple_int, isi_tuple_str, isi_tuple_tup, isi_tuple_l, isi_tuple_f, isi_list_non, isi_list_bl, isi_list_int, isi_list_str, isi_list_tup, isi_list_l, isi_list_f, isi_bool_non, isi_bool_bl, isi_bool_int, isi_bool_str, isi_bool_tup, isi_bool_l, isi_bool_f, isi_int_non, isi_int_bl, isi_int_int, isi_int_str, isi_int_tup, isi_int_l, isi_int_f, isi_str_non, isi_str_bl, isi_str_int, isi_str_str, isi_str_tup, isi_str_l, isi_str_f, isi_dict_non, isi_dict_bl, isi_dict_int, isi_dict_str, isi_dict_tup, isi_dict_l, isi_dict_f, Ab.isNon, args, List.map, List.length_cons, List.length_nil, List.length_singleton, List.replicate, Nat.reduceSub, Nat.reduceAdd, Nat.zero_add, List.cons_append, List.nil_append, List.getElem?_cons_zero, List.getElem?_cons_succ, List.set_cons_zero, List.set_cons_succ, Option.some.injEq, decide_eq_true_eq, Bool.not_eq_true', decide_eq_false_iff_not, ite_true, ite_false, if_true, if_false, reduceIte, Bool.false_eq_true, Bool.not_true, Bool.not_false, Bool.true_eq_false, decide_true, decide_false, Nat.reduceLeDiff, Nat.reduceLT]
  refine Sat.imp (pick_pos hs (n := 7) (by decide) (by decide)) fun d A1 ⟨⟨v, e, v0, v1⟩, D1⟩ => ?_
  subst e
  obtain ⟨n, rfl⟩ : ∃ n : Nat, v = (n : Nat) := ⟨v.toNat, by omega⟩
  have sl1 := D1.src.lt
  refine sat_seq ?_
  simp only [sat_ok, sat_bad, sat_bind, sat_ite, bind_ok, bind_bad, thn_nx, thn_rt, thn_bk, thn_ct, fin_rt, fin_nx, ev_v, ev_c, ev_op, ev_un, ev_nil, ev_cons, ev_tup, ev_lst, ev_call, ev_own, ev_sl, ev_no, ev_part, ev_and, ev_or, ev_not, ev_if, ev_t, ev_tb, ev_tnot, ev_tand, ev_tor, ev_mt, ev_mt0, ev_rgd, ev_set, ev_asg, ev_ret, ev_retN, ev_ex, ev_pass, ev_brk, ev_cont, ev_ifS, ev_aug, ev_gn, ev_gtp, ev_gnl, ev_gcs, ev_gsb, ev_for, ev_rg1, ev_rg2, ev_its, ev_enum, ev_lc, ev_yes, ev_add_ii, ev_add_ss, ev_add_tt, ev_add_rr, ev_sub, ev_mul, ev_mod, ev_fdiv, ev_pow, ev_neg, ev_lt, ev_le, ev_gt, ev_ge, ev_eq_ii, ev_eq_ss, ev_eq_bb, ev_ne_ii, ev_ne_ss, ev_ne_bb, ev_is_n, ev_isnt_n, ev_int_i, ev_int_b, ev_min_ii, ev_max_ii, ev_abs, ev_tup_of, ev_tup_ofL, ev_lst_ofT, ev_lst_ofL, ev_len_t, ev_len_s, ev_len_r, ev_tru_b, ev_alloc, ev_tupD, ev_lstD, isi_tuple_non, isi_tuple_bl, isi_tuple_int, isi_tuple_str, isi_tuple_tup, isi_tuple_l, isi_tuple_f, isi_list_non, isi_list_bl, isi_list_int, isi_list_str, isi_list_tup, isi_list_l, isi_list_f, isi_bool_non, isi_bool_bl, isi_bool_int, isi_bool_str, isi_bool_tup, isi_bool_l, isi_bool_f, isi_int_non, isi_int_bl, isi_int_int, isi_int_str, isi_int_tup, isi_int_l, isi_int_f, isi_str_non, isi_str_bl, isi_str_int, isi_str_str, isi_str_tup, isi_str_l, isi_str_f, isi_dict_non, isi_dict_bl, isi_dict_int, isi_dict_str, isi_dict_tup, isi_dict_l, isi_dict_f, Ab.isNon, args, List.map, List.length_cons, List.length_nil, List.length_singleton, List.replicate, Nat.reduceSub, Nat.reduceAdd, Nat.zero_add, List.cons_append, List.nil_append, List.getElem?_cons_zero, List.getElem?_cons_succ, List.set_cons_zero, List.set_cons_succ, Option.some.injEq, decide_eq_true_eq, Bool.not_eq_true', decide_eq_false_iff_not, ite_true, ite_false, if_true, if_false, reduceIte, Bool.false_eq_true, Bool.not_true, Bool.not_false, Bool.true_eq_false, decide_true, decide_false, Nat.reduceLeDiff, Nat.reduceLT, wipeA]
  rw [if_pos (inRg_of (by omega) (by omega)), show ((n : Int) + 1).toNat = n + 1 by omega]
  refine comp_range (fun j acc C => Dr s A C ∧ ∃ f : Nat → Int, acc = (List.range j).map (fun j => D.int (f j)) ∧ C[A1.length]? = some (.lst acc)) (fun j acc C hj ⟨DC, f, ha, hC⟩ => ?_) (fun acc C ⟨DC, f, ha, hC⟩ => ?_) (acc := []) ⟨D1.trans (Dr.app D1.src _), fun _ => 0, rfl, at_new⟩
  · simp only [sat_ok, sat_bad, sat_bind, sat_ite, bind_ok, bind_bad, thn_nx, thn_rt, thn_bk, thn_ct, fin_rt, fin_nx, ev_v, ev_c, ev_op, ev_un, ev_nil, ev_cons, ev_tup, ev_lst, ev_call, ev_own, ev_sl, ev_no, ev_part, ev_and, ev_or, ev_not, ev_if, ev_t, ev_tb, ev_tnot, ev_tand, ev_tor, ev_mt, ev_mt0, ev_rgd, ev_set, ev_asg, ev_ret, ev_retN, ev_ex, ev_pass, ev_brk, ev_cont, ev_ifS, ev_aug, ev_gn, ev_gtp, ev_gnl, ev_gcs, ev_gsb, ev_for, ev_rg1, ev_rg2, ev_its, ev_enum, ev_lc, ev_yes, ev_add_ii, ev_add_ss, ev_add_tt, ev_add_rr, ev_sub, ev_mul, ev_mod, ev_fdiv, ev_pow, ev_neg, ev_lt, ev_le, ev_gt, ev_ge, ev_eq_ii, ev_eq_ss, ev_eq_bb, ev_ne_ii, ev_ne_ss, ev_ne_bb, ev_is_n, ev_isnt_n, ev_int_i, ev_int_b, ev_min_ii, ev_max_ii, ev_abs, ev_tup_of, ev_tup_ofL, ev_lst_ofT, ev_lst_ofL, ev_len_t, ev_len_s, ev_len_r, ev_tru_b, ev_alloc, ev_tupD, ev_lstD, isi_tuple_non, isi_tuple_bl, isi_tuple_int, isi_tuple_str, isi_tuple_tup, isi_tuple_l, isi_tuple_f, isi_list_non, isi_list_bl, isi_list_int, isi_list_str, isi_list_tup, isi_list_l, isi_list_f, isi_bool_non, isi_bool_bl, isi_bool_int, isi_bool_str, isi_bool_tup, isi_bool_l, isi_bool_f, isi_int_non, isi_int_bl, isi_int_int, isi_int_str, isi_int_tup, isi_int_l, isi_int_f, isi_str_non, isi_str_bl, isi_str_int, isi_str_str, isi_str_tup, isi_str_l, isi_str_f, isi_dict_non, isi_dict_bl, isi_dict_int, isi_dict_str, isi_dict_tup, isi_dict_l, isi_dict_f, Ab.isNon, args, List.map, List.length_cons, List.length_nil, List.length_singleton, List.replicate, Nat.reduceSub, Nat.reduceAdd, Nat.zero_add, List.cons_append, List.nil_append, List.getElem?_cons_zero, List.getElem?_cons_succ, List.set_cons_zero, List.set_cons_succ, Option.some.injEq, decide_eq_true_eq, Bool.not_eq_true', decide_eq_false_iff_not, ite_true, ite_false, if_true, if_false, reduceIte, Bool.false_eq_true, Bool.not_true, Bool.not_false, Bool.true_eq_false, decide_true, decide_false, Nat.reduceLeDiff, Nat.reduceLT]
    refine Sat.imp (znumber_spec DC.src) fun d C2 ⟨⟨w, e⟩, dr⟩ => ?_
    subst e
    have hC := dr.keep _ _ (by omega) hC
    refine ⟨hC, by rw [ha]; simp; omega, (DC.trans dr).setN D1.le hs, fun i => if i = j then w else f i, ?_, at_set (at_lt hC)⟩
    rw [ha, List.range_succ (n := j), List.map_append]
    congr 1
    · exact List.map_congr_left fun i hi => by
        show D.int (f i) = D.int (if i = j then w else f i)
        rw [if_neg (by have := List.mem_range.mp hi; omega)]
    · simp
  subst ha
  have V : A1.length ≠ s := by omega
  refine sat_seq ?_
  have e8 : CPow 10 8 := powOk (by decide) (by decide) (by decide)
  have e0 : (10 : Int) ^ (8 : Int).toNat = 100000000 := by decide
  simp only [sat_ok, sat_bad, sat_bind, sat_ite, bind_ok, bind_bad, thn_nx, thn_rt, thn_bk, thn_ct, fin_rt, fin_nx, ev_v, ev_c, ev_op, ev_un, ev_nil, ev_cons, ev_tup, ev_lst, ev_call, ev_own, ev_sl, ev_no, ev_part, ev_and, ev_or, ev_not, ev_if, ev_t, ev_tb, ev_tnot, ev_tand, ev_tor, ev_mt, ev_mt0, ev_rgd, ev_set, ev_asg, ev_ret, ev_retN, ev_ex, ev_pass, ev_brk, ev_cont, ev_ifS, ev_aug, ev_gn, ev_gtp, ev_gnl, ev_gcs, ev_gsb, ev_for, ev_rg1, ev_rg2, ev_its, ev_enum, ev_lc, ev_yes, ev_add_ii, ev_add_ss, ev_add_tt, ev_add_rr, ev_sub, ev_mul, ev_mod, ev_fdiv, ev_pow, ev_neg, ev_lt, ev_le, ev_gt, ev_ge, ev_eq_ii, ev_eq_ss, ev_eq_bb, ev_ne_ii, ev_ne_ss, ev_ne_bb, ev_is_n, ev_isnt_n, ev_int_i, ev_int_b, ev_min_ii, ev_max_ii, ev_abs, ev_tup_of, ev_tup_ofL, ev_lst_ofT, ev_lst_ofL, ev_len_t, ev_len_s, ev_len_r, ev_tru_b, ev_alloc, ev_tupD, ev_lstD, isi_tuple_non, isi_tuple_bl, isi_tuple_int, isi_tuple_str, isi_tuple_tup, isi_tuple_l, isi_tuple_f, isi_list_non, isi_list_bl, isi_list_int, isi_list_str, isi_list_tup, isi_list_l, isi_list_f, isi_bool_non, isi_bool_bl, isi_bool_int, isi_bool_str, isi_bool_tup, isi_bool_l, isi_bool_f, isi_int_non, isi_int_bl, isi_int_int, isi_int_str, isi_int_tup, isi_int_l, isi_int_f, isi_str_non, isi_str_bl, isi_str_int, isi_str_str, isi_str_tup, isi_str_l, isi_str_f, isi_dict_non, isi_dict_bl, isi_dict_int, isi_dict_str, isi_dict_tup, isi_dict_l, isi_dict_f, Ab.isNon, args, List.map, List.length_cons, List.length_nil, List.length_singleton, List.replicate, Nat.reduceSub, Nat.reduceAdd, Nat.zero_add, List.cons_append, List.nil_append, List.getElem?_cons_zero, List.getElem?_cons_succ, List.set_cons_zero, List.set_cons_succ, Option.some.injEq, decide_eq_true_eq, Bool.not_eq_true', decide_eq_false_iff_not, ite_true, ite_false, if_true, if_false, reduceIte, Bool.false_eq_true, Bool.not_true, Bool.not_false, Bool.true_eq_false, decide_true, decide_false, Nat.reduceLeDiff, Nat.reduceLT, e8, e0]
  have sC := DC.src.lt
  have hU := at_new (A := C) (o := .lst [.int 1, .int 1000, .int (100000000 + 7)])
  have hC := (Gr.app (B := [.lst [.int 1, .int 1000, .int (100000000 + 7)]])).keep _ _ hC
  have DC := DC.trans (Dr.app DC.src [.lst [.int 1, .int 1000, .int (100000000 + 7)]])
  refine Sat.imp (pick_pos DC.src (n := 3) (by decide) (by decide)) fun d A2 ⟨⟨w, e, w0, w1⟩, dr⟩ => ?_
  subst e
  have hU := dr.keep _ _ (by omega) hU
  have hC := dr.keep _ _ V hC
  have D2 := DC.trans dr
  obtain ⟨u, hu, ub⟩ : ∃ u : Int, ixD (.ref C.length) (.int w) A2 = .ok (.int u) A2 ∧ mulOk 0 u ∧ ∀ a, mulOk a u := by
    have : w = 0 ∨ w = 1 ∨ w = 2 := by omega
    rcases this with rfl | rfl | rfl <;> exact ⟨_, ev_ix_r (rdL_l hU) (by rw [atI_pos (by decide)]; rfl), mulOk_r (by decide) (by decide), fun a => mulOk_r (by decide) (by decide)⟩
  simp only [sat_ok, sat_bad, sat_bind, sat_ite, bind_ok, bind_bad, thn_nx, thn_rt, thn_bk, thn_ct, fin_rt, fin_nx, ev_v, ev_c, ev_op, ev_un, ev_nil, ev_cons, ev_tup, ev_lst, ev_call, ev_own, ev_sl, ev_no, ev_part, ev_and, ev_or, ev_not, ev_if, ev_t, ev_tb, ev_tnot, ev_tand, ev_tor, ev_mt, ev_mt0, ev_rgd, ev_set, ev_asg, ev_ret, ev_retN, ev_ex, ev_pass, ev_brk, ev_cont, ev_ifS, ev_aug, ev_gn, ev_gtp, ev_gnl, ev_gcs, ev_gsb, ev_for, ev_rg1, ev_rg2, ev_its, ev_enum, ev_lc, ev_yes, ev_add_ii, ev_add_ss, ev_add_tt, ev_add_rr, ev_sub, ev_mul, ev_mod, ev_fdiv, ev_pow, ev_neg, ev_lt, ev_le, ev_gt, ev_ge, ev_eq_ii, ev_eq_ss, ev_eq_bb, ev_ne_ii, ev_ne_ss, ev_ne_bb, ev_is_n, ev_isnt_n, ev_int_i, ev_int_b, ev_min_ii, ev_max_ii, ev_abs, ev_tup_of, ev_tup_ofL, ev_lst_ofT, ev_lst_ofL, ev_len_t, ev_len_s, ev_len_r, ev_tru_b, ev_alloc, ev_tupD, ev_lstD, isi_tuple_non, isi_tuple_bl, isi_tuple_int, isi_tuple_str, isi_tuple_tup, isi_tuple_l, isi_tuple_f, isi_list_non, isi_list_bl, isi_list_int, isi_list_str, isi_list_tup, isi_list_l, isi_list_f, isi_bool_non, isi_bool_bl, isi_bool_int, isi_bool_str, isi_bool_tup, isi_bool_l, isi_bool_f, isi_int_non, isi_int_bl, isi_int_int, isi_int_str, isi_int_tup, isi_int_l, isi_int_f, isi_str_non, isi_str_bl, isi_str_int, isi_str_str, isi_str_tup, isi_str_l, isi_str_f, isi_dict_non, isi_dict_bl, isi_dict_int, isi_dict_str, isi_dict_tup, isi_dict_l, isi_dict_f, Ab.isNon, args, List.map, List.length_cons, List.length_nil, List.length_singleton, List.replicate, Nat.reduceSub, Nat.reduceAdd, Nat.zero_add, List.cons_append, List.nil_append, List.getElem?_cons_zero, List.getElem?_cons_succ, List.set_cons_zero, List.set_cons_succ, Option.some.injEq, decide_eq_true_eq, Bool.not_eq_true', decide_eq_false_iff_not, ite_true, ite_false, if_true, if_false, reduceIte, Bool.false_eq_true, Bool.not_true, Bool.not_false, Bool.true_eq_false, decide_true, decide_false, Nat.reduceLeDiff, Nat.reduceLT, hu]
  refine sat_seq ?_
  simp only [sat_ok, sat_bad, sat_bind, sat_ite, bind_ok, bind_bad, thn_nx, thn_rt, thn_bk, thn_ct, fin_rt, fin_nx, ev_v, ev_c, ev_op, ev_un, ev_nil, ev_cons, ev_tup, ev_lst, ev_call, ev_own, ev_sl, ev_no, ev_part, ev_and, ev_or, ev_not, ev_if, ev_t, ev_tb, ev_tnot, ev_tand, ev_tor, ev_mt, ev_mt0, ev_rgd, ev_set, ev_asg, ev_ret, ev_retN, ev_ex, ev_pass, ev_brk, ev_cont, ev_ifS, ev_aug, ev_gn, ev_gtp, ev_gnl, ev_gcs, ev_gsb, ev_for, ev_rg1, ev_rg2, ev_its, ev_enum, ev_lc, ev_yes, ev_add_ii, ev_add_ss, ev_add_tt, ev_add_rr, ev_sub, ev_mul, ev_mod, ev_fdiv, ev_pow, ev_neg, ev_lt, ev_le, ev_gt, ev_ge, ev_eq_ii, ev_eq_ss, ev_eq_bb, ev_ne_ii, ev_ne_ss, ev_ne_bb, ev_is_n, ev_isnt_n, ev_int_i, ev_int_b, ev_min_ii, ev_max_ii, ev_abs, ev_tup_of, ev_tup_ofL, ev_lst_ofT, ev_lst_ofL, ev_len_t, ev_len_s, ev_len_r, ev_tru_b, ev_alloc, ev_tupD, ev_lstD, isi_tuple_non, isi_tuple_bl, isi_tuple_int, isi_tuple_str, isi_tuple_tup, isi_tuple_l, isi_tuple_f, isi_list_non, isi_list_bl, isi_list_int, isi_list_str, isi_list_tup, isi_list_l, isi_list_f, isi_bool_non, isi_bool_bl, isi_bool_int, isi_bool_str, isi_bool_tup, isi_bool_l, isi_bool_f, isi_int_non, isi_int_bl, isi_int_int, isi_int_str, isi_int_tup, isi_int_l, isi_int_f, isi_str_non, isi_str_bl, isi_str_int, isi_str_str, isi_str_tup, isi_str_l, isi_str_f, isi_dict_non, isi_dict_bl, isi_dict_int, isi_dict_str, isi_dict_tup, isi_dict_l, isi_dict_f, Ab.isNon, args, List.map, List.length_cons, List.length_nil, List.length_singleton, List.replicate, Nat.reduceSub, Nat.reduceAdd, Nat.zero_add, List.cons_append, List.nil_append, List.getElem?_cons_zero, List.getElem?_cons_succ, List.set_cons_zero, List.set_cons_succ, Option.some.injEq, decide_eq_true_eq, Bool.not_eq_true', decide_eq_false_iff_not, ite_true, ite_false, if_true, if_false, reduceIte, Bool.false_eq_true, Bool.not_true, Bool.not_false, Bool.true_eq_false, decide_true, decide_false, Nat.reduceLeDiff, Nat.reduceLT]
  refine Sat.imp (pick_pos D2.src (n := 3) (by decide) (by decide)) fun d A3 ⟨⟨low, e, l0, l1⟩, dr⟩ => ?_
  subst e
  have hC := dr.keep _ _ V hC
  have D3 := D2.trans dr
  refine sat_seq ?_
  simp only [sat_ok, sat_bad, sat_bind, sat_ite, bind_ok, bind_bad, thn_nx, thn_rt, thn_bk, thn_ct, fin_rt, fin_nx, ev_v, ev_c, ev_op, ev_un, ev_nil, ev_cons, ev_tup, ev_lst, ev_call, ev_own, ev_sl, ev_no, ev_part, ev_and, ev_or, ev_not, ev_if, ev_t, ev_tb, ev_tnot, ev_tand, ev_tor, ev_mt, ev_mt0, ev_rgd, ev_set, ev_asg, ev_ret, ev_retN, ev_ex, ev_pass, ev_brk, ev_cont, ev_ifS, ev_aug, ev_gn, ev_gtp, ev_gnl, ev_gcs, ev_gsb, ev_for, ev_rg1, ev_rg2, ev_its, ev_enum, ev_lc, ev_yes, ev_add_ii, ev_add_ss, ev_add_tt, ev_add_rr, ev_sub, ev_mul, ev_mod, ev_fdiv, ev_pow, ev_neg, ev_lt, ev_le, ev_gt, ev_ge, ev_eq_ii, ev_eq_ss, ev_eq_bb, ev_ne_ii, ev_ne_ss, ev_ne_bb, ev_is_n, ev_isnt_n, ev_int_i, ev_int_b, ev_min_ii, ev_max_ii, ev_abs, ev_tup_of, ev_tup_ofL, ev_lst_ofT, ev_lst_ofL, ev_len_t, ev_len_s, ev_len_r, ev_tru_b, ev_alloc, ev_tupD, ev_lstD, isi_tuple_non, isi_tuple_bl, isi_tuple_int, isi_tuple_str, isi_tuple_tup, isi_tuple_l, isi_tuple_f, isi_list_non, isi_list_bl, isi_list_int, isi_list_str, isi_list_tup, isi_list_l, isi_list_f, isi_bool_non, isi_bool_bl, isi_bool_int, isi_bool_str, isi_bool_tup, isi_bool_l, isi_bool_f, isi_int_non, isi_int_bl, isi_int_int, isi_int_str, isi_int_tup, isi_int_l, isi_int_f, isi_str_non, isi_str_bl, isi_str_int, isi_str_str, isi_str_tup, isi_str_l, isi_str_f, isi_dict_non, isi_dict_bl, isi_dict_int, isi_dict_str, isi_dict_tup, isi_dict_l, isi_dict_f, Ab.isNon, args, List.map, List.length_cons, List.length_nil, List.length_singleton, List.replicate, Nat.reduceSub, Nat.reduceAdd, Nat.zero_add, List.cons_append, List.nil_append, List.getElem?_cons_zero, List.getElem?_cons_succ, List.set_cons_zero, List.set_cons_succ, Option.some.injEq, decide_eq_true_eq, Bool.not_eq_true', decide_eq_false_iff_not, ite_true, ite_false, if_true, if_false, reduceIte, Bool.false_eq_true, Bool.not_true, Bool.not_false, Bool.true_eq_false, decide_true, decide_false, Nat.reduceLeDiff, Nat.reduceLT]
  refine sat_seq ?_
  have hR := at_new (A := A3) (o := .lst [])
  have lR := D3.le
  have hC := (Gr.app (B := [AO.lst []])).keep _ _ hC
  have D4 := D3.trans (Dr.app D3.src [AO.lst []])
  have vR : A1.length ≠ A3.length := by have := at_lt hC; have h3 := D3.le; intro e; rw [e] at hC; rw [hR] at hC; have hC := AO.lst.inj (Option.some.inj hC); have := congrArg List.length hC; simp at this
  simp only [sat_ok, sat_bad, sat_bind, sat_ite, bind_ok, bind_bad, thn_nx, thn_rt, thn_bk, thn_ct, fin_rt, fin_nx, ev_v, ev_c, ev_op, ev_un, ev_nil, ev_cons, ev_tup, ev_lst, ev_call, ev_own, ev_sl, ev_no, ev_part, ev_and, ev_or, ev_not, ev_if, ev_t, ev_tb, ev_tnot, ev_tand, ev_tor, ev_mt, ev_mt0, ev_rgd, ev_set, ev_asg, ev_ret, ev_retN, ev_ex, ev_pass, ev_brk, ev_cont, ev_ifS, ev_aug, ev_gn, ev_gtp, ev_gnl, ev_gcs, ev_gsb, ev_for, ev_rg1, ev_rg2, ev_its, ev_enum, ev_lc, ev_yes, ev_add_ii, ev_add_ss, ev_add_tt, ev_add_rr, ev_sub, ev_mul, ev_mod, ev_fdiv, ev_pow, ev_neg, ev_lt, ev_le, ev_gt, ev_ge, ev_eq_ii, ev_eq_ss, ev_eq_bb, ev_ne_ii, ev_ne_ss, ev_ne_bb, ev_is_n, ev_isnt_n, ev_int_i, ev_int_b, ev_min_ii, ev_max_ii, ev_abs, ev_tup_of, ev_tup_ofL, ev_lst_ofT, ev_lst_ofL, ev_len_t, ev_len_s, ev_len_r, ev_tru_b, ev_alloc, ev_tupD, ev_lstD, isi_tuple_non, isi_tuple_bl, isi_tuple_int, isi_tuple_str, isi_tuple_tup, isi_tuple_l, isi_tuple_f, isi_list_non, isi_list_bl, isi_list_int, isi_list_str, isi_list_tup, isi_list_l, isi_list_f, isi_bool_non, isi_bool_bl, isi_bool_int, isi_bool_str, isi_bool_tup, isi_bool_l, isi_bool_f, isi_int_non, isi_int_bl, isi_int_int, isi_int_str, isi_int_tup, isi_int_l, isi_int_f, isi_str_non, isi_str_bl, isi_str_int, isi_str_str, isi_str_tup, isi_str_l, isi_str_f, isi_dict_non, isi_dict_bl, isi_dict_int, isi_dict_str, isi_dict_tup, isi_dict_l, isi_dict_f, Ab.isNon, args, List.map, List.length_cons, List.length_nil, List.length_singleton, List.replicate, Nat.reduceSub, Nat.reduceAdd, Nat.zero_add, List.cons_append, List.nil_append, List.getElem?_cons_zero, List.getElem?_cons_succ, List.set_cons_zero, List.set_cons_succ, Option.some.injEq, decide_eq_true_eq, Bool.not_eq_true', decide_eq_false_iff_not, ite_true, ite_false, if_true, if_false, reduceIte, Bool.false_eq_true, Bool.not_true, Bool.not_false, Bool.true_eq_false, decide_true, decide_false, Nat.reduceLeDiff, Nat.reduceLT]
  rw [if_pos (inRg_of (by omega) (by omega)), show ((n : Int) + 1).toNat = n + 1 by omega]
  refine range_inv (fun k σ B => Dr s A B ∧ B[A1.length]? = some (.lst ((List.range (n + 1)).map fun j => D.int (f j))) ∧ (∃ x M, Rows (fun _ => True) B A3.length k (n + 1) x M) ∧ ∃ y z w, σ = [some (.ref s), some (.int (n : Nat)), some (.ref A1.length), none, some (.int u), some (.int low), some (.ref A3.length), y, z, w, none])
    (fun k σ B hk ⟨DB, hC, ⟨x, M, hX⟩, y, z, w, hσ⟩ => ?_) (fun σ B ⟨DB, hC, ⟨x, M, hX⟩, y, z, w, hσ⟩ => ?_) ⟨D4, hC, ⟨fun _ => 0, fun _ _ => 0, hR, fun _ h => absurd h (Nat.not_lt_zero _), fun _ _ h => absurd h (Nat.not_lt_zero _), fun _ _ h => absurd h (Nat.not_lt_zero _)⟩, none, none, none, rfl⟩
  · subst hσ
    have sB := DB.src.lt
    simp only [sat_ok, sat_bad, sat_bind, sat_ite, bind_ok, bind_bad, thn_nx, thn_rt, thn_bk, thn_ct, fin_rt, fin_nx, ev_v, ev_c, ev_op, ev_un, ev_nil, ev_cons, ev_tup, ev_lst, ev_call, ev_own, ev_sl, ev_no, ev_part, ev_and, ev_or, ev_not, ev_if, ev_t, ev_tb, ev_tnot, ev_tand, ev_tor, ev_mt, ev_mt0, ev_rgd, ev_set, ev_asg, ev_ret, ev_retN, ev_ex, ev_pass, ev_brk, ev_cont, ev_ifS, ev_aug, ev_gn, ev_gtp, ev_gnl, ev_gcs, ev_gsb, ev_for, ev_rg1, ev_rg2, ev_its, ev_enum, ev_lc, ev_yes, ev_add_ii, ev_add_ss, ev_add_tt, ev_add_rr, ev_sub, ev_mul, ev_mod, ev_fdiv, ev_pow, ev_neg, ev_lt, ev_le, ev_gt, ev_ge, ev_eq_ii, ev_eq_ss, ev_eq_bb, ev_ne_ii, ev_ne_ss, ev_ne_bb, ev_is_n, ev_isnt_n, ev_int_i, ev_int_b, ev_min_ii, ev_max_ii, ev_abs, ev_tup_of, ev_tup_ofL, ev_lst_ofT, ev_lst_ofL, ev_len_t, ev_len_s, ev_len_r, ev_tru_b, ev_alloc, ev_tupD, ev_lstD, isi_tuple_non, isi_tuple_bl, isi_tuple_int, isi_tuple_str, isi_tuple_tup, isi_tuple_l, isi_tuple_f, isi_list_non, isi_list_bl, isi_list_int, isi_list_str, isi_list_tup, isi_list_l, isi_list_f, isi_bool_non, isi_bool_bl, isi_bool_int, isi_bool_str, isi_bool_tup, isi_bool_l, isi_bool_f, isi_int_non, isi_int_bl, isi_int_int, isi_int_str, isi_int_tup, isi_int_l, isi_int_f, isi_str_non, isi_str_bl, isi_str_int, isi_str_str, isi_str_tup, isi_str_l, isi_str_f, isi_dict_non, isi_dict_bl, isi_dict_int, isi_dict_str, isi_dict_tup, isi_dict_l, isi_dict_f, Ab.isNon, args, List.map, List.length_cons, List.length_nil, List.length_singleton, List.replicate, Nat.reduceSub, Nat.reduceAdd, Nat.zero_add, List.cons_append, List.nil_append, List.getElem?_cons_zero, List.getElem?_cons_succ, List.set_cons_zero, List.set_cons_succ, Option.some.injEq, decide_eq_true_eq, Bool.not_eq_true', decide_eq_false_iff_not, ite_true, ite_false, if_true, if_false, reduceIte, Bool.false_eq_true, Bool.not_true, Bool.not_false, Bool.true_eq_false, decide_true, decide_false, Nat.reduceLeDiff, Nat.reduceLT, Int.zero_add]
    refine sat_seq ?_
    simp only [sat_ok, sat_bad, sat_bind, sat_ite, bind_ok, bind_bad, thn_nx, thn_rt, thn_bk, thn_ct, fin_rt, fin_nx, ev_v, ev_c, ev_op, ev_un, ev_nil, ev_cons, ev_tup, ev_lst, ev_call, ev_own, ev_sl, ev_no, ev_part, ev_and, ev_or, ev_not, ev_if, ev_t, ev_tb, ev_tnot, ev_tand, ev_tor, ev_mt, ev_mt0, ev_rgd, ev_set, ev_asg, ev_ret, ev_retN, ev_ex, ev_pass, ev_brk, ev_cont, ev_ifS, ev_aug, ev_gn, ev_gtp, ev_gnl, ev_gcs, ev_gsb, ev_for, ev_rg1, ev_rg2, ev_its, ev_enum, ev_lc, ev_yes, ev_add_ii, ev_add_ss, ev_add_tt, ev_add_rr, ev_sub, ev_mul, ev_mod, ev_fdiv, ev_pow, ev_neg, ev_lt, ev_le, ev_gt, ev_ge, ev_eq_ii, ev_eq_ss, ev_eq_bb, ev_ne_ii, ev_ne_ss, ev_ne_bb, ev_is_n, ev_isnt_n, ev_int_i, ev_int_b, ev_min_ii, ev_max_ii, ev_abs, ev_tup_of, ev_tup_ofL, ev_lst_ofT, ev_lst_ofL, ev_len_t, ev_len_s, ev_len_r, ev_tru_b, ev_alloc, ev_tupD, ev_lstD, isi_tuple_non, isi_tuple_bl, isi_tuple_int, isi_tuple_str, isi_tuple_tup, isi_tuple_l, isi_tuple_f, isi_list_non, isi_list_bl, isi_list_int, isi_list_str, isi_list_tup, isi_list_l, isi_list_f, isi_bool_non, isi_bool_bl, isi_bool_int, isi_bool_str, isi_bool_tup, isi_bool_l, isi_bool_f, isi_int_non, isi_int_bl, isi_int_int, isi_int_str, isi_int_tup, isi_int_l, isi_int_f, isi_str_non, isi_str_bl, isi_str_int, isi_str_str, isi_str_tup, isi_str_l, isi_str_f, isi_dict_non, isi_dict_bl, isi_dict_int, isi_dict_str, isi_dict_tup, isi_dict_l, isi_dict_f, Ab.isNon, args, List.map, List.length_cons, List.length_nil, List.length_singleton, List.replicate, Nat.reduceSub, Nat.reduceAdd, Nat.zero_add, List.cons_append, List.nil_append, List.getElem?_cons_zero, List.getElem?_cons_succ, List.set_cons_zero, List.set_cons_succ, Option.some.injEq, decide_eq_true_eq, Bool.not_eq_true', decide_eq_false_iff_not, ite_true, ite_false, if_true, if_false, reduceIte, Bool.false_eq_true, Bool.not_true, Bool.not_false, Bool.true_eq_false, decide_true, decide_false, Nat.reduceLeDiff, Nat.reduceLT]
    refine sat_seq ?_
    have DQ := Dr.app DB.src [AO.lst []]
    have hQ := at_new (A := B) (o := .lst [])
    have hC := (Gr.app (B := [AO.lst []])).keep _ _ hC
    have vB : A1.length ≠ B.length := by have := at_lt hC; intro e; rw [e] at hC; rw [hQ] at hC; have hC := AO.lst.inj (Option.some.inj hC); have := congrArg List.length hC; simp at this
    simp only [sat_ok, sat_bad, sat_bind, sat_ite, bind_ok, bind_bad, thn_nx, thn_rt, thn_bk, thn_ct, fin_rt, fin_nx, ev_v, ev_c, ev_op, ev_un, ev_nil, ev_cons, ev_tup, ev_lst, ev_call, ev_own, ev_sl, ev_no, ev_part, ev_and, ev_or, ev_not, ev_if, ev_t, ev_tb, ev_tnot, ev_tand, ev_tor, ev_mt, ev_mt0, ev_rgd, ev_set, ev_asg, ev_ret, ev_retN, ev_ex, ev_pass, ev_brk, ev_cont, ev_ifS, ev_aug, ev_gn, ev_gtp, ev_gnl, ev_gcs, ev_gsb, ev_for, ev_rg1, ev_rg2, ev_its, ev_enum, ev_lc, ev_yes, ev_add_ii, ev_add_ss, ev_add_tt, ev_add_rr, ev_sub, ev_mul, ev_mod, ev_fdiv, ev_pow, ev_neg, ev_lt, ev_le, ev_gt, ev_ge, ev_eq_ii, ev_eq_ss, ev_eq_bb, ev_ne_ii, ev_ne_ss, ev_ne_bb, ev_is_n, ev_isnt_n, ev_int_i, ev_int_b, ev_min_ii, ev_max_ii, ev_abs, ev_tup_of, ev_tup_ofL, ev_lst_ofT, ev_lst_ofL, ev_len_t, ev_len_s, ev_len_r, ev_tru_b, ev_alloc, ev_tupD, ev_lstD, isi_tuple_non, isi_tuple_bl, isi_tuple_int, isi_tuple_str, isi_tuple_tup, isi_tuple_l, isi_tuple_f, isi_list_non, isi_list_bl, isi_list_int, isi_list_str, isi_list_tup, isi_list_l, isi_list_f, isi_bool_non, isi_bool_bl, isi_bool_int, isi_bool_str, isi_bool_tup, isi_bool_l, isi_bool_f, isi_int_non, isi_int_bl, isi_int_int, isi_int_str, isi_int_tup, isi_int_l, isi_int_f, isi_str_non, isi_str_bl, isi_str_int, isi_str_str, isi_str_tup, isi_str_l, isi_str_f, isi_dict_non, isi_dict_bl, isi_dict_int, isi_dict_str, isi_dict_tup, isi_dict_l, isi_dict_f, Ab.isNon, args, List.map, List.length_cons, List.length_nil, List.length_singleton, List.replicate, Nat.reduceSub, Nat.reduceAdd, Nat.zero_add, List.cons_append, List.nil_append, List.getElem?_cons_zero, List.getElem?_cons_succ, List.set_cons_zero, List.set_cons_succ, Option.some.injEq, decide_eq_true_eq, Bool.not_eq_true', decide_eq_false_iff_not, ite_true, ite_false, if_true, if_false, reduceIte, Bool.false_eq_true, Bool.not_true, Bool.not_false, Bool.true_eq_false, decide_true, decide_false, Nat.reduceLeDiff, Nat.reduceLT]
    rw [if_pos (inRg_of (by omega) (by omega)), show ((n : Int) + 1).toNat = n + 1 by omega]
    refine range_inv (fun j σ E => Dr s B E ∧ E[A1.length]? = some (.lst ((List.range (n + 1)).map fun j => D.int (f j))) ∧ (∃ g : Nat → Int, E[B.length]? = some (.lst ((List.range j).map fun i => D.int (g i)))) ∧ ∃ w, σ = [some (.ref s), some (.int (n : Nat)), some (.ref A1.length), none, some (.int u), some (.int low), some (.ref A3.length), some (.int (k : Nat)), some (.ref B.length), w, none])
      (fun j σ E hj ⟨DE, hC, ⟨g, hQ⟩, w, hσ⟩ => ?_) (fun σ E ⟨DE, hC, ⟨g, hQ⟩, w, hσ⟩ => ?_) ⟨DQ, hC, ⟨fun _ => 0, hQ⟩, w, rfl⟩
    · subst hσ
      have sE := DE.src.lt
      have f1 : ∀ {i : Nat} {A : AH}, A[A1.length]? = some (.lst ((List.range (n + 1)).map fun j => D.int (f j))) → i < n + 1 → ixD (.ref A1.length) (.int (i : Nat)) A = .ok (.int (f i)) A := fun h hi => ix_rowL h hi
      simp only [sat_ok, sat_bad, sat_bind, sat_ite, bind_ok, bind_bad, thn_nx, thn_rt, thn_bk, thn_ct, fin_rt, fin_nx, ev_v, ev_c, ev_op, ev_un, ev_nil, ev_cons, ev_tup, ev_lst, ev_call, ev_own, ev_sl, ev_no, ev_part, ev_and, ev_or, ev_not, ev_if, ev_t, ev_tb, ev_tnot, ev_tand, ev_tor, ev_mt, ev_mt0, ev_rgd, ev_set, ev_asg, ev_ret, ev_retN, ev_ex, ev_pass, ev_brk, ev_cont, ev_ifS, ev_aug, ev_gn, ev_gtp, ev_gnl, ev_gcs, ev_gsb, ev_for, ev_rg1, ev_rg2, ev_its, ev_enum, ev_lc, ev_yes, ev_add_ii, ev_add_ss, ev_add_tt, ev_add_rr, ev_sub, ev_mul, ev_mod, ev_fdiv, ev_pow, ev_neg, ev_lt, ev_le, ev_gt, ev_ge, ev_eq_ii, ev_eq_ss, ev_eq_bb, ev_ne_ii, ev_ne_ss, ev_ne_bb, ev_is_n, ev_isnt_n, ev_int_i, ev_int_b, ev_min_ii, ev_max_ii, ev_abs, ev_tup_of, ev_tup_ofL, ev_lst_ofT, ev_lst_ofL, ev_len_t, ev_len_s, ev_len_r, ev_tru_b, ev_alloc, ev_tupD, ev_lstD, isi_tuple_non, isi_tuple_bl, isi_tuple_int, isi_tuple_str, isi_tuple_tup, isi_tuple_l, isi_tuple_f, isi_list_non, isi_list_bl, isi_list_int, isi_list_str, isi_list_tup, isi_list_l, isi_list_f, isi_bool_non, isi_bool_bl, isi_bool_int, isi_bool_str, isi_bool_tup, isi_bool_l, isi_bool_f, isi_int_non, isi_int_bl, isi_int_int, isi_int_str, isi_int_tup, isi_int_l, isi_int_f, isi_str_non, isi_str_bl, isi_str_int, isi_str_str, isi_str_tup, isi_str_l, isi_str_f, isi_dict_non, isi_dict_bl, isi_dict_int, isi_dict_str, isi_dict_tup, isi_dict_l, isi_dict_f, Ab.isNon, args, List.map, List.length_cons, List.length_nil, List.length_singleton, List.replicate, Nat.reduceSub, Nat.reduceAdd, Nat.zero_add, List.cons_append, List.nil_append, List.getElem?_cons_zero, List.getElem?_cons_succ, List.set_cons_zero, List.set_cons_succ, Option.some.injEq, decide_eq_true_eq, Bool.not_eq_true', decide_eq_false_iff_not, ite_true, ite_false, if_true, if_false, reduceIte, Bool.false_eq_true, Bool.not_true, Bool.not_false, Bool.true_eq_false, decide_true, decide_false, Nat.reduceLeDiff, Nat.reduceLT, Int.zero_add, ty_l hQ, f1 hC hk, f1 hC hj]
      refine Sat.imp (pick_pos DE.src (n := 9) (by decide) (by decide)) fun d E1 ⟨⟨a, e, _, _⟩, dr⟩ => ?_
      subst e
      simp only [sat_ok, sat_bad, sat_bind, sat_ite, bind_ok, bind_bad, thn_nx, thn_rt, thn_bk, thn_ct, fin_rt, fin_nx, ev_v, ev_c, ev_op, ev_un, ev_nil, ev_cons, ev_tup, ev_lst, ev_call, ev_own, ev_sl, ev_no, ev_part, ev_and, ev_or, ev_not, ev_if, ev_t, ev_tb, ev_tnot, ev_tand, ev_tor, ev_mt, ev_mt0, ev_rgd, ev_set, ev_asg, ev_ret, ev_retN, ev_ex, ev_pass, ev_brk, ev_cont, ev_ifS, ev_aug, ev_gn, ev_gtp, ev_gnl, ev_gcs, ev_gsb, ev_for, ev_rg1, ev_rg2, ev_its, ev_enum, ev_lc, ev_yes, ev_add_ii, ev_add_ss, ev_add_tt, ev_add_rr, ev_sub, ev_mul, ev_mod, ev_fdiv, ev_pow, ev_neg, ev_lt, ev_le, ev_gt, ev_ge, ev_eq_ii, ev_eq_ss, ev_eq_bb, ev_ne_ii, ev_ne_ss, ev_ne_bb, ev_is_n, ev_isnt_n, ev_int_i, ev_int_b, ev_min_ii, ev_max_ii, ev_abs, ev_tup_of, ev_tup_ofL, ev_lst_ofT, ev_lst_ofL, ev_len_t, ev_len_s, ev_len_r, ev_tru_b, ev_alloc, ev_tupD, ev_lstD, isi_tuple_non, isi_tuple_bl, isi_tuple_int, isi_tuple_str, isi_tuple_tup, isi_tuple_l, isi_tuple_f, isi_list_non, isi_list_bl, isi_list_int, isi_list_str, isi_list_tup, isi_list_l, isi_list_f, isi_bool_non, isi_bool_bl, isi_bool_int, isi_bool_str, isi_bool_tup, isi_bool_l, isi_bool_f, isi_int_non, isi_int_bl, isi_int_int, isi_int_str, isi_int_tup, isi_int_l, isi_int_f, isi_str_non, isi_str_bl, isi_str_int, isi_str_str, isi_str_tup, isi_str_l, isi_str_f, isi_dict_non, isi_dict_bl, isi_dict_int, isi_dict_str, isi_dict_tup, isi_dict_l, isi_dict_f, Ab.isNon, args, List.map, List.length_cons, List.length_nil, List.length_singleton, List.replicate, Nat.reduceSub, Nat.reduceAdd, Nat.zero_add, List.cons_append, List.nil_append, List.getElem?_cons_zero, List.getElem?_cons_succ, List.set_cons_zero, List.set_cons_succ, Option.some.injEq, decide_eq_true_eq, Bool.not_eq_true', decide_eq_false_iff_not, ite_true, ite_false, if_true, if_false, reduceIte, Bool.false_eq_true, Bool.not_true, Bool.not_false, Bool.true_eq_false, decide_true, decide_false, Nat.reduceLeDiff, Nat.reduceLT, ub.2]
      refine Sat.imp (pick_pos dr.src (n := 3) (by decide) (by decide)) fun d E2 ⟨⟨b, e, _, _⟩, dr2⟩ => ?_
      subst e
      have dr := dr.trans dr2
      have hQ := dr.keep _ _ (by omega) hQ
      have hC := dr.keep _ _ V hC
      simp only [sat_ok, sat_bad, sat_bind, sat_ite, bind_ok, bind_bad, thn_nx, thn_rt, thn_bk, thn_ct, fin_rt, fin_nx, ev_v, ev_c, ev_op, ev_un, ev_nil, ev_cons, ev_tup, ev_lst, ev_call, ev_own, ev_sl, ev_no, ev_part, ev_and, ev_or, ev_not, ev_if, ev_t, ev_tb, ev_tnot, ev_tand, ev_tor, ev_mt, ev_mt0, ev_rgd, ev_set, ev_asg, ev_ret, ev_retN, ev_ex, ev_pass, ev_brk, ev_cont, ev_ifS, ev_aug, ev_gn, ev_gtp, ev_gnl, ev_gcs, ev_gsb, ev_for, ev_rg1, ev_rg2, ev_its, ev_enum, ev_lc, ev_yes, ev_add_ii, ev_add_ss, ev_add_tt, ev_add_rr, ev_sub, ev_mul, ev_mod, ev_fdiv, ev_pow, ev_neg, ev_lt, ev_le, ev_gt, ev_ge, ev_eq_ii, ev_eq_ss, ev_eq_bb, ev_ne_ii, ev_ne_ss, ev_ne_bb, ev_is_n, ev_isnt_n, ev_int_i, ev_int_b, ev_min_ii, ev_max_ii, ev_abs, ev_tup_of, ev_tup_ofL, ev_lst_ofT, ev_lst_ofL, ev_len_t, ev_len_s, ev_len_r, ev_tru_b, ev_alloc, ev_tupD, ev_lstD, isi_tuple_non, isi_tuple_bl, isi_tuple_int, isi_tuple_str, isi_tuple_tup, isi_tuple_l, isi_tuple_f, isi_list_non, isi_list_bl, isi_list_int, isi_list_str, isi_list_tup, isi_list_l, isi_list_f, isi_bool_non, isi_bool_bl, isi_bool_int, isi_bool_str, isi_bool_tup, isi_bool_l, isi_bool_f, isi_int_non, isi_int_bl, isi_int_int, isi_int_str, isi_int_tup, isi_int_l, isi_int_f, isi_str_non, isi_str_bl, isi_str_int, isi_str_str, isi_str_tup, isi_str_l, isi_str_f, isi_dict_non, isi_dict_bl, isi_dict_int, isi_dict_str, isi_dict_tup, isi_dict_l, isi_dict_f, Ab.isNon, args, List.map, List.length_cons, List.length_nil, List.length_singleton, List.replicate, Nat.reduceSub, Nat.reduceAdd, Nat.zero_add, List.cons_append, List.nil_append, List.getElem?_cons_zero, List.getElem?_cons_succ, List.set_cons_zero, List.set_cons_succ, Option.some.injEq, decide_eq_true_eq, Bool.not_eq_true', decide_eq_false_iff_not, ite_true, ite_false, if_true, if_false, reduceIte, Bool.false_eq_true, Bool.not_true, Bool.not_false, Bool.true_eq_false, decide_true, decide_false, Nat.reduceLeDiff, Nat.reduceLT]
      rw [ev_app hQ (by simp; omega)]
      simp only [sat_ok, sat_bad, sat_bind, sat_ite, bind_ok, bind_bad, thn_nx, thn_rt, thn_bk, thn_ct, fin_rt, fin_nx, ev_v, ev_c, ev_op, ev_un, ev_nil, ev_cons, ev_tup, ev_lst, ev_call, ev_own, ev_sl, ev_no, ev_part, ev_and, ev_or, ev_not, ev_if, ev_t, ev_tb, ev_tnot, ev_tand, ev_tor, ev_mt, ev_mt0, ev_rgd, ev_set, ev_asg, ev_ret, ev_retN, ev_ex, ev_pass, ev_brk, ev_cont, ev_ifS, ev_aug, ev_gn, ev_gtp, ev_gnl, ev_gcs, ev_gsb, ev_for, ev_rg1, ev_rg2, ev_its, ev_enum, ev_lc, ev_yes, ev_add_ii, ev_add_ss, ev_add_tt, ev_add_rr, ev_sub, ev_mul, ev_mod, ev_fdiv, ev_pow, ev_neg, ev_lt, ev_le, ev_gt, ev_ge, ev_eq_ii, ev_eq_ss, ev_eq_bb, ev_ne_ii, ev_ne_ss, ev_ne_bb, ev_is_n, ev_isnt_n, ev_int_i, ev_int_b, ev_min_ii, ev_max_ii, ev_abs, ev_tup_of, ev_tup_ofL, ev_lst_ofT, ev_lst_ofL, ev_len_t, ev_len_s, ev_len_r, ev_tru_b, ev_alloc, ev_tupD, ev_lstD, isi_tuple_non, isi_tuple_bl, isi_tuple_int, isi_tuple_str, isi_tuple_tup, isi_tuple_l, isi_tuple_f, isi_list_non, isi_list_bl, isi_list_int, isi_list_str, isi_list_tup, isi_list_l, isi_list_f, isi_bool_non, isi_bool_bl, isi_bool_int, isi_bool_str, isi_bool_tup, isi_bool_l, isi_bool_f, isi_int_non, isi_int_bl, isi_int_int, isi_int_str, isi_int_tup, isi_int_l, isi_int_f, isi_str_non, isi_str_bl, isi_str_int, isi_str_str, isi_str_tup, isi_str_l, isi_str_f, isi_dict_non, isi_dict_bl, isi_dict_int, isi_dict_str, isi_dict_tup, isi_dict_l, isi_dict_f, Ab.isNon, args, List.map, List.length_cons, List.length_nil, List.length_singleton, List.replicate, Nat.reduceSub, Nat.reduceAdd, Nat.zero_add, List.cons_append, List.nil_append, List.getElem?_cons_zero, List.getElem?_cons_succ, List.set_cons_zero, List.set_cons_succ, Option.some.injEq, decide_eq_true_eq, Bool.not_eq_true', decide_eq_false_iff_not, ite_true, ite_false, if_true, if_false, reduceIte, Bool.false_eq_true, Bool.not_true, Bool.not_false, Bool.true_eq_false, decide_true, decide_false, Nat.reduceLeDiff, Nat.reduceLT, turn_]
      refine ⟨(DE.trans dr).setN (Nat.le_refl _) DB.src, by rw [List.getElem?_set_ne (Ne.symm vB)]; exact hC, ⟨fun i => if i = j then f k - f j + (a - low) * u + b else g i, ?_⟩, _, rfl⟩
      rw [at_set (at_lt hQ), List.range_succ (n := j), List.map_append]
      congr 2
      congr 1
      · exact List.map_congr_left fun i hi => by
          show D.int (g i) = D.int (if i = j then _ else g i)
          rw [if_neg (by have := List.mem_range.mp hi; omega)]
      · simp
    · subst hσ
      have sE := DE.src.lt
      have hX1 := DE.keep _ _ (by omega) hX.at_
      simp only [sat_ok, sat_bad, sat_bind, sat_ite, bind_ok, bind_bad, thn_nx, thn_rt, thn_bk, thn_ct, fin_rt, fin_nx, ev_v, ev_c, ev_op, ev_un, ev_nil, ev_cons, ev_tup, ev_lst, ev_call, ev_own, ev_sl, ev_no, ev_part, ev_and, ev_or, ev_not, ev_if, ev_t, ev_tb, ev_tnot, ev_tand, ev_tor, ev_mt, ev_mt0, ev_rgd, ev_set, ev_asg, ev_ret, ev_retN, ev_ex, ev_pass, ev_brk, ev_cont, ev_ifS, ev_aug, ev_gn, ev_gtp, ev_gnl, ev_gcs, ev_gsb, ev_for, ev_rg1, ev_rg2, ev_its, ev_enum, ev_lc, ev_yes, ev_add_ii, ev_add_ss, ev_add_tt, ev_add_rr, ev_sub, ev_mul, ev_mod, ev_fdiv, ev_pow, ev_neg, ev_lt, ev_le, ev_gt, ev_ge, ev_eq_ii, ev_eq_ss, ev_eq_bb, ev_ne_ii, ev_ne_ss, ev_ne_bb, ev_is_n, ev_isnt_n, ev_int_i, ev_int_b, ev_min_ii, ev_max_ii, ev_abs, ev_tup_of, ev_tup_ofL, ev_lst_ofT, ev_lst_ofL, ev_len_t, ev_len_s, ev_len_r, ev_tru_b, ev_alloc, ev_tupD, ev_lstD, isi_tuple_non, isi_tuple_bl, isi_tuple_int, isi_tuple_str, isi_tuple_tup, isi_tuple_l, isi_tuple_f, isi_list_non, isi_list_bl, isi_list_int, isi_list_str, isi_list_tup, isi_list_l, isi_list_f, isi_bool_non, isi_bool_bl, isi_bool_int, isi_bool_str, isi_bool_tup, isi_bool_l, isi_bool_f, isi_int_non, isi_int_bl, isi_int_int, isi_int_str, isi_int_tup, isi_int_l, isi_int_f, isi_str_non, isi_str_bl, isi_str_int, isi_str_str, isi_str_tup, isi_str_l, isi_str_f, isi_dict_non, isi_dict_bl, isi_dict_int, isi_dict_str, isi_dict_tup, isi_dict_l, isi_dict_f, Ab.isNon, args, List.map, List.length_cons, List.length_nil, List.length_singleton, List.replicate, Nat.reduceSub, Nat.reduceAdd, Nat.zero_add, List.cons_append, List.nil_append, List.getElem?_cons_zero, List.getElem?_cons_succ, List.set_cons_zero, List.set_cons_succ, Option.some.injEq, decide_eq_true_eq, Bool.not_eq_true', decide_eq_false_iff_not, ite_true, ite_false, if_true, if_false, reduceIte, Bool.false_eq_true, Bool.not_true, Bool.not_false, Bool.true_eq_false, decide_true, decide_false, Nat.reduceLeDiff, Nat.reduceLT, ty_l hX1]
      obtain ⟨C2, e1, e2, hX2⟩ := rows_step hX DE (by omega) (by omega) (Nat.le_refl _) hQ (fun _ _ => trivial)
      simp only [sat_ok, sat_bad, sat_bind, sat_ite, bind_ok, bind_bad, thn_nx, thn_rt, thn_bk, thn_ct, fin_rt, fin_nx, ev_v, ev_c, ev_op, ev_un, ev_nil, ev_cons, ev_tup, ev_lst, ev_call, ev_own, ev_sl, ev_no, ev_part, ev_and, ev_or, ev_not, ev_if, ev_t, ev_tb, ev_tnot, ev_tand, ev_tor, ev_mt, ev_mt0, ev_rgd, ev_set, ev_asg, ev_ret, ev_retN, ev_ex, ev_pass, ev_brk, ev_cont, ev_ifS, ev_aug, ev_gn, ev_gtp, ev_gnl, ev_gcs, ev_gsb, ev_for, ev_rg1, ev_rg2, ev_its, ev_enum, ev_lc, ev_yes, ev_add_ii, ev_add_ss, ev_add_tt, ev_add_rr, ev_sub, ev_mul, ev_mod, ev_fdiv, ev_pow, ev_neg, ev_lt, ev_le, ev_gt, ev_ge, ev_eq_ii, ev_eq_ss, ev_eq_bb, ev_ne_ii, ev_ne_ss, ev_ne_bb, ev_is_n, ev_isnt_n, ev_int_i, ev_int_b, ev_min_ii, ev_max_ii, ev_abs, ev_tup_of, ev_tup_ofL, ev_lst_ofT, ev_lst_ofL, ev_len_t, ev_len_s, ev_len_r, ev_tru_b, ev_alloc, ev_tupD, ev_lstD, isi_tuple_non, isi_tuple_bl, isi_tuple_int, isi_tuple_str, isi_tuple_tup, isi_tuple_l, isi_tuple_f, isi_list_non, isi_list_bl, isi_list_int, isi_list_str, isi_list_tup, isi_list_l, isi_list_f, isi_bool_non, isi_bool_bl, isi_bool_int, isi_bool_str, isi_bool_tup, isi_bool_l, isi_bool_f, isi_int_non, isi_int_bl, isi_int_int, isi_int_str, isi_int_tup, isi_int_l, isi_int_f, isi_str_non, isi_str_bl, isi_str_int, isi_str_str, isi_str_tup, isi_str_l, isi_str_f, isi_dict_non, isi_dict_bl, isi_dict_int, isi_dict_str, isi_dict_tup, isi_dict_l, isi_dict_f, Ab.isNon, args, List.map, List.length_cons, List.length_nil, List.length_singleton, List.replicate, Nat.reduceSub, Nat.reduceAdd, Nat.zero_add, List.cons_append, List.nil_append, List.getElem?_cons_zero, List.getElem?_cons_succ, List.set_cons_zero, List.set_cons_succ, Option.some.injEq, decide_eq_true_eq, Bool.not_eq_true', decide_eq_false_iff_not, ite_true, ite_false, if_true, if_false, reduceIte, Bool.false_eq_true, Bool.not_true, Bool.not_false, Bool.true_eq_false, decide_true, decide_false, Nat.reduceLeDiff, Nat.reduceLT, e1, turn_]
      exact ⟨by rw [e2]; exact (DB.trans DE).setN lR hs, by rw [e2, List.getElem?_set_ne (Ne.symm vR)]; exact hC, ⟨_, _, hX2⟩, _, _, _, rfl⟩
  · subst hσ
    simp only [sat_ok, sat_bad, sat_bind, sat_ite, bind_ok, bind_bad, thn_nx, thn_rt, thn_bk, thn_ct, fin_rt, fin_nx, ev_v, ev_c, ev_op, ev_un, ev_nil, ev_cons, ev_tup, ev_lst, ev_call, ev_own, ev_sl, ev_no, ev_part, ev_and, ev_or, ev_not, ev_if, ev_t, ev_tb, ev_tnot, ev_tand, ev_tor, ev_mt, ev_mt0, ev_rgd, ev_set, ev_asg, ev_ret, ev_retN, ev_ex, ev_pass, ev_brk, ev_cont, ev_ifS, ev_aug, ev_gn, ev_gtp, ev_gnl, ev_gcs, ev_gsb, ev_for, ev_rg1, ev_rg2, ev_its, ev_enum, ev_lc, ev_yes, ev_add_ii, ev_add_ss, ev_add_tt, ev_add_rr, ev_sub, ev_mul, ev_mod, ev_fdiv, ev_pow, ev_neg, ev_lt, ev_le, ev_gt, ev_ge, ev_eq_ii, ev_eq_ss, ev_eq_bb, ev_ne_ii, ev_ne_ss, ev_ne_bb, ev_is_n, ev_isnt_n, ev_int_i, ev_int_b, ev_min_ii, ev_max_ii, ev_abs, ev_tup_of, ev_tup_ofL, ev_lst_ofT, ev_lst_ofL, ev_len_t, ev_len_s, ev_len_r, ev_tru_b, ev_alloc, ev_tupD, ev_lstD, isi_tuple_non, isi_tuple_bl, isi_tuple_int, isi_tuple_str, isi_tuple_tup, isi_tuple_l, isi_tuple_f, isi_list_non, isi_list_bl, isi_list_int, isi_list_str, isi_list_tup, isi_list_l, isi_list_f, isi_bool_non, isi_bool_bl, isi_bool_int, isi_bool_str, isi_bool_tup, isi_bool_l, isi_bool_f, isi_int_non, isi_int_bl, isi_int_int, isi_int_str, isi_int_tup, isi_int_l, isi_int_f, isi_str_non, isi_str_bl, isi_str_int, isi_str_str, isi_str_tup, isi_str_l, isi_str_f, isi_dict_non, isi_dict_bl, isi_dict_int, isi_dict_str, isi_dict_tup, isi_dict_l, isi_dict_f, Ab.isNon, args, List.map, List.length_cons, List.length_nil, List.length_singleton, List.replicate, Nat.reduceSub, Nat.reduceAdd, Nat.zero_add, List.cons_append, List.nil_append, List.getElem?_cons_zero, List.getElem?_cons_succ, List.set_cons_zero, List.set_cons_succ, Option.some.injEq, decide_eq_true_eq, Bool.not_eq_true', decide_eq_false_iff_not, ite_true, ite_false, if_true, if_false, reduceIte, Bool.false_eq_true, Bool.not_true, Bool.not_false, Bool.true_eq_false, decide_true, decide_false, Nat.reduceLeDiff, Nat.reduceLT]
    refine sat_seq ?_
    simp only [sat_ok, sat_bad, sat_bind, sat_ite, bind_ok, bind_bad, thn_nx, thn_rt, thn_bk, thn_ct, fin_rt, fin_nx, ev_v, ev_c, ev_op, ev_un, ev_nil, ev_cons, ev_tup, ev_lst, ev_call, ev_own, ev_sl, ev_no, ev_part, ev_and, ev_or, ev_not, ev_if, ev_t, ev_tb, ev_tnot, ev_tand, ev_tor, ev_mt, ev_mt0, ev_rgd, ev_set, ev_asg, ev_ret, ev_retN, ev_ex, ev_pass, ev_brk, ev_cont, ev_ifS, ev_aug, ev_gn, ev_gtp, ev_gnl, ev_gcs, ev_gsb, ev_for, ev_rg1, ev_rg2, ev_its, ev_enum, ev_lc, ev_yes, ev_add_ii, ev_add_ss, ev_add_tt, ev_add_rr, ev_sub, ev_mul, ev_mod, ev_fdiv, ev_pow, ev_neg, ev_lt, ev_le, ev_gt, ev_ge, ev_eq_ii, ev_eq_ss, ev_eq_bb, ev_ne_ii, ev_ne_ss, ev_ne_bb, ev_is_n, ev_isnt_n, ev_int_i, ev_int_b, ev_min_ii, ev_max_ii, ev_abs, ev_tup_of, ev_tup_ofL, ev_lst_ofT, ev_lst_ofL, ev_len_t, ev_len_s, ev_len_r, ev_tru_b, ev_alloc, ev_tupD, ev_lstD, isi_tuple_non, isi_tuple_bl, isi_tuple_int, isi_tuple_str, isi_tuple_tup, isi_tuple_l, isi_tuple_f, isi_list_non, isi_list_bl, isi_list_int, isi_list_str, isi_list_tup, isi_list_l, isi_list_f, isi_bool_non, isi_bool_bl, isi_bool_int, isi_bool_str, isi_bool_tup, isi_bool_l, isi_bool_f, isi_int_non, isi_int_bl, isi_int_int, isi_int_str, isi_int_tup, isi_int_l, isi_int_f, isi_str_non, isi_str_bl, isi_str_int, isi_str_str, isi_str_tup, isi_str_l, isi_str_f, isi_dict_non, isi_dict_bl, isi_dict_int, isi_dict_str, isi_dict_tup, isi_dict_l, isi_dict_f, Ab.isNon, args, List.map, List.length_cons, List.length_nil, List.length_singleton, List.replicate, Nat.reduceSub, Nat.reduceAdd, Nat.zero_add, List.cons_append, List.nil_append, List.getElem?_cons_zero, List.getElem?_cons_succ, List.set_cons_zero, List.set_cons_succ, Option.some.injEq, decide_eq_true_eq, Bool.not_eq_true', decide_eq_false_iff_not, ite_true, ite_false, if_true, if_false, reduceIte, Bool.false_eq_true, Bool.not_true, Bool.not_false, Bool.true_eq_false, decide_true, decide_false, Nat.reduceLeDiff, Nat.reduceLT]
    have T := rows_new x hX.at_ hX.row hX.inj
    refine Sat.imp (diag_spec hs DB T lR (fun i hi => by have := (hX.row i hi).1; omega) (by omega) (by omega)) fun d B1 ⟨D4, M', e, hM⟩ => ?_
    subst e
    refine Sat.imp (closed_spec (by omega) (by omega)) fun d B2 ⟨G, o, e, ho⟩ => ?_
    subst e
    exact ⟨D4.trans ((G.trans .app).dr D4.src), _, rfl, n + 1, M', o, by omega, by omega, at_new, ho⟩
/-! ### the ring -/
def natL (m : Nat) (f : Nat → Nat) : List D := (List.range m).map fun k => .int ((f k : Nat) : Int)
def intL (m : Nat) (f : Nat → Int) : List D := (List.range m).map fun k => .int (f k)
theorem natL_ix {A : AH} {r m i : Nat} {f : Nat → Nat} (h : A[r]? = some (.lst (natL m f))) (hi : i < m) : ixD (.ref r) (.int (i : Nat)) A = .ok (.int ((f i : Nat) : Int)) A := ix_rowL (f := fun k => ((f k : Nat) : Int)) h hi
theorem intL_ix {A : AH} {r m i : Nat} {f : Nat → Int} (h : A[r]? = some (.lst (intL m f))) (hi : i < m) : ixD (.ref r) (.int (i : Nat)) A = .ok (.int (f i)) A := ix_rowL h hi
theorem natL_set {m j v : Nat} {f : Nat → Nat} : (natL m f).set j (.int (v : Nat)) = natL m fun k => if k = j then v else f k := by
  have := range_set (m := m) (j := j) (f := fun k => ((f k : Nat) : Int)) (v := (v : Nat))
  unfold natL
  rw [this]
  exact List.map_congr_left fun k _ => by by_cases e : k = j <;> simp [e]
theorem intL_snoc {m : Nat} {f : Nat → Int} {v : Int} : intL m f ++ [.int v] = intL (m + 1) fun k => if k = m then v else f k := by
  unfold intL
  rw [List.range_succ, List.map_append]
  congr 1
  · exact List.map_congr_left fun i hi => by
      show D.int (f i) = D.int (if i = m then v else f i)
      rw [if_neg (by have := List.mem_range.mp hi; omega)]
  · simp
theorem ls_natL (os : List Nat) : os.map (fun k => D.int (k : Nat)) = natL os.length fun k => os.getD k 0 := by
  unfold natL
  apply List.ext_getElem (by simp)
  intro i h1 h2
  simp only [List.getElem_map, List.getElem_range]
  rw [List.getD_eq_getElem?_getD, List.getElem?_eq_getElem (by simpa using h1)]; rfl
theorem erase_map {α β : Type} (f : α → β) : ∀ (xs : List α) (i : Nat), (xs.map f).eraseIdx i = (xs.eraseIdx i).map f
  | [], i => rfl
  | x :: xs, 0 => rfl
  | x :: xs, i + 1 => congrArg (f x :: ·) (erase_map f xs i)
theorem perm_erase {α : Type} : ∀ (xs : List α) (i : Nat) (h : i < xs.length), (xs[i] :: xs.eraseIdx i).Perm xs
  | x :: xs, 0, _ => .refl _
  | x :: xs, i + 1, h => by
    have h' : i < xs.length := by simpa using h
    exact (List.Perm.swap x xs[i] (xs.eraseIdx i)).trans ((perm_erase xs i h').cons x)
/-- a drawn order of 0 .. m - 1 -/
theorem order_spec {A0 A : AH} {s m L O : Nat} {P : Fl → AH → Prop} {st : ASt} (hs : Sr s A0) (D0 : Dr s A0 A) (hL : A[L]? = some (.lst ((List.range m).map fun k => D.int (k : Nat)))) (hO : A[O]? = some (.lst [])) (nL : A0.length ≤ L) (nO : A0.length ≤ O) (LO : L ≠ O) (hm : m ≤ 100)
    (s0 : st[0]? = some (some (.ref s))) (s3 : st[3]? = some (some (.ref L))) (s4 : st[4]? = some (some (.ref O))) (s5 : 5 < st.length)
    (fin : ∀ B x, Dr s A0 B → (∃ os : List Nat, os.Perm (List.range m) ∧ B[O]? = some (.lst (os.map fun k => D.int (k : Nat)))) → P (.nx (st.set 5 x)) B) :
    Sat (loopD yes (gN 5) (fEx (fMt "list" appendD (fV 4) (fCons (fMt "list" popAtD (fV 3) (fCons (fOwn 2 m__law_pick (fCons (fV 0) (fCons (fCall lenD (fCons (fV 3) (fNil))) (fNil)))) (fNil))) (fNil)))) (rngL 0 m) st A) P := by
  have sl := hs.lt
  refine range_inv (fun k σ B => Dr s A0 B ∧ (∃ x, σ = st.set 5 x) ∧ ∃ os ls : List Nat, (os ++ ls).Perm (List.range m) ∧ os.length = k ∧ B[L]? = some (.lst (ls.map fun k => D.int (k : Nat))) ∧ B[O]? = some (.lst (os.map fun k => D.int (k : Nat))))
    (fun k σ B hk ⟨DB, ⟨x, hσ⟩, os, ls, pm, ol, hL, hO⟩ => ?_) (fun σ B ⟨DB, ⟨x, hσ⟩, os, ls, pm, ol, hL, hO⟩ => ?_) ⟨D0, ⟨st[5]'s5 |> id, by simp⟩, [], List.range m, by simp, rfl, hL, hO⟩
  · subst hσ
    have e0 : ((st.set 5 x).set 5 (some (.int (0 + (k : Nat)))))[0]? = some (some (.ref s)) := by rw [List.set_set, List.getElem?_set_ne (by omega)]; exact s0
    have e3 : ((st.set 5 x).set 5 (some (.int (0 + (k : Nat)))))[3]? = some (some (.ref L)) := by rw [List.set_set, List.getElem?_set_ne (by omega)]; exact s3
    have e4 : ((st.set 5 x).set 5 (some (.int (0 + (k : Nat)))))[4]? = some (some (.ref O)) := by rw [List.set_set, List.getElem?_set_ne (by omega)]; exact s4
    have ll := pm.length_eq
    rw [List.length_append, List.length_range] at ll
    have ln : lenD [.ref L] B = .ok (.int (ls.length : Nat)) B := (ev_len_r (rdL_l hL)).trans (by rw [List.length_map])
    simp only [sat_ok, sat_bad, sat_bind, sat_ite, bind_ok, bind_bad, thn_nx, thn_rt, thn_bk, thn_ct, fin_rt, fin_nx, ev_v, ev_c, ev_op, ev_un, ev_nil, ev_cons, ev_tup, ev_lst, ev_call, ev_own, ev_sl, ev_no, ev_part, ev_and, ev_or, ev_not, ev_if, ev_t, ev_tb, ev_tnot, ev_tand, ev_tor, ev_mt, ev_mt0, ev_rgd, ev_set, ev_asg, ev_ret, ev_retN, ev_ex, ev_pass, ev_brk, ev_cont, ev_ifS, ev_aug, ev_gn, ev_gtp, ev_gnl, ev_gcs, ev_gsb, ev_for, ev_rg1, ev_rg2, ev_its, ev_enum, ev_lc, ev_yes, ev_add_ii, ev_add_ss, ev_add_tt, ev_add_rr, ev_sub, ev_mul, ev_mod, ev_fdiv, ev_pow, ev_neg, ev_lt, ev_le, ev_gt, ev_ge, ev_eq_ii, ev_eq_ss, ev_eq_bb, ev_ne_ii, ev_ne_ss, ev_ne_bb, ev_is_n, ev_isnt_n, ev_int_i, ev_int_b, ev_min_ii, ev_max_ii, ev_abs, ev_tup_of, ev_tup_ofL, ev_lst_ofT, ev_lst_ofL, ev_len_t, ev_len_s, ev_len_r, ev_tru_b, ev_alloc, ev_tupD, ev_lstD, isi_tuple_non, isi_tuple_bl, isi_tuple_int, isi_tuple_str, isi_tuple_tup, isi_tuple_l, isi_tuple_f, isi_list_non, isi_list_bl, isi_list_int, isi_list_str, isi_list_tup, isi_list_l, isi_list_f, isi_bool_non, isi_bool_bl, isi_bool_int, isi_bool_str, isi_bool_tup, isi_bool_l, isi_bool_f, isi_int_non, isi_int_bl, isi_int_int, isi_int_str, isi_int_tup, isi_int_l, isi_int_f, isi_str_non, isi_str_bl, isi_str_int, isi_str_str, isi_str_tup, isi_str_l, isi_str_f, isi_dict_non, isi_dict_bl, isi_dict_int, isi_dict_str, isi_dict_tup, isi_dict_l, isi_dict_f, Ab.isNon, args, List.map, List.length_cons, List.length_nil, List.length_singleton, List.replicate, Nat.reduceSub, Nat.reduceAdd, Nat.zero_add, List.cons_append, List.nil_append, List.getElem?_cons_zero, List.getElem?_cons_succ, List.set_cons_zero, List.set_cons_succ, Option.some.injEq, decide_eq_true_eq, Bool.not_eq_true', decide_eq_false_iff_not, ite_true, ite_false, if_true, if_false, reduceIte, Bool.false_eq_true, Bool.not_true, Bool.not_false, Bool.true_eq_false, decide_true, decide_false, Nat.reduceLeDiff, Nat.reduceLT, e0, e3, e4, ty_l hO, ty_l hL, ln]
    refine Sat.imp (pick_pos DB.src (n := (ls.length : Nat)) (by omega) (by omega)) fun d B2 ⟨⟨v, e, v0, v1⟩, dr⟩ => ?_
    subst e
    have hL := dr.keep _ _ (by omega) hL
    have hO := dr.keep _ _ (by omega) hO
    have DB := DB.trans dr
    have hv : v.toNat < ls.length := by omega
    have pop : popAtD (.ref L) [.int v] B2 = .ok (.int (ls[v.toNat] : Nat)) (B2.set L (.lst ((ls.eraseIdx v.toNat).map fun k => D.int (k : Nat)))) := by
      show (match B2[L]? with
        | some (.lst xs) => if 0 ≤ v ∧ v < 2 ^ 62 then (match xs[v.toNat]? with
          | some y => Res.ok y (B2.set L (.lst (xs.eraseIdx v.toNat)))
          | none => .bad) else .bad
        | _ => .bad) = _
      rw [hL]
      simp only []
      rw [if_pos ⟨v0, by omega⟩, List.getElem?_map, List.getElem?_eq_getElem hv]
      simp only [Option.map_some]
      rw [erase_map]
    simp only [sat_ok, sat_bad, sat_bind, sat_ite, bind_ok, bind_bad, thn_nx, thn_rt, thn_bk, thn_ct, fin_rt, fin_nx, ev_v, ev_c, ev_op, ev_un, ev_nil, ev_cons, ev_tup, ev_lst, ev_call, ev_own, ev_sl, ev_no, ev_part, ev_and, ev_or, ev_not, ev_if, ev_t, ev_tb, ev_tnot, ev_tand, ev_tor, ev_mt, ev_mt0, ev_rgd, ev_set, ev_asg, ev_ret, ev_retN, ev_ex, ev_pass, ev_brk, ev_cont, ev_ifS, ev_aug, ev_gn, ev_gtp, ev_gnl, ev_gcs, ev_gsb, ev_for, ev_rg1, ev_rg2, ev_its, ev_enum, ev_lc, ev_yes, ev_add_ii, ev_add_ss, ev_add_tt, ev_add_rr, ev_sub, ev_mul, ev_mod, ev_fdiv, ev_pow, ev_neg, ev_lt, ev_le, ev_gt, ev_ge, ev_eq_ii, ev_eq_ss, ev_eq_bb, ev_ne_ii, ev_ne_ss, ev_ne_bb, ev_is_n, ev_isnt_n, ev_int_i, ev_int_b, ev_min_ii, ev_max_ii, ev_abs, ev_tup_of, ev_tup_ofL, ev_lst_ofT, ev_lst_ofL, ev_len_t, ev_len_s, ev_len_r, ev_tru_b, ev_alloc, ev_tupD, ev_lstD, isi_tuple_non, isi_tuple_bl, isi_tuple_int, isi_tuple_str, isi_tuple_tup, isi_tuple_l, isi_tuple_f, isi_list_non, isi_list_bl, isi_list_int, isi_list_str, isi_list_tup, isi_list_l, isi_list_f, isi_bool_non, isi_bool_bl, isi_bool_int, isi_bool_str, isi_bool_tup, isi_bool_l, isi_bool_f, isi_int_non, isi_int_bl, isi_int_int, isi_int_str, isi_int_tup, isi_int_l, isi_int_f, isi_str_non, isi_str_bl, isi_str_int, isi_str_str, isi_str_tup, isi_str_l, isi_str_f, isi_dict_non, isi_dict_bl, isi_dict_int, isi_dict_str, isi_dict_tup, isi_dict_l, isi_dict_f, Ab.isNon, args, List.map, List.length_cons, List.length_nil, List.length_singleton, List.replicate, Nat.reduceSub, Nat.reduceAdd, Nat.zero_add, List.cons_append, List.nil_append, List.getElem?_cons_zero, List.getElem?_cons_succ, List.set_cons_zero, List.set_cons_succ, Option.some.injEq, decide_eq_true_eq, Bool.not_eq_true', decide_eq_false_iff_not, ite_true, ite_false, if_true, if_false, reduceIte, Bool.false_eq_true, Bool.not_true, Bool.not_false, Bool.true_eq_false, decide_true, decide_false, Nat.reduceLeDiff, Nat.reduceLT, pop]
    have hO2 : (B2.set L (.lst ((ls.eraseIdx v.toNat).map fun k => D.int (k : Nat))))[O]? = some (.lst (os.map fun k => D.int (k : Nat))) := by rw [List.getElem?_set_ne LO]; exact hO
    have hL2 := at_set (o := .lst ((ls.eraseIdx v.toNat).map fun k => D.int (k : Nat))) (at_lt hL)
    have DB := DB.setN (o := .lst ((ls.eraseIdx v.toNat).map fun k => D.int (k : Nat))) nL hs
    rw [ev_app hO2 (by simp; omega)]
    simp only [sat_ok, sat_bad, sat_bind, sat_ite, bind_ok, bind_bad, thn_nx, thn_rt, thn_bk, thn_ct, fin_rt, fin_nx, ev_v, ev_c, ev_op, ev_un, ev_nil, ev_cons, ev_tup, ev_lst, ev_call, ev_own, ev_sl, ev_no, ev_part, ev_and, ev_or, ev_not, ev_if, ev_t, ev_tb, ev_tnot, ev_tand, ev_tor, ev_mt, ev_mt0, ev_rgd, ev_set, ev_asg, ev_ret, ev_retN, ev_ex, ev_pass, ev_brk, ev_cont, ev_ifS, ev_aug, ev_gn, ev_gtp, ev_gnl, ev_gcs, ev_gsb, ev_for, ev_rg1, ev_rg2, ev_its, ev_enum, ev_lc, ev_yes, ev_add_ii, ev_add_ss, ev_add_tt, ev_add_rr, ev_sub, ev_mul, ev_mod, ev_fdiv, ev_pow, ev_neg, ev_lt, ev_le, ev_gt, ev_ge, ev_eq_ii, ev_eq_ss, ev_eq_bb, ev_ne_ii, ev_ne_ss, ev_ne_bb, ev_is_n, ev_isnt_n, ev_int_i, ev_int_b, ev_min_ii, ev_max_ii, ev_abs, ev_tup_of, ev_tup_ofL, ev_lst_ofT, ev_lst_ofL, ev_len_t, ev_len_s, ev_len_r, ev_tru_b, ev_alloc, ev_tupD, ev_lstD, isi_tuple_non, isi_tuple_bl, isi_tuple_int, isi_tuple_str, isi_tuple_tup, isi_tuple_l, isi_tuple_f, isi_list_non, isi_list_bl, isi_list_int, isi_list_str, isi_list_tup, isi_list_l, isi_list_f, isi_bool_non, isi_bool_bl, isi_bool_int, isi_bool_str, isi_bool_tup, isi_bool_l, isi_bool_f, isi_int_non, isi_int_bl, isi_int_int, isi_int_str, isi_int_tup, isi_int_l, isi_int_f, isi_str_non, isi_str_bl, isi_str_int, isi_str_str, isi_str_tup, isi_str_l, isi_str_f, isi_dict_non, isi_dict_bl, isi_dict_int, isi_dict_str, isi_dict_tup, isi_dict_l, isi_dict_f, Ab.isNon, args, List.map, List.length_cons, List.length_nil, List.length_singleton, List.replicate, Nat.reduceSub, Nat.reduceAdd, Nat.zero_add, List.cons_append, List.nil_append, List.getElem?_cons_zero, List.getElem?_cons_succ, List.set_cons_zero, List.set_cons_succ, Option.some.injEq, decide_eq_true_eq, Bool.not_eq_true', decide_eq_false_iff_not, ite_true, ite_false, if_true, if_false, reduceIte, Bool.false_eq_true, Bool.not_true, Bool.not_false, Bool.true_eq_false, decide_true, decide_false, Nat.reduceLeDiff, Nat.reduceLT, turn_]
    refine ⟨DB.setN nO hs, ⟨_, List.set_set ..⟩, os ++ [ls[v.toNat]], ls.eraseIdx v.toNat, ?_, by simp; omega, by rw [List.getElem?_set_ne (Ne.symm LO)]; exact hL2, by rw [at_set (at_lt hO2), List.map_append]; rfl⟩
    rw [List.append_assoc]
    exact (List.Perm.append_left os (perm_erase ls _ hv)).trans pm
  · subst hσ
    refine fin B x DB ⟨os, ?_, hO⟩
    have ll := pm.length_eq
    rw [List.length_append, List.length_range] at ll
    have : ls = [] := List.eq_nil_of_length_eq_zero (by omega)
    rw [this, List.append_nil] at pm
    exact pm
/-! ### the ring itself -/
theorem way_spec {A : AH} {q m a b : Nat} {su : Nat → Int} (h : A[q]? = some (.lst (intL (m + 1) su))) (ha : a < m) (hb : b < m) : m__law_way [.ref q, .int (a : Nat), .int (b : Nat)] A = .ok (.int (wayP m su a b)) A := by
  have key : Sat (m__law_way [.ref q, .int (a : Nat), .int (b : Nat)] A) fun d A' => d = .int (wayP m su a b) ∧ A' = A := by
    refine sat_body rfl (sat_seq ?_)
    have i1 := intL_ix h (show a < m + 1 by omega)
    have i2 := intL_ix h (show b < m + 1 by omega)
    have i3 : ixD (.ref q) (.int (-1)) A = .ok (.int (su m)) A := ev_ix_r (rdL_l h) (by
      unfold L2.atI ixN intL
      rw [if_neg (by decide)]
      simp only [List.length_map, List.length_range]
      rw [if_pos (by omega), show (-1 + ((m + 1 : Nat) : Int)).toNat = m by omega]
      show ((List.range (m + 1)).map fun k => D.int (su k))[m]? = _
      rw [List.getElem?_map, List.getElem?_range (by omega)]; rfl)
    unfold wayP
    by_cases c : a ≤ b
    · simp only [sat_ok, sat_bad, sat_bind, sat_ite, bind_ok, bind_bad, thn_nx, thn_rt, thn_bk, thn_ct, fin_rt, fin_nx, ev_v, ev_c, ev_op, ev_un, ev_nil, ev_cons, ev_tup, ev_lst, ev_call, ev_own, ev_sl, ev_no, ev_part, ev_and, ev_or, ev_not, ev_if, ev_t, ev_tb, ev_tnot, ev_tand, ev_tor, ev_mt, ev_mt0, ev_rgd, ev_set, ev_asg, ev_ret, ev_retN, ev_ex, ev_pass, ev_brk, ev_cont, ev_ifS, ev_aug, ev_gn, ev_gtp, ev_gnl, ev_gcs, ev_gsb, ev_for, ev_rg1, ev_rg2, ev_its, ev_enum, ev_lc, ev_yes, ev_add_ii, ev_add_ss, ev_add_tt, ev_add_rr, ev_sub, ev_mul, ev_mod, ev_fdiv, ev_pow, ev_neg, ev_lt, ev_le, ev_gt, ev_ge, ev_eq_ii, ev_eq_ss, ev_eq_bb, ev_ne_ii, ev_ne_ss, ev_ne_bb, ev_is_n, ev_isnt_n, ev_int_i, ev_int_b, ev_min_ii, ev_max_ii, ev_abs, ev_tup_of, ev_tup_ofL, ev_lst_ofT, ev_lst_ofL, ev_len_t, ev_len_s, ev_len_r, ev_tru_b, ev_alloc, ev_tupD, ev_lstD, isi_tuple_non, isi_tuple_bl, isi_tuple_int, isi_tuple_str, isi_tuple_tup, isi_tuple_l, isi_tuple_f, isi_list_non, isi_list_bl, isi_list_int, isi_list_str, isi_list_tup, isi_list_l, isi_list_f, isi_bool_non, isi_bool_bl, isi_bool_int, isi_bool_str, isi_bool_tup, isi_bool_l, isi_bool_f, isi_int_non, isi_int_bl, isi_int_int, isi_int_str, isi_int_tup, isi_int_l, isi_int_f, isi_str_non, isi_str_bl, isi_str_int, isi_str_str, isi_str_tup, isi_str_l, isi_str_f, isi_dict_non, isi_dict_bl, isi_dict_int, isi_dict_str, isi_dict_tup, isi_dict_l, isi_dict_f, Ab.isNon, args, List.map, List.length_cons, List.length_nil, List.length_singleton, List.replicate, Nat.reduceSub, Nat.reduceAdd, Nat.zero_add, List.cons_append, List.nil_append, List.getElem?_cons_zero, List.getElem?_cons_succ, List.set_cons_zero, List.set_cons_succ, Option.some.injEq, decide_eq_true_eq, Bool.not_eq_true', decide_eq_false_iff_not, ite_true, ite_false, if_true, if_false, reduceIte, Bool.false_eq_true, Bool.not_true, Bool.not_false, Bool.true_eq_false, decide_true, decide_false, Nat.reduceLeDiff, Nat.reduceLT, i1, i2, show ((a : Int) ≤ (b : Int)) = True by simp; omega, if_pos c]
      trivial
    · simp only [sat_ok, sat_bad, sat_bind, sat_ite, bind_ok, bind_bad, thn_nx, thn_rt, thn_bk, thn_ct, fin_rt, fin_nx, ev_v, ev_c, ev_op, ev_un, ev_nil, ev_cons, ev_tup, ev_lst, ev_call, ev_own, ev_sl, ev_no, ev_part, ev_and, ev_or, ev_not, ev_if, ev_t, ev_tb, ev_tnot, ev_tand, ev_tor, ev_mt, ev_mt0, ev_rgd, ev_set, ev_asg, ev_ret, ev_retN, ev_ex, ev_pass, ev_brk, ev_cont, ev_ifS, ev_aug, ev_gn, ev_gtp, ev_gnl, ev_gcs, ev_gsb, ev_for, ev_rg1, ev_rg2, ev_its, ev_enum, ev_lc, ev_yes, ev_add_ii, ev_add_ss, ev_add_tt, ev_add_rr, ev_sub, ev_mul, ev_mod, ev_fdiv, ev_pow, ev_neg, ev_lt, ev_le, ev_gt, ev_ge, ev_eq_ii, ev_eq_ss, ev_eq_bb, ev_ne_ii, ev_ne_ss, ev_ne_bb, ev_is_n, ev_isnt_n, ev_int_i, ev_int_b, ev_min_ii, ev_max_ii, ev_abs, ev_tup_of, ev_tup_ofL, ev_lst_ofT, ev_lst_ofL, ev_len_t, ev_len_s, ev_len_r, ev_tru_b, ev_alloc, ev_tupD, ev_lstD, isi_tuple_non, isi_tuple_bl, isi_tuple_int, isi_tuple_str, isi_tuple_tup, isi_tuple_l, isi_tuple_f, isi_list_non, isi_list_bl, isi_list_int, isi_list_str, isi_list_tup, isi_list_l, isi_list_f, isi_bool_non, isi_bool_bl, isi_bool_int, isi_bool_str, isi_bool_tup, isi_bool_l, isi_bool_f, isi_int_non, isi_int_bl, isi_int_int, isi_int_str, isi_int_tup, isi_int_l, isi_int_f, isi_str_non, isi_str_bl, isi_str_int, isi_str_str, isi_str_tup, isi_str_l, isi_str_f, isi_dict_non, isi_dict_bl, isi_dict_int, isi_dict_str, isi_dict_tup, isi_dict_l, isi_dict_f, Ab.isNon, args, List.map, List.length_cons, List.length_nil, List.length_singleton, List.replicate, Nat.reduceSub, Nat.reduceAdd, Nat.zero_add, List.cons_append, List.nil_append, List.getElem?_cons_zero, List.getElem?_cons_succ, List.set_cons_zero, List.set_cons_succ, Option.some.injEq, decide_eq_true_eq, Bool.not_eq_true', decide_eq_false_iff_not, ite_true, ite_false, if_true, if_false, reduceIte, Bool.false_eq_true, Bool.not_true, Bool.not_false, Bool.true_eq_false, decide_true, decide_false, Nat.reduceLeDiff, Nat.reduceLT, show ((a : Int) ≤ (b : Int)) = False by simp; omega, if_neg c]
      simp only [sat_ok, sat_bad, sat_bind, sat_ite, bind_ok, bind_bad, thn_nx, thn_rt, thn_bk, thn_ct, fin_rt, fin_nx, ev_v, ev_c, ev_op, ev_un, ev_nil, ev_cons, ev_tup, ev_lst, ev_call, ev_own, ev_sl, ev_no, ev_part, ev_and, ev_or, ev_not, ev_if, ev_t, ev_tb, ev_tnot, ev_tand, ev_tor, ev_mt, ev_mt0, ev_rgd, ev_set, ev_asg, ev_ret, ev_retN, ev_ex, ev_pass, ev_brk, ev_cont, ev_ifS, ev_aug, ev_gn, ev_gtp, ev_gnl, ev_gcs, ev_gsb, ev_for, ev_rg1, ev_rg2, ev_its, ev_enum, ev_lc, ev_yes, ev_add_ii, ev_add_ss, ev_add_tt, ev_add_rr, ev_sub, ev_mul, ev_mod, ev_fdiv, ev_pow, ev_neg, ev_lt, ev_le, ev_gt, ev_ge, ev_eq_ii, ev_eq_ss, ev_eq_bb, ev_ne_ii, ev_ne_ss, ev_ne_bb, ev_is_n, ev_isnt_n, ev_int_i, ev_int_b, ev_min_ii, ev_max_ii, ev_abs, ev_tup_of, ev_tup_ofL, ev_lst_ofT, ev_lst_ofL, ev_len_t, ev_len_s, ev_len_r, ev_tru_b, ev_alloc, ev_tupD, ev_lstD, isi_tuple_non, isi_tuple_bl, isi_tuple_int, isi_tuple_str, isi_tuple_tup, isi_tuple_l, isi_tuple_f, isi_list_non, isi_list_bl, isi_list_int, isi_list_str, isi_list_tup, isi_list_l, isi_list_f, isi_bool_non, isi_bool_bl, isi_bool_int, isi_bool_str, isi_bool_tup, isi_bool_l, isi_bool_f, isi_int_non, isi_int_bl, isi_int_int, isi_int_str, isi_int_tup, isi_int_l, isi_int_f, isi_str_non, isi_str_bl, isi_str_int, isi_str_str, isi_str_tup, isi_str_l, isi_str_f, isi_dict_non, isi_dict_bl, isi_dict_int, isi_dict_str, isi_dict_tup, isi_dict_l, isi_dict_f, Ab.isNon, args, List.map, List.length_cons, List.length_nil, List.length_singleton, List.replicate, Nat.reduceSub, Nat.reduceAdd, Nat.zero_add, List.cons_append, List.nil_append, List.getElem?_cons_zero, List.getElem?_cons_succ, List.set_cons_zero, List.set_cons_succ, Option.some.injEq, decide_eq_true_eq, Bool.not_eq_true', decide_eq_false_iff_not, ite_true, ite_false, if_true, if_false, reduceIte, Bool.false_eq_true, Bool.not_true, Bool.not_false, Bool.true_eq_false, decide_true, decide_false, Nat.reduceLeDiff, Nat.reduceLT, i1, i2, i3]
      trivial
  obtain ⟨d, A', e, rfl, rfl⟩ := key.eq
  exact e
theorem tot_sum (f : Nat → Int) : ∀ m : Nat, ((List.range m).map fun k => absZ (f k)).sum = tot f m
  | 0 => rfl
  | m + 1 => by rw [List.range_succ, List.map_append, List.sum_append, tot_sum f m]; simp [tot]
theorem mod_next {m a : Nat} (ha : a < m) : ((a : Int) + 1) % (m : Int) = ((nextP m a : Nat) : Int) := by
  unfold nextP
  split
  · rename_i e
    rw [show (a : Int) + 1 = (m : Int) by omega, Int.emod_self]; rfl
  · rw [Int.emod_eq_of_lt (by omega) (by omega)]; omega
theorem ring_spec {A : AH} {s : Nat} (hs : Sr s A) : Sat (m__law_ring [.ref s] A) fun d A' => Dr s A A' ∧ ∃ r, d = .ref r ∧ Pair A' r := by
  have sl := hs.lt
  refine sat_body rfl (sat_seq ?_)
  simp only [sat_ok, sat_bad, sat_bind, sat_ite, bind_ok, bind_bad, thn_nx, thn_rt, thn_bk, thn_ct, fin_rt, fin_nx, ev_v, ev_c, ev_op, ev_un, ev_nil, ev_cons, ev_tup, ev_lst, ev_call, ev_own, ev_sl, ev_no, ev_part, ev_and, ev_or, ev_not, ev_if, ev_t, ev_tb, ev_tnot, ev_tand, ev_tor, ev_mt, ev_mt0, ev_rgd, ev_set, ev_asg, ev_ret, ev_retN, ev_ex, ev_pass, ev_brk, ev_cont, ev_ifS, ev_aug, ev_gn, ev_gtp, ev_gnl, ev_gcs, ev_gsb, ev_for, ev_rg1, ev_rg2, ev_its, ev_enum, ev_lc, ev_yes, ev_add_ii, ev_add_ss, ev_add_tt, ev_add_rr, ev_sub, ev_mul, ev_mod, ev_fdiv, ev_pow, ev_neg, ev_lt, ev_le, ev_gt, ev_ge, ev_eq_ii, ev_eq_ss, ev_eq_bb, ev_ne_ii, ev_ne_ss, ev_ne_bb, ev_is_n, ev_isnt_n, ev_int_i, ev_int_b, ev_min_ii, ev_max_ii, ev_abs, ev_tup_of, ev_tup_ofL, ev_lst_ofT, ev_lst_ofL, ev_len_t, ev_len_s, ev_len_r, ev_tru_b, ev_alloc, ev_tupD, ev_lstD, isi_tuple_non, isi_tuple_bl, isi_tuple_int, isi_tuple_str, isi_tuple_tup, isi_tuple_l, isi_tuple_f, isi_list_non, isi_list_bl, isi_list_int, isi_list_str, isi_list_tup, isi_list_l, isi_list_f, isi_bool_non, isi_bool_bl, isi_bool_int, isi_bool_str, isi_bool_tup, isi_bool_l, isi_bool_f, isi_int_non, isi_int_bl, isi_int_int, isi_int_str, isi_int_tup, isi_int_l, isi_int_f, isi_str_non, isi_str_bl, isi_str_int, isi_str_str, isi_str_tup, isi_str_l, isi_str_f, isi_dict_non, isi_dict_bl, isi_dict_int, isi_dict_str, isi_dict_tup, isi_dict_l, isi_dict_f, Ab.isNon, args, List.map, List.length_cons, List.length_nil, List.length_singleton, List.replicate, Nat.reduceSub, Nat.reduceAdd, Nat.zero_add, List.cons_append, List.nil_append, List.getElem?_cons_zero, List.getElem?_cons_succ, List.set_cons_zero, List.set_cons_succ, Option.some.injEq, decide_eq_true_eq, Bool.not_eq_true', decide_eq_false_iff_not, ite_true, ite_false, if_true, if_false, reduceIte, Bool.false_eq_true, Bool.not_true, Bool.not_false, Bool.true_eq_false, decide_true, decide_false, Nat.reduceLeDiff, Nat.reduceLT]
  refine Sat.imp (pick_pos hs (n := 6) (by decide) (by decide)) fun d A1 ⟨⟨v, e, v0, v1⟩, D1⟩ => ?_
  subst e
  refine sat_seq ?_
  have step : Sat (fIfS (fTB (fOp eqD (fOwn 2 m__law_pick (fCons (fV 0) (fCons (fC (.int 2)) (fNil)))) (fC (.int 0))))
      (fSet (fOp addD (fC (.int 7)) (fOwn 2 m__law_pick (fCons (fV 0) (fCons (fC (.int 14)) (fNil))))) 1) (fPass)
      [some (.ref s), some (.int (1 + v)), none, none, none, none, none, none, none, none, none, none, none, none, none, none, none, none] A1) fun fl A2 => Dr s A A2 ∧ ∃ n : Nat, 1 ≤ n ∧ n ≤ 20 ∧ fl = .nx [some (.ref s), some (.int (n : Nat)), none, none, none, none, none, none, none, none, none, none, none, none, none, none, none, none] := by
    simp only [sat_ok, sat_bad, sat_bind, sat_ite, bind_ok, bind_bad, thn_nx, thn_rt, thn_bk, thn_ct, fin_rt, fin_nx, ev_v, ev_c, ev_op, ev_un, ev_nil, ev_cons, ev_tup, ev_lst, ev_call, ev_own, ev_sl, ev_no, ev_part, ev_and, ev_or, ev_not, ev_if, ev_t, ev_tb, ev_tnot, ev_tand, ev_tor, ev_mt, ev_mt0, ev_rgd, ev_set, ev_asg, ev_ret, ev_retN, ev_ex, ev_pass, ev_brk, ev_cont, ev_ifS, ev_aug, ev_gn, ev_gtp, ev_gnl, ev_gcs, ev_gsb, ev_for, ev_rg1, ev_rg2, ev_its, ev_enum, ev_lc, ev_yes, ev_add_ii, ev_add_ss, ev_add_tt, ev_add_rr, ev_sub, ev_mul, ev_mod, ev_fdiv, ev_pow, ev_neg, ev_lt, ev_le, ev_gt, ev_ge, ev_eq_ii, ev_eq_ss, ev_eq_bb, ev_ne_ii, ev_ne_ss, ev_ne_bb, ev_is_n, ev_isnt_n, ev_int_i, ev_int_b, ev_min_ii, ev_max_ii, ev_abs, ev_tup_of, ev_tup_ofL, ev_lst_ofT, ev_lst_ofL, ev_len_t, ev_len_s, ev_len_r, ev_tru_b, ev_alloc, ev_tupD, ev_lstD, isi_tuple_non, isi_tuple_bl, isi_tuple_int, isi_tuple_str, isi_tuple_tup, isi_tuple_l, isi_tuple_f, isi_list_non, isi_list_bl, isi_list_int, isi_list_str, isi_list_tup, isi_list_l, isi_list_f, isi_bool_non, isi_bool_bl, isi_bool_int, isi_bool_str, isi_bool_tup, isi_bool_l, isi_bool_f, isi_int_non, isi_int_bl, isi_int_int, isi_int_str, isi_int_tup, isi_int_l, isi_int_f, isi_str_non, isi_str_bl, isi_str_int, isi_str_str, isi_str_tup, isi_str_l, isi_str_f, isi_dict_non, isi_dict_bl, isi_dict_int, isi_dict_str, isi_dict_tup, isi_dict_l, isi_dict_f, Ab.isNon, args, List.map, List.length_cons, List.length_nil, List.length_singleton, List.replicate, Nat.reduceSub, Nat.reduceAdd, Nat.zero_add, List.cons_append, List.nil_append, List.getElem?_cons_zero, List.getElem?_cons_succ, List.set_cons_zero, List.set_cons_succ, Option.some.injEq, decide_eq_true_eq, Bool.not_eq_true', decide_eq_false_iff_not, ite_true, ite_false, if_true, if_false, reduceIte, Bool.false_eq_true, Bool.not_true, Bool.not_false, Bool.true_eq_false, decide_true, decide_false, Nat.reduceLeDiff, Nat.reduceLT]
    refine Sat.imp (pick_pos D1.src (n := 2) (by decide) (by decide)) fun d A2 ⟨⟨w, e, _, _⟩, dr⟩ => ?_
    subst e
    have D2 := D1.trans dr
    simp only [sat_ok, sat_bad, sat_bind, sat_ite, bind_ok, bind_bad, thn_nx, thn_rt, thn_bk, thn_ct, fin_rt, fin_nx, ev_v, ev_c, ev_op, ev_un, ev_nil, ev_cons, ev_tup, ev_lst, ev_call, ev_own, ev_sl, ev_no, ev_part, ev_and, ev_or, ev_not, ev_if, ev_t, ev_tb, ev_tnot, ev_tand, ev_tor, ev_mt, ev_mt0, ev_rgd, ev_set, ev_asg, ev_ret, ev_retN, ev_ex, ev_pass, ev_brk, ev_cont, ev_ifS, ev_aug, ev_gn, ev_gtp, ev_gnl, ev_gcs, ev_gsb, ev_for, ev_rg1, ev_rg2, ev_its, ev_enum, ev_lc, ev_yes, ev_add_ii, ev_add_ss, ev_add_tt, ev_add_rr, ev_sub, ev_mul, ev_mod, ev_fdiv, ev_pow, ev_neg, ev_lt, ev_le, ev_gt, ev_ge, ev_eq_ii, ev_eq_ss, ev_eq_bb, ev_ne_ii, ev_ne_ss, ev_ne_bb, ev_is_n, ev_isnt_n, ev_int_i, ev_int_b, ev_min_ii, ev_max_ii, ev_abs, ev_tup_of, ev_tup_ofL, ev_lst_ofT, ev_lst_ofL, ev_len_t, ev_len_s, ev_len_r, ev_tru_b, ev_alloc, ev_tupD, ev_lstD, isi_tuple_non, isi_tuple_bl, isi_tuple_int, isi_tuple_str, isi_tuple_tup, isi_tuple_l, isi_tuple_f, isi_list_non, isi_list_bl, isi_list_int, isi_list_str, isi_list_tup, isi_list_l, isi_list_f, isi_bool_non, isi_bool_bl, isi_bool_int, isi_bool_str, isi_bool_tup, isi_bool_l, isi_bool_f, isi_int_non, isi_int_bl, isi_int_int, isi_int_str, isi_int_tup, isi_int_l, isi_int_f, isi_str_non, isi_str_bl, isi_str_int, isi_str_str, isi_str_tup, isi_str_l, isi_str_f, isi_dict_non, isi_dict_bl, isi_dict_int, isi_dict_str, isi_dict_tup, isi_dict_l, isi_dict_f, Ab.isNon, args, List.map, List.length_cons, List.length_nil, List.length_singleton, List.replicate, Nat.reduceSub, Nat.reduceAdd, Nat.zero_add, List.cons_append, List.nil_append, List.getElem?_cons_zero, List.getElem?_cons_succ, List.set_cons_zero, List.set_cons_succ, Option.some.injEq, decide_eq_true_eq, Bool.not_eq_true', decide_eq_false_iff_not, ite_true, ite_false, if_true, if_false, reduceIte, Bool.false_eq_true, Bool.not_true, Bool.not_false, Bool.true_eq_false, decide_true, decide_false, Nat.reduceLeDiff, Nat.reduceLT]
    split
    · refine Sat.imp (pick_pos D2.src (n := 14) (by decide) (by decide)) fun d A3 ⟨⟨w2, e, w0, w1⟩, dr⟩ => ?_
      subst e
      simp only [sat_ok, sat_bad, sat_bind, sat_ite, bind_ok, bind_bad, thn_nx, thn_rt, thn_bk, thn_ct, fin_rt, fin_nx, ev_v, ev_c, ev_op, ev_un, ev_nil, ev_cons, ev_tup, ev_lst, ev_call, ev_own, ev_sl, ev_no, ev_part, ev_and, ev_or, ev_not, ev_if, ev_t, ev_tb, ev_tnot, ev_tand, ev_tor, ev_mt, ev_mt0, ev_rgd, ev_set, ev_asg, ev_ret, ev_retN, ev_ex, ev_pass, ev_brk, ev_cont, ev_ifS, ev_aug, ev_gn, ev_gtp, ev_gnl, ev_gcs, ev_gsb, ev_for, ev_rg1, ev_rg2, ev_its, ev_enum, ev_lc, ev_yes, ev_add_ii, ev_add_ss, ev_add_tt, ev_add_rr, ev_sub, ev_mul, ev_mod, ev_fdiv, ev_pow, ev_neg, ev_lt, ev_le, ev_gt, ev_ge, ev_eq_ii, ev_eq_ss, ev_eq_bb, ev_ne_ii, ev_ne_ss, ev_ne_bb, ev_is_n, ev_isnt_n, ev_int_i, ev_int_b, ev_min_ii, ev_max_ii, ev_abs, ev_tup_of, ev_tup_ofL, ev_lst_ofT, ev_lst_ofL, ev_len_t, ev_len_s, ev_len_r, ev_tru_b, ev_alloc, ev_tupD, ev_lstD, isi_tuple_non, isi_tuple_bl, isi_tuple_int, isi_tuple_str, isi_tuple_tup, isi_tuple_l, isi_tuple_f, isi_list_non, isi_list_bl, isi_list_int, isi_list_str, isi_list_tup, isi_list_l, isi_list_f, isi_bool_non, isi_bool_bl, isi_bool_int, isi_bool_str, isi_bool_tup, isi_bool_l, isi_bool_f, isi_int_non, isi_int_bl, isi_int_int, isi_int_str, isi_int_tup, isi_int_l, isi_int_f, isi_str_non, isi_str_bl, isi_str_int, isi_str_str, isi_str_tup, isi_str_l, isi_str_f, isi_dict_non, isi_dict_bl, isi_dict_int, isi_dict_str, isi_dict_tup, isi_dict_l, isi_dict_f, Ab.isNon, args, List.map, List.length_cons, List.length_nil, List.length_singleton, List.replicate, Nat.reduceSub, Nat.reduceAdd, Nat.zero_add, List.cons_append, List.nil_append, List.getElem?_cons_zero, List.getElem?_cons_succ, List.set_cons_zero, List.set_cons_succ, Option.some.injEq, decide_eq_true_eq, Bool.not_eq_true', decide_eq_false_iff_not, ite_true, ite_false, if_true, if_false, reduceIte, Bool.false_eq_true, Bool.not_true, Bool.not_false, Bool.true_eq_false, decide_true, decide_false, Nat.reduceLeDiff, Nat.reduceLT]
      exact ⟨D2.trans dr, (7 + w2).toNat, by omega, by omega, by rw [show (((7 + w2).toNat : Nat) : Int) = 7 + w2 by omega]⟩
    · exact ⟨D2, (1 + v).toNat, by omega, by omega, by rw [show (((1 + v).toNat : Nat) : Int) = 1 + v by omega]⟩
  refine Sat.imp step fun fl A2 ⟨D2, n, n1, n20, e⟩ => ?_
  subst e
  refine sat_seq ?_
  simp only [sat_ok, sat_bad, sat_bind, sat_ite, bind_ok, bind_bad, thn_nx, thn_rt, thn_bk, thn_ct, fin_rt, fin_nx, ev_v, ev_c, ev_op, ev_un, ev_nil, ev_cons, ev_tup, ev_lst, ev_call, ev_own, ev_sl, ev_no, ev_part, ev_and, ev_or, ev_not, ev_if, ev_t, ev_tb, ev_tnot, ev_tand, ev_tor, ev_mt, ev_mt0, ev_rgd, ev_set, ev_asg, ev_ret, ev_retN, ev_ex, ev_pass, ev_brk, ev_cont, ev_ifS, ev_aug, ev_gn, ev_gtp, ev_gnl, ev_gcs, ev_gsb, ev_for, ev_rg1, ev_rg2, ev_its, ev_enum, ev_lc, ev_yes, ev_add_ii, ev_add_ss, ev_add_tt, ev_add_rr, ev_sub, ev_mul, ev_mod, ev_fdiv, ev_pow, ev_neg, ev_lt, ev_le, ev_gt, ev_ge, ev_eq_ii, ev_eq_ss, ev_eq_bb, ev_ne_ii, ev_ne_ss, ev_ne_bb, ev_is_n, ev_isnt_n, ev_int_i, ev_int_b, ev_min_ii, ev_max_ii, ev_abs, ev_tup_of, ev_tup_ofL, ev_lst_ofT, ev_lst_ofL, ev_len_t, ev_len_s, ev_len_r, ev_tru_b, ev_alloc, ev_tupD, ev_lstD, isi_tuple_non, isi_tuple_bl, isi_tuple_int, isi_tuple_str, isi_tuple_tup, isi_tuple_l, isi_tuple_f, isi_list_non, isi_list_bl, isi_list_int, isi_list_str, isi_list_tup, isi_list_l, isi_list_f, isi_bool_non, isi_bool_bl, isi_bool_int, isi_bool_str, isi_bool_tup, isi_bool_l, isi_bool_f, isi_int_non, isi_int_bl, isi_int_int, isi_int_str, isi_int_tup, isi_int_l, isi_int_f, isi_str_non, isi_str_bl, isi_str_int, isi_str_str, isi_str_tup, isi_str_l, isi_str_f, isi_dict_non, isi_dict_bl, isi_dict_int, isi_dict_str, isi_dict_tup, isi_dict_l, isi_dict_f, Ab.isNon, args, List.map, List.length_cons, List.length_nil, List.length_singleton, List.replicate, Nat.reduceSub, Nat.reduceAdd, Nat.zero_add, List.cons_append, List.nil_append, List.getElem?_cons_zero, List.getElem?_cons_succ, List.set_cons_zero, List.set_cons_succ, Option.some.injEq, decide_eq_true_eq, Bool.not_eq_true', decide_eq_false_iff_not, ite_true, ite_false, if_true, if_false, reduceIte, Bool.false_eq_true, Bool.not_true, Bool.not_false, Bool.true_eq_false, decide_true, decide_false, Nat.reduceLeDiff, Nat.reduceLT]
  refine Sat.imp (pick_pos D2.src (n := 2) (by decide) (by decide)) fun d A3 ⟨⟨near, e, r0, r1⟩, dr⟩ => ?_
  subst e
  have D3 := D2.trans dr
  obtain ⟨m, e1, e2, e3⟩ : ∃ m : Nat, (n : Int) + 1 = (m : Nat) ∧ m = n + 1 ∧ 2 ≤ m := ⟨n + 1, by omega, rfl, by omega⟩
  refine sat_seq ?_
  have hrg : rgLst 0 (m : Nat) A3 = .ok (.ref A3.length) (A3 ++ [.lst ((List.range m).map fun k => D.int (k : Nat))]) := by
    unfold rgLst
    rw [if_pos (show RgOk 0 (m : Nat) by refine ⟨?_, ?_, ?_, ?_, ?_⟩ <;> omega), show ((m : Nat) - (0 : Int)).toNat = m by omega]
    show Res.ok _ _ = _
    congr 4
    unfold rngL
    exact List.map_congr_left fun k _ => by rw [Int.zero_add]
  simp only [sat_ok, sat_bad, sat_bind, sat_ite, bind_ok, bind_bad, thn_nx, thn_rt, thn_bk, thn_ct, fin_rt, fin_nx, ev_v, ev_c, ev_op, ev_un, ev_nil, ev_cons, ev_tup, ev_lst, ev_call, ev_own, ev_sl, ev_no, ev_part, ev_and, ev_or, ev_not, ev_if, ev_t, ev_tb, ev_tnot, ev_tand, ev_tor, ev_mt, ev_mt0, ev_rgd, ev_set, ev_asg, ev_ret, ev_retN, ev_ex, ev_pass, ev_brk, ev_cont, ev_ifS, ev_aug, ev_gn, ev_gtp, ev_gnl, ev_gcs, ev_gsb, ev_for, ev_rg1, ev_rg2, ev_its, ev_enum, ev_lc, ev_yes, ev_add_ii, ev_add_ss, ev_add_tt, ev_add_rr, ev_sub, ev_mul, ev_mod, ev_fdiv, ev_pow, ev_neg, ev_lt, ev_le, ev_gt, ev_ge, ev_eq_ii, ev_eq_ss, ev_eq_bb, ev_ne_ii, ev_ne_ss, ev_ne_bb, ev_is_n, ev_isnt_n, ev_int_i, ev_int_b, ev_min_ii, ev_max_ii, ev_abs, ev_tup_of, ev_tup_ofL, ev_lst_ofT, ev_lst_ofL, ev_len_t, ev_len_s, ev_len_r, ev_tru_b, ev_alloc, ev_tupD, ev_lstD, isi_tuple_non, isi_tuple_bl, isi_tuple_int, isi_tuple_str, isi_tuple_tup, isi_tuple_l, isi_tuple_f, isi_list_non, isi_list_bl, isi_list_int, isi_list_str, isi_list_tup, isi_list_l, isi_list_f, isi_bool_non, isi_bool_bl, isi_bool_int, isi_bool_str, isi_bool_tup, isi_bool_l, isi_bool_f, isi_int_non, isi_int_bl, isi_int_int, isi_int_str, isi_int_tup, isi_int_l, isi_int_f, isi_str_non, isi_str_bl, isi_str_int, isi_str_str, isi_str_tup, isi_str_l, isi_str_f, isi_dict_non, isi_dict_bl, isi_dict_int, isi_dict_str, isi_dict_tup, isi_dict_l, isi_dict_f, Ab.isNon, args, List.map, List.length_cons, List.length_nil, List.length_singleton, List.replicate, Nat.reduceSub, Nat.reduceAdd, Nat.zero_add, List.cons_append, List.nil_append, List.getElem?_cons_zero, List.getElem?_cons_succ, List.set_cons_zero, List.set_cons_succ, Option.some.injEq, decide_eq_true_eq, Bool.not_eq_true', decide_eq_false_iff_not, ite_true, ite_false, if_true, if_false, reduceIte, Bool.false_eq_true, Bool.not_true, Bool.not_false, Bool.true_eq_false, decide_true, decide_false, Nat.reduceLeDiff, Nat.reduceLT, e1, hrg]
  have hL := at_new (A := A3) (o := .lst ((List.range m).map fun k => D.int (k : Nat)))
  have lL := D3.le
  have D4 := D3.trans (Dr.app D3.src [.lst ((List.range m).map fun k => D.int (k : Nat))])
  refine sat_seq ?_
  simp only [sat_ok, sat_bad, sat_bind, sat_ite, bind_ok, bind_bad, thn_nx, thn_rt, thn_bk, thn_ct, fin_rt, fin_nx, ev_v, ev_c, ev_op, ev_un, ev_nil, ev_cons, ev_tup, ev_lst, ev_call, ev_own, ev_sl, ev_no, ev_part, ev_and, ev_or, ev_not, ev_if, ev_t, ev_tb, ev_tnot, ev_tand, ev_tor, ev_mt, ev_mt0, ev_rgd, ev_set, ev_asg, ev_ret, ev_retN, ev_ex, ev_pass, ev_brk, ev_cont, ev_ifS, ev_aug, ev_gn, ev_gtp, ev_gnl, ev_gcs, ev_gsb, ev_for, ev_rg1, ev_rg2, ev_its, ev_enum, ev_lc, ev_yes, ev_add_ii, ev_add_ss, ev_add_tt, ev_add_rr, ev_sub, ev_mul, ev_mod, ev_fdiv, ev_pow, ev_neg, ev_lt, ev_le, ev_gt, ev_ge, ev_eq_ii, ev_eq_ss, ev_eq_bb, ev_ne_ii, ev_ne_ss, ev_ne_bb, ev_is_n, ev_isnt_n, ev_int_i, ev_int_b, ev_min_ii, ev_max_ii, ev_abs, ev_tup_of, ev_tup_ofL, ev_lst_ofT, ev_lst_ofL, ev_len_t, ev_len_s, ev_len_r, ev_tru_b, ev_alloc, ev_tupD, ev_lstD, isi_tuple_non, isi_tuple_bl, isi_tuple_int, isi_tuple_str, isi_tuple_tup, isi_tuple_l, isi_tuple_f, isi_list_non, isi_list_bl, isi_list_int, isi_list_str, isi_list_tup, isi_list_l, isi_list_f, isi_bool_non, isi_bool_bl, isi_bool_int, isi_bool_str, isi_bool_tup, isi_bool_l, isi_bool_f, isi_int_non, isi_int_bl, isi_int_int, isi_int_str, isi_int_tup, isi_int_l, isi_int_f, isi_str_non, isi_str_bl, isi_str_int, isi_str_str, isi_str_tup, isi_str_l, isi_str_f, isi_dict_non, isi_dict_bl, isi_dict_int, isi_dict_str, isi_dict_tup, isi_dict_l, isi_dict_f, Ab.isNon, args, List.map, List.length_cons, List.length_nil, List.length_singleton, List.replicate, Nat.reduceSub, Nat.reduceAdd, Nat.zero_add, List.cons_append, List.nil_append, List.getElem?_cons_zero, List.getElem?_cons_succ, List.set_cons_zero, List.set_cons_succ, Option.some.injEq, decide_eq_true_eq, Bool.not_eq_true', decide_eq_false_iff_not, ite_true, ite_false, if_true, if_false, reduceIte, Bool.false_eq_true, Bool.not_true, Bool.not_false, Bool.true_eq_false, decide_true, decide_false, Nat.reduceLeDiff, Nat.reduceLT]
  have hO := at_new (A := A3 ++ [AO.lst ((List.range m).map fun k => D.int (k : Nat))]) (o := .lst [])
  have hL := (Gr.app (B := [AO.lst []])).keep _ _ hL
  have D5 := D4.trans (Dr.app D4.src [AO.lst []])
  have LO : A3.length ≠ (A3 ++ [AO.lst ((List.range m).map fun k => D.int (k : Nat))]).length := by simp
  have lO : A.length ≤ (A3 ++ [AO.lst ((List.range m).map fun k => D.int (k : Nat))]).length := by simp; omega
  generalize A3 ++ [AO.lst ((List.range m).map fun k => D.int (k : Nat))] ++ [AO.lst []] = A5 at hL hO D5 ⊢
  generalize (A3 ++ [AO.lst ((List.range m).map fun k => D.int (k : Nat))]).length = O at hO LO lO ⊢
  refine sat_seq ?_
  simp only [sat_ok, sat_bad, sat_bind, sat_ite, bind_ok, bind_bad, thn_nx, thn_rt, thn_bk, thn_ct, fin_rt, fin_nx, ev_v, ev_c, ev_op, ev_un, ev_nil, ev_cons, ev_tup, ev_lst, ev_call, ev_own, ev_sl, ev_no, ev_part, ev_and, ev_or, ev_not, ev_if, ev_t, ev_tb, ev_tnot, ev_tand, ev_tor, ev_mt, ev_mt0, ev_rgd, ev_set, ev_asg, ev_ret, ev_retN, ev_ex, ev_pass, ev_brk, ev_cont, ev_ifS, ev_aug, ev_gn, ev_gtp, ev_gnl, ev_gcs, ev_gsb, ev_for, ev_rg1, ev_rg2, ev_its, ev_enum, ev_lc, ev_yes, ev_add_ii, ev_add_ss, ev_add_tt, ev_add_rr, ev_sub, ev_mul, ev_mod, ev_fdiv, ev_pow, ev_neg, ev_lt, ev_le, ev_gt, ev_ge, ev_eq_ii, ev_eq_ss, ev_eq_bb, ev_ne_ii, ev_ne_ss, ev_ne_bb, ev_is_n, ev_isnt_n, ev_int_i, ev_int_b, ev_min_ii, ev_max_ii, ev_abs, ev_tup_of, ev_tup_ofL, ev_lst_ofT, ev_lst_ofL, ev_len_t, ev_len_s, ev_len_r, ev_tru_b, ev_alloc, ev_tupD, ev_lstD, isi_tuple_non, isi_tuple_bl, isi_tuple_int, isi_tuple_str, isi_tuple_tup, isi_tuple_l, isi_tuple_f, isi_list_non, isi_list_bl, isi_list_int, isi_list_str, isi_list_tup, isi_list_l, isi_list_f, isi_bool_non, isi_bool_bl, isi_bool_int, isi_bool_str, isi_bool_tup, isi_bool_l, isi_bool_f, isi_int_non, isi_int_bl, isi_int_int, isi_int_str, isi_int_tup, isi_int_l, isi_int_f, isi_str_non, isi_str_bl, isi_str_int, isi_str_str, isi_str_tup, isi_str_l, isi_str_f, isi_dict_non, isi_dict_bl, isi_dict_int, isi_dict_str, isi_dict_tup, isi_dict_l, isi_dict_f, Ab.isNon, args, List.map, List.length_cons, List.length_nil, List.length_singleton, List.replicate, Nat.reduceSub, Nat.reduceAdd, Nat.zero_add, List.cons_append, List.nil_append, List.getElem?_cons_zero, List.getElem?_cons_succ, List.set_cons_zero, List.set_cons_succ, Option.some.injEq, decide_eq_true_eq, Bool.not_eq_true', decide_eq_false_iff_not, ite_true, ite_false, if_true, if_false, reduceIte, Bool.false_eq_true, Bool.not_true, Bool.not_false, Bool.true_eq_false, decide_true, decide_false, Nat.reduceLeDiff, Nat.reduceLT, e1]
  rw [if_pos (inRg_of (by omega) (by omega)), Int.toNat_natCast]
  refine order_spec hs D5 hL hO lL lO LO (by omega) rfl rfl rfl (by simp) fun B x DB ⟨os, pm, hO⟩ => ?_
  rw [ls_natL] at hO
  have ol : os.length = m := by rw [pm.length_eq, List.length_range]
  rw [ol] at hO
  have lB := DB.le
  have sB := DB.src.lt
  -- the entries
  refine sat_seq ?_
  simp only [sat_ok, sat_bad, sat_bind, sat_ite, bind_ok, bind_bad, thn_nx, thn_rt, thn_bk, thn_ct, fin_rt, fin_nx, ev_v, ev_c, ev_op, ev_un, ev_nil, ev_cons, ev_tup, ev_lst, ev_call, ev_own, ev_sl, ev_no, ev_part, ev_and, ev_or, ev_not, ev_if, ev_t, ev_tb, ev_tnot, ev_tand, ev_tor, ev_mt, ev_mt0, ev_rgd, ev_set, ev_asg, ev_ret, ev_retN, ev_ex, ev_pass, ev_brk, ev_cont, ev_ifS, ev_aug, ev_gn, ev_gtp, ev_gnl, ev_gcs, ev_gsb, ev_for, ev_rg1, ev_rg2, ev_its, ev_enum, ev_lc, ev_yes, ev_add_ii, ev_add_ss, ev_add_tt, ev_add_rr, ev_sub, ev_mul, ev_mod, ev_fdiv, ev_pow, ev_neg, ev_lt, ev_le, ev_gt, ev_ge, ev_eq_ii, ev_eq_ss, ev_eq_bb, ev_ne_ii, ev_ne_ss, ev_ne_bb, ev_is_n, ev_isnt_n, ev_int_i, ev_int_b, ev_min_ii, ev_max_ii, ev_abs, ev_tup_of, ev_tup_ofL, ev_lst_ofT, ev_lst_ofL, ev_len_t, ev_len_s, ev_len_r, ev_tru_b, ev_alloc, ev_tupD, ev_lstD, isi_tuple_non, isi_tuple_bl, isi_tuple_int, isi_tuple_str, isi_tuple_tup, isi_tuple_l, isi_tuple_f, isi_list_non, isi_list_bl, isi_list_int, isi_list_str, isi_list_tup, isi_list_l, isi_list_f, isi_bool_non, isi_bool_bl, isi_bool_int, isi_bool_str, isi_bool_tup, isi_bool_l, isi_bool_f, isi_int_non, isi_int_bl, isi_int_int, isi_int_str, isi_int_tup, isi_int_l, isi_int_f, isi_str_non, isi_str_bl, isi_str_int, isi_str_str, isi_str_tup, isi_str_l, isi_str_f, isi_dict_non, isi_dict_bl, isi_dict_int, isi_dict_str, isi_dict_tup, isi_dict_l, isi_dict_f, Ab.isNon, args, List.map, List.length_cons, List.length_nil, List.length_singleton, List.replicate, Nat.reduceSub, Nat.reduceAdd, Nat.zero_add, List.cons_append, List.nil_append, List.getElem?_cons_zero, List.getElem?_cons_succ, List.set_cons_zero, List.set_cons_succ, Option.some.injEq, decide_eq_true_eq, Bool.not_eq_true', decide_eq_false_iff_not, ite_true, ite_false, if_true, if_false, reduceIte, Bool.false_eq_true, Bool.not_true, Bool.not_false, Bool.true_eq_false, decide_true, decide_false, Nat.reduceLeDiff, Nat.reduceLT, wipeA]
  rw [if_pos (inRg_of (by omega) (by omega)), Int.toNat_natCast]
  have hO' := (Gr.app (A := B) (B := [AO.lst []])).keep _ _ hO
  have OE : O ≠ B.length := by have := at_lt hO; omega
  have Os : O ≠ s := by omega
  refine comp_range (fun j acc C => Dr s A C ∧ C[O]? = some (.lst (natL m fun k => os.getD k 0)) ∧ ∃ f : Nat → Int, acc = intL j f ∧ C[B.length]? = some (.lst acc)) (fun j acc C hj ⟨DC, hO, f, ha, hC⟩ => ?_) (fun acc C ⟨DC, hO, f, ha, hC⟩ => ?_) (acc := []) ⟨DB.trans (Dr.app DB.src _), hO', fun _ => 0, rfl, at_new⟩
  · simp only [sat_ok, sat_bad, sat_bind, sat_ite, bind_ok, bind_bad, thn_nx, thn_rt, thn_bk, thn_ct, fin_rt, fin_nx, ev_v, ev_c, ev_op, ev_un, ev_nil, ev_cons, ev_tup, ev_lst, ev_call, ev_own, ev_sl, ev_no, ev_part, ev_and, ev_or, ev_not, ev_if, ev_t, ev_tb, ev_tnot, ev_tand, ev_tor, ev_mt, ev_mt0, ev_rgd, ev_set, ev_asg, ev_ret, ev_retN, ev_ex, ev_pass, ev_brk, ev_cont, ev_ifS, ev_aug, ev_gn, ev_gtp, ev_gnl, ev_gcs, ev_gsb, ev_for, ev_rg1, ev_rg2, ev_its, ev_enum, ev_lc, ev_yes, ev_add_ii, ev_add_ss, ev_add_tt, ev_add_rr, ev_sub, ev_mul, ev_mod, ev_fdiv, ev_pow, ev_neg, ev_lt, ev_le, ev_gt, ev_ge, ev_eq_ii, ev_eq_ss, ev_eq_bb, ev_ne_ii, ev_ne_ss, ev_ne_bb, ev_is_n, ev_isnt_n, ev_int_i, ev_int_b, ev_min_ii, ev_max_ii, ev_abs, ev_tup_of, ev_tup_ofL, ev_lst_ofT, ev_lst_ofL, ev_len_t, ev_len_s, ev_len_r, ev_tru_b, ev_alloc, ev_tupD, ev_lstD, isi_tuple_non, isi_tuple_bl, isi_tuple_int, isi_tuple_str, isi_tuple_tup, isi_tuple_l, isi_tuple_f, isi_list_non, isi_list_bl, isi_list_int, isi_list_str, isi_list_tup, isi_list_l, isi_list_f, isi_bool_non, isi_bool_bl, isi_bool_int, isi_bool_str, isi_bool_tup, isi_bool_l, isi_bool_f, isi_int_non, isi_int_bl, isi_int_int, isi_int_str, isi_int_tup, isi_int_l, isi_int_f, isi_str_non, isi_str_bl, isi_str_int, isi_str_str, isi_str_tup, isi_str_l, isi_str_f, isi_dict_non, isi_dict_bl, isi_dict_int, isi_dict_str, isi_dict_tup, isi_dict_l, isi_dict_f, Ab.isNon, args, List.map, List.length_cons, List.length_nil, List.length_singleton, List.replicate, Nat.reduceSub, Nat.reduceAdd, Nat.zero_add, List.cons_append, List.nil_append, List.getElem?_cons_zero, List.getElem?_cons_succ, List.set_cons_zero, List.set_cons_succ, Option.some.injEq, decide_eq_true_eq, Bool.not_eq_true', decide_eq_false_iff_not, ite_true, ite_false, if_true, if_false, reduceIte, Bool.false_eq_true, Bool.not_true, Bool.not_false, Bool.true_eq_false, decide_true, decide_false, Nat.reduceLeDiff, Nat.reduceLT]
    refine Sat.imp (znumber_spec DC.src) fun d C2 ⟨⟨w, e⟩, dr⟩ => ?_
    subst e
    have hC := dr.keep _ _ (by omega) hC
    have hO := dr.keep _ _ Os hO
    exact ⟨hC, by rw [ha]; simp [intL]; omega, (DC.trans dr).setN lB hs, by rw [List.getElem?_set_ne (Ne.symm OE)]; exact hO, _, by rw [ha, intL_snoc], at_set (at_lt hC)⟩
  subst ha
  refine sat_seq ?_
  simp only [sat_ok, sat_bad, sat_bind, sat_ite, bind_ok, bind_bad, thn_nx, thn_rt, thn_bk, thn_ct, fin_rt, fin_nx, ev_v, ev_c, ev_op, ev_un, ev_nil, ev_cons, ev_tup, ev_lst, ev_call, ev_own, ev_sl, ev_no, ev_part, ev_and, ev_or, ev_not, ev_if, ev_t, ev_tb, ev_tnot, ev_tand, ev_tor, ev_mt, ev_mt0, ev_rgd, ev_set, ev_asg, ev_ret, ev_retN, ev_ex, ev_pass, ev_brk, ev_cont, ev_ifS, ev_aug, ev_gn, ev_gtp, ev_gnl, ev_gcs, ev_gsb, ev_for, ev_rg1, ev_rg2, ev_its, ev_enum, ev_lc, ev_yes, ev_add_ii, ev_add_ss, ev_add_tt, ev_add_rr, ev_sub, ev_mul, ev_mod, ev_fdiv, ev_pow, ev_neg, ev_lt, ev_le, ev_gt, ev_ge, ev_eq_ii, ev_eq_ss, ev_eq_bb, ev_ne_ii, ev_ne_ss, ev_ne_bb, ev_is_n, ev_isnt_n, ev_int_i, ev_int_b, ev_min_ii, ev_max_ii, ev_abs, ev_tup_of, ev_tup_ofL, ev_lst_ofT, ev_lst_ofL, ev_len_t, ev_len_s, ev_len_r, ev_tru_b, ev_alloc, ev_tupD, ev_lstD, isi_tuple_non, isi_tuple_bl, isi_tuple_int, isi_tuple_str, isi_tuple_tup, isi_tuple_l, isi_tuple_f, isi_list_non, isi_list_bl, isi_list_int, isi_list_str, isi_list_tup, isi_list_l, isi_list_f, isi_bool_non, isi_bool_bl, isi_bool_int, isi_bool_str, isi_bool_tup, isi_bool_l, isi_bool_f, isi_int_non, isi_int_bl, isi_int_int, isi_int_str, isi_int_tup, isi_int_l, isi_int_f, isi_str_non, isi_str_bl, isi_str_int, isi_str_str, isi_str_tup, isi_str_l, isi_str_f, isi_dict_non, isi_dict_bl, isi_dict_int, isi_dict_str, isi_dict_tup, isi_dict_l, isi_dict_f, Ab.isNon, args, List.map, List.length_cons, List.length_nil, List.length_singleton, List.replicate, Nat.reduceSub, Nat.reduceAdd, Nat.zero_add, List.cons_append, List.nil_append, List.getElem?_cons_zero, List.getElem?_cons_succ, List.set_cons_zero, List.set_cons_succ, Option.some.injEq, decide_eq_true_eq, Bool.not_eq_true', decide_eq_false_iff_not, ite_true, ite_false, if_true, if_false, reduceIte, Bool.false_eq_true, Bool.not_true, Bool.not_false, Bool.true_eq_false, decide_true, decide_false, Nat.reduceLeDiff, Nat.reduceLT, ty_l hC]
  refine Sat.imp (pick_pos DC.src (n := 5) (by decide) (by decide)) fun d C2 ⟨⟨w, e, w0, w1⟩, dr⟩ => ?_
  subst e
  have hC := dr.keep _ _ (by omega) hC
  have hO := dr.keep _ _ Os hO
  have DC := DC.trans dr
  have em : ∀ (m : Nat) (f : Nat → Int), intL m f = ((List.range m).map f).map D.int := fun m f => by unfold intL; rw [List.map_map]; rfl
  have hs1 : sumD [.ref B.length] C2 = .ok (.int ((List.range n).map f).sum) C2 := ev_sum_l (by rw [← em]; exact hC)
  simp only [sat_ok, sat_bad, sat_bind, sat_ite, bind_ok, bind_bad, thn_nx, thn_rt, thn_bk, thn_ct, fin_rt, fin_nx, ev_v, ev_c, ev_op, ev_un, ev_nil, ev_cons, ev_tup, ev_lst, ev_call, ev_own, ev_sl, ev_no, ev_part, ev_and, ev_or, ev_not, ev_if, ev_t, ev_tb, ev_tnot, ev_tand, ev_tor, ev_mt, ev_mt0, ev_rgd, ev_set, ev_asg, ev_ret, ev_retN, ev_ex, ev_pass, ev_brk, ev_cont, ev_ifS, ev_aug, ev_gn, ev_gtp, ev_gnl, ev_gcs, ev_gsb, ev_for, ev_rg1, ev_rg2, ev_its, ev_enum, ev_lc, ev_yes, ev_add_ii, ev_add_ss, ev_add_tt, ev_add_rr, ev_sub, ev_mul, ev_mod, ev_fdiv, ev_pow, ev_neg, ev_lt, ev_le, ev_gt, ev_ge, ev_eq_ii, ev_eq_ss, ev_eq_bb, ev_ne_ii, ev_ne_ss, ev_ne_bb, ev_is_n, ev_isnt_n, ev_int_i, ev_int_b, ev_min_ii, ev_max_ii, ev_abs, ev_tup_of, ev_tup_ofL, ev_lst_ofT, ev_lst_ofL, ev_len_t, ev_len_s, ev_len_r, ev_tru_b, ev_alloc, ev_tupD, ev_lstD, isi_tuple_non, isi_tuple_bl, isi_tuple_int, isi_tuple_str, isi_tuple_tup, isi_tuple_l, isi_tuple_f, isi_list_non, isi_list_bl, isi_list_int, isi_list_str, isi_list_tup, isi_list_l, isi_list_f, isi_bool_non, isi_bool_bl, isi_bool_int, isi_bool_str, isi_bool_tup, isi_bool_l, isi_bool_f, isi_int_non, isi_int_bl, isi_int_int, isi_int_str, isi_int_tup, isi_int_l, isi_int_f, isi_str_non, isi_str_bl, isi_str_int, isi_str_str, isi_str_tup, isi_str_l, isi_str_f, isi_dict_non, isi_dict_bl, isi_dict_int, isi_dict_str, isi_dict_tup, isi_dict_l, isi_dict_f, Ab.isNon, args, List.map, List.length_cons, List.length_nil, List.length_singleton, List.replicate, Nat.reduceSub, Nat.reduceAdd, Nat.zero_add, List.cons_append, List.nil_append, List.getElem?_cons_zero, List.getElem?_cons_succ, List.set_cons_zero, List.set_cons_succ, Option.some.injEq, decide_eq_true_eq, Bool.not_eq_true', decide_eq_false_iff_not, ite_true, ite_false, if_true, if_false, reduceIte, Bool.false_eq_true, Bool.not_true, Bool.not_false, Bool.true_eq_false, decide_true, decide_false, Nat.reduceLeDiff, Nat.reduceLT, hs1]
  rw [ev_app hC (by simp [intL]; omega), intL_snoc, ← e2]
  simp only [sat_ok, sat_bad, sat_bind, sat_ite, bind_ok, bind_bad, thn_nx, thn_rt, thn_bk, thn_ct, fin_rt, fin_nx, ev_v, ev_c, ev_op, ev_un, ev_nil, ev_cons, ev_tup, ev_lst, ev_call, ev_own, ev_sl, ev_no, ev_part, ev_and, ev_or, ev_not, ev_if, ev_t, ev_tb, ev_tnot, ev_tand, ev_tor, ev_mt, ev_mt0, ev_rgd, ev_set, ev_asg, ev_ret, ev_retN, ev_ex, ev_pass, ev_brk, ev_cont, ev_ifS, ev_aug, ev_gn, ev_gtp, ev_gnl, ev_gcs, ev_gsb, ev_for, ev_rg1, ev_rg2, ev_its, ev_enum, ev_lc, ev_yes, ev_add_ii, ev_add_ss, ev_add_tt, ev_add_rr, ev_sub, ev_mul, ev_mod, ev_fdiv, ev_pow, ev_neg, ev_lt, ev_le, ev_gt, ev_ge, ev_eq_ii, ev_eq_ss, ev_eq_bb, ev_ne_ii, ev_ne_ss, ev_ne_bb, ev_is_n, ev_isnt_n, ev_int_i, ev_int_b, ev_min_ii, ev_max_ii, ev_abs, ev_tup_of, ev_tup_ofL, ev_lst_ofT, ev_lst_ofL, ev_len_t, ev_len_s, ev_len_r, ev_tru_b, ev_alloc, ev_tupD, ev_lstD, isi_tuple_non, isi_tuple_bl, isi_tuple_int, isi_tuple_str, isi_tuple_tup, isi_tuple_l, isi_tuple_f, isi_list_non, isi_list_bl, isi_list_int, isi_list_str, isi_list_tup, isi_list_l, isi_list_f, isi_bool_non, isi_bool_bl, isi_bool_int, isi_bool_str, isi_bool_tup, isi_bool_l, isi_bool_f, isi_int_non, isi_int_bl, isi_int_int, isi_int_str, isi_int_tup, isi_int_l, isi_int_f, isi_str_non, isi_str_bl, isi_str_int, isi_str_str, isi_str_tup, isi_str_l, isi_str_f, isi_dict_non, isi_dict_bl, isi_dict_int, isi_dict_str, isi_dict_tup, isi_dict_l, isi_dict_f, Ab.isNon, args, List.map, List.length_cons, List.length_nil, List.length_singleton, List.replicate, Nat.reduceSub, Nat.reduceAdd, Nat.zero_add, List.cons_append, List.nil_append, List.getElem?_cons_zero, List.getElem?_cons_succ, List.set_cons_zero, List.set_cons_succ, Option.some.injEq, decide_eq_true_eq, Bool.not_eq_true', decide_eq_false_iff_not, ite_true, ite_false, if_true, if_false, reduceIte, Bool.false_eq_true, Bool.not_true, Bool.not_false, Bool.true_eq_false, decide_true, decide_false, Nat.reduceLeDiff, Nat.reduceLT]
  generalize hf : (fun k => if k = n then w - 1 - ((List.range n).map f).sum else f k) = es
  have hE := at_set (o := .lst (intL m es)) (at_lt hC)
  have hO2 : (C2.set B.length (.lst (intL m es)))[O]? = some (.lst (natL m fun k => os.getD k 0)) := by rw [List.getElem?_set_ne (Ne.symm OE)]; exact hO
  have D6 := DC.setN (o := .lst (intL m es)) lB hs
  clear hf hs1 hC hO
  generalize C2.set B.length (.lst (intL m es)) = A6 at hE hO2 D6 ⊢
  generalize B.length = E at hE OE lB ⊢
  -- far
  refine sat_seq ?_
  simp only [sat_ok, sat_bad, sat_bind, sat_ite, bind_ok, bind_bad, thn_nx, thn_rt, thn_bk, thn_ct, fin_rt, fin_nx, ev_v, ev_c, ev_op, ev_un, ev_nil, ev_cons, ev_tup, ev_lst, ev_call, ev_own, ev_sl, ev_no, ev_part, ev_and, ev_or, ev_not, ev_if, ev_t, ev_tb, ev_tnot, ev_tand, ev_tor, ev_mt, ev_mt0, ev_rgd, ev_set, ev_asg, ev_ret, ev_retN, ev_ex, ev_pass, ev_brk, ev_cont, ev_ifS, ev_aug, ev_gn, ev_gtp, ev_gnl, ev_gcs, ev_gsb, ev_for, ev_rg1, ev_rg2, ev_its, ev_enum, ev_lc, ev_yes, ev_add_ii, ev_add_ss, ev_add_tt, ev_add_rr, ev_sub, ev_mul, ev_mod, ev_fdiv, ev_pow, ev_neg, ev_lt, ev_le, ev_gt, ev_ge, ev_eq_ii, ev_eq_ss, ev_eq_bb, ev_ne_ii, ev_ne_ss, ev_ne_bb, ev_is_n, ev_isnt_n, ev_int_i, ev_int_b, ev_min_ii, ev_max_ii, ev_abs, ev_tup_of, ev_tup_ofL, ev_lst_ofT, ev_lst_ofL, ev_len_t, ev_len_s, ev_len_r, ev_tru_b, ev_alloc, ev_tupD, ev_lstD, isi_tuple_non, isi_tuple_bl, isi_tuple_int, isi_tuple_str, isi_tuple_tup, isi_tuple_l, isi_tuple_f, isi_list_non, isi_list_bl, isi_list_int, isi_list_str, isi_list_tup, isi_list_l, isi_list_f, isi_bool_non, isi_bool_bl, isi_bool_int, isi_bool_str, isi_bool_tup, isi_bool_l, isi_bool_f, isi_int_non, isi_int_bl, isi_int_int, isi_int_str, isi_int_tup, isi_int_l, isi_int_f, isi_str_non, isi_str_bl, isi_str_int, isi_str_str, isi_str_tup, isi_str_l, isi_str_f, isi_dict_non, isi_dict_bl, isi_dict_int, isi_dict_str, isi_dict_tup, isi_dict_l, isi_dict_f, Ab.isNon, args, List.map, List.length_cons, List.length_nil, List.length_singleton, List.replicate, Nat.reduceSub, Nat.reduceAdd, Nat.zero_add, List.cons_append, List.nil_append, List.getElem?_cons_zero, List.getElem?_cons_succ, List.set_cons_zero, List.set_cons_succ, Option.some.injEq, decide_eq_true_eq, Bool.not_eq_true', decide_eq_false_iff_not, ite_true, ite_false, if_true, if_false, reduceIte, Bool.false_eq_true, Bool.not_true, Bool.not_false, Bool.true_eq_false, decide_true, decide_false, Nat.reduceLeDiff, Nat.reduceLT, wipeA]
  rw [ev_iseq_l hE]
  simp only [sat_ok, sat_bad, sat_bind, sat_ite, bind_ok, bind_bad, thn_nx, thn_rt, thn_bk, thn_ct, fin_rt, fin_nx, ev_v, ev_c, ev_op, ev_un, ev_nil, ev_cons, ev_tup, ev_lst, ev_call, ev_own, ev_sl, ev_no, ev_part, ev_and, ev_or, ev_not, ev_if, ev_t, ev_tb, ev_tnot, ev_tand, ev_tor, ev_mt, ev_mt0, ev_rgd, ev_set, ev_asg, ev_ret, ev_retN, ev_ex, ev_pass, ev_brk, ev_cont, ev_ifS, ev_aug, ev_gn, ev_gtp, ev_gnl, ev_gcs, ev_gsb, ev_for, ev_rg1, ev_rg2, ev_its, ev_enum, ev_lc, ev_yes, ev_add_ii, ev_add_ss, ev_add_tt, ev_add_rr, ev_sub, ev_mul, ev_mod, ev_fdiv, ev_pow, ev_neg, ev_lt, ev_le, ev_gt, ev_ge, ev_eq_ii, ev_eq_ss, ev_eq_bb, ev_ne_ii, ev_ne_ss, ev_ne_bb, ev_is_n, ev_isnt_n, ev_int_i, ev_int_b, ev_min_ii, ev_max_ii, ev_abs, ev_tup_of, ev_tup_ofL, ev_lst_ofT, ev_lst_ofL, ev_len_t, ev_len_s, ev_len_r, ev_tru_b, ev_alloc, ev_tupD, ev_lstD, isi_tuple_non, isi_tuple_bl, isi_tuple_int, isi_tuple_str, isi_tuple_tup, isi_tuple_l, isi_tuple_f, isi_list_non, isi_list_bl, isi_list_int, isi_list_str, isi_list_tup, isi_list_l, isi_list_f, isi_bool_non, isi_bool_bl, isi_bool_int, isi_bool_str, isi_bool_tup, isi_bool_l, isi_bool_f, isi_int_non, isi_int_bl, isi_int_int, isi_int_str, isi_int_tup, isi_int_l, isi_int_f, isi_str_non, isi_str_bl, isi_str_int, isi_str_str, isi_str_tup, isi_str_l, isi_str_f, isi_dict_non, isi_dict_bl, isi_dict_int, isi_dict_str, isi_dict_tup, isi_dict_l, isi_dict_f, Ab.isNon, args, List.map, List.length_cons, List.length_nil, List.length_singleton, List.replicate, Nat.reduceSub, Nat.reduceAdd, Nat.zero_add, List.cons_append, List.nil_append, List.getElem?_cons_zero, List.getElem?_cons_succ, List.set_cons_zero, List.set_cons_succ, Option.some.injEq, decide_eq_true_eq, Bool.not_eq_true', decide_eq_false_iff_not, ite_true, ite_false, if_true, if_false, reduceIte, Bool.false_eq_true, Bool.not_true, Bool.not_false, Bool.true_eq_false, decide_true, decide_false, Nat.reduceLeDiff, Nat.reduceLT]
  refine comp_pure (fun k => D.int (es k)) (fun k => D.int (absZ (es k))) (fun l => rdL_l (Gr.app.keep _ _ hE)) (fun k hk l => ?_) (by simp; omega) ?_
  · simp only [sat_ok, sat_bad, sat_bind, sat_ite, bind_ok, bind_bad, thn_nx, thn_rt, thn_bk, thn_ct, fin_rt, fin_nx, ev_v, ev_c, ev_op, ev_un, ev_nil, ev_cons, ev_tup, ev_lst, ev_call, ev_own, ev_sl, ev_no, ev_part, ev_and, ev_or, ev_not, ev_if, ev_t, ev_tb, ev_tnot, ev_tand, ev_tor, ev_mt, ev_mt0, ev_rgd, ev_set, ev_asg, ev_ret, ev_retN, ev_ex, ev_pass, ev_brk, ev_cont, ev_ifS, ev_aug, ev_gn, ev_gtp, ev_gnl, ev_gcs, ev_gsb, ev_for, ev_rg1, ev_rg2, ev_its, ev_enum, ev_lc, ev_yes, ev_add_ii, ev_add_ss, ev_add_tt, ev_add_rr, ev_sub, ev_mul, ev_mod, ev_fdiv, ev_pow, ev_neg, ev_lt, ev_le, ev_gt, ev_ge, ev_eq_ii, ev_eq_ss, ev_eq_bb, ev_ne_ii, ev_ne_ss, ev_ne_bb, ev_is_n, ev_isnt_n, ev_int_i, ev_int_b, ev_min_ii, ev_max_ii, ev_abs, ev_tup_of, ev_tup_ofL, ev_lst_ofT, ev_lst_ofL, ev_len_t, ev_len_s, ev_len_r, ev_tru_b, ev_alloc, ev_tupD, ev_lstD, isi_tuple_non, isi_tuple_bl, isi_tuple_int, isi_tuple_str, isi_tuple_tup, isi_tuple_l, isi_tuple_f, isi_list_non, isi_list_bl, isi_list_int, isi_list_str, isi_list_tup, isi_list_l, isi_list_f, isi_bool_non, isi_bool_bl, isi_bool_int, isi_bool_str, isi_bool_tup, isi_bool_l, isi_bool_f, isi_int_non, isi_int_bl, isi_int_int, isi_int_str, isi_int_tup, isi_int_l, isi_int_f, isi_str_non, isi_str_bl, isi_str_int, isi_str_str, isi_str_tup, isi_str_l, isi_str_f, isi_dict_non, isi_dict_bl, isi_dict_int, isi_dict_str, isi_dict_tup, isi_dict_l, isi_dict_f, Ab.isNon, args, List.map, List.length_cons, List.length_nil, List.length_singleton, List.replicate, Nat.reduceSub, Nat.reduceAdd, Nat.zero_add, List.cons_append, List.nil_append, List.getElem?_cons_zero, List.getElem?_cons_succ, List.set_cons_zero, List.set_cons_succ, Option.some.injEq, decide_eq_true_eq, Bool.not_eq_true', decide_eq_false_iff_not, ite_true, ite_false, if_true, if_false, reduceIte, Bool.false_eq_true, Bool.not_true, Bool.not_false, Bool.true_eq_false, decide_true, decide_false, Nat.reduceLeDiff, Nat.reduceLT]
    exact ⟨rfl, trivial⟩
  have hs2 : sumD [.ref A6.length] (A6 ++ [.lst ((List.range m).map fun k => D.int (absZ (es k)))]) = .ok (.int (tot es m)) (A6 ++ [.lst ((List.range m).map fun k => D.int (absZ (es k)))]) := by
    rw [← tot_sum]
    exact ev_sum_l (by rw [← em]; exact at_new)
  simp only [sat_ok, sat_bad, sat_bind, sat_ite, bind_ok, bind_bad, thn_nx, thn_rt, thn_bk, thn_ct, fin_rt, fin_nx, ev_v, ev_c, ev_op, ev_un, ev_nil, ev_cons, ev_tup, ev_lst, ev_call, ev_own, ev_sl, ev_no, ev_part, ev_and, ev_or, ev_not, ev_if, ev_t, ev_tb, ev_tnot, ev_tand, ev_tor, ev_mt, ev_mt0, ev_rgd, ev_set, ev_asg, ev_ret, ev_retN, ev_ex, ev_pass, ev_brk, ev_cont, ev_ifS, ev_aug, ev_gn, ev_gtp, ev_gnl, ev_gcs, ev_gsb, ev_for, ev_rg1, ev_rg2, ev_its, ev_enum, ev_lc, ev_yes, ev_add_ii, ev_add_ss, ev_add_tt, ev_add_rr, ev_sub, ev_mul, ev_mod, ev_fdiv, ev_pow, ev_neg, ev_lt, ev_le, ev_gt, ev_ge, ev_eq_ii, ev_eq_ss, ev_eq_bb, ev_ne_ii, ev_ne_ss, ev_ne_bb, ev_is_n, ev_isnt_n, ev_int_i, ev_int_b, ev_min_ii, ev_max_ii, ev_abs, ev_tup_of, ev_tup_ofL, ev_lst_ofT, ev_lst_ofL, ev_len_t, ev_len_s, ev_len_r, ev_tru_b, ev_alloc, ev_tupD, ev_lstD, isi_tuple_non, isi_tuple_bl, isi_tuple_int, isi_tuple_str, isi_tuple_tup, isi_tuple_l, isi_tuple_f, isi_list_non, isi_list_bl, isi_list_int, isi_list_str, isi_list_tup, isi_list_l, isi_list_f, isi_bool_non, isi_bool_bl, isi_bool_int, isi_bool_str, isi_bool_tup, isi_bool_l, isi_bool_f, isi_int_non, isi_int_bl, isi_int_int, isi_int_str, isi_int_tup, isi_int_l, isi_int_f, isi_str_non, isi_str_bl, isi_str_int, isi_str_str, isi_str_tup, isi_str_l, isi_str_f, isi_dict_non, isi_dict_bl, isi_dict_int, isi_dict_str, isi_dict_tup, isi_dict_l, isi_dict_f, Ab.isNon, args, List.map, List.length_cons, List.length_nil, List.length_singleton, List.replicate, Nat.reduceSub, Nat.reduceAdd, Nat.zero_add, List.cons_append, List.nil_append, List.getElem?_cons_zero, List.getElem?_cons_succ, List.set_cons_zero, List.set_cons_succ, Option.some.injEq, decide_eq_true_eq, Bool.not_eq_true', decide_eq_false_iff_not, ite_true, ite_false, if_true, if_false, reduceIte, Bool.false_eq_true, Bool.not_true, Bool.not_false, Bool.true_eq_false, decide_true, decide_false, Nat.reduceLeDiff, Nat.reduceLT, hs2]
  have g7 := Gr.app (A := A6) (B := [.lst ((List.range m).map fun k => D.int (absZ (es k)))])
  have hE := g7.keep _ _ hE
  have hO := g7.keep _ _ hO2
  have D7 := D6.trans (g7.dr D6.src)
  clear hs2
  generalize A6 ++ [AO.lst ((List.range m).map fun k => D.int (absZ (es k)))] = A7 at hE hO D7 ⊢
  -- place, sums
  refine sat_seq ?_
  simp only [sat_ok, sat_bad, sat_bind, sat_ite, bind_ok, bind_bad, thn_nx, thn_rt, thn_bk, thn_ct, fin_rt, fin_nx, ev_v, ev_c, ev_op, ev_un, ev_nil, ev_cons, ev_tup, ev_lst, ev_call, ev_own, ev_sl, ev_no, ev_part, ev_and, ev_or, ev_not, ev_if, ev_t, ev_tb, ev_tnot, ev_tand, ev_tor, ev_mt, ev_mt0, ev_rgd, ev_set, ev_asg, ev_ret, ev_retN, ev_ex, ev_pass, ev_brk, ev_cont, ev_ifS, ev_aug, ev_gn, ev_gtp, ev_gnl, ev_gcs, ev_gsb, ev_for, ev_rg1, ev_rg2, ev_its, ev_enum, ev_lc, ev_yes, ev_add_ii, ev_add_ss, ev_add_tt, ev_add_rr, ev_sub, ev_mul, ev_mod, ev_fdiv, ev_pow, ev_neg, ev_lt, ev_le, ev_gt, ev_ge, ev_eq_ii, ev_eq_ss, ev_eq_bb, ev_ne_ii, ev_ne_ss, ev_ne_bb, ev_is_n, ev_isnt_n, ev_int_i, ev_int_b, ev_min_ii, ev_max_ii, ev_abs, ev_tup_of, ev_tup_ofL, ev_lst_ofT, ev_lst_ofL, ev_len_t, ev_len_s, ev_len_r, ev_tru_b, ev_alloc, ev_tupD, ev_lstD, isi_tuple_non, isi_tuple_bl, isi_tuple_int, isi_tuple_str, isi_tuple_tup, isi_tuple_l, isi_tuple_f, isi_list_non, isi_list_bl, isi_list_int, isi_list_str, isi_list_tup, isi_list_l, isi_list_f, isi_bool_non, isi_bool_bl, isi_bool_int, isi_bool_str, isi_bool_tup, isi_bool_l, isi_bool_f, isi_int_non, isi_int_bl, isi_int_int, isi_int_str, isi_int_tup, isi_int_l, isi_int_f, isi_str_non, isi_str_bl, isi_str_int, isi_str_str, isi_str_tup, isi_str_l, isi_str_f, isi_dict_non, isi_dict_bl, isi_dict_int, isi_dict_str, isi_dict_tup, isi_dict_l, isi_dict_f, Ab.isNon, args, List.map, List.length_cons, List.length_nil, List.length_singleton, List.replicate, Nat.reduceSub, Nat.reduceAdd, Nat.zero_add, List.cons_append, List.nil_append, List.getElem?_cons_zero, List.getElem?_cons_succ, List.set_cons_zero, List.set_cons_succ, Option.some.injEq, decide_eq_true_eq, Bool.not_eq_true', decide_eq_false_iff_not, ite_true, ite_false, if_true, if_false, reduceIte, Bool.false_eq_true, Bool.not_true, Bool.not_false, Bool.true_eq_false, decide_true, decide_false, Nat.reduceLeDiff, Nat.reduceLT, e1]
  have rep := rep_spec (A := A7 ++ [.lst [.int 0]]) (r := A7.length) (d := .int 0) (m := m) at_new (by omega)
  simp only [sat_ok, sat_bad, sat_bind, sat_ite, bind_ok, bind_bad, thn_nx, thn_rt, thn_bk, thn_ct, fin_rt, fin_nx, ev_v, ev_c, ev_op, ev_un, ev_nil, ev_cons, ev_tup, ev_lst, ev_call, ev_own, ev_sl, ev_no, ev_part, ev_and, ev_or, ev_not, ev_if, ev_t, ev_tb, ev_tnot, ev_tand, ev_tor, ev_mt, ev_mt0, ev_rgd, ev_set, ev_asg, ev_ret, ev_retN, ev_ex, ev_pass, ev_brk, ev_cont, ev_ifS, ev_aug, ev_gn, ev_gtp, ev_gnl, ev_gcs, ev_gsb, ev_for, ev_rg1, ev_rg2, ev_its, ev_enum, ev_lc, ev_yes, ev_add_ii, ev_add_ss, ev_add_tt, ev_add_rr, ev_sub, ev_mul, ev_mod, ev_fdiv, ev_pow, ev_neg, ev_lt, ev_le, ev_gt, ev_ge, ev_eq_ii, ev_eq_ss, ev_eq_bb, ev_ne_ii, ev_ne_ss, ev_ne_bb, ev_is_n, ev_isnt_n, ev_int_i, ev_int_b, ev_min_ii, ev_max_ii, ev_abs, ev_tup_of, ev_tup_ofL, ev_lst_ofT, ev_lst_ofL, ev_len_t, ev_len_s, ev_len_r, ev_tru_b, ev_alloc, ev_tupD, ev_lstD, isi_tuple_non, isi_tuple_bl, isi_tuple_int, isi_tuple_str, isi_tuple_tup, isi_tuple_l, isi_tuple_f, isi_list_non, isi_list_bl, isi_list_int, isi_list_str, isi_list_tup, isi_list_l, isi_list_f, isi_bool_non, isi_bool_bl, isi_bool_int, isi_bool_str, isi_bool_tup, isi_bool_l, isi_bool_f, isi_int_non, isi_int_bl, isi_int_int, isi_int_str, isi_int_tup, isi_int_l, isi_int_f, isi_str_non, isi_str_bl, isi_str_int, isi_str_str, isi_str_tup, isi_str_l, isi_str_f, isi_dict_non, isi_dict_bl, isi_dict_int, isi_dict_str, isi_dict_tup, isi_dict_l, isi_dict_f, Ab.isNon, args, List.map, List.length_cons, List.length_nil, List.length_singleton, List.replicate, Nat.reduceSub, Nat.reduceAdd, Nat.zero_add, List.cons_append, List.nil_append, List.getElem?_cons_zero, List.getElem?_cons_succ, List.set_cons_zero, List.set_cons_succ, Option.some.injEq, decide_eq_true_eq, Bool.not_eq_true', decide_eq_false_iff_not, ite_true, ite_false, if_true, if_false, reduceIte, Bool.false_eq_true, Bool.not_true, Bool.not_false, Bool.true_eq_false, decide_true, decide_false, Nat.reduceLeDiff, Nat.reduceLT, rep]
  have o7 := at_lt hO
  have e7 := at_lt hE
  have g8 := Gr.app (A := A7) (B := [.lst [.int 0]])
  have g9 := Gr.app (A := A7 ++ [.lst [.int 0]]) (B := [.lst ((List.range m).map fun _ => .int 0)])
  have hP := at_new (A := A7 ++ [.lst [.int 0]]) (o := .lst ((List.range m).map fun _ => .int 0))
  have hE := g9.keep _ _ (g8.keep _ _ hE)
  have hO := g9.keep _ _ (g8.keep _ _ hO)
  have D8 := D7.trans ((g8.trans g9).dr D7.src)
  have lP : A.length ≤ (A7 ++ [AO.lst [.int 0]]).length := by have := D7.le; simp; omega
  have PO : (A7 ++ [AO.lst [.int 0]]).length ≠ O := by simp; omega
  have PE' : (A7 ++ [AO.lst [.int 0]]).length ≠ E := by simp; omega
  clear rep g8 g9
  generalize A7 ++ [AO.lst [.int 0]] ++ [AO.lst ((List.range m).map fun _ => .int 0)] = A8 at hP hE hO D8 ⊢
  generalize (A7 ++ [AO.lst [.int 0]]).length = Q at hP lP PO PE' ⊢
  have hP : A8[Q]? = some (.lst (natL m fun _ => 0)) := hP
  clear o7 e7
  refine sat_seq ?_
  simp only [sat_ok, sat_bad, sat_bind, sat_ite, bind_ok, bind_bad, thn_nx, thn_rt, thn_bk, thn_ct, fin_rt, fin_nx, ev_v, ev_c, ev_op, ev_un, ev_nil, ev_cons, ev_tup, ev_lst, ev_call, ev_own, ev_sl, ev_no, ev_part, ev_and, ev_or, ev_not, ev_if, ev_t, ev_tb, ev_tnot, ev_tand, ev_tor, ev_mt, ev_mt0, ev_rgd, ev_set, ev_asg, ev_ret, ev_retN, ev_ex, ev_pass, ev_brk, ev_cont, ev_ifS, ev_aug, ev_gn, ev_gtp, ev_gnl, ev_gcs, ev_gsb, ev_for, ev_rg1, ev_rg2, ev_its, ev_enum, ev_lc, ev_yes, ev_add_ii, ev_add_ss, ev_add_tt, ev_add_rr, ev_sub, ev_mul, ev_mod, ev_fdiv, ev_pow, ev_neg, ev_lt, ev_le, ev_gt, ev_ge, ev_eq_ii, ev_eq_ss, ev_eq_bb, ev_ne_ii, ev_ne_ss, ev_ne_bb, ev_is_n, ev_isnt_n, ev_int_i, ev_int_b, ev_min_ii, ev_max_ii, ev_abs, ev_tup_of, ev_tup_ofL, ev_lst_ofT, ev_lst_ofL, ev_len_t, ev_len_s, ev_len_r, ev_tru_b, ev_alloc, ev_tupD, ev_lstD, isi_tuple_non, isi_tuple_bl, isi_tuple_int, isi_tuple_str, isi_tuple_tup, isi_tuple_l, isi_tuple_f, isi_list_non, isi_list_bl, isi_list_int, isi_list_str, isi_list_tup, isi_list_l, isi_list_f, isi_bool_non, isi_bool_bl, isi_bool_int, isi_bool_str, isi_bool_tup, isi_bool_l, isi_bool_f, isi_int_non, isi_int_bl, isi_int_int, isi_int_str, isi_int_tup, isi_int_l, isi_int_f, isi_str_non, isi_str_bl, isi_str_int, isi_str_str, isi_str_tup, isi_str_l, isi_str_f, isi_dict_non, isi_dict_bl, isi_dict_int, isi_dict_str, isi_dict_tup, isi_dict_l, isi_dict_f, Ab.isNon, args, List.map, List.length_cons, List.length_nil, List.length_singleton, List.replicate, Nat.reduceSub, Nat.reduceAdd, Nat.zero_add, List.cons_append, List.nil_append, List.getElem?_cons_zero, List.getElem?_cons_succ, List.set_cons_zero, List.set_cons_succ, Option.some.injEq, decide_eq_true_eq, Bool.not_eq_true', decide_eq_false_iff_not, ite_true, ite_false, if_true, if_false, reduceIte, Bool.false_eq_true, Bool.not_true, Bool.not_false, Bool.true_eq_false, decide_true, decide_false, Nat.reduceLeDiff, Nat.reduceLT]
  have hS := at_new (A := A8) (o := .lst [.int 0])
  have o8 := at_lt hO
  have e8 := at_lt hE
  have p8 := at_lt hP
  have g10 := Gr.app (A := A8) (B := [.lst [.int 0]])
  have hE := g10.keep _ _ hE
  have hO := g10.keep _ _ hO
  have hP := g10.keep _ _ hP
  have D9 := D8.trans (g10.dr D8.src)
  have lS := D8.le
  have SO : A8.length ≠ O := by omega
  have SE : A8.length ≠ E := by omega
  have SQ : A8.length ≠ Q := by omega
  clear g10 o8 e8 p8
  generalize A8 ++ [AO.lst [.int 0]] = A9 at hS hP hE hO D9 ⊢
  generalize A8.length = S at hS lS SO SE SQ ⊢
  refine sat_seq ?_
  simp only [sat_ok, sat_bad, sat_bind, sat_ite, bind_ok, bind_bad, thn_nx, thn_rt, thn_bk, thn_ct, fin_rt, fin_nx, ev_v, ev_c, ev_op, ev_un, ev_nil, ev_cons, ev_tup, ev_lst, ev_call, ev_own, ev_sl, ev_no, ev_part, ev_and, ev_or, ev_not, ev_if, ev_t, ev_tb, ev_tnot, ev_tand, ev_tor, ev_mt, ev_mt0, ev_rgd, ev_set, ev_asg, ev_ret, ev_retN, ev_ex, ev_pass, ev_brk, ev_cont, ev_ifS, ev_aug, ev_gn, ev_gtp, ev_gnl, ev_gcs, ev_gsb, ev_for, ev_rg1, ev_rg2, ev_its, ev_enum, ev_lc, ev_yes, ev_add_ii, ev_add_ss, ev_add_tt, ev_add_rr, ev_sub, ev_mul, ev_mod, ev_fdiv, ev_pow, ev_neg, ev_lt, ev_le, ev_gt, ev_ge, ev_eq_ii, ev_eq_ss, ev_eq_bb, ev_ne_ii, ev_ne_ss, ev_ne_bb, ev_is_n, ev_isnt_n, ev_int_i, ev_int_b, ev_min_ii, ev_max_ii, ev_abs, ev_tup_of, ev_tup_ofL, ev_lst_ofT, ev_lst_ofL, ev_len_t, ev_len_s, ev_len_r, ev_tru_b, ev_alloc, ev_tupD, ev_lstD, isi_tuple_non, isi_tuple_bl, isi_tuple_int, isi_tuple_str, isi_tuple_tup, isi_tuple_l, isi_tuple_f, isi_list_non, isi_list_bl, isi_list_int, isi_list_str, isi_list_tup, isi_list_l, isi_list_f, isi_bool_non, isi_bool_bl, isi_bool_int, isi_bool_str, isi_bool_tup, isi_bool_l, isi_bool_f, isi_int_non, isi_int_bl, isi_int_int, isi_int_str, isi_int_tup, isi_int_l, isi_int_f, isi_str_non, isi_str_bl, isi_str_int, isi_str_str, isi_str_tup, isi_str_l, isi_str_f, isi_dict_non, isi_dict_bl, isi_dict_int, isi_dict_str, isi_dict_tup, isi_dict_l, isi_dict_f, Ab.isNon, args, List.map, List.length_cons, List.length_nil, List.length_singleton, List.replicate, Nat.reduceSub, Nat.reduceAdd, Nat.zero_add, List.cons_append, List.nil_append, List.getElem?_cons_zero, List.getElem?_cons_succ, List.set_cons_zero, List.set_cons_succ, Option.some.injEq, decide_eq_true_eq, Bool.not_eq_true', decide_eq_false_iff_not, ite_true, ite_false, if_true, if_false, reduceIte, Bool.false_eq_true, Bool.not_true, Bool.not_false, Bool.true_eq_false, decide_true, decide_false, Nat.reduceLeDiff, Nat.reduceLT, e1]
  rw [if_pos (inRg_of (by omega) (by omega)), Int.toNat_natCast]
  have onew : ∀ k, k < m → os.getD k 0 < m := fun k hk => by
    have : os.getD k 0 ∈ os := by rw [List.getD_eq_getElem?_getD, List.getElem?_eq_getElem (by omega)]; exact List.getElem_mem _
    exact List.mem_range.mp ((pm.mem_iff).mp this)
  have ond : ∀ i j, i < m → j < m → os.getD i 0 = os.getD j 0 → i = j := fun i j hi hj h => by
    have nd : os.Nodup := pm.nodup_iff.mpr List.nodup_range
    rw [List.getD_eq_getElem?_getD, List.getD_eq_getElem?_getD, List.getElem?_eq_getElem (by omega), List.getElem?_eq_getElem (by omega)] at h
    have h : os[i]'(by omega) = os[j]'(by omega) := h
    rcases Nat.lt_trichotomy i j with c | c | c
    · exact (List.pairwise_iff_getElem.mp nd i j (by omega) (by omega) c h).elim
    · exact c
    · exact (List.pairwise_iff_getElem.mp nd j i (by omega) (by omega) c h.symm).elim
  refine range_inv (fun k σ C => Dr s A C ∧ C[O]? = some (.lst (natL m fun k => os.getD k 0)) ∧ C[E]? = some (.lst (intL m es)) ∧ (∃ pl : Nat → Nat, C[Q]? = some (.lst (natL m pl)) ∧ ∀ j, j < k → pl (os.getD j 0) = j) ∧ (∃ su : Nat → Int, C[S]? = some (.lst (intL (k + 1) su)) ∧ su 0 = 0 ∧ ∀ j, j < k → su (j + 1) = su j + es j) ∧ ∃ x, σ = [some (.ref s), some (.int (n : Nat)), some (.int near), some (.ref A3.length), some (.ref O), x, some (.ref E), some (.int (tot es m)), none, some (.ref Q), some (.ref S), none, none, none, none, none, none, none])
    (fun k σ C hk ⟨DC, hO, hE, ⟨pl, hP, hpl⟩, ⟨su, hS, su0, hsu⟩, x, hσ⟩ => ?_) (fun σ C ⟨DC, hO, hE, ⟨pl, hP, hpl⟩, ⟨su, hS, su0, hsu⟩, x, hσ⟩ => ?_) ⟨D9, hO, hE, ⟨_, hP, fun _ h => absurd h (Nat.not_lt_zero _)⟩, ⟨fun _ => 0, hS, rfl, fun _ h => absurd h (Nat.not_lt_zero _)⟩, _, rfl⟩
  · subst hσ
    simp only [sat_ok, sat_bad, sat_bind, sat_ite, bind_ok, bind_bad, thn_nx, thn_rt, thn_bk, thn_ct, fin_rt, fin_nx, ev_v, ev_c, ev_op, ev_un, ev_nil, ev_cons, ev_tup, ev_lst, ev_call, ev_own, ev_sl, ev_no, ev_part, ev_and, ev_or, ev_not, ev_if, ev_t, ev_tb, ev_tnot, ev_tand, ev_tor, ev_mt, ev_mt0, ev_rgd, ev_set, ev_asg, ev_ret, ev_retN, ev_ex, ev_pass, ev_brk, ev_cont, ev_ifS, ev_aug, ev_gn, ev_gtp, ev_gnl, ev_gcs, ev_gsb, ev_for, ev_rg1, ev_rg2, ev_its, ev_enum, ev_lc, ev_yes, ev_add_ii, ev_add_ss, ev_add_tt, ev_add_rr, ev_sub, ev_mul, ev_mod, ev_fdiv, ev_pow, ev_neg, ev_lt, ev_le, ev_gt, ev_ge, ev_eq_ii, ev_eq_ss, ev_eq_bb, ev_ne_ii, ev_ne_ss, ev_ne_bb, ev_is_n, ev_isnt_n, ev_int_i, ev_int_b, ev_min_ii, ev_max_ii, ev_abs, ev_tup_of, ev_tup_ofL, ev_lst_ofT, ev_lst_ofL, ev_len_t, ev_len_s, ev_len_r, ev_tru_b, ev_alloc, ev_tupD, ev_lstD, isi_tuple_non, isi_tuple_bl, isi_tuple_int, isi_tuple_str, isi_tuple_tup, isi_tuple_l, isi_tuple_f, isi_list_non, isi_list_bl, isi_list_int, isi_list_str, isi_list_tup, isi_list_l, isi_list_f, isi_bool_non, isi_bool_bl, isi_bool_int, isi_bool_str, isi_bool_tup, isi_bool_l, isi_bool_f, isi_int_non, isi_int_bl, isi_int_int, isi_int_str, isi_int_tup, isi_int_l, isi_int_f, isi_str_non, isi_str_bl, isi_str_int, isi_str_str, isi_str_tup, isi_str_l, isi_str_f, isi_dict_non, isi_dict_bl, isi_dict_int, isi_dict_str, isi_dict_tup, isi_dict_l, isi_dict_f, Ab.isNon, args, List.map, List.length_cons, List.length_nil, List.length_singleton, List.replicate, Nat.reduceSub, Nat.reduceAdd, Nat.zero_add, List.cons_append, List.nil_append, List.getElem?_cons_zero, List.getElem?_cons_succ, List.set_cons_zero, List.set_cons_succ, Option.some.injEq, decide_eq_true_eq, Bool.not_eq_true', decide_eq_false_iff_not, ite_true, ite_false, if_true, if_false, reduceIte, Bool.false_eq_true, Bool.not_true, Bool.not_false, Bool.true_eq_false, decide_true, decide_false, Nat.reduceLeDiff, Nat.reduceLT, Int.zero_add]
    refine sat_seq ?_
    simp only [sat_ok, sat_bad, sat_bind, sat_ite, bind_ok, bind_bad, thn_nx, thn_rt, thn_bk, thn_ct, fin_rt, fin_nx, ev_v, ev_c, ev_op, ev_un, ev_nil, ev_cons, ev_tup, ev_lst, ev_call, ev_own, ev_sl, ev_no, ev_part, ev_and, ev_or, ev_not, ev_if, ev_t, ev_tb, ev_tnot, ev_tand, ev_tor, ev_mt, ev_mt0, ev_rgd, ev_set, ev_asg, ev_ret, ev_retN, ev_ex, ev_pass, ev_brk, ev_cont, ev_ifS, ev_aug, ev_gn, ev_gtp, ev_gnl, ev_gcs, ev_gsb, ev_for, ev_rg1, ev_rg2, ev_its, ev_enum, ev_lc, ev_yes, ev_add_ii, ev_add_ss, ev_add_tt, ev_add_rr, ev_sub, ev_mul, ev_mod, ev_fdiv, ev_pow, ev_neg, ev_lt, ev_le, ev_gt, ev_ge, ev_eq_ii, ev_eq_ss, ev_eq_bb, ev_ne_ii, ev_ne_ss, ev_ne_bb, ev_is_n, ev_isnt_n, ev_int_i, ev_int_b, ev_min_ii, ev_max_ii, ev_abs, ev_tup_of, ev_tup_ofL, ev_lst_ofT, ev_lst_ofL, ev_len_t, ev_len_s, ev_len_r, ev_tru_b, ev_alloc, ev_tupD, ev_lstD, isi_tuple_non, isi_tuple_bl, isi_tuple_int, isi_tuple_str, isi_tuple_tup, isi_tuple_l, isi_tuple_f, isi_list_non, isi_list_bl, isi_list_int, isi_list_str, isi_list_tup, isi_list_l, isi_list_f, isi_bool_non, isi_bool_bl, isi_bool_int, isi_bool_str, isi_bool_tup, isi_bool_l, isi_bool_f, isi_int_non, isi_int_bl, isi_int_int, isi_int_str, isi_int_tup, isi_int_l, isi_int_f, isi_str_non, isi_str_bl, isi_str_int, isi_str_str, isi_str_tup, isi_str_l, isi_str_f, isi_dict_non, isi_dict_bl, isi_dict_int, isi_dict_str, isi_dict_tup, isi_dict_l, isi_dict_f, Ab.isNon, args, List.map, List.length_cons, List.length_nil, List.length_singleton, List.replicate, Nat.reduceSub, Nat.reduceAdd, Nat.zero_add, List.cons_append, List.nil_append, List.getElem?_cons_zero, List.getElem?_cons_succ, List.set_cons_zero, List.set_cons_succ, Option.some.injEq, decide_eq_true_eq, Bool.not_eq_true', decide_eq_false_iff_not, ite_true, ite_false, if_true, if_false, reduceIte, Bool.false_eq_true, Bool.not_true, Bool.not_false, Bool.true_eq_false, decide_true, decide_false, Nat.reduceLeDiff, Nat.reduceLT, natL_ix hO hk]
    rw [ev_st_l (j := os.getD k 0) hP (by rw [ixN_pos (by omega) (by have := onew k hk; rw [show (natL m pl).length = m by simp [natL]]; omega)]; rfl), natL_set]
    simp only [sat_ok, sat_bad, sat_bind, sat_ite, bind_ok, bind_bad, thn_nx, thn_rt, thn_bk, thn_ct, fin_rt, fin_nx, ev_v, ev_c, ev_op, ev_un, ev_nil, ev_cons, ev_tup, ev_lst, ev_call, ev_own, ev_sl, ev_no, ev_part, ev_and, ev_or, ev_not, ev_if, ev_t, ev_tb, ev_tnot, ev_tand, ev_tor, ev_mt, ev_mt0, ev_rgd, ev_set, ev_asg, ev_ret, ev_retN, ev_ex, ev_pass, ev_brk, ev_cont, ev_ifS, ev_aug, ev_gn, ev_gtp, ev_gnl, ev_gcs, ev_gsb, ev_for, ev_rg1, ev_rg2, ev_its, ev_enum, ev_lc, ev_yes, ev_add_ii, ev_add_ss, ev_add_tt, ev_add_rr, ev_sub, ev_mul, ev_mod, ev_fdiv, ev_pow, ev_neg, ev_lt, ev_le, ev_gt, ev_ge, ev_eq_ii, ev_eq_ss, ev_eq_bb, ev_ne_ii, ev_ne_ss, ev_ne_bb, ev_is_n, ev_isnt_n, ev_int_i, ev_int_b, ev_min_ii, ev_max_ii, ev_abs, ev_tup_of, ev_tup_ofL, ev_lst_ofT, ev_lst_ofL, ev_len_t, ev_len_s, ev_len_r, ev_tru_b, ev_alloc, ev_tupD, ev_lstD, isi_tuple_non, isi_tuple_bl, isi_tuple_int, isi_tuple_str, isi_tuple_tup, isi_tuple_l, isi_tuple_f, isi_list_non, isi_list_bl, isi_list_int, isi_list_str, isi_list_tup, isi_list_l, isi_list_f, isi_bool_non, isi_bool_bl, isi_bool_int, isi_bool_str, isi_bool_tup, isi_bool_l, isi_bool_f, isi_int_non, isi_int_bl, isi_int_int, isi_int_str, isi_int_tup, isi_int_l, isi_int_f, isi_str_non, isi_str_bl, isi_str_int, isi_str_str, isi_str_tup, isi_str_l, isi_str_f, isi_dict_non, isi_dict_bl, isi_dict_int, isi_dict_str, isi_dict_tup, isi_dict_l, isi_dict_f, Ab.isNon, args, List.map, List.length_cons, List.length_nil, List.length_singleton, List.replicate, Nat.reduceSub, Nat.reduceAdd, Nat.zero_add, List.cons_append, List.nil_append, List.getElem?_cons_zero, List.getElem?_cons_succ, List.set_cons_zero, List.set_cons_succ, Option.some.injEq, decide_eq_true_eq, Bool.not_eq_true', decide_eq_false_iff_not, ite_true, ite_false, if_true, if_false, reduceIte, Bool.false_eq_true, Bool.not_true, Bool.not_false, Bool.true_eq_false, decide_true, decide_false, Nat.reduceLeDiff, Nat.reduceLT]
    have hO := hO
    have hO2 : (C.set Q (.lst (natL m fun i => if i = os.getD k 0 then k else pl i)))[O]? = some (.lst (natL m fun k => os.getD k 0)) := by rw [List.getElem?_set_ne PO]; exact hO
    have hE2 : (C.set Q (.lst (natL m fun i => if i = os.getD k 0 then k else pl i)))[E]? = some (.lst (intL m es)) := by rw [List.getElem?_set_ne PE']; exact hE
    have hS2 : (C.set Q (.lst (natL m fun i => if i = os.getD k 0 then k else pl i)))[S]? = some (.lst (intL (k + 1) su)) := by rw [List.getElem?_set_ne (Ne.symm SQ)]; exact hS
    have hP2 := at_set (o := .lst (natL m fun i => if i = os.getD k 0 then k else pl i)) (at_lt hP)
    have D10 := DC.setN (o := .lst (natL m fun i => if i = os.getD k 0 then k else pl i)) lP hs
    generalize C.set Q (.lst (natL m fun i => if i = os.getD k 0 then k else pl i)) = C2 at hO2 hE2 hS2 hP2 D10 ⊢
    simp only [sat_ok, sat_bad, sat_bind, sat_ite, bind_ok, bind_bad, thn_nx, thn_rt, thn_bk, thn_ct, fin_rt, fin_nx, ev_v, ev_c, ev_op, ev_un, ev_nil, ev_cons, ev_tup, ev_lst, ev_call, ev_own, ev_sl, ev_no, ev_part, ev_and, ev_or, ev_not, ev_if, ev_t, ev_tb, ev_tnot, ev_tand, ev_tor, ev_mt, ev_mt0, ev_rgd, ev_set, ev_asg, ev_ret, ev_retN, ev_ex, ev_pass, ev_brk, ev_cont, ev_ifS, ev_aug, ev_gn, ev_gtp, ev_gnl, ev_gcs, ev_gsb, ev_for, ev_rg1, ev_rg2, ev_its, ev_enum, ev_lc, ev_yes, ev_add_ii, ev_add_ss, ev_add_tt, ev_add_rr, ev_sub, ev_mul, ev_mod, ev_fdiv, ev_pow, ev_neg, ev_lt, ev_le, ev_gt, ev_ge, ev_eq_ii, ev_eq_ss, ev_eq_bb, ev_ne_ii, ev_ne_ss, ev_ne_bb, ev_is_n, ev_isnt_n, ev_int_i, ev_int_b, ev_min_ii, ev_max_ii, ev_abs, ev_tup_of, ev_tup_ofL, ev_lst_ofT, ev_lst_ofL, ev_len_t, ev_len_s, ev_len_r, ev_tru_b, ev_alloc, ev_tupD, ev_lstD, isi_tuple_non, isi_tuple_bl, isi_tuple_int, isi_tuple_str, isi_tuple_tup, isi_tuple_l, isi_tuple_f, isi_list_non, isi_list_bl, isi_list_int, isi_list_str, isi_list_tup, isi_list_l, isi_list_f, isi_bool_non, isi_bool_bl, isi_bool_int, isi_bool_str, isi_bool_tup, isi_bool_l, isi_bool_f, isi_int_non, isi_int_bl, isi_int_int, isi_int_str, isi_int_tup, isi_int_l, isi_int_f, isi_str_non, isi_str_bl, isi_str_int, isi_str_str, isi_str_tup, isi_str_l, isi_str_f, isi_dict_non, isi_dict_bl, isi_dict_int, isi_dict_str, isi_dict_tup, isi_dict_l, isi_dict_f, Ab.isNon, args, List.map, List.length_cons, List.length_nil, List.length_singleton, List.replicate, Nat.reduceSub, Nat.reduceAdd, Nat.zero_add, List.cons_append, List.nil_append, List.getElem?_cons_zero, List.getElem?_cons_succ, List.set_cons_zero, List.set_cons_succ, Option.some.injEq, decide_eq_true_eq, Bool.not_eq_true', decide_eq_false_iff_not, ite_true, ite_false, if_true, if_false, reduceIte, Bool.false_eq_true, Bool.not_true, Bool.not_false, Bool.true_eq_false, decide_true, decide_false, Nat.reduceLeDiff, Nat.reduceLT, ty_l hS2, intL_ix hS2 (Nat.lt_succ_self k), intL_ix hE2 hk]
    rw [ev_app hS2 (by simp [intL]; omega), intL_snoc]
    simp only [sat_ok, sat_bad, sat_bind, sat_ite, bind_ok, bind_bad, thn_nx, thn_rt, thn_bk, thn_ct, fin_rt, fin_nx, ev_v, ev_c, ev_op, ev_un, ev_nil, ev_cons, ev_tup, ev_lst, ev_call, ev_own, ev_sl, ev_no, ev_part, ev_and, ev_or, ev_not, ev_if, ev_t, ev_tb, ev_tnot, ev_tand, ev_tor, ev_mt, ev_mt0, ev_rgd, ev_set, ev_asg, ev_ret, ev_retN, ev_ex, ev_pass, ev_brk, ev_cont, ev_ifS, ev_aug, ev_gn, ev_gtp, ev_gnl, ev_gcs, ev_gsb, ev_for, ev_rg1, ev_rg2, ev_its, ev_enum, ev_lc, ev_yes, ev_add_ii, ev_add_ss, ev_add_tt, ev_add_rr, ev_sub, ev_mul, ev_mod, ev_fdiv, ev_pow, ev_neg, ev_lt, ev_le, ev_gt, ev_ge, ev_eq_ii, ev_eq_ss, ev_eq_bb, ev_ne_ii, ev_ne_ss, ev_ne_bb, ev_is_n, ev_isnt_n, ev_int_i, ev_int_b, ev_min_ii, ev_max_ii, ev_abs, ev_tup_of, ev_tup_ofL, ev_lst_ofT, ev_lst_ofL, ev_len_t, ev_len_s, ev_len_r, ev_tru_b, ev_alloc, ev_tupD, ev_lstD, isi_tuple_non, isi_tuple_bl, isi_tuple_int, isi_tuple_str, isi_tuple_tup, isi_tuple_l, isi_tuple_f, isi_list_non, isi_list_bl, isi_list_int, isi_list_str, isi_list_tup, isi_list_l, isi_list_f, isi_bool_non, isi_bool_bl, isi_bool_int, isi_bool_str, isi_bool_tup, isi_bool_l, isi_bool_f, isi_int_non, isi_int_bl, isi_int_int, isi_int_str, isi_int_tup, isi_int_l, isi_int_f, isi_str_non, isi_str_bl, isi_str_int, isi_str_str, isi_str_tup, isi_str_l, isi_str_f, isi_dict_non, isi_dict_bl, isi_dict_int, isi_dict_str, isi_dict_tup, isi_dict_l, isi_dict_f, Ab.isNon, args, List.map, List.length_cons, List.length_nil, List.length_singleton, List.replicate, Nat.reduceSub, Nat.reduceAdd, Nat.zero_add, List.cons_append, List.nil_append, List.getElem?_cons_zero, List.getElem?_cons_succ, List.set_cons_zero, List.set_cons_succ, Option.some.injEq, decide_eq_true_eq, Bool.not_eq_true', decide_eq_false_iff_not, ite_true, ite_false, if_true, if_false, reduceIte, Bool.false_eq_true, Bool.not_true, Bool.not_false, Bool.true_eq_false, decide_true, decide_false, Nat.reduceLeDiff, Nat.reduceLT, turn_]
    refine ⟨D10.setN lS hs, by rw [List.getElem?_set_ne SO]; exact hO2, by rw [List.getElem?_set_ne SE]; exact hE2, ⟨_, by rw [List.getElem?_set_ne SQ]; exact hP2, fun j hj => ?_⟩, ⟨_, at_set (at_lt hS2), ?_, fun j hj => ?_⟩, _, rfl⟩
    · by_cases c : j = k
      · subst c; simp
      · rw [if_neg fun z => c (ond j k (by omega) hk z)]
        exact hpl j (by omega)
    · rw [if_neg (by omega)]; exact su0
    · by_cases c : j = k
      · subst c
        rw [if_pos rfl, if_neg (by omega)]
      · rw [if_neg (by omega), if_neg (by omega)]
        exact hsu j (by omega)
  subst hσ
  have R : Ring m es su (fun k => os.getD k 0) pl := by
    have op : ∀ i, i < m → ∃ k, k < m ∧ os.getD k 0 = i := fun i hi => by
      have : i ∈ os := (pm.mem_iff).mpr (List.mem_range.mpr hi)
      obtain ⟨k, hk⟩ := List.mem_iff_getElem?.mp this
      exact ⟨k, by have := (List.getElem?_eq_some_iff.mp hk).1; omega, by rw [List.getD_eq_getElem?_getD, hk]; rfl⟩
    refine ⟨e3, fun i hi => ?_, onew, fun i hi => ?_, hpl, su0, hsu⟩
    · obtain ⟨k, hk, rfl⟩ := op i hi
      rw [hpl k hk]; exact hk
    · obtain ⟨k, hk, rfl⟩ := op i hi
      show os.getD (pl (os.getD k 0)) 0 = _
      rw [hpl k hk]
  simp only [sat_ok, sat_bad, sat_bind, sat_ite, bind_ok, bind_bad, thn_nx, thn_rt, thn_bk, thn_ct, fin_rt, fin_nx, ev_v, ev_c, ev_op, ev_un, ev_nil, ev_cons, ev_tup, ev_lst, ev_call, ev_own, ev_sl, ev_no, ev_part, ev_and, ev_or, ev_not, ev_if, ev_t, ev_tb, ev_tnot, ev_tand, ev_tor, ev_mt, ev_mt0, ev_rgd, ev_set, ev_asg, ev_ret, ev_retN, ev_ex, ev_pass, ev_brk, ev_cont, ev_ifS, ev_aug, ev_gn, ev_gtp, ev_gnl, ev_gcs, ev_gsb, ev_for, ev_rg1, ev_rg2, ev_its, ev_enum, ev_lc, ev_yes, ev_add_ii, ev_add_ss, ev_add_tt, ev_add_rr, ev_sub, ev_mul, ev_mod, ev_fdiv, ev_pow, ev_neg, ev_lt, ev_le, ev_gt, ev_ge, ev_eq_ii, ev_eq_ss, ev_eq_bb, ev_ne_ii, ev_ne_ss, ev_ne_bb, ev_is_n, ev_isnt_n, ev_int_i, ev_int_b, ev_min_ii, ev_max_ii, ev_abs, ev_tup_of, ev_tup_ofL, ev_lst_ofT, ev_lst_ofL, ev_len_t, ev_len_s, ev_len_r, ev_tru_b, ev_alloc, ev_tupD, ev_lstD, isi_tuple_non, isi_tuple_bl, isi_tuple_int, isi_tuple_str, isi_tuple_tup, isi_tuple_l, isi_tuple_f, isi_list_non, isi_list_bl, isi_list_int, isi_list_str, isi_list_tup, isi_list_l, isi_list_f, isi_bool_non, isi_bool_bl, isi_bool_int, isi_bool_str, isi_bool_tup, isi_bool_l, isi_bool_f, isi_int_non, isi_int_bl, isi_int_int, isi_int_str, isi_int_tup, isi_int_l, isi_int_f, isi_str_non, isi_str_bl, isi_str_int, isi_str_str, isi_str_tup, isi_str_l, isi_str_f, isi_dict_non, isi_dict_bl, isi_dict_int, isi_dict_str, isi_dict_tup, isi_dict_l, isi_dict_f, Ab.isNon, args, List.map, List.length_cons, List.length_nil, List.length_singleton, List.replicate, Nat.reduceSub, Nat.reduceAdd, Nat.zero_add, List.cons_append, List.nil_append, List.getElem?_cons_zero, List.getElem?_cons_succ, List.set_cons_zero, List.set_cons_succ, Option.some.injEq, decide_eq_true_eq, Bool.not_eq_true', decide_eq_false_iff_not, ite_true, ite_false, if_true, if_false, reduceIte, Bool.false_eq_true, Bool.not_true, Bool.not_false, Bool.true_eq_false, decide_true, decide_false, Nat.reduceLeDiff, Nat.reduceLT]
  have o8 := at_lt hO
  have e8 := at_lt hE
  have p8 := at_lt hP
  have s8 := at_lt hS
  have lC := DC.le
  refine sat_seq ?_
  simp only [sat_ok, sat_bad, sat_bind, sat_ite, bind_ok, bind_bad, thn_nx, thn_rt, thn_bk, thn_ct, fin_rt, fin_nx, ev_v, ev_c, ev_op, ev_un, ev_nil, ev_cons, ev_tup, ev_lst, ev_call, ev_own, ev_sl, ev_no, ev_part, ev_and, ev_or, ev_not, ev_if, ev_t, ev_tb, ev_tnot, ev_tand, ev_tor, ev_mt, ev_mt0, ev_rgd, ev_set, ev_asg, ev_ret, ev_retN, ev_ex, ev_pass, ev_brk, ev_cont, ev_ifS, ev_aug, ev_gn, ev_gtp, ev_gnl, ev_gcs, ev_gsb, ev_for, ev_rg1, ev_rg2, ev_its, ev_enum, ev_lc, ev_yes, ev_add_ii, ev_add_ss, ev_add_tt, ev_add_rr, ev_sub, ev_mul, ev_mod, ev_fdiv, ev_pow, ev_neg, ev_lt, ev_le, ev_gt, ev_ge, ev_eq_ii, ev_eq_ss, ev_eq_bb, ev_ne_ii, ev_ne_ss, ev_ne_bb, ev_is_n, ev_isnt_n, ev_int_i, ev_int_b, ev_min_ii, ev_max_ii, ev_abs, ev_tup_of, ev_tup_ofL, ev_lst_ofT, ev_lst_ofL, ev_len_t, ev_len_s, ev_len_r, ev_tru_b, ev_alloc, ev_tupD, ev_lstD, isi_tuple_non, isi_tuple_bl, isi_tuple_int, isi_tuple_str, isi_tuple_tup, isi_tuple_l, isi_tuple_f, isi_list_non, isi_list_bl, isi_list_int, isi_list_str, isi_list_tup, isi_list_l, isi_list_f, isi_bool_non, isi_bool_bl, isi_bool_int, isi_bool_str, isi_bool_tup, isi_bool_l, isi_bool_f, isi_int_non, isi_int_bl, isi_int_int, isi_int_str, isi_int_tup, isi_int_l, isi_int_f, isi_str_non, isi_str_bl, isi_str_int, isi_str_str, isi_str_tup, isi_str_l, isi_str_f, isi_dict_non, isi_dict_bl, isi_dict_int, isi_dict_str, isi_dict_tup, isi_dict_l, isi_dict_f, Ab.isNon, args, List.map, List.length_cons, List.length_nil, List.length_singleton, List.replicate, Nat.reduceSub, Nat.reduceAdd, Nat.zero_add, List.cons_append, List.nil_append, List.getElem?_cons_zero, List.getElem?_cons_succ, List.set_cons_zero, List.set_cons_succ, Option.some.injEq, decide_eq_true_eq, Bool.not_eq_true', decide_eq_false_iff_not, ite_true, ite_false, if_true, if_false, reduceIte, Bool.false_eq_true, Bool.not_true, Bool.not_false, Bool.true_eq_false, decide_true, decide_false, Nat.reduceLeDiff, Nat.reduceLT]
  refine sat_seq ?_
  have hX := at_new (A := C) (o := .lst [])
  have hY := at_new (A := C ++ [AO.lst []]) (o := .lst [])
  have g1 := Gr.app (A := C) (B := [AO.lst []])
  have g2 := Gr.app (A := C ++ [AO.lst []]) (B := [AO.lst []])
  have hX := g2.keep _ _ hX
  have g := g1.trans g2
  have hO := g.keep _ _ hO
  have hE := g.keep _ _ hE
  have hP := g.keep _ _ hP
  have hS := g.keep _ _ hS
  have D10 := DC.trans (g.dr DC.src)
  have lX : A.length ≤ C.length := lC
  have lY : A.length ≤ (C ++ [AO.lst []]).length := by simp; omega
  have XY : C.length < (C ++ [AO.lst []]).length := by simp
  have yO : O < C.length := o8
  simp only [sat_ok, sat_bad, sat_bind, sat_ite, bind_ok, bind_bad, thn_nx, thn_rt, thn_bk, thn_ct, fin_rt, fin_nx, ev_v, ev_c, ev_op, ev_un, ev_nil, ev_cons, ev_tup, ev_lst, ev_call, ev_own, ev_sl, ev_no, ev_part, ev_and, ev_or, ev_not, ev_if, ev_t, ev_tb, ev_tnot, ev_tand, ev_tor, ev_mt, ev_mt0, ev_rgd, ev_set, ev_asg, ev_ret, ev_retN, ev_ex, ev_pass, ev_brk, ev_cont, ev_ifS, ev_aug, ev_gn, ev_gtp, ev_gnl, ev_gcs, ev_gsb, ev_for, ev_rg1, ev_rg2, ev_its, ev_enum, ev_lc, ev_yes, ev_add_ii, ev_add_ss, ev_add_tt, ev_add_rr, ev_sub, ev_mul, ev_mod, ev_fdiv, ev_pow, ev_neg, ev_lt, ev_le, ev_gt, ev_ge, ev_eq_ii, ev_eq_ss, ev_eq_bb, ev_ne_ii, ev_ne_ss, ev_ne_bb, ev_is_n, ev_isnt_n, ev_int_i, ev_int_b, ev_min_ii, ev_max_ii, ev_abs, ev_tup_of, ev_tup_ofL, ev_lst_ofT, ev_lst_ofL, ev_len_t, ev_len_s, ev_len_r, ev_tru_b, ev_alloc, ev_tupD, ev_lstD, isi_tuple_non, isi_tuple_bl, isi_tuple_int, isi_tuple_str, isi_tuple_tup, isi_tuple_l, isi_tuple_f, isi_list_non, isi_list_bl, isi_list_int, isi_list_str, isi_list_tup, isi_list_l, isi_list_f, isi_bool_non, isi_bool_bl, isi_bool_int, isi_bool_str, isi_bool_tup, isi_bool_l, isi_bool_f, isi_int_non, isi_int_bl, isi_int_int, isi_int_str, isi_int_tup, isi_int_l, isi_int_f, isi_str_non, isi_str_bl, isi_str_int, isi_str_str, isi_str_tup, isi_str_l, isi_str_f, isi_dict_non, isi_dict_bl, isi_dict_int, isi_dict_str, isi_dict_tup, isi_dict_l, isi_dict_f, Ab.isNon, args, List.map, List.length_cons, List.length_nil, List.length_singleton, List.replicate, Nat.reduceSub, Nat.reduceAdd, Nat.zero_add, List.cons_append, List.nil_append, List.getElem?_cons_zero, List.getElem?_cons_succ, List.set_cons_zero, List.set_cons_succ, Option.some.injEq, decide_eq_true_eq, Bool.not_eq_true', decide_eq_false_iff_not, ite_true, ite_false, if_true, if_false, reduceIte, Bool.false_eq_true, Bool.not_true, Bool.not_false, Bool.true_eq_false, decide_true, decide_false, Nat.reduceLeDiff, Nat.reduceLT]
  clear g g1 g2
  generalize C ++ [AO.lst []] ++ [AO.lst []] = B1 at hX hY hO hE hP hS D10 ⊢
  generalize (C ++ [AO.lst []]).length = Y at hY lY XY ⊢
  generalize C.length = X at hX lX XY o8 e8 p8 s8 yO ⊢
  refine sat_seq ?_
  simp only [sat_ok, sat_bad, sat_bind, sat_ite, bind_ok, bind_bad, thn_nx, thn_rt, thn_bk, thn_ct, fin_rt, fin_nx, ev_v, ev_c, ev_op, ev_un, ev_nil, ev_cons, ev_tup, ev_lst, ev_call, ev_own, ev_sl, ev_no, ev_part, ev_and, ev_or, ev_not, ev_if, ev_t, ev_tb, ev_tnot, ev_tand, ev_tor, ev_mt, ev_mt0, ev_rgd, ev_set, ev_asg, ev_ret, ev_retN, ev_ex, ev_pass, ev_brk, ev_cont, ev_ifS, ev_aug, ev_gn, ev_gtp, ev_gnl, ev_gcs, ev_gsb, ev_for, ev_rg1, ev_rg2, ev_its, ev_enum, ev_lc, ev_yes, ev_add_ii, ev_add_ss, ev_add_tt, ev_add_rr, ev_sub, ev_mul, ev_mod, ev_fdiv, ev_pow, ev_neg, ev_lt, ev_le, ev_gt, ev_ge, ev_eq_ii, ev_eq_ss, ev_eq_bb, ev_ne_ii, ev_ne_ss, ev_ne_bb, ev_is_n, ev_isnt_n, ev_int_i, ev_int_b, ev_min_ii, ev_max_ii, ev_abs, ev_tup_of, ev_tup_ofL, ev_lst_ofT, ev_lst_ofL, ev_len_t, ev_len_s, ev_len_r, ev_tru_b, ev_alloc, ev_tupD, ev_lstD, isi_tuple_non, isi_tuple_bl, isi_tuple_int, isi_tuple_str, isi_tuple_tup, isi_tuple_l, isi_tuple_f, isi_list_non, isi_list_bl, isi_list_int, isi_list_str, isi_list_tup, isi_list_l, isi_list_f, isi_bool_non, isi_bool_bl, isi_bool_int, isi_bool_str, isi_bool_tup, isi_bool_l, isi_bool_f, isi_int_non, isi_int_bl, isi_int_int, isi_int_str, isi_int_tup, isi_int_l, isi_int_f, isi_str_non, isi_str_bl, isi_str_int, isi_str_str, isi_str_tup, isi_str_l, isi_str_f, isi_dict_non, isi_dict_bl, isi_dict_int, isi_dict_str, isi_dict_tup, isi_dict_l, isi_dict_f, Ab.isNon, args, List.map, List.length_cons, List.length_nil, List.length_singleton, List.replicate, Nat.reduceSub, Nat.reduceAdd, Nat.zero_add, List.cons_append, List.nil_append, List.getElem?_cons_zero, List.getElem?_cons_succ, List.set_cons_zero, List.set_cons_succ, Option.some.injEq, decide_eq_true_eq, Bool.not_eq_true', decide_eq_false_iff_not, ite_true, ite_false, if_true, if_false, reduceIte, Bool.false_eq_true, Bool.not_true, Bool.not_false, Bool.true_eq_false, decide_true, decide_false, Nat.reduceLeDiff, Nat.reduceLT, e1]
  rw [if_pos (inRg_of (by omega) (by omega)), Int.toNat_natCast]
  obtain ⟨W, hW⟩ : ∃ W : Mx, W = fun i j => wayP m su (pl i) (pl j) := ⟨_, rfl⟩
  obtain ⟨base, hb⟩ : ∃ b : Mx, b = fun i j => W i j * near + tot es m * (1 - near) + (((i : Int) + 2 * (j : Int)) % 3) := ⟨_, rfl⟩
  obtain ⟨M, hM⟩ : ∃ M : Mx, M = fun i j => if j = os.getD (nextP m (pl i)) 0 then es (pl i) else if j = i then 0 else base i j := ⟨_, rfl⟩
  refine range_inv (fun k σ B => Dr s A B ∧ B[O]? = some (.lst (natL m fun k => os.getD k 0)) ∧ B[E]? = some (.lst (intL m es)) ∧ B[Q]? = some (.lst (natL m pl)) ∧ B[S]? = some (.lst (intL (m + 1) su)) ∧ B[X]? = some (.lst ((List.range k).map fun i => rowD m (M i))) ∧ B[Y]? = some (.lst ((List.range k).map fun i => rowD m (W i))) ∧ ∃ a b c d e, σ = [some (.ref s), some (.int (n : Nat)), some (.int near), some (.ref A3.length), some (.ref O), x, some (.ref E), some (.int (tot es m)), none, some (.ref Q), some (.ref S), some (.ref X), some (.ref Y), a, b, c, d, e])
    (fun k σ B hk ⟨DB, hO, hE, hP, hS, hX, hY, a, b, c, d, e, hσ⟩ => ?_) (fun σ B ⟨DB, hO, hE, hP, hS, hX, hY, a, b, c, d, e, hσ⟩ => ?_) ⟨D10, hO, hE, hP, hS, hX, hY, none, none, none, none, none, rfl⟩
  · subst hσ
    have lB := DB.le
    have xB := at_lt hX
    have yB := at_lt hY
    simp only [sat_ok, sat_bad, sat_bind, sat_ite, bind_ok, bind_bad, thn_nx, thn_rt, thn_bk, thn_ct, fin_rt, fin_nx, ev_v, ev_c, ev_op, ev_un, ev_nil, ev_cons, ev_tup, ev_lst, ev_call, ev_own, ev_sl, ev_no, ev_part, ev_and, ev_or, ev_not, ev_if, ev_t, ev_tb, ev_tnot, ev_tand, ev_tor, ev_mt, ev_mt0, ev_rgd, ev_set, ev_asg, ev_ret, ev_retN, ev_ex, ev_pass, ev_brk, ev_cont, ev_ifS, ev_aug, ev_gn, ev_gtp, ev_gnl, ev_gcs, ev_gsb, ev_for, ev_rg1, ev_rg2, ev_its, ev_enum, ev_lc, ev_yes, ev_add_ii, ev_add_ss, ev_add_tt, ev_add_rr, ev_sub, ev_mul, ev_mod, ev_fdiv, ev_pow, ev_neg, ev_lt, ev_le, ev_gt, ev_ge, ev_eq_ii, ev_eq_ss, ev_eq_bb, ev_ne_ii, ev_ne_ss, ev_ne_bb, ev_is_n, ev_isnt_n, ev_int_i, ev_int_b, ev_min_ii, ev_max_ii, ev_abs, ev_tup_of, ev_tup_ofL, ev_lst_ofT, ev_lst_ofL, ev_len_t, ev_len_s, ev_len_r, ev_tru_b, ev_alloc, ev_tupD, ev_lstD, isi_tuple_non, isi_tuple_bl, isi_tuple_int, isi_tuple_str, isi_tuple_tup, isi_tuple_l, isi_tuple_f, isi_list_non, isi_list_bl, isi_list_int, isi_list_str, isi_list_tup, isi_list_l, isi_list_f, isi_bool_non, isi_bool_bl, isi_bool_int, isi_bool_str, isi_bool_tup, isi_bool_l, isi_bool_f, isi_int_non, isi_int_bl, isi_int_int, isi_int_str, isi_int_tup, isi_int_l, isi_int_f, isi_str_non, isi_str_bl, isi_str_int, isi_str_str, isi_str_tup, isi_str_l, isi_str_f, isi_dict_non, isi_dict_bl, isi_dict_int, isi_dict_str, isi_dict_tup, isi_dict_l, isi_dict_f, Ab.isNon, args, List.map, List.length_cons, List.length_nil, List.length_singleton, List.replicate, Nat.reduceSub, Nat.reduceAdd, Nat.zero_add, List.cons_append, List.nil_append, List.getElem?_cons_zero, List.getElem?_cons_succ, List.set_cons_zero, List.set_cons_succ, Option.some.injEq, decide_eq_true_eq, Bool.not_eq_true', decide_eq_false_iff_not, ite_true, ite_false, if_true, if_false, reduceIte, Bool.false_eq_true, Bool.not_true, Bool.not_false, Bool.true_eq_false, decide_true, decide_false, Nat.reduceLeDiff, Nat.reduceLT, Int.zero_add]
    refine sat_seq ?_
    simp only [sat_ok, sat_bad, sat_bind, sat_ite, bind_ok, bind_bad, thn_nx, thn_rt, thn_bk, thn_ct, fin_rt, fin_nx, ev_v, ev_c, ev_op, ev_un, ev_nil, ev_cons, ev_tup, ev_lst, ev_call, ev_own, ev_sl, ev_no, ev_part, ev_and, ev_or, ev_not, ev_if, ev_t, ev_tb, ev_tnot, ev_tand, ev_tor, ev_mt, ev_mt0, ev_rgd, ev_set, ev_asg, ev_ret, ev_retN, ev_ex, ev_pass, ev_brk, ev_cont, ev_ifS, ev_aug, ev_gn, ev_gtp, ev_gnl, ev_gcs, ev_gsb, ev_for, ev_rg1, ev_rg2, ev_its, ev_enum, ev_lc, ev_yes, ev_add_ii, ev_add_ss, ev_add_tt, ev_add_rr, ev_sub, ev_mul, ev_mod, ev_fdiv, ev_pow, ev_neg, ev_lt, ev_le, ev_gt, ev_ge, ev_eq_ii, ev_eq_ss, ev_eq_bb, ev_ne_ii, ev_ne_ss, ev_ne_bb, ev_is_n, ev_isnt_n, ev_int_i, ev_int_b, ev_min_ii, ev_max_ii, ev_abs, ev_tup_of, ev_tup_ofL, ev_lst_ofT, ev_lst_ofL, ev_len_t, ev_len_s, ev_len_r, ev_tru_b, ev_alloc, ev_tupD, ev_lstD, isi_tuple_non, isi_tuple_bl, isi_tuple_int, isi_tuple_str, isi_tuple_tup, isi_tuple_l, isi_tuple_f, isi_list_non, isi_list_bl, isi_list_int, isi_list_str, isi_list_tup, isi_list_l, isi_list_f, isi_bool_non, isi_bool_bl, isi_bool_int, isi_bool_str, isi_bool_tup, isi_bool_l, isi_bool_f, isi_int_non, isi_int_bl, isi_int_int, isi_int_str, isi_int_tup, isi_int_l, isi_int_f, isi_str_non, isi_str_bl, isi_str_int, isi_str_str, isi_str_tup, isi_str_l, isi_str_f, isi_dict_non, isi_dict_bl, isi_dict_int, isi_dict_str, isi_dict_tup, isi_dict_l, isi_dict_f, Ab.isNon, args, List.map, List.length_cons, List.length_nil, List.length_singleton, List.replicate, Nat.reduceSub, Nat.reduceAdd, Nat.zero_add, List.cons_append, List.nil_append, List.getElem?_cons_zero, List.getElem?_cons_succ, List.set_cons_zero, List.set_cons_succ, Option.some.injEq, decide_eq_true_eq, Bool.not_eq_true', decide_eq_false_iff_not, ite_true, ite_false, if_true, if_false, reduceIte, Bool.false_eq_true, Bool.not_true, Bool.not_false, Bool.true_eq_false, decide_true, decide_false, Nat.reduceLeDiff, Nat.reduceLT, e1, wipeA]
    rw [if_pos (inRg_of (by omega) (by omega)), Int.toNat_natCast]
    refine comp_pure (fun j : Nat => .int (0 + (j : Nat))) (fun j => .int (W k j)) (fun _ => trivial) (fun j hj l => ?_) (by simp; omega) ?_
    · have hj := List.mem_range.mp hj
      have g := Gr.app (A := B) (B := [.lst l])
      simp only [sat_ok, sat_bad, sat_bind, sat_ite, bind_ok, bind_bad, thn_nx, thn_rt, thn_bk, thn_ct, fin_rt, fin_nx, ev_v, ev_c, ev_op, ev_un, ev_nil, ev_cons, ev_tup, ev_lst, ev_call, ev_own, ev_sl, ev_no, ev_part, ev_and, ev_or, ev_not, ev_if, ev_t, ev_tb, ev_tnot, ev_tand, ev_tor, ev_mt, ev_mt0, ev_rgd, ev_set, ev_asg, ev_ret, ev_retN, ev_ex, ev_pass, ev_brk, ev_cont, ev_ifS, ev_aug, ev_gn, ev_gtp, ev_gnl, ev_gcs, ev_gsb, ev_for, ev_rg1, ev_rg2, ev_its, ev_enum, ev_lc, ev_yes, ev_add_ii, ev_add_ss, ev_add_tt, ev_add_rr, ev_sub, ev_mul, ev_mod, ev_fdiv, ev_pow, ev_neg, ev_lt, ev_le, ev_gt, ev_ge, ev_eq_ii, ev_eq_ss, ev_eq_bb, ev_ne_ii, ev_ne_ss, ev_ne_bb, ev_is_n, ev_isnt_n, ev_int_i, ev_int_b, ev_min_ii, ev_max_ii, ev_abs, ev_tup_of, ev_tup_ofL, ev_lst_ofT, ev_lst_ofL, ev_len_t, ev_len_s, ev_len_r, ev_tru_b, ev_alloc, ev_tupD, ev_lstD, isi_tuple_non, isi_tuple_bl, isi_tuple_int, isi_tuple_str, isi_tuple_tup, isi_tuple_l, isi_tuple_f, isi_list_non, isi_list_bl, isi_list_int, isi_list_str, isi_list_tup, isi_list_l, isi_list_f, isi_bool_non, isi_bool_bl, isi_bool_int, isi_bool_str, isi_bool_tup, isi_bool_l, isi_bool_f, isi_int_non, isi_int_bl, isi_int_int, isi_int_str, isi_int_tup, isi_int_l, isi_int_f, isi_str_non, isi_str_bl, isi_str_int, isi_str_str, isi_str_tup, isi_str_l, isi_str_f, isi_dict_non, isi_dict_bl, isi_dict_int, isi_dict_str, isi_dict_tup, isi_dict_l, isi_dict_f, Ab.isNon, args, List.map, List.length_cons, List.length_nil, List.length_singleton, List.replicate, Nat.reduceSub, Nat.reduceAdd, Nat.zero_add, List.cons_append, List.nil_append, List.getElem?_cons_zero, List.getElem?_cons_succ, List.set_cons_zero, List.set_cons_succ, Option.some.injEq, decide_eq_true_eq, Bool.not_eq_true', decide_eq_false_iff_not, ite_true, ite_false, if_true, if_false, reduceIte, Bool.false_eq_true, Bool.not_true, Bool.not_false, Bool.true_eq_false, decide_true, decide_false, Nat.reduceLeDiff, Nat.reduceLT, Int.zero_add, natL_ix (g.keep _ _ hP) hk, natL_ix (g.keep _ _ hP) hj, way_spec (g.keep _ _ hS) (R.po k hk) (R.po j hj)]
      exact ⟨by rw [hW], trivial⟩
    have hw := at_new (A := B) (o := .lst (intL m (W k)))
    have g := Gr.app (A := B) (B := [.lst (intL m (W k))])
    show Sat _ _
    refine sat_seq ?_
    have D11 := DB.trans (g.dr DB.src)
    have hO := g.keep _ _ hO
    have hE := g.keep _ _ hE
    have hP := g.keep _ _ hP
    have hS := g.keep _ _ hS
    have hX := g.keep _ _ hX
    have hY := g.keep _ _ hY
    have lw : A.length ≤ B.length := lB
    clear g
    rw [show ((List.range m).map fun j => D.int (W k j)) = intL m (W k) from rfl]
    generalize B ++ [AO.lst (intL m (W k))] = B2 at hw hO hE hP hS hX hY D11 ⊢
    generalize B.length = w at hw lw xB yB ⊢
    simp only [sat_ok, sat_bad, sat_bind, sat_ite, bind_ok, bind_bad, thn_nx, thn_rt, thn_bk, thn_ct, fin_rt, fin_nx, ev_v, ev_c, ev_op, ev_un, ev_nil, ev_cons, ev_tup, ev_lst, ev_call, ev_own, ev_sl, ev_no, ev_part, ev_and, ev_or, ev_not, ev_if, ev_t, ev_tb, ev_tnot, ev_tand, ev_tor, ev_mt, ev_mt0, ev_rgd, ev_set, ev_asg, ev_ret, ev_retN, ev_ex, ev_pass, ev_brk, ev_cont, ev_ifS, ev_aug, ev_gn, ev_gtp, ev_gnl, ev_gcs, ev_gsb, ev_for, ev_rg1, ev_rg2, ev_its, ev_enum, ev_lc, ev_yes, ev_add_ii, ev_add_ss, ev_add_tt, ev_add_rr, ev_sub, ev_mul, ev_mod, ev_fdiv, ev_pow, ev_neg, ev_lt, ev_le, ev_gt, ev_ge, ev_eq_ii, ev_eq_ss, ev_eq_bb, ev_ne_ii, ev_ne_ss, ev_ne_bb, ev_is_n, ev_isnt_n, ev_int_i, ev_int_b, ev_min_ii, ev_max_ii, ev_abs, ev_tup_of, ev_tup_ofL, ev_lst_ofT, ev_lst_ofL, ev_len_t, ev_len_s, ev_len_r, ev_tru_b, ev_alloc, ev_tupD, ev_lstD, isi_tuple_non, isi_tuple_bl, isi_tuple_int, isi_tuple_str, isi_tuple_tup, isi_tuple_l, isi_tuple_f, isi_list_non, isi_list_bl, isi_list_int, isi_list_str, isi_list_tup, isi_list_l, isi_list_f, isi_bool_non, isi_bool_bl, isi_bool_int, isi_bool_str, isi_bool_tup, isi_bool_l, isi_bool_f, isi_int_non, isi_int_bl, isi_int_int, isi_int_str, isi_int_tup, isi_int_l, isi_int_f, isi_str_non, isi_str_bl, isi_str_int, isi_str_str, isi_str_tup, isi_str_l, isi_str_f, isi_dict_non, isi_dict_bl, isi_dict_int, isi_dict_str, isi_dict_tup, isi_dict_l, isi_dict_f, Ab.isNon, args, List.map, List.length_cons, List.length_nil, List.length_singleton, List.replicate, Nat.reduceSub, Nat.reduceAdd, Nat.zero_add, List.cons_append, List.nil_append, List.getElem?_cons_zero, List.getElem?_cons_succ, List.set_cons_zero, List.set_cons_succ, Option.some.injEq, decide_eq_true_eq, Bool.not_eq_true', decide_eq_false_iff_not, ite_true, ite_false, if_true, if_false, reduceIte, Bool.false_eq_true, Bool.not_true, Bool.not_false, Bool.true_eq_false, decide_true, decide_false, Nat.reduceLeDiff, Nat.reduceLT, e1, wipeA]
    rw [if_pos (inRg_of (by omega) (by omega)), Int.toNat_natCast]
    refine comp_pure (fun j : Nat => .int (0 + (j : Nat))) (fun j => .int (base k j)) (fun _ => trivial) (fun j hj l => ?_) (by simp; omega) ?_
    · have hj := List.mem_range.mp hj
      have g := Gr.app (A := B2) (B := [.lst l])
      have m1 : mulOk (W k j) near := mulOk_r (by omega) (by omega)
      have m2 : mulOk (tot es m) (1 - near) := mulOk_r (by omega) (by omega)
      have m3 : mulOk 2 (j : Int) := mulOk_l (by decide) (by decide)
      have p3 : (0 : Int) < 3 := by decide
      simp only [sat_ok, sat_bad, sat_bind, sat_ite, bind_ok, bind_bad, thn_nx, thn_rt, thn_bk, thn_ct, fin_rt, fin_nx, ev_v, ev_c, ev_op, ev_un, ev_nil, ev_cons, ev_tup, ev_lst, ev_call, ev_own, ev_sl, ev_no, ev_part, ev_and, ev_or, ev_not, ev_if, ev_t, ev_tb, ev_tnot, ev_tand, ev_tor, ev_mt, ev_mt0, ev_rgd, ev_set, ev_asg, ev_ret, ev_retN, ev_ex, ev_pass, ev_brk, ev_cont, ev_ifS, ev_aug, ev_gn, ev_gtp, ev_gnl, ev_gcs, ev_gsb, ev_for, ev_rg1, ev_rg2, ev_its, ev_enum, ev_lc, ev_yes, ev_add_ii, ev_add_ss, ev_add_tt, ev_add_rr, ev_sub, ev_mul, ev_mod, ev_fdiv, ev_pow, ev_neg, ev_lt, ev_le, ev_gt, ev_ge, ev_eq_ii, ev_eq_ss, ev_eq_bb, ev_ne_ii, ev_ne_ss, ev_ne_bb, ev_is_n, ev_isnt_n, ev_int_i, ev_int_b, ev_min_ii, ev_max_ii, ev_abs, ev_tup_of, ev_tup_ofL, ev_lst_ofT, ev_lst_ofL, ev_len_t, ev_len_s, ev_len_r, ev_tru_b, ev_alloc, ev_tupD, ev_lstD, isi_tuple_non, isi_tuple_bl, isi_tuple_int, isi_tuple_str, isi_tuple_tup, isi_tuple_l, isi_tuple_f, isi_list_non, isi_list_bl, isi_list_int, isi_list_str, isi_list_tup, isi_list_l, isi_list_f, isi_bool_non, isi_bool_bl, isi_bool_int, isi_bool_str, isi_bool_tup, isi_bool_l, isi_bool_f, isi_int_non, isi_int_bl, isi_int_int, isi_int_str, isi_int_tup, isi_int_l, isi_int_f, isi_str_non, isi_str_bl, isi_str_int, isi_str_str, isi_str_tup, isi_str_l, isi_str_f, isi_dict_non, isi_dict_bl, isi_dict_int, isi_dict_str, isi_dict_tup, isi_dict_l, isi_dict_f, Ab.isNon, args, List.map, List.length_cons, List.length_nil, List.length_singleton, List.replicate, Nat.reduceSub, Nat.reduceAdd, Nat.zero_add, List.cons_append, List.nil_append, List.getElem?_cons_zero, List.getElem?_cons_succ, List.set_cons_zero, List.set_cons_succ, Option.some.injEq, decide_eq_true_eq, Bool.not_eq_true', decide_eq_false_iff_not, ite_true, ite_false, if_true, if_false, reduceIte, Bool.false_eq_true, Bool.not_true, Bool.not_false, Bool.true_eq_false, decide_true, decide_false, Nat.reduceLeDiff, Nat.reduceLT, Int.zero_add, intL_ix (g.keep _ _ hw) hj, m1, m2, m3, p3]
      exact ⟨by rw [hb], trivial⟩
    rw [show ((List.range m).map fun j => D.int (base k j)) = intL m (base k) from rfl]
    have hr := at_new (A := B2) (o := .lst (intL m (base k)))
    have g := Gr.app (A := B2) (B := [.lst (intL m (base k))])
    have D12 := D11.trans (g.dr D11.src)
    have wr := at_lt hw
    have hw := g.keep _ _ hw
    have hO := g.keep _ _ hO
    have hE := g.keep _ _ hE
    have hP := g.keep _ _ hP
    have hS := g.keep _ _ hS
    have hX := g.keep _ _ hX
    have hY := g.keep _ _ hY
    clear g
    generalize B2 ++ [AO.lst (intL m (base k))] = B3 at hr hw hO hE hP hS hX hY D12 ⊢
    generalize B2.length = r at hr wr ⊢
    refine sat_seq ?_
    have set1 : ∀ {f : Nat → Int} {j : Nat} {v : Int}, (intL m f).set j (.int v) = intL m fun i => if i = j then v else f i := fun {f j v} => range_set
    simp only [sat_ok, sat_bad, sat_bind, sat_ite, bind_ok, bind_bad, thn_nx, thn_rt, thn_bk, thn_ct, fin_rt, fin_nx, ev_v, ev_c, ev_op, ev_un, ev_nil, ev_cons, ev_tup, ev_lst, ev_call, ev_own, ev_sl, ev_no, ev_part, ev_and, ev_or, ev_not, ev_if, ev_t, ev_tb, ev_tnot, ev_tand, ev_tor, ev_mt, ev_mt0, ev_rgd, ev_set, ev_asg, ev_ret, ev_retN, ev_ex, ev_pass, ev_brk, ev_cont, ev_ifS, ev_aug, ev_gn, ev_gtp, ev_gnl, ev_gcs, ev_gsb, ev_for, ev_rg1, ev_rg2, ev_its, ev_enum, ev_lc, ev_yes, ev_add_ii, ev_add_ss, ev_add_tt, ev_add_rr, ev_sub, ev_mul, ev_mod, ev_fdiv, ev_pow, ev_neg, ev_lt, ev_le, ev_gt, ev_ge, ev_eq_ii, ev_eq_ss, ev_eq_bb, ev_ne_ii, ev_ne_ss, ev_ne_bb, ev_is_n, ev_isnt_n, ev_int_i, ev_int_b, ev_min_ii, ev_max_ii, ev_abs, ev_tup_of, ev_tup_ofL, ev_lst_ofT, ev_lst_ofL, ev_len_t, ev_len_s, ev_len_r, ev_tru_b, ev_alloc, ev_tupD, ev_lstD, isi_tuple_non, isi_tuple_bl, isi_tuple_int, isi_tuple_str, isi_tuple_tup, isi_tuple_l, isi_tuple_f, isi_list_non, isi_list_bl, isi_list_int, isi_list_str, isi_list_tup, isi_list_l, isi_list_f, isi_bool_non, isi_bool_bl, isi_bool_int, isi_bool_str, isi_bool_tup, isi_bool_l, isi_bool_f, isi_int_non, isi_int_bl, isi_int_int, isi_int_str, isi_int_tup, isi_int_l, isi_int_f, isi_str_non, isi_str_bl, isi_str_int, isi_str_str, isi_str_tup, isi_str_l, isi_str_f, isi_dict_non, isi_dict_bl, isi_dict_int, isi_dict_str, isi_dict_tup, isi_dict_l, isi_dict_f, Ab.isNon, args, List.map, List.length_cons, List.length_nil, List.length_singleton, List.replicate, Nat.reduceSub, Nat.reduceAdd, Nat.zero_add, List.cons_append, List.nil_append, List.getElem?_cons_zero, List.getElem?_cons_succ, List.set_cons_zero, List.set_cons_succ, Option.some.injEq, decide_eq_true_eq, Bool.not_eq_true', decide_eq_false_iff_not, ite_true, ite_false, if_true, if_false, reduceIte, Bool.false_eq_true, Bool.not_true, Bool.not_false, Bool.true_eq_false, decide_true, decide_false, Nat.reduceLeDiff, Nat.reduceLT]
    rw [ev_st_l (j := k) hr (by rw [ixN_pos (by omega) (by simp [intL]; omega)]; rfl), set1]
    have put : ∀ {B : AH} {o : AO} {q : Nat} {u : AO}, q ≠ r → B[q]? = some u → (B.set r o)[q]? = some u := fun h e => by rw [List.getElem?_set_ne (Ne.symm h)]; exact e
    have hr2 := at_set (o := .lst (intL m fun i => if i = k then 0 else base k i)) (at_lt hr)
    have hw := put (o := .lst (intL m fun i => if i = k then 0 else base k i)) (by omega) hw
    have hO := put (o := .lst (intL m fun i => if i = k then 0 else base k i)) (by omega) hO
    have hE := put (o := .lst (intL m fun i => if i = k then 0 else base k i)) (by omega) hE
    have hP := put (o := .lst (intL m fun i => if i = k then 0 else base k i)) (by omega) hP
    have hS := put (o := .lst (intL m fun i => if i = k then 0 else base k i)) (by omega) hS
    have hX := put (o := .lst (intL m fun i => if i = k then 0 else base k i)) (by omega) hX
    have hY := put (o := .lst (intL m fun i => if i = k then 0 else base k i)) (by omega) hY
    have lr : A.length ≤ r := by omega
    have D13 := D12.setN (o := .lst (intL m fun i => if i = k then 0 else base k i)) lr hs
    generalize B3.set r (.lst (intL m fun i => if i = k then 0 else base k i)) = B4 at hr2 hw hO hE hP hS hX hY D13 ⊢
    simp only [sat_ok, sat_bad, sat_bind, sat_ite, bind_ok, bind_bad, thn_nx, thn_rt, thn_bk, thn_ct, fin_rt, fin_nx, ev_v, ev_c, ev_op, ev_un, ev_nil, ev_cons, ev_tup, ev_lst, ev_call, ev_own, ev_sl, ev_no, ev_part, ev_and, ev_or, ev_not, ev_if, ev_t, ev_tb, ev_tnot, ev_tand, ev_tor, ev_mt, ev_mt0, ev_rgd, ev_set, ev_asg, ev_ret, ev_retN, ev_ex, ev_pass, ev_brk, ev_cont, ev_ifS, ev_aug, ev_gn, ev_gtp, ev_gnl, ev_gcs, ev_gsb, ev_for, ev_rg1, ev_rg2, ev_its, ev_enum, ev_lc, ev_yes, ev_add_ii, ev_add_ss, ev_add_tt, ev_add_rr, ev_sub, ev_mul, ev_mod, ev_fdiv, ev_pow, ev_neg, ev_lt, ev_le, ev_gt, ev_ge, ev_eq_ii, ev_eq_ss, ev_eq_bb, ev_ne_ii, ev_ne_ss, ev_ne_bb, ev_is_n, ev_isnt_n, ev_int_i, ev_int_b, ev_min_ii, ev_max_ii, ev_abs, ev_tup_of, ev_tup_ofL, ev_lst_ofT, ev_lst_ofL, ev_len_t, ev_len_s, ev_len_r, ev_tru_b, ev_alloc, ev_tupD, ev_lstD, isi_tuple_non, isi_tuple_bl, isi_tuple_int, isi_tuple_str, isi_tuple_tup, isi_tuple_l, isi_tuple_f, isi_list_non, isi_list_bl, isi_list_int, isi_list_str, isi_list_tup, isi_list_l, isi_list_f, isi_bool_non, isi_bool_bl, isi_bool_int, isi_bool_str, isi_bool_tup, isi_bool_l, isi_bool_f, isi_int_non, isi_int_bl, isi_int_int, isi_int_str, isi_int_tup, isi_int_l, isi_int_f, isi_str_non, isi_str_bl, isi_str_int, isi_str_str, isi_str_tup, isi_str_l, isi_str_f, isi_dict_non, isi_dict_bl, isi_dict_int, isi_dict_str, isi_dict_tup, isi_dict_l, isi_dict_f, Ab.isNon, args, List.map, List.length_cons, List.length_nil, List.length_singleton, List.replicate, Nat.reduceSub, Nat.reduceAdd, Nat.zero_add, List.cons_append, List.nil_append, List.getElem?_cons_zero, List.getElem?_cons_succ, List.set_cons_zero, List.set_cons_succ, Option.some.injEq, decide_eq_true_eq, Bool.not_eq_true', decide_eq_false_iff_not, ite_true, ite_false, if_true, if_false, reduceIte, Bool.false_eq_true, Bool.not_true, Bool.not_false, Bool.true_eq_false, decide_true, decide_false, Nat.reduceLeDiff, Nat.reduceLT]
    refine sat_seq ?_
    have nm : nextP m (pl k) < m := by unfold nextP; have := R.po k hk; split <;> omega
    have pm0 : (0 : Int) < (m : Nat) := by omega
    simp only [sat_ok, sat_bad, sat_bind, sat_ite, bind_ok, bind_bad, thn_nx, thn_rt, thn_bk, thn_ct, fin_rt, fin_nx, ev_v, ev_c, ev_op, ev_un, ev_nil, ev_cons, ev_tup, ev_lst, ev_call, ev_own, ev_sl, ev_no, ev_part, ev_and, ev_or, ev_not, ev_if, ev_t, ev_tb, ev_tnot, ev_tand, ev_tor, ev_mt, ev_mt0, ev_rgd, ev_set, ev_asg, ev_ret, ev_retN, ev_ex, ev_pass, ev_brk, ev_cont, ev_ifS, ev_aug, ev_gn, ev_gtp, ev_gnl, ev_gcs, ev_gsb, ev_for, ev_rg1, ev_rg2, ev_its, ev_enum, ev_lc, ev_yes, ev_add_ii, ev_add_ss, ev_add_tt, ev_add_rr, ev_sub, ev_mul, ev_mod, ev_fdiv, ev_pow, ev_neg, ev_lt, ev_le, ev_gt, ev_ge, ev_eq_ii, ev_eq_ss, ev_eq_bb, ev_ne_ii, ev_ne_ss, ev_ne_bb, ev_is_n, ev_isnt_n, ev_int_i, ev_int_b, ev_min_ii, ev_max_ii, ev_abs, ev_tup_of, ev_tup_ofL, ev_lst_ofT, ev_lst_ofL, ev_len_t, ev_len_s, ev_len_r, ev_tru_b, ev_alloc, ev_tupD, ev_lstD, isi_tuple_non, isi_tuple_bl, isi_tuple_int, isi_tuple_str, isi_tuple_tup, isi_tuple_l, isi_tuple_f, isi_list_non, isi_list_bl, isi_list_int, isi_list_str, isi_list_tup, isi_list_l, isi_list_f, isi_bool_non, isi_bool_bl, isi_bool_int, isi_bool_str, isi_bool_tup, isi_bool_l, isi_bool_f, isi_int_non, isi_int_bl, isi_int_int, isi_int_str, isi_int_tup, isi_int_l, isi_int_f, isi_str_non, isi_str_bl, isi_str_int, isi_str_str, isi_str_tup, isi_str_l, isi_str_f, isi_dict_non, isi_dict_bl, isi_dict_int, isi_dict_str, isi_dict_tup, isi_dict_l, isi_dict_f, Ab.isNon, args, List.map, List.length_cons, List.length_nil, List.length_singleton, List.replicate, Nat.reduceSub, Nat.reduceAdd, Nat.zero_add, List.cons_append, List.nil_append, List.getElem?_cons_zero, List.getElem?_cons_succ, List.set_cons_zero, List.set_cons_succ, Option.some.injEq, decide_eq_true_eq, Bool.not_eq_true', decide_eq_false_iff_not, ite_true, ite_false, if_true, if_false, reduceIte, Bool.false_eq_true, Bool.not_true, Bool.not_false, Bool.true_eq_false, decide_true, decide_false, Nat.reduceLeDiff, Nat.reduceLT, natL_ix hP hk, e1, pm0, mod_next (R.po k hk), natL_ix hO nm]
    refine sat_seq ?_
    simp only [sat_ok, sat_bad, sat_bind, sat_ite, bind_ok, bind_bad, thn_nx, thn_rt, thn_bk, thn_ct, fin_rt, fin_nx, ev_v, ev_c, ev_op, ev_un, ev_nil, ev_cons, ev_tup, ev_lst, ev_call, ev_own, ev_sl, ev_no, ev_part, ev_and, ev_or, ev_not, ev_if, ev_t, ev_tb, ev_tnot, ev_tand, ev_tor, ev_mt, ev_mt0, ev_rgd, ev_set, ev_asg, ev_ret, ev_retN, ev_ex, ev_pass, ev_brk, ev_cont, ev_ifS, ev_aug, ev_gn, ev_gtp, ev_gnl, ev_gcs, ev_gsb, ev_for, ev_rg1, ev_rg2, ev_its, ev_enum, ev_lc, ev_yes, ev_add_ii, ev_add_ss, ev_add_tt, ev_add_rr, ev_sub, ev_mul, ev_mod, ev_fdiv, ev_pow, ev_neg, ev_lt, ev_le, ev_gt, ev_ge, ev_eq_ii, ev_eq_ss, ev_eq_bb, ev_ne_ii, ev_ne_ss, ev_ne_bb, ev_is_n, ev_isnt_n, ev_int_i, ev_int_b, ev_min_ii, ev_max_ii, ev_abs, ev_tup_of, ev_tup_ofL, ev_lst_ofT, ev_lst_ofL, ev_len_t, ev_len_s, ev_len_r, ev_tru_b, ev_alloc, ev_tupD, ev_lstD, isi_tuple_non, isi_tuple_bl, isi_tuple_int, isi_tuple_str, isi_tuple_tup, isi_tuple_l, isi_tuple_f, isi_list_non, isi_list_bl, isi_list_int, isi_list_str, isi_list_tup, isi_list_l, isi_list_f, isi_bool_non, isi_bool_bl, isi_bool_int, isi_bool_str, isi_bool_tup, isi_bool_l, isi_bool_f, isi_int_non, isi_int_bl, isi_int_int, isi_int_str, isi_int_tup, isi_int_l, isi_int_f, isi_str_non, isi_str_bl, isi_str_int, isi_str_str, isi_str_tup, isi_str_l, isi_str_f, isi_dict_non, isi_dict_bl, isi_dict_int, isi_dict_str, isi_dict_tup, isi_dict_l, isi_dict_f, Ab.isNon, args, List.map, List.length_cons, List.length_nil, List.length_singleton, List.replicate, Nat.reduceSub, Nat.reduceAdd, Nat.zero_add, List.cons_append, List.nil_append, List.getElem?_cons_zero, List.getElem?_cons_succ, List.set_cons_zero, List.set_cons_succ, Option.some.injEq, decide_eq_true_eq, Bool.not_eq_true', decide_eq_false_iff_not, ite_true, ite_false, if_true, if_false, reduceIte, Bool.false_eq_true, Bool.not_true, Bool.not_false, Bool.true_eq_false, decide_true, decide_false, Nat.reduceLeDiff, Nat.reduceLT, natL_ix hP hk, intL_ix hE (R.po k hk)]
    rw [ev_st_l (j := os.getD (nextP m (pl k)) 0) hr2 (by have := onew _ nm; rw [ixN_pos (by omega) (by rw [show (intL m fun i => if i = k then 0 else base k i).length = m by simp [intL]]; omega)]; rfl), set1]
    have eM : (intL m fun i => if i = os.getD (nextP m (pl k)) 0 then es (pl k) else if i = k then 0 else base k i) = intL m (M k) := by rw [hM]
    rw [eM]
    have hr3 := at_set (o := .lst (intL m (M k))) (at_lt hr2)
    have hw := put (o := .lst (intL m (M k))) (by omega) hw
    have hO := put (o := .lst (intL m (M k))) (by omega) hO
    have hE := put (o := .lst (intL m (M k))) (by omega) hE
    have hP := put (o := .lst (intL m (M k))) (by omega) hP
    have hS := put (o := .lst (intL m (M k))) (by omega) hS
    have hX := put (o := .lst (intL m (M k))) (by omega) hX
    have hY := put (o := .lst (intL m (M k))) (by omega) hY
    have D14 := D13.setN (o := .lst (intL m (M k))) lr hs
    generalize B4.set r (.lst (intL m (M k))) = B5 at hr3 hw hO hE hP hS hX hY D14 ⊢
    simp only [sat_ok, sat_bad, sat_bind, sat_ite, bind_ok, bind_bad, thn_nx, thn_rt, thn_bk, thn_ct, fin_rt, fin_nx, ev_v, ev_c, ev_op, ev_un, ev_nil, ev_cons, ev_tup, ev_lst, ev_call, ev_own, ev_sl, ev_no, ev_part, ev_and, ev_or, ev_not, ev_if, ev_t, ev_tb, ev_tnot, ev_tand, ev_tor, ev_mt, ev_mt0, ev_rgd, ev_set, ev_asg, ev_ret, ev_retN, ev_ex, ev_pass, ev_brk, ev_cont, ev_ifS, ev_aug, ev_gn, ev_gtp, ev_gnl, ev_gcs, ev_gsb, ev_for, ev_rg1, ev_rg2, ev_its, ev_enum, ev_lc, ev_yes, ev_add_ii, ev_add_ss, ev_add_tt, ev_add_rr, ev_sub, ev_mul, ev_mod, ev_fdiv, ev_pow, ev_neg, ev_lt, ev_le, ev_gt, ev_ge, ev_eq_ii, ev_eq_ss, ev_eq_bb, ev_ne_ii, ev_ne_ss, ev_ne_bb, ev_is_n, ev_isnt_n, ev_int_i, ev_int_b, ev_min_ii, ev_max_ii, ev_abs, ev_tup_of, ev_tup_ofL, ev_lst_ofT, ev_lst_ofL, ev_len_t, ev_len_s, ev_len_r, ev_tru_b, ev_alloc, ev_tupD, ev_lstD, isi_tuple_non, isi_tuple_bl, isi_tuple_int, isi_tuple_str, isi_tuple_tup, isi_tuple_l, isi_tuple_f, isi_list_non, isi_list_bl, isi_list_int, isi_list_str, isi_list_tup, isi_list_l, isi_list_f, isi_bool_non, isi_bool_bl, isi_bool_int, isi_bool_str, isi_bool_tup, isi_bool_l, isi_bool_f, isi_int_non, isi_int_bl, isi_int_int, isi_int_str, isi_int_tup, isi_int_l, isi_int_f, isi_str_non, isi_str_bl, isi_str_int, isi_str_str, isi_str_tup, isi_str_l, isi_str_f, isi_dict_non, isi_dict_bl, isi_dict_int, isi_dict_str, isi_dict_tup, isi_dict_l, isi_dict_f, Ab.isNon, args, List.map, List.length_cons, List.length_nil, List.length_singleton, List.replicate, Nat.reduceSub, Nat.reduceAdd, Nat.zero_add, List.cons_append, List.nil_append, List.getElem?_cons_zero, List.getElem?_cons_succ, List.set_cons_zero, List.set_cons_succ, Option.some.injEq, decide_eq_true_eq, Bool.not_eq_true', decide_eq_false_iff_not, ite_true, ite_false, if_true, if_false, reduceIte, Bool.false_eq_true, Bool.not_true, Bool.not_false, Bool.true_eq_false, decide_true, decide_false, Nat.reduceLeDiff, Nat.reduceLT]
    refine sat_seq ?_
    simp only [sat_ok, sat_bad, sat_bind, sat_ite, bind_ok, bind_bad, thn_nx, thn_rt, thn_bk, thn_ct, fin_rt, fin_nx, ev_v, ev_c, ev_op, ev_un, ev_nil, ev_cons, ev_tup, ev_lst, ev_call, ev_own, ev_sl, ev_no, ev_part, ev_and, ev_or, ev_not, ev_if, ev_t, ev_tb, ev_tnot, ev_tand, ev_tor, ev_mt, ev_mt0, ev_rgd, ev_set, ev_asg, ev_ret, ev_retN, ev_ex, ev_pass, ev_brk, ev_cont, ev_ifS, ev_aug, ev_gn, ev_gtp, ev_gnl, ev_gcs, ev_gsb, ev_for, ev_rg1, ev_rg2, ev_its, ev_enum, ev_lc, ev_yes, ev_add_ii, ev_add_ss, ev_add_tt, ev_add_rr, ev_sub, ev_mul, ev_mod, ev_fdiv, ev_pow, ev_neg, ev_lt, ev_le, ev_gt, ev_ge, ev_eq_ii, ev_eq_ss, ev_eq_bb, ev_ne_ii, ev_ne_ss, ev_ne_bb, ev_is_n, ev_isnt_n, ev_int_i, ev_int_b, ev_min_ii, ev_max_ii, ev_abs, ev_tup_of, ev_tup_ofL, ev_lst_ofT, ev_lst_ofL, ev_len_t, ev_len_s, ev_len_r, ev_tru_b, ev_alloc, ev_tupD, ev_lstD, isi_tuple_non, isi_tuple_bl, isi_tuple_int, isi_tuple_str, isi_tuple_tup, isi_tuple_l, isi_tuple_f, isi_list_non, isi_list_bl, isi_list_int, isi_list_str, isi_list_tup, isi_list_l, isi_list_f, isi_bool_non, isi_bool_bl, isi_bool_int, isi_bool_str, isi_bool_tup, isi_bool_l, isi_bool_f, isi_int_non, isi_int_bl, isi_int_int, isi_int_str, isi_int_tup, isi_int_l, isi_int_f, isi_str_non, isi_str_bl, isi_str_int, isi_str_str, isi_str_tup, isi_str_l, isi_str_f, isi_dict_non, isi_dict_bl, isi_dict_int, isi_dict_str, isi_dict_tup, isi_dict_l, isi_dict_f, Ab.isNon, args, List.map, List.length_cons, List.length_nil, List.length_singleton, List.replicate, Nat.reduceSub, Nat.reduceAdd, Nat.zero_add, List.cons_append, List.nil_append, List.getElem?_cons_zero, List.getElem?_cons_succ, List.set_cons_zero, List.set_cons_succ, Option.some.injEq, decide_eq_true_eq, Bool.not_eq_true', decide_eq_false_iff_not, ite_true, ite_false, if_true, if_false, reduceIte, Bool.false_eq_true, Bool.not_true, Bool.not_false, Bool.true_eq_false, decide_true, decide_false, Nat.reduceLeDiff, Nat.reduceLT, ty_l hX, ev_tup_ofL (rdL_l hr3)]
    rw [ev_app hX (by simp; omega)]
    have put2 : ∀ {B : AH} {o : AO} {q : Nat} {u : AO}, q ≠ X → B[q]? = some u → (B.set X o)[q]? = some u := fun h e => by rw [List.getElem?_set_ne (Ne.symm h)]; exact e
    have hX2 := at_set (o := .lst (((List.range k).map fun i => rowD m (M i)) ++ [D.tup (intL m (M k))])) (at_lt hX)
    have hw := put2 (o := .lst (((List.range k).map fun i => rowD m (M i)) ++ [D.tup (intL m (M k))])) (by omega) hw
    have hO := put2 (o := .lst (((List.range k).map fun i => rowD m (M i)) ++ [D.tup (intL m (M k))])) (by omega) hO
    have hE := put2 (o := .lst (((List.range k).map fun i => rowD m (M i)) ++ [D.tup (intL m (M k))])) (by omega) hE
    have hP := put2 (o := .lst (((List.range k).map fun i => rowD m (M i)) ++ [D.tup (intL m (M k))])) (by omega) hP
    have hS := put2 (o := .lst (((List.range k).map fun i => rowD m (M i)) ++ [D.tup (intL m (M k))])) (by omega) hS
    have hY := put2 (o := .lst (((List.range k).map fun i => rowD m (M i)) ++ [D.tup (intL m (M k))])) (by omega) hY
    have D15 := D14.setN (o := .lst (((List.range k).map fun i => rowD m (M i)) ++ [D.tup (intL m (M k))])) lX hs
    generalize B5.set X (.lst (((List.range k).map fun i => rowD m (M i)) ++ [D.tup (intL m (M k))])) = B6 at hX2 hw hO hE hP hS hY D15 ⊢
    simp only [sat_ok, sat_bad, sat_bind, sat_ite, bind_ok, bind_bad, thn_nx, thn_rt, thn_bk, thn_ct, fin_rt, fin_nx, ev_v, ev_c, ev_op, ev_un, ev_nil, ev_cons, ev_tup, ev_lst, ev_call, ev_own, ev_sl, ev_no, ev_part, ev_and, ev_or, ev_not, ev_if, ev_t, ev_tb, ev_tnot, ev_tand, ev_tor, ev_mt, ev_mt0, ev_rgd, ev_set, ev_asg, ev_ret, ev_retN, ev_ex, ev_pass, ev_brk, ev_cont, ev_ifS, ev_aug, ev_gn, ev_gtp, ev_gnl, ev_gcs, ev_gsb, ev_for, ev_rg1, ev_rg2, ev_its, ev_enum, ev_lc, ev_yes, ev_add_ii, ev_add_ss, ev_add_tt, ev_add_rr, ev_sub, ev_mul, ev_mod, ev_fdiv, ev_pow, ev_neg, ev_lt, ev_le, ev_gt, ev_ge, ev_eq_ii, ev_eq_ss, ev_eq_bb, ev_ne_ii, ev_ne_ss, ev_ne_bb, ev_is_n, ev_isnt_n, ev_int_i, ev_int_b, ev_min_ii, ev_max_ii, ev_abs, ev_tup_of, ev_tup_ofL, ev_lst_ofT, ev_lst_ofL, ev_len_t, ev_len_s, ev_len_r, ev_tru_b, ev_alloc, ev_tupD, ev_lstD, isi_tuple_non, isi_tuple_bl, isi_tuple_int, isi_tuple_str, isi_tuple_tup, isi_tuple_l, isi_tuple_f, isi_list_non, isi_list_bl, isi_list_int, isi_list_str, isi_list_tup, isi_list_l, isi_list_f, isi_bool_non, isi_bool_bl, isi_bool_int, isi_bool_str, isi_bool_tup, isi_bool_l, isi_bool_f, isi_int_non, isi_int_bl, isi_int_int, isi_int_str, isi_int_tup, isi_int_l, isi_int_f, isi_str_non, isi_str_bl, isi_str_int, isi_str_str, isi_str_tup, isi_str_l, isi_str_f, isi_dict_non, isi_dict_bl, isi_dict_int, isi_dict_str, isi_dict_tup, isi_dict_l, isi_dict_f, Ab.isNon, args, List.map, List.length_cons, List.length_nil, List.length_singleton, List.replicate, Nat.reduceSub, Nat.reduceAdd, Nat.zero_add, List.cons_append, List.nil_append, List.getElem?_cons_zero, List.getElem?_cons_succ, List.set_cons_zero, List.set_cons_succ, Option.some.injEq, decide_eq_true_eq, Bool.not_eq_true', decide_eq_false_iff_not, ite_true, ite_false, if_true, if_false, reduceIte, Bool.false_eq_true, Bool.not_true, Bool.not_false, Bool.true_eq_false, decide_true, decide_false, Nat.reduceLeDiff, Nat.reduceLT, ty_l hY, ev_tup_ofL (rdL_l hw)]
    rw [ev_app hY (by simp; omega)]
    simp only [sat_ok, sat_bad, sat_bind, sat_ite, bind_ok, bind_bad, thn_nx, thn_rt, thn_bk, thn_ct, fin_rt, fin_nx, ev_v, ev_c, ev_op, ev_un, ev_nil, ev_cons, ev_tup, ev_lst, ev_call, ev_own, ev_sl, ev_no, ev_part, ev_and, ev_or, ev_not, ev_if, ev_t, ev_tb, ev_tnot, ev_tand, ev_tor, ev_mt, ev_mt0, ev_rgd, ev_set, ev_asg, ev_ret, ev_retN, ev_ex, ev_pass, ev_brk, ev_cont, ev_ifS, ev_aug, ev_gn, ev_gtp, ev_gnl, ev_gcs, ev_gsb, ev_for, ev_rg1, ev_rg2, ev_its, ev_enum, ev_lc, ev_yes, ev_add_ii, ev_add_ss, ev_add_tt, ev_add_rr, ev_sub, ev_mul, ev_mod, ev_fdiv, ev_pow, ev_neg, ev_lt, ev_le, ev_gt, ev_ge, ev_eq_ii, ev_eq_ss, ev_eq_bb, ev_ne_ii, ev_ne_ss, ev_ne_bb, ev_is_n, ev_isnt_n, ev_int_i, ev_int_b, ev_min_ii, ev_max_ii, ev_abs, ev_tup_of, ev_tup_ofL, ev_lst_ofT, ev_lst_ofL, ev_len_t, ev_len_s, ev_len_r, ev_tru_b, ev_alloc, ev_tupD, ev_lstD, isi_tuple_non, isi_tuple_bl, isi_tuple_int, isi_tuple_str, isi_tuple_tup, isi_tuple_l, isi_tuple_f, isi_list_non, isi_list_bl, isi_list_int, isi_list_str, isi_list_tup, isi_list_l, isi_list_f, isi_bool_non, isi_bool_bl, isi_bool_int, isi_bool_str, isi_bool_tup, isi_bool_l, isi_bool_f, isi_int_non, isi_int_bl, isi_int_int, isi_int_str, isi_int_tup, isi_int_l, isi_int_f, isi_str_non, isi_str_bl, isi_str_int, isi_str_str, isi_str_tup, isi_str_l, isi_str_f, isi_dict_non, isi_dict_bl, isi_dict_int, isi_dict_str, isi_dict_tup, isi_dict_l, isi_dict_f, Ab.isNon, args, List.map, List.length_cons, List.length_nil, List.length_singleton, List.replicate, Nat.reduceSub, Nat.reduceAdd, Nat.zero_add, List.cons_append, List.nil_append, List.getElem?_cons_zero, List.getElem?_cons_succ, List.set_cons_zero, List.set_cons_succ, Option.some.injEq, decide_eq_true_eq, Bool.not_eq_true', decide_eq_false_iff_not, ite_true, ite_false, if_true, if_false, reduceIte, Bool.false_eq_true, Bool.not_true, Bool.not_false, Bool.true_eq_false, decide_true, decide_false, Nat.reduceLeDiff, Nat.reduceLT, turn_]
    have put3 : ∀ {B : AH} {o : AO} {q : Nat} {u : AO}, q ≠ Y → B[q]? = some u → (B.set Y o)[q]? = some u := fun h e => by rw [List.getElem?_set_ne (Ne.symm h)]; exact e
    refine ⟨D15.setN lY hs, put3 (by omega) hO, put3 (by omega) hE, put3 (by omega) hP, put3 (by omega) hS, ?_, ?_, _, _, _, _, _, rfl⟩
    · rw [put3 (by omega) hX2, List.range_succ (n := k), List.map_append]; rfl
    · rw [at_set (at_lt hY), List.range_succ (n := k), List.map_append]; rfl
  · subst hσ
    simp only [sat_ok, sat_bad, sat_bind, sat_ite, bind_ok, bind_bad, thn_nx, thn_rt, thn_bk, thn_ct, fin_rt, fin_nx, ev_v, ev_c, ev_op, ev_un, ev_nil, ev_cons, ev_tup, ev_lst, ev_call, ev_own, ev_sl, ev_no, ev_part, ev_and, ev_or, ev_not, ev_if, ev_t, ev_tb, ev_tnot, ev_tand, ev_tor, ev_mt, ev_mt0, ev_rgd, ev_set, ev_asg, ev_ret, ev_retN, ev_ex, ev_pass, ev_brk, ev_cont, ev_ifS, ev_aug, ev_gn, ev_gtp, ev_gnl, ev_gcs, ev_gsb, ev_for, ev_rg1, ev_rg2, ev_its, ev_enum, ev_lc, ev_yes, ev_add_ii, ev_add_ss, ev_add_tt, ev_add_rr, ev_sub, ev_mul, ev_mod, ev_fdiv, ev_pow, ev_neg, ev_lt, ev_le, ev_gt, ev_ge, ev_eq_ii, ev_eq_ss, ev_eq_bb, ev_ne_ii, ev_ne_ss, ev_ne_bb, ev_is_n, ev_isnt_n, ev_int_i, ev_int_b, ev_min_ii, ev_max_ii, ev_abs, ev_tup_of, ev_tup_ofL, ev_lst_ofT, ev_lst_ofL, ev_len_t, ev_len_s, ev_len_r, ev_tru_b, ev_alloc, ev_tupD, ev_lstD, isi_tuple_non, isi_tuple_bl, isi_tuple_int, isi_tuple_str, isi_tuple_tup, isi_tuple_l, isi_tuple_f, isi_list_non, isi_list_bl, isi_list_int, isi_list_str, isi_list_tup, isi_list_l, isi_list_f, isi_bool_non, isi_bool_bl, isi_bool_int, isi_bool_str, isi_bool_tup, isi_bool_l, isi_bool_f, isi_int_non, isi_int_bl, isi_int_int, isi_int_str, isi_int_tup, isi_int_l, isi_int_f, isi_str_non, isi_str_bl, isi_str_int, isi_str_str, isi_str_tup, isi_str_l, isi_str_f, isi_dict_non, isi_dict_bl, isi_dict_int, isi_dict_str, isi_dict_tup, isi_dict_l, isi_dict_f, Ab.isNon, args, List.map, List.length_cons, List.length_nil, List.length_singleton, List.replicate, Nat.reduceSub, Nat.reduceAdd, Nat.zero_add, List.cons_append, List.nil_append, List.getElem?_cons_zero, List.getElem?_cons_succ, List.set_cons_zero, List.set_cons_succ, Option.some.injEq, decide_eq_true_eq, Bool.not_eq_true', decide_eq_false_iff_not, ite_true, ite_false, if_true, if_false, reduceIte, Bool.false_eq_true, Bool.not_true, Bool.not_false, Bool.true_eq_false, decide_true, decide_false, Nat.reduceLeDiff, Nat.reduceLT]
    refine sat_seq ?_
    have cl : Closes m M (if su m < 0 then none else some W) := by
      rw [hW]
      refine ring_closes R (fun i hi => ?_) (fun k hk => ?_) (fun i j hi hj e1 e2 => ?_)
      · rw [hM]
        simp only []
        have nx : i ≠ os.getD (nextP m (pl i)) 0 := fun z => by
          have h := R.po i hi
          have nm : nextP m (pl i) < m := by unfold nextP; split <;> omega
          have z2 := congrArg pl z
          rw [hpl _ nm] at z2
          unfold nextP at z2
          split at z2 <;> omega
        rw [if_neg nx]; simp
      · rw [hM]
        simp only []
        rw [hpl k hk, if_pos rfl]
      · rw [hM, hb, hW]
        simp only []
        have nx : j ≠ os.getD (nextP m (pl i)) 0 := fun z => by
          have h := R.po i hi
          have nm : nextP m (pl i) < m := by unfold nextP; split <;> omega
          have z2 := congrArg pl z
          rw [hpl _ nm] at z2
          exact e2 z2
        rw [if_neg nx, if_neg (Ne.symm e1)]
        have wf := way_far R (R.po i hi) (R.po j hj)
        have : near = 0 ∨ near = 1 := by omega
        rcases this with rfl | rfl
        · rw [Int.mul_zero, Int.sub_zero, Int.mul_one]; omega
        · rw [Int.mul_one, show (1 : Int) - 1 = 0 by decide, Int.mul_zero]; omega
    simp only [sat_ok, sat_bad, sat_bind, sat_ite, bind_ok, bind_bad, thn_nx, thn_rt, thn_bk, thn_ct, fin_rt, fin_nx, ev_v, ev_c, ev_op, ev_un, ev_nil, ev_cons, ev_tup, ev_lst, ev_call, ev_own, ev_sl, ev_no, ev_part, ev_and, ev_or, ev_not, ev_if, ev_t, ev_tb, ev_tnot, ev_tand, ev_tor, ev_mt, ev_mt0, ev_rgd, ev_set, ev_asg, ev_ret, ev_retN, ev_ex, ev_pass, ev_brk, ev_cont, ev_ifS, ev_aug, ev_gn, ev_gtp, ev_gnl, ev_gcs, ev_gsb, ev_for, ev_rg1, ev_rg2, ev_its, ev_enum, ev_lc, ev_yes, ev_add_ii, ev_add_ss, ev_add_tt, ev_add_rr, ev_sub, ev_mul, ev_mod, ev_fdiv, ev_pow, ev_neg, ev_lt, ev_le, ev_gt, ev_ge, ev_eq_ii, ev_eq_ss, ev_eq_bb, ev_ne_ii, ev_ne_ss, ev_ne_bb, ev_is_n, ev_isnt_n, ev_int_i, ev_int_b, ev_min_ii, ev_max_ii, ev_abs, ev_tup_of, ev_tup_ofL, ev_lst_ofT, ev_lst_ofL, ev_len_t, ev_len_s, ev_len_r, ev_tru_b, ev_alloc, ev_tupD, ev_lstD, isi_tuple_non, isi_tuple_bl, isi_tuple_int, isi_tuple_str, isi_tuple_tup, isi_tuple_l, isi_tuple_f, isi_list_non, isi_list_bl, isi_list_int, isi_list_str, isi_list_tup, isi_list_l, isi_list_f, isi_bool_non, isi_bool_bl, isi_bool_int, isi_bool_str, isi_bool_tup, isi_bool_l, isi_bool_f, isi_int_non, isi_int_bl, isi_int_int, isi_int_str, isi_int_tup, isi_int_l, isi_int_f, isi_str_non, isi_str_bl, isi_str_int, isi_str_str, isi_str_tup, isi_str_l, isi_str_f, isi_dict_non, isi_dict_bl, isi_dict_int, isi_dict_str, isi_dict_tup, isi_dict_l, isi_dict_f, Ab.isNon, args, List.map, List.length_cons, List.length_nil, List.length_singleton, List.replicate, Nat.reduceSub, Nat.reduceAdd, Nat.zero_add, List.cons_append, List.nil_append, List.getElem?_cons_zero, List.getElem?_cons_succ, List.set_cons_zero, List.set_cons_succ, Option.some.injEq, decide_eq_true_eq, Bool.not_eq_true', decide_eq_false_iff_not, ite_true, ite_false, if_true, if_false, reduceIte, Bool.false_eq_true, Bool.not_true, Bool.not_false, Bool.true_eq_false, decide_true, decide_false, Nat.reduceLeDiff, Nat.reduceLT, e1, intL_ix hS (Nat.lt_succ_self m)]
    split
    · rename_i hn
      rw [if_pos hn] at cl
      simp only [sat_ok, sat_bad, sat_bind, sat_ite, bind_ok, bind_bad, thn_nx, thn_rt, thn_bk, thn_ct, fin_rt, fin_nx, ev_v, ev_c, ev_op, ev_un, ev_nil, ev_cons, ev_tup, ev_lst, ev_call, ev_own, ev_sl, ev_no, ev_part, ev_and, ev_or, ev_not, ev_if, ev_t, ev_tb, ev_tnot, ev_tand, ev_tor, ev_mt, ev_mt0, ev_rgd, ev_set, ev_asg, ev_ret, ev_retN, ev_ex, ev_pass, ev_brk, ev_cont, ev_ifS, ev_aug, ev_gn, ev_gtp, ev_gnl, ev_gcs, ev_gsb, ev_for, ev_rg1, ev_rg2, ev_its, ev_enum, ev_lc, ev_yes, ev_add_ii, ev_add_ss, ev_add_tt, ev_add_rr, ev_sub, ev_mul, ev_mod, ev_fdiv, ev_pow, ev_neg, ev_lt, ev_le, ev_gt, ev_ge, ev_eq_ii, ev_eq_ss, ev_eq_bb, ev_ne_ii, ev_ne_ss, ev_ne_bb, ev_is_n, ev_isnt_n, ev_int_i, ev_int_b, ev_min_ii, ev_max_ii, ev_abs, ev_tup_of, ev_tup_ofL, ev_lst_ofT, ev_lst_ofL, ev_len_t, ev_len_s, ev_len_r, ev_tru_b, ev_alloc, ev_tupD, ev_lstD, isi_tuple_non, isi_tuple_bl, isi_tuple_int, isi_tuple_str, isi_tuple_tup, isi_tuple_l, isi_tuple_f, isi_list_non, isi_list_bl, isi_list_int, isi_list_str, isi_list_tup, isi_list_l, isi_list_f, isi_bool_non, isi_bool_bl, isi_bool_int, isi_bool_str, isi_bool_tup, isi_bool_l, isi_bool_f, isi_int_non, isi_int_bl, isi_int_int, isi_int_str, isi_int_tup, isi_int_l, isi_int_f, isi_str_non, isi_str_bl, isi_str_int, isi_str_str, isi_str_tup, isi_str_l, isi_str_f, isi_dict_non, isi_dict_bl, isi_dict_int, isi_dict_str, isi_dict_tup, isi_dict_l, isi_dict_f, Ab.isNon, args, List.map, List.length_cons, List.length_nil, List.length_singleton, List.replicate, Nat.reduceSub, Nat.reduceAdd, Nat.zero_add, List.cons_append, List.nil_append, List.getElem?_cons_zero, List.getElem?_cons_succ, List.set_cons_zero, List.set_cons_succ, Option.some.injEq, decide_eq_true_eq, Bool.not_eq_true', decide_eq_false_iff_not, ite_true, ite_false, if_true, if_false, reduceIte, Bool.false_eq_true, Bool.not_true, Bool.not_false, Bool.true_eq_false, decide_true, decide_false, Nat.reduceLeDiff, Nat.reduceLT, ev_tup_ofL (rdL_l hX)]
      exact ⟨DB.trans (Dr.app DB.src _), _, rfl, m, M, none, by omega, by omega, at_new, cl⟩
    · rename_i hn
      rw [if_neg hn] at cl
      simp only [sat_ok, sat_bad, sat_bind, sat_ite, bind_ok, bind_bad, thn_nx, thn_rt, thn_bk, thn_ct, fin_rt, fin_nx, ev_v, ev_c, ev_op, ev_un, ev_nil, ev_cons, ev_tup, ev_lst, ev_call, ev_own, ev_sl, ev_no, ev_part, ev_and, ev_or, ev_not, ev_if, ev_t, ev_tb, ev_tnot, ev_tand, ev_tor, ev_mt, ev_mt0, ev_rgd, ev_set, ev_asg, ev_ret, ev_retN, ev_ex, ev_pass, ev_brk, ev_cont, ev_ifS, ev_aug, ev_gn, ev_gtp, ev_gnl, ev_gcs, ev_gsb, ev_for, ev_rg1, ev_rg2, ev_its, ev_enum, ev_lc, ev_yes, ev_add_ii, ev_add_ss, ev_add_tt, ev_add_rr, ev_sub, ev_mul, ev_mod, ev_fdiv, ev_pow, ev_neg, ev_lt, ev_le, ev_gt, ev_ge, ev_eq_ii, ev_eq_ss, ev_eq_bb, ev_ne_ii, ev_ne_ss, ev_ne_bb, ev_is_n, ev_isnt_n, ev_int_i, ev_int_b, ev_min_ii, ev_max_ii, ev_abs, ev_tup_of, ev_tup_ofL, ev_lst_ofT, ev_lst_ofL, ev_len_t, ev_len_s, ev_len_r, ev_tru_b, ev_alloc, ev_tupD, ev_lstD, isi_tuple_non, isi_tuple_bl, isi_tuple_int, isi_tuple_str, isi_tuple_tup, isi_tuple_l, isi_tuple_f, isi_list_non, isi_list_bl, isi_list_int, isi_list_str, isi_list_tup, isi_list_l, isi_list_f, isi_bool_non, isi_bool_bl, isi_bool_int, isi_bool_str, isi_bool_tup, isi_bool_l, isi_bool_f, isi_int_non, isi_int_bl, isi_int_int, isi_int_str, isi_int_tup, isi_int_l, isi_int_f, isi_str_non, isi_str_bl, isi_str_int, isi_str_str, isi_str_tup, isi_str_l, isi_str_f, isi_dict_non, isi_dict_bl, isi_dict_int, isi_dict_str, isi_dict_tup, isi_dict_l, isi_dict_f, Ab.isNon, args, List.map, List.length_cons, List.length_nil, List.length_singleton, List.replicate, Nat.reduceSub, Nat.reduceAdd, Nat.zero_add, List.cons_append, List.nil_append, List.getElem?_cons_zero, List.getElem?_cons_succ, List.set_cons_zero, List.set_cons_succ, Option.some.injEq, decide_eq_true_eq, Bool.not_eq_true', decide_eq_false_iff_not, ite_true, ite_false, if_true, if_false, reduceIte, Bool.false_eq_true, Bool.not_true, Bool.not_false, Bool.true_eq_false, decide_true, decide_false, Nat.reduceLeDiff, Nat.reduceLT, ev_tup_ofL (rdL_l hX), ev_tup_ofL (rdL_l hY)]
      exact ⟨DB.trans (Dr.app DB.src _), _, rfl, m, M, some W, by omega, by omega, at_new, cl⟩
/-! ### the law -/
theorem cell0 {A : AH} {ns : List Int} {k : Int} (h : A[0]? = some (.frz (ns.map D.int))) (hl : ns.length ≤ 63) (h0 : 0 ≤ k) : ∃ v, m__law_cell [.ref 0, .int k] A = .ok (.int v) A := by
  obtain ⟨v, e⟩ := cell_spec (k := k.toNat) h hl
  exact ⟨v, by rw [Int.toNat_of_nonneg h0] at e; exact e⟩
theorem src_new {A : AH} {v : Int} : Sr A.length (A ++ [.lst [.int v, .int v, .int 0]]) := ⟨v, v, 0, at_new⟩
theorem pair0 {A : AH} {r m : Nat} {M : Mx} {o : Option Mx} (h : A[r]? = some (.lst [matD m M, outD m o])) : ixD (.ref r) (.int 0) A = .ok (matD m M) A := ev_ix_r (rdL_l h) (by rw [atI_pos (by decide)]; rfl)
theorem pair1 {A : AH} {r m : Nat} {M : Mx} {o : Option Mx} (h : A[r]? = some (.lst [matD m M, outD m o])) : ixD (.ref r) (.int 1) A = .ok (outD m o) A := ev_ix_r (rdL_l h) (by rw [atI_pos (by decide)]; rfl)
theorem same_out {A : AH} {m : Nat} {o : Option Mx} (h : m ≤ 30) : m__law_same 20 [outD m o, outD m o] A = .ok (.bl true) A := same_refl 19 _ A (pl_out (by omega))
theorem chk {A : AH} {m : Nat} {M : Mx} {o : Option Mx} (h0 : 0 < m) (hm : m ≤ 30) (h : Closes m M o) : Sat (m_close [matD m M] A) fun d A' => d = outD m o ∧ Gr A A' :=
  Sat.imp (close_spec (by omega) h0) fun d A' ⟨G, o', e, h'⟩ => ⟨by rw [e]; exact closes_same h0 h' h, G⟩
theorem closes_self {m : Nat} {M R : Mx} (h : ClOf m M R) : Closes m R (some R) := ⟨fun i hi => by rw [h.cl.dg i hi]; exact Int.le_refl _, h.cl, fun _ _ _ _ _ => Int.le_refl _, fun p hp i j hi hj => by
  by_cases e : i = j
  · subst e; rw [h.cl.dg i hi]; omega
  · exact hp i j hi hj e⟩
theorem law_ok : ∀ ns : List Int, ns.length ≤ 63 → ∃ A', m_law [.ref 0] [.frz (ns.map D.int)] = .ok (.bl true) A' := by
  intro ns hl
  have key : Sat (m_law [.ref 0] [.frz (ns.map D.int)]) fun d A' => d = .bl true := by
    refine sat_body rfl (sat_seq ?_)
    have h0 : ([AO.frz (ns.map D.int)] : AH)[0]? = some (.frz (ns.map D.int)) := rfl
    generalize [AO.frz (ns.map D.int)] = A at h0 ⊢
    obtain ⟨v, hv⟩ := cell0 (k := 0) h0 hl (by decide)
    simp only [sat_ok, sat_bad, sat_bind, sat_ite, bind_ok, bind_bad, thn_nx, thn_rt, thn_bk, thn_ct, fin_rt, fin_nx, ev_v, ev_c, ev_op, ev_un, ev_nil, ev_cons, ev_tup, ev_lst, ev_call, ev_own, ev_sl, ev_no, ev_part, ev_and, ev_or, ev_not, ev_if, ev_t, ev_tb, ev_tnot, ev_tand, ev_tor, ev_mt, ev_mt0, ev_rgd, ev_set, ev_asg, ev_ret, ev_retN, ev_ex, ev_pass, ev_brk, ev_cont, ev_ifS, ev_aug, ev_gn, ev_gtp, ev_gnl, ev_gcs, ev_gsb, ev_for, ev_rg1, ev_rg2, ev_its, ev_enum, ev_lc, ev_yes, ev_add_ii, ev_add_ss, ev_add_tt, ev_add_rr, ev_sub, ev_mul, ev_mod, ev_fdiv, ev_pow, ev_neg, ev_lt, ev_le, ev_gt, ev_ge, ev_eq_ii, ev_eq_ss, ev_eq_bb, ev_ne_ii, ev_ne_ss, ev_ne_bb, ev_is_n, ev_isnt_n, ev_int_i, ev_int_b, ev_min_ii, ev_max_ii, ev_abs, ev_tup_of, ev_tup_ofL, ev_lst_ofT, ev_lst_ofL, ev_len_t, ev_len_s, ev_len_r, ev_tru_b, ev_alloc, ev_tupD, ev_lstD, isi_tuple_non, isi_tuple_bl, isi_tuple_int, isi_tuple_str, isi_tuple_tup, isi_tuple_l, isi_tuple_f, isi_list_non, isi_list_bl, isi_list_int, isi_list_str, isi_list_tup, isi_list_l, isi_list_f, isi_bool_non, isi_bool_bl, isi_bool_int, isi_bool_str, isi_bool_tup, isi_bool_l, isi_bool_f, isi_int_non, isi_int_bl, isi_int_int, isi_int_str, isi_int_tup, isi_int_l, isi_int_f, isi_str_non, isi_str_bl, isi_str_int, isi_str_str, isi_str_tup, isi_str_l, isi_str_f, isi_dict_non, isi_dict_bl, isi_dict_int, isi_dict_str, isi_dict_tup, isi_dict_l, isi_dict_f, Ab.isNon, args, List.map, List.length_cons, List.length_nil, List.length_singleton, List.replicate, Nat.reduceSub, Nat.reduceAdd, Nat.zero_add, List.cons_append, List.nil_append, List.getElem?_cons_zero, List.getElem?_cons_succ, List.set_cons_zero, List.set_cons_succ, Option.some.injEq, decide_eq_true_eq, Bool.not_eq_true', decide_eq_false_iff_not, ite_true, ite_false, if_true, if_false, reduceIte, Bool.false_eq_true, Bool.not_true, Bool.not_false, Bool.true_eq_false, decide_true, decide_false, Nat.reduceLeDiff, Nat.reduceLT, hv, source_spec]
    have sr := src_new (A := A) (v := v)
    have s0 : A.length ≠ 0 := by have := at_lt h0; omega
    have h0 := (Gr.app (B := [.lst [.int v, .int v, .int 0]])).keep _ _ h0
    generalize A ++ [.lst [.int v, .int v, .int 0]] = A1 at h0 sr ⊢
    generalize A.length = s at sr s0 ⊢
    refine sat_seq ?_
    simp only [sat_ok, sat_bad, sat_bind, sat_ite, bind_ok, bind_bad, thn_nx, thn_rt, thn_bk, thn_ct, fin_rt, fin_nx, ev_v, ev_c, ev_op, ev_un, ev_nil, ev_cons, ev_tup, ev_lst, ev_call, ev_own, ev_sl, ev_no, ev_part, ev_and, ev_or, ev_not, ev_if, ev_t, ev_tb, ev_tnot, ev_tand, ev_tor, ev_mt, ev_mt0, ev_rgd, ev_set, ev_asg, ev_ret, ev_retN, ev_ex, ev_pass, ev_brk, ev_cont, ev_ifS, ev_aug, ev_gn, ev_gtp, ev_gnl, ev_gcs, ev_gsb, ev_for, ev_rg1, ev_rg2, ev_its, ev_enum, ev_lc, ev_yes, ev_add_ii, ev_add_ss, ev_add_tt, ev_add_rr, ev_sub, ev_mul, ev_mod, ev_fdiv, ev_pow, ev_neg, ev_lt, ev_le, ev_gt, ev_ge, ev_eq_ii, ev_eq_ss, ev_eq_bb, ev_ne_ii, ev_ne_ss, ev_ne_bb, ev_is_n, ev_isnt_n, ev_int_i, ev_int_b, ev_min_ii, ev_max_ii, ev_abs, ev_tup_of, ev_tup_ofL, ev_lst_ofT, ev_lst_ofL, ev_len_t, ev_len_s, ev_len_r, ev_tru_b, ev_alloc, ev_tupD, ev_lstD, isi_tuple_non, isi_tuple_bl, isi_tuple_int, isi_tuple_str, isi_tuple_tup, isi_tuple_l, isi_tuple_f, isi_list_non, isi_list_bl, isi_list_int, isi_list_str, isi_list_tup, isi_list_l, isi_list_f, isi_bool_non, isi_bool_bl, isi_bool_int, isi_bool_str, isi_bool_tup, isi_bool_l, isi_bool_f, isi_int_non, isi_int_bl, isi_int_int, isi_int_str, isi_int_tup, isi_int_l, isi_int_f, isi_str_non, isi_str_bl, isi_str_int, isi_str_str, isi_str_tup, isi_str_l, isi_str_f, isi_dict_non, isi_dict_bl, isi_dict_int, isi_dict_str, isi_dict_tup, isi_dict_l, isi_dict_f, Ab.isNon, args, List.map, List.length_cons, List.length_nil, List.length_singleton, List.replicate, Nat.reduceSub, Nat.reduceAdd, Nat.zero_add, List.cons_append, List.nil_append, List.getElem?_cons_zero, List.getElem?_cons_succ, List.set_cons_zero, List.set_cons_succ, Option.some.injEq, decide_eq_true_eq, Bool.not_eq_true', decide_eq_false_iff_not, ite_true, ite_false, if_true, if_false, reduceIte, Bool.false_eq_true, Bool.not_true, Bool.not_false, Bool.true_eq_false, decide_true, decide_false, Nat.reduceLeDiff, Nat.reduceLT]
    have h0 := (Gr.app (B := [AO.lst []])).keep _ _ h0
    have sr := sr.gr (Gr.app (B := [AO.lst []]))
    generalize A1 ++ [AO.lst []] = A2 at h0 sr ⊢
    refine sat_seq ?_
    simp only [sat_ok, sat_bad, sat_bind, sat_ite, bind_ok, bind_bad, thn_nx, thn_rt, thn_bk, thn_ct, fin_rt, fin_nx, ev_v, ev_c, ev_op, ev_un, ev_nil, ev_cons, ev_tup, ev_lst, ev_call, ev_own, ev_sl, ev_no, ev_part, ev_and, ev_or, ev_not, ev_if, ev_t, ev_tb, ev_tnot, ev_tand, ev_tor, ev_mt, ev_mt0, ev_rgd, ev_set, ev_asg, ev_ret, ev_retN, ev_ex, ev_pass, ev_brk, ev_cont, ev_ifS, ev_aug, ev_gn, ev_gtp, ev_gnl, ev_gcs, ev_gsb, ev_for, ev_rg1, ev_rg2, ev_its, ev_enum, ev_lc, ev_yes, ev_add_ii, ev_add_ss, ev_add_tt, ev_add_rr, ev_sub, ev_mul, ev_mod, ev_fdiv, ev_pow, ev_neg, ev_lt, ev_le, ev_gt, ev_ge, ev_eq_ii, ev_eq_ss, ev_eq_bb, ev_ne_ii, ev_ne_ss, ev_ne_bb, ev_is_n, ev_isnt_n, ev_int_i, ev_int_b, ev_min_ii, ev_max_ii, ev_abs, ev_tup_of, ev_tup_ofL, ev_lst_ofT, ev_lst_ofL, ev_len_t, ev_len_s, ev_len_r, ev_tru_b, ev_alloc, ev_tupD, ev_lstD, isi_tuple_non, isi_tuple_bl, isi_tuple_int, isi_tuple_str, isi_tuple_tup, isi_tuple_l, isi_tuple_f, isi_list_non, isi_list_bl, isi_list_int, isi_list_str, isi_list_tup, isi_list_l, isi_list_f, isi_bool_non, isi_bool_bl, isi_bool_int, isi_bool_str, isi_bool_tup, isi_bool_l, isi_bool_f, isi_int_non, isi_int_bl, isi_int_int, isi_int_str, isi_int_tup, isi_int_l, isi_int_f, isi_str_non, isi_str_bl, isi_str_int, isi_str_str, isi_str_tup, isi_str_l, isi_str_f, isi_dict_non, isi_dict_bl, isi_dict_int, isi_dict_str, isi_dict_tup, isi_dict_l, isi_dict_f, Ab.isNon, args, List.map, List.length_cons, List.length_nil, List.length_singleton, List.replicate, Nat.reduceSub, Nat.reduceAdd, Nat.zero_add, List.cons_append, List.nil_append, List.getElem?_cons_zero, List.getElem?_cons_succ, List.set_cons_zero, List.set_cons_succ, Option.some.injEq, decide_eq_true_eq, Bool.not_eq_true', decide_eq_false_iff_not, ite_true, ite_false, if_true, if_false, reduceIte, Bool.false_eq_true, Bool.not_true, Bool.not_false, Bool.true_eq_false, decide_true, decide_false, Nat.reduceLeDiff, Nat.reduceLT]
    refine Sat.imp (pick_pos sr (n := 4) (by decide) (by decide)) fun d A3 ⟨⟨c, e, c0, c1⟩, dr⟩ => ?_
    subst e
    have h0 := dr.keep 0 _ (Ne.symm s0) h0
    have sr := dr.src
    refine sat_seq ?_
    have step : Sat (fIfS (fTB (fOp eqD (fV 3) (fC (.int 0))))
 (fSet (fOwn 1 m__law_ring (fCons (fV 1) (fNil))) 2)
 (fIfS (fTB (fOp eqD (fV 3) (fC (.int 1))))
 (fSet (fOwn 1 m__law_wide (fCons (fV 1) (fNil))) 2)
 (fSet (fOwn 1 m__law_small (fCons (fV 1) (fNil))) 2)) [some (.ref 0), some (.ref s), some (.ref A1.length), some (.int c)] A3) fun fl A4 => Dr s A3 A4 ∧ ∃ r, fl = .nx [some (.ref 0), some (.ref s), some (.ref r), some (.int c)] ∧ Pair A4 r := by
      simp only [sat_ok, sat_bad, sat_bind, sat_ite, bind_ok, bind_bad, thn_nx, thn_rt, thn_bk, thn_ct, fin_rt, fin_nx, ev_v, ev_c, ev_op, ev_un, ev_nil, ev_cons, ev_tup, ev_lst, ev_call, ev_own, ev_sl, ev_no, ev_part, ev_and, ev_or, ev_not, ev_if, ev_t, ev_tb, ev_tnot, ev_tand, ev_tor, ev_mt, ev_mt0, ev_rgd, ev_set, ev_asg, ev_ret, ev_retN, ev_ex, ev_pass, ev_brk, ev_cont, ev_ifS, ev_aug, ev_gn, ev_gtp, ev_gnl, ev_gcs, ev_gsb, ev_for, ev_rg1, ev_rg2, ev_its, ev_enum, ev_lc, ev_yes, ev_add_ii, ev_add_ss, ev_add_tt, ev_add_rr, ev_sub, ev_mul, ev_mod, ev_fdiv, ev_pow, ev_neg, ev_lt, ev_le, ev_gt, ev_ge, ev_eq_ii, ev_eq_ss, ev_eq_bb, ev_ne_ii, ev_ne_ss, ev_ne_bb, ev_is_n, ev_isnt_n, ev_int_i, ev_int_b, ev_min_ii, ev_max_ii, ev_abs, ev_tup_of, ev_tup_ofL, ev_lst_ofT, ev_lst_ofL, ev_len_t, ev_len_s, ev_len_r, ev_tru_b, ev_alloc, ev_tupD, ev_lstD, isi_tuple_non, isi_tuple_bl, isi_tuple_int, isi_tuple_str, isi_tuple_tup, isi_tuple_l, isi_tuple_f, isi_list_non, isi_list_bl, isi_list_int, isi_list_str, isi_list_tup, isi_list_l, isi_list_f, isi_bool_non, isi_bool_bl, isi_bool_int, isi_bool_str, isi_bool_tup, isi_bool_l, isi_bool_f, isi_int_non, isi_int_bl, isi_int_int, isi_int_str, isi_int_tup, isi_int_l, isi_int_f, isi_str_non, isi_str_bl, isi_str_int, isi_str_str, isi_str_tup, isi_str_l, isi_str_f, isi_dict_non, isi_dict_bl, isi_dict_int, isi_dict_str, isi_dict_tup, isi_dict_l, isi_dict_f, Ab.isNon, args, List.map, List.length_cons, List.length_nil, List.length_singleton, List.replicate, Nat.reduceSub, Nat.reduceAdd, Nat.zero_add, List.cons_append, List.nil_append, List.getElem?_cons_zero, List.getElem?_cons_succ, List.set_cons_zero, List.set_cons_succ, Option.some.injEq, decide_eq_true_eq, Bool.not_eq_true', decide_eq_false_iff_not, ite_true, ite_false, if_true, if_false, reduceIte, Bool.false_eq_true, Bool.not_true, Bool.not_false, Bool.true_eq_false, decide_true, decide_false, Nat.reduceLeDiff, Nat.reduceLT]
      split
      · exact Sat.imp (ring_spec sr) fun d A4 ⟨dr, r, e, hp⟩ => by subst e; exact ⟨dr, r, rfl, hp⟩
      split
      · exact Sat.imp (wide_spec sr) fun d A4 ⟨dr, r, e, hp⟩ => by subst e; exact ⟨dr, r, rfl, hp⟩
      · exact Sat.imp (small_spec sr) fun d A4 ⟨dr, r, e, hp⟩ => by subst e; exact ⟨dr, r, rfl, hp⟩
    refine Sat.imp step fun fl A4 ⟨dr, r, e, m, M, o, m0, m30, hr, cl⟩ => ?_
    subst e
    have h0 := dr.keep 0 _ (Ne.symm s0) h0
    refine sat_seq ?_
    simp only [sat_ok, sat_bad, sat_bind, sat_ite, bind_ok, bind_bad, thn_nx, thn_rt, thn_bk, thn_ct, fin_rt, fin_nx, ev_v, ev_c, ev_op, ev_un, ev_nil, ev_cons, ev_tup, ev_lst, ev_call, ev_own, ev_sl, ev_no, ev_part, ev_and, ev_or, ev_not, ev_if, ev_t, ev_tb, ev_tnot, ev_tand, ev_tor, ev_mt, ev_mt0, ev_rgd, ev_set, ev_asg, ev_ret, ev_retN, ev_ex, ev_pass, ev_brk, ev_cont, ev_ifS, ev_aug, ev_gn, ev_gtp, ev_gnl, ev_gcs, ev_gsb, ev_for, ev_rg1, ev_rg2, ev_its, ev_enum, ev_lc, ev_yes, ev_add_ii, ev_add_ss, ev_add_tt, ev_add_rr, ev_sub, ev_mul, ev_mod, ev_fdiv, ev_pow, ev_neg, ev_lt, ev_le, ev_gt, ev_ge, ev_eq_ii, ev_eq_ss, ev_eq_bb, ev_ne_ii, ev_ne_ss, ev_ne_bb, ev_is_n, ev_isnt_n, ev_int_i, ev_int_b, ev_min_ii, ev_max_ii, ev_abs, ev_tup_of, ev_tup_ofL, ev_lst_ofT, ev_lst_ofL, ev_len_t, ev_len_s, ev_len_r, ev_tru_b, ev_alloc, ev_tupD, ev_lstD, isi_tuple_non, isi_tuple_bl, isi_tuple_int, isi_tuple_str, isi_tuple_tup, isi_tuple_l, isi_tuple_f, isi_list_non, isi_list_bl, isi_list_int, isi_list_str, isi_list_tup, isi_list_l, isi_list_f, isi_bool_non, isi_bool_bl, isi_bool_int, isi_bool_str, isi_bool_tup, isi_bool_l, isi_bool_f, isi_int_non, isi_int_bl, isi_int_int, isi_int_str, isi_int_tup, isi_int_l, isi_int_f, isi_str_non, isi_str_bl, isi_str_int, isi_str_str, isi_str_tup, isi_str_l, isi_str_f, isi_dict_non, isi_dict_bl, isi_dict_int, isi_dict_str, isi_dict_tup, isi_dict_l, isi_dict_f, Ab.isNon, args, List.map, List.length_cons, List.length_nil, List.length_singleton, List.replicate, Nat.reduceSub, Nat.reduceAdd, Nat.zero_add, List.cons_append, List.nil_append, List.getElem?_cons_zero, List.getElem?_cons_succ, List.set_cons_zero, List.set_cons_succ, Option.some.injEq, decide_eq_true_eq, Bool.not_eq_true', decide_eq_false_iff_not, ite_true, ite_false, if_true, if_false, reduceIte, Bool.false_eq_true, Bool.not_true, Bool.not_false, Bool.true_eq_false, decide_true, decide_false, Nat.reduceLeDiff, Nat.reduceLT, pair0 hr]
    refine Sat.imp (chk m0 m30 cl) fun d A5 ⟨e, G⟩ => ?_
    subst e
    have hr := G.keep _ _ hr
    have h0 := G.keep _ _ h0
    simp only [sat_ok, sat_bad, sat_bind, sat_ite, bind_ok, bind_bad, thn_nx, thn_rt, thn_bk, thn_ct, fin_rt, fin_nx, ev_v, ev_c, ev_op, ev_un, ev_nil, ev_cons, ev_tup, ev_lst, ev_call, ev_own, ev_sl, ev_no, ev_part, ev_and, ev_or, ev_not, ev_if, ev_t, ev_tb, ev_tnot, ev_tand, ev_tor, ev_mt, ev_mt0, ev_rgd, ev_set, ev_asg, ev_ret, ev_retN, ev_ex, ev_pass, ev_brk, ev_cont, ev_ifS, ev_aug, ev_gn, ev_gtp, ev_gnl, ev_gcs, ev_gsb, ev_for, ev_rg1, ev_rg2, ev_its, ev_enum, ev_lc, ev_yes, ev_add_ii, ev_add_ss, ev_add_tt, ev_add_rr, ev_sub, ev_mul, ev_mod, ev_fdiv, ev_pow, ev_neg, ev_lt, ev_le, ev_gt, ev_ge, ev_eq_ii, ev_eq_ss, ev_eq_bb, ev_ne_ii, ev_ne_ss, ev_ne_bb, ev_is_n, ev_isnt_n, ev_int_i, ev_int_b, ev_min_ii, ev_max_ii, ev_abs, ev_tup_of, ev_tup_ofL, ev_lst_ofT, ev_lst_ofL, ev_len_t, ev_len_s, ev_len_r, ev_tru_b, ev_alloc, ev_tupD, ev_lstD, isi_tuple_non, isi_tuple_bl, isi_tuple_int, isi_tuple_str, isi_tuple_tup, isi_tuple_l, isi_tuple_f, isi_list_non, isi_list_bl, isi_list_int, isi_list_str, isi_list_tup, isi_list_l, isi_list_f, isi_bool_non, isi_bool_bl, isi_bool_int, isi_bool_str, isi_bool_tup, isi_bool_l, isi_bool_f, isi_int_non, isi_int_bl, isi_int_int, isi_int_str, isi_int_tup, isi_int_l, isi_int_f, isi_str_non, isi_str_bl, isi_str_int, isi_str_str, isi_str_tup, isi_str_l, isi_str_f, isi_dict_non, isi_dict_bl, isi_dict_int, isi_dict_str, isi_dict_tup, isi_dict_l, isi_dict_f, Ab.isNon, args, List.map, List.length_cons, List.length_nil, List.length_singleton, List.replicate, Nat.reduceSub, Nat.reduceAdd, Nat.zero_add, List.cons_append, List.nil_append, List.getElem?_cons_zero, List.getElem?_cons_succ, List.set_cons_zero, List.set_cons_succ, Option.some.injEq, decide_eq_true_eq, Bool.not_eq_true', decide_eq_false_iff_not, ite_true, ite_false, if_true, if_false, reduceIte, Bool.false_eq_true, Bool.not_true, Bool.not_false, Bool.true_eq_false, decide_true, decide_false, Nat.reduceLeDiff, Nat.reduceLT, pair1 hr, same_out m30]
    refine sat_seq ?_
    have step2 : Sat (fIfS (fTAnd (fTB (fOp isntD (fOp ixD (fV 2) (fC (.int 1))) (fC .non))) (fTAnd (fTB (fOp ltD (fCall lenD (fCons (fOp ixD (fV 2) (fC (.int 1))) (fNil))) (fC (.int 9)))) (fTNot (fT (fOwn 2 (m__law_same 20) (fCons (fOwn 1 m_close (fCons (fOp ixD (fV 2) (fC (.int 1))) (fNil))) (fCons (fOp ixD (fV 2) (fC (.int 1))) (fNil))))))))
 (fRet (fC (.bl false)))
 (fPass) [some (.ref 0), some (.ref s), some (.ref r), some (.int c)] A5) fun fl A6 => fl = .nx [some (.ref 0), some (.ref s), some (.ref r), some (.int c)] ∧ Gr A5 A6 := by
      cases o with
      | none =>
        simp only [sat_ok, sat_bad, sat_bind, sat_ite, bind_ok, bind_bad, thn_nx, thn_rt, thn_bk, thn_ct, fin_rt, fin_nx, ev_v, ev_c, ev_op, ev_un, ev_nil, ev_cons, ev_tup, ev_lst, ev_call, ev_own, ev_sl, ev_no, ev_part, ev_and, ev_or, ev_not, ev_if, ev_t, ev_tb, ev_tnot, ev_tand, ev_tor, ev_mt, ev_mt0, ev_rgd, ev_set, ev_asg, ev_ret, ev_retN, ev_ex, ev_pass, ev_brk, ev_cont, ev_ifS, ev_aug, ev_gn, ev_gtp, ev_gnl, ev_gcs, ev_gsb, ev_for, ev_rg1, ev_rg2, ev_its, ev_enum, ev_lc, ev_yes, ev_add_ii, ev_add_ss, ev_add_tt, ev_add_rr, ev_sub, ev_mul, ev_mod, ev_fdiv, ev_pow, ev_neg, ev_lt, ev_le, ev_gt, ev_ge, ev_eq_ii, ev_eq_ss, ev_eq_bb, ev_ne_ii, ev_ne_ss, ev_ne_bb, ev_is_n, ev_isnt_n, ev_int_i, ev_int_b, ev_min_ii, ev_max_ii, ev_abs, ev_tup_of, ev_tup_ofL, ev_lst_ofT, ev_lst_ofL, ev_len_t, ev_len_s, ev_len_r, ev_tru_b, ev_alloc, ev_tupD, ev_lstD, isi_tuple_non, isi_tuple_bl, isi_tuple_int, isi_tuple_str, isi_tuple_tup, isi_tuple_l, isi_tuple_f, isi_list_non, isi_list_bl, isi_list_int, isi_list_str, isi_list_tup, isi_list_l, isi_list_f, isi_bool_non, isi_bool_bl, isi_bool_int, isi_bool_str, isi_bool_tup, isi_bool_l, isi_bool_f, isi_int_non, isi_int_bl, isi_int_int, isi_int_str, isi_int_tup, isi_int_l, isi_int_f, isi_str_non, isi_str_bl, isi_str_int, isi_str_str, isi_str_tup, isi_str_l, isi_str_f, isi_dict_non, isi_dict_bl, isi_dict_int, isi_dict_str, isi_dict_tup, isi_dict_l, isi_dict_f, Ab.isNon, args, List.map, List.length_cons, List.length_nil, List.length_singleton, List.replicate, Nat.reduceSub, Nat.reduceAdd, Nat.zero_add, List.cons_append, List.nil_append, List.getElem?_cons_zero, List.getElem?_cons_succ, List.set_cons_zero, List.set_cons_succ, Option.some.injEq, decide_eq_true_eq, Bool.not_eq_true', decide_eq_false_iff_not, ite_true, ite_false, if_true, if_false, reduceIte, Bool.false_eq_true, Bool.not_true, Bool.not_false, Bool.true_eq_false, decide_true, decide_false, Nat.reduceLeDiff, Nat.reduceLT, pair1 hr, outD]
        exact ⟨trivial, .refl⟩
      | some R =>
        have p1 : ∀ {A}, A[r]? = some (.lst [matD m M, outD m (some R)]) → ixD (.ref r) (.int 1) A = .ok (matD m R) A := fun h => pair1 h
        have isn : ∀ A, isntD (matD m R) .non A = .ok (.bl true) A := fun A => rfl
        have ln : ∀ A, lenD [matD m R] A = .ok (.int (m : Nat)) A := fun A => by
          show lenD [.tup _] A = _
          rw [ev_len_t]; simp
        obtain ⟨ds, hd, dl⟩ : ∃ ds, matD m R = .tup ds ∧ ds.length = m := ⟨_, rfl, by simp⟩
        have ck := chk (A := A5) m0 m30 (closes_self cl)
        have so : ∀ A, m__law_same 20 [matD m R, matD m R] A = .ok (.bl true) A := fun A => same_out (o := some R) m30
        rw [show outD m (some R) = matD m R from rfl] at ck
        simp only [hd] at p1 ck so
        simp only [sat_ok, sat_bad, sat_bind, sat_ite, bind_ok, bind_bad, thn_nx, thn_rt, thn_bk, thn_ct, fin_rt, fin_nx, ev_v, ev_c, ev_op, ev_un, ev_nil, ev_cons, ev_tup, ev_lst, ev_call, ev_own, ev_sl, ev_no, ev_part, ev_and, ev_or, ev_not, ev_if, ev_t, ev_tb, ev_tnot, ev_tand, ev_tor, ev_mt, ev_mt0, ev_rgd, ev_set, ev_asg, ev_ret, ev_retN, ev_ex, ev_pass, ev_brk, ev_cont, ev_ifS, ev_aug, ev_gn, ev_gtp, ev_gnl, ev_gcs, ev_gsb, ev_for, ev_rg1, ev_rg2, ev_its, ev_enum, ev_lc, ev_yes, ev_add_ii, ev_add_ss, ev_add_tt, ev_add_rr, ev_sub, ev_mul, ev_mod, ev_fdiv, ev_pow, ev_neg, ev_lt, ev_le, ev_gt, ev_ge, ev_eq_ii, ev_eq_ss, ev_eq_bb, ev_ne_ii, ev_ne_ss, ev_ne_bb, ev_is_n, ev_isnt_n, ev_int_i, ev_int_b, ev_min_ii, ev_max_ii, ev_abs, ev_tup_of, ev_tup_ofL, ev_lst_ofT, ev_lst_ofL, ev_len_t, ev_len_s, ev_len_r, ev_tru_b, ev_alloc, ev_tupD, ev_lstD, isi_tuple_non, isi_tuple_bl, isi_tuple_int, isi_tuple_str, isi_tuple_tup, isi_tuple_l, isi_tuple_f, isi_list_non, isi_list_bl, isi_list_int, isi_list_str, isi_list_tup, isi_list_l, isi_list_f, isi_bool_non, isi_bool_bl, isi_bool_int, isi_bool_str, isi_bool_tup, isi_bool_l, isi_bool_f, isi_int_non, isi_int_bl, isi_int_int, isi_int_str, isi_int_tup, isi_int_l, isi_int_f, isi_str_non, isi_str_bl, isi_str_int, isi_str_str, isi_str_tup, isi_str_l, isi_str_f, isi_dict_non, isi_dict_bl, isi_dict_int, isi_dict_str, isi_dict_tup, isi_dict_l, isi_dict_f, Ab.isNon, args, List.map, List.length_cons, List.length_nil, List.length_singleton, List.replicate, Nat.reduceSub, Nat.reduceAdd, Nat.zero_add, List.cons_append, List.nil_append, List.getElem?_cons_zero, List.getElem?_cons_succ, List.set_cons_zero, List.set_cons_succ, Option.some.injEq, decide_eq_true_eq, Bool.not_eq_true', decide_eq_false_iff_not, ite_true, ite_false, if_true, if_false, reduceIte, Bool.false_eq_true, Bool.not_true, Bool.not_false, Bool.true_eq_false, decide_true, decide_false, Nat.reduceLeDiff, Nat.reduceLT, p1 hr, dl]
        split
        · refine Sat.imp ck fun d A6 ⟨e, G⟩ => ?_
          subst e
          simp only [sat_ok, sat_bad, sat_bind, sat_ite, bind_ok, bind_bad, thn_nx, thn_rt, thn_bk, thn_ct, fin_rt, fin_nx, ev_v, ev_c, ev_op, ev_un, ev_nil, ev_cons, ev_tup, ev_lst, ev_call, ev_own, ev_sl, ev_no, ev_part, ev_and, ev_or, ev_not, ev_if, ev_t, ev_tb, ev_tnot, ev_tand, ev_tor, ev_mt, ev_mt0, ev_rgd, ev_set, ev_asg, ev_ret, ev_retN, ev_ex, ev_pass, ev_brk, ev_cont, ev_ifS, ev_aug, ev_gn, ev_gtp, ev_gnl, ev_gcs, ev_gsb, ev_for, ev_rg1, ev_rg2, ev_its, ev_enum, ev_lc, ev_yes, ev_add_ii, ev_add_ss, ev_add_tt, ev_add_rr, ev_sub, ev_mul, ev_mod, ev_fdiv, ev_pow, ev_neg, ev_lt, ev_le, ev_gt, ev_ge, ev_eq_ii, ev_eq_ss, ev_eq_bb, ev_ne_ii, ev_ne_ss, ev_ne_bb, ev_is_n, ev_isnt_n, ev_int_i, ev_int_b, ev_min_ii, ev_max_ii, ev_abs, ev_tup_of, ev_tup_ofL, ev_lst_ofT, ev_lst_ofL, ev_len_t, ev_len_s, ev_len_r, ev_tru_b, ev_alloc, ev_tupD, ev_lstD, isi_tuple_non, isi_tuple_bl, isi_tuple_int, isi_tuple_str, isi_tuple_tup, isi_tuple_l, isi_tuple_f, isi_list_non, isi_list_bl, isi_list_int, isi_list_str, isi_list_tup, isi_list_l, isi_list_f, isi_bool_non, isi_bool_bl, isi_bool_int, isi_bool_str, isi_bool_tup, isi_bool_l, isi_bool_f, isi_int_non, isi_int_bl, isi_int_int, isi_int_str, isi_int_tup, isi_int_l, isi_int_f, isi_str_non, isi_str_bl, isi_str_int, isi_str_str, isi_str_tup, isi_str_l, isi_str_f, isi_dict_non, isi_dict_bl, isi_dict_int, isi_dict_str, isi_dict_tup, isi_dict_l, isi_dict_f, Ab.isNon, args, List.map, List.length_cons, List.length_nil, List.length_singleton, List.replicate, Nat.reduceSub, Nat.reduceAdd, Nat.zero_add, List.cons_append, List.nil_append, List.getElem?_cons_zero, List.getElem?_cons_succ, List.set_cons_zero, List.set_cons_succ, Option.some.injEq, decide_eq_true_eq, Bool.not_eq_true', decide_eq_false_iff_not, ite_true, ite_false, if_true, if_false, reduceIte, Bool.false_eq_true, Bool.not_true, Bool.not_false, Bool.true_eq_false, decide_true, decide_false, Nat.reduceLeDiff, Nat.reduceLT, p1 (G.keep _ _ hr), so]
          exact ⟨trivial, G⟩
        · exact ⟨trivial, .refl⟩
    refine Sat.imp step2 fun fl A6 ⟨e, G⟩ => ?_
    subst e
    have h0 := G.keep _ _ h0
    refine sat_seq ?_
    obtain ⟨v, hv⟩ := cell0 (k := 1) h0 hl (by decide)
    simp only [sat_ok, sat_bad, sat_bind, sat_ite, bind_ok, bind_bad, thn_nx, thn_rt, thn_bk, thn_ct, fin_rt, fin_nx, ev_v, ev_c, ev_op, ev_un, ev_nil, ev_cons, ev_tup, ev_lst, ev_call, ev_own, ev_sl, ev_no, ev_part, ev_and, ev_or, ev_not, ev_if, ev_t, ev_tb, ev_tnot, ev_tand, ev_tor, ev_mt, ev_mt0, ev_rgd, ev_set, ev_asg, ev_ret, ev_retN, ev_ex, ev_pass, ev_brk, ev_cont, ev_ifS, ev_aug, ev_gn, ev_gtp, ev_gnl, ev_gcs, ev_gsb, ev_for, ev_rg1, ev_rg2, ev_its, ev_enum, ev_lc, ev_yes, ev_add_ii, ev_add_ss, ev_add_tt, ev_add_rr, ev_sub, ev_mul, ev_mod, ev_fdiv, ev_pow, ev_neg, ev_lt, ev_le, ev_gt, ev_ge, ev_eq_ii, ev_eq_ss, ev_eq_bb, ev_ne_ii, ev_ne_ss, ev_ne_bb, ev_is_n, ev_isnt_n, ev_int_i, ev_int_b, ev_min_ii, ev_max_ii, ev_abs, ev_tup_of, ev_tup_ofL, ev_lst_ofT, ev_lst_ofL, ev_len_t, ev_len_s, ev_len_r, ev_tru_b, ev_alloc, ev_tupD, ev_lstD, isi_tuple_non, isi_tuple_bl, isi_tuple_int, isi_tuple_str, isi_tuple_tup, isi_tuple_l, isi_tuple_f, isi_list_non, isi_list_bl, isi_list_int, isi_list_str, isi_list_tup, isi_list_l, isi_list_f, isi_bool_non, isi_bool_bl, isi_bool_int, isi_bool_str, isi_bool_tup, isi_bool_l, isi_bool_f, isi_int_non, isi_int_bl, isi_int_int, isi_int_str, isi_int_tup, isi_int_l, isi_int_f, isi_str_non, isi_str_bl, isi_str_int, isi_str_str, isi_str_tup, isi_str_l, isi_str_f, isi_dict_non, isi_dict_bl, isi_dict_int, isi_dict_str, isi_dict_tup, isi_dict_l, isi_dict_f, Ab.isNon, args, List.map, List.length_cons, List.length_nil, List.length_singleton, List.replicate, Nat.reduceSub, Nat.reduceAdd, Nat.zero_add, List.cons_append, List.nil_append, List.getElem?_cons_zero, List.getElem?_cons_succ, List.set_cons_zero, List.set_cons_succ, Option.some.injEq, decide_eq_true_eq, Bool.not_eq_true', decide_eq_false_iff_not, ite_true, ite_false, if_true, if_false, reduceIte, Bool.false_eq_true, Bool.not_true, Bool.not_false, Bool.true_eq_false, decide_true, decide_false, Nat.reduceLeDiff, Nat.reduceLT, hv, source_spec]
    have n0 : 0 ≠ A6.length := by have := at_lt h0; omega
    have h0 := (Gr.app (B := [.lst [.int v, .int v, .int 0]])).keep _ _ h0
    refine Sat.imp (small_spec (src_new (A := A6) (v := v))) fun d A7 ⟨dr, r, e, m, M, o, m0, m30, hr, cl⟩ => ?_
    subst e
    have h0 := dr.keep 0 _ n0 h0
    refine sat_seq ?_
    simp only [sat_ok, sat_bad, sat_bind, sat_ite, bind_ok, bind_bad, thn_nx, thn_rt, thn_bk, thn_ct, fin_rt, fin_nx, ev_v, ev_c, ev_op, ev_un, ev_nil, ev_cons, ev_tup, ev_lst, ev_call, ev_own, ev_sl, ev_no, ev_part, ev_and, ev_or, ev_not, ev_if, ev_t, ev_tb, ev_tnot, ev_tand, ev_tor, ev_mt, ev_mt0, ev_rgd, ev_set, ev_asg, ev_ret, ev_retN, ev_ex, ev_pass, ev_brk, ev_cont, ev_ifS, ev_aug, ev_gn, ev_gtp, ev_gnl, ev_gcs, ev_gsb, ev_for, ev_rg1, ev_rg2, ev_its, ev_enum, ev_lc, ev_yes, ev_add_ii, ev_add_ss, ev_add_tt, ev_add_rr, ev_sub, ev_mul, ev_mod, ev_fdiv, ev_pow, ev_neg, ev_lt, ev_le, ev_gt, ev_ge, ev_eq_ii, ev_eq_ss, ev_eq_bb, ev_ne_ii, ev_ne_ss, ev_ne_bb, ev_is_n, ev_isnt_n, ev_int_i, ev_int_b, ev_min_ii, ev_max_ii, ev_abs, ev_tup_of, ev_tup_ofL, ev_lst_ofT, ev_lst_ofL, ev_len_t, ev_len_s, ev_len_r, ev_tru_b, ev_alloc, ev_tupD, ev_lstD, isi_tuple_non, isi_tuple_bl, isi_tuple_int, isi_tuple_str, isi_tuple_tup, isi_tuple_l, isi_tuple_f, isi_list_non, isi_list_bl, isi_list_int, isi_list_str, isi_list_tup, isi_list_l, isi_list_f, isi_bool_non, isi_bool_bl, isi_bool_int, isi_bool_str, isi_bool_tup, isi_bool_l, isi_bool_f, isi_int_non, isi_int_bl, isi_int_int, isi_int_str, isi_int_tup, isi_int_l, isi_int_f, isi_str_non, isi_str_bl, isi_str_int, isi_str_str, isi_str_tup, isi_str_l, isi_str_f, isi_dict_non, isi_dict_bl, isi_dict_int, isi_dict_str, isi_dict_tup, isi_dict_l, isi_dict_f, Ab.isNon, args, List.map, List.length_cons, List.length_nil, List.length_singleton, List.replicate, Nat.reduceSub, Nat.reduceAdd, Nat.zero_add, List.cons_append, List.nil_append, List.getElem?_cons_zero, List.getElem?_cons_succ, List.set_cons_zero, List.set_cons_succ, Option.some.injEq, decide_eq_true_eq, Bool.not_eq_true', decide_eq_false_iff_not, ite_true, ite_false, if_true, if_false, reduceIte, Bool.false_eq_true, Bool.not_true, Bool.not_false, Bool.true_eq_false, decide_true, decide_false, Nat.reduceLeDiff, Nat.reduceLT, pair0 hr]
    refine Sat.imp (chk m0 m30 cl) fun d A8 ⟨e, G⟩ => ?_
    subst e
    have hr := G.keep _ _ hr
    have h0 := G.keep _ _ h0
    simp only [sat_ok, sat_bad, sat_bind, sat_ite, bind_ok, bind_bad, thn_nx, thn_rt, thn_bk, thn_ct, fin_rt, fin_nx, ev_v, ev_c, ev_op, ev_un, ev_nil, ev_cons, ev_tup, ev_lst, ev_call, ev_own, ev_sl, ev_no, ev_part, ev_and, ev_or, ev_not, ev_if, ev_t, ev_tb, ev_tnot, ev_tand, ev_tor, ev_mt, ev_mt0, ev_rgd, ev_set, ev_asg, ev_ret, ev_retN, ev_ex, ev_pass, ev_brk, ev_cont, ev_ifS, ev_aug, ev_gn, ev_gtp, ev_gnl, ev_gcs, ev_gsb, ev_for, ev_rg1, ev_rg2, ev_its, ev_enum, ev_lc, ev_yes, ev_add_ii, ev_add_ss, ev_add_tt, ev_add_rr, ev_sub, ev_mul, ev_mod, ev_fdiv, ev_pow, ev_neg, ev_lt, ev_le, ev_gt, ev_ge, ev_eq_ii, ev_eq_ss, ev_eq_bb, ev_ne_ii, ev_ne_ss, ev_ne_bb, ev_is_n, ev_isnt_n, ev_int_i, ev_int_b, ev_min_ii, ev_max_ii, ev_abs, ev_tup_of, ev_tup_ofL, ev_lst_ofT, ev_lst_ofL, ev_len_t, ev_len_s, ev_len_r, ev_tru_b, ev_alloc, ev_tupD, ev_lstD, isi_tuple_non, isi_tuple_bl, isi_tuple_int, isi_tuple_str, isi_tuple_tup, isi_tuple_l, isi_tuple_f, isi_list_non, isi_list_bl, isi_list_int, isi_list_str, isi_list_tup, isi_list_l, isi_list_f, isi_bool_non, isi_bool_bl, isi_bool_int, isi_bool_str, isi_bool_tup, isi_bool_l, isi_bool_f, isi_int_non, isi_int_bl, isi_int_int, isi_int_str, isi_int_tup, isi_int_l, isi_int_f, isi_str_non, isi_str_bl, isi_str_int, isi_str_str, isi_str_tup, isi_str_l, isi_str_f, isi_dict_non, isi_dict_bl, isi_dict_int, isi_dict_str, isi_dict_tup, isi_dict_l, isi_dict_f, Ab.isNon, args, List.map, List.length_cons, List.length_nil, List.length_singleton, List.replicate, Nat.reduceSub, Nat.reduceAdd, Nat.zero_add, List.cons_append, List.nil_append, List.getElem?_cons_zero, List.getElem?_cons_succ, List.set_cons_zero, List.set_cons_succ, Option.some.injEq, decide_eq_true_eq, Bool.not_eq_true', decide_eq_false_iff_not, ite_true, ite_false, if_true, if_false, reduceIte, Bool.false_eq_true, Bool.not_true, Bool.not_false, Bool.true_eq_false, decide_true, decide_false, Nat.reduceLeDiff, Nat.reduceLT, pair1 hr, same_out m30]
    refine sat_seq ?_
    obtain ⟨v, hv⟩ := cell0 (k := 2) h0 hl (by decide)
    simp only [sat_ok, sat_bad, sat_bind, sat_ite, bind_ok, bind_bad, thn_nx, thn_rt, thn_bk, thn_ct, fin_rt, fin_nx, ev_v, ev_c, ev_op, ev_un, ev_nil, ev_cons, ev_tup, ev_lst, ev_call, ev_own, ev_sl, ev_no, ev_part, ev_and, ev_or, ev_not, ev_if, ev_t, ev_tb, ev_tnot, ev_tand, ev_tor, ev_mt, ev_mt0, ev_rgd, ev_set, ev_asg, ev_ret, ev_retN, ev_ex, ev_pass, ev_brk, ev_cont, ev_ifS, ev_aug, ev_gn, ev_gtp, ev_gnl, ev_gcs, ev_gsb, ev_for, ev_rg1, ev_rg2, ev_its, ev_enum, ev_lc, ev_yes, ev_add_ii, ev_add_ss, ev_add_tt, ev_add_rr, ev_sub, ev_mul, ev_mod, ev_fdiv, ev_pow, ev_neg, ev_lt, ev_le, ev_gt, ev_ge, ev_eq_ii, ev_eq_ss, ev_eq_bb, ev_ne_ii, ev_ne_ss, ev_ne_bb, ev_is_n, ev_isnt_n, ev_int_i, ev_int_b, ev_min_ii, ev_max_ii, ev_abs, ev_tup_of, ev_tup_ofL, ev_lst_ofT, ev_lst_ofL, ev_len_t, ev_len_s, ev_len_r, ev_tru_b, ev_alloc, ev_tupD, ev_lstD, isi_tuple_non, isi_tuple_bl, isi_tuple_int, isi_tuple_str, isi_tuple_tup, isi_tuple_l, isi_tuple_f, isi_list_non, isi_list_bl, isi_list_int, isi_list_str, isi_list_tup, isi_list_l, isi_list_f, isi_bool_non, isi_bool_bl, isi_bool_int, isi_bool_str, isi_bool_tup, isi_bool_l, isi_bool_f, isi_int_non, isi_int_bl, isi_int_int, isi_int_str, isi_int_tup, isi_int_l, isi_int_f, isi_str_non, isi_str_bl, isi_str_int, isi_str_str, isi_str_tup, isi_str_l, isi_str_f, isi_dict_non, isi_dict_bl, isi_dict_int, isi_dict_str, isi_dict_tup, isi_dict_l, isi_dict_f, Ab.isNon, args, List.map, List.length_cons, List.length_nil, List.length_singleton, List.replicate, Nat.reduceSub, Nat.reduceAdd, Nat.zero_add, List.cons_append, List.nil_append, List.getElem?_cons_zero, List.getElem?_cons_succ, List.set_cons_zero, List.set_cons_succ, Option.some.injEq, decide_eq_true_eq, Bool.not_eq_true', decide_eq_false_iff_not, ite_true, ite_false, if_true, if_false, reduceIte, Bool.false_eq_true, Bool.not_true, Bool.not_false, Bool.true_eq_false, decide_true, decide_false, Nat.reduceLeDiff, Nat.reduceLT, hv, source_spec]
    refine Sat.imp (wide_spec (src_new (A := A8) (v := v))) fun d A9 ⟨dr, r, e, m, M, o, m0, m30, hr, cl⟩ => ?_
    subst e
    simp only [sat_ok, sat_bad, sat_bind, sat_ite, bind_ok, bind_bad, thn_nx, thn_rt, thn_bk, thn_ct, fin_rt, fin_nx, ev_v, ev_c, ev_op, ev_un, ev_nil, ev_cons, ev_tup, ev_lst, ev_call, ev_own, ev_sl, ev_no, ev_part, ev_and, ev_or, ev_not, ev_if, ev_t, ev_tb, ev_tnot, ev_tand, ev_tor, ev_mt, ev_mt0, ev_rgd, ev_set, ev_asg, ev_ret, ev_retN, ev_ex, ev_pass, ev_brk, ev_cont, ev_ifS, ev_aug, ev_gn, ev_gtp, ev_gnl, ev_gcs, ev_gsb, ev_for, ev_rg1, ev_rg2, ev_its, ev_enum, ev_lc, ev_yes, ev_add_ii, ev_add_ss, ev_add_tt, ev_add_rr, ev_sub, ev_mul, ev_mod, ev_fdiv, ev_pow, ev_neg, ev_lt, ev_le, ev_gt, ev_ge, ev_eq_ii, ev_eq_ss, ev_eq_bb, ev_ne_ii, ev_ne_ss, ev_ne_bb, ev_is_n, ev_isnt_n, ev_int_i, ev_int_b, ev_min_ii, ev_max_ii, ev_abs, ev_tup_of, ev_tup_ofL, ev_lst_ofT, ev_lst_ofL, ev_len_t, ev_len_s, ev_len_r, ev_tru_b, ev_alloc, ev_tupD, ev_lstD, isi_tuple_non, isi_tuple_bl, isi_tuple_int, isi_tuple_str, isi_tuple_tup, isi_tuple_l, isi_tuple_f, isi_list_non, isi_list_bl, isi_list_int, isi_list_str, isi_list_tup, isi_list_l, isi_list_f, isi_bool_non, isi_bool_bl, isi_bool_int, isi_bool_str, isi_bool_tup, isi_bool_l, isi_bool_f, isi_int_non, isi_int_bl, isi_int_int, isi_int_str, isi_int_tup, isi_int_l, isi_int_f, isi_str_non, isi_str_bl, isi_str_int, isi_str_str, isi_str_tup, isi_str_l, isi_str_f, isi_dict_non, isi_dict_bl, isi_dict_int, isi_dict_str, isi_dict_tup, isi_dict_l, isi_dict_f, Ab.isNon, args, List.map, List.length_cons, List.length_nil, List.length_singleton, List.replicate, Nat.reduceSub, Nat.reduceAdd, Nat.zero_add, List.cons_append, List.nil_append, List.getElem?_cons_zero, List.getElem?_cons_succ, List.set_cons_zero, List.set_cons_succ, Option.some.injEq, decide_eq_true_eq, Bool.not_eq_true', decide_eq_false_iff_not, ite_true, ite_false, if_true, if_false, reduceIte, Bool.false_eq_true, Bool.not_true, Bool.not_false, Bool.true_eq_false, decide_true, decide_false, Nat.reduceLeDiff, Nat.reduceLT, pair0 hr]
    refine Sat.imp (chk m0 m30 cl) fun d A10 ⟨e, G⟩ => ?_
    subst e
    have hr := G.keep _ _ hr
    simp only [sat_ok, sat_bad, sat_bind, sat_ite, bind_ok, bind_bad, thn_nx, thn_rt, thn_bk, thn_ct, fin_rt, fin_nx, ev_v, ev_c, ev_op, ev_un, ev_nil, ev_cons, ev_tup, ev_lst, ev_call, ev_own, ev_sl, ev_no, ev_part, ev_and, ev_or, ev_not, ev_if, ev_t, ev_tb, ev_tnot, ev_tand, ev_tor, ev_mt, ev_mt0, ev_rgd, ev_set, ev_asg, ev_ret, ev_retN, ev_ex, ev_pass, ev_brk, ev_cont, ev_ifS, ev_aug, ev_gn, ev_gtp, ev_gnl, ev_gcs, ev_gsb, ev_for, ev_rg1, ev_rg2, ev_its, ev_enum, ev_lc, ev_yes, ev_add_ii, ev_add_ss, ev_add_tt, ev_add_rr, ev_sub, ev_mul, ev_mod, ev_fdiv, ev_pow, ev_neg, ev_lt, ev_le, ev_gt, ev_ge, ev_eq_ii, ev_eq_ss, ev_eq_bb, ev_ne_ii, ev_ne_ss, ev_ne_bb, ev_is_n, ev_isnt_n, ev_int_i, ev_int_b, ev_min_ii, ev_max_ii, ev_abs, ev_tup_of, ev_tup_ofL, ev_lst_ofT, ev_lst_ofL, ev_len_t, ev_len_s, ev_len_r, ev_tru_b, ev_alloc, ev_tupD, ev_lstD, isi_tuple_non, isi_tuple_bl, isi_tuple_int, isi_tuple_str, isi_tuple_tup, isi_tuple_l, isi_tuple_f, isi_list_non, isi_list_bl, isi_list_int, isi_list_str, isi_list_tup, isi_list_l, isi_list_f, isi_bool_non, isi_bool_bl, isi_bool_int, isi_bool_str, isi_bool_tup, isi_bool_l, isi_bool_f, isi_int_non, isi_int_bl, isi_int_int, isi_int_str, isi_int_tup, isi_int_l, isi_int_f, isi_str_non, isi_str_bl, isi_str_int, isi_str_str, isi_str_tup, isi_str_l, isi_str_f, isi_dict_non, isi_dict_bl, isi_dict_int, isi_dict_str, isi_dict_tup, isi_dict_l, isi_dict_f, Ab.isNon, args, List.map, List.length_cons, List.length_nil, List.length_singleton, List.replicate, Nat.reduceSub, Nat.reduceAdd, Nat.zero_add, List.cons_append, List.nil_append, List.getElem?_cons_zero, List.getElem?_cons_succ, List.set_cons_zero, List.set_cons_succ, Option.some.injEq, decide_eq_true_eq, Bool.not_eq_true', decide_eq_false_iff_not, ite_true, ite_false, if_true, if_false, reduceIte, Bool.false_eq_true, Bool.not_true, Bool.not_false, Bool.true_eq_false, decide_true, decide_false, Nat.reduceLeDiff, Nat.reduceLT, pair1 hr, same_out m30]
  obtain ⟨d, A', e, rfl⟩ := key.eq
  exact ⟨A', e⟩
end Law

namespace Law
open PySem PySem.Spec PyProof.Rows L2 Ab
theorem all_mk {l : PySem.W.OpenLaw} {w : World} {K : PySem.W.Frag} {h : Heap} {mg : Str → Option Value} {fa : Addr} (X : K.In h) (G : h.Ns mainGlobals mg) (hfa : mg "law" = some (.ref fa))
    {f0 : Addr} {od0 an0 : Option Addr} {sl0 : Array (Option Value)} {oc0 kV0 dc0 pm0 cd0 ct0 : Value}
    {f1 : Addr} {od1 an1 : Option Addr} {sl1 : Array (Option Value)} {oc1 kV1 dc1 pm1 cd1 ct1 : Value}
    {f2 : Addr} {od2 an2 : Option Addr} {sl2 : Array (Option Value)} {oc2 kV2 dc2 pm2 cd2 ct2 : Value}
    {f3 : Addr} {od3 an3 : Option Addr} {sl3 : Array (Option Value)} {oc3 kV3 dc3 pm3 cd3 ct3 : Value}
    {f4 : Addr} {od4 an4 : Option Addr} {sl4 : Array (Option Value)} {oc4 kV4 dc4 pm4 cd4 ct4 : Value}
    {f5 : Addr} {od5 an5 : Option Addr} {sl5 : Array (Option Value)} {oc5 kV5 dc5 pm5 cd5 ct5 : Value}
    {f6 : Addr} {od6 an6 : Option Addr} {sl6 : Array (Option Value)} {oc6 kV6 dc6 pm6 cd6 ct6 : Value}
    {f7 : Addr} {od7 an7 : Option Addr} {sl7 : Array (Option Value)} {oc7 kV7 dc7 pm7 cd7 ct7 : Value}
    {f8 : Addr} {od8 an8 : Option Addr} {sl8 : Array (Option Value)} {oc8 kV8 dc8 pm8 cd8 ct8 : Value}
    {f9 : Addr} {od9 an9 : Option Addr} {sl9 : Array (Option Value)} {oc9 kV9 dc9 pm9 cd9 ct9 : Value}
    {f10 : Addr} {od10 an10 : Option Addr} {sl10 : Array (Option Value)} {oc10 kV10 dc10 pm10 cd10 ct10 : Value}
    {f11 : Addr} {od11 an11 : Option Addr} {sl11 : Array (Option Value)} {oc11 kV11 dc11 pm11 cd11 ct11 : Value}
    {f12 : Addr} {od12 an12 : Option Addr} {sl12 : Array (Option Value)} {oc12 kV12 dc12 pm12 cd12 ct12 : Value}
    {f13 : Addr} {od13 an13 : Option Addr} {sl13 : Array (Option Value)} {oc13 kV13 dc13 pm13 cd13 ct13 : Value}
    {f14 : Addr} {od14 an14 : Option Addr} {sl14 : Array (Option Value)} {oc14 kV14 dc14 pm14 cd14 ct14 : Value}
    {f15 : Addr} {od15 an15 : Option Addr} {sl15 : Array (Option Value)} {oc15 kV15 dc15 pm15 cd15 ct15 : Value}
    {f16 : Addr} {od16 an16 : Option Addr} {sl16 : Array (Option Value)} {oc16 kV16 dc16 pm16 cd16 ct16 : Value}
    {f17 : Addr} {od17 an17 : Option Addr} {sl17 : Array (Option Value)} {oc17 kV17 dc17 pm17 cd17 ct17 : Value}
    {f18 : Addr} {od18 an18 : Option Addr} {sl18 : Array (Option Value)} {oc18 kV18 dc18 pm18 cd18 ct18 : Value}
    {f19 : Addr} {od19 an19 : Option Addr} {sl19 : Array (Option Value)} {oc19 kV19 dc19 pm19 cd19 ct19 : Value}
    (a0 : PySem.W.nsIn K mainGlobals "_law_cell" = some (some (.ref f0))) (l0 : K.lookup f0 = some ⟨oc0, od0, .func (PySem.W.fnOf "_law_cell" "_law_cell" (defArgs s__law_cell) (defBody s__law_cell) (defScope s__law_cell) .none kV0 dc0 pm0 an0 cd0 ct0), sl0⟩) (c0 : PySem.W.codeIn K cd0 "_law_cell" = true) (k0 : PySem.W.keepIn K (.ref f0) = true)
    (a1 : PySem.W.nsIn K mainGlobals "_law_pick" = some (some (.ref f1))) (l1 : K.lookup f1 = some ⟨oc1, od1, .func (PySem.W.fnOf "_law_pick" "_law_pick" (defArgs s__law_pick) (defBody s__law_pick) (defScope s__law_pick) .none kV1 dc1 pm1 an1 cd1 ct1), sl1⟩) (c1 : PySem.W.codeIn K cd1 "_law_pick" = true) (k1 : PySem.W.keepIn K (.ref f1) = true)
    (a2 : PySem.W.nsIn K mainGlobals "_law_number" = some (some (.ref f2))) (l2 : K.lookup f2 = some ⟨oc2, od2, .func (PySem.W.fnOf "_law_number" "_law_number" (defArgs s__law_number) (defBody s__law_number) (defScope s__law_number) .none kV2 dc2 pm2 an2 cd2 ct2), sl2⟩) (c2 : PySem.W.codeIn K cd2 "_law_number" = true) (k2 : PySem.W.keepIn K (.ref f2) = true)
    (a3 : PySem.W.nsIn K mainGlobals "_law_way" = some (some (.ref f3))) (l3 : K.lookup f3 = some ⟨oc3, od3, .func (PySem.W.fnOf "_law_way" "_law_way" (defArgs s__law_way) (defBody s__law_way) (defScope s__law_way) .none kV3 dc3 pm3 an3 cd3 ct3), sl3⟩) (c3 : PySem.W.codeIn K cd3 "_law_way" = true) (k3 : PySem.W.keepIn K (.ref f3) = true)
    (a4 : PySem.W.nsIn K mainGlobals "_law_ring" = some (some (.ref f4))) (l4 : K.lookup f4 = some ⟨oc4, od4, .func (PySem.W.fnOf "_law_ring" "_law_ring" (defArgs s__law_ring) (defBody s__law_ring) (defScope s__law_ring) .none kV4 dc4 pm4 an4 cd4 ct4), sl4⟩) (c4 : PySem.W.codeIn K cd4 "_law_ring" = true) (k4 : PySem.W.keepIn K (.ref f4) = true)
    (a5 : PySem.W.nsIn K mainGlobals "_law_same" = some (some (.ref f5))) (l5 : K.lookup f5 = some ⟨oc5, od5, .func (PySem.W.fnOf "_law_same" "_law_same" (defArgs s__law_same) (defBody s__law_same) (defScope s__law_same) .none kV5 dc5 pm5 an5 cd5 ct5), sl5⟩) (c5 : PySem.W.codeIn K cd5 "_law_same" = true) (k5 : PySem.W.keepIn K (.ref f5) = true)
    (a6 : PySem.W.nsIn K mainGlobals "_law_diagonal" = some (some (.ref f6))) (l6 : K.lookup f6 = some ⟨oc6, od6, .func (PySem.W.fnOf "_law_diagonal" "_law_diagonal" (defArgs s__law_diagonal) (defBody s__law_diagonal) (defScope s__law_diagonal) .none kV6 dc6 pm6 an6 cd6 ct6), sl6⟩) (c6 : PySem.W.codeIn K cd6 "_law_diagonal" = true) (k6 : PySem.W.keepIn K (.ref f6) = true)
    (a7 : PySem.W.nsIn K mainGlobals "_law_hull" = some (some (.ref f7))) (l7 : K.lookup f7 = some ⟨oc7, od7, .func (PySem.W.fnOf "_law_hull" "_law_hull" (defArgs s__law_hull) (defBody s__law_hull) (defScope s__law_hull) .none kV7 dc7 pm7 an7 cd7 ct7), sl7⟩) (c7 : PySem.W.codeIn K cd7 "_law_hull" = true) (k7 : PySem.W.keepIn K (.ref f7) = true)
    (a8 : PySem.W.nsIn K mainGlobals "_law_fits" = some (some (.ref f8))) (l8 : K.lookup f8 = some ⟨oc8, od8, .func (PySem.W.fnOf "_law_fits" "_law_fits" (defArgs s__law_fits) (defBody s__law_fits) (defScope s__law_fits) .none kV8 dc8 pm8 an8 cd8 ct8), sl8⟩) (c8 : PySem.W.codeIn K cd8 "_law_fits" = true) (k8 : PySem.W.keepIn K (.ref f8) = true)
    (a9 : PySem.W.nsIn K mainGlobals "_law_points" = some (some (.ref f9))) (l9 : K.lookup f9 = some ⟨oc9, od9, .func (PySem.W.fnOf "_law_points" "_law_points" (defArgs s__law_points) (defBody s__law_points) (defScope s__law_points) .none kV9 dc9 pm9 an9 cd9 ct9), sl9⟩) (c9 : PySem.W.codeIn K cd9 "_law_points" = true) (k9 : PySem.W.keepIn K (.ref f9) = true)
    (a10 : PySem.W.nsIn K mainGlobals "_law_small" = some (some (.ref f10))) (l10 : K.lookup f10 = some ⟨oc10, od10, .func (PySem.W.fnOf "_law_small" "_law_small" (defArgs s__law_small) (defBody s__law_small) (defScope s__law_small) .none kV10 dc10 pm10 an10 cd10 ct10), sl10⟩) (c10 : PySem.W.codeIn K cd10 "_law_small" = true) (k10 : PySem.W.keepIn K (.ref f10) = true)
    (a11 : PySem.W.nsIn K mainGlobals "_law_source" = some (some (.ref f11))) (l11 : K.lookup f11 = some ⟨oc11, od11, .func (PySem.W.fnOf "_law_source" "_law_source" (defArgs s__law_source) (defBody s__law_source) (defScope s__law_source) .none kV11 dc11 pm11 an11 cd11 ct11), sl11⟩) (c11 : PySem.W.codeIn K cd11 "_law_source" = true) (k11 : PySem.W.keepIn K (.ref f11) = true)
    (a12 : PySem.W.nsIn K mainGlobals "_law_bounded" = some (some (.ref f12))) (l12 : K.lookup f12 = some ⟨oc12, od12, .func (PySem.W.fnOf "_law_bounded" "_law_bounded" (defArgs s__law_bounded) (defBody s__law_bounded) (defScope s__law_bounded) .none kV12 dc12 pm12 an12 cd12 ct12), sl12⟩) (c12 : PySem.W.codeIn K cd12 "_law_bounded" = true) (k12 : PySem.W.keepIn K (.ref f12) = true)
    (a13 : PySem.W.nsIn K mainGlobals "_law_closed" = some (some (.ref f13))) (l13 : K.lookup f13 = some ⟨oc13, od13, .func (PySem.W.fnOf "_law_closed" "_law_closed" (defArgs s__law_closed) (defBody s__law_closed) (defScope s__law_closed) .none kV13 dc13 pm13 an13 cd13 ct13), sl13⟩) (c13 : PySem.W.codeIn K cd13 "_law_closed" = true) (k13 : PySem.W.keepIn K (.ref f13) = true)
    (a14 : PySem.W.nsIn K mainGlobals "_law_wide" = some (some (.ref f14))) (l14 : K.lookup f14 = some ⟨oc14, od14, .func (PySem.W.fnOf "_law_wide" "_law_wide" (defArgs s__law_wide) (defBody s__law_wide) (defScope s__law_wide) .none kV14 dc14 pm14 an14 cd14 ct14), sl14⟩) (c14 : PySem.W.codeIn K cd14 "_law_wide" = true) (k14 : PySem.W.keepIn K (.ref f14) = true)
    (a15 : PySem.W.nsIn K mainGlobals "frozen" = some (some (.ref f15))) (l15 : K.lookup f15 = some ⟨oc15, od15, .func (PySem.W.fnOf "frozen" "frozen" (defArgs s_frozen) (defBody s_frozen) (defScope s_frozen) .none kV15 dc15 pm15 an15 cd15 ct15), sl15⟩) (c15 : PySem.W.codeIn K cd15 "frozen" = true) (k15 : PySem.W.keepIn K (.ref f15) = true)
    (a16 : PySem.W.nsIn K mainGlobals "has_negative" = some (some (.ref f16))) (l16 : K.lookup f16 = some ⟨oc16, od16, .func (PySem.W.fnOf "has_negative" "has_negative" (defArgs s_has_negative) (defBody s_has_negative) (defScope s_has_negative) .none kV16 dc16 pm16 an16 cd16 ct16), sl16⟩) (c16 : PySem.W.codeIn K cd16 "has_negative" = true) (k16 : PySem.W.keepIn K (.ref f16) = true)
    (a17 : PySem.W.nsIn K mainGlobals "shorten" = some (some (.ref f17))) (l17 : K.lookup f17 = some ⟨oc17, od17, .func (PySem.W.fnOf "shorten" "shorten" (defArgs s_shorten) (defBody s_shorten) (defScope s_shorten) .none kV17 dc17 pm17 an17 cd17 ct17), sl17⟩) (c17 : PySem.W.codeIn K cd17 "shorten" = true) (k17 : PySem.W.keepIn K (.ref f17) = true)
    (a18 : PySem.W.nsIn K mainGlobals "close" = some (some (.ref f18))) (l18 : K.lookup f18 = some ⟨oc18, od18, .func (PySem.W.fnOf "close" "close" (defArgs s_close) (defBody s_close) (defScope s_close) .none kV18 dc18 pm18 an18 cd18 ct18), sl18⟩) (c18 : PySem.W.codeIn K cd18 "close" = true) (k18 : PySem.W.keepIn K (.ref f18) = true)
    (a19 : PySem.W.nsIn K mainGlobals "law" = some (some (.ref f19))) (l19 : K.lookup f19 = some ⟨oc19, od19, .func (PySem.W.fnOf "law" "law" (defArgs s_law) (defBody s_law) (defScope s_law) .none kV19 dc19 pm19 an19 cd19 ct19), sl19⟩) (c19 : PySem.W.codeIn K cd19 "law" = true) (k19 : PySem.W.keepIn K (.ref f19) = true)
    (z0 : PySem.W.nsIn K mainGlobals "abs" = some none)
    (z1 : PySem.W.nsIn K mainGlobals "bool" = some none)
    (z2 : PySem.W.nsIn K mainGlobals "int" = some none)
    (z3 : PySem.W.nsIn K mainGlobals "isinstance" = some none)
    (z4 : PySem.W.nsIn K mainGlobals "len" = some none)
    (z5 : PySem.W.nsIn K mainGlobals "list" = some none)
    (z6 : PySem.W.nsIn K mainGlobals "max" = some none)
    (z7 : PySem.W.nsIn K mainGlobals "min" = some none)
    (z8 : PySem.W.nsIn K mainGlobals "range" = some none)
    (z9 : PySem.W.nsIn K mainGlobals "str" = some none)
    (z10 : PySem.W.nsIn K mainGlobals "sum" = some none)
    (z11 : PySem.W.nsIn K mainGlobals "tuple" = some none)
    : ∃ fd : FuncData, (∀ (s : Shared) (v : Value), BindsTo s fd ⟨[v], []⟩ [("_law_script", v)]) ∧ ∀ base : Heap, K.In base → base.Ns mainGlobals mg → FnOk l.prog w K mg base CX0 21 fa fd ["_law_script"] (spM K 1 m_law) := by
  have e := hfa.symm.trans (PySem.W.mg_of X G a19)
  cases e
  have F0 := fun_mk (st := s__law_cell) l0 c0 k0
  have b0 := F0.binds (ps := ["_law_script", "_law_at"]) fun _ _ _ _ _ _ us hl => match us, hl with | [_, _], _ => rfl
  have F1 := fun_mk (st := s__law_pick) l1 c1 k1
  have b1 := F1.binds (ps := ["_law_source_here", "_law_size"]) fun _ _ _ _ _ _ us hl => match us, hl with | [_, _], _ => rfl
  have F2 := fun_mk (st := s__law_number) l2 c2 k2
  have b2 := F2.binds (ps := ["_law_source_here"]) fun _ _ _ _ _ _ us hl => match us, hl with | [_], _ => rfl
  have F3 := fun_mk (st := s__law_way) l3 c3 k3
  have b3 := F3.binds (ps := ["_law_sums", "_law_first", "_law_last"]) fun _ _ _ _ _ _ us hl => match us, hl with | [_, _, _], _ => rfl
  have F4 := fun_mk (st := s__law_ring) l4 c4 k4
  have b4 := F4.binds (ps := ["_law_source_here"]) fun _ _ _ _ _ _ us hl => match us, hl with | [_], _ => rfl
  have F5 := fun_mk (st := s__law_same) l5 c5 k5
  have b5 := F5.binds (ps := ["_law_actual", "_law_due"]) fun _ _ _ _ _ _ us hl => match us, hl with | [_, _], _ => rfl
  have F6 := fun_mk (st := s__law_diagonal) l6 c6 k6
  have b6 := F6.binds (ps := ["_law_source_here", "_law_rows"]) fun _ _ _ _ _ _ us hl => match us, hl with | [_, _], _ => rfl
  have F7 := fun_mk (st := s__law_hull) l7 c7 k7
  have b7 := F7.binds (ps := ["_law_points_here", "_law_size"]) fun _ _ _ _ _ _ us hl => match us, hl with | [_, _], _ => rfl
  have F8 := fun_mk (st := s__law_fits) l8 c8 k8
  have b8 := F8.binds (ps := ["_law_matrix", "_law_point", "_law_c", "_law_value"]) fun _ _ _ _ _ _ us hl => match us, hl with | [_, _, _, _], _ => rfl
  have F9 := fun_mk (st := s__law_points) l9 c9 k9
  have b9 := F9.binds (ps := ["_law_matrix"]) fun _ _ _ _ _ _ us hl => match us, hl with | [_], _ => rfl
  have F10 := fun_mk (st := s__law_small) l10 c10 k10
  have b10 := F10.binds (ps := ["_law_source_here"]) fun _ _ _ _ _ _ us hl => match us, hl with | [_], _ => rfl
  have F11 := fun_mk (st := s__law_source) l11 c11 k11
  have b11 := F11.binds (ps := ["_law_cell_here"]) fun _ _ _ _ _ _ us hl => match us, hl with | [_], _ => rfl
  have F12 := fun_mk (st := s__law_bounded) l12 c12 k12
  have b12 := F12.binds (ps := ["_law_matrix", "_law_i", "_law_j", "_law_number_here"]) fun _ _ _ _ _ _ us hl => match us, hl with | [_, _, _, _], _ => rfl
  have F13 := fun_mk (st := s__law_closed) l13 c13 k13
  have b13 := F13.binds (ps := ["_law_matrix"]) fun _ _ _ _ _ _ us hl => match us, hl with | [_], _ => rfl
  have F14 := fun_mk (st := s__law_wide) l14 c14 k14
  have b14 := F14.binds (ps := ["_law_source_here"]) fun _ _ _ _ _ _ us hl => match us, hl with | [_], _ => rfl
  have F15 := fun_mk (st := s_frozen) l15 c15 k15
  have b15 := F15.binds (ps := ["rows"]) fun _ _ _ _ _ _ us hl => match us, hl with | [_], _ => rfl
  have F16 := fun_mk (st := s_has_negative) l16 c16 k16
  have b16 := F16.binds (ps := ["rows"]) fun _ _ _ _ _ _ us hl => match us, hl with | [_], _ => rfl
  have F17 := fun_mk (st := s_shorten) l17 c17 k17
  have b17 := F17.binds (ps := ["rows", "middle"]) fun _ _ _ _ _ _ us hl => match us, hl with | [_, _], _ => rfl
  have F18 := fun_mk (st := s_close) l18 c18 k18
  have b18 := F18.binds (ps := ["matrix"]) fun _ _ _ _ _ _ us hl => match us, hl with | [_], _ => rfl
  have F19 := fun_mk (st := s_law) l19 c19 k19
  have b19 := F19.binds (ps := ["_law_script"]) fun _ _ _ _ _ _ us hl => match us, hl with | [_], _ => rfl
  let T : Txt K mg := ⟨f0, _, F0, b0, PySem.W.mg_of X G a0, f1, _, F1, b1, PySem.W.mg_of X G a1, f2, _, F2, b2, PySem.W.mg_of X G a2, f3, _, F3, b3, PySem.W.mg_of X G a3, f4, _, F4, b4, PySem.W.mg_of X G a4, f5, _, F5, b5, PySem.W.mg_of X G a5, f6, _, F6, b6, PySem.W.mg_of X G a6, f7, _, F7, b7, PySem.W.mg_of X G a7, f8, _, F8, b8, PySem.W.mg_of X G a8, f9, _, F9, b9, PySem.W.mg_of X G a9, f10, _, F10, b10, PySem.W.mg_of X G a10, f11, _, F11, b11, PySem.W.mg_of X G a11, f12, _, F12, b12, PySem.W.mg_of X G a12, f13, _, F13, b13, PySem.W.mg_of X G a13, f14, _, F14, b14, PySem.W.mg_of X G a14, f15, _, F15, b15, PySem.W.mg_of X G a15, f16, _, F16, b16, PySem.W.mg_of X G a16, f17, _, F17, b17, PySem.W.mg_of X G a17, f18, _, F18, b18, PySem.W.mg_of X G a18, fa, _, F19, b19, PySem.W.mg_of X G a19, PySem.W.mg_none_of X G z0, PySem.W.mg_none_of X G z1, PySem.W.mg_none_of X G z2, PySem.W.mg_none_of X G z3, PySem.W.mg_none_of X G z4, PySem.W.mg_none_of X G z5, PySem.W.mg_none_of X G z6, PySem.W.mg_none_of X G z7, PySem.W.mg_none_of X G z8, PySem.W.mg_none_of X G z9, PySem.W.mg_none_of X G z10, PySem.W.mg_none_of X G z11⟩
  exact ⟨_, fun s v => .of_eq rfl, fun base _ _ => ad_law T⟩
end Law
open PySem PySem.W PyProof.Rows
set_option maxRecDepth 100000 in
set_option maxHeartbeats 0 in
theorem PySem.Challenge.cw_neverhappens_k17_close_holds : PySem.Challenge.rw_neverhappens_k17_close.Holds := by
  w_on; o_law; k_head; (case hw => w_witness2)
  k_fill
  refine L2.walk_ofK (l := PySem.Challenge.rw_neverhappens_k17_close) (n := 63) (k := 21) (x := "_law_script") (CX := L2.CX0) (sp := fun K => Ab.spM K 1 Law.m_law) rfl (by decide) rfl ⟨rfl, by decide, by decide⟩ (fun w h Y => PySem.W.kIn_of Y) ?F (Ab.sp_law Law.law_ok) (fun _ _ _ _ h => h)
  case F =>
    intro w mg fa h KX G hmg
    refine' Law.all_mk KX G hmg ?a0 ?l0 ?c0 ?k0 ?a1 ?l1 ?c1 ?k1 ?a2 ?l2 ?c2 ?k2 ?a3 ?l3 ?c3 ?k3 ?a4 ?l4 ?c4 ?k4 ?a5 ?l5 ?c5 ?k5 ?a6 ?l6 ?c6 ?k6 ?a7 ?l7 ?c7 ?k7 ?a8 ?l8 ?c8 ?k8 ?a9 ?l9 ?c9 ?k9 ?a10 ?l10 ?c10 ?k10 ?a11 ?l11 ?c11 ?k11 ?a12 ?l12 ?c12 ?k12 ?a13 ?l13 ?c13 ?k13 ?a14 ?l14 ?c14 ?k14 ?a15 ?l15 ?c15 ?k15 ?a16 ?l16 ?c16 ?k16 ?a17 ?l17 ?c17 ?k17 ?a18 ?l18 ?c18 ?k18 ?a19 ?l19 ?c19 ?k19 ?z0 ?z1 ?z2 ?z3 ?z4 ?z5 ?z6 ?z7 ?z8 ?z9 ?z10 ?z11
    (case a0 => k_is); (case l0 => k_is); (case c0 => k_is); (case k0 => k_is)
    (case a1 => k_is); (case l1 => k_is); (case c1 => k_is); (case k1 => k_is)
    (case a2 => k_is); (case l2 => k_is); (case c2 => k_is); (case k2 => k_is)
    (case a3 => k_is); (case l3 => k_is); (case c3 => k_is); (case k3 => k_is)
    (case a4 => k_is); (case l4 => k_is); (case c4 => k_is); (case k4 => k_is)
    (case a5 => k_is); (case l5 => k_is); (case c5 => k_is); (case k5 => k_is)
    (case a6 => k_is); (case l6 => k_is); (case c6 => k_is); (case k6 => k_is)
    (case a7 => k_is); (case l7 => k_is); (case c7 => k_is); (case k7 => k_is)
    (case a8 => k_is); (case l8 => k_is); (case c8 => k_is); (case k8 => k_is)
    (case a9 => k_is); (case l9 => k_is); (case c9 => k_is); (case k9 => k_is)
    (case a10 => k_is); (case l10 => k_is); (case c10 => k_is); (case k10 => k_is)
    (case a11 => k_is); (case l11 => k_is); (case c11 => k_is); (case k11 => k_is)
    (case a12 => k_is); (case l12 => k_is); (case c12 => k_is); (case k12 => k_is)
    (case a13 => k_is); (case l13 => k_is); (case c13 => k_is); (case k13 => k_is)
    (case a14 => k_is); (case l14 => k_is); (case c14 => k_is); (case k14 => k_is)
    (case a15 => k_is); (case l15 => k_is); (case c15 => k_is); (case k15 => k_is)
    (case a16 => k_is); (case l16 => k_is); (case c16 => k_is); (case k16 => k_is)
    (case a17 => k_is); (case l17 => k_is); (case c17 => k_is); (case k17 => k_is)
    (case a18 => k_is); (case l18 => k_is); (case c18 => k_is); (case k18 => k_is)
    (case a19 => k_is); (case l19 => k_is); (case c19 => k_is); (case k19 => k_is)
    (case z0 => k_is)
    (case z1 => k_is)
    (case z2 => k_is)
    (case z3 => k_is)
    (case z4 => k_is)
    (case z5 => k_is)
    (case z6 => k_is)
    (case z7 => k_is)
    (case z8 => k_is)
    (case z9 => k_is)
    (case z10 => k_is)
    (case z11 => k_is)
