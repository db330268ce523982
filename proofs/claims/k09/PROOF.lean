import PyProof.Rows.All
import Wide.All
import OpenK.AllK
import Wide.FinOn
import HandS.ForMost
import HandS.Wide
import HandS.TupAny
import HandS.IsInst
import HandS.Flow
import HandS.Style
import HandS.FStr
import HandS.Deep
import HandS.Small
import HandS.RaiseMore
import HandS.More
import HandS.Conv
import HandS.Zip
import HandS.Ends
import HandS.DictComp
import KE.GoesMore
import PyProof.EqAt
import PyProof.NeKinds
import PySem.Challenge.RW_neverhappens_k09_layout
set_option Elab.async false
set_option linter.all false
set_option maxRecDepth 100000
namespace Ab
open PySem PySem.Spec PyProof.Rows L2

/-! ## data: what a value is, with tuples as plain data; what stands in a cell; the cells -/
inductive D where
  | non | bl (b : Bool) | int (i : Int) | str (x : Str) | tup (xs : List D) | ref (i : Nat)
inductive AO where
  | lst (xs : List D) | frz (xs : List D) | ftp (xs : List D) | dic (kvs : List (Key × D)) | fdk (kvs : List (Key × D)) | ins (C : Addr) (fs : List (Str × D))
abbrev AH := List AO
inductive Res (α : Type) where
  | ok (a : α) (A : AH) | exc (C : Addr) (fs : List (Str × D)) (A : AH) | bad
def Res.bind {α β : Type} (r : Res α) (k : α → AH → Res β) : Res β := match r with
  | .ok a A => k a A
  | .exc C fs A => .exc C fs A
  | .bad => .bad
abbrev ASt := List (Option D)
inductive Fl where
  | nx (s : ASt) | rt (d : D) | bk (s : ASt) | ct (s : ASt)
abbrev FE := ASt → AH → Res D
abbrev FA := ASt → AH → Res (List D)
abbrev FT := ASt → AH → Res Bool
abbrev FS := ASt → AH → Res Fl
abbrev FO := ASt → AH → Res (Option Int)
/-- a def as a function of its arguments -/
abbrev FM := List D → AH → Res D

/-! ## how data lies in the abstract heap: ρ tells the cells' addresses -/
mutual
def Rp (K : PySem.W.Frag) (ρ : List Addr) (H : Hp) : D → V → Prop
  | .non, v => v = .non
  | .bl b, v => v = .bl b
  | .int i, v => v = .int i
  | .str x, v => v = .str x
  | .ref i, v => ∃ a, ρ[i]? = some a ∧ v = .ref a
  | .tup ds, v => ∃ a xs, v = .ref a ∧ SqT K H a xs ∧ RpL K ρ H ds xs
def RpL (K : PySem.W.Frag) (ρ : List Addr) (H : Hp) : List D → List V → Prop
  | [], xs => xs = []
  | d :: ds, xs => ∃ x r, xs = x :: r ∧ Rp K ρ H d x ∧ RpL K ρ H ds r
end
def RpK {κ : Type} (K : PySem.W.Frag) (ρ : List Addr) (H : Hp) : List (κ × D) → List (κ × V) → Prop
  | [], us => us = []
  | p :: ps, us => ∃ v r, us = (p.1, v) :: r ∧ Rp K ρ H p.2 v ∧ RpK K ρ H ps r
structure Ext (K : PySem.W.Frag) (ρ : List Addr) (H : Hp) (ρ' : List Addr) (H' : Hp) : Prop where
  pre : ∃ t, ρ' = ρ ++ t
  gr : ∀ a xs, SqT K H a xs → SqT K H' a xs
  fz : ∀ (a : Addr) (ob : Obj) (u : HO), H a = some (.frz ob u) → H' a = some (.frz ob u)
/-- a list that nobody writes: the script -/
def SqF (K : PySem.W.Frag) (H : Hp) (a : Addr) (xs : List V) : Prop := (∃ o, H a = some (.frz o (.lst xs))) ∨ SqL K (fun _ => none) a xs
def isFz : AO → Bool
  | .frz _ => true
  | .ftp _ => true
  | _ => false
/-- a tuple of which the object is known -/
def SqE (H : Hp) (a : Addr) (xs : List V) : Prop := ∃ o, H a = some (.frz o (.tup xs)) ∧ o.cls = .type "tuple" ∧ o.dict = none
def ORel (K : PySem.W.Frag) (ρ : List Addr) (H : Hp) (a : Addr) : AO → Prop
  | .lst ds => ∃ xs, H a = some (.lst xs) ∧ RpL K ρ H ds xs
  | .frz ds => ∃ xs, SqF K H a xs ∧ RpL K ρ H ds xs
  | .ftp ds => ∃ xs, SqE H a xs ∧ RpL K ρ H ds xs
  | .fdk kvs => ∃ o us, H a = some (.frz o (.dK us)) ∧ RpK K ρ H kvs us
  | .dic kvs => ∃ us, H a = some (.dK us) ∧ RpK K ρ H kvs us
  | .ins C fs => ∃ dx us, H a = some (.ins C dx us) ∧ RpK K ρ H fs us
structure Rel (K : PySem.W.Frag) (ρ : List Addr) (H : Hp) (A : AH) : Prop where
  len : ρ.length = A.length
  nd : ∀ (i j : Nat) (a : Addr) o u, ρ[i]? = some a → ρ[j]? = some a → A[i]? = some o → A[j]? = some u → isFz o = false → isFz u = false → i = j
  ob : ∀ (i : Nat) o, A[i]? = some o → ∃ a, ρ[i]? = some a ∧ ORel K ρ H a o
structure SRel (K : PySem.W.Frag) (ρ : List Addr) (H : Hp) (s : ASt) (σ : L2.St) : Prop where
  len : s.length = σ.length
  at_ : ∀ (i : Nat) d, s[i]? = some (some d) → ∃ v, σ[i]? = some (some v) ∧ Rp K ρ H d v
section
variable {K : PySem.W.Frag} {ρ ρ' ρ'' : List Addr} {H H' H'' : Hp} {A A' : AH} {s : ASt} {σ : L2.St} {d : D} {v : V}
theorem Ext.refl : Ext K ρ H ρ H := ⟨⟨[], by simp⟩, fun _ _ h => h, fun _ _ _ h => h⟩
theorem Ext.trans (e : Ext K ρ H ρ' H') (f : Ext K ρ' H' ρ'' H'') : Ext K ρ H ρ'' H'' := by
  obtain ⟨t, rfl⟩ := e.pre
  obtain ⟨u, rfl⟩ := f.pre
  exact ⟨⟨t ++ u, by simp⟩, fun a xs h => f.gr a xs (e.gr a xs h), fun a ob u h => f.fz a ob u (e.fz a ob u h)⟩
theorem Ext.at_ (e : Ext K ρ H ρ' H') {i : Nat} {a : Addr} (h : ρ[i]? = some a) : ρ'[i]? = some a := by
  obtain ⟨t, rfl⟩ := e.pre
  obtain ⟨hi, _⟩ := List.getElem?_eq_some_iff.mp h
  rw [List.getElem?_append_left hi]; exact h
mutual
theorem Rp.ext (e : Ext K ρ H ρ' H') : ∀ (d : D) (v : V), Rp K ρ H d v → Rp K ρ' H' d v
  | .non, v, h => h
  | .bl b, v, h => h
  | .int i, v, h => h
  | .str x, v, h => h
  | .ref i, v, h => by
    obtain ⟨a, h1, h2⟩ := h
    exact ⟨a, e.at_ h1, h2⟩
  | .tup ds, v, h => by
    obtain ⟨a, xs, h1, h2, h3⟩ := h
    exact ⟨a, xs, h1, e.gr _ _ h2, RpL.ext e ds xs h3⟩
theorem RpL.ext (e : Ext K ρ H ρ' H') : ∀ (ds : List D) (xs : List V), RpL K ρ H ds xs → RpL K ρ' H' ds xs
  | [], xs, h => h
  | d :: ds, xs, h => by
    obtain ⟨x, r, h1, h2, h3⟩ := h
    exact ⟨x, r, h1, Rp.ext e d x h2, RpL.ext e ds r h3⟩
end
theorem RpK.ext {κ : Type} (e : Ext K ρ H ρ' H') : ∀ (ps : List (κ × D)) (us : List (κ × V)), RpK K ρ H ps us → RpK K ρ' H' ps us
  | [], us, h => h
  | p :: ps, us, h => by
    obtain ⟨v, r, h1, h2, h3⟩ := h
    exact ⟨v, r, h1, h2.ext e, RpK.ext e ps r h3⟩
theorem RpL.length : ∀ {ds : List D} {xs : List V}, RpL K ρ H ds xs → xs.length = ds.length
  | [], xs, h => by rw [show xs = [] from h]; rfl
  | d :: ds, xs, h => by
    obtain ⟨x, r, rfl, h2, h3⟩ := h
    simp [RpL.length h3]
theorem RpL.get : ∀ {ds : List D} {xs : List V} {i : Nat} {d : D}, RpL K ρ H ds xs → ds[i]? = some d → ∃ v, xs[i]? = some v ∧ Rp K ρ H d v
  | [], _, _, _, _, e => by simp at e
  | d :: ds, xs, 0, d', h, e => by
    obtain ⟨x, r, rfl, h2, h3⟩ := h
    simp at e; subst e
    exact ⟨x, by simp, h2⟩
  | d :: ds, xs, i + 1, d', h, e => by
    obtain ⟨x, r, rfl, h2, h3⟩ := h
    obtain ⟨v, e1, e2⟩ := RpL.get (i := i) h3 (by simpa using e)
    exact ⟨v, by simpa using e1, e2⟩
theorem RpL.append : ∀ {ds es : List D} {xs ys : List V}, RpL K ρ H ds xs → RpL K ρ H es ys → RpL K ρ H (ds ++ es) (xs ++ ys)
  | [], es, xs, ys, h, h' => by rw [show xs = [] from h]; exact h'
  | d :: ds, es, xs, ys, h, h' => by
    obtain ⟨x, r, rfl, h2, h3⟩ := h
    exact ⟨x, r ++ ys, rfl, h2, h3.append h'⟩
theorem RpL.one (h : Rp K ρ H d v) : RpL K ρ H [d] [v] := ⟨v, [], rfl, h, rfl⟩
theorem RpL.take : ∀ {ds : List D} {xs : List V} (n : Nat), RpL K ρ H ds xs → RpL K ρ H (ds.take n) (xs.take n)
  | ds, xs, 0, h => by simp [RpL]
  | [], xs, n + 1, h => by rw [show xs = [] from h]; simp [RpL]
  | d :: ds, xs, n + 1, h => by
    obtain ⟨x, r, rfl, h2, h3⟩ := h
    exact ⟨x, r.take n, rfl, h2, h3.take n⟩
theorem RpL.drop : ∀ {ds : List D} {xs : List V} (n : Nat), RpL K ρ H ds xs → RpL K ρ H (ds.drop n) (xs.drop n)
  | ds, xs, 0, h => h
  | [], xs, n + 1, h => by rw [show xs = [] from h]; simp [RpL]
  | d :: ds, xs, n + 1, h => by
    obtain ⟨x, r, rfl, h2, h3⟩ := h
    exact h3.drop n
theorem RpL.set : ∀ {ds : List D} {xs : List V} (i : Nat), RpL K ρ H ds xs → Rp K ρ H d v → RpL K ρ H (ds.set i d) (xs.set i v)
  | [], xs, i, h, q => by rw [show xs = [] from h]; simp [RpL]
  | e :: ds, xs, 0, h, q => by
    obtain ⟨x, r, rfl, h2, h3⟩ := h
    exact ⟨v, r, rfl, q, h3⟩
  | e :: ds, xs, i + 1, h, q => by
    obtain ⟨x, r, rfl, h2, h3⟩ := h
    exact ⟨x, r.set i v, rfl, h2, h3.set i q⟩
theorem RpL.reverse : ∀ {ds : List D} {xs : List V}, RpL K ρ H ds xs → RpL K ρ H ds.reverse xs.reverse
  | [], xs, h => by rw [show xs = [] from h]; simp [RpL]
  | d :: ds, xs, h => by
    obtain ⟨x, r, rfl, h2, h3⟩ := h
    rw [List.reverse_cons, List.reverse_cons]
    exact h3.reverse.append (RpL.one h2)
theorem RpL.rep : ∀ {ds : List D} {xs : List V} (n : Nat), RpL K ρ H ds xs → RpL K ρ H (List.replicate n ds).flatten (List.replicate n xs).flatten
  | ds, xs, 0, h => by simp [RpL]
  | ds, xs, n + 1, h => by
    rw [List.replicate_succ, List.replicate_succ, List.flatten_cons, List.flatten_cons]
    exact h.append (h.rep n)
theorem SRel.ext (h : SRel K ρ H s σ) (e : Ext K ρ H ρ' H') : SRel K ρ' H' s σ :=
  ⟨h.len, fun i d q => by
    obtain ⟨v, h1, h2⟩ := h.at_ i d q
    exact ⟨v, h1, h2.ext e⟩⟩
theorem SRel.set (h : SRel K ρ H s σ) (i : Nat) (q : Rp K ρ H d v) : SRel K ρ H (s.set i (some d)) (σ.set i (some v)) := by
  refine ⟨by simp [h.len], fun j e hj => ?_⟩
  by_cases hji : i = j
  · subst hji
    have hl : i < s.length := by
      have := (List.getElem?_eq_some_iff.mp hj).1
      simpa using this
    rw [List.getElem?_set_self hl] at hj
    cases hj
    exact ⟨v, List.getElem?_set_self (by rw [← h.len]; exact hl), q⟩
  · rw [List.getElem?_set_ne hji] at hj
    obtain ⟨w, h1, h2⟩ := h.at_ j e hj
    exact ⟨w, by rw [List.getElem?_set_ne hji]; exact h1, h2⟩
theorem SRel.wipe (h : SRel K ρ H s σ) (i : Nat) : SRel K ρ H (s.set i none) (σ.set i none) := by
  refine ⟨by simp [h.len], fun j e hj => ?_⟩
  by_cases hji : i = j
  · subst hji
    have hl : i < s.length := by
      have := (List.getElem?_eq_some_iff.mp hj).1
      simpa using this
    rw [List.getElem?_set_self hl] at hj
    cases hj
  · rw [List.getElem?_set_ne hji] at hj
    obtain ⟨w, h1, h2⟩ := h.at_ j e hj
    exact ⟨w, by rw [List.getElem?_set_ne hji]; exact h1, h2⟩
theorem Rel.at_ (R : Rel K ρ H A) {i : Nat} {o : AO} (h : A[i]? = some o) : ∃ a, ρ[i]? = some a ∧ ORel K ρ H a o := R.ob i o h
theorem SqF.sq {a : Addr} {xs : List V} (h : SqF K H a xs) : SqL K H a xs := by
  rcases h with ⟨o, h⟩ | (h | ⟨o, h⟩) | h
  · exact .inl (.inr ⟨o, h⟩)
  · cases h
  · cases h
  · exact .inr h
theorem ORel.some {a : Addr} {o : AO} (h : ORel K ρ H a o) (f : isFz o = false) : ∃ u, H a = some u := by
  cases o with
  | lst ds => obtain ⟨xs, e, _⟩ := h; exact ⟨_, e⟩
  | frz ds => cases f
  | ftp ds => cases f
  | fdk ds => obtain ⟨o, xs, e, _⟩ := h; exact ⟨_, e⟩
  | dic ds => obtain ⟨xs, e, _⟩ := h; exact ⟨_, e⟩
  | ins C ds => obtain ⟨dx, xs, e, _⟩ := h; exact ⟨_, e⟩
theorem ORel.ext {a : Addr} {o : AO} (h : ORel K ρ H a o) (e : Ext K ρ H ρ' H') (q : isFz o = false → H' a = H a) (z : ∀ xs, SqF K H a xs → SqF K H' a xs) (y : ∀ (ob : Obj) (u : HO), H a = Option.some (HO.frz ob u) → H' a = Option.some (HO.frz ob u)) : ORel K ρ' H' a o := by
  cases o with
  | lst ds => obtain ⟨xs, e1, e2⟩ := h; exact ⟨xs, (q rfl).trans e1, e2.ext e⟩
  | frz ds => obtain ⟨xs, e1, e2⟩ := h; exact ⟨xs, z _ e1, e2.ext e⟩
  | ftp ds => obtain ⟨xs, ⟨o, e1, e3, e4⟩, e2⟩ := h; exact ⟨xs, ⟨o, y _ _ e1, e3, e4⟩, e2.ext e⟩
  | fdk ds => obtain ⟨o, xs, e1, e2⟩ := h; exact ⟨o, xs, (q rfl).trans e1, e2.ext e⟩
  | dic ds => obtain ⟨xs, e1, e2⟩ := h; exact ⟨xs, (q rfl).trans e1, e2.ext e⟩
  | ins C ds => obtain ⟨dx, xs, e1, e2⟩ := h; exact ⟨dx, xs, (q rfl).trans e1, e2.ext e⟩
theorem frz_new {p : Addr} {o : HO} (hp : H p = none) {a : Addr} (ob : Obj) (u : HO) (h : H a = some (.frz ob u)) : (upd H p o) a = some (.frz ob u) := by
  rw [upd_ne (ne_of_none h hp)]; exact h
theorem frz_mut {p : Addr} {o u : HO} (hp : H p = some u) (hu : Mut (some u)) {a : Addr} (ob : Obj) (v : HO) (h : H a = some (.frz ob v)) : (upd H p o) a = some (.frz ob v) := by
  have nf : ∀ o' x, u ≠ .frz o' x := fun o' x e => by subst e; exact hu
  rw [upd_ne (ne_of h hp (fun e => nf _ _ e.symm))]; exact h
theorem sqF_new {p : Addr} {o : HO} (hp : H p = none) {a : Addr} (xs : List V) (h : SqF K H a xs) : SqF K (upd H p o) a xs := by
  rcases h with ⟨o', h⟩ | h
  · exact .inl ⟨o', by rw [upd_ne (ne_of_none h hp)]; exact h⟩
  · exact .inr h
theorem sqF_mut {p : Addr} {o u : HO} (hp : H p = some u) (hu : Mut (some u)) {a : Addr} (xs : List V) (h : SqF K H a xs) : SqF K (upd H p o) a xs := by
  have nf : ∀ o' x, u ≠ .frz o' x := fun o' x e => by subst e; exact hu
  rcases h with ⟨o', h⟩ | h
  · exact .inl ⟨o', by rw [upd_ne (ne_of h hp (fun e => nf _ _ e.symm))]; exact h⟩
  · exact .inr h
theorem SqE.sq {a : Addr} {xs : List V} (h : SqE H a xs) : SqT K H a xs := by
  obtain ⟨o, h, _⟩ := h
  exact .inl (.inr ⟨o, h⟩)
theorem Rel.has (R : Rel K ρ H A) {i : Nat} {a : Addr} (h : ρ[i]? = some a) : ∃ o, A[i]? = some o ∧ ORel K ρ H a o := by
  have hi : i < A.length := by rw [← R.len]; exact (List.getElem?_eq_some_iff.mp h).1
  obtain ⟨a', h1, h2⟩ := R.ob i A[i] (List.getElem?_eq_getElem hi)
  rw [h] at h1; cases h1
  exact ⟨_, List.getElem?_eq_getElem hi, h2⟩
theorem sqT_new {p : Addr} {o : HO} (hp : H p = none) : ∀ a xs, SqT K H a xs → SqT K (upd H p o) a xs := by
  intro a xs h
  rcases h with (h | ⟨o', h⟩) | h
  · exact .inl (.inl (by rw [upd_ne (ne_of_none h hp)]; exact h))
  · exact .inl (.inr ⟨o', by rw [upd_ne (ne_of_none h hp)]; exact h⟩)
  · exact .inr h
theorem sqT_mut {p : Addr} {o u : HO} (hp : H p = some u) (hu : Mut (some u)) : ∀ a xs, SqT K H a xs → SqT K (upd H p o) a xs := by
  intro a xs h
  have nt : ∀ xs, u ≠ .tup xs := fun xs e => by subst e; exact hu
  have nf : ∀ o' x, u ≠ .frz o' x := fun o' x e => by subst e; exact hu
  rcases h with (h | ⟨o', h⟩) | h
  · exact .inl (.inl (by rw [upd_ne (ne_of h hp (fun e => nt _ e.symm))]; exact h))
  · exact .inl (.inr ⟨o', by rw [upd_ne (ne_of h hp (fun e => nf _ _ e.symm))]; exact h⟩)
  · exact .inr h
theorem Ext.new {p : Addr} {o : HO} (hp : H p = none) (t : List Addr) : Ext K ρ H (ρ ++ t) (upd H p o) := ⟨⟨t, rfl⟩, sqT_new hp, fun _ ob u h => frz_new hp ob u h⟩
theorem Ext.new0 {p : Addr} {o : HO} (hp : H p = none) : Ext K ρ H ρ (upd H p o) := ⟨⟨[], by simp⟩, sqT_new hp, fun _ ob u h => frz_new hp ob u h⟩
theorem Ext.mut {p : Addr} {o u : HO} (hp : H p = some u) (hu : Mut (some u)) : Ext K ρ H ρ (upd H p o) := ⟨⟨[], by simp⟩, sqT_mut hp hu, fun _ ob u h => frz_mut hp hu ob u h⟩
/-- an untracked thing is laid (a tuple, a temporary) -/
theorem Rel.new0 (R : Rel K ρ H A) {p : Addr} {o : HO} (hp : H p = none) : Rel K ρ (upd H p o) A :=
  ⟨R.len, R.nd, fun i ob h => by
    obtain ⟨a, h1, h2⟩ := R.ob i ob h
    exact ⟨a, h1, h2.ext (Ext.new0 hp) (fun f => by obtain ⟨u, hu⟩ := h2.some f; exact upd_ne (ne_of_none hu hp)) (fun xs => sqF_new hp xs) fun ob u => frz_new hp ob u⟩⟩
/-- a new cell -/
theorem Rel.new (R : Rel K ρ H A) {p : Addr} {o : HO} {ao : AO} (hp : H p = none) (h : ORel K (ρ ++ [p]) (upd H p o) p ao) : Rel K (ρ ++ [p]) (upd H p o) (A ++ [ao]) := by
  have hn : ∀ (i : Nat) ob, ρ[i]? = some p → A[i]? = some ob → isFz ob = false → False := fun i ob hi ho f => by
    obtain ⟨a, h1, h2⟩ := R.ob i ob ho
    rw [hi] at h1; cases h1
    obtain ⟨u, hu⟩ := h2.some f
    rw [hp] at hu; cases hu
  have old : ∀ (i : Nat) {a : Addr} {ob : AO}, (ρ ++ [p])[i]? = some a → (A ++ [ao])[i]? = some ob → (ρ[i]? = some a ∧ A[i]? = some ob) ∨ (i = A.length ∧ a = p ∧ ob = ao) := fun i a ob h1 h2 => by
    by_cases hl : i < A.length
    · rw [List.getElem?_append_left hl] at h2
      rw [List.getElem?_append_left (by rw [R.len]; exact hl)] at h1
      exact .inl ⟨h1, h2⟩
    · have e : i = A.length := by
        have := (List.getElem?_eq_some_iff.mp h2).1
        simp at this; omega
      subst e
      simp at h2
      rw [← R.len] at h1; simp at h1
      exact .inr ⟨rfl, h1.symm, h2.symm⟩
  refine ⟨by simp [R.len], fun i j a ob u h1 h2 h3 h4 f1 f2 => ?_, fun i ob hi => ?_⟩
  · rcases old i h1 h3 with ⟨a1, a2⟩ | ⟨a1, a2, a3⟩
    · rcases old j h2 h4 with ⟨b1, b2⟩ | ⟨b1, b2, b3⟩
      · exact R.nd i j a ob u a1 b1 a2 b2 f1 f2
      · subst b2; exact (hn i ob a1 a2 f1).elim
    · rcases old j h2 h4 with ⟨b1, b2⟩ | ⟨b1, b2, b3⟩
      · subst a2; exact (hn j u b1 b2 f2).elim
      · rw [a1, b1]
  · by_cases hl : i < A.length
    · rw [List.getElem?_append_left hl] at hi
      obtain ⟨a, h1, h2⟩ := R.ob i ob hi
      exact ⟨a, (Ext.new (K := K) (o := o) hp [p]).at_ h1, h2.ext (Ext.new hp [p]) (fun f => by obtain ⟨u, hu⟩ := h2.some f; exact upd_ne (ne_of_none hu hp)) (fun xs => sqF_new hp xs) fun ob u => frz_new hp ob u⟩
    · have e : i = A.length := by
        have := (List.getElem?_eq_some_iff.mp hi).1
        simp at this; omega
      subst e
      simp at hi; subst hi
      exact ⟨p, by rw [← R.len]; simp, h⟩
/-- a cell is written -/
theorem Rel.upd (R : Rel K ρ H A) {i : Nat} {a : Addr} {o u : HO} {ao old : AO} (ha : ρ[i]? = some a) (hA : A[i]? = some old) (fo : isFz old = false) (hu : H a = some u) (hm : Mut (some u)) (h : ORel K ρ (upd H a o) a ao) (fn : isFz ao = false) : Rel K ρ (upd H a o) (A.set i ao) := by
  have hl : i < A.length := (List.getElem?_eq_some_iff.mp hA).1
  have was : ∀ (j : Nat) {ob : AO}, (A.set i ao)[j]? = some ob → isFz ob = false → ∃ ob', A[j]? = some ob' ∧ isFz ob' = false := fun j ob hj f => by
    by_cases hji : i = j
    · subst hji; exact ⟨old, hA, fo⟩
    · rw [List.getElem?_set_ne hji] at hj; exact ⟨ob, hj, f⟩
  refine ⟨by simp [R.len], fun j k b ob u h1 h2 h3 h4 f1 f2 => ?_, fun j ob hj => ?_⟩
  · obtain ⟨o1, q1, q2⟩ := was j h3 f1
    obtain ⟨o2, q3, q4⟩ := was k h4 f2
    exact R.nd j k b o1 o2 h1 h2 q1 q3 q2 q4
  · by_cases hji : i = j
    · subst hji
      rw [List.getElem?_set_self hl] at hj
      cases hj
      exact ⟨a, ha, h⟩
    · rw [List.getElem?_set_ne hji] at hj
      obtain ⟨b, h1, h2⟩ := R.ob j ob hj
      refine ⟨b, h1, h2.ext (Ext.mut hu hm) (fun f => upd_ne ?_) (fun xs => sqF_mut hu hm xs) fun ob u => frz_mut hu hm ob u⟩
      rintro rfl
      exact hji (R.nd i j b old ob ha h1 hA hj fo f)
end

/-! ## what an outcome gives -/
def Out {α β : Type} (K : PySem.W.Frag) (E : XK) (R : List Addr → Hp → α → β → Prop) (ρ : List Addr) (H : Hp) (r : Res α) (Q : β → Hp → Prop) : Prop := match r with
  | .ok a A' => ∀ ρ' H' v, Ext K ρ H ρ' H' → Rel K ρ' H' A' → R ρ' H' a v → Q v H'
  | .exc C fs A' => ∀ ρ' H' dx us, Ext K ρ H ρ' H' → Rel K ρ' H' A' → H' dx = some (.xd us) → RpK K ρ' H' fs us → E (.ref C) (some dx) H'
  | .bad => False
abbrev OutE (K : PySem.W.Frag) (E : XK) := Out (α := D) (β := V) K E (fun ρ H d v => Rp K ρ H d v)
abbrev OutA (K : PySem.W.Frag) (E : XK) := Out (α := List D) (β := List V) K E (fun ρ H d v => RpL K ρ H d v)
abbrev OutT (K : PySem.W.Frag) (E : XK) := Out (α := Bool) (β := Bool) K E (fun _ _ d v => d = v)
abbrev OutO (K : PySem.W.Frag) (E : XK) := Out (α := Option Int) (β := Option Int) K E (fun _ _ d v => d = v)
section
variable {K : PySem.W.Frag} {E : XK} {α β γ δ : Type} {R1 : List Addr → Hp → α → β → Prop} {R2 : List Addr → Hp → γ → δ → Prop} {ρ : List Addr} {H : Hp}
/-- first r, then k -/
theorem Out.bind {r : Res α} {k : α → AH → Res γ} {Q : δ → Hp → Prop} (h : Out K E R2 ρ H (r.bind k) Q) :
    Out K E R1 ρ H r (fun v H1 => ∃ ρ1 a A1, r = .ok a A1 ∧ Ext K ρ H ρ1 H1 ∧ Rel K ρ1 H1 A1 ∧ R1 ρ1 H1 a v ∧ Out K E R2 ρ1 H1 (k a A1) Q) := by
  cases r with
  | bad => exact h
  | exc C fs A => exact h
  | ok a A =>
    intro ρ1 H1 v e1 r1 q1
    refine ⟨ρ1, a, A, rfl, e1, r1, q1, ?_⟩
    have h : Out K E R2 ρ H (k a A) Q := h
    cases hk : k a A with
    | bad => rw [hk] at h; exact h
    | exc C fs A2 => rw [hk] at h; exact fun ρ' H' dx us e2 => h ρ' H' dx us (e1.trans e2)
    | ok c A2 => rw [hk] at h; exact fun ρ' H' w e2 => h ρ' H' w (e1.trans e2)
theorem Out.ext {ρ0 : List Addr} {H0 : Hp} {r : Res α} {Q : β → Hp → Prop} (h : Out K E R1 ρ0 H0 r Q) (e : Ext K ρ0 H0 ρ H) : Out K E R1 ρ H r Q := by
  cases r with
  | bad => exact h
  | exc C fs A => exact fun ρ' H' dx us e2 => h ρ' H' dx us (e.trans e2)
  | ok c A => exact fun ρ' H' w e2 => h ρ' H' w (e.trans e2)
theorem Out.mono {r : Res α} {Q Q' : β → Hp → Prop} (h : Out K E R1 ρ H r Q) (q : ∀ v H', Q v H' → Q' v H') : Out K E R1 ρ H r Q' := by
  cases r with
  | bad => exact h
  | exc C fs A => exact h
  | ok c A => exact fun ρ' H' w e r1 q1 => q _ _ (h ρ' H' w e r1 q1)
/-- at once -/
theorem Out.now {a : α} {A : AH} {Q : β → Hp → Prop} {v : β} (h : Out K E R1 ρ H (.ok a A) Q) (R : Rel K ρ H A) (r : R1 ρ H a v) : Q v H := h ρ H v .refl R r
end

/-! ## the readings that such functions give -/
def tA (K : PySem.W.Frag) (E : XK) (f : FE) : TE := fun σ H Q => ∃ ρ s A, SRel K ρ H s σ ∧ Rel K ρ H A ∧ OutE K E ρ H (f s A) Q
def tAA (K : PySem.W.Frag) (E : XK) (f : FA) : TA := fun σ H Q => ∃ ρ s A, SRel K ρ H s σ ∧ Rel K ρ H A ∧ OutA K E ρ H (f s A) Q
def tAT (K : PySem.W.Frag) (E : XK) (f : FT) : TT := fun σ H Q => ∃ ρ s A, SRel K ρ H s σ ∧ Rel K ρ H A ∧ OutT K E ρ H (f s A) Q
def tAO (K : PySem.W.Frag) (E : XK) (f : FO) : TO := fun σ H Q => ∃ ρ s A, SRel K ρ H s σ ∧ Rel K ρ H A ∧ OutO K E ρ H (f s A) Q
def SOut (K : PySem.W.Frag) (E : XK) (ρ : List Addr) (H : Hp) (r : Res Fl) (G : Ends) : Prop := match r with
  | .ok (.nx s) A' => ∀ ρ' H' σ', Ext K ρ H ρ' H' → Rel K ρ' H' A' → SRel K ρ' H' s σ' → G.nx σ' H'
  | .ok (.bk s) A' => ∀ ρ' H' σ', Ext K ρ H ρ' H' → Rel K ρ' H' A' → SRel K ρ' H' s σ' → G.bk σ' H'
  | .ok (.ct s) A' => ∀ ρ' H' σ', Ext K ρ H ρ' H' → Rel K ρ' H' A' → SRel K ρ' H' s σ' → G.ct σ' H'
  | .ok (.rt d) A' => ∀ ρ' H' v, Ext K ρ H ρ' H' → Rel K ρ' H' A' → Rp K ρ' H' d v → G.rt v H'
  | .exc C fs A' => ∀ ρ' H' dx us, Ext K ρ H ρ' H' → Rel K ρ' H' A' → H' dx = some (.xd us) → RpK K ρ' H' fs us → E (.ref C) (some dx) H'
  | .bad => False
def tAS (K : PySem.W.Frag) (E : XK) (f : FS) : TS := fun G σ H => ∃ ρ s A, SRel K ρ H s σ ∧ Rel K ρ H A ∧ SOut K E ρ H (f s A) G
theorem SOut.ext {K : PySem.W.Frag} {E : XK} {ρ0 ρ : List Addr} {H0 H : Hp} {r : Res Fl} {G : Ends} (h : SOut K E ρ0 H0 r G) (e : Ext K ρ0 H0 ρ H) : SOut K E ρ H r G := by
  cases r with
  | bad => exact h
  | exc C fs A => exact fun ρ' H' dx us e2 => h ρ' H' dx us (e.trans e2)
  | ok c A => cases c <;> exact fun ρ' H' w e2 => h ρ' H' w (e.trans e2)
theorem Out.bindS {K : PySem.W.Frag} {E : XK} {α β : Type} {R1 : List Addr → Hp → α → β → Prop} {ρ : List Addr} {H : Hp} {r : Res α} {k : α → AH → Res Fl} {G : Ends} (h : SOut K E ρ H (r.bind k) G) :
    Out K E R1 ρ H r (fun v H1 => ∃ ρ1 a A1, r = .ok a A1 ∧ Ext K ρ H ρ1 H1 ∧ Rel K ρ1 H1 A1 ∧ R1 ρ1 H1 a v ∧ SOut K E ρ1 H1 (k a A1) G) := by
  cases r with
  | bad => exact h
  | exc C fs A => exact h
  | ok a A => exact fun ρ1 H1 v e1 r1 q1 => ⟨ρ1, a, A, rfl, e1, r1, q1, SOut.ext h e1⟩
/-- what the judgements are about -/
abbrev AE (X : Cx) (E : XK) (e : Expr) (f : FE) : Prop := PE X e (tA X.K E f)
abbrev AA (X : Cx) (E : XK) (es : List Expr) (f : FA) : Prop := PA X es (tAA X.K E f)
abbrev AT (X : Cx) (E : XK) (e : Expr) (f : FT) : Prop := PT X e (tAT X.K E f)
abbrev AO_ (X : Cx) (E : XK) (e : Option Expr) (f : FO) : Prop := PO X e (tAO X.K E f)
abbrev AS (X : Cx) (E : XK) (e : Stmt) (f : FS) : Prop := PS X e (tAS X.K E f)
abbrev ASs (X : Cx) (E : XK) (e : List Stmt) (f : FS) : Prop := PSs X e (tAS X.K E f)
section
variable {X : Cx}
theorem pe_mono {e : Expr} {t u : TE} (h : PE X e t) (m : ∀ σ H Q, u σ H Q → t σ H Q) : PE X e u := ⟨fun pins s σ H Q I q => h.run pins s σ H Q I (m _ _ _ q)⟩
theorem pa_mono {e : List Expr} {t u : TA} (h : PA X e t) (m : ∀ σ H Q, u σ H Q → t σ H Q) : PA X e u := ⟨fun pos pins s σ H Q I q => h.run pos pins s σ H Q I (m _ _ _ q)⟩
theorem pt_mono {e : Expr} {t u : TT} (h : PT X e t) (m : ∀ σ H Q, u σ H Q → t σ H Q) : PT X e u := ⟨fun pins s σ H Q I q => h.run pins s σ H Q I (m _ _ _ q)⟩
theorem pw_mono {e : Expr} {t u : TT} (h : PW X e t) (m : ∀ σ H Q, u σ H Q → t σ H Q) : PW X e u := ⟨fun whole pins s σ H Q I q => h.run whole pins s σ H Q I (m _ _ _ q)⟩
theorem ps_mono {e : Stmt} {t u : TS} (h : PS X e t) (m : ∀ G σ H, u G σ H → t G σ H) : PS X e u := ⟨fun pins s σ H G I q => h.run pins s σ H G I (m _ _ _ q)⟩
theorem pss_mono {e : List Stmt} {t u : TS} (h : PSs X e t) (m : ∀ G σ H, u G σ H → t G σ H) : PSs X e u := ⟨fun pins s σ H G I q => h.run pins s σ H G I (m _ _ _ q)⟩
theorem op_mono {f : Value → Value → Sem Value} {t u : R2} (h : OpR X f t) (m : ∀ x y H Q, u x y H Q → t x y H Q) : OpR X f u := fun pins s σ H x y v w Q I rx ry q => h pins s σ H x y v w Q I rx ry (m _ _ _ _ q)
theorem callR_mono {f : Value} {t u : List V → Hp → VK → Prop} (h : CallR X f t) (m : ∀ xs H Q, u xs H Q → t xs H Q) : CallR X f u := fun pins s σ H xs us Q I r q => h pins s σ H xs us Q I r (m _ _ _ q)
end
end Ab

namespace Ab
open PySem PySem.Spec PyProof.Rows L2
open scoped Classical

/-! ## reading cells -/
def rdL (A : AH) : D → Option (List D)
  | .ref i => match A[i]? with
    | some (.lst xs) => some xs
    | some (.frz xs) => some xs
    | _ => none
  | _ => none
def muL (A : AH) : D → Option (List D)
  | .ref i => match A[i]? with
    | some (.lst xs) => some xs
    | _ => none
  | _ => none
def rdM (A : AH) : D → Option (List (Key × D))
  | .ref i => match A[i]? with
    | some (.dic xs) => some xs
    | _ => none
  | _ => none
def rdK (A : AH) : D → Option (List (Key × D))
  | .ref i => match A[i]? with
    | some (.dic xs) => some xs
    | some (.fdk xs) => some xs
    | _ => none
  | _ => none
def rdI (A : AH) : D → Option (Addr × List (Str × D))
  | .ref i => match A[i]? with
    | some (.ins C xs) => some (C, xs)
    | _ => none
  | _ => none
def rdS (A : AH) : D → Option (List D)
  | .tup xs => some xs
  | d => rdL A d
section
variable {K : PySem.W.Frag} {ρ : List Addr} {H : Hp} {A : AH} {d : D} {v : V}
theorem rdL_ok (R : Rel K ρ H A) (r : Rp K ρ H d v) {ds : List D} (h : rdL A d = some ds) : ∃ a xs, v = .ref a ∧ SqL K H a xs ∧ RpL K ρ H ds xs := by
  cases d with
  | ref i =>
    obtain ⟨a, h1, rfl⟩ := r
    obtain ⟨o, h2, h3⟩ := R.has h1
    unfold rdL at h
    simp only [h2] at h
    cases o with
    | lst xs => cases h; obtain ⟨us, e1, e2⟩ := h3; exact ⟨a, us, rfl, .inl (.inl e1), e2⟩
    | frz xs => cases h; obtain ⟨us, e1, e2⟩ := h3; exact ⟨a, us, rfl, e1.sq, e2⟩
    | dic _ => cases h
    | ftp _ => cases h
    | fdk _ => cases h
    | ins _ _ => cases h
  | _ => cases h
theorem muL_ok (R : Rel K ρ H A) (r : Rp K ρ H d v) {ds : List D} (h : muL A d = some ds) : ∃ i a xs, d = .ref i ∧ v = .ref a ∧ ρ[i]? = some a ∧ A[i]? = some (.lst ds) ∧ H a = some (.lst xs) ∧ RpL K ρ H ds xs := by
  cases d with
  | ref i =>
    obtain ⟨a, h1, rfl⟩ := r
    obtain ⟨o, h2, h3⟩ := R.has h1
    unfold muL at h
    simp only [h2] at h
    cases o with
    | lst xs => cases h; obtain ⟨us, e1, e2⟩ := h3; exact ⟨i, a, us, rfl, rfl, h1, h2, e1, e2⟩
    | frz xs => cases h
    | dic _ => cases h
    | ftp _ => cases h
    | fdk _ => cases h
    | ins _ _ => cases h
  | _ => cases h
theorem rdM_ok (R : Rel K ρ H A) (r : Rp K ρ H d v) {ds : List (Key × D)} (h : rdM A d = some ds) : ∃ i a xs, d = .ref i ∧ v = .ref a ∧ ρ[i]? = some a ∧ A[i]? = some (.dic ds) ∧ H a = some (.dK xs) ∧ RpK K ρ H ds xs := by
  cases d with
  | ref i =>
    obtain ⟨a, h1, rfl⟩ := r
    obtain ⟨o, h2, h3⟩ := R.has h1
    unfold rdM at h
    simp only [h2] at h
    cases o with
    | dic xs => cases h; obtain ⟨us, e1, e2⟩ := h3; exact ⟨i, a, us, rfl, rfl, h1, h2, e1, e2⟩
    | lst xs => cases h
    | frz xs => cases h
    | ftp _ => cases h
    | fdk _ => cases h
    | ins _ _ => cases h
  | _ => cases h
theorem rdK_ok (R : Rel K ρ H A) (r : Rp K ρ H d v) {ds : List (Key × D)} (h : rdK A d = some ds) : ∃ i a xs, d = .ref i ∧ v = .ref a ∧ ρ[i]? = some a ∧ Rd H a (.dK xs) ∧ RpK K ρ H ds xs := by
  cases d with
  | ref i =>
    obtain ⟨a, h1, rfl⟩ := r
    obtain ⟨o, h2, h3⟩ := R.has h1
    unfold rdK at h
    simp only [h2] at h
    cases o with
    | dic xs => cases h; obtain ⟨us, e1, e2⟩ := h3; exact ⟨i, a, us, rfl, rfl, h1, .inl e1, e2⟩
    | fdk xs => cases h; obtain ⟨o, us, e1, e2⟩ := h3; exact ⟨i, a, us, rfl, rfl, h1, .inr ⟨o, e1⟩, e2⟩
    | _ => cases h
  | _ => cases h
theorem rdI_ok (R : Rel K ρ H A) (r : Rp K ρ H d v) {C : Addr} {ds : List (Str × D)} (h : rdI A d = some (C, ds)) : ∃ i a dx xs, d = .ref i ∧ v = .ref a ∧ ρ[i]? = some a ∧ A[i]? = some (.ins C ds) ∧ H a = some (.ins C dx xs) ∧ RpK K ρ H ds xs := by
  cases d with
  | ref i =>
    obtain ⟨a, h1, rfl⟩ := r
    obtain ⟨o, h2, h3⟩ := R.has h1
    unfold rdI at h
    simp only [h2] at h
    cases o with
    | ftp _ => cases h
    | fdk _ => cases h
    | ins C' xs => cases h; obtain ⟨dx, us, e1, e2⟩ := h3; exact ⟨i, a, dx, us, rfl, rfl, h1, h2, e1, e2⟩
    | lst xs => cases h
    | frz xs => cases h
    | dic _ => cases h
  | _ => cases h
theorem rdS_ok (R : Rel K ρ H A) (r : Rp K ρ H d v) {ds : List D} (h : rdS A d = some ds) : ∃ a xs, v = .ref a ∧ (SqL K H a xs ∨ SqT K H a xs) ∧ RpL K ρ H ds xs := by
  cases d with
  | tup xs =>
    cases h
    obtain ⟨a, us, h1, h2, h3⟩ := r
    exact ⟨a, us, h1, .inr h2, h3⟩
  | ref i =>
    obtain ⟨a, xs, h1, h2, h3⟩ := rdL_ok R r (show rdL A (.ref i) = some ds from h)
    exact ⟨a, xs, h1, .inl h2, h3⟩
  | _ => cases h
end

theorem RpL.isNil {K : PySem.W.Frag} {ρ : List Addr} {H : Hp} {ds : List D} (h : RpL K ρ H ds []) : ds = [] := by
  have := h.length
  cases ds with
  | nil => rfl
  | cons _ _ => simp at this
/-! ## names, constants -/
def fV (i : Nat) : FE := fun s A => match s[i]? with
  | some (some d) => .ok d A
  | _ => .bad
def fC (d : D) : FE := fun _ A => .ok d A
section
variable {X : Cx} {E : XK}
theorem ae_v (i : Nat) {x : Str} {pos : Pos} (hN : X.N[i]? = some x := by rfl) (hv : Vis X.env.scope x := by first | exact Or.inl rfl | exact Or.inr (Or.inl rfl) | exact Or.inr (Or.inr rfl)) (hd : (x == ("__debug__" : Str)) = false := by decide)
    (hcd : (x == ("__classdict__" : Str)) = false := by decide) : AE X E (.Name x pos) (fV i) := pe_mono (pe_var hN hv hd hcd) fun σ H Q h => by
  obtain ⟨ρ, s, A, hs, R, h⟩ := h
  unfold fV at h
  cases e : s[i]? with
  | none => simp only [e] at h; exact h.elim
  | some o =>
    cases o with
    | none => simp only [e] at h; exact h.elim
    | some d =>
      simp only [e] at h
      obtain ⟨v, h1, h2⟩ := hs.at_ i d e
      exact ⟨v, h1, h.now R h2⟩
theorem ae_c {e : Expr} {d : D} {v : V} (h : PE X e (tC v)) (r : ∀ ρ H, Rp X.K ρ H d v) : AE X E e (fC d) := pe_mono h fun σ H Q h => by
  obtain ⟨ρ, s, A, hs, R, h⟩ := h
  exact Out.now h R (r ρ H)
theorem ae_int {i j pos} : AE X E (.Constant (.int i) j pos) (fC (.int i)) := ae_c pe_int fun _ _ => rfl
theorem ae_bl {i j pos} : AE X E (.Constant (.bool i) j pos) (fC (.bl i)) := ae_c pe_bl fun _ _ => rfl
theorem ae_non {j pos} : AE X E (.Constant .none j pos) (fC .non) := ae_c pe_non fun _ _ => rfl
theorem ae_str {i j pos} : AE X E (.Constant (.str i) j pos) (fC (.str i)) := ae_c pe_str fun _ _ => rfl
end

/-! ## operators -/
def rA (K : PySem.W.Frag) (E : XK) (g : D → D → AH → Res D) : R2 := fun x y H Q => ∃ ρ A d e, Rel K ρ H A ∧ Rp K ρ H d x ∧ Rp K ρ H e y ∧ OutE K E ρ H (g d e A) Q
abbrev AOp (X : Cx) (E : XK) (f : Value → Value → Sem Value) (g : D → D → AH → Res D) : Prop := OpR X f (rA X.K E g)
def fOp (g : D → D → AH → Res D) (f1 f2 : FE) : FE := fun s A => (f1 s A).bind fun x A1 => (f2 s A1).bind fun y A2 => g x y A2
def rU1 (K : PySem.W.Frag) (E : XK) (g : D → AH → Res D) : V → Hp → VK → Prop := fun x H Q => ∃ ρ A d, Rel K ρ H A ∧ Rp K ρ H d x ∧ OutE K E ρ H (g d A) Q
def fUn (g : D → AH → Res D) (f1 : FE) : FE := fun s A => (f1 s A).bind fun x A1 => g x A1
section
variable {X : Cx} {E : XK} {a b : Expr} {f1 f2 : FE} {pos : Pos} {g : D → D → AH → Res D}
theorem two_ {K : PySem.W.Frag} {σ : L2.St} {H : Hp} {Q : VK} (h : tA K E (fOp g f1 f2) σ H Q) : tA K E f1 σ H fun x H1 => tA K E f2 σ H1 fun y H2 => rA K E g x y H2 Q := by
  obtain ⟨ρ, s, A, hs, R, h⟩ := h
  refine ⟨ρ, s, A, hs, R, (Out.bind h).mono fun x H1 ⟨ρ1, d, A1, _, e1, R1, r1, h1⟩ => ⟨ρ1, s, A1, hs.ext e1, R1, (Out.bind h1).mono fun y H2 ⟨ρ2, d2, A2, _, e2, R2, r2, h2⟩ => ⟨ρ2, A2, d, d2, R2, r1.ext e2, r2, h2⟩⟩⟩
theorem ae_op {op : Operator} (ho : AOp X E (binaryOp op) g) (ha : AE X E a f1) (hb : AE X E b f2) : AE X E (.BinOp a op b pos) (fOp g f1 f2) := pe_mono (pe_op ho ha hb) fun _ _ _ => two_
theorem ae_cmp {op : CmpOp} (ho : AOp X E (compareOp op) g) (ha : AE X E a f1) (hb : AE X E b f2) (hm : behindInMarks op b = false := by first | exact nomark _ | with_unfolding_all rfl) : AE X E (.Compare a [op] [b] pos) (fOp g f1 f2) := pe_mono (pe_cmpR ho ha hb hm) fun _ _ _ => two_
theorem ae_un {op : UnaryOp} {g : D → AH → Res D} (ho : UnR X (unaryOp op) (rU1 X.K E g)) (ha : AE X E a f1) : AE X E (.UnaryOp op a pos) (fUn g f1) := pe_mono (pe_un ho ha) fun σ H Q h => by
  obtain ⟨ρ, s, A, hs, R, h⟩ := h
  exact ⟨ρ, s, A, hs, R, (Out.bind h).mono fun x H1 ⟨ρ1, d, A1, _, e1, R1, r1, h1⟩ => ⟨ρ1, A1, d, R1, r1, h1⟩⟩
end

/-! ### the operators on data -/
def alloc (o : AO) (A : AH) : Res D := .ok (.ref A.length) (A ++ [o])
section
variable {K : PySem.W.Frag} {E : XK} {ρ : List Addr} {H : Hp} {A : AH} {Q : VK} {xs : List V} {ds : List D}
theorem new_lst (R : Rel K ρ H A) (r : RpL K ρ H ds xs) (h : OutE K E ρ H (alloc (.lst ds) A) Q) : ∀ p, H p = none → Q (.ref p) (upd H p (.lst xs)) := fun p hp => by
  have e : Ext K ρ H (ρ ++ [p]) (upd H p (.lst xs)) := Ext.new hp [p]
  exact h (ρ ++ [p]) (upd H p (.lst xs)) (.ref p) e (R.new hp ⟨xs, upd_same, r.ext e⟩) ⟨p, by rw [← R.len]; simp, rfl⟩
theorem new_tup (R : Rel K ρ H A) (r : RpL K ρ H ds xs) (h : OutE K E ρ H (.ok (.tup ds) A) Q) : ∀ p, H p = none → Q (.ref p) (upd H p (.tup xs)) := fun p hp => by
  have e : Ext K ρ H ρ (upd H p (.tup xs)) := Ext.new0 hp
  exact h ρ _ (.ref p) e (R.new0 hp) ⟨p, xs, rfl, .inl (.inl upd_same), r.ext e⟩
theorem new_dic {kvs : List (Key × D)} {us : List (Key × V)} (R : Rel K ρ H A) (r : RpK K ρ H kvs us) (h : OutE K E ρ H (alloc (.dic kvs) A) Q) : ∀ p, H p = none → Q (.ref p) (upd H p (.dK us)) := fun p hp => by
  have e : Ext K ρ H (ρ ++ [p]) (upd H p (.dK us)) := Ext.new hp [p]
  exact h (ρ ++ [p]) _ (.ref p) e (R.new hp ⟨us, upd_same, r.ext e⟩) ⟨p, by rw [← R.len]; simp, rfl⟩
end
def addD : D → D → AH → Res D
  | .int i, .int j, A => .ok (.int (i + j)) A
  | .str x, .str y, A => if x.length + y.length ≤ sizeLine then .ok (.str (x ++ y)) A else .bad
  | .tup xs, .tup ys, A => if xs.length + ys.length ≤ sizeLine then .ok (.tup (xs ++ ys)) A else .bad
  | .ref i, .ref j, A => match muL A (.ref i), muL A (.ref j) with
    | some xs, some ys => if xs.length + ys.length ≤ sizeLine then alloc (.lst (xs ++ ys)) A else .bad
    | _, _ => .bad
  | _, _, _ => .bad
def subD : D → D → AH → Res D
  | .int i, .int j, A => .ok (.int (i - j)) A
  | _, _, _ => .bad
def mulOk (i j : Int) : Prop := CMul i j ∨ CMulW i j
noncomputable def mulD : D → D → AH → Res D
  | .int i, .int j, A => if mulOk i j then .ok (.int (i * j)) A else .bad
  | .ref i, .int k, A => match muL A (.ref i) with
    | some xs => if -(2 ^ 63) ≤ k ∧ k < 2 ^ 63 ∧ xs.length * k.toNat ≤ sizeLine then alloc (.lst (List.replicate k.toNat xs).flatten) A else .bad
    | _ => .bad
  | _, _, _ => .bad
noncomputable def fdivD : D → D → AH → Res D
  | .int i, .int j, A => if CDivW i j then .ok (.int (i / j)) A else .bad
  | _, _, _ => .bad
def modD : D → D → AH → Res D
  | .int i, .int j, A => if 0 < j then .ok (.int (i % j)) A else .bad
  | _, _, _ => .bad
noncomputable def powD : D → D → AH → Res D
  | .int i, .int j, A => if CPow i j then .ok (.int (i ^ j.toNat)) A else .bad
  | _, _, _ => .bad
def negD : D → AH → Res D
  | .int i, A => .ok (.int (-i)) A
  | _, _ => .bad
section
variable {X : Cx} {E : XK}
theorem aop_add : AOp X E (binaryOp .Add) addD := op_mono ((op_add.or op_add_str).or (op_catA.or op_cat)) fun x y H Q h => by
  obtain ⟨ρ, A, d, e, R, r1, r2, h⟩ := h
  unfold addD at h
  split at h
  · cases r1; cases r2
    exact .inl (.inl ⟨_, _, rfl, rfl, h.now R rfl⟩)
  · split at h
    · rename_i z
      cases r1; cases r2
      exact .inl (.inr ⟨_, _, rfl, rfl, z, h.now R rfl⟩)
    · exact h.elim
  · split at h
    · rename_i xs ys z
      obtain ⟨a, us, rfl, q1, q2⟩ := r1
      obtain ⟨b, ws, rfl, q3, q4⟩ := r2
      refine .inr (.inl ⟨a, b, us, ws, rfl, rfl, q1, q3, by rw [q2.length, q4.length]; exact z, ?_, ?_, ?_⟩)
      · rintro rfl
        rw [q2.isNil, List.nil_append] at h
        exact h.now R ⟨b, ws, rfl, q3, q4⟩
      · rintro _ rfl
        rw [q4.isNil, List.append_nil] at h
        exact h.now R ⟨a, us, rfl, q1, q2⟩
      · intro _ _
        exact new_tup R (q2.append q4) h
    · exact h.elim
  · split at h
    · rename_i xs ys m1 m2
      split at h
      · rename_i z
        obtain ⟨_, a, us, _, rfl, _, _, q1, q2⟩ := muL_ok R r1 m1
        obtain ⟨_, b, ws, _, rfl, _, _, q3, q4⟩ := muL_ok R r2 m2
        refine .inr (.inr ⟨a, b, us, ws, rfl, rfl, q1, q3, by rw [q2.length, q4.length]; exact z, new_lst R (q2.append q4) h⟩)
      · exact h.elim
    · exact h.elim
  · exact h.elim
theorem aop_sub : AOp X E (binaryOp .Sub) subD := op_mono op_sub fun x y H Q h => by
  obtain ⟨ρ, A, d, e, R, r1, r2, h⟩ := h
  unfold subD at h
  split at h
  · cases r1; cases r2
    exact ⟨_, _, rfl, rfl, h.now R rfl⟩
  · exact h.elim
theorem aop_mul : AOp X E (binaryOp .Mult) mulD := op_mono ((op_mul.or op_mulW).or op_rep) fun x y H Q h => by
  obtain ⟨ρ, A, d, e, R, r1, r2, h⟩ := h
  unfold mulD at h
  split at h
  · split at h
    · rename_i z
      cases r1; cases r2
      rcases z with z | z
      · exact .inl (.inl ⟨_, _, rfl, rfl, z, h.now R rfl⟩)
      · exact .inl (.inr ⟨_, _, rfl, rfl, z, h.now R rfl⟩)
    · exact h.elim
  · split at h
    · rename_i xs m1
      split at h
      · rename_i z
        obtain ⟨_, a, us, _, rfl, _, _, q1, q2⟩ := muL_ok R r1 m1
        cases r2
        refine .inr ⟨a, _, us, rfl, rfl, q1, z.1, z.2.1, by rw [q2.length]; exact z.2.2, new_lst R (q2.rep _) h⟩
      · exact h.elim
    · exact h.elim
  · exact h.elim
theorem aop_fdiv : AOp X E (binaryOp .FloorDiv) fdivD := op_mono op_fdivW fun x y H Q h => by
  obtain ⟨ρ, A, d, e, R, r1, r2, h⟩ := h
  unfold fdivD at h
  split at h
  · split at h
    · rename_i z
      cases r1; cases r2
      exact ⟨_, _, rfl, rfl, z, h.now R rfl⟩
    · exact h.elim
  · exact h.elim
theorem aop_mod : AOp X E (binaryOp .Mod) modD := op_mono op_mod fun x y H Q h => by
  obtain ⟨ρ, A, d, e, R, r1, r2, h⟩ := h
  unfold modD at h
  split at h
  · split at h
    · rename_i z
      cases r1; cases r2
      exact ⟨_, _, rfl, rfl, z, h.now R rfl⟩
    · exact h.elim
  · exact h.elim
theorem aop_pow : AOp X E (binaryOp .Pow) powD := op_mono op_pow fun x y H Q h => by
  obtain ⟨ρ, A, d, e, R, r1, r2, h⟩ := h
  unfold powD at h
  split at h
  · split at h
    · rename_i z
      cases r1; cases r2
      exact ⟨_, _, rfl, rfl, z, h.now R rfl⟩
    · exact h.elim
  · exact h.elim
theorem aun_neg : UnR X (unaryOp .USub) (rU1 X.K E negD) := fun pins s σ H x v Q I rx h => by
  obtain ⟨ρ, A, d, R, r1, h⟩ := h
  unfold negD at h
  split at h
  · cases r1
    exact un_neg pins s σ H _ v Q I rx ⟨_, rfl, h.now R rfl⟩
  · exact h.elim
end
end Ab

namespace Ab
open PySem PySem.Spec PyProof.Rows L2
open scoped Classical

/-! ## data without cells, as PyData -/
mutual
def pd : D → Option PyData
  | .non => some .none
  | .bl b => some (.bool b)
  | .int i => some (.int i)
  | .str x => some (.str x)
  | .tup ds => match pdL ds with
    | some ps => some (.tuple ps)
    | none => none
  | .ref _ => none
def pdL : List D → Option (List PyData)
  | [] => some []
  | d :: ds => match pd d, pdL ds with
    | some p, some ps => some (p :: ps)
    | _, _ => none
end
def pd1 (A : AH) : D → Option PyData
  | .ref i => match rdL A (.ref i) with
    | some xs => match pdL xs with
      | some ps => some (.list ps)
      | none => none
    | none => none
  | d => pd d
section
variable {K : PySem.W.Frag} {ρ : List Addr} {H : Hp} {A : AH}
mutual
theorem pd_ok : ∀ (d : D) (v : V) (p : PyData), Rp K ρ H d v → pd d = some p → Dp K H v p
  | .non, v, p, r, h => by cases r; cases h; exact .non
  | .bl b, v, p, r, h => by cases r; cases h; exact .bl b
  | .int i, v, p, r, h => by cases r; cases h; exact .int i
  | .str x, v, p, r, h => by cases r; cases h; exact .str x
  | .ref i, v, p, r, h => by cases h
  | .tup ds, v, p, r, h => by
    obtain ⟨a, xs, rfl, h2, h3⟩ := r
    unfold pd at h
    split at h
    · rename_i ps e
      cases h
      exact .tup h2 (pdL_ok ds xs ps h3 e)
    · cases h
theorem pdL_ok : ∀ (ds : List D) (xs : List V) (ps : List PyData), RpL K ρ H ds xs → pdL ds = some ps → DpAll K H xs ps
  | [], xs, ps, r, h => by cases r; cases h; exact .nil
  | d :: ds, xs, ps, r, h => by
    obtain ⟨x, r', rfl, h2, h3⟩ := r
    unfold pdL at h
    split at h
    · rename_i p ps' e1 e2
      cases h
      exact .cons (pd_ok d x p h2 e1) (pdL_ok ds r' ps' h3 e2)
    · cases h
end
theorem pd1_ok (R : Rel K ρ H A) {d : D} {v : V} {p : PyData} (r : Rp K ρ H d v) (h : pd1 A d = some p) : Dp K H v p := by
  cases d with
  | ref i =>
    unfold pd1 at h
    simp only at h
    split at h
    · rename_i xs e
      split at h
      · rename_i ps e2
        cases h
        obtain ⟨a, us, rfl, q1, q2⟩ := rdL_ok R r e
        exact .lst q1 (pdL_ok xs us ps q2 e2)
      · cases h
    · cases h
  | _ => exact pd_ok _ _ _ r h
end
/-- == of plain things -/
def scalD : D → D → Option Bool
  | .int i, .int j => some (decide (i = j))
  | .str x, .str y => some (decide (x = y))
  | .bl a, .bl b => some (decide (a = b))
  | .non, .non => some true
  | .non, .int _ => some false
  | .int _, .non => some false
  | .non, .bl _ => some false
  | .bl _, .non => some false
  | .non, .str _ => some false
  | .str _, .non => some false
  | .int _, .str _ => some false
  | .str _, .int _ => some false
  | .bl _, .str _ => some false
  | .str _, .bl _ => some false
  | _, _ => none
def eqB (d e : D) (A : AH) : Option Bool := match scalD d e with
  | some b => some b
  | none => match pd1 A d, pd1 A e with
    | some p, some q => if (SeqAt.shaped p && SeqAt.shaped q) = true then some (PyData.eqv p q) else none
    | _, _ => none
def okB (o : Option Bool) (A : AH) : Res D := match o with
  | some b => .ok (.bl b) A
  | none => .bad
def eqD (d e : D) (A : AH) : Res D := okB (eqB d e A) A
def neD (d e : D) (A : AH) : Res D := okB ((eqB d e A).map (!·)) A
section
variable {X : Cx} {E : XK} {K : PySem.W.Frag} {ρ : List Addr} {H : Hp} {A : AH}
theorem scal_ok {d e : D} {x y : V} {b : Bool} (r1 : Rp K ρ H d x) (r2 : Rp K ρ H e y) (h : scalD d e = some b) : scal x y = true ∧ decide (x = y) = b := by
  cases d <;> cases e <;> first | (cases h; done) | (cases r1; cases r2; cases h; first | exact ⟨rfl, rfl⟩ | exact ⟨rfl, by simp⟩)
theorem aop_eq (hu : X.A.units + 64 < cLine) : AOp X E (compareOp .Eq) eqD := op_mono (op_eq.or (op_eqD hu)) fun x y H Q h => by
  obtain ⟨ρ, A, d, e, R, r1, r2, h⟩ := h
  unfold eqD eqB at h
  split at h
  · rename_i b e1
    obtain ⟨s1, s2⟩ := scal_ok r1 r2 e1
    exact .inl ⟨s1, by rw [s2]; exact h.now R rfl⟩
  · split at h
    · rename_i p q e1 e2
      split at h
      · rename_i z
        rw [Bool.and_eq_true] at z
        exact .inr ⟨p, q, pd1_ok R r1 e1, pd1_ok R r2 e2, z.1, z.2, h.now R rfl⟩
      · exact h.elim
    · exact h.elim
theorem aop_ne (hu : X.A.units + 64 < cLine) : AOp X E (compareOp .NotEq) neD := op_mono (op_ne.or (op_neD hu)) fun x y H Q h => by
  obtain ⟨ρ, A, d, e, R, r1, r2, h⟩ := h
  unfold neD eqB at h
  split at h
  · rename_i b e1
    obtain ⟨s1, s2⟩ := scal_ok r1 r2 e1
    exact .inl ⟨s1, by rw [s2]; exact h.now R rfl⟩
  · split at h
    · rename_i p q e1 e2
      split at h
      · rename_i z
        rw [Bool.and_eq_true] at z
        exact .inr ⟨p, q, pd1_ok R r1 e1, pd1_ok R r2 e2, z.1, z.2, h.now R rfl⟩
      · exact h.elim
    · exact h.elim
end
/-! ## is, order -/
def isNon : D → Bool
  | .non => true
  | _ => false
def isD : D → D → AH → Res D
  | d, .non, A => .ok (.bl (isNon d)) A
  | .bl a, .bl b, A => .ok (.bl (decide (a = b))) A
  | _, _, _ => .bad
def isntD : D → D → AH → Res D
  | d, .non, A => .ok (.bl (!isNon d)) A
  | .bl a, .bl b, A => .ok (.bl (!decide (a = b))) A
  | _, _, _ => .bad
def ltD : D → D → AH → Res D
  | .int i, .int j, A => .ok (.bl (decide (i < j))) A
  | .str i, .str j, A => .ok (.bl (decide (i.cps.toList < j.cps.toList))) A
  | _, _, _ => .bad
def leD : D → D → AH → Res D
  | .int i, .int j, A => .ok (.bl (decide (i ≤ j))) A
  | .str i, .str j, A => .ok (.bl (!decide (j.cps.toList < i.cps.toList))) A
  | _, _, _ => .bad
def gtD : D → D → AH → Res D
  | .int i, .int j, A => .ok (.bl (decide (j < i))) A
  | .str i, .str j, A => .ok (.bl (decide (j.cps.toList < i.cps.toList))) A
  | _, _, _ => .bad
def geD : D → D → AH → Res D
  | .int i, .int j, A => .ok (.bl (decide (j ≤ i))) A
  | .str i, .str j, A => .ok (.bl (!decide (i.cps.toList < j.cps.toList))) A
  | _, _, _ => .bad
section
variable {X : Cx} {E : XK} {K : PySem.W.Frag} {ρ : List Addr} {H : Hp} {A : AH}
theorem isNon_ok {d : D} {x : V} (r : Rp K ρ H d x) : decide (x = .non) = isNon d := by
  cases d with
  | non => cases r; rfl
  | bl _ => cases r; rfl
  | int _ => cases r; rfl
  | str _ => cases r; rfl
  | tup _ => obtain ⟨a, xs, rfl, _⟩ := r; rfl
  | ref _ => obtain ⟨a, _, rfl⟩ := r; rfl
theorem aop_is : AOp X E (compareOp .Is) isD := op_mono (op_isN.or op_isBl) fun x y H Q h => by
  obtain ⟨ρ, A, d, e, R, r1, r2, h⟩ := h
  unfold isD at h
  split at h
  · cases r2
    exact .inl ⟨rfl, by rw [isNon_ok r1]; exact h.now R rfl⟩
  · cases r1; cases r2
    exact .inr ⟨_, _, rfl, rfl, h.now R rfl⟩
  · exact h.elim
theorem aop_isnt : AOp X E (compareOp .IsNot) isntD := op_mono (op_notN.or op_notBl) fun x y H Q h => by
  obtain ⟨ρ, A, d, e, R, r1, r2, h⟩ := h
  unfold isntD at h
  split at h
  · cases r2
    exact .inl ⟨rfl, by rw [isNon_ok r1]; exact h.now R rfl⟩
  · cases r1; cases r2
    exact .inr ⟨_, _, rfl, rfl, h.now R rfl⟩
  · exact h.elim
theorem aop_lt : AOp X E (compareOp .Lt) ltD := op_mono (op_lt.or op_lt_str) fun x y H Q h => by
  obtain ⟨ρ, A, d, e, R, r1, r2, h⟩ := h
  unfold ltD at h
  split at h
  · cases r1; cases r2; exact .inl ⟨_, _, rfl, rfl, h.now R rfl⟩
  · cases r1; cases r2; exact .inr ⟨_, _, rfl, rfl, h.now R rfl⟩
  · exact h.elim
theorem aop_le : AOp X E (compareOp .LtE) leD := op_mono (op_le.or op_le_str) fun x y H Q h => by
  obtain ⟨ρ, A, d, e, R, r1, r2, h⟩ := h
  unfold leD at h
  split at h
  · cases r1; cases r2; exact .inl ⟨_, _, rfl, rfl, h.now R rfl⟩
  · cases r1; cases r2; exact .inr ⟨_, _, rfl, rfl, h.now R rfl⟩
  · exact h.elim
theorem aop_gt : AOp X E (compareOp .Gt) gtD := op_mono (op_gt.or op_gt_str) fun x y H Q h => by
  obtain ⟨ρ, A, d, e, R, r1, r2, h⟩ := h
  unfold gtD at h
  split at h
  · cases r1; cases r2; exact .inl ⟨_, _, rfl, rfl, h.now R rfl⟩
  · cases r1; cases r2; exact .inr ⟨_, _, rfl, rfl, h.now R rfl⟩
  · exact h.elim
theorem aop_ge : AOp X E (compareOp .GtE) geD := op_mono (op_ge.or op_ge_str) fun x y H Q h => by
  obtain ⟨ρ, A, d, e, R, r1, r2, h⟩ := h
  unfold geD at h
  split at h
  · cases r1; cases r2; exact .inl ⟨_, _, rfl, rfl, h.now R rfl⟩
  · cases r1; cases r2; exact .inr ⟨_, _, rfl, rfl, h.now R rfl⟩
  · exact h.elim
end
/-! ## chains -/
def fChain (g g' : D → D → AH → Res D) (f1 f2 f3 : FE) : FE := fun s A => (f1 s A).bind fun x A1 => (f2 s A1).bind fun y A2 => (g x y A2).bind fun z A3 => match z with
  | .bl true => (f3 s A3).bind fun w A4 => g' y w A4
  | .bl false => .ok (.bl false) A3
  | _ => .bad
section
variable {X : Cx} {E : XK} {a b c : Expr} {f1 f2 f3 : FE} {pos : Pos} {g g' : D → D → AH → Res D}
theorem chain_ {K : PySem.W.Frag} {σ : L2.St} {H : Hp} {Q : VK} (h : tA K E (fChain g g' f1 f2 f3) σ H Q) : tChain (rA K E g) (rA K E g') (tA K E f1) (tA K E f2) (tA K E f3) σ H Q := by
  obtain ⟨ρ, s, A, hs, R, h⟩ := h
  refine ⟨ρ, s, A, hs, R, (Out.bind h).mono fun x H1 ⟨ρ1, d, A1, _, e1, R1, r1, h1⟩ => ⟨ρ1, s, A1, hs.ext e1, R1, (Out.bind h1).mono fun y H2 ⟨ρ2, d2, A2, _, e2, R2, r2, h2⟩ => ⟨ρ2, A2, d, d2, R2, r1.ext e2, r2, ?_⟩⟩⟩
  refine (Out.bind h2).mono fun z H3 ⟨ρ3, d3, A3, _, e3, R3, r3, h3⟩ => ?_
  split at h3
  · cases r3
    refine ⟨true, rfl, ?_⟩
    rw [if_pos rfl]
    exact ⟨ρ3, s, A3, hs.ext (e1.trans (e2.trans e3)), R3, (Out.bind h3).mono fun w H4 ⟨ρ4, d4, A4, _, e4, R4, r4, h4⟩ => ⟨ρ4, A4, d2, d4, R4, r2.ext (e3.trans e4), r4, h4⟩⟩
  · cases r3
    refine ⟨false, rfl, ?_⟩
    rw [if_neg Bool.false_ne_true]
    exact h3.now R3 rfl
  · exact h3.elim
theorem ae_chain {op op' : CmpOp} (ho : AOp X E (compareOp op) g) (ho' : AOp X E (compareOp op') g') (ha : AE X E a f1) (hb : AE X E b f2) (hc : AE X E c f3) (hm : lastMarks [op, op'] [b, c] = false := by with_unfolding_all rfl) :
    AE X E (.Compare a [op, op'] [b, c] pos) (fChain g g' f1 f2 f3) := pe_mono (pe_chain ho ho' ha hb hc hm) fun _ _ _ => chain_
end
/-! ## truth, tests -/
def truD (A : AH) : D → Option Bool
  | .non => some false
  | .bl b => some b
  | .int i => some (i != 0)
  | .str x => if x.length ≤ sizeLine then some ((x.length : Int) != 0) else none
  | .tup ds => some (!ds.isEmpty)
  | .ref i => match A[i]? with
    | some (.lst xs) => some (!xs.isEmpty)
    | some (.frz xs) => some (!xs.isEmpty)
    | some (.dic xs) => some (!xs.isEmpty)
    | _ => none
theorem empty_of {α β : Type} {xs : List α} {ys : List β} (h : xs.length = ys.length) : xs.isEmpty = ys.isEmpty := by cases xs <;> cases ys <;> first | rfl | simp at h
theorem RpK.length {κ : Type} {K : PySem.W.Frag} {ρ : List Addr} {H : Hp} : ∀ {ps : List (κ × D)} {us : List (κ × V)}, RpK K ρ H ps us → us.length = ps.length
  | [], us, h => by rw [show us = [] from h]; rfl
  | p :: ps, us, h => by
    obtain ⟨x, r, rfl, h2, h3⟩ := h
    simp [RpK.length h3]
theorem tru_of {K : PySem.W.Frag} {ρ : List Addr} {H : Hp} {A : AH} {d : D} {x : V} {k : Bool} (R : Rel K ρ H A) (r : Rp K ρ H d x) (h : truD A d = some k) : TruV K x H k := by
  cases d with
  | non => cases r; cases h; rfl
  | bl _ => cases r; cases h; rfl
  | int _ => cases r; cases h; rfl
  | str y =>
    cases r
    simp only [truD] at h
    by_cases z : y.length ≤ sizeLine
    · rw [if_pos z] at h; cases h; exact ⟨z, rfl⟩
    · rw [if_neg z] at h; cases h
  | tup ds =>
    obtain ⟨a, xs, rfl, h2, h3⟩ := r
    cases h
    exact .inr (.inl ⟨xs, h2, by rw [empty_of h3.length]⟩)
  | ref i =>
    obtain ⟨a, h1, rfl⟩ := r
    obtain ⟨o, h2, h3⟩ := R.has h1
    unfold truD at h
    simp only [h2] at h
    cases o with
    | lst xs => cases h; obtain ⟨us, e1, e2⟩ := h3; exact .inl ⟨us, .inl (.inl e1), by rw [empty_of e2.length]⟩
    | frz xs => cases h; obtain ⟨us, e1, e2⟩ := h3; exact .inl ⟨us, e1.sq, by rw [empty_of e2.length]⟩
    | dic xs => cases h; obtain ⟨us, e1, e2⟩ := h3; exact .inr (.inr ⟨us, e1, by rw [empty_of e2.length]⟩)
    | ftp _ => cases h
    | fdk _ => cases h
    | ins _ _ => cases h
def tru (d : D) (A : AH) : Res Bool := match truD A d with
  | some b => .ok b A
  | none => .bad
def fT (f : FE) : FT := fun s A => (f s A).bind tru
def fTB (f : FE) : FT := fun s A => (f s A).bind fun d A1 => match d with
  | .bl b => .ok b A1
  | _ => .bad
def fTNot (f : FT) : FT := fun s A => (f s A).bind fun b A1 => .ok (!b) A1
def fTAnd (f g : FT) : FT := fun s A => (f s A).bind fun b A1 => if b = true then g s A1 else .ok false A1
def fTOr (f g : FT) : FT := fun s A => (f s A).bind fun b A1 => if b = true then .ok true A1 else g s A1
def fNot (f : FE) : FE := fun s A => (f s A).bind fun d A1 => (tru d A1).bind fun b A2 => .ok (.bl (!b)) A2
def fAnd (f g : FE) : FE := fun s A => (f s A).bind fun d A1 => (tru d A1).bind fun b A2 => if b = true then g s A2 else .ok d A2
def fOr (f g : FE) : FE := fun s A => (f s A).bind fun d A1 => (tru d A1).bind fun b A2 => if b = true then .ok d A2 else g s A2
def fIf (c : FT) (f g : FE) : FE := fun s A => (c s A).bind fun b A1 => if b = true then f s A1 else g s A1
section
variable {X : Cx} {E : XK} {a b c : Expr} {f g h : FE} {t u : FT} {pos : Pos} {rest : List Expr}
theorem tru_run {K : PySem.W.Frag} {α β : Type} {R1 : List Addr → Hp → α → β → Prop} {ρ : List Addr} {H : Hp} {A : AH} {d : D} {x : V} {k : Bool → AH → Res α} {Q : β → Hp → Prop} (R : Rel K ρ H A) (r : Rp K ρ H d x)
    (h : Out K E R1 ρ H ((tru d A).bind k) Q) : ∃ b, TruV K x H b ∧ Out K E R1 ρ H (k b A) Q := by
  unfold tru at h
  split at h
  · rename_i b e
    exact ⟨b, tru_of R r e, h⟩
  · exact h.elim
theorem at_e (ha : AE X E a f) (he : ∀ whole, isTrue a X.env whole = (do let v ← whole; standAt a.pos; holding [v] (truthy v)) := by intro _; rfl) : AT X E a (fT f) := pt_mono (pt_truth ha he) fun σ H Q hh => by
  obtain ⟨ρ, s, A, hs, R, hh⟩ := hh
  refine ⟨ρ, s, A, hs, R, (Out.bind hh).mono fun x H1 ⟨ρ1, d, A1, _, e1, R1, r1, h1⟩ => ?_⟩
  unfold tru at h1
  split at h1
  · rename_i b e
    exact ⟨b, tru_of R1 r1 e, h1.now R1 rfl⟩
  · exact h1.elim
theorem tb_ {K : PySem.W.Frag} {σ : L2.St} {H : Hp} {Q : Bool → Hp → Prop} {t : TE} {f : FE} (m : ∀ R : VK, tA K E f σ H R → t σ H R) (hh : tAT K E (fTB f) σ H Q) : tTest t σ H Q := by
  refine m _ ?_
  obtain ⟨ρ, s, A, hs, R, hh⟩ := hh
  refine ⟨ρ, s, A, hs, R, (Out.bind hh).mono fun x H1 ⟨ρ1, d, A1, _, e1, R1, r1, h1⟩ => ?_⟩
  split at h1
  · cases r1
    exact ⟨_, rfl, h1.now R1 rfl⟩
  · exact h1.elim
/-- a comparison, as a test -/
theorem at_cmp {op : CmpOp} {go : D → D → AH → Res D} (ho : AOp X E (compareOp op) go) (ha : AE X E a f) (hb : AE X E b g) (hm : behindInMarks op b = false := by first | exact nomark _ | with_unfolding_all rfl) : AT X E (.Compare a [op] [b] pos) (fTB (fOp go f g)) := pt_mono (pt_cmpR ho ha hb hm) fun σ H Q h => tb_ (fun _ => two_) h
theorem at_chain {c : Expr} {op op' : CmpOp} {go go' : D → D → AH → Res D} (ho : AOp X E (compareOp op) go) (ho' : AOp X E (compareOp op') go') (ha : AE X E a f) (hb : AE X E b g) (hc : AE X E c h) (hm : lastMarks [op, op'] [b, c] = false := by with_unfolding_all rfl) :
    AT X E (.Compare a [op, op'] [b, c] pos) (fTB (fChain go go' f g h)) := pt_mono (pt_chain ho ho' ha hb hc hm) fun σ H Q hh => tb_ (fun _ => chain_) hh
theorem at_not (ha : AT X E a t) : AT X E (.UnaryOp .Not a pos) (fTNot t) := pt_mono (pt_not ha) fun σ H Q hh => by
  obtain ⟨ρ, s, A, hs, R, hh⟩ := hh
  refine ⟨ρ, s, A, hs, R, (Out.bind hh).mono fun x H1 ⟨ρ1, d, A1, _, e1, R1, r1, h1⟩ => ?_⟩
  cases r1
  exact h1.now R1 rfl
abbrev AW (X : Cx) (E : XK) (e : Expr) (f : FT) : Prop := PW X e (tAT X.K E f)
theorem aw_and1 (ha : AT X E a t) : AW X E (.BoolOp .And [a] pos) t := pw_and1 ha
theorem aw_or1 (ha : AT X E a t) : AW X E (.BoolOp .Or [a] pos) t := pw_or1 ha
theorem aw_and (ha : AT X E a t) (hb : AW X E (.BoolOp .And (b :: rest) pos) u) : AW X E (.BoolOp .And (a :: b :: rest) pos) (fTAnd t u) := pw_mono (pw_and ha hb) fun σ H Q hh => by
  obtain ⟨ρ, s, A, hs, R, hh⟩ := hh
  refine ⟨ρ, s, A, hs, R, (Out.bind hh).mono fun x H1 ⟨ρ1, d, A1, _, e1, R1, r1, h1⟩ => ?_⟩
  cases r1
  cases x with
  | true => exact ⟨ρ1, s, A1, hs.ext e1, R1, h1⟩
  | false => exact h1.now R1 rfl
theorem aw_or (ha : AT X E a t) (hb : AW X E (.BoolOp .Or (b :: rest) pos) u) : AW X E (.BoolOp .Or (a :: b :: rest) pos) (fTOr t u) := pw_mono (pw_or ha hb) fun σ H Q hh => by
  obtain ⟨ρ, s, A, hs, R, hh⟩ := hh
  refine ⟨ρ, s, A, hs, R, (Out.bind hh).mono fun x H1 ⟨ρ1, d, A1, _, e1, R1, r1, h1⟩ => ?_⟩
  cases r1
  cases x with
  | true => exact h1.now R1 rfl
  | false => exact ⟨ρ1, s, A1, hs.ext e1, R1, h1⟩
theorem ae_one {op} (h : AE X E a f) : AE X E (.BoolOp op [a] pos) f := pe_one h
theorem ae_and (ha : AE X E a f) (hb : AE X E (.BoolOp .And (b :: rest) pos) g) : AE X E (.BoolOp .And (a :: b :: rest) pos) (fAnd f g) := pe_mono (pe_andT ha hb) fun σ H Q hh => by
  obtain ⟨ρ, s, A, hs, R, hh⟩ := hh
  refine ⟨ρ, s, A, hs, R, (Out.bind hh).mono fun x H1 ⟨ρ1, d, A1, _, e1, R1, r1, h1⟩ => ?_⟩
  obtain ⟨k, tk, h2⟩ := tru_run R1 r1 h1
  refine ⟨k, tk, ?_⟩
  cases k with
  | true => exact ⟨ρ1, s, A1, hs.ext e1, R1, h2⟩
  | false => exact h2.now R1 r1
theorem ae_or (ha : AE X E a f) (hb : AE X E (.BoolOp .Or (b :: rest) pos) g) : AE X E (.BoolOp .Or (a :: b :: rest) pos) (fOr f g) := pe_mono (pe_orT ha hb) fun σ H Q hh => by
  obtain ⟨ρ, s, A, hs, R, hh⟩ := hh
  refine ⟨ρ, s, A, hs, R, (Out.bind hh).mono fun x H1 ⟨ρ1, d, A1, _, e1, R1, r1, h1⟩ => ?_⟩
  obtain ⟨k, tk, h2⟩ := tru_run R1 r1 h1
  refine ⟨k, tk, ?_⟩
  cases k with
  | true => exact h2.now R1 r1
  | false => exact ⟨ρ1, s, A1, hs.ext e1, R1, h2⟩
theorem ae_not (ha : AE X E a f) : AE X E (.UnaryOp .Not a pos) (fNot f) := pe_mono (pe_notT ha) fun σ H Q hh => by
  obtain ⟨ρ, s, A, hs, R, hh⟩ := hh
  refine ⟨ρ, s, A, hs, R, (Out.bind hh).mono fun x H1 ⟨ρ1, d, A1, _, e1, R1, r1, h1⟩ => ?_⟩
  obtain ⟨k, tk, h2⟩ := tru_run R1 r1 h1
  exact ⟨k, tk, h2.now R1 rfl⟩
theorem ae_if (hc : AT X E c t) (ha : AE X E a f) (hb : AE X E b g) : AE X E (.IfExp c a b pos) (fIf t f g) := pe_mono (pe_ifExp hc ha hb) fun σ H Q hh => by
  obtain ⟨ρ, s, A, hs, R, hh⟩ := hh
  refine ⟨ρ, s, A, hs, R, (Out.bind hh).mono fun x H1 ⟨ρ1, d, A1, _, e1, R1, r1, h1⟩ => ?_⟩
  cases r1
  cases x with
  | true => exact ⟨ρ1, s, A1, hs.ext e1, R1, h1⟩
  | false => exact ⟨ρ1, s, A1, hs.ext e1, R1, h1⟩
end
/-! ## arguments, displays -/
def fNil : FA := fun _ A => .ok [] A
def fCons (f : FE) (fs : FA) : FA := fun s A => (f s A).bind fun x A1 => (fs s A1).bind fun xs A2 => .ok (x :: xs) A2
def tupD (xs : List D) (A : AH) : Res D := if xs.length ≤ sizeLine then .ok (.tup xs) A else .bad
def lstD (xs : List D) (A : AH) : Res D := if xs.length ≤ sizeLine then alloc (.lst xs) A else .bad
def fTup (fs : FA) : FE := fun s A => (fs s A).bind tupD
def fLst (fs : FA) : FE := fun s A => (fs s A).bind lstD
section
variable {X : Cx} {E : XK} {e : Expr} {es : List Expr} {f : FE} {fs : FA} {pos : Pos}
theorem aa_nil : AA X E [] fNil := pa_mono pa_nil fun σ H Q hh => by
  obtain ⟨ρ, s, A, hs, R, hh⟩ := hh
  exact Out.now hh R rfl
theorem aa_cons (ha : AE X E e f) (hr : AA X E es fs) (hs : starEach (e :: es) X.env = (false, eval e X.env) :: starEach es X.env := by rfl) : AA X E (e :: es) (fCons f fs) := pa_mono (pa_cons ha hr hs) fun σ H Q hh => by
  obtain ⟨ρ, s, A, hs, R, hh⟩ := hh
  refine ⟨ρ, s, A, hs, R, (Out.bind hh).mono fun x H1 ⟨ρ1, d, A1, _, e1, R1, r1, h1⟩ => ⟨ρ1, s, A1, hs.ext e1, R1, (Out.bind h1).mono fun xs H2 ⟨ρ2, ds, A2, _, e2, R2, r2, h2⟩ => ?_⟩⟩
  exact Out.now h2 R2 ⟨x, xs, rfl, r1.ext e2, r2⟩
theorem ae_tup {x1} (h : AA X E es fs) : AE X E (.Tuple es x1 pos) (fTup fs) := pe_mono (pe_tup h) fun σ H Q hh => by
  obtain ⟨ρ, s, A, hs, R, hh⟩ := hh
  refine ⟨ρ, s, A, hs, R, (Out.bind hh).mono fun x H1 ⟨ρ1, d, A1, _, e1, R1, r1, h1⟩ => ?_⟩
  unfold tupD at h1
  split at h1
  · rename_i z
    exact ⟨by rw [r1.length]; exact z, new_tup R1 r1 h1⟩
  · exact h1.elim
theorem ae_lst (h : AA X E es fs) : AE X E (.List es pos) (fLst fs) := pe_mono (pe_lst h) fun σ H Q hh => by
  obtain ⟨ρ, s, A, hs, R, hh⟩ := hh
  refine ⟨ρ, s, A, hs, R, (Out.bind hh).mono fun x H1 ⟨ρ1, d, A1, _, e1, R1, r1, h1⟩ => ?_⟩
  unfold lstD at h1
  split at h1
  · rename_i z
    exact ⟨by rw [r1.length]; exact z, new_lst R1 r1 h1⟩
  · exact h1.elim
end
end Ab

namespace Ab
open PySem PySem.Spec PyProof.Rows L2
open scoped Classical

/-! ## dicts as lists of pairs -/
def getK {κ : Type} [DecidableEq κ] (kvs : List (κ × D)) (k : κ) : Option D := (kvs.find? fun kv => decide (kv.1 = k)).map (·.2)
def setK {κ : Type} [DecidableEq κ] (kvs : List (κ × D)) (k : κ) (v : D) : List (κ × D) :=
  if (kvs.any fun kv => decide (kv.1 = k)) = true then kvs.map (fun kv => if kv.1 = k then (kv.1, v) else kv) else kvs ++ [(k, v)]
def keyOf : D → Option Key
  | .int i => some (.inl i)
  | .str x => some (.inr x)
  | _ => none
section
variable {κ : Type} [DecidableEq κ] {K : PySem.W.Frag} {ρ : List Addr} {H : Hp} {A : AH}
theorem keyOf_ok {d : D} {v : V} {k : Key} (r : Rp K ρ H d v) (h : keyOf d = some k) : v = kV k := by
  cases d <;> first | (cases h; done) | (cases h; cases r; rfl)
theorem getK_ok {k : κ} : ∀ {kvs : List (κ × D)} {us : List (κ × V)}, RpK K ρ H kvs us → match getK kvs k with
    | some d => ∃ v, valV us k = some v ∧ Rp K ρ H d v
    | none => valV us k = none
  | [], us, h => by rw [show us = [] from h]; rfl
  | p :: ps, us, h => by
    obtain ⟨v, r, rfl, h2, h3⟩ := h
    have ih := getK_ok (k := k) h3
    by_cases e : p.1 = k
    · simp only [getK, List.find?_cons, e, decide_true, Option.map_some]
      exact ⟨v, by simp [valV, List.find?_cons, e], h2⟩
    · have e1 : getK (p :: ps) k = getK ps k := by simp [getK, List.find?_cons, e]
      have e2 : valV ((p.1, v) :: r) k = valV r k := by simp [valV, List.find?_cons, e]
      rw [e1, e2]
      exact ih
theorem any_ok {k : κ} : ∀ {kvs : List (κ × D)} {us : List (κ × V)}, RpK K ρ H kvs us → (kvs.any fun kv => decide (kv.1 = k)) = us.any fun kv => decide (kv.1 = k)
  | [], us, h => by rw [show us = [] from h]; rfl
  | p :: ps, us, h => by
    obtain ⟨v, r, rfl, h2, h3⟩ := h
    rw [List.any_cons, List.any_cons, any_ok h3]
theorem RpK.app : ∀ {kvs : List (κ × D)} {us : List (κ × V)} {k : κ} {d : D} {v : V}, RpK K ρ H kvs us → Rp K ρ H d v → RpK K ρ H (kvs ++ [(k, d)]) (us ++ [(k, v)])
  | [], us, k, d, v, h, q => by rw [show us = [] from h]; exact ⟨v, [], rfl, q, rfl⟩
  | p :: ps, us, k, d, v, h, q => by
    obtain ⟨w, r, rfl, h2, h3⟩ := h
    exact ⟨w, _, rfl, h2, h3.app q⟩
theorem setK_ok {k : κ} {d : D} {v : V} {kvs : List (κ × D)} {us : List (κ × V)} (h : RpK K ρ H kvs us) (q : Rp K ρ H d v) : RpK K ρ H (setK kvs k d) (putK us k v) := by
  unfold setK putK
  rw [any_ok h]
  split
  · have all : ∀ {kvs : List (κ × D)} {us : List (κ × V)}, RpK K ρ H kvs us → RpK K ρ H (kvs.map (fun kv => if kv.1 = k then (kv.1, d) else kv)) (us.map (fun kv => if kv.1 = k then (kv.1, v) else kv)) := by
      intro kvs
      induction kvs with
      | nil => intro us h; rw [show us = [] from h]; rfl
      | cons p ps ih =>
        intro us h
        obtain ⟨w, r, rfl, h2, h3⟩ := h
        by_cases e : p.1 = k
        · simp only [List.map_cons, if_pos e]; exact ⟨v, _, rfl, q, ih h3⟩
        · simp only [List.map_cons, if_neg e]; exact ⟨w, _, rfl, h2, ih h3⟩
    exact all h
  · exact h.app q
end

/-! ## subscripts -/
def ixSeq (xs : List D) (i : Int) (A : AH) : Res D := match atI xs i with
  | some x => .ok x A
  | none => .bad
def ixD (d e : D) (A : AH) : Res D := match e with
  | .int i => match rdS A d with
    | some xs => ixSeq xs i A
    | none => match d with
      | .str z => if z.length ≤ sizeLine then (match atI z.cps.toList i with | some c => .ok (.str ⟨#[c]⟩) A | none => .bad) else .bad
      | _ => match rdK A d with
        | some kvs => (match getK kvs (.inl i) with | some v => .ok v A | none => .bad)
        | none => .bad
  | .str x => match rdK A d with
    | some kvs => (match getK kvs (.inr x) with | some v => .ok v A | none => .bad)
    | none => .bad
  | _ => .bad
section
variable {X : Cx} {E : XK}
theorem ix_dict (hu : X.A.units + 1 < cLine) : IxR X (fun x y H Q => ∃ a v, x = .ref a ∧ DGet H a y (some v) ∧ Q v H) := by
  intro value slice pins s σ H x y v u Q I rx ry h hs
  obtain ⟨a, w, rfl, g, q⟩ := h
  obtain rfl : v = Value.ref a := rx
  exact tail_any (dict_typeIs I g) PySem.F.slot_dict_getitem.lookup (d_getItem hu I g ry fun w' s3 I3 rw' => ⟨w, H, I3, rw', q⟩) hs
theorem RpL.atI {K : PySem.W.Frag} {ρ : List Addr} {H : Hp} {ds : List D} {xs : List V} {i : Int} {d : D} (r : RpL K ρ H ds xs) (h : atI ds i = some d) : ∃ v, L2.atI xs i = some v ∧ Rp K ρ H d v := by
  unfold L2.atI at h ⊢
  rw [r.length]
  cases e : ixN ds.length i with
  | none => rw [e] at h; cases h
  | some j =>
    rw [e] at h
    exact r.get h
theorem ix_mono {r r' : R2} (h : IxR X r) (m : ∀ x y H Q, r' x y H Q → r x y H Q) : IxR X r' := fun value slice pins s σ H x y v u Q I rx ry q hs => h value slice pins s σ H x y v u Q I rx ry (m _ _ _ _ q) hs
theorem aix (hu : X.A.units + 1 < cLine) : IxR X (rA X.K E ixD) := ix_mono (ix_seq.or (ix_dict hu)) fun x y H Q h => by
  obtain ⟨ρ, A, d, e, R, r1, r2, h⟩ := h
  have dic : ∀ {k : Key} {kvs : List (Key × D)} {v : D}, y = kV k → rdK A d = some kvs → getK kvs k = some v → OutE X.K E ρ H (.ok v A) Q → ∃ a w, x = .ref a ∧ DGet H a y (some w) ∧ Q w H := by
    intro k kvs v ey e1 e2 h
    obtain ⟨_, a, us, _, rfl, _, q1, q2⟩ := rdK_ok R r1 e1
    have g := getK_ok (k := k) q2
    rw [e2] at g
    obtain ⟨w, g1, g2⟩ := g
    exact ⟨a, w, rfl, .inl ⟨us, k, q1, ey, g1.symm⟩, h.now R g2⟩
  cases e with
  | int i =>
    cases r2
    simp only [ixD] at h
    split at h
    · rename_i ds e1
      obtain ⟨a, xs, rfl, q1, q2⟩ := rdS_ok R r1 e1
      unfold ixSeq at h
      split at h
      · rename_i z e2
        obtain ⟨v, q3, q4⟩ := q2.atI e2
        rcases q1 with q1 | q1
        · exact .inl (.inl ⟨a, xs, i, v, rfl, rfl, q1, q3, h.now R q4⟩)
        · exact .inl (.inr (.inl ⟨a, xs, i, v, rfl, rfl, q1, q3, h.now R q4⟩))
      · exact h.elim
    · split at h
      · split at h
        · rename_i z
          split at h
          · rename_i c e2
            cases r1
            exact .inl (.inr (.inr ⟨_, i, c, rfl, rfl, z, e2, h.now R rfl⟩))
          · exact h.elim
        · exact h.elim
      · split at h
        · rename_i kvs e1
          split at h
          · rename_i v e2
            exact .inr (dic (k := .inl i) rfl e1 e2 h)
          · exact h.elim
        · exact h.elim
  | str z =>
    cases r2
    simp only [ixD] at h
    split at h
    · rename_i kvs e1
      split at h
      · rename_i v e2
        exact .inr (dic (k := .inr z) rfl e1 e2 h)
      · exact h.elim
    · exact h.elim
  | _ => exact h.elim
theorem ae_ix {a b : Expr} {f g : FE} {pos : Pos} (hu : X.A.units + 1 < cLine) (ha : AE X E a f) (hb : AE X E b g) (hs : PlainIx b := by exact fun _ _ => rfl) : AE X E (.Subscript a b pos) (fOp ixD f g) := pe_mono (pe_ix (aix hu) ha hb hs) fun _ _ _ => two_
end

/-! ## slices -/
def fNo : FO := fun _ A => .ok none A
def fPart (f : FE) : FO := fun s A => (f s A).bind fun d A1 => match d with
  | .int i => .ok (some i) A1
  | _ => .bad
def cutL {α : Type} (xs : List α) (lo hi : Option Int) : List α := (xs.drop (HT.sIx xs.length 0 lo)).take (HT.sIx xs.length xs.length hi - HT.sIx xs.length 0 lo)
def slD (d : D) (lo hi : Option Int) (A : AH) : Res D := match d with
  | .tup xs => .ok (.tup (cutL xs lo hi)) A
  | .str z => if z.length ≤ sizeLine then .ok (.str (cutS z lo hi)) A else .bad
  | d => match rdL A d with
    | some xs => alloc (.lst (cutL xs lo hi)) A
    | none => .bad
def fSl (f : FE) (lo hi : FO) : FE := fun s A => (f s A).bind fun d A1 => (lo s A1).bind fun l A2 => (hi s A2).bind fun h A3 => slD d l h A3
section
variable {X : Cx} {E : XK} {e : Expr} {f : FE} {lo hi : Option Expr} {fl fh : FO} {p2 pos : Pos}
theorem ao_none : AO_ X E none fNo := ⟨fun pins s σ H Q I h => po_none.run pins s σ H Q I (by
  obtain ⟨ρ, s, A, hs, R, h⟩ := h
  exact Out.now h R rfl)⟩
theorem ao_some (h : AE X E e f) : AO_ X E (some e) (fPart f) := ⟨fun pins s σ H Q I h' => (po_some h).run pins s σ H Q I (by
  obtain ⟨ρ, s, A, hs, R, h⟩ := h'
  refine ⟨ρ, s, A, hs, R, (Out.bind h).mono fun x H1 ⟨ρ1, d, A1, _, e1, R1, r1, h1⟩ => ?_⟩
  split at h1
  · cases r1
    exact ⟨_, rfl, h1.now R1 rfl⟩
  · exact h1.elim)⟩
theorem RpL.cut {K : PySem.W.Frag} {ρ : List Addr} {H : Hp} {ds : List D} {xs : List V} (r : RpL K ρ H ds xs) (lo hi : Option Int) : RpL K ρ H (cutL ds lo hi) (cutV xs lo hi) := by
  unfold cutL cutV
  rw [r.length]
  exact (r.drop _).take _
theorem cutL_all {α : Type} {xs : List α} {lo hi : Option Int} (h : HT.sIx xs.length 0 lo = 0 ∧ HT.sIx xs.length xs.length hi = xs.length) : cutL xs lo hi = xs := by
  unfold cutL
  rw [h.1, h.2]
  simp
theorem ae_sl (he : AE X E e f) (hl : AO_ X E lo fl) (hh : AO_ X E hi fh) : AE X E (.Subscript e (.Slice lo hi none p2) pos) (fSl f fl fh) := pe_mono (pe_slice ((sl_tupA.or sl_str).or sl_list) he hl hh) fun σ H Q h => by
  obtain ⟨ρ, s, A, hs, R, h⟩ := h
  refine ⟨ρ, s, A, hs, R, (Out.bind h).mono fun x H1 ⟨ρ1, d, A1, _, e1, R1, r1, h1⟩ => ⟨ρ1, s, A1, hs.ext e1, R1, (Out.bind h1).mono fun l H2 ⟨ρ2, l', A2, _, e2, R2, r2, h2⟩ => ⟨ρ2, s, A2, hs.ext (e1.trans e2), R2, (Out.bind h2).mono fun u H3 ⟨ρ3, u', A3, _, e3, R3, r3, h3⟩ => ?_⟩⟩⟩
  cases r2; cases r3
  have r1 := r1.ext (e2.trans e3)
  unfold slD at h3
  split at h3
  · rename_i xs
    obtain ⟨a, us, rfl, q1, q2⟩ := r1
    refine .inl (.inl ⟨a, us, rfl, q1, fun z => ?_, fun _ => new_tup R3 (q2.cut _ _) h3⟩)
    rw [q2.length] at z
    rw [cutL_all z] at h3
    exact h3.now R3 ⟨a, us, rfl, q1, q2⟩
  · split at h3
    · rename_i z
      cases r1
      exact .inl (.inr ⟨_, rfl, z, h3.now R3 rfl⟩)
    · exact h3.elim
  · split at h3
    · rename_i xs e4
      obtain ⟨a, us, rfl, q1, q2⟩ := rdL_ok R3 r1 e4
      exact .inr ⟨a, us, rfl, q1, new_lst R3 (q2.cut _ _) h3⟩
    · exact h3.elim
def revD (d : D) (A : AH) : Res D := match rdL A d with
  | some xs => alloc (.lst xs.reverse) A
  | none => .bad
theorem ae_rev {k : Nat} {p1 p3 : Pos} (he : AE X E e f) : AE X E (.Subscript e (.Slice none none (some (.UnaryOp .USub (.Constant (.int 1) k p1) p2)) p3) pos) (fUn revD f) := pe_mono (pe_revL he) fun σ H Q h => by
  obtain ⟨ρ, s, A, hs, R, h⟩ := h
  refine ⟨ρ, s, A, hs, R, (Out.bind h).mono fun x H1 ⟨ρ1, d, A1, _, e1, R1, r1, h1⟩ => ?_⟩
  unfold revD at h1
  split at h1
  · rename_i xs e4
    obtain ⟨a, us, rfl, q1, q2⟩ := rdL_ok R1 r1 e4
    exact ⟨a, us, rfl, q1, new_lst R1 q2.reverse h1⟩
  · exact h1.elim
end

/-! ## in -/
def toV : D → Option V
  | .non => some .non
  | .bl b => some (.bl b)
  | .int i => some (.int i)
  | .str x => some (.str x)
  | _ => none
def toVs : List D → Option (List V)
  | [] => some []
  | d :: ds => match toV d, toVs ds with
    | some v, some vs => some (v :: vs)
    | _, _ => none
theorem toV_ok {K : PySem.W.Frag} {ρ : List Addr} {H : Hp} {d : D} {v w : V} (r : Rp K ρ H d v) (h : toV d = some w) : v = w ∧ flatV v = true := by
  cases d <;> first | (cases h; done) | (cases h; cases r; exact ⟨rfl, rfl⟩)
theorem toVs_ok {K : PySem.W.Frag} {ρ : List Addr} {H : Hp} : ∀ {ds : List D} {vs ws : List V}, RpL K ρ H ds vs → toVs ds = some ws → vs = ws ∧ vs.all flatV = true
  | [], vs, ws, r, h => by cases h; rw [show vs = [] from r]; exact ⟨rfl, rfl⟩
  | d :: ds, vs, ws, r, h => by
    obtain ⟨v, vs', rfl, h2, h3⟩ := r
    unfold toVs at h
    split at h
    · rename_i w ws' e1 e2
      cases h
      obtain ⟨rfl, f1⟩ := toV_ok h2 e1
      obtain ⟨rfl, f2⟩ := toVs_ok h3 e2
      exact ⟨rfl, by rw [List.all_cons, f1, f2]; rfl⟩
    · cases h
def inB (d e : D) (A : AH) : Option Bool := match e with
  | .str y => match d with
    | .str x => some (!(Builtin.Str.occurrences y x 0 y.length 1).isEmpty)
    | _ => none
  | e => match rdK A e with
    | some kvs => match keyOf d with
      | some k => some (getK kvs k).isSome
      | none => none
    | none => match rdS A e with
      | some ys => match toV d, toVs ys with
        | some x, some us => some (inV x us)
        | _, _ => match rdL A e, pd d, pdL ys with
          | some _, some p, some ps => if (SeqAt.shaped p && SeqAt.shaped (.list ps)) = true then some (ps.any fun z => PyData.eqv z p) else none
          | _, _, _ => none
      | none => none
def inD (d e : D) (A : AH) : Res D := okB (inB d e A) A
def ninD (d e : D) (A : AH) : Res D := okB ((inB d e A).map (!·)) A
section
variable {X : Cx} {E : XK}
theorem op_in_dk (hu : X.A.units + 1 < cLine) : OpR X (compareOp .In) (fun x y H Q => ∃ a o, y = .ref a ∧ DGet H a x o ∧ Q (.bl o.isSome) H) := by
  intro pins s σ H x y v u Q I rx ry h
  obtain ⟨a, o, rfl, g, q⟩ := h
  obtain rfl : u = Value.ref a := ry
  exact d_in hu I g rx fun s3 I3 => ⟨V.bl _, H, I3, rfl, q⟩
theorem op_nin_dk (hu : X.A.units + 1 < cLine) : OpR X (compareOp .NotIn) (fun x y H Q => ∃ a o, y = .ref a ∧ DGet H a x o ∧ Q (.bl (!o.isSome)) H) := by
  intro pins s σ H x y v u Q I rx ry h
  obtain ⟨a, o, rfl, g, q⟩ := h
  obtain rfl : u = Value.ref a := ry
  exact d_notIn hu I g rx fun s3 I3 => ⟨V.bl _, H, I3, rfl, q⟩
/-- what stands behind an answer of inB -/
theorem inB_ok {K : PySem.W.Frag} {ρ : List Addr} {H : Hp} {A : AH} {d e : D} {x y : V} {b : Bool} (R : Rel K ρ H A) (r1 : Rp K ρ H d x) (r2 : Rp K ρ H e y) (h : inB d e A = some b) :
    (∃ i j, x = .str i ∧ y = .str j ∧ b = !(Builtin.Str.occurrences j i 0 j.length 1).isEmpty) ∨ (∃ p xs, y = .ref p ∧ (SqL K H p xs ∨ SqT K H p xs) ∧ flatV x = true ∧ xs.all flatV = true ∧ b = inV x xs) ∨
    (∃ a o, y = .ref a ∧ DGet H a x o ∧ b = o.isSome) ∨ (∃ d' ds, Dp K H x d' ∧ Dp K H y (.list ds) ∧ SeqAt.shaped d' = true ∧ SeqAt.shaped (.list ds) = true ∧ b = ds.any fun z => PyData.eqv z d') := by
  unfold inB at h
  split at h
  · split at h
    · cases h; cases r1; cases r2
      exact .inl ⟨_, _, rfl, rfl, rfl⟩
    · cases h
  · split at h
    · rename_i kvs e1
      split at h
      · rename_i k e2
        cases h
        obtain ⟨_, a, us, _, rfl, _, q1, q2⟩ := rdK_ok R r2 e1
        have ex := keyOf_ok r1 e2
        have g := getK_ok (k := k) q2
        refine .inr (.inr (.inl ⟨a, valV us k, rfl, .inl ⟨us, k, q1, ex, rfl⟩, ?_⟩))
        split at g
        · rename_i d' e3
          obtain ⟨w, g1, _⟩ := g
          rw [g1, e3]; rfl
        · rename_i e3
          rw [g, e3]; rfl
      · cases h
    · split at h
      · rename_i ys e1
        split at h
        · rename_i x' us e2 e3
          cases h
          obtain ⟨a, xs, rfl, q1, q2⟩ := rdS_ok R r2 e1
          obtain ⟨rfl, f1⟩ := toV_ok r1 e2
          obtain ⟨rfl, f2⟩ := toVs_ok q2 e3
          exact .inr (.inl ⟨a, _, rfl, q1, f1, f2, rfl⟩)
        · split at h
          · rename_i zs p ps e2 e3 e4
            split at h
            · rename_i z
              rw [Bool.and_eq_true] at z
              cases h
              obtain ⟨a, xs, rfl, q1, q2⟩ := rdL_ok R r2 e2
              have ez : ys = zs := by
                cases e with
                | ref i => rw [show rdS A (.ref i) = rdL A (.ref i) from rfl] at e1; rw [e1] at e2; exact Option.some.inj e2
                | _ => cases e2
              subst ez
              exact .inr (.inr (.inr ⟨p, ps, pd_ok d x p r1 e3, .lst q1 (pdL_ok ys xs ps q2 e4), z.1, z.2, rfl⟩))
            · cases h
          · cases h
      · cases h
theorem aop_in (hu : X.A.units + 65 < cLine) : AOp X E (compareOp .In) inD := op_mono ((op_in_str.or op_in_seq).or ((op_in_dk (by omega)).or (op_inD hu))) fun x y H Q h => by
  obtain ⟨ρ, A, d, e, R, r1, r2, h⟩ := h
  unfold inD okB at h
  split at h
  · rename_i b e1
    have h := Out.now (R1 := fun ρ H d v => Rp X.K ρ H d v) (v := V.bl b) h R rfl
    rcases inB_ok R r1 r2 e1 with ⟨i, j, rfl, rfl, rfl⟩ | ⟨p, xs, rfl, q1, q2, q3, rfl⟩ | ⟨a, o, rfl, g, rfl⟩ | ⟨d', ds, q1, q2, q3, q4, rfl⟩
    · exact .inl (.inl ⟨i, j, rfl, rfl, h⟩)
    · exact .inl (.inr ⟨p, xs, rfl, q1, q2, q3, h⟩)
    · exact .inr (.inl ⟨a, o, rfl, g, h⟩)
    · exact .inr (.inr ⟨d', ds, q1, q2, q3, q4, h⟩)
  · exact h.elim
theorem aop_nin (hu : X.A.units + 65 < cLine) : AOp X E (compareOp .NotIn) ninD := op_mono ((op_notin_str.or op_notIn_seq).or ((op_nin_dk (by omega)).or (op_notInD hu))) fun x y H Q h => by
  obtain ⟨ρ, A, d, e, R, r1, r2, h⟩ := h
  unfold ninD okB at h
  cases e1 : inB d e A with
  | none => rw [e1] at h; exact h.elim
  | some b =>
    rw [e1] at h
    have h := Out.now (R1 := fun ρ H d v => Rp X.K ρ H d v) (v := V.bl (!b)) h R rfl
    rcases inB_ok R r1 r2 e1 with ⟨i, j, rfl, rfl, rfl⟩ | ⟨p, xs, rfl, q1, q2, q3, rfl⟩ | ⟨a, o, rfl, g, rfl⟩ | ⟨d', ds, q1, q2, q3, q4, rfl⟩
    · exact .inl (.inl ⟨i, j, rfl, rfl, h⟩)
    · exact .inl (.inr ⟨p, xs, rfl, q1, q2, q3, h⟩)
    · exact .inr (.inl ⟨a, o, rfl, g, h⟩)
    · exact .inr (.inr ⟨d', ds, q1, q2, q3, q4, h⟩)
end

/-! ## calls of built-ins -/
def rC (K : PySem.W.Frag) (E : XK) (g : FM) : List V → Hp → VK → Prop := fun xs H Q => ∃ ρ A ds, Rel K ρ H A ∧ RpL K ρ H ds xs ∧ OutE K E ρ H (g ds A) Q
abbrev ACall (X : Cx) (E : XK) (f : Value) (g : FM) : Prop := CallR X f (rC X.K E g)
def fCall (g : FM) (fs : FA) : FE := fun s A => (fs s A).bind fun ds A1 => g ds A1
section
variable {X : Cx} {E : XK} {e : Expr} {es : List Expr} {fs : FA} {g : FM} {x : Str} {p pos : Pos} {id T : String}
theorem call_ {K : PySem.W.Frag} {σ : L2.St} {H : Hp} {Q : VK} (h : tA K E (fCall g fs) σ H Q) : tCB (rC K E g) (tAA K E fs) σ H Q := by
  obtain ⟨ρ, s, A, hs, R, h⟩ := h
  exact ⟨ρ, s, A, hs, R, (Out.bind h).mono fun x H1 ⟨ρ1, d, A1, _, e1, R1, r1, h1⟩ => ⟨ρ1, A1, d, R1, r1, h1⟩⟩
theorem ae_callB (hc : ACall X E (.builtin id) g) (hg : Gl X x) (hm : X.mg x = none) (hv : bootBuiltins x = some (.builtin id)) (ha : AA X E (e :: es) fs) (hn : x ≠ "__name__" := by decide) (hdb : (x == ("__debug__" : Str)) = false := by decide)
    (he : starEach (e :: es) X.env = (false, eval e X.env) :: starEach es X.env := by rfl) (hpl : (backTo pos (starEach es X.env)).any (·.1) = false := by rfl) : AE X E (.Call (.Name x p) (e :: es) [] pos) (fCall g fs) :=
  pe_mono (pe_callB hc hg hm hv ha hn hdb he hpl) fun _ _ _ => call_
theorem ae_callT (hc : ACall X E (.type T) g) (hg : Gl X x) (hm : X.mg x = none) (hv : bootBuiltins x = some (.type T)) (ha : AA X E (e :: es) fs) (hn : x ≠ "__name__" := by decide) (hdb : (x == ("__debug__" : Str)) = false := by decide)
    (he : starEach (e :: es) X.env = (false, eval e X.env) :: starEach es X.env := by rfl) (hpl : (backTo pos (starEach es X.env)).any (·.1) = false := by rfl) : AE X E (.Call (.Name x p) (e :: es) [] pos) (fCall g fs) :=
  pe_mono (pe_callTy hc hg hm hv ha hn hdb he hpl) fun _ _ _ => call_
end
def intsOf : List D → Option (List Int)
  | [] => some []
  | .int i :: r => match intsOf r with
    | some is => some (i :: is)
    | none => none
  | _ :: _ => none
def blsOf : List D → Option (List Bool)
  | [] => some []
  | .bl i :: r => match blsOf r with
    | some is => some (i :: is)
    | none => none
  | _ :: _ => none
def maxI : List Int → Int
  | [] => 0
  | [x] => x
  | x :: r => if maxI r > x then maxI r else x
def minI : List Int → Int
  | [] => 0
  | [x] => x
  | x :: r => if minI r < x then minI r else x
section
variable {K : PySem.W.Frag} {ρ : List Addr} {H : Hp}
theorem ints_ok : ∀ {ds : List D} {xs : List V} {is : List Int}, RpL K ρ H ds xs → intsOf ds = some is → xs = is.map V.int
  | [], xs, is, r, h => by cases h; rw [show xs = [] from r]; rfl
  | d :: ds, xs, is, r, h => by
    obtain ⟨x, xs', rfl, h2, h3⟩ := r
    cases d with
    | int i =>
      cases h2
      unfold intsOf at h
      split at h
      · rename_i js e
        cases h
        rw [ints_ok h3 e]; rfl
      · cases h
    | _ => cases h
theorem bls_ok : ∀ {ds : List D} {xs : List V} {is : List Bool}, RpL K ρ H ds xs → blsOf ds = some is → xs = is.map V.bl
  | [], xs, is, r, h => by cases h; rw [show xs = [] from r]; rfl
  | d :: ds, xs, is, r, h => by
    obtain ⟨x, xs', rfl, h2, h3⟩ := r
    cases d with
    | bl i =>
      cases h2
      unfold blsOf at h
      split at h
      · rename_i js e
        cases h
        rw [bls_ok h3 e]; rfl
      · cases h
    | _ => cases h
end
theorem maxI_cons (x y : Int) (r : List Int) : maxI (x :: y :: r) = if maxI (y :: r) > x then maxI (y :: r) else x := rfl
theorem minI_cons (x y : Int) (r : List Int) : minI (x :: y :: r) = if minI (y :: r) < x then minI (y :: r) else x := rfl
theorem maxI_mem : ∀ {ns : List Int}, ns ≠ [] → maxI ns ∈ ns
  | [], h => absurd rfl h
  | [x], _ => by simp [maxI]
  | x :: y :: r, _ => by
    have ih := maxI_mem (ns := y :: r) (by simp)
    rw [maxI_cons]
    split
    · exact List.mem_cons_of_mem _ ih
    · exact List.mem_cons_self
theorem maxI_le : ∀ {ns : List Int} {y : Int}, y ∈ ns → y ≤ maxI ns
  | [x], y, h => by simp at h; subst h; simp [maxI]
  | x :: z :: r, y, h => by
    have ih := fun q => maxI_le (ns := z :: r) (y := y) q
    rw [maxI_cons]
    rcases List.mem_cons.mp h with e | e
    · subst e; split <;> omega
    · have := ih e; split <;> omega
theorem minI_mem : ∀ {ns : List Int}, ns ≠ [] → minI ns ∈ ns
  | [], h => absurd rfl h
  | [x], _ => by simp [minI]
  | x :: y :: r, _ => by
    have ih := minI_mem (ns := y :: r) (by simp)
    rw [minI_cons]
    split
    · exact List.mem_cons_of_mem _ ih
    · exact List.mem_cons_self
theorem minI_le : ∀ {ns : List Int} {y : Int}, y ∈ ns → minI ns ≤ y
  | [x], y, h => by simp at h; subst h; simp [minI]
  | x :: z :: r, y, h => by
    have ih := fun q => minI_le (ns := z :: r) (y := y) q
    rw [minI_cons]
    rcases List.mem_cons.mp h with e | e
    · subst e; split <;> omega
    · have := ih e; split <;> omega
theorem maxI_eq {ns : List Int} {m : Int} (h : m ∈ ns) (q : ∀ y ∈ ns, y ≤ m) : maxI ns = m := by
  have h1 := maxI_le h
  have h2 := q _ (maxI_mem (ns := ns) (by intro e; subst e; cases h))
  omega
theorem minI_eq {ns : List Int} {m : Int} (h : m ∈ ns) (q : ∀ y ∈ ns, m ≤ y) : minI ns = m := by
  have h1 := minI_le h
  have h2 := q _ (minI_mem (ns := ns) (by intro e; subst e; cases h))
  omega
def lenD : FM
  | [.str x], A => if x.length ≤ sizeLine then .ok (.int x.length) A else .bad
  | [d], A => match rdS A d with
    | some xs => .ok (.int xs.length) A
    | none => match rdM A d with
      | some xs => .ok (.int xs.length) A
      | none => .bad
  | _, _ => .bad
def intD : FM
  | [.int i], A => .ok (.int i) A
  | [.bl b], A => .ok (.int (if b then 1 else 0)) A
  | [.str x], A => if x.length ≤ 640 then (match PySem.intText? x with | some n => .ok (.int n) A | none => .bad) else .bad
  | _, _ => .bad
def strD : FM
  | [.int i], A => if i.natAbs.log2 < 1920 then .ok (.str (toString i)) A else .bad
  | [.str x], A => .ok (.str x) A
  | _, _ => .bad
def absD : FM
  | [.int i], A => .ok (.int (if i < 0 then -i else i)) A
  | _, _ => .bad
def maxD : FM
  | [.int i, .int j], A => .ok (.int (if j > i then j else i)) A
  | [d], A => match rdL A d with
    | some xs => match intsOf xs with
      | some (i :: is) => .ok (.int (maxI (i :: is))) A
      | _ => .bad
    | none => .bad
  | _, _ => .bad
def minD : FM
  | [.int i, .int j], A => .ok (.int (if j < i then j else i)) A
  | [d], A => match rdL A d with
    | some xs => match intsOf xs with
      | some (i :: is) => .ok (.int (minI (i :: is))) A
      | _ => .bad
    | none => .bad
  | _, _ => .bad
def sumD : FM
  | [d], A => match rdL A d with
    | some xs => match intsOf xs with
      | some is => .ok (.int is.sum) A
      | _ => .bad
    | none => .bad
  | _, _ => .bad
def anyD : FM
  | [d], A => match rdL A d with
    | some xs => match blsOf xs with
      | some is => .ok (.bl (is.any id)) A
      | _ => .bad
    | none => .bad
  | _, _ => .bad
def allD : FM
  | [d], A => match rdL A d with
    | some xs => match blsOf xs with
      | some is => .ok (.bl (is.all id)) A
      | _ => .bad
    | none => .bad
  | _, _ => .bad
def tupOf : FM
  | [.tup xs], A => .ok (.tup xs) A
  | [d], A => match rdL A d with
    | some xs => .ok (.tup xs) A
    | none => .bad
  | _, _ => .bad
def lstOf : FM
  | [d], A => match rdS A d with
    | some xs => alloc (.lst xs) A
    | none => match rdK A d with
      | some kvs => .bad
      | none => .bad
  | _, _ => .bad
def dicOf : FM
  | [d], A => match rdM A d with
    | some kvs => alloc (.dic kvs) A
    | none => .bad
  | _, _ => .bad
section
variable {X : Cx} {E : XK}
theorem RpL.one_inv {K : PySem.W.Frag} {ρ : List Addr} {H : Hp} {d : D} {xs : List V} (r : RpL K ρ H [d] xs) : ∃ x, xs = [x] ∧ Rp K ρ H d x := by
  obtain ⟨x, r, rfl, h, h2⟩ := r
  exact ⟨x, by rw [show r = [] from h2], h⟩
theorem RpL.two_inv {K : PySem.W.Frag} {ρ : List Addr} {H : Hp} {d e : D} {xs : List V} (r : RpL K ρ H [d, e] xs) : ∃ x y, xs = [x, y] ∧ Rp K ρ H d x ∧ Rp K ρ H e y := by
  obtain ⟨x, r, rfl, h, h2⟩ := r
  obtain ⟨y, rfl, h3⟩ := h2.one_inv
  exact ⟨x, y, rfl, h, h3⟩
theorem acall_len : ACall X E (.builtin "len") lenD := callR_mono ((call_len_seq.or call_len_str).or call_lenD) fun xs H Q h => by
  obtain ⟨ρ, A, ds, R, r, h⟩ := h
  unfold lenD at h
  split at h
  · split at h
    · rename_i z
      obtain ⟨x, rfl, r1⟩ := r.one_inv
      cases r1
      exact .inl (.inr ⟨_, rfl, z, h.now R rfl⟩)
    · exact h.elim
  · obtain ⟨x, rfl, r1⟩ := r.one_inv
    split at h
    · rename_i ys e1
      obtain ⟨a, us, rfl, q1, q2⟩ := rdS_ok R r1 e1
      exact .inl (.inl ⟨a, us, rfl, q1, h.now R (by rw [q2.length]; rfl)⟩)
    · split at h
      · rename_i kvs e1
        obtain ⟨_, a, us, _, rfl, _, _, q1, q2⟩ := rdM_ok R r1 e1
        exact .inr ⟨a, us, rfl, q1, h.now R (by rw [q2.length]; rfl)⟩
      · exact h.elim
  · exact h.elim
theorem acall_int : ACall X E (.type "int") intD := callR_mono (call_int1.or call_int_str) fun xs H Q h => by
  obtain ⟨ρ, A, ds, R, r, h⟩ := h
  unfold intD at h
  split at h
  · obtain ⟨x, rfl, r1⟩ := r.one_inv
    cases r1
    exact .inl (.inl ⟨_, rfl, h.now R rfl⟩)
  · obtain ⟨x, rfl, r1⟩ := r.one_inv
    cases r1
    exact .inl (.inr ⟨_, rfl, h.now R rfl⟩)
  · obtain ⟨x, rfl, r1⟩ := r.one_inv
    cases r1
    split at h
    · rename_i z
      split at h
      · rename_i n e
        exact .inr ⟨_, n, rfl, e, z, h.now R rfl⟩
      · exact h.elim
    · exact h.elim
  · exact h.elim
theorem acall_str : ACall X E (.type "str") strD := callR_mono (call_str_int.or SkE.call_str_str) fun xs H Q h => by
  obtain ⟨ρ, A, ds, R, r, h⟩ := h
  unfold strD at h
  split at h
  · obtain ⟨x, rfl, r1⟩ := r.one_inv
    cases r1
    split at h
    · rename_i z
      exact .inl ⟨_, rfl, z, h.now R rfl⟩
    · exact h.elim
  · obtain ⟨x, rfl, r1⟩ := r.one_inv
    cases r1
    exact .inr ⟨_, rfl, h.now R rfl⟩
  · exact h.elim
theorem acall_abs : ACall X E (.builtin "abs") absD := callR_mono call_abs fun xs H Q h => by
  obtain ⟨ρ, A, ds, R, r, h⟩ := h
  unfold absD at h
  split at h
  · obtain ⟨x, rfl, r1⟩ := r.one_inv
    cases r1
    exact ⟨_, rfl, h.now R rfl⟩
  · exact h.elim
theorem acall_max (hc : X.calm = true) : ACall X E (.builtin "max") maxD := callR_mono ((call_max2 hc).or (cr_max hc)) fun xs H Q h => by
  obtain ⟨ρ, A, ds, R, r, h⟩ := h
  unfold maxD at h
  split at h
  · obtain ⟨x, y, rfl, r1, r2⟩ := r.two_inv
    cases r1; cases r2
    exact .inl ⟨_, _, rfl, h.now R rfl⟩
  · obtain ⟨x, rfl, r1⟩ := r.one_inv
    split at h
    · rename_i ys e1
      obtain ⟨a, us, rfl, q1, q2⟩ := rdL_ok R r1 e1
      split at h
      · rename_i i is e2
        refine .inr ⟨a, i :: is, rfl, by rw [← ints_ok q2 e2]; exact q1, by simp, fun m h1 h2 => h.now R ?_⟩
        rw [maxI_eq h1 h2]; rfl
      · exact h.elim
    · exact h.elim
  · exact h.elim
theorem acall_min (hc : X.calm = true) : ACall X E (.builtin "min") minD := callR_mono ((call_min2 hc).or (cr_min hc)) fun xs H Q h => by
  obtain ⟨ρ, A, ds, R, r, h⟩ := h
  unfold minD at h
  split at h
  · obtain ⟨x, y, rfl, r1, r2⟩ := r.two_inv
    cases r1; cases r2
    exact .inl ⟨_, _, rfl, h.now R rfl⟩
  · obtain ⟨x, rfl, r1⟩ := r.one_inv
    split at h
    · rename_i ys e1
      obtain ⟨a, us, rfl, q1, q2⟩ := rdL_ok R r1 e1
      split at h
      · rename_i i is e2
        refine .inr ⟨a, i :: is, rfl, by rw [← ints_ok q2 e2]; exact q1, by simp, fun m h1 h2 => h.now R ?_⟩
        rw [minI_eq h1 h2]; rfl
      · exact h.elim
    · exact h.elim
  · exact h.elim
theorem acall_sum (hc : X.calm = true) : ACall X E (.builtin "sum") sumD := callR_mono (cr_sum hc) fun xs H Q h => by
  obtain ⟨ρ, A, ds, R, r, h⟩ := h
  unfold sumD at h
  split at h
  · obtain ⟨x, rfl, r1⟩ := r.one_inv
    split at h
    · rename_i ys e1
      obtain ⟨a, us, rfl, q1, q2⟩ := rdL_ok R r1 e1
      split at h
      · rename_i is e2
        exact ⟨a, is, rfl, by rw [← ints_ok q2 e2]; exact q1, h.now R rfl⟩
      · exact h.elim
    · exact h.elim
  · exact h.elim
theorem acall_any (hc : X.calm = true) : ACall X E (.builtin "any") anyD := callR_mono (cr_any hc) fun xs H Q h => by
  obtain ⟨ρ, A, ds, R, r, h⟩ := h
  unfold anyD at h
  split at h
  · obtain ⟨x, rfl, r1⟩ := r.one_inv
    split at h
    · rename_i ys e1
      obtain ⟨a, us, rfl, q1, q2⟩ := rdL_ok R r1 e1
      split at h
      · rename_i is e2
        exact ⟨a, is, rfl, by rw [← bls_ok q2 e2]; exact q1, h.now R rfl⟩
      · exact h.elim
    · exact h.elim
  · exact h.elim
theorem acall_all (hc : X.calm = true) : ACall X E (.builtin "all") allD := callR_mono (cr_all hc) fun xs H Q h => by
  obtain ⟨ρ, A, ds, R, r, h⟩ := h
  unfold allD at h
  split at h
  · obtain ⟨x, rfl, r1⟩ := r.one_inv
    split at h
    · rename_i ys e1
      obtain ⟨a, us, rfl, q1, q2⟩ := rdL_ok R r1 e1
      split at h
      · rename_i is e2
        exact ⟨a, is, rfl, by rw [← bls_ok q2 e2]; exact q1, h.now R rfl⟩
      · exact h.elim
    · exact h.elim
  · exact h.elim
theorem acall_tuple : ACall X E (.type "tuple") tupOf := callR_mono call_tuple_of fun xs H Q h => by
  obtain ⟨ρ, A, ds, R, r, h⟩ := h
  unfold tupOf at h
  split at h
  · obtain ⟨x, rfl, r1⟩ := r.one_inv
    obtain ⟨a, us, rfl, q1, q2⟩ := r1
    exact ⟨a, us, rfl, .inr ⟨q1, h.now R ⟨a, us, rfl, q1, q2⟩⟩⟩
  · obtain ⟨x, rfl, r1⟩ := r.one_inv
    split at h
    · rename_i ys e1
      obtain ⟨a, us, rfl, q1, q2⟩ := rdL_ok R r1 e1
      exact ⟨a, us, rfl, .inl ⟨q1, new_tup R q2 h⟩⟩
    · exact h.elim
  · exact h.elim
theorem acall_list : ACall X E (.type "list") lstOf := callR_mono call_list_of fun xs H Q h => by
  obtain ⟨ρ, A, ds, R, r, h⟩ := h
  unfold lstOf at h
  split at h
  · obtain ⟨x, rfl, r1⟩ := r.one_inv
    split at h
    · rename_i ys e1
      obtain ⟨a, us, rfl, q1, q2⟩ := rdS_ok R r1 e1
      exact ⟨a, us, rfl, q1, new_lst R q2 h⟩
    · split at h <;> exact h.elim
  · exact h.elim
theorem acall_dict : ACall X E (.type "dict") dicOf := callR_mono call_dictD fun xs H Q h => by
  obtain ⟨ρ, A, ds, R, r, h⟩ := h
  unfold dicOf at h
  split at h
  · obtain ⟨x, rfl, r1⟩ := r.one_inv
    split at h
    · rename_i ys e1
      obtain ⟨_, a, us, _, rfl, _, _, q1, q2⟩ := rdM_ok R r1 e1
      exact ⟨a, us, rfl, .inl q1, new_dic R q2 h⟩
    · exact h.elim
  · exact h.elim
end
end Ab

namespace Ab
open PySem PySem.Spec PyProof.Rows L2
open scoped Classical

/-! ## targets -/
abbrev FG := D → ASt → AH → Res ASt
def OutG (K : PySem.W.Frag) (E : XK) (ρ : List Addr) (H : Hp) (r : Res ASt) (Q : L2.St → Hp → Prop) : Prop := match r with
  | .ok s A' => ∀ ρ' H' σ', Ext K ρ H ρ' H' → Rel K ρ' H' A' → SRel K ρ' H' s σ' → Q σ' H'
  | .exc C fs A' => ∀ ρ' H' dx us, Ext K ρ H ρ' H' → Rel K ρ' H' A' → H' dx = some (.xd us) → RpK K ρ' H' fs us → E (.ref C) (some dx) H'
  | .bad => False
theorem OutG.ext {K : PySem.W.Frag} {E : XK} {ρ0 ρ : List Addr} {H0 H : Hp} {r : Res ASt} {G : L2.St → Hp → Prop} (h : OutG K E ρ0 H0 r G) (e : Ext K ρ0 H0 ρ H) : OutG K E ρ H r G := by
  cases r with
  | bad => exact h
  | exc C fs A => exact fun ρ' H' dx us e2 => h ρ' H' dx us (e.trans e2)
  | ok c A => exact fun ρ' H' w e2 => h ρ' H' w (e.trans e2)
theorem Out.bindG {K : PySem.W.Frag} {E : XK} {α β : Type} {R1 : List Addr → Hp → α → β → Prop} {ρ : List Addr} {H : Hp} {r : Res α} {k : α → AH → Res ASt} {G : L2.St → Hp → Prop} (h : OutG K E ρ H (r.bind k) G) :
    Out K E R1 ρ H r (fun v H1 => ∃ ρ1 a A1, r = .ok a A1 ∧ Ext K ρ H ρ1 H1 ∧ Rel K ρ1 H1 A1 ∧ R1 ρ1 H1 a v ∧ OutG K E ρ1 H1 (k a A1) G) := by
  cases r with
  | bad => exact h
  | exc C fs A => exact h
  | ok a A => exact fun ρ1 H1 v e1 r1 q1 => ⟨ρ1, a, A, rfl, e1, r1, q1, OutG.ext h e1⟩
theorem OutG.bindG {K : PySem.W.Frag} {E : XK} {ρ : List Addr} {H : Hp} {r : Res ASt} {k : ASt → AH → Res ASt} {G : L2.St → Hp → Prop} (h : OutG K E ρ H (r.bind k) G) :
    OutG K E ρ H r (fun σ H1 => ∃ ρ1 s A1, r = .ok s A1 ∧ Ext K ρ H ρ1 H1 ∧ Rel K ρ1 H1 A1 ∧ SRel K ρ1 H1 s σ ∧ OutG K E ρ1 H1 (k s A1) G) := by
  cases r with
  | bad => exact h
  | exc C fs A => exact h
  | ok a A => exact fun ρ1 H1 v e1 r1 q1 => ⟨ρ1, a, A, rfl, e1, r1, q1, OutG.ext h e1⟩
theorem OutG.bindS {K : PySem.W.Frag} {E : XK} {ρ : List Addr} {H : Hp} {r : Res ASt} {k : ASt → AH → Res Fl} {G : Ends} (h : SOut K E ρ H (r.bind k) G) :
    OutG K E ρ H r (fun σ H1 => ∃ ρ1 s A1, r = .ok s A1 ∧ Ext K ρ H ρ1 H1 ∧ Rel K ρ1 H1 A1 ∧ SRel K ρ1 H1 s σ ∧ SOut K E ρ1 H1 (k s A1) G) := by
  cases r with
  | bad => exact h
  | exc C fs A => exact h
  | ok a A => exact fun ρ1 H1 v e1 r1 q1 => ⟨ρ1, a, A, rfl, e1, r1, q1, SOut.ext h e1⟩
theorem OutG.mono {K : PySem.W.Frag} {E : XK} {ρ : List Addr} {H : Hp} {r : Res ASt} {Q Q' : L2.St → Hp → Prop} (h : OutG K E ρ H r Q) (q : ∀ v H', Q v H' → Q' v H') : OutG K E ρ H r Q' := by
  cases r with
  | bad => exact h
  | exc C fs A => exact h
  | ok c A => exact fun ρ' H' w e r1 q1 => q _ _ (h ρ' H' w e r1 q1)
def tAG (K : PySem.W.Frag) (E : XK) (g : FG) : TG := fun v σ H Q => ∃ ρ s A d, SRel K ρ H s σ ∧ Rel K ρ H A ∧ Rp K ρ H d v ∧ OutG K E ρ H (g d s A) Q
abbrev AG (X : Cx) (E : XK) (tg : Expr) (g : FG) : Prop := PG X tg (tAG X.K E g)
theorem pg_mono {X : Cx} {e : Expr} {t u : TG} (h : PG X e t) (m : ∀ v σ H Q, u v σ H Q → t v σ H Q) : PG X e u := ⟨fun pins s σ H v w Q I r q => h.run pins s σ H v w Q I r (m _ _ _ _ q)⟩
def gN (i : Nat) : FG := fun d s A => .ok (s.set i (some d)) A
section
variable {X : Cx} {E : XK} {pos : Pos}
theorem ag_name {i : Nat} {x : Str} (hN : X.N.Nodup) (hi : X.N[i]? = some x := by rfl) (hx : Loc X.env.scope x := by first | exact Or.inl rfl | exact Or.inr rfl) (hf : X.fn x = true ∨ X.env.scope.names.lookup x = some .local := by first | exact .inl rfl | exact .inr rfl | assumption) : AG X E (.Name x pos) (gN i) :=
  pg_mono (pg_name hN hi hx hf) fun v σ H Q h => by
    obtain ⟨ρ, s, A, d, hs, R, r, h⟩ := h
    exact h ρ H _ .refl R (hs.set i r)
/-- targets one behind the other -/
abbrev FGs := List D → ASt → AH → Res ASt
def tAGs (K : PySem.W.Frag) (E : XK) (g : FGs) : TGs := fun vs σ H Q => ∃ ρ s A ds, SRel K ρ H s σ ∧ Rel K ρ H A ∧ RpL K ρ H ds vs ∧ OutG K E ρ H (g ds s A) Q
abbrev AGs (X : Cx) (E : XK) (tg : List Expr) (g : FGs) : Prop := PGs X tg (tAGs X.K E g)
def gNl : FGs := fun ds s A => match ds with
  | [] => .ok s A
  | _ => .bad
def gCs (g : FG) (gs : FGs) : FGs := fun ds s A => match ds with
  | d :: r => (g d s A).bind fun s1 A1 => gs r s1 A1
  | _ => .bad
theorem pgs_mono {X : Cx} {e : List Expr} {t u : TGs} (h : PGs X e t) (m : ∀ v σ H Q, u v σ H Q → t v σ H Q) : PGs X e u := ⟨fun pins s σ H v w Q I r q => h.run pins s σ H v w Q I r (m _ _ _ _ q)⟩
theorem ags_nil : AGs X E [] gNl := pgs_mono pgs_nil fun v σ H Q h => by
  obtain ⟨ρ, s, A, ds, hs, R, r, h⟩ := h
  unfold gNl at h
  split at h
  · exact ⟨r, h ρ H _ .refl R hs⟩
  · exact h.elim
theorem ags_cons {e : Expr} {es : List Expr} {g : FG} {gs : FGs} (h1 : AG X E e g) (h2 : AGs X E es gs) (hs : (assignEach (e :: es) X.env).map (·.2) = assign e X.env :: (assignEach es X.env).map (·.2) := by rfl) : AGs X E (e :: es) (gCs g gs) :=
  pgs_mono (pgs_cons h1 h2 hs) fun v σ H Q h => by
    obtain ⟨ρ, s, A, ds, hs, R, r, h⟩ := h
    unfold gCs at h
    split at h
    · rename_i d ds'
      obtain ⟨x, xs, rfl, r1, r2⟩ := r
      exact ⟨x, xs, rfl, ρ, s, A, d, hs, R, r1, (OutG.bindG h).mono fun σ1 H1 ⟨ρ1, s1, A1, _, e1, R1, hs1, h1⟩ => ⟨ρ1, s1, A1, ds', hs1, R1, r2.ext e1, h1⟩⟩
    · exact h.elim
def gTp (n : Nat) (gs : FGs) : FG := fun d s A => match d with
  | .tup ds => if ds.length = n then gs ds s A else .bad
  | _ => .bad
theorem ag_tup {es : List Expr} {k : Nat} {gs : FGs} {n : Nat} (hc : X.calm = true) (h : AGs X E es gs) (hn : (assignEach es X.env).length = n := by rfl) (hst : (assignEach es X.env).findIdx? (·.1) = none := by rfl) : AG X E (.Tuple es k pos) (gTp n gs) :=
  pg_mono (pg_tup hc h hn hst) fun v σ H Q h => by
    obtain ⟨ρ, s, A, d, hs, R, r, h⟩ := h
    unfold gTp at h
    split at h
    · split at h
      · rename_i ds z
        obtain ⟨a, xs, rfl, q1, q2⟩ := r
        exact ⟨a, xs, rfl, q1, by rw [q2.length]; exact z, ρ, s, A, ds, hs, R, q2, h⟩
      · exact h.elim
    · exact h.elim
/-- o[i] = v -/
def stD (o i v : D) (A : AH) : Res Unit := match o with
  | .ref n => match A[n]? with
    | some (.lst xs) => match i with
      | .int k => match ixN xs.length k with
        | some j => .ok () (A.set n (.lst (xs.set j v)))
        | none => .bad
      | _ => .bad
    | some (.dic kvs) => match keyOf i with
      | some k => if kvs.length < sizeLine then .ok () (A.set n (.dic (setK kvs k v))) else .bad
      | none => .bad
    | _ => .bad
  | _ => .bad
def gSb (fo fi : FE) : FG := fun d s A => (fo s A).bind fun o A1 => (fi s A1).bind fun i A2 => (stD o i d A2).bind fun _ A3 => .ok s A3
theorem upd_lst {K : PySem.W.Frag} {ρ : List Addr} {H : Hp} {A : AH} {n : Nat} {a : Addr} {xs : List V} {ys : List V} {ds es : List D} (R : Rel K ρ H A) (ha : ρ[n]? = some a) (hA : A[n]? = some (.lst ds)) (hH : H a = some (.lst xs)) (r : RpL K ρ H es ys) :
    Ext K ρ H ρ (upd H a (.lst ys)) ∧ Rel K ρ (upd H a (.lst ys)) (A.set n (.lst es)) := by
  have e : Ext K ρ H ρ (upd H a (.lst ys)) := Ext.mut hH trivial
  exact ⟨e, R.upd ha hA rfl hH trivial ⟨ys, upd_same, r.ext e⟩ rfl⟩
theorem upd_dic {K : PySem.W.Frag} {ρ : List Addr} {H : Hp} {A : AH} {n : Nat} {a : Addr} {xs ys : List (Key × V)} {ds es : List (Key × D)} (R : Rel K ρ H A) (ha : ρ[n]? = some a) (hA : A[n]? = some (.dic ds)) (hH : H a = some (.dK xs)) (r : RpK K ρ H es ys) :
    Ext K ρ H ρ (upd H a (.dK ys)) ∧ Rel K ρ (upd H a (.dK ys)) (A.set n (.dic es)) := by
  have e : Ext K ρ H ρ (upd H a (.dK ys)) := Ext.mut hH trivial
  exact ⟨e, R.upd ha hA rfl hH trivial ⟨ys, upd_same, r.ext e⟩ rfl⟩
theorem set_or {t u : TSet} (h : PSet X t) (h' : PSet X u) : PSet X (fun o i v H Q => t o i v H Q ∨ u o i v H Q) := fun pins s σ H o i v ov iv w Q I r1 r2 r3 q => by
  rcases q with q | q
  · exact h pins s σ H o i v ov iv w Q I r1 r2 r3 q
  · exact h' pins s σ H o i v ov iv w Q I r1 r2 r3 q
theorem ag_sub {o i : Expr} {fo fi : FE} (hu : X.A.units + 1 < cLine) (ho : AE X E o fo) (hi : AE X E i fi)
    (ha : ∀ v, assign (.Subscript o i pos) X.env v = (do
      let ov ← holding [v] (eval o X.env)
      let iv ← holding [v, ov] (eval i X.env)
      standAt pos
      holding [v, ov, iv] (setItem ov iv v)
      release [v, ov, iv] []) := by intro _; rfl) : AG X E (.Subscript o i pos) (gSb fo fi) := pg_mono (pg_sub ho hi (set_or set_list (set_dict hu)) ha) fun v σ H Q h => by
  obtain ⟨ρ, s, A, d, hs, R, r, h⟩ := h
  refine ⟨ρ, s, A, hs, R, (Out.bindG h).mono fun x H1 ⟨ρ1, d1, A1, _, e1, R1, r1, h1⟩ => ⟨ρ1, s, A1, hs.ext e1, R1, (Out.bindG h1).mono fun y H2 ⟨ρ2, d2, A2, _, e2, R2, r2, h2⟩ => ?_⟩⟩
  have r1 := r1.ext e2
  have r := r.ext (e1.trans e2)
  have hs := hs.ext (e1.trans e2)
  unfold stD at h2
  split at h2
  · rename_i n
    obtain ⟨a, ha, rfl⟩ := r1
    split at h2
    · rename_i xs e3
      obtain ⟨a', ha', us, q1, q2⟩ := R2.ob _ _ e3
      rw [ha] at ha'; cases ha'
      split at h2
      · rename_i k _
        split at h2
        · rename_i j e4
          cases r2
          have u := upd_lst (ds := xs) R2 ha e3 q1 (q2.set j r)
          exact .inl ⟨a, us, k, j, rfl, rfl, q1, by rw [q2.length]; exact e4, h2 ρ2 _ σ u.1 u.2 (hs.ext u.1)⟩
        · exact h2.elim
      · exact h2.elim
    · rename_i kvs e3
      obtain ⟨a', ha', us, q1, q2⟩ := R2.ob _ _ e3
      rw [ha] at ha'; cases ha'
      split at h2
      · rename_i k e4
        split at h2
        · rename_i z
          have u := upd_dic R2 ha e3 q1 (setK_ok (k := k) q2 r)
          exact .inr ⟨a, _, rfl, .inl ⟨us, k, q1, keyOf_ok r2 e4, by rw [q2.length]; exact z, rfl⟩, h2 ρ2 _ σ u.1 u.2 (hs.ext u.1)⟩
        · exact h2.elim
      · exact h2.elim
    · exact h2.elim
  · exact h2.elim
end

/-! ## statements -/
def fSet (f : FE) (i : Nat) : FS := fun s A => (f s A).bind fun d A1 => .ok (.nx (s.set i (some d))) A1
def fAsg (f : FE) (g : FG) : FS := fun s A => (f s A).bind fun d A1 => (g d s A1).bind fun s' A2 => .ok (.nx s') A2
def fRet (f : FE) : FS := fun s A => (f s A).bind fun d A1 => .ok (.rt d) A1
def fRetN : FS := fun _ A => .ok (.rt .non) A
def fEx (f : FE) : FS := fun s A => (f s A).bind fun _ A1 => .ok (.nx s) A1
def fPass : FS := fun s A => .ok (.nx s) A
def fBrk : FS := fun s A => .ok (.bk s) A
def fCont : FS := fun s A => .ok (.ct s) A
def fIfS (c : FT) (f g : FS) : FS := fun s A => (c s A).bind fun b A1 => if b = true then f s A1 else g s A1
def fSeq (f g : FS) : FS := fun s A => match f s A with
  | .ok (.nx s1) A1 => g s1 A1
  | r => r
def fAug (i : Nat) (f : FE) (go : D → D → AH → Res D) : FS := fun s A => match s[i]? with
  | some (some x) => (f s A).bind fun y A1 => (go x y A1).bind fun z A2 => .ok (.nx (s.set i (some z))) A2
  | _ => .bad
section
variable {X : Cx} {E : XK} {e : Expr} {st : Stmt} {rest : List Stmt} {f : FE} {p q : FS} {c : FT} {pos pos' : Pos}
theorem as_set {i : Nat} {x : Str} (hN : X.N.Nodup) (he : AE X E e f) (hi : X.N[i]? = some x := by rfl) (hx : Loc X.env.scope x := by first | exact Or.inl rfl | exact Or.inr rfl) (hs : swapsWith e (some (.Name x pos')) pos.line X.env = pure false := by rfl) (hf : X.fn x = true ∨ X.env.scope.names.lookup x = some .local := by first | exact .inl rfl | exact .inr rfl | assumption) :
    AS X E (.Assign [.Name x pos'] e pos) (fSet f i) := ps_mono (ps_set hN hi hx he hs hf) fun G σ H h => by
  obtain ⟨ρ, s, A, hs, R, h⟩ := h
  exact ⟨ρ, s, A, hs, R, (Out.bindS h).mono fun x H1 ⟨ρ1, d, A1, _, e1, R1, r1, h1⟩ => h1 ρ1 H1 _ .refl R1 ((hs.ext e1).set i r1)⟩
theorem as_asg {tg : Expr} {g : FG} (he : AE X E e f) (hg : AG X E tg g) (hs : swapsWithSole [tg] e pos.line X.env = pure false := by rfl) (hw : swappedStores [tg] e X.env = pure none := by rfl)
    (h1 : (assignEach [tg] X.env).map (·.2) = [assign tg X.env] := by rfl) : AS X E (.Assign [tg] e pos) (fAsg f g) := ps_mono (ps_asg he hg hs hw h1) fun G σ H h => by
  obtain ⟨ρ, s, A, hs, R, h⟩ := h
  exact ⟨ρ, s, A, hs, R, (Out.bindS h).mono fun x H1 ⟨ρ1, d, A1, _, e1, R1, r1, h1⟩ => ⟨ρ1, s, A1, d, hs.ext e1, R1, r1, (OutG.bindS h1).mono fun σ2 H2 ⟨ρ2, s2, A2, _, e2, R2, hs2, h2⟩ => h2 ρ2 H2 σ2 .refl R2 hs2⟩⟩
theorem as_ret (he : AE X E e f) : AS X E (.Return (some e) pos) (fRet f) := ps_mono (ps_ret he) fun G σ H h => by
  obtain ⟨ρ, s, A, hs, R, h⟩ := h
  exact ⟨ρ, s, A, hs, R, (Out.bindS h).mono fun x H1 ⟨ρ1, d, A1, _, e1, R1, r1, h1⟩ => h1 ρ1 H1 x .refl R1 r1⟩
theorem as_retN : AS X E (.Return none pos) fRetN := ps_mono ps_retN fun G σ H h => by
  obtain ⟨ρ, s, A, hs, R, h⟩ := h
  exact h ρ H .non .refl R rfl
theorem as_ex (he : AE X E e f) (hs : swapsWith e none pos.line X.env = pure false := by rfl) : AS X E (.Expr e pos) (fEx f) := ps_mono (ps_expr he hs) fun G σ H h => by
  obtain ⟨ρ, s, A, hs, R, h⟩ := h
  exact ⟨ρ, s, A, hs, R, (Out.bindS h).mono fun x H1 ⟨ρ1, d, A1, _, e1, R1, r1, h1⟩ => h1 ρ1 H1 σ .refl R1 (hs.ext e1)⟩
theorem as_pass : AS X E (.Pass pos) fPass := ps_mono ps_pass fun G σ H h => by
  obtain ⟨ρ, s, A, hs, R, h⟩ := h
  exact h ρ H σ .refl R hs
theorem as_brk : AS X E (.Break pos) fBrk := ps_mono ps_break fun G σ H h => by
  obtain ⟨ρ, s, A, hs, R, h⟩ := h
  exact h ρ H σ .refl R hs
theorem as_cont : AS X E (.Continue pos) fCont := ps_mono ps_continue fun G σ H h => by
  obtain ⟨ρ, s, A, hs, R, h⟩ := h
  exact h ρ H σ .refl R hs
theorem as_if {u : Expr} {a b : List Stmt} (hc : AT X E u c) (ha : ASs X E a p) (hb : ASs X E b q) : AS X E (.If u a b pos) (fIfS c p q) := ps_mono (ps_if hc ha hb) fun G σ H h => by
  obtain ⟨ρ, s, A, hs, R, h⟩ := h
  refine ⟨ρ, s, A, hs, R, (Out.bindS h).mono fun x H1 ⟨ρ1, d, A1, _, e1, R1, r1, h1⟩ => ?_⟩
  cases r1
  cases x with
  | true => exact ⟨ρ1, s, A1, hs.ext e1, R1, h1⟩
  | false => exact ⟨ρ1, s, A1, hs.ext e1, R1, h1⟩
theorem ass_nil : ASs X E [] fPass := pss_mono pss_nil fun G σ H h => by
  obtain ⟨ρ, s, A, hs, R, h⟩ := h
  exact h ρ H σ .refl R hs
theorem ass_one (h : AS X E st p) : ASs X E [st] p := pss_one h
theorem ass_cons (h : AS X E st p) (h' : ASs X E rest q) : ASs X E (st :: rest) (fSeq p q) := pss_mono (pss_cons h h') fun G σ H h => by
  obtain ⟨ρ, s, A, hs, R, h⟩ := h
  refine ⟨ρ, s, A, hs, R, ?_⟩
  unfold fSeq at h
  cases e : p s A with
  | bad => rw [e] at h; exact h
  | exc C fs A1 => rw [e] at h; exact h
  | ok fl A1 =>
    rw [e] at h
    cases fl with
    | nx s1 => exact fun ρ1 H1 σ1 e1 R1 hs1 => ⟨ρ1, s1, A1, hs1, R1, SOut.ext h e1⟩
    | rt d => exact h
    | bk s1 => exact h
    | ct s1 => exact h
/-- x op= e at a name -/
def rIp (K : PySem.W.Frag) (E : XK) (g : D → D → AH → Res D) : TIp := rA K E g
theorem as_aug {i : Nat} {x : Str} {op : Operator} {go : D → D → AH → Res D} (hN : X.N.Nodup) (ho : PIp X op (rIp X.K E go)) (he : AE X E e f) (hi : X.N[i]? = some x := by rfl) (hx : Loc X.env.scope x := by first | exact Or.inl rfl | exact Or.inr rfl) (hf : X.fn x = true ∨ X.env.scope.names.lookup x = some .local := by first | exact .inl rfl | exact .inr rfl | assumption) :
    AS X E (.AugAssign (.Name x pos') op e pos) (fAug i f go) := ps_mono (ps_aug hN hi hx he ho hf) fun G σ H h => by
  obtain ⟨ρ, s, A, hs, R, h⟩ := h
  unfold fAug at h
  split at h
  · rename_i d0 e0
    obtain ⟨v, h1, h2⟩ := hs.at_ i d0 e0
    exact ⟨v, h1, ρ, s, A, hs, R, (Out.bindS h).mono fun y H1 ⟨ρ1, d, A1, _, e1, R1, r1, h1⟩ => ⟨ρ1, A1, d0, d, R1, h2.ext e1, r1, (Out.bindS h1).mono fun z H2 ⟨ρ2, d2, A2, _, e2, R2, r2, h2⟩ => h2 ρ2 H2 _ .refl R2 ((hs.ext (e1.trans e2)).set i r2)⟩⟩
  · exact h.elim
def augAddD : D → D → AH → Res D
  | .int i, .int j, A => .ok (.int (i + j)) A
  | .str x, .str y, A => if x.length + y.length ≤ sizeLine then .ok (.str (x ++ y)) A else .bad
  | _, _, _ => .bad
theorem ip_addA : PIp X .Add (rIp X.K E augAddD) := fun pins s σ H x y v u Q I rx ry h => by
  obtain ⟨ρ, A, d, e, R, r1, r2, h⟩ := h
  unfold augAddD at h
  split at h
  · cases r1; cases r2
    exact iop_add pins s σ H _ _ v u Q I rx ry ⟨_, _, rfl, rfl, h.now R rfl⟩
  · split at h
    · rename_i z
      cases r1; cases r2
      exact iop_add_str pins s σ H _ _ v u Q I rx ry ⟨_, _, rfl, rfl, z, h.now R rfl⟩
    · exact h.elim
  · exact h.elim
theorem ip_subA : PIp X .Sub (rIp X.K E subD) := fun pins s σ H x y v u Q I rx ry h => by
  obtain ⟨ρ, A, d, e, R, r1, r2, h⟩ := h
  unfold subD at h
  split at h
  · cases r1; cases r2
    exact iop_sub pins s σ H _ _ v u Q I rx ry ⟨_, _, rfl, rfl, h.now R rfl⟩
  · exact h.elim
end

/-! ## what is walked -/
/-- the items, and what must hold of the cells at every turn -/
structure Src where
  items : List D
  ok : AH → Prop
abbrev FI := ASt → AH → Res Src
/-- the walker J yields these items -/
def ItRel (K : PySem.W.Frag) (J : It) (ρ0 : List Addr) (H0 : Hp) (S : Src) : Prop := ∀ (i : Nat) ρ H A, Ext K ρ0 H0 ρ H → Rel K ρ H A → S.ok A →
  (∀ d, S.items[i]? = some d → J.go i H ∧ ∀ x H', J.yld i H x H' → Ext K ρ H ρ H' ∧ Rel K ρ H' A ∧ Rp K ρ H' d x) ∧ (S.items.length ≤ i → S.items.length = i → J.stop i H)
def OutI (K : PySem.W.Frag) (E : XK) (ρ : List Addr) (H : Hp) (r : Res Src) (Q : It → Hp → Prop) : Prop := match r with
  | .ok S A' => ∀ ρ' H' J, Ext K ρ H ρ' H' → Rel K ρ' H' A' → ItRel K J ρ' H' S → Q J H'
  | .exc C fs A' => ∀ ρ' H' dx us, Ext K ρ H ρ' H' → Rel K ρ' H' A' → H' dx = some (.xd us) → RpK K ρ' H' fs us → E (.ref C) (some dx) H'
  | .bad => False
theorem OutI.ext {K : PySem.W.Frag} {E : XK} {ρ0 ρ : List Addr} {H0 H : Hp} {r : Res Src} {G : It → Hp → Prop} (h : OutI K E ρ0 H0 r G) (e : Ext K ρ0 H0 ρ H) : OutI K E ρ H r G := by
  cases r with
  | bad => exact h
  | exc C fs A => exact fun ρ' H' dx us e2 => h ρ' H' dx us (e.trans e2)
  | ok c A => exact fun ρ' H' w e2 => h ρ' H' w (e.trans e2)
theorem Out.bindI {K : PySem.W.Frag} {E : XK} {α β : Type} {R1 : List Addr → Hp → α → β → Prop} {ρ : List Addr} {H : Hp} {r : Res α} {k : α → AH → Res Src} {G : It → Hp → Prop} (h : OutI K E ρ H (r.bind k) G) :
    Out K E R1 ρ H r (fun v H1 => ∃ ρ1 a A1, r = .ok a A1 ∧ Ext K ρ H ρ1 H1 ∧ Rel K ρ1 H1 A1 ∧ R1 ρ1 H1 a v ∧ OutI K E ρ1 H1 (k a A1) G) := by
  cases r with
  | bad => exact h
  | exc C fs A => exact h
  | ok a A => exact fun ρ1 H1 v e1 r1 q1 => ⟨ρ1, a, A, rfl, e1, r1, q1, OutI.ext h e1⟩
theorem OutI.bindS {K : PySem.W.Frag} {E : XK} {ρ : List Addr} {H : Hp} {r : Res Src} {k : Src → AH → Res Fl} {G : Ends} (h : SOut K E ρ H (r.bind k) G) :
    OutI K E ρ H r (fun J H1 => ∃ ρ1 S A1, r = .ok S A1 ∧ Ext K ρ H ρ1 H1 ∧ Rel K ρ1 H1 A1 ∧ ItRel K J ρ1 H1 S ∧ SOut K E ρ1 H1 (k S A1) G) := by
  cases r with
  | bad => exact h
  | exc C fs A => exact h
  | ok a A => exact fun ρ1 H1 v e1 r1 q1 => ⟨ρ1, a, A, rfl, e1, r1, q1, SOut.ext h e1⟩
theorem OutI.bindO {K : PySem.W.Frag} {E : XK} {α β : Type} {R1 : List Addr → Hp → α → β → Prop} {ρ : List Addr} {H : Hp} {r : Res Src} {k : Src → AH → Res α} {Q : β → Hp → Prop} (h : Out K E R1 ρ H (r.bind k) Q) :
    OutI K E ρ H r (fun J H1 => ∃ ρ1 S A1, r = .ok S A1 ∧ Ext K ρ H ρ1 H1 ∧ Rel K ρ1 H1 A1 ∧ ItRel K J ρ1 H1 S ∧ Out K E R1 ρ1 H1 (k S A1) Q) := by
  cases r with
  | bad => exact h
  | exc C fs A => exact h
  | ok a A => exact fun ρ1 H1 v e1 r1 q1 => ⟨ρ1, a, A, rfl, e1, r1, q1, Out.ext h e1⟩
theorem OutI.mono {K : PySem.W.Frag} {E : XK} {ρ : List Addr} {H : Hp} {r : Res Src} {Q Q' : It → Hp → Prop} (h : OutI K E ρ H r Q) (q : ∀ v H', Q v H' → Q' v H') : OutI K E ρ H r Q' := by
  cases r with
  | bad => exact h
  | exc C fs A => exact h
  | ok c A => exact fun ρ' H' w e r1 q1 => q _ _ (h ρ' H' w e r1 q1)
def tAI (K : PySem.W.Frag) (E : XK) (f : FI) : TI := fun σ H R => ∃ ρ s A, SRel K ρ H s σ ∧ Rel K ρ H A ∧ OutI K E ρ H (f s A) R
abbrev AI (X : Cx) (E : XK) (tg it : Expr) (f : FI) : Prop := PI X tg it (tAI X.K E f)
theorem pi_mono {X : Cx} {tg it : Expr} {t u : TI} (h : PI X tg it t) (m : ∀ σ H Q, u σ H Q → t σ H Q) : PI X tg it u := ⟨fun pins s σ H R I q => h.run pins s σ H R I (m _ _ _ q)⟩
def yes : AH → Prop := fun _ => True
def iSeq (d : D) (A : AH) : Res Src := match d with
  | .tup ds => .ok ⟨ds, yes⟩ A
  | .str x => .ok ⟨x.cps.toList.map fun c => .str ⟨#[c]⟩, yes⟩ A
  | d => match rdL A d with
    | some ds => .ok ⟨ds, fun A' => rdL A' d = some ds⟩ A
    | none => .bad
def fItS (f : FE) : FI := fun s A => (f s A).bind iSeq
def rngL (lo : Int) (n : Nat) : List D := (List.range n).map fun k => .int (lo + (k : Nat))
/-- an end of a range -/
structure InRg (j : Int) : Prop where
  lo : -(2 ^ 62) ≤ j
  hi : j < 2 ^ 62
noncomputable def fRg1 (f : FE) : FI := fun s A => (f s A).bind fun d A1 => match d with
  | .int j => if InRg j then .ok ⟨rngL 0 j.toNat, yes⟩ A1 else .bad
  | _ => .bad
noncomputable def fRg2 (f g : FE) : FI := fun s A => (f s A).bind fun d A1 => (g s A1).bind fun e A2 => match d, e with
  | .int i, .int j => if InRg i ∧ InRg j then .ok ⟨rngL i (j - i).toNat, yes⟩ A2 else .bad
  | _, _ => .bad
def enumL (k : Nat) : List D → List D
  | [] => []
  | d :: ds => .tup [.int k, d] :: enumL (k + 1) ds
def fEnum (f : FE) : FI := fun s A => (f s A).bind fun d A1 => match rdL A1 d with
  | some ds => .ok ⟨enumL 0 ds, fun A' => rdL A' d = some ds⟩ A1
  | none => .bad
def zipD : List D → List D → List D
  | a :: as, b :: bs => .tup [a, b] :: zipD as bs
  | _, _ => []
section
variable {K : PySem.W.Frag} {ρ : List Addr} {H : Hp}
theorem itr_rel (lo : Int) (n : Nat) : ItRel K (Itr lo n) ρ H ⟨rngL lo n, yes⟩ := fun i ρ' H' A e R _ => by
  have hl : (rngL lo n).length = n := by simp [rngL]
  refine ⟨fun d hd => ?_, fun h _ => by rw [show (Src.items ⟨rngL lo n, yes⟩).length = n from hl] at h; exact h⟩
  have hd : (rngL lo n)[i]? = some d := hd
  have hi : i < n := by have := (List.getElem?_eq_some_iff.mp hd).1; rwa [hl] at this
  refine ⟨hi, fun x H2 hy => ?_⟩
  obtain ⟨rfl, rfl⟩ := hy
  refine ⟨.refl, R, ?_⟩
  simp [rngL, hi] at hd
  subst hd
  rfl
theorem its_rel (x : Str) : ItRel K (Its x) ρ H ⟨x.cps.toList.map fun c => .str ⟨#[c]⟩, yes⟩ := fun i ρ' H' A e R _ => by
  refine ⟨fun d hd => ?_, fun h _ => by simpa [Its] using h⟩
  have hd : (x.cps.toList.map fun c => D.str ⟨#[c]⟩)[i]? = some d := hd
  rw [List.getElem?_map] at hd
  cases ec : x.cps.toList[i]? with
  | none => rw [ec] at hd; cases hd
  | some c =>
    rw [ec] at hd
    cases hd
    have hi : i < x.cps.size := by have := (List.getElem?_eq_some_iff.mp ec).1; simpa using this
    refine ⟨hi, fun y H2 hy => ?_⟩
    obtain ⟨rfl, c', h1, rfl⟩ := hy
    refine ⟨.refl, R, ?_⟩
    rw [← Array.getElem?_toList, ec] at h1
    cases h1
    rfl
theorem itt_rel {a : Addr} {xs : List V} {ds : List D} (h : SqT K H a xs) (r : RpL K ρ H ds xs) : ItRel K (Itt K a) ρ H ⟨ds, yes⟩ := fun i ρ' H' A e R _ => by
  have h' := e.gr _ _ h
  have r' := r.ext e
  refine ⟨fun d hd => ?_, fun hl _ => ⟨xs, h', by rw [r'.length]; exact hl⟩⟩
  obtain ⟨v, q1, q2⟩ := r'.get (show ds[i]? = some d from hd)
  refine ⟨⟨xs, v, h', q1⟩, fun x H2 hy => ?_⟩
  obtain ⟨rfl, fv⟩ := hy
  have := fv _ h'
  rw [q1] at this; cases this
  exact ⟨.refl, R, q2⟩
theorem itl_rel {a : Addr} {n : Nat} {ds : List D} (ha : ρ[n]? = some a) : ItRel K (Itl K a) ρ H ⟨ds, fun A => rdL A (.ref n) = some ds⟩ := fun i ρ' H' A e R ok => by
  have ha' := e.at_ ha
  have r0 : Rp K ρ' H' (.ref n) (.ref a) := ⟨a, ha', rfl⟩
  obtain ⟨b, xs, eb, h', r'⟩ := rdL_ok R r0 ok
  cases eb
  refine ⟨fun d hd => ?_, fun hl _ => ⟨xs, h', by rw [r'.length]; exact hl⟩⟩
  obtain ⟨v, q1, q2⟩ := r'.get (show ds[i]? = some d from hd)
  refine ⟨⟨xs, v, h', q1⟩, fun x H2 hy => ?_⟩
  obtain ⟨rfl, fv⟩ := hy
  have := fv _ h'
  rw [q1] at this; cases this
  exact ⟨.refl, R, q2⟩
end
section
variable {X : Cx} {E : XK} {tg e e2 : Expr} {f g : FE} {p pos : Pos}
theorem ai_seq (he : AE X E e f) : AI X E tg e (fItS f) := ⟨fun pins s σ H R I h => by
  obtain ⟨ρ, st, A, hs, Rl, h⟩ := h
  have base : ∀ {Q : VK}, (∀ v H1 ρ1 d A1, f st A = .ok d A1 → Ext X.K ρ H ρ1 H1 → Rel X.K ρ1 H1 A1 → Rp X.K ρ1 H1 d v → OutI X.K E ρ1 H1 (iSeq d A1) R → Q v H1) → tA X.K E f σ H Q := fun {Q} k =>
    ⟨ρ, st, A, hs, Rl, (Out.bindI h).mono fun v H1 ⟨ρ1, d, A1, q0, q1, q2, q3, q4⟩ => k v H1 ρ1 d A1 q0 q1 q2 q3 q4⟩
  cases ef : f st A with
  | bad => unfold fItS at h; rw [ef] at h; exact h.elim
  | exc C fs A1 =>
    refine (pi_tup he).run pins s σ H R I (base fun v H1 ρ1 d A1 q0 _ _ _ _ => ?_)
    rw [ef] at q0; cases q0
  | ok d0 A0 =>
    cases d0 with
    | tup ds =>
      refine (pi_tup he).run pins s σ H R I (base fun v H1 ρ1 d A1 q0 q1 q2 q3 q4 => ?_)
      rw [ef] at q0; cases q0
      obtain ⟨a, xs, rfl, z1, z2⟩ := q3
      exact ⟨a, rfl, ⟨xs, z1⟩, q4 ρ1 H1 _ .refl q2 (itt_rel z1 z2)⟩
    | str x =>
      refine (pi_str he).run pins s σ H R I (base fun v H1 ρ1 d A1 q0 q1 q2 q3 q4 => ?_)
      rw [ef] at q0; cases q0
      cases q3
      exact ⟨x, rfl, q4 ρ1 H1 _ .refl q2 (its_rel x)⟩
    | ref n =>
      refine (pi_list he).run pins s σ H R I (base fun v H1 ρ1 d A1 q0 q1 q2 q3 q4 => ?_)
      rw [ef] at q0; cases q0
      unfold iSeq at q4
      simp only at q4
      split at q4
      · rename_i ds e4
        obtain ⟨a, xs, rfl, z1, z2⟩ := rdL_ok q2 q3 e4
        obtain ⟨b, hb, eb⟩ := q3
        cases eb
        exact ⟨a, rfl, ⟨xs, z1⟩, q4 ρ1 H1 _ .refl q2 (itl_rel hb)⟩
      · exact q4.elim
    | non => exact absurd ((base (Q := fun _ _ => False) fun v H1 ρ1 d A1 q0 q1 q2 q3 q4 => by rw [ef] at q0; cases q0; exact q4)) (fun z => by
        unfold fItS at h; rw [ef] at h; exact h)
    | bl b => unfold fItS at h; rw [ef] at h; exact h.elim
    | int b => unfold fItS at h; rw [ef] at h; exact h.elim⟩
theorem ai_rg1 (hg : Gl X "range") (hm : X.mg "range" = none) (he : AE X E e f) (h1 : starEach [e] X.env = (false, eval e X.env) :: starEach [] X.env := by rfl) : AI X E tg (.Call (.Name "range" p) [e] [] pos) (fRg1 f) := pi_mono (pi_range1 (hs := h1) hg hm (aa_cons he aa_nil h1)) fun σ H Q h => by
  obtain ⟨ρ, s, A, hs, R, h⟩ := h
  have ef : fRg1 f s A = (fCons f fNil s A).bind fun ds A1 => match ds with
      | [.int j] => if InRg j then .ok ⟨rngL 0 j.toNat, yes⟩ A1 else .bad
      | _ => .bad := by
    unfold fRg1 fCons fNil
    cases f s A with
    | bad => rfl
    | exc _ _ _ => rfl
    | ok d A1 => cases d <;> rfl
  rw [ef] at h
  refine ⟨ρ, s, A, hs, R, (Out.bindI h).mono fun xs H1 ⟨ρ1, ds, A1, _, e1, R1, r1, h1⟩ => ?_⟩
  split at h1
  · split at h1
    · rename_i j _ z
      obtain ⟨x, rfl, r2⟩ := r1.one_inv
      cases r2
      exact ⟨j, rfl, z.lo, z.hi, h1 ρ1 H1 _ .refl R1 (itr_rel 0 _)⟩
    · exact h1.elim
  · exact h1.elim
theorem ai_rg2 (hg : Gl X "range") (hm : X.mg "range" = none) (he : AE X E e f) (he2 : AE X E e2 g) (h1 : starEach [e, e2] X.env = (false, eval e X.env) :: starEach [e2] X.env := by rfl) (h2 : starEach [e2] X.env = (false, eval e2 X.env) :: starEach [] X.env := by rfl) :
    AI X E tg (.Call (.Name "range" p) [e, e2] [] pos) (fRg2 f g) := pi_mono (pi_range2 (hs := h1.trans (by rw [h2]; rfl)) (hs2 := h2) hg hm (aa_cons he (aa_cons he2 aa_nil h2) h1)) fun σ H Q h => by
  obtain ⟨ρ, s, A, hs, R, h⟩ := h
  have ef : fRg2 f g s A = (fCons f (fCons g fNil) s A).bind fun ds A1 => match ds with
      | [.int i, .int j] => if InRg i ∧ InRg j then .ok ⟨rngL i (j - i).toNat, yes⟩ A1 else .bad
      | _ => .bad := by
    unfold fRg2 fCons
    cases f s A with
    | bad => rfl
    | exc _ _ _ => rfl
    | ok d A1 =>
      show (g s A1).bind _ = Res.bind (Res.bind (fCons g fNil s A1) _) _
      unfold fCons fNil
      cases g s A1 with
      | bad => rfl
      | exc _ _ _ => rfl
      | ok d' A2 => cases d <;> cases d' <;> rfl
  rw [ef] at h
  refine ⟨ρ, s, A, hs, R, (Out.bindI h).mono fun xs H1 ⟨ρ1, ds, A1, _, e1, R1, r1, h1⟩ => ?_⟩
  split at h1
  · split at h1
    · rename_i i j _ z
      obtain ⟨x, y, rfl, r2, r3⟩ := r1.two_inv
      cases r2; cases r3
      exact ⟨i, j, rfl, ⟨z.1.lo, z.1.hi, z.2.lo, z.2.hi⟩, h1 ρ1 H1 _ .refl R1 (itr_rel i _)⟩
    · exact h1.elim
  · exact h1.elim
end

/-! ## for, while -/
noncomputable def loopD (ok : AH → Prop) (g : FG) (body : FS) : List D → FS
  | [], s, A => if ok A then .ok (.nx s) A else .bad
  | d :: ds, s, A => if ok A then (g d s A).bind fun s1 A1 => (match body s1 A1 with
    | .ok (.nx s2) A2 => loopD ok g body ds s2 A2
    | .ok (.ct s2) A2 => loopD ok g body ds s2 A2
    | .ok (.bk s2) A2 => .ok (.nx s2) A2
    | r => r) else .bad
noncomputable def fFor (src : FI) (g : FG) (body : FS) : FS := fun s A => (src s A).bind fun S A1 => loopD S.ok g body S.items s A1
def loopW (c : FT) (body : FS) : Nat → FS
  | 0, _, _ => .bad
  | n + 1, s, A => (c s A).bind fun b A1 => if b = true then (match body s A1 with
    | .ok (.nx s2) A2 => loopW c body n s2 A2
    | .ok (.ct s2) A2 => loopW c body n s2 A2
    | .ok (.bk s2) A2 => .ok (.nx s2) A2
    | r => r) else .ok (.nx s) A1
section
variable {X : Cx} {E : XK} {tg iter c : Expr} {body : List Stmt} {src : FI} {g : FG} {p : FS} {t : FT} {pos : Pos}
theorem as_for (hp : PassesOwn (model X.prog X.w) X.A X.env X.xe) (hc : X.calm = true) (hi : AI X E tg iter src) (hg : AG X E tg g) (hb : ASs X E body p) (hs : ∀ x, foldedSetIterable iter X.env x = pure x := by intro _; rfl) :
    AS X E (.For tg iter body [] pos) (fFor src g p) := ps_mono (ps_for hp hc hi hg hb hs) fun G σ H h => by
  obtain ⟨ρ, s, A, hs, R, h⟩ := h
  refine ⟨ρ, s, A, hs, R, (OutI.bindS h).mono fun J H1 ⟨ρ1, S, A1, _, e1, R1, J1, h1⟩ => ?_⟩
  refine ⟨fun i m σ' H' => m = S.items.length - i ∧ i ≤ S.items.length ∧ ∃ ρ' s' A', Ext X.K ρ1 H1 ρ' H' ∧ SRel X.K ρ' H' s' σ' ∧ Rel X.K ρ' H' A' ∧ SOut X.K E ρ' H' (loopD S.ok g p (S.items.drop i) s' A') G, ⟨_, rfl, Nat.zero_le _, ρ1, s, A1, .refl, hs.ext e1, R1, by simpa using h1⟩, ?_⟩
  rintro i m σ' H' ⟨rfl, hi, ρ', s', A', e2, hs2, R2, h2⟩
  by_cases hl : i < S.items.length
  · obtain ⟨d, hd⟩ : ∃ d, S.items[i]? = some d := ⟨_, List.getElem?_eq_getElem hl⟩
    have ed : S.items.drop i = d :: S.items.drop (i + 1) := by
      rw [List.drop_eq_getElem_cons hl]
      rw [List.getElem?_eq_getElem hl] at hd
      cases hd; rfl
    rw [ed] at h2
    unfold loopD at h2
    split at h2
    · rename_i ok
      obtain ⟨go, yl⟩ := (J1 i ρ' H' A' e2 R2 ok).1 d hd
      refine .inr ⟨go, fun σ3 H3 => ∃ ρ3 s3 A3, Ext X.K ρ1 H1 ρ3 H3 ∧ SRel X.K ρ3 H3 s3 σ3 ∧ Rel X.K ρ3 H3 A3 ∧ SOut X.K E ρ3 H3 (loopD S.ok g p (S.items.drop (i + 1)) s3 A3) G, fun σ3 H3 h3 => ⟨_, by omega, rfl, hl, h3⟩, fun x H3 hy => ?_⟩
      obtain ⟨e3, R3, r3⟩ := yl x H3 hy
      refine ⟨ρ', s', A', d, hs2.ext e3, R3, r3, (OutG.bindS (h2.ext e3)).mono fun σ4 H4 ⟨ρ4, s4, A4, _, e4, R4, hs4, h4⟩ => ?_⟩
      refine ⟨ρ4, s4, A4, hs4, R4, ?_⟩
      have e5 := e2.trans (e3.trans e4)
      cases eb : p s4 A4 with
      | bad => rw [eb] at h4; exact h4
      | exc C fs A5 => rw [eb] at h4; exact h4
      | ok fl A5 =>
        rw [eb] at h4
        cases fl with
        | nx s5 => exact fun ρ5 H5 σ5 e6 R5 hs5 => ⟨ρ5, s5, A5, e5.trans e6, hs5, R5, h4.ext e6⟩
        | ct s5 => exact fun ρ5 H5 σ5 e6 R5 hs5 => ⟨ρ5, s5, A5, e5.trans e6, hs5, R5, h4.ext e6⟩
        | bk s5 => exact h4
        | rt d => exact h4
    · exact h2.elim
  · have ei : i = S.items.length := by omega
    have ed : S.items.drop i = [] := List.drop_eq_nil_of_le (by omega)
    rw [ed] at h2
    unfold loopD at h2
    split at h2
    · rename_i ok
      exact .inl ⟨(J1 i ρ' H' A' e2 R2 ok).2 (by omega) ei.symm, h2 ρ' H' σ' .refl R2 hs2⟩
    · exact h2.elim
theorem as_while (n : Nat) (hp : PassesOwn (model X.prog X.w) X.A X.env X.xe) (hc : AT X E c t) (hb : ASs X E body p) : AS X E (.While c body [] pos) (loopW t p n) := ps_mono (ps_while hp hc hb) fun G σ H h => by
  obtain ⟨ρ, s, A, hs, R, h⟩ := h
  refine ⟨fun m σ' H' => ∃ ρ' s' A', SRel X.K ρ' H' s' σ' ∧ Rel X.K ρ' H' A' ∧ SOut X.K E ρ' H' (loopW t p m s' A') G, ⟨n, ρ, s, A, hs, R, h⟩, ?_⟩
  rintro m σ' H' ⟨ρ', s', A', hs2, R2, h2⟩
  cases m with
  | zero => exact h2.elim
  | succ m =>
    refine ⟨ρ', s', A', hs2, R2, (Out.bindS h2).mono fun x H3 ⟨ρ3, b, A3, _, e3, R3, r3, h3⟩ => ?_⟩
    cases r3
    cases x with
    | true =>
      rw [if_pos rfl]
      refine ⟨fun σ3 H3 => ∃ ρ3 s3 A3, SRel X.K ρ3 H3 s3 σ3 ∧ Rel X.K ρ3 H3 A3 ∧ SOut X.K E ρ3 H3 (loopW t p m s3 A3) G, fun σ3 H3 h3 => ⟨m, by omega, h3⟩, ?_⟩
      refine ⟨ρ3, s', A3, hs2.ext e3, R3, ?_⟩
      rw [if_pos rfl] at h3
      cases eb : p s' A3 with
      | bad => rw [eb] at h3; exact h3
      | exc C fs A5 => rw [eb] at h3; exact h3
      | ok fl A5 =>
        rw [eb] at h3
        cases fl with
        | nx s5 => exact fun ρ5 H5 σ5 e6 R5 hs5 => ⟨ρ5, s5, A5, hs5, R5, h3.ext e6⟩
        | ct s5 => exact fun ρ5 H5 σ5 e6 R5 hs5 => ⟨ρ5, s5, A5, hs5, R5, h3.ext e6⟩
        | bk s5 => exact h3
        | rt d => exact h3
    | false =>
      rw [if_neg Bool.false_ne_true]
      exact h3 ρ3 H3 σ' .refl R3 (hs2.ext e3)
end
end Ab

namespace Ab
open PySem PySem.Spec PyProof.Rows L2
open scoped Classical

/-! ## list comprehensions: the new list is a cell from the start -/
def wipeA (s : ASt) : List Nat → ASt
  | [] => s
  | v :: vs => (wipeA s vs).set v none
noncomputable def loopC (ok : AH → Prop) (g : FG) (t : FT) (f : FE) (n : Nat) (s : ASt) : List D → AH → Res D
  | [], A => if ok A then .ok (.ref n) A else .bad
  | d :: ds, A => if ok A then (g d s A).bind fun s1 A1 => (t s1 A1).bind fun b A2 => if b = true then (f s1 A2).bind fun y A3 => (match A3[n]? with
      | some (.lst acc) => if acc.length < sizeLine then loopC ok g t f n s ds (A3.set n (.lst (acc ++ [y]))) else .bad
      | _ => .bad) else loopC ok g t f n s ds A2 else .bad
noncomputable def fLc (src : FI) (g : FG) (t : FT) (f : FE) (vs : List Nat) : FE := fun s A => (src s A).bind fun S A1 => loopC S.ok g t f A1.length (wipeA s vs) S.items (A1 ++ [.lst []])
def fYes : FT := fun _ A => .ok true A
section
variable {K : PySem.W.Frag} {E : XK} {ρ : List Addr} {H : Hp} {s : ASt} {σ : L2.St}
theorem SRel.wipes (h : SRel K ρ H s σ) : ∀ vs : List Nat, SRel K ρ H (wipeA s vs) (L2.wipe σ vs)
  | [] => h
  | v :: vs => SRel.wipe (h.wipes vs) v
theorem wipe_set (i : Nat) (x : Option V) : ∀ (vs : List Nat) (σ : L2.St), i ∈ vs → L2.wipe (σ.set i x) vs = L2.wipe σ vs
  | [], σ, h => by cases h
  | v :: vs, σ, h => by
    show (L2.wipe (σ.set i x) vs).set v none = (L2.wipe σ vs).set v none
    by_cases e : i ∈ vs
    · rw [wipe_set i x vs σ e]
    · have ei : i = v := by rcases List.mem_cons.mp h with q | q; exact q; exact absurd q e
      subst ei
      have comm : ∀ (ws : List Nat), i ∉ ws → L2.wipe (σ.set i x) ws = (L2.wipe σ ws).set i x := by
        intro ws
        induction ws with
        | nil => intro _; rfl
        | cons w ws ih =>
          intro hn
          have h1 : i ≠ w := fun z => hn (by rw [z]; exact List.mem_cons_self)
          have h2 : i ∉ ws := fun z => hn (List.mem_cons_of_mem _ z)
          show (L2.wipe (σ.set i x) ws).set w none = ((L2.wipe σ ws).set w none).set i x
          rw [ih h2, List.set_comm _ _ h1]
      rw [comm vs e, List.set_set]
/-- a target whose stores the block forgets again -/
structure Tgt (K : PySem.W.Frag) (vs : List Nat) (t : TG) (g : FG) : Prop where
  det : ∀ d s A, g d s A = .bad ∨ ∃ s1, g d s A = .ok s1 A
  to : ∀ (ρ : List Addr) (H : Hp) (s : ASt) (σ : L2.St) (A : AH) (d : D) (v : V) (s1 : ASt) (Q : L2.St → Hp → Prop), SRel K ρ H s σ → Rp K ρ H d v → g d s A = .ok s1 A → (∀ σ1, SRel K ρ H s1 σ1 → L2.wipe σ1 vs = L2.wipe σ vs → Q σ1 H) → t v σ H Q
structure Tgts (K : PySem.W.Frag) (vs : List Nat) (t : TGs) (g : FGs) : Prop where
  det : ∀ d s A, g d s A = .bad ∨ ∃ s1, g d s A = .ok s1 A
  to : ∀ (ρ : List Addr) (H : Hp) (s : ASt) (σ : L2.St) (A : AH) (d : List D) (v : List V) (s1 : ASt) (Q : L2.St → Hp → Prop), SRel K ρ H s σ → RpL K ρ H d v → g d s A = .ok s1 A → (∀ σ1, SRel K ρ H s1 σ1 → L2.wipe σ1 vs = L2.wipe σ vs → Q σ1 H) → t v σ H Q
theorem tgt_name {vs : List Nat} {i : Nat} (h : i ∈ vs) : Tgt K vs (gName i) (gN i) := ⟨fun d s A => .inr ⟨_, rfl⟩, fun ρ H s σ A d v s1 Q hs r e q => by
  cases e
  exact q _ (hs.set i r) (wipe_set i _ vs σ h)⟩
theorem tgts_nil {vs : List Nat} : Tgts K vs gNil gNl := ⟨fun d s A => by
  cases d with
  | nil => exact .inr ⟨_, rfl⟩
  | cons _ _ => exact .inl rfl, fun ρ H s σ A d v s1 Q hs r e q => by
  cases d with
  | nil => cases e; exact ⟨r, q _ hs rfl⟩
  | cons _ _ => cases e⟩
theorem tgts_cons {vs : List Nat} {i : Nat} {u : TGs} {gs : FGs} (h : i ∈ vs) (h2 : Tgts K vs u gs) : Tgts K vs (gCons (gName i) u) (gCs (gN i) gs) := ⟨fun d s A => by
  cases d with
  | nil => exact .inl rfl
  | cons d ds => exact h2.det ds _ A, fun ρ H s σ A d v s1 Q hs r e q => by
  cases d with
  | nil => cases e
  | cons d ds =>
    obtain ⟨x, xs, rfl, r1, r2⟩ := r
    exact ⟨x, xs, rfl, h2.to ρ H _ _ A ds xs s1 Q (hs.set i r1) r2 e fun σ1 hs1 w => q σ1 hs1 (w.trans (wipe_set i _ vs σ h))⟩⟩
theorem tgt_tup {vs : List Nat} {n : Nat} {u : TGs} {gs : FGs} (h : Tgts K vs u gs) : Tgt K vs (gTup K n u) (gTp n gs) := ⟨fun d s A => by
  cases d with
  | tup ds =>
    show (if ds.length = n then gs ds s A else .bad) = .bad ∨ ∃ s1, (if ds.length = n then gs ds s A else .bad) = .ok s1 A
    split
    · exact h.det ds s A
    · exact .inl rfl
  | _ => exact .inl rfl, fun ρ H s σ A d v s1 Q hs r e q => by
  cases d with
  | tup ds =>
    have e : (if ds.length = n then gs ds s A else .bad) = .ok s1 A := e
    split at e
    · rename_i z
      obtain ⟨a, xs, rfl, q1, q2⟩ := r
      exact ⟨a, xs, rfl, q1, by rw [q2.length]; exact z, h.to ρ H s σ A ds xs s1 Q hs q2 e q⟩
    · cases e
  | _ => cases e⟩
end
section
variable {X : Cx} {E : XK} {elt tg iter : Expr} {ifs : List Expr} {scope : Scope} {own : List (Str × Nat)} {pos : Pos} {src : FI} {tgg : TG} {g : FG} {t : FT} {f : FE}
abbrev ATs (X : Cx) (E : XK) (ifs : List Expr) (t : FT) : Prop := PTs X ifs (tAT X.K E t)
theorem ats_nil : ATs X E [] fYes := ⟨fun pins s σ H Q I h => pts_nil.run pins s σ H Q I (by
  obtain ⟨ρ, s, A, hs, R, h⟩ := h
  exact Out.now h R rfl)⟩
theorem ats_one {c : Expr} (h : AT X E c t) : ATs X E [c] t := pts_one h
theorem lc_read {K : PySem.W.Frag} {vs : List Nat} (tt : Tgt K vs tgg g) {σ : L2.St} {H : Hp} {Q : VK} (h : tA K E (fLc src g t f vs) σ H Q) :
    tLc (tAI K E src) tgg (tAT K E t) (tA K E f) vs σ H Q := by
  obtain ⟨ρ, s, A, hs, R, h⟩ := h
  refine ⟨ρ, s, A, hs, R, (OutI.bindO h).mono fun J H1 ⟨ρ1, S, A1, _, e1, R1, J1, h1⟩ => fun L hL => ?_⟩
  have eL : Ext K ρ1 H1 (ρ1 ++ [L]) (L2.upd H1 L (.lst [])) := Ext.new hL [L]
  have RL : Rel K (ρ1 ++ [L]) (L2.upd H1 L (.lst [])) (A1 ++ [.lst []]) := R1.new hL ⟨[], upd_same, rfl⟩
  have nL : (ρ1 ++ [L])[A1.length]? = some L := by rw [← R1.len]; simp
  refine ⟨fun i m H' => m = S.items.length - i ∧ i ≤ S.items.length ∧ ∃ ρ' A', Ext K (ρ1 ++ [L]) (L2.upd H1 L (.lst [])) ρ' H' ∧ Rel K ρ' H' A' ∧ OutE K E ρ' H' (loopC S.ok g t f A1.length (wipeA s vs) (S.items.drop i) A') Q,
    ⟨_, rfl, Nat.zero_le _, _, _, .refl, RL, by simpa using h1.ext eL⟩, ?_⟩
  rintro i m H' ⟨rfl, hi, ρ', A', e2, R2, h2⟩
  have hs2 : SRel K ρ' H' (wipeA s vs) (L2.wipe σ vs) := (hs.wipes _).ext (e1.trans (eL.trans e2))
  have fL : ∀ {ρ3 : List Addr} {H3 : Hp}, Ext K ρ' H' ρ3 H3 → ρ3[A1.length]? = some L := fun e => (e2.trans e).at_ nL
  by_cases hl : i < S.items.length
  · obtain ⟨d, hd⟩ : ∃ d, S.items[i]? = some d := ⟨_, List.getElem?_eq_getElem hl⟩
    have ed : S.items.drop i = d :: S.items.drop (i + 1) := by
      rw [List.drop_eq_getElem_cons hl]
      rw [List.getElem?_eq_getElem hl] at hd
      cases hd; rfl
    rw [ed] at h2
    unfold loopC at h2
    split at h2
    · rename_i ok
      obtain ⟨go, yl⟩ := (J1 i ρ' H' A' (eL.trans e2) R2 ok).1 d hd
      refine .inr ⟨go, fun H3 => ∃ ρ3 A3, Ext K (ρ1 ++ [L]) (L2.upd H1 L (.lst [])) ρ3 H3 ∧ Rel K ρ3 H3 A3 ∧ OutE K E ρ3 H3 (loopC S.ok g t f A1.length (wipeA s vs) (S.items.drop (i + 1)) A3) Q, fun H3 h3 => ⟨_, by omega, rfl, hl, h3⟩, fun x H3 hy => ?_⟩
      obtain ⟨e3, R3, r3⟩ := yl x H3 hy
      have h2 := h2.ext e3
      rcases tt.det d (wipeA s vs) A' with eg | ⟨s1, eg⟩
      · rw [eg] at h2; exact h2.elim
      · rw [eg] at h2
        change Out K E (fun ρ H d v => Rp K ρ H d v) ρ' H3 ((t s1 A').bind fun b A2 => _) Q at h2
        refine tt.to ρ' H3 _ _ A' d x s1 _ (hs2.ext e3) r3 eg fun σ1 hs3 w => ⟨w.trans ?_, ρ', s1, A', hs3, R3, (Out.bind h2).mono fun b H4 ⟨ρ4, b', A4, _, e4, R4, r4, h4⟩ => ?_⟩
        · have ww : ∀ (us ws : List Nat), (∀ i ∈ us, i ∈ ws) → L2.wipe (L2.wipe σ us) ws = L2.wipe σ ws := by
            intro us
            induction us with
            | nil => intro ws _; rfl
            | cons u us ih =>
              intro ws hw
              show L2.wipe ((L2.wipe σ us).set u none) ws = _
              rw [wipe_set u none ws _ (hw u List.mem_cons_self)]
              exact ih ws fun i hi => hw i (List.mem_cons_of_mem _ hi)
          exact ww vs vs fun i h => h
        · cases r4
          cases b with
          | false =>
            rw [if_neg Bool.false_ne_true] at h4 ⊢
            exact ⟨ρ4, A4, e2.trans (e3.trans e4), R4, h4⟩
          | true =>
            rw [if_pos rfl] at h4 ⊢
            refine ⟨ρ4, s1, A4, hs3.ext e4, R4, (Out.bind h4).mono fun y H5 ⟨ρ5, d5, A5, _, e5, R5, r5, h5⟩ => ?_⟩
            have e35 := e3.trans (e4.trans e5)
            split at h5
            · rename_i acc eA
              split at h5
              · rename_i z
                obtain ⟨a, ha, us, q1, q2⟩ := R5.ob _ _ eA
                rw [fL e35] at ha; cases ha
                have u := upd_lst (ds := acc) R5 (fL e35) eA q1 (q2.append (RpL.one r5))
                exact ⟨us, q1, by rw [q2.length]; exact z, ρ5, _, e2.trans (e35.trans u.1), u.2, h5.ext u.1⟩
              · exact h5.elim
            · exact h5.elim
    · exact h2.elim
  · have ei : i = S.items.length := by omega
    have ed : S.items.drop i = [] := List.drop_eq_nil_of_le (by omega)
    rw [ed] at h2
    unfold loopC at h2
    split at h2
    · rename_i ok
      exact .inl ⟨(J1 i ρ' H' A' (eL.trans e2) R2 ok).2 (by omega) ei.symm, h2.now R2 ⟨L, fL .refl, rfl⟩⟩
    · exact h2.elim
abbrev Blk (X : Cx) (scope : Scope) (P : Cx → Prop) : Prop := ∀ (s : Shared) (H : Hp) (C : Addr) (cl : List (Str × Addr)) (fp : List Addr), P (X.blk s H scope (compEnvC scope cl C X.env) fp)
theorem ae_lc (own : List (Str × Nat)) (hc : X.calm = true) (hN : X.N.Nodup) (hi : AI X E tg iter src) (ok : BlkOk X.N X.env.scope scope own) (tt : Tgt X.K (own.map (·.2)) tgg g)
    (hg : Blk X scope fun Y => PG Y tg tgg) (ht : Blk X scope fun Y => ATs Y E ifs t) (he : Blk X scope fun Y => AE Y E elt f) (hs : ∀ x, foldedSetIterable iter X.env x = pure x := by intro _; rfl) :
    AE X E (.ListComp elt [⟨tg, iter, ifs, 0⟩] scope pos) (fLc src g t f (own.map (·.2))) := pe_mono (pe_lc hc hN hi ok hg ht he hs) fun _ _ _ => lc_read tt
/-- name = [..] -/
theorem as_setLc (own : List (Str × Nat)) {i : Nat} {y : Str} {py spos : Pos} (hc : X.calm = true) (hN : X.N.Nodup) (hi : AI X E tg iter src) (ok : BlkOk X.N X.env.scope scope own) (tt : Tgt X.K (own.map (·.2)) tgg g)
    (hg : Blk X scope fun Y => PG Y tg tgg) (ht : Blk X scope fun Y => ATs Y E ifs t) (he : Blk X scope fun Y => AE Y E elt f) (hsw : swapsWith (.ListComp elt [⟨tg, iter, ifs, 0⟩] scope pos) (some (.Name y py)) spos.line X.env = pure true)
    (hy : X.N[i]? = some y := by rfl) (hyl : X.env.scope.names.lookup y = some .local := by rfl) (hs : ∀ x, foldedSetIterable iter X.env x = pure x := by intro _; rfl) :
    AS X E (.Assign [.Name y py] (.ListComp elt [⟨tg, iter, ifs, 0⟩] scope pos) spos) (fSet (fLc src g t f (own.map (·.2))) i) := ps_mono (ps_setLc (tt := tAT X.K E t) (te := tA X.K E f) hc hN hy hyl hsw hi ok hg ht he hs) fun G σ H h => by
  refine lc_read (t := t) (f := f) tt ?_
  obtain ⟨ρ, s, A, hs, R, h⟩ := h
  exact ⟨ρ, s, A, hs, R, (Out.bindS h).mono fun x H1 ⟨ρ1, d, A1, _, e1, R1, r1, h1⟩ => h1 ρ1 H1 _ .refl R1 ((hs.ext e1).set i r1)⟩
end

/-! ## isinstance of a built-in type -/
def tyN (A : AH) : D → Option String
  | .non => some "NoneType"
  | .bl _ => some "bool"
  | .int _ => some "int"
  | .str _ => some "str"
  | .tup _ => some "tuple"
  | .ref i => match A[i]? with
    | some (.lst _) => some "list"
    | some (.frz _) => some "list"
    | some (.dic _) => some "dict"
    | _ => none
def isiD (T : String) (d : D) (A : AH) : Res D := match tyN A d with
  | some t => match kitB t T with
    | some b => .ok (.bl b) A
    | none => .bad
  | none => .bad
theorem tyN_ok {K : PySem.W.Frag} {ρ : List Addr} {H : Hp} {A : AH} {d : D} {v : V} {t : String} (R : Rel K ρ H A) (r : Rp K ρ H d v) (h : tyN A d = some t) : TyX K H v (.type t) := by
  cases d with
  | non => cases r; cases h; exact .base .non
  | bl b => cases r; cases h; exact .base (.bl b)
  | int i => cases r; cases h; exact .base (.int i)
  | str x => cases r; cases h; exact .base (.str x)
  | tup ds =>
    obtain ⟨a, xs, rfl, q, _⟩ := r
    cases h
    rcases q with (q | ⟨o, q⟩) | ⟨o, its, n, q1, q2, _⟩
    · exact .base (.tup q)
    · exact .fTuple q
    · exact .kTuple q1 q2
  | ref i =>
    obtain ⟨a, h1, rfl⟩ := r
    obtain ⟨o, h2, h3⟩ := R.has h1
    unfold tyN at h
    simp only [h2] at h
    cases o with
    | lst xs => cases h; obtain ⟨us, e1, _⟩ := h3; exact .base (.lst e1)
    | frz xs =>
      cases h
      obtain ⟨us, e1, _⟩ := h3
      rcases e1 with ⟨o, e1⟩ | (e1 | ⟨o, e1⟩) | ⟨o, its, n, q1, q2, _⟩
      · exact .base (.frz e1)
      · cases e1
      · cases e1
      · exact .kList q1 q2
    | dic xs => cases h; obtain ⟨us, e1, _⟩ := h3; exact .base (.dK e1)
    | ftp _ => cases h
    | fdk _ => cases h
    | ins _ _ => cases h
section
variable {X : Cx} {E : XK} {a : Expr} {f : FE} {p p2 pos : Pos}
theorem ae_isi {T : String} {x : Str} (hg : Gl X "isinstance") (hm : X.mg "isinstance" = none) (hg2 : Gl X x) (hm2 : X.mg x = none) (hv2 : bootBuiltins x = some (.type T)) (ha : AE X E a f) (hn : x ≠ "__name__" := by decide) (hdb : (x == ("__debug__" : Str)) = false := by decide)
    (h1 : starEach [a, .Name x p2] X.env = (false, eval a X.env) :: starEach [.Name x p2] X.env := by rfl) (h2 : starEach [.Name x p2] X.env = (false, eval (.Name x p2) X.env) :: starEach [] X.env := by rfl)
    (hpl : (backTo pos (starEach [.Name x p2] X.env)).any (·.1) = false := by rfl) (hv : bootBuiltins "isinstance" = some (.builtin "isinstance") := by decide +kernel) :
    AE X E (.Call (.Name "isinstance" p) [a, .Name x p2] [] pos) (fUn (isiD T) f) :=
  pe_mono (pe_callB (call_isi (X := X)) hg hm hv (pa_cons ha (pa_cons (pe_bltn (v := .ty T) hg2 hm2 hv2 rfl hn hdb) pa_nil h2) h1) (by decide) (by decide) h1 hpl) fun σ H Q h => by
    obtain ⟨ρ, s, A, hs, R, h⟩ := h
    refine ⟨ρ, s, A, hs, R, (Out.bind h).mono fun v H1 ⟨ρ1, d, A1, _, e1, R1, r1, h1⟩ => ?_⟩
    unfold isiD at h1
    split at h1
    · rename_i t e2
      split at h1
      · rename_i b e3
        exact ⟨v, .ty T, .type t, .type T, b, rfl, .ty T, tyN_ok R1 r1 e2, kit_ty e3, h1.now R1 rfl⟩
      · exact h1.elim
    · exact h1.elim
end

/-! ## methods of built-in types -/
def rM (K : PySem.W.Frag) (E : XK) (g : D → FM) : V → List V → Hp → VK → Prop := fun x xs H Q => ∃ ρ A d ds, Rel K ρ H A ∧ Rp K ρ H d x ∧ RpL K ρ H ds xs ∧ OutE K E ρ H (g d ds A) Q
abbrev AMt (X : Cx) (E : XK) (id : String) (g : D → FM) : Prop := MtR X id (rM X.K E g)
def isTy (T : String) (d : D) (A : AH) : Bool := match d with
  | .str _ => T == "str"
  | d => (T == "list" && (rdL A d).isSome) || (T == "dict" && (rdM A d).isSome)
def fMt0 (T : String) (g : D → FM) (fo : FE) : FE := fun s A => (fo s A).bind fun d A1 => if isTy T d A1 = true then g d [] A1 else .bad
def fMt (T : String) (g : D → FM) (fo : FE) (fa : FA) : FE := fun s A => (fo s A).bind fun d A1 => if isTy T d A1 = true then (fa s A1).bind fun ds A2 => g d ds A2 else .bad
theorem isTy_ok {K : PySem.W.Frag} {ρ : List Addr} {H : Hp} {A : AH} {T : String} {d : D} {v : V} (R : Rel K ρ H A) (r : Rp K ρ H d v) (h : isTy T d A = true) : tyV K T v H := by
  cases d with
  | str x => cases r; exact eq_of_beq h
  | ref i =>
    have h : (((T == "list") && (rdL A (.ref i)).isSome) || ((T == "dict") && (rdM A (.ref i)).isSome)) = true := h
    rw [Bool.or_eq_true, Bool.and_eq_true, Bool.and_eq_true] at h
    rcases h with ⟨h1, h2⟩ | ⟨h1, h2⟩
    · obtain ⟨xs, e⟩ := Option.isSome_iff_exists.mp h2
      obtain ⟨a, us, rfl, q, _⟩ := rdL_ok R r e
      exact .inl ⟨eq_of_beq h1, us, q⟩
    · obtain ⟨xs, e⟩ := Option.isSome_iff_exists.mp h2
      obtain ⟨_, a, us, _, rfl, _, _, q, _⟩ := rdM_ok R r e
      exact .inr (.inr (.inl ⟨eq_of_beq h1, .inl ⟨us, q⟩⟩))
  | non => simp [isTy, rdL, rdM] at h
  | bl b => simp [isTy, rdL, rdM] at h
  | int b => simp [isTy, rdL, rdM] at h
  | tup b => simp [isTy, rdL, rdM] at h
section
variable {X : Cx} {E : XK} {o e : Expr} {es : List Expr} {fo : FE} {fa : FA} {g : D → FM} {name : Str} {apos cpos : Pos} {T id : String}
theorem ae_mt0 (pa : PlainAttrs T) (slot : Slot T name id) (hty : typeOf (.builtin id) = pure (.type "method_descriptor")) (hm : AMt X E id g) (ho : AE X E o fo)
    (hbase : attributeBase o name X.env (eval o X.env) = eval o X.env := by rfl) (hline : (apos.endLine == cpos.line) = true := by rfl) : AE X E (.Call (.Attribute o name apos) [] [] cpos) (fMt0 T g fo) :=
  pe_mono (pe_bm0 pa slot hty hm ho hbase hline) fun σ H Q h => by
    obtain ⟨ρ, s, A, hs, R, h⟩ := h
    refine ⟨ρ, s, A, hs, R, (Out.bind h).mono fun v H1 ⟨ρ1, d, A1, _, e1, R1, r1, h1⟩ => ?_⟩
    split at h1
    · rename_i z
      exact ⟨isTy_ok R1 r1 z, ρ1, A1, d, [], R1, r1, rfl, h1⟩
    · exact h1.elim
theorem ae_mt (pa : PlainAttrs T) (slot : Slot T name id) (hty : typeOf (.builtin id) = pure (.type "method_descriptor")) (hm : AMt X E id g) (ho : AE X E o fo) (ha : AA X E (e :: es) fa)
    (hbase : attributeBase o name X.env (eval o X.env) = eval o X.env := by rfl)
    (hfew : ((backTo cpos (starEach (e :: es) X.env)).all (fun x => !x.1) && (backToKw cpos (keywordEach [] X.env)).all (fun x => x.1.isSome)
      && decide ((e :: es).length + ([] : List Keyword).length + (if ([] : List Keyword).isEmpty then 0 else 1) < 30)) = true := by rfl)
    (hline : (apos.endLine == cpos.line) = true := by rfl) (hs : starEach (e :: es) X.env = (false, eval e X.env) :: starEach es X.env := by rfl) (hplain : (backTo cpos (starEach es X.env)).any (·.1) = false := by rfl) :
    AE X E (.Call (.Attribute o name apos) (e :: es) [] cpos) (fMt T g fo fa) := pe_mono (pe_bm pa slot hty hm ho ha hbase hfew hline hs hplain) fun σ H Q h => by
  obtain ⟨ρ, s, A, hs, R, h⟩ := h
  refine ⟨ρ, s, A, hs, R, (Out.bind h).mono fun v H1 ⟨ρ1, d, A1, _, e1, R1, r1, h1⟩ => ?_⟩
  split at h1
  · rename_i z
    exact ⟨isTy_ok R1 r1 z, ρ1, s, A1, hs.ext e1, R1, (Out.bind h1).mono fun vs H2 ⟨ρ2, ds, A2, _, e2, R2, r2, h2⟩ => ⟨ρ2, A2, d, ds, R2, r1.ext e2, r2, h2⟩⟩
  · exact h1.elim
def appendD (d : D) : FM
  | [y], A => match d with
    | .ref n => match A[n]? with
      | some (.lst xs) => if xs.length < sizeLine then .ok .non (A.set n (.lst (xs ++ [y]))) else .bad
      | _ => .bad
    | _ => .bad
  | _, _ => .bad
theorem mtm_mono {id : String} {r r' : V → List V → Hp → VK → Prop} (h : MtR X id r) (m : ∀ x xs H Q, r' x xs H Q → r x xs H Q) : MtR X id r' := fun pins s σ H x xs v us Q I rx rs q => h pins s σ H x xs v us Q I rx rs (m _ _ _ _ q)
theorem amt_append : AMt X E "list.append" appendD := mtm_mono mt_append fun x xs H Q h => by
  obtain ⟨ρ, A, d, ds, R, r, rs, h⟩ := h
  unfold appendD at h
  split at h
  · split at h
    · split at h
      · split at h
        · rename_i xs' eA z
          obtain ⟨a, ha, rfl⟩ := r
          obtain ⟨a', ha', us, q1, q2⟩ := R.ob _ _ eA
          rw [ha] at ha'; cases ha'
          obtain ⟨y, rfl, ry⟩ := rs.one_inv
          have u := upd_lst (ds := xs') R ha eA q1 (q2.append (RpL.one ry))
          exact ⟨a, us, y, rfl, rfl, q1, by rw [q2.length]; exact z, h ρ _ .non u.1 u.2 rfl⟩
        · exact h.elim
      · exact h.elim
    · exact h.elim
  · exact h.elim
def extendD (d : D) : FM
  | [e], A => match d with
    | .ref n => match A[n]?, muL A e with
      | some (.lst xs), some ys => if xs.length + ys.length ≤ sizeLine then .ok .non (A.set n (.lst (xs ++ ys))) else .bad
      | _, _ => .bad
    | _ => .bad
  | _, _ => .bad
theorem amt_extend : AMt X E "list.extend" extendD := mtm_mono mt_extend fun x xs H Q h => by
  obtain ⟨ρ, A, d, ds, R, r, rs, h⟩ := h
  unfold extendD at h
  split at h
  · split at h
    · split at h
      · split at h
        · rename_i xs' ys eA eY z
          obtain ⟨a, ha, rfl⟩ := r
          obtain ⟨a', ha', us, q1, q2⟩ := R.ob _ _ eA
          rw [ha] at ha'; cases ha'
          obtain ⟨y, rfl, ry⟩ := rs.one_inv
          obtain ⟨_, b, ws, _, rfl, _, _, q3, q4⟩ := muL_ok R ry eY
          have u := upd_lst (ds := xs') R ha eA q1 (q2.append q4)
          exact ⟨a, b, us, ws, rfl, rfl, q1, q3, by rw [q2.length, q4.length]; exact z, h ρ _ .non u.1 u.2 rfl⟩
        · exact h.elim
      · exact h.elim
    · exact h.elim
  · exact h.elim
def popD (d : D) : FM
  | [], A => match d with
    | .ref n => match A[n]? with
      | some (.lst xs) => match xs[xs.length - 1]? with
        | some y => .ok y (A.set n (.lst xs.dropLast))
        | none => .bad
      | _ => .bad
    | _ => .bad
  | _, _ => .bad
theorem RpL.dropLast {K : PySem.W.Frag} {ρ : List Addr} {H : Hp} {ds : List D} {xs : List V} (r : RpL K ρ H ds xs) : RpL K ρ H ds.dropLast xs.dropLast := by
  rw [List.dropLast_eq_take, List.dropLast_eq_take, r.length]
  exact r.take _
theorem amt_pop : AMt X E "list.pop" popD := mtm_mono mt_pop fun x xs H Q h => by
  obtain ⟨ρ, A, d, ds, R, r, rs, h⟩ := h
  unfold popD at h
  split at h
  · split at h
    · split at h
      · split at h
        · rename_i xs' eA _ y eY
          obtain ⟨a, ha, rfl⟩ := r
          obtain ⟨a', ha', us, q1, q2⟩ := R.ob _ _ eA
          rw [ha] at ha'; cases ha'
          obtain ⟨v, e1, e2⟩ := q2.get eY
          have u := upd_lst (ds := xs') R ha eA q1 q2.dropLast
          exact ⟨a, us, v, rfl, rs, q1, by rw [q2.length]; exact e1, h ρ _ v u.1 u.2 (e2.ext u.1)⟩
        · exact h.elim
      · exact h.elim
    · exact h.elim
  · exact h.elim
def insertD (d : D) : FM
  | [.int i, y], A => match d with
    | .ref n => match A[n]? with
      | some (.lst xs) => if xs.length < sizeLine ∧ 0 ≤ i ∧ i < 2 ^ 63 then .ok .non (A.set n (.lst (xs.take i.toNat ++ [y] ++ xs.drop i.toNat))) else .bad
      | _ => .bad
    | _ => .bad
  | _, _ => .bad
theorem amt_insert : AMt X E "list.insert" insertD := mtm_mono mt_insert fun x xs H Q h => by
  obtain ⟨ρ, A, d, ds, R, r, rs, h⟩ := h
  unfold insertD at h
  split at h
  · rename_i k y'
    split at h
    · split at h
      · split at h
        · rename_i xs' eA z
          obtain ⟨a, ha, rfl⟩ := r
          obtain ⟨a', ha', us, q1, q2⟩ := R.ob _ _ eA
          rw [ha] at ha'; cases ha'
          obtain ⟨i', y, rfl, ri, ry⟩ := rs.two_inv
          cases ri
          have u := upd_lst (ds := xs') R ha eA q1 (((q2.take k.toNat).append (RpL.one ry)).append (q2.drop k.toNat))
          exact ⟨a, us, k, y, rfl, rfl, q1, by rw [q2.length]; exact z.1, z.2.1, z.2.2, h ρ _ .non u.1 u.2 rfl⟩
        · exact h.elim
      · exact h.elim
    · exact h.elim
  · exact h.elim
end

/-! ## f-strings -/
def fmtD (d : D) (A : AH) : Res D := match d with
  | .str x => if x.length ≤ sizeLine then .ok (.str x) A else .bad
  | .int i => if i.natAbs.log2 < 1920 then .ok (.str (toString i)) A else .bad
  | _ => .bad
def jStrs : List FE → Str → FE
  | [], acc, _, A => .ok (.str acc) A
  | f :: fs, acc, s, A => (f s A).bind fun d A1 => match d with
    | .str y => if (acc ++ y).length ≤ sizeLine then jStrs fs (acc ++ y) s A1 else .bad
    | _ => .bad
inductive AJ (X : Cx) (E : XK) : List Expr → List FE → Prop where
  | nil : AJ X E [] []
  | cons {e : Expr} {f : FE} {es : List Expr} {fs : List FE} (h : AE X E e f) (r : AJ X E es fs) : AJ X E (e :: es) (f :: fs)
section
variable {X : Cx} {E : XK} {e v1 v2 : Expr} {rest : List Expr} {f : FE} {fs : List FE} {pos : Pos}
theorem ae_fmt (h : AE X E e f) : AE X E (.FormattedValue e (-1) none pos) (fUn fmtD f) := pe_mono (pe_fmt h) fun σ H Q h => by
  obtain ⟨ρ, s, A, hs, R, h⟩ := h
  refine ⟨ρ, s, A, hs, R, (Out.bind h).mono fun v H1 ⟨ρ1, d, A1, _, e1, R1, r1, h1⟩ => ?_⟩
  unfold fmtD at h1
  split at h1
  · split at h1
    · rename_i z; cases r1; exact .inl ⟨_, rfl, z, h1.now R1 rfl⟩
    · exact h1.elim
  · split at h1
    · rename_i z; cases r1; exact .inr ⟨_, rfl, z, h1.now R1 rfl⟩
    · exact h1.elim
  · exact h1.elim
theorem AJ.pj (h : AJ X E rest fs) : PJ X rest (fs.map (tA X.K E)) := by
  induction h with
  | nil => exact .nil
  | cons h _ ih => exact .cons h ih
theorem js_read {K : PySem.W.Frag} {σ : L2.St} {Q : VK} : ∀ (fs : List FE) (acc : Str) (ρ : List Addr) (s : ASt) (A : AH) (H : Hp), SRel K ρ H s σ → Rel K ρ H A → OutE K E ρ H (jStrs fs acc s A) Q → tJs (fs.map (tA K E)) acc σ H fun out H1 => Q (.str out) H1
  | [], acc, ρ, s, A, H, hs, R, h => Out.now h R rfl
  | f :: fs, acc, ρ, s, A, H, hs, R, h => by
    refine ⟨ρ, s, A, hs, R, (Out.bind h).mono fun v H1 ⟨ρ1, d, A1, _, e1, R1, r1, h1⟩ => ?_⟩
    split at h1
    · split at h1
      · rename_i z
        cases r1
        exact ⟨_, rfl, z, js_read fs _ ρ1 s A1 H1 (hs.ext e1) R1 h1⟩
      · exact h1.elim
    · exact h1.elim
theorem ae_joined (h : AJ X E (v1 :: v2 :: rest) fs) : AE X E (.JoinedStr (v1 :: v2 :: rest) pos) (jStrs fs Str.empty) := pe_mono (pe_joined h.pj) fun σ H Q h => by
  obtain ⟨ρ, s, A, hs, R, h⟩ := h
  exact js_read fs _ ρ s A H hs R h
theorem ae_joined1 (h : AE X E e f) : AE X E (.JoinedStr [e] pos) f := pe_joined1 h
end

/-! ## dict displays with text keys and int keys -/
def fDict (ks : List Key) (fs : FA) : FE := fun s A => (fs s A).bind fun ds A1 => if ds.length = ks.length then alloc (.dic (ks.zip ds)) A1 else .bad

/-! ## a def of the text -/
def spM (K : PySem.W.Frag) (n : Nat) (m : FM) : Sp := fun vs H Q _ => ∃ ρ A ds, Rel K ρ H A ∧ RpL K ρ H ds vs ∧ ds.length = n ∧ OutE K E0 ρ H (m ds A) Q
/-- the def at f does what m says, by at most k calls within one another -/
abbrev ADef (P : Program) (w : World) (K : PySem.W.Frag) (mg : Str → Option Value) (base : Heap) (k : Nat) (f : Addr) (fd : FuncData) (ps : List Str) (m : FM) : Prop := FnOk P w K mg base CX0 k f fd ps (spM K ps.length m)
/-- the parameters' slots, then the other names' -/
def args (n : Nat) (ds : List D) : ASt := ds.map some ++ List.replicate (n - ds.length) none
def finish (r : Res Fl) : Res D := match r with
  | .ok (.rt d) A => .ok d A
  | .ok (.nx _) A => .ok .non A
  | .ok _ _ => .bad
  | .exc C fs A => .exc C fs A
  | .bad => .bad
/-- a body as a function -/
def body (np n : Nat) (f : FS) : FM := fun ds A => if ds.length = np then finish (f (args n ds) A) else .bad
section
variable {P : Program} {w : World} {K : PySem.W.Frag} {mg : Str → Option Value} {base : Heap}
theorem args_rel {ρ : List Addr} {H : Hp} {ds : List D} {vs : List V} (N : List Str) (r : RpL K ρ H ds vs) : SRel K ρ H (args N.length ds) (L2.start N vs) := by
  refine ⟨by simp [args, L2.start, r.length], fun i d h => ?_⟩
  unfold args at h
  by_cases hi : i < ds.length
  · rw [List.getElem?_append_left (by simpa using hi), List.getElem?_map] at h
    cases e : ds[i]? with
    | none => rw [e] at h; cases h
    | some d' =>
      rw [e] at h
      cases h
      obtain ⟨v, q1, q2⟩ := r.get e
      refine ⟨v, ?_, q2⟩
      unfold L2.start
      rw [List.getElem?_append_left (by simpa [r.length] using hi), List.getElem?_map, q1]
      rfl
  · rw [List.getElem?_append_right (by simpa using hi), List.getElem?_replicate] at h
    split at h <;> cases h
theorem adef {x qual : Str} {st : Stmt} {f : Addr} {fd : FuncData} {N ps : List Str} {k : Nat} {p : FS} (F : Fun K x qual st f fd) (S : FnScope N ps (defScope st))
    (hb : ∀ (cdv : Value) (A : Around) (outer : List Env) (s : Shared) (H : Hp) (E : XK), Room k (A.deeper (envOfC qual (defScope st) s.heap.objs.size f cdv)) →
      ASs (cxOf CX0 P w K mg base N qual (defScope st) f cdv A outer s H E).nox E0 (defBody st) p) : ADef P w K mg base (k + 1) f fd ps (body ps.length N.length p) := by
  refine F.ok S (fun vs H Q E h => ?_) (fun cdv A outer s H vs Q E hr h => ?_)
  · obtain ⟨ρ, A, ds, R, r, z, h⟩ := h
    rw [r.length, z]
  · obtain ⟨ρ, A', ds, R, r, z, h⟩ := h
    refine ⟨_, hb cdv A outer s H E hr, ρ, args N.length ds, A', args_rel N r, R, ?_⟩
    unfold body at h
    rw [if_pos z] at h
    unfold finish at h
    show SOut K E0 ρ H (p (args N.length ds) A') _
    cases e : p (args N.length ds) A' with
    | bad => rw [e] at h; exact h
    | exc C fs A1 => rw [e] at h; exact h
    | ok fl A1 =>
      rw [e] at h
      cases fl with
      | nx s => exact fun ρ1 H1 σ1 e1 R1 _ => h ρ1 H1 .non e1 R1 rfl
      | rt d => exact h
      | bk s => exact h.elim
      | ct s => exact h.elim
/-- a def does the same by another function that has as much to say -/
theorem ADef.imp {k : Nat} {f : Addr} {fd : FuncData} {ps : List Str} {m m' : FM} (h : ADef P w K mg base k f fd ps m) (e : ∀ ρ H ds A Q, Rel K ρ H A → ds.length = ps.length → OutE K E0 ρ H (m' ds A) Q → OutE K E0 ρ H (m ds A) Q) : ADef P w K mg base k f fd ps m' :=
  FnOk.imp h fun vs H Q E ⟨ρ, A, ds, R, r, z, q⟩ => ⟨ρ, A, ds, R, r, z, e ρ H ds A Q R z q⟩
end
section
variable {X : Cx} {k n : Nat} {f : Addr} {fd : FuncData} {ps : List Str} {m : FM} {x : Str} {p pos : Pos} {e : Expr} {es : List Expr} {fs : FA}
def fOwn (n : Nat) (m : FM) (fs : FA) : FE := fun s A => (fs s A).bind fun ds A1 => if ds.length = n then m ds A1 else .bad
theorem own_ {K : PySem.W.Frag} {σ : L2.St} {H : Hp} {Q : VK} {n : Nat} (h : tA K E0 (fOwn n m fs) σ H Q) : tCall (spM K n m) [] E0 (tAA K E0 fs) σ H Q := by
  obtain ⟨ρ, s, A, hs, R, h⟩ := h
  refine ⟨ρ, s, A, hs, R, (Out.bind h).mono fun x H1 ⟨ρ1, d, A1, _, e1, R1, r1, h1⟩ => ?_⟩
  split at h1
  · rename_i z
    exact ⟨ρ1, A1, d, R1, by rw [List.append_nil]; exact r1, z, h1⟩
  · exact h1.elim
theorem ae_call (F : ADef X.prog X.w X.K X.mg X.base k f fd ps m) (hr : Room k X.A) (hg : Gl X x) (hm : X.mg x = some (.ref f)) (hk : PySem.W.keepIn X.K (.ref f) = true) (hb : Binds X.K fd ps [])
    (ha : AA X E0 (e :: es) fs) (hdb : (x == ("__debug__" : Str)) = false := by decide) (he : starEach (e :: es) X.env = (false, eval e X.env) :: starEach es X.env := by rfl) (hpl : (backTo pos (starEach es X.env)).any (·.1) = false := by rfl) (hn : ps.length = n := by rfl) :
    AE X E0 (.Call (.Name x p) (e :: es) [] pos) (fOwn n m fs) := pe_mono (pe_call F hr hg hm hk hb .nil pass0 ha hdb he hpl) fun _ _ _ h => own_ (by rw [hn]; exact h)
theorem ae_call0 (F : ADef X.prog X.w X.K X.mg X.base k f fd ps m) (hr : Room k X.A) (hg : Gl X x) (hm : X.mg x = some (.ref f)) (hk : PySem.W.keepIn X.K (.ref f) = true) (hb : Binds X.K fd ps [])
    (hdb : (x == ("__debug__" : Str)) = false := by decide) (hn : ps.length = n := by rfl) :
    AE X E0 (.Call (.Name x p) [] [] pos) (fOwn n m fNil) := pe_mono (pe_call0 F hr hg hm hk hb .nil pass0 hdb) fun σ H Q h => by
  rw [← hn] at h
  obtain ⟨ρ, s, A, hs, R, h⟩ := own_ h
  exact Out.now h R rfl
end
end Ab

namespace Ab
open PySem PySem.Spec PyProof.Rows L2
open scoped Classical

/-! ## tuple(range(..)), list(range(..)) -/
def rgD (f1 f2 : FE) (k : Int → Int → AH → Res D) : FE := fun s A => (f1 s A).bind fun d A1 => (f2 s A1).bind fun e A2 => match d, e with
  | .int i, .int j => k i j A2
  | _, _ => .bad
noncomputable def rgTup (i j : Int) (A : AH) : Res D := if RgOk i j then .ok (.tup (rngL i (j - i).toNat)) A else .bad
noncomputable def rgLst (i j : Int) (A : AH) : Res D := if RgOk i j then alloc (.lst (rngL i (j - i).toNat)) A else .bad
theorem rng_rel {K : PySem.W.Frag} {ρ : List Addr} {H : Hp} (i j : Int) : RpL K ρ H (rngL i (j - i).toNat) (rgV i j) := by
  unfold rngL rgV
  have all : ∀ l : List Nat, RpL K ρ H (l.map fun k => .int (i + (k : Nat))) (l.map fun k => V.int (i + (k : Nat))) := by
    intro l
    induction l with
    | nil => rfl
    | cons k l ih => exact ⟨_, _, rfl, rfl, ih⟩
  exact all _
section
variable {X : Cx} {E : XK} {a b : Expr} {f g : FE} {p p2 pos pos2 : Pos}
theorem rg2_ {K : PySem.W.Frag} {σ : L2.St} {H : Hp} {Q : VK} {k : Int → Int → AH → Res D} {R : Int → Int → Hp → Prop} (h : tA K E (rgD f g k) σ H Q) (m : ∀ i j ρ A H, Rel K ρ H A → OutE K E ρ H (k i j A) Q → R i j H) : tRg2 (tA K E f) (tA K E g) σ H R := by
  obtain ⟨ρ, s, A, hs, Rl, h⟩ := h
  refine ⟨ρ, s, A, hs, Rl, (Out.bind h).mono fun x H1 ⟨ρ1, d, A1, _, e1, R1, r1, h1⟩ => ⟨ρ1, s, A1, hs.ext e1, R1, (Out.bind h1).mono fun y H2 ⟨ρ2, d2, A2, _, e2, R2, r2, h2⟩ => ?_⟩⟩
  split at h2
  · cases r1; cases r2
    exact ⟨_, _, rfl, rfl, m _ _ ρ2 A2 H2 R2 h2⟩
  · exact h2.elim
theorem ae_tupRg2 (hc : X.calm = true) (hg : Gl X "tuple") (hm : X.mg "tuple" = none) (hg2 : Gl X "range") (hm2 : X.mg "range" = none) (ha : AE X E a f) (hb : AE X E b g) (na : starEach [a, b] X.env = (false, eval a X.env) :: starEach [b] X.env := by rfl)
    (nb : starEach [b] X.env = (false, eval b X.env) :: starEach [] X.env := by rfl) (hp : (backTo pos2 (starEach [b] X.env)).any (·.1) = false := by rfl) (nr : starEach [.Call (.Name "range" p2) [a, b] [] pos2] X.env = (false, eval (.Call (.Name "range" p2) [a, b] [] pos2) X.env) :: starEach [] X.env := by rfl) :
    AE X E (.Call (.Name "tuple" p) [.Call (.Name "range" p2) [a, b] [] pos2] [] pos) (rgD f g rgTup) := pe_mono (pe_tupRg hc hg hm (prg_2 hg2 hm2 ha hb na nb hp) nr) fun σ H Q h => rg2_ h fun i j ρ A H R h => by
  unfold rgTup at h
  split at h
  · rename_i z
    exact ⟨z, new_tup R (rng_rel i j) h⟩
  · exact h.elim
theorem ae_lstRg2 (hc : X.calm = true) (hg : Gl X "list") (hm : X.mg "list" = none) (hg2 : Gl X "range") (hm2 : X.mg "range" = none) (ha : AE X E a f) (hb : AE X E b g) (na : starEach [a, b] X.env = (false, eval a X.env) :: starEach [b] X.env := by rfl)
    (nb : starEach [b] X.env = (false, eval b X.env) :: starEach [] X.env := by rfl) (hp : (backTo pos2 (starEach [b] X.env)).any (·.1) = false := by rfl) (nr : starEach [.Call (.Name "range" p2) [a, b] [] pos2] X.env = (false, eval (.Call (.Name "range" p2) [a, b] [] pos2) X.env) :: starEach [] X.env := by rfl) :
    AE X E (.Call (.Name "list" p) [.Call (.Name "range" p2) [a, b] [] pos2] [] pos) (rgD f g rgLst) := pe_mono (pe_listRg hc hg hm (prg_2 hg2 hm2 ha hb na nb hp) nr) fun σ H Q h => rg2_ h fun i j ρ A H R h => by
  unfold rgLst at h
  split at h
  · rename_i z
    exact ⟨z, new_lst R (rng_rel i j) h⟩
  · exact h.elim
theorem rg1_ {K : PySem.W.Frag} {σ : L2.St} {H : Hp} {Q : VK} {k : Int → Int → AH → Res D} {R : Int → Int → Hp → Prop} (h : tA K E (rgD (fC (.int 0)) f k) σ H Q) (m : ∀ i j ρ A H, Rel K ρ H A → OutE K E ρ H (k i j A) Q → R i j H) : tRg1 (tA K E f) σ H R := by
  obtain ⟨ρ, s, A, hs, Rl, h⟩ := h
  refine ⟨ρ, s, A, hs, Rl, (Out.bind (show OutE K E ρ H ((f s A).bind fun e A2 => match D.int 0, e with | .int i, .int j => k i j A2 | _, _ => .bad) Q from h)).mono fun x H1 ⟨ρ1, d, A1, _, e1, R1, r1, h1⟩ => ?_⟩
  split at h1
  · rename_i i j e0 e1
    cases e0
    cases r1
    exact ⟨_, rfl, m _ _ ρ1 A1 H1 R1 h1⟩
  · exact h1.elim
theorem ae_tupRg1 (hc : X.calm = true) (hg : Gl X "tuple") (hm : X.mg "tuple" = none) (hg2 : Gl X "range") (hm2 : X.mg "range" = none) (ha : AE X E a f) (na : starEach [a] X.env = (false, eval a X.env) :: starEach [] X.env := by rfl)
    (nr : starEach [.Call (.Name "range" p2) [a] [] pos2] X.env = (false, eval (.Call (.Name "range" p2) [a] [] pos2) X.env) :: starEach [] X.env := by rfl) :
    AE X E (.Call (.Name "tuple" p) [.Call (.Name "range" p2) [a] [] pos2] [] pos) (rgD (fC (.int 0)) f rgTup) := pe_mono (pe_tupRg hc hg hm (prg_1 hg2 hm2 ha na) nr) fun σ H Q h => rg1_ h fun i j ρ A H R h => by
  unfold rgTup at h
  split at h
  · rename_i z
    exact ⟨z, new_tup R (rng_rel i j) h⟩
  · exact h.elim
theorem ae_lstRg1 (hc : X.calm = true) (hg : Gl X "list") (hm : X.mg "list" = none) (hg2 : Gl X "range") (hm2 : X.mg "range" = none) (ha : AE X E a f) (na : starEach [a] X.env = (false, eval a X.env) :: starEach [] X.env := by rfl)
    (nr : starEach [.Call (.Name "range" p2) [a] [] pos2] X.env = (false, eval (.Call (.Name "range" p2) [a] [] pos2) X.env) :: starEach [] X.env := by rfl) :
    AE X E (.Call (.Name "list" p) [.Call (.Name "range" p2) [a] [] pos2] [] pos) (rgD (fC (.int 0)) f rgLst) := pe_mono (pe_listRg hc hg hm (prg_1 hg2 hm2 ha na) nr) fun σ H Q h => rg1_ h fun i j ρ A H R h => by
  unfold rgLst at h
  split at h
  · rename_i z
    exact ⟨z, new_lst R (rng_rel i j) h⟩
  · exact h.elim
end

/-! ## enumerate, zip -/
theorem enumL_get : ∀ (k i : Nat) (ds : List D), (enumL k ds)[i]? = (ds[i]?).map fun d => .tup [.int ((k + i : Nat)), d]
  | k, i, [] => by simp [enumL]
  | k, 0, d :: ds => by simp [enumL]
  | k, i + 1, d :: ds => by
    show (enumL (k + 1) ds)[i]? = (ds[i]?).map _
    rw [enumL_get (k + 1) i ds]
    congr 1
    funext d
    rw [show k + 1 + i = k + (i + 1) by omega]
theorem enumL_len : ∀ (k : Nat) (ds : List D), (enumL k ds).length = ds.length
  | k, [] => rfl
  | k, d :: ds => by simp [enumL, enumL_len (k + 1) ds]
theorem zipD_get : ∀ (i : Nat) (as bs : List D) (d : D), (zipD as bs)[i]? = some d ↔ ∃ a b, as[i]? = some a ∧ bs[i]? = some b ∧ d = .tup [a, b]
  | i, [], bs, d => by simp [zipD]
  | i, a :: as, [], d => by simp [zipD]
  | 0, a :: as, b :: bs, d => by simp [zipD, eq_comm]
  | i + 1, a :: as, b :: bs, d => by
    show (zipD as bs)[i]? = some d ↔ _
    rw [zipD_get i as bs d]
    simp
theorem zipD_len : ∀ (as bs : List D), (zipD as bs).length = min as.length bs.length
  | [], bs => by simp [zipD]
  | a :: as, [] => by simp [zipD]
  | a :: as, b :: bs => by simp [zipD, zipD_len as bs, Nat.succ_min_succ]
noncomputable def fZip (f g : FE) : FI := fun s A => (f s A).bind fun d A1 => (g s A1).bind fun e A2 => match d, e with
  | .tup xs, .tup ys => .ok ⟨zipD xs ys, yes⟩ A2
  | .ref m, .ref n => match rdL A2 (.ref m), rdL A2 (.ref n) with
    | some xs, some ys => .ok ⟨zipD xs ys, fun A' => rdL A' (.ref m) = some xs ∧ rdL A' (.ref n) = some ys⟩ A2
    | _, _ => .bad
  | _, _ => .bad
section
variable {K : PySem.W.Frag} {ρ : List Addr} {H : Hp}
theorem pair_new {ρ' : List Addr} {H' : Hp} {A : AH} {T : Addr} {x y : V} {d e : D} (R : Rel K ρ' H' A) (hT : H' T = none) (r1 : Rp K ρ' H' d x) (r2 : Rp K ρ' H' e y) :
    Ext K ρ' H' ρ' (L2.upd H' T (.tup [x, y])) ∧ Rel K ρ' (L2.upd H' T (.tup [x, y])) A ∧ Rp K ρ' (L2.upd H' T (.tup [x, y])) (.tup [d, e]) (.ref T) := by
  have ex : Ext K ρ' H' ρ' (L2.upd H' T (.tup [x, y])) := Ext.new0 hT
  exact ⟨ex, R.new0 hT, T, [x, y], rfl, .inl (.inl upd_same), x, [y], rfl, r1.ext ex, y, [], rfl, r2.ext ex, rfl⟩
theorem ite_rel {a : Addr} {n : Nat} {ds : List D} (ha : ρ[n]? = some a) : ItRel K (Ite K a) ρ H ⟨enumL 0 ds, fun A => rdL A (.ref n) = some ds⟩ := fun i ρ' H' A e R ok => by
  have ha' := e.at_ ha
  obtain ⟨b, xs, eb, h', r'⟩ := rdL_ok R (show Rp K ρ' H' (.ref n) (.ref a) from ⟨a, ha', rfl⟩) ok
  cases eb
  refine ⟨fun d hd => ?_, fun hl _ => ⟨xs, h', by rw [r'.length]; rw [show (Src.items ⟨enumL 0 ds, fun A => rdL A (.ref n) = some ds⟩).length = ds.length from enumL_len 0 ds] at hl; exact hl⟩⟩
  have hd : (enumL 0 ds)[i]? = some d := hd
  rw [enumL_get] at hd
  cases ei : ds[i]? with
  | none => rw [ei] at hd; cases hd
  | some d0 =>
    rw [ei] at hd
    cases hd
    obtain ⟨v, q1, q2⟩ := r'.get ei
    refine ⟨⟨xs, v, h', q1⟩, fun x H2 hy => ?_⟩
    obtain ⟨T, w, rfl, hT, rfl, fv⟩ := hy
    have := fv _ h'
    rw [q1] at this; cases this
    rw [Nat.zero_add]
    exact pair_new R hT rfl q2
theorem itz_rel {a b : Addr} {m n : Nat} {ds es : List D} (ha : ρ[m]? = some a) (hb : ρ[n]? = some b) : ItRel K (Itz K a b) ρ H ⟨zipD ds es, fun A => rdL A (.ref m) = some ds ∧ rdL A (.ref n) = some es⟩ := fun i ρ' H' A e R ok => by
  obtain ⟨c, xs, eb, h1, r1⟩ := rdL_ok R (show Rp K ρ' H' (.ref m) (.ref a) from ⟨a, e.at_ ha, rfl⟩) ok.1
  cases eb
  obtain ⟨c, ys, eb, h2, r2⟩ := rdL_ok R (show Rp K ρ' H' (.ref n) (.ref b) from ⟨b, e.at_ hb, rfl⟩) ok.2
  cases eb
  refine ⟨fun d hd => ?_, fun hl _ => ⟨xs, ys, h1, h2, by
    have hl : (zipD ds es).length ≤ i := hl
    rw [r1.length, r2.length]; rw [zipD_len] at hl; omega⟩⟩
  obtain ⟨d1, d2, q1, q2, rfl⟩ := (zipD_get i ds es d).mp hd
  obtain ⟨v, q3, q4⟩ := r1.get q1
  obtain ⟨w, q5, q6⟩ := r2.get q2
  refine ⟨⟨xs, ys, v, w, h1, h2, q3, q5⟩, fun x H2 hy => ?_⟩
  obtain ⟨T, x1, y1, rfl, hT, rfl, f1, f2⟩ := hy
  have z1 := f1 _ h1
  have z2 := f2 _ h2
  rw [q3] at z1; cases z1
  rw [q5] at z2; cases z2
  exact pair_new R hT q4 q6
theorem itzT_rel {a b : Addr} {xs ys : List V} {ds es : List D} (h1 : SqT K H a xs) (r1 : RpL K ρ H ds xs) (h2 : SqT K H b ys) (r2 : RpL K ρ H es ys) : ItRel K (RZ.ItzT K a b) ρ H ⟨zipD ds es, yes⟩ := fun i ρ' H' A e R ok => by
  have h1 := e.gr _ _ h1
  have h2 := e.gr _ _ h2
  have r1 := r1.ext e
  have r2 := r2.ext e
  refine ⟨fun d hd => ?_, fun hl _ => ⟨xs, ys, h1, h2, by
    have hl : (zipD ds es).length ≤ i := hl
    rw [r1.length, r2.length]; rw [zipD_len] at hl; omega⟩⟩
  obtain ⟨d1, d2, q1, q2, rfl⟩ := (zipD_get i ds es d).mp hd
  obtain ⟨v, q3, q4⟩ := r1.get q1
  obtain ⟨w, q5, q6⟩ := r2.get q2
  refine ⟨⟨xs, ys, v, w, h1, h2, q3, q5⟩, fun x H2 hy => ?_⟩
  obtain ⟨T, x1, y1, rfl, hT, rfl, f1, f2⟩ := hy
  have z1 := f1 _ h1
  have z2 := f2 _ h2
  rw [q3] at z1; cases z1
  rw [q5] at z2; cases z2
  exact pair_new R hT q4 q6
end
section
variable {X : Cx} {E : XK} {e e2 : Expr} {f g : FE} {p pos tpos : Pos} {elts : List Expr} {kk : Nat}
theorem ai_enum (hg : Gl X "enumerate") (hm : X.mg "enumerate" = none) (he : AE X E e f) (h1 : starEach [e] X.env = (false, eval e X.env) :: starEach [] X.env := by rfl) : AI X E (.Tuple elts kk tpos) (.Call (.Name "enumerate" p) [e] [] pos) (fEnum f) := pi_mono (pi_enum (hs := h1) hg hm (aa_cons he aa_nil h1)) fun σ H Q h => by
  obtain ⟨ρ, s, A, hs, R, h⟩ := h
  have ef : fEnum f s A = (fCons f fNil s A).bind fun ds A1 => match ds with
      | [d] => match rdL A1 d with
        | some ds => .ok ⟨enumL 0 ds, fun A' => rdL A' d = some ds⟩ A1
        | none => .bad
      | _ => .bad := by
    unfold fEnum fCons fNil
    cases f s A with
    | bad => rfl
    | exc _ _ _ => rfl
    | ok d A1 => rfl
  rw [ef] at h
  refine ⟨ρ, s, A, hs, R, (Out.bindI h).mono fun xs H1 ⟨ρ1, ds, A1, _, e1, R1, r1, h1⟩ => ?_⟩
  split at h1
  · split at h1
    · rename_i d _ _ ds' e4
      obtain ⟨x, rfl, r2⟩ := r1.one_inv
      cases d with
      | ref n =>
        obtain ⟨a, us, rfl, q1, q2⟩ := rdL_ok R1 r2 e4
        obtain ⟨b, hb, eb⟩ := r2
        cases eb
        exact ⟨a, us, rfl, q1, h1 ρ1 H1 _ .refl R1 (ite_rel hb)⟩
      | _ => cases e4
    · exact h1.elim
  · exact h1.elim
theorem ai_zip (hg : Gl X "zip") (hm : X.mg "zip" = none) (he : AE X E e f) (he2 : AE X E e2 g) (h1 : starEach [e, e2] X.env = (false, eval e X.env) :: starEach [e2] X.env := by rfl) (h2 : starEach [e2] X.env = (false, eval e2 X.env) :: starEach [] X.env := by rfl) (hpl : (backTo pos (starEach [e2] X.env)).any (·.1) = false := by rfl) :
    AI X E (.Tuple elts kk tpos) (.Call (.Name "zip" p) [e, e2] [] pos) (fZip f g) := pi_mono (RZ.pi_zipA (hs := h1) (hpl := hpl) hg hm (aa_cons he (aa_cons he2 aa_nil h2) h1)) fun σ H Q h => by
  obtain ⟨ρ, s, A, hs, R, h⟩ := h
  have ef : fZip f g s A = (fCons f (fCons g fNil) s A).bind fun ds A2 => match ds with
      | [.tup xs, .tup ys] => .ok ⟨zipD xs ys, yes⟩ A2
      | [.ref m, .ref n] => match rdL A2 (.ref m), rdL A2 (.ref n) with
        | some xs, some ys => .ok ⟨zipD xs ys, fun A' => rdL A' (.ref m) = some xs ∧ rdL A' (.ref n) = some ys⟩ A2
        | _, _ => .bad
      | _ => .bad := by
    unfold fZip fCons
    cases f s A with
    | bad => rfl
    | exc _ _ _ => rfl
    | ok d A1 =>
      show (g s A1).bind _ = Res.bind (Res.bind (fCons g fNil s A1) _) _
      unfold fCons fNil
      cases g s A1 with
      | bad => rfl
      | exc _ _ _ => rfl
      | ok d' A2 => cases d <;> cases d' <;> rfl
  rw [ef] at h
  refine ⟨ρ, s, A, hs, R, (Out.bindI h).mono fun xs H1 ⟨ρ1, ds, A1, _, e1, R1, r1, h1⟩ => ?_⟩
  split at h1
  · obtain ⟨x, y, rfl, r2, r3⟩ := r1.two_inv
    obtain ⟨a, us, rfl, q1, q2⟩ := r2
    obtain ⟨b, ws, rfl, q3, q4⟩ := r3
    exact ⟨a, b, us, ws, rfl, .inr ⟨q1, q3, h1 ρ1 H1 _ .refl R1 (itzT_rel q1 q2 q3 q4)⟩⟩
  · split at h1
    · rename_i m n _ xs' ys' e4 e5
      obtain ⟨x, y, rfl, r2, r3⟩ := r1.two_inv
      obtain ⟨a, us, rfl, q1, q2⟩ := rdL_ok R1 r2 e4
      obtain ⟨b, ws, rfl, q3, q4⟩ := rdL_ok R1 r3 e5
      obtain ⟨a', ha, ea⟩ := r2
      cases ea
      obtain ⟨b', hb, eb⟩ := r3
      cases eb
      exact ⟨a, b, us, ws, rfl, .inl ⟨q1, q3, h1 ρ1 H1 _ .refl R1 (itz_rel ha hb)⟩⟩
    · exact h1.elim
  · exact h1.elim
end

/-! ## dict displays: the new dict is a cell from the start -/
abbrev FP := ASt → AH → Res (List (Key × D))
def fPs : List (FE × FE) → FP
  | [], _, A => .ok [] A
  | (k, v) :: r, s, A => (k s A).bind fun kd A1 => (v s A1).bind fun vd A2 => match keyOf kd with
    | some key => (fPs r s A2).bind fun ps A3 => .ok ((key, vd) :: ps) A3
    | none => .bad
def mergeD (kvs more : List (Key × D)) : List (Key × D) := more.foldl (fun acc kv => setK acc kv.1 kv.2) kvs
def fDisp (ps : List (FE × FE)) : FE := fun s A => (fPs ps s (A ++ [.dic []])).bind fun kds A1 => match A1[A.length]? with
  | some (.dic []) => if kds.length ≤ 15 then .ok (.ref A.length) (A1.set A.length (.dic (mergeD [] kds))) else .bad
  | _ => .bad
def fDict0 : FE := fun _ A => alloc (.dic []) A
inductive APs (X : Cx) (E : XK) (pos : Pos) : List (Option Expr) → List Expr → List (FE × FE) → Prop where
  | nil : APs X E pos [] [] []
  | cons {k v : Expr} {f g : FE} {ks : List (Option Expr)} {vs : List Expr} {fs : List (FE × FE)} (h : AE X E k f) (h' : AE X E v g) (r : APs X E pos ks vs fs) : APs X E pos (some k :: ks) (v :: vs) ((f, g) :: fs)
section
variable {X : Cx} {E : XK} {pos : Pos} {ks : List (Option Expr)} {vs : List Expr} {fs : List (FE × FE)}
theorem APs.pp (h : APs X E pos ks vs fs) : PPs X pos ks vs (fs.map fun p => (tA X.K E p.1, tA X.K E p.2)) := by
  induction h with
  | nil => exact pps_nil
  | cons h h' _ ih => exact pps_cons h h' ih
theorem mergeD_ok {K : PySem.W.Frag} {ρ : List Addr} {H : Hp} : ∀ {more : List (Key × D)} {mu : List (Key × V)} {kvs : List (Key × D)} {us : List (Key × V)}, RpK K ρ H more mu → RpK K ρ H kvs us → RpK K ρ H (mergeD kvs more) (mergeK us mu)
  | [], mu, kvs, us, h, q => by rw [show mu = [] from h]; exact q
  | p :: ps, mu, kvs, us, h, q => by
    obtain ⟨v, r, rfl, h2, h3⟩ := h
    exact mergeD_ok (more := ps) (mu := r) h3 (setK_ok (k := p.1) q h2)
abbrev OutP (K : PySem.W.Frag) (E : XK) := Out (α := List (Key × D)) (β := List (Key × V)) K E (fun ρ H d v => RpK K ρ H d v)
theorem ps_read {K : PySem.W.Frag} {σ : L2.St} : ∀ (fs : List (FE × FE)) (ρ : List Addr) (s : ASt) (A : AH) (H : Hp) (Q : List (Key × V) → Hp → Prop) (Q' : List (V × V) → Hp → Prop), (∀ us H', Q us H' → Q' (us.map fun kv => (kV kv.1, kv.2)) H') → SRel K ρ H s σ → Rel K ρ H A → OutP K E ρ H (fPs fs s A) Q →
    tPairs (fs.map fun p => (tA K E p.1, tA K E p.2)) σ H Q'
  | [], ρ, s, A, H, Q, Q', m, hs, R, h => m [] H (Out.now h R rfl)
  | p :: fs, ρ, s, A, H, Q, Q', m, hs, R, h => by
    refine ⟨ρ, s, A, hs, R, (Out.bind h).mono fun x H1 ⟨ρ1, d, A1, _, e1, R1, r1, h1⟩ => ⟨ρ1, s, A1, hs.ext e1, R1, (Out.bind h1).mono fun y H2 ⟨ρ2, d2, A2, _, e2, R2, r2, h2⟩ => ?_⟩⟩
    split at h2
    · rename_i key ek
      have ex := keyOf_ok (r1.ext e2) ek
      subst ex
      refine ps_read fs ρ2 s A2 H2 (fun us H3 => Q ((key, y) :: us) H3) _ (fun us H' q => m _ H' q) (hs.ext (e1.trans e2)) R2 ((Out.bind h2).mono fun us H3 ⟨ρ3, ps, A3, _, e3, R3, r3, h3⟩ => ?_)
      exact Out.now h3 R3 ⟨y, us, rfl, r2.ext e3, r3⟩
    · exact h2.elim
theorem ae_disp (h : APs X E pos ks vs fs) (hall : ks.all (·.isSome) = true := by rfl) (hl : ks.length = vs.length := by rfl) (h0 : ks ≠ [] := by exact fun z => nomatch z) (h15 : ks.length ≤ 15 := by decide) : AE X E (.Dict ks vs pos) (fDisp fs) := pe_mono (pe_disp h.pp hall hl h0 h15) fun σ H Q h => by
  obtain ⟨ρ, s, A, hs, R, h⟩ := h
  intro p hp
  have e0 : Ext X.K ρ H (ρ ++ [p]) (L2.upd H p (.dK [])) := Ext.new hp [p]
  have R0 : Rel X.K (ρ ++ [p]) (L2.upd H p (.dK [])) (A ++ [.dic []]) := R.new hp ⟨[], upd_same, rfl⟩
  have np : (ρ ++ [p])[A.length]? = some p := by rw [← R.len]; simp
  have h := Out.ext h e0
  refine ps_read fs (ρ ++ [p]) s (A ++ [.dic []]) _ (fun us H2 => H2 p = some (.dK []) ∧ us.length ≤ 15 ∧ Q (.ref p) (L2.upd H2 p (.dK (mergeK [] us)))) _ (fun us H' q => ⟨q.1, us, rfl, q.2⟩) (hs.ext e0) R0 ((Out.bind h).mono fun us H3 ⟨ρ3, kds, A3, _, e3, R3, r3, h3⟩ => ?_)
  split at h3
  · rename_i eA
    split at h3
    · rename_i z
      obtain ⟨a, ha, us0, q1, q2⟩ := R3.ob _ _ eA
      rw [e3.at_ np] at ha; cases ha
      rw [show us0 = [] from q2] at q1
      have u := upd_dic R3 (e3.at_ np) eA q1 (mergeD_ok (more := kds) (mu := us) (kvs := []) (us := []) r3 rfl)
      exact ⟨q1, by rw [r3.length]; exact z, h3 ρ3 _ (.ref p) u.1 u.2 ⟨p, e3.at_ np, rfl⟩⟩
    · exact h3.elim
  · exact h3.elim
theorem ae_dict0 : AE X E (.Dict [] [] pos) fDict0 := pe_mono pe_dnewK fun σ H Q h => by
  obtain ⟨ρ, s, A, hs, R, h⟩ := h
  exact new_dic (kvs := []) (us := []) R rfl h
end

/-! ## the law's own end -/
theorem sp_law {m : FM} (h : ∀ ns : List Int, ns.length ≤ 63 → ∃ A', m [.ref 0] [.frz (ns.map D.int)] = .ok (.bl true) A') :
    ∀ (K : PySem.W.Frag) (H : Hp) (a : Addr) (ns : List Int), ns.length ≤ 63 → Only H → SqL K H a (ns.map V.int) → spM K 1 m [.ref a] H (fun v _ => v = .bl true) fun _ _ _ => False := fun K H a ns hl hO hS => by
  obtain ⟨A', e⟩ := h ns hl
  have rl : ∀ l : List Int, RpL K [a] H (l.map D.int) (l.map V.int) := by
    intro l
    induction l with
    | nil => rfl
    | cons k l ih => exact ⟨_, _, rfl, rfl, ih⟩
  have f : SqF K H a (ns.map V.int) := by
    rcases hS with (hS | ⟨o, hS⟩) | hS
    · rcases hO a with z | ⟨o, xs, z⟩
      · rw [hS] at z; cases z
      · rw [hS] at z; cases z
    · exact .inl ⟨o, hS⟩
    · exact .inr (.inr hS)
  have R : Rel K [a] H [.frz (ns.map D.int)] := ⟨rfl, fun i j b o u h1 h2 h3 h4 f1 _ => by
    have hi : i = 0 := by have := (List.getElem?_eq_some_iff.mp h3).1; simp at this; exact this
    subst hi
    cases h3
    exact Bool.noConfusion f1, fun i o hi => by
    have hi0 : i = 0 := by have := (List.getElem?_eq_some_iff.mp hi).1; simp at this; exact this
    subst hi0
    cases hi
    exact ⟨a, rfl, _, f, rl ns⟩⟩
  refine ⟨[a], _, [.ref 0], R, ⟨_, [], rfl, ⟨a, rfl, rfl⟩, rfl⟩, rfl, ?_⟩
  rw [e]
  exact fun ρ' H' v _ _ r => r
end Ab
namespace Ab
open PySem PySem.Spec PyProof.Rows L2
section
variable {P : Program} {w : World} {K : PySem.W.Frag} {mg : Str → Option Value} {base : Heap} {k : Nat} {f : Addr} {fd : FuncData} {ps : List Str} {m : FM}
theorem adef_bad : ADef P w K mg base k f fd ps (fun _ _ => .bad) := by
  have no : ∀ vs H Q E, ¬ spM K ps.length (fun _ _ => .bad) vs H Q E := fun vs H Q E ⟨ρ, A, ds, R, r, z, q⟩ => q
  exact ⟨fun vs H Q E h => absurd h (no vs H Q E), fun A outer s H args us vs Q E _ _ _ _ h => absurd h (no vs H Q E)⟩
theorem adef_up {n L : Nat} (h : ADef P w K mg base (n + L + 1) f fd ps m) : ADef P w K mg base (n + 1 + L) f fd ps m := FnOk.mono h (by omega)
theorem u65 {A : Around} (hr : Room k A) : A.units + 65 < cLine := by have := hr.un; omega
end
end Ab

namespace Ab
open PySem PySem.Spec PyProof.Rows L2

/-! ## list.index of a plain value that is there -/
section
variable {X : Cx} {E : XK}
def firstV (y : V) : List V → Nat → Option Nat
  | [], _ => none
  | z :: zs, k => if eqV z y = true then some k else firstV y zs (k + 1)
theorem firstV_ok {y : V} : ∀ {zs : List V} {k j : Nat}, firstV y zs k = some j → ∃ i z, j = k + i ∧ zs[i]? = some z ∧ eqV z y = true ∧ ∀ (m : Nat) (z' : V), m < i → zs[m]? = some z' → eqV z' y = false
  | [], k, j, h => by cases h
  | z :: zs, k, j, h => by
    rw [firstV] at h
    split at h
    · rename_i e
      cases h
      exact ⟨0, z, rfl, rfl, e, fun m z' hm _ => absurd hm (Nat.not_lt_zero _)⟩
    · rename_i e
      obtain ⟨i, w, h1, h2, h3, h4⟩ := firstV_ok h
      refine ⟨i + 1, w, by omega, by simpa using h2, h3, fun m z' hm hz => ?_⟩
      cases m with
      | zero => cases hz; simpa using e
      | succ m => exact h4 m z' (by omega) (by simpa using hz)
def indexD (d : D) : FM
  | [y], A => match rdL A d with
    | some xs => match toV y, toVs xs with
      | some v, some vs => match firstV v vs 0 with
        | some j => .ok (.int (j : Nat)) A
        | none => .bad
      | _, _ => .bad
    | none => .bad
  | _, _ => .bad
theorem amt_index : AMt X E "list.index" indexD := mtm_mono mt_index fun x xs H Q h => by
  obtain ⟨ρ, A, d, ds, R, r, rs, h⟩ := h
  unfold indexD at h
  split at h
  · split at h
    · rename_i xs' eX
      split at h
      · rename_i v vs e1 e2
        split at h
        · rename_i j ej
          obtain ⟨a, us, rfl, q1, q2⟩ := rdL_ok R r eX
          obtain ⟨y, rfl, ry⟩ := rs.one_inv
          obtain ⟨rfl, fv⟩ := toV_ok ry e1
          obtain ⟨rfl, fvs⟩ := toVs_ok q2 e2
          obtain ⟨i, z, h1, h2, h3, h4⟩ := firstV_ok ej
          rw [Nat.zero_add] at h1
          subst h1
          exact ⟨a, us, y, j, z, rfl, rfl, q1, fv, fvs, h2, h3, h4, h.now R rfl⟩
        · exact h.elim
      · exact h.elim
    · exact h.elim
  · exact h.elim

/-! ## == and != of two dicts that are alike -/
def alike (ks ls : List (Key × D)) : Prop := ks.length = ls.length ∧ ∀ p ∈ ks, ∃ v, toV p.2 = some v ∧ ∃ d, getK ls p.1 = some d ∧ toV d = some v
theorem alike_ok {K : PySem.W.Frag} {ρ : List Addr} {H : Hp} {ks ls : List (Key × D)} {us vs : List (Key × V)} (h : alike ks ls) (r1 : RpK K ρ H ks us) (r2 : RpK K ρ H ls vs) :
    us.length = vs.length ∧ ∀ p ∈ us, valV vs p.1 = some p.2 ∧ flatB p.2 = true := by
  refine ⟨by rw [r1.length, r2.length]; exact h.1, ?_⟩
  have all : ∀ {ks : List (Key × D)} {us : List (Key × V)}, RpK K ρ H ks us → (∀ p ∈ ks, ∃ v, toV p.2 = some v ∧ ∃ d, getK ls p.1 = some d ∧ toV d = some v) → ∀ p ∈ us, valV vs p.1 = some p.2 ∧ flatB p.2 = true := by
    intro ks
    induction ks with
    | nil => intro us r _ p hp; rw [show us = [] from r] at hp; cases hp
    | cons k ks ih =>
      intro us r hk p hp
      obtain ⟨v, q, rfl, h2, h3⟩ := r
      rcases List.mem_cons.mp hp with e | e
      · subst e
        obtain ⟨w, t1, d, g, t2⟩ := hk k (List.mem_cons_self ..)
        obtain ⟨rfl, fv⟩ := toV_ok h2 t1
        have z := getK_ok (k := k.1) r2
        rw [g] at z
        obtain ⟨w, z1, z2⟩ := z
        obtain ⟨rfl, _⟩ := toV_ok z2 t2
        refine ⟨z1, ?_⟩
        show flatB w = true
        cases w <;> first | rfl | cases fv
      · exact ih h3 (fun p hp => hk p (List.mem_cons_of_mem _ hp)) p e
  exact all r1 h.2
open scoped Classical in
noncomputable def eqX (d e : D) (A : AH) : Res D := match rdM A d, rdM A e with
  | some ks, some ls => if alike ks ls then .ok (.bl true) A else .bad
  | _, _ => .bad
open scoped Classical in
noncomputable def neX (d e : D) (A : AH) : Res D := match rdM A d, rdM A e with
  | some ks, some ls => if alike ks ls then .ok (.bl false) A else .bad
  | _, _ => .bad
theorem aop_eqX (hu : X.A.units + 64 < cLine) : AOp X E (compareOp .Eq) eqX := op_mono (op_eq_dictA (by omega)) fun x y H Q h => by
  obtain ⟨ρ, A, d, e, R, r1, r2, h⟩ := h
  unfold eqX at h
  split at h
  · split at h
    · rename_i ks ls e1 e2 z
      obtain ⟨i, a, us, rfl, rfl, _, _, q1, q2⟩ := rdM_ok R r1 e1
      obtain ⟨j, b, vs, rfl, rfl, _, _, q3, q4⟩ := rdM_ok R r2 e2
      have w := alike_ok z q2 q4
      exact ⟨a, b, us, vs, rfl, rfl, q1, q3, w.1, w.2, h.now R rfl⟩
    · exact h.elim
  · exact h.elim
theorem aop_neX (hu : X.A.units + 64 < cLine) : AOp X E (compareOp .NotEq) neX := op_mono (op_ne_dictA (by omega)) fun x y H Q h => by
  obtain ⟨ρ, A, d, e, R, r1, r2, h⟩ := h
  unfold neX at h
  split at h
  · split at h
    · rename_i ks ls e1 e2 z
      obtain ⟨i, a, us, rfl, rfl, _, _, q1, q2⟩ := rdM_ok R r1 e1
      obtain ⟨j, b, vs, rfl, rfl, _, _, q3, q4⟩ := rdM_ok R r2 e2
      have w := alike_ok z q2 q4
      exact ⟨a, b, us, vs, rfl, rfl, q1, q3, w.1, w.2, h.now R rfl⟩
    · exact h.elim
  · exact h.elim

/-! ## d.update(e) -/
def mergeV (kvs more : List (Key × V)) : List (Key × V) := more.foldl (fun acc kv => putK acc kv.1 kv.2) kvs
theorem merged_kv : ∀ {more : List (Key × V)} {mu : List (Key × Value)} {kvs : List (Key × V)} {us : List (Key × Value)}, KV more mu → KV kvs us → KV (mergeV kvs more) (merged us mu)
  | _, _, kvs, us, .nil, q => q
  | _, _, kvs, us, @Paired.cons _ _ _ p u ps qs h t, q => by
    obtain ⟨h1, h2⟩ := h
    have := merged_kv t (q.put p.1 h2)
    rw [h1] at this
    show KV (mergeV (putK kvs p.1 p.2) ps) (merged (stored us u.1 u.2) qs)
    rw [← h1] at this ⊢
    exact this
theorem length_mergeV : ∀ (more kvs : List (Key × V)), (mergeV kvs more).length ≤ kvs.length + more.length
  | [], kvs => Nat.le_refl _
  | p :: ps, kvs => by
    have h1 := length_mergeV ps (putK kvs p.1 p.2)
    have h2 := length_putK kvs p.1 p.2
    show (mergeV (putK kvs p.1 p.2) ps).length ≤ _
    rw [List.length_cons]
    omega
theorem mt_update : MtR X "dict.update" fun x xs H Q => ∃ (a b : Addr) (kvs more : List (Key × V)), x = .ref a ∧ xs = [.ref b] ∧ a ≠ b ∧ H a = some (.dK kvs) ∧ H b = some (.dK more) ∧ kvs.length + more.length ≤ sizeLine ∧ Q .non (upd H a (.dK (mergeV kvs more))) := by
  intro pins s σ H x xs v us Q I rx rxs h
  obtain ⟨a, b, kvs, more, rfl, rfl, hne, ea, eb, z, q⟩ := h
  obtain rfl : v = Value.ref a := rx
  rw [Vals.ref1 rxs]
  obtain ⟨_, hd, vs, rel, dd⟩ := dk_of I.hok ea
  obtain ⟨_, hd2, ws, rel2, dd2⟩ := dk_of I.hok eb
  refine call_meetsIn PySem.F.slot_dict_update dd.typeIs PySem.F.entry_dict_update (PySem.F.args_dict_update_2 _ _) (meets_dict_update (mixKind X.prog X.w) a b hne hd2)
    ⟨vs, ws, dd, dd2, by rw [← rel.length, ← rel2.length]; exact z, fun h' dd' _ hs => ?_⟩
  have he : ∃ q, h'.get? a = some q := let ⟨q, _, _, hq, _⟩ := dd'; ⟨q, hq⟩
  exact ⟨.non, _, d_write (t' := s.toks) I (by rw [ea]; exact True.intro) hs he (dk_new (Nat.le_trans (length_mergeV _ _) z) hd (merged_kv rel2 rel) dd'), rfl, q⟩
def updateD (d : D) : FM
  | [.ref j], A => match d with
    | .ref n => match A[n]?, A[j]? with
      | some (.dic ks), some (.dic ls) => if n ≠ j ∧ ks.length + ls.length ≤ sizeLine then .ok .non (A.set n (.dic (mergeD ks ls))) else .bad
      | _, _ => .bad
    | _ => .bad
  | _, _ => .bad
theorem merge_ok {K : PySem.W.Frag} {ρ : List Addr} {H : Hp} : ∀ {more : List (Key × D)} {mu : List (Key × V)} {kvs : List (Key × D)} {us : List (Key × V)}, RpK K ρ H more mu → RpK K ρ H kvs us → RpK K ρ H (mergeD kvs more) (mergeV us mu)
  | [], mu, kvs, us, h, q => by rw [show mu = [] from h]; exact q
  | p :: ps, mu, kvs, us, h, q => by
    obtain ⟨v, r, rfl, h2, h3⟩ := h
    exact merge_ok (more := ps) (mu := r) h3 (setK_ok (k := p.1) q h2)
theorem amt_update : AMt X E "dict.update" updateD := mtm_mono mt_update fun x xs H Q h => by
  obtain ⟨ρ, A, d, ds, R, r, rs, h⟩ := h
  unfold updateD at h
  split at h
  · rename_i j
    split at h
    · rename_i n
      split at h
      · rename_i ks ls e1 e2
        split at h
        · rename_i z
          obtain ⟨a, ha, rfl⟩ := r
          obtain ⟨a', ha', us, q1, q2⟩ := R.ob _ _ e1
          rw [ha] at ha'; cases ha'
          obtain ⟨y, rfl, ry⟩ := rs.one_inv
          obtain ⟨b, hb, rfl⟩ := ry
          obtain ⟨b', hb', ws, q3, q4⟩ := R.ob _ _ e2
          rw [hb] at hb'; cases hb'
          have hne : a ≠ b := fun e => z.1 (R.nd n j a _ _ ha (by rw [hb, e]) e1 e2 rfl rfl)
          have u := upd_dic R ha e1 q1 (merge_ok q4 q2)
          exact ⟨a, b, us, ws, rfl, rfl, hne, q1, q3, by rw [q2.length, q4.length]; exact z.2, h ρ _ .non u.1 u.2 rfl⟩
        · exact h.elim
      · exact h.elim
    · exact h.elim
  · exact h.elim
/-! ## xs.pop(i), i from the front -/
theorem RpL.eraseIdx {K : PySem.W.Frag} {ρ : List Addr} {H : Hp} : ∀ {ds : List D} {xs : List V} (k : Nat), RpL K ρ H ds xs → RpL K ρ H (ds.eraseIdx k) (xs.eraseIdx k)
  | [], xs, k, r => by rw [show xs = [] from r]; exact rfl
  | d :: ds, xs, 0, r => by obtain ⟨x, r', rfl, _, h⟩ := r; exact h
  | d :: ds, xs, k + 1, r => by obtain ⟨x, r', rfl, h1, h⟩ := r; exact ⟨x, _, rfl, h1, RpL.eraseIdx k h⟩
def popAtD (d : D) : FM
  | [.int i], A => match d with
    | .ref n => match A[n]? with
      | some (.lst xs) => if 0 ≤ i ∧ i < 2 ^ 62 then (match xs[i.toNat]? with
        | some y => .ok y (A.set n (.lst (xs.eraseIdx i.toNat)))
        | none => .bad) else .bad
      | _ => .bad
    | _ => .bad
  | _, _ => .bad
theorem amt_popAt : AMt X E "list.pop" popAtD := mtm_mono mt_popAt fun x xs H Q h => by
  obtain ⟨ρ, A, d, ds, R, r, rs, h⟩ := h
  unfold popAtD at h
  split at h
  · rename_i i
    split at h
    · split at h
      · split at h
        · rename_i xs' eA z
          split at h
          · rename_i y eY
            obtain ⟨a, ha, rfl⟩ := r
            obtain ⟨a', ha', us, q1, q2⟩ := R.ob _ _ eA
            rw [ha] at ha'; cases ha'
            obtain ⟨v, e1, e2⟩ := q2.get eY
            obtain ⟨w, rfl, rw'⟩ := rs.one_inv
            cases rw'
            have hl : i.toNat < us.length := (List.getElem?_eq_some_iff.mp e1).1
            have u := upd_lst (ds := xs') R ha eA q1 (RpL.eraseIdx i.toNat q2)
            exact ⟨a, us, i, i.toNat, v, rfl, rfl, q1, by omega, by omega, by unfold seqIndex?; simp; omega, e1, h ρ _ v u.1 u.2 (e2.ext u.1)⟩
          · exact h.elim
        · exact h.elim
      · exact h.elim
    · exact h.elim
  · exact h.elim
end
end Ab

namespace Ab
open PySem PySem.Spec PyProof.Rows L2
open scoped Classical
/-! ## classes of the program's own: an instance is a cell; its class is an address -/
/-- what the walk asks of a class and of a name that it has not -/
structure CF (K : PySem.W.Frag) (C : Addr) (n : Str) : Prop where
  c : Cls K C
  n : NoAttr K C n
def fldA (Cs : List Addr) (n : Str) (o : Option AO) (A : AH) : Res D := match o with
  | some (.ins C fs) => if C ∈ Cs then (match fs.lookup n with | some v => .ok v A | none => .bad) else .bad
  | _ => .bad
def fldV (Cs : List Addr) (n : Str) (d : D) (A : AH) : Res D := match d with
  | .ref i => fldA Cs n A[i]? A
  | _ => .bad
def fFld (Cs : List Addr) (n : Str) (f : FE) : FE := fun s A => (f s A).bind fun d A1 => fldV Cs n d A1
theorem rpk_lookup {K : PySem.W.Frag} {ρ : List Addr} {H : Hp} {n : Str} {v : D} : ∀ {fs : List (Str × D)} {us : List (Str × V)}, RpK K ρ H fs us → fs.lookup n = some v → ∃ u, us.lookup n = some u ∧ Rp K ρ H v u
  | [], us, h, e => by cases e
  | (m, d) :: fs, us, h, e => by
    obtain ⟨u, r, rfl, h1, h2⟩ := h
    rw [List.lookup_cons] at e ⊢
    split at e
    · rename_i q
      rw [q]
      cases e
      exact ⟨u, rfl, h1⟩
    · rename_i q
      rw [q]
      exact rpk_lookup h2 e
section
variable {X : Cx} {E : XK} {e o value : Expr} {f g : FE} {n : Str} {Cs : List Addr} {pos pos' : Pos}
theorem ae_fld (hC : ∀ C ∈ Cs, CF X.K C n) (h : AE X E e f) (hb : attributeBase e n X.env (eval e X.env) = eval e X.env := by rfl) : AE X E (.Attribute e n pos) (fFld Cs n f) := pe_mono (pe_fld h hb) fun σ H Q h => by
  obtain ⟨ρ, s, A, hs, R, h⟩ := h
  refine ⟨ρ, s, A, hs, R, (Out.bind h).mono fun x H1 ⟨ρ1, d, A1, _, e1, R1, r1, h1⟩ => ?_⟩
  unfold fldV at h1
  split at h1
  · rename_i i
    unfold fldA at h1
    split at h1
    · rename_i C fs eA
      split at h1
      · rename_i hm
        split at h1
        · rename_i v ev
          obtain ⟨a, ha, rfl⟩ := r1
          obtain ⟨a', ha', dx, us, q1, q2⟩ := R1.ob _ _ eA
          rw [ha] at ha'; cases ha'
          obtain ⟨u, l1, l2⟩ := rpk_lookup q2 ev
          exact ⟨a, C, dx, us, u, rfl, q1, (hC C hm).c, (hC C hm).n, l1, h1.now R1 l2⟩
        · exact h1.elim
      · exact h1.elim
    · exact h1.elim
  · exact h1.elim
/-- o.n = value -/
def putD (n : Str) (v : D) : List (Str × D) → List (Str × D)
  | [] => [(n, v)]
  | (m, x) :: r => if m = n then (m, v) :: r else (m, x) :: putD n v r
theorem rpk_put {K : PySem.W.Frag} {ρ : List Addr} {H : Hp} {v : D} {u : V} (hv : Rp K ρ H v u) : ∀ {fs : List (Str × D)} {us : List (Str × V)}, RpK K ρ H fs us → RpK K ρ H (putD n v fs) (putF n u us)
  | [], us, h => by
    rw [show us = [] from h]
    exact ⟨u, [], rfl, hv, rfl⟩
  | (m, d) :: fs, us, h => by
    obtain ⟨u', r, rfl, h1, h2⟩ := h
    unfold putD putF
    split
    · exact ⟨u, r, rfl, hv, h2⟩
    · exact ⟨u', _, rfl, h1, rpk_put hv h2⟩
theorem rpk_len {κ : Type} {K : PySem.W.Frag} {ρ : List Addr} {H : Hp} : ∀ {fs : List (κ × D)} {us : List (κ × V)}, RpK K ρ H fs us → us.length = fs.length
  | [], us, h => by rw [show us = [] from h]; rfl
  | p :: fs, us, h => by
    obtain ⟨u', r, rfl, h1, h2⟩ := h
    simp [rpk_len h2]
def setA (Cs : List Addr) (n : Str) (v : D) (i : Nat) (o : Option AO) (A : AH) : Res Unit := match o with
  | some (.ins C fs) => if C ∈ Cs ∧ fs.length < 1000 then .ok () (A.set i (.ins C (putD n v fs))) else .bad
  | _ => .bad
def setD (Cs : List Addr) (n : Str) (v d : D) (A : AH) : Res Unit := match d with
  | .ref i => setA Cs n v i A[i]? A
  | _ => .bad
def fSetF (Cs : List Addr) (n : Str) (fv fo : FE) : FS := fun s A => (fv s A).bind fun y A1 => (fo s A1).bind fun d A2 => (setD Cs n y d A2).bind fun _ A3 => .ok (.nx s) A3
theorem as_fld (hC : ∀ C ∈ Cs, CF X.K C n) (ho : AE X E o f) (hv : AE X E value g) (hs : swapsWith value (some (.Attribute o n pos')) pos.line X.env = pure false := by rfl) : AS X E (.Assign [.Attribute o n pos'] value pos) (fSetF Cs n g f) := ps_mono (ps_fld ho hv hs) fun G σ H h => by
  obtain ⟨ρ, s, A, hs, R, h⟩ := h
  refine ⟨ρ, s, A, hs, R, (Out.bindS h).mono fun y H1 ⟨ρ1, d, A1, _, e1, R1, r1, h1⟩ => ⟨ρ1, s, A1, hs.ext e1, R1, (Out.bindS h1).mono fun x H2 ⟨ρ2, d2, A2, _, e2, R2, r2, h2⟩ => ?_⟩⟩
  unfold setD at h2
  split at h2
  · rename_i i
    unfold setA at h2
    split at h2
    · rename_i C fs eA
      split at h2
      · rename_i hm
        obtain ⟨a, ha, rfl⟩ := r2
        obtain ⟨a', ha', dx, us, q1, q2⟩ := R2.ob _ _ eA
        rw [ha] at ha'; cases ha'
        have ex : Ext X.K ρ2 H2 ρ2 (L2.upd H2 a (.ins C dx (putF n y us))) := Ext.mut q1 trivial
        refine ⟨a, C, dx, us, rfl, q1, (hC C hm.1).c, (hC C hm.1).n, by rw [rpk_len q2]; exact hm.2, ?_⟩
        refine h2 ρ2 _ σ ex (R2.upd ha eA rfl q1 trivial ⟨dx, _, upd_same, (rpk_put (r1.ext e2) q2).ext ex⟩ rfl) (((hs.ext e1).ext e2).ext ex)
      · exact h2.elim
    · exact h2.elim
  · exact h2.elim
end
/-! ### making an instance -/
def nonR (i : Nat) (v : D) (A : AH) : Res D := match v with
  | .non => .ok (.ref i) A
  | _ => .bad
def fMake (C : Addr) (np : Nat) (m : FM) (fs : FA) : FE := fun s A => (fs s A).bind fun ds A1 => if ds.length + 1 = np then (m (.ref A1.length :: ds) (A1 ++ [.ins C []])).bind fun v A2 => nonR A1.length v A2 else .bad
section
variable {X : Cx} {k n : Nat} {f C : Addr} {fd : FuncData} {ps : List Str} {m : FM} {x : Str} {p pos : Pos} {e : Expr} {es : List Expr} {fs : FA}
theorem make_ {K : PySem.W.Frag} {σ : L2.St} {H : Hp} {Q : VK} {n : Nat} (h : tA K E0 (fMake C n m fs) σ H Q) : tMake C (spM K n m) [] E0 (tAA K E0 fs) σ H Q := by
  obtain ⟨ρ, s, A, hs, R, h⟩ := h
  refine ⟨ρ, s, A, hs, R, (Out.bind h).mono fun vs H1 ⟨ρ1, ds, A1, _, e1, R1, r1, h1⟩ => ?_⟩
  intro x dx hx hdx nx
  split at h1
  · rename_i z
    have e2 : Ext K ρ1 H1 ρ1 (upd H1 dx (.own x)) := Ext.new0 hdx
    have R2 : Rel K ρ1 (upd H1 dx (.own x)) A1 := R1.new0 hdx
    have hx2 : (upd H1 dx (.own x)) x = none := by rw [upd_ne (Ne.symm nx)]; exact hx
    have e3 : Ext K ρ1 (upd H1 dx (.own x)) (ρ1 ++ [x]) (upd (upd H1 dx (.own x)) x (.ins C dx [])) := Ext.new hx2 [x]
    have R3 : Rel K (ρ1 ++ [x]) (upd (upd H1 dx (.own x)) x (.ins C dx [])) (A1 ++ [.ins C []]) := R2.new hx2 ⟨dx, [], upd_same, rfl⟩
    have ex := e2.trans e3
    have hl : (ρ1 ++ [x])[A1.length]? = some x := by rw [← R1.len]; simp
    refine ⟨ρ1 ++ [x], A1 ++ [.ins C []], .ref A1.length :: ds, R3, ⟨.ref x, vs, by rw [List.append_nil], ⟨x, hl, rfl⟩, r1.ext ex⟩, by rw [List.length_cons]; exact z, ?_⟩
    refine (Out.bind (Out.ext h1 ex)).mono fun v H4 ⟨ρ4, d, A4, _, e4, R4, r4, h4⟩ => ?_
    unfold nonR at h4
    split at h4
    · exact ⟨r4, h4.now R4 ⟨x, e4.at_ hl, rfl⟩⟩
    · exact h4.elim
  · exact h1.elim
theorem ae_make (M : Mk X.K C f) (F : ADef X.prog X.w X.K X.mg X.base k f fd ps m) (hr : Room (k + 1) X.A) (hg : Gl X x) (hm : X.mg x = some (.ref C)) (hb : Binds X.K fd ps [])
    (ha : AA X E0 (e :: es) fs) (hdb : (x == ("__debug__" : Str)) = false := by decide) (he : starEach (e :: es) X.env = (false, eval e X.env) :: starEach es X.env := by rfl) (hpl : (backTo pos (starEach es X.env)).any (·.1) = false := by rfl) (hn : ps.length = n := by rfl) :
    AE X E0 (.Call (.Name x p) (e :: es) [] pos) (fMake C n m fs) := pe_mono (pe_make M F hr hg hm hb .nil pass0 ha hdb he hpl) fun _ _ _ h => make_ (by rw [hn]; exact h)
end
/-! ### evaluation -/
theorem ev_fld {Cs : List Addr} {n : Str} {f : FE} {s : ASt} {A : AH} : fFld Cs n f s A = (f s A).bind fun d A1 => fldV Cs n d A1 := rfl
theorem fld_at {Cs : List Addr} {n : Str} {i : Nat} {A : AH} {C : Addr} {fs : List (Str × D)} {v : D} (h : A[i]? = some (.ins C fs)) (hc : C ∈ Cs) (e : fs.lookup n = some v) : fldV Cs n (.ref i) A = .ok v A := by
  show fldA Cs n A[i]? A = _
  rw [h]
  show (if C ∈ Cs then (match fs.lookup n with | some v => Res.ok v A | none => .bad) else .bad) = _
  rw [if_pos hc, e]
theorem ev_setF {Cs : List Addr} {n : Str} {fv fo : FE} {s : ASt} {A : AH} : fSetF Cs n fv fo s A = (fv s A).bind fun y A1 => (fo s A1).bind fun d A2 => (setD Cs n y d A2).bind fun _ A3 => .ok (.nx s) A3 := rfl
theorem set_at {Cs : List Addr} {n : Str} {i : Nat} {A : AH} {C : Addr} {fs : List (Str × D)} {v : D} (h : A[i]? = some (.ins C fs)) (hc : C ∈ Cs) (hl : fs.length < 1000) : setD Cs n v (.ref i) A = .ok () (A.set i (.ins C (putD n v fs))) := by
  show setA Cs n v i A[i]? A = _
  rw [h]
  exact if_pos ⟨hc, hl⟩
theorem ev_make {C : Addr} {np : Nat} {m : FM} {fs : FA} {s : ASt} {A : AH} : fMake C np m fs s A = (fs s A).bind fun ds A1 => if ds.length + 1 = np then (m (.ref A1.length :: ds) (A1 ++ [.ins C []])).bind fun v A2 => nonR A1.length v A2 else .bad := rfl
/-! ### the classes' addresses -/
def clsA (K : PySem.W.Frag) (x : Str) : Addr := match PySem.W.nsIn K mainGlobals x with
  | some (some (.ref a)) => a
  | _ => 0
theorem clsA_of {K : PySem.W.Frag} {x : Str} {C : Addr} (h : PySem.W.nsIn K mainGlobals x = some (some (.ref C))) : clsA K x = C := by
  unfold clsA
  rw [h]
theorem sp_lawK {m : PySem.W.Frag → FM} (h : ∀ (K : PySem.W.Frag) (ns : List Int), ns.length ≤ 63 → ∃ A', m K [.ref 0] [.frz (ns.map D.int)] = .ok (.bl true) A') :
    ∀ (K : PySem.W.Frag) (H : Hp) (a : Addr) (ns : List Int), ns.length ≤ 63 → Only H → SqL K H a (ns.map V.int) → spM K 1 (m K) [.ref a] H (fun v _ => v = .bl true) fun _ _ _ => False := fun K => sp_law (h K) K
end Ab

namespace Ab
open PySem PySem.Spec PyProof.Rows L2
open scoped Classical
/-! ## dict displays with a clause -/
noncomputable def loopK (ok : AH → Prop) (g : FG) (t : FT) (fk f : FE) (n : Nat) (s : ASt) : List D → AH → Res D
  | [], A => if ok A then .ok (.ref n) A else .bad
  | d :: ds, A => if ok A then (g d s A).bind fun s1 A1 => (t s1 A1).bind fun b A2 => if b = true then (fk s1 A2).bind fun y A3 => (f s1 A3).bind fun z A4 => (match keyOf y, A4[n]? with
      | some k, some (.dic acc) => if acc.length < sizeLine then loopK ok g t fk f n s ds (A4.set n (.dic (setK acc k z))) else .bad
      | _, _ => .bad) else loopK ok g t fk f n s ds A2 else .bad
noncomputable def fDc (src : FI) (g : FG) (t : FT) (fk f : FE) (vs : List Nat) : FE := fun s A => (src s A).bind fun S A1 => loopK S.ok g t fk f A1.length (wipeA s vs) S.items (A1 ++ [.dic []])
section
variable {X : Cx} {E : XK} {kx elt tg iter : Expr} {ifs : List Expr} {scope : Scope} {own : List (Str × Nat)} {pos : Pos} {src : FI} {tgg : TG} {g : FG} {t : FT} {fk f : FE}
theorem wipe_self {σ : L2.St} (vs : List Nat) : L2.wipe (L2.wipe σ vs) vs = L2.wipe σ vs := by
  have ww : ∀ (us ws : List Nat), (∀ i ∈ us, i ∈ ws) → L2.wipe (L2.wipe σ us) ws = L2.wipe σ ws := by
    intro us
    induction us with
    | nil => intro ws _; rfl
    | cons u us ih =>
      intro ws hw
      show L2.wipe ((L2.wipe σ us).set u none) ws = _
      rw [wipe_set u none ws _ (hw u List.mem_cons_self)]
      exact ih ws fun i hi => hw i (List.mem_cons_of_mem _ hi)
  exact ww vs vs fun i h => h
theorem dc_read {K : PySem.W.Frag} {vs : List Nat} (tt : Tgt K vs tgg g) {σ : L2.St} {H : Hp} {Q : VK} (h : tA K E (fDc src g t fk f vs) σ H Q) :
    tDc (tAI K E src) tgg (tAT K E t) (tA K E fk) (tA K E f) vs σ H Q := by
  obtain ⟨ρ, s, A, hs, R, h⟩ := h
  refine ⟨ρ, s, A, hs, R, (OutI.bindO h).mono fun J H1 ⟨ρ1, S, A1, _, e1, R1, J1, h1⟩ => fun L hL => ?_⟩
  have eL : Ext K ρ1 H1 (ρ1 ++ [L]) (L2.upd H1 L (.dK [])) := Ext.new hL [L]
  have RL : Rel K (ρ1 ++ [L]) (L2.upd H1 L (.dK [])) (A1 ++ [.dic []]) := R1.new hL ⟨[], upd_same, rfl⟩
  have nL : (ρ1 ++ [L])[A1.length]? = some L := by rw [← R1.len]; simp
  refine ⟨fun i m H' => m = S.items.length - i ∧ i ≤ S.items.length ∧ ∃ ρ' A', Ext K (ρ1 ++ [L]) (L2.upd H1 L (.dK [])) ρ' H' ∧ Rel K ρ' H' A' ∧ OutE K E ρ' H' (loopK S.ok g t fk f A1.length (wipeA s vs) (S.items.drop i) A') Q,
    ⟨_, rfl, Nat.zero_le _, _, _, .refl, RL, by simpa using h1.ext eL⟩, ?_⟩
  rintro i m H' ⟨rfl, hi, ρ', A', e2, R2, h2⟩
  have hs2 : SRel K ρ' H' (wipeA s vs) (L2.wipe σ vs) := (hs.wipes _).ext (e1.trans (eL.trans e2))
  have fL : ∀ {ρ3 : List Addr} {H3 : Hp}, Ext K ρ' H' ρ3 H3 → ρ3[A1.length]? = some L := fun e => (e2.trans e).at_ nL
  by_cases hl : i < S.items.length
  · obtain ⟨d, hd⟩ : ∃ d, S.items[i]? = some d := ⟨_, List.getElem?_eq_getElem hl⟩
    have ed : S.items.drop i = d :: S.items.drop (i + 1) := by
      rw [List.drop_eq_getElem_cons hl]
      rw [List.getElem?_eq_getElem hl] at hd
      cases hd; rfl
    rw [ed] at h2
    unfold loopK at h2
    split at h2
    · rename_i ok
      obtain ⟨go, yl⟩ := (J1 i ρ' H' A' (eL.trans e2) R2 ok).1 d hd
      refine .inr ⟨go, fun H3 => ∃ ρ3 A3, Ext K (ρ1 ++ [L]) (L2.upd H1 L (.dK [])) ρ3 H3 ∧ Rel K ρ3 H3 A3 ∧ OutE K E ρ3 H3 (loopK S.ok g t fk f A1.length (wipeA s vs) (S.items.drop (i + 1)) A3) Q, fun H3 h3 => ⟨_, by omega, rfl, hl, h3⟩, fun x H3 hy => ?_⟩
      obtain ⟨e3, R3, r3⟩ := yl x H3 hy
      have h2 := h2.ext e3
      rcases tt.det d (wipeA s vs) A' with eg | ⟨s1, eg⟩
      · rw [eg] at h2; exact h2.elim
      · rw [eg] at h2
        change Out K E (fun ρ H d v => Rp K ρ H d v) ρ' H3 ((t s1 A').bind fun b A2 => _) Q at h2
        refine tt.to ρ' H3 _ _ A' d x s1 _ (hs2.ext e3) r3 eg fun σ1 hs3 w => ⟨w.trans (wipe_self vs), ρ', s1, A', hs3, R3, (Out.bind h2).mono fun b H4 ⟨ρ4, b', A4, _, e4, R4, r4, h4⟩ => ?_⟩
        cases r4
        cases b with
        | false =>
          rw [if_neg Bool.false_ne_true] at h4 ⊢
          exact ⟨ρ4, A4, e2.trans (e3.trans e4), R4, h4⟩
        | true =>
          rw [if_pos rfl] at h4 ⊢
          refine ⟨ρ4, s1, A4, hs3.ext e4, R4, (Out.bind h4).mono fun y H5 ⟨ρ5, d5, A5, _, e5, R5, r5, h5⟩ => ?_⟩
          refine ⟨ρ5, s1, A5, hs3.ext (e4.trans e5), R5, (Out.bind h5).mono fun z H6 ⟨ρ6, d6, A6, _, e6, R6, r6, h6⟩ => ?_⟩
          have e36 := e3.trans (e4.trans (e5.trans e6))
          split at h6
          · rename_i k acc ek eA
            split at h6
            · rename_i zz
              obtain ⟨a, ha, us, q1, q2⟩ := R6.ob _ _ eA
              rw [fL e36] at ha; cases ha
              have u := upd_dic R6 (fL e36) eA q1 (setK_ok (k := k) q2 r6)
              exact ⟨us, k, keyOf_ok r5 ek, q1, by rw [q2.length]; exact zz, ρ6, _, e2.trans (e36.trans u.1), u.2, h6.ext u.1⟩
            · exact h6.elim
          · exact h6.elim
    · exact h2.elim
  · have ei : i = S.items.length := by omega
    have ed : S.items.drop i = [] := List.drop_eq_nil_of_le (by omega)
    rw [ed] at h2
    unfold loopK at h2
    split at h2
    · rename_i ok
      exact .inl ⟨(J1 i ρ' H' A' (eL.trans e2) R2 ok).2 (by omega) ei.symm, h2.now R2 ⟨L, fL .refl, rfl⟩⟩
    · exact h2.elim
theorem ae_dc (own : List (Str × Nat)) (hc : X.calm = true) (hN : X.N.Nodup) (hi : AI X E tg iter src) (ok : BlkOk X.N X.env.scope scope own) (tt : Tgt X.K (own.map (·.2)) tgg g)
    (hg : Blk X scope fun Y => PG Y tg tgg) (ht : Blk X scope fun Y => ATs Y E ifs t) (hk : Blk X scope fun Y => AE Y E kx fk) (he : Blk X scope fun Y => AE Y E elt f) (hs : ∀ x, foldedSetIterable iter X.env x = pure x := by intro _; rfl) :
    AE X E (.DictComp kx elt [⟨tg, iter, ifs, 0⟩] scope pos) (fDc src g t fk f (own.map (·.2))) := pe_mono (pe_dc hc hN hi ok hg ht hk he hs) fun _ _ _ => dc_read tt
end
end Ab

/-! ## enumerate of a tuple -/
namespace PySem
open Sem (wp)
theorem meets_enum_tup (a : Addr) (items : Array Value) : Meets (Builtin.«enumerate.__new__» ⟨[.type "enumerate", .ref a], []⟩) (fun _ R s => s.heap.IsTuple a items ∧
      R (.ok (.ret (.ref (s.heap.push { cls := .type "tuple_iterator", data := .fields #[.ref a, .int 0 0] }).objs.size)))
        { s with heap := (s.heap.push { cls := .type "tuple_iterator", data := .fields #[.ref a, .int 0 0] }).push { cls := .type "enumerate", data := .fields #[.none, .bool false, .ref s.heap.objs.size, rawInt 0, .none, .none] } }) :=
  .of_wp fun prog w A R s h => by
    obtain ⟨hp, gs, dr, tk, os⟩ := s; obtain ⟨ht, h⟩ := h
    have sub0 := sub_enumerate
    wp_walk using wpAny_pyIter_tuple ht
    refine wpAny_stack_any fun st => wpAny_pure ?_
    split
    · rename_i c _ _ _ _ _
      cases (c == Value.type "enumerate")
      · wp_walk using wpAny_pyIter_tuple ht
        exact ⟨_, rfl, h⟩
      · wp_walk using wpAny_pyIter_tuple ht
        exact ⟨_, rfl, h⟩
    · wp_walk using wpAny_pyIter_tuple ht
      exact ⟨_, rfl, h⟩
section
variable {prog : Program} {w : World} {A : Around} {E : Value → Shared → Prop} {s : Shared}
theorem call_enum_tup {a : Addr} {items : Array Value} {Q : Value → Shared → Prop} (ht : s.heap.IsTuple a items)
    (h : ∀ g, IsEnum g (s.heap.objs.size + 1) s.heap.objs.size 0 .none → g.IsTupleIter s.heap.objs.size a 0 → g.objs.size = s.heap.objs.size + 2 →
      (∀ b o, s.heap.get? b = some o → g.get? b = some o) → Q (.ref (s.heap.objs.size + 1)) { s with heap := g }) :
    wpAny (model prog w) A (call (.type "enumerate") [.ref a]) Q E s := by
  refine callType_new F.called_enumerate (by decide) (F.typeCall_enumerate_1 _) (F.newCall_enumerate_1 _) (fun x => F.args_object_init_2 x _) F.entry_enumerate_new (meets_enum_tup a items) ⟨ht, ?_⟩
  have z : (s.heap.push { cls := .type "tuple_iterator", data := .fields #[.ref a, .int 0 0] }).objs.size = s.heap.objs.size + 1 := Heap.size_push ..
  show _ ∧ _
  rw [z]
  have he : IsEnum ((s.heap.push { cls := .type "tuple_iterator", data := .fields #[.ref a, .int 0 0] }).push { cls := .type "enumerate", data := .fields #[.none, .bool false, .ref s.heap.objs.size, rawInt 0, .none, .none] }) (s.heap.objs.size + 1) s.heap.objs.size 0 .none := by
    have y := Heap.get?_push_size (s.heap.push { cls := .type "tuple_iterator", data := .fields #[.ref a, .int 0 0] }) (o := { cls := .type "enumerate", data := .fields #[.none, .bool false, .ref s.heap.objs.size, rawInt 0, .none, .none] }) rfl
    rw [z] at y; exact y
  refine ⟨⟨_, he, rfl⟩, h _ he ⟨_, Heap.get?_push_of_some _ (Heap.get?_push_size _ rfl), rfl, rfl⟩ (by rw [Heap.size_push, z]) fun b o y => Heap.get?_push_of_some _ (Heap.get?_push_of_some _ y)⟩
theorem enum_tup_end {e it a : Addr} {i : Nat} {items : Array Value} {old : Value} {Q : Option Value → Shared → Prop} (hh : A.handled = none)
    (he : IsEnum s.heap e it i old) (hit : s.heap.IsTupleIter it a i) (ht : s.heap.IsTuple a items) (hx : items[i]? = none)
    (hQ : ∀ g, Heap.ExtBut it s.heap g → Q none { s with heap := g }) : wpAny (model prog w) A (pyNext (.ref e)) Q E s := by
  have T : s.TypeIs (.ref e) "enumerate" := ⟨_, he, rfl⟩
  unfold pyNext
  refine wpAny_bind (wpAny_attempt (wpAny_callSpecial?_slot (name := Str.ofString "__next__") T F.slot_enumerate_next (wpAny_call_entry F.slot_enumerate_next T F.entry_enumerate_next ?_ (F.args_enumerate_next_1 _))))
  show wpAny _ _ (field (.ref e) 2 >>= _) _ _ s
  refine wpAny_bind (wpAny_field he rfl (x := Value.ref it) rfl ?_)
  refine wpAny_bind (wpAny_nextOf_tuple_end hh hit ht hx fun g x ex st => ?_)
  obtain ⟨o, ho, hc⟩ := st
  refine wpAny_bind (wpAny_isInstance (T := "StopIteration") (b := true) ⟨_, ho, hc⟩ isSubtype_stop ?_)
  exact wpAny_pure (hQ _ ex)
end
end PySem
namespace Ab
open PySem PySem.Spec PyProof.Rows L2
/-- the tuple at a, each item in a new pair -/
def ItET (K : PySem.W.Frag) (a : Addr) : It :=
  ⟨fun i H => ∃ (xs : List V) (x : V), SqT K H a xs ∧ xs[i]? = some x, fun i H v H' => ∃ T x, v = .ref T ∧ H T = none ∧ H' = upd H T (.tup [.int (i : Nat), x]) ∧ ∀ xs, SqT K H a xs → xs[i]? = some x, fun i H => ∃ xs : List V, SqT K H a xs ∧ xs.length ≤ i⟩
theorem turn_enumT {P : Program} {w : World} {K : PySem.W.Frag} {elts : List Expr} {kk : Nat} {tpos : Pos} (a e it : Addr) (ea : a ≠ it) (ee : e ≠ a) :
    Turn P w K (.Tuple elts kk tpos) (ItET K a) [e, it] e (fun i h => (∃ old, IsEnum h e it ((i : Nat) : Int) old) ∧ h.IsTupleIter it a i ∧ e ≠ it) where
  mem := by simp
  obj := fun i h st b hb => by
    obtain ⟨⟨old, he⟩, ⟨o, ho, hc, hd⟩, _⟩ := st
    rcases (by simpa using hb : b = e ∨ b = it) with z | z
    · rw [z]; exact ⟨_, he, fun v q => nomatch q⟩
    · rw [z]; exact ⟨o, ho, fun v q => by rw [hd] at q; cases q⟩
  keep := fun i h h' st k => let ⟨⟨old, he⟩, hi, ne⟩ := st; ⟨⟨old, k e (by simp) _ he⟩, hi.at fun o q => k it (by simp) o q, ne⟩
  item := by
    intro X hP hw hK hc i pins s σ H E I hf st hg
    subst hP hw hK
    obtain ⟨⟨old, he⟩, hit, ne⟩ := st
    obtain ⟨xs, x, hq, hx⟩ := hg
    obtain ⟨its, rv, p, hz⟩ := I.tuple hq
    obtain ⟨u, hu, ru⟩ := rv.get hx
    have le : e < s.heap.objs.size := Heap.lt_size he
    have li : it < s.heap.objs.size := by obtain ⟨_, q, _⟩ := hit; exact Heap.lt_size q
    have hlt : i < its.toArray.size := by
      have := (List.getElem?_eq_some_iff.mp hu).1
      simpa using this
    refine wpAny_pyNext_enum_itemD (Draws.tuple (A := X.A.in1) (by show X.A.in1.handled = none; simpa using I.ok.hd hc) it a ea its.toArray) he ⟨hit, p⟩ hlt ne (by simp [ne, ee]) fun y g tk hy ho hit' hT hsz hk => ?_
    have hy : y = u := by
      have z : its[i]? = some y := by simpa using hy
      rw [hu] at z; cases z; rfl
    subst hy
    refine ⟨_, rfl, wpAny_letOwnedTupleGo_enum (s := { s with heap := g, toks := tk + 1 }) ho fun g2 he' sb => ?_⟩
    have hT2 : g2.get? s.heap.objs.size = some { cls := .type "tuple", data := .seq #[.int i tk, y] } := (sb.2 _ (Nat.ne_of_gt le)).trans hT
    have new : ObjOk X.prog X.w (upd H s.heap.objs.size (.tup [.int (i : Nat), x])) g2 s.heap.objs.size (.tup [.int (i : Nat), x]) :=
      ⟨by show 2 ≤ sizeLine; decide, [.int i tk, y], .cons ⟨_, rfl⟩ (.cons ru .nil), ⟨_, hT2, rfl, _, rfl⟩⟩
    have I1 : Inv X pins σ (upd H s.heap.objs.size (.tup [.int (i : Nat), x])) { s with heap := g2, toks := tk + 1 } :=
      I.turnedNew (ch := [e, it]) (fun b ob hb q => (sb.2 b (fun z => hb (by simp [z]))).trans (hk b ob (fun z => hb (by simp [z])) (fun z => hb (by simp [z])) q)) hf (Nat.le_refl _) new
    refine ⟨.ref s.heap.objs.size, _, I1, rfl, ⟨_, x, rfl, I.hok.fresh (Nat.le_refl _), rfl, fun ys hy => by rw [I.tuple_inj hy hq]; exact hx⟩, ⟨⟨y, ?_⟩, hit'.1.at fun o q => (sb.2 it (Ne.symm ne)).trans q, ne⟩, fun b hb => ?_⟩
    · rw [show ((i + 1 : Nat) : Int) = (i : Int) + 1 by omega]; exact he'
    · have lb : b < s.heap.objs.size := by
        rcases (by simpa using hb : b = e ∨ b = it) with z | z
        · rw [z]; exact le
        · rw [z]; exact li
      rw [upd_ne (Nat.ne_of_lt lb)]
      exact (hf b hb).1
  done := by
    intro X hP hw hK hc i pins s σ H E I hf st hg
    subst hP hw hK
    obtain ⟨⟨old, he⟩, hit, ne⟩ := st
    obtain ⟨xs, hq, hx⟩ := hg
    obtain ⟨its, rv, p, hz⟩ := I.tuple hq
    obtain ⟨f0, f1, f2, f3, f4, f5⟩ := hf it (by simp)
    have hl := rv.length
    exact enum_tup_end (I.ok.hd hc) he hit p (by simp; omega) fun g eb => ⟨rfl, I.turned (t' := s.toks) (fun b o hb q => eb b o hb q) f0 f1 f3 f4 f5⟩
  self := fun A i s Q E st h => let ⟨⟨_, he⟩, _⟩ := st; wpAny_pyIter_enum he h
def iEnumA (K : PySem.W.Frag) (ta : TA) : TI := fun σ H R => ta σ H fun vs H1 => ∃ a xs, vs = [.ref a] ∧ ((SqL K H1 a xs ∧ R (Ite K a) H1) ∨ (SqT K H1 a xs ∧ R (ItET K a) H1))
theorem pi_enumA {X : Cx} {e : Expr} {ta : TA} {p pos tpos : Pos} {elts : List Expr} {kk : Nat} (hg : Gl X "enumerate") (hm : X.mg "enumerate" = none) (ha : PA X [e] ta) (hs : starEach [e] X.env = [(false, eval e X.env)] := by rfl) :
    PI X (.Tuple elts kk tpos) (.Call (.Name "enumerate" p) [e] [] pos) (iEnumA X.K ta) := by
  refine ⟨fun pins s σ H R I h => ?_⟩
  refine Call_ (ld_blt I hg hm boot_enumerate (PyProof.Rows.callWith_type1 (thn (ha.run pos pins s σ H _ I h) fun us t ⟨vs, H1, J, r1, q1⟩ => ?_) hs rfl))
  obtain ⟨a, xs, ex, q1⟩ := q1
  subst ex
  cases r1 with
  | cons r rr =>
    cases rr
    cases r
    have new2 : ∀ b, b ∈ [t.heap.objs.size + 1, t.heap.objs.size] → FpOk X pins H1 b := fun b hb => by
      have le : t.heap.objs.size ≤ b := by
        rcases (by simpa using hb : b = t.heap.objs.size + 1 ∨ b = t.heap.objs.size) with z | z
        · rw [z]; exact Nat.le_add_right _ _
        · rw [z]; exact Nat.le_refl _
      exact J.fpOk le (J.hok.fresh le)
    rcases q1 with ⟨hq, q⟩ | ⟨hq, q⟩
    · obtain ⟨its, rv, p', hz⟩ := J.list hq
      refine call_enumerate_list p'.isList fun g he hit hsz hk => wpAny_pyIter_enum he ?_
      have J2 : Inv X pins σ H1 { t with heap := g } := J.kept (t' := t.toks) hk
      exact ⟨t.heap.objs.size + 1, [t.heap.objs.size + 1, t.heap.objs.size], _, _, H1, rfl, J2, turn_enum a (t.heap.objs.size + 1) t.heap.objs.size, ⟨⟨.none, he⟩, hit, Nat.succ_ne_self _⟩, new2, q⟩
    · obtain ⟨its, rv, p', hz⟩ := J.tuple hq
      have la : a < t.heap.objs.size := by
        obtain ⟨_, y, _⟩ := p'
        exact Heap.lt_size y
      refine call_enum_tup p' fun g he hit hsz hk => wpAny_pyIter_enum he ?_
      have J2 : Inv X pins σ H1 { t with heap := g } := J.kept (t' := t.toks) hk
      exact ⟨t.heap.objs.size + 1, [t.heap.objs.size + 1, t.heap.objs.size], _, _, H1, rfl, J2, turn_enumT a (t.heap.objs.size + 1) t.heap.objs.size (Nat.ne_of_lt la) (Nat.ne_of_gt (Nat.lt_succ_of_lt la)), ⟨⟨.none, he⟩, hit, Nat.succ_ne_self _⟩, new2, q⟩
theorem ieT_rel {K : PySem.W.Frag} {ρ : List Addr} {H : Hp} {a : Addr} {xs : List V} {ds : List D} (h : SqT K H a xs) (r : RpL K ρ H ds xs) : ItRel K (ItET K a) ρ H ⟨enumL 0 ds, yes⟩ := fun i ρ' H' A e R ok => by
  have h' := e.gr _ _ h
  have r' := r.ext e
  refine ⟨fun d hd => ?_, fun hl _ => ⟨xs, h', by rw [r'.length]; rw [show (Src.items ⟨enumL 0 ds, yes⟩).length = ds.length from enumL_len 0 ds] at hl; exact hl⟩⟩
  have hd : (enumL 0 ds)[i]? = some d := hd
  rw [enumL_get] at hd
  cases ei : ds[i]? with
  | none => rw [ei] at hd; cases hd
  | some d0 =>
    rw [ei] at hd
    cases hd
    obtain ⟨v, q1, q2⟩ := r'.get ei
    refine ⟨⟨xs, v, h', q1⟩, fun x H2 hy => ?_⟩
    obtain ⟨T, w, rfl, hT, rfl, fv⟩ := hy
    have := fv _ h'
    rw [q1] at this; cases this
    rw [Nat.zero_add]
    exact pair_new R hT rfl q2
def enumS (d : D) (A : AH) : Res Src := match d with
  | .tup ds => .ok ⟨enumL 0 ds, yes⟩ A
  | d => match rdL A d with
    | some ds => .ok ⟨enumL 0 ds, fun A' => rdL A' d = some ds⟩ A
    | none => .bad
/-- enumerate of a list or of a tuple -/
def fEnumA (f : FE) : FI := fun s A => (f s A).bind enumS
theorem ai_enumA {X : Cx} {E : XK} {e : Expr} {f : FE} {p pos tpos : Pos} {elts : List Expr} {kk : Nat} (hg : Gl X "enumerate") (hm : X.mg "enumerate" = none) (he : AE X E e f) (h1 : starEach [e] X.env = (false, eval e X.env) :: starEach [] X.env := by rfl) : AI X E (.Tuple elts kk tpos) (.Call (.Name "enumerate" p) [e] [] pos) (fEnumA f) := pi_mono (pi_enumA (hs := h1) hg hm (aa_cons he aa_nil h1)) fun σ H Q h => by
  obtain ⟨ρ, s, A, hs, R, h⟩ := h
  have ef : fEnumA f s A = (fCons f fNil s A).bind fun ds A1 => match ds with
      | [d] => enumS d A1
      | _ => .bad := by
    unfold fEnumA fCons fNil
    cases f s A with
    | bad => rfl
    | exc _ _ _ => rfl
    | ok d A1 => rfl
  rw [ef] at h
  refine ⟨ρ, s, A, hs, R, (Out.bindI h).mono fun xs H1 ⟨ρ1, ds, A1, _, e1, R1, r1, h1⟩ => ?_⟩
  split at h1
  · rename_i _ d _
    obtain ⟨x, rfl, r2⟩ := r1.one_inv
    cases d with
    | tup ds' =>
      obtain ⟨a, us, rfl, q1, q2⟩ := r2
      exact ⟨a, us, rfl, .inr ⟨q1, h1 ρ1 H1 _ .refl R1 (ieT_rel q1 q2)⟩⟩
    | ref n =>
      simp only [enumS] at h1
      split at h1
      · rename_i ds' e4
        obtain ⟨a, us, rfl, q1, q2⟩ := rdL_ok R1 r2 e4
        obtain ⟨b, hb, eb⟩ := r2
        cases eb
        exact ⟨a, us, rfl, .inl ⟨q1, h1 ρ1 H1 _ .refl R1 (ite_rel hb)⟩⟩
      · exact h1.elim
    | _ => exact h1.elim
  · exact h1.elim
theorem ev_enumA {f : FE} {s : ASt} {A : AH} : fEnumA f s A = (f s A).bind enumS := rfl
theorem ev_enumT {ds : List D} {A : AH} : enumS (.tup ds) A = .ok ⟨enumL 0 ds, yes⟩ A := rfl
end Ab

namespace Ab
open PySem PySem.Spec PyProof.Rows L2
open scoped Classical
/-! ## xs == [], xs != [] for any list -/
section
variable {X : Cx} {E : XK}
theorem op_eqNil (hu : X.A.units < cLine) : OpR X (compareOp .Eq) (fun x y H Q => ∃ l b xs ys, x = .ref l ∧ y = .ref b ∧ SqL X.K H l xs ∧ SqL X.K H b ys ∧ (xs = [] ∨ ys = []) ∧ Q (.bl (decide (xs.length = ys.length))) H) := by
  intro pins s σ H x y v u Q I rx ry h
  obtain ⟨l, b, xs, ys, rfl, rfl, h1, h2, hn, q⟩ := h
  cases rx
  cases ry
  obtain ⟨its, rv, ⟨⟨cls, dd, data, sl⟩, n, ho, hc, hdn, hd⟩, _⟩ := I.list h1
  obtain ⟨its2, rv2, ⟨⟨cls2, dd2, data2, sl2⟩, n2, ho2, hc2, hdn2, hd2⟩, _⟩ := I.list h2
  simp only at hc hd hc2 hd2
  subst hc hd hc2 hd2
  have l1 := rv.length
  have l2 := rv2.length
  have ta : s.TypeIs (.ref l) "list" := ⟨_, ho, rfl⟩
  have tb : s.TypeIs (.ref b) "list" := ⟨_, ho2, rfl⟩
  by_cases e : xs.length = ys.length
  · have ex : xs.length = 0 := by
      rcases hn with h | h
      · rw [h]; rfl
      · rw [e, h]; rfl
    rw [decide_eq_true e] at q
    have z1 : its = [] := List.eq_nil_of_length_eq_zero (by omega)
    have z2 : its2 = [] := List.eq_nil_of_length_eq_zero (by omega)
    subst z1 z2
    exact wpAny_richCompare_same_room (op := .Eq) ta tb PySem.F.slot_list_eq (call_meets PySem.F.slot_list_eq ta PySem.F.entry_list_eq (PySem.F.args_list_eq_2 _ _) (SeqAt.list_eqAt l b _ _ n n2 dd dd2 sl sl2 rfl fun _ => true)
      ⟨ho, ho2, (fun j h1 => absurd h1 (Nat.not_lt_zero _)), (fun x => nomatch x), ⟨.bl true, H, I, rfl, q⟩⟩) hu
  · rw [decide_eq_false e] at q
    exact wpAny_richCompare_same_room (op := .Eq) ta tb PySem.F.slot_list_eq (call_meets PySem.F.slot_list_eq ta PySem.F.entry_list_eq (PySem.F.args_list_eq_2 _ _) (SeqAt.list_eq_lengthsAt l b _ _ n n2 dd dd2 sl sl2 (by simp; omega))
      ⟨ho, ho2, (fun x => nomatch x), ⟨.bl false, H, I, rfl, q⟩⟩) hu
theorem op_neNil (hu : X.A.units < cLine) : OpR X (compareOp .NotEq) (fun x y H Q => ∃ l b xs ys, x = .ref l ∧ y = .ref b ∧ SqL X.K H l xs ∧ SqL X.K H b ys ∧ (xs = [] ∨ ys = []) ∧ Q (.bl (!decide (xs.length = ys.length))) H) := by
  intro pins s σ H x y v u Q I rx ry h
  obtain ⟨l, b, xs, ys, rfl, rfl, h1, h2, hn, q⟩ := h
  cases rx
  cases ry
  obtain ⟨its, rv, ⟨⟨cls, dd, data, sl⟩, n, ho, hc, hdn, hd⟩, _⟩ := I.list h1
  obtain ⟨its2, rv2, ⟨⟨cls2, dd2, data2, sl2⟩, n2, ho2, hc2, hdn2, hd2⟩, _⟩ := I.list h2
  simp only at hc hd hc2 hd2
  subst hc hd hc2 hd2
  have l1 := rv.length
  have l2 := rv2.length
  have ta : s.TypeIs (.ref l) "list" := ⟨_, ho, rfl⟩
  have tb : s.TypeIs (.ref b) "list" := ⟨_, ho2, rfl⟩
  by_cases e : xs.length = ys.length
  · have ex : xs.length = 0 := by
      rcases hn with h | h
      · rw [h]; rfl
      · rw [e, h]; rfl
    rw [decide_eq_true e] at q
    have z1 : its = [] := List.eq_nil_of_length_eq_zero (by omega)
    have z2 : its2 = [] := List.eq_nil_of_length_eq_zero (by omega)
    subst z1 z2
    exact wpAny_richCompare_same_room (op := .NotEq) ta tb PySem.F.slot_list_ne (call_meets PySem.F.slot_list_ne ta PySem.F.entry_list_ne (PySem.F.args_list_ne_2 _ _) (SeqAt.list_neAt l b _ _ n n2 dd dd2 sl sl2 rfl fun _ => true)
      ⟨ho, ho2, (fun j h1 => absurd h1 (Nat.not_lt_zero _)), (fun x => nomatch x), ⟨.bl false, H, I, rfl, q⟩⟩) hu
  · rw [decide_eq_false e] at q
    exact wpAny_richCompare_same_room (op := .NotEq) ta tb PySem.F.slot_list_ne (call_meets PySem.F.slot_list_ne ta PySem.F.entry_list_ne (PySem.F.args_list_ne_2 _ _) (SeqAt.list_ne_lengthsAt l b _ _ n n2 dd dd2 sl sl2 (by simp; omega))
      ⟨ho, ho2, (fun x => nomatch x), ⟨.bl true, H, I, rfl, q⟩⟩) hu
theorem op_eqNilT (hu : X.A.units < cLine) : OpR X (compareOp .Eq) (fun x y H Q => ∃ l b xs ys, x = .ref l ∧ y = .ref b ∧ SqT X.K H l xs ∧ SqT X.K H b ys ∧ (xs = [] ∨ ys = []) ∧ Q (.bl (decide (xs.length = ys.length))) H) := by
  intro pins s σ H x y v u Q I rx ry h
  obtain ⟨l, b, xs, ys, rfl, rfl, h1, h2, hn, q⟩ := h
  cases rx
  cases ry
  obtain ⟨its, rv, ⟨⟨cls, dd, data, sl⟩, ho, hc, n, hd⟩, _⟩ := I.tuple h1
  obtain ⟨its2, rv2, ⟨⟨cls2, dd2, data2, sl2⟩, ho2, hc2, n2, hd2⟩, _⟩ := I.tuple h2
  simp only at hc hd hc2 hd2
  subst hc hd hc2 hd2
  have l1 := rv.length
  have l2 := rv2.length
  have ta : s.TypeIs (.ref l) "tuple" := ⟨_, ho, rfl⟩
  have tb : s.TypeIs (.ref b) "tuple" := ⟨_, ho2, rfl⟩
  have z : min its.toArray.size its2.toArray.size = 0 := by
    rw [List.size_toArray, List.size_toArray]
    rcases hn with h | h
    · have : xs.length = 0 := by rw [h]; rfl
      omega
    · have : ys.length = 0 := by rw [h]; rfl
      omega
  have r : ((List.range (min its.toArray.size its2.toArray.size)).all (fun _ => true) && its.toArray.size == its2.toArray.size) = decide (xs.length = ys.length) := by
    rw [z]
    simp only [List.range_zero, List.all_nil, Bool.true_and, List.size_toArray, ← l1, ← l2]
    rfl
  rw [← r] at q
  exact wpAny_richCompare_same_room (op := .Eq) ta tb PySem.F.slot_tuple_eq (call_meets PySem.F.slot_tuple_eq ta PySem.F.entry_tuple_eq (PySem.F.args_tuple_eq_2 _ _) (SeqAt.tuple_eqAt l b _ _ n n2 dd dd2 sl sl2 fun _ => true)
    ⟨ho, ho2, (fun j h1 h2 => absurd z (by omega)), (fun x => nomatch x), ⟨.bl _, H, I, rfl, q⟩⟩) hu
def eqNilT (d e : D) (A : AH) : Res D := match d, e with
  | .tup xs, .tup ys => if xs.isEmpty || ys.isEmpty then .ok (.bl (decide (xs.length = ys.length))) A else .bad
  | _, _ => .bad
theorem aop_eqNilT (hu : X.A.units + 64 < cLine) : AOp X E (compareOp .Eq) eqNilT := op_mono (op_eqNilT (by omega)) fun x y H Q h => by
  obtain ⟨ρ, A, d, e, R, r1, r2, h⟩ := h
  unfold eqNilT at h
  split at h
  · split at h
    · rename_i as bs z
      obtain ⟨l, xs, rfl, q1, q2⟩ := r1
      obtain ⟨m, ys, rfl, q3, q4⟩ := r2
      refine ⟨l, m, xs, ys, rfl, rfl, q1, q3, ?_, by rw [q2.length, q4.length]; exact h.now R rfl⟩
      rw [Bool.or_eq_true] at z
      rcases z with z | z
      · have : as = [] := by simpa using z
        subst this
        exact .inl (show xs = [] from q2)
      · have : bs = [] := by simpa using z
        subst this
        exact .inr (show ys = [] from q4)
    · exact h.elim
  · exact h.elim
def nilB (d e : D) (A : AH) : Option Bool := match rdL A d, rdL A e with
  | some xs, some ys => if xs.isEmpty || ys.isEmpty then some (decide (xs.length = ys.length)) else none
  | _, _ => none
def eqNil (d e : D) (A : AH) : Res D := match nilB d e A with
  | some b => .ok (.bl b) A
  | none => .bad
def neNil (d e : D) (A : AH) : Res D := match nilB d e A with
  | some b => .ok (.bl (!b)) A
  | none => .bad
theorem nilB_ok {K : PySem.W.Frag} {ρ : List Addr} {H : Hp} {A : AH} {d e : D} {x y : V} {b : Bool} (R : Rel K ρ H A) (r1 : Rp K ρ H d x) (r2 : Rp K ρ H e y) (h : nilB d e A = some b) :
    ∃ l m xs ys, x = .ref l ∧ y = .ref m ∧ SqL K H l xs ∧ SqL K H m ys ∧ (xs = [] ∨ ys = []) ∧ b = decide (xs.length = ys.length) := by
  unfold nilB at h
  split at h
  · rename_i as bs e1 e2
    split at h
    · rename_i z
      cases h
      obtain ⟨l, xs, rfl, q1, q2⟩ := rdL_ok R r1 e1
      obtain ⟨m, ys, rfl, q3, q4⟩ := rdL_ok R r2 e2
      refine ⟨l, m, xs, ys, rfl, rfl, q1, q3, ?_, by rw [q2.length, q4.length]⟩
      rw [Bool.or_eq_true] at z
      rcases z with z | z
      · have : as = [] := by simpa using z
        subst this
        exact .inl (show xs = [] from q2)
      · have : bs = [] := by simpa using z
        subst this
        exact .inr (show ys = [] from q4)
    · cases h
  · cases h
theorem aop_eqNil (hu : X.A.units + 64 < cLine) : AOp X E (compareOp .Eq) eqNil := op_mono (op_eqNil (by omega)) fun x y H Q h => by
  obtain ⟨ρ, A, d, e, R, r1, r2, h⟩ := h
  unfold eqNil at h
  split at h
  · rename_i b e1
    obtain ⟨l, m, xs, ys, rfl, rfl, q1, q2, q3, rfl⟩ := nilB_ok R r1 r2 e1
    exact ⟨l, m, xs, ys, rfl, rfl, q1, q2, q3, h.now R rfl⟩
  · exact h.elim
theorem aop_neNil (hu : X.A.units + 64 < cLine) : AOp X E (compareOp .NotEq) neNil := op_mono (op_neNil (by omega)) fun x y H Q h => by
  obtain ⟨ρ, A, d, e, R, r1, r2, h⟩ := h
  unfold neNil at h
  split at h
  · rename_i b e1
    obtain ⟨l, m, xs, ys, rfl, rfl, q1, q2, q3, rfl⟩ := nilB_ok R r1 r2 e1
    exact ⟨l, m, xs, ys, rfl, rfl, q1, q2, q3, h.now R rfl⟩
  · exact h.elim
end
theorem ev_eqNilT {A : AH} {xs : List D} : eqNilT (.tup xs) (.tup []) A = .ok (.bl (xs.isEmpty)) A := by
  unfold eqNilT
  cases xs <;> rfl
theorem ev_eqNil {A : AH} {r q : Nat} {xs : List D} (h : rdL A (.ref r) = some xs) (hq : rdL A (.ref q) = some []) : eqNil (.ref r) (.ref q) A = .ok (.bl (xs.isEmpty)) A := by
  unfold eqNil nilB
  rw [h, hq]
  cases xs <;> rfl
theorem ev_neNil {A : AH} {r q : Nat} {xs : List D} (h : rdL A (.ref r) = some xs) (hq : rdL A (.ref q) = some []) : neNil (.ref r) (.ref q) A = .ok (.bl (!xs.isEmpty)) A := by
  unfold neNil nilB
  rw [h, hq]
  cases xs <;> rfl
end Ab

namespace Ab
open PySem PySem.Spec PyProof.Rows L2
open scoped Classical

/-! ## reasoning about the functions: what an outcome satisfies -/
def Sat {α : Type} (r : Res α) (P : α → AH → Prop) : Prop := match r with
  | .ok a A => P a A
  | _ => False
section
variable {α β : Type} {r : Res α} {k : α → AH → Res β} {P Q : α → AH → Prop} {R : β → AH → Prop} {a : α} {A : AH} {c : Prop} {i : Decidable c}
theorem sat_ok : Sat (.ok a A) P = P a A := rfl
theorem sat_bad : Sat (.bad : Res α) P = False := rfl
theorem sat_bind : Sat (r.bind k) R = Sat r fun a A => Sat (k a A) R := by cases r <;> rfl
theorem sat_ite {x y : Res α} : Sat (if c then x else y) P = if c then Sat x P else Sat y P := by split <;> rfl
theorem Sat.imp (h : Sat r P) (q : ∀ a A, P a A → Q a A) : Sat r Q := by
  cases r with
  | ok a A => exact q a A h
  | _ => exact h
theorem Sat.eq (h : Sat r P) : ∃ a A, r = .ok a A ∧ P a A := by
  cases r with
  | ok a A => exact ⟨a, A, rfl, h⟩
  | _ => exact h.elim
theorem sat_of {a : α} {A : AH} (e : r = .ok a A) (h : P a A) : Sat r P := by rw [e]; exact h
theorem bind_ok : (Res.ok a A).bind k = k a A := rfl
theorem bind_bad : (Res.bad : Res α).bind k = .bad := rfl
end
/-- behind a statement -/
def thn_ (g : FS) (P : Fl → AH → Prop) : Fl → AH → Prop
  | .nx s, A => Sat (g s A) P
  | fl, A => P fl A
/-- at a body's end -/
def fin_ (P : D → AH → Prop) : Fl → AH → Prop
  | .rt d, A => P d A
  | .nx _, A => P .non A
  | _, _ => False
section
variable {f g h : FE} {fs : FA} {p q : FS} {c t u : FT} {gg : FG} {gs : FGs} {s : ASt} {A : AH} {P : Fl → AH → Prop} {Q : D → AH → Prop} {i n np : Nat} {d : D} {ds : List D} {m : FM} {go : D → D → AH → Res D} {gu : D → AH → Res D}
theorem ev_seq : Sat (fSeq p q s A) P = Sat (p s A) (thn_ q P) := by
  unfold fSeq
  cases p s A with
  | ok fl A1 => cases fl <;> rfl
  | _ => rfl
theorem thn_nx : thn_ q P (.nx s) A = Sat (q s A) P := rfl
theorem thn_rt : thn_ q P (.rt d) A = P (.rt d) A := rfl
theorem thn_bk : thn_ q P (.bk s) A = P (.bk s) A := rfl
theorem thn_ct : thn_ q P (.ct s) A = P (.ct s) A := rfl
theorem fin_rt : fin_ Q (.rt d) A = Q d A := rfl
theorem fin_nx : fin_ Q (.nx s) A = Q .non A := rfl
theorem ev_finish {r : Res Fl} : Sat (finish r) Q = Sat r (fin_ Q) := by
  unfold finish
  cases r with
  | ok fl A1 => cases fl <;> rfl
  | _ => rfl
theorem ev_body (e : ds.length = np) : Sat (body np n p ds A) Q = Sat (p (args n ds) A) (fin_ Q) := by
  unfold body
  rw [if_pos e, ev_finish]
theorem sat_body (e : ds.length = np) (h : Sat (p (args n ds) A) (fin_ Q)) : Sat (body np n p ds A) Q := by rw [ev_body e]; exact h
theorem sat_seq (h : Sat (p s A) (thn_ q P)) : Sat (fSeq p q s A) P := by rw [ev_seq]; exact h
theorem sat_ifS {b : Bool} (hc : c s A = .ok b A) (hp : b = true → Sat (p s A) P) (hq : b = false → Sat (q s A) P) : Sat (fIfS c p q s A) P := by
  unfold fIfS
  rw [hc, bind_ok]
  cases b with
  | true => exact hp rfl
  | false => exact hq rfl
theorem ev_v (e : s[i]? = some (some d)) : fV i s A = .ok d A := by unfold fV; rw [e]
theorem ev_c : fC d s A = .ok d A := rfl
theorem ev_op : fOp go f g s A = (f s A).bind fun x A1 => (g s A1).bind fun y A2 => go x y A2 := rfl
theorem ev_un : fUn gu f s A = (f s A).bind fun x A1 => gu x A1 := rfl
theorem ev_chain {go' : D → D → AH → Res D} : fChain go go' f g h s A = (f s A).bind fun x A1 => (g s A1).bind fun y A2 => (go x y A2).bind fun z A3 => match z with
  | .bl true => (h s A3).bind fun w A4 => go' y w A4
  | .bl false => .ok (.bl false) A3
  | _ => .bad := rfl
theorem ev_nil : fNil s A = .ok [] A := rfl
theorem ev_cons : fCons f fs s A = (f s A).bind fun x A1 => (fs s A1).bind fun xs A2 => .ok (x :: xs) A2 := rfl
theorem ev_tup : fTup fs s A = (fs s A).bind tupD := rfl
theorem ev_lst : fLst fs s A = (fs s A).bind lstD := rfl
theorem ev_call : fCall m fs s A = (fs s A).bind fun ds A1 => m ds A1 := rfl
theorem ev_own : fOwn n m fs s A = (fs s A).bind fun ds A1 => if ds.length = n then m ds A1 else .bad := rfl
theorem ev_sl {lo hi : FO} : fSl f lo hi s A = (f s A).bind fun d A1 => (lo s A1).bind fun l A2 => (hi s A2).bind fun h A3 => slD d l h A3 := rfl
theorem ev_no : fNo s A = .ok none A := rfl
theorem ev_part : fPart f s A = (f s A).bind fun d A1 => match d with
  | .int i => .ok (some i) A1
  | _ => .bad := rfl
theorem ev_and : fAnd f g s A = (f s A).bind fun d A1 => (tru d A1).bind fun b A2 => if b = true then g s A2 else .ok d A2 := rfl
theorem ev_or : fOr f g s A = (f s A).bind fun d A1 => (tru d A1).bind fun b A2 => if b = true then .ok d A2 else g s A2 := rfl
theorem ev_not : fNot f s A = (f s A).bind fun d A1 => (tru d A1).bind fun b A2 => .ok (.bl (!b)) A2 := rfl
theorem ev_if : fIf c f g s A = (c s A).bind fun b A1 => if b = true then f s A1 else g s A1 := rfl
theorem ev_t : fT f s A = (f s A).bind tru := rfl
theorem ev_tb : fTB f s A = (f s A).bind fun d A1 => match d with
  | .bl b => .ok b A1
  | _ => .bad := rfl
theorem ev_tnot : fTNot t s A = (t s A).bind fun b A1 => .ok (!b) A1 := rfl
theorem ev_tand : fTAnd t u s A = (t s A).bind fun b A1 => if b = true then u s A1 else .ok false A1 := rfl
theorem ev_tor : fTOr t u s A = (t s A).bind fun b A1 => if b = true then .ok true A1 else u s A1 := rfl
theorem ev_mt {T : String} {gm : D → FM} : fMt T gm f fs s A = (f s A).bind fun d A1 => if isTy T d A1 = true then (fs s A1).bind fun ds A2 => gm d ds A2 else .bad := rfl
theorem ev_mt0 {T : String} {gm : D → FM} : fMt0 T gm f s A = (f s A).bind fun d A1 => if isTy T d A1 = true then gm d [] A1 else .bad := rfl
theorem ev_rgd {k : Int → Int → AH → Res D} : rgD f g k s A = (f s A).bind fun d A1 => (g s A1).bind fun e A2 => match d, e with
  | .int i, .int j => k i j A2
  | _, _ => .bad := rfl
theorem ev_set : fSet f i s A = (f s A).bind fun d A1 => .ok (.nx (s.set i (some d))) A1 := rfl
theorem ev_asg : fAsg f gg s A = (f s A).bind fun d A1 => (gg d s A1).bind fun s' A2 => .ok (.nx s') A2 := rfl
theorem ev_ret : fRet f s A = (f s A).bind fun d A1 => .ok (.rt d) A1 := rfl
theorem ev_retN : fRetN s A = .ok (.rt .non) A := rfl
theorem ev_ex : fEx f s A = (f s A).bind fun _ A1 => .ok (.nx s) A1 := rfl
theorem ev_pass : fPass s A = .ok (.nx s) A := rfl
theorem ev_brk : fBrk s A = .ok (.bk s) A := rfl
theorem ev_cont : fCont s A = .ok (.ct s) A := rfl
theorem ev_ifS : fIfS c p q s A = (c s A).bind fun b A1 => if b = true then p s A1 else q s A1 := rfl
theorem ev_aug {x : D} (e : s[i]? = some (some x)) : fAug i f go s A = (f s A).bind fun y A1 => (go x y A1).bind fun z A2 => .ok (.nx (s.set i (some z))) A2 := by unfold fAug; rw [e]
theorem ev_gn : gN i d s A = .ok (s.set i (some d)) A := rfl
theorem ev_gtp : gTp n gs (.tup ds) s A = if ds.length = n then gs ds s A else .bad := rfl
theorem ev_gnl : gNl [] s A = .ok s A := rfl
theorem ev_gcs : gCs gg gs (d :: ds) s A = (gg d s A).bind fun s1 A1 => gs ds s1 A1 := rfl
theorem ev_gsb : gSb f g d s A = (f s A).bind fun o A1 => (g s A1).bind fun i A2 => (stD o i d A2).bind fun _ A3 => .ok s A3 := rfl
theorem ev_for {src : FI} : fFor src gg p s A = (src s A).bind fun S A1 => loopD S.ok gg p S.items s A1 := rfl
theorem ev_rg1 : fRg1 f s A = (f s A).bind fun d A1 => match d with
  | .int j => if InRg j then .ok ⟨rngL 0 j.toNat, yes⟩ A1 else .bad
  | _ => .bad := rfl
theorem ev_rg2 : fRg2 f g s A = (f s A).bind fun d A1 => (g s A1).bind fun e A2 => match d, e with
  | .int i, .int j => if InRg i ∧ InRg j then .ok ⟨rngL i (j - i).toNat, yes⟩ A2 else .bad
  | _, _ => .bad := rfl
theorem inRg_nat {n : Nat} (h : n ≤ 1000000000) : InRg (n : Int) := ⟨by omega, by omega⟩
theorem inRg_of {n : Int} (h : -1000000000000 ≤ n) (h' : n ≤ 1000000000000) : InRg n := ⟨by omega, by omega⟩
theorem ev_its : fItS f s A = (f s A).bind iSeq := rfl
theorem ev_enum : fEnum f s A = (f s A).bind fun d A1 => match rdL A1 d with
  | some ds => .ok ⟨enumL 0 ds, fun A' => rdL A' d = some ds⟩ A1
  | none => .bad := rfl
theorem ev_lc {src : FI} {vs : List Nat} : fLc src gg t f vs s A = (src s A).bind fun S A1 => loopC S.ok gg t f A1.length (wipeA s vs) S.items (A1 ++ [.lst []]) := rfl
theorem ev_yes : fYes s A = .ok true A := rfl
/-! ### operators on known data -/
theorem ev_add_ii {i j : Int} : addD (.int i) (.int j) A = .ok (.int (i + j)) A := rfl
theorem ev_add_ss {x y : Str} (h : x.length + y.length ≤ sizeLine) : addD (.str x) (.str y) A = .ok (.str (x ++ y)) A := if_pos h
theorem ev_add_tt {x y : List D} (h : x.length + y.length ≤ sizeLine) : addD (.tup x) (.tup y) A = .ok (.tup (x ++ y)) A := if_pos h
theorem ev_add_rr {i j : Nat} {xs ys : List D} (h : muL A (.ref i) = some xs) (h' : muL A (.ref j) = some ys) (z : xs.length + ys.length ≤ sizeLine) : addD (.ref i) (.ref j) A = .ok (.ref A.length) (A ++ [.lst (xs ++ ys)]) := by
  show (match muL A (.ref i), muL A (.ref j) with
    | some xs, some ys => if xs.length + ys.length ≤ sizeLine then alloc (.lst (xs ++ ys)) A else .bad
    | _, _ => .bad) = _
  rw [h, h']
  exact if_pos z
theorem ev_sub {i j : Int} : subD (.int i) (.int j) A = .ok (.int (i - j)) A := rfl
theorem ev_mul {i j : Int} (h : mulOk i j) : mulD (.int i) (.int j) A = .ok (.int (i * j)) A := if_pos h
theorem ev_mod {i j : Int} (h : 0 < j) : modD (.int i) (.int j) A = .ok (.int (i % j)) A := if_pos h
theorem ev_fdiv {i j : Int} (h : CDivW i j) : fdivD (.int i) (.int j) A = .ok (.int (i / j)) A := if_pos h
theorem ev_pow {i j : Int} (h : CPow i j) : powD (.int i) (.int j) A = .ok (.int (i ^ j.toNat)) A := if_pos h
theorem ev_neg {i : Int} : negD (.int i) A = .ok (.int (-i)) A := rfl
theorem ev_lt {i j : Int} : ltD (.int i) (.int j) A = .ok (.bl (decide (i < j))) A := rfl
theorem ev_le {i j : Int} : leD (.int i) (.int j) A = .ok (.bl (decide (i ≤ j))) A := rfl
theorem ev_gt {i j : Int} : gtD (.int i) (.int j) A = .ok (.bl (decide (j < i))) A := rfl
theorem ev_ge {i j : Int} : geD (.int i) (.int j) A = .ok (.bl (decide (j ≤ i))) A := rfl
theorem ev_eq_ii {i j : Int} : eqD (.int i) (.int j) A = .ok (.bl (decide (i = j))) A := rfl
theorem ev_eq_ss {i j : Str} : eqD (.str i) (.str j) A = .ok (.bl (decide (i = j))) A := rfl
theorem ev_eq_bb {i j : Bool} : eqD (.bl i) (.bl j) A = .ok (.bl (decide (i = j))) A := rfl
theorem ev_ne_ii {i j : Int} : neD (.int i) (.int j) A = .ok (.bl (!decide (i = j))) A := rfl
theorem ev_ne_ss {i j : Str} : neD (.str i) (.str j) A = .ok (.bl (!decide (i = j))) A := rfl
theorem ev_ne_bb {i j : Bool} : neD (.bl i) (.bl j) A = .ok (.bl (!decide (i = j))) A := rfl
theorem ev_is_n : isD d .non A = .ok (.bl (isNon d)) A := by cases d <;> rfl
theorem ev_isnt_n : isntD d .non A = .ok (.bl (!isNon d)) A := by cases d <;> rfl
theorem ev_int_i {i : Int} : intD [.int i] A = .ok (.int i) A := rfl
theorem ev_int_b {i : Bool} : intD [.bl i] A = .ok (.int (if i then 1 else 0)) A := rfl
theorem ev_min_ii {i j : Int} : minD [.int i, .int j] A = .ok (.int (if j < i then j else i)) A := rfl
theorem ev_max_ii {i j : Int} : maxD [.int i, .int j] A = .ok (.int (if j > i then j else i)) A := rfl
theorem ev_abs {i : Int} : absD [.int i] A = .ok (.int (if i < 0 then -i else i)) A := rfl
theorem ev_tup_of : Ab.tupOf [D.tup ds] A = .ok (.tup ds) A := rfl
theorem ev_tup_ofL (h : rdL A (.ref n) = some ds) : Ab.tupOf [D.ref n] A = .ok (.tup ds) A := by
  show (match rdL A (.ref n) with
    | some xs => Res.ok (D.tup xs) A
    | none => .bad) = _
  rw [h]
theorem ev_lst_ofT : lstOf [.tup ds] A = .ok (.ref A.length) (A ++ [.lst ds]) := rfl
theorem ev_lst_ofL (h : rdL A (.ref n) = some ds) : lstOf [.ref n] A = .ok (.ref A.length) (A ++ [.lst ds]) := by
  show (match rdS A (.ref n) with
    | some xs => alloc (.lst xs) A
    | none => _) = _
  rw [show rdS A (.ref n) = some ds from h]
  rfl
theorem ev_len_t : lenD [.tup ds] A = .ok (.int ds.length) A := rfl
theorem ev_len_s {x : Str} (h : x.length ≤ sizeLine) : lenD [.str x] A = .ok (.int x.length) A := if_pos h
theorem ev_len_r (h : rdL A (.ref n) = some ds) : lenD [.ref n] A = .ok (.int ds.length) A := by
  show (match rdS A (.ref n) with
    | some xs => Res.ok (D.int xs.length) A
    | none => _) = _
  rw [show rdS A (.ref n) = some ds from h]
theorem atI_pos {α : Type} {xs : List α} {i : Int} (h : 0 ≤ i) : L2.atI xs i = xs[i.toNat]? := by
  unfold L2.atI ixN
  rw [if_pos h]
  by_cases hl : i < xs.length
  · rw [if_pos hl]; rfl
  · rw [if_neg hl]
    show none = _
    rw [List.getElem?_eq_none (by omega)]
theorem ev_ix_t {k : Int} {x : D} (h : L2.atI ds k = some x) : ixD (.tup ds) (D.int k) A = .ok x A := by
  show ixSeq ds k A = _
  unfold ixSeq
  rw [h]
theorem ev_ix_r {k : Int} {x : D} (h : rdL A (.ref n) = some ds) (h2 : L2.atI ds k = some x) : ixD (.ref n) (.int k) A = .ok x A := by
  show (match rdS A (.ref n) with
    | some xs => ixSeq xs k A
    | none => _) = _
  rw [show rdS A (.ref n) = some ds from h]
  show ixSeq ds k A = _
  unfold ixSeq
  rw [h2]
theorem ev_ix_s {z : Str} {k : Int} {c : Nat} (h : z.length ≤ sizeLine) (h2 : L2.atI z.cps.toList k = some c) : ixD (.str z) (.int k) A = .ok (.str ⟨#[c]⟩) A := by
  show (if z.length ≤ sizeLine then (match L2.atI z.cps.toList k with | some c => Res.ok (D.str ⟨#[c]⟩) A | none => .bad) else .bad) = _
  rw [if_pos h, h2]
theorem ev_st_l {xs : List D} {k : Int} {j : Nat} (h : A[n]? = some (.lst xs)) (h2 : ixN xs.length k = some j) : stD (.ref n) (.int k) d A = .ok () (A.set n (.lst (xs.set j d))) := by
  show (match A[n]? with
    | some (.lst xs) => _
    | some (.dic kvs) => _
    | _ => _) = _
  rw [h]
  show (match ixN xs.length k with
    | some j => Res.ok () (A.set n (.lst (xs.set j d)))
    | none => .bad) = _
  rw [h2]
theorem rdL_l {xs : List D} (h : A[n]? = some (.lst xs)) : rdL A (.ref n) = some xs := by
  show (match A[n]? with
    | some (.lst xs) => some xs
    | some (.frz xs) => some xs
    | _ => none) = _
  rw [h]
theorem rdL_f {xs : List D} (h : A[n]? = some (.frz xs)) : rdL A (.ref n) = some xs := by
  show (match A[n]? with
    | some (.lst xs) => some xs
    | some (.frz xs) => some xs
    | _ => none) = _
  rw [h]
theorem muL_l {xs : List D} (h : A[n]? = some (.lst xs)) : muL A (.ref n) = some xs := by
  show (match A[n]? with
    | some (.lst xs) => some xs
    | _ => none) = _
  rw [h]
theorem mulOk_l {i j : Int} (h1 : -(2 ^ 64) < i) (h2 : i < 2 ^ 64) : mulOk i j := .inl (.inl ⟨h1, h2⟩)
theorem mulOk_r {i j : Int} (h1 : -(2 ^ 64) < j) (h2 : j < 2 ^ 64) : mulOk i j := .inl (.inr ⟨h1, h2⟩)
theorem divOk {i j : Int} (h1 : 0 < j) (h2 : j < 2 ^ 200) : CDivW i j := wide_div (b := 200) h1 (by omega) (by decide) (by decide)
theorem powOk {i j : Int} (h1 : 0 ≤ j) (h2 : j ≤ 1000000) (h3 : i.natAbs < 2 ^ 64) : CPow i j := ⟨h1, h2, h3⟩
theorem ev_alloc {o : AO} : Ab.alloc o A = .ok (.ref A.length) (A ++ [o]) := rfl
theorem ev_tupD (h : ds.length ≤ 10000) : tupD ds A = .ok (.tup ds) A := if_pos (Nat.le_trans h (by decide))
theorem ev_lstD (h : ds.length ≤ 10000) : lstD ds A = .ok (.ref A.length) (A ++ [.lst ds]) := if_pos (Nat.le_trans h (by decide))
theorem sl_le {n : Nat} (h : n ≤ 16777216) : n ≤ sizeLine := h
theorem ev_tru_b {b : Bool} : tru (.bl b) A = .ok b A := rfl
end

/-! ### isinstance -/
theorem isi_tuple_non  {A : AH} : isiD "tuple" (.non) A = .ok (.bl false) A := by
  show (match kitB "NoneType" "tuple" with | some b => Res.ok (D.bl b) A | none => .bad) = _
  rw [show kitB "NoneType" "tuple" = some false by decide +kernel]
theorem isi_tuple_bl {b : Bool} {A : AH} : isiD "tuple" (.bl b) A = .ok (.bl false) A := by
  show (match kitB "bool" "tuple" with | some b => Res.ok (D.bl b) A | none => .bad) = _
  rw [show kitB "bool" "tuple" = some false by decide +kernel]
theorem isi_tuple_int {i : Int} {A : AH} : isiD "tuple" (.int i) A = .ok (.bl false) A := by
  show (match kitB "int" "tuple" with | some b => Res.ok (D.bl b) A | none => .bad) = _
  rw [show kitB "int" "tuple" = some false by decide +kernel]
theorem isi_tuple_str {x : Str} {A : AH} : isiD "tuple" (.str x) A = .ok (.bl false) A := by
  show (match kitB "str" "tuple" with | some b => Res.ok (D.bl b) A | none => .bad) = _
  rw [show kitB "str" "tuple" = some false by decide +kernel]
theorem isi_tuple_tup {ds : List D} {A : AH} : isiD "tuple" (.tup ds) A = .ok (.bl true) A := by
  show (match kitB "tuple" "tuple" with | some b => Res.ok (D.bl b) A | none => .bad) = _
  rw [show kitB "tuple" "tuple" = some true by decide +kernel]
theorem isi_tuple_l {A : AH} {n : Nat} {xs : List D} (h : A[n]? = some (.lst xs)) : isiD "tuple" (.ref n) A = .ok (.bl false) A := by
  unfold isiD
  rw [show tyN A (.ref n) = some "list" by simp only [tyN, h]]
  show (match kitB "list" "tuple" with | some b => Res.ok (D.bl b) A | none => .bad) = _
  rw [show kitB "list" "tuple" = some false by decide +kernel]
theorem isi_tuple_f {A : AH} {n : Nat} {xs : List D} (h : A[n]? = some (.frz xs)) : isiD "tuple" (.ref n) A = .ok (.bl false) A := by
  unfold isiD
  rw [show tyN A (.ref n) = some "list" by simp only [tyN, h]]
  show (match kitB "list" "tuple" with | some b => Res.ok (D.bl b) A | none => .bad) = _
  rw [show kitB "list" "tuple" = some false by decide +kernel]
theorem isi_list_non  {A : AH} : isiD "list" (.non) A = .ok (.bl false) A := by
  show (match kitB "NoneType" "list" with | some b => Res.ok (D.bl b) A | none => .bad) = _
  rw [show kitB "NoneType" "list" = some false by decide +kernel]
theorem isi_list_bl {b : Bool} {A : AH} : isiD "list" (.bl b) A = .ok (.bl false) A := by
  show (match kitB "bool" "list" with | some b => Res.ok (D.bl b) A | none => .bad) = _
  rw [show kitB "bool" "list" = some false by decide +kernel]
theorem isi_list_int {i : Int} {A : AH} : isiD "list" (.int i) A = .ok (.bl false) A := by
  show (match kitB "int" "list" with | some b => Res.ok (D.bl b) A | none => .bad) = _
  rw [show kitB "int" "list" = some false by decide +kernel]
theorem isi_list_str {x : Str} {A : AH} : isiD "list" (.str x) A = .ok (.bl false) A := by
  show (match kitB "str" "list" with | some b => Res.ok (D.bl b) A | none => .bad) = _
  rw [show kitB "str" "list" = some false by decide +kernel]
theorem isi_list_tup {ds : List D} {A : AH} : isiD "list" (.tup ds) A = .ok (.bl false) A := by
  show (match kitB "tuple" "list" with | some b => Res.ok (D.bl b) A | none => .bad) = _
  rw [show kitB "tuple" "list" = some false by decide +kernel]
theorem isi_list_l {A : AH} {n : Nat} {xs : List D} (h : A[n]? = some (.lst xs)) : isiD "list" (.ref n) A = .ok (.bl true) A := by
  unfold isiD
  rw [show tyN A (.ref n) = some "list" by simp only [tyN, h]]
  show (match kitB "list" "list" with | some b => Res.ok (D.bl b) A | none => .bad) = _
  rw [show kitB "list" "list" = some true by decide +kernel]
theorem isi_list_f {A : AH} {n : Nat} {xs : List D} (h : A[n]? = some (.frz xs)) : isiD "list" (.ref n) A = .ok (.bl true) A := by
  unfold isiD
  rw [show tyN A (.ref n) = some "list" by simp only [tyN, h]]
  show (match kitB "list" "list" with | some b => Res.ok (D.bl b) A | none => .bad) = _
  rw [show kitB "list" "list" = some true by decide +kernel]
theorem isi_bool_non  {A : AH} : isiD "bool" (.non) A = .ok (.bl false) A := by
  show (match kitB "NoneType" "bool" with | some b => Res.ok (D.bl b) A | none => .bad) = _
  rw [show kitB "NoneType" "bool" = some false by decide +kernel]
theorem isi_bool_bl {b : Bool} {A : AH} : isiD "bool" (.bl b) A = .ok (.bl true) A := by
  show (match kitB "bool" "bool" with | some b => Res.ok (D.bl b) A | none => .bad) = _
  rw [show kitB "bool" "bool" = some true by decide +kernel]
theorem isi_bool_int {i : Int} {A : AH} : isiD "bool" (.int i) A = .ok (.bl false) A := by
  show (match kitB "int" "bool" with | some b => Res.ok (D.bl b) A | none => .bad) = _
  rw [show kitB "int" "bool" = some false by decide +kernel]
theorem isi_bool_str {x : Str} {A : AH} : isiD "bool" (.str x) A = .ok (.bl false) A := by
  show (match kitB "str" "bool" with | some b => Res.ok (D.bl b) A | none => .bad) = _
  rw [show kitB "str" "bool" = some false by decide +kernel]
theorem isi_bool_tup {ds : List D} {A : AH} : isiD "bool" (.tup ds) A = .ok (.bl false) A := by
  show (match kitB "tuple" "bool" with | some b => Res.ok (D.bl b) A | none => .bad) = _
  rw [show kitB "tuple" "bool" = some false by decide +kernel]
theorem isi_bool_l {A : AH} {n : Nat} {xs : List D} (h : A[n]? = some (.lst xs)) : isiD "bool" (.ref n) A = .ok (.bl false) A := by
  unfold isiD
  rw [show tyN A (.ref n) = some "list" by simp only [tyN, h]]
  show (match kitB "list" "bool" with | some b => Res.ok (D.bl b) A | none => .bad) = _
  rw [show kitB "list" "bool" = some false by decide +kernel]
theorem isi_bool_f {A : AH} {n : Nat} {xs : List D} (h : A[n]? = some (.frz xs)) : isiD "bool" (.ref n) A = .ok (.bl false) A := by
  unfold isiD
  rw [show tyN A (.ref n) = some "list" by simp only [tyN, h]]
  show (match kitB "list" "bool" with | some b => Res.ok (D.bl b) A | none => .bad) = _
  rw [show kitB "list" "bool" = some false by decide +kernel]
theorem isi_int_non  {A : AH} : isiD "int" (.non) A = .ok (.bl false) A := by
  show (match kitB "NoneType" "int" with | some b => Res.ok (D.bl b) A | none => .bad) = _
  rw [show kitB "NoneType" "int" = some false by decide +kernel]
theorem isi_int_bl {b : Bool} {A : AH} : isiD "int" (.bl b) A = .ok (.bl true) A := by
  show (match kitB "bool" "int" with | some b => Res.ok (D.bl b) A | none => .bad) = _
  rw [show kitB "bool" "int" = some true by decide +kernel]
theorem isi_int_int {i : Int} {A : AH} : isiD "int" (.int i) A = .ok (.bl true) A := by
  show (match kitB "int" "int" with | some b => Res.ok (D.bl b) A | none => .bad) = _
  rw [show kitB "int" "int" = some true by decide +kernel]
theorem isi_int_str {x : Str} {A : AH} : isiD "int" (.str x) A = .ok (.bl false) A := by
  show (match kitB "str" "int" with | some b => Res.ok (D.bl b) A | none => .bad) = _
  rw [show kitB "str" "int" = some false by decide +kernel]
theorem isi_int_tup {ds : List D} {A : AH} : isiD "int" (.tup ds) A = .ok (.bl false) A := by
  show (match kitB "tuple" "int" with | some b => Res.ok (D.bl b) A | none => .bad) = _
  rw [show kitB "tuple" "int" = some false by decide +kernel]
theorem isi_int_l {A : AH} {n : Nat} {xs : List D} (h : A[n]? = some (.lst xs)) : isiD "int" (.ref n) A = .ok (.bl false) A := by
  unfold isiD
  rw [show tyN A (.ref n) = some "list" by simp only [tyN, h]]
  show (match kitB "list" "int" with | some b => Res.ok (D.bl b) A | none => .bad) = _
  rw [show kitB "list" "int" = some false by decide +kernel]
theorem isi_int_f {A : AH} {n : Nat} {xs : List D} (h : A[n]? = some (.frz xs)) : isiD "int" (.ref n) A = .ok (.bl false) A := by
  unfold isiD
  rw [show tyN A (.ref n) = some "list" by simp only [tyN, h]]
  show (match kitB "list" "int" with | some b => Res.ok (D.bl b) A | none => .bad) = _
  rw [show kitB "list" "int" = some false by decide +kernel]
theorem isi_str_non  {A : AH} : isiD "str" (.non) A = .ok (.bl false) A := by
  show (match kitB "NoneType" "str" with | some b => Res.ok (D.bl b) A | none => .bad) = _
  rw [show kitB "NoneType" "str" = some false by decide +kernel]
theorem isi_str_bl {b : Bool} {A : AH} : isiD "str" (.bl b) A = .ok (.bl false) A := by
  show (match kitB "bool" "str" with | some b => Res.ok (D.bl b) A | none => .bad) = _
  rw [show kitB "bool" "str" = some false by decide +kernel]
theorem isi_str_int {i : Int} {A : AH} : isiD "str" (.int i) A = .ok (.bl false) A := by
  show (match kitB "int" "str" with | some b => Res.ok (D.bl b) A | none => .bad) = _
  rw [show kitB "int" "str" = some false by decide +kernel]
theorem isi_str_str {x : Str} {A : AH} : isiD "str" (.str x) A = .ok (.bl true) A := by
  show (match kitB "str" "str" with | some b => Res.ok (D.bl b) A | none => .bad) = _
  rw [show kitB "str" "str" = some true by decide +kernel]
theorem isi_str_tup {ds : List D} {A : AH} : isiD "str" (.tup ds) A = .ok (.bl false) A := by
  show (match kitB "tuple" "str" with | some b => Res.ok (D.bl b) A | none => .bad) = _
  rw [show kitB "tuple" "str" = some false by decide +kernel]
theorem isi_str_l {A : AH} {n : Nat} {xs : List D} (h : A[n]? = some (.lst xs)) : isiD "str" (.ref n) A = .ok (.bl false) A := by
  unfold isiD
  rw [show tyN A (.ref n) = some "list" by simp only [tyN, h]]
  show (match kitB "list" "str" with | some b => Res.ok (D.bl b) A | none => .bad) = _
  rw [show kitB "list" "str" = some false by decide +kernel]
theorem isi_str_f {A : AH} {n : Nat} {xs : List D} (h : A[n]? = some (.frz xs)) : isiD "str" (.ref n) A = .ok (.bl false) A := by
  unfold isiD
  rw [show tyN A (.ref n) = some "list" by simp only [tyN, h]]
  show (match kitB "list" "str" with | some b => Res.ok (D.bl b) A | none => .bad) = _
  rw [show kitB "list" "str" = some false by decide +kernel]
theorem isi_dict_non  {A : AH} : isiD "dict" (.non) A = .ok (.bl false) A := by
  show (match kitB "NoneType" "dict" with | some b => Res.ok (D.bl b) A | none => .bad) = _
  rw [show kitB "NoneType" "dict" = some false by decide +kernel]
theorem isi_dict_bl {b : Bool} {A : AH} : isiD "dict" (.bl b) A = .ok (.bl false) A := by
  show (match kitB "bool" "dict" with | some b => Res.ok (D.bl b) A | none => .bad) = _
  rw [show kitB "bool" "dict" = some false by decide +kernel]
theorem isi_dict_int {i : Int} {A : AH} : isiD "dict" (.int i) A = .ok (.bl false) A := by
  show (match kitB "int" "dict" with | some b => Res.ok (D.bl b) A | none => .bad) = _
  rw [show kitB "int" "dict" = some false by decide +kernel]
theorem isi_dict_str {x : Str} {A : AH} : isiD "dict" (.str x) A = .ok (.bl false) A := by
  show (match kitB "str" "dict" with | some b => Res.ok (D.bl b) A | none => .bad) = _
  rw [show kitB "str" "dict" = some false by decide +kernel]
theorem isi_dict_tup {ds : List D} {A : AH} : isiD "dict" (.tup ds) A = .ok (.bl false) A := by
  show (match kitB "tuple" "dict" with | some b => Res.ok (D.bl b) A | none => .bad) = _
  rw [show kitB "tuple" "dict" = some false by decide +kernel]
theorem isi_dict_l {A : AH} {n : Nat} {xs : List D} (h : A[n]? = some (.lst xs)) : isiD "dict" (.ref n) A = .ok (.bl false) A := by
  unfold isiD
  rw [show tyN A (.ref n) = some "list" by simp only [tyN, h]]
  show (match kitB "list" "dict" with | some b => Res.ok (D.bl b) A | none => .bad) = _
  rw [show kitB "list" "dict" = some false by decide +kernel]
theorem isi_dict_f {A : AH} {n : Nat} {xs : List D} (h : A[n]? = some (.frz xs)) : isiD "dict" (.ref n) A = .ok (.bl false) A := by
  unfold isiD
  rw [show tyN A (.ref n) = some "list" by simp only [tyN, h]]
  show (match kitB "list" "dict" with | some b => Res.ok (D.bl b) A | none => .bad) = _
  rw [show kitB "list" "dict" = some false by decide +kernel]
/-! ## loops -/
theorem loop_nil {ok : AH → Prop} {g : FG} {p : FS} {s : ASt} {A : AH} (h : ok A) : loopD ok g p [] s A = .ok (.nx s) A := by
  unfold loopD; rw [if_pos h]
/-- what a turn's end leads to -/
def turn_ (k : ASt → AH → Prop) (P : Fl → AH → Prop) : Fl → AH → Prop
  | .nx s, A => k s A
  | .ct s, A => k s A
  | .bk s, A => P (.nx s) A
  | .rt d, A => P (.rt d) A
theorem loop_cons {ok : AH → Prop} {g : FG} {p : FS} {d : D} {ds : List D} {s : ASt} {A : AH} {P : Fl → AH → Prop} (h : ok A) :
    Sat (loopD ok g p (d :: ds) s A) P = Sat (g d s A) fun s1 A1 => Sat (p s1 A1) (turn_ (fun s2 A2 => Sat (loopD ok g p ds s2 A2) P) P) := by
  rw [loopD, if_pos h, sat_bind]
  congr 1
  funext s1 A1
  cases p s1 A1 with
  | ok fl A2 => cases fl <;> rfl
  | _ => rfl
/-- a for by an invariant over the items that are left -/
theorem loop_inv {ok : AH → Prop} {g : FG} {p : FS} {P : Fl → AH → Prop} (I : List D → ASt → AH → Prop)
    (turn : ∀ d ds s A, I (d :: ds) s A → ok A ∧ Sat (g d s A) fun s1 A1 => Sat (p s1 A1) (turn_ (I ds) P)) (last : ∀ s A, I [] s A → ok A ∧ P (.nx s) A) :
    ∀ (ds : List D) (s : ASt) (A : AH), I ds s A → Sat (loopD ok g p ds s A) P
  | [], s, A, h => by
    rw [loop_nil (last s A h).1]
    exact (last s A h).2
  | d :: ds, s, A, h => by
    obtain ⟨h1, h2⟩ := turn d ds s A h
    rw [loop_cons h1]
    refine h2.imp fun s1 A1 h3 => h3.imp fun fl A2 h4 => ?_
    cases fl with
    | nx s2 => exact loop_inv I turn last ds s2 A2 h4
    | ct s2 => exact loop_inv I turn last ds s2 A2 h4
    | bk s2 => exact h4
    | rt d => exact h4
/-- a for over a range by an invariant over the turns -/
theorem range_inv {g : FG} {p : FS} {P : Fl → AH → Prop} {lo : Int} {n : Nat} (I : Nat → ASt → AH → Prop)
    (turn : ∀ k s A, k < n → I k s A → Sat (g (.int (lo + (k : Nat))) s A) fun s1 A1 => Sat (p s1 A1) (turn_ (I (k + 1)) P)) (last : ∀ s A, I n s A → P (.nx s) A)
    {s : ASt} {A : AH} (h : I 0 s A) : Sat (loopD yes g p (rngL lo n) s A) P := by
  have e : rngL lo n = (List.range' 0 n).map fun k => .int (lo + (k : Nat)) := by rw [← List.range_eq_range']; rfl
  have key : ∀ (m k : Nat) (s : ASt) (A : AH), k + m = n → I k s A → Sat (loopD yes g p ((List.range' k m).map fun k => .int (lo + (k : Nat))) s A) P := by
    intro m
    induction m with
    | zero => intro k s A hk h; rw [show k = n by omega] at h; rw [List.range'_zero, List.map_nil, loop_nil trivial]; exact last s A h
    | succ m ih =>
      intro k s A hk h
      rw [List.range'_succ, List.map_cons, loop_cons trivial]
      refine (turn k s A (by omega) h).imp fun s1 A1 h3 => h3.imp fun fl A2 h4 => ?_
      cases fl with
      | nx s2 => exact ih (k + 1) s2 A2 (by omega) h4
      | ct s2 => exact ih (k + 1) s2 A2 (by omega) h4
      | bk s2 => exact h4
      | rt d => exact h4
  rw [e]
  exact key n 0 s A (by omega) h
/-! ## the evaluation lemmas in one -/
theorem EV : type_of% (And.intro (And.intro (And.intro (And.intro (And.intro (And.intro (And.intro (@sat_ok) (@sat_bad)) (And.intro (@sat_bind) (@sat_ite))) (And.intro (And.intro (@bind_ok) (@bind_bad)) (And.intro (@thn_nx) (@thn_rt)))) (And.intro (And.intro (And.intro (@thn_bk) (@thn_ct)) (And.intro (@fin_rt) (@fin_nx))) (And.intro (And.intro (@ev_v) (@ev_c)) (And.intro (@ev_op) (And.intro (@ev_un) (@ev_nil)))))) (And.intro (And.intro (And.intro (And.intro (@ev_cons) (@ev_tup)) (And.intro (@ev_lst) (@ev_call))) (And.intro (And.intro (@ev_own) (@ev_sl)) (And.intro (@ev_no) (@ev_part)))) (And.intro (And.intro (And.intro (@ev_and) (@ev_or)) (And.intro (@ev_not) (@ev_if))) (And.intro (And.intro (@ev_t) (@ev_tb)) (And.intro (@ev_tnot) (And.intro (@ev_tand) (@ev_tor))))))) (And.intro (And.intro (And.intro (And.intro (And.intro (@ev_mt) (@ev_mt0)) (And.intro (@ev_rgd) (@ev_set))) (And.intro (And.intro (@ev_asg) (@ev_ret)) (And.intro (@ev_retN) (@ev_ex)))) (And.intro (And.intro (And.intro (@ev_pass) (@ev_brk)) (And.intro (@ev_cont) (@ev_ifS))) (And.intro (And.intro (@ev_aug) (@ev_gn)) (And.intro (@ev_gtp) (And.intro (@ev_gnl) (@ev_gcs)))))) (And.intro (And.intro (And.intro (And.intro (@ev_gsb) (@ev_for)) (And.intro (@ev_rg1) (@ev_rg2))) (And.intro (And.intro (@ev_its) (@ev_enum)) (And.intro (@ev_lc) (And.intro (@ev_yes) (@ev_add_ii))))) (And.intro (And.intro (And.intro (@ev_add_ss) (@ev_add_tt)) (And.intro (@ev_add_rr) (@ev_sub))) (And.intro (And.intro (@ev_mul) (@ev_mod)) (And.intro (@ev_fdiv) (And.intro (@ev_pow) (@ev_neg)))))))) (And.intro (And.intro (And.intro (And.intro (And.intro (And.intro (@ev_lt) (@ev_le)) (And.intro (@ev_gt) (@ev_ge))) (And.intro (And.intro (@ev_eq_ii) (@ev_eq_ss)) (And.intro (@ev_eq_bb) (@ev_ne_ii)))) (And.intro (And.intro (And.intro (@ev_ne_ss) (@ev_ne_bb)) (And.intro (@ev_is_n) (@ev_isnt_n))) (And.intro (And.intro (@ev_int_i) (@ev_int_b)) (And.intro (@ev_min_ii) (And.intro (@ev_max_ii) (@ev_abs)))))) (And.intro (And.intro (And.intro (And.intro (@ev_tup_of) (@ev_tup_ofL)) (And.intro (@ev_lst_ofT) (@ev_lst_ofL))) (And.intro (And.intro (@ev_len_t) (@ev_len_s)) (And.intro (@ev_len_r) (And.intro (@ev_tru_b) (@ev_alloc))))) (And.intro (And.intro (And.intro (@ev_tupD) (@ev_lstD)) (And.intro (@isi_tuple_non) (@isi_tuple_bl))) (And.intro (And.intro (@isi_tuple_int) (@isi_tuple_str)) (And.intro (@isi_tuple_tup) (And.intro (@isi_tuple_l) (@isi_tuple_f))))))) (And.intro (And.intro (And.intro (And.intro (And.intro (@isi_list_non) (@isi_list_bl)) (And.intro (@isi_list_int) (@isi_list_str))) (And.intro (And.intro (@isi_list_tup) (@isi_list_l)) (And.intro (@isi_list_f) (@isi_bool_non)))) (And.intro (And.intro (And.intro (@isi_bool_bl) (@isi_bool_int)) (And.intro (@isi_bool_str) (@isi_bool_tup))) (And.intro (And.intro (@isi_bool_l) (@isi_bool_f)) (And.intro (@isi_int_non) (And.intro (@isi_int_bl) (@isi_int_int)))))) (And.intro (And.intro (And.intro (And.intro (@isi_int_str) (@isi_int_tup)) (And.intro (@isi_int_l) (@isi_int_f))) (And.intro (And.intro (@isi_str_non) (@isi_str_bl)) (And.intro (@isi_str_int) (And.intro (@isi_str_str) (@isi_str_tup))))) (And.intro (And.intro (And.intro (@isi_str_l) (@isi_str_f)) (And.intro (@isi_dict_non) (@isi_dict_bl))) (And.intro (And.intro (@isi_dict_int) (@isi_dict_str)) (And.intro (@isi_dict_tup) (And.intro (@isi_dict_l) (@isi_dict_f))))))))) := And.intro (And.intro (And.intro (And.intro (And.intro (And.intro (And.intro (@sat_ok) (@sat_bad)) (And.intro (@sat_bind) (@sat_ite))) (And.intro (And.intro (@bind_ok) (@bind_bad)) (And.intro (@thn_nx) (@thn_rt)))) (And.intro (And.intro (And.intro (@thn_bk) (@thn_ct)) (And.intro (@fin_rt) (@fin_nx))) (And.intro (And.intro (@ev_v) (@ev_c)) (And.intro (@ev_op) (And.intro (@ev_un) (@ev_nil)))))) (And.intro (And.intro (And.intro (And.intro (@ev_cons) (@ev_tup)) (And.intro (@ev_lst) (@ev_call))) (And.intro (And.intro (@ev_own) (@ev_sl)) (And.intro (@ev_no) (@ev_part)))) (And.intro (And.intro (And.intro (@ev_and) (@ev_or)) (And.intro (@ev_not) (@ev_if))) (And.intro (And.intro (@ev_t) (@ev_tb)) (And.intro (@ev_tnot) (And.intro (@ev_tand) (@ev_tor))))))) (And.intro (And.intro (And.intro (And.intro (And.intro (@ev_mt) (@ev_mt0)) (And.intro (@ev_rgd) (@ev_set))) (And.intro (And.intro (@ev_asg) (@ev_ret)) (And.intro (@ev_retN) (@ev_ex)))) (And.intro (And.intro (And.intro (@ev_pass) (@ev_brk)) (And.intro (@ev_cont) (@ev_ifS))) (And.intro (And.intro (@ev_aug) (@ev_gn)) (And.intro (@ev_gtp) (And.intro (@ev_gnl) (@ev_gcs)))))) (And.intro (And.intro (And.intro (And.intro (@ev_gsb) (@ev_for)) (And.intro (@ev_rg1) (@ev_rg2))) (And.intro (And.intro (@ev_its) (@ev_enum)) (And.intro (@ev_lc) (And.intro (@ev_yes) (@ev_add_ii))))) (And.intro (And.intro (And.intro (@ev_add_ss) (@ev_add_tt)) (And.intro (@ev_add_rr) (@ev_sub))) (And.intro (And.intro (@ev_mul) (@ev_mod)) (And.intro (@ev_fdiv) (And.intro (@ev_pow) (@ev_neg)))))))) (And.intro (And.intro (And.intro (And.intro (And.intro (And.intro (@ev_lt) (@ev_le)) (And.intro (@ev_gt) (@ev_ge))) (And.intro (And.intro (@ev_eq_ii) (@ev_eq_ss)) (And.intro (@ev_eq_bb) (@ev_ne_ii)))) (And.intro (And.intro (And.intro (@ev_ne_ss) (@ev_ne_bb)) (And.intro (@ev_is_n) (@ev_isnt_n))) (And.intro (And.intro (@ev_int_i) (@ev_int_b)) (And.intro (@ev_min_ii) (And.intro (@ev_max_ii) (@ev_abs)))))) (And.intro (And.intro (And.intro (And.intro (@ev_tup_of) (@ev_tup_ofL)) (And.intro (@ev_lst_ofT) (@ev_lst_ofL))) (And.intro (And.intro (@ev_len_t) (@ev_len_s)) (And.intro (@ev_len_r) (And.intro (@ev_tru_b) (@ev_alloc))))) (And.intro (And.intro (And.intro (@ev_tupD) (@ev_lstD)) (And.intro (@isi_tuple_non) (@isi_tuple_bl))) (And.intro (And.intro (@isi_tuple_int) (@isi_tuple_str)) (And.intro (@isi_tuple_tup) (And.intro (@isi_tuple_l) (@isi_tuple_f))))))) (And.intro (And.intro (And.intro (And.intro (And.intro (@isi_list_non) (@isi_list_bl)) (And.intro (@isi_list_int) (@isi_list_str))) (And.intro (And.intro (@isi_list_tup) (@isi_list_l)) (And.intro (@isi_list_f) (@isi_bool_non)))) (And.intro (And.intro (And.intro (@isi_bool_bl) (@isi_bool_int)) (And.intro (@isi_bool_str) (@isi_bool_tup))) (And.intro (And.intro (@isi_bool_l) (@isi_bool_f)) (And.intro (@isi_int_non) (And.intro (@isi_int_bl) (@isi_int_int)))))) (And.intro (And.intro (And.intro (And.intro (@isi_int_str) (@isi_int_tup)) (And.intro (@isi_int_l) (@isi_int_f))) (And.intro (And.intro (@isi_str_non) (@isi_str_bl)) (And.intro (@isi_str_int) (And.intro (@isi_str_str) (@isi_str_tup))))) (And.intro (And.intro (And.intro (@isi_str_l) (@isi_str_f)) (And.intro (@isi_dict_non) (@isi_dict_bl))) (And.intro (And.intro (@isi_dict_int) (@isi_dict_str)) (And.intro (@isi_dict_tup) (And.intro (@isi_dict_l) (@isi_dict_f))))))))
end Ab

namespace Ab
open PySem PySem.Spec PyProof.Rows L2
open scoped Classical

/-! ## what the drawing helpers of the laws leave -/
/-- at s stands a source of drawn numbers -/
def Sr (s : Nat) (A : AH) : Prop := ∃ c r k : Int, A[s]? = some (.lst [.int c, .int r, .int k])
/-- all cells but the source are as they were; new ones may have come -/
structure Dr (s : Nat) (A A' : AH) : Prop where
  le : A.length ≤ A'.length
  keep : ∀ i o, i ≠ s → A[i]? = some o → A'[i]? = some o
  src : Sr s A'
theorem Dr.refl {s : Nat} {A : AH} (h : Sr s A) : Dr s A A := ⟨Nat.le_refl _, fun _ _ _ h => h, h⟩
theorem Dr.trans {s : Nat} {A B C : AH} (h : Dr s A B) (h' : Dr s B C) : Dr s A C := ⟨Nat.le_trans h.le h'.le, fun i o n e => h'.keep i o n (h.keep i o n e), h'.src⟩
theorem Sr.lt {s : Nat} {A : AH} (h : Sr s A) : s < A.length := by
  obtain ⟨c, r, k, h⟩ := h
  exact (List.getElem?_eq_some_iff.mp h).1
theorem Dr.app {s : Nat} {A : AH} (h : Sr s A) (B : AH) : Dr s A (A ++ B) := by
  have app : ∀ (i : Nat) o, A[i]? = some o → (A ++ B)[i]? = some o := fun i o e => by
    rw [List.getElem?_append_left (List.getElem?_eq_some_iff.mp e).1]; exact e
  obtain ⟨c, r, k, h⟩ := h
  exact ⟨by simp, fun i o _ e => app i o e, c, r, k, app s _ h⟩
theorem Dr.set {s : Nat} {A : AH} {c r k : Int} (h : s < A.length) : Dr s A (A.set s (.lst [.int c, .int r, .int k])) :=
  ⟨by simp, fun i o n e => by rw [List.getElem?_set_ne (Ne.symm n)]; exact e, c, r, k, List.getElem?_set_self h⟩
/-- a drawing helper that hands back what P says -/
def DrwS (s : Nat) (A : AH) (r : Res D) (P : D → Prop) : Prop := Sat r fun d A' => P d ∧ Dr s A A'
theorem DrwS.imp {s : Nat} {A : AH} {r : Res D} {P Q : D → Prop} (h : DrwS s A r P) (q : ∀ d, P d → Q d) : DrwS s A r Q := Sat.imp h fun d A' ⟨h1, h2⟩ => ⟨q d h1, h2⟩
/-- the number from 0 on, below n (0 where n is below 1) -/
def Below (n : Int) (d : D) : Prop := ∃ v, d = .int v ∧ 0 ≤ v ∧ (v < n ∨ v = 0)

/-- all cells are as they were; new ones may have come -/
structure Gr (A A' : AH) : Prop where
  le : A.length ≤ A'.length
  keep : ∀ (i : Nat) o, A[i]? = some o → A'[i]? = some o
section
variable {A B C : AH} {s r : Nat} {o : AO}
theorem at_lt (h : A[r]? = some o) : r < A.length := (List.getElem?_eq_some_iff.mp h).1
theorem at_new : (A ++ [o])[A.length]? = some o := List.getElem?_concat_length ..
theorem at_set (h : r < A.length) : (A.set r o)[r]? = some o := List.getElem?_set_self h
theorem Gr.refl : Gr A A := ⟨Nat.le_refl _, fun _ _ h => h⟩
theorem Gr.trans (h : Gr A B) (h' : Gr B C) : Gr A C := ⟨Nat.le_trans h.le h'.le, fun i o e => h'.keep i o (h.keep i o e)⟩
theorem Gr.app : Gr A (A ++ B) := ⟨by simp, fun i o e => by rw [List.getElem?_append_left (at_lt e)]; exact e⟩
theorem Gr.set (h : Gr A B) (hr : A.length ≤ r) : Gr A (B.set r o) := ⟨by simpa using h.le, fun i o' e => by
  have := at_lt e
  rw [List.getElem?_set_ne (by omega)]; exact h.keep i o' e⟩
theorem Gr.dr (h : Gr A B) (hs : Sr s A) : Dr s A B := ⟨h.le, fun i o _ e => h.keep i o e, by obtain ⟨c, r, k, e⟩ := hs; exact ⟨c, r, k, h.keep _ _ e⟩⟩
theorem Sr.gr (h : Gr A B) (hs : Sr s A) : Sr s B := (h.dr hs).src
theorem Dr.setN (h : Dr s A B) (hr : A.length ≤ r) (hs : Sr s A) : Dr s A (B.set r o) := ⟨by simpa using h.le, fun i o' n e => by
  have := at_lt e
  rw [List.getElem?_set_ne (by omega)]; exact h.keep i o' n e, by
    obtain ⟨c, q, k, e⟩ := h.src
    have := hs.lt
    exact ⟨c, q, k, by rw [List.getElem?_set_ne (by omega)]; exact e⟩⟩
/-- a list's display by an invariant over the items that are left and the list so far -/
theorem comp_inv {ok : AH → Prop} {g : FG} {t : FT} {f : FE} {n : Nat} {s : ASt} {P : D → AH → Prop} (I : List D → List D → AH → Prop)
    (turn : ∀ d ds acc A, I (d :: ds) acc A → ok A ∧ Sat (g d s A) fun s1 A1 => Sat (t s1 A1) fun b A2 => if b = true then Sat (f s1 A2) fun y A3 => A3[n]? = some (.lst acc) ∧ acc.length < sizeLine ∧ I ds (acc ++ [y]) (A3.set n (.lst (acc ++ [y]))) else I ds acc A2)
    (last : ∀ acc A, I [] acc A → ok A ∧ P (.ref n) A) : ∀ (ds acc : List D) (A : AH), I ds acc A → Sat (loopC ok g t f n s ds A) P
  | [], acc, A, h => by
    rw [loopC, if_pos (last acc A h).1]
    exact (last acc A h).2
  | d :: ds, acc, A, h => by
    obtain ⟨h1, h2⟩ := turn d ds acc A h
    rw [loopC, if_pos h1, sat_bind]
    refine h2.imp fun s1 A1 h3 => ?_
    rw [sat_bind]
    refine h3.imp fun b A2 h4 => ?_
    cases b with
    | true =>
      rw [if_pos rfl, sat_bind]
      rw [if_pos rfl] at h4
      refine h4.imp fun y A3 ⟨h5, h6, h7⟩ => ?_
      simp only [h5]
      rw [if_pos h6]
      exact comp_inv I turn last ds _ _ h7
    | false =>
      rw [if_neg Bool.false_ne_true]
      rw [if_neg Bool.false_ne_true] at h4
      exact comp_inv I turn last ds _ _ h4
/-- a list's display of values that need no cell -/
theorem comp_pure {α : Type} {ok : AH → Prop} {g : FG} {f : FE} {s : ASt} {P : D → AH → Prop} {qs : List α} (c : α → D) (F : α → D)
    (hok : ∀ l, ok (A ++ [.lst l])) (hf : ∀ q ∈ qs, ∀ l, Sat (g (c q) s (A ++ [.lst l])) fun s1 A1 => Sat (f s1 A1) fun y A3 => y = F q ∧ A3 = A ++ [.lst l]) (hl : qs.length ≤ 1000000)
    (hP : P (.ref A.length) (A ++ [.lst (qs.map F)])) : Sat (loopC ok g fYes f A.length s (qs.map c) (A ++ [.lst []])) P := by
  refine comp_inv (fun rest acc B => B = A ++ [.lst acc] ∧ ∃ pre post, qs = pre ++ post ∧ rest = post.map c ∧ acc = pre.map F) (fun d rest acc B ⟨hB, pre, post, h1, h0, h2⟩ => ?_) (fun acc B ⟨hB, pre, post, h1, h0, h2⟩ => ?_) _ [] _ ⟨rfl, [], qs, rfl, rfl, rfl⟩
  · subst hB
    cases post with
    | nil => cases h0
    | cons q post =>
      rw [List.map_cons, List.cons.injEq] at h0
      obtain ⟨e1, e2⟩ := h0
      subst e1; subst e2
      refine ⟨hok acc, Sat.imp (hf q (by rw [h1]; simp) acc) fun s1 A1 h3 => ?_⟩
      show Sat (Res.ok true A1) _
      rw [sat_ok, if_pos rfl]
      refine Sat.imp h3 fun y A3 ⟨h4, h5⟩ => ?_
      subst h4; subst h5
      refine ⟨at_new, ?_, ?_, pre ++ [q], post, by rw [h1]; simp, rfl, by rw [h2]; simp⟩
      · have : qs.length = pre.length + (post.length + 1) := by rw [h1]; simp
        have e : acc.length = pre.length := by rw [h2]; simp
        refine Nat.lt_of_lt_of_le (show acc.length < 1000000 by omega) (by decide)
      · rw [List.set_append_right _ _ (Nat.le_refl _), Nat.sub_self]; rfl
  · subst hB
    cases post with
    | cons q post => cases h0
    | nil =>
      rw [List.append_nil] at h1
      subst h1; subst h2
      exact ⟨hok _, hP⟩
/-- a list's display over counted items, by an invariant over the turns -/
theorem comp_cnt {ok : AH → Prop} {g : FG} {f : FE} {m : Nat} {s : ASt} {P : D → AH → Prop} {it : Nat → D} {n : Nat} (I : Nat → List D → AH → Prop)
    (turn : ∀ k acc A, k < n → I k acc A → ok A ∧ Sat (g (it k) s A) fun s1 A1 => Sat (f s1 A1) fun y A3 => A3[m]? = some (.lst acc) ∧ acc.length < 1000000 ∧ I (k + 1) (acc ++ [y]) (A3.set m (.lst (acc ++ [y]))))
    (last : ∀ acc A, I n acc A → ok A ∧ P (.ref m) A) {acc : List D} {A : AH} (h : I 0 acc A) : Sat (loopC ok g fYes f m s ((List.range n).map it) A) P := by
  rw [List.range_eq_range']
  refine comp_inv (fun rest acc B => ∃ k j, k + j = n ∧ rest = (List.range' k j).map it ∧ I k acc B) (fun d rest acc B ⟨k, j, h1, h2, h3⟩ => ?_) (fun acc B ⟨k, j, h1, h2, h3⟩ => ?_) _ acc _ ⟨0, n, by omega, rfl, h⟩
  · cases j with
    | zero => rw [List.range'_zero, List.map_nil] at h2; cases h2
    | succ j =>
      rw [List.range'_succ, List.map_cons, List.cons.injEq] at h2
      obtain ⟨e1, e2⟩ := h2
      subst e1
      obtain ⟨o1, o2⟩ := turn k acc B (by omega) h3
      refine ⟨o1, Sat.imp o2 fun s1 A1 h4 => ?_⟩
      show Sat (Res.ok true A1) _
      rw [sat_ok, if_pos rfl]
      exact Sat.imp h4 fun y A3 ⟨h5, h6, h7⟩ => ⟨h5, Nat.lt_of_lt_of_le h6 (by decide), k + 1, j, by omega, e2, h7⟩
  · cases j with
    | zero => rw [show k = n by omega] at h3; exact last acc B h3
    | succ j => rw [List.range'_succ, List.map_cons] at h2; cases h2
/-- a for over counted items -/
theorem for_cnt {ok : AH → Prop} {g : FG} {p : FS} {P : Fl → AH → Prop} {it : Nat → D} {n : Nat} (I : Nat → ASt → AH → Prop)
    (turn : ∀ k s A, k < n → I k s A → ok A ∧ Sat (g (it k) s A) fun s1 A1 => Sat (p s1 A1) (turn_ (I (k + 1)) P)) (last : ∀ s A, I n s A → ok A ∧ P (.nx s) A)
    {s : ASt} {A : AH} (h : I 0 s A) : Sat (loopD ok g p ((List.range n).map it) s A) P := by
  rw [List.range_eq_range']
  refine loop_inv (fun rest s B => ∃ k j, k + j = n ∧ rest = (List.range' k j).map it ∧ I k s B) (fun d rest s B ⟨k, j, h1, h2, h3⟩ => ?_) (fun s B ⟨k, j, h1, h2, h3⟩ => ?_) _ _ _ ⟨0, n, by omega, rfl, h⟩
  · cases j with
    | zero => rw [List.range'_zero, List.map_nil] at h2; cases h2
    | succ j =>
      rw [List.range'_succ, List.map_cons, List.cons.injEq] at h2
      obtain ⟨e1, e2⟩ := h2
      subst e1
      obtain ⟨o1, o2⟩ := turn k s B (by omega) h3
      refine ⟨o1, Sat.imp o2 fun s1 A1 h4 => Sat.imp h4 fun fl A2 h5 => ?_⟩
      cases fl with
      | nx s2 => exact ⟨k + 1, j, by omega, e2, h5⟩
      | ct s2 => exact ⟨k + 1, j, by omega, e2, h5⟩
      | bk s2 => exact h5
      | rt d => exact h5
  · cases j with
    | zero => rw [show k = n by omega] at h3; exact last s B h3
    | succ j => rw [List.range'_succ, List.map_cons] at h2; cases h2
/-- a list's display over a range by an invariant over the turns -/
theorem comp_range {g : FG} {f : FE} {m : Nat} {s : ASt} {P : D → AH → Prop} {lo : Int} {n : Nat} (I : Nat → List D → AH → Prop)
    (turn : ∀ k acc A, k < n → I k acc A → Sat (g (.int (lo + (k : Nat))) s A) fun s1 A1 => Sat (f s1 A1) fun y A3 => A3[m]? = some (.lst acc) ∧ acc.length < 1000000 ∧ I (k + 1) (acc ++ [y]) (A3.set m (.lst (acc ++ [y]))))
    (last : ∀ acc A, I n acc A → P (.ref m) A) {acc : List D} {A : AH} (h : I 0 acc A) : Sat (loopC yes g fYes f m s (rngL lo n) A) P := by
  have e : rngL lo n = (List.range' 0 n).map fun k => .int (lo + (k : Nat)) := by rw [← List.range_eq_range']; rfl
  rw [e]
  refine comp_inv (fun rest acc B => ∃ k j, k + j = n ∧ rest = (List.range' k j).map (fun k => .int (lo + (k : Nat))) ∧ I k acc B) (fun d rest acc B ⟨k, j, h1, h2, h3⟩ => ⟨trivial, ?_⟩) (fun acc B ⟨k, j, h1, h2, h3⟩ => ⟨trivial, ?_⟩) _ acc _ ⟨0, n, by omega, rfl, h⟩
  · cases j with
    | zero => rw [List.range'_zero, List.map_nil] at h2; cases h2
    | succ j =>
      rw [List.range'_succ, List.map_cons, List.cons.injEq] at h2
      obtain ⟨e1, e2⟩ := h2
      subst e1
      refine Sat.imp (turn k acc B (by omega) h3) fun s1 A1 h4 => ?_
      show Sat (Res.ok true A1) _
      rw [sat_ok, if_pos rfl]
      exact Sat.imp h4 fun y A3 ⟨h5, h6, h7⟩ => ⟨h5, Nat.lt_of_lt_of_le h6 (by decide), k + 1, j, by omega, e2, h7⟩
  · cases j with
    | zero => rw [show k = n by omega] at h3; exact last acc B h3
    | succ j => rw [List.range'_succ, List.map_cons] at h2; cases h2
theorem ixN_pos {n : Nat} {k : Int} (h0 : 0 ≤ k) (h : k < n) : ixN n k = some k.toNat := by
  unfold ixN
  rw [if_pos h0, if_pos h]
theorem ev_sl_l {xs : List D} {lo hi : Option Int} (h : A[r]? = some (.lst xs)) : slD (.ref r) lo hi A = .ok (.ref A.length) (A ++ [.lst (cutL xs lo hi)]) := by
  show (match rdL A (.ref r) with
    | some xs => Ab.alloc (.lst (cutL xs lo hi)) A
    | none => .bad) = _
  rw [rdL_l h]; rfl
theorem ev_app {xs : List D} {y : D} (h : A[r]? = some (.lst xs)) (hl : xs.length < 1000000) : appendD (.ref r) [y] A = .ok .non (A.set r (.lst (xs ++ [y]))) := by
  show (match A[r]? with
    | some (.lst xs) => if xs.length < sizeLine then Res.ok D.non (A.set r (.lst (xs ++ [y]))) else .bad
    | _ => .bad) = _
  rw [h]
  exact if_pos (Nat.lt_of_lt_of_le hl (by decide))
theorem ty_l {xs : List D} (h : A[r]? = some (.lst xs)) : isTy "list" (.ref r) A = true := by
  simp [isTy, rdL_l h]
theorem ev_rev {xs : List D} (h : A[r]? = some (.lst xs)) : revD (.ref r) A = .ok (.ref A.length) (A ++ [.lst xs.reverse]) := by unfold revD; rw [rdL_l h]; rfl
theorem ev_iseq_t {ds : List D} : iSeq (.tup ds) A = .ok ⟨ds, yes⟩ A := rfl
theorem ev_iseq_l {xs : List D} (h : A[r]? = some (.lst xs)) : iSeq (.ref r) A = .ok ⟨xs, fun A' => rdL A' (.ref r) = some xs⟩ A := by
  show (match rdL A (.ref r) with
    | some ds => Res.ok (⟨ds, fun A' => rdL A' (.ref r) = some ds⟩ : Src) A
    | none => .bad) = _
  rw [rdL_l h]
theorem ev_max_l {xs : List Int} (h : A[r]? = some (.lst (xs.map D.int))) (h0 : xs ≠ []) : maxD [.ref r] A = .ok (.int (maxI xs)) A := by
  show (match rdL A (.ref r) with
    | some xs => (match intsOf xs with
      | some (i :: is) => Res.ok (D.int (maxI (i :: is))) A
      | _ => .bad)
    | none => .bad) = _
  have e : ∀ xs : List Int, intsOf (xs.map D.int) = some xs := by
    intro xs
    induction xs with
    | nil => rfl
    | cons x xs ih => show (match intsOf (xs.map D.int) with | some is => some (x :: is) | none => none) = _; rw [ih]
  rw [rdL_l h]
  simp only [e]
  cases xs with
  | nil => exact (h0 rfl).elim
  | cons x xs => rfl
theorem ev_min_l {xs : List Int} (h : A[r]? = some (.lst (xs.map D.int))) (h0 : xs ≠ []) : minD [.ref r] A = .ok (.int (minI xs)) A := by
  show (match rdL A (.ref r) with
    | some xs => (match intsOf xs with
      | some (i :: is) => Res.ok (D.int (minI (i :: is))) A
      | _ => .bad)
    | none => .bad) = _
  have e : ∀ xs : List Int, intsOf (xs.map D.int) = some xs := by
    intro xs
    induction xs with
    | nil => rfl
    | cons x xs ih => show (match intsOf (xs.map D.int) with | some is => some (x :: is) | none => none) = _; rw [ih]
  rw [rdL_l h]
  simp only [e]
  cases xs with
  | nil => exact (h0 rfl).elim
  | cons x xs => rfl
end
/-! ## greatest and least -/
/-! ## plain data -/
def Pl : Nat → D → Prop
  | _, .non => True
  | _, .bl _ => True
  | _, .int _ => True
  | _, .str _ => True
  | 0, .tup _ => False
  | n + 1, .tup ds => ds.length ≤ 1000000 ∧ ∀ d ∈ ds, Pl n d
  | _, .ref _ => False
end Ab

set_option maxHeartbeats 4000000
namespace Law
open PySem PySem.Spec PyProof.Rows L2 Ab
def top (i : Nat) : Stmt := PySem.Challenge.pw_neverhappens_k09_layout.main.body.getD i (.Pass ⟨0, 0, 0, 0⟩)
abbrev s_is_large : Stmt := top 13
abbrev n_is_large : List Str := ["kind"]
abbrev s_is_discrete : Stmt := top 14
abbrev n_is_discrete : List Str := ["kind"]
abbrev s_discrete_names : Stmt := top 18
abbrev n_discrete_names : List Str := ["names", "kinds", "name"]
abbrev s_find_named : Stmt := top 4
abbrev n_find_named : List Str := ["rows", "name", "row"]
abbrev s_find_function : Stmt := top 5
abbrev n_find_function : List Str := ["program", "name"]
abbrev s_bodies : Stmt := top 2
abbrev n_bodies : List Str := ["statement"]
abbrev s_listed : Stmt := top 3
abbrev n_listed : List Str := ["body", "statements", "statement", "inner"]
abbrev s_heads : Stmt := top 8
abbrev n_heads : List Str := ["function", "place", "statement"]
abbrev s_kinds_of : Stmt := top 20
abbrev n_kinds_of : List Str := ["names", "kinds", "name"]
abbrev s_large_names : Stmt := top 19
abbrev n_large_names : List Str := ["names", "kinds", "name"]
abbrev s_first_place : Stmt := top 11
abbrev n_first_place : List Str := ["body", "place", "after"]
abbrev s_body_nodes : Stmt := top 9
abbrev n_body_nodes : List Str := ["body", "place", "after", "out", "end", "rows", "at", "statement", "here", "behind"]
abbrev s_statement_nodes : Stmt := top 10
abbrev n_statement_nodes : List Str := ["statement", "here", "behind", "out", "end", "word", "first", "middle", "second", "holds", "node"]
abbrev s_nodes : Stmt := top 7
abbrev n_nodes : List Str := ["function", "end"]
abbrev s_ranges_of : Stmt := top 21
abbrev n_ranges_of : List Str := ["names", "kinds", "name"]
abbrev s_visible_kinds : Stmt := top 16
abbrev n_visible_kinds : List Str := ["program", "function", "kinds", "name", "kind"]
abbrev s_Layout_init : Stmt := inClass (top 22) 0
abbrev n_Layout_init : List Str := ["self", "program", "name", "record", "field", "array", "kinds", "ends", "pair", "entry", "visible"]
abbrev s__law_cell : Stmt := top 24
abbrev n__law_cell : List Str := ["_law_script", "_law_at"]
abbrev s__law_pick : Stmt := top 26
abbrev n__law_pick : List Str := ["_law_source_here", "_law_size", "_law_k", "_law_digit", "_law_mixed"]
abbrev s__law_body : Stmt := top 33
abbrev n__law_body : List Str := ["_law_source_here", "_law_left", "_law_depth", "_law_loop", "_law_body_here", "_law_k", "_law_choice", "_law_made", "_law_first"]
abbrev s__law_one : Stmt := top 27
abbrev n__law_one : List Str := ["_law_source_here", "_law_row"]
abbrev s__law_kind : Stmt := top 30
abbrev n__law_kind : List Str := ["_law_source_here", "_law_records", "_law_large", "_law_choice", "_law_low"]
abbrev s__law_names : Stmt := top 28
abbrev n__law_names : List Str := ["_law_source_here", "_law_style", "_law_names_here", "_law_k", "_law_word"]
abbrev s__law_is_large : Stmt := top 31
abbrev n__law_is_large : List Str := ["_law_kind_here"]
abbrev s__law_pairs : Stmt := top 32
abbrev n__law_pairs : List Str := ["_law_source_here", "_law_names_here", "_law_records", "_law_room", "_law_pairs_here", "_law_k", "_law_kind_here"]
abbrev s__law_source : Stmt := top 25
abbrev n__law_source : List Str := ["_law_cell_here"]
abbrev s__law_drawn : Stmt := top 34
abbrev n__law_drawn : List Str := ["_law_cell_here", "_law_source_here", "_law_names_here", "_law_shift", "_law_records", "_law_kinds", "_law_name", "_law_fields", "_law_k", "_law_arrays", "_law_shared", "_law_pairs_here", "_law_functions", "_law_room", "_law_params", "_law_result", "_law_own", "_law_body_here"]
abbrev s__law_count : Stmt := top 35
abbrev n__law_count : List Str := ["_law_body_here", "_law_count_here", "_law_statement"]
abbrev s__law_some_names : Stmt := top 36
abbrev n__law_some_names : List Str := ["_law_pairs_here", "_law_large", "_law_pair"]
abbrev s__law_some_ranges : Stmt := top 37
abbrev n__law_some_ranges : List Str := ["_law_pairs_here", "_law_pair"]
abbrev s__law_due : Stmt := top 38
abbrev n__law_due : List Str := ["_law_program", "_law_head", "_law_entry", "_law_visible", "_law_ends", "_law_due_here"]
abbrev s__law_same : Stmt := top 29
abbrev n__law_same : List Str := ["_law_actual", "_law_due_here", "_law_k"]
abbrev s__law_told : Stmt := top 39
abbrev n__law_told : List Str := ["_law_layout", "_law_told_here"]
abbrev s__law_right : Stmt := top 40
abbrev n__law_right : List Str := ["_law_layout", "_law_program", "_law_head", "_law_visible", "_law_kinds", "_law_pair"]
abbrev s_law : Stmt := top 41
abbrev n_law : List Str := ["_law_script", "_law_asked", "_law_at", "_law_program", "_law_head", "_law_layouts", "_law_pair", "_law_k", "_law_again"]
theorem sc_is_large : FnScope n_is_large ["kind"] (defScope s_is_large) := ⟨rfl, rfl, rfl, by decide +kernel, rfl, by decide +kernel, by decide +kernel⟩
theorem sc_is_discrete : FnScope n_is_discrete ["kind"] (defScope s_is_discrete) := ⟨rfl, rfl, rfl, by decide +kernel, rfl, by decide +kernel, by decide +kernel⟩
theorem sc_discrete_names : FnScope n_discrete_names ["names", "kinds"] (defScope s_discrete_names) := ⟨rfl, rfl, rfl, by decide +kernel, rfl, by decide +kernel, by decide +kernel⟩
theorem sc_find_named : FnScope n_find_named ["rows", "name"] (defScope s_find_named) := ⟨rfl, rfl, rfl, by decide +kernel, rfl, by decide +kernel, by decide +kernel⟩
theorem sc_find_function : FnScope n_find_function ["program", "name"] (defScope s_find_function) := ⟨rfl, rfl, rfl, by decide +kernel, rfl, by decide +kernel, by decide +kernel⟩
theorem sc_bodies : FnScope n_bodies ["statement"] (defScope s_bodies) := ⟨rfl, rfl, rfl, by decide +kernel, rfl, by decide +kernel, by decide +kernel⟩
theorem sc_listed : FnScope n_listed ["body"] (defScope s_listed) := ⟨rfl, rfl, rfl, by decide +kernel, rfl, by decide +kernel, by decide +kernel⟩
theorem sc_heads : FnScope n_heads ["function"] (defScope s_heads) := ⟨rfl, rfl, rfl, by decide +kernel, rfl, by decide +kernel, by decide +kernel⟩
theorem sc_kinds_of : FnScope n_kinds_of ["names", "kinds"] (defScope s_kinds_of) := ⟨rfl, rfl, rfl, by decide +kernel, rfl, by decide +kernel, by decide +kernel⟩
theorem sc_large_names : FnScope n_large_names ["names", "kinds"] (defScope s_large_names) := ⟨rfl, rfl, rfl, by decide +kernel, rfl, by decide +kernel, by decide +kernel⟩
theorem sc_first_place : FnScope n_first_place ["body", "place", "after"] (defScope s_first_place) := ⟨rfl, rfl, rfl, by decide +kernel, rfl, by decide +kernel, by decide +kernel⟩
theorem sc_body_nodes : FnScope n_body_nodes ["body", "place", "after", "out", "end"] (defScope s_body_nodes) := ⟨rfl, rfl, rfl, by decide +kernel, rfl, by decide +kernel, by decide +kernel⟩
theorem sc_statement_nodes : FnScope n_statement_nodes ["statement", "here", "behind", "out", "end"] (defScope s_statement_nodes) := ⟨rfl, rfl, rfl, by decide +kernel, rfl, by decide +kernel, by decide +kernel⟩
theorem sc_nodes : FnScope n_nodes ["function"] (defScope s_nodes) := ⟨rfl, rfl, rfl, by decide +kernel, rfl, by decide +kernel, by decide +kernel⟩
theorem sc_ranges_of : FnScope n_ranges_of ["names", "kinds"] (defScope s_ranges_of) := ⟨rfl, rfl, rfl, by decide +kernel, rfl, by decide +kernel, by decide +kernel⟩
theorem sc_visible_kinds : FnScope n_visible_kinds ["program", "function"] (defScope s_visible_kinds) := ⟨rfl, rfl, rfl, by decide +kernel, rfl, by decide +kernel, by decide +kernel⟩
theorem sc_Layout_init : FnScope n_Layout_init ["self", "program", "name"] (defScope s_Layout_init) := ⟨rfl, rfl, rfl, by decide +kernel, rfl, by decide +kernel, by decide +kernel⟩
theorem sc__law_cell : FnScope n__law_cell ["_law_script", "_law_at"] (defScope s__law_cell) := ⟨rfl, rfl, rfl, by decide +kernel, rfl, by decide +kernel, by decide +kernel⟩
theorem sc__law_pick : FnScope n__law_pick ["_law_source_here", "_law_size"] (defScope s__law_pick) := ⟨rfl, rfl, rfl, by decide +kernel, rfl, by decide +kernel, by decide +kernel⟩
theorem sc__law_body : FnScope n__law_body ["_law_source_here", "_law_left", "_law_depth", "_law_loop"] (defScope s__law_body) := ⟨rfl, rfl, rfl, by decide +kernel, rfl, by decide +kernel, by decide +kernel⟩
theorem sc__law_one : FnScope n__law_one ["_law_source_here", "_law_row"] (defScope s__law_one) := ⟨rfl, rfl, rfl, by decide +kernel, rfl, by decide +kernel, by decide +kernel⟩
theorem sc__law_kind : FnScope n__law_kind ["_law_source_here", "_law_records", "_law_large"] (defScope s__law_kind) := ⟨rfl, rfl, rfl, by decide +kernel, rfl, by decide +kernel, by decide +kernel⟩
theorem sc__law_names : FnScope n__law_names ["_law_source_here"] (defScope s__law_names) := ⟨rfl, rfl, rfl, by decide +kernel, rfl, by decide +kernel, by decide +kernel⟩
theorem sc__law_is_large : FnScope n__law_is_large ["_law_kind_here"] (defScope s__law_is_large) := ⟨rfl, rfl, rfl, by decide +kernel, rfl, by decide +kernel, by decide +kernel⟩
theorem sc__law_pairs : FnScope n__law_pairs ["_law_source_here", "_law_names_here", "_law_records", "_law_room"] (defScope s__law_pairs) := ⟨rfl, rfl, rfl, by decide +kernel, rfl, by decide +kernel, by decide +kernel⟩
theorem sc__law_source : FnScope n__law_source ["_law_cell_here"] (defScope s__law_source) := ⟨rfl, rfl, rfl, by decide +kernel, rfl, by decide +kernel, by decide +kernel⟩
theorem sc__law_drawn : FnScope n__law_drawn ["_law_cell_here"] (defScope s__law_drawn) := ⟨rfl, rfl, rfl, by decide +kernel, rfl, by decide +kernel, by decide +kernel⟩
theorem sc__law_count : FnScope n__law_count ["_law_body_here"] (defScope s__law_count) := ⟨rfl, rfl, rfl, by decide +kernel, rfl, by decide +kernel, by decide +kernel⟩
theorem sc__law_some_names : FnScope n__law_some_names ["_law_pairs_here", "_law_large"] (defScope s__law_some_names) := ⟨rfl, rfl, rfl, by decide +kernel, rfl, by decide +kernel, by decide +kernel⟩
theorem sc__law_some_ranges : FnScope n__law_some_ranges ["_law_pairs_here"] (defScope s__law_some_ranges) := ⟨rfl, rfl, rfl, by decide +kernel, rfl, by decide +kernel, by decide +kernel⟩
theorem sc__law_due : FnScope n__law_due ["_law_program", "_law_head"] (defScope s__law_due) := ⟨rfl, rfl, rfl, by decide +kernel, rfl, by decide +kernel, by decide +kernel⟩
theorem sc__law_same : FnScope n__law_same ["_law_actual", "_law_due_here"] (defScope s__law_same) := ⟨rfl, rfl, rfl, by decide +kernel, rfl, by decide +kernel, by decide +kernel⟩
theorem sc__law_told : FnScope n__law_told ["_law_layout"] (defScope s__law_told) := ⟨rfl, rfl, rfl, by decide +kernel, rfl, by decide +kernel, by decide +kernel⟩
theorem sc__law_right : FnScope n__law_right ["_law_layout", "_law_program", "_law_head"] (defScope s__law_right) := ⟨rfl, rfl, rfl, by decide +kernel, rfl, by decide +kernel, by decide +kernel⟩
theorem sc_law : FnScope n_law ["_law_script"] (defScope s_law) := ⟨rfl, rfl, rfl, by decide +kernel, rfl, by decide +kernel, by decide +kernel⟩
/-- what the top leaves -/
structure Txt (K : PySem.W.Frag) (mg : Str → Option Value) (cl : Str → Addr) where
  a_is_large : Addr
  d_is_large : FuncData
  F_is_large : Fun K "is_large" "is_large" s_is_large a_is_large d_is_large
  b_is_large : Binds K d_is_large ["kind"] []
  g_is_large : mg "is_large" = some (.ref a_is_large)
  a_is_discrete : Addr
  d_is_discrete : FuncData
  F_is_discrete : Fun K "is_discrete" "is_discrete" s_is_discrete a_is_discrete d_is_discrete
  b_is_discrete : Binds K d_is_discrete ["kind"] []
  g_is_discrete : mg "is_discrete" = some (.ref a_is_discrete)
  a_discrete_names : Addr
  d_discrete_names : FuncData
  F_discrete_names : Fun K "discrete_names" "discrete_names" s_discrete_names a_discrete_names d_discrete_names
  b_discrete_names : Binds K d_discrete_names ["names", "kinds"] []
  g_discrete_names : mg "discrete_names" = some (.ref a_discrete_names)
  a_find_named : Addr
  d_find_named : FuncData
  F_find_named : Fun K "find_named" "find_named" s_find_named a_find_named d_find_named
  b_find_named : Binds K d_find_named ["rows", "name"] []
  g_find_named : mg "find_named" = some (.ref a_find_named)
  a_find_function : Addr
  d_find_function : FuncData
  F_find_function : Fun K "find_function" "find_function" s_find_function a_find_function d_find_function
  b_find_function : Binds K d_find_function ["program", "name"] []
  g_find_function : mg "find_function" = some (.ref a_find_function)
  a_bodies : Addr
  d_bodies : FuncData
  F_bodies : Fun K "bodies" "bodies" s_bodies a_bodies d_bodies
  b_bodies : Binds K d_bodies ["statement"] []
  g_bodies : mg "bodies" = some (.ref a_bodies)
  a_listed : Addr
  d_listed : FuncData
  F_listed : Fun K "listed" "listed" s_listed a_listed d_listed
  b_listed : Binds K d_listed ["body"] []
  g_listed : mg "listed" = some (.ref a_listed)
  a_heads : Addr
  d_heads : FuncData
  F_heads : Fun K "heads" "heads" s_heads a_heads d_heads
  b_heads : Binds K d_heads ["function"] []
  g_heads : mg "heads" = some (.ref a_heads)
  a_kinds_of : Addr
  d_kinds_of : FuncData
  F_kinds_of : Fun K "kinds_of" "kinds_of" s_kinds_of a_kinds_of d_kinds_of
  b_kinds_of : Binds K d_kinds_of ["names", "kinds"] []
  g_kinds_of : mg "kinds_of" = some (.ref a_kinds_of)
  a_large_names : Addr
  d_large_names : FuncData
  F_large_names : Fun K "large_names" "large_names" s_large_names a_large_names d_large_names
  b_large_names : Binds K d_large_names ["names", "kinds"] []
  g_large_names : mg "large_names" = some (.ref a_large_names)
  a_first_place : Addr
  d_first_place : FuncData
  F_first_place : Fun K "first_place" "first_place" s_first_place a_first_place d_first_place
  b_first_place : Binds K d_first_place ["body", "place", "after"] []
  g_first_place : mg "first_place" = some (.ref a_first_place)
  a_body_nodes : Addr
  d_body_nodes : FuncData
  F_body_nodes : Fun K "body_nodes" "body_nodes" s_body_nodes a_body_nodes d_body_nodes
  b_body_nodes : Binds K d_body_nodes ["body", "place", "after", "out", "end"] []
  g_body_nodes : mg "body_nodes" = some (.ref a_body_nodes)
  a_statement_nodes : Addr
  d_statement_nodes : FuncData
  F_statement_nodes : Fun K "statement_nodes" "statement_nodes" s_statement_nodes a_statement_nodes d_statement_nodes
  b_statement_nodes : Binds K d_statement_nodes ["statement", "here", "behind", "out", "end"] []
  g_statement_nodes : mg "statement_nodes" = some (.ref a_statement_nodes)
  a_nodes : Addr
  d_nodes : FuncData
  F_nodes : Fun K "nodes" "nodes" s_nodes a_nodes d_nodes
  b_nodes : Binds K d_nodes ["function"] []
  g_nodes : mg "nodes" = some (.ref a_nodes)
  a_ranges_of : Addr
  d_ranges_of : FuncData
  F_ranges_of : Fun K "ranges_of" "ranges_of" s_ranges_of a_ranges_of d_ranges_of
  b_ranges_of : Binds K d_ranges_of ["names", "kinds"] []
  g_ranges_of : mg "ranges_of" = some (.ref a_ranges_of)
  a_visible_kinds : Addr
  d_visible_kinds : FuncData
  F_visible_kinds : Fun K "visible_kinds" "visible_kinds" s_visible_kinds a_visible_kinds d_visible_kinds
  b_visible_kinds : Binds K d_visible_kinds ["program", "function"] []
  g_visible_kinds : mg "visible_kinds" = some (.ref a_visible_kinds)
  a_Layout_init : Addr
  d_Layout_init : FuncData
  F_Layout_init : Fun K "__init__" "Layout.__init__" s_Layout_init a_Layout_init d_Layout_init
  b_Layout_init : Binds K d_Layout_init ["self", "program", "name"] []
  a__law_cell : Addr
  d__law_cell : FuncData
  F__law_cell : Fun K "_law_cell" "_law_cell" s__law_cell a__law_cell d__law_cell
  b__law_cell : Binds K d__law_cell ["_law_script", "_law_at"] []
  g__law_cell : mg "_law_cell" = some (.ref a__law_cell)
  a__law_pick : Addr
  d__law_pick : FuncData
  F__law_pick : Fun K "_law_pick" "_law_pick" s__law_pick a__law_pick d__law_pick
  b__law_pick : Binds K d__law_pick ["_law_source_here", "_law_size"] []
  g__law_pick : mg "_law_pick" = some (.ref a__law_pick)
  a__law_body : Addr
  d__law_body : FuncData
  F__law_body : Fun K "_law_body" "_law_body" s__law_body a__law_body d__law_body
  b__law_body : Binds K d__law_body ["_law_source_here", "_law_left", "_law_depth", "_law_loop"] []
  g__law_body : mg "_law_body" = some (.ref a__law_body)
  a__law_one : Addr
  d__law_one : FuncData
  F__law_one : Fun K "_law_one" "_law_one" s__law_one a__law_one d__law_one
  b__law_one : Binds K d__law_one ["_law_source_here", "_law_row"] []
  g__law_one : mg "_law_one" = some (.ref a__law_one)
  a__law_kind : Addr
  d__law_kind : FuncData
  F__law_kind : Fun K "_law_kind" "_law_kind" s__law_kind a__law_kind d__law_kind
  b__law_kind : Binds K d__law_kind ["_law_source_here", "_law_records", "_law_large"] []
  g__law_kind : mg "_law_kind" = some (.ref a__law_kind)
  a__law_names : Addr
  d__law_names : FuncData
  F__law_names : Fun K "_law_names" "_law_names" s__law_names a__law_names d__law_names
  b__law_names : Binds K d__law_names ["_law_source_here"] []
  g__law_names : mg "_law_names" = some (.ref a__law_names)
  a__law_is_large : Addr
  d__law_is_large : FuncData
  F__law_is_large : Fun K "_law_is_large" "_law_is_large" s__law_is_large a__law_is_large d__law_is_large
  b__law_is_large : Binds K d__law_is_large ["_law_kind_here"] []
  g__law_is_large : mg "_law_is_large" = some (.ref a__law_is_large)
  a__law_pairs : Addr
  d__law_pairs : FuncData
  F__law_pairs : Fun K "_law_pairs" "_law_pairs" s__law_pairs a__law_pairs d__law_pairs
  b__law_pairs : Binds K d__law_pairs ["_law_source_here", "_law_names_here", "_law_records", "_law_room"] []
  g__law_pairs : mg "_law_pairs" = some (.ref a__law_pairs)
  a__law_source : Addr
  d__law_source : FuncData
  F__law_source : Fun K "_law_source" "_law_source" s__law_source a__law_source d__law_source
  b__law_source : Binds K d__law_source ["_law_cell_here"] []
  g__law_source : mg "_law_source" = some (.ref a__law_source)
  a__law_drawn : Addr
  d__law_drawn : FuncData
  F__law_drawn : Fun K "_law_drawn" "_law_drawn" s__law_drawn a__law_drawn d__law_drawn
  b__law_drawn : Binds K d__law_drawn ["_law_cell_here"] []
  g__law_drawn : mg "_law_drawn" = some (.ref a__law_drawn)
  a__law_count : Addr
  d__law_count : FuncData
  F__law_count : Fun K "_law_count" "_law_count" s__law_count a__law_count d__law_count
  b__law_count : Binds K d__law_count ["_law_body_here"] []
  g__law_count : mg "_law_count" = some (.ref a__law_count)
  a__law_some_names : Addr
  d__law_some_names : FuncData
  F__law_some_names : Fun K "_law_some_names" "_law_some_names" s__law_some_names a__law_some_names d__law_some_names
  b__law_some_names : Binds K d__law_some_names ["_law_pairs_here", "_law_large"] []
  g__law_some_names : mg "_law_some_names" = some (.ref a__law_some_names)
  a__law_some_ranges : Addr
  d__law_some_ranges : FuncData
  F__law_some_ranges : Fun K "_law_some_ranges" "_law_some_ranges" s__law_some_ranges a__law_some_ranges d__law_some_ranges
  b__law_some_ranges : Binds K d__law_some_ranges ["_law_pairs_here"] []
  g__law_some_ranges : mg "_law_some_ranges" = some (.ref a__law_some_ranges)
  a__law_due : Addr
  d__law_due : FuncData
  F__law_due : Fun K "_law_due" "_law_due" s__law_due a__law_due d__law_due
  b__law_due : Binds K d__law_due ["_law_program", "_law_head"] []
  g__law_due : mg "_law_due" = some (.ref a__law_due)
  a__law_same : Addr
  d__law_same : FuncData
  F__law_same : Fun K "_law_same" "_law_same" s__law_same a__law_same d__law_same
  b__law_same : Binds K d__law_same ["_law_actual", "_law_due_here"] []
  g__law_same : mg "_law_same" = some (.ref a__law_same)
  a__law_told : Addr
  d__law_told : FuncData
  F__law_told : Fun K "_law_told" "_law_told" s__law_told a__law_told d__law_told
  b__law_told : Binds K d__law_told ["_law_layout"] []
  g__law_told : mg "_law_told" = some (.ref a__law_told)
  a__law_right : Addr
  d__law_right : FuncData
  F__law_right : Fun K "_law_right" "_law_right" s__law_right a__law_right d__law_right
  b__law_right : Binds K d__law_right ["_law_layout", "_law_program", "_law_head"] []
  g__law_right : mg "_law_right" = some (.ref a__law_right)
  a_law : Addr
  d_law : FuncData
  F_law : Fun K "law" "law" s_law a_law d_law
  b_law : Binds K d_law ["_law_script"] []
  g_law : mg "law" = some (.ref a_law)
  c_Layout : Cls K (cl "Layout")
  g_Layout : mg "Layout" = some (.ref (cl "Layout"))
  k_Layout : Mk K (cl "Layout") a_Layout_init
  x_Layout_arrays : NoAttr K (cl "Layout") "arrays"
  x_Layout_discrete : NoAttr K (cl "Layout") "discrete"
  x_Layout_discrete_kinds : NoAttr K (cl "Layout") "discrete_kinds"
  x_Layout_entry_discrete : NoAttr K (cl "Layout") "entry_discrete"
  x_Layout_entry_kinds : NoAttr K (cl "Layout") "entry_kinds"
  x_Layout_entry_large : NoAttr K (cl "Layout") "entry_large"
  x_Layout_exit : NoAttr K (cl "Layout") "exit"
  x_Layout_exit_discrete : NoAttr K (cl "Layout") "exit_discrete"
  x_Layout_exit_kinds : NoAttr K (cl "Layout") "exit_kinds"
  x_Layout_exit_large : NoAttr K (cl "Layout") "exit_large"
  x_Layout_exit_ranges : NoAttr K (cl "Layout") "exit_ranges"
  x_Layout_field_names : NoAttr K (cl "Layout") "field_names"
  x_Layout_fields : NoAttr K (cl "Layout") "fields"
  x_Layout_function : NoAttr K (cl "Layout") "function"
  x_Layout_heads : NoAttr K (cl "Layout") "heads"
  x_Layout_kinds : NoAttr K (cl "Layout") "kinds"
  x_Layout_large : NoAttr K (cl "Layout") "large"
  x_Layout_name : NoAttr K (cl "Layout") "name"
  x_Layout_nodes : NoAttr K (cl "Layout") "nodes"
  x_Layout_program : NoAttr K (cl "Layout") "program"
  x_Layout_ranges : NoAttr K (cl "Layout") "ranges"
  x_Layout_result : NoAttr K (cl "Layout") "result"
  n_bool : mg "bool" = none
  n_dict : mg "dict" = none
  n_enumerate : mg "enumerate" = none
  n_int : mg "int" = none
  n_isinstance : mg "isinstance" = none
  n_len : mg "len" = none
  n_list : mg "list" = none
  n_max : mg "max" = none
  n_min : mg "min" = none
  n_range : mg "range" = none
  n_str : mg "str" = none
  n_tuple : mg "tuple" = none
/-! ### the defs as functions -/
noncomputable def p_is_large  : FS :=
 fRet (fAnd (fOp eqD (fOp ixD (fV 0) (fC (.int 0))) (fC (.str "num"))) (fOp gtD (fOp subD (fOp ixD (fV 0) (fC (.int 2))) (fOp ixD (fV 0) (fC (.int 1)))) (fC (.int 7))))
noncomputable def m_is_large : FM := body 1 1 p_is_large
noncomputable def p_is_discrete  : FS :=
 fRet (fNot (fOwn 1 m_is_large (fCons (fV 0) (fNil))))
noncomputable def m_is_discrete : FM := body 1 1 p_is_discrete
noncomputable def p_discrete_names  : FS :=
 fRet (fCall tupOf (fCons (fLc (fItS (fV 0)) (gN 2) (fT (fOwn 1 m_is_discrete (fCons (fOp ixD (fV 1) (fV 2)) (fNil)))) (fV 2) [2]) (fNil)))
noncomputable def m_discrete_names : FM := body 2 3 p_discrete_names
noncomputable def p_find_named  : FS :=
 fSeq (fFor (fItS (fV 0)) (gN 2)
 (fIfS (fTB (fOp eqD (fOp ixD (fV 2) (fC (.int 0))) (fV 1)))
 (fRet (fV 2))
 (fPass)))
 (fRet (fC .non))
noncomputable def m_find_named : FM := body 2 3 p_find_named
noncomputable def p_find_function  : FS :=
 fRet (fOwn 2 m_find_named (fCons (fOp ixD (fV 0) (fC (.int 3))) (fCons (fV 1) (fNil))))
noncomputable def m_find_function : FM := body 2 2 p_find_function
noncomputable def p_bodies  : FS :=
 fSeq (fIfS (fTB (fOp eqD (fOp ixD (fV 0) (fC (.int 0))) (fC (.str "if"))))
 (fRet (fTup (fCons (fOp ixD (fV 0) (fC (.int 2))) (fCons (fOp ixD (fV 0) (fC (.int 3))) (fNil)))))
 (fPass))
 (fSeq (fIfS (fTB (fOp eqD (fOp ixD (fV 0) (fC (.int 0))) (fC (.str "while"))))
 (fRet (fTup (fCons (fOp ixD (fV 0) (fC (.int 2))) (fNil))))
 (fPass))
 (fRet (fTup (fNil))))
noncomputable def m_bodies : FM := body 1 1 p_bodies
noncomputable def p_listed (r_listed : FM) : FS :=
 fSeq (fSet (fLst (fNil)) 1)
 (fSeq (fFor (fItS (fV 0)) (gN 2)
 (fSeq (fEx (fMt "list" appendD (fV 1) (fCons (fV 2) (fNil))))
 (fFor (fItS (fOwn 1 m_bodies (fCons (fV 2) (fNil)))) (gN 3)
 (fEx (fMt "list" extendD (fV 1) (fCons (fOwn 1 r_listed (fCons (fV 3) (fNil))) (fNil)))))))
 (fRet (fV 1)))
noncomputable def m_listed : Nat → FM
  | 0 => fun _ _ => .bad
  | n + 1 => body 1 4 (p_listed (m_listed n))
noncomputable def p_heads  : FS :=
 fRet (fCall tupOf (fCons (fLc (fEnumA (fOwn 1 (m_listed 20) (fCons (fOp ixD (fV 0) (fC (.int 4))) (fNil)))) (gTp 2 (gCs (gN 1) (gCs (gN 2) (gNl)))) (fTB (fOp eqD (fOp ixD (fV 2) (fC (.int 0))) (fC (.str "while")))) (fV 1) [1, 2]) (fNil)))
noncomputable def m_heads : FM := body 1 3 p_heads
noncomputable def p_kinds_of  : FS :=
 fRet (fCall tupOf (fCons (fLc (fItS (fV 0)) (gN 2) (fYes) (fOp ixD (fV 1) (fV 2)) [2]) (fNil)))
noncomputable def m_kinds_of : FM := body 2 3 p_kinds_of
noncomputable def p_large_names  : FS :=
 fRet (fCall tupOf (fCons (fLc (fItS (fV 0)) (gN 2) (fT (fOwn 1 m_is_large (fCons (fOp ixD (fV 1) (fV 2)) (fNil)))) (fV 2) [2]) (fNil)))
noncomputable def m_large_names : FM := body 2 3 p_large_names
noncomputable def p_first_place  : FS :=
 fSeq (fIfS (fTB (fOp eqNilT (fV 0) (fTup (fNil))))
 (fRet (fV 2))
 (fPass))
 (fRet (fV 1))
noncomputable def m_first_place : FM := body 3 3 p_first_place
noncomputable def p_body_nodes (r_body_nodes : FM) (r_statement_nodes : FM) : FS :=
 fSeq (fSet (fLst (fNil)) 5)
 (fSeq (fFor (fEnumA (fV 0)) (gTp 2 (gCs (gN 6) (gCs (gN 7) (gNl))))
 (fSeq (fSet (fOp addD (fV 1) (fCall lenD (fCons (fV 5) (fNil)))) 8)
 (fSeq (fSet (fV 2) 9)
 (fSeq (fIfS (fTB (fOp ltD (fOp addD (fV 6) (fC (.int 1))) (fCall lenD (fCons (fV 0) (fNil)))))
 (fSet (fOp addD (fV 8) (fCall lenD (fCons (fOwn 1 (m_listed 20) (fCons (fTup (fCons (fV 7) (fNil))) (fNil))) (fNil)))) 9)
 (fPass))
 (fEx (fMt "list" extendD (fV 5) (fCons (fOwn 5 r_statement_nodes (fCons (fV 7) (fCons (fV 8) (fCons (fV 9) (fCons (fV 3) (fCons (fV 4) (fNil))))))) (fNil))))))))
 (fRet (fV 5)))
noncomputable def p_statement_nodes (r_body_nodes : FM) (r_statement_nodes : FM) : FS :=
 fSeq (fSet (fOp ixD (fV 0) (fC (.int 0))) 5)
 (fSeq (fIfS (fTB (fOp eqD (fV 5) (fC (.str "if"))))
 (fSeq (fSet (fOwn 5 r_body_nodes (fCons (fOp ixD (fV 0) (fC (.int 2))) (fCons (fOp addD (fV 1) (fC (.int 1))) (fCons (fV 2) (fCons (fV 3) (fCons (fV 4) (fNil))))))) 6)
 (fSeq (fSet (fOp addD (fOp addD (fV 1) (fC (.int 1))) (fCall lenD (fCons (fV 6) (fNil)))) 7)
 (fSeq (fSet (fOwn 5 r_body_nodes (fCons (fOp ixD (fV 0) (fC (.int 3))) (fCons (fV 7) (fCons (fV 2) (fCons (fV 3) (fCons (fV 4) (fNil))))))) 8)
 (fSeq (fSet (fOwn 3 m_first_place (fCons (fOp ixD (fV 0) (fC (.int 2))) (fCons (fOp addD (fV 1) (fC (.int 1))) (fCons (fV 2) (fNil))))) 9)
 (fSeq (fSet (fTup (fCons (fTup (fCons (fC (.str "test")) (fCons (fOp ixD (fV 0) (fC (.int 1))) (fNil)))) (fCons (fV 9) (fCons (fOwn 3 m_first_place (fCons (fOp ixD (fV 0) (fC (.int 3))) (fCons (fV 7) (fCons (fV 2) (fNil))))) (fNil))))) 10)
 (fRet (fOp addD (fOp addD (fLst (fCons (fV 10) (fNil))) (fV 6)) (fV 8))))))))
 (fPass))
 (fSeq (fIfS (fTB (fOp eqD (fV 5) (fC (.str "while"))))
 (fSeq (fSet (fTup (fCons (fTup (fCons (fC (.str "test")) (fCons (fOp ixD (fV 0) (fC (.int 1))) (fNil)))) (fCons (fOwn 3 m_first_place (fCons (fOp ixD (fV 0) (fC (.int 2))) (fCons (fOp addD (fV 1) (fC (.int 1))) (fCons (fV 1) (fNil))))) (fCons (fV 2) (fNil))))) 10)
 (fRet (fOp addD (fLst (fCons (fV 10) (fNil))) (fOwn 5 r_body_nodes (fCons (fOp ixD (fV 0) (fC (.int 2))) (fCons (fOp addD (fV 1) (fC (.int 1))) (fCons (fV 1) (fCons (fV 2) (fCons (fV 4) (fNil))))))))))
 (fPass))
 (fSeq (fIfS (fTB (fOp eqD (fV 5) (fC (.str "break"))))
 (fRet (fLst (fCons (fTup (fCons (fTup (fCons (fC (.str "go")) (fNil))) (fCons (fV 3) (fCons (fC .non) (fNil))))) (fNil))))
 (fPass))
 (fSeq (fIfS (fTB (fOp eqD (fV 5) (fC (.str "return"))))
 (fRet (fLst (fCons (fTup (fCons (fV 0) (fCons (fV 4) (fCons (fC .non) (fNil))))) (fNil))))
 (fPass))
 (fRet (fLst (fCons (fTup (fCons (fV 0) (fCons (fV 2) (fCons (fC .non) (fNil))))) (fNil))))))))
mutual
noncomputable def m_body_nodes : Nat → FM
  | 0 => fun _ _ => .bad
  | n + 1 => body 5 10 (p_body_nodes (m_body_nodes n) (m_statement_nodes n))
noncomputable def m_statement_nodes : Nat → FM
  | 0 => fun _ _ => .bad
  | n + 1 => body 5 11 (p_statement_nodes (m_body_nodes n) (m_statement_nodes n))
end
noncomputable def p_nodes  : FS :=
 fSeq (fSet (fCall lenD (fCons (fOwn 1 (m_listed 20) (fCons (fOp ixD (fV 0) (fC (.int 4))) (fNil))) (fNil))) 1)
 (fRet (fCall tupOf (fCons (fOwn 5 (m_body_nodes 20) (fCons (fOp ixD (fV 0) (fC (.int 4))) (fCons (fC (.int 0)) (fCons (fV 1) (fCons (fC .non) (fCons (fV 1) (fNil))))))) (fNil))))
noncomputable def m_nodes : FM := body 1 2 p_nodes
noncomputable def p_ranges_of  : FS :=
 fRet (fCall tupOf (fCons (fLc (fItS (fV 0)) (gN 2) (fYes) (fSl (fOp ixD (fV 1) (fV 2)) (fPart (fC (.int 1))) (fNo)) [2]) (fNil)))
noncomputable def m_ranges_of : FM := body 2 3 p_ranges_of
noncomputable def p_visible_kinds  : FS :=
 fSeq (fSet (fDict0) 2)
 (fSeq (fFor (fItS (fOp addD (fOp addD (fOp ixD (fV 0) (fC (.int 2))) (fOp ixD (fV 1) (fC (.int 1)))) (fOp ixD (fV 1) (fC (.int 3))))) (gTp 2 (gCs (gN 3) (gCs (gN 4) (gNl))))
 (fAsg (fV 4) (gSb (fV 2) (fV 3))))
 (fRet (fV 2)))
noncomputable def m_visible_kinds : FM := body 2 5 p_visible_kinds
noncomputable def p_Layout_init (cl : Str → Addr)  : FS :=
 fSeq (fSetF [cl "Layout"] "program" (fV 1) (fV 0))
 (fSeq (fSetF [cl "Layout"] "name" (fV 2) (fV 0))
 (fSeq (fSetF [cl "Layout"] "function" (fOwn 2 m_find_function (fCons (fV 1) (fCons (fV 2) (fNil)))) (fV 0))
 (fSeq (fSetF [cl "Layout"] "result" (fOp ixD (fFld [cl "Layout"] "function" (fV 0)) (fC (.int 2))) (fV 0))
 (fSeq (fSetF [cl "Layout"] "nodes" (fOwn 1 m_nodes (fCons (fFld [cl "Layout"] "function" (fV 0)) (fNil))) (fV 0))
 (fSeq (fSetF [cl "Layout"] "heads" (fOwn 1 m_heads (fCons (fFld [cl "Layout"] "function" (fV 0)) (fNil))) (fV 0))
 (fSeq (fSetF [cl "Layout"] "exit" (fCall lenD (fCons (fFld [cl "Layout"] "nodes" (fV 0)) (fNil))) (fV 0))
 (fSeq (fSetF [cl "Layout"] "kinds" (fOwn 2 m_visible_kinds (fCons (fV 1) (fCons (fFld [cl "Layout"] "function" (fV 0)) (fNil)))) (fV 0))
 (fSeq (fSetF [cl "Layout"] "fields" (fDc (fItS (fOp ixD (fV 1) (fC (.int 0)))) (gN 3) (fYes) (fOp ixD (fV 3) (fC (.int 0))) (fCall tupOf (fCons (fLc (fItS (fOp ixD (fV 3) (fC (.int 1)))) (gN 4) (fYes) (fOp ixD (fV 4) (fC (.int 1))) [4]) (fNil))) [3]) (fV 0))
 (fSeq (fSetF [cl "Layout"] "field_names" (fDc (fItS (fOp ixD (fV 1) (fC (.int 0)))) (gN 3) (fYes) (fOp ixD (fV 3) (fC (.int 0))) (fCall tupOf (fCons (fLc (fItS (fOp ixD (fV 3) (fC (.int 1)))) (gN 4) (fYes) (fOp ixD (fV 4) (fC (.int 0))) [4]) (fNil))) [3]) (fV 0))
 (fSeq (fSetF [cl "Layout"] "arrays" (fDc (fItS (fOp ixD (fV 1) (fC (.int 1)))) (gN 5) (fYes) (fOp ixD (fV 5) (fC (.int 0))) (fSl (fV 5) (fPart (fC (.int 1))) (fNo)) [5]) (fV 0))
 (fSeq (fSet (fCall dicOf (fCons (fFld [cl "Layout"] "kinds" (fV 0)) (fNil))) 6)
 (fSeq (fSet (fLc (fItS (fOp ixD (fV 1) (fC (.int 2)))) (gN 8) (fYes) (fOp ixD (fV 8) (fC (.int 0))) [8]) 7)
 (fSeq (fSet (fOp addD (fV 7) (fLc (fItS (fOp ixD (fFld [cl "Layout"] "function" (fV 0)) (fC (.int 1)))) (gN 8) (fYes) (fOp ixD (fV 8) (fC (.int 0))) [8])) 9)
 (fSeq (fSet (fOp addD (fV 9) (fLc (fItS (fOp ixD (fFld [cl "Layout"] "function" (fV 0)) (fC (.int 3)))) (gN 8) (fYes) (fOp ixD (fV 8) (fC (.int 0))) [8])) 10)
 (fSeq (fIfS (fTB (fOp isntD (fFld [cl "Layout"] "result" (fV 0)) (fC .non)))
 (fSeq (fAsg (fFld [cl "Layout"] "result" (fV 0)) (gSb (fV 6) (fC (.str "result"))))
 (fEx (fMt "list" appendD (fV 7) (fCons (fC (.str "result")) (fNil)))))
 (fPass))
 (fSeq (fSetF [cl "Layout"] "discrete" (fOwn 2 m_discrete_names (fCons (fV 10) (fCons (fV 6) (fNil)))) (fV 0))
 (fSeq (fSetF [cl "Layout"] "large" (fOwn 2 m_large_names (fCons (fV 10) (fCons (fV 6) (fNil)))) (fV 0))
 (fSeq (fSetF [cl "Layout"] "entry_discrete" (fOwn 2 m_discrete_names (fCons (fV 9) (fCons (fV 6) (fNil)))) (fV 0))
 (fSeq (fSetF [cl "Layout"] "entry_large" (fOwn 2 m_large_names (fCons (fV 9) (fCons (fV 6) (fNil)))) (fV 0))
 (fSeq (fSetF [cl "Layout"] "exit_discrete" (fOwn 2 m_discrete_names (fCons (fV 7) (fCons (fV 6) (fNil)))) (fV 0))
 (fSeq (fSetF [cl "Layout"] "exit_large" (fOwn 2 m_large_names (fCons (fV 7) (fCons (fV 6) (fNil)))) (fV 0))
 (fSeq (fSetF [cl "Layout"] "ranges" (fOwn 2 m_ranges_of (fCons (fOp addD (fFld [cl "Layout"] "large" (fV 0)) (fFld [cl "Layout"] "entry_large" (fV 0))) (fCons (fV 6) (fNil)))) (fV 0))
 (fSeq (fSetF [cl "Layout"] "exit_ranges" (fOwn 2 m_ranges_of (fCons (fOp addD (fFld [cl "Layout"] "exit_large" (fV 0)) (fFld [cl "Layout"] "entry_large" (fV 0))) (fCons (fV 6) (fNil)))) (fV 0))
 (fSeq (fSetF [cl "Layout"] "discrete_kinds" (fOwn 2 m_kinds_of (fCons (fFld [cl "Layout"] "discrete" (fV 0)) (fCons (fV 6) (fNil)))) (fV 0))
 (fSeq (fSetF [cl "Layout"] "entry_kinds" (fOwn 2 m_kinds_of (fCons (fFld [cl "Layout"] "entry_discrete" (fV 0)) (fCons (fV 6) (fNil)))) (fV 0))
 (fSetF [cl "Layout"] "exit_kinds" (fOwn 2 m_kinds_of (fCons (fFld [cl "Layout"] "exit_discrete" (fV 0)) (fCons (fV 6) (fNil)))) (fV 0)))))))))))))))))))))))))))
noncomputable def m_Layout_init (cl : Str → Addr) : FM := body 3 11 (p_Layout_init cl)
noncomputable def p__law_cell  : FS :=
 fSeq (fIfS (fTB (fOp ltD (fV 1) (fCall lenD (fCons (fV 0) (fNil)))))
 (fRet (fOp ixD (fV 0) (fV 1)))
 (fPass))
 (fRet (fC (.int 0)))
noncomputable def m__law_cell : FM := body 2 2 p__law_cell
noncomputable def p__law_pick  : FS :=
 fSeq (fSet (fOp ixD (fV 0) (fC (.int 2))) 2)
 (fSeq (fAsg (fOp addD (fV 2) (fC (.int 1))) (gSb (fV 0) (fC (.int 2))))
 (fSeq (fIfS (fTB (fOp ltD (fV 1) (fC (.int 2))))
 (fRet (fC (.int 0)))
 (fPass))
 (fSeq (fIfS (fTAnd (fTB (fOp geD (fOp ixD (fV 0) (fC (.int 0))) (fOp powD (fC (.int 10)) (fC (.int 18))))) (fTB (fOp gtD (fOp ixD (fV 0) (fC (.int 1))) (fC (.int 0)))))
 (fSeq (fSet (fOp modD (fCall intD (fCons (fOp ixD (fV 0) (fC (.int 1))) (fNil))) (fV 1)) 3)
 (fSeq (fAsg (fOp fdivD (fOp ixD (fV 0) (fC (.int 1))) (fV 1)) (gSb (fV 0) (fC (.int 1))))
 (fRet (fV 3))))
 (fPass))
 (fSeq (fSet (fOp modD (fCall intD (fCons (fOp addD (fOp addD (fOp ixD (fV 0) (fC (.int 0))) (fOp mulD (fC (.int 7919)) (fV 2))) (fC (.int 13))) (fNil))) (fC (.int 2147483647))) 4)
 (fSeq (fSet (fOp modD (fCall intD (fCons (fOp mulD (fV 4) (fOp addD (fV 4) (fC (.int 48271)))) (fNil))) (fC (.int 2147483629))) 4)
 (fSeq (fSet (fOp modD (fCall intD (fCons (fOp addD (fOp mulD (fV 4) (fOp addD (fV 4) (fC (.int 69621)))) (fOp mulD (fC (.int 31)) (fV 2))) (fNil))) (fC (.int 2147483647))) 4)
 (fRet (fOp modD (fCall intD (fCons (fOp fdivD (fV 4) (fC (.int 9))) (fNil))) (fV 1)))))))))
noncomputable def m__law_pick : FM := body 2 5 p__law_pick
noncomputable def p__law_body (r__law_body : FM) : FS :=
 fSeq (fSet (fTup (fNil)) 4)
 (fSeq (fFor (fRg1 (fOwn 2 m__law_pick (fCons (fV 0) (fCons (fC (.int 4)) (fNil))))) (gN 5)
 (fIfS (fTB (fOp gtD (fOp ixD (fV 1) (fC (.int 0))) (fC (.int 0))))
 (fSeq (fAsg (fOp subD (fOp ixD (fV 1) (fC (.int 0))) (fC (.int 1))) (gSb (fV 1) (fC (.int 0))))
 (fSeq (fSet (fOwn 2 m__law_pick (fCons (fV 0) (fCons (fC (.int 8)) (fNil)))) 6)
 (fSeq (fSet (fTup (fCons (fC (.str "assert")) (fCons (fTup (fCons (fC (.str "flag")) (fCons (fC (.bl true)) (fNil)))) (fNil)))) 7)
 (fSeq (fIfS (fTAnd (fTB (fOp gtD (fV 2) (fC (.int 0)))) (fTB (fOp eqD (fV 6) (fC (.int 0)))))
 (fSet (fTup (fCons (fC (.str "while")) (fCons (fTup (fCons (fC (.str "flag")) (fCons (fC (.bl true)) (fNil)))) (fCons (fOwn 4 r__law_body (fCons (fV 0) (fCons (fV 1) (fCons (fOp subD (fV 2) (fC (.int 1))) (fCons (fC (.bl true)) (fNil)))))) (fNil))))) 7)
 (fIfS (fTAnd (fTB (fOp gtD (fV 2) (fC (.int 0)))) (fTB (fOp ltD (fV 6) (fC (.int 3)))))
 (fSeq (fSet (fOwn 4 r__law_body (fCons (fV 0) (fCons (fV 1) (fCons (fOp subD (fV 2) (fC (.int 1))) (fCons (fV 3) (fNil)))))) 8)
 (fSet (fTup (fCons (fC (.str "if")) (fCons (fTup (fCons (fC (.str "flag")) (fCons (fC (.bl false)) (fNil)))) (fCons (fV 8) (fCons (fOwn 4 r__law_body (fCons (fV 0) (fCons (fV 1) (fCons (fOp subD (fV 2) (fC (.int 1))) (fCons (fV 3) (fNil)))))) (fNil)))))) 7))
 (fIfS (fTAnd (fT (fV 3)) (fTB (fOp ltD (fV 6) (fC (.int 5)))))
 (fSet (fTup (fCons (fC (.str "break")) (fNil))) 7)
 (fPass))))
 (fSet (fOp addD (fV 4) (fTup (fCons (fV 7) (fNil)))) 4)))))
 (fPass)))
 (fRet (fV 4)))
noncomputable def m__law_body : Nat → FM
  | 0 => fun _ _ => .bad
  | n + 1 => body 4 9 (p__law_body (m__law_body n))
noncomputable def p__law_one  : FS :=
 fRet (fOp ixD (fV 1) (fOwn 2 m__law_pick (fCons (fV 0) (fCons (fCall lenD (fCons (fV 1) (fNil))) (fNil)))))
noncomputable def m__law_one : FM := body 2 2 p__law_one
noncomputable def p__law_kind  : FS :=
 fSeq (fSet (fOwn 2 m__law_pick (fCons (fV 0) (fCons (fC (.int 8)) (fNil)))) 3)
 (fSeq (fSet (fOp subD (fOwn 2 m__law_pick (fCons (fV 0) (fCons (fC (.int 30)) (fNil)))) (fC (.int 20))) 4)
 (fSeq (fIfS (fTB (fOp ltD (fV 3) (fC (.int 2))))
 (fRet (fTup (fCons (fC (.str "flag")) (fNil))))
 (fPass))
 (fSeq (fIfS (fTB (fOp ltD (fV 3) (fC (.int 4))))
 (fRet (fTup (fCons (fC (.str "ref")) (fCons (fOwn 2 m__law_one (fCons (fV 0) (fCons (fV 1) (fNil)))) (fNil)))))
 (fPass))
 (fSeq (fIfS (fTOr (fTB (fOp ltD (fV 3) (fC (.int 6)))) (fTNot (fT (fV 2))))
 (fRet (fTup (fCons (fC (.str "num")) (fCons (fV 4) (fCons (fOp addD (fV 4) (fOwn 2 m__law_one (fCons (fV 0) (fCons (fLst (fCons (fC (.int 0)) (fCons (fC (.int 1)) (fCons (fC (.int 6)) (fCons (fC (.int 7)) (fNil)))))) (fNil))))) (fNil))))))
 (fPass))
 (fRet (fTup (fCons (fC (.str "num")) (fCons (fV 4) (fCons (fOp addD (fV 4) (fOwn 2 m__law_one (fCons (fV 0) (fCons (fLst (fCons (fC (.int 8)) (fCons (fC (.int 9)) (fCons (fC (.int 100)) (fCons (fOp subD (fOp powD (fC (.int 10)) (fC (.int 9))) (fC (.int 30))) (fNil)))))) (fNil))))) (fNil))))))))))
noncomputable def m__law_kind : FM := body 3 5 p__law_kind
noncomputable def p__law_names  : FS :=
 fSeq (fSet (fOwn 2 m__law_pick (fCons (fV 0) (fCons (fC (.int 4)) (fNil)))) 1)
 (fSeq (fSet (fLst (fNil)) 2)
 (fSeq (fFor (fRg1 (fC (.int 20))) (gN 3)
 (fSeq (fSet (fOp ixD (fC (.str "bcdeghijklmnopqrtuvw")) (fV 3)) 4)
 (fSeq (fIfS (fTB (fOp eqD (fV 1) (fC (.int 1))))
 (fSet (fOp addD (fV 4) (fC (.str "q7"))) 4)
 (fPass))
 (fSeq (fIfS (fTB (fOp eqD (fV 1) (fC (.int 2))))
 (fSet (fOp addD (fC (.str "zz")) (fV 4)) 4)
 (fPass))
 (fSeq (fIfS (fTB (fOp eqD (fV 1) (fC (.int 3))))
 (fSet (fOp addD (fC (.str "n")) (fCall strD (fCons (fOp addD (fOp mulD (fV 3) (fV 3)) (fC (.int 3))) (fNil)))) 4)
 (fPass))
 (fEx (fMt "list" appendD (fV 2) (fCons (fV 4) (fNil)))))))))
 (fRet (fV 2))))
noncomputable def m__law_names : FM := body 1 5 p__law_names
noncomputable def p__law_is_large  : FS :=
 fRet (fAnd (fOp eqD (fOp ixD (fV 0) (fC (.int 0))) (fC (.str "num"))) (fOp gtD (fOp subD (fOp ixD (fV 0) (fC (.int 2))) (fOp ixD (fV 0) (fC (.int 1)))) (fC (.int 7))))
noncomputable def m__law_is_large : FM := body 1 1 p__law_is_large
noncomputable def p__law_pairs  : FS :=
 fSeq (fSet (fLst (fNil)) 4)
 (fSeq (fFor (fRg1 (fOwn 2 m__law_pick (fCons (fV 0) (fCons (fOp addD (fCall lenD (fCons (fV 1) (fNil))) (fC (.int 1))) (fNil))))) (gN 5)
 (fSeq (fSet (fOwn 3 m__law_kind (fCons (fV 0) (fCons (fV 2) (fCons (fOp gtD (fOp ixD (fV 3) (fC (.int 0))) (fC (.int 0))) (fNil))))) 6)
 (fSeq (fAsg (fOp subD (fOp ixD (fV 3) (fC (.int 0))) (fCall intD (fCons (fOwn 1 m__law_is_large (fCons (fV 6) (fNil))) (fNil)))) (gSb (fV 3) (fC (.int 0))))
 (fEx (fMt "list" appendD (fV 4) (fCons (fTup (fCons (fOp ixD (fV 1) (fV 5)) (fCons (fV 6) (fNil)))) (fNil)))))))
 (fRet (fCall tupOf (fCons (fV 4) (fNil)))))
noncomputable def m__law_pairs : FM := body 4 7 p__law_pairs
noncomputable def p__law_source  : FS :=
 fRet (fLst (fCons (fV 0) (fCons (fV 0) (fCons (fC (.int 0)) (fNil)))))
noncomputable def m__law_source : FM := body 1 1 p__law_source
noncomputable def p__law_drawn  : FS :=
 fSeq (fSet (fOwn 1 m__law_source (fCons (fV 0) (fNil))) 1)
 (fSeq (fSet (fOwn 1 m__law_names (fCons (fV 1) (fNil))) 2)
 (fSeq (fSet (fOwn 2 m__law_pick (fCons (fV 1) (fCons (fC (.int 20)) (fNil)))) 3)
 (fSeq (fSet (fOp addD (fSl (fV 2) (fPart (fV 3)) (fNo)) (fSl (fV 2) (fNo) (fPart (fV 3)))) 2)
 (fSeq (fSet (fSl (fV 2) (fNo) (fPart (fOp addD (fC (.int 1)) (fOwn 2 m__law_pick (fCons (fV 1) (fCons (fC (.int 3)) (fNil))))))) 4)
 (fSeq (fSet (fLst (fNil)) 5)
 (fSeq (fFor (fItS (fV 4)) (gN 6)
 (fSeq (fSet (fLc (fRg1 (fOwn 2 m__law_pick (fCons (fV 1) (fCons (fC (.int 3)) (fNil))))) (gN 8) (fYes) (fTup (fCons (fOp ixD (fV 2) (fOp addD (fC (.int 3)) (fV 8))) (fCons (fTup (fCons (fC (.str "flag")) (fNil))) (fNil)))) [8]) 7)
 (fEx (fMt "list" appendD (fV 5) (fCons (fTup (fCons (fV 6) (fCons (fCall tupOf (fCons (fV 7) (fNil))) (fNil)))) (fNil))))))
 (fSeq (fSet (fLc (fRg1 (fOwn 2 m__law_pick (fCons (fV 1) (fCons (fC (.int 3)) (fNil))))) (gN 8) (fYes) (fTup (fCons (fOp ixD (fV 2) (fOp addD (fC (.int 3)) (fV 8))) (fCons (fOp addD (fC (.int 1)) (fOwn 2 m__law_pick (fCons (fV 1) (fCons (fC (.int 64)) (fNil))))) (fCons (fOp subD (fC (.int 0)) (fV 8)) (fCons (fC (.int 9)) (fNil)))))) [8]) 9)
 (fSeq (fSet (fLst (fCons (fC (.int 2)) (fNil))) 10)
 (fSeq (fSet (fOwn 4 m__law_pairs (fCons (fV 1) (fCons (fSl (fV 2) (fPart (fC (.int 5))) (fPart (fC (.int 9)))) (fCons (fV 4) (fCons (fV 10) (fNil)))))) 11)
 (fSeq (fSet (fLst (fNil)) 12)
 (fSeq (fFor (fItS (fOp addD (fLst (fCons (fC (.str "main")) (fNil))) (fSl (fV 2) (fPart (fC (.int 9))) (fPart (fOp addD (fC (.int 9)) (fOwn 2 m__law_pick (fCons (fV 1) (fCons (fC (.int 4)) (fNil))))))))) (gN 6)
 (fSeq (fSet (fLst (fCons (fOp addD (fOp ixD (fV 10) (fC (.int 0))) (fC (.int 2))) (fNil))) 13)
 (fSeq (fSet (fOwn 4 m__law_pairs (fCons (fV 1) (fCons (fSl (fV 2) (fPart (fC (.int 12))) (fPart (fC (.int 15)))) (fCons (fV 4) (fCons (fV 13) (fNil)))))) 14)
 (fSeq (fSet (fOwn 2 m__law_one (fCons (fV 1) (fCons (fLst (fCons (fC .non) (fCons (fTup (fCons (fC (.str "flag")) (fNil))) (fCons (fTup (fCons (fC (.str "num")) (fCons (fC (.int 0)) (fCons (fC (.int 7)) (fNil))))) (fCons (fOwn 3 m__law_kind (fCons (fV 1) (fCons (fV 4) (fCons (fC (.bl true)) (fNil))))) (fNil)))))) (fNil)))) 15)
 (fSeq (fIfS (fTB (fOp eqD (fV 6) (fC (.str "main"))))
 (fSeq (fSet (fTup (fNil)) 14)
 (fSet (fC .non) 15))
 (fPass))
 (fSeq (fSet (fOwn 4 m__law_pairs (fCons (fV 1) (fCons (fSl (fV 2) (fPart (fC (.int 15))) (fPart (fC (.int 19)))) (fCons (fV 4) (fCons (fV 13) (fNil)))))) 16)
 (fSeq (fSet (fOp addD (fOwn 4 (m__law_body 20) (fCons (fV 1) (fCons (fLst (fCons (fC (.int 8)) (fNil))) (fCons (fC (.int 3)) (fCons (fC (.bl false)) (fNil)))))) (fOwn 4 (m__law_body 20) (fCons (fV 1) (fCons (fLst (fCons (fC (.int 6)) (fNil))) (fCons (fC (.int 3)) (fCons (fC (.bl false)) (fNil))))))) 17)
 (fSeq (fIfS (fTAnd (fTB (fOp isD (fV 15) (fC .non))) (fTB (fOp eqD (fOwn 2 m__law_pick (fCons (fV 1) (fCons (fC (.int 3)) (fNil)))) (fC (.int 0)))))
 (fSet (fOp addD (fV 17) (fTup (fCons (fTup (fCons (fC (.str "return")) (fCons (fC .non) (fNil)))) (fNil)))) 17)
 (fPass))
 (fEx (fMt "list" appendD (fV 12) (fCons (fTup (fCons (fV 6) (fCons (fV 14) (fCons (fV 15) (fCons (fV 16) (fCons (fV 17) (fNil))))))) (fNil))))))))))))
 (fSeq (fSet (fOwn 2 m__law_pick (fCons (fV 1) (fCons (fCall lenD (fCons (fV 12) (fNil))) (fNil)))) 3)
 (fRet (fTup (fCons (fCall tupOf (fCons (fV 5) (fNil))) (fCons (fCall tupOf (fCons (fV 9) (fNil))) (fCons (fV 11) (fCons (fCall tupOf (fCons (fOp addD (fSl (fV 12) (fPart (fV 3)) (fNo)) (fSl (fV 12) (fNo) (fPart (fV 3)))) (fNil))) (fNil)))))))))))))))))))
noncomputable def m__law_drawn : FM := body 1 18 p__law_drawn
noncomputable def p__law_count (r__law_count : FM) : FS :=
 fSeq (fSet (fC (.int 0)) 1)
 (fSeq (fFor (fItS (fV 0)) (gN 2)
 (fSeq (fSet (fOp addD (fV 1) (fC (.int 1))) 1)
 (fSeq (fIfS (fTOr (fTB (fOp eqD (fOp ixD (fV 2) (fC (.int 0))) (fC (.str "while")))) (fTB (fOp eqD (fOp ixD (fV 2) (fC (.int 0))) (fC (.str "if")))))
 (fSet (fOp addD (fV 1) (fOwn 1 r__law_count (fCons (fOp ixD (fV 2) (fC (.int 2))) (fNil)))) 1)
 (fPass))
 (fIfS (fTB (fOp eqD (fOp ixD (fV 2) (fC (.int 0))) (fC (.str "if"))))
 (fSet (fOp addD (fV 1) (fOwn 1 r__law_count (fCons (fOp ixD (fV 2) (fC (.int 3))) (fNil)))) 1)
 (fPass)))))
 (fRet (fV 1)))
noncomputable def m__law_count : Nat → FM
  | 0 => fun _ _ => .bad
  | n + 1 => body 1 3 (p__law_count (m__law_count n))
noncomputable def p__law_some_names  : FS :=
 fRet (fCall tupOf (fCons (fLc (fItS (fV 0)) (gN 2) (fTB (fOp eqD (fOwn 1 m__law_is_large (fCons (fOp ixD (fV 2) (fC (.int 1))) (fNil))) (fV 1))) (fOp ixD (fV 2) (fC (.int 0))) [2]) (fNil)))
noncomputable def m__law_some_names : FM := body 2 3 p__law_some_names
noncomputable def p__law_some_ranges  : FS :=
 fRet (fCall tupOf (fCons (fLc (fItS (fV 0)) (gN 1) (fT (fOwn 1 m__law_is_large (fCons (fOp ixD (fV 1) (fC (.int 1))) (fNil)))) (fTup (fCons (fOp ixD (fOp ixD (fV 1) (fC (.int 1))) (fC (.int 1))) (fCons (fOp ixD (fOp ixD (fV 1) (fC (.int 1))) (fC (.int 2))) (fNil)))) [1]) (fNil)))
noncomputable def m__law_some_ranges : FM := body 1 2 p__law_some_ranges
noncomputable def p__law_due  : FS :=
 fSeq (fSet (fOp addD (fOp ixD (fV 0) (fC (.int 2))) (fOp ixD (fV 1) (fC (.int 1)))) 2)
 (fSeq (fSet (fOp addD (fV 2) (fOp ixD (fV 1) (fC (.int 3)))) 3)
 (fSeq (fSet (fOp ixD (fV 0) (fC (.int 2))) 4)
 (fSeq (fIfS (fTB (fOp isntD (fOp ixD (fV 1) (fC (.int 2))) (fC .non)))
 (fSet (fOp addD (fV 4) (fTup (fCons (fTup (fCons (fC (.str "result")) (fCons (fOp ixD (fV 1) (fC (.int 2))) (fNil)))) (fNil)))) 4)
 (fPass))
 (fSeq (fSet (fLst (fCons (fOp ixD (fV 1) (fC (.int 0))) (fCons (fOp ixD (fV 1) (fC (.int 2))) (fCons (fOwn 1 (m__law_count 20) (fCons (fOp ixD (fV 1) (fC (.int 4))) (fNil))) (fCons (fOwn 2 m__law_some_names (fCons (fV 3) (fCons (fC (.bl false)) (fNil)))) (fCons (fOwn 2 m__law_some_names (fCons (fV 3) (fCons (fC (.bl true)) (fNil)))) (fNil))))))) 5)
 (fSeq (fSet (fOp addD (fV 5) (fLst (fCons (fOwn 2 m__law_some_names (fCons (fV 2) (fCons (fC (.bl false)) (fNil)))) (fCons (fOwn 2 m__law_some_names (fCons (fV 2) (fCons (fC (.bl true)) (fNil)))) (fNil))))) 5)
 (fSeq (fSet (fOp addD (fV 5) (fLst (fCons (fOwn 2 m__law_some_names (fCons (fV 4) (fCons (fC (.bl false)) (fNil)))) (fCons (fOwn 2 m__law_some_names (fCons (fV 4) (fCons (fC (.bl true)) (fNil)))) (fNil))))) 5)
 (fSeq (fSet (fOp addD (fV 5) (fLst (fCons (fOp addD (fOwn 1 m__law_some_ranges (fCons (fV 3) (fNil))) (fOwn 1 m__law_some_ranges (fCons (fV 2) (fNil)))) (fCons (fOp addD (fOwn 1 m__law_some_ranges (fCons (fV 4) (fNil))) (fOwn 1 m__law_some_ranges (fCons (fV 2) (fNil)))) (fNil))))) 5)
 (fRet (fCall tupOf (fCons (fV 5) (fNil)))))))))))
noncomputable def m__law_due : FM := body 2 6 p__law_due
noncomputable def p__law_same (r__law_same : FM) : FS :=
 fSeq (fIfS (fTOr (fT (fUn (isiD "tuple") (fV 1))) (fT (fUn (isiD "list") (fV 1))))
 (fSeq (fIfS (fTOr (fTB (fOp neD (fUn (isiD "tuple") (fV 1)) (fUn (isiD "tuple") (fV 0)))) (fTB (fOp neD (fUn (isiD "list") (fV 1)) (fUn (isiD "list") (fV 0)))))
 (fRet (fC (.bl false)))
 (fPass))
 (fSeq (fIfS (fTB (fOp neD (fCall lenD (fCons (fV 0) (fNil))) (fCall lenD (fCons (fV 1) (fNil)))))
 (fRet (fC (.bl false)))
 (fPass))
 (fSeq (fFor (fRg1 (fCall lenD (fCons (fV 1) (fNil)))) (gN 2)
 (fIfS (fTNot (fT (fOwn 2 r__law_same (fCons (fOp ixD (fV 0) (fV 2)) (fCons (fOp ixD (fV 1) (fV 2)) (fNil))))))
 (fRet (fC (.bl false)))
 (fPass)))
 (fRet (fC (.bl true))))))
 (fPass))
 (fSeq (fIfS (fTB (fOp isD (fV 1) (fC .non)))
 (fRet (fOp isD (fV 0) (fC .non)))
 (fPass))
 (fSeq (fIfS (fT (fUn (isiD "bool") (fV 1)))
 (fRet (fAnd (fUn (isiD "bool") (fV 0)) (fOp eqD (fV 0) (fV 1))))
 (fPass))
 (fSeq (fIfS (fT (fUn (isiD "int") (fV 1)))
 (fRet (fAnd (fUn (isiD "int") (fV 0)) (fAnd (fNot (fUn (isiD "bool") (fV 0))) (fOp eqD (fV 0) (fV 1)))))
 (fPass))
 (fRet (fAnd (fUn (isiD "str") (fV 0)) (fOp eqD (fV 0) (fV 1)))))))
noncomputable def m__law_same : Nat → FM
  | 0 => fun _ _ => .bad
  | n + 1 => body 2 3 (p__law_same (m__law_same n))
noncomputable def p__law_told (cl : Str → Addr)  : FS :=
 fSeq (fSet (fLst (fCons (fFld [cl "Layout"] "name" (fV 0)) (fCons (fFld [cl "Layout"] "result" (fV 0)) (fCons (fFld [cl "Layout"] "exit" (fV 0)) (fCons (fFld [cl "Layout"] "discrete" (fV 0)) (fCons (fFld [cl "Layout"] "large" (fV 0)) (fCons (fFld [cl "Layout"] "entry_discrete" (fV 0)) (fNil)))))))) 1)
 (fSeq (fSet (fOp addD (fV 1) (fLst (fCons (fFld [cl "Layout"] "entry_large" (fV 0)) (fCons (fFld [cl "Layout"] "exit_discrete" (fV 0)) (fCons (fFld [cl "Layout"] "exit_large" (fV 0)) (fCons (fFld [cl "Layout"] "ranges" (fV 0)) (fCons (fFld [cl "Layout"] "exit_ranges" (fV 0)) (fNil)))))))) 1)
 (fRet (fCall tupOf (fCons (fV 1) (fNil)))))
noncomputable def m__law_told (cl : Str → Addr) : FM := body 1 2 (p__law_told cl)
noncomputable def p__law_right (cl : Str → Addr)  : FS :=
 fSeq (fSet (fOp addD (fOp addD (fOp ixD (fV 1) (fC (.int 2))) (fOp ixD (fV 2) (fC (.int 1)))) (fOp ixD (fV 2) (fC (.int 3)))) 3)
 (fSeq (fSet (fFld [cl "Layout"] "kinds" (fV 0)) 4)
 (fSeq (fIfS (fTOr (fTNot (fT (fUn (isiD "dict") (fV 4)))) (fTB (fOp neD (fCall lenD (fCons (fV 4) (fNil))) (fCall lenD (fCons (fV 3) (fNil))))))
 (fRet (fC (.bl false)))
 (fPass))
 (fSeq (fFor (fItS (fV 3)) (gN 5)
 (fIfS (fTOr (fTB (fOp ninD (fOp ixD (fV 5) (fC (.int 0))) (fV 4))) (fTNot (fT (fOwn 2 (m__law_same 20) (fCons (fOp ixD (fV 4) (fOp ixD (fV 5) (fC (.int 0)))) (fCons (fOp ixD (fV 5) (fC (.int 1))) (fNil)))))))
 (fRet (fC (.bl false)))
 (fPass)))
 (fRet (fAnd (fOwn 2 (m__law_same 20) (fCons (fFld [cl "Layout"] "program" (fV 0)) (fCons (fV 1) (fNil)))) (fOwn 2 (m__law_same 20) (fCons (fOwn 1 (m__law_told cl) (fCons (fV 0) (fNil))) (fCons (fOwn 2 m__law_due (fCons (fV 1) (fCons (fV 2) (fNil)))) (fNil)))))))))
noncomputable def m__law_right (cl : Str → Addr) : FM := body 3 6 (p__law_right cl)
noncomputable def p_law (cl : Str → Addr)  : FS :=
 fSeq (fSet (fLst (fNil)) 1)
 (fSeq (fFor (fRg1 (fCall maxD (fCons (fC (.int 2)) (fCons (fCall minD (fCons (fCall lenD (fCons (fV 0) (fNil))) (fCons (fC (.int 6)) (fNil)))) (fNil))))) (gN 2)
 (fSeq (fSet (fOwn 1 m__law_drawn (fCons (fOwn 2 m__law_cell (fCons (fV 0) (fCons (fV 2) (fNil)))) (fNil))) 3)
 (fSet (fOp addD (fV 1) (fLc (fItS (fOp ixD (fV 3) (fC (.int 3)))) (gN 4) (fYes) (fTup (fCons (fV 3) (fCons (fV 4) (fNil)))) [4])) 1)))
 (fSeq (fSet (fLc (fItS (fV 1)) (gN 6) (fYes) (fMake (cl "Layout") 3 (m_Layout_init cl) (fCons (fOp ixD (fV 6) (fC (.int 0))) (fCons (fOp ixD (fOp ixD (fV 6) (fC (.int 1))) (fC (.int 0))) (fNil)))) [6]) 5)
 (fSeq (fFor (fRg1 (fCall lenD (fCons (fV 1) (fNil)))) (gN 7)
 (fIfS (fTNot (fT (fOwn 3 (m__law_right cl) (fCons (fOp ixD (fV 5) (fV 7)) (fCons (fOp ixD (fOp ixD (fV 1) (fV 7)) (fC (.int 0))) (fCons (fOp ixD (fOp ixD (fV 1) (fV 7)) (fC (.int 1))) (fNil)))))))
 (fRet (fC (.bl false)))
 (fPass)))
 (fSeq (fFor (fRg1 (fCall lenD (fCons (fV 1) (fNil)))) (gN 7)
 (fSeq (fSet (fOp subD (fOp subD (fCall lenD (fCons (fV 1) (fNil))) (fC (.int 1))) (fV 7)) 2)
 (fSeq (fSet (fMake (cl "Layout") 3 (m_Layout_init cl) (fCons (fOp ixD (fOp ixD (fV 1) (fV 2)) (fC (.int 0))) (fCons (fOp ixD (fOp ixD (fOp ixD (fV 1) (fV 2)) (fC (.int 1))) (fC (.int 0))) (fNil)))) 8)
 (fIfS (fTOr (fTNot (fT (fOwn 3 (m__law_right cl) (fCons (fV 8) (fCons (fOp ixD (fOp ixD (fV 1) (fV 2)) (fC (.int 0))) (fCons (fOp ixD (fOp ixD (fV 1) (fV 2)) (fC (.int 1))) (fNil))))))) (fTNot (fT (fOwn 3 (m__law_right cl) (fCons (fOp ixD (fV 5) (fV 7)) (fCons (fOp ixD (fOp ixD (fV 1) (fV 7)) (fC (.int 0))) (fCons (fOp ixD (fOp ixD (fV 1) (fV 7)) (fC (.int 1))) (fNil))))))))
 (fRet (fC (.bl false)))
 (fPass)))))
 (fRet (fC (.bl true)))))))
noncomputable def m_law (cl : Str → Addr) : FM := body 1 9 (p_law cl)
/-! ### the walk of each def -/
section
variable {P : Program} {w : World} {K : PySem.W.Frag} {mg : Str → Option Value} {base : Heap} {cl : Str → Addr}
theorem ad_is_large (T : Txt K mg cl) : ADef P w K mg base 1 T.a_is_large T.d_is_large ["kind"] m_is_large :=
 adef T.F_is_large sc_is_large fun cdv A outer s H E hr =>
 ass_one (as_ret (ae_and (ae_cmp (aop_eq hr.units) (ae_ix (hu_of hr) (ae_v 0) (ae_int)) (ae_str)) (ae_one (ae_cmp aop_gt (ae_op aop_sub (ae_ix (hu_of hr) (ae_v 0) (ae_int)) (ae_ix (hu_of hr) (ae_v 0) (ae_int))) (ae_int)))))
theorem ad_is_discrete (T : Txt K mg cl) : ADef P w K mg base 2 T.a_is_discrete T.d_is_discrete ["kind"] m_is_discrete :=
 adef T.F_is_discrete sc_is_discrete fun cdv A outer s H E hr =>
 ass_one (as_ret (ae_not (ae_call (ad_is_large T) (hr.mono (by omega)) (by rfl) T.g_is_large T.F_is_large.kp T.b_is_large (aa_cons (ae_v 0) (aa_nil)))))
theorem ad_discrete_names (T : Txt K mg cl) : ADef P w K mg base 3 T.a_discrete_names T.d_discrete_names ["names", "kinds"] m_discrete_names :=
 adef T.F_discrete_names sc_discrete_names fun cdv A outer s H E hr =>
 ass_one (as_ret (ae_callT acall_tuple (by rfl) T.n_tuple PyProof.Rows.boot_tuple (aa_cons (ae_lc [("name", 2)] (by rfl) sc_discrete_names.nd (ai_seq (ae_v 0)) (blkOk_by (N := n_discrete_names) (sc := defScope s_discrete_names) (by decide +kernel)) (tgt_name (by decide)) (fun _ _ _ _ _ => pg_name (i := 2) sc_discrete_names.nd (by rfl) (by first | exact Or.inl rfl | exact Or.inr rfl)) (fun _ _ _ _ _ => ats_one (at_e (ae_call (ad_is_discrete T) (hr.mono (by omega)) (by rfl) T.g_is_discrete T.F_is_discrete.kp T.b_is_discrete (aa_cons (ae_ix (hu_of hr) (ae_v 1) (ae_v 2)) (aa_nil))))) (fun _ _ _ _ _ => ae_v 2)) (aa_nil))))
theorem ad_find_named (T : Txt K mg cl) : ADef P w K mg base 1 T.a_find_named T.d_find_named ["rows", "name"] m_find_named :=
 adef T.F_find_named sc_find_named fun cdv A outer s H E hr =>
 ass_cons (as_for PassesOwn.never (by rfl) (ai_seq (ae_v 0)) (ag_name sc_find_named.nd)
 (ass_one (as_if (at_cmp (aop_eq hr.units) (ae_ix (hu_of hr) (ae_v 2) (ae_int)) (ae_v 1))
 (ass_one (as_ret (ae_v 2)))
 (ass_nil))))
 (ass_one (as_ret (ae_non)))
theorem ad_find_function (T : Txt K mg cl) : ADef P w K mg base 2 T.a_find_function T.d_find_function ["program", "name"] m_find_function :=
 adef T.F_find_function sc_find_function fun cdv A outer s H E hr =>
 ass_one (as_ret (ae_call (ad_find_named T) (hr.mono (by omega)) (by rfl) T.g_find_named T.F_find_named.kp T.b_find_named (aa_cons (ae_ix (hu_of hr) (ae_v 0) (ae_int)) (aa_cons (ae_v 1) (aa_nil)))))
theorem ad_bodies (T : Txt K mg cl) : ADef P w K mg base 1 T.a_bodies T.d_bodies ["statement"] m_bodies :=
 adef T.F_bodies sc_bodies fun cdv A outer s H E hr =>
 ass_cons (as_if (at_cmp (aop_eq hr.units) (ae_ix (hu_of hr) (ae_v 0) (ae_int)) (ae_str))
 (ass_one (as_ret (ae_tup (aa_cons (ae_ix (hu_of hr) (ae_v 0) (ae_int)) (aa_cons (ae_ix (hu_of hr) (ae_v 0) (ae_int)) (aa_nil))))))
 (ass_nil))
 (ass_cons (as_if (at_cmp (aop_eq hr.units) (ae_ix (hu_of hr) (ae_v 0) (ae_int)) (ae_str))
 (ass_one (as_ret (ae_tup (aa_cons (ae_ix (hu_of hr) (ae_v 0) (ae_int)) (aa_nil)))))
 (ass_nil))
 (ass_one (as_ret (ae_tup (aa_nil)))))
theorem ad_listed (T : Txt K mg cl) : ∀ n : Nat, ADef P w K mg base (n + 1) T.a_listed T.d_listed ["body"] (m_listed n)
  | 0 => adef_bad
  | n + 1 => adef_up (adef T.F_listed sc_listed fun cdv A outer s H E (hr : Room (n + 1) _) =>
 ass_cons (as_set (i := 1) sc_listed.nd (ae_lst (aa_nil)))
 (ass_cons (as_for PassesOwn.never (by rfl) (ai_seq (ae_v 0)) (ag_name sc_listed.nd)
 (ass_cons (as_ex (ae_mt PySem.F.plainAttrs_list PySem.F.slot_list_append PySem.F.type_list_append amt_append (ae_v 1) (aa_cons (ae_v 2) (aa_nil))))
 (ass_one (as_for PassesOwn.never (by rfl) (ai_seq (ae_call (ad_bodies T) (hr.mono (by omega)) (by rfl) T.g_bodies T.F_bodies.kp T.b_bodies (aa_cons (ae_v 2) (aa_nil)))) (ag_name sc_listed.nd)
 (ass_one (as_ex (ae_mt PySem.F.plainAttrs_list PySem.F.slot_list_extend PySem.F.type_list_extend amt_extend (ae_v 1) (aa_cons (ae_call (ad_listed T n) hr (by rfl) T.g_listed T.F_listed.kp T.b_listed (aa_cons (ae_v 3) (aa_nil))) (aa_nil)))))))))
 (ass_one (as_ret (ae_v 1)))))
theorem ad_heads (T : Txt K mg cl) : ADef P w K mg base 22 T.a_heads T.d_heads ["function"] m_heads :=
 adef T.F_heads sc_heads fun cdv A outer s H E hr =>
 ass_one (as_ret (ae_callT acall_tuple (by rfl) T.n_tuple PyProof.Rows.boot_tuple (aa_cons (ae_lc [("place", 1), ("statement", 2)] (by rfl) sc_heads.nd (ai_enumA (by rfl) T.n_enumerate (ae_call (ad_listed T 20) (hr.mono (by omega)) (by rfl) T.g_listed T.F_listed.kp T.b_listed (aa_cons (ae_ix (hu_of hr) (ae_v 0) (ae_int)) (aa_nil)))) (blkOk_by (N := n_heads) (sc := defScope s_heads) (by decide +kernel)) (tgt_tup (tgts_cons (i := 1) (by decide) (tgts_cons (i := 2) (by decide) (tgts_nil)))) (fun _ _ _ _ _ => pg_tup (by rfl) (pgs_cons (pg_name (i := 1) sc_heads.nd (by rfl) (by first | exact Or.inl rfl | exact Or.inr rfl)) (pgs_cons (pg_name (i := 2) sc_heads.nd (by rfl) (by first | exact Or.inl rfl | exact Or.inr rfl)) (pgs_nil)))) (fun _ _ _ _ _ => ats_one (at_cmp (aop_eq hr.units) (ae_ix (hu_of hr) (ae_v 2) (ae_int)) (ae_str))) (fun _ _ _ _ _ => ae_v 1)) (aa_nil))))
theorem ad_kinds_of (T : Txt K mg cl) : ADef P w K mg base 1 T.a_kinds_of T.d_kinds_of ["names", "kinds"] m_kinds_of :=
 adef T.F_kinds_of sc_kinds_of fun cdv A outer s H E hr =>
 ass_one (as_ret (ae_callT acall_tuple (by rfl) T.n_tuple PyProof.Rows.boot_tuple (aa_cons (ae_lc [("name", 2)] (by rfl) sc_kinds_of.nd (ai_seq (ae_v 0)) (blkOk_by (N := n_kinds_of) (sc := defScope s_kinds_of) (by decide +kernel)) (tgt_name (by decide)) (fun _ _ _ _ _ => pg_name (i := 2) sc_kinds_of.nd (by rfl) (by first | exact Or.inl rfl | exact Or.inr rfl)) (fun _ _ _ _ _ => ats_nil) (fun _ _ _ _ _ => ae_ix (hu_of hr) (ae_v 1) (ae_v 2))) (aa_nil))))
theorem ad_large_names (T : Txt K mg cl) : ADef P w K mg base 2 T.a_large_names T.d_large_names ["names", "kinds"] m_large_names :=
 adef T.F_large_names sc_large_names fun cdv A outer s H E hr =>
 ass_one (as_ret (ae_callT acall_tuple (by rfl) T.n_tuple PyProof.Rows.boot_tuple (aa_cons (ae_lc [("name", 2)] (by rfl) sc_large_names.nd (ai_seq (ae_v 0)) (blkOk_by (N := n_large_names) (sc := defScope s_large_names) (by decide +kernel)) (tgt_name (by decide)) (fun _ _ _ _ _ => pg_name (i := 2) sc_large_names.nd (by rfl) (by first | exact Or.inl rfl | exact Or.inr rfl)) (fun _ _ _ _ _ => ats_one (at_e (ae_call (ad_is_large T) (hr.mono (by omega)) (by rfl) T.g_is_large T.F_is_large.kp T.b_is_large (aa_cons (ae_ix (hu_of hr) (ae_v 1) (ae_v 2)) (aa_nil))))) (fun _ _ _ _ _ => ae_v 2)) (aa_nil))))
theorem ad_first_place (T : Txt K mg cl) : ADef P w K mg base 1 T.a_first_place T.d_first_place ["body", "place", "after"] m_first_place :=
 adef T.F_first_place sc_first_place fun cdv A outer s H E hr =>
 ass_cons (as_if (at_cmp (aop_eqNilT hr.units) (ae_v 0) (ae_tup (aa_nil)))
 (ass_one (as_ret (ae_v 2)))
 (ass_nil))
 (ass_one (as_ret (ae_v 1)))
theorem ad_body_nodes_all (T : Txt K mg cl) : ∀ n : Nat, ADef P w K mg base (n + 21) T.a_body_nodes T.d_body_nodes ["body", "place", "after", "out", "end"] (m_body_nodes n) ∧ ADef P w K mg base (n + 21) T.a_statement_nodes T.d_statement_nodes ["statement", "here", "behind", "out", "end"] (m_statement_nodes n)
  | 0 => ⟨adef_bad, adef_bad⟩
  | n + 1 => ⟨adef_up (adef T.F_body_nodes sc_body_nodes fun cdv A outer s H E (hr : Room (n + 21) _) =>
 ass_cons (as_set (i := 5) sc_body_nodes.nd (ae_lst (aa_nil)))
 (ass_cons (as_for PassesOwn.never (by rfl) (ai_enumA (by rfl) T.n_enumerate (ae_v 0)) (ag_tup (by rfl) (ags_cons (ag_name sc_body_nodes.nd) (ags_cons (ag_name sc_body_nodes.nd) (ags_nil))))
 (ass_cons (as_set (i := 8) sc_body_nodes.nd (ae_op aop_add (ae_v 1) (ae_callB acall_len (by rfl) T.n_len PySem.boot_len (aa_cons (ae_v 5) (aa_nil)))))
 (ass_cons (as_set (i := 9) sc_body_nodes.nd (ae_v 2))
 (ass_cons (as_if (at_cmp aop_lt (ae_op aop_add (ae_v 6) (ae_int)) (ae_callB acall_len (by rfl) T.n_len PySem.boot_len (aa_cons (ae_v 0) (aa_nil))))
 (ass_one (as_set (i := 9) sc_body_nodes.nd (ae_op aop_add (ae_v 8) (ae_callB acall_len (by rfl) T.n_len PySem.boot_len (aa_cons (ae_call (ad_listed T 20) (hr.mono (by omega)) (by rfl) T.g_listed T.F_listed.kp T.b_listed (aa_cons (ae_tup (aa_cons (ae_v 7) (aa_nil))) (aa_nil))) (aa_nil))))))
 (ass_nil))
 (ass_one (as_ex (ae_mt PySem.F.plainAttrs_list PySem.F.slot_list_extend PySem.F.type_list_extend amt_extend (ae_v 5) (aa_cons (ae_call ((ad_body_nodes_all T n).2) hr (by rfl) T.g_statement_nodes T.F_statement_nodes.kp T.b_statement_nodes (aa_cons (ae_v 7) (aa_cons (ae_v 8) (aa_cons (ae_v 9) (aa_cons (ae_v 3) (aa_cons (ae_v 4) (aa_nil))))))) (aa_nil)))))))))
 (ass_one (as_ret (ae_v 5))))),
adef_up (adef T.F_statement_nodes sc_statement_nodes fun cdv A outer s H E (hr : Room (n + 21) _) =>
 ass_cons (as_set (i := 5) sc_statement_nodes.nd (ae_ix (hu_of hr) (ae_v 0) (ae_int)))
 (ass_cons (as_if (at_cmp (aop_eq hr.units) (ae_v 5) (ae_str))
 (ass_cons (as_set (i := 6) sc_statement_nodes.nd (ae_call ((ad_body_nodes_all T n).1) hr (by rfl) T.g_body_nodes T.F_body_nodes.kp T.b_body_nodes (aa_cons (ae_ix (hu_of hr) (ae_v 0) (ae_int)) (aa_cons (ae_op aop_add (ae_v 1) (ae_int)) (aa_cons (ae_v 2) (aa_cons (ae_v 3) (aa_cons (ae_v 4) (aa_nil))))))))
 (ass_cons (as_set (i := 7) sc_statement_nodes.nd (ae_op aop_add (ae_op aop_add (ae_v 1) (ae_int)) (ae_callB acall_len (by rfl) T.n_len PySem.boot_len (aa_cons (ae_v 6) (aa_nil)))))
 (ass_cons (as_set (i := 8) sc_statement_nodes.nd (ae_call ((ad_body_nodes_all T n).1) hr (by rfl) T.g_body_nodes T.F_body_nodes.kp T.b_body_nodes (aa_cons (ae_ix (hu_of hr) (ae_v 0) (ae_int)) (aa_cons (ae_v 7) (aa_cons (ae_v 2) (aa_cons (ae_v 3) (aa_cons (ae_v 4) (aa_nil))))))))
 (ass_cons (as_set (i := 9) sc_statement_nodes.nd (ae_call (ad_first_place T) (hr.mono (by omega)) (by rfl) T.g_first_place T.F_first_place.kp T.b_first_place (aa_cons (ae_ix (hu_of hr) (ae_v 0) (ae_int)) (aa_cons (ae_op aop_add (ae_v 1) (ae_int)) (aa_cons (ae_v 2) (aa_nil))))))
 (ass_cons (as_set (i := 10) sc_statement_nodes.nd (ae_tup (aa_cons (ae_tup (aa_cons (ae_str) (aa_cons (ae_ix (hu_of hr) (ae_v 0) (ae_int)) (aa_nil)))) (aa_cons (ae_v 9) (aa_cons (ae_call (ad_first_place T) (hr.mono (by omega)) (by rfl) T.g_first_place T.F_first_place.kp T.b_first_place (aa_cons (ae_ix (hu_of hr) (ae_v 0) (ae_int)) (aa_cons (ae_v 7) (aa_cons (ae_v 2) (aa_nil))))) (aa_nil))))))
 (ass_one (as_ret (ae_op aop_add (ae_op aop_add (ae_lst (aa_cons (ae_v 10) (aa_nil))) (ae_v 6)) (ae_v 8)))))))))
 (ass_nil))
 (ass_cons (as_if (at_cmp (aop_eq hr.units) (ae_v 5) (ae_str))
 (ass_cons (as_set (i := 10) sc_statement_nodes.nd (ae_tup (aa_cons (ae_tup (aa_cons (ae_str) (aa_cons (ae_ix (hu_of hr) (ae_v 0) (ae_int)) (aa_nil)))) (aa_cons (ae_call (ad_first_place T) (hr.mono (by omega)) (by rfl) T.g_first_place T.F_first_place.kp T.b_first_place (aa_cons (ae_ix (hu_of hr) (ae_v 0) (ae_int)) (aa_cons (ae_op aop_add (ae_v 1) (ae_int)) (aa_cons (ae_v 1) (aa_nil))))) (aa_cons (ae_v 2) (aa_nil))))))
 (ass_one (as_ret (ae_op aop_add (ae_lst (aa_cons (ae_v 10) (aa_nil))) (ae_call ((ad_body_nodes_all T n).1) hr (by rfl) T.g_body_nodes T.F_body_nodes.kp T.b_body_nodes (aa_cons (ae_ix (hu_of hr) (ae_v 0) (ae_int)) (aa_cons (ae_op aop_add (ae_v 1) (ae_int)) (aa_cons (ae_v 1) (aa_cons (ae_v 2) (aa_cons (ae_v 4) (aa_nil)))))))))))
 (ass_nil))
 (ass_cons (as_if (at_cmp (aop_eq hr.units) (ae_v 5) (ae_str))
 (ass_one (as_ret (ae_lst (aa_cons (ae_tup (aa_cons (ae_tup (aa_cons (ae_str) (aa_nil))) (aa_cons (ae_v 3) (aa_cons (ae_non) (aa_nil))))) (aa_nil)))))
 (ass_nil))
 (ass_cons (as_if (at_cmp (aop_eq hr.units) (ae_v 5) (ae_str))
 (ass_one (as_ret (ae_lst (aa_cons (ae_tup (aa_cons (ae_v 0) (aa_cons (ae_v 4) (aa_cons (ae_non) (aa_nil))))) (aa_nil)))))
 (ass_nil))
 (ass_one (as_ret (ae_lst (aa_cons (ae_tup (aa_cons (ae_v 0) (aa_cons (ae_v 2) (aa_cons (ae_non) (aa_nil))))) (aa_nil))))))))))⟩
theorem ad_body_nodes (T : Txt K mg cl) (n : Nat) : ADef P w K mg base (n + 21) T.a_body_nodes T.d_body_nodes ["body", "place", "after", "out", "end"] (m_body_nodes n) := (ad_body_nodes_all T n).1
theorem ad_statement_nodes (T : Txt K mg cl) (n : Nat) : ADef P w K mg base (n + 21) T.a_statement_nodes T.d_statement_nodes ["statement", "here", "behind", "out", "end"] (m_statement_nodes n) := (ad_body_nodes_all T n).2
theorem ad_nodes (T : Txt K mg cl) : ADef P w K mg base 42 T.a_nodes T.d_nodes ["function"] m_nodes :=
 adef T.F_nodes sc_nodes fun cdv A outer s H E hr =>
 ass_cons (as_set (i := 1) sc_nodes.nd (ae_callB acall_len (by rfl) T.n_len PySem.boot_len (aa_cons (ae_call (ad_listed T 20) (hr.mono (by omega)) (by rfl) T.g_listed T.F_listed.kp T.b_listed (aa_cons (ae_ix (hu_of hr) (ae_v 0) (ae_int)) (aa_nil))) (aa_nil))))
 (ass_one (as_ret (ae_callT acall_tuple (by rfl) T.n_tuple PyProof.Rows.boot_tuple (aa_cons (ae_call (ad_body_nodes T 20) (hr.mono (by omega)) (by rfl) T.g_body_nodes T.F_body_nodes.kp T.b_body_nodes (aa_cons (ae_ix (hu_of hr) (ae_v 0) (ae_int)) (aa_cons (ae_int) (aa_cons (ae_v 1) (aa_cons (ae_non) (aa_cons (ae_v 1) (aa_nil))))))) (aa_nil)))))
theorem ad_ranges_of (T : Txt K mg cl) : ADef P w K mg base 1 T.a_ranges_of T.d_ranges_of ["names", "kinds"] m_ranges_of :=
 adef T.F_ranges_of sc_ranges_of fun cdv A outer s H E hr =>
 ass_one (as_ret (ae_callT acall_tuple (by rfl) T.n_tuple PyProof.Rows.boot_tuple (aa_cons (ae_lc [("name", 2)] (by rfl) sc_ranges_of.nd (ai_seq (ae_v 0)) (blkOk_by (N := n_ranges_of) (sc := defScope s_ranges_of) (by decide +kernel)) (tgt_name (by decide)) (fun _ _ _ _ _ => pg_name (i := 2) sc_ranges_of.nd (by rfl) (by first | exact Or.inl rfl | exact Or.inr rfl)) (fun _ _ _ _ _ => ats_nil) (fun _ _ _ _ _ => ae_sl (ae_ix (hu_of hr) (ae_v 1) (ae_v 2)) (ao_some (ae_int)) (ao_none))) (aa_nil))))
theorem ad_visible_kinds (T : Txt K mg cl) : ADef P w K mg base 1 T.a_visible_kinds T.d_visible_kinds ["program", "function"] m_visible_kinds :=
 adef T.F_visible_kinds sc_visible_kinds fun cdv A outer s H E hr =>
 ass_cons (as_set (i := 2) sc_visible_kinds.nd (ae_dict0))
 (ass_cons (as_for PassesOwn.never (by rfl) (ai_seq (ae_op aop_add (ae_op aop_add (ae_ix (hu_of hr) (ae_v 0) (ae_int)) (ae_ix (hu_of hr) (ae_v 1) (ae_int))) (ae_ix (hu_of hr) (ae_v 1) (ae_int)))) (ag_tup (by rfl) (ags_cons (ag_name sc_visible_kinds.nd) (ags_cons (ag_name sc_visible_kinds.nd) (ags_nil))))
 (ass_one (as_asg (ae_v 4) (ag_sub (hu_of hr) (ae_v 2) (ae_v 3)))))
 (ass_one (as_ret (ae_v 2))))
theorem ad_Layout_init (T : Txt K mg cl) : ADef P w K mg base 43 T.a_Layout_init T.d_Layout_init ["self", "program", "name"] (m_Layout_init cl) :=
 adef T.F_Layout_init sc_Layout_init fun cdv A outer s H E hr =>
 ass_cons (as_fld (by intro C hC; simp only [List.mem_cons, List.not_mem_nil, or_false] at hC; subst hC; exact ⟨T.c_Layout, T.x_Layout_program⟩) (ae_v 0) (ae_v 1))
 (ass_cons (as_fld (by intro C hC; simp only [List.mem_cons, List.not_mem_nil, or_false] at hC; subst hC; exact ⟨T.c_Layout, T.x_Layout_name⟩) (ae_v 0) (ae_v 2))
 (ass_cons (as_fld (by intro C hC; simp only [List.mem_cons, List.not_mem_nil, or_false] at hC; subst hC; exact ⟨T.c_Layout, T.x_Layout_function⟩) (ae_v 0) (ae_call (ad_find_function T) (hr.mono (by omega)) (by rfl) T.g_find_function T.F_find_function.kp T.b_find_function (aa_cons (ae_v 1) (aa_cons (ae_v 2) (aa_nil)))))
 (ass_cons (as_fld (by intro C hC; simp only [List.mem_cons, List.not_mem_nil, or_false] at hC; subst hC; exact ⟨T.c_Layout, T.x_Layout_result⟩) (ae_v 0) (ae_ix (hu_of hr) (ae_fld (by intro C hC; simp only [List.mem_cons, List.not_mem_nil, or_false] at hC; subst hC; exact ⟨T.c_Layout, T.x_Layout_function⟩) (ae_v 0)) (ae_int)))
 (ass_cons (as_fld (by intro C hC; simp only [List.mem_cons, List.not_mem_nil, or_false] at hC; subst hC; exact ⟨T.c_Layout, T.x_Layout_nodes⟩) (ae_v 0) (ae_call (ad_nodes T) (hr.mono (by omega)) (by rfl) T.g_nodes T.F_nodes.kp T.b_nodes (aa_cons (ae_fld (by intro C hC; simp only [List.mem_cons, List.not_mem_nil, or_false] at hC; subst hC; exact ⟨T.c_Layout, T.x_Layout_function⟩) (ae_v 0)) (aa_nil))))
 (ass_cons (as_fld (by intro C hC; simp only [List.mem_cons, List.not_mem_nil, or_false] at hC; subst hC; exact ⟨T.c_Layout, T.x_Layout_heads⟩) (ae_v 0) (ae_call (ad_heads T) (hr.mono (by omega)) (by rfl) T.g_heads T.F_heads.kp T.b_heads (aa_cons (ae_fld (by intro C hC; simp only [List.mem_cons, List.not_mem_nil, or_false] at hC; subst hC; exact ⟨T.c_Layout, T.x_Layout_function⟩) (ae_v 0)) (aa_nil))))
 (ass_cons (as_fld (by intro C hC; simp only [List.mem_cons, List.not_mem_nil, or_false] at hC; subst hC; exact ⟨T.c_Layout, T.x_Layout_exit⟩) (ae_v 0) (ae_callB acall_len (by rfl) T.n_len PySem.boot_len (aa_cons (ae_fld (by intro C hC; simp only [List.mem_cons, List.not_mem_nil, or_false] at hC; subst hC; exact ⟨T.c_Layout, T.x_Layout_nodes⟩) (ae_v 0)) (aa_nil))))
 (ass_cons (as_fld (by intro C hC; simp only [List.mem_cons, List.not_mem_nil, or_false] at hC; subst hC; exact ⟨T.c_Layout, T.x_Layout_kinds⟩) (ae_v 0) (ae_call (ad_visible_kinds T) (hr.mono (by omega)) (by rfl) T.g_visible_kinds T.F_visible_kinds.kp T.b_visible_kinds (aa_cons (ae_v 1) (aa_cons (ae_fld (by intro C hC; simp only [List.mem_cons, List.not_mem_nil, or_false] at hC; subst hC; exact ⟨T.c_Layout, T.x_Layout_function⟩) (ae_v 0)) (aa_nil)))))
 (ass_cons (as_fld (by intro C hC; simp only [List.mem_cons, List.not_mem_nil, or_false] at hC; subst hC; exact ⟨T.c_Layout, T.x_Layout_fields⟩) (ae_v 0) (ae_dc [("record", 3)] (by rfl) sc_Layout_init.nd (ai_seq (ae_ix (hu_of hr) (ae_v 1) (ae_int))) (blkOk_by (N := n_Layout_init) (sc := defScope s_Layout_init) (by decide +kernel)) (tgt_name (by decide)) (fun _ _ _ _ _ => pg_name (i := 3) sc_Layout_init.nd (by rfl) (by first | exact Or.inl rfl | exact Or.inr rfl)) (fun _ _ _ _ _ => ats_nil) (fun _ _ _ _ _ => ae_ix (hu_of hr) (ae_v 3) (ae_int)) (fun _ _ _ _ _ => ae_callT acall_tuple (by rfl) T.n_tuple PyProof.Rows.boot_tuple (aa_cons (ae_lc [("field", 4)] (by rfl) sc_Layout_init.nd (ai_seq (ae_ix (hu_of hr) (ae_v 3) (ae_int))) (by change BlkOk n_Layout_init (PySem.Scope.mk _ _ _ _ _) _ _; exact blkOk_by (by rfl)) (tgt_name (by decide)) (fun _ _ _ _ _ => pg_name (i := 4) sc_Layout_init.nd (by rfl) (by first | exact Or.inl rfl | exact Or.inr rfl)) (fun _ _ _ _ _ => ats_nil) (fun _ _ _ _ _ => ae_ix (hu_of hr) (ae_v 4) (ae_int))) (aa_nil)))))
 (ass_cons (as_fld (by intro C hC; simp only [List.mem_cons, List.not_mem_nil, or_false] at hC; subst hC; exact ⟨T.c_Layout, T.x_Layout_field_names⟩) (ae_v 0) (ae_dc [("record", 3)] (by rfl) sc_Layout_init.nd (ai_seq (ae_ix (hu_of hr) (ae_v 1) (ae_int))) (blkOk_by (N := n_Layout_init) (sc := defScope s_Layout_init) (by decide +kernel)) (tgt_name (by decide)) (fun _ _ _ _ _ => pg_name (i := 3) sc_Layout_init.nd (by rfl) (by first | exact Or.inl rfl | exact Or.inr rfl)) (fun _ _ _ _ _ => ats_nil) (fun _ _ _ _ _ => ae_ix (hu_of hr) (ae_v 3) (ae_int)) (fun _ _ _ _ _ => ae_callT acall_tuple (by rfl) T.n_tuple PyProof.Rows.boot_tuple (aa_cons (ae_lc [("field", 4)] (by rfl) sc_Layout_init.nd (ai_seq (ae_ix (hu_of hr) (ae_v 3) (ae_int))) (by change BlkOk n_Layout_init (PySem.Scope.mk _ _ _ _ _) _ _; exact blkOk_by (by rfl)) (tgt_name (by decide)) (fun _ _ _ _ _ => pg_name (i := 4) sc_Layout_init.nd (by rfl) (by first | exact Or.inl rfl | exact Or.inr rfl)) (fun _ _ _ _ _ => ats_nil) (fun _ _ _ _ _ => ae_ix (hu_of hr) (ae_v 4) (ae_int))) (aa_nil)))))
 (ass_cons (as_fld (by intro C hC; simp only [List.mem_cons, List.not_mem_nil, or_false] at hC; subst hC; exact ⟨T.c_Layout, T.x_Layout_arrays⟩) (ae_v 0) (ae_dc [("array", 5)] (by rfl) sc_Layout_init.nd (ai_seq (ae_ix (hu_of hr) (ae_v 1) (ae_int))) (blkOk_by (N := n_Layout_init) (sc := defScope s_Layout_init) (by decide +kernel)) (tgt_name (by decide)) (fun _ _ _ _ _ => pg_name (i := 5) sc_Layout_init.nd (by rfl) (by first | exact Or.inl rfl | exact Or.inr rfl)) (fun _ _ _ _ _ => ats_nil) (fun _ _ _ _ _ => ae_ix (hu_of hr) (ae_v 5) (ae_int)) (fun _ _ _ _ _ => ae_sl (ae_v 5) (ao_some (ae_int)) (ao_none))))
 (ass_cons (as_set (i := 6) sc_Layout_init.nd (ae_callT acall_dict (by rfl) T.n_dict PyProof.Rows.boot_dict (aa_cons (ae_fld (by intro C hC; simp only [List.mem_cons, List.not_mem_nil, or_false] at hC; subst hC; exact ⟨T.c_Layout, T.x_Layout_kinds⟩) (ae_v 0)) (aa_nil))))
 (ass_cons (as_setLc [("pair", 8)] (i := 7) (by rfl) sc_Layout_init.nd (ai_seq (ae_ix (hu_of hr) (ae_v 1) (ae_int))) (blkOk_by (N := n_Layout_init) (sc := defScope s_Layout_init) (by decide +kernel)) (tgt_name (by decide)) (fun _ _ _ _ _ => pg_name (i := 8) sc_Layout_init.nd (by rfl) (by first | exact Or.inl rfl | exact Or.inr rfl)) (fun _ _ _ _ _ => ats_nil) (fun _ _ _ _ _ => ae_ix (hu_of hr) (ae_v 8) (ae_int)) (sw_true rfl rfl rfl (by decide +kernel)))
 (ass_cons (as_set (i := 9) sc_Layout_init.nd (ae_op aop_add (ae_v 7) (ae_lc [("pair", 8)] (by rfl) sc_Layout_init.nd (ai_seq (ae_ix (hu_of hr) (ae_fld (by intro C hC; simp only [List.mem_cons, List.not_mem_nil, or_false] at hC; subst hC; exact ⟨T.c_Layout, T.x_Layout_function⟩) (ae_v 0)) (ae_int))) (blkOk_by (N := n_Layout_init) (sc := defScope s_Layout_init) (by decide +kernel)) (tgt_name (by decide)) (fun _ _ _ _ _ => pg_name (i := 8) sc_Layout_init.nd (by rfl) (by first | exact Or.inl rfl | exact Or.inr rfl)) (fun _ _ _ _ _ => ats_nil) (fun _ _ _ _ _ => ae_ix (hu_of hr) (ae_v 8) (ae_int)))))
 (ass_cons (as_set (i := 10) sc_Layout_init.nd (ae_op aop_add (ae_v 9) (ae_lc [("pair", 8)] (by rfl) sc_Layout_init.nd (ai_seq (ae_ix (hu_of hr) (ae_fld (by intro C hC; simp only [List.mem_cons, List.not_mem_nil, or_false] at hC; subst hC; exact ⟨T.c_Layout, T.x_Layout_function⟩) (ae_v 0)) (ae_int))) (blkOk_by (N := n_Layout_init) (sc := defScope s_Layout_init) (by decide +kernel)) (tgt_name (by decide)) (fun _ _ _ _ _ => pg_name (i := 8) sc_Layout_init.nd (by rfl) (by first | exact Or.inl rfl | exact Or.inr rfl)) (fun _ _ _ _ _ => ats_nil) (fun _ _ _ _ _ => ae_ix (hu_of hr) (ae_v 8) (ae_int)))))
 (ass_cons (as_if (at_cmp aop_isnt (ae_fld (by intro C hC; simp only [List.mem_cons, List.not_mem_nil, or_false] at hC; subst hC; exact ⟨T.c_Layout, T.x_Layout_result⟩) (ae_v 0)) (ae_non))
 (ass_cons (as_asg (ae_fld (by intro C hC; simp only [List.mem_cons, List.not_mem_nil, or_false] at hC; subst hC; exact ⟨T.c_Layout, T.x_Layout_result⟩) (ae_v 0)) (ag_sub (hu_of hr) (ae_v 6) (ae_str)))
 (ass_one (as_ex (ae_mt PySem.F.plainAttrs_list PySem.F.slot_list_append PySem.F.type_list_append amt_append (ae_v 7) (aa_cons (ae_str) (aa_nil))))))
 (ass_nil))
 (ass_cons (as_fld (by intro C hC; simp only [List.mem_cons, List.not_mem_nil, or_false] at hC; subst hC; exact ⟨T.c_Layout, T.x_Layout_discrete⟩) (ae_v 0) (ae_call (ad_discrete_names T) (hr.mono (by omega)) (by rfl) T.g_discrete_names T.F_discrete_names.kp T.b_discrete_names (aa_cons (ae_v 10) (aa_cons (ae_v 6) (aa_nil)))))
 (ass_cons (as_fld (by intro C hC; simp only [List.mem_cons, List.not_mem_nil, or_false] at hC; subst hC; exact ⟨T.c_Layout, T.x_Layout_large⟩) (ae_v 0) (ae_call (ad_large_names T) (hr.mono (by omega)) (by rfl) T.g_large_names T.F_large_names.kp T.b_large_names (aa_cons (ae_v 10) (aa_cons (ae_v 6) (aa_nil)))))
 (ass_cons (as_fld (by intro C hC; simp only [List.mem_cons, List.not_mem_nil, or_false] at hC; subst hC; exact ⟨T.c_Layout, T.x_Layout_entry_discrete⟩) (ae_v 0) (ae_call (ad_discrete_names T) (hr.mono (by omega)) (by rfl) T.g_discrete_names T.F_discrete_names.kp T.b_discrete_names (aa_cons (ae_v 9) (aa_cons (ae_v 6) (aa_nil)))))
 (ass_cons (as_fld (by intro C hC; simp only [List.mem_cons, List.not_mem_nil, or_false] at hC; subst hC; exact ⟨T.c_Layout, T.x_Layout_entry_large⟩) (ae_v 0) (ae_call (ad_large_names T) (hr.mono (by omega)) (by rfl) T.g_large_names T.F_large_names.kp T.b_large_names (aa_cons (ae_v 9) (aa_cons (ae_v 6) (aa_nil)))))
 (ass_cons (as_fld (by intro C hC; simp only [List.mem_cons, List.not_mem_nil, or_false] at hC; subst hC; exact ⟨T.c_Layout, T.x_Layout_exit_discrete⟩) (ae_v 0) (ae_call (ad_discrete_names T) (hr.mono (by omega)) (by rfl) T.g_discrete_names T.F_discrete_names.kp T.b_discrete_names (aa_cons (ae_v 7) (aa_cons (ae_v 6) (aa_nil)))))
 (ass_cons (as_fld (by intro C hC; simp only [List.mem_cons, List.not_mem_nil, or_false] at hC; subst hC; exact ⟨T.c_Layout, T.x_Layout_exit_large⟩) (ae_v 0) (ae_call (ad_large_names T) (hr.mono (by omega)) (by rfl) T.g_large_names T.F_large_names.kp T.b_large_names (aa_cons (ae_v 7) (aa_cons (ae_v 6) (aa_nil)))))
 (ass_cons (as_fld (by intro C hC; simp only [List.mem_cons, List.not_mem_nil, or_false] at hC; subst hC; exact ⟨T.c_Layout, T.x_Layout_ranges⟩) (ae_v 0) (ae_call (ad_ranges_of T) (hr.mono (by omega)) (by rfl) T.g_ranges_of T.F_ranges_of.kp T.b_ranges_of (aa_cons (ae_op aop_add (ae_fld (by intro C hC; simp only [List.mem_cons, List.not_mem_nil, or_false] at hC; subst hC; exact ⟨T.c_Layout, T.x_Layout_large⟩) (ae_v 0)) (ae_fld (by intro C hC; simp only [List.mem_cons, List.not_mem_nil, or_false] at hC; subst hC; exact ⟨T.c_Layout, T.x_Layout_entry_large⟩) (ae_v 0))) (aa_cons (ae_v 6) (aa_nil)))))
 (ass_cons (as_fld (by intro C hC; simp only [List.mem_cons, List.not_mem_nil, or_false] at hC; subst hC; exact ⟨T.c_Layout, T.x_Layout_exit_ranges⟩) (ae_v 0) (ae_call (ad_ranges_of T) (hr.mono (by omega)) (by rfl) T.g_ranges_of T.F_ranges_of.kp T.b_ranges_of (aa_cons (ae_op aop_add (ae_fld (by intro C hC; simp only [List.mem_cons, List.not_mem_nil, or_false] at hC; subst hC; exact ⟨T.c_Layout, T.x_Layout_exit_large⟩) (ae_v 0)) (ae_fld (by intro C hC; simp only [List.mem_cons, List.not_mem_nil, or_false] at hC; subst hC; exact ⟨T.c_Layout, T.x_Layout_entry_large⟩) (ae_v 0))) (aa_cons (ae_v 6) (aa_nil)))))
 (ass_cons (as_fld (by intro C hC; simp only [List.mem_cons, List.not_mem_nil, or_false] at hC; subst hC; exact ⟨T.c_Layout, T.x_Layout_discrete_kinds⟩) (ae_v 0) (ae_call (ad_kinds_of T) (hr.mono (by omega)) (by rfl) T.g_kinds_of T.F_kinds_of.kp T.b_kinds_of (aa_cons (ae_fld (by intro C hC; simp only [List.mem_cons, List.not_mem_nil, or_false] at hC; subst hC; exact ⟨T.c_Layout, T.x_Layout_discrete⟩) (ae_v 0)) (aa_cons (ae_v 6) (aa_nil)))))
 (ass_cons (as_fld (by intro C hC; simp only [List.mem_cons, List.not_mem_nil, or_false] at hC; subst hC; exact ⟨T.c_Layout, T.x_Layout_entry_kinds⟩) (ae_v 0) (ae_call (ad_kinds_of T) (hr.mono (by omega)) (by rfl) T.g_kinds_of T.F_kinds_of.kp T.b_kinds_of (aa_cons (ae_fld (by intro C hC; simp only [List.mem_cons, List.not_mem_nil, or_false] at hC; subst hC; exact ⟨T.c_Layout, T.x_Layout_entry_discrete⟩) (ae_v 0)) (aa_cons (ae_v 6) (aa_nil)))))
 (ass_one (as_fld (by intro C hC; simp only [List.mem_cons, List.not_mem_nil, or_false] at hC; subst hC; exact ⟨T.c_Layout, T.x_Layout_exit_kinds⟩) (ae_v 0) (ae_call (ad_kinds_of T) (hr.mono (by omega)) (by rfl) T.g_kinds_of T.F_kinds_of.kp T.b_kinds_of (aa_cons (ae_fld (by intro C hC; simp only [List.mem_cons, List.not_mem_nil, or_false] at hC; subst hC; exact ⟨T.c_Layout, T.x_Layout_exit_discrete⟩) (ae_v 0)) (aa_cons (ae_v 6) (aa_nil)))))))))))))))))))))))))))))))
theorem ad__law_cell (T : Txt K mg cl) : ADef P w K mg base 1 T.a__law_cell T.d__law_cell ["_law_script", "_law_at"] m__law_cell :=
 adef T.F__law_cell sc__law_cell fun cdv A outer s H E hr =>
 ass_cons (as_if (at_cmp aop_lt (ae_v 1) (ae_callB acall_len (by rfl) T.n_len PySem.boot_len (aa_cons (ae_v 0) (aa_nil))))
 (ass_one (as_ret (ae_ix (hu_of hr) (ae_v 0) (ae_v 1))))
 (ass_nil))
 (ass_one (as_ret (ae_int)))
theorem ad__law_pick (T : Txt K mg cl) : ADef P w K mg base 1 T.a__law_pick T.d__law_pick ["_law_source_here", "_law_size"] m__law_pick :=
 adef T.F__law_pick sc__law_pick fun cdv A outer s H E hr =>
 ass_cons (as_set (i := 2) sc__law_pick.nd (ae_ix (hu_of hr) (ae_v 0) (ae_int)))
 (ass_cons (as_asg (ae_op aop_add (ae_v 2) (ae_int)) (ag_sub (hu_of hr) (ae_v 0) (ae_int)))
 (ass_cons (as_if (at_cmp aop_lt (ae_v 1) (ae_int))
 (ass_one (as_ret (ae_int)))
 (ass_nil))
 (ass_cons (as_if ((aw_and (at_cmp aop_ge (ae_ix (hu_of hr) (ae_v 0) (ae_int)) (ae_op aop_pow (ae_int) (ae_int))) (aw_and1 (at_cmp aop_gt (ae_ix (hu_of hr) (ae_v 0) (ae_int)) (ae_int)))).pt)
 (ass_cons (as_set (i := 3) sc__law_pick.nd (ae_op aop_mod (ae_callT acall_int (by rfl) T.n_int PyProof.Rows.boot_int (aa_cons (ae_ix (hu_of hr) (ae_v 0) (ae_int)) (aa_nil))) (ae_v 1)))
 (ass_cons (as_asg (ae_op aop_fdiv (ae_ix (hu_of hr) (ae_v 0) (ae_int)) (ae_v 1)) (ag_sub (hu_of hr) (ae_v 0) (ae_int)))
 (ass_one (as_ret (ae_v 3)))))
 (ass_nil))
 (ass_cons (as_set (i := 4) sc__law_pick.nd (ae_op aop_mod (ae_callT acall_int (by rfl) T.n_int PyProof.Rows.boot_int (aa_cons (ae_op aop_add (ae_op aop_add (ae_ix (hu_of hr) (ae_v 0) (ae_int)) (ae_op aop_mul (ae_int) (ae_v 2))) (ae_int)) (aa_nil))) (ae_int)))
 (ass_cons (as_set (i := 4) sc__law_pick.nd (ae_op aop_mod (ae_callT acall_int (by rfl) T.n_int PyProof.Rows.boot_int (aa_cons (ae_op aop_mul (ae_v 4) (ae_op aop_add (ae_v 4) (ae_int))) (aa_nil))) (ae_int)))
 (ass_cons (as_set (i := 4) sc__law_pick.nd (ae_op aop_mod (ae_callT acall_int (by rfl) T.n_int PyProof.Rows.boot_int (aa_cons (ae_op aop_add (ae_op aop_mul (ae_v 4) (ae_op aop_add (ae_v 4) (ae_int))) (ae_op aop_mul (ae_int) (ae_v 2))) (aa_nil))) (ae_int)))
 (ass_one (as_ret (ae_op aop_mod (ae_callT acall_int (by rfl) T.n_int PyProof.Rows.boot_int (aa_cons (ae_op aop_fdiv (ae_v 4) (ae_int)) (aa_nil))) (ae_v 1))))))))))
theorem ad__law_body (T : Txt K mg cl) : ∀ n : Nat, ADef P w K mg base (n + 1) T.a__law_body T.d__law_body ["_law_source_here", "_law_left", "_law_depth", "_law_loop"] (m__law_body n)
  | 0 => adef_bad
  | n + 1 => adef_up (adef T.F__law_body sc__law_body fun cdv A outer s H E (hr : Room (n + 1) _) =>
 ass_cons (as_set (i := 4) sc__law_body.nd (ae_tup (aa_nil)))
 (ass_cons (as_for PassesOwn.never (by rfl) (ai_rg1 (by rfl) T.n_range (ae_call (ad__law_pick T) (hr.mono (by omega)) (by rfl) T.g__law_pick T.F__law_pick.kp T.b__law_pick (aa_cons (ae_v 0) (aa_cons (ae_int) (aa_nil))))) (ag_name sc__law_body.nd)
 (ass_one (as_if (at_cmp aop_gt (ae_ix (hu_of hr) (ae_v 1) (ae_int)) (ae_int))
 (ass_cons (as_asg (ae_op aop_sub (ae_ix (hu_of hr) (ae_v 1) (ae_int)) (ae_int)) (ag_sub (hu_of hr) (ae_v 1) (ae_int)))
 (ass_cons (as_set (i := 6) sc__law_body.nd (ae_call (ad__law_pick T) (hr.mono (by omega)) (by rfl) T.g__law_pick T.F__law_pick.kp T.b__law_pick (aa_cons (ae_v 0) (aa_cons (ae_int) (aa_nil)))))
 (ass_cons (as_set (i := 7) sc__law_body.nd (ae_tup (aa_cons (ae_str) (aa_cons (ae_tup (aa_cons (ae_str) (aa_cons (ae_bl) (aa_nil)))) (aa_nil)))))
 (ass_cons (as_if ((aw_and (at_cmp aop_gt (ae_v 2) (ae_int)) (aw_and1 (at_cmp (aop_eq hr.units) (ae_v 6) (ae_int)))).pt)
 (ass_one (as_set (i := 7) sc__law_body.nd (ae_tup (aa_cons (ae_str) (aa_cons (ae_tup (aa_cons (ae_str) (aa_cons (ae_bl) (aa_nil)))) (aa_cons (ae_call (ad__law_body T n) hr (by rfl) T.g__law_body T.F__law_body.kp T.b__law_body (aa_cons (ae_v 0) (aa_cons (ae_v 1) (aa_cons (ae_op aop_sub (ae_v 2) (ae_int)) (aa_cons (ae_bl) (aa_nil)))))) (aa_nil)))))))
 (ass_one (as_if ((aw_and (at_cmp aop_gt (ae_v 2) (ae_int)) (aw_and1 (at_cmp aop_lt (ae_v 6) (ae_int)))).pt)
 (ass_cons (as_set (i := 8) sc__law_body.nd (ae_call (ad__law_body T n) hr (by rfl) T.g__law_body T.F__law_body.kp T.b__law_body (aa_cons (ae_v 0) (aa_cons (ae_v 1) (aa_cons (ae_op aop_sub (ae_v 2) (ae_int)) (aa_cons (ae_v 3) (aa_nil)))))))
 (ass_one (as_set (i := 7) sc__law_body.nd (ae_tup (aa_cons (ae_str) (aa_cons (ae_tup (aa_cons (ae_str) (aa_cons (ae_bl) (aa_nil)))) (aa_cons (ae_v 8) (aa_cons (ae_call (ad__law_body T n) hr (by rfl) T.g__law_body T.F__law_body.kp T.b__law_body (aa_cons (ae_v 0) (aa_cons (ae_v 1) (aa_cons (ae_op aop_sub (ae_v 2) (ae_int)) (aa_cons (ae_v 3) (aa_nil)))))) (aa_nil)))))))))
 (ass_one (as_if ((aw_and (at_e (ae_v 3)) (aw_and1 (at_cmp aop_lt (ae_v 6) (ae_int)))).pt)
 (ass_one (as_set (i := 7) sc__law_body.nd (ae_tup (aa_cons (ae_str) (aa_nil)))))
 (ass_nil))))))
 (ass_one (as_set (i := 4) sc__law_body.nd (ae_op aop_add (ae_v 4) (ae_tup (aa_cons (ae_v 7) (aa_nil))))))))))
 (ass_nil))))
 (ass_one (as_ret (ae_v 4)))))
theorem ad__law_one (T : Txt K mg cl) : ADef P w K mg base 2 T.a__law_one T.d__law_one ["_law_source_here", "_law_row"] m__law_one :=
 adef T.F__law_one sc__law_one fun cdv A outer s H E hr =>
 ass_one (as_ret (ae_ix (hu_of hr) (ae_v 1) (ae_call (ad__law_pick T) (hr.mono (by omega)) (by rfl) T.g__law_pick T.F__law_pick.kp T.b__law_pick (aa_cons (ae_v 0) (aa_cons (ae_callB acall_len (by rfl) T.n_len PySem.boot_len (aa_cons (ae_v 1) (aa_nil))) (aa_nil))))))
theorem ad__law_kind (T : Txt K mg cl) : ADef P w K mg base 3 T.a__law_kind T.d__law_kind ["_law_source_here", "_law_records", "_law_large"] m__law_kind :=
 adef T.F__law_kind sc__law_kind fun cdv A outer s H E hr =>
 ass_cons (as_set (i := 3) sc__law_kind.nd (ae_call (ad__law_pick T) (hr.mono (by omega)) (by rfl) T.g__law_pick T.F__law_pick.kp T.b__law_pick (aa_cons (ae_v 0) (aa_cons (ae_int) (aa_nil)))))
 (ass_cons (as_set (i := 4) sc__law_kind.nd (ae_op aop_sub (ae_call (ad__law_pick T) (hr.mono (by omega)) (by rfl) T.g__law_pick T.F__law_pick.kp T.b__law_pick (aa_cons (ae_v 0) (aa_cons (ae_int) (aa_nil)))) (ae_int)))
 (ass_cons (as_if (at_cmp aop_lt (ae_v 3) (ae_int))
 (ass_one (as_ret (ae_tup (aa_cons (ae_str) (aa_nil)))))
 (ass_nil))
 (ass_cons (as_if (at_cmp aop_lt (ae_v 3) (ae_int))
 (ass_one (as_ret (ae_tup (aa_cons (ae_str) (aa_cons (ae_call (ad__law_one T) (hr.mono (by omega)) (by rfl) T.g__law_one T.F__law_one.kp T.b__law_one (aa_cons (ae_v 0) (aa_cons (ae_v 1) (aa_nil)))) (aa_nil))))))
 (ass_nil))
 (ass_cons (as_if ((aw_or (at_cmp aop_lt (ae_v 3) (ae_int)) (aw_or1 (at_not (at_e (ae_v 2))))).pt)
 (ass_one (as_ret (ae_tup (aa_cons (ae_str) (aa_cons (ae_v 4) (aa_cons (ae_op aop_add (ae_v 4) (ae_call (ad__law_one T) (hr.mono (by omega)) (by rfl) T.g__law_one T.F__law_one.kp T.b__law_one (aa_cons (ae_v 0) (aa_cons (ae_lst (aa_cons (ae_int) (aa_cons (ae_int) (aa_cons (ae_int) (aa_cons (ae_int) (aa_nil)))))) (aa_nil))))) (aa_nil)))))))
 (ass_nil))
 (ass_one (as_ret (ae_tup (aa_cons (ae_str) (aa_cons (ae_v 4) (aa_cons (ae_op aop_add (ae_v 4) (ae_call (ad__law_one T) (hr.mono (by omega)) (by rfl) T.g__law_one T.F__law_one.kp T.b__law_one (aa_cons (ae_v 0) (aa_cons (ae_lst (aa_cons (ae_int) (aa_cons (ae_int) (aa_cons (ae_int) (aa_cons (ae_op aop_sub (ae_op aop_pow (ae_int) (ae_int)) (ae_int)) (aa_nil)))))) (aa_nil))))) (aa_nil)))))))))))
theorem ad__law_names (T : Txt K mg cl) : ADef P w K mg base 2 T.a__law_names T.d__law_names ["_law_source_here"] m__law_names :=
 adef T.F__law_names sc__law_names fun cdv A outer s H E hr =>
 ass_cons (as_set (i := 1) sc__law_names.nd (ae_call (ad__law_pick T) (hr.mono (by omega)) (by rfl) T.g__law_pick T.F__law_pick.kp T.b__law_pick (aa_cons (ae_v 0) (aa_cons (ae_int) (aa_nil)))))
 (ass_cons (as_set (i := 2) sc__law_names.nd (ae_lst (aa_nil)))
 (ass_cons (as_for PassesOwn.never (by rfl) (ai_rg1 (by rfl) T.n_range (ae_int)) (ag_name sc__law_names.nd)
 (ass_cons (as_set (i := 4) sc__law_names.nd (ae_ix (hu_of hr) (ae_str) (ae_v 3)))
 (ass_cons (as_if (at_cmp (aop_eq hr.units) (ae_v 1) (ae_int))
 (ass_one (as_set (i := 4) sc__law_names.nd (ae_op aop_add (ae_v 4) (ae_str))))
 (ass_nil))
 (ass_cons (as_if (at_cmp (aop_eq hr.units) (ae_v 1) (ae_int))
 (ass_one (as_set (i := 4) sc__law_names.nd (ae_op aop_add (ae_str) (ae_v 4))))
 (ass_nil))
 (ass_cons (as_if (at_cmp (aop_eq hr.units) (ae_v 1) (ae_int))
 (ass_one (as_set (i := 4) sc__law_names.nd (ae_op aop_add (ae_str) (ae_callT acall_str (by rfl) T.n_str PyProof.Rows.boot_str (aa_cons (ae_op aop_add (ae_op aop_mul (ae_v 3) (ae_v 3)) (ae_int)) (aa_nil))))))
 (ass_nil))
 (ass_one (as_ex (ae_mt PySem.F.plainAttrs_list PySem.F.slot_list_append PySem.F.type_list_append amt_append (ae_v 2) (aa_cons (ae_v 4) (aa_nil))))))))))
 (ass_one (as_ret (ae_v 2)))))
theorem ad__law_is_large (T : Txt K mg cl) : ADef P w K mg base 1 T.a__law_is_large T.d__law_is_large ["_law_kind_here"] m__law_is_large :=
 adef T.F__law_is_large sc__law_is_large fun cdv A outer s H E hr =>
 ass_one (as_ret (ae_and (ae_cmp (aop_eq hr.units) (ae_ix (hu_of hr) (ae_v 0) (ae_int)) (ae_str)) (ae_one (ae_cmp aop_gt (ae_op aop_sub (ae_ix (hu_of hr) (ae_v 0) (ae_int)) (ae_ix (hu_of hr) (ae_v 0) (ae_int))) (ae_int)))))
theorem ad__law_pairs (T : Txt K mg cl) : ADef P w K mg base 4 T.a__law_pairs T.d__law_pairs ["_law_source_here", "_law_names_here", "_law_records", "_law_room"] m__law_pairs :=
 adef T.F__law_pairs sc__law_pairs fun cdv A outer s H E hr =>
 ass_cons (as_set (i := 4) sc__law_pairs.nd (ae_lst (aa_nil)))
 (ass_cons (as_for PassesOwn.never (by rfl) (ai_rg1 (by rfl) T.n_range (ae_call (ad__law_pick T) (hr.mono (by omega)) (by rfl) T.g__law_pick T.F__law_pick.kp T.b__law_pick (aa_cons (ae_v 0) (aa_cons (ae_op aop_add (ae_callB acall_len (by rfl) T.n_len PySem.boot_len (aa_cons (ae_v 1) (aa_nil))) (ae_int)) (aa_nil))))) (ag_name sc__law_pairs.nd)
 (ass_cons (as_set (i := 6) sc__law_pairs.nd (ae_call (ad__law_kind T) (hr.mono (by omega)) (by rfl) T.g__law_kind T.F__law_kind.kp T.b__law_kind (aa_cons (ae_v 0) (aa_cons (ae_v 2) (aa_cons (ae_cmp aop_gt (ae_ix (hu_of hr) (ae_v 3) (ae_int)) (ae_int)) (aa_nil))))))
 (ass_cons (as_asg (ae_op aop_sub (ae_ix (hu_of hr) (ae_v 3) (ae_int)) (ae_callT acall_int (by rfl) T.n_int PyProof.Rows.boot_int (aa_cons (ae_call (ad__law_is_large T) (hr.mono (by omega)) (by rfl) T.g__law_is_large T.F__law_is_large.kp T.b__law_is_large (aa_cons (ae_v 6) (aa_nil))) (aa_nil)))) (ag_sub (hu_of hr) (ae_v 3) (ae_int)))
 (ass_one (as_ex (ae_mt PySem.F.plainAttrs_list PySem.F.slot_list_append PySem.F.type_list_append amt_append (ae_v 4) (aa_cons (ae_tup (aa_cons (ae_ix (hu_of hr) (ae_v 1) (ae_v 5)) (aa_cons (ae_v 6) (aa_nil)))) (aa_nil))))))))
 (ass_one (as_ret (ae_callT acall_tuple (by rfl) T.n_tuple PyProof.Rows.boot_tuple (aa_cons (ae_v 4) (aa_nil))))))
theorem ad__law_source (T : Txt K mg cl) : ADef P w K mg base 1 T.a__law_source T.d__law_source ["_law_cell_here"] m__law_source :=
 adef T.F__law_source sc__law_source fun cdv A outer s H E hr =>
 ass_one (as_ret (ae_lst (aa_cons (ae_v 0) (aa_cons (ae_v 0) (aa_cons (ae_int) (aa_nil))))))
theorem ad__law_drawn (T : Txt K mg cl) : ADef P w K mg base 22 T.a__law_drawn T.d__law_drawn ["_law_cell_here"] m__law_drawn :=
 adef T.F__law_drawn sc__law_drawn fun cdv A outer s H E hr =>
 ass_cons (as_set (i := 1) sc__law_drawn.nd (ae_call (ad__law_source T) (hr.mono (by omega)) (by rfl) T.g__law_source T.F__law_source.kp T.b__law_source (aa_cons (ae_v 0) (aa_nil))))
 (ass_cons (as_set (i := 2) sc__law_drawn.nd (ae_call (ad__law_names T) (hr.mono (by omega)) (by rfl) T.g__law_names T.F__law_names.kp T.b__law_names (aa_cons (ae_v 1) (aa_nil))))
 (ass_cons (as_set (i := 3) sc__law_drawn.nd (ae_call (ad__law_pick T) (hr.mono (by omega)) (by rfl) T.g__law_pick T.F__law_pick.kp T.b__law_pick (aa_cons (ae_v 1) (aa_cons (ae_int) (aa_nil)))))
 (ass_cons (as_set (i := 2) sc__law_drawn.nd (ae_op aop_add (ae_sl (ae_v 2) (ao_some (ae_v 3)) (ao_none)) (ae_sl (ae_v 2) (ao_none) (ao_some (ae_v 3)))))
 (ass_cons (as_set (i := 4) sc__law_drawn.nd (ae_sl (ae_v 2) (ao_none) (ao_some (ae_op aop_add (ae_int) (ae_call (ad__law_pick T) (hr.mono (by omega)) (by rfl) T.g__law_pick T.F__law_pick.kp T.b__law_pick (aa_cons (ae_v 1) (aa_cons (ae_int) (aa_nil))))))))
 (ass_cons (as_set (i := 5) sc__law_drawn.nd (ae_lst (aa_nil)))
 (ass_cons (as_for PassesOwn.never (by rfl) (ai_seq (ae_v 4)) (ag_name sc__law_drawn.nd)
 (ass_cons (as_setLc [("_law_k", 8)] (i := 7) (by rfl) sc__law_drawn.nd (ai_rg1 (by rfl) T.n_range (ae_call (ad__law_pick T) (hr.mono (by omega)) (by rfl) T.g__law_pick T.F__law_pick.kp T.b__law_pick (aa_cons (ae_v 1) (aa_cons (ae_int) (aa_nil))))) (blkOk_by (N := n__law_drawn) (sc := defScope s__law_drawn) (by decide +kernel)) (tgt_name (by decide)) (fun _ _ _ _ _ => pg_name (i := 8) sc__law_drawn.nd (by rfl) (by first | exact Or.inl rfl | exact Or.inr rfl)) (fun _ _ _ _ _ => ats_nil) (fun _ _ _ _ _ => ae_tup (aa_cons (ae_ix (hu_of hr) (ae_v 2) (ae_op aop_add (ae_int) (ae_v 8))) (aa_cons (ae_tup (aa_cons (ae_str) (aa_nil))) (aa_nil)))) (sw_true rfl rfl rfl (by decide +kernel)))
 (ass_one (as_ex (ae_mt PySem.F.plainAttrs_list PySem.F.slot_list_append PySem.F.type_list_append amt_append (ae_v 5) (aa_cons (ae_tup (aa_cons (ae_v 6) (aa_cons (ae_callT acall_tuple (by rfl) T.n_tuple PyProof.Rows.boot_tuple (aa_cons (ae_v 7) (aa_nil))) (aa_nil)))) (aa_nil)))))))
 (ass_cons (as_setLc [("_law_k", 8)] (i := 9) (by rfl) sc__law_drawn.nd (ai_rg1 (by rfl) T.n_range (ae_call (ad__law_pick T) (hr.mono (by omega)) (by rfl) T.g__law_pick T.F__law_pick.kp T.b__law_pick (aa_cons (ae_v 1) (aa_cons (ae_int) (aa_nil))))) (blkOk_by (N := n__law_drawn) (sc := defScope s__law_drawn) (by decide +kernel)) (tgt_name (by decide)) (fun _ _ _ _ _ => pg_name (i := 8) sc__law_drawn.nd (by rfl) (by first | exact Or.inl rfl | exact Or.inr rfl)) (fun _ _ _ _ _ => ats_nil) (fun _ _ _ _ _ => ae_tup (aa_cons (ae_ix (hu_of hr) (ae_v 2) (ae_op aop_add (ae_int) (ae_v 8))) (aa_cons (ae_op aop_add (ae_int) (ae_call (ad__law_pick T) (hr.mono (by omega)) (by rfl) T.g__law_pick T.F__law_pick.kp T.b__law_pick (aa_cons (ae_v 1) (aa_cons (ae_int) (aa_nil))))) (aa_cons (ae_op aop_sub (ae_int) (ae_v 8)) (aa_cons (ae_int) (aa_nil)))))) (sw_true rfl rfl rfl (by decide +kernel)))
 (ass_cons (as_set (i := 10) sc__law_drawn.nd (ae_lst (aa_cons (ae_int) (aa_nil))))
 (ass_cons (as_set (i := 11) sc__law_drawn.nd (ae_call (ad__law_pairs T) (hr.mono (by omega)) (by rfl) T.g__law_pairs T.F__law_pairs.kp T.b__law_pairs (aa_cons (ae_v 1) (aa_cons (ae_sl (ae_v 2) (ao_some (ae_int)) (ao_some (ae_int))) (aa_cons (ae_v 4) (aa_cons (ae_v 10) (aa_nil)))))))
 (ass_cons (as_set (i := 12) sc__law_drawn.nd (ae_lst (aa_nil)))
 (ass_cons (as_for PassesOwn.never (by rfl) (ai_seq (ae_op aop_add (ae_lst (aa_cons (ae_str) (aa_nil))) (ae_sl (ae_v 2) (ao_some (ae_int)) (ao_some (ae_op aop_add (ae_int) (ae_call (ad__law_pick T) (hr.mono (by omega)) (by rfl) T.g__law_pick T.F__law_pick.kp T.b__law_pick (aa_cons (ae_v 1) (aa_cons (ae_int) (aa_nil))))))))) (ag_name sc__law_drawn.nd)
 (ass_cons (as_set (i := 13) sc__law_drawn.nd (ae_lst (aa_cons (ae_op aop_add (ae_ix (hu_of hr) (ae_v 10) (ae_int)) (ae_int)) (aa_nil))))
 (ass_cons (as_set (i := 14) sc__law_drawn.nd (ae_call (ad__law_pairs T) (hr.mono (by omega)) (by rfl) T.g__law_pairs T.F__law_pairs.kp T.b__law_pairs (aa_cons (ae_v 1) (aa_cons (ae_sl (ae_v 2) (ao_some (ae_int)) (ao_some (ae_int))) (aa_cons (ae_v 4) (aa_cons (ae_v 13) (aa_nil)))))))
 (ass_cons (as_set (i := 15) sc__law_drawn.nd (ae_call (ad__law_one T) (hr.mono (by omega)) (by rfl) T.g__law_one T.F__law_one.kp T.b__law_one (aa_cons (ae_v 1) (aa_cons (ae_lst (aa_cons (ae_non) (aa_cons (ae_tup (aa_cons (ae_str) (aa_nil))) (aa_cons (ae_tup (aa_cons (ae_str) (aa_cons (ae_int) (aa_cons (ae_int) (aa_nil))))) (aa_cons (ae_call (ad__law_kind T) (hr.mono (by omega)) (by rfl) T.g__law_kind T.F__law_kind.kp T.b__law_kind (aa_cons (ae_v 1) (aa_cons (ae_v 4) (aa_cons (ae_bl) (aa_nil))))) (aa_nil)))))) (aa_nil)))))
 (ass_cons (as_if (at_cmp (aop_eq hr.units) (ae_v 6) (ae_str))
 (ass_cons (as_set (i := 14) sc__law_drawn.nd (ae_tup (aa_nil)))
 (ass_one (as_set (i := 15) sc__law_drawn.nd (ae_non))))
 (ass_nil))
 (ass_cons (as_set (i := 16) sc__law_drawn.nd (ae_call (ad__law_pairs T) (hr.mono (by omega)) (by rfl) T.g__law_pairs T.F__law_pairs.kp T.b__law_pairs (aa_cons (ae_v 1) (aa_cons (ae_sl (ae_v 2) (ao_some (ae_int)) (ao_some (ae_int))) (aa_cons (ae_v 4) (aa_cons (ae_v 13) (aa_nil)))))))
 (ass_cons (as_set (i := 17) sc__law_drawn.nd (ae_op aop_add (ae_call (ad__law_body T 20) (hr.mono (by omega)) (by rfl) T.g__law_body T.F__law_body.kp T.b__law_body (aa_cons (ae_v 1) (aa_cons (ae_lst (aa_cons (ae_int) (aa_nil))) (aa_cons (ae_int) (aa_cons (ae_bl) (aa_nil)))))) (ae_call (ad__law_body T 20) (hr.mono (by omega)) (by rfl) T.g__law_body T.F__law_body.kp T.b__law_body (aa_cons (ae_v 1) (aa_cons (ae_lst (aa_cons (ae_int) (aa_nil))) (aa_cons (ae_int) (aa_cons (ae_bl) (aa_nil))))))))
 (ass_cons (as_if ((aw_and (at_cmp aop_is (ae_v 15) (ae_non)) (aw_and1 (at_cmp (aop_eq hr.units) (ae_call (ad__law_pick T) (hr.mono (by omega)) (by rfl) T.g__law_pick T.F__law_pick.kp T.b__law_pick (aa_cons (ae_v 1) (aa_cons (ae_int) (aa_nil)))) (ae_int)))).pt)
 (ass_one (as_set (i := 17) sc__law_drawn.nd (ae_op aop_add (ae_v 17) (ae_tup (aa_cons (ae_tup (aa_cons (ae_str) (aa_cons (ae_non) (aa_nil)))) (aa_nil))))))
 (ass_nil))
 (ass_one (as_ex (ae_mt PySem.F.plainAttrs_list PySem.F.slot_list_append PySem.F.type_list_append amt_append (ae_v 12) (aa_cons (ae_tup (aa_cons (ae_v 6) (aa_cons (ae_v 14) (aa_cons (ae_v 15) (aa_cons (ae_v 16) (aa_cons (ae_v 17) (aa_nil))))))) (aa_nil)))))))))))))
 (ass_cons (as_set (i := 3) sc__law_drawn.nd (ae_call (ad__law_pick T) (hr.mono (by omega)) (by rfl) T.g__law_pick T.F__law_pick.kp T.b__law_pick (aa_cons (ae_v 1) (aa_cons (ae_callB acall_len (by rfl) T.n_len PySem.boot_len (aa_cons (ae_v 12) (aa_nil))) (aa_nil)))))
 (ass_one (as_ret (ae_tup (aa_cons (ae_callT acall_tuple (by rfl) T.n_tuple PyProof.Rows.boot_tuple (aa_cons (ae_v 5) (aa_nil))) (aa_cons (ae_callT acall_tuple (by rfl) T.n_tuple PyProof.Rows.boot_tuple (aa_cons (ae_v 9) (aa_nil))) (aa_cons (ae_v 11) (aa_cons (ae_callT acall_tuple (by rfl) T.n_tuple PyProof.Rows.boot_tuple (aa_cons (ae_op aop_add (ae_sl (ae_v 12) (ao_some (ae_v 3)) (ao_none)) (ae_sl (ae_v 12) (ao_none) (ao_some (ae_v 3)))) (aa_nil))) (aa_nil))))))))))))))))))))
theorem ad__law_count (T : Txt K mg cl) : ∀ n : Nat, ADef P w K mg base (n + 0) T.a__law_count T.d__law_count ["_law_body_here"] (m__law_count n)
  | 0 => adef_bad
  | n + 1 => adef_up (adef T.F__law_count sc__law_count fun cdv A outer s H E (hr : Room (n + 0) _) =>
 ass_cons (as_set (i := 1) sc__law_count.nd (ae_int))
 (ass_cons (as_for PassesOwn.never (by rfl) (ai_seq (ae_v 0)) (ag_name sc__law_count.nd)
 (ass_cons (as_set (i := 1) sc__law_count.nd (ae_op aop_add (ae_v 1) (ae_int)))
 (ass_cons (as_if ((aw_or (at_cmp (aop_eq hr.units) (ae_ix (hu_of hr) (ae_v 2) (ae_int)) (ae_str)) (aw_or1 (at_cmp (aop_eq hr.units) (ae_ix (hu_of hr) (ae_v 2) (ae_int)) (ae_str)))).pt)
 (ass_one (as_set (i := 1) sc__law_count.nd (ae_op aop_add (ae_v 1) (ae_call (ad__law_count T n) hr (by rfl) T.g__law_count T.F__law_count.kp T.b__law_count (aa_cons (ae_ix (hu_of hr) (ae_v 2) (ae_int)) (aa_nil))))))
 (ass_nil))
 (ass_one (as_if (at_cmp (aop_eq hr.units) (ae_ix (hu_of hr) (ae_v 2) (ae_int)) (ae_str))
 (ass_one (as_set (i := 1) sc__law_count.nd (ae_op aop_add (ae_v 1) (ae_call (ad__law_count T n) hr (by rfl) T.g__law_count T.F__law_count.kp T.b__law_count (aa_cons (ae_ix (hu_of hr) (ae_v 2) (ae_int)) (aa_nil))))))
 (ass_nil))))))
 (ass_one (as_ret (ae_v 1)))))
theorem ad__law_some_names (T : Txt K mg cl) : ADef P w K mg base 2 T.a__law_some_names T.d__law_some_names ["_law_pairs_here", "_law_large"] m__law_some_names :=
 adef T.F__law_some_names sc__law_some_names fun cdv A outer s H E hr =>
 ass_one (as_ret (ae_callT acall_tuple (by rfl) T.n_tuple PyProof.Rows.boot_tuple (aa_cons (ae_lc [("_law_pair", 2)] (by rfl) sc__law_some_names.nd (ai_seq (ae_v 0)) (blkOk_by (N := n__law_some_names) (sc := defScope s__law_some_names) (by decide +kernel)) (tgt_name (by decide)) (fun _ _ _ _ _ => pg_name (i := 2) sc__law_some_names.nd (by rfl) (by first | exact Or.inl rfl | exact Or.inr rfl)) (fun _ _ _ _ _ => ats_one (at_cmp (aop_eq hr.units) (ae_call (ad__law_is_large T) (hr.mono (by omega)) (by rfl) T.g__law_is_large T.F__law_is_large.kp T.b__law_is_large (aa_cons (ae_ix (hu_of hr) (ae_v 2) (ae_int)) (aa_nil))) (ae_v 1))) (fun _ _ _ _ _ => ae_ix (hu_of hr) (ae_v 2) (ae_int))) (aa_nil))))
theorem ad__law_some_ranges (T : Txt K mg cl) : ADef P w K mg base 2 T.a__law_some_ranges T.d__law_some_ranges ["_law_pairs_here"] m__law_some_ranges :=
 adef T.F__law_some_ranges sc__law_some_ranges fun cdv A outer s H E hr =>
 ass_one (as_ret (ae_callT acall_tuple (by rfl) T.n_tuple PyProof.Rows.boot_tuple (aa_cons (ae_lc [("_law_pair", 1)] (by rfl) sc__law_some_ranges.nd (ai_seq (ae_v 0)) (blkOk_by (N := n__law_some_ranges) (sc := defScope s__law_some_ranges) (by decide +kernel)) (tgt_name (by decide)) (fun _ _ _ _ _ => pg_name (i := 1) sc__law_some_ranges.nd (by rfl) (by first | exact Or.inl rfl | exact Or.inr rfl)) (fun _ _ _ _ _ => ats_one (at_e (ae_call (ad__law_is_large T) (hr.mono (by omega)) (by rfl) T.g__law_is_large T.F__law_is_large.kp T.b__law_is_large (aa_cons (ae_ix (hu_of hr) (ae_v 1) (ae_int)) (aa_nil))))) (fun _ _ _ _ _ => ae_tup (aa_cons (ae_ix (hu_of hr) (ae_ix (hu_of hr) (ae_v 1) (ae_int)) (ae_int)) (aa_cons (ae_ix (hu_of hr) (ae_ix (hu_of hr) (ae_v 1) (ae_int)) (ae_int)) (aa_nil))))) (aa_nil))))
theorem ad__law_due (T : Txt K mg cl) : ADef P w K mg base 21 T.a__law_due T.d__law_due ["_law_program", "_law_head"] m__law_due :=
 adef T.F__law_due sc__law_due fun cdv A outer s H E hr =>
 ass_cons (as_set (i := 2) sc__law_due.nd (ae_op aop_add (ae_ix (hu_of hr) (ae_v 0) (ae_int)) (ae_ix (hu_of hr) (ae_v 1) (ae_int))))
 (ass_cons (as_set (i := 3) sc__law_due.nd (ae_op aop_add (ae_v 2) (ae_ix (hu_of hr) (ae_v 1) (ae_int))))
 (ass_cons (as_set (i := 4) sc__law_due.nd (ae_ix (hu_of hr) (ae_v 0) (ae_int)))
 (ass_cons (as_if (at_cmp aop_isnt (ae_ix (hu_of hr) (ae_v 1) (ae_int)) (ae_non))
 (ass_one (as_set (i := 4) sc__law_due.nd (ae_op aop_add (ae_v 4) (ae_tup (aa_cons (ae_tup (aa_cons (ae_str) (aa_cons (ae_ix (hu_of hr) (ae_v 1) (ae_int)) (aa_nil)))) (aa_nil))))))
 (ass_nil))
 (ass_cons (as_set (i := 5) sc__law_due.nd (ae_lst (aa_cons (ae_ix (hu_of hr) (ae_v 1) (ae_int)) (aa_cons (ae_ix (hu_of hr) (ae_v 1) (ae_int)) (aa_cons (ae_call (ad__law_count T 20) (hr.mono (by omega)) (by rfl) T.g__law_count T.F__law_count.kp T.b__law_count (aa_cons (ae_ix (hu_of hr) (ae_v 1) (ae_int)) (aa_nil))) (aa_cons (ae_call (ad__law_some_names T) (hr.mono (by omega)) (by rfl) T.g__law_some_names T.F__law_some_names.kp T.b__law_some_names (aa_cons (ae_v 3) (aa_cons (ae_bl) (aa_nil)))) (aa_cons (ae_call (ad__law_some_names T) (hr.mono (by omega)) (by rfl) T.g__law_some_names T.F__law_some_names.kp T.b__law_some_names (aa_cons (ae_v 3) (aa_cons (ae_bl) (aa_nil)))) (aa_nil))))))))
 (ass_cons (as_set (i := 5) sc__law_due.nd (ae_op aop_add (ae_v 5) (ae_lst (aa_cons (ae_call (ad__law_some_names T) (hr.mono (by omega)) (by rfl) T.g__law_some_names T.F__law_some_names.kp T.b__law_some_names (aa_cons (ae_v 2) (aa_cons (ae_bl) (aa_nil)))) (aa_cons (ae_call (ad__law_some_names T) (hr.mono (by omega)) (by rfl) T.g__law_some_names T.F__law_some_names.kp T.b__law_some_names (aa_cons (ae_v 2) (aa_cons (ae_bl) (aa_nil)))) (aa_nil))))))
 (ass_cons (as_set (i := 5) sc__law_due.nd (ae_op aop_add (ae_v 5) (ae_lst (aa_cons (ae_call (ad__law_some_names T) (hr.mono (by omega)) (by rfl) T.g__law_some_names T.F__law_some_names.kp T.b__law_some_names (aa_cons (ae_v 4) (aa_cons (ae_bl) (aa_nil)))) (aa_cons (ae_call (ad__law_some_names T) (hr.mono (by omega)) (by rfl) T.g__law_some_names T.F__law_some_names.kp T.b__law_some_names (aa_cons (ae_v 4) (aa_cons (ae_bl) (aa_nil)))) (aa_nil))))))
 (ass_cons (as_set (i := 5) sc__law_due.nd (ae_op aop_add (ae_v 5) (ae_lst (aa_cons (ae_op aop_add (ae_call (ad__law_some_ranges T) (hr.mono (by omega)) (by rfl) T.g__law_some_ranges T.F__law_some_ranges.kp T.b__law_some_ranges (aa_cons (ae_v 3) (aa_nil))) (ae_call (ad__law_some_ranges T) (hr.mono (by omega)) (by rfl) T.g__law_some_ranges T.F__law_some_ranges.kp T.b__law_some_ranges (aa_cons (ae_v 2) (aa_nil)))) (aa_cons (ae_op aop_add (ae_call (ad__law_some_ranges T) (hr.mono (by omega)) (by rfl) T.g__law_some_ranges T.F__law_some_ranges.kp T.b__law_some_ranges (aa_cons (ae_v 4) (aa_nil))) (ae_call (ad__law_some_ranges T) (hr.mono (by omega)) (by rfl) T.g__law_some_ranges T.F__law_some_ranges.kp T.b__law_some_ranges (aa_cons (ae_v 2) (aa_nil)))) (aa_nil))))))
 (ass_one (as_ret (ae_callT acall_tuple (by rfl) T.n_tuple PyProof.Rows.boot_tuple (aa_cons (ae_v 5) (aa_nil))))))))))))
theorem ad__law_same (T : Txt K mg cl) : ∀ n : Nat, ADef P w K mg base (n + 0) T.a__law_same T.d__law_same ["_law_actual", "_law_due_here"] (m__law_same n)
  | 0 => adef_bad
  | n + 1 => adef_up (adef T.F__law_same sc__law_same fun cdv A outer s H E (hr : Room (n + 0) _) =>
 ass_cons (as_if ((aw_or (at_e (ae_isi (by rfl) T.n_isinstance (by rfl) T.n_tuple PyProof.Rows.boot_tuple (ae_v 1))) (aw_or1 (at_e (ae_isi (by rfl) T.n_isinstance (by rfl) T.n_list PyProof.Rows.boot_list (ae_v 1))))).pt)
 (ass_cons (as_if ((aw_or (at_cmp (aop_ne hr.units) (ae_isi (by rfl) T.n_isinstance (by rfl) T.n_tuple PyProof.Rows.boot_tuple (ae_v 1)) (ae_isi (by rfl) T.n_isinstance (by rfl) T.n_tuple PyProof.Rows.boot_tuple (ae_v 0))) (aw_or1 (at_cmp (aop_ne hr.units) (ae_isi (by rfl) T.n_isinstance (by rfl) T.n_list PyProof.Rows.boot_list (ae_v 1)) (ae_isi (by rfl) T.n_isinstance (by rfl) T.n_list PyProof.Rows.boot_list (ae_v 0))))).pt)
 (ass_one (as_ret (ae_bl)))
 (ass_nil))
 (ass_cons (as_if (at_cmp (aop_ne hr.units) (ae_callB acall_len (by rfl) T.n_len PySem.boot_len (aa_cons (ae_v 0) (aa_nil))) (ae_callB acall_len (by rfl) T.n_len PySem.boot_len (aa_cons (ae_v 1) (aa_nil))))
 (ass_one (as_ret (ae_bl)))
 (ass_nil))
 (ass_cons (as_for PassesOwn.never (by rfl) (ai_rg1 (by rfl) T.n_range (ae_callB acall_len (by rfl) T.n_len PySem.boot_len (aa_cons (ae_v 1) (aa_nil)))) (ag_name sc__law_same.nd)
 (ass_one (as_if (at_not (at_e (ae_call (ad__law_same T n) hr (by rfl) T.g__law_same T.F__law_same.kp T.b__law_same (aa_cons (ae_ix (hu_of hr) (ae_v 0) (ae_v 2)) (aa_cons (ae_ix (hu_of hr) (ae_v 1) (ae_v 2)) (aa_nil))))))
 (ass_one (as_ret (ae_bl)))
 (ass_nil))))
 (ass_one (as_ret (ae_bl))))))
 (ass_nil))
 (ass_cons (as_if (at_cmp aop_is (ae_v 1) (ae_non))
 (ass_one (as_ret (ae_cmp aop_is (ae_v 0) (ae_non))))
 (ass_nil))
 (ass_cons (as_if (at_e (ae_isi (by rfl) T.n_isinstance (by rfl) T.n_bool PyProof.Rows.boot_bool (ae_v 1)))
 (ass_one (as_ret (ae_and (ae_isi (by rfl) T.n_isinstance (by rfl) T.n_bool PyProof.Rows.boot_bool (ae_v 0)) (ae_one (ae_cmp (aop_eq hr.units) (ae_v 0) (ae_v 1))))))
 (ass_nil))
 (ass_cons (as_if (at_e (ae_isi (by rfl) T.n_isinstance (by rfl) T.n_int PyProof.Rows.boot_int (ae_v 1)))
 (ass_one (as_ret (ae_and (ae_isi (by rfl) T.n_isinstance (by rfl) T.n_int PyProof.Rows.boot_int (ae_v 0)) (ae_and (ae_not (ae_isi (by rfl) T.n_isinstance (by rfl) T.n_bool PyProof.Rows.boot_bool (ae_v 0))) (ae_one (ae_cmp (aop_eq hr.units) (ae_v 0) (ae_v 1)))))))
 (ass_nil))
 (ass_one (as_ret (ae_and (ae_isi (by rfl) T.n_isinstance (by rfl) T.n_str PyProof.Rows.boot_str (ae_v 0)) (ae_one (ae_cmp (aop_eq hr.units) (ae_v 0) (ae_v 1))))))))))
theorem ad__law_told (T : Txt K mg cl) : ADef P w K mg base 1 T.a__law_told T.d__law_told ["_law_layout"] (m__law_told cl) :=
 adef T.F__law_told sc__law_told fun cdv A outer s H E hr =>
 ass_cons (as_set (i := 1) sc__law_told.nd (ae_lst (aa_cons (ae_fld (by intro C hC; simp only [List.mem_cons, List.not_mem_nil, or_false] at hC; subst hC; exact ⟨T.c_Layout, T.x_Layout_name⟩) (ae_v 0)) (aa_cons (ae_fld (by intro C hC; simp only [List.mem_cons, List.not_mem_nil, or_false] at hC; subst hC; exact ⟨T.c_Layout, T.x_Layout_result⟩) (ae_v 0)) (aa_cons (ae_fld (by intro C hC; simp only [List.mem_cons, List.not_mem_nil, or_false] at hC; subst hC; exact ⟨T.c_Layout, T.x_Layout_exit⟩) (ae_v 0)) (aa_cons (ae_fld (by intro C hC; simp only [List.mem_cons, List.not_mem_nil, or_false] at hC; subst hC; exact ⟨T.c_Layout, T.x_Layout_discrete⟩) (ae_v 0)) (aa_cons (ae_fld (by intro C hC; simp only [List.mem_cons, List.not_mem_nil, or_false] at hC; subst hC; exact ⟨T.c_Layout, T.x_Layout_large⟩) (ae_v 0)) (aa_cons (ae_fld (by intro C hC; simp only [List.mem_cons, List.not_mem_nil, or_false] at hC; subst hC; exact ⟨T.c_Layout, T.x_Layout_entry_discrete⟩) (ae_v 0)) (aa_nil)))))))))
 (ass_cons (as_set (i := 1) sc__law_told.nd (ae_op aop_add (ae_v 1) (ae_lst (aa_cons (ae_fld (by intro C hC; simp only [List.mem_cons, List.not_mem_nil, or_false] at hC; subst hC; exact ⟨T.c_Layout, T.x_Layout_entry_large⟩) (ae_v 0)) (aa_cons (ae_fld (by intro C hC; simp only [List.mem_cons, List.not_mem_nil, or_false] at hC; subst hC; exact ⟨T.c_Layout, T.x_Layout_exit_discrete⟩) (ae_v 0)) (aa_cons (ae_fld (by intro C hC; simp only [List.mem_cons, List.not_mem_nil, or_false] at hC; subst hC; exact ⟨T.c_Layout, T.x_Layout_exit_large⟩) (ae_v 0)) (aa_cons (ae_fld (by intro C hC; simp only [List.mem_cons, List.not_mem_nil, or_false] at hC; subst hC; exact ⟨T.c_Layout, T.x_Layout_ranges⟩) (ae_v 0)) (aa_cons (ae_fld (by intro C hC; simp only [List.mem_cons, List.not_mem_nil, or_false] at hC; subst hC; exact ⟨T.c_Layout, T.x_Layout_exit_ranges⟩) (ae_v 0)) (aa_nil)))))))))
 (ass_one (as_ret (ae_callT acall_tuple (by rfl) T.n_tuple PyProof.Rows.boot_tuple (aa_cons (ae_v 1) (aa_nil))))))
theorem ad__law_right (T : Txt K mg cl) : ADef P w K mg base 22 T.a__law_right T.d__law_right ["_law_layout", "_law_program", "_law_head"] (m__law_right cl) :=
 adef T.F__law_right sc__law_right fun cdv A outer s H E hr =>
 ass_cons (as_set (i := 3) sc__law_right.nd (ae_op aop_add (ae_op aop_add (ae_ix (hu_of hr) (ae_v 1) (ae_int)) (ae_ix (hu_of hr) (ae_v 2) (ae_int))) (ae_ix (hu_of hr) (ae_v 2) (ae_int))))
 (ass_cons (as_set (i := 4) sc__law_right.nd (ae_fld (by intro C hC; simp only [List.mem_cons, List.not_mem_nil, or_false] at hC; subst hC; exact ⟨T.c_Layout, T.x_Layout_kinds⟩) (ae_v 0)))
 (ass_cons (as_if ((aw_or (at_not (at_e (ae_isi (by rfl) T.n_isinstance (by rfl) T.n_dict PyProof.Rows.boot_dict (ae_v 4)))) (aw_or1 (at_cmp (aop_ne hr.units) (ae_callB acall_len (by rfl) T.n_len PySem.boot_len (aa_cons (ae_v 4) (aa_nil))) (ae_callB acall_len (by rfl) T.n_len PySem.boot_len (aa_cons (ae_v 3) (aa_nil)))))).pt)
 (ass_one (as_ret (ae_bl)))
 (ass_nil))
 (ass_cons (as_for PassesOwn.never (by rfl) (ai_seq (ae_v 3)) (ag_name sc__law_right.nd)
 (ass_one (as_if ((aw_or (at_cmp (aop_nin (u65 hr)) (ae_ix (hu_of hr) (ae_v 5) (ae_int)) (ae_v 4)) (aw_or1 (at_not (at_e (ae_call (ad__law_same T 20) (hr.mono (by omega)) (by rfl) T.g__law_same T.F__law_same.kp T.b__law_same (aa_cons (ae_ix (hu_of hr) (ae_v 4) (ae_ix (hu_of hr) (ae_v 5) (ae_int))) (aa_cons (ae_ix (hu_of hr) (ae_v 5) (ae_int)) (aa_nil)))))))).pt)
 (ass_one (as_ret (ae_bl)))
 (ass_nil))))
 (ass_one (as_ret (ae_and (ae_call (ad__law_same T 20) (hr.mono (by omega)) (by rfl) T.g__law_same T.F__law_same.kp T.b__law_same (aa_cons (ae_fld (by intro C hC; simp only [List.mem_cons, List.not_mem_nil, or_false] at hC; subst hC; exact ⟨T.c_Layout, T.x_Layout_program⟩) (ae_v 0)) (aa_cons (ae_v 1) (aa_nil)))) (ae_one (ae_call (ad__law_same T 20) (hr.mono (by omega)) (by rfl) T.g__law_same T.F__law_same.kp T.b__law_same (aa_cons (ae_call (ad__law_told T) (hr.mono (by omega)) (by rfl) T.g__law_told T.F__law_told.kp T.b__law_told (aa_cons (ae_v 0) (aa_nil))) (aa_cons (ae_call (ad__law_due T) (hr.mono (by omega)) (by rfl) T.g__law_due T.F__law_due.kp T.b__law_due (aa_cons (ae_v 1) (aa_cons (ae_v 2) (aa_nil)))) (aa_nil)))))))))))
theorem ad_law (T : Txt K mg cl) : ADef P w K mg base 45 T.a_law T.d_law ["_law_script"] (m_law cl) :=
 adef T.F_law sc_law fun cdv A outer s H E hr =>
 ass_cons (as_set (i := 1) sc_law.nd (ae_lst (aa_nil)))
 (ass_cons (as_for PassesOwn.never (by rfl) (ai_rg1 (by rfl) T.n_range (ae_callB (acall_max (by rfl)) (by rfl) T.n_max PyProof.Rows.boot_max (aa_cons (ae_int) (aa_cons (ae_callB (acall_min (by rfl)) (by rfl) T.n_min PyProof.Rows.boot_min (aa_cons (ae_callB acall_len (by rfl) T.n_len PySem.boot_len (aa_cons (ae_v 0) (aa_nil))) (aa_cons (ae_int) (aa_nil)))) (aa_nil))))) (ag_name sc_law.nd)
 (ass_cons (as_set (i := 3) sc_law.nd (ae_call (ad__law_drawn T) (hr.mono (by omega)) (by rfl) T.g__law_drawn T.F__law_drawn.kp T.b__law_drawn (aa_cons (ae_call (ad__law_cell T) (hr.mono (by omega)) (by rfl) T.g__law_cell T.F__law_cell.kp T.b__law_cell (aa_cons (ae_v 0) (aa_cons (ae_v 2) (aa_nil)))) (aa_nil))))
 (ass_one (as_set (i := 1) sc_law.nd (ae_op aop_add (ae_v 1) (ae_lc [("_law_head", 4)] (by rfl) sc_law.nd (ai_seq (ae_ix (hu_of hr) (ae_v 3) (ae_int))) (blkOk_by (N := n_law) (sc := defScope s_law) (by decide +kernel)) (tgt_name (by decide)) (fun _ _ _ _ _ => pg_name (i := 4) sc_law.nd (by rfl) (by first | exact Or.inl rfl | exact Or.inr rfl)) (fun _ _ _ _ _ => ats_nil) (fun _ _ _ _ _ => ae_tup (aa_cons (ae_v 3) (aa_cons (ae_v 4) (aa_nil))))))))))
 (ass_cons (as_setLc [("_law_pair", 6)] (i := 5) (by rfl) sc_law.nd (ai_seq (ae_v 1)) (blkOk_by (N := n_law) (sc := defScope s_law) (by decide +kernel)) (tgt_name (by decide)) (fun _ _ _ _ _ => pg_name (i := 6) sc_law.nd (by rfl) (by first | exact Or.inl rfl | exact Or.inr rfl)) (fun _ _ _ _ _ => ats_nil) (fun _ _ _ _ _ => ae_make T.k_Layout (ad_Layout_init T) (hr.mono (by omega)) (by rfl) T.g_Layout T.b_Layout_init (aa_cons (ae_ix (hu_of hr) (ae_v 6) (ae_int)) (aa_cons (ae_ix (hu_of hr) (ae_ix (hu_of hr) (ae_v 6) (ae_int)) (ae_int)) (aa_nil)))) (sw_true rfl rfl rfl (by decide +kernel)))
 (ass_cons (as_for PassesOwn.never (by rfl) (ai_rg1 (by rfl) T.n_range (ae_callB acall_len (by rfl) T.n_len PySem.boot_len (aa_cons (ae_v 1) (aa_nil)))) (ag_name sc_law.nd)
 (ass_one (as_if (at_not (at_e (ae_call (ad__law_right T) (hr.mono (by omega)) (by rfl) T.g__law_right T.F__law_right.kp T.b__law_right (aa_cons (ae_ix (hu_of hr) (ae_v 5) (ae_v 7)) (aa_cons (ae_ix (hu_of hr) (ae_ix (hu_of hr) (ae_v 1) (ae_v 7)) (ae_int)) (aa_cons (ae_ix (hu_of hr) (ae_ix (hu_of hr) (ae_v 1) (ae_v 7)) (ae_int)) (aa_nil)))))))
 (ass_one (as_ret (ae_bl)))
 (ass_nil))))
 (ass_cons (as_for PassesOwn.never (by rfl) (ai_rg1 (by rfl) T.n_range (ae_callB acall_len (by rfl) T.n_len PySem.boot_len (aa_cons (ae_v 1) (aa_nil)))) (ag_name sc_law.nd)
 (ass_cons (as_set (i := 2) sc_law.nd (ae_op aop_sub (ae_op aop_sub (ae_callB acall_len (by rfl) T.n_len PySem.boot_len (aa_cons (ae_v 1) (aa_nil))) (ae_int)) (ae_v 7)))
 (ass_cons (as_set (i := 8) sc_law.nd (ae_make T.k_Layout (ad_Layout_init T) (hr.mono (by omega)) (by rfl) T.g_Layout T.b_Layout_init (aa_cons (ae_ix (hu_of hr) (ae_ix (hu_of hr) (ae_v 1) (ae_v 2)) (ae_int)) (aa_cons (ae_ix (hu_of hr) (ae_ix (hu_of hr) (ae_ix (hu_of hr) (ae_v 1) (ae_v 2)) (ae_int)) (ae_int)) (aa_nil)))))
 (ass_one (as_if ((aw_or (at_not (at_e (ae_call (ad__law_right T) (hr.mono (by omega)) (by rfl) T.g__law_right T.F__law_right.kp T.b__law_right (aa_cons (ae_v 8) (aa_cons (ae_ix (hu_of hr) (ae_ix (hu_of hr) (ae_v 1) (ae_v 2)) (ae_int)) (aa_cons (ae_ix (hu_of hr) (ae_ix (hu_of hr) (ae_v 1) (ae_v 2)) (ae_int)) (aa_nil))))))) (aw_or1 (at_not (at_e (ae_call (ad__law_right T) (hr.mono (by omega)) (by rfl) T.g__law_right T.F__law_right.kp T.b__law_right (aa_cons (ae_ix (hu_of hr) (ae_v 5) (ae_v 7)) (aa_cons (ae_ix (hu_of hr) (ae_ix (hu_of hr) (ae_v 1) (ae_v 7)) (ae_int)) (aa_cons (ae_ix (hu_of hr) (ae_ix (hu_of hr) (ae_v 1) (ae_v 7)) (ae_int)) (aa_nil))))))))).pt)
 (ass_one (as_ret (ae_bl)))
 (ass_nil))))))
 (ass_one (as_ret (ae_bl)))))))
end
end Law

namespace Ab
open PySem PySem.Spec PyProof.Rows L2
open scoped Classical
/-! ## lists of drawn numbers, of drawn points -/
theorem comp_draw {s i n : Nat} {lo : Int} {f : FE} {σ : ASt} {A : AH} {R : D → AH → Prop} (Pv : Int → Prop) (hs : Sr s A)
    (hf : ∀ k C, Dr s A C → DrwS s C (f (σ.set i (some (.int k))) C) fun d => ∃ v, d = .int v ∧ Pv v) (hn : n ≤ 1000)
    (hR : ∀ (q : List Int) C, q.length = n → (∀ v ∈ q, Pv v) → Dr s A C → C[A.length]? = some (.lst (q.map D.int)) → R (.ref A.length) C) :
    Sat (loopC yes (gN i) fYes f A.length σ (rngL lo n) (A ++ [.lst []])) R := by
  have sl := hs.lt
  refine comp_range (fun k acc C => ∃ q : List Int, q.length = k ∧ (∀ v ∈ q, Pv v) ∧ acc = q.map D.int ∧ Dr s A C ∧ C[A.length]? = some (.lst acc)) (fun k acc C hk ⟨q, q1, q2, q3, q4, q5⟩ => ?_) (fun acc C ⟨q, q1, q2, q3, q4, q5⟩ => ?_) (acc := []) ⟨[], rfl, by simp, rfl, Dr.app hs _, at_new⟩
  · show Sat (Res.ok (σ.set i (some (.int (lo + (k : Nat))))) C) _
    rw [sat_ok]
    refine Sat.imp (hf _ C q4) fun d C2 ⟨⟨v, e, hv⟩, dr⟩ => ?_
    subst e
    have q5 := dr.keep _ _ (by omega) q5
    refine ⟨q5, by rw [q3, List.length_map]; omega, q ++ [v], by simp; omega, fun w hw => ?_, by rw [q3]; simp, (q4.trans dr).setN (Nat.le_refl _) hs, at_set (at_lt q5)⟩
    rcases List.mem_append.mp hw with h | h
    · exact q2 w h
    · cases List.mem_singleton.mp h; exact hv
  · subst q3; exact hR q C q1 q2 q4 q5
theorem comp_drawG {α : Type} (c : α → D) {s i n : Nat} {lo : Int} {f : FE} {σ : ASt} {A : AH} {R : D → AH → Prop} (Pv : α → Prop) (hs : Sr s A)
    (hf : ∀ k C, Dr s A C → DrwS s C (f (σ.set i (some (.int k))) C) fun d => ∃ v, d = c v ∧ Pv v) (hn : n ≤ 1000)
    (hR : ∀ (q : List α) C, q.length = n → (∀ v ∈ q, Pv v) → Dr s A C → C[A.length]? = some (.lst (q.map c)) → R (.ref A.length) C) :
    Sat (loopC yes (gN i) fYes f A.length σ (rngL lo n) (A ++ [.lst []])) R := by
  have sl := hs.lt
  refine comp_range (fun k acc C => ∃ q : List α, q.length = k ∧ (∀ v ∈ q, Pv v) ∧ acc = q.map c ∧ Dr s A C ∧ C[A.length]? = some (.lst acc)) (fun k acc C hk ⟨q, q1, q2, q3, q4, q5⟩ => ?_) (fun acc C ⟨q, q1, q2, q3, q4, q5⟩ => ?_) (acc := []) ⟨[], rfl, by simp, rfl, Dr.app hs _, at_new⟩
  · show Sat (Res.ok (σ.set i (some (.int (lo + (k : Nat))))) C) _
    rw [sat_ok]
    refine Sat.imp (hf _ C q4) fun d C2 ⟨⟨v, e, hv⟩, dr⟩ => ?_
    subst e
    have q5 := dr.keep _ _ (by omega) q5
    refine ⟨q5, by rw [q3, List.length_map]; omega, q ++ [v], by simp; omega, fun w hw => ?_, by rw [q3]; simp, (q4.trans dr).setN (Nat.le_refl _) hs, at_set (at_lt q5)⟩
    rcases List.mem_append.mp hw with h | h
    · exact q2 w h
    · cases List.mem_singleton.mp h; exact hv
  · subst q3; exact hR q C q1 q2 q4 q5
theorem pts_draw {s R i j r w N n : Nat} {lo : Int} {f : FE} {σ : ASt} {A0 A : AH} {P : Fl → AH → Prop} {ps0 : List (List Int)} {x0 : Option D} (Pv : Int → Prop) (hs : Sr s A0) (D0 : Dr s A0 A) (nR : A0.length ≤ R)
    (hR : A[R]? = some (.lst (ps0.map fun p => .tup (p.map D.int)))) (hr : ∀ x, (σ.set i x)[r]? = some (some (.ref R))) (hw : ∀ x, (σ.set i x)[w]? = some (some (.int (n : Nat)))) (hn : n ≤ 1000) (hN : ps0.length + N ≤ 100000) (h0 : σ.set i x0 = σ)
    (hf : ∀ x k C, Dr s A0 C → DrwS s C (f ((wipeA (σ.set i x) [j]).set j (some (.int k))) C) fun d => ∃ v, d = .int v ∧ Pv v)
    (hP : ∀ x C (ps : List (List Int)), ps.length = N → (∀ p ∈ ps, p.length = n ∧ ∀ v ∈ p, Pv v) → Dr s A0 C → C[R]? = some (.lst ((ps0 ++ ps).map fun p => .tup (p.map D.int))) → P (.nx (σ.set i x)) C) :
    Sat (loopD yes (gN i) (fEx (fMt "list" appendD (fV r) (fCons (fCall tupOf (fCons (fLc (fRg1 (fV w)) (gN j) (fYes) f [j]) (fNil))) (fNil)))) (rngL lo N) σ A) P := by
  have sl := hs.lt
  refine range_inv (fun k σ' C => ∃ x, σ' = σ.set i x ∧ ∃ ps : List (List Int), ps.length = k ∧ (∀ p ∈ ps, p.length = n ∧ ∀ v ∈ p, Pv v) ∧ Dr s A0 C ∧ C[R]? = some (.lst ((ps0 ++ ps).map fun p => .tup (p.map D.int))))
    (fun k σ' C hk ⟨x, e, ps, p1, p2, dr, hC⟩ => ?_) (fun σ' C ⟨x, e, ps, p1, p2, dr, hC⟩ => ?_) ⟨x0, h0.symm, [], rfl, by simp, D0, by simpa using hR⟩
  · subst e
    show Sat (Res.ok ((σ.set i x).set i (some (.int (lo + (k : Nat))))) C) _
    rw [sat_ok, List.set_set]
    have e1 : ∀ A, fV r (σ.set i (some (.int (lo + (k : Nat))))) A = .ok (.ref R) A := fun A => ev_v (hr _)
    have e2 : ∀ A, fV w (wipeA (σ.set i (some (.int (lo + (k : Nat))))) []) A = .ok (.int (n : Nat)) A := fun A => ev_v (hw _)
    have e3 : ∀ A, fV w (σ.set i (some (.int (lo + (k : Nat))))) A = .ok (.int (n : Nat)) A := fun A => ev_v (hw _)
    simp only [EV, Ab.isNon, args, List.map, List.length_cons, List.length_nil, List.length_singleton, List.replicate, Nat.reduceSub, Nat.reduceAdd, Nat.zero_add, List.cons_append, List.nil_append, List.getElem?_cons_zero, List.getElem?_cons_succ, List.set_cons_zero, List.set_cons_succ, Option.some.injEq, decide_eq_true_eq, Bool.not_eq_true', decide_eq_false_iff_not, ite_true, ite_false, if_true, if_false, reduceIte, Bool.false_eq_true, Bool.not_true, Bool.not_false, Bool.true_eq_false, decide_true, decide_false, Nat.reduceLeDiff, Nat.reduceLT, e1, e3, ty_l hC]
    rw [if_pos (inRg_of (by omega) (by omega)), Int.toNat_natCast]
    refine comp_draw Pv dr.src (fun k' C2 d2 => hf _ k' C2 (dr.trans d2)) hn fun q C2 q1 q2 d2 hq => ?_
    have hC2 := d2.keep R _ (by omega) hC
    simp only [EV, Ab.isNon, args, List.map, List.length_cons, List.length_nil, List.length_singleton, List.replicate, Nat.reduceSub, Nat.reduceAdd, Nat.zero_add, List.cons_append, List.nil_append, List.getElem?_cons_zero, List.getElem?_cons_succ, List.set_cons_zero, List.set_cons_succ, Option.some.injEq, decide_eq_true_eq, Bool.not_eq_true', decide_eq_false_iff_not, ite_true, ite_false, if_true, if_false, reduceIte, Bool.false_eq_true, Bool.not_true, Bool.not_false, Bool.true_eq_false, decide_true, decide_false, Nat.reduceLeDiff, Nat.reduceLT, ev_tup_ofL (rdL_l hq)]
    rw [ev_app hC2 (by simp; omega)]
    simp only [EV, Ab.isNon, args, List.map, List.length_cons, List.length_nil, List.length_singleton, List.replicate, Nat.reduceSub, Nat.reduceAdd, Nat.zero_add, List.cons_append, List.nil_append, List.getElem?_cons_zero, List.getElem?_cons_succ, List.set_cons_zero, List.set_cons_succ, Option.some.injEq, decide_eq_true_eq, Bool.not_eq_true', decide_eq_false_iff_not, ite_true, ite_false, if_true, if_false, reduceIte, Bool.false_eq_true, Bool.not_true, Bool.not_false, Bool.true_eq_false, decide_true, decide_false, Nat.reduceLeDiff, Nat.reduceLT, turn_]
    refine ⟨_, rfl, ps ++ [q], by simp; omega, fun p hp => ?_, (dr.trans d2).setN nR hs, ?_⟩
    · rcases List.mem_append.mp hp with h | h
      · exact p2 p h
      · cases List.mem_singleton.mp h; exact ⟨q1, q2⟩
    · rw [at_set (at_lt hC2), ← List.append_assoc, List.map_append (l₁ := ps0 ++ ps)]; rfl
  · subst e
    exact hP x C ps p1 p2 dr hC
/-- a list's display with a test, of things that need no cell -/
theorem comp_filter {α : Type} {ok : AH → Prop} {g : FG} {t : FT} {f : FE} {s : ASt} {A : AH} {P : D → AH → Prop} {qs : List α} (c F : α → D) (b : α → Bool)
    (hok : ∀ l, ok (A ++ [.lst l])) (hf : ∀ q ∈ qs, ∀ l, Sat (g (c q) s (A ++ [.lst l])) fun s1 A1 => Sat (t s1 A1) fun bb A2 => bb = b q ∧ A2 = A ++ [.lst l] ∧ Sat (f s1 (A ++ [.lst l])) fun y A3 => y = F q ∧ A3 = A ++ [.lst l]) (hl : qs.length ≤ 1000000)
    (hP : P (.ref A.length) (A ++ [.lst ((qs.filter b).map F)])) : Sat (loopC ok g t f A.length s (qs.map c) (A ++ [.lst []])) P := by
  refine comp_inv (fun rest acc B => B = A ++ [.lst acc] ∧ ∃ pre post, qs = pre ++ post ∧ rest = post.map c ∧ acc = (pre.filter b).map F) (fun d rest acc B ⟨hB, pre, post, h1, h0, h2⟩ => ?_) (fun acc B ⟨hB, pre, post, h1, h0, h2⟩ => ?_) _ [] _ ⟨rfl, [], qs, rfl, rfl, rfl⟩
  · subst hB
    cases post with
    | nil => cases h0
    | cons q post =>
      rw [List.map_cons, List.cons.injEq] at h0
      obtain ⟨e1, e2⟩ := h0
      subst e1; subst e2
      refine ⟨hok acc, Sat.imp (hf q (by rw [h1]; simp) acc) fun s1 A1 h3 => Sat.imp h3 fun bb A2 ⟨h4, h5, h6⟩ => ?_⟩
      subst h5; subst h4
      split
      · rename_i hb
        refine Sat.imp h6 fun y A3 ⟨h4, h5⟩ => ?_
        subst h4; subst h5
        refine ⟨at_new, ?_, ?_, pre ++ [q], post, by rw [h1]; simp, rfl, by rw [h2, List.filter_append, List.filter_cons_of_pos hb]; simp⟩
        · have : qs.length = pre.length + (post.length + 1) := by rw [h1]; simp
          have e : acc.length ≤ pre.length := by rw [h2, List.length_map]; exact List.length_filter_le ..
          refine Nat.lt_of_lt_of_le (show acc.length < 1000000 by omega) (by decide)
        · rw [List.set_append_right _ _ (Nat.le_refl _), Nat.sub_self]; rfl
      · rename_i hb
        exact ⟨rfl, pre ++ [q], post, by rw [h1]; simp, rfl, by rw [h2, List.filter_append, List.filter_cons_of_neg hb]; simp⟩
  · subst hB
    cases post with
    | cons q post => cases h0
    | nil =>
      rw [List.append_nil] at h1
      subst h1; subst h2
      exact ⟨hok _, hP⟩
/-- a while by an invariant with a measure -/
theorem while_inv {c : FT} {p : FS} {P : Fl → AH → Prop} (I : Nat → ASt → AH → Prop)
    (turn : ∀ m s A, I m s A → Sat (c s A) fun b A1 => if b = true then Sat (p s A1) (turn_ (fun s2 A2 => ∃ m', m' < m ∧ I m' s2 A2) P) else P (.nx s) A1) :
    ∀ (n m : Nat) (s : ASt) (A : AH), m < n → I m s A → Sat (loopW c p n s A) P
  | 0, m, s, A, h, _ => absurd h (Nat.not_lt_zero _)
  | n + 1, m, s, A, h, hI => by
    rw [loopW, sat_bind]
    refine Sat.imp (turn m s A hI) fun b A1 h1 => ?_
    split
    · rename_i hb
      rw [if_pos hb] at h1
      obtain ⟨fl, A2, e, h2⟩ := h1.eq
      rw [e]
      cases fl with
      | nx s2 => obtain ⟨m', lt, h3⟩ := h2; exact while_inv I turn n m' s2 A2 (by omega) h3
      | ct s2 => obtain ⟨m', lt, h3⟩ := h2; exact while_inv I turn n m' s2 A2 (by omega) h3
      | bk s2 => exact h2
      | rt d => exact h2
    · rename_i hb
      rw [if_neg hb] at h1
      exact h1
/-- a list's display of numbers drawn for things that need no cell -/
theorem comp_drawL {α : Type} (c : α → D) {s : Nat} {ok : AH → Prop} {g : FG} {f : FE} {σ : ASt} {A : AH} {R : D → AH → Prop} {qs : List α} (Pv : α → Int → Prop) (hs : Sr s A) (hok : ∀ C, Dr s A C → ok C)
    (hf : ∀ a ∈ qs, ∀ C, Dr s A C → Sat (g (c a) σ C) fun s1 A1 => A1 = C ∧ DrwS s C (f s1 C) fun d => ∃ v, d = .int v ∧ Pv a v) (hn : qs.length ≤ 1000)
    (hR : ∀ (q : List Int) C, q.length = qs.length → (∀ (i : Nat) a v, qs[i]? = some a → q[i]? = some v → Pv a v) → Dr s A C → C[A.length]? = some (.lst (q.map D.int)) → R (.ref A.length) C) :
    Sat (loopC ok g fYes f A.length σ (qs.map c) (A ++ [.lst []])) R := by
  have sl := hs.lt
  refine comp_inv (fun rest acc C => ∃ pre post q, qs = pre ++ post ∧ rest = post.map c ∧ q.length = pre.length ∧ (∀ (i : Nat) a v, pre[i]? = some a → q[i]? = some v → Pv a v) ∧ acc = q.map D.int ∧ Dr s A C ∧ C[A.length]? = some (.lst acc)) (fun d rest acc C ⟨pre, post, q, e1, e2, e3, e4, e5, dr, hC⟩ => ⟨hok C dr, ?_⟩) (fun acc C ⟨pre, post, q, e1, e2, e3, e4, e5, dr, hC⟩ => ⟨hok C dr, ?_⟩) _ [] _ ⟨[], qs, [], rfl, rfl, rfl, by simp, rfl, Dr.app hs _, at_new⟩
  · cases post with
    | nil => cases e2
    | cons a post =>
      rw [List.map_cons, List.cons.injEq] at e2
      obtain ⟨e2, e6⟩ := e2
      subst e2; subst e6
      have ln := congrArg List.length e1
      rw [List.length_append, List.length_cons] at ln
      refine Sat.imp (hf a (by rw [e1]; simp) C dr) fun s1 A1 ⟨eA, h⟩ => ?_
      subst eA
      show Sat (Res.ok true A1) _
      rw [sat_ok, if_pos rfl]
      refine Sat.imp h fun d C2 ⟨⟨v, e, hv⟩, dr2⟩ => ?_
      subst e
      have hC := dr2.keep _ _ (by omega) hC
      refine ⟨hC, Nat.lt_of_lt_of_le (show acc.length < 1000000 by rw [e5, List.length_map]; omega) (by decide), pre ++ [a], post, q ++ [v], by rw [e1]; simp, rfl, by simp; omega, fun i x w hx hw => ?_, by rw [e5]; simp, (dr.trans dr2).setN (Nat.le_refl _) hs, at_set (at_lt hC)⟩
      by_cases lt : i < pre.length
      · rw [List.getElem?_append_left lt] at hx
        rw [List.getElem?_append_left (by omega)] at hw
        exact e4 i x w hx hw
      · have ei : i = pre.length := by
          have := (List.getElem?_eq_some_iff.mp hx).1
          simp at this; omega
        subst ei
        rw [List.getElem?_append_right (Nat.le_refl _), Nat.sub_self] at hx
        rw [List.getElem?_append_right (by omega), show pre.length - q.length = 0 by omega] at hw
        cases hx; cases hw
        exact hv
  · cases post with
    | cons a post => cases e2
    | nil =>
      rw [List.append_nil] at e1
      subst e1; subst e5
      exact hR q C e3 e4 dr hC
end Ab

namespace Law
open PySem PySem.Spec PyProof.Rows L2 Ab
open scoped Classical
theorem pick_spec {A : AH} {s : Nat} {n : Int} (hs : Sr s A) (hn : n < 2 ^ 100) : DrwS s A (m__law_pick [.ref s, .int n] A) (Below n) := by
  obtain ⟨c, r, k, h⟩ := hs
  have hs : s < A.length := (List.getElem?_eq_some_iff.mp h).1
  unfold DrwS
  refine sat_body rfl (sat_seq ?_)
  have i2 : ixD (.ref s) (.int 2) A = .ok (.int k) A := ev_ix_r (rdL_l h) rfl
  have t2 : stD (.ref s) (.int 2) (.int (k + 1)) A = .ok () (A.set s (.lst [.int c, .int r, .int (k + 1)])) := ev_st_l (k := 2) (j := 2) h rfl
  simp only [EV, Ab.isNon, args, List.map, List.length_cons, List.length_nil, List.length_singleton, List.replicate, Nat.reduceSub, Nat.reduceAdd, Nat.zero_add, List.cons_append, List.nil_append, List.getElem?_cons_zero, List.getElem?_cons_succ, List.set_cons_zero, List.set_cons_succ, Option.some.injEq, decide_eq_true_eq, Bool.not_eq_true', decide_eq_false_iff_not, ite_true, ite_false, if_true, if_false, reduceIte, Bool.false_eq_true, Bool.not_true, Bool.not_false, Bool.true_eq_false, decide_true, decide_false, Nat.reduceLeDiff, Nat.reduceLT, i2]
  refine sat_seq ?_
  simp only [EV, Ab.isNon, args, List.map, List.length_cons, List.length_nil, List.length_singleton, List.replicate, Nat.reduceSub, Nat.reduceAdd, Nat.zero_add, List.cons_append, List.nil_append, List.getElem?_cons_zero, List.getElem?_cons_succ, List.set_cons_zero, List.set_cons_succ, Option.some.injEq, decide_eq_true_eq, Bool.not_eq_true', decide_eq_false_iff_not, ite_true, ite_false, if_true, if_false, reduceIte, Bool.false_eq_true, Bool.not_true, Bool.not_false, Bool.true_eq_false, decide_true, decide_false, Nat.reduceLeDiff, Nat.reduceLT, t2]
  have h' : (A.set s (.lst [.int c, .int r, .int (k + 1)]))[s]? = some (.lst [.int c, .int r, .int (k + 1)]) := List.getElem?_set_self hs
  have hset : ∀ o, (A.set s (.lst [.int c, .int r, .int (k + 1)])).set s o = A.set s o := fun o => List.set_set ..
  have hA : Dr s A (A.set s (.lst [.int c, .int r, .int (k + 1)])) := .set hs
  generalize A.set s (.lst [.int c, .int r, .int (k + 1)]) = A1 at h' hset hA ⊢
  have i0 : ixD (.ref s) (.int 0) A1 = .ok (.int c) A1 := ev_ix_r (rdL_l h') rfl
  have i1 : ixD (.ref s) (.int 1) A1 = .ok (.int r) A1 := ev_ix_r (rdL_l h') rfl
  have t1 : ∀ v, stD (.ref s) (.int 1) (.int v) A1 = .ok () (A.set s (.lst [.int c, .int v, .int (k + 1)])) := fun v => by rw [ev_st_l (k := 1) (j := 1) h' rfl, hset]; rfl
  have e18 : CPow 10 18 := powOk (by decide) (by decide) (by decide)
  refine sat_seq ?_
  simp only [EV, Ab.isNon, args, List.map, List.length_cons, List.length_nil, List.length_singleton, List.replicate, Nat.reduceSub, Nat.reduceAdd, Nat.zero_add, List.cons_append, List.nil_append, List.getElem?_cons_zero, List.getElem?_cons_succ, List.set_cons_zero, List.set_cons_succ, Option.some.injEq, decide_eq_true_eq, Bool.not_eq_true', decide_eq_false_iff_not, ite_true, ite_false, if_true, if_false, reduceIte, Bool.false_eq_true, Bool.not_true, Bool.not_false, Bool.true_eq_false, decide_true, decide_false, Nat.reduceLeDiff, Nat.reduceLT]
  split
  · exact ⟨⟨0, rfl, by omega, .inr rfl⟩, hA⟩
  rename_i hn2
  have n0 : 0 < n := by omega
  have dn : CDivW r n := divOk n0 (Int.lt_trans hn (by decide))
  have last : ∀ x : Int, CDivW x 9 := fun x => divOk (by decide) (by decide)
  have m1 : ∀ j : Int, mulOk 7919 j := fun j => mulOk_l (by decide) (by decide)
  have m2 : ∀ j : Int, mulOk 31 j := fun j => mulOk_l (by decide) (by decide)
  have m3 : ∀ i j : Int, mulOk (i % 2147483647) j := fun i j => mulOk_l (by omega) (by omega)
  have m4 : ∀ i j : Int, mulOk (i % 2147483629) j := fun i j => mulOk_l (by omega) (by omega)
  have p1 : (0 : Int) < 2147483647 := by decide
  have p2 : (0 : Int) < 2147483629 := by decide
  refine sat_seq (sat_ifS (b := decide (10 ^ 18 ≤ c ∧ 0 < r)) ?_ (fun _ => ?_) (fun _ => ?_))
  · simp only [EV, Ab.isNon, args, List.map, List.length_cons, List.length_nil, List.length_singleton, List.replicate, Nat.reduceSub, Nat.reduceAdd, Nat.zero_add, List.cons_append, List.nil_append, List.getElem?_cons_zero, List.getElem?_cons_succ, List.set_cons_zero, List.set_cons_succ, Option.some.injEq, decide_eq_true_eq, Bool.not_eq_true', decide_eq_false_iff_not, ite_true, ite_false, if_true, if_false, reduceIte, Bool.false_eq_true, Bool.not_true, Bool.not_false, Bool.true_eq_false, decide_true, decide_false, Nat.reduceLeDiff, Nat.reduceLT, i0, i1, e18]
    by_cases h1 : (10 : Int) ^ Int.toNat 18 ≤ c
    · rw [if_pos h1]; congr 1; exact decide_eq_decide.mpr ⟨fun q => ⟨h1, q⟩, fun q => q.2⟩
    · rw [if_neg h1]; congr 1; exact (decide_eq_false fun q => h1 q.1).symm
  · refine sat_seq ?_
    simp only [EV, Ab.isNon, args, List.map, List.length_cons, List.length_nil, List.length_singleton, List.replicate, Nat.reduceSub, Nat.reduceAdd, Nat.zero_add, List.cons_append, List.nil_append, List.getElem?_cons_zero, List.getElem?_cons_succ, List.set_cons_zero, List.set_cons_succ, Option.some.injEq, decide_eq_true_eq, Bool.not_eq_true', decide_eq_false_iff_not, ite_true, ite_false, if_true, if_false, reduceIte, Bool.false_eq_true, Bool.not_true, Bool.not_false, Bool.true_eq_false, decide_true, decide_false, Nat.reduceLeDiff, Nat.reduceLT, i1, n0]
    refine sat_seq ?_
    simp only [EV, Ab.isNon, args, List.map, List.length_cons, List.length_nil, List.length_singleton, List.replicate, Nat.reduceSub, Nat.reduceAdd, Nat.zero_add, List.cons_append, List.nil_append, List.getElem?_cons_zero, List.getElem?_cons_succ, List.set_cons_zero, List.set_cons_succ, Option.some.injEq, decide_eq_true_eq, Bool.not_eq_true', decide_eq_false_iff_not, ite_true, ite_false, if_true, if_false, reduceIte, Bool.false_eq_true, Bool.not_true, Bool.not_false, Bool.true_eq_false, decide_true, decide_false, Nat.reduceLeDiff, Nat.reduceLT, i1, t1, dn]
    exact ⟨⟨_, rfl, Int.emod_nonneg _ (by omega), .inl (Int.emod_lt_of_pos _ n0)⟩, .set hs⟩
  · simp only [EV, Ab.isNon, args, List.map, List.length_cons, List.length_nil, List.length_singleton, List.replicate, Nat.reduceSub, Nat.reduceAdd, Nat.zero_add, List.cons_append, List.nil_append, List.getElem?_cons_zero, List.getElem?_cons_succ, List.set_cons_zero, List.set_cons_succ, Option.some.injEq, decide_eq_true_eq, Bool.not_eq_true', decide_eq_false_iff_not, ite_true, ite_false, if_true, if_false, reduceIte, Bool.false_eq_true, Bool.not_true, Bool.not_false, Bool.true_eq_false, decide_true, decide_false, Nat.reduceLeDiff, Nat.reduceLT]
    refine sat_seq ?_
    simp only [EV, Ab.isNon, args, List.map, List.length_cons, List.length_nil, List.length_singleton, List.replicate, Nat.reduceSub, Nat.reduceAdd, Nat.zero_add, List.cons_append, List.nil_append, List.getElem?_cons_zero, List.getElem?_cons_succ, List.set_cons_zero, List.set_cons_succ, Option.some.injEq, decide_eq_true_eq, Bool.not_eq_true', decide_eq_false_iff_not, ite_true, ite_false, if_true, if_false, reduceIte, Bool.false_eq_true, Bool.not_true, Bool.not_false, Bool.true_eq_false, decide_true, decide_false, Nat.reduceLeDiff, Nat.reduceLT, i0, m1, p1]
    refine sat_seq ?_
    simp only [EV, Ab.isNon, args, List.map, List.length_cons, List.length_nil, List.length_singleton, List.replicate, Nat.reduceSub, Nat.reduceAdd, Nat.zero_add, List.cons_append, List.nil_append, List.getElem?_cons_zero, List.getElem?_cons_succ, List.set_cons_zero, List.set_cons_succ, Option.some.injEq, decide_eq_true_eq, Bool.not_eq_true', decide_eq_false_iff_not, ite_true, ite_false, if_true, if_false, reduceIte, Bool.false_eq_true, Bool.not_true, Bool.not_false, Bool.true_eq_false, decide_true, decide_false, Nat.reduceLeDiff, Nat.reduceLT, m3, p2]
    refine sat_seq ?_
    simp only [EV, Ab.isNon, args, List.map, List.length_cons, List.length_nil, List.length_singleton, List.replicate, Nat.reduceSub, Nat.reduceAdd, Nat.zero_add, List.cons_append, List.nil_append, List.getElem?_cons_zero, List.getElem?_cons_succ, List.set_cons_zero, List.set_cons_succ, Option.some.injEq, decide_eq_true_eq, Bool.not_eq_true', decide_eq_false_iff_not, ite_true, ite_false, if_true, if_false, reduceIte, Bool.false_eq_true, Bool.not_true, Bool.not_false, Bool.true_eq_false, decide_true, decide_false, Nat.reduceLeDiff, Nat.reduceLT, m4, m2, p1]
    simp only [EV, Ab.isNon, args, List.map, List.length_cons, List.length_nil, List.length_singleton, List.replicate, Nat.reduceSub, Nat.reduceAdd, Nat.zero_add, List.cons_append, List.nil_append, List.getElem?_cons_zero, List.getElem?_cons_succ, List.set_cons_zero, List.set_cons_succ, Option.some.injEq, decide_eq_true_eq, Bool.not_eq_true', decide_eq_false_iff_not, ite_true, ite_false, if_true, if_false, reduceIte, Bool.false_eq_true, Bool.not_true, Bool.not_false, Bool.true_eq_false, decide_true, decide_false, Nat.reduceLeDiff, Nat.reduceLT, last, n0]
    exact ⟨⟨_, rfl, Int.emod_nonneg _ (by omega), .inl (Int.emod_lt_of_pos _ n0)⟩, hA⟩
theorem same_refl : ∀ (n : Nat) (d : D) (A : AH), Pl n d → m__law_same (n + 1) [d, d] A = .ok (.bl true) A := by
  intro n
  induction n with
  | zero =>
    intro d A h
    have key : Sat (m__law_same (0 + 1) [d, d] A) fun e A' => e = .bl true ∧ A' = A := by
      refine sat_body rfl (sat_seq ?_)
      cases d with
      | non => simp only [EV, Ab.isNon, args, List.map, List.length_cons, List.length_nil, List.length_singleton, List.replicate, Nat.reduceSub, Nat.reduceAdd, Nat.zero_add, List.cons_append, List.nil_append, List.getElem?_cons_zero, List.getElem?_cons_succ, List.set_cons_zero, List.set_cons_succ, Option.some.injEq, decide_eq_true_eq, Bool.not_eq_true', decide_eq_false_iff_not, ite_true, ite_false, if_true, if_false, reduceIte, Bool.false_eq_true, Bool.not_true, Bool.not_false, Bool.true_eq_false, decide_true, decide_false, Nat.reduceLeDiff, Nat.reduceLT]; refine sat_seq ?_; simp only [EV, Ab.isNon, args, List.map, List.length_cons, List.length_nil, List.length_singleton, List.replicate, Nat.reduceSub, Nat.reduceAdd, Nat.zero_add, List.cons_append, List.nil_append, List.getElem?_cons_zero, List.getElem?_cons_succ, List.set_cons_zero, List.set_cons_succ, Option.some.injEq, decide_eq_true_eq, Bool.not_eq_true', decide_eq_false_iff_not, ite_true, ite_false, if_true, if_false, reduceIte, Bool.false_eq_true, Bool.not_true, Bool.not_false, Bool.true_eq_false, decide_true, decide_false, Nat.reduceLeDiff, Nat.reduceLT]; trivial
      | bl b => simp only [EV, Ab.isNon, args, List.map, List.length_cons, List.length_nil, List.length_singleton, List.replicate, Nat.reduceSub, Nat.reduceAdd, Nat.zero_add, List.cons_append, List.nil_append, List.getElem?_cons_zero, List.getElem?_cons_succ, List.set_cons_zero, List.set_cons_succ, Option.some.injEq, decide_eq_true_eq, Bool.not_eq_true', decide_eq_false_iff_not, ite_true, ite_false, if_true, if_false, reduceIte, Bool.false_eq_true, Bool.not_true, Bool.not_false, Bool.true_eq_false, decide_true, decide_false, Nat.reduceLeDiff, Nat.reduceLT]; refine sat_seq ?_; simp only [EV, Ab.isNon, args, List.map, List.length_cons, List.length_nil, List.length_singleton, List.replicate, Nat.reduceSub, Nat.reduceAdd, Nat.zero_add, List.cons_append, List.nil_append, List.getElem?_cons_zero, List.getElem?_cons_succ, List.set_cons_zero, List.set_cons_succ, Option.some.injEq, decide_eq_true_eq, Bool.not_eq_true', decide_eq_false_iff_not, ite_true, ite_false, if_true, if_false, reduceIte, Bool.false_eq_true, Bool.not_true, Bool.not_false, Bool.true_eq_false, decide_true, decide_false, Nat.reduceLeDiff, Nat.reduceLT]; refine sat_seq ?_; simp only [EV, Ab.isNon, args, List.map, List.length_cons, List.length_nil, List.length_singleton, List.replicate, Nat.reduceSub, Nat.reduceAdd, Nat.zero_add, List.cons_append, List.nil_append, List.getElem?_cons_zero, List.getElem?_cons_succ, List.set_cons_zero, List.set_cons_succ, Option.some.injEq, decide_eq_true_eq, Bool.not_eq_true', decide_eq_false_iff_not, ite_true, ite_false, if_true, if_false, reduceIte, Bool.false_eq_true, Bool.not_true, Bool.not_false, Bool.true_eq_false, decide_true, decide_false, Nat.reduceLeDiff, Nat.reduceLT]; exact ⟨by simp, trivial⟩
      | int b => simp only [EV, Ab.isNon, args, List.map, List.length_cons, List.length_nil, List.length_singleton, List.replicate, Nat.reduceSub, Nat.reduceAdd, Nat.zero_add, List.cons_append, List.nil_append, List.getElem?_cons_zero, List.getElem?_cons_succ, List.set_cons_zero, List.set_cons_succ, Option.some.injEq, decide_eq_true_eq, Bool.not_eq_true', decide_eq_false_iff_not, ite_true, ite_false, if_true, if_false, reduceIte, Bool.false_eq_true, Bool.not_true, Bool.not_false, Bool.true_eq_false, decide_true, decide_false, Nat.reduceLeDiff, Nat.reduceLT]; refine sat_seq ?_; simp only [EV, Ab.isNon, args, List.map, List.length_cons, List.length_nil, List.length_singleton, List.replicate, Nat.reduceSub, Nat.reduceAdd, Nat.zero_add, List.cons_append, List.nil_append, List.getElem?_cons_zero, List.getElem?_cons_succ, List.set_cons_zero, List.set_cons_succ, Option.some.injEq, decide_eq_true_eq, Bool.not_eq_true', decide_eq_false_iff_not, ite_true, ite_false, if_true, if_false, reduceIte, Bool.false_eq_true, Bool.not_true, Bool.not_false, Bool.true_eq_false, decide_true, decide_false, Nat.reduceLeDiff, Nat.reduceLT]; refine sat_seq ?_; simp only [EV, Ab.isNon, args, List.map, List.length_cons, List.length_nil, List.length_singleton, List.replicate, Nat.reduceSub, Nat.reduceAdd, Nat.zero_add, List.cons_append, List.nil_append, List.getElem?_cons_zero, List.getElem?_cons_succ, List.set_cons_zero, List.set_cons_succ, Option.some.injEq, decide_eq_true_eq, Bool.not_eq_true', decide_eq_false_iff_not, ite_true, ite_false, if_true, if_false, reduceIte, Bool.false_eq_true, Bool.not_true, Bool.not_false, Bool.true_eq_false, decide_true, decide_false, Nat.reduceLeDiff, Nat.reduceLT]; refine sat_seq ?_; simp only [EV, Ab.isNon, args, List.map, List.length_cons, List.length_nil, List.length_singleton, List.replicate, Nat.reduceSub, Nat.reduceAdd, Nat.zero_add, List.cons_append, List.nil_append, List.getElem?_cons_zero, List.getElem?_cons_succ, List.set_cons_zero, List.set_cons_succ, Option.some.injEq, decide_eq_true_eq, Bool.not_eq_true', decide_eq_false_iff_not, ite_true, ite_false, if_true, if_false, reduceIte, Bool.false_eq_true, Bool.not_true, Bool.not_false, Bool.true_eq_false, decide_true, decide_false, Nat.reduceLeDiff, Nat.reduceLT]; exact ⟨by simp, trivial⟩
      | str b => simp only [EV, Ab.isNon, args, List.map, List.length_cons, List.length_nil, List.length_singleton, List.replicate, Nat.reduceSub, Nat.reduceAdd, Nat.zero_add, List.cons_append, List.nil_append, List.getElem?_cons_zero, List.getElem?_cons_succ, List.set_cons_zero, List.set_cons_succ, Option.some.injEq, decide_eq_true_eq, Bool.not_eq_true', decide_eq_false_iff_not, ite_true, ite_false, if_true, if_false, reduceIte, Bool.false_eq_true, Bool.not_true, Bool.not_false, Bool.true_eq_false, decide_true, decide_false, Nat.reduceLeDiff, Nat.reduceLT]; refine sat_seq ?_; simp only [EV, Ab.isNon, args, List.map, List.length_cons, List.length_nil, List.length_singleton, List.replicate, Nat.reduceSub, Nat.reduceAdd, Nat.zero_add, List.cons_append, List.nil_append, List.getElem?_cons_zero, List.getElem?_cons_succ, List.set_cons_zero, List.set_cons_succ, Option.some.injEq, decide_eq_true_eq, Bool.not_eq_true', decide_eq_false_iff_not, ite_true, ite_false, if_true, if_false, reduceIte, Bool.false_eq_true, Bool.not_true, Bool.not_false, Bool.true_eq_false, decide_true, decide_false, Nat.reduceLeDiff, Nat.reduceLT]; refine sat_seq ?_; simp only [EV, Ab.isNon, args, List.map, List.length_cons, List.length_nil, List.length_singleton, List.replicate, Nat.reduceSub, Nat.reduceAdd, Nat.zero_add, List.cons_append, List.nil_append, List.getElem?_cons_zero, List.getElem?_cons_succ, List.set_cons_zero, List.set_cons_succ, Option.some.injEq, decide_eq_true_eq, Bool.not_eq_true', decide_eq_false_iff_not, ite_true, ite_false, if_true, if_false, reduceIte, Bool.false_eq_true, Bool.not_true, Bool.not_false, Bool.true_eq_false, decide_true, decide_false, Nat.reduceLeDiff, Nat.reduceLT]; refine sat_seq ?_; simp only [EV, Ab.isNon, args, List.map, List.length_cons, List.length_nil, List.length_singleton, List.replicate, Nat.reduceSub, Nat.reduceAdd, Nat.zero_add, List.cons_append, List.nil_append, List.getElem?_cons_zero, List.getElem?_cons_succ, List.set_cons_zero, List.set_cons_succ, Option.some.injEq, decide_eq_true_eq, Bool.not_eq_true', decide_eq_false_iff_not, ite_true, ite_false, if_true, if_false, reduceIte, Bool.false_eq_true, Bool.not_true, Bool.not_false, Bool.true_eq_false, decide_true, decide_false, Nat.reduceLeDiff, Nat.reduceLT]; exact ⟨by simp, trivial⟩
      | tup ds => exact h.elim
      | ref _ => exact h.elim
    obtain ⟨e, A', h1, rfl, rfl⟩ := key.eq
    exact h1
  | succ n ih =>
    intro d A h
    have key : Sat (m__law_same (n + 1 + 1) [d, d] A) fun e A' => e = .bl true ∧ A' = A := by
      refine sat_body rfl (sat_seq ?_)
      cases d with
      | non => simp only [EV, Ab.isNon, args, List.map, List.length_cons, List.length_nil, List.length_singleton, List.replicate, Nat.reduceSub, Nat.reduceAdd, Nat.zero_add, List.cons_append, List.nil_append, List.getElem?_cons_zero, List.getElem?_cons_succ, List.set_cons_zero, List.set_cons_succ, Option.some.injEq, decide_eq_true_eq, Bool.not_eq_true', decide_eq_false_iff_not, ite_true, ite_false, if_true, if_false, reduceIte, Bool.false_eq_true, Bool.not_true, Bool.not_false, Bool.true_eq_false, decide_true, decide_false, Nat.reduceLeDiff, Nat.reduceLT]; refine sat_seq ?_; simp only [EV, Ab.isNon, args, List.map, List.length_cons, List.length_nil, List.length_singleton, List.replicate, Nat.reduceSub, Nat.reduceAdd, Nat.zero_add, List.cons_append, List.nil_append, List.getElem?_cons_zero, List.getElem?_cons_succ, List.set_cons_zero, List.set_cons_succ, Option.some.injEq, decide_eq_true_eq, Bool.not_eq_true', decide_eq_false_iff_not, ite_true, ite_false, if_true, if_false, reduceIte, Bool.false_eq_true, Bool.not_true, Bool.not_false, Bool.true_eq_false, decide_true, decide_false, Nat.reduceLeDiff, Nat.reduceLT]; trivial
      | bl b => simp only [EV, Ab.isNon, args, List.map, List.length_cons, List.length_nil, List.length_singleton, List.replicate, Nat.reduceSub, Nat.reduceAdd, Nat.zero_add, List.cons_append, List.nil_append, List.getElem?_cons_zero, List.getElem?_cons_succ, List.set_cons_zero, List.set_cons_succ, Option.some.injEq, decide_eq_true_eq, Bool.not_eq_true', decide_eq_false_iff_not, ite_true, ite_false, if_true, if_false, reduceIte, Bool.false_eq_true, Bool.not_true, Bool.not_false, Bool.true_eq_false, decide_true, decide_false, Nat.reduceLeDiff, Nat.reduceLT]; refine sat_seq ?_; simp only [EV, Ab.isNon, args, List.map, List.length_cons, List.length_nil, List.length_singleton, List.replicate, Nat.reduceSub, Nat.reduceAdd, Nat.zero_add, List.cons_append, List.nil_append, List.getElem?_cons_zero, List.getElem?_cons_succ, List.set_cons_zero, List.set_cons_succ, Option.some.injEq, decide_eq_true_eq, Bool.not_eq_true', decide_eq_false_iff_not, ite_true, ite_false, if_true, if_false, reduceIte, Bool.false_eq_true, Bool.not_true, Bool.not_false, Bool.true_eq_false, decide_true, decide_false, Nat.reduceLeDiff, Nat.reduceLT]; refine sat_seq ?_; simp only [EV, Ab.isNon, args, List.map, List.length_cons, List.length_nil, List.length_singleton, List.replicate, Nat.reduceSub, Nat.reduceAdd, Nat.zero_add, List.cons_append, List.nil_append, List.getElem?_cons_zero, List.getElem?_cons_succ, List.set_cons_zero, List.set_cons_succ, Option.some.injEq, decide_eq_true_eq, Bool.not_eq_true', decide_eq_false_iff_not, ite_true, ite_false, if_true, if_false, reduceIte, Bool.false_eq_true, Bool.not_true, Bool.not_false, Bool.true_eq_false, decide_true, decide_false, Nat.reduceLeDiff, Nat.reduceLT]; exact ⟨by simp, trivial⟩
      | int b => simp only [EV, Ab.isNon, args, List.map, List.length_cons, List.length_nil, List.length_singleton, List.replicate, Nat.reduceSub, Nat.reduceAdd, Nat.zero_add, List.cons_append, List.nil_append, List.getElem?_cons_zero, List.getElem?_cons_succ, List.set_cons_zero, List.set_cons_succ, Option.some.injEq, decide_eq_true_eq, Bool.not_eq_true', decide_eq_false_iff_not, ite_true, ite_false, if_true, if_false, reduceIte, Bool.false_eq_true, Bool.not_true, Bool.not_false, Bool.true_eq_false, decide_true, decide_false, Nat.reduceLeDiff, Nat.reduceLT]; refine sat_seq ?_; simp only [EV, Ab.isNon, args, List.map, List.length_cons, List.length_nil, List.length_singleton, List.replicate, Nat.reduceSub, Nat.reduceAdd, Nat.zero_add, List.cons_append, List.nil_append, List.getElem?_cons_zero, List.getElem?_cons_succ, List.set_cons_zero, List.set_cons_succ, Option.some.injEq, decide_eq_true_eq, Bool.not_eq_true', decide_eq_false_iff_not, ite_true, ite_false, if_true, if_false, reduceIte, Bool.false_eq_true, Bool.not_true, Bool.not_false, Bool.true_eq_false, decide_true, decide_false, Nat.reduceLeDiff, Nat.reduceLT]; refine sat_seq ?_; simp only [EV, Ab.isNon, args, List.map, List.length_cons, List.length_nil, List.length_singleton, List.replicate, Nat.reduceSub, Nat.reduceAdd, Nat.zero_add, List.cons_append, List.nil_append, List.getElem?_cons_zero, List.getElem?_cons_succ, List.set_cons_zero, List.set_cons_succ, Option.some.injEq, decide_eq_true_eq, Bool.not_eq_true', decide_eq_false_iff_not, ite_true, ite_false, if_true, if_false, reduceIte, Bool.false_eq_true, Bool.not_true, Bool.not_false, Bool.true_eq_false, decide_true, decide_false, Nat.reduceLeDiff, Nat.reduceLT]; refine sat_seq ?_; simp only [EV, Ab.isNon, args, List.map, List.length_cons, List.length_nil, List.length_singleton, List.replicate, Nat.reduceSub, Nat.reduceAdd, Nat.zero_add, List.cons_append, List.nil_append, List.getElem?_cons_zero, List.getElem?_cons_succ, List.set_cons_zero, List.set_cons_succ, Option.some.injEq, decide_eq_true_eq, Bool.not_eq_true', decide_eq_false_iff_not, ite_true, ite_false, if_true, if_false, reduceIte, Bool.false_eq_true, Bool.not_true, Bool.not_false, Bool.true_eq_false, decide_true, decide_false, Nat.reduceLeDiff, Nat.reduceLT]; exact ⟨by simp, trivial⟩
      | str b => simp only [EV, Ab.isNon, args, List.map, List.length_cons, List.length_nil, List.length_singleton, List.replicate, Nat.reduceSub, Nat.reduceAdd, Nat.zero_add, List.cons_append, List.nil_append, List.getElem?_cons_zero, List.getElem?_cons_succ, List.set_cons_zero, List.set_cons_succ, Option.some.injEq, decide_eq_true_eq, Bool.not_eq_true', decide_eq_false_iff_not, ite_true, ite_false, if_true, if_false, reduceIte, Bool.false_eq_true, Bool.not_true, Bool.not_false, Bool.true_eq_false, decide_true, decide_false, Nat.reduceLeDiff, Nat.reduceLT]; refine sat_seq ?_; simp only [EV, Ab.isNon, args, List.map, List.length_cons, List.length_nil, List.length_singleton, List.replicate, Nat.reduceSub, Nat.reduceAdd, Nat.zero_add, List.cons_append, List.nil_append, List.getElem?_cons_zero, List.getElem?_cons_succ, List.set_cons_zero, List.set_cons_succ, Option.some.injEq, decide_eq_true_eq, Bool.not_eq_true', decide_eq_false_iff_not, ite_true, ite_false, if_true, if_false, reduceIte, Bool.false_eq_true, Bool.not_true, Bool.not_false, Bool.true_eq_false, decide_true, decide_false, Nat.reduceLeDiff, Nat.reduceLT]; refine sat_seq ?_; simp only [EV, Ab.isNon, args, List.map, List.length_cons, List.length_nil, List.length_singleton, List.replicate, Nat.reduceSub, Nat.reduceAdd, Nat.zero_add, List.cons_append, List.nil_append, List.getElem?_cons_zero, List.getElem?_cons_succ, List.set_cons_zero, List.set_cons_succ, Option.some.injEq, decide_eq_true_eq, Bool.not_eq_true', decide_eq_false_iff_not, ite_true, ite_false, if_true, if_false, reduceIte, Bool.false_eq_true, Bool.not_true, Bool.not_false, Bool.true_eq_false, decide_true, decide_false, Nat.reduceLeDiff, Nat.reduceLT]; refine sat_seq ?_; simp only [EV, Ab.isNon, args, List.map, List.length_cons, List.length_nil, List.length_singleton, List.replicate, Nat.reduceSub, Nat.reduceAdd, Nat.zero_add, List.cons_append, List.nil_append, List.getElem?_cons_zero, List.getElem?_cons_succ, List.set_cons_zero, List.set_cons_succ, Option.some.injEq, decide_eq_true_eq, Bool.not_eq_true', decide_eq_false_iff_not, ite_true, ite_false, if_true, if_false, reduceIte, Bool.false_eq_true, Bool.not_true, Bool.not_false, Bool.true_eq_false, decide_true, decide_false, Nat.reduceLeDiff, Nat.reduceLT]; exact ⟨by simp, trivial⟩
      | ref _ => exact h.elim
      | tup ds =>
        obtain ⟨hl, hd⟩ := h
        simp only [EV, Ab.isNon, args, List.map, List.length_cons, List.length_nil, List.length_singleton, List.replicate, Nat.reduceSub, Nat.reduceAdd, Nat.zero_add, List.cons_append, List.nil_append, List.getElem?_cons_zero, List.getElem?_cons_succ, List.set_cons_zero, List.set_cons_succ, Option.some.injEq, decide_eq_true_eq, Bool.not_eq_true', decide_eq_false_iff_not, ite_true, ite_false, if_true, if_false, reduceIte, Bool.false_eq_true, Bool.not_true, Bool.not_false, Bool.true_eq_false, decide_true, decide_false, Nat.reduceLeDiff, Nat.reduceLT]
        refine sat_seq (sat_seq ?_)
        simp only [EV, Ab.isNon, args, List.map, List.length_cons, List.length_nil, List.length_singleton, List.replicate, Nat.reduceSub, Nat.reduceAdd, Nat.zero_add, List.cons_append, List.nil_append, List.getElem?_cons_zero, List.getElem?_cons_succ, List.set_cons_zero, List.set_cons_succ, Option.some.injEq, decide_eq_true_eq, Bool.not_eq_true', decide_eq_false_iff_not, ite_true, ite_false, if_true, if_false, reduceIte, Bool.false_eq_true, Bool.not_true, Bool.not_false, Bool.true_eq_false, decide_true, decide_false, Nat.reduceLeDiff, Nat.reduceLT]
        refine sat_seq ?_
        simp only [EV, Ab.isNon, args, List.map, List.length_cons, List.length_nil, List.length_singleton, List.replicate, Nat.reduceSub, Nat.reduceAdd, Nat.zero_add, List.cons_append, List.nil_append, List.getElem?_cons_zero, List.getElem?_cons_succ, List.set_cons_zero, List.set_cons_succ, Option.some.injEq, decide_eq_true_eq, Bool.not_eq_true', decide_eq_false_iff_not, ite_true, ite_false, if_true, if_false, reduceIte, Bool.false_eq_true, Bool.not_true, Bool.not_false, Bool.true_eq_false, decide_true, decide_false, Nat.reduceLeDiff, Nat.reduceLT]
        have hz : InRg (ds.length : Int) := inRg_nat (by omega)
        rw [if_pos hz, Int.toNat_natCast]
        refine range_inv (fun k s A' => A' = A ∧ ∃ y, s = [some (.tup ds), some (.tup ds), y]) (fun k s A' hk ⟨hA, y, hs⟩ => ?_) (fun s A' ⟨hA, y, hs⟩ => ?_) ⟨rfl, none, rfl⟩
        · subst hA; subst hs
          have g : ds[k]? = some ds[k] := List.getElem?_eq_getElem hk
          have ix : ixD (.tup ds) (.int (0 + (k : Nat))) A' = .ok ds[k] A' := ev_ix_t (by rw [atI_pos (by omega)]; rw [show (0 + (k : Nat) : Int).toNat = k by omega]; exact g)
          have rc : m__law_same (n + 1) [ds[k], ds[k]] A' = .ok (.bl true) A' := ih ds[k] A' (hd _ (List.getElem_mem hk))
          simp only [EV, Ab.isNon, args, List.map, List.length_cons, List.length_nil, List.length_singleton, List.replicate, Nat.reduceSub, Nat.reduceAdd, Nat.zero_add, List.cons_append, List.nil_append, List.getElem?_cons_zero, List.getElem?_cons_succ, List.set_cons_zero, List.set_cons_succ, Option.some.injEq, decide_eq_true_eq, Bool.not_eq_true', decide_eq_false_iff_not, ite_true, ite_false, if_true, if_false, reduceIte, Bool.false_eq_true, Bool.not_true, Bool.not_false, Bool.true_eq_false, decide_true, decide_false, Nat.reduceLeDiff, Nat.reduceLT, ix, rc, turn_]
          exact ⟨trivial, _, rfl⟩
        · subst hA; subst hs
          simp only [EV, Ab.isNon, args, List.map, List.length_cons, List.length_nil, List.length_singleton, List.replicate, Nat.reduceSub, Nat.reduceAdd, Nat.zero_add, List.cons_append, List.nil_append, List.getElem?_cons_zero, List.getElem?_cons_succ, List.set_cons_zero, List.set_cons_succ, Option.some.injEq, decide_eq_true_eq, Bool.not_eq_true', decide_eq_false_iff_not, ite_true, ite_false, if_true, if_false, reduceIte, Bool.false_eq_true, Bool.not_true, Bool.not_false, Bool.true_eq_false, decide_true, decide_false, Nat.reduceLeDiff, Nat.reduceLT, thn_]
          first | trivial | exact ⟨trivial, trivial⟩
    obtain ⟨e, A', h1, rfl, rfl⟩ := key.eq
    exact h1

/-! ### the helpers that draw -/
theorem cell_spec {A : AH} {ns : List Int} {k : Nat} (h : A[0]? = some (.frz (ns.map D.int))) (hl : ns.length ≤ 63) : ∃ v, m__law_cell [.ref 0, .int (k : Int)] A = .ok (.int v) A := by
  have key : Sat (m__law_cell [.ref 0, .int (k : Int)] A) fun d A' => (∃ v, d = .int v) ∧ A' = A := by
    refine sat_body rfl (sat_seq ?_)
    have ln : lenD [.ref 0] A = .ok (.int ((ns.map D.int).length : Nat)) A := ev_len_r (rdL_f h)
    simp only [EV, Ab.isNon, args, List.map, List.length_cons, List.length_nil, List.length_singleton, List.replicate, Nat.reduceSub, Nat.reduceAdd, Nat.zero_add, List.cons_append, List.nil_append, List.getElem?_cons_zero, List.getElem?_cons_succ, List.set_cons_zero, List.set_cons_succ, Option.some.injEq, decide_eq_true_eq, Bool.not_eq_true', decide_eq_false_iff_not, ite_true, ite_false, if_true, if_false, reduceIte, Bool.false_eq_true, Bool.not_true, Bool.not_false, Bool.true_eq_false, decide_true, decide_false, Nat.reduceLeDiff, Nat.reduceLT, ln]
    split
    · rename_i hk
      rw [List.length_map] at hk
      have hk' : k < ns.length := by omega
      have ix : ixD (.ref 0) (.int (k : Int)) A = .ok (.int ns[k]) A := ev_ix_r (rdL_f h) (by rw [atI_pos (by omega), Int.toNat_natCast, List.getElem?_map, List.getElem?_eq_getElem hk']; rfl)
      rw [ix]
      exact ⟨⟨_, rfl⟩, rfl⟩
    · exact ⟨⟨_, rfl⟩, trivial⟩
  obtain ⟨d, A', e, ⟨v, rfl⟩, rfl⟩ := key.eq
  exact ⟨v, e⟩
theorem source_spec {A : AH} {c : Int} : m__law_source [.int c] A = .ok (.ref A.length) (A ++ [.lst [.int c, .int c, .int 0]]) := by
  have key : Sat (m__law_source [.int c] A) fun d A' => d = .ref A.length ∧ A' = A ++ [.lst [.int c, .int c, .int 0]] := by
    refine sat_body rfl ?_
    unfold p__law_source
    simp only [EV, Ab.isNon, args, List.map, List.length_cons, List.length_nil, List.length_singleton, List.replicate, Nat.reduceSub, Nat.reduceAdd, Nat.zero_add, List.cons_append, List.nil_append, List.getElem?_cons_zero, List.getElem?_cons_succ, List.set_cons_zero, List.set_cons_succ, Option.some.injEq, decide_eq_true_eq, Bool.not_eq_true', decide_eq_false_iff_not, ite_true, ite_false, if_true, if_false, reduceIte, Bool.false_eq_true, Bool.not_true, Bool.not_false, Bool.true_eq_false, decide_true, decide_false, Nat.reduceLeDiff, Nat.reduceLT]
    trivial
  obtain ⟨d, A', e, rfl, rfl⟩ := key.eq
  exact e
theorem pick_pos {A : AH} {s : Nat} {n : Int} (hs : Sr s A) (h0 : 0 < n) (hn : n < 2 ^ 100) : DrwS s A (m__law_pick [.ref s, .int n] A) fun d => ∃ v, d = .int v ∧ 0 ≤ v ∧ v < n :=
  (pick_spec hs hn).imp fun d ⟨v, e, h1, h2⟩ => ⟨v, e, h1, by omega⟩
/-- a proof is cut at a statement -/
theorem sat_mid {p r : FS} {σ : ASt} {A : AH} {P : Fl → AH → Prop} (I : ASt → AH → Prop) (h : Sat (p σ A) fun fl B => ∃ σ', fl = .nx σ' ∧ I σ' B) (k : ∀ σ' B, I σ' B → Sat (r σ' B) P) : Sat (fSeq p r σ A) P :=
  sat_seq (Sat.imp h fun fl B ⟨σ', e, hi⟩ => by subst e; exact k _ _ hi)
end Law

namespace Law
open PySem PySem.Spec PyProof.Rows L2 Ab
open scoped Classical
/-! ### dicts, texts in lists -/
theorem ixa {d : D} {ds : List D} {A : AH} : ixD (.tup (d :: ds)) (.int 0) A = .ok d A := ev_ix_t (by rw [atI_pos (by decide)]; rfl)
theorem ixb {d e : D} {ds : List D} {A : AH} : ixD (.tup (d :: e :: ds)) (.int 1) A = .ok e A := ev_ix_t (by rw [atI_pos (by decide)]; rfl)
theorem ixc {d e f : D} {ds : List D} {A : AH} : ixD (.tup (d :: e :: f :: ds)) (.int 2) A = .ok f A := ev_ix_t (by rw [atI_pos (by decide)]; rfl)
theorem ixk {w : Nat} {x : Str} {v : D} {kvs : List (Key × D)} {A : AH} (h : A[w]? = some (.dic kvs)) (g : getK kvs (.inr x) = some v) : ixD (.ref w) (.str x) A = .ok v A := by
  show (match rdK A (.ref w) with
    | some kvs => (match getK kvs (.inr x) with | some v => Res.ok v A | none => .bad)
    | none => .bad) = _
  rw [show rdK A (.ref w) = some kvs by simp only [rdK, h]]
  simp only [g]
theorem eq_sc {d e : D} {b : Bool} {A : AH} (h : scalD d e = some b) : eqD d e A = .ok (.bl b) A := by
  unfold eqD eqB; rw [h]; rfl
theorem ne_sc {d e : D} {b : Bool} {A : AH} (h : scalD d e = some b) : neD d e A = .ok (.bl (!b)) A := by
  unfold neD eqB; rw [h]; rfl
theorem toVs_str : ∀ xs : List Str, toVs (xs.map D.str) = some (xs.map V.str)
  | [] => rfl
  | x :: xs => by simp only [List.map_cons, toVs, toV, toVs_str xs]
theorem in_lst {r : Nat} {xs : List Str} {x : Str} {A : AH} (h : A[r]? = some (.lst (xs.map D.str))) : inD (.str x) (.ref r) A = .ok (.bl (xs.any fun y => y == x)) A := by
  have k : rdK A (.ref r) = none := by simp only [rdK, h]
  have s : rdS A (.ref r) = some (xs.map D.str) := rdL_l h
  have e : inB (.str x) (.ref r) A = some (inV (.str x) (xs.map V.str)) := by simp only [inB, k, s, toVs_str, toV]
  have z : inV (.str x) (xs.map V.str) = xs.any fun y => y == x := by unfold inV; rw [List.any_map]; rfl
  unfold inD; rw [e, z]; rfl
theorem first_str {x : Str} : ∀ {xs : List Str} {j : Nat} {k : Nat}, xs[j]? = some x → xs.Nodup → firstV (.str x) (xs.map V.str) k = some (k + j)
  | [], j, k, h, _ => by cases h
  | y :: xs, 0, k, h, _ => by
    cases h
    show (if eqV (.str x) (.str x) = true then some k else _) = _
    rw [if_pos (by show (x == x) = true; simp)]; rfl
  | y :: xs, j + 1, k, h, nd => by
    have h : xs[j]? = some x := h
    have ne : ¬ y = x := fun e => (List.nodup_cons.mp nd).1 (by rw [e]; exact List.mem_of_getElem? h)
    show (if eqV (.str y) (.str x) = true then some k else firstV (.str x) (xs.map V.str) (k + 1)) = _
    rw [if_neg (by show ¬ (y == x) = true; simpa using ne), first_str h (List.nodup_cons.mp nd).2]
    congr 1; omega
theorem index_lst {r j : Nat} {xs : List Str} {x : Str} {A : AH} (h : A[r]? = some (.lst (xs.map D.str))) (hx : xs[j]? = some x) (nd : xs.Nodup) : indexD (.ref r) [.str x] A = .ok (.int (j : Nat)) A := by
  show (match rdL A (.ref r) with
    | some xs => (match toV (.str x), toVs xs with
      | some v, some vs => (match firstV v vs 0 with
        | some j => Res.ok (D.int (j : Nat)) A
        | none => .bad)
      | _, _ => .bad)
    | none => .bad) = _
  rw [rdL_l h]
  simp only [toVs_str, toV, first_str hx nd, Nat.zero_add]
theorem getK_set (kvs : List (Key × D)) (k k' : Key) (v : D) : getK (setK kvs k v) k' = if k' = k then some v else getK kvs k' := by
  have e1 : ∀ (kvs : List (Key × D)), getK kvs k' = match kvs with | [] => none | p :: r => if p.1 = k' then some p.2 else getK r k' := fun kvs => by
    cases kvs with
    | nil => rfl
    | cons p r => by_cases h : p.1 = k' <;> simp [getK, List.find?_cons, h]
  have any : ∀ kvs : List (Key × D), (kvs.any fun kv => decide (kv.1 = k)) = false → getK (kvs ++ [(k, v)]) k' = if k' = k then some v else getK kvs k' := by
    intro kvs
    induction kvs with
    | nil => intro _; by_cases h : k' = k <;> simp [getK, List.find?_cons, h, Eq.comm]
    | cons p r ih =>
      intro ha
      rw [List.any_cons, Bool.or_eq_false_iff] at ha
      rw [List.cons_append, e1 (p :: (r ++ [(k, v)])), e1 (p :: r)]
      simp only
      rw [ih ha.2]
      by_cases h : p.1 = k'
      · have : ¬ k' = k := fun q => by simpa [h, q] using ha.1
        rw [if_pos h, if_neg this, if_pos h]
      · rw [if_neg h, if_neg h]
  have map : ∀ kvs : List (Key × D), getK (kvs.map fun kv => if kv.1 = k then (kv.1, v) else kv) k' = if k' = k then (if (kvs.any fun kv => decide (kv.1 = k)) = true then some v else none) else getK kvs k' := by
    intro kvs
    induction kvs with
    | nil => by_cases h : k' = k <;> simp [getK, h]
    | cons p r ih =>
      rw [List.map_cons, e1 ((if p.1 = k then (p.1, v) else p) :: _), e1 (p :: r)]
      simp only
      rw [ih, List.any_cons]
      by_cases h : p.1 = k
      · rw [if_pos h]
        by_cases h2 : k' = k
        · simp [h, h2]
        · simp only [h2, if_false]
          rw [if_neg (by rw [h]; exact fun q => h2 q.symm), if_neg (by rw [h]; exact fun q => h2 q.symm)]
      · rw [if_neg h]
        by_cases h2 : k' = k
        · simp only [h2, h, if_true, if_false, decide_false, Bool.false_or]
        · simp only [h2, if_false]
  unfold setK
  by_cases h : (kvs.any fun kv => decide (kv.1 = k)) = true
  · rw [if_pos h, map, if_pos h]
  · rw [if_neg h]; exact any kvs (Bool.eq_false_iff.mpr h)
theorem keys_set (kvs : List (Key × D)) (k : Key) (v : D) : (setK kvs k v).map (·.1) = if k ∈ kvs.map (·.1) then kvs.map (·.1) else kvs.map (·.1) ++ [k] := by
  have e : (kvs.any fun kv => decide (kv.1 = k)) = true ↔ k ∈ kvs.map (·.1) := by
    rw [List.any_eq_true, List.mem_map]
    exact ⟨fun ⟨p, hp, h⟩ => ⟨p, hp, of_decide_eq_true h⟩, fun ⟨p, hp, h⟩ => ⟨p, hp, decide_eq_true h⟩⟩
  unfold setK
  by_cases h : (kvs.any fun kv => decide (kv.1 = k)) = true
  · rw [if_pos h, if_pos (e.mp h), List.map_map]
    apply List.map_congr_left
    intro p _
    by_cases q : p.1 = k <;> simp [q]
  · rw [if_neg h, if_neg fun q => h (e.mpr q)]; simp
theorem mem_set {kvs : List (Key × D)} {k : Key} {v : D} {p : Key × D} (h : p ∈ setK kvs k v) : p ∈ kvs ∨ p.2 = v := by
  unfold setK at h
  split at h
  · obtain ⟨q, hq, e⟩ := List.mem_map.mp h
    split at e
    · exact .inr (by rw [← e])
    · exact .inl (by rw [← e]; exact hq)
  · rcases List.mem_append.mp h with h | h
    · exact .inl h
    · cases List.mem_singleton.mp h; exact .inr rfl
structure Dk (kvs : List (Key × D)) (ks : List Key) : Prop where
  keys : kvs.map (·.1) = ks
  nd : ks.Nodup
  pl : ∀ p ∈ kvs, ∃ v, toV p.2 = some v
noncomputable def addKey (ks : List Key) (x : Str) : List Key := if (Sum.inr x : Key) ∈ ks then ks else ks ++ [.inr x]
theorem Dk.set {kvs : List (Key × D)} {ks : List Key} (h : Dk kvs ks) {x : Str} {d : D} {v : V} (hv : toV d = some v) : Dk (setK kvs (.inr x) d) (addKey ks x) := by
  refine ⟨by rw [keys_set, h.keys]; rfl, ?_, fun p hp => ?_⟩
  · unfold addKey
    split
    · exact h.nd
    · rename_i q
      rw [List.nodup_append]
      exact ⟨h.nd, by simp, fun a ha b hb => by cases List.mem_singleton.mp hb; exact fun e => q (e ▸ ha)⟩
  · rcases mem_set hp with q | q
    · exact h.pl p q
    · exact ⟨v, by rw [q]; exact hv⟩
theorem Dk.get {kvs : List (Key × D)} {ks : List Key} (h : Dk kvs ks) : ∀ p ∈ kvs, getK kvs p.1 = some p.2 := by
  have nd : (kvs.map (·.1)).Nodup := by rw [h.keys]; exact h.nd
  clear h
  induction kvs with
  | nil => intro p hp; cases hp
  | cons q r ih =>
    intro p hp
    rw [List.map_cons, List.nodup_cons] at nd
    rcases List.mem_cons.mp hp with e | e
    · subst e; simp [getK, List.find?_cons]
    · have : ¬ q.1 = p.1 := fun z => nd.1 (by rw [z]; exact List.mem_map.mpr ⟨p, e, rfl⟩)
      have := ih nd.2 p e
      simp [getK, List.find?_cons, *] at this ⊢
      assumption
theorem Dk.alike {kvs : List (Key × D)} {ks : List Key} (h : Dk kvs ks) : alike kvs kvs := ⟨rfl, fun p hp => by
  obtain ⟨v, hv⟩ := h.pl p hp
  exact ⟨v, hv, p.2, h.get p hp, hv⟩⟩
theorem str_len (x y : Str) : (x ++ y).length = x.length + y.length := by
  show (x.cps ++ y.cps).size = x.cps.size + y.cps.size
  simp
theorem num_len {i : Int} (h : i.natAbs < 10 ^ 12) : (Str.ofString (toString i)).length ≤ 13 := by
  rw [PySem.ofString_length]
  exact int_text_length_le10 (k := 12) (by decide) h
theorem num_log {i : Int} (h : i.natAbs < 10 ^ 12) : i.natAbs.log2 < 1920 := by
  by_cases e : i.natAbs = 0
  · rw [e]; decide
  · refine (Nat.log2_lt e).mpr (Nat.lt_trans h ?_)
    exact Nat.lt_of_lt_of_le (show 10 ^ 12 < 2 ^ 50 by decide) (Nat.pow_le_pow_right (by decide) (by decide))
theorem ev_str_i {i : Int} {A : AH} (z : i.natAbs < 10 ^ 12) : strD [.int i] A = .ok (.str (toString i)) A := if_pos (num_log z)
theorem add_ss {x y : Str} {A : AH} (z : (x ++ y).length ≤ 1000000) : addD (.str x) (.str y) A = .ok (.str (x ++ y)) A := ev_add_ss (by rw [str_len] at z; exact Nat.le_trans z (by decide))
theorem st_k {n : Nat} {kvs : List (Key × D)} {x : Str} {v : D} {A : AH} (h : A[n]? = some (.dic kvs)) (z : kvs.length < 1000000) : stD (.ref n) (.str x) v A = .ok () (A.set n (.dic (setK kvs (.inr x) v))) := by
  show (match A[n]? with
    | some (.lst xs) => _
    | some (.dic kvs) => (match keyOf (.str x) with
      | some k => if kvs.length < sizeLine then Res.ok () (A.set n (.dic (setK kvs k v))) else .bad
      | none => .bad)
    | _ => _) = _
  rw [h]
  exact if_pos (Nat.lt_of_lt_of_le z (by decide))
theorem Dk.len {kvs : List (Key × D)} {ks : List Key} (h : Dk kvs ks) : kvs.length = ks.length := by rw [← h.keys, List.length_map]
theorem nd_at {ns : List Str} {x : Str} {i j : Nat} (nd : ns.Nodup) (hi : ns[i]? = some x) (hj : ns[j]? = some x) : i = j := by
  have h := (first_str (k := 0) hi nd).symm.trans (first_str (k := 0) hj nd)
  have := Option.some.inj h
  omega
theorem rdM_d {r : Nat} {kvs : List (Key × D)} {A : AH} (h : A[r]? = some (.dic kvs)) : rdM A (.ref r) = some kvs := by simp only [rdM, h]
theorem rdK_d {r : Nat} {kvs : List (Key × D)} {A : AH} (h : A[r]? = some (.dic kvs)) : rdK A (.ref r) = some kvs := by simp only [rdK, h]
theorem dic_of {p : Nat} {ks : List (Key × D)} {A : AH} (hp : A[p]? = some (.dic ks)) : dicOf [.ref p] A = .ok (.ref A.length) (A ++ [.dic ks]) := by
  show (match rdM A (.ref p) with
    | some kvs => Ab.alloc (.dic kvs) A
    | none => .bad) = _
  rw [rdM_d hp]; rfl
theorem cell0 {A : AH} {ns : List Int} {k : Int} (h : A[0]? = some (.frz (ns.map D.int))) (hl : ns.length ≤ 63) (h0 : 0 ≤ k) : ∃ v, m__law_cell [.ref 0, .int k] A = .ok (.int v) A := by
  obtain ⟨v, e⟩ := cell_spec (k := k.toNat) h hl
  exact ⟨v, by rw [Int.toNat_of_nonneg h0] at e; exact e⟩
theorem src_new {A : AH} {v : Int} : Sr A.length (A ++ [.lst [.int v, .int v, .int 0]]) := ⟨v, v, 0, at_new⟩
end Law

namespace Law
open PySem PySem.Spec PyProof.Rows L2 Ab
open scoped Classical
/-! ### the twenty names -/
def base (k : Nat) : Str := ⟨#[(("bcdeghijklmnopqrtuvw" : Str).cps.toList.getD k 0)]⟩
def nmS (v k : Nat) : Str := match v with
  | 3 => "n" ++ (toString ((k : Int) * (k : Int) + 3) : Str)
  | 2 => "zz" ++ base k
  | 1 => base k ++ "q7"
  | _ => base k
theorem names_spec {s : Nat} {A : AH} (hs : Sr s A) : Sat (m__law_names [.ref s] A) fun e A' => Dr s A A' ∧ ∃ r v, e = .ref r ∧ A.length ≤ r ∧ v < 4 ∧ A'[r]? = some (.lst (((List.range 20).map (nmS v)).map D.str)) := by
  have sl := hs.lt
  refine sat_body rfl (sat_seq ?_)
  simp only [EV, Ab.isNon, args, List.map, List.length_cons, List.length_nil, List.length_singleton, List.replicate, Nat.reduceSub, Nat.reduceAdd, Nat.zero_add, List.cons_append, List.nil_append, List.getElem?_cons_zero, List.getElem?_cons_succ, List.set_cons_zero, List.set_cons_succ, Option.some.injEq, decide_eq_true_eq, Bool.not_eq_true', decide_eq_false_iff_not, ite_true, ite_false, if_true, if_false, reduceIte, Bool.false_eq_true, Bool.not_true, Bool.not_false, Bool.true_eq_false, decide_true, decide_false, Nat.reduceLeDiff, Nat.reduceLT]
  refine Sat.imp (pick_pos hs (n := 4) (by decide) (by decide)) fun d A1 ⟨⟨v, e, h1, h2⟩, dr⟩ => ?_
  subst e
  have le := dr.le
  obtain ⟨u, rfl⟩ : ∃ u : Nat, v = (u : Nat) := ⟨v.toNat, by omega⟩
  refine sat_seq ?_
  simp only [EV, Ab.isNon, args, List.map, List.length_cons, List.length_nil, List.length_singleton, List.replicate, Nat.reduceSub, Nat.reduceAdd, Nat.zero_add, List.cons_append, List.nil_append, List.getElem?_cons_zero, List.getElem?_cons_succ, List.set_cons_zero, List.set_cons_succ, Option.some.injEq, decide_eq_true_eq, Bool.not_eq_true', decide_eq_false_iff_not, ite_true, ite_false, if_true, if_false, reduceIte, Bool.false_eq_true, Bool.not_true, Bool.not_false, Bool.true_eq_false, decide_true, decide_false, Nat.reduceLeDiff, Nat.reduceLT]
  refine sat_seq ?_
  have hR := at_new (A := A1) (o := .lst [])
  have dr := dr.trans (Dr.app dr.src [.lst []])
  simp only [EV, Ab.isNon, args, List.map, List.length_cons, List.length_nil, List.length_singleton, List.replicate, Nat.reduceSub, Nat.reduceAdd, Nat.zero_add, List.cons_append, List.nil_append, List.getElem?_cons_zero, List.getElem?_cons_succ, List.set_cons_zero, List.set_cons_succ, Option.some.injEq, decide_eq_true_eq, Bool.not_eq_true', decide_eq_false_iff_not, ite_true, ite_false, if_true, if_false, reduceIte, Bool.false_eq_true, Bool.not_true, Bool.not_false, Bool.true_eq_false, decide_true, decide_false, Nat.reduceLeDiff, Nat.reduceLT]
  rw [if_pos (inRg_of (by decide) (by decide))]
  refine range_inv (fun k σ B => Dr s A B ∧ B[A1.length]? = some (.lst (((List.range k).map (nmS u)).map D.str)) ∧ ∃ y z, σ = [some (.ref s), some (.int (u : Nat)), some (.ref A1.length), y, z])
    (fun k σ B hk ⟨DB, hB, y, z, hσ⟩ => ?_) (fun σ B ⟨DB, hB, y, z, hσ⟩ => ?_) ⟨dr, hR, none, none, rfl⟩
  · subst hσ
    have hk : k < 20 := hk
    have ib : ixD (.str "bcdeghijklmnopqrtuvw") (.int (k : Nat)) B = .ok (.str (base k)) B := by
      have hl : k < ("bcdeghijklmnopqrtuvw" : Str).cps.toList.length := by show k < 20; exact hk
      have e : ("bcdeghijklmnopqrtuvw" : Str).cps.toList.getD k 0 = ("bcdeghijklmnopqrtuvw" : Str).cps.toList[k] := by rw [List.getD_eq_getElem?_getD, List.getElem?_eq_getElem hl]; rfl
      unfold base
      rw [e]
      exact ev_ix_s (sl_le (by show 20 ≤ _; decide)) (by rw [atI_pos (by omega), Int.toNat_natCast, List.getElem?_eq_getElem hl])
    have bl : (base k).length = 1 := rfl
    simp only [EV, Ab.isNon, args, List.map, List.length_cons, List.length_nil, List.length_singleton, List.replicate, Nat.reduceSub, Nat.reduceAdd, Nat.zero_add, List.cons_append, List.nil_append, List.getElem?_cons_zero, List.getElem?_cons_succ, List.set_cons_zero, List.set_cons_succ, Option.some.injEq, decide_eq_true_eq, Bool.not_eq_true', decide_eq_false_iff_not, ite_true, ite_false, if_true, if_false, reduceIte, Bool.false_eq_true, Bool.not_true, Bool.not_false, Bool.true_eq_false, decide_true, decide_false, Nat.reduceLeDiff, Nat.reduceLT, Int.zero_add]
    refine sat_seq ?_
    simp only [EV, Ab.isNon, args, List.map, List.length_cons, List.length_nil, List.length_singleton, List.replicate, Nat.reduceSub, Nat.reduceAdd, Nat.zero_add, List.cons_append, List.nil_append, List.getElem?_cons_zero, List.getElem?_cons_succ, List.set_cons_zero, List.set_cons_succ, Option.some.injEq, decide_eq_true_eq, Bool.not_eq_true', decide_eq_false_iff_not, ite_true, ite_false, if_true, if_false, reduceIte, Bool.false_eq_true, Bool.not_true, Bool.not_false, Bool.true_eq_false, decide_true, decide_false, Nat.reduceLeDiff, Nat.reduceLT, ib]
    have step : ∀ (j w : Nat) (x y : Str) (P : Fl → AH → Prop) (σ : ASt) (g : FE), P (.nx σ) B → True := fun _ _ _ _ _ _ _ _ => trivial
    have fin : ∀ (x : Str), x = nmS u k → Sat (appendD (.ref A1.length) [.str x] B) fun a B' => Dr s A B' ∧ B'[A1.length]? = some (.lst (((List.range (k + 1)).map (nmS u)).map D.str)) := fun x hx => by
      rw [ev_app hB (by simp; omega)]
      refine ⟨DB.setN le hs, ?_⟩
      rw [at_set (at_lt hB), List.range_succ (n := k), List.map_append, List.map_append, hx]; rfl
    have u4 : u = 0 ∨ u = 1 ∨ u = 2 ∨ u = 3 := by omega
    rcases u4 with rfl | rfl | rfl | rfl
    · refine sat_seq ?_; simp (decide := true) only [EV, Ab.isNon, args, List.map, List.length_cons, List.length_nil, List.length_singleton, List.replicate, Nat.reduceSub, Nat.reduceAdd, Nat.zero_add, List.cons_append, List.nil_append, List.getElem?_cons_zero, List.getElem?_cons_succ, List.set_cons_zero, List.set_cons_succ, Option.some.injEq, decide_eq_true_eq, Bool.not_eq_true', decide_eq_false_iff_not, ite_true, ite_false, if_true, if_false, reduceIte, Bool.false_eq_true, Bool.not_true, Bool.not_false, Bool.true_eq_false, decide_true, decide_false, Nat.reduceLeDiff, Nat.reduceLT]
      refine sat_seq ?_; simp (decide := true) only [EV, Ab.isNon, args, List.map, List.length_cons, List.length_nil, List.length_singleton, List.replicate, Nat.reduceSub, Nat.reduceAdd, Nat.zero_add, List.cons_append, List.nil_append, List.getElem?_cons_zero, List.getElem?_cons_succ, List.set_cons_zero, List.set_cons_succ, Option.some.injEq, decide_eq_true_eq, Bool.not_eq_true', decide_eq_false_iff_not, ite_true, ite_false, if_true, if_false, reduceIte, Bool.false_eq_true, Bool.not_true, Bool.not_false, Bool.true_eq_false, decide_true, decide_false, Nat.reduceLeDiff, Nat.reduceLT]
      refine sat_seq ?_; simp (decide := true) only [EV, Ab.isNon, args, List.map, List.length_cons, List.length_nil, List.length_singleton, List.replicate, Nat.reduceSub, Nat.reduceAdd, Nat.zero_add, List.cons_append, List.nil_append, List.getElem?_cons_zero, List.getElem?_cons_succ, List.set_cons_zero, List.set_cons_succ, Option.some.injEq, decide_eq_true_eq, Bool.not_eq_true', decide_eq_false_iff_not, ite_true, ite_false, if_true, if_false, reduceIte, Bool.false_eq_true, Bool.not_true, Bool.not_false, Bool.true_eq_false, decide_true, decide_false, Nat.reduceLeDiff, Nat.reduceLT]
      simp only [EV, Ab.isNon, args, List.map, List.length_cons, List.length_nil, List.length_singleton, List.replicate, Nat.reduceSub, Nat.reduceAdd, Nat.zero_add, List.cons_append, List.nil_append, List.getElem?_cons_zero, List.getElem?_cons_succ, List.set_cons_zero, List.set_cons_succ, Option.some.injEq, decide_eq_true_eq, Bool.not_eq_true', decide_eq_false_iff_not, ite_true, ite_false, if_true, if_false, reduceIte, Bool.false_eq_true, Bool.not_true, Bool.not_false, Bool.true_eq_false, decide_true, decide_false, Nat.reduceLeDiff, Nat.reduceLT, ty_l hB]
      exact Sat.imp (fin _ rfl) fun a B' ⟨q1, q2⟩ => ⟨q1, q2, _, _, rfl⟩
    · refine sat_seq ?_; simp (decide := true) only [EV, Ab.isNon, args, List.map, List.length_cons, List.length_nil, List.length_singleton, List.replicate, Nat.reduceSub, Nat.reduceAdd, Nat.zero_add, List.cons_append, List.nil_append, List.getElem?_cons_zero, List.getElem?_cons_succ, List.set_cons_zero, List.set_cons_succ, Option.some.injEq, decide_eq_true_eq, Bool.not_eq_true', decide_eq_false_iff_not, ite_true, ite_false, if_true, if_false, reduceIte, Bool.false_eq_true, Bool.not_true, Bool.not_false, Bool.true_eq_false, decide_true, decide_false, Nat.reduceLeDiff, Nat.reduceLT]
      rw [add_ss (by rw [str_len, bl]; show 1 + 2 ≤ _; decide)]
      simp only [EV, Ab.isNon, args, List.map, List.length_cons, List.length_nil, List.length_singleton, List.replicate, Nat.reduceSub, Nat.reduceAdd, Nat.zero_add, List.cons_append, List.nil_append, List.getElem?_cons_zero, List.getElem?_cons_succ, List.set_cons_zero, List.set_cons_succ, Option.some.injEq, decide_eq_true_eq, Bool.not_eq_true', decide_eq_false_iff_not, ite_true, ite_false, if_true, if_false, reduceIte, Bool.false_eq_true, Bool.not_true, Bool.not_false, Bool.true_eq_false, decide_true, decide_false, Nat.reduceLeDiff, Nat.reduceLT]
      refine sat_seq ?_; simp (decide := true) only [EV, Ab.isNon, args, List.map, List.length_cons, List.length_nil, List.length_singleton, List.replicate, Nat.reduceSub, Nat.reduceAdd, Nat.zero_add, List.cons_append, List.nil_append, List.getElem?_cons_zero, List.getElem?_cons_succ, List.set_cons_zero, List.set_cons_succ, Option.some.injEq, decide_eq_true_eq, Bool.not_eq_true', decide_eq_false_iff_not, ite_true, ite_false, if_true, if_false, reduceIte, Bool.false_eq_true, Bool.not_true, Bool.not_false, Bool.true_eq_false, decide_true, decide_false, Nat.reduceLeDiff, Nat.reduceLT]
      refine sat_seq ?_; simp (decide := true) only [EV, Ab.isNon, args, List.map, List.length_cons, List.length_nil, List.length_singleton, List.replicate, Nat.reduceSub, Nat.reduceAdd, Nat.zero_add, List.cons_append, List.nil_append, List.getElem?_cons_zero, List.getElem?_cons_succ, List.set_cons_zero, List.set_cons_succ, Option.some.injEq, decide_eq_true_eq, Bool.not_eq_true', decide_eq_false_iff_not, ite_true, ite_false, if_true, if_false, reduceIte, Bool.false_eq_true, Bool.not_true, Bool.not_false, Bool.true_eq_false, decide_true, decide_false, Nat.reduceLeDiff, Nat.reduceLT]
      simp only [EV, Ab.isNon, args, List.map, List.length_cons, List.length_nil, List.length_singleton, List.replicate, Nat.reduceSub, Nat.reduceAdd, Nat.zero_add, List.cons_append, List.nil_append, List.getElem?_cons_zero, List.getElem?_cons_succ, List.set_cons_zero, List.set_cons_succ, Option.some.injEq, decide_eq_true_eq, Bool.not_eq_true', decide_eq_false_iff_not, ite_true, ite_false, if_true, if_false, reduceIte, Bool.false_eq_true, Bool.not_true, Bool.not_false, Bool.true_eq_false, decide_true, decide_false, Nat.reduceLeDiff, Nat.reduceLT, ty_l hB]
      exact Sat.imp (fin _ rfl) fun a B' ⟨q1, q2⟩ => ⟨q1, q2, _, _, rfl⟩
    · refine sat_seq ?_; simp (decide := true) only [EV, Ab.isNon, args, List.map, List.length_cons, List.length_nil, List.length_singleton, List.replicate, Nat.reduceSub, Nat.reduceAdd, Nat.zero_add, List.cons_append, List.nil_append, List.getElem?_cons_zero, List.getElem?_cons_succ, List.set_cons_zero, List.set_cons_succ, Option.some.injEq, decide_eq_true_eq, Bool.not_eq_true', decide_eq_false_iff_not, ite_true, ite_false, if_true, if_false, reduceIte, Bool.false_eq_true, Bool.not_true, Bool.not_false, Bool.true_eq_false, decide_true, decide_false, Nat.reduceLeDiff, Nat.reduceLT]
      refine sat_seq ?_; simp (decide := true) only [EV, Ab.isNon, args, List.map, List.length_cons, List.length_nil, List.length_singleton, List.replicate, Nat.reduceSub, Nat.reduceAdd, Nat.zero_add, List.cons_append, List.nil_append, List.getElem?_cons_zero, List.getElem?_cons_succ, List.set_cons_zero, List.set_cons_succ, Option.some.injEq, decide_eq_true_eq, Bool.not_eq_true', decide_eq_false_iff_not, ite_true, ite_false, if_true, if_false, reduceIte, Bool.false_eq_true, Bool.not_true, Bool.not_false, Bool.true_eq_false, decide_true, decide_false, Nat.reduceLeDiff, Nat.reduceLT]
      rw [add_ss (by rw [str_len, bl]; show 2 + 1 ≤ _; decide)]
      simp only [EV, Ab.isNon, args, List.map, List.length_cons, List.length_nil, List.length_singleton, List.replicate, Nat.reduceSub, Nat.reduceAdd, Nat.zero_add, List.cons_append, List.nil_append, List.getElem?_cons_zero, List.getElem?_cons_succ, List.set_cons_zero, List.set_cons_succ, Option.some.injEq, decide_eq_true_eq, Bool.not_eq_true', decide_eq_false_iff_not, ite_true, ite_false, if_true, if_false, reduceIte, Bool.false_eq_true, Bool.not_true, Bool.not_false, Bool.true_eq_false, decide_true, decide_false, Nat.reduceLeDiff, Nat.reduceLT]
      refine sat_seq ?_; simp (decide := true) only [EV, Ab.isNon, args, List.map, List.length_cons, List.length_nil, List.length_singleton, List.replicate, Nat.reduceSub, Nat.reduceAdd, Nat.zero_add, List.cons_append, List.nil_append, List.getElem?_cons_zero, List.getElem?_cons_succ, List.set_cons_zero, List.set_cons_succ, Option.some.injEq, decide_eq_true_eq, Bool.not_eq_true', decide_eq_false_iff_not, ite_true, ite_false, if_true, if_false, reduceIte, Bool.false_eq_true, Bool.not_true, Bool.not_false, Bool.true_eq_false, decide_true, decide_false, Nat.reduceLeDiff, Nat.reduceLT]
      simp only [EV, Ab.isNon, args, List.map, List.length_cons, List.length_nil, List.length_singleton, List.replicate, Nat.reduceSub, Nat.reduceAdd, Nat.zero_add, List.cons_append, List.nil_append, List.getElem?_cons_zero, List.getElem?_cons_succ, List.set_cons_zero, List.set_cons_succ, Option.some.injEq, decide_eq_true_eq, Bool.not_eq_true', decide_eq_false_iff_not, ite_true, ite_false, if_true, if_false, reduceIte, Bool.false_eq_true, Bool.not_true, Bool.not_false, Bool.true_eq_false, decide_true, decide_false, Nat.reduceLeDiff, Nat.reduceLT, ty_l hB]
      exact Sat.imp (fin _ rfl) fun a B' ⟨q1, q2⟩ => ⟨q1, q2, _, _, rfl⟩
    · have kk : ((k : Int) * (k : Int) + 3).natAbs < 10 ^ 12 := by
        have h1 : (k : Int) * (k : Int) ≤ 20 * 20 := Int.mul_le_mul (by omega) (by omega) (by omega) (by omega)
        have h2 : 0 ≤ (k : Int) * (k : Int) := Int.mul_nonneg (by omega) (by omega)
        omega
      have mk : mulOk (k : Int) (k : Int) := mulOk_l (by omega) (by omega)
      refine sat_seq ?_; simp (decide := true) only [EV, Ab.isNon, args, List.map, List.length_cons, List.length_nil, List.length_singleton, List.replicate, Nat.reduceSub, Nat.reduceAdd, Nat.zero_add, List.cons_append, List.nil_append, List.getElem?_cons_zero, List.getElem?_cons_succ, List.set_cons_zero, List.set_cons_succ, Option.some.injEq, decide_eq_true_eq, Bool.not_eq_true', decide_eq_false_iff_not, ite_true, ite_false, if_true, if_false, reduceIte, Bool.false_eq_true, Bool.not_true, Bool.not_false, Bool.true_eq_false, decide_true, decide_false, Nat.reduceLeDiff, Nat.reduceLT]
      refine sat_seq ?_; simp (decide := true) only [EV, Ab.isNon, args, List.map, List.length_cons, List.length_nil, List.length_singleton, List.replicate, Nat.reduceSub, Nat.reduceAdd, Nat.zero_add, List.cons_append, List.nil_append, List.getElem?_cons_zero, List.getElem?_cons_succ, List.set_cons_zero, List.set_cons_succ, Option.some.injEq, decide_eq_true_eq, Bool.not_eq_true', decide_eq_false_iff_not, ite_true, ite_false, if_true, if_false, reduceIte, Bool.false_eq_true, Bool.not_true, Bool.not_false, Bool.true_eq_false, decide_true, decide_false, Nat.reduceLeDiff, Nat.reduceLT]
      refine sat_seq ?_; simp (decide := true) only [EV, Ab.isNon, args, List.map, List.length_cons, List.length_nil, List.length_singleton, List.replicate, Nat.reduceSub, Nat.reduceAdd, Nat.zero_add, List.cons_append, List.nil_append, List.getElem?_cons_zero, List.getElem?_cons_succ, List.set_cons_zero, List.set_cons_succ, Option.some.injEq, decide_eq_true_eq, Bool.not_eq_true', decide_eq_false_iff_not, ite_true, ite_false, if_true, if_false, reduceIte, Bool.false_eq_true, Bool.not_true, Bool.not_false, Bool.true_eq_false, decide_true, decide_false, Nat.reduceLeDiff, Nat.reduceLT, mk, ev_str_i kk]
      rw [add_ss (by rw [str_len]; have := num_len kk; show 1 + _ ≤ _; omega)]
      simp only [EV, Ab.isNon, args, List.map, List.length_cons, List.length_nil, List.length_singleton, List.replicate, Nat.reduceSub, Nat.reduceAdd, Nat.zero_add, List.cons_append, List.nil_append, List.getElem?_cons_zero, List.getElem?_cons_succ, List.set_cons_zero, List.set_cons_succ, Option.some.injEq, decide_eq_true_eq, Bool.not_eq_true', decide_eq_false_iff_not, ite_true, ite_false, if_true, if_false, reduceIte, Bool.false_eq_true, Bool.not_true, Bool.not_false, Bool.true_eq_false, decide_true, decide_false, Nat.reduceLeDiff, Nat.reduceLT, ty_l hB]
      exact Sat.imp (fin _ rfl) fun a B' ⟨q1, q2⟩ => ⟨q1, q2, _, _, rfl⟩
  · subst hσ
    simp only [EV, Ab.isNon, args, List.map, List.length_cons, List.length_nil, List.length_singleton, List.replicate, Nat.reduceSub, Nat.reduceAdd, Nat.zero_add, List.cons_append, List.nil_append, List.getElem?_cons_zero, List.getElem?_cons_succ, List.set_cons_zero, List.set_cons_succ, Option.some.injEq, decide_eq_true_eq, Bool.not_eq_true', decide_eq_false_iff_not, ite_true, ite_false, if_true, if_false, reduceIte, Bool.false_eq_true, Bool.not_true, Bool.not_false, Bool.true_eq_false, decide_true, decide_false, Nat.reduceLeDiff, Nat.reduceLT]
    exact ⟨DB, _, u, rfl, le, by omega, hB⟩
theorem nmS_nd : ∀ v : Nat, v < 4 → ((List.range 20).map (nmS v)).Nodup
  | 0, _ => by decide +kernel
  | 1, _ => by decide +kernel
  | 2, _ => by decide +kernel
  | 3, _ => by decide +kernel
  | v + 4, h => by omega
theorem nmS_ok : ∀ v : Nat, v < 4 → ∀ x ∈ (List.range 20).map (nmS v), PyData.strOk x = true
  | 0, _ => by decide +kernel
  | 1, _ => by decide +kernel
  | 2, _ => by decide +kernel
  | 3, _ => by decide +kernel
  | v + 4, h => by omega
end Law

set_option maxHeartbeats 8000000
namespace Law
open PySem PySem.Spec PyProof.Rows L2 Ab
open scoped Classical
/-! ### kinds -/
inductive Ki where
  | flag
  | num (lo hi : Int)
  | rf (x : Str)
def Ki.d : Ki → D
  | .flag => .tup [.str "flag"]
  | .num lo hi => .tup [.str "num", .int lo, .int hi]
  | .rf x => .tup [.str "ref", .str x]
structure Rk where
  nm : Str
  fs : List (Str × Ki)
def fldD (f : Str × Ki) : D := .tup [.str f.1, f.2.d]
def fldsD (fs : List (Str × Ki)) : D := .tup (fs.map fldD)
def nI (n : Nat) : D := .int (n : Nat)
end Law

namespace Law
open PySem PySem.Spec PyProof.Rows L2 Ab
open scoped Classical
/-! ### bodies, their nodes -/
inductive Bd where
  | nil
  | lf (d : D) (r : Bd)
  | brk (r : Bd)
  | ret (x : D) (r : Bd)
  | ite (t : D) (a b r : Bd)
  | whl (t : D) (a r : Bd)
namespace Bd
def dats : Bd → List D
  | nil => []
  | lf d r => d :: r.dats
  | brk r => .tup [.str "break"] :: r.dats
  | ret x r => .tup [.str "return", x] :: r.dats
  | ite t a b r => .tup [.str "if", t, .tup a.dats, .tup b.dats] :: r.dats
  | whl t a r => .tup [.str "while", t, .tup a.dats] :: r.dats
def sz : Bd → Nat
  | nil => 0
  | lf _ r => r.sz + 1
  | brk r => r.sz + 1
  | ret _ r => r.sz + 1
  | ite _ a b r => a.sz + b.sz + r.sz + 1
  | whl _ a r => a.sz + r.sz + 1
def cnt : Bd → Nat
  | nil => 0
  | lf _ r => r.cnt + 1
  | brk r => r.cnt + 1
  | ret _ r => r.cnt + 1
  | ite _ _ _ r => r.cnt + 1
  | whl _ _ r => r.cnt + 1
def dep : Bd → Nat
  | nil => 0
  | lf _ r => r.dep
  | brk r => r.dep
  | ret _ r => r.dep
  | ite _ a b r => max (max a.dep b.dep + 1) r.dep
  | whl _ a r => max (a.dep + 1) r.dep
def fit (d : D) : Prop := ∃ w ds, d = .tup (.str w :: ds) ∧ w ≠ "if" ∧ w ≠ "while" ∧ w ≠ "break" ∧ w ≠ "return" ∧ Pl 9 d
def ok : Bd → Bool → Prop
  | nil, _ => True
  | lf d r, l => fit d ∧ r.ok l
  | brk r, l => l = true ∧ r.ok l
  | ret x r, l => Pl 9 x ∧ r.ok l
  | ite t a b r, l => Pl 9 t ∧ a.ok l ∧ b.ok l ∧ r.ok l
  | whl t a r, l => Pl 9 t ∧ a.ok true ∧ r.ok l
def app : Bd → Bd → Bd
  | nil, s => s
  | lf d r, s => lf d (r.app s)
  | brk r, s => brk (r.app s)
  | ret x r, s => ret x (r.app s)
  | ite t a b r, s => ite t a b (r.app s)
  | whl t a r, s => whl t a (r.app s)
/-- the statements, with inner ones, in the order of their places -/
def flat : Bd → List D
  | nil => []
  | lf d r => d :: r.flat
  | brk r => .tup [.str "break"] :: r.flat
  | ret x r => .tup [.str "return", x] :: r.flat
  | ite t a b r => .tup [.str "if", t, .tup a.dats, .tup b.dats] :: (a.flat ++ b.flat ++ r.flat)
  | whl t a r => .tup [.str "while", t, .tup a.dats] :: (a.flat ++ r.flat)
end Bd
def fp (b : Bd) (p : Nat) (af : Int) : Int := if b.cnt = 0 then af else (p : Nat)
def nd (s : D) (n : Int) (o : D) : D := .tup [s, .int n, o]
def tst (t : D) : D := .tup [.str "test", t]
/-- what body_nodes returns -/
def nds : Bd → Nat → Int → D → Int → List D
  | .nil, _, _, _, _ => []
  | .lf d r, p, af, out, e => nd d (fp r (p + 1) af) .non :: nds r (p + 1) af out e
  | .brk r, p, af, out, e => .tup [.tup [.str "go"], out, .non] :: nds r (p + 1) af out e
  | .ret x r, p, af, out, e => nd (.tup [.str "return", x]) e .non :: nds r (p + 1) af out e
  | .ite t a b r, p, af, out, e => nd (tst t) (fp a (p + 1) (fp r (p + 1 + a.sz + b.sz) af)) (.int (fp b (p + 1 + a.sz) (fp r (p + 1 + a.sz + b.sz) af))) ::
      (nds a (p + 1) (fp r (p + 1 + a.sz + b.sz) af) out e ++ nds b (p + 1 + a.sz) (fp r (p + 1 + a.sz + b.sz) af) out e ++ nds r (p + 1 + a.sz + b.sz) af out e)
  | .whl t a r, p, af, out, e => nd (tst t) (fp a (p + 1) (p : Nat)) (.int (fp r (p + 1 + a.sz) af)) ::
      (nds a (p + 1) (p : Nat) (.int (fp r (p + 1 + a.sz) af)) e ++ nds r (p + 1 + a.sz) af out e)
/-! ### piles of open bodies -/
structure Fr where
  n : Nat
  pl : Nat → Nat
  k : Nat
  w : Bool
def stl : Bool → List Fr → Int → Int
  | _, [], e => e
  | d, f :: fs, e => if (if d = true then f.k - 1 else f.k) < f.n then (f.pl (if d = true then f.k - 1 else f.k) : Nat) else stl f.w fs e
def bk : List Fr → Int → Int
  | [], e => e
  | f :: fs, e => if f.w = true then stl false fs e else bk fs e
def plc : Bd → Nat → Nat → Nat
  | .nil, p, _ => p
  | .lf _ r, p, k => if k = 0 then p else plc r (p + 1) (k - 1)
  | .brk r, p, k => if k = 0 then p else plc r (p + 1) (k - 1)
  | .ret _ r, p, k => if k = 0 then p else plc r (p + 1) (k - 1)
  | .ite _ a b r, p, k => if k = 0 then p else plc r (p + 1 + a.sz + b.sz) (k - 1)
  | .whl _ a r, p, k => if k = 0 then p else plc r (p + 1 + a.sz) (k - 1)
def fr (b : Bd) (p : Nat) (w : Bool) (k : Nat) : Fr := ⟨b.cnt, plc b p, k, w⟩
/-- what stands at a place -/
inductive Kd where
  | lf (d : D)
  | brk
  | ret (x : D)
  | ite (t : D) (fa fb : Fr)
  | whl (t : D) (fa : Fr)
/-- the row of the law, for a pile of which the top stands behind the statement -/
def rowK : Kd → List Fr → Int → D
  | .lf d, fs, e => nd d (stl false fs e) .non
  | .brk, fs, e => .tup [.tup [.str "go"], .int (bk fs e), .non]
  | .ret x, _, e => nd (.tup [.str "return", x]) e .non
  | .ite t fa fb, fs, e => nd (tst t) (stl false (fa :: fs) e) (.int (stl false (fb :: fs) e))
  | .whl t fa, fs, e => nd (tst t) (stl false (fa :: fs) e) (.int (stl false fs e))
def inc : List Fr → List Fr
  | [] => []
  | f :: fs => { f with k := f.k + 1 } :: fs
/-- the pile at a place -/
def pth : Bd → Nat → Nat → (Nat → Fr) → Nat → Option (Kd × List Fr)
  | .nil, _, _, _, _ => none
  | .lf d r, q, k, F, t => if t = q then some (.lf d, [F k]) else pth r (q + 1) (k + 1) F t
  | .brk r, q, k, F, t => if t = q then some (.brk, [F k]) else pth r (q + 1) (k + 1) F t
  | .ret x r, q, k, F, t => if t = q then some (.ret x, [F k]) else pth r (q + 1) (k + 1) F t
  | .ite x a b r, q, k, F, t => if t = q then some (.ite x (fr a (q + 1) false 0) (fr b (q + 1 + a.sz) false 0), [F k]) else
    match pth a (q + 1) 0 (fr a (q + 1) false) t with
    | some (kd, fs) => some (kd, fs ++ [F (k + 1)])
    | none => match pth b (q + 1 + a.sz) 0 (fr b (q + 1 + a.sz) false) t with
      | some (kd, fs) => some (kd, fs ++ [F (k + 1)])
      | none => pth r (q + 1 + a.sz + b.sz) (k + 1) F t
  | .whl x a r, q, k, F, t => if t = q then some (.whl x (fr a (q + 1) true 0), [F k]) else
    match pth a (q + 1) 0 (fr a (q + 1) true) t with
    | some (kd, fs) => some (kd, fs ++ [F (k + 1)])
    | none => pth r (q + 1 + a.sz) (k + 1) F t
def rowO (us : List Fr) (e : Int) : Option (Kd × List Fr) → D
  | some (kd, fs) => rowK kd (inc fs ++ us) e
  | none => .non
def rowAt (b : Bd) (q k : Nat) (F : Nat → Fr) (us : List Fr) (e : Int) (t : Nat) : D := rowO us e (pth b q k F t)
theorem pth_out : ∀ (b : Bd) (q k : Nat) (F : Nat → Fr) (t : Nat), ¬ (q ≤ t ∧ t < q + b.sz) → pth b q k F t = none
  | .nil, _, _, _, _, _ => rfl
  | .lf d r, q, k, F, t, h => by
    have h : ¬ (q ≤ t ∧ t < q + (r.sz + 1)) := h
    unfold pth
    rw [if_neg (by omega), pth_out r _ _ _ _ (by omega)]
  | .brk r, q, k, F, t, h => by
    have h : ¬ (q ≤ t ∧ t < q + (r.sz + 1)) := h
    unfold pth
    rw [if_neg (by omega), pth_out r _ _ _ _ (by omega)]
  | .ret x r, q, k, F, t, h => by
    have h : ¬ (q ≤ t ∧ t < q + (r.sz + 1)) := h
    unfold pth
    rw [if_neg (by omega), pth_out r _ _ _ _ (by omega)]
  | .ite x a b r, q, k, F, t, h => by
    have h : ¬ (q ≤ t ∧ t < q + (a.sz + b.sz + r.sz + 1)) := h
    unfold pth
    rw [if_neg (by omega), pth_out a _ _ _ _ (by omega), pth_out b _ _ _ _ (by omega), pth_out r _ _ _ _ (by omega)]
  | .whl x a r, q, k, F, t, h => by
    have h : ¬ (q ≤ t ∧ t < q + (a.sz + r.sz + 1)) := h
    unfold pth
    rw [if_neg (by omega), pth_out a _ _ _ _ (by omega), pth_out r _ _ _ _ (by omega)]
theorem pth_in : ∀ (b : Bd) (q k : Nat) (F : Nat → Fr) (t : Nat), q ≤ t → t < q + b.sz → ∃ kd f fs, pth b q k F t = some (kd, f :: fs)
  | .nil, _, _, _, _, h, h' => by have h' : _ < _ + 0 := h'; omega
  | .lf d r, q, k, F, t, h, h' => by
    have h' : t < q + (r.sz + 1) := h'
    unfold pth
    split
    · exact ⟨_, _, _, rfl⟩
    · exact pth_in r _ _ _ _ (by omega) (by omega)
  | .brk r, q, k, F, t, h, h' => by
    have h' : t < q + (r.sz + 1) := h'
    unfold pth
    split
    · exact ⟨_, _, _, rfl⟩
    · exact pth_in r _ _ _ _ (by omega) (by omega)
  | .ret x r, q, k, F, t, h, h' => by
    have h' : t < q + (r.sz + 1) := h'
    unfold pth
    split
    · exact ⟨_, _, _, rfl⟩
    · exact pth_in r _ _ _ _ (by omega) (by omega)
  | .ite x a b r, q, k, F, t, h, h' => by
    have h' : t < q + (a.sz + b.sz + r.sz + 1) := h'
    unfold pth
    split
    · exact ⟨_, _, _, rfl⟩
    · by_cases ha : t < q + 1 + a.sz
      · obtain ⟨kd, f, fs, e⟩ := pth_in a (q + 1) 0 (fr a (q + 1) false) t (by omega) ha
        rw [e]
        exact ⟨_, _, _, rfl⟩
      · rw [pth_out a _ _ _ _ (by omega)]
        by_cases hb : t < q + 1 + a.sz + b.sz
        · obtain ⟨kd, f, fs, e⟩ := pth_in b (q + 1 + a.sz) 0 (fr b (q + 1 + a.sz) false) t (by omega) hb
          simp only [e]
          exact ⟨_, _, _, rfl⟩
        · simp only [pth_out b (q + 1 + a.sz) 0 (fr b (q + 1 + a.sz) false) t (by omega)]
          exact pth_in r (q + 1 + a.sz + b.sz) (k + 1) F t (by omega) (by omega)
  | .whl x a r, q, k, F, t, h, h' => by
    have h' : t < q + (a.sz + r.sz + 1) := h'
    unfold pth
    split
    · exact ⟨_, _, _, rfl⟩
    · by_cases ha : t < q + 1 + a.sz
      · obtain ⟨kd, f, fs, e⟩ := pth_in a (q + 1) 0 (fr a (q + 1) true) t (by omega) ha
        rw [e]
        exact ⟨_, _, _, rfl⟩
      · rw [pth_out a (q + 1) 0 (fr a (q + 1) true) t (by omega)]
        exact pth_in r (q + 1 + a.sz) (k + 1) F t (by omega) (by omega)
theorem plc_zero {b : Bd} {p : Nat} : plc b p 0 = p := by cases b <;> rfl
/-- how a body's frames look -/
def mkF (n : Nat) (pl : Nat → Nat) (w : Bool) (k : Nat) : Fr := ⟨n, pl, k, w⟩
structure Fq (r : Bd) (q k n : Nat) (pl : Nat → Nat) : Prop where
  n_ : n = k + r.cnt
  p_ : ∀ i, i < r.cnt → pl (k + i) = plc r q i
theorem fq_fr {b : Bd} {p : Nat} : Fq b p 0 b.cnt (plc b p) := ⟨(Nat.zero_add _).symm, fun i _ => by rw [Nat.zero_add]⟩
/-- where the pile settles behind the first statement of the rest -/
theorem Fq.nx {r : Bd} {q k n : Nat} {pl : Nat → Nat} {w : Bool} {us : List Fr} {e : Int} (f : Fq r q (k + 1) n pl) : stl false (mkF n pl w (k + 1) :: us) e = fp r q (stl w us e) := by
  show (if k + 1 < n then ((pl (k + 1) : Nat) : Int) else stl w us e) = fp r q (stl w us e)
  unfold fp
  have := f.n_
  by_cases h : r.cnt = 0
  · rw [if_pos h, if_neg (by omega)]
  · rw [if_neg h, if_pos (by omega)]
    have := f.p_ 0 (by omega)
    rw [Nat.add_zero, plc_zero] at this
    rw [this]
theorem map_rg {f g : Nat → D} {q m : Nat} (h : ∀ t, q ≤ t → t < q + m → f t = g t) : (List.range' q m).map f = (List.range' q m).map g := List.map_congr_left fun t ht => by
  obtain ⟨h1, h2⟩ := List.mem_range'_1.mp ht
  exact h t h1 h2
theorem rng_cons {q m : Nat} : List.range' q (m + 1) = q :: List.range' (q + 1) m := List.range'_succ ..
theorem rng_app {q m n : Nat} : List.range' q (m + n) = List.range' q m ++ List.range' (q + m) n := by
  rw [← List.range'_append_1]
theorem in_of {a : Bd} {p : Nat} {w : Bool} {f1 : Fr} {us : List Fr} {e : Int} {t : Nat} (h1 : p ≤ t) (h2 : t < p + a.sz) {o : Option (Kd × List Fr)} (ho : o = match pth a p 0 (fr a p w) t with
    | some (kd, fs) => some (kd, fs ++ [f1])
    | none => none) : rowO us e o = rowAt a p 0 (fr a p w) (f1 :: us) e t := by
  obtain ⟨kd, f, fs, ep⟩ := pth_in a p 0 (fr a p w) t h1 h2
  subst ho
  unfold rowAt
  rw [ep]
  show rowK kd (inc ((f :: fs) ++ [f1]) ++ us) e = rowK kd (inc (f :: fs) ++ f1 :: us) e
  show rowK kd (({ f with k := f.k + 1 } :: (fs ++ [f1])) ++ us) e = rowK kd (({ f with k := f.k + 1 } :: fs) ++ f1 :: us) e
  rw [List.cons_append, List.append_assoc]; rfl
/-- the law's rows are the nodes -/
theorem rows_nds : ∀ (b : Bd) (q k n : Nat) (pl : Nat → Nat) (w : Bool) (us : List Fr) (e : Int) (out : D) (l : Bool), Fq b q k n pl → b.ok l → (l = true → out = .int (if w = true then stl false us e else bk us e)) →
    (List.range' q b.sz).map (rowAt b q k (mkF n pl w) us e) = nds b q (stl w us e) out e
  | .nil, _, _, _, _, _, _, _, _, _, _, _, _ => rfl
  | .lf d r, q, k, n, pl, w, us, e, out, l, fm, ok, ho => by
    have f2 : Fq r (q + 1) (k + 1) n pl := ⟨by have : n = k + (r.cnt + 1) := fm.n_; omega, fun i hi => by
      have := fm.p_ (i + 1) (show i + 1 < r.cnt + 1 by omega)
      rw [show k + 1 + i = k + (i + 1) by omega, this]; rfl⟩
    have ih := rows_nds r (q + 1) (k + 1) n pl w us e out l f2 ok.2 ho
    show (List.range' q (r.sz + 1)).map _ = nd d (fp r (q + 1) (stl w us e)) .non :: _
    rw [rng_cons, List.map_cons, ← ih]
    congr 1
    · unfold rowAt pth
      rw [if_pos rfl]
      show nd d (stl false (mkF n pl w (k + 1) :: us) e) .non = _
      rw [f2.nx]
    · refine map_rg fun t h1 h2 => ?_
      unfold rowAt
      rw [show pth (.lf d r) q k (mkF n pl w) t = if t = q then some (.lf d, [mkF n pl w k]) else pth r (q + 1) (k + 1) (mkF n pl w) t from rfl, if_neg (by omega)]
  | .brk r, q, k, n, pl, w, us, e, out, l, fm, ok, ho => by
    have f2 : Fq r (q + 1) (k + 1) n pl := ⟨by have : n = k + (r.cnt + 1) := fm.n_; omega, fun i hi => by
      have := fm.p_ (i + 1) (show i + 1 < r.cnt + 1 by omega)
      rw [show k + 1 + i = k + (i + 1) by omega, this]; rfl⟩
    have ih := rows_nds r (q + 1) (k + 1) n pl w us e out l f2 ok.2 ho
    show (List.range' q (r.sz + 1)).map _ = D.tup [.tup [.str "go"], out, .non] :: _
    rw [rng_cons, List.map_cons, ← ih]
    congr 1
    · unfold rowAt pth
      rw [if_pos rfl, ho ok.1]
      rfl
    · refine map_rg fun t h1 h2 => ?_
      unfold rowAt
      rw [show pth (.brk r) q k (mkF n pl w) t = if t = q then some (.brk, [mkF n pl w k]) else pth r (q + 1) (k + 1) (mkF n pl w) t from rfl, if_neg (by omega)]
  | .ret x r, q, k, n, pl, w, us, e, out, l, fm, ok, ho => by
    have f2 : Fq r (q + 1) (k + 1) n pl := ⟨by have : n = k + (r.cnt + 1) := fm.n_; omega, fun i hi => by
      have := fm.p_ (i + 1) (show i + 1 < r.cnt + 1 by omega)
      rw [show k + 1 + i = k + (i + 1) by omega, this]; rfl⟩
    have ih := rows_nds r (q + 1) (k + 1) n pl w us e out l f2 ok.2 ho
    show (List.range' q (r.sz + 1)).map _ = nd (.tup [.str "return", x]) e .non :: _
    rw [rng_cons, List.map_cons, ← ih]
    congr 1
    · unfold rowAt pth
      rw [if_pos rfl]
      rfl
    · refine map_rg fun t h1 h2 => ?_
      unfold rowAt
      rw [show pth (.ret x r) q k (mkF n pl w) t = if t = q then some (.ret x, [mkF n pl w k]) else pth r (q + 1) (k + 1) (mkF n pl w) t from rfl, if_neg (by omega)]
  | .ite x a b r, q, k, n, pl, w, us, e, out, l, fm, ok, ho => by
    have f2 : Fq r (q + 1 + a.sz + b.sz) (k + 1) n pl := ⟨by have : n = k + (r.cnt + 1) := fm.n_; omega, fun i hi => by
      have := fm.p_ (i + 1) (show i + 1 < r.cnt + 1 by omega)
      rw [show k + 1 + i = k + (i + 1) by omega, this]; rfl⟩
    obtain ⟨_, oa, ob, or⟩ := ok
    have ih := rows_nds r (q + 1 + a.sz + b.sz) (k + 1) n pl w us e out l f2 or ho
    have o2 : l = true → out = .int (if false = true then stl false (mkF n pl w (k + 1) :: us) e else bk (mkF n pl w (k + 1) :: us) e) := ho
    have iha := rows_nds a (q + 1) 0 a.cnt (plc a (q + 1)) false (mkF n pl w (k + 1) :: us) e out l fq_fr oa o2
    have ihb := rows_nds b (q + 1 + a.sz) 0 b.cnt (plc b (q + 1 + a.sz)) false (mkF n pl w (k + 1) :: us) e out l fq_fr ob o2
    rw [f2.nx] at iha ihb
    have un : ∀ t, pth (.ite x a b r) q k (mkF n pl w) t = if t = q then some (.ite x (fr a (q + 1) false 0) (fr b (q + 1 + a.sz) false 0), [mkF n pl w k]) else
        match pth a (q + 1) 0 (fr a (q + 1) false) t with
        | some (kd, fs) => some (kd, fs ++ [mkF n pl w (k + 1)])
        | none => match pth b (q + 1 + a.sz) 0 (fr b (q + 1 + a.sz) false) t with
          | some (kd, fs) => some (kd, fs ++ [mkF n pl w (k + 1)])
          | none => pth r (q + 1 + a.sz + b.sz) (k + 1) (mkF n pl w) t := fun _ => rfl
    show (List.range' q (a.sz + b.sz + r.sz + 1)).map _ = nd (tst x) (fp a (q + 1) (fp r (q + 1 + a.sz + b.sz) (stl w us e))) (.int (fp b (q + 1 + a.sz) (fp r (q + 1 + a.sz + b.sz) (stl w us e)))) :: (_ ++ _ ++ _)
    rw [rng_cons, rng_app, rng_app, List.map_cons, List.map_append, List.map_append, ← ih, ← iha, ← ihb]
    congr 1
    · unfold rowAt
      rw [un, if_pos rfl]
      have fa : Fq a (q + 1) 0 a.cnt (plc a (q + 1)) := fq_fr
      show nd (tst x) (stl false (fr a (q + 1) false 0 :: mkF n pl w (k + 1) :: us) e) (.int (stl false (fr b (q + 1 + a.sz) false 0 :: mkF n pl w (k + 1) :: us) e)) = _
      have z : ∀ (c : Bd) (p : Nat), stl false (fr c p false 0 :: mkF n pl w (k + 1) :: us) e = fp c p (stl false (mkF n pl w (k + 1) :: us) e) := fun c p => by
        show (if 0 < c.cnt then ((plc c p 0 : Nat) : Int) else stl false (mkF n pl w (k + 1) :: us) e) = _
        unfold fp
        rw [plc_zero]
        by_cases h : c.cnt = 0
        · rw [if_neg (by omega), if_pos h]
        · rw [if_pos (by omega), if_neg h]
      rw [z, z, f2.nx]
    · congr 1
      · congr 1
        · refine map_rg fun t h1 h2 => ?_
          refine in_of (by omega) h2 ?_
          rw [un, if_neg (by omega)]
          obtain ⟨kd, f, fs, ep⟩ := pth_in a (q + 1) 0 (fr a (q + 1) false) t (by omega) h2
          rw [ep]
        · refine map_rg fun t h1 h2 => ?_
          refine in_of h1 h2 ?_
          rw [un, if_neg (by omega), pth_out a _ _ _ _ (by omega)]
          obtain ⟨kd, f, fs, ep⟩ := pth_in b (q + 1 + a.sz) 0 (fr b (q + 1 + a.sz) false) t h1 h2
          simp only [ep]
      · rw [show q + 1 + (a.sz + b.sz) = q + 1 + a.sz + b.sz by omega]
        refine map_rg fun t h1 h2 => ?_
        unfold rowAt
        rw [un, if_neg (by omega), pth_out a _ _ _ _ (by omega)]
        simp only [pth_out b (q + 1 + a.sz) 0 (fr b (q + 1 + a.sz) false) t (by omega)]
  | .whl x a r, q, k, n, pl, w, us, e, out, l, fm, ok, ho => by
    have nn : n = k + (r.cnt + 1) := fm.n_
    have f2 : Fq r (q + 1 + a.sz) (k + 1) n pl := ⟨by omega, fun i hi => by
      have := fm.p_ (i + 1) (show i + 1 < r.cnt + 1 by omega)
      rw [show k + 1 + i = k + (i + 1) by omega, this]; rfl⟩
    have pk : pl k = q := by
      have := fm.p_ 0 (show 0 < r.cnt + 1 by omega)
      rw [Nat.add_zero, plc_zero] at this
      exact this
    obtain ⟨_, oa, or⟩ := ok
    have ih := rows_nds r (q + 1 + a.sz) (k + 1) n pl w us e out l f2 or ho
    have iha := rows_nds a (q + 1) 0 a.cnt (plc a (q + 1)) true (mkF n pl w (k + 1) :: us) e (.int (stl false (mkF n pl w (k + 1) :: us) e)) true fq_fr oa (fun _ => rfl)
    have sq : stl true (mkF n pl w (k + 1) :: us) e = (q : Nat) := by
      show (if k < n then ((pl k : Nat) : Int) else _) = _
      rw [if_pos (by omega), pk]
    rw [f2.nx, sq] at iha
    have un : ∀ t, pth (.whl x a r) q k (mkF n pl w) t = if t = q then some (.whl x (fr a (q + 1) true 0), [mkF n pl w k]) else
        match pth a (q + 1) 0 (fr a (q + 1) true) t with
        | some (kd, fs) => some (kd, fs ++ [mkF n pl w (k + 1)])
        | none => pth r (q + 1 + a.sz) (k + 1) (mkF n pl w) t := fun _ => rfl
    show (List.range' q (a.sz + r.sz + 1)).map _ = nd (tst x) (fp a (q + 1) (q : Nat)) (.int (fp r (q + 1 + a.sz) (stl w us e))) :: (_ ++ _)
    rw [rng_cons, rng_app, List.map_cons, List.map_append, ← ih, ← iha]
    congr 1
    · unfold rowAt
      rw [un, if_pos rfl]
      show nd (tst x) (stl false (fr a (q + 1) true 0 :: mkF n pl w (k + 1) :: us) e) (.int (stl false (mkF n pl w (k + 1) :: us) e)) = _
      have z : stl false (fr a (q + 1) true 0 :: mkF n pl w (k + 1) :: us) e = fp a (q + 1) (q : Nat) := by
        show (if 0 < a.cnt then ((plc a (q + 1) 0 : Nat) : Int) else stl true (mkF n pl w (k + 1) :: us) e) = _
        unfold fp
        rw [plc_zero, sq]
        by_cases h : a.cnt = 0
        · rw [if_neg (by omega), if_pos h]
        · rw [if_pos (by omega), if_neg h]
      rw [z, f2.nx]
    · congr 1
      · refine map_rg fun t h1 h2 => ?_
        refine in_of (by omega) h2 ?_
        rw [un, if_neg (by omega)]
        obtain ⟨kd, f, fs, ep⟩ := pth_in a (q + 1) 0 (fr a (q + 1) true) t (by omega) h2
        rw [ep]
      · refine map_rg fun t h1 h2 => ?_
        unfold rowAt
        rw [un, if_neg (by omega), pth_out a _ _ _ _ (by omega)]
end Law

namespace Law
open PySem PySem.Spec PyProof.Rows L2 Ab
open scoped Classical
/-! ### the program: listed, nodes -/
theorem Bd.dats_len : ∀ b : Bd, b.dats.length = b.cnt
  | .nil => rfl
  | .lf _ r => congrArg (· + 1) r.dats_len
  | .brk r => congrArg (· + 1) r.dats_len
  | .ret _ r => congrArg (· + 1) r.dats_len
  | .ite _ _ _ r => congrArg (· + 1) r.dats_len
  | .whl _ _ r => congrArg (· + 1) r.dats_len
theorem Bd.flat_len : ∀ b : Bd, b.flat.length = b.sz
  | .nil => rfl
  | .lf _ r => congrArg (· + 1) r.flat_len
  | .brk r => congrArg (· + 1) r.flat_len
  | .ret _ r => congrArg (· + 1) r.flat_len
  | .ite _ a b r => by show (a.flat ++ b.flat ++ r.flat).length + 1 = a.sz + b.sz + r.sz + 1; rw [List.length_append, List.length_append, a.flat_len, b.flat_len, r.flat_len]
  | .whl _ a r => by show (a.flat ++ r.flat).length + 1 = a.sz + r.sz + 1; rw [List.length_append, a.flat_len, r.flat_len]
theorem nds_len : ∀ (b : Bd) (p : Nat) (af : Int) (out : D) (e : Int), (nds b p af out e).length = b.sz
  | .nil, _, _, _, _ => rfl
  | .lf _ r, _, _, _, _ => congrArg (· + 1) (nds_len r _ _ _ _)
  | .brk r, _, _, _, _ => congrArg (· + 1) (nds_len r _ _ _ _)
  | .ret _ r, _, _, _, _ => congrArg (· + 1) (nds_len r _ _ _ _)
  | .ite _ a b r, p, af, out, e => by
    show (nds a (p + 1) (fp r (p + 1 + a.sz + b.sz) af) out e ++ nds b (p + 1 + a.sz) (fp r (p + 1 + a.sz + b.sz) af) out e ++ nds r (p + 1 + a.sz + b.sz) af out e).length + 1 = a.sz + b.sz + r.sz + 1
    rw [List.length_append, List.length_append, nds_len a, nds_len b, nds_len r]
  | .whl _ a r, p, af, out, e => by
    show (nds a (p + 1) (p : Nat) (.int (fp r (p + 1 + a.sz) af)) e ++ nds r (p + 1 + a.sz) af out e).length + 1 = a.sz + r.sz + 1
    rw [List.length_append, nds_len a, nds_len r]
theorem ev_ext {A : AH} {n m : Nat} {xs ys : List D} (h : A[n]? = some (.lst xs)) (h' : A[m]? = some (.lst ys)) (z : xs.length + ys.length ≤ 1000000) : extendD (.ref n) [.ref m] A = .ok .non (A.set n (.lst (xs ++ ys))) := by
  show (match A[n]?, muL A (.ref m) with
      | some (.lst xs), some ys => if xs.length + ys.length ≤ sizeLine then Res.ok D.non (A.set n (.lst (xs ++ ys))) else .bad
      | _, _ => .bad) = _
  rw [h, muL_l h']
  exact if_pos (Nat.le_trans z (by decide))
theorem b_if {t u v : D} {A : AH} : m_bodies [.tup [.str "if", t, u, v]] A = .ok (.tup [u, v]) A := by
  have i3 : ∀ A, ixD (.tup [.str "if", t, u, v]) (.int 3) A = .ok v A := fun A => ev_ix_t (by rw [atI_pos (by decide)]; rfl)
  have key : Sat (m_bodies [.tup [.str "if", t, u, v]] A) fun d A' => d = .tup [u, v] ∧ A' = A := by
    refine sat_body rfl (sat_seq ?_)
    simp (decide := true) only [EV, Ab.isNon, args, List.map, List.length_cons, List.length_nil, List.length_singleton, List.replicate, Nat.reduceSub, Nat.reduceAdd, Nat.zero_add, List.cons_append, List.nil_append, List.getElem?_cons_zero, List.getElem?_cons_succ, List.set_cons_zero, List.set_cons_succ, Option.some.injEq, decide_eq_true_eq, Bool.not_eq_true', decide_eq_false_iff_not, ite_true, ite_false, if_true, if_false, reduceIte, Bool.false_eq_true, Bool.not_true, Bool.not_false, Bool.true_eq_false, decide_true, decide_false, Nat.reduceLeDiff, Nat.reduceLT, ixa, ixc, i3]
  obtain ⟨d, A', e, rfl, rfl⟩ := key.eq
  exact e
theorem b_wh {t u : D} {A : AH} : m_bodies [.tup [.str "while", t, u]] A = .ok (.tup [u]) A := by
  have key : Sat (m_bodies [.tup [.str "while", t, u]] A) fun d A' => d = .tup [u] ∧ A' = A := by
    refine sat_body rfl (sat_seq ?_)
    simp (decide := true) only [EV, Ab.isNon, args, List.map, List.length_cons, List.length_nil, List.length_singleton, List.replicate, Nat.reduceSub, Nat.reduceAdd, Nat.zero_add, List.cons_append, List.nil_append, List.getElem?_cons_zero, List.getElem?_cons_succ, List.set_cons_zero, List.set_cons_succ, Option.some.injEq, decide_eq_true_eq, Bool.not_eq_true', decide_eq_false_iff_not, ite_true, ite_false, if_true, if_false, reduceIte, Bool.false_eq_true, Bool.not_true, Bool.not_false, Bool.true_eq_false, decide_true, decide_false, Nat.reduceLeDiff, Nat.reduceLT, ixa, ixc]
    refine sat_seq ?_
    simp (decide := true) only [EV, Ab.isNon, args, List.map, List.length_cons, List.length_nil, List.length_singleton, List.replicate, Nat.reduceSub, Nat.reduceAdd, Nat.zero_add, List.cons_append, List.nil_append, List.getElem?_cons_zero, List.getElem?_cons_succ, List.set_cons_zero, List.set_cons_succ, Option.some.injEq, decide_eq_true_eq, Bool.not_eq_true', decide_eq_false_iff_not, ite_true, ite_false, if_true, if_false, reduceIte, Bool.false_eq_true, Bool.not_true, Bool.not_false, Bool.true_eq_false, decide_true, decide_false, Nat.reduceLeDiff, Nat.reduceLT, ixa, ixc]
  obtain ⟨d, A', e, rfl, rfl⟩ := key.eq
  exact e
theorem b_no {w : Str} {ds : List D} {A : AH} (h1 : w ≠ "if") (h2 : w ≠ "while") : m_bodies [.tup (.str w :: ds)] A = .ok (.tup []) A := by
  have key : Sat (m_bodies [.tup (.str w :: ds)] A) fun d A' => d = .tup [] ∧ A' = A := by
    refine sat_body rfl (sat_seq ?_)
    simp (decide := true) only [EV, Ab.isNon, args, List.map, List.length_cons, List.length_nil, List.length_singleton, List.replicate, Nat.reduceSub, Nat.reduceAdd, Nat.zero_add, List.cons_append, List.nil_append, List.getElem?_cons_zero, List.getElem?_cons_succ, List.set_cons_zero, List.set_cons_succ, Option.some.injEq, decide_eq_true_eq, Bool.not_eq_true', decide_eq_false_iff_not, ite_true, ite_false, if_true, if_false, reduceIte, Bool.false_eq_true, Bool.not_true, Bool.not_false, Bool.true_eq_false, decide_true, decide_false, Nat.reduceLeDiff, Nat.reduceLT, ixa, h1]
    refine sat_seq ?_
    simp (decide := true) only [EV, Ab.isNon, args, List.map, List.length_cons, List.length_nil, List.length_singleton, List.replicate, Nat.reduceSub, Nat.reduceAdd, Nat.zero_add, List.cons_append, List.nil_append, List.getElem?_cons_zero, List.getElem?_cons_succ, List.set_cons_zero, List.set_cons_succ, Option.some.injEq, decide_eq_true_eq, Bool.not_eq_true', decide_eq_false_iff_not, ite_true, ite_false, if_true, if_false, reduceIte, Bool.false_eq_true, Bool.not_true, Bool.not_false, Bool.true_eq_false, decide_true, decide_false, Nat.reduceLeDiff, Nat.reduceLT, ixa, h2]
  obtain ⟨d, A', e, rfl, rfl⟩ := key.eq
  exact e
def LOK (f : FM) (m : Nat) : Prop := ∀ (b : Bd) (l : Bool) (A : AH), b.dep < m → b.sz ≤ 1000 → b.ok l → Sat (f [.tup b.dats] A) fun d A' => Gr A A' ∧ ∃ r, d = .ref r ∧ A'[r]? = some (.lst b.flat)
theorem inner_ext {A C : AH} {m L : Nat} {a : Bd} {l : Bool} {acc ds : List D} {x0 : D} {x2 x3 : Option D} {f : FM} {P : Fl → AH → Prop} (ih : LOK f m)
    (hd : a.dep < m) (hs : a.sz ≤ 1000) (ok : a.ok l) (hC : C[L]? = some (.lst acc)) (lL : A.length ≤ L) (G : Gr A C) (few : acc.length ≤ 1000)
    (k : ∀ C', Gr A C' → C'[L]? = some (.lst (acc ++ a.flat)) → Sat (loopD yes (gN 3) (fEx (fMt "list" extendD (fV 1) (fCons (fOwn 1 f (fCons (fV 3) (fNil))) (fNil)))) ds [some x0, some (.ref L), x2, some (.tup a.dats)] C') P) :
    Sat (loopD yes (gN 3) (fEx (fMt "list" extendD (fV 1) (fCons (fOwn 1 f (fCons (fV 3) (fNil))) (fNil)))) (.tup a.dats :: ds) [some x0, some (.ref L), x2, x3] C) P := by
  rw [loop_cons trivial]
  simp only [EV, Ab.isNon, args, List.map, List.length_cons, List.length_nil, List.length_singleton, List.replicate, Nat.reduceSub, Nat.reduceAdd, Nat.zero_add, List.cons_append, List.nil_append, List.getElem?_cons_zero, List.getElem?_cons_succ, List.set_cons_zero, List.set_cons_succ, Option.some.injEq, decide_eq_true_eq, Bool.not_eq_true', decide_eq_false_iff_not, ite_true, ite_false, if_true, if_false, reduceIte, Bool.false_eq_true, Bool.not_true, Bool.not_false, Bool.true_eq_false, decide_true, decide_false, Nat.reduceLeDiff, Nat.reduceLT, ty_l hC]
  refine Sat.imp (ih a l C hd hs ok) fun d C1 ⟨g, r, ed, hr⟩ => ?_
  subst ed
  rw [ev_ext (g.keep _ _ hC) hr (by rw [a.flat_len]; omega)]
  simp only [EV, Ab.isNon, args, List.map, List.length_cons, List.length_nil, List.length_singleton, List.replicate, Nat.reduceSub, Nat.reduceAdd, Nat.zero_add, List.cons_append, List.nil_append, List.getElem?_cons_zero, List.getElem?_cons_succ, List.set_cons_zero, List.set_cons_succ, Option.some.injEq, decide_eq_true_eq, Bool.not_eq_true', decide_eq_false_iff_not, ite_true, ite_false, if_true, if_false, reduceIte, Bool.false_eq_true, Bool.not_true, Bool.not_false, Bool.true_eq_false, decide_true, decide_false, Nat.reduceLeDiff, Nat.reduceLT, turn_]
  exact k _ ((G.trans g).set lL) (at_set (at_lt (g.keep _ _ hC)))
theorem listed_spec : ∀ m : Nat, LOK (m_listed m) m := by
  intro m
  induction m with
  | zero => intro b l A h; omega
  | succ m ih =>
    intro b l A hd hs hok
    refine sat_body rfl (sat_seq ?_)
    simp only [EV, Ab.isNon, args, List.map, List.length_cons, List.length_nil, List.length_singleton, List.replicate, Nat.reduceSub, Nat.reduceAdd, Nat.zero_add, List.cons_append, List.nil_append, List.getElem?_cons_zero, List.getElem?_cons_succ, List.set_cons_zero, List.set_cons_succ, Option.some.injEq, decide_eq_true_eq, Bool.not_eq_true', decide_eq_false_iff_not, ite_true, ite_false, if_true, if_false, reduceIte, Bool.false_eq_true, Bool.not_true, Bool.not_false, Bool.true_eq_false, decide_true, decide_false, Nat.reduceLeDiff, Nat.reduceLT]
    have hL := at_new (A := A) (o := .lst [])
    have G := Gr.app (A := A) (B := [AO.lst []])
    generalize A ++ [AO.lst []] = A1 at *
    refine sat_seq ?_
    simp only [EV, Ab.isNon, args, List.map, List.length_cons, List.length_nil, List.length_singleton, List.replicate, Nat.reduceSub, Nat.reduceAdd, Nat.zero_add, List.cons_append, List.nil_append, List.getElem?_cons_zero, List.getElem?_cons_succ, List.set_cons_zero, List.set_cons_succ, Option.some.injEq, decide_eq_true_eq, Bool.not_eq_true', decide_eq_false_iff_not, ite_true, ite_false, if_true, if_false, reduceIte, Bool.false_eq_true, Bool.not_true, Bool.not_false, Bool.true_eq_false, decide_true, decide_false, Nat.reduceLeDiff, Nat.reduceLT, ev_iseq_t]
    refine loop_inv (fun ds σ C => Gr A C ∧ ∃ (rest : Bd) (acc : List D), ds = rest.dats ∧ rest.dep ≤ b.dep ∧ rest.ok l ∧ acc ++ rest.flat = b.flat ∧ C[A.length]? = some (.lst acc) ∧ ∃ x y, σ = [some (.tup b.dats), some (.ref A.length), x, y])
      (fun d ds σ C ⟨G, rest, acc, e1, dp, ok, ef, hC, x, y, hσ⟩ => ⟨trivial, ?_⟩) (fun σ C ⟨G, rest, acc, e1, dp, ok, ef, hC, x, y, hσ⟩ => ⟨trivial, ?_⟩) _ _ _ ⟨G, b, [], rfl, Nat.le_refl _, hok, rfl, hL, none, none, rfl⟩
    · subst hσ
      have fl := b.flat_len
      have fa : acc.length + rest.flat.length = b.flat.length := by rw [← ef, List.length_append]
      have fr := rest.flat_len
      simp only [EV, Ab.isNon, args, List.map, List.length_cons, List.length_nil, List.length_singleton, List.replicate, Nat.reduceSub, Nat.reduceAdd, Nat.zero_add, List.cons_append, List.nil_append, List.getElem?_cons_zero, List.getElem?_cons_succ, List.set_cons_zero, List.set_cons_succ, Option.some.injEq, decide_eq_true_eq, Bool.not_eq_true', decide_eq_false_iff_not, ite_true, ite_false, if_true, if_false, reduceIte, Bool.false_eq_true, Bool.not_true, Bool.not_false, Bool.true_eq_false, decide_true, decide_false, Nat.reduceLeDiff, Nat.reduceLT]
      refine sat_seq ?_
      simp only [EV, Ab.isNon, args, List.map, List.length_cons, List.length_nil, List.length_singleton, List.replicate, Nat.reduceSub, Nat.reduceAdd, Nat.zero_add, List.cons_append, List.nil_append, List.getElem?_cons_zero, List.getElem?_cons_succ, List.set_cons_zero, List.set_cons_succ, Option.some.injEq, decide_eq_true_eq, Bool.not_eq_true', decide_eq_false_iff_not, ite_true, ite_false, if_true, if_false, reduceIte, Bool.false_eq_true, Bool.not_true, Bool.not_false, Bool.true_eq_false, decide_true, decide_false, Nat.reduceLeDiff, Nat.reduceLT, ty_l hC]
      rw [ev_app hC (by omega)]
      have hC1 := at_set (o := .lst (acc ++ [d])) (at_lt hC)
      have G1 := G.set (o := .lst (acc ++ [d])) (Nat.le_refl A.length)
      have l1 : (acc ++ [d]).length = acc.length + 1 := by simp
      generalize C.set A.length (.lst (acc ++ [d])) = C1 at *
      cases rest with
      | nil => cases e1
      | lf d' r =>
        have e1 : d :: ds = d' :: r.dats := e1
        rw [List.cons.injEq] at e1
        obtain ⟨e1, e2⟩ := e1
        subst e1
        obtain ⟨⟨w, ds', ed, w1, w2, w3, w4, _⟩, ro⟩ := ok
        have ef : acc ++ (d :: r.flat) = b.flat := ef
        rw [show d = .tup (.str w :: ds') from ed]
        simp only [EV, Ab.isNon, args, List.map, List.length_cons, List.length_nil, List.length_singleton, List.replicate, Nat.reduceSub, Nat.reduceAdd, Nat.zero_add, List.cons_append, List.nil_append, List.getElem?_cons_zero, List.getElem?_cons_succ, List.set_cons_zero, List.set_cons_succ, Option.some.injEq, decide_eq_true_eq, Bool.not_eq_true', decide_eq_false_iff_not, ite_true, ite_false, if_true, if_false, reduceIte, Bool.false_eq_true, Bool.not_true, Bool.not_false, Bool.true_eq_false, decide_true, decide_false, Nat.reduceLeDiff, Nat.reduceLT, b_no w1 w2, ev_iseq_t]
        rw [loop_nil trivial]
        simp only [EV, Ab.isNon, args, List.map, List.length_cons, List.length_nil, List.length_singleton, List.replicate, Nat.reduceSub, Nat.reduceAdd, Nat.zero_add, List.cons_append, List.nil_append, List.getElem?_cons_zero, List.getElem?_cons_succ, List.set_cons_zero, List.set_cons_succ, Option.some.injEq, decide_eq_true_eq, Bool.not_eq_true', decide_eq_false_iff_not, ite_true, ite_false, if_true, if_false, reduceIte, Bool.false_eq_true, Bool.not_true, Bool.not_false, Bool.true_eq_false, decide_true, decide_false, Nat.reduceLeDiff, Nat.reduceLT, turn_]
        exact ⟨G1, r, acc ++ [d], e2, dp, ro, by rw [List.append_assoc]; exact ef, hC1, _, _, rfl⟩
      | brk r =>
        have e1 : d :: ds = .tup [.str "break"] :: r.dats := e1
        rw [List.cons.injEq] at e1
        obtain ⟨e1, e2⟩ := e1
        have ef : acc ++ (.tup [.str "break"] :: r.flat) = b.flat := ef
        subst e1
        simp only [EV, Ab.isNon, args, List.map, List.length_cons, List.length_nil, List.length_singleton, List.replicate, Nat.reduceSub, Nat.reduceAdd, Nat.zero_add, List.cons_append, List.nil_append, List.getElem?_cons_zero, List.getElem?_cons_succ, List.set_cons_zero, List.set_cons_succ, Option.some.injEq, decide_eq_true_eq, Bool.not_eq_true', decide_eq_false_iff_not, ite_true, ite_false, if_true, if_false, reduceIte, Bool.false_eq_true, Bool.not_true, Bool.not_false, Bool.true_eq_false, decide_true, decide_false, Nat.reduceLeDiff, Nat.reduceLT, b_no (show ("break" : Str) ≠ "if" by decide) (show ("break" : Str) ≠ "while" by decide), ev_iseq_t]
        rw [loop_nil trivial]
        simp only [EV, Ab.isNon, args, List.map, List.length_cons, List.length_nil, List.length_singleton, List.replicate, Nat.reduceSub, Nat.reduceAdd, Nat.zero_add, List.cons_append, List.nil_append, List.getElem?_cons_zero, List.getElem?_cons_succ, List.set_cons_zero, List.set_cons_succ, Option.some.injEq, decide_eq_true_eq, Bool.not_eq_true', decide_eq_false_iff_not, ite_true, ite_false, if_true, if_false, reduceIte, Bool.false_eq_true, Bool.not_true, Bool.not_false, Bool.true_eq_false, decide_true, decide_false, Nat.reduceLeDiff, Nat.reduceLT, turn_]
        exact ⟨G1, r, _, e2, dp, ok.2, by rw [List.append_assoc]; exact ef, hC1, _, _, rfl⟩
      | ret v r =>
        have e1 : d :: ds = .tup [.str "return", v] :: r.dats := e1
        rw [List.cons.injEq] at e1
        obtain ⟨e1, e2⟩ := e1
        have ef : acc ++ (.tup [.str "return", v] :: r.flat) = b.flat := ef
        subst e1
        simp only [EV, Ab.isNon, args, List.map, List.length_cons, List.length_nil, List.length_singleton, List.replicate, Nat.reduceSub, Nat.reduceAdd, Nat.zero_add, List.cons_append, List.nil_append, List.getElem?_cons_zero, List.getElem?_cons_succ, List.set_cons_zero, List.set_cons_succ, Option.some.injEq, decide_eq_true_eq, Bool.not_eq_true', decide_eq_false_iff_not, ite_true, ite_false, if_true, if_false, reduceIte, Bool.false_eq_true, Bool.not_true, Bool.not_false, Bool.true_eq_false, decide_true, decide_false, Nat.reduceLeDiff, Nat.reduceLT, b_no (show ("return" : Str) ≠ "if" by decide) (show ("return" : Str) ≠ "while" by decide), ev_iseq_t]
        rw [loop_nil trivial]
        simp only [EV, Ab.isNon, args, List.map, List.length_cons, List.length_nil, List.length_singleton, List.replicate, Nat.reduceSub, Nat.reduceAdd, Nat.zero_add, List.cons_append, List.nil_append, List.getElem?_cons_zero, List.getElem?_cons_succ, List.set_cons_zero, List.set_cons_succ, Option.some.injEq, decide_eq_true_eq, Bool.not_eq_true', decide_eq_false_iff_not, ite_true, ite_false, if_true, if_false, reduceIte, Bool.false_eq_true, Bool.not_true, Bool.not_false, Bool.true_eq_false, decide_true, decide_false, Nat.reduceLeDiff, Nat.reduceLT, turn_]
        exact ⟨G1, r, _, e2, dp, ok.2, by rw [List.append_assoc]; exact ef, hC1, _, _, rfl⟩
      | ite t a c r =>
        have e1 : d :: ds = .tup [.str "if", t, .tup a.dats, .tup c.dats] :: r.dats := e1
        rw [List.cons.injEq] at e1
        obtain ⟨e1, e2⟩ := e1
        have ef : acc ++ (.tup [.str "if", t, .tup a.dats, .tup c.dats] :: (a.flat ++ c.flat ++ r.flat)) = b.flat := ef
        have dp : max (max a.dep c.dep + 1) r.dep ≤ b.dep := dp
        have fr : (Bd.ite t a c r).flat.length = a.sz + c.sz + r.sz + 1 := fr
        obtain ⟨_, oa, oc, or⟩ := ok
        have fla := a.flat_len
        subst e1
        simp only [EV, Ab.isNon, args, List.map, List.length_cons, List.length_nil, List.length_singleton, List.replicate, Nat.reduceSub, Nat.reduceAdd, Nat.zero_add, List.cons_append, List.nil_append, List.getElem?_cons_zero, List.getElem?_cons_succ, List.set_cons_zero, List.set_cons_succ, Option.some.injEq, decide_eq_true_eq, Bool.not_eq_true', decide_eq_false_iff_not, ite_true, ite_false, if_true, if_false, reduceIte, Bool.false_eq_true, Bool.not_true, Bool.not_false, Bool.true_eq_false, decide_true, decide_false, Nat.reduceLeDiff, Nat.reduceLT, b_if, ev_iseq_t]
        refine inner_ext ih (by omega) (by omega) oa hC1 (Nat.le_refl _) G1 (by omega) fun C2 G2 hC2 => ?_
        refine inner_ext ih (by omega) (by omega) oc hC2 (Nat.le_refl _) G2 (by rw [List.length_append]; omega) fun C3 G3 hC3 => ?_
        rw [loop_nil trivial]
        simp only [EV, Ab.isNon, args, List.map, List.length_cons, List.length_nil, List.length_singleton, List.replicate, Nat.reduceSub, Nat.reduceAdd, Nat.zero_add, List.cons_append, List.nil_append, List.getElem?_cons_zero, List.getElem?_cons_succ, List.set_cons_zero, List.set_cons_succ, Option.some.injEq, decide_eq_true_eq, Bool.not_eq_true', decide_eq_false_iff_not, ite_true, ite_false, if_true, if_false, reduceIte, Bool.false_eq_true, Bool.not_true, Bool.not_false, Bool.true_eq_false, decide_true, decide_false, Nat.reduceLeDiff, Nat.reduceLT, turn_]
        exact ⟨G3, r, _, e2, by omega, or, by rw [← ef]; simp, hC3, _, _, rfl⟩
      | whl t a r =>
        have e1 : d :: ds = .tup [.str "while", t, .tup a.dats] :: r.dats := e1
        rw [List.cons.injEq] at e1
        obtain ⟨e1, e2⟩ := e1
        have ef : acc ++ (.tup [.str "while", t, .tup a.dats] :: (a.flat ++ r.flat)) = b.flat := ef
        have dp : max (a.dep + 1) r.dep ≤ b.dep := dp
        have fr : (Bd.whl t a r).flat.length = a.sz + r.sz + 1 := fr
        obtain ⟨_, oa, or⟩ := ok
        subst e1
        simp only [EV, Ab.isNon, args, List.map, List.length_cons, List.length_nil, List.length_singleton, List.replicate, Nat.reduceSub, Nat.reduceAdd, Nat.zero_add, List.cons_append, List.nil_append, List.getElem?_cons_zero, List.getElem?_cons_succ, List.set_cons_zero, List.set_cons_succ, Option.some.injEq, decide_eq_true_eq, Bool.not_eq_true', decide_eq_false_iff_not, ite_true, ite_false, if_true, if_false, reduceIte, Bool.false_eq_true, Bool.not_true, Bool.not_false, Bool.true_eq_false, decide_true, decide_false, Nat.reduceLeDiff, Nat.reduceLT, b_wh, ev_iseq_t]
        refine inner_ext ih (by omega) (by omega) oa hC1 (Nat.le_refl _) G1 (by omega) fun C2 G2 hC2 => ?_
        rw [loop_nil trivial]
        simp only [EV, Ab.isNon, args, List.map, List.length_cons, List.length_nil, List.length_singleton, List.replicate, Nat.reduceSub, Nat.reduceAdd, Nat.zero_add, List.cons_append, List.nil_append, List.getElem?_cons_zero, List.getElem?_cons_succ, List.set_cons_zero, List.set_cons_succ, Option.some.injEq, decide_eq_true_eq, Bool.not_eq_true', decide_eq_false_iff_not, ite_true, ite_false, if_true, if_false, reduceIte, Bool.false_eq_true, Bool.not_true, Bool.not_false, Bool.true_eq_false, decide_true, decide_false, Nat.reduceLeDiff, Nat.reduceLT, turn_]
        exact ⟨G2, r, _, e2, by omega, or, by rw [← ef]; simp, hC2, _, _, rfl⟩
    · subst hσ
      cases rest with
      | nil =>
        simp only [EV, Ab.isNon, args, List.map, List.length_cons, List.length_nil, List.length_singleton, List.replicate, Nat.reduceSub, Nat.reduceAdd, Nat.zero_add, List.cons_append, List.nil_append, List.getElem?_cons_zero, List.getElem?_cons_succ, List.set_cons_zero, List.set_cons_succ, Option.some.injEq, decide_eq_true_eq, Bool.not_eq_true', decide_eq_false_iff_not, ite_true, ite_false, if_true, if_false, reduceIte, Bool.false_eq_true, Bool.not_true, Bool.not_false, Bool.true_eq_false, decide_true, decide_false, Nat.reduceLeDiff, Nat.reduceLT]
        rw [show Bd.nil.flat = [] from rfl, List.append_nil] at ef
        exact ⟨G, _, rfl, by rw [← ef]; exact hC⟩
      | lf d r => cases e1
      | brk r => cases e1
      | ret v r => cases e1
      | ite t a c r => cases e1
      | whl t a r => cases e1
theorem fp_spec {b : Bd} {p : Nat} {af : Int} {A : AH} : m_first_place [.tup b.dats, .int (p : Nat), .int af] A = .ok (.int (fp b p af)) A := by
  have key : Sat (m_first_place [.tup b.dats, .int (p : Nat), .int af] A) fun d A' => d = .int (fp b p af) ∧ A' = A := by
    have em : b.dats.isEmpty = decide (b.cnt = 0) := by cases b <;> rfl
    refine sat_body rfl (sat_seq ?_)
    unfold fp
    by_cases h : b.cnt = 0
    · simp only [EV, Ab.isNon, args, List.map, List.length_cons, List.length_nil, List.length_singleton, List.replicate, Nat.reduceSub, Nat.reduceAdd, Nat.zero_add, List.cons_append, List.nil_append, List.getElem?_cons_zero, List.getElem?_cons_succ, List.set_cons_zero, List.set_cons_succ, Option.some.injEq, decide_eq_true_eq, Bool.not_eq_true', decide_eq_false_iff_not, ite_true, ite_false, if_true, if_false, reduceIte, Bool.false_eq_true, Bool.not_true, Bool.not_false, Bool.true_eq_false, decide_true, decide_false, Nat.reduceLeDiff, Nat.reduceLT, ev_eqNilT, em, h]
      exact ⟨trivial, trivial⟩
    · simp only [EV, Ab.isNon, args, List.map, List.length_cons, List.length_nil, List.length_singleton, List.replicate, Nat.reduceSub, Nat.reduceAdd, Nat.zero_add, List.cons_append, List.nil_append, List.getElem?_cons_zero, List.getElem?_cons_succ, List.set_cons_zero, List.set_cons_succ, Option.some.injEq, decide_eq_true_eq, Bool.not_eq_true', decide_eq_false_iff_not, ite_true, ite_false, if_true, if_false, reduceIte, Bool.false_eq_true, Bool.not_true, Bool.not_false, Bool.true_eq_false, decide_true, decide_false, Nat.reduceLeDiff, Nat.reduceLT, ev_eqNilT, em, h]
      exact ⟨trivial, trivial⟩
  obtain ⟨d, A', e, rfl, rfl⟩ := key.eq
  exact e
def BOK (f : FM) (n : Nat) : Prop := ∀ (b : Bd) (l : Bool) (p : Nat) (af : Int) (out : D) (e : Int) (A : AH), 2 * b.dep + 2 ≤ n → b.sz ≤ 1000 → b.dep ≤ 19 → b.ok l → Sat (f [.tup b.dats, .int (p : Nat), .int af, out, .int e] A) fun d A' => Gr A A' ∧ ∃ r, d = .ref r ∧ A'[r]? = some (.lst (nds b p af out e))
def SOK (f : FM) (n : Nat) : Prop := ∀ (s : Bd) (d : D) (l : Bool) (p : Nat) (af : Int) (out : D) (e : Int) (A : AH), s.dats = [d] → 2 * s.dep + 1 ≤ n → s.sz ≤ 1000 → s.dep ≤ 19 → s.ok l → Sat (f [d, .int (p : Nat), .int af, out, .int e] A) fun d A' => Gr A A' ∧ ∃ r, d = .ref r ∧ A'[r]? = some (.lst (nds s p af out e))
theorem dats_nil {r : Bd} (h : r.dats = []) : r = .nil := by cases r <;> first | rfl | cases h
theorem fp_nil {q : Nat} {af : Int} : fp .nil q af = af := if_pos rfl
theorem stmt_step {n : Nat} (hB : BOK (m_body_nodes n) n) : SOK (m_statement_nodes (n + 1)) (n + 1) := by
  intro s d l p af out e A hd dp sz dq ok
  refine sat_body (p := p_statement_nodes (m_body_nodes n) (m_statement_nodes n)) rfl (sat_seq ?_)
  have ep : ((p : Nat) : Int) + 1 = ((p + 1 : Nat) : Int) := by omega
  cases s with
  | nil => cases hd
  | lf d' r =>
    have hd : d' :: r.dats = [d] := hd
    rw [List.cons.injEq] at hd
    obtain ⟨e1, e2⟩ := hd
    have e2 := dats_nil e2
    subst e1; subst e2
    obtain ⟨⟨w, ds', ed, w1, w2, w3, w4, _⟩, _⟩ := ok
    have nn : nds (.lf d' .nil) p af out e = [nd d' af .non] := by show [nd d' (fp .nil (p + 1) af) .non] = _; rw [fp_nil]
    rw [nn]
    subst ed
    simp only [EV, Ab.isNon, args, List.map, List.length_cons, List.length_nil, List.length_singleton, List.replicate, Nat.reduceSub, Nat.reduceAdd, Nat.zero_add, List.cons_append, List.nil_append, List.getElem?_cons_zero, List.getElem?_cons_succ, List.set_cons_zero, List.set_cons_succ, Option.some.injEq, decide_eq_true_eq, Bool.not_eq_true', decide_eq_false_iff_not, ite_true, ite_false, if_true, if_false, reduceIte, Bool.false_eq_true, Bool.not_true, Bool.not_false, Bool.true_eq_false, decide_true, decide_false, Nat.reduceLeDiff, Nat.reduceLT, ixa]
    refine sat_seq ?_; simp only [EV, Ab.isNon, args, List.map, List.length_cons, List.length_nil, List.length_singleton, List.replicate, Nat.reduceSub, Nat.reduceAdd, Nat.zero_add, List.cons_append, List.nil_append, List.getElem?_cons_zero, List.getElem?_cons_succ, List.set_cons_zero, List.set_cons_succ, Option.some.injEq, decide_eq_true_eq, Bool.not_eq_true', decide_eq_false_iff_not, ite_true, ite_false, if_true, if_false, reduceIte, Bool.false_eq_true, Bool.not_true, Bool.not_false, Bool.true_eq_false, decide_true, decide_false, Nat.reduceLeDiff, Nat.reduceLT, w1]
    refine sat_seq ?_; simp only [EV, Ab.isNon, args, List.map, List.length_cons, List.length_nil, List.length_singleton, List.replicate, Nat.reduceSub, Nat.reduceAdd, Nat.zero_add, List.cons_append, List.nil_append, List.getElem?_cons_zero, List.getElem?_cons_succ, List.set_cons_zero, List.set_cons_succ, Option.some.injEq, decide_eq_true_eq, Bool.not_eq_true', decide_eq_false_iff_not, ite_true, ite_false, if_true, if_false, reduceIte, Bool.false_eq_true, Bool.not_true, Bool.not_false, Bool.true_eq_false, decide_true, decide_false, Nat.reduceLeDiff, Nat.reduceLT, w2]
    refine sat_seq ?_; simp only [EV, Ab.isNon, args, List.map, List.length_cons, List.length_nil, List.length_singleton, List.replicate, Nat.reduceSub, Nat.reduceAdd, Nat.zero_add, List.cons_append, List.nil_append, List.getElem?_cons_zero, List.getElem?_cons_succ, List.set_cons_zero, List.set_cons_succ, Option.some.injEq, decide_eq_true_eq, Bool.not_eq_true', decide_eq_false_iff_not, ite_true, ite_false, if_true, if_false, reduceIte, Bool.false_eq_true, Bool.not_true, Bool.not_false, Bool.true_eq_false, decide_true, decide_false, Nat.reduceLeDiff, Nat.reduceLT, w3]
    refine sat_seq ?_; simp only [EV, Ab.isNon, args, List.map, List.length_cons, List.length_nil, List.length_singleton, List.replicate, Nat.reduceSub, Nat.reduceAdd, Nat.zero_add, List.cons_append, List.nil_append, List.getElem?_cons_zero, List.getElem?_cons_succ, List.set_cons_zero, List.set_cons_succ, Option.some.injEq, decide_eq_true_eq, Bool.not_eq_true', decide_eq_false_iff_not, ite_true, ite_false, if_true, if_false, reduceIte, Bool.false_eq_true, Bool.not_true, Bool.not_false, Bool.true_eq_false, decide_true, decide_false, Nat.reduceLeDiff, Nat.reduceLT, w4]
    exact ⟨.app, _, rfl, at_new⟩
  | brk r =>
    have hd : .tup [.str "break"] :: r.dats = [d] := hd
    rw [List.cons.injEq] at hd
    obtain ⟨e1, e2⟩ := hd
    have e2 := dats_nil e2
    subst e1; subst e2
    simp only [EV, Ab.isNon, args, List.map, List.length_cons, List.length_nil, List.length_singleton, List.replicate, Nat.reduceSub, Nat.reduceAdd, Nat.zero_add, List.cons_append, List.nil_append, List.getElem?_cons_zero, List.getElem?_cons_succ, List.set_cons_zero, List.set_cons_succ, Option.some.injEq, decide_eq_true_eq, Bool.not_eq_true', decide_eq_false_iff_not, ite_true, ite_false, if_true, if_false, reduceIte, Bool.false_eq_true, Bool.not_true, Bool.not_false, Bool.true_eq_false, decide_true, decide_false, Nat.reduceLeDiff, Nat.reduceLT, ixa]
    refine sat_seq ?_; simp (decide := true) only [EV, Ab.isNon, args, List.map, List.length_cons, List.length_nil, List.length_singleton, List.replicate, Nat.reduceSub, Nat.reduceAdd, Nat.zero_add, List.cons_append, List.nil_append, List.getElem?_cons_zero, List.getElem?_cons_succ, List.set_cons_zero, List.set_cons_succ, Option.some.injEq, decide_eq_true_eq, Bool.not_eq_true', decide_eq_false_iff_not, ite_true, ite_false, if_true, if_false, reduceIte, Bool.false_eq_true, Bool.not_true, Bool.not_false, Bool.true_eq_false, decide_true, decide_false, Nat.reduceLeDiff, Nat.reduceLT]
    refine sat_seq ?_; simp (decide := true) only [EV, Ab.isNon, args, List.map, List.length_cons, List.length_nil, List.length_singleton, List.replicate, Nat.reduceSub, Nat.reduceAdd, Nat.zero_add, List.cons_append, List.nil_append, List.getElem?_cons_zero, List.getElem?_cons_succ, List.set_cons_zero, List.set_cons_succ, Option.some.injEq, decide_eq_true_eq, Bool.not_eq_true', decide_eq_false_iff_not, ite_true, ite_false, if_true, if_false, reduceIte, Bool.false_eq_true, Bool.not_true, Bool.not_false, Bool.true_eq_false, decide_true, decide_false, Nat.reduceLeDiff, Nat.reduceLT]
    refine sat_seq ?_; simp (decide := true) only [EV, Ab.isNon, args, List.map, List.length_cons, List.length_nil, List.length_singleton, List.replicate, Nat.reduceSub, Nat.reduceAdd, Nat.zero_add, List.cons_append, List.nil_append, List.getElem?_cons_zero, List.getElem?_cons_succ, List.set_cons_zero, List.set_cons_succ, Option.some.injEq, decide_eq_true_eq, Bool.not_eq_true', decide_eq_false_iff_not, ite_true, ite_false, if_true, if_false, reduceIte, Bool.false_eq_true, Bool.not_true, Bool.not_false, Bool.true_eq_false, decide_true, decide_false, Nat.reduceLeDiff, Nat.reduceLT]
    exact ⟨.app, _, rfl, at_new⟩
  | ret x r =>
    have hd : .tup [.str "return", x] :: r.dats = [d] := hd
    rw [List.cons.injEq] at hd
    obtain ⟨e1, e2⟩ := hd
    have e2 := dats_nil e2
    subst e1; subst e2
    simp only [EV, Ab.isNon, args, List.map, List.length_cons, List.length_nil, List.length_singleton, List.replicate, Nat.reduceSub, Nat.reduceAdd, Nat.zero_add, List.cons_append, List.nil_append, List.getElem?_cons_zero, List.getElem?_cons_succ, List.set_cons_zero, List.set_cons_succ, Option.some.injEq, decide_eq_true_eq, Bool.not_eq_true', decide_eq_false_iff_not, ite_true, ite_false, if_true, if_false, reduceIte, Bool.false_eq_true, Bool.not_true, Bool.not_false, Bool.true_eq_false, decide_true, decide_false, Nat.reduceLeDiff, Nat.reduceLT, ixa]
    refine sat_seq ?_; simp (decide := true) only [EV, Ab.isNon, args, List.map, List.length_cons, List.length_nil, List.length_singleton, List.replicate, Nat.reduceSub, Nat.reduceAdd, Nat.zero_add, List.cons_append, List.nil_append, List.getElem?_cons_zero, List.getElem?_cons_succ, List.set_cons_zero, List.set_cons_succ, Option.some.injEq, decide_eq_true_eq, Bool.not_eq_true', decide_eq_false_iff_not, ite_true, ite_false, if_true, if_false, reduceIte, Bool.false_eq_true, Bool.not_true, Bool.not_false, Bool.true_eq_false, decide_true, decide_false, Nat.reduceLeDiff, Nat.reduceLT]
    refine sat_seq ?_; simp (decide := true) only [EV, Ab.isNon, args, List.map, List.length_cons, List.length_nil, List.length_singleton, List.replicate, Nat.reduceSub, Nat.reduceAdd, Nat.zero_add, List.cons_append, List.nil_append, List.getElem?_cons_zero, List.getElem?_cons_succ, List.set_cons_zero, List.set_cons_succ, Option.some.injEq, decide_eq_true_eq, Bool.not_eq_true', decide_eq_false_iff_not, ite_true, ite_false, if_true, if_false, reduceIte, Bool.false_eq_true, Bool.not_true, Bool.not_false, Bool.true_eq_false, decide_true, decide_false, Nat.reduceLeDiff, Nat.reduceLT]
    refine sat_seq ?_; simp (decide := true) only [EV, Ab.isNon, args, List.map, List.length_cons, List.length_nil, List.length_singleton, List.replicate, Nat.reduceSub, Nat.reduceAdd, Nat.zero_add, List.cons_append, List.nil_append, List.getElem?_cons_zero, List.getElem?_cons_succ, List.set_cons_zero, List.set_cons_succ, Option.some.injEq, decide_eq_true_eq, Bool.not_eq_true', decide_eq_false_iff_not, ite_true, ite_false, if_true, if_false, reduceIte, Bool.false_eq_true, Bool.not_true, Bool.not_false, Bool.true_eq_false, decide_true, decide_false, Nat.reduceLeDiff, Nat.reduceLT]
    refine sat_seq ?_; simp (decide := true) only [EV, Ab.isNon, args, List.map, List.length_cons, List.length_nil, List.length_singleton, List.replicate, Nat.reduceSub, Nat.reduceAdd, Nat.zero_add, List.cons_append, List.nil_append, List.getElem?_cons_zero, List.getElem?_cons_succ, List.set_cons_zero, List.set_cons_succ, Option.some.injEq, decide_eq_true_eq, Bool.not_eq_true', decide_eq_false_iff_not, ite_true, ite_false, if_true, if_false, reduceIte, Bool.false_eq_true, Bool.not_true, Bool.not_false, Bool.true_eq_false, decide_true, decide_false, Nat.reduceLeDiff, Nat.reduceLT]
    exact ⟨.app, _, rfl, at_new⟩
  | ite t a b r =>
    have hd : .tup [.str "if", t, .tup a.dats, .tup b.dats] :: r.dats = [d] := hd
    rw [List.cons.injEq] at hd
    obtain ⟨e1, e2⟩ := hd
    have e2 := dats_nil e2
    subst e1; subst e2
    have dp : 2 * max (max a.dep b.dep + 1) Bd.nil.dep + 1 ≤ n + 1 := dp
    have dq : max (max a.dep b.dep + 1) Bd.nil.dep ≤ 19 := dq
    have sz : a.sz + b.sz + 0 + 1 ≤ 1000 := sz
    obtain ⟨_, oa, ob, _⟩ := ok
    have nn : nds (.ite t a b .nil) p af out e = nd (tst t) (fp a (p + 1) af) (.int (fp b (p + 1 + a.sz) af)) :: (nds a (p + 1) af out e ++ nds b (p + 1 + a.sz) af out e) := by
      show nd (tst t) (fp a (p + 1) (fp .nil (p + 1 + a.sz + b.sz) af)) (.int (fp b (p + 1 + a.sz) (fp .nil (p + 1 + a.sz + b.sz) af))) :: (nds a (p + 1) (fp .nil (p + 1 + a.sz + b.sz) af) out e ++ nds b (p + 1 + a.sz) (fp .nil (p + 1 + a.sz + b.sz) af) out e ++ []) = _
      rw [fp_nil, List.append_nil]
    rw [nn]
    have i3 : ∀ A, ixD (.tup [.str "if", t, .tup a.dats, .tup b.dats]) (.int 3) A = .ok (.tup b.dats) A := fun A => ev_ix_t (by rw [atI_pos (by decide)]; rfl)
    have la := nds_len a (p + 1) af out e
    have lb := nds_len b (p + 1 + a.sz) af out e
    simp only [EV, Ab.isNon, args, List.map, List.length_cons, List.length_nil, List.length_singleton, List.replicate, Nat.reduceSub, Nat.reduceAdd, Nat.zero_add, List.cons_append, List.nil_append, List.getElem?_cons_zero, List.getElem?_cons_succ, List.set_cons_zero, List.set_cons_succ, Option.some.injEq, decide_eq_true_eq, Bool.not_eq_true', decide_eq_false_iff_not, ite_true, ite_false, if_true, if_false, reduceIte, Bool.false_eq_true, Bool.not_true, Bool.not_false, Bool.true_eq_false, decide_true, decide_false, Nat.reduceLeDiff, Nat.reduceLT, ixa]
    refine sat_seq ?_; simp (decide := true) only [EV, Ab.isNon, args, List.map, List.length_cons, List.length_nil, List.length_singleton, List.replicate, Nat.reduceSub, Nat.reduceAdd, Nat.zero_add, List.cons_append, List.nil_append, List.getElem?_cons_zero, List.getElem?_cons_succ, List.set_cons_zero, List.set_cons_succ, Option.some.injEq, decide_eq_true_eq, Bool.not_eq_true', decide_eq_false_iff_not, ite_true, ite_false, if_true, if_false, reduceIte, Bool.false_eq_true, Bool.not_true, Bool.not_false, Bool.true_eq_false, decide_true, decide_false, Nat.reduceLeDiff, Nat.reduceLT]
    refine sat_seq ?_; simp only [EV, Ab.isNon, args, List.map, List.length_cons, List.length_nil, List.length_singleton, List.replicate, Nat.reduceSub, Nat.reduceAdd, Nat.zero_add, List.cons_append, List.nil_append, List.getElem?_cons_zero, List.getElem?_cons_succ, List.set_cons_zero, List.set_cons_succ, Option.some.injEq, decide_eq_true_eq, Bool.not_eq_true', decide_eq_false_iff_not, ite_true, ite_false, if_true, if_false, reduceIte, Bool.false_eq_true, Bool.not_true, Bool.not_false, Bool.true_eq_false, decide_true, decide_false, Nat.reduceLeDiff, Nat.reduceLT, ixc, ep]
    refine Sat.imp (hB a l (p + 1) af out e A (by omega) (by omega) (by omega) oa) fun d A1 ⟨g1, r1, ed, h1⟩ => ?_
    subst ed
    refine sat_seq ?_; simp only [EV, Ab.isNon, args, List.map, List.length_cons, List.length_nil, List.length_singleton, List.replicate, Nat.reduceSub, Nat.reduceAdd, Nat.zero_add, List.cons_append, List.nil_append, List.getElem?_cons_zero, List.getElem?_cons_succ, List.set_cons_zero, List.set_cons_succ, Option.some.injEq, decide_eq_true_eq, Bool.not_eq_true', decide_eq_false_iff_not, ite_true, ite_false, if_true, if_false, reduceIte, Bool.false_eq_true, Bool.not_true, Bool.not_false, Bool.true_eq_false, decide_true, decide_false, Nat.reduceLeDiff, Nat.reduceLT, ep, ev_len_r (rdL_l h1)]
    rw [la, show ((p + 1 : Nat) : Int) + ((a.sz : Nat) : Int) = ((p + 1 + a.sz : Nat) : Int) by omega]
    refine sat_seq ?_; simp only [EV, Ab.isNon, args, List.map, List.length_cons, List.length_nil, List.length_singleton, List.replicate, Nat.reduceSub, Nat.reduceAdd, Nat.zero_add, List.cons_append, List.nil_append, List.getElem?_cons_zero, List.getElem?_cons_succ, List.set_cons_zero, List.set_cons_succ, Option.some.injEq, decide_eq_true_eq, Bool.not_eq_true', decide_eq_false_iff_not, ite_true, ite_false, if_true, if_false, reduceIte, Bool.false_eq_true, Bool.not_true, Bool.not_false, Bool.true_eq_false, decide_true, decide_false, Nat.reduceLeDiff, Nat.reduceLT, i3]
    refine Sat.imp (hB b l (p + 1 + a.sz) af out e A1 (by omega) (by omega) (by omega) ob) fun d A2 ⟨g2, r2, ed, h2⟩ => ?_
    subst ed
    have h1 := g2.keep _ _ h1
    refine sat_seq ?_; simp only [EV, Ab.isNon, args, List.map, List.length_cons, List.length_nil, List.length_singleton, List.replicate, Nat.reduceSub, Nat.reduceAdd, Nat.zero_add, List.cons_append, List.nil_append, List.getElem?_cons_zero, List.getElem?_cons_succ, List.set_cons_zero, List.set_cons_succ, Option.some.injEq, decide_eq_true_eq, Bool.not_eq_true', decide_eq_false_iff_not, ite_true, ite_false, if_true, if_false, reduceIte, Bool.false_eq_true, Bool.not_true, Bool.not_false, Bool.true_eq_false, decide_true, decide_false, Nat.reduceLeDiff, Nat.reduceLT, ixc, ep, fp_spec]
    refine sat_seq ?_; simp only [EV, Ab.isNon, args, List.map, List.length_cons, List.length_nil, List.length_singleton, List.replicate, Nat.reduceSub, Nat.reduceAdd, Nat.zero_add, List.cons_append, List.nil_append, List.getElem?_cons_zero, List.getElem?_cons_succ, List.set_cons_zero, List.set_cons_succ, Option.some.injEq, decide_eq_true_eq, Bool.not_eq_true', decide_eq_false_iff_not, ite_true, ite_false, if_true, if_false, reduceIte, Bool.false_eq_true, Bool.not_true, Bool.not_false, Bool.true_eq_false, decide_true, decide_false, Nat.reduceLeDiff, Nat.reduceLT, ixb, i3, fp_spec]
    have h3 := at_new (A := A2) (o := .lst [.tup [.tup [.str "test", t], .int (fp a (p + 1) af), .int (fp b (p + 1 + a.sz) af)]])
    have g3 := Gr.app (A := A2) (B := [.lst [.tup [.tup [.str "test", t], .int (fp a (p + 1) af), .int (fp b (p + 1 + a.sz) af)]]])
    have h1 := g3.keep _ _ h1
    have h2 := g3.keep _ _ h2
    generalize A2 ++ [AO.lst [.tup [.tup [.str "test", t], .int (fp a (p + 1) af), .int (fp b (p + 1 + a.sz) af)]]] = A3 at *
    rw [ev_add_rr (muL_l h3) (muL_l h1) (sl_le (by simp [la]; omega))]
    simp only [EV, Ab.isNon, args, List.map, List.length_cons, List.length_nil, List.length_singleton, List.replicate, Nat.reduceSub, Nat.reduceAdd, Nat.zero_add, List.cons_append, List.nil_append, List.getElem?_cons_zero, List.getElem?_cons_succ, List.set_cons_zero, List.set_cons_succ, Option.some.injEq, decide_eq_true_eq, Bool.not_eq_true', decide_eq_false_iff_not, ite_true, ite_false, if_true, if_false, reduceIte, Bool.false_eq_true, Bool.not_true, Bool.not_false, Bool.true_eq_false, decide_true, decide_false, Nat.reduceLeDiff, Nat.reduceLT]
    rw [ev_add_rr (muL_l at_new) (muL_l (Gr.app.keep _ _ h2)) (sl_le (by simp [la, lb]; omega))]
    simp only [EV, Ab.isNon, args, List.map, List.length_cons, List.length_nil, List.length_singleton, List.replicate, Nat.reduceSub, Nat.reduceAdd, Nat.zero_add, List.cons_append, List.nil_append, List.getElem?_cons_zero, List.getElem?_cons_succ, List.set_cons_zero, List.set_cons_succ, Option.some.injEq, decide_eq_true_eq, Bool.not_eq_true', decide_eq_false_iff_not, ite_true, ite_false, if_true, if_false, reduceIte, Bool.false_eq_true, Bool.not_true, Bool.not_false, Bool.true_eq_false, decide_true, decide_false, Nat.reduceLeDiff, Nat.reduceLT]
    exact ⟨g1.trans (g2.trans (g3.trans (Gr.app.trans .app))), _, rfl, at_new⟩
  | whl t a r =>
    have hd : .tup [.str "while", t, .tup a.dats] :: r.dats = [d] := hd
    rw [List.cons.injEq] at hd
    obtain ⟨e1, e2⟩ := hd
    have e2 := dats_nil e2
    subst e1; subst e2
    have dp : 2 * max (a.dep + 1) Bd.nil.dep + 1 ≤ n + 1 := dp
    have dq : max (a.dep + 1) Bd.nil.dep ≤ 19 := dq
    have sz : a.sz + 0 + 1 ≤ 1000 := sz
    obtain ⟨_, oa, _⟩ := ok
    have nn : nds (.whl t a .nil) p af out e = nd (tst t) (fp a (p + 1) (p : Nat)) (.int af) :: nds a (p + 1) (p : Nat) (.int af) e := by
      show nd (tst t) (fp a (p + 1) (p : Nat)) (.int (fp .nil (p + 1 + a.sz) af)) :: (nds a (p + 1) (p : Nat) (.int (fp .nil (p + 1 + a.sz) af)) e ++ []) = _
      rw [fp_nil, List.append_nil]
    rw [nn]
    have la := nds_len a (p + 1) (p : Nat) (.int af) e
    simp only [EV, Ab.isNon, args, List.map, List.length_cons, List.length_nil, List.length_singleton, List.replicate, Nat.reduceSub, Nat.reduceAdd, Nat.zero_add, List.cons_append, List.nil_append, List.getElem?_cons_zero, List.getElem?_cons_succ, List.set_cons_zero, List.set_cons_succ, Option.some.injEq, decide_eq_true_eq, Bool.not_eq_true', decide_eq_false_iff_not, ite_true, ite_false, if_true, if_false, reduceIte, Bool.false_eq_true, Bool.not_true, Bool.not_false, Bool.true_eq_false, decide_true, decide_false, Nat.reduceLeDiff, Nat.reduceLT, ixa]
    refine sat_seq ?_; simp (decide := true) only [EV, Ab.isNon, args, List.map, List.length_cons, List.length_nil, List.length_singleton, List.replicate, Nat.reduceSub, Nat.reduceAdd, Nat.zero_add, List.cons_append, List.nil_append, List.getElem?_cons_zero, List.getElem?_cons_succ, List.set_cons_zero, List.set_cons_succ, Option.some.injEq, decide_eq_true_eq, Bool.not_eq_true', decide_eq_false_iff_not, ite_true, ite_false, if_true, if_false, reduceIte, Bool.false_eq_true, Bool.not_true, Bool.not_false, Bool.true_eq_false, decide_true, decide_false, Nat.reduceLeDiff, Nat.reduceLT]
    refine sat_seq ?_; simp (decide := true) only [EV, Ab.isNon, args, List.map, List.length_cons, List.length_nil, List.length_singleton, List.replicate, Nat.reduceSub, Nat.reduceAdd, Nat.zero_add, List.cons_append, List.nil_append, List.getElem?_cons_zero, List.getElem?_cons_succ, List.set_cons_zero, List.set_cons_succ, Option.some.injEq, decide_eq_true_eq, Bool.not_eq_true', decide_eq_false_iff_not, ite_true, ite_false, if_true, if_false, reduceIte, Bool.false_eq_true, Bool.not_true, Bool.not_false, Bool.true_eq_false, decide_true, decide_false, Nat.reduceLeDiff, Nat.reduceLT]
    refine sat_seq ?_; simp only [EV, Ab.isNon, args, List.map, List.length_cons, List.length_nil, List.length_singleton, List.replicate, Nat.reduceSub, Nat.reduceAdd, Nat.zero_add, List.cons_append, List.nil_append, List.getElem?_cons_zero, List.getElem?_cons_succ, List.set_cons_zero, List.set_cons_succ, Option.some.injEq, decide_eq_true_eq, Bool.not_eq_true', decide_eq_false_iff_not, ite_true, ite_false, if_true, if_false, reduceIte, Bool.false_eq_true, Bool.not_true, Bool.not_false, Bool.true_eq_false, decide_true, decide_false, Nat.reduceLeDiff, Nat.reduceLT, ixb, ixc, ep, fp_spec]
    have h3 := at_new (A := A) (o := .lst [.tup [.tup [.str "test", t], .int (fp a (p + 1) (p : Nat)), .int af]])
    have g3 := Gr.app (A := A) (B := [.lst [.tup [.tup [.str "test", t], .int (fp a (p + 1) (p : Nat)), .int af]]])
    generalize A ++ [AO.lst [.tup [.tup [.str "test", t], .int (fp a (p + 1) (p : Nat)), .int af]]] = A3 at *
    refine Sat.imp (hB a true (p + 1) (p : Nat) (.int af) e A3 (by omega) (by omega) (by omega) oa) fun d A1 ⟨g1, r1, ed, h1⟩ => ?_
    subst ed
    rw [ev_add_rr (muL_l (g1.keep _ _ h3)) (muL_l h1) (sl_le (by simp [la]; omega))]
    simp only [EV, Ab.isNon, args, List.map, List.length_cons, List.length_nil, List.length_singleton, List.replicate, Nat.reduceSub, Nat.reduceAdd, Nat.zero_add, List.cons_append, List.nil_append, List.getElem?_cons_zero, List.getElem?_cons_succ, List.set_cons_zero, List.set_cons_succ, Option.some.injEq, decide_eq_true_eq, Bool.not_eq_true', decide_eq_false_iff_not, ite_true, ite_false, if_true, if_false, reduceIte, Bool.false_eq_true, Bool.not_true, Bool.not_false, Bool.true_eq_false, decide_true, decide_false, Nat.reduceLeDiff, Nat.reduceLT]
    exact ⟨g3.trans (g1.trans .app), _, rfl, at_new⟩
/-- the first statement and the rest -/
theorem Bd.cut : ∀ (b : Bd) (l : Bool), b.ok l → b = .nil ∨ ∃ s r d, b.dats = d :: r.dats ∧ s.dats = [d] ∧ (∀ q af out e, nds b q af out e = nds s q (fp r (q + s.sz) af) out e ++ nds r (q + s.sz) af out e) ∧ s.ok l ∧ r.ok l ∧ s.dep ≤ b.dep ∧ r.dep ≤ b.dep ∧ b.cnt = r.cnt + 1 ∧ b.sz = s.sz + r.sz
  | .nil, _, _ => .inl rfl
  | .lf d r, l, ok => .inr ⟨.lf d .nil, r, d, rfl, rfl, fun q af out e => by
      show nds (.lf d r) q af out e = [nd d (fp .nil (q + 1) (fp r (q + 1) af)) .non] ++ _
      rw [fp_nil]; rfl, ⟨ok.1, trivial⟩, ok.2, Nat.zero_le _, Nat.le_refl _, rfl, by show r.sz + 1 = (0 + 1) + r.sz; omega⟩
  | .brk r, l, ok => .inr ⟨.brk .nil, r, _, rfl, rfl, fun q af out e => rfl, ⟨ok.1, trivial⟩, ok.2, Nat.zero_le _, Nat.le_refl _, rfl, by show r.sz + 1 = (0 + 1) + r.sz; omega⟩
  | .ret x r, l, ok => .inr ⟨.ret x .nil, r, _, rfl, rfl, fun q af out e => rfl, ⟨ok.1, trivial⟩, ok.2, Nat.zero_le _, Nat.le_refl _, rfl, by show r.sz + 1 = (0 + 1) + r.sz; omega⟩
  | .ite t a b r, l, ok => .inr ⟨.ite t a b .nil, r, _, rfl, rfl, fun q af out e => by
      have e1 : q + (Bd.ite t a b .nil).sz = q + 1 + a.sz + b.sz := by show q + (a.sz + b.sz + 0 + 1) = _; omega
      rw [e1]
      show nd (tst t) (fp a (q + 1) (fp r (q + 1 + a.sz + b.sz) af)) (.int (fp b (q + 1 + a.sz) (fp r (q + 1 + a.sz + b.sz) af))) :: (nds a (q + 1) (fp r (q + 1 + a.sz + b.sz) af) out e ++ nds b (q + 1 + a.sz) (fp r (q + 1 + a.sz + b.sz) af) out e ++ nds r (q + 1 + a.sz + b.sz) af out e) =
        (nd (tst t) (fp a (q + 1) (fp .nil (q + 1 + a.sz + b.sz) (fp r (q + 1 + a.sz + b.sz) af))) (.int (fp b (q + 1 + a.sz) (fp .nil (q + 1 + a.sz + b.sz) (fp r (q + 1 + a.sz + b.sz) af)))) :: (nds a (q + 1) (fp .nil (q + 1 + a.sz + b.sz) (fp r (q + 1 + a.sz + b.sz) af)) out e ++ nds b (q + 1 + a.sz) (fp .nil (q + 1 + a.sz + b.sz) (fp r (q + 1 + a.sz + b.sz) af)) out e ++ [])) ++ nds r (q + 1 + a.sz + b.sz) af out e
      rw [fp_nil, List.append_nil]; rfl, ⟨ok.1, ok.2.1, ok.2.2.1, trivial⟩, ok.2.2.2, by show max (max a.dep b.dep + 1) 0 ≤ max (max a.dep b.dep + 1) r.dep; omega, by show r.dep ≤ max (max a.dep b.dep + 1) r.dep; omega, rfl, by show a.sz + b.sz + r.sz + 1 = (a.sz + b.sz + 0 + 1) + r.sz; omega⟩
  | .whl t a r, l, ok => .inr ⟨.whl t a .nil, r, _, rfl, rfl, fun q af out e => by
      have e1 : q + (Bd.whl t a .nil).sz = q + 1 + a.sz := by show q + (a.sz + 0 + 1) = _; omega
      rw [e1]
      show nd (tst t) (fp a (q + 1) (q : Nat)) (.int (fp r (q + 1 + a.sz) af)) :: (nds a (q + 1) (q : Nat) (.int (fp r (q + 1 + a.sz) af)) e ++ nds r (q + 1 + a.sz) af out e) =
        (nd (tst t) (fp a (q + 1) (q : Nat)) (.int (fp .nil (q + 1 + a.sz) (fp r (q + 1 + a.sz) af))) :: (nds a (q + 1) (q : Nat) (.int (fp .nil (q + 1 + a.sz) (fp r (q + 1 + a.sz) af))) e ++ [])) ++ nds r (q + 1 + a.sz) af out e
      rw [fp_nil, List.append_nil]; rfl, ⟨ok.1, ok.2.1, trivial⟩, ok.2.2, by show max (a.dep + 1) 0 ≤ max (a.dep + 1) r.dep; omega, by show r.dep ≤ max (a.dep + 1) r.dep; omega, rfl, by show a.sz + r.sz + 1 = (a.sz + 0 + 1) + r.sz; omega⟩
theorem body_step {n : Nat} (hS : SOK (m_statement_nodes n) n) : BOK (m_body_nodes (n + 1)) (n + 1) := by
  intro b l p af out e A dp sz dq hok
  refine sat_body (p := p_body_nodes (m_body_nodes n) (m_statement_nodes n)) rfl (sat_seq ?_)
  simp only [EV, Ab.isNon, args, List.map, List.length_cons, List.length_nil, List.length_singleton, List.replicate, Nat.reduceSub, Nat.reduceAdd, Nat.zero_add, List.cons_append, List.nil_append, List.getElem?_cons_zero, List.getElem?_cons_succ, List.set_cons_zero, List.set_cons_succ, Option.some.injEq, decide_eq_true_eq, Bool.not_eq_true', decide_eq_false_iff_not, ite_true, ite_false, if_true, if_false, reduceIte, Bool.false_eq_true, Bool.not_true, Bool.not_false, Bool.true_eq_false, decide_true, decide_false, Nat.reduceLeDiff, Nat.reduceLT]
  have hR := at_new (A := A) (o := .lst [])
  have G := Gr.app (A := A) (B := [AO.lst []])
  generalize A ++ [AO.lst []] = A1 at *
  refine sat_seq ?_
  simp only [EV, Ab.isNon, args, List.map, List.length_cons, List.length_nil, List.length_singleton, List.replicate, Nat.reduceSub, Nat.reduceAdd, Nat.zero_add, List.cons_append, List.nil_append, List.getElem?_cons_zero, List.getElem?_cons_succ, List.set_cons_zero, List.set_cons_succ, Option.some.injEq, decide_eq_true_eq, Bool.not_eq_true', decide_eq_false_iff_not, ite_true, ite_false, if_true, if_false, reduceIte, Bool.false_eq_true, Bool.not_true, Bool.not_false, Bool.true_eq_false, decide_true, decide_false, Nat.reduceLeDiff, Nat.reduceLT, ev_enumA, ev_enumT]
  refine loop_inv (fun ds σ C => Gr A C ∧ ∃ (rest : Bd) (k : Nat) (acc : List D), ds = enumL k rest.dats ∧ rest.dep ≤ b.dep ∧ rest.ok l ∧ k + rest.cnt = b.cnt ∧ acc.length + rest.sz = b.sz ∧ C[A.length]? = some (.lst acc) ∧ acc ++ nds rest (p + acc.length) af out e = nds b p af out e ∧
      ∃ x6 x7 x8 x9, σ = [some (.tup b.dats), some (.int (p : Nat)), some (.int af), some out, some (.int e), some (.ref A.length), x6, x7, x8, x9])
    (fun d ds σ C ⟨G, rest, k, acc, e1, de, ok, ck, sk, hC, en, x6, x7, x8, x9, hσ⟩ => ⟨trivial, ?_⟩) (fun σ C ⟨G, rest, k, acc, e1, de, ok, ck, sk, hC, en, x6, x7, x8, x9, hσ⟩ => ⟨trivial, ?_⟩) _ _ _
    ⟨G, b, 0, [], rfl, Nat.le_refl _, hok, Nat.zero_add _, by simp, hR, rfl, none, none, none, none, rfl⟩
  · subst hσ
    rcases Bd.cut rest l ok with z | ⟨s, r, d0, d1, d2, ns, so, ro, sd, rd, rc, rz⟩
    · subst z; cases e1
    rw [d1] at e1
    have e1 : d :: ds = .tup [.int (k : Nat), d0] :: enumL (k + 1) r.dats := e1
    rw [List.cons.injEq] at e1
    obtain ⟨e1, e2⟩ := e1
    subst e1
    have bl := b.dats_len
    have ls : (nds s (p + acc.length) (fp r (p + acc.length + s.sz) af) out e).length = s.sz := nds_len ..
    -- the end of a turn
    have fin : ∀ (C : AH) (x8 x9 : Option D), Gr A C → C[A.length]? = some (.lst acc) → Sat (m_statement_nodes n [d0, .int (p + acc.length : Nat), .int (fp r (p + acc.length + s.sz) af), out, .int e] C) fun a C' => Sat (extendD (.ref A.length) [a] C') fun _ B => Gr A B ∧ ∃ (rest : Bd) (k2 : Nat) (acc : List D), ds = enumL k2 rest.dats ∧ rest.dep ≤ b.dep ∧ rest.ok l ∧ k2 + rest.cnt = b.cnt ∧ acc.length + rest.sz = b.sz ∧ B[A.length]? = some (.lst acc) ∧ acc ++ nds rest (p + acc.length) af out e = nds b p af out e ∧
        ∃ y6 y7 y8 y9, [some (.tup b.dats), some (.int (p : Nat)), some (.int af), some out, some (.int e), some (.ref A.length), some (.int (k : Nat)), some d0, x8, x9] = [some (.tup b.dats), some (.int (p : Nat)), some (.int af), some out, some (.int e), some (.ref A.length), y6, y7, y8, y9] := by
      intro C x8 x9 G hC
      refine Sat.imp (hS s d0 l (p + acc.length) (fp r (p + acc.length + s.sz) af) out e C d2 (by omega) (by omega) (by omega) so) fun a C1 ⟨g, r1, ea, h1⟩ => ?_
      subst ea
      rw [ev_ext (g.keep _ _ hC) h1 (by omega)]
      refine ⟨(G.trans g).set (Nat.le_refl _), r, k + 1, acc ++ nds s (p + acc.length) (fp r (p + acc.length + s.sz) af) out e, e2, by omega, ro, by omega, by rw [List.length_append]; omega, at_set (at_lt (g.keep _ _ hC)), ?_, _, _, _, _, rfl⟩
      rw [List.length_append, ls, ← Nat.add_assoc, List.append_assoc, ← ns, en]
    simp only [EV, Ab.isNon, args, List.map, List.length_cons, List.length_nil, List.length_singleton, List.replicate, Nat.reduceSub, Nat.reduceAdd, Nat.zero_add, List.cons_append, List.nil_append, List.getElem?_cons_zero, List.getElem?_cons_succ, List.set_cons_zero, List.set_cons_succ, Option.some.injEq, decide_eq_true_eq, Bool.not_eq_true', decide_eq_false_iff_not, ite_true, ite_false, if_true, if_false, reduceIte, Bool.false_eq_true, Bool.not_true, Bool.not_false, Bool.true_eq_false, decide_true, decide_false, Nat.reduceLeDiff, Nat.reduceLT]
    refine sat_seq ?_
    simp only [EV, Ab.isNon, args, List.map, List.length_cons, List.length_nil, List.length_singleton, List.replicate, Nat.reduceSub, Nat.reduceAdd, Nat.zero_add, List.cons_append, List.nil_append, List.getElem?_cons_zero, List.getElem?_cons_succ, List.set_cons_zero, List.set_cons_succ, Option.some.injEq, decide_eq_true_eq, Bool.not_eq_true', decide_eq_false_iff_not, ite_true, ite_false, if_true, if_false, reduceIte, Bool.false_eq_true, Bool.not_true, Bool.not_false, Bool.true_eq_false, decide_true, decide_false, Nat.reduceLeDiff, Nat.reduceLT, ev_len_r (rdL_l hC)]
    rw [show ((p : Nat) : Int) + ((acc.length : Nat) : Int) = ((p + acc.length : Nat) : Int) by omega]
    refine sat_seq ?_
    simp only [EV, Ab.isNon, args, List.map, List.length_cons, List.length_nil, List.length_singleton, List.replicate, Nat.reduceSub, Nat.reduceAdd, Nat.zero_add, List.cons_append, List.nil_append, List.getElem?_cons_zero, List.getElem?_cons_succ, List.set_cons_zero, List.set_cons_succ, Option.some.injEq, decide_eq_true_eq, Bool.not_eq_true', decide_eq_false_iff_not, ite_true, ite_false, if_true, if_false, reduceIte, Bool.false_eq_true, Bool.not_true, Bool.not_false, Bool.true_eq_false, decide_true, decide_false, Nat.reduceLeDiff, Nat.reduceLT]
    refine sat_seq ?_
    by_cases h : r.cnt = 0
    · have hf : ¬ (((k : Nat) : Int) + 1 < ((b.dats.length : Nat) : Int)) := by omega
      have ef : fp r (p + acc.length + s.sz) af = af := if_pos h
      have q := fin C (some (.int (p + acc.length : Nat))) (some (.int af)) G hC
      rw [ef] at q
      simp only [EV, Ab.isNon, args, List.map, List.length_cons, List.length_nil, List.length_singleton, List.replicate, Nat.reduceSub, Nat.reduceAdd, Nat.zero_add, List.cons_append, List.nil_append, List.getElem?_cons_zero, List.getElem?_cons_succ, List.set_cons_zero, List.set_cons_succ, Option.some.injEq, decide_eq_true_eq, Bool.not_eq_true', decide_eq_false_iff_not, ite_true, ite_false, if_true, if_false, reduceIte, Bool.false_eq_true, Bool.not_true, Bool.not_false, Bool.true_eq_false, decide_true, decide_false, Nat.reduceLeDiff, Nat.reduceLT, hf, ty_l hC, turn_]
      exact q
    · have hf : ((k : Nat) : Int) + 1 < ((b.dats.length : Nat) : Int) := by omega
      have ef : fp r (p + acc.length + s.sz) af = ((p + acc.length + s.sz : Nat) : Int) := if_neg h
      simp only [EV, Ab.isNon, args, List.map, List.length_cons, List.length_nil, List.length_singleton, List.replicate, Nat.reduceSub, Nat.reduceAdd, Nat.zero_add, List.cons_append, List.nil_append, List.getElem?_cons_zero, List.getElem?_cons_succ, List.set_cons_zero, List.set_cons_succ, Option.some.injEq, decide_eq_true_eq, Bool.not_eq_true', decide_eq_false_iff_not, ite_true, ite_false, if_true, if_false, reduceIte, Bool.false_eq_true, Bool.not_true, Bool.not_false, Bool.true_eq_false, decide_true, decide_false, Nat.reduceLeDiff, Nat.reduceLT, hf]
      have q := listed_spec 20 s l C (by omega) (by omega) so
      rw [d2] at q
      refine Sat.imp q fun d1 C1 ⟨g, r1, ea, h1⟩ => ?_
      subst ea
      have hC := g.keep _ _ hC
      simp only [EV, Ab.isNon, args, List.map, List.length_cons, List.length_nil, List.length_singleton, List.replicate, Nat.reduceSub, Nat.reduceAdd, Nat.zero_add, List.cons_append, List.nil_append, List.getElem?_cons_zero, List.getElem?_cons_succ, List.set_cons_zero, List.set_cons_succ, Option.some.injEq, decide_eq_true_eq, Bool.not_eq_true', decide_eq_false_iff_not, ite_true, ite_false, if_true, if_false, reduceIte, Bool.false_eq_true, Bool.not_true, Bool.not_false, Bool.true_eq_false, decide_true, decide_false, Nat.reduceLeDiff, Nat.reduceLT, ev_len_r (rdL_l h1)]
      rw [s.flat_len, show ((p + acc.length : Nat) : Int) + ((s.sz : Nat) : Int) = ((p + acc.length + s.sz : Nat) : Int) by omega, ← ef]
      simp only [ty_l hC, EV, Ab.isNon, args, List.map, List.length_cons, List.length_nil, List.length_singleton, List.replicate, Nat.reduceSub, Nat.reduceAdd, Nat.zero_add, List.cons_append, List.nil_append, List.getElem?_cons_zero, List.getElem?_cons_succ, List.set_cons_zero, List.set_cons_succ, Option.some.injEq, decide_eq_true_eq, Bool.not_eq_true', decide_eq_false_iff_not, ite_true, ite_false, if_true, if_false, reduceIte, Bool.false_eq_true, Bool.not_true, Bool.not_false, Bool.true_eq_false, decide_true, decide_false, Nat.reduceLeDiff, Nat.reduceLT, turn_]
      exact fin C1 _ _ (G.trans g) hC
  · subst hσ
    rcases Bd.cut rest l ok with z | ⟨s, r, d0, d1, d2, ns, so, ro, sd, rd, rc, rz⟩
    · subst z
      simp only [EV, Ab.isNon, args, List.map, List.length_cons, List.length_nil, List.length_singleton, List.replicate, Nat.reduceSub, Nat.reduceAdd, Nat.zero_add, List.cons_append, List.nil_append, List.getElem?_cons_zero, List.getElem?_cons_succ, List.set_cons_zero, List.set_cons_succ, Option.some.injEq, decide_eq_true_eq, Bool.not_eq_true', decide_eq_false_iff_not, ite_true, ite_false, if_true, if_false, reduceIte, Bool.false_eq_true, Bool.not_true, Bool.not_false, Bool.true_eq_false, decide_true, decide_false, Nat.reduceLeDiff, Nat.reduceLT]
      rw [show nds .nil (p + acc.length) af out e = [] from rfl, List.append_nil] at en
      exact ⟨G, _, rfl, by rw [← en]; exact hC⟩
    · rw [d1] at e1; cases e1
theorem both : ∀ n : Nat, BOK (m_body_nodes n) n ∧ SOK (m_statement_nodes n) n
  | 0 => ⟨fun b l p af out e A h => absurd h (by omega), fun s d l p af out e A _ h => absurd h (by omega)⟩
  | n + 1 => ⟨body_step (both n).2, stmt_step (both n).1⟩
theorem nodes_spec {A : AH} {b : Bd} {n0 n1 n2 n3 : D} (ok : b.ok false) (dp : b.dep ≤ 9) (sz : b.sz ≤ 1000) :
    Sat (m_nodes [.tup [n0, n1, n2, n3, .tup b.dats]] A) fun d A' => Gr A A' ∧ d = .tup (nds b 0 (b.sz : Nat) .non (b.sz : Nat)) := by
  have i4 : ∀ A, ixD (.tup [n0, n1, n2, n3, .tup b.dats]) (.int 4) A = .ok (.tup b.dats) A := fun A => ev_ix_t (by rw [atI_pos (by decide)]; rfl)
  refine sat_body rfl (sat_seq ?_)
  simp only [EV, Ab.isNon, args, List.map, List.length_cons, List.length_nil, List.length_singleton, List.replicate, Nat.reduceSub, Nat.reduceAdd, Nat.zero_add, List.cons_append, List.nil_append, List.getElem?_cons_zero, List.getElem?_cons_succ, List.set_cons_zero, List.set_cons_succ, Option.some.injEq, decide_eq_true_eq, Bool.not_eq_true', decide_eq_false_iff_not, ite_true, ite_false, if_true, if_false, reduceIte, Bool.false_eq_true, Bool.not_true, Bool.not_false, Bool.true_eq_false, decide_true, decide_false, Nat.reduceLeDiff, Nat.reduceLT, i4]
  refine Sat.imp (listed_spec 20 b false A (by omega) sz ok) fun d A1 ⟨g1, r, ed, hr⟩ => ?_
  subst ed
  simp only [EV, Ab.isNon, args, List.map, List.length_cons, List.length_nil, List.length_singleton, List.replicate, Nat.reduceSub, Nat.reduceAdd, Nat.zero_add, List.cons_append, List.nil_append, List.getElem?_cons_zero, List.getElem?_cons_succ, List.set_cons_zero, List.set_cons_succ, Option.some.injEq, decide_eq_true_eq, Bool.not_eq_true', decide_eq_false_iff_not, ite_true, ite_false, if_true, if_false, reduceIte, Bool.false_eq_true, Bool.not_true, Bool.not_false, Bool.true_eq_false, decide_true, decide_false, Nat.reduceLeDiff, Nat.reduceLT, ev_len_r (rdL_l hr), b.flat_len, i4]
  refine Sat.imp ((both 20).1 b false 0 (b.sz : Nat) .non (b.sz : Nat) A1 (by omega) sz (by omega) ok) fun d A2 ⟨g2, r2, ed, h2⟩ => ?_
  subst ed
  rw [ev_tup_ofL (rdL_l h2)]
  exact ⟨g1.trans g2, rfl⟩
theorem enum_fl {xs : List D} : enumL 0 xs = (List.range xs.length).map fun k => .tup [.int (k : Nat), xs.getD k .non] := by
  apply List.ext_getElem?
  intro i
  rw [enumL_get, List.getElem?_map, Nat.zero_add]
  by_cases h : i < xs.length
  · rw [List.getElem?_eq_getElem h, List.getElem?_range h]
    show some (D.tup [.int (i : Nat), xs[i]]) = some (D.tup [.int (i : Nat), xs.getD i .non])
    rw [List.getD_eq_getElem?_getD, List.getElem?_eq_getElem h]; rfl
  · rw [List.getElem?_eq_none (by omega), List.getElem?_eq_none (by simp; omega)]; rfl
end Law

namespace Law
open PySem PySem.Spec PyProof.Rows L2 Ab
open scoped Classical
/-! ### names with kinds -/
def big : Ki → Bool
  | .num lo hi => decide (7 < hi - lo)
  | _ => false
abbrev Pr := Str × Ki
theorem large_spec {A : AH} {k : Ki} : m_is_large [k.d] A = .ok (.bl (big k)) A := by
  have key : Sat (m_is_large [k.d] A) fun d A' => d = .bl (big k) ∧ A' = A := by
    refine sat_body rfl ?_
    unfold p_is_large
    cases k with
    | flag => simp (decide := true) only [Ki.d, EV, Ab.isNon, args, List.map, List.length_cons, List.length_nil, List.length_singleton, List.replicate, Nat.reduceSub, Nat.reduceAdd, Nat.zero_add, List.cons_append, List.nil_append, List.getElem?_cons_zero, List.getElem?_cons_succ, List.set_cons_zero, List.set_cons_succ, Option.some.injEq, decide_eq_true_eq, Bool.not_eq_true', decide_eq_false_iff_not, ite_true, ite_false, if_true, if_false, reduceIte, Bool.false_eq_true, Bool.not_true, Bool.not_false, Bool.true_eq_false, decide_true, decide_false, Nat.reduceLeDiff, Nat.reduceLT, ixa, big]; try exact ⟨trivial, trivial⟩
    | num lo hi => simp (decide := true) only [Ki.d, EV, Ab.isNon, args, List.map, List.length_cons, List.length_nil, List.length_singleton, List.replicate, Nat.reduceSub, Nat.reduceAdd, Nat.zero_add, List.cons_append, List.nil_append, List.getElem?_cons_zero, List.getElem?_cons_succ, List.set_cons_zero, List.set_cons_succ, Option.some.injEq, decide_eq_true_eq, Bool.not_eq_true', decide_eq_false_iff_not, ite_true, ite_false, if_true, if_false, reduceIte, Bool.false_eq_true, Bool.not_true, Bool.not_false, Bool.true_eq_false, decide_true, decide_false, Nat.reduceLeDiff, Nat.reduceLT, ixa, ixb, ixc, big]; try exact ⟨trivial, trivial⟩
    | rf x => simp (decide := true) only [Ki.d, EV, Ab.isNon, args, List.map, List.length_cons, List.length_nil, List.length_singleton, List.replicate, Nat.reduceSub, Nat.reduceAdd, Nat.zero_add, List.cons_append, List.nil_append, List.getElem?_cons_zero, List.getElem?_cons_succ, List.set_cons_zero, List.set_cons_succ, Option.some.injEq, decide_eq_true_eq, Bool.not_eq_true', decide_eq_false_iff_not, ite_true, ite_false, if_true, if_false, reduceIte, Bool.false_eq_true, Bool.not_true, Bool.not_false, Bool.true_eq_false, decide_true, decide_false, Nat.reduceLeDiff, Nat.reduceLT, ixa, big]; try exact ⟨trivial, trivial⟩
  obtain ⟨d, A', e, rfl, rfl⟩ := key.eq
  exact e
theorem discrete_spec {A : AH} {k : Ki} : m_is_discrete [k.d] A = .ok (.bl (!big k)) A := by
  have key : Sat (m_is_discrete [k.d] A) fun d A' => d = .bl (!big k) ∧ A' = A := by
    refine sat_body rfl ?_
    unfold p_is_discrete
    simp only [EV, Ab.isNon, args, List.map, List.length_cons, List.length_nil, List.length_singleton, List.replicate, Nat.reduceSub, Nat.reduceAdd, Nat.zero_add, List.cons_append, List.nil_append, List.getElem?_cons_zero, List.getElem?_cons_succ, List.set_cons_zero, List.set_cons_succ, Option.some.injEq, decide_eq_true_eq, Bool.not_eq_true', decide_eq_false_iff_not, ite_true, ite_false, if_true, if_false, reduceIte, Bool.false_eq_true, Bool.not_true, Bool.not_false, Bool.true_eq_false, decide_true, decide_false, Nat.reduceLeDiff, Nat.reduceLT, large_spec]
    exact ⟨trivial, trivial⟩
  obtain ⟨d, A', e, rfl, rfl⟩ := key.eq
  exact e
/-- a row of names -/
def nmsD (ps : List Pr) : List D := ps.map fun p => .str p.1
def kdK (ps : List Pr) : List (Key × D) := ps.map fun p => (.inr p.1, p.2.d)
/-- the kinds of some names stand in a dict -/
def Kn (kvs : List (Key × D)) (ps : List Pr) : Prop := ∀ p ∈ ps, getK kvs (.inr p.1) = some p.2.d
theorem Kn.sub {kvs : List (Key × D)} {ps qs : List Pr} (h : Kn kvs ps) (s : ∀ p ∈ qs, p ∈ ps) : Kn kvs qs := fun p hp => h p (s p hp)
theorem Kn.cons {kvs : List (Key × D)} {ps : List Pr} {p : Pr} (h : Kn kvs ps) (e : getK kvs (.inr p.1) = some p.2.d) : Kn kvs (p :: ps) := fun q hq => by
  rcases List.mem_cons.mp hq with rfl | hq
  · exact e
  · exact h q hq
theorem discN_spec {A : AH} {K : Nat} {N : D} {ok : AH → Prop} {kvs : List (Key × D)} {ps : List Pr} (hN : iSeq N A = .ok ⟨nmsD ps, ok⟩ A) (hok : ∀ l, ok (A ++ [AO.lst l])) (hK : A[K]? = some (.dic kvs)) (kn : Kn kvs ps) (few : ps.length ≤ 100000) :
    Sat (m_discrete_names [N, .ref K] A) fun d A' => Gr A A' ∧ d = .tup (nmsD (ps.filter fun p => !big p.2)) := by
  refine sat_body rfl ?_
  unfold p_discrete_names
  simp only [EV, Ab.isNon, args, List.map, List.length_cons, List.length_nil, List.length_singleton, List.replicate, Nat.reduceSub, Nat.reduceAdd, Nat.zero_add, List.cons_append, List.nil_append, List.getElem?_cons_zero, List.getElem?_cons_succ, List.set_cons_zero, List.set_cons_succ, Option.some.injEq, decide_eq_true_eq, Bool.not_eq_true', decide_eq_false_iff_not, ite_true, ite_false, if_true, if_false, reduceIte, Bool.false_eq_true, Bool.not_true, Bool.not_false, Bool.true_eq_false, decide_true, decide_false, Nat.reduceLeDiff, Nat.reduceLT, hN, wipeA]
  refine comp_filter (fun p : Pr => .str p.1) (fun p => .str p.1) (fun p => !big p.2) hok (fun p hp l => ?_) (by omega) ?_
  · simp only [EV, Ab.isNon, args, List.map, List.length_cons, List.length_nil, List.length_singleton, List.replicate, Nat.reduceSub, Nat.reduceAdd, Nat.zero_add, List.cons_append, List.nil_append, List.getElem?_cons_zero, List.getElem?_cons_succ, List.set_cons_zero, List.set_cons_succ, Option.some.injEq, decide_eq_true_eq, Bool.not_eq_true', decide_eq_false_iff_not, ite_true, ite_false, if_true, if_false, reduceIte, Bool.false_eq_true, Bool.not_true, Bool.not_false, Bool.true_eq_false, decide_true, decide_false, Nat.reduceLeDiff, Nat.reduceLT, ixk (Gr.app.keep _ _ hK) (kn p hp), discrete_spec]
    exact ⟨trivial, trivial, trivial, trivial⟩
  · rw [ev_tup_ofL (rdL_l at_new)]
    exact ⟨.app, rfl⟩
theorem largeN_spec {A : AH} {K : Nat} {N : D} {ok : AH → Prop} {kvs : List (Key × D)} {ps : List Pr} (hN : iSeq N A = .ok ⟨nmsD ps, ok⟩ A) (hok : ∀ l, ok (A ++ [AO.lst l])) (hK : A[K]? = some (.dic kvs)) (kn : Kn kvs ps) (few : ps.length ≤ 100000) :
    Sat (m_large_names [N, .ref K] A) fun d A' => Gr A A' ∧ d = .tup (nmsD (ps.filter fun p => big p.2)) := by
  refine sat_body rfl ?_
  unfold p_large_names
  simp only [EV, Ab.isNon, args, List.map, List.length_cons, List.length_nil, List.length_singleton, List.replicate, Nat.reduceSub, Nat.reduceAdd, Nat.zero_add, List.cons_append, List.nil_append, List.getElem?_cons_zero, List.getElem?_cons_succ, List.set_cons_zero, List.set_cons_succ, Option.some.injEq, decide_eq_true_eq, Bool.not_eq_true', decide_eq_false_iff_not, ite_true, ite_false, if_true, if_false, reduceIte, Bool.false_eq_true, Bool.not_true, Bool.not_false, Bool.true_eq_false, decide_true, decide_false, Nat.reduceLeDiff, Nat.reduceLT, hN, wipeA]
  refine comp_filter (fun p : Pr => .str p.1) (fun p => .str p.1) (fun p => big p.2) hok (fun p hp l => ?_) (by omega) ?_
  · simp only [EV, Ab.isNon, args, List.map, List.length_cons, List.length_nil, List.length_singleton, List.replicate, Nat.reduceSub, Nat.reduceAdd, Nat.zero_add, List.cons_append, List.nil_append, List.getElem?_cons_zero, List.getElem?_cons_succ, List.set_cons_zero, List.set_cons_succ, Option.some.injEq, decide_eq_true_eq, Bool.not_eq_true', decide_eq_false_iff_not, ite_true, ite_false, if_true, if_false, reduceIte, Bool.false_eq_true, Bool.not_true, Bool.not_false, Bool.true_eq_false, decide_true, decide_false, Nat.reduceLeDiff, Nat.reduceLT, ixk (Gr.app.keep _ _ hK) (kn p hp), large_spec]
    exact ⟨trivial, trivial, trivial, trivial⟩
  · rw [ev_tup_ofL (rdL_l at_new)]
    exact ⟨.app, rfl⟩
theorem kindsN_spec {A : AH} {K : Nat} {kvs : List (Key × D)} {ps : List Pr} (hK : A[K]? = some (.dic kvs)) (kn : Kn kvs ps) (few : ps.length ≤ 100000) :
    Sat (m_kinds_of [.tup (nmsD ps), .ref K] A) fun d A' => Gr A A' ∧ d = .tup (ps.map fun p => p.2.d) := by
  refine sat_body rfl ?_
  unfold p_kinds_of
  simp only [EV, Ab.isNon, args, List.map, List.length_cons, List.length_nil, List.length_singleton, List.replicate, Nat.reduceSub, Nat.reduceAdd, Nat.zero_add, List.cons_append, List.nil_append, List.getElem?_cons_zero, List.getElem?_cons_succ, List.set_cons_zero, List.set_cons_succ, Option.some.injEq, decide_eq_true_eq, Bool.not_eq_true', decide_eq_false_iff_not, ite_true, ite_false, if_true, if_false, reduceIte, Bool.false_eq_true, Bool.not_true, Bool.not_false, Bool.true_eq_false, decide_true, decide_false, Nat.reduceLeDiff, Nat.reduceLT, ev_iseq_t, wipeA]
  refine comp_pure (fun p : Pr => .str p.1) (fun p => p.2.d) (fun _ => trivial) (fun p hp l => ?_) (by omega) ?_
  · simp only [EV, Ab.isNon, args, List.map, List.length_cons, List.length_nil, List.length_singleton, List.replicate, Nat.reduceSub, Nat.reduceAdd, Nat.zero_add, List.cons_append, List.nil_append, List.getElem?_cons_zero, List.getElem?_cons_succ, List.set_cons_zero, List.set_cons_succ, Option.some.injEq, decide_eq_true_eq, Bool.not_eq_true', decide_eq_false_iff_not, ite_true, ite_false, if_true, if_false, reduceIte, Bool.false_eq_true, Bool.not_true, Bool.not_false, Bool.true_eq_false, decide_true, decide_false, Nat.reduceLeDiff, Nat.reduceLT, ixk (Gr.app.keep _ _ hK) (kn p hp)]
    exact ⟨trivial, trivial⟩
  · rw [ev_tup_ofL (rdL_l at_new)]
    exact ⟨.app, rfl⟩
def rgD1 (k : Ki) : D := match k with
  | .num lo hi => .tup [.int lo, .int hi]
  | .flag => .tup []
  | .rf x => .tup [.str x]
theorem rg_cut {k : Ki} {A : AH} : slD k.d (some 1) none A = .ok (rgD1 k) A := by cases k <;> rfl
theorem rangesN_spec {A : AH} {K : Nat} {kvs : List (Key × D)} {ps : List Pr} (hK : A[K]? = some (.dic kvs)) (kn : Kn kvs ps) (few : ps.length ≤ 100000) :
    Sat (m_ranges_of [.tup (nmsD ps), .ref K] A) fun d A' => Gr A A' ∧ d = .tup (ps.map fun p => rgD1 p.2) := by
  refine sat_body rfl ?_
  unfold p_ranges_of
  simp only [EV, Ab.isNon, args, List.map, List.length_cons, List.length_nil, List.length_singleton, List.replicate, Nat.reduceSub, Nat.reduceAdd, Nat.zero_add, List.cons_append, List.nil_append, List.getElem?_cons_zero, List.getElem?_cons_succ, List.set_cons_zero, List.set_cons_succ, Option.some.injEq, decide_eq_true_eq, Bool.not_eq_true', decide_eq_false_iff_not, ite_true, ite_false, if_true, if_false, reduceIte, Bool.false_eq_true, Bool.not_true, Bool.not_false, Bool.true_eq_false, decide_true, decide_false, Nat.reduceLeDiff, Nat.reduceLT, ev_iseq_t, wipeA]
  refine comp_pure (fun p : Pr => .str p.1) (fun p => rgD1 p.2) (fun _ => trivial) (fun p hp l => ?_) (by omega) ?_
  · simp only [EV, Ab.isNon, args, List.map, List.length_cons, List.length_nil, List.length_singleton, List.replicate, Nat.reduceSub, Nat.reduceAdd, Nat.zero_add, List.cons_append, List.nil_append, List.getElem?_cons_zero, List.getElem?_cons_succ, List.set_cons_zero, List.set_cons_succ, Option.some.injEq, decide_eq_true_eq, Bool.not_eq_true', decide_eq_false_iff_not, ite_true, ite_false, if_true, if_false, reduceIte, Bool.false_eq_true, Bool.not_true, Bool.not_false, Bool.true_eq_false, decide_true, decide_false, Nat.reduceLeDiff, Nat.reduceLT, ixk (Gr.app.keep _ _ hK) (kn p hp), rg_cut]
    exact ⟨trivial, trivial⟩
  · rw [ev_tup_ofL (rdL_l at_new)]
    exact ⟨.app, rfl⟩
/-! ### functions, programs -/
structure Fn where
  nm : Str
  ps : List Pr
  res : Option Ki
  own : List Pr
  b : Bd
def resD : Option Ki → D
  | none => .non
  | some k => k.d
def Fn.d (f : Fn) : D := .tup [.str f.nm, fldsD f.ps, resD f.res, fldsD f.own, .tup f.b.dats]
structure Pg where
  recs : List Rk
  arrs : List (Str × Int × Int × Int)
  gl : List Pr
  fns : List Fn
def rkD (k : Rk) : D := .tup [.str k.nm, fldsD k.fs]
def arD (a : Str × Int × Int × Int) : D := .tup [.str a.1, .int a.2.1, .int a.2.2.1, .int a.2.2.2]
def Pg.d (p : Pg) : D := .tup [.tup (p.recs.map rkD), .tup (p.arrs.map arD), fldsD p.gl, .tup (p.fns.map Fn.d)]
def Fn.vis (p : Pg) (f : Fn) : List Pr := p.gl ++ f.ps ++ f.own
theorem Pg.i0 {p : Pg} {A : AH} : ixD p.d (.int 0) A = .ok (.tup (p.recs.map rkD)) A := ixa
theorem Pg.i1 {p : Pg} {A : AH} : ixD p.d (.int 1) A = .ok (.tup (p.arrs.map arD)) A := ixb
theorem Pg.i2 {p : Pg} {A : AH} : ixD p.d (.int 2) A = .ok (fldsD p.gl) A := ixc
theorem Pg.i3 {p : Pg} {A : AH} : ixD p.d (.int 3) A = .ok (.tup (p.fns.map Fn.d)) A := ev_ix_t (by rw [atI_pos (by decide)]; rfl)
theorem Fn.i0 {f : Fn} {A : AH} : ixD f.d (.int 0) A = .ok (.str f.nm) A := ixa
theorem Fn.i1 {f : Fn} {A : AH} : ixD f.d (.int 1) A = .ok (fldsD f.ps) A := ixb
theorem Fn.i2 {f : Fn} {A : AH} : ixD f.d (.int 2) A = .ok (resD f.res) A := ixc
theorem Fn.i3 {f : Fn} {A : AH} : ixD f.d (.int 3) A = .ok (fldsD f.own) A := ev_ix_t (by rw [atI_pos (by decide)]; rfl)
theorem Fn.i4 {f : Fn} {A : AH} : ixD f.d (.int 4) A = .ok (.tup f.b.dats) A := ev_ix_t (by rw [atI_pos (by decide)]; rfl)
theorem find_loop {A : AH} {fns : List Fn} {f : Fn} (nd : (fns.map Fn.nm).Nodup) (hf : f ∈ fns) : Sat (m_find_named [.tup (fns.map Fn.d), .str f.nm] A) fun d A' => d = f.d ∧ A' = A := by
  refine sat_body rfl (sat_seq ?_)
  simp only [EV, Ab.isNon, args, List.map, List.length_cons, List.length_nil, List.length_singleton, List.replicate, Nat.reduceSub, Nat.reduceAdd, Nat.zero_add, List.cons_append, List.nil_append, List.getElem?_cons_zero, List.getElem?_cons_succ, List.set_cons_zero, List.set_cons_succ, Option.some.injEq, decide_eq_true_eq, Bool.not_eq_true', decide_eq_false_iff_not, ite_true, ite_false, if_true, if_false, reduceIte, Bool.false_eq_true, Bool.not_true, Bool.not_false, Bool.true_eq_false, decide_true, decide_false, Nat.reduceLeDiff, Nat.reduceLT, ev_iseq_t]
  refine loop_inv (fun es σ B => B = A ∧ (∃ post : List Fn, es = post.map Fn.d ∧ f ∈ post ∧ (post.map Fn.nm).Nodup) ∧ ∃ x2, σ = [some (.tup (fns.map Fn.d)), some (.str f.nm), x2])
    (fun e es σ B ⟨eB, ⟨post, e1, hm, nd⟩, x2, hσ⟩ => ⟨trivial, ?_⟩) (fun σ B ⟨eB, ⟨post, e1, hm, nd⟩, x2, hσ⟩ => ⟨trivial, ?_⟩) _ _ _ ⟨rfl, ⟨fns, rfl, hf, nd⟩, none, rfl⟩
  · subst hσ; subst eB
    cases post with
    | nil => cases e1
    | cons g post =>
      rw [List.map_cons, List.cons.injEq] at e1
      obtain ⟨e2, e3⟩ := e1
      subst e2; subst e3
      rw [List.map_cons, List.nodup_cons] at nd
      simp only [EV, Ab.isNon, args, List.map, List.length_cons, List.length_nil, List.length_singleton, List.replicate, Nat.reduceSub, Nat.reduceAdd, Nat.zero_add, List.cons_append, List.nil_append, List.getElem?_cons_zero, List.getElem?_cons_succ, List.set_cons_zero, List.set_cons_succ, Option.some.injEq, decide_eq_true_eq, Bool.not_eq_true', decide_eq_false_iff_not, ite_true, ite_false, if_true, if_false, reduceIte, Bool.false_eq_true, Bool.not_true, Bool.not_false, Bool.true_eq_false, decide_true, decide_false, Nat.reduceLeDiff, Nat.reduceLT, Fn.i0]
      split
      · rename_i q
        simp only [turn_, EV, Ab.isNon, args, List.map, List.length_cons, List.length_nil, List.length_singleton, List.replicate, Nat.reduceSub, Nat.reduceAdd, Nat.zero_add, List.cons_append, List.nil_append, List.getElem?_cons_zero, List.getElem?_cons_succ, List.set_cons_zero, List.set_cons_succ, Option.some.injEq, decide_eq_true_eq, Bool.not_eq_true', decide_eq_false_iff_not, ite_true, ite_false, if_true, if_false, reduceIte, Bool.false_eq_true, Bool.not_true, Bool.not_false, Bool.true_eq_false, decide_true, decide_false, Nat.reduceLeDiff, Nat.reduceLT, thn_]
        rcases List.mem_cons.mp hm with rfl | hm
        · exact ⟨rfl, trivial⟩
        · exact absurd (by rw [q]; exact List.mem_map.mpr ⟨f, hm, rfl⟩) nd.1
      · rename_i q
        simp only [turn_]
        rcases List.mem_cons.mp hm with rfl | hm
        · exact absurd rfl q
        · exact ⟨trivial, ⟨post, rfl, hm, nd.2⟩, _, rfl⟩
  · cases post with
    | nil => cases hm
    | cons g post => cases e1
theorem find_spec {A : AH} {p : Pg} {f : Fn} (nd : (p.fns.map Fn.nm).Nodup) (hf : f ∈ p.fns) : m_find_function [p.d, .str f.nm] A = .ok f.d A := by
  have key : Sat (m_find_function [p.d, .str f.nm] A) fun d A' => d = f.d ∧ A' = A := by
    refine sat_body rfl ?_
    unfold p_find_function
    simp only [EV, Ab.isNon, args, List.map, List.length_cons, List.length_nil, List.length_singleton, List.replicate, Nat.reduceSub, Nat.reduceAdd, Nat.zero_add, List.cons_append, List.nil_append, List.getElem?_cons_zero, List.getElem?_cons_succ, List.set_cons_zero, List.set_cons_succ, Option.some.injEq, decide_eq_true_eq, Bool.not_eq_true', decide_eq_false_iff_not, ite_true, ite_false, if_true, if_false, reduceIte, Bool.false_eq_true, Bool.not_true, Bool.not_false, Bool.true_eq_false, decide_true, decide_false, Nat.reduceLeDiff, Nat.reduceLT, Pg.i3]
    exact find_loop nd hf
  obtain ⟨d, A', e, rfl, rfl⟩ := key.eq
  exact e
theorem kd_set {ps : List Pr} {p : Pr} (nn : p.1 ∉ ps.map (·.1)) : setK (kdK ps) (.inr p.1) p.2.d = kdK (ps ++ [p]) := by
  unfold setK kdK
  rw [if_neg, List.map_append]
  · rfl
  · intro h
    rw [List.any_eq_true] at h
    obtain ⟨x, hx, e⟩ := h
    obtain ⟨q, hq, rfl⟩ := List.mem_map.mp hx
    have e : (Sum.inr q.1 : Key) = .inr p.1 := of_decide_eq_true e
    cases q with
    | mk a b =>
      have : a = p.1 := by injection e
      exact nn (by rw [← this]; exact List.mem_map.mpr ⟨_, hq, rfl⟩)
theorem kd_get {ps : List Pr} (nd : (ps.map (·.1)).Nodup) : Kn (kdK ps) ps := by
  induction ps with
  | nil => intro p hp; cases hp
  | cons q ps ih =>
    rw [List.map_cons, List.nodup_cons] at nd
    intro p hp
    unfold kdK getK
    rw [List.map_cons]
    rcases List.mem_cons.mp hp with rfl | hp
    · rw [List.find?_cons_of_pos (by simp)]; rfl
    · have ne : ¬ q.1 = p.1 := fun e => nd.1 (by rw [e]; exact List.mem_map.mpr ⟨p, hp, rfl⟩)
      rw [List.find?_cons_of_neg (by simp [ne])]
      exact ih nd.2 p hp
theorem vis_spec {A : AH} {p : Pg} {f : Fn} (nd : ((f.vis p).map (·.1)).Nodup) (few : (f.vis p).length ≤ 1000) : Sat (m_visible_kinds [p.d, f.d] A) fun d A' => Gr A A' ∧ d = .ref A.length ∧ A'[A.length]? = some (.dic (kdK (f.vis p))) := by
  refine sat_body rfl (sat_seq ?_)
  have e0 : fDict0 [some p.d, some f.d, none, none, none] A = .ok (.ref A.length) (A ++ [.dic []]) := rfl
  show Sat (fSet _ 2 [some p.d, some f.d, none, none, none] A) _
  simp only [ev_set, e0, bind_ok, sat_ok, thn_, List.set_cons_succ, List.set_cons_zero]
  have hK := at_new (A := A) (o := .dic [])
  have G0 := Gr.app (A := A) (B := [AO.dic []])
  generalize A ++ [AO.dic []] = A1 at *
  obtain ⟨K, eK⟩ : ∃ K, A.length = K := ⟨_, rfl⟩
  rw [eK] at hK ⊢
  have lv : p.gl.length + f.ps.length + f.own.length ≤ 1000 := by unfold Fn.vis at few; simp at few; omega
  have ad1 : ∀ B, addD (fldsD p.gl) (fldsD f.ps) B = .ok (fldsD (p.gl ++ f.ps)) B := fun B => (ev_add_tt (sl_le (by simp; omega))).trans (by unfold fldsD; rw [List.map_append])
  have ad2 : ∀ B, addD (fldsD (p.gl ++ f.ps)) (fldsD f.own) B = .ok (fldsD (f.vis p)) B := fun B => (ev_add_tt (sl_le (by simp; omega))).trans (by unfold fldsD Fn.vis; rw [List.map_append (l₁ := p.gl ++ f.ps)])
  refine sat_seq ?_
  have iq : ∀ B, iSeq (fldsD (f.vis p)) B = .ok ⟨(f.vis p).map fldD, yes⟩ B := fun B => rfl
  simp only [EV, Ab.isNon, args, List.map, List.length_cons, List.length_nil, List.length_singleton, List.replicate, Nat.reduceSub, Nat.reduceAdd, Nat.zero_add, List.cons_append, List.nil_append, List.getElem?_cons_zero, List.getElem?_cons_succ, List.set_cons_zero, List.set_cons_succ, Option.some.injEq, decide_eq_true_eq, Bool.not_eq_true', decide_eq_false_iff_not, ite_true, ite_false, if_true, if_false, reduceIte, Bool.false_eq_true, Bool.not_true, Bool.not_false, Bool.true_eq_false, decide_true, decide_false, Nat.reduceLeDiff, Nat.reduceLT, Pg.i2, Fn.i1, Fn.i3, ad1, ad2, iq]
  generalize f.vis p = vs at *
  refine loop_inv (fun es σ B => Gr A B ∧ (∃ pre post : List Pr, vs = pre ++ post ∧ es = post.map fldD ∧ B[K]? = some (.dic (kdK pre))) ∧ ∃ x3 x4, σ = [some p.d, some f.d, some (.ref K), x3, x4])
    (fun e es σ B ⟨gB, ⟨pre, post, ev, e1, hK⟩, x3, x4, hσ⟩ => ⟨trivial, ?_⟩) (fun σ B ⟨gB, ⟨pre, post, ev, e1, hK⟩, x3, x4, hσ⟩ => ⟨trivial, ?_⟩) _ _ _ ⟨G0, ⟨[], vs, rfl, rfl, hK⟩, none, none, rfl⟩
  · subst hσ
    cases post with
    | nil => cases e1
    | cons g post =>
      rw [List.map_cons, List.cons.injEq] at e1
      obtain ⟨e2, e3⟩ := e1
      subst e2; subst e3
      have nn : g.1 ∉ pre.map (·.1) := fun m => by
        rw [ev, List.map_append, List.map_cons] at nd
        exact (List.nodup_append.mp nd).2.2 _ m _ (List.mem_cons_self ..) rfl
      have lp : pre.length ≤ 1000 := by rw [ev, List.length_append] at few; omega
      unfold fldD
      simp only [EV, Ab.isNon, args, List.map, List.length_cons, List.length_nil, List.length_singleton, List.replicate, Nat.reduceSub, Nat.reduceAdd, Nat.zero_add, List.cons_append, List.nil_append, List.getElem?_cons_zero, List.getElem?_cons_succ, List.set_cons_zero, List.set_cons_succ, Option.some.injEq, decide_eq_true_eq, Bool.not_eq_true', decide_eq_false_iff_not, ite_true, ite_false, if_true, if_false, reduceIte, Bool.false_eq_true, Bool.not_true, Bool.not_false, Bool.true_eq_false, decide_true, decide_false, Nat.reduceLeDiff, Nat.reduceLT]
      rw [st_k hK (by unfold kdK; rw [List.length_map]; omega), kd_set nn]
      simp only [EV, Ab.isNon, args, List.map, List.length_cons, List.length_nil, List.length_singleton, List.replicate, Nat.reduceSub, Nat.reduceAdd, Nat.zero_add, List.cons_append, List.nil_append, List.getElem?_cons_zero, List.getElem?_cons_succ, List.set_cons_zero, List.set_cons_succ, Option.some.injEq, decide_eq_true_eq, Bool.not_eq_true', decide_eq_false_iff_not, ite_true, ite_false, if_true, if_false, reduceIte, Bool.false_eq_true, Bool.not_true, Bool.not_false, Bool.true_eq_false, decide_true, decide_false, Nat.reduceLeDiff, Nat.reduceLT, turn_]
      exact ⟨gB.set (by omega), ⟨pre ++ [g], post, by rw [ev]; simp, rfl, at_set (at_lt hK)⟩, _, _, rfl⟩
  · subst hσ
    have pz : post = [] := by cases post with | nil => rfl | cons a p => cases e1
    subst pz
    rw [List.append_nil] at ev
    subst ev
    simp only [EV, Ab.isNon, args, List.map, List.length_cons, List.length_nil, List.length_singleton, List.replicate, Nat.reduceSub, Nat.reduceAdd, Nat.zero_add, List.cons_append, List.nil_append, List.getElem?_cons_zero, List.getElem?_cons_succ, List.set_cons_zero, List.set_cons_succ, Option.some.injEq, decide_eq_true_eq, Bool.not_eq_true', decide_eq_false_iff_not, ite_true, ite_false, if_true, if_false, reduceIte, Bool.false_eq_true, Bool.not_true, Bool.not_false, Bool.true_eq_false, decide_true, decide_false, Nat.reduceLeDiff, Nat.reduceLT]
    exact ⟨gB, trivial, hK⟩
end Law

namespace Law
open PySem PySem.Spec PyProof.Rows L2 Ab
open scoped Classical
/-! ### a layout is made -/
/-- all cells but N stay -/
structure Dq (N : Nat) (A A' : AH) : Prop where
  le : A.length ≤ A'.length
  keep : ∀ (i : Nat) o, i ≠ N → A[i]? = some o → A'[i]? = some o
theorem Dq.refl {N : Nat} {A : AH} : Dq N A A := ⟨Nat.le_refl _, fun _ _ _ h => h⟩
theorem Dq.trans {N : Nat} {A B C : AH} (h : Dq N A B) (h' : Dq N B C) : Dq N A C := ⟨Nat.le_trans h.le h'.le, fun i o n e => h'.keep i o n (h.keep i o n e)⟩
theorem Dq.set {N : Nat} {A B : AH} (h : Dq N A B) {o : AO} : Dq N A (B.set N o) := ⟨by simpa using h.le, fun i o' n e => by rw [List.getElem?_set_ne (Ne.symm n)]; exact h.keep i o' n e⟩
theorem Dq.setN {N r : Nat} {A B : AH} (h : Dq N A B) {o : AO} (hr : A.length ≤ r) : Dq N A (B.set r o) := ⟨by simpa using h.le, fun i o' n e => by
  have := at_lt e
  rw [List.getElem?_set_ne (by omega)]; exact h.keep i o' n e⟩
theorem Dq.gr {N : Nat} {A B C : AH} (h : Dq N A B) (g : Gr B C) : Dq N A C := ⟨Nat.le_trans h.le g.le, fun i o n e => g.keep i o (h.keep i o n e)⟩
theorem lookup_putD (n m : Str) (v : D) : ∀ fs : List (Str × D), (putD n v fs).lookup m = if m = n then some v else fs.lookup m
  | [] => by
    by_cases h : m = n
    · subst h; simp [putD]
    · have : (m == n) = false := by simpa using h
      simp [putD, List.lookup, h, this]
  | (x, y) :: fs => by
    unfold putD
    by_cases hx : x = n
    · rw [if_pos hx]
      subst hx
      by_cases h : m = x
      · subst h; simp
      · have : (m == x) = false := by simpa using h
        simp [List.lookup, h, this]
    · rw [if_neg hx, List.lookup_cons, List.lookup_cons, lookup_putD n m v fs]
      by_cases h : m = x
      · subst h; simp [hx]
      · have : (m == x) = false := by simpa using h
        simp [this]
theorem putD_len (n : Str) (v : D) : ∀ fs : List (Str × D), (putD n v fs).length ≤ fs.length + 1
  | [] => Nat.le_refl _
  | (x, y) :: fs => by
    unfold putD
    split
    · simp
    · have := putD_len n v fs
      simp; omega
/-- at i stands an instance of C whose attributes are (at least) these -/
def Own (A : AH) (i : Nat) (C : Addr) (kvs : List (Str × D)) : Prop := ∃ fs, A[i]? = some (.ins C fs) ∧ fs.length ≤ kvs.length ∧ ∀ p ∈ kvs, fs.lookup p.1 = some p.2
theorem Own.mono {A B : AH} {i : Nat} {C : Addr} {kvs : List (Str × D)} (h : Own A i C kvs) (k : ∀ o, A[i]? = some o → B[i]? = some o) : Own B i C kvs := by
  obtain ⟨fs, h1, h2, h3⟩ := h
  exact ⟨fs, k _ h1, h2, h3⟩
theorem Own.gr {A B : AH} {i : Nat} {C : Addr} {kvs : List (Str × D)} (h : Own A i C kvs) (g : Gr A B) : Own B i C kvs := h.mono fun o e => g.keep _ _ e
theorem Own.lt {A : AH} {i : Nat} {C : Addr} {kvs : List (Str × D)} (h : Own A i C kvs) : i < A.length := by
  obtain ⟨fs, h1, _⟩ := h
  exact at_lt h1
theorem Own.read {A : AH} {i : Nat} {C : Addr} {kvs : List (Str × D)} {n : Str} {v : D} (h : Own A i C kvs) (m : (n, v) ∈ kvs) : fldV [C] n (.ref i) A = .ok v A := by
  obtain ⟨fs, h1, h2, h3⟩ := h
  exact fld_at h1 (by simp) (h3 _ m)
theorem own_put {A : AH} {i : Nat} {C : Addr} {kvs : List (Str × D)} {n : Str} {v : D} {P : Unit → AH → Prop} (h : Own A i C kvs) (few : kvs.length < 1000) (nn : (kvs.map (·.1)).contains n = false)
    (k : ∀ B, Dq i A B → A.length = B.length → Own B i C ((n, v) :: kvs) → P () B) : Sat (setD [C] n v (.ref i) A) P := by
  obtain ⟨fs, h1, h2, h3⟩ := h
  rw [set_at h1 (by simp) (by omega)]
  refine k _ Dq.refl.set (by simp) ⟨_, at_set (at_lt h1), ?_, fun p hp => ?_⟩
  · have := putD_len n v fs
    rw [List.length_cons]; omega
  · rw [lookup_putD]
    rcases List.mem_cons.mp hp with rfl | hp
    · rw [if_pos rfl]
    · rw [if_neg, h3 p hp]
      intro e
      have : (kvs.map (·.1)).contains n = true := by
        rw [List.contains_iff_mem]
        exact List.mem_map.mpr ⟨p, hp, e⟩
      rw [nn] at this; cases this
/-- a dict's display of rows with names -/
theorem dc_rows {α : Type} (c : α → D) (kn : α → Str) (F : α → D) {g : FG} {fk f : FE} {s : ASt} {A : AH} {P : D → AH → Prop} {qs : List α} (nd : (qs.map kn).Nodup) (few : qs.length ≤ 1000)
    (hf : ∀ q ∈ qs, ∀ C, Gr A C → Sat (g (c q) s C) fun s1 A1 => Sat (fk s1 A1) fun y A3 => y = .str (kn q) ∧ Sat (f s1 A3) fun z A4 => z = F q ∧ Gr C A4)
    (hP : ∀ B, Gr A B → B[A.length]? = some (.dic (qs.map fun q => (.inr (kn q), F q))) → P (.ref A.length) B) : Sat (loopK yes g fYes fk f A.length s (qs.map c) (A ++ [.dic []])) P := by
  have go : ∀ (post pre : List α) (C : AH), qs = pre ++ post → Gr A C → C[A.length]? = some (.dic (pre.map fun q => (.inr (kn q), F q))) → Sat (loopK yes g fYes fk f A.length s (post.map c) C) P := by
    intro post
    induction post with
    | nil =>
      intro pre C e gC hC
      rw [List.append_nil] at e
      subst e
      rw [List.map_nil, loopK, if_pos (show yes C from trivial)]
      exact hP C gC hC
    | cons q post ih =>
      intro pre C e gC hC
      rw [List.map_cons, loopK, if_pos (show yes C from trivial), sat_bind]
      refine Sat.imp (hf q (by rw [e]; simp) C gC) fun s1 A1 h1 => ?_
      rw [sat_bind, ev_yes, sat_ok, if_pos rfl, sat_bind]
      refine Sat.imp h1 fun y A3 ⟨ey, h2⟩ => ?_
      subst ey
      rw [sat_bind]
      refine Sat.imp h2 fun z A4 ⟨ez, g4⟩ => ?_
      subst ez
      have h4 := g4.keep _ _ hC
      have ek : Ab.keyOf (.str (kn q)) = some (.inr (kn q)) := rfl
      simp only [ek, h4]
      have lp : pre.length < 1000 := by rw [e, List.length_append, List.length_cons] at few; omega
      rw [if_pos (by rw [List.length_map]; exact Nat.lt_of_lt_of_le lp (by decide))]
      have nn : kn q ∉ pre.map kn := fun m => by
        rw [e, List.map_append, List.map_cons] at nd
        exact (List.nodup_append.mp nd).2.2 _ m _ (List.mem_cons_self ..) rfl
      have es : setK (pre.map fun q => ((.inr (kn q) : Key), F q)) (.inr (kn q)) (F q) = (pre ++ [q]).map fun q => (.inr (kn q), F q) := by
        unfold setK
        rw [if_neg, List.map_append]
        · rfl
        · intro h
          rw [List.any_eq_true] at h
          obtain ⟨x, hx, ex⟩ := h
          obtain ⟨r, hr, rfl⟩ := List.mem_map.mp hx
          have ex : (Sum.inr (kn r) : Key) = .inr (kn q) := of_decide_eq_true ex
          have : kn r = kn q := by injection ex
          exact nn (by rw [← this]; exact List.mem_map.mpr ⟨r, hr, rfl⟩)
      rw [es]
      exact ih (pre ++ [q]) _ (by rw [e]; simp) ((gC.trans g4).set (Nat.le_refl _)) (at_set (at_lt h4))
  exact go qs [] _ rfl .app at_new
theorem heads_any {A : AH} {b : Bd} {n0 n1 n2 n3 : D} (ok : b.ok false) (dp : b.dep ≤ 19) (sz : b.sz ≤ 1000) (hw : ∀ d ∈ b.flat, ∃ w ds, d = .tup (.str w :: ds)) :
    Sat (m_heads [.tup [n0, n1, n2, n3, .tup b.dats]] A) fun d A' => Gr A A' ∧ ∃ hs, d = .tup hs := by
  have i4 : ∀ A, ixD (.tup [n0, n1, n2, n3, .tup b.dats]) (.int 4) A = .ok (.tup b.dats) A := fun A => ev_ix_t (by rw [atI_pos (by decide)]; rfl)
  refine sat_body rfl ?_
  unfold p_heads
  simp only [EV, Ab.isNon, args, List.map, List.length_cons, List.length_nil, List.length_singleton, List.replicate, Nat.reduceSub, Nat.reduceAdd, Nat.zero_add, List.cons_append, List.nil_append, List.getElem?_cons_zero, List.getElem?_cons_succ, List.set_cons_zero, List.set_cons_succ, Option.some.injEq, decide_eq_true_eq, Bool.not_eq_true', decide_eq_false_iff_not, ite_true, ite_false, if_true, if_false, reduceIte, Bool.false_eq_true, Bool.not_true, Bool.not_false, Bool.true_eq_false, decide_true, decide_false, Nat.reduceLeDiff, Nat.reduceLT, i4, ev_enumA]
  refine Sat.imp (listed_spec 20 b false A (by omega) sz ok) fun d A1 ⟨g1, r, ed, hr⟩ => ?_
  subst ed
  have en : enumS (.ref r) A1 = .ok ⟨(List.range b.flat.length).map fun k => .tup [.int (k : Nat), b.flat.getD k .non], fun A' => rdL A' (.ref r) = some b.flat⟩ A1 := by
    show (match rdL A1 (.ref r) with
      | some ds => Res.ok (Src.mk (enumL 0 ds) fun A' => rdL A' (.ref r) = some ds) A1
      | none => .bad) = _
    rw [rdL_l hr, ← enum_fl]
  have fl := b.flat_len
  simp only [en, EV, Ab.isNon, args, List.map, List.length_cons, List.length_nil, List.length_singleton, List.replicate, Nat.reduceSub, Nat.reduceAdd, Nat.zero_add, List.cons_append, List.nil_append, List.getElem?_cons_zero, List.getElem?_cons_succ, List.set_cons_zero, List.set_cons_succ, Option.some.injEq, decide_eq_true_eq, Bool.not_eq_true', decide_eq_false_iff_not, ite_true, ite_false, if_true, if_false, reduceIte, Bool.false_eq_true, Bool.not_true, Bool.not_false, Bool.true_eq_false, decide_true, decide_false, Nat.reduceLeDiff, Nat.reduceLT, wipeA]
  refine comp_filter (fun k : Nat => .tup [.int (k : Nat), b.flat.getD k .non]) (fun k : Nat => .int (k : Nat)) (fun k => match b.flat.getD k .non with | .tup (.str w :: _) => decide (w = "while") | _ => false) (fun l => rdL_l (Gr.app.keep _ _ hr)) (fun k hk l => ?_) (by simp; omega) ?_
  · have hk := List.mem_range.mp hk
    obtain ⟨w, ds, h1⟩ := hw (b.flat[k]) (List.getElem_mem hk)
    have e : b.flat.getD k .non = .tup (.str w :: ds) := by rw [List.getD_eq_getElem?_getD, List.getElem?_eq_getElem hk, ← h1]; rfl
    rw [e]
    simp only [EV, Ab.isNon, args, List.map, List.length_cons, List.length_nil, List.length_singleton, List.replicate, Nat.reduceSub, Nat.reduceAdd, Nat.zero_add, List.cons_append, List.nil_append, List.getElem?_cons_zero, List.getElem?_cons_succ, List.set_cons_zero, List.set_cons_succ, Option.some.injEq, decide_eq_true_eq, Bool.not_eq_true', decide_eq_false_iff_not, ite_true, ite_false, if_true, if_false, reduceIte, Bool.false_eq_true, Bool.not_true, Bool.not_false, Bool.true_eq_false, decide_true, decide_false, Nat.reduceLeDiff, Nat.reduceLT, ixa]
    trivial
  · rw [ev_tup_ofL (rdL_l at_new)]
    exact ⟨g1.trans .app, _, rfl⟩
end Law

namespace Law
open PySem PySem.Spec PyProof.Rows L2 Ab
open scoped Classical
/-! ### Layout.__init__ -/
def Fn.ends (p : Pg) (f : Fn) : List Pr := p.gl ++ (match f.res with
  | none => []
  | some k => [("result", k)])
def Fn.entry (p : Pg) (f : Fn) : List Pr := p.gl ++ f.ps
def smN (ps : List Pr) : List Pr := ps.filter fun p => !big p.2
def lgN (ps : List Pr) : List Pr := ps.filter fun p => big p.2
def fdT (ks : List Rk) : List (Key × D) := ks.map fun k => (.inr k.nm, .tup (k.fs.map fun f => f.2.d))
def fdN (ks : List Rk) : List (Key × D) := ks.map fun k => (.inr k.nm, .tup (k.fs.map fun f => .str f.1))
def arT (as : List (Str × Int × Int × Int)) : List (Key × D) := as.map fun a => (.inr a.1, .tup [.int a.2.1, .int a.2.2.1, .int a.2.2.2])
structure Fok (p : Pg) (f : Fn) : Prop where
  fin : f ∈ p.fns
  fnd : (p.fns.map Fn.nm).Nodup
  vnd : ((f.vis p).map (·.1)).Nodup
  nr : ∀ q ∈ f.vis p, q.1 ≠ "result"
  rnd : (p.recs.map Rk.nm).Nodup
  and_ : (p.arrs.map (·.1)).Nodup
  few : (f.vis p).length ≤ 900
  rfew : p.recs.length ≤ 900
  rf2 : ∀ k ∈ p.recs, k.fs.length ≤ 900
  afew : p.arrs.length ≤ 900
  bok : f.b.ok false
  bd : f.b.dep ≤ 9
  bs : f.b.sz ≤ 900
  bw : ∀ d ∈ f.b.flat, ∃ w ds, d = .tup (.str w :: ds)
/-- what a layout holds -/
def layB (p : Pg) (f : Fn) (hs : List D) (K FD FN AR : Nat) : List (Str × D) := [
  ("arrays", .ref AR), ("field_names", .ref FN), ("fields", .ref FD), ("kinds", .ref K), ("exit", .int (f.b.sz : Nat)),
  ("heads", .tup hs), ("nodes", .tup (nds f.b 0 (f.b.sz : Nat) .non (f.b.sz : Nat))), ("result", resD f.res), ("function", f.d), ("name", .str f.nm), ("program", p.d)]
def layA (p : Pg) (f : Fn) (hs : List D) (K FD FN AR : Nat) : List (Str × D) := ("exit_kinds", .tup ((smN (f.ends p)).map fun q => q.2.d)) :: ("entry_kinds", .tup ((smN (f.entry p)).map fun q => q.2.d)) :: ("discrete_kinds", .tup ((smN (f.vis p)).map fun q => q.2.d)) ::
  ("exit_ranges", .tup ((lgN (f.ends p) ++ lgN (f.entry p)).map fun q => rgD1 q.2)) :: ("ranges", .tup ((lgN (f.vis p) ++ lgN (f.entry p)).map fun q => rgD1 q.2)) ::
  ("exit_large", .tup (nmsD (lgN (f.ends p)))) :: ("exit_discrete", .tup (nmsD (smN (f.ends p)))) :: ("entry_large", .tup (nmsD (lgN (f.entry p)))) :: ("entry_discrete", .tup (nmsD (smN (f.entry p)))) ::
  ("large", .tup (nmsD (lgN (f.vis p)))) :: ("discrete", .tup (nmsD (smN (f.vis p)))) :: layB p f hs K FD FN AR
structure Lay (A : AH) (C : Addr) (i : Nat) (p : Pg) (f : Fn) : Prop where
  ex : ∃ hs K FD FN AR, Own A i C (layA p f hs K FD FN AR) ∧ A[K]? = some (.dic (kdK (f.vis p))) ∧ A[FD]? = some (.dic (fdT p.recs)) ∧ A[FN]? = some (.dic (fdN p.recs)) ∧ A[AR]? = some (.dic (arT p.arrs)) ∧ K ≠ i ∧ FD ≠ i ∧ FN ≠ i ∧ AR ≠ i
theorem Lay.gr {A B : AH} {C : Addr} {i : Nat} {p : Pg} {f : Fn} (h : Lay A C i p f) (g : Gr A B) : Lay B C i p f := by
  obtain ⟨hs, K, FD, FN, AR, h1, h2, h3, h4, h5, h6⟩ := h.ex
  exact ⟨hs, K, FD, FN, AR, h1.gr g, g.keep _ _ h2, g.keep _ _ h3, g.keep _ _ h4, g.keep _ _ h5, h6⟩
theorem ev_dcx {src : FI} {g : FG} {t : FT} {fk f : FE} {vs : List Nat} {s : ASt} {A : AH} : fDc src g t fk f vs s A = (src s A).bind fun S A1 => loopK S.ok g t fk f A1.length (wipeA s vs) S.items (A1 ++ [.dic []]) := rfl
theorem nodes_f {A : AH} {p : Pg} {f : Fn} (ok : Fok p f) : Sat (m_nodes [f.d] A) fun d A' => Gr A A' ∧ d = .tup (nds f.b 0 (f.b.sz : Nat) .non (f.b.sz : Nat)) := nodes_spec ok.bok ok.bd (by have := ok.bs; omega)
theorem heads_f {A : AH} {p : Pg} {f : Fn} (ok : Fok p f) : Sat (m_heads [f.d] A) fun d A' => Gr A A' ∧ ∃ hs, d = .tup hs := heads_any ok.bok (by have := ok.bd; omega) (by have := ok.bs; omega) ok.bw
/-- the names of some pairs, as a list's display -/
theorem nms_comp {A : AH} {s : ASt} {ps : List Pr} {n : Nat} {P : D → AH → Prop} (few : ps.length ≤ 1000) (hn : n < s.length) (hP : P (.ref A.length) (A ++ [AO.lst (nmsD ps)])) :
    Sat (loopC yes (gN n) fYes (fOp ixD (fV n) (fC (.int 0))) A.length s (ps.map fldD) (A ++ [.lst []])) P := by
  refine comp_pure fldD (fun p : Pr => .str p.1) (fun _ => trivial) (fun q hq l => ?_) (by omega) hP
  have i0 : ∀ A, ixD (fldD q) (.int 0) A = .ok (.str q.1) A := fun A => ixa
  have hv : ∀ A, fV n (s.set n (some (fldD q))) A = .ok (fldD q) A := fun A => ev_v (by rw [List.getElem?_set_self hn])
  show Sat (Res.ok (s.set n (some (fldD q))) _) _
  rw [sat_ok, ev_op, sat_bind, hv, sat_ok, ev_c, bind_ok, i0]
  exact ⟨rfl, rfl⟩
theorem layout_spec {cl : Str → Addr} {A : AH} {i : Nat} {p : Pg} {f : Fn} (ok : Fok p f) (h : A[i]? = some (.ins (cl "Layout") [])) :
    Sat (m_Layout_init cl [.ref i, p.d, .str f.nm] A) fun d A' => d = .non ∧ Dq i A A' ∧ Lay A' (cl "Layout") i p f := by
  have lv : p.gl.length + f.ps.length + f.own.length ≤ 900 := by have := ok.few; unfold Fn.vis at this; simp at this; omega
  have O : Own A i (cl "Layout") [] := ⟨[], h, Nat.le_refl _, fun p hp => by cases hp⟩
  have W : Dq i A A := .refl
  refine sat_body rfl (sat_seq ?_)
  simp only [EV, Ab.isNon, args, List.map, List.length_cons, List.length_nil, List.length_singleton, List.replicate, Nat.reduceSub, Nat.reduceAdd, Nat.zero_add, List.cons_append, List.nil_append, List.getElem?_cons_zero, List.getElem?_cons_succ, List.set_cons_zero, List.set_cons_succ, Option.some.injEq, decide_eq_true_eq, Bool.not_eq_true', decide_eq_false_iff_not, ite_true, ite_false, if_true, if_false, reduceIte, Bool.false_eq_true, Bool.not_true, Bool.not_false, Bool.true_eq_false, decide_true, decide_false, Nat.reduceLeDiff, Nat.reduceLT, ev_setF]
  refine own_put O (by simp) (by rfl) fun B w _ O => ?_
  have W := W.trans w
  refine sat_seq ?_
  simp only [EV, Ab.isNon, args, List.map, List.length_cons, List.length_nil, List.length_singleton, List.replicate, Nat.reduceSub, Nat.reduceAdd, Nat.zero_add, List.cons_append, List.nil_append, List.getElem?_cons_zero, List.getElem?_cons_succ, List.set_cons_zero, List.set_cons_succ, Option.some.injEq, decide_eq_true_eq, Bool.not_eq_true', decide_eq_false_iff_not, ite_true, ite_false, if_true, if_false, reduceIte, Bool.false_eq_true, Bool.not_true, Bool.not_false, Bool.true_eq_false, decide_true, decide_false, Nat.reduceLeDiff, Nat.reduceLT, ev_setF]
  refine own_put O (by simp) (by rfl) fun B w _ O => ?_
  have W := W.trans w
  refine sat_seq ?_
  simp only [EV, Ab.isNon, args, List.map, List.length_cons, List.length_nil, List.length_singleton, List.replicate, Nat.reduceSub, Nat.reduceAdd, Nat.zero_add, List.cons_append, List.nil_append, List.getElem?_cons_zero, List.getElem?_cons_succ, List.set_cons_zero, List.set_cons_succ, Option.some.injEq, decide_eq_true_eq, Bool.not_eq_true', decide_eq_false_iff_not, ite_true, ite_false, if_true, if_false, reduceIte, Bool.false_eq_true, Bool.not_true, Bool.not_false, Bool.true_eq_false, decide_true, decide_false, Nat.reduceLeDiff, Nat.reduceLT, ev_setF, find_spec ok.fnd ok.fin]
  refine own_put O (by simp) (by rfl) fun B w _ O => ?_
  have W := W.trans w
  refine sat_seq ?_
  simp only [EV, Ab.isNon, args, List.map, List.length_cons, List.length_nil, List.length_singleton, List.replicate, Nat.reduceSub, Nat.reduceAdd, Nat.zero_add, List.cons_append, List.nil_append, List.getElem?_cons_zero, List.getElem?_cons_succ, List.set_cons_zero, List.set_cons_succ, Option.some.injEq, decide_eq_true_eq, Bool.not_eq_true', decide_eq_false_iff_not, ite_true, ite_false, if_true, if_false, reduceIte, Bool.false_eq_true, Bool.not_true, Bool.not_false, Bool.true_eq_false, decide_true, decide_false, Nat.reduceLeDiff, Nat.reduceLT, ev_setF, ev_fld, O.read (n := "function") (v := f.d) (by simp), Fn.i2]
  refine own_put O (by simp) (by rfl) fun B w _ O => ?_
  have W := W.trans w
  -- nodes
  refine sat_seq ?_
  simp only [EV, Ab.isNon, args, List.map, List.length_cons, List.length_nil, List.length_singleton, List.replicate, Nat.reduceSub, Nat.reduceAdd, Nat.zero_add, List.cons_append, List.nil_append, List.getElem?_cons_zero, List.getElem?_cons_succ, List.set_cons_zero, List.set_cons_succ, Option.some.injEq, decide_eq_true_eq, Bool.not_eq_true', decide_eq_false_iff_not, ite_true, ite_false, if_true, if_false, reduceIte, Bool.false_eq_true, Bool.not_true, Bool.not_false, Bool.true_eq_false, decide_true, decide_false, Nat.reduceLeDiff, Nat.reduceLT, ev_setF, ev_fld, O.read (n := "function") (v := f.d) (by simp)]
  refine Sat.imp (nodes_f ok) fun d B' ⟨g, e⟩ => ?_
  subst e
  have W := W.gr g
  have O := O.gr g
  refine own_put O (by simp) (by rfl) fun B w _ O => ?_
  have W := W.trans w
  -- heads
  refine sat_seq ?_
  simp only [EV, Ab.isNon, args, List.map, List.length_cons, List.length_nil, List.length_singleton, List.replicate, Nat.reduceSub, Nat.reduceAdd, Nat.zero_add, List.cons_append, List.nil_append, List.getElem?_cons_zero, List.getElem?_cons_succ, List.set_cons_zero, List.set_cons_succ, Option.some.injEq, decide_eq_true_eq, Bool.not_eq_true', decide_eq_false_iff_not, ite_true, ite_false, if_true, if_false, reduceIte, Bool.false_eq_true, Bool.not_true, Bool.not_false, Bool.true_eq_false, decide_true, decide_false, Nat.reduceLeDiff, Nat.reduceLT, ev_setF, ev_fld, O.read (n := "function") (v := f.d) (by simp)]
  refine Sat.imp (heads_f ok) fun d B' ⟨g, hs, e⟩ => ?_
  subst e
  have W := W.gr g
  have O := O.gr g
  refine own_put O (by simp) (by rfl) fun B w _ O => ?_
  have W := W.trans w
  -- exit
  refine sat_seq ?_
  simp only [EV, Ab.isNon, args, List.map, List.length_cons, List.length_nil, List.length_singleton, List.replicate, Nat.reduceSub, Nat.reduceAdd, Nat.zero_add, List.cons_append, List.nil_append, List.getElem?_cons_zero, List.getElem?_cons_succ, List.set_cons_zero, List.set_cons_succ, Option.some.injEq, decide_eq_true_eq, Bool.not_eq_true', decide_eq_false_iff_not, ite_true, ite_false, if_true, if_false, reduceIte, Bool.false_eq_true, Bool.not_true, Bool.not_false, Bool.true_eq_false, decide_true, decide_false, Nat.reduceLeDiff, Nat.reduceLT, ev_setF, ev_fld, O.read (n := "nodes") (v := .tup (nds f.b 0 (f.b.sz : Nat) .non (f.b.sz : Nat))) (by simp), nds_len]
  refine own_put O (by simp) (by rfl) fun B w _ O => ?_
  have W := W.trans w
  -- kinds
  refine sat_seq ?_
  simp only [EV, Ab.isNon, args, List.map, List.length_cons, List.length_nil, List.length_singleton, List.replicate, Nat.reduceSub, Nat.reduceAdd, Nat.zero_add, List.cons_append, List.nil_append, List.getElem?_cons_zero, List.getElem?_cons_succ, List.set_cons_zero, List.set_cons_succ, Option.some.injEq, decide_eq_true_eq, Bool.not_eq_true', decide_eq_false_iff_not, ite_true, ite_false, if_true, if_false, reduceIte, Bool.false_eq_true, Bool.not_true, Bool.not_false, Bool.true_eq_false, decide_true, decide_false, Nat.reduceLeDiff, Nat.reduceLT, ev_setF, ev_fld, O.read (n := "function") (v := f.d) (by simp)]
  refine Sat.imp (vis_spec (p := p) (f := f) ok.vnd (by have := ok.few; omega)) fun d B' ⟨g, e, hK⟩ => ?_
  subst e
  have W := W.gr g
  have Ki_ := O.lt
  obtain ⟨K, eK⟩ : ∃ K, B.length = K := ⟨_, rfl⟩
  rw [eK] at hK Ki_ ⊢
  have nK : K ≠ i := by omega
  have O := O.gr g
  refine own_put O (by simp) (by rfl) fun B w _ O => ?_
  have W := W.trans w
  have hK := w.keep _ _ nK hK
  -- fields
  have ir : ∀ B, iSeq (.tup (p.recs.map rkD)) B = .ok ⟨p.recs.map rkD, yes⟩ B := fun B => rfl
  refine sat_seq ?_
  simp only [EV, Ab.isNon, args, List.map, List.length_cons, List.length_nil, List.length_singleton, List.replicate, Nat.reduceSub, Nat.reduceAdd, Nat.zero_add, List.cons_append, List.nil_append, List.getElem?_cons_zero, List.getElem?_cons_succ, List.set_cons_zero, List.set_cons_succ, Option.some.injEq, decide_eq_true_eq, Bool.not_eq_true', decide_eq_false_iff_not, ite_true, ite_false, if_true, if_false, reduceIte, Bool.false_eq_true, Bool.not_true, Bool.not_false, Bool.true_eq_false, decide_true, decide_false, Nat.reduceLeDiff, Nat.reduceLT, ev_setF, ev_dcx, Pg.i0, ir, wipeA]
  refine dc_rows rkD Rk.nm (fun k => .tup (k.fs.map fun f => f.2.d)) ok.rnd (by have := ok.rfew; omega) (fun k hk C gC => ?_) fun B' g hFD => ?_
  · have k0 : ∀ A, ixD (rkD k) (.int 0) A = .ok (.str k.nm) A := fun A => ixa
    have k1 : ∀ A, ixD (rkD k) (.int 1) A = .ok (fldsD k.fs) A := fun A => ixb
    have iq : ∀ B, iSeq (fldsD k.fs) B = .ok ⟨k.fs.map fldD, yes⟩ B := fun B => rfl
    simp only [EV, Ab.isNon, args, List.map, List.length_cons, List.length_nil, List.length_singleton, List.replicate, Nat.reduceSub, Nat.reduceAdd, Nat.zero_add, List.cons_append, List.nil_append, List.getElem?_cons_zero, List.getElem?_cons_succ, List.set_cons_zero, List.set_cons_succ, Option.some.injEq, decide_eq_true_eq, Bool.not_eq_true', decide_eq_false_iff_not, ite_true, ite_false, if_true, if_false, reduceIte, Bool.false_eq_true, Bool.not_true, Bool.not_false, Bool.true_eq_false, decide_true, decide_false, Nat.reduceLeDiff, Nat.reduceLT, k0, k1, iq, wipeA]
    refine ⟨trivial, comp_pure fldD (fun q : Pr => q.2.d) (fun _ => trivial) (fun q hq l => ?_) (by have := ok.rf2 k hk; omega) ?_⟩
    · have q1 : ∀ A, ixD (fldD q) (.int 1) A = .ok q.2.d A := fun A => ixb
      simp only [EV, Ab.isNon, args, List.map, List.length_cons, List.length_nil, List.length_singleton, List.replicate, Nat.reduceSub, Nat.reduceAdd, Nat.zero_add, List.cons_append, List.nil_append, List.getElem?_cons_zero, List.getElem?_cons_succ, List.set_cons_zero, List.set_cons_succ, Option.some.injEq, decide_eq_true_eq, Bool.not_eq_true', decide_eq_false_iff_not, ite_true, ite_false, if_true, if_false, reduceIte, Bool.false_eq_true, Bool.not_true, Bool.not_false, Bool.true_eq_false, decide_true, decide_false, Nat.reduceLeDiff, Nat.reduceLT, q1]
      exact ⟨trivial, trivial⟩
    · rw [ev_tup_ofL (rdL_l at_new)]
      exact ⟨rfl, .app⟩
  have W := W.gr g
  have hK := g.keep _ _ hK
  have lB := O.lt
  obtain ⟨FD, eFD⟩ : ∃ FD, B.length = FD := ⟨_, rfl⟩
  rw [eFD] at hFD lB ⊢
  have nFD : FD ≠ i := by omega
  have O := O.gr g
  refine own_put O (by simp) (by rfl) fun B w _ O => ?_
  have W := W.trans w
  have hK := w.keep _ _ nK hK
  have hFD := w.keep _ _ nFD hFD
  -- names of fields
  refine sat_seq ?_
  simp only [EV, Ab.isNon, args, List.map, List.length_cons, List.length_nil, List.length_singleton, List.replicate, Nat.reduceSub, Nat.reduceAdd, Nat.zero_add, List.cons_append, List.nil_append, List.getElem?_cons_zero, List.getElem?_cons_succ, List.set_cons_zero, List.set_cons_succ, Option.some.injEq, decide_eq_true_eq, Bool.not_eq_true', decide_eq_false_iff_not, ite_true, ite_false, if_true, if_false, reduceIte, Bool.false_eq_true, Bool.not_true, Bool.not_false, Bool.true_eq_false, decide_true, decide_false, Nat.reduceLeDiff, Nat.reduceLT, ev_setF, ev_dcx, Pg.i0, ir, wipeA]
  refine dc_rows rkD Rk.nm (fun k => .tup (k.fs.map fun f => .str f.1)) ok.rnd (by have := ok.rfew; omega) (fun k hk C gC => ?_) fun B' g hFN => ?_
  · have k0 : ∀ A, ixD (rkD k) (.int 0) A = .ok (.str k.nm) A := fun A => ixa
    have k1 : ∀ A, ixD (rkD k) (.int 1) A = .ok (fldsD k.fs) A := fun A => ixb
    have iq : ∀ B, iSeq (fldsD k.fs) B = .ok ⟨k.fs.map fldD, yes⟩ B := fun B => rfl
    simp only [EV, Ab.isNon, args, List.map, List.length_cons, List.length_nil, List.length_singleton, List.replicate, Nat.reduceSub, Nat.reduceAdd, Nat.zero_add, List.cons_append, List.nil_append, List.getElem?_cons_zero, List.getElem?_cons_succ, List.set_cons_zero, List.set_cons_succ, Option.some.injEq, decide_eq_true_eq, Bool.not_eq_true', decide_eq_false_iff_not, ite_true, ite_false, if_true, if_false, reduceIte, Bool.false_eq_true, Bool.not_true, Bool.not_false, Bool.true_eq_false, decide_true, decide_false, Nat.reduceLeDiff, Nat.reduceLT, k0, k1, iq, wipeA]
    refine ⟨trivial, nms_comp (by have := ok.rf2 k hk; omega) (by simp) ?_⟩
    rw [ev_tup_ofL (rdL_l at_new)]
    exact ⟨rfl, .app⟩
  have W := W.gr g
  have hK := g.keep _ _ hK
  have hFD := g.keep _ _ hFD
  have lB := O.lt
  obtain ⟨FN, eFN⟩ : ∃ FN, B.length = FN := ⟨_, rfl⟩
  rw [eFN] at hFN lB ⊢
  have nFN : FN ≠ i := by omega
  have O := O.gr g
  refine own_put O (by simp) (by rfl) fun B w _ O => ?_
  have W := W.trans w
  have hK := w.keep _ _ nK hK
  have hFD := w.keep _ _ nFD hFD
  have hFN := w.keep _ _ nFN hFN
  -- arrays
  have ia : ∀ B, iSeq (.tup (p.arrs.map arD)) B = .ok ⟨p.arrs.map arD, yes⟩ B := fun B => rfl
  refine sat_seq ?_
  simp only [EV, Ab.isNon, args, List.map, List.length_cons, List.length_nil, List.length_singleton, List.replicate, Nat.reduceSub, Nat.reduceAdd, Nat.zero_add, List.cons_append, List.nil_append, List.getElem?_cons_zero, List.getElem?_cons_succ, List.set_cons_zero, List.set_cons_succ, Option.some.injEq, decide_eq_true_eq, Bool.not_eq_true', decide_eq_false_iff_not, ite_true, ite_false, if_true, if_false, reduceIte, Bool.false_eq_true, Bool.not_true, Bool.not_false, Bool.true_eq_false, decide_true, decide_false, Nat.reduceLeDiff, Nat.reduceLT, ev_setF, ev_dcx, Pg.i1, ia, wipeA]
  refine dc_rows arD (·.1) (fun a => .tup [.int a.2.1, .int a.2.2.1, .int a.2.2.2]) ok.and_ (by have := ok.afew; omega) (fun a ha C gC => ?_) fun B' g hAR => ?_
  · have k0 : ∀ A, ixD (arD a) (.int 0) A = .ok (.str a.1) A := fun A => ixa
    have k1 : ∀ A, slD (arD a) (some 1) none A = .ok (.tup [.int a.2.1, .int a.2.2.1, .int a.2.2.2]) A := fun A => rfl
    simp only [EV, Ab.isNon, args, List.map, List.length_cons, List.length_nil, List.length_singleton, List.replicate, Nat.reduceSub, Nat.reduceAdd, Nat.zero_add, List.cons_append, List.nil_append, List.getElem?_cons_zero, List.getElem?_cons_succ, List.set_cons_zero, List.set_cons_succ, Option.some.injEq, decide_eq_true_eq, Bool.not_eq_true', decide_eq_false_iff_not, ite_true, ite_false, if_true, if_false, reduceIte, Bool.false_eq_true, Bool.not_true, Bool.not_false, Bool.true_eq_false, decide_true, decide_false, Nat.reduceLeDiff, Nat.reduceLT, k0, k1]
    exact ⟨trivial, trivial, .refl⟩
  have W := W.gr g
  have hK := g.keep _ _ hK
  have hFD := g.keep _ _ hFD
  have hFN := g.keep _ _ hFN
  have lB := O.lt
  obtain ⟨AR, eAR⟩ : ∃ AR, B.length = AR := ⟨_, rfl⟩
  rw [eAR] at hAR lB ⊢
  have nAR : AR ≠ i := by omega
  have O := O.gr g
  refine own_put O (by simp) (by rfl) fun B w _ O => ?_
  have W := W.trans w
  have hK := w.keep _ _ nK hK
  have hFD := w.keep _ _ nFD hFD
  have hFN := w.keep _ _ nFN hFN
  have hAR := w.keep _ _ nAR hAR
  -- the kinds again
  refine sat_seq ?_
  simp only [EV, Ab.isNon, args, List.map, List.length_cons, List.length_nil, List.length_singleton, List.replicate, Nat.reduceSub, Nat.reduceAdd, Nat.zero_add, List.cons_append, List.nil_append, List.getElem?_cons_zero, List.getElem?_cons_succ, List.set_cons_zero, List.set_cons_succ, Option.some.injEq, decide_eq_true_eq, Bool.not_eq_true', decide_eq_false_iff_not, ite_true, ite_false, if_true, if_false, reduceIte, Bool.false_eq_true, Bool.not_true, Bool.not_false, Bool.true_eq_false, decide_true, decide_false, Nat.reduceLeDiff, Nat.reduceLT, ev_setF, ev_fld, O.read (n := "kinds") (v := .ref K) (by simp), dic_of hK]
  have lB := O.lt
  have hL := at_new (A := B) (o := .dic (kdK (f.vis p)))
  have g1 := Gr.app (A := B) (B := [AO.dic (kdK (f.vis p))])
  have aL := W.le
  obtain ⟨L, eL⟩ : ∃ L, B.length = L := ⟨_, rfl⟩
  rw [eL] at hL lB aL
  simp only [eL]
  have O := O.gr g1
  have W := W.gr g1
  have hK := g1.keep _ _ hK
  have hFD := g1.keep _ _ hFD
  have hFN := g1.keep _ _ hFN
  have hAR := g1.keep _ _ hAR
  have lK := at_lt (show B[K]? = some (.dic (kdK (f.vis p))) from by assumption)
  have lFD := at_lt (show B[FD]? = some (.dic (fdT p.recs)) from by assumption)
  have lFN := at_lt (show B[FN]? = some (.dic (fdN p.recs)) from by assumption)
  have lAR := at_lt (show B[AR]? = some (.dic (arT p.arrs)) from by assumption)
  have iw := at_lt h
  have wle := W.le
  generalize B ++ [AO.dic (kdK (f.vis p))] = B at *
  -- the ends
  have iq : ∀ (ps : List Pr) B, iSeq (fldsD ps) B = .ok ⟨ps.map fldD, yes⟩ B := fun ps B => rfl
  refine sat_seq ?_
  simp only [EV, Ab.isNon, args, List.map, List.length_cons, List.length_nil, List.length_singleton, List.replicate, Nat.reduceSub, Nat.reduceAdd, Nat.zero_add, List.cons_append, List.nil_append, List.getElem?_cons_zero, List.getElem?_cons_succ, List.set_cons_zero, List.set_cons_succ, Option.some.injEq, decide_eq_true_eq, Bool.not_eq_true', decide_eq_false_iff_not, ite_true, ite_false, if_true, if_false, reduceIte, Bool.false_eq_true, Bool.not_true, Bool.not_false, Bool.true_eq_false, decide_true, decide_false, Nat.reduceLeDiff, Nat.reduceLT, Pg.i2, iq, wipeA]
  refine nms_comp (by omega) (by simp) ?_
  have hE := at_new (A := B) (o := .lst (nmsD p.gl))
  have g2 := Gr.app (A := B) (B := [AO.lst (nmsD p.gl)])
  have lB2 := O.lt
  have bl1 : L < B.length := at_lt hL
  have W := W.gr g2
  have O := O.gr g2
  have hL := g2.keep _ _ hL
  have hK := g2.keep _ _ hK
  have hFD := g2.keep _ _ hFD
  have hFN := g2.keep _ _ hFN
  have hAR := g2.keep _ _ hAR
  obtain ⟨E, eE⟩ : ∃ E, B.length = E := ⟨_, rfl⟩
  rw [eE] at hE lB2 bl1
  simp only [eE, EV, Ab.isNon, args, List.map, List.length_cons, List.length_nil, List.length_singleton, List.replicate, Nat.reduceSub, Nat.reduceAdd, Nat.zero_add, List.cons_append, List.nil_append, List.getElem?_cons_zero, List.getElem?_cons_succ, List.set_cons_zero, List.set_cons_succ, Option.some.injEq, decide_eq_true_eq, Bool.not_eq_true', decide_eq_false_iff_not, ite_true, ite_false, if_true, if_false, reduceIte, Bool.false_eq_true, Bool.not_true, Bool.not_false, Bool.true_eq_false, decide_true, decide_false, Nat.reduceLeDiff, Nat.reduceLT]
  generalize B ++ [AO.lst (nmsD p.gl)] = B at *
  refine sat_seq ?_
  simp only [EV, Ab.isNon, args, List.map, List.length_cons, List.length_nil, List.length_singleton, List.replicate, Nat.reduceSub, Nat.reduceAdd, Nat.zero_add, List.cons_append, List.nil_append, List.getElem?_cons_zero, List.getElem?_cons_succ, List.set_cons_zero, List.set_cons_succ, Option.some.injEq, decide_eq_true_eq, Bool.not_eq_true', decide_eq_false_iff_not, ite_true, ite_false, if_true, if_false, reduceIte, Bool.false_eq_true, Bool.not_true, Bool.not_false, Bool.true_eq_false, decide_true, decide_false, Nat.reduceLeDiff, Nat.reduceLT, ev_fld, O.read (n := "function") (v := f.d) (by simp), Fn.i1, iq, wipeA]
  refine nms_comp (by omega) (by simp) ?_
  have h9 := at_new (A := B) (o := .lst (nmsD f.ps))
  have g3 := Gr.app (A := B) (B := [AO.lst (nmsD f.ps)])
  have hE3 := g3.keep _ _ hE
  have z3 : (B ++ [AO.lst (nmsD f.ps)]).length = B.length + 1 := by simp
  rw [ev_add_rr (muL_l hE3) (muL_l h9) (sl_le (by unfold nmsD; rw [List.length_map, List.length_map]; omega))]
  have g4 := g3.trans (Gr.app (A := B ++ [AO.lst (nmsD f.ps)]) (B := [AO.lst (nmsD p.gl ++ nmsD f.ps)]))
  have hN9 := at_new (A := B ++ [AO.lst (nmsD f.ps)]) (o := .lst (nmsD p.gl ++ nmsD f.ps))
  have en9 : nmsD p.gl ++ nmsD f.ps = nmsD (f.entry p) := by unfold Fn.entry nmsD; rw [List.map_append]
  rw [en9] at g4 hN9 ⊢
  have W := W.gr g4
  have O := O.gr g4
  have bE := at_lt hE
  have hE := g4.keep _ _ hE
  have hL := g4.keep _ _ hL
  have hK := g4.keep _ _ hK
  have hFD := g4.keep _ _ hFD
  have hFN := g4.keep _ _ hFN
  have hAR := g4.keep _ _ hAR
  obtain ⟨N9, e9⟩ : ∃ N9, (B ++ [AO.lst (nmsD f.ps)]).length = N9 := ⟨_, rfl⟩
  rw [e9] at hN9 z3
  simp only [e9, EV, Ab.isNon, args, List.map, List.length_cons, List.length_nil, List.length_singleton, List.replicate, Nat.reduceSub, Nat.reduceAdd, Nat.zero_add, List.cons_append, List.nil_append, List.getElem?_cons_zero, List.getElem?_cons_succ, List.set_cons_zero, List.set_cons_succ, Option.some.injEq, decide_eq_true_eq, Bool.not_eq_true', decide_eq_false_iff_not, ite_true, ite_false, if_true, if_false, reduceIte, Bool.false_eq_true, Bool.not_true, Bool.not_false, Bool.true_eq_false, decide_true, decide_false, Nat.reduceLeDiff, Nat.reduceLT]
  have bl2 : E < N9 := by omega
  generalize B ++ [AO.lst (nmsD f.ps)] ++ [AO.lst (nmsD (f.entry p))] = B at *
  clear h9 g3 hE3 g4
  refine sat_seq ?_
  simp only [EV, Ab.isNon, args, List.map, List.length_cons, List.length_nil, List.length_singleton, List.replicate, Nat.reduceSub, Nat.reduceAdd, Nat.zero_add, List.cons_append, List.nil_append, List.getElem?_cons_zero, List.getElem?_cons_succ, List.set_cons_zero, List.set_cons_succ, Option.some.injEq, decide_eq_true_eq, Bool.not_eq_true', decide_eq_false_iff_not, ite_true, ite_false, if_true, if_false, reduceIte, Bool.false_eq_true, Bool.not_true, Bool.not_false, Bool.true_eq_false, decide_true, decide_false, Nat.reduceLeDiff, Nat.reduceLT, ev_fld, O.read (n := "function") (v := f.d) (by simp), Fn.i3, iq, wipeA]
  refine nms_comp (by omega) (by simp) ?_
  have h9 := at_new (A := B) (o := .lst (nmsD f.own))
  have g3 := Gr.app (A := B) (B := [AO.lst (nmsD f.own)])
  have hE3 := g3.keep _ _ hN9
  have z4 : (B ++ [AO.lst (nmsD f.own)]).length = B.length + 1 := by simp
  rw [ev_add_rr (muL_l hE3) (muL_l h9) (sl_le (by unfold nmsD Fn.entry; rw [List.length_map, List.length_map, List.length_append]; omega))]
  have g4 := g3.trans (Gr.app (A := B ++ [AO.lst (nmsD f.own)]) (B := [AO.lst (nmsD (f.entry p) ++ nmsD f.own)]))
  have hN10 := at_new (A := B ++ [AO.lst (nmsD f.own)]) (o := .lst (nmsD (f.entry p) ++ nmsD f.own))
  have en10 : nmsD (f.entry p) ++ nmsD f.own = nmsD (f.vis p) := by unfold Fn.entry Fn.vis nmsD; rw [List.map_append (l₁ := p.gl ++ f.ps)]
  rw [en10] at g4 hN10 ⊢
  have W := W.gr g4
  have O := O.gr g4
  have bN9 := at_lt hN9
  have hE := g4.keep _ _ hE
  have hN9 := g4.keep _ _ hN9
  have hL := g4.keep _ _ hL
  have hK := g4.keep _ _ hK
  have hFD := g4.keep _ _ hFD
  have hFN := g4.keep _ _ hFN
  have hAR := g4.keep _ _ hAR
  obtain ⟨N10, e10⟩ : ∃ N10, (B ++ [AO.lst (nmsD f.own)]).length = N10 := ⟨_, rfl⟩
  rw [e10] at hN10 z4
  simp only [e10, EV, Ab.isNon, args, List.map, List.length_cons, List.length_nil, List.length_singleton, List.replicate, Nat.reduceSub, Nat.reduceAdd, Nat.zero_add, List.cons_append, List.nil_append, List.getElem?_cons_zero, List.getElem?_cons_succ, List.set_cons_zero, List.set_cons_succ, Option.some.injEq, decide_eq_true_eq, Bool.not_eq_true', decide_eq_false_iff_not, ite_true, ite_false, if_true, if_false, reduceIte, Bool.false_eq_true, Bool.not_true, Bool.not_false, Bool.true_eq_false, decide_true, decide_false, Nat.reduceLeDiff, Nat.reduceLT]
  have bl3 : N9 < N10 := by omega
  generalize B ++ [AO.lst (nmsD f.own)] ++ [AO.lst (nmsD (f.vis p))] = B at *
  clear h9 g3 hE3 g4
  have kn := kd_get ok.vnd
  have sv : ∀ q ∈ p.gl, q ∈ f.vis p := fun q hq => by unfold Fn.vis; simp [hq]
  -- the result
  refine sat_mid (fun σ B' => (∃ kvs, B'[L]? = some (.dic kvs) ∧ Kn kvs (f.ends p) ∧ Kn kvs (f.vis p)) ∧ B'[E]? = some (.lst (nmsD (f.ends p))) ∧ B'[N9]? = some (.lst (nmsD (f.entry p))) ∧ B'[N10]? = some (.lst (nmsD (f.vis p))) ∧ Dq i A B' ∧ Own B' i (cl "Layout") (layB p f hs K FD FN AR) ∧ B'[K]? = some (.dic (kdK (f.vis p))) ∧ B'[FD]? = some (.dic (fdT p.recs)) ∧ B'[FN]? = some (.dic (fdN p.recs)) ∧ B'[AR]? = some (.dic (arT p.arrs)) ∧ ∃ x3 x4 x5 x8, σ = [some (.ref i), some p.d, some (.str f.nm), x3, x4, x5, some (.ref L), some (.ref E), x8, some (.ref N9), some (.ref N10)]) ?_ fun σ B' ⟨⟨kvs, hL, ke, kv⟩, hE, hN9, hN10, W, O, hK, hFD, hFN, hAR, x3, x4, x5, x8, hσ⟩ => ?_
  · have rr := O.read (n := "result") (v := resD f.res) (by simp)
    cases er : f.res with
    | none =>
      rw [er] at rr
      simp only [EV, Ab.isNon, args, List.map, List.length_cons, List.length_nil, List.length_singleton, List.replicate, Nat.reduceSub, Nat.reduceAdd, Nat.zero_add, List.cons_append, List.nil_append, List.getElem?_cons_zero, List.getElem?_cons_succ, List.set_cons_zero, List.set_cons_succ, Option.some.injEq, decide_eq_true_eq, Bool.not_eq_true', decide_eq_false_iff_not, ite_true, ite_false, if_true, if_false, reduceIte, Bool.false_eq_true, Bool.not_true, Bool.not_false, Bool.true_eq_false, decide_true, decide_false, Nat.reduceLeDiff, Nat.reduceLT, ev_fld, rr, resD]
      refine ⟨_, rfl, ⟨_, hL, ?_, kn⟩, ?_, hN9, hN10, W, O, hK, hFD, hFN, hAR, _, _, _, _, rfl⟩
      · unfold Fn.ends; rw [er, List.append_nil]; exact kn.sub sv
      · unfold Fn.ends; rw [er, List.append_nil]; exact hE
    | some k =>
      rw [er] at rr
      refine sat_ifS (b := true) ?_ (fun _ => ?_) (fun e => by cases e)
      · simp only [EV, Ab.isNon, args, List.map, List.length_cons, List.length_nil, List.length_singleton, List.replicate, Nat.reduceSub, Nat.reduceAdd, Nat.zero_add, List.cons_append, List.nil_append, List.getElem?_cons_zero, List.getElem?_cons_succ, List.set_cons_zero, List.set_cons_succ, Option.some.injEq, decide_eq_true_eq, Bool.not_eq_true', decide_eq_false_iff_not, ite_true, ite_false, if_true, if_false, reduceIte, Bool.false_eq_true, Bool.not_true, Bool.not_false, Bool.true_eq_false, decide_true, decide_false, Nat.reduceLeDiff, Nat.reduceLT, ev_fld, rr, resD]
        cases k <;> rfl
      refine sat_seq ?_
      have rd := O.read (n := "result") (v := resD f.res) (by simp)
      rw [er] at rd
      simp only [resD] at rd
      have lvs : (kdK (f.vis p)).length < 1000000 := by unfold kdK; rw [List.length_map]; have := ok.few; omega
      simp only [EV, Ab.isNon, args, List.map, List.length_cons, List.length_nil, List.length_singleton, List.replicate, Nat.reduceSub, Nat.reduceAdd, Nat.zero_add, List.cons_append, List.nil_append, List.getElem?_cons_zero, List.getElem?_cons_succ, List.set_cons_zero, List.set_cons_succ, Option.some.injEq, decide_eq_true_eq, Bool.not_eq_true', decide_eq_false_iff_not, ite_true, ite_false, if_true, if_false, reduceIte, Bool.false_eq_true, Bool.not_true, Bool.not_false, Bool.true_eq_false, decide_true, decide_false, Nat.reduceLeDiff, Nat.reduceLT, ev_fld, rd, st_k hL lvs]
      have hL2 := at_set (o := .dic (setK (kdK (f.vis p)) (.inr "result") k.d)) (at_lt hL)
      have li := at_lt h
      have W := W.setN (o := .dic (setK (kdK (f.vis p)) (.inr "result") k.d)) (r := L) (by omega)
      have hE := (List.getElem?_set_ne (a := AO.dic (setK (kdK (f.vis p)) (.inr "result") k.d)) (show L ≠ E by omega)).trans hE
      have hN9 := (List.getElem?_set_ne (a := AO.dic (setK (kdK (f.vis p)) (.inr "result") k.d)) (show L ≠ N9 by omega)).trans hN9
      have hN10 := (List.getElem?_set_ne (a := AO.dic (setK (kdK (f.vis p)) (.inr "result") k.d)) (show L ≠ N10 by omega)).trans hN10
      have hK := (List.getElem?_set_ne (a := AO.dic (setK (kdK (f.vis p)) (.inr "result") k.d)) (show L ≠ K by omega)).trans hK
      have hFD := (List.getElem?_set_ne (a := AO.dic (setK (kdK (f.vis p)) (.inr "result") k.d)) (show L ≠ FD by omega)).trans hFD
      have hFN := (List.getElem?_set_ne (a := AO.dic (setK (kdK (f.vis p)) (.inr "result") k.d)) (show L ≠ FN by omega)).trans hFN
      have hAR := (List.getElem?_set_ne (a := AO.dic (setK (kdK (f.vis p)) (.inr "result") k.d)) (show L ≠ AR by omega)).trans hAR
      have O := O.mono (B := B.set L (.dic (setK (kdK (f.vis p)) (.inr "result") k.d))) fun o e => by rw [List.getElem?_set_ne (show L ≠ i by omega)]; exact e
      generalize B.set L (.dic (setK (kdK (f.vis p)) (.inr "result") k.d)) = B at *
      simp only [EV, Ab.isNon, args, List.map, List.length_cons, List.length_nil, List.length_singleton, List.replicate, Nat.reduceSub, Nat.reduceAdd, Nat.zero_add, List.cons_append, List.nil_append, List.getElem?_cons_zero, List.getElem?_cons_succ, List.set_cons_zero, List.set_cons_succ, Option.some.injEq, decide_eq_true_eq, Bool.not_eq_true', decide_eq_false_iff_not, ite_true, ite_false, if_true, if_false, reduceIte, Bool.false_eq_true, Bool.not_true, Bool.not_false, Bool.true_eq_false, decide_true, decide_false, Nat.reduceLeDiff, Nat.reduceLT, ty_l hE]
      rw [ev_app hE (by unfold nmsD; rw [List.length_map]; omega)]
      have hE2 := at_set (o := .lst (nmsD p.gl ++ [.str "result"])) (at_lt hE)
      have kn2 : Kn (setK (kdK (f.vis p)) (.inr "result") k.d) (f.vis p) := fun q hq => by
        rw [getK_set, if_neg (fun e => ok.nr q hq (by injection e)), kn q hq]
      simp only [EV, Ab.isNon, args, List.map, List.length_cons, List.length_nil, List.length_singleton, List.replicate, Nat.reduceSub, Nat.reduceAdd, Nat.zero_add, List.cons_append, List.nil_append, List.getElem?_cons_zero, List.getElem?_cons_succ, List.set_cons_zero, List.set_cons_succ, Option.some.injEq, decide_eq_true_eq, Bool.not_eq_true', decide_eq_false_iff_not, ite_true, ite_false, if_true, if_false, reduceIte, Bool.false_eq_true, Bool.not_true, Bool.not_false, Bool.true_eq_false, decide_true, decide_false, Nat.reduceLeDiff, Nat.reduceLT]
      refine ⟨_, rfl, ⟨_, by rw [List.getElem?_set_ne (by omega)]; exact hL2, ?_, kn2⟩, ?_, by rw [List.getElem?_set_ne (by omega)]; exact hN9, by rw [List.getElem?_set_ne (by omega)]; exact hN10, W.setN (by omega), O.mono fun o e => by rw [List.getElem?_set_ne (show E ≠ i by omega)]; exact e, by rw [List.getElem?_set_ne (by omega)]; exact hK, by rw [List.getElem?_set_ne (by omega)]; exact hFD, by rw [List.getElem?_set_ne (by omega)]; exact hFN, by rw [List.getElem?_set_ne (by omega)]; exact hAR, _, _, _, _, rfl⟩
      · unfold Fn.ends; rw [er]
        intro q hq
        rcases List.mem_append.mp hq with hq | hq
        · exact kn2 q (sv q hq)
        · rw [List.mem_singleton.mp hq, getK_set, if_pos rfl]
      · unfold Fn.ends; rw [er, hE2]
        unfold nmsD
        rw [List.map_append]; rfl
  subst hσ
  have few := ok.few
  have fe : (f.ends p).length ≤ 1000 := by unfold Fn.ends; cases f.res <;> simp <;> omega
  have fn : (f.entry p).length ≤ 1000 := by unfold Fn.entry; rw [List.length_append]; omega
  have kt : Kn kvs (f.entry p) := kv.sub fun q hq => by unfold Fn.entry at hq; unfold Fn.vis; rw [List.append_assoc]; rcases List.mem_append.mp hq with h | h <;> simp [h]
  have fs : ∀ ps : List Pr, ∀ q ∈ smN ps, q ∈ ps := fun ps q hq => (List.mem_filter.mp hq).1
  have fl : ∀ ps : List Pr, ∀ q ∈ lgN ps, q ∈ ps := fun ps q hq => (List.mem_filter.mp hq).1
  have ls : ∀ ps : List Pr, (smN ps).length ≤ ps.length := fun ps => List.length_filter_le ..
  have ll : ∀ ps : List Pr, (lgN ps).length ≤ ps.length := fun ps => List.length_filter_le ..
  have nL : L ≠ i := by have := at_lt h; omega
  have nE : E ≠ i := by have := at_lt h; omega
  have n9 : N9 ≠ i := by have := at_lt h; omega
  have n10 : N10 ≠ i := by have := at_lt h; omega
  -- the names
  let V : AH → Prop := fun B => B[L]? = some (.dic kvs) ∧ B[E]? = some (.lst (nmsD (f.ends p))) ∧ B[N9]? = some (.lst (nmsD (f.entry p))) ∧ B[N10]? = some (.lst (nmsD (f.vis p))) ∧ Dq i A B ∧ B[K]? = some (.dic (kdK (f.vis p))) ∧ B[FD]? = some (.dic (fdT p.recs)) ∧ B[FN]? = some (.dic (fdN p.recs)) ∧ B[AR]? = some (.dic (arT p.arrs))
  have V0 : V B' := ⟨hL, hE, hN9, hN10, W, hK, hFD, hFN, hAR⟩
  have Vq : ∀ {B C : AH}, V B → Dq i B C → V C := fun ⟨a, b, c, d, e, k, x, y, z⟩ w => ⟨w.keep _ _ nL a, w.keep _ _ nE b, w.keep _ _ n9 c, w.keep _ _ n10 d, e.trans w, w.keep _ _ nK k, w.keep _ _ nFD x, w.keep _ _ nFN y, w.keep _ _ nAR z⟩
  have Vg : ∀ {B C : AH}, V B → Gr B C → V C := fun v g => Vq v (Dq.refl.gr g)
  clear hL hE hN9 hN10 W hK hFD hFN hAR
  refine sat_seq ?_
  simp only [EV, Ab.isNon, args, List.map, List.length_cons, List.length_nil, List.length_singleton, List.replicate, Nat.reduceSub, Nat.reduceAdd, Nat.zero_add, List.cons_append, List.nil_append, List.getElem?_cons_zero, List.getElem?_cons_succ, List.set_cons_zero, List.set_cons_succ, Option.some.injEq, decide_eq_true_eq, Bool.not_eq_true', decide_eq_false_iff_not, ite_true, ite_false, if_true, if_false, reduceIte, Bool.false_eq_true, Bool.not_true, Bool.not_false, Bool.true_eq_false, decide_true, decide_false, Nat.reduceLeDiff, Nat.reduceLT, ev_setF]
  refine Sat.imp (discN_spec (ev_iseq_l V0.2.2.2.1) (fun l => rdL_l (Gr.app.keep _ _ V0.2.2.2.1)) V0.1 kv (by omega)) fun d B ⟨g, e⟩ => ?_
  subst e
  refine own_put (O.gr g) (by simp [layB]) (by rfl) fun B2 w _ O => ?_
  have V0 := Vq (Vg V0 g) w
  refine sat_seq ?_
  simp only [EV, Ab.isNon, args, List.map, List.length_cons, List.length_nil, List.length_singleton, List.replicate, Nat.reduceSub, Nat.reduceAdd, Nat.zero_add, List.cons_append, List.nil_append, List.getElem?_cons_zero, List.getElem?_cons_succ, List.set_cons_zero, List.set_cons_succ, Option.some.injEq, decide_eq_true_eq, Bool.not_eq_true', decide_eq_false_iff_not, ite_true, ite_false, if_true, if_false, reduceIte, Bool.false_eq_true, Bool.not_true, Bool.not_false, Bool.true_eq_false, decide_true, decide_false, Nat.reduceLeDiff, Nat.reduceLT, ev_setF]
  refine Sat.imp (largeN_spec (ev_iseq_l V0.2.2.2.1) (fun l => rdL_l (Gr.app.keep _ _ V0.2.2.2.1)) V0.1 kv (by omega)) fun d B ⟨g, e⟩ => ?_
  subst e
  refine own_put (O.gr g) (by simp [layB]) (by rfl) fun B2 w _ O => ?_
  have V0 := Vq (Vg V0 g) w
  refine sat_seq ?_
  simp only [EV, Ab.isNon, args, List.map, List.length_cons, List.length_nil, List.length_singleton, List.replicate, Nat.reduceSub, Nat.reduceAdd, Nat.zero_add, List.cons_append, List.nil_append, List.getElem?_cons_zero, List.getElem?_cons_succ, List.set_cons_zero, List.set_cons_succ, Option.some.injEq, decide_eq_true_eq, Bool.not_eq_true', decide_eq_false_iff_not, ite_true, ite_false, if_true, if_false, reduceIte, Bool.false_eq_true, Bool.not_true, Bool.not_false, Bool.true_eq_false, decide_true, decide_false, Nat.reduceLeDiff, Nat.reduceLT, ev_setF]
  refine Sat.imp (discN_spec (ev_iseq_l V0.2.2.1) (fun l => rdL_l (Gr.app.keep _ _ V0.2.2.1)) V0.1 kt (by omega)) fun d B ⟨g, e⟩ => ?_
  subst e
  refine own_put (O.gr g) (by simp [layB]) (by rfl) fun B2 w _ O => ?_
  have V0 := Vq (Vg V0 g) w
  refine sat_seq ?_
  simp only [EV, Ab.isNon, args, List.map, List.length_cons, List.length_nil, List.length_singleton, List.replicate, Nat.reduceSub, Nat.reduceAdd, Nat.zero_add, List.cons_append, List.nil_append, List.getElem?_cons_zero, List.getElem?_cons_succ, List.set_cons_zero, List.set_cons_succ, Option.some.injEq, decide_eq_true_eq, Bool.not_eq_true', decide_eq_false_iff_not, ite_true, ite_false, if_true, if_false, reduceIte, Bool.false_eq_true, Bool.not_true, Bool.not_false, Bool.true_eq_false, decide_true, decide_false, Nat.reduceLeDiff, Nat.reduceLT, ev_setF]
  refine Sat.imp (largeN_spec (ev_iseq_l V0.2.2.1) (fun l => rdL_l (Gr.app.keep _ _ V0.2.2.1)) V0.1 kt (by omega)) fun d B ⟨g, e⟩ => ?_
  subst e
  refine own_put (O.gr g) (by simp [layB]) (by rfl) fun B2 w _ O => ?_
  have V0 := Vq (Vg V0 g) w
  refine sat_seq ?_
  simp only [EV, Ab.isNon, args, List.map, List.length_cons, List.length_nil, List.length_singleton, List.replicate, Nat.reduceSub, Nat.reduceAdd, Nat.zero_add, List.cons_append, List.nil_append, List.getElem?_cons_zero, List.getElem?_cons_succ, List.set_cons_zero, List.set_cons_succ, Option.some.injEq, decide_eq_true_eq, Bool.not_eq_true', decide_eq_false_iff_not, ite_true, ite_false, if_true, if_false, reduceIte, Bool.false_eq_true, Bool.not_true, Bool.not_false, Bool.true_eq_false, decide_true, decide_false, Nat.reduceLeDiff, Nat.reduceLT, ev_setF]
  refine Sat.imp (discN_spec (ev_iseq_l V0.2.1) (fun l => rdL_l (Gr.app.keep _ _ V0.2.1)) V0.1 ke (by omega)) fun d B ⟨g, e⟩ => ?_
  subst e
  refine own_put (O.gr g) (by simp [layB]) (by rfl) fun B2 w _ O => ?_
  have V0 := Vq (Vg V0 g) w
  refine sat_seq ?_
  simp only [EV, Ab.isNon, args, List.map, List.length_cons, List.length_nil, List.length_singleton, List.replicate, Nat.reduceSub, Nat.reduceAdd, Nat.zero_add, List.cons_append, List.nil_append, List.getElem?_cons_zero, List.getElem?_cons_succ, List.set_cons_zero, List.set_cons_succ, Option.some.injEq, decide_eq_true_eq, Bool.not_eq_true', decide_eq_false_iff_not, ite_true, ite_false, if_true, if_false, reduceIte, Bool.false_eq_true, Bool.not_true, Bool.not_false, Bool.true_eq_false, decide_true, decide_false, Nat.reduceLeDiff, Nat.reduceLT, ev_setF]
  refine Sat.imp (largeN_spec (ev_iseq_l V0.2.1) (fun l => rdL_l (Gr.app.keep _ _ V0.2.1)) V0.1 ke (by omega)) fun d B ⟨g, e⟩ => ?_
  subst e
  refine own_put (O.gr g) (by simp [layB]) (by rfl) fun B2 w _ O => ?_
  have V0 := Vq (Vg V0 g) w
  -- the ranges
  have ad : ∀ (ps qs : List Pr) B, ps.length + qs.length ≤ 2000 → addD (.tup (nmsD ps)) (.tup (nmsD qs)) B = .ok (.tup (nmsD (ps ++ qs))) B := fun ps qs B z => (ev_add_tt (sl_le (by unfold nmsD; rw [List.length_map, List.length_map]; omega))).trans (by unfold nmsD; rw [List.map_append])
  have l1 := ll (f.vis p)
  have l2 := ll (f.entry p)
  have l3 := ll (f.ends p)
  refine sat_seq ?_
  simp only [EV, Ab.isNon, args, List.map, List.length_cons, List.length_nil, List.length_singleton, List.replicate, Nat.reduceSub, Nat.reduceAdd, Nat.zero_add, List.cons_append, List.nil_append, List.getElem?_cons_zero, List.getElem?_cons_succ, List.set_cons_zero, List.set_cons_succ, Option.some.injEq, decide_eq_true_eq, Bool.not_eq_true', decide_eq_false_iff_not, ite_true, ite_false, if_true, if_false, reduceIte, Bool.false_eq_true, Bool.not_true, Bool.not_false, Bool.true_eq_false, decide_true, decide_false, Nat.reduceLeDiff, Nat.reduceLT, ev_setF, ev_fld, O.read (n := "large") (v := .tup (nmsD (lgN (f.vis p)))) (by simp [lgN]), O.read (n := "entry_large") (v := .tup (nmsD (lgN (f.entry p)))) (by simp [lgN]), ad (lgN (f.vis p)) (lgN (f.entry p)) _ (by omega)]
  refine Sat.imp (rangesN_spec (ps := lgN (f.vis p) ++ lgN (f.entry p)) V0.1 (fun q hq => by rcases List.mem_append.mp hq with h | h; exact kv q (fl _ q h); exact kt q (fl _ q h)) (by rw [List.length_append]; omega)) fun d B ⟨g, e⟩ => ?_
  subst e
  refine own_put (O.gr g) (by simp [layB]) (by rfl) fun B2 w _ O => ?_
  have V0 := Vq (Vg V0 g) w
  refine sat_seq ?_
  simp only [EV, Ab.isNon, args, List.map, List.length_cons, List.length_nil, List.length_singleton, List.replicate, Nat.reduceSub, Nat.reduceAdd, Nat.zero_add, List.cons_append, List.nil_append, List.getElem?_cons_zero, List.getElem?_cons_succ, List.set_cons_zero, List.set_cons_succ, Option.some.injEq, decide_eq_true_eq, Bool.not_eq_true', decide_eq_false_iff_not, ite_true, ite_false, if_true, if_false, reduceIte, Bool.false_eq_true, Bool.not_true, Bool.not_false, Bool.true_eq_false, decide_true, decide_false, Nat.reduceLeDiff, Nat.reduceLT, ev_setF, ev_fld, O.read (n := "exit_large") (v := .tup (nmsD (lgN (f.ends p)))) (by simp [lgN]), O.read (n := "entry_large") (v := .tup (nmsD (lgN (f.entry p)))) (by simp [lgN]), ad (lgN (f.ends p)) (lgN (f.entry p)) _ (by omega)]
  refine Sat.imp (rangesN_spec (ps := lgN (f.ends p) ++ lgN (f.entry p)) V0.1 (fun q hq => by rcases List.mem_append.mp hq with h | h; exact ke q (fl _ q h); exact kt q (fl _ q h)) (by rw [List.length_append]; omega)) fun d B ⟨g, e⟩ => ?_
  subst e
  refine own_put (O.gr g) (by simp [layB]) (by rfl) fun B2 w _ O => ?_
  have V0 := Vq (Vg V0 g) w
  have s1 := ls (f.vis p)
  have s2 := ls (f.entry p)
  have s3 := ls (f.ends p)
  refine sat_seq ?_
  simp only [EV, Ab.isNon, args, List.map, List.length_cons, List.length_nil, List.length_singleton, List.replicate, Nat.reduceSub, Nat.reduceAdd, Nat.zero_add, List.cons_append, List.nil_append, List.getElem?_cons_zero, List.getElem?_cons_succ, List.set_cons_zero, List.set_cons_succ, Option.some.injEq, decide_eq_true_eq, Bool.not_eq_true', decide_eq_false_iff_not, ite_true, ite_false, if_true, if_false, reduceIte, Bool.false_eq_true, Bool.not_true, Bool.not_false, Bool.true_eq_false, decide_true, decide_false, Nat.reduceLeDiff, Nat.reduceLT, ev_setF, ev_fld, O.read (n := "discrete") (v := .tup (nmsD (smN (f.vis p)))) (by simp [smN])]
  refine Sat.imp (kindsN_spec (ps := smN (f.vis p)) V0.1 (kv.sub (fs _)) (by omega)) fun d B ⟨g, e⟩ => ?_
  subst e
  refine own_put (O.gr g) (by simp [layB]) (by rfl) fun B2 w _ O => ?_
  have V0 := Vq (Vg V0 g) w
  refine sat_seq ?_
  simp only [EV, Ab.isNon, args, List.map, List.length_cons, List.length_nil, List.length_singleton, List.replicate, Nat.reduceSub, Nat.reduceAdd, Nat.zero_add, List.cons_append, List.nil_append, List.getElem?_cons_zero, List.getElem?_cons_succ, List.set_cons_zero, List.set_cons_succ, Option.some.injEq, decide_eq_true_eq, Bool.not_eq_true', decide_eq_false_iff_not, ite_true, ite_false, if_true, if_false, reduceIte, Bool.false_eq_true, Bool.not_true, Bool.not_false, Bool.true_eq_false, decide_true, decide_false, Nat.reduceLeDiff, Nat.reduceLT, ev_setF, ev_fld, O.read (n := "entry_discrete") (v := .tup (nmsD (smN (f.entry p)))) (by simp [smN])]
  refine Sat.imp (kindsN_spec (ps := smN (f.entry p)) V0.1 (kt.sub (fs _)) (by omega)) fun d B ⟨g, e⟩ => ?_
  subst e
  refine own_put (O.gr g) (by simp [layB]) (by rfl) fun B2 w _ O => ?_
  have V0 := Vq (Vg V0 g) w
  simp only [EV, Ab.isNon, args, List.map, List.length_cons, List.length_nil, List.length_singleton, List.replicate, Nat.reduceSub, Nat.reduceAdd, Nat.zero_add, List.cons_append, List.nil_append, List.getElem?_cons_zero, List.getElem?_cons_succ, List.set_cons_zero, List.set_cons_succ, Option.some.injEq, decide_eq_true_eq, Bool.not_eq_true', decide_eq_false_iff_not, ite_true, ite_false, if_true, if_false, reduceIte, Bool.false_eq_true, Bool.not_true, Bool.not_false, Bool.true_eq_false, decide_true, decide_false, Nat.reduceLeDiff, Nat.reduceLT, ev_setF, ev_fld, O.read (n := "exit_discrete") (v := .tup (nmsD (smN (f.ends p)))) (by simp [smN])]
  refine Sat.imp (kindsN_spec (ps := smN (f.ends p)) V0.1 (ke.sub (fs _)) (by omega)) fun d B ⟨g, e⟩ => ?_
  subst e
  refine own_put (O.gr g) (by simp [layB]) (by rfl) fun B2 w _ O => ?_
  obtain ⟨a, b, c, d, e, k, x, y, z⟩ := Vq (Vg V0 g) w
  exact ⟨trivial, e, ⟨hs, K, FD, FN, AR, O, k, x, y, z, nK, nFD, nFN, nAR⟩⟩
end Law

namespace Law
open PySem PySem.Spec PyProof.Rows L2 Ab
open scoped Classical
/-! ### plain data; one of a row -/
theorem pl_up : ∀ {n : Nat} {d : D}, Pl n d → Pl (n + 1) d
  | _, .non, _ => trivial
  | _, .bl _, _ => trivial
  | _, .int _, _ => trivial
  | _, .str _, _ => trivial
  | 0, .tup _, h => absurd h id
  | n + 1, .tup ds, h => ⟨h.1, fun d hd => pl_up (h.2 d hd)⟩
  | 0, .ref _, h => absurd h id
  | n + 1, .ref _, h => absurd h id
theorem pl_le {n m : Nat} {d : D} (h : Pl n d) (le : n ≤ m) : Pl m d := by
  obtain ⟨k, rfl⟩ : ∃ k, m = n + k := ⟨m - n, by omega⟩
  clear le
  induction k with
  | zero => exact h
  | succ k ih => exact pl_up ih
theorem pl_s {n : Nat} {x : Str} : Pl n (.str x) := by cases n <;> trivial
theorem pl_i {n : Nat} {i : Int} : Pl n (.int i) := by cases n <;> trivial
theorem pl_b {n : Nat} {i : Bool} : Pl n (.bl i) := by cases n <;> trivial
theorem pl_n {n : Nat} : Pl n .non := by cases n <;> trivial
theorem pl1 {n : Nat} {a : D} (h : Pl n a) : Pl (n + 1) (.tup [a]) := ⟨by simp, fun d hd => by cases List.mem_singleton.mp hd; exact h⟩
theorem pl2 {n : Nat} {a b : D} (h : Pl n a) (h2 : Pl n b) : Pl (n + 1) (.tup [a, b]) := ⟨by simp, fun d hd => by
  simp only [List.mem_cons, List.not_mem_nil, or_false] at hd
  rcases hd with rfl | rfl
  · exact h
  · exact h2⟩
theorem pl3 {n : Nat} {a b c : D} (h : Pl n a) (h2 : Pl n b) (h3 : Pl n c) : Pl (n + 1) (.tup [a, b, c]) := ⟨by simp, fun d hd => by
  simp only [List.mem_cons, List.not_mem_nil, or_false] at hd
  rcases hd with rfl | rfl | rfl
  · exact h
  · exact h2
  · exact h3⟩
theorem pl4 {n : Nat} {a b c e : D} (h : Pl n a) (h2 : Pl n b) (h3 : Pl n c) (h4 : Pl n e) : Pl (n + 1) (.tup [a, b, c, e]) := ⟨by simp, fun d hd => by
  simp only [List.mem_cons, List.not_mem_nil, or_false] at hd
  rcases hd with rfl | rfl | rfl | rfl
  · exact h
  · exact h2
  · exact h3
  · exact h4⟩
theorem one_l {A : AH} {s r : Nat} {xs : List D} (hs : Sr s A) (rs : r ≠ s) (h : A[r]? = some (.lst xs)) (ne : xs ≠ []) (few : xs.length ≤ 1000) : DrwS s A (m__law_one [.ref s, .ref r] A) fun d => d ∈ xs := by
  have pos := List.length_pos_iff.mpr ne
  refine sat_body rfl ?_
  unfold p__law_one
  have ln : lenD [.ref r] A = .ok (.int (xs.length : Nat)) A := ev_len_r (rdL_l h)
  simp only [EV, Ab.isNon, args, List.map, List.length_cons, List.length_nil, List.length_singleton, List.replicate, Nat.reduceSub, Nat.reduceAdd, Nat.zero_add, List.cons_append, List.nil_append, List.getElem?_cons_zero, List.getElem?_cons_succ, List.set_cons_zero, List.set_cons_succ, Option.some.injEq, decide_eq_true_eq, Bool.not_eq_true', decide_eq_false_iff_not, ite_true, ite_false, if_true, if_false, reduceIte, Bool.false_eq_true, Bool.not_true, Bool.not_false, Bool.true_eq_false, decide_true, decide_false, Nat.reduceLeDiff, Nat.reduceLT, ln]
  refine Sat.imp (pick_pos hs (n := (xs.length : Nat)) (by omega) (by omega)) fun d A1 ⟨⟨v, e, v0, v1⟩, D1⟩ => ?_
  subst e
  have h := D1.keep _ _ rs h
  have lt : v.toNat < xs.length := by omega
  rw [ev_ix_r (rdL_l h) (by rw [atI_pos v0, List.getElem?_eq_getElem lt])]
  exact ⟨List.getElem_mem lt, D1⟩
theorem one_d {A : AH} {s : Nat} {xs : List D} (hs : Sr s A) (ne : xs ≠ []) (few : xs.length ≤ 1000) : Sat (m__law_one [.ref s, .ref A.length] (A ++ [AO.lst xs])) fun d B => d ∈ xs ∧ Dr s A B := by
  have sl := hs.lt
  have D1 := Dr.app hs [AO.lst xs]
  exact Sat.imp (one_l D1.src (by omega) at_new ne few) fun d B ⟨h, dr⟩ => ⟨h, D1.trans dr⟩
theorem one_t {A : AH} {s : Nat} {xs : List D} (hs : Sr s A) (ne : xs ≠ []) (few : xs.length ≤ 1000) : DrwS s A (m__law_one [.ref s, .tup xs] A) fun d => d ∈ xs := by
  have pos := List.length_pos_iff.mpr ne
  refine sat_body rfl ?_
  unfold p__law_one
  simp only [EV, Ab.isNon, args, List.map, List.length_cons, List.length_nil, List.length_singleton, List.replicate, Nat.reduceSub, Nat.reduceAdd, Nat.zero_add, List.cons_append, List.nil_append, List.getElem?_cons_zero, List.getElem?_cons_succ, List.set_cons_zero, List.set_cons_succ, Option.some.injEq, decide_eq_true_eq, Bool.not_eq_true', decide_eq_false_iff_not, ite_true, ite_false, if_true, if_false, reduceIte, Bool.false_eq_true, Bool.not_true, Bool.not_false, Bool.true_eq_false, decide_true, decide_false, Nat.reduceLeDiff, Nat.reduceLT]
  refine Sat.imp (pick_pos hs (n := (xs.length : Nat)) (by omega) (by omega)) fun d A1 ⟨⟨v, e, v0, v1⟩, D1⟩ => ?_
  subst e
  have lt : v.toNat < xs.length := by omega
  rw [ev_ix_t (by rw [atI_pos v0, List.getElem?_eq_getElem lt])]
  exact ⟨List.getElem_mem lt, D1⟩
end Law

namespace Law
open PySem PySem.Spec PyProof.Rows L2 Ab
open scoped Classical
/-! ### bodies one behind the other; frames of two cells; pieces of lists -/
theorem Bd.app_dats : ∀ a b : Bd, (a.app b).dats = a.dats ++ b.dats
  | .nil, b => rfl
  | .lf d r, b => congrArg (_ :: ·) (r.app_dats b)
  | .brk r, b => congrArg (_ :: ·) (r.app_dats b)
  | .ret _ r, b => congrArg (_ :: ·) (r.app_dats b)
  | .ite _ _ _ r, b => congrArg (_ :: ·) (r.app_dats b)
  | .whl _ _ r, b => congrArg (_ :: ·) (r.app_dats b)
theorem Bd.app_sz : ∀ a b : Bd, (a.app b).sz = a.sz + b.sz
  | .nil, b => (Nat.zero_add _).symm
  | .lf _ r, b => by show (r.app b).sz + 1 = r.sz + 1 + b.sz; rw [r.app_sz b]; omega
  | .brk r, b => by show (r.app b).sz + 1 = r.sz + 1 + b.sz; rw [r.app_sz b]; omega
  | .ret _ r, b => by show (r.app b).sz + 1 = r.sz + 1 + b.sz; rw [r.app_sz b]; omega
  | .ite _ x y r, b => by show x.sz + y.sz + (r.app b).sz + 1 = x.sz + y.sz + r.sz + 1 + b.sz; rw [r.app_sz b]; omega
  | .whl _ x r, b => by show x.sz + (r.app b).sz + 1 = x.sz + r.sz + 1 + b.sz; rw [r.app_sz b]; omega
theorem Bd.app_dep : ∀ (a b : Bd) (n : Nat), a.dep ≤ n → b.dep ≤ n → (a.app b).dep ≤ n
  | .nil, _, _, _, h => h
  | .lf _ r, b, n, h, h' => r.app_dep b n h h'
  | .brk r, b, n, h, h' => r.app_dep b n h h'
  | .ret _ r, b, n, h, h' => r.app_dep b n h h'
  | .ite _ x y r, b, n, h, h' => by
    have h : max (max x.dep y.dep + 1) r.dep ≤ n := h
    have := r.app_dep b n (by omega) h'
    show max (max x.dep y.dep + 1) (r.app b).dep ≤ n; omega
  | .whl _ x r, b, n, h, h' => by
    have h : max (x.dep + 1) r.dep ≤ n := h
    have := r.app_dep b n (by omega) h'
    show max (x.dep + 1) (r.app b).dep ≤ n; omega
theorem Bd.app_ok : ∀ (a b : Bd) (l : Bool), a.ok l → b.ok l → (a.app b).ok l
  | .nil, _, _, _, h => h
  | .lf _ r, b, l, h, h' => ⟨h.1, r.app_ok b l h.2 h'⟩
  | .brk r, b, l, h, h' => ⟨h.1, r.app_ok b l h.2 h'⟩
  | .ret _ r, b, l, h, h' => ⟨h.1, r.app_ok b l h.2 h'⟩
  | .ite _ x y r, b, l, h, h' => ⟨h.1, h.2.1, h.2.2.1, r.app_ok b l h.2.2.2 h'⟩
  | .whl _ x r, b, l, h, h' => ⟨h.1, h.2.1, r.app_ok b l h.2.2 h'⟩
theorem Bd.dats_le : ∀ b : Bd, b.dats.length ≤ b.sz
  | .nil => Nat.le_refl _
  | .lf _ r => Nat.succ_le_succ r.dats_le
  | .brk r => Nat.succ_le_succ r.dats_le
  | .ret _ r => Nat.succ_le_succ r.dats_le
  | .ite _ a b r => by have := r.dats_le; show r.dats.length + 1 ≤ a.sz + b.sz + r.sz + 1; omega
  | .whl _ a r => by have := r.dats_le; show r.dats.length + 1 ≤ a.sz + r.sz + 1; omega
/-- all cells but two are as they were -/
structure Dw (s w : Nat) (A A' : AH) : Prop where
  le : A.length ≤ A'.length
  keep : ∀ i o, i ≠ s → i ≠ w → A[i]? = some o → A'[i]? = some o
section
variable {s w : Nat} {A B C : AH}
theorem Dw.refl : Dw s w A A := ⟨Nat.le_refl _, fun _ _ _ _ h => h⟩
theorem Dw.trans (h : Dw s w A B) (h' : Dw s w B C) : Dw s w A C := ⟨Nat.le_trans h.le h'.le, fun i o a b e => h'.keep i o a b (h.keep i o a b e)⟩
theorem dr_dw (h : Dr s A B) : Dw s w A B := ⟨h.le, fun i o a _ e => h.keep i o a e⟩
theorem Dw.set (h : Dw s w A B) {o : AO} : Dw s w A (B.set w o) := ⟨by simpa using h.le, fun i o' a b e => by rw [List.getElem?_set_ne (Ne.symm b)]; exact h.keep i o' a b e⟩
end
theorem cut_hd {α : Type} {xs : List α} {k : Nat} : cutL xs none (some (k : Nat)) = xs.take k := by
  unfold cutL
  show (xs.drop 0).take (min k xs.length - 0) = _
  rw [List.drop_zero, Nat.sub_zero]
  rcases Nat.le_total k xs.length with h | h
  · rw [Nat.min_eq_left h]
  · rw [Nat.min_eq_right h, List.take_length, List.take_of_length_le h]
theorem cut_tl {α : Type} {xs : List α} {k : Nat} : cutL xs (some (k : Nat)) none = xs.drop k := by
  unfold cutL
  show (xs.drop (min k xs.length)).take (xs.length - min k xs.length) = _
  rcases Nat.le_total k xs.length with h | h
  · rw [Nat.min_eq_left h, List.take_of_length_le (by rw [List.length_drop]; omega)]
  · rw [Nat.min_eq_right h, List.drop_length, List.take_nil, List.drop_of_length_le h]
theorem cut_mem {α : Type} {xs : List α} {lo hi : Option Int} {x : α} (h : x ∈ cutL xs lo hi) : x ∈ xs := by
  unfold cutL at h
  exact List.mem_of_mem_drop (List.mem_of_mem_take h)
end Law

namespace Law
open PySem PySem.Spec PyProof.Rows L2 Ab
open scoped Classical
/-! ### what is due of a layout -/
/-- a list's display with a test; the item is made where the test holds -/
theorem comp_filterI {α : Type} {ok : AH → Prop} {g : FG} {t : FT} {f : FE} {s : ASt} {A : AH} {P : D → AH → Prop} {qs : List α} (c F : α → D) (b : α → Bool)
    (hok : ∀ l, ok (A ++ [.lst l])) (hf : ∀ q ∈ qs, ∀ l, Sat (g (c q) s (A ++ [.lst l])) fun s1 A1 => Sat (t s1 A1) fun bb A2 => bb = b q ∧ A2 = A ++ [.lst l] ∧ (b q = true → Sat (f s1 (A ++ [.lst l])) fun y A3 => y = F q ∧ A3 = A ++ [.lst l])) (hl : qs.length ≤ 1000000)
    (hP : P (.ref A.length) (A ++ [.lst ((qs.filter b).map F)])) : Sat (loopC ok g t f A.length s (qs.map c) (A ++ [.lst []])) P := by
  refine comp_inv (fun rest acc B => B = A ++ [.lst acc] ∧ ∃ pre post, qs = pre ++ post ∧ rest = post.map c ∧ acc = (pre.filter b).map F) (fun d rest acc B ⟨hB, pre, post, h1, h0, h2⟩ => ?_) (fun acc B ⟨hB, pre, post, h1, h0, h2⟩ => ?_) _ [] _ ⟨rfl, [], qs, rfl, rfl, rfl⟩
  · subst hB
    cases post with
    | nil => cases h0
    | cons q post =>
      rw [List.map_cons, List.cons.injEq] at h0
      obtain ⟨e1, e2⟩ := h0
      subst e1; subst e2
      refine ⟨hok acc, Sat.imp (hf q (by rw [h1]; simp) acc) fun s1 A1 h3 => Sat.imp h3 fun bb A2 ⟨h4, h5, h6⟩ => ?_⟩
      subst h5; subst h4
      split
      · rename_i hb
        refine Sat.imp (h6 hb) fun y A3 ⟨h4, h5⟩ => ?_
        subst h4; subst h5
        refine ⟨at_new, ?_, ?_, pre ++ [q], post, by rw [h1]; simp, rfl, by rw [h2, List.filter_append, List.filter_cons_of_pos hb]; simp⟩
        · have : qs.length = pre.length + (post.length + 1) := by rw [h1]; simp
          have e : acc.length ≤ pre.length := by rw [h2, List.length_map]; exact List.length_filter_le ..
          refine Nat.lt_of_lt_of_le (show acc.length < 1000000 by omega) (by decide)
        · rw [List.set_append_right _ _ (Nat.le_refl _), Nat.sub_self]; rfl
      · rename_i hb
        exact ⟨rfl, pre ++ [q], post, by rw [h1]; simp, rfl, by rw [h2, List.filter_append, List.filter_cons_of_neg hb]; simp⟩
  · subst hB
    cases post with
    | cons q post => cases h0
    | nil =>
      rw [List.append_nil] at h1
      subst h1; subst h2
      exact ⟨hok _, hP⟩
theorem llarge_spec {A : AH} {k : Ki} : m__law_is_large [k.d] A = .ok (.bl (big k)) A := by
  have key : Sat (m__law_is_large [k.d] A) fun d A' => d = .bl (big k) ∧ A' = A := by
    refine sat_body rfl ?_
    unfold p__law_is_large
    cases k with
    | flag => simp (decide := true) only [Ki.d, EV, Ab.isNon, args, List.map, List.length_cons, List.length_nil, List.length_singleton, List.replicate, Nat.reduceSub, Nat.reduceAdd, Nat.zero_add, List.cons_append, List.nil_append, List.getElem?_cons_zero, List.getElem?_cons_succ, List.set_cons_zero, List.set_cons_succ, Option.some.injEq, decide_eq_true_eq, Bool.not_eq_true', decide_eq_false_iff_not, ite_true, ite_false, if_true, if_false, reduceIte, Bool.false_eq_true, Bool.not_true, Bool.not_false, Bool.true_eq_false, decide_true, decide_false, Nat.reduceLeDiff, Nat.reduceLT, ixa, big]; try exact ⟨trivial, trivial⟩
    | num lo hi => simp (decide := true) only [Ki.d, EV, Ab.isNon, args, List.map, List.length_cons, List.length_nil, List.length_singleton, List.replicate, Nat.reduceSub, Nat.reduceAdd, Nat.zero_add, List.cons_append, List.nil_append, List.getElem?_cons_zero, List.getElem?_cons_succ, List.set_cons_zero, List.set_cons_succ, Option.some.injEq, decide_eq_true_eq, Bool.not_eq_true', decide_eq_false_iff_not, ite_true, ite_false, if_true, if_false, reduceIte, Bool.false_eq_true, Bool.not_true, Bool.not_false, Bool.true_eq_false, decide_true, decide_false, Nat.reduceLeDiff, Nat.reduceLT, ixa, ixb, ixc, big]; try exact ⟨trivial, trivial⟩
    | rf x => simp (decide := true) only [Ki.d, EV, Ab.isNon, args, List.map, List.length_cons, List.length_nil, List.length_singleton, List.replicate, Nat.reduceSub, Nat.reduceAdd, Nat.zero_add, List.cons_append, List.nil_append, List.getElem?_cons_zero, List.getElem?_cons_succ, List.set_cons_zero, List.set_cons_succ, Option.some.injEq, decide_eq_true_eq, Bool.not_eq_true', decide_eq_false_iff_not, ite_true, ite_false, if_true, if_false, reduceIte, Bool.false_eq_true, Bool.not_true, Bool.not_false, Bool.true_eq_false, decide_true, decide_false, Nat.reduceLeDiff, Nat.reduceLT, ixa, big]; try exact ⟨trivial, trivial⟩
  obtain ⟨d, A', e, rfl, rfl⟩ := key.eq
  exact e
theorem iq_f {ps : List Pr} {B : AH} : iSeq (fldsD ps) B = .ok ⟨ps.map fldD, yes⟩ B := rfl
theorem f_0 {q : Pr} {A : AH} : ixD (fldD q) (.int 0) A = .ok (.str q.1) A := ixa
theorem f_1 {q : Pr} {A : AH} : ixD (fldD q) (.int 1) A = .ok q.2.d A := ixb
theorem someN_spec {A : AH} {ps : List Pr} {b : Bool} (few : ps.length ≤ 100000) : Sat (m__law_some_names [fldsD ps, .bl b] A) fun d A' => Gr A A' ∧ d = .tup (nmsD (ps.filter fun p => decide (big p.2 = b))) := by
  refine sat_body rfl ?_
  unfold p__law_some_names
  simp only [EV, Ab.isNon, args, List.map, List.length_cons, List.length_nil, List.length_singleton, List.replicate, Nat.reduceSub, Nat.reduceAdd, Nat.zero_add, List.cons_append, List.nil_append, List.getElem?_cons_zero, List.getElem?_cons_succ, List.set_cons_zero, List.set_cons_succ, Option.some.injEq, decide_eq_true_eq, Bool.not_eq_true', decide_eq_false_iff_not, ite_true, ite_false, if_true, if_false, reduceIte, Bool.false_eq_true, Bool.not_true, Bool.not_false, Bool.true_eq_false, decide_true, decide_false, Nat.reduceLeDiff, Nat.reduceLT, iq_f, wipeA]
  refine comp_filter fldD (fun p : Pr => .str p.1) (fun p => decide (big p.2 = b)) (fun _ => trivial) (fun q hq l => ?_) (by omega) ?_
  · simp only [EV, Ab.isNon, args, List.map, List.length_cons, List.length_nil, List.length_singleton, List.replicate, Nat.reduceSub, Nat.reduceAdd, Nat.zero_add, List.cons_append, List.nil_append, List.getElem?_cons_zero, List.getElem?_cons_succ, List.set_cons_zero, List.set_cons_succ, Option.some.injEq, decide_eq_true_eq, Bool.not_eq_true', decide_eq_false_iff_not, ite_true, ite_false, if_true, if_false, reduceIte, Bool.false_eq_true, Bool.not_true, Bool.not_false, Bool.true_eq_false, decide_true, decide_false, Nat.reduceLeDiff, Nat.reduceLT, f_0, f_1, llarge_spec]
    exact ⟨trivial, trivial, trivial, trivial⟩
  · rw [ev_tup_ofL (rdL_l at_new)]
    exact ⟨.app, rfl⟩
theorem fl_t {ps : List Pr} : (ps.filter fun p => decide (big p.2 = true)) = lgN ps := List.filter_congr fun q _ => by cases big q.2 <;> rfl
theorem fl_f {ps : List Pr} : (ps.filter fun p => decide (big p.2 = false)) = smN ps := List.filter_congr fun q _ => by cases big q.2 <;> rfl
theorem someR_spec {A : AH} {ps : List Pr} (few : ps.length ≤ 100000) : Sat (m__law_some_ranges [fldsD ps] A) fun d A' => Gr A A' ∧ d = .tup ((lgN ps).map fun q => rgD1 q.2) := by
  refine sat_body rfl ?_
  unfold p__law_some_ranges
  simp only [EV, Ab.isNon, args, List.map, List.length_cons, List.length_nil, List.length_singleton, List.replicate, Nat.reduceSub, Nat.reduceAdd, Nat.zero_add, List.cons_append, List.nil_append, List.getElem?_cons_zero, List.getElem?_cons_succ, List.set_cons_zero, List.set_cons_succ, Option.some.injEq, decide_eq_true_eq, Bool.not_eq_true', decide_eq_false_iff_not, ite_true, ite_false, if_true, if_false, reduceIte, Bool.false_eq_true, Bool.not_true, Bool.not_false, Bool.true_eq_false, decide_true, decide_false, Nat.reduceLeDiff, Nat.reduceLT, iq_f, wipeA]
  refine comp_filterI fldD (fun q : Pr => rgD1 q.2) (fun p => big p.2) (fun _ => trivial) (fun q hq l => ?_) (by omega) ?_
  · simp only [EV, Ab.isNon, args, List.map, List.length_cons, List.length_nil, List.length_singleton, List.replicate, Nat.reduceSub, Nat.reduceAdd, Nat.zero_add, List.cons_append, List.nil_append, List.getElem?_cons_zero, List.getElem?_cons_succ, List.set_cons_zero, List.set_cons_succ, Option.some.injEq, decide_eq_true_eq, Bool.not_eq_true', decide_eq_false_iff_not, ite_true, ite_false, if_true, if_false, reduceIte, Bool.false_eq_true, Bool.not_true, Bool.not_false, Bool.true_eq_false, decide_true, decide_false, Nat.reduceLeDiff, Nat.reduceLT, f_1, llarge_spec]
    refine ⟨trivial, trivial, fun hb => ?_⟩
    obtain ⟨x, k⟩ := q
    cases k with
    | num lo hi =>
      simp only [Ki.d, ixb, ixc, EV, Ab.isNon, args, List.map, List.length_cons, List.length_nil, List.length_singleton, List.replicate, Nat.reduceSub, Nat.reduceAdd, Nat.zero_add, List.cons_append, List.nil_append, List.getElem?_cons_zero, List.getElem?_cons_succ, List.set_cons_zero, List.set_cons_succ, Option.some.injEq, decide_eq_true_eq, Bool.not_eq_true', decide_eq_false_iff_not, ite_true, ite_false, if_true, if_false, reduceIte, Bool.false_eq_true, Bool.not_true, Bool.not_false, Bool.true_eq_false, decide_true, decide_false, Nat.reduceLeDiff, Nat.reduceLT]
      exact ⟨rfl, trivial⟩
    | flag => cases hb
    | rf y => cases hb
  · rw [ev_tup_ofL (rdL_l at_new)]
    exact ⟨.app, rfl⟩
/-- plain bodies, with small leaves -/
def Bd.sm : Bd → Prop
  | .nil => True
  | .lf d r => Pl 2 d ∧ r.sm
  | .brk r => r.sm
  | .ret x r => Pl 1 x ∧ r.sm
  | .ite t a b r => Pl 1 t ∧ a.sm ∧ b.sm ∧ r.sm
  | .whl t a r => Pl 1 t ∧ a.sm ∧ r.sm
theorem Bd.app_sm : ∀ (a b : Bd), a.sm → b.sm → (a.app b).sm
  | .nil, _, _, h => h
  | .lf d r, b, h, h' => ⟨h.1, r.app_sm b h.2 h'⟩
  | .brk r, b, h, h' => r.app_sm b h h'
  | .ret _ r, b, h, h' => ⟨h.1, r.app_sm b h.2 h'⟩
  | .ite _ x y r, b, h, h' => ⟨h.1, h.2.1, h.2.2.1, r.app_sm b h.2.2.2 h'⟩
  | .whl _ x r, b, h, h' => ⟨h.1, h.2.1, r.app_sm b h.2.2 h'⟩
theorem Bd.pl : ∀ (b : Bd) (n : Nat), b.sm → b.sz ≤ 1000 → 2 * b.dep + 2 ≤ n → ∀ d ∈ b.dats, Pl n d
  | .nil, n, _, _, _, d, h => by cases h
  | .lf x r, n, s, z, l, d, h => by
    rcases List.mem_cons.mp h with rfl | h
    · exact pl_le s.1 (by omega)
    · exact r.pl n s.2 (by have z : r.sz + 1 ≤ 1000 := z; omega) l d h
  | .brk r, n, s, z, l, d, h => by
    rcases List.mem_cons.mp h with rfl | h
    · exact pl_le (pl1 (n := 0) pl_s) (by omega)
    · exact r.pl n s (by have z : r.sz + 1 ≤ 1000 := z; omega) l d h
  | .ret x r, n, s, z, l, d, h => by
    rcases List.mem_cons.mp h with rfl | h
    · exact pl_le (pl2 (n := 1) pl_s s.1) (by omega)
    · exact r.pl n s.2 (by have z : r.sz + 1 ≤ 1000 := z; omega) l d h
  | .ite t a b r, n, s, z, l, d, h => by
    have z : a.sz + b.sz + r.sz + 1 ≤ 1000 := z
    have l : 2 * max (max a.dep b.dep + 1) r.dep + 2 ≤ n := l
    rcases List.mem_cons.mp h with rfl | h
    · obtain ⟨m, rfl⟩ : ∃ m, n = m + 1 := ⟨n - 1, by omega⟩
      obtain ⟨k, rfl⟩ : ∃ k, m = k + 1 := ⟨m - 1, by omega⟩
      have la := a.dats_le
      have lb := b.dats_le
      exact pl4 pl_s (pl_le s.1 (by omega)) ⟨by omega, a.pl k s.2.1 (by omega) (by omega)⟩ ⟨by omega, b.pl k s.2.2.1 (by omega) (by omega)⟩
    · exact r.pl n s.2.2.2 (by omega) (by omega) d h
  | .whl t a r, n, s, z, l, d, h => by
    have z : a.sz + r.sz + 1 ≤ 1000 := z
    have l : 2 * max (a.dep + 1) r.dep + 2 ≤ n := l
    rcases List.mem_cons.mp h with rfl | h
    · obtain ⟨m, rfl⟩ : ∃ m, n = m + 1 := ⟨n - 1, by omega⟩
      obtain ⟨k, rfl⟩ : ∃ k, m = k + 1 := ⟨m - 1, by omega⟩
      have la := a.dats_le
      exact pl3 pl_s (pl_le s.1 (by omega)) ⟨by omega, a.pl k s.2.1 (by omega) (by omega)⟩
    · exact r.pl n s.2.2 (by omega) (by omega) d h
theorem pl_ki {k : Ki} {n : Nat} : Pl (n + 1) k.d := by
  cases k with
  | flag => exact pl1 pl_s
  | num lo hi => exact pl3 pl_s pl_i pl_i
  | rf x => exact pl2 pl_s pl_s
theorem pl_fld {q : Pr} {n : Nat} : Pl (n + 2) (fldD q) := pl2 pl_s pl_ki
theorem pl_flds {ps : List Pr} {n : Nat} (few : ps.length ≤ 1000) : Pl (n + 3) (fldsD ps) := ⟨by rw [List.length_map]; omega, fun d hd => by
  obtain ⟨q, hq, rfl⟩ := List.mem_map.mp hd
  exact pl_fld⟩
theorem pl_res {r : Option Ki} {n : Nat} : Pl (n + 1) (resD r) := by
  cases r with
  | none => exact pl_n
  | some k => exact pl_ki
theorem pl_fn {p : Pg} {f : Fn} (ok : Fok p f) (sm : f.b.sm) (dp : f.b.dep ≤ 5) : Pl 14 f.d := by
  have few := ok.few
  unfold Fn.vis at few
  simp at few
  have bs := ok.bs
  have := f.b.dats_le
  refine ⟨by simp, fun d hd => ?_⟩
  simp only [List.mem_cons, List.not_mem_nil, or_false] at hd
  rcases hd with rfl | rfl | rfl | rfl | rfl
  · exact pl_s
  · exact pl_flds (by omega)
  · exact pl_res
  · exact pl_flds (by omega)
  · exact ⟨by omega, f.b.pl 12 sm (by omega) (by omega)⟩
structure Pok (p : Pg) : Prop where
  fns : ∀ f ∈ p.fns, Fok p f ∧ f.b.sm ∧ f.b.dep ≤ 5
  ff : p.fns.length ≤ 100
  gl : p.gl.length ≤ 900
  rfew : p.recs.length ≤ 900
  rf2 : ∀ k ∈ p.recs, k.fs.length ≤ 900
  afew : p.arrs.length ≤ 900
theorem pl_pg {p : Pg} (ok : Pok p) : Pl 19 p.d := by
  refine pl_le (n := 16) ⟨by simp, fun d hd => ?_⟩ (by decide)
  simp only [List.mem_cons, List.not_mem_nil, or_false] at hd
  have h1 := ok.rfew
  have h2 := ok.afew
  have h3 := ok.ff
  rcases hd with rfl | rfl | rfl | rfl
  · refine ⟨by rw [List.length_map]; omega, fun d hd => ?_⟩
    obtain ⟨k, hk, rfl⟩ := List.mem_map.mp hd
    exact pl2 pl_s (pl_flds (by have := ok.rf2 k hk; omega))
  · refine ⟨by rw [List.length_map]; omega, fun d hd => ?_⟩
    obtain ⟨k, hk, rfl⟩ := List.mem_map.mp hd
    exact pl4 pl_s pl_i pl_i pl_i
  · exact pl_flds (by have := ok.gl; omega)
  · refine ⟨by rw [List.length_map]; omega, fun d hd => ?_⟩
    obtain ⟨f, hf, rfl⟩ := List.mem_map.mp hd
    obtain ⟨a, b, c⟩ := ok.fns f hf
    exact pl_fn a b c
/-- the law's count of statements -/
theorem count_spec : ∀ (m : Nat) (b : Bd) (l : Bool) (A : AH), b.ok l → b.dep < m → m__law_count m [.tup b.dats] A = .ok (.int (b.sz : Nat)) A := by
  intro m
  induction m with
  | zero => intro b l A _ h; omega
  | succ m ih =>
    intro b l A ok dp
    have key : Sat (m__law_count (m + 1) [.tup b.dats] A) fun d A' => d = .int (b.sz : Nat) ∧ A' = A := by
      refine sat_body rfl (sat_seq ?_)
      simp only [EV, Ab.isNon, args, List.map, List.length_cons, List.length_nil, List.length_singleton, List.replicate, Nat.reduceSub, Nat.reduceAdd, Nat.zero_add, List.cons_append, List.nil_append, List.getElem?_cons_zero, List.getElem?_cons_succ, List.set_cons_zero, List.set_cons_succ, Option.some.injEq, decide_eq_true_eq, Bool.not_eq_true', decide_eq_false_iff_not, ite_true, ite_false, if_true, if_false, reduceIte, Bool.false_eq_true, Bool.not_true, Bool.not_false, Bool.true_eq_false, decide_true, decide_false, Nat.reduceLeDiff, Nat.reduceLT]
      refine sat_seq ?_
      simp only [EV, Ab.isNon, args, List.map, List.length_cons, List.length_nil, List.length_singleton, List.replicate, Nat.reduceSub, Nat.reduceAdd, Nat.zero_add, List.cons_append, List.nil_append, List.getElem?_cons_zero, List.getElem?_cons_succ, List.set_cons_zero, List.set_cons_succ, Option.some.injEq, decide_eq_true_eq, Bool.not_eq_true', decide_eq_false_iff_not, ite_true, ite_false, if_true, if_false, reduceIte, Bool.false_eq_true, Bool.not_true, Bool.not_false, Bool.true_eq_false, decide_true, decide_false, Nat.reduceLeDiff, Nat.reduceLT, ev_iseq_t]
      refine loop_inv (fun es σ B => B = A ∧ ∃ rest : Bd, es = rest.dats ∧ rest.ok l ∧ rest.dep < m + 1 ∧ ∃ n : Nat, n + rest.sz = b.sz ∧ ∃ x2, σ = [some (.tup b.dats), some (.int (n : Nat)), x2])
        (fun e es σ B ⟨eB, rest, e1, ro, rd, n, en, x2, hσ⟩ => ⟨trivial, ?_⟩) (fun σ B ⟨eB, rest, e1, ro, rd, n, en, x2, hσ⟩ => ⟨trivial, ?_⟩) _ _ _ ⟨rfl, b, rfl, ok, dp, 0, by omega, none, rfl⟩
      · subst hσ; subst eB
        have one : ∀ n : Nat, ((n : Nat) : Int) + 1 = ((n + 1 : Nat) : Int) := fun n => by omega
        have two : ∀ n k : Nat, ((n : Nat) : Int) + ((k : Nat) : Int) = ((n + k : Nat) : Int) := fun n k => by omega
        cases rest with
        | nil => cases e1
        | lf d r =>
          rw [show (Bd.lf d r).dats = d :: r.dats from rfl, List.cons.injEq] at e1
          obtain ⟨e1, e2⟩ := e1
          subst e1; subst e2
          obtain ⟨⟨w, ds, e, h1, h2, h3, h4, h5⟩, ro⟩ := ro
          subst e
          have en : n + (r.sz + 1) = b.sz := en
          simp only [EV, Ab.isNon, args, List.map, List.length_cons, List.length_nil, List.length_singleton, List.replicate, Nat.reduceSub, Nat.reduceAdd, Nat.zero_add, List.cons_append, List.nil_append, List.getElem?_cons_zero, List.getElem?_cons_succ, List.set_cons_zero, List.set_cons_succ, Option.some.injEq, decide_eq_true_eq, Bool.not_eq_true', decide_eq_false_iff_not, ite_true, ite_false, if_true, if_false, reduceIte, Bool.false_eq_true, Bool.not_true, Bool.not_false, Bool.true_eq_false, decide_true, decide_false, Nat.reduceLeDiff, Nat.reduceLT]
          refine sat_seq ?_
          simp only [EV, Ab.isNon, args, List.map, List.length_cons, List.length_nil, List.length_singleton, List.replicate, Nat.reduceSub, Nat.reduceAdd, Nat.zero_add, List.cons_append, List.nil_append, List.getElem?_cons_zero, List.getElem?_cons_succ, List.set_cons_zero, List.set_cons_succ, Option.some.injEq, decide_eq_true_eq, Bool.not_eq_true', decide_eq_false_iff_not, ite_true, ite_false, if_true, if_false, reduceIte, Bool.false_eq_true, Bool.not_true, Bool.not_false, Bool.true_eq_false, decide_true, decide_false, Nat.reduceLeDiff, Nat.reduceLT]
          refine sat_seq ?_
          simp only [EV, Ab.isNon, args, List.map, List.length_cons, List.length_nil, List.length_singleton, List.replicate, Nat.reduceSub, Nat.reduceAdd, Nat.zero_add, List.cons_append, List.nil_append, List.getElem?_cons_zero, List.getElem?_cons_succ, List.set_cons_zero, List.set_cons_succ, Option.some.injEq, decide_eq_true_eq, Bool.not_eq_true', decide_eq_false_iff_not, ite_true, ite_false, if_true, if_false, reduceIte, Bool.false_eq_true, Bool.not_true, Bool.not_false, Bool.true_eq_false, decide_true, decide_false, Nat.reduceLeDiff, Nat.reduceLT, ixa, h1, h2]
          simp only [EV, Ab.isNon, args, List.map, List.length_cons, List.length_nil, List.length_singleton, List.replicate, Nat.reduceSub, Nat.reduceAdd, Nat.zero_add, List.cons_append, List.nil_append, List.getElem?_cons_zero, List.getElem?_cons_succ, List.set_cons_zero, List.set_cons_succ, Option.some.injEq, decide_eq_true_eq, Bool.not_eq_true', decide_eq_false_iff_not, ite_true, ite_false, if_true, if_false, reduceIte, Bool.false_eq_true, Bool.not_true, Bool.not_false, Bool.true_eq_false, decide_true, decide_false, Nat.reduceLeDiff, Nat.reduceLT, ixa, h1, turn_]
          exact ⟨trivial, r, rfl, ro, rd, n + 1, by omega, _, by rw [one]⟩
        | brk r =>
          rw [show (Bd.brk r).dats = .tup [.str "break"] :: r.dats from rfl, List.cons.injEq] at e1
          obtain ⟨e1, e2⟩ := e1
          subst e1; subst e2
          have en : n + (r.sz + 1) = b.sz := en
          simp only [EV, Ab.isNon, args, List.map, List.length_cons, List.length_nil, List.length_singleton, List.replicate, Nat.reduceSub, Nat.reduceAdd, Nat.zero_add, List.cons_append, List.nil_append, List.getElem?_cons_zero, List.getElem?_cons_succ, List.set_cons_zero, List.set_cons_succ, Option.some.injEq, decide_eq_true_eq, Bool.not_eq_true', decide_eq_false_iff_not, ite_true, ite_false, if_true, if_false, reduceIte, Bool.false_eq_true, Bool.not_true, Bool.not_false, Bool.true_eq_false, decide_true, decide_false, Nat.reduceLeDiff, Nat.reduceLT]
          refine sat_seq ?_
          simp only [EV, Ab.isNon, args, List.map, List.length_cons, List.length_nil, List.length_singleton, List.replicate, Nat.reduceSub, Nat.reduceAdd, Nat.zero_add, List.cons_append, List.nil_append, List.getElem?_cons_zero, List.getElem?_cons_succ, List.set_cons_zero, List.set_cons_succ, Option.some.injEq, decide_eq_true_eq, Bool.not_eq_true', decide_eq_false_iff_not, ite_true, ite_false, if_true, if_false, reduceIte, Bool.false_eq_true, Bool.not_true, Bool.not_false, Bool.true_eq_false, decide_true, decide_false, Nat.reduceLeDiff, Nat.reduceLT]
          refine sat_seq ?_
          simp (decide := true) only [EV, Ab.isNon, args, List.map, List.length_cons, List.length_nil, List.length_singleton, List.replicate, Nat.reduceSub, Nat.reduceAdd, Nat.zero_add, List.cons_append, List.nil_append, List.getElem?_cons_zero, List.getElem?_cons_succ, List.set_cons_zero, List.set_cons_succ, Option.some.injEq, decide_eq_true_eq, Bool.not_eq_true', decide_eq_false_iff_not, ite_true, ite_false, if_true, if_false, reduceIte, Bool.false_eq_true, Bool.not_true, Bool.not_false, Bool.true_eq_false, decide_true, decide_false, Nat.reduceLeDiff, Nat.reduceLT, ixa]
          simp (decide := true) only [EV, Ab.isNon, args, List.map, List.length_cons, List.length_nil, List.length_singleton, List.replicate, Nat.reduceSub, Nat.reduceAdd, Nat.zero_add, List.cons_append, List.nil_append, List.getElem?_cons_zero, List.getElem?_cons_succ, List.set_cons_zero, List.set_cons_succ, Option.some.injEq, decide_eq_true_eq, Bool.not_eq_true', decide_eq_false_iff_not, ite_true, ite_false, if_true, if_false, reduceIte, Bool.false_eq_true, Bool.not_true, Bool.not_false, Bool.true_eq_false, decide_true, decide_false, Nat.reduceLeDiff, Nat.reduceLT, ixa, turn_]
          exact ⟨trivial, r, rfl, ro.2, rd, n + 1, by omega, _, by rw [one]⟩
        | ret x r =>
          rw [show (Bd.ret x r).dats = .tup [.str "return", x] :: r.dats from rfl, List.cons.injEq] at e1
          obtain ⟨e1, e2⟩ := e1
          subst e1; subst e2
          have en : n + (r.sz + 1) = b.sz := en
          simp only [EV, Ab.isNon, args, List.map, List.length_cons, List.length_nil, List.length_singleton, List.replicate, Nat.reduceSub, Nat.reduceAdd, Nat.zero_add, List.cons_append, List.nil_append, List.getElem?_cons_zero, List.getElem?_cons_succ, List.set_cons_zero, List.set_cons_succ, Option.some.injEq, decide_eq_true_eq, Bool.not_eq_true', decide_eq_false_iff_not, ite_true, ite_false, if_true, if_false, reduceIte, Bool.false_eq_true, Bool.not_true, Bool.not_false, Bool.true_eq_false, decide_true, decide_false, Nat.reduceLeDiff, Nat.reduceLT]
          refine sat_seq ?_
          simp only [EV, Ab.isNon, args, List.map, List.length_cons, List.length_nil, List.length_singleton, List.replicate, Nat.reduceSub, Nat.reduceAdd, Nat.zero_add, List.cons_append, List.nil_append, List.getElem?_cons_zero, List.getElem?_cons_succ, List.set_cons_zero, List.set_cons_succ, Option.some.injEq, decide_eq_true_eq, Bool.not_eq_true', decide_eq_false_iff_not, ite_true, ite_false, if_true, if_false, reduceIte, Bool.false_eq_true, Bool.not_true, Bool.not_false, Bool.true_eq_false, decide_true, decide_false, Nat.reduceLeDiff, Nat.reduceLT]
          refine sat_seq ?_
          simp (decide := true) only [EV, Ab.isNon, args, List.map, List.length_cons, List.length_nil, List.length_singleton, List.replicate, Nat.reduceSub, Nat.reduceAdd, Nat.zero_add, List.cons_append, List.nil_append, List.getElem?_cons_zero, List.getElem?_cons_succ, List.set_cons_zero, List.set_cons_succ, Option.some.injEq, decide_eq_true_eq, Bool.not_eq_true', decide_eq_false_iff_not, ite_true, ite_false, if_true, if_false, reduceIte, Bool.false_eq_true, Bool.not_true, Bool.not_false, Bool.true_eq_false, decide_true, decide_false, Nat.reduceLeDiff, Nat.reduceLT, ixa]
          simp (decide := true) only [EV, Ab.isNon, args, List.map, List.length_cons, List.length_nil, List.length_singleton, List.replicate, Nat.reduceSub, Nat.reduceAdd, Nat.zero_add, List.cons_append, List.nil_append, List.getElem?_cons_zero, List.getElem?_cons_succ, List.set_cons_zero, List.set_cons_succ, Option.some.injEq, decide_eq_true_eq, Bool.not_eq_true', decide_eq_false_iff_not, ite_true, ite_false, if_true, if_false, reduceIte, Bool.false_eq_true, Bool.not_true, Bool.not_false, Bool.true_eq_false, decide_true, decide_false, Nat.reduceLeDiff, Nat.reduceLT, ixa, turn_]
          exact ⟨trivial, r, rfl, ro.2, rd, n + 1, by omega, _, by rw [one]⟩
        | ite t a c r =>
          rw [show (Bd.ite t a c r).dats = .tup [.str "if", t, .tup a.dats, .tup c.dats] :: r.dats from rfl, List.cons.injEq] at e1
          obtain ⟨e1, e2⟩ := e1
          subst e1; subst e2
          have en : n + (a.sz + c.sz + r.sz + 1) = b.sz := en
          have rd : max (max a.dep c.dep + 1) r.dep < m + 1 := rd
          have i2 : ∀ A, ixD (.tup [.str "if", t, .tup a.dats, .tup c.dats]) (.int 2) A = .ok (.tup a.dats) A := fun A => ixc
          have i3 : ∀ A, ixD (.tup [.str "if", t, .tup a.dats, .tup c.dats]) (.int 3) A = .ok (.tup c.dats) A := fun A => ev_ix_t (by rw [atI_pos (by decide)]; rfl)
          simp only [EV, Ab.isNon, args, List.map, List.length_cons, List.length_nil, List.length_singleton, List.replicate, Nat.reduceSub, Nat.reduceAdd, Nat.zero_add, List.cons_append, List.nil_append, List.getElem?_cons_zero, List.getElem?_cons_succ, List.set_cons_zero, List.set_cons_succ, Option.some.injEq, decide_eq_true_eq, Bool.not_eq_true', decide_eq_false_iff_not, ite_true, ite_false, if_true, if_false, reduceIte, Bool.false_eq_true, Bool.not_true, Bool.not_false, Bool.true_eq_false, decide_true, decide_false, Nat.reduceLeDiff, Nat.reduceLT]
          refine sat_seq ?_
          simp only [EV, Ab.isNon, args, List.map, List.length_cons, List.length_nil, List.length_singleton, List.replicate, Nat.reduceSub, Nat.reduceAdd, Nat.zero_add, List.cons_append, List.nil_append, List.getElem?_cons_zero, List.getElem?_cons_succ, List.set_cons_zero, List.set_cons_succ, Option.some.injEq, decide_eq_true_eq, Bool.not_eq_true', decide_eq_false_iff_not, ite_true, ite_false, if_true, if_false, reduceIte, Bool.false_eq_true, Bool.not_true, Bool.not_false, Bool.true_eq_false, decide_true, decide_false, Nat.reduceLeDiff, Nat.reduceLT]
          refine sat_seq ?_
          simp (decide := true) only [EV, Ab.isNon, args, List.map, List.length_cons, List.length_nil, List.length_singleton, List.replicate, Nat.reduceSub, Nat.reduceAdd, Nat.zero_add, List.cons_append, List.nil_append, List.getElem?_cons_zero, List.getElem?_cons_succ, List.set_cons_zero, List.set_cons_succ, Option.some.injEq, decide_eq_true_eq, Bool.not_eq_true', decide_eq_false_iff_not, ite_true, ite_false, if_true, if_false, reduceIte, Bool.false_eq_true, Bool.not_true, Bool.not_false, Bool.true_eq_false, decide_true, decide_false, Nat.reduceLeDiff, Nat.reduceLT, ixa, i2, ih a l _ ro.2.1 (by omega)]
          simp (decide := true) only [EV, Ab.isNon, args, List.map, List.length_cons, List.length_nil, List.length_singleton, List.replicate, Nat.reduceSub, Nat.reduceAdd, Nat.zero_add, List.cons_append, List.nil_append, List.getElem?_cons_zero, List.getElem?_cons_succ, List.set_cons_zero, List.set_cons_succ, Option.some.injEq, decide_eq_true_eq, Bool.not_eq_true', decide_eq_false_iff_not, ite_true, ite_false, if_true, if_false, reduceIte, Bool.false_eq_true, Bool.not_true, Bool.not_false, Bool.true_eq_false, decide_true, decide_false, Nat.reduceLeDiff, Nat.reduceLT, ixa, i3, ih c l _ ro.2.2.1 (by omega), turn_]
          exact ⟨trivial, r, rfl, ro.2.2.2, by omega, n + 1 + a.sz + c.sz, by omega, _, by rw [one, two, two]⟩
        | whl t a r =>
          rw [show (Bd.whl t a r).dats = .tup [.str "while", t, .tup a.dats] :: r.dats from rfl, List.cons.injEq] at e1
          obtain ⟨e1, e2⟩ := e1
          subst e1; subst e2
          have en : n + (a.sz + r.sz + 1) = b.sz := en
          have rd : max (a.dep + 1) r.dep < m + 1 := rd
          have i2 : ∀ A, ixD (.tup [.str "while", t, .tup a.dats]) (.int 2) A = .ok (.tup a.dats) A := fun A => ixc
          simp only [EV, Ab.isNon, args, List.map, List.length_cons, List.length_nil, List.length_singleton, List.replicate, Nat.reduceSub, Nat.reduceAdd, Nat.zero_add, List.cons_append, List.nil_append, List.getElem?_cons_zero, List.getElem?_cons_succ, List.set_cons_zero, List.set_cons_succ, Option.some.injEq, decide_eq_true_eq, Bool.not_eq_true', decide_eq_false_iff_not, ite_true, ite_false, if_true, if_false, reduceIte, Bool.false_eq_true, Bool.not_true, Bool.not_false, Bool.true_eq_false, decide_true, decide_false, Nat.reduceLeDiff, Nat.reduceLT]
          refine sat_seq ?_
          simp only [EV, Ab.isNon, args, List.map, List.length_cons, List.length_nil, List.length_singleton, List.replicate, Nat.reduceSub, Nat.reduceAdd, Nat.zero_add, List.cons_append, List.nil_append, List.getElem?_cons_zero, List.getElem?_cons_succ, List.set_cons_zero, List.set_cons_succ, Option.some.injEq, decide_eq_true_eq, Bool.not_eq_true', decide_eq_false_iff_not, ite_true, ite_false, if_true, if_false, reduceIte, Bool.false_eq_true, Bool.not_true, Bool.not_false, Bool.true_eq_false, decide_true, decide_false, Nat.reduceLeDiff, Nat.reduceLT]
          refine sat_seq ?_
          simp (decide := true) only [EV, Ab.isNon, args, List.map, List.length_cons, List.length_nil, List.length_singleton, List.replicate, Nat.reduceSub, Nat.reduceAdd, Nat.zero_add, List.cons_append, List.nil_append, List.getElem?_cons_zero, List.getElem?_cons_succ, List.set_cons_zero, List.set_cons_succ, Option.some.injEq, decide_eq_true_eq, Bool.not_eq_true', decide_eq_false_iff_not, ite_true, ite_false, if_true, if_false, reduceIte, Bool.false_eq_true, Bool.not_true, Bool.not_false, Bool.true_eq_false, decide_true, decide_false, Nat.reduceLeDiff, Nat.reduceLT, ixa, i2, ih a true _ ro.2.1 (by omega)]
          simp (decide := true) only [EV, Ab.isNon, args, List.map, List.length_cons, List.length_nil, List.length_singleton, List.replicate, Nat.reduceSub, Nat.reduceAdd, Nat.zero_add, List.cons_append, List.nil_append, List.getElem?_cons_zero, List.getElem?_cons_succ, List.set_cons_zero, List.set_cons_succ, Option.some.injEq, decide_eq_true_eq, Bool.not_eq_true', decide_eq_false_iff_not, ite_true, ite_false, if_true, if_false, reduceIte, Bool.false_eq_true, Bool.not_true, Bool.not_false, Bool.true_eq_false, decide_true, decide_false, Nat.reduceLeDiff, Nat.reduceLT, ixa, turn_]
          exact ⟨trivial, r, rfl, ro.2.2, by omega, n + 1 + a.sz, by omega, _, by rw [one, two]⟩
      · subst hσ; subst eB
        cases rest with
        | nil =>
          have en : n + 0 = b.sz := en
          simp only [EV, Ab.isNon, args, List.map, List.length_cons, List.length_nil, List.length_singleton, List.replicate, Nat.reduceSub, Nat.reduceAdd, Nat.zero_add, List.cons_append, List.nil_append, List.getElem?_cons_zero, List.getElem?_cons_succ, List.set_cons_zero, List.set_cons_succ, Option.some.injEq, decide_eq_true_eq, Bool.not_eq_true', decide_eq_false_iff_not, ite_true, ite_false, if_true, if_false, reduceIte, Bool.false_eq_true, Bool.not_true, Bool.not_false, Bool.true_eq_false, decide_true, decide_false, Nat.reduceLeDiff, Nat.reduceLT]
          exact ⟨by rw [← en]; rfl, trivial⟩
        | _ => cases e1
    obtain ⟨d, A', e, rfl, rfl⟩ := key.eq
    exact e
/-- what the law wants of a layout -/
def dueD (p : Pg) (f : Fn) : List D := [.str f.nm, resD f.res, .int (f.b.sz : Nat), .tup (nmsD (smN (f.vis p))), .tup (nmsD (lgN (f.vis p))), .tup (nmsD (smN (f.entry p))), .tup (nmsD (lgN (f.entry p))),
  .tup (nmsD (smN (f.ends p))), .tup (nmsD (lgN (f.ends p))), .tup ((lgN (f.vis p) ++ lgN (f.entry p)).map fun q => rgD1 q.2), .tup ((lgN (f.ends p) ++ lgN (f.entry p)).map fun q => rgD1 q.2)]
theorem told_spec {cl : Str → Addr} {A : AH} {i : Nat} {p : Pg} {f : Fn} (h : Lay A (cl "Layout") i p f) : Sat (m__law_told cl [.ref i] A) fun d A' => Gr A A' ∧ d = .tup (dueD p f) := by
  obtain ⟨hs, K, FD, FN, AR, O, _⟩ := h.ex
  refine sat_body rfl (sat_seq ?_)
  have r1 := fun {B} (g : Gr A B) => (O.gr g).read (n := "name") (v := .str f.nm) (by simp [layA, layB])
  have r2 := fun {B} (g : Gr A B) => (O.gr g).read (n := "result") (v := resD f.res) (by simp [layA, layB])
  have r3 := fun {B} (g : Gr A B) => (O.gr g).read (n := "exit") (v := .int (f.b.sz : Nat)) (by simp [layA, layB])
  have r4 := fun {B} (g : Gr A B) => (O.gr g).read (n := "discrete") (v := .tup (nmsD (smN (f.vis p)))) (by simp [layA, layB])
  have r5 := fun {B} (g : Gr A B) => (O.gr g).read (n := "large") (v := .tup (nmsD (lgN (f.vis p)))) (by simp [layA, layB])
  have r6 := fun {B} (g : Gr A B) => (O.gr g).read (n := "entry_discrete") (v := .tup (nmsD (smN (f.entry p)))) (by simp [layA, layB])
  have r7 := fun {B} (g : Gr A B) => (O.gr g).read (n := "entry_large") (v := .tup (nmsD (lgN (f.entry p)))) (by simp [layA, layB])
  have r8 := fun {B} (g : Gr A B) => (O.gr g).read (n := "exit_discrete") (v := .tup (nmsD (smN (f.ends p)))) (by simp [layA, layB])
  have r9 := fun {B} (g : Gr A B) => (O.gr g).read (n := "exit_large") (v := .tup (nmsD (lgN (f.ends p)))) (by simp [layA, layB])
  have ra := fun {B} (g : Gr A B) => (O.gr g).read (n := "ranges") (v := .tup ((lgN (f.vis p) ++ lgN (f.entry p)).map fun q => rgD1 q.2)) (by simp [layA, layB])
  have rb := fun {B} (g : Gr A B) => (O.gr g).read (n := "exit_ranges") (v := .tup ((lgN (f.ends p) ++ lgN (f.entry p)).map fun q => rgD1 q.2)) (by simp [layA, layB])
  simp only [EV, Ab.isNon, args, List.map, List.length_cons, List.length_nil, List.length_singleton, List.replicate, Nat.reduceSub, Nat.reduceAdd, Nat.zero_add, List.cons_append, List.nil_append, List.getElem?_cons_zero, List.getElem?_cons_succ, List.set_cons_zero, List.set_cons_succ, Option.some.injEq, decide_eq_true_eq, Bool.not_eq_true', decide_eq_false_iff_not, ite_true, ite_false, if_true, if_false, reduceIte, Bool.false_eq_true, Bool.not_true, Bool.not_false, Bool.true_eq_false, decide_true, decide_false, Nat.reduceLeDiff, Nat.reduceLT, ev_fld, r1 .refl, r2 .refl, r3 .refl, r4 .refl, r5 .refl, r6 .refl]
  have h1 := at_new (A := A) (o := .lst [.str f.nm, resD f.res, .int (f.b.sz : Nat), .tup (nmsD (smN (f.vis p))), .tup (nmsD (lgN (f.vis p))), .tup (nmsD (smN (f.entry p)))])
  have g1 := Gr.app (A := A) (B := [.lst [.str f.nm, resD f.res, .int (f.b.sz : Nat), .tup (nmsD (smN (f.vis p))), .tup (nmsD (lgN (f.vis p))), .tup (nmsD (smN (f.entry p)))]])
  generalize A ++ [AO.lst [.str f.nm, resD f.res, .int (f.b.sz : Nat), .tup (nmsD (smN (f.vis p))), .tup (nmsD (lgN (f.vis p))), .tup (nmsD (smN (f.entry p)))]] = A1 at *
  refine sat_seq ?_
  simp only [EV, Ab.isNon, args, List.map, List.length_cons, List.length_nil, List.length_singleton, List.replicate, Nat.reduceSub, Nat.reduceAdd, Nat.zero_add, List.cons_append, List.nil_append, List.getElem?_cons_zero, List.getElem?_cons_succ, List.set_cons_zero, List.set_cons_succ, Option.some.injEq, decide_eq_true_eq, Bool.not_eq_true', decide_eq_false_iff_not, ite_true, ite_false, if_true, if_false, reduceIte, Bool.false_eq_true, Bool.not_true, Bool.not_false, Bool.true_eq_false, decide_true, decide_false, Nat.reduceLeDiff, Nat.reduceLT, ev_fld, r7 g1, r8 g1, r9 g1, ra g1, rb g1]
  generalize hx : [D.tup (nmsD (lgN (f.entry p))), .tup (nmsD (smN (f.ends p))), .tup (nmsD (lgN (f.ends p))), .tup ((lgN (f.vis p) ++ lgN (f.entry p)).map fun q => rgD1 q.2), .tup ((lgN (f.ends p) ++ lgN (f.entry p)).map fun q => rgD1 q.2)] = xs at *
  have h2 := at_new (A := A1) (o := .lst xs)
  have g2 := Gr.app (A := A1) (B := [AO.lst xs])
  rw [ev_add_rr (muL_l (g2.keep _ _ h1)) (muL_l h2) (sl_le (by rw [← hx]; simp))]
  try simp only [EV, Ab.isNon, args, List.map, List.length_cons, List.length_nil, List.length_singleton, List.replicate, Nat.reduceSub, Nat.reduceAdd, Nat.zero_add, List.cons_append, List.nil_append, List.getElem?_cons_zero, List.getElem?_cons_succ, List.set_cons_zero, List.set_cons_succ, Option.some.injEq, decide_eq_true_eq, Bool.not_eq_true', decide_eq_false_iff_not, ite_true, ite_false, if_true, if_false, reduceIte, Bool.false_eq_true, Bool.not_true, Bool.not_false, Bool.true_eq_false, decide_true, decide_false, Nat.reduceLeDiff, Nat.reduceLT]
  rw [ev_tup_ofL (rdL_l at_new)]
  subst hx
  exact ⟨(g1.trans g2).trans .app, rfl⟩
theorem dueP_spec {A : AH} {p : Pg} {f : Fn} (ok : Fok p f) : Sat (m__law_due [p.d, f.d] A) fun d A' => Gr A A' ∧ d = .tup (dueD p f) := by
  have lv : p.gl.length + f.ps.length + f.own.length ≤ 900 := by have := ok.few; unfold Fn.vis at this; simp at this; omega
  have le : (f.entry p).length ≤ 900 := by unfold Fn.entry; rw [List.length_append]; omega
  have lz : (f.ends p).length ≤ 901 := by unfold Fn.ends; cases f.res <;> simp <;> omega
  have lw := ok.few
  have ad : ∀ (ps qs : List Pr) B, ps.length + qs.length ≤ 2000 → addD (fldsD ps) (fldsD qs) B = .ok (fldsD (ps ++ qs)) B := fun ps qs B z => (ev_add_tt (sl_le (by rw [List.length_map, List.length_map]; omega))).trans (by unfold fldsD; rw [List.map_append])
  have e1 : p.gl ++ f.ps = f.entry p := rfl
  have e2 : f.entry p ++ f.own = f.vis p := rfl
  refine sat_body rfl (sat_seq ?_)
  simp only [EV, Ab.isNon, args, List.map, List.length_cons, List.length_nil, List.length_singleton, List.replicate, Nat.reduceSub, Nat.reduceAdd, Nat.zero_add, List.cons_append, List.nil_append, List.getElem?_cons_zero, List.getElem?_cons_succ, List.set_cons_zero, List.set_cons_succ, Option.some.injEq, decide_eq_true_eq, Bool.not_eq_true', decide_eq_false_iff_not, ite_true, ite_false, if_true, if_false, reduceIte, Bool.false_eq_true, Bool.not_true, Bool.not_false, Bool.true_eq_false, decide_true, decide_false, Nat.reduceLeDiff, Nat.reduceLT, Pg.i2, Fn.i1, ad p.gl f.ps _ (by omega), e1]
  refine sat_seq ?_
  simp only [EV, Ab.isNon, args, List.map, List.length_cons, List.length_nil, List.length_singleton, List.replicate, Nat.reduceSub, Nat.reduceAdd, Nat.zero_add, List.cons_append, List.nil_append, List.getElem?_cons_zero, List.getElem?_cons_succ, List.set_cons_zero, List.set_cons_succ, Option.some.injEq, decide_eq_true_eq, Bool.not_eq_true', decide_eq_false_iff_not, ite_true, ite_false, if_true, if_false, reduceIte, Bool.false_eq_true, Bool.not_true, Bool.not_false, Bool.true_eq_false, decide_true, decide_false, Nat.reduceLeDiff, Nat.reduceLT, Fn.i3, ad (f.entry p) f.own _ (by omega), e2]
  refine sat_seq ?_
  simp only [EV, Ab.isNon, args, List.map, List.length_cons, List.length_nil, List.length_singleton, List.replicate, Nat.reduceSub, Nat.reduceAdd, Nat.zero_add, List.cons_append, List.nil_append, List.getElem?_cons_zero, List.getElem?_cons_succ, List.set_cons_zero, List.set_cons_succ, Option.some.injEq, decide_eq_true_eq, Bool.not_eq_true', decide_eq_false_iff_not, ite_true, ite_false, if_true, if_false, reduceIte, Bool.false_eq_true, Bool.not_true, Bool.not_false, Bool.true_eq_false, decide_true, decide_false, Nat.reduceLeDiff, Nat.reduceLT, Pg.i2]
  refine sat_mid (fun σ B => B = A ∧ σ = [some p.d, some f.d, some (fldsD (f.entry p)), some (fldsD (f.vis p)), some (fldsD (f.ends p)), none]) ?_ fun σ B ⟨eB, hσ⟩ => ?_
  · cases er : f.res with
    | none =>
      simp only [EV, Ab.isNon, args, List.map, List.length_cons, List.length_nil, List.length_singleton, List.replicate, Nat.reduceSub, Nat.reduceAdd, Nat.zero_add, List.cons_append, List.nil_append, List.getElem?_cons_zero, List.getElem?_cons_succ, List.set_cons_zero, List.set_cons_succ, Option.some.injEq, decide_eq_true_eq, Bool.not_eq_true', decide_eq_false_iff_not, ite_true, ite_false, if_true, if_false, reduceIte, Bool.false_eq_true, Bool.not_true, Bool.not_false, Bool.true_eq_false, decide_true, decide_false, Nat.reduceLeDiff, Nat.reduceLT, Fn.i2, er, resD]
      exact ⟨_, rfl, trivial, by unfold Fn.ends; rw [er, List.append_nil]⟩
    | some k =>
      have ek : D.tup [.tup [.str "result", k.d]] = fldsD [("result", k)] := rfl
      refine sat_ifS (b := true) ?_ (fun _ => ?_) (fun e => by cases e)
      · simp only [EV, Ab.isNon, args, List.map, List.length_cons, List.length_nil, List.length_singleton, List.replicate, Nat.reduceSub, Nat.reduceAdd, Nat.zero_add, List.cons_append, List.nil_append, List.getElem?_cons_zero, List.getElem?_cons_succ, List.set_cons_zero, List.set_cons_succ, Option.some.injEq, decide_eq_true_eq, Bool.not_eq_true', decide_eq_false_iff_not, ite_true, ite_false, if_true, if_false, reduceIte, Bool.false_eq_true, Bool.not_true, Bool.not_false, Bool.true_eq_false, decide_true, decide_false, Nat.reduceLeDiff, Nat.reduceLT, Fn.i2, er, resD]
        cases k <;> rfl
      · simp only [EV, Ab.isNon, args, List.map, List.length_cons, List.length_nil, List.length_singleton, List.replicate, Nat.reduceSub, Nat.reduceAdd, Nat.zero_add, List.cons_append, List.nil_append, List.getElem?_cons_zero, List.getElem?_cons_succ, List.set_cons_zero, List.set_cons_succ, Option.some.injEq, decide_eq_true_eq, Bool.not_eq_true', decide_eq_false_iff_not, ite_true, ite_false, if_true, if_false, reduceIte, Bool.false_eq_true, Bool.not_true, Bool.not_false, Bool.true_eq_false, decide_true, decide_false, Nat.reduceLeDiff, Nat.reduceLT, Fn.i2, er, resD, ek, ad p.gl [("result", k)] _ (by simp; omega)]
        exact ⟨_, rfl, trivial, by unfold Fn.ends; rw [er]⟩
  subst eB; subst hσ
  have ct := fun B => count_spec 20 f.b false B ok.bok (by have := ok.bd; omega)
  refine sat_seq ?_
  simp only [EV, Ab.isNon, args, List.map, List.length_cons, List.length_nil, List.length_singleton, List.replicate, Nat.reduceSub, Nat.reduceAdd, Nat.zero_add, List.cons_append, List.nil_append, List.getElem?_cons_zero, List.getElem?_cons_succ, List.set_cons_zero, List.set_cons_succ, Option.some.injEq, decide_eq_true_eq, Bool.not_eq_true', decide_eq_false_iff_not, ite_true, ite_false, if_true, if_false, reduceIte, Bool.false_eq_true, Bool.not_true, Bool.not_false, Bool.true_eq_false, decide_true, decide_false, Nat.reduceLeDiff, Nat.reduceLT, Fn.i0, Fn.i2, Fn.i4, ct]
  refine Sat.imp (someN_spec (ps := f.vis p) (b := false) (by omega)) fun d B1 ⟨g1, e⟩ => ?_
  subst e
  refine Sat.imp (someN_spec (ps := f.vis p) (b := true) (by omega)) fun d B2 ⟨g2, e⟩ => ?_
  subst e
  rw [fl_f, fl_t]
  try simp only [EV, Ab.isNon, args, List.map, List.length_cons, List.length_nil, List.length_singleton, List.replicate, Nat.reduceSub, Nat.reduceAdd, Nat.zero_add, List.cons_append, List.nil_append, List.getElem?_cons_zero, List.getElem?_cons_succ, List.set_cons_zero, List.set_cons_succ, Option.some.injEq, decide_eq_true_eq, Bool.not_eq_true', decide_eq_false_iff_not, ite_true, ite_false, if_true, if_false, reduceIte, Bool.false_eq_true, Bool.not_true, Bool.not_false, Bool.true_eq_false, decide_true, decide_false, Nat.reduceLeDiff, Nat.reduceLT]
  have G := g1.trans g2
  clear g1 g2
  generalize hx : [D.str f.nm, resD f.res, .int (f.b.sz : Nat), .tup (nmsD (smN (f.vis p))), .tup (nmsD (lgN (f.vis p)))] = xs at *
  have lx : xs.length = 5 := by rw [← hx]; rfl
  have h1 := at_new (A := B2) (o := .lst xs)
  have G := G.trans (Gr.app (B := [AO.lst xs]))
  generalize B2 ++ [AO.lst xs] = B3 at *
  refine sat_seq ?_
  try simp only [EV, Ab.isNon, args, List.map, List.length_cons, List.length_nil, List.length_singleton, List.replicate, Nat.reduceSub, Nat.reduceAdd, Nat.zero_add, List.cons_append, List.nil_append, List.getElem?_cons_zero, List.getElem?_cons_succ, List.set_cons_zero, List.set_cons_succ, Option.some.injEq, decide_eq_true_eq, Bool.not_eq_true', decide_eq_false_iff_not, ite_true, ite_false, if_true, if_false, reduceIte, Bool.false_eq_true, Bool.not_true, Bool.not_false, Bool.true_eq_false, decide_true, decide_false, Nat.reduceLeDiff, Nat.reduceLT]
  refine Sat.imp (someN_spec (ps := f.entry p) (b := false) (by omega)) fun d C1 ⟨g1, e⟩ => ?_
  subst e
  refine Sat.imp (someN_spec (ps := f.entry p) (b := true) (by omega)) fun d C2 ⟨g2, e⟩ => ?_
  subst e
  rw [fl_f, fl_t]
  try simp only [EV, Ab.isNon, args, List.map, List.length_cons, List.length_nil, List.length_singleton, List.replicate, Nat.reduceSub, Nat.reduceAdd, Nat.zero_add, List.cons_append, List.nil_append, List.getElem?_cons_zero, List.getElem?_cons_succ, List.set_cons_zero, List.set_cons_succ, Option.some.injEq, decide_eq_true_eq, Bool.not_eq_true', decide_eq_false_iff_not, ite_true, ite_false, if_true, if_false, reduceIte, Bool.false_eq_true, Bool.not_true, Bool.not_false, Bool.true_eq_false, decide_true, decide_false, Nat.reduceLeDiff, Nat.reduceLT]
  have G := (G.trans g1).trans g2
  have h1 := g2.keep _ _ (g1.keep _ _ h1)
  clear g1 g2
  generalize hy : [D.tup (nmsD (smN (f.entry p))), .tup (nmsD (lgN (f.entry p)))] = ys at *
  have ly : ys.length = 2 := by rw [← hy]; rfl
  have h2 := at_new (A := C2) (o := .lst ys)
  have g3 := Gr.app (A := C2) (B := [AO.lst ys])
  rw [ev_add_rr (muL_l (g3.keep _ _ h1)) (muL_l h2) (sl_le (by omega))]
  try simp only [EV, Ab.isNon, args, List.map, List.length_cons, List.length_nil, List.length_singleton, List.replicate, Nat.reduceSub, Nat.reduceAdd, Nat.zero_add, List.cons_append, List.nil_append, List.getElem?_cons_zero, List.getElem?_cons_succ, List.set_cons_zero, List.set_cons_succ, Option.some.injEq, decide_eq_true_eq, Bool.not_eq_true', decide_eq_false_iff_not, ite_true, ite_false, if_true, if_false, reduceIte, Bool.false_eq_true, Bool.not_true, Bool.not_false, Bool.true_eq_false, decide_true, decide_false, Nat.reduceLeDiff, Nat.reduceLT]
  have h3 := at_new (A := C2 ++ [AO.lst ys]) (o := .lst (xs ++ ys))
  have G := (G.trans g3).trans (Gr.app (B := [AO.lst (xs ++ ys)]))
  clear h1 h2 g3
  generalize C2 ++ [AO.lst ys] ++ [AO.lst (xs ++ ys)] = C3 at *
  generalize (C2 ++ [AO.lst ys]).length = r3 at *
  refine sat_seq ?_
  try simp only [EV, Ab.isNon, args, List.map, List.length_cons, List.length_nil, List.length_singleton, List.replicate, Nat.reduceSub, Nat.reduceAdd, Nat.zero_add, List.cons_append, List.nil_append, List.getElem?_cons_zero, List.getElem?_cons_succ, List.set_cons_zero, List.set_cons_succ, Option.some.injEq, decide_eq_true_eq, Bool.not_eq_true', decide_eq_false_iff_not, ite_true, ite_false, if_true, if_false, reduceIte, Bool.false_eq_true, Bool.not_true, Bool.not_false, Bool.true_eq_false, decide_true, decide_false, Nat.reduceLeDiff, Nat.reduceLT]
  refine Sat.imp (someN_spec (ps := f.ends p) (b := false) (by omega)) fun d C1 ⟨g1, e⟩ => ?_
  subst e
  refine Sat.imp (someN_spec (ps := f.ends p) (b := true) (by omega)) fun d C2 ⟨g2, e⟩ => ?_
  subst e
  rw [fl_f, fl_t]
  try simp only [EV, Ab.isNon, args, List.map, List.length_cons, List.length_nil, List.length_singleton, List.replicate, Nat.reduceSub, Nat.reduceAdd, Nat.zero_add, List.cons_append, List.nil_append, List.getElem?_cons_zero, List.getElem?_cons_succ, List.set_cons_zero, List.set_cons_succ, Option.some.injEq, decide_eq_true_eq, Bool.not_eq_true', decide_eq_false_iff_not, ite_true, ite_false, if_true, if_false, reduceIte, Bool.false_eq_true, Bool.not_true, Bool.not_false, Bool.true_eq_false, decide_true, decide_false, Nat.reduceLeDiff, Nat.reduceLT]
  have G := (G.trans g1).trans g2
  have h3 := g2.keep _ _ (g1.keep _ _ h3)
  clear g1 g2
  generalize hz : [D.tup (nmsD (smN (f.ends p))), .tup (nmsD (lgN (f.ends p)))] = zs at *
  have lz2 : zs.length = 2 := by rw [← hz]; rfl
  have h2 := at_new (A := C2) (o := .lst zs)
  have g3 := Gr.app (A := C2) (B := [AO.lst zs])
  rw [ev_add_rr (muL_l (g3.keep _ _ h3)) (muL_l h2) (sl_le (by rw [List.length_append]; omega))]
  try simp only [EV, Ab.isNon, args, List.map, List.length_cons, List.length_nil, List.length_singleton, List.replicate, Nat.reduceSub, Nat.reduceAdd, Nat.zero_add, List.cons_append, List.nil_append, List.getElem?_cons_zero, List.getElem?_cons_succ, List.set_cons_zero, List.set_cons_succ, Option.some.injEq, decide_eq_true_eq, Bool.not_eq_true', decide_eq_false_iff_not, ite_true, ite_false, if_true, if_false, reduceIte, Bool.false_eq_true, Bool.not_true, Bool.not_false, Bool.true_eq_false, decide_true, decide_false, Nat.reduceLeDiff, Nat.reduceLT]
  have h4 := at_new (A := C2 ++ [AO.lst zs]) (o := .lst (xs ++ ys ++ zs))
  have G := (G.trans g3).trans (Gr.app (B := [AO.lst (xs ++ ys ++ zs)]))
  clear h3 h2 g3
  generalize C2 ++ [AO.lst zs] ++ [AO.lst (xs ++ ys ++ zs)] = C4 at *
  generalize (C2 ++ [AO.lst zs]).length = r4 at *
  have ad2 : ∀ (a b : List Pr) B, a.length + b.length ≤ 4000 → addD (.tup (a.map fun q => rgD1 q.2)) (.tup (b.map fun q => rgD1 q.2)) B = .ok (.tup ((a ++ b).map fun q => rgD1 q.2)) B := fun a b B z => (ev_add_tt (sl_le (by rw [List.length_map, List.length_map]; omega))).trans (by rw [List.map_append])
  have s1 : (lgN (f.vis p)).length ≤ (f.vis p).length := List.length_filter_le ..
  have s2 : (lgN (f.entry p)).length ≤ (f.entry p).length := List.length_filter_le ..
  have s3 : (lgN (f.ends p)).length ≤ (f.ends p).length := List.length_filter_le ..
  refine sat_seq ?_
  try simp only [EV, Ab.isNon, args, List.map, List.length_cons, List.length_nil, List.length_singleton, List.replicate, Nat.reduceSub, Nat.reduceAdd, Nat.zero_add, List.cons_append, List.nil_append, List.getElem?_cons_zero, List.getElem?_cons_succ, List.set_cons_zero, List.set_cons_succ, Option.some.injEq, decide_eq_true_eq, Bool.not_eq_true', decide_eq_false_iff_not, ite_true, ite_false, if_true, if_false, reduceIte, Bool.false_eq_true, Bool.not_true, Bool.not_false, Bool.true_eq_false, decide_true, decide_false, Nat.reduceLeDiff, Nat.reduceLT]
  refine Sat.imp (someR_spec (ps := f.vis p) (by omega)) fun d C1 ⟨g1, e⟩ => ?_
  subst e
  refine Sat.imp (someR_spec (ps := f.entry p) (by omega)) fun d C2 ⟨g2, e⟩ => ?_
  subst e
  rw [ad2 _ _ _ (by omega)]
  try simp only [EV, Ab.isNon, args, List.map, List.length_cons, List.length_nil, List.length_singleton, List.replicate, Nat.reduceSub, Nat.reduceAdd, Nat.zero_add, List.cons_append, List.nil_append, List.getElem?_cons_zero, List.getElem?_cons_succ, List.set_cons_zero, List.set_cons_succ, Option.some.injEq, decide_eq_true_eq, Bool.not_eq_true', decide_eq_false_iff_not, ite_true, ite_false, if_true, if_false, reduceIte, Bool.false_eq_true, Bool.not_true, Bool.not_false, Bool.true_eq_false, decide_true, decide_false, Nat.reduceLeDiff, Nat.reduceLT]
  refine Sat.imp (someR_spec (ps := f.ends p) (by omega)) fun d C5 ⟨g5, e⟩ => ?_
  subst e
  refine Sat.imp (someR_spec (ps := f.entry p) (by omega)) fun d C6 ⟨g6, e⟩ => ?_
  subst e
  rw [ad2 _ _ _ (by omega)]
  try simp only [EV, Ab.isNon, args, List.map, List.length_cons, List.length_nil, List.length_singleton, List.replicate, Nat.reduceSub, Nat.reduceAdd, Nat.zero_add, List.cons_append, List.nil_append, List.getElem?_cons_zero, List.getElem?_cons_succ, List.set_cons_zero, List.set_cons_succ, Option.some.injEq, decide_eq_true_eq, Bool.not_eq_true', decide_eq_false_iff_not, ite_true, ite_false, if_true, if_false, reduceIte, Bool.false_eq_true, Bool.not_true, Bool.not_false, Bool.true_eq_false, decide_true, decide_false, Nat.reduceLeDiff, Nat.reduceLT]
  have G := (((G.trans g1).trans g2).trans g5).trans g6
  have h4 := g6.keep _ _ (g5.keep _ _ (g2.keep _ _ (g1.keep _ _ h4)))
  clear g1 g2 g5 g6
  generalize hu : [D.tup ((lgN (f.vis p) ++ lgN (f.entry p)).map fun q => rgD1 q.2), .tup ((lgN (f.ends p) ++ lgN (f.entry p)).map fun q => rgD1 q.2)] = us at *
  have lu : us.length = 2 := by rw [← hu]; rfl
  have h2 := at_new (A := C6) (o := .lst us)
  have g3 := Gr.app (A := C6) (B := [AO.lst us])
  rw [ev_add_rr (muL_l (g3.keep _ _ h4)) (muL_l h2) (sl_le (by rw [List.length_append, List.length_append]; omega))]
  try simp only [EV, Ab.isNon, args, List.map, List.length_cons, List.length_nil, List.length_singleton, List.replicate, Nat.reduceSub, Nat.reduceAdd, Nat.zero_add, List.cons_append, List.nil_append, List.getElem?_cons_zero, List.getElem?_cons_succ, List.set_cons_zero, List.set_cons_succ, Option.some.injEq, decide_eq_true_eq, Bool.not_eq_true', decide_eq_false_iff_not, ite_true, ite_false, if_true, if_false, reduceIte, Bool.false_eq_true, Bool.not_true, Bool.not_false, Bool.true_eq_false, decide_true, decide_false, Nat.reduceLeDiff, Nat.reduceLT]
  rw [ev_tup_ofL (rdL_l at_new)]
  refine ⟨(G.trans g3).trans .app, ?_⟩
  rw [← hx, ← hy, ← hz, ← hu]; rfl
end Law

namespace Law
open PySem PySem.Spec PyProof.Rows L2 Ab
open scoped Classical
/-! ### the law asks of a layout -/
theorem isi_dict_d {A : AH} {n : Nat} {xs : List (Key × D)} (h : A[n]? = some (.dic xs)) : isiD "dict" (.ref n) A = .ok (.bl true) A := by
  unfold isiD
  rw [show tyN A (.ref n) = some "dict" by simp only [tyN, h]]
  show (match kitB "dict" "dict" with | some b => Res.ok (D.bl b) A | none => .bad) = _
  rw [show kitB "dict" "dict" = some true by decide +kernel]
theorem len_dic {A : AH} {n : Nat} {xs : List (Key × D)} (h : A[n]? = some (.dic xs)) : lenD [.ref n] A = .ok (.int (xs.length : Nat)) A := by
  unfold lenD
  simp only [rdS, rdL, rdM, h]
theorem nin_k {A : AH} {K : Nat} {kvs : List (Key × D)} {x : Str} {v : D} (h : A[K]? = some (.dic kvs)) (hq : getK kvs (.inr x) = some v) : ninD (.str x) (.ref K) A = .ok (.bl false) A := by
  have k : rdK A (.ref K) = some kvs := by simp only [rdK, h]
  have e : inB (.str x) (.ref K) A = some true := by
    simp only [inB, k, Ab.keyOf, hq]; rfl
  unfold ninD
  rw [e]; rfl
theorem pl_due {p : Pg} {f : Fn} (ok : Fok p f) : Pl 6 (.tup (dueD p f)) := by
  have lv : p.gl.length + f.ps.length + f.own.length ≤ 900 := by have := ok.few; unfold Fn.vis at this; simp at this; omega
  have le : (f.entry p).length ≤ 900 := by unfold Fn.entry; rw [List.length_append]; omega
  have lz : (f.ends p).length ≤ 901 := by unfold Fn.ends; cases f.res <;> simp <;> omega
  have lw := ok.few
  have nm : ∀ (ps : List Pr) (b : Pr → Bool), ps.length ≤ 1000 → Pl 2 (.tup (nmsD (ps.filter b))) := fun ps b l => ⟨by unfold nmsD; rw [List.length_map]; have := List.length_filter_le b ps; omega, fun d hd => by
    obtain ⟨q, _, rfl⟩ := List.mem_map.mp hd
    exact pl_s⟩
  have rg : ∀ k : Ki, Pl 2 (rgD1 k) := fun k => by
    cases k with
    | num lo hi => exact pl2 pl_i pl_i
    | flag => exact ⟨by simp, fun d hd => by cases hd⟩
    | rf x => exact pl1 pl_s
  have rr : ∀ (ps qs : List Pr) (b c : Pr → Bool), ps.length ≤ 1000 → qs.length ≤ 1000 → Pl 3 (.tup ((ps.filter b ++ qs.filter c).map fun q => rgD1 q.2)) := fun ps qs b c l1 l2 => ⟨by rw [List.length_map, List.length_append]; have := List.length_filter_le b ps; have := List.length_filter_le c qs; omega, fun d hd => by
    obtain ⟨q, _, rfl⟩ := List.mem_map.mp hd
    exact rg _⟩
  unfold dueD
  refine ⟨by simp, fun d hd => ?_⟩
  simp only [List.mem_cons, List.not_mem_nil, or_false] at hd
  rcases hd with rfl | rfl | rfl | rfl | rfl | rfl | rfl | rfl | rfl | rfl | rfl
  · exact pl_s
  · exact pl_res
  · exact pl_i
  · exact pl_le (nm _ _ (by omega)) (by decide)
  · exact pl_le (nm _ _ (by omega)) (by decide)
  · exact pl_le (nm _ _ (by omega)) (by decide)
  · exact pl_le (nm _ _ (by omega)) (by decide)
  · exact pl_le (nm _ _ (by omega)) (by decide)
  · exact pl_le (nm _ _ (by omega)) (by decide)
  · exact pl_le (rr _ _ _ _ (by omega) (by omega)) (by decide)
  · exact pl_le (rr _ _ _ _ (by omega) (by omega)) (by decide)
theorem right_spec {cl : Str → Addr} {A : AH} {i : Nat} {p : Pg} {f : Fn} (pk : Pok p) (ok : Fok p f) (h : Lay A (cl "Layout") i p f) : Sat (m__law_right cl [.ref i, p.d, f.d] A) fun d A' => Gr A A' ∧ d = .bl true := by
  have lv : p.gl.length + f.ps.length + f.own.length ≤ 900 := by have := ok.few; unfold Fn.vis at this; simp at this; omega
  have lw := ok.few
  have ad1 : ∀ B, addD (fldsD p.gl) (fldsD f.ps) B = .ok (fldsD (p.gl ++ f.ps)) B := fun B => (ev_add_tt (sl_le (by simp; omega))).trans (by unfold fldsD; rw [List.map_append])
  have ad2 : ∀ B, addD (fldsD (p.gl ++ f.ps)) (fldsD f.own) B = .ok (fldsD (f.vis p)) B := fun B => (ev_add_tt (sl_le (by simp; omega))).trans (by unfold fldsD Fn.vis; rw [List.map_append (l₁ := p.gl ++ f.ps)])
  have H := h
  obtain ⟨hs, K, FD, FN, AR, O, hK, _⟩ := h.ex
  refine sat_body rfl (sat_seq ?_)
  simp only [EV, Ab.isNon, args, List.map, List.length_cons, List.length_nil, List.length_singleton, List.replicate, Nat.reduceSub, Nat.reduceAdd, Nat.zero_add, List.cons_append, List.nil_append, List.getElem?_cons_zero, List.getElem?_cons_succ, List.set_cons_zero, List.set_cons_succ, Option.some.injEq, decide_eq_true_eq, Bool.not_eq_true', decide_eq_false_iff_not, ite_true, ite_false, if_true, if_false, reduceIte, Bool.false_eq_true, Bool.not_true, Bool.not_false, Bool.true_eq_false, decide_true, decide_false, Nat.reduceLeDiff, Nat.reduceLT, Pg.i2, Fn.i1, Fn.i3, ad1, ad2]
  refine sat_seq ?_
  simp only [EV, Ab.isNon, args, List.map, List.length_cons, List.length_nil, List.length_singleton, List.replicate, Nat.reduceSub, Nat.reduceAdd, Nat.zero_add, List.cons_append, List.nil_append, List.getElem?_cons_zero, List.getElem?_cons_succ, List.set_cons_zero, List.set_cons_succ, Option.some.injEq, decide_eq_true_eq, Bool.not_eq_true', decide_eq_false_iff_not, ite_true, ite_false, if_true, if_false, reduceIte, Bool.false_eq_true, Bool.not_true, Bool.not_false, Bool.true_eq_false, decide_true, decide_false, Nat.reduceLeDiff, Nat.reduceLT, ev_fld, O.read (n := "kinds") (v := .ref K) (by simp [layA, layB])]
  refine sat_seq ?_
  have lf : ∀ B, lenD [fldsD (f.vis p)] B = .ok (.int ((f.vis p).length : Nat)) B := fun B => by unfold fldsD; rw [ev_len_t, List.length_map]
  have lk : (kdK (f.vis p)).length = (f.vis p).length := by unfold kdK; rw [List.length_map]
  simp only [EV, Ab.isNon, args, List.map, List.length_cons, List.length_nil, List.length_singleton, List.replicate, Nat.reduceSub, Nat.reduceAdd, Nat.zero_add, List.cons_append, List.nil_append, List.getElem?_cons_zero, List.getElem?_cons_succ, List.set_cons_zero, List.set_cons_succ, Option.some.injEq, decide_eq_true_eq, Bool.not_eq_true', decide_eq_false_iff_not, ite_true, ite_false, if_true, if_false, reduceIte, Bool.false_eq_true, Bool.not_true, Bool.not_false, Bool.true_eq_false, decide_true, decide_false, Nat.reduceLeDiff, Nat.reduceLT, isi_dict_d hK, len_dic hK, lf, lk]
  refine sat_seq ?_
  simp only [EV, Ab.isNon, args, List.map, List.length_cons, List.length_nil, List.length_singleton, List.replicate, Nat.reduceSub, Nat.reduceAdd, Nat.zero_add, List.cons_append, List.nil_append, List.getElem?_cons_zero, List.getElem?_cons_succ, List.set_cons_zero, List.set_cons_succ, Option.some.injEq, decide_eq_true_eq, Bool.not_eq_true', decide_eq_false_iff_not, ite_true, ite_false, if_true, if_false, reduceIte, Bool.false_eq_true, Bool.not_true, Bool.not_false, Bool.true_eq_false, decide_true, decide_false, Nat.reduceLeDiff, Nat.reduceLT, iq_f]
  have kn := kd_get ok.vnd
  have sm1 : ∀ k B, m__law_same 20 [Ki.d k, k.d] B = .ok (.bl true) B := fun k B => same_refl 19 _ B pl_ki
  refine loop_inv (fun es σ B => B = A ∧ (∀ e ∈ es, ∃ q ∈ f.vis p, e = fldD q) ∧ ∃ x5, σ = [some (.ref i), some p.d, some f.d, some (fldsD (f.vis p)), some (.ref K), x5])
    (fun e es σ B ⟨eB, al, x5, hσ⟩ => ⟨trivial, ?_⟩) (fun σ B ⟨eB, al, x5, hσ⟩ => ⟨trivial, ?_⟩) _ _ _ ⟨rfl, fun e he => by
      obtain ⟨q, hq, rfl⟩ := List.mem_map.mp he
      exact ⟨q, hq, rfl⟩, _, rfl⟩
  · subst hσ; subst eB
    obtain ⟨q, hq, e⟩ := al e (List.mem_cons_self ..)
    subst e
    simp only [EV, Ab.isNon, args, List.map, List.length_cons, List.length_nil, List.length_singleton, List.replicate, Nat.reduceSub, Nat.reduceAdd, Nat.zero_add, List.cons_append, List.nil_append, List.getElem?_cons_zero, List.getElem?_cons_succ, List.set_cons_zero, List.set_cons_succ, Option.some.injEq, decide_eq_true_eq, Bool.not_eq_true', decide_eq_false_iff_not, ite_true, ite_false, if_true, if_false, reduceIte, Bool.false_eq_true, Bool.not_true, Bool.not_false, Bool.true_eq_false, decide_true, decide_false, Nat.reduceLeDiff, Nat.reduceLT, f_0, f_1, nin_k hK (kn q hq), ixk hK (kn q hq), sm1, turn_]
    exact ⟨trivial, fun e he => al e (List.mem_cons_of_mem _ he), _, rfl⟩
  · subst hσ; subst eB
    simp only [EV, Ab.isNon, args, List.map, List.length_cons, List.length_nil, List.length_singleton, List.replicate, Nat.reduceSub, Nat.reduceAdd, Nat.zero_add, List.cons_append, List.nil_append, List.getElem?_cons_zero, List.getElem?_cons_succ, List.set_cons_zero, List.set_cons_succ, Option.some.injEq, decide_eq_true_eq, Bool.not_eq_true', decide_eq_false_iff_not, ite_true, ite_false, if_true, if_false, reduceIte, Bool.false_eq_true, Bool.not_true, Bool.not_false, Bool.true_eq_false, decide_true, decide_false, Nat.reduceLeDiff, Nat.reduceLT, ev_fld, O.read (n := "program") (v := p.d) (by simp [layA, layB]), same_refl 19 _ _ (pl_pg pk), ev_tru_b]
    refine Sat.imp (told_spec H) fun d B1 ⟨g1, e⟩ => ?_
    subst e
    refine Sat.imp (dueP_spec ok) fun d B2 ⟨g2, e⟩ => ?_
    subst e
    rw [same_refl 19 _ _ (pl_le (pl_due ok) (by decide))]
    exact ⟨g1.trans g2, rfl⟩
end Law

namespace Law
open PySem PySem.Spec PyProof.Rows L2 Ab
open scoped Classical
/-! ### drawn kinds, variables, bodies -/
theorem kind_spec {A : AH} {s R : Nat} {rn : List Str} {lg : Bool} (hs : Sr s A) (hR : A[R]? = some (.lst (rn.map D.str))) (Rs : R ≠ s) (ne : rn ≠ []) (few : rn.length ≤ 100) : Sat (m__law_kind [.ref s, .ref R, .bl lg] A) fun d A' => Dr s A A' ∧ ∃ k : Ki, d = k.d := by
  have po : CPow 10 9 := powOk (by decide) (by decide) (by decide)
  refine sat_body rfl (sat_seq ?_)
  simp only [EV, Ab.isNon, args, List.map, List.length_cons, List.length_nil, List.length_singleton, List.replicate, Nat.reduceSub, Nat.reduceAdd, Nat.zero_add, List.cons_append, List.nil_append, List.getElem?_cons_zero, List.getElem?_cons_succ, List.set_cons_zero, List.set_cons_succ, Option.some.injEq, decide_eq_true_eq, Bool.not_eq_true', decide_eq_false_iff_not, ite_true, ite_false, if_true, if_false, reduceIte, Bool.false_eq_true, Bool.not_true, Bool.not_false, Bool.true_eq_false, decide_true, decide_false, Nat.reduceLeDiff, Nat.reduceLT]
  refine Sat.imp (pick_pos hs (n := 8) (by decide) (by decide)) fun d A1 ⟨⟨c, e, c0, c1⟩, D1⟩ => ?_
  subst e
  refine sat_seq ?_
  simp only [EV, Ab.isNon, args, List.map, List.length_cons, List.length_nil, List.length_singleton, List.replicate, Nat.reduceSub, Nat.reduceAdd, Nat.zero_add, List.cons_append, List.nil_append, List.getElem?_cons_zero, List.getElem?_cons_succ, List.set_cons_zero, List.set_cons_succ, Option.some.injEq, decide_eq_true_eq, Bool.not_eq_true', decide_eq_false_iff_not, ite_true, ite_false, if_true, if_false, reduceIte, Bool.false_eq_true, Bool.not_true, Bool.not_false, Bool.true_eq_false, decide_true, decide_false, Nat.reduceLeDiff, Nat.reduceLT]
  refine Sat.imp (pick_pos D1.src (n := 30) (by decide) (by decide)) fun d A2 ⟨⟨v, e, v0, v1⟩, D2⟩ => ?_
  subst e
  have D2 := D1.trans D2
  refine sat_seq ?_
  simp only [EV, Ab.isNon, args, List.map, List.length_cons, List.length_nil, List.length_singleton, List.replicate, Nat.reduceSub, Nat.reduceAdd, Nat.zero_add, List.cons_append, List.nil_append, List.getElem?_cons_zero, List.getElem?_cons_succ, List.set_cons_zero, List.set_cons_succ, Option.some.injEq, decide_eq_true_eq, Bool.not_eq_true', decide_eq_false_iff_not, ite_true, ite_false, if_true, if_false, reduceIte, Bool.false_eq_true, Bool.not_true, Bool.not_false, Bool.true_eq_false, decide_true, decide_false, Nat.reduceLeDiff, Nat.reduceLT]
  split
  · exact ⟨D2, .flag, rfl⟩
  refine sat_seq ?_
  simp only [EV, Ab.isNon, args, List.map, List.length_cons, List.length_nil, List.length_singleton, List.replicate, Nat.reduceSub, Nat.reduceAdd, Nat.zero_add, List.cons_append, List.nil_append, List.getElem?_cons_zero, List.getElem?_cons_succ, List.set_cons_zero, List.set_cons_succ, Option.some.injEq, decide_eq_true_eq, Bool.not_eq_true', decide_eq_false_iff_not, ite_true, ite_false, if_true, if_false, reduceIte, Bool.false_eq_true, Bool.not_true, Bool.not_false, Bool.true_eq_false, decide_true, decide_false, Nat.reduceLeDiff, Nat.reduceLT]
  split
  · refine Sat.imp (one_l D2.src Rs (D2.keep _ _ Rs hR) (by simpa using ne) (by rw [List.length_map]; omega)) fun d A3 ⟨hd, D3⟩ => ?_
    obtain ⟨x, hx, rfl⟩ := List.mem_map.mp hd
    exact ⟨D2.trans D3, .rf x, rfl⟩
  have num : ∀ (xs : List Int), xs ≠ [] → xs.length ≤ 10 → Sat (m__law_one [.ref s, .ref A2.length] (A2 ++ [AO.lst (xs.map D.int)])) fun d B => Dr s A B ∧ ∃ w : Int, d = .int w := fun xs ne l => by
    refine Sat.imp (one_d D2.src (by simpa using ne) (by rw [List.length_map]; omega)) fun d B ⟨hd, dr⟩ => ?_
    obtain ⟨w, _, rfl⟩ := List.mem_map.mp hd
    exact ⟨D2.trans dr, w, rfl⟩
  have sm : Sat ((fRet (fTup (fCons (fC (.str "num")) (fCons (fV 4) (fCons (fOp addD (fV 4) (fOwn 2 m__law_one (fCons (fV 0) (fCons (fLst (fCons (fC (.int 0)) (fCons (fC (.int 1)) (fCons (fC (.int 6)) (fCons (fC (.int 7)) (fNil)))))) (fNil))))) (fNil)))))) [some (.ref s), some (.ref R), some (.bl lg), some (.int c), some (.int (v - 20))] A2) fun fl B => ∃ k : Ki, fl = .rt k.d ∧ Dr s A B := by
    simp only [EV, Ab.isNon, args, List.map, List.length_cons, List.length_nil, List.length_singleton, List.replicate, Nat.reduceSub, Nat.reduceAdd, Nat.zero_add, List.cons_append, List.nil_append, List.getElem?_cons_zero, List.getElem?_cons_succ, List.set_cons_zero, List.set_cons_succ, Option.some.injEq, decide_eq_true_eq, Bool.not_eq_true', decide_eq_false_iff_not, ite_true, ite_false, if_true, if_false, reduceIte, Bool.false_eq_true, Bool.not_true, Bool.not_false, Bool.true_eq_false, decide_true, decide_false, Nat.reduceLeDiff, Nat.reduceLT]
    refine Sat.imp (num [0, 1, 6, 7] (by simp) (by simp)) fun d B ⟨dr, w, e⟩ => ?_
    subst e
    simp only [EV, Ab.isNon, args, List.map, List.length_cons, List.length_nil, List.length_singleton, List.replicate, Nat.reduceSub, Nat.reduceAdd, Nat.zero_add, List.cons_append, List.nil_append, List.getElem?_cons_zero, List.getElem?_cons_succ, List.set_cons_zero, List.set_cons_succ, Option.some.injEq, decide_eq_true_eq, Bool.not_eq_true', decide_eq_false_iff_not, ite_true, ite_false, if_true, if_false, reduceIte, Bool.false_eq_true, Bool.not_true, Bool.not_false, Bool.true_eq_false, decide_true, decide_false, Nat.reduceLeDiff, Nat.reduceLT]
    exact ⟨.num (v - 20) (v - 20 + w), rfl, dr⟩
  refine sat_seq (sat_ifS (b := decide (c < 6) || !lg) ?_ (fun _ => ?_) (fun hb => ?_))
  · by_cases c6 : c < 6
    · simp only [EV, Ab.isNon, args, List.map, List.length_cons, List.length_nil, List.length_singleton, List.replicate, Nat.reduceSub, Nat.reduceAdd, Nat.zero_add, List.cons_append, List.nil_append, List.getElem?_cons_zero, List.getElem?_cons_succ, List.set_cons_zero, List.set_cons_succ, Option.some.injEq, decide_eq_true_eq, Bool.not_eq_true', decide_eq_false_iff_not, ite_true, ite_false, if_true, if_false, reduceIte, Bool.false_eq_true, Bool.not_true, Bool.not_false, Bool.true_eq_false, decide_true, decide_false, Nat.reduceLeDiff, Nat.reduceLT, c6]; rfl
    · cases lg
      · simp only [EV, Ab.isNon, args, List.map, List.length_cons, List.length_nil, List.length_singleton, List.replicate, Nat.reduceSub, Nat.reduceAdd, Nat.zero_add, List.cons_append, List.nil_append, List.getElem?_cons_zero, List.getElem?_cons_succ, List.set_cons_zero, List.set_cons_succ, Option.some.injEq, decide_eq_true_eq, Bool.not_eq_true', decide_eq_false_iff_not, ite_true, ite_false, if_true, if_false, reduceIte, Bool.false_eq_true, Bool.not_true, Bool.not_false, Bool.true_eq_false, decide_true, decide_false, Nat.reduceLeDiff, Nat.reduceLT, c6]; rfl
      · simp only [EV, Ab.isNon, args, List.map, List.length_cons, List.length_nil, List.length_singleton, List.replicate, Nat.reduceSub, Nat.reduceAdd, Nat.zero_add, List.cons_append, List.nil_append, List.getElem?_cons_zero, List.getElem?_cons_succ, List.set_cons_zero, List.set_cons_succ, Option.some.injEq, decide_eq_true_eq, Bool.not_eq_true', decide_eq_false_iff_not, ite_true, ite_false, if_true, if_false, reduceIte, Bool.false_eq_true, Bool.not_true, Bool.not_false, Bool.true_eq_false, decide_true, decide_false, Nat.reduceLeDiff, Nat.reduceLT, c6]; rfl
  · exact Sat.imp sm fun fl B ⟨k, e, dr⟩ => by subst e; exact ⟨dr, k, rfl⟩
  · simp only [EV, Ab.isNon, args, List.map, List.length_cons, List.length_nil, List.length_singleton, List.replicate, Nat.reduceSub, Nat.reduceAdd, Nat.zero_add, List.cons_append, List.nil_append, List.getElem?_cons_zero, List.getElem?_cons_succ, List.set_cons_zero, List.set_cons_succ, Option.some.injEq, decide_eq_true_eq, Bool.not_eq_true', decide_eq_false_iff_not, ite_true, ite_false, if_true, if_false, reduceIte, Bool.false_eq_true, Bool.not_true, Bool.not_false, Bool.true_eq_false, decide_true, decide_false, Nat.reduceLeDiff, Nat.reduceLT]
    rw [ev_pow po]
    simp only [EV, Ab.isNon, args, List.map, List.length_cons, List.length_nil, List.length_singleton, List.replicate, Nat.reduceSub, Nat.reduceAdd, Nat.zero_add, List.cons_append, List.nil_append, List.getElem?_cons_zero, List.getElem?_cons_succ, List.set_cons_zero, List.set_cons_succ, Option.some.injEq, decide_eq_true_eq, Bool.not_eq_true', decide_eq_false_iff_not, ite_true, ite_false, if_true, if_false, reduceIte, Bool.false_eq_true, Bool.not_true, Bool.not_false, Bool.true_eq_false, decide_true, decide_false, Nat.reduceLeDiff, Nat.reduceLT]
    refine Sat.imp (num [8, 9, 100, 10 ^ (9 : Int).toNat - 30] (by simp) (by simp)) fun d B ⟨dr, w, e⟩ => ?_
    subst e
    simp only [EV, Ab.isNon, args, List.map, List.length_cons, List.length_nil, List.length_singleton, List.replicate, Nat.reduceSub, Nat.reduceAdd, Nat.zero_add, List.cons_append, List.nil_append, List.getElem?_cons_zero, List.getElem?_cons_succ, List.set_cons_zero, List.set_cons_succ, Option.some.injEq, decide_eq_true_eq, Bool.not_eq_true', decide_eq_false_iff_not, ite_true, ite_false, if_true, if_false, reduceIte, Bool.false_eq_true, Bool.not_true, Bool.not_false, Bool.true_eq_false, decide_true, decide_false, Nat.reduceLeDiff, Nat.reduceLT]
    exact ⟨dr, .num (v - 20) (v - 20 + w), rfl⟩
theorem pairs_spec {A : AH} {s N R M : Nat} {ns rn : List Str} {m : Int} (hs : Sr s A) (hN : A[N]? = some (.lst (ns.map D.str))) (hR : A[R]? = some (.lst (rn.map D.str))) (hM : A[M]? = some (.lst [.int m])) (Ns : N ≠ s) (Rs : R ≠ s) (Ms : M ≠ s) (NM : N ≠ M) (RM : R ≠ M) (ne : rn ≠ []) (few : rn.length ≤ 100) (nf : ns.length ≤ 100) :
    Sat (m__law_pairs [.ref s, .ref N, .ref R, .ref M] A) fun d A' => Dw s M A A' ∧ Sr s A' ∧ (∃ m' : Int, A'[M]? = some (.lst [.int m'])) ∧ ∃ ps : List Pr, d = fldsD ps ∧ ps.map (·.1) = ns.take ps.length ∧ ps.length ≤ ns.length := by
  have sl := hs.lt
  have lM := at_lt hM
  refine sat_body rfl (sat_seq ?_)
  simp only [EV, Ab.isNon, args, List.map, List.length_cons, List.length_nil, List.length_singleton, List.replicate, Nat.reduceSub, Nat.reduceAdd, Nat.zero_add, List.cons_append, List.nil_append, List.getElem?_cons_zero, List.getElem?_cons_succ, List.set_cons_zero, List.set_cons_succ, Option.some.injEq, decide_eq_true_eq, Bool.not_eq_true', decide_eq_false_iff_not, ite_true, ite_false, if_true, if_false, reduceIte, Bool.false_eq_true, Bool.not_true, Bool.not_false, Bool.true_eq_false, decide_true, decide_false, Nat.reduceLeDiff, Nat.reduceLT]
  have hP := at_new (A := A) (o := .lst [])
  have g0 := Gr.app (A := A) (B := [AO.lst []])
  have D0 : Dw s M A (A ++ [AO.lst []]) := ⟨g0.le, fun i o _ _ e => g0.keep i o e⟩
  have S0 := Sr.gr g0 hs
  have hM0 := g0.keep _ _ hM
  have hN0 := g0.keep _ _ hN
  generalize A ++ [AO.lst []] = A1 at *
  obtain ⟨P, eP⟩ : ∃ P, A.length = P := ⟨_, rfl⟩
  rw [eP] at hP sl lM
  simp only [eP]
  have ln : lenD [.ref N] A1 = .ok (.int (ns.length : Nat)) A1 := (ev_len_r (rdL_l hN0)).trans (by rw [List.length_map])
  refine sat_seq ?_
  simp only [EV, Ab.isNon, args, List.map, List.length_cons, List.length_nil, List.length_singleton, List.replicate, Nat.reduceSub, Nat.reduceAdd, Nat.zero_add, List.cons_append, List.nil_append, List.getElem?_cons_zero, List.getElem?_cons_succ, List.set_cons_zero, List.set_cons_succ, Option.some.injEq, decide_eq_true_eq, Bool.not_eq_true', decide_eq_false_iff_not, ite_true, ite_false, if_true, if_false, reduceIte, Bool.false_eq_true, Bool.not_true, Bool.not_false, Bool.true_eq_false, decide_true, decide_false, Nat.reduceLeDiff, Nat.reduceLT, ln]
  refine Sat.imp (pick_pos S0 (n := (ns.length : Int) + 1) (by omega) (by omega)) fun d A2 ⟨⟨n, e, n0, n1⟩, D2⟩ => ?_
  subst e
  obtain ⟨n, rfl⟩ : ∃ k : Nat, n = (k : Nat) := ⟨n.toNat, by omega⟩
  simp only [EV, Ab.isNon, args, List.map, List.length_cons, List.length_nil, List.length_singleton, List.replicate, Nat.reduceSub, Nat.reduceAdd, Nat.zero_add, List.cons_append, List.nil_append, List.getElem?_cons_zero, List.getElem?_cons_succ, List.set_cons_zero, List.set_cons_succ, Option.some.injEq, decide_eq_true_eq, Bool.not_eq_true', decide_eq_false_iff_not, ite_true, ite_false, if_true, if_false, reduceIte, Bool.false_eq_true, Bool.not_true, Bool.not_false, Bool.true_eq_false, decide_true, decide_false, Nat.reduceLeDiff, Nat.reduceLT]
  rw [if_pos (inRg_of (by omega) (by omega)), Int.toNat_natCast]
  refine range_inv (fun k σ B => Dw s M A B ∧ Sr s B ∧ (∃ m' : Int, B[M]? = some (.lst [.int m'])) ∧ (∃ ps : List Pr, B[P]? = some (.lst (ps.map fldD)) ∧ ps.map (·.1) = ns.take k ∧ ps.length = k) ∧ ∃ x5 x6, σ = [some (.ref s), some (.ref N), some (.ref R), some (.ref M), some (.ref P), x5, x6])
    (fun k σ B hk ⟨DB, SB, ⟨m', hM⟩, ⟨ps, hP, pn, pl⟩, x5, x6, hσ⟩ => ?_) (fun σ B ⟨DB, SB, ⟨m', hM⟩, ⟨ps, hP, pn, pl⟩, x5, x6, hσ⟩ => ?_) ⟨D0.trans (dr_dw D2), D2.src, ⟨m, D2.keep _ _ Ms hM0⟩, ⟨[], D2.keep _ _ (by omega) hP, rfl, rfl⟩, none, none, rfl⟩
  · subst hσ
    have hk : k < n := hk
    have hNB := DB.keep _ _ Ns NM hN
    have hRB := DB.keep _ _ Rs RM hR
    have i0 : ∀ {E : AH} {z : Int}, E[M]? = some (.lst [.int z]) → ixD (.ref M) (.int 0) E = .ok (.int z) E := fun h => ev_ix_r (rdL_l h) (by rw [atI_pos (by decide)]; rfl)
    simp only [EV, Ab.isNon, args, List.map, List.length_cons, List.length_nil, List.length_singleton, List.replicate, Nat.reduceSub, Nat.reduceAdd, Nat.zero_add, List.cons_append, List.nil_append, List.getElem?_cons_zero, List.getElem?_cons_succ, List.set_cons_zero, List.set_cons_succ, Option.some.injEq, decide_eq_true_eq, Bool.not_eq_true', decide_eq_false_iff_not, ite_true, ite_false, if_true, if_false, reduceIte, Bool.false_eq_true, Bool.not_true, Bool.not_false, Bool.true_eq_false, decide_true, decide_false, Nat.reduceLeDiff, Nat.reduceLT, Int.zero_add]
    refine sat_seq ?_
    simp only [EV, Ab.isNon, args, List.map, List.length_cons, List.length_nil, List.length_singleton, List.replicate, Nat.reduceSub, Nat.reduceAdd, Nat.zero_add, List.cons_append, List.nil_append, List.getElem?_cons_zero, List.getElem?_cons_succ, List.set_cons_zero, List.set_cons_succ, Option.some.injEq, decide_eq_true_eq, Bool.not_eq_true', decide_eq_false_iff_not, ite_true, ite_false, if_true, if_false, reduceIte, Bool.false_eq_true, Bool.not_true, Bool.not_false, Bool.true_eq_false, decide_true, decide_false, Nat.reduceLeDiff, Nat.reduceLT, i0 hM]
    refine Sat.imp (kind_spec SB hRB Rs ne few) fun d B1 ⟨D1, q, e⟩ => ?_
    subst e
    have hM := D1.keep _ _ Ms hM
    have hP := D1.keep _ _ (by omega) hP
    have DB := DB.trans (dr_dw D1)
    have SB := D1.src
    have st : ∀ z, stD (.ref M) (.int 0) (.int z) B1 = .ok () (B1.set M (.lst [.int z])) := fun z => ev_st_l (k := 0) (j := 0) hM rfl
    refine sat_seq ?_
    simp only [EV, Ab.isNon, args, List.map, List.length_cons, List.length_nil, List.length_singleton, List.replicate, Nat.reduceSub, Nat.reduceAdd, Nat.zero_add, List.cons_append, List.nil_append, List.getElem?_cons_zero, List.getElem?_cons_succ, List.set_cons_zero, List.set_cons_succ, Option.some.injEq, decide_eq_true_eq, Bool.not_eq_true', decide_eq_false_iff_not, ite_true, ite_false, if_true, if_false, reduceIte, Bool.false_eq_true, Bool.not_true, Bool.not_false, Bool.true_eq_false, decide_true, decide_false, Nat.reduceLeDiff, Nat.reduceLT, i0 hM, llarge_spec, st]
    generalize m' - (if big q = true then (1 : Int) else 0) = z
    have hM2 := at_set (o := .lst [.int z]) (at_lt hM)
    have DB := DB.set (o := .lst [.int z])
    have SB : Sr s (B1.set M (.lst [.int z])) := by
      obtain ⟨a, b, c, h⟩ := SB
      exact ⟨a, b, c, by rw [List.getElem?_set_ne Ms]; exact h⟩
    have hP : (B1.set M (.lst [.int z]))[P]? = some (.lst (ps.map fldD)) := by rw [List.getElem?_set_ne (by omega)]; exact hP
    have hNB : (B1.set M (.lst [.int z]))[N]? = some (.lst (ns.map D.str)) := by rw [List.getElem?_set_ne (Ne.symm NM)]; exact D1.keep _ _ Ns hNB
    generalize B1.set M (.lst [.int z]) = B2 at *
    have lt : k < ns.length := by omega
    have ixn : ixD (.ref N) (.int (k : Nat)) B2 = .ok (.str ns[k]) B2 := ev_ix_r (rdL_l hNB) (by rw [atI_pos (by omega), Int.toNat_natCast, List.getElem?_map, List.getElem?_eq_getElem lt]; rfl)
    simp only [EV, Ab.isNon, args, List.map, List.length_cons, List.length_nil, List.length_singleton, List.replicate, Nat.reduceSub, Nat.reduceAdd, Nat.zero_add, List.cons_append, List.nil_append, List.getElem?_cons_zero, List.getElem?_cons_succ, List.set_cons_zero, List.set_cons_succ, Option.some.injEq, decide_eq_true_eq, Bool.not_eq_true', decide_eq_false_iff_not, ite_true, ite_false, if_true, if_false, reduceIte, Bool.false_eq_true, Bool.not_true, Bool.not_false, Bool.true_eq_false, decide_true, decide_false, Nat.reduceLeDiff, Nat.reduceLT, ty_l hP, ixn]
    rw [ev_app hP (by rw [List.length_map]; omega)]
    simp only [EV, Ab.isNon, args, List.map, List.length_cons, List.length_nil, List.length_singleton, List.replicate, Nat.reduceSub, Nat.reduceAdd, Nat.zero_add, List.cons_append, List.nil_append, List.getElem?_cons_zero, List.getElem?_cons_succ, List.set_cons_zero, List.set_cons_succ, Option.some.injEq, decide_eq_true_eq, Bool.not_eq_true', decide_eq_false_iff_not, ite_true, ite_false, if_true, if_false, reduceIte, Bool.false_eq_true, Bool.not_true, Bool.not_false, Bool.true_eq_false, decide_true, decide_false, Nat.reduceLeDiff, Nat.reduceLT, turn_]
    refine ⟨⟨by simpa using DB.le, fun i o a b e => by have := at_lt e; rw [List.getElem?_set_ne (by omega)]; exact DB.keep i o a b e⟩, ?_, ⟨z, by rw [List.getElem?_set_ne (by omega)]; exact hM2⟩, ⟨ps ++ [(ns[k], q)], ?_, ?_, by simp [pl]⟩, _, _, rfl⟩
    · obtain ⟨a, b, c, h⟩ := SB
      exact ⟨a, b, c, by rw [List.getElem?_set_ne (by omega)]; exact h⟩
    · rw [at_set (at_lt hP), List.map_append]; rfl
    · rw [List.map_append, pn, List.take_add_one, List.getElem?_eq_getElem lt]; rfl
  · subst hσ
    simp only [EV, Ab.isNon, args, List.map, List.length_cons, List.length_nil, List.length_singleton, List.replicate, Nat.reduceSub, Nat.reduceAdd, Nat.zero_add, List.cons_append, List.nil_append, List.getElem?_cons_zero, List.getElem?_cons_succ, List.set_cons_zero, List.set_cons_succ, Option.some.injEq, decide_eq_true_eq, Bool.not_eq_true', decide_eq_false_iff_not, ite_true, ite_false, if_true, if_false, reduceIte, Bool.false_eq_true, Bool.not_true, Bool.not_false, Bool.true_eq_false, decide_true, decide_false, Nat.reduceLeDiff, Nat.reduceLT, ev_tup_ofL (rdL_l hP)]
    exact ⟨DB, SB, ⟨m', hM⟩, ps, rfl, by rw [pl]; exact pn, by omega⟩
theorem Bd.flat_w : ∀ (b : Bd) (l : Bool), b.ok l → ∀ d ∈ b.flat, ∃ w ds, d = .tup (.str w :: ds)
  | .nil, l, _, d, h => by cases h
  | .lf x r, l, o, d, h => by
    rcases List.mem_cons.mp h with rfl | h
    · obtain ⟨⟨w, ds, e, _⟩, _⟩ := o
      exact ⟨w, ds, e⟩
    · exact r.flat_w l o.2 d h
  | .brk r, l, o, d, h => by
    rcases List.mem_cons.mp h with rfl | h
    · exact ⟨_, _, rfl⟩
    · exact r.flat_w l o.2 d h
  | .ret x r, l, o, d, h => by
    rcases List.mem_cons.mp h with rfl | h
    · exact ⟨_, _, rfl⟩
    · exact r.flat_w l o.2 d h
  | .ite t a b r, l, o, d, h => by
    rcases List.mem_cons.mp h with rfl | h
    · exact ⟨_, _, rfl⟩
    · rcases List.mem_append.mp h with h | h
      · rcases List.mem_append.mp h with h | h
        · exact a.flat_w l o.2.1 d h
        · exact b.flat_w l o.2.2.1 d h
      · exact r.flat_w l o.2.2.2 d h
  | .whl t a r, l, o, d, h => by
    rcases List.mem_cons.mp h with rfl | h
    · exact ⟨_, _, rfl⟩
    · rcases List.mem_append.mp h with h | h
      · exact a.flat_w true o.2.1 d h
      · exact r.flat_w l o.2.2 d h
def Wl (s w lf : Nat) (A : AH) : Prop := Sr s A ∧ A[w]? = some (.lst [.int (lf : Nat)])
theorem Wl.dr {s w lf : Nat} {A B : AH} (h : Wl s w lf A) (d : Dr s A B) (ws : w ≠ s) : Wl s w lf B := ⟨d.src, d.keep _ _ ws h.2⟩
theorem bodyL_spec : ∀ (m s w dp lf : Nat) (l : Bool) (A : AH), dp < m → lf ≤ 100 → w ≠ s → Wl s w lf A → Sat (m__law_body m [.ref s, .ref w, .int (dp : Nat), .bl l] A) fun d A' => Dw s w A A' ∧ ∃ (b : Bd) (lf' : Nat), d = .tup b.dats ∧ b.ok l ∧ b.sm ∧ b.dep ≤ dp ∧ Wl s w lf' A' ∧ b.sz + lf' ≤ lf := by
  intro m
  induction m with
  | zero => intro s w dp lf l A h; omega
  | succ m ih =>
    intro s w dp lf l A hm hlf ws g
    refine sat_body rfl (sat_seq ?_)
    simp only [EV, Ab.isNon, args, List.map, List.length_cons, List.length_nil, List.length_singleton, List.replicate, Nat.reduceSub, Nat.reduceAdd, Nat.zero_add, List.cons_append, List.nil_append, List.getElem?_cons_zero, List.getElem?_cons_succ, List.set_cons_zero, List.set_cons_succ, Option.some.injEq, decide_eq_true_eq, Bool.not_eq_true', decide_eq_false_iff_not, ite_true, ite_false, if_true, if_false, reduceIte, Bool.false_eq_true, Bool.not_true, Bool.not_false, Bool.true_eq_false, decide_true, decide_false, Nat.reduceLeDiff, Nat.reduceLT]
    refine sat_seq ?_
    simp only [EV, Ab.isNon, args, List.map, List.length_cons, List.length_nil, List.length_singleton, List.replicate, Nat.reduceSub, Nat.reduceAdd, Nat.zero_add, List.cons_append, List.nil_append, List.getElem?_cons_zero, List.getElem?_cons_succ, List.set_cons_zero, List.set_cons_succ, Option.some.injEq, decide_eq_true_eq, Bool.not_eq_true', decide_eq_false_iff_not, ite_true, ite_false, if_true, if_false, reduceIte, Bool.false_eq_true, Bool.not_true, Bool.not_false, Bool.true_eq_false, decide_true, decide_false, Nat.reduceLeDiff, Nat.reduceLT]
    refine Sat.imp (pick_pos g.1 (n := 4) (by omega) (by omega)) fun d A1 ⟨⟨v, e, v0, v1⟩, D1⟩ => ?_
    subst e
    have g := g.dr D1 ws
    have D1 : Dw s w A A1 := dr_dw D1
    obtain ⟨n, rfl⟩ : ∃ n : Nat, v = (n : Nat) := ⟨v.toNat, by omega⟩
    simp only [EV, Ab.isNon, args, List.map, List.length_cons, List.length_nil, List.length_singleton, List.replicate, Nat.reduceSub, Nat.reduceAdd, Nat.zero_add, List.cons_append, List.nil_append, List.getElem?_cons_zero, List.getElem?_cons_succ, List.set_cons_zero, List.set_cons_succ, Option.some.injEq, decide_eq_true_eq, Bool.not_eq_true', decide_eq_false_iff_not, ite_true, ite_false, if_true, if_false, reduceIte, Bool.false_eq_true, Bool.not_true, Bool.not_false, Bool.true_eq_false, decide_true, decide_false, Nat.reduceLeDiff, Nat.reduceLT]
    rw [if_pos (inRg_of (by omega) (by omega)), Int.toNat_natCast]
    refine range_inv (fun k σ B => Dw s w A B ∧ ∃ (b : Bd) (lf' : Nat), b.ok l ∧ b.sm ∧ b.dep ≤ dp ∧ Wl s w lf' B ∧ b.sz + lf' ≤ lf ∧ ∃ x5 x6 x7 x8, σ = [some (.ref s), some (.ref w), some (.int (dp : Nat)), some (.bl l), some (.tup b.dats), x5, x6, x7, x8])
      (fun k σ B hk ⟨DB, b, lf', ok, sm, bd, g, sz, x5, x6, x7, x8, hσ⟩ => ?_) (fun σ B ⟨DB, b, lf', ok, sm, bd, g, sz, x5, x6, x7, x8, hσ⟩ => ?_) ⟨D1, .nil, lf, trivial, trivial, Nat.zero_le _, g, by show 0 + lf ≤ lf; omega, none, none, none, none, rfl⟩
    · subst hσ
      have i0 : ∀ {E : AH} {z : Int}, E[w]? = some (.lst [.int z]) → ixD (.ref w) (.int 0) E = .ok (.int z) E := fun h => ev_ix_r (rdL_l h) (by rw [atI_pos (by decide)]; rfl)
      simp only [EV, Ab.isNon, args, List.map, List.length_cons, List.length_nil, List.length_singleton, List.replicate, Nat.reduceSub, Nat.reduceAdd, Nat.zero_add, List.cons_append, List.nil_append, List.getElem?_cons_zero, List.getElem?_cons_succ, List.set_cons_zero, List.set_cons_succ, Option.some.injEq, decide_eq_true_eq, Bool.not_eq_true', decide_eq_false_iff_not, ite_true, ite_false, if_true, if_false, reduceIte, Bool.false_eq_true, Bool.not_true, Bool.not_false, Bool.true_eq_false, decide_true, decide_false, Nat.reduceLeDiff, Nat.reduceLT, i0 g.2]
      by_cases pos : (0 : Int) < (lf' : Nat)
      rotate_left
      · simp only [EV, Ab.isNon, args, List.map, List.length_cons, List.length_nil, List.length_singleton, List.replicate, Nat.reduceSub, Nat.reduceAdd, Nat.zero_add, List.cons_append, List.nil_append, List.getElem?_cons_zero, List.getElem?_cons_succ, List.set_cons_zero, List.set_cons_succ, Option.some.injEq, decide_eq_true_eq, Bool.not_eq_true', decide_eq_false_iff_not, ite_true, ite_false, if_true, if_false, reduceIte, Bool.false_eq_true, Bool.not_true, Bool.not_false, Bool.true_eq_false, decide_true, decide_false, Nat.reduceLeDiff, Nat.reduceLT, pos, turn_]
        exact ⟨DB, b, lf', ok, sm, bd, g, sz, _, _, _, _, rfl⟩
      simp only [EV, Ab.isNon, args, List.map, List.length_cons, List.length_nil, List.length_singleton, List.replicate, Nat.reduceSub, Nat.reduceAdd, Nat.zero_add, List.cons_append, List.nil_append, List.getElem?_cons_zero, List.getElem?_cons_succ, List.set_cons_zero, List.set_cons_succ, Option.some.injEq, decide_eq_true_eq, Bool.not_eq_true', decide_eq_false_iff_not, ite_true, ite_false, if_true, if_false, reduceIte, Bool.false_eq_true, Bool.not_true, Bool.not_false, Bool.true_eq_false, decide_true, decide_false, Nat.reduceLeDiff, Nat.reduceLT, pos]
      obtain ⟨q, rfl⟩ : ∃ q, lf' = q + 1 := ⟨lf' - 1, by omega⟩
      have eq1 : (((q + 1 : Nat) : Nat) : Int) - 1 = ((q : Nat) : Int) := by omega
      have st : stD (.ref w) (.int 0) (.int (q : Nat)) B = .ok () (B.set w (.lst [.int (q : Nat)])) := ev_st_l (k := 0) (j := 0) g.2 rfl
      refine sat_seq ?_
      simp only [EV, Ab.isNon, args, List.map, List.length_cons, List.length_nil, List.length_singleton, List.replicate, Nat.reduceSub, Nat.reduceAdd, Nat.zero_add, List.cons_append, List.nil_append, List.getElem?_cons_zero, List.getElem?_cons_succ, List.set_cons_zero, List.set_cons_succ, Option.some.injEq, decide_eq_true_eq, Bool.not_eq_true', decide_eq_false_iff_not, ite_true, ite_false, if_true, if_false, reduceIte, Bool.false_eq_true, Bool.not_true, Bool.not_false, Bool.true_eq_false, decide_true, decide_false, Nat.reduceLeDiff, Nat.reduceLT, i0 g.2, eq1, st]
      have g1 : Wl s w q (B.set w (.lst [.int (q : Nat)])) := ⟨by
        obtain ⟨c, r, k, hs⟩ := g.1
        exact ⟨c, r, k, by rw [List.getElem?_set_ne ws]; exact hs⟩, at_set (at_lt g.2)⟩
      have DB := DB.set (o := .lst [.int (q : Nat)])
      generalize B.set w (.lst [.int (q : Nat)]) = B1 at *
      clear g
      refine sat_seq ?_
      simp only [EV, Ab.isNon, args, List.map, List.length_cons, List.length_nil, List.length_singleton, List.replicate, Nat.reduceSub, Nat.reduceAdd, Nat.zero_add, List.cons_append, List.nil_append, List.getElem?_cons_zero, List.getElem?_cons_succ, List.set_cons_zero, List.set_cons_succ, Option.some.injEq, decide_eq_true_eq, Bool.not_eq_true', decide_eq_false_iff_not, ite_true, ite_false, if_true, if_false, reduceIte, Bool.false_eq_true, Bool.not_true, Bool.not_false, Bool.true_eq_false, decide_true, decide_false, Nat.reduceLeDiff, Nat.reduceLT]
      refine Sat.imp (pick_pos g1.1 (n := 8) (by decide) (by decide)) fun d B2 ⟨⟨c, e, c0, c1⟩, D2⟩ => ?_
      subst e
      have g2 := g1.dr D2 ws
      have DB := DB.trans (dr_dw D2)
      clear g1
      refine sat_seq ?_
      simp only [EV, Ab.isNon, args, List.map, List.length_cons, List.length_nil, List.length_singleton, List.replicate, Nat.reduceSub, Nat.reduceAdd, Nat.zero_add, List.cons_append, List.nil_append, List.getElem?_cons_zero, List.getElem?_cons_succ, List.set_cons_zero, List.set_cons_succ, Option.some.injEq, decide_eq_true_eq, Bool.not_eq_true', decide_eq_false_iff_not, ite_true, ite_false, if_true, if_false, reduceIte, Bool.false_eq_true, Bool.not_true, Bool.not_false, Bool.true_eq_false, decide_true, decide_false, Nat.reduceLeDiff, Nat.reduceLT]
      let J : ASt → AH → Prop := fun σ C => Dw s w A C ∧ ∃ (cc : Bd) (lf2 : Nat) (d : D) (y8 : Option D), cc.dats = [d] ∧ cc.ok l ∧ cc.sm ∧ cc.dep ≤ dp ∧ Wl s w lf2 C ∧ cc.sz + lf2 ≤ q + 1 ∧ σ = [some (.ref s), some (.ref w), some (.int (dp : Nat)), some (.bl l), some (.tup b.dats), some (.int (0 + (k : Nat))), some (.int c), some d, y8]
      have asr : Bd.fit (.tup [.str "assert", .tup [.str "flag", .bl true]]) := ⟨"assert", _, rfl, by decide, by decide, by decide, by decide, pl_le (pl2 (n := 1) pl_s (pl2 (n := 0) pl_s pl_b)) (by decide)⟩
      have j0 : J [some (.ref s), some (.ref w), some (.int (dp : Nat)), some (.bl l), some (.tup b.dats), some (.int (0 + (k : Nat))), some (.int c), some (.tup [.str "assert", .tup [.str "flag", .bl true]]), x8] B2 :=
        ⟨DB, .lf _ .nil, q, _, _, rfl, ⟨asr, trivial⟩, ⟨pl2 (n := 1) pl_s (pl2 (n := 0) pl_s pl_b), trivial⟩, Nat.zero_le _, g2, by show 0 + 1 + q ≤ _; omega, rfl⟩
      have plf : ∀ b : Bool, Pl 1 (.tup [.str "flag", .bl b]) := fun b => pl2 (n := 0) pl_s pl_b
      have plf9 : ∀ b : Bool, Pl 9 (.tup [.str "flag", .bl b]) := fun b => pl_le (plf b) (by decide)
      refine sat_mid J ?_ fun σ C ⟨DC, cc, lf2, d, y8, e1, co, cs, cd, gC, cz, hσ⟩ => ?_
      · by_cases dpos : (0 : Int) < (dp : Nat)
        rotate_left
        · simp only [EV, Ab.isNon, args, List.map, List.length_cons, List.length_nil, List.length_singleton, List.replicate, Nat.reduceSub, Nat.reduceAdd, Nat.zero_add, List.cons_append, List.nil_append, List.getElem?_cons_zero, List.getElem?_cons_succ, List.set_cons_zero, List.set_cons_succ, Option.some.injEq, decide_eq_true_eq, Bool.not_eq_true', decide_eq_false_iff_not, ite_true, ite_false, if_true, if_false, reduceIte, Bool.false_eq_true, Bool.not_true, Bool.not_false, Bool.true_eq_false, decide_true, decide_false, Nat.reduceLeDiff, Nat.reduceLT, dpos]
          cases l with
          | false => simp only [EV, Ab.isNon, args, List.map, List.length_cons, List.length_nil, List.length_singleton, List.replicate, Nat.reduceSub, Nat.reduceAdd, Nat.zero_add, List.cons_append, List.nil_append, List.getElem?_cons_zero, List.getElem?_cons_succ, List.set_cons_zero, List.set_cons_succ, Option.some.injEq, decide_eq_true_eq, Bool.not_eq_true', decide_eq_false_iff_not, ite_true, ite_false, if_true, if_false, reduceIte, Bool.false_eq_true, Bool.not_true, Bool.not_false, Bool.true_eq_false, decide_true, decide_false, Nat.reduceLeDiff, Nat.reduceLT]; exact ⟨_, rfl, j0⟩
          | true =>
            simp only [EV, Ab.isNon, args, List.map, List.length_cons, List.length_nil, List.length_singleton, List.replicate, Nat.reduceSub, Nat.reduceAdd, Nat.zero_add, List.cons_append, List.nil_append, List.getElem?_cons_zero, List.getElem?_cons_succ, List.set_cons_zero, List.set_cons_succ, Option.some.injEq, decide_eq_true_eq, Bool.not_eq_true', decide_eq_false_iff_not, ite_true, ite_false, if_true, if_false, reduceIte, Bool.false_eq_true, Bool.not_true, Bool.not_false, Bool.true_eq_false, decide_true, decide_false, Nat.reduceLeDiff, Nat.reduceLT]
            split
            · exact ⟨_, rfl, DB, .brk .nil, q, _, _, rfl, ⟨rfl, trivial⟩, trivial, Nat.zero_le _, g2, by show 0 + 1 + q ≤ _; omega, rfl⟩
            · exact ⟨_, rfl, j0⟩
        obtain ⟨dq, rfl⟩ : ∃ dq, dp = dq + 1 := ⟨dp - 1, by omega⟩
        have ed : (((dq + 1 : Nat) : Nat) : Int) - 1 = ((dq : Nat) : Int) := by omega
        by_cases cw : c = 0
        · simp only [EV, Ab.isNon, args, List.map, List.length_cons, List.length_nil, List.length_singleton, List.replicate, Nat.reduceSub, Nat.reduceAdd, Nat.zero_add, List.cons_append, List.nil_append, List.getElem?_cons_zero, List.getElem?_cons_succ, List.set_cons_zero, List.set_cons_succ, Option.some.injEq, decide_eq_true_eq, Bool.not_eq_true', decide_eq_false_iff_not, ite_true, ite_false, if_true, if_false, reduceIte, Bool.false_eq_true, Bool.not_true, Bool.not_false, Bool.true_eq_false, decide_true, decide_false, Nat.reduceLeDiff, Nat.reduceLT, dpos, cw, ed]
          refine Sat.imp (ih s w dq q true B2 (by omega) (by omega) ws g2) fun d B3 ⟨D3, a, lf3, e, ao, as_, ad, g3, az⟩ => ?_
          subst e
          exact ⟨_, rfl, DB.trans D3, .whl (.tup [.str "flag", .bl true]) a .nil, lf3, _, _, rfl, ⟨plf9 _, ao, trivial⟩, ⟨plf _, as_, trivial⟩, by show max (a.dep + 1) 0 ≤ _; omega, g3, by show a.sz + 0 + 1 + lf3 ≤ _; omega, by rw [cw]⟩
        by_cases c3 : c < 3
        · simp only [EV, Ab.isNon, args, List.map, List.length_cons, List.length_nil, List.length_singleton, List.replicate, Nat.reduceSub, Nat.reduceAdd, Nat.zero_add, List.cons_append, List.nil_append, List.getElem?_cons_zero, List.getElem?_cons_succ, List.set_cons_zero, List.set_cons_succ, Option.some.injEq, decide_eq_true_eq, Bool.not_eq_true', decide_eq_false_iff_not, ite_true, ite_false, if_true, if_false, reduceIte, Bool.false_eq_true, Bool.not_true, Bool.not_false, Bool.true_eq_false, decide_true, decide_false, Nat.reduceLeDiff, Nat.reduceLT, dpos, cw, c3, ed]
          refine sat_seq ?_
          simp only [EV, Ab.isNon, args, List.map, List.length_cons, List.length_nil, List.length_singleton, List.replicate, Nat.reduceSub, Nat.reduceAdd, Nat.zero_add, List.cons_append, List.nil_append, List.getElem?_cons_zero, List.getElem?_cons_succ, List.set_cons_zero, List.set_cons_succ, Option.some.injEq, decide_eq_true_eq, Bool.not_eq_true', decide_eq_false_iff_not, ite_true, ite_false, if_true, if_false, reduceIte, Bool.false_eq_true, Bool.not_true, Bool.not_false, Bool.true_eq_false, decide_true, decide_false, Nat.reduceLeDiff, Nat.reduceLT, ed]
          refine Sat.imp (ih s w dq q l B2 (by omega) (by omega) ws g2) fun d B3 ⟨D3, a, lf3, e, ao, as_, ad, g3, az⟩ => ?_
          subst e
          refine Sat.imp (ih s w dq lf3 l B3 (by omega) (by omega) ws g3) fun d B4 ⟨D4, a2, lf4, e, ao2, as2, ad2, g4, az2⟩ => ?_
          subst e
          exact ⟨_, rfl, (DB.trans D3).trans D4, .ite (.tup [.str "flag", .bl false]) a a2 .nil, lf4, _, _, rfl, ⟨plf9 _, ao, ao2, trivial⟩, ⟨plf _, as_, as2, trivial⟩, by show max (max a.dep a2.dep + 1) 0 ≤ _; omega, g4, by show a.sz + a2.sz + 0 + 1 + lf4 ≤ _; omega, rfl⟩
        simp only [EV, Ab.isNon, args, List.map, List.length_cons, List.length_nil, List.length_singleton, List.replicate, Nat.reduceSub, Nat.reduceAdd, Nat.zero_add, List.cons_append, List.nil_append, List.getElem?_cons_zero, List.getElem?_cons_succ, List.set_cons_zero, List.set_cons_succ, Option.some.injEq, decide_eq_true_eq, Bool.not_eq_true', decide_eq_false_iff_not, ite_true, ite_false, if_true, if_false, reduceIte, Bool.false_eq_true, Bool.not_true, Bool.not_false, Bool.true_eq_false, decide_true, decide_false, Nat.reduceLeDiff, Nat.reduceLT, dpos, cw, c3]
        cases l with
        | false => simp only [EV, Ab.isNon, args, List.map, List.length_cons, List.length_nil, List.length_singleton, List.replicate, Nat.reduceSub, Nat.reduceAdd, Nat.zero_add, List.cons_append, List.nil_append, List.getElem?_cons_zero, List.getElem?_cons_succ, List.set_cons_zero, List.set_cons_succ, Option.some.injEq, decide_eq_true_eq, Bool.not_eq_true', decide_eq_false_iff_not, ite_true, ite_false, if_true, if_false, reduceIte, Bool.false_eq_true, Bool.not_true, Bool.not_false, Bool.true_eq_false, decide_true, decide_false, Nat.reduceLeDiff, Nat.reduceLT]; exact ⟨_, rfl, j0⟩
        | true =>
          simp only [EV, Ab.isNon, args, List.map, List.length_cons, List.length_nil, List.length_singleton, List.replicate, Nat.reduceSub, Nat.reduceAdd, Nat.zero_add, List.cons_append, List.nil_append, List.getElem?_cons_zero, List.getElem?_cons_succ, List.set_cons_zero, List.set_cons_succ, Option.some.injEq, decide_eq_true_eq, Bool.not_eq_true', decide_eq_false_iff_not, ite_true, ite_false, if_true, if_false, reduceIte, Bool.false_eq_true, Bool.not_true, Bool.not_false, Bool.true_eq_false, decide_true, decide_false, Nat.reduceLeDiff, Nat.reduceLT]
          split
          · exact ⟨_, rfl, DB, .brk .nil, q, _, _, rfl, ⟨rfl, trivial⟩, trivial, Nat.zero_le _, g2, by show 0 + 1 + q ≤ _; omega, rfl⟩
          · exact ⟨_, rfl, j0⟩
      subst hσ
      have lb := b.dats_le
      simp only [EV, Ab.isNon, args, List.map, List.length_cons, List.length_nil, List.length_singleton, List.replicate, Nat.reduceSub, Nat.reduceAdd, Nat.zero_add, List.cons_append, List.nil_append, List.getElem?_cons_zero, List.getElem?_cons_succ, List.set_cons_zero, List.set_cons_succ, Option.some.injEq, decide_eq_true_eq, Bool.not_eq_true', decide_eq_false_iff_not, ite_true, ite_false, if_true, if_false, reduceIte, Bool.false_eq_true, Bool.not_true, Bool.not_false, Bool.true_eq_false, decide_true, decide_false, Nat.reduceLeDiff, Nat.reduceLT]
      rw [ev_add_tt (sl_le (by simp; omega))]
      simp only [EV, Ab.isNon, args, List.map, List.length_cons, List.length_nil, List.length_singleton, List.replicate, Nat.reduceSub, Nat.reduceAdd, Nat.zero_add, List.cons_append, List.nil_append, List.getElem?_cons_zero, List.getElem?_cons_succ, List.set_cons_zero, List.set_cons_succ, Option.some.injEq, decide_eq_true_eq, Bool.not_eq_true', decide_eq_false_iff_not, ite_true, ite_false, if_true, if_false, reduceIte, Bool.false_eq_true, Bool.not_true, Bool.not_false, Bool.true_eq_false, decide_true, decide_false, Nat.reduceLeDiff, Nat.reduceLT, turn_]
      rw [show b.dats ++ [d] = (b.app cc).dats by rw [b.app_dats, e1]]
      exact ⟨DC, b.app cc, lf2, b.app_ok cc l ok co, b.app_sm cc sm cs, b.app_dep cc dp bd cd, gC, by rw [b.app_sz]; omega, _, _, _, _, rfl⟩
    · subst hσ
      simp only [EV, Ab.isNon, args, List.map, List.length_cons, List.length_nil, List.length_singleton, List.replicate, Nat.reduceSub, Nat.reduceAdd, Nat.zero_add, List.cons_append, List.nil_append, List.getElem?_cons_zero, List.getElem?_cons_succ, List.set_cons_zero, List.set_cons_succ, Option.some.injEq, decide_eq_true_eq, Bool.not_eq_true', decide_eq_false_iff_not, ite_true, ite_false, if_true, if_false, reduceIte, Bool.false_eq_true, Bool.not_true, Bool.not_false, Bool.true_eq_false, decide_true, decide_false, Nat.reduceLeDiff, Nat.reduceLT]
      exact ⟨DB, b, lf', rfl, ok, sm, bd, g, sz⟩
end Law

namespace Law
open PySem PySem.Spec PyProof.Rows L2 Ab
open scoped Classical
/-! ### drawn programs -/
theorem nmS_no : ∀ v : Nat, v < 4 → ∀ x ∈ (List.range 20).map (nmS v), x ≠ "result" ∧ x ≠ "main"
  | 0, _ => by decide +kernel
  | 1, _ => by decide +kernel
  | 2, _ => by decide +kernel
  | 3, _ => by decide +kernel
  | v + 4, h => by omega
theorem cut_mid {α : Type} {xs : List α} {a n : Nat} (h : a + n ≤ xs.length) : cutL xs (some (a : Nat)) (some ((a + n : Nat) : Int)) = (xs.drop a).take n := by
  unfold cutL
  show (xs.drop (min a xs.length)).take (min (a + n) xs.length - min a xs.length) = _
  rw [Nat.min_eq_left (show a ≤ xs.length by omega), Nat.min_eq_left h, Nat.add_sub_cancel_left]
theorem range_cut {ns : List Str} {a n : Nat} (h : a + n ≤ ns.length) : (List.range n).map (fun j => ns.getD (a + j) "") = (ns.drop a).take n := by
  apply List.ext_getElem?
  intro i
  rw [List.getElem?_map]
  by_cases hi : i < n
  · rw [List.getElem?_range hi, List.getElem?_take_of_lt hi, List.getElem?_drop]
    show some (ns.getD (a + i) "") = _
    rw [List.getD_eq_getElem?_getD, List.getElem?_eq_getElem (show a + i < ns.length by omega)]; rfl
  · rw [List.getElem?_eq_none (show (List.range n).length ≤ i by rw [List.length_range]; omega), List.getElem?_eq_none (by rw [List.length_take]; omega)]; rfl
theorem sub_names {ns : List Str} {a b c : Nat} : (((ns.drop 5).take 4).take a ++ ((ns.drop 12).take 3).take b ++ ((ns.drop 15).take 4).take c).Sublist ns := by
  have h1 : (((ns.drop 5).take 4).take a).Sublist (ns.take 9) := by
    refine (List.take_sublist ..).trans ?_
    rw [show (ns.drop 5).take 4 = (ns.take 9).drop 5 by rw [List.drop_take]]
    exact List.drop_sublist ..
  have h2 : (((ns.drop 12).take 3).take b ++ ((ns.drop 15).take 4).take c).Sublist (ns.drop 9) := by
    have e : ns.drop 12 = (ns.drop 12).take 3 ++ ns.drop 15 := by
      have := (List.take_append_drop 3 (ns.drop 12)).symm
      rw [List.drop_drop] at this
      exact this
    refine List.Sublist.trans (l₂ := ns.drop 12) ?_ ?_
    · rw [e]
      refine List.Sublist.append ?_ ((List.take_sublist ..).trans (List.take_sublist ..))
      rw [← e]
      exact List.take_sublist ..
    · rw [show ns.drop 12 = (ns.drop 9).drop 3 by rw [List.drop_drop]]
      exact List.drop_sublist ..
  have := List.Sublist.append h1 h2
  rw [List.take_append_drop, ← List.append_assoc] at this
  exact this
theorem draw_list {β κ : Type} (f : β → D) (key : β → κ) (K : Nat → κ) : ∀ (q : List D) (a : Nat), (∀ (i : Nat) v, q[i]? = some v → ∃ b : β, v = f b ∧ key b = K (a + i)) → ∃ bs : List β, q = bs.map f ∧ bs.map key = (List.range' a q.length).map K
  | [], a, _ => ⟨[], rfl, rfl⟩
  | d :: q, a, h => by
    obtain ⟨b, e1, e2⟩ := h 0 d rfl
    obtain ⟨bs, e3, e4⟩ := draw_list f key K q (a + 1) fun i v hv => by
      obtain ⟨b, x, y⟩ := h (i + 1) v hv
      exact ⟨b, x, by rw [y]; congr 1; omega⟩
    exact ⟨b :: bs, by rw [List.map_cons, ← e1, ← e3], by rw [List.map_cons, List.length_cons, List.range'_succ, List.map_cons, e2, e4]; rfl⟩
/-- a function as it is drawn -/
structure Fdr (ns : List Str) (f : Fn) : Prop where
  ps : f.ps.map (·.1) = ((ns.drop 12).take 3).take f.ps.length
  own : f.own.map (·.1) = ((ns.drop 15).take 4).take f.own.length
  pl : f.ps.length ≤ 3
  ol : f.own.length ≤ 4
  ok : f.b.ok false
  sm : f.b.sm
  dp : f.b.dep ≤ 3
  sz : f.b.sz ≤ 15
theorem pok_of {p : Pg} {ns : List Str} (nd : ns.Nodup) (nr : ∀ x ∈ ns, x ≠ "result") (l20 : ns.length = 20) (fd : ∀ f ∈ p.fns, Fdr ns f) (fnd : (p.fns.map Fn.nm).Nodup) (ff : p.fns.length ≤ 4) (gl : p.gl.map (·.1) = ((ns.drop 5).take 4).take p.gl.length) (gll : p.gl.length ≤ 4)
    (rnd : (p.recs.map Rk.nm).Nodup) (rf : p.recs.length ≤ 3) (rf2 : ∀ k ∈ p.recs, k.fs.length ≤ 3) (and_ : (p.arrs.map (·.1)).Nodup) (af : p.arrs.length ≤ 3) : Pok p := by
  refine ⟨fun f hf => ?_, by omega, by omega, by omega, fun k hk => by have := rf2 k hk; omega, by omega⟩
  have d := fd f hf
  have vn : (f.vis p).map (·.1) = ((ns.drop 5).take 4).take p.gl.length ++ ((ns.drop 12).take 3).take f.ps.length ++ ((ns.drop 15).take 4).take f.own.length := by
    unfold Fn.vis
    rw [List.map_append, List.map_append, gl, d.ps, d.own]
  have sub := sub_names (ns := ns) (a := p.gl.length) (b := f.ps.length) (c := f.own.length)
  rw [← vn] at sub
  have d1 := d.pl
  have d2 := d.ol
  refine ⟨⟨hf, fnd, nd.sublist sub, fun q hq => nr _ (sub.subset (List.mem_map.mpr ⟨q, hq, rfl⟩)), rnd, and_, ?_, by omega, fun k hk => by have := rf2 k hk; omega, by omega, d.ok, by have := d.dp; omega, by have := d.sz; omega, f.b.flat_w false d.ok⟩, d.sm, by have := d.dp; omega⟩
  unfold Fn.vis
  rw [List.length_append, List.length_append]; omega
end Law

namespace Law
open PySem PySem.Spec PyProof.Rows L2 Ab
open scoped Classical
/-! ### drawn programs: the draw -/
theorem gr_dr {A B C : AH} {s : Nat} (g : Gr A B) (d : Dr s B C) (h : A.length ≤ s) : Gr A C := ⟨Nat.le_trans g.le d.le, fun i o e => d.keep i o (by have := at_lt e; omega) (g.keep i o e)⟩
theorem gr_dw2 {A B C : AH} {s w : Nat} (g : Gr A B) (d : Dw s w B C) (h : A.length ≤ s) (h2 : A.length ≤ w) : Gr A C := ⟨Nat.le_trans g.le d.le, fun i o e => d.keep i o (by have := at_lt e; omega) (by have := at_lt e; omega) (g.keep i o e)⟩
/-- a list's display whose items are drawn (items of a range) -/
theorem comp_drawR {s m : Nat} {f : FE} {σ : ASt} {A : AH} {R : D → AH → Prop} {n : Nat} (Pv : Nat → D → Prop) (hs : Sr s A)
    (hf : ∀ k, k < n → ∀ C, Dr s A C → DrwS s C (f (σ.set m (some (.int (k : Nat)))) C) fun d => Pv k d) (hn : n ≤ 1000)
    (hR : ∀ (q : List D) C, q.length = n → (∀ (i : Nat) v, q[i]? = some v → Pv i v) → Dr s A C → C[A.length]? = some (.lst q) → R (.ref A.length) C) :
    Sat (loopC yes (gN m) fYes f A.length σ (rngL 0 n) (A ++ [.lst []])) R := by
  have sl := hs.lt
  refine comp_range (fun k acc C => acc.length = k ∧ (∀ (i : Nat) v, acc[i]? = some v → Pv i v) ∧ Dr s A C ∧ C[A.length]? = some (.lst acc)) (fun k acc C hk ⟨e3, e4, dr, hC⟩ => ?_) (fun acc C ⟨e3, e4, dr, hC⟩ => hR acc C e3 e4 dr hC) (acc := []) ⟨rfl, by simp, Dr.app hs _, at_new⟩
  show Sat (Res.ok (σ.set m (some (.int (0 + (k : Nat))))) C) _
  rw [sat_ok, Int.zero_add]
  refine Sat.imp (hf k hk C dr) fun d C2 ⟨hv, dr2⟩ => ?_
  have hC := dr2.keep _ _ (by omega) hC
  refine ⟨hC, by omega, by simp [e3], fun i w hw => ?_, (dr.trans dr2).setN (Nat.le_refl _) hs, at_set (at_lt hC)⟩
  by_cases lt : i < acc.length
  · rw [List.getElem?_append_left lt] at hw
    exact e4 i w hw
  · have ei : i = acc.length := by
      have := (List.getElem?_eq_some_iff.mp hw).1
      simp at this; omega
    subst ei
    rw [List.getElem?_append_right (Nat.le_refl _), Nat.sub_self] at hw
    cases hw
    rw [e3]; exact hv
theorem drawn_spec {A : AH} {c : Int} : Sat (m__law_drawn [.int c] A) fun d A' => Gr A A' ∧ ∃ p : Pg, d = p.d ∧ Pok p ∧ p.fns.length ≤ 4 := by
  refine sat_body rfl (sat_seq ?_)
  simp only [EV, Ab.isNon, args, List.map, List.length_cons, List.length_nil, List.length_singleton, List.replicate, Nat.reduceSub, Nat.reduceAdd, Nat.zero_add, List.cons_append, List.nil_append, List.getElem?_cons_zero, List.getElem?_cons_succ, List.set_cons_zero, List.set_cons_succ, Option.some.injEq, decide_eq_true_eq, Bool.not_eq_true', decide_eq_false_iff_not, ite_true, ite_false, if_true, if_false, reduceIte, Bool.false_eq_true, Bool.not_true, Bool.not_false, Bool.true_eq_false, decide_true, decide_false, Nat.reduceLeDiff, Nat.reduceLT, source_spec]
  have S1 := src_new (A := A) (v := c)
  have G1 := Gr.app (A := A) (B := [AO.lst [.int c, .int c, .int 0]])
  generalize A ++ [AO.lst [.int c, .int c, .int 0]] = A1 at *
  obtain ⟨s, es⟩ : ∃ s, A.length = s := ⟨_, rfl⟩
  have sA : A.length ≤ s := by omega
  rw [es] at S1
  simp only [es]
  refine sat_seq ?_
  simp only [EV, Ab.isNon, args, List.map, List.length_cons, List.length_nil, List.length_singleton, List.replicate, Nat.reduceSub, Nat.reduceAdd, Nat.zero_add, List.cons_append, List.nil_append, List.getElem?_cons_zero, List.getElem?_cons_succ, List.set_cons_zero, List.set_cons_succ, Option.some.injEq, decide_eq_true_eq, Bool.not_eq_true', decide_eq_false_iff_not, ite_true, ite_false, if_true, if_false, reduceIte, Bool.false_eq_true, Bool.not_true, Bool.not_false, Bool.true_eq_false, decide_true, decide_false, Nat.reduceLeDiff, Nat.reduceLT]
  refine Sat.imp (names_spec S1) fun d A2 ⟨D2, r, v, e, lr, hv, hr⟩ => ?_
  subst e
  have s1 := S1.lt
  have rs : r ≠ s := by omega
  have G2 := gr_dr G1 D2 sA
  have nd := nmS_nd v hv
  have no := nmS_no v hv
  have lw : ((List.range 20).map (nmS v)).length = 20 := by simp
  generalize (List.range 20).map (nmS v) = ws at *
  refine sat_seq ?_
  simp only [EV, Ab.isNon, args, List.map, List.length_cons, List.length_nil, List.length_singleton, List.replicate, Nat.reduceSub, Nat.reduceAdd, Nat.zero_add, List.cons_append, List.nil_append, List.getElem?_cons_zero, List.getElem?_cons_succ, List.set_cons_zero, List.set_cons_succ, Option.some.injEq, decide_eq_true_eq, Bool.not_eq_true', decide_eq_false_iff_not, ite_true, ite_false, if_true, if_false, reduceIte, Bool.false_eq_true, Bool.not_true, Bool.not_false, Bool.true_eq_false, decide_true, decide_false, Nat.reduceLeDiff, Nat.reduceLT]
  refine Sat.imp (pick_pos D2.src (n := 20) (by decide) (by decide)) fun d A3 ⟨⟨k, e, k0, k1⟩, D3⟩ => ?_
  subst e
  have hr := D3.keep _ _ rs hr
  have G3 := gr_dr G2 D3 sA
  obtain ⟨k, rfl⟩ : ∃ n : Nat, k = (n : Nat) := ⟨k.toNat, by omega⟩
  refine sat_seq ?_
  simp only [EV, Ab.isNon, args, List.map, List.length_cons, List.length_nil, List.length_singleton, List.replicate, Nat.reduceSub, Nat.reduceAdd, Nat.zero_add, List.cons_append, List.nil_append, List.getElem?_cons_zero, List.getElem?_cons_succ, List.set_cons_zero, List.set_cons_succ, Option.some.injEq, decide_eq_true_eq, Bool.not_eq_true', decide_eq_false_iff_not, ite_true, ite_false, if_true, if_false, reduceIte, Bool.false_eq_true, Bool.not_true, Bool.not_false, Bool.true_eq_false, decide_true, decide_false, Nat.reduceLeDiff, Nat.reduceLT, ev_sl_l hr, cut_tl]
  have h1 := at_new (A := A3) (o := .lst ((ws.map D.str).drop k))
  have g1 := Gr.app (A := A3) (B := [AO.lst ((ws.map D.str).drop k)])
  have hr := g1.keep _ _ hr
  generalize A3 ++ [AO.lst ((ws.map D.str).drop k)] = A4 at *
  simp only [ev_sl_l hr, cut_hd, EV, Ab.isNon, args, List.map, List.length_cons, List.length_nil, List.length_singleton, List.replicate, Nat.reduceSub, Nat.reduceAdd, Nat.zero_add, List.cons_append, List.nil_append, List.getElem?_cons_zero, List.getElem?_cons_succ, List.set_cons_zero, List.set_cons_succ, Option.some.injEq, decide_eq_true_eq, Bool.not_eq_true', decide_eq_false_iff_not, ite_true, ite_false, if_true, if_false, reduceIte, Bool.false_eq_true, Bool.not_true, Bool.not_false, Bool.true_eq_false, decide_true, decide_false, Nat.reduceLeDiff, Nat.reduceLT]
  have h2 := at_new (A := A4) (o := .lst ((ws.map D.str).take k))
  have g2 := Gr.app (A := A4) (B := [AO.lst ((ws.map D.str).take k)])
  have h1 := g2.keep _ _ h1
  have g := g1.trans g2
  generalize A4 ++ [AO.lst ((ws.map D.str).take k)] = A5 at *
  rw [ev_add_rr (muL_l h1) (muL_l h2) (sl_le (by simp; omega))]
  simp only [EV, Ab.isNon, args, List.map, List.length_cons, List.length_nil, List.length_singleton, List.replicate, Nat.reduceSub, Nat.reduceAdd, Nat.zero_add, List.cons_append, List.nil_append, List.getElem?_cons_zero, List.getElem?_cons_succ, List.set_cons_zero, List.set_cons_succ, Option.some.injEq, decide_eq_true_eq, Bool.not_eq_true', decide_eq_false_iff_not, ite_true, ite_false, if_true, if_false, reduceIte, Bool.false_eq_true, Bool.not_true, Bool.not_false, Bool.true_eq_false, decide_true, decide_false, Nat.reduceLeDiff, Nat.reduceLT]
  have en : (ws.map D.str).drop k ++ (ws.map D.str).take k = (ws.drop k ++ ws.take k).map D.str := by rw [← List.map_drop, ← List.map_take, List.map_append]
  rw [en]
  have hN := at_new (A := A5) (o := .lst ((ws.drop k ++ ws.take k).map D.str))
  have g3 := g.trans (Gr.app (A := A5) (B := [AO.lst ((ws.drop k ++ ws.take k).map D.str)]))
  have S5 := Sr.gr g3 D3.src
  have G5 := G3.trans g3
  have pm : (ws.drop k ++ ws.take k).Perm ws := List.perm_append_comm.trans (by rw [List.take_append_drop])
  have nd2 := pm.symm.nodup nd
  have no2 : ∀ x ∈ ws.drop k ++ ws.take k, x ≠ "result" ∧ x ≠ "main" := fun x hx => no x (pm.mem_iff.mp hx)
  have l20 : (ws.drop k ++ ws.take k).length = 20 := by rw [pm.length_eq]; exact lw
  generalize ws.drop k ++ ws.take k = ns at *
  clear no nd lw en hr h1 h2 g1 g2 g pm
  have lA5 := g3.le
  have s3 := D3.src.lt
  generalize hA6 : A5 ++ [AO.lst (ns.map D.str)] = A6 at *
  obtain ⟨N, eN⟩ : ∃ N, A5.length = N := ⟨_, rfl⟩
  have Ns : N ≠ s := by
    have := S5.lt
    intro e
    rw [← hA6] at S5
    obtain ⟨a, b, c, h⟩ := S5
    rw [← e, ← eN, at_new] at h
    have := Option.some.inj h
    injection this with this
    have := congrArg List.length this
    simp [l20] at this
  rw [eN] at hN
  simp only [eN]
  clear hA6
  -- the record kinds' names
  refine sat_seq ?_
  simp only [EV, Ab.isNon, args, List.map, List.length_cons, List.length_nil, List.length_singleton, List.replicate, Nat.reduceSub, Nat.reduceAdd, Nat.zero_add, List.cons_append, List.nil_append, List.getElem?_cons_zero, List.getElem?_cons_succ, List.set_cons_zero, List.set_cons_succ, Option.some.injEq, decide_eq_true_eq, Bool.not_eq_true', decide_eq_false_iff_not, ite_true, ite_false, if_true, if_false, reduceIte, Bool.false_eq_true, Bool.not_true, Bool.not_false, Bool.true_eq_false, decide_true, decide_false, Nat.reduceLeDiff, Nat.reduceLT]
  refine Sat.imp (pick_pos S5 (n := 3) (by decide) (by decide)) fun d A7 ⟨⟨n, e, n0, n1⟩, D7⟩ => ?_
  subst e
  obtain ⟨n, rfl⟩ : ∃ m : Nat, n = (m : Nat) := ⟨n.toNat, by omega⟩
  have hN := D7.keep _ _ Ns hN
  have G7 := gr_dr G5 D7 sA
  have e1 : (1 : Int) + (n : Nat) = ((1 + n : Nat) : Int) := by omega
  simp only [EV, Ab.isNon, args, List.map, List.length_cons, List.length_nil, List.length_singleton, List.replicate, Nat.reduceSub, Nat.reduceAdd, Nat.zero_add, List.cons_append, List.nil_append, List.getElem?_cons_zero, List.getElem?_cons_succ, List.set_cons_zero, List.set_cons_succ, Option.some.injEq, decide_eq_true_eq, Bool.not_eq_true', decide_eq_false_iff_not, ite_true, ite_false, if_true, if_false, reduceIte, Bool.false_eq_true, Bool.not_true, Bool.not_false, Bool.true_eq_false, decide_true, decide_false, Nat.reduceLeDiff, Nat.reduceLT, e1, ev_sl_l hN, cut_hd]
  rw [← List.map_take]
  have hR := at_new (A := A7) (o := .lst ((ns.take (1 + n)).map D.str))
  have g8 := Gr.app (A := A7) (B := [AO.lst ((ns.take (1 + n)).map D.str)])
  have S8 := Sr.gr g8 D7.src
  have hN := g8.keep _ _ hN
  have G8 := G7.trans g8
  have lR := D7.src.lt
  generalize A7 ++ [AO.lst ((ns.take (1 + n)).map D.str)] = A8 at *
  obtain ⟨R, eR⟩ : ∃ R, A7.length = R := ⟨_, rfl⟩
  rw [eR] at hR lR
  simp only [eR]
  have Rs : R ≠ s := by omega
  have rnl : (ns.take (1 + n)).length = 1 + n := by rw [List.length_take]; omega
  have rnn : (ns.take (1 + n)).Nodup := nd2.sublist (List.take_sublist ..)
  generalize hrn : ns.take (1 + n) = rn at *
  -- the record kinds
  refine sat_seq ?_
  simp only [EV, Ab.isNon, args, List.map, List.length_cons, List.length_nil, List.length_singleton, List.replicate, Nat.reduceSub, Nat.reduceAdd, Nat.zero_add, List.cons_append, List.nil_append, List.getElem?_cons_zero, List.getElem?_cons_succ, List.set_cons_zero, List.set_cons_succ, Option.some.injEq, decide_eq_true_eq, Bool.not_eq_true', decide_eq_false_iff_not, ite_true, ite_false, if_true, if_false, reduceIte, Bool.false_eq_true, Bool.not_true, Bool.not_false, Bool.true_eq_false, decide_true, decide_false, Nat.reduceLeDiff, Nat.reduceLT]
  have lNN := at_lt hN
  have lRR := at_lt hR
  have h5 := at_new (A := A8) (o := .lst [])
  have g9 := Gr.app (A := A8) (B := [AO.lst []])
  have S9 := Sr.gr g9 S8
  have hN := g9.keep _ _ hN
  have hR := g9.keep _ _ hR
  have G9 := G8.trans g9
  have lA8 := S8.lt
  generalize A8 ++ [AO.lst []] = A9 at *
  obtain ⟨L5, e5⟩ : ∃ L5, A8.length = L5 := ⟨_, rfl⟩
  rw [e5] at h5 lA8 lNN lRR
  simp only [e5]
  have L5s : L5 ≠ s := by omega
  have L5A : A.length ≤ L5 := by omega
  refine sat_seq ?_
  simp only [EV, Ab.isNon, args, List.map, List.length_cons, List.length_nil, List.length_singleton, List.replicate, Nat.reduceSub, Nat.reduceAdd, Nat.zero_add, List.cons_append, List.nil_append, List.getElem?_cons_zero, List.getElem?_cons_succ, List.set_cons_zero, List.set_cons_succ, Option.some.injEq, decide_eq_true_eq, Bool.not_eq_true', decide_eq_false_iff_not, ite_true, ite_false, if_true, if_false, reduceIte, Bool.false_eq_true, Bool.not_true, Bool.not_false, Bool.true_eq_false, decide_true, decide_false, Nat.reduceLeDiff, Nat.reduceLT, ev_iseq_l hR]
  refine loop_inv (fun es σ B => Gr A B ∧ Sr s B ∧ B[N]? = some (.lst (ns.map D.str)) ∧ B[R]? = some (.lst (rn.map D.str)) ∧ (∃ pre post : List Str, rn = pre ++ post ∧ es = post.map D.str ∧ ∃ ks : List Rk, B[L5]? = some (.lst (ks.map rkD)) ∧ ks.map Rk.nm = pre ∧ ∀ k ∈ ks, k.fs.length ≤ 3) ∧ ∃ x6 x7 x8, σ = [some (.int c), some (.ref s), some (.ref N), some (.int (k : Nat)), some (.ref R), some (.ref L5), x6, x7, x8, none, none, none, none, none, none, none, none, none])
    (fun e es σ B ⟨GB, SB, hN, hR, ⟨pre, post, ep, ee, ks, h5, kn, kf⟩, x6, x7, x8, hσ⟩ => ⟨rdL_l hR, ?_⟩) (fun σ B ⟨GB, SB, hN, hR, ⟨pre, post, ep, ee, ks, h5, kn, kf⟩, x6, x7, x8, hσ⟩ => ⟨rdL_l hR, ?_⟩) _ _ _ ⟨G9, S9, hN, hR, ⟨[], rn, rfl, rfl, [], h5, rfl, by simp⟩, none, none, none, rfl⟩
  · subst hσ
    cases post with
    | nil => cases ee
    | cons w post =>
      rw [List.map_cons, List.cons.injEq] at ee
      obtain ⟨e1, e2⟩ := ee
      subst e1; subst e2
      simp only [EV, Ab.isNon, args, List.map, List.length_cons, List.length_nil, List.length_singleton, List.replicate, Nat.reduceSub, Nat.reduceAdd, Nat.zero_add, List.cons_append, List.nil_append, List.getElem?_cons_zero, List.getElem?_cons_succ, List.set_cons_zero, List.set_cons_succ, Option.some.injEq, decide_eq_true_eq, Bool.not_eq_true', decide_eq_false_iff_not, ite_true, ite_false, if_true, if_false, reduceIte, Bool.false_eq_true, Bool.not_true, Bool.not_false, Bool.true_eq_false, decide_true, decide_false, Nat.reduceLeDiff, Nat.reduceLT]
      refine sat_seq ?_
      simp only [EV, Ab.isNon, args, List.map, List.length_cons, List.length_nil, List.length_singleton, List.replicate, Nat.reduceSub, Nat.reduceAdd, Nat.zero_add, List.cons_append, List.nil_append, List.getElem?_cons_zero, List.getElem?_cons_succ, List.set_cons_zero, List.set_cons_succ, Option.some.injEq, decide_eq_true_eq, Bool.not_eq_true', decide_eq_false_iff_not, ite_true, ite_false, if_true, if_false, reduceIte, Bool.false_eq_true, Bool.not_true, Bool.not_false, Bool.true_eq_false, decide_true, decide_false, Nat.reduceLeDiff, Nat.reduceLT]
      refine Sat.imp (pick_pos SB (n := 3) (by decide) (by decide)) fun d B1 ⟨⟨z, e, z0, z1⟩, D1⟩ => ?_
      subst e
      obtain ⟨z, rfl⟩ : ∃ m : Nat, z = (m : Nat) := ⟨z.toNat, by omega⟩
      have GB := gr_dr GB D1 sA
      have hN := D1.keep _ _ Ns hN
      have hR := D1.keep _ _ Rs hR
      have h5 := D1.keep _ _ L5s h5
      simp only [EV, Ab.isNon, args, List.map, List.length_cons, List.length_nil, List.length_singleton, List.replicate, Nat.reduceSub, Nat.reduceAdd, Nat.zero_add, List.cons_append, List.nil_append, List.getElem?_cons_zero, List.getElem?_cons_succ, List.set_cons_zero, List.set_cons_succ, Option.some.injEq, decide_eq_true_eq, Bool.not_eq_true', decide_eq_false_iff_not, ite_true, ite_false, if_true, if_false, reduceIte, Bool.false_eq_true, Bool.not_true, Bool.not_false, Bool.true_eq_false, decide_true, decide_false, Nat.reduceLeDiff, Nat.reduceLT]
      rw [if_pos (inRg_of (by omega) (by omega)), Int.toNat_natCast]
      simp only [EV, Ab.isNon, args, List.map, List.length_cons, List.length_nil, List.length_singleton, List.replicate, Nat.reduceSub, Nat.reduceAdd, Nat.zero_add, List.cons_append, List.nil_append, List.getElem?_cons_zero, List.getElem?_cons_succ, List.set_cons_zero, List.set_cons_succ, Option.some.injEq, decide_eq_true_eq, Bool.not_eq_true', decide_eq_false_iff_not, ite_true, ite_false, if_true, if_false, reduceIte, Bool.false_eq_true, Bool.not_true, Bool.not_false, Bool.true_eq_false, decide_true, decide_false, Nat.reduceLeDiff, Nat.reduceLT, wipeA]
      refine comp_pure (fun l : Nat => .int (0 + (l : Nat))) (fun j => fldD (ns.getD (3 + j) "", .flag)) (fun _ => trivial) (fun j hj l => ?_) (by simp; omega) ?_
      · have hj := List.mem_range.mp hj
        have ixn : ixD (.ref N) (.int (3 + ((j : Nat) : Int))) (B1 ++ [AO.lst l]) = .ok (.str (ns.getD (3 + j) "")) (B1 ++ [AO.lst l]) := ev_ix_r (rdL_l (Gr.app.keep _ _ hN)) (by
          rw [atI_pos (by omega), show (3 + ((j : Nat) : Int)).toNat = 3 + j by omega, List.getElem?_map, List.getD_eq_getElem?_getD, List.getElem?_eq_getElem (show 3 + j < ns.length by omega)]; rfl)
        simp only [EV, Ab.isNon, args, List.map, List.length_cons, List.length_nil, List.length_singleton, List.replicate, Nat.reduceSub, Nat.reduceAdd, Nat.zero_add, List.cons_append, List.nil_append, List.getElem?_cons_zero, List.getElem?_cons_succ, List.set_cons_zero, List.set_cons_succ, Option.some.injEq, decide_eq_true_eq, Bool.not_eq_true', decide_eq_false_iff_not, ite_true, ite_false, if_true, if_false, reduceIte, Bool.false_eq_true, Bool.not_true, Bool.not_false, Bool.true_eq_false, decide_true, decide_false, Nat.reduceLeDiff, Nat.reduceLT, Int.zero_add, ixn]
        exact ⟨rfl, trivial⟩
      · have hF := at_new (A := B1) (o := .lst ((List.range z).map fun j => fldD (ns.getD (3 + j) "", .flag)))
        have g2 := Gr.app (A := B1) (B := [AO.lst ((List.range z).map fun j => fldD (ns.getD (3 + j) "", .flag))])
        have SB := Sr.gr g2 D1.src
        have GB := GB.trans g2
        have hN := g2.keep _ _ hN
        have hR := g2.keep _ _ hR
        have h5 := g2.keep _ _ h5
        generalize B1 ++ [AO.lst ((List.range z).map fun j => fldD (ns.getD (3 + j) "", .flag))] = B2 at *
        simp only [EV, Ab.isNon, args, List.map, List.length_cons, List.length_nil, List.length_singleton, List.replicate, Nat.reduceSub, Nat.reduceAdd, Nat.zero_add, List.cons_append, List.nil_append, List.getElem?_cons_zero, List.getElem?_cons_succ, List.set_cons_zero, List.set_cons_succ, Option.some.injEq, decide_eq_true_eq, Bool.not_eq_true', decide_eq_false_iff_not, ite_true, ite_false, if_true, if_false, reduceIte, Bool.false_eq_true, Bool.not_true, Bool.not_false, Bool.true_eq_false, decide_true, decide_false, Nat.reduceLeDiff, Nat.reduceLT, ty_l h5, ev_tup_ofL (rdL_l hF)]
        have kl : ks.length = pre.length := by rw [← kn, List.length_map]
        have pl : pre.length ≤ 3 := by have := congrArg List.length ep; rw [List.length_append, List.length_cons] at this; omega
        rw [ev_app h5 (by rw [List.length_map]; omega)]
        have ek : D.tup ((List.range z).map fun j => fldD (ns.getD (3 + j) "", .flag)) = fldsD ((List.range z).map fun j => (ns.getD (3 + j) "", .flag)) := by unfold fldsD; rw [List.map_map]; rfl
        rw [ek]
        simp only [EV, Ab.isNon, args, List.map, List.length_cons, List.length_nil, List.length_singleton, List.replicate, Nat.reduceSub, Nat.reduceAdd, Nat.zero_add, List.cons_append, List.nil_append, List.getElem?_cons_zero, List.getElem?_cons_succ, List.set_cons_zero, List.set_cons_succ, Option.some.injEq, decide_eq_true_eq, Bool.not_eq_true', decide_eq_false_iff_not, ite_true, ite_false, if_true, if_false, reduceIte, Bool.false_eq_true, Bool.not_true, Bool.not_false, Bool.true_eq_false, decide_true, decide_false, Nat.reduceLeDiff, Nat.reduceLT, turn_]
        refine ⟨GB.set L5A, ?_, by rw [List.getElem?_set_ne (by omega)]; exact hN, by rw [List.getElem?_set_ne (by omega)]; exact hR, ⟨pre ++ [w], post, by rw [ep]; simp, rfl, ks ++ [⟨w, (List.range z).map fun j => (ns.getD (3 + j) "", .flag)⟩], by rw [at_set (at_lt h5), List.map_append]; rfl, by rw [List.map_append, kn]; rfl, fun k hk => ?_⟩, _, _, _, rfl⟩
        · obtain ⟨a, b, q, h⟩ := SB
          exact ⟨a, b, q, by rw [List.getElem?_set_ne L5s]; exact h⟩
        · rcases List.mem_append.mp hk with h | h
          · exact kf k h
          · rw [List.mem_singleton.mp h]; simp; omega
  subst hσ
  have pz : post = [] := by cases post with | nil => rfl | cons a p => cases ee
  subst pz
  rw [List.append_nil] at ep
  subst ep
  simp only [EV, Ab.isNon, args, List.map, List.length_cons, List.length_nil, List.length_singleton, List.replicate, Nat.reduceSub, Nat.reduceAdd, Nat.zero_add, List.cons_append, List.nil_append, List.getElem?_cons_zero, List.getElem?_cons_succ, List.set_cons_zero, List.set_cons_succ, Option.some.injEq, decide_eq_true_eq, Bool.not_eq_true', decide_eq_false_iff_not, ite_true, ite_false, if_true, if_false, reduceIte, Bool.false_eq_true, Bool.not_true, Bool.not_false, Bool.true_eq_false, decide_true, decide_false, Nat.reduceLeDiff, Nat.reduceLT]
  clear G9 S9 G8 S8 G7 G5 S5 G3 G2 D7 D3 D2 G1 S1
  -- the arrays
  refine sat_seq ?_
  simp only [EV, Ab.isNon, args, List.map, List.length_cons, List.length_nil, List.length_singleton, List.replicate, Nat.reduceSub, Nat.reduceAdd, Nat.zero_add, List.cons_append, List.nil_append, List.getElem?_cons_zero, List.getElem?_cons_succ, List.set_cons_zero, List.set_cons_succ, Option.some.injEq, decide_eq_true_eq, Bool.not_eq_true', decide_eq_false_iff_not, ite_true, ite_false, if_true, if_false, reduceIte, Bool.false_eq_true, Bool.not_true, Bool.not_false, Bool.true_eq_false, decide_true, decide_false, Nat.reduceLeDiff, Nat.reduceLT]
  refine Sat.imp (pick_pos SB (n := 3) (by decide) (by decide)) fun d B1 ⟨⟨z, e, z0, z1⟩, D1⟩ => ?_
  subst e
  obtain ⟨z, rfl⟩ : ∃ m : Nat, z = (m : Nat) := ⟨z.toNat, by omega⟩
  have GB := gr_dr GB D1 sA
  have hN := D1.keep _ _ Ns hN
  have hR := D1.keep _ _ Rs hR
  have h5 := D1.keep _ _ L5s h5
  simp only [EV, Ab.isNon, args, List.map, List.length_cons, List.length_nil, List.length_singleton, List.replicate, Nat.reduceSub, Nat.reduceAdd, Nat.zero_add, List.cons_append, List.nil_append, List.getElem?_cons_zero, List.getElem?_cons_succ, List.set_cons_zero, List.set_cons_succ, Option.some.injEq, decide_eq_true_eq, Bool.not_eq_true', decide_eq_false_iff_not, ite_true, ite_false, if_true, if_false, reduceIte, Bool.false_eq_true, Bool.not_true, Bool.not_false, Bool.true_eq_false, decide_true, decide_false, Nat.reduceLeDiff, Nat.reduceLT]
  rw [if_pos (inRg_of (by omega) (by omega)), Int.toNat_natCast]
  simp only [EV, Ab.isNon, args, List.map, List.length_cons, List.length_nil, List.length_singleton, List.replicate, Nat.reduceSub, Nat.reduceAdd, Nat.zero_add, List.cons_append, List.nil_append, List.getElem?_cons_zero, List.getElem?_cons_succ, List.set_cons_zero, List.set_cons_succ, Option.some.injEq, decide_eq_true_eq, Bool.not_eq_true', decide_eq_false_iff_not, ite_true, ite_false, if_true, if_false, reduceIte, Bool.false_eq_true, Bool.not_true, Bool.not_false, Bool.true_eq_false, decide_true, decide_false, Nat.reduceLeDiff, Nat.reduceLT, wipeA]
  refine comp_drawR (m := 8) (fun j d => ∃ a : Str × Int × Int × Int, d = arD a ∧ a.1 = ns.getD (3 + j) "") D1.src (fun j hj C dr => ?_) (by omega) fun q C lq hq dr hC => ?_
  · have ixn : ixD (.ref N) (.int (3 + ((j : Nat) : Int))) C = .ok (.str (ns.getD (3 + j) "")) C := ev_ix_r (rdL_l (dr.keep _ _ Ns hN)) (by
      rw [atI_pos (by omega), show (3 + ((j : Nat) : Int)).toNat = 3 + j by omega, List.getElem?_map, List.getD_eq_getElem?_getD, List.getElem?_eq_getElem (show 3 + j < ns.length by omega)]; rfl)
    unfold DrwS
    simp only [EV, Ab.isNon, args, List.map, List.length_cons, List.length_nil, List.length_singleton, List.replicate, Nat.reduceSub, Nat.reduceAdd, Nat.zero_add, List.cons_append, List.nil_append, List.getElem?_cons_zero, List.getElem?_cons_succ, List.set_cons_zero, List.set_cons_succ, Option.some.injEq, decide_eq_true_eq, Bool.not_eq_true', decide_eq_false_iff_not, ite_true, ite_false, if_true, if_false, reduceIte, Bool.false_eq_true, Bool.not_true, Bool.not_false, Bool.true_eq_false, decide_true, decide_false, Nat.reduceLeDiff, Nat.reduceLT, ixn]
    refine Sat.imp (pick_pos dr.src (n := 64) (by decide) (by decide)) fun d C1 ⟨⟨y, e, y0, y1⟩, D1⟩ => ?_
    subst e
    simp only [EV, Ab.isNon, args, List.map, List.length_cons, List.length_nil, List.length_singleton, List.replicate, Nat.reduceSub, Nat.reduceAdd, Nat.zero_add, List.cons_append, List.nil_append, List.getElem?_cons_zero, List.getElem?_cons_succ, List.set_cons_zero, List.set_cons_succ, Option.some.injEq, decide_eq_true_eq, Bool.not_eq_true', decide_eq_false_iff_not, ite_true, ite_false, if_true, if_false, reduceIte, Bool.false_eq_true, Bool.not_true, Bool.not_false, Bool.true_eq_false, decide_true, decide_false, Nat.reduceLeDiff, Nat.reduceLT]
    exact ⟨⟨(ns.getD (3 + j) "", 1 + y, 0 - (j : Nat), 9), rfl, rfl⟩, D1⟩
  obtain ⟨arrs, eq, ea⟩ := draw_list arD (·.1) (fun j => ns.getD (3 + j) "") q 0 (fun i v h => by rw [Nat.zero_add]; exact hq i v h)
  rw [lq, ← List.range_eq_range', range_cut (by omega)] at ea
  have la : arrs.length = z := by have := congrArg List.length eq; rw [List.length_map, lq] at this; exact this.symm
  have an : (arrs.map (·.1)).Nodup := by rw [ea]; exact nd2.sublist ((List.take_sublist ..).trans (List.drop_sublist ..))
  subst eq
  have GC := gr_dr GB dr sA
  have hN := dr.keep _ _ Ns hN
  have hR := dr.keep _ _ Rs hR
  have h5 := dr.keep _ _ L5s h5
  have SC := dr.src
  have l9 := at_lt (show B1[L5]? = some (.lst (ks.map rkD)) from by assumption)
  have s9 := D1.src.lt
  obtain ⟨L9, e9⟩ : ∃ L9, B1.length = L9 := ⟨_, rfl⟩
  rw [e9] at hC l9 s9
  simp only [e9, EV, Ab.isNon, args, List.map, List.length_cons, List.length_nil, List.length_singleton, List.replicate, Nat.reduceSub, Nat.reduceAdd, Nat.zero_add, List.cons_append, List.nil_append, List.getElem?_cons_zero, List.getElem?_cons_succ, List.set_cons_zero, List.set_cons_succ, Option.some.injEq, decide_eq_true_eq, Bool.not_eq_true', decide_eq_false_iff_not, ite_true, ite_false, if_true, if_false, reduceIte, Bool.false_eq_true, Bool.not_true, Bool.not_false, Bool.true_eq_false, decide_true, decide_false, Nat.reduceLeDiff, Nat.reduceLT]
  have L9s : L9 ≠ s := by omega
  clear hq dr D1 GB
  -- what the variables share
  refine sat_seq ?_
  simp only [EV, Ab.isNon, args, List.map, List.length_cons, List.length_nil, List.length_singleton, List.replicate, Nat.reduceSub, Nat.reduceAdd, Nat.zero_add, List.cons_append, List.nil_append, List.getElem?_cons_zero, List.getElem?_cons_succ, List.set_cons_zero, List.set_cons_succ, Option.some.injEq, decide_eq_true_eq, Bool.not_eq_true', decide_eq_false_iff_not, ite_true, ite_false, if_true, if_false, reduceIte, Bool.false_eq_true, Bool.not_true, Bool.not_false, Bool.true_eq_false, decide_true, decide_false, Nat.reduceLeDiff, Nat.reduceLT]
  have h10 := at_new (A := C) (o := .lst [.int 2])
  have g2 := Gr.app (A := C) (B := [AO.lst [.int 2]])
  have SC := Sr.gr g2 SC
  have GC := GC.trans g2
  have lC := at_lt hC
  have hN := g2.keep _ _ hN
  have hR := g2.keep _ _ hR
  have h5 := g2.keep _ _ h5
  have hC := g2.keep _ _ hC
  obtain ⟨M, eM⟩ : ∃ M, C.length = M := ⟨_, rfl⟩
  rw [eM] at h10 lC
  simp only [eM]
  generalize C ++ [AO.lst [.int 2]] = C1 at *
  have Ms : M ≠ s := by omega
  -- the globals
  refine sat_seq ?_
  have c59 := cut_mid (xs := ns.map D.str) (a := 5) (n := 4) (by rw [List.length_map]; omega)
  have c59 : cutL (ns.map D.str) (some 5) (some 9) = ((ns.drop 5).take 4).map D.str := by rw [← List.map_drop, ← List.map_take] at c59; exact c59
  simp only [EV, Ab.isNon, args, List.map, List.length_cons, List.length_nil, List.length_singleton, List.replicate, Nat.reduceSub, Nat.reduceAdd, Nat.zero_add, List.cons_append, List.nil_append, List.getElem?_cons_zero, List.getElem?_cons_succ, List.set_cons_zero, List.set_cons_succ, Option.some.injEq, decide_eq_true_eq, Bool.not_eq_true', decide_eq_false_iff_not, ite_true, ite_false, if_true, if_false, reduceIte, Bool.false_eq_true, Bool.not_true, Bool.not_false, Bool.true_eq_false, decide_true, decide_false, Nat.reduceLeDiff, Nat.reduceLT, ev_sl_l hN, c59]
  have hX := at_new (A := C1) (o := .lst (((ns.drop 5).take 4).map D.str))
  have g2 := Gr.app (A := C1) (B := [AO.lst (((ns.drop 5).take 4).map D.str)])
  have SC := Sr.gr g2 SC
  have GC := GC.trans g2
  have lM := at_lt h10
  have hN := g2.keep _ _ hN
  have hR := g2.keep _ _ hR
  have h5 := g2.keep _ _ h5
  have hC := g2.keep _ _ hC
  have h10 := g2.keep _ _ h10
  obtain ⟨X, eX⟩ : ∃ X, C1.length = X := ⟨_, rfl⟩
  rw [eX] at hX lM
  simp only [eX]
  generalize C1 ++ [AO.lst (((ns.drop 5).take 4).map D.str)] = C2 at *
  have rne : rn ≠ [] := fun e => by rw [e] at rnl; simp at rnl; omega
  refine Sat.imp (pairs_spec SC hX hR h10 (by omega) Rs Ms (by omega) (by omega) rne (by omega) (by rw [List.length_take]; omega)) fun d C3 ⟨D3, SC, ⟨m, h10⟩, gl, e, gn, gll⟩ => ?_
  subst e
  have gl4 : gl.length ≤ 4 := by rw [List.length_take] at gll; omega
  have GC := gr_dw2 GC D3 sA (by omega)
  have hN := D3.keep _ _ Ns (by omega) hN
  have hR := D3.keep _ _ Rs (by omega) hR
  have h5 := D3.keep _ _ L5s (by omega) h5
  have hC := D3.keep _ _ L9s (by omega) hC
  have lX := at_lt (show C2[X]? = some (.lst (((ns.drop 5).take 4).map D.str)) from by assumption)
  have l33 := D3.le
  clear hX D3 g2
  -- the functions
  refine sat_seq ?_
  simp only [EV, Ab.isNon, args, List.map, List.length_cons, List.length_nil, List.length_singleton, List.replicate, Nat.reduceSub, Nat.reduceAdd, Nat.zero_add, List.cons_append, List.nil_append, List.getElem?_cons_zero, List.getElem?_cons_succ, List.set_cons_zero, List.set_cons_succ, Option.some.injEq, decide_eq_true_eq, Bool.not_eq_true', decide_eq_false_iff_not, ite_true, ite_false, if_true, if_false, reduceIte, Bool.false_eq_true, Bool.not_true, Bool.not_false, Bool.true_eq_false, decide_true, decide_false, Nat.reduceLeDiff, Nat.reduceLT]
  have hF := at_new (A := C3) (o := .lst [])
  have g2 := Gr.app (A := C3) (B := [AO.lst []])
  have SC := Sr.gr g2 SC
  have GC := GC.trans g2
  have hN := g2.keep _ _ hN
  have hR := g2.keep _ _ hR
  have h5 := g2.keep _ _ h5
  have hC := g2.keep _ _ hC
  have h10 := g2.keep _ _ h10
  obtain ⟨F, eF⟩ : ∃ F, C3.length = F := ⟨_, rfl⟩
  rw [eF] at hF l33
  simp only [eF]
  generalize C3 ++ [AO.lst []] = C4 at *
  refine sat_seq ?_
  simp only [EV, Ab.isNon, args, List.map, List.length_cons, List.length_nil, List.length_singleton, List.replicate, Nat.reduceSub, Nat.reduceAdd, Nat.zero_add, List.cons_append, List.nil_append, List.getElem?_cons_zero, List.getElem?_cons_succ, List.set_cons_zero, List.set_cons_succ, Option.some.injEq, decide_eq_true_eq, Bool.not_eq_true', decide_eq_false_iff_not, ite_true, ite_false, if_true, if_false, reduceIte, Bool.false_eq_true, Bool.not_true, Bool.not_false, Bool.true_eq_false, decide_true, decide_false, Nat.reduceLeDiff, Nat.reduceLT]
  have hm := at_new (A := C4) (o := .lst [.str "main"])
  have g2 := Gr.app (A := C4) (B := [AO.lst [.str "main"]])
  have SC := Sr.gr g2 SC
  have GC := GC.trans g2
  have lF := at_lt hF
  have hN := g2.keep _ _ hN
  have hR := g2.keep _ _ hR
  have h5 := g2.keep _ _ h5
  have hC := g2.keep _ _ hC
  have h10 := g2.keep _ _ h10
  have hF := g2.keep _ _ hF
  obtain ⟨Q, eQ⟩ : ∃ Q, C4.length = Q := ⟨_, rfl⟩
  rw [eQ] at hm lF
  simp only [eQ]
  generalize C4 ++ [AO.lst [.str "main"]] = C5 at *
  refine Sat.imp (pick_pos SC (n := 4) (by decide) (by decide)) fun d C6 ⟨⟨z, e, z0, z1⟩, D6⟩ => ?_
  subst e
  obtain ⟨z, rfl⟩ : ∃ m : Nat, z = (m : Nat) := ⟨z.toNat, by omega⟩
  have GC := gr_dr GC D6 sA
  have hN := D6.keep _ _ Ns hN
  have hR := D6.keep _ _ Rs hR
  have h5 := D6.keep _ _ L5s h5
  have hC := D6.keep _ _ L9s hC
  have h10 := D6.keep _ _ Ms h10
  have hF := D6.keep _ _ (by omega) hF
  have hm := D6.keep _ _ (by omega) hm
  have SC := D6.src
  have c9 := cut_mid (xs := ns.map D.str) (a := 9) (n := z) (by rw [List.length_map]; omega)
  rw [← List.map_drop, ← List.map_take] at c9
  have e9' : (9 : Int) + (z : Nat) = ((9 + z : Nat) : Int) := by omega
  have c9 : cutL (ns.map D.str) (some 9) (some ((9 : Int) + (z : Nat))) = ((ns.drop 9).take z).map D.str := by rw [e9']; exact c9
  simp only [EV, Ab.isNon, args, List.map, List.length_cons, List.length_nil, List.length_singleton, List.replicate, Nat.reduceSub, Nat.reduceAdd, Nat.zero_add, List.cons_append, List.nil_append, List.getElem?_cons_zero, List.getElem?_cons_succ, List.set_cons_zero, List.set_cons_succ, Option.some.injEq, decide_eq_true_eq, Bool.not_eq_true', decide_eq_false_iff_not, ite_true, ite_false, if_true, if_false, reduceIte, Bool.false_eq_true, Bool.not_true, Bool.not_false, Bool.true_eq_false, decide_true, decide_false, Nat.reduceLeDiff, Nat.reduceLT, ev_sl_l hN, c9]
  have hs9 := at_new (A := C6) (o := .lst (((ns.drop 9).take z).map D.str))
  have g2 := Gr.app (A := C6) (B := [AO.lst (((ns.drop 9).take z).map D.str)])
  have hm := g2.keep _ _ hm
  have lQ := at_lt hm
  have z6 : (C6 ++ [AO.lst (((ns.drop 9).take z).map D.str)]).length = C6.length + 1 := by simp
  rw [ev_add_rr (muL_l hm) (muL_l hs9) (sl_le (by simp; omega))]
  have g3 := g2.trans (Gr.app (A := C6 ++ [AO.lst (((ns.drop 9).take z).map D.str)]) (B := [AO.lst ([.str "main"] ++ ((ns.drop 9).take z).map D.str)]))
  have hT := at_new (A := C6 ++ [AO.lst (((ns.drop 9).take z).map D.str)]) (o := .lst ([.str "main"] ++ ((ns.drop 9).take z).map D.str))
  rw [show [D.str "main"] ++ ((ns.drop 9).take z).map D.str = (("main" : Str) :: (ns.drop 9).take z).map D.str from rfl] at g3 hT ⊢
  have SC := Sr.gr g3 SC
  have GC := GC.trans g3
  have hN := g3.keep _ _ hN
  have hR := g3.keep _ _ hR
  have h5 := g3.keep _ _ h5
  have hC := g3.keep _ _ hC
  have h10 := g3.keep _ _ h10
  have hF := g3.keep _ _ hF
  have fnd : (("main" : Str) :: (ns.drop 9).take z).Nodup := List.nodup_cons.mpr ⟨fun h => (no2 _ (List.mem_of_mem_drop (List.mem_of_mem_take h))).2 rfl, nd2.sublist ((List.take_sublist ..).trans (List.drop_sublist ..))⟩
  have fnl : (("main" : Str) :: (ns.drop 9).take z).length ≤ 4 := by rw [List.length_cons, List.length_take]; omega
  clear hm hs9 g2 g3 c9 D6
  obtain ⟨T, eT⟩ : ∃ T, (C6 ++ [AO.lst (((ns.drop 9).take z).map D.str)]).length = T := ⟨_, rfl⟩
  rw [eT] at hT lQ z6
  simp only [eT]
  generalize C6 ++ [AO.lst (((ns.drop 9).take z).map D.str)] ++ [AO.lst ((("main" : Str) :: (ns.drop 9).take z).map D.str)] = C7 at *
  generalize hfn : ("main" : Str) :: (ns.drop 9).take z = fnm at *
  have lT : s < T ∧ N < T ∧ R < T ∧ L5 < T ∧ L9 < T ∧ M < T ∧ F < T := by omega
  let V : AH → Prop := fun B => Gr A B ∧ Sr s B ∧ B[N]? = some (.lst (ns.map D.str)) ∧ B[R]? = some (.lst (rn.map D.str)) ∧ B[T]? = some (.lst (fnm.map D.str)) ∧ B[L5]? = some (.lst (ks.map rkD)) ∧ B[L9]? = some (.lst (arrs.map arD)) ∧ ∃ m : Int, B[M]? = some (.lst [.int m])
  have Vk : ∀ {B C : AH}, V B → Gr A C → Sr s C → (∀ (i : Nat) o, i ≠ s → i ≤ T → i ≠ F → B[i]? = some o → C[i]? = some o) → V C := fun ⟨_, _, a, b, c, d, e, m, f⟩ G S k => ⟨G, S, k _ _ Ns (by omega) (by omega) a, k _ _ Rs (by omega) (by omega) b, k _ _ (by omega) (by omega) (by omega) c, k _ _ L5s (by omega) (by omega) d, k _ _ L9s (by omega) (by omega) e, m, k _ _ Ms (by omega) (by omega) f⟩
  have V0 : V C7 := ⟨GC, SC, hN, hR, hT, h5, hC, m, h10⟩
  clear hN hR h5 hC h10 GC SC
  simp only [EV, Ab.isNon, args, List.map, List.length_cons, List.length_nil, List.length_singleton, List.replicate, Nat.reduceSub, Nat.reduceAdd, Nat.zero_add, List.cons_append, List.nil_append, List.getElem?_cons_zero, List.getElem?_cons_succ, List.set_cons_zero, List.set_cons_succ, Option.some.injEq, decide_eq_true_eq, Bool.not_eq_true', decide_eq_false_iff_not, ite_true, ite_false, if_true, if_false, reduceIte, Bool.false_eq_true, Bool.not_true, Bool.not_false, Bool.true_eq_false, decide_true, decide_false, Nat.reduceLeDiff, Nat.reduceLT, ev_iseq_l hT]
  refine loop_inv (fun es σ B => V B ∧ (∃ pre post : List Str, fnm = pre ++ post ∧ es = post.map D.str ∧ ∃ fs : List Fn, B[F]? = some (.lst (fs.map Fn.d)) ∧ fs.map Fn.nm = pre ∧ ∀ f ∈ fs, Fdr ns f) ∧ ∃ x6 x7 x8 x13 x14 x15 x16 x17, σ = [some (.int c), some (.ref s), some (.ref N), some (.int (k : Nat)), some (.ref R), some (.ref L5), x6, x7, x8, some (.ref L9), some (.ref M), some (fldsD gl), some (.ref F), x13, x14, x15, x16, x17])
    (fun e es σ B ⟨VB, ⟨pre, post, ep, ee, fs, hF, fn, fd⟩, x6, x7, x8, x13, x14, x15, x16, x17, hσ⟩ => ⟨rdL_l VB.2.2.2.2.1, ?_⟩) (fun σ B ⟨VB, ⟨pre, post, ep, ee, fs, hF, fn, fd⟩, x6, x7, x8, x13, x14, x15, x16, x17, hσ⟩ => ⟨rdL_l VB.2.2.2.2.1, ?_⟩) _ _ _ ⟨V0, ⟨[], fnm, rfl, rfl, [], hF, rfl, by simp⟩, _, _, _, _, _, _, _, _, rfl⟩
  · subst hσ
    cases post with
    | nil => cases ee
    | cons w post =>
      rw [List.map_cons, List.cons.injEq] at ee
      obtain ⟨e1, e2⟩ := ee
      subst e1; subst e2
      simp only [EV, Ab.isNon, args, List.map, List.length_cons, List.length_nil, List.length_singleton, List.replicate, Nat.reduceSub, Nat.reduceAdd, Nat.zero_add, List.cons_append, List.nil_append, List.getElem?_cons_zero, List.getElem?_cons_succ, List.set_cons_zero, List.set_cons_succ, Option.some.injEq, decide_eq_true_eq, Bool.not_eq_true', decide_eq_false_iff_not, ite_true, ite_false, if_true, if_false, reduceIte, Bool.false_eq_true, Bool.not_true, Bool.not_false, Bool.true_eq_false, decide_true, decide_false, Nat.reduceLeDiff, Nat.reduceLT]
      obtain ⟨GB, SB, hN, hR, hT, h5, h9, m, hM⟩ := VB
      have i0 : ∀ {E : AH} {r : Nat} {z : Int}, E[r]? = some (.lst [.int z]) → ixD (.ref r) (.int 0) E = .ok (.int z) E := fun h => ev_ix_r (rdL_l h) (by rw [atI_pos (by decide)]; rfl)
      -- the room
      refine sat_seq ?_
      simp only [EV, Ab.isNon, args, List.map, List.length_cons, List.length_nil, List.length_singleton, List.replicate, Nat.reduceSub, Nat.reduceAdd, Nat.zero_add, List.cons_append, List.nil_append, List.getElem?_cons_zero, List.getElem?_cons_succ, List.set_cons_zero, List.set_cons_succ, Option.some.injEq, decide_eq_true_eq, Bool.not_eq_true', decide_eq_false_iff_not, ite_true, ite_false, if_true, if_false, reduceIte, Bool.false_eq_true, Bool.not_true, Bool.not_false, Bool.true_eq_false, decide_true, decide_false, Nat.reduceLeDiff, Nat.reduceLT, i0 hM]
      have lB := at_lt hT
      have hW := at_new (A := B) (o := .lst [.int (m + 2)])
      have g1 := Gr.app (A := B) (B := [AO.lst [.int (m + 2)]])
      have V1 : V (B ++ [.lst [.int (m + 2)]]) := Vk ⟨GB, SB, hN, hR, hT, h5, h9, m, hM⟩ (GB.trans g1) (Sr.gr g1 SB) fun i o _ _ _ e => g1.keep i o e
      have hF := g1.keep _ _ hF
      obtain ⟨W, eW⟩ : ∃ W, B.length = W := ⟨_, rfl⟩
      rw [eW] at hW lB
      simp only [eW]
      have lW := at_lt hW
      generalize B ++ [AO.lst [.int (m + 2)]] = B1 at *
      clear GB SB hN hR hT h5 h9 hM g1
      obtain ⟨GB, SB, hN, hR, hT, h5, h9, m2, hM⟩ := V1
      -- the parameters
      have c15 := cut_mid (xs := ns.map D.str) (a := 12) (n := 3) (by rw [List.length_map]; omega)
      have c15 : cutL (ns.map D.str) (some 12) (some 15) = ((ns.drop 12).take 3).map D.str := by rw [← List.map_drop, ← List.map_take] at c15; exact c15
      have c19 := cut_mid (xs := ns.map D.str) (a := 15) (n := 4) (by rw [List.length_map]; omega)
      have c19 : cutL (ns.map D.str) (some 15) (some 19) = ((ns.drop 15).take 4).map D.str := by rw [← List.map_drop, ← List.map_take] at c19; exact c19
      refine sat_seq ?_
      simp only [EV, Ab.isNon, args, List.map, List.length_cons, List.length_nil, List.length_singleton, List.replicate, Nat.reduceSub, Nat.reduceAdd, Nat.zero_add, List.cons_append, List.nil_append, List.getElem?_cons_zero, List.getElem?_cons_succ, List.set_cons_zero, List.set_cons_succ, Option.some.injEq, decide_eq_true_eq, Bool.not_eq_true', decide_eq_false_iff_not, ite_true, ite_false, if_true, if_false, reduceIte, Bool.false_eq_true, Bool.not_true, Bool.not_false, Bool.true_eq_false, decide_true, decide_false, Nat.reduceLeDiff, Nat.reduceLT, ev_sl_l hN, c15]
      have hP := at_new (A := B1) (o := .lst (((ns.drop 12).take 3).map D.str))
      have g1 := Gr.app (A := B1) (B := [AO.lst (((ns.drop 12).take 3).map D.str)])
      have V1 : V (B1 ++ [.lst (((ns.drop 12).take 3).map D.str)]) := Vk ⟨GB, SB, hN, hR, hT, h5, h9, m2, hM⟩ (GB.trans g1) (Sr.gr g1 SB) fun i o _ _ _ e => g1.keep i o e
      have hF := g1.keep _ _ hF
      have hW := g1.keep _ _ hW
      obtain ⟨P, eP⟩ : ∃ P, B1.length = P := ⟨_, rfl⟩
      rw [eP] at hP lW
      simp only [eP]
      generalize B1 ++ [AO.lst (((ns.drop 12).take 3).map D.str)] = B2 at *
      clear GB SB hN hR hT h5 h9 hM g1
      obtain ⟨GB, SB, hN, hR, hT, h5, h9, m2, hM⟩ := V1
      refine Sat.imp (pairs_spec SB hP hR hW (by omega) Rs (by omega) (by omega) (by omega) rne (by omega) (by rw [List.length_take]; omega)) fun d B3 ⟨D3, S3, ⟨m3, hW⟩, ps, e, pn, pll⟩ => ?_
      subst e
      have V3 : V B3 := Vk ⟨GB, SB, hN, hR, hT, h5, h9, m2, hM⟩ (gr_dw2 GB D3 sA (by omega)) S3 fun i o a b _ e => D3.keep i o a (by omega) e
      have hF := D3.keep _ _ (by omega) (by omega) hF
      have ps3 : ps.length ≤ 3 := by rw [List.length_take] at pll; omega
      clear GB SB hN hR hT h5 h9 hM hP D3 S3
      -- the result
      obtain ⟨GB, SB, hN, hR, hT, h5, h9, m4, hM⟩ := V3
      refine sat_seq ?_
      simp only [EV, Ab.isNon, args, List.map, List.length_cons, List.length_nil, List.length_singleton, List.replicate, Nat.reduceSub, Nat.reduceAdd, Nat.zero_add, List.cons_append, List.nil_append, List.getElem?_cons_zero, List.getElem?_cons_succ, List.set_cons_zero, List.set_cons_succ, Option.some.injEq, decide_eq_true_eq, Bool.not_eq_true', decide_eq_false_iff_not, ite_true, ite_false, if_true, if_false, reduceIte, Bool.false_eq_true, Bool.not_true, Bool.not_false, Bool.true_eq_false, decide_true, decide_false, Nat.reduceLeDiff, Nat.reduceLT]
      refine Sat.imp (kind_spec SB hR Rs rne (by omega)) fun d B4 ⟨D4, q, e⟩ => ?_
      subst e
      refine Sat.imp (one_d D4.src (by simp) (by simp)) fun d B5 ⟨hd, D5⟩ => ?_
      have D5 := D4.trans D5
      obtain ⟨res, er⟩ : ∃ res : Option Ki, d = resD res := by
        simp only [List.mem_cons, List.not_mem_nil, or_false] at hd
        rcases hd with rfl | rfl | rfl | rfl
        · exact ⟨none, rfl⟩
        · exact ⟨some .flag, rfl⟩
        · exact ⟨some (.num 0 7), rfl⟩
        · exact ⟨some q, rfl⟩
      subst er
      have V5 : V B5 := Vk ⟨GB, SB, hN, hR, hT, h5, h9, m4, hM⟩ (gr_dr GB D5 sA) D5.src fun i o a _ _ e => D5.keep i o a e
      have hF := D5.keep _ _ (by omega) hF
      have hW := D5.keep _ _ (by omega) hW
      clear GB SB hN hR hT h5 h9 hM D4 D5 hd
      -- main
      refine sat_mid (fun σ C => C = B5 ∧ ∃ (ps : List Pr) (res : Option Ki), ps.map (·.1) = ((ns.drop 12).take 3).take ps.length ∧ ps.length ≤ 3 ∧ σ = [some (.int c), some (.ref s), some (.ref N), some (.int (k : Nat)), some (.ref R), some (.ref L5), some (.str w), x7, x8, some (.ref L9), some (.ref M), some (fldsD gl), some (.ref F), some (.ref W), some (fldsD ps), some (resD res), x16, x17]) ?_ fun σ C ⟨eC, ps, res, pn, ps3, hσ⟩ => ?_
      · simp only [EV, Ab.isNon, args, List.map, List.length_cons, List.length_nil, List.length_singleton, List.replicate, Nat.reduceSub, Nat.reduceAdd, Nat.zero_add, List.cons_append, List.nil_append, List.getElem?_cons_zero, List.getElem?_cons_succ, List.set_cons_zero, List.set_cons_succ, Option.some.injEq, decide_eq_true_eq, Bool.not_eq_true', decide_eq_false_iff_not, ite_true, ite_false, if_true, if_false, reduceIte, Bool.false_eq_true, Bool.not_true, Bool.not_false, Bool.true_eq_false, decide_true, decide_false, Nat.reduceLeDiff, Nat.reduceLT]
        split
        · refine sat_seq ?_
          simp only [EV, Ab.isNon, args, List.map, List.length_cons, List.length_nil, List.length_singleton, List.replicate, Nat.reduceSub, Nat.reduceAdd, Nat.zero_add, List.cons_append, List.nil_append, List.getElem?_cons_zero, List.getElem?_cons_succ, List.set_cons_zero, List.set_cons_succ, Option.some.injEq, decide_eq_true_eq, Bool.not_eq_true', decide_eq_false_iff_not, ite_true, ite_false, if_true, if_false, reduceIte, Bool.false_eq_true, Bool.not_true, Bool.not_false, Bool.true_eq_false, decide_true, decide_false, Nat.reduceLeDiff, Nat.reduceLT]
          exact ⟨_, rfl, trivial, [], none, rfl, by simp, rfl⟩
        · exact ⟨_, rfl, trivial, ps, res, pn, ps3, rfl⟩
      subst eC; subst hσ
      -- the locals
      obtain ⟨GB, SB, hN, hR, hT, h5, h9, m5, hM⟩ := V5
      refine sat_seq ?_
      simp only [EV, Ab.isNon, args, List.map, List.length_cons, List.length_nil, List.length_singleton, List.replicate, Nat.reduceSub, Nat.reduceAdd, Nat.zero_add, List.cons_append, List.nil_append, List.getElem?_cons_zero, List.getElem?_cons_succ, List.set_cons_zero, List.set_cons_succ, Option.some.injEq, decide_eq_true_eq, Bool.not_eq_true', decide_eq_false_iff_not, ite_true, ite_false, if_true, if_false, reduceIte, Bool.false_eq_true, Bool.not_true, Bool.not_false, Bool.true_eq_false, decide_true, decide_false, Nat.reduceLeDiff, Nat.reduceLT, ev_sl_l hN, c19]
      have hP := at_new (A := C) (o := .lst (((ns.drop 15).take 4).map D.str))
      have g1 := Gr.app (A := C) (B := [AO.lst (((ns.drop 15).take 4).map D.str)])
      have V1 : V (C ++ [.lst (((ns.drop 15).take 4).map D.str)]) := Vk ⟨GB, SB, hN, hR, hT, h5, h9, m5, hM⟩ (GB.trans g1) (Sr.gr g1 SB) fun i o _ _ _ e => g1.keep i o e
      have hF := g1.keep _ _ hF
      have lW := at_lt hW
      have hW := g1.keep _ _ hW
      obtain ⟨P2, eP2⟩ : ∃ P2, C.length = P2 := ⟨_, rfl⟩
      rw [eP2] at hP lW
      simp only [eP2]
      generalize C ++ [AO.lst (((ns.drop 15).take 4).map D.str)] = B6 at *
      clear GB SB hN hR hT h5 h9 hM g1
      obtain ⟨GB, SB, hN, hR, hT, h5, h9, m6, hM⟩ := V1
      refine Sat.imp (pairs_spec SB hP hR hW (by omega) Rs (by omega) (by omega) (by omega) rne (by omega) (by rw [List.length_take]; omega)) fun d B7 ⟨D7, S7, ⟨m7, hW⟩, own, e, on, oll⟩ => ?_
      subst e
      have V7 : V B7 := Vk ⟨GB, SB, hN, hR, hT, h5, h9, m6, hM⟩ (gr_dw2 GB D7 sA (by omega)) S7 fun i o a b _ e => D7.keep i o a (by omega) e
      have hF := D7.keep _ _ (by omega) (by omega) hF
      have own4 : own.length ≤ 4 := by rw [List.length_take] at oll; omega
      clear GB SB hN hR hT h5 h9 hM hP D7 S7 hW
      -- the body
      obtain ⟨GB, SB, hN, hR, hT, h5, h9, m8, hM⟩ := V7
      have lB7 := at_lt hT
      refine sat_seq ?_
      simp only [EV, Ab.isNon, args, List.map, List.length_cons, List.length_nil, List.length_singleton, List.replicate, Nat.reduceSub, Nat.reduceAdd, Nat.zero_add, List.cons_append, List.nil_append, List.getElem?_cons_zero, List.getElem?_cons_succ, List.set_cons_zero, List.set_cons_succ, Option.some.injEq, decide_eq_true_eq, Bool.not_eq_true', decide_eq_false_iff_not, ite_true, ite_false, if_true, if_false, reduceIte, Bool.false_eq_true, Bool.not_true, Bool.not_false, Bool.true_eq_false, decide_true, decide_false, Nat.reduceLeDiff, Nat.reduceLT]
      have hL := at_new (A := B7) (o := .lst [.int 8])
      have g1 := Gr.app (A := B7) (B := [AO.lst [.int 8]])
      refine Sat.imp (bodyL_spec 20 s B7.length 3 8 false _ (by decide) (by decide) (by omega) ⟨Sr.gr g1 SB, hL⟩) fun d B8 ⟨D8, b1, lf1, e, ok1, sm1, dp1, W8, sz1⟩ => ?_
      subst e
      have V8 : V B8 := Vk ⟨GB, SB, hN, hR, hT, h5, h9, m8, hM⟩ (gr_dw2 (GB.trans g1) D8 sA (by have := GB.le; omega)) W8.1 fun i o a b _ e => D8.keep i o a (by omega) (g1.keep i o e)
      have hF := D8.keep _ _ (by omega) (by omega) (g1.keep _ _ hF)
      clear GB SB hN hR hT h5 h9 hM D8 g1 hL
      obtain ⟨GB, SB, hN, hR, hT, h5, h9, m9, hM⟩ := V8
      have lB8 := at_lt hT
      have hL := at_new (A := B8) (o := .lst [.int 6])
      have g1 := Gr.app (A := B8) (B := [AO.lst [.int 6]])
      refine Sat.imp (bodyL_spec 20 s B8.length 3 6 false _ (by decide) (by decide) (by omega) ⟨Sr.gr g1 SB, hL⟩) fun d B9 ⟨D9, b2, lf2, e, ok2, sm2, dp2, W9, sz2⟩ => ?_
      subst e
      have V9 : V B9 := Vk ⟨GB, SB, hN, hR, hT, h5, h9, m9, hM⟩ (gr_dw2 (GB.trans g1) D9 sA (by have := GB.le; omega)) W9.1 fun i o a b _ e => D9.keep i o a (by omega) (g1.keep i o e)
      have hF := D9.keep _ _ (by omega) (by omega) (g1.keep _ _ hF)
      clear GB SB hN hR hT h5 h9 hM D9 g1 hL
      have y1 := b1.dats_le
      have y2 := b2.dats_le
      rw [ev_add_tt (sl_le (by omega)), ← Bd.app_dats]
      have ok := b1.app_ok b2 false ok1 ok2
      have sm := b1.app_sm b2 sm1 sm2
      have dp := b1.app_dep b2 3 dp1 dp2
      have sz : (b1.app b2).sz ≤ 14 := by rw [Bd.app_sz]; omega
      simp only [EV, Ab.isNon, args, List.map, List.length_cons, List.length_nil, List.length_singleton, List.replicate, Nat.reduceSub, Nat.reduceAdd, Nat.zero_add, List.cons_append, List.nil_append, List.getElem?_cons_zero, List.getElem?_cons_succ, List.set_cons_zero, List.set_cons_succ, Option.some.injEq, decide_eq_true_eq, Bool.not_eq_true', decide_eq_false_iff_not, ite_true, ite_false, if_true, if_false, reduceIte, Bool.false_eq_true, Bool.not_true, Bool.not_false, Bool.true_eq_false, decide_true, decide_false, Nat.reduceLeDiff, Nat.reduceLT]
      refine sat_mid (fun σ C => V C ∧ C[F]? = some (.lst (fs.map Fn.d)) ∧ ∃ b : Bd, b.ok false ∧ b.sm ∧ b.dep ≤ 3 ∧ b.sz ≤ 15 ∧ σ = [some (.int c), some (.ref s), some (.ref N), some (.int (k : Nat)), some (.ref R), some (.ref L5), some (.str w), x7, x8, some (.ref L9), some (.ref M), some (fldsD gl), some (.ref F), some (.ref W), some (fldsD ps), some (resD res), some (fldsD own), some (.tup b.dats)]) ?_ fun σ C ⟨VC, hF, b, ok, sm, dp, sz, hσ⟩ => ?_
      · have nx : ∃ σ', Fl.nx [some (.int c), some (.ref s), some (.ref N), some (.int (k : Nat)), some (.ref R), some (.ref L5), some (.str w), x7, x8, some (.ref L9), some (.ref M), some (fldsD gl), some (.ref F), some (.ref W), some (fldsD ps), some (resD res), some (fldsD own), some (.tup (b1.app b2).dats)] = .nx σ' ∧ V B9 ∧ B9[F]? = some (.lst (fs.map Fn.d)) ∧ ∃ b : Bd, b.ok false ∧ b.sm ∧ b.dep ≤ 3 ∧ b.sz ≤ 15 ∧ σ' = [some (.int c), some (.ref s), some (.ref N), some (.int (k : Nat)), some (.ref R), some (.ref L5), some (.str w), x7, x8, some (.ref L9), some (.ref M), some (fldsD gl), some (.ref F), some (.ref W), some (fldsD ps), some (resD res), some (fldsD own), some (.tup b.dats)] :=
          ⟨_, rfl, V9, hF, b1.app b2, ok, sm, dp, by omega, rfl⟩
        cases res with
        | some k' =>
          refine sat_ifS (b := false) ?_ (fun e => by cases e) (fun _ => ?_)
          · simp only [EV, Ab.isNon, args, List.map, List.length_cons, List.length_nil, List.length_singleton, List.replicate, Nat.reduceSub, Nat.reduceAdd, Nat.zero_add, List.cons_append, List.nil_append, List.getElem?_cons_zero, List.getElem?_cons_succ, List.set_cons_zero, List.set_cons_succ, Option.some.injEq, decide_eq_true_eq, Bool.not_eq_true', decide_eq_false_iff_not, ite_true, ite_false, if_true, if_false, reduceIte, Bool.false_eq_true, Bool.not_true, Bool.not_false, Bool.true_eq_false, decide_true, decide_false, Nat.reduceLeDiff, Nat.reduceLT, resD]
            cases k' <;> rfl
          · exact nx
        | none =>
          simp only [EV, Ab.isNon, args, List.map, List.length_cons, List.length_nil, List.length_singleton, List.replicate, Nat.reduceSub, Nat.reduceAdd, Nat.zero_add, List.cons_append, List.nil_append, List.getElem?_cons_zero, List.getElem?_cons_succ, List.set_cons_zero, List.set_cons_succ, Option.some.injEq, decide_eq_true_eq, Bool.not_eq_true', decide_eq_false_iff_not, ite_true, ite_false, if_true, if_false, reduceIte, Bool.false_eq_true, Bool.not_true, Bool.not_false, Bool.true_eq_false, decide_true, decide_false, Nat.reduceLeDiff, Nat.reduceLT, resD]
          refine Sat.imp (pick_pos V9.2.1 (n := 3) (by decide) (by decide)) fun d Ba ⟨⟨y, e, y0, y1⟩, Da⟩ => ?_
          subst e
          have Va : V Ba := Vk V9 (gr_dr V9.1 Da sA) Da.src fun i o a _ _ e => Da.keep i o a e
          have hF := Da.keep _ _ (by omega) hF
          simp only [EV, Ab.isNon, args, List.map, List.length_cons, List.length_nil, List.length_singleton, List.replicate, Nat.reduceSub, Nat.reduceAdd, Nat.zero_add, List.cons_append, List.nil_append, List.getElem?_cons_zero, List.getElem?_cons_succ, List.set_cons_zero, List.set_cons_succ, Option.some.injEq, decide_eq_true_eq, Bool.not_eq_true', decide_eq_false_iff_not, ite_true, ite_false, if_true, if_false, reduceIte, Bool.false_eq_true, Bool.not_true, Bool.not_false, Bool.true_eq_false, decide_true, decide_false, Nat.reduceLeDiff, Nat.reduceLT]
          split
          · have yy := (b1.app b2).dats_le
            rw [ev_add_tt (sl_le (by simp; omega))]
            have er : (b1.app b2).dats ++ [D.tup [.str "return", .non]] = ((b1.app b2).app (.ret .non .nil)).dats := (Bd.app_dats (b1.app b2) (.ret .non .nil)).symm
            rw [er]
            simp only [EV, Ab.isNon, args, List.map, List.length_cons, List.length_nil, List.length_singleton, List.replicate, Nat.reduceSub, Nat.reduceAdd, Nat.zero_add, List.cons_append, List.nil_append, List.getElem?_cons_zero, List.getElem?_cons_succ, List.set_cons_zero, List.set_cons_succ, Option.some.injEq, decide_eq_true_eq, Bool.not_eq_true', decide_eq_false_iff_not, ite_true, ite_false, if_true, if_false, reduceIte, Bool.false_eq_true, Bool.not_true, Bool.not_false, Bool.true_eq_false, decide_true, decide_false, Nat.reduceLeDiff, Nat.reduceLT]
            refine ⟨_, rfl, Va, hF, (b1.app b2).app (.ret .non .nil), Bd.app_ok _ _ _ ok ⟨pl_n, trivial⟩, Bd.app_sm _ _ sm ⟨pl_n, trivial⟩, Bd.app_dep _ _ _ dp (Nat.zero_le _), ?_, rfl⟩
            rw [Bd.app_sz]; show _ + (0 + 1) ≤ 15; omega
          · exact ⟨_, rfl, Va, hF, b1.app b2, ok, sm, dp, by omega, rfl⟩
      subst hσ
      have lfs : fs.length ≤ 4 := by
        have := congrArg List.length ep
        rw [List.length_append, List.length_cons] at this
        have h2 := congrArg List.length fn
        rw [List.length_map] at h2
        omega
      simp only [EV, Ab.isNon, args, List.map, List.length_cons, List.length_nil, List.length_singleton, List.replicate, Nat.reduceSub, Nat.reduceAdd, Nat.zero_add, List.cons_append, List.nil_append, List.getElem?_cons_zero, List.getElem?_cons_succ, List.set_cons_zero, List.set_cons_succ, Option.some.injEq, decide_eq_true_eq, Bool.not_eq_true', decide_eq_false_iff_not, ite_true, ite_false, if_true, if_false, reduceIte, Bool.false_eq_true, Bool.not_true, Bool.not_false, Bool.true_eq_false, decide_true, decide_false, Nat.reduceLeDiff, Nat.reduceLT, ty_l hF]
      rw [ev_app hF (by rw [List.length_map]; omega)]
      simp only [EV, Ab.isNon, args, List.map, List.length_cons, List.length_nil, List.length_singleton, List.replicate, Nat.reduceSub, Nat.reduceAdd, Nat.zero_add, List.cons_append, List.nil_append, List.getElem?_cons_zero, List.getElem?_cons_succ, List.set_cons_zero, List.set_cons_succ, Option.some.injEq, decide_eq_true_eq, Bool.not_eq_true', decide_eq_false_iff_not, ite_true, ite_false, if_true, if_false, reduceIte, Bool.false_eq_true, Bool.not_true, Bool.not_false, Bool.true_eq_false, decide_true, decide_false, Nat.reduceLeDiff, Nat.reduceLT, turn_]
      have fe : D.tup [.str w, fldsD ps, resD res, fldsD own, .tup b.dats] = (Fn.mk w ps res own b).d := rfl
      rw [fe]
      refine ⟨Vk VC (VC.1.set (by omega)) ?_ fun i o a b' c' e => by rw [List.getElem?_set_ne (Ne.symm c')]; exact e, ⟨pre ++ [w], post, by rw [ep]; simp, rfl, fs ++ [⟨w, ps, res, own, b⟩], by rw [at_set (at_lt hF), List.map_append]; rfl, by rw [List.map_append, fn]; rfl, fun f hf => ?_⟩, _, _, _, _, _, _, _, _, rfl⟩
      · obtain ⟨a, b', c', h⟩ := VC.2.1
        exact ⟨a, b', c', by rw [List.getElem?_set_ne (by omega)]; exact h⟩
      · rcases List.mem_append.mp hf with h | h
        · exact fd f h
        · rw [List.mem_singleton.mp h]
          exact ⟨pn, on, ps3, own4, ok, sm, dp, sz⟩
  · subst hσ
    have pz : post = [] := by cases post with | nil => rfl | cons a p => cases ee
    subst pz
    rw [List.append_nil] at ep
    subst ep
    obtain ⟨GB, SB, hN, hR, hT, h5, h9, _⟩ := VB
    have lf : fs.length ≤ 4 := by rw [← fn, List.length_map] at fnl; exact fnl
    have lf0 : 0 < fs.length := by have := congrArg List.length fn; rw [List.length_map, ← hfn, List.length_cons] at this; omega
    have ln : lenD [.ref F] B = .ok (.int (fs.length : Nat)) B := (ev_len_r (rdL_l hF)).trans (by rw [List.length_map])
    simp only [EV, Ab.isNon, args, List.map, List.length_cons, List.length_nil, List.length_singleton, List.replicate, Nat.reduceSub, Nat.reduceAdd, Nat.zero_add, List.cons_append, List.nil_append, List.getElem?_cons_zero, List.getElem?_cons_succ, List.set_cons_zero, List.set_cons_succ, Option.some.injEq, decide_eq_true_eq, Bool.not_eq_true', decide_eq_false_iff_not, ite_true, ite_false, if_true, if_false, reduceIte, Bool.false_eq_true, Bool.not_true, Bool.not_false, Bool.true_eq_false, decide_true, decide_false, Nat.reduceLeDiff, Nat.reduceLT]
    refine sat_seq ?_
    simp only [EV, Ab.isNon, args, List.map, List.length_cons, List.length_nil, List.length_singleton, List.replicate, Nat.reduceSub, Nat.reduceAdd, Nat.zero_add, List.cons_append, List.nil_append, List.getElem?_cons_zero, List.getElem?_cons_succ, List.set_cons_zero, List.set_cons_succ, Option.some.injEq, decide_eq_true_eq, Bool.not_eq_true', decide_eq_false_iff_not, ite_true, ite_false, if_true, if_false, reduceIte, Bool.false_eq_true, Bool.not_true, Bool.not_false, Bool.true_eq_false, decide_true, decide_false, Nat.reduceLeDiff, Nat.reduceLT, ln]
    refine Sat.imp (pick_pos SB (n := (fs.length : Nat)) (by omega) (by omega)) fun d B1 ⟨⟨y, e, y0, y1⟩, D1⟩ => ?_
    subst e
    obtain ⟨y, rfl⟩ : ∃ m : Nat, y = (m : Nat) := ⟨y.toNat, by omega⟩
    have GB := gr_dr GB D1 sA
    have hF := D1.keep _ _ (by omega) hF
    have h5 := D1.keep _ _ L5s h5
    have h9 := D1.keep _ _ L9s h9
    simp only [EV, Ab.isNon, args, List.map, List.length_cons, List.length_nil, List.length_singleton, List.replicate, Nat.reduceSub, Nat.reduceAdd, Nat.zero_add, List.cons_append, List.nil_append, List.getElem?_cons_zero, List.getElem?_cons_succ, List.set_cons_zero, List.set_cons_succ, Option.some.injEq, decide_eq_true_eq, Bool.not_eq_true', decide_eq_false_iff_not, ite_true, ite_false, if_true, if_false, reduceIte, Bool.false_eq_true, Bool.not_true, Bool.not_false, Bool.true_eq_false, decide_true, decide_false, Nat.reduceLeDiff, Nat.reduceLT, ev_tup_ofL (rdL_l h5), ev_tup_ofL (rdL_l h9), ev_sl_l hF, cut_tl]
    have k1 := at_new (A := B1) (o := .lst ((fs.map Fn.d).drop y))
    have g1 := Gr.app (A := B1) (B := [AO.lst ((fs.map Fn.d).drop y)])
    have hF := g1.keep _ _ hF
    have GB := GB.trans g1
    generalize B1 ++ [AO.lst ((fs.map Fn.d).drop y)] = B2 at *
    simp only [ev_sl_l hF, cut_hd, EV, Ab.isNon, args, List.map, List.length_cons, List.length_nil, List.length_singleton, List.replicate, Nat.reduceSub, Nat.reduceAdd, Nat.zero_add, List.cons_append, List.nil_append, List.getElem?_cons_zero, List.getElem?_cons_succ, List.set_cons_zero, List.set_cons_succ, Option.some.injEq, decide_eq_true_eq, Bool.not_eq_true', decide_eq_false_iff_not, ite_true, ite_false, if_true, if_false, reduceIte, Bool.false_eq_true, Bool.not_true, Bool.not_false, Bool.true_eq_false, decide_true, decide_false, Nat.reduceLeDiff, Nat.reduceLT]
    have k2 := at_new (A := B2) (o := .lst ((fs.map Fn.d).take y))
    have g2 := Gr.app (A := B2) (B := [AO.lst ((fs.map Fn.d).take y)])
    have k1 := g2.keep _ _ k1
    have GB := GB.trans g2
    generalize B2 ++ [AO.lst ((fs.map Fn.d).take y)] = B3 at *
    rw [ev_add_rr (muL_l k1) (muL_l k2) (sl_le (by simp; omega))]
    simp only [EV, Ab.isNon, args, List.map, List.length_cons, List.length_nil, List.length_singleton, List.replicate, Nat.reduceSub, Nat.reduceAdd, Nat.zero_add, List.cons_append, List.nil_append, List.getElem?_cons_zero, List.getElem?_cons_succ, List.set_cons_zero, List.set_cons_succ, Option.some.injEq, decide_eq_true_eq, Bool.not_eq_true', decide_eq_false_iff_not, ite_true, ite_false, if_true, if_false, reduceIte, Bool.false_eq_true, Bool.not_true, Bool.not_false, Bool.true_eq_false, decide_true, decide_false, Nat.reduceLeDiff, Nat.reduceLT]
    rw [ev_tup_ofL (rdL_l at_new)]
    have ef : (fs.map Fn.d).drop y ++ (fs.map Fn.d).take y = (fs.drop y ++ fs.take y).map Fn.d := by rw [← List.map_drop, ← List.map_take, List.map_append]
    rw [ef]
    have pm : (fs.drop y ++ fs.take y).Perm fs := List.perm_append_comm.trans (by rw [List.take_append_drop])
    have rnf : rn.length ≤ 3 := by omega
    have lk : ks.length = rn.length := by rw [← kn, List.length_map]
    refine ⟨GB.trans .app, ⟨ks, arrs, gl, fs.drop y ++ fs.take y⟩, rfl, pok_of nd2 (fun x hx => (no2 x hx).1) l20 (fun f hf => fd f (pm.mem_iff.mp hf)) ((pm.map Fn.nm).nodup_iff.mpr (by rw [fn]; exact fnd)) (by rw [pm.length_eq]; exact lf) gn gl4 (by show (ks.map Rk.nm).Nodup; rw [kn]; exact rnn) (by show ks.length ≤ 3; omega) kf an (by show arrs.length ≤ 3; omega), by rw [pm.length_eq]; exact lf⟩
end Law

namespace Law
open PySem PySem.Spec PyProof.Rows L2 Ab
open scoped Classical
/-! ### the law -/
theorem make_spec {cl : Str → Addr} {A : AH} {p : Pg} {f : Fn} (ok : Fok p f) : Sat ((m_Layout_init cl (.ref A.length :: [p.d, .str f.nm]) (A ++ [.ins (cl "Layout") []])).bind fun v A2 => nonR A.length v A2) fun d A' => Gr A A' ∧ ∃ i, d = .ref i ∧ Lay A' (cl "Layout") i p f := by
  rw [sat_bind]
  refine Sat.imp (layout_spec ok at_new) fun d A' ⟨e, w, l⟩ => ?_
  subst e
  refine ⟨⟨by have := w.le; simp at this; omega, fun i o e => w.keep i o (by have := at_lt e; omega) (Gr.app.keep i o e)⟩, A.length, rfl, l⟩
theorem Lay.setL {A : AH} {C : Addr} {i R : Nat} {p : Pg} {f : Fn} {xs : List D} {o : AO} (h : Lay A C i p f) (hR : A[R]? = some (.lst xs)) : Lay (A.set R o) C i p f := by
  obtain ⟨hs, K, FD, FN, AR, h1, h2, h3, h4, h5, h6⟩ := h.ex
  have nd : ∀ {n : Nat} {u : List (Key × D)}, A[n]? = some (.dic u) → (A.set R o)[n]? = some (.dic u) := fun {n u} e => by
    rw [List.getElem?_set_ne (by rintro rfl; rw [hR] at e; cases e)]; exact e
  refine ⟨hs, K, FD, FN, AR, ?_, nd h2, nd h3, nd h4, nd h5, h6⟩
  obtain ⟨fs, e, r⟩ := h1
  exact ⟨fs, by rw [List.getElem?_set_ne (by rintro rfl; rw [hR] at e; cases e)]; exact e, r⟩
def aD (a : Pg × Fn) : D := .tup [a.1.d, a.2.d]
def aOk (a : Pg × Fn) : Prop := Pok a.1 ∧ a.2 ∈ a.1.fns
theorem aOk.f {a : Pg × Fn} (h : aOk a) : Fok a.1 a.2 := (h.1.fns a.2 h.2).1
theorem a_0 {a : Pg × Fn} {A : AH} : ixD (aD a) (.int 0) A = .ok a.1.d A := ixa
theorem a_1 {a : Pg × Fn} {A : AH} : ixD (aD a) (.int 1) A = .ok a.2.d A := ixb
theorem law_okC (cl : Str → Addr) : ∀ ns : List Int, ns.length ≤ 63 → ∃ A', m_law cl [.ref 0] [.frz (ns.map D.int)] = .ok (.bl true) A' := by
  intro ns hl
  have key : Sat (m_law cl [.ref 0] [.frz (ns.map D.int)]) fun d A' => d = .bl true := by
    refine sat_body rfl (sat_seq ?_)
    have h0 : ([AO.frz (ns.map D.int)] : AH)[0]? = some (.frz (ns.map D.int)) := rfl
    generalize [AO.frz (ns.map D.int)] = A at h0 ⊢
    simp only [EV, Ab.isNon, args, List.map, List.length_cons, List.length_nil, List.length_singleton, List.replicate, Nat.reduceSub, Nat.reduceAdd, Nat.zero_add, List.cons_append, List.nil_append, List.getElem?_cons_zero, List.getElem?_cons_succ, List.set_cons_zero, List.set_cons_succ, Option.some.injEq, decide_eq_true_eq, Bool.not_eq_true', decide_eq_false_iff_not, ite_true, ite_false, if_true, if_false, reduceIte, Bool.false_eq_true, Bool.not_true, Bool.not_false, Bool.true_eq_false, decide_true, decide_false, Nat.reduceLeDiff, Nat.reduceLT]
    have hL := at_new (A := A) (o := .lst [])
    have g1 := Gr.app (A := A) (B := [AO.lst []])
    have ln0 : ∀ B, Gr A B → lenD [.ref 0] B = .ok (.int (ns.length : Nat)) B := fun B g => (ev_len_r (rdL_f (g.keep _ _ h0))).trans (by rw [List.length_map])
    generalize A ++ [AO.lst []] = A1 at *
    refine sat_seq ?_
    simp only [EV, Ab.isNon, args, List.map, List.length_cons, List.length_nil, List.length_singleton, List.replicate, Nat.reduceSub, Nat.reduceAdd, Nat.zero_add, List.cons_append, List.nil_append, List.getElem?_cons_zero, List.getElem?_cons_succ, List.set_cons_zero, List.set_cons_succ, Option.some.injEq, decide_eq_true_eq, Bool.not_eq_true', decide_eq_false_iff_not, ite_true, ite_false, if_true, if_false, reduceIte, Bool.false_eq_true, Bool.not_true, Bool.not_false, Bool.true_eq_false, decide_true, decide_false, Nat.reduceLeDiff, Nat.reduceLT, ln0 A1 g1]
    obtain ⟨n, hn, n6⟩ : ∃ n : Nat, (if (if (6 : Int) < (ns.length : Nat) then (6 : Int) else (ns.length : Nat)) > 2 then (if (6 : Int) < (ns.length : Nat) then (6 : Int) else (ns.length : Nat)) else 2) = (n : Nat) ∧ n ≤ 6 := by
      split <;> split <;> first | exact ⟨6, rfl, by decide⟩ | exact ⟨2, rfl, by decide⟩ | exact ⟨ns.length, rfl, by omega⟩
    rw [hn]
    rw [if_pos (inRg_of (by omega) (by omega)), Int.toNat_natCast]
    refine range_inv (fun k σ B => Gr A B ∧ (∃ (Q : Nat) (as : List (Pg × Fn)), B[Q]? = some (.lst (as.map aD)) ∧ A.length ≤ Q ∧ as.length ≤ 4 * k ∧ (∀ a ∈ as, aOk a) ∧ ∃ x2 x3 x4, σ = [some (.ref 0), some (.ref Q), x2, x3, x4, none, none, none, none]))
      (fun k σ B hk ⟨gB, Q, as, hQ, lQ, las, oas, x2, x3, x4, hσ⟩ => ?_) (fun σ B ⟨gB, Q, as, hQ, lQ, las, oas, x2, x3, x4, hσ⟩ => ?_) ⟨g1, A.length, [], hL, Nat.le_refl _, by simp, by simp, none, none, none, rfl⟩
    · subst hσ
      have hk : k < n := hk
      obtain ⟨v, hv⟩ := cell0 (k := ((k : Nat) : Int)) (gB.keep _ _ h0) hl (by omega)
      simp only [EV, Ab.isNon, args, List.map, List.length_cons, List.length_nil, List.length_singleton, List.replicate, Nat.reduceSub, Nat.reduceAdd, Nat.zero_add, List.cons_append, List.nil_append, List.getElem?_cons_zero, List.getElem?_cons_succ, List.set_cons_zero, List.set_cons_succ, Option.some.injEq, decide_eq_true_eq, Bool.not_eq_true', decide_eq_false_iff_not, ite_true, ite_false, if_true, if_false, reduceIte, Bool.false_eq_true, Bool.not_true, Bool.not_false, Bool.true_eq_false, decide_true, decide_false, Nat.reduceLeDiff, Nat.reduceLT, Int.zero_add]
      refine sat_seq ?_
      simp only [EV, Ab.isNon, args, List.map, List.length_cons, List.length_nil, List.length_singleton, List.replicate, Nat.reduceSub, Nat.reduceAdd, Nat.zero_add, List.cons_append, List.nil_append, List.getElem?_cons_zero, List.getElem?_cons_succ, List.set_cons_zero, List.set_cons_succ, Option.some.injEq, decide_eq_true_eq, Bool.not_eq_true', decide_eq_false_iff_not, ite_true, ite_false, if_true, if_false, reduceIte, Bool.false_eq_true, Bool.not_true, Bool.not_false, Bool.true_eq_false, decide_true, decide_false, Nat.reduceLeDiff, Nat.reduceLT, hv]
      refine Sat.imp drawn_spec fun d B1 ⟨g2, p, e, pk, pf⟩ => ?_
      subst e
      have hQ := g2.keep _ _ hQ
      have gB := gB.trans g2
      have i3 : ∀ B, iSeq (.tup (p.fns.map Fn.d)) B = .ok ⟨p.fns.map Fn.d, yes⟩ B := fun B => rfl
      simp only [EV, Ab.isNon, args, List.map, List.length_cons, List.length_nil, List.length_singleton, List.replicate, Nat.reduceSub, Nat.reduceAdd, Nat.zero_add, List.cons_append, List.nil_append, List.getElem?_cons_zero, List.getElem?_cons_succ, List.set_cons_zero, List.set_cons_succ, Option.some.injEq, decide_eq_true_eq, Bool.not_eq_true', decide_eq_false_iff_not, ite_true, ite_false, if_true, if_false, reduceIte, Bool.false_eq_true, Bool.not_true, Bool.not_false, Bool.true_eq_false, decide_true, decide_false, Nat.reduceLeDiff, Nat.reduceLT, Pg.i3, i3, wipeA]
      refine comp_pure Fn.d (fun f => aD (p, f)) (fun _ => trivial) (fun f hf l => ?_) (by omega) ?_
      · simp only [EV, Ab.isNon, args, List.map, List.length_cons, List.length_nil, List.length_singleton, List.replicate, Nat.reduceSub, Nat.reduceAdd, Nat.zero_add, List.cons_append, List.nil_append, List.getElem?_cons_zero, List.getElem?_cons_succ, List.set_cons_zero, List.set_cons_succ, Option.some.injEq, decide_eq_true_eq, Bool.not_eq_true', decide_eq_false_iff_not, ite_true, ite_false, if_true, if_false, reduceIte, Bool.false_eq_true, Bool.not_true, Bool.not_false, Bool.true_eq_false, decide_true, decide_false, Nat.reduceLeDiff, Nat.reduceLT]
        exact ⟨rfl, trivial⟩
      · have hN := at_new (A := B1) (o := .lst (p.fns.map fun f => aD (p, f)))
        have g3 := Gr.app (A := B1) (B := [AO.lst (p.fns.map fun f => aD (p, f))])
        have hQ := g3.keep _ _ hQ
        rw [ev_add_rr (muL_l hQ) (muL_l hN) (sl_le (by rw [List.length_map, List.length_map]; omega))]
        have ea : as.map aD ++ p.fns.map (fun f => aD (p, f)) = (as ++ p.fns.map fun f => (p, f)).map aD := by rw [List.map_append, List.map_map]; rfl
        rw [ea]
        simp only [EV, Ab.isNon, args, List.map, List.length_cons, List.length_nil, List.length_singleton, List.replicate, Nat.reduceSub, Nat.reduceAdd, Nat.zero_add, List.cons_append, List.nil_append, List.getElem?_cons_zero, List.getElem?_cons_succ, List.set_cons_zero, List.set_cons_succ, Option.some.injEq, decide_eq_true_eq, Bool.not_eq_true', decide_eq_false_iff_not, ite_true, ite_false, if_true, if_false, reduceIte, Bool.false_eq_true, Bool.not_true, Bool.not_false, Bool.true_eq_false, decide_true, decide_false, Nat.reduceLeDiff, Nat.reduceLT, turn_]
        have gE := (gB.trans g3).trans (Gr.app (B := [AO.lst ((as ++ p.fns.map fun f => (p, f)).map aD)]))
        refine ⟨gE, _, as ++ p.fns.map fun f => (p, f), at_new, by have := gB.le; have := g3.le; omega, by rw [List.length_append, List.length_map]; omega, fun a ha => ?_, _, _, _, rfl⟩
        rcases List.mem_append.mp ha with h | h
        · exact oas a h
        · obtain ⟨f, hf, rfl⟩ := List.mem_map.mp h
          exact ⟨pk, hf⟩
    · subst hσ
      have la : as.length ≤ 24 := by omega
      simp only [EV, Ab.isNon, args, List.map, List.length_cons, List.length_nil, List.length_singleton, List.replicate, Nat.reduceSub, Nat.reduceAdd, Nat.zero_add, List.cons_append, List.nil_append, List.getElem?_cons_zero, List.getElem?_cons_succ, List.set_cons_zero, List.set_cons_succ, Option.some.injEq, decide_eq_true_eq, Bool.not_eq_true', decide_eq_false_iff_not, ite_true, ite_false, if_true, if_false, reduceIte, Bool.false_eq_true, Bool.not_true, Bool.not_false, Bool.true_eq_false, decide_true, decide_false, Nat.reduceLeDiff, Nat.reduceLT]
      -- the layouts
      refine sat_seq ?_
      simp only [EV, Ab.isNon, args, List.map, List.length_cons, List.length_nil, List.length_singleton, List.replicate, Nat.reduceSub, Nat.reduceAdd, Nat.zero_add, List.cons_append, List.nil_append, List.getElem?_cons_zero, List.getElem?_cons_succ, List.set_cons_zero, List.set_cons_succ, Option.some.injEq, decide_eq_true_eq, Bool.not_eq_true', decide_eq_false_iff_not, ite_true, ite_false, if_true, if_false, reduceIte, Bool.false_eq_true, Bool.not_true, Bool.not_false, Bool.true_eq_false, decide_true, decide_false, Nat.reduceLeDiff, Nat.reduceLT, ev_iseq_l hQ, wipeA]
      refine comp_inv (fun rest acc C => Gr B C ∧ C[B.length]? = some (.lst acc) ∧ ∃ pre post, as = pre ++ post ∧ rest = post.map aD ∧ ∃ is : List Nat, acc = is.map D.ref ∧ is.length = pre.length ∧ ∀ (j : Nat) (a : Pg × Fn) (i : Nat), pre[j]? = some a → is[j]? = some i → Lay C (cl "Layout") i a.1 a.2)
        (fun d rest acc C ⟨gC, hC, pre, post, e1, e2, is, ei, li, lay⟩ => ⟨rdL_l (gC.keep _ _ hQ), ?_⟩) (fun acc C ⟨gC, hC, pre, post, e1, e2, is, ei, li, lay⟩ => ⟨rdL_l (gC.keep _ _ hQ), ?_⟩) _ [] _ ⟨.app, at_new, [], as, rfl, rfl, [], rfl, rfl, by simp⟩
      · cases post with
        | nil => cases e2
        | cons a post =>
          rw [List.map_cons, List.cons.injEq] at e2
          obtain ⟨e2, e4⟩ := e2
          subst e2; subst e4
          have ao := oas a (by rw [e1]; simp)
          simp only [EV, Ab.isNon, args, List.map, List.length_cons, List.length_nil, List.length_singleton, List.replicate, Nat.reduceSub, Nat.reduceAdd, Nat.zero_add, List.cons_append, List.nil_append, List.getElem?_cons_zero, List.getElem?_cons_succ, List.set_cons_zero, List.set_cons_succ, Option.some.injEq, decide_eq_true_eq, Bool.not_eq_true', decide_eq_false_iff_not, ite_true, ite_false, if_true, if_false, reduceIte, Bool.false_eq_true, Bool.not_true, Bool.not_false, Bool.true_eq_false, decide_true, decide_false, Nat.reduceLeDiff, Nat.reduceLT, ev_make, a_0, a_1, Fn.i0]
          rw [← sat_bind]
          refine Sat.imp (make_spec ao.f) fun d C1 ⟨g2, i, e, ly⟩ => ?_
          subst e
          have hC1 := g2.keep _ _ hC
          have lb := at_lt hC
          have lp : pre.length ≤ 24 := by rw [e1, List.length_append] at la; omega
          refine ⟨hC1, Nat.lt_of_lt_of_le (show acc.length < 1000000 by rw [ei, List.length_map]; omega) (by decide), (gC.trans g2).set (Nat.le_refl _), at_set (at_lt hC1), pre ++ [a], post, by rw [e1]; simp, rfl, is ++ [i], by rw [ei, List.map_append]; rfl, by simp [li], fun j a' i' h1 h2 => ?_⟩
          by_cases lt : j < pre.length
          · rw [List.getElem?_append_left lt] at h1
            rw [List.getElem?_append_left (by omega)] at h2
            exact ((lay j a' i' h1 h2).gr g2).setL hC1
          · have ej : j = pre.length := by
              have := (List.getElem?_eq_some_iff.mp h1).1
              simp at this; omega
            subst ej
            rw [List.getElem?_append_right (Nat.le_refl _), Nat.sub_self] at h1
            rw [List.getElem?_append_right (by omega), show pre.length - is.length = 0 by omega] at h2
            cases h1; cases h2
            exact ly.setL hC1
      · have pz : post = [] := by cases post with | nil => rfl | cons a p => cases e2
        subst pz
        rw [List.append_nil] at e1
        subst e1
        have hQ := gC.keep _ _ hQ
        have gC := gB.trans gC
        clear hn
        obtain ⟨Y, eY⟩ : ∃ Y, B.length = Y := ⟨_, rfl⟩
        rw [eY] at hC
        simp only [eY, EV, Ab.isNon, args, List.map, List.length_cons, List.length_nil, List.length_singleton, List.replicate, Nat.reduceSub, Nat.reduceAdd, Nat.zero_add, List.cons_append, List.nil_append, List.getElem?_cons_zero, List.getElem?_cons_succ, List.set_cons_zero, List.set_cons_succ, Option.some.injEq, decide_eq_true_eq, Bool.not_eq_true', decide_eq_false_iff_not, ite_true, ite_false, if_true, if_false, reduceIte, Bool.false_eq_true, Bool.not_true, Bool.not_false, Bool.true_eq_false, decide_true, decide_false, Nat.reduceLeDiff, Nat.reduceLT]
        subst ei
        have lq : ∀ D, Gr C D → lenD [.ref Q] D = .ok (.int (as.length : Nat)) D := fun D g => (ev_len_r (rdL_l (g.keep _ _ hQ))).trans (by rw [List.length_map])
        have iQ : ∀ D j, Gr C D → (h : j < as.length) → ixD (.ref Q) (.int (j : Nat)) D = .ok (aD as[j]) D := fun D j g h => ev_ix_r (rdL_l (g.keep _ _ hQ)) (by rw [atI_pos (by omega), Int.toNat_natCast, List.getElem?_map, List.getElem?_eq_getElem h]; rfl)
        have iY : ∀ D j, Gr C D → (h : j < is.length) → ixD (.ref Y) (.int (j : Nat)) D = .ok (.ref is[j]) D := fun D j g h => ev_ix_r (rdL_l (g.keep _ _ hC)) (by rw [atI_pos (by omega), Int.toNat_natCast, List.getElem?_map, List.getElem?_eq_getElem h]; rfl)
        have LY : ∀ j (h : j < as.length) (h' : j < is.length) D, Gr C D → Lay D (cl "Layout") is[j] as[j].1 as[j].2 := fun j h h' D g => (lay j _ _ (List.getElem?_eq_getElem h) (List.getElem?_eq_getElem h')).gr g
        refine sat_seq ?_
        simp only [EV, Ab.isNon, args, List.map, List.length_cons, List.length_nil, List.length_singleton, List.replicate, Nat.reduceSub, Nat.reduceAdd, Nat.zero_add, List.cons_append, List.nil_append, List.getElem?_cons_zero, List.getElem?_cons_succ, List.set_cons_zero, List.set_cons_succ, Option.some.injEq, decide_eq_true_eq, Bool.not_eq_true', decide_eq_false_iff_not, ite_true, ite_false, if_true, if_false, reduceIte, Bool.false_eq_true, Bool.not_true, Bool.not_false, Bool.true_eq_false, decide_true, decide_false, Nat.reduceLeDiff, Nat.reduceLT, lq C .refl]
        rw [if_pos (inRg_of (by omega) (by omega)), Int.toNat_natCast]
        refine range_inv (fun k σ D => Gr C D ∧ ∃ x2 x3 x4 x7, σ = [some (.ref 0), some (.ref Q), x2, x3, x4, some (.ref Y), none, x7, none])
          (fun k σ D hk ⟨gD, x2, x3, x4, x7, hσ⟩ => ?_) (fun σ D ⟨gD, x2, x3, x4, x7, hσ⟩ => ?_) ⟨.refl, _, _, _, _, rfl⟩
        · subst hσ
          have hk : k < as.length := hk
          have ao := oas as[k] (List.getElem_mem hk)
          simp only [EV, Ab.isNon, args, List.map, List.length_cons, List.length_nil, List.length_singleton, List.replicate, Nat.reduceSub, Nat.reduceAdd, Nat.zero_add, List.cons_append, List.nil_append, List.getElem?_cons_zero, List.getElem?_cons_succ, List.set_cons_zero, List.set_cons_succ, Option.some.injEq, decide_eq_true_eq, Bool.not_eq_true', decide_eq_false_iff_not, ite_true, ite_false, if_true, if_false, reduceIte, Bool.false_eq_true, Bool.not_true, Bool.not_false, Bool.true_eq_false, decide_true, decide_false, Nat.reduceLeDiff, Nat.reduceLT, Int.zero_add, iY D k gD (by omega), iQ D k gD hk, a_0, a_1]
          refine Sat.imp (right_spec ao.1 ao.f (LY k hk (by omega) D gD)) fun d D1 ⟨g1, e⟩ => ?_
          subst e
          simp only [EV, Ab.isNon, args, List.map, List.length_cons, List.length_nil, List.length_singleton, List.replicate, Nat.reduceSub, Nat.reduceAdd, Nat.zero_add, List.cons_append, List.nil_append, List.getElem?_cons_zero, List.getElem?_cons_succ, List.set_cons_zero, List.set_cons_succ, Option.some.injEq, decide_eq_true_eq, Bool.not_eq_true', decide_eq_false_iff_not, ite_true, ite_false, if_true, if_false, reduceIte, Bool.false_eq_true, Bool.not_true, Bool.not_false, Bool.true_eq_false, decide_true, decide_false, Nat.reduceLeDiff, Nat.reduceLT, turn_]
          exact ⟨gD.trans g1, _, _, _, _, rfl⟩
        · subst hσ
          simp only [EV, Ab.isNon, args, List.map, List.length_cons, List.length_nil, List.length_singleton, List.replicate, Nat.reduceSub, Nat.reduceAdd, Nat.zero_add, List.cons_append, List.nil_append, List.getElem?_cons_zero, List.getElem?_cons_succ, List.set_cons_zero, List.set_cons_succ, Option.some.injEq, decide_eq_true_eq, Bool.not_eq_true', decide_eq_false_iff_not, ite_true, ite_false, if_true, if_false, reduceIte, Bool.false_eq_true, Bool.not_true, Bool.not_false, Bool.true_eq_false, decide_true, decide_false, Nat.reduceLeDiff, Nat.reduceLT]
          refine sat_seq ?_
          simp only [EV, Ab.isNon, args, List.map, List.length_cons, List.length_nil, List.length_singleton, List.replicate, Nat.reduceSub, Nat.reduceAdd, Nat.zero_add, List.cons_append, List.nil_append, List.getElem?_cons_zero, List.getElem?_cons_succ, List.set_cons_zero, List.set_cons_succ, Option.some.injEq, decide_eq_true_eq, Bool.not_eq_true', decide_eq_false_iff_not, ite_true, ite_false, if_true, if_false, reduceIte, Bool.false_eq_true, Bool.not_true, Bool.not_false, Bool.true_eq_false, decide_true, decide_false, Nat.reduceLeDiff, Nat.reduceLT, lq D gD]
          rw [if_pos (inRg_of (by omega) (by omega)), Int.toNat_natCast]
          refine range_inv (fun k σ D => Gr C D ∧ ∃ x2 x3 x4 x7 x8, σ = [some (.ref 0), some (.ref Q), x2, x3, x4, some (.ref Y), none, x7, x8])
            (fun k σ D hk ⟨gD, x2, x3, x4, x7, x8, hσ⟩ => ?_) (fun σ D ⟨gD, x2, x3, x4, x7, x8, hσ⟩ => ?_) ⟨gD, _, _, _, _, _, rfl⟩
          · subst hσ
            have hk : k < as.length := hk
            have ao := oas as[k] (List.getElem_mem hk)
            have e1 : ((as.length : Nat) : Int) - 1 - ((k : Nat) : Int) = ((as.length - 1 - k : Nat) : Int) := by omega
            have hj : as.length - 1 - k < as.length := by omega
            simp only [EV, Ab.isNon, args, List.map, List.length_cons, List.length_nil, List.length_singleton, List.replicate, Nat.reduceSub, Nat.reduceAdd, Nat.zero_add, List.cons_append, List.nil_append, List.getElem?_cons_zero, List.getElem?_cons_succ, List.set_cons_zero, List.set_cons_succ, Option.some.injEq, decide_eq_true_eq, Bool.not_eq_true', decide_eq_false_iff_not, ite_true, ite_false, if_true, if_false, reduceIte, Bool.false_eq_true, Bool.not_true, Bool.not_false, Bool.true_eq_false, decide_true, decide_false, Nat.reduceLeDiff, Nat.reduceLT, Int.zero_add]
            refine sat_seq ?_
            simp only [EV, Ab.isNon, args, List.map, List.length_cons, List.length_nil, List.length_singleton, List.replicate, Nat.reduceSub, Nat.reduceAdd, Nat.zero_add, List.cons_append, List.nil_append, List.getElem?_cons_zero, List.getElem?_cons_succ, List.set_cons_zero, List.set_cons_succ, Option.some.injEq, decide_eq_true_eq, Bool.not_eq_true', decide_eq_false_iff_not, ite_true, ite_false, if_true, if_false, reduceIte, Bool.false_eq_true, Bool.not_true, Bool.not_false, Bool.true_eq_false, decide_true, decide_false, Nat.reduceLeDiff, Nat.reduceLT, lq D gD, e1]
            generalize as.length - 1 - k = j at *
            have aj := oas as[j] (List.getElem_mem hj)
            refine sat_seq ?_
            simp only [EV, Ab.isNon, args, List.map, List.length_cons, List.length_nil, List.length_singleton, List.replicate, Nat.reduceSub, Nat.reduceAdd, Nat.zero_add, List.cons_append, List.nil_append, List.getElem?_cons_zero, List.getElem?_cons_succ, List.set_cons_zero, List.set_cons_succ, Option.some.injEq, decide_eq_true_eq, Bool.not_eq_true', decide_eq_false_iff_not, ite_true, ite_false, if_true, if_false, reduceIte, Bool.false_eq_true, Bool.not_true, Bool.not_false, Bool.true_eq_false, decide_true, decide_false, Nat.reduceLeDiff, Nat.reduceLT, ev_make, iQ D j gD hj, a_0, a_1, Fn.i0]
            rw [← sat_bind]
            refine Sat.imp (make_spec aj.f) fun d D1 ⟨g1, i, e, ly⟩ => ?_
            subst e
            have g1 := gD.trans g1
            simp only [EV, Ab.isNon, args, List.map, List.length_cons, List.length_nil, List.length_singleton, List.replicate, Nat.reduceSub, Nat.reduceAdd, Nat.zero_add, List.cons_append, List.nil_append, List.getElem?_cons_zero, List.getElem?_cons_succ, List.set_cons_zero, List.set_cons_succ, Option.some.injEq, decide_eq_true_eq, Bool.not_eq_true', decide_eq_false_iff_not, ite_true, ite_false, if_true, if_false, reduceIte, Bool.false_eq_true, Bool.not_true, Bool.not_false, Bool.true_eq_false, decide_true, decide_false, Nat.reduceLeDiff, Nat.reduceLT, iQ D1 j g1 hj, a_0, a_1]
            refine Sat.imp (right_spec aj.1 aj.f ly) fun d D2 ⟨g2, e⟩ => ?_
            subst e
            have g2 := g1.trans g2
            simp only [EV, Ab.isNon, args, List.map, List.length_cons, List.length_nil, List.length_singleton, List.replicate, Nat.reduceSub, Nat.reduceAdd, Nat.zero_add, List.cons_append, List.nil_append, List.getElem?_cons_zero, List.getElem?_cons_succ, List.set_cons_zero, List.set_cons_succ, Option.some.injEq, decide_eq_true_eq, Bool.not_eq_true', decide_eq_false_iff_not, ite_true, ite_false, if_true, if_false, reduceIte, Bool.false_eq_true, Bool.not_true, Bool.not_false, Bool.true_eq_false, decide_true, decide_false, Nat.reduceLeDiff, Nat.reduceLT, iY D2 k g2 (by omega), iQ D2 k g2 hk, a_0, a_1]
            refine Sat.imp (right_spec ao.1 ao.f (LY k hk (by omega) D2 g2)) fun d D3 ⟨g3, e⟩ => ?_
            subst e
            simp only [EV, Ab.isNon, args, List.map, List.length_cons, List.length_nil, List.length_singleton, List.replicate, Nat.reduceSub, Nat.reduceAdd, Nat.zero_add, List.cons_append, List.nil_append, List.getElem?_cons_zero, List.getElem?_cons_succ, List.set_cons_zero, List.set_cons_succ, Option.some.injEq, decide_eq_true_eq, Bool.not_eq_true', decide_eq_false_iff_not, ite_true, ite_false, if_true, if_false, reduceIte, Bool.false_eq_true, Bool.not_true, Bool.not_false, Bool.true_eq_false, decide_true, decide_false, Nat.reduceLeDiff, Nat.reduceLT, turn_]
            exact ⟨g2.trans g3, _, _, _, _, _, rfl⟩
          · subst hσ
            simp only [EV, Ab.isNon, args, List.map, List.length_cons, List.length_nil, List.length_singleton, List.replicate, Nat.reduceSub, Nat.reduceAdd, Nat.zero_add, List.cons_append, List.nil_append, List.getElem?_cons_zero, List.getElem?_cons_succ, List.set_cons_zero, List.set_cons_succ, Option.some.injEq, decide_eq_true_eq, Bool.not_eq_true', decide_eq_false_iff_not, ite_true, ite_false, if_true, if_false, reduceIte, Bool.false_eq_true, Bool.not_true, Bool.not_false, Bool.true_eq_false, decide_true, decide_false, Nat.reduceLeDiff, Nat.reduceLT]
  obtain ⟨d, A', e, rfl⟩ := key.eq
  exact ⟨A', e⟩
theorem law_ok : ∀ (K : PySem.W.Frag) (ns : List Int), ns.length ≤ 63 → ∃ A', m_law (clsA K) [.ref 0] [.frz (ns.map D.int)] = .ok (.bl true) A' := fun K => law_okC (clsA K)
end Law

namespace Law
open PySem PySem.Spec PyProof.Rows L2 Ab
theorem all_mk {l : PySem.W.OpenLaw} {w : World} {K : PySem.W.Frag} {h : Heap} {mg : Str → Option Value} {fa : Addr} (X : K.In h) (G : h.Ns mainGlobals mg) (hfa : mg "law" = some (.ref fa))
    {C_Layout : Addr}
    {f0 : Addr} {od0 an0 : Option Addr} {sl0 : Array (Option Value)} {oc0 kV0 dc0 pm0 cd0 ct0 : Value}
    {f1 : Addr} {od1 an1 : Option Addr} {sl1 : Array (Option Value)} {oc1 kV1 dc1 pm1 cd1 ct1 : Value}
    {f2 : Addr} {od2 an2 : Option Addr} {sl2 : Array (Option Value)} {oc2 kV2 dc2 pm2 cd2 ct2 : Value}
    {f3 : Addr} {od3 an3 : Option Addr} {sl3 : Array (Option Value)} {oc3 kV3 dc3 pm3 cd3 ct3 : Value}
    {f4 : Addr} {od4 an4 : Option Addr} {sl4 : Array (Option Value)} {oc4 kV4 dc4 pm4 cd4 ct4 : Value}
    {f5 : Addr} {od5 an5 : Option Addr} {sl5 : Array (Option Value)} {oc5 kV5 dc5 pm5 cd5 ct5 : Value}
    {f6 : Addr} {od6 an6 : Option Addr} {sl6 : Array (Option Value)} {oc6 kV6 dc6 pm6 cd6 ct6 : Value}
    {f7 : Addr} {od7 an7 : Option Addr} {sl7 : Array (Option Value)} {oc7 kV7 dc7 pm7 cd7 ct7 : Value}
    {f8 : Addr} {od8 an8 : Option Addr} {sl8 : Array (Option Value)} {oc8 kV8 dc8 pm8 cd8 ct8 : Value}
    {f9 : Addr} {od9 an9 : Option Addr} {sl9 : Array (Option Value)} {oc9 kV9 dc9 pm9 cd9 ct9 : Value}
    {f10 : Addr} {od10 an10 : Option Addr} {sl10 : Array (Option Value)} {oc10 kV10 dc10 pm10 cd10 ct10 : Value}
    {f11 : Addr} {od11 an11 : Option Addr} {sl11 : Array (Option Value)} {oc11 kV11 dc11 pm11 cd11 ct11 : Value}
    {f12 : Addr} {od12 an12 : Option Addr} {sl12 : Array (Option Value)} {oc12 kV12 dc12 pm12 cd12 ct12 : Value}
    {f13 : Addr} {od13 an13 : Option Addr} {sl13 : Array (Option Value)} {oc13 kV13 dc13 pm13 cd13 ct13 : Value}
    {f14 : Addr} {od14 an14 : Option Addr} {sl14 : Array (Option Value)} {oc14 kV14 dc14 pm14 cd14 ct14 : Value}
    {f15 : Addr} {od15 an15 : Option Addr} {sl15 : Array (Option Value)} {oc15 kV15 dc15 pm15 cd15 ct15 : Value}
    {f16 : Addr} {od16 an16 : Option Addr} {sl16 : Array (Option Value)} {oc16 kV16 dc16 pm16 cd16 ct16 : Value}
    {f17 : Addr} {od17 an17 : Option Addr} {sl17 : Array (Option Value)} {oc17 kV17 dc17 pm17 cd17 ct17 : Value}
    {f18 : Addr} {od18 an18 : Option Addr} {sl18 : Array (Option Value)} {oc18 kV18 dc18 pm18 cd18 ct18 : Value}
    {f19 : Addr} {od19 an19 : Option Addr} {sl19 : Array (Option Value)} {oc19 kV19 dc19 pm19 cd19 ct19 : Value}
    {f20 : Addr} {od20 an20 : Option Addr} {sl20 : Array (Option Value)} {oc20 kV20 dc20 pm20 cd20 ct20 : Value}
    {f21 : Addr} {od21 an21 : Option Addr} {sl21 : Array (Option Value)} {oc21 kV21 dc21 pm21 cd21 ct21 : Value}
    {f22 : Addr} {od22 an22 : Option Addr} {sl22 : Array (Option Value)} {oc22 kV22 dc22 pm22 cd22 ct22 : Value}
    {f23 : Addr} {od23 an23 : Option Addr} {sl23 : Array (Option Value)} {oc23 kV23 dc23 pm23 cd23 ct23 : Value}
    {f24 : Addr} {od24 an24 : Option Addr} {sl24 : Array (Option Value)} {oc24 kV24 dc24 pm24 cd24 ct24 : Value}
    {f25 : Addr} {od25 an25 : Option Addr} {sl25 : Array (Option Value)} {oc25 kV25 dc25 pm25 cd25 ct25 : Value}
    {f26 : Addr} {od26 an26 : Option Addr} {sl26 : Array (Option Value)} {oc26 kV26 dc26 pm26 cd26 ct26 : Value}
    {f27 : Addr} {od27 an27 : Option Addr} {sl27 : Array (Option Value)} {oc27 kV27 dc27 pm27 cd27 ct27 : Value}
    {f28 : Addr} {od28 an28 : Option Addr} {sl28 : Array (Option Value)} {oc28 kV28 dc28 pm28 cd28 ct28 : Value}
    {f29 : Addr} {od29 an29 : Option Addr} {sl29 : Array (Option Value)} {oc29 kV29 dc29 pm29 cd29 ct29 : Value}
    {f30 : Addr} {od30 an30 : Option Addr} {sl30 : Array (Option Value)} {oc30 kV30 dc30 pm30 cd30 ct30 : Value}
    {f31 : Addr} {od31 an31 : Option Addr} {sl31 : Array (Option Value)} {oc31 kV31 dc31 pm31 cd31 ct31 : Value}
    {f32 : Addr} {od32 an32 : Option Addr} {sl32 : Array (Option Value)} {oc32 kV32 dc32 pm32 cd32 ct32 : Value}
    {f33 : Addr} {od33 an33 : Option Addr} {sl33 : Array (Option Value)} {oc33 kV33 dc33 pm33 cd33 ct33 : Value}
    {f34 : Addr} {od34 an34 : Option Addr} {sl34 : Array (Option Value)} {oc34 kV34 dc34 pm34 cd34 ct34 : Value}
    (a0 : PySem.W.nsIn K mainGlobals "is_large" = some (some (.ref f0))) (l0 : K.lookup f0 = some ⟨oc0, od0, .func (PySem.W.fnOf "is_large" "is_large" (defArgs s_is_large) (defBody s_is_large) (defScope s_is_large) .none kV0 dc0 pm0 an0 cd0 ct0), sl0⟩) (c0 : PySem.W.codeIn K cd0 "is_large" = true) (k0 : PySem.W.keepIn K (.ref f0) = true)
    (a1 : PySem.W.nsIn K mainGlobals "is_discrete" = some (some (.ref f1))) (l1 : K.lookup f1 = some ⟨oc1, od1, .func (PySem.W.fnOf "is_discrete" "is_discrete" (defArgs s_is_discrete) (defBody s_is_discrete) (defScope s_is_discrete) .none kV1 dc1 pm1 an1 cd1 ct1), sl1⟩) (c1 : PySem.W.codeIn K cd1 "is_discrete" = true) (k1 : PySem.W.keepIn K (.ref f1) = true)
    (a2 : PySem.W.nsIn K mainGlobals "discrete_names" = some (some (.ref f2))) (l2 : K.lookup f2 = some ⟨oc2, od2, .func (PySem.W.fnOf "discrete_names" "discrete_names" (defArgs s_discrete_names) (defBody s_discrete_names) (defScope s_discrete_names) .none kV2 dc2 pm2 an2 cd2 ct2), sl2⟩) (c2 : PySem.W.codeIn K cd2 "discrete_names" = true) (k2 : PySem.W.keepIn K (.ref f2) = true)
    (a3 : PySem.W.nsIn K mainGlobals "find_named" = some (some (.ref f3))) (l3 : K.lookup f3 = some ⟨oc3, od3, .func (PySem.W.fnOf "find_named" "find_named" (defArgs s_find_named) (defBody s_find_named) (defScope s_find_named) .none kV3 dc3 pm3 an3 cd3 ct3), sl3⟩) (c3 : PySem.W.codeIn K cd3 "find_named" = true) (k3 : PySem.W.keepIn K (.ref f3) = true)
    (a4 : PySem.W.nsIn K mainGlobals "find_function" = some (some (.ref f4))) (l4 : K.lookup f4 = some ⟨oc4, od4, .func (PySem.W.fnOf "find_function" "find_function" (defArgs s_find_function) (defBody s_find_function) (defScope s_find_function) .none kV4 dc4 pm4 an4 cd4 ct4), sl4⟩) (c4 : PySem.W.codeIn K cd4 "find_function" = true) (k4 : PySem.W.keepIn K (.ref f4) = true)
    (a5 : PySem.W.nsIn K mainGlobals "bodies" = some (some (.ref f5))) (l5 : K.lookup f5 = some ⟨oc5, od5, .func (PySem.W.fnOf "bodies" "bodies" (defArgs s_bodies) (defBody s_bodies) (defScope s_bodies) .none kV5 dc5 pm5 an5 cd5 ct5), sl5⟩) (c5 : PySem.W.codeIn K cd5 "bodies" = true) (k5 : PySem.W.keepIn K (.ref f5) = true)
    (a6 : PySem.W.nsIn K mainGlobals "listed" = some (some (.ref f6))) (l6 : K.lookup f6 = some ⟨oc6, od6, .func (PySem.W.fnOf "listed" "listed" (defArgs s_listed) (defBody s_listed) (defScope s_listed) .none kV6 dc6 pm6 an6 cd6 ct6), sl6⟩) (c6 : PySem.W.codeIn K cd6 "listed" = true) (k6 : PySem.W.keepIn K (.ref f6) = true)
    (a7 : PySem.W.nsIn K mainGlobals "heads" = some (some (.ref f7))) (l7 : K.lookup f7 = some ⟨oc7, od7, .func (PySem.W.fnOf "heads" "heads" (defArgs s_heads) (defBody s_heads) (defScope s_heads) .none kV7 dc7 pm7 an7 cd7 ct7), sl7⟩) (c7 : PySem.W.codeIn K cd7 "heads" = true) (k7 : PySem.W.keepIn K (.ref f7) = true)
    (a8 : PySem.W.nsIn K mainGlobals "kinds_of" = some (some (.ref f8))) (l8 : K.lookup f8 = some ⟨oc8, od8, .func (PySem.W.fnOf "kinds_of" "kinds_of" (defArgs s_kinds_of) (defBody s_kinds_of) (defScope s_kinds_of) .none kV8 dc8 pm8 an8 cd8 ct8), sl8⟩) (c8 : PySem.W.codeIn K cd8 "kinds_of" = true) (k8 : PySem.W.keepIn K (.ref f8) = true)
    (a9 : PySem.W.nsIn K mainGlobals "large_names" = some (some (.ref f9))) (l9 : K.lookup f9 = some ⟨oc9, od9, .func (PySem.W.fnOf "large_names" "large_names" (defArgs s_large_names) (defBody s_large_names) (defScope s_large_names) .none kV9 dc9 pm9 an9 cd9 ct9), sl9⟩) (c9 : PySem.W.codeIn K cd9 "large_names" = true) (k9 : PySem.W.keepIn K (.ref f9) = true)
    (a10 : PySem.W.nsIn K mainGlobals "first_place" = some (some (.ref f10))) (l10 : K.lookup f10 = some ⟨oc10, od10, .func (PySem.W.fnOf "first_place" "first_place" (defArgs s_first_place) (defBody s_first_place) (defScope s_first_place) .none kV10 dc10 pm10 an10 cd10 ct10), sl10⟩) (c10 : PySem.W.codeIn K cd10 "first_place" = true) (k10 : PySem.W.keepIn K (.ref f10) = true)
    (a11 : PySem.W.nsIn K mainGlobals "body_nodes" = some (some (.ref f11))) (l11 : K.lookup f11 = some ⟨oc11, od11, .func (PySem.W.fnOf "body_nodes" "body_nodes" (defArgs s_body_nodes) (defBody s_body_nodes) (defScope s_body_nodes) .none kV11 dc11 pm11 an11 cd11 ct11), sl11⟩) (c11 : PySem.W.codeIn K cd11 "body_nodes" = true) (k11 : PySem.W.keepIn K (.ref f11) = true)
    (a12 : PySem.W.nsIn K mainGlobals "statement_nodes" = some (some (.ref f12))) (l12 : K.lookup f12 = some ⟨oc12, od12, .func (PySem.W.fnOf "statement_nodes" "statement_nodes" (defArgs s_statement_nodes) (defBody s_statement_nodes) (defScope s_statement_nodes) .none kV12 dc12 pm12 an12 cd12 ct12), sl12⟩) (c12 : PySem.W.codeIn K cd12 "statement_nodes" = true) (k12 : PySem.W.keepIn K (.ref f12) = true)
    (a13 : PySem.W.nsIn K mainGlobals "nodes" = some (some (.ref f13))) (l13 : K.lookup f13 = some ⟨oc13, od13, .func (PySem.W.fnOf "nodes" "nodes" (defArgs s_nodes) (defBody s_nodes) (defScope s_nodes) .none kV13 dc13 pm13 an13 cd13 ct13), sl13⟩) (c13 : PySem.W.codeIn K cd13 "nodes" = true) (k13 : PySem.W.keepIn K (.ref f13) = true)
    (a14 : PySem.W.nsIn K mainGlobals "ranges_of" = some (some (.ref f14))) (l14 : K.lookup f14 = some ⟨oc14, od14, .func (PySem.W.fnOf "ranges_of" "ranges_of" (defArgs s_ranges_of) (defBody s_ranges_of) (defScope s_ranges_of) .none kV14 dc14 pm14 an14 cd14 ct14), sl14⟩) (c14 : PySem.W.codeIn K cd14 "ranges_of" = true) (k14 : PySem.W.keepIn K (.ref f14) = true)
    (a15 : PySem.W.nsIn K mainGlobals "visible_kinds" = some (some (.ref f15))) (l15 : K.lookup f15 = some ⟨oc15, od15, .func (PySem.W.fnOf "visible_kinds" "visible_kinds" (defArgs s_visible_kinds) (defBody s_visible_kinds) (defScope s_visible_kinds) .none kV15 dc15 pm15 an15 cd15 ct15), sl15⟩) (c15 : PySem.W.codeIn K cd15 "visible_kinds" = true) (k15 : PySem.W.keepIn K (.ref f15) = true)
    (a16 : PySem.W.findIn K (.ref C_Layout) "__init__" = some (some (.ref f16))) (i16 : PySem.W.isFn K (.ref f16) = true) (l16 : K.lookup f16 = some ⟨oc16, od16, .func (PySem.W.fnOf "__init__" "Layout.__init__" (defArgs s_Layout_init) (defBody s_Layout_init) (defScope s_Layout_init) .none kV16 dc16 pm16 an16 cd16 ct16), sl16⟩) (c16 : PySem.W.codeIn K cd16 "Layout.__init__" = true) (k16 : PySem.W.keepIn K (.ref f16) = true)
    (a17 : PySem.W.nsIn K mainGlobals "_law_cell" = some (some (.ref f17))) (l17 : K.lookup f17 = some ⟨oc17, od17, .func (PySem.W.fnOf "_law_cell" "_law_cell" (defArgs s__law_cell) (defBody s__law_cell) (defScope s__law_cell) .none kV17 dc17 pm17 an17 cd17 ct17), sl17⟩) (c17 : PySem.W.codeIn K cd17 "_law_cell" = true) (k17 : PySem.W.keepIn K (.ref f17) = true)
    (a18 : PySem.W.nsIn K mainGlobals "_law_pick" = some (some (.ref f18))) (l18 : K.lookup f18 = some ⟨oc18, od18, .func (PySem.W.fnOf "_law_pick" "_law_pick" (defArgs s__law_pick) (defBody s__law_pick) (defScope s__law_pick) .none kV18 dc18 pm18 an18 cd18 ct18), sl18⟩) (c18 : PySem.W.codeIn K cd18 "_law_pick" = true) (k18 : PySem.W.keepIn K (.ref f18) = true)
    (a19 : PySem.W.nsIn K mainGlobals "_law_body" = some (some (.ref f19))) (l19 : K.lookup f19 = some ⟨oc19, od19, .func (PySem.W.fnOf "_law_body" "_law_body" (defArgs s__law_body) (defBody s__law_body) (defScope s__law_body) .none kV19 dc19 pm19 an19 cd19 ct19), sl19⟩) (c19 : PySem.W.codeIn K cd19 "_law_body" = true) (k19 : PySem.W.keepIn K (.ref f19) = true)
    (a20 : PySem.W.nsIn K mainGlobals "_law_one" = some (some (.ref f20))) (l20 : K.lookup f20 = some ⟨oc20, od20, .func (PySem.W.fnOf "_law_one" "_law_one" (defArgs s__law_one) (defBody s__law_one) (defScope s__law_one) .none kV20 dc20 pm20 an20 cd20 ct20), sl20⟩) (c20 : PySem.W.codeIn K cd20 "_law_one" = true) (k20 : PySem.W.keepIn K (.ref f20) = true)
    (a21 : PySem.W.nsIn K mainGlobals "_law_kind" = some (some (.ref f21))) (l21 : K.lookup f21 = some ⟨oc21, od21, .func (PySem.W.fnOf "_law_kind" "_law_kind" (defArgs s__law_kind) (defBody s__law_kind) (defScope s__law_kind) .none kV21 dc21 pm21 an21 cd21 ct21), sl21⟩) (c21 : PySem.W.codeIn K cd21 "_law_kind" = true) (k21 : PySem.W.keepIn K (.ref f21) = true)
    (a22 : PySem.W.nsIn K mainGlobals "_law_names" = some (some (.ref f22))) (l22 : K.lookup f22 = some ⟨oc22, od22, .func (PySem.W.fnOf "_law_names" "_law_names" (defArgs s__law_names) (defBody s__law_names) (defScope s__law_names) .none kV22 dc22 pm22 an22 cd22 ct22), sl22⟩) (c22 : PySem.W.codeIn K cd22 "_law_names" = true) (k22 : PySem.W.keepIn K (.ref f22) = true)
    (a23 : PySem.W.nsIn K mainGlobals "_law_is_large" = some (some (.ref f23))) (l23 : K.lookup f23 = some ⟨oc23, od23, .func (PySem.W.fnOf "_law_is_large" "_law_is_large" (defArgs s__law_is_large) (defBody s__law_is_large) (defScope s__law_is_large) .none kV23 dc23 pm23 an23 cd23 ct23), sl23⟩) (c23 : PySem.W.codeIn K cd23 "_law_is_large" = true) (k23 : PySem.W.keepIn K (.ref f23) = true)
    (a24 : PySem.W.nsIn K mainGlobals "_law_pairs" = some (some (.ref f24))) (l24 : K.lookup f24 = some ⟨oc24, od24, .func (PySem.W.fnOf "_law_pairs" "_law_pairs" (defArgs s__law_pairs) (defBody s__law_pairs) (defScope s__law_pairs) .none kV24 dc24 pm24 an24 cd24 ct24), sl24⟩) (c24 : PySem.W.codeIn K cd24 "_law_pairs" = true) (k24 : PySem.W.keepIn K (.ref f24) = true)
    (a25 : PySem.W.nsIn K mainGlobals "_law_source" = some (some (.ref f25))) (l25 : K.lookup f25 = some ⟨oc25, od25, .func (PySem.W.fnOf "_law_source" "_law_source" (defArgs s__law_source) (defBody s__law_source) (defScope s__law_source) .none kV25 dc25 pm25 an25 cd25 ct25), sl25⟩) (c25 : PySem.W.codeIn K cd25 "_law_source" = true) (k25 : PySem.W.keepIn K (.ref f25) = true)
    (a26 : PySem.W.nsIn K mainGlobals "_law_drawn" = some (some (.ref f26))) (l26 : K.lookup f26 = some ⟨oc26, od26, .func (PySem.W.fnOf "_law_drawn" "_law_drawn" (defArgs s__law_drawn) (defBody s__law_drawn) (defScope s__law_drawn) .none kV26 dc26 pm26 an26 cd26 ct26), sl26⟩) (c26 : PySem.W.codeIn K cd26 "_law_drawn" = true) (k26 : PySem.W.keepIn K (.ref f26) = true)
    (a27 : PySem.W.nsIn K mainGlobals "_law_count" = some (some (.ref f27))) (l27 : K.lookup f27 = some ⟨oc27, od27, .func (PySem.W.fnOf "_law_count" "_law_count" (defArgs s__law_count) (defBody s__law_count) (defScope s__law_count) .none kV27 dc27 pm27 an27 cd27 ct27), sl27⟩) (c27 : PySem.W.codeIn K cd27 "_law_count" = true) (k27 : PySem.W.keepIn K (.ref f27) = true)
    (a28 : PySem.W.nsIn K mainGlobals "_law_some_names" = some (some (.ref f28))) (l28 : K.lookup f28 = some ⟨oc28, od28, .func (PySem.W.fnOf "_law_some_names" "_law_some_names" (defArgs s__law_some_names) (defBody s__law_some_names) (defScope s__law_some_names) .none kV28 dc28 pm28 an28 cd28 ct28), sl28⟩) (c28 : PySem.W.codeIn K cd28 "_law_some_names" = true) (k28 : PySem.W.keepIn K (.ref f28) = true)
    (a29 : PySem.W.nsIn K mainGlobals "_law_some_ranges" = some (some (.ref f29))) (l29 : K.lookup f29 = some ⟨oc29, od29, .func (PySem.W.fnOf "_law_some_ranges" "_law_some_ranges" (defArgs s__law_some_ranges) (defBody s__law_some_ranges) (defScope s__law_some_ranges) .none kV29 dc29 pm29 an29 cd29 ct29), sl29⟩) (c29 : PySem.W.codeIn K cd29 "_law_some_ranges" = true) (k29 : PySem.W.keepIn K (.ref f29) = true)
    (a30 : PySem.W.nsIn K mainGlobals "_law_due" = some (some (.ref f30))) (l30 : K.lookup f30 = some ⟨oc30, od30, .func (PySem.W.fnOf "_law_due" "_law_due" (defArgs s__law_due) (defBody s__law_due) (defScope s__law_due) .none kV30 dc30 pm30 an30 cd30 ct30), sl30⟩) (c30 : PySem.W.codeIn K cd30 "_law_due" = true) (k30 : PySem.W.keepIn K (.ref f30) = true)
    (a31 : PySem.W.nsIn K mainGlobals "_law_same" = some (some (.ref f31))) (l31 : K.lookup f31 = some ⟨oc31, od31, .func (PySem.W.fnOf "_law_same" "_law_same" (defArgs s__law_same) (defBody s__law_same) (defScope s__law_same) .none kV31 dc31 pm31 an31 cd31 ct31), sl31⟩) (c31 : PySem.W.codeIn K cd31 "_law_same" = true) (k31 : PySem.W.keepIn K (.ref f31) = true)
    (a32 : PySem.W.nsIn K mainGlobals "_law_told" = some (some (.ref f32))) (l32 : K.lookup f32 = some ⟨oc32, od32, .func (PySem.W.fnOf "_law_told" "_law_told" (defArgs s__law_told) (defBody s__law_told) (defScope s__law_told) .none kV32 dc32 pm32 an32 cd32 ct32), sl32⟩) (c32 : PySem.W.codeIn K cd32 "_law_told" = true) (k32 : PySem.W.keepIn K (.ref f32) = true)
    (a33 : PySem.W.nsIn K mainGlobals "_law_right" = some (some (.ref f33))) (l33 : K.lookup f33 = some ⟨oc33, od33, .func (PySem.W.fnOf "_law_right" "_law_right" (defArgs s__law_right) (defBody s__law_right) (defScope s__law_right) .none kV33 dc33 pm33 an33 cd33 ct33), sl33⟩) (c33 : PySem.W.codeIn K cd33 "_law_right" = true) (k33 : PySem.W.keepIn K (.ref f33) = true)
    (a34 : PySem.W.nsIn K mainGlobals "law" = some (some (.ref f34))) (l34 : K.lookup f34 = some ⟨oc34, od34, .func (PySem.W.fnOf "law" "law" (defArgs s_law) (defBody s_law) (defScope s_law) .none kV34 dc34 pm34 an34 cd34 ct34), sl34⟩) (c34 : PySem.W.codeIn K cd34 "law" = true) (k34 : PySem.W.keepIn K (.ref f34) = true)
    (aC_Layout : PySem.W.nsIn K mainGlobals "Layout" = some (some (.ref C_Layout))) (pg_Layout : PySem.W.plainGet K C_Layout Str.empty = true) (hd_Layout : PySem.W.hasDictIn K C_Layout = true) (po_Layout : PySem.W.plainOver K C_Layout = true) (sa_Layout : PySem.W.findIn K (.ref C_Layout) "__setattr__" = some (some (.builtin "object.__setattr__")))
    (mk_Layout : PySem.W.makesIn K C_Layout = true) (kc_Layout : PySem.W.keepIn K (.ref C_Layout) = true)
    (n_Layout_arrays : PySem.W.findIn K (.ref C_Layout) "arrays" = some none)
    (n_Layout_discrete : PySem.W.findIn K (.ref C_Layout) "discrete" = some none)
    (n_Layout_discrete_kinds : PySem.W.findIn K (.ref C_Layout) "discrete_kinds" = some none)
    (n_Layout_entry_discrete : PySem.W.findIn K (.ref C_Layout) "entry_discrete" = some none)
    (n_Layout_entry_kinds : PySem.W.findIn K (.ref C_Layout) "entry_kinds" = some none)
    (n_Layout_entry_large : PySem.W.findIn K (.ref C_Layout) "entry_large" = some none)
    (n_Layout_exit : PySem.W.findIn K (.ref C_Layout) "exit" = some none)
    (n_Layout_exit_discrete : PySem.W.findIn K (.ref C_Layout) "exit_discrete" = some none)
    (n_Layout_exit_kinds : PySem.W.findIn K (.ref C_Layout) "exit_kinds" = some none)
    (n_Layout_exit_large : PySem.W.findIn K (.ref C_Layout) "exit_large" = some none)
    (n_Layout_exit_ranges : PySem.W.findIn K (.ref C_Layout) "exit_ranges" = some none)
    (n_Layout_field_names : PySem.W.findIn K (.ref C_Layout) "field_names" = some none)
    (n_Layout_fields : PySem.W.findIn K (.ref C_Layout) "fields" = some none)
    (n_Layout_function : PySem.W.findIn K (.ref C_Layout) "function" = some none)
    (n_Layout_heads : PySem.W.findIn K (.ref C_Layout) "heads" = some none)
    (n_Layout_kinds : PySem.W.findIn K (.ref C_Layout) "kinds" = some none)
    (n_Layout_large : PySem.W.findIn K (.ref C_Layout) "large" = some none)
    (n_Layout_name : PySem.W.findIn K (.ref C_Layout) "name" = some none)
    (n_Layout_nodes : PySem.W.findIn K (.ref C_Layout) "nodes" = some none)
    (n_Layout_program : PySem.W.findIn K (.ref C_Layout) "program" = some none)
    (n_Layout_ranges : PySem.W.findIn K (.ref C_Layout) "ranges" = some none)
    (n_Layout_result : PySem.W.findIn K (.ref C_Layout) "result" = some none)
    (z0 : PySem.W.nsIn K mainGlobals "bool" = some none)
    (z1 : PySem.W.nsIn K mainGlobals "dict" = some none)
    (z2 : PySem.W.nsIn K mainGlobals "enumerate" = some none)
    (z3 : PySem.W.nsIn K mainGlobals "int" = some none)
    (z4 : PySem.W.nsIn K mainGlobals "isinstance" = some none)
    (z5 : PySem.W.nsIn K mainGlobals "len" = some none)
    (z6 : PySem.W.nsIn K mainGlobals "list" = some none)
    (z7 : PySem.W.nsIn K mainGlobals "max" = some none)
    (z8 : PySem.W.nsIn K mainGlobals "min" = some none)
    (z9 : PySem.W.nsIn K mainGlobals "range" = some none)
    (z10 : PySem.W.nsIn K mainGlobals "str" = some none)
    (z11 : PySem.W.nsIn K mainGlobals "tuple" = some none)
    : ∃ fd : FuncData, (∀ (s : Shared) (v : Value), BindsTo s fd ⟨[v], []⟩ [("_law_script", v)]) ∧ ∀ base : Heap, K.In base → base.Ns mainGlobals mg → FnOk l.prog w K mg base CX0 45 fa fd ["_law_script"] (spM K 1 (m_law (clsA K))) := by
  have e := hfa.symm.trans (PySem.W.mg_of X G a34)
  cases e
  have F0 := fun_mk (st := s_is_large) l0 c0 k0
  have b0 := F0.binds (ps := ["kind"]) fun _ _ _ _ _ _ us hl => match us, hl with | [_], _ => rfl
  have F1 := fun_mk (st := s_is_discrete) l1 c1 k1
  have b1 := F1.binds (ps := ["kind"]) fun _ _ _ _ _ _ us hl => match us, hl with | [_], _ => rfl
  have F2 := fun_mk (st := s_discrete_names) l2 c2 k2
  have b2 := F2.binds (ps := ["names", "kinds"]) fun _ _ _ _ _ _ us hl => match us, hl with | [_, _], _ => rfl
  have F3 := fun_mk (st := s_find_named) l3 c3 k3
  have b3 := F3.binds (ps := ["rows", "name"]) fun _ _ _ _ _ _ us hl => match us, hl with | [_, _], _ => rfl
  have F4 := fun_mk (st := s_find_function) l4 c4 k4
  have b4 := F4.binds (ps := ["program", "name"]) fun _ _ _ _ _ _ us hl => match us, hl with | [_, _], _ => rfl
  have F5 := fun_mk (st := s_bodies) l5 c5 k5
  have b5 := F5.binds (ps := ["statement"]) fun _ _ _ _ _ _ us hl => match us, hl with | [_], _ => rfl
  have F6 := fun_mk (st := s_listed) l6 c6 k6
  have b6 := F6.binds (ps := ["body"]) fun _ _ _ _ _ _ us hl => match us, hl with | [_], _ => rfl
  have F7 := fun_mk (st := s_heads) l7 c7 k7
  have b7 := F7.binds (ps := ["function"]) fun _ _ _ _ _ _ us hl => match us, hl with | [_], _ => rfl
  have F8 := fun_mk (st := s_kinds_of) l8 c8 k8
  have b8 := F8.binds (ps := ["names", "kinds"]) fun _ _ _ _ _ _ us hl => match us, hl with | [_, _], _ => rfl
  have F9 := fun_mk (st := s_large_names) l9 c9 k9
  have b9 := F9.binds (ps := ["names", "kinds"]) fun _ _ _ _ _ _ us hl => match us, hl with | [_, _], _ => rfl
  have F10 := fun_mk (st := s_first_place) l10 c10 k10
  have b10 := F10.binds (ps := ["body", "place", "after"]) fun _ _ _ _ _ _ us hl => match us, hl with | [_, _, _], _ => rfl
  have F11 := fun_mk (st := s_body_nodes) l11 c11 k11
  have b11 := F11.binds (ps := ["body", "place", "after", "out", "end"]) fun _ _ _ _ _ _ us hl => match us, hl with | [_, _, _, _, _], _ => rfl
  have F12 := fun_mk (st := s_statement_nodes) l12 c12 k12
  have b12 := F12.binds (ps := ["statement", "here", "behind", "out", "end"]) fun _ _ _ _ _ _ us hl => match us, hl with | [_, _, _, _, _], _ => rfl
  have F13 := fun_mk (st := s_nodes) l13 c13 k13
  have b13 := F13.binds (ps := ["function"]) fun _ _ _ _ _ _ us hl => match us, hl with | [_], _ => rfl
  have F14 := fun_mk (st := s_ranges_of) l14 c14 k14
  have b14 := F14.binds (ps := ["names", "kinds"]) fun _ _ _ _ _ _ us hl => match us, hl with | [_, _], _ => rfl
  have F15 := fun_mk (st := s_visible_kinds) l15 c15 k15
  have b15 := F15.binds (ps := ["program", "function"]) fun _ _ _ _ _ _ us hl => match us, hl with | [_, _], _ => rfl
  have F16 := fun_mk (st := s_Layout_init) l16 c16 k16
  have b16 := F16.binds (ps := ["self", "program", "name"]) fun _ _ _ _ _ _ us hl => match us, hl with | [_, _, _], _ => rfl
  have F17 := fun_mk (st := s__law_cell) l17 c17 k17
  have b17 := F17.binds (ps := ["_law_script", "_law_at"]) fun _ _ _ _ _ _ us hl => match us, hl with | [_, _], _ => rfl
  have F18 := fun_mk (st := s__law_pick) l18 c18 k18
  have b18 := F18.binds (ps := ["_law_source_here", "_law_size"]) fun _ _ _ _ _ _ us hl => match us, hl with | [_, _], _ => rfl
  have F19 := fun_mk (st := s__law_body) l19 c19 k19
  have b19 := F19.binds (ps := ["_law_source_here", "_law_left", "_law_depth", "_law_loop"]) fun _ _ _ _ _ _ us hl => match us, hl with | [_, _, _, _], _ => rfl
  have F20 := fun_mk (st := s__law_one) l20 c20 k20
  have b20 := F20.binds (ps := ["_law_source_here", "_law_row"]) fun _ _ _ _ _ _ us hl => match us, hl with | [_, _], _ => rfl
  have F21 := fun_mk (st := s__law_kind) l21 c21 k21
  have b21 := F21.binds (ps := ["_law_source_here", "_law_records", "_law_large"]) fun _ _ _ _ _ _ us hl => match us, hl with | [_, _, _], _ => rfl
  have F22 := fun_mk (st := s__law_names) l22 c22 k22
  have b22 := F22.binds (ps := ["_law_source_here"]) fun _ _ _ _ _ _ us hl => match us, hl with | [_], _ => rfl
  have F23 := fun_mk (st := s__law_is_large) l23 c23 k23
  have b23 := F23.binds (ps := ["_law_kind_here"]) fun _ _ _ _ _ _ us hl => match us, hl with | [_], _ => rfl
  have F24 := fun_mk (st := s__law_pairs) l24 c24 k24
  have b24 := F24.binds (ps := ["_law_source_here", "_law_names_here", "_law_records", "_law_room"]) fun _ _ _ _ _ _ us hl => match us, hl with | [_, _, _, _], _ => rfl
  have F25 := fun_mk (st := s__law_source) l25 c25 k25
  have b25 := F25.binds (ps := ["_law_cell_here"]) fun _ _ _ _ _ _ us hl => match us, hl with | [_], _ => rfl
  have F26 := fun_mk (st := s__law_drawn) l26 c26 k26
  have b26 := F26.binds (ps := ["_law_cell_here"]) fun _ _ _ _ _ _ us hl => match us, hl with | [_], _ => rfl
  have F27 := fun_mk (st := s__law_count) l27 c27 k27
  have b27 := F27.binds (ps := ["_law_body_here"]) fun _ _ _ _ _ _ us hl => match us, hl with | [_], _ => rfl
  have F28 := fun_mk (st := s__law_some_names) l28 c28 k28
  have b28 := F28.binds (ps := ["_law_pairs_here", "_law_large"]) fun _ _ _ _ _ _ us hl => match us, hl with | [_, _], _ => rfl
  have F29 := fun_mk (st := s__law_some_ranges) l29 c29 k29
  have b29 := F29.binds (ps := ["_law_pairs_here"]) fun _ _ _ _ _ _ us hl => match us, hl with | [_], _ => rfl
  have F30 := fun_mk (st := s__law_due) l30 c30 k30
  have b30 := F30.binds (ps := ["_law_program", "_law_head"]) fun _ _ _ _ _ _ us hl => match us, hl with | [_, _], _ => rfl
  have F31 := fun_mk (st := s__law_same) l31 c31 k31
  have b31 := F31.binds (ps := ["_law_actual", "_law_due_here"]) fun _ _ _ _ _ _ us hl => match us, hl with | [_, _], _ => rfl
  have F32 := fun_mk (st := s__law_told) l32 c32 k32
  have b32 := F32.binds (ps := ["_law_layout"]) fun _ _ _ _ _ _ us hl => match us, hl with | [_], _ => rfl
  have F33 := fun_mk (st := s__law_right) l33 c33 k33
  have b33 := F33.binds (ps := ["_law_layout", "_law_program", "_law_head"]) fun _ _ _ _ _ _ us hl => match us, hl with | [_, _, _], _ => rfl
  have F34 := fun_mk (st := s_law) l34 c34 k34
  have b34 := F34.binds (ps := ["_law_script"]) fun _ _ _ _ _ _ us hl => match us, hl with | [_], _ => rfl
  have e_Layout : clsA K "Layout" = C_Layout := clsA_of aC_Layout
  let T : Txt K mg (clsA K) := ⟨f0, _, F0, b0, PySem.W.mg_of X G a0, f1, _, F1, b1, PySem.W.mg_of X G a1, f2, _, F2, b2, PySem.W.mg_of X G a2, f3, _, F3, b3, PySem.W.mg_of X G a3, f4, _, F4, b4, PySem.W.mg_of X G a4, f5, _, F5, b5, PySem.W.mg_of X G a5, f6, _, F6, b6, PySem.W.mg_of X G a6, f7, _, F7, b7, PySem.W.mg_of X G a7, f8, _, F8, b8, PySem.W.mg_of X G a8, f9, _, F9, b9, PySem.W.mg_of X G a9, f10, _, F10, b10, PySem.W.mg_of X G a10, f11, _, F11, b11, PySem.W.mg_of X G a11, f12, _, F12, b12, PySem.W.mg_of X G a12, f13, _, F13, b13, PySem.W.mg_of X G a13, f14, _, F14, b14, PySem.W.mg_of X G a14, f15, _, F15, b15, PySem.W.mg_of X G a15, f16, _, F16, b16, f17, _, F17, b17, PySem.W.mg_of X G a17, f18, _, F18, b18, PySem.W.mg_of X G a18, f19, _, F19, b19, PySem.W.mg_of X G a19, f20, _, F20, b20, PySem.W.mg_of X G a20, f21, _, F21, b21, PySem.W.mg_of X G a21, f22, _, F22, b22, PySem.W.mg_of X G a22, f23, _, F23, b23, PySem.W.mg_of X G a23, f24, _, F24, b24, PySem.W.mg_of X G a24, f25, _, F25, b25, PySem.W.mg_of X G a25, f26, _, F26, b26, PySem.W.mg_of X G a26, f27, _, F27, b27, PySem.W.mg_of X G a27, f28, _, F28, b28, PySem.W.mg_of X G a28, f29, _, F29, b29, PySem.W.mg_of X G a29, f30, _, F30, b30, PySem.W.mg_of X G a30, f31, _, F31, b31, PySem.W.mg_of X G a31, f32, _, F32, b32, PySem.W.mg_of X G a32, f33, _, F33, b33, PySem.W.mg_of X G a33, fa, _, F34, b34, PySem.W.mg_of X G a34, (by rw [e_Layout]; exact ⟨pg_Layout, hd_Layout, po_Layout, sa_Layout⟩), (by rw [e_Layout]; exact PySem.W.mg_of X G aC_Layout), (by rw [e_Layout]; exact ⟨mk_Layout, a16, i16, kc_Layout⟩), (by rw [e_Layout]; exact n_Layout_arrays), (by rw [e_Layout]; exact n_Layout_discrete), (by rw [e_Layout]; exact n_Layout_discrete_kinds), (by rw [e_Layout]; exact n_Layout_entry_discrete), (by rw [e_Layout]; exact n_Layout_entry_kinds), (by rw [e_Layout]; exact n_Layout_entry_large), (by rw [e_Layout]; exact n_Layout_exit), (by rw [e_Layout]; exact n_Layout_exit_discrete), (by rw [e_Layout]; exact n_Layout_exit_kinds), (by rw [e_Layout]; exact n_Layout_exit_large), (by rw [e_Layout]; exact n_Layout_exit_ranges), (by rw [e_Layout]; exact n_Layout_field_names), (by rw [e_Layout]; exact n_Layout_fields), (by rw [e_Layout]; exact n_Layout_function), (by rw [e_Layout]; exact n_Layout_heads), (by rw [e_Layout]; exact n_Layout_kinds), (by rw [e_Layout]; exact n_Layout_large), (by rw [e_Layout]; exact n_Layout_name), (by rw [e_Layout]; exact n_Layout_nodes), (by rw [e_Layout]; exact n_Layout_program), (by rw [e_Layout]; exact n_Layout_ranges), (by rw [e_Layout]; exact n_Layout_result), PySem.W.mg_none_of X G z0, PySem.W.mg_none_of X G z1, PySem.W.mg_none_of X G z2, PySem.W.mg_none_of X G z3, PySem.W.mg_none_of X G z4, PySem.W.mg_none_of X G z5, PySem.W.mg_none_of X G z6, PySem.W.mg_none_of X G z7, PySem.W.mg_none_of X G z8, PySem.W.mg_none_of X G z9, PySem.W.mg_none_of X G z10, PySem.W.mg_none_of X G z11⟩
  exact ⟨_, fun s v => .of_eq rfl, fun base _ _ => ad_law T⟩
end Law
open PySem PySem.W PyProof.Rows
set_option maxRecDepth 100000 in
set_option maxHeartbeats 0 in
theorem PySem.Challenge.cw_neverhappens_k09_layout_holds : PySem.Challenge.rw_neverhappens_k09_layout.Holds := by
  w_on; o_law; k_head; (case hw => w_witness2)
  k_fill
  refine L2.walk_ofK (l := PySem.Challenge.rw_neverhappens_k09_layout) (n := 63) (k := 45) (x := "_law_script") (CX := L2.CX0) (sp := fun K => Ab.spM K 1 (Law.m_law (Ab.clsA K))) rfl (by decide) rfl ⟨rfl, by decide, by decide⟩ (fun w h Y => PySem.W.kIn_of Y) ?F (Ab.sp_lawK Law.law_ok) (fun _ _ _ _ h => h)
  case F =>
    intro w mg fa h KX G hmg
    refine' Law.all_mk KX G hmg ?a0 ?l0 ?c0 ?k0 ?a1 ?l1 ?c1 ?k1 ?a2 ?l2 ?c2 ?k2 ?a3 ?l3 ?c3 ?k3 ?a4 ?l4 ?c4 ?k4 ?a5 ?l5 ?c5 ?k5 ?a6 ?l6 ?c6 ?k6 ?a7 ?l7 ?c7 ?k7 ?a8 ?l8 ?c8 ?k8 ?a9 ?l9 ?c9 ?k9 ?a10 ?l10 ?c10 ?k10 ?a11 ?l11 ?c11 ?k11 ?a12 ?l12 ?c12 ?k12 ?a13 ?l13 ?c13 ?k13 ?a14 ?l14 ?c14 ?k14 ?a15 ?l15 ?c15 ?k15 ?a16 ?i16 ?l16 ?c16 ?k16 ?a17 ?l17 ?c17 ?k17 ?a18 ?l18 ?c18 ?k18 ?a19 ?l19 ?c19 ?k19 ?a20 ?l20 ?c20 ?k20 ?a21 ?l21 ?c21 ?k21 ?a22 ?l22 ?c22 ?k22 ?a23 ?l23 ?c23 ?k23 ?a24 ?l24 ?c24 ?k24 ?a25 ?l25 ?c25 ?k25 ?a26 ?l26 ?c26 ?k26 ?a27 ?l27 ?c27 ?k27 ?a28 ?l28 ?c28 ?k28 ?a29 ?l29 ?c29 ?k29 ?a30 ?l30 ?c30 ?k30 ?a31 ?l31 ?c31 ?k31 ?a32 ?l32 ?c32 ?k32 ?a33 ?l33 ?c33 ?k33 ?a34 ?l34 ?c34 ?k34 ?aC_Layout ?pg_Layout ?hd_Layout ?po_Layout ?sa_Layout ?mk_Layout ?kc_Layout ?n_Layout_arrays ?n_Layout_discrete ?n_Layout_discrete_kinds ?n_Layout_entry_discrete ?n_Layout_entry_kinds ?n_Layout_entry_large ?n_Layout_exit ?n_Layout_exit_discrete ?n_Layout_exit_kinds ?n_Layout_exit_large ?n_Layout_exit_ranges ?n_Layout_field_names ?n_Layout_fields ?n_Layout_function ?n_Layout_heads ?n_Layout_kinds ?n_Layout_large ?n_Layout_name ?n_Layout_nodes ?n_Layout_program ?n_Layout_ranges ?n_Layout_result ?z0 ?z1 ?z2 ?z3 ?z4 ?z5 ?z6 ?z7 ?z8 ?z9 ?z10 ?z11
    (case aC_Layout => k_is)
    (case a0 => k_is)
    (case l0 => k_is)
    (case c0 => k_is)
    (case k0 => k_is)
    (case a1 => k_is)
    (case l1 => k_is)
    (case c1 => k_is)
    (case k1 => k_is)
    (case a2 => k_is)
    (case l2 => k_is)
    (case c2 => k_is)
    (case k2 => k_is)
    (case a3 => k_is)
    (case l3 => k_is)
    (case c3 => k_is)
    (case k3 => k_is)
    (case a4 => k_is)
    (case l4 => k_is)
    (case c4 => k_is)
    (case k4 => k_is)
    (case a5 => k_is)
    (case l5 => k_is)
    (case c5 => k_is)
    (case k5 => k_is)
    (case a6 => k_is)
    (case l6 => k_is)
    (case c6 => k_is)
    (case k6 => k_is)
    (case a7 => k_is)
    (case l7 => k_is)
    (case c7 => k_is)
    (case k7 => k_is)
    (case a8 => k_is)
    (case l8 => k_is)
    (case c8 => k_is)
    (case k8 => k_is)
    (case a9 => k_is)
    (case l9 => k_is)
    (case c9 => k_is)
    (case k9 => k_is)
    (case a10 => k_is)
    (case l10 => k_is)
    (case c10 => k_is)
    (case k10 => k_is)
    (case a11 => k_is)
    (case l11 => k_is)
    (case c11 => k_is)
    (case k11 => k_is)
    (case a12 => k_is)
    (case l12 => k_is)
    (case c12 => k_is)
    (case k12 => k_is)
    (case a13 => k_is)
    (case l13 => k_is)
    (case c13 => k_is)
    (case k13 => k_is)
    (case a14 => k_is)
    (case l14 => k_is)
    (case c14 => k_is)
    (case k14 => k_is)
    (case a15 => k_is)
    (case l15 => k_is)
    (case c15 => k_is)
    (case k15 => k_is)
    (case a16 => k_is)
    (case i16 => k_is)
    (case l16 => k_is)
    (case c16 => k_is)
    (case k16 => k_is)
    (case a17 => k_is)
    (case l17 => k_is)
    (case c17 => k_is)
    (case k17 => k_is)
    (case a18 => k_is)
    (case l18 => k_is)
    (case c18 => k_is)
    (case k18 => k_is)
    (case a19 => k_is)
    (case l19 => k_is)
    (case c19 => k_is)
    (case k19 => k_is)
    (case a20 => k_is)
    (case l20 => k_is)
    (case c20 => k_is)
    (case k20 => k_is)
    (case a21 => k_is)
    (case l21 => k_is)
    (case c21 => k_is)
    (case k21 => k_is)
    (case a22 => k_is)
    (case l22 => k_is)
    (case c22 => k_is)
    (case k22 => k_is)
    (case a23 => k_is)
    (case l23 => k_is)
    (case c23 => k_is)
    (case k23 => k_is)
    (case a24 => k_is)
    (case l24 => k_is)
    (case c24 => k_is)
    (case k24 => k_is)
    (case a25 => k_is)
    (case l25 => k_is)
    (case c25 => k_is)
    (case k25 => k_is)
    (case a26 => k_is)
    (case l26 => k_is)
    (case c26 => k_is)
    (case k26 => k_is)
    (case a27 => k_is)
    (case l27 => k_is)
    (case c27 => k_is)
    (case k27 => k_is)
    (case a28 => k_is)
    (case l28 => k_is)
    (case c28 => k_is)
    (case k28 => k_is)
    (case a29 => k_is)
    (case l29 => k_is)
    (case c29 => k_is)
    (case k29 => k_is)
    (case a30 => k_is)
    (case l30 => k_is)
    (case c30 => k_is)
    (case k30 => k_is)
    (case a31 => k_is)
    (case l31 => k_is)
    (case c31 => k_is)
    (case k31 => k_is)
    (case a32 => k_is)
    (case l32 => k_is)
    (case c32 => k_is)
    (case k32 => k_is)
    (case a33 => k_is)
    (case l33 => k_is)
    (case c33 => k_is)
    (case k33 => k_is)
    (case a34 => k_is)
    (case l34 => k_is)
    (case c34 => k_is)
    (case k34 => k_is)
    (case pg_Layout => k_is)
    (case hd_Layout => k_is)
    (case po_Layout => k_is)
    (case sa_Layout => k_is)
    (case mk_Layout => k_is)
    (case kc_Layout => k_is)
    (case n_Layout_arrays => k_is)
    (case n_Layout_discrete => k_is)
    (case n_Layout_discrete_kinds => k_is)
    (case n_Layout_entry_discrete => k_is)
    (case n_Layout_entry_kinds => k_is)
    (case n_Layout_entry_large => k_is)
    (case n_Layout_exit => k_is)
    (case n_Layout_exit_discrete => k_is)
    (case n_Layout_exit_kinds => k_is)
    (case n_Layout_exit_large => k_is)
    (case n_Layout_exit_ranges => k_is)
    (case n_Layout_field_names => k_is)
    (case n_Layout_fields => k_is)
    (case n_Layout_function => k_is)
    (case n_Layout_heads => k_is)
    (case n_Layout_kinds => k_is)
    (case n_Layout_large => k_is)
    (case n_Layout_name => k_is)
    (case n_Layout_nodes => k_is)
    (case n_Layout_program => k_is)
    (case n_Layout_ranges => k_is)
    (case n_Layout_result => k_is)
    (case z0 => k_is)
    (case z1 => k_is)
    (case z2 => k_is)
    (case z3 => k_is)
    (case z4 => k_is)
    (case z5 => k_is)
    (case z6 => k_is)
    (case z7 => k_is)
    (case z8 => k_is)
    (case z9 => k_is)
    (case z10 => k_is)
    (case z11 => k_is)
