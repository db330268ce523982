import PyProof.Rows.All
import Wide.All
import OpenK.AllK
import Wide.FinOn
import HandS.ForMost
import HandS.Wide
import HandS.TupAny
import HandS.IsInst
import HandS.Flow
import HandS.Style
import HandS.FStr
import HandS.Deep
import HandS.Small
import HandS.RaiseMore
import HandS.More
import HandS.Conv
import HandS.Zip
import HandS.Ends
import HandS.DictComp
import PyProof.EqAt
import PyProof.NeKinds
import PySem.Challenge.RW_neverhappens_k22_whole_boxes_are_their_p
set_option Elab.async false
set_option linter.all false
set_option maxRecDepth 100000
namespace Ab
open PySem PySem.Spec PyProof.Rows L2

/-! ## data: what a value is, with tuples as plain data; what stands in a cell; the cells -/
inductive D where
  | non | bl (b : Bool) | int (i : Int) | str (x : Str) | tup (xs : List D) | ref (i : Nat)
inductive AO where
  | lst (xs : List D) | frz (xs : List D) | ftp (xs : List D) | dic (kvs : List (Key × D)) | dtp (kvs : List (List Key × D)) | fdk (kvs : List (Key × D)) | ins (C : Addr) (fs : List (Str × D))
abbrev AH := List AO
inductive Res (α : Type) where
  | ok (a : α) (A : AH) | exc (C : Addr) (fs : List (Str × D)) (A : AH) | bad
def Res.bind {α β : Type} (r : Res α) (k : α → AH → Res β) : Res β := match r with
  | .ok a A => k a A
  | .exc C fs A => .exc C fs A
  | .bad => .bad
abbrev ASt := List (Option D)
inductive Fl where
  | nx (s : ASt) | rt (d : D) | bk (s : ASt) | ct (s : ASt)
abbrev FE := ASt → AH → Res D
abbrev FA := ASt → AH → Res (List D)
abbrev FT := ASt → AH → Res Bool
abbrev FS := ASt → AH → Res Fl
abbrev FO := ASt → AH → Res (Option Int)
/-- a def as a function of its arguments -/
abbrev FM := List D → AH → Res D

/-! ## how data lies in the abstract heap: ρ tells the cells' addresses -/
mutual
def Rp (K : PySem.W.Frag) (ρ : List Addr) (H : Hp) : D → V → Prop
  | .non, v => v = .non
  | .bl b, v => v = .bl b
  | .int i, v => v = .int i
  | .str x, v => v = .str x
  | .ref i, v => ∃ a, ρ[i]? = some a ∧ v = .ref a
  | .tup ds, v => ∃ a xs, v = .ref a ∧ H a = some (.tup xs) ∧ RpL K ρ H ds xs
def RpL (K : PySem.W.Frag) (ρ : List Addr) (H : Hp) : List D → List V → Prop
  | [], xs => xs = []
  | d :: ds, xs => ∃ x r, xs = x :: r ∧ Rp K ρ H d x ∧ RpL K ρ H ds r
end
def RpK {κ : Type} (K : PySem.W.Frag) (ρ : List Addr) (H : Hp) : List (κ × D) → List (κ × V) → Prop
  | [], us => us = []
  | p :: ps, us => ∃ v r, us = (p.1, v) :: r ∧ Rp K ρ H p.2 v ∧ RpK K ρ H ps r
structure Ext (K : PySem.W.Frag) (ρ : List Addr) (H : Hp) (ρ' : List Addr) (H' : Hp) : Prop where
  pre : ∃ t, ρ' = ρ ++ t
  gr : ∀ a (xs : List V), H a = some (.tup xs) → H' a = some (.tup xs)
  fz : ∀ (a : Addr) (ob : Obj) (u : HO), H a = some (.frz ob u) → H' a = some (.frz ob u)
/-- a list that nobody writes: the script -/
def SqF (K : PySem.W.Frag) (H : Hp) (a : Addr) (xs : List V) : Prop := (∃ o, H a = some (.frz o (.lst xs))) ∨ SqL K (fun _ => none) a xs
def isFz : AO → Bool
  | .frz _ => true
  | .ftp _ => true
  | _ => false
/-- a tuple of which the object is known -/
def SqE (H : Hp) (a : Addr) (xs : List V) : Prop := ∃ o, H a = some (.frz o (.tup xs)) ∧ o.cls = .type "tuple" ∧ o.dict = none
def ORel (K : PySem.W.Frag) (ρ : List Addr) (H : Hp) (a : Addr) : AO → Prop
  | .lst ds => ∃ xs, H a = some (.lst xs) ∧ RpL K ρ H ds xs
  | .frz ds => ∃ xs, SqF K H a xs ∧ RpL K ρ H ds xs
  | .ftp ds => ∃ xs, SqE H a xs ∧ RpL K ρ H ds xs
  | .fdk kvs => ∃ o us, H a = some (.frz o (.dK us)) ∧ RpK K ρ H kvs us
  | .dic kvs => ∃ us, H a = some (.dK us) ∧ RpK K ρ H kvs us
  | .dtp kvs => ∃ us, H a = some (.dT us) ∧ RpK K ρ H kvs us
  | .ins C fs => ∃ dx us, H a = some (.ins C dx us) ∧ RpK K ρ H fs us
structure Rel (K : PySem.W.Frag) (ρ : List Addr) (H : Hp) (A : AH) : Prop where
  len : ρ.length = A.length
  nd : ∀ (i j : Nat) (a : Addr) o u, ρ[i]? = some a → ρ[j]? = some a → A[i]? = some o → A[j]? = some u → isFz o = false → isFz u = false → i = j
  ob : ∀ (i : Nat) o, A[i]? = some o → ∃ a, ρ[i]? = some a ∧ ORel K ρ H a o
structure SRel (K : PySem.W.Frag) (ρ : List Addr) (H : Hp) (s : ASt) (σ : L2.St) : Prop where
  len : s.length = σ.length
  at_ : ∀ (i : Nat) d, s[i]? = some (some d) → ∃ v, σ[i]? = some (some v) ∧ Rp K ρ H d v
section
variable {K : PySem.W.Frag} {ρ ρ' ρ'' : List Addr} {H H' H'' : Hp} {A A' : AH} {s : ASt} {σ : L2.St} {d : D} {v : V}
theorem Ext.refl : Ext K ρ H ρ H := ⟨⟨[], by simp⟩, fun _ _ h => h, fun _ _ _ h => h⟩
theorem Ext.trans (e : Ext K ρ H ρ' H') (f : Ext K ρ' H' ρ'' H'') : Ext K ρ H ρ'' H'' := by
  obtain ⟨t, rfl⟩ := e.pre
  obtain ⟨u, rfl⟩ := f.pre
  exact ⟨⟨t ++ u, by simp⟩, fun a xs h => f.gr a xs (e.gr a xs h), fun a ob u h => f.fz a ob u (e.fz a ob u h)⟩
theorem Ext.at_ (e : Ext K ρ H ρ' H') {i : Nat} {a : Addr} (h : ρ[i]? = some a) : ρ'[i]? = some a := by
  obtain ⟨t, rfl⟩ := e.pre
  obtain ⟨hi, _⟩ := List.getElem?_eq_some_iff.mp h
  rw [List.getElem?_append_left hi]; exact h
mutual
theorem Rp.ext (e : Ext K ρ H ρ' H') : ∀ (d : D) (v : V), Rp K ρ H d v → Rp K ρ' H' d v
  | .non, v, h => h
  | .bl b, v, h => h
  | .int i, v, h => h
  | .str x, v, h => h
  | .ref i, v, h => by
    obtain ⟨a, h1, h2⟩ := h
    exact ⟨a, e.at_ h1, h2⟩
  | .tup ds, v, h => by
    obtain ⟨a, xs, h1, h2, h3⟩ := h
    exact ⟨a, xs, h1, e.gr _ _ h2, RpL.ext e ds xs h3⟩
theorem RpL.ext (e : Ext K ρ H ρ' H') : ∀ (ds : List D) (xs : List V), RpL K ρ H ds xs → RpL K ρ' H' ds xs
  | [], xs, h => h
  | d :: ds, xs, h => by
    obtain ⟨x, r, h1, h2, h3⟩ := h
    exact ⟨x, r, h1, Rp.ext e d x h2, RpL.ext e ds r h3⟩
end
theorem RpK.ext {κ : Type} (e : Ext K ρ H ρ' H') : ∀ (ps : List (κ × D)) (us : List (κ × V)), RpK K ρ H ps us → RpK K ρ' H' ps us
  | [], us, h => h
  | p :: ps, us, h => by
    obtain ⟨v, r, h1, h2, h3⟩ := h
    exact ⟨v, r, h1, h2.ext e, RpK.ext e ps r h3⟩
theorem RpL.length : ∀ {ds : List D} {xs : List V}, RpL K ρ H ds xs → xs.length = ds.length
  | [], xs, h => by rw [show xs = [] from h]; rfl
  | d :: ds, xs, h => by
    obtain ⟨x, r, rfl, h2, h3⟩ := h
    simp [RpL.length h3]
theorem RpL.get : ∀ {ds : List D} {xs : List V} {i : Nat} {d : D}, RpL K ρ H ds xs → ds[i]? = some d → ∃ v, xs[i]? = some v ∧ Rp K ρ H d v
  | [], _, _, _, _, e => by simp at e
  | d :: ds, xs, 0, d', h, e => by
    obtain ⟨x, r, rfl, h2, h3⟩ := h
    simp at e; subst e
    exact ⟨x, by simp, h2⟩
  | d :: ds, xs, i + 1, d', h, e => by
    obtain ⟨x, r, rfl, h2, h3⟩ := h
    obtain ⟨v, e1, e2⟩ := RpL.get (i := i) h3 (by simpa using e)
    exact ⟨v, by simpa using e1, e2⟩
theorem RpL.append : ∀ {ds es : List D} {xs ys : List V}, RpL K ρ H ds xs → RpL K ρ H es ys → RpL K ρ H (ds ++ es) (xs ++ ys)
  | [], es, xs, ys, h, h' => by rw [show xs = [] from h]; exact h'
  | d :: ds, es, xs, ys, h, h' => by
    obtain ⟨x, r, rfl, h2, h3⟩ := h
    exact ⟨x, r ++ ys, rfl, h2, h3.append h'⟩
theorem RpL.one (h : Rp K ρ H d v) : RpL K ρ H [d] [v] := ⟨v, [], rfl, h, rfl⟩
theorem RpL.take : ∀ {ds : List D} {xs : List V} (n : Nat), RpL K ρ H ds xs → RpL K ρ H (ds.take n) (xs.take n)
  | ds, xs, 0, h => by simp [RpL]
  | [], xs, n + 1, h => by rw [show xs = [] from h]; simp [RpL]
  | d :: ds, xs, n + 1, h => by
    obtain ⟨x, r, rfl, h2, h3⟩ := h
    exact ⟨x, r.take n, rfl, h2, h3.take n⟩
theorem RpL.drop : ∀ {ds : List D} {xs : List V} (n : Nat), RpL K ρ H ds xs → RpL K ρ H (ds.drop n) (xs.drop n)
  | ds, xs, 0, h => h
  | [], xs, n + 1, h => by rw [show xs = [] from h]; simp [RpL]
  | d :: ds, xs, n + 1, h => by
    obtain ⟨x, r, rfl, h2, h3⟩ := h
    exact h3.drop n
theorem RpL.set : ∀ {ds : List D} {xs : List V} (i : Nat), RpL K ρ H ds xs → Rp K ρ H d v → RpL K ρ H (ds.set i d) (xs.set i v)
  | [], xs, i, h, q => by rw [show xs = [] from h]; simp [RpL]
  | e :: ds, xs, 0, h, q => by
    obtain ⟨x, r, rfl, h2, h3⟩ := h
    exact ⟨v, r, rfl, q, h3⟩
  | e :: ds, xs, i + 1, h, q => by
    obtain ⟨x, r, rfl, h2, h3⟩ := h
    exact ⟨x, r.set i v, rfl, h2, h3.set i q⟩
theorem RpL.reverse : ∀ {ds : List D} {xs : List V}, RpL K ρ H ds xs → RpL K ρ H ds.reverse xs.reverse
  | [], xs, h => by rw [show xs = [] from h]; simp [RpL]
  | d :: ds, xs, h => by
    obtain ⟨x, r, rfl, h2, h3⟩ := h
    rw [List.reverse_cons, List.reverse_cons]
    exact h3.reverse.append (RpL.one h2)
theorem RpL.rep : ∀ {ds : List D} {xs : List V} (n : Nat), RpL K ρ H ds xs → RpL K ρ H (List.replicate n ds).flatten (List.replicate n xs).flatten
  | ds, xs, 0, h => by simp [RpL]
  | ds, xs, n + 1, h => by
    rw [List.replicate_succ, List.replicate_succ, List.flatten_cons, List.flatten_cons]
    exact h.append (h.rep n)
theorem SRel.ext (h : SRel K ρ H s σ) (e : Ext K ρ H ρ' H') : SRel K ρ' H' s σ :=
  ⟨h.len, fun i d q => by
    obtain ⟨v, h1, h2⟩ := h.at_ i d q
    exact ⟨v, h1, h2.ext e⟩⟩
theorem SRel.set (h : SRel K ρ H s σ) (i : Nat) (q : Rp K ρ H d v) : SRel K ρ H (s.set i (some d)) (σ.set i (some v)) := by
  refine ⟨by simp [h.len], fun j e hj => ?_⟩
  by_cases hji : i = j
  · subst hji
    have hl : i < s.length := by
      have := (List.getElem?_eq_some_iff.mp hj).1
      simpa using this
    rw [List.getElem?_set_self hl] at hj
    cases hj
    exact ⟨v, List.getElem?_set_self (by rw [← h.len]; exact hl), q⟩
  · rw [List.getElem?_set_ne hji] at hj
    obtain ⟨w, h1, h2⟩ := h.at_ j e hj
    exact ⟨w, by rw [List.getElem?_set_ne hji]; exact h1, h2⟩
theorem SRel.wipe (h : SRel K ρ H s σ) (i : Nat) : SRel K ρ H (s.set i none) (σ.set i none) := by
  refine ⟨by simp [h.len], fun j e hj => ?_⟩
  by_cases hji : i = j
  · subst hji
    have hl : i < s.length := by
      have := (List.getElem?_eq_some_iff.mp hj).1
      simpa using this
    rw [List.getElem?_set_self hl] at hj
    cases hj
  · rw [List.getElem?_set_ne hji] at hj
    obtain ⟨w, h1, h2⟩ := h.at_ j e hj
    exact ⟨w, by rw [List.getElem?_set_ne hji]; exact h1, h2⟩
theorem Rel.at_ (R : Rel K ρ H A) {i : Nat} {o : AO} (h : A[i]? = some o) : ∃ a, ρ[i]? = some a ∧ ORel K ρ H a o := R.ob i o h
theorem SqF.sq {a : Addr} {xs : List V} (h : SqF K H a xs) : SqL K H a xs := by
  rcases h with ⟨o, h⟩ | (h | ⟨o, h⟩) | h
  · exact .inl (.inr ⟨o, h⟩)
  · cases h
  · cases h
  · exact .inr h
theorem ORel.some {a : Addr} {o : AO} (h : ORel K ρ H a o) (f : isFz o = false) : ∃ u, H a = some u := by
  cases o with
  | lst ds => obtain ⟨xs, e, _⟩ := h; exact ⟨_, e⟩
  | frz ds => cases f
  | ftp ds => cases f
  | fdk ds => obtain ⟨o, xs, e, _⟩ := h; exact ⟨_, e⟩
  | dic ds => obtain ⟨xs, e, _⟩ := h; exact ⟨_, e⟩
  | dtp ds => obtain ⟨xs, e, _⟩ := h; exact ⟨_, e⟩
  | ins C ds => obtain ⟨dx, xs, e, _⟩ := h; exact ⟨_, e⟩
theorem ORel.ext {a : Addr} {o : AO} (h : ORel K ρ H a o) (e : Ext K ρ H ρ' H') (q : isFz o = false → H' a = H a) (z : ∀ xs, SqF K H a xs → SqF K H' a xs) (y : ∀ (ob : Obj) (u : HO), H a = Option.some (HO.frz ob u) → H' a = Option.some (HO.frz ob u)) : ORel K ρ' H' a o := by
  cases o with
  | lst ds => obtain ⟨xs, e1, e2⟩ := h; exact ⟨xs, (q rfl).trans e1, e2.ext e⟩
  | frz ds => obtain ⟨xs, e1, e2⟩ := h; exact ⟨xs, z _ e1, e2.ext e⟩
  | ftp ds => obtain ⟨xs, ⟨o, e1, e3, e4⟩, e2⟩ := h; exact ⟨xs, ⟨o, y _ _ e1, e3, e4⟩, e2.ext e⟩
  | fdk ds => obtain ⟨o, xs, e1, e2⟩ := h; exact ⟨o, xs, (q rfl).trans e1, e2.ext e⟩
  | dic ds => obtain ⟨xs, e1, e2⟩ := h; exact ⟨xs, (q rfl).trans e1, e2.ext e⟩
  | dtp ds => obtain ⟨xs, e1, e2⟩ := h; exact ⟨xs, (q rfl).trans e1, e2.ext e⟩
  | ins C ds => obtain ⟨dx, xs, e1, e2⟩ := h; exact ⟨dx, xs, (q rfl).trans e1, e2.ext e⟩
theorem frz_new {p : Addr} {o : HO} (hp : H p = none) {a : Addr} (ob : Obj) (u : HO) (h : H a = some (.frz ob u)) : (upd H p o) a = some (.frz ob u) := by
  rw [upd_ne (ne_of_none h hp)]; exact h
theorem frz_mut {p : Addr} {o u : HO} (hp : H p = some u) (hu : Mut (some u)) {a : Addr} (ob : Obj) (v : HO) (h : H a = some (.frz ob v)) : (upd H p o) a = some (.frz ob v) := by
  have nf : ∀ o' x, u ≠ .frz o' x := fun o' x e => by subst e; exact hu
  rw [upd_ne (ne_of h hp (fun e => nf _ _ e.symm))]; exact h
theorem sqF_new {p : Addr} {o : HO} (hp : H p = none) {a : Addr} (xs : List V) (h : SqF K H a xs) : SqF K (upd H p o) a xs := by
  rcases h with ⟨o', h⟩ | h
  · exact .inl ⟨o', by rw [upd_ne (ne_of_none h hp)]; exact h⟩
  · exact .inr h
theorem sqF_mut {p : Addr} {o u : HO} (hp : H p = some u) (hu : Mut (some u)) {a : Addr} (xs : List V) (h : SqF K H a xs) : SqF K (upd H p o) a xs := by
  have nf : ∀ o' x, u ≠ .frz o' x := fun o' x e => by subst e; exact hu
  rcases h with ⟨o', h⟩ | h
  · exact .inl ⟨o', by rw [upd_ne (ne_of h hp (fun e => nf _ _ e.symm))]; exact h⟩
  · exact .inr h
theorem SqE.sq {a : Addr} {xs : List V} (h : SqE H a xs) : SqT K H a xs := by
  obtain ⟨o, h, _⟩ := h
  exact .inl (.inr ⟨o, h⟩)
theorem Rel.has (R : Rel K ρ H A) {i : Nat} {a : Addr} (h : ρ[i]? = some a) : ∃ o, A[i]? = some o ∧ ORel K ρ H a o := by
  have hi : i < A.length := by rw [← R.len]; exact (List.getElem?_eq_some_iff.mp h).1
  obtain ⟨a', h1, h2⟩ := R.ob i A[i] (List.getElem?_eq_getElem hi)
  rw [h] at h1; cases h1
  exact ⟨_, List.getElem?_eq_getElem hi, h2⟩
theorem sqT_new {p : Addr} {o : HO} (hp : H p = none) : ∀ a (xs : List V), H a = some (.tup xs) → (upd H p o) a = some (.tup xs) := by
  intro a xs h
  rw [upd_ne (ne_of_none h hp)]; exact h
theorem sqT_mut {p : Addr} {o u : HO} (hp : H p = some u) (hu : Mut (some u)) : ∀ a (xs : List V), H a = some (.tup xs) → (upd H p o) a = some (.tup xs) := by
  intro a xs h
  have nt : ∀ xs, u ≠ .tup xs := fun xs e => by subst e; exact hu
  rw [upd_ne (ne_of h hp (fun e => nt _ e.symm))]; exact h
theorem Ext.new {p : Addr} {o : HO} (hp : H p = none) (t : List Addr) : Ext K ρ H (ρ ++ t) (upd H p o) := ⟨⟨t, rfl⟩, sqT_new hp, fun _ ob u h => frz_new hp ob u h⟩
theorem Ext.new0 {p : Addr} {o : HO} (hp : H p = none) : Ext K ρ H ρ (upd H p o) := ⟨⟨[], by simp⟩, sqT_new hp, fun _ ob u h => frz_new hp ob u h⟩
theorem Ext.mut {p : Addr} {o u : HO} (hp : H p = some u) (hu : Mut (some u)) : Ext K ρ H ρ (upd H p o) := ⟨⟨[], by simp⟩, sqT_mut hp hu, fun _ ob u h => frz_mut hp hu ob u h⟩
/-- an untracked thing is laid (a tuple, a temporary) -/
theorem Rel.new0 (R : Rel K ρ H A) {p : Addr} {o : HO} (hp : H p = none) : Rel K ρ (upd H p o) A :=
  ⟨R.len, R.nd, fun i ob h => by
    obtain ⟨a, h1, h2⟩ := R.ob i ob h
    exact ⟨a, h1, h2.ext (Ext.new0 hp) (fun f => by obtain ⟨u, hu⟩ := h2.some f; exact upd_ne (ne_of_none hu hp)) (fun xs => sqF_new hp xs) fun ob u => frz_new hp ob u⟩⟩
/-- a new cell -/
theorem Rel.new (R : Rel K ρ H A) {p : Addr} {o : HO} {ao : AO} (hp : H p = none) (h : ORel K (ρ ++ [p]) (upd H p o) p ao) : Rel K (ρ ++ [p]) (upd H p o) (A ++ [ao]) := by
  have hn : ∀ (i : Nat) ob, ρ[i]? = some p → A[i]? = some ob → isFz ob = false → False := fun i ob hi ho f => by
    obtain ⟨a, h1, h2⟩ := R.ob i ob ho
    rw [hi] at h1; cases h1
    obtain ⟨u, hu⟩ := h2.some f
    rw [hp] at hu; cases hu
  have old : ∀ (i : Nat) {a : Addr} {ob : AO}, (ρ ++ [p])[i]? = some a → (A ++ [ao])[i]? = some ob → (ρ[i]? = some a ∧ A[i]? = some ob) ∨ (i = A.length ∧ a = p ∧ ob = ao) := fun i a ob h1 h2 => by
    by_cases hl : i < A.length
    · rw [List.getElem?_append_left hl] at h2
      rw [List.getElem?_append_left (by rw [R.len]; exact hl)] at h1
      exact .inl ⟨h1, h2⟩
    · have e : i = A.length := by
        have := (List.getElem?_eq_some_iff.mp h2).1
        simp at this; omega
      subst e
      simp at h2
      rw [← R.len] at h1; simp at h1
      exact .inr ⟨rfl, h1.symm, h2.symm⟩
  refine ⟨by simp [R.len], fun i j a ob u h1 h2 h3 h4 f1 f2 => ?_, fun i ob hi => ?_⟩
  · rcases old i h1 h3 with ⟨a1, a2⟩ | ⟨a1, a2, a3⟩
    · rcases old j h2 h4 with ⟨b1, b2⟩ | ⟨b1, b2, b3⟩
      · exact R.nd i j a ob u a1 b1 a2 b2 f1 f2
      · subst b2; exact (hn i ob a1 a2 f1).elim
    · rcases old j h2 h4 with ⟨b1, b2⟩ | ⟨b1, b2, b3⟩
      · subst a2; exact (hn j u b1 b2 f2).elim
      · rw [a1, b1]
  · by_cases hl : i < A.length
    · rw [List.getElem?_append_left hl] at hi
      obtain ⟨a, h1, h2⟩ := R.ob i ob hi
      exact ⟨a, (Ext.new (K := K) (o := o) hp [p]).at_ h1, h2.ext (Ext.new hp [p]) (fun f => by obtain ⟨u, hu⟩ := h2.some f; exact upd_ne (ne_of_none hu hp)) (fun xs => sqF_new hp xs) fun ob u => frz_new hp ob u⟩
    · have e : i = A.length := by
        have := (List.getElem?_eq_some_iff.mp hi).1
        simp at this; omega
      subst e
      simp at hi; subst hi
      exact ⟨p, by rw [← R.len]; simp, h⟩
/-- a cell is written -/
theorem Rel.upd (R : Rel K ρ H A) {i : Nat} {a : Addr} {o u : HO} {ao old : AO} (ha : ρ[i]? = some a) (hA : A[i]? = some old) (fo : isFz old = false) (hu : H a = some u) (hm : Mut (some u)) (h : ORel K ρ (upd H a o) a ao) (fn : isFz ao = false) : Rel K ρ (upd H a o) (A.set i ao) := by
  have hl : i < A.length := (List.getElem?_eq_some_iff.mp hA).1
  have was : ∀ (j : Nat) {ob : AO}, (A.set i ao)[j]? = some ob → isFz ob = false → ∃ ob', A[j]? = some ob' ∧ isFz ob' = false := fun j ob hj f => by
    by_cases hji : i = j
    · subst hji; exact ⟨old, hA, fo⟩
    · rw [List.getElem?_set_ne hji] at hj; exact ⟨ob, hj, f⟩
  refine ⟨by simp [R.len], fun j k b ob u h1 h2 h3 h4 f1 f2 => ?_, fun j ob hj => ?_⟩
  · obtain ⟨o1, q1, q2⟩ := was j h3 f1
    obtain ⟨o2, q3, q4⟩ := was k h4 f2
    exact R.nd j k b o1 o2 h1 h2 q1 q3 q2 q4
  · by_cases hji : i = j
    · subst hji
      rw [List.getElem?_set_self hl] at hj
      cases hj
      exact ⟨a, ha, h⟩
    · rw [List.getElem?_set_ne hji] at hj
      obtain ⟨b, h1, h2⟩ := R.ob j ob hj
      refine ⟨b, h1, h2.ext (Ext.mut hu hm) (fun f => upd_ne ?_) (fun xs => sqF_mut hu hm xs) fun ob u => frz_mut hu hm ob u⟩
      rintro rfl
      exact hji (R.nd i j b old ob ha h1 hA hj fo f)
end

/-! ## what an outcome gives -/
def Out {α β : Type} (K : PySem.W.Frag) (E : XK) (R : List Addr → Hp → α → β → Prop) (ρ : List Addr) (H : Hp) (r : Res α) (Q : β → Hp → Prop) : Prop := match r with
  | .ok a A' => ∀ ρ' H' v, Ext K ρ H ρ' H' → Rel K ρ' H' A' → R ρ' H' a v → Q v H'
  | .exc C fs A' => ∀ ρ' H' dx us, Ext K ρ H ρ' H' → Rel K ρ' H' A' → H' dx = some (.xd us) → RpK K ρ' H' fs us → E (.ref C) (some dx) H'
  | .bad => False
abbrev OutE (K : PySem.W.Frag) (E : XK) := Out (α := D) (β := V) K E (fun ρ H d v => Rp K ρ H d v)
abbrev OutA (K : PySem.W.Frag) (E : XK) := Out (α := List D) (β := List V) K E (fun ρ H d v => RpL K ρ H d v)
abbrev OutT (K : PySem.W.Frag) (E : XK) := Out (α := Bool) (β := Bool) K E (fun _ _ d v => d = v)
abbrev OutO (K : PySem.W.Frag) (E : XK) := Out (α := Option Int) (β := Option Int) K E (fun _ _ d v => d = v)
section
variable {K : PySem.W.Frag} {E : XK} {α β γ δ : Type} {R1 : List Addr → Hp → α → β → Prop} {R2 : List Addr → Hp → γ → δ → Prop} {ρ : List Addr} {H : Hp}
/-- first r, then k -/
theorem Out.bind {r : Res α} {k : α → AH → Res γ} {Q : δ → Hp → Prop} (h : Out K E R2 ρ H (r.bind k) Q) :
    Out K E R1 ρ H r (fun v H1 => ∃ ρ1 a A1, r = .ok a A1 ∧ Ext K ρ H ρ1 H1 ∧ Rel K ρ1 H1 A1 ∧ R1 ρ1 H1 a v ∧ Out K E R2 ρ1 H1 (k a A1) Q) := by
  cases r with
  | bad => exact h
  | exc C fs A => exact h
  | ok a A =>
    intro ρ1 H1 v e1 r1 q1
    refine ⟨ρ1, a, A, rfl, e1, r1, q1, ?_⟩
    have h : Out K E R2 ρ H (k a A) Q := h
    cases hk : k a A with
    | bad => rw [hk] at h; exact h
    | exc C fs A2 => rw [hk] at h; exact fun ρ' H' dx us e2 => h ρ' H' dx us (e1.trans e2)
    | ok c A2 => rw [hk] at h; exact fun ρ' H' w e2 => h ρ' H' w (e1.trans e2)
theorem Out.ext {ρ0 : List Addr} {H0 : Hp} {r : Res α} {Q : β → Hp → Prop} (h : Out K E R1 ρ0 H0 r Q) (e : Ext K ρ0 H0 ρ H) : Out K E R1 ρ H r Q := by
  cases r with
  | bad => exact h
  | exc C fs A => exact fun ρ' H' dx us e2 => h ρ' H' dx us (e.trans e2)
  | ok c A => exact fun ρ' H' w e2 => h ρ' H' w (e.trans e2)
theorem Out.mono {r : Res α} {Q Q' : β → Hp → Prop} (h : Out K E R1 ρ H r Q) (q : ∀ v H', Q v H' → Q' v H') : Out K E R1 ρ H r Q' := by
  cases r with
  | bad => exact h
  | exc C fs A => exact h
  | ok c A => exact fun ρ' H' w e r1 q1 => q _ _ (h ρ' H' w e r1 q1)
/-- at once -/
theorem Out.now {a : α} {A : AH} {Q : β → Hp → Prop} {v : β} (h : Out K E R1 ρ H (.ok a A) Q) (R : Rel K ρ H A) (r : R1 ρ H a v) : Q v H := h ρ H v .refl R r
end

/-! ## the readings that such functions give -/
def tA (K : PySem.W.Frag) (E : XK) (f : FE) : TE := fun σ H Q => ∃ ρ s A, SRel K ρ H s σ ∧ Rel K ρ H A ∧ OutE K E ρ H (f s A) Q
def tAA (K : PySem.W.Frag) (E : XK) (f : FA) : TA := fun σ H Q => ∃ ρ s A, SRel K ρ H s σ ∧ Rel K ρ H A ∧ OutA K E ρ H (f s A) Q
def tAT (K : PySem.W.Frag) (E : XK) (f : FT) : TT := fun σ H Q => ∃ ρ s A, SRel K ρ H s σ ∧ Rel K ρ H A ∧ OutT K E ρ H (f s A) Q
def tAO (K : PySem.W.Frag) (E : XK) (f : FO) : TO := fun σ H Q => ∃ ρ s A, SRel K ρ H s σ ∧ Rel K ρ H A ∧ OutO K E ρ H (f s A) Q
def SOut (K : PySem.W.Frag) (E : XK) (ρ : List Addr) (H : Hp) (r : Res Fl) (G : Ends) : Prop := match r with
  | .ok (.nx s) A' => ∀ ρ' H' σ', Ext K ρ H ρ' H' → Rel K ρ' H' A' → SRel K ρ' H' s σ' → G.nx σ' H'
  | .ok (.bk s) A' => ∀ ρ' H' σ', Ext K ρ H ρ' H' → Rel K ρ' H' A' → SRel K ρ' H' s σ' → G.bk σ' H'
  | .ok (.ct s) A' => ∀ ρ' H' σ', Ext K ρ H ρ' H' → Rel K ρ' H' A' → SRel K ρ' H' s σ' → G.ct σ' H'
  | .ok (.rt d) A' => ∀ ρ' H' v, Ext K ρ H ρ' H' → Rel K ρ' H' A' → Rp K ρ' H' d v → G.rt v H'
  | .exc C fs A' => ∀ ρ' H' dx us, Ext K ρ H ρ' H' → Rel K ρ' H' A' → H' dx = some (.xd us) → RpK K ρ' H' fs us → E (.ref C) (some dx) H'
  | .bad => False
def tAS (K : PySem.W.Frag) (E : XK) (f : FS) : TS := fun G σ H => ∃ ρ s A, SRel K ρ H s σ ∧ Rel K ρ H A ∧ SOut K E ρ H (f s A) G
theorem SOut.ext {K : PySem.W.Frag} {E : XK} {ρ0 ρ : List Addr} {H0 H : Hp} {r : Res Fl} {G : Ends} (h : SOut K E ρ0 H0 r G) (e : Ext K ρ0 H0 ρ H) : SOut K E ρ H r G := by
  cases r with
  | bad => exact h
  | exc C fs A => exact fun ρ' H' dx us e2 => h ρ' H' dx us (e.trans e2)
  | ok c A => cases c <;> exact fun ρ' H' w e2 => h ρ' H' w (e.trans e2)
theorem Out.bindS {K : PySem.W.Frag} {E : XK} {α β : Type} {R1 : List Addr → Hp → α → β → Prop} {ρ : List Addr} {H : Hp} {r : Res α} {k : α → AH → Res Fl} {G : Ends} (h : SOut K E ρ H (r.bind k) G) :
    Out K E R1 ρ H r (fun v H1 => ∃ ρ1 a A1, r = .ok a A1 ∧ Ext K ρ H ρ1 H1 ∧ Rel K ρ1 H1 A1 ∧ R1 ρ1 H1 a v ∧ SOut K E ρ1 H1 (k a A1) G) := by
  cases r with
  | bad => exact h
  | exc C fs A => exact h
  | ok a A => exact fun ρ1 H1 v e1 r1 q1 => ⟨ρ1, a, A, rfl, e1, r1, q1, SOut.ext h e1⟩
/-- what the judgements are about -/
abbrev AE (X : Cx) (E : XK) (e : Expr) (f : FE) : Prop := PE X e (tA X.K E f)
abbrev AA (X : Cx) (E : XK) (es : List Expr) (f : FA) : Prop := PA X es (tAA X.K E f)
abbrev AT (X : Cx) (E : XK) (e : Expr) (f : FT) : Prop := PT X e (tAT X.K E f)
abbrev AO_ (X : Cx) (E : XK) (e : Option Expr) (f : FO) : Prop := PO X e (tAO X.K E f)
abbrev AS (X : Cx) (E : XK) (e : Stmt) (f : FS) : Prop := PS X e (tAS X.K E f)
abbrev ASs (X : Cx) (E : XK) (e : List Stmt) (f : FS) : Prop := PSs X e (tAS X.K E f)
section
variable {X : Cx}
theorem pe_mono {e : Expr} {t u : TE} (h : PE X e t) (m : ∀ σ H Q, u σ H Q → t σ H Q) : PE X e u := ⟨fun pins s σ H Q I q => h.run pins s σ H Q I (m _ _ _ q)⟩
theorem pa_mono {e : List Expr} {t u : TA} (h : PA X e t) (m : ∀ σ H Q, u σ H Q → t σ H Q) : PA X e u := ⟨fun pos pins s σ H Q I q => h.run pos pins s σ H Q I (m _ _ _ q)⟩
theorem pt_mono {e : Expr} {t u : TT} (h : PT X e t) (m : ∀ σ H Q, u σ H Q → t σ H Q) : PT X e u := ⟨fun pins s σ H Q I q => h.run pins s σ H Q I (m _ _ _ q)⟩
theorem pw_mono {e : Expr} {t u : TT} (h : PW X e t) (m : ∀ σ H Q, u σ H Q → t σ H Q) : PW X e u := ⟨fun whole pins s σ H Q I q => h.run whole pins s σ H Q I (m _ _ _ q)⟩
theorem ps_mono {e : Stmt} {t u : TS} (h : PS X e t) (m : ∀ G σ H, u G σ H → t G σ H) : PS X e u := ⟨fun pins s σ H G I q => h.run pins s σ H G I (m _ _ _ q)⟩
theorem pss_mono {e : List Stmt} {t u : TS} (h : PSs X e t) (m : ∀ G σ H, u G σ H → t G σ H) : PSs X e u := ⟨fun pins s σ H G I q => h.run pins s σ H G I (m _ _ _ q)⟩
theorem op_mono {f : Value → Value → Sem Value} {t u : R2} (h : OpR X f t) (m : ∀ x y H Q, u x y H Q → t x y H Q) : OpR X f u := fun pins s σ H x y v w Q I rx ry q => h pins s σ H x y v w Q I rx ry (m _ _ _ _ q)
theorem callR_mono {f : Value} {t u : List V → Hp → VK → Prop} (h : CallR X f t) (m : ∀ xs H Q, u xs H Q → t xs H Q) : CallR X f u := fun pins s σ H xs us Q I r q => h pins s σ H xs us Q I r (m _ _ _ q)
end
end Ab

namespace Ab
open PySem PySem.Spec PyProof.Rows L2
open scoped Classical

/-! ## reading cells -/
def rdL (A : AH) : D → Option (List D)
  | .ref i => match A[i]? with
    | some (.lst xs) => some xs
    | some (.frz xs) => some xs
    | _ => none
  | _ => none
def muL (A : AH) : D → Option (List D)
  | .ref i => match A[i]? with
    | some (.lst xs) => some xs
    | _ => none
  | _ => none
def rdM (A : AH) : D → Option (List (Key × D))
  | .ref i => match A[i]? with
    | some (.dic xs) => some xs
    | _ => none
  | _ => none
def rdK (A : AH) : D → Option (List (Key × D))
  | .ref i => match A[i]? with
    | some (.dic xs) => some xs
    | some (.fdk xs) => some xs
    | _ => none
  | _ => none
def rdI (A : AH) : D → Option (Addr × List (Str × D))
  | .ref i => match A[i]? with
    | some (.ins C xs) => some (C, xs)
    | _ => none
  | _ => none
def rdS (A : AH) : D → Option (List D)
  | .tup xs => some xs
  | d => rdL A d
section
variable {K : PySem.W.Frag} {ρ : List Addr} {H : Hp} {A : AH} {d : D} {v : V}
theorem rdL_ok (R : Rel K ρ H A) (r : Rp K ρ H d v) {ds : List D} (h : rdL A d = some ds) : ∃ a xs, v = .ref a ∧ SqL K H a xs ∧ RpL K ρ H ds xs := by
  cases d with
  | ref i =>
    obtain ⟨a, h1, rfl⟩ := r
    obtain ⟨o, h2, h3⟩ := R.has h1
    unfold rdL at h
    simp only [h2] at h
    cases o with
    | lst xs => cases h; obtain ⟨us, e1, e2⟩ := h3; exact ⟨a, us, rfl, .inl (.inl e1), e2⟩
    | frz xs => cases h; obtain ⟨us, e1, e2⟩ := h3; exact ⟨a, us, rfl, e1.sq, e2⟩
    | dic _ => cases h
    | ftp _ => cases h
    | fdk _ => cases h
    | dtp _ => cases h
    | ins _ _ => cases h
  | _ => cases h
theorem muL_ok (R : Rel K ρ H A) (r : Rp K ρ H d v) {ds : List D} (h : muL A d = some ds) : ∃ i a xs, d = .ref i ∧ v = .ref a ∧ ρ[i]? = some a ∧ A[i]? = some (.lst ds) ∧ H a = some (.lst xs) ∧ RpL K ρ H ds xs := by
  cases d with
  | ref i =>
    obtain ⟨a, h1, rfl⟩ := r
    obtain ⟨o, h2, h3⟩ := R.has h1
    unfold muL at h
    simp only [h2] at h
    cases o with
    | lst xs => cases h; obtain ⟨us, e1, e2⟩ := h3; exact ⟨i, a, us, rfl, rfl, h1, h2, e1, e2⟩
    | frz xs => cases h
    | dic _ => cases h
    | ftp _ => cases h
    | fdk _ => cases h
    | dtp _ => cases h
    | ins _ _ => cases h
  | _ => cases h
theorem rdM_ok (R : Rel K ρ H A) (r : Rp K ρ H d v) {ds : List (Key × D)} (h : rdM A d = some ds) : ∃ i a xs, d = .ref i ∧ v = .ref a ∧ ρ[i]? = some a ∧ A[i]? = some (.dic ds) ∧ H a = some (.dK xs) ∧ RpK K ρ H ds xs := by
  cases d with
  | ref i =>
    obtain ⟨a, h1, rfl⟩ := r
    obtain ⟨o, h2, h3⟩ := R.has h1
    unfold rdM at h
    simp only [h2] at h
    cases o with
    | dic xs => cases h; obtain ⟨us, e1, e2⟩ := h3; exact ⟨i, a, us, rfl, rfl, h1, h2, e1, e2⟩
    | lst xs => cases h
    | frz xs => cases h
    | ftp _ => cases h
    | fdk _ => cases h
    | dtp _ => cases h
    | ins _ _ => cases h
  | _ => cases h
theorem rdK_ok (R : Rel K ρ H A) (r : Rp K ρ H d v) {ds : List (Key × D)} (h : rdK A d = some ds) : ∃ i a xs, d = .ref i ∧ v = .ref a ∧ ρ[i]? = some a ∧ Rd H a (.dK xs) ∧ RpK K ρ H ds xs := by
  cases d with
  | ref i =>
    obtain ⟨a, h1, rfl⟩ := r
    obtain ⟨o, h2, h3⟩ := R.has h1
    unfold rdK at h
    simp only [h2] at h
    cases o with
    | dic xs => cases h; obtain ⟨us, e1, e2⟩ := h3; exact ⟨i, a, us, rfl, rfl, h1, .inl e1, e2⟩
    | fdk xs => cases h; obtain ⟨o, us, e1, e2⟩ := h3; exact ⟨i, a, us, rfl, rfl, h1, .inr ⟨o, e1⟩, e2⟩
    | _ => cases h
  | _ => cases h
theorem rdI_ok (R : Rel K ρ H A) (r : Rp K ρ H d v) {C : Addr} {ds : List (Str × D)} (h : rdI A d = some (C, ds)) : ∃ i a dx xs, d = .ref i ∧ v = .ref a ∧ ρ[i]? = some a ∧ A[i]? = some (.ins C ds) ∧ H a = some (.ins C dx xs) ∧ RpK K ρ H ds xs := by
  cases d with
  | ref i =>
    obtain ⟨a, h1, rfl⟩ := r
    obtain ⟨o, h2, h3⟩ := R.has h1
    unfold rdI at h
    simp only [h2] at h
    cases o with
    | ftp _ => cases h
    | fdk _ => cases h
    | dtp _ => cases h
    | ins C' xs => cases h; obtain ⟨dx, us, e1, e2⟩ := h3; exact ⟨i, a, dx, us, rfl, rfl, h1, h2, e1, e2⟩
    | lst xs => cases h
    | frz xs => cases h
    | dic _ => cases h
  | _ => cases h
theorem rdS_ok (R : Rel K ρ H A) (r : Rp K ρ H d v) {ds : List D} (h : rdS A d = some ds) : ∃ a xs, v = .ref a ∧ (SqL K H a xs ∨ SqT K H a xs) ∧ RpL K ρ H ds xs := by
  cases d with
  | tup xs =>
    cases h
    obtain ⟨a, us, h1, h2, h3⟩ := r
    exact ⟨a, us, h1, .inr (.of h2), h3⟩
  | ref i =>
    obtain ⟨a, xs, h1, h2, h3⟩ := rdL_ok R r (show rdL A (.ref i) = some ds from h)
    exact ⟨a, xs, h1, .inl h2, h3⟩
  | _ => cases h
end

theorem RpL.isNil {K : PySem.W.Frag} {ρ : List Addr} {H : Hp} {ds : List D} (h : RpL K ρ H ds []) : ds = [] := by
  have := h.length
  cases ds with
  | nil => rfl
  | cons _ _ => simp at this
/-! ## names, constants -/
def fV (i : Nat) : FE := fun s A => match s[i]? with
  | some (some d) => .ok d A
  | _ => .bad
def fC (d : D) : FE := fun _ A => .ok d A
section
variable {X : Cx} {E : XK}
theorem ae_v (i : Nat) {x : Str} {pos : Pos} (hN : X.N[i]? = some x := by rfl) (hv : Vis X.env.scope x := by first | exact Or.inl rfl | exact Or.inr (Or.inl rfl) | exact Or.inr (Or.inr rfl)) (hd : (x == ("__debug__" : Str)) = false := by decide)
    (hcd : (x == ("__classdict__" : Str)) = false := by decide) : AE X E (.Name x pos) (fV i) := pe_mono (pe_var hN hv hd hcd) fun σ H Q h => by
  obtain ⟨ρ, s, A, hs, R, h⟩ := h
  unfold fV at h
  cases e : s[i]? with
  | none => simp only [e] at h; exact h.elim
  | some o =>
    cases o with
    | none => simp only [e] at h; exact h.elim
    | some d =>
      simp only [e] at h
      obtain ⟨v, h1, h2⟩ := hs.at_ i d e
      exact ⟨v, h1, h.now R h2⟩
theorem ae_c {e : Expr} {d : D} {v : V} (h : PE X e (tC v)) (r : ∀ ρ H, Rp X.K ρ H d v) : AE X E e (fC d) := pe_mono h fun σ H Q h => by
  obtain ⟨ρ, s, A, hs, R, h⟩ := h
  exact Out.now h R (r ρ H)
theorem ae_int {i j pos} : AE X E (.Constant (.int i) j pos) (fC (.int i)) := ae_c pe_int fun _ _ => rfl
theorem ae_bl {i j pos} : AE X E (.Constant (.bool i) j pos) (fC (.bl i)) := ae_c pe_bl fun _ _ => rfl
theorem ae_non {j pos} : AE X E (.Constant .none j pos) (fC .non) := ae_c pe_non fun _ _ => rfl
theorem ae_str {i j pos} : AE X E (.Constant (.str i) j pos) (fC (.str i)) := ae_c pe_str fun _ _ => rfl
end

/-! ## operators -/
def rA (K : PySem.W.Frag) (E : XK) (g : D → D → AH → Res D) : R2 := fun x y H Q => ∃ ρ A d e, Rel K ρ H A ∧ Rp K ρ H d x ∧ Rp K ρ H e y ∧ OutE K E ρ H (g d e A) Q
abbrev AOp (X : Cx) (E : XK) (f : Value → Value → Sem Value) (g : D → D → AH → Res D) : Prop := OpR X f (rA X.K E g)
def fOp (g : D → D → AH → Res D) (f1 f2 : FE) : FE := fun s A => (f1 s A).bind fun x A1 => (f2 s A1).bind fun y A2 => g x y A2
def rU1 (K : PySem.W.Frag) (E : XK) (g : D → AH → Res D) : V → Hp → VK → Prop := fun x H Q => ∃ ρ A d, Rel K ρ H A ∧ Rp K ρ H d x ∧ OutE K E ρ H (g d A) Q
def fUn (g : D → AH → Res D) (f1 : FE) : FE := fun s A => (f1 s A).bind fun x A1 => g x A1
section
variable {X : Cx} {E : XK} {a b : Expr} {f1 f2 : FE} {pos : Pos} {g : D → D → AH → Res D}
theorem two_ {K : PySem.W.Frag} {σ : L2.St} {H : Hp} {Q : VK} (h : tA K E (fOp g f1 f2) σ H Q) : tA K E f1 σ H fun x H1 => tA K E f2 σ H1 fun y H2 => rA K E g x y H2 Q := by
  obtain ⟨ρ, s, A, hs, R, h⟩ := h
  refine ⟨ρ, s, A, hs, R, (Out.bind h).mono fun x H1 ⟨ρ1, d, A1, _, e1, R1, r1, h1⟩ => ⟨ρ1, s, A1, hs.ext e1, R1, (Out.bind h1).mono fun y H2 ⟨ρ2, d2, A2, _, e2, R2, r2, h2⟩ => ⟨ρ2, A2, d, d2, R2, r1.ext e2, r2, h2⟩⟩⟩
theorem ae_op {op : Operator} (ho : AOp X E (binaryOp op) g) (ha : AE X E a f1) (hb : AE X E b f2) : AE X E (.BinOp a op b pos) (fOp g f1 f2) := pe_mono (pe_op ho ha hb) fun _ _ _ => two_
theorem ae_cmp {op : CmpOp} (ho : AOp X E (compareOp op) g) (ha : AE X E a f1) (hb : AE X E b f2) (hm : behindInMarks op b = false := by first | exact nomark _ | with_unfolding_all rfl) : AE X E (.Compare a [op] [b] pos) (fOp g f1 f2) := pe_mono (pe_cmpR ho ha hb hm) fun _ _ _ => two_
theorem ae_un {op : UnaryOp} {g : D → AH → Res D} (ho : UnR X (unaryOp op) (rU1 X.K E g)) (ha : AE X E a f1) : AE X E (.UnaryOp op a pos) (fUn g f1) := pe_mono (pe_un ho ha) fun σ H Q h => by
  obtain ⟨ρ, s, A, hs, R, h⟩ := h
  exact ⟨ρ, s, A, hs, R, (Out.bind h).mono fun x H1 ⟨ρ1, d, A1, _, e1, R1, r1, h1⟩ => ⟨ρ1, A1, d, R1, r1, h1⟩⟩
end

/-! ### the operators on data -/
def alloc (o : AO) (A : AH) : Res D := .ok (.ref A.length) (A ++ [o])
section
variable {K : PySem.W.Frag} {E : XK} {ρ : List Addr} {H : Hp} {A : AH} {Q : VK} {xs : List V} {ds : List D}
theorem new_lst (R : Rel K ρ H A) (r : RpL K ρ H ds xs) (h : OutE K E ρ H (alloc (.lst ds) A) Q) : ∀ p, H p = none → Q (.ref p) (upd H p (.lst xs)) := fun p hp => by
  have e : Ext K ρ H (ρ ++ [p]) (upd H p (.lst xs)) := Ext.new hp [p]
  exact h (ρ ++ [p]) (upd H p (.lst xs)) (.ref p) e (R.new hp ⟨xs, upd_same, r.ext e⟩) ⟨p, by rw [← R.len]; simp, rfl⟩
theorem new_tup (R : Rel K ρ H A) (r : RpL K ρ H ds xs) (h : OutE K E ρ H (.ok (.tup ds) A) Q) : ∀ p, H p = none → Q (.ref p) (upd H p (.tup xs)) := fun p hp => by
  have e : Ext K ρ H ρ (upd H p (.tup xs)) := Ext.new0 hp
  exact h ρ _ (.ref p) e (R.new0 hp) ⟨p, xs, rfl, upd_same, r.ext e⟩
theorem new_dtp {kvs : List (List Key × D)} {us : List (List Key × V)} (R : Rel K ρ H A) (r : RpK K ρ H kvs us) (h : OutE K E ρ H (alloc (.dtp kvs) A) Q) : ∀ p, H p = none → Q (.ref p) (upd H p (.dT us)) := fun p hp => by
  have e : Ext K ρ H (ρ ++ [p]) (upd H p (.dT us)) := Ext.new hp [p]
  exact h (ρ ++ [p]) _ (.ref p) e (R.new hp ⟨us, upd_same, r.ext e⟩) ⟨p, by rw [← R.len]; simp, rfl⟩
theorem new_dic {kvs : List (Key × D)} {us : List (Key × V)} (R : Rel K ρ H A) (r : RpK K ρ H kvs us) (h : OutE K E ρ H (alloc (.dic kvs) A) Q) : ∀ p, H p = none → Q (.ref p) (upd H p (.dK us)) := fun p hp => by
  have e : Ext K ρ H (ρ ++ [p]) (upd H p (.dK us)) := Ext.new hp [p]
  exact h (ρ ++ [p]) _ (.ref p) e (R.new hp ⟨us, upd_same, r.ext e⟩) ⟨p, by rw [← R.len]; simp, rfl⟩
end
def addD : D → D → AH → Res D
  | .int i, .int j, A => .ok (.int (i + j)) A
  | .str x, .str y, A => if x.length + y.length ≤ sizeLine then .ok (.str (x ++ y)) A else .bad
  | .tup xs, .tup ys, A => if xs.length + ys.length ≤ sizeLine then .ok (.tup (xs ++ ys)) A else .bad
  | .ref i, .ref j, A => match muL A (.ref i), muL A (.ref j) with
    | some xs, some ys => if xs.length + ys.length ≤ sizeLine then alloc (.lst (xs ++ ys)) A else .bad
    | _, _ => .bad
  | _, _, _ => .bad
def subD : D → D → AH → Res D
  | .int i, .int j, A => .ok (.int (i - j)) A
  | _, _, _ => .bad
def mulOk (i j : Int) : Prop := CMul i j ∨ CMulW i j
noncomputable def mulD : D → D → AH → Res D
  | .int i, .int j, A => if mulOk i j then .ok (.int (i * j)) A else .bad
  | .ref i, .int k, A => match muL A (.ref i) with
    | some xs => if -(2 ^ 63) ≤ k ∧ k < 2 ^ 63 ∧ xs.length * k.toNat ≤ sizeLine then alloc (.lst (List.replicate k.toNat xs).flatten) A else .bad
    | _ => .bad
  | _, _, _ => .bad
noncomputable def fdivD : D → D → AH → Res D
  | .int i, .int j, A => if CDivW i j then .ok (.int (i / j)) A else .bad
  | _, _, _ => .bad
def modD : D → D → AH → Res D
  | .int i, .int j, A => if 0 < j then .ok (.int (i % j)) A else .bad
  | _, _, _ => .bad
noncomputable def powD : D → D → AH → Res D
  | .int i, .int j, A => if CPow i j then .ok (.int (i ^ j.toNat)) A else .bad
  | _, _, _ => .bad
def negD : D → AH → Res D
  | .int i, A => .ok (.int (-i)) A
  | _, _ => .bad
section
variable {X : Cx} {E : XK}
theorem aop_add : AOp X E (binaryOp .Add) addD := op_mono ((op_add.or op_add_str).or (op_catA.or op_cat)) fun x y H Q h => by
  obtain ⟨ρ, A, d, e, R, r1, r2, h⟩ := h
  unfold addD at h
  split at h
  · cases r1; cases r2
    exact .inl (.inl ⟨_, _, rfl, rfl, h.now R rfl⟩)
  · split at h
    · rename_i z
      cases r1; cases r2
      exact .inl (.inr ⟨_, _, rfl, rfl, z, h.now R rfl⟩)
    · exact h.elim
  · split at h
    · rename_i xs ys z
      obtain ⟨a, us, rfl, q1, q2⟩ := r1
      obtain ⟨b, ws, rfl, q3, q4⟩ := r2
      refine .inr (.inl ⟨a, b, us, ws, rfl, rfl, .of q1, .of q3, by rw [q2.length, q4.length]; exact z, ?_, ?_, ?_⟩)
      · rintro rfl
        rw [q2.isNil, List.nil_append] at h
        exact h.now R ⟨b, ws, rfl, q3, q4⟩
      · rintro _ rfl
        rw [q4.isNil, List.append_nil] at h
        exact h.now R ⟨a, us, rfl, q1, q2⟩
      · intro _ _
        exact new_tup R (q2.append q4) h
    · exact h.elim
  · split at h
    · rename_i xs ys m1 m2
      split at h
      · rename_i z
        obtain ⟨_, a, us, _, rfl, _, _, q1, q2⟩ := muL_ok R r1 m1
        obtain ⟨_, b, ws, _, rfl, _, _, q3, q4⟩ := muL_ok R r2 m2
        refine .inr (.inr ⟨a, b, us, ws, rfl, rfl, q1, q3, by rw [q2.length, q4.length]; exact z, new_lst R (q2.append q4) h⟩)
      · exact h.elim
    · exact h.elim
  · exact h.elim
theorem aop_sub : AOp X E (binaryOp .Sub) subD := op_mono op_sub fun x y H Q h => by
  obtain ⟨ρ, A, d, e, R, r1, r2, h⟩ := h
  unfold subD at h
  split at h
  · cases r1; cases r2
    exact ⟨_, _, rfl, rfl, h.now R rfl⟩
  · exact h.elim
theorem aop_mul : AOp X E (binaryOp .Mult) mulD := op_mono ((op_mul.or op_mulW).or op_rep) fun x y H Q h => by
  obtain ⟨ρ, A, d, e, R, r1, r2, h⟩ := h
  unfold mulD at h
  split at h
  · split at h
    · rename_i z
      cases r1; cases r2
      rcases z with z | z
      · exact .inl (.inl ⟨_, _, rfl, rfl, z, h.now R rfl⟩)
      · exact .inl (.inr ⟨_, _, rfl, rfl, z, h.now R rfl⟩)
    · exact h.elim
  · split at h
    · rename_i xs m1
      split at h
      · rename_i z
        obtain ⟨_, a, us, _, rfl, _, _, q1, q2⟩ := muL_ok R r1 m1
        cases r2
        refine .inr ⟨a, _, us, rfl, rfl, q1, z.1, z.2.1, by rw [q2.length]; exact z.2.2, new_lst R (q2.rep _) h⟩
      · exact h.elim
    · exact h.elim
  · exact h.elim
theorem aop_fdiv : AOp X E (binaryOp .FloorDiv) fdivD := op_mono op_fdivW fun x y H Q h => by
  obtain ⟨ρ, A, d, e, R, r1, r2, h⟩ := h
  unfold fdivD at h
  split at h
  · split at h
    · rename_i z
      cases r1; cases r2
      exact ⟨_, _, rfl, rfl, z, h.now R rfl⟩
    · exact h.elim
  · exact h.elim
theorem aop_mod : AOp X E (binaryOp .Mod) modD := op_mono op_mod fun x y H Q h => by
  obtain ⟨ρ, A, d, e, R, r1, r2, h⟩ := h
  unfold modD at h
  split at h
  · split at h
    · rename_i z
      cases r1; cases r2
      exact ⟨_, _, rfl, rfl, z, h.now R rfl⟩
    · exact h.elim
  · exact h.elim
theorem aop_pow : AOp X E (binaryOp .Pow) powD := op_mono op_pow fun x y H Q h => by
  obtain ⟨ρ, A, d, e, R, r1, r2, h⟩ := h
  unfold powD at h
  split at h
  · split at h
    · rename_i z
      cases r1; cases r2
      exact ⟨_, _, rfl, rfl, z, h.now R rfl⟩
    · exact h.elim
  · exact h.elim
theorem aun_neg : UnR X (unaryOp .USub) (rU1 X.K E negD) := fun pins s σ H x v Q I rx h => by
  obtain ⟨ρ, A, d, R, r1, h⟩ := h
  unfold negD at h
  split at h
  · cases r1
    exact un_neg pins s σ H _ v Q I rx ⟨_, rfl, h.now R rfl⟩
  · exact h.elim
end
end Ab

namespace Ab
open PySem PySem.Spec PyProof.Rows L2
open scoped Classical

/-! ## data without cells, as PyData -/
mutual
def pd : D → Option PyData
  | .non => some .none
  | .bl b => some (.bool b)
  | .int i => some (.int i)
  | .str x => some (.str x)
  | .tup ds => match pdL ds with
    | some ps => some (.tuple ps)
    | none => none
  | .ref _ => none
def pdL : List D → Option (List PyData)
  | [] => some []
  | d :: ds => match pd d, pdL ds with
    | some p, some ps => some (p :: ps)
    | _, _ => none
end
def pd1 (A : AH) : D → Option PyData
  | .ref i => match rdL A (.ref i) with
    | some xs => match pdL xs with
      | some ps => some (.list ps)
      | none => none
    | none => none
  | d => pd d
section
variable {K : PySem.W.Frag} {ρ : List Addr} {H : Hp} {A : AH}
mutual
theorem pd_ok : ∀ (d : D) (v : V) (p : PyData), Rp K ρ H d v → pd d = some p → Dp K H v p
  | .non, v, p, r, h => by cases r; cases h; exact .non
  | .bl b, v, p, r, h => by cases r; cases h; exact .bl b
  | .int i, v, p, r, h => by cases r; cases h; exact .int i
  | .str x, v, p, r, h => by cases r; cases h; exact .str x
  | .ref i, v, p, r, h => by cases h
  | .tup ds, v, p, r, h => by
    obtain ⟨a, xs, rfl, h2, h3⟩ := r
    unfold pd at h
    split at h
    · rename_i ps e
      cases h
      exact .tup (.of h2) (pdL_ok ds xs ps h3 e)
    · cases h
theorem pdL_ok : ∀ (ds : List D) (xs : List V) (ps : List PyData), RpL K ρ H ds xs → pdL ds = some ps → DpAll K H xs ps
  | [], xs, ps, r, h => by cases r; cases h; exact .nil
  | d :: ds, xs, ps, r, h => by
    obtain ⟨x, r', rfl, h2, h3⟩ := r
    unfold pdL at h
    split at h
    · rename_i p ps' e1 e2
      cases h
      exact .cons (pd_ok d x p h2 e1) (pdL_ok ds r' ps' h3 e2)
    · cases h
end
theorem pd1_ok (R : Rel K ρ H A) {d : D} {v : V} {p : PyData} (r : Rp K ρ H d v) (h : pd1 A d = some p) : Dp K H v p := by
  cases d with
  | ref i =>
    unfold pd1 at h
    simp only at h
    split at h
    · rename_i xs e
      split at h
      · rename_i ps e2
        cases h
        obtain ⟨a, us, rfl, q1, q2⟩ := rdL_ok R r e
        exact .lst q1 (pdL_ok xs us ps q2 e2)
      · cases h
    · cases h
  | _ => exact pd_ok _ _ _ r h
end
/-- == of plain things -/
def scalD : D → D → Option Bool
  | .int i, .int j => some (decide (i = j))
  | .str x, .str y => some (decide (x = y))
  | .bl a, .bl b => some (decide (a = b))
  | .non, .non => some true
  | .non, .int _ => some false
  | .int _, .non => some false
  | .non, .bl _ => some false
  | .bl _, .non => some false
  | .non, .str _ => some false
  | .str _, .non => some false
  | .int _, .str _ => some false
  | .str _, .int _ => some false
  | .bl _, .str _ => some false
  | .str _, .bl _ => some false
  | _, _ => none
def eqB (d e : D) (A : AH) : Option Bool := match scalD d e with
  | some b => some b
  | none => match pd1 A d, pd1 A e with
    | some p, some q => if (SeqAt.shaped p && SeqAt.shaped q) = true then some (PyData.eqv p q) else none
    | _, _ => none
def okB (o : Option Bool) (A : AH) : Res D := match o with
  | some b => .ok (.bl b) A
  | none => .bad
def eqD (d e : D) (A : AH) : Res D := okB (eqB d e A) A
def neD (d e : D) (A : AH) : Res D := okB ((eqB d e A).map (!·)) A
section
variable {X : Cx} {E : XK} {K : PySem.W.Frag} {ρ : List Addr} {H : Hp} {A : AH}
theorem scal_ok {d e : D} {x y : V} {b : Bool} (r1 : Rp K ρ H d x) (r2 : Rp K ρ H e y) (h : scalD d e = some b) : scal x y = true ∧ decide (x = y) = b := by
  cases d <;> cases e <;> first | (cases h; done) | (cases r1; cases r2; cases h; first | exact ⟨rfl, rfl⟩ | exact ⟨rfl, by simp⟩)
theorem aop_eq (hu : X.A.units + 64 < cLine) : AOp X E (compareOp .Eq) eqD := op_mono (op_eq.or (op_eqD hu)) fun x y H Q h => by
  obtain ⟨ρ, A, d, e, R, r1, r2, h⟩ := h
  unfold eqD eqB at h
  split at h
  · rename_i b e1
    obtain ⟨s1, s2⟩ := scal_ok r1 r2 e1
    exact .inl ⟨s1, by rw [s2]; exact h.now R rfl⟩
  · split at h
    · rename_i p q e1 e2
      split at h
      · rename_i z
        rw [Bool.and_eq_true] at z
        exact .inr ⟨p, q, pd1_ok R r1 e1, pd1_ok R r2 e2, z.1, z.2, h.now R rfl⟩
      · exact h.elim
    · exact h.elim
theorem aop_ne (hu : X.A.units + 64 < cLine) : AOp X E (compareOp .NotEq) neD := op_mono (op_ne.or (op_neD hu)) fun x y H Q h => by
  obtain ⟨ρ, A, d, e, R, r1, r2, h⟩ := h
  unfold neD eqB at h
  split at h
  · rename_i b e1
    obtain ⟨s1, s2⟩ := scal_ok r1 r2 e1
    exact .inl ⟨s1, by rw [s2]; exact h.now R rfl⟩
  · split at h
    · rename_i p q e1 e2
      split at h
      · rename_i z
        rw [Bool.and_eq_true] at z
        exact .inr ⟨p, q, pd1_ok R r1 e1, pd1_ok R r2 e2, z.1, z.2, h.now R rfl⟩
      · exact h.elim
    · exact h.elim
end
/-! ## is, order -/
def isNon : D → Bool
  | .non => true
  | _ => false
def isD : D → D → AH → Res D
  | d, .non, A => .ok (.bl (isNon d)) A
  | .bl a, .bl b, A => .ok (.bl (decide (a = b))) A
  | _, _, _ => .bad
def isntD : D → D → AH → Res D
  | d, .non, A => .ok (.bl (!isNon d)) A
  | .bl a, .bl b, A => .ok (.bl (!decide (a = b))) A
  | _, _, _ => .bad
def ltD : D → D → AH → Res D
  | .int i, .int j, A => .ok (.bl (decide (i < j))) A
  | .str i, .str j, A => .ok (.bl (decide (i.cps.toList < j.cps.toList))) A
  | _, _, _ => .bad
def leD : D → D → AH → Res D
  | .int i, .int j, A => .ok (.bl (decide (i ≤ j))) A
  | .str i, .str j, A => .ok (.bl (!decide (j.cps.toList < i.cps.toList))) A
  | _, _, _ => .bad
def gtD : D → D → AH → Res D
  | .int i, .int j, A => .ok (.bl (decide (j < i))) A
  | .str i, .str j, A => .ok (.bl (decide (j.cps.toList < i.cps.toList))) A
  | _, _, _ => .bad
def geD : D → D → AH → Res D
  | .int i, .int j, A => .ok (.bl (decide (j ≤ i))) A
  | .str i, .str j, A => .ok (.bl (!decide (i.cps.toList < j.cps.toList))) A
  | _, _, _ => .bad
section
variable {X : Cx} {E : XK} {K : PySem.W.Frag} {ρ : List Addr} {H : Hp} {A : AH}
theorem isNon_ok {d : D} {x : V} (r : Rp K ρ H d x) : decide (x = .non) = isNon d := by
  cases d with
  | non => cases r; rfl
  | bl _ => cases r; rfl
  | int _ => cases r; rfl
  | str _ => cases r; rfl
  | tup _ => obtain ⟨a, xs, rfl, _⟩ := r; rfl
  | ref _ => obtain ⟨a, _, rfl⟩ := r; rfl
theorem aop_is : AOp X E (compareOp .Is) isD := op_mono (op_isN.or op_isBl) fun x y H Q h => by
  obtain ⟨ρ, A, d, e, R, r1, r2, h⟩ := h
  unfold isD at h
  split at h
  · cases r2
    exact .inl ⟨rfl, by rw [isNon_ok r1]; exact h.now R rfl⟩
  · cases r1; cases r2
    exact .inr ⟨_, _, rfl, rfl, h.now R rfl⟩
  · exact h.elim
theorem aop_isnt : AOp X E (compareOp .IsNot) isntD := op_mono (op_notN.or op_notBl) fun x y H Q h => by
  obtain ⟨ρ, A, d, e, R, r1, r2, h⟩ := h
  unfold isntD at h
  split at h
  · cases r2
    exact .inl ⟨rfl, by rw [isNon_ok r1]; exact h.now R rfl⟩
  · cases r1; cases r2
    exact .inr ⟨_, _, rfl, rfl, h.now R rfl⟩
  · exact h.elim
theorem aop_lt : AOp X E (compareOp .Lt) ltD := op_mono (op_lt.or op_lt_str) fun x y H Q h => by
  obtain ⟨ρ, A, d, e, R, r1, r2, h⟩ := h
  unfold ltD at h
  split at h
  · cases r1; cases r2; exact .inl ⟨_, _, rfl, rfl, h.now R rfl⟩
  · cases r1; cases r2; exact .inr ⟨_, _, rfl, rfl, h.now R rfl⟩
  · exact h.elim
theorem aop_le : AOp X E (compareOp .LtE) leD := op_mono (op_le.or op_le_str) fun x y H Q h => by
  obtain ⟨ρ, A, d, e, R, r1, r2, h⟩ := h
  unfold leD at h
  split at h
  · cases r1; cases r2; exact .inl ⟨_, _, rfl, rfl, h.now R rfl⟩
  · cases r1; cases r2; exact .inr ⟨_, _, rfl, rfl, h.now R rfl⟩
  · exact h.elim
theorem aop_gt : AOp X E (compareOp .Gt) gtD := op_mono (op_gt.or op_gt_str) fun x y H Q h => by
  obtain ⟨ρ, A, d, e, R, r1, r2, h⟩ := h
  unfold gtD at h
  split at h
  · cases r1; cases r2; exact .inl ⟨_, _, rfl, rfl, h.now R rfl⟩
  · cases r1; cases r2; exact .inr ⟨_, _, rfl, rfl, h.now R rfl⟩
  · exact h.elim
theorem aop_ge : AOp X E (compareOp .GtE) geD := op_mono (op_ge.or op_ge_str) fun x y H Q h => by
  obtain ⟨ρ, A, d, e, R, r1, r2, h⟩ := h
  unfold geD at h
  split at h
  · cases r1; cases r2; exact .inl ⟨_, _, rfl, rfl, h.now R rfl⟩
  · cases r1; cases r2; exact .inr ⟨_, _, rfl, rfl, h.now R rfl⟩
  · exact h.elim
end
/-! ## chains -/
def fChain (g g' : D → D → AH → Res D) (f1 f2 f3 : FE) : FE := fun s A => (f1 s A).bind fun x A1 => (f2 s A1).bind fun y A2 => (g x y A2).bind fun z A3 => match z with
  | .bl true => (f3 s A3).bind fun w A4 => g' y w A4
  | .bl false => .ok (.bl false) A3
  | _ => .bad
section
variable {X : Cx} {E : XK} {a b c : Expr} {f1 f2 f3 : FE} {pos : Pos} {g g' : D → D → AH → Res D}
theorem chain_ {K : PySem.W.Frag} {σ : L2.St} {H : Hp} {Q : VK} (h : tA K E (fChain g g' f1 f2 f3) σ H Q) : tChain (rA K E g) (rA K E g') (tA K E f1) (tA K E f2) (tA K E f3) σ H Q := by
  obtain ⟨ρ, s, A, hs, R, h⟩ := h
  refine ⟨ρ, s, A, hs, R, (Out.bind h).mono fun x H1 ⟨ρ1, d, A1, _, e1, R1, r1, h1⟩ => ⟨ρ1, s, A1, hs.ext e1, R1, (Out.bind h1).mono fun y H2 ⟨ρ2, d2, A2, _, e2, R2, r2, h2⟩ => ⟨ρ2, A2, d, d2, R2, r1.ext e2, r2, ?_⟩⟩⟩
  refine (Out.bind h2).mono fun z H3 ⟨ρ3, d3, A3, _, e3, R3, r3, h3⟩ => ?_
  split at h3
  · cases r3
    refine ⟨true, rfl, ?_⟩
    rw [if_pos rfl]
    exact ⟨ρ3, s, A3, hs.ext (e1.trans (e2.trans e3)), R3, (Out.bind h3).mono fun w H4 ⟨ρ4, d4, A4, _, e4, R4, r4, h4⟩ => ⟨ρ4, A4, d2, d4, R4, r2.ext (e3.trans e4), r4, h4⟩⟩
  · cases r3
    refine ⟨false, rfl, ?_⟩
    rw [if_neg Bool.false_ne_true]
    exact h3.now R3 rfl
  · exact h3.elim
theorem ae_chain {op op' : CmpOp} (ho : AOp X E (compareOp op) g) (ho' : AOp X E (compareOp op') g') (ha : AE X E a f1) (hb : AE X E b f2) (hc : AE X E c f3) (hm : lastMarks [op, op'] [b, c] = false := by with_unfolding_all rfl) :
    AE X E (.Compare a [op, op'] [b, c] pos) (fChain g g' f1 f2 f3) := pe_mono (pe_chain ho ho' ha hb hc hm) fun _ _ _ => chain_
end
/-! ## truth, tests -/
def truD (A : AH) : D → Option Bool
  | .non => some false
  | .bl b => some b
  | .int i => some (i != 0)
  | .str x => if x.length ≤ sizeLine then some ((x.length : Int) != 0) else none
  | .tup ds => some (!ds.isEmpty)
  | .ref i => match A[i]? with
    | some (.lst xs) => some (!xs.isEmpty)
    | some (.frz xs) => some (!xs.isEmpty)
    | some (.dic xs) => some (!xs.isEmpty)
    | _ => none
theorem empty_of {α β : Type} {xs : List α} {ys : List β} (h : xs.length = ys.length) : xs.isEmpty = ys.isEmpty := by cases xs <;> cases ys <;> first | rfl | simp at h
theorem RpK.length {κ : Type} {K : PySem.W.Frag} {ρ : List Addr} {H : Hp} : ∀ {ps : List (κ × D)} {us : List (κ × V)}, RpK K ρ H ps us → us.length = ps.length
  | [], us, h => by rw [show us = [] from h]; rfl
  | p :: ps, us, h => by
    obtain ⟨x, r, rfl, h2, h3⟩ := h
    simp [RpK.length h3]
theorem tru_of {K : PySem.W.Frag} {ρ : List Addr} {H : Hp} {A : AH} {d : D} {x : V} {k : Bool} (R : Rel K ρ H A) (r : Rp K ρ H d x) (h : truD A d = some k) : TruV K x H k := by
  cases d with
  | non => cases r; cases h; rfl
  | bl _ => cases r; cases h; rfl
  | int _ => cases r; cases h; rfl
  | str y =>
    cases r
    simp only [truD] at h
    by_cases z : y.length ≤ sizeLine
    · rw [if_pos z] at h; cases h; exact ⟨z, rfl⟩
    · rw [if_neg z] at h; cases h
  | tup ds =>
    obtain ⟨a, xs, rfl, h2, h3⟩ := r
    cases h
    exact .inr (.inl ⟨xs, .of h2, by rw [empty_of h3.length]⟩)
  | ref i =>
    obtain ⟨a, h1, rfl⟩ := r
    obtain ⟨o, h2, h3⟩ := R.has h1
    unfold truD at h
    simp only [h2] at h
    cases o with
    | lst xs => cases h; obtain ⟨us, e1, e2⟩ := h3; exact .inl ⟨us, .inl (.inl e1), by rw [empty_of e2.length]⟩
    | frz xs => cases h; obtain ⟨us, e1, e2⟩ := h3; exact .inl ⟨us, e1.sq, by rw [empty_of e2.length]⟩
    | dic xs => cases h; obtain ⟨us, e1, e2⟩ := h3; exact .inr (.inr ⟨us, e1, by rw [empty_of e2.length]⟩)
    | ftp _ => cases h
    | fdk _ => cases h
    | dtp _ => cases h
    | ins _ _ => cases h
def tru (d : D) (A : AH) : Res Bool := match truD A d with
  | some b => .ok b A
  | none => .bad
def fT (f : FE) : FT := fun s A => (f s A).bind tru
def fTB (f : FE) : FT := fun s A => (f s A).bind fun d A1 => match d with
  | .bl b => .ok b A1
  | _ => .bad
def fTNot (f : FT) : FT := fun s A => (f s A).bind fun b A1 => .ok (!b) A1
def fTAnd (f g : FT) : FT := fun s A => (f s A).bind fun b A1 => if b = true then g s A1 else .ok false A1
def fTOr (f g : FT) : FT := fun s A => (f s A).bind fun b A1 => if b = true then .ok true A1 else g s A1
def fNot (f : FE) : FE := fun s A => (f s A).bind fun d A1 => (tru d A1).bind fun b A2 => .ok (.bl (!b)) A2
def fAnd (f g : FE) : FE := fun s A => (f s A).bind fun d A1 => (tru d A1).bind fun b A2 => if b = true then g s A2 else .ok d A2
def fOr (f g : FE) : FE := fun s A => (f s A).bind fun d A1 => (tru d A1).bind fun b A2 => if b = true then .ok d A2 else g s A2
def fIf (c : FT) (f g : FE) : FE := fun s A => (c s A).bind fun b A1 => if b = true then f s A1 else g s A1
section
variable {X : Cx} {E : XK} {a b c : Expr} {f g h : FE} {t u : FT} {pos : Pos} {rest : List Expr}
theorem tru_run {K : PySem.W.Frag} {α β : Type} {R1 : List Addr → Hp → α → β → Prop} {ρ : List Addr} {H : Hp} {A : AH} {d : D} {x : V} {k : Bool → AH → Res α} {Q : β → Hp → Prop} (R : Rel K ρ H A) (r : Rp K ρ H d x)
    (h : Out K E R1 ρ H ((tru d A).bind k) Q) : ∃ b, TruV K x H b ∧ Out K E R1 ρ H (k b A) Q := by
  unfold tru at h
  split at h
  · rename_i b e
    exact ⟨b, tru_of R r e, h⟩
  · exact h.elim
theorem at_e (ha : AE X E a f) (he : ∀ whole, isTrue a X.env whole = (do let v ← whole; standAt a.pos; holding [v] (truthy v)) := by intro _; rfl) : AT X E a (fT f) := pt_mono (pt_truth ha he) fun σ H Q hh => by
  obtain ⟨ρ, s, A, hs, R, hh⟩ := hh
  refine ⟨ρ, s, A, hs, R, (Out.bind hh).mono fun x H1 ⟨ρ1, d, A1, _, e1, R1, r1, h1⟩ => ?_⟩
  unfold tru at h1
  split at h1
  · rename_i b e
    exact ⟨b, tru_of R1 r1 e, h1.now R1 rfl⟩
  · exact h1.elim
theorem tb_ {K : PySem.W.Frag} {σ : L2.St} {H : Hp} {Q : Bool → Hp → Prop} {t : TE} {f : FE} (m : ∀ R : VK, tA K E f σ H R → t σ H R) (hh : tAT K E (fTB f) σ H Q) : tTest t σ H Q := by
  refine m _ ?_
  obtain ⟨ρ, s, A, hs, R, hh⟩ := hh
  refine ⟨ρ, s, A, hs, R, (Out.bind hh).mono fun x H1 ⟨ρ1, d, A1, _, e1, R1, r1, h1⟩ => ?_⟩
  split at h1
  · cases r1
    exact ⟨_, rfl, h1.now R1 rfl⟩
  · exact h1.elim
/-- a comparison, as a test -/
theorem at_cmp {op : CmpOp} {go : D → D → AH → Res D} (ho : AOp X E (compareOp op) go) (ha : AE X E a f) (hb : AE X E b g) (hm : behindInMarks op b = false := by first | exact nomark _ | with_unfolding_all rfl) : AT X E (.Compare a [op] [b] pos) (fTB (fOp go f g)) := pt_mono (pt_cmpR ho ha hb hm) fun σ H Q h => tb_ (fun _ => two_) h
theorem at_chain {c : Expr} {op op' : CmpOp} {go go' : D → D → AH → Res D} (ho : AOp X E (compareOp op) go) (ho' : AOp X E (compareOp op') go') (ha : AE X E a f) (hb : AE X E b g) (hc : AE X E c h) (hm : lastMarks [op, op'] [b, c] = false := by with_unfolding_all rfl) :
    AT X E (.Compare a [op, op'] [b, c] pos) (fTB (fChain go go' f g h)) := pt_mono (pt_chain ho ho' ha hb hc hm) fun σ H Q hh => tb_ (fun _ => chain_) hh
theorem at_not (ha : AT X E a t) : AT X E (.UnaryOp .Not a pos) (fTNot t) := pt_mono (pt_not ha) fun σ H Q hh => by
  obtain ⟨ρ, s, A, hs, R, hh⟩ := hh
  refine ⟨ρ, s, A, hs, R, (Out.bind hh).mono fun x H1 ⟨ρ1, d, A1, _, e1, R1, r1, h1⟩ => ?_⟩
  cases r1
  exact h1.now R1 rfl
abbrev AW (X : Cx) (E : XK) (e : Expr) (f : FT) : Prop := PW X e (tAT X.K E f)
theorem aw_and1 (ha : AT X E a t) : AW X E (.BoolOp .And [a] pos) t := pw_and1 ha
theorem aw_or1 (ha : AT X E a t) : AW X E (.BoolOp .Or [a] pos) t := pw_or1 ha
theorem aw_and (ha : AT X E a t) (hb : AW X E (.BoolOp .And (b :: rest) pos) u) : AW X E (.BoolOp .And (a :: b :: rest) pos) (fTAnd t u) := pw_mono (pw_and ha hb) fun σ H Q hh => by
  obtain ⟨ρ, s, A, hs, R, hh⟩ := hh
  refine ⟨ρ, s, A, hs, R, (Out.bind hh).mono fun x H1 ⟨ρ1, d, A1, _, e1, R1, r1, h1⟩ => ?_⟩
  cases r1
  cases x with
  | true => exact ⟨ρ1, s, A1, hs.ext e1, R1, h1⟩
  | false => exact h1.now R1 rfl
theorem aw_or (ha : AT X E a t) (hb : AW X E (.BoolOp .Or (b :: rest) pos) u) : AW X E (.BoolOp .Or (a :: b :: rest) pos) (fTOr t u) := pw_mono (pw_or ha hb) fun σ H Q hh => by
  obtain ⟨ρ, s, A, hs, R, hh⟩ := hh
  refine ⟨ρ, s, A, hs, R, (Out.bind hh).mono fun x H1 ⟨ρ1, d, A1, _, e1, R1, r1, h1⟩ => ?_⟩
  cases r1
  cases x with
  | true => exact h1.now R1 rfl
  | false => exact ⟨ρ1, s, A1, hs.ext e1, R1, h1⟩
theorem ae_one {op} (h : AE X E a f) : AE X E (.BoolOp op [a] pos) f := pe_one h
theorem ae_and (ha : AE X E a f) (hb : AE X E (.BoolOp .And (b :: rest) pos) g) : AE X E (.BoolOp .And (a :: b :: rest) pos) (fAnd f g) := pe_mono (pe_andT ha hb) fun σ H Q hh => by
  obtain ⟨ρ, s, A, hs, R, hh⟩ := hh
  refine ⟨ρ, s, A, hs, R, (Out.bind hh).mono fun x H1 ⟨ρ1, d, A1, _, e1, R1, r1, h1⟩ => ?_⟩
  obtain ⟨k, tk, h2⟩ := tru_run R1 r1 h1
  refine ⟨k, tk, ?_⟩
  cases k with
  | true => exact ⟨ρ1, s, A1, hs.ext e1, R1, h2⟩
  | false => exact h2.now R1 r1
theorem ae_or (ha : AE X E a f) (hb : AE X E (.BoolOp .Or (b :: rest) pos) g) : AE X E (.BoolOp .Or (a :: b :: rest) pos) (fOr f g) := pe_mono (pe_orT ha hb) fun σ H Q hh => by
  obtain ⟨ρ, s, A, hs, R, hh⟩ := hh
  refine ⟨ρ, s, A, hs, R, (Out.bind hh).mono fun x H1 ⟨ρ1, d, A1, _, e1, R1, r1, h1⟩ => ?_⟩
  obtain ⟨k, tk, h2⟩ := tru_run R1 r1 h1
  refine ⟨k, tk, ?_⟩
  cases k with
  | true => exact h2.now R1 r1
  | false => exact ⟨ρ1, s, A1, hs.ext e1, R1, h2⟩
theorem ae_not (ha : AE X E a f) : AE X E (.UnaryOp .Not a pos) (fNot f) := pe_mono (pe_notT ha) fun σ H Q hh => by
  obtain ⟨ρ, s, A, hs, R, hh⟩ := hh
  refine ⟨ρ, s, A, hs, R, (Out.bind hh).mono fun x H1 ⟨ρ1, d, A1, _, e1, R1, r1, h1⟩ => ?_⟩
  obtain ⟨k, tk, h2⟩ := tru_run R1 r1 h1
  exact ⟨k, tk, h2.now R1 rfl⟩
theorem ae_if (hc : AT X E c t) (ha : AE X E a f) (hb : AE X E b g) : AE X E (.IfExp c a b pos) (fIf t f g) := pe_mono (pe_ifExp hc ha hb) fun σ H Q hh => by
  obtain ⟨ρ, s, A, hs, R, hh⟩ := hh
  refine ⟨ρ, s, A, hs, R, (Out.bind hh).mono fun x H1 ⟨ρ1, d, A1, _, e1, R1, r1, h1⟩ => ?_⟩
  cases r1
  cases x with
  | true => exact ⟨ρ1, s, A1, hs.ext e1, R1, h1⟩
  | false => exact ⟨ρ1, s, A1, hs.ext e1, R1, h1⟩
end
/-! ## arguments, displays -/
def fNil : FA := fun _ A => .ok [] A
def fCons (f : FE) (fs : FA) : FA := fun s A => (f s A).bind fun x A1 => (fs s A1).bind fun xs A2 => .ok (x :: xs) A2
def tupD (xs : List D) (A : AH) : Res D := if xs.length ≤ sizeLine then .ok (.tup xs) A else .bad
def lstD (xs : List D) (A : AH) : Res D := if xs.length ≤ sizeLine then alloc (.lst xs) A else .bad
def fTup (fs : FA) : FE := fun s A => (fs s A).bind tupD
def fLst (fs : FA) : FE := fun s A => (fs s A).bind lstD
section
variable {X : Cx} {E : XK} {e : Expr} {es : List Expr} {f : FE} {fs : FA} {pos : Pos}
theorem aa_nil : AA X E [] fNil := pa_mono pa_nil fun σ H Q hh => by
  obtain ⟨ρ, s, A, hs, R, hh⟩ := hh
  exact Out.now hh R rfl
theorem aa_cons (ha : AE X E e f) (hr : AA X E es fs) (hs : starEach (e :: es) X.env = (false, eval e X.env) :: starEach es X.env := by rfl) : AA X E (e :: es) (fCons f fs) := pa_mono (pa_cons ha hr hs) fun σ H Q hh => by
  obtain ⟨ρ, s, A, hs, R, hh⟩ := hh
  refine ⟨ρ, s, A, hs, R, (Out.bind hh).mono fun x H1 ⟨ρ1, d, A1, _, e1, R1, r1, h1⟩ => ⟨ρ1, s, A1, hs.ext e1, R1, (Out.bind h1).mono fun xs H2 ⟨ρ2, ds, A2, _, e2, R2, r2, h2⟩ => ?_⟩⟩
  exact Out.now h2 R2 ⟨x, xs, rfl, r1.ext e2, r2⟩
theorem ae_tup {x1} (h : AA X E es fs) : AE X E (.Tuple es x1 pos) (fTup fs) := pe_mono (pe_tup h) fun σ H Q hh => by
  obtain ⟨ρ, s, A, hs, R, hh⟩ := hh
  refine ⟨ρ, s, A, hs, R, (Out.bind hh).mono fun x H1 ⟨ρ1, d, A1, _, e1, R1, r1, h1⟩ => ?_⟩
  unfold tupD at h1
  split at h1
  · rename_i z
    exact ⟨by rw [r1.length]; exact z, new_tup R1 r1 h1⟩
  · exact h1.elim
theorem ae_lst (h : AA X E es fs) : AE X E (.List es pos) (fLst fs) := pe_mono (pe_lst h) fun σ H Q hh => by
  obtain ⟨ρ, s, A, hs, R, hh⟩ := hh
  refine ⟨ρ, s, A, hs, R, (Out.bind hh).mono fun x H1 ⟨ρ1, d, A1, _, e1, R1, r1, h1⟩ => ?_⟩
  unfold lstD at h1
  split at h1
  · rename_i z
    exact ⟨by rw [r1.length]; exact z, new_lst R1 r1 h1⟩
  · exact h1.elim
end
end Ab

namespace Ab
open PySem PySem.Spec PyProof.Rows L2
open scoped Classical

/-! ## dicts as lists of pairs -/
def getK {κ : Type} [DecidableEq κ] (kvs : List (κ × D)) (k : κ) : Option D := (kvs.find? fun kv => decide (kv.1 = k)).map (·.2)
def setK {κ : Type} [DecidableEq κ] (kvs : List (κ × D)) (k : κ) (v : D) : List (κ × D) :=
  if (kvs.any fun kv => decide (kv.1 = k)) = true then kvs.map (fun kv => if kv.1 = k then (kv.1, v) else kv) else kvs ++ [(k, v)]
def keyOf : D → Option Key
  | .int i => some (.inl i)
  | .str x => some (.inr x)
  | _ => none
section
variable {κ : Type} [DecidableEq κ] {K : PySem.W.Frag} {ρ : List Addr} {H : Hp} {A : AH}
theorem keyOf_ok {d : D} {v : V} {k : Key} (r : Rp K ρ H d v) (h : keyOf d = some k) : v = kV k := by
  cases d <;> first | (cases h; done) | (cases h; cases r; rfl)
theorem getK_ok {k : κ} : ∀ {kvs : List (κ × D)} {us : List (κ × V)}, RpK K ρ H kvs us → match getK kvs k with
    | some d => ∃ v, valV us k = some v ∧ Rp K ρ H d v
    | none => valV us k = none
  | [], us, h => by rw [show us = [] from h]; rfl
  | p :: ps, us, h => by
    obtain ⟨v, r, rfl, h2, h3⟩ := h
    have ih := getK_ok (k := k) h3
    by_cases e : p.1 = k
    · simp only [getK, List.find?_cons, e, decide_true, Option.map_some]
      exact ⟨v, by simp [valV, List.find?_cons, e], h2⟩
    · have e1 : getK (p :: ps) k = getK ps k := by simp [getK, List.find?_cons, e]
      have e2 : valV ((p.1, v) :: r) k = valV r k := by simp [valV, List.find?_cons, e]
      rw [e1, e2]
      exact ih
theorem any_ok {k : κ} : ∀ {kvs : List (κ × D)} {us : List (κ × V)}, RpK K ρ H kvs us → (kvs.any fun kv => decide (kv.1 = k)) = us.any fun kv => decide (kv.1 = k)
  | [], us, h => by rw [show us = [] from h]; rfl
  | p :: ps, us, h => by
    obtain ⟨v, r, rfl, h2, h3⟩ := h
    rw [List.any_cons, List.any_cons, any_ok h3]
theorem RpK.app : ∀ {kvs : List (κ × D)} {us : List (κ × V)} {k : κ} {d : D} {v : V}, RpK K ρ H kvs us → Rp K ρ H d v → RpK K ρ H (kvs ++ [(k, d)]) (us ++ [(k, v)])
  | [], us, k, d, v, h, q => by rw [show us = [] from h]; exact ⟨v, [], rfl, q, rfl⟩
  | p :: ps, us, k, d, v, h, q => by
    obtain ⟨w, r, rfl, h2, h3⟩ := h
    exact ⟨w, _, rfl, h2, h3.app q⟩
theorem setK_ok {k : κ} {d : D} {v : V} {kvs : List (κ × D)} {us : List (κ × V)} (h : RpK K ρ H kvs us) (q : Rp K ρ H d v) : RpK K ρ H (setK kvs k d) (putK us k v) := by
  unfold setK putK
  rw [any_ok h]
  split
  · have all : ∀ {kvs : List (κ × D)} {us : List (κ × V)}, RpK K ρ H kvs us → RpK K ρ H (kvs.map (fun kv => if kv.1 = k then (kv.1, d) else kv)) (us.map (fun kv => if kv.1 = k then (kv.1, v) else kv)) := by
      intro kvs
      induction kvs with
      | nil => intro us h; rw [show us = [] from h]; rfl
      | cons p ps ih =>
        intro us h
        obtain ⟨w, r, rfl, h2, h3⟩ := h
        by_cases e : p.1 = k
        · simp only [List.map_cons, if_pos e]; exact ⟨v, _, rfl, q, ih h3⟩
        · simp only [List.map_cons, if_neg e]; exact ⟨w, _, rfl, h2, ih h3⟩
    exact all h
  · exact h.app q
end

/-! ## subscripts -/
def ixSeq (xs : List D) (i : Int) (A : AH) : Res D := match atI xs i with
  | some x => .ok x A
  | none => .bad
def ixD (d e : D) (A : AH) : Res D := match e with
  | .int i => match rdS A d with
    | some xs => ixSeq xs i A
    | none => match d with
      | .str z => if z.length ≤ sizeLine then (match atI z.cps.toList i with | some c => .ok (.str ⟨#[c]⟩) A | none => .bad) else .bad
      | _ => match rdK A d with
        | some kvs => (match getK kvs (.inl i) with | some v => .ok v A | none => .bad)
        | none => .bad
  | .str x => match rdK A d with
    | some kvs => (match getK kvs (.inr x) with | some v => .ok v A | none => .bad)
    | none => .bad
  | _ => .bad
section
variable {X : Cx} {E : XK}
theorem ix_dict (hu : X.A.units + 1 < cLine) : IxR X (fun x y H Q => ∃ a v, x = .ref a ∧ DGet H a y (some v) ∧ Q v H) := by
  intro value slice pins s σ H x y v u Q I rx ry h hs
  obtain ⟨a, w, rfl, g, q⟩ := h
  obtain rfl : v = Value.ref a := rx
  exact tail_any (dict_typeIs I g) PySem.F.slot_dict_getitem.lookup (d_getItem hu I g ry fun w' s3 I3 rw' => ⟨w, H, I3, rw', q⟩) hs
theorem RpL.atI {K : PySem.W.Frag} {ρ : List Addr} {H : Hp} {ds : List D} {xs : List V} {i : Int} {d : D} (r : RpL K ρ H ds xs) (h : atI ds i = some d) : ∃ v, L2.atI xs i = some v ∧ Rp K ρ H d v := by
  unfold L2.atI at h ⊢
  rw [r.length]
  cases e : ixN ds.length i with
  | none => rw [e] at h; cases h
  | some j =>
    rw [e] at h
    exact r.get h
theorem ix_mono {r r' : R2} (h : IxR X r) (m : ∀ x y H Q, r' x y H Q → r x y H Q) : IxR X r' := fun value slice pins s σ H x y v u Q I rx ry q hs => h value slice pins s σ H x y v u Q I rx ry (m _ _ _ _ q) hs
theorem aix (hu : X.A.units + 1 < cLine) : IxR X (rA X.K E ixD) := ix_mono (ix_seq.or (ix_dict hu)) fun x y H Q h => by
  obtain ⟨ρ, A, d, e, R, r1, r2, h⟩ := h
  have dic : ∀ {k : Key} {kvs : List (Key × D)} {v : D}, y = kV k → rdK A d = some kvs → getK kvs k = some v → OutE X.K E ρ H (.ok v A) Q → ∃ a w, x = .ref a ∧ DGet H a y (some w) ∧ Q w H := by
    intro k kvs v ey e1 e2 h
    obtain ⟨_, a, us, _, rfl, _, q1, q2⟩ := rdK_ok R r1 e1
    have g := getK_ok (k := k) q2
    rw [e2] at g
    obtain ⟨w, g1, g2⟩ := g
    exact ⟨a, w, rfl, .inl ⟨us, k, q1, ey, g1.symm⟩, h.now R g2⟩
  cases e with
  | int i =>
    cases r2
    simp only [ixD] at h
    split at h
    · rename_i ds e1
      obtain ⟨a, xs, rfl, q1, q2⟩ := rdS_ok R r1 e1
      unfold ixSeq at h
      split at h
      · rename_i z e2
        obtain ⟨v, q3, q4⟩ := q2.atI e2
        rcases q1 with q1 | q1
        · exact .inl (.inl ⟨a, xs, i, v, rfl, rfl, q1, q3, h.now R q4⟩)
        · exact .inl (.inr (.inl ⟨a, xs, i, v, rfl, rfl, q1, q3, h.now R q4⟩))
      · exact h.elim
    · split at h
      · split at h
        · rename_i z
          split at h
          · rename_i c e2
            cases r1
            exact .inl (.inr (.inr ⟨_, i, c, rfl, rfl, z, e2, h.now R rfl⟩))
          · exact h.elim
        · exact h.elim
      · split at h
        · rename_i kvs e1
          split at h
          · rename_i v e2
            exact .inr (dic (k := .inl i) rfl e1 e2 h)
          · exact h.elim
        · exact h.elim
  | str z =>
    cases r2
    simp only [ixD] at h
    split at h
    · rename_i kvs e1
      split at h
      · rename_i v e2
        exact .inr (dic (k := .inr z) rfl e1 e2 h)
      · exact h.elim
    · exact h.elim
  | _ => exact h.elim
theorem ae_ix {a b : Expr} {f g : FE} {pos : Pos} (hu : X.A.units + 1 < cLine) (ha : AE X E a f) (hb : AE X E b g) (hs : PlainIx b := by exact fun _ _ => rfl) : AE X E (.Subscript a b pos) (fOp ixD f g) := pe_mono (pe_ix (aix hu) ha hb hs) fun _ _ _ => two_
end

/-! ## slices -/
def fNo : FO := fun _ A => .ok none A
def fPart (f : FE) : FO := fun s A => (f s A).bind fun d A1 => match d with
  | .int i => .ok (some i) A1
  | _ => .bad
def cutL {α : Type} (xs : List α) (lo hi : Option Int) : List α := (xs.drop (HT.sIx xs.length 0 lo)).take (HT.sIx xs.length xs.length hi - HT.sIx xs.length 0 lo)
def slD (d : D) (lo hi : Option Int) (A : AH) : Res D := match d with
  | .tup xs => .ok (.tup (cutL xs lo hi)) A
  | .str z => if z.length ≤ sizeLine then .ok (.str (cutS z lo hi)) A else .bad
  | d => match rdL A d with
    | some xs => alloc (.lst (cutL xs lo hi)) A
    | none => .bad
def fSl (f : FE) (lo hi : FO) : FE := fun s A => (f s A).bind fun d A1 => (lo s A1).bind fun l A2 => (hi s A2).bind fun h A3 => slD d l h A3
section
variable {X : Cx} {E : XK} {e : Expr} {f : FE} {lo hi : Option Expr} {fl fh : FO} {p2 pos : Pos}
theorem ao_none : AO_ X E none fNo := ⟨fun pins s σ H Q I h => po_none.run pins s σ H Q I (by
  obtain ⟨ρ, s, A, hs, R, h⟩ := h
  exact Out.now h R rfl)⟩
theorem ao_some (h : AE X E e f) : AO_ X E (some e) (fPart f) := ⟨fun pins s σ H Q I h' => (po_some h).run pins s σ H Q I (by
  obtain ⟨ρ, s, A, hs, R, h⟩ := h'
  refine ⟨ρ, s, A, hs, R, (Out.bind h).mono fun x H1 ⟨ρ1, d, A1, _, e1, R1, r1, h1⟩ => ?_⟩
  split at h1
  · cases r1
    exact ⟨_, rfl, h1.now R1 rfl⟩
  · exact h1.elim)⟩
theorem RpL.cut {K : PySem.W.Frag} {ρ : List Addr} {H : Hp} {ds : List D} {xs : List V} (r : RpL K ρ H ds xs) (lo hi : Option Int) : RpL K ρ H (cutL ds lo hi) (cutV xs lo hi) := by
  unfold cutL cutV
  rw [r.length]
  exact (r.drop _).take _
theorem cutL_all {α : Type} {xs : List α} {lo hi : Option Int} (h : HT.sIx xs.length 0 lo = 0 ∧ HT.sIx xs.length xs.length hi = xs.length) : cutL xs lo hi = xs := by
  unfold cutL
  rw [h.1, h.2]
  simp
theorem ae_sl (he : AE X E e f) (hl : AO_ X E lo fl) (hh : AO_ X E hi fh) : AE X E (.Subscript e (.Slice lo hi none p2) pos) (fSl f fl fh) := pe_mono (pe_slice ((sl_tupA.or sl_str).or sl_list) he hl hh) fun σ H Q h => by
  obtain ⟨ρ, s, A, hs, R, h⟩ := h
  refine ⟨ρ, s, A, hs, R, (Out.bind h).mono fun x H1 ⟨ρ1, d, A1, _, e1, R1, r1, h1⟩ => ⟨ρ1, s, A1, hs.ext e1, R1, (Out.bind h1).mono fun l H2 ⟨ρ2, l', A2, _, e2, R2, r2, h2⟩ => ⟨ρ2, s, A2, hs.ext (e1.trans e2), R2, (Out.bind h2).mono fun u H3 ⟨ρ3, u', A3, _, e3, R3, r3, h3⟩ => ?_⟩⟩⟩
  cases r2; cases r3
  have r1 := r1.ext (e2.trans e3)
  unfold slD at h3
  split at h3
  · rename_i xs
    obtain ⟨a, us, rfl, q1, q2⟩ := r1
    refine .inl (.inl ⟨a, us, rfl, .of q1, fun z => ?_, fun _ => new_tup R3 (q2.cut _ _) h3⟩)
    rw [q2.length] at z
    rw [cutL_all z] at h3
    exact h3.now R3 ⟨a, us, rfl, q1, q2⟩
  · split at h3
    · rename_i z
      cases r1
      exact .inl (.inr ⟨_, rfl, z, h3.now R3 rfl⟩)
    · exact h3.elim
  · split at h3
    · rename_i xs e4
      obtain ⟨a, us, rfl, q1, q2⟩ := rdL_ok R3 r1 e4
      exact .inr ⟨a, us, rfl, q1, new_lst R3 (q2.cut _ _) h3⟩
    · exact h3.elim
def revD (d : D) (A : AH) : Res D := match rdL A d with
  | some xs => alloc (.lst xs.reverse) A
  | none => .bad
theorem ae_rev {k : Nat} {p1 p3 : Pos} (he : AE X E e f) : AE X E (.Subscript e (.Slice none none (some (.UnaryOp .USub (.Constant (.int 1) k p1) p2)) p3) pos) (fUn revD f) := pe_mono (pe_revL he) fun σ H Q h => by
  obtain ⟨ρ, s, A, hs, R, h⟩ := h
  refine ⟨ρ, s, A, hs, R, (Out.bind h).mono fun x H1 ⟨ρ1, d, A1, _, e1, R1, r1, h1⟩ => ?_⟩
  unfold revD at h1
  split at h1
  · rename_i xs e4
    obtain ⟨a, us, rfl, q1, q2⟩ := rdL_ok R1 r1 e4
    exact ⟨a, us, rfl, q1, new_lst R1 q2.reverse h1⟩
  · exact h1.elim
end

/-! ## in -/
def toV : D → Option V
  | .non => some .non
  | .bl b => some (.bl b)
  | .int i => some (.int i)
  | .str x => some (.str x)
  | _ => none
def toVs : List D → Option (List V)
  | [] => some []
  | d :: ds => match toV d, toVs ds with
    | some v, some vs => some (v :: vs)
    | _, _ => none
theorem toV_ok {K : PySem.W.Frag} {ρ : List Addr} {H : Hp} {d : D} {v w : V} (r : Rp K ρ H d v) (h : toV d = some w) : v = w ∧ flatV v = true := by
  cases d <;> first | (cases h; done) | (cases h; cases r; exact ⟨rfl, rfl⟩)
theorem toVs_ok {K : PySem.W.Frag} {ρ : List Addr} {H : Hp} : ∀ {ds : List D} {vs ws : List V}, RpL K ρ H ds vs → toVs ds = some ws → vs = ws ∧ vs.all flatV = true
  | [], vs, ws, r, h => by cases h; rw [show vs = [] from r]; exact ⟨rfl, rfl⟩
  | d :: ds, vs, ws, r, h => by
    obtain ⟨v, vs', rfl, h2, h3⟩ := r
    unfold toVs at h
    split at h
    · rename_i w ws' e1 e2
      cases h
      obtain ⟨rfl, f1⟩ := toV_ok h2 e1
      obtain ⟨rfl, f2⟩ := toVs_ok h3 e2
      exact ⟨rfl, by rw [List.all_cons, f1, f2]; rfl⟩
    · cases h
def inB (d e : D) (A : AH) : Option Bool := match e with
  | .str y => match d with
    | .str x => some (!(Builtin.Str.occurrences y x 0 y.length 1).isEmpty)
    | _ => none
  | e => match rdK A e with
    | some kvs => match keyOf d with
      | some k => some (getK kvs k).isSome
      | none => none
    | none => match rdS A e with
      | some ys => match toV d, toVs ys with
        | some x, some us => some (inV x us)
        | _, _ => match rdL A e, pd d, pdL ys with
          | some _, some p, some ps => if (SeqAt.shaped p && SeqAt.shaped (.list ps)) = true then some (ps.any fun z => PyData.eqv z p) else none
          | _, _, _ => none
      | none => none
def inD (d e : D) (A : AH) : Res D := okB (inB d e A) A
def ninD (d e : D) (A : AH) : Res D := okB ((inB d e A).map (!·)) A
section
variable {X : Cx} {E : XK}
theorem op_in_dk (hu : X.A.units + 1 < cLine) : OpR X (compareOp .In) (fun x y H Q => ∃ a o, y = .ref a ∧ DGet H a x o ∧ Q (.bl o.isSome) H) := by
  intro pins s σ H x y v u Q I rx ry h
  obtain ⟨a, o, rfl, g, q⟩ := h
  obtain rfl : u = Value.ref a := ry
  exact d_in hu I g rx fun s3 I3 => ⟨V.bl _, H, I3, rfl, q⟩
theorem op_nin_dk (hu : X.A.units + 1 < cLine) : OpR X (compareOp .NotIn) (fun x y H Q => ∃ a o, y = .ref a ∧ DGet H a x o ∧ Q (.bl (!o.isSome)) H) := by
  intro pins s σ H x y v u Q I rx ry h
  obtain ⟨a, o, rfl, g, q⟩ := h
  obtain rfl : u = Value.ref a := ry
  exact d_notIn hu I g rx fun s3 I3 => ⟨V.bl _, H, I3, rfl, q⟩
/-- what stands behind an answer of inB -/
theorem inB_ok {K : PySem.W.Frag} {ρ : List Addr} {H : Hp} {A : AH} {d e : D} {x y : V} {b : Bool} (R : Rel K ρ H A) (r1 : Rp K ρ H d x) (r2 : Rp K ρ H e y) (h : inB d e A = some b) :
    (∃ i j, x = .str i ∧ y = .str j ∧ b = !(Builtin.Str.occurrences j i 0 j.length 1).isEmpty) ∨ (∃ p xs, y = .ref p ∧ (SqL K H p xs ∨ SqT K H p xs) ∧ flatV x = true ∧ xs.all flatV = true ∧ b = inV x xs) ∨
    (∃ a o, y = .ref a ∧ DGet H a x o ∧ b = o.isSome) ∨ (∃ d' ds, Dp K H x d' ∧ Dp K H y (.list ds) ∧ SeqAt.shaped d' = true ∧ SeqAt.shaped (.list ds) = true ∧ b = ds.any fun z => PyData.eqv z d') := by
  unfold inB at h
  split at h
  · split at h
    · cases h; cases r1; cases r2
      exact .inl ⟨_, _, rfl, rfl, rfl⟩
    · cases h
  · split at h
    · rename_i kvs e1
      split at h
      · rename_i k e2
        cases h
        obtain ⟨_, a, us, _, rfl, _, q1, q2⟩ := rdK_ok R r2 e1
        have ex := keyOf_ok r1 e2
        have g := getK_ok (k := k) q2
        refine .inr (.inr (.inl ⟨a, valV us k, rfl, .inl ⟨us, k, q1, ex, rfl⟩, ?_⟩))
        split at g
        · rename_i d' e3
          obtain ⟨w, g1, _⟩ := g
          rw [g1, e3]; rfl
        · rename_i e3
          rw [g, e3]; rfl
      · cases h
    · split at h
      · rename_i ys e1
        split at h
        · rename_i x' us e2 e3
          cases h
          obtain ⟨a, xs, rfl, q1, q2⟩ := rdS_ok R r2 e1
          obtain ⟨rfl, f1⟩ := toV_ok r1 e2
          obtain ⟨rfl, f2⟩ := toVs_ok q2 e3
          exact .inr (.inl ⟨a, _, rfl, q1, f1, f2, rfl⟩)
        · split at h
          · rename_i zs p ps e2 e3 e4
            split at h
            · rename_i z
              rw [Bool.and_eq_true] at z
              cases h
              obtain ⟨a, xs, rfl, q1, q2⟩ := rdL_ok R r2 e2
              have ez : ys = zs := by
                cases e with
                | ref i => rw [show rdS A (.ref i) = rdL A (.ref i) from rfl] at e1; rw [e1] at e2; exact Option.some.inj e2
                | _ => cases e2
              subst ez
              exact .inr (.inr (.inr ⟨p, ps, pd_ok d x p r1 e3, .lst q1 (pdL_ok ys xs ps q2 e4), z.1, z.2, rfl⟩))
            · cases h
          · cases h
      · cases h
theorem aop_in (hu : X.A.units + 65 < cLine) : AOp X E (compareOp .In) inD := op_mono ((op_in_str.or op_in_seq).or ((op_in_dk (by omega)).or (op_inD hu))) fun x y H Q h => by
  obtain ⟨ρ, A, d, e, R, r1, r2, h⟩ := h
  unfold inD okB at h
  split at h
  · rename_i b e1
    have h := Out.now (R1 := fun ρ H d v => Rp X.K ρ H d v) (v := V.bl b) h R rfl
    rcases inB_ok R r1 r2 e1 with ⟨i, j, rfl, rfl, rfl⟩ | ⟨p, xs, rfl, q1, q2, q3, rfl⟩ | ⟨a, o, rfl, g, rfl⟩ | ⟨d', ds, q1, q2, q3, q4, rfl⟩
    · exact .inl (.inl ⟨i, j, rfl, rfl, h⟩)
    · exact .inl (.inr ⟨p, xs, rfl, q1, q2, q3, h⟩)
    · exact .inr (.inl ⟨a, o, rfl, g, h⟩)
    · exact .inr (.inr ⟨d', ds, q1, q2, q3, q4, h⟩)
  · exact h.elim
theorem aop_nin (hu : X.A.units + 65 < cLine) : AOp X E (compareOp .NotIn) ninD := op_mono ((op_notin_str.or op_notIn_seq).or ((op_nin_dk (by omega)).or (op_notInD hu))) fun x y H Q h => by
  obtain ⟨ρ, A, d, e, R, r1, r2, h⟩ := h
  unfold ninD okB at h
  cases e1 : inB d e A with
  | none => rw [e1] at h; exact h.elim
  | some b =>
    rw [e1] at h
    have h := Out.now (R1 := fun ρ H d v => Rp X.K ρ H d v) (v := V.bl (!b)) h R rfl
    rcases inB_ok R r1 r2 e1 with ⟨i, j, rfl, rfl, rfl⟩ | ⟨p, xs, rfl, q1, q2, q3, rfl⟩ | ⟨a, o, rfl, g, rfl⟩ | ⟨d', ds, q1, q2, q3, q4, rfl⟩
    · exact .inl (.inl ⟨i, j, rfl, rfl, h⟩)
    · exact .inl (.inr ⟨p, xs, rfl, q1, q2, q3, h⟩)
    · exact .inr (.inl ⟨a, o, rfl, g, h⟩)
    · exact .inr (.inr ⟨d', ds, q1, q2, q3, q4, h⟩)
end

/-! ## calls of built-ins -/
def rC (K : PySem.W.Frag) (E : XK) (g : FM) : List V → Hp → VK → Prop := fun xs H Q => ∃ ρ A ds, Rel K ρ H A ∧ RpL K ρ H ds xs ∧ OutE K E ρ H (g ds A) Q
abbrev ACall (X : Cx) (E : XK) (f : Value) (g : FM) : Prop := CallR X f (rC X.K E g)
def fCall (g : FM) (fs : FA) : FE := fun s A => (fs s A).bind fun ds A1 => g ds A1
section
variable {X : Cx} {E : XK} {e : Expr} {es : List Expr} {fs : FA} {g : FM} {x : Str} {p pos : Pos} {id T : String}
theorem call_ {K : PySem.W.Frag} {σ : L2.St} {H : Hp} {Q : VK} (h : tA K E (fCall g fs) σ H Q) : tCB (rC K E g) (tAA K E fs) σ H Q := by
  obtain ⟨ρ, s, A, hs, R, h⟩ := h
  exact ⟨ρ, s, A, hs, R, (Out.bind h).mono fun x H1 ⟨ρ1, d, A1, _, e1, R1, r1, h1⟩ => ⟨ρ1, A1, d, R1, r1, h1⟩⟩
theorem ae_callB (hc : ACall X E (.builtin id) g) (hg : Gl X x) (hm : X.mg x = none) (hv : bootBuiltins x = some (.builtin id)) (ha : AA X E (e :: es) fs) (hn : x ≠ "__name__" := by decide) (hdb : (x == ("__debug__" : Str)) = false := by decide)
    (he : starEach (e :: es) X.env = (false, eval e X.env) :: starEach es X.env := by rfl) (hpl : (backTo pos (starEach es X.env)).any (·.1) = false := by rfl) : AE X E (.Call (.Name x p) (e :: es) [] pos) (fCall g fs) :=
  pe_mono (pe_callB hc hg hm hv ha hn hdb he hpl) fun _ _ _ => call_
theorem ae_callT (hc : ACall X E (.type T) g) (hg : Gl X x) (hm : X.mg x = none) (hv : bootBuiltins x = some (.type T)) (ha : AA X E (e :: es) fs) (hn : x ≠ "__name__" := by decide) (hdb : (x == ("__debug__" : Str)) = false := by decide)
    (he : starEach (e :: es) X.env = (false, eval e X.env) :: starEach es X.env := by rfl) (hpl : (backTo pos (starEach es X.env)).any (·.1) = false := by rfl) : AE X E (.Call (.Name x p) (e :: es) [] pos) (fCall g fs) :=
  pe_mono (pe_callTy hc hg hm hv ha hn hdb he hpl) fun _ _ _ => call_
end
def intsOf : List D → Option (List Int)
  | [] => some []
  | .int i :: r => match intsOf r with
    | some is => some (i :: is)
    | none => none
  | _ :: _ => none
def blsOf : List D → Option (List Bool)
  | [] => some []
  | .bl i :: r => match blsOf r with
    | some is => some (i :: is)
    | none => none
  | _ :: _ => none
def maxI : List Int → Int
  | [] => 0
  | [x] => x
  | x :: r => if maxI r > x then maxI r else x
def minI : List Int → Int
  | [] => 0
  | [x] => x
  | x :: r => if minI r < x then minI r else x
section
variable {K : PySem.W.Frag} {ρ : List Addr} {H : Hp}
theorem ints_ok : ∀ {ds : List D} {xs : List V} {is : List Int}, RpL K ρ H ds xs → intsOf ds = some is → xs = is.map V.int
  | [], xs, is, r, h => by cases h; rw [show xs = [] from r]; rfl
  | d :: ds, xs, is, r, h => by
    obtain ⟨x, xs', rfl, h2, h3⟩ := r
    cases d with
    | int i =>
      cases h2
      unfold intsOf at h
      split at h
      · rename_i js e
        cases h
        rw [ints_ok h3 e]; rfl
      · cases h
    | _ => cases h
theorem bls_ok : ∀ {ds : List D} {xs : List V} {is : List Bool}, RpL K ρ H ds xs → blsOf ds = some is → xs = is.map V.bl
  | [], xs, is, r, h => by cases h; rw [show xs = [] from r]; rfl
  | d :: ds, xs, is, r, h => by
    obtain ⟨x, xs', rfl, h2, h3⟩ := r
    cases d with
    | bl i =>
      cases h2
      unfold blsOf at h
      split at h
      · rename_i js e
        cases h
        rw [bls_ok h3 e]; rfl
      · cases h
    | _ => cases h
end
theorem maxI_cons (x y : Int) (r : List Int) : maxI (x :: y :: r) = if maxI (y :: r) > x then maxI (y :: r) else x := rfl
theorem minI_cons (x y : Int) (r : List Int) : minI (x :: y :: r) = if minI (y :: r) < x then minI (y :: r) else x := rfl
theorem maxI_mem : ∀ {ns : List Int}, ns ≠ [] → maxI ns ∈ ns
  | [], h => absurd rfl h
  | [x], _ => by simp [maxI]
  | x :: y :: r, _ => by
    have ih := maxI_mem (ns := y :: r) (by simp)
    rw [maxI_cons]
    split
    · exact List.mem_cons_of_mem _ ih
    · exact List.mem_cons_self
theorem maxI_le : ∀ {ns : List Int} {y : Int}, y ∈ ns → y ≤ maxI ns
  | [x], y, h => by simp at h; subst h; simp [maxI]
  | x :: z :: r, y, h => by
    have ih := fun q => maxI_le (ns := z :: r) (y := y) q
    rw [maxI_cons]
    rcases List.mem_cons.mp h with e | e
    · subst e; split <;> omega
    · have := ih e; split <;> omega
theorem minI_mem : ∀ {ns : List Int}, ns ≠ [] → minI ns ∈ ns
  | [], h => absurd rfl h
  | [x], _ => by simp [minI]
  | x :: y :: r, _ => by
    have ih := minI_mem (ns := y :: r) (by simp)
    rw [minI_cons]
    split
    · exact List.mem_cons_of_mem _ ih
    · exact List.mem_cons_self
theorem minI_le : ∀ {ns : List Int} {y : Int}, y ∈ ns → minI ns ≤ y
  | [x], y, h => by simp at h; subst h; simp [minI]
  | x :: z :: r, y, h => by
    have ih := fun q => minI_le (ns := z :: r) (y := y) q
    rw [minI_cons]
    rcases List.mem_cons.mp h with e | e
    · subst e; split <;> omega
    · have := ih e; split <;> omega
theorem maxI_eq {ns : List Int} {m : Int} (h : m ∈ ns) (q : ∀ y ∈ ns, y ≤ m) : maxI ns = m := by
  have h1 := maxI_le h
  have h2 := q _ (maxI_mem (ns := ns) (by intro e; subst e; cases h))
  omega
theorem minI_eq {ns : List Int} {m : Int} (h : m ∈ ns) (q : ∀ y ∈ ns, m ≤ y) : minI ns = m := by
  have h1 := minI_le h
  have h2 := q _ (minI_mem (ns := ns) (by intro e; subst e; cases h))
  omega
def lenD : FM
  | [.str x], A => if x.length ≤ sizeLine then .ok (.int x.length) A else .bad
  | [d], A => match rdS A d with
    | some xs => .ok (.int xs.length) A
    | none => match rdM A d with
      | some xs => .ok (.int xs.length) A
      | none => .bad
  | _, _ => .bad
def intD : FM
  | [.int i], A => .ok (.int i) A
  | [.bl b], A => .ok (.int (if b then 1 else 0)) A
  | [.str x], A => if x.length ≤ 640 then (match PySem.intText? x with | some n => .ok (.int n) A | none => .bad) else .bad
  | _, _ => .bad
def strD : FM
  | [.int i], A => if i.natAbs.log2 < 1920 then .ok (.str (toString i)) A else .bad
  | [.str x], A => .ok (.str x) A
  | _, _ => .bad
def absD : FM
  | [.int i], A => .ok (.int (if i < 0 then -i else i)) A
  | _, _ => .bad
def maxD : FM
  | [.int i, .int j], A => .ok (.int (if j > i then j else i)) A
  | [d], A => match rdL A d with
    | some xs => match intsOf xs with
      | some (i :: is) => .ok (.int (maxI (i :: is))) A
      | _ => .bad
    | none => .bad
  | _, _ => .bad
def minD : FM
  | [.int i, .int j], A => .ok (.int (if j < i then j else i)) A
  | [d], A => match rdL A d with
    | some xs => match intsOf xs with
      | some (i :: is) => .ok (.int (minI (i :: is))) A
      | _ => .bad
    | none => .bad
  | _, _ => .bad
def sumD : FM
  | [d], A => match rdL A d with
    | some xs => match intsOf xs with
      | some is => .ok (.int is.sum) A
      | _ => .bad
    | none => .bad
  | _, _ => .bad
def anyD : FM
  | [d], A => match rdL A d with
    | some xs => match blsOf xs with
      | some is => .ok (.bl (is.any id)) A
      | _ => .bad
    | none => .bad
  | _, _ => .bad
def allD : FM
  | [d], A => match rdL A d with
    | some xs => match blsOf xs with
      | some is => .ok (.bl (is.all id)) A
      | _ => .bad
    | none => .bad
  | _, _ => .bad
def tupOf : FM
  | [.tup xs], A => .ok (.tup xs) A
  | [d], A => match rdL A d with
    | some xs => .ok (.tup xs) A
    | none => .bad
  | _, _ => .bad
def lstOf : FM
  | [d], A => match rdS A d with
    | some xs => alloc (.lst xs) A
    | none => match rdK A d with
      | some kvs => .bad
      | none => .bad
  | _, _ => .bad
def dicOf : FM
  | [d], A => match rdM A d with
    | some kvs => alloc (.dic kvs) A
    | none => .bad
  | _, _ => .bad
section
variable {X : Cx} {E : XK}
theorem RpL.one_inv {K : PySem.W.Frag} {ρ : List Addr} {H : Hp} {d : D} {xs : List V} (r : RpL K ρ H [d] xs) : ∃ x, xs = [x] ∧ Rp K ρ H d x := by
  obtain ⟨x, r, rfl, h, h2⟩ := r
  exact ⟨x, by rw [show r = [] from h2], h⟩
theorem RpL.two_inv {K : PySem.W.Frag} {ρ : List Addr} {H : Hp} {d e : D} {xs : List V} (r : RpL K ρ H [d, e] xs) : ∃ x y, xs = [x, y] ∧ Rp K ρ H d x ∧ Rp K ρ H e y := by
  obtain ⟨x, r, rfl, h, h2⟩ := r
  obtain ⟨y, rfl, h3⟩ := h2.one_inv
  exact ⟨x, y, rfl, h, h3⟩
theorem acall_len : ACall X E (.builtin "len") lenD := callR_mono ((call_len_seq.or call_len_str).or call_lenD) fun xs H Q h => by
  obtain ⟨ρ, A, ds, R, r, h⟩ := h
  unfold lenD at h
  split at h
  · split at h
    · rename_i z
      obtain ⟨x, rfl, r1⟩ := r.one_inv
      cases r1
      exact .inl (.inr ⟨_, rfl, z, h.now R rfl⟩)
    · exact h.elim
  · obtain ⟨x, rfl, r1⟩ := r.one_inv
    split at h
    · rename_i ys e1
      obtain ⟨a, us, rfl, q1, q2⟩ := rdS_ok R r1 e1
      exact .inl (.inl ⟨a, us, rfl, q1, h.now R (by rw [q2.length]; rfl)⟩)
    · split at h
      · rename_i kvs e1
        obtain ⟨_, a, us, _, rfl, _, _, q1, q2⟩ := rdM_ok R r1 e1
        exact .inr ⟨a, us, rfl, q1, h.now R (by rw [q2.length]; rfl)⟩
      · exact h.elim
  · exact h.elim
theorem acall_int : ACall X E (.type "int") intD := callR_mono (call_int1.or call_int_str) fun xs H Q h => by
  obtain ⟨ρ, A, ds, R, r, h⟩ := h
  unfold intD at h
  split at h
  · obtain ⟨x, rfl, r1⟩ := r.one_inv
    cases r1
    exact .inl (.inl ⟨_, rfl, h.now R rfl⟩)
  · obtain ⟨x, rfl, r1⟩ := r.one_inv
    cases r1
    exact .inl (.inr ⟨_, rfl, h.now R rfl⟩)
  · obtain ⟨x, rfl, r1⟩ := r.one_inv
    cases r1
    split at h
    · rename_i z
      split at h
      · rename_i n e
        exact .inr ⟨_, n, rfl, e, z, h.now R rfl⟩
      · exact h.elim
    · exact h.elim
  · exact h.elim
theorem acall_str : ACall X E (.type "str") strD := callR_mono (call_str_int.or SkE.call_str_str) fun xs H Q h => by
  obtain ⟨ρ, A, ds, R, r, h⟩ := h
  unfold strD at h
  split at h
  · obtain ⟨x, rfl, r1⟩ := r.one_inv
    cases r1
    split at h
    · rename_i z
      exact .inl ⟨_, rfl, z, h.now R rfl⟩
    · exact h.elim
  · obtain ⟨x, rfl, r1⟩ := r.one_inv
    cases r1
    exact .inr ⟨_, rfl, h.now R rfl⟩
  · exact h.elim
theorem acall_abs : ACall X E (.builtin "abs") absD := callR_mono call_abs fun xs H Q h => by
  obtain ⟨ρ, A, ds, R, r, h⟩ := h
  unfold absD at h
  split at h
  · obtain ⟨x, rfl, r1⟩ := r.one_inv
    cases r1
    exact ⟨_, rfl, h.now R rfl⟩
  · exact h.elim
theorem acall_max (hc : X.calm = true) : ACall X E (.builtin "max") maxD := callR_mono ((call_max2 hc).or (cr_max hc)) fun xs H Q h => by
  obtain ⟨ρ, A, ds, R, r, h⟩ := h
  unfold maxD at h
  split at h
  · obtain ⟨x, y, rfl, r1, r2⟩ := r.two_inv
    cases r1; cases r2
    exact .inl ⟨_, _, rfl, h.now R rfl⟩
  · obtain ⟨x, rfl, r1⟩ := r.one_inv
    split at h
    · rename_i ys e1
      obtain ⟨a, us, rfl, q1, q2⟩ := rdL_ok R r1 e1
      split at h
      · rename_i i is e2
        refine .inr ⟨a, i :: is, rfl, by rw [← ints_ok q2 e2]; exact q1, by simp, fun m h1 h2 => h.now R ?_⟩
        rw [maxI_eq h1 h2]; rfl
      · exact h.elim
    · exact h.elim
  · exact h.elim
theorem acall_min (hc : X.calm = true) : ACall X E (.builtin "min") minD := callR_mono ((call_min2 hc).or (cr_min hc)) fun xs H Q h => by
  obtain ⟨ρ, A, ds, R, r, h⟩ := h
  unfold minD at h
  split at h
  · obtain ⟨x, y, rfl, r1, r2⟩ := r.two_inv
    cases r1; cases r2
    exact .inl ⟨_, _, rfl, h.now R rfl⟩
  · obtain ⟨x, rfl, r1⟩ := r.one_inv
    split at h
    · rename_i ys e1
      obtain ⟨a, us, rfl, q1, q2⟩ := rdL_ok R r1 e1
      split at h
      · rename_i i is e2
        refine .inr ⟨a, i :: is, rfl, by rw [← ints_ok q2 e2]; exact q1, by simp, fun m h1 h2 => h.now R ?_⟩
        rw [minI_eq h1 h2]; rfl
      · exact h.elim
    · exact h.elim
  · exact h.elim
theorem acall_sum (hc : X.calm = true) : ACall X E (.builtin "sum") sumD := callR_mono (cr_sum hc) fun xs H Q h => by
  obtain ⟨ρ, A, ds, R, r, h⟩ := h
  unfold sumD at h
  split at h
  · obtain ⟨x, rfl, r1⟩ := r.one_inv
    split at h
    · rename_i ys e1
      obtain ⟨a, us, rfl, q1, q2⟩ := rdL_ok R r1 e1
      split at h
      · rename_i is e2
        exact ⟨a, is, rfl, by rw [← ints_ok q2 e2]; exact q1, h.now R rfl⟩
      · exact h.elim
    · exact h.elim
  · exact h.elim
theorem acall_any (hc : X.calm = true) : ACall X E (.builtin "any") anyD := callR_mono (cr_any hc) fun xs H Q h => by
  obtain ⟨ρ, A, ds, R, r, h⟩ := h
  unfold anyD at h
  split at h
  · obtain ⟨x, rfl, r1⟩ := r.one_inv
    split at h
    · rename_i ys e1
      obtain ⟨a, us, rfl, q1, q2⟩ := rdL_ok R r1 e1
      split at h
      · rename_i is e2
        exact ⟨a, is, rfl, by rw [← bls_ok q2 e2]; exact q1, h.now R rfl⟩
      · exact h.elim
    · exact h.elim
  · exact h.elim
theorem acall_all (hc : X.calm = true) : ACall X E (.builtin "all") allD := callR_mono (cr_all hc) fun xs H Q h => by
  obtain ⟨ρ, A, ds, R, r, h⟩ := h
  unfold allD at h
  split at h
  · obtain ⟨x, rfl, r1⟩ := r.one_inv
    split at h
    · rename_i ys e1
      obtain ⟨a, us, rfl, q1, q2⟩ := rdL_ok R r1 e1
      split at h
      · rename_i is e2
        exact ⟨a, is, rfl, by rw [← bls_ok q2 e2]; exact q1, h.now R rfl⟩
      · exact h.elim
    · exact h.elim
  · exact h.elim
theorem acall_tuple : ACall X E (.type "tuple") tupOf := callR_mono call_tuple_of fun xs H Q h => by
  obtain ⟨ρ, A, ds, R, r, h⟩ := h
  unfold tupOf at h
  split at h
  · obtain ⟨x, rfl, r1⟩ := r.one_inv
    obtain ⟨a, us, rfl, q1, q2⟩ := r1
    exact ⟨a, us, rfl, .inr ⟨.of q1, h.now R ⟨a, us, rfl, q1, q2⟩⟩⟩
  · obtain ⟨x, rfl, r1⟩ := r.one_inv
    split at h
    · rename_i ys e1
      obtain ⟨a, us, rfl, q1, q2⟩ := rdL_ok R r1 e1
      exact ⟨a, us, rfl, .inl ⟨q1, new_tup R q2 h⟩⟩
    · exact h.elim
  · exact h.elim
theorem acall_list : ACall X E (.type "list") lstOf := callR_mono call_list_of fun xs H Q h => by
  obtain ⟨ρ, A, ds, R, r, h⟩ := h
  unfold lstOf at h
  split at h
  · obtain ⟨x, rfl, r1⟩ := r.one_inv
    split at h
    · rename_i ys e1
      obtain ⟨a, us, rfl, q1, q2⟩ := rdS_ok R r1 e1
      exact ⟨a, us, rfl, q1, new_lst R q2 h⟩
    · split at h <;> exact h.elim
  · exact h.elim
theorem acall_dict : ACall X E (.type "dict") dicOf := callR_mono call_dictD fun xs H Q h => by
  obtain ⟨ρ, A, ds, R, r, h⟩ := h
  unfold dicOf at h
  split at h
  · obtain ⟨x, rfl, r1⟩ := r.one_inv
    split at h
    · rename_i ys e1
      obtain ⟨_, a, us, _, rfl, _, _, q1, q2⟩ := rdM_ok R r1 e1
      exact ⟨a, us, rfl, .inl q1, new_dic R q2 h⟩
    · exact h.elim
  · exact h.elim
end
end Ab

namespace Ab
open PySem PySem.Spec PyProof.Rows L2
open scoped Classical

/-! ## targets -/
abbrev FG := D → ASt → AH → Res ASt
def OutG (K : PySem.W.Frag) (E : XK) (ρ : List Addr) (H : Hp) (r : Res ASt) (Q : L2.St → Hp → Prop) : Prop := match r with
  | .ok s A' => ∀ ρ' H' σ', Ext K ρ H ρ' H' → Rel K ρ' H' A' → SRel K ρ' H' s σ' → Q σ' H'
  | .exc C fs A' => ∀ ρ' H' dx us, Ext K ρ H ρ' H' → Rel K ρ' H' A' → H' dx = some (.xd us) → RpK K ρ' H' fs us → E (.ref C) (some dx) H'
  | .bad => False
theorem OutG.ext {K : PySem.W.Frag} {E : XK} {ρ0 ρ : List Addr} {H0 H : Hp} {r : Res ASt} {G : L2.St → Hp → Prop} (h : OutG K E ρ0 H0 r G) (e : Ext K ρ0 H0 ρ H) : OutG K E ρ H r G := by
  cases r with
  | bad => exact h
  | exc C fs A => exact fun ρ' H' dx us e2 => h ρ' H' dx us (e.trans e2)
  | ok c A => exact fun ρ' H' w e2 => h ρ' H' w (e.trans e2)
theorem Out.bindG {K : PySem.W.Frag} {E : XK} {α β : Type} {R1 : List Addr → Hp → α → β → Prop} {ρ : List Addr} {H : Hp} {r : Res α} {k : α → AH → Res ASt} {G : L2.St → Hp → Prop} (h : OutG K E ρ H (r.bind k) G) :
    Out K E R1 ρ H r (fun v H1 => ∃ ρ1 a A1, r = .ok a A1 ∧ Ext K ρ H ρ1 H1 ∧ Rel K ρ1 H1 A1 ∧ R1 ρ1 H1 a v ∧ OutG K E ρ1 H1 (k a A1) G) := by
  cases r with
  | bad => exact h
  | exc C fs A => exact h
  | ok a A => exact fun ρ1 H1 v e1 r1 q1 => ⟨ρ1, a, A, rfl, e1, r1, q1, OutG.ext h e1⟩
theorem OutG.bindG {K : PySem.W.Frag} {E : XK} {ρ : List Addr} {H : Hp} {r : Res ASt} {k : ASt → AH → Res ASt} {G : L2.St → Hp → Prop} (h : OutG K E ρ H (r.bind k) G) :
    OutG K E ρ H r (fun σ H1 => ∃ ρ1 s A1, r = .ok s A1 ∧ Ext K ρ H ρ1 H1 ∧ Rel K ρ1 H1 A1 ∧ SRel K ρ1 H1 s σ ∧ OutG K E ρ1 H1 (k s A1) G) := by
  cases r with
  | bad => exact h
  | exc C fs A => exact h
  | ok a A => exact fun ρ1 H1 v e1 r1 q1 => ⟨ρ1, a, A, rfl, e1, r1, q1, OutG.ext h e1⟩
theorem OutG.bindS {K : PySem.W.Frag} {E : XK} {ρ : List Addr} {H : Hp} {r : Res ASt} {k : ASt → AH → Res Fl} {G : Ends} (h : SOut K E ρ H (r.bind k) G) :
    OutG K E ρ H r (fun σ H1 => ∃ ρ1 s A1, r = .ok s A1 ∧ Ext K ρ H ρ1 H1 ∧ Rel K ρ1 H1 A1 ∧ SRel K ρ1 H1 s σ ∧ SOut K E ρ1 H1 (k s A1) G) := by
  cases r with
  | bad => exact h
  | exc C fs A => exact h
  | ok a A => exact fun ρ1 H1 v e1 r1 q1 => ⟨ρ1, a, A, rfl, e1, r1, q1, SOut.ext h e1⟩
theorem OutG.mono {K : PySem.W.Frag} {E : XK} {ρ : List Addr} {H : Hp} {r : Res ASt} {Q Q' : L2.St → Hp → Prop} (h : OutG K E ρ H r Q) (q : ∀ v H', Q v H' → Q' v H') : OutG K E ρ H r Q' := by
  cases r with
  | bad => exact h
  | exc C fs A => exact h
  | ok c A => exact fun ρ' H' w e r1 q1 => q _ _ (h ρ' H' w e r1 q1)
def tAG (K : PySem.W.Frag) (E : XK) (g : FG) : TG := fun v σ H Q => ∃ ρ s A d, SRel K ρ H s σ ∧ Rel K ρ H A ∧ Rp K ρ H d v ∧ OutG K E ρ H (g d s A) Q
abbrev AG (X : Cx) (E : XK) (tg : Expr) (g : FG) : Prop := PG X tg (tAG X.K E g)
theorem pg_mono {X : Cx} {e : Expr} {t u : TG} (h : PG X e t) (m : ∀ v σ H Q, u v σ H Q → t v σ H Q) : PG X e u := ⟨fun pins s σ H v w Q I r q => h.run pins s σ H v w Q I r (m _ _ _ _ q)⟩
def gN (i : Nat) : FG := fun d s A => .ok (s.set i (some d)) A
section
variable {X : Cx} {E : XK} {pos : Pos}
theorem ag_name {i : Nat} {x : Str} (hN : X.N.Nodup) (hi : X.N[i]? = some x := by rfl) (hx : Loc X.env.scope x := by first | exact Or.inl rfl | exact Or.inr rfl) (hf : X.fn x = true ∨ X.env.scope.names.lookup x = some .local := by first | exact .inl rfl | exact .inr rfl | assumption) : AG X E (.Name x pos) (gN i) :=
  pg_mono (pg_name hN hi hx hf) fun v σ H Q h => by
    obtain ⟨ρ, s, A, d, hs, R, r, h⟩ := h
    exact h ρ H _ .refl R (hs.set i r)
/-- targets one behind the other -/
abbrev FGs := List D → ASt → AH → Res ASt
def tAGs (K : PySem.W.Frag) (E : XK) (g : FGs) : TGs := fun vs σ H Q => ∃ ρ s A ds, SRel K ρ H s σ ∧ Rel K ρ H A ∧ RpL K ρ H ds vs ∧ OutG K E ρ H (g ds s A) Q
abbrev AGs (X : Cx) (E : XK) (tg : List Expr) (g : FGs) : Prop := PGs X tg (tAGs X.K E g)
def gNl : FGs := fun ds s A => match ds with
  | [] => .ok s A
  | _ => .bad
def gCs (g : FG) (gs : FGs) : FGs := fun ds s A => match ds with
  | d :: r => (g d s A).bind fun s1 A1 => gs r s1 A1
  | _ => .bad
theorem pgs_mono {X : Cx} {e : List Expr} {t u : TGs} (h : PGs X e t) (m : ∀ v σ H Q, u v σ H Q → t v σ H Q) : PGs X e u := ⟨fun pins s σ H v w Q I r q => h.run pins s σ H v w Q I r (m _ _ _ _ q)⟩
theorem ags_nil : AGs X E [] gNl := pgs_mono pgs_nil fun v σ H Q h => by
  obtain ⟨ρ, s, A, ds, hs, R, r, h⟩ := h
  unfold gNl at h
  split at h
  · exact ⟨r, h ρ H _ .refl R hs⟩
  · exact h.elim
theorem ags_cons {e : Expr} {es : List Expr} {g : FG} {gs : FGs} (h1 : AG X E e g) (h2 : AGs X E es gs) (hs : (assignEach (e :: es) X.env).map (·.2) = assign e X.env :: (assignEach es X.env).map (·.2) := by rfl) : AGs X E (e :: es) (gCs g gs) :=
  pgs_mono (pgs_cons h1 h2 hs) fun v σ H Q h => by
    obtain ⟨ρ, s, A, ds, hs, R, r, h⟩ := h
    unfold gCs at h
    split at h
    · rename_i d ds'
      obtain ⟨x, xs, rfl, r1, r2⟩ := r
      exact ⟨x, xs, rfl, ρ, s, A, d, hs, R, r1, (OutG.bindG h).mono fun σ1 H1 ⟨ρ1, s1, A1, _, e1, R1, hs1, h1⟩ => ⟨ρ1, s1, A1, ds', hs1, R1, r2.ext e1, h1⟩⟩
    · exact h.elim
def gTp (n : Nat) (gs : FGs) : FG := fun d s A => match d with
  | .tup ds => if ds.length = n then gs ds s A else .bad
  | _ => .bad
theorem ag_tup {es : List Expr} {k : Nat} {gs : FGs} {n : Nat} (hc : X.calm = true) (h : AGs X E es gs) (hn : (assignEach es X.env).length = n := by rfl) (hst : (assignEach es X.env).findIdx? (·.1) = none := by rfl) : AG X E (.Tuple es k pos) (gTp n gs) :=
  pg_mono (pg_tup hc h hn hst) fun v σ H Q h => by
    obtain ⟨ρ, s, A, d, hs, R, r, h⟩ := h
    unfold gTp at h
    split at h
    · split at h
      · rename_i ds z
        obtain ⟨a, xs, rfl, q1, q2⟩ := r
        exact ⟨a, xs, rfl, .of q1, by rw [q2.length]; exact z, ρ, s, A, ds, hs, R, q2, h⟩
      · exact h.elim
    · exact h.elim
/-- o[i] = v -/
def stD (o i v : D) (A : AH) : Res Unit := match o with
  | .ref n => match A[n]? with
    | some (.lst xs) => match i with
      | .int k => match ixN xs.length k with
        | some j => .ok () (A.set n (.lst (xs.set j v)))
        | none => .bad
      | _ => .bad
    | some (.dic kvs) => match keyOf i with
      | some k => if kvs.length < sizeLine then .ok () (A.set n (.dic (setK kvs k v))) else .bad
      | none => .bad
    | _ => .bad
  | _ => .bad
def gSb (fo fi : FE) : FG := fun d s A => (fo s A).bind fun o A1 => (fi s A1).bind fun i A2 => (stD o i d A2).bind fun _ A3 => .ok s A3
theorem upd_lst {K : PySem.W.Frag} {ρ : List Addr} {H : Hp} {A : AH} {n : Nat} {a : Addr} {xs : List V} {ys : List V} {ds es : List D} (R : Rel K ρ H A) (ha : ρ[n]? = some a) (hA : A[n]? = some (.lst ds)) (hH : H a = some (.lst xs)) (r : RpL K ρ H es ys) :
    Ext K ρ H ρ (upd H a (.lst ys)) ∧ Rel K ρ (upd H a (.lst ys)) (A.set n (.lst es)) := by
  have e : Ext K ρ H ρ (upd H a (.lst ys)) := Ext.mut hH trivial
  exact ⟨e, R.upd ha hA rfl hH trivial ⟨ys, upd_same, r.ext e⟩ rfl⟩
theorem upd_dic {K : PySem.W.Frag} {ρ : List Addr} {H : Hp} {A : AH} {n : Nat} {a : Addr} {xs ys : List (Key × V)} {ds es : List (Key × D)} (R : Rel K ρ H A) (ha : ρ[n]? = some a) (hA : A[n]? = some (.dic ds)) (hH : H a = some (.dK xs)) (r : RpK K ρ H es ys) :
    Ext K ρ H ρ (upd H a (.dK ys)) ∧ Rel K ρ (upd H a (.dK ys)) (A.set n (.dic es)) := by
  have e : Ext K ρ H ρ (upd H a (.dK ys)) := Ext.mut hH trivial
  exact ⟨e, R.upd ha hA rfl hH trivial ⟨ys, upd_same, r.ext e⟩ rfl⟩
theorem set_or {t u : TSet} (h : PSet X t) (h' : PSet X u) : PSet X (fun o i v H Q => t o i v H Q ∨ u o i v H Q) := fun pins s σ H o i v ov iv w Q I r1 r2 r3 q => by
  rcases q with q | q
  · exact h pins s σ H o i v ov iv w Q I r1 r2 r3 q
  · exact h' pins s σ H o i v ov iv w Q I r1 r2 r3 q
theorem ag_sub {o i : Expr} {fo fi : FE} (hu : X.A.units + 1 < cLine) (ho : AE X E o fo) (hi : AE X E i fi)
    (ha : ∀ v, assign (.Subscript o i pos) X.env v = (do
      let ov ← holding [v] (eval o X.env)
      let iv ← holding [v, ov] (eval i X.env)
      standAt pos
      holding [v, ov, iv] (setItem ov iv v)
      release [v, ov, iv] []) := by intro _; rfl) : AG X E (.Subscript o i pos) (gSb fo fi) := pg_mono (pg_sub ho hi (set_or set_list (set_dict hu)) ha) fun v σ H Q h => by
  obtain ⟨ρ, s, A, d, hs, R, r, h⟩ := h
  refine ⟨ρ, s, A, hs, R, (Out.bindG h).mono fun x H1 ⟨ρ1, d1, A1, _, e1, R1, r1, h1⟩ => ⟨ρ1, s, A1, hs.ext e1, R1, (Out.bindG h1).mono fun y H2 ⟨ρ2, d2, A2, _, e2, R2, r2, h2⟩ => ?_⟩⟩
  have r1 := r1.ext e2
  have r := r.ext (e1.trans e2)
  have hs := hs.ext (e1.trans e2)
  unfold stD at h2
  split at h2
  · rename_i n
    obtain ⟨a, ha, rfl⟩ := r1
    split at h2
    · rename_i xs e3
      obtain ⟨a', ha', us, q1, q2⟩ := R2.ob _ _ e3
      rw [ha] at ha'; cases ha'
      split at h2
      · rename_i k _
        split at h2
        · rename_i j e4
          cases r2
          have u := upd_lst (ds := xs) R2 ha e3 q1 (q2.set j r)
          exact .inl ⟨a, us, k, j, rfl, rfl, q1, by rw [q2.length]; exact e4, h2 ρ2 _ σ u.1 u.2 (hs.ext u.1)⟩
        · exact h2.elim
      · exact h2.elim
    · rename_i kvs e3
      obtain ⟨a', ha', us, q1, q2⟩ := R2.ob _ _ e3
      rw [ha] at ha'; cases ha'
      split at h2
      · rename_i k e4
        split at h2
        · rename_i z
          have u := upd_dic R2 ha e3 q1 (setK_ok (k := k) q2 r)
          exact .inr ⟨a, _, rfl, .inl ⟨us, k, q1, keyOf_ok r2 e4, by rw [q2.length]; exact z, rfl⟩, h2 ρ2 _ σ u.1 u.2 (hs.ext u.1)⟩
        · exact h2.elim
      · exact h2.elim
    · exact h2.elim
  · exact h2.elim
end

/-! ## statements -/
def fSet (f : FE) (i : Nat) : FS := fun s A => (f s A).bind fun d A1 => .ok (.nx (s.set i (some d))) A1
def fAsg (f : FE) (g : FG) : FS := fun s A => (f s A).bind fun d A1 => (g d s A1).bind fun s' A2 => .ok (.nx s') A2
def fRet (f : FE) : FS := fun s A => (f s A).bind fun d A1 => .ok (.rt d) A1
def fRetN : FS := fun _ A => .ok (.rt .non) A
def fEx (f : FE) : FS := fun s A => (f s A).bind fun _ A1 => .ok (.nx s) A1
def fPass : FS := fun s A => .ok (.nx s) A
def fBrk : FS := fun s A => .ok (.bk s) A
def fCont : FS := fun s A => .ok (.ct s) A
def fIfS (c : FT) (f g : FS) : FS := fun s A => (c s A).bind fun b A1 => if b = true then f s A1 else g s A1
def fSeq (f g : FS) : FS := fun s A => match f s A with
  | .ok (.nx s1) A1 => g s1 A1
  | r => r
def fAug (i : Nat) (f : FE) (go : D → D → AH → Res D) : FS := fun s A => match s[i]? with
  | some (some x) => (f s A).bind fun y A1 => (go x y A1).bind fun z A2 => .ok (.nx (s.set i (some z))) A2
  | _ => .bad
section
variable {X : Cx} {E : XK} {e : Expr} {st : Stmt} {rest : List Stmt} {f : FE} {p q : FS} {c : FT} {pos pos' : Pos}
theorem as_set {i : Nat} {x : Str} (hN : X.N.Nodup) (he : AE X E e f) (hi : X.N[i]? = some x := by rfl) (hx : Loc X.env.scope x := by first | exact Or.inl rfl | exact Or.inr rfl) (hs : swapsWith e (some (.Name x pos')) pos.line X.env = pure false := by rfl) (hf : X.fn x = true ∨ X.env.scope.names.lookup x = some .local := by first | exact .inl rfl | exact .inr rfl | assumption) :
    AS X E (.Assign [.Name x pos'] e pos) (fSet f i) := ps_mono (ps_set hN hi hx he hs hf) fun G σ H h => by
  obtain ⟨ρ, s, A, hs, R, h⟩ := h
  exact ⟨ρ, s, A, hs, R, (Out.bindS h).mono fun x H1 ⟨ρ1, d, A1, _, e1, R1, r1, h1⟩ => h1 ρ1 H1 _ .refl R1 ((hs.ext e1).set i r1)⟩
theorem as_asg {tg : Expr} {g : FG} (he : AE X E e f) (hg : AG X E tg g) (hs : swapsWithSole [tg] e pos.line X.env = pure false := by rfl) (hw : swappedStores [tg] e X.env = pure none := by rfl)
    (h1 : (assignEach [tg] X.env).map (·.2) = [assign tg X.env] := by rfl) : AS X E (.Assign [tg] e pos) (fAsg f g) := ps_mono (ps_asg he hg hs hw h1) fun G σ H h => by
  obtain ⟨ρ, s, A, hs, R, h⟩ := h
  exact ⟨ρ, s, A, hs, R, (Out.bindS h).mono fun x H1 ⟨ρ1, d, A1, _, e1, R1, r1, h1⟩ => ⟨ρ1, s, A1, d, hs.ext e1, R1, r1, (OutG.bindS h1).mono fun σ2 H2 ⟨ρ2, s2, A2, _, e2, R2, hs2, h2⟩ => h2 ρ2 H2 σ2 .refl R2 hs2⟩⟩
theorem as_ret (he : AE X E e f) : AS X E (.Return (some e) pos) (fRet f) := ps_mono (ps_ret he) fun G σ H h => by
  obtain ⟨ρ, s, A, hs, R, h⟩ := h
  exact ⟨ρ, s, A, hs, R, (Out.bindS h).mono fun x H1 ⟨ρ1, d, A1, _, e1, R1, r1, h1⟩ => h1 ρ1 H1 x .refl R1 r1⟩
theorem as_retN : AS X E (.Return none pos) fRetN := ps_mono ps_retN fun G σ H h => by
  obtain ⟨ρ, s, A, hs, R, h⟩ := h
  exact h ρ H .non .refl R rfl
theorem as_ex (he : AE X E e f) (hs : swapsWith e none pos.line X.env = pure false := by rfl) : AS X E (.Expr e pos) (fEx f) := ps_mono (ps_expr he hs) fun G σ H h => by
  obtain ⟨ρ, s, A, hs, R, h⟩ := h
  exact ⟨ρ, s, A, hs, R, (Out.bindS h).mono fun x H1 ⟨ρ1, d, A1, _, e1, R1, r1, h1⟩ => h1 ρ1 H1 σ .refl R1 (hs.ext e1)⟩
theorem as_pass : AS X E (.Pass pos) fPass := ps_mono ps_pass fun G σ H h => by
  obtain ⟨ρ, s, A, hs, R, h⟩ := h
  exact h ρ H σ .refl R hs
theorem as_brk : AS X E (.Break pos) fBrk := ps_mono ps_break fun G σ H h => by
  obtain ⟨ρ, s, A, hs, R, h⟩ := h
  exact h ρ H σ .refl R hs
theorem as_cont : AS X E (.Continue pos) fCont := ps_mono ps_continue fun G σ H h => by
  obtain ⟨ρ, s, A, hs, R, h⟩ := h
  exact h ρ H σ .refl R hs
theorem as_if {u : Expr} {a b : List Stmt} (hc : AT X E u c) (ha : ASs X E a p) (hb : ASs X E b q) : AS X E (.If u a b pos) (fIfS c p q) := ps_mono (ps_if hc ha hb) fun G σ H h => by
  obtain ⟨ρ, s, A, hs, R, h⟩ := h
  refine ⟨ρ, s, A, hs, R, (Out.bindS h).mono fun x H1 ⟨ρ1, d, A1, _, e1, R1, r1, h1⟩ => ?_⟩
  cases r1
  cases x with
  | true => exact ⟨ρ1, s, A1, hs.ext e1, R1, h1⟩
  | false => exact ⟨ρ1, s, A1, hs.ext e1, R1, h1⟩
theorem ass_nil : ASs X E [] fPass := pss_mono pss_nil fun G σ H h => by
  obtain ⟨ρ, s, A, hs, R, h⟩ := h
  exact h ρ H σ .refl R hs
theorem ass_one (h : AS X E st p) : ASs X E [st] p := pss_one h
theorem ass_cons (h : AS X E st p) (h' : ASs X E rest q) : ASs X E (st :: rest) (fSeq p q) := pss_mono (pss_cons h h') fun G σ H h => by
  obtain ⟨ρ, s, A, hs, R, h⟩ := h
  refine ⟨ρ, s, A, hs, R, ?_⟩
  unfold fSeq at h
  cases e : p s A with
  | bad => rw [e] at h; exact h
  | exc C fs A1 => rw [e] at h; exact h
  | ok fl A1 =>
    rw [e] at h
    cases fl with
    | nx s1 => exact fun ρ1 H1 σ1 e1 R1 hs1 => ⟨ρ1, s1, A1, hs1, R1, SOut.ext h e1⟩
    | rt d => exact h
    | bk s1 => exact h
    | ct s1 => exact h
/-- x op= e at a name -/
def rIp (K : PySem.W.Frag) (E : XK) (g : D → D → AH → Res D) : TIp := rA K E g
theorem as_aug {i : Nat} {x : Str} {op : Operator} {go : D → D → AH → Res D} (hN : X.N.Nodup) (ho : PIp X op (rIp X.K E go)) (he : AE X E e f) (hi : X.N[i]? = some x := by rfl) (hx : Loc X.env.scope x := by first | exact Or.inl rfl | exact Or.inr rfl) (hf : X.fn x = true ∨ X.env.scope.names.lookup x = some .local := by first | exact .inl rfl | exact .inr rfl | assumption) :
    AS X E (.AugAssign (.Name x pos') op e pos) (fAug i f go) := ps_mono (ps_aug hN hi hx he ho hf) fun G σ H h => by
  obtain ⟨ρ, s, A, hs, R, h⟩ := h
  unfold fAug at h
  split at h
  · rename_i d0 e0
    obtain ⟨v, h1, h2⟩ := hs.at_ i d0 e0
    exact ⟨v, h1, ρ, s, A, hs, R, (Out.bindS h).mono fun y H1 ⟨ρ1, d, A1, _, e1, R1, r1, h1⟩ => ⟨ρ1, A1, d0, d, R1, h2.ext e1, r1, (Out.bindS h1).mono fun z H2 ⟨ρ2, d2, A2, _, e2, R2, r2, h2⟩ => h2 ρ2 H2 _ .refl R2 ((hs.ext (e1.trans e2)).set i r2)⟩⟩
  · exact h.elim
def augAddD : D → D → AH → Res D
  | .int i, .int j, A => .ok (.int (i + j)) A
  | .str x, .str y, A => if x.length + y.length ≤ sizeLine then .ok (.str (x ++ y)) A else .bad
  | _, _, _ => .bad
theorem ip_addA : PIp X .Add (rIp X.K E augAddD) := fun pins s σ H x y v u Q I rx ry h => by
  obtain ⟨ρ, A, d, e, R, r1, r2, h⟩ := h
  unfold augAddD at h
  split at h
  · cases r1; cases r2
    exact iop_add pins s σ H _ _ v u Q I rx ry ⟨_, _, rfl, rfl, h.now R rfl⟩
  · split at h
    · rename_i z
      cases r1; cases r2
      exact iop_add_str pins s σ H _ _ v u Q I rx ry ⟨_, _, rfl, rfl, z, h.now R rfl⟩
    · exact h.elim
  · exact h.elim
theorem ip_subA : PIp X .Sub (rIp X.K E subD) := fun pins s σ H x y v u Q I rx ry h => by
  obtain ⟨ρ, A, d, e, R, r1, r2, h⟩ := h
  unfold subD at h
  split at h
  · cases r1; cases r2
    exact iop_sub pins s σ H _ _ v u Q I rx ry ⟨_, _, rfl, rfl, h.now R rfl⟩
  · exact h.elim
end

/-! ## what is walked -/
/-- the items, and what must hold of the cells at every turn -/
structure Src where
  items : List D
  ok : AH → Prop
abbrev FI := ASt → AH → Res Src
/-- the walker J yields these items -/
def ItRel (K : PySem.W.Frag) (J : It) (ρ0 : List Addr) (H0 : Hp) (S : Src) : Prop := ∀ (i : Nat) ρ H A, Ext K ρ0 H0 ρ H → Rel K ρ H A → S.ok A →
  (∀ d, S.items[i]? = some d → J.go i H ∧ ∀ x H', J.yld i H x H' → Ext K ρ H ρ H' ∧ Rel K ρ H' A ∧ Rp K ρ H' d x) ∧ (S.items.length ≤ i → S.items.length = i → J.stop i H)
def OutI (K : PySem.W.Frag) (E : XK) (ρ : List Addr) (H : Hp) (r : Res Src) (Q : It → Hp → Prop) : Prop := match r with
  | .ok S A' => ∀ ρ' H' J, Ext K ρ H ρ' H' → Rel K ρ' H' A' → ItRel K J ρ' H' S → Q J H'
  | .exc C fs A' => ∀ ρ' H' dx us, Ext K ρ H ρ' H' → Rel K ρ' H' A' → H' dx = some (.xd us) → RpK K ρ' H' fs us → E (.ref C) (some dx) H'
  | .bad => False
theorem OutI.ext {K : PySem.W.Frag} {E : XK} {ρ0 ρ : List Addr} {H0 H : Hp} {r : Res Src} {G : It → Hp → Prop} (h : OutI K E ρ0 H0 r G) (e : Ext K ρ0 H0 ρ H) : OutI K E ρ H r G := by
  cases r with
  | bad => exact h
  | exc C fs A => exact fun ρ' H' dx us e2 => h ρ' H' dx us (e.trans e2)
  | ok c A => exact fun ρ' H' w e2 => h ρ' H' w (e.trans e2)
theorem Out.bindI {K : PySem.W.Frag} {E : XK} {α β : Type} {R1 : List Addr → Hp → α → β → Prop} {ρ : List Addr} {H : Hp} {r : Res α} {k : α → AH → Res Src} {G : It → Hp → Prop} (h : OutI K E ρ H (r.bind k) G) :
    Out K E R1 ρ H r (fun v H1 => ∃ ρ1 a A1, r = .ok a A1 ∧ Ext K ρ H ρ1 H1 ∧ Rel K ρ1 H1 A1 ∧ R1 ρ1 H1 a v ∧ OutI K E ρ1 H1 (k a A1) G) := by
  cases r with
  | bad => exact h
  | exc C fs A => exact h
  | ok a A => exact fun ρ1 H1 v e1 r1 q1 => ⟨ρ1, a, A, rfl, e1, r1, q1, OutI.ext h e1⟩
theorem OutI.bindS {K : PySem.W.Frag} {E : XK} {ρ : List Addr} {H : Hp} {r : Res Src} {k : Src → AH → Res Fl} {G : Ends} (h : SOut K E ρ H (r.bind k) G) :
    OutI K E ρ H r (fun J H1 => ∃ ρ1 S A1, r = .ok S A1 ∧ Ext K ρ H ρ1 H1 ∧ Rel K ρ1 H1 A1 ∧ ItRel K J ρ1 H1 S ∧ SOut K E ρ1 H1 (k S A1) G) := by
  cases r with
  | bad => exact h
  | exc C fs A => exact h
  | ok a A => exact fun ρ1 H1 v e1 r1 q1 => ⟨ρ1, a, A, rfl, e1, r1, q1, SOut.ext h e1⟩
theorem OutI.bindO {K : PySem.W.Frag} {E : XK} {α β : Type} {R1 : List Addr → Hp → α → β → Prop} {ρ : List Addr} {H : Hp} {r : Res Src} {k : Src → AH → Res α} {Q : β → Hp → Prop} (h : Out K E R1 ρ H (r.bind k) Q) :
    OutI K E ρ H r (fun J H1 => ∃ ρ1 S A1, r = .ok S A1 ∧ Ext K ρ H ρ1 H1 ∧ Rel K ρ1 H1 A1 ∧ ItRel K J ρ1 H1 S ∧ Out K E R1 ρ1 H1 (k S A1) Q) := by
  cases r with
  | bad => exact h
  | exc C fs A => exact h
  | ok a A => exact fun ρ1 H1 v e1 r1 q1 => ⟨ρ1, a, A, rfl, e1, r1, q1, Out.ext h e1⟩
theorem OutI.mono {K : PySem.W.Frag} {E : XK} {ρ : List Addr} {H : Hp} {r : Res Src} {Q Q' : It → Hp → Prop} (h : OutI K E ρ H r Q) (q : ∀ v H', Q v H' → Q' v H') : OutI K E ρ H r Q' := by
  cases r with
  | bad => exact h
  | exc C fs A => exact h
  | ok c A => exact fun ρ' H' w e r1 q1 => q _ _ (h ρ' H' w e r1 q1)
def tAI (K : PySem.W.Frag) (E : XK) (f : FI) : TI := fun σ H R => ∃ ρ s A, SRel K ρ H s σ ∧ Rel K ρ H A ∧ OutI K E ρ H (f s A) R
abbrev AI (X : Cx) (E : XK) (tg it : Expr) (f : FI) : Prop := PI X tg it (tAI X.K E f)
theorem pi_mono {X : Cx} {tg it : Expr} {t u : TI} (h : PI X tg it t) (m : ∀ σ H Q, u σ H Q → t σ H Q) : PI X tg it u := ⟨fun pins s σ H R I q => h.run pins s σ H R I (m _ _ _ q)⟩
def yes : AH → Prop := fun _ => True
def iSeq (d : D) (A : AH) : Res Src := match d with
  | .tup ds => .ok ⟨ds, yes⟩ A
  | .str x => .ok ⟨x.cps.toList.map fun c => .str ⟨#[c]⟩, yes⟩ A
  | d => match rdL A d with
    | some ds => .ok ⟨ds, fun A' => rdL A' d = some ds⟩ A
    | none => .bad
def fItS (f : FE) : FI := fun s A => (f s A).bind iSeq
def rngL (lo : Int) (n : Nat) : List D := (List.range n).map fun k => .int (lo + (k : Nat))
/-- an end of a range -/
structure InRg (j : Int) : Prop where
  lo : -(2 ^ 62) ≤ j
  hi : j < 2 ^ 62
noncomputable def fRg1 (f : FE) : FI := fun s A => (f s A).bind fun d A1 => match d with
  | .int j => if InRg j then .ok ⟨rngL 0 j.toNat, yes⟩ A1 else .bad
  | _ => .bad
noncomputable def fRg2 (f g : FE) : FI := fun s A => (f s A).bind fun d A1 => (g s A1).bind fun e A2 => match d, e with
  | .int i, .int j => if InRg i ∧ InRg j then .ok ⟨rngL i (j - i).toNat, yes⟩ A2 else .bad
  | _, _ => .bad
def enumL (k : Nat) : List D → List D
  | [] => []
  | d :: ds => .tup [.int k, d] :: enumL (k + 1) ds
def fEnum (f : FE) : FI := fun s A => (f s A).bind fun d A1 => match rdL A1 d with
  | some ds => .ok ⟨enumL 0 ds, fun A' => rdL A' d = some ds⟩ A1
  | none => .bad
def zipD : List D → List D → List D
  | a :: as, b :: bs => .tup [a, b] :: zipD as bs
  | _, _ => []
section
variable {K : PySem.W.Frag} {ρ : List Addr} {H : Hp}
theorem itr_rel (lo : Int) (n : Nat) : ItRel K (Itr lo n) ρ H ⟨rngL lo n, yes⟩ := fun i ρ' H' A e R _ => by
  have hl : (rngL lo n).length = n := by simp [rngL]
  refine ⟨fun d hd => ?_, fun h _ => by rw [show (Src.items ⟨rngL lo n, yes⟩).length = n from hl] at h; exact h⟩
  have hd : (rngL lo n)[i]? = some d := hd
  have hi : i < n := by have := (List.getElem?_eq_some_iff.mp hd).1; rwa [hl] at this
  refine ⟨hi, fun x H2 hy => ?_⟩
  obtain ⟨rfl, rfl⟩ := hy
  refine ⟨.refl, R, ?_⟩
  simp [rngL, hi] at hd
  subst hd
  rfl
theorem its_rel (x : Str) : ItRel K (Its x) ρ H ⟨x.cps.toList.map fun c => .str ⟨#[c]⟩, yes⟩ := fun i ρ' H' A e R _ => by
  refine ⟨fun d hd => ?_, fun h _ => by simpa [Its] using h⟩
  have hd : (x.cps.toList.map fun c => D.str ⟨#[c]⟩)[i]? = some d := hd
  rw [List.getElem?_map] at hd
  cases ec : x.cps.toList[i]? with
  | none => rw [ec] at hd; cases hd
  | some c =>
    rw [ec] at hd
    cases hd
    have hi : i < x.cps.size := by have := (List.getElem?_eq_some_iff.mp ec).1; simpa using this
    refine ⟨hi, fun y H2 hy => ?_⟩
    obtain ⟨rfl, c', h1, rfl⟩ := hy
    refine ⟨.refl, R, ?_⟩
    rw [← Array.getElem?_toList, ec] at h1
    cases h1
    rfl
theorem itt_rel {a : Addr} {xs : List V} {ds : List D} (h : H a = some (.tup xs)) (r : RpL K ρ H ds xs) : ItRel K (Itt K a) ρ H ⟨ds, yes⟩ := fun i ρ' H' A e R _ => by
  have h' : SqT K H' a xs := .of (e.gr _ _ h)
  have r' := r.ext e
  refine ⟨fun d hd => ?_, fun hl _ => ⟨xs, h', by rw [r'.length]; exact hl⟩⟩
  obtain ⟨v, q1, q2⟩ := r'.get (show ds[i]? = some d from hd)
  refine ⟨⟨xs, v, h', q1⟩, fun x H2 hy => ?_⟩
  obtain ⟨rfl, fv⟩ := hy
  have := fv _ h'
  rw [q1] at this; cases this
  exact ⟨.refl, R, q2⟩
theorem itl_rel {a : Addr} {n : Nat} {ds : List D} (ha : ρ[n]? = some a) : ItRel K (Itl K a) ρ H ⟨ds, fun A => rdL A (.ref n) = some ds⟩ := fun i ρ' H' A e R ok => by
  have ha' := e.at_ ha
  have r0 : Rp K ρ' H' (.ref n) (.ref a) := ⟨a, ha', rfl⟩
  obtain ⟨b, xs, eb, h', r'⟩ := rdL_ok R r0 ok
  cases eb
  refine ⟨fun d hd => ?_, fun hl _ => ⟨xs, h', by rw [r'.length]; exact hl⟩⟩
  obtain ⟨v, q1, q2⟩ := r'.get (show ds[i]? = some d from hd)
  refine ⟨⟨xs, v, h', q1⟩, fun x H2 hy => ?_⟩
  obtain ⟨rfl, fv⟩ := hy
  have := fv _ h'
  rw [q1] at this; cases this
  exact ⟨.refl, R, q2⟩
end
section
variable {X : Cx} {E : XK} {tg e e2 : Expr} {f g : FE} {p pos : Pos}
theorem ai_seq (he : AE X E e f) : AI X E tg e (fItS f) := ⟨fun pins s σ H R I h => by
  obtain ⟨ρ, st, A, hs, Rl, h⟩ := h
  have base : ∀ {Q : VK}, (∀ v H1 ρ1 d A1, f st A = .ok d A1 → Ext X.K ρ H ρ1 H1 → Rel X.K ρ1 H1 A1 → Rp X.K ρ1 H1 d v → OutI X.K E ρ1 H1 (iSeq d A1) R → Q v H1) → tA X.K E f σ H Q := fun {Q} k =>
    ⟨ρ, st, A, hs, Rl, (Out.bindI h).mono fun v H1 ⟨ρ1, d, A1, q0, q1, q2, q3, q4⟩ => k v H1 ρ1 d A1 q0 q1 q2 q3 q4⟩
  cases ef : f st A with
  | bad => unfold fItS at h; rw [ef] at h; exact h.elim
  | exc C fs A1 =>
    refine (pi_tup he).run pins s σ H R I (base fun v H1 ρ1 d A1 q0 _ _ _ _ => ?_)
    rw [ef] at q0; cases q0
  | ok d0 A0 =>
    cases d0 with
    | tup ds =>
      refine (pi_tup he).run pins s σ H R I (base fun v H1 ρ1 d A1 q0 q1 q2 q3 q4 => ?_)
      rw [ef] at q0; cases q0
      obtain ⟨a, xs, rfl, z1, z2⟩ := q3
      exact ⟨a, rfl, ⟨xs, .of z1⟩, q4 ρ1 H1 _ .refl q2 (itt_rel z1 z2)⟩
    | str x =>
      refine (pi_str he).run pins s σ H R I (base fun v H1 ρ1 d A1 q0 q1 q2 q3 q4 => ?_)
      rw [ef] at q0; cases q0
      cases q3
      exact ⟨x, rfl, q4 ρ1 H1 _ .refl q2 (its_rel x)⟩
    | ref n =>
      refine (pi_list he).run pins s σ H R I (base fun v H1 ρ1 d A1 q0 q1 q2 q3 q4 => ?_)
      rw [ef] at q0; cases q0
      unfold iSeq at q4
      simp only at q4
      split at q4
      · rename_i ds e4
        obtain ⟨a, xs, rfl, z1, z2⟩ := rdL_ok q2 q3 e4
        obtain ⟨b, hb, eb⟩ := q3
        cases eb
        exact ⟨a, rfl, ⟨xs, z1⟩, q4 ρ1 H1 _ .refl q2 (itl_rel hb)⟩
      · exact q4.elim
    | non => exact absurd ((base (Q := fun _ _ => False) fun v H1 ρ1 d A1 q0 q1 q2 q3 q4 => by rw [ef] at q0; cases q0; exact q4)) (fun z => by
        unfold fItS at h; rw [ef] at h; exact h)
    | bl b => unfold fItS at h; rw [ef] at h; exact h.elim
    | int b => unfold fItS at h; rw [ef] at h; exact h.elim⟩
theorem ai_rg1 (hg : Gl X "range") (hm : X.mg "range" = none) (he : AE X E e f) (h1 : starEach [e] X.env = (false, eval e X.env) :: starEach [] X.env := by rfl) : AI X E tg (.Call (.Name "range" p) [e] [] pos) (fRg1 f) := pi_mono (pi_range1 (hs := h1) hg hm (aa_cons he aa_nil h1)) fun σ H Q h => by
  obtain ⟨ρ, s, A, hs, R, h⟩ := h
  have ef : fRg1 f s A = (fCons f fNil s A).bind fun ds A1 => match ds with
      | [.int j] => if InRg j then .ok ⟨rngL 0 j.toNat, yes⟩ A1 else .bad
      | _ => .bad := by
    unfold fRg1 fCons fNil
    cases f s A with
    | bad => rfl
    | exc _ _ _ => rfl
    | ok d A1 => cases d <;> rfl
  rw [ef] at h
  refine ⟨ρ, s, A, hs, R, (Out.bindI h).mono fun xs H1 ⟨ρ1, ds, A1, _, e1, R1, r1, h1⟩ => ?_⟩
  split at h1
  · split at h1
    · rename_i j _ z
      obtain ⟨x, rfl, r2⟩ := r1.one_inv
      cases r2
      exact ⟨j, rfl, z.lo, z.hi, h1 ρ1 H1 _ .refl R1 (itr_rel 0 _)⟩
    · exact h1.elim
  · exact h1.elim
theorem ai_rg2 (hg : Gl X "range") (hm : X.mg "range" = none) (he : AE X E e f) (he2 : AE X E e2 g) (h1 : starEach [e, e2] X.env = (false, eval e X.env) :: starEach [e2] X.env := by rfl) (h2 : starEach [e2] X.env = (false, eval e2 X.env) :: starEach [] X.env := by rfl) :
    AI X E tg (.Call (.Name "range" p) [e, e2] [] pos) (fRg2 f g) := pi_mono (pi_range2 (hs := h1.trans (by rw [h2]; rfl)) (hs2 := h2) hg hm (aa_cons he (aa_cons he2 aa_nil h2) h1)) fun σ H Q h => by
  obtain ⟨ρ, s, A, hs, R, h⟩ := h
  have ef : fRg2 f g s A = (fCons f (fCons g fNil) s A).bind fun ds A1 => match ds with
      | [.int i, .int j] => if InRg i ∧ InRg j then .ok ⟨rngL i (j - i).toNat, yes⟩ A1 else .bad
      | _ => .bad := by
    unfold fRg2 fCons
    cases f s A with
    | bad => rfl
    | exc _ _ _ => rfl
    | ok d A1 =>
      show (g s A1).bind _ = Res.bind (Res.bind (fCons g fNil s A1) _) _
      unfold fCons fNil
      cases g s A1 with
      | bad => rfl
      | exc _ _ _ => rfl
      | ok d' A2 => cases d <;> cases d' <;> rfl
  rw [ef] at h
  refine ⟨ρ, s, A, hs, R, (Out.bindI h).mono fun xs H1 ⟨ρ1, ds, A1, _, e1, R1, r1, h1⟩ => ?_⟩
  split at h1
  · split at h1
    · rename_i i j _ z
      obtain ⟨x, y, rfl, r2, r3⟩ := r1.two_inv
      cases r2; cases r3
      exact ⟨i, j, rfl, ⟨z.1.lo, z.1.hi, z.2.lo, z.2.hi⟩, h1 ρ1 H1 _ .refl R1 (itr_rel i _)⟩
    · exact h1.elim
  · exact h1.elim
end

/-! ## for, while -/
noncomputable def loopD (ok : AH → Prop) (g : FG) (body : FS) : List D → FS
  | [], s, A => if ok A then .ok (.nx s) A else .bad
  | d :: ds, s, A => if ok A then (g d s A).bind fun s1 A1 => (match body s1 A1 with
    | .ok (.nx s2) A2 => loopD ok g body ds s2 A2
    | .ok (.ct s2) A2 => loopD ok g body ds s2 A2
    | .ok (.bk s2) A2 => .ok (.nx s2) A2
    | r => r) else .bad
noncomputable def fFor (src : FI) (g : FG) (body : FS) : FS := fun s A => (src s A).bind fun S A1 => loopD S.ok g body S.items s A1
def loopW (c : FT) (body : FS) : Nat → FS
  | 0, _, _ => .bad
  | n + 1, s, A => (c s A).bind fun b A1 => if b = true then (match body s A1 with
    | .ok (.nx s2) A2 => loopW c body n s2 A2
    | .ok (.ct s2) A2 => loopW c body n s2 A2
    | .ok (.bk s2) A2 => .ok (.nx s2) A2
    | r => r) else .ok (.nx s) A1
section
variable {X : Cx} {E : XK} {tg iter c : Expr} {body : List Stmt} {src : FI} {g : FG} {p : FS} {t : FT} {pos : Pos}
theorem as_for (hp : PassesOwn (model X.prog X.w) X.A X.env X.xe) (hc : X.calm = true) (hi : AI X E tg iter src) (hg : AG X E tg g) (hb : ASs X E body p) (hs : ∀ x, foldedSetIterable iter X.env x = pure x := by intro _; rfl) :
    AS X E (.For tg iter body [] pos) (fFor src g p) := ps_mono (ps_for hp hc hi hg hb hs) fun G σ H h => by
  obtain ⟨ρ, s, A, hs, R, h⟩ := h
  refine ⟨ρ, s, A, hs, R, (OutI.bindS h).mono fun J H1 ⟨ρ1, S, A1, _, e1, R1, J1, h1⟩ => ?_⟩
  refine ⟨fun i m σ' H' => m = S.items.length - i ∧ i ≤ S.items.length ∧ ∃ ρ' s' A', Ext X.K ρ1 H1 ρ' H' ∧ SRel X.K ρ' H' s' σ' ∧ Rel X.K ρ' H' A' ∧ SOut X.K E ρ' H' (loopD S.ok g p (S.items.drop i) s' A') G, ⟨_, rfl, Nat.zero_le _, ρ1, s, A1, .refl, hs.ext e1, R1, by simpa using h1⟩, ?_⟩
  rintro i m σ' H' ⟨rfl, hi, ρ', s', A', e2, hs2, R2, h2⟩
  by_cases hl : i < S.items.length
  · obtain ⟨d, hd⟩ : ∃ d, S.items[i]? = some d := ⟨_, List.getElem?_eq_getElem hl⟩
    have ed : S.items.drop i = d :: S.items.drop (i + 1) := by
      rw [List.drop_eq_getElem_cons hl]
      rw [List.getElem?_eq_getElem hl] at hd
      cases hd; rfl
    rw [ed] at h2
    unfold loopD at h2
    split at h2
    · rename_i ok
      obtain ⟨go, yl⟩ := (J1 i ρ' H' A' e2 R2 ok).1 d hd
      refine .inr ⟨go, fun σ3 H3 => ∃ ρ3 s3 A3, Ext X.K ρ1 H1 ρ3 H3 ∧ SRel X.K ρ3 H3 s3 σ3 ∧ Rel X.K ρ3 H3 A3 ∧ SOut X.K E ρ3 H3 (loopD S.ok g p (S.items.drop (i + 1)) s3 A3) G, fun σ3 H3 h3 => ⟨_, by omega, rfl, hl, h3⟩, fun x H3 hy => ?_⟩
      obtain ⟨e3, R3, r3⟩ := yl x H3 hy
      refine ⟨ρ', s', A', d, hs2.ext e3, R3, r3, (OutG.bindS (h2.ext e3)).mono fun σ4 H4 ⟨ρ4, s4, A4, _, e4, R4, hs4, h4⟩ => ?_⟩
      refine ⟨ρ4, s4, A4, hs4, R4, ?_⟩
      have e5 := e2.trans (e3.trans e4)
      cases eb : p s4 A4 with
      | bad => rw [eb] at h4; exact h4
      | exc C fs A5 => rw [eb] at h4; exact h4
      | ok fl A5 =>
        rw [eb] at h4
        cases fl with
        | nx s5 => exact fun ρ5 H5 σ5 e6 R5 hs5 => ⟨ρ5, s5, A5, e5.trans e6, hs5, R5, h4.ext e6⟩
        | ct s5 => exact fun ρ5 H5 σ5 e6 R5 hs5 => ⟨ρ5, s5, A5, e5.trans e6, hs5, R5, h4.ext e6⟩
        | bk s5 => exact h4
        | rt d => exact h4
    · exact h2.elim
  · have ei : i = S.items.length := by omega
    have ed : S.items.drop i = [] := List.drop_eq_nil_of_le (by omega)
    rw [ed] at h2
    unfold loopD at h2
    split at h2
    · rename_i ok
      exact .inl ⟨(J1 i ρ' H' A' e2 R2 ok).2 (by omega) ei.symm, h2 ρ' H' σ' .refl R2 hs2⟩
    · exact h2.elim
theorem as_while (n : Nat) (hp : PassesOwn (model X.prog X.w) X.A X.env X.xe) (hc : AT X E c t) (hb : ASs X E body p) : AS X E (.While c body [] pos) (loopW t p n) := ps_mono (ps_while hp hc hb) fun G σ H h => by
  obtain ⟨ρ, s, A, hs, R, h⟩ := h
  refine ⟨fun m σ' H' => ∃ ρ' s' A', SRel X.K ρ' H' s' σ' ∧ Rel X.K ρ' H' A' ∧ SOut X.K E ρ' H' (loopW t p m s' A') G, ⟨n, ρ, s, A, hs, R, h⟩, ?_⟩
  rintro m σ' H' ⟨ρ', s', A', hs2, R2, h2⟩
  cases m with
  | zero => exact h2.elim
  | succ m =>
    refine ⟨ρ', s', A', hs2, R2, (Out.bindS h2).mono fun x H3 ⟨ρ3, b, A3, _, e3, R3, r3, h3⟩ => ?_⟩
    cases r3
    cases x with
    | true =>
      rw [if_pos rfl]
      refine ⟨fun σ3 H3 => ∃ ρ3 s3 A3, SRel X.K ρ3 H3 s3 σ3 ∧ Rel X.K ρ3 H3 A3 ∧ SOut X.K E ρ3 H3 (loopW t p m s3 A3) G, fun σ3 H3 h3 => ⟨m, by omega, h3⟩, ?_⟩
      refine ⟨ρ3, s', A3, hs2.ext e3, R3, ?_⟩
      rw [if_pos rfl] at h3
      cases eb : p s' A3 with
      | bad => rw [eb] at h3; exact h3
      | exc C fs A5 => rw [eb] at h3; exact h3
      | ok fl A5 =>
        rw [eb] at h3
        cases fl with
        | nx s5 => exact fun ρ5 H5 σ5 e6 R5 hs5 => ⟨ρ5, s5, A5, hs5, R5, h3.ext e6⟩
        | ct s5 => exact fun ρ5 H5 σ5 e6 R5 hs5 => ⟨ρ5, s5, A5, hs5, R5, h3.ext e6⟩
        | bk s5 => exact h3
        | rt d => exact h3
    | false =>
      rw [if_neg Bool.false_ne_true]
      exact h3 ρ3 H3 σ' .refl R3 (hs2.ext e3)
end
end Ab

namespace Ab
open PySem PySem.Spec PyProof.Rows L2
open scoped Classical

/-! ## list comprehensions: the new list is a cell from the start -/
def wipeA (s : ASt) : List Nat → ASt
  | [] => s
  | v :: vs => (wipeA s vs).set v none
noncomputable def loopC (ok : AH → Prop) (g : FG) (t : FT) (f : FE) (n : Nat) (s : ASt) : List D → AH → Res D
  | [], A => if ok A then .ok (.ref n) A else .bad
  | d :: ds, A => if ok A then (g d s A).bind fun s1 A1 => (t s1 A1).bind fun b A2 => if b = true then (f s1 A2).bind fun y A3 => (match A3[n]? with
      | some (.lst acc) => if acc.length < sizeLine then loopC ok g t f n s ds (A3.set n (.lst (acc ++ [y]))) else .bad
      | _ => .bad) else loopC ok g t f n s ds A2 else .bad
noncomputable def fLc (src : FI) (g : FG) (t : FT) (f : FE) (vs : List Nat) : FE := fun s A => (src s A).bind fun S A1 => loopC S.ok g t f A1.length (wipeA s vs) S.items (A1 ++ [.lst []])
def fYes : FT := fun _ A => .ok true A
section
variable {K : PySem.W.Frag} {E : XK} {ρ : List Addr} {H : Hp} {s : ASt} {σ : L2.St}
theorem SRel.wipes (h : SRel K ρ H s σ) : ∀ vs : List Nat, SRel K ρ H (wipeA s vs) (L2.wipe σ vs)
  | [] => h
  | v :: vs => SRel.wipe (h.wipes vs) v
theorem wipe_set (i : Nat) (x : Option V) : ∀ (vs : List Nat) (σ : L2.St), i ∈ vs → L2.wipe (σ.set i x) vs = L2.wipe σ vs
  | [], σ, h => by cases h
  | v :: vs, σ, h => by
    show (L2.wipe (σ.set i x) vs).set v none = (L2.wipe σ vs).set v none
    by_cases e : i ∈ vs
    · rw [wipe_set i x vs σ e]
    · have ei : i = v := by rcases List.mem_cons.mp h with q | q; exact q; exact absurd q e
      subst ei
      have comm : ∀ (ws : List Nat), i ∉ ws → L2.wipe (σ.set i x) ws = (L2.wipe σ ws).set i x := by
        intro ws
        induction ws with
        | nil => intro _; rfl
        | cons w ws ih =>
          intro hn
          have h1 : i ≠ w := fun z => hn (by rw [z]; exact List.mem_cons_self)
          have h2 : i ∉ ws := fun z => hn (List.mem_cons_of_mem _ z)
          show (L2.wipe (σ.set i x) ws).set w none = ((L2.wipe σ ws).set w none).set i x
          rw [ih h2, List.set_comm _ _ h1]
      rw [comm vs e, List.set_set]
/-- a target whose stores the block forgets again -/
structure Tgt (K : PySem.W.Frag) (vs : List Nat) (t : TG) (g : FG) : Prop where
  det : ∀ d s A, g d s A = .bad ∨ ∃ s1, g d s A = .ok s1 A
  to : ∀ (ρ : List Addr) (H : Hp) (s : ASt) (σ : L2.St) (A : AH) (d : D) (v : V) (s1 : ASt) (Q : L2.St → Hp → Prop), SRel K ρ H s σ → Rp K ρ H d v → g d s A = .ok s1 A → (∀ σ1, SRel K ρ H s1 σ1 → L2.wipe σ1 vs = L2.wipe σ vs → Q σ1 H) → t v σ H Q
structure Tgts (K : PySem.W.Frag) (vs : List Nat) (t : TGs) (g : FGs) : Prop where
  det : ∀ d s A, g d s A = .bad ∨ ∃ s1, g d s A = .ok s1 A
  to : ∀ (ρ : List Addr) (H : Hp) (s : ASt) (σ : L2.St) (A : AH) (d : List D) (v : List V) (s1 : ASt) (Q : L2.St → Hp → Prop), SRel K ρ H s σ → RpL K ρ H d v → g d s A = .ok s1 A → (∀ σ1, SRel K ρ H s1 σ1 → L2.wipe σ1 vs = L2.wipe σ vs → Q σ1 H) → t v σ H Q
theorem tgt_name {vs : List Nat} {i : Nat} (h : i ∈ vs) : Tgt K vs (gName i) (gN i) := ⟨fun d s A => .inr ⟨_, rfl⟩, fun ρ H s σ A d v s1 Q hs r e q => by
  cases e
  exact q _ (hs.set i r) (wipe_set i _ vs σ h)⟩
theorem tgts_nil {vs : List Nat} : Tgts K vs gNil gNl := ⟨fun d s A => by
  cases d with
  | nil => exact .inr ⟨_, rfl⟩
  | cons _ _ => exact .inl rfl, fun ρ H s σ A d v s1 Q hs r e q => by
  cases d with
  | nil => cases e; exact ⟨r, q _ hs rfl⟩
  | cons _ _ => cases e⟩
theorem tgts_cons {vs : List Nat} {i : Nat} {u : TGs} {gs : FGs} (h : i ∈ vs) (h2 : Tgts K vs u gs) : Tgts K vs (gCons (gName i) u) (gCs (gN i) gs) := ⟨fun d s A => by
  cases d with
  | nil => exact .inl rfl
  | cons d ds => exact h2.det ds _ A, fun ρ H s σ A d v s1 Q hs r e q => by
  cases d with
  | nil => cases e
  | cons d ds =>
    obtain ⟨x, xs, rfl, r1, r2⟩ := r
    exact ⟨x, xs, rfl, h2.to ρ H _ _ A ds xs s1 Q (hs.set i r1) r2 e fun σ1 hs1 w => q σ1 hs1 (w.trans (wipe_set i _ vs σ h))⟩⟩
theorem tgt_tup {vs : List Nat} {n : Nat} {u : TGs} {gs : FGs} (h : Tgts K vs u gs) : Tgt K vs (gTup K n u) (gTp n gs) := ⟨fun d s A => by
  cases d with
  | tup ds =>
    show (if ds.length = n then gs ds s A else .bad) = .bad ∨ ∃ s1, (if ds.length = n then gs ds s A else .bad) = .ok s1 A
    split
    · exact h.det ds s A
    · exact .inl rfl
  | _ => exact .inl rfl, fun ρ H s σ A d v s1 Q hs r e q => by
  cases d with
  | tup ds =>
    have e : (if ds.length = n then gs ds s A else .bad) = .ok s1 A := e
    split at e
    · rename_i z
      obtain ⟨a, xs, rfl, q1, q2⟩ := r
      exact ⟨a, xs, rfl, .of q1, by rw [q2.length]; exact z, h.to ρ H s σ A ds xs s1 Q hs q2 e q⟩
    · cases e
  | _ => cases e⟩
end
section
variable {X : Cx} {E : XK} {elt tg iter : Expr} {ifs : List Expr} {scope : Scope} {own : List (Str × Nat)} {pos : Pos} {src : FI} {tgg : TG} {g : FG} {t : FT} {f : FE}
abbrev ATs (X : Cx) (E : XK) (ifs : List Expr) (t : FT) : Prop := PTs X ifs (tAT X.K E t)
theorem ats_nil : ATs X E [] fYes := ⟨fun pins s σ H Q I h => pts_nil.run pins s σ H Q I (by
  obtain ⟨ρ, s, A, hs, R, h⟩ := h
  exact Out.now h R rfl)⟩
theorem ats_one {c : Expr} (h : AT X E c t) : ATs X E [c] t := pts_one h
theorem lc_read {K : PySem.W.Frag} {vs : List Nat} (tt : Tgt K vs tgg g) {σ : L2.St} {H : Hp} {Q : VK} (h : tA K E (fLc src g t f vs) σ H Q) :
    tLc (tAI K E src) tgg (tAT K E t) (tA K E f) vs σ H Q := by
  obtain ⟨ρ, s, A, hs, R, h⟩ := h
  refine ⟨ρ, s, A, hs, R, (OutI.bindO h).mono fun J H1 ⟨ρ1, S, A1, _, e1, R1, J1, h1⟩ => fun L hL => ?_⟩
  have eL : Ext K ρ1 H1 (ρ1 ++ [L]) (L2.upd H1 L (.lst [])) := Ext.new hL [L]
  have RL : Rel K (ρ1 ++ [L]) (L2.upd H1 L (.lst [])) (A1 ++ [.lst []]) := R1.new hL ⟨[], upd_same, rfl⟩
  have nL : (ρ1 ++ [L])[A1.length]? = some L := by rw [← R1.len]; simp
  refine ⟨fun i m H' => m = S.items.length - i ∧ i ≤ S.items.length ∧ ∃ ρ' A', Ext K (ρ1 ++ [L]) (L2.upd H1 L (.lst [])) ρ' H' ∧ Rel K ρ' H' A' ∧ OutE K E ρ' H' (loopC S.ok g t f A1.length (wipeA s vs) (S.items.drop i) A') Q,
    ⟨_, rfl, Nat.zero_le _, _, _, .refl, RL, by simpa using h1.ext eL⟩, ?_⟩
  rintro i m H' ⟨rfl, hi, ρ', A', e2, R2, h2⟩
  have hs2 : SRel K ρ' H' (wipeA s vs) (L2.wipe σ vs) := (hs.wipes _).ext (e1.trans (eL.trans e2))
  have fL : ∀ {ρ3 : List Addr} {H3 : Hp}, Ext K ρ' H' ρ3 H3 → ρ3[A1.length]? = some L := fun e => (e2.trans e).at_ nL
  by_cases hl : i < S.items.length
  · obtain ⟨d, hd⟩ : ∃ d, S.items[i]? = some d := ⟨_, List.getElem?_eq_getElem hl⟩
    have ed : S.items.drop i = d :: S.items.drop (i + 1) := by
      rw [List.drop_eq_getElem_cons hl]
      rw [List.getElem?_eq_getElem hl] at hd
      cases hd; rfl
    rw [ed] at h2
    unfold loopC at h2
    split at h2
    · rename_i ok
      obtain ⟨go, yl⟩ := (J1 i ρ' H' A' (eL.trans e2) R2 ok).1 d hd
      refine .inr ⟨go, fun H3 => ∃ ρ3 A3, Ext K (ρ1 ++ [L]) (L2.upd H1 L (.lst [])) ρ3 H3 ∧ Rel K ρ3 H3 A3 ∧ OutE K E ρ3 H3 (loopC S.ok g t f A1.length (wipeA s vs) (S.items.drop (i + 1)) A3) Q, fun H3 h3 => ⟨_, by omega, rfl, hl, h3⟩, fun x H3 hy => ?_⟩
      obtain ⟨e3, R3, r3⟩ := yl x H3 hy
      have h2 := h2.ext e3
      rcases tt.det d (wipeA s vs) A' with eg | ⟨s1, eg⟩
      · rw [eg] at h2; exact h2.elim
      · rw [eg] at h2
        change Out K E (fun ρ H d v => Rp K ρ H d v) ρ' H3 ((t s1 A').bind fun b A2 => _) Q at h2
        refine tt.to ρ' H3 _ _ A' d x s1 _ (hs2.ext e3) r3 eg fun σ1 hs3 w => ⟨w.trans ?_, ρ', s1, A', hs3, R3, (Out.bind h2).mono fun b H4 ⟨ρ4, b', A4, _, e4, R4, r4, h4⟩ => ?_⟩
        · have ww : ∀ (us ws : List Nat), (∀ i ∈ us, i ∈ ws) → L2.wipe (L2.wipe σ us) ws = L2.wipe σ ws := by
            intro us
            induction us with
            | nil => intro ws _; rfl
            | cons u us ih =>
              intro ws hw
              show L2.wipe ((L2.wipe σ us).set u none) ws = _
              rw [wipe_set u none ws _ (hw u List.mem_cons_self)]
              exact ih ws fun i hi => hw i (List.mem_cons_of_mem _ hi)
          exact ww vs vs fun i h => h
        · cases r4
          cases b with
          | false =>
            rw [if_neg Bool.false_ne_true] at h4 ⊢
            exact ⟨ρ4, A4, e2.trans (e3.trans e4), R4, h4⟩
          | true =>
            rw [if_pos rfl] at h4 ⊢
            refine ⟨ρ4, s1, A4, hs3.ext e4, R4, (Out.bind h4).mono fun y H5 ⟨ρ5, d5, A5, _, e5, R5, r5, h5⟩ => ?_⟩
            have e35 := e3.trans (e4.trans e5)
            split at h5
            · rename_i acc eA
              split at h5
              · rename_i z
                obtain ⟨a, ha, us, q1, q2⟩ := R5.ob _ _ eA
                rw [fL e35] at ha; cases ha
                have u := upd_lst (ds := acc) R5 (fL e35) eA q1 (q2.append (RpL.one r5))
                exact ⟨us, q1, by rw [q2.length]; exact z, ρ5, _, e2.trans (e35.trans u.1), u.2, h5.ext u.1⟩
              · exact h5.elim
            · exact h5.elim
    · exact h2.elim
  · have ei : i = S.items.length := by omega
    have ed : S.items.drop i = [] := List.drop_eq_nil_of_le (by omega)
    rw [ed] at h2
    unfold loopC at h2
    split at h2
    · rename_i ok
      exact .inl ⟨(J1 i ρ' H' A' (eL.trans e2) R2 ok).2 (by omega) ei.symm, h2.now R2 ⟨L, fL .refl, rfl⟩⟩
    · exact h2.elim
abbrev Blk (X : Cx) (scope : Scope) (P : Cx → Prop) : Prop := ∀ (s : Shared) (H : Hp) (C : Addr) (cl : List (Str × Addr)) (fp : List Addr), P (X.blk s H scope (compEnvC scope cl C X.env) fp)
theorem ae_lc (own : List (Str × Nat)) (hc : X.calm = true) (hN : X.N.Nodup) (hi : AI X E tg iter src) (ok : BlkOk X.N X.env.scope scope own) (tt : Tgt X.K (own.map (·.2)) tgg g)
    (hg : Blk X scope fun Y => PG Y tg tgg) (ht : Blk X scope fun Y => ATs Y E ifs t) (he : Blk X scope fun Y => AE Y E elt f) (hs : ∀ x, foldedSetIterable iter X.env x = pure x := by intro _; rfl) :
    AE X E (.ListComp elt [⟨tg, iter, ifs, 0⟩] scope pos) (fLc src g t f (own.map (·.2))) := pe_mono (pe_lc hc hN hi ok hg ht he hs) fun _ _ _ => lc_read tt
/-- name = [..] -/
theorem as_setLc (own : List (Str × Nat)) {i : Nat} {y : Str} {py spos : Pos} (hc : X.calm = true) (hN : X.N.Nodup) (hi : AI X E tg iter src) (ok : BlkOk X.N X.env.scope scope own) (tt : Tgt X.K (own.map (·.2)) tgg g)
    (hg : Blk X scope fun Y => PG Y tg tgg) (ht : Blk X scope fun Y => ATs Y E ifs t) (he : Blk X scope fun Y => AE Y E elt f) (hsw : swapsWith (.ListComp elt [⟨tg, iter, ifs, 0⟩] scope pos) (some (.Name y py)) spos.line X.env = pure true)
    (hy : X.N[i]? = some y := by rfl) (hyl : X.env.scope.names.lookup y = some .local := by rfl) (hs : ∀ x, foldedSetIterable iter X.env x = pure x := by intro _; rfl) :
    AS X E (.Assign [.Name y py] (.ListComp elt [⟨tg, iter, ifs, 0⟩] scope pos) spos) (fSet (fLc src g t f (own.map (·.2))) i) := ps_mono (ps_setLc (tt := tAT X.K E t) (te := tA X.K E f) hc hN hy hyl hsw hi ok hg ht he hs) fun G σ H h => by
  refine lc_read (t := t) (f := f) tt ?_
  obtain ⟨ρ, s, A, hs, R, h⟩ := h
  exact ⟨ρ, s, A, hs, R, (Out.bindS h).mono fun x H1 ⟨ρ1, d, A1, _, e1, R1, r1, h1⟩ => h1 ρ1 H1 _ .refl R1 ((hs.ext e1).set i r1)⟩
end

/-! ## isinstance of a built-in type -/
def tyN (A : AH) : D → Option String
  | .non => some "NoneType"
  | .bl _ => some "bool"
  | .int _ => some "int"
  | .str _ => some "str"
  | .tup _ => some "tuple"
  | .ref i => match A[i]? with
    | some (.lst _) => some "list"
    | some (.frz _) => some "list"
    | some (.dic _) => some "dict"
    | _ => none
def isiD (T : String) (d : D) (A : AH) : Res D := match tyN A d with
  | some t => match kitB t T with
    | some b => .ok (.bl b) A
    | none => .bad
  | none => .bad
theorem tyN_ok {K : PySem.W.Frag} {ρ : List Addr} {H : Hp} {A : AH} {d : D} {v : V} {t : String} (R : Rel K ρ H A) (r : Rp K ρ H d v) (h : tyN A d = some t) : TyX K H v (.type t) := by
  cases d with
  | non => cases r; cases h; exact .base .non
  | bl b => cases r; cases h; exact .base (.bl b)
  | int i => cases r; cases h; exact .base (.int i)
  | str x => cases r; cases h; exact .base (.str x)
  | tup ds =>
    obtain ⟨a, xs, rfl, q, _⟩ := r
    cases h
    exact .base (.tup q)
  | ref i =>
    obtain ⟨a, h1, rfl⟩ := r
    obtain ⟨o, h2, h3⟩ := R.has h1
    unfold tyN at h
    simp only [h2] at h
    cases o with
    | lst xs => cases h; obtain ⟨us, e1, _⟩ := h3; exact .base (.lst e1)
    | frz xs =>
      cases h
      obtain ⟨us, e1, _⟩ := h3
      rcases e1 with ⟨o, e1⟩ | (e1 | ⟨o, e1⟩) | ⟨o, its, n, q1, q2, _⟩
      · exact .base (.frz e1)
      · cases e1
      · cases e1
      · exact .kList q1 q2
    | dic xs => cases h; obtain ⟨us, e1, _⟩ := h3; exact .base (.dK e1)
    | ftp _ => cases h
    | fdk _ => cases h
    | dtp _ => cases h
    | ins _ _ => cases h
section
variable {X : Cx} {E : XK} {a : Expr} {f : FE} {p p2 pos : Pos}
theorem ae_isi {T : String} {x : Str} (hg : Gl X "isinstance") (hm : X.mg "isinstance" = none) (hg2 : Gl X x) (hm2 : X.mg x = none) (hv2 : bootBuiltins x = some (.type T)) (ha : AE X E a f) (hn : x ≠ "__name__" := by decide) (hdb : (x == ("__debug__" : Str)) = false := by decide)
    (h1 : starEach [a, .Name x p2] X.env = (false, eval a X.env) :: starEach [.Name x p2] X.env := by rfl) (h2 : starEach [.Name x p2] X.env = (false, eval (.Name x p2) X.env) :: starEach [] X.env := by rfl)
    (hpl : (backTo pos (starEach [.Name x p2] X.env)).any (·.1) = false := by rfl) (hv : bootBuiltins "isinstance" = some (.builtin "isinstance") := by decide +kernel) :
    AE X E (.Call (.Name "isinstance" p) [a, .Name x p2] [] pos) (fUn (isiD T) f) :=
  pe_mono (pe_callB (call_isi (X := X)) hg hm hv (pa_cons ha (pa_cons (pe_bltn (v := .ty T) hg2 hm2 hv2 rfl hn hdb) pa_nil h2) h1) (by decide) (by decide) h1 hpl) fun σ H Q h => by
    obtain ⟨ρ, s, A, hs, R, h⟩ := h
    refine ⟨ρ, s, A, hs, R, (Out.bind h).mono fun v H1 ⟨ρ1, d, A1, _, e1, R1, r1, h1⟩ => ?_⟩
    unfold isiD at h1
    split at h1
    · rename_i t e2
      split at h1
      · rename_i b e3
        exact ⟨v, .ty T, .type t, .type T, b, rfl, .ty T, tyN_ok R1 r1 e2, kit_ty e3, h1.now R1 rfl⟩
      · exact h1.elim
    · exact h1.elim
end

/-! ## methods of built-in types -/
def rM (K : PySem.W.Frag) (E : XK) (g : D → FM) : V → List V → Hp → VK → Prop := fun x xs H Q => ∃ ρ A d ds, Rel K ρ H A ∧ Rp K ρ H d x ∧ RpL K ρ H ds xs ∧ OutE K E ρ H (g d ds A) Q
abbrev AMt (X : Cx) (E : XK) (id : String) (g : D → FM) : Prop := MtR X id (rM X.K E g)
def isTy (T : String) (d : D) (A : AH) : Bool := match d with
  | .str _ => T == "str"
  | d => (T == "list" && (rdL A d).isSome) || (T == "dict" && (rdM A d).isSome)
def fMt0 (T : String) (g : D → FM) (fo : FE) : FE := fun s A => (fo s A).bind fun d A1 => if isTy T d A1 = true then g d [] A1 else .bad
def fMt (T : String) (g : D → FM) (fo : FE) (fa : FA) : FE := fun s A => (fo s A).bind fun d A1 => if isTy T d A1 = true then (fa s A1).bind fun ds A2 => g d ds A2 else .bad
theorem isTy_ok {K : PySem.W.Frag} {ρ : List Addr} {H : Hp} {A : AH} {T : String} {d : D} {v : V} (R : Rel K ρ H A) (r : Rp K ρ H d v) (h : isTy T d A = true) : tyV K T v H := by
  cases d with
  | str x => cases r; exact eq_of_beq h
  | ref i =>
    have h : (((T == "list") && (rdL A (.ref i)).isSome) || ((T == "dict") && (rdM A (.ref i)).isSome)) = true := h
    rw [Bool.or_eq_true, Bool.and_eq_true, Bool.and_eq_true] at h
    rcases h with ⟨h1, h2⟩ | ⟨h1, h2⟩
    · obtain ⟨xs, e⟩ := Option.isSome_iff_exists.mp h2
      obtain ⟨a, us, rfl, q, _⟩ := rdL_ok R r e
      exact .inl ⟨eq_of_beq h1, us, q⟩
    · obtain ⟨xs, e⟩ := Option.isSome_iff_exists.mp h2
      obtain ⟨_, a, us, _, rfl, _, _, q, _⟩ := rdM_ok R r e
      exact .inr (.inr (.inl ⟨eq_of_beq h1, .inl ⟨us, q⟩⟩))
  | non => simp [isTy, rdL, rdM] at h
  | bl b => simp [isTy, rdL, rdM] at h
  | int b => simp [isTy, rdL, rdM] at h
  | tup b => simp [isTy, rdL, rdM] at h
section
variable {X : Cx} {E : XK} {o e : Expr} {es : List Expr} {fo : FE} {fa : FA} {g : D → FM} {name : Str} {apos cpos : Pos} {T id : String}
theorem ae_mt0 (pa : PlainAttrs T) (slot : Slot T name id) (hty : typeOf (.builtin id) = pure (.type "method_descriptor")) (hm : AMt X E id g) (ho : AE X E o fo)
    (hbase : attributeBase o name X.env (eval o X.env) = eval o X.env := by rfl) (hline : (apos.endLine == cpos.line) = true := by rfl) : AE X E (.Call (.Attribute o name apos) [] [] cpos) (fMt0 T g fo) :=
  pe_mono (pe_bm0 pa slot hty hm ho hbase hline) fun σ H Q h => by
    obtain ⟨ρ, s, A, hs, R, h⟩ := h
    refine ⟨ρ, s, A, hs, R, (Out.bind h).mono fun v H1 ⟨ρ1, d, A1, _, e1, R1, r1, h1⟩ => ?_⟩
    split at h1
    · rename_i z
      exact ⟨isTy_ok R1 r1 z, ρ1, A1, d, [], R1, r1, rfl, h1⟩
    · exact h1.elim
theorem ae_mt (pa : PlainAttrs T) (slot : Slot T name id) (hty : typeOf (.builtin id) = pure (.type "method_descriptor")) (hm : AMt X E id g) (ho : AE X E o fo) (ha : AA X E (e :: es) fa)
    (hbase : attributeBase o name X.env (eval o X.env) = eval o X.env := by rfl)
    (hfew : ((backTo cpos (starEach (e :: es) X.env)).all (fun x => !x.1) && (backToKw cpos (keywordEach [] X.env)).all (fun x => x.1.isSome)
      && decide ((e :: es).length + ([] : List Keyword).length + (if ([] : List Keyword).isEmpty then 0 else 1) < 30)) = true := by rfl)
    (hline : (apos.endLine == cpos.line) = true := by rfl) (hs : starEach (e :: es) X.env = (false, eval e X.env) :: starEach es X.env := by rfl) (hplain : (backTo cpos (starEach es X.env)).any (·.1) = false := by rfl) :
    AE X E (.Call (.Attribute o name apos) (e :: es) [] cpos) (fMt T g fo fa) := pe_mono (pe_bm pa slot hty hm ho ha hbase hfew hline hs hplain) fun σ H Q h => by
  obtain ⟨ρ, s, A, hs, R, h⟩ := h
  refine ⟨ρ, s, A, hs, R, (Out.bind h).mono fun v H1 ⟨ρ1, d, A1, _, e1, R1, r1, h1⟩ => ?_⟩
  split at h1
  · rename_i z
    exact ⟨isTy_ok R1 r1 z, ρ1, s, A1, hs.ext e1, R1, (Out.bind h1).mono fun vs H2 ⟨ρ2, ds, A2, _, e2, R2, r2, h2⟩ => ⟨ρ2, A2, d, ds, R2, r1.ext e2, r2, h2⟩⟩
  · exact h1.elim
def appendD (d : D) : FM
  | [y], A => match d with
    | .ref n => match A[n]? with
      | some (.lst xs) => if xs.length < sizeLine then .ok .non (A.set n (.lst (xs ++ [y]))) else .bad
      | _ => .bad
    | _ => .bad
  | _, _ => .bad
theorem mtm_mono {id : String} {r r' : V → List V → Hp → VK → Prop} (h : MtR X id r) (m : ∀ x xs H Q, r' x xs H Q → r x xs H Q) : MtR X id r' := fun pins s σ H x xs v us Q I rx rs q => h pins s σ H x xs v us Q I rx rs (m _ _ _ _ q)
theorem amt_append : AMt X E "list.append" appendD := mtm_mono mt_append fun x xs H Q h => by
  obtain ⟨ρ, A, d, ds, R, r, rs, h⟩ := h
  unfold appendD at h
  split at h
  · split at h
    · split at h
      · split at h
        · rename_i xs' eA z
          obtain ⟨a, ha, rfl⟩ := r
          obtain ⟨a', ha', us, q1, q2⟩ := R.ob _ _ eA
          rw [ha] at ha'; cases ha'
          obtain ⟨y, rfl, ry⟩ := rs.one_inv
          have u := upd_lst (ds := xs') R ha eA q1 (q2.append (RpL.one ry))
          exact ⟨a, us, y, rfl, rfl, q1, by rw [q2.length]; exact z, h ρ _ .non u.1 u.2 rfl⟩
        · exact h.elim
      · exact h.elim
    · exact h.elim
  · exact h.elim
def extendD (d : D) : FM
  | [e], A => match d with
    | .ref n => match A[n]?, muL A e with
      | some (.lst xs), some ys => if xs.length + ys.length ≤ sizeLine then .ok .non (A.set n (.lst (xs ++ ys))) else .bad
      | _, _ => .bad
    | _ => .bad
  | _, _ => .bad
theorem amt_extend : AMt X E "list.extend" extendD := mtm_mono mt_extend fun x xs H Q h => by
  obtain ⟨ρ, A, d, ds, R, r, rs, h⟩ := h
  unfold extendD at h
  split at h
  · split at h
    · split at h
      · split at h
        · rename_i xs' ys eA eY z
          obtain ⟨a, ha, rfl⟩ := r
          obtain ⟨a', ha', us, q1, q2⟩ := R.ob _ _ eA
          rw [ha] at ha'; cases ha'
          obtain ⟨y, rfl, ry⟩ := rs.one_inv
          obtain ⟨_, b, ws, _, rfl, _, _, q3, q4⟩ := muL_ok R ry eY
          have u := upd_lst (ds := xs') R ha eA q1 (q2.append q4)
          exact ⟨a, b, us, ws, rfl, rfl, q1, q3, by rw [q2.length, q4.length]; exact z, h ρ _ .non u.1 u.2 rfl⟩
        · exact h.elim
      · exact h.elim
    · exact h.elim
  · exact h.elim
def popD (d : D) : FM
  | [], A => match d with
    | .ref n => match A[n]? with
      | some (.lst xs) => match xs[xs.length - 1]? with
        | some y => .ok y (A.set n (.lst xs.dropLast))
        | none => .bad
      | _ => .bad
    | _ => .bad
  | _, _ => .bad
theorem RpL.dropLast {K : PySem.W.Frag} {ρ : List Addr} {H : Hp} {ds : List D} {xs : List V} (r : RpL K ρ H ds xs) : RpL K ρ H ds.dropLast xs.dropLast := by
  rw [List.dropLast_eq_take, List.dropLast_eq_take, r.length]
  exact r.take _
theorem amt_pop : AMt X E "list.pop" popD := mtm_mono mt_pop fun x xs H Q h => by
  obtain ⟨ρ, A, d, ds, R, r, rs, h⟩ := h
  unfold popD at h
  split at h
  · split at h
    · split at h
      · split at h
        · rename_i xs' eA _ y eY
          obtain ⟨a, ha, rfl⟩ := r
          obtain ⟨a', ha', us, q1, q2⟩ := R.ob _ _ eA
          rw [ha] at ha'; cases ha'
          obtain ⟨v, e1, e2⟩ := q2.get eY
          have u := upd_lst (ds := xs') R ha eA q1 q2.dropLast
          exact ⟨a, us, v, rfl, rs, q1, by rw [q2.length]; exact e1, h ρ _ v u.1 u.2 (e2.ext u.1)⟩
        · exact h.elim
      · exact h.elim
    · exact h.elim
  · exact h.elim
def insertD (d : D) : FM
  | [.int i, y], A => match d with
    | .ref n => match A[n]? with
      | some (.lst xs) => if xs.length < sizeLine ∧ 0 ≤ i ∧ i < 2 ^ 63 then .ok .non (A.set n (.lst (xs.take i.toNat ++ [y] ++ xs.drop i.toNat))) else .bad
      | _ => .bad
    | _ => .bad
  | _, _ => .bad
theorem amt_insert : AMt X E "list.insert" insertD := mtm_mono mt_insert fun x xs H Q h => by
  obtain ⟨ρ, A, d, ds, R, r, rs, h⟩ := h
  unfold insertD at h
  split at h
  · rename_i k y'
    split at h
    · split at h
      · split at h
        · rename_i xs' eA z
          obtain ⟨a, ha, rfl⟩ := r
          obtain ⟨a', ha', us, q1, q2⟩ := R.ob _ _ eA
          rw [ha] at ha'; cases ha'
          obtain ⟨i', y, rfl, ri, ry⟩ := rs.two_inv
          cases ri
          have u := upd_lst (ds := xs') R ha eA q1 (((q2.take k.toNat).append (RpL.one ry)).append (q2.drop k.toNat))
          exact ⟨a, us, k, y, rfl, rfl, q1, by rw [q2.length]; exact z.1, z.2.1, z.2.2, h ρ _ .non u.1 u.2 rfl⟩
        · exact h.elim
      · exact h.elim
    · exact h.elim
  · exact h.elim
end

/-! ## f-strings -/
def fmtD (d : D) (A : AH) : Res D := match d with
  | .str x => if x.length ≤ sizeLine then .ok (.str x) A else .bad
  | .int i => if i.natAbs.log2 < 1920 then .ok (.str (toString i)) A else .bad
  | _ => .bad
def jStrs : List FE → Str → FE
  | [], acc, _, A => .ok (.str acc) A
  | f :: fs, acc, s, A => (f s A).bind fun d A1 => match d with
    | .str y => if (acc ++ y).length ≤ sizeLine then jStrs fs (acc ++ y) s A1 else .bad
    | _ => .bad
inductive AJ (X : Cx) (E : XK) : List Expr → List FE → Prop where
  | nil : AJ X E [] []
  | cons {e : Expr} {f : FE} {es : List Expr} {fs : List FE} (h : AE X E e f) (r : AJ X E es fs) : AJ X E (e :: es) (f :: fs)
section
variable {X : Cx} {E : XK} {e v1 v2 : Expr} {rest : List Expr} {f : FE} {fs : List FE} {pos : Pos}
theorem ae_fmt (h : AE X E e f) : AE X E (.FormattedValue e (-1) none pos) (fUn fmtD f) := pe_mono (pe_fmt h) fun σ H Q h => by
  obtain ⟨ρ, s, A, hs, R, h⟩ := h
  refine ⟨ρ, s, A, hs, R, (Out.bind h).mono fun v H1 ⟨ρ1, d, A1, _, e1, R1, r1, h1⟩ => ?_⟩
  unfold fmtD at h1
  split at h1
  · split at h1
    · rename_i z; cases r1; exact .inl ⟨_, rfl, z, h1.now R1 rfl⟩
    · exact h1.elim
  · split at h1
    · rename_i z; cases r1; exact .inr ⟨_, rfl, z, h1.now R1 rfl⟩
    · exact h1.elim
  · exact h1.elim
theorem AJ.pj (h : AJ X E rest fs) : PJ X rest (fs.map (tA X.K E)) := by
  induction h with
  | nil => exact .nil
  | cons h _ ih => exact .cons h ih
theorem js_read {K : PySem.W.Frag} {σ : L2.St} {Q : VK} : ∀ (fs : List FE) (acc : Str) (ρ : List Addr) (s : ASt) (A : AH) (H : Hp), SRel K ρ H s σ → Rel K ρ H A → OutE K E ρ H (jStrs fs acc s A) Q → tJs (fs.map (tA K E)) acc σ H fun out H1 => Q (.str out) H1
  | [], acc, ρ, s, A, H, hs, R, h => Out.now h R rfl
  | f :: fs, acc, ρ, s, A, H, hs, R, h => by
    refine ⟨ρ, s, A, hs, R, (Out.bind h).mono fun v H1 ⟨ρ1, d, A1, _, e1, R1, r1, h1⟩ => ?_⟩
    split at h1
    · split at h1
      · rename_i z
        cases r1
        exact ⟨_, rfl, z, js_read fs _ ρ1 s A1 H1 (hs.ext e1) R1 h1⟩
      · exact h1.elim
    · exact h1.elim
theorem ae_joined (h : AJ X E (v1 :: v2 :: rest) fs) : AE X E (.JoinedStr (v1 :: v2 :: rest) pos) (jStrs fs Str.empty) := pe_mono (pe_joined h.pj) fun σ H Q h => by
  obtain ⟨ρ, s, A, hs, R, h⟩ := h
  exact js_read fs _ ρ s A H hs R h
theorem ae_joined1 (h : AE X E e f) : AE X E (.JoinedStr [e] pos) f := pe_joined1 h
end

/-! ## dict displays with text keys and int keys -/
def fDict (ks : List Key) (fs : FA) : FE := fun s A => (fs s A).bind fun ds A1 => if ds.length = ks.length then alloc (.dic (ks.zip ds)) A1 else .bad

/-! ## a def of the text -/
def spM (K : PySem.W.Frag) (n : Nat) (m : FM) : Sp := fun vs H Q _ => ∃ ρ A ds, Rel K ρ H A ∧ RpL K ρ H ds vs ∧ ds.length = n ∧ OutE K E0 ρ H (m ds A) Q
/-- the def at f does what m says, by at most k calls within one another -/
abbrev ADef (P : Program) (w : World) (K : PySem.W.Frag) (mg : Str → Option Value) (base : Heap) (k : Nat) (f : Addr) (fd : FuncData) (ps : List Str) (m : FM) : Prop := FnOk P w K mg base CX0 k f fd ps (spM K ps.length m)
/-- the parameters' slots, then the other names' -/
def args (n : Nat) (ds : List D) : ASt := ds.map some ++ List.replicate (n - ds.length) none
def finish (r : Res Fl) : Res D := match r with
  | .ok (.rt d) A => .ok d A
  | .ok (.nx _) A => .ok .non A
  | .ok _ _ => .bad
  | .exc C fs A => .exc C fs A
  | .bad => .bad
/-- a body as a function -/
def body (np n : Nat) (f : FS) : FM := fun ds A => if ds.length = np then finish (f (args n ds) A) else .bad
section
variable {P : Program} {w : World} {K : PySem.W.Frag} {mg : Str → Option Value} {base : Heap}
theorem args_rel {ρ : List Addr} {H : Hp} {ds : List D} {vs : List V} (N : List Str) (r : RpL K ρ H ds vs) : SRel K ρ H (args N.length ds) (L2.start N vs) := by
  refine ⟨by simp [args, L2.start, r.length], fun i d h => ?_⟩
  unfold args at h
  by_cases hi : i < ds.length
  · rw [List.getElem?_append_left (by simpa using hi), List.getElem?_map] at h
    cases e : ds[i]? with
    | none => rw [e] at h; cases h
    | some d' =>
      rw [e] at h
      cases h
      obtain ⟨v, q1, q2⟩ := r.get e
      refine ⟨v, ?_, q2⟩
      unfold L2.start
      rw [List.getElem?_append_left (by simpa [r.length] using hi), List.getElem?_map, q1]
      rfl
  · rw [List.getElem?_append_right (by simpa using hi), List.getElem?_replicate] at h
    split at h <;> cases h
theorem adef {x qual : Str} {st : Stmt} {f : Addr} {fd : FuncData} {N ps : List Str} {k : Nat} {p : FS} (F : Fun K x qual st f fd) (S : FnScope N ps (defScope st))
    (hb : ∀ (cdv : Value) (A : Around) (outer : List Env) (s : Shared) (H : Hp) (E : XK), Room k (A.deeper (envOfC qual (defScope st) s.heap.objs.size f cdv)) →
      ASs (cxOf CX0 P w K mg base N qual (defScope st) f cdv A outer s H E).nox E0 (defBody st) p) : ADef P w K mg base (k + 1) f fd ps (body ps.length N.length p) := by
  refine F.ok S (fun vs H Q E h => ?_) (fun cdv A outer s H vs Q E hr h => ?_)
  · obtain ⟨ρ, A, ds, R, r, z, h⟩ := h
    rw [r.length, z]
  · obtain ⟨ρ, A', ds, R, r, z, h⟩ := h
    refine ⟨_, hb cdv A outer s H E hr, ρ, args N.length ds, A', args_rel N r, R, ?_⟩
    unfold body at h
    rw [if_pos z] at h
    unfold finish at h
    show SOut K E0 ρ H (p (args N.length ds) A') _
    cases e : p (args N.length ds) A' with
    | bad => rw [e] at h; exact h
    | exc C fs A1 => rw [e] at h; exact h
    | ok fl A1 =>
      rw [e] at h
      cases fl with
      | nx s => exact fun ρ1 H1 σ1 e1 R1 _ => h ρ1 H1 .non e1 R1 rfl
      | rt d => exact h
      | bk s => exact h.elim
      | ct s => exact h.elim
/-- a def does the same by another function that has as much to say -/
theorem ADef.imp {k : Nat} {f : Addr} {fd : FuncData} {ps : List Str} {m m' : FM} (h : ADef P w K mg base k f fd ps m) (e : ∀ ρ H ds A Q, Rel K ρ H A → ds.length = ps.length → OutE K E0 ρ H (m' ds A) Q → OutE K E0 ρ H (m ds A) Q) : ADef P w K mg base k f fd ps m' :=
  FnOk.imp h fun vs H Q E ⟨ρ, A, ds, R, r, z, q⟩ => ⟨ρ, A, ds, R, r, z, e ρ H ds A Q R z q⟩
end
section
variable {X : Cx} {k n : Nat} {f : Addr} {fd : FuncData} {ps : List Str} {m : FM} {x : Str} {p pos : Pos} {e : Expr} {es : List Expr} {fs : FA}
def fOwn (n : Nat) (m : FM) (fs : FA) : FE := fun s A => (fs s A).bind fun ds A1 => if ds.length = n then m ds A1 else .bad
theorem own_ {K : PySem.W.Frag} {σ : L2.St} {H : Hp} {Q : VK} {n : Nat} (h : tA K E0 (fOwn n m fs) σ H Q) : tCall (spM K n m) [] E0 (tAA K E0 fs) σ H Q := by
  obtain ⟨ρ, s, A, hs, R, h⟩ := h
  refine ⟨ρ, s, A, hs, R, (Out.bind h).mono fun x H1 ⟨ρ1, d, A1, _, e1, R1, r1, h1⟩ => ?_⟩
  split at h1
  · rename_i z
    exact ⟨ρ1, A1, d, R1, by rw [List.append_nil]; exact r1, z, h1⟩
  · exact h1.elim
theorem ae_call (F : ADef X.prog X.w X.K X.mg X.base k f fd ps m) (hr : Room k X.A) (hg : Gl X x) (hm : X.mg x = some (.ref f)) (hk : PySem.W.keepIn X.K (.ref f) = true) (hb : Binds X.K fd ps [])
    (ha : AA X E0 (e :: es) fs) (hdb : (x == ("__debug__" : Str)) = false := by decide) (he : starEach (e :: es) X.env = (false, eval e X.env) :: starEach es X.env := by rfl) (hpl : (backTo pos (starEach es X.env)).any (·.1) = false := by rfl) (hn : ps.length = n := by rfl) :
    AE X E0 (.Call (.Name x p) (e :: es) [] pos) (fOwn n m fs) := pe_mono (pe_call F hr hg hm hk hb .nil pass0 ha hdb he hpl) fun _ _ _ h => own_ (by rw [hn]; exact h)
theorem ae_call0 (F : ADef X.prog X.w X.K X.mg X.base k f fd ps m) (hr : Room k X.A) (hg : Gl X x) (hm : X.mg x = some (.ref f)) (hk : PySem.W.keepIn X.K (.ref f) = true) (hb : Binds X.K fd ps [])
    (hdb : (x == ("__debug__" : Str)) = false := by decide) (hn : ps.length = n := by rfl) :
    AE X E0 (.Call (.Name x p) [] [] pos) (fOwn n m fNil) := pe_mono (pe_call0 F hr hg hm hk hb .nil pass0 hdb) fun σ H Q h => by
  rw [← hn] at h
  obtain ⟨ρ, s, A, hs, R, h⟩ := own_ h
  exact Out.now h R rfl
end
end Ab

namespace Ab
open PySem PySem.Spec PyProof.Rows L2
open scoped Classical

/-! ## tuple(range(..)), list(range(..)) -/
def rgD (f1 f2 : FE) (k : Int → Int → AH → Res D) : FE := fun s A => (f1 s A).bind fun d A1 => (f2 s A1).bind fun e A2 => match d, e with
  | .int i, .int j => k i j A2
  | _, _ => .bad
noncomputable def rgTup (i j : Int) (A : AH) : Res D := if RgOk i j then .ok (.tup (rngL i (j - i).toNat)) A else .bad
noncomputable def rgLst (i j : Int) (A : AH) : Res D := if RgOk i j then alloc (.lst (rngL i (j - i).toNat)) A else .bad
theorem rng_rel {K : PySem.W.Frag} {ρ : List Addr} {H : Hp} (i j : Int) : RpL K ρ H (rngL i (j - i).toNat) (rgV i j) := by
  unfold rngL rgV
  have all : ∀ l : List Nat, RpL K ρ H (l.map fun k => .int (i + (k : Nat))) (l.map fun k => V.int (i + (k : Nat))) := by
    intro l
    induction l with
    | nil => rfl
    | cons k l ih => exact ⟨_, _, rfl, rfl, ih⟩
  exact all _
section
variable {X : Cx} {E : XK} {a b : Expr} {f g : FE} {p p2 pos pos2 : Pos}
theorem rg2_ {K : PySem.W.Frag} {σ : L2.St} {H : Hp} {Q : VK} {k : Int → Int → AH → Res D} {R : Int → Int → Hp → Prop} (h : tA K E (rgD f g k) σ H Q) (m : ∀ i j ρ A H, Rel K ρ H A → OutE K E ρ H (k i j A) Q → R i j H) : tRg2 (tA K E f) (tA K E g) σ H R := by
  obtain ⟨ρ, s, A, hs, Rl, h⟩ := h
  refine ⟨ρ, s, A, hs, Rl, (Out.bind h).mono fun x H1 ⟨ρ1, d, A1, _, e1, R1, r1, h1⟩ => ⟨ρ1, s, A1, hs.ext e1, R1, (Out.bind h1).mono fun y H2 ⟨ρ2, d2, A2, _, e2, R2, r2, h2⟩ => ?_⟩⟩
  split at h2
  · cases r1; cases r2
    exact ⟨_, _, rfl, rfl, m _ _ ρ2 A2 H2 R2 h2⟩
  · exact h2.elim
theorem ae_tupRg2 (hc : X.calm = true) (hg : Gl X "tuple") (hm : X.mg "tuple" = none) (hg2 : Gl X "range") (hm2 : X.mg "range" = none) (ha : AE X E a f) (hb : AE X E b g) (na : starEach [a, b] X.env = (false, eval a X.env) :: starEach [b] X.env := by rfl)
    (nb : starEach [b] X.env = (false, eval b X.env) :: starEach [] X.env := by rfl) (hp : (backTo pos2 (starEach [b] X.env)).any (·.1) = false := by rfl) (nr : starEach [.Call (.Name "range" p2) [a, b] [] pos2] X.env = (false, eval (.Call (.Name "range" p2) [a, b] [] pos2) X.env) :: starEach [] X.env := by rfl) :
    AE X E (.Call (.Name "tuple" p) [.Call (.Name "range" p2) [a, b] [] pos2] [] pos) (rgD f g rgTup) := pe_mono (pe_tupRg hc hg hm (prg_2 hg2 hm2 ha hb na nb hp) nr) fun σ H Q h => rg2_ h fun i j ρ A H R h => by
  unfold rgTup at h
  split at h
  · rename_i z
    exact ⟨z, new_tup R (rng_rel i j) h⟩
  · exact h.elim
theorem ae_lstRg2 (hc : X.calm = true) (hg : Gl X "list") (hm : X.mg "list" = none) (hg2 : Gl X "range") (hm2 : X.mg "range" = none) (ha : AE X E a f) (hb : AE X E b g) (na : starEach [a, b] X.env = (false, eval a X.env) :: starEach [b] X.env := by rfl)
    (nb : starEach [b] X.env = (false, eval b X.env) :: starEach [] X.env := by rfl) (hp : (backTo pos2 (starEach [b] X.env)).any (·.1) = false := by rfl) (nr : starEach [.Call (.Name "range" p2) [a, b] [] pos2] X.env = (false, eval (.Call (.Name "range" p2) [a, b] [] pos2) X.env) :: starEach [] X.env := by rfl) :
    AE X E (.Call (.Name "list" p) [.Call (.Name "range" p2) [a, b] [] pos2] [] pos) (rgD f g rgLst) := pe_mono (pe_listRg hc hg hm (prg_2 hg2 hm2 ha hb na nb hp) nr) fun σ H Q h => rg2_ h fun i j ρ A H R h => by
  unfold rgLst at h
  split at h
  · rename_i z
    exact ⟨z, new_lst R (rng_rel i j) h⟩
  · exact h.elim
theorem rg1_ {K : PySem.W.Frag} {σ : L2.St} {H : Hp} {Q : VK} {k : Int → Int → AH → Res D} {R : Int → Int → Hp → Prop} (h : tA K E (rgD (fC (.int 0)) f k) σ H Q) (m : ∀ i j ρ A H, Rel K ρ H A → OutE K E ρ H (k i j A) Q → R i j H) : tRg1 (tA K E f) σ H R := by
  obtain ⟨ρ, s, A, hs, Rl, h⟩ := h
  refine ⟨ρ, s, A, hs, Rl, (Out.bind (show OutE K E ρ H ((f s A).bind fun e A2 => match D.int 0, e with | .int i, .int j => k i j A2 | _, _ => .bad) Q from h)).mono fun x H1 ⟨ρ1, d, A1, _, e1, R1, r1, h1⟩ => ?_⟩
  split at h1
  · rename_i i j e0 e1
    cases e0
    cases r1
    exact ⟨_, rfl, m _ _ ρ1 A1 H1 R1 h1⟩
  · exact h1.elim
theorem ae_tupRg1 (hc : X.calm = true) (hg : Gl X "tuple") (hm : X.mg "tuple" = none) (hg2 : Gl X "range") (hm2 : X.mg "range" = none) (ha : AE X E a f) (na : starEach [a] X.env = (false, eval a X.env) :: starEach [] X.env := by rfl)
    (nr : starEach [.Call (.Name "range" p2) [a] [] pos2] X.env = (false, eval (.Call (.Name "range" p2) [a] [] pos2) X.env) :: starEach [] X.env := by rfl) :
    AE X E (.Call (.Name "tuple" p) [.Call (.Name "range" p2) [a] [] pos2] [] pos) (rgD (fC (.int 0)) f rgTup) := pe_mono (pe_tupRg hc hg hm (prg_1 hg2 hm2 ha na) nr) fun σ H Q h => rg1_ h fun i j ρ A H R h => by
  unfold rgTup at h
  split at h
  · rename_i z
    exact ⟨z, new_tup R (rng_rel i j) h⟩
  · exact h.elim
theorem ae_lstRg1 (hc : X.calm = true) (hg : Gl X "list") (hm : X.mg "list" = none) (hg2 : Gl X "range") (hm2 : X.mg "range" = none) (ha : AE X E a f) (na : starEach [a] X.env = (false, eval a X.env) :: starEach [] X.env := by rfl)
    (nr : starEach [.Call (.Name "range" p2) [a] [] pos2] X.env = (false, eval (.Call (.Name "range" p2) [a] [] pos2) X.env) :: starEach [] X.env := by rfl) :
    AE X E (.Call (.Name "list" p) [.Call (.Name "range" p2) [a] [] pos2] [] pos) (rgD (fC (.int 0)) f rgLst) := pe_mono (pe_listRg hc hg hm (prg_1 hg2 hm2 ha na) nr) fun σ H Q h => rg1_ h fun i j ρ A H R h => by
  unfold rgLst at h
  split at h
  · rename_i z
    exact ⟨z, new_lst R (rng_rel i j) h⟩
  · exact h.elim
end

/-! ## enumerate, zip -/
theorem enumL_get : ∀ (k i : Nat) (ds : List D), (enumL k ds)[i]? = (ds[i]?).map fun d => .tup [.int ((k + i : Nat)), d]
  | k, i, [] => by simp [enumL]
  | k, 0, d :: ds => by simp [enumL]
  | k, i + 1, d :: ds => by
    show (enumL (k + 1) ds)[i]? = (ds[i]?).map _
    rw [enumL_get (k + 1) i ds]
    congr 1
    funext d
    rw [show k + 1 + i = k + (i + 1) by omega]
theorem enumL_len : ∀ (k : Nat) (ds : List D), (enumL k ds).length = ds.length
  | k, [] => rfl
  | k, d :: ds => by simp [enumL, enumL_len (k + 1) ds]
theorem zipD_get : ∀ (i : Nat) (as bs : List D) (d : D), (zipD as bs)[i]? = some d ↔ ∃ a b, as[i]? = some a ∧ bs[i]? = some b ∧ d = .tup [a, b]
  | i, [], bs, d => by simp [zipD]
  | i, a :: as, [], d => by simp [zipD]
  | 0, a :: as, b :: bs, d => by simp [zipD, eq_comm]
  | i + 1, a :: as, b :: bs, d => by
    show (zipD as bs)[i]? = some d ↔ _
    rw [zipD_get i as bs d]
    simp
theorem zipD_len : ∀ (as bs : List D), (zipD as bs).length = min as.length bs.length
  | [], bs => by simp [zipD]
  | a :: as, [] => by simp [zipD]
  | a :: as, b :: bs => by simp [zipD, zipD_len as bs, Nat.succ_min_succ]
noncomputable def fZip (f g : FE) : FI := fun s A => (f s A).bind fun d A1 => (g s A1).bind fun e A2 => match d, e with
  | .tup xs, .tup ys => .ok ⟨zipD xs ys, yes⟩ A2
  | .ref m, .ref n => match rdL A2 (.ref m), rdL A2 (.ref n) with
    | some xs, some ys => .ok ⟨zipD xs ys, fun A' => rdL A' (.ref m) = some xs ∧ rdL A' (.ref n) = some ys⟩ A2
    | _, _ => .bad
  | _, _ => .bad
section
variable {K : PySem.W.Frag} {ρ : List Addr} {H : Hp}
theorem pair_new {ρ' : List Addr} {H' : Hp} {A : AH} {T : Addr} {x y : V} {d e : D} (R : Rel K ρ' H' A) (hT : H' T = none) (r1 : Rp K ρ' H' d x) (r2 : Rp K ρ' H' e y) :
    Ext K ρ' H' ρ' (L2.upd H' T (.tup [x, y])) ∧ Rel K ρ' (L2.upd H' T (.tup [x, y])) A ∧ Rp K ρ' (L2.upd H' T (.tup [x, y])) (.tup [d, e]) (.ref T) := by
  have ex : Ext K ρ' H' ρ' (L2.upd H' T (.tup [x, y])) := Ext.new0 hT
  exact ⟨ex, R.new0 hT, T, [x, y], rfl, upd_same, x, [y], rfl, r1.ext ex, y, [], rfl, r2.ext ex, rfl⟩
theorem ite_rel {a : Addr} {n : Nat} {ds : List D} (ha : ρ[n]? = some a) : ItRel K (Ite K a) ρ H ⟨enumL 0 ds, fun A => rdL A (.ref n) = some ds⟩ := fun i ρ' H' A e R ok => by
  have ha' := e.at_ ha
  obtain ⟨b, xs, eb, h', r'⟩ := rdL_ok R (show Rp K ρ' H' (.ref n) (.ref a) from ⟨a, ha', rfl⟩) ok
  cases eb
  refine ⟨fun d hd => ?_, fun hl _ => ⟨xs, h', by rw [r'.length]; rw [show (Src.items ⟨enumL 0 ds, fun A => rdL A (.ref n) = some ds⟩).length = ds.length from enumL_len 0 ds] at hl; exact hl⟩⟩
  have hd : (enumL 0 ds)[i]? = some d := hd
  rw [enumL_get] at hd
  cases ei : ds[i]? with
  | none => rw [ei] at hd; cases hd
  | some d0 =>
    rw [ei] at hd
    cases hd
    obtain ⟨v, q1, q2⟩ := r'.get ei
    refine ⟨⟨xs, v, h', q1⟩, fun x H2 hy => ?_⟩
    obtain ⟨T, w, rfl, hT, rfl, fv⟩ := hy
    have := fv _ h'
    rw [q1] at this; cases this
    rw [Nat.zero_add]
    exact pair_new R hT rfl q2
theorem itz_rel {a b : Addr} {m n : Nat} {ds es : List D} (ha : ρ[m]? = some a) (hb : ρ[n]? = some b) : ItRel K (Itz K a b) ρ H ⟨zipD ds es, fun A => rdL A (.ref m) = some ds ∧ rdL A (.ref n) = some es⟩ := fun i ρ' H' A e R ok => by
  obtain ⟨c, xs, eb, h1, r1⟩ := rdL_ok R (show Rp K ρ' H' (.ref m) (.ref a) from ⟨a, e.at_ ha, rfl⟩) ok.1
  cases eb
  obtain ⟨c, ys, eb, h2, r2⟩ := rdL_ok R (show Rp K ρ' H' (.ref n) (.ref b) from ⟨b, e.at_ hb, rfl⟩) ok.2
  cases eb
  refine ⟨fun d hd => ?_, fun hl _ => ⟨xs, ys, h1, h2, by
    have hl : (zipD ds es).length ≤ i := hl
    rw [r1.length, r2.length]; rw [zipD_len] at hl; omega⟩⟩
  obtain ⟨d1, d2, q1, q2, rfl⟩ := (zipD_get i ds es d).mp hd
  obtain ⟨v, q3, q4⟩ := r1.get q1
  obtain ⟨w, q5, q6⟩ := r2.get q2
  refine ⟨⟨xs, ys, v, w, h1, h2, q3, q5⟩, fun x H2 hy => ?_⟩
  obtain ⟨T, x1, y1, rfl, hT, rfl, f1, f2⟩ := hy
  have z1 := f1 _ h1
  have z2 := f2 _ h2
  rw [q3] at z1; cases z1
  rw [q5] at z2; cases z2
  exact pair_new R hT q4 q6
theorem itzT_rel {a b : Addr} {xs ys : List V} {ds es : List D} (h1 : H a = some (.tup xs)) (r1 : RpL K ρ H ds xs) (h2 : H b = some (.tup ys)) (r2 : RpL K ρ H es ys) : ItRel K (RZ.ItzT K a b) ρ H ⟨zipD ds es, yes⟩ := fun i ρ' H' A e R ok => by
  have h1 : SqT K H' a xs := .of (e.gr _ _ h1)
  have h2 : SqT K H' b ys := .of (e.gr _ _ h2)
  have r1 := r1.ext e
  have r2 := r2.ext e
  refine ⟨fun d hd => ?_, fun hl _ => ⟨xs, ys, h1, h2, by
    have hl : (zipD ds es).length ≤ i := hl
    rw [r1.length, r2.length]; rw [zipD_len] at hl; omega⟩⟩
  obtain ⟨d1, d2, q1, q2, rfl⟩ := (zipD_get i ds es d).mp hd
  obtain ⟨v, q3, q4⟩ := r1.get q1
  obtain ⟨w, q5, q6⟩ := r2.get q2
  refine ⟨⟨xs, ys, v, w, h1, h2, q3, q5⟩, fun x H2 hy => ?_⟩
  obtain ⟨T, x1, y1, rfl, hT, rfl, f1, f2⟩ := hy
  have z1 := f1 _ h1
  have z2 := f2 _ h2
  rw [q3] at z1; cases z1
  rw [q5] at z2; cases z2
  exact pair_new R hT q4 q6
end
section
variable {X : Cx} {E : XK} {e e2 : Expr} {f g : FE} {p pos tpos : Pos} {elts : List Expr} {kk : Nat}
theorem ai_enum (hg : Gl X "enumerate") (hm : X.mg "enumerate" = none) (he : AE X E e f) (h1 : starEach [e] X.env = (false, eval e X.env) :: starEach [] X.env := by rfl) : AI X E (.Tuple elts kk tpos) (.Call (.Name "enumerate" p) [e] [] pos) (fEnum f) := pi_mono (pi_enum (hs := h1) hg hm (aa_cons he aa_nil h1)) fun σ H Q h => by
  obtain ⟨ρ, s, A, hs, R, h⟩ := h
  have ef : fEnum f s A = (fCons f fNil s A).bind fun ds A1 => match ds with
      | [d] => match rdL A1 d with
        | some ds => .ok ⟨enumL 0 ds, fun A' => rdL A' d = some ds⟩ A1
        | none => .bad
      | _ => .bad := by
    unfold fEnum fCons fNil
    cases f s A with
    | bad => rfl
    | exc _ _ _ => rfl
    | ok d A1 => rfl
  rw [ef] at h
  refine ⟨ρ, s, A, hs, R, (Out.bindI h).mono fun xs H1 ⟨ρ1, ds, A1, _, e1, R1, r1, h1⟩ => ?_⟩
  split at h1
  · split at h1
    · rename_i d _ _ ds' e4
      obtain ⟨x, rfl, r2⟩ := r1.one_inv
      cases d with
      | ref n =>
        obtain ⟨a, us, rfl, q1, q2⟩ := rdL_ok R1 r2 e4
        obtain ⟨b, hb, eb⟩ := r2
        cases eb
        exact ⟨a, us, rfl, q1, h1 ρ1 H1 _ .refl R1 (ite_rel hb)⟩
      | _ => cases e4
    · exact h1.elim
  · exact h1.elim
theorem ai_zip (hg : Gl X "zip") (hm : X.mg "zip" = none) (he : AE X E e f) (he2 : AE X E e2 g) (h1 : starEach [e, e2] X.env = (false, eval e X.env) :: starEach [e2] X.env := by rfl) (h2 : starEach [e2] X.env = (false, eval e2 X.env) :: starEach [] X.env := by rfl) (hpl : (backTo pos (starEach [e2] X.env)).any (·.1) = false := by rfl) :
    AI X E (.Tuple elts kk tpos) (.Call (.Name "zip" p) [e, e2] [] pos) (fZip f g) := pi_mono (RZ.pi_zipA (hs := h1) (hpl := hpl) hg hm (aa_cons he (aa_cons he2 aa_nil h2) h1)) fun σ H Q h => by
  obtain ⟨ρ, s, A, hs, R, h⟩ := h
  have ef : fZip f g s A = (fCons f (fCons g fNil) s A).bind fun ds A2 => match ds with
      | [.tup xs, .tup ys] => .ok ⟨zipD xs ys, yes⟩ A2
      | [.ref m, .ref n] => match rdL A2 (.ref m), rdL A2 (.ref n) with
        | some xs, some ys => .ok ⟨zipD xs ys, fun A' => rdL A' (.ref m) = some xs ∧ rdL A' (.ref n) = some ys⟩ A2
        | _, _ => .bad
      | _ => .bad := by
    unfold fZip fCons
    cases f s A with
    | bad => rfl
    | exc _ _ _ => rfl
    | ok d A1 =>
      show (g s A1).bind _ = Res.bind (Res.bind (fCons g fNil s A1) _) _
      unfold fCons fNil
      cases g s A1 with
      | bad => rfl
      | exc _ _ _ => rfl
      | ok d' A2 => cases d <;> cases d' <;> rfl
  rw [ef] at h
  refine ⟨ρ, s, A, hs, R, (Out.bindI h).mono fun xs H1 ⟨ρ1, ds, A1, _, e1, R1, r1, h1⟩ => ?_⟩
  split at h1
  · obtain ⟨x, y, rfl, r2, r3⟩ := r1.two_inv
    obtain ⟨a, us, rfl, q1, q2⟩ := r2
    obtain ⟨b, ws, rfl, q3, q4⟩ := r3
    exact ⟨a, b, us, ws, rfl, .inr ⟨.of q1, .of q3, h1 ρ1 H1 _ .refl R1 (itzT_rel q1 q2 q3 q4)⟩⟩
  · split at h1
    · rename_i m n _ xs' ys' e4 e5
      obtain ⟨x, y, rfl, r2, r3⟩ := r1.two_inv
      obtain ⟨a, us, rfl, q1, q2⟩ := rdL_ok R1 r2 e4
      obtain ⟨b, ws, rfl, q3, q4⟩ := rdL_ok R1 r3 e5
      obtain ⟨a', ha, ea⟩ := r2
      cases ea
      obtain ⟨b', hb, eb⟩ := r3
      cases eb
      exact ⟨a, b, us, ws, rfl, .inl ⟨q1, q3, h1 ρ1 H1 _ .refl R1 (itz_rel ha hb)⟩⟩
    · exact h1.elim
  · exact h1.elim
end

/-! ## dict displays: the new dict is a cell from the start -/
abbrev FP := ASt → AH → Res (List (Key × D))
def fPs : List (FE × FE) → FP
  | [], _, A => .ok [] A
  | (k, v) :: r, s, A => (k s A).bind fun kd A1 => (v s A1).bind fun vd A2 => match keyOf kd with
    | some key => (fPs r s A2).bind fun ps A3 => .ok ((key, vd) :: ps) A3
    | none => .bad
def mergeD (kvs more : List (Key × D)) : List (Key × D) := more.foldl (fun acc kv => setK acc kv.1 kv.2) kvs
def fDisp (ps : List (FE × FE)) : FE := fun s A => (fPs ps s (A ++ [.dic []])).bind fun kds A1 => match A1[A.length]? with
  | some (.dic []) => if kds.length ≤ 15 then .ok (.ref A.length) (A1.set A.length (.dic (mergeD [] kds))) else .bad
  | _ => .bad
def fDict0 : FE := fun _ A => alloc (.dic []) A
inductive APs (X : Cx) (E : XK) (pos : Pos) : List (Option Expr) → List Expr → List (FE × FE) → Prop where
  | nil : APs X E pos [] [] []
  | cons {k v : Expr} {f g : FE} {ks : List (Option Expr)} {vs : List Expr} {fs : List (FE × FE)} (h : AE X E k f) (h' : AE X E v g) (r : APs X E pos ks vs fs) : APs X E pos (some k :: ks) (v :: vs) ((f, g) :: fs)
section
variable {X : Cx} {E : XK} {pos : Pos} {ks : List (Option Expr)} {vs : List Expr} {fs : List (FE × FE)}
theorem APs.pp (h : APs X E pos ks vs fs) : PPs X pos ks vs (fs.map fun p => (tA X.K E p.1, tA X.K E p.2)) := by
  induction h with
  | nil => exact pps_nil
  | cons h h' _ ih => exact pps_cons h h' ih
theorem mergeD_ok {K : PySem.W.Frag} {ρ : List Addr} {H : Hp} : ∀ {more : List (Key × D)} {mu : List (Key × V)} {kvs : List (Key × D)} {us : List (Key × V)}, RpK K ρ H more mu → RpK K ρ H kvs us → RpK K ρ H (mergeD kvs more) (mergeK us mu)
  | [], mu, kvs, us, h, q => by rw [show mu = [] from h]; exact q
  | p :: ps, mu, kvs, us, h, q => by
    obtain ⟨v, r, rfl, h2, h3⟩ := h
    exact mergeD_ok (more := ps) (mu := r) h3 (setK_ok (k := p.1) q h2)
abbrev OutP (K : PySem.W.Frag) (E : XK) := Out (α := List (Key × D)) (β := List (Key × V)) K E (fun ρ H d v => RpK K ρ H d v)
theorem ps_read {K : PySem.W.Frag} {σ : L2.St} : ∀ (fs : List (FE × FE)) (ρ : List Addr) (s : ASt) (A : AH) (H : Hp) (Q : List (Key × V) → Hp → Prop) (Q' : List (V × V) → Hp → Prop), (∀ us H', Q us H' → Q' (us.map fun kv => (kV kv.1, kv.2)) H') → SRel K ρ H s σ → Rel K ρ H A → OutP K E ρ H (fPs fs s A) Q →
    tPairs (fs.map fun p => (tA K E p.1, tA K E p.2)) σ H Q'
  | [], ρ, s, A, H, Q, Q', m, hs, R, h => m [] H (Out.now h R rfl)
  | p :: fs, ρ, s, A, H, Q, Q', m, hs, R, h => by
    refine ⟨ρ, s, A, hs, R, (Out.bind h).mono fun x H1 ⟨ρ1, d, A1, _, e1, R1, r1, h1⟩ => ⟨ρ1, s, A1, hs.ext e1, R1, (Out.bind h1).mono fun y H2 ⟨ρ2, d2, A2, _, e2, R2, r2, h2⟩ => ?_⟩⟩
    split at h2
    · rename_i key ek
      have ex := keyOf_ok (r1.ext e2) ek
      subst ex
      refine ps_read fs ρ2 s A2 H2 (fun us H3 => Q ((key, y) :: us) H3) _ (fun us H' q => m _ H' q) (hs.ext (e1.trans e2)) R2 ((Out.bind h2).mono fun us H3 ⟨ρ3, ps, A3, _, e3, R3, r3, h3⟩ => ?_)
      exact Out.now h3 R3 ⟨y, us, rfl, r2.ext e3, r3⟩
    · exact h2.elim
theorem ae_disp (h : APs X E pos ks vs fs) (hall : ks.all (·.isSome) = true := by rfl) (hl : ks.length = vs.length := by rfl) (h0 : ks ≠ [] := by exact fun z => nomatch z) (h15 : ks.length ≤ 15 := by decide) : AE X E (.Dict ks vs pos) (fDisp fs) := pe_mono (pe_disp h.pp hall hl h0 h15) fun σ H Q h => by
  obtain ⟨ρ, s, A, hs, R, h⟩ := h
  intro p hp
  have e0 : Ext X.K ρ H (ρ ++ [p]) (L2.upd H p (.dK [])) := Ext.new hp [p]
  have R0 : Rel X.K (ρ ++ [p]) (L2.upd H p (.dK [])) (A ++ [.dic []]) := R.new hp ⟨[], upd_same, rfl⟩
  have np : (ρ ++ [p])[A.length]? = some p := by rw [← R.len]; simp
  have h := Out.ext h e0
  refine ps_read fs (ρ ++ [p]) s (A ++ [.dic []]) _ (fun us H2 => H2 p = some (.dK []) ∧ us.length ≤ 15 ∧ Q (.ref p) (L2.upd H2 p (.dK (mergeK [] us)))) _ (fun us H' q => ⟨q.1, us, rfl, q.2⟩) (hs.ext e0) R0 ((Out.bind h).mono fun us H3 ⟨ρ3, kds, A3, _, e3, R3, r3, h3⟩ => ?_)
  split at h3
  · rename_i eA
    split at h3
    · rename_i z
      obtain ⟨a, ha, us0, q1, q2⟩ := R3.ob _ _ eA
      rw [e3.at_ np] at ha; cases ha
      rw [show us0 = [] from q2] at q1
      have u := upd_dic R3 (e3.at_ np) eA q1 (mergeD_ok (more := kds) (mu := us) (kvs := []) (us := []) r3 rfl)
      exact ⟨q1, by rw [r3.length]; exact z, h3 ρ3 _ (.ref p) u.1 u.2 ⟨p, e3.at_ np, rfl⟩⟩
    · exact h3.elim
  · exact h3.elim
theorem ae_dict0 : AE X E (.Dict [] [] pos) fDict0 := pe_mono pe_dnewK fun σ H Q h => by
  obtain ⟨ρ, s, A, hs, R, h⟩ := h
  exact new_dic (kvs := []) (us := []) R rfl h
end

/-! ## the law's own end -/
theorem sp_law {m : FM} (h : ∀ ns : List Int, ns.length ≤ 63 → ∃ A', m [.ref 0] [.frz (ns.map D.int)] = .ok (.bl true) A') :
    ∀ (K : PySem.W.Frag) (H : Hp) (a : Addr) (ns : List Int), ns.length ≤ 63 → Only H → SqL K H a (ns.map V.int) → spM K 1 m [.ref a] H (fun v _ => v = .bl true) fun _ _ _ => False := fun K H a ns hl hO hS => by
  obtain ⟨A', e⟩ := h ns hl
  have rl : ∀ l : List Int, RpL K [a] H (l.map D.int) (l.map V.int) := by
    intro l
    induction l with
    | nil => rfl
    | cons k l ih => exact ⟨_, _, rfl, rfl, ih⟩
  have f : SqF K H a (ns.map V.int) := by
    rcases hS with (hS | ⟨o, hS⟩) | hS
    · rcases hO a with z | ⟨o, xs, z⟩
      · rw [hS] at z; cases z
      · rw [hS] at z; cases z
    · exact .inl ⟨o, hS⟩
    · exact .inr (.inr hS)
  have R : Rel K [a] H [.frz (ns.map D.int)] := ⟨rfl, fun i j b o u h1 h2 h3 h4 f1 _ => by
    have hi : i = 0 := by have := (List.getElem?_eq_some_iff.mp h3).1; simp at this; exact this
    subst hi
    cases h3
    exact Bool.noConfusion f1, fun i o hi => by
    have hi0 : i = 0 := by have := (List.getElem?_eq_some_iff.mp hi).1; simp at this; exact this
    subst hi0
    cases hi
    exact ⟨a, rfl, _, f, rl ns⟩⟩
  refine ⟨[a], _, [.ref 0], R, ⟨_, [], rfl, ⟨a, rfl, rfl⟩, rfl⟩, rfl, ?_⟩
  rw [e]
  exact fun ρ' H' v _ _ r => r
end Ab
namespace Ab
open PySem PySem.Spec PyProof.Rows L2
section
variable {P : Program} {w : World} {K : PySem.W.Frag} {mg : Str → Option Value} {base : Heap} {k : Nat} {f : Addr} {fd : FuncData} {ps : List Str} {m : FM}
theorem adef_bad : ADef P w K mg base k f fd ps (fun _ _ => .bad) := by
  have no : ∀ vs H Q E, ¬ spM K ps.length (fun _ _ => .bad) vs H Q E := fun vs H Q E ⟨ρ, A, ds, R, r, z, q⟩ => q
  exact ⟨fun vs H Q E h => absurd h (no vs H Q E), fun A outer s H args us vs Q E _ _ _ _ h => absurd h (no vs H Q E)⟩
theorem adef_up {n L : Nat} (h : ADef P w K mg base (n + L + 1) f fd ps m) : ADef P w K mg base (n + 1 + L) f fd ps m := FnOk.mono h (by omega)
theorem u65 {A : Around} (hr : Room k A) : A.units + 65 < cLine := by have := hr.un; omega
end
end Ab

namespace Ab
open PySem PySem.Spec PyProof.Rows L2

/-! ## list.index of a plain value that is there -/
section
variable {X : Cx} {E : XK}
def firstV (y : V) : List V → Nat → Option Nat
  | [], _ => none
  | z :: zs, k => if eqV z y = true then some k else firstV y zs (k + 1)
theorem firstV_ok {y : V} : ∀ {zs : List V} {k j : Nat}, firstV y zs k = some j → ∃ i z, j = k + i ∧ zs[i]? = some z ∧ eqV z y = true ∧ ∀ (m : Nat) (z' : V), m < i → zs[m]? = some z' → eqV z' y = false
  | [], k, j, h => by cases h
  | z :: zs, k, j, h => by
    rw [firstV] at h
    split at h
    · rename_i e
      cases h
      exact ⟨0, z, rfl, rfl, e, fun m z' hm _ => absurd hm (Nat.not_lt_zero _)⟩
    · rename_i e
      obtain ⟨i, w, h1, h2, h3, h4⟩ := firstV_ok h
      refine ⟨i + 1, w, by omega, by simpa using h2, h3, fun m z' hm hz => ?_⟩
      cases m with
      | zero => cases hz; simpa using e
      | succ m => exact h4 m z' (by omega) (by simpa using hz)
def indexD (d : D) : FM
  | [y], A => match rdL A d with
    | some xs => match toV y, toVs xs with
      | some v, some vs => match firstV v vs 0 with
        | some j => .ok (.int (j : Nat)) A
        | none => .bad
      | _, _ => .bad
    | none => .bad
  | _, _ => .bad
theorem amt_index : AMt X E "list.index" indexD := mtm_mono mt_index fun x xs H Q h => by
  obtain ⟨ρ, A, d, ds, R, r, rs, h⟩ := h
  unfold indexD at h
  split at h
  · split at h
    · rename_i xs' eX
      split at h
      · rename_i v vs e1 e2
        split at h
        · rename_i j ej
          obtain ⟨a, us, rfl, q1, q2⟩ := rdL_ok R r eX
          obtain ⟨y, rfl, ry⟩ := rs.one_inv
          obtain ⟨rfl, fv⟩ := toV_ok ry e1
          obtain ⟨rfl, fvs⟩ := toVs_ok q2 e2
          obtain ⟨i, z, h1, h2, h3, h4⟩ := firstV_ok ej
          rw [Nat.zero_add] at h1
          subst h1
          exact ⟨a, us, y, j, z, rfl, rfl, q1, fv, fvs, h2, h3, h4, h.now R rfl⟩
        · exact h.elim
      · exact h.elim
    · exact h.elim
  · exact h.elim

/-! ## == and != of two dicts that are alike -/
def alike (ks ls : List (Key × D)) : Prop := ks.length = ls.length ∧ ∀ p ∈ ks, ∃ v, toV p.2 = some v ∧ ∃ d, getK ls p.1 = some d ∧ toV d = some v
theorem alike_ok {K : PySem.W.Frag} {ρ : List Addr} {H : Hp} {ks ls : List (Key × D)} {us vs : List (Key × V)} (h : alike ks ls) (r1 : RpK K ρ H ks us) (r2 : RpK K ρ H ls vs) :
    us.length = vs.length ∧ ∀ p ∈ us, valV vs p.1 = some p.2 ∧ flatB p.2 = true := by
  refine ⟨by rw [r1.length, r2.length]; exact h.1, ?_⟩
  have all : ∀ {ks : List (Key × D)} {us : List (Key × V)}, RpK K ρ H ks us → (∀ p ∈ ks, ∃ v, toV p.2 = some v ∧ ∃ d, getK ls p.1 = some d ∧ toV d = some v) → ∀ p ∈ us, valV vs p.1 = some p.2 ∧ flatB p.2 = true := by
    intro ks
    induction ks with
    | nil => intro us r _ p hp; rw [show us = [] from r] at hp; cases hp
    | cons k ks ih =>
      intro us r hk p hp
      obtain ⟨v, q, rfl, h2, h3⟩ := r
      rcases List.mem_cons.mp hp with e | e
      · subst e
        obtain ⟨w, t1, d, g, t2⟩ := hk k (List.mem_cons_self ..)
        obtain ⟨rfl, fv⟩ := toV_ok h2 t1
        have z := getK_ok (k := k.1) r2
        rw [g] at z
        obtain ⟨w, z1, z2⟩ := z
        obtain ⟨rfl, _⟩ := toV_ok z2 t2
        refine ⟨z1, ?_⟩
        show flatB w = true
        cases w <;> first | rfl | cases fv
      · exact ih h3 (fun p hp => hk p (List.mem_cons_of_mem _ hp)) p e
  exact all r1 h.2
open scoped Classical in
noncomputable def eqX (d e : D) (A : AH) : Res D := match rdM A d, rdM A e with
  | some ks, some ls => if alike ks ls then .ok (.bl true) A else .bad
  | _, _ => .bad
open scoped Classical in
noncomputable def neX (d e : D) (A : AH) : Res D := match rdM A d, rdM A e with
  | some ks, some ls => if alike ks ls then .ok (.bl false) A else .bad
  | _, _ => .bad
theorem aop_eqX (hu : X.A.units + 64 < cLine) : AOp X E (compareOp .Eq) eqX := op_mono (op_eq_dictA (by omega)) fun x y H Q h => by
  obtain ⟨ρ, A, d, e, R, r1, r2, h⟩ := h
  unfold eqX at h
  split at h
  · split at h
    · rename_i ks ls e1 e2 z
      obtain ⟨i, a, us, rfl, rfl, _, _, q1, q2⟩ := rdM_ok R r1 e1
      obtain ⟨j, b, vs, rfl, rfl, _, _, q3, q4⟩ := rdM_ok R r2 e2
      have w := alike_ok z q2 q4
      exact ⟨a, b, us, vs, rfl, rfl, q1, q3, w.1, w.2, h.now R rfl⟩
    · exact h.elim
  · exact h.elim
theorem aop_neX (hu : X.A.units + 64 < cLine) : AOp X E (compareOp .NotEq) neX := op_mono (op_ne_dictA (by omega)) fun x y H Q h => by
  obtain ⟨ρ, A, d, e, R, r1, r2, h⟩ := h
  unfold neX at h
  split at h
  · split at h
    · rename_i ks ls e1 e2 z
      obtain ⟨i, a, us, rfl, rfl, _, _, q1, q2⟩ := rdM_ok R r1 e1
      obtain ⟨j, b, vs, rfl, rfl, _, _, q3, q4⟩ := rdM_ok R r2 e2
      have w := alike_ok z q2 q4
      exact ⟨a, b, us, vs, rfl, rfl, q1, q3, w.1, w.2, h.now R rfl⟩
    · exact h.elim
  · exact h.elim

/-! ## d.update(e) -/
def mergeV (kvs more : List (Key × V)) : List (Key × V) := more.foldl (fun acc kv => putK acc kv.1 kv.2) kvs
theorem merged_kv : ∀ {more : List (Key × V)} {mu : List (Key × Value)} {kvs : List (Key × V)} {us : List (Key × Value)}, KV more mu → KV kvs us → KV (mergeV kvs more) (merged us mu)
  | _, _, kvs, us, .nil, q => q
  | _, _, kvs, us, @Paired.cons _ _ _ p u ps qs h t, q => by
    obtain ⟨h1, h2⟩ := h
    have := merged_kv t (q.put p.1 h2)
    rw [h1] at this
    show KV (mergeV (putK kvs p.1 p.2) ps) (merged (stored us u.1 u.2) qs)
    rw [← h1] at this ⊢
    exact this
theorem length_mergeV : ∀ (more kvs : List (Key × V)), (mergeV kvs more).length ≤ kvs.length + more.length
  | [], kvs => Nat.le_refl _
  | p :: ps, kvs => by
    have h1 := length_mergeV ps (putK kvs p.1 p.2)
    have h2 := length_putK kvs p.1 p.2
    show (mergeV (putK kvs p.1 p.2) ps).length ≤ _
    rw [List.length_cons]
    omega
theorem mt_update : MtR X "dict.update" fun x xs H Q => ∃ (a b : Addr) (kvs more : List (Key × V)), x = .ref a ∧ xs = [.ref b] ∧ a ≠ b ∧ H a = some (.dK kvs) ∧ H b = some (.dK more) ∧ kvs.length + more.length ≤ sizeLine ∧ Q .non (upd H a (.dK (mergeV kvs more))) := by
  intro pins s σ H x xs v us Q I rx rxs h
  obtain ⟨a, b, kvs, more, rfl, rfl, hne, ea, eb, z, q⟩ := h
  obtain rfl : v = Value.ref a := rx
  rw [Vals.ref1 rxs]
  obtain ⟨_, hd, vs, rel, dd⟩ := dk_of I.hok ea
  obtain ⟨_, hd2, ws, rel2, dd2⟩ := dk_of I.hok eb
  refine call_meetsIn PySem.F.slot_dict_update dd.typeIs PySem.F.entry_dict_update (PySem.F.args_dict_update_2 _ _) (meets_dict_update (mixKind X.prog X.w) a b hne hd2)
    ⟨vs, ws, dd, dd2, by rw [← rel.length, ← rel2.length]; exact z, fun h' dd' _ hs => ?_⟩
  have he : ∃ q, h'.get? a = some q := let ⟨q, _, _, hq, _⟩ := dd'; ⟨q, hq⟩
  exact ⟨.non, _, d_write (t' := s.toks) I (by rw [ea]; exact True.intro) hs he (dk_new (Nat.le_trans (length_mergeV _ _) z) hd (merged_kv rel2 rel) dd'), rfl, q⟩
def updateD (d : D) : FM
  | [.ref j], A => match d with
    | .ref n => match A[n]?, A[j]? with
      | some (.dic ks), some (.dic ls) => if n ≠ j ∧ ks.length + ls.length ≤ sizeLine then .ok .non (A.set n (.dic (mergeD ks ls))) else .bad
      | _, _ => .bad
    | _ => .bad
  | _, _ => .bad
theorem merge_ok {K : PySem.W.Frag} {ρ : List Addr} {H : Hp} : ∀ {more : List (Key × D)} {mu : List (Key × V)} {kvs : List (Key × D)} {us : List (Key × V)}, RpK K ρ H more mu → RpK K ρ H kvs us → RpK K ρ H (mergeD kvs more) (mergeV us mu)
  | [], mu, kvs, us, h, q => by rw [show mu = [] from h]; exact q
  | p :: ps, mu, kvs, us, h, q => by
    obtain ⟨v, r, rfl, h2, h3⟩ := h
    exact merge_ok (more := ps) (mu := r) h3 (setK_ok (k := p.1) q h2)
theorem amt_update : AMt X E "dict.update" updateD := mtm_mono mt_update fun x xs H Q h => by
  obtain ⟨ρ, A, d, ds, R, r, rs, h⟩ := h
  unfold updateD at h
  split at h
  · rename_i j
    split at h
    · rename_i n
      split at h
      · rename_i ks ls e1 e2
        split at h
        · rename_i z
          obtain ⟨a, ha, rfl⟩ := r
          obtain ⟨a', ha', us, q1, q2⟩ := R.ob _ _ e1
          rw [ha] at ha'; cases ha'
          obtain ⟨y, rfl, ry⟩ := rs.one_inv
          obtain ⟨b, hb, rfl⟩ := ry
          obtain ⟨b', hb', ws, q3, q4⟩ := R.ob _ _ e2
          rw [hb] at hb'; cases hb'
          have hne : a ≠ b := fun e => z.1 (R.nd n j a _ _ ha (by rw [hb, e]) e1 e2 rfl rfl)
          have u := upd_dic R ha e1 q1 (merge_ok q4 q2)
          exact ⟨a, b, us, ws, rfl, rfl, hne, q1, q3, by rw [q2.length, q4.length]; exact z.2, h ρ _ .non u.1 u.2 rfl⟩
        · exact h.elim
      · exact h.elim
    · exact h.elim
  · exact h.elim
/-! ## xs.pop(i), i from the front -/
theorem RpL.eraseIdx {K : PySem.W.Frag} {ρ : List Addr} {H : Hp} : ∀ {ds : List D} {xs : List V} (k : Nat), RpL K ρ H ds xs → RpL K ρ H (ds.eraseIdx k) (xs.eraseIdx k)
  | [], xs, k, r => by rw [show xs = [] from r]; exact rfl
  | d :: ds, xs, 0, r => by obtain ⟨x, r', rfl, _, h⟩ := r; exact h
  | d :: ds, xs, k + 1, r => by obtain ⟨x, r', rfl, h1, h⟩ := r; exact ⟨x, _, rfl, h1, RpL.eraseIdx k h⟩
def popAtD (d : D) : FM
  | [.int i], A => match d with
    | .ref n => match A[n]? with
      | some (.lst xs) => if 0 ≤ i ∧ i < 2 ^ 62 then (match xs[i.toNat]? with
        | some y => .ok y (A.set n (.lst (xs.eraseIdx i.toNat)))
        | none => .bad) else .bad
      | _ => .bad
    | _ => .bad
  | _, _ => .bad
theorem amt_popAt : AMt X E "list.pop" popAtD := mtm_mono mt_popAt fun x xs H Q h => by
  obtain ⟨ρ, A, d, ds, R, r, rs, h⟩ := h
  unfold popAtD at h
  split at h
  · rename_i i
    split at h
    · split at h
      · split at h
        · rename_i xs' eA z
          split at h
          · rename_i y eY
            obtain ⟨a, ha, rfl⟩ := r
            obtain ⟨a', ha', us, q1, q2⟩ := R.ob _ _ eA
            rw [ha] at ha'; cases ha'
            obtain ⟨v, e1, e2⟩ := q2.get eY
            obtain ⟨w, rfl, rw'⟩ := rs.one_inv
            cases rw'
            have hl : i.toNat < us.length := (List.getElem?_eq_some_iff.mp e1).1
            have u := upd_lst (ds := xs') R ha eA q1 (RpL.eraseIdx i.toNat q2)
            exact ⟨a, us, i, i.toNat, v, rfl, rfl, q1, by omega, by omega, by unfold seqIndex?; simp; omega, e1, h ρ _ v u.1 u.2 (e2.ext u.1)⟩
          · exact h.elim
        · exact h.elim
      · exact h.elim
    · exact h.elim
  · exact h.elim
end
end Ab

/-! AbDkT (over the strict layer alone): dicts whose keys are tuples of ints and texts. -/
namespace Ab
open PySem PySem.Spec PyProof.Rows L2
def keysOf : List D → Option (List Key)
  | [] => some []
  | d :: ds => match keyOf d, keysOf ds with
    | some k, some ks => some (k :: ks)
    | _, _ => none
def keyT : D → Option (List Key)
  | .tup ds => keysOf ds
  | _ => none
def rdT (A : AH) : D → Option (List (List Key × D))
  | .ref i => match A[i]? with
    | some (.dtp xs) => some xs
    | _ => none
  | _ => none
section
variable {K : PySem.W.Frag} {ρ : List Addr} {H : Hp} {A : AH} {d : D} {v : V}
theorem keysOf_ok : ∀ {ds : List D} {xs : List V} {ks : List Key}, RpL K ρ H ds xs → keysOf ds = some ks → xs = ks.map kV
  | [], xs, ks, r, h => by cases h; exact r
  | d :: ds, xs, ks, r, h => by
    obtain ⟨x, xr, rfl, r1, r2⟩ := r
    unfold keysOf at h
    split at h
    · rename_i k ks' e1 e2
      cases h
      rw [keyOf_ok r1 e1, keysOf_ok r2 e2]; rfl
    · cases h
theorem keyT_ok {ks : List Key} (r : Rp K ρ H d v) (h : keyT d = some ks) : ∃ b, v = .ref b ∧ H b = some (.tup (ks.map kV)) := by
  cases d with
  | tup ds =>
    obtain ⟨b, xs, rfl, q1, q2⟩ := r
    exact ⟨b, rfl, by rw [← keysOf_ok q2 h]; exact q1⟩
  | _ => cases h
theorem rdT_ok (R : Rel K ρ H A) (r : Rp K ρ H d v) {ds : List (List Key × D)} (h : rdT A d = some ds) : ∃ i a xs, d = .ref i ∧ v = .ref a ∧ ρ[i]? = some a ∧ A[i]? = some (.dtp ds) ∧ H a = some (.dT xs) ∧ RpK K ρ H ds xs := by
  cases d with
  | ref i =>
    obtain ⟨a, h1, rfl⟩ := r
    obtain ⟨o, h2, h3⟩ := R.has h1
    unfold rdT at h
    simp only [h2] at h
    cases o with
    | dtp xs => cases h; obtain ⟨us, e1, e2⟩ := h3; exact ⟨i, a, us, rfl, rfl, h1, h2, e1, e2⟩
    | _ => cases h
  | _ => cases h
theorem upd_dtp {n : Nat} {a : Addr} {xs ys : List (List Key × V)} {ds es : List (List Key × D)} (R : Rel K ρ H A) (ha : ρ[n]? = some a) (hA : A[n]? = some (.dtp ds)) (hH : H a = some (.dT xs)) (r : RpK K ρ H es ys) :
    Ext K ρ H ρ (upd H a (.dT ys)) ∧ Rel K ρ (upd H a (.dT ys)) (A.set n (.dtp es)) := by
  have e : Ext K ρ H ρ (upd H a (.dT ys)) := Ext.mut hH trivial
  exact ⟨e, R.upd ha hA rfl hH trivial ⟨ys, upd_same, r.ext e⟩ rfl⟩
end
section
variable {X : Cx} {E : XK} {pos : Pos} {f g : FE}
def fDictT : FE := fun _ A => alloc (.dtp []) A
theorem ae_dictT : AE X E (.Dict [] [] pos) fDictT := pe_mono pe_dnewT fun σ H Q h => by
  obtain ⟨ρ, s, A, hs, R, h⟩ := h
  exact new_dtp (E := E) R (show RpK X.K ρ H [] [] from rfl) h
/-- k not in d -/
def ninT (d e : D) (A : AH) : Res D := match rdT A e, keyT d with
  | some kvs, some ks => .ok (.bl (!(getK kvs ks).isSome)) A
  | _, _ => .bad
theorem aop_ninT (hu : X.A.units + 65 < cLine) : AOp X E (compareOp .NotIn) ninT := op_mono (op_nin_dk (by omega)) fun x y H Q h => by
  obtain ⟨ρ, A, d, e, R, r1, r2, h⟩ := h
  unfold ninT at h
  split at h
  · rename_i kvs ks e1 e2
    obtain ⟨_, a, us, _, rfl, _, _, q1, q2⟩ := rdT_ok R r2 e1
    obtain ⟨b, rfl, hb⟩ := keyT_ok r1 e2
    have g := getK_ok (k := ks) q2
    refine ⟨a, valV us ks, rfl, .t q1 hb, ?_⟩
    have eq : (valV us ks).isSome = (getK kvs ks).isSome := by
      split at g
      · rename_i d' e3
        obtain ⟨w, g1, _⟩ := g
        rw [g1, e3]; rfl
      · rename_i e3
        rw [g, e3]; rfl
    rw [eq]
    exact h.now R rfl
  · exact h.elim
/-- d[k] = v -/
def stT (o i v : D) (A : AH) : Res Unit := match o with
  | .ref n => match A[n]? with
    | some (.dtp kvs) => match keyT i with
      | some k => if kvs.length < sizeLine then .ok () (A.set n (.dtp (setK kvs k v))) else .bad
      | none => .bad
    | _ => .bad
  | _ => .bad
def gSbT (fo fi : FE) : FG := fun d s A => (fo s A).bind fun o A1 => (fi s A1).bind fun i A2 => (stT o i d A2).bind fun _ A3 => .ok s A3
theorem ag_subT {o i : Expr} {fo fi : FE} (hu : X.A.units + 1 < cLine) (ho : AE X E o fo) (hi : AE X E i fi)
    (ha : ∀ v, assign (.Subscript o i pos) X.env v = (do
      let ov ← holding [v] (eval o X.env)
      let iv ← holding [v, ov] (eval i X.env)
      standAt pos
      holding [v, ov, iv] (setItem ov iv v)
      release [v, ov, iv] []) := by intro _; rfl) : AG X E (.Subscript o i pos) (gSbT fo fi) := pg_mono (pg_sub ho hi (set_dict hu) ha) fun v σ H Q h => by
  obtain ⟨ρ, s, A, d, hs, R, r, h⟩ := h
  refine ⟨ρ, s, A, hs, R, (Out.bindG h).mono fun x H1 ⟨ρ1, d1, A1, _, e1, R1, r1, h1⟩ => ⟨ρ1, s, A1, hs.ext e1, R1, (Out.bindG h1).mono fun y H2 ⟨ρ2, d2, A2, _, e2, R2, r2, h2⟩ => ?_⟩⟩
  have r1 := r1.ext e2
  have r := r.ext (e1.trans e2)
  have hs := hs.ext (e1.trans e2)
  unfold stT at h2
  split at h2
  · rename_i n
    obtain ⟨a, ha, rfl⟩ := r1
    split at h2
    · rename_i kvs e3
      obtain ⟨a', ha', us, q1, q2⟩ := R2.ob _ _ e3
      rw [ha] at ha'; cases ha'
      split at h2
      · rename_i k e4
        split at h2
        · rename_i z
          obtain ⟨b, rfl, hb⟩ := keyT_ok r2 e4
          have u := upd_dtp R2 ha e3 q1 (setK_ok (k := k) q2 r)
          exact ⟨a, _, rfl, .t q1 hb (by rw [q2.length]; exact z), h2 ρ2 _ σ u.1 u.2 (hs.ext u.1)⟩
        · exact h2.elim
      · exact h2.elim
    · exact h2.elim
  · exact h2.elim
theorem ev_dictT {s : ASt} {A : AH} : fDictT s A = .ok (.ref A.length) (A ++ [.dtp []]) := rfl
theorem ev_gSbT {fo fi : FE} {d : D} {s : ASt} {A : AH} : gSbT fo fi d s A = (fo s A).bind fun o A1 => (fi s A1).bind fun i A2 => (stT o i d A2).bind fun _ A3 => .ok s A3 := rfl
end
end Ab

namespace Ab
open PySem PySem.Spec PyProof.Rows L2
open scoped Classical
/-! ## xs == [], xs != [] for any list -/
section
variable {X : Cx} {E : XK}
theorem op_eqNil (hu : X.A.units < cLine) : OpR X (compareOp .Eq) (fun x y H Q => ∃ l b xs ys, x = .ref l ∧ y = .ref b ∧ SqL X.K H l xs ∧ SqL X.K H b ys ∧ (xs = [] ∨ ys = []) ∧ Q (.bl (decide (xs.length = ys.length))) H) := by
  intro pins s σ H x y v u Q I rx ry h
  obtain ⟨l, b, xs, ys, rfl, rfl, h1, h2, hn, q⟩ := h
  cases rx
  cases ry
  obtain ⟨its, rv, ⟨⟨cls, dd, data, sl⟩, n, ho, hc, hdn, hd⟩, _⟩ := I.list h1
  obtain ⟨its2, rv2, ⟨⟨cls2, dd2, data2, sl2⟩, n2, ho2, hc2, hdn2, hd2⟩, _⟩ := I.list h2
  simp only at hc hd hc2 hd2
  subst hc hd hc2 hd2
  have l1 := rv.length
  have l2 := rv2.length
  have ta : s.TypeIs (.ref l) "list" := ⟨_, ho, rfl⟩
  have tb : s.TypeIs (.ref b) "list" := ⟨_, ho2, rfl⟩
  by_cases e : xs.length = ys.length
  · have ex : xs.length = 0 := by
      rcases hn with h | h
      · rw [h]; rfl
      · rw [e, h]; rfl
    rw [decide_eq_true e] at q
    have z1 : its = [] := List.eq_nil_of_length_eq_zero (by omega)
    have z2 : its2 = [] := List.eq_nil_of_length_eq_zero (by omega)
    subst z1 z2
    exact wpAny_richCompare_same_room (op := .Eq) ta tb PySem.F.slot_list_eq (call_meets PySem.F.slot_list_eq ta PySem.F.entry_list_eq (PySem.F.args_list_eq_2 _ _) (SeqAt.list_eqAt l b _ _ n n2 dd dd2 sl sl2 rfl fun _ => true)
      ⟨ho, ho2, (fun j h1 => absurd h1 (Nat.not_lt_zero _)), (fun x => nomatch x), ⟨.bl true, H, I, rfl, q⟩⟩) hu
  · rw [decide_eq_false e] at q
    exact wpAny_richCompare_same_room (op := .Eq) ta tb PySem.F.slot_list_eq (call_meets PySem.F.slot_list_eq ta PySem.F.entry_list_eq (PySem.F.args_list_eq_2 _ _) (SeqAt.list_eq_lengthsAt l b _ _ n n2 dd dd2 sl sl2 (by simp; omega))
      ⟨ho, ho2, (fun x => nomatch x), ⟨.bl false, H, I, rfl, q⟩⟩) hu
theorem op_neNil (hu : X.A.units < cLine) : OpR X (compareOp .NotEq) (fun x y H Q => ∃ l b xs ys, x = .ref l ∧ y = .ref b ∧ SqL X.K H l xs ∧ SqL X.K H b ys ∧ (xs = [] ∨ ys = []) ∧ Q (.bl (!decide (xs.length = ys.length))) H) := by
  intro pins s σ H x y v u Q I rx ry h
  obtain ⟨l, b, xs, ys, rfl, rfl, h1, h2, hn, q⟩ := h
  cases rx
  cases ry
  obtain ⟨its, rv, ⟨⟨cls, dd, data, sl⟩, n, ho, hc, hdn, hd⟩, _⟩ := I.list h1
  obtain ⟨its2, rv2, ⟨⟨cls2, dd2, data2, sl2⟩, n2, ho2, hc2, hdn2, hd2⟩, _⟩ := I.list h2
  simp only at hc hd hc2 hd2
  subst hc hd hc2 hd2
  have l1 := rv.length
  have l2 := rv2.length
  have ta : s.TypeIs (.ref l) "list" := ⟨_, ho, rfl⟩
  have tb : s.TypeIs (.ref b) "list" := ⟨_, ho2, rfl⟩
  by_cases e : xs.length = ys.length
  · have ex : xs.length = 0 := by
      rcases hn with h | h
      · rw [h]; rfl
      · rw [e, h]; rfl
    rw [decide_eq_true e] at q
    have z1 : its = [] := List.eq_nil_of_length_eq_zero (by omega)
    have z2 : its2 = [] := List.eq_nil_of_length_eq_zero (by omega)
    subst z1 z2
    exact wpAny_richCompare_same_room (op := .NotEq) ta tb PySem.F.slot_list_ne (call_meets PySem.F.slot_list_ne ta PySem.F.entry_list_ne (PySem.F.args_list_ne_2 _ _) (SeqAt.list_neAt l b _ _ n n2 dd dd2 sl sl2 rfl fun _ => true)
      ⟨ho, ho2, (fun j h1 => absurd h1 (Nat.not_lt_zero _)), (fun x => nomatch x), ⟨.bl false, H, I, rfl, q⟩⟩) hu
  · rw [decide_eq_false e] at q
    exact wpAny_richCompare_same_room (op := .NotEq) ta tb PySem.F.slot_list_ne (call_meets PySem.F.slot_list_ne ta PySem.F.entry_list_ne (PySem.F.args_list_ne_2 _ _) (SeqAt.list_ne_lengthsAt l b _ _ n n2 dd dd2 sl sl2 (by simp; omega))
      ⟨ho, ho2, (fun x => nomatch x), ⟨.bl true, H, I, rfl, q⟩⟩) hu
theorem op_eqNilT (hu : X.A.units < cLine) : OpR X (compareOp .Eq) (fun x y H Q => ∃ l b xs ys, x = .ref l ∧ y = .ref b ∧ SqT X.K H l xs ∧ SqT X.K H b ys ∧ (xs = [] ∨ ys = []) ∧ Q (.bl (decide (xs.length = ys.length))) H) := by
  intro pins s σ H x y v u Q I rx ry h
  obtain ⟨l, b, xs, ys, rfl, rfl, h1, h2, hn, q⟩ := h
  cases rx
  cases ry
  obtain ⟨its, rv, ⟨⟨cls, dd, data, sl⟩, ho, hc, n, hd⟩, _⟩ := I.tuple h1
  obtain ⟨its2, rv2, ⟨⟨cls2, dd2, data2, sl2⟩, ho2, hc2, n2, hd2⟩, _⟩ := I.tuple h2
  simp only at hc hd hc2 hd2
  subst hc hd hc2 hd2
  have l1 := rv.length
  have l2 := rv2.length
  have ta : s.TypeIs (.ref l) "tuple" := ⟨_, ho, rfl⟩
  have tb : s.TypeIs (.ref b) "tuple" := ⟨_, ho2, rfl⟩
  have z : min its.toArray.size its2.toArray.size = 0 := by
    rw [List.size_toArray, List.size_toArray]
    rcases hn with h | h
    · have : xs.length = 0 := by rw [h]; rfl
      omega
    · have : ys.length = 0 := by rw [h]; rfl
      omega
  have r : ((List.range (min its.toArray.size its2.toArray.size)).all (fun _ => true) && its.toArray.size == its2.toArray.size) = decide (xs.length = ys.length) := by
    rw [z]
    simp only [List.range_zero, List.all_nil, Bool.true_and, List.size_toArray, ← l1, ← l2]
    rfl
  rw [← r] at q
  exact wpAny_richCompare_same_room (op := .Eq) ta tb PySem.F.slot_tuple_eq (call_meets PySem.F.slot_tuple_eq ta PySem.F.entry_tuple_eq (PySem.F.args_tuple_eq_2 _ _) (SeqAt.tuple_eqAt l b _ _ n n2 dd dd2 sl sl2 fun _ => true)
    ⟨ho, ho2, (fun j h1 h2 => absurd z (by omega)), (fun x => nomatch x), ⟨.bl _, H, I, rfl, q⟩⟩) hu
def eqNilT (d e : D) (A : AH) : Res D := match d, e with
  | .tup xs, .tup ys => if xs.isEmpty || ys.isEmpty then .ok (.bl (decide (xs.length = ys.length))) A else .bad
  | _, _ => .bad
theorem aop_eqNilT (hu : X.A.units + 64 < cLine) : AOp X E (compareOp .Eq) eqNilT := op_mono (op_eqNilT (by omega)) fun x y H Q h => by
  obtain ⟨ρ, A, d, e, R, r1, r2, h⟩ := h
  unfold eqNilT at h
  split at h
  · split at h
    · rename_i as bs z
      obtain ⟨l, xs, rfl, q1, q2⟩ := r1
      obtain ⟨m, ys, rfl, q3, q4⟩ := r2
      refine ⟨l, m, xs, ys, rfl, rfl, .of q1, .of q3, ?_, by rw [q2.length, q4.length]; exact h.now R rfl⟩
      rw [Bool.or_eq_true] at z
      rcases z with z | z
      · have : as = [] := by simpa using z
        subst this
        exact .inl (show xs = [] from q2)
      · have : bs = [] := by simpa using z
        subst this
        exact .inr (show ys = [] from q4)
    · exact h.elim
  · exact h.elim
def nilB (d e : D) (A : AH) : Option Bool := match rdL A d, rdL A e with
  | some xs, some ys => if xs.isEmpty || ys.isEmpty then some (decide (xs.length = ys.length)) else none
  | _, _ => none
def eqNil (d e : D) (A : AH) : Res D := match nilB d e A with
  | some b => .ok (.bl b) A
  | none => .bad
def neNil (d e : D) (A : AH) : Res D := match nilB d e A with
  | some b => .ok (.bl (!b)) A
  | none => .bad
theorem nilB_ok {K : PySem.W.Frag} {ρ : List Addr} {H : Hp} {A : AH} {d e : D} {x y : V} {b : Bool} (R : Rel K ρ H A) (r1 : Rp K ρ H d x) (r2 : Rp K ρ H e y) (h : nilB d e A = some b) :
    ∃ l m xs ys, x = .ref l ∧ y = .ref m ∧ SqL K H l xs ∧ SqL K H m ys ∧ (xs = [] ∨ ys = []) ∧ b = decide (xs.length = ys.length) := by
  unfold nilB at h
  split at h
  · rename_i as bs e1 e2
    split at h
    · rename_i z
      cases h
      obtain ⟨l, xs, rfl, q1, q2⟩ := rdL_ok R r1 e1
      obtain ⟨m, ys, rfl, q3, q4⟩ := rdL_ok R r2 e2
      refine ⟨l, m, xs, ys, rfl, rfl, q1, q3, ?_, by rw [q2.length, q4.length]⟩
      rw [Bool.or_eq_true] at z
      rcases z with z | z
      · have : as = [] := by simpa using z
        subst this
        exact .inl (show xs = [] from q2)
      · have : bs = [] := by simpa using z
        subst this
        exact .inr (show ys = [] from q4)
    · cases h
  · cases h
theorem aop_eqNil (hu : X.A.units + 64 < cLine) : AOp X E (compareOp .Eq) eqNil := op_mono (op_eqNil (by omega)) fun x y H Q h => by
  obtain ⟨ρ, A, d, e, R, r1, r2, h⟩ := h
  unfold eqNil at h
  split at h
  · rename_i b e1
    obtain ⟨l, m, xs, ys, rfl, rfl, q1, q2, q3, rfl⟩ := nilB_ok R r1 r2 e1
    exact ⟨l, m, xs, ys, rfl, rfl, q1, q2, q3, h.now R rfl⟩
  · exact h.elim
theorem aop_neNil (hu : X.A.units + 64 < cLine) : AOp X E (compareOp .NotEq) neNil := op_mono (op_neNil (by omega)) fun x y H Q h => by
  obtain ⟨ρ, A, d, e, R, r1, r2, h⟩ := h
  unfold neNil at h
  split at h
  · rename_i b e1
    obtain ⟨l, m, xs, ys, rfl, rfl, q1, q2, q3, rfl⟩ := nilB_ok R r1 r2 e1
    exact ⟨l, m, xs, ys, rfl, rfl, q1, q2, q3, h.now R rfl⟩
  · exact h.elim
end
theorem ev_eqNilT {A : AH} {xs : List D} : eqNilT (.tup xs) (.tup []) A = .ok (.bl (xs.isEmpty)) A := by
  unfold eqNilT
  cases xs <;> rfl
theorem ev_eqNil {A : AH} {r q : Nat} {xs : List D} (h : rdL A (.ref r) = some xs) (hq : rdL A (.ref q) = some []) : eqNil (.ref r) (.ref q) A = .ok (.bl (xs.isEmpty)) A := by
  unfold eqNil nilB
  rw [h, hq]
  cases xs <;> rfl
theorem ev_neNil {A : AH} {r q : Nat} {xs : List D} (h : rdL A (.ref r) = some xs) (hq : rdL A (.ref q) = some []) : neNil (.ref r) (.ref q) A = .ok (.bl (!xs.isEmpty)) A := by
  unfold neNil nilB
  rw [h, hq]
  cases xs <;> rfl
end Ab

namespace Ab
open PySem PySem.Spec PyProof.Rows L2
/-! ## xs[:k] = a tuple -/
section
variable {prog : Program} {w : World} {A : Around} {E : Value → Shared → Prop} {s : Shared}
theorem head_bounds {c n : Nat} (h : c ≤ n) : sliceBounds none (some (c : Int)) none n = (0, (c : Int), 1) := by
  have z : ¬ (c : Int) < 0 := by omega
  simp only [sliceBounds, Option.getD_none, z, if_false, show (1 : Int) > 0 by decide, if_true]
  congr 2
  omega
set_option maxRecDepth 100000 in
theorem head_store {l b sl : Addr} {its new : Array Value} {n : Nat} {vu : Value} {c : Nat} {Q : Unit → Shared → Prop}
    (el : s.heap.get? l = some { cls := .type "list", data := .seq its n }) (tb : IsTup s.heap b new)
    (S : s.heap.IsSliceOf sl .none vu .none) (pu : IsPart vu (some (c : Int))) (hc : c ≤ its.size)
    (room : its.size + new.size ≤ sizeLine) (h : Q () { s with heap := s.heap.update l (Obj.mapSeq fun q => q.extract 0 0 ++ new ++ q.extract c q.size) }) :
    wpAny (model prog w) A (setItem (.ref l) (.ref sl) (.ref b)) Q E s := by
  have L : s.heap.IsList l its := PySem.IsL.isList el
  obtain ⟨ob, gb, cb, nb, db⟩ := id tb
  have Tb : s.TypeIs (.ref b) "tuple" := ⟨ob, gb, cb⟩
  have ne : l ≠ b := fun z => by
    subst z
    rw [el] at gb
    cases gb
    injection cb with z
    exact absurd z (by decide)
  obtain ⟨so, gs, cs, ds⟩ := id S
  have Ts : s.TypeIs (.ref sl) "slice" := ⟨so, gs, cs⟩
  have nstep : ¬ ((rawPart none == rawInt 0) = true) := Bool.false_ne_true
  have other : Builtin.List.listSameRef (.ref l) (.ref b) = false := by
    unfold Builtin.List.listSameRef
    exact beq_eq_false_iff_ne.mpr ne
  have top : (max (0 : Int) (c : Int)).toNat = c := by omega
  have room' : ((fun q : Array Value => q.extract 0 0 ++ new ++ q.extract c q.size) its).size ≤ sizeLine + 1 := by
    simp only [Array.size_append, Array.size_extract]
    omega
  unfold setItem
  try with_reducible refine wpAny_holding ?_
  first | refine wpAny_bind (wpAny_pure ?_) | skip
  refine wpAny_bind (wpAny_sequenceKey L.typeIs (by decide) ?_)
  refine wpAny_bind (wpAny_callSpecial?_slot (name := Str.ofString "__setitem__") L.typeIs slot_list_setitem (wpAny_call_entry slot_list_setitem L.typeIs entry_list_setitem ?_ (args_list_setitem _ _ _)))
  show wpAny _ _ (Builtin.List.listSubscript? (.ref sl) >>= _) _ _ s
  refine wpAny_bind ?_
  unfold Builtin.List.listSubscript?
  refine wpAny_bind (wpAny_specialOf Ts slice_no_index ?_)
  simp only [Option.isNone_none, if_true]
  refine wpAny_pure ?_
  show wpAny _ _ (typeOf (.ref sl) >>= _) _ _ s
  refine wpAny_bind (wpAny_typeOf Ts ?_)
  first
    | rw [if_neg (by decide)]
    | refine PySem.W.KFB.if_not (by decide) ?_
  rw [listSliceParts_eq]
  refine wpAny_bind (wpAny_bind (wpAny_field gs ds (x := .none) rfl (wpAny_bind (wpAny_listPart .none ?_))))
  rw [if_neg nstep]
  refine wpAny_bind (wpAny_field gs ds (x := .none) rfl (wpAny_bind (wpAny_listPart .none ?_)))
  refine wpAny_bind (wpAny_field gs ds (x := vu) rfl (wpAny_bind (wpAny_listPart pu (wpAny_pure ?_))))
  first
    | simp only [other, Bool.false_eq_true, if_false]
    | refine PySem.W.KFB.if_not other ?_
    | (dsimp only
       rw [if_neg (by rw [other]; exact Bool.false_ne_true)])
  refine wpAny_bind (m := Builtin.List.listAllItems (.ref b) "must assign iterable to extended slice") ?_
  unfold Builtin.List.listAllItems
  refine wpAny_bind (wpAny_typeOf Tb ?_)
  first
    | refine PySem.W.KFB.if_so (by decide) ?_
    | rw [if_pos (by decide)]
    | simp only [beq_self_eq_true, Bool.true_or, Bool.or_true, if_true]
  unfold Builtin.List.listItems
  refine wpAny_bind (wpAny_seqItems gb db (wpAny_pure ?_))
  refine wpAny_bind (wpAny_bind (wpAny_seqItems el rfl (wpAny_pure ?_)))
  refine wpAny_bind (wpAny_of_eq ((sliceIndices_raw none (some (c : Int)) none its.size (by simp)).trans (congrArg (pure : Int × Int × Int → Sem (Int × Int × Int)) (head_bounds hc))) ?_)
  show wpAny _ _ (if ((1 : Int) == 1) = true then _ else _) _ _ s
  rw [if_pos (by decide)]
  refine wpAny_bind (wpAny_rule ?_)
  first
    | simp only [notLongL room, Bool.false_eq_true, if_false]
    | refine PySem.W.KFB.if_not (notLongL room) ?_
  first | refine wpAny_bind (wpAny_pure ?_) | skip
  show wpAny _ _ (updateSeq l (fun q => q.extract 0 ((0 : Int)).toNat ++ new ++ q.extract (max (0 : Int) (c : Int)).toNat q.size) >>= _) _ _ s
  rw [top]
  refine wpAny_bind (wpAny_updateSeq (hz := Nat.le_trans (Nat.le_add_right _ _) room) (_hz' := room') el rfl ?_)
  refine wpAny_bind (wpAny_letGo ?_)
  first
    | exact wpAny_bind (wpAny_pure (wpAny_pure ⟨.none, rfl, wpAny_pure h⟩))
    | exact wpAny_pure ⟨.none, rfl, wpAny_pure h⟩
end
section
variable {X : Cx} {E : XK}
/-- o[:k] = v, at the values -/
def rHead (K : PySem.W.Frag) : V → Int → V → Hp → (Hp → Prop) → Prop := fun o k v H Q => ∃ l b xs ys, o = .ref l ∧ v = .ref b ∧ H l = some (.lst xs) ∧ SqT K H b ys ∧ 0 ≤ k ∧ k ≤ xs.length ∧ xs.length + ys.length ≤ sizeLine ∧ Q (upd H l (.lst (ys ++ xs.drop k.toNat)))
theorem set_head {pins : List (Addr × Obj)} {s : Shared} {σ : L2.St} {H : Hp} {o v : V} {k : Int} {ov w vu : Value} {sl : Addr} {Q : Hp → Prop} (I : Inv X pins σ H s) (ro : RelV o ov) (rv : RelV v w) (pu : IsPart vu (some k)) (S : s.heap.IsSliceOf sl .none vu .none)
    (h : rHead X.K o k v H Q) : wpAny (model X.prog X.w) X.A (setItem ov (.ref sl) w) (fun _ s' => ∃ H', Inv X pins σ H' s' ∧ Q H') X.xe s := by
  obtain ⟨l, b, xs, ys, rfl, rfl, hl, hb, k0, k1, room, q⟩ := h
  cases ro
  cases rv
  obtain ⟨z, its, n, r, len, el⟩ := I.lstM hl
  obtain ⟨its2, r2, tb, _⟩ := I.tuple hb
  obtain ⟨c, rfl⟩ := Int.eq_ofNat_of_zero_le k0
  rw [Int.toNat_natCast] at q
  have l2 : its2.length = ys.length := r2.length.symm
  refine head_store (c := c) el tb S pu (by rw [List.size_toArray]; omega) (by rw [List.size_toArray, List.size_toArray]; omega) ⟨_, ?_, q⟩
  refine I.lset (its' := its2 ++ its.drop c) (t' := s.toks) hl el ?_ (Vals.append r2 (r.drop _)) ?_
  · have := splice_eq its its2 0 c
    rw [List.take_zero, List.nil_append] at this
    exact this
  · rw [List.length_append, List.length_drop]; omega
def gHead (to : TE) (th : TO) (t : V → Int → V → Hp → (Hp → Prop) → Prop) : TG := fun v σ H Q => to σ H fun o H1 => th σ H1 fun k H2 => ∃ j, k = some j ∧ t o j v H2 fun H3 => Q σ H3
theorem pg_head {o : Expr} {hi : Option Expr} {to : TE} {th : TO} {p2 pos : Pos} (ho : PE X o to) (hu : PO X hi th)
    (ha : ∀ v, assign (.Subscript o (.Slice none hi none p2) pos) X.env v = (do
      let x ← holding [v] (eval o X.env)
      let y ← holding [v, x] (eval (.Slice none hi none p2) X.env)
      standAt pos
      holding [v, x, y] (setItem x y v)
      release [y, v, x] []) := by intro _; rfl) : PG X (.Subscript o (.Slice none hi none p2) pos) (gHead to th (rHead X.K)) := by
  refine ⟨fun pins s σ H v u Q I r h => ?_⟩
  rw [ha]
  refine wpAny_bind (wpAny_holding (thn (ho.run pins s σ H _ I h) fun ov s1 ⟨x, H1, I1, r1, q1⟩ => ?_))
  refine wpAny_bind (wpAny_holding ?_)
  refine wpAny_Slice ?_
  rw [evalPart_none]
  refine wpAny_pure (thn (hu.run pins s1 σ H1 _ I1 q1) fun vu s3 ⟨k, H3, I3, pu, j, e, q3⟩ => ?_)
  subst e
  refine wpAny_pure ?_
  have I4 : Inv X pins σ H3 { s3 with heap := s3.heap.push { cls := .type "slice", data := .fields #[.none, vu, .none] } } := I3.kept (t' := s3.toks) fun b ob q => Heap.get?_push_of_some _ q
  refine wpAny_bind (wpAny_standAt (wpAny_bind (wpAny_holding (thn (set_head I4 r1 r pu (Heap.IsSliceOf.new ..) q3) fun _ s5 ⟨H5, I5, q5⟩ => ?_))))
  exact wpAny_release ⟨σ, H5, I5, q5⟩
/-- o[:k] = v as a function of the cells -/
def hdD (o : D) (k : Option Int) (v : D) (A : AH) : Res Unit := match o, k, v with
  | .ref n, some k, .tup ys => match A[n]? with
    | some (.lst xs) => if 0 ≤ k ∧ k ≤ xs.length ∧ xs.length + ys.length ≤ sizeLine then .ok () (A.set n (.lst (ys ++ xs.drop k.toNat))) else .bad
    | _ => .bad
  | _, _, _ => .bad
def gHd (fo : FE) (fk : FO) : FG := fun d s A => (fo s A).bind fun o A1 => (fk s A1).bind fun k A2 => (hdD o k d A2).bind fun _ A3 => .ok s A3
theorem ag_head {o : Expr} {hi : Option Expr} {fo : FE} {fk : FO} {p2 pos : Pos} (ho : AE X E o fo) (hu : AO_ X E hi fk)
    (ha : ∀ v, assign (.Subscript o (.Slice none hi none p2) pos) X.env v = (do
      let x ← holding [v] (eval o X.env)
      let y ← holding [v, x] (eval (.Slice none hi none p2) X.env)
      standAt pos
      holding [v, x, y] (setItem x y v)
      release [y, v, x] []) := by intro _; rfl) : AG X E (.Subscript o (.Slice none hi none p2) pos) (gHd fo fk) := pg_mono (pg_head ho hu ha) fun v σ H Q h => by
  obtain ⟨ρ, s, A, d, hs, R, r, h⟩ := h
  refine ⟨ρ, s, A, hs, R, (Out.bindG h).mono fun x H1 ⟨ρ1, d1, A1, _, e1, R1, r1, h1⟩ => ⟨ρ1, s, A1, hs.ext e1, R1, (Out.bindG h1).mono fun k H2 ⟨ρ2, k2, A2, _, e2, R2, r2, h2⟩ => ?_⟩⟩
  cases r2
  have r1 := r1.ext e2
  have r := r.ext (e1.trans e2)
  have hs := hs.ext (e1.trans e2)
  cases d1 with
  | ref n =>
    cases k with
    | none => exact h2.elim
    | some kk =>
      cases d with
      | tup ys =>
        obtain ⟨a, ha2, rfl⟩ := r1
        obtain ⟨b, us, rfl, q1, q2⟩ := r
        simp only [hdD] at h2
        split at h2
        · rename_i xs e3
          obtain ⟨a', ha', vs, w1, w2⟩ := R2.ob _ _ e3
          rw [ha2] at ha'; cases ha'
          split at h2
          · rename_i c
            have u := upd_lst (ds := xs) R2 ha2 e3 w1 (q2.append (w2.drop kk.toNat))
            exact ⟨kk, rfl, a, b, vs, us, rfl, rfl, w1, .of q1, c.1, by rw [w2.length]; exact c.2.1, by rw [w2.length, q2.length]; exact c.2.2, h2 ρ2 _ σ u.1 u.2 (hs.ext u.1)⟩
          · exact h2.elim
        · exact h2.elim
      | _ => exact h2.elim
  | _ => exact h2.elim
end
end Ab

namespace Ab
open PySem PySem.Spec PyProof.Rows L2
open scoped Classical

/-! ## reasoning about the functions: what an outcome satisfies -/
def Sat {α : Type} (r : Res α) (P : α → AH → Prop) : Prop := match r with
  | .ok a A => P a A
  | _ => False
section
variable {α β : Type} {r : Res α} {k : α → AH → Res β} {P Q : α → AH → Prop} {R : β → AH → Prop} {a : α} {A : AH} {c : Prop} {i : Decidable c}
theorem sat_ok : Sat (.ok a A) P = P a A := rfl
theorem sat_bad : Sat (.bad : Res α) P = False := rfl
theorem sat_bind : Sat (r.bind k) R = Sat r fun a A => Sat (k a A) R := by cases r <;> rfl
theorem sat_ite {x y : Res α} : Sat (if c then x else y) P = if c then Sat x P else Sat y P := by split <;> rfl
theorem Sat.imp (h : Sat r P) (q : ∀ a A, P a A → Q a A) : Sat r Q := by
  cases r with
  | ok a A => exact q a A h
  | _ => exact h
theorem Sat.eq (h : Sat r P) : ∃ a A, r = .ok a A ∧ P a A := by
  cases r with
  | ok a A => exact ⟨a, A, rfl, h⟩
  | _ => exact h.elim
theorem sat_of {a : α} {A : AH} (e : r = .ok a A) (h : P a A) : Sat r P := by rw [e]; exact h
theorem bind_ok : (Res.ok a A).bind k = k a A := rfl
theorem bind_bad : (Res.bad : Res α).bind k = .bad := rfl
end
/-- behind a statement -/
def thn_ (g : FS) (P : Fl → AH → Prop) : Fl → AH → Prop
  | .nx s, A => Sat (g s A) P
  | fl, A => P fl A
/-- at a body's end -/
def fin_ (P : D → AH → Prop) : Fl → AH → Prop
  | .rt d, A => P d A
  | .nx _, A => P .non A
  | _, _ => False
section
variable {f g h : FE} {fs : FA} {p q : FS} {c t u : FT} {gg : FG} {gs : FGs} {s : ASt} {A : AH} {P : Fl → AH → Prop} {Q : D → AH → Prop} {i n np : Nat} {d : D} {ds : List D} {m : FM} {go : D → D → AH → Res D} {gu : D → AH → Res D}
theorem ev_seq : Sat (fSeq p q s A) P = Sat (p s A) (thn_ q P) := by
  unfold fSeq
  cases p s A with
  | ok fl A1 => cases fl <;> rfl
  | _ => rfl
theorem thn_nx : thn_ q P (.nx s) A = Sat (q s A) P := rfl
theorem thn_rt : thn_ q P (.rt d) A = P (.rt d) A := rfl
theorem thn_bk : thn_ q P (.bk s) A = P (.bk s) A := rfl
theorem thn_ct : thn_ q P (.ct s) A = P (.ct s) A := rfl
theorem fin_rt : fin_ Q (.rt d) A = Q d A := rfl
theorem fin_nx : fin_ Q (.nx s) A = Q .non A := rfl
theorem ev_finish {r : Res Fl} : Sat (finish r) Q = Sat r (fin_ Q) := by
  unfold finish
  cases r with
  | ok fl A1 => cases fl <;> rfl
  | _ => rfl
theorem ev_body (e : ds.length = np) : Sat (body np n p ds A) Q = Sat (p (args n ds) A) (fin_ Q) := by
  unfold body
  rw [if_pos e, ev_finish]
theorem sat_body (e : ds.length = np) (h : Sat (p (args n ds) A) (fin_ Q)) : Sat (body np n p ds A) Q := by rw [ev_body e]; exact h
theorem sat_seq (h : Sat (p s A) (thn_ q P)) : Sat (fSeq p q s A) P := by rw [ev_seq]; exact h
theorem sat_ifS {b : Bool} (hc : c s A = .ok b A) (hp : b = true → Sat (p s A) P) (hq : b = false → Sat (q s A) P) : Sat (fIfS c p q s A) P := by
  unfold fIfS
  rw [hc, bind_ok]
  cases b with
  | true => exact hp rfl
  | false => exact hq rfl
theorem ev_v (e : s[i]? = some (some d)) : fV i s A = .ok d A := by unfold fV; rw [e]
theorem ev_c : fC d s A = .ok d A := rfl
theorem ev_op : fOp go f g s A = (f s A).bind fun x A1 => (g s A1).bind fun y A2 => go x y A2 := rfl
theorem ev_un : fUn gu f s A = (f s A).bind fun x A1 => gu x A1 := rfl
theorem ev_chain {go' : D → D → AH → Res D} : fChain go go' f g h s A = (f s A).bind fun x A1 => (g s A1).bind fun y A2 => (go x y A2).bind fun z A3 => match z with
  | .bl true => (h s A3).bind fun w A4 => go' y w A4
  | .bl false => .ok (.bl false) A3
  | _ => .bad := rfl
theorem ev_nil : fNil s A = .ok [] A := rfl
theorem ev_cons : fCons f fs s A = (f s A).bind fun x A1 => (fs s A1).bind fun xs A2 => .ok (x :: xs) A2 := rfl
theorem ev_tup : fTup fs s A = (fs s A).bind tupD := rfl
theorem ev_lst : fLst fs s A = (fs s A).bind lstD := rfl
theorem ev_call : fCall m fs s A = (fs s A).bind fun ds A1 => m ds A1 := rfl
theorem ev_own : fOwn n m fs s A = (fs s A).bind fun ds A1 => if ds.length = n then m ds A1 else .bad := rfl
theorem ev_sl {lo hi : FO} : fSl f lo hi s A = (f s A).bind fun d A1 => (lo s A1).bind fun l A2 => (hi s A2).bind fun h A3 => slD d l h A3 := rfl
theorem ev_no : fNo s A = .ok none A := rfl
theorem ev_part : fPart f s A = (f s A).bind fun d A1 => match d with
  | .int i => .ok (some i) A1
  | _ => .bad := rfl
theorem ev_and : fAnd f g s A = (f s A).bind fun d A1 => (tru d A1).bind fun b A2 => if b = true then g s A2 else .ok d A2 := rfl
theorem ev_or : fOr f g s A = (f s A).bind fun d A1 => (tru d A1).bind fun b A2 => if b = true then .ok d A2 else g s A2 := rfl
theorem ev_not : fNot f s A = (f s A).bind fun d A1 => (tru d A1).bind fun b A2 => .ok (.bl (!b)) A2 := rfl
theorem ev_if : fIf c f g s A = (c s A).bind fun b A1 => if b = true then f s A1 else g s A1 := rfl
theorem ev_t : fT f s A = (f s A).bind tru := rfl
theorem ev_tb : fTB f s A = (f s A).bind fun d A1 => match d with
  | .bl b => .ok b A1
  | _ => .bad := rfl
theorem ev_tnot : fTNot t s A = (t s A).bind fun b A1 => .ok (!b) A1 := rfl
theorem ev_tand : fTAnd t u s A = (t s A).bind fun b A1 => if b = true then u s A1 else .ok false A1 := rfl
theorem ev_tor : fTOr t u s A = (t s A).bind fun b A1 => if b = true then .ok true A1 else u s A1 := rfl
theorem ev_mt {T : String} {gm : D → FM} : fMt T gm f fs s A = (f s A).bind fun d A1 => if isTy T d A1 = true then (fs s A1).bind fun ds A2 => gm d ds A2 else .bad := rfl
theorem ev_mt0 {T : String} {gm : D → FM} : fMt0 T gm f s A = (f s A).bind fun d A1 => if isTy T d A1 = true then gm d [] A1 else .bad := rfl
theorem ev_rgd {k : Int → Int → AH → Res D} : rgD f g k s A = (f s A).bind fun d A1 => (g s A1).bind fun e A2 => match d, e with
  | .int i, .int j => k i j A2
  | _, _ => .bad := rfl
theorem ev_set : fSet f i s A = (f s A).bind fun d A1 => .ok (.nx (s.set i (some d))) A1 := rfl
theorem ev_asg : fAsg f gg s A = (f s A).bind fun d A1 => (gg d s A1).bind fun s' A2 => .ok (.nx s') A2 := rfl
theorem ev_ret : fRet f s A = (f s A).bind fun d A1 => .ok (.rt d) A1 := rfl
theorem ev_retN : fRetN s A = .ok (.rt .non) A := rfl
theorem ev_ex : fEx f s A = (f s A).bind fun _ A1 => .ok (.nx s) A1 := rfl
theorem ev_pass : fPass s A = .ok (.nx s) A := rfl
theorem ev_brk : fBrk s A = .ok (.bk s) A := rfl
theorem ev_cont : fCont s A = .ok (.ct s) A := rfl
theorem ev_ifS : fIfS c p q s A = (c s A).bind fun b A1 => if b = true then p s A1 else q s A1 := rfl
theorem ev_aug {x : D} (e : s[i]? = some (some x)) : fAug i f go s A = (f s A).bind fun y A1 => (go x y A1).bind fun z A2 => .ok (.nx (s.set i (some z))) A2 := by unfold fAug; rw [e]
theorem ev_gn : gN i d s A = .ok (s.set i (some d)) A := rfl
theorem ev_gtp : gTp n gs (.tup ds) s A = if ds.length = n then gs ds s A else .bad := rfl
theorem ev_gnl : gNl [] s A = .ok s A := rfl
theorem ev_gcs : gCs gg gs (d :: ds) s A = (gg d s A).bind fun s1 A1 => gs ds s1 A1 := rfl
theorem ev_gsb : gSb f g d s A = (f s A).bind fun o A1 => (g s A1).bind fun i A2 => (stD o i d A2).bind fun _ A3 => .ok s A3 := rfl
theorem ev_for {src : FI} : fFor src gg p s A = (src s A).bind fun S A1 => loopD S.ok gg p S.items s A1 := rfl
theorem ev_rg1 : fRg1 f s A = (f s A).bind fun d A1 => match d with
  | .int j => if InRg j then .ok ⟨rngL 0 j.toNat, yes⟩ A1 else .bad
  | _ => .bad := rfl
theorem ev_rg2 : fRg2 f g s A = (f s A).bind fun d A1 => (g s A1).bind fun e A2 => match d, e with
  | .int i, .int j => if InRg i ∧ InRg j then .ok ⟨rngL i (j - i).toNat, yes⟩ A2 else .bad
  | _, _ => .bad := rfl
theorem inRg_nat {n : Nat} (h : n ≤ 1000000000) : InRg (n : Int) := ⟨by omega, by omega⟩
theorem inRg_of {n : Int} (h : -1000000000000 ≤ n) (h' : n ≤ 1000000000000) : InRg n := ⟨by omega, by omega⟩
theorem ev_its : fItS f s A = (f s A).bind iSeq := rfl
theorem ev_enum : fEnum f s A = (f s A).bind fun d A1 => match rdL A1 d with
  | some ds => .ok ⟨enumL 0 ds, fun A' => rdL A' d = some ds⟩ A1
  | none => .bad := rfl
theorem ev_lc {src : FI} {vs : List Nat} : fLc src gg t f vs s A = (src s A).bind fun S A1 => loopC S.ok gg t f A1.length (wipeA s vs) S.items (A1 ++ [.lst []]) := rfl
theorem ev_yes : fYes s A = .ok true A := rfl
/-! ### operators on known data -/
theorem ev_add_ii {i j : Int} : addD (.int i) (.int j) A = .ok (.int (i + j)) A := rfl
theorem ev_add_ss {x y : Str} (h : x.length + y.length ≤ sizeLine) : addD (.str x) (.str y) A = .ok (.str (x ++ y)) A := if_pos h
theorem ev_add_tt {x y : List D} (h : x.length + y.length ≤ sizeLine) : addD (.tup x) (.tup y) A = .ok (.tup (x ++ y)) A := if_pos h
theorem ev_add_rr {i j : Nat} {xs ys : List D} (h : muL A (.ref i) = some xs) (h' : muL A (.ref j) = some ys) (z : xs.length + ys.length ≤ sizeLine) : addD (.ref i) (.ref j) A = .ok (.ref A.length) (A ++ [.lst (xs ++ ys)]) := by
  show (match muL A (.ref i), muL A (.ref j) with
    | some xs, some ys => if xs.length + ys.length ≤ sizeLine then alloc (.lst (xs ++ ys)) A else .bad
    | _, _ => .bad) = _
  rw [h, h']
  exact if_pos z
theorem ev_sub {i j : Int} : subD (.int i) (.int j) A = .ok (.int (i - j)) A := rfl
theorem ev_mul {i j : Int} (h : mulOk i j) : mulD (.int i) (.int j) A = .ok (.int (i * j)) A := if_pos h
theorem ev_mod {i j : Int} (h : 0 < j) : modD (.int i) (.int j) A = .ok (.int (i % j)) A := if_pos h
theorem ev_fdiv {i j : Int} (h : CDivW i j) : fdivD (.int i) (.int j) A = .ok (.int (i / j)) A := if_pos h
theorem ev_pow {i j : Int} (h : CPow i j) : powD (.int i) (.int j) A = .ok (.int (i ^ j.toNat)) A := if_pos h
theorem ev_neg {i : Int} : negD (.int i) A = .ok (.int (-i)) A := rfl
theorem ev_lt {i j : Int} : ltD (.int i) (.int j) A = .ok (.bl (decide (i < j))) A := rfl
theorem ev_le {i j : Int} : leD (.int i) (.int j) A = .ok (.bl (decide (i ≤ j))) A := rfl
theorem ev_gt {i j : Int} : gtD (.int i) (.int j) A = .ok (.bl (decide (j < i))) A := rfl
theorem ev_ge {i j : Int} : geD (.int i) (.int j) A = .ok (.bl (decide (j ≤ i))) A := rfl
theorem ev_eq_ii {i j : Int} : eqD (.int i) (.int j) A = .ok (.bl (decide (i = j))) A := rfl
theorem ev_eq_ss {i j : Str} : eqD (.str i) (.str j) A = .ok (.bl (decide (i = j))) A := rfl
theorem ev_eq_bb {i j : Bool} : eqD (.bl i) (.bl j) A = .ok (.bl (decide (i = j))) A := rfl
theorem ev_ne_ii {i j : Int} : neD (.int i) (.int j) A = .ok (.bl (!decide (i = j))) A := rfl
theorem ev_ne_ss {i j : Str} : neD (.str i) (.str j) A = .ok (.bl (!decide (i = j))) A := rfl
theorem ev_ne_bb {i j : Bool} : neD (.bl i) (.bl j) A = .ok (.bl (!decide (i = j))) A := rfl
theorem ev_is_n : isD d .non A = .ok (.bl (isNon d)) A := by cases d <;> rfl
theorem ev_isnt_n : isntD d .non A = .ok (.bl (!isNon d)) A := by cases d <;> rfl
theorem ev_int_i {i : Int} : intD [.int i] A = .ok (.int i) A := rfl
theorem ev_int_b {i : Bool} : intD [.bl i] A = .ok (.int (if i then 1 else 0)) A := rfl
theorem ev_min_ii {i j : Int} : minD [.int i, .int j] A = .ok (.int (if j < i then j else i)) A := rfl
theorem ev_max_ii {i j : Int} : maxD [.int i, .int j] A = .ok (.int (if j > i then j else i)) A := rfl
theorem ev_abs {i : Int} : absD [.int i] A = .ok (.int (if i < 0 then -i else i)) A := rfl
theorem ev_tup_of : Ab.tupOf [D.tup ds] A = .ok (.tup ds) A := rfl
theorem ev_tup_ofL (h : rdL A (.ref n) = some ds) : Ab.tupOf [D.ref n] A = .ok (.tup ds) A := by
  show (match rdL A (.ref n) with
    | some xs => Res.ok (D.tup xs) A
    | none => .bad) = _
  rw [h]
theorem ev_lst_ofT : lstOf [.tup ds] A = .ok (.ref A.length) (A ++ [.lst ds]) := rfl
theorem ev_lst_ofL (h : rdL A (.ref n) = some ds) : lstOf [.ref n] A = .ok (.ref A.length) (A ++ [.lst ds]) := by
  show (match rdS A (.ref n) with
    | some xs => alloc (.lst xs) A
    | none => _) = _
  rw [show rdS A (.ref n) = some ds from h]
  rfl
theorem ev_len_t : lenD [.tup ds] A = .ok (.int ds.length) A := rfl
theorem ev_len_s {x : Str} (h : x.length ≤ sizeLine) : lenD [.str x] A = .ok (.int x.length) A := if_pos h
theorem ev_len_r (h : rdL A (.ref n) = some ds) : lenD [.ref n] A = .ok (.int ds.length) A := by
  show (match rdS A (.ref n) with
    | some xs => Res.ok (D.int xs.length) A
    | none => _) = _
  rw [show rdS A (.ref n) = some ds from h]
theorem atI_pos {α : Type} {xs : List α} {i : Int} (h : 0 ≤ i) : L2.atI xs i = xs[i.toNat]? := by
  unfold L2.atI ixN
  rw [if_pos h]
  by_cases hl : i < xs.length
  · rw [if_pos hl]; rfl
  · rw [if_neg hl]
    show none = _
    rw [List.getElem?_eq_none (by omega)]
theorem ev_ix_t {k : Int} {x : D} (h : L2.atI ds k = some x) : ixD (.tup ds) (D.int k) A = .ok x A := by
  show ixSeq ds k A = _
  unfold ixSeq
  rw [h]
theorem ev_ix_r {k : Int} {x : D} (h : rdL A (.ref n) = some ds) (h2 : L2.atI ds k = some x) : ixD (.ref n) (.int k) A = .ok x A := by
  show (match rdS A (.ref n) with
    | some xs => ixSeq xs k A
    | none => _) = _
  rw [show rdS A (.ref n) = some ds from h]
  show ixSeq ds k A = _
  unfold ixSeq
  rw [h2]
theorem ev_ix_s {z : Str} {k : Int} {c : Nat} (h : z.length ≤ sizeLine) (h2 : L2.atI z.cps.toList k = some c) : ixD (.str z) (.int k) A = .ok (.str ⟨#[c]⟩) A := by
  show (if z.length ≤ sizeLine then (match L2.atI z.cps.toList k with | some c => Res.ok (D.str ⟨#[c]⟩) A | none => .bad) else .bad) = _
  rw [if_pos h, h2]
theorem ev_st_l {xs : List D} {k : Int} {j : Nat} (h : A[n]? = some (.lst xs)) (h2 : ixN xs.length k = some j) : stD (.ref n) (.int k) d A = .ok () (A.set n (.lst (xs.set j d))) := by
  show (match A[n]? with
    | some (.lst xs) => _
    | some (.dic kvs) => _
    | _ => _) = _
  rw [h]
  show (match ixN xs.length k with
    | some j => Res.ok () (A.set n (.lst (xs.set j d)))
    | none => .bad) = _
  rw [h2]
theorem rdL_l {xs : List D} (h : A[n]? = some (.lst xs)) : rdL A (.ref n) = some xs := by
  show (match A[n]? with
    | some (.lst xs) => some xs
    | some (.frz xs) => some xs
    | _ => none) = _
  rw [h]
theorem rdL_f {xs : List D} (h : A[n]? = some (.frz xs)) : rdL A (.ref n) = some xs := by
  show (match A[n]? with
    | some (.lst xs) => some xs
    | some (.frz xs) => some xs
    | _ => none) = _
  rw [h]
theorem muL_l {xs : List D} (h : A[n]? = some (.lst xs)) : muL A (.ref n) = some xs := by
  show (match A[n]? with
    | some (.lst xs) => some xs
    | _ => none) = _
  rw [h]
theorem mulOk_l {i j : Int} (h1 : -(2 ^ 64) < i) (h2 : i < 2 ^ 64) : mulOk i j := .inl (.inl ⟨h1, h2⟩)
theorem mulOk_r {i j : Int} (h1 : -(2 ^ 64) < j) (h2 : j < 2 ^ 64) : mulOk i j := .inl (.inr ⟨h1, h2⟩)
theorem divOk {i j : Int} (h1 : 0 < j) (h2 : j < 2 ^ 200) : CDivW i j := wide_div (b := 200) h1 (by omega) (by decide) (by decide)
theorem powOk {i j : Int} (h1 : 0 ≤ j) (h2 : j ≤ 1000000) (h3 : i.natAbs < 2 ^ 64) : CPow i j := ⟨h1, h2, h3⟩
theorem ev_alloc {o : AO} : Ab.alloc o A = .ok (.ref A.length) (A ++ [o]) := rfl
theorem ev_tupD (h : ds.length ≤ 10000) : tupD ds A = .ok (.tup ds) A := if_pos (Nat.le_trans h (by decide))
theorem ev_lstD (h : ds.length ≤ 10000) : lstD ds A = .ok (.ref A.length) (A ++ [.lst ds]) := if_pos (Nat.le_trans h (by decide))
theorem sl_le {n : Nat} (h : n ≤ 16777216) : n ≤ sizeLine := h
theorem ev_tru_b {b : Bool} : tru (.bl b) A = .ok b A := rfl
end

/-! ### isinstance -/
theorem isi_tuple_non  {A : AH} : isiD "tuple" (.non) A = .ok (.bl false) A := by
  show (match kitB "NoneType" "tuple" with | some b => Res.ok (D.bl b) A | none => .bad) = _
  rw [show kitB "NoneType" "tuple" = some false by decide +kernel]
theorem isi_tuple_bl {b : Bool} {A : AH} : isiD "tuple" (.bl b) A = .ok (.bl false) A := by
  show (match kitB "bool" "tuple" with | some b => Res.ok (D.bl b) A | none => .bad) = _
  rw [show kitB "bool" "tuple" = some false by decide +kernel]
theorem isi_tuple_int {i : Int} {A : AH} : isiD "tuple" (.int i) A = .ok (.bl false) A := by
  show (match kitB "int" "tuple" with | some b => Res.ok (D.bl b) A | none => .bad) = _
  rw [show kitB "int" "tuple" = some false by decide +kernel]
theorem isi_tuple_str {x : Str} {A : AH} : isiD "tuple" (.str x) A = .ok (.bl false) A := by
  show (match kitB "str" "tuple" with | some b => Res.ok (D.bl b) A | none => .bad) = _
  rw [show kitB "str" "tuple" = some false by decide +kernel]
theorem isi_tuple_tup {ds : List D} {A : AH} : isiD "tuple" (.tup ds) A = .ok (.bl true) A := by
  show (match kitB "tuple" "tuple" with | some b => Res.ok (D.bl b) A | none => .bad) = _
  rw [show kitB "tuple" "tuple" = some true by decide +kernel]
theorem isi_tuple_l {A : AH} {n : Nat} {xs : List D} (h : A[n]? = some (.lst xs)) : isiD "tuple" (.ref n) A = .ok (.bl false) A := by
  unfold isiD
  rw [show tyN A (.ref n) = some "list" by simp only [tyN, h]]
  show (match kitB "list" "tuple" with | some b => Res.ok (D.bl b) A | none => .bad) = _
  rw [show kitB "list" "tuple" = some false by decide +kernel]
theorem isi_tuple_f {A : AH} {n : Nat} {xs : List D} (h : A[n]? = some (.frz xs)) : isiD "tuple" (.ref n) A = .ok (.bl false) A := by
  unfold isiD
  rw [show tyN A (.ref n) = some "list" by simp only [tyN, h]]
  show (match kitB "list" "tuple" with | some b => Res.ok (D.bl b) A | none => .bad) = _
  rw [show kitB "list" "tuple" = some false by decide +kernel]
theorem isi_list_non  {A : AH} : isiD "list" (.non) A = .ok (.bl false) A := by
  show (match kitB "NoneType" "list" with | some b => Res.ok (D.bl b) A | none => .bad) = _
  rw [show kitB "NoneType" "list" = some false by decide +kernel]
theorem isi_list_bl {b : Bool} {A : AH} : isiD "list" (.bl b) A = .ok (.bl false) A := by
  show (match kitB "bool" "list" with | some b => Res.ok (D.bl b) A | none => .bad) = _
  rw [show kitB "bool" "list" = some false by decide +kernel]
theorem isi_list_int {i : Int} {A : AH} : isiD "list" (.int i) A = .ok (.bl false) A := by
  show (match kitB "int" "list" with | some b => Res.ok (D.bl b) A | none => .bad) = _
  rw [show kitB "int" "list" = some false by decide +kernel]
theorem isi_list_str {x : Str} {A : AH} : isiD "list" (.str x) A = .ok (.bl false) A := by
  show (match kitB "str" "list" with | some b => Res.ok (D.bl b) A | none => .bad) = _
  rw [show kitB "str" "list" = some false by decide +kernel]
theorem isi_list_tup {ds : List D} {A : AH} : isiD "list" (.tup ds) A = .ok (.bl false) A := by
  show (match kitB "tuple" "list" with | some b => Res.ok (D.bl b) A | none => .bad) = _
  rw [show kitB "tuple" "list" = some false by decide +kernel]
theorem isi_list_l {A : AH} {n : Nat} {xs : List D} (h : A[n]? = some (.lst xs)) : isiD "list" (.ref n) A = .ok (.bl true) A := by
  unfold isiD
  rw [show tyN A (.ref n) = some "list" by simp only [tyN, h]]
  show (match kitB "list" "list" with | some b => Res.ok (D.bl b) A | none => .bad) = _
  rw [show kitB "list" "list" = some true by decide +kernel]
theorem isi_list_f {A : AH} {n : Nat} {xs : List D} (h : A[n]? = some (.frz xs)) : isiD "list" (.ref n) A = .ok (.bl true) A := by
  unfold isiD
  rw [show tyN A (.ref n) = some "list" by simp only [tyN, h]]
  show (match kitB "list" "list" with | some b => Res.ok (D.bl b) A | none => .bad) = _
  rw [show kitB "list" "list" = some true by decide +kernel]
theorem isi_bool_non  {A : AH} : isiD "bool" (.non) A = .ok (.bl false) A := by
  show (match kitB "NoneType" "bool" with | some b => Res.ok (D.bl b) A | none => .bad) = _
  rw [show kitB "NoneType" "bool" = some false by decide +kernel]
theorem isi_bool_bl {b : Bool} {A : AH} : isiD "bool" (.bl b) A = .ok (.bl true) A := by
  show (match kitB "bool" "bool" with | some b => Res.ok (D.bl b) A | none => .bad) = _
  rw [show kitB "bool" "bool" = some true by decide +kernel]
theorem isi_bool_int {i : Int} {A : AH} : isiD "bool" (.int i) A = .ok (.bl false) A := by
  show (match kitB "int" "bool" with | some b => Res.ok (D.bl b) A | none => .bad) = _
  rw [show kitB "int" "bool" = some false by decide +kernel]
theorem isi_bool_str {x : Str} {A : AH} : isiD "bool" (.str x) A = .ok (.bl false) A := by
  show (match kitB "str" "bool" with | some b => Res.ok (D.bl b) A | none => .bad) = _
  rw [show kitB "str" "bool" = some false by decide +kernel]
theorem isi_bool_tup {ds : List D} {A : AH} : isiD "bool" (.tup ds) A = .ok (.bl false) A := by
  show (match kitB "tuple" "bool" with | some b => Res.ok (D.bl b) A | none => .bad) = _
  rw [show kitB "tuple" "bool" = some false by decide +kernel]
theorem isi_bool_l {A : AH} {n : Nat} {xs : List D} (h : A[n]? = some (.lst xs)) : isiD "bool" (.ref n) A = .ok (.bl false) A := by
  unfold isiD
  rw [show tyN A (.ref n) = some "list" by simp only [tyN, h]]
  show (match kitB "list" "bool" with | some b => Res.ok (D.bl b) A | none => .bad) = _
  rw [show kitB "list" "bool" = some false by decide +kernel]
theorem isi_bool_f {A : AH} {n : Nat} {xs : List D} (h : A[n]? = some (.frz xs)) : isiD "bool" (.ref n) A = .ok (.bl false) A := by
  unfold isiD
  rw [show tyN A (.ref n) = some "list" by simp only [tyN, h]]
  show (match kitB "list" "bool" with | some b => Res.ok (D.bl b) A | none => .bad) = _
  rw [show kitB "list" "bool" = some false by decide +kernel]
theorem isi_int_non  {A : AH} : isiD "int" (.non) A = .ok (.bl false) A := by
  show (match kitB "NoneType" "int" with | some b => Res.ok (D.bl b) A | none => .bad) = _
  rw [show kitB "NoneType" "int" = some false by decide +kernel]
theorem isi_int_bl {b : Bool} {A : AH} : isiD "int" (.bl b) A = .ok (.bl true) A := by
  show (match kitB "bool" "int" with | some b => Res.ok (D.bl b) A | none => .bad) = _
  rw [show kitB "bool" "int" = some true by decide +kernel]
theorem isi_int_int {i : Int} {A : AH} : isiD "int" (.int i) A = .ok (.bl true) A := by
  show (match kitB "int" "int" with | some b => Res.ok (D.bl b) A | none => .bad) = _
  rw [show kitB "int" "int" = some true by decide +kernel]
theorem isi_int_str {x : Str} {A : AH} : isiD "int" (.str x) A = .ok (.bl false) A := by
  show (match kitB "str" "int" with | some b => Res.ok (D.bl b) A | none => .bad) = _
  rw [show kitB "str" "int" = some false by decide +kernel]
theorem isi_int_tup {ds : List D} {A : AH} : isiD "int" (.tup ds) A = .ok (.bl false) A := by
  show (match kitB "tuple" "int" with | some b => Res.ok (D.bl b) A | none => .bad) = _
  rw [show kitB "tuple" "int" = some false by decide +kernel]
theorem isi_int_l {A : AH} {n : Nat} {xs : List D} (h : A[n]? = some (.lst xs)) : isiD "int" (.ref n) A = .ok (.bl false) A := by
  unfold isiD
  rw [show tyN A (.ref n) = some "list" by simp only [tyN, h]]
  show (match kitB "list" "int" with | some b => Res.ok (D.bl b) A | none => .bad) = _
  rw [show kitB "list" "int" = some false by decide +kernel]
theorem isi_int_f {A : AH} {n : Nat} {xs : List D} (h : A[n]? = some (.frz xs)) : isiD "int" (.ref n) A = .ok (.bl false) A := by
  unfold isiD
  rw [show tyN A (.ref n) = some "list" by simp only [tyN, h]]
  show (match kitB "list" "int" with | some b => Res.ok (D.bl b) A | none => .bad) = _
  rw [show kitB "list" "int" = some false by decide +kernel]
theorem isi_str_non  {A : AH} : isiD "str" (.non) A = .ok (.bl false) A := by
  show (match kitB "NoneType" "str" with | some b => Res.ok (D.bl b) A | none => .bad) = _
  rw [show kitB "NoneType" "str" = some false by decide +kernel]
theorem isi_str_bl {b : Bool} {A : AH} : isiD "str" (.bl b) A = .ok (.bl false) A := by
  show (match kitB "bool" "str" with | some b => Res.ok (D.bl b) A | none => .bad) = _
  rw [show kitB "bool" "str" = some false by decide +kernel]
theorem isi_str_int {i : Int} {A : AH} : isiD "str" (.int i) A = .ok (.bl false) A := by
  show (match kitB "int" "str" with | some b => Res.ok (D.bl b) A | none => .bad) = _
  rw [show kitB "int" "str" = some false by decide +kernel]
theorem isi_str_str {x : Str} {A : AH} : isiD "str" (.str x) A = .ok (.bl true) A := by
  show (match kitB "str" "str" with | some b => Res.ok (D.bl b) A | none => .bad) = _
  rw [show kitB "str" "str" = some true by decide +kernel]
theorem isi_str_tup {ds : List D} {A : AH} : isiD "str" (.tup ds) A = .ok (.bl false) A := by
  show (match kitB "tuple" "str" with | some b => Res.ok (D.bl b) A | none => .bad) = _
  rw [show kitB "tuple" "str" = some false by decide +kernel]
theorem isi_str_l {A : AH} {n : Nat} {xs : List D} (h : A[n]? = some (.lst xs)) : isiD "str" (.ref n) A = .ok (.bl false) A := by
  unfold isiD
  rw [show tyN A (.ref n) = some "list" by simp only [tyN, h]]
  show (match kitB "list" "str" with | some b => Res.ok (D.bl b) A | none => .bad) = _
  rw [show kitB "list" "str" = some false by decide +kernel]
theorem isi_str_f {A : AH} {n : Nat} {xs : List D} (h : A[n]? = some (.frz xs)) : isiD "str" (.ref n) A = .ok (.bl false) A := by
  unfold isiD
  rw [show tyN A (.ref n) = some "list" by simp only [tyN, h]]
  show (match kitB "list" "str" with | some b => Res.ok (D.bl b) A | none => .bad) = _
  rw [show kitB "list" "str" = some false by decide +kernel]
theorem isi_dict_non  {A : AH} : isiD "dict" (.non) A = .ok (.bl false) A := by
  show (match kitB "NoneType" "dict" with | some b => Res.ok (D.bl b) A | none => .bad) = _
  rw [show kitB "NoneType" "dict" = some false by decide +kernel]
theorem isi_dict_bl {b : Bool} {A : AH} : isiD "dict" (.bl b) A = .ok (.bl false) A := by
  show (match kitB "bool" "dict" with | some b => Res.ok (D.bl b) A | none => .bad) = _
  rw [show kitB "bool" "dict" = some false by decide +kernel]
theorem isi_dict_int {i : Int} {A : AH} : isiD "dict" (.int i) A = .ok (.bl false) A := by
  show (match kitB "int" "dict" with | some b => Res.ok (D.bl b) A | none => .bad) = _
  rw [show kitB "int" "dict" = some false by decide +kernel]
theorem isi_dict_str {x : Str} {A : AH} : isiD "dict" (.str x) A = .ok (.bl false) A := by
  show (match kitB "str" "dict" with | some b => Res.ok (D.bl b) A | none => .bad) = _
  rw [show kitB "str" "dict" = some false by decide +kernel]
theorem isi_dict_tup {ds : List D} {A : AH} : isiD "dict" (.tup ds) A = .ok (.bl false) A := by
  show (match kitB "tuple" "dict" with | some b => Res.ok (D.bl b) A | none => .bad) = _
  rw [show kitB "tuple" "dict" = some false by decide +kernel]
theorem isi_dict_l {A : AH} {n : Nat} {xs : List D} (h : A[n]? = some (.lst xs)) : isiD "dict" (.ref n) A = .ok (.bl false) A := by
  unfold isiD
  rw [show tyN A (.ref n) = some "list" by simp only [tyN, h]]
  show (match kitB "list" "dict" with | some b => Res.ok (D.bl b) A | none => .bad) = _
  rw [show kitB "list" "dict" = some false by decide +kernel]
theorem isi_dict_f {A : AH} {n : Nat} {xs : List D} (h : A[n]? = some (.frz xs)) : isiD "dict" (.ref n) A = .ok (.bl false) A := by
  unfold isiD
  rw [show tyN A (.ref n) = some "list" by simp only [tyN, h]]
  show (match kitB "list" "dict" with | some b => Res.ok (D.bl b) A | none => .bad) = _
  rw [show kitB "list" "dict" = some false by decide +kernel]
/-! ## loops -/
theorem loop_nil {ok : AH → Prop} {g : FG} {p : FS} {s : ASt} {A : AH} (h : ok A) : loopD ok g p [] s A = .ok (.nx s) A := by
  unfold loopD; rw [if_pos h]
/-- what a turn's end leads to -/
def turn_ (k : ASt → AH → Prop) (P : Fl → AH → Prop) : Fl → AH → Prop
  | .nx s, A => k s A
  | .ct s, A => k s A
  | .bk s, A => P (.nx s) A
  | .rt d, A => P (.rt d) A
theorem loop_cons {ok : AH → Prop} {g : FG} {p : FS} {d : D} {ds : List D} {s : ASt} {A : AH} {P : Fl → AH → Prop} (h : ok A) :
    Sat (loopD ok g p (d :: ds) s A) P = Sat (g d s A) fun s1 A1 => Sat (p s1 A1) (turn_ (fun s2 A2 => Sat (loopD ok g p ds s2 A2) P) P) := by
  rw [loopD, if_pos h, sat_bind]
  congr 1
  funext s1 A1
  cases p s1 A1 with
  | ok fl A2 => cases fl <;> rfl
  | _ => rfl
/-- a for by an invariant over the items that are left -/
theorem loop_inv {ok : AH → Prop} {g : FG} {p : FS} {P : Fl → AH → Prop} (I : List D → ASt → AH → Prop)
    (turn : ∀ d ds s A, I (d :: ds) s A → ok A ∧ Sat (g d s A) fun s1 A1 => Sat (p s1 A1) (turn_ (I ds) P)) (last : ∀ s A, I [] s A → ok A ∧ P (.nx s) A) :
    ∀ (ds : List D) (s : ASt) (A : AH), I ds s A → Sat (loopD ok g p ds s A) P
  | [], s, A, h => by
    rw [loop_nil (last s A h).1]
    exact (last s A h).2
  | d :: ds, s, A, h => by
    obtain ⟨h1, h2⟩ := turn d ds s A h
    rw [loop_cons h1]
    refine h2.imp fun s1 A1 h3 => h3.imp fun fl A2 h4 => ?_
    cases fl with
    | nx s2 => exact loop_inv I turn last ds s2 A2 h4
    | ct s2 => exact loop_inv I turn last ds s2 A2 h4
    | bk s2 => exact h4
    | rt d => exact h4
/-- a for over a range by an invariant over the turns -/
theorem range_inv {g : FG} {p : FS} {P : Fl → AH → Prop} {lo : Int} {n : Nat} (I : Nat → ASt → AH → Prop)
    (turn : ∀ k s A, k < n → I k s A → Sat (g (.int (lo + (k : Nat))) s A) fun s1 A1 => Sat (p s1 A1) (turn_ (I (k + 1)) P)) (last : ∀ s A, I n s A → P (.nx s) A)
    {s : ASt} {A : AH} (h : I 0 s A) : Sat (loopD yes g p (rngL lo n) s A) P := by
  have e : rngL lo n = (List.range' 0 n).map fun k => .int (lo + (k : Nat)) := by rw [← List.range_eq_range']; rfl
  have key : ∀ (m k : Nat) (s : ASt) (A : AH), k + m = n → I k s A → Sat (loopD yes g p ((List.range' k m).map fun k => .int (lo + (k : Nat))) s A) P := by
    intro m
    induction m with
    | zero => intro k s A hk h; rw [show k = n by omega] at h; rw [List.range'_zero, List.map_nil, loop_nil trivial]; exact last s A h
    | succ m ih =>
      intro k s A hk h
      rw [List.range'_succ, List.map_cons, loop_cons trivial]
      refine (turn k s A (by omega) h).imp fun s1 A1 h3 => h3.imp fun fl A2 h4 => ?_
      cases fl with
      | nx s2 => exact ih (k + 1) s2 A2 (by omega) h4
      | ct s2 => exact ih (k + 1) s2 A2 (by omega) h4
      | bk s2 => exact h4
      | rt d => exact h4
  rw [e]
  exact key n 0 s A (by omega) h
/-! ## the evaluation lemmas in one -/
theorem EV : type_of% (And.intro (And.intro (And.intro (And.intro (And.intro (And.intro (And.intro (@sat_ok) (@sat_bad)) (And.intro (@sat_bind) (@sat_ite))) (And.intro (And.intro (@bind_ok) (@bind_bad)) (And.intro (@thn_nx) (@thn_rt)))) (And.intro (And.intro (And.intro (@thn_bk) (@thn_ct)) (And.intro (@fin_rt) (@fin_nx))) (And.intro (And.intro (@ev_v) (@ev_c)) (And.intro (@ev_op) (And.intro (@ev_un) (@ev_nil)))))) (And.intro (And.intro (And.intro (And.intro (@ev_cons) (@ev_tup)) (And.intro (@ev_lst) (@ev_call))) (And.intro (And.intro (@ev_own) (@ev_sl)) (And.intro (@ev_no) (@ev_part)))) (And.intro (And.intro (And.intro (@ev_and) (@ev_or)) (And.intro (@ev_not) (@ev_if))) (And.intro (And.intro (@ev_t) (@ev_tb)) (And.intro (@ev_tnot) (And.intro (@ev_tand) (@ev_tor))))))) (And.intro (And.intro (And.intro (And.intro (And.intro (@ev_mt) (@ev_mt0)) (And.intro (@ev_rgd) (@ev_set))) (And.intro (And.intro (@ev_asg) (@ev_ret)) (And.intro (@ev_retN) (@ev_ex)))) (And.intro (And.intro (And.intro (@ev_pass) (@ev_brk)) (And.intro (@ev_cont) (@ev_ifS))) (And.intro (And.intro (@ev_aug) (@ev_gn)) (And.intro (@ev_gtp) (And.intro (@ev_gnl) (@ev_gcs)))))) (And.intro (And.intro (And.intro (And.intro (@ev_gsb) (@ev_for)) (And.intro (@ev_rg1) (@ev_rg2))) (And.intro (And.intro (@ev_its) (@ev_enum)) (And.intro (@ev_lc) (And.intro (@ev_yes) (@ev_add_ii))))) (And.intro (And.intro (And.intro (@ev_add_ss) (@ev_add_tt)) (And.intro (@ev_add_rr) (@ev_sub))) (And.intro (And.intro (@ev_mul) (@ev_mod)) (And.intro (@ev_fdiv) (And.intro (@ev_pow) (@ev_neg)))))))) (And.intro (And.intro (And.intro (And.intro (And.intro (And.intro (@ev_lt) (@ev_le)) (And.intro (@ev_gt) (@ev_ge))) (And.intro (And.intro (@ev_eq_ii) (@ev_eq_ss)) (And.intro (@ev_eq_bb) (@ev_ne_ii)))) (And.intro (And.intro (And.intro (@ev_ne_ss) (@ev_ne_bb)) (And.intro (@ev_is_n) (@ev_isnt_n))) (And.intro (And.intro (@ev_int_i) (@ev_int_b)) (And.intro (@ev_min_ii) (And.intro (@ev_max_ii) (@ev_abs)))))) (And.intro (And.intro (And.intro (And.intro (@ev_tup_of) (@ev_tup_ofL)) (And.intro (@ev_lst_ofT) (@ev_lst_ofL))) (And.intro (And.intro (@ev_len_t) (@ev_len_s)) (And.intro (@ev_len_r) (And.intro (@ev_tru_b) (@ev_alloc))))) (And.intro (And.intro (And.intro (@ev_tupD) (@ev_lstD)) (And.intro (@isi_tuple_non) (@isi_tuple_bl))) (And.intro (And.intro (@isi_tuple_int) (@isi_tuple_str)) (And.intro (@isi_tuple_tup) (And.intro (@isi_tuple_l) (@isi_tuple_f))))))) (And.intro (And.intro (And.intro (And.intro (And.intro (@isi_list_non) (@isi_list_bl)) (And.intro (@isi_list_int) (@isi_list_str))) (And.intro (And.intro (@isi_list_tup) (@isi_list_l)) (And.intro (@isi_list_f) (@isi_bool_non)))) (And.intro (And.intro (And.intro (@isi_bool_bl) (@isi_bool_int)) (And.intro (@isi_bool_str) (@isi_bool_tup))) (And.intro (And.intro (@isi_bool_l) (@isi_bool_f)) (And.intro (@isi_int_non) (And.intro (@isi_int_bl) (@isi_int_int)))))) (And.intro (And.intro (And.intro (And.intro (@isi_int_str) (@isi_int_tup)) (And.intro (@isi_int_l) (@isi_int_f))) (And.intro (And.intro (@isi_str_non) (@isi_str_bl)) (And.intro (@isi_str_int) (And.intro (@isi_str_str) (@isi_str_tup))))) (And.intro (And.intro (And.intro (@isi_str_l) (@isi_str_f)) (And.intro (@isi_dict_non) (@isi_dict_bl))) (And.intro (And.intro (@isi_dict_int) (@isi_dict_str)) (And.intro (@isi_dict_tup) (And.intro (@isi_dict_l) (@isi_dict_f))))))))) := And.intro (And.intro (And.intro (And.intro (And.intro (And.intro (And.intro (@sat_ok) (@sat_bad)) (And.intro (@sat_bind) (@sat_ite))) (And.intro (And.intro (@bind_ok) (@bind_bad)) (And.intro (@thn_nx) (@thn_rt)))) (And.intro (And.intro (And.intro (@thn_bk) (@thn_ct)) (And.intro (@fin_rt) (@fin_nx))) (And.intro (And.intro (@ev_v) (@ev_c)) (And.intro (@ev_op) (And.intro (@ev_un) (@ev_nil)))))) (And.intro (And.intro (And.intro (And.intro (@ev_cons) (@ev_tup)) (And.intro (@ev_lst) (@ev_call))) (And.intro (And.intro (@ev_own) (@ev_sl)) (And.intro (@ev_no) (@ev_part)))) (And.intro (And.intro (And.intro (@ev_and) (@ev_or)) (And.intro (@ev_not) (@ev_if))) (And.intro (And.intro (@ev_t) (@ev_tb)) (And.intro (@ev_tnot) (And.intro (@ev_tand) (@ev_tor))))))) (And.intro (And.intro (And.intro (And.intro (And.intro (@ev_mt) (@ev_mt0)) (And.intro (@ev_rgd) (@ev_set))) (And.intro (And.intro (@ev_asg) (@ev_ret)) (And.intro (@ev_retN) (@ev_ex)))) (And.intro (And.intro (And.intro (@ev_pass) (@ev_brk)) (And.intro (@ev_cont) (@ev_ifS))) (And.intro (And.intro (@ev_aug) (@ev_gn)) (And.intro (@ev_gtp) (And.intro (@ev_gnl) (@ev_gcs)))))) (And.intro (And.intro (And.intro (And.intro (@ev_gsb) (@ev_for)) (And.intro (@ev_rg1) (@ev_rg2))) (And.intro (And.intro (@ev_its) (@ev_enum)) (And.intro (@ev_lc) (And.intro (@ev_yes) (@ev_add_ii))))) (And.intro (And.intro (And.intro (@ev_add_ss) (@ev_add_tt)) (And.intro (@ev_add_rr) (@ev_sub))) (And.intro (And.intro (@ev_mul) (@ev_mod)) (And.intro (@ev_fdiv) (And.intro (@ev_pow) (@ev_neg)))))))) (And.intro (And.intro (And.intro (And.intro (And.intro (And.intro (@ev_lt) (@ev_le)) (And.intro (@ev_gt) (@ev_ge))) (And.intro (And.intro (@ev_eq_ii) (@ev_eq_ss)) (And.intro (@ev_eq_bb) (@ev_ne_ii)))) (And.intro (And.intro (And.intro (@ev_ne_ss) (@ev_ne_bb)) (And.intro (@ev_is_n) (@ev_isnt_n))) (And.intro (And.intro (@ev_int_i) (@ev_int_b)) (And.intro (@ev_min_ii) (And.intro (@ev_max_ii) (@ev_abs)))))) (And.intro (And.intro (And.intro (And.intro (@ev_tup_of) (@ev_tup_ofL)) (And.intro (@ev_lst_ofT) (@ev_lst_ofL))) (And.intro (And.intro (@ev_len_t) (@ev_len_s)) (And.intro (@ev_len_r) (And.intro (@ev_tru_b) (@ev_alloc))))) (And.intro (And.intro (And.intro (@ev_tupD) (@ev_lstD)) (And.intro (@isi_tuple_non) (@isi_tuple_bl))) (And.intro (And.intro (@isi_tuple_int) (@isi_tuple_str)) (And.intro (@isi_tuple_tup) (And.intro (@isi_tuple_l) (@isi_tuple_f))))))) (And.intro (And.intro (And.intro (And.intro (And.intro (@isi_list_non) (@isi_list_bl)) (And.intro (@isi_list_int) (@isi_list_str))) (And.intro (And.intro (@isi_list_tup) (@isi_list_l)) (And.intro (@isi_list_f) (@isi_bool_non)))) (And.intro (And.intro (And.intro (@isi_bool_bl) (@isi_bool_int)) (And.intro (@isi_bool_str) (@isi_bool_tup))) (And.intro (And.intro (@isi_bool_l) (@isi_bool_f)) (And.intro (@isi_int_non) (And.intro (@isi_int_bl) (@isi_int_int)))))) (And.intro (And.intro (And.intro (And.intro (@isi_int_str) (@isi_int_tup)) (And.intro (@isi_int_l) (@isi_int_f))) (And.intro (And.intro (@isi_str_non) (@isi_str_bl)) (And.intro (@isi_str_int) (And.intro (@isi_str_str) (@isi_str_tup))))) (And.intro (And.intro (And.intro (@isi_str_l) (@isi_str_f)) (And.intro (@isi_dict_non) (@isi_dict_bl))) (And.intro (And.intro (@isi_dict_int) (@isi_dict_str)) (And.intro (@isi_dict_tup) (And.intro (@isi_dict_l) (@isi_dict_f))))))))
end Ab

namespace Ab
open PySem PySem.Spec PyProof.Rows L2
open scoped Classical

/-! ## what the drawing helpers of the laws leave -/
/-- at s stands a source of drawn numbers -/
def Sr (s : Nat) (A : AH) : Prop := ∃ c r k : Int, A[s]? = some (.lst [.int c, .int r, .int k])
/-- all cells but the source are as they were; new ones may have come -/
structure Dr (s : Nat) (A A' : AH) : Prop where
  le : A.length ≤ A'.length
  keep : ∀ i o, i ≠ s → A[i]? = some o → A'[i]? = some o
  src : Sr s A'
theorem Dr.refl {s : Nat} {A : AH} (h : Sr s A) : Dr s A A := ⟨Nat.le_refl _, fun _ _ _ h => h, h⟩
theorem Dr.trans {s : Nat} {A B C : AH} (h : Dr s A B) (h' : Dr s B C) : Dr s A C := ⟨Nat.le_trans h.le h'.le, fun i o n e => h'.keep i o n (h.keep i o n e), h'.src⟩
theorem Sr.lt {s : Nat} {A : AH} (h : Sr s A) : s < A.length := by
  obtain ⟨c, r, k, h⟩ := h
  exact (List.getElem?_eq_some_iff.mp h).1
theorem Dr.app {s : Nat} {A : AH} (h : Sr s A) (B : AH) : Dr s A (A ++ B) := by
  have app : ∀ (i : Nat) o, A[i]? = some o → (A ++ B)[i]? = some o := fun i o e => by
    rw [List.getElem?_append_left (List.getElem?_eq_some_iff.mp e).1]; exact e
  obtain ⟨c, r, k, h⟩ := h
  exact ⟨by simp, fun i o _ e => app i o e, c, r, k, app s _ h⟩
theorem Dr.set {s : Nat} {A : AH} {c r k : Int} (h : s < A.length) : Dr s A (A.set s (.lst [.int c, .int r, .int k])) :=
  ⟨by simp, fun i o n e => by rw [List.getElem?_set_ne (Ne.symm n)]; exact e, c, r, k, List.getElem?_set_self h⟩
/-- a drawing helper that hands back what P says -/
def DrwS (s : Nat) (A : AH) (r : Res D) (P : D → Prop) : Prop := Sat r fun d A' => P d ∧ Dr s A A'
theorem DrwS.imp {s : Nat} {A : AH} {r : Res D} {P Q : D → Prop} (h : DrwS s A r P) (q : ∀ d, P d → Q d) : DrwS s A r Q := Sat.imp h fun d A' ⟨h1, h2⟩ => ⟨q d h1, h2⟩
/-- the number from 0 on, below n (0 where n is below 1) -/
def Below (n : Int) (d : D) : Prop := ∃ v, d = .int v ∧ 0 ≤ v ∧ (v < n ∨ v = 0)

/-- all cells are as they were; new ones may have come -/
structure Gr (A A' : AH) : Prop where
  le : A.length ≤ A'.length
  keep : ∀ (i : Nat) o, A[i]? = some o → A'[i]? = some o
section
variable {A B C : AH} {s r : Nat} {o : AO}
theorem at_lt (h : A[r]? = some o) : r < A.length := (List.getElem?_eq_some_iff.mp h).1
theorem at_new : (A ++ [o])[A.length]? = some o := List.getElem?_concat_length ..
theorem at_set (h : r < A.length) : (A.set r o)[r]? = some o := List.getElem?_set_self h
theorem Gr.refl : Gr A A := ⟨Nat.le_refl _, fun _ _ h => h⟩
theorem Gr.trans (h : Gr A B) (h' : Gr B C) : Gr A C := ⟨Nat.le_trans h.le h'.le, fun i o e => h'.keep i o (h.keep i o e)⟩
theorem Gr.app : Gr A (A ++ B) := ⟨by simp, fun i o e => by rw [List.getElem?_append_left (at_lt e)]; exact e⟩
theorem Gr.set (h : Gr A B) (hr : A.length ≤ r) : Gr A (B.set r o) := ⟨by simpa using h.le, fun i o' e => by
  have := at_lt e
  rw [List.getElem?_set_ne (by omega)]; exact h.keep i o' e⟩
theorem Gr.dr (h : Gr A B) (hs : Sr s A) : Dr s A B := ⟨h.le, fun i o _ e => h.keep i o e, by obtain ⟨c, r, k, e⟩ := hs; exact ⟨c, r, k, h.keep _ _ e⟩⟩
theorem Sr.gr (h : Gr A B) (hs : Sr s A) : Sr s B := (h.dr hs).src
theorem Dr.setN (h : Dr s A B) (hr : A.length ≤ r) (hs : Sr s A) : Dr s A (B.set r o) := ⟨by simpa using h.le, fun i o' n e => by
  have := at_lt e
  rw [List.getElem?_set_ne (by omega)]; exact h.keep i o' n e, by
    obtain ⟨c, q, k, e⟩ := h.src
    have := hs.lt
    exact ⟨c, q, k, by rw [List.getElem?_set_ne (by omega)]; exact e⟩⟩
/-- a list's display by an invariant over the items that are left and the list so far -/
theorem comp_inv {ok : AH → Prop} {g : FG} {t : FT} {f : FE} {n : Nat} {s : ASt} {P : D → AH → Prop} (I : List D → List D → AH → Prop)
    (turn : ∀ d ds acc A, I (d :: ds) acc A → ok A ∧ Sat (g d s A) fun s1 A1 => Sat (t s1 A1) fun b A2 => if b = true then Sat (f s1 A2) fun y A3 => A3[n]? = some (.lst acc) ∧ acc.length < sizeLine ∧ I ds (acc ++ [y]) (A3.set n (.lst (acc ++ [y]))) else I ds acc A2)
    (last : ∀ acc A, I [] acc A → ok A ∧ P (.ref n) A) : ∀ (ds acc : List D) (A : AH), I ds acc A → Sat (loopC ok g t f n s ds A) P
  | [], acc, A, h => by
    rw [loopC, if_pos (last acc A h).1]
    exact (last acc A h).2
  | d :: ds, acc, A, h => by
    obtain ⟨h1, h2⟩ := turn d ds acc A h
    rw [loopC, if_pos h1, sat_bind]
    refine h2.imp fun s1 A1 h3 => ?_
    rw [sat_bind]
    refine h3.imp fun b A2 h4 => ?_
    cases b with
    | true =>
      rw [if_pos rfl, sat_bind]
      rw [if_pos rfl] at h4
      refine h4.imp fun y A3 ⟨h5, h6, h7⟩ => ?_
      simp only [h5]
      rw [if_pos h6]
      exact comp_inv I turn last ds _ _ h7
    | false =>
      rw [if_neg Bool.false_ne_true]
      rw [if_neg Bool.false_ne_true] at h4
      exact comp_inv I turn last ds _ _ h4
/-- a list's display of values that need no cell -/
theorem comp_pure {α : Type} {ok : AH → Prop} {g : FG} {f : FE} {s : ASt} {P : D → AH → Prop} {qs : List α} (c : α → D) (F : α → D)
    (hok : ∀ l, ok (A ++ [.lst l])) (hf : ∀ q ∈ qs, ∀ l, Sat (g (c q) s (A ++ [.lst l])) fun s1 A1 => Sat (f s1 A1) fun y A3 => y = F q ∧ A3 = A ++ [.lst l]) (hl : qs.length ≤ 1000000)
    (hP : P (.ref A.length) (A ++ [.lst (qs.map F)])) : Sat (loopC ok g fYes f A.length s (qs.map c) (A ++ [.lst []])) P := by
  refine comp_inv (fun rest acc B => B = A ++ [.lst acc] ∧ ∃ pre post, qs = pre ++ post ∧ rest = post.map c ∧ acc = pre.map F) (fun d rest acc B ⟨hB, pre, post, h1, h0, h2⟩ => ?_) (fun acc B ⟨hB, pre, post, h1, h0, h2⟩ => ?_) _ [] _ ⟨rfl, [], qs, rfl, rfl, rfl⟩
  · subst hB
    cases post with
    | nil => cases h0
    | cons q post =>
      rw [List.map_cons, List.cons.injEq] at h0
      obtain ⟨e1, e2⟩ := h0
      subst e1; subst e2
      refine ⟨hok acc, Sat.imp (hf q (by rw [h1]; simp) acc) fun s1 A1 h3 => ?_⟩
      show Sat (Res.ok true A1) _
      rw [sat_ok, if_pos rfl]
      refine Sat.imp h3 fun y A3 ⟨h4, h5⟩ => ?_
      subst h4; subst h5
      refine ⟨at_new, ?_, ?_, pre ++ [q], post, by rw [h1]; simp, rfl, by rw [h2]; simp⟩
      · have : qs.length = pre.length + (post.length + 1) := by rw [h1]; simp
        have e : acc.length = pre.length := by rw [h2]; simp
        refine Nat.lt_of_lt_of_le (show acc.length < 1000000 by omega) (by decide)
      · rw [List.set_append_right _ _ (Nat.le_refl _), Nat.sub_self]; rfl
  · subst hB
    cases post with
    | cons q post => cases h0
    | nil =>
      rw [List.append_nil] at h1
      subst h1; subst h2
      exact ⟨hok _, hP⟩
/-- a list's display over counted items, by an invariant over the turns -/
theorem comp_cnt {ok : AH → Prop} {g : FG} {f : FE} {m : Nat} {s : ASt} {P : D → AH → Prop} {it : Nat → D} {n : Nat} (I : Nat → List D → AH → Prop)
    (turn : ∀ k acc A, k < n → I k acc A → ok A ∧ Sat (g (it k) s A) fun s1 A1 => Sat (f s1 A1) fun y A3 => A3[m]? = some (.lst acc) ∧ acc.length < 1000000 ∧ I (k + 1) (acc ++ [y]) (A3.set m (.lst (acc ++ [y]))))
    (last : ∀ acc A, I n acc A → ok A ∧ P (.ref m) A) {acc : List D} {A : AH} (h : I 0 acc A) : Sat (loopC ok g fYes f m s ((List.range n).map it) A) P := by
  rw [List.range_eq_range']
  refine comp_inv (fun rest acc B => ∃ k j, k + j = n ∧ rest = (List.range' k j).map it ∧ I k acc B) (fun d rest acc B ⟨k, j, h1, h2, h3⟩ => ?_) (fun acc B ⟨k, j, h1, h2, h3⟩ => ?_) _ acc _ ⟨0, n, by omega, rfl, h⟩
  · cases j with
    | zero => rw [List.range'_zero, List.map_nil] at h2; cases h2
    | succ j =>
      rw [List.range'_succ, List.map_cons, List.cons.injEq] at h2
      obtain ⟨e1, e2⟩ := h2
      subst e1
      obtain ⟨o1, o2⟩ := turn k acc B (by omega) h3
      refine ⟨o1, Sat.imp o2 fun s1 A1 h4 => ?_⟩
      show Sat (Res.ok true A1) _
      rw [sat_ok, if_pos rfl]
      exact Sat.imp h4 fun y A3 ⟨h5, h6, h7⟩ => ⟨h5, Nat.lt_of_lt_of_le h6 (by decide), k + 1, j, by omega, e2, h7⟩
  · cases j with
    | zero => rw [show k = n by omega] at h3; exact last acc B h3
    | succ j => rw [List.range'_succ, List.map_cons] at h2; cases h2
/-- a for over counted items -/
theorem for_cnt {ok : AH → Prop} {g : FG} {p : FS} {P : Fl → AH → Prop} {it : Nat → D} {n : Nat} (I : Nat → ASt → AH → Prop)
    (turn : ∀ k s A, k < n → I k s A → ok A ∧ Sat (g (it k) s A) fun s1 A1 => Sat (p s1 A1) (turn_ (I (k + 1)) P)) (last : ∀ s A, I n s A → ok A ∧ P (.nx s) A)
    {s : ASt} {A : AH} (h : I 0 s A) : Sat (loopD ok g p ((List.range n).map it) s A) P := by
  rw [List.range_eq_range']
  refine loop_inv (fun rest s B => ∃ k j, k + j = n ∧ rest = (List.range' k j).map it ∧ I k s B) (fun d rest s B ⟨k, j, h1, h2, h3⟩ => ?_) (fun s B ⟨k, j, h1, h2, h3⟩ => ?_) _ _ _ ⟨0, n, by omega, rfl, h⟩
  · cases j with
    | zero => rw [List.range'_zero, List.map_nil] at h2; cases h2
    | succ j =>
      rw [List.range'_succ, List.map_cons, List.cons.injEq] at h2
      obtain ⟨e1, e2⟩ := h2
      subst e1
      obtain ⟨o1, o2⟩ := turn k s B (by omega) h3
      refine ⟨o1, Sat.imp o2 fun s1 A1 h4 => Sat.imp h4 fun fl A2 h5 => ?_⟩
      cases fl with
      | nx s2 => exact ⟨k + 1, j, by omega, e2, h5⟩
      | ct s2 => exact ⟨k + 1, j, by omega, e2, h5⟩
      | bk s2 => exact h5
      | rt d => exact h5
  · cases j with
    | zero => rw [show k = n by omega] at h3; exact last s B h3
    | succ j => rw [List.range'_succ, List.map_cons] at h2; cases h2
/-- a list's display over a range by an invariant over the turns -/
theorem comp_range {g : FG} {f : FE} {m : Nat} {s : ASt} {P : D → AH → Prop} {lo : Int} {n : Nat} (I : Nat → List D → AH → Prop)
    (turn : ∀ k acc A, k < n → I k acc A → Sat (g (.int (lo + (k : Nat))) s A) fun s1 A1 => Sat (f s1 A1) fun y A3 => A3[m]? = some (.lst acc) ∧ acc.length < 1000000 ∧ I (k + 1) (acc ++ [y]) (A3.set m (.lst (acc ++ [y]))))
    (last : ∀ acc A, I n acc A → P (.ref m) A) {acc : List D} {A : AH} (h : I 0 acc A) : Sat (loopC yes g fYes f m s (rngL lo n) A) P := by
  have e : rngL lo n = (List.range' 0 n).map fun k => .int (lo + (k : Nat)) := by rw [← List.range_eq_range']; rfl
  rw [e]
  refine comp_inv (fun rest acc B => ∃ k j, k + j = n ∧ rest = (List.range' k j).map (fun k => .int (lo + (k : Nat))) ∧ I k acc B) (fun d rest acc B ⟨k, j, h1, h2, h3⟩ => ⟨trivial, ?_⟩) (fun acc B ⟨k, j, h1, h2, h3⟩ => ⟨trivial, ?_⟩) _ acc _ ⟨0, n, by omega, rfl, h⟩
  · cases j with
    | zero => rw [List.range'_zero, List.map_nil] at h2; cases h2
    | succ j =>
      rw [List.range'_succ, List.map_cons, List.cons.injEq] at h2
      obtain ⟨e1, e2⟩ := h2
      subst e1
      refine Sat.imp (turn k acc B (by omega) h3) fun s1 A1 h4 => ?_
      show Sat (Res.ok true A1) _
      rw [sat_ok, if_pos rfl]
      exact Sat.imp h4 fun y A3 ⟨h5, h6, h7⟩ => ⟨h5, Nat.lt_of_lt_of_le h6 (by decide), k + 1, j, by omega, e2, h7⟩
  · cases j with
    | zero => rw [show k = n by omega] at h3; exact last acc B h3
    | succ j => rw [List.range'_succ, List.map_cons] at h2; cases h2
theorem ixN_pos {n : Nat} {k : Int} (h0 : 0 ≤ k) (h : k < n) : ixN n k = some k.toNat := by
  unfold ixN
  rw [if_pos h0, if_pos h]
theorem ev_sl_l {xs : List D} {lo hi : Option Int} (h : A[r]? = some (.lst xs)) : slD (.ref r) lo hi A = .ok (.ref A.length) (A ++ [.lst (cutL xs lo hi)]) := by
  show (match rdL A (.ref r) with
    | some xs => Ab.alloc (.lst (cutL xs lo hi)) A
    | none => .bad) = _
  rw [rdL_l h]; rfl
theorem ev_app {xs : List D} {y : D} (h : A[r]? = some (.lst xs)) (hl : xs.length < 1000000) : appendD (.ref r) [y] A = .ok .non (A.set r (.lst (xs ++ [y]))) := by
  show (match A[r]? with
    | some (.lst xs) => if xs.length < sizeLine then Res.ok D.non (A.set r (.lst (xs ++ [y]))) else .bad
    | _ => .bad) = _
  rw [h]
  exact if_pos (Nat.lt_of_lt_of_le hl (by decide))
theorem ty_l {xs : List D} (h : A[r]? = some (.lst xs)) : isTy "list" (.ref r) A = true := by
  simp [isTy, rdL_l h]
theorem ev_rev {xs : List D} (h : A[r]? = some (.lst xs)) : revD (.ref r) A = .ok (.ref A.length) (A ++ [.lst xs.reverse]) := by unfold revD; rw [rdL_l h]; rfl
theorem ev_iseq_t {ds : List D} : iSeq (.tup ds) A = .ok ⟨ds, yes⟩ A := rfl
theorem ev_iseq_l {xs : List D} (h : A[r]? = some (.lst xs)) : iSeq (.ref r) A = .ok ⟨xs, fun A' => rdL A' (.ref r) = some xs⟩ A := by
  show (match rdL A (.ref r) with
    | some ds => Res.ok (⟨ds, fun A' => rdL A' (.ref r) = some ds⟩ : Src) A
    | none => .bad) = _
  rw [rdL_l h]
theorem ev_max_l {xs : List Int} (h : A[r]? = some (.lst (xs.map D.int))) (h0 : xs ≠ []) : maxD [.ref r] A = .ok (.int (maxI xs)) A := by
  show (match rdL A (.ref r) with
    | some xs => (match intsOf xs with
      | some (i :: is) => Res.ok (D.int (maxI (i :: is))) A
      | _ => .bad)
    | none => .bad) = _
  have e : ∀ xs : List Int, intsOf (xs.map D.int) = some xs := by
    intro xs
    induction xs with
    | nil => rfl
    | cons x xs ih => show (match intsOf (xs.map D.int) with | some is => some (x :: is) | none => none) = _; rw [ih]
  rw [rdL_l h]
  simp only [e]
  cases xs with
  | nil => exact (h0 rfl).elim
  | cons x xs => rfl
theorem ev_min_l {xs : List Int} (h : A[r]? = some (.lst (xs.map D.int))) (h0 : xs ≠ []) : minD [.ref r] A = .ok (.int (minI xs)) A := by
  show (match rdL A (.ref r) with
    | some xs => (match intsOf xs with
      | some (i :: is) => Res.ok (D.int (minI (i :: is))) A
      | _ => .bad)
    | none => .bad) = _
  have e : ∀ xs : List Int, intsOf (xs.map D.int) = some xs := by
    intro xs
    induction xs with
    | nil => rfl
    | cons x xs ih => show (match intsOf (xs.map D.int) with | some is => some (x :: is) | none => none) = _; rw [ih]
  rw [rdL_l h]
  simp only [e]
  cases xs with
  | nil => exact (h0 rfl).elim
  | cons x xs => rfl
end
/-! ## greatest and least -/
/-! ## plain data -/
def Pl : Nat → D → Prop
  | _, .non => True
  | _, .bl _ => True
  | _, .int _ => True
  | _, .str _ => True
  | 0, .tup _ => False
  | n + 1, .tup ds => ds.length ≤ 1000000 ∧ ∀ d ∈ ds, Pl n d
  | _, .ref _ => False
end Ab

set_option maxHeartbeats 4000000
namespace Law
open PySem PySem.Spec PyProof.Rows L2 Ab
def top (i : Nat) : Stmt := PySem.Challenge.pw_neverhappens_k22_whole_boxes_are_their_p.main.body.getD i (.Pass ⟨0, 0, 0, 0⟩)
abbrev s__law_cell : Stmt := top 15
abbrev n__law_cell : List Str := ["_law_script", "_law_at"]
abbrev s__law_pick : Stmt := top 17
abbrev n__law_pick : List Str := ["_law_source_here", "_law_size", "_law_k", "_law_digit", "_law_mixed"]
abbrev s__law_columns : Stmt := top 27
abbrev n__law_columns : List Str := ["_law_source_here", "_law_size", "_law_upto", "_law_columns_here", "_law_k"]
abbrev s__law_distinct : Stmt := top 25
abbrev n__law_distinct : List Str := ["_law_points_here", "_law_kept", "_law_seen", "_law_point"]
abbrev s__law_few : Stmt := top 31
abbrev n__law_few : List Str := ["_law_points_here", "_law_size"]
abbrev s__law_grid : Stmt := top 20
abbrev n__law_grid : List Str := ["_law_ranges", "_law_points_here", "_law_pair", "_law_longer", "_law_point", "_law_value"]
abbrev s__law_moved_points : Stmt := top 30
abbrev n__law_moved_points : List Str := ["_law_points_here", "_law_i", "_law_low", "_law_high", "_law_free", "_law_found", "_law_point", "_law_value"]
abbrev s__law_part : Stmt := top 26
abbrev n__law_part : List Str := ["_law_point", "_law_columns_here", "_law_c"]
abbrev s_frozen : Stmt := top 4
abbrev n_frozen : List Str := ["rows", "row"]
abbrev s_add_columns : Stmt := top 9
abbrev n_add_columns : List Str := ["box", "ranges", "size", "above", "i", "low", "high", "below", "j", "rows", "row"]
abbrev s_free_column : Stmt := top 11
abbrev n_free_column : List Str := ["box", "i", "lo", "hi", "rows", "k", "row"]
abbrev s_pick_columns : Stmt := top 10
abbrev n_pick_columns : List Str := ["box", "columns", "places", "rows", "i", "j"]
abbrev s_shift_column : Stmt := top 12
abbrev n_shift_column : List Str := ["box", "i", "low", "high", "rows", "k", "row"]
abbrev s__law_change : Stmt := top 32
abbrev n__law_change : List Str := ["_law_source_here", "_law_state", "_law_points_here", "_law_size", "_law_box", "_law_choice", "_law_columns_here", "_law_i", "_law_low", "_law_high", "_law_found", "_law_pairs", "_law_point", "_law_added", "_law_more"]
abbrev s__law_belongs : Stmt := top 19
abbrev n__law_belongs : List Str := ["_law_matrix", "_law_point", "_law_full", "_law_i", "_law_j"]
abbrev s__law_hull : Stmt := top 18
abbrev n__law_hull : List Str := ["_law_points_here", "_law_size", "_law_rows", "_law_i", "_law_row", "_law_j", "_law_point"]
abbrev s__law_near_box : Stmt := top 28
abbrev n__law_near_box : List Str := ["_law_source_here", "_law_base", "_law_points_here", "_law_k", "_law_value"]
abbrev s_bound : Stmt := top 5
abbrev n_bound : List Str := ["box", "i", "j", "most", "rows", "k", "start", "m"]
abbrev s_has_negative : Stmt := top 2
abbrev n_has_negative : List Str := ["rows", "at"]
abbrev s_shorten : Stmt := top 3
abbrev n_shorten : List Str := ["rows", "middle", "size", "behind", "i", "row", "ahead", "j"]
abbrev s_close : Stmt := top 1
abbrev n_close : List Str := ["matrix", "rows", "row", "size", "at", "middle"]
abbrev s_combined : Stmt := top 7
abbrev n_combined : List Str := ["a", "b", "greater", "rows", "i", "j"]
abbrev s_meet_boxes : Stmt := top 6
abbrev n_meet_boxes : List Str := ["a", "b"]
abbrev s_tie_boxes : Stmt := top 13
abbrev n_tie_boxes : List Str := ["box", "other", "columns", "places", "rows", "row", "a", "b", "i", "j"]
abbrev s__law_cut : Stmt := top 29
abbrev n__law_cut : List Str := ["_law_source_here", "_law_state", "_law_points_here", "_law_size", "_law_box", "_law_base", "_law_choice", "_law_columns_here", "_law_other", "_law_i", "_law_j", "_law_number", "_law_below", "_law_point"]
abbrev s__law_fits : Stmt := top 23
abbrev n__law_fits : List Str := ["_law_matrix", "_law_point", "_law_c", "_law_value", "_law_k"]
abbrev s__law_points : Stmt := top 22
abbrev n__law_points : List Str := ["_law_matrix", "_law_i", "_law_points_here", "_law_c", "_law_longer", "_law_point", "_law_value"]
abbrev s__law_same : Stmt := top 21
abbrev n__law_same : List Str := ["_law_actual", "_law_due", "_law_k"]
abbrev s__law_source : Stmt := top 16
abbrev n__law_source : List Str := ["_law_cell_here"]
abbrev s__law_start : Stmt := top 24
abbrev n__law_start : List Str := ["_law_source_here", "_law_size", "_law_near", "_law_k", "_law_value", "_law_points_here"]
abbrev s_law : Stmt := top 33
abbrev n_law : List Str := ["_law_script", "_law_source_here", "_law_size", "_law_box", "_law_state", "_law_k"]
theorem sc__law_cell : FnScope n__law_cell ["_law_script", "_law_at"] (defScope s__law_cell) := ⟨rfl, rfl, rfl, by decide +kernel, rfl, by decide +kernel, by decide +kernel⟩
theorem sc__law_pick : FnScope n__law_pick ["_law_source_here", "_law_size"] (defScope s__law_pick) := ⟨rfl, rfl, rfl, by decide +kernel, rfl, by decide +kernel, by decide +kernel⟩
theorem sc__law_columns : FnScope n__law_columns ["_law_source_here", "_law_size", "_law_upto"] (defScope s__law_columns) := ⟨rfl, rfl, rfl, by decide +kernel, rfl, by decide +kernel, by decide +kernel⟩
theorem sc__law_distinct : FnScope n__law_distinct ["_law_points_here"] (defScope s__law_distinct) := ⟨rfl, rfl, rfl, by decide +kernel, rfl, by decide +kernel, by decide +kernel⟩
theorem sc__law_few : FnScope n__law_few ["_law_points_here", "_law_size"] (defScope s__law_few) := ⟨rfl, rfl, rfl, by decide +kernel, rfl, by decide +kernel, by decide +kernel⟩
theorem sc__law_grid : FnScope n__law_grid ["_law_ranges"] (defScope s__law_grid) := ⟨rfl, rfl, rfl, by decide +kernel, rfl, by decide +kernel, by decide +kernel⟩
theorem sc__law_moved_points : FnScope n__law_moved_points ["_law_points_here", "_law_i", "_law_low", "_law_high", "_law_free"] (defScope s__law_moved_points) := ⟨rfl, rfl, rfl, by decide +kernel, rfl, by decide +kernel, by decide +kernel⟩
theorem sc__law_part : FnScope n__law_part ["_law_point", "_law_columns_here"] (defScope s__law_part) := ⟨rfl, rfl, rfl, by decide +kernel, rfl, by decide +kernel, by decide +kernel⟩
theorem sc_frozen : FnScope n_frozen ["rows"] (defScope s_frozen) := ⟨rfl, rfl, rfl, by decide +kernel, rfl, by decide +kernel, by decide +kernel⟩
theorem sc_add_columns : FnScope n_add_columns ["box", "ranges"] (defScope s_add_columns) := ⟨rfl, rfl, rfl, by decide +kernel, rfl, by decide +kernel, by decide +kernel⟩
theorem sc_free_column : FnScope n_free_column ["box", "i", "lo", "hi"] (defScope s_free_column) := ⟨rfl, rfl, rfl, by decide +kernel, rfl, by decide +kernel, by decide +kernel⟩
theorem sc_pick_columns : FnScope n_pick_columns ["box", "columns"] (defScope s_pick_columns) := ⟨rfl, rfl, rfl, by decide +kernel, rfl, by decide +kernel, by decide +kernel⟩
theorem sc_shift_column : FnScope n_shift_column ["box", "i", "low", "high"] (defScope s_shift_column) := ⟨rfl, rfl, rfl, by decide +kernel, rfl, by decide +kernel, by decide +kernel⟩
theorem sc__law_change : FnScope n__law_change ["_law_source_here", "_law_state"] (defScope s__law_change) := ⟨rfl, rfl, rfl, by decide +kernel, rfl, by decide +kernel, by decide +kernel⟩
theorem sc__law_belongs : FnScope n__law_belongs ["_law_matrix", "_law_point"] (defScope s__law_belongs) := ⟨rfl, rfl, rfl, by decide +kernel, rfl, by decide +kernel, by decide +kernel⟩
theorem sc__law_hull : FnScope n__law_hull ["_law_points_here", "_law_size"] (defScope s__law_hull) := ⟨rfl, rfl, rfl, by decide +kernel, rfl, by decide +kernel, by decide +kernel⟩
theorem sc__law_near_box : FnScope n__law_near_box ["_law_source_here", "_law_base"] (defScope s__law_near_box) := ⟨rfl, rfl, rfl, by decide +kernel, rfl, by decide +kernel, by decide +kernel⟩
theorem sc_bound : FnScope n_bound ["box", "i", "j", "most"] (defScope s_bound) := ⟨rfl, rfl, rfl, by decide +kernel, rfl, by decide +kernel, by decide +kernel⟩
theorem sc_has_negative : FnScope n_has_negative ["rows"] (defScope s_has_negative) := ⟨rfl, rfl, rfl, by decide +kernel, rfl, by decide +kernel, by decide +kernel⟩
theorem sc_shorten : FnScope n_shorten ["rows", "middle"] (defScope s_shorten) := ⟨rfl, rfl, rfl, by decide +kernel, rfl, by decide +kernel, by decide +kernel⟩
theorem sc_close : FnScope n_close ["matrix"] (defScope s_close) := ⟨rfl, rfl, rfl, by decide +kernel, rfl, by decide +kernel, by decide +kernel⟩
theorem sc_combined : FnScope n_combined ["a", "b", "greater"] (defScope s_combined) := ⟨rfl, rfl, rfl, by decide +kernel, rfl, by decide +kernel, by decide +kernel⟩
theorem sc_meet_boxes : FnScope n_meet_boxes ["a", "b"] (defScope s_meet_boxes) := ⟨rfl, rfl, rfl, by decide +kernel, rfl, by decide +kernel, by decide +kernel⟩
theorem sc_tie_boxes : FnScope n_tie_boxes ["box", "other", "columns"] (defScope s_tie_boxes) := ⟨rfl, rfl, rfl, by decide +kernel, rfl, by decide +kernel, by decide +kernel⟩
theorem sc__law_cut : FnScope n__law_cut ["_law_source_here", "_law_state"] (defScope s__law_cut) := ⟨rfl, rfl, rfl, by decide +kernel, rfl, by decide +kernel, by decide +kernel⟩
theorem sc__law_fits : FnScope n__law_fits ["_law_matrix", "_law_point", "_law_c", "_law_value"] (defScope s__law_fits) := ⟨rfl, rfl, rfl, by decide +kernel, rfl, by decide +kernel, by decide +kernel⟩
theorem sc__law_points : FnScope n__law_points ["_law_matrix"] (defScope s__law_points) := ⟨rfl, rfl, rfl, by decide +kernel, rfl, by decide +kernel, by decide +kernel⟩
theorem sc__law_same : FnScope n__law_same ["_law_actual", "_law_due"] (defScope s__law_same) := ⟨rfl, rfl, rfl, by decide +kernel, rfl, by decide +kernel, by decide +kernel⟩
theorem sc__law_source : FnScope n__law_source ["_law_cell_here"] (defScope s__law_source) := ⟨rfl, rfl, rfl, by decide +kernel, rfl, by decide +kernel, by decide +kernel⟩
theorem sc__law_start : FnScope n__law_start ["_law_source_here", "_law_size"] (defScope s__law_start) := ⟨rfl, rfl, rfl, by decide +kernel, rfl, by decide +kernel, by decide +kernel⟩
theorem sc_law : FnScope n_law ["_law_script"] (defScope s_law) := ⟨rfl, rfl, rfl, by decide +kernel, rfl, by decide +kernel, by decide +kernel⟩
/-- what the top leaves -/
structure Txt (K : PySem.W.Frag) (mg : Str → Option Value) where
  a__law_cell : Addr
  d__law_cell : FuncData
  F__law_cell : Fun K "_law_cell" "_law_cell" s__law_cell a__law_cell d__law_cell
  b__law_cell : Binds K d__law_cell ["_law_script", "_law_at"] []
  g__law_cell : mg "_law_cell" = some (.ref a__law_cell)
  a__law_pick : Addr
  d__law_pick : FuncData
  F__law_pick : Fun K "_law_pick" "_law_pick" s__law_pick a__law_pick d__law_pick
  b__law_pick : Binds K d__law_pick ["_law_source_here", "_law_size"] []
  g__law_pick : mg "_law_pick" = some (.ref a__law_pick)
  a__law_columns : Addr
  d__law_columns : FuncData
  F__law_columns : Fun K "_law_columns" "_law_columns" s__law_columns a__law_columns d__law_columns
  b__law_columns : Binds K d__law_columns ["_law_source_here", "_law_size", "_law_upto"] []
  g__law_columns : mg "_law_columns" = some (.ref a__law_columns)
  a__law_distinct : Addr
  d__law_distinct : FuncData
  F__law_distinct : Fun K "_law_distinct" "_law_distinct" s__law_distinct a__law_distinct d__law_distinct
  b__law_distinct : Binds K d__law_distinct ["_law_points_here"] []
  g__law_distinct : mg "_law_distinct" = some (.ref a__law_distinct)
  a__law_few : Addr
  d__law_few : FuncData
  F__law_few : Fun K "_law_few" "_law_few" s__law_few a__law_few d__law_few
  b__law_few : Binds K d__law_few ["_law_points_here", "_law_size"] []
  g__law_few : mg "_law_few" = some (.ref a__law_few)
  a__law_grid : Addr
  d__law_grid : FuncData
  F__law_grid : Fun K "_law_grid" "_law_grid" s__law_grid a__law_grid d__law_grid
  b__law_grid : Binds K d__law_grid ["_law_ranges"] []
  g__law_grid : mg "_law_grid" = some (.ref a__law_grid)
  a__law_moved_points : Addr
  d__law_moved_points : FuncData
  F__law_moved_points : Fun K "_law_moved_points" "_law_moved_points" s__law_moved_points a__law_moved_points d__law_moved_points
  b__law_moved_points : Binds K d__law_moved_points ["_law_points_here", "_law_i", "_law_low", "_law_high", "_law_free"] []
  g__law_moved_points : mg "_law_moved_points" = some (.ref a__law_moved_points)
  a__law_part : Addr
  d__law_part : FuncData
  F__law_part : Fun K "_law_part" "_law_part" s__law_part a__law_part d__law_part
  b__law_part : Binds K d__law_part ["_law_point", "_law_columns_here"] []
  g__law_part : mg "_law_part" = some (.ref a__law_part)
  a_frozen : Addr
  d_frozen : FuncData
  F_frozen : Fun K "frozen" "frozen" s_frozen a_frozen d_frozen
  b_frozen : Binds K d_frozen ["rows"] []
  g_frozen : mg "frozen" = some (.ref a_frozen)
  a_add_columns : Addr
  d_add_columns : FuncData
  F_add_columns : Fun K "add_columns" "add_columns" s_add_columns a_add_columns d_add_columns
  b_add_columns : Binds K d_add_columns ["box", "ranges"] []
  g_add_columns : mg "add_columns" = some (.ref a_add_columns)
  a_free_column : Addr
  d_free_column : FuncData
  F_free_column : Fun K "free_column" "free_column" s_free_column a_free_column d_free_column
  b_free_column : Binds K d_free_column ["box", "i", "lo", "hi"] []
  g_free_column : mg "free_column" = some (.ref a_free_column)
  a_pick_columns : Addr
  d_pick_columns : FuncData
  F_pick_columns : Fun K "pick_columns" "pick_columns" s_pick_columns a_pick_columns d_pick_columns
  b_pick_columns : Binds K d_pick_columns ["box", "columns"] []
  g_pick_columns : mg "pick_columns" = some (.ref a_pick_columns)
  a_shift_column : Addr
  d_shift_column : FuncData
  F_shift_column : Fun K "shift_column" "shift_column" s_shift_column a_shift_column d_shift_column
  b_shift_column : Binds K d_shift_column ["box", "i", "low", "high"] []
  g_shift_column : mg "shift_column" = some (.ref a_shift_column)
  a__law_change : Addr
  d__law_change : FuncData
  F__law_change : Fun K "_law_change" "_law_change" s__law_change a__law_change d__law_change
  b__law_change : Binds K d__law_change ["_law_source_here", "_law_state"] []
  g__law_change : mg "_law_change" = some (.ref a__law_change)
  a__law_belongs : Addr
  d__law_belongs : FuncData
  F__law_belongs : Fun K "_law_belongs" "_law_belongs" s__law_belongs a__law_belongs d__law_belongs
  b__law_belongs : Binds K d__law_belongs ["_law_matrix", "_law_point"] []
  g__law_belongs : mg "_law_belongs" = some (.ref a__law_belongs)
  a__law_hull : Addr
  d__law_hull : FuncData
  F__law_hull : Fun K "_law_hull" "_law_hull" s__law_hull a__law_hull d__law_hull
  b__law_hull : Binds K d__law_hull ["_law_points_here", "_law_size"] []
  g__law_hull : mg "_law_hull" = some (.ref a__law_hull)
  a__law_near_box : Addr
  d__law_near_box : FuncData
  F__law_near_box : Fun K "_law_near_box" "_law_near_box" s__law_near_box a__law_near_box d__law_near_box
  b__law_near_box : Binds K d__law_near_box ["_law_source_here", "_law_base"] []
  g__law_near_box : mg "_law_near_box" = some (.ref a__law_near_box)
  a_bound : Addr
  d_bound : FuncData
  F_bound : Fun K "bound" "bound" s_bound a_bound d_bound
  b_bound : Binds K d_bound ["box", "i", "j", "most"] []
  g_bound : mg "bound" = some (.ref a_bound)
  a_has_negative : Addr
  d_has_negative : FuncData
  F_has_negative : Fun K "has_negative" "has_negative" s_has_negative a_has_negative d_has_negative
  b_has_negative : Binds K d_has_negative ["rows"] []
  g_has_negative : mg "has_negative" = some (.ref a_has_negative)
  a_shorten : Addr
  d_shorten : FuncData
  F_shorten : Fun K "shorten" "shorten" s_shorten a_shorten d_shorten
  b_shorten : Binds K d_shorten ["rows", "middle"] []
  g_shorten : mg "shorten" = some (.ref a_shorten)
  a_close : Addr
  d_close : FuncData
  F_close : Fun K "close" "close" s_close a_close d_close
  b_close : Binds K d_close ["matrix"] []
  g_close : mg "close" = some (.ref a_close)
  a_combined : Addr
  d_combined : FuncData
  F_combined : Fun K "combined" "combined" s_combined a_combined d_combined
  b_combined : Binds K d_combined ["a", "b", "greater"] []
  g_combined : mg "combined" = some (.ref a_combined)
  a_meet_boxes : Addr
  d_meet_boxes : FuncData
  F_meet_boxes : Fun K "meet_boxes" "meet_boxes" s_meet_boxes a_meet_boxes d_meet_boxes
  b_meet_boxes : Binds K d_meet_boxes ["a", "b"] []
  g_meet_boxes : mg "meet_boxes" = some (.ref a_meet_boxes)
  a_tie_boxes : Addr
  d_tie_boxes : FuncData
  F_tie_boxes : Fun K "tie_boxes" "tie_boxes" s_tie_boxes a_tie_boxes d_tie_boxes
  b_tie_boxes : Binds K d_tie_boxes ["box", "other", "columns"] []
  g_tie_boxes : mg "tie_boxes" = some (.ref a_tie_boxes)
  a__law_cut : Addr
  d__law_cut : FuncData
  F__law_cut : Fun K "_law_cut" "_law_cut" s__law_cut a__law_cut d__law_cut
  b__law_cut : Binds K d__law_cut ["_law_source_here", "_law_state"] []
  g__law_cut : mg "_law_cut" = some (.ref a__law_cut)
  a__law_fits : Addr
  d__law_fits : FuncData
  F__law_fits : Fun K "_law_fits" "_law_fits" s__law_fits a__law_fits d__law_fits
  b__law_fits : Binds K d__law_fits ["_law_matrix", "_law_point", "_law_c", "_law_value"] []
  g__law_fits : mg "_law_fits" = some (.ref a__law_fits)
  a__law_points : Addr
  d__law_points : FuncData
  F__law_points : Fun K "_law_points" "_law_points" s__law_points a__law_points d__law_points
  b__law_points : Binds K d__law_points ["_law_matrix"] []
  g__law_points : mg "_law_points" = some (.ref a__law_points)
  a__law_same : Addr
  d__law_same : FuncData
  F__law_same : Fun K "_law_same" "_law_same" s__law_same a__law_same d__law_same
  b__law_same : Binds K d__law_same ["_law_actual", "_law_due"] []
  g__law_same : mg "_law_same" = some (.ref a__law_same)
  a__law_source : Addr
  d__law_source : FuncData
  F__law_source : Fun K "_law_source" "_law_source" s__law_source a__law_source d__law_source
  b__law_source : Binds K d__law_source ["_law_cell_here"] []
  g__law_source : mg "_law_source" = some (.ref a__law_source)
  a__law_start : Addr
  d__law_start : FuncData
  F__law_start : Fun K "_law_start" "_law_start" s__law_start a__law_start d__law_start
  b__law_start : Binds K d__law_start ["_law_source_here", "_law_size"] []
  g__law_start : mg "_law_start" = some (.ref a__law_start)
  a_law : Addr
  d_law : FuncData
  F_law : Fun K "law" "law" s_law a_law d_law
  b_law : Binds K d_law ["_law_script"] []
  g_law : mg "law" = some (.ref a_law)
  n_bool : mg "bool" = none
  n_int : mg "int" = none
  n_isinstance : mg "isinstance" = none
  n_len : mg "len" = none
  n_list : mg "list" = none
  n_max : mg "max" = none
  n_min : mg "min" = none
  n_range : mg "range" = none
  n_str : mg "str" = none
  n_tuple : mg "tuple" = none
/-! ### the defs as functions -/
noncomputable def p__law_cell  : FS :=
 fSeq (fIfS (fTB (fOp ltD (fV 1) (fCall lenD (fCons (fV 0) (fNil)))))
 (fRet (fOp ixD (fV 0) (fV 1)))
 (fPass))
 (fRet (fC (.int 0)))
noncomputable def m__law_cell : FM := body 2 2 p__law_cell
noncomputable def p__law_pick  : FS :=
 fSeq (fSet (fOp ixD (fV 0) (fC (.int 2))) 2)
 (fSeq (fAsg (fOp addD (fV 2) (fC (.int 1))) (gSb (fV 0) (fC (.int 2))))
 (fSeq (fIfS (fTB (fOp ltD (fV 1) (fC (.int 2))))
 (fRet (fC (.int 0)))
 (fPass))
 (fSeq (fIfS (fTAnd (fTB (fOp geD (fOp ixD (fV 0) (fC (.int 0))) (fOp powD (fC (.int 10)) (fC (.int 18))))) (fTB (fOp gtD (fOp ixD (fV 0) (fC (.int 1))) (fC (.int 0)))))
 (fSeq (fSet (fOp modD (fCall intD (fCons (fOp ixD (fV 0) (fC (.int 1))) (fNil))) (fV 1)) 3)
 (fSeq (fAsg (fOp fdivD (fOp ixD (fV 0) (fC (.int 1))) (fV 1)) (gSb (fV 0) (fC (.int 1))))
 (fRet (fV 3))))
 (fPass))
 (fSeq (fSet (fOp modD (fCall intD (fCons (fOp addD (fOp addD (fOp ixD (fV 0) (fC (.int 0))) (fOp mulD (fC (.int 7919)) (fV 2))) (fC (.int 13))) (fNil))) (fC (.int 2147483647))) 4)
 (fSeq (fSet (fOp modD (fCall intD (fCons (fOp mulD (fV 4) (fOp addD (fV 4) (fC (.int 48271)))) (fNil))) (fC (.int 2147483629))) 4)
 (fSeq (fSet (fOp modD (fCall intD (fCons (fOp addD (fOp mulD (fV 4) (fOp addD (fV 4) (fC (.int 69621)))) (fOp mulD (fC (.int 31)) (fV 2))) (fNil))) (fC (.int 2147483647))) 4)
 (fRet (fOp modD (fCall intD (fCons (fOp fdivD (fV 4) (fC (.int 9))) (fNil))) (fV 1)))))))))
noncomputable def m__law_pick : FM := body 2 5 p__law_pick
noncomputable def p__law_columns  : FS :=
 fSeq (fSet (fLst (fNil)) 3)
 (fSeq (fIfS (fTB (fOp gtD (fV 1) (fC (.int 0))))
 (fSet (fLc (fRg1 (fOwn 2 m__law_pick (fCons (fV 0) (fCons (fOp addD (fV 2) (fC (.int 1))) (fNil))))) (gN 4) (fYes) (fOp addD (fC (.int 1)) (fOwn 2 m__law_pick (fCons (fV 0) (fCons (fV 1) (fNil))))) [4]) 3)
 (fPass))
 (fRet (fCall tupOf (fCons (fV 3) (fNil)))))
noncomputable def m__law_columns : FM := body 3 5 p__law_columns
noncomputable def p__law_distinct  : FS :=
 fSeq (fSet (fLst (fNil)) 1)
 (fSeq (fSet (fDictT) 2)
 (fSeq (fFor (fItS (fV 0)) (gN 3)
 (fIfS (fTB (fOp ninT (fV 3) (fV 2)))
 (fSeq (fAsg (fC (.bl true)) (gSbT (fV 2) (fV 3)))
 (fEx (fMt "list" appendD (fV 1) (fCons (fV 3) (fNil)))))
 (fPass)))
 (fRet (fV 1))))
noncomputable def m__law_distinct : FM := body 1 4 p__law_distinct
noncomputable def p__law_few  : FS :=
 fRet (fOp leD (fOp mulD (fOp mulD (fCall lenD (fCons (fV 0) (fNil))) (fOp addD (fV 1) (fC (.int 1)))) (fOp addD (fV 1) (fC (.int 1)))) (fC (.int 3000)))
noncomputable def m__law_few : FM := body 2 2 p__law_few
noncomputable def p__law_grid  : FS :=
 fSeq (fSet (fLst (fCons (fTup (fNil)) (fNil))) 1)
 (fSeq (fFor (fItS (fV 0)) (gN 2)
 (fSeq (fSet (fLst (fNil)) 3)
 (fSeq (fFor (fItS (fV 1)) (gN 4)
 (fFor (fRg2 (fOp ixD (fV 2) (fC (.int 0))) (fOp addD (fOp ixD (fV 2) (fC (.int 1))) (fC (.int 1)))) (gN 5)
 (fEx (fMt "list" appendD (fV 3) (fCons (fOp addD (fV 4) (fTup (fCons (fV 5) (fNil)))) (fNil))))))
 (fSet (fCall lstOf (fCons (fV 3) (fNil))) 1))))
 (fRet (fV 1)))
noncomputable def m__law_grid : FM := body 1 6 p__law_grid
noncomputable def p__law_moved_points  : FS :=
 fSeq (fSet (fLst (fNil)) 5)
 (fSeq (fFor (fItS (fV 0)) (gN 6)
 (fFor (fRg2 (fV 2) (fOp addD (fV 3) (fC (.int 1)))) (gN 7)
 (fIfS (fT (fV 4))
 (fEx (fMt "list" appendD (fV 5) (fCons (fOp addD (fOp addD (fSl (fV 6) (fNo) (fPart (fOp subD (fV 1) (fC (.int 1))))) (fTup (fCons (fV 7) (fNil)))) (fSl (fV 6) (fPart (fV 1)) (fNo))) (fNil))))
 (fEx (fMt "list" appendD (fV 5) (fCons (fOp addD (fOp addD (fSl (fV 6) (fNo) (fPart (fOp subD (fV 1) (fC (.int 1))))) (fTup (fCons (fOp addD (fOp ixD (fV 6) (fOp subD (fV 1) (fC (.int 1)))) (fV 7)) (fNil)))) (fSl (fV 6) (fPart (fV 1)) (fNo))) (fNil)))))))
 (fRet (fV 5)))
noncomputable def m__law_moved_points : FM := body 5 8 p__law_moved_points
noncomputable def p__law_part  : FS :=
 fRet (fCall tupOf (fCons (fLc (fItS (fV 1)) (gN 2) (fYes) (fOp ixD (fV 0) (fOp subD (fV 2) (fC (.int 1)))) [2]) (fNil)))
noncomputable def m__law_part : FM := body 2 3 p__law_part
noncomputable def p_frozen  : FS :=
 fRet (fCall tupOf (fCons (fLc (fItS (fV 0)) (gN 1) (fYes) (fCall tupOf (fCons (fV 1) (fNil))) [1]) (fNil)))
noncomputable def m_frozen : FM := body 1 2 p_frozen
noncomputable def p_add_columns  : FS :=
 fSeq (fIfS (fTB (fOp isD (fV 0) (fC .non)))
 (fRet (fC .non))
 (fPass))
 (fSeq (fSet (fCall lenD (fCons (fV 0) (fNil))) 2)
 (fSeq (fSet (fOp addD (fLc (fRg1 (fV 2)) (gN 4) (fYes) (fOp ixD (fOp ixD (fV 0) (fV 4)) (fC (.int 0))) [4]) (fLc (fItS (fV 1)) (gTp 2 (gCs (gN 5) (gCs (gN 6) (gNl)))) (fYes) (fV 6) [5, 6])) 3)
 (fSeq (fSet (fOp addD (fLc (fRg1 (fV 2)) (gN 8) (fYes) (fOp ixD (fOp ixD (fV 0) (fC (.int 0))) (fV 8)) [8]) (fLc (fItS (fV 1)) (gTp 2 (gCs (gN 5) (gCs (gN 6) (gNl)))) (fYes) (fUn negD (fV 5)) [5, 6])) 7)
 (fSeq (fSet (fLst (fNil)) 9)
 (fSeq (fFor (fRg1 (fCall lenD (fCons (fV 3) (fNil)))) (gN 4)
 (fSeq (fSet (fLc (fRg1 (fCall lenD (fCons (fV 3) (fNil)))) (gN 8) (fYes) (fOp addD (fOp ixD (fV 3) (fV 4)) (fOp ixD (fV 7) (fV 8))) [8]) 10)
 (fSeq (fAsg (fC (.int 0)) (gSb (fV 10) (fV 4)))
 (fSeq (fIfS (fTB (fOp ltD (fV 4) (fV 2)))
 (fAsg (fOp ixD (fV 0) (fV 4)) (gHd (fV 10) (fPart (fV 2))))
 (fPass))
 (fEx (fMt "list" appendD (fV 9) (fCons (fV 10) (fNil))))))))
 (fRet (fOwn 1 m_frozen (fCons (fV 9) (fNil)))))))))
noncomputable def m_add_columns : FM := body 2 11 p_add_columns
noncomputable def p_free_column  : FS :=
 fSeq (fIfS (fTOr (fTB (fOp isD (fV 0) (fC .non))) (fTB (fOp gtD (fV 2) (fV 3))))
 (fRet (fC .non))
 (fPass))
 (fSeq (fSet (fLst (fNil)) 4)
 (fSeq (fFor (fRg1 (fCall lenD (fCons (fV 0) (fNil)))) (gN 5)
 (fSeq (fSet (fCall lstOf (fCons (fOp ixD (fV 0) (fV 5)) (fNil))) 6)
 (fSeq (fAsg (fOp subD (fOp ixD (fOp ixD (fV 0) (fV 5)) (fC (.int 0))) (fV 2)) (gSb (fV 6) (fV 1)))
 (fEx (fMt "list" appendD (fV 4) (fCons (fV 6) (fNil)))))))
 (fSeq (fAsg (fLc (fRg1 (fCall lenD (fCons (fV 0) (fNil)))) (gN 5) (fYes) (fOp addD (fV 3) (fOp ixD (fOp ixD (fV 0) (fC (.int 0))) (fV 5))) [5]) (gSb (fV 4) (fV 1)))
 (fSeq (fAsg (fC (.int 0)) (gSb (fOp ixD (fV 4) (fV 1)) (fV 1)))
 (fRet (fOwn 1 m_frozen (fCons (fV 4) (fNil))))))))
noncomputable def m_free_column : FM := body 4 7 p_free_column
noncomputable def p_pick_columns  : FS :=
 fSeq (fIfS (fTB (fOp isD (fV 0) (fC .non)))
 (fRet (fC .non))
 (fPass))
 (fSeq (fSet (fOp addD (fTup (fCons (fC (.int 0)) (fNil))) (fV 1)) 2)
 (fSeq (fSet (fLst (fNil)) 3)
 (fSeq (fFor (fItS (fV 2)) (gN 4)
 (fEx (fMt "list" appendD (fV 3) (fCons (fLc (fItS (fV 2)) (gN 5) (fYes) (fOp ixD (fOp ixD (fV 0) (fV 4)) (fV 5)) [5]) (fNil)))))
 (fRet (fOwn 1 m_frozen (fCons (fV 3) (fNil)))))))
noncomputable def m_pick_columns : FM := body 2 6 p_pick_columns
noncomputable def p_shift_column  : FS :=
 fSeq (fIfS (fTB (fOp isD (fV 0) (fC .non)))
 (fRet (fC .non))
 (fPass))
 (fSeq (fSet (fLst (fNil)) 4)
 (fSeq (fFor (fRg1 (fCall lenD (fCons (fV 0) (fNil)))) (gN 5)
 (fSeq (fSet (fCall lstOf (fCons (fOp ixD (fV 0) (fV 5)) (fNil))) 6)
 (fSeq (fAsg (fOp subD (fOp ixD (fOp ixD (fV 0) (fV 5)) (fV 1)) (fV 2)) (gSb (fV 6) (fV 1)))
 (fEx (fMt "list" appendD (fV 4) (fCons (fV 6) (fNil)))))))
 (fSeq (fAsg (fLc (fRg1 (fCall lenD (fCons (fV 0) (fNil)))) (gN 5) (fYes) (fOp addD (fOp ixD (fOp ixD (fV 0) (fV 1)) (fV 5)) (fV 3)) [5]) (gSb (fV 4) (fV 1)))
 (fSeq (fAsg (fC (.int 0)) (gSb (fOp ixD (fV 4) (fV 1)) (fV 1)))
 (fRet (fOwn 1 m_frozen (fCons (fV 4) (fNil))))))))
noncomputable def m_shift_column : FM := body 4 7 p_shift_column
noncomputable def p__law_change  : FS :=
 fSeq (fSet (fOp ixD (fV 1) (fC (.str "points"))) 2)
 (fSeq (fSet (fOp ixD (fV 1) (fC (.str "size"))) 3)
 (fSeq (fSet (fOp ixD (fV 1) (fC (.str "box"))) 4)
 (fSeq (fSet (fOwn 2 m__law_pick (fCons (fV 0) (fCons (fC (.int 4)) (fNil)))) 5)
 (fSeq (fSet (fOwn 3 m__law_columns (fCons (fV 0) (fCons (fV 3) (fCons (fOp ixD (fLst (fCons (fC (.int 4)) (fCons (fC (.int 4)) (fCons (fC (.int 7)) (fNil))))) (fOwn 2 m__law_pick (fCons (fV 0) (fCons (fC (.int 3)) (fNil))))) (fNil))))) 6)
 (fSeq (fSet (fOp addD (fC (.int 1)) (fOwn 2 m__law_pick (fCons (fV 0) (fCons (fV 3) (fNil))))) 7)
 (fSeq (fSet (fOp subD (fOwn 2 m__law_pick (fCons (fV 0) (fCons (fC (.int 5)) (fNil)))) (fC (.int 2))) 8)
 (fSeq (fSet (fOp addD (fV 8) (fOwn 2 m__law_pick (fCons (fV 0) (fCons (fC (.int 3)) (fNil))))) 9)
 (fSeq (fSet (fV 2) 10)
 (fSeq (fSet (fSl (fLst (fCons (fTup (fCons (fV 8) (fCons (fV 9) (fNil)))) (fCons (fTup (fCons (fV 9) (fCons (fOp addD (fV 9) (fC (.int 1))) (fNil)))) (fNil)))) (fNo) (fPart (fOp addD (fC (.int 1)) (fOwn 2 m__law_pick (fCons (fV 0) (fCons (fC (.int 2)) (fNil))))))) 11)
 (fSeq (fIfS (fTB (fOp eqD (fV 5) (fC (.int 0))))
 (fSeq (fSet (fCall lenD (fCons (fV 6) (fNil))) 3)
 (fSet (fLc (fItS (fV 2)) (gN 12) (fYes) (fOwn 2 m__law_part (fCons (fV 12) (fCons (fV 6) (fNil)))) [12]) 10))
 (fPass))
 (fSeq (fIfS (fTAnd (fTB (fOp eqD (fV 5) (fC (.int 1)))) (fTAnd (fTB (fOp gtD (fV 3) (fC (.int 0)))) (fTB (fOp neNil (fV 2) (fLst (fNil))))))
 (fSeq (fSet (fOp addD (fV 8) (fOp ixD (fOp ixD (fV 2) (fC (.int 0))) (fOp subD (fV 7) (fC (.int 1))))) 8)
 (fSeq (fSet (fOp subD (fOp addD (fV 8) (fOwn 2 m__law_pick (fCons (fV 0) (fCons (fC (.int 4)) (fNil))))) (fCall intD (fCons (fOp eqD (fOwn 2 m__law_pick (fCons (fV 0) (fCons (fC (.int 8)) (fNil)))) (fC (.int 0))) (fNil)))) 9)
 (fSet (fOwn 5 m__law_moved_points (fCons (fV 2) (fCons (fV 7) (fCons (fV 8) (fCons (fV 9) (fCons (fC (.bl true)) (fNil))))))) 10)))
 (fPass))
 (fSeq (fIfS (fTAnd (fTB (fOp eqD (fV 5) (fC (.int 2)))) (fTB (fOp gtD (fV 3) (fC (.int 0)))))
 (fSet (fOwn 5 m__law_moved_points (fCons (fV 2) (fCons (fV 7) (fCons (fV 8) (fCons (fV 9) (fCons (fC (.bl false)) (fNil))))))) 10)
 (fPass))
 (fSeq (fIfS (fTB (fOp eqD (fV 5) (fC (.int 3))))
 (fSeq (fSet (fOp addD (fV 3) (fCall lenD (fCons (fV 11) (fNil)))) 3)
 (fSeq (fSet (fOwn 1 m__law_grid (fCons (fV 11) (fNil))) 13)
 (fSeq (fSet (fLst (fNil)) 10)
 (fFor (fItS (fCall lstOf (fCons (fV 2) (fNil)))) (gN 12)
 (fFor (fItS (fV 13)) (gN 14)
 (fEx (fMt "list" appendD (fV 10) (fCons (fOp addD (fV 12) (fV 14)) (fNil)))))))))
 (fPass))
 (fSeq (fSet (fOwn 1 m__law_distinct (fCons (fV 10) (fNil))) 10)
 (fSeq (fIfS (fTOr (fTNot (fT (fOwn 2 m__law_few (fCons (fV 10) (fCons (fV 3) (fNil)))))) (fTB (fOp gtD (fV 3) (fC (.int 20)))))
 (fRet (fC .non))
 (fPass))
 (fSeq (fAsg (fV 10) (gSb (fV 1) (fC (.str "points"))))
 (fSeq (fAsg (fV 3) (gSb (fV 1) (fC (.str "size"))))
 (fSeq (fIfS (fTB (fOp eqD (fV 5) (fC (.int 0))))
 (fAsg (fOwn 2 m_pick_columns (fCons (fV 4) (fCons (fV 6) (fNil)))) (gSb (fV 1) (fC (.str "box"))))
 (fPass))
 (fSeq (fIfS (fTAnd (fTB (fOp eqD (fV 5) (fC (.int 1)))) (fTB (fOp gtD (fV 3) (fC (.int 0)))))
 (fAsg (fOwn 4 m_free_column (fCons (fV 4) (fCons (fV 7) (fCons (fV 8) (fCons (fV 9) (fNil)))))) (gSb (fV 1) (fC (.str "box"))))
 (fPass))
 (fSeq (fIfS (fTAnd (fTB (fOp eqD (fV 5) (fC (.int 2)))) (fTB (fOp gtD (fV 3) (fC (.int 0)))))
 (fAsg (fOwn 4 m_shift_column (fCons (fV 4) (fCons (fV 7) (fCons (fV 8) (fCons (fV 9) (fNil)))))) (gSb (fV 1) (fC (.str "box"))))
 (fPass))
 (fSeq (fIfS (fTB (fOp eqD (fV 5) (fC (.int 3))))
 (fAsg (fOwn 2 m_add_columns (fCons (fV 4) (fCons (fCall tupOf (fCons (fV 11) (fNil))) (fNil)))) (gSb (fV 1) (fC (.str "box"))))
 (fPass))
 (fRet (fC .non)))))))))))))))))))))))
noncomputable def m__law_change : FM := body 2 15 p__law_change
noncomputable def p__law_belongs  : FS :=
 fSeq (fSet (fOp addD (fTup (fCons (fC (.int 0)) (fNil))) (fV 1)) 2)
 (fSeq (fFor (fRg1 (fCall lenD (fCons (fV 2) (fNil)))) (gN 3)
 (fFor (fRg1 (fCall lenD (fCons (fV 2) (fNil)))) (gN 4)
 (fIfS (fTB (fOp gtD (fOp subD (fOp ixD (fV 2) (fV 3)) (fOp ixD (fV 2) (fV 4))) (fOp ixD (fOp ixD (fV 0) (fV 3)) (fV 4))))
 (fRet (fC (.bl false)))
 (fPass))))
 (fRet (fC (.bl true))))
noncomputable def m__law_belongs : FM := body 2 5 p__law_belongs
noncomputable def p__law_hull  : FS :=
 fSeq (fIfS (fTB (fOp eqNil (fV 0) (fLst (fNil))))
 (fRet (fC .non))
 (fPass))
 (fSeq (fSet (fLst (fNil)) 2)
 (fSeq (fFor (fRg1 (fOp addD (fV 1) (fC (.int 1)))) (gN 3)
 (fSeq (fSet (fLst (fNil)) 4)
 (fSeq (fFor (fRg1 (fOp addD (fV 1) (fC (.int 1)))) (gN 5)
 (fEx (fMt "list" appendD (fV 4) (fCons (fCall maxD (fCons (fLc (fItS (fV 0)) (gN 6) (fYes) (fOp subD (fOp ixD (fOp addD (fTup (fCons (fC (.int 0)) (fNil))) (fV 6)) (fV 3)) (fOp ixD (fOp addD (fTup (fCons (fC (.int 0)) (fNil))) (fV 6)) (fV 5))) [6]) (fNil))) (fNil)))))
 (fEx (fMt "list" appendD (fV 2) (fCons (fCall tupOf (fCons (fV 4) (fNil))) (fNil)))))))
 (fRet (fCall tupOf (fCons (fV 2) (fNil))))))
noncomputable def m__law_hull : FM := body 2 7 p__law_hull
noncomputable def p__law_near_box  : FS :=
 fSeq (fIfS (fTB (fOp eqD (fOwn 2 m__law_pick (fCons (fV 0) (fCons (fC (.int 16)) (fNil)))) (fC (.int 0))))
 (fRet (fC .non))
 (fPass))
 (fSeq (fSet (fLst (fNil)) 2)
 (fSeq (fIfS (fTB (fOp gtD (fOwn 2 m__law_pick (fCons (fV 0) (fCons (fC (.int 6)) (fNil)))) (fC (.int 0))))
 (fEx (fMt "list" appendD (fV 2) (fCons (fV 1) (fNil))))
 (fPass))
 (fSeq (fFor (fRg1 (fOp addD (fC (.int 1)) (fOwn 2 m__law_pick (fCons (fV 0) (fCons (fC (.int 3)) (fNil)))))) (gN 3)
 (fEx (fMt "list" appendD (fV 2) (fCons (fCall tupOf (fCons (fLc (fItS (fV 1)) (gN 4) (fYes) (fOp subD (fOp addD (fV 4) (fOwn 2 m__law_pick (fCons (fV 0) (fCons (fC (.int 5)) (fNil))))) (fC (.int 2))) [4]) (fNil))) (fNil)))))
 (fRet (fOwn 2 m__law_hull (fCons (fV 2) (fCons (fCall lenD (fCons (fV 1) (fNil))) (fNil))))))))
noncomputable def m__law_near_box : FM := body 2 5 p__law_near_box
noncomputable def p_bound  : FS :=
 fSeq (fIfS (fTOr (fTB (fOp isD (fV 0) (fC .non))) (fTB (fOp ltD (fOp addD (fV 3) (fOp ixD (fOp ixD (fV 0) (fV 2)) (fV 1))) (fC (.int 0)))))
 (fRet (fC .non))
 (fPass))
 (fSeq (fIfS (fTB (fOp geD (fV 3) (fOp ixD (fOp ixD (fV 0) (fV 1)) (fV 2))))
 (fRet (fV 0))
 (fPass))
 (fSeq (fSet (fLst (fNil)) 4)
 (fSeq (fFor (fRg1 (fCall lenD (fCons (fV 0) (fNil)))) (gN 5)
 (fSeq (fSet (fOp addD (fOp ixD (fOp ixD (fV 0) (fV 5)) (fV 1)) (fV 3)) 6)
 (fEx (fMt "list" appendD (fV 4) (fCons (fLc (fRg1 (fCall lenD (fCons (fV 0) (fNil)))) (gN 7) (fYes) (fCall minD (fCons (fOp ixD (fOp ixD (fV 0) (fV 5)) (fV 7)) (fCons (fOp addD (fV 6) (fOp ixD (fOp ixD (fV 0) (fV 2)) (fV 7))) (fNil)))) [7]) (fNil))))))
 (fRet (fOwn 1 m_frozen (fCons (fV 4) (fNil)))))))
noncomputable def m_bound : FM := body 4 8 p_bound
noncomputable def p_has_negative  : FS :=
 fSeq (fFor (fRg1 (fCall lenD (fCons (fV 0) (fNil)))) (gN 1)
 (fIfS (fTB (fOp ltD (fOp ixD (fOp ixD (fV 0) (fV 1)) (fV 1)) (fC (.int 0))))
 (fRet (fC (.bl true)))
 (fPass)))
 (fRet (fC (.bl false)))
noncomputable def m_has_negative : FM := body 1 2 p_has_negative
noncomputable def p_shorten  : FS :=
 fSeq (fSet (fCall lenD (fCons (fV 0) (fNil))) 2)
 (fSeq (fSet (fCall lstOf (fCons (fOp ixD (fV 0) (fV 1)) (fNil))) 3)
 (fFor (fRg1 (fV 2)) (gN 4)
 (fSeq (fSet (fOp ixD (fV 0) (fV 4)) 5)
 (fSeq (fSet (fOp ixD (fV 5) (fV 1)) 6)
 (fFor (fRg1 (fV 2)) (gN 7)
 (fIfS (fTB (fOp ltD (fOp addD (fV 6) (fOp ixD (fV 3) (fV 7))) (fOp ixD (fV 5) (fV 7))))
 (fAsg (fOp addD (fV 6) (fOp ixD (fV 3) (fV 7))) (gSb (fV 5) (fV 7)))
 (fPass)))))))
noncomputable def m_shorten : FM := body 2 8 p_shorten
noncomputable def p_close  : FS :=
 fSeq (fSet (fLc (fItS (fV 0)) (gN 2) (fYes) (fCall lstOf (fCons (fV 2) (fNil))) [2]) 1)
 (fSeq (fSet (fCall lenD (fCons (fV 1) (fNil))) 3)
 (fSeq (fIfS (fT (fOwn 1 m_has_negative (fCons (fV 1) (fNil))))
 (fRet (fC .non))
 (fPass))
 (fSeq (fFor (fRg1 (fV 3)) (gN 4)
 (fAsg (fC (.int 0)) (gSb (fOp ixD (fV 1) (fV 4)) (fV 4))))
 (fSeq (fFor (fRg1 (fV 3)) (gN 5)
 (fSeq (fEx (fOwn 2 m_shorten (fCons (fV 1) (fCons (fV 5) (fNil)))))
 (fIfS (fT (fOwn 1 m_has_negative (fCons (fV 1) (fNil))))
 (fRet (fC .non))
 (fPass))))
 (fRet (fOwn 1 m_frozen (fCons (fV 1) (fNil))))))))
noncomputable def m_close : FM := body 1 6 p_close
noncomputable def p_combined  : FS :=
 fSeq (fSet (fLst (fNil)) 3)
 (fSeq (fFor (fRg1 (fCall lenD (fCons (fV 0) (fNil)))) (gN 4)
 (fIfS (fT (fV 2))
 (fEx (fMt "list" appendD (fV 3) (fCons (fLc (fRg1 (fCall lenD (fCons (fV 0) (fNil)))) (gN 5) (fYes) (fCall maxD (fCons (fOp ixD (fOp ixD (fV 0) (fV 4)) (fV 5)) (fCons (fOp ixD (fOp ixD (fV 1) (fV 4)) (fV 5)) (fNil)))) [5]) (fNil))))
 (fEx (fMt "list" appendD (fV 3) (fCons (fLc (fRg1 (fCall lenD (fCons (fV 0) (fNil)))) (gN 5) (fYes) (fCall minD (fCons (fOp ixD (fOp ixD (fV 0) (fV 4)) (fV 5)) (fCons (fOp ixD (fOp ixD (fV 1) (fV 4)) (fV 5)) (fNil)))) [5]) (fNil))))))
 (fRet (fOwn 1 m_frozen (fCons (fV 3) (fNil)))))
noncomputable def m_combined : FM := body 3 6 p_combined
noncomputable def p_meet_boxes  : FS :=
 fSeq (fIfS (fTOr (fTB (fOp isD (fV 0) (fC .non))) (fTB (fOp isD (fV 1) (fC .non))))
 (fRet (fC .non))
 (fPass))
 (fRet (fOwn 1 m_close (fCons (fOwn 3 m_combined (fCons (fV 0) (fCons (fV 1) (fCons (fC (.bl false)) (fNil))))) (fNil))))
noncomputable def m_meet_boxes : FM := body 2 2 p_meet_boxes
noncomputable def p_tie_boxes  : FS :=
 fSeq (fIfS (fTOr (fTB (fOp isD (fV 0) (fC .non))) (fTB (fOp isD (fV 1) (fC .non))))
 (fRet (fC .non))
 (fPass))
 (fSeq (fSet (fOp addD (fTup (fCons (fC (.int 0)) (fNil))) (fV 2)) 3)
 (fSeq (fSet (fLc (fItS (fV 0)) (gN 5) (fYes) (fCall lstOf (fCons (fV 5) (fNil))) [5]) 4)
 (fSeq (fFor (fRg1 (fCall lenD (fCons (fV 3) (fNil)))) (gN 6)
 (fFor (fRg1 (fCall lenD (fCons (fV 3) (fNil)))) (gN 7)
 (fSeq (fSet (fOp ixD (fV 3) (fV 6)) 8)
 (fSeq (fSet (fOp ixD (fV 3) (fV 7)) 9)
 (fAsg (fCall minD (fCons (fOp ixD (fOp ixD (fV 4) (fV 8)) (fV 9)) (fCons (fOp ixD (fOp ixD (fV 1) (fV 6)) (fV 7)) (fNil)))) (gSb (fOp ixD (fV 4) (fV 8)) (fV 9)))))))
 (fRet (fOwn 1 m_close (fCons (fOwn 1 m_frozen (fCons (fV 4) (fNil))) (fNil)))))))
noncomputable def m_tie_boxes : FM := body 3 10 p_tie_boxes
noncomputable def p__law_cut  : FS :=
 fSeq (fSet (fOp ixD (fV 1) (fC (.str "points"))) 2)
 (fSeq (fSet (fOp ixD (fV 1) (fC (.str "size"))) 3)
 (fSeq (fSet (fOp ixD (fV 1) (fC (.str "box"))) 4)
 (fSeq (fSet (fCall tupOf (fCons (fOp mulD (fLst (fCons (fC (.int 0)) (fNil))) (fV 3)) (fNil))) 5)
 (fSeq (fIfS (fTB (fOp neNil (fV 2) (fLst (fNil))))
 (fSet (fOp ixD (fV 2) (fOwn 2 m__law_pick (fCons (fV 0) (fCons (fCall lenD (fCons (fV 2) (fNil))) (fNil))))) 5)
 (fPass))
 (fSeq (fSet (fOwn 2 m__law_pick (fCons (fV 0) (fCons (fC (.int 3)) (fNil)))) 6)
 (fSeq (fSet (rgD (fC (.int 1)) (fOp addD (fV 3) (fC (.int 1))) rgTup) 7)
 (fSeq (fIfS (fTB (fOp eqD (fV 6) (fC (.int 1))))
 (fSet (fOwn 3 m__law_columns (fCons (fV 0) (fCons (fV 3) (fCons (fOp ixD (fLst (fCons (fC (.int 3)) (fCons (fC (.int 3)) (fCons (fC (.int 9)) (fNil))))) (fOwn 2 m__law_pick (fCons (fV 0) (fCons (fC (.int 3)) (fNil))))) (fNil))))) 7)
 (fPass))
 (fSeq (fSet (fOwn 2 m__law_near_box (fCons (fV 0) (fCons (fOwn 2 m__law_part (fCons (fV 5) (fCons (fV 7) (fNil)))) (fNil)))) 8)
 (fSeq (fIfS (fTAnd (fTB (fOp eqD (fV 6) (fC (.int 0)))) (fTB (fOp gtD (fV 3) (fC (.int 0)))))
 (fSeq (fSet (fOwn 2 m__law_pick (fCons (fV 0) (fCons (fOp addD (fV 3) (fC (.int 1))) (fNil)))) 9)
 (fSeq (fSet (fOp modD (fCall intD (fCons (fOp addD (fOp addD (fV 9) (fC (.int 1))) (fOwn 2 m__law_pick (fCons (fV 0) (fCons (fV 3) (fNil))))) (fNil))) (fOp addD (fV 3) (fC (.int 1)))) 10)
 (fSeq (fSet (fOp subD (fOwn 2 m__law_pick (fCons (fV 0) (fCons (fC (.int 5)) (fNil)))) (fC (.int 2))) 11)
 (fSeq (fIfS (fTB (fOp neNil (fV 2) (fLst (fNil))))
 (fSeq (fSet (fOp subD (fOp subD (fC (.int 0)) (fOp ixD (fOp ixD (fOp ixD (fV 1) (fC (.str "due"))) (fV 10)) (fV 9))) (fC (.int 1))) 12)
 (fSet (fOp addD (fV 12) (fOwn 2 m__law_pick (fCons (fV 0) (fCons (fOp addD (fOp subD (fOp ixD (fOp ixD (fOp ixD (fV 1) (fC (.str "due"))) (fV 9)) (fV 10)) (fV 12)) (fC (.int 2))) (fNil))))) 11))
 (fPass))
 (fSeq (fAsg (fOwn 4 m_bound (fCons (fV 4) (fCons (fV 9) (fCons (fV 10) (fCons (fV 11) (fNil)))))) (gSb (fV 1) (fC (.str "box"))))
 (fSeq (fAsg (fLc (fItS (fV 2)) (gN 13) (fTB (fOp leD (fOp subD (fOp ixD (fOp addD (fTup (fCons (fC (.int 0)) (fNil))) (fV 13)) (fV 9)) (fOp ixD (fOp addD (fTup (fCons (fC (.int 0)) (fNil))) (fV 13)) (fV 10))) (fV 11))) (fV 13) [13]) (gSb (fV 1) (fC (.str "points"))))
 (fRet (fC .non))))))))
 (fPass))
 (fSeq (fIfS (fTB (fOp eqD (fV 6) (fC (.int 1))))
 (fAsg (fOwn 3 m_tie_boxes (fCons (fV 4) (fCons (fV 8) (fCons (fV 7) (fNil))))) (gSb (fV 1) (fC (.str "box"))))
 (fIfS (fTB (fOp eqD (fOwn 2 m__law_pick (fCons (fV 0) (fCons (fC (.int 2)) (fNil)))) (fC (.int 0))))
 (fAsg (fOwn 2 m_meet_boxes (fCons (fV 4) (fCons (fV 8) (fNil)))) (gSb (fV 1) (fC (.str "box"))))
 (fAsg (fOwn 2 m_meet_boxes (fCons (fV 8) (fCons (fV 4) (fNil)))) (gSb (fV 1) (fC (.str "box"))))))
 (fSeq (fIfS (fTB (fOp isD (fV 8) (fC .non)))
 (fAsg (fLst (fNil)) (gSb (fV 1) (fC (.str "points"))))
 (fPass))
 (fSeq (fAsg (fLc (fItS (fOp ixD (fV 1) (fC (.str "points")))) (gN 13) (fT (fOwn 2 m__law_belongs (fCons (fV 8) (fCons (fOwn 2 m__law_part (fCons (fV 13) (fCons (fV 7) (fNil)))) (fNil))))) (fV 13) [13]) (gSb (fV 1) (fC (.str "points"))))
 (fRet (fC .non))))))))))))))
noncomputable def m__law_cut : FM := body 2 14 p__law_cut
noncomputable def p__law_fits  : FS :=
 fSeq (fFor (fRg1 (fCall lenD (fCons (fV 1) (fNil)))) (gN 4)
 (fIfS (fTOr (fTB (fOp gtD (fOp subD (fV 3) (fOp ixD (fV 1) (fV 4))) (fOp ixD (fOp ixD (fV 0) (fV 2)) (fOp addD (fV 4) (fC (.int 1)))))) (fTB (fOp gtD (fOp subD (fOp ixD (fV 1) (fV 4)) (fV 3)) (fOp ixD (fOp ixD (fV 0) (fOp addD (fV 4) (fC (.int 1)))) (fV 2)))))
 (fRet (fC (.bl false)))
 (fPass)))
 (fRet (fC (.bl true)))
noncomputable def m__law_fits : FM := body 4 5 p__law_fits
noncomputable def p__law_points  : FS :=
 fSeq (fIfS (fTOr (fTB (fOp isD (fV 0) (fC .non))) (fTB (fOp ltD (fCall minD (fCons (fLc (fRg1 (fCall lenD (fCons (fV 0) (fNil)))) (gN 1) (fYes) (fOp ixD (fOp ixD (fV 0) (fV 1)) (fV 1)) [1]) (fNil))) (fC (.int 0)))))
 (fRet (fLst (fNil)))
 (fPass))
 (fSeq (fSet (fLst (fCons (fTup (fNil)) (fNil))) 2)
 (fSeq (fFor (fRg2 (fC (.int 1)) (fCall lenD (fCons (fV 0) (fNil)))) (gN 3)
 (fSeq (fSet (fLst (fNil)) 4)
 (fSeq (fFor (fItS (fV 2)) (gN 5)
 (fFor (fRg2 (fOp subD (fC (.int 0)) (fOp ixD (fOp ixD (fV 0) (fC (.int 0))) (fV 3))) (fOp addD (fOp ixD (fOp ixD (fV 0) (fV 3)) (fC (.int 0))) (fC (.int 1)))) (gN 6)
 (fIfS (fT (fOwn 4 m__law_fits (fCons (fV 0) (fCons (fV 5) (fCons (fV 3) (fCons (fV 6) (fNil)))))))
 (fEx (fMt "list" appendD (fV 4) (fCons (fOp addD (fV 5) (fTup (fCons (fV 6) (fNil)))) (fNil))))
 (fPass))))
 (fSet (fCall lstOf (fCons (fV 4) (fNil))) 2))))
 (fRet (fV 2))))
noncomputable def m__law_points : FM := body 1 7 p__law_points
noncomputable def p__law_same (r__law_same : FM) : FS :=
 fSeq (fIfS (fTOr (fT (fUn (isiD "tuple") (fV 1))) (fT (fUn (isiD "list") (fV 1))))
 (fSeq (fIfS (fTOr (fTB (fOp neD (fUn (isiD "tuple") (fV 1)) (fUn (isiD "tuple") (fV 0)))) (fTB (fOp neD (fUn (isiD "list") (fV 1)) (fUn (isiD "list") (fV 0)))))
 (fRet (fC (.bl false)))
 (fPass))
 (fSeq (fIfS (fTB (fOp neD (fCall lenD (fCons (fV 0) (fNil))) (fCall lenD (fCons (fV 1) (fNil)))))
 (fRet (fC (.bl false)))
 (fPass))
 (fSeq (fFor (fRg1 (fCall lenD (fCons (fV 1) (fNil)))) (gN 2)
 (fIfS (fTNot (fT (fOwn 2 r__law_same (fCons (fOp ixD (fV 0) (fV 2)) (fCons (fOp ixD (fV 1) (fV 2)) (fNil))))))
 (fRet (fC (.bl false)))
 (fPass)))
 (fRet (fC (.bl true))))))
 (fPass))
 (fSeq (fIfS (fTB (fOp isD (fV 1) (fC .non)))
 (fRet (fOp isD (fV 0) (fC .non)))
 (fPass))
 (fSeq (fIfS (fT (fUn (isiD "bool") (fV 1)))
 (fRet (fAnd (fUn (isiD "bool") (fV 0)) (fOp eqD (fV 0) (fV 1))))
 (fPass))
 (fSeq (fIfS (fT (fUn (isiD "int") (fV 1)))
 (fRet (fAnd (fUn (isiD "int") (fV 0)) (fAnd (fNot (fUn (isiD "bool") (fV 0))) (fOp eqD (fV 0) (fV 1)))))
 (fPass))
 (fRet (fAnd (fUn (isiD "str") (fV 0)) (fOp eqD (fV 0) (fV 1)))))))
noncomputable def m__law_same : Nat → FM
  | 0 => fun _ _ => .bad
  | n + 1 => body 2 3 (p__law_same (m__law_same n))
noncomputable def p__law_source  : FS :=
 fRet (fLst (fCons (fV 0) (fCons (fV 0) (fCons (fC (.int 0)) (fNil)))))
noncomputable def m__law_source : FM := body 1 1 p__law_source
noncomputable def p__law_start  : FS :=
 fSeq (fSet (fLc (fRg1 (fV 1)) (gN 3) (fYes) (fOp ixD (fLst (fCons (fC (.int 0)) (fCons (fC (.int 0)) (fCons (fC (.int 50)) (fCons (fOp powD (fC (.int 10)) (fC (.int 9))) (fCons (fOp subD (fC (.int 0)) (fOp powD (fC (.int 10)) (fC (.int 9)))) (fNil))))))) (fOwn 2 m__law_pick (fCons (fV 0) (fCons (fC (.int 5)) (fNil))))) [3]) 2)
 (fSeq (fIfS (fTB (fOp gtD (fV 1) (fC (.int 3))))
 (fRet (fLst (fCons (fCall tupOf (fCons (fV 2) (fNil))) (fCons (fCall tupOf (fCons (fLc (fItS (fV 2)) (gN 4) (fYes) (fOp subD (fOp addD (fV 4) (fOwn 2 m__law_pick (fCons (fV 0) (fCons (fC (.int 3)) (fNil))))) (fC (.int 1))) [4]) (fNil))) (fNil)))))
 (fPass))
 (fSeq (fSet (fLst (fNil)) 5)
 (fSeq (fFor (fRg1 (fOp addD (fC (.int 1)) (fOwn 2 m__law_pick (fCons (fV 0) (fCons (fOp addD (fV 1) (fC (.int 2))) (fNil)))))) (gN 3)
 (fEx (fMt "list" appendD (fV 5) (fCons (fCall tupOf (fCons (fLc (fItS (fV 2)) (gN 4) (fYes) (fOp subD (fOp addD (fV 4) (fOwn 2 m__law_pick (fCons (fV 0) (fCons (fC (.int 5)) (fNil))))) (fC (.int 2))) [4]) (fNil))) (fNil)))))
 (fRet (fV 5)))))
noncomputable def m__law_start : FM := body 2 6 p__law_start
noncomputable def p_law  : FS :=
 fSeq (fSet (fOwn 1 m__law_source (fCons (fOwn 2 m__law_cell (fCons (fV 0) (fCons (fC (.int 0)) (fNil)))) (fNil))) 1)
 (fSeq (fSet (fOwn 2 m__law_pick (fCons (fV 1) (fCons (fC (.int 4)) (fNil)))) 2)
 (fSeq (fIfS (fTB (fOp eqD (fOwn 2 m__law_pick (fCons (fV 1) (fCons (fC (.int 8)) (fNil)))) (fC (.int 0))))
 (fSet (fOp addD (fC (.int 4)) (fOwn 2 m__law_pick (fCons (fV 1) (fCons (fC (.int 9)) (fNil))))) 2)
 (fPass))
 (fSeq (fSet (fOwn 2 m__law_hull (fCons (fOwn 2 m__law_start (fCons (fV 1) (fCons (fV 2) (fNil)))) (fCons (fV 2) (fNil)))) 3)
 (fSeq (fSet (fDisp [(fC (.str "points"), fOwn 1 m__law_points (fCons (fV 3) (fNil))), (fC (.str "size"), fV 2), (fC (.str "due"), fV 3), (fC (.str "box"), fV 3)]) 4)
 (fSeq (fFor (fRg1 (fOp addD (fC (.int 3)) (fOwn 2 m__law_pick (fCons (fV 1) (fCons (fC (.int 5)) (fNil)))))) (gN 5)
 (fSeq (fSet (fOwn 1 m__law_source (fCons (fOp addD (fOwn 2 m__law_cell (fCons (fV 0) (fCons (fOp addD (fV 5) (fC (.int 1))) (fNil)))) (fOp mulD (fC (.int 17)) (fV 5))) (fNil))) 1)
 (fSeq (fIfS (fTB (fOp eqD (fOwn 2 m__law_pick (fCons (fV 1) (fCons (fC (.int 2)) (fNil)))) (fC (.int 0))))
 (fEx (fOwn 2 m__law_cut (fCons (fV 1) (fCons (fV 4) (fNil)))))
 (fEx (fOwn 2 m__law_change (fCons (fV 1) (fCons (fV 4) (fNil))))))
 (fSeq (fAsg (fOwn 2 m__law_hull (fCons (fOp ixD (fV 4) (fC (.str "points"))) (fCons (fOp ixD (fV 4) (fC (.str "size"))) (fNil)))) (gSb (fV 4) (fC (.str "due"))))
 (fIfS (fTNot (fT (fOwn 2 (m__law_same 20) (fCons (fOp ixD (fV 4) (fC (.str "box"))) (fCons (fOp ixD (fV 4) (fC (.str "due"))) (fNil))))))
 (fRet (fC (.bl false)))
 (fPass))))))
 (fRet (fAnd (fOp isD (fOwn 3 m_tie_boxes (fCons (fOp ixD (fV 4) (fC (.str "box"))) (fCons (fC .non) (fCons (fTup (fNil)) (fNil))))) (fC .non)) (fOp isD (fOwn 3 m_tie_boxes (fCons (fC .non) (fCons (fTup (fCons (fTup (fCons (fC (.int 0)) (fNil))) (fNil))) (fCons (fTup (fNil)) (fNil))))) (fC .non)))))))))
noncomputable def m_law : FM := body 1 6 p_law
/-! ### the walk of each def -/
section
variable {P : Program} {w : World} {K : PySem.W.Frag} {mg : Str → Option Value} {base : Heap}
theorem ad__law_cell (T : Txt K mg) : ADef P w K mg base 1 T.a__law_cell T.d__law_cell ["_law_script", "_law_at"] m__law_cell :=
 adef T.F__law_cell sc__law_cell fun cdv A outer s H E hr =>
 ass_cons (as_if (at_cmp aop_lt (ae_v 1) (ae_callB acall_len (by rfl) T.n_len PySem.boot_len (aa_cons (ae_v 0) (aa_nil))))
 (ass_one (as_ret (ae_ix (hu_of hr) (ae_v 0) (ae_v 1))))
 (ass_nil))
 (ass_one (as_ret (ae_int)))
theorem ad__law_pick (T : Txt K mg) : ADef P w K mg base 1 T.a__law_pick T.d__law_pick ["_law_source_here", "_law_size"] m__law_pick :=
 adef T.F__law_pick sc__law_pick fun cdv A outer s H E hr =>
 ass_cons (as_set (i := 2) sc__law_pick.nd (ae_ix (hu_of hr) (ae_v 0) (ae_int)))
 (ass_cons (as_asg (ae_op aop_add (ae_v 2) (ae_int)) (ag_sub (hu_of hr) (ae_v 0) (ae_int)))
 (ass_cons (as_if (at_cmp aop_lt (ae_v 1) (ae_int))
 (ass_one (as_ret (ae_int)))
 (ass_nil))
 (ass_cons (as_if ((aw_and (at_cmp aop_ge (ae_ix (hu_of hr) (ae_v 0) (ae_int)) (ae_op aop_pow (ae_int) (ae_int))) (aw_and1 (at_cmp aop_gt (ae_ix (hu_of hr) (ae_v 0) (ae_int)) (ae_int)))).pt)
 (ass_cons (as_set (i := 3) sc__law_pick.nd (ae_op aop_mod (ae_callT acall_int (by rfl) T.n_int PyProof.Rows.boot_int (aa_cons (ae_ix (hu_of hr) (ae_v 0) (ae_int)) (aa_nil))) (ae_v 1)))
 (ass_cons (as_asg (ae_op aop_fdiv (ae_ix (hu_of hr) (ae_v 0) (ae_int)) (ae_v 1)) (ag_sub (hu_of hr) (ae_v 0) (ae_int)))
 (ass_one (as_ret (ae_v 3)))))
 (ass_nil))
 (ass_cons (as_set (i := 4) sc__law_pick.nd (ae_op aop_mod (ae_callT acall_int (by rfl) T.n_int PyProof.Rows.boot_int (aa_cons (ae_op aop_add (ae_op aop_add (ae_ix (hu_of hr) (ae_v 0) (ae_int)) (ae_op aop_mul (ae_int) (ae_v 2))) (ae_int)) (aa_nil))) (ae_int)))
 (ass_cons (as_set (i := 4) sc__law_pick.nd (ae_op aop_mod (ae_callT acall_int (by rfl) T.n_int PyProof.Rows.boot_int (aa_cons (ae_op aop_mul (ae_v 4) (ae_op aop_add (ae_v 4) (ae_int))) (aa_nil))) (ae_int)))
 (ass_cons (as_set (i := 4) sc__law_pick.nd (ae_op aop_mod (ae_callT acall_int (by rfl) T.n_int PyProof.Rows.boot_int (aa_cons (ae_op aop_add (ae_op aop_mul (ae_v 4) (ae_op aop_add (ae_v 4) (ae_int))) (ae_op aop_mul (ae_int) (ae_v 2))) (aa_nil))) (ae_int)))
 (ass_one (as_ret (ae_op aop_mod (ae_callT acall_int (by rfl) T.n_int PyProof.Rows.boot_int (aa_cons (ae_op aop_fdiv (ae_v 4) (ae_int)) (aa_nil))) (ae_v 1))))))))))
theorem ad__law_columns (T : Txt K mg) : ADef P w K mg base 2 T.a__law_columns T.d__law_columns ["_law_source_here", "_law_size", "_law_upto"] m__law_columns :=
 adef T.F__law_columns sc__law_columns fun cdv A outer s H E hr =>
 ass_cons (as_set (i := 3) sc__law_columns.nd (ae_lst (aa_nil)))
 (ass_cons (as_if (at_cmp aop_gt (ae_v 1) (ae_int))
 (ass_one (as_setLc [("_law_k", 4)] (i := 3) (by rfl) sc__law_columns.nd (ai_rg1 (by rfl) T.n_range (ae_call (ad__law_pick T) (hr.mono (by omega)) (by rfl) T.g__law_pick T.F__law_pick.kp T.b__law_pick (aa_cons (ae_v 0) (aa_cons (ae_op aop_add (ae_v 2) (ae_int)) (aa_nil))))) (blkOk_by (N := n__law_columns) (sc := defScope s__law_columns) (by decide +kernel)) (tgt_name (by decide)) (fun _ _ _ _ _ => pg_name (i := 4) sc__law_columns.nd (by rfl) (by first | exact Or.inl rfl | exact Or.inr rfl)) (fun _ _ _ _ _ => ats_nil) (fun _ _ _ _ _ => ae_op aop_add (ae_int) (ae_call (ad__law_pick T) (hr.mono (by omega)) (by rfl) T.g__law_pick T.F__law_pick.kp T.b__law_pick (aa_cons (ae_v 0) (aa_cons (ae_v 1) (aa_nil))))) (sw_true rfl rfl rfl (by decide +kernel))))
 (ass_nil))
 (ass_one (as_ret (ae_callT acall_tuple (by rfl) T.n_tuple PyProof.Rows.boot_tuple (aa_cons (ae_v 3) (aa_nil))))))
theorem ad__law_distinct (T : Txt K mg) : ADef P w K mg base 1 T.a__law_distinct T.d__law_distinct ["_law_points_here"] m__law_distinct :=
 adef T.F__law_distinct sc__law_distinct fun cdv A outer s H E hr =>
 ass_cons (as_set (i := 1) sc__law_distinct.nd (ae_lst (aa_nil)))
 (ass_cons (as_set (i := 2) sc__law_distinct.nd (ae_dictT))
 (ass_cons (as_for PassesOwn.never (by rfl) (ai_seq (ae_v 0)) (ag_name sc__law_distinct.nd)
 (ass_one (as_if (at_cmp (aop_ninT (u65 hr)) (ae_v 3) (ae_v 2))
 (ass_cons (as_asg (ae_bl) (ag_subT (hu_of hr) (ae_v 2) (ae_v 3)))
 (ass_one (as_ex (ae_mt PySem.F.plainAttrs_list PySem.F.slot_list_append PySem.F.type_list_append amt_append (ae_v 1) (aa_cons (ae_v 3) (aa_nil))))))
 (ass_nil))))
 (ass_one (as_ret (ae_v 1)))))
theorem ad__law_few (T : Txt K mg) : ADef P w K mg base 1 T.a__law_few T.d__law_few ["_law_points_here", "_law_size"] m__law_few :=
 adef T.F__law_few sc__law_few fun cdv A outer s H E hr =>
 ass_one (as_ret (ae_cmp aop_le (ae_op aop_mul (ae_op aop_mul (ae_callB acall_len (by rfl) T.n_len PySem.boot_len (aa_cons (ae_v 0) (aa_nil))) (ae_op aop_add (ae_v 1) (ae_int))) (ae_op aop_add (ae_v 1) (ae_int))) (ae_int)))
theorem ad__law_grid (T : Txt K mg) : ADef P w K mg base 1 T.a__law_grid T.d__law_grid ["_law_ranges"] m__law_grid :=
 adef T.F__law_grid sc__law_grid fun cdv A outer s H E hr =>
 ass_cons (as_set (i := 1) sc__law_grid.nd (ae_lst (aa_cons (ae_tup (aa_nil)) (aa_nil))))
 (ass_cons (as_for PassesOwn.never (by rfl) (ai_seq (ae_v 0)) (ag_name sc__law_grid.nd)
 (ass_cons (as_set (i := 3) sc__law_grid.nd (ae_lst (aa_nil)))
 (ass_cons (as_for PassesOwn.never (by rfl) (ai_seq (ae_v 1)) (ag_name sc__law_grid.nd)
 (ass_one (as_for PassesOwn.never (by rfl) (ai_rg2 (by rfl) T.n_range (ae_ix (hu_of hr) (ae_v 2) (ae_int)) (ae_op aop_add (ae_ix (hu_of hr) (ae_v 2) (ae_int)) (ae_int))) (ag_name sc__law_grid.nd)
 (ass_one (as_ex (ae_mt PySem.F.plainAttrs_list PySem.F.slot_list_append PySem.F.type_list_append amt_append (ae_v 3) (aa_cons (ae_op aop_add (ae_v 4) (ae_tup (aa_cons (ae_v 5) (aa_nil)))) (aa_nil))))))))
 (ass_one (as_set (i := 1) sc__law_grid.nd (ae_callT acall_list (by rfl) T.n_list PyProof.Rows.boot_list (aa_cons (ae_v 3) (aa_nil))))))))
 (ass_one (as_ret (ae_v 1))))
theorem ad__law_moved_points (T : Txt K mg) : ADef P w K mg base 1 T.a__law_moved_points T.d__law_moved_points ["_law_points_here", "_law_i", "_law_low", "_law_high", "_law_free"] m__law_moved_points :=
 adef T.F__law_moved_points sc__law_moved_points fun cdv A outer s H E hr =>
 ass_cons (as_set (i := 5) sc__law_moved_points.nd (ae_lst (aa_nil)))
 (ass_cons (as_for PassesOwn.never (by rfl) (ai_seq (ae_v 0)) (ag_name sc__law_moved_points.nd)
 (ass_one (as_for PassesOwn.never (by rfl) (ai_rg2 (by rfl) T.n_range (ae_v 2) (ae_op aop_add (ae_v 3) (ae_int))) (ag_name sc__law_moved_points.nd)
 (ass_one (as_if (at_e (ae_v 4))
 (ass_one (as_ex (ae_mt PySem.F.plainAttrs_list PySem.F.slot_list_append PySem.F.type_list_append amt_append (ae_v 5) (aa_cons (ae_op aop_add (ae_op aop_add (ae_sl (ae_v 6) (ao_none) (ao_some (ae_op aop_sub (ae_v 1) (ae_int)))) (ae_tup (aa_cons (ae_v 7) (aa_nil)))) (ae_sl (ae_v 6) (ao_some (ae_v 1)) (ao_none))) (aa_nil)))))
 (ass_one (as_ex (ae_mt PySem.F.plainAttrs_list PySem.F.slot_list_append PySem.F.type_list_append amt_append (ae_v 5) (aa_cons (ae_op aop_add (ae_op aop_add (ae_sl (ae_v 6) (ao_none) (ao_some (ae_op aop_sub (ae_v 1) (ae_int)))) (ae_tup (aa_cons (ae_op aop_add (ae_ix (hu_of hr) (ae_v 6) (ae_op aop_sub (ae_v 1) (ae_int))) (ae_v 7)) (aa_nil)))) (ae_sl (ae_v 6) (ao_some (ae_v 1)) (ao_none))) (aa_nil))))))))))
 (ass_one (as_ret (ae_v 5))))
theorem ad__law_part (T : Txt K mg) : ADef P w K mg base 1 T.a__law_part T.d__law_part ["_law_point", "_law_columns_here"] m__law_part :=
 adef T.F__law_part sc__law_part fun cdv A outer s H E hr =>
 ass_one (as_ret (ae_callT acall_tuple (by rfl) T.n_tuple PyProof.Rows.boot_tuple (aa_cons (ae_lc [("_law_c", 2)] (by rfl) sc__law_part.nd (ai_seq (ae_v 1)) (blkOk_by (N := n__law_part) (sc := defScope s__law_part) (by decide +kernel)) (tgt_name (by decide)) (fun _ _ _ _ _ => pg_name (i := 2) sc__law_part.nd (by rfl) (by first | exact Or.inl rfl | exact Or.inr rfl)) (fun _ _ _ _ _ => ats_nil) (fun _ _ _ _ _ => ae_ix (hu_of hr) (ae_v 0) (ae_op aop_sub (ae_v 2) (ae_int)))) (aa_nil))))
theorem ad_frozen (T : Txt K mg) : ADef P w K mg base 1 T.a_frozen T.d_frozen ["rows"] m_frozen :=
 adef T.F_frozen sc_frozen fun cdv A outer s H E hr =>
 ass_one (as_ret (ae_callT acall_tuple (by rfl) T.n_tuple PyProof.Rows.boot_tuple (aa_cons (ae_lc [("row", 1)] (by rfl) sc_frozen.nd (ai_seq (ae_v 0)) (blkOk_by (N := n_frozen) (sc := defScope s_frozen) (by decide +kernel)) (tgt_name (by decide)) (fun _ _ _ _ _ => pg_name (i := 1) sc_frozen.nd (by rfl) (by first | exact Or.inl rfl | exact Or.inr rfl)) (fun _ _ _ _ _ => ats_nil) (fun _ _ _ _ _ => ae_callT acall_tuple (by rfl) T.n_tuple PyProof.Rows.boot_tuple (aa_cons (ae_v 1) (aa_nil)))) (aa_nil))))
theorem ad_add_columns (T : Txt K mg) : ADef P w K mg base 2 T.a_add_columns T.d_add_columns ["box", "ranges"] m_add_columns :=
 adef T.F_add_columns sc_add_columns fun cdv A outer s H E hr =>
 ass_cons (as_if (at_cmp aop_is (ae_v 0) (ae_non))
 (ass_one (as_ret (ae_non)))
 (ass_nil))
 (ass_cons (as_set (i := 2) sc_add_columns.nd (ae_callB acall_len (by rfl) T.n_len PySem.boot_len (aa_cons (ae_v 0) (aa_nil))))
 (ass_cons (as_set (i := 3) sc_add_columns.nd (ae_op aop_add (ae_lc [("i", 4)] (by rfl) sc_add_columns.nd (ai_rg1 (by rfl) T.n_range (ae_v 2)) (blkOk_by (N := n_add_columns) (sc := defScope s_add_columns) (by decide +kernel)) (tgt_name (by decide)) (fun _ _ _ _ _ => pg_name (i := 4) sc_add_columns.nd (by rfl) (by first | exact Or.inl rfl | exact Or.inr rfl)) (fun _ _ _ _ _ => ats_nil) (fun _ _ _ _ _ => ae_ix (hu_of hr) (ae_ix (hu_of hr) (ae_v 0) (ae_v 4)) (ae_int))) (ae_lc [("low", 5), ("high", 6)] (by rfl) sc_add_columns.nd (ai_seq (ae_v 1)) (blkOk_by (N := n_add_columns) (sc := defScope s_add_columns) (by decide +kernel)) (tgt_tup (tgts_cons (i := 5) (by decide) (tgts_cons (i := 6) (by decide) (tgts_nil)))) (fun _ _ _ _ _ => pg_tup (by rfl) (pgs_cons (pg_name (i := 5) sc_add_columns.nd (by rfl) (by first | exact Or.inl rfl | exact Or.inr rfl)) (pgs_cons (pg_name (i := 6) sc_add_columns.nd (by rfl) (by first | exact Or.inl rfl | exact Or.inr rfl)) (pgs_nil)))) (fun _ _ _ _ _ => ats_nil) (fun _ _ _ _ _ => ae_v 6))))
 (ass_cons (as_set (i := 7) sc_add_columns.nd (ae_op aop_add (ae_lc [("j", 8)] (by rfl) sc_add_columns.nd (ai_rg1 (by rfl) T.n_range (ae_v 2)) (blkOk_by (N := n_add_columns) (sc := defScope s_add_columns) (by decide +kernel)) (tgt_name (by decide)) (fun _ _ _ _ _ => pg_name (i := 8) sc_add_columns.nd (by rfl) (by first | exact Or.inl rfl | exact Or.inr rfl)) (fun _ _ _ _ _ => ats_nil) (fun _ _ _ _ _ => ae_ix (hu_of hr) (ae_ix (hu_of hr) (ae_v 0) (ae_int)) (ae_v 8))) (ae_lc [("low", 5), ("high", 6)] (by rfl) sc_add_columns.nd (ai_seq (ae_v 1)) (blkOk_by (N := n_add_columns) (sc := defScope s_add_columns) (by decide +kernel)) (tgt_tup (tgts_cons (i := 5) (by decide) (tgts_cons (i := 6) (by decide) (tgts_nil)))) (fun _ _ _ _ _ => pg_tup (by rfl) (pgs_cons (pg_name (i := 5) sc_add_columns.nd (by rfl) (by first | exact Or.inl rfl | exact Or.inr rfl)) (pgs_cons (pg_name (i := 6) sc_add_columns.nd (by rfl) (by first | exact Or.inl rfl | exact Or.inr rfl)) (pgs_nil)))) (fun _ _ _ _ _ => ats_nil) (fun _ _ _ _ _ => ae_un aun_neg (ae_v 5)))))
 (ass_cons (as_set (i := 9) sc_add_columns.nd (ae_lst (aa_nil)))
 (ass_cons (as_for PassesOwn.never (by rfl) (ai_rg1 (by rfl) T.n_range (ae_callB acall_len (by rfl) T.n_len PySem.boot_len (aa_cons (ae_v 3) (aa_nil)))) (ag_name sc_add_columns.nd)
 (ass_cons (as_setLc [("j", 8)] (i := 10) (by rfl) sc_add_columns.nd (ai_rg1 (by rfl) T.n_range (ae_callB acall_len (by rfl) T.n_len PySem.boot_len (aa_cons (ae_v 3) (aa_nil)))) (blkOk_by (N := n_add_columns) (sc := defScope s_add_columns) (by decide +kernel)) (tgt_name (by decide)) (fun _ _ _ _ _ => pg_name (i := 8) sc_add_columns.nd (by rfl) (by first | exact Or.inl rfl | exact Or.inr rfl)) (fun _ _ _ _ _ => ats_nil) (fun _ _ _ _ _ => ae_op aop_add (ae_ix (hu_of hr) (ae_v 3) (ae_v 4)) (ae_ix (hu_of hr) (ae_v 7) (ae_v 8))) (sw_true rfl rfl rfl (by decide +kernel)))
 (ass_cons (as_asg (ae_int) (ag_sub (hu_of hr) (ae_v 10) (ae_v 4)))
 (ass_cons (as_if (at_cmp aop_lt (ae_v 4) (ae_v 2))
 (ass_one (as_asg (ae_ix (hu_of hr) (ae_v 0) (ae_v 4)) (ag_head (ae_v 10) (ao_some (ae_v 2)))))
 (ass_nil))
 (ass_one (as_ex (ae_mt PySem.F.plainAttrs_list PySem.F.slot_list_append PySem.F.type_list_append amt_append (ae_v 9) (aa_cons (ae_v 10) (aa_nil)))))))))
 (ass_one (as_ret (ae_call (ad_frozen T) (hr.mono (by omega)) (by rfl) T.g_frozen T.F_frozen.kp T.b_frozen (aa_cons (ae_v 9) (aa_nil))))))))))
theorem ad_free_column (T : Txt K mg) : ADef P w K mg base 2 T.a_free_column T.d_free_column ["box", "i", "lo", "hi"] m_free_column :=
 adef T.F_free_column sc_free_column fun cdv A outer s H E hr =>
 ass_cons (as_if ((aw_or (at_cmp aop_is (ae_v 0) (ae_non)) (aw_or1 (at_cmp aop_gt (ae_v 2) (ae_v 3)))).pt)
 (ass_one (as_ret (ae_non)))
 (ass_nil))
 (ass_cons (as_set (i := 4) sc_free_column.nd (ae_lst (aa_nil)))
 (ass_cons (as_for PassesOwn.never (by rfl) (ai_rg1 (by rfl) T.n_range (ae_callB acall_len (by rfl) T.n_len PySem.boot_len (aa_cons (ae_v 0) (aa_nil)))) (ag_name sc_free_column.nd)
 (ass_cons (as_set (i := 6) sc_free_column.nd (ae_callT acall_list (by rfl) T.n_list PyProof.Rows.boot_list (aa_cons (ae_ix (hu_of hr) (ae_v 0) (ae_v 5)) (aa_nil))))
 (ass_cons (as_asg (ae_op aop_sub (ae_ix (hu_of hr) (ae_ix (hu_of hr) (ae_v 0) (ae_v 5)) (ae_int)) (ae_v 2)) (ag_sub (hu_of hr) (ae_v 6) (ae_v 1)))
 (ass_one (as_ex (ae_mt PySem.F.plainAttrs_list PySem.F.slot_list_append PySem.F.type_list_append amt_append (ae_v 4) (aa_cons (ae_v 6) (aa_nil))))))))
 (ass_cons (as_asg (ae_lc [("k", 5)] (by rfl) sc_free_column.nd (ai_rg1 (by rfl) T.n_range (ae_callB acall_len (by rfl) T.n_len PySem.boot_len (aa_cons (ae_v 0) (aa_nil)))) (blkOk_by (N := n_free_column) (sc := defScope s_free_column) (by decide +kernel)) (tgt_name (by decide)) (fun _ _ _ _ _ => pg_name (i := 5) sc_free_column.nd (by rfl) (by first | exact Or.inl rfl | exact Or.inr rfl)) (fun _ _ _ _ _ => ats_nil) (fun _ _ _ _ _ => ae_op aop_add (ae_v 3) (ae_ix (hu_of hr) (ae_ix (hu_of hr) (ae_v 0) (ae_int)) (ae_v 5)))) (ag_sub (hu_of hr) (ae_v 4) (ae_v 1)))
 (ass_cons (as_asg (ae_int) (ag_sub (hu_of hr) (ae_ix (hu_of hr) (ae_v 4) (ae_v 1)) (ae_v 1)))
 (ass_one (as_ret (ae_call (ad_frozen T) (hr.mono (by omega)) (by rfl) T.g_frozen T.F_frozen.kp T.b_frozen (aa_cons (ae_v 4) (aa_nil)))))))))
theorem ad_pick_columns (T : Txt K mg) : ADef P w K mg base 2 T.a_pick_columns T.d_pick_columns ["box", "columns"] m_pick_columns :=
 adef T.F_pick_columns sc_pick_columns fun cdv A outer s H E hr =>
 ass_cons (as_if (at_cmp aop_is (ae_v 0) (ae_non))
 (ass_one (as_ret (ae_non)))
 (ass_nil))
 (ass_cons (as_set (i := 2) sc_pick_columns.nd (ae_op aop_add (ae_tup (aa_cons (ae_int) (aa_nil))) (ae_v 1)))
 (ass_cons (as_set (i := 3) sc_pick_columns.nd (ae_lst (aa_nil)))
 (ass_cons (as_for PassesOwn.never (by rfl) (ai_seq (ae_v 2)) (ag_name sc_pick_columns.nd)
 (ass_one (as_ex (ae_mt PySem.F.plainAttrs_list PySem.F.slot_list_append PySem.F.type_list_append amt_append (ae_v 3) (aa_cons (ae_lc [("j", 5)] (by rfl) sc_pick_columns.nd (ai_seq (ae_v 2)) (blkOk_by (N := n_pick_columns) (sc := defScope s_pick_columns) (by decide +kernel)) (tgt_name (by decide)) (fun _ _ _ _ _ => pg_name (i := 5) sc_pick_columns.nd (by rfl) (by first | exact Or.inl rfl | exact Or.inr rfl)) (fun _ _ _ _ _ => ats_nil) (fun _ _ _ _ _ => ae_ix (hu_of hr) (ae_ix (hu_of hr) (ae_v 0) (ae_v 4)) (ae_v 5))) (aa_nil))))))
 (ass_one (as_ret (ae_call (ad_frozen T) (hr.mono (by omega)) (by rfl) T.g_frozen T.F_frozen.kp T.b_frozen (aa_cons (ae_v 3) (aa_nil))))))))
theorem ad_shift_column (T : Txt K mg) : ADef P w K mg base 2 T.a_shift_column T.d_shift_column ["box", "i", "low", "high"] m_shift_column :=
 adef T.F_shift_column sc_shift_column fun cdv A outer s H E hr =>
 ass_cons (as_if (at_cmp aop_is (ae_v 0) (ae_non))
 (ass_one (as_ret (ae_non)))
 (ass_nil))
 (ass_cons (as_set (i := 4) sc_shift_column.nd (ae_lst (aa_nil)))
 (ass_cons (as_for PassesOwn.never (by rfl) (ai_rg1 (by rfl) T.n_range (ae_callB acall_len (by rfl) T.n_len PySem.boot_len (aa_cons (ae_v 0) (aa_nil)))) (ag_name sc_shift_column.nd)
 (ass_cons (as_set (i := 6) sc_shift_column.nd (ae_callT acall_list (by rfl) T.n_list PyProof.Rows.boot_list (aa_cons (ae_ix (hu_of hr) (ae_v 0) (ae_v 5)) (aa_nil))))
 (ass_cons (as_asg (ae_op aop_sub (ae_ix (hu_of hr) (ae_ix (hu_of hr) (ae_v 0) (ae_v 5)) (ae_v 1)) (ae_v 2)) (ag_sub (hu_of hr) (ae_v 6) (ae_v 1)))
 (ass_one (as_ex (ae_mt PySem.F.plainAttrs_list PySem.F.slot_list_append PySem.F.type_list_append amt_append (ae_v 4) (aa_cons (ae_v 6) (aa_nil))))))))
 (ass_cons (as_asg (ae_lc [("k", 5)] (by rfl) sc_shift_column.nd (ai_rg1 (by rfl) T.n_range (ae_callB acall_len (by rfl) T.n_len PySem.boot_len (aa_cons (ae_v 0) (aa_nil)))) (blkOk_by (N := n_shift_column) (sc := defScope s_shift_column) (by decide +kernel)) (tgt_name (by decide)) (fun _ _ _ _ _ => pg_name (i := 5) sc_shift_column.nd (by rfl) (by first | exact Or.inl rfl | exact Or.inr rfl)) (fun _ _ _ _ _ => ats_nil) (fun _ _ _ _ _ => ae_op aop_add (ae_ix (hu_of hr) (ae_ix (hu_of hr) (ae_v 0) (ae_v 1)) (ae_v 5)) (ae_v 3))) (ag_sub (hu_of hr) (ae_v 4) (ae_v 1)))
 (ass_cons (as_asg (ae_int) (ag_sub (hu_of hr) (ae_ix (hu_of hr) (ae_v 4) (ae_v 1)) (ae_v 1)))
 (ass_one (as_ret (ae_call (ad_frozen T) (hr.mono (by omega)) (by rfl) T.g_frozen T.F_frozen.kp T.b_frozen (aa_cons (ae_v 4) (aa_nil)))))))))
theorem ad__law_change (T : Txt K mg) : ADef P w K mg base 3 T.a__law_change T.d__law_change ["_law_source_here", "_law_state"] m__law_change :=
 adef T.F__law_change sc__law_change fun cdv A outer s H E hr =>
 ass_cons (as_set (i := 2) sc__law_change.nd (ae_ix (hu_of hr) (ae_v 1) (ae_str)))
 (ass_cons (as_set (i := 3) sc__law_change.nd (ae_ix (hu_of hr) (ae_v 1) (ae_str)))
 (ass_cons (as_set (i := 4) sc__law_change.nd (ae_ix (hu_of hr) (ae_v 1) (ae_str)))
 (ass_cons (as_set (i := 5) sc__law_change.nd (ae_call (ad__law_pick T) (hr.mono (by omega)) (by rfl) T.g__law_pick T.F__law_pick.kp T.b__law_pick (aa_cons (ae_v 0) (aa_cons (ae_int) (aa_nil)))))
 (ass_cons (as_set (i := 6) sc__law_change.nd (ae_call (ad__law_columns T) (hr.mono (by omega)) (by rfl) T.g__law_columns T.F__law_columns.kp T.b__law_columns (aa_cons (ae_v 0) (aa_cons (ae_v 3) (aa_cons (ae_ix (hu_of hr) (ae_lst (aa_cons (ae_int) (aa_cons (ae_int) (aa_cons (ae_int) (aa_nil))))) (ae_call (ad__law_pick T) (hr.mono (by omega)) (by rfl) T.g__law_pick T.F__law_pick.kp T.b__law_pick (aa_cons (ae_v 0) (aa_cons (ae_int) (aa_nil))))) (aa_nil))))))
 (ass_cons (as_set (i := 7) sc__law_change.nd (ae_op aop_add (ae_int) (ae_call (ad__law_pick T) (hr.mono (by omega)) (by rfl) T.g__law_pick T.F__law_pick.kp T.b__law_pick (aa_cons (ae_v 0) (aa_cons (ae_v 3) (aa_nil))))))
 (ass_cons (as_set (i := 8) sc__law_change.nd (ae_op aop_sub (ae_call (ad__law_pick T) (hr.mono (by omega)) (by rfl) T.g__law_pick T.F__law_pick.kp T.b__law_pick (aa_cons (ae_v 0) (aa_cons (ae_int) (aa_nil)))) (ae_int)))
 (ass_cons (as_set (i := 9) sc__law_change.nd (ae_op aop_add (ae_v 8) (ae_call (ad__law_pick T) (hr.mono (by omega)) (by rfl) T.g__law_pick T.F__law_pick.kp T.b__law_pick (aa_cons (ae_v 0) (aa_cons (ae_int) (aa_nil))))))
 (ass_cons (as_set (i := 10) sc__law_change.nd (ae_v 2))
 (ass_cons (as_set (i := 11) sc__law_change.nd (ae_sl (ae_lst (aa_cons (ae_tup (aa_cons (ae_v 8) (aa_cons (ae_v 9) (aa_nil)))) (aa_cons (ae_tup (aa_cons (ae_v 9) (aa_cons (ae_op aop_add (ae_v 9) (ae_int)) (aa_nil)))) (aa_nil)))) (ao_none) (ao_some (ae_op aop_add (ae_int) (ae_call (ad__law_pick T) (hr.mono (by omega)) (by rfl) T.g__law_pick T.F__law_pick.kp T.b__law_pick (aa_cons (ae_v 0) (aa_cons (ae_int) (aa_nil))))))))
 (ass_cons (as_if (at_cmp (aop_eq hr.units) (ae_v 5) (ae_int))
 (ass_cons (as_set (i := 3) sc__law_change.nd (ae_callB acall_len (by rfl) T.n_len PySem.boot_len (aa_cons (ae_v 6) (aa_nil))))
 (ass_one (as_setLc [("_law_point", 12)] (i := 10) (by rfl) sc__law_change.nd (ai_seq (ae_v 2)) (blkOk_by (N := n__law_change) (sc := defScope s__law_change) (by decide +kernel)) (tgt_name (by decide)) (fun _ _ _ _ _ => pg_name (i := 12) sc__law_change.nd (by rfl) (by first | exact Or.inl rfl | exact Or.inr rfl)) (fun _ _ _ _ _ => ats_nil) (fun _ _ _ _ _ => ae_call (ad__law_part T) (hr.mono (by omega)) (by rfl) T.g__law_part T.F__law_part.kp T.b__law_part (aa_cons (ae_v 12) (aa_cons (ae_v 6) (aa_nil)))) (sw_true rfl rfl rfl (by decide +kernel)))))
 (ass_nil))
 (ass_cons (as_if ((aw_and (at_cmp (aop_eq hr.units) (ae_v 5) (ae_int)) (aw_and (at_cmp aop_gt (ae_v 3) (ae_int)) (aw_and1 (at_cmp (aop_neNil hr.units) (ae_v 2) (ae_lst (aa_nil)))))).pt)
 (ass_cons (as_set (i := 8) sc__law_change.nd (ae_op aop_add (ae_v 8) (ae_ix (hu_of hr) (ae_ix (hu_of hr) (ae_v 2) (ae_int)) (ae_op aop_sub (ae_v 7) (ae_int)))))
 (ass_cons (as_set (i := 9) sc__law_change.nd (ae_op aop_sub (ae_op aop_add (ae_v 8) (ae_call (ad__law_pick T) (hr.mono (by omega)) (by rfl) T.g__law_pick T.F__law_pick.kp T.b__law_pick (aa_cons (ae_v 0) (aa_cons (ae_int) (aa_nil))))) (ae_callT acall_int (by rfl) T.n_int PyProof.Rows.boot_int (aa_cons (ae_cmp (aop_eq hr.units) (ae_call (ad__law_pick T) (hr.mono (by omega)) (by rfl) T.g__law_pick T.F__law_pick.kp T.b__law_pick (aa_cons (ae_v 0) (aa_cons (ae_int) (aa_nil)))) (ae_int)) (aa_nil)))))
 (ass_one (as_set (i := 10) sc__law_change.nd (ae_call (ad__law_moved_points T) (hr.mono (by omega)) (by rfl) T.g__law_moved_points T.F__law_moved_points.kp T.b__law_moved_points (aa_cons (ae_v 2) (aa_cons (ae_v 7) (aa_cons (ae_v 8) (aa_cons (ae_v 9) (aa_cons (ae_bl) (aa_nil)))))))))))
 (ass_nil))
 (ass_cons (as_if ((aw_and (at_cmp (aop_eq hr.units) (ae_v 5) (ae_int)) (aw_and1 (at_cmp aop_gt (ae_v 3) (ae_int)))).pt)
 (ass_one (as_set (i := 10) sc__law_change.nd (ae_call (ad__law_moved_points T) (hr.mono (by omega)) (by rfl) T.g__law_moved_points T.F__law_moved_points.kp T.b__law_moved_points (aa_cons (ae_v 2) (aa_cons (ae_v 7) (aa_cons (ae_v 8) (aa_cons (ae_v 9) (aa_cons (ae_bl) (aa_nil)))))))))
 (ass_nil))
 (ass_cons (as_if (at_cmp (aop_eq hr.units) (ae_v 5) (ae_int))
 (ass_cons (as_set (i := 3) sc__law_change.nd (ae_op aop_add (ae_v 3) (ae_callB acall_len (by rfl) T.n_len PySem.boot_len (aa_cons (ae_v 11) (aa_nil)))))
 (ass_cons (as_set (i := 13) sc__law_change.nd (ae_call (ad__law_grid T) (hr.mono (by omega)) (by rfl) T.g__law_grid T.F__law_grid.kp T.b__law_grid (aa_cons (ae_v 11) (aa_nil))))
 (ass_cons (as_set (i := 10) sc__law_change.nd (ae_lst (aa_nil)))
 (ass_one (as_for PassesOwn.never (by rfl) (ai_seq (ae_callT acall_list (by rfl) T.n_list PyProof.Rows.boot_list (aa_cons (ae_v 2) (aa_nil)))) (ag_name sc__law_change.nd)
 (ass_one (as_for PassesOwn.never (by rfl) (ai_seq (ae_v 13)) (ag_name sc__law_change.nd)
 (ass_one (as_ex (ae_mt PySem.F.plainAttrs_list PySem.F.slot_list_append PySem.F.type_list_append amt_append (ae_v 10) (aa_cons (ae_op aop_add (ae_v 12) (ae_v 14)) (aa_nil))))))))))))
 (ass_nil))
 (ass_cons (as_set (i := 10) sc__law_change.nd (ae_call (ad__law_distinct T) (hr.mono (by omega)) (by rfl) T.g__law_distinct T.F__law_distinct.kp T.b__law_distinct (aa_cons (ae_v 10) (aa_nil))))
 (ass_cons (as_if ((aw_or (at_not (at_e (ae_call (ad__law_few T) (hr.mono (by omega)) (by rfl) T.g__law_few T.F__law_few.kp T.b__law_few (aa_cons (ae_v 10) (aa_cons (ae_v 3) (aa_nil)))))) (aw_or1 (at_cmp aop_gt (ae_v 3) (ae_int)))).pt)
 (ass_one (as_ret (ae_non)))
 (ass_nil))
 (ass_cons (as_asg (ae_v 10) (ag_sub (hu_of hr) (ae_v 1) (ae_str)))
 (ass_cons (as_asg (ae_v 3) (ag_sub (hu_of hr) (ae_v 1) (ae_str)))
 (ass_cons (as_if (at_cmp (aop_eq hr.units) (ae_v 5) (ae_int))
 (ass_one (as_asg (ae_call (ad_pick_columns T) (hr.mono (by omega)) (by rfl) T.g_pick_columns T.F_pick_columns.kp T.b_pick_columns (aa_cons (ae_v 4) (aa_cons (ae_v 6) (aa_nil)))) (ag_sub (hu_of hr) (ae_v 1) (ae_str))))
 (ass_nil))
 (ass_cons (as_if ((aw_and (at_cmp (aop_eq hr.units) (ae_v 5) (ae_int)) (aw_and1 (at_cmp aop_gt (ae_v 3) (ae_int)))).pt)
 (ass_one (as_asg (ae_call (ad_free_column T) (hr.mono (by omega)) (by rfl) T.g_free_column T.F_free_column.kp T.b_free_column (aa_cons (ae_v 4) (aa_cons (ae_v 7) (aa_cons (ae_v 8) (aa_cons (ae_v 9) (aa_nil)))))) (ag_sub (hu_of hr) (ae_v 1) (ae_str))))
 (ass_nil))
 (ass_cons (as_if ((aw_and (at_cmp (aop_eq hr.units) (ae_v 5) (ae_int)) (aw_and1 (at_cmp aop_gt (ae_v 3) (ae_int)))).pt)
 (ass_one (as_asg (ae_call (ad_shift_column T) (hr.mono (by omega)) (by rfl) T.g_shift_column T.F_shift_column.kp T.b_shift_column (aa_cons (ae_v 4) (aa_cons (ae_v 7) (aa_cons (ae_v 8) (aa_cons (ae_v 9) (aa_nil)))))) (ag_sub (hu_of hr) (ae_v 1) (ae_str))))
 (ass_nil))
 (ass_cons (as_if (at_cmp (aop_eq hr.units) (ae_v 5) (ae_int))
 (ass_one (as_asg (ae_call (ad_add_columns T) (hr.mono (by omega)) (by rfl) T.g_add_columns T.F_add_columns.kp T.b_add_columns (aa_cons (ae_v 4) (aa_cons (ae_callT acall_tuple (by rfl) T.n_tuple PyProof.Rows.boot_tuple (aa_cons (ae_v 11) (aa_nil))) (aa_nil)))) (ag_sub (hu_of hr) (ae_v 1) (ae_str))))
 (ass_nil))
 (ass_one (as_ret (ae_non))))))))))))))))))))))))
theorem ad__law_belongs (T : Txt K mg) : ADef P w K mg base 1 T.a__law_belongs T.d__law_belongs ["_law_matrix", "_law_point"] m__law_belongs :=
 adef T.F__law_belongs sc__law_belongs fun cdv A outer s H E hr =>
 ass_cons (as_set (i := 2) sc__law_belongs.nd (ae_op aop_add (ae_tup (aa_cons (ae_int) (aa_nil))) (ae_v 1)))
 (ass_cons (as_for PassesOwn.never (by rfl) (ai_rg1 (by rfl) T.n_range (ae_callB acall_len (by rfl) T.n_len PySem.boot_len (aa_cons (ae_v 2) (aa_nil)))) (ag_name sc__law_belongs.nd)
 (ass_one (as_for PassesOwn.never (by rfl) (ai_rg1 (by rfl) T.n_range (ae_callB acall_len (by rfl) T.n_len PySem.boot_len (aa_cons (ae_v 2) (aa_nil)))) (ag_name sc__law_belongs.nd)
 (ass_one (as_if (at_cmp aop_gt (ae_op aop_sub (ae_ix (hu_of hr) (ae_v 2) (ae_v 3)) (ae_ix (hu_of hr) (ae_v 2) (ae_v 4))) (ae_ix (hu_of hr) (ae_ix (hu_of hr) (ae_v 0) (ae_v 3)) (ae_v 4)))
 (ass_one (as_ret (ae_bl)))
 (ass_nil))))))
 (ass_one (as_ret (ae_bl))))
theorem ad__law_hull (T : Txt K mg) : ADef P w K mg base 1 T.a__law_hull T.d__law_hull ["_law_points_here", "_law_size"] m__law_hull :=
 adef T.F__law_hull sc__law_hull fun cdv A outer s H E hr =>
 ass_cons (as_if (at_cmp (aop_eqNil hr.units) (ae_v 0) (ae_lst (aa_nil)))
 (ass_one (as_ret (ae_non)))
 (ass_nil))
 (ass_cons (as_set (i := 2) sc__law_hull.nd (ae_lst (aa_nil)))
 (ass_cons (as_for PassesOwn.never (by rfl) (ai_rg1 (by rfl) T.n_range (ae_op aop_add (ae_v 1) (ae_int))) (ag_name sc__law_hull.nd)
 (ass_cons (as_set (i := 4) sc__law_hull.nd (ae_lst (aa_nil)))
 (ass_cons (as_for PassesOwn.never (by rfl) (ai_rg1 (by rfl) T.n_range (ae_op aop_add (ae_v 1) (ae_int))) (ag_name sc__law_hull.nd)
 (ass_one (as_ex (ae_mt PySem.F.plainAttrs_list PySem.F.slot_list_append PySem.F.type_list_append amt_append (ae_v 4) (aa_cons (ae_callB (acall_max (by rfl)) (by rfl) T.n_max PyProof.Rows.boot_max (aa_cons (ae_lc [("_law_point", 6)] (by rfl) sc__law_hull.nd (ai_seq (ae_v 0)) (blkOk_by (N := n__law_hull) (sc := defScope s__law_hull) (by decide +kernel)) (tgt_name (by decide)) (fun _ _ _ _ _ => pg_name (i := 6) sc__law_hull.nd (by rfl) (by first | exact Or.inl rfl | exact Or.inr rfl)) (fun _ _ _ _ _ => ats_nil) (fun _ _ _ _ _ => ae_op aop_sub (ae_ix (hu_of hr) (ae_op aop_add (ae_tup (aa_cons (ae_int) (aa_nil))) (ae_v 6)) (ae_v 3)) (ae_ix (hu_of hr) (ae_op aop_add (ae_tup (aa_cons (ae_int) (aa_nil))) (ae_v 6)) (ae_v 5)))) (aa_nil))) (aa_nil))))))
 (ass_one (as_ex (ae_mt PySem.F.plainAttrs_list PySem.F.slot_list_append PySem.F.type_list_append amt_append (ae_v 2) (aa_cons (ae_callT acall_tuple (by rfl) T.n_tuple PyProof.Rows.boot_tuple (aa_cons (ae_v 4) (aa_nil))) (aa_nil))))))))
 (ass_one (as_ret (ae_callT acall_tuple (by rfl) T.n_tuple PyProof.Rows.boot_tuple (aa_cons (ae_v 2) (aa_nil)))))))
theorem ad__law_near_box (T : Txt K mg) : ADef P w K mg base 2 T.a__law_near_box T.d__law_near_box ["_law_source_here", "_law_base"] m__law_near_box :=
 adef T.F__law_near_box sc__law_near_box fun cdv A outer s H E hr =>
 ass_cons (as_if (at_cmp (aop_eq hr.units) (ae_call (ad__law_pick T) (hr.mono (by omega)) (by rfl) T.g__law_pick T.F__law_pick.kp T.b__law_pick (aa_cons (ae_v 0) (aa_cons (ae_int) (aa_nil)))) (ae_int))
 (ass_one (as_ret (ae_non)))
 (ass_nil))
 (ass_cons (as_set (i := 2) sc__law_near_box.nd (ae_lst (aa_nil)))
 (ass_cons (as_if (at_cmp aop_gt (ae_call (ad__law_pick T) (hr.mono (by omega)) (by rfl) T.g__law_pick T.F__law_pick.kp T.b__law_pick (aa_cons (ae_v 0) (aa_cons (ae_int) (aa_nil)))) (ae_int))
 (ass_one (as_ex (ae_mt PySem.F.plainAttrs_list PySem.F.slot_list_append PySem.F.type_list_append amt_append (ae_v 2) (aa_cons (ae_v 1) (aa_nil)))))
 (ass_nil))
 (ass_cons (as_for PassesOwn.never (by rfl) (ai_rg1 (by rfl) T.n_range (ae_op aop_add (ae_int) (ae_call (ad__law_pick T) (hr.mono (by omega)) (by rfl) T.g__law_pick T.F__law_pick.kp T.b__law_pick (aa_cons (ae_v 0) (aa_cons (ae_int) (aa_nil)))))) (ag_name sc__law_near_box.nd)
 (ass_one (as_ex (ae_mt PySem.F.plainAttrs_list PySem.F.slot_list_append PySem.F.type_list_append amt_append (ae_v 2) (aa_cons (ae_callT acall_tuple (by rfl) T.n_tuple PyProof.Rows.boot_tuple (aa_cons (ae_lc [("_law_value", 4)] (by rfl) sc__law_near_box.nd (ai_seq (ae_v 1)) (blkOk_by (N := n__law_near_box) (sc := defScope s__law_near_box) (by decide +kernel)) (tgt_name (by decide)) (fun _ _ _ _ _ => pg_name (i := 4) sc__law_near_box.nd (by rfl) (by first | exact Or.inl rfl | exact Or.inr rfl)) (fun _ _ _ _ _ => ats_nil) (fun _ _ _ _ _ => ae_op aop_sub (ae_op aop_add (ae_v 4) (ae_call (ad__law_pick T) (hr.mono (by omega)) (by rfl) T.g__law_pick T.F__law_pick.kp T.b__law_pick (aa_cons (ae_v 0) (aa_cons (ae_int) (aa_nil))))) (ae_int))) (aa_nil))) (aa_nil))))))
 (ass_one (as_ret (ae_call (ad__law_hull T) (hr.mono (by omega)) (by rfl) T.g__law_hull T.F__law_hull.kp T.b__law_hull (aa_cons (ae_v 2) (aa_cons (ae_callB acall_len (by rfl) T.n_len PySem.boot_len (aa_cons (ae_v 1) (aa_nil))) (aa_nil)))))))))
theorem ad_bound (T : Txt K mg) : ADef P w K mg base 2 T.a_bound T.d_bound ["box", "i", "j", "most"] m_bound :=
 adef T.F_bound sc_bound fun cdv A outer s H E hr =>
 ass_cons (as_if ((aw_or (at_cmp aop_is (ae_v 0) (ae_non)) (aw_or1 (at_cmp aop_lt (ae_op aop_add (ae_v 3) (ae_ix (hu_of hr) (ae_ix (hu_of hr) (ae_v 0) (ae_v 2)) (ae_v 1))) (ae_int)))).pt)
 (ass_one (as_ret (ae_non)))
 (ass_nil))
 (ass_cons (as_if (at_cmp aop_ge (ae_v 3) (ae_ix (hu_of hr) (ae_ix (hu_of hr) (ae_v 0) (ae_v 1)) (ae_v 2)))
 (ass_one (as_ret (ae_v 0)))
 (ass_nil))
 (ass_cons (as_set (i := 4) sc_bound.nd (ae_lst (aa_nil)))
 (ass_cons (as_for PassesOwn.never (by rfl) (ai_rg1 (by rfl) T.n_range (ae_callB acall_len (by rfl) T.n_len PySem.boot_len (aa_cons (ae_v 0) (aa_nil)))) (ag_name sc_bound.nd)
 (ass_cons (as_set (i := 6) sc_bound.nd (ae_op aop_add (ae_ix (hu_of hr) (ae_ix (hu_of hr) (ae_v 0) (ae_v 5)) (ae_v 1)) (ae_v 3)))
 (ass_one (as_ex (ae_mt PySem.F.plainAttrs_list PySem.F.slot_list_append PySem.F.type_list_append amt_append (ae_v 4) (aa_cons (ae_lc [("m", 7)] (by rfl) sc_bound.nd (ai_rg1 (by rfl) T.n_range (ae_callB acall_len (by rfl) T.n_len PySem.boot_len (aa_cons (ae_v 0) (aa_nil)))) (blkOk_by (N := n_bound) (sc := defScope s_bound) (by decide +kernel)) (tgt_name (by decide)) (fun _ _ _ _ _ => pg_name (i := 7) sc_bound.nd (by rfl) (by first | exact Or.inl rfl | exact Or.inr rfl)) (fun _ _ _ _ _ => ats_nil) (fun _ _ _ _ _ => ae_callB (acall_min (by rfl)) (by rfl) T.n_min PyProof.Rows.boot_min (aa_cons (ae_ix (hu_of hr) (ae_ix (hu_of hr) (ae_v 0) (ae_v 5)) (ae_v 7)) (aa_cons (ae_op aop_add (ae_v 6) (ae_ix (hu_of hr) (ae_ix (hu_of hr) (ae_v 0) (ae_v 2)) (ae_v 7))) (aa_nil))))) (aa_nil)))))))
 (ass_one (as_ret (ae_call (ad_frozen T) (hr.mono (by omega)) (by rfl) T.g_frozen T.F_frozen.kp T.b_frozen (aa_cons (ae_v 4) (aa_nil))))))))
theorem ad_has_negative (T : Txt K mg) : ADef P w K mg base 1 T.a_has_negative T.d_has_negative ["rows"] m_has_negative :=
 adef T.F_has_negative sc_has_negative fun cdv A outer s H E hr =>
 ass_cons (as_for PassesOwn.never (by rfl) (ai_rg1 (by rfl) T.n_range (ae_callB acall_len (by rfl) T.n_len PySem.boot_len (aa_cons (ae_v 0) (aa_nil)))) (ag_name sc_has_negative.nd)
 (ass_one (as_if (at_cmp aop_lt (ae_ix (hu_of hr) (ae_ix (hu_of hr) (ae_v 0) (ae_v 1)) (ae_v 1)) (ae_int))
 (ass_one (as_ret (ae_bl)))
 (ass_nil))))
 (ass_one (as_ret (ae_bl)))
theorem ad_shorten (T : Txt K mg) : ADef P w K mg base 1 T.a_shorten T.d_shorten ["rows", "middle"] m_shorten :=
 adef T.F_shorten sc_shorten fun cdv A outer s H E hr =>
 ass_cons (as_set (i := 2) sc_shorten.nd (ae_callB acall_len (by rfl) T.n_len PySem.boot_len (aa_cons (ae_v 0) (aa_nil))))
 (ass_cons (as_set (i := 3) sc_shorten.nd (ae_callT acall_list (by rfl) T.n_list PyProof.Rows.boot_list (aa_cons (ae_ix (hu_of hr) (ae_v 0) (ae_v 1)) (aa_nil))))
 (ass_one (as_for PassesOwn.never (by rfl) (ai_rg1 (by rfl) T.n_range (ae_v 2)) (ag_name sc_shorten.nd)
 (ass_cons (as_set (i := 5) sc_shorten.nd (ae_ix (hu_of hr) (ae_v 0) (ae_v 4)))
 (ass_cons (as_set (i := 6) sc_shorten.nd (ae_ix (hu_of hr) (ae_v 5) (ae_v 1)))
 (ass_one (as_for PassesOwn.never (by rfl) (ai_rg1 (by rfl) T.n_range (ae_v 2)) (ag_name sc_shorten.nd)
 (ass_one (as_if (at_cmp aop_lt (ae_op aop_add (ae_v 6) (ae_ix (hu_of hr) (ae_v 3) (ae_v 7))) (ae_ix (hu_of hr) (ae_v 5) (ae_v 7)))
 (ass_one (as_asg (ae_op aop_add (ae_v 6) (ae_ix (hu_of hr) (ae_v 3) (ae_v 7))) (ag_sub (hu_of hr) (ae_v 5) (ae_v 7))))
 (ass_nil))))))))))
theorem ad_close (T : Txt K mg) : ADef P w K mg base 2 T.a_close T.d_close ["matrix"] m_close :=
 adef T.F_close sc_close fun cdv A outer s H E hr =>
 ass_cons (as_setLc [("row", 2)] (i := 1) (by rfl) sc_close.nd (ai_seq (ae_v 0)) (blkOk_by (N := n_close) (sc := defScope s_close) (by decide +kernel)) (tgt_name (by decide)) (fun _ _ _ _ _ => pg_name (i := 2) sc_close.nd (by rfl) (by first | exact Or.inl rfl | exact Or.inr rfl)) (fun _ _ _ _ _ => ats_nil) (fun _ _ _ _ _ => ae_callT acall_list (by rfl) T.n_list PyProof.Rows.boot_list (aa_cons (ae_v 2) (aa_nil))) (sw_true rfl rfl rfl (by decide +kernel)))
 (ass_cons (as_set (i := 3) sc_close.nd (ae_callB acall_len (by rfl) T.n_len PySem.boot_len (aa_cons (ae_v 1) (aa_nil))))
 (ass_cons (as_if (at_e (ae_call (ad_has_negative T) (hr.mono (by omega)) (by rfl) T.g_has_negative T.F_has_negative.kp T.b_has_negative (aa_cons (ae_v 1) (aa_nil))))
 (ass_one (as_ret (ae_non)))
 (ass_nil))
 (ass_cons (as_for PassesOwn.never (by rfl) (ai_rg1 (by rfl) T.n_range (ae_v 3)) (ag_name sc_close.nd)
 (ass_one (as_asg (ae_int) (ag_sub (hu_of hr) (ae_ix (hu_of hr) (ae_v 1) (ae_v 4)) (ae_v 4)))))
 (ass_cons (as_for PassesOwn.never (by rfl) (ai_rg1 (by rfl) T.n_range (ae_v 3)) (ag_name sc_close.nd)
 (ass_cons (as_ex (ae_call (ad_shorten T) (hr.mono (by omega)) (by rfl) T.g_shorten T.F_shorten.kp T.b_shorten (aa_cons (ae_v 1) (aa_cons (ae_v 5) (aa_nil)))))
 (ass_one (as_if (at_e (ae_call (ad_has_negative T) (hr.mono (by omega)) (by rfl) T.g_has_negative T.F_has_negative.kp T.b_has_negative (aa_cons (ae_v 1) (aa_nil))))
 (ass_one (as_ret (ae_non)))
 (ass_nil)))))
 (ass_one (as_ret (ae_call (ad_frozen T) (hr.mono (by omega)) (by rfl) T.g_frozen T.F_frozen.kp T.b_frozen (aa_cons (ae_v 1) (aa_nil)))))))))
theorem ad_combined (T : Txt K mg) : ADef P w K mg base 2 T.a_combined T.d_combined ["a", "b", "greater"] m_combined :=
 adef T.F_combined sc_combined fun cdv A outer s H E hr =>
 ass_cons (as_set (i := 3) sc_combined.nd (ae_lst (aa_nil)))
 (ass_cons (as_for PassesOwn.never (by rfl) (ai_rg1 (by rfl) T.n_range (ae_callB acall_len (by rfl) T.n_len PySem.boot_len (aa_cons (ae_v 0) (aa_nil)))) (ag_name sc_combined.nd)
 (ass_one (as_if (at_e (ae_v 2))
 (ass_one (as_ex (ae_mt PySem.F.plainAttrs_list PySem.F.slot_list_append PySem.F.type_list_append amt_append (ae_v 3) (aa_cons (ae_lc [("j", 5)] (by rfl) sc_combined.nd (ai_rg1 (by rfl) T.n_range (ae_callB acall_len (by rfl) T.n_len PySem.boot_len (aa_cons (ae_v 0) (aa_nil)))) (blkOk_by (N := n_combined) (sc := defScope s_combined) (by decide +kernel)) (tgt_name (by decide)) (fun _ _ _ _ _ => pg_name (i := 5) sc_combined.nd (by rfl) (by first | exact Or.inl rfl | exact Or.inr rfl)) (fun _ _ _ _ _ => ats_nil) (fun _ _ _ _ _ => ae_callB (acall_max (by rfl)) (by rfl) T.n_max PyProof.Rows.boot_max (aa_cons (ae_ix (hu_of hr) (ae_ix (hu_of hr) (ae_v 0) (ae_v 4)) (ae_v 5)) (aa_cons (ae_ix (hu_of hr) (ae_ix (hu_of hr) (ae_v 1) (ae_v 4)) (ae_v 5)) (aa_nil))))) (aa_nil)))))
 (ass_one (as_ex (ae_mt PySem.F.plainAttrs_list PySem.F.slot_list_append PySem.F.type_list_append amt_append (ae_v 3) (aa_cons (ae_lc [("j", 5)] (by rfl) sc_combined.nd (ai_rg1 (by rfl) T.n_range (ae_callB acall_len (by rfl) T.n_len PySem.boot_len (aa_cons (ae_v 0) (aa_nil)))) (blkOk_by (N := n_combined) (sc := defScope s_combined) (by decide +kernel)) (tgt_name (by decide)) (fun _ _ _ _ _ => pg_name (i := 5) sc_combined.nd (by rfl) (by first | exact Or.inl rfl | exact Or.inr rfl)) (fun _ _ _ _ _ => ats_nil) (fun _ _ _ _ _ => ae_callB (acall_min (by rfl)) (by rfl) T.n_min PyProof.Rows.boot_min (aa_cons (ae_ix (hu_of hr) (ae_ix (hu_of hr) (ae_v 0) (ae_v 4)) (ae_v 5)) (aa_cons (ae_ix (hu_of hr) (ae_ix (hu_of hr) (ae_v 1) (ae_v 4)) (ae_v 5)) (aa_nil))))) (aa_nil))))))))
 (ass_one (as_ret (ae_call (ad_frozen T) (hr.mono (by omega)) (by rfl) T.g_frozen T.F_frozen.kp T.b_frozen (aa_cons (ae_v 3) (aa_nil))))))
theorem ad_meet_boxes (T : Txt K mg) : ADef P w K mg base 3 T.a_meet_boxes T.d_meet_boxes ["a", "b"] m_meet_boxes :=
 adef T.F_meet_boxes sc_meet_boxes fun cdv A outer s H E hr =>
 ass_cons (as_if ((aw_or (at_cmp aop_is (ae_v 0) (ae_non)) (aw_or1 (at_cmp aop_is (ae_v 1) (ae_non)))).pt)
 (ass_one (as_ret (ae_non)))
 (ass_nil))
 (ass_one (as_ret (ae_call (ad_close T) (hr.mono (by omega)) (by rfl) T.g_close T.F_close.kp T.b_close (aa_cons (ae_call (ad_combined T) (hr.mono (by omega)) (by rfl) T.g_combined T.F_combined.kp T.b_combined (aa_cons (ae_v 0) (aa_cons (ae_v 1) (aa_cons (ae_bl) (aa_nil))))) (aa_nil)))))
theorem ad_tie_boxes (T : Txt K mg) : ADef P w K mg base 3 T.a_tie_boxes T.d_tie_boxes ["box", "other", "columns"] m_tie_boxes :=
 adef T.F_tie_boxes sc_tie_boxes fun cdv A outer s H E hr =>
 ass_cons (as_if ((aw_or (at_cmp aop_is (ae_v 0) (ae_non)) (aw_or1 (at_cmp aop_is (ae_v 1) (ae_non)))).pt)
 (ass_one (as_ret (ae_non)))
 (ass_nil))
 (ass_cons (as_set (i := 3) sc_tie_boxes.nd (ae_op aop_add (ae_tup (aa_cons (ae_int) (aa_nil))) (ae_v 2)))
 (ass_cons (as_setLc [("row", 5)] (i := 4) (by rfl) sc_tie_boxes.nd (ai_seq (ae_v 0)) (blkOk_by (N := n_tie_boxes) (sc := defScope s_tie_boxes) (by decide +kernel)) (tgt_name (by decide)) (fun _ _ _ _ _ => pg_name (i := 5) sc_tie_boxes.nd (by rfl) (by first | exact Or.inl rfl | exact Or.inr rfl)) (fun _ _ _ _ _ => ats_nil) (fun _ _ _ _ _ => ae_callT acall_list (by rfl) T.n_list PyProof.Rows.boot_list (aa_cons (ae_v 5) (aa_nil))) (sw_true rfl rfl rfl (by decide +kernel)))
 (ass_cons (as_for PassesOwn.never (by rfl) (ai_rg1 (by rfl) T.n_range (ae_callB acall_len (by rfl) T.n_len PySem.boot_len (aa_cons (ae_v 3) (aa_nil)))) (ag_name sc_tie_boxes.nd)
 (ass_one (as_for PassesOwn.never (by rfl) (ai_rg1 (by rfl) T.n_range (ae_callB acall_len (by rfl) T.n_len PySem.boot_len (aa_cons (ae_v 3) (aa_nil)))) (ag_name sc_tie_boxes.nd)
 (ass_cons (as_set (i := 8) sc_tie_boxes.nd (ae_ix (hu_of hr) (ae_v 3) (ae_v 6)))
 (ass_cons (as_set (i := 9) sc_tie_boxes.nd (ae_ix (hu_of hr) (ae_v 3) (ae_v 7)))
 (ass_one (as_asg (ae_callB (acall_min (by rfl)) (by rfl) T.n_min PyProof.Rows.boot_min (aa_cons (ae_ix (hu_of hr) (ae_ix (hu_of hr) (ae_v 4) (ae_v 8)) (ae_v 9)) (aa_cons (ae_ix (hu_of hr) (ae_ix (hu_of hr) (ae_v 1) (ae_v 6)) (ae_v 7)) (aa_nil)))) (ag_sub (hu_of hr) (ae_ix (hu_of hr) (ae_v 4) (ae_v 8)) (ae_v 9)))))))))
 (ass_one (as_ret (ae_call (ad_close T) (hr.mono (by omega)) (by rfl) T.g_close T.F_close.kp T.b_close (aa_cons (ae_call (ad_frozen T) (hr.mono (by omega)) (by rfl) T.g_frozen T.F_frozen.kp T.b_frozen (aa_cons (ae_v 4) (aa_nil))) (aa_nil))))))))
theorem ad__law_cut (T : Txt K mg) : ADef P w K mg base 4 T.a__law_cut T.d__law_cut ["_law_source_here", "_law_state"] m__law_cut :=
 adef T.F__law_cut sc__law_cut fun cdv A outer s H E hr =>
 ass_cons (as_set (i := 2) sc__law_cut.nd (ae_ix (hu_of hr) (ae_v 1) (ae_str)))
 (ass_cons (as_set (i := 3) sc__law_cut.nd (ae_ix (hu_of hr) (ae_v 1) (ae_str)))
 (ass_cons (as_set (i := 4) sc__law_cut.nd (ae_ix (hu_of hr) (ae_v 1) (ae_str)))
 (ass_cons (as_set (i := 5) sc__law_cut.nd (ae_callT acall_tuple (by rfl) T.n_tuple PyProof.Rows.boot_tuple (aa_cons (ae_op aop_mul (ae_lst (aa_cons (ae_int) (aa_nil))) (ae_v 3)) (aa_nil))))
 (ass_cons (as_if (at_cmp (aop_neNil hr.units) (ae_v 2) (ae_lst (aa_nil)))
 (ass_one (as_set (i := 5) sc__law_cut.nd (ae_ix (hu_of hr) (ae_v 2) (ae_call (ad__law_pick T) (hr.mono (by omega)) (by rfl) T.g__law_pick T.F__law_pick.kp T.b__law_pick (aa_cons (ae_v 0) (aa_cons (ae_callB acall_len (by rfl) T.n_len PySem.boot_len (aa_cons (ae_v 2) (aa_nil))) (aa_nil)))))))
 (ass_nil))
 (ass_cons (as_set (i := 6) sc__law_cut.nd (ae_call (ad__law_pick T) (hr.mono (by omega)) (by rfl) T.g__law_pick T.F__law_pick.kp T.b__law_pick (aa_cons (ae_v 0) (aa_cons (ae_int) (aa_nil)))))
 (ass_cons (as_set (i := 7) sc__law_cut.nd (ae_tupRg2 (by rfl) (by rfl) T.n_tuple (by rfl) T.n_range (ae_int) (ae_op aop_add (ae_v 3) (ae_int))))
 (ass_cons (as_if (at_cmp (aop_eq hr.units) (ae_v 6) (ae_int))
 (ass_one (as_set (i := 7) sc__law_cut.nd (ae_call (ad__law_columns T) (hr.mono (by omega)) (by rfl) T.g__law_columns T.F__law_columns.kp T.b__law_columns (aa_cons (ae_v 0) (aa_cons (ae_v 3) (aa_cons (ae_ix (hu_of hr) (ae_lst (aa_cons (ae_int) (aa_cons (ae_int) (aa_cons (ae_int) (aa_nil))))) (ae_call (ad__law_pick T) (hr.mono (by omega)) (by rfl) T.g__law_pick T.F__law_pick.kp T.b__law_pick (aa_cons (ae_v 0) (aa_cons (ae_int) (aa_nil))))) (aa_nil)))))))
 (ass_nil))
 (ass_cons (as_set (i := 8) sc__law_cut.nd (ae_call (ad__law_near_box T) (hr.mono (by omega)) (by rfl) T.g__law_near_box T.F__law_near_box.kp T.b__law_near_box (aa_cons (ae_v 0) (aa_cons (ae_call (ad__law_part T) (hr.mono (by omega)) (by rfl) T.g__law_part T.F__law_part.kp T.b__law_part (aa_cons (ae_v 5) (aa_cons (ae_v 7) (aa_nil)))) (aa_nil)))))
 (ass_cons (as_if ((aw_and (at_cmp (aop_eq hr.units) (ae_v 6) (ae_int)) (aw_and1 (at_cmp aop_gt (ae_v 3) (ae_int)))).pt)
 (ass_cons (as_set (i := 9) sc__law_cut.nd (ae_call (ad__law_pick T) (hr.mono (by omega)) (by rfl) T.g__law_pick T.F__law_pick.kp T.b__law_pick (aa_cons (ae_v 0) (aa_cons (ae_op aop_add (ae_v 3) (ae_int)) (aa_nil)))))
 (ass_cons (as_set (i := 10) sc__law_cut.nd (ae_op aop_mod (ae_callT acall_int (by rfl) T.n_int PyProof.Rows.boot_int (aa_cons (ae_op aop_add (ae_op aop_add (ae_v 9) (ae_int)) (ae_call (ad__law_pick T) (hr.mono (by omega)) (by rfl) T.g__law_pick T.F__law_pick.kp T.b__law_pick (aa_cons (ae_v 0) (aa_cons (ae_v 3) (aa_nil))))) (aa_nil))) (ae_op aop_add (ae_v 3) (ae_int))))
 (ass_cons (as_set (i := 11) sc__law_cut.nd (ae_op aop_sub (ae_call (ad__law_pick T) (hr.mono (by omega)) (by rfl) T.g__law_pick T.F__law_pick.kp T.b__law_pick (aa_cons (ae_v 0) (aa_cons (ae_int) (aa_nil)))) (ae_int)))
 (ass_cons (as_if (at_cmp (aop_neNil hr.units) (ae_v 2) (ae_lst (aa_nil)))
 (ass_cons (as_set (i := 12) sc__law_cut.nd (ae_op aop_sub (ae_op aop_sub (ae_int) (ae_ix (hu_of hr) (ae_ix (hu_of hr) (ae_ix (hu_of hr) (ae_v 1) (ae_str)) (ae_v 10)) (ae_v 9))) (ae_int)))
 (ass_one (as_set (i := 11) sc__law_cut.nd (ae_op aop_add (ae_v 12) (ae_call (ad__law_pick T) (hr.mono (by omega)) (by rfl) T.g__law_pick T.F__law_pick.kp T.b__law_pick (aa_cons (ae_v 0) (aa_cons (ae_op aop_add (ae_op aop_sub (ae_ix (hu_of hr) (ae_ix (hu_of hr) (ae_ix (hu_of hr) (ae_v 1) (ae_str)) (ae_v 9)) (ae_v 10)) (ae_v 12)) (ae_int)) (aa_nil))))))))
 (ass_nil))
 (ass_cons (as_asg (ae_call (ad_bound T) (hr.mono (by omega)) (by rfl) T.g_bound T.F_bound.kp T.b_bound (aa_cons (ae_v 4) (aa_cons (ae_v 9) (aa_cons (ae_v 10) (aa_cons (ae_v 11) (aa_nil)))))) (ag_sub (hu_of hr) (ae_v 1) (ae_str)))
 (ass_cons (as_asg (ae_lc [("_law_point", 13)] (by rfl) sc__law_cut.nd (ai_seq (ae_v 2)) (blkOk_by (N := n__law_cut) (sc := defScope s__law_cut) (by decide +kernel)) (tgt_name (by decide)) (fun _ _ _ _ _ => pg_name (i := 13) sc__law_cut.nd (by rfl) (by first | exact Or.inl rfl | exact Or.inr rfl)) (fun _ _ _ _ _ => ats_one (at_cmp aop_le (ae_op aop_sub (ae_ix (hu_of hr) (ae_op aop_add (ae_tup (aa_cons (ae_int) (aa_nil))) (ae_v 13)) (ae_v 9)) (ae_ix (hu_of hr) (ae_op aop_add (ae_tup (aa_cons (ae_int) (aa_nil))) (ae_v 13)) (ae_v 10))) (ae_v 11))) (fun _ _ _ _ _ => ae_v 13)) (ag_sub (hu_of hr) (ae_v 1) (ae_str)))
 (ass_one (as_ret (ae_non)))))))))
 (ass_nil))
 (ass_cons (as_if (at_cmp (aop_eq hr.units) (ae_v 6) (ae_int))
 (ass_one (as_asg (ae_call (ad_tie_boxes T) (hr.mono (by omega)) (by rfl) T.g_tie_boxes T.F_tie_boxes.kp T.b_tie_boxes (aa_cons (ae_v 4) (aa_cons (ae_v 8) (aa_cons (ae_v 7) (aa_nil))))) (ag_sub (hu_of hr) (ae_v 1) (ae_str))))
 (ass_one (as_if (at_cmp (aop_eq hr.units) (ae_call (ad__law_pick T) (hr.mono (by omega)) (by rfl) T.g__law_pick T.F__law_pick.kp T.b__law_pick (aa_cons (ae_v 0) (aa_cons (ae_int) (aa_nil)))) (ae_int))
 (ass_one (as_asg (ae_call (ad_meet_boxes T) (hr.mono (by omega)) (by rfl) T.g_meet_boxes T.F_meet_boxes.kp T.b_meet_boxes (aa_cons (ae_v 4) (aa_cons (ae_v 8) (aa_nil)))) (ag_sub (hu_of hr) (ae_v 1) (ae_str))))
 (ass_one (as_asg (ae_call (ad_meet_boxes T) (hr.mono (by omega)) (by rfl) T.g_meet_boxes T.F_meet_boxes.kp T.b_meet_boxes (aa_cons (ae_v 8) (aa_cons (ae_v 4) (aa_nil)))) (ag_sub (hu_of hr) (ae_v 1) (ae_str)))))))
 (ass_cons (as_if (at_cmp aop_is (ae_v 8) (ae_non))
 (ass_one (as_asg (ae_lst (aa_nil)) (ag_sub (hu_of hr) (ae_v 1) (ae_str))))
 (ass_nil))
 (ass_cons (as_asg (ae_lc [("_law_point", 13)] (by rfl) sc__law_cut.nd (ai_seq (ae_ix (hu_of hr) (ae_v 1) (ae_str))) (blkOk_by (N := n__law_cut) (sc := defScope s__law_cut) (by decide +kernel)) (tgt_name (by decide)) (fun _ _ _ _ _ => pg_name (i := 13) sc__law_cut.nd (by rfl) (by first | exact Or.inl rfl | exact Or.inr rfl)) (fun _ _ _ _ _ => ats_one (at_e (ae_call (ad__law_belongs T) (hr.mono (by omega)) (by rfl) T.g__law_belongs T.F__law_belongs.kp T.b__law_belongs (aa_cons (ae_v 8) (aa_cons (ae_call (ad__law_part T) (hr.mono (by omega)) (by rfl) T.g__law_part T.F__law_part.kp T.b__law_part (aa_cons (ae_v 13) (aa_cons (ae_v 7) (aa_nil)))) (aa_nil)))))) (fun _ _ _ _ _ => ae_v 13)) (ag_sub (hu_of hr) (ae_v 1) (ae_str)))
 (ass_one (as_ret (ae_non)))))))))))))))
theorem ad__law_fits (T : Txt K mg) : ADef P w K mg base 1 T.a__law_fits T.d__law_fits ["_law_matrix", "_law_point", "_law_c", "_law_value"] m__law_fits :=
 adef T.F__law_fits sc__law_fits fun cdv A outer s H E hr =>
 ass_cons (as_for PassesOwn.never (by rfl) (ai_rg1 (by rfl) T.n_range (ae_callB acall_len (by rfl) T.n_len PySem.boot_len (aa_cons (ae_v 1) (aa_nil)))) (ag_name sc__law_fits.nd)
 (ass_one (as_if ((aw_or (at_cmp aop_gt (ae_op aop_sub (ae_v 3) (ae_ix (hu_of hr) (ae_v 1) (ae_v 4))) (ae_ix (hu_of hr) (ae_ix (hu_of hr) (ae_v 0) (ae_v 2)) (ae_op aop_add (ae_v 4) (ae_int)))) (aw_or1 (at_cmp aop_gt (ae_op aop_sub (ae_ix (hu_of hr) (ae_v 1) (ae_v 4)) (ae_v 3)) (ae_ix (hu_of hr) (ae_ix (hu_of hr) (ae_v 0) (ae_op aop_add (ae_v 4) (ae_int))) (ae_v 2))))).pt)
 (ass_one (as_ret (ae_bl)))
 (ass_nil))))
 (ass_one (as_ret (ae_bl)))
theorem ad__law_points (T : Txt K mg) : ADef P w K mg base 2 T.a__law_points T.d__law_points ["_law_matrix"] m__law_points :=
 adef T.F__law_points sc__law_points fun cdv A outer s H E hr =>
 ass_cons (as_if ((aw_or (at_cmp aop_is (ae_v 0) (ae_non)) (aw_or1 (at_cmp aop_lt (ae_callB (acall_min (by rfl)) (by rfl) T.n_min PyProof.Rows.boot_min (aa_cons (ae_lc [("_law_i", 1)] (by rfl) sc__law_points.nd (ai_rg1 (by rfl) T.n_range (ae_callB acall_len (by rfl) T.n_len PySem.boot_len (aa_cons (ae_v 0) (aa_nil)))) (blkOk_by (N := n__law_points) (sc := defScope s__law_points) (by decide +kernel)) (tgt_name (by decide)) (fun _ _ _ _ _ => pg_name (i := 1) sc__law_points.nd (by rfl) (by first | exact Or.inl rfl | exact Or.inr rfl)) (fun _ _ _ _ _ => ats_nil) (fun _ _ _ _ _ => ae_ix (hu_of hr) (ae_ix (hu_of hr) (ae_v 0) (ae_v 1)) (ae_v 1))) (aa_nil))) (ae_int)))).pt)
 (ass_one (as_ret (ae_lst (aa_nil))))
 (ass_nil))
 (ass_cons (as_set (i := 2) sc__law_points.nd (ae_lst (aa_cons (ae_tup (aa_nil)) (aa_nil))))
 (ass_cons (as_for PassesOwn.never (by rfl) (ai_rg2 (by rfl) T.n_range (ae_int) (ae_callB acall_len (by rfl) T.n_len PySem.boot_len (aa_cons (ae_v 0) (aa_nil)))) (ag_name sc__law_points.nd)
 (ass_cons (as_set (i := 4) sc__law_points.nd (ae_lst (aa_nil)))
 (ass_cons (as_for PassesOwn.never (by rfl) (ai_seq (ae_v 2)) (ag_name sc__law_points.nd)
 (ass_one (as_for PassesOwn.never (by rfl) (ai_rg2 (by rfl) T.n_range (ae_op aop_sub (ae_int) (ae_ix (hu_of hr) (ae_ix (hu_of hr) (ae_v 0) (ae_int)) (ae_v 3))) (ae_op aop_add (ae_ix (hu_of hr) (ae_ix (hu_of hr) (ae_v 0) (ae_v 3)) (ae_int)) (ae_int))) (ag_name sc__law_points.nd)
 (ass_one (as_if (at_e (ae_call (ad__law_fits T) (hr.mono (by omega)) (by rfl) T.g__law_fits T.F__law_fits.kp T.b__law_fits (aa_cons (ae_v 0) (aa_cons (ae_v 5) (aa_cons (ae_v 3) (aa_cons (ae_v 6) (aa_nil)))))))
 (ass_one (as_ex (ae_mt PySem.F.plainAttrs_list PySem.F.slot_list_append PySem.F.type_list_append amt_append (ae_v 4) (aa_cons (ae_op aop_add (ae_v 5) (ae_tup (aa_cons (ae_v 6) (aa_nil)))) (aa_nil)))))
 (ass_nil))))))
 (ass_one (as_set (i := 2) sc__law_points.nd (ae_callT acall_list (by rfl) T.n_list PyProof.Rows.boot_list (aa_cons (ae_v 4) (aa_nil))))))))
 (ass_one (as_ret (ae_v 2)))))
theorem ad__law_same (T : Txt K mg) : ∀ n : Nat, ADef P w K mg base (n + 0) T.a__law_same T.d__law_same ["_law_actual", "_law_due"] (m__law_same n)
  | 0 => adef_bad
  | n + 1 => adef_up (adef T.F__law_same sc__law_same fun cdv A outer s H E (hr : Room (n + 0) _) =>
 ass_cons (as_if ((aw_or (at_e (ae_isi (by rfl) T.n_isinstance (by rfl) T.n_tuple PyProof.Rows.boot_tuple (ae_v 1))) (aw_or1 (at_e (ae_isi (by rfl) T.n_isinstance (by rfl) T.n_list PyProof.Rows.boot_list (ae_v 1))))).pt)
 (ass_cons (as_if ((aw_or (at_cmp (aop_ne hr.units) (ae_isi (by rfl) T.n_isinstance (by rfl) T.n_tuple PyProof.Rows.boot_tuple (ae_v 1)) (ae_isi (by rfl) T.n_isinstance (by rfl) T.n_tuple PyProof.Rows.boot_tuple (ae_v 0))) (aw_or1 (at_cmp (aop_ne hr.units) (ae_isi (by rfl) T.n_isinstance (by rfl) T.n_list PyProof.Rows.boot_list (ae_v 1)) (ae_isi (by rfl) T.n_isinstance (by rfl) T.n_list PyProof.Rows.boot_list (ae_v 0))))).pt)
 (ass_one (as_ret (ae_bl)))
 (ass_nil))
 (ass_cons (as_if (at_cmp (aop_ne hr.units) (ae_callB acall_len (by rfl) T.n_len PySem.boot_len (aa_cons (ae_v 0) (aa_nil))) (ae_callB acall_len (by rfl) T.n_len PySem.boot_len (aa_cons (ae_v 1) (aa_nil))))
 (ass_one (as_ret (ae_bl)))
 (ass_nil))
 (ass_cons (as_for PassesOwn.never (by rfl) (ai_rg1 (by rfl) T.n_range (ae_callB acall_len (by rfl) T.n_len PySem.boot_len (aa_cons (ae_v 1) (aa_nil)))) (ag_name sc__law_same.nd)
 (ass_one (as_if (at_not (at_e (ae_call (ad__law_same T n) hr (by rfl) T.g__law_same T.F__law_same.kp T.b__law_same (aa_cons (ae_ix (hu_of hr) (ae_v 0) (ae_v 2)) (aa_cons (ae_ix (hu_of hr) (ae_v 1) (ae_v 2)) (aa_nil))))))
 (ass_one (as_ret (ae_bl)))
 (ass_nil))))
 (ass_one (as_ret (ae_bl))))))
 (ass_nil))
 (ass_cons (as_if (at_cmp aop_is (ae_v 1) (ae_non))
 (ass_one (as_ret (ae_cmp aop_is (ae_v 0) (ae_non))))
 (ass_nil))
 (ass_cons (as_if (at_e (ae_isi (by rfl) T.n_isinstance (by rfl) T.n_bool PyProof.Rows.boot_bool (ae_v 1)))
 (ass_one (as_ret (ae_and (ae_isi (by rfl) T.n_isinstance (by rfl) T.n_bool PyProof.Rows.boot_bool (ae_v 0)) (ae_one (ae_cmp (aop_eq hr.units) (ae_v 0) (ae_v 1))))))
 (ass_nil))
 (ass_cons (as_if (at_e (ae_isi (by rfl) T.n_isinstance (by rfl) T.n_int PyProof.Rows.boot_int (ae_v 1)))
 (ass_one (as_ret (ae_and (ae_isi (by rfl) T.n_isinstance (by rfl) T.n_int PyProof.Rows.boot_int (ae_v 0)) (ae_and (ae_not (ae_isi (by rfl) T.n_isinstance (by rfl) T.n_bool PyProof.Rows.boot_bool (ae_v 0))) (ae_one (ae_cmp (aop_eq hr.units) (ae_v 0) (ae_v 1)))))))
 (ass_nil))
 (ass_one (as_ret (ae_and (ae_isi (by rfl) T.n_isinstance (by rfl) T.n_str PyProof.Rows.boot_str (ae_v 0)) (ae_one (ae_cmp (aop_eq hr.units) (ae_v 0) (ae_v 1))))))))))
theorem ad__law_source (T : Txt K mg) : ADef P w K mg base 1 T.a__law_source T.d__law_source ["_law_cell_here"] m__law_source :=
 adef T.F__law_source sc__law_source fun cdv A outer s H E hr =>
 ass_one (as_ret (ae_lst (aa_cons (ae_v 0) (aa_cons (ae_v 0) (aa_cons (ae_int) (aa_nil))))))
theorem ad__law_start (T : Txt K mg) : ADef P w K mg base 2 T.a__law_start T.d__law_start ["_law_source_here", "_law_size"] m__law_start :=
 adef T.F__law_start sc__law_start fun cdv A outer s H E hr =>
 ass_cons (as_setLc [("_law_k", 3)] (i := 2) (by rfl) sc__law_start.nd (ai_rg1 (by rfl) T.n_range (ae_v 1)) (blkOk_by (N := n__law_start) (sc := defScope s__law_start) (by decide +kernel)) (tgt_name (by decide)) (fun _ _ _ _ _ => pg_name (i := 3) sc__law_start.nd (by rfl) (by first | exact Or.inl rfl | exact Or.inr rfl)) (fun _ _ _ _ _ => ats_nil) (fun _ _ _ _ _ => ae_ix (hu_of hr) (ae_lst (aa_cons (ae_int) (aa_cons (ae_int) (aa_cons (ae_int) (aa_cons (ae_op aop_pow (ae_int) (ae_int)) (aa_cons (ae_op aop_sub (ae_int) (ae_op aop_pow (ae_int) (ae_int))) (aa_nil))))))) (ae_call (ad__law_pick T) (hr.mono (by omega)) (by rfl) T.g__law_pick T.F__law_pick.kp T.b__law_pick (aa_cons (ae_v 0) (aa_cons (ae_int) (aa_nil))))) (sw_true rfl rfl rfl (by decide +kernel)))
 (ass_cons (as_if (at_cmp aop_gt (ae_v 1) (ae_int))
 (ass_one (as_ret (ae_lst (aa_cons (ae_callT acall_tuple (by rfl) T.n_tuple PyProof.Rows.boot_tuple (aa_cons (ae_v 2) (aa_nil))) (aa_cons (ae_callT acall_tuple (by rfl) T.n_tuple PyProof.Rows.boot_tuple (aa_cons (ae_lc [("_law_value", 4)] (by rfl) sc__law_start.nd (ai_seq (ae_v 2)) (blkOk_by (N := n__law_start) (sc := defScope s__law_start) (by decide +kernel)) (tgt_name (by decide)) (fun _ _ _ _ _ => pg_name (i := 4) sc__law_start.nd (by rfl) (by first | exact Or.inl rfl | exact Or.inr rfl)) (fun _ _ _ _ _ => ats_nil) (fun _ _ _ _ _ => ae_op aop_sub (ae_op aop_add (ae_v 4) (ae_call (ad__law_pick T) (hr.mono (by omega)) (by rfl) T.g__law_pick T.F__law_pick.kp T.b__law_pick (aa_cons (ae_v 0) (aa_cons (ae_int) (aa_nil))))) (ae_int))) (aa_nil))) (aa_nil))))))
 (ass_nil))
 (ass_cons (as_set (i := 5) sc__law_start.nd (ae_lst (aa_nil)))
 (ass_cons (as_for PassesOwn.never (by rfl) (ai_rg1 (by rfl) T.n_range (ae_op aop_add (ae_int) (ae_call (ad__law_pick T) (hr.mono (by omega)) (by rfl) T.g__law_pick T.F__law_pick.kp T.b__law_pick (aa_cons (ae_v 0) (aa_cons (ae_op aop_add (ae_v 1) (ae_int)) (aa_nil)))))) (ag_name sc__law_start.nd)
 (ass_one (as_ex (ae_mt PySem.F.plainAttrs_list PySem.F.slot_list_append PySem.F.type_list_append amt_append (ae_v 5) (aa_cons (ae_callT acall_tuple (by rfl) T.n_tuple PyProof.Rows.boot_tuple (aa_cons (ae_lc [("_law_value", 4)] (by rfl) sc__law_start.nd (ai_seq (ae_v 2)) (blkOk_by (N := n__law_start) (sc := defScope s__law_start) (by decide +kernel)) (tgt_name (by decide)) (fun _ _ _ _ _ => pg_name (i := 4) sc__law_start.nd (by rfl) (by first | exact Or.inl rfl | exact Or.inr rfl)) (fun _ _ _ _ _ => ats_nil) (fun _ _ _ _ _ => ae_op aop_sub (ae_op aop_add (ae_v 4) (ae_call (ad__law_pick T) (hr.mono (by omega)) (by rfl) T.g__law_pick T.F__law_pick.kp T.b__law_pick (aa_cons (ae_v 0) (aa_cons (ae_int) (aa_nil))))) (ae_int))) (aa_nil))) (aa_nil))))))
 (ass_one (as_ret (ae_v 5))))))
theorem ad_law (T : Txt K mg) : ADef P w K mg base 21 T.a_law T.d_law ["_law_script"] m_law :=
 adef T.F_law sc_law fun cdv A outer s H E hr =>
 ass_cons (as_set (i := 1) sc_law.nd (ae_call (ad__law_source T) (hr.mono (by omega)) (by rfl) T.g__law_source T.F__law_source.kp T.b__law_source (aa_cons (ae_call (ad__law_cell T) (hr.mono (by omega)) (by rfl) T.g__law_cell T.F__law_cell.kp T.b__law_cell (aa_cons (ae_v 0) (aa_cons (ae_int) (aa_nil)))) (aa_nil))))
 (ass_cons (as_set (i := 2) sc_law.nd (ae_call (ad__law_pick T) (hr.mono (by omega)) (by rfl) T.g__law_pick T.F__law_pick.kp T.b__law_pick (aa_cons (ae_v 1) (aa_cons (ae_int) (aa_nil)))))
 (ass_cons (as_if (at_cmp (aop_eq hr.units) (ae_call (ad__law_pick T) (hr.mono (by omega)) (by rfl) T.g__law_pick T.F__law_pick.kp T.b__law_pick (aa_cons (ae_v 1) (aa_cons (ae_int) (aa_nil)))) (ae_int))
 (ass_one (as_set (i := 2) sc_law.nd (ae_op aop_add (ae_int) (ae_call (ad__law_pick T) (hr.mono (by omega)) (by rfl) T.g__law_pick T.F__law_pick.kp T.b__law_pick (aa_cons (ae_v 1) (aa_cons (ae_int) (aa_nil)))))))
 (ass_nil))
 (ass_cons (as_set (i := 3) sc_law.nd (ae_call (ad__law_hull T) (hr.mono (by omega)) (by rfl) T.g__law_hull T.F__law_hull.kp T.b__law_hull (aa_cons (ae_call (ad__law_start T) (hr.mono (by omega)) (by rfl) T.g__law_start T.F__law_start.kp T.b__law_start (aa_cons (ae_v 1) (aa_cons (ae_v 2) (aa_nil)))) (aa_cons (ae_v 2) (aa_nil)))))
 (ass_cons (as_set (i := 4) sc_law.nd (ae_disp (APs.cons (ae_str) (ae_call (ad__law_points T) (hr.mono (by omega)) (by rfl) T.g__law_points T.F__law_points.kp T.b__law_points (aa_cons (ae_v 3) (aa_nil))) (APs.cons (ae_str) (ae_v 2) (APs.cons (ae_str) (ae_v 3) (APs.cons (ae_str) (ae_v 3) (APs.nil)))))))
 (ass_cons (as_for PassesOwn.never (by rfl) (ai_rg1 (by rfl) T.n_range (ae_op aop_add (ae_int) (ae_call (ad__law_pick T) (hr.mono (by omega)) (by rfl) T.g__law_pick T.F__law_pick.kp T.b__law_pick (aa_cons (ae_v 1) (aa_cons (ae_int) (aa_nil)))))) (ag_name sc_law.nd)
 (ass_cons (as_set (i := 1) sc_law.nd (ae_call (ad__law_source T) (hr.mono (by omega)) (by rfl) T.g__law_source T.F__law_source.kp T.b__law_source (aa_cons (ae_op aop_add (ae_call (ad__law_cell T) (hr.mono (by omega)) (by rfl) T.g__law_cell T.F__law_cell.kp T.b__law_cell (aa_cons (ae_v 0) (aa_cons (ae_op aop_add (ae_v 5) (ae_int)) (aa_nil)))) (ae_op aop_mul (ae_int) (ae_v 5))) (aa_nil))))
 (ass_cons (as_if (at_cmp (aop_eq hr.units) (ae_call (ad__law_pick T) (hr.mono (by omega)) (by rfl) T.g__law_pick T.F__law_pick.kp T.b__law_pick (aa_cons (ae_v 1) (aa_cons (ae_int) (aa_nil)))) (ae_int))
 (ass_one (as_ex (ae_call (ad__law_cut T) (hr.mono (by omega)) (by rfl) T.g__law_cut T.F__law_cut.kp T.b__law_cut (aa_cons (ae_v 1) (aa_cons (ae_v 4) (aa_nil))))))
 (ass_one (as_ex (ae_call (ad__law_change T) (hr.mono (by omega)) (by rfl) T.g__law_change T.F__law_change.kp T.b__law_change (aa_cons (ae_v 1) (aa_cons (ae_v 4) (aa_nil)))))))
 (ass_cons (as_asg (ae_call (ad__law_hull T) (hr.mono (by omega)) (by rfl) T.g__law_hull T.F__law_hull.kp T.b__law_hull (aa_cons (ae_ix (hu_of hr) (ae_v 4) (ae_str)) (aa_cons (ae_ix (hu_of hr) (ae_v 4) (ae_str)) (aa_nil)))) (ag_sub (hu_of hr) (ae_v 4) (ae_str)))
 (ass_one (as_if (at_not (at_e (ae_call (ad__law_same T 20) (hr.mono (by omega)) (by rfl) T.g__law_same T.F__law_same.kp T.b__law_same (aa_cons (ae_ix (hu_of hr) (ae_v 4) (ae_str)) (aa_cons (ae_ix (hu_of hr) (ae_v 4) (ae_str)) (aa_nil))))))
 (ass_one (as_ret (ae_bl)))
 (ass_nil)))))))
 (ass_one (as_ret (ae_and (ae_cmp aop_is (ae_call (ad_tie_boxes T) (hr.mono (by omega)) (by rfl) T.g_tie_boxes T.F_tie_boxes.kp T.b_tie_boxes (aa_cons (ae_ix (hu_of hr) (ae_v 4) (ae_str)) (aa_cons (ae_non) (aa_cons (ae_tup (aa_nil)) (aa_nil))))) (ae_non)) (ae_one (ae_cmp aop_is (ae_call (ad_tie_boxes T) (hr.mono (by omega)) (by rfl) T.g_tie_boxes T.F_tie_boxes.kp T.b_tie_boxes (aa_cons (ae_non) (aa_cons (ae_tup (aa_cons (ae_tup (aa_cons (ae_int) (aa_nil))) (aa_nil))) (aa_cons (ae_tup (aa_nil)) (aa_nil))))) (ae_non)))))))))))
end
end Law

namespace Ab

/-! ## tables of distances: what closes one -/
abbrev Mx := Nat → Nat → Int
def Feas (m : Nat) (M : Mx) (p : Nat → Int) : Prop := ∀ i j, i < m → j < m → i ≠ j → p i - p j ≤ M i j
structure Cl (m : Nat) (R : Mx) : Prop where
  tri : ∀ i l j, i < m → l < m → j < m → R i j ≤ R i l + R l j
  dg : ∀ i, i < m → R i i = 0
structure ClOf (m : Nat) (M R : Mx) : Prop where
  pos : ∀ i, i < m → 0 ≤ M i i
  cl : Cl m R
  le : ∀ i j, i < m → j < m → i ≠ j → R i j ≤ M i j
  sound : ∀ p, Feas m M p → ∀ i j, i < m → j < m → p i - p j ≤ R i j
def Closes (m : Nat) (M : Mx) : Option Mx → Prop
  | none => (∃ i, i < m ∧ M i i < 0) ∨ ¬ ∃ p, Feas m M p
  | some R => ClOf m M R
section
variable {m : Nat} {M R S : Mx}
theorem Cl.col (h : Cl m R) (le : ∀ i j, i < m → j < m → i ≠ j → R i j ≤ M i j) {j : Nat} (hj : j < m) : Feas m M fun k => R k j := fun a b ha hb hab => by
  have h1 := h.tri a b j ha hb hj
  have h2 := le a b ha hb hab
  show R a j - R b j ≤ M a b
  omega
theorem ClOf.below (h : ClOf m M R) (h' : ClOf m M S) {i j : Nat} (hi : i < m) (hj : j < m) : R i j ≤ S i j := by
  have h1 := h'.sound _ (h.cl.col h.le hj) i j hi hj
  have h2 := h.cl.dg j hj
  have h1 : R i j - R j j ≤ S i j := h1
  omega
theorem ClOf.same (h : ClOf m M R) (h' : ClOf m M S) {i j : Nat} (hi : i < m) (hj : j < m) : R i j = S i j := Int.le_antisymm (h.below h' hi hj) (h'.below h hi hj)
theorem ClOf.no (h : ClOf m M R) (h0 : 0 < m) (h' : Closes m M none) : False := by
  rcases h' with ⟨i, hi, h2⟩ | h2
  · have := h.pos i hi; omega
  · exact h2 ⟨_, h.cl.col h.le h0⟩

/-! ### one round: over k -/
structure Rnd (m : Nat) (M : Mx) (k : Nat) (R : Mx) : Prop where
  pos : ∀ i, i < m → 0 ≤ M i i
  sound : ∀ p, Feas m M p → ∀ i j, i < m → j < m → p i - p j ≤ R i j
  le : ∀ i j, i < m → j < m → i ≠ j → R i j ≤ M i j
  dg : ∀ i, i < m → R i i = 0
  tri : ∀ i l j, i < m → l < k → j < m → R i j ≤ R i l + R l j
def via (k : Nat) (R : Mx) : Mx := fun i j => if R i k + R k j < R i j then R i k + R k j else R i j
theorem Rnd.first (pos : ∀ i, i < m → 0 ≤ M i i) : Rnd m M 0 fun i j => if i = j then 0 else M i j :=
  ⟨pos, fun p hp i j hi hj => by
    by_cases e : i = j
    · subst e; simp
    · simp only [e, if_false]; exact hp i j hi hj e, fun i j _ _ e => by simp [e], fun i _ => by simp, fun i l j _ hl _ => by omega⟩
theorem Rnd.via_sound {k : Nat} (h : Rnd m M k R) (hk : k < m) : ∀ p, Feas m M p → ∀ i j, i < m → j < m → p i - p j ≤ via k R i j := fun p hp i j hi hj => by
  have h1 := h.sound p hp i j hi hj
  have h2 := h.sound p hp i k hi hk
  have h3 := h.sound p hp k j hk hj
  unfold via
  split <;> omega
theorem Rnd.neg {k i : Nat} (h : Rnd m M k R) (hk : k < m) (hi : i < m) (hn : via k R i i < 0) : ¬ ∃ p, Feas m M p := fun ⟨p, hp⟩ => by
  have := h.via_sound hk p hp i i hi hi
  omega
theorem Rnd.next {k : Nat} (h : Rnd m M k R) (hk : k < m) (hp : ∀ i, i < m → 0 ≤ via k R i i) : Rnd m M (k + 1) (via k R) := by
  have dg : ∀ i, i < m → via k R i i = 0 := fun i hi => by
    have h1 := hp i hi
    have h2 := h.dg i hi
    unfold via at h1 ⊢
    split at h1 <;> split <;> omega
  refine ⟨h.pos, h.via_sound hk, fun i j hi hj e => ?_, dg, fun i l j hi hl hj => ?_⟩
  · have := h.le i j hi hj e
    unfold via
    split <;> omega
  · have kk := h.dg k hk
    by_cases e : l = k
    · subst e
      have a1 : via l R i l = R i l := by unfold via; split <;> omega
      have a2 : via l R l j = R l j := by unfold via; split <;> omega
      rw [a1, a2]
      unfold via
      split <;> omega
    · have hl' : l < k := by omega
      have lm : l < m := by omega
      have t1 := h.tri i l j hi hl' hj
      have t2 := h.tri k l j hk hl' hj
      have t3 := h.tri i l k hi hl' hk
      have t4 := h.tri k l k hk hl' hk
      unfold via
      split <;> split <;> split <;> omega
theorem Rnd.last (h : Rnd m M m R) : ClOf m M R := ⟨h.pos, ⟨fun i l j hi hl hj => h.tri i l j hi hl hj, h.dg⟩, h.le, h.sound⟩

/-! ### one bound: i - j at most n -/
structure Inc (m : Nat) (M : Mx) (S : Nat → Nat → Prop) (R : Mx) : Prop where
  cl : Cl m R
  le : ∀ i j, i < m → j < m → i ≠ j → S i j → R i j ≤ M i j
  sound : ∀ p, Feas m M p → ∀ i j, i < m → j < m → p i - p j ≤ R i j
def bnd (i j : Nat) (n : Int) (R : Mx) : Mx := fun k l => if R k i + n + R j l < R k l then R k i + n + R j l else R k l
theorem Inc.neg {S : Nat → Nat → Prop} {i j : Nat} (h : Inc m M S R) (hi : i < m) (hj : j < m) (e : i ≠ j) (hn : M i j + R j i < 0) : ¬ ∃ p, Feas m M p := fun ⟨p, hp⟩ => by
  have h1 := hp i j hi hj e
  have h2 := h.sound p hp j i hj hi
  omega
theorem Cl.bnd {i j : Nat} {n : Int} (h : Cl m R) (hi : i < m) (hj : j < m) (hn : 0 ≤ n + R j i) : Cl m (bnd i j n R) := by
  refine ⟨fun a l b ha hl hb => ?_, fun a ha => ?_⟩
  · have t1 := h.tri a l b ha hl hb
    have t2 := h.tri a l i ha hl hi
    have t3 := h.tri j l b hj hl hb
    have t4 := h.tri j l i hj hl hi
    unfold Ab.bnd
    split <;> split <;> split <;> omega
  · have t := h.tri j a i hj ha hi
    have d := h.dg a ha
    unfold Ab.bnd
    split <;> omega
theorem Inc.next {S : Nat → Nat → Prop} {i j : Nat} (h : Inc m M S R) (hi : i < m) (hj : j < m) (e : i ≠ j) (hn : 0 ≤ M i j + R j i) : Inc m M (fun a b => S a b ∨ (a = i ∧ b = j)) (bnd i j (M i j) R) := by
  refine ⟨h.cl.bnd hi hj hn, fun a b ha hb hab hs => ?_, fun p hp a b ha hb => ?_⟩
  · rcases hs with hs | ⟨rfl, rfl⟩
    · have := h.le a b ha hb hab hs
      unfold bnd
      split <;> omega
    · have d1 := h.cl.dg a ha
      have d2 := h.cl.dg b hb
      unfold bnd
      split <;> omega
  · have h1 := h.sound p hp a b ha hb
    have h2 := h.sound p hp a i ha hi
    have h3 := h.sound p hp j b hj hb
    have h4 := hp i j hi hj e
    unfold bnd
    split <;> omega
end
end Ab

namespace Ab
/-- a ring of m places: os k stands at place k; from it to the next one es k -/
structure Ring (m : Nat) (es su : Nat → Int) (os pl : Nat → Nat) : Prop where
  m2 : 2 ≤ m
  po : ∀ i, i < m → pl i < m
  ol : ∀ k, k < m → os k < m
  op : ∀ i, i < m → os (pl i) = i
  pp : ∀ k, k < m → pl (os k) = k
  s0 : su 0 = 0
  ss : ∀ k, k < m → su (k + 1) = su k + es k
def wayP (m : Nat) (su : Nat → Int) (a b : Nat) : Int := if a ≤ b then su b - su a else su b - su a + su m
def nextP (m : Nat) (a : Nat) : Nat := if a + 1 = m then 0 else a + 1
section
variable {m : Nat} {es su : Nat → Int} {os pl : Nat → Nat} {M : Mx}
def absZ (x : Int) : Int := if x < 0 then -x else x
def tot (es : Nat → Int) : Nat → Int
  | 0 => 0
  | k + 1 => tot es k + absZ (es k)
theorem absZ_ge (x : Int) : 0 ≤ absZ x ∧ x ≤ absZ x ∧ -x ≤ absZ x := by unfold absZ; split <;> omega
theorem tot_mono {a b : Nat} (h : a ≤ b) : tot es a ≤ tot es b := by
  induction h with
  | refl => exact Int.le_refl _
  | @step k _ ih => have := (absZ_ge (es k)).1; show _ ≤ tot es k + _; omega
theorem tot_su (R : Ring m es su os pl) {a b : Nat} (h : a ≤ b) : b ≤ m → su b - su a ≤ tot es b - tot es a := by
  induction h with
  | refl => intro _; omega
  | @step k hk ih =>
    intro hm
    have h1 := ih (by omega)
    have h2 := R.ss k (by omega)
    have h3 := (absZ_ge (es k)).2.1
    show su (k + 1) - su a ≤ tot es k + absZ (es k) - tot es a
    omega
theorem way_far (R : Ring m es su os pl) {a b : Nat} (ha : a < m) (hb : b < m) : wayP m su a b ≤ tot es m := by
  unfold wayP
  have t0 : (0 : Int) = tot es 0 := rfl
  split
  · rename_i h
    have h1 := tot_su R h (by omega)
    have h2 : tot es b ≤ tot es m := tot_mono (by omega)
    have h3 : tot es 0 ≤ tot es a := tot_mono (by omega)
    omega
  · rename_i h
    have h1 := tot_su R (a := a) (b := m) (by omega) (Nat.le_refl _)
    have h2 := tot_su R (a := 0) (b := b) (by omega) (by omega)
    have h3 : tot es b ≤ tot es a := tot_mono (by omega)
    have h4 := R.s0
    omega
theorem way_next (R : Ring m es su os pl) {a : Nat} (ha : a < m) : wayP m su a (nextP m a) = es a := by
  have h := R.ss a ha
  have h0 := R.s0
  have m2 := R.m2
  unfold wayP nextP
  split
  · rename_i e
    rw [if_neg (by omega)]
    rw [e] at h
    omega
  · rw [if_pos (by omega)]; omega
theorem ring_step (R : Ring m es su os pl) {q : Nat → Int} (hq : ∀ k, k + 1 < m → q k - q (k + 1) ≤ es k) {a b : Nat} (h : a ≤ b) : b < m → q a - q b ≤ su b - su a := by
  induction h with
  | refl => intro _; omega
  | @step k hk ih =>
    intro hm
    have h1 := ih (by omega)
    have h2 := R.ss k (by omega)
    have h3 := hq k hm
    show q a - q (k + 1) ≤ su (k + 1) - su a
    omega
theorem ring_closes (R : Ring m es su os pl) (dg : ∀ i, i < m → M i i = 0) (nx : ∀ k, k < m → M (os k) (os (nextP m k)) = es k)
    (ge : ∀ i j, i < m → j < m → i ≠ j → pl j ≠ nextP m (pl i) → wayP m su (pl i) (pl j) ≤ M i j) : Closes m M (if su m < 0 then none else some fun i j => wayP m su (pl i) (pl j)) := by
  have m2 := R.m2
  have feas : ∀ p, Feas m M p → (∀ k, k + 1 < m → p (os k) - p (os (k + 1)) ≤ es k) ∧ p (os (m - 1)) - p (os 0) ≤ es (m - 1) := fun p hp => by
    refine ⟨fun k hk => ?_, ?_⟩
    · have h1 := nx k (by omega)
      have e : nextP m k = k + 1 := if_neg (by omega)
      rw [e] at h1
      rw [← h1]
      refine hp _ _ (R.ol k (by omega)) (R.ol _ hk) fun z => ?_
      have := congrArg pl z
      rw [R.pp k (by omega), R.pp _ hk] at this
      omega
    · have h1 := nx (m - 1) (by omega)
      have e : nextP m (m - 1) = 0 := if_pos (by omega)
      rw [e] at h1
      rw [← h1]
      refine hp _ _ (R.ol _ (by omega)) (R.ol _ (by omega)) fun z => ?_
      have := congrArg pl z
      rw [R.pp _ (by omega), R.pp _ (by omega)] at this
      omega
  have last := R.ss (m - 1) (by omega)
  rw [show m - 1 + 1 = m by omega] at last
  have s0 := R.s0
  split
  · rename_i hn
    refine .inr fun ⟨p, hp⟩ => ?_
    obtain ⟨h1, h2⟩ := feas p hp
    have h3 := ring_step R (q := fun k => p (os k)) h1 (a := 0) (b := m - 1) (by omega) (by omega)
    omega
  · rename_i hn
    refine ⟨fun i hi => by rw [dg i hi]; exact Int.le_refl _, ⟨fun i l j hi hl hj => ?_, fun i hi => ?_⟩, fun i j hi hj e => ?_, fun p hp i j hi hj => ?_⟩
    · show wayP m su (pl i) (pl j) ≤ wayP m su (pl i) (pl l) + wayP m su (pl l) (pl j)
      unfold wayP
      split <;> split <;> split <;> omega
    · show wayP m su (pl i) (pl i) = 0
      unfold wayP
      rw [if_pos (Nat.le_refl _)]; omega
    · by_cases h : pl j = nextP m (pl i)
      · have h1 := nx (pl i) (R.po i hi)
        rw [R.op i hi, ← h, R.op j hj] at h1
        show wayP m su (pl i) (pl j) ≤ M i j
        rw [h1, h, way_next R (R.po i hi)]
        exact Int.le_refl _
      · exact ge i j hi hj e h
    · obtain ⟨h1, h2⟩ := feas p hp
      have a := R.po i hi
      have b := R.po j hj
      have st : ∀ {a b : Nat}, a ≤ b → b < m → p (os a) - p (os b) ≤ su b - su a := fun h hb => ring_step R (q := fun k => p (os k)) h1 h hb
      show p i - p j ≤ wayP m su (pl i) (pl j)
      unfold wayP
      split
      · rename_i h
        have := st h b
        rwa [R.op i hi, R.op j hj] at this
      · rename_i h
        have h3 := st (a := pl i) (b := m - 1) (by omega) (by omega)
        have h4 := st (a := 0) (b := pl j) (by omega) b
        rw [R.op i hi] at h3
        rw [R.op j hj] at h4
        omega
end
/-- a closed table with one entry lowered -/
def low (i j : Nat) (n : Int) (R : Mx) : Mx := fun a b => if a = i ∧ b = j ∧ n < R a b then n else R a b
theorem bound_closes {m i j : Nat} {n : Int} {R : Mx} (h : Cl m R) (hi : i < m) (hj : j < m) (e : i ≠ j) : Closes m (low i j n R) (if n + R j i < 0 then none else if R i j ≤ n then some R else some (bnd i j n R)) := by
  have le : ∀ a b, low i j n R a b ≤ R a b := fun a b => by unfold low; split <;> omega
  have feas : ∀ p, Feas m (low i j n R) p → (∀ a b, a < m → b < m → p a - p b ≤ R a b) ∧ p i - p j ≤ n := fun p hp => by
    have h1 : ∀ a b, a < m → b < m → p a - p b ≤ R a b := fun a b ha hb => by
      by_cases c : a = b
      · subst c; have := h.dg a ha; omega
      · have := hp a b ha hb c; have := le a b; omega
    refine ⟨h1, ?_⟩
    have h2 := hp i j hi hj e
    have h3 := h1 i j hi hj
    unfold low at h2
    split at h2 <;> omega
  have pos : ∀ a, a < m → 0 ≤ low i j n R a a := fun a ha => by
    have := h.dg a ha
    unfold low
    rw [if_neg (fun z => e (z.1.symm.trans z.2.1))]; omega
  split
  · rename_i hn
    exact .inr fun ⟨p, hp⟩ => by
      obtain ⟨h1, h2⟩ := feas p hp
      have := h1 j i hj hi
      omega
  split
  · rename_i hn hc
    refine ⟨pos, h, fun a b _ _ _ => ?_, fun p hp => (feas p hp).1⟩
    unfold low
    split
    · rename_i z; obtain ⟨rfl, rfl, z⟩ := z; omega
    · exact Int.le_refl _
  · rename_i hn hc
    refine ⟨pos, h.bnd hi hj (by omega), fun a b ha hb _ => ?_, fun p hp a b ha hb => ?_⟩
    · have d1 := h.dg i hi
      have d2 := h.dg j hj
      by_cases z : a = i ∧ b = j ∧ n < R a b
      · unfold low
        rw [if_pos z]
        obtain ⟨rfl, rfl, z⟩ := z
        unfold bnd
        split <;> omega
      · unfold low
        rw [if_neg z]
        unfold bnd
        split <;> omega
    · obtain ⟨h1, h2⟩ := feas p hp
      have a1 := h1 a b ha hb
      have a2 := h1 a i ha hi
      have a3 := h1 j b hj hb
      unfold bnd
      split <;> omega
end Ab

namespace Ab
open scoped Classical
theorem nodup_le {α : Type} : ∀ (l L : List α), l.Nodup → (∀ x ∈ l, x ∈ L) → l.length ≤ L.length
  | [], L, _, _ => Nat.zero_le _
  | x :: l, L, nd, h => by
    have hx := h x (List.mem_cons_self ..)
    have nd := List.nodup_cons.mp nd
    have := nodup_le l (L.erase x) nd.2 fun y hy => (List.mem_erase_of_ne (show y ≠ x from fun e => nd.1 (by rw [← e]; exact hy))).mpr (h y (List.mem_cons_of_mem _ hy))
    rw [List.length_erase_of_mem hx] at this
    have := List.length_pos_of_mem hx
    rw [List.length_cons]; omega
/-- all lists of n numbers of -2 .. 2 -/
def five : List Int := [-2, -1, 0, 1, 2]
def tups : Nat → List (List Int)
  | 0 => [[]]
  | n + 1 => (tups n).flatMap fun p => five.map fun v => p ++ [v]
theorem tups_len : ∀ n, (tups n).length = 5 ^ n
  | 0 => rfl
  | n + 1 => by
    have : ∀ L : List (List Int), (L.flatMap fun p => five.map fun v => p ++ [v]).length = L.length * 5 := by
      intro L
      induction L with
      | nil => rfl
      | cons a L ih => rw [List.flatMap_cons, List.length_append, ih, List.length_map, List.length_cons]; show 5 + _ = _; omega
    show ((tups n).flatMap _).length = _
    rw [this, tups_len n, Nat.pow_succ]
theorem five_mem {v : Int} (h : -2 ≤ v) (h' : v ≤ 2) : v ∈ five := by
  have : v = -2 ∨ v = -1 ∨ v = 0 ∨ v = 1 ∨ v = 2 := by omega
  rcases this with rfl | rfl | rfl | rfl | rfl <;> decide
theorem tups_mem : ∀ (n : Nat) (p : List Int), p.length = n → (∀ v ∈ p, -2 ≤ v ∧ v ≤ 2) → p ∈ tups n
  | 0, p, h, _ => by rw [List.eq_nil_of_length_eq_zero h]; exact List.mem_singleton.mpr rfl
  | n + 1, p, h, hv => by
    have ne : p ≠ [] := fun e => by rw [e] at h; simp at h
    have e := (List.dropLast_concat_getLast ne).symm
    rw [e]
    refine List.mem_flatMap.mpr ⟨p.dropLast, tups_mem n _ (by simp [h]) fun v hv' => hv v (List.dropLast_subset _ hv'), List.mem_map.mpr ⟨p.getLast ne, ?_, rfl⟩⟩
    have := hv _ (List.getLast_mem ne)
    exact five_mem this.1 this.2
end Ab

namespace Ab
/-! ## bounds put in one after the other; M is the table that they make in the end -/
structure IncT (m : Nat) (M : Mx) (S : Nat → Nat → Int → Prop) (R : Mx) : Prop where
  cl : Cl m R
  le : ∀ i j n, S i j n → i < m → j < m → i ≠ j → R i j ≤ n
  sound : ∀ p, Feas m M p → ∀ i j, i < m → j < m → p i - p j ≤ R i j
section
variable {m : Nat} {M B R : Mx} {S : Nat → Nat → Int → Prop}
theorem IncT.first (cl : Cl m B) (h : ∀ i j, i < m → j < m → i ≠ j → M i j ≤ B i j) : IncT m M (fun i j n => n = B i j) B :=
  ⟨cl, fun i j n e _ _ _ => by rw [e]; exact Int.le_refl _, fun p hp i j hi hj => by
    by_cases e : i = j
    · subst e; have := cl.dg i hi; omega
    · have h1 := hp i j hi hj e; have h2 := h i j hi hj e; omega⟩
theorem IncT.neg {i j : Nat} {n : Int} (h : IncT m M S R) (hi : i < m) (hj : j < m) (e : i ≠ j) (hM : M i j ≤ n) (hn : n + R j i < 0) : ¬ ∃ p, Feas m M p := fun ⟨p, hp⟩ => by
  have h1 := hp i j hi hj e
  have h2 := h.sound p hp j i hj hi
  omega
theorem IncT.next {i j : Nat} {n : Int} (h : IncT m M S R) (hi : i < m) (hj : j < m) (e : i ≠ j) (hM : M i j ≤ n) (hn : 0 ≤ n + R j i) : IncT m M (fun a b k => S a b k ∨ (a = i ∧ b = j ∧ k = n)) (bnd i j n R) := by
  refine ⟨h.cl.bnd hi hj hn, fun a b k hs ha hb hab => ?_, fun p hp a b ha hb => ?_⟩
  · rcases hs with hs | ⟨rfl, rfl, rfl⟩
    · have := h.le a b k hs ha hb hab
      unfold bnd
      split <;> omega
    · have d1 := h.cl.dg a ha
      have d2 := h.cl.dg b hb
      unfold bnd
      split <;> omega
  · have h1 := h.sound p hp a b ha hb
    have h2 := h.sound p hp a i ha hi
    have h3 := h.sound p hp j b hj hb
    have h4 := hp i j hi hj e
    unfold bnd
    split <;> omega
theorem IncT.last (h : IncT m M S R) (pos : ∀ i, i < m → 0 ≤ M i i) (all : ∀ i j, i < m → j < m → i ≠ j → ∃ n, S i j n ∧ n ≤ M i j) : ClOf m M R :=
  ⟨pos, h.cl, fun i j hi hj e => by
    obtain ⟨n, h1, h2⟩ := all i j hi hj e
    exact Int.le_trans (h.le i j n h1 hi hj e) h2, h.sound⟩
theorem IncT.mono {S' : Nat → Nat → Int → Prop} (h : IncT m M S R) (q : ∀ i j n, S' i j n → S i j n) : IncT m M S' R := ⟨h.cl, fun i j n hs => h.le i j n (q i j n hs), h.sound⟩
theorem Cl.self (h : Cl m R) : ClOf m R R := ⟨fun i hi => by rw [h.dg i hi]; exact Int.le_refl _, h, fun _ _ _ _ _ => Int.le_refl _, fun p hp i j hi hj => by
  by_cases e : i = j
  · subst e; rw [h.dg i hi]; omega
  · exact hp i j hi hj e⟩
/-- tables that differ on the diagonal alone, none of them below 0 there -/
theorem ClOf.other {M' : Mx} (h : ClOf m M R) (pos : ∀ i, i < m → 0 ≤ M' i i) (e : ∀ i j, i < m → j < m → i ≠ j → M i j = M' i j) : ClOf m M' R :=
  ⟨pos, h.cl, fun i j hi hj n => by rw [← e i j hi hj n]; exact h.le i j hi hj n, fun p hp => h.sound p fun i j hi hj n => by rw [e i j hi hj n]; exact hp i j hi hj n⟩
end
/-- the least entries of two tables -/
def mnf (f g : Nat → Nat → Int) (i j : Nat) : Int := if g i j < f i j then g i j else f i j
theorem mnf_comm (f g : Mx) : mnf f g = mnf g f := by
  funext i j
  unfold mnf
  split <;> split <;> omega
theorem mnf_self (f : Mx) : mnf f f = f := by
  funext i j
  unfold mnf
  split <;> rfl
/-- the box of ranges: column 0 is 0 -/
def rbx (l h : Nat → Int) (i j : Nat) : Int := if j = i then 0 else h i - l j
theorem rbx_cl {m : Nat} {l h : Nat → Int} (le : ∀ i, i < m → l i ≤ h i) : Cl m (rbx l h) := by
  refine ⟨fun i k j hi hk hj => ?_, fun i hi => if_pos rfl⟩
  have h1 := le i hi
  have h2 := le k hk
  have h3 := le j hj
  have z : ∀ a, rbx l h a a = 0 := fun a => if_pos rfl
  have nz : ∀ {a b : Nat}, b ≠ a → rbx l h a b = h a - l b := fun e => if_neg e
  by_cases a : k = i
  · subst a; rw [z]; omega
  · by_cases b : j = k
    · subst b; rw [z]; omega
    · by_cases c : j = i
      · subst c; rw [z, nz a, nz b]; omega
      · rw [nz a, nz b, nz c]; omega
end Ab

namespace Ab
open PySem PySem.Spec PyProof.Rows L2
open scoped Classical
/-! ## lists of drawn numbers, of drawn points -/
theorem comp_draw {s i n : Nat} {lo : Int} {f : FE} {σ : ASt} {A : AH} {R : D → AH → Prop} (Pv : Int → Prop) (hs : Sr s A)
    (hf : ∀ k C, Dr s A C → DrwS s C (f (σ.set i (some (.int k))) C) fun d => ∃ v, d = .int v ∧ Pv v) (hn : n ≤ 1000)
    (hR : ∀ (q : List Int) C, q.length = n → (∀ v ∈ q, Pv v) → Dr s A C → C[A.length]? = some (.lst (q.map D.int)) → R (.ref A.length) C) :
    Sat (loopC yes (gN i) fYes f A.length σ (rngL lo n) (A ++ [.lst []])) R := by
  have sl := hs.lt
  refine comp_range (fun k acc C => ∃ q : List Int, q.length = k ∧ (∀ v ∈ q, Pv v) ∧ acc = q.map D.int ∧ Dr s A C ∧ C[A.length]? = some (.lst acc)) (fun k acc C hk ⟨q, q1, q2, q3, q4, q5⟩ => ?_) (fun acc C ⟨q, q1, q2, q3, q4, q5⟩ => ?_) (acc := []) ⟨[], rfl, by simp, rfl, Dr.app hs _, at_new⟩
  · show Sat (Res.ok (σ.set i (some (.int (lo + (k : Nat))))) C) _
    rw [sat_ok]
    refine Sat.imp (hf _ C q4) fun d C2 ⟨⟨v, e, hv⟩, dr⟩ => ?_
    subst e
    have q5 := dr.keep _ _ (by omega) q5
    refine ⟨q5, by rw [q3, List.length_map]; omega, q ++ [v], by simp; omega, fun w hw => ?_, by rw [q3]; simp, (q4.trans dr).setN (Nat.le_refl _) hs, at_set (at_lt q5)⟩
    rcases List.mem_append.mp hw with h | h
    · exact q2 w h
    · cases List.mem_singleton.mp h; exact hv
  · subst q3; exact hR q C q1 q2 q4 q5
theorem comp_drawG {α : Type} (c : α → D) {s i n : Nat} {lo : Int} {f : FE} {σ : ASt} {A : AH} {R : D → AH → Prop} (Pv : α → Prop) (hs : Sr s A)
    (hf : ∀ k C, Dr s A C → DrwS s C (f (σ.set i (some (.int k))) C) fun d => ∃ v, d = c v ∧ Pv v) (hn : n ≤ 1000)
    (hR : ∀ (q : List α) C, q.length = n → (∀ v ∈ q, Pv v) → Dr s A C → C[A.length]? = some (.lst (q.map c)) → R (.ref A.length) C) :
    Sat (loopC yes (gN i) fYes f A.length σ (rngL lo n) (A ++ [.lst []])) R := by
  have sl := hs.lt
  refine comp_range (fun k acc C => ∃ q : List α, q.length = k ∧ (∀ v ∈ q, Pv v) ∧ acc = q.map c ∧ Dr s A C ∧ C[A.length]? = some (.lst acc)) (fun k acc C hk ⟨q, q1, q2, q3, q4, q5⟩ => ?_) (fun acc C ⟨q, q1, q2, q3, q4, q5⟩ => ?_) (acc := []) ⟨[], rfl, by simp, rfl, Dr.app hs _, at_new⟩
  · show Sat (Res.ok (σ.set i (some (.int (lo + (k : Nat))))) C) _
    rw [sat_ok]
    refine Sat.imp (hf _ C q4) fun d C2 ⟨⟨v, e, hv⟩, dr⟩ => ?_
    subst e
    have q5 := dr.keep _ _ (by omega) q5
    refine ⟨q5, by rw [q3, List.length_map]; omega, q ++ [v], by simp; omega, fun w hw => ?_, by rw [q3]; simp, (q4.trans dr).setN (Nat.le_refl _) hs, at_set (at_lt q5)⟩
    rcases List.mem_append.mp hw with h | h
    · exact q2 w h
    · cases List.mem_singleton.mp h; exact hv
  · subst q3; exact hR q C q1 q2 q4 q5
theorem pts_draw {s R i j r w N n : Nat} {lo : Int} {f : FE} {σ : ASt} {A0 A : AH} {P : Fl → AH → Prop} {ps0 : List (List Int)} {x0 : Option D} (Pv : Int → Prop) (hs : Sr s A0) (D0 : Dr s A0 A) (nR : A0.length ≤ R)
    (hR : A[R]? = some (.lst (ps0.map fun p => .tup (p.map D.int)))) (hr : ∀ x, (σ.set i x)[r]? = some (some (.ref R))) (hw : ∀ x, (σ.set i x)[w]? = some (some (.int (n : Nat)))) (hn : n ≤ 1000) (hN : ps0.length + N ≤ 100000) (h0 : σ.set i x0 = σ)
    (hf : ∀ x k C, Dr s A0 C → DrwS s C (f ((wipeA (σ.set i x) [j]).set j (some (.int k))) C) fun d => ∃ v, d = .int v ∧ Pv v)
    (hP : ∀ x C (ps : List (List Int)), ps.length = N → (∀ p ∈ ps, p.length = n ∧ ∀ v ∈ p, Pv v) → Dr s A0 C → C[R]? = some (.lst ((ps0 ++ ps).map fun p => .tup (p.map D.int))) → P (.nx (σ.set i x)) C) :
    Sat (loopD yes (gN i) (fEx (fMt "list" appendD (fV r) (fCons (fCall tupOf (fCons (fLc (fRg1 (fV w)) (gN j) (fYes) f [j]) (fNil))) (fNil)))) (rngL lo N) σ A) P := by
  have sl := hs.lt
  refine range_inv (fun k σ' C => ∃ x, σ' = σ.set i x ∧ ∃ ps : List (List Int), ps.length = k ∧ (∀ p ∈ ps, p.length = n ∧ ∀ v ∈ p, Pv v) ∧ Dr s A0 C ∧ C[R]? = some (.lst ((ps0 ++ ps).map fun p => .tup (p.map D.int))))
    (fun k σ' C hk ⟨x, e, ps, p1, p2, dr, hC⟩ => ?_) (fun σ' C ⟨x, e, ps, p1, p2, dr, hC⟩ => ?_) ⟨x0, h0.symm, [], rfl, by simp, D0, by simpa using hR⟩
  · subst e
    show Sat (Res.ok ((σ.set i x).set i (some (.int (lo + (k : Nat))))) C) _
    rw [sat_ok, List.set_set]
    have e1 : ∀ A, fV r (σ.set i (some (.int (lo + (k : Nat))))) A = .ok (.ref R) A := fun A => ev_v (hr _)
    have e2 : ∀ A, fV w (wipeA (σ.set i (some (.int (lo + (k : Nat))))) []) A = .ok (.int (n : Nat)) A := fun A => ev_v (hw _)
    have e3 : ∀ A, fV w (σ.set i (some (.int (lo + (k : Nat))))) A = .ok (.int (n : Nat)) A := fun A => ev_v (hw _)
    simp only [EV, Ab.isNon, args, List.map, List.length_cons, List.length_nil, List.length_singleton, List.replicate, Nat.reduceSub, Nat.reduceAdd, Nat.zero_add, List.cons_append, List.nil_append, List.getElem?_cons_zero, List.getElem?_cons_succ, List.set_cons_zero, List.set_cons_succ, Option.some.injEq, decide_eq_true_eq, Bool.not_eq_true', decide_eq_false_iff_not, ite_true, ite_false, if_true, if_false, reduceIte, Bool.false_eq_true, Bool.not_true, Bool.not_false, Bool.true_eq_false, decide_true, decide_false, Nat.reduceLeDiff, Nat.reduceLT, e1, e3, ty_l hC]
    rw [if_pos (inRg_of (by omega) (by omega)), Int.toNat_natCast]
    refine comp_draw Pv dr.src (fun k' C2 d2 => hf _ k' C2 (dr.trans d2)) hn fun q C2 q1 q2 d2 hq => ?_
    have hC2 := d2.keep R _ (by omega) hC
    simp only [EV, Ab.isNon, args, List.map, List.length_cons, List.length_nil, List.length_singleton, List.replicate, Nat.reduceSub, Nat.reduceAdd, Nat.zero_add, List.cons_append, List.nil_append, List.getElem?_cons_zero, List.getElem?_cons_succ, List.set_cons_zero, List.set_cons_succ, Option.some.injEq, decide_eq_true_eq, Bool.not_eq_true', decide_eq_false_iff_not, ite_true, ite_false, if_true, if_false, reduceIte, Bool.false_eq_true, Bool.not_true, Bool.not_false, Bool.true_eq_false, decide_true, decide_false, Nat.reduceLeDiff, Nat.reduceLT, ev_tup_ofL (rdL_l hq)]
    rw [ev_app hC2 (by simp; omega)]
    simp only [EV, Ab.isNon, args, List.map, List.length_cons, List.length_nil, List.length_singleton, List.replicate, Nat.reduceSub, Nat.reduceAdd, Nat.zero_add, List.cons_append, List.nil_append, List.getElem?_cons_zero, List.getElem?_cons_succ, List.set_cons_zero, List.set_cons_succ, Option.some.injEq, decide_eq_true_eq, Bool.not_eq_true', decide_eq_false_iff_not, ite_true, ite_false, if_true, if_false, reduceIte, Bool.false_eq_true, Bool.not_true, Bool.not_false, Bool.true_eq_false, decide_true, decide_false, Nat.reduceLeDiff, Nat.reduceLT, turn_]
    refine ⟨_, rfl, ps ++ [q], by simp; omega, fun p hp => ?_, (dr.trans d2).setN nR hs, ?_⟩
    · rcases List.mem_append.mp hp with h | h
      · exact p2 p h
      · cases List.mem_singleton.mp h; exact ⟨q1, q2⟩
    · rw [at_set (at_lt hC2), ← List.append_assoc, List.map_append (l₁ := ps0 ++ ps)]; rfl
  · subst e
    exact hP x C ps p1 p2 dr hC
/-- a list's display with a test, of things that need no cell -/
theorem comp_filter {α : Type} {ok : AH → Prop} {g : FG} {t : FT} {f : FE} {s : ASt} {A : AH} {P : D → AH → Prop} {qs : List α} (c F : α → D) (b : α → Bool)
    (hok : ∀ l, ok (A ++ [.lst l])) (hf : ∀ q ∈ qs, ∀ l, Sat (g (c q) s (A ++ [.lst l])) fun s1 A1 => Sat (t s1 A1) fun bb A2 => bb = b q ∧ A2 = A ++ [.lst l] ∧ Sat (f s1 (A ++ [.lst l])) fun y A3 => y = F q ∧ A3 = A ++ [.lst l]) (hl : qs.length ≤ 1000000)
    (hP : P (.ref A.length) (A ++ [.lst ((qs.filter b).map F)])) : Sat (loopC ok g t f A.length s (qs.map c) (A ++ [.lst []])) P := by
  refine comp_inv (fun rest acc B => B = A ++ [.lst acc] ∧ ∃ pre post, qs = pre ++ post ∧ rest = post.map c ∧ acc = (pre.filter b).map F) (fun d rest acc B ⟨hB, pre, post, h1, h0, h2⟩ => ?_) (fun acc B ⟨hB, pre, post, h1, h0, h2⟩ => ?_) _ [] _ ⟨rfl, [], qs, rfl, rfl, rfl⟩
  · subst hB
    cases post with
    | nil => cases h0
    | cons q post =>
      rw [List.map_cons, List.cons.injEq] at h0
      obtain ⟨e1, e2⟩ := h0
      subst e1; subst e2
      refine ⟨hok acc, Sat.imp (hf q (by rw [h1]; simp) acc) fun s1 A1 h3 => Sat.imp h3 fun bb A2 ⟨h4, h5, h6⟩ => ?_⟩
      subst h5; subst h4
      split
      · rename_i hb
        refine Sat.imp h6 fun y A3 ⟨h4, h5⟩ => ?_
        subst h4; subst h5
        refine ⟨at_new, ?_, ?_, pre ++ [q], post, by rw [h1]; simp, rfl, by rw [h2, List.filter_append, List.filter_cons_of_pos hb]; simp⟩
        · have : qs.length = pre.length + (post.length + 1) := by rw [h1]; simp
          have e : acc.length ≤ pre.length := by rw [h2, List.length_map]; exact List.length_filter_le ..
          refine Nat.lt_of_lt_of_le (show acc.length < 1000000 by omega) (by decide)
        · rw [List.set_append_right _ _ (Nat.le_refl _), Nat.sub_self]; rfl
      · rename_i hb
        exact ⟨rfl, pre ++ [q], post, by rw [h1]; simp, rfl, by rw [h2, List.filter_append, List.filter_cons_of_neg hb]; simp⟩
  · subst hB
    cases post with
    | cons q post => cases h0
    | nil =>
      rw [List.append_nil] at h1
      subst h1; subst h2
      exact ⟨hok _, hP⟩
/-- a while by an invariant with a measure -/
theorem while_inv {c : FT} {p : FS} {P : Fl → AH → Prop} (I : Nat → ASt → AH → Prop)
    (turn : ∀ m s A, I m s A → Sat (c s A) fun b A1 => if b = true then Sat (p s A1) (turn_ (fun s2 A2 => ∃ m', m' < m ∧ I m' s2 A2) P) else P (.nx s) A1) :
    ∀ (n m : Nat) (s : ASt) (A : AH), m < n → I m s A → Sat (loopW c p n s A) P
  | 0, m, s, A, h, _ => absurd h (Nat.not_lt_zero _)
  | n + 1, m, s, A, h, hI => by
    rw [loopW, sat_bind]
    refine Sat.imp (turn m s A hI) fun b A1 h1 => ?_
    split
    · rename_i hb
      rw [if_pos hb] at h1
      obtain ⟨fl, A2, e, h2⟩ := h1.eq
      rw [e]
      cases fl with
      | nx s2 => obtain ⟨m', lt, h3⟩ := h2; exact while_inv I turn n m' s2 A2 (by omega) h3
      | ct s2 => obtain ⟨m', lt, h3⟩ := h2; exact while_inv I turn n m' s2 A2 (by omega) h3
      | bk s2 => exact h2
      | rt d => exact h2
    · rename_i hb
      rw [if_neg hb] at h1
      exact h1
/-- a list's display of numbers drawn for things that need no cell -/
theorem comp_drawL {α : Type} (c : α → D) {s : Nat} {ok : AH → Prop} {g : FG} {f : FE} {σ : ASt} {A : AH} {R : D → AH → Prop} {qs : List α} (Pv : α → Int → Prop) (hs : Sr s A) (hok : ∀ C, Dr s A C → ok C)
    (hf : ∀ a ∈ qs, ∀ C, Dr s A C → Sat (g (c a) σ C) fun s1 A1 => A1 = C ∧ DrwS s C (f s1 C) fun d => ∃ v, d = .int v ∧ Pv a v) (hn : qs.length ≤ 1000)
    (hR : ∀ (q : List Int) C, q.length = qs.length → (∀ (i : Nat) a v, qs[i]? = some a → q[i]? = some v → Pv a v) → Dr s A C → C[A.length]? = some (.lst (q.map D.int)) → R (.ref A.length) C) :
    Sat (loopC ok g fYes f A.length σ (qs.map c) (A ++ [.lst []])) R := by
  have sl := hs.lt
  refine comp_inv (fun rest acc C => ∃ pre post q, qs = pre ++ post ∧ rest = post.map c ∧ q.length = pre.length ∧ (∀ (i : Nat) a v, pre[i]? = some a → q[i]? = some v → Pv a v) ∧ acc = q.map D.int ∧ Dr s A C ∧ C[A.length]? = some (.lst acc)) (fun d rest acc C ⟨pre, post, q, e1, e2, e3, e4, e5, dr, hC⟩ => ⟨hok C dr, ?_⟩) (fun acc C ⟨pre, post, q, e1, e2, e3, e4, e5, dr, hC⟩ => ⟨hok C dr, ?_⟩) _ [] _ ⟨[], qs, [], rfl, rfl, rfl, by simp, rfl, Dr.app hs _, at_new⟩
  · cases post with
    | nil => cases e2
    | cons a post =>
      rw [List.map_cons, List.cons.injEq] at e2
      obtain ⟨e2, e6⟩ := e2
      subst e2; subst e6
      have ln := congrArg List.length e1
      rw [List.length_append, List.length_cons] at ln
      refine Sat.imp (hf a (by rw [e1]; simp) C dr) fun s1 A1 ⟨eA, h⟩ => ?_
      subst eA
      show Sat (Res.ok true A1) _
      rw [sat_ok, if_pos rfl]
      refine Sat.imp h fun d C2 ⟨⟨v, e, hv⟩, dr2⟩ => ?_
      subst e
      have hC := dr2.keep _ _ (by omega) hC
      refine ⟨hC, Nat.lt_of_lt_of_le (show acc.length < 1000000 by rw [e5, List.length_map]; omega) (by decide), pre ++ [a], post, q ++ [v], by rw [e1]; simp, rfl, by simp; omega, fun i x w hx hw => ?_, by rw [e5]; simp, (dr.trans dr2).setN (Nat.le_refl _) hs, at_set (at_lt hC)⟩
      by_cases lt : i < pre.length
      · rw [List.getElem?_append_left lt] at hx
        rw [List.getElem?_append_left (by omega)] at hw
        exact e4 i x w hx hw
      · have ei : i = pre.length := by
          have := (List.getElem?_eq_some_iff.mp hx).1
          simp at this; omega
        subst ei
        rw [List.getElem?_append_right (Nat.le_refl _), Nat.sub_self] at hx
        rw [List.getElem?_append_right (by omega), show pre.length - q.length = 0 by omega] at hw
        cases hx; cases hw
        exact hv
  · cases post with
    | cons a post => cases e2
    | nil =>
      rw [List.append_nil] at e1
      subst e1; subst e5
      exact hR q C e3 e4 dr hC
/-! ### displays whose items only add cells; loops that hand back False -/
theorem comp_gr {α : Type} (c F : α → D) {ok : AH → Prop} {g : FG} {f : FE} {σ : ASt} {A : AH} {P : D → AH → Prop} {qs : List α} (hok : ∀ C, Gr A C → ok C)
    (hf : ∀ a ∈ qs, ∀ C, Gr A C → Sat (g (c a) σ C) fun s1 A1 => A1 = C ∧ Sat (f s1 C) fun d A2 => Gr C A2 ∧ d = F a) (hn : qs.length ≤ 100000)
    (hP : ∀ C, Gr A C → C[A.length]? = some (.lst (qs.map F)) → P (.ref A.length) C) : Sat (loopC ok g fYes f A.length σ (qs.map c) (A ++ [.lst []])) P := by
  refine comp_inv (fun rest acc C => ∃ pre post, qs = pre ++ post ∧ rest = post.map c ∧ acc = pre.map F ∧ Gr A C ∧ C[A.length]? = some (.lst acc)) (fun d rest acc C ⟨pre, post, e1, e2, e3, G, hC⟩ => ⟨hok C G, ?_⟩) (fun acc C ⟨pre, post, e1, e2, e3, G, hC⟩ => ⟨hok C G, ?_⟩) _ [] _ ⟨[], qs, rfl, rfl, rfl, .app, at_new⟩
  · cases post with
    | nil => cases e2
    | cons a post =>
      rw [List.map_cons, List.cons.injEq] at e2
      obtain ⟨e4, e5⟩ := e2
      subst e4
      have ln : pre.length + (post.length + 1) = qs.length := by rw [e1]; simp
      refine Sat.imp (hf a (by rw [e1]; simp) C G) fun s1 A1 ⟨e6, h⟩ => ?_
      subst e6
      simp only [ev_yes, sat_ok, if_true]
      refine Sat.imp h fun d A2 ⟨G2, e7⟩ => ?_
      subst e7
      have hC := G2.keep _ _ hC
      exact ⟨hC, by rw [e3, List.length_map]; exact Nat.lt_of_lt_of_le (show pre.length < 1000000 by omega) (by decide), pre ++ [a], post, by rw [e1]; simp, e5, by rw [e3, List.map_append]; rfl, (G.trans G2).set (Nat.le_refl _), at_set (at_lt hC)⟩
  · cases post with
    | cons a post => cases e2
    | nil =>
      rw [List.append_nil] at e1
      subst e1
      exact hP C G (by rw [hC, e3])
/-- a loop that hands back False at the first thing that does not keep a rule -/
theorem loop_all {α : Type} (c : α → D) (b : α → Bool) {ok : AH → Prop} {g : FG} {p : FS} (I : ASt → AH → Prop) (J : AH → Prop) (hok : ∀ σ C, I σ C → ok C) : ∀ (xs : List α),
    (∀ x ∈ xs, ∀ σ C, I σ C → Sat (g (c x) σ C) fun s1 A1 => Sat (p s1 A1) fun fl B => (b x = true ∧ ∃ σ', fl = .nx σ' ∧ I σ' B) ∨ (b x = false ∧ fl = .rt (.bl false) ∧ J B)) →
    ∀ (σ : ASt) (A : AH), I σ A → Sat (loopD ok g p (xs.map c) σ A) fun fl B => (xs.all b = true ∧ ∃ σ', fl = .nx σ' ∧ I σ' B) ∨ (xs.all b = false ∧ fl = .rt (.bl false) ∧ J B)
  | [], _, σ, A, h => by
    rw [List.map_nil, loop_nil (hok σ A h)]
    exact .inl ⟨rfl, σ, rfl, h⟩
  | x :: xs, t, σ, A, h => by
    rw [List.map_cons, loop_cons (hok σ A h)]
    refine (t x (List.mem_cons_self ..) σ A h).imp fun s1 A1 h3 => h3.imp fun fl A2 h4 => ?_
    rcases h4 with ⟨hb, σ', rfl, hI⟩ | ⟨hb, rfl, hJ⟩
    · show Sat _ _
      refine Sat.imp (loop_all c b I J hok xs (fun y hy => t y (List.mem_cons_of_mem _ hy)) σ' A2 hI) fun fl B h => ?_
      rw [List.all_cons, hb, Bool.true_and]
      exact h
    · exact .inr ⟨by rw [List.all_cons, hb]; rfl, rfl, hJ⟩
end Ab

namespace Law
open PySem PySem.Spec PyProof.Rows L2 Ab
open scoped Classical
theorem pick_spec {A : AH} {s : Nat} {n : Int} (hs : Sr s A) (hn : n < 2 ^ 100) : DrwS s A (m__law_pick [.ref s, .int n] A) (Below n) := by
  obtain ⟨c, r, k, h⟩ := hs
  have hs : s < A.length := (List.getElem?_eq_some_iff.mp h).1
  unfold DrwS
  refine sat_body rfl (sat_seq ?_)
  have i2 : ixD (.ref s) (.int 2) A = .ok (.int k) A := ev_ix_r (rdL_l h) rfl
  have t2 : stD (.ref s) (.int 2) (.int (k + 1)) A = .ok () (A.set s (.lst [.int c, .int r, .int (k + 1)])) := ev_st_l (k := 2) (j := 2) h rfl
  simp only [EV, Ab.isNon, args, List.map, List.length_cons, List.length_nil, List.length_singleton, List.replicate, Nat.reduceSub, Nat.reduceAdd, Nat.zero_add, List.cons_append, List.nil_append, List.getElem?_cons_zero, List.getElem?_cons_succ, List.set_cons_zero, List.set_cons_succ, Option.some.injEq, decide_eq_true_eq, Bool.not_eq_true', decide_eq_false_iff_not, ite_true, ite_false, if_true, if_false, reduceIte, Bool.false_eq_true, Bool.not_true, Bool.not_false, Bool.true_eq_false, decide_true, decide_false, Nat.reduceLeDiff, Nat.reduceLT, i2]
  refine sat_seq ?_
  simp only [EV, Ab.isNon, args, List.map, List.length_cons, List.length_nil, List.length_singleton, List.replicate, Nat.reduceSub, Nat.reduceAdd, Nat.zero_add, List.cons_append, List.nil_append, List.getElem?_cons_zero, List.getElem?_cons_succ, List.set_cons_zero, List.set_cons_succ, Option.some.injEq, decide_eq_true_eq, Bool.not_eq_true', decide_eq_false_iff_not, ite_true, ite_false, if_true, if_false, reduceIte, Bool.false_eq_true, Bool.not_true, Bool.not_false, Bool.true_eq_false, decide_true, decide_false, Nat.reduceLeDiff, Nat.reduceLT, t2]
  have h' : (A.set s (.lst [.int c, .int r, .int (k + 1)]))[s]? = some (.lst [.int c, .int r, .int (k + 1)]) := List.getElem?_set_self hs
  have hset : ∀ o, (A.set s (.lst [.int c, .int r, .int (k + 1)])).set s o = A.set s o := fun o => List.set_set ..
  have hA : Dr s A (A.set s (.lst [.int c, .int r, .int (k + 1)])) := .set hs
  generalize A.set s (.lst [.int c, .int r, .int (k + 1)]) = A1 at h' hset hA ⊢
  have i0 : ixD (.ref s) (.int 0) A1 = .ok (.int c) A1 := ev_ix_r (rdL_l h') rfl
  have i1 : ixD (.ref s) (.int 1) A1 = .ok (.int r) A1 := ev_ix_r (rdL_l h') rfl
  have t1 : ∀ v, stD (.ref s) (.int 1) (.int v) A1 = .ok () (A.set s (.lst [.int c, .int v, .int (k + 1)])) := fun v => by rw [ev_st_l (k := 1) (j := 1) h' rfl, hset]; rfl
  have e18 : CPow 10 18 := powOk (by decide) (by decide) (by decide)
  refine sat_seq ?_
  simp only [EV, Ab.isNon, args, List.map, List.length_cons, List.length_nil, List.length_singleton, List.replicate, Nat.reduceSub, Nat.reduceAdd, Nat.zero_add, List.cons_append, List.nil_append, List.getElem?_cons_zero, List.getElem?_cons_succ, List.set_cons_zero, List.set_cons_succ, Option.some.injEq, decide_eq_true_eq, Bool.not_eq_true', decide_eq_false_iff_not, ite_true, ite_false, if_true, if_false, reduceIte, Bool.false_eq_true, Bool.not_true, Bool.not_false, Bool.true_eq_false, decide_true, decide_false, Nat.reduceLeDiff, Nat.reduceLT]
  split
  · exact ⟨⟨0, rfl, by omega, .inr rfl⟩, hA⟩
  rename_i hn2
  have n0 : 0 < n := by omega
  have dn : CDivW r n := divOk n0 (Int.lt_trans hn (by decide))
  have last : ∀ x : Int, CDivW x 9 := fun x => divOk (by decide) (by decide)
  have m1 : ∀ j : Int, mulOk 7919 j := fun j => mulOk_l (by decide) (by decide)
  have m2 : ∀ j : Int, mulOk 31 j := fun j => mulOk_l (by decide) (by decide)
  have m3 : ∀ i j : Int, mulOk (i % 2147483647) j := fun i j => mulOk_l (by omega) (by omega)
  have m4 : ∀ i j : Int, mulOk (i % 2147483629) j := fun i j => mulOk_l (by omega) (by omega)
  have p1 : (0 : Int) < 2147483647 := by decide
  have p2 : (0 : Int) < 2147483629 := by decide
  refine sat_seq (sat_ifS (b := decide (10 ^ 18 ≤ c ∧ 0 < r)) ?_ (fun _ => ?_) (fun _ => ?_))
  · simp only [EV, Ab.isNon, args, List.map, List.length_cons, List.length_nil, List.length_singleton, List.replicate, Nat.reduceSub, Nat.reduceAdd, Nat.zero_add, List.cons_append, List.nil_append, List.getElem?_cons_zero, List.getElem?_cons_succ, List.set_cons_zero, List.set_cons_succ, Option.some.injEq, decide_eq_true_eq, Bool.not_eq_true', decide_eq_false_iff_not, ite_true, ite_false, if_true, if_false, reduceIte, Bool.false_eq_true, Bool.not_true, Bool.not_false, Bool.true_eq_false, decide_true, decide_false, Nat.reduceLeDiff, Nat.reduceLT, i0, i1, e18]
    by_cases h1 : (10 : Int) ^ Int.toNat 18 ≤ c
    · rw [if_pos h1]; congr 1; exact decide_eq_decide.mpr ⟨fun q => ⟨h1, q⟩, fun q => q.2⟩
    · rw [if_neg h1]; congr 1; exact (decide_eq_false fun q => h1 q.1).symm
  · refine sat_seq ?_
    simp only [EV, Ab.isNon, args, List.map, List.length_cons, List.length_nil, List.length_singleton, List.replicate, Nat.reduceSub, Nat.reduceAdd, Nat.zero_add, List.cons_append, List.nil_append, List.getElem?_cons_zero, List.getElem?_cons_succ, List.set_cons_zero, List.set_cons_succ, Option.some.injEq, decide_eq_true_eq, Bool.not_eq_true', decide_eq_false_iff_not, ite_true, ite_false, if_true, if_false, reduceIte, Bool.false_eq_true, Bool.not_true, Bool.not_false, Bool.true_eq_false, decide_true, decide_false, Nat.reduceLeDiff, Nat.reduceLT, i1, n0]
    refine sat_seq ?_
    simp only [EV, Ab.isNon, args, List.map, List.length_cons, List.length_nil, List.length_singleton, List.replicate, Nat.reduceSub, Nat.reduceAdd, Nat.zero_add, List.cons_append, List.nil_append, List.getElem?_cons_zero, List.getElem?_cons_succ, List.set_cons_zero, List.set_cons_succ, Option.some.injEq, decide_eq_true_eq, Bool.not_eq_true', decide_eq_false_iff_not, ite_true, ite_false, if_true, if_false, reduceIte, Bool.false_eq_true, Bool.not_true, Bool.not_false, Bool.true_eq_false, decide_true, decide_false, Nat.reduceLeDiff, Nat.reduceLT, i1, t1, dn]
    exact ⟨⟨_, rfl, Int.emod_nonneg _ (by omega), .inl (Int.emod_lt_of_pos _ n0)⟩, .set hs⟩
  · simp only [EV, Ab.isNon, args, List.map, List.length_cons, List.length_nil, List.length_singleton, List.replicate, Nat.reduceSub, Nat.reduceAdd, Nat.zero_add, List.cons_append, List.nil_append, List.getElem?_cons_zero, List.getElem?_cons_succ, List.set_cons_zero, List.set_cons_succ, Option.some.injEq, decide_eq_true_eq, Bool.not_eq_true', decide_eq_false_iff_not, ite_true, ite_false, if_true, if_false, reduceIte, Bool.false_eq_true, Bool.not_true, Bool.not_false, Bool.true_eq_false, decide_true, decide_false, Nat.reduceLeDiff, Nat.reduceLT]
    refine sat_seq ?_
    simp only [EV, Ab.isNon, args, List.map, List.length_cons, List.length_nil, List.length_singleton, List.replicate, Nat.reduceSub, Nat.reduceAdd, Nat.zero_add, List.cons_append, List.nil_append, List.getElem?_cons_zero, List.getElem?_cons_succ, List.set_cons_zero, List.set_cons_succ, Option.some.injEq, decide_eq_true_eq, Bool.not_eq_true', decide_eq_false_iff_not, ite_true, ite_false, if_true, if_false, reduceIte, Bool.false_eq_true, Bool.not_true, Bool.not_false, Bool.true_eq_false, decide_true, decide_false, Nat.reduceLeDiff, Nat.reduceLT, i0, m1, p1]
    refine sat_seq ?_
    simp only [EV, Ab.isNon, args, List.map, List.length_cons, List.length_nil, List.length_singleton, List.replicate, Nat.reduceSub, Nat.reduceAdd, Nat.zero_add, List.cons_append, List.nil_append, List.getElem?_cons_zero, List.getElem?_cons_succ, List.set_cons_zero, List.set_cons_succ, Option.some.injEq, decide_eq_true_eq, Bool.not_eq_true', decide_eq_false_iff_not, ite_true, ite_false, if_true, if_false, reduceIte, Bool.false_eq_true, Bool.not_true, Bool.not_false, Bool.true_eq_false, decide_true, decide_false, Nat.reduceLeDiff, Nat.reduceLT, m3, p2]
    refine sat_seq ?_
    simp only [EV, Ab.isNon, args, List.map, List.length_cons, List.length_nil, List.length_singleton, List.replicate, Nat.reduceSub, Nat.reduceAdd, Nat.zero_add, List.cons_append, List.nil_append, List.getElem?_cons_zero, List.getElem?_cons_succ, List.set_cons_zero, List.set_cons_succ, Option.some.injEq, decide_eq_true_eq, Bool.not_eq_true', decide_eq_false_iff_not, ite_true, ite_false, if_true, if_false, reduceIte, Bool.false_eq_true, Bool.not_true, Bool.not_false, Bool.true_eq_false, decide_true, decide_false, Nat.reduceLeDiff, Nat.reduceLT, m4, m2, p1]
    simp only [EV, Ab.isNon, args, List.map, List.length_cons, List.length_nil, List.length_singleton, List.replicate, Nat.reduceSub, Nat.reduceAdd, Nat.zero_add, List.cons_append, List.nil_append, List.getElem?_cons_zero, List.getElem?_cons_succ, List.set_cons_zero, List.set_cons_succ, Option.some.injEq, decide_eq_true_eq, Bool.not_eq_true', decide_eq_false_iff_not, ite_true, ite_false, if_true, if_false, reduceIte, Bool.false_eq_true, Bool.not_true, Bool.not_false, Bool.true_eq_false, decide_true, decide_false, Nat.reduceLeDiff, Nat.reduceLT, last, n0]
    exact ⟨⟨_, rfl, Int.emod_nonneg _ (by omega), .inl (Int.emod_lt_of_pos _ n0)⟩, hA⟩
theorem same_refl : ∀ (n : Nat) (d : D) (A : AH), Pl n d → m__law_same (n + 1) [d, d] A = .ok (.bl true) A := by
  intro n
  induction n with
  | zero =>
    intro d A h
    have key : Sat (m__law_same (0 + 1) [d, d] A) fun e A' => e = .bl true ∧ A' = A := by
      refine sat_body rfl (sat_seq ?_)
      cases d with
      | non => simp only [EV, Ab.isNon, args, List.map, List.length_cons, List.length_nil, List.length_singleton, List.replicate, Nat.reduceSub, Nat.reduceAdd, Nat.zero_add, List.cons_append, List.nil_append, List.getElem?_cons_zero, List.getElem?_cons_succ, List.set_cons_zero, List.set_cons_succ, Option.some.injEq, decide_eq_true_eq, Bool.not_eq_true', decide_eq_false_iff_not, ite_true, ite_false, if_true, if_false, reduceIte, Bool.false_eq_true, Bool.not_true, Bool.not_false, Bool.true_eq_false, decide_true, decide_false, Nat.reduceLeDiff, Nat.reduceLT]; refine sat_seq ?_; simp only [EV, Ab.isNon, args, List.map, List.length_cons, List.length_nil, List.length_singleton, List.replicate, Nat.reduceSub, Nat.reduceAdd, Nat.zero_add, List.cons_append, List.nil_append, List.getElem?_cons_zero, List.getElem?_cons_succ, List.set_cons_zero, List.set_cons_succ, Option.some.injEq, decide_eq_true_eq, Bool.not_eq_true', decide_eq_false_iff_not, ite_true, ite_false, if_true, if_false, reduceIte, Bool.false_eq_true, Bool.not_true, Bool.not_false, Bool.true_eq_false, decide_true, decide_false, Nat.reduceLeDiff, Nat.reduceLT]; trivial
      | bl b => simp only [EV, Ab.isNon, args, List.map, List.length_cons, List.length_nil, List.length_singleton, List.replicate, Nat.reduceSub, Nat.reduceAdd, Nat.zero_add, List.cons_append, List.nil_append, List.getElem?_cons_zero, List.getElem?_cons_succ, List.set_cons_zero, List.set_cons_succ, Option.some.injEq, decide_eq_true_eq, Bool.not_eq_true', decide_eq_false_iff_not, ite_true, ite_false, if_true, if_false, reduceIte, Bool.false_eq_true, Bool.not_true, Bool.not_false, Bool.true_eq_false, decide_true, decide_false, Nat.reduceLeDiff, Nat.reduceLT]; refine sat_seq ?_; simp only [EV, Ab.isNon, args, List.map, List.length_cons, List.length_nil, List.length_singleton, List.replicate, Nat.reduceSub, Nat.reduceAdd, Nat.zero_add, List.cons_append, List.nil_append, List.getElem?_cons_zero, List.getElem?_cons_succ, List.set_cons_zero, List.set_cons_succ, Option.some.injEq, decide_eq_true_eq, Bool.not_eq_true', decide_eq_false_iff_not, ite_true, ite_false, if_true, if_false, reduceIte, Bool.false_eq_true, Bool.not_true, Bool.not_false, Bool.true_eq_false, decide_true, decide_false, Nat.reduceLeDiff, Nat.reduceLT]; refine sat_seq ?_; simp only [EV, Ab.isNon, args, List.map, List.length_cons, List.length_nil, List.length_singleton, List.replicate, Nat.reduceSub, Nat.reduceAdd, Nat.zero_add, List.cons_append, List.nil_append, List.getElem?_cons_zero, List.getElem?_cons_succ, List.set_cons_zero, List.set_cons_succ, Option.some.injEq, decide_eq_true_eq, Bool.not_eq_true', decide_eq_false_iff_not, ite_true, ite_false, if_true, if_false, reduceIte, Bool.false_eq_true, Bool.not_true, Bool.not_false, Bool.true_eq_false, decide_true, decide_false, Nat.reduceLeDiff, Nat.reduceLT]; exact ⟨by simp, trivial⟩
      | int b => simp only [EV, Ab.isNon, args, List.map, List.length_cons, List.length_nil, List.length_singleton, List.replicate, Nat.reduceSub, Nat.reduceAdd, Nat.zero_add, List.cons_append, List.nil_append, List.getElem?_cons_zero, List.getElem?_cons_succ, List.set_cons_zero, List.set_cons_succ, Option.some.injEq, decide_eq_true_eq, Bool.not_eq_true', decide_eq_false_iff_not, ite_true, ite_false, if_true, if_false, reduceIte, Bool.false_eq_true, Bool.not_true, Bool.not_false, Bool.true_eq_false, decide_true, decide_false, Nat.reduceLeDiff, Nat.reduceLT]; refine sat_seq ?_; simp only [EV, Ab.isNon, args, List.map, List.length_cons, List.length_nil, List.length_singleton, List.replicate, Nat.reduceSub, Nat.reduceAdd, Nat.zero_add, List.cons_append, List.nil_append, List.getElem?_cons_zero, List.getElem?_cons_succ, List.set_cons_zero, List.set_cons_succ, Option.some.injEq, decide_eq_true_eq, Bool.not_eq_true', decide_eq_false_iff_not, ite_true, ite_false, if_true, if_false, reduceIte, Bool.false_eq_true, Bool.not_true, Bool.not_false, Bool.true_eq_false, decide_true, decide_false, Nat.reduceLeDiff, Nat.reduceLT]; refine sat_seq ?_; simp only [EV, Ab.isNon, args, List.map, List.length_cons, List.length_nil, List.length_singleton, List.replicate, Nat.reduceSub, Nat.reduceAdd, Nat.zero_add, List.cons_append, List.nil_append, List.getElem?_cons_zero, List.getElem?_cons_succ, List.set_cons_zero, List.set_cons_succ, Option.some.injEq, decide_eq_true_eq, Bool.not_eq_true', decide_eq_false_iff_not, ite_true, ite_false, if_true, if_false, reduceIte, Bool.false_eq_true, Bool.not_true, Bool.not_false, Bool.true_eq_false, decide_true, decide_false, Nat.reduceLeDiff, Nat.reduceLT]; refine sat_seq ?_; simp only [EV, Ab.isNon, args, List.map, List.length_cons, List.length_nil, List.length_singleton, List.replicate, Nat.reduceSub, Nat.reduceAdd, Nat.zero_add, List.cons_append, List.nil_append, List.getElem?_cons_zero, List.getElem?_cons_succ, List.set_cons_zero, List.set_cons_succ, Option.some.injEq, decide_eq_true_eq, Bool.not_eq_true', decide_eq_false_iff_not, ite_true, ite_false, if_true, if_false, reduceIte, Bool.false_eq_true, Bool.not_true, Bool.not_false, Bool.true_eq_false, decide_true, decide_false, Nat.reduceLeDiff, Nat.reduceLT]; exact ⟨by simp, trivial⟩
      | str b => simp only [EV, Ab.isNon, args, List.map, List.length_cons, List.length_nil, List.length_singleton, List.replicate, Nat.reduceSub, Nat.reduceAdd, Nat.zero_add, List.cons_append, List.nil_append, List.getElem?_cons_zero, List.getElem?_cons_succ, List.set_cons_zero, List.set_cons_succ, Option.some.injEq, decide_eq_true_eq, Bool.not_eq_true', decide_eq_false_iff_not, ite_true, ite_false, if_true, if_false, reduceIte, Bool.false_eq_true, Bool.not_true, Bool.not_false, Bool.true_eq_false, decide_true, decide_false, Nat.reduceLeDiff, Nat.reduceLT]; refine sat_seq ?_; simp only [EV, Ab.isNon, args, List.map, List.length_cons, List.length_nil, List.length_singleton, List.replicate, Nat.reduceSub, Nat.reduceAdd, Nat.zero_add, List.cons_append, List.nil_append, List.getElem?_cons_zero, List.getElem?_cons_succ, List.set_cons_zero, List.set_cons_succ, Option.some.injEq, decide_eq_true_eq, Bool.not_eq_true', decide_eq_false_iff_not, ite_true, ite_false, if_true, if_false, reduceIte, Bool.false_eq_true, Bool.not_true, Bool.not_false, Bool.true_eq_false, decide_true, decide_false, Nat.reduceLeDiff, Nat.reduceLT]; refine sat_seq ?_; simp only [EV, Ab.isNon, args, List.map, List.length_cons, List.length_nil, List.length_singleton, List.replicate, Nat.reduceSub, Nat.reduceAdd, Nat.zero_add, List.cons_append, List.nil_append, List.getElem?_cons_zero, List.getElem?_cons_succ, List.set_cons_zero, List.set_cons_succ, Option.some.injEq, decide_eq_true_eq, Bool.not_eq_true', decide_eq_false_iff_not, ite_true, ite_false, if_true, if_false, reduceIte, Bool.false_eq_true, Bool.not_true, Bool.not_false, Bool.true_eq_false, decide_true, decide_false, Nat.reduceLeDiff, Nat.reduceLT]; refine sat_seq ?_; simp only [EV, Ab.isNon, args, List.map, List.length_cons, List.length_nil, List.length_singleton, List.replicate, Nat.reduceSub, Nat.reduceAdd, Nat.zero_add, List.cons_append, List.nil_append, List.getElem?_cons_zero, List.getElem?_cons_succ, List.set_cons_zero, List.set_cons_succ, Option.some.injEq, decide_eq_true_eq, Bool.not_eq_true', decide_eq_false_iff_not, ite_true, ite_false, if_true, if_false, reduceIte, Bool.false_eq_true, Bool.not_true, Bool.not_false, Bool.true_eq_false, decide_true, decide_false, Nat.reduceLeDiff, Nat.reduceLT]; exact ⟨by simp, trivial⟩
      | tup ds => exact h.elim
      | ref _ => exact h.elim
    obtain ⟨e, A', h1, rfl, rfl⟩ := key.eq
    exact h1
  | succ n ih =>
    intro d A h
    have key : Sat (m__law_same (n + 1 + 1) [d, d] A) fun e A' => e = .bl true ∧ A' = A := by
      refine sat_body rfl (sat_seq ?_)
      cases d with
      | non => simp only [EV, Ab.isNon, args, List.map, List.length_cons, List.length_nil, List.length_singleton, List.replicate, Nat.reduceSub, Nat.reduceAdd, Nat.zero_add, List.cons_append, List.nil_append, List.getElem?_cons_zero, List.getElem?_cons_succ, List.set_cons_zero, List.set_cons_succ, Option.some.injEq, decide_eq_true_eq, Bool.not_eq_true', decide_eq_false_iff_not, ite_true, ite_false, if_true, if_false, reduceIte, Bool.false_eq_true, Bool.not_true, Bool.not_false, Bool.true_eq_false, decide_true, decide_false, Nat.reduceLeDiff, Nat.reduceLT]; refine sat_seq ?_; simp only [EV, Ab.isNon, args, List.map, List.length_cons, List.length_nil, List.length_singleton, List.replicate, Nat.reduceSub, Nat.reduceAdd, Nat.zero_add, List.cons_append, List.nil_append, List.getElem?_cons_zero, List.getElem?_cons_succ, List.set_cons_zero, List.set_cons_succ, Option.some.injEq, decide_eq_true_eq, Bool.not_eq_true', decide_eq_false_iff_not, ite_true, ite_false, if_true, if_false, reduceIte, Bool.false_eq_true, Bool.not_true, Bool.not_false, Bool.true_eq_false, decide_true, decide_false, Nat.reduceLeDiff, Nat.reduceLT]; trivial
      | bl b => simp only [EV, Ab.isNon, args, List.map, List.length_cons, List.length_nil, List.length_singleton, List.replicate, Nat.reduceSub, Nat.reduceAdd, Nat.zero_add, List.cons_append, List.nil_append, List.getElem?_cons_zero, List.getElem?_cons_succ, List.set_cons_zero, List.set_cons_succ, Option.some.injEq, decide_eq_true_eq, Bool.not_eq_true', decide_eq_false_iff_not, ite_true, ite_false, if_true, if_false, reduceIte, Bool.false_eq_true, Bool.not_true, Bool.not_false, Bool.true_eq_false, decide_true, decide_false, Nat.reduceLeDiff, Nat.reduceLT]; refine sat_seq ?_; simp only [EV, Ab.isNon, args, List.map, List.length_cons, List.length_nil, List.length_singleton, List.replicate, Nat.reduceSub, Nat.reduceAdd, Nat.zero_add, List.cons_append, List.nil_append, List.getElem?_cons_zero, List.getElem?_cons_succ, List.set_cons_zero, List.set_cons_succ, Option.some.injEq, decide_eq_true_eq, Bool.not_eq_true', decide_eq_false_iff_not, ite_true, ite_false, if_true, if_false, reduceIte, Bool.false_eq_true, Bool.not_true, Bool.not_false, Bool.true_eq_false, decide_true, decide_false, Nat.reduceLeDiff, Nat.reduceLT]; refine sat_seq ?_; simp only [EV, Ab.isNon, args, List.map, List.length_cons, List.length_nil, List.length_singleton, List.replicate, Nat.reduceSub, Nat.reduceAdd, Nat.zero_add, List.cons_append, List.nil_append, List.getElem?_cons_zero, List.getElem?_cons_succ, List.set_cons_zero, List.set_cons_succ, Option.some.injEq, decide_eq_true_eq, Bool.not_eq_true', decide_eq_false_iff_not, ite_true, ite_false, if_true, if_false, reduceIte, Bool.false_eq_true, Bool.not_true, Bool.not_false, Bool.true_eq_false, decide_true, decide_false, Nat.reduceLeDiff, Nat.reduceLT]; exact ⟨by simp, trivial⟩
      | int b => simp only [EV, Ab.isNon, args, List.map, List.length_cons, List.length_nil, List.length_singleton, List.replicate, Nat.reduceSub, Nat.reduceAdd, Nat.zero_add, List.cons_append, List.nil_append, List.getElem?_cons_zero, List.getElem?_cons_succ, List.set_cons_zero, List.set_cons_succ, Option.some.injEq, decide_eq_true_eq, Bool.not_eq_true', decide_eq_false_iff_not, ite_true, ite_false, if_true, if_false, reduceIte, Bool.false_eq_true, Bool.not_true, Bool.not_false, Bool.true_eq_false, decide_true, decide_false, Nat.reduceLeDiff, Nat.reduceLT]; refine sat_seq ?_; simp only [EV, Ab.isNon, args, List.map, List.length_cons, List.length_nil, List.length_singleton, List.replicate, Nat.reduceSub, Nat.reduceAdd, Nat.zero_add, List.cons_append, List.nil_append, List.getElem?_cons_zero, List.getElem?_cons_succ, List.set_cons_zero, List.set_cons_succ, Option.some.injEq, decide_eq_true_eq, Bool.not_eq_true', decide_eq_false_iff_not, ite_true, ite_false, if_true, if_false, reduceIte, Bool.false_eq_true, Bool.not_true, Bool.not_false, Bool.true_eq_false, decide_true, decide_false, Nat.reduceLeDiff, Nat.reduceLT]; refine sat_seq ?_; simp only [EV, Ab.isNon, args, List.map, List.length_cons, List.length_nil, List.length_singleton, List.replicate, Nat.reduceSub, Nat.reduceAdd, Nat.zero_add, List.cons_append, List.nil_append, List.getElem?_cons_zero, List.getElem?_cons_succ, List.set_cons_zero, List.set_cons_succ, Option.some.injEq, decide_eq_true_eq, Bool.not_eq_true', decide_eq_false_iff_not, ite_true, ite_false, if_true, if_false, reduceIte, Bool.false_eq_true, Bool.not_true, Bool.not_false, Bool.true_eq_false, decide_true, decide_false, Nat.reduceLeDiff, Nat.reduceLT]; refine sat_seq ?_; simp only [EV, Ab.isNon, args, List.map, List.length_cons, List.length_nil, List.length_singleton, List.replicate, Nat.reduceSub, Nat.reduceAdd, Nat.zero_add, List.cons_append, List.nil_append, List.getElem?_cons_zero, List.getElem?_cons_succ, List.set_cons_zero, List.set_cons_succ, Option.some.injEq, decide_eq_true_eq, Bool.not_eq_true', decide_eq_false_iff_not, ite_true, ite_false, if_true, if_false, reduceIte, Bool.false_eq_true, Bool.not_true, Bool.not_false, Bool.true_eq_false, decide_true, decide_false, Nat.reduceLeDiff, Nat.reduceLT]; exact ⟨by simp, trivial⟩
      | str b => simp only [EV, Ab.isNon, args, List.map, List.length_cons, List.length_nil, List.length_singleton, List.replicate, Nat.reduceSub, Nat.reduceAdd, Nat.zero_add, List.cons_append, List.nil_append, List.getElem?_cons_zero, List.getElem?_cons_succ, List.set_cons_zero, List.set_cons_succ, Option.some.injEq, decide_eq_true_eq, Bool.not_eq_true', decide_eq_false_iff_not, ite_true, ite_false, if_true, if_false, reduceIte, Bool.false_eq_true, Bool.not_true, Bool.not_false, Bool.true_eq_false, decide_true, decide_false, Nat.reduceLeDiff, Nat.reduceLT]; refine sat_seq ?_; simp only [EV, Ab.isNon, args, List.map, List.length_cons, List.length_nil, List.length_singleton, List.replicate, Nat.reduceSub, Nat.reduceAdd, Nat.zero_add, List.cons_append, List.nil_append, List.getElem?_cons_zero, List.getElem?_cons_succ, List.set_cons_zero, List.set_cons_succ, Option.some.injEq, decide_eq_true_eq, Bool.not_eq_true', decide_eq_false_iff_not, ite_true, ite_false, if_true, if_false, reduceIte, Bool.false_eq_true, Bool.not_true, Bool.not_false, Bool.true_eq_false, decide_true, decide_false, Nat.reduceLeDiff, Nat.reduceLT]; refine sat_seq ?_; simp only [EV, Ab.isNon, args, List.map, List.length_cons, List.length_nil, List.length_singleton, List.replicate, Nat.reduceSub, Nat.reduceAdd, Nat.zero_add, List.cons_append, List.nil_append, List.getElem?_cons_zero, List.getElem?_cons_succ, List.set_cons_zero, List.set_cons_succ, Option.some.injEq, decide_eq_true_eq, Bool.not_eq_true', decide_eq_false_iff_not, ite_true, ite_false, if_true, if_false, reduceIte, Bool.false_eq_true, Bool.not_true, Bool.not_false, Bool.true_eq_false, decide_true, decide_false, Nat.reduceLeDiff, Nat.reduceLT]; refine sat_seq ?_; simp only [EV, Ab.isNon, args, List.map, List.length_cons, List.length_nil, List.length_singleton, List.replicate, Nat.reduceSub, Nat.reduceAdd, Nat.zero_add, List.cons_append, List.nil_append, List.getElem?_cons_zero, List.getElem?_cons_succ, List.set_cons_zero, List.set_cons_succ, Option.some.injEq, decide_eq_true_eq, Bool.not_eq_true', decide_eq_false_iff_not, ite_true, ite_false, if_true, if_false, reduceIte, Bool.false_eq_true, Bool.not_true, Bool.not_false, Bool.true_eq_false, decide_true, decide_false, Nat.reduceLeDiff, Nat.reduceLT]; exact ⟨by simp, trivial⟩
      | ref _ => exact h.elim
      | tup ds =>
        obtain ⟨hl, hd⟩ := h
        simp only [EV, Ab.isNon, args, List.map, List.length_cons, List.length_nil, List.length_singleton, List.replicate, Nat.reduceSub, Nat.reduceAdd, Nat.zero_add, List.cons_append, List.nil_append, List.getElem?_cons_zero, List.getElem?_cons_succ, List.set_cons_zero, List.set_cons_succ, Option.some.injEq, decide_eq_true_eq, Bool.not_eq_true', decide_eq_false_iff_not, ite_true, ite_false, if_true, if_false, reduceIte, Bool.false_eq_true, Bool.not_true, Bool.not_false, Bool.true_eq_false, decide_true, decide_false, Nat.reduceLeDiff, Nat.reduceLT]
        refine sat_seq (sat_seq ?_)
        simp only [EV, Ab.isNon, args, List.map, List.length_cons, List.length_nil, List.length_singleton, List.replicate, Nat.reduceSub, Nat.reduceAdd, Nat.zero_add, List.cons_append, List.nil_append, List.getElem?_cons_zero, List.getElem?_cons_succ, List.set_cons_zero, List.set_cons_succ, Option.some.injEq, decide_eq_true_eq, Bool.not_eq_true', decide_eq_false_iff_not, ite_true, ite_false, if_true, if_false, reduceIte, Bool.false_eq_true, Bool.not_true, Bool.not_false, Bool.true_eq_false, decide_true, decide_false, Nat.reduceLeDiff, Nat.reduceLT]
        refine sat_seq ?_
        simp only [EV, Ab.isNon, args, List.map, List.length_cons, List.length_nil, List.length_singleton, List.replicate, Nat.reduceSub, Nat.reduceAdd, Nat.zero_add, List.cons_append, List.nil_append, List.getElem?_cons_zero, List.getElem?_cons_succ, List.set_cons_zero, List.set_cons_succ, Option.some.injEq, decide_eq_true_eq, Bool.not_eq_true', decide_eq_false_iff_not, ite_true, ite_false, if_true, if_false, reduceIte, Bool.false_eq_true, Bool.not_true, Bool.not_false, Bool.true_eq_false, decide_true, decide_false, Nat.reduceLeDiff, Nat.reduceLT]
        have hz : InRg (ds.length : Int) := inRg_nat (by omega)
        rw [if_pos hz, Int.toNat_natCast]
        refine range_inv (fun k s A' => A' = A ∧ ∃ y, s = [some (.tup ds), some (.tup ds), y]) (fun k s A' hk ⟨hA, y, hs⟩ => ?_) (fun s A' ⟨hA, y, hs⟩ => ?_) ⟨rfl, none, rfl⟩
        · subst hA; subst hs
          have g : ds[k]? = some ds[k] := List.getElem?_eq_getElem hk
          have ix : ixD (.tup ds) (.int (0 + (k : Nat))) A' = .ok ds[k] A' := ev_ix_t (by rw [atI_pos (by omega)]; rw [show (0 + (k : Nat) : Int).toNat = k by omega]; exact g)
          have rc : m__law_same (n + 1) [ds[k], ds[k]] A' = .ok (.bl true) A' := ih ds[k] A' (hd _ (List.getElem_mem hk))
          simp only [EV, Ab.isNon, args, List.map, List.length_cons, List.length_nil, List.length_singleton, List.replicate, Nat.reduceSub, Nat.reduceAdd, Nat.zero_add, List.cons_append, List.nil_append, List.getElem?_cons_zero, List.getElem?_cons_succ, List.set_cons_zero, List.set_cons_succ, Option.some.injEq, decide_eq_true_eq, Bool.not_eq_true', decide_eq_false_iff_not, ite_true, ite_false, if_true, if_false, reduceIte, Bool.false_eq_true, Bool.not_true, Bool.not_false, Bool.true_eq_false, decide_true, decide_false, Nat.reduceLeDiff, Nat.reduceLT, ix, rc, turn_]
          exact ⟨trivial, _, rfl⟩
        · subst hA; subst hs
          simp only [EV, Ab.isNon, args, List.map, List.length_cons, List.length_nil, List.length_singleton, List.replicate, Nat.reduceSub, Nat.reduceAdd, Nat.zero_add, List.cons_append, List.nil_append, List.getElem?_cons_zero, List.getElem?_cons_succ, List.set_cons_zero, List.set_cons_succ, Option.some.injEq, decide_eq_true_eq, Bool.not_eq_true', decide_eq_false_iff_not, ite_true, ite_false, if_true, if_false, reduceIte, Bool.false_eq_true, Bool.not_true, Bool.not_false, Bool.true_eq_false, decide_true, decide_false, Nat.reduceLeDiff, Nat.reduceLT, thn_]
          first | trivial | exact ⟨trivial, trivial⟩
    obtain ⟨e, A', h1, rfl, rfl⟩ := key.eq
    exact h1

/-! ### the helpers that draw -/
theorem cell_spec {A : AH} {ns : List Int} {k : Nat} (h : A[0]? = some (.frz (ns.map D.int))) (hl : ns.length ≤ 63) : ∃ v, m__law_cell [.ref 0, .int (k : Int)] A = .ok (.int v) A := by
  have key : Sat (m__law_cell [.ref 0, .int (k : Int)] A) fun d A' => (∃ v, d = .int v) ∧ A' = A := by
    refine sat_body rfl (sat_seq ?_)
    have ln : lenD [.ref 0] A = .ok (.int ((ns.map D.int).length : Nat)) A := ev_len_r (rdL_f h)
    simp only [EV, Ab.isNon, args, List.map, List.length_cons, List.length_nil, List.length_singleton, List.replicate, Nat.reduceSub, Nat.reduceAdd, Nat.zero_add, List.cons_append, List.nil_append, List.getElem?_cons_zero, List.getElem?_cons_succ, List.set_cons_zero, List.set_cons_succ, Option.some.injEq, decide_eq_true_eq, Bool.not_eq_true', decide_eq_false_iff_not, ite_true, ite_false, if_true, if_false, reduceIte, Bool.false_eq_true, Bool.not_true, Bool.not_false, Bool.true_eq_false, decide_true, decide_false, Nat.reduceLeDiff, Nat.reduceLT, ln]
    split
    · rename_i hk
      rw [List.length_map] at hk
      have hk' : k < ns.length := by omega
      have ix : ixD (.ref 0) (.int (k : Int)) A = .ok (.int ns[k]) A := ev_ix_r (rdL_f h) (by rw [atI_pos (by omega), Int.toNat_natCast, List.getElem?_map, List.getElem?_eq_getElem hk']; rfl)
      rw [ix]
      exact ⟨⟨_, rfl⟩, rfl⟩
    · exact ⟨⟨_, rfl⟩, trivial⟩
  obtain ⟨d, A', e, ⟨v, rfl⟩, rfl⟩ := key.eq
  exact ⟨v, e⟩
theorem source_spec {A : AH} {c : Int} : m__law_source [.int c] A = .ok (.ref A.length) (A ++ [.lst [.int c, .int c, .int 0]]) := by
  have key : Sat (m__law_source [.int c] A) fun d A' => d = .ref A.length ∧ A' = A ++ [.lst [.int c, .int c, .int 0]] := by
    refine sat_body rfl ?_
    unfold p__law_source
    simp only [EV, Ab.isNon, args, List.map, List.length_cons, List.length_nil, List.length_singleton, List.replicate, Nat.reduceSub, Nat.reduceAdd, Nat.zero_add, List.cons_append, List.nil_append, List.getElem?_cons_zero, List.getElem?_cons_succ, List.set_cons_zero, List.set_cons_succ, Option.some.injEq, decide_eq_true_eq, Bool.not_eq_true', decide_eq_false_iff_not, ite_true, ite_false, if_true, if_false, reduceIte, Bool.false_eq_true, Bool.not_true, Bool.not_false, Bool.true_eq_false, decide_true, decide_false, Nat.reduceLeDiff, Nat.reduceLT]
    trivial
  obtain ⟨d, A', e, rfl, rfl⟩ := key.eq
  exact e
theorem pick_pos {A : AH} {s : Nat} {n : Int} (hs : Sr s A) (h0 : 0 < n) (hn : n < 2 ^ 100) : DrwS s A (m__law_pick [.ref s, .int n] A) fun d => ∃ v, d = .int v ∧ 0 ≤ v ∧ v < n :=
  (pick_spec hs hn).imp fun d ⟨v, e, h1, h2⟩ => ⟨v, e, h1, by omega⟩
/-- a proof is cut at a statement -/
theorem sat_mid {p r : FS} {σ : ASt} {A : AH} {P : Fl → AH → Prop} (I : ASt → AH → Prop) (h : Sat (p σ A) fun fl B => ∃ σ', fl = .nx σ' ∧ I σ' B) (k : ∀ σ' B, I σ' B → Sat (r σ' B) P) : Sat (fSeq p r σ A) P :=
  sat_seq (Sat.imp h fun fl B ⟨σ', e, hi⟩ => by subst e; exact k _ _ hi)
/-- a proof is cut at a statement that may return -/
theorem sat_early {p r : FS} {σ : ASt} {A : AH} {P : Fl → AH → Prop} (I : ASt → AH → Prop) (R : D → AH → Prop) (h : Sat (p σ A) fun fl B => (∃ d, fl = .rt d ∧ R d B) ∨ ∃ σ', fl = .nx σ' ∧ I σ' B) (hr : ∀ d B, R d B → P (.rt d) B) (k : ∀ σ' B, I σ' B → Sat (r σ' B) P) : Sat (fSeq p r σ A) P :=
  sat_seq (Sat.imp h fun fl B h => by
    rcases h with ⟨d, e, h⟩ | ⟨σ', e, h⟩
    · subst e; exact hr d B h
    · subst e; exact k σ' B h)
end Law

namespace Law
open PySem PySem.Spec PyProof.Rows L2 Ab
open scoped Classical
/-! ## points, tables of distances -/
def ptD (p : List Int) : D := .tup (p.map D.int)
def at0 (p : List Int) (i : Nat) : Int := ((0 : Int) :: p).getD i 0
def mx (ps : List (List Int)) (i j : Nat) : Int := maxI (ps.map fun p => at0 p i - at0 p j)
def rowD (n : Nat) (f : Nat → Int) : D := .tup ((List.range n).map fun j => .int (f j))
def matD (n : Nat) (f : Nat → Nat → Int) : D := .tup ((List.range n).map fun i => rowD n (f i))
noncomputable def hullD (ps : List (List Int)) (n : Nat) : D := if ps = [] then .non else matD (n + 1) (mx ps)
/-- points of n numbers, at most 20 (k at most) -/
structure Pts (n : Nat) (ps : List (List Int)) : Prop where
  n20 : n ≤ 20
  few : ps.length ≤ 100000
  len : ∀ p ∈ ps, p.length = n
theorem pl_row {n : Nat} {f : Nat → Int} (h : n ≤ 1000) : Pl 18 (rowD n f) := by
  refine ⟨by simp; omega, fun e he => ?_⟩
  obtain ⟨k, -, rfl⟩ := List.mem_map.mp he
  trivial
theorem pl_mat {n : Nat} {f : Nat → Nat → Int} (h : n ≤ 1000) : Pl 19 (matD n f) := by
  refine ⟨by simp; omega, fun e he => ?_⟩
  obtain ⟨k, -, rfl⟩ := List.mem_map.mp he
  exact pl_row h
theorem pl_hull {n : Nat} {ps : List (List Int)} (h : n ≤ 20) : Pl 19 (hullD ps n) := by
  unfold hullD
  split
  · trivial
  · exact pl_mat (by omega)
theorem same_hull {n : Nat} {ps : List (List Int)} {A : AH} (h : n ≤ 20) : m__law_same 20 [hullD ps n, hullD ps n] A = .ok (.bl true) A := same_refl 19 _ _ (pl_hull h)
/-! ### the list of points, asked against the empty one -/
theorem lay_ints : ∀ ns : List Int, PyData.canLayAll0 (ns.map PyData.int) = true ∧ PyData.depthAll (ns.map PyData.int) = 0
  | [] => ⟨rfl, rfl⟩
  | _ :: r => by
    obtain ⟨h1, h2⟩ := lay_ints r
    simp [PyData.canLayAll0, PyData.canLay0, PyData.depthAll, PyData.depth, h1, h2]
theorem pd_pts : ∀ ps : List (List Int), ∃ qs, pdL (ps.map ptD) = some qs ∧ PyData.canLayAll0 qs = true ∧ PyData.depthAll qs ≤ 1 ∧ PyData.eqvAll qs [] = decide (ps = [])
  | [] => ⟨[], rfl, rfl, by decide, rfl⟩
  | p :: ps => by
    obtain ⟨qs, h1, h2, h3, h4⟩ := pd_pts ps
    have e : ∀ p : List Int, pdL (p.map D.int) = some (p.map PyData.int) := by
      intro p
      induction p with
      | nil => rfl
      | cons x p ih => simp only [List.map_cons, pdL, pd, ih]
    refine ⟨.tuple (p.map .int) :: qs, ?_, ?_, ?_, ?_⟩
    · simp only [List.map_cons, pdL, pd, ptD, e, h1]
    · simp [PyData.canLayAll0, PyData.canLay0, (lay_ints p).1, h2]
    · simp [PyData.depthAll, PyData.depth, (lay_ints p).2]; omega
    · rfl
theorem eq_pts {A : AH} {r q : Nat} {ps : List (List Int)} (h : A[r]? = some (.lst (ps.map ptD))) (hq : A[q]? = some (.lst [])) : eqD (.ref r) (.ref q) A = .ok (.bl (decide (ps = []))) A := by
  obtain ⟨qs, h1, h2, h3, h4⟩ := pd_pts ps
  have e1 : pd1 A (.ref r) = some (.list qs) := by simp only [pd1, rdL_l h, h1]
  have e2 : pd1 A (.ref q) = some (.list []) := by simp only [pd1, rdL_l hq, pdL]
  have s1 : SeqAt.shaped (.list qs) = true := by simp [SeqAt.shaped, PyData.canLay0, PyData.depth, h2]; omega
  have s2 : SeqAt.shaped (.list []) = true := by simp [SeqAt.shaped, PyData.canLay0, PyData.depth, PyData.canLayAll0, PyData.depthAll]
  show okB (match pd1 A (.ref r), pd1 A (.ref q) with
    | some p, some q => if (SeqAt.shaped p && SeqAt.shaped q) = true then some (PyData.eqv p q) else none
    | _, _ => none) A = _
  rw [e1, e2]
  simp only [s1, s2, Bool.and_self, if_true]
  show Res.ok (D.bl (PyData.eqvAll qs [])) A = _
  rw [h4]
/-! ### reading -/
theorem ix_row {n i : Nat} {f : Nat → Int} {A : AH} (h : i < n) : ixD (rowD n f) (.int (i : Nat)) A = .ok (.int (f i)) A := ev_ix_t (by rw [atI_pos (by omega), Int.toNat_natCast, List.getElem?_map, List.getElem?_range h]; rfl)
theorem ix_mat {n i : Nat} {f : Nat → Nat → Int} {A : AH} (h : i < n) : ixD (matD n f) (.int (i : Nat)) A = .ok (rowD n (f i)) A := ev_ix_t (by rw [atI_pos (by omega), Int.toNat_natCast, List.getElem?_map, List.getElem?_range h]; rfl)
theorem ix_full {p : List Int} {i : Nat} {A : AH} (h : i ≤ p.length) : ixD (.tup (.int 0 :: p.map D.int)) (.int (i : Nat)) A = .ok (.int (at0 p i)) A := ev_ix_t (by
  rw [atI_pos (by omega), Int.toNat_natCast, show D.int 0 :: p.map D.int = ((0 : Int) :: p).map D.int from rfl, List.getElem?_map]
  have : i < ((0 : Int) :: p).length := by simp; omega
  rw [List.getElem?_eq_getElem this]
  show some (D.int _) = some (D.int _)
  congr 2
  unfold at0
  rw [List.getD_eq_getElem?_getD, List.getElem?_eq_getElem this]; rfl)
theorem at0_z {p : List Int} : at0 p 0 = 0 := rfl
theorem at0_s {p : List Int} {k : Nat} : at0 p (k + 1) = p.getD k 0 := rfl
theorem ix_pt {p : List Int} {i : Nat} {A : AH} (h : i < p.length) : ixD (ptD p) (.int (i : Nat)) A = .ok (.int (at0 p (i + 1))) A := ev_ix_t (by
  rw [atI_pos (by omega), Int.toNat_natCast, List.getElem?_map, List.getElem?_eq_getElem h, at0_s, List.getD_eq_getElem?_getD, List.getElem?_eq_getElem h]; rfl)
end Law

namespace Law
open PySem PySem.Spec PyProof.Rows L2 Ab
open scoped Classical
/-! ### close -/
theorem frozen_spec {A : AH} {r n : Nat} {f : Nat → Nat → Int} (x : Nat → Nat) (h : A[r]? = some (.lst ((List.range n).map fun i => .ref (x i)))) (hx : ∀ i, i < n → A[x i]? = some (.lst ((List.range n).map fun j => .int (f i j)))) (hn : n ≤ 1000) :
    Sat (m_frozen [.ref r] A) fun d A' => d = matD n f ∧ Gr A A' := by
  refine sat_body rfl ?_
  unfold p_frozen
  simp only [EV, Ab.isNon, args, List.map, List.length_cons, List.length_nil, List.length_singleton, List.replicate, Nat.reduceSub, Nat.reduceAdd, Nat.zero_add, List.cons_append, List.nil_append, List.getElem?_cons_zero, List.getElem?_cons_succ, List.set_cons_zero, List.set_cons_succ, Option.some.injEq, decide_eq_true_eq, Bool.not_eq_true', decide_eq_false_iff_not, ite_true, ite_false, if_true, if_false, reduceIte, Bool.false_eq_true, Bool.not_true, Bool.not_false, Bool.true_eq_false, decide_true, decide_false, Nat.reduceLeDiff, Nat.reduceLT, ev_iseq_l h, wipeA]
  have c : ((List.range n).map fun i => D.ref (x i)) = ((List.range n).filter fun i => decide (i < n)).map fun i => D.ref (x i) := by
    rw [List.filter_eq_self.mpr fun a ha => decide_eq_true (List.mem_range.mp ha)]
  refine comp_pure (fun i => D.ref (x i)) (fun i => rowD n (f i)) (fun l => rdL_l (Gr.app.keep _ _ h)) (fun i hi l => ?_) (by simp; omega) ?_
  · have hi := List.mem_range.mp hi
    simp only [EV, Ab.isNon, args, List.map, List.length_cons, List.length_nil, List.length_singleton, List.replicate, Nat.reduceSub, Nat.reduceAdd, Nat.zero_add, List.cons_append, List.nil_append, List.getElem?_cons_zero, List.getElem?_cons_succ, List.set_cons_zero, List.set_cons_succ, Option.some.injEq, decide_eq_true_eq, Bool.not_eq_true', decide_eq_false_iff_not, ite_true, ite_false, if_true, if_false, reduceIte, Bool.false_eq_true, Bool.not_true, Bool.not_false, Bool.true_eq_false, decide_true, decide_false, Nat.reduceLeDiff, Nat.reduceLT, ev_tup_ofL (rdL_l (Gr.app.keep _ _ (hx i hi)))]
    trivial
  · have at1 := at_new (A := A) (o := .lst ((List.range n).map fun i => rowD n (f i)))
    simp only [EV, Ab.isNon, args, List.map, List.length_cons, List.length_nil, List.length_singleton, List.replicate, Nat.reduceSub, Nat.reduceAdd, Nat.zero_add, List.cons_append, List.nil_append, List.getElem?_cons_zero, List.getElem?_cons_succ, List.set_cons_zero, List.set_cons_succ, Option.some.injEq, decide_eq_true_eq, Bool.not_eq_true', decide_eq_false_iff_not, ite_true, ite_false, if_true, if_false, reduceIte, Bool.false_eq_true, Bool.not_true, Bool.not_false, Bool.true_eq_false, decide_true, decide_false, Nat.reduceLeDiff, Nat.reduceLT, ev_tup_ofL (rdL_l at1)]
    exact ⟨rfl, .app⟩
/-- a table of lists: r the list of its rows, c i the i-th row -/
structure Mt (A0 A : AH) (r : Nat) (c : Nat → Nat) (m : Nat) (R : Mx) : Prop where
  gr : Gr A0 A
  rows : A[r]? = some (.lst ((List.range m).map fun i => .ref (c i)))
  row : ∀ i, i < m → A[c i]? = some (.lst ((List.range m).map fun j => .int (R i j)))
  inj : ∀ i j, i < m → j < m → c i = c j → i = j
  ne : ∀ i, i < m → c i ≠ r
  new : ∀ i, i < m → A0.length ≤ c i
theorem range_set {m j : Nat} {f : Nat → Int} {v : Int} : ((List.range m).map fun j => D.int (f j)).set j (.int v) = (List.range m).map fun k => D.int (if k = j then v else f k) := by
  apply List.ext_getElem (by simp)
  intro i h1 h2
  rw [List.getElem_set]
  simp only [List.getElem_map, List.getElem_range]
  by_cases e : j = i
  · subst e; simp
  · rw [if_neg e, if_neg (fun z => e z.symm)]
section
variable {A0 A B : AH} {r m : Nat} {c : Nat → Nat} {R : Mx}
theorem Mt.to (h : Mt A0 A r c m R) (g : Gr A B) : Mt A0 B r c m R := ⟨h.gr.trans g, g.keep _ _ h.rows, fun i hi => g.keep _ _ (h.row i hi), h.inj, h.ne, h.new⟩
theorem Mt.set (h : Mt A0 A r c m R) {i j : Nat} {v : Int} (hi : i < m) :
    Mt A0 (A.set (c i) (.lst (((List.range m).map fun j => D.int (R i j)).set j (.int v)))) r c m (fun a b => if a = i ∧ b = j then v else R a b) := by
  refine ⟨h.gr.set (h.new i hi), ?_, fun a ha => ?_, h.inj, h.ne, h.new⟩
  · rw [List.getElem?_set_ne (h.ne i hi)]; exact h.rows
  · by_cases e : a = i
    · subst e
      rw [at_set (at_lt (h.row a ha)), range_set]
      simp
    · rw [List.getElem?_set_ne (fun z => e (h.inj a i ha hi z.symm)), h.row a ha]
      simp [e]
theorem Mt.ext {S : Mx} (h : Mt A0 A r c m R) (e : ∀ i j, i < m → j < m → R i j = S i j) : Mt A0 A r c m S := ⟨h.gr, h.rows, fun i hi => by
  rw [h.row i hi]
  congr 2
  exact List.map_congr_left fun j hj => by rw [e i j hi (List.mem_range.mp hj)], h.inj, h.ne, h.new⟩
theorem Mt.len (h : Mt A0 A r c m R) : lenD [.ref r] A = .ok (.int (m : Nat)) A := (ev_len_r (rdL_l h.rows)).trans (by simp)
theorem Mt.ix (h : Mt A0 A r c m R) {i : Nat} (hi : i < m) : ixD (.ref r) (.int (i : Nat)) A = .ok (.ref (c i)) A := ev_ix_r (rdL_l h.rows) (by rw [atI_pos (by omega), Int.toNat_natCast, List.getElem?_map, List.getElem?_range hi]; rfl)
theorem ix_rowL {A : AH} {q m j : Nat} {f : Nat → Int} (h : A[q]? = some (.lst ((List.range m).map fun j => .int (f j)))) (hj : j < m) : ixD (.ref q) (.int (j : Nat)) A = .ok (.int (f j)) A := ev_ix_r (rdL_l h) (by rw [atI_pos (by omega), Int.toNat_natCast, List.getElem?_map, List.getElem?_range hj]; rfl)
theorem Mt.ix2 (h : Mt A0 A r c m R) {i j : Nat} (hi : i < m) (hj : j < m) : ixD (.ref (c i)) (.int (j : Nat)) A = .ok (.int (R i j)) A := ix_rowL (h.row i hi) hj
theorem Mt.st (h : Mt A0 A r c m R) {i j : Nat} {v : Int} (hi : i < m) (hj : j < m) : stD (.ref (c i)) (.int (j : Nat)) (.int v) A = .ok () (A.set (c i) (.lst (((List.range m).map fun j => D.int (R i j)).set j (.int v)))) :=
  ev_st_l (j := j) (h.row i hi) (by rw [ixN_pos (by omega) (by simp; omega)]; rfl)
theorem neg_spec (h : Mt A0 A r c m R) (hm : m ≤ 100) {b : Bool} (hb : b = true ↔ ∃ i, i < m ∧ R i i < 0) : m_has_negative [.ref r] A = .ok (.bl b) A := by
  have key : Sat (m_has_negative [.ref r] A) fun d A' => d = .bl b ∧ A' = A := by
    refine sat_body rfl (sat_seq ?_)
    simp only [EV, Ab.isNon, args, List.map, List.length_cons, List.length_nil, List.length_singleton, List.replicate, Nat.reduceSub, Nat.reduceAdd, Nat.zero_add, List.cons_append, List.nil_append, List.getElem?_cons_zero, List.getElem?_cons_succ, List.set_cons_zero, List.set_cons_succ, Option.some.injEq, decide_eq_true_eq, Bool.not_eq_true', decide_eq_false_iff_not, ite_true, ite_false, if_true, if_false, reduceIte, Bool.false_eq_true, Bool.not_true, Bool.not_false, Bool.true_eq_false, decide_true, decide_false, Nat.reduceLeDiff, Nat.reduceLT, h.len]
    rw [if_pos (inRg_of (by omega) (by omega)), Int.toNat_natCast]
    refine range_inv (fun k σ B => B = A ∧ (∀ i, i < k → 0 ≤ R i i) ∧ ∃ y, σ = [some (.ref r), y]) (fun k σ B hk ⟨hB, h1, y, hσ⟩ => ?_) (fun σ B ⟨hB, h1, y, hσ⟩ => ?_) ⟨rfl, fun _ h => absurd h (Nat.not_lt_zero _), none, rfl⟩
    · subst hB; subst hσ
      simp only [EV, Ab.isNon, args, List.map, List.length_cons, List.length_nil, List.length_singleton, List.replicate, Nat.reduceSub, Nat.reduceAdd, Nat.zero_add, List.cons_append, List.nil_append, List.getElem?_cons_zero, List.getElem?_cons_succ, List.set_cons_zero, List.set_cons_succ, Option.some.injEq, decide_eq_true_eq, Bool.not_eq_true', decide_eq_false_iff_not, ite_true, ite_false, if_true, if_false, reduceIte, Bool.false_eq_true, Bool.not_true, Bool.not_false, Bool.true_eq_false, decide_true, decide_false, Nat.reduceLeDiff, Nat.reduceLT, Int.zero_add, h.ix hk, h.ix2 hk hk]
      split
      · rename_i hn
        simp only [EV, Ab.isNon, args, List.map, List.length_cons, List.length_nil, List.length_singleton, List.replicate, Nat.reduceSub, Nat.reduceAdd, Nat.zero_add, List.cons_append, List.nil_append, List.getElem?_cons_zero, List.getElem?_cons_succ, List.set_cons_zero, List.set_cons_succ, Option.some.injEq, decide_eq_true_eq, Bool.not_eq_true', decide_eq_false_iff_not, ite_true, ite_false, if_true, if_false, reduceIte, Bool.false_eq_true, Bool.not_true, Bool.not_false, Bool.true_eq_false, decide_true, decide_false, Nat.reduceLeDiff, Nat.reduceLT, turn_]
        exact ⟨by rw [hb.mpr ⟨k, hk, hn⟩], trivial⟩
      · rename_i hn
        simp only [EV, Ab.isNon, args, List.map, List.length_cons, List.length_nil, List.length_singleton, List.replicate, Nat.reduceSub, Nat.reduceAdd, Nat.zero_add, List.cons_append, List.nil_append, List.getElem?_cons_zero, List.getElem?_cons_succ, List.set_cons_zero, List.set_cons_succ, Option.some.injEq, decide_eq_true_eq, Bool.not_eq_true', decide_eq_false_iff_not, ite_true, ite_false, if_true, if_false, reduceIte, Bool.false_eq_true, Bool.not_true, Bool.not_false, Bool.true_eq_false, decide_true, decide_false, Nat.reduceLeDiff, Nat.reduceLT, turn_]
        refine ⟨trivial, fun i hi => ?_, _, rfl⟩
        by_cases e : i = k
        · subst e; omega
        · exact h1 i (by omega)
    · subst hB; subst hσ
      simp only [EV, Ab.isNon, args, List.map, List.length_cons, List.length_nil, List.length_singleton, List.replicate, Nat.reduceSub, Nat.reduceAdd, Nat.zero_add, List.cons_append, List.nil_append, List.getElem?_cons_zero, List.getElem?_cons_succ, List.set_cons_zero, List.set_cons_succ, Option.some.injEq, decide_eq_true_eq, Bool.not_eq_true', decide_eq_false_iff_not, ite_true, ite_false, if_true, if_false, reduceIte, Bool.false_eq_true, Bool.not_true, Bool.not_false, Bool.true_eq_false, decide_true, decide_false, Nat.reduceLeDiff, Nat.reduceLT]
      refine ⟨?_, trivial⟩
      cases b with
      | false => rfl
      | true =>
        obtain ⟨i, hi, hn⟩ := hb.mp rfl
        have := h1 i hi
        omega
  obtain ⟨d, A', e, rfl, rfl⟩ := key.eq
  exact e
def part (k i j : Nat) (R : Mx) : Mx := fun a b => if a < i ∨ (a = i ∧ b < j) then via k R a b else R a b
theorem short_spec (h : Mt A0 A r c m R) (hm : m ≤ 100) {k : Nat} (hk : k < m) : Sat (m_shorten [.ref r, .int (k : Nat)] A) fun d A' => Mt A0 A' r c m (via k R) := by
  refine sat_body rfl (sat_seq ?_)
  simp only [EV, Ab.isNon, args, List.map, List.length_cons, List.length_nil, List.length_singleton, List.replicate, Nat.reduceSub, Nat.reduceAdd, Nat.zero_add, List.cons_append, List.nil_append, List.getElem?_cons_zero, List.getElem?_cons_succ, List.set_cons_zero, List.set_cons_succ, Option.some.injEq, decide_eq_true_eq, Bool.not_eq_true', decide_eq_false_iff_not, ite_true, ite_false, if_true, if_false, reduceIte, Bool.false_eq_true, Bool.not_true, Bool.not_false, Bool.true_eq_false, decide_true, decide_false, Nat.reduceLeDiff, Nat.reduceLT, h.len]
  refine sat_seq ?_
  have rk := h.row k hk
  simp only [EV, Ab.isNon, args, List.map, List.length_cons, List.length_nil, List.length_singleton, List.replicate, Nat.reduceSub, Nat.reduceAdd, Nat.zero_add, List.cons_append, List.nil_append, List.getElem?_cons_zero, List.getElem?_cons_succ, List.set_cons_zero, List.set_cons_succ, Option.some.injEq, decide_eq_true_eq, Bool.not_eq_true', decide_eq_false_iff_not, ite_true, ite_false, if_true, if_false, reduceIte, Bool.false_eq_true, Bool.not_true, Bool.not_false, Bool.true_eq_false, decide_true, decide_false, Nat.reduceLeDiff, Nat.reduceLT, h.ix hk]
  rw [ev_lst_ofL (rdL_l rk)]
  have hb := at_new (A := A) (o := .lst ((List.range m).map fun j => .int (R k j)))
  have nb : ∀ i, i < m → c i ≠ A.length := fun i hi => by have := at_lt (h.row i hi); omega
  have h := h.to (Gr.app (B := [.lst ((List.range m).map fun j => .int (R k j))]))
  generalize A ++ [AO.lst ((List.range m).map fun j => .int (R k j))] = A1 at h hb ⊢
  generalize A.length = q at hb nb ⊢
  simp only [EV, Ab.isNon, args, List.map, List.length_cons, List.length_nil, List.length_singleton, List.replicate, Nat.reduceSub, Nat.reduceAdd, Nat.zero_add, List.cons_append, List.nil_append, List.getElem?_cons_zero, List.getElem?_cons_succ, List.set_cons_zero, List.set_cons_succ, Option.some.injEq, decide_eq_true_eq, Bool.not_eq_true', decide_eq_false_iff_not, ite_true, ite_false, if_true, if_false, reduceIte, Bool.false_eq_true, Bool.not_true, Bool.not_false, Bool.true_eq_false, decide_true, decide_false, Nat.reduceLeDiff, Nat.reduceLT]
  rw [if_pos (inRg_of (by omega) (by omega)), Int.toNat_natCast]
  have upto : Mt A0 A1 r c m (fun a b => if a < 0 then via k R a b else R a b) := h.ext fun i j _ _ => by simp
  refine range_inv (fun i σ B => Mt A0 B r c m (fun a b => if a < i then via k R a b else R a b) ∧ B[q]? = some (.lst ((List.range m).map fun j => .int (R k j))) ∧ ∃ x y z, σ = [some (.ref r), some (.int (k : Nat)), some (.int (m : Nat)), some (.ref q), x, y, z, none] ∨ ∃ w, σ = [some (.ref r), some (.int (k : Nat)), some (.int (m : Nat)), some (.ref q), x, y, z, w])
    (fun i σ B hi ⟨hB, hq, x, y, z, hσ⟩ => ?_) (fun σ B ⟨hB, hq, x, y, z, hσ⟩ => ?_) ⟨upto, hb, none, none, none, .inl rfl⟩
  · obtain ⟨w, hσ⟩ : ∃ w, σ = [some (.ref r), some (.int (k : Nat)), some (.int (m : Nat)), some (.ref q), x, y, z, w] := by
      rcases hσ with h | ⟨w, h⟩
      · exact ⟨none, h⟩
      · exact ⟨w, h⟩
    subst hσ
    simp only [EV, Ab.isNon, args, List.map, List.length_cons, List.length_nil, List.length_singleton, List.replicate, Nat.reduceSub, Nat.reduceAdd, Nat.zero_add, List.cons_append, List.nil_append, List.getElem?_cons_zero, List.getElem?_cons_succ, List.set_cons_zero, List.set_cons_succ, Option.some.injEq, decide_eq_true_eq, Bool.not_eq_true', decide_eq_false_iff_not, ite_true, ite_false, if_true, if_false, reduceIte, Bool.false_eq_true, Bool.not_true, Bool.not_false, Bool.true_eq_false, decide_true, decide_false, Nat.reduceLeDiff, Nat.reduceLT, Int.zero_add]
    refine sat_seq ?_
    simp only [EV, Ab.isNon, args, List.map, List.length_cons, List.length_nil, List.length_singleton, List.replicate, Nat.reduceSub, Nat.reduceAdd, Nat.zero_add, List.cons_append, List.nil_append, List.getElem?_cons_zero, List.getElem?_cons_succ, List.set_cons_zero, List.set_cons_succ, Option.some.injEq, decide_eq_true_eq, Bool.not_eq_true', decide_eq_false_iff_not, ite_true, ite_false, if_true, if_false, reduceIte, Bool.false_eq_true, Bool.not_true, Bool.not_false, Bool.true_eq_false, decide_true, decide_false, Nat.reduceLeDiff, Nat.reduceLT, hB.ix hi]
    refine sat_seq ?_
    have e1 := hB.ix2 hi hk
    rw [if_neg (Nat.lt_irrefl i)] at e1
    simp only [EV, Ab.isNon, args, List.map, List.length_cons, List.length_nil, List.length_singleton, List.replicate, Nat.reduceSub, Nat.reduceAdd, Nat.zero_add, List.cons_append, List.nil_append, List.getElem?_cons_zero, List.getElem?_cons_succ, List.set_cons_zero, List.set_cons_succ, Option.some.injEq, decide_eq_true_eq, Bool.not_eq_true', decide_eq_false_iff_not, ite_true, ite_false, if_true, if_false, reduceIte, Bool.false_eq_true, Bool.not_true, Bool.not_false, Bool.true_eq_false, decide_true, decide_false, Nat.reduceLeDiff, Nat.reduceLT, e1]
    rw [if_pos (inRg_of (by omega) (by omega)), Int.toNat_natCast]
    refine range_inv (fun j σ C => Mt A0 C r c m (part k i j R) ∧ C[q]? = some (.lst ((List.range m).map fun j => .int (R k j))) ∧ ∃ w, σ = [some (.ref r), some (.int (k : Nat)), some (.int (m : Nat)), some (.ref q), some (.int (i : Nat)), some (.ref (c i)), some (.int (R i k)), w])
      (fun j σ C hj ⟨hC, hq, w, hσ⟩ => ?_) (fun σ C ⟨hC, hq, w, hσ⟩ => ?_) ⟨hB.ext fun a b _ _ => by unfold part; simp, hq, w, rfl⟩
    · subst hσ
      have e2 := hC.ix2 hi hj
      rw [show part k i j R i j = R i j from if_neg (by omega)] at e2
      have e3 := ix_rowL hq hj
      simp only [EV, Ab.isNon, args, List.map, List.length_cons, List.length_nil, List.length_singleton, List.replicate, Nat.reduceSub, Nat.reduceAdd, Nat.zero_add, List.cons_append, List.nil_append, List.getElem?_cons_zero, List.getElem?_cons_succ, List.set_cons_zero, List.set_cons_succ, Option.some.injEq, decide_eq_true_eq, Bool.not_eq_true', decide_eq_false_iff_not, ite_true, ite_false, if_true, if_false, reduceIte, Bool.false_eq_true, Bool.not_true, Bool.not_false, Bool.true_eq_false, decide_true, decide_false, Nat.reduceLeDiff, Nat.reduceLT, Int.zero_add, e2, e3]
      split
      · rename_i lt
        rw [hC.st hi hj]
        simp only [EV, Ab.isNon, args, List.map, List.length_cons, List.length_nil, List.length_singleton, List.replicate, Nat.reduceSub, Nat.reduceAdd, Nat.zero_add, List.cons_append, List.nil_append, List.getElem?_cons_zero, List.getElem?_cons_succ, List.set_cons_zero, List.set_cons_succ, Option.some.injEq, decide_eq_true_eq, Bool.not_eq_true', decide_eq_false_iff_not, ite_true, ite_false, if_true, if_false, reduceIte, Bool.false_eq_true, Bool.not_true, Bool.not_false, Bool.true_eq_false, decide_true, decide_false, Nat.reduceLeDiff, Nat.reduceLT, turn_]
        refine ⟨hC.set hi |>.ext fun a b ha hb => ?_, ?_, _, rfl⟩
        · unfold part
          by_cases e : a = i ∧ b = j
          · obtain ⟨rfl, rfl⟩ := e
            rw [if_pos ⟨rfl, rfl⟩, if_pos (.inr ⟨rfl, Nat.lt_succ_self _⟩)]
            unfold via
            rw [if_pos lt]
          · rw [if_neg e]
            by_cases e2 : a < i ∨ (a = i ∧ b < j)
            · rw [if_pos e2, if_pos (by omega)]
            · rw [if_neg e2, if_neg (by omega)]
        · rw [List.getElem?_set_ne (nb i hi)]; exact hq
      · rename_i lt
        simp only [EV, Ab.isNon, args, List.map, List.length_cons, List.length_nil, List.length_singleton, List.replicate, Nat.reduceSub, Nat.reduceAdd, Nat.zero_add, List.cons_append, List.nil_append, List.getElem?_cons_zero, List.getElem?_cons_succ, List.set_cons_zero, List.set_cons_succ, Option.some.injEq, decide_eq_true_eq, Bool.not_eq_true', decide_eq_false_iff_not, ite_true, ite_false, if_true, if_false, reduceIte, Bool.false_eq_true, Bool.not_true, Bool.not_false, Bool.true_eq_false, decide_true, decide_false, Nat.reduceLeDiff, Nat.reduceLT, turn_]
        refine ⟨hC.ext fun a b ha hb => ?_, hq, _, rfl⟩
        unfold part
        by_cases e : a = i ∧ b = j
        · obtain ⟨rfl, rfl⟩ := e
          rw [if_neg (by omega), if_pos (.inr ⟨rfl, Nat.lt_succ_self _⟩)]
          unfold via
          rw [if_neg lt]
        · by_cases e2 : a < i ∨ (a = i ∧ b < j)
          · rw [if_pos e2, if_pos (by omega)]
          · rw [if_neg e2, if_neg (by omega)]
    · subst hσ
      simp only [EV, Ab.isNon, args, List.map, List.length_cons, List.length_nil, List.length_singleton, List.replicate, Nat.reduceSub, Nat.reduceAdd, Nat.zero_add, List.cons_append, List.nil_append, List.getElem?_cons_zero, List.getElem?_cons_succ, List.set_cons_zero, List.set_cons_succ, Option.some.injEq, decide_eq_true_eq, Bool.not_eq_true', decide_eq_false_iff_not, ite_true, ite_false, if_true, if_false, reduceIte, Bool.false_eq_true, Bool.not_true, Bool.not_false, Bool.true_eq_false, decide_true, decide_false, Nat.reduceLeDiff, Nat.reduceLT, turn_]
      refine ⟨hC.ext fun a b ha hb => ?_, hq, _, _, _, .inr ⟨_, rfl⟩⟩
      unfold part
      by_cases e : a < i + 1
      · rw [if_pos e, if_pos (by omega)]
      · rw [if_neg e, if_neg (by omega)]
  · have f : Mt A0 B r c m (via k R) := hB.ext fun a b ha hb => if_pos ha
    rcases hσ with h | ⟨w, h⟩
    · subst h; exact f
    · subst h; exact f
end
/-! ### the whole of close -/
def outD (m : Nat) : Option Mx → D
  | none => .non
  | some R => matD m R
theorem mat_congr {m : Nat} {R S : Mx} (e : ∀ i j, i < m → j < m → R i j = S i j) : matD m R = matD m S := by
  unfold matD rowD
  congr 1
  refine List.map_congr_left fun i hi => ?_
  congr 1
  exact List.map_congr_left fun j hj => by rw [e i j (List.mem_range.mp hi) (List.mem_range.mp hj)]
theorem closes_same {m : Nat} {M : Mx} {o o' : Option Mx} (h0 : 0 < m) (h : Closes m M o) (h' : Closes m M o') : outD m o = outD m o' := by
  cases o with
  | none =>
    cases o' with
    | none => rfl
    | some R => exact (ClOf.no h' h0 h).elim
  | some R =>
    cases o' with
    | none => exact (ClOf.no h h0 h').elim
    | some S => exact mat_congr fun i j hi hj => ClOf.same h h' hi hj
theorem pl_out {m : Nat} {o : Option Mx} (h : m ≤ 1000) : Pl 19 (outD m o) := by
  cases o with
  | none => trivial
  | some R => exact pl_mat h
theorem close_spec {A : AH} {m : Nat} {M : Mx} (hm : m ≤ 100) (h0 : 0 < m) : Sat (m_close [matD m M] A) fun d A' => Gr A A' ∧ ∃ o, d = outD m o ∧ Closes m M o := by
  refine sat_body rfl (sat_seq ?_)
  simp only [EV, Ab.isNon, args, List.map, List.length_cons, List.length_nil, List.length_singleton, List.replicate, Nat.reduceSub, Nat.reduceAdd, Nat.zero_add, List.cons_append, List.nil_append, List.getElem?_cons_zero, List.getElem?_cons_succ, List.set_cons_zero, List.set_cons_succ, Option.some.injEq, decide_eq_true_eq, Bool.not_eq_true', decide_eq_false_iff_not, ite_true, ite_false, if_true, if_false, reduceIte, Bool.false_eq_true, Bool.not_true, Bool.not_false, Bool.true_eq_false, decide_true, decide_false, Nat.reduceLeDiff, Nat.reduceLT, wipeA]
  have its : iSeq (matD m M) A = .ok ⟨(List.range m).map fun i => rowD m (M i), yes⟩ A := rfl
  rw [its, sat_ok]
  refine comp_cnt (fun k acc B => Gr A B ∧ acc = (List.range k).map (fun i => D.ref (A.length + 1 + i)) ∧ B[A.length]? = some (.lst acc) ∧ B.length = A.length + 1 + k ∧ ∀ i, i < k → B[A.length + 1 + i]? = some (.lst ((List.range m).map fun j => .int (M i j))))
    (fun k acc B hk ⟨G, ha, hB, lB, hR⟩ => ⟨trivial, ?_⟩) (fun acc B ⟨G, ha, hB, lB, hR⟩ => ⟨trivial, ?_⟩) (acc := []) ⟨.app, rfl, at_new, by simp, fun _ h => absurd h (Nat.not_lt_zero _)⟩
  · have lst : ∀ A, lstOf [rowD m (M k)] A = .ok (.ref A.length) (A ++ [.lst ((List.range m).map fun j => .int (M k j))]) := fun A => ev_lst_ofT
    simp only [EV, Ab.isNon, args, List.map, List.length_cons, List.length_nil, List.length_singleton, List.replicate, Nat.reduceSub, Nat.reduceAdd, Nat.zero_add, List.cons_append, List.nil_append, List.getElem?_cons_zero, List.getElem?_cons_succ, List.set_cons_zero, List.set_cons_succ, Option.some.injEq, decide_eq_true_eq, Bool.not_eq_true', decide_eq_false_iff_not, ite_true, ite_false, if_true, if_false, reduceIte, Bool.false_eq_true, Bool.not_true, Bool.not_false, Bool.true_eq_false, decide_true, decide_false, Nat.reduceLeDiff, Nat.reduceLT, lst]
    have hB2 := (Gr.app (B := [.lst ((List.range m).map fun j => .int (M k j))])).keep _ _ hB
    refine ⟨hB2, by rw [ha]; simp; omega, (G.trans .app).set (Nat.le_refl _), ?_, at_set (at_lt hB2), by simp [lB]; omega, fun i hi => ?_⟩
    · rw [ha, List.range_succ (n := k), List.map_append, lB]; rfl
    · rw [List.getElem?_set_ne (by omega)]
      by_cases e : i = k
      · subst e
        rw [← lB]; exact at_new
      · exact Gr.app.keep _ _ (hR i (by omega))
  have T : Mt A B A.length (fun i => A.length + 1 + i) m M := ⟨G, by rw [hB, ha], hR, fun i j _ _ e => by have e : A.length + 1 + i = A.length + 1 + j := e; omega, fun i _ => by show A.length + 1 + i ≠ A.length; omega, fun i _ => by show A.length ≤ A.length + 1 + i; omega⟩
  clear ha hB lB hR G its
  generalize A.length = r at T ⊢
  generalize (fun i => r + 1 + i) = c at T
  refine sat_seq ?_
  simp only [EV, Ab.isNon, args, List.map, List.length_cons, List.length_nil, List.length_singleton, List.replicate, Nat.reduceSub, Nat.reduceAdd, Nat.zero_add, List.cons_append, List.nil_append, List.getElem?_cons_zero, List.getElem?_cons_succ, List.set_cons_zero, List.set_cons_succ, Option.some.injEq, decide_eq_true_eq, Bool.not_eq_true', decide_eq_false_iff_not, ite_true, ite_false, if_true, if_false, reduceIte, Bool.false_eq_true, Bool.not_true, Bool.not_false, Bool.true_eq_false, decide_true, decide_false, Nat.reduceLeDiff, Nat.reduceLT, T.len]
  refine sat_seq ?_
  have n1 := neg_spec T hm (b := decide (∃ i, i < m ∧ M i i < 0)) (by simp)
  simp only [EV, Ab.isNon, args, List.map, List.length_cons, List.length_nil, List.length_singleton, List.replicate, Nat.reduceSub, Nat.reduceAdd, Nat.zero_add, List.cons_append, List.nil_append, List.getElem?_cons_zero, List.getElem?_cons_succ, List.set_cons_zero, List.set_cons_succ, Option.some.injEq, decide_eq_true_eq, Bool.not_eq_true', decide_eq_false_iff_not, ite_true, ite_false, if_true, if_false, reduceIte, Bool.false_eq_true, Bool.not_true, Bool.not_false, Bool.true_eq_false, decide_true, decide_false, Nat.reduceLeDiff, Nat.reduceLT, n1]
  split
  · rename_i hn
    exact ⟨T.gr, none, rfl, .inl hn⟩
  rename_i hn
  have pos : ∀ i, i < m → 0 ≤ M i i := fun i hi => by
    by_cases e : 0 ≤ M i i
    · exact e
    · exact (hn ⟨i, hi, by omega⟩).elim
  refine sat_seq ?_
  simp only [EV, Ab.isNon, args, List.map, List.length_cons, List.length_nil, List.length_singleton, List.replicate, Nat.reduceSub, Nat.reduceAdd, Nat.zero_add, List.cons_append, List.nil_append, List.getElem?_cons_zero, List.getElem?_cons_succ, List.set_cons_zero, List.set_cons_succ, Option.some.injEq, decide_eq_true_eq, Bool.not_eq_true', decide_eq_false_iff_not, ite_true, ite_false, if_true, if_false, reduceIte, Bool.false_eq_true, Bool.not_true, Bool.not_false, Bool.true_eq_false, decide_true, decide_false, Nat.reduceLeDiff, Nat.reduceLT]
  rw [if_pos (inRg_of (by omega) (by omega)), Int.toNat_natCast]
  refine range_inv (fun k σ C => Mt A C r c m (fun i j => if i = j ∧ i < k then 0 else M i j) ∧ ∃ x y, σ = [some (matD m M), some (.ref r), x, some (.int (m : Nat)), y, none])
    (fun k σ C hk ⟨hC, x, y, hσ⟩ => ?_) (fun σ C ⟨hC, x, y, hσ⟩ => ?_) ⟨T.ext fun i j _ _ => by simp, _, none, rfl⟩
  · subst hσ
    simp only [EV, Ab.isNon, args, List.map, List.length_cons, List.length_nil, List.length_singleton, List.replicate, Nat.reduceSub, Nat.reduceAdd, Nat.zero_add, List.cons_append, List.nil_append, List.getElem?_cons_zero, List.getElem?_cons_succ, List.set_cons_zero, List.set_cons_succ, Option.some.injEq, decide_eq_true_eq, Bool.not_eq_true', decide_eq_false_iff_not, ite_true, ite_false, if_true, if_false, reduceIte, Bool.false_eq_true, Bool.not_true, Bool.not_false, Bool.true_eq_false, decide_true, decide_false, Nat.reduceLeDiff, Nat.reduceLT, Int.zero_add, hC.ix hk]
    rw [hC.st hk hk]
    simp only [EV, Ab.isNon, args, List.map, List.length_cons, List.length_nil, List.length_singleton, List.replicate, Nat.reduceSub, Nat.reduceAdd, Nat.zero_add, List.cons_append, List.nil_append, List.getElem?_cons_zero, List.getElem?_cons_succ, List.set_cons_zero, List.set_cons_succ, Option.some.injEq, decide_eq_true_eq, Bool.not_eq_true', decide_eq_false_iff_not, ite_true, ite_false, if_true, if_false, reduceIte, Bool.false_eq_true, Bool.not_true, Bool.not_false, Bool.true_eq_false, decide_true, decide_false, Nat.reduceLeDiff, Nat.reduceLT, turn_]
    refine ⟨hC.set hk |>.ext fun a b ha hb => ?_, _, _, rfl⟩
    by_cases e : a = k ∧ b = k
    · obtain ⟨rfl, rfl⟩ := e
      rw [if_pos ⟨rfl, rfl⟩, if_pos ⟨rfl, Nat.lt_succ_self _⟩]
    · rw [if_neg e]
      by_cases e2 : a = b ∧ a < k
      · rw [if_pos e2, if_pos ⟨e2.1, by omega⟩]
      · rw [if_neg e2, if_neg (by omega)]
  subst hσ
  have hC : Mt A C r c m (fun i j => if i = j then 0 else M i j) := hC.ext fun a b ha hb => by
    by_cases e : a = b
    · rw [if_pos ⟨e, ha⟩, if_pos e]
    · rw [if_neg e, if_neg (fun z => e z.1)]
  simp only [EV, Ab.isNon, args, List.map, List.length_cons, List.length_nil, List.length_singleton, List.replicate, Nat.reduceSub, Nat.reduceAdd, Nat.zero_add, List.cons_append, List.nil_append, List.getElem?_cons_zero, List.getElem?_cons_succ, List.set_cons_zero, List.set_cons_succ, Option.some.injEq, decide_eq_true_eq, Bool.not_eq_true', decide_eq_false_iff_not, ite_true, ite_false, if_true, if_false, reduceIte, Bool.false_eq_true, Bool.not_true, Bool.not_false, Bool.true_eq_false, decide_true, decide_false, Nat.reduceLeDiff, Nat.reduceLT]
  refine sat_seq ?_
  simp only [EV, Ab.isNon, args, List.map, List.length_cons, List.length_nil, List.length_singleton, List.replicate, Nat.reduceSub, Nat.reduceAdd, Nat.zero_add, List.cons_append, List.nil_append, List.getElem?_cons_zero, List.getElem?_cons_succ, List.set_cons_zero, List.set_cons_succ, Option.some.injEq, decide_eq_true_eq, Bool.not_eq_true', decide_eq_false_iff_not, ite_true, ite_false, if_true, if_false, reduceIte, Bool.false_eq_true, Bool.not_true, Bool.not_false, Bool.true_eq_false, decide_true, decide_false, Nat.reduceLeDiff, Nat.reduceLT]
  rw [if_pos (inRg_of (by omega) (by omega)), Int.toNat_natCast]
  refine range_inv (fun k σ E => (∃ R, Mt A E r c m R ∧ Rnd m M k R) ∧ ∃ z, σ = [some (matD m M), some (.ref r), x, some (.int (m : Nat)), y, z])
    (fun k σ E hk ⟨⟨R, hE, hR⟩, z, hσ⟩ => ?_) (fun σ E ⟨⟨R, hE, hR⟩, z, hσ⟩ => ?_) ⟨⟨_, hC, Rnd.first pos⟩, none, rfl⟩
  · subst hσ
    simp only [EV, Ab.isNon, args, List.map, List.length_cons, List.length_nil, List.length_singleton, List.replicate, Nat.reduceSub, Nat.reduceAdd, Nat.zero_add, List.cons_append, List.nil_append, List.getElem?_cons_zero, List.getElem?_cons_succ, List.set_cons_zero, List.set_cons_succ, Option.some.injEq, decide_eq_true_eq, Bool.not_eq_true', decide_eq_false_iff_not, ite_true, ite_false, if_true, if_false, reduceIte, Bool.false_eq_true, Bool.not_true, Bool.not_false, Bool.true_eq_false, decide_true, decide_false, Nat.reduceLeDiff, Nat.reduceLT, Int.zero_add]
    refine sat_seq ?_
    simp only [EV, Ab.isNon, args, List.map, List.length_cons, List.length_nil, List.length_singleton, List.replicate, Nat.reduceSub, Nat.reduceAdd, Nat.zero_add, List.cons_append, List.nil_append, List.getElem?_cons_zero, List.getElem?_cons_succ, List.set_cons_zero, List.set_cons_succ, Option.some.injEq, decide_eq_true_eq, Bool.not_eq_true', decide_eq_false_iff_not, ite_true, ite_false, if_true, if_false, reduceIte, Bool.false_eq_true, Bool.not_true, Bool.not_false, Bool.true_eq_false, decide_true, decide_false, Nat.reduceLeDiff, Nat.reduceLT]
    refine Sat.imp (short_spec hE hm hk) fun d E2 hE2 => ?_
    have n2 := neg_spec hE2 hm (b := decide (∃ i, i < m ∧ via k R i i < 0)) (by simp)
    simp only [EV, Ab.isNon, args, List.map, List.length_cons, List.length_nil, List.length_singleton, List.replicate, Nat.reduceSub, Nat.reduceAdd, Nat.zero_add, List.cons_append, List.nil_append, List.getElem?_cons_zero, List.getElem?_cons_succ, List.set_cons_zero, List.set_cons_succ, Option.some.injEq, decide_eq_true_eq, Bool.not_eq_true', decide_eq_false_iff_not, ite_true, ite_false, if_true, if_false, reduceIte, Bool.false_eq_true, Bool.not_true, Bool.not_false, Bool.true_eq_false, decide_true, decide_false, Nat.reduceLeDiff, Nat.reduceLT, n2]
    split
    · rename_i hn
      obtain ⟨i, hi, hn⟩ := hn
      simp only [EV, Ab.isNon, args, List.map, List.length_cons, List.length_nil, List.length_singleton, List.replicate, Nat.reduceSub, Nat.reduceAdd, Nat.zero_add, List.cons_append, List.nil_append, List.getElem?_cons_zero, List.getElem?_cons_succ, List.set_cons_zero, List.set_cons_succ, Option.some.injEq, decide_eq_true_eq, Bool.not_eq_true', decide_eq_false_iff_not, ite_true, ite_false, if_true, if_false, reduceIte, Bool.false_eq_true, Bool.not_true, Bool.not_false, Bool.true_eq_false, decide_true, decide_false, Nat.reduceLeDiff, Nat.reduceLT, turn_]
      exact ⟨hE2.gr, none, rfl, .inr (hR.neg hk hi hn)⟩
    · rename_i hn
      simp only [EV, Ab.isNon, args, List.map, List.length_cons, List.length_nil, List.length_singleton, List.replicate, Nat.reduceSub, Nat.reduceAdd, Nat.zero_add, List.cons_append, List.nil_append, List.getElem?_cons_zero, List.getElem?_cons_succ, List.set_cons_zero, List.set_cons_succ, Option.some.injEq, decide_eq_true_eq, Bool.not_eq_true', decide_eq_false_iff_not, ite_true, ite_false, if_true, if_false, reduceIte, Bool.false_eq_true, Bool.not_true, Bool.not_false, Bool.true_eq_false, decide_true, decide_false, Nat.reduceLeDiff, Nat.reduceLT, turn_]
      refine ⟨⟨_, hE2, hR.next hk fun i hi => ?_⟩, _, rfl⟩
      by_cases e : 0 ≤ via k R i i
      · exact e
      · exact (hn ⟨i, hi, by omega⟩).elim
  · subst hσ
    simp only [EV, Ab.isNon, args, List.map, List.length_cons, List.length_nil, List.length_singleton, List.replicate, Nat.reduceSub, Nat.reduceAdd, Nat.zero_add, List.cons_append, List.nil_append, List.getElem?_cons_zero, List.getElem?_cons_succ, List.set_cons_zero, List.set_cons_succ, Option.some.injEq, decide_eq_true_eq, Bool.not_eq_true', decide_eq_false_iff_not, ite_true, ite_false, if_true, if_false, reduceIte, Bool.false_eq_true, Bool.not_true, Bool.not_false, Bool.true_eq_false, decide_true, decide_false, Nat.reduceLeDiff, Nat.reduceLT]
    refine Sat.imp (frozen_spec c hE.rows hE.row (by omega)) fun d E2 ⟨e, G2⟩ => ?_
    exact ⟨hE.gr.trans G2, some R, e, hR.last⟩
end Law

set_option maxHeartbeats 8000000
namespace Law
open PySem PySem.Spec PyProof.Rows L2 Ab
open scoped Classical
/-! ### all points of a table -/
def Fp (M : Mx) (c : Nat) (p : List Int) : Prop := p.length = c ∧ ∀ i j, i ≤ c → j ≤ c → i ≠ j → at0 p i - at0 p j ≤ M i j
theorem at0_old {p : List Int} {v : Int} {i : Nat} (h : i ≤ p.length) : at0 (p ++ [v]) i = at0 p i := by
  unfold at0
  rw [List.getD_eq_getElem?_getD, List.getD_eq_getElem?_getD, ← List.cons_append, List.getElem?_append_left (by simp; omega)]
theorem at0_new {p : List Int} {v : Int} : at0 (p ++ [v]) (p.length + 1) = v := by
  unfold at0
  rw [List.getD_eq_getElem?_getD, ← List.cons_append, List.getElem?_append_right (by simp)]
  simp
/-- what v adds at column c + 1 -/
def Add (M : Mx) (p : List Int) (v : Int) : Prop := ∀ i, i ≤ p.length → v - at0 p i ≤ M (p.length + 1) i ∧ at0 p i - v ≤ M i (p.length + 1)
theorem fp_snoc {M : Mx} {c : Nat} {p : List Int} {v : Int} : Fp M (c + 1) (p ++ [v]) ↔ Fp M c p ∧ Add M p v := by
  constructor
  · rintro ⟨h1, h2⟩
    rw [List.length_append, List.length_singleton] at h1
    have h1 : p.length = c := by omega
    subst h1
    refine ⟨⟨rfl, fun i j hi hj e => ?_⟩, fun i hi => ?_⟩
    · have := h2 i j (by omega) (by omega) e
      rwa [at0_old hi, at0_old hj] at this
    · have a := h2 (p.length + 1) i (by omega) (by omega) (by omega)
      have b := h2 i (p.length + 1) (by omega) (by omega) (by omega)
      rw [at0_new, at0_old hi] at a b
      exact ⟨a, b⟩
  · rintro ⟨⟨h1, h2⟩, h3⟩
    subst h1
    refine ⟨by simp, fun i j hi hj e => ?_⟩
    by_cases ei : i = p.length + 1
    · subst ei
      rw [at0_new, at0_old (by omega)]
      exact (h3 j (by omega)).1
    · by_cases ej : j = p.length + 1
      · subst ej
        rw [at0_new, at0_old (by omega)]
        exact (h3 i (by omega)).2
      · rw [at0_old (by omega), at0_old (by omega)]
        exact h2 i j (by omega) (by omega) e
theorem fits_spec {A : AH} {m c : Nat} {M : Mx} {p : List Int} {v : Int} {b : Bool} (hl : p.length = c) (hc : c + 1 < m) (hm : m ≤ 100) (h1 : v ≤ M (c + 1) 0) (h2 : -v ≤ M 0 (c + 1)) (hb : b = true ↔ Add M p v) :
    m__law_fits [matD m M, ptD p, .int ((c + 1 : Nat) : Int), .int v] A = .ok (.bl b) A := by
  have key : Sat (m__law_fits [matD m M, ptD p, .int ((c + 1 : Nat) : Int), .int v] A) fun d A' => d = .bl b ∧ A' = A := by
    refine sat_body rfl (sat_seq ?_)
    have ln : ∀ A, lenD [ptD p] A = .ok (.int (c : Nat)) A := fun A => by
      show lenD [.tup _] A = _
      rw [ev_len_t]; simp [hl]
    simp only [EV, Ab.isNon, args, List.map, List.length_cons, List.length_nil, List.length_singleton, List.replicate, Nat.reduceSub, Nat.reduceAdd, Nat.zero_add, List.cons_append, List.nil_append, List.getElem?_cons_zero, List.getElem?_cons_succ, List.set_cons_zero, List.set_cons_succ, Option.some.injEq, decide_eq_true_eq, Bool.not_eq_true', decide_eq_false_iff_not, ite_true, ite_false, if_true, if_false, reduceIte, Bool.false_eq_true, Bool.not_true, Bool.not_false, Bool.true_eq_false, decide_true, decide_false, Nat.reduceLeDiff, Nat.reduceLT, ln]
    rw [if_pos (inRg_of (by omega) (by omega)), Int.toNat_natCast]
    refine range_inv (fun k σ B => B = A ∧ (∀ i, i ≤ k → v - at0 p i ≤ M (c + 1) i ∧ at0 p i - v ≤ M i (c + 1)) ∧ ∃ y, σ = [some (matD m M), some (ptD p), some (.int ((c + 1 : Nat) : Int)), some (.int v), y])
      (fun k σ B hk ⟨hB, q, y, hσ⟩ => ?_) (fun σ B ⟨hB, q, y, hσ⟩ => ?_) ⟨rfl, fun i hi => by cases (Nat.le_zero.mp hi); rw [at0_z]; omega, none, rfl⟩
    · subst hB; subst hσ
      simp only [EV, Ab.isNon, args, List.map, List.length_cons, List.length_nil, List.length_singleton, List.replicate, Nat.reduceSub, Nat.reduceAdd, Nat.zero_add, List.cons_append, List.nil_append, List.getElem?_cons_zero, List.getElem?_cons_succ, List.set_cons_zero, List.set_cons_succ, Option.some.injEq, decide_eq_true_eq, Bool.not_eq_true', decide_eq_false_iff_not, ite_true, ite_false, if_true, if_false, reduceIte, Bool.false_eq_true, Bool.not_true, Bool.not_false, Bool.true_eq_false, decide_true, decide_false, Nat.reduceLeDiff, Nat.reduceLT, Int.zero_add]
      rw [ix_pt (by omega), sat_ok]
      simp only [EV, Ab.isNon, args, List.map, List.length_cons, List.length_nil, List.length_singleton, List.replicate, Nat.reduceSub, Nat.reduceAdd, Nat.zero_add, List.cons_append, List.nil_append, List.getElem?_cons_zero, List.getElem?_cons_succ, List.set_cons_zero, List.set_cons_succ, Option.some.injEq, decide_eq_true_eq, Bool.not_eq_true', decide_eq_false_iff_not, ite_true, ite_false, if_true, if_false, reduceIte, Bool.false_eq_true, Bool.not_true, Bool.not_false, Bool.true_eq_false, decide_true, decide_false, Nat.reduceLeDiff, Nat.reduceLT]
      rw [ix_mat hc, sat_ok]
      rw [show ((k : Int) + 1) = ((k + 1 : Nat) : Int) by omega, ix_row (by omega), sat_ok]
      simp only [EV, Ab.isNon, args, List.map, List.length_cons, List.length_nil, List.length_singleton, List.replicate, Nat.reduceSub, Nat.reduceAdd, Nat.zero_add, List.cons_append, List.nil_append, List.getElem?_cons_zero, List.getElem?_cons_succ, List.set_cons_zero, List.set_cons_succ, Option.some.injEq, decide_eq_true_eq, Bool.not_eq_true', decide_eq_false_iff_not, ite_true, ite_false, if_true, if_false, reduceIte, Bool.false_eq_true, Bool.not_true, Bool.not_false, Bool.true_eq_false, decide_true, decide_false, Nat.reduceLeDiff, Nat.reduceLT]
      split
      · rename_i lt
        simp only [EV, Ab.isNon, args, List.map, List.length_cons, List.length_nil, List.length_singleton, List.replicate, Nat.reduceSub, Nat.reduceAdd, Nat.zero_add, List.cons_append, List.nil_append, List.getElem?_cons_zero, List.getElem?_cons_succ, List.set_cons_zero, List.set_cons_succ, Option.some.injEq, decide_eq_true_eq, Bool.not_eq_true', decide_eq_false_iff_not, ite_true, ite_false, if_true, if_false, reduceIte, Bool.false_eq_true, Bool.not_true, Bool.not_false, Bool.true_eq_false, decide_true, decide_false, Nat.reduceLeDiff, Nat.reduceLT, turn_]
        refine ⟨?_, trivial⟩
        cases b with
        | false => rfl
        | true => have := (hb.mp rfl (k + 1) (by omega)).1; rw [hl] at this; omega
      rename_i lt
      rw [ix_pt (by omega), sat_ok]
      simp only [EV, Ab.isNon, args, List.map, List.length_cons, List.length_nil, List.length_singleton, List.replicate, Nat.reduceSub, Nat.reduceAdd, Nat.zero_add, List.cons_append, List.nil_append, List.getElem?_cons_zero, List.getElem?_cons_succ, List.set_cons_zero, List.set_cons_succ, Option.some.injEq, decide_eq_true_eq, Bool.not_eq_true', decide_eq_false_iff_not, ite_true, ite_false, if_true, if_false, reduceIte, Bool.false_eq_true, Bool.not_true, Bool.not_false, Bool.true_eq_false, decide_true, decide_false, Nat.reduceLeDiff, Nat.reduceLT]
      rw [ix_mat (by omega), sat_ok, ix_row hc, sat_ok]
      simp only [EV, Ab.isNon, args, List.map, List.length_cons, List.length_nil, List.length_singleton, List.replicate, Nat.reduceSub, Nat.reduceAdd, Nat.zero_add, List.cons_append, List.nil_append, List.getElem?_cons_zero, List.getElem?_cons_succ, List.set_cons_zero, List.set_cons_succ, Option.some.injEq, decide_eq_true_eq, Bool.not_eq_true', decide_eq_false_iff_not, ite_true, ite_false, if_true, if_false, reduceIte, Bool.false_eq_true, Bool.not_true, Bool.not_false, Bool.true_eq_false, decide_true, decide_false, Nat.reduceLeDiff, Nat.reduceLT]
      split
      · rename_i lt
        simp only [EV, Ab.isNon, args, List.map, List.length_cons, List.length_nil, List.length_singleton, List.replicate, Nat.reduceSub, Nat.reduceAdd, Nat.zero_add, List.cons_append, List.nil_append, List.getElem?_cons_zero, List.getElem?_cons_succ, List.set_cons_zero, List.set_cons_succ, Option.some.injEq, decide_eq_true_eq, Bool.not_eq_true', decide_eq_false_iff_not, ite_true, ite_false, if_true, if_false, reduceIte, Bool.false_eq_true, Bool.not_true, Bool.not_false, Bool.true_eq_false, decide_true, decide_false, Nat.reduceLeDiff, Nat.reduceLT, turn_]
        refine ⟨?_, trivial⟩
        cases b with
        | false => rfl
        | true => have := (hb.mp rfl (k + 1) (by omega)).2; rw [hl] at this; omega
      · rename_i lt2
        simp only [EV, Ab.isNon, args, List.map, List.length_cons, List.length_nil, List.length_singleton, List.replicate, Nat.reduceSub, Nat.reduceAdd, Nat.zero_add, List.cons_append, List.nil_append, List.getElem?_cons_zero, List.getElem?_cons_succ, List.set_cons_zero, List.set_cons_succ, Option.some.injEq, decide_eq_true_eq, Bool.not_eq_true', decide_eq_false_iff_not, ite_true, ite_false, if_true, if_false, reduceIte, Bool.false_eq_true, Bool.not_true, Bool.not_false, Bool.true_eq_false, decide_true, decide_false, Nat.reduceLeDiff, Nat.reduceLT, turn_]
        refine ⟨trivial, fun i hi => ?_, _, rfl⟩
        by_cases e : i = k + 1
        · subst e; omega
        · exact q i (by omega)
    · subst hB; subst hσ
      simp only [EV, Ab.isNon, args, List.map, List.length_cons, List.length_nil, List.length_singleton, List.replicate, Nat.reduceSub, Nat.reduceAdd, Nat.zero_add, List.cons_append, List.nil_append, List.getElem?_cons_zero, List.getElem?_cons_succ, List.set_cons_zero, List.set_cons_succ, Option.some.injEq, decide_eq_true_eq, Bool.not_eq_true', decide_eq_false_iff_not, ite_true, ite_false, if_true, if_false, reduceIte, Bool.false_eq_true, Bool.not_true, Bool.not_false, Bool.true_eq_false, decide_true, decide_false, Nat.reduceLeDiff, Nat.reduceLT]
      refine ⟨?_, trivial⟩
      rw [hb.mpr fun i hi => by have := q i (by omega); rw [hl]; exact this]
  obtain ⟨d, A', e, rfl, rfl⟩ := key.eq
  exact e
theorem hull_closes {m : Nat} {M : Mx} {ps : List (List Int)} (h0 : 0 < m) (pos : ∀ i, i < m → 0 ≤ M i i) (h : ∀ p, p ∈ ps ↔ Fp M (m - 1) p) : Closes m M (if ps = [] then none else some (mx ps)) := by
  have norm : ∀ p : Nat → Int, Feas m M p → ∃ q ∈ ps, ∀ i, i < m → at0 q i = p i - p 0 := fun p hp => by
    have a : ∀ i, i < m → at0 ((List.range (m - 1)).map fun k => p (k + 1) - p 0) i = p i - p 0 := fun i hi => by
      cases i with
      | zero => rw [at0_z]; omega
      | succ i => rw [at0_s, List.getD_eq_getElem?_getD, List.getElem?_map, List.getElem?_range (by omega)]; rfl
    refine ⟨_, (h _).mpr ⟨by simp, fun i j hi hj e => ?_⟩, a⟩
    rw [a i (by omega), a j (by omega)]
    have := hp i j (by omega) (by omega) e
    omega
  split
  · rename_i e
    refine .inr fun ⟨p, hp⟩ => ?_
    obtain ⟨q, hq, _⟩ := norm p hp
    rw [e] at hq; cases hq
  · rename_i e
    have mem : ∀ i j, ∃ p ∈ ps, at0 p i - at0 p j = mx ps i j := fun i j => List.mem_map.mp (maxI_mem (ns := ps.map fun p => at0 p i - at0 p j) (by simpa using e))
    have ge : ∀ p ∈ ps, ∀ i j, at0 p i - at0 p j ≤ mx ps i j := fun p hp i j => maxI_le (List.mem_map.mpr ⟨p, hp, rfl⟩)
    refine ⟨pos, ⟨fun i l j _ _ _ => ?_, fun i _ => ?_⟩, fun i j hi hj ne => ?_, fun p hp i j hi hj => ?_⟩
    · obtain ⟨p, hp, e1⟩ := mem i j
      have h1 := ge p hp i l
      have h2 := ge p hp l j
      omega
    · obtain ⟨p, hp, e1⟩ := mem i i
      omega
    · obtain ⟨p, hp, e1⟩ := mem i j
      have := ((h p).mp hp).2 i j (by omega) (by omega) ne
      omega
    · obtain ⟨q, hq, a⟩ := norm p hp
      have := ge q hq i j
      rw [a i hi, a j hj] at this
      omega
end Law

namespace Law
open PySem PySem.Spec PyProof.Rows L2 Ab
open scoped Classical
/-! ### boxes: none, or a closed table -/
theorem mx_ge {ps : List (List Int)} {p : List Int} {i j : Nat} (h : p ∈ ps) : at0 p i - at0 p j ≤ mx ps i j := maxI_le (List.mem_map.mpr ⟨p, h, rfl⟩)
theorem mx_mem {ps : List (List Int)} {i j : Nat} (h : ps ≠ []) : ∃ p ∈ ps, at0 p i - at0 p j = mx ps i j := List.mem_map.mp (maxI_mem (ns := ps.map fun p => at0 p i - at0 p j) (by simpa using h))
theorem mx_cl {m : Nat} {ps : List (List Int)} (h : ps ≠ []) : Cl m (mx ps) := by
  refine ⟨fun i l j _ _ _ => ?_, fun i _ => ?_⟩
  · obtain ⟨p, hp, e⟩ := mx_mem (i := i) (j := j) h
    have h1 := mx_ge (i := i) (j := l) hp
    have h2 := mx_ge (i := l) (j := j) hp
    omega
  · obtain ⟨p, hp, e⟩ := mx_mem (i := i) (j := i) h
    omega
theorem hull_out {ps : List (List Int)} {n : Nat} : hullD ps n = outD (n + 1) (if ps = [] then none else some (mx ps)) := by
  unfold hullD
  split <;> rfl
theorem same_out {A : AH} {m : Nat} {o : Option Mx} (h : m ≤ 30) : m__law_same 20 [outD m o, outD m o] A = .ok (.bl true) A := same_refl 19 _ A (pl_out (by omega))
/-- all differences bounded -/
def Bd (b : Int) (ps : List (List Int)) : Prop := ∀ p ∈ ps, ∀ k, -b ≤ at0 p k ∧ at0 p k ≤ b
theorem at0_bd {b : Int} {p : List Int} (b0 : 0 ≤ b) (h : ∀ v ∈ p, -b ≤ v ∧ v ≤ b) (k : Nat) : -b ≤ at0 p k ∧ at0 p k ≤ b := by
  unfold at0
  rw [List.getD_eq_getElem?_getD]
  cases e : ((0 : Int) :: p)[k]? with
  | none => show -b ≤ (0 : Int) ∧ (0 : Int) ≤ b; omega
  | some v =>
    show -b ≤ v ∧ v ≤ b
    rcases List.mem_cons.mp (List.mem_of_getElem? e) with h' | h'
    · omega
    · exact h v h'
theorem mx_bd {b : Int} {ps : List (List Int)} (h : ps ≠ []) (hb : Bd b ps) (i j : Nat) : -(2 * b) ≤ mx ps i j ∧ mx ps i j ≤ 2 * b := by
  obtain ⟨p, hp, e⟩ := mx_mem (i := i) (j := j) h
  have h1 := hb p hp i
  have h2 := hb p hp j
  omega
end Law

namespace Law
open PySem PySem.Spec PyProof.Rows L2 Ab
open scoped Classical
theorem fp_low {M : Mx} {n a b : Nat} {k : Int} {p : List Int} (ha : a ≤ n) (hb : b ≤ n) (e : a ≠ b) : Fp (low a b k M) n p ↔ Fp M n p ∧ at0 p a - at0 p b ≤ k := by
  constructor
  · rintro ⟨h1, h2⟩
    refine ⟨⟨h1, fun i j hi hj e => ?_⟩, ?_⟩
    · have := h2 i j hi hj e
      unfold low at this
      split at this <;> omega
    · have := h2 a b ha hb e
      unfold low at this
      split at this <;> omega
  · rintro ⟨⟨h1, h2⟩, h3⟩
    refine ⟨h1, fun i j hi hj e => ?_⟩
    have a := h2 i j hi hj e
    unfold low
    split
    · rename_i z; rw [z.1, z.2.1]; exact h3
    · exact a
theorem bel_tail {n : Nat} {p : List Int} {f : Nat → Nat → Int} {b : Bool} {A : AH} (hn : n ≤ 100) (hl : p.length = n) (hb : b = true ↔ ∀ i j, i ≤ n → j ≤ n → at0 p i - at0 p j ≤ f i j) :
    Sat (p__law_belongs [some (matD (n + 1) f), some (ptD p), none, none, none] A) (fin_ fun d A' => d = .bl b ∧ A' = A) := by
  refine sat_seq ?_
  have z : [D.int 0].length + (p.map D.int).length ≤ sizeLine := sl_le (by simp; omega)
  have a1 : addD (.tup [.int 0]) (ptD p) A = .ok (.tup (.int 0 :: p.map D.int)) A := ev_add_tt z
  have ln : ∀ A, lenD [.tup (.int 0 :: p.map D.int)] A = .ok (.int ((n + 1 : Nat) : Int)) A := fun A => by rw [ev_len_t]; simp [hl]
  simp only [EV, Ab.isNon, args, List.map, List.length_cons, List.length_nil, List.length_singleton, List.replicate, Nat.reduceSub, Nat.reduceAdd, Nat.zero_add, List.cons_append, List.nil_append, List.getElem?_cons_zero, List.getElem?_cons_succ, List.set_cons_zero, List.set_cons_succ, Option.some.injEq, decide_eq_true_eq, Bool.not_eq_true', decide_eq_false_iff_not, ite_true, ite_false, if_true, if_false, reduceIte, Bool.false_eq_true, Bool.not_true, Bool.not_false, Bool.true_eq_false, decide_true, decide_false, Nat.reduceLeDiff, Nat.reduceLT, a1]
  refine sat_seq ?_
  simp only [EV, Ab.isNon, args, List.map, List.length_cons, List.length_nil, List.length_singleton, List.replicate, Nat.reduceSub, Nat.reduceAdd, Nat.zero_add, List.cons_append, List.nil_append, List.getElem?_cons_zero, List.getElem?_cons_succ, List.set_cons_zero, List.set_cons_succ, Option.some.injEq, decide_eq_true_eq, Bool.not_eq_true', decide_eq_false_iff_not, ite_true, ite_false, if_true, if_false, reduceIte, Bool.false_eq_true, Bool.not_true, Bool.not_false, Bool.true_eq_false, decide_true, decide_false, Nat.reduceLeDiff, Nat.reduceLT, ln]
  rw [if_pos (inRg_of (by omega) (by omega)), Int.toNat_natCast]
  refine range_inv (fun i σ B => B = A ∧ (∀ i' j, i' < i → j ≤ n → at0 p i' - at0 p j ≤ f i' j) ∧ ∃ x y, σ = [some (matD (n + 1) f), some (ptD p), some (.tup (.int 0 :: p.map D.int)), x, y])
    (fun i σ B hi ⟨hB, h1, x, y, hσ⟩ => ?_) (fun σ B ⟨hB, h1, x, y, hσ⟩ => ?_) ⟨rfl, fun _ _ h _ => absurd h (Nat.not_lt_zero _), none, none, rfl⟩
  · subst hB; subst hσ
    simp only [EV, Ab.isNon, args, List.map, List.length_cons, List.length_nil, List.length_singleton, List.replicate, Nat.reduceSub, Nat.reduceAdd, Nat.zero_add, List.cons_append, List.nil_append, List.getElem?_cons_zero, List.getElem?_cons_succ, List.set_cons_zero, List.set_cons_succ, Option.some.injEq, decide_eq_true_eq, Bool.not_eq_true', decide_eq_false_iff_not, ite_true, ite_false, if_true, if_false, reduceIte, Bool.false_eq_true, Bool.not_true, Bool.not_false, Bool.true_eq_false, decide_true, decide_false, Nat.reduceLeDiff, Nat.reduceLT, ln]
    rw [if_pos (inRg_of (by omega) (by omega)), Int.toNat_natCast]
    refine range_inv (fun j σ C => C = B ∧ (∀ j', j' < j → at0 p i - at0 p j' ≤ f i j') ∧ ∃ y, σ = [some (matD (n + 1) f), some (ptD p), some (.tup (.int 0 :: p.map D.int)), some (.int (0 + (i : Nat))), y])
      (fun j σ C hj ⟨hC, h2, y, hσ⟩ => ?_) (fun σ C ⟨hC, h2, y, hσ⟩ => ?_) ⟨rfl, fun _ h => absurd h (Nat.not_lt_zero _), y, rfl⟩
    · subst hC; subst hσ
      simp only [EV, Ab.isNon, args, List.map, List.length_cons, List.length_nil, List.length_singleton, List.replicate, Nat.reduceSub, Nat.reduceAdd, Nat.zero_add, List.cons_append, List.nil_append, List.getElem?_cons_zero, List.getElem?_cons_succ, List.set_cons_zero, List.set_cons_succ, Option.some.injEq, decide_eq_true_eq, Bool.not_eq_true', decide_eq_false_iff_not, ite_true, ite_false, if_true, if_false, reduceIte, Bool.false_eq_true, Bool.not_true, Bool.not_false, Bool.true_eq_false, decide_true, decide_false, Nat.reduceLeDiff, Nat.reduceLT, Int.zero_add]
      rw [ix_full (by omega), sat_ok, ix_full (by omega), sat_ok]
      simp only [EV, Ab.isNon, args, List.map, List.length_cons, List.length_nil, List.length_singleton, List.replicate, Nat.reduceSub, Nat.reduceAdd, Nat.zero_add, List.cons_append, List.nil_append, List.getElem?_cons_zero, List.getElem?_cons_succ, List.set_cons_zero, List.set_cons_succ, Option.some.injEq, decide_eq_true_eq, Bool.not_eq_true', decide_eq_false_iff_not, ite_true, ite_false, if_true, if_false, reduceIte, Bool.false_eq_true, Bool.not_true, Bool.not_false, Bool.true_eq_false, decide_true, decide_false, Nat.reduceLeDiff, Nat.reduceLT]
      rw [ix_mat hi, sat_ok, ix_row hj, sat_ok]
      simp only [EV, Ab.isNon, args, List.map, List.length_cons, List.length_nil, List.length_singleton, List.replicate, Nat.reduceSub, Nat.reduceAdd, Nat.zero_add, List.cons_append, List.nil_append, List.getElem?_cons_zero, List.getElem?_cons_succ, List.set_cons_zero, List.set_cons_succ, Option.some.injEq, decide_eq_true_eq, Bool.not_eq_true', decide_eq_false_iff_not, ite_true, ite_false, if_true, if_false, reduceIte, Bool.false_eq_true, Bool.not_true, Bool.not_false, Bool.true_eq_false, decide_true, decide_false, Nat.reduceLeDiff, Nat.reduceLT]
      split
      · rename_i hlt
        simp only [EV, Ab.isNon, args, List.map, List.length_cons, List.length_nil, List.length_singleton, List.replicate, Nat.reduceSub, Nat.reduceAdd, Nat.zero_add, List.cons_append, List.nil_append, List.getElem?_cons_zero, List.getElem?_cons_succ, List.set_cons_zero, List.set_cons_succ, Option.some.injEq, decide_eq_true_eq, Bool.not_eq_true', decide_eq_false_iff_not, ite_true, ite_false, if_true, if_false, reduceIte, Bool.false_eq_true, Bool.not_true, Bool.not_false, Bool.true_eq_false, decide_true, decide_false, Nat.reduceLeDiff, Nat.reduceLT, turn_]
        refine ⟨?_, trivial⟩
        cases b with
        | false => rfl
        | true => have := hb.mp rfl i j (by omega) (by omega); omega
      · simp only [EV, Ab.isNon, args, List.map, List.length_cons, List.length_nil, List.length_singleton, List.replicate, Nat.reduceSub, Nat.reduceAdd, Nat.zero_add, List.cons_append, List.nil_append, List.getElem?_cons_zero, List.getElem?_cons_succ, List.set_cons_zero, List.set_cons_succ, Option.some.injEq, decide_eq_true_eq, Bool.not_eq_true', decide_eq_false_iff_not, ite_true, ite_false, if_true, if_false, reduceIte, Bool.false_eq_true, Bool.not_true, Bool.not_false, Bool.true_eq_false, decide_true, decide_false, Nat.reduceLeDiff, Nat.reduceLT, turn_]
        refine ⟨trivial, fun j' hj' => ?_, _, rfl⟩
        by_cases e : j' = j
        · subst e; omega
        · exact h2 j' (by omega)
    · subst hC; subst hσ
      simp only [EV, Ab.isNon, args, List.map, List.length_cons, List.length_nil, List.length_singleton, List.replicate, Nat.reduceSub, Nat.reduceAdd, Nat.zero_add, List.cons_append, List.nil_append, List.getElem?_cons_zero, List.getElem?_cons_succ, List.set_cons_zero, List.set_cons_succ, Option.some.injEq, decide_eq_true_eq, Bool.not_eq_true', decide_eq_false_iff_not, ite_true, ite_false, if_true, if_false, reduceIte, Bool.false_eq_true, Bool.not_true, Bool.not_false, Bool.true_eq_false, decide_true, decide_false, Nat.reduceLeDiff, Nat.reduceLT, turn_]
      refine ⟨trivial, fun i' j hi' hj => ?_, _, _, rfl⟩
      by_cases e : i' = i
      · subst e; exact h2 j (by omega)
      · exact h1 i' j (by omega) hj
  · subst hB; subst hσ
    simp only [EV, Ab.isNon, args, List.map, List.length_cons, List.length_nil, List.length_singleton, List.replicate, Nat.reduceSub, Nat.reduceAdd, Nat.zero_add, List.cons_append, List.nil_append, List.getElem?_cons_zero, List.getElem?_cons_succ, List.set_cons_zero, List.set_cons_succ, Option.some.injEq, decide_eq_true_eq, Bool.not_eq_true', decide_eq_false_iff_not, ite_true, ite_false, if_true, if_false, reduceIte, Bool.false_eq_true, Bool.not_true, Bool.not_false, Bool.true_eq_false, decide_true, decide_false, Nat.reduceLeDiff, Nat.reduceLT]
    refine ⟨?_, trivial⟩
    rw [hb.mpr fun i j hi hj => h1 i j (by omega) hj]
theorem belongs_spec {n : Nat} {p : List Int} {N : Mx} {b : Bool} {A : AH} (hn : n ≤ 20) (hl : p.length = n) (hb : b = true ↔ ∀ i j, i ≤ n → j ≤ n → at0 p i - at0 p j ≤ N i j) :
    m__law_belongs [matD (n + 1) N, ptD p] A = .ok (.bl b) A := by
  have key : Sat (m__law_belongs [matD (n + 1) N, ptD p] A) fun d A' => d = .bl b ∧ A' = A := sat_body rfl (bel_tail (by omega) hl hb)
  obtain ⟨d, A', e, rfl, rfl⟩ := key.eq
  exact e
end Law

namespace Law
open PySem PySem.Spec PyProof.Rows L2 Ab
open scoped Classical
/-! ### the meet -/
theorem comb_spec {A : AH} {n : Nat} {f g : Nat → Nat → Int} (hn : n ≤ 100) : Sat (m_combined [matD n f, matD n g, .bl false] A) fun d A' => d = matD n (mnf f g) ∧ Gr A A' := by
  refine sat_body rfl (sat_seq ?_)
  have ln : ∀ A, lenD [matD n f] A = .ok (.int (n : Nat)) A := fun A => by
    show lenD [.tup _] A = _
    rw [ev_len_t]; simp
  simp only [EV, Ab.isNon, args, List.map, List.length_cons, List.length_nil, List.length_singleton, List.replicate, Nat.reduceSub, Nat.reduceAdd, Nat.zero_add, List.cons_append, List.nil_append, List.getElem?_cons_zero, List.getElem?_cons_succ, List.set_cons_zero, List.set_cons_succ, Option.some.injEq, decide_eq_true_eq, Bool.not_eq_true', decide_eq_false_iff_not, ite_true, ite_false, if_true, if_false, reduceIte, Bool.false_eq_true, Bool.not_true, Bool.not_false, Bool.true_eq_false, decide_true, decide_false, Nat.reduceLeDiff, Nat.reduceLT]
  refine sat_seq ?_
  simp only [EV, Ab.isNon, args, List.map, List.length_cons, List.length_nil, List.length_singleton, List.replicate, Nat.reduceSub, Nat.reduceAdd, Nat.zero_add, List.cons_append, List.nil_append, List.getElem?_cons_zero, List.getElem?_cons_succ, List.set_cons_zero, List.set_cons_succ, Option.some.injEq, decide_eq_true_eq, Bool.not_eq_true', decide_eq_false_iff_not, ite_true, ite_false, if_true, if_false, reduceIte, Bool.false_eq_true, Bool.not_true, Bool.not_false, Bool.true_eq_false, decide_true, decide_false, Nat.reduceLeDiff, Nat.reduceLT, ln]
  rw [if_pos (inRg_of (by omega) (by omega)), Int.toNat_natCast]
  refine range_inv (fun k σ B => Gr A B ∧ (∃ x y, σ = [some (matD n f), some (matD n g), some (.bl false), some (.ref A.length), x, y]) ∧ ∃ c : Nat → Nat, B[A.length]? = some (.lst ((List.range k).map fun i => .ref (c i))) ∧ ∀ i, i < k → A.length < c i ∧ B[c i]? = some (.lst ((List.range n).map fun j => .int (mnf f g i j)))) (fun k σ B hk ⟨G, ⟨x, y, hσ⟩, c, hB, hc⟩ => ?_) (fun σ B ⟨G, ⟨x, y, hσ⟩, c, hB, hc⟩ => ?_) ⟨.app, ⟨none, none, rfl⟩, fun _ => 0, at_new, fun i hi => by omega⟩
  · subst hσ
    have rB := at_lt hB
    simp only [EV, Ab.isNon, args, List.map, List.length_cons, List.length_nil, List.length_singleton, List.replicate, Nat.reduceSub, Nat.reduceAdd, Nat.zero_add, List.cons_append, List.nil_append, List.getElem?_cons_zero, List.getElem?_cons_succ, List.set_cons_zero, List.set_cons_succ, Option.some.injEq, decide_eq_true_eq, Bool.not_eq_true', decide_eq_false_iff_not, ite_true, ite_false, if_true, if_false, reduceIte, Bool.false_eq_true, Bool.not_true, Bool.not_false, Bool.true_eq_false, decide_true, decide_false, Nat.reduceLeDiff, Nat.reduceLT, ty_l hB, wipeA, ln]
    rw [if_pos (inRg_of (by omega) (by omega)), Int.toNat_natCast]
    refine comp_pure (fun j : Nat => .int (0 + (j : Nat))) (fun j => .int (mnf f g k j)) (fun _ => trivial) (fun j hj l => ?_) (by simp; omega) ?_
    · have hj := List.mem_range.mp hj
      simp only [EV, Ab.isNon, args, List.map, List.length_cons, List.length_nil, List.length_singleton, List.replicate, Nat.reduceSub, Nat.reduceAdd, Nat.zero_add, List.cons_append, List.nil_append, List.getElem?_cons_zero, List.getElem?_cons_succ, List.set_cons_zero, List.set_cons_succ, Option.some.injEq, decide_eq_true_eq, Bool.not_eq_true', decide_eq_false_iff_not, ite_true, ite_false, if_true, if_false, reduceIte, Bool.false_eq_true, Bool.not_true, Bool.not_false, Bool.true_eq_false, decide_true, decide_false, Nat.reduceLeDiff, Nat.reduceLT, Int.zero_add]
      rw [ix_mat hk, sat_ok, ix_row hj, sat_ok, ix_mat hk, sat_ok, ix_row hj, sat_ok]
      simp only [EV, Ab.isNon, args, List.map, List.length_cons, List.length_nil, List.length_singleton, List.replicate, Nat.reduceSub, Nat.reduceAdd, Nat.zero_add, List.cons_append, List.nil_append, List.getElem?_cons_zero, List.getElem?_cons_succ, List.set_cons_zero, List.set_cons_succ, Option.some.injEq, decide_eq_true_eq, Bool.not_eq_true', decide_eq_false_iff_not, ite_true, ite_false, if_true, if_false, reduceIte, Bool.false_eq_true, Bool.not_true, Bool.not_false, Bool.true_eq_false, decide_true, decide_false, Nat.reduceLeDiff, Nat.reduceLT]
      trivial
    · have hB2 := (Gr.app (B := [.lst ((List.range n).map fun j => .int (mnf f g k j))])).keep _ _ hB
      rw [ev_app hB2 (by simp; omega)]
      simp only [EV, Ab.isNon, args, List.map, List.length_cons, List.length_nil, List.length_singleton, List.replicate, Nat.reduceSub, Nat.reduceAdd, Nat.zero_add, List.cons_append, List.nil_append, List.getElem?_cons_zero, List.getElem?_cons_succ, List.set_cons_zero, List.set_cons_succ, Option.some.injEq, decide_eq_true_eq, Bool.not_eq_true', decide_eq_false_iff_not, ite_true, ite_false, if_true, if_false, reduceIte, Bool.false_eq_true, Bool.not_true, Bool.not_false, Bool.true_eq_false, decide_true, decide_false, Nat.reduceLeDiff, Nat.reduceLT, turn_]
      refine ⟨(G.trans .app).set (Nat.le_refl _), ⟨_, _, rfl⟩, fun i => if i = k then B.length else c i, ?_, fun i hi => ?_⟩
      · rw [at_set (at_lt hB2), List.range_succ (n := k), List.map_append]
        congr 3
        · apply List.map_congr_left
          intro a ha
          have := List.mem_range.mp ha
          show _ = D.ref (if a = k then B.length else c a)
          rw [if_neg (by omega)]
        · simp
      · by_cases e : i = k
        · subst e
          simp only [if_true]
          refine ⟨by omega, ?_⟩
          rw [List.getElem?_set_ne (by omega)]
          exact at_new
        · simp only [if_neg e]
          obtain ⟨h1, h2⟩ := hc i (by omega)
          refine ⟨h1, ?_⟩
          rw [List.getElem?_set_ne (by omega)]
          exact Gr.app.keep _ _ h2
  · subst hσ
    simp only [EV, Ab.isNon, args, List.map, List.length_cons, List.length_nil, List.length_singleton, List.replicate, Nat.reduceSub, Nat.reduceAdd, Nat.zero_add, List.cons_append, List.nil_append, List.getElem?_cons_zero, List.getElem?_cons_succ, List.set_cons_zero, List.set_cons_succ, Option.some.injEq, decide_eq_true_eq, Bool.not_eq_true', decide_eq_false_iff_not, ite_true, ite_false, if_true, if_false, reduceIte, Bool.false_eq_true, Bool.not_true, Bool.not_false, Bool.true_eq_false, decide_true, decide_false, Nat.reduceLeDiff, Nat.reduceLT]
    refine Sat.imp (frozen_spec c hB (fun i hi => (hc i hi).2) (by omega)) fun d B' ⟨h1, h2⟩ => ?_
    exact ⟨h1, G.trans h2⟩
theorem meet_spec {A : AH} {m : Nat} {f g : Mx} (hm : m ≤ 100) (h0 : 0 < m) : Sat (m_meet_boxes [matD m f, matD m g] A) fun d A' => Gr A A' ∧ ∃ o, d = outD m o ∧ Closes m (mnf f g) o := by
  refine sat_body rfl (sat_seq ?_)
  obtain ⟨ds, hd⟩ : ∃ ds, matD m f = .tup ds := ⟨_, rfl⟩
  obtain ⟨es, he⟩ : ∃ ds, matD m g = .tup ds := ⟨_, rfl⟩
  have cs : ∀ A, Sat (m_combined [matD m f, matD m g, .bl false] A) fun d A' => d = matD m (mnf f g) ∧ Gr A A' := fun A => comb_spec hm
  simp only [hd, he] at cs ⊢
  simp only [EV, Ab.isNon, args, List.map, List.length_cons, List.length_nil, List.length_singleton, List.replicate, Nat.reduceSub, Nat.reduceAdd, Nat.zero_add, List.cons_append, List.nil_append, List.getElem?_cons_zero, List.getElem?_cons_succ, List.set_cons_zero, List.set_cons_succ, Option.some.injEq, decide_eq_true_eq, Bool.not_eq_true', decide_eq_false_iff_not, ite_true, ite_false, if_true, if_false, reduceIte, Bool.false_eq_true, Bool.not_true, Bool.not_false, Bool.true_eq_false, decide_true, decide_false, Nat.reduceLeDiff, Nat.reduceLT]
  refine Sat.imp (cs A) fun d B ⟨e, G⟩ => ?_
  subst e
  exact Sat.imp (close_spec hm h0) fun d C ⟨G2, o, h1, h2⟩ => ⟨G.trans G2, o, h1, h2⟩
/-! ### one bound -/
theorem non_bound {A : AH} {i j n : D} : m_bound [.non, i, j, n] A = .ok .non A := by
  have key : Sat (m_bound [.non, i, j, n] A) fun d A' => d = .non ∧ A' = A := by
    refine sat_body rfl (sat_seq ?_)
    simp only [EV, Ab.isNon, args, List.map, List.length_cons, List.length_nil, List.length_singleton, List.replicate, Nat.reduceSub, Nat.reduceAdd, Nat.zero_add, List.cons_append, List.nil_append, List.getElem?_cons_zero, List.getElem?_cons_succ, List.set_cons_zero, List.set_cons_succ, Option.some.injEq, decide_eq_true_eq, Bool.not_eq_true', decide_eq_false_iff_not, ite_true, ite_false, if_true, if_false, reduceIte, Bool.false_eq_true, Bool.not_true, Bool.not_false, Bool.true_eq_false, decide_true, decide_false, Nat.reduceLeDiff, Nat.reduceLT]
    trivial
  obtain ⟨d, A', e, rfl, rfl⟩ := key.eq
  exact e
theorem bound_spec {A : AH} {m i j : Nat} {n : Int} {R : Mx} (hm : m ≤ 100) (hi : i < m) (hj : j < m) : Sat (m_bound [matD m R, .int (i : Nat), .int (j : Nat), .int n] A) fun d A' => Gr A A' ∧ d = outD m (if n + R j i < 0 then none else if R i j ≤ n then some R else some (bnd i j n R)) := by
  refine sat_body rfl (sat_seq ?_)
  have i1 : ∀ {k : Nat} A, k < m → ixD (matD m R) (.int (k : Nat)) A = .ok (rowD m (R k)) A := fun A h => ix_mat h
  have i2 : ∀ {k l : Nat} A, l < m → ixD (rowD m (R k)) (.int (l : Nat)) A = .ok (.int (R k l)) A := fun A h => ix_row h
  obtain ⟨ds, hd, dl⟩ : ∃ ds, matD m R = .tup ds ∧ ds.length = m := ⟨_, rfl, by simp⟩
  simp only [hd] at i1 ⊢
  refine sat_ifS (b := decide (n + R j i < 0)) ?_ (fun hb => ?_) (fun hb => ?_)
  · simp only [EV, Ab.isNon, args, List.map, List.length_cons, List.length_nil, List.length_singleton, List.replicate, Nat.reduceSub, Nat.reduceAdd, Nat.zero_add, List.cons_append, List.nil_append, List.getElem?_cons_zero, List.getElem?_cons_succ, List.set_cons_zero, List.set_cons_succ, Option.some.injEq, decide_eq_true_eq, Bool.not_eq_true', decide_eq_false_iff_not, ite_true, ite_false, if_true, if_false, reduceIte, Bool.false_eq_true, Bool.not_true, Bool.not_false, Bool.true_eq_false, decide_true, decide_false, Nat.reduceLeDiff, Nat.reduceLT, i1 A hj, i2 A hi]
  · have hb := of_decide_eq_true hb
    simp only [EV, Ab.isNon, args, List.map, List.length_cons, List.length_nil, List.length_singleton, List.replicate, Nat.reduceSub, Nat.reduceAdd, Nat.zero_add, List.cons_append, List.nil_append, List.getElem?_cons_zero, List.getElem?_cons_succ, List.set_cons_zero, List.set_cons_succ, Option.some.injEq, decide_eq_true_eq, Bool.not_eq_true', decide_eq_false_iff_not, ite_true, ite_false, if_true, if_false, reduceIte, Bool.false_eq_true, Bool.not_true, Bool.not_false, Bool.true_eq_false, decide_true, decide_false, Nat.reduceLeDiff, Nat.reduceLT]
    exact ⟨.refl, by rw [if_pos hb]; rfl⟩
  · have hb := of_decide_eq_false hb
    simp only [EV, Ab.isNon, args, List.map, List.length_cons, List.length_nil, List.length_singleton, List.replicate, Nat.reduceSub, Nat.reduceAdd, Nat.zero_add, List.cons_append, List.nil_append, List.getElem?_cons_zero, List.getElem?_cons_succ, List.set_cons_zero, List.set_cons_succ, Option.some.injEq, decide_eq_true_eq, Bool.not_eq_true', decide_eq_false_iff_not, ite_true, ite_false, if_true, if_false, reduceIte, Bool.false_eq_true, Bool.not_true, Bool.not_false, Bool.true_eq_false, decide_true, decide_false, Nat.reduceLeDiff, Nat.reduceLT]
    refine sat_seq ?_
    simp only [EV, Ab.isNon, args, List.map, List.length_cons, List.length_nil, List.length_singleton, List.replicate, Nat.reduceSub, Nat.reduceAdd, Nat.zero_add, List.cons_append, List.nil_append, List.getElem?_cons_zero, List.getElem?_cons_succ, List.set_cons_zero, List.set_cons_succ, Option.some.injEq, decide_eq_true_eq, Bool.not_eq_true', decide_eq_false_iff_not, ite_true, ite_false, if_true, if_false, reduceIte, Bool.false_eq_true, Bool.not_true, Bool.not_false, Bool.true_eq_false, decide_true, decide_false, Nat.reduceLeDiff, Nat.reduceLT, i1 A hi, i2 A hj]
    split
    · rename_i hc
      exact ⟨.refl, hd.symm⟩
    rename_i hc
    refine sat_seq ?_
    simp only [EV, Ab.isNon, args, List.map, List.length_cons, List.length_nil, List.length_singleton, List.replicate, Nat.reduceSub, Nat.reduceAdd, Nat.zero_add, List.cons_append, List.nil_append, List.getElem?_cons_zero, List.getElem?_cons_succ, List.set_cons_zero, List.set_cons_succ, Option.some.injEq, decide_eq_true_eq, Bool.not_eq_true', decide_eq_false_iff_not, ite_true, ite_false, if_true, if_false, reduceIte, Bool.false_eq_true, Bool.not_true, Bool.not_false, Bool.true_eq_false, decide_true, decide_false, Nat.reduceLeDiff, Nat.reduceLT]
    refine sat_seq ?_
    simp only [EV, Ab.isNon, args, List.map, List.length_cons, List.length_nil, List.length_singleton, List.replicate, Nat.reduceSub, Nat.reduceAdd, Nat.zero_add, List.cons_append, List.nil_append, List.getElem?_cons_zero, List.getElem?_cons_succ, List.set_cons_zero, List.set_cons_succ, Option.some.injEq, decide_eq_true_eq, Bool.not_eq_true', decide_eq_false_iff_not, ite_true, ite_false, if_true, if_false, reduceIte, Bool.false_eq_true, Bool.not_true, Bool.not_false, Bool.true_eq_false, decide_true, decide_false, Nat.reduceLeDiff, Nat.reduceLT, dl]
    rw [if_pos (inRg_of (by omega) (by omega)), Int.toNat_natCast]
    refine range_inv (fun k σ B => Gr A B ∧ (∃ x y, σ = [some (.tup ds), some (.int (i : Nat)), some (.int (j : Nat)), some (.int n), some (.ref A.length), x, y, none]) ∧ ∃ c : Nat → Nat, B[A.length]? = some (.lst ((List.range k).map fun i => .ref (c i))) ∧ ∀ a, a < k → A.length < c a ∧ B[c a]? = some (.lst ((List.range m).map fun l => .int (bnd i j n R a l))))
      (fun k σ B hk ⟨G, ⟨x, y, hσ⟩, c, hB, hc⟩ => ?_) (fun σ B ⟨G, ⟨x, y, hσ⟩, c, hB, hc⟩ => ?_) ⟨.app, ⟨none, none, rfl⟩, fun _ => 0, at_new, fun _ h => absurd h (Nat.not_lt_zero _)⟩
    · subst hσ
      have rB := at_lt hB
      simp only [EV, Ab.isNon, args, List.map, List.length_cons, List.length_nil, List.length_singleton, List.replicate, Nat.reduceSub, Nat.reduceAdd, Nat.zero_add, List.cons_append, List.nil_append, List.getElem?_cons_zero, List.getElem?_cons_succ, List.set_cons_zero, List.set_cons_succ, Option.some.injEq, decide_eq_true_eq, Bool.not_eq_true', decide_eq_false_iff_not, ite_true, ite_false, if_true, if_false, reduceIte, Bool.false_eq_true, Bool.not_true, Bool.not_false, Bool.true_eq_false, decide_true, decide_false, Nat.reduceLeDiff, Nat.reduceLT, Int.zero_add]
      refine sat_seq ?_
      simp only [EV, Ab.isNon, args, List.map, List.length_cons, List.length_nil, List.length_singleton, List.replicate, Nat.reduceSub, Nat.reduceAdd, Nat.zero_add, List.cons_append, List.nil_append, List.getElem?_cons_zero, List.getElem?_cons_succ, List.set_cons_zero, List.set_cons_succ, Option.some.injEq, decide_eq_true_eq, Bool.not_eq_true', decide_eq_false_iff_not, ite_true, ite_false, if_true, if_false, reduceIte, Bool.false_eq_true, Bool.not_true, Bool.not_false, Bool.true_eq_false, decide_true, decide_false, Nat.reduceLeDiff, Nat.reduceLT, i1 B hk, i2 B hi]
      simp only [EV, Ab.isNon, args, List.map, List.length_cons, List.length_nil, List.length_singleton, List.replicate, Nat.reduceSub, Nat.reduceAdd, Nat.zero_add, List.cons_append, List.nil_append, List.getElem?_cons_zero, List.getElem?_cons_succ, List.set_cons_zero, List.set_cons_succ, Option.some.injEq, decide_eq_true_eq, Bool.not_eq_true', decide_eq_false_iff_not, ite_true, ite_false, if_true, if_false, reduceIte, Bool.false_eq_true, Bool.not_true, Bool.not_false, Bool.true_eq_false, decide_true, decide_false, Nat.reduceLeDiff, Nat.reduceLT, ty_l hB, wipeA, dl]
      rw [if_pos (inRg_of (by omega) (by omega)), Int.toNat_natCast]
      refine comp_pure (fun l : Nat => .int (0 + (l : Nat))) (fun l => .int (bnd i j n R k l)) (fun _ => trivial) (fun l hl acc => ?_) (by simp; omega) ?_
      · have hl := List.mem_range.mp hl
        simp only [EV, Ab.isNon, args, List.map, List.length_cons, List.length_nil, List.length_singleton, List.replicate, Nat.reduceSub, Nat.reduceAdd, Nat.zero_add, List.cons_append, List.nil_append, List.getElem?_cons_zero, List.getElem?_cons_succ, List.set_cons_zero, List.set_cons_succ, Option.some.injEq, decide_eq_true_eq, Bool.not_eq_true', decide_eq_false_iff_not, ite_true, ite_false, if_true, if_false, reduceIte, Bool.false_eq_true, Bool.not_true, Bool.not_false, Bool.true_eq_false, decide_true, decide_false, Nat.reduceLeDiff, Nat.reduceLT, Int.zero_add]
        rw [i1 _ hk, sat_ok, i2 _ hl, sat_ok, i1 _ hj, sat_ok, i2 _ hl]
        simp only [EV, Ab.isNon, args, List.map, List.length_cons, List.length_nil, List.length_singleton, List.replicate, Nat.reduceSub, Nat.reduceAdd, Nat.zero_add, List.cons_append, List.nil_append, List.getElem?_cons_zero, List.getElem?_cons_succ, List.set_cons_zero, List.set_cons_succ, Option.some.injEq, decide_eq_true_eq, Bool.not_eq_true', decide_eq_false_iff_not, ite_true, ite_false, if_true, if_false, reduceIte, Bool.false_eq_true, Bool.not_true, Bool.not_false, Bool.true_eq_false, decide_true, decide_false, Nat.reduceLeDiff, Nat.reduceLT]
        exact ⟨rfl, trivial⟩
      · have hB2 := (Gr.app (B := [.lst ((List.range m).map fun l => .int (bnd i j n R k l))])).keep _ _ hB
        rw [ev_app hB2 (by simp; omega)]
        simp only [EV, Ab.isNon, args, List.map, List.length_cons, List.length_nil, List.length_singleton, List.replicate, Nat.reduceSub, Nat.reduceAdd, Nat.zero_add, List.cons_append, List.nil_append, List.getElem?_cons_zero, List.getElem?_cons_succ, List.set_cons_zero, List.set_cons_succ, Option.some.injEq, decide_eq_true_eq, Bool.not_eq_true', decide_eq_false_iff_not, ite_true, ite_false, if_true, if_false, reduceIte, Bool.false_eq_true, Bool.not_true, Bool.not_false, Bool.true_eq_false, decide_true, decide_false, Nat.reduceLeDiff, Nat.reduceLT, turn_]
        refine ⟨(G.trans .app).set (Nat.le_refl _), ⟨_, _, rfl⟩, fun a => if a = k then B.length else c a, ?_, fun a ha => ?_⟩
        · rw [at_set (at_lt hB2), List.range_succ (n := k), List.map_append]
          congr 3
          · apply List.map_congr_left
            intro a ha
            have := List.mem_range.mp ha
            show _ = D.ref (if a = k then B.length else c a)
            rw [if_neg (by omega)]
          · simp
        · by_cases e : a = k
          · subst e
            simp only [if_true]
            refine ⟨by omega, ?_⟩
            rw [List.getElem?_set_ne (by omega)]
            exact at_new
          · simp only [if_neg e]
            obtain ⟨h1, h2⟩ := hc a (by omega)
            refine ⟨h1, ?_⟩
            rw [List.getElem?_set_ne (by omega)]
            exact Gr.app.keep _ _ h2
    · subst hσ
      simp only [EV, Ab.isNon, args, List.map, List.length_cons, List.length_nil, List.length_singleton, List.replicate, Nat.reduceSub, Nat.reduceAdd, Nat.zero_add, List.cons_append, List.nil_append, List.getElem?_cons_zero, List.getElem?_cons_succ, List.set_cons_zero, List.set_cons_succ, Option.some.injEq, decide_eq_true_eq, Bool.not_eq_true', decide_eq_false_iff_not, ite_true, ite_false, if_true, if_false, reduceIte, Bool.false_eq_true, Bool.not_true, Bool.not_false, Bool.true_eq_false, decide_true, decide_false, Nat.reduceLeDiff, Nat.reduceLT]
      refine Sat.imp (frozen_spec c hB (fun a ha => (hc a ha).2) (by omega)) fun d B2 ⟨e, G2⟩ => ?_
      exact ⟨G.trans G2, by rw [e]; rfl⟩
end Law

namespace Law
open PySem PySem.Spec PyProof.Rows L2 Ab
open scoped Classical
/-! ### points that are all points of their box -/
structure All (n : Nat) (ps : List (List Int)) : Prop where
  n20 : n ≤ 20
  few : ps.length ≤ 5000
  len : ∀ p ∈ ps, p.length = n
  all : ∀ p, ps ≠ [] → Fp (mx ps) n p → p ∈ ps
theorem All.iff {n : Nat} {ps : List (List Int)} (h : All n ps) (ne : ps ≠ []) (p : List Int) : p ∈ ps ↔ Fp (mx ps) n p := ⟨fun hp => ⟨h.len p hp, fun i j _ _ _ => mx_ge hp⟩, h.all p ne⟩
/-- those points of a box that a table leaves are all points of their own box -/
theorem All.cut {n : Nat} {ps qs : List (List Int)} {M : Mx} (h : All n ps) (few : qs.length ≤ 5000) (mem : ∀ p, p ∈ qs ↔ p ∈ ps ∧ Fp M n p) : All n qs :=
  ⟨h.n20, few, fun p hp => h.len p ((mem p).mp hp).1, fun p ne f => by
    obtain ⟨q0, hq0⟩ := List.exists_mem_of_ne_nil _ ne
    have pne : ps ≠ [] := List.ne_nil_of_mem ((mem q0).mp hq0).1
    refine (mem p).mpr ⟨h.all p pne ⟨f.1, fun i j hi hj e => ?_⟩, f.1, fun i j hi hj e => ?_⟩
    · obtain ⟨q, hq, e1⟩ := mx_mem (i := i) (j := j) ne
      have h1 := mx_ge (i := i) (j := j) ((mem q).mp hq).1
      have h2 := f.2 i j hi hj e
      omega
    · obtain ⟨q, hq, e1⟩ := mx_mem (i := i) (j := j) ne
      have h1 := ((mem q).mp hq).2.2 i j hi hj e
      have h2 := f.2 i j hi hj e
      omega⟩
theorem All.of_iff {n : Nat} {qs : List (List Int)} {M : Mx} (n20 : n ≤ 20) (few : qs.length ≤ 5000) (mem : ∀ p, p ∈ qs ↔ Fp M n p) : All n qs :=
  ⟨n20, few, fun p hp => ((mem p).mp hp).1, fun p ne f => (mem p).mpr ⟨f.1, fun i j hi hj e => by
    obtain ⟨q, hq, e1⟩ := mx_mem (i := i) (j := j) ne
    have h1 := ((mem q).mp hq).2 i j hi hj e
    have h2 := f.2 i j hi hj e
    omega⟩⟩
theorem hull_nil {n : Nat} : hullD [] n = .non := if_pos rfl
theorem cut_mem {n a b : Nat} {t : Int} {ps : List (List Int)} (ne : ps ≠ []) (al : All n ps) (ha : a ≤ n) (hb : b ≤ n) (e : a ≠ b) (p : List Int) : p ∈ ps.filter (fun p => decide (at0 p a - at0 p b ≤ t)) ↔ Fp (low a b t (mx ps)) n p := by
  rw [fp_low ha hb e, ← al.iff ne, List.mem_filter, decide_eq_true_iff]
theorem cut_all {n a b : Nat} {t : Int} {ps : List (List Int)} (al : All n ps) (ha : a ≤ n) (hb : b ≤ n) (e : a ≠ b) : All n (ps.filter fun p => decide (at0 p a - at0 p b ≤ t)) := by
  have few := al.few
  have fl := List.length_filter_le (fun p => decide (at0 p a - at0 p b ≤ t)) ps
  by_cases ne : ps = []
  · subst ne; exact al
  · exact All.of_iff al.n20 (by omega) (cut_mem ne al ha hb e)
theorem bound_hull {A : AH} {n a b : Nat} {t : Int} {ps : List (List Int)} (al : All n ps) (ha : a ≤ n) (hb : b ≤ n) (e : a ≠ b) :
    Sat (m_bound [hullD ps n, .int (a : Nat), .int (b : Nat), .int t] A) fun d A' => Gr A A' ∧ d = hullD (ps.filter fun p => decide (at0 p a - at0 p b ≤ t)) n := by
  by_cases ne : ps = []
  · subst ne
    have h0 : hullD [] n = .non := if_pos rfl
    rw [List.filter_nil, h0, non_bound]
    exact ⟨.refl, rfl⟩
  · have n20 := al.n20
    rw [hull_out, hull_out, if_neg ne]
    refine Sat.imp (bound_spec (m := n + 1) (R := mx ps) (by omega) (by omega) (by omega)) fun d A' ⟨G, e'⟩ => ⟨G, ?_⟩
    rw [e']
    refine closes_same (M := low a b t (mx ps)) (by omega) (bound_closes (mx_cl ne) (by omega) (by omega) e) (hull_closes (by omega) (fun i hi => ?_) (cut_mem ne al ha hb e))
    unfold low
    split
    · omega
    · exact Int.le_of_eq ((mx_cl (m := i + 1) ne).dg i (by omega)).symm
end Law

namespace Law
open PySem PySem.Spec PyProof.Rows L2 Ab
open scoped Classical
/-! ### columns added, picked, freed, shifted -/
def prD (p : Int × Int) : D := .tup [.int p.1, .int p.2]
theorem app_rg {n : Nat} (f : Nat → Int) (xs : List Int) : (List.range n).map (fun i => D.int (f i)) ++ xs.map D.int = (List.range (n + xs.length)).map fun i => .int (if i < n then f i else xs.getD (i - n) 0) := by
  apply List.ext_getElem (by simp)
  intro i h1 h2
  have hi : i < n + xs.length := by simpa using h2
  rw [List.getElem_map, List.getElem_range]
  by_cases c : i < n
  · rw [List.getElem_append_left (by simpa using c), List.getElem_map, List.getElem_range, if_pos c]
  · rw [List.getElem_append_right (by simp; omega), if_neg c, List.getElem_map, List.getD_eq_getElem?_getD]
    simp only [List.length_map, List.length_range]
    rw [List.getElem?_eq_getElem (by omega)]; rfl
theorem drop_rg {n m : Nat} (f g : Nat → Int) (h : n ≤ m) : (List.range n).map (fun i => D.int (f i)) ++ ((List.range m).map fun i => D.int (g i)).drop n = (List.range m).map fun i => .int (if i < n then f i else g i) := by
  apply List.ext_getElem (by simp; omega)
  intro i h1 h2
  have hi : i < m := by simpa using h2
  rw [List.getElem_map, List.getElem_range]
  by_cases c : i < n
  · rw [List.getElem_append_left (by simpa using c), List.getElem_map, List.getElem_range, if_pos c]
  · rw [List.getElem_append_right (by simp; omega), if_neg c, List.getElem_drop, List.getElem_map, List.getElem_range]
    simp only [List.length_map, List.length_range]
    congr 2; omega
/-- rows of a table, one appended after the other -/
theorem rows_snoc {B : AH} {k q R : Nat} {c : Nat → Nat} {m : Nat} {f : Nat → Nat → Int} (hR : B[R]? = some (.lst ((List.range k).map fun i => .ref (c i)))) (hc : ∀ i, i < k → R < c i ∧ B[c i]? = some (.lst ((List.range m).map fun j => .int (f i j)))) (hq : B[q]? = some (.lst ((List.range m).map fun j => .int (f k j)))) (Rq : R < q) :
    ∃ c' : Nat → Nat, (B.set R (.lst ((List.range k).map (fun i => .ref (c i)) ++ [.ref q])))[R]? = some (.lst ((List.range (k + 1)).map fun i => .ref (c' i))) ∧ ∀ i, i < k + 1 → R < c' i ∧ (B.set R (.lst ((List.range k).map (fun i => .ref (c i)) ++ [.ref q])))[c' i]? = some (.lst ((List.range m).map fun j => .int (f i j))) := by
  refine ⟨fun i => if i = k then q else c i, ?_, fun i hi => ?_⟩
  · rw [at_set (at_lt hR), List.range_succ (n := k), List.map_append]
    congr 3
    · apply List.map_congr_left
      intro a ha
      have := List.mem_range.mp ha
      show D.ref (c a) = D.ref (if a = k then q else c a)
      rw [if_neg (by omega)]
    · simp
  · by_cases e : i = k
    · subst e
      simp only [if_true]
      exact ⟨Rq, by rw [List.getElem?_set_ne (by omega)]; exact hq⟩
    · simp only [if_neg e]
      obtain ⟨h1, h2⟩ := hc i (by omega)
      exact ⟨h1, by rw [List.getElem?_set_ne (by omega)]; exact h2⟩
theorem set_rg {m j : Nat} {f : Nat → Int} {v : Int} : ((List.range m).map fun j => D.int (f j)).set j (.int v) = (List.range m).map fun k => D.int (if k = j then v else f k) := range_set
def abv (n : Nat) (M : Mx) (pr : List (Int × Int)) (i : Nat) : Int := if i < n + 1 then M i 0 else (pr.map Prod.snd).getD (i - (n + 1)) 0
def blw (n : Nat) (M : Mx) (pr : List (Int × Int)) (j : Nat) : Int := if j < n + 1 then M 0 j else (pr.map fun p => -p.1).getD (j - (n + 1)) 0
def addf (n : Nat) (M : Mx) (pr : List (Int × Int)) : Mx := fun i j => if i < n + 1 ∧ j < n + 1 then M i j else if j = i then 0 else abv n M pr i + blw n M pr j
theorem non_add {A : AH} {d : D} : m_add_columns [.non, d] A = .ok .non A := by
  have key : Sat (m_add_columns [.non, d] A) fun d A' => d = .non ∧ A' = A := by
    refine sat_body rfl (sat_seq ?_)
    simp only [EV, Ab.isNon, args, List.map, List.length_cons, List.length_nil, List.length_singleton, List.replicate, Nat.reduceSub, Nat.reduceAdd, Nat.zero_add, List.cons_append, List.nil_append, List.getElem?_cons_zero, List.getElem?_cons_succ, List.set_cons_zero, List.set_cons_succ, Option.some.injEq, decide_eq_true_eq, Bool.not_eq_true', decide_eq_false_iff_not, ite_true, ite_false, if_true, if_false, reduceIte, Bool.false_eq_true, Bool.not_true, Bool.not_false, Bool.true_eq_false, decide_true, decide_false, Nat.reduceLeDiff, Nat.reduceLT]
    trivial
  obtain ⟨d, A', e, rfl, rfl⟩ := key.eq
  exact e
theorem ev_gHd {fo : FE} {fk : FO} {d : D} {s : ASt} {A : AH} : gHd fo fk d s A = (fo s A).bind fun o A1 => (fk s A1).bind fun k A2 => (hdD o k d A2).bind fun _ A3 => .ok s A3 := rfl
theorem ev_hd {A : AH} {r : Nat} {k : Int} {xs ys : List D} (h : A[r]? = some (.lst xs)) (h0 : 0 ≤ k) (h1 : k ≤ xs.length) (h2 : xs.length + ys.length ≤ 1000000) : hdD (.ref r) (some k) (.tup ys) A = .ok () (A.set r (.lst (ys ++ xs.drop k.toNat))) := by
  simp only [hdD, h]
  rw [if_pos ⟨h0, h1, Nat.le_trans h2 (by decide)⟩]
theorem add_spec {A : AH} {n k : Nat} {M : Mx} {pr : List (Int × Int)} (hn : n ≤ 100) (hk : pr.length = k) (hk2 : k ≤ 100) : Sat (m_add_columns [matD (n + 1) M, .tup (pr.map prD)] A) fun d A' => Gr A A' ∧ d = matD (n + 1 + k) (addf n M pr) := by
  refine sat_body rfl (sat_seq ?_)
  have i1 : ∀ {k : Nat} A, k < n + 1 → ixD (matD (n + 1) M) (.int (k : Nat)) A = .ok (rowD (n + 1) (M k)) A := fun A h => ix_mat h
  have i2 : ∀ {k l : Nat} A, l < n + 1 → ixD (rowD (n + 1) (M k)) (.int (l : Nat)) A = .ok (.int (M k l)) A := fun A h => ix_row h
  have z1 : ∀ A, ixD (matD (n + 1) M) (.int 0) A = .ok (rowD (n + 1) (M 0)) A := fun A => i1 (k := 0) A (by omega)
  have z2 : ∀ {k : Nat} A, ixD (rowD (n + 1) (M k)) (.int 0) A = .ok (.int (M k 0)) A := fun A => i2 (l := 0) A (by omega)
  have ln : ∀ A, lenD [matD (n + 1) M] A = .ok (.int ((n + 1 : Nat) : Int)) A := fun A => by
    show lenD [.tup _] A = _
    rw [ev_len_t]; simp
  obtain ⟨ds, hd⟩ : ∃ ds, matD (n + 1) M = .tup ds := ⟨_, rfl⟩
  simp only [hd] at i1 z1 ln ⊢
  simp only [EV, Ab.isNon, args, List.map, List.length_cons, List.length_nil, List.length_singleton, List.replicate, Nat.reduceSub, Nat.reduceAdd, Nat.zero_add, List.cons_append, List.nil_append, List.getElem?_cons_zero, List.getElem?_cons_succ, List.set_cons_zero, List.set_cons_succ, Option.some.injEq, decide_eq_true_eq, Bool.not_eq_true', decide_eq_false_iff_not, ite_true, ite_false, if_true, if_false, reduceIte, Bool.false_eq_true, Bool.not_true, Bool.not_false, Bool.true_eq_false, decide_true, decide_false, Nat.reduceLeDiff, Nat.reduceLT]
  refine sat_seq ?_
  simp only [ln, EV, Ab.isNon, args, List.map, List.length_cons, List.length_nil, List.length_singleton, List.replicate, Nat.reduceSub, Nat.reduceAdd, Nat.zero_add, List.cons_append, List.nil_append, List.getElem?_cons_zero, List.getElem?_cons_succ, List.set_cons_zero, List.set_cons_succ, Option.some.injEq, decide_eq_true_eq, Bool.not_eq_true', decide_eq_false_iff_not, ite_true, ite_false, if_true, if_false, reduceIte, Bool.false_eq_true, Bool.not_true, Bool.not_false, Bool.true_eq_false, decide_true, decide_false, Nat.reduceLeDiff, Nat.reduceLT]
  refine sat_seq ?_
  simp only [EV, Ab.isNon, args, List.map, List.length_cons, List.length_nil, List.length_singleton, List.replicate, Nat.reduceSub, Nat.reduceAdd, Nat.zero_add, List.cons_append, List.nil_append, List.getElem?_cons_zero, List.getElem?_cons_succ, List.set_cons_zero, List.set_cons_succ, Option.some.injEq, decide_eq_true_eq, Bool.not_eq_true', decide_eq_false_iff_not, ite_true, ite_false, if_true, if_false, reduceIte, Bool.false_eq_true, Bool.not_true, Bool.not_false, Bool.true_eq_false, decide_true, decide_false, Nat.reduceLeDiff, Nat.reduceLT, wipeA]
  rw [if_pos (inRg_of (by omega) (by omega)), Int.toNat_natCast]
  refine comp_pure (fun i : Nat => .int (0 + (i : Nat))) (fun i => .int (M i 0)) (fun _ => trivial) (fun i hi l => ?_) (by simp; omega) ?_
  · have hi := List.mem_range.mp hi
    simp only [EV, Ab.isNon, args, List.map, List.length_cons, List.length_nil, List.length_singleton, List.replicate, Nat.reduceSub, Nat.reduceAdd, Nat.zero_add, List.cons_append, List.nil_append, List.getElem?_cons_zero, List.getElem?_cons_succ, List.set_cons_zero, List.set_cons_succ, Option.some.injEq, decide_eq_true_eq, Bool.not_eq_true', decide_eq_false_iff_not, ite_true, ite_false, if_true, if_false, reduceIte, Bool.false_eq_true, Bool.not_true, Bool.not_false, Bool.true_eq_false, decide_true, decide_false, Nat.reduceLeDiff, Nat.reduceLT, Int.zero_add]
    rw [i1 _ hi]
    simp only [EV, Ab.isNon, args, List.map, List.length_cons, List.length_nil, List.length_singleton, List.replicate, Nat.reduceSub, Nat.reduceAdd, Nat.zero_add, List.cons_append, List.nil_append, List.getElem?_cons_zero, List.getElem?_cons_succ, List.set_cons_zero, List.set_cons_succ, Option.some.injEq, decide_eq_true_eq, Bool.not_eq_true', decide_eq_false_iff_not, ite_true, ite_false, if_true, if_false, reduceIte, Bool.false_eq_true, Bool.not_true, Bool.not_false, Bool.true_eq_false, decide_true, decide_false, Nat.reduceLeDiff, Nat.reduceLT, z2]
    first | trivial | exact ⟨trivial, trivial⟩ | exact ⟨trivial, rfl⟩
  have a1 := at_new (A := A) (o := .lst ((List.range (n + 1)).map fun i => .int (M i 0)))
  have G1 := Gr.app (A := A) (B := [.lst ((List.range (n + 1)).map fun i => .int (M i 0))])
  generalize A ++ [AO.lst ((List.range (n + 1)).map fun i => .int (M i 0))] = A1 at *
  simp only [EV, Ab.isNon, args, List.map, List.length_cons, List.length_nil, List.length_singleton, List.replicate, Nat.reduceSub, Nat.reduceAdd, Nat.zero_add, List.cons_append, List.nil_append, List.getElem?_cons_zero, List.getElem?_cons_succ, List.set_cons_zero, List.set_cons_succ, Option.some.injEq, decide_eq_true_eq, Bool.not_eq_true', decide_eq_false_iff_not, ite_true, ite_false, if_true, if_false, reduceIte, Bool.false_eq_true, Bool.not_true, Bool.not_false, Bool.true_eq_false, decide_true, decide_false, Nat.reduceLeDiff, Nat.reduceLT, ev_iseq_t, wipeA]
  refine comp_pure prD (fun p => .int p.2) (fun _ => trivial) (fun p hp l => ?_) (by omega) ?_
  · simp only [prD, EV, Ab.isNon, args, List.map, List.length_cons, List.length_nil, List.length_singleton, List.replicate, Nat.reduceSub, Nat.reduceAdd, Nat.zero_add, List.cons_append, List.nil_append, List.getElem?_cons_zero, List.getElem?_cons_succ, List.set_cons_zero, List.set_cons_succ, Option.some.injEq, decide_eq_true_eq, Bool.not_eq_true', decide_eq_false_iff_not, ite_true, ite_false, if_true, if_false, reduceIte, Bool.false_eq_true, Bool.not_true, Bool.not_false, Bool.true_eq_false, decide_true, decide_false, Nat.reduceLeDiff, Nat.reduceLT]
    first | trivial | exact ⟨trivial, trivial⟩ | exact ⟨trivial, rfl⟩
  have a2 := at_new (A := A1) (o := .lst (pr.map fun p => .int p.2))
  have a1 := (Gr.app (B := [.lst (pr.map fun p => D.int p.2)])).keep _ _ a1
  have G2 := G1.trans (Gr.app (B := [.lst (pr.map fun p => D.int p.2)]))
  generalize hA2 : A1 ++ [AO.lst (pr.map fun p => .int p.2)] = A2 at *
  have zz : ((List.range (n + 1)).map fun i => D.int (M i 0)).length + (pr.map fun p => D.int p.2).length ≤ sizeLine := sl_le (by simp; omega)
  rw [ev_add_rr (muL_l a1) (muL_l a2) zz, sat_ok]
  have e1 : ((List.range (n + 1)).map fun i => D.int (M i 0)) ++ (pr.map fun p => D.int p.2) = (List.range (n + 1 + k)).map fun i => .int (abv n M pr i) := by
    have := app_rg (n := n + 1) (fun i => M i 0) (pr.map Prod.snd)
    rw [List.map_map, List.length_map, hk] at this
    exact this
  rw [e1]
  have a3 := at_new (A := A2) (o := .lst ((List.range (n + 1 + k)).map fun i => .int (abv n M pr i)))
  have G3 := G2.trans (Gr.app (B := [.lst ((List.range (n + 1 + k)).map fun i => D.int (abv n M pr i))]))
  generalize A2 ++ [AO.lst ((List.range (n + 1 + k)).map fun i => .int (abv n M pr i))] = A3 at *
  generalize A2.length = P at *
  refine sat_seq ?_
  simp only [EV, Ab.isNon, args, List.map, List.length_cons, List.length_nil, List.length_singleton, List.replicate, Nat.reduceSub, Nat.reduceAdd, Nat.zero_add, List.cons_append, List.nil_append, List.getElem?_cons_zero, List.getElem?_cons_succ, List.set_cons_zero, List.set_cons_succ, Option.some.injEq, decide_eq_true_eq, Bool.not_eq_true', decide_eq_false_iff_not, ite_true, ite_false, if_true, if_false, reduceIte, Bool.false_eq_true, Bool.not_true, Bool.not_false, Bool.true_eq_false, decide_true, decide_false, Nat.reduceLeDiff, Nat.reduceLT, wipeA, z1]
  rw [if_pos (inRg_of (by omega) (by omega)), Int.toNat_natCast]
  refine comp_pure (fun i : Nat => .int (0 + (i : Nat))) (fun i => .int (M 0 i)) (fun _ => trivial) (fun i hi l => ?_) (by simp; omega) ?_
  · have hi := List.mem_range.mp hi
    simp only [EV, Ab.isNon, args, List.map, List.length_cons, List.length_nil, List.length_singleton, List.replicate, Nat.reduceSub, Nat.reduceAdd, Nat.zero_add, List.cons_append, List.nil_append, List.getElem?_cons_zero, List.getElem?_cons_succ, List.set_cons_zero, List.set_cons_succ, Option.some.injEq, decide_eq_true_eq, Bool.not_eq_true', decide_eq_false_iff_not, ite_true, ite_false, if_true, if_false, reduceIte, Bool.false_eq_true, Bool.not_true, Bool.not_false, Bool.true_eq_false, decide_true, decide_false, Nat.reduceLeDiff, Nat.reduceLT, Int.zero_add, z1, i2 _ hi]
    first | trivial | exact ⟨trivial, trivial⟩ | exact ⟨trivial, rfl⟩
  have a4 := at_new (A := A3) (o := .lst ((List.range (n + 1)).map fun i => .int (M 0 i)))
  have a3 := (Gr.app (B := [.lst ((List.range (n + 1)).map fun i => D.int (M 0 i))])).keep _ _ a3
  have G4 := G3.trans (Gr.app (B := [.lst ((List.range (n + 1)).map fun i => D.int (M 0 i))]))
  generalize A3 ++ [AO.lst ((List.range (n + 1)).map fun i => .int (M 0 i))] = A4 at *
  simp only [EV, Ab.isNon, args, List.map, List.length_cons, List.length_nil, List.length_singleton, List.replicate, Nat.reduceSub, Nat.reduceAdd, Nat.zero_add, List.cons_append, List.nil_append, List.getElem?_cons_zero, List.getElem?_cons_succ, List.set_cons_zero, List.set_cons_succ, Option.some.injEq, decide_eq_true_eq, Bool.not_eq_true', decide_eq_false_iff_not, ite_true, ite_false, if_true, if_false, reduceIte, Bool.false_eq_true, Bool.not_true, Bool.not_false, Bool.true_eq_false, decide_true, decide_false, Nat.reduceLeDiff, Nat.reduceLT, ev_iseq_t, wipeA]
  refine comp_pure prD (fun p => .int (-p.1)) (fun _ => trivial) (fun p hp l => ?_) (by omega) ?_
  · simp only [prD, EV, Ab.isNon, args, List.map, List.length_cons, List.length_nil, List.length_singleton, List.replicate, Nat.reduceSub, Nat.reduceAdd, Nat.zero_add, List.cons_append, List.nil_append, List.getElem?_cons_zero, List.getElem?_cons_succ, List.set_cons_zero, List.set_cons_succ, Option.some.injEq, decide_eq_true_eq, Bool.not_eq_true', decide_eq_false_iff_not, ite_true, ite_false, if_true, if_false, reduceIte, Bool.false_eq_true, Bool.not_true, Bool.not_false, Bool.true_eq_false, decide_true, decide_false, Nat.reduceLeDiff, Nat.reduceLT]
    first | trivial | exact ⟨trivial, trivial⟩ | exact ⟨trivial, rfl⟩
  have a5 := at_new (A := A4) (o := .lst (pr.map fun p => .int (-p.1)))
  have a4 := (Gr.app (B := [.lst (pr.map fun p => D.int (-p.1))])).keep _ _ a4
  have a3 := (Gr.app (B := [.lst (pr.map fun p => D.int (-p.1))])).keep _ _ a3
  have G5 := G4.trans (Gr.app (B := [.lst (pr.map fun p => D.int (-p.1))]))
  generalize A4 ++ [AO.lst (pr.map fun p => .int (-p.1))] = A5 at *
  have zz : ((List.range (n + 1)).map fun i => D.int (M 0 i)).length + (pr.map fun p => D.int (-p.1)).length ≤ sizeLine := sl_le (by simp; omega)
  rw [ev_add_rr (muL_l a4) (muL_l a5) zz, sat_ok]
  have e2 : ((List.range (n + 1)).map fun i => D.int (M 0 i)) ++ (pr.map fun p => D.int (-p.1)) = (List.range (n + 1 + k)).map fun i => .int (blw n M pr i) := by
    have := app_rg (n := n + 1) (fun i => M 0 i) (pr.map fun p => -p.1)
    rw [List.map_map, List.length_map, hk] at this
    exact this
  rw [e2]
  have a6 := at_new (A := A5) (o := .lst ((List.range (n + 1 + k)).map fun i => .int (blw n M pr i)))
  have a3 := (Gr.app (B := [.lst ((List.range (n + 1 + k)).map fun i => D.int (blw n M pr i))])).keep _ _ a3
  have G6 := G5.trans (Gr.app (B := [.lst ((List.range (n + 1 + k)).map fun i => D.int (blw n M pr i))]))
  generalize A5 ++ [AO.lst ((List.range (n + 1 + k)).map fun i => .int (blw n M pr i))] = A6 at *
  generalize A5.length = Q at *
  refine sat_seq ?_
  simp only [EV, Ab.isNon, args, List.map, List.length_cons, List.length_nil, List.length_singleton, List.replicate, Nat.reduceSub, Nat.reduceAdd, Nat.zero_add, List.cons_append, List.nil_append, List.getElem?_cons_zero, List.getElem?_cons_succ, List.set_cons_zero, List.set_cons_succ, Option.some.injEq, decide_eq_true_eq, Bool.not_eq_true', decide_eq_false_iff_not, ite_true, ite_false, if_true, if_false, reduceIte, Bool.false_eq_true, Bool.not_true, Bool.not_false, Bool.true_eq_false, decide_true, decide_false, Nat.reduceLeDiff, Nat.reduceLT]
  refine sat_seq ?_
  have a7 := at_new (A := A6) (o := .lst [])
  have a3 := (Gr.app (B := [AO.lst []])).keep _ _ a3
  have a6 := (Gr.app (B := [AO.lst []])).keep _ _ a6
  have G7 := G6.trans (Gr.app (B := [AO.lst []]))
  have lP := at_lt a3
  have lQ := at_lt a6
  have nP : P ≠ A6.length := fun e => by
    rw [e, a7] at a3
    have := congrArg List.length (AO.lst.inj (Option.some.inj a3)); rw [List.length_map, List.length_range, List.length_nil] at this; omega
  have nQ : Q ≠ A6.length := fun e => by
    rw [e, a7] at a6
    have := congrArg List.length (AO.lst.inj (Option.some.inj a6)); rw [List.length_map, List.length_range, List.length_nil] at this; omega
  have lR := G6.le
  generalize A6 ++ [AO.lst []] = A7 at *
  generalize A6.length = R at *
  have lnr : ∀ {q m : Nat} {f : Nat → Int} {A : AH}, A[q]? = some (.lst ((List.range m).map fun j => .int (f j))) → lenD [.ref q] A = .ok (.int (m : Nat)) A := fun h => (ev_len_r (rdL_l h)).trans (by simp)
  simp only [EV, Ab.isNon, args, List.map, List.length_cons, List.length_nil, List.length_singleton, List.replicate, Nat.reduceSub, Nat.reduceAdd, Nat.zero_add, List.cons_append, List.nil_append, List.getElem?_cons_zero, List.getElem?_cons_succ, List.set_cons_zero, List.set_cons_succ, Option.some.injEq, decide_eq_true_eq, Bool.not_eq_true', decide_eq_false_iff_not, ite_true, ite_false, if_true, if_false, reduceIte, Bool.false_eq_true, Bool.not_true, Bool.not_false, Bool.true_eq_false, decide_true, decide_false, Nat.reduceLeDiff, Nat.reduceLT, lnr a3]
  rw [if_pos (inRg_of (by omega) (by omega)), Int.toNat_natCast]
  refine range_inv (fun i σ B => Gr A B ∧ (∃ x y z u w, σ = [some (.tup ds), some (.tup (pr.map prD)), some (.int ((n + 1 : Nat) : Int)), some (.ref P), x, y, z, some (.ref Q), u, some (.ref R), w]) ∧
      B[P]? = some (.lst ((List.range (n + 1 + k)).map fun i => .int (abv n M pr i))) ∧ B[Q]? = some (.lst ((List.range (n + 1 + k)).map fun i => .int (blw n M pr i))) ∧ ∃ c : Nat → Nat, B[R]? = some (.lst ((List.range i).map fun i => .ref (c i))) ∧ ∀ a, a < i → R < c a ∧ B[c a]? = some (.lst ((List.range (n + 1 + k)).map fun j => .int (addf n M pr a j))))
    (fun i σ B hi ⟨G, ⟨x, y, z, u, w, hσ⟩, hP, hQ, c, hR, hc⟩ => ?_) (fun σ B ⟨G, ⟨x, y, z, u, w, hσ⟩, hP, hQ, c, hR, hc⟩ => ?_) ⟨G7, ⟨_, _, _, _, _, rfl⟩, a3, a6, fun _ => 0, a7, fun _ h => absurd h (Nat.not_lt_zero _)⟩
  · subst hσ
    have lB := at_lt hR
    simp only [EV, Ab.isNon, args, List.map, List.length_cons, List.length_nil, List.length_singleton, List.replicate, Nat.reduceSub, Nat.reduceAdd, Nat.zero_add, List.cons_append, List.nil_append, List.getElem?_cons_zero, List.getElem?_cons_succ, List.set_cons_zero, List.set_cons_succ, Option.some.injEq, decide_eq_true_eq, Bool.not_eq_true', decide_eq_false_iff_not, ite_true, ite_false, if_true, if_false, reduceIte, Bool.false_eq_true, Bool.not_true, Bool.not_false, Bool.true_eq_false, decide_true, decide_false, Nat.reduceLeDiff, Nat.reduceLT, Int.zero_add]
    refine sat_seq ?_
    simp only [EV, Ab.isNon, args, List.map, List.length_cons, List.length_nil, List.length_singleton, List.replicate, Nat.reduceSub, Nat.reduceAdd, Nat.zero_add, List.cons_append, List.nil_append, List.getElem?_cons_zero, List.getElem?_cons_succ, List.set_cons_zero, List.set_cons_succ, Option.some.injEq, decide_eq_true_eq, Bool.not_eq_true', decide_eq_false_iff_not, ite_true, ite_false, if_true, if_false, reduceIte, Bool.false_eq_true, Bool.not_true, Bool.not_false, Bool.true_eq_false, decide_true, decide_false, Nat.reduceLeDiff, Nat.reduceLT, lnr hP, wipeA]
    rw [if_pos (inRg_of (by omega) (by omega)), Int.toNat_natCast]
    refine comp_pure (fun j : Nat => .int (0 + (j : Nat))) (fun j => .int (abv n M pr i + blw n M pr j)) (fun _ => trivial) (fun j hj l => ?_) (by simp; omega) ?_
    · have hj := List.mem_range.mp hj
      simp only [EV, Ab.isNon, args, List.map, List.length_cons, List.length_nil, List.length_singleton, List.replicate, Nat.reduceSub, Nat.reduceAdd, Nat.zero_add, List.cons_append, List.nil_append, List.getElem?_cons_zero, List.getElem?_cons_succ, List.set_cons_zero, List.set_cons_succ, Option.some.injEq, decide_eq_true_eq, Bool.not_eq_true', decide_eq_false_iff_not, ite_true, ite_false, if_true, if_false, reduceIte, Bool.false_eq_true, Bool.not_true, Bool.not_false, Bool.true_eq_false, decide_true, decide_false, Nat.reduceLeDiff, Nat.reduceLT, Int.zero_add, ix_rowL (Gr.app.keep _ _ hP) hi, ix_rowL (Gr.app.keep _ _ hQ) hj]
      first | trivial | exact ⟨trivial, trivial⟩ | exact ⟨trivial, rfl⟩
    have b1 := at_new (A := B) (o := .lst ((List.range (n + 1 + k)).map fun j => D.int (abv n M pr i + blw n M pr j)))
    have g := Gr.app (A := B) (B := [.lst ((List.range (n + 1 + k)).map fun j => D.int (abv n M pr i + blw n M pr j))])
    have hP0 := hP
    have hQ0 := hQ
    have hc0 := hc
    have hP := g.keep _ _ hP
    have hQ := g.keep _ _ hQ
    have hR := g.keep _ _ hR
    have hc : ∀ a, a < i → R < c a ∧ (B ++ [.lst ((List.range (n + 1 + k)).map fun j => D.int (abv n M pr i + blw n M pr j))])[c a]? = some (.lst ((List.range (n + 1 + k)).map fun j => .int (addf n M pr a j))) := fun a ha => ⟨(hc a ha).1, g.keep _ _ (hc a ha).2⟩
    have hcl : ∀ a, a < i → c a < B.length := fun a ha => at_lt (hc0 a ha).2
    have G := G.trans g
    have lPB : P < B.length ∧ Q < B.length := ⟨at_lt hP0, at_lt hQ0⟩
    have lRA : A.length ≤ B.length := by omega
    generalize B ++ [.lst ((List.range (n + 1 + k)).map fun j => D.int (abv n M pr i + blw n M pr j))] = B1 at *
    generalize B.length = q at *
    refine sat_seq ?_
    have st : stD (.ref q) (.int (i : Nat)) (.int 0) B1 = .ok () (B1.set q (.lst (((List.range (n + 1 + k)).map fun j => D.int (abv n M pr i + blw n M pr j)).set i (.int 0)))) := ev_st_l b1 (by rw [ixN_pos (by omega) (by simp; omega), Int.toNat_natCast])
    simp only [EV, Ab.isNon, args, List.map, List.length_cons, List.length_nil, List.length_singleton, List.replicate, Nat.reduceSub, Nat.reduceAdd, Nat.zero_add, List.cons_append, List.nil_append, List.getElem?_cons_zero, List.getElem?_cons_succ, List.set_cons_zero, List.set_cons_succ, Option.some.injEq, decide_eq_true_eq, Bool.not_eq_true', decide_eq_false_iff_not, ite_true, ite_false, if_true, if_false, reduceIte, Bool.false_eq_true, Bool.not_true, Bool.not_false, Bool.true_eq_false, decide_true, decide_false, Nat.reduceLeDiff, Nat.reduceLT, st, set_rg]
    refine sat_seq ?_
    have b2 := at_set (o := .lst ((List.range (n + 1 + k)).map fun j => D.int (if j = i then 0 else abv n M pr i + blw n M pr j))) (at_lt b1)
    have G := G.set (o := .lst ((List.range (n + 1 + k)).map fun j => D.int (if j = i then 0 else abv n M pr i + blw n M pr j))) lRA
    have keep : ∀ (a : Nat) o, a ≠ q → B1[a]? = some o → (B1.set q (.lst ((List.range (n + 1 + k)).map fun j => D.int (if j = i then 0 else abv n M pr i + blw n M pr j))))[a]? = some o := fun a o e h => by rw [List.getElem?_set_ne (Ne.symm e)]; exact h
    have hP := keep _ _ (by omega) hP
    have hQ := keep _ _ (by omega) hQ
    have hR := keep _ _ (by omega) hR
    have hc : ∀ a, a < i → _ ∧ _ := fun a ha => ⟨(hc a ha).1, keep _ _ (by have := hcl a ha; omega) (hc a ha).2⟩
    generalize B1.set q (.lst ((List.range (n + 1 + k)).map fun j => D.int (if j = i then 0 else abv n M pr i + blw n M pr j))) = B2 at *
    refine Sat.imp (P := fun fl B3 => fl = .nx [some (.tup ds), some (.tup (pr.map prD)), some (.int ((n + 1 : Nat) : Int)), some (.ref P), some (.int (i : Nat)), y, z, some (.ref Q), u, some (.ref R), some (.ref q)] ∧ Gr A B3 ∧ (∀ (a : Nat) o, a ≠ q → B2[a]? = some o → B3[a]? = some o) ∧ B3[q]? = some (.lst ((List.range (n + 1 + k)).map fun j => .int (addf n M pr i j)))) ?_ fun fl B3 ⟨e, G, keep, b3⟩ => ?_
    · simp only [EV, Ab.isNon, args, List.map, List.length_cons, List.length_nil, List.length_singleton, List.replicate, Nat.reduceSub, Nat.reduceAdd, Nat.zero_add, List.cons_append, List.nil_append, List.getElem?_cons_zero, List.getElem?_cons_succ, List.set_cons_zero, List.set_cons_succ, Option.some.injEq, decide_eq_true_eq, Bool.not_eq_true', decide_eq_false_iff_not, ite_true, ite_false, if_true, if_false, reduceIte, Bool.false_eq_true, Bool.not_true, Bool.not_false, Bool.true_eq_false, decide_true, decide_false, Nat.reduceLeDiff, Nat.reduceLT]
      split
      · rename_i lt
        have lt : i < n + 1 := by omega
        simp only [EV, Ab.isNon, args, List.map, List.length_cons, List.length_nil, List.length_singleton, List.replicate, Nat.reduceSub, Nat.reduceAdd, Nat.zero_add, List.cons_append, List.nil_append, List.getElem?_cons_zero, List.getElem?_cons_succ, List.set_cons_zero, List.set_cons_succ, Option.some.injEq, decide_eq_true_eq, Bool.not_eq_true', decide_eq_false_iff_not, ite_true, ite_false, if_true, if_false, reduceIte, Bool.false_eq_true, Bool.not_true, Bool.not_false, Bool.true_eq_false, decide_true, decide_false, Nat.reduceLeDiff, Nat.reduceLT, i1 _ lt, ev_gHd]
        rw [show rowD (n + 1) (M i) = .tup ((List.range (n + 1)).map fun j => .int (M i j)) from rfl, ev_hd b2 (by omega) (by simp; omega) (by simp; omega), Int.toNat_natCast, drop_rg _ _ (by omega)]
        simp only [EV, Ab.isNon, args, List.map, List.length_cons, List.length_nil, List.length_singleton, List.replicate, Nat.reduceSub, Nat.reduceAdd, Nat.zero_add, List.cons_append, List.nil_append, List.getElem?_cons_zero, List.getElem?_cons_succ, List.set_cons_zero, List.set_cons_succ, Option.some.injEq, decide_eq_true_eq, Bool.not_eq_true', decide_eq_false_iff_not, ite_true, ite_false, if_true, if_false, reduceIte, Bool.false_eq_true, Bool.not_true, Bool.not_false, Bool.true_eq_false, decide_true, decide_false, Nat.reduceLeDiff, Nat.reduceLT]
        refine ⟨trivial, G.set lRA, fun a o e h => by rw [List.getElem?_set_ne (Ne.symm e)]; exact h, ?_⟩
        rw [at_set (at_lt b2)]
        congr 2
        refine List.map_congr_left fun j hj => ?_
        have hj := List.mem_range.mp hj
        unfold addf
        by_cases c : j < n + 1
        · rw [if_pos c, if_pos ⟨lt, c⟩]
        · rw [if_neg c, if_neg (show ¬ (i < n + 1 ∧ j < n + 1) from fun z => c z.2)]
      · rename_i lt
        have lt : ¬ i < n + 1 := by omega
        refine ⟨trivial, G, fun _ _ _ h => h, ?_⟩
        rw [b2]
        congr 2
        refine List.map_congr_left fun j hj => ?_
        unfold addf
        rw [if_neg (show ¬ (i < n + 1 ∧ j < n + 1) from fun z => lt z.1)]
    · subst e
      have hR := keep _ _ (by omega) hR
      simp only [EV, Ab.isNon, args, List.map, List.length_cons, List.length_nil, List.length_singleton, List.replicate, Nat.reduceSub, Nat.reduceAdd, Nat.zero_add, List.cons_append, List.nil_append, List.getElem?_cons_zero, List.getElem?_cons_succ, List.set_cons_zero, List.set_cons_succ, Option.some.injEq, decide_eq_true_eq, Bool.not_eq_true', decide_eq_false_iff_not, ite_true, ite_false, if_true, if_false, reduceIte, Bool.false_eq_true, Bool.not_true, Bool.not_false, Bool.true_eq_false, decide_true, decide_false, Nat.reduceLeDiff, Nat.reduceLT, ty_l hR]
      rw [ev_app hR (by simp; omega)]
      simp only [EV, Ab.isNon, args, List.map, List.length_cons, List.length_nil, List.length_singleton, List.replicate, Nat.reduceSub, Nat.reduceAdd, Nat.zero_add, List.cons_append, List.nil_append, List.getElem?_cons_zero, List.getElem?_cons_succ, List.set_cons_zero, List.set_cons_succ, Option.some.injEq, decide_eq_true_eq, Bool.not_eq_true', decide_eq_false_iff_not, ite_true, ite_false, if_true, if_false, reduceIte, Bool.false_eq_true, Bool.not_true, Bool.not_false, Bool.true_eq_false, decide_true, decide_false, Nat.reduceLeDiff, Nat.reduceLT, turn_]
      obtain ⟨c', c1, c2⟩ := rows_snoc hR (fun a ha => ⟨(hc a ha).1, keep _ _ (by have := hcl a ha; omega) (hc a ha).2⟩) b3 (by omega)
      refine ⟨G.set lR, ⟨_, _, _, _, _, rfl⟩, ?_, ?_, c', c1, c2⟩
      · rw [List.getElem?_set_ne (Ne.symm nP)]; exact keep _ _ (by omega) hP
      · rw [List.getElem?_set_ne (Ne.symm nQ)]; exact keep _ _ (by omega) hQ
  · subst hσ
    simp only [EV, Ab.isNon, args, List.map, List.length_cons, List.length_nil, List.length_singleton, List.replicate, Nat.reduceSub, Nat.reduceAdd, Nat.zero_add, List.cons_append, List.nil_append, List.getElem?_cons_zero, List.getElem?_cons_succ, List.set_cons_zero, List.set_cons_succ, Option.some.injEq, decide_eq_true_eq, Bool.not_eq_true', decide_eq_false_iff_not, ite_true, ite_false, if_true, if_false, reduceIte, Bool.false_eq_true, Bool.not_true, Bool.not_false, Bool.true_eq_false, decide_true, decide_false, Nat.reduceLeDiff, Nat.reduceLT]
    refine Sat.imp (frozen_spec c hR (fun a ha => (hc a ha).2) (by omega)) fun d C ⟨e, G2⟩ => ?_
    exact ⟨G.trans G2, e⟩
/-! ### columns by number -/
def clD (cs : List Nat) : D := .tup (cs.map fun c => .int (c : Nat))
def plc (cs : List Nat) (a : Nat) : Nat := (0 :: cs).getD a 0
theorem plc_ix {cs : List Nat} {a : Nat} {A : AH} (h : a < cs.length + 1) : ixD (.tup (D.int 0 :: cs.map fun c => .int (c : Nat))) (.int (a : Nat)) A = .ok (.int ((plc cs a : Nat) : Int)) A := ev_ix_t (by
  rw [atI_pos (by omega), Int.toNat_natCast, show D.int 0 :: cs.map (fun c => D.int (c : Nat)) = (0 :: cs).map fun c => D.int ((c : Nat) : Int) from rfl, List.getElem?_map]
  have : a < (0 :: cs).length := by simpa using h
  unfold plc
  rw [List.getD_eq_getElem?_getD, List.getElem?_eq_getElem this]; rfl)
theorem plc_lt {cs : List Nat} {n a : Nat} (h : ∀ c ∈ cs, c ≤ n) : plc cs a < n + 1 := by
  unfold plc
  rw [List.getD_eq_getElem?_getD]
  cases e : (0 :: cs)[a]? with
  | none => show 0 < n + 1; omega
  | some v =>
    show v < n + 1
    rcases List.mem_cons.mp (List.mem_of_getElem? e) with h' | h'
    · omega
    · have := h v h'; omega
theorem plc_map (cs : List Nat) : (D.int 0 :: cs.map fun c => .int (c : Nat)) = (List.range (cs.length + 1)).map fun a => .int ((plc cs a : Nat) : Int) := by
  apply List.ext_getElem (by simp)
  intro a h1 h2
  have ha : a < cs.length + 1 := by simpa using h2
  rw [List.getElem_map, List.getElem_range]
  cases a with
  | zero => rfl
  | succ a =>
    rw [List.getElem_cons_succ, List.getElem_map]
    unfold plc
    rw [List.getD_eq_getElem?_getD, List.getElem?_cons_succ, List.getElem?_eq_getElem (by omega)]; rfl
theorem non_pick {A : AH} {d : D} : m_pick_columns [.non, d] A = .ok .non A := by
  have key : Sat (m_pick_columns [.non, d] A) fun d A' => d = .non ∧ A' = A := by
    refine sat_body rfl (sat_seq ?_)
    simp only [EV, Ab.isNon, args, List.map, List.length_cons, List.length_nil, List.length_singleton, List.replicate, Nat.reduceSub, Nat.reduceAdd, Nat.zero_add, List.cons_append, List.nil_append, List.getElem?_cons_zero, List.getElem?_cons_succ, List.set_cons_zero, List.set_cons_succ, Option.some.injEq, decide_eq_true_eq, Bool.not_eq_true', decide_eq_false_iff_not, ite_true, ite_false, if_true, if_false, reduceIte, Bool.false_eq_true, Bool.not_true, Bool.not_false, Bool.true_eq_false, decide_true, decide_false, Nat.reduceLeDiff, Nat.reduceLT]
    trivial
  obtain ⟨d, A', e, rfl, rfl⟩ := key.eq
  exact e
theorem pick_spec2 {A : AH} {n : Nat} {M : Mx} {cs : List Nat} (hl : cs.length ≤ 100) (hc : ∀ c ∈ cs, c ≤ n) : Sat (m_pick_columns [matD (n + 1) M, clD cs] A) fun d A' => Gr A A' ∧ d = matD (cs.length + 1) (fun a b => M (plc cs a) (plc cs b)) := by
  refine sat_body rfl (sat_seq ?_)
  have i1 : ∀ {k : Nat} A, k < n + 1 → ixD (matD (n + 1) M) (.int (k : Nat)) A = .ok (rowD (n + 1) (M k)) A := fun A h => ix_mat h
  have i2 : ∀ {k l : Nat} A, l < n + 1 → ixD (rowD (n + 1) (M k)) (.int (l : Nat)) A = .ok (.int (M k l)) A := fun A h => ix_row h
  obtain ⟨ds, hd⟩ : ∃ ds, matD (n + 1) M = .tup ds := ⟨_, rfl⟩
  simp only [hd] at i1 ⊢
  have pl := fun a => plc_lt (a := a) hc
  simp only [EV, Ab.isNon, args, List.map, List.length_cons, List.length_nil, List.length_singleton, List.replicate, Nat.reduceSub, Nat.reduceAdd, Nat.zero_add, List.cons_append, List.nil_append, List.getElem?_cons_zero, List.getElem?_cons_succ, List.set_cons_zero, List.set_cons_succ, Option.some.injEq, decide_eq_true_eq, Bool.not_eq_true', decide_eq_false_iff_not, ite_true, ite_false, if_true, if_false, reduceIte, Bool.false_eq_true, Bool.not_true, Bool.not_false, Bool.true_eq_false, decide_true, decide_false, Nat.reduceLeDiff, Nat.reduceLT]
  refine sat_seq ?_
  have z : [D.int 0].length + (cs.map fun c => D.int (c : Nat)).length ≤ sizeLine := sl_le (by simp; omega)
  have a1 : ∀ A, addD (.tup [.int 0]) (clD cs) A = .ok (.tup ((List.range (cs.length + 1)).map fun a => .int ((plc cs a : Nat) : Int))) A := fun A => by
    rw [← plc_map]; exact ev_add_tt z
  simp only [EV, Ab.isNon, args, List.map, List.length_cons, List.length_nil, List.length_singleton, List.replicate, Nat.reduceSub, Nat.reduceAdd, Nat.zero_add, List.cons_append, List.nil_append, List.getElem?_cons_zero, List.getElem?_cons_succ, List.set_cons_zero, List.set_cons_succ, Option.some.injEq, decide_eq_true_eq, Bool.not_eq_true', decide_eq_false_iff_not, ite_true, ite_false, if_true, if_false, reduceIte, Bool.false_eq_true, Bool.not_true, Bool.not_false, Bool.true_eq_false, decide_true, decide_false, Nat.reduceLeDiff, Nat.reduceLT, a1]
  refine sat_seq ?_
  simp only [EV, Ab.isNon, args, List.map, List.length_cons, List.length_nil, List.length_singleton, List.replicate, Nat.reduceSub, Nat.reduceAdd, Nat.zero_add, List.cons_append, List.nil_append, List.getElem?_cons_zero, List.getElem?_cons_succ, List.set_cons_zero, List.set_cons_succ, Option.some.injEq, decide_eq_true_eq, Bool.not_eq_true', decide_eq_false_iff_not, ite_true, ite_false, if_true, if_false, reduceIte, Bool.false_eq_true, Bool.not_true, Bool.not_false, Bool.true_eq_false, decide_true, decide_false, Nat.reduceLeDiff, Nat.reduceLT]
  refine sat_seq ?_
  have hR := at_new (A := A) (o := .lst [])
  simp only [EV, Ab.isNon, args, List.map, List.length_cons, List.length_nil, List.length_singleton, List.replicate, Nat.reduceSub, Nat.reduceAdd, Nat.zero_add, List.cons_append, List.nil_append, List.getElem?_cons_zero, List.getElem?_cons_succ, List.set_cons_zero, List.set_cons_succ, Option.some.injEq, decide_eq_true_eq, Bool.not_eq_true', decide_eq_false_iff_not, ite_true, ite_false, if_true, if_false, reduceIte, Bool.false_eq_true, Bool.not_true, Bool.not_false, Bool.true_eq_false, decide_true, decide_false, Nat.reduceLeDiff, Nat.reduceLT, ev_iseq_t]
  refine for_cnt (fun k σ B => Gr A B ∧ (∃ x y, σ = [some (.tup ds), some (clD cs), some (.tup ((List.range (cs.length + 1)).map fun a => .int ((plc cs a : Nat) : Int))), some (.ref A.length), x, y]) ∧ ∃ c : Nat → Nat, B[A.length]? = some (.lst ((List.range k).map fun i => .ref (c i))) ∧ ∀ i, i < k → A.length < c i ∧ B[c i]? = some (.lst ((List.range (cs.length + 1)).map fun j => .int (M (plc cs i) (plc cs j)))))
    (fun k σ B hk ⟨G, ⟨x, y, hσ⟩, c, hB, hc⟩ => ⟨trivial, ?_⟩) (fun σ B ⟨G, ⟨x, y, hσ⟩, c, hB, hc⟩ => ⟨trivial, ?_⟩) ⟨.app, ⟨none, none, rfl⟩, fun _ => 0, hR, fun _ h => absurd h (Nat.not_lt_zero _)⟩
  · subst hσ
    simp only [EV, Ab.isNon, args, List.map, List.length_cons, List.length_nil, List.length_singleton, List.replicate, Nat.reduceSub, Nat.reduceAdd, Nat.zero_add, List.cons_append, List.nil_append, List.getElem?_cons_zero, List.getElem?_cons_succ, List.set_cons_zero, List.set_cons_succ, Option.some.injEq, decide_eq_true_eq, Bool.not_eq_true', decide_eq_false_iff_not, ite_true, ite_false, if_true, if_false, reduceIte, Bool.false_eq_true, Bool.not_true, Bool.not_false, Bool.true_eq_false, decide_true, decide_false, Nat.reduceLeDiff, Nat.reduceLT, ty_l hB, ev_iseq_t, wipeA]
    refine comp_pure (fun a : Nat => .int ((plc cs a : Nat) : Int)) (fun j => .int (M (plc cs k) (plc cs j))) (fun _ => trivial) (fun j hj l => ?_) (by simp; omega) ?_
    · simp only [EV, Ab.isNon, args, List.map, List.length_cons, List.length_nil, List.length_singleton, List.replicate, Nat.reduceSub, Nat.reduceAdd, Nat.zero_add, List.cons_append, List.nil_append, List.getElem?_cons_zero, List.getElem?_cons_succ, List.set_cons_zero, List.set_cons_succ, Option.some.injEq, decide_eq_true_eq, Bool.not_eq_true', decide_eq_false_iff_not, ite_true, ite_false, if_true, if_false, reduceIte, Bool.false_eq_true, Bool.not_true, Bool.not_false, Bool.true_eq_false, decide_true, decide_false, Nat.reduceLeDiff, Nat.reduceLT, i1 _ (pl k), i2 _ (pl j)]
      first | trivial | exact ⟨trivial, trivial⟩ | exact ⟨trivial, rfl⟩
    · have b1 := at_new (A := B) (o := .lst ((List.range (cs.length + 1)).map fun j => D.int (M (plc cs k) (plc cs j))))
      have g := Gr.app (A := B) (B := [.lst ((List.range (cs.length + 1)).map fun j => D.int (M (plc cs k) (plc cs j)))])
      have lB := at_lt hB
      have hB := g.keep _ _ hB
      rw [ev_app hB (by simp; omega)]
      simp only [EV, Ab.isNon, args, List.map, List.length_cons, List.length_nil, List.length_singleton, List.replicate, Nat.reduceSub, Nat.reduceAdd, Nat.zero_add, List.cons_append, List.nil_append, List.getElem?_cons_zero, List.getElem?_cons_succ, List.set_cons_zero, List.set_cons_succ, Option.some.injEq, decide_eq_true_eq, Bool.not_eq_true', decide_eq_false_iff_not, ite_true, ite_false, if_true, if_false, reduceIte, Bool.false_eq_true, Bool.not_true, Bool.not_false, Bool.true_eq_false, decide_true, decide_false, Nat.reduceLeDiff, Nat.reduceLT, turn_]
      obtain ⟨c', c1, c2⟩ := rows_snoc (f := fun a b => M (plc cs a) (plc cs b)) hB (fun a ha => ⟨(hc a ha).1, g.keep _ _ (hc a ha).2⟩) b1 lB
      exact ⟨(G.trans g).set (Nat.le_refl _), ⟨_, _, rfl⟩, c', c1, c2⟩
  · subst hσ
    simp only [EV, Ab.isNon, args, List.map, List.length_cons, List.length_nil, List.length_singleton, List.replicate, Nat.reduceSub, Nat.reduceAdd, Nat.zero_add, List.cons_append, List.nil_append, List.getElem?_cons_zero, List.getElem?_cons_succ, List.set_cons_zero, List.set_cons_succ, Option.some.injEq, decide_eq_true_eq, Bool.not_eq_true', decide_eq_false_iff_not, ite_true, ite_false, if_true, if_false, reduceIte, Bool.false_eq_true, Bool.not_true, Bool.not_false, Bool.true_eq_false, decide_true, decide_false, Nat.reduceLeDiff, Nat.reduceLT]
    exact Sat.imp (frozen_spec (f := fun a b => M (plc cs a) (plc cs b)) c hB (fun a ha => (hc a ha).2) (by omega)) fun d C ⟨e, G2⟩ => ⟨G.trans G2, e⟩
/-! ### a column freed, a column shifted -/
theorem non_free {A : AH} {d e f : D} : m_free_column [.non, d, e, f] A = .ok .non A := by
  have key : Sat (m_free_column [.non, d, e, f] A) fun d A' => d = .non ∧ A' = A := by
    refine sat_body rfl (sat_seq ?_)
    simp only [EV, Ab.isNon, args, List.map, List.length_cons, List.length_nil, List.length_singleton, List.replicate, Nat.reduceSub, Nat.reduceAdd, Nat.zero_add, List.cons_append, List.nil_append, List.getElem?_cons_zero, List.getElem?_cons_succ, List.set_cons_zero, List.set_cons_succ, Option.some.injEq, decide_eq_true_eq, Bool.not_eq_true', decide_eq_false_iff_not, ite_true, ite_false, if_true, if_false, reduceIte, Bool.false_eq_true, Bool.not_true, Bool.not_false, Bool.true_eq_false, decide_true, decide_false, Nat.reduceLeDiff, Nat.reduceLT]
    trivial
  obtain ⟨d, A', e, rfl, rfl⟩ := key.eq
  exact e
theorem no_free {A : AH} {m : Nat} {o : Option Mx} {d : D} {l h : Int} (lt : h < l) : m_free_column [outD m o, d, .int l, .int h] A = .ok .non A := by
  have key : Sat (m_free_column [outD m o, d, .int l, .int h] A) fun d A' => d = .non ∧ A' = A := by
    refine sat_body rfl (sat_seq ?_)
    cases o with
    | none => simp only [outD, EV, Ab.isNon, args, List.map, List.length_cons, List.length_nil, List.length_singleton, List.replicate, Nat.reduceSub, Nat.reduceAdd, Nat.zero_add, List.cons_append, List.nil_append, List.getElem?_cons_zero, List.getElem?_cons_succ, List.set_cons_zero, List.set_cons_succ, Option.some.injEq, decide_eq_true_eq, Bool.not_eq_true', decide_eq_false_iff_not, ite_true, ite_false, if_true, if_false, reduceIte, Bool.false_eq_true, Bool.not_true, Bool.not_false, Bool.true_eq_false, decide_true, decide_false, Nat.reduceLeDiff, Nat.reduceLT]; trivial
    | some M =>
      obtain ⟨ds, hd⟩ : ∃ ds, outD m (some M) = .tup ds := ⟨_, rfl⟩
      rw [hd]
      simp only [EV, Ab.isNon, args, List.map, List.length_cons, List.length_nil, List.length_singleton, List.replicate, Nat.reduceSub, Nat.reduceAdd, Nat.zero_add, List.cons_append, List.nil_append, List.getElem?_cons_zero, List.getElem?_cons_succ, List.set_cons_zero, List.set_cons_succ, Option.some.injEq, decide_eq_true_eq, Bool.not_eq_true', decide_eq_false_iff_not, ite_true, ite_false, if_true, if_false, reduceIte, Bool.false_eq_true, Bool.not_true, Bool.not_false, Bool.true_eq_false, decide_true, decide_false, Nat.reduceLeDiff, Nat.reduceLT, lt]; trivial
  obtain ⟨d, A', e, rfl, rfl⟩ := key.eq
  exact e
def freef (i : Nat) (l h : Int) (M : Mx) : Mx := fun a b => if a = i then (if b = i then 0 else h + M 0 b) else if b = i then M a 0 - l else M a b
def shiftf (i : Nat) (l h : Int) (M : Mx) : Mx := fun a b => if a = i then (if b = i then 0 else M i b + h) else if b = i then M a i - l else M a b
theorem free_spec {A : AH} {n i : Nat} {l h : Int} {M : Mx} (hn : n ≤ 100) (hi : i < n + 1) (le : ¬ h < l) : Sat (m_free_column [matD (n + 1) M, .int (i : Nat), .int l, .int h] A) fun d A' => Gr A A' ∧ d = matD (n + 1) (freef i l h M) := by
  refine sat_body rfl (sat_seq ?_)
  have i1 : ∀ {k : Nat} A, k < n + 1 → ixD (matD (n + 1) M) (.int (k : Nat)) A = .ok (rowD (n + 1) (M k)) A := fun A h => ix_mat h
  have i2 : ∀ {k l : Nat} A, l < n + 1 → ixD (rowD (n + 1) (M k)) (.int (l : Nat)) A = .ok (.int (M k l)) A := fun A h => ix_row h
  have z1 : ∀ A, ixD (matD (n + 1) M) (.int 0) A = .ok (rowD (n + 1) (M 0)) A := fun A => i1 (k := 0) A (by omega)
  have z2 : ∀ {k : Nat} A, ixD (rowD (n + 1) (M k)) (.int 0) A = .ok (.int (M k 0)) A := fun A => i2 (l := 0) A (by omega)
  have ln : ∀ A, lenD [matD (n + 1) M] A = .ok (.int ((n + 1 : Nat) : Int)) A := fun A => by
    show lenD [.tup _] A = _
    rw [ev_len_t]; simp
  have lo : ∀ k A, lstOf [rowD (n + 1) (M k)] A = .ok (.ref A.length) (A ++ [.lst ((List.range (n + 1)).map fun j => .int (M k j))]) := fun k A => rfl
  obtain ⟨ds, hd, dl⟩ : ∃ ds, matD (n + 1) M = .tup ds ∧ ds.length = n + 1 := ⟨_, rfl, by simp⟩
  simp only [hd] at i1 z1 ln ⊢
  simp only [EV, Ab.isNon, args, List.map, List.length_cons, List.length_nil, List.length_singleton, List.replicate, Nat.reduceSub, Nat.reduceAdd, Nat.zero_add, List.cons_append, List.nil_append, List.getElem?_cons_zero, List.getElem?_cons_succ, List.set_cons_zero, List.set_cons_succ, Option.some.injEq, decide_eq_true_eq, Bool.not_eq_true', decide_eq_false_iff_not, ite_true, ite_false, if_true, if_false, reduceIte, Bool.false_eq_true, Bool.not_true, Bool.not_false, Bool.true_eq_false, decide_true, decide_false, Nat.reduceLeDiff, Nat.reduceLT, le]
  refine sat_seq ?_
  simp only [EV, Ab.isNon, args, List.map, List.length_cons, List.length_nil, List.length_singleton, List.replicate, Nat.reduceSub, Nat.reduceAdd, Nat.zero_add, List.cons_append, List.nil_append, List.getElem?_cons_zero, List.getElem?_cons_succ, List.set_cons_zero, List.set_cons_succ, Option.some.injEq, decide_eq_true_eq, Bool.not_eq_true', decide_eq_false_iff_not, ite_true, ite_false, if_true, if_false, reduceIte, Bool.false_eq_true, Bool.not_true, Bool.not_false, Bool.true_eq_false, decide_true, decide_false, Nat.reduceLeDiff, Nat.reduceLT]
  refine sat_seq ?_
  have hR := at_new (A := A) (o := .lst [])
  simp only [EV, Ab.isNon, args, List.map, List.length_cons, List.length_nil, List.length_singleton, List.replicate, Nat.reduceSub, Nat.reduceAdd, Nat.zero_add, List.cons_append, List.nil_append, List.getElem?_cons_zero, List.getElem?_cons_succ, List.set_cons_zero, List.set_cons_succ, Option.some.injEq, decide_eq_true_eq, Bool.not_eq_true', decide_eq_false_iff_not, ite_true, ite_false, if_true, if_false, reduceIte, Bool.false_eq_true, Bool.not_true, Bool.not_false, Bool.true_eq_false, decide_true, decide_false, Nat.reduceLeDiff, Nat.reduceLT, dl]
  rw [if_pos (inRg_of (by omega) (by omega)), Int.toNat_natCast]
  refine range_inv (fun k σ B => Gr A B ∧ (∃ x y, σ = [some (.tup ds), some (.int (i : Nat)), some (.int l), some (.int h), some (.ref A.length), x, y]) ∧ ∃ c : Nat → Nat, B[A.length]? = some (.lst ((List.range k).map fun i => .ref (c i))) ∧ ∀ a, a < k → A.length < c a ∧ B[c a]? = some (.lst ((List.range (n + 1)).map fun j => .int (if j = i then M a 0 - l else M a j))))
    (fun k σ B hk ⟨G, ⟨x, y, hσ⟩, c, hB, hc⟩ => ?_) (fun σ B ⟨G, ⟨x, y, hσ⟩, c, hB, hc⟩ => ?_) ⟨.app, ⟨none, none, rfl⟩, fun _ => 0, hR, fun _ h => absurd h (Nat.not_lt_zero _)⟩
  · subst hσ
    simp only [EV, Ab.isNon, args, List.map, List.length_cons, List.length_nil, List.length_singleton, List.replicate, Nat.reduceSub, Nat.reduceAdd, Nat.zero_add, List.cons_append, List.nil_append, List.getElem?_cons_zero, List.getElem?_cons_succ, List.set_cons_zero, List.set_cons_succ, Option.some.injEq, decide_eq_true_eq, Bool.not_eq_true', decide_eq_false_iff_not, ite_true, ite_false, if_true, if_false, reduceIte, Bool.false_eq_true, Bool.not_true, Bool.not_false, Bool.true_eq_false, decide_true, decide_false, Nat.reduceLeDiff, Nat.reduceLT, Int.zero_add]
    refine sat_seq ?_
    simp only [EV, Ab.isNon, args, List.map, List.length_cons, List.length_nil, List.length_singleton, List.replicate, Nat.reduceSub, Nat.reduceAdd, Nat.zero_add, List.cons_append, List.nil_append, List.getElem?_cons_zero, List.getElem?_cons_succ, List.set_cons_zero, List.set_cons_succ, Option.some.injEq, decide_eq_true_eq, Bool.not_eq_true', decide_eq_false_iff_not, ite_true, ite_false, if_true, if_false, reduceIte, Bool.false_eq_true, Bool.not_true, Bool.not_false, Bool.true_eq_false, decide_true, decide_false, Nat.reduceLeDiff, Nat.reduceLT, i1 _ hk, lo]
    refine sat_seq ?_
    have b1 := at_new (A := B) (o := .lst ((List.range (n + 1)).map fun j => D.int (M k j)))
    have g := Gr.app (A := B) (B := [.lst ((List.range (n + 1)).map fun j => D.int (M k j))])
    have lB := at_lt hB
    have hB := g.keep _ _ hB
    have hcl : ∀ a, a < k → c a < B.length := fun a ha => at_lt (hc a ha).2
    have hc : ∀ a, a < k → A.length < c a ∧ (B ++ [.lst ((List.range (n + 1)).map fun j => D.int (M k j))])[c a]? = some (.lst ((List.range (n + 1)).map fun j => .int (if j = i then M a 0 - l else M a j))) := fun a ha => ⟨(hc a ha).1, g.keep _ _ (hc a ha).2⟩
    have lA := G.le
    have G := G.trans g
    generalize B ++ [.lst ((List.range (n + 1)).map fun j => D.int (M k j))] = B1 at *
    generalize B.length = q at *
    have st : stD (.ref q) (.int (i : Nat)) (.int (M k 0 - l)) B1 = .ok () (B1.set q (.lst (((List.range (n + 1)).map fun j => D.int (M k j)).set i (.int (M k 0 - l))))) := ev_st_l b1 (by rw [ixN_pos (by omega) (by simp; omega), Int.toNat_natCast])
    simp only [EV, Ab.isNon, args, List.map, List.length_cons, List.length_nil, List.length_singleton, List.replicate, Nat.reduceSub, Nat.reduceAdd, Nat.zero_add, List.cons_append, List.nil_append, List.getElem?_cons_zero, List.getElem?_cons_succ, List.set_cons_zero, List.set_cons_succ, Option.some.injEq, decide_eq_true_eq, Bool.not_eq_true', decide_eq_false_iff_not, ite_true, ite_false, if_true, if_false, reduceIte, Bool.false_eq_true, Bool.not_true, Bool.not_false, Bool.true_eq_false, decide_true, decide_false, Nat.reduceLeDiff, Nat.reduceLT, i1 _ hk, z2, st, set_rg]
    have b2 := at_set (o := .lst ((List.range (n + 1)).map fun j => D.int (if j = i then M k 0 - l else M k j))) (at_lt b1)
    have keep : ∀ (a : Nat) o, a ≠ q → B1[a]? = some o → (B1.set q (.lst ((List.range (n + 1)).map fun j => D.int (if j = i then M k 0 - l else M k j))))[a]? = some o := fun a o e h => by rw [List.getElem?_set_ne (Ne.symm e)]; exact h
    have hB := keep _ _ (by omega) hB
    have G := G.set (o := .lst ((List.range (n + 1)).map fun j => D.int (if j = i then M k 0 - l else M k j))) lA
    have hc : ∀ a, a < k → _ ∧ _ := fun a ha => ⟨(hc a ha).1, keep _ _ (by have := hcl a ha; omega) (hc a ha).2⟩
    simp only [ty_l hB, EV, Ab.isNon, args, List.map, List.length_cons, List.length_nil, List.length_singleton, List.replicate, Nat.reduceSub, Nat.reduceAdd, Nat.zero_add, List.cons_append, List.nil_append, List.getElem?_cons_zero, List.getElem?_cons_succ, List.set_cons_zero, List.set_cons_succ, Option.some.injEq, decide_eq_true_eq, Bool.not_eq_true', decide_eq_false_iff_not, ite_true, ite_false, if_true, if_false, reduceIte, Bool.false_eq_true, Bool.not_true, Bool.not_false, Bool.true_eq_false, decide_true, decide_false, Nat.reduceLeDiff, Nat.reduceLT]
    rw [ev_app hB (by simp; omega)]
    simp only [EV, Ab.isNon, args, List.map, List.length_cons, List.length_nil, List.length_singleton, List.replicate, Nat.reduceSub, Nat.reduceAdd, Nat.zero_add, List.cons_append, List.nil_append, List.getElem?_cons_zero, List.getElem?_cons_succ, List.set_cons_zero, List.set_cons_succ, Option.some.injEq, decide_eq_true_eq, Bool.not_eq_true', decide_eq_false_iff_not, ite_true, ite_false, if_true, if_false, reduceIte, Bool.false_eq_true, Bool.not_true, Bool.not_false, Bool.true_eq_false, decide_true, decide_false, Nat.reduceLeDiff, Nat.reduceLT, turn_]
    obtain ⟨c', c1, c2⟩ := rows_snoc (f := fun a j => if j = i then M a 0 - l else M a j) hB hc b2 lB
    exact ⟨G.set (Nat.le_refl _), ⟨_, _, rfl⟩, c', c1, c2⟩
  · subst hσ
    simp only [EV, Ab.isNon, args, List.map, List.length_cons, List.length_nil, List.length_singleton, List.replicate, Nat.reduceSub, Nat.reduceAdd, Nat.zero_add, List.cons_append, List.nil_append, List.getElem?_cons_zero, List.getElem?_cons_succ, List.set_cons_zero, List.set_cons_succ, Option.some.injEq, decide_eq_true_eq, Bool.not_eq_true', decide_eq_false_iff_not, ite_true, ite_false, if_true, if_false, reduceIte, Bool.false_eq_true, Bool.not_true, Bool.not_false, Bool.true_eq_false, decide_true, decide_false, Nat.reduceLeDiff, Nat.reduceLT]
    refine sat_seq ?_
    simp only [EV, Ab.isNon, args, List.map, List.length_cons, List.length_nil, List.length_singleton, List.replicate, Nat.reduceSub, Nat.reduceAdd, Nat.zero_add, List.cons_append, List.nil_append, List.getElem?_cons_zero, List.getElem?_cons_succ, List.set_cons_zero, List.set_cons_succ, Option.some.injEq, decide_eq_true_eq, Bool.not_eq_true', decide_eq_false_iff_not, ite_true, ite_false, if_true, if_false, reduceIte, Bool.false_eq_true, Bool.not_true, Bool.not_false, Bool.true_eq_false, decide_true, decide_false, Nat.reduceLeDiff, Nat.reduceLT, dl, wipeA]
    rw [if_pos (inRg_of (by omega) (by omega)), Int.toNat_natCast]
    refine comp_pure (fun j : Nat => .int (0 + (j : Nat))) (fun j => .int (h + M 0 j)) (fun _ => trivial) (fun j hj acc => ?_) (by simp; omega) ?_
    · have hj := List.mem_range.mp hj
      simp only [EV, Ab.isNon, args, List.map, List.length_cons, List.length_nil, List.length_singleton, List.replicate, Nat.reduceSub, Nat.reduceAdd, Nat.zero_add, List.cons_append, List.nil_append, List.getElem?_cons_zero, List.getElem?_cons_succ, List.set_cons_zero, List.set_cons_succ, Option.some.injEq, decide_eq_true_eq, Bool.not_eq_true', decide_eq_false_iff_not, ite_true, ite_false, if_true, if_false, reduceIte, Bool.false_eq_true, Bool.not_true, Bool.not_false, Bool.true_eq_false, decide_true, decide_false, Nat.reduceLeDiff, Nat.reduceLT, Int.zero_add, z1, i2 _ hj]
      first | trivial | exact ⟨trivial, trivial⟩ | exact ⟨trivial, rfl⟩
    have b1 := at_new (A := B) (o := .lst ((List.range (n + 1)).map fun j => D.int (h + M 0 j)))
    have g := Gr.app (A := B) (B := [.lst ((List.range (n + 1)).map fun j => D.int (h + M 0 j))])
    have lB := at_lt hB
    have hB := g.keep _ _ hB
    have hcl : ∀ a, a < n + 1 → c a < B.length := fun a ha => at_lt (hc a ha).2
    have hc : ∀ a, a < n + 1 → A.length < c a ∧ (B ++ [.lst ((List.range (n + 1)).map fun j => D.int (h + M 0 j))])[c a]? = some (.lst ((List.range (n + 1)).map fun j => .int (if j = i then M a 0 - l else M a j))) := fun a ha => ⟨(hc a ha).1, g.keep _ _ (hc a ha).2⟩
    have lA := G.le
    have G := G.trans g
    generalize B ++ [.lst ((List.range (n + 1)).map fun j => D.int (h + M 0 j))] = B1 at *
    generalize B.length = q at *
    have st : stD (.ref A.length) (.int (i : Nat)) (.ref q) B1 = .ok () (B1.set A.length (.lst (((List.range (n + 1)).map fun a => D.ref (c a)).set i (.ref q)))) := ev_st_l hB (by rw [ixN_pos (by omega) (by simp; omega), Int.toNat_natCast])
    have es : ((List.range (n + 1)).map fun a => D.ref (c a)).set i (.ref q) = (List.range (n + 1)).map fun a => D.ref (if a = i then q else c a) := by
      apply List.ext_getElem (by simp)
      intro a h1 h2
      rw [List.getElem_set]
      simp only [List.getElem_map, List.getElem_range]
      by_cases e : i = a
      · subst e; simp
      · rw [if_neg e, if_neg (fun z => e z.symm)]
    simp only [EV, Ab.isNon, args, List.map, List.length_cons, List.length_nil, List.length_singleton, List.replicate, Nat.reduceSub, Nat.reduceAdd, Nat.zero_add, List.cons_append, List.nil_append, List.getElem?_cons_zero, List.getElem?_cons_succ, List.set_cons_zero, List.set_cons_succ, Option.some.injEq, decide_eq_true_eq, Bool.not_eq_true', decide_eq_false_iff_not, ite_true, ite_false, if_true, if_false, reduceIte, Bool.false_eq_true, Bool.not_true, Bool.not_false, Bool.true_eq_false, decide_true, decide_false, Nat.reduceLeDiff, Nat.reduceLT, st, es]
    refine sat_seq ?_
    have hB2 := at_set (o := .lst ((List.range (n + 1)).map fun a => D.ref (if a = i then q else c a))) (at_lt hB)
    have keep : ∀ (a : Nat) o, a ≠ A.length → B1[a]? = some o → (B1.set A.length (.lst ((List.range (n + 1)).map fun a => D.ref (if a = i then q else c a))))[a]? = some o := fun a o e h => by rw [List.getElem?_set_ne (Ne.symm e)]; exact h
    have b1 := keep _ _ (by omega) b1
    have hc : ∀ a, a < n + 1 → _ ∧ _ := fun a ha => ⟨(hc a ha).1, keep _ _ (by have := (hc a ha).1; omega) (hc a ha).2⟩
    have G := G.set (o := .lst ((List.range (n + 1)).map fun a => D.ref (if a = i then q else c a))) (Nat.le_refl _)
    generalize B1.set A.length (.lst ((List.range (n + 1)).map fun a => D.ref (if a = i then q else c a))) = B2 at *
    have ixr : ixD (.ref A.length) (.int (i : Nat)) B2 = .ok (.ref q) B2 := ev_ix_r (rdL_l hB2) (by rw [atI_pos (by omega), Int.toNat_natCast, List.getElem?_map, List.getElem?_range hi]; simp)
    have st2 : stD (.ref q) (.int (i : Nat)) (.int 0) B2 = .ok () (B2.set q (.lst (((List.range (n + 1)).map fun j => D.int (h + M 0 j)).set i (.int 0)))) := ev_st_l b1 (by rw [ixN_pos (by omega) (by simp; omega), Int.toNat_natCast])
    simp only [EV, Ab.isNon, args, List.map, List.length_cons, List.length_nil, List.length_singleton, List.replicate, Nat.reduceSub, Nat.reduceAdd, Nat.zero_add, List.cons_append, List.nil_append, List.getElem?_cons_zero, List.getElem?_cons_succ, List.set_cons_zero, List.set_cons_succ, Option.some.injEq, decide_eq_true_eq, Bool.not_eq_true', decide_eq_false_iff_not, ite_true, ite_false, if_true, if_false, reduceIte, Bool.false_eq_true, Bool.not_true, Bool.not_false, Bool.true_eq_false, decide_true, decide_false, Nat.reduceLeDiff, Nat.reduceLT, ixr, st2, set_rg]
    have b2 := at_set (o := .lst ((List.range (n + 1)).map fun j => D.int (if j = i then 0 else h + M 0 j))) (at_lt b1)
    have hB3 : (B2.set q (.lst ((List.range (n + 1)).map fun j => D.int (if j = i then 0 else h + M 0 j))))[A.length]? = some (.lst ((List.range (n + 1)).map fun a => D.ref (if a = i then q else c a))) := by rw [List.getElem?_set_ne (by omega)]; exact hB2
    refine Sat.imp (frozen_spec (f := freef i l h M) (fun a => if a = i then q else c a) hB3 (fun a ha => ?_) (by omega)) fun d C ⟨e, G2⟩ => ⟨(G.set lA).trans G2, e⟩
    by_cases e : a = i
    · subst e
      simp only [if_true]
      rw [b2]
      congr 2
      exact List.map_congr_left fun j hj => by unfold freef; rw [if_pos rfl]
    · simp only [if_neg e]
      rw [List.getElem?_set_ne (by have := hcl a ha; omega), (hc a ha).2]
      congr 2
      exact List.map_congr_left fun j hj => by unfold freef; rw [if_neg e]
theorem non_shift {A : AH} {d e f : D} : m_shift_column [.non, d, e, f] A = .ok .non A := by
  have key : Sat (m_shift_column [.non, d, e, f] A) fun d A' => d = .non ∧ A' = A := by
    refine sat_body rfl (sat_seq ?_)
    simp only [EV, Ab.isNon, args, List.map, List.length_cons, List.length_nil, List.length_singleton, List.replicate, Nat.reduceSub, Nat.reduceAdd, Nat.zero_add, List.cons_append, List.nil_append, List.getElem?_cons_zero, List.getElem?_cons_succ, List.set_cons_zero, List.set_cons_succ, Option.some.injEq, decide_eq_true_eq, Bool.not_eq_true', decide_eq_false_iff_not, ite_true, ite_false, if_true, if_false, reduceIte, Bool.false_eq_true, Bool.not_true, Bool.not_false, Bool.true_eq_false, decide_true, decide_false, Nat.reduceLeDiff, Nat.reduceLT]
    trivial
  obtain ⟨d, A', e, rfl, rfl⟩ := key.eq
  exact e
theorem shift_spec {A : AH} {n i : Nat} {l h : Int} {M : Mx} (hn : n ≤ 100) (hi : i < n + 1) : Sat (m_shift_column [matD (n + 1) M, .int (i : Nat), .int l, .int h] A) fun d A' => Gr A A' ∧ d = matD (n + 1) (shiftf i l h M) := by
  refine sat_body rfl (sat_seq ?_)
  have i1 : ∀ {k : Nat} A, k < n + 1 → ixD (matD (n + 1) M) (.int (k : Nat)) A = .ok (rowD (n + 1) (M k)) A := fun A h => ix_mat h
  have i2 : ∀ {k l : Nat} A, l < n + 1 → ixD (rowD (n + 1) (M k)) (.int (l : Nat)) A = .ok (.int (M k l)) A := fun A h => ix_row h
  have z1 : ∀ A, ixD (matD (n + 1) M) (.int 0) A = .ok (rowD (n + 1) (M 0)) A := fun A => i1 (k := 0) A (by omega)
  have z2 : ∀ {k : Nat} A, ixD (rowD (n + 1) (M k)) (.int 0) A = .ok (.int (M k 0)) A := fun A => i2 (l := 0) A (by omega)
  have ln : ∀ A, lenD [matD (n + 1) M] A = .ok (.int ((n + 1 : Nat) : Int)) A := fun A => by
    show lenD [.tup _] A = _
    rw [ev_len_t]; simp
  have lo : ∀ k A, lstOf [rowD (n + 1) (M k)] A = .ok (.ref A.length) (A ++ [.lst ((List.range (n + 1)).map fun j => .int (M k j))]) := fun k A => rfl
  obtain ⟨ds, hd, dl⟩ : ∃ ds, matD (n + 1) M = .tup ds ∧ ds.length = n + 1 := ⟨_, rfl, by simp⟩
  simp only [hd] at i1 z1 ln ⊢
  simp only [EV, Ab.isNon, args, List.map, List.length_cons, List.length_nil, List.length_singleton, List.replicate, Nat.reduceSub, Nat.reduceAdd, Nat.zero_add, List.cons_append, List.nil_append, List.getElem?_cons_zero, List.getElem?_cons_succ, List.set_cons_zero, List.set_cons_succ, Option.some.injEq, decide_eq_true_eq, Bool.not_eq_true', decide_eq_false_iff_not, ite_true, ite_false, if_true, if_false, reduceIte, Bool.false_eq_true, Bool.not_true, Bool.not_false, Bool.true_eq_false, decide_true, decide_false, Nat.reduceLeDiff, Nat.reduceLT]
  refine sat_seq ?_
  simp only [EV, Ab.isNon, args, List.map, List.length_cons, List.length_nil, List.length_singleton, List.replicate, Nat.reduceSub, Nat.reduceAdd, Nat.zero_add, List.cons_append, List.nil_append, List.getElem?_cons_zero, List.getElem?_cons_succ, List.set_cons_zero, List.set_cons_succ, Option.some.injEq, decide_eq_true_eq, Bool.not_eq_true', decide_eq_false_iff_not, ite_true, ite_false, if_true, if_false, reduceIte, Bool.false_eq_true, Bool.not_true, Bool.not_false, Bool.true_eq_false, decide_true, decide_false, Nat.reduceLeDiff, Nat.reduceLT]
  refine sat_seq ?_
  have hR := at_new (A := A) (o := .lst [])
  simp only [EV, Ab.isNon, args, List.map, List.length_cons, List.length_nil, List.length_singleton, List.replicate, Nat.reduceSub, Nat.reduceAdd, Nat.zero_add, List.cons_append, List.nil_append, List.getElem?_cons_zero, List.getElem?_cons_succ, List.set_cons_zero, List.set_cons_succ, Option.some.injEq, decide_eq_true_eq, Bool.not_eq_true', decide_eq_false_iff_not, ite_true, ite_false, if_true, if_false, reduceIte, Bool.false_eq_true, Bool.not_true, Bool.not_false, Bool.true_eq_false, decide_true, decide_false, Nat.reduceLeDiff, Nat.reduceLT, dl]
  rw [if_pos (inRg_of (by omega) (by omega)), Int.toNat_natCast]
  refine range_inv (fun k σ B => Gr A B ∧ (∃ x y, σ = [some (.tup ds), some (.int (i : Nat)), some (.int l), some (.int h), some (.ref A.length), x, y]) ∧ ∃ c : Nat → Nat, B[A.length]? = some (.lst ((List.range k).map fun i => .ref (c i))) ∧ ∀ a, a < k → A.length < c a ∧ B[c a]? = some (.lst ((List.range (n + 1)).map fun j => .int (if j = i then M a i - l else M a j))))
    (fun k σ B hk ⟨G, ⟨x, y, hσ⟩, c, hB, hc⟩ => ?_) (fun σ B ⟨G, ⟨x, y, hσ⟩, c, hB, hc⟩ => ?_) ⟨.app, ⟨none, none, rfl⟩, fun _ => 0, hR, fun _ h => absurd h (Nat.not_lt_zero _)⟩
  · subst hσ
    simp only [EV, Ab.isNon, args, List.map, List.length_cons, List.length_nil, List.length_singleton, List.replicate, Nat.reduceSub, Nat.reduceAdd, Nat.zero_add, List.cons_append, List.nil_append, List.getElem?_cons_zero, List.getElem?_cons_succ, List.set_cons_zero, List.set_cons_succ, Option.some.injEq, decide_eq_true_eq, Bool.not_eq_true', decide_eq_false_iff_not, ite_true, ite_false, if_true, if_false, reduceIte, Bool.false_eq_true, Bool.not_true, Bool.not_false, Bool.true_eq_false, decide_true, decide_false, Nat.reduceLeDiff, Nat.reduceLT, Int.zero_add]
    refine sat_seq ?_
    simp only [EV, Ab.isNon, args, List.map, List.length_cons, List.length_nil, List.length_singleton, List.replicate, Nat.reduceSub, Nat.reduceAdd, Nat.zero_add, List.cons_append, List.nil_append, List.getElem?_cons_zero, List.getElem?_cons_succ, List.set_cons_zero, List.set_cons_succ, Option.some.injEq, decide_eq_true_eq, Bool.not_eq_true', decide_eq_false_iff_not, ite_true, ite_false, if_true, if_false, reduceIte, Bool.false_eq_true, Bool.not_true, Bool.not_false, Bool.true_eq_false, decide_true, decide_false, Nat.reduceLeDiff, Nat.reduceLT, i1 _ hk, lo]
    refine sat_seq ?_
    have b1 := at_new (A := B) (o := .lst ((List.range (n + 1)).map fun j => D.int (M k j)))
    have g := Gr.app (A := B) (B := [.lst ((List.range (n + 1)).map fun j => D.int (M k j))])
    have lB := at_lt hB
    have hB := g.keep _ _ hB
    have hcl : ∀ a, a < k → c a < B.length := fun a ha => at_lt (hc a ha).2
    have hc : ∀ a, a < k → A.length < c a ∧ (B ++ [.lst ((List.range (n + 1)).map fun j => D.int (M k j))])[c a]? = some (.lst ((List.range (n + 1)).map fun j => .int (if j = i then M a i - l else M a j))) := fun a ha => ⟨(hc a ha).1, g.keep _ _ (hc a ha).2⟩
    have lA := G.le
    have G := G.trans g
    generalize B ++ [.lst ((List.range (n + 1)).map fun j => D.int (M k j))] = B1 at *
    generalize B.length = q at *
    have st : stD (.ref q) (.int (i : Nat)) (.int (M k i - l)) B1 = .ok () (B1.set q (.lst (((List.range (n + 1)).map fun j => D.int (M k j)).set i (.int (M k i - l))))) := ev_st_l b1 (by rw [ixN_pos (by omega) (by simp; omega), Int.toNat_natCast])
    simp only [EV, Ab.isNon, args, List.map, List.length_cons, List.length_nil, List.length_singleton, List.replicate, Nat.reduceSub, Nat.reduceAdd, Nat.zero_add, List.cons_append, List.nil_append, List.getElem?_cons_zero, List.getElem?_cons_succ, List.set_cons_zero, List.set_cons_succ, Option.some.injEq, decide_eq_true_eq, Bool.not_eq_true', decide_eq_false_iff_not, ite_true, ite_false, if_true, if_false, reduceIte, Bool.false_eq_true, Bool.not_true, Bool.not_false, Bool.true_eq_false, decide_true, decide_false, Nat.reduceLeDiff, Nat.reduceLT, i1 _ hk, i2 _ hi, st, set_rg]
    have b2 := at_set (o := .lst ((List.range (n + 1)).map fun j => D.int (if j = i then M k i - l else M k j))) (at_lt b1)
    have keep : ∀ (a : Nat) o, a ≠ q → B1[a]? = some o → (B1.set q (.lst ((List.range (n + 1)).map fun j => D.int (if j = i then M k i - l else M k j))))[a]? = some o := fun a o e h => by rw [List.getElem?_set_ne (Ne.symm e)]; exact h
    have hB := keep _ _ (by omega) hB
    have G := G.set (o := .lst ((List.range (n + 1)).map fun j => D.int (if j = i then M k i - l else M k j))) lA
    have hc : ∀ a, a < k → _ ∧ _ := fun a ha => ⟨(hc a ha).1, keep _ _ (by have := hcl a ha; omega) (hc a ha).2⟩
    simp only [ty_l hB, EV, Ab.isNon, args, List.map, List.length_cons, List.length_nil, List.length_singleton, List.replicate, Nat.reduceSub, Nat.reduceAdd, Nat.zero_add, List.cons_append, List.nil_append, List.getElem?_cons_zero, List.getElem?_cons_succ, List.set_cons_zero, List.set_cons_succ, Option.some.injEq, decide_eq_true_eq, Bool.not_eq_true', decide_eq_false_iff_not, ite_true, ite_false, if_true, if_false, reduceIte, Bool.false_eq_true, Bool.not_true, Bool.not_false, Bool.true_eq_false, decide_true, decide_false, Nat.reduceLeDiff, Nat.reduceLT]
    rw [ev_app hB (by simp; omega)]
    simp only [EV, Ab.isNon, args, List.map, List.length_cons, List.length_nil, List.length_singleton, List.replicate, Nat.reduceSub, Nat.reduceAdd, Nat.zero_add, List.cons_append, List.nil_append, List.getElem?_cons_zero, List.getElem?_cons_succ, List.set_cons_zero, List.set_cons_succ, Option.some.injEq, decide_eq_true_eq, Bool.not_eq_true', decide_eq_false_iff_not, ite_true, ite_false, if_true, if_false, reduceIte, Bool.false_eq_true, Bool.not_true, Bool.not_false, Bool.true_eq_false, decide_true, decide_false, Nat.reduceLeDiff, Nat.reduceLT, turn_]
    obtain ⟨c', c1, c2⟩ := rows_snoc (f := fun a j => if j = i then M a i - l else M a j) hB hc b2 lB
    exact ⟨G.set (Nat.le_refl _), ⟨_, _, rfl⟩, c', c1, c2⟩
  · subst hσ
    simp only [EV, Ab.isNon, args, List.map, List.length_cons, List.length_nil, List.length_singleton, List.replicate, Nat.reduceSub, Nat.reduceAdd, Nat.zero_add, List.cons_append, List.nil_append, List.getElem?_cons_zero, List.getElem?_cons_succ, List.set_cons_zero, List.set_cons_succ, Option.some.injEq, decide_eq_true_eq, Bool.not_eq_true', decide_eq_false_iff_not, ite_true, ite_false, if_true, if_false, reduceIte, Bool.false_eq_true, Bool.not_true, Bool.not_false, Bool.true_eq_false, decide_true, decide_false, Nat.reduceLeDiff, Nat.reduceLT]
    refine sat_seq ?_
    simp only [EV, Ab.isNon, args, List.map, List.length_cons, List.length_nil, List.length_singleton, List.replicate, Nat.reduceSub, Nat.reduceAdd, Nat.zero_add, List.cons_append, List.nil_append, List.getElem?_cons_zero, List.getElem?_cons_succ, List.set_cons_zero, List.set_cons_succ, Option.some.injEq, decide_eq_true_eq, Bool.not_eq_true', decide_eq_false_iff_not, ite_true, ite_false, if_true, if_false, reduceIte, Bool.false_eq_true, Bool.not_true, Bool.not_false, Bool.true_eq_false, decide_true, decide_false, Nat.reduceLeDiff, Nat.reduceLT, dl, wipeA]
    rw [if_pos (inRg_of (by omega) (by omega)), Int.toNat_natCast]
    refine comp_pure (fun j : Nat => .int (0 + (j : Nat))) (fun j => .int (M i j + h)) (fun _ => trivial) (fun j hj acc => ?_) (by simp; omega) ?_
    · have hj := List.mem_range.mp hj
      simp only [EV, Ab.isNon, args, List.map, List.length_cons, List.length_nil, List.length_singleton, List.replicate, Nat.reduceSub, Nat.reduceAdd, Nat.zero_add, List.cons_append, List.nil_append, List.getElem?_cons_zero, List.getElem?_cons_succ, List.set_cons_zero, List.set_cons_succ, Option.some.injEq, decide_eq_true_eq, Bool.not_eq_true', decide_eq_false_iff_not, ite_true, ite_false, if_true, if_false, reduceIte, Bool.false_eq_true, Bool.not_true, Bool.not_false, Bool.true_eq_false, decide_true, decide_false, Nat.reduceLeDiff, Nat.reduceLT, Int.zero_add, i1 _ hi, i2 _ hj]
      first | trivial | exact ⟨trivial, trivial⟩ | exact ⟨trivial, rfl⟩
    have b1 := at_new (A := B) (o := .lst ((List.range (n + 1)).map fun j => D.int (M i j + h)))
    have g := Gr.app (A := B) (B := [.lst ((List.range (n + 1)).map fun j => D.int (M i j + h))])
    have lB := at_lt hB
    have hB := g.keep _ _ hB
    have hcl : ∀ a, a < n + 1 → c a < B.length := fun a ha => at_lt (hc a ha).2
    have hc : ∀ a, a < n + 1 → A.length < c a ∧ (B ++ [.lst ((List.range (n + 1)).map fun j => D.int (M i j + h))])[c a]? = some (.lst ((List.range (n + 1)).map fun j => .int (if j = i then M a i - l else M a j))) := fun a ha => ⟨(hc a ha).1, g.keep _ _ (hc a ha).2⟩
    have lA := G.le
    have G := G.trans g
    generalize B ++ [.lst ((List.range (n + 1)).map fun j => D.int (M i j + h))] = B1 at *
    generalize B.length = q at *
    have st : stD (.ref A.length) (.int (i : Nat)) (.ref q) B1 = .ok () (B1.set A.length (.lst (((List.range (n + 1)).map fun a => D.ref (c a)).set i (.ref q)))) := ev_st_l hB (by rw [ixN_pos (by omega) (by simp; omega), Int.toNat_natCast])
    have es : ((List.range (n + 1)).map fun a => D.ref (c a)).set i (.ref q) = (List.range (n + 1)).map fun a => D.ref (if a = i then q else c a) := by
      apply List.ext_getElem (by simp)
      intro a h1 h2
      rw [List.getElem_set]
      simp only [List.getElem_map, List.getElem_range]
      by_cases e : i = a
      · subst e; simp
      · rw [if_neg e, if_neg (fun z => e z.symm)]
    simp only [EV, Ab.isNon, args, List.map, List.length_cons, List.length_nil, List.length_singleton, List.replicate, Nat.reduceSub, Nat.reduceAdd, Nat.zero_add, List.cons_append, List.nil_append, List.getElem?_cons_zero, List.getElem?_cons_succ, List.set_cons_zero, List.set_cons_succ, Option.some.injEq, decide_eq_true_eq, Bool.not_eq_true', decide_eq_false_iff_not, ite_true, ite_false, if_true, if_false, reduceIte, Bool.false_eq_true, Bool.not_true, Bool.not_false, Bool.true_eq_false, decide_true, decide_false, Nat.reduceLeDiff, Nat.reduceLT, st, es]
    refine sat_seq ?_
    have hB2 := at_set (o := .lst ((List.range (n + 1)).map fun a => D.ref (if a = i then q else c a))) (at_lt hB)
    have keep : ∀ (a : Nat) o, a ≠ A.length → B1[a]? = some o → (B1.set A.length (.lst ((List.range (n + 1)).map fun a => D.ref (if a = i then q else c a))))[a]? = some o := fun a o e h => by rw [List.getElem?_set_ne (Ne.symm e)]; exact h
    have b1 := keep _ _ (by omega) b1
    have hc : ∀ a, a < n + 1 → _ ∧ _ := fun a ha => ⟨(hc a ha).1, keep _ _ (by have := (hc a ha).1; omega) (hc a ha).2⟩
    have G := G.set (o := .lst ((List.range (n + 1)).map fun a => D.ref (if a = i then q else c a))) (Nat.le_refl _)
    generalize B1.set A.length (.lst ((List.range (n + 1)).map fun a => D.ref (if a = i then q else c a))) = B2 at *
    have ixr : ixD (.ref A.length) (.int (i : Nat)) B2 = .ok (.ref q) B2 := ev_ix_r (rdL_l hB2) (by rw [atI_pos (by omega), Int.toNat_natCast, List.getElem?_map, List.getElem?_range hi]; simp)
    have st2 : stD (.ref q) (.int (i : Nat)) (.int 0) B2 = .ok () (B2.set q (.lst (((List.range (n + 1)).map fun j => D.int (M i j + h)).set i (.int 0)))) := ev_st_l b1 (by rw [ixN_pos (by omega) (by simp; omega), Int.toNat_natCast])
    simp only [EV, Ab.isNon, args, List.map, List.length_cons, List.length_nil, List.length_singleton, List.replicate, Nat.reduceSub, Nat.reduceAdd, Nat.zero_add, List.cons_append, List.nil_append, List.getElem?_cons_zero, List.getElem?_cons_succ, List.set_cons_zero, List.set_cons_succ, Option.some.injEq, decide_eq_true_eq, Bool.not_eq_true', decide_eq_false_iff_not, ite_true, ite_false, if_true, if_false, reduceIte, Bool.false_eq_true, Bool.not_true, Bool.not_false, Bool.true_eq_false, decide_true, decide_false, Nat.reduceLeDiff, Nat.reduceLT, ixr, st2, set_rg]
    have b2 := at_set (o := .lst ((List.range (n + 1)).map fun j => D.int (if j = i then 0 else M i j + h))) (at_lt b1)
    have hB3 : (B2.set q (.lst ((List.range (n + 1)).map fun j => D.int (if j = i then 0 else M i j + h))))[A.length]? = some (.lst ((List.range (n + 1)).map fun a => D.ref (if a = i then q else c a))) := by rw [List.getElem?_set_ne (by omega)]; exact hB2
    refine Sat.imp (frozen_spec (f := shiftf i l h M) (fun a => if a = i then q else c a) hB3 (fun a ha => ?_) (by omega)) fun d C ⟨e, G2⟩ => ⟨(G.set lA).trans G2, e⟩
    by_cases e : a = i
    · subst e
      simp only [if_true]
      rw [b2]
      congr 2
      exact List.map_congr_left fun j hj => by unfold shiftf; rw [if_pos rfl]
    · simp only [if_neg e]
      rw [List.getElem?_set_ne (by have := hcl a ha; omega), (hc a ha).2]
      congr 2
      exact List.map_congr_left fun j hj => by unfold shiftf; rw [if_neg e]
end Law

namespace Law
open PySem PySem.Spec PyProof.Rows L2 Ab
open scoped Classical
/-! ### the boxes of the told points -/
theorem mx_is {qs : List (List Int)} {i j : Nat} {v : Int} (h1 : ∀ q ∈ qs, at0 q i - at0 q j ≤ v) (h2 : ∃ q ∈ qs, at0 q i - at0 q j = v) : mx qs i j = v := by
  obtain ⟨q, hq, e⟩ := h2
  have a := mx_ge (i := i) (j := j) hq
  obtain ⟨p, hp, e'⟩ := mx_mem (i := i) (j := j) (List.ne_nil_of_mem hq)
  have b := h1 p hp
  omega
theorem at0_set {p : List Int} {i a : Nat} {v : Int} (h1 : 1 ≤ i) (h2 : i ≤ p.length) : at0 (p.set (i - 1) v) a = if a = i then v else at0 p a := by
  cases a with
  | zero => rw [if_neg (by omega)]; rfl
  | succ a =>
    rw [at0_s, at0_s, List.getD_eq_getElem?_getD, List.getD_eq_getElem?_getD, List.getElem?_set]
    by_cases e : i - 1 = a
    · rw [if_pos e, if_pos (by omega), if_pos (by omega)]; rfl
    · rw [if_neg e, if_neg (by omega)]
def freeL (ps : List (List Int)) (i : Nat) (l h : Int) : List (List Int) := ps.flatMap fun p => [p.set (i - 1) l, p.set (i - 1) h]
def shiftL (ps : List (List Int)) (i : Nat) (l h : Int) : List (List Int) := ps.flatMap fun p => [p.set (i - 1) (at0 p i + l), p.set (i - 1) (at0 p i + h)]
theorem mem_two {ps : List (List Int)} {f g : List Int → List Int} {q : List Int} : q ∈ ps.flatMap (fun p => [f p, g p]) ↔ ∃ p ∈ ps, q = f p ∨ q = g p := by
  rw [List.mem_flatMap]
  constructor
  · rintro ⟨p, hp, h⟩
    rcases List.mem_cons.mp h with h | h
    · exact ⟨p, hp, .inl h⟩
    · exact ⟨p, hp, .inr (List.mem_singleton.mp h)⟩
  · rintro ⟨p, hp, h | h⟩
    · exact ⟨p, hp, by rw [h]; simp⟩
    · exact ⟨p, hp, by rw [h]; simp⟩
theorem two_ne {ps : List (List Int)} {f g : List Int → List Int} : ps.flatMap (fun p => [f p, g p]) = [] ↔ ps = [] := by
  cases ps <;> simp
theorem two_len (ps : List (List Int)) (f g : List Int → List Int) : (ps.flatMap fun p => [f p, g p]).length = 2 * ps.length := by
  induction ps with
  | nil => rfl
  | cons p ps ih => simp only [List.flatMap_cons, List.length_append, ih, List.length_cons, List.length_nil]; omega
theorem mx_free {ps : List (List Int)} {n i : Nat} {l h : Int} (ne : ps ≠ []) (len : ∀ p ∈ ps, p.length = n) (i1 : 1 ≤ i) (i2 : i ≤ n) (le : l ≤ h) (a b : Nat) : mx (freeL ps i l h) a b = freef i l h (mx ps) a b := by
  have at_ : ∀ p ∈ ps, ∀ v a, at0 (p.set (i - 1) v) a = if a = i then v else at0 p a := fun p hp v a => at0_set i1 (by rw [len p hp]; exact i2)
  unfold freef
  by_cases ea : a = i
  · subst ea
    rw [if_pos rfl]
    by_cases eb : b = a
    · subst eb
      rw [if_pos rfl]
      refine mx_is (fun q hq => by omega) ?_
      obtain ⟨p, hp, -⟩ := mx_mem (i := 0) (j := 0) ne
      exact ⟨_, mem_two.mpr ⟨p, hp, .inl rfl⟩, by omega⟩
    · rw [if_neg eb]
      obtain ⟨p, hp, e⟩ := mx_mem (i := 0) (j := b) ne
      refine mx_is (fun q hq => ?_) ⟨p.set (a - 1) h, mem_two.mpr ⟨p, hp, .inr rfl⟩, ?_⟩
      · obtain ⟨p', hp', hq⟩ := mem_two.mp hq
        have g := mx_ge (i := 0) (j := b) hp'
        rw [at0_z] at g
        rcases hq with rfl | rfl <;> rw [at_ p' hp', at_ p' hp', if_pos rfl, if_neg eb] <;> omega
      · rw [at_ p hp, at_ p hp, if_pos rfl, if_neg eb]
        rw [at0_z] at e
        omega
  · rw [if_neg ea]
    by_cases eb : b = i
    · subst eb
      rw [if_pos rfl]
      obtain ⟨p, hp, e⟩ := mx_mem (i := a) (j := 0) ne
      refine mx_is (fun q hq => ?_) ⟨p.set (b - 1) l, mem_two.mpr ⟨p, hp, .inl rfl⟩, ?_⟩
      · obtain ⟨p', hp', hq⟩ := mem_two.mp hq
        have g := mx_ge (i := a) (j := 0) hp'
        rw [at0_z] at g
        rcases hq with rfl | rfl <;> rw [at_ p' hp', at_ p' hp', if_pos rfl, if_neg ea] <;> omega
      · rw [at_ p hp, at_ p hp, if_pos rfl, if_neg ea]
        rw [at0_z] at e
        omega
    · rw [if_neg eb]
      obtain ⟨p, hp, e⟩ := mx_mem (i := a) (j := b) ne
      refine mx_is (fun q hq => ?_) ⟨p.set (i - 1) l, mem_two.mpr ⟨p, hp, .inl rfl⟩, ?_⟩
      · obtain ⟨p', hp', hq⟩ := mem_two.mp hq
        have g := mx_ge (i := a) (j := b) hp'
        rcases hq with rfl | rfl <;> rw [at_ p' hp', at_ p' hp', if_neg ea, if_neg eb] <;> omega
      · rw [at_ p hp, at_ p hp, if_neg ea, if_neg eb]
        omega
theorem mx_shift {ps : List (List Int)} {n i : Nat} {l h : Int} (ne : ps ≠ []) (len : ∀ p ∈ ps, p.length = n) (i1 : 1 ≤ i) (i2 : i ≤ n) (le : l ≤ h) (a b : Nat) : mx (shiftL ps i l h) a b = shiftf i l h (mx ps) a b := by
  have at_ : ∀ p ∈ ps, ∀ v a, at0 (p.set (i - 1) v) a = if a = i then v else at0 p a := fun p hp v a => at0_set i1 (by rw [len p hp]; exact i2)
  have mem : ∀ q, q ∈ shiftL ps i l h ↔ ∃ p ∈ ps, q = p.set (i - 1) (at0 p i + l) ∨ q = p.set (i - 1) (at0 p i + h) := fun q => mem_two (f := fun p => p.set (i - 1) (at0 p i + l)) (g := fun p => p.set (i - 1) (at0 p i + h))
  unfold shiftf
  by_cases ea : a = i
  · subst ea
    rw [if_pos rfl]
    by_cases eb : b = a
    · subst eb
      rw [if_pos rfl]
      refine mx_is (fun q hq => by omega) ?_
      obtain ⟨p, hp, -⟩ := mx_mem (i := 0) (j := 0) ne
      exact ⟨_, (mem _).mpr ⟨p, hp, .inl rfl⟩, by omega⟩
    · rw [if_neg eb]
      obtain ⟨p, hp, e⟩ := mx_mem (i := a) (j := b) ne
      refine mx_is (fun q hq => ?_) ⟨p.set (a - 1) (at0 p a + h), (mem _).mpr ⟨p, hp, .inr rfl⟩, ?_⟩
      · obtain ⟨p', hp', hq⟩ := (mem _).mp hq
        have g := mx_ge (i := a) (j := b) hp'
        rcases hq with rfl | rfl <;> rw [at_ p' hp', at_ p' hp', if_pos rfl, if_neg eb] <;> omega
      · rw [at_ p hp, at_ p hp, if_pos rfl, if_neg eb]
        omega
  · rw [if_neg ea]
    by_cases eb : b = i
    · subst eb
      rw [if_pos rfl]
      obtain ⟨p, hp, e⟩ := mx_mem (i := a) (j := b) ne
      refine mx_is (fun q hq => ?_) ⟨p.set (b - 1) (at0 p b + l), (mem _).mpr ⟨p, hp, .inl rfl⟩, ?_⟩
      · obtain ⟨p', hp', hq⟩ := (mem _).mp hq
        have g := mx_ge (i := a) (j := b) hp'
        rcases hq with rfl | rfl <;> rw [at_ p' hp', at_ p' hp', if_pos rfl, if_neg ea] <;> omega
      · rw [at_ p hp, at_ p hp, if_pos rfl, if_neg ea]
        omega
    · rw [if_neg eb]
      obtain ⟨p, hp, e⟩ := mx_mem (i := a) (j := b) ne
      refine mx_is (fun q hq => ?_) ⟨p.set (i - 1) (at0 p i + l), (mem _).mpr ⟨p, hp, .inl rfl⟩, ?_⟩
      · obtain ⟨p', hp', hq⟩ := (mem _).mp hq
        have g := mx_ge (i := a) (j := b) hp'
        rcases hq with rfl | rfl <;> rw [at_ p' hp', at_ p' hp', if_neg ea, if_neg eb] <;> omega
      · rw [at_ p hp, at_ p hp, if_neg ea, if_neg eb]
        omega
/-! ### picked columns -/
def partL (cs : List Nat) (p : List Int) : List Int := cs.map fun c => at0 p c
theorem at0_part {cs : List Nat} {p : List Int} {a : Nat} : at0 (partL cs p) a = at0 p (plc cs a) := by
  cases a with
  | zero => rfl
  | succ a =>
    rw [at0_s, List.getD_eq_getElem?_getD]
    unfold partL plc
    rw [List.getElem?_map, List.getD_eq_getElem?_getD, List.getElem?_cons_succ]
    cases e : cs[a]? <;> rfl
theorem mx_part {cs : List Nat} {ps : List (List Int)} {a b : Nat} : mx (ps.map (partL cs)) a b = mx ps (plc cs a) (plc cs b) := by
  unfold mx
  rw [List.map_map]
  congr 1
  refine List.map_congr_left fun p _ => ?_
  show at0 (partL cs p) a - at0 (partL cs p) b = _
  rw [at0_part, at0_part]
/-! ### added columns -/
def endsL : List (List Int) → List (Int × Int) → List (List Int)
  | ps, [] => ps
  | ps, r :: pr => endsL (ps.flatMap fun p => [p ++ [r.1], p ++ [r.2]]) pr
inductive Ch : List (Int × Int) → List Int → Prop
  | nil : Ch [] []
  | cons {r pr v e} (h : v = r.1 ∨ v = r.2) (t : Ch pr e) : Ch (r :: pr) (v :: e)
theorem mem_ends : ∀ {pr : List (Int × Int)} {ps : List (List Int)} {q : List Int}, q ∈ endsL ps pr ↔ ∃ p ∈ ps, ∃ e, Ch pr e ∧ q = p ++ e
  | [], ps, q => by
    constructor
    · exact fun h => ⟨q, h, [], .nil, by simp⟩
    · rintro ⟨p, hp, e, h, rfl⟩
      cases h
      simpa [endsL] using hp
  | r :: pr, ps, q => by
    show q ∈ endsL _ pr ↔ _
    rw [mem_ends]
    constructor
    · rintro ⟨p', hp', e, h, rfl⟩
      obtain ⟨p, hp, h'⟩ := mem_two.mp hp'
      rcases h' with rfl | rfl
      · exact ⟨p, hp, r.1 :: e, .cons (.inl rfl) h, by simp⟩
      · exact ⟨p, hp, r.2 :: e, .cons (.inr rfl) h, by simp⟩
    · rintro ⟨p, hp, e, h, rfl⟩
      cases h with
      | cons h1 h2 =>
        rename_i v e
        rcases h1 with rfl | rfl
        · exact ⟨p ++ [r.1], mem_two.mpr ⟨p, hp, .inl rfl⟩, e, h2, by simp⟩
        · exact ⟨p ++ [r.2], mem_two.mpr ⟨p, hp, .inr rfl⟩, e, h2, by simp⟩
theorem Ch.len : ∀ {pr : List (Int × Int)} {e : List Int}, Ch pr e → e.length = pr.length
  | [], _, .nil => rfl
  | _ :: _, _, .cons _ t => by rw [List.length_cons, List.length_cons, t.len]
theorem Ch.get : ∀ {pr : List (Int × Int)} {e : List Int} {t : Nat}, Ch pr e → (∀ r ∈ pr, r.1 ≤ r.2) → t < pr.length → (pr.map Prod.fst).getD t 0 ≤ e.getD t 0 ∧ e.getD t 0 ≤ (pr.map Prod.snd).getD t 0
  | [], _, _, .nil, _, h => by simp at h
  | r :: pr, _, 0, .cons h t, ok, _ => by
    have := ok r (List.mem_cons_self ..)
    simp only [List.map_cons, List.getD_cons_zero]
    rcases h with rfl | rfl <;> omega
  | r :: pr, _, k + 1, .cons h t, ok, hk => by
    simp only [List.map_cons, List.getD_cons_succ]
    exact t.get (fun r' hr => ok r' (List.mem_cons_of_mem _ hr)) (by simpa using hk)
/-- the choice of the upper end at t, of lower ends elsewhere -/
def pk : List (Int × Int) → Nat → List Int
  | [], _ => []
  | r :: pr, 0 => r.2 :: pr.map Prod.fst
  | r :: pr, t + 1 => r.1 :: pk pr t
theorem ch_fst : ∀ pr : List (Int × Int), Ch pr (pr.map Prod.fst)
  | [] => .nil
  | r :: pr => .cons (.inl rfl) (ch_fst pr)
theorem ch_pk : ∀ (pr : List (Int × Int)) (t : Nat), Ch pr (pk pr t)
  | [], _ => .nil
  | r :: pr, 0 => .cons (.inr rfl) (ch_fst pr)
  | r :: pr, t + 1 => .cons (.inl rfl) (ch_pk pr t)
theorem pk_at : ∀ (pr : List (Int × Int)) (t : Nat), t < pr.length → (pk pr t).getD t 0 = (pr.map Prod.snd).getD t 0
  | [], _, h => by simp at h
  | r :: pr, 0, _ => rfl
  | r :: pr, t + 1, h => by
    simp only [pk, List.map_cons, List.getD_cons_succ]
    exact pk_at pr t (by simpa using h)
theorem pk_ne : ∀ (pr : List (Int × Int)) (t u : Nat), u ≠ t → (pk pr t).getD u 0 = (pr.map Prod.fst).getD u 0
  | [], _, _, _ => rfl
  | r :: pr, 0, 0, h => (h rfl).elim
  | r :: pr, 0, u + 1, _ => by simp only [pk, List.map_cons, List.getD_cons_succ]
  | r :: pr, t + 1, 0, _ => rfl
  | r :: pr, t + 1, u + 1, h => by
    simp only [pk, List.map_cons, List.getD_cons_succ]
    exact pk_ne pr t u (by omega)
theorem neg_fst : ∀ (pr : List (Int × Int)) (u : Nat), (pr.map fun p => -p.1).getD u 0 = -((pr.map Prod.fst).getD u 0)
  | [], _ => rfl
  | r :: pr, 0 => rfl
  | r :: pr, u + 1 => by
    simp only [List.map_cons, List.getD_cons_succ]
    exact neg_fst pr u
theorem at0_app {p e : List Int} {i : Nat} : at0 (p ++ e) i = if i < p.length + 1 then at0 p i else e.getD (i - (p.length + 1)) 0 := by
  cases i with
  | zero => rw [if_pos (by omega)]; rfl
  | succ i =>
    rw [at0_s, at0_s, List.getD_eq_getElem?_getD, List.getD_eq_getElem?_getD, List.getD_eq_getElem?_getD]
    by_cases c : i < p.length
    · rw [List.getElem?_append_left c, if_pos (by omega)]
    · rw [List.getElem?_append_right (by omega), if_neg (by omega)]
      congr 2; omega
theorem mx_ends {ps : List (List Int)} {pr : List (Int × Int)} {n i j : Nat} (ne : ps ≠ []) (len : ∀ p ∈ ps, p.length = n) (ok : ∀ r ∈ pr, r.1 ≤ r.2) (hi : i < n + 1 + pr.length) (hj : j < n + 1 + pr.length) : mx (endsL ps pr) i j = addf n (mx ps) pr i j := by
  have at_ : ∀ p ∈ ps, ∀ e i, at0 (p ++ e) i = if i < n + 1 then at0 p i else e.getD (i - (n + 1)) 0 := fun p hp e i => by rw [at0_app, len p hp]
  unfold addf
  by_cases ci : i < n + 1
  · by_cases cj : j < n + 1
    · rw [if_pos ⟨ci, cj⟩]
      obtain ⟨p, hp, e⟩ := mx_mem (i := i) (j := j) ne
      refine mx_is (fun q hq => ?_) ⟨_, mem_ends.mpr ⟨p, hp, _, ch_fst pr, rfl⟩, ?_⟩
      · obtain ⟨p', hp', x, _, rfl⟩ := mem_ends.mp hq
        rw [at_ p' hp', at_ p' hp', if_pos ci, if_pos cj]
        exact mx_ge hp'
      · rw [at_ p hp, at_ p hp, if_pos ci, if_pos cj]; exact e
    · rw [if_neg (fun z => cj z.2), if_neg (by omega)]
      unfold abv blw
      rw [if_pos ci, if_neg cj, neg_fst]
      obtain ⟨p, hp, e⟩ := mx_mem (i := i) (j := 0) ne
      rw [at0_z] at e
      refine mx_is (fun q hq => ?_) ⟨_, mem_ends.mpr ⟨p, hp, _, ch_fst pr, rfl⟩, ?_⟩
      · obtain ⟨p', hp', x, hx, rfl⟩ := mem_ends.mp hq
        rw [at_ p' hp', at_ p' hp', if_pos ci, if_neg cj]
        have g := mx_ge (i := i) (j := 0) hp'
        rw [at0_z] at g
        have := (hx.get (t := j - (n + 1)) ok (by omega)).1
        omega
      · rw [at_ p hp, at_ p hp, if_pos ci, if_neg cj]; omega
  · rw [if_neg (fun z => ci z.1)]
    by_cases e : j = i
    · subst e
      rw [if_pos rfl]
      obtain ⟨p, hp, -⟩ := mx_mem (i := 0) (j := 0) ne
      exact mx_is (fun q hq => by omega) ⟨_, mem_ends.mpr ⟨p, hp, _, ch_fst pr, rfl⟩, by omega⟩
    · rw [if_neg e]
      unfold abv blw
      rw [if_neg ci]
      by_cases cj : j < n + 1
      · rw [if_pos cj]
        obtain ⟨p, hp, e⟩ := mx_mem (i := 0) (j := j) ne
        rw [at0_z] at e
        refine mx_is (fun q hq => ?_) ⟨_, mem_ends.mpr ⟨p, hp, _, ch_pk pr (i - (n + 1)), rfl⟩, ?_⟩
        · obtain ⟨p', hp', x, hx, rfl⟩ := mem_ends.mp hq
          rw [at_ p' hp', at_ p' hp', if_neg ci, if_pos cj]
          have g := mx_ge (i := 0) (j := j) hp'
          rw [at0_z] at g
          have := (hx.get (t := i - (n + 1)) ok (by omega)).2
          omega
        · rw [at_ p hp, at_ p hp, if_neg ci, if_pos cj, pk_at _ _ (by omega)]; omega
      · rw [if_neg cj, neg_fst]
        obtain ⟨p, hp, -⟩ := mx_mem (i := 0) (j := 0) ne
        refine mx_is (fun q hq => ?_) ⟨_, mem_ends.mpr ⟨p, hp, _, ch_pk pr (i - (n + 1)), rfl⟩, ?_⟩
        · obtain ⟨p', hp', x, hx, rfl⟩ := mem_ends.mp hq
          rw [at_ p' hp', at_ p' hp', if_neg ci, if_neg cj]
          have a := (hx.get (t := i - (n + 1)) ok (by omega)).2
          have b := (hx.get (t := j - (n + 1)) ok (by omega)).1
          omega
        · rw [at_ p hp, at_ p hp, if_neg ci, if_neg cj, pk_at _ _ (by omega), pk_ne _ _ _ (by omega)]; omega
theorem ends_ne : ∀ {pr : List (Int × Int)} {ps : List (List Int)}, endsL ps pr = [] ↔ ps = []
  | [], ps => Iff.rfl
  | r :: pr, ps => by
    show endsL _ pr = [] ↔ _
    rw [ends_ne, two_ne]
theorem ends_len : ∀ (pr : List (Int × Int)) (ps : List (List Int)), (endsL ps pr).length = 2 ^ pr.length * ps.length
  | [], ps => by simp [endsL]
  | r :: pr, ps => by
    show (endsL _ pr).length = _
    rw [ends_len pr, two_len, List.length_cons, Nat.pow_succ, Nat.mul_assoc]
end Law

namespace Law
open PySem PySem.Spec PyProof.Rows L2 Ab
open scoped Classical
/-! ### closed boxes and the points they hold -/
def Bq (n : Nat) (S : List Int → Prop) (o : Option Mx) : Prop := ∃ M, (∀ i, i < n + 1 → 0 ≤ M i i) ∧ Closes (n + 1) M o ∧ ∀ p, Fp M n p ↔ S p
theorem feas_pt {n : Nat} {M : Mx} {p : List Int} (f : Fp M n p) : Feas (n + 1) M fun i => at0 p i := fun i j hi hj e => f.2 i j (by omega) (by omega) e
theorem fp_cl {n : Nat} {M R : Mx} (h : ClOf (n + 1) M R) (p : List Int) : Fp M n p ↔ Fp R n p := by
  constructor
  · exact fun f => ⟨f.1, fun i j hi hj e => h.sound _ (feas_pt f) i j (by omega) (by omega)⟩
  · exact fun f => ⟨f.1, fun i j hi hj e => by
      have h1 := h.le i j (by omega) (by omega) e
      have h2 := f.2 i j hi hj e
      omega⟩
theorem hull_closes2 {m : Nat} {M : Mx} {ps : List (List Int)} (h0 : 0 < m) (pos : ∀ i, i < m → 0 ≤ M i i) (h1 : ∀ p ∈ ps, Fp M (m - 1) p) (h2 : ∀ p, Fp M (m - 1) p → ps ≠ [] ∧ ∀ i j, i < m → j < m → at0 p i - at0 p j ≤ mx ps i j) :
    Closes m M (if ps = [] then none else some (mx ps)) := by
  have norm : ∀ p : Nat → Int, Feas m M p → ∃ q, Fp M (m - 1) q ∧ ∀ i, i < m → at0 q i = p i - p 0 := fun p hp => by
    have a : ∀ i, i < m → at0 ((List.range (m - 1)).map fun k => p (k + 1) - p 0) i = p i - p 0 := fun i hi => by
      cases i with
      | zero => rw [at0_z]; omega
      | succ i => rw [at0_s, List.getD_eq_getElem?_getD, List.getElem?_map, List.getElem?_range (by omega)]; rfl
    refine ⟨_, ⟨by simp, fun i j hi hj e => ?_⟩, a⟩
    rw [a i (by omega), a j (by omega)]
    have := hp i j (by omega) (by omega) e
    omega
  split
  · rename_i e
    refine .inr fun ⟨p, hp⟩ => ?_
    obtain ⟨q, hq, _⟩ := norm p hp
    exact (h2 q hq).1 e
  · rename_i e
    refine ⟨pos, mx_cl e, fun i j hi hj ne => ?_, fun p hp i j hi hj => ?_⟩
    · obtain ⟨p, hp, e1⟩ := mx_mem (i := i) (j := j) e
      have := (h1 p hp).2 i j (by omega) (by omega) ne
      omega
    · obtain ⟨q, hq, a⟩ := norm p hp
      have := (h2 q hq).2 i j hi hj
      rw [a i hi, a j hj] at this
      omega
theorem Bq.none {n : Nat} {S : List Int → Prop} (h : Bq n S none) (p : List Int) : ¬ S p := fun hp => by
  obtain ⟨M, pos, cl, e⟩ := h
  rcases cl with ⟨i, hi, neg⟩ | no
  · have := pos i hi; omega
  · exact no ⟨_, feas_pt ((e p).mpr hp)⟩
theorem Bq.congr {n : Nat} {S T : List Int → Prop} {o : Option Mx} (h : Bq n S o) (e : ∀ p, S p ↔ T p) : Bq n T o := by
  obtain ⟨M, pos, cl, e1⟩ := h
  exact ⟨M, pos, cl, fun p => (e1 p).trans (e p)⟩
theorem bq_bound {A : AH} {n i j : Nat} {t : Int} {S : List Int → Prop} {o : Option Mx} (h : Bq n S o) (hn : n ≤ 20) (hi : i ≤ n) (hj : j ≤ n) (e : i ≠ j) :
    Sat (m_bound [outD (n + 1) o, .int (i : Nat), .int (j : Nat), .int t] A) fun d A' => Gr A A' ∧ ∃ o', d = outD (n + 1) o' ∧ Bq n (fun p => S p ∧ at0 p i - at0 p j ≤ t) o' := by
  cases o with
  | none =>
    rw [show outD (n + 1) none = .non from rfl, non_bound]
    exact ⟨.refl, none, rfl, h.congr fun p => ⟨fun z => absurd z (h.none p), fun z => absurd z.1 (h.none p)⟩⟩
  | some R =>
    obtain ⟨M, pos, cl, e1⟩ := h
    have cl : ClOf (n + 1) M R := cl
    refine Sat.imp (bound_spec (m := n + 1) (R := R) (by omega) (by omega) (by omega)) fun d A' ⟨G, e'⟩ => ⟨G, _, e', low i j t R, fun a ha => ?_, bound_closes cl.cl (by omega) (by omega) e, fun p => ?_⟩
    · unfold low
      split
      · omega
      · exact Int.le_of_eq (cl.cl.dg a ha).symm
    · rw [fp_low hi hj e, ← fp_cl cl, e1]
theorem bq_hull {n : Nat} {S : List Int → Prop} {o : Option Mx} {E : List (List Int)} (h : Bq n S o) (h1 : ∀ q ∈ E, S q) (h2 : ∀ q, S q → E ≠ [] ∧ ∀ a b, a ≤ n → b ≤ n → at0 q a - at0 q b ≤ mx E a b) : outD (n + 1) o = hullD E n := by
  obtain ⟨M, pos, cl, e⟩ := h
  rw [hull_out]
  exact closes_same (by omega) cl (hull_closes2 (by omega) pos (fun p hp => (e p).mpr (h1 p hp)) fun p hp => ⟨(h2 p ((e p).mp hp)).1, fun i j hi hj => (h2 p ((e p).mp hp)).2 i j (by omega) (by omega)⟩)
theorem bq_self {n : Nat} {R : Mx} (h : Cl (n + 1) R) : Bq n (fun p => Fp R n p) (some R) :=
  ⟨R, fun i hi => Int.le_of_eq (h.dg i hi).symm, ⟨fun i hi => Int.le_of_eq (h.dg i hi).symm, h, fun i j _ _ _ => Int.le_refl _, fun p hp i j hi hj => by
    by_cases e : i = j
    · subst e; have := h.dg i hi; omega
    · exact hp i j hi hj e⟩, fun p => Iff.rfl⟩
/-- a greatest one among the other columns -/
theorem top_of {n i : Nat} (g : Nat → Int) (i1 : 1 ≤ i) : ∃ l, l ≤ n ∧ l ≠ i ∧ ∀ j, j ≤ n → j ≠ i → g j ≤ g l := by
  have ne : (((List.range (n + 1)).filter fun j => decide (j ≠ i)).map g) ≠ [] := by
    intro e
    have z : (0 : Nat) ∈ (List.range (n + 1)).filter fun j => decide (j ≠ i) := List.mem_filter.mpr ⟨List.mem_range.mpr (by omega), decide_eq_true (by omega)⟩
    rw [List.map_eq_nil_iff.mp e] at z
    cases z
  obtain ⟨l, hl, e⟩ := List.mem_map.mp (maxI_mem ne)
  obtain ⟨l1, l2⟩ := List.mem_filter.mp hl
  refine ⟨l, by have := List.mem_range.mp l1; omega, of_decide_eq_true l2, fun j hj ji => ?_⟩
  rw [e]
  exact maxI_le (List.mem_map.mpr ⟨j, List.mem_filter.mpr ⟨List.mem_range.mpr (by omega), decide_eq_true ji⟩, rfl⟩)
theorem set_set_self {q : List Int} {i : Nat} {y : Int} (i1 : 1 ≤ i) (i2 : i ≤ q.length) : q = (q.set (i - 1) y).set (i - 1) (at0 q i) := by
  rw [List.set_set]
  apply List.ext_getElem (by simp)
  intro k h1 h2
  rw [List.getElem_set]
  split
  · rename_i e
    subst e
    obtain ⟨i, rfl⟩ : ∃ j, i = j + 1 := ⟨i - 1, by omega⟩
    rw [at0_s, List.getD_eq_getElem?_getD, List.getElem?_eq_getElem (show i < q.length by omega)]; rfl
  · rfl
theorem fp_free {n i : Nat} {l h : Int} {ps : List (List Int)} (al : All n ps) (ne : ps ≠ []) (i1 : 1 ≤ i) (i2 : i ≤ n) (le : l ≤ h) (q : List Int) : Fp (freef i l h (mx ps)) n q ↔ ∃ p ∈ ps, ∃ v, (l ≤ v ∧ v ≤ h) ∧ q = p.set (i - 1) v := by
  have C := mx_cl (m := n + 1) ne
  constructor
  · intro f
    obtain ⟨t, t1, t2, top⟩ := top_of (n := n) (fun j => at0 q j - mx ps j i) i1
    have F : ∀ j, j ≤ n → j ≠ i → (at0 q j - mx ps j i ≤ at0 q t - mx ps t i) ∧ at0 q t - at0 q j ≤ mx ps t j := fun j hj ji => by
      refine ⟨top j hj ji, ?_⟩
      by_cases e : t = j
      · subst e; have := C.dg t (by omega); omega
      · have := f.2 t j t1 hj e
        unfold freef at this
        rw [if_neg t2, if_neg ji] at this
        exact this
    refine ⟨q.set (i - 1) (at0 q t - mx ps t i), al.all _ ne ⟨by rw [List.length_set]; exact f.1, fun a b ha hb e => ?_⟩, at0 q i, ?_, set_set_self i1 (by rw [f.1]; exact i2)⟩
    · rw [at0_set i1 (by rw [f.1]; exact i2), at0_set i1 (by rw [f.1]; exact i2)]
      by_cases ea : a = i
      · subst ea
        rw [if_pos rfl, if_neg (Ne.symm e)]
        have h1 := F b hb (Ne.symm e)
        have h2 := C.tri t a b (by omega) (by omega) (by omega)
        omega
      · rw [if_neg ea]
        by_cases eb : b = i
        · subst eb
          rw [if_pos rfl]
          have h1 := F a ha ea
          omega
        · rw [if_neg eb]
          have := f.2 a b ha hb e
          unfold freef at this
          rw [if_neg ea, if_neg eb] at this
          exact this
    · have h1 := f.2 i 0 i2 (by omega) (by omega)
      have h2 := f.2 0 i (by omega) i2 (by omega)
      have d0 := C.dg 0 (by omega)
      unfold freef at h1 h2
      rw [if_pos rfl, if_neg (by omega), at0_z] at h1
      rw [if_neg (by omega), if_pos rfl, at0_z] at h2
      omega
  · rintro ⟨p, hp, v, hv, rfl⟩
    have pl := al.len p hp
    refine ⟨by rw [List.length_set]; exact pl, fun a b ha hb e => ?_⟩
    rw [at0_set i1 (by omega), at0_set i1 (by omega)]
    unfold freef
    have g : ∀ x y, at0 p x - at0 p y ≤ mx ps x y := fun x y => mx_ge hp
    by_cases ea : a = i
    · rw [if_pos ea, if_pos ea, if_neg (by omega), if_neg (by omega)]
      have := g 0 b
      rw [at0_z] at this
      omega
    · rw [if_neg ea, if_neg ea]
      by_cases eb : b = i
      · rw [if_pos eb, if_pos eb]
        have := g a 0
        rw [at0_z] at this
        omega
      · rw [if_neg eb, if_neg eb]
        exact g a b
theorem fp_shift {n i : Nat} {l h : Int} {ps : List (List Int)} (al : All n ps) (ne : ps ≠ []) (i1 : 1 ≤ i) (i2 : i ≤ n) (le : l ≤ h) (q : List Int) : Fp (shiftf i l h (mx ps)) n q ↔ ∃ p ∈ ps, ∃ w, (l ≤ w ∧ w ≤ h) ∧ q = p.set (i - 1) (at0 p i + w) := by
  have C := mx_cl (m := n + 1) ne
  constructor
  · intro f
    obtain ⟨t, t1, t2, top⟩ := top_of (n := n) (fun j => at0 q j - mx ps j i) i1
    obtain ⟨y, y1, y2, y3⟩ : ∃ y, at0 q i - h ≤ y ∧ at0 q t - mx ps t i ≤ y ∧ (y = at0 q i - h ∨ y = at0 q t - mx ps t i) := by
      rcases Int.le_total (at0 q i - h) (at0 q t - mx ps t i) with z | z
      · exact ⟨_, z, Int.le_refl _, .inr rfl⟩
      · exact ⟨_, Int.le_refl _, z, .inl rfl⟩
    have fi : ∀ j, j ≤ n → j ≠ i → at0 q i - at0 q j ≤ mx ps i j + h ∧ at0 q j - at0 q i ≤ mx ps j i - l := fun j hj ji => by
      have h1 := f.2 i j i2 hj (Ne.symm ji)
      have h2 := f.2 j i hj i2 ji
      unfold shiftf at h1 h2
      rw [if_pos rfl, if_neg ji] at h1
      rw [if_neg ji, if_pos rfl] at h2
      exact ⟨h1, h2⟩
    have F : ∀ j, j ≤ n → j ≠ i → (at0 q j - mx ps j i ≤ at0 q t - mx ps t i) ∧ at0 q t - at0 q j ≤ mx ps t j := fun j hj ji => by
      refine ⟨top j hj ji, ?_⟩
      by_cases e : t = j
      · subst e; have := C.dg t (by omega); omega
      · have := f.2 t j t1 hj e
        unfold shiftf at this
        rw [if_neg t2, if_neg ji] at this
        exact this
    have ti := fi t t1 t2
    refine ⟨q.set (i - 1) y, al.all _ ne ⟨by rw [List.length_set]; exact f.1, fun a b ha hb e => ?_⟩, at0 q i - y, ⟨by omega, by omega⟩, ?_⟩
    · rw [at0_set i1 (by rw [f.1]; exact i2), at0_set i1 (by rw [f.1]; exact i2)]
      by_cases ea : a = i
      · subst ea
        rw [if_pos rfl, if_neg (Ne.symm e)]
        have h1 := F b hb (Ne.symm e)
        have h2 := C.tri t a b (by omega) (by omega) (by omega)
        have h3 := fi b hb (Ne.symm e)
        omega
      · rw [if_neg ea]
        by_cases eb : b = i
        · subst eb
          rw [if_pos rfl]
          have h1 := F a ha ea
          omega
        · rw [if_neg eb]
          have := f.2 a b ha hb e
          unfold shiftf at this
          rw [if_neg ea, if_neg eb] at this
          exact this
    · rw [at0_set i1 (by rw [f.1]; exact i2), if_pos rfl, show y + (at0 q i - y) = at0 q i by omega]
      exact set_set_self i1 (by rw [f.1]; exact i2)
  · rintro ⟨p, hp, w, hw, rfl⟩
    have pl := al.len p hp
    refine ⟨by rw [List.length_set]; exact pl, fun a b ha hb e => ?_⟩
    rw [at0_set i1 (by omega), at0_set i1 (by omega)]
    unfold shiftf
    have g : ∀ x y, at0 p x - at0 p y ≤ mx ps x y := fun x y => mx_ge hp
    by_cases ea : a = i
    · rw [if_pos ea, if_pos ea, if_neg (by omega), if_neg (by omega)]
      have := g i b
      omega
    · rw [if_neg ea, if_neg ea]
      by_cases eb : b = i
      · rw [if_pos eb, if_pos eb]
        have := g a i
        omega
      · rw [if_neg eb, if_neg eb]
        exact g a b
theorem cl_of_eq {m : Nat} {R : Mx} {ps : List (List Int)} (ne : ps ≠ []) (e : ∀ a b, mx ps a b = R a b) : Cl m R := by
  have : R = mx ps := by funext a b; exact (e a b).symm
  rw [this]
  exact mx_cl ne
theorem bq_free {n i : Nat} {l h : Int} {ps : List (List Int)} (al : All n ps) (ne : ps ≠ []) (i1 : 1 ≤ i) (i2 : i ≤ n) (le : l ≤ h) : Bq n (fun q => ∃ p ∈ ps, ∃ v, (l ≤ v ∧ v ≤ h) ∧ q = p.set (i - 1) v) (some (freef i l h (mx ps))) :=
  (bq_self (cl_of_eq (fun e => ne (two_ne.mp e)) (mx_free ne al.len i1 i2 le))).congr fun q => fp_free al ne i1 i2 le q
theorem bq_shift {n i : Nat} {l h : Int} {ps : List (List Int)} (al : All n ps) (ne : ps ≠ []) (i1 : 1 ≤ i) (i2 : i ≤ n) (le : l ≤ h) : Bq n (fun q => ∃ p ∈ ps, ∃ w, (l ≤ w ∧ w ≤ h) ∧ q = p.set (i - 1) (at0 p i + w)) (some (shiftf i l h (mx ps))) :=
  (bq_self (cl_of_eq (fun e => ne (two_ne.mp e)) (mx_shift ne al.len i1 i2 le))).congr fun q => fp_shift al ne i1 i2 le q
end Law

namespace Law
open PySem PySem.Spec PyProof.Rows L2 Ab
open scoped Classical
theorem rep_spec {A : AH} {r m : Nat} {d : D} (h : A[r]? = some (.lst [d])) (hm : m ≤ 1000) : mulD (.ref r) (.int (m : Nat)) A = .ok (.ref A.length) (A ++ [.lst ((List.range m).map fun _ => d)]) := by
  have e : (List.replicate m [d]).flatten = (List.range m).map fun _ => d := by
    apply List.ext_getElem
    · simp
    · intro a h1 h2
      rw [List.getElem_map]
      have hm : (List.replicate m [d]).flatten[a] ∈ (List.replicate m [d]).flatten := List.getElem_mem _
      obtain ⟨l, hl, hx⟩ := List.mem_flatten.mp hm
      rw [(List.mem_replicate.mp hl).2] at hx
      exact List.mem_singleton.mp hx
  show (match muL A (.ref r) with
    | some xs => if -(2 ^ 63) ≤ ((m : Nat) : Int) ∧ ((m : Nat) : Int) < 2 ^ 63 ∧ xs.length * ((m : Nat) : Int).toNat ≤ sizeLine then Ab.alloc (.lst (List.replicate ((m : Nat) : Int).toNat xs).flatten) A else .bad
    | _ => .bad) = _
  rw [muL_l h]
  show (if _ then _ else _) = _
  rw [if_pos ⟨by omega, by omega, sl_le (by rw [Int.toNat_natCast, List.length_singleton]; omega)⟩, Int.toNat_natCast, e]
  rfl
/-! ### boxes tied -/
structure Tie (cs : List Nat) (M N : Mx) (J : Nat → Nat → Prop) (T : Mx) : Prop where
  le : ∀ i j, T i j ≤ M i j
  leN : ∀ a b, J a b → T (plc cs a) (plc cs b) ≤ N a b
  src : ∀ i j, T i j = M i j ∨ ∃ a b, J a b ∧ plc cs a = i ∧ plc cs b = j ∧ T i j = N a b
def putm (i j : Nat) (v : Int) (T : Mx) : Mx := fun x y => if x = i ∧ y = j then (if v < T i j then v else T i j) else T x y
theorem Tie.next {cs : List Nat} {M N T : Mx} {J : Nat → Nat → Prop} (h : Tie cs M N J T) (a b : Nat) : Tie cs M N (fun x y => J x y ∨ (x = a ∧ y = b)) (putm (plc cs a) (plc cs b) (N a b) T) := by
  have low : ∀ x y, putm (plc cs a) (plc cs b) (N a b) T x y ≤ T x y := fun x y => by
    unfold putm
    split
    · rename_i z; rw [z.1, z.2]; split <;> omega
    · exact Int.le_refl _
  refine ⟨fun i j => Int.le_trans (low i j) (h.le i j), fun x y hJ => ?_, fun i j => ?_⟩
  · rcases hJ with hJ | ⟨rfl, rfl⟩
    · exact Int.le_trans (low _ _) (h.leN x y hJ)
    · unfold putm
      rw [if_pos ⟨rfl, rfl⟩]
      split <;> omega
  · unfold putm
    by_cases z : i = plc cs a ∧ j = plc cs b
    · obtain ⟨rfl, rfl⟩ := z
      rw [if_pos ⟨rfl, rfl⟩]
      split
      · exact .inr ⟨a, b, .inr ⟨rfl, rfl⟩, rfl, rfl, rfl⟩
      · rcases h.src (plc cs a) (plc cs b) with e | ⟨x, y, h1, h2, h3, h4⟩
        · exact .inl e
        · exact .inr ⟨x, y, .inl h1, h2, h3, h4⟩
    · rw [if_neg z]
      rcases h.src i j with e | ⟨x, y, h1, h2, h3, h4⟩
      · exact .inl e
      · exact .inr ⟨x, y, .inl h1, h2, h3, h4⟩
theorem Tie.mono {cs : List Nat} {M N T : Mx} {J J' : Nat → Nat → Prop} (h : Tie cs M N J T) (q : ∀ a b, J a b ↔ J' a b) : Tie cs M N J' T :=
  ⟨h.le, fun a b hJ => h.leN a b ((q a b).mpr hJ), fun i j => (h.src i j).imp id fun ⟨a, b, h1, h2⟩ => ⟨a, b, (q a b).mp h1, h2⟩⟩
theorem Tie.uniq {cs : List Nat} {M N T T' : Mx} {J : Nat → Nat → Prop} (h : Tie cs M N J T) (h' : Tie cs M N J T') : T = T' := by
  have le : ∀ {T T' : Mx}, Tie cs M N J T → Tie cs M N J T' → ∀ i j, T i j ≤ T' i j := fun {T T'} h h' i j => by
    rcases h'.src i j with e | ⟨a, b, h1, rfl, rfl, h4⟩
    · rw [e]; exact h.le i j
    · rw [h4]; exact h.leN a b h1
  funext i j
  exact Int.le_antisymm (le h h' i j) (le h' h i j)
theorem non_tie {A : AH} {d e : D} : m_tie_boxes [.non, d, e] A = .ok .non A := by
  have key : Sat (m_tie_boxes [.non, d, e] A) fun d A' => d = .non ∧ A' = A := by
    refine sat_body rfl (sat_seq ?_)
    simp only [EV, Ab.isNon, args, List.map, List.length_cons, List.length_nil, List.length_singleton, List.replicate, Nat.reduceSub, Nat.reduceAdd, Nat.zero_add, List.cons_append, List.nil_append, List.getElem?_cons_zero, List.getElem?_cons_succ, List.set_cons_zero, List.set_cons_succ, Option.some.injEq, decide_eq_true_eq, Bool.not_eq_true', decide_eq_false_iff_not, ite_true, ite_false, if_true, if_false, reduceIte, Bool.false_eq_true, Bool.not_true, Bool.not_false, Bool.true_eq_false, decide_true, decide_false, Nat.reduceLeDiff, Nat.reduceLT]
    trivial
  obtain ⟨d, A', e, rfl, rfl⟩ := key.eq
  exact e
theorem tie_non {A : AH} {m : Nat} {o : Option Mx} {e : D} : m_tie_boxes [outD m o, .non, e] A = .ok .non A := by
  have key : Sat (m_tie_boxes [outD m o, .non, e] A) fun d A' => d = .non ∧ A' = A := by
    refine sat_body rfl (sat_seq ?_)
    cases o with
    | none => simp only [outD, EV, Ab.isNon, args, List.map, List.length_cons, List.length_nil, List.length_singleton, List.replicate, Nat.reduceSub, Nat.reduceAdd, Nat.zero_add, List.cons_append, List.nil_append, List.getElem?_cons_zero, List.getElem?_cons_succ, List.set_cons_zero, List.set_cons_succ, Option.some.injEq, decide_eq_true_eq, Bool.not_eq_true', decide_eq_false_iff_not, ite_true, ite_false, if_true, if_false, reduceIte, Bool.false_eq_true, Bool.not_true, Bool.not_false, Bool.true_eq_false, decide_true, decide_false, Nat.reduceLeDiff, Nat.reduceLT]; trivial
    | some M =>
      obtain ⟨ds, hd⟩ : ∃ ds, outD m (some M) = .tup ds := ⟨_, rfl⟩
      rw [hd]
      simp only [EV, Ab.isNon, args, List.map, List.length_cons, List.length_nil, List.length_singleton, List.replicate, Nat.reduceSub, Nat.reduceAdd, Nat.zero_add, List.cons_append, List.nil_append, List.getElem?_cons_zero, List.getElem?_cons_succ, List.set_cons_zero, List.set_cons_succ, Option.some.injEq, decide_eq_true_eq, Bool.not_eq_true', decide_eq_false_iff_not, ite_true, ite_false, if_true, if_false, reduceIte, Bool.false_eq_true, Bool.not_true, Bool.not_false, Bool.true_eq_false, decide_true, decide_false, Nat.reduceLeDiff, Nat.reduceLT]; trivial
  obtain ⟨d, A', e, rfl, rfl⟩ := key.eq
  exact e
theorem tie_spec {A : AH} {n : Nat} {M N : Mx} {cs : List Nat} (hn : n ≤ 99) (hl : cs.length ≤ 99) (hc : ∀ c ∈ cs, c ≤ n) :
    Sat (m_tie_boxes [matD (n + 1) M, matD (cs.length + 1) N, clD cs] A) fun d A' => Gr A A' ∧ ∃ o T, d = outD (n + 1) o ∧ Closes (n + 1) T o ∧ Tie cs M N (fun a b => a < cs.length + 1 ∧ b < cs.length + 1) T := by
  refine sat_body rfl (sat_seq ?_)
  have pl := fun a => plc_lt (a := a) hc
  have i1 : ∀ {k : Nat} A, k < cs.length + 1 → ixD (matD (cs.length + 1) N) (.int (k : Nat)) A = .ok (rowD (cs.length + 1) (N k)) A := fun A h => ix_mat h
  have i2 : ∀ {k l : Nat} A, l < cs.length + 1 → ixD (rowD (cs.length + 1) (N k)) (.int (l : Nat)) A = .ok (.int (N k l)) A := fun A h => ix_row h
  have its : ∀ A, iSeq (matD (n + 1) M) A = .ok ⟨(List.range (n + 1)).map fun i => rowD (n + 1) (M i), yes⟩ A := fun A => rfl
  obtain ⟨ds, hd⟩ : ∃ ds, matD (n + 1) M = .tup ds := ⟨_, rfl⟩
  obtain ⟨es, he⟩ : ∃ ds, matD (cs.length + 1) N = .tup ds := ⟨_, rfl⟩
  simp only [hd, he] at i1 its ⊢
  simp only [EV, Ab.isNon, args, List.map, List.length_cons, List.length_nil, List.length_singleton, List.replicate, Nat.reduceSub, Nat.reduceAdd, Nat.zero_add, List.cons_append, List.nil_append, List.getElem?_cons_zero, List.getElem?_cons_succ, List.set_cons_zero, List.set_cons_succ, Option.some.injEq, decide_eq_true_eq, Bool.not_eq_true', decide_eq_false_iff_not, ite_true, ite_false, if_true, if_false, reduceIte, Bool.false_eq_true, Bool.not_true, Bool.not_false, Bool.true_eq_false, decide_true, decide_false, Nat.reduceLeDiff, Nat.reduceLT]
  refine sat_seq ?_
  have z : [D.int 0].length + (cs.map fun c => D.int (c : Nat)).length ≤ sizeLine := sl_le (by simp; omega)
  have a1 : ∀ A, addD (.tup [.int 0]) (clD cs) A = .ok (.tup (D.int 0 :: cs.map fun c => .int (c : Nat))) A := fun A => ev_add_tt z
  simp only [EV, Ab.isNon, args, List.map, List.length_cons, List.length_nil, List.length_singleton, List.replicate, Nat.reduceSub, Nat.reduceAdd, Nat.zero_add, List.cons_append, List.nil_append, List.getElem?_cons_zero, List.getElem?_cons_succ, List.set_cons_zero, List.set_cons_succ, Option.some.injEq, decide_eq_true_eq, Bool.not_eq_true', decide_eq_false_iff_not, ite_true, ite_false, if_true, if_false, reduceIte, Bool.false_eq_true, Bool.not_true, Bool.not_false, Bool.true_eq_false, decide_true, decide_false, Nat.reduceLeDiff, Nat.reduceLT, a1]
  refine sat_seq ?_
  simp only [EV, Ab.isNon, args, List.map, List.length_cons, List.length_nil, List.length_singleton, List.replicate, Nat.reduceSub, Nat.reduceAdd, Nat.zero_add, List.cons_append, List.nil_append, List.getElem?_cons_zero, List.getElem?_cons_succ, List.set_cons_zero, List.set_cons_succ, Option.some.injEq, decide_eq_true_eq, Bool.not_eq_true', decide_eq_false_iff_not, ite_true, ite_false, if_true, if_false, reduceIte, Bool.false_eq_true, Bool.not_true, Bool.not_false, Bool.true_eq_false, decide_true, decide_false, Nat.reduceLeDiff, Nat.reduceLT, wipeA, its]
  refine comp_cnt (fun k acc B => Gr A B ∧ acc = (List.range k).map (fun i => D.ref (A.length + 1 + i)) ∧ B[A.length]? = some (.lst acc) ∧ B.length = A.length + 1 + k ∧ ∀ i, i < k → B[A.length + 1 + i]? = some (.lst ((List.range (n + 1)).map fun j => .int (M i j))))
    (fun k acc B hk ⟨G, ha, hB, lB, hR⟩ => ⟨trivial, ?_⟩) (fun acc B ⟨G, ha, hB, lB, hR⟩ => ⟨trivial, ?_⟩) (acc := []) ⟨.app, rfl, at_new, by simp, fun _ h => absurd h (Nat.not_lt_zero _)⟩
  · have lst : ∀ A, lstOf [rowD (n + 1) (M k)] A = .ok (.ref A.length) (A ++ [.lst ((List.range (n + 1)).map fun j => .int (M k j))]) := fun A => ev_lst_ofT
    simp only [EV, Ab.isNon, args, List.map, List.length_cons, List.length_nil, List.length_singleton, List.replicate, Nat.reduceSub, Nat.reduceAdd, Nat.zero_add, List.cons_append, List.nil_append, List.getElem?_cons_zero, List.getElem?_cons_succ, List.set_cons_zero, List.set_cons_succ, Option.some.injEq, decide_eq_true_eq, Bool.not_eq_true', decide_eq_false_iff_not, ite_true, ite_false, if_true, if_false, reduceIte, Bool.false_eq_true, Bool.not_true, Bool.not_false, Bool.true_eq_false, decide_true, decide_false, Nat.reduceLeDiff, Nat.reduceLT, lst]
    have hB2 := (Gr.app (B := [.lst ((List.range (n + 1)).map fun j => .int (M k j))])).keep _ _ hB
    refine ⟨hB2, by rw [ha]; simp; omega, (G.trans .app).set (Nat.le_refl _), ?_, at_set (at_lt hB2), by simp [lB]; omega, fun i hi => ?_⟩
    · rw [ha, List.range_succ (n := k), List.map_append, lB]; rfl
    · rw [List.getElem?_set_ne (by omega)]
      by_cases e : i = k
      · subst e
        rw [← lB]; exact at_new
      · exact Gr.app.keep _ _ (hR i (by omega))
  have W : Mt A B A.length (fun i => A.length + 1 + i) (n + 1) M := ⟨G, by rw [hB, ha], hR, fun i j _ _ e => by have e : A.length + 1 + i = A.length + 1 + j := e; omega, fun i _ => by show A.length + 1 + i ≠ A.length; omega, fun i _ => by show A.length ≤ A.length + 1 + i; omega⟩
  clear ha hB lB hR G its
  generalize A.length = r at W ⊢
  generalize (fun i => r + 1 + i) = c at W
  refine sat_seq ?_
  have ln : ∀ A, lenD [.tup (D.int 0 :: cs.map fun c => .int (c : Nat))] A = .ok (.int ((cs.length + 1 : Nat) : Int)) A := fun A => by rw [ev_len_t]; simp
  have px : ∀ {a : Nat} A, a < cs.length + 1 → ixD (.tup (D.int 0 :: cs.map fun c => .int (c : Nat))) (.int (a : Nat)) A = .ok (.int ((plc cs a : Nat) : Int)) A := fun A h => plc_ix h
  generalize hF : D.tup (D.int 0 :: cs.map fun c => .int (c : Nat)) = F at *
  simp only [EV, Ab.isNon, args, List.map, List.length_cons, List.length_nil, List.length_singleton, List.replicate, Nat.reduceSub, Nat.reduceAdd, Nat.zero_add, List.cons_append, List.nil_append, List.getElem?_cons_zero, List.getElem?_cons_succ, List.set_cons_zero, List.set_cons_succ, Option.some.injEq, decide_eq_true_eq, Bool.not_eq_true', decide_eq_false_iff_not, ite_true, ite_false, if_true, if_false, reduceIte, Bool.false_eq_true, Bool.not_true, Bool.not_false, Bool.true_eq_false, decide_true, decide_false, Nat.reduceLeDiff, Nat.reduceLT, ln]
  rw [if_pos (inRg_of (by omega) (by omega)), Int.toNat_natCast]
  refine range_inv (fun a σ C => ∃ T x y u v, σ = [some (.tup ds), some (.tup es), some (clD cs), some F, some (.ref r), none, x, y, u, v] ∧ Mt A C r c (n + 1) T ∧ Tie cs M N (fun x y => x < a ∧ y < cs.length + 1) T)
    (fun a σ C ha ⟨T, x, y, u, v, hσ, hC, ti⟩ => ?_) (fun σ C ⟨T, x, y, u, v, hσ, hC, ti⟩ => ?_) ⟨M, none, none, none, none, rfl, W, ⟨fun _ _ => Int.le_refl _, fun a b h => absurd h.1 (Nat.not_lt_zero _), fun _ _ => .inl rfl⟩⟩
  · subst hσ
    simp only [EV, Ab.isNon, args, List.map, List.length_cons, List.length_nil, List.length_singleton, List.replicate, Nat.reduceSub, Nat.reduceAdd, Nat.zero_add, List.cons_append, List.nil_append, List.getElem?_cons_zero, List.getElem?_cons_succ, List.set_cons_zero, List.set_cons_succ, Option.some.injEq, decide_eq_true_eq, Bool.not_eq_true', decide_eq_false_iff_not, ite_true, ite_false, if_true, if_false, reduceIte, Bool.false_eq_true, Bool.not_true, Bool.not_false, Bool.true_eq_false, decide_true, decide_false, Nat.reduceLeDiff, Nat.reduceLT, ln]
    rw [if_pos (inRg_of (by omega) (by omega)), Int.toNat_natCast]
    refine range_inv (fun b σ C => ∃ T y u v, σ = [some (.tup ds), some (.tup es), some (clD cs), some F, some (.ref r), none, some (.int (0 + (a : Nat))), y, u, v] ∧ Mt A C r c (n + 1) T ∧ Tie cs M N (fun x y => (x < a ∧ y < cs.length + 1) ∨ (x = a ∧ y < b)) T)
      (fun b σ C hb ⟨T, y, u, v, hσ, hC, ti⟩ => ?_) (fun σ C ⟨T, y, u, v, hσ, hC, ti⟩ => ?_) ⟨T, y, u, v, rfl, hC, ti.mono fun x y => by constructor <;> intro h <;> omega⟩
    · subst hσ
      simp only [EV, Ab.isNon, args, List.map, List.length_cons, List.length_nil, List.length_singleton, List.replicate, Nat.reduceSub, Nat.reduceAdd, Nat.zero_add, List.cons_append, List.nil_append, List.getElem?_cons_zero, List.getElem?_cons_succ, List.set_cons_zero, List.set_cons_succ, Option.some.injEq, decide_eq_true_eq, Bool.not_eq_true', decide_eq_false_iff_not, ite_true, ite_false, if_true, if_false, reduceIte, Bool.false_eq_true, Bool.not_true, Bool.not_false, Bool.true_eq_false, decide_true, decide_false, Nat.reduceLeDiff, Nat.reduceLT, Int.zero_add]
      refine sat_seq ?_
      simp only [EV, Ab.isNon, args, List.map, List.length_cons, List.length_nil, List.length_singleton, List.replicate, Nat.reduceSub, Nat.reduceAdd, Nat.zero_add, List.cons_append, List.nil_append, List.getElem?_cons_zero, List.getElem?_cons_succ, List.set_cons_zero, List.set_cons_succ, Option.some.injEq, decide_eq_true_eq, Bool.not_eq_true', decide_eq_false_iff_not, ite_true, ite_false, if_true, if_false, reduceIte, Bool.false_eq_true, Bool.not_true, Bool.not_false, Bool.true_eq_false, decide_true, decide_false, Nat.reduceLeDiff, Nat.reduceLT, px _ ha]
      refine sat_seq ?_
      simp only [EV, Ab.isNon, args, List.map, List.length_cons, List.length_nil, List.length_singleton, List.replicate, Nat.reduceSub, Nat.reduceAdd, Nat.zero_add, List.cons_append, List.nil_append, List.getElem?_cons_zero, List.getElem?_cons_succ, List.set_cons_zero, List.set_cons_succ, Option.some.injEq, decide_eq_true_eq, Bool.not_eq_true', decide_eq_false_iff_not, ite_true, ite_false, if_true, if_false, reduceIte, Bool.false_eq_true, Bool.not_true, Bool.not_false, Bool.true_eq_false, decide_true, decide_false, Nat.reduceLeDiff, Nat.reduceLT, px _ hb]
      simp only [EV, Ab.isNon, args, List.map, List.length_cons, List.length_nil, List.length_singleton, List.replicate, Nat.reduceSub, Nat.reduceAdd, Nat.zero_add, List.cons_append, List.nil_append, List.getElem?_cons_zero, List.getElem?_cons_succ, List.set_cons_zero, List.set_cons_succ, Option.some.injEq, decide_eq_true_eq, Bool.not_eq_true', decide_eq_false_iff_not, ite_true, ite_false, if_true, if_false, reduceIte, Bool.false_eq_true, Bool.not_true, Bool.not_false, Bool.true_eq_false, decide_true, decide_false, Nat.reduceLeDiff, Nat.reduceLT, hC.ix (pl a), hC.ix2 (pl a) (pl b), i1 _ ha, i2 _ hb, hC.st (pl a) (pl b), turn_]
      refine ⟨putm (plc cs a) (plc cs b) (N a b) T, _, _, _, rfl, (hC.set (pl a)).ext fun x y _ _ => rfl, (ti.next a b).mono fun x y => by constructor <;> intro h <;> omega⟩
    · subst hσ
      simp only [turn_]
      exact ⟨T, _, _, _, _, rfl, hC, ti.mono fun x y => by constructor <;> intro h <;> omega⟩
  · subst hσ
    simp only [EV, Ab.isNon, args, List.map, List.length_cons, List.length_nil, List.length_singleton, List.replicate, Nat.reduceSub, Nat.reduceAdd, Nat.zero_add, List.cons_append, List.nil_append, List.getElem?_cons_zero, List.getElem?_cons_succ, List.set_cons_zero, List.set_cons_succ, Option.some.injEq, decide_eq_true_eq, Bool.not_eq_true', decide_eq_false_iff_not, ite_true, ite_false, if_true, if_false, reduceIte, Bool.false_eq_true, Bool.not_true, Bool.not_false, Bool.true_eq_false, decide_true, decide_false, Nat.reduceLeDiff, Nat.reduceLT]
    refine Sat.imp (frozen_spec c hC.rows (fun i hi => hC.row i hi) (by omega)) fun d C2 ⟨e, G2⟩ => ?_
    subst e
    refine Sat.imp (close_spec (by omega) (by omega)) fun d C3 ⟨G3, o, e, ho⟩ => ?_
    exact ⟨(hC.gr.trans G2).trans G3, o, T, e, ho, ti⟩
/-! ### the law's own tie -/
end Law

namespace Law
open PySem PySem.Spec PyProof.Rows L2 Ab
open scoped Classical
theorem points_cnt {A : AH} {m N : Nat} {M : Mx} (hm : m ≤ 30) (m1 : 0 < m) (bd : ∀ i j, i < m → j < m → i ≠ j → -4000000000 ≤ M i j ∧ M i j ≤ 4000000000) (wd : ∀ i, i < m → i ≠ 0 → M i 0 + M 0 i ≤ 1000) (hN : N ≤ 100000) (cnt : ∀ c, c < m → ∀ qs : List (List Int), qs.Nodup → (∀ q ∈ qs, Fp M c q) → qs.length ≤ N) : Sat (m__law_points [matD m M] A) fun d A' => Gr A A' ∧ ∃ r ps, d = .ref r ∧ A'[r]? = some (.lst (ps.map ptD)) ∧ ps.length ≤ N ∧ (((∃ i, i < m ∧ M i i < 0) ∧ ps = []) ∨ ((∀ i, i < m → 0 ≤ M i i) ∧ ∀ p, p ∈ ps ↔ Fp M (m - 1) p)) := by
  refine sat_body rfl (sat_seq ?_)
  have ln : ∀ A, lenD [matD m M] A = .ok (.int (m : Nat)) A := fun A => by
    show lenD [.tup _] A = _
    rw [ev_len_t]; simp
  have i1 : ∀ {k : Nat} A, k < m → ixD (matD m M) (.int (k : Nat)) A = .ok (rowD m (M k)) A := fun A h => ix_mat h
  have i2 : ∀ {k l : Nat} A, l < m → ixD (rowD m (M k)) (.int (l : Nat)) A = .ok (.int (M k l)) A := fun A h => ix_row h
  have fit : ∀ {A : AH} {c : Nat} {p : List Int} {v : Int} {b : Bool}, p.length = c → c + 1 < m → v ≤ M (c + 1) 0 → -v ≤ M 0 (c + 1) → (b = true ↔ Add M p v) → m__law_fits [matD m M, ptD p, .int ((c + 1 : Nat) : Int), .int v] A = .ok (.bl b) A := fun hl hc h1 h2 hb => fits_spec hl hc (by omega) h1 h2 hb
  obtain ⟨ds, hd, dl⟩ : ∃ ds, matD m M = .tup ds ∧ ds.length = m := ⟨_, rfl, by simp⟩
  simp only [hd] at i1 ln fit ⊢
  simp only [EV, Ab.isNon, args, List.map, List.length_cons, List.length_nil, List.length_singleton, List.replicate, Nat.reduceSub, Nat.reduceAdd, Nat.zero_add, List.cons_append, List.nil_append, List.getElem?_cons_zero, List.getElem?_cons_succ, List.set_cons_zero, List.set_cons_succ, Option.some.injEq, decide_eq_true_eq, Bool.not_eq_true', decide_eq_false_iff_not, ite_true, ite_false, if_true, if_false, reduceIte, Bool.false_eq_true, Bool.not_true, Bool.not_false, Bool.true_eq_false, decide_true, decide_false, Nat.reduceLeDiff, Nat.reduceLT, dl, wipeA]
  rw [if_pos (inRg_of (by omega) (by omega)), Int.toNat_natCast]
  refine comp_pure (fun k : Nat => .int (0 + (k : Nat))) (fun k => .int (M k k)) (fun _ => trivial) (fun k hk l => ?_) (by simp; omega) ?_
  · have hk := List.mem_range.mp hk
    simp only [EV, Ab.isNon, args, List.map, List.length_cons, List.length_nil, List.length_singleton, List.replicate, Nat.reduceSub, Nat.reduceAdd, Nat.zero_add, List.cons_append, List.nil_append, List.getElem?_cons_zero, List.getElem?_cons_succ, List.set_cons_zero, List.set_cons_succ, Option.some.injEq, decide_eq_true_eq, Bool.not_eq_true', decide_eq_false_iff_not, ite_true, ite_false, if_true, if_false, reduceIte, Bool.false_eq_true, Bool.not_true, Bool.not_false, Bool.true_eq_false, decide_true, decide_false, Nat.reduceLeDiff, Nat.reduceLT, Int.zero_add]
    rw [i1 _ hk, sat_ok, i2 _ hk]
    exact ⟨rfl, rfl⟩
  have em : ((List.range m).map fun k => D.int (M k k)) = ((List.range m).map fun k => M k k).map D.int := by rw [List.map_map]; rfl
  have ne : ((List.range m).map fun k => M k k) ≠ [] := fun e => by
    have := congrArg List.length e
    simp at this; omega
  have hs : minD [.ref A.length] (A ++ [.lst ((List.range m).map fun k => D.int (M k k))]) = .ok (.int (minI ((List.range m).map fun k => M k k))) _ := ev_min_l (by rw [← em]; exact at_new) ne
  simp only [EV, Ab.isNon, args, List.map, List.length_cons, List.length_nil, List.length_singleton, List.replicate, Nat.reduceSub, Nat.reduceAdd, Nat.zero_add, List.cons_append, List.nil_append, List.getElem?_cons_zero, List.getElem?_cons_succ, List.set_cons_zero, List.set_cons_succ, Option.some.injEq, decide_eq_true_eq, Bool.not_eq_true', decide_eq_false_iff_not, ite_true, ite_false, if_true, if_false, reduceIte, Bool.false_eq_true, Bool.not_true, Bool.not_false, Bool.true_eq_false, decide_true, decide_false, Nat.reduceLeDiff, Nat.reduceLT, hs]
  have G0 := Gr.app (A := A) (B := [.lst ((List.range m).map fun k => D.int (M k k))])
  generalize A ++ [AO.lst ((List.range m).map fun k => D.int (M k k))] = A1 at G0 ⊢
  split
  · rename_i hn
    obtain ⟨k, hk, e⟩ := List.mem_map.mp (minI_mem ne)
    exact ⟨G0.trans .app, _, [], rfl, at_new, by simp, .inl ⟨⟨k, List.mem_range.mp hk, by omega⟩, rfl⟩⟩
  rename_i hn
  have pos : ∀ i, i < m → 0 ≤ M i i := fun i hi => by
    have := minI_le (ns := (List.range m).map fun k => M k k) (List.mem_map.mpr ⟨i, List.mem_range.mpr hi, rfl⟩)
    have this : minI ((List.range m).map fun k => M k k) ≤ M i i := this
    omega
  refine sat_seq ?_
  simp only [EV, Ab.isNon, args, List.map, List.length_cons, List.length_nil, List.length_singleton, List.replicate, Nat.reduceSub, Nat.reduceAdd, Nat.zero_add, List.cons_append, List.nil_append, List.getElem?_cons_zero, List.getElem?_cons_succ, List.set_cons_zero, List.set_cons_succ, Option.some.injEq, decide_eq_true_eq, Bool.not_eq_true', decide_eq_false_iff_not, ite_true, ite_false, if_true, if_false, reduceIte, Bool.false_eq_true, Bool.not_true, Bool.not_false, Bool.true_eq_false, decide_true, decide_false, Nat.reduceLeDiff, Nat.reduceLT]
  refine sat_seq ?_
  have h1 := at_new (A := A1) (o := .lst [.tup []])
  have G1 := G0.trans (Gr.app (B := [AO.lst [.tup []]]))
  simp only [EV, Ab.isNon, args, List.map, List.length_cons, List.length_nil, List.length_singleton, List.replicate, Nat.reduceSub, Nat.reduceAdd, Nat.zero_add, List.cons_append, List.nil_append, List.getElem?_cons_zero, List.getElem?_cons_succ, List.set_cons_zero, List.set_cons_succ, Option.some.injEq, decide_eq_true_eq, Bool.not_eq_true', decide_eq_false_iff_not, ite_true, ite_false, if_true, if_false, reduceIte, Bool.false_eq_true, Bool.not_true, Bool.not_false, Bool.true_eq_false, decide_true, decide_false, Nat.reduceLeDiff, Nat.reduceLT, dl]
  generalize A1 ++ [AO.lst [.tup []]] = A2 at h1 G1 ⊢
  generalize A1.length = r1 at h1 ⊢
  rw [if_pos ⟨inRg_of (by decide) (by decide), inRg_of (by omega) (by omega)⟩, show ((m : Int) - 1).toNat = m - 1 by omega]
  have start : ∀ p : List Int, p ∈ ([[]] : List (List Int)) ↔ Fp M 0 p := fun p => by
    constructor
    · intro h
      cases List.mem_singleton.mp h
      exact ⟨rfl, fun i j hi hj e => by omega⟩
    · rintro ⟨h, _⟩
      exact List.mem_singleton.mpr (List.eq_nil_of_length_eq_zero h)
  refine range_inv (fun c σ B => Gr A B ∧ ∃ r ps, B[r]? = some (.lst (ps.map ptD)) ∧ ps.Nodup ∧ (∀ p, p ∈ ps ↔ Fp M c p) ∧ ∃ x y z w, σ = [some (.tup ds), none, some (.ref r), x, y, z, w])
    (fun c σ B hc ⟨G, r, ps, hr, pl, pp, x, y, z, w, hσ⟩ => ?_) (fun σ B ⟨G, r, ps, hr, pl, pp, x, y, z, w, hσ⟩ => ?_) ⟨G1, r1, [[]], h1, by simp, start, none, none, none, none, rfl⟩
  · subst hσ
    have p3 := cnt c (by omega) ps pl fun q hq => (pp q).mp hq
    have lo1 := bd (c + 1) 0 (by omega) (by omega) (by omega)
    have lo2 := bd 0 (c + 1) (by omega) (by omega) (by omega)
    have wd1 := wd (c + 1) (by omega) (by omega)
    have c1 : (1 + (c : Int)) = ((c + 1 : Nat) : Int) := by omega
    simp only [EV, Ab.isNon, args, List.map, List.length_cons, List.length_nil, List.length_singleton, List.replicate, Nat.reduceSub, Nat.reduceAdd, Nat.zero_add, List.cons_append, List.nil_append, List.getElem?_cons_zero, List.getElem?_cons_succ, List.set_cons_zero, List.set_cons_succ, Option.some.injEq, decide_eq_true_eq, Bool.not_eq_true', decide_eq_false_iff_not, ite_true, ite_false, if_true, if_false, reduceIte, Bool.false_eq_true, Bool.not_true, Bool.not_false, Bool.true_eq_false, decide_true, decide_false, Nat.reduceLeDiff, Nat.reduceLT, c1]
    refine sat_seq ?_
    simp only [EV, Ab.isNon, args, List.map, List.length_cons, List.length_nil, List.length_singleton, List.replicate, Nat.reduceSub, Nat.reduceAdd, Nat.zero_add, List.cons_append, List.nil_append, List.getElem?_cons_zero, List.getElem?_cons_succ, List.set_cons_zero, List.set_cons_succ, Option.some.injEq, decide_eq_true_eq, Bool.not_eq_true', decide_eq_false_iff_not, ite_true, ite_false, if_true, if_false, reduceIte, Bool.false_eq_true, Bool.not_true, Bool.not_false, Bool.true_eq_false, decide_true, decide_false, Nat.reduceLeDiff, Nat.reduceLT]
    refine sat_seq ?_
    have hL := at_new (A := B) (o := .lst [])
    have lA : A.length ≤ B.length := G.le
    have G := G.trans (Gr.app (B := [AO.lst []]))
    have nr : B.length ≠ r := by have := at_lt hr; omega
    have hr := (Gr.app (B := [AO.lst []])).keep _ _ hr
    simp only [EV, Ab.isNon, args, List.map, List.length_cons, List.length_nil, List.length_singleton, List.replicate, Nat.reduceSub, Nat.reduceAdd, Nat.zero_add, List.cons_append, List.nil_append, List.getElem?_cons_zero, List.getElem?_cons_succ, List.set_cons_zero, List.set_cons_succ, Option.some.injEq, decide_eq_true_eq, Bool.not_eq_true', decide_eq_false_iff_not, ite_true, ite_false, if_true, if_false, reduceIte, Bool.false_eq_true, Bool.not_true, Bool.not_false, Bool.true_eq_false, decide_true, decide_false, Nat.reduceLeDiff, Nat.reduceLT]
    rw [ev_iseq_l hr]
    generalize B ++ [AO.lst []] = B1 at hL hr G ⊢
    generalize B.length = q at hL nr lA ⊢
    simp only [EV, Ab.isNon, args, List.map, List.length_cons, List.length_nil, List.length_singleton, List.replicate, Nat.reduceSub, Nat.reduceAdd, Nat.zero_add, List.cons_append, List.nil_append, List.getElem?_cons_zero, List.getElem?_cons_succ, List.set_cons_zero, List.set_cons_succ, Option.some.injEq, decide_eq_true_eq, Bool.not_eq_true', decide_eq_false_iff_not, ite_true, ite_false, if_true, if_false, reduceIte, Bool.false_eq_true, Bool.not_true, Bool.not_false, Bool.true_eq_false, decide_true, decide_false, Nat.reduceLeDiff, Nat.reduceLT]
    refine loop_inv (fun es σ C => Gr A C ∧ C[r]? = some (.lst (ps.map ptD)) ∧ (∃ pre post qs, ps = pre ++ post ∧ es = post.map ptD ∧ C[q]? = some (.lst (qs.map ptD)) ∧ qs.Nodup ∧ (∀ p', p' ∈ qs ↔ ∃ p v, p' = p ++ [v] ∧ p ∈ pre ∧ Add M p v)) ∧ ∃ z w, σ = [some (.tup ds), none, some (.ref r), some (.int ((c + 1 : Nat) : Int)), some (.ref q), z, w])
      (fun e es σ C ⟨G, hr, ⟨pre, post, qs, e1, e2, hq, ql, qq⟩, z, w, hσ⟩ => ?_) (fun σ C ⟨G, hr, ⟨pre, post, qs, e1, e2, hq, ql, qq⟩, z, w, hσ⟩ => ?_) _ _ _ ⟨G, hr, ⟨[], ps, [], rfl, rfl, hL, by simp, fun p' => ⟨fun h => (by cases h), fun ⟨p, v, _, h, _⟩ => (by cases h)⟩⟩, z, w, rfl⟩
    · subst hσ
      refine ⟨rdL_l hr, ?_⟩
      cases post with
      | nil => cases e2
      | cons p post =>
        rw [List.map_cons, List.cons.injEq] at e2
        obtain ⟨e2, e3⟩ := e2
        subst e2; subst e3
        have fp := (pp p).mp (by rw [e1]; simp)
        have l1 := congrArg List.length e1
        rw [List.length_append, List.length_cons] at l1
        simp only [EV, Ab.isNon, args, List.map, List.length_cons, List.length_nil, List.length_singleton, List.replicate, Nat.reduceSub, Nat.reduceAdd, Nat.zero_add, List.cons_append, List.nil_append, List.getElem?_cons_zero, List.getElem?_cons_succ, List.set_cons_zero, List.set_cons_succ, Option.some.injEq, decide_eq_true_eq, Bool.not_eq_true', decide_eq_false_iff_not, ite_true, ite_false, if_true, if_false, reduceIte, Bool.false_eq_true, Bool.not_true, Bool.not_false, Bool.true_eq_false, decide_true, decide_false, Nat.reduceLeDiff, Nat.reduceLT]
        have z0 : ixD (.tup ds) (.int 0) C = .ok (rowD m (M 0)) C := i1 (k := 0) C (by omega)
        have z1 : ∀ A, ixD (rowD m (M (c + 1))) (.int 0) A = .ok (.int (M (c + 1) 0)) A := fun A => i2 (l := 0) A (by omega)
        simp only [z0, i2 C (show c + 1 < m by omega), i1 C (show c + 1 < m by omega), z1, EV, Ab.isNon, args, List.map, List.length_cons, List.length_nil, List.length_singleton, List.replicate, Nat.reduceSub, Nat.reduceAdd, Nat.zero_add, List.cons_append, List.nil_append, List.getElem?_cons_zero, List.getElem?_cons_succ, List.set_cons_zero, List.set_cons_succ, Option.some.injEq, decide_eq_true_eq, Bool.not_eq_true', decide_eq_false_iff_not, ite_true, ite_false, if_true, if_false, reduceIte, Bool.false_eq_true, Bool.not_true, Bool.not_false, Bool.true_eq_false, decide_true, decide_false, Nat.reduceLeDiff, Nat.reduceLT]
        rw [if_pos ⟨inRg_of (by omega) (by omega), inRg_of (by omega) (by omega)⟩]
        obtain ⟨w0, hw⟩ : ∃ w0 : Nat, (M (c + 1) 0 + 1 - (0 - M 0 (c + 1))).toNat = w0 ∧ w0 ≤ 5000 := ⟨_, rfl, by omega⟩
        rw [hw.1]
        refine range_inv (fun k σ E => Gr A E ∧ E[r]? = some (.lst (ps.map ptD)) ∧ (∃ qs', E[q]? = some (.lst (qs'.map ptD)) ∧ qs'.Nodup ∧ (∀ p', p' ∈ qs' ↔ p' ∈ qs ∨ ∃ v, p' = p ++ [v] ∧ 0 - M 0 (c + 1) ≤ v ∧ v < 0 - M 0 (c + 1) + (k : Nat) ∧ Add M p v)) ∧ ∃ w, σ = [some (.tup ds), none, some (.ref r), some (.int ((c + 1 : Nat) : Int)), some (.ref q), some (ptD p), w])
          (fun k σ E hk ⟨G, hr, ⟨qs', hq, ql', qq'⟩, w, hσ⟩ => ?_) (fun σ E ⟨G, hr, ⟨qs', hq, ql', qq'⟩, w, hσ⟩ => ?_) ⟨G, hr, ⟨qs, hq, ql, fun p' => ⟨.inl, fun h => h.elim id fun ⟨v, _, h1, h2, _⟩ => by omega⟩⟩, w, rfl⟩
        · subst hσ
          simp only [EV, Ab.isNon, args, List.map, List.length_cons, List.length_nil, List.length_singleton, List.replicate, Nat.reduceSub, Nat.reduceAdd, Nat.zero_add, List.cons_append, List.nil_append, List.getElem?_cons_zero, List.getElem?_cons_succ, List.set_cons_zero, List.set_cons_succ, Option.some.injEq, decide_eq_true_eq, Bool.not_eq_true', decide_eq_false_iff_not, ite_true, ite_false, if_true, if_false, reduceIte, Bool.false_eq_true, Bool.not_true, Bool.not_false, Bool.true_eq_false, decide_true, decide_false, Nat.reduceLeDiff, Nat.reduceLT]
          rw [fit fp.1 (by omega) (by omega) (by omega) (b := decide (Add M p (0 - M 0 (c + 1) + (k : Nat)))) (by simp)]
          simp only [EV, Ab.isNon, args, List.map, List.length_cons, List.length_nil, List.length_singleton, List.replicate, Nat.reduceSub, Nat.reduceAdd, Nat.zero_add, List.cons_append, List.nil_append, List.getElem?_cons_zero, List.getElem?_cons_succ, List.set_cons_zero, List.set_cons_succ, Option.some.injEq, decide_eq_true_eq, Bool.not_eq_true', decide_eq_false_iff_not, ite_true, ite_false, if_true, if_false, reduceIte, Bool.false_eq_true, Bool.not_true, Bool.not_false, Bool.true_eq_false, decide_true, decide_false, Nat.reduceLeDiff, Nat.reduceLT]
          split
          · rename_i ad
            have z : (p.map D.int).length + [D.int (0 - M 0 (c + 1) + (k : Nat))].length ≤ sizeLine := sl_le (by simp; have := fp.1; omega)
            have a1 : addD (ptD p) (.tup [.int (0 - M 0 (c + 1) + (k : Nat))]) E = .ok (ptD (p ++ [0 - M 0 (c + 1) + (k : Nat)])) E := (ev_add_tt z).trans (by unfold ptD; rw [List.map_append]; rfl)
            simp only [EV, Ab.isNon, args, List.map, List.length_cons, List.length_nil, List.length_singleton, List.replicate, Nat.reduceSub, Nat.reduceAdd, Nat.zero_add, List.cons_append, List.nil_append, List.getElem?_cons_zero, List.getElem?_cons_succ, List.set_cons_zero, List.set_cons_succ, Option.some.injEq, decide_eq_true_eq, Bool.not_eq_true', decide_eq_false_iff_not, ite_true, ite_false, if_true, if_false, reduceIte, Bool.false_eq_true, Bool.not_true, Bool.not_false, Bool.true_eq_false, decide_true, decide_false, Nat.reduceLeDiff, Nat.reduceLT, ty_l hq, a1]
            have fpq : ∀ q ∈ qs', Fp M (c + 1) q := fun q hq => by
              rcases (qq' q).mp hq with h | ⟨v, e, _, _, h3⟩
              · obtain ⟨p2, v, e, h1, h2⟩ := (qq q).mp h
                rw [e]
                exact fp_snoc.mpr ⟨(pp p2).mp (by rw [e1]; exact List.mem_append_left _ h1), h2⟩
              · rw [e]; exact fp_snoc.mpr ⟨fp, h3⟩
            have q9 := cnt (c + 1) (by omega) qs' ql' fpq
            have fresh : p ++ [0 - M 0 (c + 1) + (k : Nat)] ∉ qs' := fun h => by
              rcases (qq' _).mp h with h | ⟨v, e, _, h2, _⟩
              · obtain ⟨p2, v, e, h1, _⟩ := (qq _).mp h
                have ep := (List.append_inj' e rfl).1
                subst ep
                have nd := pl
                rw [e1, List.nodup_append] at nd
                exact nd.2.2 p h1 p (List.mem_cons_self ..) rfl
              · have ev := (List.append_inj' e rfl).2
                rw [List.cons.injEq] at ev
                omega
            rw [ev_app hq (by simp; omega)]
            simp only [EV, Ab.isNon, args, List.map, List.length_cons, List.length_nil, List.length_singleton, List.replicate, Nat.reduceSub, Nat.reduceAdd, Nat.zero_add, List.cons_append, List.nil_append, List.getElem?_cons_zero, List.getElem?_cons_succ, List.set_cons_zero, List.set_cons_succ, Option.some.injEq, decide_eq_true_eq, Bool.not_eq_true', decide_eq_false_iff_not, ite_true, ite_false, if_true, if_false, reduceIte, Bool.false_eq_true, Bool.not_true, Bool.not_false, Bool.true_eq_false, decide_true, decide_false, Nat.reduceLeDiff, Nat.reduceLT, turn_]
            refine ⟨G.set lA, by rw [List.getElem?_set_ne nr]; exact hr, ⟨qs' ++ [p ++ [0 - M 0 (c + 1) + (k : Nat)]], by rw [at_set (at_lt hq), List.map_append]; rfl, by rw [List.nodup_append]; exact ⟨ql', by simp, fun a ha b hb => by cases List.mem_singleton.mp hb; exact fun z => fresh (z ▸ ha)⟩, fun p' => ?_⟩, _, rfl⟩
            rw [List.mem_append, qq', List.mem_singleton]
            constructor
            · rintro ((h | ⟨v, e, h1, h2, h3⟩) | h)
              · exact .inl h
              · exact .inr ⟨v, e, h1, by omega, h3⟩
              · exact .inr ⟨_, h, by omega, by omega, ad⟩
            · rintro (h | ⟨v, e, h1, h2, h3⟩)
              · exact .inl (.inl h)
              · by_cases ev : v = 0 - M 0 (c + 1) + (k : Nat)
                · exact .inr (by rw [e, ev])
                · exact .inl (.inr ⟨v, e, h1, by omega, h3⟩)
          · rename_i ad
            simp only [EV, Ab.isNon, args, List.map, List.length_cons, List.length_nil, List.length_singleton, List.replicate, Nat.reduceSub, Nat.reduceAdd, Nat.zero_add, List.cons_append, List.nil_append, List.getElem?_cons_zero, List.getElem?_cons_succ, List.set_cons_zero, List.set_cons_succ, Option.some.injEq, decide_eq_true_eq, Bool.not_eq_true', decide_eq_false_iff_not, ite_true, ite_false, if_true, if_false, reduceIte, Bool.false_eq_true, Bool.not_true, Bool.not_false, Bool.true_eq_false, decide_true, decide_false, Nat.reduceLeDiff, Nat.reduceLT, turn_]
            refine ⟨G, hr, ⟨qs', hq, ql', fun p' => ?_⟩, _, rfl⟩
            rw [qq']
            constructor
            · rintro (h | ⟨v, e, h1, h2, h3⟩)
              · exact .inl h
              · exact .inr ⟨v, e, h1, by omega, h3⟩
            · rintro (h | ⟨v, e, h1, h2, h3⟩)
              · exact .inl h
              · by_cases ev : v = 0 - M 0 (c + 1) + (k : Nat)
                · exact (ad (ev ▸ h3)).elim
                · exact .inr ⟨v, e, h1, by omega, h3⟩
        · subst hσ
          simp only [EV, Ab.isNon, args, List.map, List.length_cons, List.length_nil, List.length_singleton, List.replicate, Nat.reduceSub, Nat.reduceAdd, Nat.zero_add, List.cons_append, List.nil_append, List.getElem?_cons_zero, List.getElem?_cons_succ, List.set_cons_zero, List.set_cons_succ, Option.some.injEq, decide_eq_true_eq, Bool.not_eq_true', decide_eq_false_iff_not, ite_true, ite_false, if_true, if_false, reduceIte, Bool.false_eq_true, Bool.not_true, Bool.not_false, Bool.true_eq_false, decide_true, decide_false, Nat.reduceLeDiff, Nat.reduceLT, turn_]
          refine ⟨G, hr, ⟨pre ++ [p], post, qs', by rw [e1]; simp, rfl, hq, ql', fun p' => ?_⟩, _, _, rfl⟩
          rw [qq', qq]
          constructor
          · rintro (⟨p2, v, e, h1, h2⟩ | ⟨v, e, _, _, h3⟩)
            · exact ⟨p2, v, e, List.mem_append_left _ h1, h2⟩
            · exact ⟨p, v, e, List.mem_append_right _ (List.mem_singleton.mpr rfl), h3⟩
          · rintro ⟨p2, v, e, h1, h2⟩
            rcases List.mem_append.mp h1 with h | h
            · exact .inl ⟨p2, v, e, h, h2⟩
            · cases List.mem_singleton.mp h
              have := h2 0 (by omega)
              rw [at0_z, fp.1] at this
              exact .inr ⟨v, e, by omega, by omega, h2⟩
    · subst hσ
      refine ⟨rdL_l hr, ?_⟩
      cases post with
      | cons p post => cases e2
      | nil =>
        rw [List.append_nil] at e1
        subst e1
        simp only [EV, Ab.isNon, args, List.map, List.length_cons, List.length_nil, List.length_singleton, List.replicate, Nat.reduceSub, Nat.reduceAdd, Nat.zero_add, List.cons_append, List.nil_append, List.getElem?_cons_zero, List.getElem?_cons_succ, List.set_cons_zero, List.set_cons_succ, Option.some.injEq, decide_eq_true_eq, Bool.not_eq_true', decide_eq_false_iff_not, ite_true, ite_false, if_true, if_false, reduceIte, Bool.false_eq_true, Bool.not_true, Bool.not_false, Bool.true_eq_false, decide_true, decide_false, Nat.reduceLeDiff, Nat.reduceLT]
        rw [ev_lst_ofL (rdL_l hq)]
        simp only [EV, Ab.isNon, args, List.map, List.length_cons, List.length_nil, List.length_singleton, List.replicate, Nat.reduceSub, Nat.reduceAdd, Nat.zero_add, List.cons_append, List.nil_append, List.getElem?_cons_zero, List.getElem?_cons_succ, List.set_cons_zero, List.set_cons_succ, Option.some.injEq, decide_eq_true_eq, Bool.not_eq_true', decide_eq_false_iff_not, ite_true, ite_false, if_true, if_false, reduceIte, Bool.false_eq_true, Bool.not_true, Bool.not_false, Bool.true_eq_false, decide_true, decide_false, Nat.reduceLeDiff, Nat.reduceLT, turn_]
        refine ⟨G.trans .app, _, qs, at_new, ql, fun p' => ?_, _, _, _, _, rfl⟩
        · rw [qq]
          constructor
          · rintro ⟨p, v, e, h1, h2⟩
            rw [e]
            exact fp_snoc.mpr ⟨(pp p).mp h1, h2⟩
          · intro h
            have l := h.1
            obtain ⟨p, v, rfl⟩ : ∃ p v, p' = p ++ [v] := by
              have : p' ≠ [] := fun e => by rw [e] at l; simp at l
              exact ⟨p'.dropLast, p'.getLast this, (List.dropLast_concat_getLast this).symm⟩
            obtain ⟨h1, h2⟩ := fp_snoc.mp h
            exact ⟨p, v, rfl, (pp p).mpr h1, h2⟩
  · subst hσ
    simp only [EV, Ab.isNon, args, List.map, List.length_cons, List.length_nil, List.length_singleton, List.replicate, Nat.reduceSub, Nat.reduceAdd, Nat.zero_add, List.cons_append, List.nil_append, List.getElem?_cons_zero, List.getElem?_cons_succ, List.set_cons_zero, List.set_cons_succ, Option.some.injEq, decide_eq_true_eq, Bool.not_eq_true', decide_eq_false_iff_not, ite_true, ite_false, if_true, if_false, reduceIte, Bool.false_eq_true, Bool.not_true, Bool.not_false, Bool.true_eq_false, decide_true, decide_false, Nat.reduceLeDiff, Nat.reduceLT]
    have := cnt (m - 1) (by omega) ps pl fun q hq => (pp q).mp hq
    exact ⟨G, r, ps, rfl, hr, by omega, .inr ⟨pos, pp⟩⟩
end Law

namespace Law
open PySem PySem.Spec PyProof.Rows L2 Ab
open scoped Classical
/-! ### the table of points -/
theorem hull_spec {A : AH} {r n : Nat} {ps : List (List Int)} (hp : Pts n ps) (h : A[r]? = some (.lst (ps.map ptD))) :
    Sat (m__law_hull [.ref r, .int (n : Nat)] A) fun d A' => d = hullD ps n ∧ Gr A A' := by
  have n20 := hp.n20
  refine sat_body rfl (sat_seq ?_)
  have g0 : (A ++ [AO.lst []])[r]? = some (.lst (ps.map ptD)) := by rw [List.getElem?_append_left (at_lt h)]; exact h
  have hE := at_new (A := A) (o := .lst [])
  simp only [EV, Ab.isNon, args, List.map, List.length_cons, List.length_nil, List.length_singleton, List.replicate, Nat.reduceSub, Nat.reduceAdd, Nat.zero_add, List.cons_append, List.nil_append, List.getElem?_cons_zero, List.getElem?_cons_succ, List.set_cons_zero, List.set_cons_succ, Option.some.injEq, decide_eq_true_eq, Bool.not_eq_true', decide_eq_false_iff_not, ite_true, ite_false, if_true, if_false, reduceIte, Bool.false_eq_true, Bool.not_true, Bool.not_false, Bool.true_eq_false, decide_true, decide_false, Nat.reduceLeDiff, Nat.reduceLT]
  rw [ev_eqNil (rdL_l g0) (rdL_l hE)]
  by_cases e : ps = []
  · subst e
    simp only [List.map_nil, List.isEmpty_nil, EV, Ab.isNon, args, List.map, List.length_cons, List.length_nil, List.length_singleton, List.replicate, Nat.reduceSub, Nat.reduceAdd, Nat.zero_add, List.cons_append, List.nil_append, List.getElem?_cons_zero, List.getElem?_cons_succ, List.set_cons_zero, List.set_cons_succ, Option.some.injEq, decide_eq_true_eq, Bool.not_eq_true', decide_eq_false_iff_not, ite_true, ite_false, if_true, if_false, reduceIte, Bool.false_eq_true, Bool.not_true, Bool.not_false, Bool.true_eq_false, decide_true, decide_false, Nat.reduceLeDiff, Nat.reduceLT]
    exact ⟨(if_pos rfl).symm, .app⟩
  have hne := e
  have en : (ps.map ptD).isEmpty = false := by cases ps with | nil => exact absurd rfl e | cons a l => rfl
  simp only [en, EV, Ab.isNon, args, List.map, List.length_cons, List.length_nil, List.length_singleton, List.replicate, Nat.reduceSub, Nat.reduceAdd, Nat.zero_add, List.cons_append, List.nil_append, List.getElem?_cons_zero, List.getElem?_cons_succ, List.set_cons_zero, List.set_cons_succ, Option.some.injEq, decide_eq_true_eq, Bool.not_eq_true', decide_eq_false_iff_not, ite_true, ite_false, if_true, if_false, reduceIte, Bool.false_eq_true, Bool.not_true, Bool.not_false, Bool.true_eq_false, decide_true, decide_false, Nat.reduceLeDiff, Nat.reduceLT]
  refine sat_seq ?_
  simp only [EV, Ab.isNon, args, List.map, List.length_cons, List.length_nil, List.length_singleton, List.replicate, Nat.reduceSub, Nat.reduceAdd, Nat.zero_add, List.cons_append, List.nil_append, List.getElem?_cons_zero, List.getElem?_cons_succ, List.set_cons_zero, List.set_cons_succ, Option.some.injEq, decide_eq_true_eq, Bool.not_eq_true', decide_eq_false_iff_not, ite_true, ite_false, if_true, if_false, reduceIte, Bool.false_eq_true, Bool.not_true, Bool.not_false, Bool.true_eq_false, decide_true, decide_false, Nat.reduceLeDiff, Nat.reduceLT]
  have G1 : Gr A (A ++ [AO.lst []] ++ [AO.lst []]) := Gr.app.trans .app
  have hr2 : A.length ≤ (A ++ [AO.lst []]).length := by simp
  have f2 : (A ++ [AO.lst []] ++ [AO.lst []])[(A ++ [AO.lst []]).length]? = some (.lst []) := at_new
  generalize (A ++ [AO.lst []]).length = R at hr2 f2 ⊢
  generalize A ++ [AO.lst []] ++ [AO.lst []] = A1 at G1 f2 ⊢
  refine sat_seq ?_
  simp only [EV, Ab.isNon, args, List.map, List.length_cons, List.length_nil, List.length_singleton, List.replicate, Nat.reduceSub, Nat.reduceAdd, Nat.zero_add, List.cons_append, List.nil_append, List.getElem?_cons_zero, List.getElem?_cons_succ, List.set_cons_zero, List.set_cons_succ, Option.some.injEq, decide_eq_true_eq, Bool.not_eq_true', decide_eq_false_iff_not, ite_true, ite_false, if_true, if_false, reduceIte, Bool.false_eq_true, Bool.not_true, Bool.not_false, Bool.true_eq_false, decide_true, decide_false, Nat.reduceLeDiff, Nat.reduceLT]
  rw [if_pos (inRg_of (by omega) (by omega)), show ((n : Int) + 1).toNat = n + 1 by omega]
  refine range_inv (fun k σ B => Gr A B ∧ (∃ x y z, σ = [some (.ref r), some (.int (n : Nat)), some (.ref R), x, y, z, none]) ∧ B[R]? = some (.lst ((List.range k).map fun i => rowD (n + 1) (mx ps i)))) (fun k σ B hk ⟨G, ⟨x, y, z, hσ⟩, hB⟩ => ?_) (fun σ B ⟨G, ⟨x, y, z, hσ⟩, hB⟩ => ?_) ⟨G1, ⟨none, none, none, rfl⟩, f2⟩
  · subst hσ
    simp only [EV, Ab.isNon, args, List.map, List.length_cons, List.length_nil, List.length_singleton, List.replicate, Nat.reduceSub, Nat.reduceAdd, Nat.zero_add, List.cons_append, List.nil_append, List.getElem?_cons_zero, List.getElem?_cons_succ, List.set_cons_zero, List.set_cons_succ, Option.some.injEq, decide_eq_true_eq, Bool.not_eq_true', decide_eq_false_iff_not, ite_true, ite_false, if_true, if_false, reduceIte, Bool.false_eq_true, Bool.not_true, Bool.not_false, Bool.true_eq_false, decide_true, decide_false, Nat.reduceLeDiff, Nat.reduceLT]
    refine sat_seq ?_
    simp only [EV, Ab.isNon, args, List.map, List.length_cons, List.length_nil, List.length_singleton, List.replicate, Nat.reduceSub, Nat.reduceAdd, Nat.zero_add, List.cons_append, List.nil_append, List.getElem?_cons_zero, List.getElem?_cons_succ, List.set_cons_zero, List.set_cons_succ, Option.some.injEq, decide_eq_true_eq, Bool.not_eq_true', decide_eq_false_iff_not, ite_true, ite_false, if_true, if_false, reduceIte, Bool.false_eq_true, Bool.not_true, Bool.not_false, Bool.true_eq_false, decide_true, decide_false, Nat.reduceLeDiff, Nat.reduceLT, Int.zero_add]
    have G2 : Gr A (B ++ [AO.lst []]) := G.trans .app
    have rB := at_lt hB
    have hB' : (B ++ [AO.lst []])[R]? = some (.lst ((List.range k).map fun i => rowD (n + 1) (mx ps i))) := by rw [List.getElem?_append_left rB]; exact hB
    have hS : (B ++ [AO.lst []])[B.length]? = some (.lst []) := at_new
    have lS : A.length ≤ B.length := G.le
    generalize B.length = S at rB hS lS ⊢
    generalize B ++ [AO.lst []] = B1 at G2 hB' hS ⊢
    refine sat_seq ?_
    simp only [EV, Ab.isNon, args, List.map, List.length_cons, List.length_nil, List.length_singleton, List.replicate, Nat.reduceSub, Nat.reduceAdd, Nat.zero_add, List.cons_append, List.nil_append, List.getElem?_cons_zero, List.getElem?_cons_succ, List.set_cons_zero, List.set_cons_succ, Option.some.injEq, decide_eq_true_eq, Bool.not_eq_true', decide_eq_false_iff_not, ite_true, ite_false, if_true, if_false, reduceIte, Bool.false_eq_true, Bool.not_true, Bool.not_false, Bool.true_eq_false, decide_true, decide_false, Nat.reduceLeDiff, Nat.reduceLT]
    rw [if_pos (inRg_of (by omega) (by omega)), show ((n : Int) + 1).toNat = n + 1 by omega]
    refine range_inv (fun j σ C => Gr A C ∧ (∃ z, σ = [some (.ref r), some (.int (n : Nat)), some (.ref R), some (.int (k : Nat)), some (.ref S), z, none]) ∧ C[R]? = some (.lst ((List.range k).map fun i => rowD (n + 1) (mx ps i))) ∧ C[S]? = some (.lst ((List.range j).map fun j => .int (mx ps k j)))) (fun j σ C hj ⟨G, ⟨z, hσ⟩, hR, hS⟩ => ?_) (fun σ C ⟨G, ⟨z, hσ⟩, hR, hS⟩ => ?_) ⟨G2, ⟨z, rfl⟩, hB', hS⟩
    · subst hσ
      simp only [EV, Ab.isNon, args, List.map, List.length_cons, List.length_nil, List.length_singleton, List.replicate, Nat.reduceSub, Nat.reduceAdd, Nat.zero_add, List.cons_append, List.nil_append, List.getElem?_cons_zero, List.getElem?_cons_succ, List.set_cons_zero, List.set_cons_succ, Option.some.injEq, decide_eq_true_eq, Bool.not_eq_true', decide_eq_false_iff_not, ite_true, ite_false, if_true, if_false, reduceIte, Bool.false_eq_true, Bool.not_true, Bool.not_false, Bool.true_eq_false, decide_true, decide_false, Nat.reduceLeDiff, Nat.reduceLT, Int.zero_add, ty_l hS, ev_iseq_l (G.keep _ _ h), wipeA]
      refine comp_pure ptD (fun p => .int (at0 p k - at0 p j)) (fun l => rdL_l (by rw [List.getElem?_append_left (at_lt (G.keep _ _ h))]; exact G.keep _ _ h)) (fun p hq l => ?_) (by have := hp.few; omega) ?_
      · have pl := hp.len p hq
        have z : [D.int 0].length + (p.map D.int).length ≤ sizeLine := sl_le (by simp; omega)
        have a1 : ∀ A, addD (.tup [.int 0]) (ptD p) A = .ok (.tup (.int 0 :: p.map D.int)) A := fun A => ev_add_tt z
        simp only [EV, Ab.isNon, args, List.map, List.length_cons, List.length_nil, List.length_singleton, List.replicate, Nat.reduceSub, Nat.reduceAdd, Nat.zero_add, List.cons_append, List.nil_append, List.getElem?_cons_zero, List.getElem?_cons_succ, List.set_cons_zero, List.set_cons_succ, Option.some.injEq, decide_eq_true_eq, Bool.not_eq_true', decide_eq_false_iff_not, ite_true, ite_false, if_true, if_false, reduceIte, Bool.false_eq_true, Bool.not_true, Bool.not_false, Bool.true_eq_false, decide_true, decide_false, Nat.reduceLeDiff, Nat.reduceLT, a1]
        rw [ix_full (by omega)]
        simp only [EV, Ab.isNon, args, List.map, List.length_cons, List.length_nil, List.length_singleton, List.replicate, Nat.reduceSub, Nat.reduceAdd, Nat.zero_add, List.cons_append, List.nil_append, List.getElem?_cons_zero, List.getElem?_cons_succ, List.set_cons_zero, List.set_cons_succ, Option.some.injEq, decide_eq_true_eq, Bool.not_eq_true', decide_eq_false_iff_not, ite_true, ite_false, if_true, if_false, reduceIte, Bool.false_eq_true, Bool.not_true, Bool.not_false, Bool.true_eq_false, decide_true, decide_false, Nat.reduceLeDiff, Nat.reduceLT, a1]
        rw [ix_full (by omega)]
        simp only [EV, Ab.isNon, args, List.map, List.length_cons, List.length_nil, List.length_singleton, List.replicate, Nat.reduceSub, Nat.reduceAdd, Nat.zero_add, List.cons_append, List.nil_append, List.getElem?_cons_zero, List.getElem?_cons_succ, List.set_cons_zero, List.set_cons_succ, Option.some.injEq, decide_eq_true_eq, Bool.not_eq_true', decide_eq_false_iff_not, ite_true, ite_false, if_true, if_false, reduceIte, Bool.false_eq_true, Bool.not_true, Bool.not_false, Bool.true_eq_false, decide_true, decide_false, Nat.reduceLeDiff, Nat.reduceLT]
        trivial
      · have em : (ps.map fun p => D.int (at0 p k - at0 p j)) = (ps.map fun p => at0 p k - at0 p j).map D.int := by rw [List.map_map]; rfl
        have G3 : Gr C (C ++ [.lst (ps.map fun p => D.int (at0 p k - at0 p j))]) := .app
        have hm : maxD [.ref C.length] (C ++ [.lst (ps.map fun p => D.int (at0 p k - at0 p j))]) = .ok (.int (mx ps k j)) _ := ev_max_l (by rw [← em]; exact at_new) (by simpa using hne)
        simp only [EV, Ab.isNon, args, List.map, List.length_cons, List.length_nil, List.length_singleton, List.replicate, Nat.reduceSub, Nat.reduceAdd, Nat.zero_add, List.cons_append, List.nil_append, List.getElem?_cons_zero, List.getElem?_cons_succ, List.set_cons_zero, List.set_cons_succ, Option.some.injEq, decide_eq_true_eq, Bool.not_eq_true', decide_eq_false_iff_not, ite_true, ite_false, if_true, if_false, reduceIte, Bool.false_eq_true, Bool.not_true, Bool.not_false, Bool.true_eq_false, decide_true, decide_false, Nat.reduceLeDiff, Nat.reduceLT, hm]
        have hS := G3.keep _ _ hS
        have hR := G3.keep _ _ hR
        rw [ev_app hS (by simp; omega)]
        simp only [EV, Ab.isNon, args, List.map, List.length_cons, List.length_nil, List.length_singleton, List.replicate, Nat.reduceSub, Nat.reduceAdd, Nat.zero_add, List.cons_append, List.nil_append, List.getElem?_cons_zero, List.getElem?_cons_succ, List.set_cons_zero, List.set_cons_succ, Option.some.injEq, decide_eq_true_eq, Bool.not_eq_true', decide_eq_false_iff_not, ite_true, ite_false, if_true, if_false, reduceIte, Bool.false_eq_true, Bool.not_true, Bool.not_false, Bool.true_eq_false, decide_true, decide_false, Nat.reduceLeDiff, Nat.reduceLT, turn_]
        refine ⟨(G.trans G3).set lS, ⟨_, rfl⟩, ?_, ?_⟩
        · rw [List.getElem?_set_ne (by omega)]; exact hR
        · rw [at_set (at_lt hS), List.range_succ (n := j), List.map_append]; rfl
    · subst hσ
      simp only [EV, Ab.isNon, args, List.map, List.length_cons, List.length_nil, List.length_singleton, List.replicate, Nat.reduceSub, Nat.reduceAdd, Nat.zero_add, List.cons_append, List.nil_append, List.getElem?_cons_zero, List.getElem?_cons_succ, List.set_cons_zero, List.set_cons_succ, Option.some.injEq, decide_eq_true_eq, Bool.not_eq_true', decide_eq_false_iff_not, ite_true, ite_false, if_true, if_false, reduceIte, Bool.false_eq_true, Bool.not_true, Bool.not_false, Bool.true_eq_false, decide_true, decide_false, Nat.reduceLeDiff, Nat.reduceLT, ty_l hR, ev_tup_ofL (rdL_l hS)]
      rw [ev_app hR (by simp; omega)]
      simp only [EV, Ab.isNon, args, List.map, List.length_cons, List.length_nil, List.length_singleton, List.replicate, Nat.reduceSub, Nat.reduceAdd, Nat.zero_add, List.cons_append, List.nil_append, List.getElem?_cons_zero, List.getElem?_cons_succ, List.set_cons_zero, List.set_cons_succ, Option.some.injEq, decide_eq_true_eq, Bool.not_eq_true', decide_eq_false_iff_not, ite_true, ite_false, if_true, if_false, reduceIte, Bool.false_eq_true, Bool.not_true, Bool.not_false, Bool.true_eq_false, decide_true, decide_false, Nat.reduceLeDiff, Nat.reduceLT, turn_]
      refine ⟨G.set hr2, ⟨_, _, _, rfl⟩, ?_⟩
      rw [at_set (at_lt hR), List.range_succ (n := k), List.map_append]; rfl
  · subst hσ
    simp only [EV, Ab.isNon, args, List.map, List.length_cons, List.length_nil, List.length_singleton, List.replicate, Nat.reduceSub, Nat.reduceAdd, Nat.zero_add, List.cons_append, List.nil_append, List.getElem?_cons_zero, List.getElem?_cons_succ, List.set_cons_zero, List.set_cons_succ, Option.some.injEq, decide_eq_true_eq, Bool.not_eq_true', decide_eq_false_iff_not, ite_true, ite_false, if_true, if_false, reduceIte, Bool.false_eq_true, Bool.not_true, Bool.not_false, Bool.true_eq_false, decide_true, decide_false, Nat.reduceLeDiff, Nat.reduceLT, ev_tup_ofL (rdL_l hB)]
    exact ⟨by rw [hullD, if_neg hne]; rfl, G⟩
end Law

namespace Law
open PySem PySem.Spec PyProof.Rows L2 Ab
open scoped Classical
/-! ### boxes as the hulls of their points -/
theorem bq_done {n : Nat} {S : List Int → Prop} {o : Option Mx} {E : List (List Int)} (h : Bq n S o) (e : ∀ p, p ∈ E ↔ S p) (n20 : n ≤ 20) (few : E.length ≤ 5000) : outD (n + 1) o = hullD E n ∧ All n E := by
  refine ⟨bq_hull h (fun q hq => (e q).mp hq) fun q hq => ?_, ?_⟩
  · have m := (e q).mpr hq
    exact ⟨List.ne_nil_of_mem m, fun a b _ _ => mx_ge m⟩
  · obtain ⟨M, pos, cl, iff⟩ := h
    exact All.of_iff n20 few fun p => (e p).trans (iff p).symm
theorem all_nil {n : Nat} (n20 : n ≤ 20) : All n [] := ⟨n20, by simp, (fun p h => by cases h), fun p ne _ => absurd rfl ne⟩
theorem bel_fp {n : Nat} {qs : List (List Int)} {p : List Int} (ne : qs ≠ []) (pl : p.length = n) : (∀ i j, i ≤ n → j ≤ n → at0 p i - at0 p j ≤ mx qs i j) ↔ Fp (mx qs) n p := by
  constructor
  · exact fun h => ⟨pl, fun i j hi hj _ => h i j hi hj⟩
  · intro h i j hi hj
    by_cases e : i = j
    · subst e
      have := (mx_cl (m := n + 1) ne).dg i (by omega)
      omega
    · exact h.2 i j hi hj e
noncomputable def bel (n : Nat) (qs : List (List Int)) (p : List Int) : Bool := decide (∀ i j, i ≤ n → j ≤ n → at0 p i - at0 p j ≤ mx qs i j)
/-! ### meeting -/
theorem non_meet {A : AH} {d : D} : m_meet_boxes [.non, d] A = .ok .non A := by
  have key : Sat (m_meet_boxes [.non, d] A) fun d A' => d = .non ∧ A' = A := by
    refine sat_body rfl (sat_seq ?_)
    simp only [EV, Ab.isNon, args, List.map, List.length_cons, List.length_nil, List.length_singleton, List.replicate, Nat.reduceSub, Nat.reduceAdd, Nat.zero_add, List.cons_append, List.nil_append, List.getElem?_cons_zero, List.getElem?_cons_succ, List.set_cons_zero, List.set_cons_succ, Option.some.injEq, decide_eq_true_eq, Bool.not_eq_true', decide_eq_false_iff_not, ite_true, ite_false, if_true, if_false, reduceIte, Bool.false_eq_true, Bool.not_true, Bool.not_false, Bool.true_eq_false, decide_true, decide_false, Nat.reduceLeDiff, Nat.reduceLT]
    trivial
  obtain ⟨d, A', e, rfl, rfl⟩ := key.eq
  exact e
theorem meet_non {A : AH} {m : Nat} {o : Option Mx} : m_meet_boxes [outD m o, .non] A = .ok .non A := by
  have key : Sat (m_meet_boxes [outD m o, .non] A) fun d A' => d = .non ∧ A' = A := by
    refine sat_body rfl (sat_seq ?_)
    cases o with
    | none => simp only [outD, EV, Ab.isNon, args, List.map, List.length_cons, List.length_nil, List.length_singleton, List.replicate, Nat.reduceSub, Nat.reduceAdd, Nat.zero_add, List.cons_append, List.nil_append, List.getElem?_cons_zero, List.getElem?_cons_succ, List.set_cons_zero, List.set_cons_succ, Option.some.injEq, decide_eq_true_eq, Bool.not_eq_true', decide_eq_false_iff_not, ite_true, ite_false, if_true, if_false, reduceIte, Bool.false_eq_true, Bool.not_true, Bool.not_false, Bool.true_eq_false, decide_true, decide_false, Nat.reduceLeDiff, Nat.reduceLT]; trivial
    | some R =>
      obtain ⟨ds, hd⟩ : ∃ ds, matD m R = .tup ds := ⟨_, rfl⟩
      simp only [outD, hd, EV, Ab.isNon, args, List.map, List.length_cons, List.length_nil, List.length_singleton, List.replicate, Nat.reduceSub, Nat.reduceAdd, Nat.zero_add, List.cons_append, List.nil_append, List.getElem?_cons_zero, List.getElem?_cons_succ, List.set_cons_zero, List.set_cons_succ, Option.some.injEq, decide_eq_true_eq, Bool.not_eq_true', decide_eq_false_iff_not, ite_true, ite_false, if_true, if_false, reduceIte, Bool.false_eq_true, Bool.not_true, Bool.not_false, Bool.true_eq_false, decide_true, decide_false, Nat.reduceLeDiff, Nat.reduceLT]
      trivial
  obtain ⟨d, A', e, rfl, rfl⟩ := key.eq
  exact e
theorem fp_mnf {f g : Mx} {n : Nat} {p : List Int} : Fp (mnf f g) n p ↔ Fp f n p ∧ Fp g n p := by
  constructor
  · rintro ⟨l, h⟩
    refine ⟨⟨l, fun i j hi hj e => ?_⟩, l, fun i j hi hj e => ?_⟩
    · have := h i j hi hj e
      unfold mnf at this
      split at this <;> omega
    · have := h i j hi hj e
      unfold mnf at this
      split at this <;> omega
  · rintro ⟨⟨l, h1⟩, _, h2⟩
    refine ⟨l, fun i j hi hj e => ?_⟩
    have a := h1 i j hi hj e
    have b := h2 i j hi hj e
    unfold mnf
    split <;> omega
theorem meet_hull {A : AH} {n : Nat} {ps qs : List (List Int)} (al : All n ps) (qne : qs ≠ []) :
    Sat (m_meet_boxes [hullD ps n, hullD qs n] A) (fun d A' => Gr A A' ∧ d = hullD (ps.filter (bel n qs)) n) ∧ Sat (m_meet_boxes [hullD qs n, hullD ps n] A) (fun d A' => Gr A A' ∧ d = hullD (ps.filter (bel n qs)) n) ∧ All n (ps.filter (bel n qs)) := by
  have n20 := al.n20
  have few := al.few
  have fl := List.length_filter_le (bel n qs) ps
  by_cases ne : ps = []
  · subst ne
    have h0 : hullD [] n = .non := if_pos rfl
    rw [List.filter_nil, h0]
    have e2 : m_meet_boxes [hullD qs n, .non] A = .ok .non A := by rw [hull_out]; exact meet_non
    rw [e2, non_meet]
    exact ⟨⟨.refl, rfl⟩, ⟨.refl, rfl⟩, all_nil n20⟩
  · have cp := mx_cl (m := n + 1) ne
    have cq := mx_cl (m := n + 1) qne
    have iff : ∀ p, p ∈ ps.filter (bel n qs) ↔ Fp (mnf (mx ps) (mx qs)) n p := fun p => by
      rw [fp_mnf, ← al.iff ne, List.mem_filter]
      unfold bel
      rw [decide_eq_true_iff]
      constructor
      · exact fun ⟨h1, h2⟩ => ⟨h1, (bel_fp qne (al.len p h1)).mp h2⟩
      · exact fun ⟨h1, h2⟩ => ⟨h1, (bel_fp qne (al.len p h1)).mpr h2⟩
    have pos : ∀ i, i < n + 1 → 0 ≤ mnf (mx ps) (mx qs) i i := fun i hi => by
      unfold mnf
      rw [cp.dg i hi, cq.dg i hi]; simp
    have fin : ∀ {o : Option Mx}, Closes (n + 1) (mnf (mx ps) (mx qs)) o → outD (n + 1) o = hullD (ps.filter (bel n qs)) n ∧ All n (ps.filter (bel n qs)) := fun {o} cl => bq_done (S := fun p => Fp (mnf (mx ps) (mx qs)) n p) ⟨_, pos, cl, fun p => Iff.rfl⟩ iff n20 (by omega)
    have hp : hullD ps n = matD (n + 1) (mx ps) := if_neg ne
    have hq : hullD qs n = matD (n + 1) (mx qs) := if_neg qne
    rw [hp, hq]
    refine ⟨Sat.imp (meet_spec (by omega) (by omega)) fun d A' ⟨G, o, e, cl⟩ => ⟨G, e.trans (fin cl).1⟩, Sat.imp (meet_spec (by omega) (by omega)) fun d A' ⟨G, o, e, cl⟩ => ⟨G, ?_⟩, All.of_iff n20 (by omega) iff⟩
    rw [mnf_comm] at cl
    exact e.trans (fin cl).1
/-! ### ties -/
theorem tie_fp {cs : List Nat} {M N T : Mx} {n : Nat} {p : List Int} (ti : Tie cs M N (fun a b => a < cs.length + 1 ∧ b < cs.length + 1) T) (hc : ∀ c ∈ cs, c ≤ n) (m0 : ∀ i, i < n + 1 → M i i = 0) :
    (Fp T n p ∧ ∀ i, i < n + 1 → 0 ≤ T i i) ↔ Fp M n p ∧ ∀ a b, a ≤ cs.length → b ≤ cs.length → at0 (partL cs p) a - at0 (partL cs p) b ≤ N a b := by
  have pl := fun a => plc_lt (a := a) hc
  constructor
  · rintro ⟨⟨l, h⟩, d⟩
    refine ⟨⟨l, fun i j hi hj e => Int.le_trans (h i j hi hj e) (ti.le i j)⟩, fun a b ha hb => ?_⟩
    rw [at0_part, at0_part]
    have t := ti.leN a b ⟨by omega, by omega⟩
    by_cases e : plc cs a = plc cs b
    · have := d (plc cs a) (pl a)
      rw [← e] at t ⊢
      omega
    · have := h (plc cs a) (plc cs b) (by have := pl a; omega) (by have := pl b; omega) e
      omega
  · rintro ⟨⟨l, h⟩, q⟩
    have q2 : ∀ a b, a < cs.length + 1 → b < cs.length + 1 → at0 p (plc cs a) - at0 p (plc cs b) ≤ N a b := fun a b ha hb => by
      have := q a b (by omega) (by omega)
      rwa [at0_part, at0_part] at this
    refine ⟨⟨l, fun i j hi hj e => ?_⟩, fun i hi => ?_⟩
    · rcases ti.src i j with h1 | ⟨a, b, ⟨ha, hb⟩, rfl, rfl, h4⟩
      · rw [h1]; exact h i j hi hj e
      · rw [h4]; exact q2 a b ha hb
    · rcases ti.src i i with h1 | ⟨a, b, ⟨ha, hb⟩, e1, e2, h4⟩
      · rw [h1, m0 i hi]; exact Int.le_refl _
      · have := q2 a b ha hb
        rw [e1, e2] at this
        rw [h4]; omega
theorem tie_hull {A : AH} {n : Nat} {ps qs : List (List Int)} {cs : List Nat} (al : All n ps) (hl : cs.length ≤ 20) (hc : ∀ c ∈ cs, c ≤ n) (qne : qs ≠ []) :
    Sat (m_tie_boxes [hullD ps n, hullD qs cs.length, clD cs] A) (fun d A' => Gr A A' ∧ d = hullD (ps.filter fun p => bel cs.length qs (partL cs p)) n) ∧ All n (ps.filter fun p => bel cs.length qs (partL cs p)) := by
  have n20 := al.n20
  have few := al.few
  have fl := List.length_filter_le (fun p => bel cs.length qs (partL cs p)) ps
  by_cases ne : ps = []
  · subst ne
    have h0 : hullD [] n = .non := if_pos rfl
    rw [List.filter_nil, h0, non_tie]
    exact ⟨⟨.refl, rfl⟩, all_nil n20⟩
  · have cp := mx_cl (m := n + 1) ne
    have hp : hullD ps n = matD (n + 1) (mx ps) := if_neg ne
    have hq : hullD qs cs.length = matD (cs.length + 1) (mx qs) := if_neg qne
    have fin : ∀ {o : Option Mx} {T : Mx}, Closes (n + 1) T o → Tie cs (mx ps) (mx qs) (fun a b => a < cs.length + 1 ∧ b < cs.length + 1) T → outD (n + 1) o = hullD (ps.filter fun p => bel cs.length qs (partL cs p)) n ∧ All n (ps.filter fun p => bel cs.length qs (partL cs p)) := fun {o T} cl ti => by
      have iff : ∀ p, p ∈ ps.filter (fun p => bel cs.length qs (partL cs p)) ↔ (Fp T n p ∧ ∀ i, i < n + 1 → 0 ≤ T i i) := fun p => by
        rw [tie_fp ti hc cp.dg, ← al.iff ne, List.mem_filter]
        unfold bel
        rw [decide_eq_true_iff]
      by_cases d : ∀ i, i < n + 1 → 0 ≤ T i i
      · exact bq_done (S := fun p => Fp T n p) ⟨T, d, cl, fun p => Iff.rfl⟩ (fun p => (iff p).trans ⟨And.left, fun h => ⟨h, d⟩⟩) n20 (by omega)
      · have e : ps.filter (fun p => bel cs.length qs (partL cs p)) = [] := by
          cases h : ps.filter (fun p => bel cs.length qs (partL cs p)) with
          | nil => rfl
          | cons a l => exact absurd ((iff a).mp (by rw [h]; exact List.mem_cons_self ..)).2 d
        rw [e]
        refine ⟨?_, all_nil n20⟩
        cases o with
        | none => exact (if_pos rfl).symm
        | some R =>
          have cl : ClOf (n + 1) T R := cl
          exact absurd cl.pos d
    have hal : All n (ps.filter fun p => bel cs.length qs (partL cs p)) := by
      have := Sat.imp (P := fun d A' => Gr A A' ∧ ∃ o T, d = outD (n + 1) o ∧ Closes (n + 1) T o ∧ Tie cs (mx ps) (mx qs) (fun a b => a < cs.length + 1 ∧ b < cs.length + 1) T) (Q := fun _ _ => All n (ps.filter fun p => bel cs.length qs (partL cs p))) (tie_spec (A := A) (n := n) (M := mx ps) (N := mx qs) (cs := cs) (by omega) (by omega) hc) fun d A' ⟨G, o, T, e, cl, ti⟩ => (fin cl ti).2
      obtain ⟨d, A', _, h⟩ := this.eq
      exact h
    rw [hp, hq]
    exact ⟨Sat.imp (tie_spec (by omega) (by omega) hc) fun d A' ⟨G, o, T, e, cl, ti⟩ => ⟨G, e.trans (fin cl ti).1⟩, hal⟩
end Law

namespace Law
open PySem PySem.Spec PyProof.Rows L2 Ab
open scoped Classical
/-! ### columns picked: points of some columns are points of a closed box -/
/-- a greatest one among some columns -/
theorem top_in {n : Nat} (g : Nat → Int) (I : Nat → Prop) (h0 : I 0) : ∃ l, l ≤ n ∧ I l ∧ ∀ j, j ≤ n → I j → g j ≤ g l := by
  have ne : (((List.range (n + 1)).filter fun j => decide (I j)).map g) ≠ [] := by
    intro e
    have z : (0 : Nat) ∈ (List.range (n + 1)).filter fun j => decide (I j) := List.mem_filter.mpr ⟨List.mem_range.mpr (by omega), decide_eq_true h0⟩
    rw [List.map_eq_nil_iff.mp e] at z
    cases z
  obtain ⟨l, hl, e⟩ := List.mem_map.mp (maxI_mem ne)
  obtain ⟨l1, l2⟩ := List.mem_filter.mp hl
  refine ⟨l, by have := List.mem_range.mp l1; omega, of_decide_eq_true l2, fun j hj ji => ?_⟩
  rw [e]
  exact maxI_le (List.mem_map.mpr ⟨j, List.mem_filter.mpr ⟨List.mem_range.mpr (by omega), decide_eq_true ji⟩, rfl⟩)
theorem ext_pt {n : Nat} {R : Mx} (C : Cl (n + 1) R) {I : Nat → Prop} (i0 : I 0) {x : Nat → Int} (hx : ∀ i j, i ≤ n → j ≤ n → I i → I j → x i - x j ≤ R i j) : ∀ m : Nat, ∃ y : Nat → Int, (∀ i, I i → y i = x i) ∧ ∀ i j, i ≤ n → j ≤ n → (I i ∨ i < m) → (I j ∨ j < m) → y i - y j ≤ R i j
  | 0 => ⟨x, fun _ _ => rfl, fun i j hi hj h1 h2 => hx i j hi hj (h1.resolve_right (Nat.not_lt_zero _)) (h2.resolve_right (Nat.not_lt_zero _))⟩
  | m + 1 => by
    obtain ⟨y, h1, h2⟩ := ext_pt C i0 hx m
    by_cases q : I m ∨ n < m
    · refine ⟨y, h1, fun i j hi hj a b => h2 i j hi hj ?_ ?_⟩
      · rcases a with a | a
        · exact .inl a
        · by_cases e : i = m
          · subst e; exact .inl (q.resolve_right (by omega))
          · exact .inr (by omega)
      · rcases b with a | a
        · exact .inl a
        · by_cases e : j = m
          · subst e; exact .inl (q.resolve_right (by omega))
          · exact .inr (by omega)
    · have nI : ¬ I m := fun h => q (.inl h)
      have mn : m ≤ n := by omega
      obtain ⟨l, l1, l2, top⟩ := top_in (n := n) (fun j => y j - R j m) (fun j => I j ∨ j < m) (.inl i0)
      refine ⟨fun k => if k = m then y l - R l m else y k, fun i hi => ?_, fun i j hi hj a b => ?_⟩
      · show (if i = m then _ else _) = _
        rw [if_neg (fun e : i = m => nI (by rw [← e]; exact hi))]; exact h1 i hi
      · show (if i = m then _ else _) - (if j = m then _ else _) ≤ _
        have low : ∀ k, (I k ∨ k < m + 1) → k ≠ m → (I k ∨ k < m) := fun k h e => h.imp id fun h => by omega
        by_cases ei : i = m
        · rw [if_pos ei]
          by_cases ej : j = m
          · rw [if_pos ej, ei, ej]
            have := C.dg m (by omega)
            omega
          · rw [if_neg ej]
            have h3 := h2 l j l1 hj l2 (low j b ej)
            have h4 := C.tri l m j (by omega) (by omega) (by omega)
            subst ei
            omega
        · rw [if_neg ei]
          by_cases ej : j = m
          · rw [if_pos ej]
            have h3 := top i hi (low i a ei)
            subst ej
            have h3 : y i - R i j ≤ y l - R l j := h3
            omega
          · rw [if_neg ej]
            exact h2 i j hi hj (low i a ei) (low j b ej)
theorem fp_pick {n : Nat} {R : Mx} (C : Cl (n + 1) R) {cs : List Nat} (hc : ∀ c ∈ cs, c ≤ n) (q : List Int) : Fp (fun a b => R (plc cs a) (plc cs b)) cs.length q ↔ ∃ p, Fp R n p ∧ q = partL cs p := by
  have pl := fun a => plc_lt (a := a) hc
  constructor
  · intro f
    have same : ∀ a b, a ≤ cs.length → b ≤ cs.length → plc cs a = plc cs b → at0 q a = at0 q b := fun a b ha hb e => by
      by_cases z : a = b
      · rw [z]
      have h1 : at0 q a - at0 q b ≤ R (plc cs a) (plc cs b) := f.2 a b ha hb z
      have h2 : at0 q b - at0 q a ≤ R (plc cs b) (plc cs a) := f.2 b a hb ha (Ne.symm z)
      have d := C.dg (plc cs b) (pl b)
      rw [e] at h1
      rw [e] at h2
      omega
    have ex : ∀ i, ∃ v : Int, ∀ a, a ≤ cs.length → plc cs a = i → v = at0 q a := fun i => by
      by_cases h : ∃ a, a ≤ cs.length ∧ plc cs a = i
      · obtain ⟨a, ha, e⟩ := h
        exact ⟨at0 q a, fun b hb e2 => same a b ha hb (e.trans e2.symm)⟩
      · exact ⟨0, fun a ha e => absurd ⟨a, ha, e⟩ h⟩
    obtain ⟨x, hx⟩ : ∃ x : Nat → Int, ∀ i a, a ≤ cs.length → plc cs a = i → x i = at0 q a := ⟨fun i => (ex i).choose, fun i => (ex i).choose_spec⟩
    obtain ⟨y, h1, h2⟩ := ext_pt C (I := fun i => ∃ a, a ≤ cs.length ∧ plc cs a = i) ⟨0, Nat.zero_le _, rfl⟩ (x := x) (fun i j hi hj ⟨a, ha, ea⟩ ⟨b, hb, eb⟩ => by
      rw [hx i a ha ea, hx j b hb eb]
      by_cases z : a = b
      · subst z
        have d := C.dg i (by omega)
        rw [← ea, ← eb, ea, d]; omega
      · have := f.2 a b ha hb z
        subst ea; subst eb
        exact this) (n + 1)
    have y0 : y 0 = 0 := by
      rw [h1 0 ⟨0, Nat.zero_le _, rfl⟩, hx 0 0 (Nat.zero_le _) rfl, at0_z]
    have a : ∀ i, i ≤ n → at0 ((List.range n).map fun k => y (k + 1)) i = y i := fun i hi => by
      cases i with
      | zero => rw [at0_z, y0]
      | succ i => rw [at0_s, List.getD_eq_getElem?_getD, List.getElem?_map, List.getElem?_range (by omega)]; rfl
    refine ⟨(List.range n).map fun k => y (k + 1), ⟨by simp, fun i j hi hj e => ?_⟩, ?_⟩
    · rw [a i hi, a j hj]
      exact h2 i j hi hj (.inr (by omega)) (.inr (by omega))
    · apply List.ext_getElem (by unfold partL; rw [List.length_map]; exact f.1)
      intro k k1 k2
      have kl : k < cs.length := by rw [← f.1]; exact k1
      have e1 : q[k] = at0 q (k + 1) := by rw [at0_s, List.getD_eq_getElem?_getD, List.getElem?_eq_getElem k1]; rfl
      have e2 : (partL cs ((List.range n).map fun k => y (k + 1)))[k] = at0 (partL cs ((List.range n).map fun k => y (k + 1))) (k + 1) := by rw [at0_s, List.getD_eq_getElem?_getD, List.getElem?_eq_getElem k2]; rfl
      rw [e1, e2, at0_part, a _ (by have := pl (k + 1); omega), h1 _ ⟨k + 1, by omega, rfl⟩, hx _ (k + 1) (by omega) rfl]
  · rintro ⟨p, f, rfl⟩
    refine ⟨by unfold partL; rw [List.length_map], fun a b ha hb e => ?_⟩
    rw [at0_part, at0_part]
    show _ ≤ R (plc cs a) (plc cs b)
    by_cases z : plc cs a = plc cs b
    · rw [z]
      have d := C.dg (plc cs b) (pl b)
      omega
    · exact f.2 _ _ (by have := pl a; omega) (by have := pl b; omega) z
theorem pick_hull {A : AH} {n : Nat} {ps E : List (List Int)} {cs : List Nat} (al : All n ps) (hl : cs.length ≤ 20) (hc : ∀ c ∈ cs, c ≤ n) (few : E.length ≤ 5000) (e : ∀ q, q ∈ E ↔ ∃ p ∈ ps, q = partL cs p) :
    Sat (m_pick_columns [hullD ps n, clD cs] A) (fun d A' => Gr A A' ∧ d = hullD E cs.length) ∧ All cs.length E := by
  have n20 := al.n20
  by_cases ne : ps = []
  · subst ne
    have eE : E = [] := by
      cases h : E with
      | nil => rfl
      | cons a l => obtain ⟨p, hp, _⟩ := (e a).mp (by rw [h]; exact List.mem_cons_self ..); cases hp
    subst eE
    have h0 : ∀ n, hullD [] n = .non := fun n => if_pos rfl
    rw [h0, h0, non_pick]
    exact ⟨⟨.refl, rfl⟩, all_nil hl⟩
  · have cp := mx_cl (m := n + 1) ne
    have pl := fun a => plc_lt (a := a) hc
    have C : Cl (cs.length + 1) (fun a b => mx ps (plc cs a) (plc cs b)) := ⟨fun i l j _ _ _ => cp.tri _ _ _ (pl i) (pl l) (pl j), fun i _ => cp.dg _ (pl i)⟩
    have hp : hullD ps n = matD (n + 1) (mx ps) := if_neg ne
    have b := bq_done ((bq_self C).congr fun q => fp_pick cp hc q) (E := E) (fun q => (e q).trans ⟨fun ⟨p, hp, e⟩ => ⟨p, (al.iff ne p).mp hp, e⟩, fun ⟨p, hp, e⟩ => ⟨p, (al.iff ne p).mpr hp, e⟩⟩) hl few
    rw [hp]
    exact ⟨Sat.imp (pick_spec2 (by omega) hc) fun d A' ⟨G, e⟩ => ⟨G, e.trans b.1⟩, b.2⟩
/-! ### a column freed or shifted -/
theorem free_hull {A : AH} {n i : Nat} {l h : Int} {ps E : List (List Int)} (al : All n ps) (i1 : 1 ≤ i) (i2 : i ≤ n) (few : E.length ≤ 5000) (e : ∀ q, q ∈ E ↔ ∃ p ∈ ps, ∃ v, (l ≤ v ∧ v ≤ h) ∧ q = p.set (i - 1) v) :
    Sat (m_free_column [hullD ps n, .int (i : Nat), .int l, .int h] A) (fun d A' => Gr A A' ∧ d = hullD E n) ∧ All n E := by
  have n20 := al.n20
  have h0 : ∀ n, hullD [] n = .non := fun n => if_pos rfl
  by_cases ne : ps = []
  · subst ne
    have eE : E = [] := by
      cases h : E with
      | nil => rfl
      | cons a l => obtain ⟨p, hp, _⟩ := (e a).mp (by rw [h]; exact List.mem_cons_self ..); cases hp
    subst eE
    rw [h0, non_free]
    exact ⟨⟨.refl, rfl⟩, all_nil n20⟩
  by_cases lt : h < l
  · have eE : E = [] := by
      cases h : E with
      | nil => rfl
      | cons a l => obtain ⟨p, hp, v, hv, _⟩ := (e a).mp (by rw [h]; exact List.mem_cons_self ..); omega
    subst eE
    rw [h0, hull_out, no_free lt]
    exact ⟨⟨.refl, rfl⟩, all_nil n20⟩
  · have hp : hullD ps n = matD (n + 1) (mx ps) := if_neg ne
    have b := bq_done (bq_free al ne i1 i2 (by omega)) (E := E) e n20 few
    rw [hp]
    exact ⟨Sat.imp (free_spec (by omega) (by omega) lt) fun d A' ⟨G, e⟩ => ⟨G, e.trans b.1⟩, b.2⟩
theorem shift_hull {A : AH} {n i : Nat} {l h : Int} {ps E : List (List Int)} (al : All n ps) (i1 : 1 ≤ i) (i2 : i ≤ n) (le : l ≤ h) (few : E.length ≤ 5000) (e : ∀ q, q ∈ E ↔ ∃ p ∈ ps, ∃ w, (l ≤ w ∧ w ≤ h) ∧ q = p.set (i - 1) (at0 p i + w)) :
    Sat (m_shift_column [hullD ps n, .int (i : Nat), .int l, .int h] A) (fun d A' => Gr A A' ∧ d = hullD E n) ∧ All n E := by
  have n20 := al.n20
  have h0 : ∀ n, hullD [] n = .non := fun n => if_pos rfl
  by_cases ne : ps = []
  · subst ne
    have eE : E = [] := by
      cases h : E with
      | nil => rfl
      | cons a l => obtain ⟨p, hp, _⟩ := (e a).mp (by rw [h]; exact List.mem_cons_self ..); cases hp
    subst eE
    rw [h0, non_shift]
    exact ⟨⟨.refl, rfl⟩, all_nil n20⟩
  · have hp : hullD ps n = matD (n + 1) (mx ps) := if_neg ne
    have b := bq_done (bq_shift al ne i1 i2 le) (E := E) e n20 few
    rw [hp]
    exact ⟨Sat.imp (shift_spec (by omega) (by omega)) fun d A' ⟨G, e⟩ => ⟨G, e.trans b.1⟩, b.2⟩
/-! ### columns added -/
theorem cl_congr {m : Nat} {R S : Mx} (h : Cl m R) (e : ∀ i j, i < m → j < m → R i j = S i j) : Cl m S :=
  ⟨fun i l j hi hl hj => by rw [← e i j hi hj, ← e i l hi hl, ← e l j hl hj]; exact h.tri i l j hi hl hj, fun i hi => by rw [← e i i hi hi]; exact h.dg i hi⟩
/-- numbers within some ranges -/
def Rgs (pr : List (Int × Int)) (e : List Int) : Prop := e.length = pr.length ∧ ∀ t, t < pr.length → (pr.map Prod.fst).getD t 0 ≤ e.getD t 0 ∧ e.getD t 0 ≤ (pr.map Prod.snd).getD t 0
theorem add_hull {A : AH} {n : Nat} {pr : List (Int × Int)} {ps E : List (List Int)} (al : All n ps) (ok : ∀ r ∈ pr, r.1 ≤ r.2) (nk : n + pr.length ≤ 20) (few : E.length ≤ 5000) (e : ∀ q, q ∈ E ↔ ∃ p ∈ ps, ∃ x, Rgs pr x ∧ q = p ++ x) :
    Sat (m_add_columns [hullD ps n, .tup (pr.map prD)] A) (fun d A' => Gr A A' ∧ d = hullD E (n + pr.length)) ∧ All (n + pr.length) E := by
  have h0 : ∀ n, hullD [] n = .non := fun n => if_pos rfl
  by_cases ne : ps = []
  · subst ne
    have eE : E = [] := by
      cases h : E with
      | nil => rfl
      | cons a l => obtain ⟨p, hp, _⟩ := (e a).mp (by rw [h]; exact List.mem_cons_self ..); cases hp
    subst eE
    rw [h0, h0, non_add]
    exact ⟨⟨.refl, rfl⟩, all_nil nk⟩
  have C : Cl (n + pr.length + 1) (addf n (mx ps) pr) := cl_congr (mx_cl (ps := endsL ps pr) (fun z => ne (ends_ne.mp z))) fun i j hi hj => mx_ends ne al.len ok (by omega) (by omega)
  have M0 := (mx_cl (m := n + 1) ne).dg 0 (by omega)
  have fp : ∀ q, Fp (addf n (mx ps) pr) (n + pr.length) q ↔ ∃ p ∈ ps, ∃ x, Rgs pr x ∧ q = p ++ x := fun q => by
    constructor
    · intro f
      have l := f.1
      have tl : (q.take n).length = n := by rw [List.length_take]; omega
      have dl : (q.drop n).length = pr.length := by rw [List.length_drop]; omega
      have eq : q = q.take n ++ q.drop n := (List.take_append_drop n q).symm
      have a1 : ∀ i, i ≤ n → at0 q i = at0 (q.take n) i := fun i hi => by
        conv => lhs; rw [eq]
        rw [at0_app, if_pos (by omega)]
      have a2 : ∀ t, at0 q (n + 1 + t) = (q.drop n).getD t 0 := fun t => by
        conv => lhs; rw [eq]
        rw [at0_app, if_neg (by omega), tl]
        congr 1; omega
      refine ⟨q.take n, al.all _ ne ⟨tl, fun i j hi hj e => ?_⟩, q.drop n, ⟨dl, fun t ht => ?_⟩, eq⟩
      · have := f.2 i j (by omega) (by omega) e
        rw [a1 i hi, a1 j hj] at this
        unfold addf at this
        rw [if_pos ⟨by omega, by omega⟩] at this
        exact this
      · have h1 := f.2 (n + 1 + t) 0 (by omega) (by omega) (by omega)
        have h2 := f.2 0 (n + 1 + t) (by omega) (by omega) (by omega)
        rw [at0_z, a2] at h1 h2
        unfold addf at h1 h2
        rw [if_neg (by omega), if_neg (by omega)] at h1
        rw [if_neg (by omega), if_neg (by omega)] at h2
        unfold abv blw at h1 h2
        rw [if_neg (by omega), if_pos (by omega), M0, show n + 1 + t - (n + 1) = t by omega] at h1
        rw [if_pos (by omega), if_neg (by omega), M0, show n + 1 + t - (n + 1) = t by omega, neg_fst] at h2
        omega
    · rintro ⟨p, hp, x, ⟨xl, xr⟩, rfl⟩
      have pl := al.len p hp
      have g : ∀ i j, at0 p i - at0 p j ≤ mx ps i j := fun i j => mx_ge hp
      refine ⟨by rw [List.length_append]; omega, fun i j hi hj e => ?_⟩
      rw [at0_app, at0_app, pl]
      unfold addf
      by_cases ei : i < n + 1
      · rw [if_pos ei]
        by_cases ej : j < n + 1
        · rw [if_pos ej, if_pos ⟨ei, ej⟩]; exact g i j
        · rw [if_neg ej, if_neg (fun z => ej z.2), if_neg (Ne.symm e)]
          unfold abv blw
          rw [if_pos ei, if_neg ej, neg_fst]
          have := g i 0
          have := xr (j - (n + 1)) (by omega)
          rw [at0_z] at *
          omega
      · have hi := xr (i - (n + 1)) (by omega)
        by_cases ej : j < n + 1
        · rw [if_neg ei, if_pos ej, if_neg (fun z => ei z.1), if_neg (Ne.symm e)]
          unfold abv blw
          rw [if_neg ei, if_pos ej]
          have := g 0 j
          rw [at0_z] at this
          omega
        · rw [if_neg ei, if_neg ej, if_neg (fun z => ei z.1), if_neg (Ne.symm e)]
          unfold abv blw
          rw [if_neg ei, if_neg ej, neg_fst]
          have := xr (j - (n + 1)) (by omega)
          omega
  have hp : hullD ps n = matD (n + 1) (mx ps) := if_neg ne
  have b := bq_done ((bq_self C).congr fp) (E := E) e nk few
  rw [hp]
  refine ⟨Sat.imp (add_spec (k := pr.length) (by have := al.n20; omega) rfl (by omega)) fun d A' ⟨G, e⟩ => ⟨G, ?_⟩, b.2⟩
  rw [e, ← b.1, show n + 1 + pr.length = n + pr.length + 1 by omega]; rfl
end Law

namespace Law
open PySem PySem.Spec PyProof.Rows L2 Ab
open scoped Classical
/-! ### points, each once -/
def ptK (p : List Int) : List Key := p.map fun v => .inl v
theorem key_pt : ∀ p : List Int, keyT (ptD p) = some (ptK p)
  | [] => rfl
  | v :: p => by
    have h := key_pt p
    show keysOf (.int v :: p.map D.int) = _
    unfold keysOf
    have h : keysOf (p.map D.int) = some (ptK p) := h
    rw [h]; rfl
theorem ptK_inj {p q : List Int} (h : ptK p = ptK q) : p = q := by
  have := congrArg (List.map fun k : Key => match k with | .inl v => v | .inr _ => 0) h
  unfold ptK at this
  rw [List.map_map, List.map_map] at this
  simpa [Function.comp_def] using this
theorem nin_pt {A : AH} {r : Nat} {kvs : List (List Key × D)} {p : List Int} (h : A[r]? = some (.dtp kvs)) : ninT (ptD p) (.ref r) A = .ok (.bl (!(getK kvs (ptK p)).isSome)) A := by
  have e : rdT A (.ref r) = some kvs := by simp only [rdT, h]
  unfold ninT
  rw [e, key_pt]
theorem st_pt {A : AH} {r : Nat} {kvs : List (List Key × D)} {p : List Int} {v : D} (h : A[r]? = some (.dtp kvs)) (few : kvs.length ≤ 1000000) : stT (.ref r) (ptD p) v A = .ok () (A.set r (.dtp (setK kvs (ptK p) v))) := by
  unfold stT
  simp only [h, key_pt]
  rw [if_pos (Nat.lt_of_le_of_lt few (by decide))]
theorem setK_new {kvs : List (List Key × D)} {k : List Key} {v : D} (h : (getK kvs k).isSome = false) : setK kvs k v = kvs ++ [(k, v)] := by
  unfold setK
  rw [if_neg]
  intro e
  unfold getK at h
  obtain ⟨x, hx, e2⟩ := List.any_eq_true.mp e
  cases hf : kvs.find? (fun kv => decide (kv.1 = k)) with
  | some y => rw [hf] at h; cases h
  | none =>
    have := List.find?_eq_none.mp hf x hx
    exact this e2
theorem getK_some {kvs : List (List Key × D)} {k : List Key} : (getK kvs k).isSome = decide (k ∈ kvs.map (·.1)) := by
  unfold getK
  rw [Option.isSome_map, Bool.eq_iff_iff, List.find?_isSome, decide_eq_true_iff, List.mem_map]
  constructor
  · rintro ⟨x, hx, e⟩; exact ⟨x, hx, by simpa using e⟩
  · rintro ⟨x, hx, e⟩; exact ⟨x, hx, by simpa using e⟩
theorem distinct_spec {A : AH} {r : Nat} {ps : List (List Int)} (h : A[r]? = some (.lst (ps.map ptD))) (few : ps.length ≤ 700000) :
    Sat (m__law_distinct [.ref r] A) fun d B => Gr A B ∧ ∃ (q : Nat) (qs : List (List Int)), d = .ref q ∧ A.length ≤ q ∧ B[q]? = some (.lst (qs.map ptD)) ∧ qs.Nodup ∧ ∀ p, p ∈ qs ↔ p ∈ ps := by
  refine sat_body rfl (sat_seq ?_)
  simp only [EV, Ab.isNon, args, List.map, List.length_cons, List.length_nil, List.length_singleton, List.replicate, Nat.reduceSub, Nat.reduceAdd, Nat.zero_add, List.cons_append, List.nil_append, List.getElem?_cons_zero, List.getElem?_cons_succ, List.set_cons_zero, List.set_cons_succ, Option.some.injEq, decide_eq_true_eq, Bool.not_eq_true', decide_eq_false_iff_not, ite_true, ite_false, if_true, if_false, reduceIte, Bool.false_eq_true, Bool.not_true, Bool.not_false, Bool.true_eq_false, decide_true, decide_false, Nat.reduceLeDiff, Nat.reduceLT]
  have hR := at_new (A := A) (o := .lst [])
  have g1 := Gr.app (A := A) (B := [AO.lst []])
  obtain ⟨A1, eA1⟩ : ∃ A1, A ++ [AO.lst []] = A1 := ⟨_, rfl⟩
  rw [eA1] at hR g1 ⊢
  obtain ⟨R, eR⟩ : ∃ R, A.length = R := ⟨_, rfl⟩
  rw [eR] at hR ⊢
  refine sat_seq ?_
  rw [ev_set, ev_dictT]
  simp only [EV, Ab.isNon, args, List.map, List.length_cons, List.length_nil, List.length_singleton, List.replicate, Nat.reduceSub, Nat.reduceAdd, Nat.zero_add, List.cons_append, List.nil_append, List.getElem?_cons_zero, List.getElem?_cons_succ, List.set_cons_zero, List.set_cons_succ, Option.some.injEq, decide_eq_true_eq, Bool.not_eq_true', decide_eq_false_iff_not, ite_true, ite_false, if_true, if_false, reduceIte, Bool.false_eq_true, Bool.not_true, Bool.not_false, Bool.true_eq_false, decide_true, decide_false, Nat.reduceLeDiff, Nat.reduceLT]
  have hD := at_new (A := A1) (o := .dtp [])
  have g2 := Gr.app (A := A1) (B := [AO.dtp []])
  have hR := g2.keep _ _ hR
  have lR := at_lt hR
  have gA := g1.trans g2
  have lD : R < A1.length := by have := g1.le; have : A1.length = A.length + 1 := by rw [← eA1]; simp
                                omega
  generalize A1 ++ [AO.dtp []] = A2 at *
  generalize A1.length = K at *
  refine sat_seq ?_
  simp only [EV, Ab.isNon, args, List.map, List.length_cons, List.length_nil, List.length_singleton, List.replicate, Nat.reduceSub, Nat.reduceAdd, Nat.zero_add, List.cons_append, List.nil_append, List.getElem?_cons_zero, List.getElem?_cons_succ, List.set_cons_zero, List.set_cons_succ, Option.some.injEq, decide_eq_true_eq, Bool.not_eq_true', decide_eq_false_iff_not, ite_true, ite_false, if_true, if_false, reduceIte, Bool.false_eq_true, Bool.not_true, Bool.not_false, Bool.true_eq_false, decide_true, decide_false, Nat.reduceLeDiff, Nat.reduceLT, ev_iseq_l (gA.keep _ _ h)]
  refine loop_inv (fun es σ C => Gr A C ∧ (∃ (pre post qs : List (List Int)) (kvs : List (List Key × D)), ps = pre ++ post ∧ es = post.map ptD ∧ C[R]? = some (.lst (qs.map ptD)) ∧ C[K]? = some (.dtp kvs) ∧ kvs.map (·.1) = qs.map ptK ∧ qs.Nodup ∧ (∀ p, p ∈ qs ↔ p ∈ pre) ∧ qs.length ≤ pre.length) ∧ ∃ x3, σ = [some (.ref r), some (.ref R), some (.ref K), x3])
    (fun e es σ C ⟨gC, ⟨pre, post, qs, kvs, ep, ee, hR, hK, ek, nd, mem, ql⟩, x3, hσ⟩ => ⟨rdL_l (gC.keep _ _ h), ?_⟩) (fun σ C ⟨gC, ⟨pre, post, qs, kvs, ep, ee, hR, hK, ek, nd, mem, ql⟩, x3, hσ⟩ => ⟨rdL_l (gC.keep _ _ h), ?_⟩) _ _ _ ⟨gA, ⟨[], ps, [], [], rfl, rfl, hR, hD, rfl, List.nodup_nil, fun p => Iff.rfl, Nat.le_refl _⟩, none, rfl⟩
  · subst hσ
    cases post with
    | nil => cases ee
    | cons p post =>
      rw [List.map_cons, List.cons.injEq] at ee
      obtain ⟨e1, e2⟩ := ee
      subst e1; subst e2
      have lp : pre.length + 1 ≤ 700000 := by have := congrArg List.length ep; rw [List.length_append, List.length_cons] at this; omega
      have lk : kvs.length = qs.length := by have := congrArg List.length ek; rwa [List.length_map, List.length_map] at this
      simp only [EV, Ab.isNon, args, List.map, List.length_cons, List.length_nil, List.length_singleton, List.replicate, Nat.reduceSub, Nat.reduceAdd, Nat.zero_add, List.cons_append, List.nil_append, List.getElem?_cons_zero, List.getElem?_cons_succ, List.set_cons_zero, List.set_cons_succ, Option.some.injEq, decide_eq_true_eq, Bool.not_eq_true', decide_eq_false_iff_not, ite_true, ite_false, if_true, if_false, reduceIte, Bool.false_eq_true, Bool.not_true, Bool.not_false, Bool.true_eq_false, decide_true, decide_false, Nat.reduceLeDiff, Nat.reduceLT, nin_pt hK, getK_some, ek]
      by_cases q : ptK p ∈ qs.map ptK
      · obtain ⟨p', hp', e⟩ := List.mem_map.mp q
        have e := ptK_inj e
        subst e
        simp (decide := true) only [q, EV, Ab.isNon, args, List.map, List.length_cons, List.length_nil, List.length_singleton, List.replicate, Nat.reduceSub, Nat.reduceAdd, Nat.zero_add, List.cons_append, List.nil_append, List.getElem?_cons_zero, List.getElem?_cons_succ, List.set_cons_zero, List.set_cons_succ, Option.some.injEq, decide_eq_true_eq, Bool.not_eq_true', decide_eq_false_iff_not, ite_true, ite_false, if_true, if_false, reduceIte, Bool.false_eq_true, Bool.not_true, Bool.not_false, Bool.true_eq_false, decide_true, decide_false, Nat.reduceLeDiff, Nat.reduceLT, turn_]
        refine ⟨gC, ⟨pre ++ [p'], post, qs, kvs, by rw [ep]; simp, rfl, hR, hK, ek, nd, fun x => ?_, by simp; omega⟩, _, rfl⟩
        rw [mem, List.mem_append, List.mem_singleton]
        refine ⟨.inl, fun z => z.elim id fun z => ?_⟩
        rw [z]; exact (mem p').mp hp'
      · have nq : p ∉ qs := fun z => q (List.mem_map.mpr ⟨p, z, rfl⟩)
        simp (decide := true) only [q, EV, Ab.isNon, args, List.map, List.length_cons, List.length_nil, List.length_singleton, List.replicate, Nat.reduceSub, Nat.reduceAdd, Nat.zero_add, List.cons_append, List.nil_append, List.getElem?_cons_zero, List.getElem?_cons_succ, List.set_cons_zero, List.set_cons_succ, Option.some.injEq, decide_eq_true_eq, Bool.not_eq_true', decide_eq_false_iff_not, ite_true, ite_false, if_true, if_false, reduceIte, Bool.false_eq_true, Bool.not_true, Bool.not_false, Bool.true_eq_false, decide_true, decide_false, Nat.reduceLeDiff, Nat.reduceLT]
        refine sat_seq ?_
        rw [ev_asg]
        simp only [EV, Ab.isNon, args, List.map, List.length_cons, List.length_nil, List.length_singleton, List.replicate, Nat.reduceSub, Nat.reduceAdd, Nat.zero_add, List.cons_append, List.nil_append, List.getElem?_cons_zero, List.getElem?_cons_succ, List.set_cons_zero, List.set_cons_succ, Option.some.injEq, decide_eq_true_eq, Bool.not_eq_true', decide_eq_false_iff_not, ite_true, ite_false, if_true, if_false, reduceIte, Bool.false_eq_true, Bool.not_true, Bool.not_false, Bool.true_eq_false, decide_true, decide_false, Nat.reduceLeDiff, Nat.reduceLT, ev_gSbT]
        rw [st_pt hK (by omega), setK_new (by rw [getK_some, ek]; simpa using q)]
        simp only [EV, Ab.isNon, args, List.map, List.length_cons, List.length_nil, List.length_singleton, List.replicate, Nat.reduceSub, Nat.reduceAdd, Nat.zero_add, List.cons_append, List.nil_append, List.getElem?_cons_zero, List.getElem?_cons_succ, List.set_cons_zero, List.set_cons_succ, Option.some.injEq, decide_eq_true_eq, Bool.not_eq_true', decide_eq_false_iff_not, ite_true, ite_false, if_true, if_false, reduceIte, Bool.false_eq_true, Bool.not_true, Bool.not_false, Bool.true_eq_false, decide_true, decide_false, Nat.reduceLeDiff, Nat.reduceLT]
        have lKC := at_lt hK
        have gC2 := gC.set (r := K) (o := .dtp (kvs ++ [(ptK p, .bl true)])) (by omega)
        have hR2 : (C.set K (.dtp (kvs ++ [(ptK p, .bl true)])))[R]? = some (.lst (qs.map ptD)) := by rw [List.getElem?_set_ne (by omega)]; exact hR
        have hK2 := at_set (o := .dtp (kvs ++ [(ptK p, .bl true)])) lKC
        generalize C.set K (.dtp (kvs ++ [(ptK p, .bl true)])) = C2 at *
        simp only [EV, Ab.isNon, args, List.map, List.length_cons, List.length_nil, List.length_singleton, List.replicate, Nat.reduceSub, Nat.reduceAdd, Nat.zero_add, List.cons_append, List.nil_append, List.getElem?_cons_zero, List.getElem?_cons_succ, List.set_cons_zero, List.set_cons_succ, Option.some.injEq, decide_eq_true_eq, Bool.not_eq_true', decide_eq_false_iff_not, ite_true, ite_false, if_true, if_false, reduceIte, Bool.false_eq_true, Bool.not_true, Bool.not_false, Bool.true_eq_false, decide_true, decide_false, Nat.reduceLeDiff, Nat.reduceLT, ty_l hR2]
        rw [ev_app hR2 (by rw [List.length_map]; omega)]
        simp only [EV, Ab.isNon, args, List.map, List.length_cons, List.length_nil, List.length_singleton, List.replicate, Nat.reduceSub, Nat.reduceAdd, Nat.zero_add, List.cons_append, List.nil_append, List.getElem?_cons_zero, List.getElem?_cons_succ, List.set_cons_zero, List.set_cons_succ, Option.some.injEq, decide_eq_true_eq, Bool.not_eq_true', decide_eq_false_iff_not, ite_true, ite_false, if_true, if_false, reduceIte, Bool.false_eq_true, Bool.not_true, Bool.not_false, Bool.true_eq_false, decide_true, decide_false, Nat.reduceLeDiff, Nat.reduceLT, turn_]
        refine ⟨gC2.set (by omega), ⟨pre ++ [p], post, qs ++ [p], kvs ++ [(ptK p, .bl true)], by rw [ep]; simp, rfl, by rw [at_set (at_lt hR2), List.map_append]; rfl, by rw [List.getElem?_set_ne (by omega)]; exact hK2, by rw [List.map_append, List.map_append, ek]; rfl, ?_, fun x => ?_, by simp; omega⟩, _, rfl⟩
        · rw [List.nodup_append]
          exact ⟨nd, by simp, fun a ha b hb e => nq (by rw [List.mem_singleton.mp hb] at e; rw [← e]; exact ha)⟩
        · rw [List.mem_append, List.mem_append, mem]
  · have pz : post = [] := by cases post with | nil => rfl | cons a p => cases ee
    subst pz
    rw [List.append_nil] at ep
    subst ep
    subst hσ
    simp only [EV, Ab.isNon, args, List.map, List.length_cons, List.length_nil, List.length_singleton, List.replicate, Nat.reduceSub, Nat.reduceAdd, Nat.zero_add, List.cons_append, List.nil_append, List.getElem?_cons_zero, List.getElem?_cons_succ, List.set_cons_zero, List.set_cons_succ, Option.some.injEq, decide_eq_true_eq, Bool.not_eq_true', decide_eq_false_iff_not, ite_true, ite_false, if_true, if_false, reduceIte, Bool.false_eq_true, Bool.not_true, Bool.not_false, Bool.true_eq_false, decide_true, decide_false, Nat.reduceLeDiff, Nat.reduceLT]
    exact ⟨gC, R, qs, rfl, by omega, hR, nd, mem⟩
/-! ### parts of a point -/
theorem part_spec {A : AH} {n : Nat} {p : List Int} {cs : List Nat} (pl : p.length = n) (hc : ∀ c ∈ cs, 1 ≤ c ∧ c ≤ n) (hl : cs.length ≤ 100) : Sat (m__law_part [ptD p, clD cs] A) fun d B => Gr A B ∧ d = ptD (partL cs p) := by
  refine sat_body rfl ?_
  have ix : ∀ (c : Nat) (A : AH), 1 ≤ c → c ≤ n → ixD (ptD p) (.int (((c : Nat) : Int) - 1)) A = .ok (.int (at0 p c)) A := fun c A h1 h2 => by
    obtain ⟨k, rfl⟩ : ∃ k, c = k + 1 := ⟨c - 1, by omega⟩
    have e : (((k + 1 : Nat) : Int) - 1) = ((k : Nat) : Int) := by omega
    rw [e]
    exact ix_pt (by omega)
  unfold p__law_part clD
  simp only [EV, Ab.isNon, args, List.map, List.length_cons, List.length_nil, List.length_singleton, List.replicate, Nat.reduceSub, Nat.reduceAdd, Nat.zero_add, List.cons_append, List.nil_append, List.getElem?_cons_zero, List.getElem?_cons_succ, List.set_cons_zero, List.set_cons_succ, Option.some.injEq, decide_eq_true_eq, Bool.not_eq_true', decide_eq_false_iff_not, ite_true, ite_false, if_true, if_false, reduceIte, Bool.false_eq_true, Bool.not_true, Bool.not_false, Bool.true_eq_false, decide_true, decide_false, Nat.reduceLeDiff, Nat.reduceLT, wipeA]
  refine comp_pure (fun c : Nat => .int (c : Nat)) (fun c => .int (at0 p c)) (fun _ => trivial) (fun c hq l => ?_) (by omega) ?_
  · obtain ⟨c1, c2⟩ := hc c hq
    simp only [EV, Ab.isNon, args, List.map, List.length_cons, List.length_nil, List.length_singleton, List.replicate, Nat.reduceSub, Nat.reduceAdd, Nat.zero_add, List.cons_append, List.nil_append, List.getElem?_cons_zero, List.getElem?_cons_succ, List.set_cons_zero, List.set_cons_succ, Option.some.injEq, decide_eq_true_eq, Bool.not_eq_true', decide_eq_false_iff_not, ite_true, ite_false, if_true, if_false, reduceIte, Bool.false_eq_true, Bool.not_true, Bool.not_false, Bool.true_eq_false, decide_true, decide_false, Nat.reduceLeDiff, Nat.reduceLT, ix c _ c1 c2]
    exact ⟨by first | trivial | rfl, by first | trivial | rfl⟩
  · have em : cs.map (fun c => D.int (at0 p c)) = (partL cs p).map D.int := by unfold partL; rw [List.map_map]; rfl
    simp only [EV, Ab.isNon, args, List.map, List.length_cons, List.length_nil, List.length_singleton, List.replicate, Nat.reduceSub, Nat.reduceAdd, Nat.zero_add, List.cons_append, List.nil_append, List.getElem?_cons_zero, List.getElem?_cons_succ, List.set_cons_zero, List.set_cons_succ, Option.some.injEq, decide_eq_true_eq, Bool.not_eq_true', decide_eq_false_iff_not, ite_true, ite_false, if_true, if_false, reduceIte, Bool.false_eq_true, Bool.not_true, Bool.not_false, Bool.true_eq_false, decide_true, decide_false, Nat.reduceLeDiff, Nat.reduceLT, ev_tup_ofL (rdL_l at_new)]
    rw [em]
    exact ⟨.app, rfl⟩
end Law

namespace Law
open PySem PySem.Spec PyProof.Rows L2 Ab
open scoped Classical
/-! ### drawn columns -/
theorem columns_spec {A : AH} {s n u : Nat} (hs : Sr s A) (hn : n ≤ 20) (hu : u ≤ 9) : Sat (m__law_columns [.ref s, .int (n : Nat), .int (u : Nat)] A) fun d B => Dr s A B ∧ ∃ cs, d = clD cs ∧ (∀ c ∈ cs, 1 ≤ c ∧ c ≤ n) ∧ cs.length ≤ u := by
  have sl := hs.lt
  refine sat_body rfl (sat_seq ?_)
  simp only [EV, Ab.isNon, args, List.map, List.length_cons, List.length_nil, List.length_singleton, List.replicate, Nat.reduceSub, Nat.reduceAdd, Nat.zero_add, List.cons_append, List.nil_append, List.getElem?_cons_zero, List.getElem?_cons_succ, List.set_cons_zero, List.set_cons_succ, Option.some.injEq, decide_eq_true_eq, Bool.not_eq_true', decide_eq_false_iff_not, ite_true, ite_false, if_true, if_false, reduceIte, Bool.false_eq_true, Bool.not_true, Bool.not_false, Bool.true_eq_false, decide_true, decide_false, Nat.reduceLeDiff, Nat.reduceLT]
  have D1 := Dr.app hs [AO.lst []]
  have hL := at_new (A := A) (o := .lst [])
  generalize A ++ [AO.lst []] = A1 at *
  refine sat_mid (fun σ B => Dr s A B ∧ ∃ (L : Nat) (cs : List Nat) (x4 : Option D), B[L]? = some (.lst (cs.map fun c => .int (c : Nat))) ∧ (∀ c ∈ cs, 1 ≤ c ∧ c ≤ n) ∧ cs.length ≤ u ∧ σ = [some (.ref s), some (.int (n : Nat)), some (.int (u : Nat)), some (.ref L), x4]) ?_ fun σ B ⟨DB, L, cs, x4, hL, hc, lc, hσ⟩ => ?_
  · simp only [EV, Ab.isNon, args, List.map, List.length_cons, List.length_nil, List.length_singleton, List.replicate, Nat.reduceSub, Nat.reduceAdd, Nat.zero_add, List.cons_append, List.nil_append, List.getElem?_cons_zero, List.getElem?_cons_succ, List.set_cons_zero, List.set_cons_succ, Option.some.injEq, decide_eq_true_eq, Bool.not_eq_true', decide_eq_false_iff_not, ite_true, ite_false, if_true, if_false, reduceIte, Bool.false_eq_true, Bool.not_true, Bool.not_false, Bool.true_eq_false, decide_true, decide_false, Nat.reduceLeDiff, Nat.reduceLT]
    split
    · rename_i pos
      refine Sat.imp (pick_pos D1.src (n := ((u : Nat) : Int) + 1) (by omega) (by omega)) fun d A2 ⟨⟨c, e, c0, c1⟩, D2⟩ => ?_
      subst e
      obtain ⟨c, rfl⟩ : ∃ m : Nat, c = (m : Nat) := ⟨c.toNat, by omega⟩
      simp only [EV, Ab.isNon, args, List.map, List.length_cons, List.length_nil, List.length_singleton, List.replicate, Nat.reduceSub, Nat.reduceAdd, Nat.zero_add, List.cons_append, List.nil_append, List.getElem?_cons_zero, List.getElem?_cons_succ, List.set_cons_zero, List.set_cons_succ, Option.some.injEq, decide_eq_true_eq, Bool.not_eq_true', decide_eq_false_iff_not, ite_true, ite_false, if_true, if_false, reduceIte, Bool.false_eq_true, Bool.not_true, Bool.not_false, Bool.true_eq_false, decide_true, decide_false, Nat.reduceLeDiff, Nat.reduceLT]
      rw [if_pos (inRg_of (by omega) (by omega)), Int.toNat_natCast]
      simp only [EV, Ab.isNon, args, List.map, List.length_cons, List.length_nil, List.length_singleton, List.replicate, Nat.reduceSub, Nat.reduceAdd, Nat.zero_add, List.cons_append, List.nil_append, List.getElem?_cons_zero, List.getElem?_cons_succ, List.set_cons_zero, List.set_cons_succ, Option.some.injEq, decide_eq_true_eq, Bool.not_eq_true', decide_eq_false_iff_not, ite_true, ite_false, if_true, if_false, reduceIte, Bool.false_eq_true, Bool.not_true, Bool.not_false, Bool.true_eq_false, decide_true, decide_false, Nat.reduceLeDiff, Nat.reduceLT, wipeA]
      refine comp_drawG (fun c : Nat => .int (c : Nat)) (fun c => 1 ≤ c ∧ c ≤ n) D2.src (fun k C dr => ?_) (by omega) fun q C lq hq dr hC => ?_
      · show DrwS s C _ _
        unfold DrwS
        simp only [EV, Ab.isNon, args, List.map, List.length_cons, List.length_nil, List.length_singleton, List.replicate, Nat.reduceSub, Nat.reduceAdd, Nat.zero_add, List.cons_append, List.nil_append, List.getElem?_cons_zero, List.getElem?_cons_succ, List.set_cons_zero, List.set_cons_succ, Option.some.injEq, decide_eq_true_eq, Bool.not_eq_true', decide_eq_false_iff_not, ite_true, ite_false, if_true, if_false, reduceIte, Bool.false_eq_true, Bool.not_true, Bool.not_false, Bool.true_eq_false, decide_true, decide_false, Nat.reduceLeDiff, Nat.reduceLT]
        refine Sat.imp (pick_pos dr.src (n := ((n : Nat) : Int)) (by omega) (by omega)) fun d A3 ⟨⟨v, e, v0, v1⟩, D3⟩ => ?_
        subst e
        simp only [EV, Ab.isNon, args, List.map, List.length_cons, List.length_nil, List.length_singleton, List.replicate, Nat.reduceSub, Nat.reduceAdd, Nat.zero_add, List.cons_append, List.nil_append, List.getElem?_cons_zero, List.getElem?_cons_succ, List.set_cons_zero, List.set_cons_succ, Option.some.injEq, decide_eq_true_eq, Bool.not_eq_true', decide_eq_false_iff_not, ite_true, ite_false, if_true, if_false, reduceIte, Bool.false_eq_true, Bool.not_true, Bool.not_false, Bool.true_eq_false, decide_true, decide_false, Nat.reduceLeDiff, Nat.reduceLT]
        exact ⟨⟨1 + v.toNat, by congr 1; omega, by omega, by omega⟩, D3⟩
      · exact ⟨_, rfl, D1.trans (D2.trans dr), A2.length, q, _, hC, hq, by omega, rfl⟩
    · exact ⟨_, rfl, D1, A.length, [], _, hL, by simp, by simp, rfl⟩
  · subst hσ
    simp only [EV, Ab.isNon, args, List.map, List.length_cons, List.length_nil, List.length_singleton, List.replicate, Nat.reduceSub, Nat.reduceAdd, Nat.zero_add, List.cons_append, List.nil_append, List.getElem?_cons_zero, List.getElem?_cons_succ, List.set_cons_zero, List.set_cons_succ, Option.some.injEq, decide_eq_true_eq, Bool.not_eq_true', decide_eq_false_iff_not, ite_true, ite_false, if_true, if_false, reduceIte, Bool.false_eq_true, Bool.not_true, Bool.not_false, Bool.true_eq_false, decide_true, decide_false, Nat.reduceLeDiff, Nat.reduceLT, ev_tup_ofL (rdL_l hL)]
    exact ⟨DB, cs, rfl, hc, lc⟩
/-! ### a box near a point -/
theorem near_pt {A : AH} {s n : Nat} {p : List Int} {w : Int} (hs : Sr s A) (pl : p.length = n) (hn : n ≤ 20) (hw : 0 ≤ w) {f : FE} {σ : ASt} {R : D → AH → Prop} (hf : ∀ v C, Sr s C → DrwS s C (f (σ.set 4 (some (.int v))) C) fun d => ∃ x, d = .int x ∧ -w ≤ x - v ∧ x - v ≤ w)
    (hR : ∀ (q : List Int) C, q.length = n → (∀ k, -w ≤ at0 q k - at0 p k ∧ at0 q k - at0 p k ≤ w) → Dr s A C → C[A.length]? = some (.lst (q.map D.int)) → R (.ref A.length) C) :
    Sat (loopC yes (gN 4) fYes f A.length σ (p.map D.int) (A ++ [.lst []])) R := by
  refine comp_drawL D.int (fun v x => -w ≤ x - v ∧ x - v ≤ w) hs (fun _ _ => trivial) (fun v hv C dr => ?_) (by omega) fun q C lq hq dr hC => ?_
  · simp only [EV, Ab.isNon, args, List.map, List.length_cons, List.length_nil, List.length_singleton, List.replicate, Nat.reduceSub, Nat.reduceAdd, Nat.zero_add, List.cons_append, List.nil_append, List.getElem?_cons_zero, List.getElem?_cons_succ, List.set_cons_zero, List.set_cons_succ, Option.some.injEq, decide_eq_true_eq, Bool.not_eq_true', decide_eq_false_iff_not, ite_true, ite_false, if_true, if_false, reduceIte, Bool.false_eq_true, Bool.not_true, Bool.not_false, Bool.true_eq_false, decide_true, decide_false, Nat.reduceLeDiff, Nat.reduceLT]
    exact ⟨trivial, hf v C dr.src⟩
  · refine hR q C (by omega) (fun k => ?_) dr hC
    cases k with
    | zero => rw [at0_z, at0_z]; omega
    | succ k =>
      rw [at0_s, at0_s, List.getD_eq_getElem?_getD, List.getD_eq_getElem?_getD]
      by_cases kl : k < p.length
      · have e1 := List.getElem?_eq_getElem kl
        have e2 := List.getElem?_eq_getElem (show k < q.length by omega)
        have := hq k _ _ e1 e2
        rw [e1, e2]
        exact this
      · rw [List.getElem?_eq_none (by omega), List.getElem?_eq_none (by omega)]
        show -w ≤ (0 : Int) - 0 ∧ (0 : Int) - 0 ≤ w
        omega
theorem iseq_pt {p : List Int} {A : AH} : iSeq (ptD p) A = .ok ⟨p.map D.int, yes⟩ A := rfl
theorem near_spec {A : AH} {s n : Nat} {p : List Int} (hs : Sr s A) (pl : p.length = n) (hn : n ≤ 20) : Sat (m__law_near_box [.ref s, ptD p] A) fun d B => Dr s A B ∧ (d = .non ∨ ∃ qs, qs ≠ [] ∧ (∀ q ∈ qs, q.length = n) ∧ d = hullD qs n) := by
  have sl := hs.lt
  have ln : ∀ A, lenD [ptD p] A = .ok (.int (n : Nat)) A := fun A => by
    show lenD [.tup _] A = _
    rw [ev_len_t]; simp [pl]
  refine sat_body rfl (sat_seq ?_)
  simp only [EV, Ab.isNon, args, List.map, List.length_cons, List.length_nil, List.length_singleton, List.replicate, Nat.reduceSub, Nat.reduceAdd, Nat.zero_add, List.cons_append, List.nil_append, List.getElem?_cons_zero, List.getElem?_cons_succ, List.set_cons_zero, List.set_cons_succ, Option.some.injEq, decide_eq_true_eq, Bool.not_eq_true', decide_eq_false_iff_not, ite_true, ite_false, if_true, if_false, reduceIte, Bool.false_eq_true, Bool.not_true, Bool.not_false, Bool.true_eq_false, decide_true, decide_false, Nat.reduceLeDiff, Nat.reduceLT]
  refine Sat.imp (pick_pos hs (n := 16) (by decide) (by decide)) fun d A1 ⟨⟨c, e, c0, c1⟩, D1⟩ => ?_
  subst e
  simp only [EV, Ab.isNon, args, List.map, List.length_cons, List.length_nil, List.length_singleton, List.replicate, Nat.reduceSub, Nat.reduceAdd, Nat.zero_add, List.cons_append, List.nil_append, List.getElem?_cons_zero, List.getElem?_cons_succ, List.set_cons_zero, List.set_cons_succ, Option.some.injEq, decide_eq_true_eq, Bool.not_eq_true', decide_eq_false_iff_not, ite_true, ite_false, if_true, if_false, reduceIte, Bool.false_eq_true, Bool.not_true, Bool.not_false, Bool.true_eq_false, decide_true, decide_false, Nat.reduceLeDiff, Nat.reduceLT]
  split
  · exact ⟨D1, .inl (by first | trivial | rfl)⟩
  · refine sat_seq ?_
    simp only [EV, Ab.isNon, args, List.map, List.length_cons, List.length_nil, List.length_singleton, List.replicate, Nat.reduceSub, Nat.reduceAdd, Nat.zero_add, List.cons_append, List.nil_append, List.getElem?_cons_zero, List.getElem?_cons_succ, List.set_cons_zero, List.set_cons_succ, Option.some.injEq, decide_eq_true_eq, Bool.not_eq_true', decide_eq_false_iff_not, ite_true, ite_false, if_true, if_false, reduceIte, Bool.false_eq_true, Bool.not_true, Bool.not_false, Bool.true_eq_false, decide_true, decide_false, Nat.reduceLeDiff, Nat.reduceLT]
    have hL := at_new (A := A1) (o := .lst [])
    have D2 := D1.trans (Dr.app D1.src [AO.lst []])
    have lA := D1.le
    generalize A1 ++ [AO.lst []] = A2 at *
    generalize A1.length = L at *
    refine sat_mid (fun σ B => Dr s A B ∧ ∃ qs : List (List Int), B[L]? = some (.lst (qs.map ptD)) ∧ (∀ q ∈ qs, q.length = n) ∧ qs.length ≤ 1 ∧ σ = [some (.ref s), some (ptD p), some (.ref L), none, none]) ?_ fun σ B ⟨DB, qs, hL, ql, q1, hσ⟩ => ?_
    · simp only [EV, Ab.isNon, args, List.map, List.length_cons, List.length_nil, List.length_singleton, List.replicate, Nat.reduceSub, Nat.reduceAdd, Nat.zero_add, List.cons_append, List.nil_append, List.getElem?_cons_zero, List.getElem?_cons_succ, List.set_cons_zero, List.set_cons_succ, Option.some.injEq, decide_eq_true_eq, Bool.not_eq_true', decide_eq_false_iff_not, ite_true, ite_false, if_true, if_false, reduceIte, Bool.false_eq_true, Bool.not_true, Bool.not_false, Bool.true_eq_false, decide_true, decide_false, Nat.reduceLeDiff, Nat.reduceLT]
      refine Sat.imp (pick_pos D2.src (n := 6) (by decide) (by decide)) fun d A3 ⟨⟨v, e, v0, v1⟩, D3⟩ => ?_
      subst e
      have hL := D3.keep _ _ (by omega) hL
      simp only [EV, Ab.isNon, args, List.map, List.length_cons, List.length_nil, List.length_singleton, List.replicate, Nat.reduceSub, Nat.reduceAdd, Nat.zero_add, List.cons_append, List.nil_append, List.getElem?_cons_zero, List.getElem?_cons_succ, List.set_cons_zero, List.set_cons_succ, Option.some.injEq, decide_eq_true_eq, Bool.not_eq_true', decide_eq_false_iff_not, ite_true, ite_false, if_true, if_false, reduceIte, Bool.false_eq_true, Bool.not_true, Bool.not_false, Bool.true_eq_false, decide_true, decide_false, Nat.reduceLeDiff, Nat.reduceLT]
      split
      · simp only [EV, Ab.isNon, args, List.map, List.length_cons, List.length_nil, List.length_singleton, List.replicate, Nat.reduceSub, Nat.reduceAdd, Nat.zero_add, List.cons_append, List.nil_append, List.getElem?_cons_zero, List.getElem?_cons_succ, List.set_cons_zero, List.set_cons_succ, Option.some.injEq, decide_eq_true_eq, Bool.not_eq_true', decide_eq_false_iff_not, ite_true, ite_false, if_true, if_false, reduceIte, Bool.false_eq_true, Bool.not_true, Bool.not_false, Bool.true_eq_false, decide_true, decide_false, Nat.reduceLeDiff, Nat.reduceLT, ty_l hL]
        rw [ev_app hL (by simp)]
        simp only [EV, Ab.isNon, args, List.map, List.length_cons, List.length_nil, List.length_singleton, List.replicate, Nat.reduceSub, Nat.reduceAdd, Nat.zero_add, List.cons_append, List.nil_append, List.getElem?_cons_zero, List.getElem?_cons_succ, List.set_cons_zero, List.set_cons_succ, Option.some.injEq, decide_eq_true_eq, Bool.not_eq_true', decide_eq_false_iff_not, ite_true, ite_false, if_true, if_false, reduceIte, Bool.false_eq_true, Bool.not_true, Bool.not_false, Bool.true_eq_false, decide_true, decide_false, Nat.reduceLeDiff, Nat.reduceLT]
        exact ⟨_, rfl, (D2.trans D3).setN (by omega) hs, [p], at_set (at_lt hL), fun q hq => by rw [List.mem_singleton.mp hq]; exact pl, Nat.le_refl _, rfl⟩
      · exact ⟨_, rfl, D2.trans D3, [], hL, by simp, by simp, rfl⟩
    subst hσ
    refine sat_seq ?_
    simp only [EV, Ab.isNon, args, List.map, List.length_cons, List.length_nil, List.length_singleton, List.replicate, Nat.reduceSub, Nat.reduceAdd, Nat.zero_add, List.cons_append, List.nil_append, List.getElem?_cons_zero, List.getElem?_cons_succ, List.set_cons_zero, List.set_cons_succ, Option.some.injEq, decide_eq_true_eq, Bool.not_eq_true', decide_eq_false_iff_not, ite_true, ite_false, if_true, if_false, reduceIte, Bool.false_eq_true, Bool.not_true, Bool.not_false, Bool.true_eq_false, decide_true, decide_false, Nat.reduceLeDiff, Nat.reduceLT]
    refine Sat.imp (pick_pos DB.src (n := 3) (by decide) (by decide)) fun d A4 ⟨⟨v, e, v0, v1⟩, D4⟩ => ?_
    subst e
    have hL := D4.keep _ _ (by omega) hL
    simp only [EV, Ab.isNon, args, List.map, List.length_cons, List.length_nil, List.length_singleton, List.replicate, Nat.reduceSub, Nat.reduceAdd, Nat.zero_add, List.cons_append, List.nil_append, List.getElem?_cons_zero, List.getElem?_cons_succ, List.set_cons_zero, List.set_cons_succ, Option.some.injEq, decide_eq_true_eq, Bool.not_eq_true', decide_eq_false_iff_not, ite_true, ite_false, if_true, if_false, reduceIte, Bool.false_eq_true, Bool.not_true, Bool.not_false, Bool.true_eq_false, decide_true, decide_false, Nat.reduceLeDiff, Nat.reduceLT]
    rw [if_pos (inRg_of (by omega) (by omega))]
    obtain ⟨m, hm, m1, m3⟩ : ∃ m : Nat, (1 + v).toNat = m ∧ 1 ≤ m ∧ m ≤ 3 := ⟨_, rfl, by omega, by omega⟩
    rw [hm]
    refine range_inv (fun k σ B => Dr s A B ∧ (∃ qs : List (List Int), B[L]? = some (.lst (qs.map ptD)) ∧ (∀ q ∈ qs, q.length = n) ∧ qs.length ≤ 1 + k ∧ k ≤ qs.length) ∧ ∃ x3, σ = [some (.ref s), some (ptD p), some (.ref L), x3, none])
      (fun k σ B hk ⟨DB, ⟨qs, hL, ql, q1, qk⟩, x3, hσ⟩ => ?_) (fun σ B ⟨DB, ⟨qs, hL, ql, q1, qk⟩, x3, hσ⟩ => ?_) ⟨DB.trans D4, ⟨qs, hL, ql, by omega, Nat.zero_le _⟩, none, rfl⟩
    · subst hσ
      simp only [EV, Ab.isNon, args, List.map, List.length_cons, List.length_nil, List.length_singleton, List.replicate, Nat.reduceSub, Nat.reduceAdd, Nat.zero_add, List.cons_append, List.nil_append, List.getElem?_cons_zero, List.getElem?_cons_succ, List.set_cons_zero, List.set_cons_succ, Option.some.injEq, decide_eq_true_eq, Bool.not_eq_true', decide_eq_false_iff_not, ite_true, ite_false, if_true, if_false, reduceIte, Bool.false_eq_true, Bool.not_true, Bool.not_false, Bool.true_eq_false, decide_true, decide_false, Nat.reduceLeDiff, Nat.reduceLT, iseq_pt, wipeA, ty_l hL]
      refine near_pt DB.src pl hn (w := 2) (by decide) (fun v C sr => ?_) fun q C lq hq dr hC => ?_
      · unfold DrwS
        simp only [EV, Ab.isNon, args, List.map, List.length_cons, List.length_nil, List.length_singleton, List.replicate, Nat.reduceSub, Nat.reduceAdd, Nat.zero_add, List.cons_append, List.nil_append, List.getElem?_cons_zero, List.getElem?_cons_succ, List.set_cons_zero, List.set_cons_succ, Option.some.injEq, decide_eq_true_eq, Bool.not_eq_true', decide_eq_false_iff_not, ite_true, ite_false, if_true, if_false, reduceIte, Bool.false_eq_true, Bool.not_true, Bool.not_false, Bool.true_eq_false, decide_true, decide_false, Nat.reduceLeDiff, Nat.reduceLT]
        refine Sat.imp (pick_pos sr (n := 5) (by decide) (by decide)) fun d A3 ⟨⟨v2, e, v0, v1⟩, D3⟩ => ?_
        subst e
        simp only [EV, Ab.isNon, args, List.map, List.length_cons, List.length_nil, List.length_singleton, List.replicate, Nat.reduceSub, Nat.reduceAdd, Nat.zero_add, List.cons_append, List.nil_append, List.getElem?_cons_zero, List.getElem?_cons_succ, List.set_cons_zero, List.set_cons_succ, Option.some.injEq, decide_eq_true_eq, Bool.not_eq_true', decide_eq_false_iff_not, ite_true, ite_false, if_true, if_false, reduceIte, Bool.false_eq_true, Bool.not_true, Bool.not_false, Bool.true_eq_false, decide_true, decide_false, Nat.reduceLeDiff, Nat.reduceLT]
        exact ⟨⟨_, rfl, by omega, by omega⟩, D3⟩
      · have hL := dr.keep _ _ (by omega) hL
        simp only [EV, Ab.isNon, args, List.map, List.length_cons, List.length_nil, List.length_singleton, List.replicate, Nat.reduceSub, Nat.reduceAdd, Nat.zero_add, List.cons_append, List.nil_append, List.getElem?_cons_zero, List.getElem?_cons_succ, List.set_cons_zero, List.set_cons_succ, Option.some.injEq, decide_eq_true_eq, Bool.not_eq_true', decide_eq_false_iff_not, ite_true, ite_false, if_true, if_false, reduceIte, Bool.false_eq_true, Bool.not_true, Bool.not_false, Bool.true_eq_false, decide_true, decide_false, Nat.reduceLeDiff, Nat.reduceLT, ev_tup_ofL (rdL_l hC)]
        rw [ev_app hL (by rw [List.length_map]; omega)]
        simp only [EV, Ab.isNon, args, List.map, List.length_cons, List.length_nil, List.length_singleton, List.replicate, Nat.reduceSub, Nat.reduceAdd, Nat.zero_add, List.cons_append, List.nil_append, List.getElem?_cons_zero, List.getElem?_cons_succ, List.set_cons_zero, List.set_cons_succ, Option.some.injEq, decide_eq_true_eq, Bool.not_eq_true', decide_eq_false_iff_not, ite_true, ite_false, if_true, if_false, reduceIte, Bool.false_eq_true, Bool.not_true, Bool.not_false, Bool.true_eq_false, decide_true, decide_false, Nat.reduceLeDiff, Nat.reduceLT, turn_]
        refine ⟨(DB.trans dr).setN (by omega) hs, ⟨qs ++ [q], by rw [at_set (at_lt hL), List.map_append]; rfl, fun x hx => ?_, by simp; omega, by simp; omega⟩, _, rfl⟩
        rcases List.mem_append.mp hx with h | h
        · exact ql x h
        · rw [List.mem_singleton.mp h]; exact lq
    · subst hσ
      simp only [EV, Ab.isNon, args, List.map, List.length_cons, List.length_nil, List.length_singleton, List.replicate, Nat.reduceSub, Nat.reduceAdd, Nat.zero_add, List.cons_append, List.nil_append, List.getElem?_cons_zero, List.getElem?_cons_succ, List.set_cons_zero, List.set_cons_succ, Option.some.injEq, decide_eq_true_eq, Bool.not_eq_true', decide_eq_false_iff_not, ite_true, ite_false, if_true, if_false, reduceIte, Bool.false_eq_true, Bool.not_true, Bool.not_false, Bool.true_eq_false, decide_true, decide_false, Nat.reduceLeDiff, Nat.reduceLT, ln]
      have ne : qs ≠ [] := fun e => by rw [e] at qk; simp at qk; omega
      refine Sat.imp (hull_spec (n := n) ⟨hn, by omega, ql⟩ hL) fun d C ⟨e, G⟩ => ?_
      exact ⟨DB.trans (G.dr DB.src), .inr ⟨qs, ne, ql, e⟩⟩
end Law

namespace Law
open PySem PySem.Spec PyProof.Rows L2 Ab
open scoped Classical
/-! ### the first points -/
theorem start_spec {A : AH} {s n : Nat} (hs : Sr s A) (hn : n ≤ 20) : Sat (m__law_start [.ref s, .int (n : Nat)] A) fun d B => Dr s A B ∧ ∃ (r : Nat) (ps : List (List Int)) (o : List Int), d = .ref r ∧ B[r]? = some (.lst (ps.map ptD)) ∧ o.length = n ∧ (∀ k, -1000000000 ≤ at0 o k ∧ at0 o k ≤ 1000000000) ∧ ps ≠ [] ∧ (∀ p ∈ ps, p.length = n) ∧
    ((n ≤ 3 ∧ ps.length ≤ 10 ∧ ∀ p ∈ ps, ∀ k, -2 ≤ at0 p k - at0 o k ∧ at0 p k - at0 o k ≤ 2) ∨ ∃ q, ps = [o, q] ∧ ∀ k, -1 ≤ at0 q k - at0 o k ∧ at0 q k - at0 o k ≤ 1) := by
  have sl := hs.lt
  refine sat_body rfl (sat_seq ?_)
  simp only [EV, Ab.isNon, args, List.map, List.length_cons, List.length_nil, List.length_singleton, List.replicate, Nat.reduceSub, Nat.reduceAdd, Nat.zero_add, List.cons_append, List.nil_append, List.getElem?_cons_zero, List.getElem?_cons_succ, List.set_cons_zero, List.set_cons_succ, Option.some.injEq, decide_eq_true_eq, Bool.not_eq_true', decide_eq_false_iff_not, ite_true, ite_false, if_true, if_false, reduceIte, Bool.false_eq_true, Bool.not_true, Bool.not_false, Bool.true_eq_false, decide_true, decide_false, Nat.reduceLeDiff, Nat.reduceLT]
  rw [if_pos (inRg_of (by omega) (by omega)), Int.toNat_natCast]
  simp only [EV, Ab.isNon, args, List.map, List.length_cons, List.length_nil, List.length_singleton, List.replicate, Nat.reduceSub, Nat.reduceAdd, Nat.zero_add, List.cons_append, List.nil_append, List.getElem?_cons_zero, List.getElem?_cons_succ, List.set_cons_zero, List.set_cons_succ, Option.some.injEq, decide_eq_true_eq, Bool.not_eq_true', decide_eq_false_iff_not, ite_true, ite_false, if_true, if_false, reduceIte, Bool.false_eq_true, Bool.not_true, Bool.not_false, Bool.true_eq_false, decide_true, decide_false, Nat.reduceLeDiff, Nat.reduceLT, wipeA]
  refine comp_draw (fun v => -1000000000 ≤ v ∧ v ≤ 1000000000) hs (fun k C dr => ?_) (by omega) fun o C lo ho dr hO => ?_
  · unfold DrwS
    have pw : ∀ A, powD (.int 10) (.int 9) A = .ok (.int 1000000000) A := fun A => ev_pow (powOk (by decide) (by decide) (by decide))
    simp only [EV, Ab.isNon, args, List.map, List.length_cons, List.length_nil, List.length_singleton, List.replicate, Nat.reduceSub, Nat.reduceAdd, Nat.zero_add, List.cons_append, List.nil_append, List.getElem?_cons_zero, List.getElem?_cons_succ, List.set_cons_zero, List.set_cons_succ, Option.some.injEq, decide_eq_true_eq, Bool.not_eq_true', decide_eq_false_iff_not, ite_true, ite_false, if_true, if_false, reduceIte, Bool.false_eq_true, Bool.not_true, Bool.not_false, Bool.true_eq_false, decide_true, decide_false, Nat.reduceLeDiff, Nat.reduceLT, pw]
    have hL := at_new (A := C) (o := .lst [.int 0, .int 0, .int 50, .int 1000000000, .int (0 - 1000000000)])
    have D1 := Dr.app dr.src [AO.lst [.int 0, .int 0, .int 50, .int 1000000000, .int (0 - 1000000000)]]
    have lC := dr.le
    generalize C ++ [AO.lst [.int 0, .int 0, .int 50, .int 1000000000, .int (0 - 1000000000)]] = C1 at *
    refine Sat.imp (pick_pos D1.src (n := 5) (by decide) (by decide)) fun d C2 ⟨⟨v, e, v0, v1⟩, D2⟩ => ?_
    subst e
    have hL := D2.keep _ _ (by omega) hL
    have ix : ∀ {x : Int}, ([.int 0, .int 0, .int 50, .int 1000000000, .int (0 - 1000000000)] : List D)[v.toNat]? = some (.int x) → ixD (.ref C.length) (.int v) C2 = .ok (.int x) C2 := fun {x} h => ev_ix_r (rdL_l hL) (by rw [atI_pos v0]; exact h)
    have cases5 : v = 0 ∨ v = 1 ∨ v = 2 ∨ v = 3 ∨ v = 4 := by omega
    rcases cases5 with rfl | rfl | rfl | rfl | rfl
    · simp only [EV, Ab.isNon, args, List.map, List.length_cons, List.length_nil, List.length_singleton, List.replicate, Nat.reduceSub, Nat.reduceAdd, Nat.zero_add, List.cons_append, List.nil_append, List.getElem?_cons_zero, List.getElem?_cons_succ, List.set_cons_zero, List.set_cons_succ, Option.some.injEq, decide_eq_true_eq, Bool.not_eq_true', decide_eq_false_iff_not, ite_true, ite_false, if_true, if_false, reduceIte, Bool.false_eq_true, Bool.not_true, Bool.not_false, Bool.true_eq_false, decide_true, decide_false, Nat.reduceLeDiff, Nat.reduceLT, ix (x := 0) rfl]; exact ⟨⟨_, rfl, by omega⟩, D1.trans D2⟩
    · simp only [EV, Ab.isNon, args, List.map, List.length_cons, List.length_nil, List.length_singleton, List.replicate, Nat.reduceSub, Nat.reduceAdd, Nat.zero_add, List.cons_append, List.nil_append, List.getElem?_cons_zero, List.getElem?_cons_succ, List.set_cons_zero, List.set_cons_succ, Option.some.injEq, decide_eq_true_eq, Bool.not_eq_true', decide_eq_false_iff_not, ite_true, ite_false, if_true, if_false, reduceIte, Bool.false_eq_true, Bool.not_true, Bool.not_false, Bool.true_eq_false, decide_true, decide_false, Nat.reduceLeDiff, Nat.reduceLT, ix (x := 0) rfl]; exact ⟨⟨_, rfl, by omega⟩, D1.trans D2⟩
    · simp only [EV, Ab.isNon, args, List.map, List.length_cons, List.length_nil, List.length_singleton, List.replicate, Nat.reduceSub, Nat.reduceAdd, Nat.zero_add, List.cons_append, List.nil_append, List.getElem?_cons_zero, List.getElem?_cons_succ, List.set_cons_zero, List.set_cons_succ, Option.some.injEq, decide_eq_true_eq, Bool.not_eq_true', decide_eq_false_iff_not, ite_true, ite_false, if_true, if_false, reduceIte, Bool.false_eq_true, Bool.not_true, Bool.not_false, Bool.true_eq_false, decide_true, decide_false, Nat.reduceLeDiff, Nat.reduceLT, ix (x := 50) rfl]; exact ⟨⟨_, rfl, by omega⟩, D1.trans D2⟩
    · simp only [EV, Ab.isNon, args, List.map, List.length_cons, List.length_nil, List.length_singleton, List.replicate, Nat.reduceSub, Nat.reduceAdd, Nat.zero_add, List.cons_append, List.nil_append, List.getElem?_cons_zero, List.getElem?_cons_succ, List.set_cons_zero, List.set_cons_succ, Option.some.injEq, decide_eq_true_eq, Bool.not_eq_true', decide_eq_false_iff_not, ite_true, ite_false, if_true, if_false, reduceIte, Bool.false_eq_true, Bool.not_true, Bool.not_false, Bool.true_eq_false, decide_true, decide_false, Nat.reduceLeDiff, Nat.reduceLT, ix (x := 1000000000) rfl]; exact ⟨⟨_, rfl, by omega⟩, D1.trans D2⟩
    · simp only [EV, Ab.isNon, args, List.map, List.length_cons, List.length_nil, List.length_singleton, List.replicate, Nat.reduceSub, Nat.reduceAdd, Nat.zero_add, List.cons_append, List.nil_append, List.getElem?_cons_zero, List.getElem?_cons_succ, List.set_cons_zero, List.set_cons_succ, Option.some.injEq, decide_eq_true_eq, Bool.not_eq_true', decide_eq_false_iff_not, ite_true, ite_false, if_true, if_false, reduceIte, Bool.false_eq_true, Bool.not_true, Bool.not_false, Bool.true_eq_false, decide_true, decide_false, Nat.reduceLeDiff, Nat.reduceLT, ix (x := 0 - 1000000000) rfl]; exact ⟨⟨_, rfl, by omega⟩, D1.trans D2⟩
  have ob : ∀ k, -1000000000 ≤ at0 o k ∧ at0 o k ≤ 1000000000 := at0_bd (by decide) ho
  have lA := dr.le
  have oL : A.length ≠ s := by omega
  obtain ⟨O, eO⟩ : ∃ O, A.length = O := ⟨_, rfl⟩
  rw [eO] at hO oL ⊢
  refine sat_seq ?_
  simp only [EV, Ab.isNon, args, List.map, List.length_cons, List.length_nil, List.length_singleton, List.replicate, Nat.reduceSub, Nat.reduceAdd, Nat.zero_add, List.cons_append, List.nil_append, List.getElem?_cons_zero, List.getElem?_cons_succ, List.set_cons_zero, List.set_cons_succ, Option.some.injEq, decide_eq_true_eq, Bool.not_eq_true', decide_eq_false_iff_not, ite_true, ite_false, if_true, if_false, reduceIte, Bool.false_eq_true, Bool.not_true, Bool.not_false, Bool.true_eq_false, decide_true, decide_false, Nat.reduceLeDiff, Nat.reduceLT]
  have pt : ∀ q : List Int, D.tup (q.map D.int) = ptD q := fun q => rfl
  split
  · simp only [EV, Ab.isNon, args, List.map, List.length_cons, List.length_nil, List.length_singleton, List.replicate, Nat.reduceSub, Nat.reduceAdd, Nat.zero_add, List.cons_append, List.nil_append, List.getElem?_cons_zero, List.getElem?_cons_succ, List.set_cons_zero, List.set_cons_succ, Option.some.injEq, decide_eq_true_eq, Bool.not_eq_true', decide_eq_false_iff_not, ite_true, ite_false, if_true, if_false, reduceIte, Bool.false_eq_true, Bool.not_true, Bool.not_false, Bool.true_eq_false, decide_true, decide_false, Nat.reduceLeDiff, Nat.reduceLT, ev_tup_ofL (rdL_l hO), ev_iseq_l hO, wipeA]
    have hX := hO
    refine comp_drawL D.int (fun v x => -1 ≤ x - v ∧ x - v ≤ 1) dr.src (fun E d => rdL_l (d.keep _ _ oL hO)) (fun v hv E d => ?_) (by omega) fun q E lq hq d hE => ?_
    · simp only [EV, Ab.isNon, args, List.map, List.length_cons, List.length_nil, List.length_singleton, List.replicate, Nat.reduceSub, Nat.reduceAdd, Nat.zero_add, List.cons_append, List.nil_append, List.getElem?_cons_zero, List.getElem?_cons_succ, List.set_cons_zero, List.set_cons_succ, Option.some.injEq, decide_eq_true_eq, Bool.not_eq_true', decide_eq_false_iff_not, ite_true, ite_false, if_true, if_false, reduceIte, Bool.false_eq_true, Bool.not_true, Bool.not_false, Bool.true_eq_false, decide_true, decide_false, Nat.reduceLeDiff, Nat.reduceLT]
      refine ⟨trivial, ?_⟩
      unfold DrwS
      simp only [EV, Ab.isNon, args, List.map, List.length_cons, List.length_nil, List.length_singleton, List.replicate, Nat.reduceSub, Nat.reduceAdd, Nat.zero_add, List.cons_append, List.nil_append, List.getElem?_cons_zero, List.getElem?_cons_succ, List.set_cons_zero, List.set_cons_succ, Option.some.injEq, decide_eq_true_eq, Bool.not_eq_true', decide_eq_false_iff_not, ite_true, ite_false, if_true, if_false, reduceIte, Bool.false_eq_true, Bool.not_true, Bool.not_false, Bool.true_eq_false, decide_true, decide_false, Nat.reduceLeDiff, Nat.reduceLT]
      refine Sat.imp (pick_pos d.src (n := 3) (by decide) (by decide)) fun y E2 ⟨⟨u, e, u0, u1⟩, D3⟩ => ?_
      subst e
      simp only [EV, Ab.isNon, args, List.map, List.length_cons, List.length_nil, List.length_singleton, List.replicate, Nat.reduceSub, Nat.reduceAdd, Nat.zero_add, List.cons_append, List.nil_append, List.getElem?_cons_zero, List.getElem?_cons_succ, List.set_cons_zero, List.set_cons_succ, Option.some.injEq, decide_eq_true_eq, Bool.not_eq_true', decide_eq_false_iff_not, ite_true, ite_false, if_true, if_false, reduceIte, Bool.false_eq_true, Bool.not_true, Bool.not_false, Bool.true_eq_false, decide_true, decide_false, Nat.reduceLeDiff, Nat.reduceLT]
      exact ⟨⟨_, rfl, by omega, by omega⟩, D3⟩
    · simp only [EV, Ab.isNon, args, List.map, List.length_cons, List.length_nil, List.length_singleton, List.replicate, Nat.reduceSub, Nat.reduceAdd, Nat.zero_add, List.cons_append, List.nil_append, List.getElem?_cons_zero, List.getElem?_cons_succ, List.set_cons_zero, List.set_cons_succ, Option.some.injEq, decide_eq_true_eq, Bool.not_eq_true', decide_eq_false_iff_not, ite_true, ite_false, if_true, if_false, reduceIte, Bool.false_eq_true, Bool.not_true, Bool.not_false, Bool.true_eq_false, decide_true, decide_false, Nat.reduceLeDiff, Nat.reduceLT, ev_tup_ofL (rdL_l hE)]
      have qk : ∀ k, -1 ≤ at0 q k - at0 o k ∧ at0 q k - at0 o k ≤ 1 := fun k => by
        cases k with
        | zero => rw [at0_z, at0_z]; omega
        | succ k =>
          rw [at0_s, at0_s, List.getD_eq_getElem?_getD, List.getD_eq_getElem?_getD]
          by_cases kl : k < o.length
          · have e1 := List.getElem?_eq_getElem kl
            have e2 := List.getElem?_eq_getElem (show k < q.length by omega)
            have := hq k _ _ e1 e2
            rw [e1, e2]
            exact this
          · rw [List.getElem?_eq_none (by omega), List.getElem?_eq_none (by omega)]
            show -1 ≤ (0 : Int) - 0 ∧ (0 : Int) - 0 ≤ 1
            omega
      refine ⟨dr.trans (d.trans (Dr.app d.src _)), E.length, [o, q], o, rfl, at_new, lo, ob, by simp, fun p hp => ?_, .inr ⟨q, rfl, qk⟩⟩
      rcases List.mem_cons.mp hp with rfl | hp
      · exact lo
      · rw [List.mem_singleton.mp hp]; omega
  · rename_i n3
    refine sat_seq ?_
    simp only [EV, Ab.isNon, args, List.map, List.length_cons, List.length_nil, List.length_singleton, List.replicate, Nat.reduceSub, Nat.reduceAdd, Nat.zero_add, List.cons_append, List.nil_append, List.getElem?_cons_zero, List.getElem?_cons_succ, List.set_cons_zero, List.set_cons_succ, Option.some.injEq, decide_eq_true_eq, Bool.not_eq_true', decide_eq_false_iff_not, ite_true, ite_false, if_true, if_false, reduceIte, Bool.false_eq_true, Bool.not_true, Bool.not_false, Bool.true_eq_false, decide_true, decide_false, Nat.reduceLeDiff, Nat.reduceLT]
    have hL := at_new (A := C) (o := .lst [])
    have D1 := dr.trans (Dr.app dr.src [AO.lst []])
    have hO := (Gr.app (B := [AO.lst []])).keep _ _ hO
    have OL : O ≠ C.length := by have := at_lt (show C[O]? = _ by assumption); omega
    generalize C ++ [AO.lst []] = C1 at *
    generalize C.length = L at *
    refine sat_seq ?_
    simp only [EV, Ab.isNon, args, List.map, List.length_cons, List.length_nil, List.length_singleton, List.replicate, Nat.reduceSub, Nat.reduceAdd, Nat.zero_add, List.cons_append, List.nil_append, List.getElem?_cons_zero, List.getElem?_cons_succ, List.set_cons_zero, List.set_cons_succ, Option.some.injEq, decide_eq_true_eq, Bool.not_eq_true', decide_eq_false_iff_not, ite_true, ite_false, if_true, if_false, reduceIte, Bool.false_eq_true, Bool.not_true, Bool.not_false, Bool.true_eq_false, decide_true, decide_false, Nat.reduceLeDiff, Nat.reduceLT]
    refine Sat.imp (pick_pos D1.src (n := ((n : Nat) : Int) + 2) (by omega) (by omega)) fun d C2 ⟨⟨v, e, v0, v1⟩, D2⟩ => ?_
    subst e
    have hL := D2.keep _ _ (by omega) hL
    have hO := D2.keep _ _ oL hO
    simp only [EV, Ab.isNon, args, List.map, List.length_cons, List.length_nil, List.length_singleton, List.replicate, Nat.reduceSub, Nat.reduceAdd, Nat.zero_add, List.cons_append, List.nil_append, List.getElem?_cons_zero, List.getElem?_cons_succ, List.set_cons_zero, List.set_cons_succ, Option.some.injEq, decide_eq_true_eq, Bool.not_eq_true', decide_eq_false_iff_not, ite_true, ite_false, if_true, if_false, reduceIte, Bool.false_eq_true, Bool.not_true, Bool.not_false, Bool.true_eq_false, decide_true, decide_false, Nat.reduceLeDiff, Nat.reduceLT]
    rw [if_pos (inRg_of (by omega) (by omega))]
    obtain ⟨m, hm, m1, m3⟩ : ∃ m : Nat, (1 + v).toNat = m ∧ 1 ≤ m ∧ m ≤ 6 := ⟨_, rfl, by omega, by omega⟩
    rw [hm]
    refine range_inv (fun k σ B => Dr s A B ∧ B[O]? = some (.lst (o.map D.int)) ∧ (∃ qs : List (List Int), B[L]? = some (.lst (qs.map ptD)) ∧ (∀ q ∈ qs, q.length = n ∧ ∀ k, -2 ≤ at0 q k - at0 o k ∧ at0 q k - at0 o k ≤ 2) ∧ qs.length = k) ∧ ∃ x3, σ = [some (.ref s), some (.int (n : Nat)), some (.ref O), x3, none, some (.ref L)])
      (fun k σ B hk ⟨DB, hO, ⟨qs, hL, ql, qk⟩, x3, hσ⟩ => ?_) (fun σ B ⟨DB, hO, ⟨qs, hL, ql, qk⟩, x3, hσ⟩ => ?_) ⟨D1.trans D2, hO, ⟨[], hL, by simp, rfl⟩, _, rfl⟩
    · subst hσ
      simp only [EV, Ab.isNon, args, List.map, List.length_cons, List.length_nil, List.length_singleton, List.replicate, Nat.reduceSub, Nat.reduceAdd, Nat.zero_add, List.cons_append, List.nil_append, List.getElem?_cons_zero, List.getElem?_cons_succ, List.set_cons_zero, List.set_cons_succ, Option.some.injEq, decide_eq_true_eq, Bool.not_eq_true', decide_eq_false_iff_not, ite_true, ite_false, if_true, if_false, reduceIte, Bool.false_eq_true, Bool.not_true, Bool.not_false, Bool.true_eq_false, decide_true, decide_false, Nat.reduceLeDiff, Nat.reduceLT, ty_l hL, ev_iseq_l hO, wipeA]
      refine comp_drawL D.int (fun v x => -2 ≤ x - v ∧ x - v ≤ 2) DB.src (fun E d => rdL_l (d.keep _ _ oL hO)) (fun v hv E d => ?_) (by omega) fun q E lq hq d hE => ?_
      · simp only [EV, Ab.isNon, args, List.map, List.length_cons, List.length_nil, List.length_singleton, List.replicate, Nat.reduceSub, Nat.reduceAdd, Nat.zero_add, List.cons_append, List.nil_append, List.getElem?_cons_zero, List.getElem?_cons_succ, List.set_cons_zero, List.set_cons_succ, Option.some.injEq, decide_eq_true_eq, Bool.not_eq_true', decide_eq_false_iff_not, ite_true, ite_false, if_true, if_false, reduceIte, Bool.false_eq_true, Bool.not_true, Bool.not_false, Bool.true_eq_false, decide_true, decide_false, Nat.reduceLeDiff, Nat.reduceLT]
        refine ⟨trivial, ?_⟩
        unfold DrwS
        simp only [EV, Ab.isNon, args, List.map, List.length_cons, List.length_nil, List.length_singleton, List.replicate, Nat.reduceSub, Nat.reduceAdd, Nat.zero_add, List.cons_append, List.nil_append, List.getElem?_cons_zero, List.getElem?_cons_succ, List.set_cons_zero, List.set_cons_succ, Option.some.injEq, decide_eq_true_eq, Bool.not_eq_true', decide_eq_false_iff_not, ite_true, ite_false, if_true, if_false, reduceIte, Bool.false_eq_true, Bool.not_true, Bool.not_false, Bool.true_eq_false, decide_true, decide_false, Nat.reduceLeDiff, Nat.reduceLT]
        refine Sat.imp (pick_pos d.src (n := 5) (by decide) (by decide)) fun y E2 ⟨⟨u, e, u0, u1⟩, D3⟩ => ?_
        subst e
        simp only [EV, Ab.isNon, args, List.map, List.length_cons, List.length_nil, List.length_singleton, List.replicate, Nat.reduceSub, Nat.reduceAdd, Nat.zero_add, List.cons_append, List.nil_append, List.getElem?_cons_zero, List.getElem?_cons_succ, List.set_cons_zero, List.set_cons_succ, Option.some.injEq, decide_eq_true_eq, Bool.not_eq_true', decide_eq_false_iff_not, ite_true, ite_false, if_true, if_false, reduceIte, Bool.false_eq_true, Bool.not_true, Bool.not_false, Bool.true_eq_false, decide_true, decide_false, Nat.reduceLeDiff, Nat.reduceLT]
        exact ⟨⟨_, rfl, by omega, by omega⟩, D3⟩
      · have qk2 : ∀ k, -2 ≤ at0 q k - at0 o k ∧ at0 q k - at0 o k ≤ 2 := fun k => by
          cases k with
          | zero => rw [at0_z, at0_z]; omega
          | succ k =>
            rw [at0_s, at0_s, List.getD_eq_getElem?_getD, List.getD_eq_getElem?_getD]
            by_cases kl : k < o.length
            · have e1 := List.getElem?_eq_getElem kl
              have e2 := List.getElem?_eq_getElem (show k < q.length by omega)
              have := hq k _ _ e1 e2
              rw [e1, e2]
              exact this
            · rw [List.getElem?_eq_none (by omega), List.getElem?_eq_none (by omega)]
              show -2 ≤ (0 : Int) - 0 ∧ (0 : Int) - 0 ≤ 2
              omega
        have lL : A.length ≤ L := by have := dr.le; omega
        have hL := d.keep _ _ (by omega) hL
        have hO := d.keep _ _ oL hO
        simp only [EV, Ab.isNon, args, List.map, List.length_cons, List.length_nil, List.length_singleton, List.replicate, Nat.reduceSub, Nat.reduceAdd, Nat.zero_add, List.cons_append, List.nil_append, List.getElem?_cons_zero, List.getElem?_cons_succ, List.set_cons_zero, List.set_cons_succ, Option.some.injEq, decide_eq_true_eq, Bool.not_eq_true', decide_eq_false_iff_not, ite_true, ite_false, if_true, if_false, reduceIte, Bool.false_eq_true, Bool.not_true, Bool.not_false, Bool.true_eq_false, decide_true, decide_false, Nat.reduceLeDiff, Nat.reduceLT, ev_tup_ofL (rdL_l hE)]
        rw [ev_app hL (by rw [List.length_map]; omega)]
        simp only [EV, Ab.isNon, args, List.map, List.length_cons, List.length_nil, List.length_singleton, List.replicate, Nat.reduceSub, Nat.reduceAdd, Nat.zero_add, List.cons_append, List.nil_append, List.getElem?_cons_zero, List.getElem?_cons_succ, List.set_cons_zero, List.set_cons_succ, Option.some.injEq, decide_eq_true_eq, Bool.not_eq_true', decide_eq_false_iff_not, ite_true, ite_false, if_true, if_false, reduceIte, Bool.false_eq_true, Bool.not_true, Bool.not_false, Bool.true_eq_false, decide_true, decide_false, Nat.reduceLeDiff, Nat.reduceLT, turn_]
        refine ⟨(DB.trans d).setN lL hs, by rw [List.getElem?_set_ne (Ne.symm OL)]; exact hO, ⟨qs ++ [q], by rw [at_set (at_lt hL), List.map_append]; rfl, fun x hx => ?_, by simp [qk]⟩, _, rfl⟩
        rcases List.mem_append.mp hx with h | h
        · exact ql x h
        · rw [List.mem_singleton.mp h]; exact ⟨by omega, qk2⟩
    · subst hσ
      simp only [EV, Ab.isNon, args, List.map, List.length_cons, List.length_nil, List.length_singleton, List.replicate, Nat.reduceSub, Nat.reduceAdd, Nat.zero_add, List.cons_append, List.nil_append, List.getElem?_cons_zero, List.getElem?_cons_succ, List.set_cons_zero, List.set_cons_succ, Option.some.injEq, decide_eq_true_eq, Bool.not_eq_true', decide_eq_false_iff_not, ite_true, ite_false, if_true, if_false, reduceIte, Bool.false_eq_true, Bool.not_true, Bool.not_false, Bool.true_eq_false, decide_true, decide_false, Nat.reduceLeDiff, Nat.reduceLT]
      exact ⟨DB, L, qs, o, rfl, hL, lo, ob, fun e => by rw [e] at qk; simp at qk; omega, fun p hp => (ql p hp).1, .inl ⟨by omega, by omega, fun p hp => (ql p hp).2⟩⟩
end Law

namespace Law
open PySem PySem.Spec PyProof.Rows L2 Ab
open scoped Classical
def fst0 (pr : List (Int × Int)) (i : Nat) : Int := (((0 : Int), (0 : Int)) :: pr).getD i (0, 0) |>.1
def snd0 (pr : List (Int × Int)) (i : Nat) : Int := (((0 : Int), (0 : Int)) :: pr).getD i (0, 0) |>.2
theorem full_ix {pr : List (Int × Int)} {i : Nat} (h : i < pr.length + 1) : (D.tup [.int 0, .int 0] :: pr.map prD)[i]? = some (.tup [.int (fst0 pr i), .int (snd0 pr i)]) := by
  rw [show D.tup [.int 0, .int 0] :: pr.map prD = (((0 : Int), (0 : Int)) :: pr).map prD from rfl, List.getElem?_map]
  unfold fst0 snd0
  have : i < (((0 : Int), (0 : Int)) :: pr).length := by simpa using h
  rw [List.getD_eq_getElem?_getD, List.getElem?_eq_getElem this]
  rfl
/-! ### all points of ranges -/
def Inr (pr : List (Int × Int)) (c : Nat) (p : List Int) : Prop := p.length = c ∧ ∀ k, k < c → fst0 pr (k + 1) ≤ at0 p (k + 1) ∧ at0 p (k + 1) ≤ snd0 pr (k + 1)
theorem inr_snoc {pr : List (Int × Int)} {c : Nat} {p : List Int} {v : Int} : Inr pr (c + 1) (p ++ [v]) ↔ Inr pr c p ∧ fst0 pr (c + 1) ≤ v ∧ v ≤ snd0 pr (c + 1) := by
  constructor
  · rintro ⟨h1, h2⟩
    rw [List.length_append, List.length_singleton] at h1
    have h1 : p.length = c := by omega
    subst h1
    refine ⟨⟨rfl, fun k hk => ?_⟩, ?_⟩
    · have := h2 k (by omega)
      rwa [at0_old (by omega)] at this
    · have := h2 p.length (by omega)
      rwa [at0_new] at this
  · rintro ⟨⟨h1, h2⟩, h3⟩
    subst h1
    refine ⟨by simp, fun k hk => ?_⟩
    by_cases e : k = p.length
    · subst e; rw [at0_new]; exact h3
    · rw [at0_old (by omega)]; exact h2 k (by omega)
theorem pow5 {c : Nat} (h : c ≤ 3) : 5 ^ c ≤ 125 := Nat.pow_le_pow_right (n := 5) (by decide) h
theorem grid_spec {A : AH} {r n : Nat} {pr : List (Int × Int)} (hn : pr.length = n) (h3 : n ≤ 3) (h : A[r]? = some (.lst (pr.map prD))) (ok : ∀ p ∈ pr, -900000000000000003 ≤ p.1 ∧ p.1 ≤ 900000000000000003 ∧ p.1 ≤ p.2 ∧ p.2 ≤ p.1 + 4) :
    Sat (m__law_grid [.ref r] A) fun d A' => Gr A A' ∧ ∃ (q : Nat) (ps : List (List Int)), d = .ref q ∧ A'[q]? = some (.lst (ps.map ptD)) ∧ ps.length ≤ 125 ∧ ∀ p, p ∈ ps ↔ Inr pr n p := by
  refine sat_body rfl (sat_seq ?_)
  simp only [EV, Ab.isNon, args, List.map, List.length_cons, List.length_nil, List.length_singleton, List.replicate, Nat.reduceSub, Nat.reduceAdd, Nat.zero_add, List.cons_append, List.nil_append, List.getElem?_cons_zero, List.getElem?_cons_succ, List.set_cons_zero, List.set_cons_succ, Option.some.injEq, decide_eq_true_eq, Bool.not_eq_true', decide_eq_false_iff_not, ite_true, ite_false, if_true, if_false, reduceIte, Bool.false_eq_true, Bool.not_true, Bool.not_false, Bool.true_eq_false, decide_true, decide_false, Nat.reduceLeDiff, Nat.reduceLT]
  refine sat_seq ?_
  have h1 := at_new (A := A) (o := .lst [.tup []])
  have G1 := Gr.app (A := A) (B := [AO.lst [.tup []]])
  have hr := G1.keep _ _ h
  simp only [EV, Ab.isNon, args, List.map, List.length_cons, List.length_nil, List.length_singleton, List.replicate, Nat.reduceSub, Nat.reduceAdd, Nat.zero_add, List.cons_append, List.nil_append, List.getElem?_cons_zero, List.getElem?_cons_succ, List.set_cons_zero, List.set_cons_succ, Option.some.injEq, decide_eq_true_eq, Bool.not_eq_true', decide_eq_false_iff_not, ite_true, ite_false, if_true, if_false, reduceIte, Bool.false_eq_true, Bool.not_true, Bool.not_false, Bool.true_eq_false, decide_true, decide_false, Nat.reduceLeDiff, Nat.reduceLT, ev_iseq_l hr]
  have start : ∀ p : List Int, p ∈ ([[]] : List (List Int)) ↔ Inr pr 0 p := fun p => by
    constructor
    · intro h
      cases List.mem_singleton.mp h
      exact ⟨rfl, fun k hk => by omega⟩
    · rintro ⟨h, _⟩
      exact List.mem_singleton.mpr (List.eq_nil_of_length_eq_zero h)
  refine loop_inv (fun es σ B => Gr A B ∧ ∃ (r1 : Nat) (ps : List (List Int)) (pre post : List (Int × Int)), B[r1]? = some (.lst (ps.map ptD)) ∧ pr = pre ++ post ∧ es = post.map prD ∧ ps.length ≤ 5 ^ pre.length ∧ (∀ p, p ∈ ps ↔ Inr pr pre.length p) ∧ ∃ x y z w, σ = [some (.ref r), some (.ref r1), x, y, z, w])
    (fun e es σ B ⟨G, r1, ps, pre, post, hr1, e1, e2, pl, pp, x, y, z, w, hσ⟩ => ⟨rdL_l (G.keep _ _ h), ?_⟩) (fun σ B ⟨G, r1, ps, pre, post, hr1, e1, e2, pl, pp, x, y, z, w, hσ⟩ => ⟨rdL_l (G.keep _ _ h), ?_⟩) _ _ _ ⟨G1, A.length, [[]], [], pr, h1, rfl, rfl, by simp, start, none, none, none, none, rfl⟩
  · subst hσ
    cases post with
    | nil => cases e2
    | cons pa post =>
      rw [List.map_cons, List.cons.injEq] at e2
      obtain ⟨e2, e3⟩ := e2
      subst e2; subst e3
      have okp := ok pa (by rw [e1]; simp)
      have ln := congrArg List.length e1
      rw [List.length_append, List.length_cons, hn] at ln
      have f1 : fst0 pr (pre.length + 1) = pa.1 := by
        unfold fst0
        rw [List.getD_eq_getElem?_getD, List.getElem?_cons_succ, e1, List.getElem?_append_right (Nat.le_refl _), Nat.sub_self]; rfl
      have s1 : snd0 pr (pre.length + 1) = pa.2 := by
        unfold snd0
        rw [List.getD_eq_getElem?_getD, List.getElem?_cons_succ, e1, List.getElem?_append_right (Nat.le_refl _), Nat.sub_self]; rfl
      have p4 := pow5 (c := pre.length) (by omega)
      simp only [EV, Ab.isNon, args, List.map, List.length_cons, List.length_nil, List.length_singleton, List.replicate, Nat.reduceSub, Nat.reduceAdd, Nat.zero_add, List.cons_append, List.nil_append, List.getElem?_cons_zero, List.getElem?_cons_succ, List.set_cons_zero, List.set_cons_succ, Option.some.injEq, decide_eq_true_eq, Bool.not_eq_true', decide_eq_false_iff_not, ite_true, ite_false, if_true, if_false, reduceIte, Bool.false_eq_true, Bool.not_true, Bool.not_false, Bool.true_eq_false, decide_true, decide_false, Nat.reduceLeDiff, Nat.reduceLT]
      refine sat_seq ?_
      simp only [EV, Ab.isNon, args, List.map, List.length_cons, List.length_nil, List.length_singleton, List.replicate, Nat.reduceSub, Nat.reduceAdd, Nat.zero_add, List.cons_append, List.nil_append, List.getElem?_cons_zero, List.getElem?_cons_succ, List.set_cons_zero, List.set_cons_succ, Option.some.injEq, decide_eq_true_eq, Bool.not_eq_true', decide_eq_false_iff_not, ite_true, ite_false, if_true, if_false, reduceIte, Bool.false_eq_true, Bool.not_true, Bool.not_false, Bool.true_eq_false, decide_true, decide_false, Nat.reduceLeDiff, Nat.reduceLT]
      refine sat_seq ?_
      have hL := at_new (A := B) (o := .lst [])
      have lA : A.length ≤ B.length := G.le
      have G := G.trans (Gr.app (B := [AO.lst []]))
      have nr : B.length ≠ r1 := by have := at_lt hr1; omega
      have hr1 := (Gr.app (B := [AO.lst []])).keep _ _ hr1
      simp only [EV, Ab.isNon, args, List.map, List.length_cons, List.length_nil, List.length_singleton, List.replicate, Nat.reduceSub, Nat.reduceAdd, Nat.zero_add, List.cons_append, List.nil_append, List.getElem?_cons_zero, List.getElem?_cons_succ, List.set_cons_zero, List.set_cons_succ, Option.some.injEq, decide_eq_true_eq, Bool.not_eq_true', decide_eq_false_iff_not, ite_true, ite_false, if_true, if_false, reduceIte, Bool.false_eq_true, Bool.not_true, Bool.not_false, Bool.true_eq_false, decide_true, decide_false, Nat.reduceLeDiff, Nat.reduceLT, ev_iseq_l hr1]
      generalize B ++ [AO.lst []] = B1 at hL hr1 G ⊢
      generalize B.length = q at hL nr lA ⊢
      refine loop_inv (fun es σ C => Gr A C ∧ C[r1]? = some (.lst (ps.map ptD)) ∧ (∃ pre' post' qs, ps = pre' ++ post' ∧ es = post'.map ptD ∧ C[q]? = some (.lst (qs.map ptD)) ∧ qs.length ≤ 5 * pre'.length ∧ (∀ p', p' ∈ qs ↔ ∃ p v, p' = p ++ [v] ∧ p ∈ pre' ∧ pa.1 ≤ v ∧ v ≤ pa.2)) ∧ ∃ z w, σ = [some (.ref r), some (.ref r1), some (prD pa), some (.ref q), z, w])
        (fun e es σ C ⟨G, hr1, ⟨pre', post', qs, e1', e2, hq, ql, qq⟩, z, w, hσ⟩ => ⟨rdL_l hr1, ?_⟩) (fun σ C ⟨G, hr1, ⟨pre', post', qs, e1', e2, hq, ql, qq⟩, z, w, hσ⟩ => ⟨rdL_l hr1, ?_⟩) _ _ _ ⟨G, hr1, ⟨[], ps, [], rfl, rfl, hL, by simp, fun p' => ⟨fun h => (by cases h), fun ⟨p, v, _, h, _⟩ => (by cases h)⟩⟩, _, _, rfl⟩
      · subst hσ
        cases post' with
        | nil => cases e2
        | cons p post' =>
          rw [List.map_cons, List.cons.injEq] at e2
          obtain ⟨e2, e3⟩ := e2
          subst e2; subst e3
          have fp := (pp p).mp (by rw [e1']; simp)
          have l1 := congrArg List.length e1'
          rw [List.length_append, List.length_cons] at l1
          have i0 : ∀ A, ixD (prD pa) (.int 0) A = .ok (.int pa.1) A := fun A => ev_ix_t (by rw [atI_pos (by decide)]; rfl)
          have i1 : ∀ A, ixD (prD pa) (.int 1) A = .ok (.int pa.2) A := fun A => ev_ix_t (by rw [atI_pos (by decide)]; rfl)
          simp only [EV, Ab.isNon, args, List.map, List.length_cons, List.length_nil, List.length_singleton, List.replicate, Nat.reduceSub, Nat.reduceAdd, Nat.zero_add, List.cons_append, List.nil_append, List.getElem?_cons_zero, List.getElem?_cons_succ, List.set_cons_zero, List.set_cons_succ, Option.some.injEq, decide_eq_true_eq, Bool.not_eq_true', decide_eq_false_iff_not, ite_true, ite_false, if_true, if_false, reduceIte, Bool.false_eq_true, Bool.not_true, Bool.not_false, Bool.true_eq_false, decide_true, decide_false, Nat.reduceLeDiff, Nat.reduceLT, i0, i1]
          rw [if_pos ⟨⟨by omega, by omega⟩, ⟨by omega, by omega⟩⟩]
          obtain ⟨w0, hw, hw2⟩ : ∃ w0 : Nat, (pa.2 + 1 - pa.1).toNat = w0 ∧ (w0 : Int) = pa.2 + 1 - pa.1 := ⟨_, rfl, by omega⟩
          rw [hw]
          refine range_inv (fun k σ E => Gr A E ∧ E[r1]? = some (.lst (ps.map ptD)) ∧ (∃ qs', E[q]? = some (.lst (qs'.map ptD)) ∧ qs'.length ≤ qs.length + k ∧ (∀ p', p' ∈ qs' ↔ p' ∈ qs ∨ ∃ v, p' = p ++ [v] ∧ pa.1 ≤ v ∧ v < pa.1 + (k : Nat))) ∧ ∃ w, σ = [some (.ref r), some (.ref r1), some (prD pa), some (.ref q), some (ptD p), w])
            (fun k σ E hk ⟨G, hr1, ⟨qs', hq, ql', qq'⟩, w, hσ⟩ => ?_) (fun σ E ⟨G, hr1, ⟨qs', hq, ql', qq'⟩, w, hσ⟩ => ?_) ⟨G, hr1, ⟨qs, hq, by omega, fun p' => ⟨.inl, fun h => h.elim id fun ⟨v, _, h1, h2⟩ => by omega⟩⟩, w, rfl⟩
          · subst hσ
            have z : (p.map D.int).length + [D.int (pa.1 + (k : Nat))].length ≤ sizeLine := sl_le (by simp; have := fp.1; omega)
            have a1 : addD (ptD p) (.tup [.int (pa.1 + (k : Nat))]) E = .ok (ptD (p ++ [pa.1 + (k : Nat)])) E := (ev_add_tt z).trans (by unfold ptD; rw [List.map_append]; rfl)
            simp only [EV, Ab.isNon, args, List.map, List.length_cons, List.length_nil, List.length_singleton, List.replicate, Nat.reduceSub, Nat.reduceAdd, Nat.zero_add, List.cons_append, List.nil_append, List.getElem?_cons_zero, List.getElem?_cons_succ, List.set_cons_zero, List.set_cons_succ, Option.some.injEq, decide_eq_true_eq, Bool.not_eq_true', decide_eq_false_iff_not, ite_true, ite_false, if_true, if_false, reduceIte, Bool.false_eq_true, Bool.not_true, Bool.not_false, Bool.true_eq_false, decide_true, decide_false, Nat.reduceLeDiff, Nat.reduceLT, ty_l hq, a1]
            rw [ev_app hq (by simp; omega)]
            simp only [EV, Ab.isNon, args, List.map, List.length_cons, List.length_nil, List.length_singleton, List.replicate, Nat.reduceSub, Nat.reduceAdd, Nat.zero_add, List.cons_append, List.nil_append, List.getElem?_cons_zero, List.getElem?_cons_succ, List.set_cons_zero, List.set_cons_succ, Option.some.injEq, decide_eq_true_eq, Bool.not_eq_true', decide_eq_false_iff_not, ite_true, ite_false, if_true, if_false, reduceIte, Bool.false_eq_true, Bool.not_true, Bool.not_false, Bool.true_eq_false, decide_true, decide_false, Nat.reduceLeDiff, Nat.reduceLT, turn_]
            refine ⟨G.set lA, by rw [List.getElem?_set_ne nr]; exact hr1, ⟨qs' ++ [p ++ [pa.1 + (k : Nat)]], by rw [at_set (at_lt hq), List.map_append]; rfl, by simp; omega, fun p' => ?_⟩, _, rfl⟩
            rw [List.mem_append, qq', List.mem_singleton]
            constructor
            · rintro ((h | ⟨v, e, h1, h2⟩) | h)
              · exact .inl h
              · exact .inr ⟨v, e, h1, by omega⟩
              · exact .inr ⟨_, h, by omega, by omega⟩
            · rintro (h | ⟨v, e, h1, h2⟩)
              · exact .inl (.inl h)
              · by_cases ev : v = pa.1 + (k : Nat)
                · exact .inr (by rw [e, ev])
                · exact .inl (.inr ⟨v, e, h1, by omega⟩)
          · subst hσ
            simp only [turn_]
            refine ⟨G, hr1, ⟨pre' ++ [p], post', qs', by rw [e1']; simp, rfl, hq, by simp; omega, fun p' => ?_⟩, _, _, rfl⟩
            rw [qq', qq]
            constructor
            · rintro (⟨p2, v, e, h1, h2⟩ | ⟨v, e, h1, h2⟩)
              · exact ⟨p2, v, e, List.mem_append_left _ h1, h2⟩
              · exact ⟨p, v, e, List.mem_append_right _ (List.mem_singleton.mpr rfl), h1, by omega⟩
            · rintro ⟨p2, v, e, h1, h2, h3⟩
              rcases List.mem_append.mp h1 with h | h
              · exact .inl ⟨p2, v, e, h, h2, h3⟩
              · cases List.mem_singleton.mp h
                exact .inr ⟨v, e, h2, by omega⟩
      · subst hσ
        cases post' with
        | cons p post' => cases e2
        | nil =>
          rw [List.append_nil] at e1'
          subst e1'
          simp only [EV, Ab.isNon, args, List.map, List.length_cons, List.length_nil, List.length_singleton, List.replicate, Nat.reduceSub, Nat.reduceAdd, Nat.zero_add, List.cons_append, List.nil_append, List.getElem?_cons_zero, List.getElem?_cons_succ, List.set_cons_zero, List.set_cons_succ, Option.some.injEq, decide_eq_true_eq, Bool.not_eq_true', decide_eq_false_iff_not, ite_true, ite_false, if_true, if_false, reduceIte, Bool.false_eq_true, Bool.not_true, Bool.not_false, Bool.true_eq_false, decide_true, decide_false, Nat.reduceLeDiff, Nat.reduceLT]
          rw [ev_lst_ofL (rdL_l hq)]
          simp only [EV, Ab.isNon, args, List.map, List.length_cons, List.length_nil, List.length_singleton, List.replicate, Nat.reduceSub, Nat.reduceAdd, Nat.zero_add, List.cons_append, List.nil_append, List.getElem?_cons_zero, List.getElem?_cons_succ, List.set_cons_zero, List.set_cons_succ, Option.some.injEq, decide_eq_true_eq, Bool.not_eq_true', decide_eq_false_iff_not, ite_true, ite_false, if_true, if_false, reduceIte, Bool.false_eq_true, Bool.not_true, Bool.not_false, Bool.true_eq_false, decide_true, decide_false, Nat.reduceLeDiff, Nat.reduceLT, turn_]
          refine ⟨G.trans .app, _, qs, pre ++ [pa], post, at_new, by rw [e1]; simp, rfl, ?_, fun p' => ?_, _, _, _, _, rfl⟩
          · rw [List.length_append, List.length_singleton, Nat.pow_succ]; omega
          · rw [qq, List.length_append, List.length_singleton]
            constructor
            · rintro ⟨p, v, e, h1, h2⟩
              rw [e]
              exact inr_snoc.mpr ⟨(pp p).mp h1, by rw [f1, s1]; exact h2⟩
            · intro h
              have l := h.1
              obtain ⟨p, v, rfl⟩ : ∃ p v, p' = p ++ [v] := by
                have : p' ≠ [] := fun e => by rw [e] at l; simp at l
                exact ⟨p'.dropLast, p'.getLast this, (List.dropLast_concat_getLast this).symm⟩
              obtain ⟨h1, h2⟩ := inr_snoc.mp h
              rw [f1, s1] at h2
              exact ⟨p, v, rfl, (pp p).mpr h1, h2⟩
  · subst hσ
    cases post with
    | cons p post => cases e2
    | nil =>
      rw [List.append_nil] at e1
      subst e1
      simp only [EV, Ab.isNon, args, List.map, List.length_cons, List.length_nil, List.length_singleton, List.replicate, Nat.reduceSub, Nat.reduceAdd, Nat.zero_add, List.cons_append, List.nil_append, List.getElem?_cons_zero, List.getElem?_cons_succ, List.set_cons_zero, List.set_cons_succ, Option.some.injEq, decide_eq_true_eq, Bool.not_eq_true', decide_eq_false_iff_not, ite_true, ite_false, if_true, if_false, reduceIte, Bool.false_eq_true, Bool.not_true, Bool.not_false, Bool.true_eq_false, decide_true, decide_false, Nat.reduceLeDiff, Nat.reduceLT]
      have := pow5 h3
      rw [hn] at pl pp
      exact ⟨G, r1, ps, rfl, hr1, by omega, pp⟩
end Law

namespace Law
open PySem PySem.Spec PyProof.Rows L2 Ab
open scoped Classical
/-! ### points moved in a column -/
theorem cut_hd {α : Type} {xs : List α} {k : Nat} : cutL xs none (some (k : Nat)) = xs.take k := by
  unfold cutL
  rw [HT.sIx_nat, HT.sIx_none, List.drop_zero, Nat.sub_zero]
  rcases Nat.le_total k xs.length with h | h
  · rw [Nat.min_eq_left h]
  · rw [Nat.min_eq_right h, List.take_of_length_le (Nat.le_refl _), List.take_of_length_le h]
theorem cut_tl {α : Type} {xs : List α} {k : Nat} : cutL xs (some (k : Nat)) none = xs.drop k := by
  unfold cutL
  rw [HT.sIx_nat, HT.sIx_none]
  rcases Nat.le_total k xs.length with h | h
  · rw [Nat.min_eq_left h, List.take_of_length_le (by rw [List.length_drop]; exact Nat.le_refl _)]
  · rw [Nat.min_eq_right h, List.drop_of_length_le h, List.drop_of_length_le (Nat.le_refl _)]; simp
theorem set_parts {p : List Int} {i : Nat} {v : Int} (i1 : 1 ≤ i) (i2 : i ≤ p.length) : p.take (i - 1) ++ [v] ++ p.drop i = p.set (i - 1) v := by
  rw [List.set_eq_take_append_cons_drop, if_pos (by omega), List.append_assoc, show i - 1 + 1 = i by omega]
  rfl
theorem put_pt {p : List Int} {n i : Nat} {v : Int} {A : AH} (pl : p.length = n) (n20 : n ≤ 20) (i1 : 1 ≤ i) (i2 : i ≤ n) :
    ∃ h t : D, slD (ptD p) none (some (((i : Nat) : Int) - 1)) A = .ok h A ∧ slD (ptD p) (some ((i : Nat) : Int)) none A = .ok t A ∧ ∀ A, ∃ x, addD h (.tup [.int v]) A = .ok x A ∧ addD x t A = .ok (ptD (p.set (i - 1) v)) A := by
  refine ⟨ptD (p.take (i - 1)), ptD (p.drop i), ?_, ?_, fun A => ⟨ptD (p.take (i - 1) ++ [v]), ?_, ?_⟩⟩
  · rw [show ((i : Nat) : Int) - 1 = ((i - 1 : Nat) : Int) by omega]
    show Res.ok (D.tup (cutL (p.map D.int) none _)) A = _
    rw [cut_hd, ← List.map_take]; rfl
  · show Res.ok (D.tup (cutL (p.map D.int) _ none)) A = _
    rw [cut_tl, ← List.map_drop]; rfl
  · have z : ((p.take (i - 1)).map D.int).length + [D.int v].length ≤ sizeLine := sl_le (by simp; omega)
    exact (ev_add_tt z).trans (by unfold ptD; rw [List.map_append]; rfl)
  · have z : ((p.take (i - 1) ++ [v]).map D.int).length + ((p.drop i).map D.int).length ≤ sizeLine := sl_le (by simp; omega)
    refine (ev_add_tt z).trans ?_
    unfold ptD
    rw [← List.map_append, set_parts i1 (by omega)]
theorem moved_spec {A : AH} {P n i : Nat} {l h : Int} {b : Bool} {ps : List (List Int)} (hP : A[P]? = some (.lst (ps.map ptD))) (len : ∀ p ∈ ps, p.length = n) (few : ps.length ≤ 5000) (n20 : n ≤ 20) (i1 : 1 ≤ i) (i2 : i ≤ n) (bl : -10000000000 ≤ l ∧ l ≤ 10000000000) (bh : h ≤ l + 4 ∧ l ≤ h + 4) :
    Sat (m__law_moved_points [.ref P, .int (i : Nat), .int l, .int h, .bl b] A) fun d B => Gr A B ∧ ∃ (q : Nat) (E : List (List Int)), d = .ref q ∧ A.length ≤ q ∧ B[q]? = some (.lst (E.map ptD)) ∧ E.length ≤ 5 * ps.length ∧ ∀ x, x ∈ E ↔ ∃ p ∈ ps, ∃ v, (l ≤ v ∧ v ≤ h) ∧ x = p.set (i - 1) (if b = true then v else at0 p i + v) := by
  refine sat_body rfl (sat_seq ?_)
  simp only [EV, Ab.isNon, args, List.map, List.length_cons, List.length_nil, List.length_singleton, List.replicate, Nat.reduceSub, Nat.reduceAdd, Nat.zero_add, List.cons_append, List.nil_append, List.getElem?_cons_zero, List.getElem?_cons_succ, List.set_cons_zero, List.set_cons_succ, Option.some.injEq, decide_eq_true_eq, Bool.not_eq_true', decide_eq_false_iff_not, ite_true, ite_false, if_true, if_false, reduceIte, Bool.false_eq_true, Bool.not_true, Bool.not_false, Bool.true_eq_false, decide_true, decide_false, Nat.reduceLeDiff, Nat.reduceLT]
  have hR := at_new (A := A) (o := .lst [])
  have g1 := Gr.app (A := A) (B := [AO.lst []])
  generalize A ++ [AO.lst []] = A1 at *
  obtain ⟨R, eR⟩ : ∃ R, A.length = R := ⟨_, rfl⟩
  rw [eR] at hR ⊢
  refine sat_seq ?_
  simp only [EV, Ab.isNon, args, List.map, List.length_cons, List.length_nil, List.length_singleton, List.replicate, Nat.reduceSub, Nat.reduceAdd, Nat.zero_add, List.cons_append, List.nil_append, List.getElem?_cons_zero, List.getElem?_cons_succ, List.set_cons_zero, List.set_cons_succ, Option.some.injEq, decide_eq_true_eq, Bool.not_eq_true', decide_eq_false_iff_not, ite_true, ite_false, if_true, if_false, reduceIte, Bool.false_eq_true, Bool.not_true, Bool.not_false, Bool.true_eq_false, decide_true, decide_false, Nat.reduceLeDiff, Nat.reduceLT, ev_iseq_l (g1.keep _ _ hP)]
  obtain ⟨W, hW, W5⟩ : ∃ W : Nat, (h + 1 - l).toNat = W ∧ W ≤ 5 := ⟨_, rfl, by omega⟩
  have Wv : ∀ v, (l ≤ v ∧ v ≤ h) ↔ ∃ k : Nat, k < W ∧ v = l + (k : Nat) := fun v => ⟨fun ⟨a, c⟩ => ⟨(v - l).toNat, by omega, by omega⟩, fun ⟨k, a, c⟩ => by omega⟩
  refine loop_inv (fun es σ C => Gr A C ∧ (∃ (pre post E : List (List Int)), ps = pre ++ post ∧ es = post.map ptD ∧ C[R]? = some (.lst (E.map ptD)) ∧ E.length ≤ 5 * pre.length ∧ ∀ x, x ∈ E ↔ ∃ p ∈ pre, ∃ v, (l ≤ v ∧ v ≤ h) ∧ x = p.set (i - 1) (if b = true then v else at0 p i + v)) ∧ ∃ x6 x7, σ = [some (.ref P), some (.int (i : Nat)), some (.int l), some (.int h), some (.bl b), some (.ref R), x6, x7])
    (fun e es σ C ⟨gC, ⟨pre, post, E, ep, ee, hR, le, mem⟩, x6, x7, hσ⟩ => ⟨rdL_l (gC.keep _ _ hP), ?_⟩) (fun σ C ⟨gC, ⟨pre, post, E, ep, ee, hR, le, mem⟩, x6, x7, hσ⟩ => ⟨rdL_l (gC.keep _ _ hP), ?_⟩) _ _ _ ⟨g1, ⟨[], ps, [], rfl, rfl, hR, Nat.zero_le _, by simp⟩, none, none, rfl⟩
  · subst hσ
    cases post with
    | nil => cases ee
    | cons p post =>
      rw [List.map_cons, List.cons.injEq] at ee
      obtain ⟨e1, e2⟩ := ee
      subst e1; subst e2
      have pl := len p (by rw [ep]; simp)
      have lp : pre.length + 1 ≤ 5000 := by have := congrArg List.length ep; rw [List.length_append, List.length_cons] at this; omega
      simp only [EV, Ab.isNon, args, List.map, List.length_cons, List.length_nil, List.length_singleton, List.replicate, Nat.reduceSub, Nat.reduceAdd, Nat.zero_add, List.cons_append, List.nil_append, List.getElem?_cons_zero, List.getElem?_cons_succ, List.set_cons_zero, List.set_cons_succ, Option.some.injEq, decide_eq_true_eq, Bool.not_eq_true', decide_eq_false_iff_not, ite_true, ite_false, if_true, if_false, reduceIte, Bool.false_eq_true, Bool.not_true, Bool.not_false, Bool.true_eq_false, decide_true, decide_false, Nat.reduceLeDiff, Nat.reduceLT]
      rw [if_pos ⟨inRg_of (by omega) (by omega), inRg_of (by omega) (by omega)⟩, hW]
      refine range_inv (fun k σ C => Gr A C ∧ (∃ E : List (List Int), C[R]? = some (.lst (E.map ptD)) ∧ E.length ≤ 5 * pre.length + k ∧ ∀ x, x ∈ E ↔ (∃ p ∈ pre, ∃ v, (l ≤ v ∧ v ≤ h) ∧ x = p.set (i - 1) (if b = true then v else at0 p i + v)) ∨ ∃ j : Nat, j < k ∧ x = p.set (i - 1) (if b = true then l + (j : Nat) else at0 p i + (l + (j : Nat)))) ∧ ∃ x7, σ = [some (.ref P), some (.int (i : Nat)), some (.int l), some (.int h), some (.bl b), some (.ref R), some (ptD p), x7])
        (fun k σ C hk ⟨gC, ⟨E, hR, le, mem⟩, x7, hσ⟩ => ?_) (fun σ C ⟨gC, ⟨E, hR, le, mem⟩, x7, hσ⟩ => ?_) ⟨gC, ⟨E, hR, by omega, fun x => (mem x).trans ⟨.inl, fun z => z.elim id fun ⟨j, hj, _⟩ => absurd hj (Nat.not_lt_zero _)⟩⟩, x7, rfl⟩
      · subst hσ
        have fin : ∀ {C : AH} {v : Int}, Gr A C → C[R]? = some (.lst (E.map ptD)) → v = (if b = true then l + (k : Nat) else at0 p i + (l + (k : Nat))) → Gr A (C.set R (.lst (E.map ptD ++ [ptD (p.set (i - 1) v)]))) ∧ (∃ E' : List (List Int), (C.set R (.lst (E.map ptD ++ [ptD (p.set (i - 1) v)])))[R]? = some (.lst (E'.map ptD)) ∧ E'.length ≤ 5 * pre.length + (k + 1) ∧ ∀ x, x ∈ E' ↔ (∃ p ∈ pre, ∃ v, (l ≤ v ∧ v ≤ h) ∧ x = p.set (i - 1) (if b = true then v else at0 p i + v)) ∨ ∃ j : Nat, j < k + 1 ∧ x = p.set (i - 1) (if b = true then l + (j : Nat) else at0 p i + (l + (j : Nat)))) ∧ ∃ x7, [some (.ref P), some (.int (i : Nat)), some (.int l), some (.int h), some (.bl b), some (.ref R), some (ptD p), some (.int (l + (k : Nat)))] = [some (.ref P), some (.int (i : Nat)), some (.int l), some (.int h), some (.bl b), some (.ref R), some (ptD p), x7] := fun {C v} gC hR ev => by
          refine ⟨gC.set (by omega), ⟨E ++ [p.set (i - 1) v], by rw [at_set (at_lt hR), List.map_append]; rfl, by simp; omega, fun x => ?_⟩, _, rfl⟩
          rw [List.mem_append, List.mem_singleton, mem]
          constructor
          · rintro ((h1 | ⟨j, hj, e⟩) | e)
            · exact .inl h1
            · exact .inr ⟨j, by omega, e⟩
            · exact .inr ⟨k, by omega, by rw [e, ev]⟩
          · rintro (h1 | ⟨j, hj, e⟩)
            · exact .inl (.inl h1)
            · by_cases q : j = k
              · subst q; exact .inr (by rw [e, ev])
              · exact .inl (.inr ⟨j, by omega, e⟩)
        have ixp : ∀ A, ixD (ptD p) (.int (((i : Nat) : Int) - 1)) A = .ok (.int (at0 p i)) A := fun A => by
          obtain ⟨m, rfl⟩ : ∃ m, i = m + 1 := ⟨i - 1, by omega⟩
          rw [show (((m + 1 : Nat) : Int) - 1) = ((m : Nat) : Int) by omega]
          exact ix_pt (by omega)
        cases b with
        | true =>
          obtain ⟨hd, tl, s1, s2, s3⟩ := put_pt (p := p) (v := l + (k : Nat)) (A := C) pl n20 i1 i2
          obtain ⟨x, a1, a2⟩ := s3 C
          simp only [EV, Ab.isNon, args, List.map, List.length_cons, List.length_nil, List.length_singleton, List.replicate, Nat.reduceSub, Nat.reduceAdd, Nat.zero_add, List.cons_append, List.nil_append, List.getElem?_cons_zero, List.getElem?_cons_succ, List.set_cons_zero, List.set_cons_succ, Option.some.injEq, decide_eq_true_eq, Bool.not_eq_true', decide_eq_false_iff_not, ite_true, ite_false, if_true, if_false, reduceIte, Bool.false_eq_true, Bool.not_true, Bool.not_false, Bool.true_eq_false, decide_true, decide_false, Nat.reduceLeDiff, Nat.reduceLT, ty_l hR, s1, s2, a1, a2]
          rw [ev_app hR (by rw [List.length_map]; omega)]
          simp only [EV, Ab.isNon, args, List.map, List.length_cons, List.length_nil, List.length_singleton, List.replicate, Nat.reduceSub, Nat.reduceAdd, Nat.zero_add, List.cons_append, List.nil_append, List.getElem?_cons_zero, List.getElem?_cons_succ, List.set_cons_zero, List.set_cons_succ, Option.some.injEq, decide_eq_true_eq, Bool.not_eq_true', decide_eq_false_iff_not, ite_true, ite_false, if_true, if_false, reduceIte, Bool.false_eq_true, Bool.not_true, Bool.not_false, Bool.true_eq_false, decide_true, decide_false, Nat.reduceLeDiff, Nat.reduceLT, turn_]
          exact fin gC hR (if_pos rfl).symm
        | false =>
          obtain ⟨hd, tl, s1, s2, s3⟩ := put_pt (p := p) (v := at0 p i + (l + (k : Nat))) (A := C) pl n20 i1 i2
          obtain ⟨x, a1, a2⟩ := s3 C
          simp only [EV, Ab.isNon, args, List.map, List.length_cons, List.length_nil, List.length_singleton, List.replicate, Nat.reduceSub, Nat.reduceAdd, Nat.zero_add, List.cons_append, List.nil_append, List.getElem?_cons_zero, List.getElem?_cons_succ, List.set_cons_zero, List.set_cons_succ, Option.some.injEq, decide_eq_true_eq, Bool.not_eq_true', decide_eq_false_iff_not, ite_true, ite_false, if_true, if_false, reduceIte, Bool.false_eq_true, Bool.not_true, Bool.not_false, Bool.true_eq_false, decide_true, decide_false, Nat.reduceLeDiff, Nat.reduceLT, ty_l hR, s1, s2, ixp, a1, a2]
          rw [ev_app hR (by rw [List.length_map]; omega)]
          simp only [EV, Ab.isNon, args, List.map, List.length_cons, List.length_nil, List.length_singleton, List.replicate, Nat.reduceSub, Nat.reduceAdd, Nat.zero_add, List.cons_append, List.nil_append, List.getElem?_cons_zero, List.getElem?_cons_succ, List.set_cons_zero, List.set_cons_succ, Option.some.injEq, decide_eq_true_eq, Bool.not_eq_true', decide_eq_false_iff_not, ite_true, ite_false, if_true, if_false, reduceIte, Bool.false_eq_true, Bool.not_true, Bool.not_false, Bool.true_eq_false, decide_true, decide_false, Nat.reduceLeDiff, Nat.reduceLT, turn_]
          exact fin gC hR (if_neg (by simp)).symm
      · subst hσ
        simp only [EV, Ab.isNon, args, List.map, List.length_cons, List.length_nil, List.length_singleton, List.replicate, Nat.reduceSub, Nat.reduceAdd, Nat.zero_add, List.cons_append, List.nil_append, List.getElem?_cons_zero, List.getElem?_cons_succ, List.set_cons_zero, List.set_cons_succ, Option.some.injEq, decide_eq_true_eq, Bool.not_eq_true', decide_eq_false_iff_not, ite_true, ite_false, if_true, if_false, reduceIte, Bool.false_eq_true, Bool.not_true, Bool.not_false, Bool.true_eq_false, decide_true, decide_false, Nat.reduceLeDiff, Nat.reduceLT, turn_]
        refine ⟨gC, ⟨pre ++ [p], post, E, by rw [ep]; simp, rfl, hR, by simp; omega, fun x => ?_⟩, _, _, rfl⟩
        rw [mem]
        constructor
        · rintro (⟨p', hp', z⟩ | ⟨j, hj, e⟩)
          · exact ⟨p', List.mem_append_left _ hp', z⟩
          · exact ⟨p, List.mem_append_right _ (List.mem_singleton.mpr rfl), l + (j : Nat), (Wv _).mpr ⟨j, hj, rfl⟩, e⟩
        · rintro ⟨p', hp', v, hv, e⟩
          rcases List.mem_append.mp hp' with z | z
          · exact .inl ⟨p', z, v, hv, e⟩
          · rw [List.mem_singleton.mp z] at e
            obtain ⟨j, hj, ej⟩ := (Wv v).mp hv
            exact .inr ⟨j, hj, by rw [e, ej]⟩
  · have pz : post = [] := by cases post with | nil => rfl | cons a p => cases ee
    subst pz
    rw [List.append_nil] at ep
    subst ep
    subst hσ
    simp only [EV, Ab.isNon, args, List.map, List.length_cons, List.length_nil, List.length_singleton, List.replicate, Nat.reduceSub, Nat.reduceAdd, Nat.zero_add, List.cons_append, List.nil_append, List.getElem?_cons_zero, List.getElem?_cons_succ, List.set_cons_zero, List.set_cons_succ, Option.some.injEq, decide_eq_true_eq, Bool.not_eq_true', decide_eq_false_iff_not, ite_true, ite_false, if_true, if_false, reduceIte, Bool.false_eq_true, Bool.not_true, Bool.not_false, Bool.true_eq_false, decide_true, decide_false, Nat.reduceLeDiff, Nat.reduceLT]
    exact ⟨gC, R, E, rfl, by omega, hR, le, mem⟩
/-! ### few enough -/
theorem few_spec {A : AH} {r n : Nat} {xs : List D} (h : A[r]? = some (.lst xs)) (few : xs.length ≤ 700000) (n25 : n ≤ 100) : m__law_few [.ref r, .int (n : Nat)] A = .ok (.bl (decide (xs.length * (n + 1) * (n + 1) ≤ 3000))) A := by
  have key : Sat (m__law_few [.ref r, .int (n : Nat)] A) fun d A' => d = .bl (decide (xs.length * (n + 1) * (n + 1) ≤ 3000)) ∧ A' = A := by
    refine sat_body rfl ?_
    unfold p__law_few
    have ln : lenD [.ref r] A = .ok (.int ((xs.length : Nat) : Int)) A := ev_len_r (rdL_l h)
    have m1 : mulOk ((xs.length : Nat) : Int) (((n : Nat) : Int) + 1) := mulOk_r (by omega) (by omega)
    have m2 : mulOk (((xs.length : Nat) : Int) * (((n : Nat) : Int) + 1)) (((n : Nat) : Int) + 1) := mulOk_r (by omega) (by omega)
    simp only [EV, Ab.isNon, args, List.map, List.length_cons, List.length_nil, List.length_singleton, List.replicate, Nat.reduceSub, Nat.reduceAdd, Nat.zero_add, List.cons_append, List.nil_append, List.getElem?_cons_zero, List.getElem?_cons_succ, List.set_cons_zero, List.set_cons_succ, Option.some.injEq, decide_eq_true_eq, Bool.not_eq_true', decide_eq_false_iff_not, ite_true, ite_false, if_true, if_false, reduceIte, Bool.false_eq_true, Bool.not_true, Bool.not_false, Bool.true_eq_false, decide_true, decide_false, Nat.reduceLeDiff, Nat.reduceLT, ln, ev_mul m1, ev_mul m2]
    refine ⟨?_, by first | trivial | rfl⟩
    congr 1
    rw [Bool.eq_iff_iff, decide_eq_true_iff, decide_eq_true_iff]
    have e : ((xs.length : Nat) : Int) * (((n : Nat) : Int) + 1) * (((n : Nat) : Int) + 1) = ((xs.length * (n + 1) * (n + 1) : Nat) : Int) := by
      rw [Int.natCast_mul, Int.natCast_mul]; simp
    rw [e]
    omega
  obtain ⟨d, A', e, rfl, rfl⟩ := key.eq
  exact e
end Law

namespace Law
open PySem PySem.Spec PyProof.Rows L2 Ab
open scoped Classical
/-! ### dicts, texts in lists -/
theorem ixa {d : D} {ds : List D} {A : AH} : ixD (.tup (d :: ds)) (.int 0) A = .ok d A := ev_ix_t (by rw [atI_pos (by decide)]; rfl)
theorem ixb {d e : D} {ds : List D} {A : AH} : ixD (.tup (d :: e :: ds)) (.int 1) A = .ok e A := ev_ix_t (by rw [atI_pos (by decide)]; rfl)
theorem ixc {d e f : D} {ds : List D} {A : AH} : ixD (.tup (d :: e :: f :: ds)) (.int 2) A = .ok f A := ev_ix_t (by rw [atI_pos (by decide)]; rfl)
theorem ixk {w : Nat} {x : Str} {v : D} {kvs : List (Key × D)} {A : AH} (h : A[w]? = some (.dic kvs)) (g : getK kvs (.inr x) = some v) : ixD (.ref w) (.str x) A = .ok v A := by
  show (match rdK A (.ref w) with
    | some kvs => (match getK kvs (.inr x) with | some v => Res.ok v A | none => .bad)
    | none => .bad) = _
  rw [show rdK A (.ref w) = some kvs by simp only [rdK, h]]
  simp only [g]
theorem eq_sc {d e : D} {b : Bool} {A : AH} (h : scalD d e = some b) : eqD d e A = .ok (.bl b) A := by
  unfold eqD eqB; rw [h]; rfl
theorem ne_sc {d e : D} {b : Bool} {A : AH} (h : scalD d e = some b) : neD d e A = .ok (.bl (!b)) A := by
  unfold neD eqB; rw [h]; rfl
theorem toVs_str : ∀ xs : List Str, toVs (xs.map D.str) = some (xs.map V.str)
  | [] => rfl
  | x :: xs => by simp only [List.map_cons, toVs, toV, toVs_str xs]
theorem in_lst {r : Nat} {xs : List Str} {x : Str} {A : AH} (h : A[r]? = some (.lst (xs.map D.str))) : inD (.str x) (.ref r) A = .ok (.bl (xs.any fun y => y == x)) A := by
  have k : rdK A (.ref r) = none := by simp only [rdK, h]
  have s : rdS A (.ref r) = some (xs.map D.str) := rdL_l h
  have e : inB (.str x) (.ref r) A = some (inV (.str x) (xs.map V.str)) := by simp only [inB, k, s, toVs_str, toV]
  have z : inV (.str x) (xs.map V.str) = xs.any fun y => y == x := by unfold inV; rw [List.any_map]; rfl
  unfold inD; rw [e, z]; rfl
theorem first_str {x : Str} : ∀ {xs : List Str} {j : Nat} {k : Nat}, xs[j]? = some x → xs.Nodup → firstV (.str x) (xs.map V.str) k = some (k + j)
  | [], j, k, h, _ => by cases h
  | y :: xs, 0, k, h, _ => by
    cases h
    show (if eqV (.str x) (.str x) = true then some k else _) = _
    rw [if_pos (by show (x == x) = true; simp)]; rfl
  | y :: xs, j + 1, k, h, nd => by
    have h : xs[j]? = some x := h
    have ne : ¬ y = x := fun e => (List.nodup_cons.mp nd).1 (by rw [e]; exact List.mem_of_getElem? h)
    show (if eqV (.str y) (.str x) = true then some k else firstV (.str x) (xs.map V.str) (k + 1)) = _
    rw [if_neg (by show ¬ (y == x) = true; simpa using ne), first_str h (List.nodup_cons.mp nd).2]
    congr 1; omega
theorem index_lst {r j : Nat} {xs : List Str} {x : Str} {A : AH} (h : A[r]? = some (.lst (xs.map D.str))) (hx : xs[j]? = some x) (nd : xs.Nodup) : indexD (.ref r) [.str x] A = .ok (.int (j : Nat)) A := by
  show (match rdL A (.ref r) with
    | some xs => (match toV (.str x), toVs xs with
      | some v, some vs => (match firstV v vs 0 with
        | some j => Res.ok (D.int (j : Nat)) A
        | none => .bad)
      | _, _ => .bad)
    | none => .bad) = _
  rw [rdL_l h]
  simp only [toVs_str, toV, first_str hx nd, Nat.zero_add]
theorem getK_set (kvs : List (Key × D)) (k k' : Key) (v : D) : getK (setK kvs k v) k' = if k' = k then some v else getK kvs k' := by
  have e1 : ∀ (kvs : List (Key × D)), getK kvs k' = match kvs with | [] => none | p :: r => if p.1 = k' then some p.2 else getK r k' := fun kvs => by
    cases kvs with
    | nil => rfl
    | cons p r => by_cases h : p.1 = k' <;> simp [getK, List.find?_cons, h]
  have any : ∀ kvs : List (Key × D), (kvs.any fun kv => decide (kv.1 = k)) = false → getK (kvs ++ [(k, v)]) k' = if k' = k then some v else getK kvs k' := by
    intro kvs
    induction kvs with
    | nil => intro _; by_cases h : k' = k <;> simp [getK, List.find?_cons, h, Eq.comm]
    | cons p r ih =>
      intro ha
      rw [List.any_cons, Bool.or_eq_false_iff] at ha
      rw [List.cons_append, e1 (p :: (r ++ [(k, v)])), e1 (p :: r)]
      simp only
      rw [ih ha.2]
      by_cases h : p.1 = k'
      · have : ¬ k' = k := fun q => by simpa [h, q] using ha.1
        rw [if_pos h, if_neg this, if_pos h]
      · rw [if_neg h, if_neg h]
  have map : ∀ kvs : List (Key × D), getK (kvs.map fun kv => if kv.1 = k then (kv.1, v) else kv) k' = if k' = k then (if (kvs.any fun kv => decide (kv.1 = k)) = true then some v else none) else getK kvs k' := by
    intro kvs
    induction kvs with
    | nil => by_cases h : k' = k <;> simp [getK, h]
    | cons p r ih =>
      rw [List.map_cons, e1 ((if p.1 = k then (p.1, v) else p) :: _), e1 (p :: r)]
      simp only
      rw [ih, List.any_cons]
      by_cases h : p.1 = k
      · rw [if_pos h]
        by_cases h2 : k' = k
        · simp [h, h2]
        · simp only [h2, if_false]
          rw [if_neg (by rw [h]; exact fun q => h2 q.symm), if_neg (by rw [h]; exact fun q => h2 q.symm)]
      · rw [if_neg h]
        by_cases h2 : k' = k
        · simp only [h2, h, if_true, if_false, decide_false, Bool.false_or]
        · simp only [h2, if_false]
  unfold setK
  by_cases h : (kvs.any fun kv => decide (kv.1 = k)) = true
  · rw [if_pos h, map, if_pos h]
  · rw [if_neg h]; exact any kvs (Bool.eq_false_iff.mpr h)
theorem keys_set (kvs : List (Key × D)) (k : Key) (v : D) : (setK kvs k v).map (·.1) = if k ∈ kvs.map (·.1) then kvs.map (·.1) else kvs.map (·.1) ++ [k] := by
  have e : (kvs.any fun kv => decide (kv.1 = k)) = true ↔ k ∈ kvs.map (·.1) := by
    rw [List.any_eq_true, List.mem_map]
    exact ⟨fun ⟨p, hp, h⟩ => ⟨p, hp, of_decide_eq_true h⟩, fun ⟨p, hp, h⟩ => ⟨p, hp, decide_eq_true h⟩⟩
  unfold setK
  by_cases h : (kvs.any fun kv => decide (kv.1 = k)) = true
  · rw [if_pos h, if_pos (e.mp h), List.map_map]
    apply List.map_congr_left
    intro p _
    by_cases q : p.1 = k <;> simp [q]
  · rw [if_neg h, if_neg fun q => h (e.mpr q)]; simp
theorem mem_set {kvs : List (Key × D)} {k : Key} {v : D} {p : Key × D} (h : p ∈ setK kvs k v) : p ∈ kvs ∨ p.2 = v := by
  unfold setK at h
  split at h
  · obtain ⟨q, hq, e⟩ := List.mem_map.mp h
    split at e
    · exact .inr (by rw [← e])
    · exact .inl (by rw [← e]; exact hq)
  · rcases List.mem_append.mp h with h | h
    · exact .inl h
    · cases List.mem_singleton.mp h; exact .inr rfl
structure Dk (kvs : List (Key × D)) (ks : List Key) : Prop where
  keys : kvs.map (·.1) = ks
  nd : ks.Nodup
  pl : ∀ p ∈ kvs, ∃ v, toV p.2 = some v
noncomputable def addKey (ks : List Key) (x : Str) : List Key := if (Sum.inr x : Key) ∈ ks then ks else ks ++ [.inr x]
theorem Dk.set {kvs : List (Key × D)} {ks : List Key} (h : Dk kvs ks) {x : Str} {d : D} {v : V} (hv : toV d = some v) : Dk (setK kvs (.inr x) d) (addKey ks x) := by
  refine ⟨by rw [keys_set, h.keys]; rfl, ?_, fun p hp => ?_⟩
  · unfold addKey
    split
    · exact h.nd
    · rename_i q
      rw [List.nodup_append]
      exact ⟨h.nd, by simp, fun a ha b hb => by cases List.mem_singleton.mp hb; exact fun e => q (e ▸ ha)⟩
  · rcases mem_set hp with q | q
    · exact h.pl p q
    · exact ⟨v, by rw [q]; exact hv⟩
theorem Dk.get {kvs : List (Key × D)} {ks : List Key} (h : Dk kvs ks) : ∀ p ∈ kvs, getK kvs p.1 = some p.2 := by
  have nd : (kvs.map (·.1)).Nodup := by rw [h.keys]; exact h.nd
  clear h
  induction kvs with
  | nil => intro p hp; cases hp
  | cons q r ih =>
    intro p hp
    rw [List.map_cons, List.nodup_cons] at nd
    rcases List.mem_cons.mp hp with e | e
    · subst e; simp [getK, List.find?_cons]
    · have : ¬ q.1 = p.1 := fun z => nd.1 (by rw [z]; exact List.mem_map.mpr ⟨p, e, rfl⟩)
      have := ih nd.2 p e
      simp [getK, List.find?_cons, *] at this ⊢
      assumption
theorem Dk.alike {kvs : List (Key × D)} {ks : List Key} (h : Dk kvs ks) : alike kvs kvs := ⟨rfl, fun p hp => by
  obtain ⟨v, hv⟩ := h.pl p hp
  exact ⟨v, hv, p.2, h.get p hp, hv⟩⟩
theorem str_len (x y : Str) : (x ++ y).length = x.length + y.length := by
  show (x.cps ++ y.cps).size = x.cps.size + y.cps.size
  simp
theorem num_len {i : Int} (h : i.natAbs < 10 ^ 12) : (Str.ofString (toString i)).length ≤ 13 := by
  rw [PySem.ofString_length]
  exact int_text_length_le10 (k := 12) (by decide) h
theorem num_log {i : Int} (h : i.natAbs < 10 ^ 12) : i.natAbs.log2 < 1920 := by
  by_cases e : i.natAbs = 0
  · rw [e]; decide
  · refine (Nat.log2_lt e).mpr (Nat.lt_trans h ?_)
    exact Nat.lt_of_lt_of_le (show 10 ^ 12 < 2 ^ 50 by decide) (Nat.pow_le_pow_right (by decide) (by decide))
theorem ev_str_i {i : Int} {A : AH} (z : i.natAbs < 10 ^ 12) : strD [.int i] A = .ok (.str (toString i)) A := if_pos (num_log z)
theorem add_ss {x y : Str} {A : AH} (z : (x ++ y).length ≤ 1000000) : addD (.str x) (.str y) A = .ok (.str (x ++ y)) A := ev_add_ss (by rw [str_len] at z; exact Nat.le_trans z (by decide))
theorem st_k {n : Nat} {kvs : List (Key × D)} {x : Str} {v : D} {A : AH} (h : A[n]? = some (.dic kvs)) (z : kvs.length < 1000000) : stD (.ref n) (.str x) v A = .ok () (A.set n (.dic (setK kvs (.inr x) v))) := by
  show (match A[n]? with
    | some (.lst xs) => _
    | some (.dic kvs) => (match keyOf (.str x) with
      | some k => if kvs.length < sizeLine then Res.ok () (A.set n (.dic (setK kvs k v))) else .bad
      | none => .bad)
    | _ => _) = _
  rw [h]
  exact if_pos (Nat.lt_of_lt_of_le z (by decide))
theorem Dk.len {kvs : List (Key × D)} {ks : List Key} (h : Dk kvs ks) : kvs.length = ks.length := by rw [← h.keys, List.length_map]
theorem nd_at {ns : List Str} {x : Str} {i j : Nat} (nd : ns.Nodup) (hi : ns[i]? = some x) (hj : ns[j]? = some x) : i = j := by
  have h := (first_str (k := 0) hi nd).symm.trans (first_str (k := 0) hj nd)
  have := Option.some.inj h
  omega
theorem rdM_d {r : Nat} {kvs : List (Key × D)} {A : AH} (h : A[r]? = some (.dic kvs)) : rdM A (.ref r) = some kvs := by simp only [rdM, h]
theorem rdK_d {r : Nat} {kvs : List (Key × D)} {A : AH} (h : A[r]? = some (.dic kvs)) : rdK A (.ref r) = some kvs := by simp only [rdK, h]
theorem dic_of {p : Nat} {ks : List (Key × D)} {A : AH} (hp : A[p]? = some (.dic ks)) : dicOf [.ref p] A = .ok (.ref A.length) (A ++ [.dic ks]) := by
  show (match rdM A (.ref p) with
    | some kvs => Ab.alloc (.dic kvs) A
    | none => .bad) = _
  rw [rdM_d hp]; rfl
theorem cell0 {A : AH} {ns : List Int} {k : Int} (h : A[0]? = some (.frz (ns.map D.int))) (hl : ns.length ≤ 63) (h0 : 0 ≤ k) : ∃ v, m__law_cell [.ref 0, .int k] A = .ok (.int v) A := by
  obtain ⟨v, e⟩ := cell_spec (k := k.toNat) h hl
  exact ⟨v, by rw [Int.toNat_of_nonneg h0] at e; exact e⟩
theorem src_new {A : AH} {v : Int} : Sr A.length (A ++ [.lst [.int v, .int v, .int 0]]) := ⟨v, v, 0, at_new⟩
end Law

namespace Law
open PySem PySem.Spec PyProof.Rows L2 Ab
open scoped Classical
/-- all cells but two are as they were -/
structure Dw (s w : Nat) (A A' : AH) : Prop where
  le : A.length ≤ A'.length
  keep : ∀ i o, i ≠ s → i ≠ w → A[i]? = some o → A'[i]? = some o
section
variable {s w : Nat} {A B C : AH}
theorem Dw.refl : Dw s w A A := ⟨Nat.le_refl _, fun _ _ _ _ h => h⟩
theorem Dw.trans (h : Dw s w A B) (h' : Dw s w B C) : Dw s w A C := ⟨Nat.le_trans h.le h'.le, fun i o a b e => h'.keep i o a b (h.keep i o a b e)⟩
theorem dr_dw (h : Dr s A B) : Dw s w A B := ⟨h.le, fun i o a _ e => h.keep i o a e⟩
theorem gr_dw (h : Gr A B) : Dw s w A B := ⟨h.le, fun i o _ _ e => h.keep i o e⟩
theorem Dw.set (h : Dw s w A B) {o : AO} : Dw s w A (B.set w o) := ⟨by simpa using h.le, fun i o' a b e => by rw [List.getElem?_set_ne (Ne.symm b)]; exact h.keep i o' a b e⟩
end
/-- displays with a test, whose items and tests only add cells -/
theorem comp_fgr {α : Type} (c F : α → D) (b : α → Bool) {ok : AH → Prop} {g : FG} {t : FT} {f : FE} {σ : ASt} {A : AH} {P : D → AH → Prop} {qs : List α} (hok : ∀ C, Gr A C → ok C)
    (hf : ∀ a ∈ qs, ∀ C, Gr A C → Sat (g (c a) σ C) fun s1 A1 => A1 = C ∧ Sat (t s1 C) fun bb A2 => bb = b a ∧ Gr C A2 ∧ Sat (f s1 A2) fun d A3 => A3 = A2 ∧ d = F a) (hn : qs.length ≤ 100000)
    (hP : ∀ C, Gr A C → C[A.length]? = some (.lst ((qs.filter b).map F)) → P (.ref A.length) C) : Sat (loopC ok g t f A.length σ (qs.map c) (A ++ [.lst []])) P := by
  refine comp_inv (fun rest acc C => ∃ pre post, qs = pre ++ post ∧ rest = post.map c ∧ acc = (pre.filter b).map F ∧ Gr A C ∧ C[A.length]? = some (.lst acc)) (fun d rest acc C ⟨pre, post, e1, e2, e3, G, hC⟩ => ⟨hok C G, ?_⟩) (fun acc C ⟨pre, post, e1, e2, e3, G, hC⟩ => ⟨hok C G, ?_⟩) _ [] _ ⟨[], qs, rfl, rfl, rfl, .app, at_new⟩
  · cases post with
    | nil => cases e2
    | cons a post =>
      rw [List.map_cons, List.cons.injEq] at e2
      obtain ⟨e4, e5⟩ := e2
      subst e4
      have ln : pre.length + (post.length + 1) = qs.length := by rw [e1]; simp
      refine Sat.imp (hf a (by rw [e1]; simp) C G) fun s1 A1 ⟨e6, h⟩ => ?_
      subst e6
      refine Sat.imp h fun bb A2 ⟨e7, G2, h2⟩ => ?_
      subst e7
      have hC := G2.keep _ _ hC
      cases q : b a with
      | true =>
        simp only [if_true]
        refine Sat.imp h2 fun d A3 ⟨e8, e9⟩ => ?_
        subst e8; subst e9
        have fl := List.length_filter_le b pre
        exact ⟨hC, by rw [e3, List.length_map]; exact Nat.lt_of_lt_of_le (show (pre.filter b).length < 1000000 by omega) (by decide), pre ++ [a], post, by rw [e1]; simp, e5, by rw [e3, List.filter_append, List.map_append, List.filter_cons, q]; rfl, (G.trans G2).set (Nat.le_refl _), at_set (at_lt hC)⟩
      | false =>
        simp only [Bool.false_eq_true, if_false]
        exact ⟨pre ++ [a], post, by rw [e1]; simp, e5, by rw [e3, List.filter_append, List.filter_cons, q]; simp, G.trans G2, hC⟩
  · cases post with
    | cons a post => cases e2
    | nil =>
      rw [List.append_nil] at e1
      subst e1
      exact hP C G (by rw [hC, e3])
/-! ### the state -/
def stK (P n : Nat) (due box : D) : List (Key × D) := [(.inr "points", .ref P), (.inr "size", .int (n : Nat)), (.inr "due", due), (.inr "box", box)]
theorem rep_zero {A : AH} {r n : Nat} (h : A[r]? = some (.lst [.int 0])) (hn : n ≤ 1000) : mulD (.ref r) (.int (n : Nat)) A = .ok (.ref A.length) (A ++ [.lst ((List.replicate n (0 : Int)).map D.int)]) := by
  rw [rep_spec h hn]
  congr 4
  apply List.ext_getElem (by simp)
  intro i h1 h2
  simp
def allC (n : Nat) : List Nat := (List.range n).map (· + 1)
theorem rg_all {A : AH} {n : Nat} (hn : n ≤ 1000) : rgTup 1 (((n : Nat) : Int) + 1) A = .ok (clD (allC n)) A := by
  unfold rgTup
  rw [if_pos (RgOk.of_le (by decide) (by omega) (by omega) (by omega))]
  have e : (((n : Nat) : Int) + 1 - 1).toNat = n := by omega
  rw [e]
  unfold rngL clD allC
  rw [List.map_map]
  congr 2
  refine List.map_congr_left fun k _ => ?_
  show D.int (1 + (k : Int)) = .int ((k + 1 : Nat) : Int)
  congr 1; omega
theorem part_all {p : List Int} {n : Nat} (pl : p.length = n) : partL (allC n) p = p := by
  unfold partL allC
  rw [List.map_map]
  apply List.ext_getElem (by simp [pl])
  intro i h1 h2
  rw [List.getElem_map, List.getElem_range]
  show at0 p (i + 1) = _
  rw [at0_s, List.getD_eq_getElem?_getD, List.getElem?_eq_getElem h2]; rfl
theorem allC_ok {n : Nat} : (allC n).length = n ∧ ∀ c ∈ allC n, 1 ≤ c ∧ c ≤ n := by
  refine ⟨by simp [allC], fun c hc => ?_⟩
  obtain ⟨k, hk, rfl⟩ := List.mem_map.mp hc
  have := List.mem_range.mp hk
  exact ⟨by show 1 ≤ k + 1; omega, by show k + 1 ≤ n; omega⟩
theorem bd_filter {b : Int} {ps : List (List Int)} {f : List Int → Bool} (h : Bd b ps) : Bd b (ps.filter f) := fun p hp => h p (List.mem_filter.mp hp).1
/-- the state behind a step -/
def Aft (A : AH) (s sd : Nat) (b : Int) (B : AH) : Prop := Dw s sd A B ∧ ∃ (P n : Nat) (ps : List (List Int)) (due : D), P ≠ s ∧ B[sd]? = some (.dic (stK P n due (hullD ps n))) ∧ B[P]? = some (.lst (ps.map ptD)) ∧ All n ps ∧ Bd b ps
theorem cut_spec {A : AH} {s sd P n : Nat} {b : Int} {ps : List (List Int)} (hs : Sr s A) (hd : A[sd]? = some (.dic (stK P n (hullD ps n) (hullD ps n)))) (hP : A[P]? = some (.lst (ps.map ptD))) (Ps : P ≠ s) (al : All n ps) (bd : Bd b ps) (b0 : 0 ≤ b) (b1 : b ≤ 10000000000) :
    Sat (m__law_cut [.ref s, .ref sd] A) fun d B => Aft A s sd b B := by
  have sl := hs.lt
  have n20 := al.n20
  have few := al.few
  have ds : sd ≠ s := fun e => by
    obtain ⟨x, y, z, h⟩ := hs
    rw [e, h] at hd; cases hd
  have h0 : ∀ n, hullD [] n = .non := fun n => if_pos rfl
  have Pd : P ≠ sd := fun e => by rw [e, hd] at hP; cases hP
  refine sat_body rfl (sat_seq ?_)
  simp only [EV, Ab.isNon, args, List.map, List.length_cons, List.length_nil, List.length_singleton, List.replicate, Nat.reduceSub, Nat.reduceAdd, Nat.zero_add, List.cons_append, List.nil_append, List.getElem?_cons_zero, List.getElem?_cons_succ, List.set_cons_zero, List.set_cons_succ, Option.some.injEq, decide_eq_true_eq, Bool.not_eq_true', decide_eq_false_iff_not, ite_true, ite_false, if_true, if_false, reduceIte, Bool.false_eq_true, Bool.not_true, Bool.not_false, Bool.true_eq_false, decide_true, decide_false, Nat.reduceLeDiff, Nat.reduceLT, ixk (x := "points") hd (v := .ref P) rfl]
  refine sat_seq ?_
  simp only [EV, Ab.isNon, args, List.map, List.length_cons, List.length_nil, List.length_singleton, List.replicate, Nat.reduceSub, Nat.reduceAdd, Nat.zero_add, List.cons_append, List.nil_append, List.getElem?_cons_zero, List.getElem?_cons_succ, List.set_cons_zero, List.set_cons_succ, Option.some.injEq, decide_eq_true_eq, Bool.not_eq_true', decide_eq_false_iff_not, ite_true, ite_false, if_true, if_false, reduceIte, Bool.false_eq_true, Bool.not_true, Bool.not_false, Bool.true_eq_false, decide_true, decide_false, Nat.reduceLeDiff, Nat.reduceLT, ixk (x := "size") hd (v := .int (n : Nat)) rfl]
  refine sat_seq ?_
  simp only [EV, Ab.isNon, args, List.map, List.length_cons, List.length_nil, List.length_singleton, List.replicate, Nat.reduceSub, Nat.reduceAdd, Nat.zero_add, List.cons_append, List.nil_append, List.getElem?_cons_zero, List.getElem?_cons_succ, List.set_cons_zero, List.set_cons_succ, Option.some.injEq, decide_eq_true_eq, Bool.not_eq_true', decide_eq_false_iff_not, ite_true, ite_false, if_true, if_false, reduceIte, Bool.false_eq_true, Bool.not_true, Bool.not_false, Bool.true_eq_false, decide_true, decide_false, Nat.reduceLeDiff, Nat.reduceLT, ixk (x := "box") hd (v := hullD ps n) rfl]
  -- a base
  refine sat_seq ?_
  have D1 := Dr.app hs [AO.lst [.int 0]]
  have hZ := at_new (A := A) (o := .lst [.int 0])
  simp only [EV, Ab.isNon, args, List.map, List.length_cons, List.length_nil, List.length_singleton, List.replicate, Nat.reduceSub, Nat.reduceAdd, Nat.zero_add, List.cons_append, List.nil_append, List.getElem?_cons_zero, List.getElem?_cons_succ, List.set_cons_zero, List.set_cons_succ, Option.some.injEq, decide_eq_true_eq, Bool.not_eq_true', decide_eq_false_iff_not, ite_true, ite_false, if_true, if_false, reduceIte, Bool.false_eq_true, Bool.not_true, Bool.not_false, Bool.true_eq_false, decide_true, decide_false, Nat.reduceLeDiff, Nat.reduceLT]
  generalize A ++ [AO.lst [.int 0]] = A1 at *
  rw [rep_zero hZ (by omega)]
  have D2 := D1.trans (Dr.app D1.src [AO.lst ((List.replicate n (0 : Int)).map D.int)])
  have hN := at_new (A := A1) (o := .lst ((List.replicate n (0 : Int)).map D.int))
  generalize A1 ++ [AO.lst ((List.replicate n (0 : Int)).map D.int)] = A2 at *
  simp only [EV, Ab.isNon, args, List.map, List.length_cons, List.length_nil, List.length_singleton, List.replicate, Nat.reduceSub, Nat.reduceAdd, Nat.zero_add, List.cons_append, List.nil_append, List.getElem?_cons_zero, List.getElem?_cons_succ, List.set_cons_zero, List.set_cons_succ, Option.some.injEq, decide_eq_true_eq, Bool.not_eq_true', decide_eq_false_iff_not, ite_true, ite_false, if_true, if_false, reduceIte, Bool.false_eq_true, Bool.not_true, Bool.not_false, Bool.true_eq_false, decide_true, decide_false, Nat.reduceLeDiff, Nat.reduceLT, ev_tup_ofL (rdL_l hN)]
  have ept : ∀ q : List Int, D.tup (q.map D.int) = ptD q := fun q => rfl
  rw [ept]
  refine sat_mid (fun σ B => Dr s A B ∧ ∃ p : List Int, p.length = n ∧ σ = [some (.ref s), some (.ref sd), some (.ref P), some (.int (n : Nat)), some (hullD ps n), some (ptD p), none, none, none, none, none, none, none, none]) ?_ fun σ B ⟨DB, p, pl, hσ⟩ => ?_
  · simp only [EV, Ab.isNon, args, List.map, List.length_cons, List.length_nil, List.length_singleton, List.replicate, Nat.reduceSub, Nat.reduceAdd, Nat.zero_add, List.cons_append, List.nil_append, List.getElem?_cons_zero, List.getElem?_cons_succ, List.set_cons_zero, List.set_cons_succ, Option.some.injEq, decide_eq_true_eq, Bool.not_eq_true', decide_eq_false_iff_not, ite_true, ite_false, if_true, if_false, reduceIte, Bool.false_eq_true, Bool.not_true, Bool.not_false, Bool.true_eq_false, decide_true, decide_false, Nat.reduceLeDiff, Nat.reduceLT]
    have hP2 := D2.keep _ _ Ps hP
    have hE := at_new (A := A2) (o := .lst [])
    have D3 := D2.trans (Dr.app D2.src [AO.lst []])
    have hP3 := (Gr.app (B := [AO.lst []])).keep _ _ hP2
    rw [ev_neNil (rdL_l hP3) (rdL_l hE)]
    generalize A2 ++ [AO.lst []] = A3 at *
    by_cases ne : ps = []
    · subst ne
      simp only [List.map_nil, List.isEmpty_nil, EV, Ab.isNon, args, List.map, List.length_cons, List.length_nil, List.length_singleton, List.replicate, Nat.reduceSub, Nat.reduceAdd, Nat.zero_add, List.cons_append, List.nil_append, List.getElem?_cons_zero, List.getElem?_cons_succ, List.set_cons_zero, List.set_cons_succ, Option.some.injEq, decide_eq_true_eq, Bool.not_eq_true', decide_eq_false_iff_not, ite_true, ite_false, if_true, if_false, reduceIte, Bool.false_eq_true, Bool.not_true, Bool.not_false, Bool.true_eq_false, decide_true, decide_false, Nat.reduceLeDiff, Nat.reduceLT]
      exact ⟨_, rfl, D3, List.replicate n 0, by simp, rfl⟩
    · have en : (ps.map ptD).isEmpty = false := by cases ps with | nil => exact absurd rfl ne | cons a l => rfl
      have pos := List.length_pos_iff.mpr ne
      have ln : lenD [.ref P] A3 = .ok (.int ((ps.length : Nat) : Int)) A3 := (ev_len_r (rdL_l hP3)).trans (by rw [List.length_map])
      simp only [en, EV, Ab.isNon, args, List.map, List.length_cons, List.length_nil, List.length_singleton, List.replicate, Nat.reduceSub, Nat.reduceAdd, Nat.zero_add, List.cons_append, List.nil_append, List.getElem?_cons_zero, List.getElem?_cons_succ, List.set_cons_zero, List.set_cons_succ, Option.some.injEq, decide_eq_true_eq, Bool.not_eq_true', decide_eq_false_iff_not, ite_true, ite_false, if_true, if_false, reduceIte, Bool.false_eq_true, Bool.not_true, Bool.not_false, Bool.true_eq_false, decide_true, decide_false, Nat.reduceLeDiff, Nat.reduceLT, ln]
      refine Sat.imp (pick_pos D3.src (n := ((ps.length : Nat) : Int)) (by omega) (by omega)) fun d A4 ⟨⟨c, e, c0, c1⟩, D4⟩ => ?_
      subst e
      obtain ⟨c, rfl⟩ : ∃ m : Nat, c = (m : Nat) := ⟨c.toNat, by omega⟩
      have hc : c < ps.length := by omega
      have ix : ixD (.ref P) (.int ((c : Nat) : Int)) A4 = .ok (ptD ps[c]) A4 := ev_ix_r (rdL_l (D4.keep _ _ Ps hP3)) (by rw [atI_pos (by omega), Int.toNat_natCast, List.getElem?_map, List.getElem?_eq_getElem hc]; rfl)
      simp only [EV, Ab.isNon, args, List.map, List.length_cons, List.length_nil, List.length_singleton, List.replicate, Nat.reduceSub, Nat.reduceAdd, Nat.zero_add, List.cons_append, List.nil_append, List.getElem?_cons_zero, List.getElem?_cons_succ, List.set_cons_zero, List.set_cons_succ, Option.some.injEq, decide_eq_true_eq, Bool.not_eq_true', decide_eq_false_iff_not, ite_true, ite_false, if_true, if_false, reduceIte, Bool.false_eq_true, Bool.not_true, Bool.not_false, Bool.true_eq_false, decide_true, decide_false, Nat.reduceLeDiff, Nat.reduceLT, ix]
      exact ⟨_, rfl, D3.trans D4, ps[c], al.len _ (List.getElem_mem _), rfl⟩
  subst hσ
  -- the choice
  refine sat_seq ?_
  simp only [EV, Ab.isNon, args, List.map, List.length_cons, List.length_nil, List.length_singleton, List.replicate, Nat.reduceSub, Nat.reduceAdd, Nat.zero_add, List.cons_append, List.nil_append, List.getElem?_cons_zero, List.getElem?_cons_succ, List.set_cons_zero, List.set_cons_succ, Option.some.injEq, decide_eq_true_eq, Bool.not_eq_true', decide_eq_false_iff_not, ite_true, ite_false, if_true, if_false, reduceIte, Bool.false_eq_true, Bool.not_true, Bool.not_false, Bool.true_eq_false, decide_true, decide_false, Nat.reduceLeDiff, Nat.reduceLT]
  refine Sat.imp (pick_pos DB.src (n := 3) (by decide) (by decide)) fun d B1 ⟨⟨c, e, c0, c1⟩, D3⟩ => ?_
  subst e
  have DB := DB.trans D3
  refine sat_seq ?_
  simp only [EV, Ab.isNon, args, List.map, List.length_cons, List.length_nil, List.length_singleton, List.replicate, Nat.reduceSub, Nat.reduceAdd, Nat.zero_add, List.cons_append, List.nil_append, List.getElem?_cons_zero, List.getElem?_cons_succ, List.set_cons_zero, List.set_cons_succ, Option.some.injEq, decide_eq_true_eq, Bool.not_eq_true', decide_eq_false_iff_not, ite_true, ite_false, if_true, if_false, reduceIte, Bool.false_eq_true, Bool.not_true, Bool.not_false, Bool.true_eq_false, decide_true, decide_false, Nat.reduceLeDiff, Nat.reduceLT, rg_all (show n ≤ 1000 by omega)]
  refine sat_mid (fun σ B => Dr s A B ∧ ∃ cs : List Nat, (∀ c ∈ cs, 1 ≤ c ∧ c ≤ n) ∧ cs.length ≤ 20 ∧ (c ≠ 1 → cs = allC n) ∧ σ = [some (.ref s), some (.ref sd), some (.ref P), some (.int (n : Nat)), some (hullD ps n), some (ptD p), some (.int c), some (clD cs), none, none, none, none, none, none]) ?_ fun σ B2 ⟨DB, cs, hc, lc, cc, hσ⟩ => ?_
  · simp only [EV, Ab.isNon, args, List.map, List.length_cons, List.length_nil, List.length_singleton, List.replicate, Nat.reduceSub, Nat.reduceAdd, Nat.zero_add, List.cons_append, List.nil_append, List.getElem?_cons_zero, List.getElem?_cons_succ, List.set_cons_zero, List.set_cons_succ, Option.some.injEq, decide_eq_true_eq, Bool.not_eq_true', decide_eq_false_iff_not, ite_true, ite_false, if_true, if_false, reduceIte, Bool.false_eq_true, Bool.not_true, Bool.not_false, Bool.true_eq_false, decide_true, decide_false, Nat.reduceLeDiff, Nat.reduceLT]
    split
    · rename_i c1'
      have hL := at_new (A := B1) (o := .lst [.int 3, .int 3, .int 9])
      have D4 := DB.trans (Dr.app DB.src [AO.lst [.int 3, .int 3, .int 9]])
      have lB := DB.le
      generalize B1 ++ [AO.lst [.int 3, .int 3, .int 9]] = B2 at *
      refine Sat.imp (pick_pos D4.src (n := 3) (by decide) (by decide)) fun d B3 ⟨⟨u, e, u0, u1⟩, D5⟩ => ?_
      subst e
      have hL := D5.keep _ _ (by omega) hL
      obtain ⟨w, hw, w9⟩ : ∃ w : Nat, ixD (.ref B1.length) (.int u) B3 = .ok (.int (w : Nat)) B3 ∧ w ≤ 9 := by
        have ix : ∀ {x : Int}, ([.int 3, .int 3, .int 9] : List D)[u.toNat]? = some (.int x) → ixD (.ref B1.length) (.int u) B3 = .ok (.int x) B3 := fun {x} h => ev_ix_r (rdL_l hL) (by rw [atI_pos u0]; exact h)
        have c3 : u = 0 ∨ u = 1 ∨ u = 2 := by omega
        rcases c3 with rfl | rfl | rfl
        · exact ⟨3, ix rfl, by decide⟩
        · exact ⟨3, ix rfl, by decide⟩
        · exact ⟨9, ix rfl, by decide⟩
      simp only [EV, Ab.isNon, args, List.map, List.length_cons, List.length_nil, List.length_singleton, List.replicate, Nat.reduceSub, Nat.reduceAdd, Nat.zero_add, List.cons_append, List.nil_append, List.getElem?_cons_zero, List.getElem?_cons_succ, List.set_cons_zero, List.set_cons_succ, Option.some.injEq, decide_eq_true_eq, Bool.not_eq_true', decide_eq_false_iff_not, ite_true, ite_false, if_true, if_false, reduceIte, Bool.false_eq_true, Bool.not_true, Bool.not_false, Bool.true_eq_false, decide_true, decide_false, Nat.reduceLeDiff, Nat.reduceLT, hw]
      refine Sat.imp (columns_spec (D4.trans D5).src n20 w9) fun d B4 ⟨D6, cs, e, hc, lc⟩ => ?_
      subst e
      exact ⟨_, rfl, D4.trans (D5.trans D6), cs, hc, by omega, fun z => absurd c1' z, rfl⟩
    · exact ⟨_, rfl, DB, allC n, allC_ok.2, by rw [allC_ok.1]; exact n20, fun _ => rfl, rfl⟩
  subst hσ
  -- a box near the base
  refine sat_seq ?_
  simp only [EV, Ab.isNon, args, List.map, List.length_cons, List.length_nil, List.length_singleton, List.replicate, Nat.reduceSub, Nat.reduceAdd, Nat.zero_add, List.cons_append, List.nil_append, List.getElem?_cons_zero, List.getElem?_cons_succ, List.set_cons_zero, List.set_cons_succ, Option.some.injEq, decide_eq_true_eq, Bool.not_eq_true', decide_eq_false_iff_not, ite_true, ite_false, if_true, if_false, reduceIte, Bool.false_eq_true, Bool.not_true, Bool.not_false, Bool.true_eq_false, decide_true, decide_false, Nat.reduceLeDiff, Nat.reduceLT]
  refine Sat.imp (part_spec pl hc (by omega)) fun d B3 ⟨G3, e⟩ => ?_
  subst e
  have DB := DB.trans (G3.dr DB.src)
  have ql : (partL cs p).length = cs.length := by unfold partL; rw [List.length_map]
  refine Sat.imp (near_spec DB.src ql lc) fun o B4 ⟨D4, ho⟩ => ?_
  have DB := DB.trans D4
  have hd4 := DB.keep _ _ ds hd
  have hP4 := DB.keep _ _ Ps hP
  -- a bound
  refine sat_early (fun σ C => Dr s A C ∧ σ = [some (.ref s), some (.ref sd), some (.ref P), some (.int (n : Nat)), some (hullD ps n), some (ptD p), some (.int c), some (clD cs), some o, none, none, none, none, none]) (fun d C => Aft A s sd b C) ?_ (fun d C h => h) fun σ C ⟨DC, hσ⟩ => ?_
  · have keep : ∃ σ' : ASt, Fl.nx [some (.ref s), some (.ref sd), some (.ref P), some (.int (n : Nat)), some (hullD ps n), some (ptD p), some (.int c), some (clD cs), some o, none, none, none, none, none] = .nx σ' ∧ Dr s A B4 ∧ σ' = [some (.ref s), some (.ref sd), some (.ref P), some (.int (n : Nat)), some (hullD ps n), some (ptD p), some (.int c), some (clD cs), some o, none, none, none, none, none] := ⟨_, rfl, DB, rfl⟩
    simp only [EV, Ab.isNon, args, List.map, List.length_cons, List.length_nil, List.length_singleton, List.replicate, Nat.reduceSub, Nat.reduceAdd, Nat.zero_add, List.cons_append, List.nil_append, List.getElem?_cons_zero, List.getElem?_cons_succ, List.set_cons_zero, List.set_cons_succ, Option.some.injEq, decide_eq_true_eq, Bool.not_eq_true', decide_eq_false_iff_not, ite_true, ite_false, if_true, if_false, reduceIte, Bool.false_eq_true, Bool.not_true, Bool.not_false, Bool.true_eq_false, decide_true, decide_false, Nat.reduceLeDiff, Nat.reduceLT]
    by_cases q0 : c = 0
    · rw [if_pos q0]
      by_cases np : ((n : Nat) : Int) > 0
      · rw [if_pos np]
        refine sat_seq ?_
        simp only [EV, Ab.isNon, args, List.map, List.length_cons, List.length_nil, List.length_singleton, List.replicate, Nat.reduceSub, Nat.reduceAdd, Nat.zero_add, List.cons_append, List.nil_append, List.getElem?_cons_zero, List.getElem?_cons_succ, List.set_cons_zero, List.set_cons_succ, Option.some.injEq, decide_eq_true_eq, Bool.not_eq_true', decide_eq_false_iff_not, ite_true, ite_false, if_true, if_false, reduceIte, Bool.false_eq_true, Bool.not_true, Bool.not_false, Bool.true_eq_false, decide_true, decide_false, Nat.reduceLeDiff, Nat.reduceLT]
        refine Sat.imp (pick_pos DB.src (n := ((n : Nat) : Int) + 1) (by omega) (by omega)) fun d C1 ⟨⟨a, e, a0, a1⟩, E1⟩ => ?_
        subst e
        obtain ⟨a, rfl⟩ : ∃ m : Nat, a = (m : Nat) := ⟨a.toNat, by omega⟩
        have DC := DB.trans E1
        refine sat_seq ?_
        simp only [EV, Ab.isNon, args, List.map, List.length_cons, List.length_nil, List.length_singleton, List.replicate, Nat.reduceSub, Nat.reduceAdd, Nat.zero_add, List.cons_append, List.nil_append, List.getElem?_cons_zero, List.getElem?_cons_succ, List.set_cons_zero, List.set_cons_succ, Option.some.injEq, decide_eq_true_eq, Bool.not_eq_true', decide_eq_false_iff_not, ite_true, ite_false, if_true, if_false, reduceIte, Bool.false_eq_true, Bool.not_true, Bool.not_false, Bool.true_eq_false, decide_true, decide_false, Nat.reduceLeDiff, Nat.reduceLT]
        refine Sat.imp (pick_pos DC.src (n := ((n : Nat) : Int)) (by omega) (by omega)) fun d C2 ⟨⟨k, e, k0, k1⟩, E2⟩ => ?_
        subst e
        obtain ⟨k, rfl⟩ : ∃ m : Nat, k = (m : Nat) := ⟨k.toNat, by omega⟩
        have DC := DC.trans E2
        have md : ∀ A, modD (.int (((a : Nat) : Int) + 1 + ((k : Nat) : Int))) (.int (((n : Nat) : Int) + 1)) A = .ok (.int ((((a + 1 + k) % (n + 1) : Nat)) : Int)) A := fun A => by
          rw [ev_mod (by omega)]
          congr 2
        obtain ⟨j, ej⟩ : ∃ j, (a + 1 + k) % (n + 1) = j := ⟨_, rfl⟩
        have jn : j ≤ n := by have := Nat.mod_lt (a + 1 + k) (show 0 < n + 1 by omega); omega
        have ja : a ≠ j := by
          intro e
          by_cases z : a + 1 + k < n + 1
          · rw [Nat.mod_eq_of_lt z] at ej; omega
          · rw [Nat.mod_eq_sub_mod (by omega), Nat.mod_eq_of_lt (by omega)] at ej; omega
        simp only [EV, Ab.isNon, args, List.map, List.length_cons, List.length_nil, List.length_singleton, List.replicate, Nat.reduceSub, Nat.reduceAdd, Nat.zero_add, List.cons_append, List.nil_append, List.getElem?_cons_zero, List.getElem?_cons_succ, List.set_cons_zero, List.set_cons_succ, Option.some.injEq, decide_eq_true_eq, Bool.not_eq_true', decide_eq_false_iff_not, ite_true, ite_false, if_true, if_false, reduceIte, Bool.false_eq_true, Bool.not_true, Bool.not_false, Bool.true_eq_false, decide_true, decide_false, Nat.reduceLeDiff, Nat.reduceLT, md, ej]
        refine sat_seq ?_
        simp only [EV, Ab.isNon, args, List.map, List.length_cons, List.length_nil, List.length_singleton, List.replicate, Nat.reduceSub, Nat.reduceAdd, Nat.zero_add, List.cons_append, List.nil_append, List.getElem?_cons_zero, List.getElem?_cons_succ, List.set_cons_zero, List.set_cons_succ, Option.some.injEq, decide_eq_true_eq, Bool.not_eq_true', decide_eq_false_iff_not, ite_true, ite_false, if_true, if_false, reduceIte, Bool.false_eq_true, Bool.not_true, Bool.not_false, Bool.true_eq_false, decide_true, decide_false, Nat.reduceLeDiff, Nat.reduceLT]
        refine Sat.imp (pick_pos DC.src (n := 5) (by decide) (by decide)) fun d C3 ⟨⟨u, e, u0, u1⟩, E3⟩ => ?_
        subst e
        have DC := DC.trans E3
        simp only [EV, Ab.isNon, args, List.map, List.length_cons, List.length_nil, List.length_singleton, List.replicate, Nat.reduceSub, Nat.reduceAdd, Nat.zero_add, List.cons_append, List.nil_append, List.getElem?_cons_zero, List.getElem?_cons_succ, List.set_cons_zero, List.set_cons_succ, Option.some.injEq, decide_eq_true_eq, Bool.not_eq_true', decide_eq_false_iff_not, ite_true, ite_false, if_true, if_false, reduceIte, Bool.false_eq_true, Bool.not_true, Bool.not_false, Bool.true_eq_false, decide_true, decide_false, Nat.reduceLeDiff, Nat.reduceLT]
        refine sat_mid (fun σ C => Dr s A C ∧ ∃ (t : Int) (x12 : Option D), σ = [some (.ref s), some (.ref sd), some (.ref P), some (.int (n : Nat)), some (hullD ps n), some (ptD p), some (.int c), some (clD cs), some o, some (.int (a : Nat)), some (.int (j : Nat)), some (.int t), x12, none]) ?_ fun σ C4 ⟨DC, t, x12, hσ⟩ => ?_
        · simp only [EV, Ab.isNon, args, List.map, List.length_cons, List.length_nil, List.length_singleton, List.replicate, Nat.reduceSub, Nat.reduceAdd, Nat.zero_add, List.cons_append, List.nil_append, List.getElem?_cons_zero, List.getElem?_cons_succ, List.set_cons_zero, List.set_cons_succ, Option.some.injEq, decide_eq_true_eq, Bool.not_eq_true', decide_eq_false_iff_not, ite_true, ite_false, if_true, if_false, reduceIte, Bool.false_eq_true, Bool.not_true, Bool.not_false, Bool.true_eq_false, decide_true, decide_false, Nat.reduceLeDiff, Nat.reduceLT]
          have hP5 := DC.keep _ _ Ps hP
          have hd5 := DC.keep _ _ ds hd
          have hE := at_new (A := C3) (o := .lst [])
          have D5 := DC.trans (Dr.app DC.src [AO.lst []])
          have hP6 := (Gr.app (B := [AO.lst []])).keep _ _ hP5
          have hd6 := (Gr.app (B := [AO.lst []])).keep _ _ hd5
          rw [ev_neNil (rdL_l hP6) (rdL_l hE)]
          generalize C3 ++ [AO.lst []] = C5 at *
          by_cases ne : ps = []
          · subst ne
            simp only [List.map_nil, List.isEmpty_nil, EV, Ab.isNon, args, List.map, List.length_cons, List.length_nil, List.length_singleton, List.replicate, Nat.reduceSub, Nat.reduceAdd, Nat.zero_add, List.cons_append, List.nil_append, List.getElem?_cons_zero, List.getElem?_cons_succ, List.set_cons_zero, List.set_cons_succ, Option.some.injEq, decide_eq_true_eq, Bool.not_eq_true', decide_eq_false_iff_not, ite_true, ite_false, if_true, if_false, reduceIte, Bool.false_eq_true, Bool.not_true, Bool.not_false, Bool.true_eq_false, decide_true, decide_false, Nat.reduceLeDiff, Nat.reduceLT]
            exact ⟨_, rfl, D5, _, _, rfl⟩
          · have en : (ps.map ptD).isEmpty = false := by cases ps with | nil => exact absurd rfl ne | cons a l => rfl
            have hm : hullD ps n = matD (n + 1) (mx ps) := if_neg ne
            have cm := mx_cl (m := n + 1) ne
            have tri := cm.tri a j a (by omega) (by omega) (by omega)
            have dg := cm.dg a (by omega)
            have b1' := mx_bd ne bd a j
            have b2' := mx_bd ne bd j a
            simp only [en, EV, Ab.isNon, args, List.map, List.length_cons, List.length_nil, List.length_singleton, List.replicate, Nat.reduceSub, Nat.reduceAdd, Nat.zero_add, List.cons_append, List.nil_append, List.getElem?_cons_zero, List.getElem?_cons_succ, List.set_cons_zero, List.set_cons_succ, Option.some.injEq, decide_eq_true_eq, Bool.not_eq_true', decide_eq_false_iff_not, ite_true, ite_false, if_true, if_false, reduceIte, Bool.false_eq_true, Bool.not_true, Bool.not_false, Bool.true_eq_false, decide_true, decide_false, Nat.reduceLeDiff, Nat.reduceLT]
            refine sat_seq ?_
            have xd : ∀ {C : AH}, C[sd]? = some (.dic (stK P n (hullD ps n) (hullD ps n))) → ixD (.ref sd) (.str "due") C = .ok (matD (n + 1) (mx ps)) C := fun {C} h => by rw [ixk (x := "due") h (v := hullD ps n) rfl, hm]
            have im : ∀ {i : Nat} {C : AH}, i ≤ n → ixD (matD (n + 1) (mx ps)) (.int ((i : Nat) : Int)) C = .ok (rowD (n + 1) (mx ps i)) C := fun {i C} h => ix_mat (by omega)
            have ir : ∀ {i j : Nat} {C : AH}, j ≤ n → ixD (rowD (n + 1) (mx ps i)) (.int ((j : Nat) : Int)) C = .ok (.int (mx ps i j)) C := fun {i j C} h => ix_row (by omega)
            have an : a ≤ n := by omega
            simp only [EV, Ab.isNon, args, List.map, List.length_cons, List.length_nil, List.length_singleton, List.replicate, Nat.reduceSub, Nat.reduceAdd, Nat.zero_add, List.cons_append, List.nil_append, List.getElem?_cons_zero, List.getElem?_cons_succ, List.set_cons_zero, List.set_cons_succ, Option.some.injEq, decide_eq_true_eq, Bool.not_eq_true', decide_eq_false_iff_not, ite_true, ite_false, if_true, if_false, reduceIte, Bool.false_eq_true, Bool.not_true, Bool.not_false, Bool.true_eq_false, decide_true, decide_false, Nat.reduceLeDiff, Nat.reduceLT, xd hd6, im jn, ir an]
            simp only [xd hd6, im an, ir jn, EV, Ab.isNon, args, List.map, List.length_cons, List.length_nil, List.length_singleton, List.replicate, Nat.reduceSub, Nat.reduceAdd, Nat.zero_add, List.cons_append, List.nil_append, List.getElem?_cons_zero, List.getElem?_cons_succ, List.set_cons_zero, List.set_cons_succ, Option.some.injEq, decide_eq_true_eq, Bool.not_eq_true', decide_eq_false_iff_not, ite_true, ite_false, if_true, if_false, reduceIte, Bool.false_eq_true, Bool.not_true, Bool.not_false, Bool.true_eq_false, decide_true, decide_false, Nat.reduceLeDiff, Nat.reduceLT]
            refine Sat.imp (pick_pos D5.src (n := mx ps a j - (0 - mx ps j a - 1) + 2) (by omega) (by omega)) fun d C6 ⟨⟨w, e, w0, w1⟩, D6⟩ => ?_
            subst e
            simp only [EV, Ab.isNon, args, List.map, List.length_cons, List.length_nil, List.length_singleton, List.replicate, Nat.reduceSub, Nat.reduceAdd, Nat.zero_add, List.cons_append, List.nil_append, List.getElem?_cons_zero, List.getElem?_cons_succ, List.set_cons_zero, List.set_cons_succ, Option.some.injEq, decide_eq_true_eq, Bool.not_eq_true', decide_eq_false_iff_not, ite_true, ite_false, if_true, if_false, reduceIte, Bool.false_eq_true, Bool.not_true, Bool.not_false, Bool.true_eq_false, decide_true, decide_false, Nat.reduceLeDiff, Nat.reduceLT]
            exact ⟨_, rfl, D5.trans D6, _, _, rfl⟩
        subst hσ
        refine sat_seq ?_
        simp only [EV, Ab.isNon, args, List.map, List.length_cons, List.length_nil, List.length_singleton, List.replicate, Nat.reduceSub, Nat.reduceAdd, Nat.zero_add, List.cons_append, List.nil_append, List.getElem?_cons_zero, List.getElem?_cons_succ, List.set_cons_zero, List.set_cons_succ, Option.some.injEq, decide_eq_true_eq, Bool.not_eq_true', decide_eq_false_iff_not, ite_true, ite_false, if_true, if_false, reduceIte, Bool.false_eq_true, Bool.not_true, Bool.not_false, Bool.true_eq_false, decide_true, decide_false, Nat.reduceLeDiff, Nat.reduceLT]
        refine Sat.imp (bound_hull (t := t) al (show a ≤ n by omega) jn ja) fun d C5 ⟨G5, e⟩ => ?_
        subst e
        have DC := DC.trans (G5.dr DC.src)
        have hd5 := DC.keep _ _ ds hd
        have hP5 := DC.keep _ _ Ps hP
        rw [st_k hd5 (by show 4 < 1000000; decide)]
        have es : setK (stK P n (hullD ps n) (hullD ps n)) (.inr "box") (hullD (ps.filter fun p => decide (at0 p a - at0 p j ≤ t)) n) = stK P n (hullD ps n) (hullD (ps.filter fun p => decide (at0 p a - at0 p j ≤ t)) n) := rfl
        rw [es]
        simp only [EV, Ab.isNon, args, List.map, List.length_cons, List.length_nil, List.length_singleton, List.replicate, Nat.reduceSub, Nat.reduceAdd, Nat.zero_add, List.cons_append, List.nil_append, List.getElem?_cons_zero, List.getElem?_cons_succ, List.set_cons_zero, List.set_cons_succ, Option.some.injEq, decide_eq_true_eq, Bool.not_eq_true', decide_eq_false_iff_not, ite_true, ite_false, if_true, if_false, reduceIte, Bool.false_eq_true, Bool.not_true, Bool.not_false, Bool.true_eq_false, decide_true, decide_false, Nat.reduceLeDiff, Nat.reduceLT]
        have W6 := (dr_dw (w := sd) DC).set (o := .dic (stK P n (hullD ps n) (hullD (ps.filter fun p => decide (at0 p a - at0 p j ≤ t)) n)))
        have hd6 := at_set (o := .dic (stK P n (hullD ps n) (hullD (ps.filter fun p => decide (at0 p a - at0 p j ≤ t)) n))) (at_lt hd5)
        have hP6 : (C5.set sd (.dic (stK P n (hullD ps n) (hullD (ps.filter fun p => decide (at0 p a - at0 p j ≤ t)) n))))[P]? = some (.lst (ps.map ptD)) := by rw [List.getElem?_set_ne (Ne.symm Pd)]; exact hP5
        generalize C5.set sd (.dic (stK P n (hullD ps n) (hullD (ps.filter fun p => decide (at0 p a - at0 p j ≤ t)) n))) = C6 at *
        refine sat_seq ?_
        simp only [EV, Ab.isNon, args, List.map, List.length_cons, List.length_nil, List.length_singleton, List.replicate, Nat.reduceSub, Nat.reduceAdd, Nat.zero_add, List.cons_append, List.nil_append, List.getElem?_cons_zero, List.getElem?_cons_succ, List.set_cons_zero, List.set_cons_succ, Option.some.injEq, decide_eq_true_eq, Bool.not_eq_true', decide_eq_false_iff_not, ite_true, ite_false, if_true, if_false, reduceIte, Bool.false_eq_true, Bool.not_true, Bool.not_false, Bool.true_eq_false, decide_true, decide_false, Nat.reduceLeDiff, Nat.reduceLT, ev_iseq_l hP6, wipeA]
        refine comp_filter ptD ptD (fun p => decide (at0 p a - at0 p j ≤ t)) (fun l => rdL_l ((Gr.app (B := [AO.lst l])).keep _ _ hP6)) (fun p' hp' l => ?_) (by omega) ?_
        · have pl' := al.len p' hp'
          have z : [D.int 0].length + (p'.map D.int).length ≤ sizeLine := sl_le (by simp; omega)
          have a1 : ∀ A, addD (.tup [.int 0]) (ptD p') A = .ok (.tup (.int 0 :: p'.map D.int)) A := fun A => ev_add_tt z
          simp only [EV, Ab.isNon, args, List.map, List.length_cons, List.length_nil, List.length_singleton, List.replicate, Nat.reduceSub, Nat.reduceAdd, Nat.zero_add, List.cons_append, List.nil_append, List.getElem?_cons_zero, List.getElem?_cons_succ, List.set_cons_zero, List.set_cons_succ, Option.some.injEq, decide_eq_true_eq, Bool.not_eq_true', decide_eq_false_iff_not, ite_true, ite_false, if_true, if_false, reduceIte, Bool.false_eq_true, Bool.not_true, Bool.not_false, Bool.true_eq_false, decide_true, decide_false, Nat.reduceLeDiff, Nat.reduceLT, a1]
          rw [ix_full (by omega)]
          simp only [EV, Ab.isNon, args, List.map, List.length_cons, List.length_nil, List.length_singleton, List.replicate, Nat.reduceSub, Nat.reduceAdd, Nat.zero_add, List.cons_append, List.nil_append, List.getElem?_cons_zero, List.getElem?_cons_succ, List.set_cons_zero, List.set_cons_succ, Option.some.injEq, decide_eq_true_eq, Bool.not_eq_true', decide_eq_false_iff_not, ite_true, ite_false, if_true, if_false, reduceIte, Bool.false_eq_true, Bool.not_true, Bool.not_false, Bool.true_eq_false, decide_true, decide_false, Nat.reduceLeDiff, Nat.reduceLT, a1]
          rw [ix_full (by omega)]
          simp only [EV, Ab.isNon, args, List.map, List.length_cons, List.length_nil, List.length_singleton, List.replicate, Nat.reduceSub, Nat.reduceAdd, Nat.zero_add, List.cons_append, List.nil_append, List.getElem?_cons_zero, List.getElem?_cons_succ, List.set_cons_zero, List.set_cons_succ, Option.some.injEq, decide_eq_true_eq, Bool.not_eq_true', decide_eq_false_iff_not, ite_true, ite_false, if_true, if_false, reduceIte, Bool.false_eq_true, Bool.not_true, Bool.not_false, Bool.true_eq_false, decide_true, decide_false, Nat.reduceLeDiff, Nat.reduceLT]
          exact ⟨by first | trivial | rfl, by first | trivial | rfl, by first | trivial | rfl, by first | trivial | rfl⟩
        have hn := at_new (A := C6) (o := .lst ((ps.filter fun p => decide (at0 p a - at0 p j ≤ t)).map ptD))
        have g7 := Gr.app (A := C6) (B := [AO.lst ((ps.filter fun p => decide (at0 p a - at0 p j ≤ t)).map ptD)])
        have hd7 := g7.keep _ _ hd6
        have W7 := W6.trans (gr_dw g7)
        have ld := at_lt hd6
        have lW := W6.le
        generalize C6 ++ [AO.lst ((ps.filter fun p => decide (at0 p a - at0 p j ≤ t)).map ptD)] = C7 at *
        obtain ⟨Q, eQ⟩ : ∃ Q, C6.length = Q := ⟨_, rfl⟩
        rw [eQ] at hn ld ⊢
        rw [st_k hd7 (by show 4 < 1000000; decide)]
        have es2 : setK (stK P n (hullD ps n) (hullD (ps.filter fun p => decide (at0 p a - at0 p j ≤ t)) n)) (.inr "points") (.ref Q) = stK Q n (hullD ps n) (hullD (ps.filter fun p => decide (at0 p a - at0 p j ≤ t)) n) := rfl
        rw [es2]
        simp only [EV, Ab.isNon, args, List.map, List.length_cons, List.length_nil, List.length_singleton, List.replicate, Nat.reduceSub, Nat.reduceAdd, Nat.zero_add, List.cons_append, List.nil_append, List.getElem?_cons_zero, List.getElem?_cons_succ, List.set_cons_zero, List.set_cons_succ, Option.some.injEq, decide_eq_true_eq, Bool.not_eq_true', decide_eq_false_iff_not, ite_true, ite_false, if_true, if_false, reduceIte, Bool.false_eq_true, Bool.not_true, Bool.not_false, Bool.true_eq_false, decide_true, decide_false, Nat.reduceLeDiff, Nat.reduceLT]
        refine .inl ⟨_, rfl, W7.set, Q, n, _, _, by omega, at_set (at_lt hd7), by rw [List.getElem?_set_ne (by omega)]; exact hn, cut_all al (by omega) jn ja, bd_filter bd⟩
      · rw [if_neg np]
        exact .inr keep
    · rw [if_neg q0]
      exact .inr keep
  subst hσ
  have hd4 := DC.keep _ _ ds hd
  have hP4 := DC.keep _ _ Ps hP
  have stv : ∀ (v : D), setK (stK P n (hullD ps n) (hullD ps n)) (.inr "box") v = stK P n (hullD ps n) v := fun v => rfl
  have hp : hullD ps n = outD (n + 1) (if ps = [] then none else some (mx ps)) := hull_out
  rcases ho with rfl | ⟨qs, qne, qlen, rfl⟩
  · -- no other box
    refine sat_mid (fun σ D' => Dw s sd A D' ∧ Sr s D' ∧ D'[sd]? = some (.dic (stK P n (hullD ps n) .non)) ∧ σ = [some (.ref s), some (.ref sd), some (.ref P), some (.int (n : Nat)), some (hullD ps n), some (ptD p), some (.int c), some (clD cs), some .non, none, none, none, none, none]) ?_ fun σ D' ⟨W, sr, hd5, hσ⟩ => ?_
    · have fin : ∀ {C : AH}, Dr s A C → ∃ σ' : ASt, Fl.nx [some (.ref s), some (.ref sd), some (.ref P), some (.int (n : Nat)), some (hullD ps n), some (ptD p), some (.int c), some (clD cs), some .non, none, none, none, none, none] = .nx σ' ∧ Dw s sd A (C.set sd (.dic (stK P n (hullD ps n) .non))) ∧ Sr s (C.set sd (.dic (stK P n (hullD ps n) .non))) ∧ (C.set sd (.dic (stK P n (hullD ps n) .non)))[sd]? = some (.dic (stK P n (hullD ps n) .non)) ∧ σ' = [some (.ref s), some (.ref sd), some (.ref P), some (.int (n : Nat)), some (hullD ps n), some (ptD p), some (.int c), some (clD cs), some .non, none, none, none, none, none] := fun {C} d => by
        obtain ⟨x, y, z, h⟩ := d.src
        exact ⟨_, rfl, (dr_dw d).set, ⟨x, y, z, by rw [List.getElem?_set_ne ds]; exact h⟩, at_set (at_lt (d.keep _ _ ds hd)), rfl⟩
      simp only [EV, Ab.isNon, args, List.map, List.length_cons, List.length_nil, List.length_singleton, List.replicate, Nat.reduceSub, Nat.reduceAdd, Nat.zero_add, List.cons_append, List.nil_append, List.getElem?_cons_zero, List.getElem?_cons_succ, List.set_cons_zero, List.set_cons_succ, Option.some.injEq, decide_eq_true_eq, Bool.not_eq_true', decide_eq_false_iff_not, ite_true, ite_false, if_true, if_false, reduceIte, Bool.false_eq_true, Bool.not_true, Bool.not_false, Bool.true_eq_false, decide_true, decide_false, Nat.reduceLeDiff, Nat.reduceLT]
      have tn : ∀ {e : D} (A : AH), m_tie_boxes [hullD ps n, .non, e] A = .ok .non A := fun {e} A => by rw [hp]; exact tie_non
      have mn : ∀ (A : AH), m_meet_boxes [hullD ps n, .non] A = .ok .non A := fun A => by rw [hp]; exact meet_non
      split
      · simp only [EV, Ab.isNon, args, List.map, List.length_cons, List.length_nil, List.length_singleton, List.replicate, Nat.reduceSub, Nat.reduceAdd, Nat.zero_add, List.cons_append, List.nil_append, List.getElem?_cons_zero, List.getElem?_cons_succ, List.set_cons_zero, List.set_cons_succ, Option.some.injEq, decide_eq_true_eq, Bool.not_eq_true', decide_eq_false_iff_not, ite_true, ite_false, if_true, if_false, reduceIte, Bool.false_eq_true, Bool.not_true, Bool.not_false, Bool.true_eq_false, decide_true, decide_false, Nat.reduceLeDiff, Nat.reduceLT, tn]
        rw [st_k hd4 (by show 4 < 1000000; decide), stv]
        simp only [EV, Ab.isNon, args, List.map, List.length_cons, List.length_nil, List.length_singleton, List.replicate, Nat.reduceSub, Nat.reduceAdd, Nat.zero_add, List.cons_append, List.nil_append, List.getElem?_cons_zero, List.getElem?_cons_succ, List.set_cons_zero, List.set_cons_succ, Option.some.injEq, decide_eq_true_eq, Bool.not_eq_true', decide_eq_false_iff_not, ite_true, ite_false, if_true, if_false, reduceIte, Bool.false_eq_true, Bool.not_true, Bool.not_false, Bool.true_eq_false, decide_true, decide_false, Nat.reduceLeDiff, Nat.reduceLT]
        exact fin DC
      · refine Sat.imp (pick_pos DC.src (n := 2) (by decide) (by decide)) fun d C1 ⟨⟨u, e, u0, u1⟩, E1⟩ => ?_
        subst e
        have DC := DC.trans E1
        have hd5 := DC.keep _ _ ds hd
        simp only [EV, Ab.isNon, args, List.map, List.length_cons, List.length_nil, List.length_singleton, List.replicate, Nat.reduceSub, Nat.reduceAdd, Nat.zero_add, List.cons_append, List.nil_append, List.getElem?_cons_zero, List.getElem?_cons_succ, List.set_cons_zero, List.set_cons_succ, Option.some.injEq, decide_eq_true_eq, Bool.not_eq_true', decide_eq_false_iff_not, ite_true, ite_false, if_true, if_false, reduceIte, Bool.false_eq_true, Bool.not_true, Bool.not_false, Bool.true_eq_false, decide_true, decide_false, Nat.reduceLeDiff, Nat.reduceLT]
        split
        · simp only [EV, Ab.isNon, args, List.map, List.length_cons, List.length_nil, List.length_singleton, List.replicate, Nat.reduceSub, Nat.reduceAdd, Nat.zero_add, List.cons_append, List.nil_append, List.getElem?_cons_zero, List.getElem?_cons_succ, List.set_cons_zero, List.set_cons_succ, Option.some.injEq, decide_eq_true_eq, Bool.not_eq_true', decide_eq_false_iff_not, ite_true, ite_false, if_true, if_false, reduceIte, Bool.false_eq_true, Bool.not_true, Bool.not_false, Bool.true_eq_false, decide_true, decide_false, Nat.reduceLeDiff, Nat.reduceLT, mn]
          rw [st_k hd5 (by show 4 < 1000000; decide), stv]
          simp only [EV, Ab.isNon, args, List.map, List.length_cons, List.length_nil, List.length_singleton, List.replicate, Nat.reduceSub, Nat.reduceAdd, Nat.zero_add, List.cons_append, List.nil_append, List.getElem?_cons_zero, List.getElem?_cons_succ, List.set_cons_zero, List.set_cons_succ, Option.some.injEq, decide_eq_true_eq, Bool.not_eq_true', decide_eq_false_iff_not, ite_true, ite_false, if_true, if_false, reduceIte, Bool.false_eq_true, Bool.not_true, Bool.not_false, Bool.true_eq_false, decide_true, decide_false, Nat.reduceLeDiff, Nat.reduceLT]
          exact fin DC
        · simp only [EV, Ab.isNon, args, List.map, List.length_cons, List.length_nil, List.length_singleton, List.replicate, Nat.reduceSub, Nat.reduceAdd, Nat.zero_add, List.cons_append, List.nil_append, List.getElem?_cons_zero, List.getElem?_cons_succ, List.set_cons_zero, List.set_cons_succ, Option.some.injEq, decide_eq_true_eq, Bool.not_eq_true', decide_eq_false_iff_not, ite_true, ite_false, if_true, if_false, reduceIte, Bool.false_eq_true, Bool.not_true, Bool.not_false, Bool.true_eq_false, decide_true, decide_false, Nat.reduceLeDiff, Nat.reduceLT, non_meet]
          rw [st_k hd5 (by show 4 < 1000000; decide), stv]
          simp only [EV, Ab.isNon, args, List.map, List.length_cons, List.length_nil, List.length_singleton, List.replicate, Nat.reduceSub, Nat.reduceAdd, Nat.zero_add, List.cons_append, List.nil_append, List.getElem?_cons_zero, List.getElem?_cons_succ, List.set_cons_zero, List.set_cons_succ, Option.some.injEq, decide_eq_true_eq, Bool.not_eq_true', decide_eq_false_iff_not, ite_true, ite_false, if_true, if_false, reduceIte, Bool.false_eq_true, Bool.not_true, Bool.not_false, Bool.true_eq_false, decide_true, decide_false, Nat.reduceLeDiff, Nat.reduceLT]
          exact fin DC
    subst hσ
    refine sat_seq ?_
    simp only [EV, Ab.isNon, args, List.map, List.length_cons, List.length_nil, List.length_singleton, List.replicate, Nat.reduceSub, Nat.reduceAdd, Nat.zero_add, List.cons_append, List.nil_append, List.getElem?_cons_zero, List.getElem?_cons_succ, List.set_cons_zero, List.set_cons_succ, Option.some.injEq, decide_eq_true_eq, Bool.not_eq_true', decide_eq_false_iff_not, ite_true, ite_false, if_true, if_false, reduceIte, Bool.false_eq_true, Bool.not_true, Bool.not_false, Bool.true_eq_false, decide_true, decide_false, Nat.reduceLeDiff, Nat.reduceLT]
    have ld := at_lt hd5
    have hn := at_new (A := D') (o := .lst [])
    have g6 := Gr.app (A := D') (B := [AO.lst []])
    have hd6 := g6.keep _ _ hd5
    have W6 := W.trans (gr_dw g6)
    have lW := W.le
    generalize D' ++ [AO.lst []] = D6 at *
    obtain ⟨Q, eQ⟩ : ∃ Q, D'.length = Q := ⟨_, rfl⟩
    rw [eQ] at hn ld lW ⊢
    rw [st_k hd6 (by show 4 < 1000000; decide)]
    have es2 : setK (stK P n (hullD ps n) .non) (.inr "points") (.ref Q) = stK Q n (hullD ps n) .non := rfl
    rw [es2]
    simp only [EV, Ab.isNon, args, List.map, List.length_cons, List.length_nil, List.length_singleton, List.replicate, Nat.reduceSub, Nat.reduceAdd, Nat.zero_add, List.cons_append, List.nil_append, List.getElem?_cons_zero, List.getElem?_cons_succ, List.set_cons_zero, List.set_cons_succ, Option.some.injEq, decide_eq_true_eq, Bool.not_eq_true', decide_eq_false_iff_not, ite_true, ite_false, if_true, if_false, reduceIte, Bool.false_eq_true, Bool.not_true, Bool.not_false, Bool.true_eq_false, decide_true, decide_false, Nat.reduceLeDiff, Nat.reduceLT]
    have W7 := W6.set (o := .dic (stK Q n (hullD ps n) .non))
    have hd7 := at_set (o := .dic (stK Q n (hullD ps n) .non)) (at_lt hd6)
    have hn7 : (D6.set sd (.dic (stK Q n (hullD ps n) .non)))[Q]? = some (.lst []) := by rw [List.getElem?_set_ne (by omega)]; exact hn
    generalize D6.set sd (.dic (stK Q n (hullD ps n) .non)) = D7 at *
    refine sat_seq ?_
    simp only [EV, Ab.isNon, args, List.map, List.length_cons, List.length_nil, List.length_singleton, List.replicate, Nat.reduceSub, Nat.reduceAdd, Nat.zero_add, List.cons_append, List.nil_append, List.getElem?_cons_zero, List.getElem?_cons_succ, List.set_cons_zero, List.set_cons_succ, Option.some.injEq, decide_eq_true_eq, Bool.not_eq_true', decide_eq_false_iff_not, ite_true, ite_false, if_true, if_false, reduceIte, Bool.false_eq_true, Bool.not_true, Bool.not_false, Bool.true_eq_false, decide_true, decide_false, Nat.reduceLeDiff, Nat.reduceLT, ixk (x := "points") hd7 (v := .ref Q) rfl, ev_iseq_l hn7, wipeA]
    have hn7' : D7[Q]? = some (.lst (([] : List (List Int)).map ptD)) := hn7
    refine comp_filter (qs := ([] : List (List Int))) ptD ptD (fun _ => true) (fun l => rdL_l ((Gr.app (B := [AO.lst l])).keep _ _ hn7)) (fun p' hp' l => by cases hp') (by simp) ?_
    have hn8 := at_new (A := D7) (o := .lst [])
    have g8 := Gr.app (A := D7) (B := [AO.lst []])
    have hd8 := g8.keep _ _ hd7
    have W8 := W7.trans (gr_dw g8)
    have ld7 := at_lt hd7
    have lW7 := W7.le
    simp only [List.filter_nil, List.map_nil]
    generalize D7 ++ [AO.lst []] = D8 at *
    obtain ⟨Q2, eQ2⟩ : ∃ Q, D7.length = Q := ⟨_, rfl⟩
    rw [eQ2] at hn8 ld7 lW7 ⊢
    rw [st_k hd8 (by show 4 < 1000000; decide)]
    have es3 : setK (stK Q n (hullD ps n) .non) (.inr "points") (.ref Q2) = stK Q2 n (hullD ps n) .non := rfl
    rw [es3]
    simp only [EV, Ab.isNon, args, List.map, List.length_cons, List.length_nil, List.length_singleton, List.replicate, Nat.reduceSub, Nat.reduceAdd, Nat.zero_add, List.cons_append, List.nil_append, List.getElem?_cons_zero, List.getElem?_cons_succ, List.set_cons_zero, List.set_cons_succ, Option.some.injEq, decide_eq_true_eq, Bool.not_eq_true', decide_eq_false_iff_not, ite_true, ite_false, if_true, if_false, reduceIte, Bool.false_eq_true, Bool.not_true, Bool.not_false, Bool.true_eq_false, decide_true, decide_false, Nat.reduceLeDiff, Nat.reduceLT]
    exact ⟨W8.set, Q2, n, [], hullD ps n, by omega, by rw [h0]; exact at_set (at_lt hd8), by rw [List.getElem?_set_ne (by omega)]; exact hn8, all_nil n20, fun p hp => by cases hp⟩
  · -- another box
    obtain ⟨F, eF⟩ : ∃ F : List Int → Bool, (fun p => bel cs.length qs (partL cs p)) = F := ⟨_, rfl⟩
    have tie := fun (A : AH) => tie_hull (A := A) al lc (fun c h => (hc c h).2) qne
    have alF : All n (ps.filter F) := by rw [← eF]; exact (tie A).2
    have mt : c ≠ 1 → ∀ A, Sat (m_meet_boxes [hullD ps n, hullD qs cs.length] A) (fun d A' => Gr A A' ∧ d = hullD (ps.filter F) n) ∧ Sat (m_meet_boxes [hullD qs cs.length, hullD ps n] A) (fun d A' => Gr A A' ∧ d = hullD (ps.filter F) n) := fun h A => by
      have e := cc h
      have ln : cs.length = n := by rw [e]; exact allC_ok.1
      have ef : ps.filter F = ps.filter (bel n qs) := List.filter_congr fun p hp => by
        rw [← eF]
        show bel cs.length qs (partL cs p) = _
        rw [ln, e, part_all (al.len p hp)]
      rw [ef, ln]
      have := meet_hull (A := A) al qne
      exact ⟨this.1, this.2.1⟩
    refine sat_mid (fun σ D' => Dw s sd A D' ∧ D'[sd]? = some (.dic (stK P n (hullD ps n) (hullD (ps.filter F) n))) ∧ σ = [some (.ref s), some (.ref sd), some (.ref P), some (.int (n : Nat)), some (hullD ps n), some (ptD p), some (.int c), some (clD cs), some (hullD qs cs.length), none, none, none, none, none]) ?_ fun σ D' ⟨W, hd5, hσ⟩ => ?_
    · have fin : ∀ {C : AH}, Dr s A C → ∃ σ' : ASt, Fl.nx [some (.ref s), some (.ref sd), some (.ref P), some (.int (n : Nat)), some (hullD ps n), some (ptD p), some (.int c), some (clD cs), some (hullD qs cs.length), none, none, none, none, none] = .nx σ' ∧ Dw s sd A (C.set sd (.dic (stK P n (hullD ps n) (hullD (ps.filter F) n)))) ∧ (C.set sd (.dic (stK P n (hullD ps n) (hullD (ps.filter F) n))))[sd]? = some (.dic (stK P n (hullD ps n) (hullD (ps.filter F) n))) ∧ σ' = [some (.ref s), some (.ref sd), some (.ref P), some (.int (n : Nat)), some (hullD ps n), some (ptD p), some (.int c), some (clD cs), some (hullD qs cs.length), none, none, none, none, none] := fun {C} d => ⟨_, rfl, (dr_dw d).set, at_set (at_lt (d.keep _ _ ds hd)), rfl⟩
      simp only [EV, Ab.isNon, args, List.map, List.length_cons, List.length_nil, List.length_singleton, List.replicate, Nat.reduceSub, Nat.reduceAdd, Nat.zero_add, List.cons_append, List.nil_append, List.getElem?_cons_zero, List.getElem?_cons_succ, List.set_cons_zero, List.set_cons_succ, Option.some.injEq, decide_eq_true_eq, Bool.not_eq_true', decide_eq_false_iff_not, ite_true, ite_false, if_true, if_false, reduceIte, Bool.false_eq_true, Bool.not_true, Bool.not_false, Bool.true_eq_false, decide_true, decide_false, Nat.reduceLeDiff, Nat.reduceLT]
      split
      · refine Sat.imp (tie C).1 fun d C1 ⟨G1, e⟩ => ?_
        subst e
        have DC := DC.trans (G1.dr DC.src)
        rw [eF, st_k (DC.keep _ _ ds hd) (by show 4 < 1000000; decide), stv]
        simp only [EV, Ab.isNon, args, List.map, List.length_cons, List.length_nil, List.length_singleton, List.replicate, Nat.reduceSub, Nat.reduceAdd, Nat.zero_add, List.cons_append, List.nil_append, List.getElem?_cons_zero, List.getElem?_cons_succ, List.set_cons_zero, List.set_cons_succ, Option.some.injEq, decide_eq_true_eq, Bool.not_eq_true', decide_eq_false_iff_not, ite_true, ite_false, if_true, if_false, reduceIte, Bool.false_eq_true, Bool.not_true, Bool.not_false, Bool.true_eq_false, decide_true, decide_false, Nat.reduceLeDiff, Nat.reduceLT]
        exact fin DC
      · rename_i c1'
        refine Sat.imp (pick_pos DC.src (n := 2) (by decide) (by decide)) fun d C1 ⟨⟨u, e, u0, u1⟩, E1⟩ => ?_
        subst e
        have DC := DC.trans E1
        simp only [EV, Ab.isNon, args, List.map, List.length_cons, List.length_nil, List.length_singleton, List.replicate, Nat.reduceSub, Nat.reduceAdd, Nat.zero_add, List.cons_append, List.nil_append, List.getElem?_cons_zero, List.getElem?_cons_succ, List.set_cons_zero, List.set_cons_succ, Option.some.injEq, decide_eq_true_eq, Bool.not_eq_true', decide_eq_false_iff_not, ite_true, ite_false, if_true, if_false, reduceIte, Bool.false_eq_true, Bool.not_true, Bool.not_false, Bool.true_eq_false, decide_true, decide_false, Nat.reduceLeDiff, Nat.reduceLT]
        split
        · refine Sat.imp (mt c1' C1).1 fun d C2 ⟨G2, e⟩ => ?_
          subst e
          have DC := DC.trans (G2.dr DC.src)
          rw [st_k (DC.keep _ _ ds hd) (by show 4 < 1000000; decide), stv]
          simp only [EV, Ab.isNon, args, List.map, List.length_cons, List.length_nil, List.length_singleton, List.replicate, Nat.reduceSub, Nat.reduceAdd, Nat.zero_add, List.cons_append, List.nil_append, List.getElem?_cons_zero, List.getElem?_cons_succ, List.set_cons_zero, List.set_cons_succ, Option.some.injEq, decide_eq_true_eq, Bool.not_eq_true', decide_eq_false_iff_not, ite_true, ite_false, if_true, if_false, reduceIte, Bool.false_eq_true, Bool.not_true, Bool.not_false, Bool.true_eq_false, decide_true, decide_false, Nat.reduceLeDiff, Nat.reduceLT]
          exact fin DC
        · refine Sat.imp (mt c1' C1).2 fun d C2 ⟨G2, e⟩ => ?_
          subst e
          have DC := DC.trans (G2.dr DC.src)
          rw [st_k (DC.keep _ _ ds hd) (by show 4 < 1000000; decide), stv]
          simp only [EV, Ab.isNon, args, List.map, List.length_cons, List.length_nil, List.length_singleton, List.replicate, Nat.reduceSub, Nat.reduceAdd, Nat.zero_add, List.cons_append, List.nil_append, List.getElem?_cons_zero, List.getElem?_cons_succ, List.set_cons_zero, List.set_cons_succ, Option.some.injEq, decide_eq_true_eq, Bool.not_eq_true', decide_eq_false_iff_not, ite_true, ite_false, if_true, if_false, reduceIte, Bool.false_eq_true, Bool.not_true, Bool.not_false, Bool.true_eq_false, decide_true, decide_false, Nat.reduceLeDiff, Nat.reduceLT]
          exact fin DC
    subst hσ
    have hP5 := W.keep _ _ Ps Pd hP
    have hq : hullD qs cs.length = matD (cs.length + 1) (mx qs) := if_neg qne
    obtain ⟨es, he⟩ : ∃ es, hullD qs cs.length = .tup es := ⟨_, hq⟩
    refine sat_seq ?_
    simp only [EV, Ab.isNon, args, List.map, List.length_cons, List.length_nil, List.length_singleton, List.replicate, Nat.reduceSub, Nat.reduceAdd, Nat.zero_add, List.cons_append, List.nil_append, List.getElem?_cons_zero, List.getElem?_cons_succ, List.set_cons_zero, List.set_cons_succ, Option.some.injEq, decide_eq_true_eq, Bool.not_eq_true', decide_eq_false_iff_not, ite_true, ite_false, if_true, if_false, reduceIte, Bool.false_eq_true, Bool.not_true, Bool.not_false, Bool.true_eq_false, decide_true, decide_false, Nat.reduceLeDiff, Nat.reduceLT]
    split
    · rename_i hh
      exfalso
      rw [he] at hh
      cases hh
    refine sat_seq ?_
    simp only [EV, Ab.isNon, args, List.map, List.length_cons, List.length_nil, List.length_singleton, List.replicate, Nat.reduceSub, Nat.reduceAdd, Nat.zero_add, List.cons_append, List.nil_append, List.getElem?_cons_zero, List.getElem?_cons_succ, List.set_cons_zero, List.set_cons_succ, Option.some.injEq, decide_eq_true_eq, Bool.not_eq_true', decide_eq_false_iff_not, ite_true, ite_false, if_true, if_false, reduceIte, Bool.false_eq_true, Bool.not_true, Bool.not_false, Bool.true_eq_false, decide_true, decide_false, Nat.reduceLeDiff, Nat.reduceLT, ixk (x := "points") hd5 (v := .ref P) rfl, ev_iseq_l hP5, wipeA]
    refine comp_fgr ptD ptD F (fun E g => rdL_l (g.keep _ _ hP5)) (fun p' hp' E g => ?_) (by omega) fun E gE hE => ?_
    · have pl' := al.len p' hp'
      simp only [EV, Ab.isNon, args, List.map, List.length_cons, List.length_nil, List.length_singleton, List.replicate, Nat.reduceSub, Nat.reduceAdd, Nat.zero_add, List.cons_append, List.nil_append, List.getElem?_cons_zero, List.getElem?_cons_succ, List.set_cons_zero, List.set_cons_succ, Option.some.injEq, decide_eq_true_eq, Bool.not_eq_true', decide_eq_false_iff_not, ite_true, ite_false, if_true, if_false, reduceIte, Bool.false_eq_true, Bool.not_true, Bool.not_false, Bool.true_eq_false, decide_true, decide_false, Nat.reduceLeDiff, Nat.reduceLT]
      refine ⟨trivial, ?_⟩
      refine Sat.imp (part_spec pl' hc (by omega)) fun d E2 ⟨G2, e⟩ => ?_
      subst e
      have ql' : (partL cs p').length = cs.length := by unfold partL; rw [List.length_map]
      have bs : m__law_belongs [hullD qs cs.length, ptD (partL cs p')] E2 = .ok (.bl (F p')) E2 := by
        rw [hq]
        exact belongs_spec lc ql' (by rw [← eF]; unfold bel; exact decide_eq_true_iff)
      simp only [EV, Ab.isNon, args, List.map, List.length_cons, List.length_nil, List.length_singleton, List.replicate, Nat.reduceSub, Nat.reduceAdd, Nat.zero_add, List.cons_append, List.nil_append, List.getElem?_cons_zero, List.getElem?_cons_succ, List.set_cons_zero, List.set_cons_succ, Option.some.injEq, decide_eq_true_eq, Bool.not_eq_true', decide_eq_false_iff_not, ite_true, ite_false, if_true, if_false, reduceIte, Bool.false_eq_true, Bool.not_true, Bool.not_false, Bool.true_eq_false, decide_true, decide_false, Nat.reduceLeDiff, Nat.reduceLT, bs]
      exact ⟨by first | trivial | rfl, G2, by first | trivial | rfl, by first | trivial | rfl⟩
    · have hd6 := gE.keep _ _ hd5
      have ld := at_lt hd5
      have lW := W.le
      obtain ⟨Q, eQ⟩ : ∃ Q, D'.length = Q := ⟨_, rfl⟩
      rw [eQ] at hE ld lW ⊢
      rw [st_k hd6 (by show 4 < 1000000; decide)]
      have es3 : setK (stK P n (hullD ps n) (hullD (ps.filter F) n)) (.inr "points") (.ref Q) = stK Q n (hullD ps n) (hullD (ps.filter F) n) := rfl
      rw [es3]
      simp only [EV, Ab.isNon, args, List.map, List.length_cons, List.length_nil, List.length_singleton, List.replicate, Nat.reduceSub, Nat.reduceAdd, Nat.zero_add, List.cons_append, List.nil_append, List.getElem?_cons_zero, List.getElem?_cons_succ, List.set_cons_zero, List.set_cons_succ, Option.some.injEq, decide_eq_true_eq, Bool.not_eq_true', decide_eq_false_iff_not, ite_true, ite_false, if_true, if_false, reduceIte, Bool.false_eq_true, Bool.not_true, Bool.not_false, Bool.true_eq_false, decide_true, decide_false, Nat.reduceLeDiff, Nat.reduceLT]
      exact ⟨(W.trans (gr_dw gE)).set, Q, n, ps.filter F, hullD ps n, by omega, at_set (at_lt hd6), by rw [List.getElem?_set_ne (by omega)]; exact hE, alF, bd_filter bd⟩
end Law

namespace Law
open PySem PySem.Spec PyProof.Rows L2 Ab
open scoped Classical
/-! ### columns change -/
theorem hull_same {n : Nat} {ps E : List (List Int)} (al : All n ps) (e : ∀ p, p ∈ E ↔ p ∈ ps) (few : E.length ≤ 5000) : hullD E n = hullD ps n ∧ All n E := by
  by_cases ne : ps = []
  · subst ne
    have eE : E = [] := by
      cases h : E with
      | nil => rfl
      | cons a l => have := (e a).mp (by rw [h]; exact List.mem_cons_self ..); cases this
    rw [eE]
    exact ⟨rfl, al⟩
  · have b : Bq n (fun p => p ∈ ps) (some (mx ps)) := (bq_self (mx_cl ne)).congr fun p => (al.iff ne p).symm
    have h1 := bq_done b e al.n20 few
    have h2 := bq_done b (E := ps) (fun p => Iff.rfl) al.n20 al.few
    exact ⟨h1.1.symm.trans h2.1, h1.2⟩
theorem bd_up {b c : Int} {ps : List (List Int)} (h : Bd b ps) (le : b ≤ c) : Bd c ps := fun p hp k => by have := h p hp k; omega
theorem bd_set {b c : Int} {n i : Nat} {ps E : List (List Int)} (h : Bd b ps) (len : ∀ p ∈ ps, p.length = n) (le : b ≤ c) (i1 : 1 ≤ i) (i2 : i ≤ n) (e : ∀ q ∈ E, ∃ p ∈ ps, ∃ v, -c ≤ v ∧ v ≤ c ∧ q = p.set (i - 1) v) : Bd c E := fun q hq k => by
  obtain ⟨p, hp, v, v0, v1, rfl⟩ := e q hq
  rw [at0_set i1 (by rw [len p hp]; exact i2)]
  split
  · exact ⟨v0, v1⟩
  · have := h p hp k; omega
theorem bd_part {b : Int} {cs : List Nat} {ps E : List (List Int)} (h : Bd b ps) (e : ∀ q ∈ E, ∃ p ∈ ps, q = partL cs p) : Bd b E := fun q hq k => by
  obtain ⟨p, hp, rfl⟩ := e q hq
  rw [at0_part]
  exact h p hp _
theorem bd_app {b c : Int} {pr : List (Int × Int)} {ps E : List (List Int)} (h : Bd b ps) (b0 : 0 ≤ b) (le : b ≤ c) (hr : ∀ r ∈ pr, -c ≤ r.1 ∧ r.2 ≤ c) (e : ∀ q ∈ E, ∃ p ∈ ps, ∃ x, Rgs pr x ∧ q = p ++ x) : Bd c E := fun q hq k => by
  obtain ⟨p, hp, x, ⟨xl, xr⟩, rfl⟩ := e q hq
  rw [at0_app]
  split
  · have := h p hp k; omega
  · by_cases kl : k - (p.length + 1) < pr.length
    · have := xr _ kl
      have hm := hr _ (List.getElem_mem kl)
      rw [List.getD_eq_getElem?_getD, List.getElem?_map, List.getElem?_eq_getElem kl, List.getD_eq_getElem?_getD (l := pr.map Prod.snd), List.getElem?_map, List.getElem?_eq_getElem kl] at this
      have this : pr[k - (p.length + 1)].1 ≤ x.getD (k - (p.length + 1)) 0 ∧ x.getD (k - (p.length + 1)) 0 ≤ pr[k - (p.length + 1)].2 := this
      omega
    · rw [List.getD_eq_getElem?_getD, List.getElem?_eq_none (by omega)]
      show -c ≤ (0 : Int) ∧ (0 : Int) ≤ c
      omega
theorem inr_rgs {pr : List (Int × Int)} {x : List Int} : Inr pr pr.length x ↔ Rgs pr x := by
  have a : ∀ t, fst0 pr (t + 1) = (pr.map Prod.fst).getD t 0 := fun t => by
    unfold fst0
    rw [List.getD_eq_getElem?_getD, List.getElem?_cons_succ, List.getD_eq_getElem?_getD, List.getElem?_map]
    cases pr[t]? <;> rfl
  have b : ∀ t, snd0 pr (t + 1) = (pr.map Prod.snd).getD t 0 := fun t => by
    unfold snd0
    rw [List.getD_eq_getElem?_getD, List.getElem?_cons_succ, List.getD_eq_getElem?_getD, List.getElem?_map]
    cases pr[t]? <;> rfl
  unfold Inr Rgs
  refine and_congr Iff.rfl (forall_congr' fun t => forall_congr' fun _ => ?_)
  rw [a, b, at0_s]
/-- what was found, by the choice -/
def Fact (c : Int) (n i : Nat) (cs : List Nat) (pr : List (Int × Int)) (ps : List (List Int)) (n' : Nat) (E : List (List Int)) (l h : Int) : Prop :=
  (c = 0 ∧ n' = cs.length ∧ ∀ q, q ∈ E ↔ ∃ p ∈ ps, q = partL cs p) ∨
  (c = 1 ∧ n' = n ∧ 0 < n ∧ ∀ q, q ∈ E ↔ ∃ p ∈ ps, ∃ v, (l ≤ v ∧ v ≤ h) ∧ q = p.set (i - 1) v) ∨
  (c = 2 ∧ n' = n ∧ 0 < n ∧ l ≤ h ∧ ∀ q, q ∈ E ↔ ∃ p ∈ ps, ∃ w, (l ≤ w ∧ w ≤ h) ∧ q = p.set (i - 1) (at0 p i + w)) ∨
  ((c = 1 ∨ c = 2) ∧ n = 0 ∧ n' = n ∧ E = ps) ∨
  (c = 3 ∧ n' = n + pr.length ∧ ∀ q, q ∈ E ↔ ∃ p ∈ ps, ∃ x, Rgs pr x ∧ q = p ++ x)
def chS (s sd P n' : Nat) (box : D) (c : Int) (cs : List Nat) (i : Nat) (l h : Int) (Q R : Nat) (x12 x13 x14 : Option D) : ASt := [some (.ref s), some (.ref sd), some (.ref P), some (.int (n' : Nat)), some box, some (.int c), some (clD cs), some (.int (i : Nat)), some (.int l), some (.int h), some (.ref Q), some (.ref R), x12, x13, x14]
/-- what was found so far: the choices below j are done -/
def Kq (A : AH) (s sd P n : Nat) (c : Int) (cs : List Nat) (i : Nat) (lo hi : Int) (R : Nat) (pr : List (Int × Int)) (ps : List (List Int)) (b : Int) (j : Int) (σ : ASt) (C : AH) : Prop :=
  Dr s A C ∧ C[R]? = some (.lst (pr.map prD)) ∧ ∃ (n' Q : Nat) (E : List (List Int)) (l h : Int) (x12 x13 x14 : Option D), σ = chS s sd P n' (hullD ps n) c cs i l h Q R x12 x13 x14 ∧ Q ≠ s ∧ C[Q]? = some (.lst (E.map ptD)) ∧ E.length ≤ 700000 ∧ Bd (b + 10) E ∧ ((c < j ∧ Fact c n i cs pr ps n' E l h) ∨ (j ≤ c ∧ n' = n ∧ E = ps ∧ Q = P ∧ l = lo ∧ h = hi))
theorem change_spec {A : AH} {s sd P n : Nat} {b : Int} {ps : List (List Int)} (hs : Sr s A) (hd : A[sd]? = some (.dic (stK P n (hullD ps n) (hullD ps n)))) (hP : A[P]? = some (.lst (ps.map ptD))) (Ps : P ≠ s) (al : All n ps) (bd : Bd b ps) (b0 : 0 ≤ b) (b1 : b ≤ 5000000000) :
    Sat (m__law_change [.ref s, .ref sd] A) fun d B => Aft A s sd (b + 10) B := by
  have sl := hs.lt
  have n20 := al.n20
  have few := al.few
  have ds : sd ≠ s := fun e => by
    obtain ⟨x, y, z, h⟩ := hs
    rw [e, h] at hd; cases hd
  have Pd : P ≠ sd := fun e => by rw [e, hd] at hP; cases hP
  refine sat_body rfl (sat_seq ?_)
  simp only [EV, Ab.isNon, args, List.map, List.length_cons, List.length_nil, List.length_singleton, List.replicate, Nat.reduceSub, Nat.reduceAdd, Nat.zero_add, List.cons_append, List.nil_append, List.getElem?_cons_zero, List.getElem?_cons_succ, List.set_cons_zero, List.set_cons_succ, Option.some.injEq, decide_eq_true_eq, Bool.not_eq_true', decide_eq_false_iff_not, ite_true, ite_false, if_true, if_false, reduceIte, Bool.false_eq_true, Bool.not_true, Bool.not_false, Bool.true_eq_false, decide_true, decide_false, Nat.reduceLeDiff, Nat.reduceLT, ixk (x := "points") hd (v := .ref P) rfl]
  refine sat_seq ?_
  simp only [EV, Ab.isNon, args, List.map, List.length_cons, List.length_nil, List.length_singleton, List.replicate, Nat.reduceSub, Nat.reduceAdd, Nat.zero_add, List.cons_append, List.nil_append, List.getElem?_cons_zero, List.getElem?_cons_succ, List.set_cons_zero, List.set_cons_succ, Option.some.injEq, decide_eq_true_eq, Bool.not_eq_true', decide_eq_false_iff_not, ite_true, ite_false, if_true, if_false, reduceIte, Bool.false_eq_true, Bool.not_true, Bool.not_false, Bool.true_eq_false, decide_true, decide_false, Nat.reduceLeDiff, Nat.reduceLT, ixk (x := "size") hd (v := .int (n : Nat)) rfl]
  refine sat_seq ?_
  simp only [EV, Ab.isNon, args, List.map, List.length_cons, List.length_nil, List.length_singleton, List.replicate, Nat.reduceSub, Nat.reduceAdd, Nat.zero_add, List.cons_append, List.nil_append, List.getElem?_cons_zero, List.getElem?_cons_succ, List.set_cons_zero, List.set_cons_succ, Option.some.injEq, decide_eq_true_eq, Bool.not_eq_true', decide_eq_false_iff_not, ite_true, ite_false, if_true, if_false, reduceIte, Bool.false_eq_true, Bool.not_true, Bool.not_false, Bool.true_eq_false, decide_true, decide_false, Nat.reduceLeDiff, Nat.reduceLT, ixk (x := "box") hd (v := hullD ps n) rfl]
  refine sat_seq ?_
  simp only [EV, Ab.isNon, args, List.map, List.length_cons, List.length_nil, List.length_singleton, List.replicate, Nat.reduceSub, Nat.reduceAdd, Nat.zero_add, List.cons_append, List.nil_append, List.getElem?_cons_zero, List.getElem?_cons_succ, List.set_cons_zero, List.set_cons_succ, Option.some.injEq, decide_eq_true_eq, Bool.not_eq_true', decide_eq_false_iff_not, ite_true, ite_false, if_true, if_false, reduceIte, Bool.false_eq_true, Bool.not_true, Bool.not_false, Bool.true_eq_false, decide_true, decide_false, Nat.reduceLeDiff, Nat.reduceLT]
  refine Sat.imp (pick_pos hs (n := 4) (by decide) (by decide)) fun d A1 ⟨⟨c, e, c0, c4⟩, D1⟩ => ?_
  subst e
  -- columns
  refine sat_seq ?_
  simp only [EV, Ab.isNon, args, List.map, List.length_cons, List.length_nil, List.length_singleton, List.replicate, Nat.reduceSub, Nat.reduceAdd, Nat.zero_add, List.cons_append, List.nil_append, List.getElem?_cons_zero, List.getElem?_cons_succ, List.set_cons_zero, List.set_cons_succ, Option.some.injEq, decide_eq_true_eq, Bool.not_eq_true', decide_eq_false_iff_not, ite_true, ite_false, if_true, if_false, reduceIte, Bool.false_eq_true, Bool.not_true, Bool.not_false, Bool.true_eq_false, decide_true, decide_false, Nat.reduceLeDiff, Nat.reduceLT]
  have hL := at_new (A := A1) (o := .lst [.int 4, .int 4, .int 7])
  have D2 := D1.trans (Dr.app D1.src [AO.lst [.int 4, .int 4, .int 7]])
  have lB := D1.le
  generalize A1 ++ [AO.lst [.int 4, .int 4, .int 7]] = A2 at *
  refine Sat.imp (pick_pos D2.src (n := 3) (by decide) (by decide)) fun d A3 ⟨⟨u, e, u0, u1⟩, D3⟩ => ?_
  subst e
  have hL := D3.keep _ _ (by omega) hL
  obtain ⟨w, hw, w9⟩ : ∃ w : Nat, ixD (.ref A1.length) (.int u) A3 = .ok (.int (w : Nat)) A3 ∧ w ≤ 7 := by
    have ix : ∀ {x : Int}, ([.int 4, .int 4, .int 7] : List D)[u.toNat]? = some (.int x) → ixD (.ref A1.length) (.int u) A3 = .ok (.int x) A3 := fun {x} h => ev_ix_r (rdL_l hL) (by rw [atI_pos u0]; exact h)
    have c3 : u = 0 ∨ u = 1 ∨ u = 2 := by omega
    rcases c3 with rfl | rfl | rfl
    · exact ⟨4, ix rfl, by decide⟩
    · exact ⟨4, ix rfl, by decide⟩
    · exact ⟨7, ix rfl, by decide⟩
  simp only [EV, Ab.isNon, args, List.map, List.length_cons, List.length_nil, List.length_singleton, List.replicate, Nat.reduceSub, Nat.reduceAdd, Nat.zero_add, List.cons_append, List.nil_append, List.getElem?_cons_zero, List.getElem?_cons_succ, List.set_cons_zero, List.set_cons_succ, Option.some.injEq, decide_eq_true_eq, Bool.not_eq_true', decide_eq_false_iff_not, ite_true, ite_false, if_true, if_false, reduceIte, Bool.false_eq_true, Bool.not_true, Bool.not_false, Bool.true_eq_false, decide_true, decide_false, Nat.reduceLeDiff, Nat.reduceLT, hw]
  refine Sat.imp (columns_spec (D2.trans D3).src n20 (by omega)) fun d A4 ⟨D4, cs, e, hc, lc⟩ => ?_
  subst e
  have DA := D2.trans (D3.trans D4)
  -- a column, a range
  refine sat_seq ?_
  simp only [EV, Ab.isNon, args, List.map, List.length_cons, List.length_nil, List.length_singleton, List.replicate, Nat.reduceSub, Nat.reduceAdd, Nat.zero_add, List.cons_append, List.nil_append, List.getElem?_cons_zero, List.getElem?_cons_succ, List.set_cons_zero, List.set_cons_succ, Option.some.injEq, decide_eq_true_eq, Bool.not_eq_true', decide_eq_false_iff_not, ite_true, ite_false, if_true, if_false, reduceIte, Bool.false_eq_true, Bool.not_true, Bool.not_false, Bool.true_eq_false, decide_true, decide_false, Nat.reduceLeDiff, Nat.reduceLT]
  refine Sat.imp (pick_spec DA.src (n := ((n : Nat) : Int)) (by omega)) fun d A5 ⟨⟨i, e, i0, i1⟩, D5⟩ => ?_
  subst e
  obtain ⟨i, ei, ib⟩ : ∃ m : Nat, 1 + i = (m : Nat) ∧ (1 ≤ m ∧ (0 < n → m ≤ n)) := ⟨(1 + i).toNat, by omega, by omega, fun h => by omega⟩
  simp only [EV, Ab.isNon, args, List.map, List.length_cons, List.length_nil, List.length_singleton, List.replicate, Nat.reduceSub, Nat.reduceAdd, Nat.zero_add, List.cons_append, List.nil_append, List.getElem?_cons_zero, List.getElem?_cons_succ, List.set_cons_zero, List.set_cons_succ, Option.some.injEq, decide_eq_true_eq, Bool.not_eq_true', decide_eq_false_iff_not, ite_true, ite_false, if_true, if_false, reduceIte, Bool.false_eq_true, Bool.not_true, Bool.not_false, Bool.true_eq_false, decide_true, decide_false, Nat.reduceLeDiff, Nat.reduceLT, ei]
  have DA := DA.trans D5
  refine sat_seq ?_
  simp only [EV, Ab.isNon, args, List.map, List.length_cons, List.length_nil, List.length_singleton, List.replicate, Nat.reduceSub, Nat.reduceAdd, Nat.zero_add, List.cons_append, List.nil_append, List.getElem?_cons_zero, List.getElem?_cons_succ, List.set_cons_zero, List.set_cons_succ, Option.some.injEq, decide_eq_true_eq, Bool.not_eq_true', decide_eq_false_iff_not, ite_true, ite_false, if_true, if_false, reduceIte, Bool.false_eq_true, Bool.not_true, Bool.not_false, Bool.true_eq_false, decide_true, decide_false, Nat.reduceLeDiff, Nat.reduceLT]
  refine Sat.imp (pick_pos DA.src (n := 5) (by decide) (by decide)) fun d A6 ⟨⟨l, e, l0, l1⟩, D6⟩ => ?_
  subst e
  simp only [EV, Ab.isNon, args, List.map, List.length_cons, List.length_nil, List.length_singleton, List.replicate, Nat.reduceSub, Nat.reduceAdd, Nat.zero_add, List.cons_append, List.nil_append, List.getElem?_cons_zero, List.getElem?_cons_succ, List.set_cons_zero, List.set_cons_succ, Option.some.injEq, decide_eq_true_eq, Bool.not_eq_true', decide_eq_false_iff_not, ite_true, ite_false, if_true, if_false, reduceIte, Bool.false_eq_true, Bool.not_true, Bool.not_false, Bool.true_eq_false, decide_true, decide_false, Nat.reduceLeDiff, Nat.reduceLT]
  have DA := DA.trans D6
  refine sat_seq ?_
  simp only [EV, Ab.isNon, args, List.map, List.length_cons, List.length_nil, List.length_singleton, List.replicate, Nat.reduceSub, Nat.reduceAdd, Nat.zero_add, List.cons_append, List.nil_append, List.getElem?_cons_zero, List.getElem?_cons_succ, List.set_cons_zero, List.set_cons_succ, Option.some.injEq, decide_eq_true_eq, Bool.not_eq_true', decide_eq_false_iff_not, ite_true, ite_false, if_true, if_false, reduceIte, Bool.false_eq_true, Bool.not_true, Bool.not_false, Bool.true_eq_false, decide_true, decide_false, Nat.reduceLeDiff, Nat.reduceLT]
  refine Sat.imp (pick_pos DA.src (n := 3) (by decide) (by decide)) fun d A7 ⟨⟨h, e, h0, h1⟩, D7⟩ => ?_
  subst e
  simp only [EV, Ab.isNon, args, List.map, List.length_cons, List.length_nil, List.length_singleton, List.replicate, Nat.reduceSub, Nat.reduceAdd, Nat.zero_add, List.cons_append, List.nil_append, List.getElem?_cons_zero, List.getElem?_cons_succ, List.set_cons_zero, List.set_cons_succ, Option.some.injEq, decide_eq_true_eq, Bool.not_eq_true', decide_eq_false_iff_not, ite_true, ite_false, if_true, if_false, reduceIte, Bool.false_eq_true, Bool.not_true, Bool.not_false, Bool.true_eq_false, decide_true, decide_false, Nat.reduceLeDiff, Nat.reduceLT]
  have DA := DA.trans D7
  obtain ⟨lo, elo, lo0, lo1⟩ : ∃ lo : Int, l - 2 = lo ∧ -2 ≤ lo ∧ lo ≤ 2 := ⟨_, rfl, by omega, by omega⟩
  obtain ⟨hi, ehi, hi0, hi1⟩ : ∃ hi : Int, lo + h = hi ∧ lo ≤ hi ∧ hi ≤ lo + 2 := ⟨_, rfl, by omega, by omega⟩
  rw [elo, ehi]
  refine sat_seq ?_
  simp only [EV, Ab.isNon, args, List.map, List.length_cons, List.length_nil, List.length_singleton, List.replicate, Nat.reduceSub, Nat.reduceAdd, Nat.zero_add, List.cons_append, List.nil_append, List.getElem?_cons_zero, List.getElem?_cons_succ, List.set_cons_zero, List.set_cons_succ, Option.some.injEq, decide_eq_true_eq, Bool.not_eq_true', decide_eq_false_iff_not, ite_true, ite_false, if_true, if_false, reduceIte, Bool.false_eq_true, Bool.not_true, Bool.not_false, Bool.true_eq_false, decide_true, decide_false, Nat.reduceLeDiff, Nat.reduceLT]
  -- the pairs
  refine sat_seq ?_
  simp only [EV, Ab.isNon, args, List.map, List.length_cons, List.length_nil, List.length_singleton, List.replicate, Nat.reduceSub, Nat.reduceAdd, Nat.zero_add, List.cons_append, List.nil_append, List.getElem?_cons_zero, List.getElem?_cons_succ, List.set_cons_zero, List.set_cons_succ, Option.some.injEq, decide_eq_true_eq, Bool.not_eq_true', decide_eq_false_iff_not, ite_true, ite_false, if_true, if_false, reduceIte, Bool.false_eq_true, Bool.not_true, Bool.not_false, Bool.true_eq_false, decide_true, decide_false, Nat.reduceLeDiff, Nat.reduceLT]
  have el : [D.tup [.int lo, .int hi], .tup [.int hi, .int (hi + 1)]] = [(lo, hi), (hi, hi + 1)].map prD := rfl
  rw [el]
  obtain ⟨pr2, epr2⟩ : ∃ pr2, [(lo, hi), (hi, hi + 1)] = pr2 := ⟨_, rfl⟩
  rw [epr2]
  have hL := at_new (A := A7) (o := .lst (pr2.map prD))
  have D8 := DA.trans (Dr.app DA.src [AO.lst (pr2.map prD)])
  have lA7 := DA.le
  generalize A7 ++ [AO.lst (pr2.map prD)] = A8 at *
  refine Sat.imp (pick_pos D8.src (n := 2) (by decide) (by decide)) fun d A9 ⟨⟨u, e, u0, u1⟩, D9⟩ => ?_
  subst e
  have hL := D9.keep _ _ (by omega) hL
  have DA := D8.trans D9
  obtain ⟨k, ek, k1, k2⟩ : ∃ k : Nat, 1 + u = (k : Nat) ∧ 1 ≤ k ∧ k ≤ 2 := ⟨(1 + u).toNat, by omega, by omega, by omega⟩
  simp only [EV, Ab.isNon, args, List.map, List.length_cons, List.length_nil, List.length_singleton, List.replicate, Nat.reduceSub, Nat.reduceAdd, Nat.zero_add, List.cons_append, List.nil_append, List.getElem?_cons_zero, List.getElem?_cons_succ, List.set_cons_zero, List.set_cons_succ, Option.some.injEq, decide_eq_true_eq, Bool.not_eq_true', decide_eq_false_iff_not, ite_true, ite_false, if_true, if_false, reduceIte, Bool.false_eq_true, Bool.not_true, Bool.not_false, Bool.true_eq_false, decide_true, decide_false, Nat.reduceLeDiff, Nat.reduceLT, ek, ev_sl_l hL, cut_hd]
  rw [← List.map_take]
  obtain ⟨pr, epr⟩ : ∃ pr, pr2.take k = pr := ⟨_, rfl⟩
  rw [epr]
  have prl : pr.length ≤ 2 := by rw [← epr, ← epr2, List.length_take]; simp; omega
  have prm : ∀ r ∈ pr, r.1 ≤ r.2 ∧ -2 ≤ r.1 ∧ r.2 ≤ 5 ∧ r.2 ≤ r.1 + 2 := fun r hr => by
    rw [← epr, ← epr2] at hr
    have := List.mem_of_mem_take hr
    simp only [List.mem_cons, List.not_mem_nil, or_false] at this
    rcases this with rfl | rfl
    · exact ⟨hi0, lo0, by show hi ≤ 5; omega, hi1⟩
    · exact ⟨by show hi ≤ hi + 1; omega, by show -2 ≤ hi; omega, by show hi + 1 ≤ 5; omega, by show hi + 1 ≤ hi + 2; omega⟩
  have hR := at_new (A := A9) (o := .lst (pr.map prD))
  have DB := DA.trans (Dr.app DA.src [AO.lst (pr.map prD)])
  have lA9 := DA.le
  generalize A9 ++ [AO.lst (pr.map prD)] = B at *
  obtain ⟨R, eR⟩ : ∃ R, A9.length = R := ⟨_, rfl⟩
  rw [eR] at hR lA9 ⊢
  have Rs : R ≠ s := by omega
  have hP9 := DB.keep _ _ Ps hP
  have pos : ps ≠ [] → 0 < ps.length := List.length_pos_iff.mpr
  -- parts of the points
  refine sat_mid (fun σ C => Kq A s sd P n c cs i lo hi R pr ps b 1 σ C) ?_ fun σ C K1 => ?_
  · simp only [EV, Ab.isNon, args, List.map, List.length_cons, List.length_nil, List.length_singleton, List.replicate, Nat.reduceSub, Nat.reduceAdd, Nat.zero_add, List.cons_append, List.nil_append, List.getElem?_cons_zero, List.getElem?_cons_succ, List.set_cons_zero, List.set_cons_succ, Option.some.injEq, decide_eq_true_eq, Bool.not_eq_true', decide_eq_false_iff_not, ite_true, ite_false, if_true, if_false, reduceIte, Bool.false_eq_true, Bool.not_true, Bool.not_false, Bool.true_eq_false, decide_true, decide_false, Nat.reduceLeDiff, Nat.reduceLT]
    by_cases q : c = 0
    · rw [if_pos q]
      have lc' : ∀ A, lenD [clD cs] A = .ok (.int ((cs.length : Nat) : Int)) A := fun A => by
        show lenD [.tup _] A = _
        rw [ev_len_t]; simp
      refine sat_seq ?_
      simp only [EV, Ab.isNon, args, List.map, List.length_cons, List.length_nil, List.length_singleton, List.replicate, Nat.reduceSub, Nat.reduceAdd, Nat.zero_add, List.cons_append, List.nil_append, List.getElem?_cons_zero, List.getElem?_cons_succ, List.set_cons_zero, List.set_cons_succ, Option.some.injEq, decide_eq_true_eq, Bool.not_eq_true', decide_eq_false_iff_not, ite_true, ite_false, if_true, if_false, reduceIte, Bool.false_eq_true, Bool.not_true, Bool.not_false, Bool.true_eq_false, decide_true, decide_false, Nat.reduceLeDiff, Nat.reduceLT, lc']
      simp only [EV, Ab.isNon, args, List.map, List.length_cons, List.length_nil, List.length_singleton, List.replicate, Nat.reduceSub, Nat.reduceAdd, Nat.zero_add, List.cons_append, List.nil_append, List.getElem?_cons_zero, List.getElem?_cons_succ, List.set_cons_zero, List.set_cons_succ, Option.some.injEq, decide_eq_true_eq, Bool.not_eq_true', decide_eq_false_iff_not, ite_true, ite_false, if_true, if_false, reduceIte, Bool.false_eq_true, Bool.not_true, Bool.not_false, Bool.true_eq_false, decide_true, decide_false, Nat.reduceLeDiff, Nat.reduceLT, ev_iseq_l hP9, wipeA]
      refine comp_gr ptD (fun p => ptD (partL cs p)) (fun E g => rdL_l (g.keep _ _ hP9)) (fun p' hp' E g => ?_) (by omega) fun E gE hE => ?_
      · simp only [EV, Ab.isNon, args, List.map, List.length_cons, List.length_nil, List.length_singleton, List.replicate, Nat.reduceSub, Nat.reduceAdd, Nat.zero_add, List.cons_append, List.nil_append, List.getElem?_cons_zero, List.getElem?_cons_succ, List.set_cons_zero, List.set_cons_succ, Option.some.injEq, decide_eq_true_eq, Bool.not_eq_true', decide_eq_false_iff_not, ite_true, ite_false, if_true, if_false, reduceIte, Bool.false_eq_true, Bool.not_true, Bool.not_false, Bool.true_eq_false, decide_true, decide_false, Nat.reduceLeDiff, Nat.reduceLT]
        refine ⟨trivial, Sat.imp (part_spec (al.len p' hp') hc (by omega)) fun d E2 ⟨G2, e⟩ => ⟨G2, e⟩⟩
      · have em : ps.map (fun p => ptD (partL cs p)) = (ps.map (partL cs)).map ptD := by rw [List.map_map]; rfl
        rw [em] at hE
        have lB := DB.le
        refine ⟨_, rfl, DB.trans (gE.dr DB.src), gE.keep _ _ hR, cs.length, B.length, ps.map (partL cs), lo, hi, _, _, _, rfl, by omega, hE, by rw [List.length_map]; omega, bd_up (bd_part bd fun q hq => by obtain ⟨p, hp, rfl⟩ := List.mem_map.mp hq; exact ⟨p, hp, rfl⟩) (by omega), .inl ⟨by omega, .inl ⟨q, rfl, fun q => ?_⟩⟩⟩
        rw [List.mem_map]
        exact ⟨fun ⟨p, hp, e⟩ => ⟨p, hp, e.symm⟩, fun ⟨p, hp, e⟩ => ⟨p, hp, e.symm⟩⟩
    · rw [if_neg q]
      exact ⟨_, rfl, DB, hR, n, P, ps, lo, hi, _, _, _, rfl, Ps, hP9, by omega, bd_up bd (by omega), .inr ⟨by omega, rfl, rfl, rfl, rfl, rfl⟩⟩
  clear DB hR hP9
  -- a column freed
  refine sat_mid (fun σ C => Kq A s sd P n c cs i lo hi R pr ps b 2 σ C) ?_ fun σ2 C2 K2 => ?_
  · obtain ⟨DC, hR, n', Q, E, l, h, x12, x13, x14, hσ, Qs, hQ, lE, bE, fact⟩ := K1
    subst hσ
    simp only [chS, EV, Ab.isNon, args, List.map, List.length_cons, List.length_nil, List.length_singleton, List.replicate, Nat.reduceSub, Nat.reduceAdd, Nat.zero_add, List.cons_append, List.nil_append, List.getElem?_cons_zero, List.getElem?_cons_succ, List.set_cons_zero, List.set_cons_succ, Option.some.injEq, decide_eq_true_eq, Bool.not_eq_true', decide_eq_false_iff_not, ite_true, ite_false, if_true, if_false, reduceIte, Bool.false_eq_true, Bool.not_true, Bool.not_false, Bool.true_eq_false, decide_true, decide_false, Nat.reduceLeDiff, Nat.reduceLT]
    by_cases q : c = 1
    · rw [if_pos q]
      have fact := fact.resolve_left (fun z => by omega)
      obtain ⟨_, rfl, rfl, rfl, rfl, rfl⟩ := fact
      by_cases np : ((n' : Nat) : Int) > 0
      · rw [if_pos np]
        have hE := at_new (A := C) (o := .lst [])
        have D5 := DC.trans (Dr.app DC.src [AO.lst []])
        have hQ6 := (Gr.app (B := [AO.lst []])).keep _ _ hQ
        have hR6 := (Gr.app (B := [AO.lst []])).keep _ _ hR
        rw [ev_neNil (rdL_l hQ6) (rdL_l hE)]
        generalize C ++ [AO.lst []] = C5 at *
        by_cases ne : E = []
        · subst ne
          simp only [List.map_nil, List.isEmpty_nil, EV, Ab.isNon, args, List.map, List.length_cons, List.length_nil, List.length_singleton, List.replicate, Nat.reduceSub, Nat.reduceAdd, Nat.zero_add, List.cons_append, List.nil_append, List.getElem?_cons_zero, List.getElem?_cons_succ, List.set_cons_zero, List.set_cons_succ, Option.some.injEq, decide_eq_true_eq, Bool.not_eq_true', decide_eq_false_iff_not, ite_true, ite_false, if_true, if_false, reduceIte, Bool.false_eq_true, Bool.not_true, Bool.not_false, Bool.true_eq_false, decide_true, decide_false, Nat.reduceLeDiff, Nat.reduceLT]
          exact ⟨_, rfl, D5, hR6, n', Q, [], l, h, _, _, _, rfl, Qs, hQ6, by simp, bE, .inl ⟨by omega, .inr (.inl ⟨q, rfl, by omega, by simp⟩)⟩⟩
        · have en : (E.map ptD).isEmpty = false := by cases E with | nil => exact absurd rfl ne | cons a l => rfl
          have pos := pos ne
          obtain ⟨p0, hp0⟩ : ∃ p0, E[0]? = some p0 := ⟨_, List.getElem?_eq_getElem pos⟩
          have pm := List.mem_of_getElem? hp0
          have ix0 : ixD (.ref Q) (.int 0) C5 = .ok (ptD p0) C5 := ev_ix_r (rdL_l hQ6) (by rw [atI_pos (by decide), List.getElem?_map]; exact congrArg (Option.map ptD) hp0)
          have ixp : ∀ A, ixD (ptD p0) (.int (((i : Nat) : Int) - 1)) A = .ok (.int (at0 p0 i)) A := fun A => by
            obtain ⟨m, em⟩ : ∃ m, i = m + 1 := ⟨i - 1, by omega⟩
            rw [em, show (((m + 1 : Nat) : Int) - 1) = ((m : Nat) : Int) by omega]
            exact ix_pt (by have := al.len p0 pm; have := ib.2 (by omega); omega)
          have bp := bd p0 pm i
          simp only [en, EV, Ab.isNon, args, List.map, List.length_cons, List.length_nil, List.length_singleton, List.replicate, Nat.reduceSub, Nat.reduceAdd, Nat.zero_add, List.cons_append, List.nil_append, List.getElem?_cons_zero, List.getElem?_cons_succ, List.set_cons_zero, List.set_cons_succ, Option.some.injEq, decide_eq_true_eq, Bool.not_eq_true', decide_eq_false_iff_not, ite_true, ite_false, if_true, if_false, reduceIte, Bool.false_eq_true, Bool.not_true, Bool.not_false, Bool.true_eq_false, decide_true, decide_false, Nat.reduceLeDiff, Nat.reduceLT]
          refine sat_seq ?_
          simp only [EV, Ab.isNon, args, List.map, List.length_cons, List.length_nil, List.length_singleton, List.replicate, Nat.reduceSub, Nat.reduceAdd, Nat.zero_add, List.cons_append, List.nil_append, List.getElem?_cons_zero, List.getElem?_cons_succ, List.set_cons_zero, List.set_cons_succ, Option.some.injEq, decide_eq_true_eq, Bool.not_eq_true', decide_eq_false_iff_not, ite_true, ite_false, if_true, if_false, reduceIte, Bool.false_eq_true, Bool.not_true, Bool.not_false, Bool.true_eq_false, decide_true, decide_false, Nat.reduceLeDiff, Nat.reduceLT, ix0, ixp]
          refine sat_seq ?_
          simp only [EV, Ab.isNon, args, List.map, List.length_cons, List.length_nil, List.length_singleton, List.replicate, Nat.reduceSub, Nat.reduceAdd, Nat.zero_add, List.cons_append, List.nil_append, List.getElem?_cons_zero, List.getElem?_cons_succ, List.set_cons_zero, List.set_cons_succ, Option.some.injEq, decide_eq_true_eq, Bool.not_eq_true', decide_eq_false_iff_not, ite_true, ite_false, if_true, if_false, reduceIte, Bool.false_eq_true, Bool.not_true, Bool.not_false, Bool.true_eq_false, decide_true, decide_false, Nat.reduceLeDiff, Nat.reduceLT]
          refine Sat.imp (pick_pos D5.src (n := 4) (by decide) (by decide)) fun d C6 ⟨⟨u, e, u0, u1⟩, D6⟩ => ?_
          subst e
          have hQ7 := D6.keep _ _ Qs hQ6
          have hR7 := D6.keep _ _ Rs hR6
          have D6 := D5.trans D6
          simp only [EV, Ab.isNon, args, List.map, List.length_cons, List.length_nil, List.length_singleton, List.replicate, Nat.reduceSub, Nat.reduceAdd, Nat.zero_add, List.cons_append, List.nil_append, List.getElem?_cons_zero, List.getElem?_cons_succ, List.set_cons_zero, List.set_cons_succ, Option.some.injEq, decide_eq_true_eq, Bool.not_eq_true', decide_eq_false_iff_not, ite_true, ite_false, if_true, if_false, reduceIte, Bool.false_eq_true, Bool.not_true, Bool.not_false, Bool.true_eq_false, decide_true, decide_false, Nat.reduceLeDiff, Nat.reduceLT]
          refine Sat.imp (pick_pos D6.src (n := 8) (by decide) (by decide)) fun d C7 ⟨⟨v, e, v0, v1⟩, D7⟩ => ?_
          subst e
          have hQ7 := D7.keep _ _ Qs hQ7
          have hR7 := D7.keep _ _ Rs hR7
          have D7 := D6.trans D7
          simp only [EV, Ab.isNon, args, List.map, List.length_cons, List.length_nil, List.length_singleton, List.replicate, Nat.reduceSub, Nat.reduceAdd, Nat.zero_add, List.cons_append, List.nil_append, List.getElem?_cons_zero, List.getElem?_cons_succ, List.set_cons_zero, List.set_cons_succ, Option.some.injEq, decide_eq_true_eq, Bool.not_eq_true', decide_eq_false_iff_not, ite_true, ite_false, if_true, if_false, reduceIte, Bool.false_eq_true, Bool.not_true, Bool.not_false, Bool.true_eq_false, decide_true, decide_false, Nat.reduceLeDiff, Nat.reduceLT]
          obtain ⟨y, hy, y0, y1⟩ : ∃ y : Int, (if v = 0 then (1 : Int) else 0) = y ∧ 0 ≤ y ∧ y ≤ 1 := ⟨_, rfl, by split <;> omega, by split <;> omega⟩
          rw [hy]
          obtain ⟨l2, el2, l20, l21⟩ : ∃ l2, l + at0 p0 i = l2 ∧ -(b + 2) ≤ l2 ∧ l2 ≤ b + 2 := ⟨_, rfl, by omega, by omega⟩
          obtain ⟨h2, eh2, h20, h21⟩ : ∃ h2, l2 + u - y = h2 ∧ h2 ≤ l2 + 3 ∧ l2 ≤ h2 + 1 := ⟨_, rfl, by omega, by omega⟩
          rw [el2, eh2]
          refine Sat.imp (moved_spec (b := true) (l := l2) (h := h2) hQ7 al.len few n20 ib.1 (ib.2 (by omega)) (by omega) (by omega)) fun d C8 ⟨G8, Q2, E2, e, lQ, hQ2, lE2, mem⟩ => ?_
          subst e
          have lC := D7.le
          have mem2 : ∀ q, q ∈ E2 ↔ ∃ p ∈ E, ∃ v, (l2 ≤ v ∧ v ≤ h2) ∧ q = p.set (i - 1) v := fun q => by rw [mem]; simp
          exact ⟨_, rfl, D7.trans (G8.dr D7.src), G8.keep _ _ hR7, n', Q2, E2, l2, h2, _, _, _, rfl, by omega, hQ2, by omega, bd_set bd al.len (by omega) ib.1 (ib.2 (by omega)) fun q hq => by
            obtain ⟨p, hp, v, hv, e⟩ := (mem2 q).mp hq
            exact ⟨p, hp, v, by omega, by omega, e⟩, .inl ⟨by omega, .inr (.inl ⟨q, rfl, by omega, mem2⟩)⟩⟩
      · rw [if_neg np]
        exact ⟨_, rfl, DC, hR, n', Q, E, l, h, _, _, _, rfl, Qs, hQ, lE, bE, .inl ⟨by omega, .inr (.inr (.inr (.inl ⟨.inl q, by omega, rfl, rfl⟩)))⟩⟩
    · rw [if_neg q]
      refine ⟨_, rfl, DC, hR, n', Q, E, l, h, _, _, _, rfl, Qs, hQ, lE, bE, fact.imp (fun z => ⟨by omega, z.2⟩) fun z => ⟨by omega, z.2⟩⟩
  clear K1
  -- a column shifted
  refine sat_mid (fun σ C => Kq A s sd P n c cs i lo hi R pr ps b 3 σ C) ?_ fun σ3 C3 K3 => ?_
  · obtain ⟨DC, hR, n', Q, E, l, h, x12, x13, x14, hσ, Qs, hQ, lE, bE, fact⟩ := K2
    subst hσ
    simp only [chS, EV, Ab.isNon, args, List.map, List.length_cons, List.length_nil, List.length_singleton, List.replicate, Nat.reduceSub, Nat.reduceAdd, Nat.zero_add, List.cons_append, List.nil_append, List.getElem?_cons_zero, List.getElem?_cons_succ, List.set_cons_zero, List.set_cons_succ, Option.some.injEq, decide_eq_true_eq, Bool.not_eq_true', decide_eq_false_iff_not, ite_true, ite_false, if_true, if_false, reduceIte, Bool.false_eq_true, Bool.not_true, Bool.not_false, Bool.true_eq_false, decide_true, decide_false, Nat.reduceLeDiff, Nat.reduceLT]
    by_cases q : c = 2
    · rw [if_pos q]
      have fact := fact.resolve_left (fun z => by omega)
      obtain ⟨_, rfl, rfl, rfl, rfl, rfl⟩ := fact
      by_cases np : ((n' : Nat) : Int) > 0
      · rw [if_pos np]
        refine Sat.imp (moved_spec (b := false) (l := l) (h := h) hQ al.len few n20 ib.1 (ib.2 (by omega)) (by omega) (by omega)) fun d C8 ⟨G8, Q2, E2, e, lQ, hQ2, lE2, mem⟩ => ?_
        subst e
        have lC := DC.le
        have mem2 : ∀ q, q ∈ E2 ↔ ∃ p ∈ E, ∃ w, (l ≤ w ∧ w ≤ h) ∧ q = p.set (i - 1) (at0 p i + w) := fun q => by rw [mem]; simp
        exact ⟨_, rfl, DC.trans (G8.dr DC.src), G8.keep _ _ hR, n', Q2, E2, l, h, _, _, _, rfl, by omega, hQ2, by omega, bd_set bd al.len (by omega) ib.1 (ib.2 (by omega)) fun q hq => by
          obtain ⟨p, hp, w, hv, e⟩ := (mem2 q).mp hq
          have := bd p hp i
          exact ⟨p, hp, _, by omega, by omega, e⟩, .inl ⟨by omega, .inr (.inr (.inl ⟨q, rfl, by omega, hi0, mem2⟩))⟩⟩
      · rw [if_neg np]
        exact ⟨_, rfl, DC, hR, n', Q, E, l, h, _, _, _, rfl, Qs, hQ, lE, bE, .inl ⟨by omega, .inr (.inr (.inr (.inl ⟨.inr q, by omega, rfl, rfl⟩)))⟩⟩
    · rw [if_neg q]
      refine ⟨_, rfl, DC, hR, n', Q, E, l, h, _, _, _, rfl, Qs, hQ, lE, bE, fact.imp (fun z => ⟨by omega, z.2⟩) fun z => ⟨by omega, z.2⟩⟩
  clear K2
  -- columns added
  refine sat_mid (fun σ C => Kq A s sd P n c cs i lo hi R pr ps b 4 σ C) ?_ fun σ4 C4 K4 => ?_
  · obtain ⟨DC, hR, n', Q, E, l, h, x12, x13, x14, hσ, Qs, hQ, lE, bE, fact⟩ := K3
    subst hσ
    simp only [chS, EV, Ab.isNon, args, List.map, List.length_cons, List.length_nil, List.length_singleton, List.replicate, Nat.reduceSub, Nat.reduceAdd, Nat.zero_add, List.cons_append, List.nil_append, List.getElem?_cons_zero, List.getElem?_cons_succ, List.set_cons_zero, List.set_cons_succ, Option.some.injEq, decide_eq_true_eq, Bool.not_eq_true', decide_eq_false_iff_not, ite_true, ite_false, if_true, if_false, reduceIte, Bool.false_eq_true, Bool.not_true, Bool.not_false, Bool.true_eq_false, decide_true, decide_false, Nat.reduceLeDiff, Nat.reduceLT]
    by_cases q : c = 3
    · rw [if_pos q]
      have fact := fact.resolve_left (fun z => by omega)
      obtain ⟨_, rfl, rfl, rfl, rfl, rfl⟩ := fact
      have lR : lenD [.ref R] C3 = .ok (.int ((pr.length : Nat) : Int)) C3 := (ev_len_r (rdL_l hR)).trans (by rw [List.length_map])
      refine sat_seq ?_
      simp only [EV, Ab.isNon, args, List.map, List.length_cons, List.length_nil, List.length_singleton, List.replicate, Nat.reduceSub, Nat.reduceAdd, Nat.zero_add, List.cons_append, List.nil_append, List.getElem?_cons_zero, List.getElem?_cons_succ, List.set_cons_zero, List.set_cons_succ, Option.some.injEq, decide_eq_true_eq, Bool.not_eq_true', decide_eq_false_iff_not, ite_true, ite_false, if_true, if_false, reduceIte, Bool.false_eq_true, Bool.not_true, Bool.not_false, Bool.true_eq_false, decide_true, decide_false, Nat.reduceLeDiff, Nat.reduceLT, lR]
      refine sat_seq ?_
      simp only [EV, Ab.isNon, args, List.map, List.length_cons, List.length_nil, List.length_singleton, List.replicate, Nat.reduceSub, Nat.reduceAdd, Nat.zero_add, List.cons_append, List.nil_append, List.getElem?_cons_zero, List.getElem?_cons_succ, List.set_cons_zero, List.set_cons_succ, Option.some.injEq, decide_eq_true_eq, Bool.not_eq_true', decide_eq_false_iff_not, ite_true, ite_false, if_true, if_false, reduceIte, Bool.false_eq_true, Bool.not_true, Bool.not_false, Bool.true_eq_false, decide_true, decide_false, Nat.reduceLeDiff, Nat.reduceLT]
      refine Sat.imp (grid_spec (n := pr.length) rfl (by omega) hR (fun r hr => by have := prm r hr; omega)) fun d C5 ⟨G5, Q5, gs, e, hg, lg, memg⟩ => ?_
      subst e
      have D5 := DC.trans (G5.dr DC.src)
      have hQ5 := G5.keep _ _ hQ
      have hR5 := G5.keep _ _ hR
      refine sat_seq ?_
      simp only [EV, Ab.isNon, args, List.map, List.length_cons, List.length_nil, List.length_singleton, List.replicate, Nat.reduceSub, Nat.reduceAdd, Nat.zero_add, List.cons_append, List.nil_append, List.getElem?_cons_zero, List.getElem?_cons_succ, List.set_cons_zero, List.set_cons_succ, Option.some.injEq, decide_eq_true_eq, Bool.not_eq_true', decide_eq_false_iff_not, ite_true, ite_false, if_true, if_false, reduceIte, Bool.false_eq_true, Bool.not_true, Bool.not_false, Bool.true_eq_false, decide_true, decide_false, Nat.reduceLeDiff, Nat.reduceLT]
      have hF := at_new (A := C5) (o := .lst [])
      have g6 := Gr.app (A := C5) (B := [AO.lst []])
      have D6 := D5.trans (g6.dr D5.src)
      have hQ6 := g6.keep _ _ hQ5
      have hR6 := g6.keep _ _ hR5
      have hg6 := g6.keep _ _ hg
      have lC := D5.le
      have ltg := at_lt hg
      have ltQ := at_lt hQ5
      have ltR := at_lt hR5
      generalize C5 ++ [AO.lst []] = C6 at *
      obtain ⟨F, eF⟩ : ∃ F, C5.length = F := ⟨_, rfl⟩
      rw [eF] at hF lC ltg ltQ ltR ⊢
      rw [ev_lst_ofL (rdL_l hQ6)]
      have hT := at_new (A := C6) (o := .lst (E.map ptD))
      have g7 := Gr.app (A := C6) (B := [AO.lst (E.map ptD)])
      have D7 := D6.trans (g7.dr D6.src)
      have hF7 := g7.keep _ _ hF
      have hQ7 := g7.keep _ _ hQ6
      have hR7 := g7.keep _ _ hR6
      have hg7 := g7.keep _ _ hg6
      have lF := at_lt hF
      generalize C6 ++ [AO.lst (E.map ptD)] = C7 at *
      obtain ⟨T, eT⟩ : ∃ T, C6.length = T := ⟨_, rfl⟩
      rw [eT] at hT lF ⊢
      simp only [EV, Ab.isNon, args, List.map, List.length_cons, List.length_nil, List.length_singleton, List.replicate, Nat.reduceSub, Nat.reduceAdd, Nat.zero_add, List.cons_append, List.nil_append, List.getElem?_cons_zero, List.getElem?_cons_succ, List.set_cons_zero, List.set_cons_succ, Option.some.injEq, decide_eq_true_eq, Bool.not_eq_true', decide_eq_false_iff_not, ite_true, ite_false, if_true, if_false, reduceIte, Bool.false_eq_true, Bool.not_true, Bool.not_false, Bool.true_eq_false, decide_true, decide_false, Nat.reduceLeDiff, Nat.reduceLT, ev_iseq_l hT]
      have ml : ∀ x, x ∈ gs ↔ Rgs pr x := fun x => (memg x).trans inr_rgs
      refine loop_inv (fun es σ C => Dr s A C ∧ C[R]? = some (.lst (pr.map prD)) ∧ C[T]? = some (.lst (E.map ptD)) ∧ C[Q5]? = some (.lst (gs.map ptD)) ∧ (∃ (pre post f : List (List Int)), E = pre ++ post ∧ es = post.map ptD ∧ C[F]? = some (.lst (f.map ptD)) ∧ f.length = pre.length * gs.length ∧ ∀ q, q ∈ f ↔ ∃ p ∈ pre, ∃ x ∈ gs, q = p ++ x) ∧ ∃ x12 x14, σ = [some (.ref s), some (.ref sd), some (.ref Q), some (.int (((n' : Nat) : Int) + ((pr.length : Nat) : Int))), some (hullD E n'), some (.int c), some (clD cs), some (.int (i : Nat)), some (.int l), some (.int h), some (.ref F), some (.ref R), x12, some (.ref Q5), x14])
        (fun e es σ C ⟨DC, hR, hT, hg, ⟨pre, post, f, ep, ee, hF, lf, mem⟩, x12, x14, hσ⟩ => ⟨rdL_l hT, ?_⟩) (fun σ C ⟨DC, hR, hT, hg, ⟨pre, post, f, ep, ee, hF, lf, mem⟩, x12, x14, hσ⟩ => ⟨rdL_l hT, ?_⟩) _ _ _ ⟨D7, hR7, hT, hg7, ⟨[], E, [], rfl, rfl, hF7, by simp, by simp⟩, _, _, rfl⟩
      · subst hσ
        cases post with
        | nil => cases ee
        | cons p post =>
          rw [List.map_cons, List.cons.injEq] at ee
          obtain ⟨e1, e2⟩ := ee
          subst e1; subst e2
          have pl := al.len p (by rw [ep]; simp)
          have lp : pre.length + 1 ≤ 5000 := by have := congrArg List.length ep; rw [List.length_append, List.length_cons] at this; omega
          have lfb : f.length ≤ 5000 * 125 := by rw [lf]; exact Nat.mul_le_mul (by omega) lg
          simp only [EV, Ab.isNon, args, List.map, List.length_cons, List.length_nil, List.length_singleton, List.replicate, Nat.reduceSub, Nat.reduceAdd, Nat.zero_add, List.cons_append, List.nil_append, List.getElem?_cons_zero, List.getElem?_cons_succ, List.set_cons_zero, List.set_cons_succ, Option.some.injEq, decide_eq_true_eq, Bool.not_eq_true', decide_eq_false_iff_not, ite_true, ite_false, if_true, if_false, reduceIte, Bool.false_eq_true, Bool.not_true, Bool.not_false, Bool.true_eq_false, decide_true, decide_false, Nat.reduceLeDiff, Nat.reduceLT, ev_iseq_l hg]
          refine loop_inv (fun es σ C => Dr s A C ∧ C[R]? = some (.lst (pr.map prD)) ∧ C[T]? = some (.lst (E.map ptD)) ∧ C[Q5]? = some (.lst (gs.map ptD)) ∧ (∃ (gp gq f2 : List (List Int)), gs = gp ++ gq ∧ es = gq.map ptD ∧ C[F]? = some (.lst (f2.map ptD)) ∧ f2.length = f.length + gp.length ∧ ∀ q, q ∈ f2 ↔ q ∈ f ∨ ∃ x ∈ gp, q = p ++ x) ∧ ∃ x14, σ = [some (.ref s), some (.ref sd), some (.ref Q), some (.int (((n' : Nat) : Int) + ((pr.length : Nat) : Int))), some (hullD E n'), some (.int c), some (clD cs), some (.int (i : Nat)), some (.int l), some (.int h), some (.ref F), some (.ref R), some (ptD p), some (.ref Q5), x14])
            (fun e es σ C ⟨DC, hR, hT, hg, ⟨gp, gq, f2, eg, ee, hF, lf2, mem2⟩, x14, hσ⟩ => ⟨rdL_l hg, ?_⟩) (fun σ C ⟨DC, hR, hT, hg, ⟨gp, gq, f2, eg, ee, hF, lf2, mem2⟩, x14, hσ⟩ => ⟨rdL_l hg, ?_⟩) _ _ _ ⟨DC, hR, hT, hg, ⟨[], gs, f, rfl, rfl, hF, by simp, by simp⟩, _, rfl⟩
          · subst hσ
            cases gq with
            | nil => cases ee
            | cons x gq =>
              rw [List.map_cons, List.cons.injEq] at ee
              obtain ⟨e1, e2⟩ := ee
              subst e1; subst e2
              have xl := ((ml x).mp (by rw [eg]; simp)).1
              have lgp : gp.length + 1 ≤ 125 := by have := congrArg List.length eg; rw [List.length_append, List.length_cons] at this; omega
              have z : (p.map D.int).length + (x.map D.int).length ≤ sizeLine := sl_le (by simp; omega)
              have a1 : ∀ A, addD (ptD p) (ptD x) A = .ok (ptD (p ++ x)) A := fun A => (ev_add_tt z).trans (by unfold ptD; rw [List.map_append])
              simp only [EV, Ab.isNon, args, List.map, List.length_cons, List.length_nil, List.length_singleton, List.replicate, Nat.reduceSub, Nat.reduceAdd, Nat.zero_add, List.cons_append, List.nil_append, List.getElem?_cons_zero, List.getElem?_cons_succ, List.set_cons_zero, List.set_cons_succ, Option.some.injEq, decide_eq_true_eq, Bool.not_eq_true', decide_eq_false_iff_not, ite_true, ite_false, if_true, if_false, reduceIte, Bool.false_eq_true, Bool.not_true, Bool.not_false, Bool.true_eq_false, decide_true, decide_false, Nat.reduceLeDiff, Nat.reduceLT, ty_l hF, a1]
              rw [ev_app hF (by rw [List.length_map]; omega)]
              simp only [EV, Ab.isNon, args, List.map, List.length_cons, List.length_nil, List.length_singleton, List.replicate, Nat.reduceSub, Nat.reduceAdd, Nat.zero_add, List.cons_append, List.nil_append, List.getElem?_cons_zero, List.getElem?_cons_succ, List.set_cons_zero, List.set_cons_succ, Option.some.injEq, decide_eq_true_eq, Bool.not_eq_true', decide_eq_false_iff_not, ite_true, ite_false, if_true, if_false, reduceIte, Bool.false_eq_true, Bool.not_true, Bool.not_false, Bool.true_eq_false, decide_true, decide_false, Nat.reduceLeDiff, Nat.reduceLT, turn_]
              have lA := DC.le
              refine ⟨DC.setN (by omega) hs, by rw [List.getElem?_set_ne (by omega)]; exact hR, by rw [List.getElem?_set_ne (by omega)]; exact hT, by rw [List.getElem?_set_ne (by omega)]; exact hg, ⟨gp ++ [x], gq, f2 ++ [p ++ x], by rw [eg]; simp, rfl, by rw [at_set (at_lt hF), List.map_append]; rfl, by simp; omega, fun q => ?_⟩, _, rfl⟩
              rw [List.mem_append, List.mem_singleton, mem2]
              constructor
              · rintro ((h | ⟨y, hy, e⟩) | e)
                · exact .inl h
                · exact .inr ⟨y, List.mem_append_left _ hy, e⟩
                · exact .inr ⟨x, List.mem_append_right _ (List.mem_singleton.mpr rfl), e⟩
              · rintro (h | ⟨y, hy, e⟩)
                · exact .inl (.inl h)
                · rcases List.mem_append.mp hy with z | z
                  · exact .inl (.inr ⟨y, z, e⟩)
                  · rw [List.mem_singleton.mp z] at e; exact .inr e
          · have gz : gq = [] := by cases gq with | nil => rfl | cons a p => cases ee
            subst gz
            rw [List.append_nil] at eg
            subst eg
            subst hσ
            simp only [EV, Ab.isNon, args, List.map, List.length_cons, List.length_nil, List.length_singleton, List.replicate, Nat.reduceSub, Nat.reduceAdd, Nat.zero_add, List.cons_append, List.nil_append, List.getElem?_cons_zero, List.getElem?_cons_succ, List.set_cons_zero, List.set_cons_succ, Option.some.injEq, decide_eq_true_eq, Bool.not_eq_true', decide_eq_false_iff_not, ite_true, ite_false, if_true, if_false, reduceIte, Bool.false_eq_true, Bool.not_true, Bool.not_false, Bool.true_eq_false, decide_true, decide_false, Nat.reduceLeDiff, Nat.reduceLT, turn_]
            refine ⟨DC, hR, hT, hg, ⟨pre ++ [p], post, f2, by rw [ep]; simp, rfl, hF, by rw [lf2, lf, List.length_append, Nat.add_mul]; simp, fun q => ?_⟩, _, _, rfl⟩
            rw [mem2, mem]
            constructor
            · rintro (⟨p', hp', x, hx, e⟩ | ⟨x, hx, e⟩)
              · exact ⟨p', List.mem_append_left _ hp', x, hx, e⟩
              · exact ⟨p, List.mem_append_right _ (List.mem_singleton.mpr rfl), x, hx, e⟩
            · rintro ⟨p', hp', x, hx, e⟩
              rcases List.mem_append.mp hp' with z | z
              · exact .inl ⟨p', z, x, hx, e⟩
              · rw [List.mem_singleton.mp z] at e; exact .inr ⟨x, hx, e⟩
      · have pz : post = [] := by cases post with | nil => rfl | cons a p => cases ee
        subst pz
        rw [List.append_nil] at ep
        subst ep
        subst hσ
        have mem2 : ∀ q, q ∈ f ↔ ∃ p ∈ E, ∃ x, Rgs pr x ∧ q = p ++ x := fun q => by
          rw [mem]
          exact ⟨fun ⟨p, hp, x, hx, e⟩ => ⟨p, hp, x, (ml x).mp hx, e⟩, fun ⟨p, hp, x, hx, e⟩ => ⟨p, hp, x, (ml x).mpr hx, e⟩⟩
        refine ⟨_, rfl, DC, hR, n' + pr.length, F, f, l, h, _, _, _, rfl, by omega, hF, ?_, bd_app bd b0 (by omega) (fun r hr => by have := prm r hr; omega) (fun q hq => (mem2 q).mp hq), .inl ⟨by omega, .inr (.inr (.inr (.inr ⟨q, rfl, mem2⟩)))⟩⟩
        have := Nat.mul_le_mul few lg
        omega
    · rw [if_neg q]
      refine ⟨_, rfl, DC, hR, n', Q, E, l, h, _, _, _, rfl, Qs, hQ, lE, bE, fact.imp (fun z => ⟨by omega, z.2⟩) fun z => ⟨by omega, z.2⟩⟩
  clear K3
  obtain ⟨DC, hR, n', Q, E, l, h, x12, x13, x14, hσ, Qs, hQ, lE, bE, fact⟩ := K4
  have fact := fact.resolve_right (fun z => by omega)
  have fact := fact.2
  subst hσ
  have same : ∀ {C : AH}, Dr s A C → Aft A s sd (b + 10) C := fun {C} d => ⟨dr_dw d, P, n, ps, _, Ps, d.keep _ _ ds hd, d.keep _ _ Ps hP, al, bd_up bd (by omega)⟩
  have n25 : n' ≤ 25 := by
    rcases fact with ⟨_, e, _⟩ | ⟨_, e, _⟩ | ⟨_, e, _⟩ | ⟨_, _, e, _⟩ | ⟨_, e, _⟩ <;> omega
  -- each once
  refine sat_seq ?_
  simp only [chS, EV, Ab.isNon, args, List.map, List.length_cons, List.length_nil, List.length_singleton, List.replicate, Nat.reduceSub, Nat.reduceAdd, Nat.zero_add, List.cons_append, List.nil_append, List.getElem?_cons_zero, List.getElem?_cons_succ, List.set_cons_zero, List.set_cons_succ, Option.some.injEq, decide_eq_true_eq, Bool.not_eq_true', decide_eq_false_iff_not, ite_true, ite_false, if_true, if_false, reduceIte, Bool.false_eq_true, Bool.not_true, Bool.not_false, Bool.true_eq_false, decide_true, decide_false, Nat.reduceLeDiff, Nat.reduceLT]
  refine Sat.imp (distinct_spec hQ lE) fun d C5 ⟨G5, Q5, E5, e, lQ, hQ5, nd, mem⟩ => ?_
  subst e
  have lE5 : E5.length ≤ 700000 := Nat.le_trans (nodup_le E5 E nd fun p hp => (mem p).mp hp) lE
  have lC := DC.le
  have D5 := DC.trans (G5.dr DC.src)
  have hR5 := G5.keep _ _ hR
  have Q5s : Q5 ≠ s := by omega
  have lx : (E5.map ptD).length = E5.length := List.length_map ..
  -- few enough
  refine sat_early (fun σ C => C = C5 ∧ E5.length * (n' + 1) * (n' + 1) ≤ 3000 ∧ n' ≤ 20 ∧ σ = chS s sd P n' (hullD ps n) c cs i l h Q5 R x12 x13 x14) (fun d C => Aft A s sd (b + 10) C) ?_ (fun d C h => h) fun σ C ⟨eC, few3, n20', hσ⟩ => ?_
  · simp only [EV, Ab.isNon, args, List.map, List.length_cons, List.length_nil, List.length_singleton, List.replicate, Nat.reduceSub, Nat.reduceAdd, Nat.zero_add, List.cons_append, List.nil_append, List.getElem?_cons_zero, List.getElem?_cons_succ, List.set_cons_zero, List.set_cons_succ, Option.some.injEq, decide_eq_true_eq, Bool.not_eq_true', decide_eq_false_iff_not, ite_true, ite_false, if_true, if_false, reduceIte, Bool.false_eq_true, Bool.not_true, Bool.not_false, Bool.true_eq_false, decide_true, decide_false, Nat.reduceLeDiff, Nat.reduceLT, few_spec hQ5 (show (E5.map ptD).length ≤ 700000 by rw [lx]; exact lE5) (show n' ≤ 100 by omega), lx]
    by_cases f3 : E5.length * (n' + 1) * (n' + 1) ≤ 3000
    · rw [if_neg (fun z => z f3)]
      by_cases f4 : ((n' : Nat) : Int) > 20
      · rw [if_pos f4]
        exact .inl ⟨_, rfl, same D5⟩
      · rw [if_neg f4]
        exact .inr ⟨_, rfl, by first | trivial | rfl, f3, by omega, rfl⟩
    · rw [if_pos f3]
      exact .inl ⟨_, rfl, same D5⟩
  subst hσ; subst eC
  have few5 : E5.length ≤ 5000 := by
    have h1 : E5.length * 1 * 1 ≤ E5.length * (n' + 1) * (n' + 1) := Nat.mul_le_mul (Nat.mul_le_mul (Nat.le_refl _) (by omega)) (by omega)
    omega
  have hd5 := D5.keep _ _ ds hd
  -- the state is told
  refine sat_seq ?_
  simp only [chS, EV, Ab.isNon, args, List.map, List.length_cons, List.length_nil, List.length_singleton, List.replicate, Nat.reduceSub, Nat.reduceAdd, Nat.zero_add, List.cons_append, List.nil_append, List.getElem?_cons_zero, List.getElem?_cons_succ, List.set_cons_zero, List.set_cons_succ, Option.some.injEq, decide_eq_true_eq, Bool.not_eq_true', decide_eq_false_iff_not, ite_true, ite_false, if_true, if_false, reduceIte, Bool.false_eq_true, Bool.not_true, Bool.not_false, Bool.true_eq_false, decide_true, decide_false, Nat.reduceLeDiff, Nat.reduceLT]
  rw [st_k hd5 (by show 4 < 1000000; decide)]
  have es1 : setK (stK P n (hullD ps n) (hullD ps n)) (.inr "points") (.ref Q5) = stK Q5 n (hullD ps n) (hullD ps n) := rfl
  rw [es1]
  simp only [EV, Ab.isNon, args, List.map, List.length_cons, List.length_nil, List.length_singleton, List.replicate, Nat.reduceSub, Nat.reduceAdd, Nat.zero_add, List.cons_append, List.nil_append, List.getElem?_cons_zero, List.getElem?_cons_succ, List.set_cons_zero, List.set_cons_succ, Option.some.injEq, decide_eq_true_eq, Bool.not_eq_true', decide_eq_false_iff_not, ite_true, ite_false, if_true, if_false, reduceIte, Bool.false_eq_true, Bool.not_true, Bool.not_false, Bool.true_eq_false, decide_true, decide_false, Nat.reduceLeDiff, Nat.reduceLT]
  have W6 := (dr_dw (w := sd) D5).set (o := .dic (stK Q5 n (hullD ps n) (hullD ps n)))
  have hd6 := at_set (o := .dic (stK Q5 n (hullD ps n) (hullD ps n))) (at_lt hd5)
  have Q5d : Q5 ≠ sd := fun e => by rw [e, hd5] at hQ5; cases hQ5
  have Rd : R ≠ sd := fun e => by rw [e, hd5] at hR5; cases hR5
  have hQ6 : (C.set sd (.dic (stK Q5 n (hullD ps n) (hullD ps n))))[Q5]? = some (.lst (E5.map ptD)) := by rw [List.getElem?_set_ne (Ne.symm Q5d)]; exact hQ5
  have hR6 : (C.set sd (.dic (stK Q5 n (hullD ps n) (hullD ps n))))[R]? = some (.lst (pr.map prD)) := by rw [List.getElem?_set_ne (Ne.symm Rd)]; exact hR5
  generalize C.set sd (.dic (stK Q5 n (hullD ps n) (hullD ps n))) = C6 at *
  refine sat_seq ?_
  simp only [EV, Ab.isNon, args, List.map, List.length_cons, List.length_nil, List.length_singleton, List.replicate, Nat.reduceSub, Nat.reduceAdd, Nat.zero_add, List.cons_append, List.nil_append, List.getElem?_cons_zero, List.getElem?_cons_succ, List.set_cons_zero, List.set_cons_succ, Option.some.injEq, decide_eq_true_eq, Bool.not_eq_true', decide_eq_false_iff_not, ite_true, ite_false, if_true, if_false, reduceIte, Bool.false_eq_true, Bool.not_true, Bool.not_false, Bool.true_eq_false, decide_true, decide_false, Nat.reduceLeDiff, Nat.reduceLT]
  rw [st_k hd6 (by show 4 < 1000000; decide)]
  have es2 : setK (stK Q5 n (hullD ps n) (hullD ps n)) (.inr "size") (.int (n' : Nat)) = stK Q5 n' (hullD ps n) (hullD ps n) := rfl
  rw [es2]
  simp only [EV, Ab.isNon, args, List.map, List.length_cons, List.length_nil, List.length_singleton, List.replicate, Nat.reduceSub, Nat.reduceAdd, Nat.zero_add, List.cons_append, List.nil_append, List.getElem?_cons_zero, List.getElem?_cons_succ, List.set_cons_zero, List.set_cons_succ, Option.some.injEq, decide_eq_true_eq, Bool.not_eq_true', decide_eq_false_iff_not, ite_true, ite_false, if_true, if_false, reduceIte, Bool.false_eq_true, Bool.not_true, Bool.not_false, Bool.true_eq_false, decide_true, decide_false, Nat.reduceLeDiff, Nat.reduceLT]
  have W7 := W6.set (o := .dic (stK Q5 n' (hullD ps n) (hullD ps n)))
  have hd7 := at_set (o := .dic (stK Q5 n' (hullD ps n) (hullD ps n))) (at_lt hd6)
  have hQ7 : (C6.set sd (.dic (stK Q5 n' (hullD ps n) (hullD ps n))))[Q5]? = some (.lst (E5.map ptD)) := by rw [List.getElem?_set_ne (Ne.symm Q5d)]; exact hQ6
  have hR7 : (C6.set sd (.dic (stK Q5 n' (hullD ps n) (hullD ps n))))[R]? = some (.lst (pr.map prD)) := by rw [List.getElem?_set_ne (Ne.symm Rd)]; exact hR6
  generalize C6.set sd (.dic (stK Q5 n' (hullD ps n) (hullD ps n))) = C7 at *
  have bE5 : Bd (b + 10) E5 := fun p hp => bE p ((mem p).mp hp)
  have es3 : ∀ v, setK (stK Q5 n' (hullD ps n) (hullD ps n)) (.inr "box") v = stK Q5 n' (hullD ps n) v := fun v => rfl
  have fin : ∀ {B : AH}, Gr C7 B → All n' E5 → Aft A s sd (b + 10) (B.set sd (.dic (stK Q5 n' (hullD ps n) (hullD E5 n')))) := fun {B} g al' => ⟨(W7.trans (gr_dw g)).set, Q5, n', E5, hullD ps n, Q5s, at_set (at_lt (g.keep _ _ hd7)), by rw [List.getElem?_set_ne (Ne.symm Q5d)]; exact g.keep _ _ hQ7, al', bE5⟩
  rcases fact with ⟨rfl, rfl, f⟩ | ⟨rfl, rfl, n0, f⟩ | ⟨rfl, rfl, n0, lh, f⟩ | ⟨hc12, n0, rfl, rfl⟩ | ⟨rfl, rfl, f⟩
  · have ph := fun (A : AH) => pick_hull (A := A) al (by omega) (fun c h => (hc c h).2) few5 (fun q => (mem q).trans (f q))
    refine sat_seq ?_
    simp (decide := true) only [EV, Ab.isNon, args, List.map, List.length_cons, List.length_nil, List.length_singleton, List.replicate, Nat.reduceSub, Nat.reduceAdd, Nat.zero_add, List.cons_append, List.nil_append, List.getElem?_cons_zero, List.getElem?_cons_succ, List.set_cons_zero, List.set_cons_succ, Option.some.injEq, decide_eq_true_eq, Bool.not_eq_true', decide_eq_false_iff_not, ite_true, ite_false, if_true, if_false, reduceIte, Bool.false_eq_true, Bool.not_true, Bool.not_false, Bool.true_eq_false, decide_true, decide_false, Nat.reduceLeDiff, Nat.reduceLT]
    refine Sat.imp (ph C7).1 fun d C8 ⟨G8, e⟩ => ?_
    subst e
    rw [st_k (G8.keep _ _ hd7) (by show 4 < 1000000; decide), es3]
    simp (decide := true) only [EV, Ab.isNon, args, List.map, List.length_cons, List.length_nil, List.length_singleton, List.replicate, Nat.reduceSub, Nat.reduceAdd, Nat.zero_add, List.cons_append, List.nil_append, List.getElem?_cons_zero, List.getElem?_cons_succ, List.set_cons_zero, List.set_cons_succ, Option.some.injEq, decide_eq_true_eq, Bool.not_eq_true', decide_eq_false_iff_not, ite_true, ite_false, if_true, if_false, reduceIte, Bool.false_eq_true, Bool.not_true, Bool.not_false, Bool.true_eq_false, decide_true, decide_false, Nat.reduceLeDiff, Nat.reduceLT]
    refine sat_seq ?_
    simp (decide := true) only [EV, Ab.isNon, args, List.map, List.length_cons, List.length_nil, List.length_singleton, List.replicate, Nat.reduceSub, Nat.reduceAdd, Nat.zero_add, List.cons_append, List.nil_append, List.getElem?_cons_zero, List.getElem?_cons_succ, List.set_cons_zero, List.set_cons_succ, Option.some.injEq, decide_eq_true_eq, Bool.not_eq_true', decide_eq_false_iff_not, ite_true, ite_false, if_true, if_false, reduceIte, Bool.false_eq_true, Bool.not_true, Bool.not_false, Bool.true_eq_false, decide_true, decide_false, Nat.reduceLeDiff, Nat.reduceLT]
    refine sat_seq ?_
    simp (decide := true) only [EV, Ab.isNon, args, List.map, List.length_cons, List.length_nil, List.length_singleton, List.replicate, Nat.reduceSub, Nat.reduceAdd, Nat.zero_add, List.cons_append, List.nil_append, List.getElem?_cons_zero, List.getElem?_cons_succ, List.set_cons_zero, List.set_cons_succ, Option.some.injEq, decide_eq_true_eq, Bool.not_eq_true', decide_eq_false_iff_not, ite_true, ite_false, if_true, if_false, reduceIte, Bool.false_eq_true, Bool.not_true, Bool.not_false, Bool.true_eq_false, decide_true, decide_false, Nat.reduceLeDiff, Nat.reduceLT]
    refine sat_seq ?_
    simp (decide := true) only [EV, Ab.isNon, args, List.map, List.length_cons, List.length_nil, List.length_singleton, List.replicate, Nat.reduceSub, Nat.reduceAdd, Nat.zero_add, List.cons_append, List.nil_append, List.getElem?_cons_zero, List.getElem?_cons_succ, List.set_cons_zero, List.set_cons_succ, Option.some.injEq, decide_eq_true_eq, Bool.not_eq_true', decide_eq_false_iff_not, ite_true, ite_false, if_true, if_false, reduceIte, Bool.false_eq_true, Bool.not_true, Bool.not_false, Bool.true_eq_false, decide_true, decide_false, Nat.reduceLeDiff, Nat.reduceLT]
    exact fin G8 (ph C7).2
  · have hn0 : ((n' : Nat) : Int) > 0 := by omega
    have ph := fun (A : AH) => free_hull (A := A) al ib.1 (ib.2 n0) few5 (fun q => (mem q).trans (f q))
    refine sat_seq ?_
    simp (decide := true) only [EV, Ab.isNon, args, List.map, List.length_cons, List.length_nil, List.length_singleton, List.replicate, Nat.reduceSub, Nat.reduceAdd, Nat.zero_add, List.cons_append, List.nil_append, List.getElem?_cons_zero, List.getElem?_cons_succ, List.set_cons_zero, List.set_cons_succ, Option.some.injEq, decide_eq_true_eq, Bool.not_eq_true', decide_eq_false_iff_not, ite_true, ite_false, if_true, if_false, reduceIte, Bool.false_eq_true, Bool.not_true, Bool.not_false, Bool.true_eq_false, decide_true, decide_false, Nat.reduceLeDiff, Nat.reduceLT]
    refine sat_seq ?_
    simp (decide := true) only [hn0, EV, Ab.isNon, args, List.map, List.length_cons, List.length_nil, List.length_singleton, List.replicate, Nat.reduceSub, Nat.reduceAdd, Nat.zero_add, List.cons_append, List.nil_append, List.getElem?_cons_zero, List.getElem?_cons_succ, List.set_cons_zero, List.set_cons_succ, Option.some.injEq, decide_eq_true_eq, Bool.not_eq_true', decide_eq_false_iff_not, ite_true, ite_false, if_true, if_false, reduceIte, Bool.false_eq_true, Bool.not_true, Bool.not_false, Bool.true_eq_false, decide_true, decide_false, Nat.reduceLeDiff, Nat.reduceLT]
    refine Sat.imp (ph C7).1 fun d C8 ⟨G8, e⟩ => ?_
    subst e
    rw [st_k (G8.keep _ _ hd7) (by show 4 < 1000000; decide), es3]
    simp (decide := true) only [EV, Ab.isNon, args, List.map, List.length_cons, List.length_nil, List.length_singleton, List.replicate, Nat.reduceSub, Nat.reduceAdd, Nat.zero_add, List.cons_append, List.nil_append, List.getElem?_cons_zero, List.getElem?_cons_succ, List.set_cons_zero, List.set_cons_succ, Option.some.injEq, decide_eq_true_eq, Bool.not_eq_true', decide_eq_false_iff_not, ite_true, ite_false, if_true, if_false, reduceIte, Bool.false_eq_true, Bool.not_true, Bool.not_false, Bool.true_eq_false, decide_true, decide_false, Nat.reduceLeDiff, Nat.reduceLT]
    refine sat_seq ?_
    simp (decide := true) only [EV, Ab.isNon, args, List.map, List.length_cons, List.length_nil, List.length_singleton, List.replicate, Nat.reduceSub, Nat.reduceAdd, Nat.zero_add, List.cons_append, List.nil_append, List.getElem?_cons_zero, List.getElem?_cons_succ, List.set_cons_zero, List.set_cons_succ, Option.some.injEq, decide_eq_true_eq, Bool.not_eq_true', decide_eq_false_iff_not, ite_true, ite_false, if_true, if_false, reduceIte, Bool.false_eq_true, Bool.not_true, Bool.not_false, Bool.true_eq_false, decide_true, decide_false, Nat.reduceLeDiff, Nat.reduceLT]
    refine sat_seq ?_
    simp (decide := true) only [EV, Ab.isNon, args, List.map, List.length_cons, List.length_nil, List.length_singleton, List.replicate, Nat.reduceSub, Nat.reduceAdd, Nat.zero_add, List.cons_append, List.nil_append, List.getElem?_cons_zero, List.getElem?_cons_succ, List.set_cons_zero, List.set_cons_succ, Option.some.injEq, decide_eq_true_eq, Bool.not_eq_true', decide_eq_false_iff_not, ite_true, ite_false, if_true, if_false, reduceIte, Bool.false_eq_true, Bool.not_true, Bool.not_false, Bool.true_eq_false, decide_true, decide_false, Nat.reduceLeDiff, Nat.reduceLT]
    exact fin G8 (ph C7).2
  · have hn0 : ((n' : Nat) : Int) > 0 := by omega
    have ph := fun (A : AH) => shift_hull (A := A) al ib.1 (ib.2 n0) lh few5 (fun q => (mem q).trans (f q))
    refine sat_seq ?_
    simp (decide := true) only [EV, Ab.isNon, args, List.map, List.length_cons, List.length_nil, List.length_singleton, List.replicate, Nat.reduceSub, Nat.reduceAdd, Nat.zero_add, List.cons_append, List.nil_append, List.getElem?_cons_zero, List.getElem?_cons_succ, List.set_cons_zero, List.set_cons_succ, Option.some.injEq, decide_eq_true_eq, Bool.not_eq_true', decide_eq_false_iff_not, ite_true, ite_false, if_true, if_false, reduceIte, Bool.false_eq_true, Bool.not_true, Bool.not_false, Bool.true_eq_false, decide_true, decide_false, Nat.reduceLeDiff, Nat.reduceLT]
    refine sat_seq ?_
    simp (decide := true) only [EV, Ab.isNon, args, List.map, List.length_cons, List.length_nil, List.length_singleton, List.replicate, Nat.reduceSub, Nat.reduceAdd, Nat.zero_add, List.cons_append, List.nil_append, List.getElem?_cons_zero, List.getElem?_cons_succ, List.set_cons_zero, List.set_cons_succ, Option.some.injEq, decide_eq_true_eq, Bool.not_eq_true', decide_eq_false_iff_not, ite_true, ite_false, if_true, if_false, reduceIte, Bool.false_eq_true, Bool.not_true, Bool.not_false, Bool.true_eq_false, decide_true, decide_false, Nat.reduceLeDiff, Nat.reduceLT]
    refine sat_seq ?_
    simp (decide := true) only [hn0, EV, Ab.isNon, args, List.map, List.length_cons, List.length_nil, List.length_singleton, List.replicate, Nat.reduceSub, Nat.reduceAdd, Nat.zero_add, List.cons_append, List.nil_append, List.getElem?_cons_zero, List.getElem?_cons_succ, List.set_cons_zero, List.set_cons_succ, Option.some.injEq, decide_eq_true_eq, Bool.not_eq_true', decide_eq_false_iff_not, ite_true, ite_false, if_true, if_false, reduceIte, Bool.false_eq_true, Bool.not_true, Bool.not_false, Bool.true_eq_false, decide_true, decide_false, Nat.reduceLeDiff, Nat.reduceLT]
    refine Sat.imp (ph C7).1 fun d C8 ⟨G8, e⟩ => ?_
    subst e
    rw [st_k (G8.keep _ _ hd7) (by show 4 < 1000000; decide), es3]
    simp (decide := true) only [EV, Ab.isNon, args, List.map, List.length_cons, List.length_nil, List.length_singleton, List.replicate, Nat.reduceSub, Nat.reduceAdd, Nat.zero_add, List.cons_append, List.nil_append, List.getElem?_cons_zero, List.getElem?_cons_succ, List.set_cons_zero, List.set_cons_succ, Option.some.injEq, decide_eq_true_eq, Bool.not_eq_true', decide_eq_false_iff_not, ite_true, ite_false, if_true, if_false, reduceIte, Bool.false_eq_true, Bool.not_true, Bool.not_false, Bool.true_eq_false, decide_true, decide_false, Nat.reduceLeDiff, Nat.reduceLT]
    refine sat_seq ?_
    simp (decide := true) only [EV, Ab.isNon, args, List.map, List.length_cons, List.length_nil, List.length_singleton, List.replicate, Nat.reduceSub, Nat.reduceAdd, Nat.zero_add, List.cons_append, List.nil_append, List.getElem?_cons_zero, List.getElem?_cons_succ, List.set_cons_zero, List.set_cons_succ, Option.some.injEq, decide_eq_true_eq, Bool.not_eq_true', decide_eq_false_iff_not, ite_true, ite_false, if_true, if_false, reduceIte, Bool.false_eq_true, Bool.not_true, Bool.not_false, Bool.true_eq_false, decide_true, decide_false, Nat.reduceLeDiff, Nat.reduceLT]
    exact fin G8 (ph C7).2
  · have hn0 : ¬ ((n' : Nat) : Int) > 0 := by omega
    have hs' := hull_same al mem few5
    have last : Aft A s sd (b + 10) C7 := ⟨W7, Q5, n', E5, hullD E n', Q5s, by rw [hs'.1]; exact hd7, hQ7, hs'.2, bE5⟩
    rcases hc12 with rfl | rfl
    · refine sat_seq ?_
      simp (decide := true) only [EV, Ab.isNon, args, List.map, List.length_cons, List.length_nil, List.length_singleton, List.replicate, Nat.reduceSub, Nat.reduceAdd, Nat.zero_add, List.cons_append, List.nil_append, List.getElem?_cons_zero, List.getElem?_cons_succ, List.set_cons_zero, List.set_cons_succ, Option.some.injEq, decide_eq_true_eq, Bool.not_eq_true', decide_eq_false_iff_not, ite_true, ite_false, if_true, if_false, reduceIte, Bool.false_eq_true, Bool.not_true, Bool.not_false, Bool.true_eq_false, decide_true, decide_false, Nat.reduceLeDiff, Nat.reduceLT]
      refine sat_seq ?_
      simp (decide := true) only [hn0, EV, Ab.isNon, args, List.map, List.length_cons, List.length_nil, List.length_singleton, List.replicate, Nat.reduceSub, Nat.reduceAdd, Nat.zero_add, List.cons_append, List.nil_append, List.getElem?_cons_zero, List.getElem?_cons_succ, List.set_cons_zero, List.set_cons_succ, Option.some.injEq, decide_eq_true_eq, Bool.not_eq_true', decide_eq_false_iff_not, ite_true, ite_false, if_true, if_false, reduceIte, Bool.false_eq_true, Bool.not_true, Bool.not_false, Bool.true_eq_false, decide_true, decide_false, Nat.reduceLeDiff, Nat.reduceLT]
      refine sat_seq ?_
      simp (decide := true) only [EV, Ab.isNon, args, List.map, List.length_cons, List.length_nil, List.length_singleton, List.replicate, Nat.reduceSub, Nat.reduceAdd, Nat.zero_add, List.cons_append, List.nil_append, List.getElem?_cons_zero, List.getElem?_cons_succ, List.set_cons_zero, List.set_cons_succ, Option.some.injEq, decide_eq_true_eq, Bool.not_eq_true', decide_eq_false_iff_not, ite_true, ite_false, if_true, if_false, reduceIte, Bool.false_eq_true, Bool.not_true, Bool.not_false, Bool.true_eq_false, decide_true, decide_false, Nat.reduceLeDiff, Nat.reduceLT]
      refine sat_seq ?_
      simp (decide := true) only [EV, Ab.isNon, args, List.map, List.length_cons, List.length_nil, List.length_singleton, List.replicate, Nat.reduceSub, Nat.reduceAdd, Nat.zero_add, List.cons_append, List.nil_append, List.getElem?_cons_zero, List.getElem?_cons_succ, List.set_cons_zero, List.set_cons_succ, Option.some.injEq, decide_eq_true_eq, Bool.not_eq_true', decide_eq_false_iff_not, ite_true, ite_false, if_true, if_false, reduceIte, Bool.false_eq_true, Bool.not_true, Bool.not_false, Bool.true_eq_false, decide_true, decide_false, Nat.reduceLeDiff, Nat.reduceLT]
      exact last
    · refine sat_seq ?_
      simp (decide := true) only [EV, Ab.isNon, args, List.map, List.length_cons, List.length_nil, List.length_singleton, List.replicate, Nat.reduceSub, Nat.reduceAdd, Nat.zero_add, List.cons_append, List.nil_append, List.getElem?_cons_zero, List.getElem?_cons_succ, List.set_cons_zero, List.set_cons_succ, Option.some.injEq, decide_eq_true_eq, Bool.not_eq_true', decide_eq_false_iff_not, ite_true, ite_false, if_true, if_false, reduceIte, Bool.false_eq_true, Bool.not_true, Bool.not_false, Bool.true_eq_false, decide_true, decide_false, Nat.reduceLeDiff, Nat.reduceLT]
      refine sat_seq ?_
      simp (decide := true) only [EV, Ab.isNon, args, List.map, List.length_cons, List.length_nil, List.length_singleton, List.replicate, Nat.reduceSub, Nat.reduceAdd, Nat.zero_add, List.cons_append, List.nil_append, List.getElem?_cons_zero, List.getElem?_cons_succ, List.set_cons_zero, List.set_cons_succ, Option.some.injEq, decide_eq_true_eq, Bool.not_eq_true', decide_eq_false_iff_not, ite_true, ite_false, if_true, if_false, reduceIte, Bool.false_eq_true, Bool.not_true, Bool.not_false, Bool.true_eq_false, decide_true, decide_false, Nat.reduceLeDiff, Nat.reduceLT]
      refine sat_seq ?_
      simp (decide := true) only [hn0, EV, Ab.isNon, args, List.map, List.length_cons, List.length_nil, List.length_singleton, List.replicate, Nat.reduceSub, Nat.reduceAdd, Nat.zero_add, List.cons_append, List.nil_append, List.getElem?_cons_zero, List.getElem?_cons_succ, List.set_cons_zero, List.set_cons_succ, Option.some.injEq, decide_eq_true_eq, Bool.not_eq_true', decide_eq_false_iff_not, ite_true, ite_false, if_true, if_false, reduceIte, Bool.false_eq_true, Bool.not_true, Bool.not_false, Bool.true_eq_false, decide_true, decide_false, Nat.reduceLeDiff, Nat.reduceLT]
      refine sat_seq ?_
      simp (decide := true) only [EV, Ab.isNon, args, List.map, List.length_cons, List.length_nil, List.length_singleton, List.replicate, Nat.reduceSub, Nat.reduceAdd, Nat.zero_add, List.cons_append, List.nil_append, List.getElem?_cons_zero, List.getElem?_cons_succ, List.set_cons_zero, List.set_cons_succ, Option.some.injEq, decide_eq_true_eq, Bool.not_eq_true', decide_eq_false_iff_not, ite_true, ite_false, if_true, if_false, reduceIte, Bool.false_eq_true, Bool.not_true, Bool.not_false, Bool.true_eq_false, decide_true, decide_false, Nat.reduceLeDiff, Nat.reduceLT]
      exact last
  · have ph := fun (A : AH) => add_hull (A := A) al (fun r hr => (prm r hr).1) n20' few5 (fun q => (mem q).trans (f q))
    refine sat_seq ?_
    simp (decide := true) only [EV, Ab.isNon, args, List.map, List.length_cons, List.length_nil, List.length_singleton, List.replicate, Nat.reduceSub, Nat.reduceAdd, Nat.zero_add, List.cons_append, List.nil_append, List.getElem?_cons_zero, List.getElem?_cons_succ, List.set_cons_zero, List.set_cons_succ, Option.some.injEq, decide_eq_true_eq, Bool.not_eq_true', decide_eq_false_iff_not, ite_true, ite_false, if_true, if_false, reduceIte, Bool.false_eq_true, Bool.not_true, Bool.not_false, Bool.true_eq_false, decide_true, decide_false, Nat.reduceLeDiff, Nat.reduceLT]
    refine sat_seq ?_
    simp (decide := true) only [EV, Ab.isNon, args, List.map, List.length_cons, List.length_nil, List.length_singleton, List.replicate, Nat.reduceSub, Nat.reduceAdd, Nat.zero_add, List.cons_append, List.nil_append, List.getElem?_cons_zero, List.getElem?_cons_succ, List.set_cons_zero, List.set_cons_succ, Option.some.injEq, decide_eq_true_eq, Bool.not_eq_true', decide_eq_false_iff_not, ite_true, ite_false, if_true, if_false, reduceIte, Bool.false_eq_true, Bool.not_true, Bool.not_false, Bool.true_eq_false, decide_true, decide_false, Nat.reduceLeDiff, Nat.reduceLT]
    refine sat_seq ?_
    simp (decide := true) only [EV, Ab.isNon, args, List.map, List.length_cons, List.length_nil, List.length_singleton, List.replicate, Nat.reduceSub, Nat.reduceAdd, Nat.zero_add, List.cons_append, List.nil_append, List.getElem?_cons_zero, List.getElem?_cons_succ, List.set_cons_zero, List.set_cons_succ, Option.some.injEq, decide_eq_true_eq, Bool.not_eq_true', decide_eq_false_iff_not, ite_true, ite_false, if_true, if_false, reduceIte, Bool.false_eq_true, Bool.not_true, Bool.not_false, Bool.true_eq_false, decide_true, decide_false, Nat.reduceLeDiff, Nat.reduceLT]
    refine sat_seq ?_
    simp (decide := true) only [EV, Ab.isNon, args, List.map, List.length_cons, List.length_nil, List.length_singleton, List.replicate, Nat.reduceSub, Nat.reduceAdd, Nat.zero_add, List.cons_append, List.nil_append, List.getElem?_cons_zero, List.getElem?_cons_succ, List.set_cons_zero, List.set_cons_succ, Option.some.injEq, decide_eq_true_eq, Bool.not_eq_true', decide_eq_false_iff_not, ite_true, ite_false, if_true, if_false, reduceIte, Bool.false_eq_true, Bool.not_true, Bool.not_false, Bool.true_eq_false, decide_true, decide_false, Nat.reduceLeDiff, Nat.reduceLT, ev_tup_ofL (rdL_l hR7)]
    refine Sat.imp (ph C7).1 fun d C8 ⟨G8, e⟩ => ?_
    subst e
    rw [st_k (G8.keep _ _ hd7) (by show 4 < 1000000; decide), es3]
    simp (decide := true) only [EV, Ab.isNon, args, List.map, List.length_cons, List.length_nil, List.length_singleton, List.replicate, Nat.reduceSub, Nat.reduceAdd, Nat.zero_add, List.cons_append, List.nil_append, List.getElem?_cons_zero, List.getElem?_cons_succ, List.set_cons_zero, List.set_cons_succ, Option.some.injEq, decide_eq_true_eq, Bool.not_eq_true', decide_eq_false_iff_not, ite_true, ite_false, if_true, if_false, reduceIte, Bool.false_eq_true, Bool.not_true, Bool.not_false, Bool.true_eq_false, decide_true, decide_false, Nat.reduceLeDiff, Nat.reduceLT]
    exact fin G8 (ph C7).2
end Law

namespace Law
open PySem PySem.Spec PyProof.Rows L2 Ab
open scoped Classical
/-! ### how many points a first box has -/
theorem mem_at0 {q : List Int} {v : Int} (h : v ∈ q) : ∃ k, k < q.length ∧ at0 q (k + 1) = v := by
  obtain ⟨k, hk, e⟩ := List.getElem_of_mem h
  exact ⟨k, hk, by rw [at0_s, List.getD_eq_getElem?_getD, List.getElem?_eq_getElem hk]; exact e⟩
theorem at0_out {p : List Int} {k : Nat} (h : p.length < k) : at0 p k = 0 := by
  obtain ⟨j, rfl⟩ : ∃ j, k = j + 1 := ⟨k - 1, by omega⟩
  rw [at0_s, List.getD_eq_getElem?_getD, List.getElem?_eq_none (by omega)]; rfl
/-- near one point -/
theorem cnt_small {n : Nat} {o : List Int} {ps : List (List Int)} (hn : n ≤ 3) (ne : ps ≠ []) (nr : ∀ p ∈ ps, ∀ k, -2 ≤ at0 p k - at0 o k ∧ at0 p k - at0 o k ≤ 2) : ∀ c, c < n + 1 → ∀ qs : List (List Int), qs.Nodup → (∀ q ∈ qs, Fp (mx ps) c q) → qs.length ≤ 3125 := fun c hc qs nd h => by
  have this := nodup_le qs ((tups c).map fun t => (List.range c).map fun k => at0 o (k + 1) + t.getD k 0) nd fun y hy => by
    obtain ⟨l, f⟩ := h y hy
    refine List.mem_map.mpr ⟨(List.range c).map fun k => at0 y (k + 1) - at0 o (k + 1), tups_mem c _ (by simp) (fun v hv => ?_), ?_⟩
    · obtain ⟨k, hk, rfl⟩ := List.mem_map.mp hv
      have hk := List.mem_range.mp hk
      have h1 := f (k + 1) 0 (by omega) (by omega) (by omega)
      have h2 := f 0 (k + 1) (by omega) (by omega) (by omega)
      obtain ⟨p, hp, e1⟩ := mx_mem (i := k + 1) (j := 0) ne
      obtain ⟨p', hp', e2⟩ := mx_mem (i := 0) (j := k + 1) ne
      have a1 := nr p hp (k + 1)
      have a2 := nr p' hp' (k + 1)
      rw [at0_z] at e1 e2 h1 h2
      omega
    · apply List.ext_getElem (by simp [l])
      intro k h1 h2
      have hk : k < c := by simpa using h1
      rw [List.getElem_map, List.getElem_range, List.getD_eq_getElem?_getD, List.getElem?_map, List.getElem?_range hk]
      have : at0 y (k + 1) = y[k] := by rw [at0_s, List.getD_eq_getElem?_getD, List.getElem?_eq_getElem h2]; rfl
      show at0 o (k + 1) + (at0 y (k + 1) - at0 o (k + 1)) = _
      omega
  rw [List.length_map, tups_len] at this
  have a : 5 ^ c ≤ 5 ^ 3 := Nat.pow_le_pow_right (n := 5) (by decide) (by omega)
  have b : (5 : Nat) ^ 3 = 125 := by decide
  omega
/-- two points that lie side by side -/
theorem cnt_two {p q : List Int} (dq : ∀ k, -1 ≤ at0 q k - at0 p k ∧ at0 q k - at0 p k ≤ 1) : ∀ c, ∀ qs : List (List Int), qs.Nodup → (∀ x ∈ qs, Fp (mx [p, q]) c x) → qs.length ≤ 3125 := fun c qs nd h => by
  have ne : [p, q] ≠ [] := by simp
  have two : ∀ i j, mx [p, q] i j = at0 p i - at0 p j ∨ mx [p, q] i j = at0 q i - at0 q j := fun i j => by
    obtain ⟨x, hx, e⟩ := mx_mem (i := i) (j := j) ne
    rcases List.mem_cons.mp hx with rfl | hx
    · exact .inl e.symm
    · cases List.mem_singleton.mp hx; exact .inr e.symm
  have this := nodup_le qs ((tups 5).map fun t => (List.range c).map fun k => at0 p (k + 1) + t.getD (at0 q (k + 1) - at0 p (k + 1) + 2).toNat 0) nd fun y hy => by
    obtain ⟨l, f⟩ := h y hy
    have xr : ∀ k, k < c → -2 ≤ at0 y (k + 1) - at0 p (k + 1) ∧ at0 y (k + 1) - at0 p (k + 1) ≤ 2 := fun k hk => by
      have h1 := f (k + 1) 0 (by omega) (by omega) (by omega)
      have h2 := f 0 (k + 1) (by omega) (by omega) (by omega)
      have a := dq (k + 1)
      rw [at0_z] at h1 h2
      rcases two (k + 1) 0 with e1 | e1 <;> rcases two 0 (k + 1) with e2 | e2 <;> rw [at0_z] at e1 e2 <;> omega
    have same : ∀ k l, k < c → l < c → at0 q (k + 1) - at0 p (k + 1) = at0 q (l + 1) - at0 p (l + 1) → at0 y (k + 1) - at0 p (k + 1) = at0 y (l + 1) - at0 p (l + 1) := fun k l hk hl e => by
      by_cases z : k = l
      · rw [z]
      have h1 := f (k + 1) (l + 1) (by omega) (by omega) (by omega)
      have h2 := f (l + 1) (k + 1) (by omega) (by omega) (by omega)
      rcases two (k + 1) (l + 1) with e1 | e1 <;> rcases two (l + 1) (k + 1) with e2 | e2 <;> omega
    refine List.mem_map.mpr ⟨(List.range 5).map fun e => if h : ∃ k, k < c ∧ at0 q (k + 1) - at0 p (k + 1) + 2 = ((e : Nat) : Int) then at0 y (h.choose + 1) - at0 p (h.choose + 1) else 0, tups_mem 5 _ (by simp) (fun v hv => ?_), ?_⟩
    · obtain ⟨e, _, rfl⟩ := List.mem_map.mp hv
      by_cases hh : ∃ k, k < c ∧ at0 q (k + 1) - at0 p (k + 1) + 2 = ((e : Nat) : Int)
      · rw [dif_pos hh]; exact xr _ hh.choose_spec.1
      · rw [dif_neg hh]; omega
    · apply List.ext_getElem (by simp [l])
      intro k h1 h2
      have hk : k < c := by simpa using h1
      have a := dq (k + 1)
      obtain ⟨e, he⟩ : ∃ e : Nat, at0 q (k + 1) - at0 p (k + 1) + 2 = (e : Nat) := ⟨(at0 q (k + 1) - at0 p (k + 1) + 2).toNat, by omega⟩
      have e5 : e < 5 := by omega
      have hh : ∃ k, k < c ∧ at0 q (k + 1) - at0 p (k + 1) + 2 = ((e : Nat) : Int) := ⟨k, hk, he⟩
      have sm := same _ _ hh.choose_spec.1 hk (by have := hh.choose_spec.2; omega)
      rw [List.getElem_map, List.getElem_range, he, Int.toNat_natCast, List.getD_eq_getElem?_getD, List.getElem?_map, List.getElem?_range e5]
      show at0 p (k + 1) + (dite _ _ _) = _
      rw [dif_pos hh, sm]
      have : at0 y (k + 1) = y[k] := by rw [at0_s, List.getD_eq_getElem?_getD, List.getElem?_eq_getElem h2]; rfl
      omega
  rw [List.length_map, tups_len] at this
  have b : (5 : Nat) ^ 5 = 3125 := by decide
  omega
/-! ### the law -/
theorem law_ok : ∀ ns : List Int, ns.length ≤ 63 → ∃ A', m_law [.ref 0] [.frz (ns.map D.int)] = .ok (.bl true) A' := by
  intro ns hl
  have key : Sat (m_law [.ref 0] [.frz (ns.map D.int)]) fun d A' => d = .bl true := by
    refine sat_body rfl (sat_seq ?_)
    have h0 : ([AO.frz (ns.map D.int)] : AH)[0]? = some (.frz (ns.map D.int)) := rfl
    generalize [AO.frz (ns.map D.int)] = A at h0 ⊢
    obtain ⟨v0, hv0⟩ := cell0 (k := 0) h0 hl (by decide)
    simp only [EV, Ab.isNon, args, List.map, List.length_cons, List.length_nil, List.length_singleton, List.replicate, Nat.reduceSub, Nat.reduceAdd, Nat.zero_add, List.cons_append, List.nil_append, List.getElem?_cons_zero, List.getElem?_cons_succ, List.set_cons_zero, List.set_cons_succ, Option.some.injEq, decide_eq_true_eq, Bool.not_eq_true', decide_eq_false_iff_not, ite_true, ite_false, if_true, if_false, reduceIte, Bool.false_eq_true, Bool.not_true, Bool.not_false, Bool.true_eq_false, decide_true, decide_false, Nat.reduceLeDiff, Nat.reduceLT, hv0, source_spec]
    have S1 := src_new (A := A) (v := v0)
    have h0 := (Gr.app (B := [AO.lst [.int v0, .int v0, .int 0]])).keep _ _ h0
    have l0 := at_lt (show A[0]? = some (.frz (ns.map D.int)) from by assumption)
    generalize A ++ [AO.lst [.int v0, .int v0, .int 0]] = A1 at *
    obtain ⟨s, es⟩ : ∃ s, A.length = s := ⟨_, rfl⟩
    rw [es] at S1 l0
    simp only [es]
    -- the size
    refine sat_seq ?_
    simp only [EV, Ab.isNon, args, List.map, List.length_cons, List.length_nil, List.length_singleton, List.replicate, Nat.reduceSub, Nat.reduceAdd, Nat.zero_add, List.cons_append, List.nil_append, List.getElem?_cons_zero, List.getElem?_cons_succ, List.set_cons_zero, List.set_cons_succ, Option.some.injEq, decide_eq_true_eq, Bool.not_eq_true', decide_eq_false_iff_not, ite_true, ite_false, if_true, if_false, reduceIte, Bool.false_eq_true, Bool.not_true, Bool.not_false, Bool.true_eq_false, decide_true, decide_false, Nat.reduceLeDiff, Nat.reduceLT]
    refine Sat.imp (pick_pos S1 (n := 4) (by decide) (by decide)) fun d A2 ⟨⟨sz, e, c0, c1⟩, D2⟩ => ?_
    subst e
    obtain ⟨sz, rfl⟩ : ∃ n : Nat, sz = (n : Nat) := ⟨sz.toNat, by omega⟩
    refine sat_mid (fun σ B => Dr s A1 B ∧ ∃ n : Nat, n ≤ 12 ∧ σ = [some (.ref 0), some (.ref s), some (.int (n : Nat)), none, none, none]) ?_ fun σ B ⟨DB, n, n12, hσ⟩ => ?_
    · simp only [EV, Ab.isNon, args, List.map, List.length_cons, List.length_nil, List.length_singleton, List.replicate, Nat.reduceSub, Nat.reduceAdd, Nat.zero_add, List.cons_append, List.nil_append, List.getElem?_cons_zero, List.getElem?_cons_succ, List.set_cons_zero, List.set_cons_succ, Option.some.injEq, decide_eq_true_eq, Bool.not_eq_true', decide_eq_false_iff_not, ite_true, ite_false, if_true, if_false, reduceIte, Bool.false_eq_true, Bool.not_true, Bool.not_false, Bool.true_eq_false, decide_true, decide_false, Nat.reduceLeDiff, Nat.reduceLT]
      refine Sat.imp (pick_pos D2.src (n := 8) (by decide) (by decide)) fun d A3 ⟨⟨v, e, v0, v1⟩, D3⟩ => ?_
      subst e
      simp only [EV, Ab.isNon, args, List.map, List.length_cons, List.length_nil, List.length_singleton, List.replicate, Nat.reduceSub, Nat.reduceAdd, Nat.zero_add, List.cons_append, List.nil_append, List.getElem?_cons_zero, List.getElem?_cons_succ, List.set_cons_zero, List.set_cons_succ, Option.some.injEq, decide_eq_true_eq, Bool.not_eq_true', decide_eq_false_iff_not, ite_true, ite_false, if_true, if_false, reduceIte, Bool.false_eq_true, Bool.not_true, Bool.not_false, Bool.true_eq_false, decide_true, decide_false, Nat.reduceLeDiff, Nat.reduceLT]
      split
      · refine Sat.imp (pick_pos D3.src (n := 9) (by decide) (by decide)) fun d A4 ⟨⟨u, e, u0, u1⟩, D4⟩ => ?_
        subst e
        simp only [EV, Ab.isNon, args, List.map, List.length_cons, List.length_nil, List.length_singleton, List.replicate, Nat.reduceSub, Nat.reduceAdd, Nat.zero_add, List.cons_append, List.nil_append, List.getElem?_cons_zero, List.getElem?_cons_succ, List.set_cons_zero, List.set_cons_succ, Option.some.injEq, decide_eq_true_eq, Bool.not_eq_true', decide_eq_false_iff_not, ite_true, ite_false, if_true, if_false, reduceIte, Bool.false_eq_true, Bool.not_true, Bool.not_false, Bool.true_eq_false, decide_true, decide_false, Nat.reduceLeDiff, Nat.reduceLT]
        exact ⟨_, rfl, D2.trans (D3.trans D4), (4 + u).toNat, by omega, by congr 5; omega⟩
      · exact ⟨_, rfl, D2.trans D3, sz, by omega, rfl⟩
    subst hσ
    -- the first box
    refine sat_seq ?_
    simp only [EV, Ab.isNon, args, List.map, List.length_cons, List.length_nil, List.length_singleton, List.replicate, Nat.reduceSub, Nat.reduceAdd, Nat.zero_add, List.cons_append, List.nil_append, List.getElem?_cons_zero, List.getElem?_cons_succ, List.set_cons_zero, List.set_cons_succ, Option.some.injEq, decide_eq_true_eq, Bool.not_eq_true', decide_eq_false_iff_not, ite_true, ite_false, if_true, if_false, reduceIte, Bool.false_eq_true, Bool.not_true, Bool.not_false, Bool.true_eq_false, decide_true, decide_false, Nat.reduceLeDiff, Nat.reduceLT]
    refine Sat.imp (start_spec DB.src (n := n) (by omega)) fun d A3 ⟨D3, r, ps0, o, e, hr, lo, ob, ne, len, near⟩ => ?_
    subst e
    have few0 : ps0.length ≤ 10 := by
      rcases near with ⟨_, h, _⟩ | ⟨q, h, _⟩
      · exact h
      · rw [h]; simp
    have nr : ∀ p ∈ ps0, ∀ k, -2 ≤ at0 p k - at0 o k ∧ at0 p k - at0 o k ≤ 2 := fun p hp k => by
      rcases near with ⟨_, _, h⟩ | ⟨q, h, h2⟩
      · exact h p hp k
      · rw [h] at hp
        rcases List.mem_cons.mp hp with rfl | hp
        · omega
        · rw [List.mem_singleton.mp hp]; have := h2 k; omega
    have bd0 : Bd 1000000002 ps0 := fun p hp k => by have := nr p hp k; have := ob k; omega
    refine Sat.imp (hull_spec (n := n) ⟨by omega, by omega, len⟩ hr) fun d A4 ⟨e, G4⟩ => ?_
    subst e
    have hm : hullD ps0 n = matD (n + 1) (mx ps0) := if_neg ne
    have D4 := DB.trans (D3.trans (G4.dr D3.src))
    have h0 := D4.keep _ _ (by omega) h0
    have C0 := mx_cl (m := n + 1) ne
    have cnt : ∀ c, c < n + 1 → ∀ qs : List (List Int), qs.Nodup → (∀ q ∈ qs, Fp (mx ps0) c q) → qs.length ≤ 3125 := by
      rcases near with ⟨h3, _, h⟩ | ⟨q, rfl, h2⟩
      · exact cnt_small h3 ne h
      · exact fun c _ => cnt_two h2 c
    -- the state
    refine sat_seq ?_
    rw [ev_set, sat_bind]
    unfold fDisp fPs
    have g5 := Gr.app (A := A4) (B := [AO.dic []])
    have hd5 := at_new (A := A4) (o := .dic [])
    have h05 := g5.keep _ _ h0
    obtain ⟨A5, eA5⟩ : ∃ A5, A4 ++ [AO.dic []] = A5 := ⟨_, rfl⟩
    obtain ⟨sd, esd⟩ : ∃ sd, A4.length = sd := ⟨_, rfl⟩
    rw [eA5] at g5 hd5 h05
    rw [esd] at hd5
    simp only [eA5, esd, hm]
    simp only [EV, Ab.isNon, args, List.map, List.length_cons, List.length_nil, List.length_singleton, List.replicate, Nat.reduceSub, Nat.reduceAdd, Nat.zero_add, List.cons_append, List.nil_append, List.getElem?_cons_zero, List.getElem?_cons_succ, List.set_cons_zero, List.set_cons_succ, Option.some.injEq, decide_eq_true_eq, Bool.not_eq_true', decide_eq_false_iff_not, ite_true, ite_false, if_true, if_false, reduceIte, Bool.false_eq_true, Bool.not_true, Bool.not_false, Bool.true_eq_false, decide_true, decide_false, Nat.reduceLeDiff, Nat.reduceLT]
    refine Sat.imp (points_cnt (N := 3125) (M := mx ps0) (m := n + 1) (by omega) (by omega) (fun i j _ _ _ => by have := mx_bd ne bd0 i j; omega) (fun i hi i0 => by
      obtain ⟨p, hp, e1⟩ := mx_mem (i := i) (j := 0) ne
      obtain ⟨p', hp', e2⟩ := mx_mem (i := 0) (j := i) ne
      have a1 := nr p hp i
      have a2 := nr p' hp' i
      rw [at0_z] at e1 e2
      omega) (by omega) cnt) fun d A6 ⟨G6, P, ps, e, hP, lps, alt⟩ => ?_
    subst e
    have ky1 : Ab.keyOf (.str "points") = some (.inr "points") := rfl
    have ky2 : Ab.keyOf (.str "size") = some (.inr "size") := rfl
    have ky3 : Ab.keyOf (.str "due") = some (.inr "due") := rfl
    have ky4 : Ab.keyOf (.str "box") = some (.inr "box") := rfl
    simp only [ky1]
    unfold fPs
    simp only [EV, Ab.isNon, args, List.map, List.length_cons, List.length_nil, List.length_singleton, List.replicate, Nat.reduceSub, Nat.reduceAdd, Nat.zero_add, List.cons_append, List.nil_append, List.getElem?_cons_zero, List.getElem?_cons_succ, List.set_cons_zero, List.set_cons_succ, Option.some.injEq, decide_eq_true_eq, Bool.not_eq_true', decide_eq_false_iff_not, ite_true, ite_false, if_true, if_false, reduceIte, Bool.false_eq_true, Bool.not_true, Bool.not_false, Bool.true_eq_false, decide_true, decide_false, Nat.reduceLeDiff, Nat.reduceLT, ky2]
    unfold fPs
    simp only [EV, Ab.isNon, args, List.map, List.length_cons, List.length_nil, List.length_singleton, List.replicate, Nat.reduceSub, Nat.reduceAdd, Nat.zero_add, List.cons_append, List.nil_append, List.getElem?_cons_zero, List.getElem?_cons_succ, List.set_cons_zero, List.set_cons_succ, Option.some.injEq, decide_eq_true_eq, Bool.not_eq_true', decide_eq_false_iff_not, ite_true, ite_false, if_true, if_false, reduceIte, Bool.false_eq_true, Bool.not_true, Bool.not_false, Bool.true_eq_false, decide_true, decide_false, Nat.reduceLeDiff, Nat.reduceLT, ky3]
    unfold fPs
    simp only [EV, Ab.isNon, args, List.map, List.length_cons, List.length_nil, List.length_singleton, List.replicate, Nat.reduceSub, Nat.reduceAdd, Nat.zero_add, List.cons_append, List.nil_append, List.getElem?_cons_zero, List.getElem?_cons_succ, List.set_cons_zero, List.set_cons_succ, Option.some.injEq, decide_eq_true_eq, Bool.not_eq_true', decide_eq_false_iff_not, ite_true, ite_false, if_true, if_false, reduceIte, Bool.false_eq_true, Bool.not_true, Bool.not_false, Bool.true_eq_false, decide_true, decide_false, Nat.reduceLeDiff, Nat.reduceLT, ky4]
    unfold fPs
    simp only [EV, Ab.isNon, args, List.map, List.length_cons, List.length_nil, List.length_singleton, List.replicate, Nat.reduceSub, Nat.reduceAdd, Nat.zero_add, List.cons_append, List.nil_append, List.getElem?_cons_zero, List.getElem?_cons_succ, List.set_cons_zero, List.set_cons_succ, Option.some.injEq, decide_eq_true_eq, Bool.not_eq_true', decide_eq_false_iff_not, ite_true, ite_false, if_true, if_false, reduceIte, Bool.false_eq_true, Bool.not_true, Bool.not_false, Bool.true_eq_false, decide_true, decide_false, Nat.reduceLeDiff, Nat.reduceLT]
    have hd6 := G6.keep _ _ hd5
    have h06 := G6.keep _ _ h05
    rw [hd6]
    simp only
    try rw [if_pos (by decide)]
    have em2 : mergeD [] [((.inr "points" : Key), D.ref P), (.inr "size", .int (n : Nat)), (.inr "due", matD (n + 1) (mx ps0)), (.inr "box", matD (n + 1) (mx ps0))] = stK P n (matD (n + 1) (mx ps0)) (matD (n + 1) (mx ps0)) := rfl
    rw [em2]
    simp only [EV, Ab.isNon, args, List.map, List.length_cons, List.length_nil, List.length_singleton, List.replicate, Nat.reduceSub, Nat.reduceAdd, Nat.zero_add, List.cons_append, List.nil_append, List.getElem?_cons_zero, List.getElem?_cons_succ, List.set_cons_zero, List.set_cons_succ, Option.some.injEq, decide_eq_true_eq, Bool.not_eq_true', decide_eq_false_iff_not, ite_true, ite_false, if_true, if_false, reduceIte, Bool.false_eq_true, Bool.not_true, Bool.not_false, Bool.true_eq_false, decide_true, decide_false, Nat.reduceLeDiff, Nat.reduceLT]
    have sd0 : sd ≠ 0 := by have := D4.le; have := at_lt h0; omega
    have Pd : P ≠ sd := fun e => by rw [e, hd6] at hP; cases hP
    have h07 : (A6.set sd (.dic (stK P n (matD (n + 1) (mx ps0)) (matD (n + 1) (mx ps0)))))[0]? = some (.frz (ns.map D.int)) := by rw [List.getElem?_set_ne sd0]; exact h06
    have hd7 := at_set (o := .dic (stK P n (matD (n + 1) (mx ps0)) (matD (n + 1) (mx ps0)))) (at_lt hd6)
    have hP7 : (A6.set sd (.dic (stK P n (matD (n + 1) (mx ps0)) (matD (n + 1) (mx ps0)))))[P]? = some (.lst (ps.map ptD)) := by rw [List.getElem?_set_ne (Ne.symm Pd)]; exact hP
    have D7 : Dr s A1 (A6.set sd (.dic (stK P n (matD (n + 1) (mx ps0)) (matD (n + 1) (mx ps0))))) := ((D4.trans (g5.dr D4.src)).trans (G6.dr (D4.trans (g5.dr D4.src)).src)).setN (by have := D4.le; omega) S1
    generalize A6.set sd (.dic (stK P n (matD (n + 1) (mx ps0)) (matD (n + 1) (mx ps0)))) = A7 at *
    have alt : ∀ p, p ∈ ps ↔ Fp (mx ps0) n p := by
      rcases alt with ⟨⟨i, hi, neg⟩, _⟩ | ⟨_, h⟩
      · have := C0.dg i hi; omega
      · exact h
    have bq := bq_done (bq_self C0) (E := ps) alt (by omega) (by omega)
    have eh : matD (n + 1) (mx ps0) = hullD ps n := bq.1
    have al := bq.2
    have bd : Bd 1000000002 ps := fun p hp k => by
      have f := (alt p).mp hp
      by_cases kn : k ≤ n
      · by_cases k0 : k = 0
        · rw [k0, at0_z]; omega
        · have h1 := f.2 k 0 kn (by omega) k0
          have h2 := f.2 0 k (by omega) kn (Ne.symm k0)
          obtain ⟨q, hq, e1⟩ := mx_mem (i := k) (j := 0) ne
          obtain ⟨q', hq', e2⟩ := mx_mem (i := 0) (j := k) ne
          have a1 := bd0 q hq k
          have a2 := bd0 q' hq' k
          rw [at0_z] at e1 e2 h1 h2
          omega
      · rw [at0_out (by have := f.1; omega)]; omega
    -- the steps
    refine sat_seq ?_
    simp only [EV, Ab.isNon, args, List.map, List.length_cons, List.length_nil, List.length_singleton, List.replicate, Nat.reduceSub, Nat.reduceAdd, Nat.zero_add, List.cons_append, List.nil_append, List.getElem?_cons_zero, List.getElem?_cons_succ, List.set_cons_zero, List.set_cons_succ, Option.some.injEq, decide_eq_true_eq, Bool.not_eq_true', decide_eq_false_iff_not, ite_true, ite_false, if_true, if_false, reduceIte, Bool.false_eq_true, Bool.not_true, Bool.not_false, Bool.true_eq_false, decide_true, decide_false, Nat.reduceLeDiff, Nat.reduceLT]
    refine Sat.imp (pick_pos D7.src (n := 5) (by decide) (by decide)) fun d A8 ⟨⟨v, e, v0, v1⟩, D8⟩ => ?_
    subst e
    have ssd : sd ≠ s := by have := D4.le; have := S1.lt; omega
    have hd8 := D8.keep _ _ ssd hd7
    have Ps : P ≠ s := fun e => by
      obtain ⟨x, y, z, h⟩ := D7.src
      rw [e, h] at hP7
      have hh : [D.int x, .int y, .int z] = ps.map ptD := by injection hP7 with hP7; injection hP7
      cases ps with
      | nil => cases hh
      | cons p l => cases hh
    have hP8 := D8.keep _ _ Ps hP7
    have h08 := D8.keep _ _ (by omega) h07
    rw [eh] at hd8
    simp only [EV, Ab.isNon, args, List.map, List.length_cons, List.length_nil, List.length_singleton, List.replicate, Nat.reduceSub, Nat.reduceAdd, Nat.zero_add, List.cons_append, List.nil_append, List.getElem?_cons_zero, List.getElem?_cons_succ, List.set_cons_zero, List.set_cons_succ, Option.some.injEq, decide_eq_true_eq, Bool.not_eq_true', decide_eq_false_iff_not, ite_true, ite_false, if_true, if_false, reduceIte, Bool.false_eq_true, Bool.not_true, Bool.not_false, Bool.true_eq_false, decide_true, decide_false, Nat.reduceLeDiff, Nat.reduceLT]
    rw [if_pos (inRg_of (by omega) (by omega))]
    obtain ⟨m, hm2, m7⟩ : ∃ m : Nat, (3 + v).toNat = m ∧ m ≤ 7 := ⟨_, rfl, by omega⟩
    rw [hm2]
    refine range_inv (fun k σ C => C[0]? = some (.frz (ns.map D.int)) ∧ (∃ (P n' : Nat) (ps : List (List Int)), C[sd]? = some (.dic (stK P n' (hullD ps n') (hullD ps n'))) ∧ C[P]? = some (.lst (ps.map ptD)) ∧ All n' ps ∧ Bd (1000000002 + 10 * (k : Int)) ps) ∧ ∃ x1 x5, σ = [some (.ref 0), x1, some (.int (n : Nat)), some (matD (n + 1) (mx ps0)), some (.ref sd), x5])
      (fun k σ C hk ⟨h0, ⟨P, n', ps, hd, hP, al, bd⟩, x1, x5, hσ⟩ => ?_) (fun σ C ⟨h0, ⟨P, n', ps, hd, hP, al, bd⟩, x1, x5, hσ⟩ => ?_) ⟨h08, ⟨P, n, ps, hd8, hP8, al, by simpa using bd⟩, _, _, rfl⟩
    · subst hσ
      refine sat_seq ?_
      obtain ⟨v, hv⟩ := cell0 (k := 0 + (k : Int) + 1) h0 hl (by omega)
      have mk : mulOk 17 (0 + (k : Int)) := mulOk_l (by decide) (by decide)
      simp only [EV, Ab.isNon, args, List.map, List.length_cons, List.length_nil, List.length_singleton, List.replicate, Nat.reduceSub, Nat.reduceAdd, Nat.zero_add, List.cons_append, List.nil_append, List.getElem?_cons_zero, List.getElem?_cons_succ, List.set_cons_zero, List.set_cons_succ, Option.some.injEq, decide_eq_true_eq, Bool.not_eq_true', decide_eq_false_iff_not, ite_true, ite_false, if_true, if_false, reduceIte, Bool.false_eq_true, Bool.not_true, Bool.not_false, Bool.true_eq_false, decide_true, decide_false, Nat.reduceLeDiff, Nat.reduceLT, hv, ev_mul mk, source_spec]
      have S' := src_new (A := C) (v := v + 17 * (0 + (k : Int)))
      have gs := Gr.app (A := C) (B := [AO.lst [.int (v + 17 * (0 + (k : Int))), .int (v + 17 * (0 + (k : Int))), .int 0]])
      generalize C ++ [AO.lst [.int (v + 17 * (0 + (k : Int))), .int (v + 17 * (0 + (k : Int))), .int 0]] = B at *
      obtain ⟨t, et⟩ : ∃ t, C.length = t := ⟨_, rfl⟩
      rw [et] at S'
      simp only [et]
      have lsd := at_lt hd
      have lP := at_lt hP
      have l0 := at_lt h0
      have h0 := gs.keep _ _ h0
      have hd := gs.keep _ _ hd
      have hP := gs.keep _ _ hP
      refine sat_mid (fun σ E => E[0]? = some (.frz (ns.map D.int)) ∧ (∃ (P n' : Nat) (ps : List (List Int)) (due : D), E[sd]? = some (.dic (stK P n' due (hullD ps n'))) ∧ E[P]? = some (.lst (ps.map ptD)) ∧ All n' ps ∧ Bd (1000000002 + 10 * ((k + 1 : Nat) : Int)) ps) ∧ σ = [some (.ref 0), some (.ref t), some (.int (n : Nat)), some (matD (n + 1) (mx ps0)), some (.ref sd), some (.int (0 + (k : Int)))]) ?_ fun σ E ⟨h0, ⟨P, n', ps, due, hd, hP, al, bd⟩, hσ⟩ => ?_
      · simp only [EV, Ab.isNon, args, List.map, List.length_cons, List.length_nil, List.length_singleton, List.replicate, Nat.reduceSub, Nat.reduceAdd, Nat.zero_add, List.cons_append, List.nil_append, List.getElem?_cons_zero, List.getElem?_cons_succ, List.set_cons_zero, List.set_cons_succ, Option.some.injEq, decide_eq_true_eq, Bool.not_eq_true', decide_eq_false_iff_not, ite_true, ite_false, if_true, if_false, reduceIte, Bool.false_eq_true, Bool.not_true, Bool.not_false, Bool.true_eq_false, decide_true, decide_false, Nat.reduceLeDiff, Nat.reduceLT]
        refine Sat.imp (pick_pos S' (n := 2) (by decide) (by decide)) fun d E1 ⟨⟨u, e, u0, u1⟩, D1⟩ => ?_
        subst e
        have h01 := D1.keep _ _ (by omega) h0
        have hd1 := D1.keep _ _ (by omega) hd
        have hP1 := D1.keep _ _ (by omega) hP
        have fin : ∀ {E : AH} {b : Int}, Aft E1 t sd b E → b ≤ 1000000002 + 10 * ((k + 1 : Nat) : Int) → E[0]? = some (.frz (ns.map D.int)) ∧ (∃ (P n' : Nat) (ps : List (List Int)) (due : D), E[sd]? = some (.dic (stK P n' due (hullD ps n'))) ∧ E[P]? = some (.lst (ps.map ptD)) ∧ All n' ps ∧ Bd (1000000002 + 10 * ((k + 1 : Nat) : Int)) ps) := fun {E b} ⟨W, P, n', ps, due, _, h1, h2, h3, h4⟩ le => ⟨W.keep _ _ (by omega) (Ne.symm sd0) h01, P, n', ps, due, h1, h2, h3, bd_up h4 le⟩
        simp only [EV, Ab.isNon, args, List.map, List.length_cons, List.length_nil, List.length_singleton, List.replicate, Nat.reduceSub, Nat.reduceAdd, Nat.zero_add, List.cons_append, List.nil_append, List.getElem?_cons_zero, List.getElem?_cons_succ, List.set_cons_zero, List.set_cons_succ, Option.some.injEq, decide_eq_true_eq, Bool.not_eq_true', decide_eq_false_iff_not, ite_true, ite_false, if_true, if_false, reduceIte, Bool.false_eq_true, Bool.not_true, Bool.not_false, Bool.true_eq_false, decide_true, decide_false, Nat.reduceLeDiff, Nat.reduceLT]
        split
        · refine Sat.imp (cut_spec D1.src hd1 hP1 (by omega) al bd (by omega) (by omega)) fun d E2 h => ?_
          exact ⟨_, rfl, (fin h (by omega)).1, (fin h (by omega)).2, rfl⟩
        · refine Sat.imp (change_spec D1.src hd1 hP1 (by omega) al bd (by omega) (by omega)) fun d E2 h => ?_
          exact ⟨_, rfl, (fin h (by omega)).1, (fin h (by omega)).2, rfl⟩
      subst hσ
      refine sat_seq ?_
      have n20 := al.n20
      have few := al.few
      simp only [EV, Ab.isNon, args, List.map, List.length_cons, List.length_nil, List.length_singleton, List.replicate, Nat.reduceSub, Nat.reduceAdd, Nat.zero_add, List.cons_append, List.nil_append, List.getElem?_cons_zero, List.getElem?_cons_succ, List.set_cons_zero, List.set_cons_succ, Option.some.injEq, decide_eq_true_eq, Bool.not_eq_true', decide_eq_false_iff_not, ite_true, ite_false, if_true, if_false, reduceIte, Bool.false_eq_true, Bool.not_true, Bool.not_false, Bool.true_eq_false, decide_true, decide_false, Nat.reduceLeDiff, Nat.reduceLT, ixk (x := "points") hd (v := .ref P) rfl, ixk (x := "size") hd (v := .int (n' : Nat)) rfl]
      refine Sat.imp (hull_spec (n := n') ⟨n20, by omega, al.len⟩ hP) fun d E2 ⟨e, G2⟩ => ?_
      subst e
      have hd2 := G2.keep _ _ hd
      rw [st_k hd2 (by show 4 < 1000000; decide)]
      have es1 : setK (stK P n' due (hullD ps n')) (.inr "due") (hullD ps n') = stK P n' (hullD ps n') (hullD ps n') := rfl
      rw [es1]
      simp only [EV, Ab.isNon, args, List.map, List.length_cons, List.length_nil, List.length_singleton, List.replicate, Nat.reduceSub, Nat.reduceAdd, Nat.zero_add, List.cons_append, List.nil_append, List.getElem?_cons_zero, List.getElem?_cons_succ, List.set_cons_zero, List.set_cons_succ, Option.some.injEq, decide_eq_true_eq, Bool.not_eq_true', decide_eq_false_iff_not, ite_true, ite_false, if_true, if_false, reduceIte, Bool.false_eq_true, Bool.not_true, Bool.not_false, Bool.true_eq_false, decide_true, decide_false, Nat.reduceLeDiff, Nat.reduceLT]
      have Pd : P ≠ sd := fun e => by rw [e, hd] at hP; cases hP
      have hd3 := at_set (o := .dic (stK P n' (hullD ps n') (hullD ps n'))) (at_lt hd2)
      have hP3 : (E2.set sd (.dic (stK P n' (hullD ps n') (hullD ps n'))))[P]? = some (.lst (ps.map ptD)) := by rw [List.getElem?_set_ne (Ne.symm Pd)]; exact G2.keep _ _ hP
      have h03 : (E2.set sd (.dic (stK P n' (hullD ps n') (hullD ps n'))))[0]? = some (.frz (ns.map D.int)) := by rw [List.getElem?_set_ne sd0]; exact G2.keep _ _ h0
      generalize E2.set sd (.dic (stK P n' (hullD ps n') (hullD ps n'))) = E3 at *
      simp only [EV, Ab.isNon, args, List.map, List.length_cons, List.length_nil, List.length_singleton, List.replicate, Nat.reduceSub, Nat.reduceAdd, Nat.zero_add, List.cons_append, List.nil_append, List.getElem?_cons_zero, List.getElem?_cons_succ, List.set_cons_zero, List.set_cons_succ, Option.some.injEq, decide_eq_true_eq, Bool.not_eq_true', decide_eq_false_iff_not, ite_true, ite_false, if_true, if_false, reduceIte, Bool.false_eq_true, Bool.not_true, Bool.not_false, Bool.true_eq_false, decide_true, decide_false, Nat.reduceLeDiff, Nat.reduceLT, ixk (x := "box") hd3 (v := hullD ps n') rfl, ixk (x := "due") hd3 (v := hullD ps n') rfl, same_hull n20, turn_]
      exact ⟨h03, ⟨P, n', ps, hd3, hP3, al, bd⟩, _, _, rfl⟩
    · subst hσ
      have tn : ∀ {e : D} (A : AH), m_tie_boxes [hullD ps n', .non, e] A = .ok .non A := fun {e} A => by rw [hull_out]; exact tie_non
      simp only [EV, Ab.isNon, args, List.map, List.length_cons, List.length_nil, List.length_singleton, List.replicate, Nat.reduceSub, Nat.reduceAdd, Nat.zero_add, List.cons_append, List.nil_append, List.getElem?_cons_zero, List.getElem?_cons_succ, List.set_cons_zero, List.set_cons_succ, Option.some.injEq, decide_eq_true_eq, Bool.not_eq_true', decide_eq_false_iff_not, ite_true, ite_false, if_true, if_false, reduceIte, Bool.false_eq_true, Bool.not_true, Bool.not_false, Bool.true_eq_false, decide_true, decide_false, Nat.reduceLeDiff, Nat.reduceLT, ixk (x := "box") hd (v := hullD ps n') rfl, tn, non_tie]
  obtain ⟨d, A', e, rfl⟩ := key.eq
  exact ⟨A', e⟩
end Law

namespace Law
open PySem PySem.Spec PyProof.Rows L2 Ab
theorem all_mk {l : PySem.W.OpenLaw} {w : World} {K : PySem.W.Frag} {h : Heap} {mg : Str → Option Value} {fa : Addr} (X : K.In h) (G : h.Ns mainGlobals mg) (hfa : mg "law" = some (.ref fa))
    {f0 : Addr} {od0 an0 : Option Addr} {sl0 : Array (Option Value)} {oc0 kV0 dc0 pm0 cd0 ct0 : Value}
    {f1 : Addr} {od1 an1 : Option Addr} {sl1 : Array (Option Value)} {oc1 kV1 dc1 pm1 cd1 ct1 : Value}
    {f2 : Addr} {od2 an2 : Option Addr} {sl2 : Array (Option Value)} {oc2 kV2 dc2 pm2 cd2 ct2 : Value}
    {f3 : Addr} {od3 an3 : Option Addr} {sl3 : Array (Option Value)} {oc3 kV3 dc3 pm3 cd3 ct3 : Value}
    {f4 : Addr} {od4 an4 : Option Addr} {sl4 : Array (Option Value)} {oc4 kV4 dc4 pm4 cd4 ct4 : Value}
    {f5 : Addr} {od5 an5 : Option Addr} {sl5 : Array (Option Value)} {oc5 kV5 dc5 pm5 cd5 ct5 : Value}
    {f6 : Addr} {od6 an6 : Option Addr} {sl6 : Array (Option Value)} {oc6 kV6 dc6 pm6 cd6 ct6 : Value}
    {f7 : Addr} {od7 an7 : Option Addr} {sl7 : Array (Option Value)} {oc7 kV7 dc7 pm7 cd7 ct7 : Value}
    {f8 : Addr} {od8 an8 : Option Addr} {sl8 : Array (Option Value)} {oc8 kV8 dc8 pm8 cd8 ct8 : Value}
    {f9 : Addr} {od9 an9 : Option Addr} {sl9 : Array (Option Value)} {oc9 kV9 dc9 pm9 cd9 ct9 : Value}
    {f10 : Addr} {od10 an10 : Option Addr} {sl10 : Array (Option Value)} {oc10 kV10 dc10 pm10 cd10 ct10 : Value}
    {f11 : Addr} {od11 an11 : Option Addr} {sl11 : Array (Option Value)} {oc11 kV11 dc11 pm11 cd11 ct11 : Value}
    {f12 : Addr} {od12 an12 : Option Addr} {sl12 : Array (Option Value)} {oc12 kV12 dc12 pm12 cd12 ct12 : Value}
    {f13 : Addr} {od13 an13 : Option Addr} {sl13 : Array (Option Value)} {oc13 kV13 dc13 pm13 cd13 ct13 : Value}
    {f14 : Addr} {od14 an14 : Option Addr} {sl14 : Array (Option Value)} {oc14 kV14 dc14 pm14 cd14 ct14 : Value}
    {f15 : Addr} {od15 an15 : Option Addr} {sl15 : Array (Option Value)} {oc15 kV15 dc15 pm15 cd15 ct15 : Value}
    {f16 : Addr} {od16 an16 : Option Addr} {sl16 : Array (Option Value)} {oc16 kV16 dc16 pm16 cd16 ct16 : Value}
    {f17 : Addr} {od17 an17 : Option Addr} {sl17 : Array (Option Value)} {oc17 kV17 dc17 pm17 cd17 ct17 : Value}
    {f18 : Addr} {od18 an18 : Option Addr} {sl18 : Array (Option Value)} {oc18 kV18 dc18 pm18 cd18 ct18 : Value}
    {f19 : Addr} {od19 an19 : Option Addr} {sl19 : Array (Option Value)} {oc19 kV19 dc19 pm19 cd19 ct19 : Value}
    {f20 : Addr} {od20 an20 : Option Addr} {sl20 : Array (Option Value)} {oc20 kV20 dc20 pm20 cd20 ct20 : Value}
    {f21 : Addr} {od21 an21 : Option Addr} {sl21 : Array (Option Value)} {oc21 kV21 dc21 pm21 cd21 ct21 : Value}
    {f22 : Addr} {od22 an22 : Option Addr} {sl22 : Array (Option Value)} {oc22 kV22 dc22 pm22 cd22 ct22 : Value}
    {f23 : Addr} {od23 an23 : Option Addr} {sl23 : Array (Option Value)} {oc23 kV23 dc23 pm23 cd23 ct23 : Value}
    {f24 : Addr} {od24 an24 : Option Addr} {sl24 : Array (Option Value)} {oc24 kV24 dc24 pm24 cd24 ct24 : Value}
    {f25 : Addr} {od25 an25 : Option Addr} {sl25 : Array (Option Value)} {oc25 kV25 dc25 pm25 cd25 ct25 : Value}
    {f26 : Addr} {od26 an26 : Option Addr} {sl26 : Array (Option Value)} {oc26 kV26 dc26 pm26 cd26 ct26 : Value}
    {f27 : Addr} {od27 an27 : Option Addr} {sl27 : Array (Option Value)} {oc27 kV27 dc27 pm27 cd27 ct27 : Value}
    {f28 : Addr} {od28 an28 : Option Addr} {sl28 : Array (Option Value)} {oc28 kV28 dc28 pm28 cd28 ct28 : Value}
    {f29 : Addr} {od29 an29 : Option Addr} {sl29 : Array (Option Value)} {oc29 kV29 dc29 pm29 cd29 ct29 : Value}
    {f30 : Addr} {od30 an30 : Option Addr} {sl30 : Array (Option Value)} {oc30 kV30 dc30 pm30 cd30 ct30 : Value}
    (a0 : PySem.W.nsIn K mainGlobals "_law_cell" = some (some (.ref f0))) (l0 : K.lookup f0 = some ⟨oc0, od0, .func (PySem.W.fnOf "_law_cell" "_law_cell" (defArgs s__law_cell) (defBody s__law_cell) (defScope s__law_cell) .none kV0 dc0 pm0 an0 cd0 ct0), sl0⟩) (c0 : PySem.W.codeIn K cd0 "_law_cell" = true) (k0 : PySem.W.keepIn K (.ref f0) = true)
    (a1 : PySem.W.nsIn K mainGlobals "_law_pick" = some (some (.ref f1))) (l1 : K.lookup f1 = some ⟨oc1, od1, .func (PySem.W.fnOf "_law_pick" "_law_pick" (defArgs s__law_pick) (defBody s__law_pick) (defScope s__law_pick) .none kV1 dc1 pm1 an1 cd1 ct1), sl1⟩) (c1 : PySem.W.codeIn K cd1 "_law_pick" = true) (k1 : PySem.W.keepIn K (.ref f1) = true)
    (a2 : PySem.W.nsIn K mainGlobals "_law_columns" = some (some (.ref f2))) (l2 : K.lookup f2 = some ⟨oc2, od2, .func (PySem.W.fnOf "_law_columns" "_law_columns" (defArgs s__law_columns) (defBody s__law_columns) (defScope s__law_columns) .none kV2 dc2 pm2 an2 cd2 ct2), sl2⟩) (c2 : PySem.W.codeIn K cd2 "_law_columns" = true) (k2 : PySem.W.keepIn K (.ref f2) = true)
    (a3 : PySem.W.nsIn K mainGlobals "_law_distinct" = some (some (.ref f3))) (l3 : K.lookup f3 = some ⟨oc3, od3, .func (PySem.W.fnOf "_law_distinct" "_law_distinct" (defArgs s__law_distinct) (defBody s__law_distinct) (defScope s__law_distinct) .none kV3 dc3 pm3 an3 cd3 ct3), sl3⟩) (c3 : PySem.W.codeIn K cd3 "_law_distinct" = true) (k3 : PySem.W.keepIn K (.ref f3) = true)
    (a4 : PySem.W.nsIn K mainGlobals "_law_few" = some (some (.ref f4))) (l4 : K.lookup f4 = some ⟨oc4, od4, .func (PySem.W.fnOf "_law_few" "_law_few" (defArgs s__law_few) (defBody s__law_few) (defScope s__law_few) .none kV4 dc4 pm4 an4 cd4 ct4), sl4⟩) (c4 : PySem.W.codeIn K cd4 "_law_few" = true) (k4 : PySem.W.keepIn K (.ref f4) = true)
    (a5 : PySem.W.nsIn K mainGlobals "_law_grid" = some (some (.ref f5))) (l5 : K.lookup f5 = some ⟨oc5, od5, .func (PySem.W.fnOf "_law_grid" "_law_grid" (defArgs s__law_grid) (defBody s__law_grid) (defScope s__law_grid) .none kV5 dc5 pm5 an5 cd5 ct5), sl5⟩) (c5 : PySem.W.codeIn K cd5 "_law_grid" = true) (k5 : PySem.W.keepIn K (.ref f5) = true)
    (a6 : PySem.W.nsIn K mainGlobals "_law_moved_points" = some (some (.ref f6))) (l6 : K.lookup f6 = some ⟨oc6, od6, .func (PySem.W.fnOf "_law_moved_points" "_law_moved_points" (defArgs s__law_moved_points) (defBody s__law_moved_points) (defScope s__law_moved_points) .none kV6 dc6 pm6 an6 cd6 ct6), sl6⟩) (c6 : PySem.W.codeIn K cd6 "_law_moved_points" = true) (k6 : PySem.W.keepIn K (.ref f6) = true)
    (a7 : PySem.W.nsIn K mainGlobals "_law_part" = some (some (.ref f7))) (l7 : K.lookup f7 = some ⟨oc7, od7, .func (PySem.W.fnOf "_law_part" "_law_part" (defArgs s__law_part) (defBody s__law_part) (defScope s__law_part) .none kV7 dc7 pm7 an7 cd7 ct7), sl7⟩) (c7 : PySem.W.codeIn K cd7 "_law_part" = true) (k7 : PySem.W.keepIn K (.ref f7) = true)
    (a8 : PySem.W.nsIn K mainGlobals "frozen" = some (some (.ref f8))) (l8 : K.lookup f8 = some ⟨oc8, od8, .func (PySem.W.fnOf "frozen" "frozen" (defArgs s_frozen) (defBody s_frozen) (defScope s_frozen) .none kV8 dc8 pm8 an8 cd8 ct8), sl8⟩) (c8 : PySem.W.codeIn K cd8 "frozen" = true) (k8 : PySem.W.keepIn K (.ref f8) = true)
    (a9 : PySem.W.nsIn K mainGlobals "add_columns" = some (some (.ref f9))) (l9 : K.lookup f9 = some ⟨oc9, od9, .func (PySem.W.fnOf "add_columns" "add_columns" (defArgs s_add_columns) (defBody s_add_columns) (defScope s_add_columns) .none kV9 dc9 pm9 an9 cd9 ct9), sl9⟩) (c9 : PySem.W.codeIn K cd9 "add_columns" = true) (k9 : PySem.W.keepIn K (.ref f9) = true)
    (a10 : PySem.W.nsIn K mainGlobals "free_column" = some (some (.ref f10))) (l10 : K.lookup f10 = some ⟨oc10, od10, .func (PySem.W.fnOf "free_column" "free_column" (defArgs s_free_column) (defBody s_free_column) (defScope s_free_column) .none kV10 dc10 pm10 an10 cd10 ct10), sl10⟩) (c10 : PySem.W.codeIn K cd10 "free_column" = true) (k10 : PySem.W.keepIn K (.ref f10) = true)
    (a11 : PySem.W.nsIn K mainGlobals "pick_columns" = some (some (.ref f11))) (l11 : K.lookup f11 = some ⟨oc11, od11, .func (PySem.W.fnOf "pick_columns" "pick_columns" (defArgs s_pick_columns) (defBody s_pick_columns) (defScope s_pick_columns) .none kV11 dc11 pm11 an11 cd11 ct11), sl11⟩) (c11 : PySem.W.codeIn K cd11 "pick_columns" = true) (k11 : PySem.W.keepIn K (.ref f11) = true)
    (a12 : PySem.W.nsIn K mainGlobals "shift_column" = some (some (.ref f12))) (l12 : K.lookup f12 = some ⟨oc12, od12, .func (PySem.W.fnOf "shift_column" "shift_column" (defArgs s_shift_column) (defBody s_shift_column) (defScope s_shift_column) .none kV12 dc12 pm12 an12 cd12 ct12), sl12⟩) (c12 : PySem.W.codeIn K cd12 "shift_column" = true) (k12 : PySem.W.keepIn K (.ref f12) = true)
    (a13 : PySem.W.nsIn K mainGlobals "_law_change" = some (some (.ref f13))) (l13 : K.lookup f13 = some ⟨oc13, od13, .func (PySem.W.fnOf "_law_change" "_law_change" (defArgs s__law_change) (defBody s__law_change) (defScope s__law_change) .none kV13 dc13 pm13 an13 cd13 ct13), sl13⟩) (c13 : PySem.W.codeIn K cd13 "_law_change" = true) (k13 : PySem.W.keepIn K (.ref f13) = true)
    (a14 : PySem.W.nsIn K mainGlobals "_law_belongs" = some (some (.ref f14))) (l14 : K.lookup f14 = some ⟨oc14, od14, .func (PySem.W.fnOf "_law_belongs" "_law_belongs" (defArgs s__law_belongs) (defBody s__law_belongs) (defScope s__law_belongs) .none kV14 dc14 pm14 an14 cd14 ct14), sl14⟩) (c14 : PySem.W.codeIn K cd14 "_law_belongs" = true) (k14 : PySem.W.keepIn K (.ref f14) = true)
    (a15 : PySem.W.nsIn K mainGlobals "_law_hull" = some (some (.ref f15))) (l15 : K.lookup f15 = some ⟨oc15, od15, .func (PySem.W.fnOf "_law_hull" "_law_hull" (defArgs s__law_hull) (defBody s__law_hull) (defScope s__law_hull) .none kV15 dc15 pm15 an15 cd15 ct15), sl15⟩) (c15 : PySem.W.codeIn K cd15 "_law_hull" = true) (k15 : PySem.W.keepIn K (.ref f15) = true)
    (a16 : PySem.W.nsIn K mainGlobals "_law_near_box" = some (some (.ref f16))) (l16 : K.lookup f16 = some ⟨oc16, od16, .func (PySem.W.fnOf "_law_near_box" "_law_near_box" (defArgs s__law_near_box) (defBody s__law_near_box) (defScope s__law_near_box) .none kV16 dc16 pm16 an16 cd16 ct16), sl16⟩) (c16 : PySem.W.codeIn K cd16 "_law_near_box" = true) (k16 : PySem.W.keepIn K (.ref f16) = true)
    (a17 : PySem.W.nsIn K mainGlobals "bound" = some (some (.ref f17))) (l17 : K.lookup f17 = some ⟨oc17, od17, .func (PySem.W.fnOf "bound" "bound" (defArgs s_bound) (defBody s_bound) (defScope s_bound) .none kV17 dc17 pm17 an17 cd17 ct17), sl17⟩) (c17 : PySem.W.codeIn K cd17 "bound" = true) (k17 : PySem.W.keepIn K (.ref f17) = true)
    (a18 : PySem.W.nsIn K mainGlobals "has_negative" = some (some (.ref f18))) (l18 : K.lookup f18 = some ⟨oc18, od18, .func (PySem.W.fnOf "has_negative" "has_negative" (defArgs s_has_negative) (defBody s_has_negative) (defScope s_has_negative) .none kV18 dc18 pm18 an18 cd18 ct18), sl18⟩) (c18 : PySem.W.codeIn K cd18 "has_negative" = true) (k18 : PySem.W.keepIn K (.ref f18) = true)
    (a19 : PySem.W.nsIn K mainGlobals "shorten" = some (some (.ref f19))) (l19 : K.lookup f19 = some ⟨oc19, od19, .func (PySem.W.fnOf "shorten" "shorten" (defArgs s_shorten) (defBody s_shorten) (defScope s_shorten) .none kV19 dc19 pm19 an19 cd19 ct19), sl19⟩) (c19 : PySem.W.codeIn K cd19 "shorten" = true) (k19 : PySem.W.keepIn K (.ref f19) = true)
    (a20 : PySem.W.nsIn K mainGlobals "close" = some (some (.ref f20))) (l20 : K.lookup f20 = some ⟨oc20, od20, .func (PySem.W.fnOf "close" "close" (defArgs s_close) (defBody s_close) (defScope s_close) .none kV20 dc20 pm20 an20 cd20 ct20), sl20⟩) (c20 : PySem.W.codeIn K cd20 "close" = true) (k20 : PySem.W.keepIn K (.ref f20) = true)
    (a21 : PySem.W.nsIn K mainGlobals "combined" = some (some (.ref f21))) (l21 : K.lookup f21 = some ⟨oc21, od21, .func (PySem.W.fnOf "combined" "combined" (defArgs s_combined) (defBody s_combined) (defScope s_combined) .none kV21 dc21 pm21 an21 cd21 ct21), sl21⟩) (c21 : PySem.W.codeIn K cd21 "combined" = true) (k21 : PySem.W.keepIn K (.ref f21) = true)
    (a22 : PySem.W.nsIn K mainGlobals "meet_boxes" = some (some (.ref f22))) (l22 : K.lookup f22 = some ⟨oc22, od22, .func (PySem.W.fnOf "meet_boxes" "meet_boxes" (defArgs s_meet_boxes) (defBody s_meet_boxes) (defScope s_meet_boxes) .none kV22 dc22 pm22 an22 cd22 ct22), sl22⟩) (c22 : PySem.W.codeIn K cd22 "meet_boxes" = true) (k22 : PySem.W.keepIn K (.ref f22) = true)
    (a23 : PySem.W.nsIn K mainGlobals "tie_boxes" = some (some (.ref f23))) (l23 : K.lookup f23 = some ⟨oc23, od23, .func (PySem.W.fnOf "tie_boxes" "tie_boxes" (defArgs s_tie_boxes) (defBody s_tie_boxes) (defScope s_tie_boxes) .none kV23 dc23 pm23 an23 cd23 ct23), sl23⟩) (c23 : PySem.W.codeIn K cd23 "tie_boxes" = true) (k23 : PySem.W.keepIn K (.ref f23) = true)
    (a24 : PySem.W.nsIn K mainGlobals "_law_cut" = some (some (.ref f24))) (l24 : K.lookup f24 = some ⟨oc24, od24, .func (PySem.W.fnOf "_law_cut" "_law_cut" (defArgs s__law_cut) (defBody s__law_cut) (defScope s__law_cut) .none kV24 dc24 pm24 an24 cd24 ct24), sl24⟩) (c24 : PySem.W.codeIn K cd24 "_law_cut" = true) (k24 : PySem.W.keepIn K (.ref f24) = true)
    (a25 : PySem.W.nsIn K mainGlobals "_law_fits" = some (some (.ref f25))) (l25 : K.lookup f25 = some ⟨oc25, od25, .func (PySem.W.fnOf "_law_fits" "_law_fits" (defArgs s__law_fits) (defBody s__law_fits) (defScope s__law_fits) .none kV25 dc25 pm25 an25 cd25 ct25), sl25⟩) (c25 : PySem.W.codeIn K cd25 "_law_fits" = true) (k25 : PySem.W.keepIn K (.ref f25) = true)
    (a26 : PySem.W.nsIn K mainGlobals "_law_points" = some (some (.ref f26))) (l26 : K.lookup f26 = some ⟨oc26, od26, .func (PySem.W.fnOf "_law_points" "_law_points" (defArgs s__law_points) (defBody s__law_points) (defScope s__law_points) .none kV26 dc26 pm26 an26 cd26 ct26), sl26⟩) (c26 : PySem.W.codeIn K cd26 "_law_points" = true) (k26 : PySem.W.keepIn K (.ref f26) = true)
    (a27 : PySem.W.nsIn K mainGlobals "_law_same" = some (some (.ref f27))) (l27 : K.lookup f27 = some ⟨oc27, od27, .func (PySem.W.fnOf "_law_same" "_law_same" (defArgs s__law_same) (defBody s__law_same) (defScope s__law_same) .none kV27 dc27 pm27 an27 cd27 ct27), sl27⟩) (c27 : PySem.W.codeIn K cd27 "_law_same" = true) (k27 : PySem.W.keepIn K (.ref f27) = true)
    (a28 : PySem.W.nsIn K mainGlobals "_law_source" = some (some (.ref f28))) (l28 : K.lookup f28 = some ⟨oc28, od28, .func (PySem.W.fnOf "_law_source" "_law_source" (defArgs s__law_source) (defBody s__law_source) (defScope s__law_source) .none kV28 dc28 pm28 an28 cd28 ct28), sl28⟩) (c28 : PySem.W.codeIn K cd28 "_law_source" = true) (k28 : PySem.W.keepIn K (.ref f28) = true)
    (a29 : PySem.W.nsIn K mainGlobals "_law_start" = some (some (.ref f29))) (l29 : K.lookup f29 = some ⟨oc29, od29, .func (PySem.W.fnOf "_law_start" "_law_start" (defArgs s__law_start) (defBody s__law_start) (defScope s__law_start) .none kV29 dc29 pm29 an29 cd29 ct29), sl29⟩) (c29 : PySem.W.codeIn K cd29 "_law_start" = true) (k29 : PySem.W.keepIn K (.ref f29) = true)
    (a30 : PySem.W.nsIn K mainGlobals "law" = some (some (.ref f30))) (l30 : K.lookup f30 = some ⟨oc30, od30, .func (PySem.W.fnOf "law" "law" (defArgs s_law) (defBody s_law) (defScope s_law) .none kV30 dc30 pm30 an30 cd30 ct30), sl30⟩) (c30 : PySem.W.codeIn K cd30 "law" = true) (k30 : PySem.W.keepIn K (.ref f30) = true)
    (z0 : PySem.W.nsIn K mainGlobals "bool" = some none)
    (z1 : PySem.W.nsIn K mainGlobals "int" = some none)
    (z2 : PySem.W.nsIn K mainGlobals "isinstance" = some none)
    (z3 : PySem.W.nsIn K mainGlobals "len" = some none)
    (z4 : PySem.W.nsIn K mainGlobals "list" = some none)
    (z5 : PySem.W.nsIn K mainGlobals "max" = some none)
    (z6 : PySem.W.nsIn K mainGlobals "min" = some none)
    (z7 : PySem.W.nsIn K mainGlobals "range" = some none)
    (z8 : PySem.W.nsIn K mainGlobals "str" = some none)
    (z9 : PySem.W.nsIn K mainGlobals "tuple" = some none)
    : ∃ fd : FuncData, (∀ (s : Shared) (v : Value), BindsTo s fd ⟨[v], []⟩ [("_law_script", v)]) ∧ ∀ base : Heap, K.In base → base.Ns mainGlobals mg → FnOk l.prog w K mg base CX0 21 fa fd ["_law_script"] (spM K 1 m_law) := by
  have e := hfa.symm.trans (PySem.W.mg_of X G a30)
  cases e
  have F0 := fun_mk (st := s__law_cell) l0 c0 k0
  have b0 := F0.binds (ps := ["_law_script", "_law_at"]) fun _ _ _ _ _ _ us hl => match us, hl with | [_, _], _ => rfl
  have F1 := fun_mk (st := s__law_pick) l1 c1 k1
  have b1 := F1.binds (ps := ["_law_source_here", "_law_size"]) fun _ _ _ _ _ _ us hl => match us, hl with | [_, _], _ => rfl
  have F2 := fun_mk (st := s__law_columns) l2 c2 k2
  have b2 := F2.binds (ps := ["_law_source_here", "_law_size", "_law_upto"]) fun _ _ _ _ _ _ us hl => match us, hl with | [_, _, _], _ => rfl
  have F3 := fun_mk (st := s__law_distinct) l3 c3 k3
  have b3 := F3.binds (ps := ["_law_points_here"]) fun _ _ _ _ _ _ us hl => match us, hl with | [_], _ => rfl
  have F4 := fun_mk (st := s__law_few) l4 c4 k4
  have b4 := F4.binds (ps := ["_law_points_here", "_law_size"]) fun _ _ _ _ _ _ us hl => match us, hl with | [_, _], _ => rfl
  have F5 := fun_mk (st := s__law_grid) l5 c5 k5
  have b5 := F5.binds (ps := ["_law_ranges"]) fun _ _ _ _ _ _ us hl => match us, hl with | [_], _ => rfl
  have F6 := fun_mk (st := s__law_moved_points) l6 c6 k6
  have b6 := F6.binds (ps := ["_law_points_here", "_law_i", "_law_low", "_law_high", "_law_free"]) fun _ _ _ _ _ _ us hl => match us, hl with | [_, _, _, _, _], _ => rfl
  have F7 := fun_mk (st := s__law_part) l7 c7 k7
  have b7 := F7.binds (ps := ["_law_point", "_law_columns_here"]) fun _ _ _ _ _ _ us hl => match us, hl with | [_, _], _ => rfl
  have F8 := fun_mk (st := s_frozen) l8 c8 k8
  have b8 := F8.binds (ps := ["rows"]) fun _ _ _ _ _ _ us hl => match us, hl with | [_], _ => rfl
  have F9 := fun_mk (st := s_add_columns) l9 c9 k9
  have b9 := F9.binds (ps := ["box", "ranges"]) fun _ _ _ _ _ _ us hl => match us, hl with | [_, _], _ => rfl
  have F10 := fun_mk (st := s_free_column) l10 c10 k10
  have b10 := F10.binds (ps := ["box", "i", "lo", "hi"]) fun _ _ _ _ _ _ us hl => match us, hl with | [_, _, _, _], _ => rfl
  have F11 := fun_mk (st := s_pick_columns) l11 c11 k11
  have b11 := F11.binds (ps := ["box", "columns"]) fun _ _ _ _ _ _ us hl => match us, hl with | [_, _], _ => rfl
  have F12 := fun_mk (st := s_shift_column) l12 c12 k12
  have b12 := F12.binds (ps := ["box", "i", "low", "high"]) fun _ _ _ _ _ _ us hl => match us, hl with | [_, _, _, _], _ => rfl
  have F13 := fun_mk (st := s__law_change) l13 c13 k13
  have b13 := F13.binds (ps := ["_law_source_here", "_law_state"]) fun _ _ _ _ _ _ us hl => match us, hl with | [_, _], _ => rfl
  have F14 := fun_mk (st := s__law_belongs) l14 c14 k14
  have b14 := F14.binds (ps := ["_law_matrix", "_law_point"]) fun _ _ _ _ _ _ us hl => match us, hl with | [_, _], _ => rfl
  have F15 := fun_mk (st := s__law_hull) l15 c15 k15
  have b15 := F15.binds (ps := ["_law_points_here", "_law_size"]) fun _ _ _ _ _ _ us hl => match us, hl with | [_, _], _ => rfl
  have F16 := fun_mk (st := s__law_near_box) l16 c16 k16
  have b16 := F16.binds (ps := ["_law_source_here", "_law_base"]) fun _ _ _ _ _ _ us hl => match us, hl with | [_, _], _ => rfl
  have F17 := fun_mk (st := s_bound) l17 c17 k17
  have b17 := F17.binds (ps := ["box", "i", "j", "most"]) fun _ _ _ _ _ _ us hl => match us, hl with | [_, _, _, _], _ => rfl
  have F18 := fun_mk (st := s_has_negative) l18 c18 k18
  have b18 := F18.binds (ps := ["rows"]) fun _ _ _ _ _ _ us hl => match us, hl with | [_], _ => rfl
  have F19 := fun_mk (st := s_shorten) l19 c19 k19
  have b19 := F19.binds (ps := ["rows", "middle"]) fun _ _ _ _ _ _ us hl => match us, hl with | [_, _], _ => rfl
  have F20 := fun_mk (st := s_close) l20 c20 k20
  have b20 := F20.binds (ps := ["matrix"]) fun _ _ _ _ _ _ us hl => match us, hl with | [_], _ => rfl
  have F21 := fun_mk (st := s_combined) l21 c21 k21
  have b21 := F21.binds (ps := ["a", "b", "greater"]) fun _ _ _ _ _ _ us hl => match us, hl with | [_, _, _], _ => rfl
  have F22 := fun_mk (st := s_meet_boxes) l22 c22 k22
  have b22 := F22.binds (ps := ["a", "b"]) fun _ _ _ _ _ _ us hl => match us, hl with | [_, _], _ => rfl
  have F23 := fun_mk (st := s_tie_boxes) l23 c23 k23
  have b23 := F23.binds (ps := ["box", "other", "columns"]) fun _ _ _ _ _ _ us hl => match us, hl with | [_, _, _], _ => rfl
  have F24 := fun_mk (st := s__law_cut) l24 c24 k24
  have b24 := F24.binds (ps := ["_law_source_here", "_law_state"]) fun _ _ _ _ _ _ us hl => match us, hl with | [_, _], _ => rfl
  have F25 := fun_mk (st := s__law_fits) l25 c25 k25
  have b25 := F25.binds (ps := ["_law_matrix", "_law_point", "_law_c", "_law_value"]) fun _ _ _ _ _ _ us hl => match us, hl with | [_, _, _, _], _ => rfl
  have F26 := fun_mk (st := s__law_points) l26 c26 k26
  have b26 := F26.binds (ps := ["_law_matrix"]) fun _ _ _ _ _ _ us hl => match us, hl with | [_], _ => rfl
  have F27 := fun_mk (st := s__law_same) l27 c27 k27
  have b27 := F27.binds (ps := ["_law_actual", "_law_due"]) fun _ _ _ _ _ _ us hl => match us, hl with | [_, _], _ => rfl
  have F28 := fun_mk (st := s__law_source) l28 c28 k28
  have b28 := F28.binds (ps := ["_law_cell_here"]) fun _ _ _ _ _ _ us hl => match us, hl with | [_], _ => rfl
  have F29 := fun_mk (st := s__law_start) l29 c29 k29
  have b29 := F29.binds (ps := ["_law_source_here", "_law_size"]) fun _ _ _ _ _ _ us hl => match us, hl with | [_, _], _ => rfl
  have F30 := fun_mk (st := s_law) l30 c30 k30
  have b30 := F30.binds (ps := ["_law_script"]) fun _ _ _ _ _ _ us hl => match us, hl with | [_], _ => rfl
  let T : Txt K mg := ⟨f0, _, F0, b0, PySem.W.mg_of X G a0, f1, _, F1, b1, PySem.W.mg_of X G a1, f2, _, F2, b2, PySem.W.mg_of X G a2, f3, _, F3, b3, PySem.W.mg_of X G a3, f4, _, F4, b4, PySem.W.mg_of X G a4, f5, _, F5, b5, PySem.W.mg_of X G a5, f6, _, F6, b6, PySem.W.mg_of X G a6, f7, _, F7, b7, PySem.W.mg_of X G a7, f8, _, F8, b8, PySem.W.mg_of X G a8, f9, _, F9, b9, PySem.W.mg_of X G a9, f10, _, F10, b10, PySem.W.mg_of X G a10, f11, _, F11, b11, PySem.W.mg_of X G a11, f12, _, F12, b12, PySem.W.mg_of X G a12, f13, _, F13, b13, PySem.W.mg_of X G a13, f14, _, F14, b14, PySem.W.mg_of X G a14, f15, _, F15, b15, PySem.W.mg_of X G a15, f16, _, F16, b16, PySem.W.mg_of X G a16, f17, _, F17, b17, PySem.W.mg_of X G a17, f18, _, F18, b18, PySem.W.mg_of X G a18, f19, _, F19, b19, PySem.W.mg_of X G a19, f20, _, F20, b20, PySem.W.mg_of X G a20, f21, _, F21, b21, PySem.W.mg_of X G a21, f22, _, F22, b22, PySem.W.mg_of X G a22, f23, _, F23, b23, PySem.W.mg_of X G a23, f24, _, F24, b24, PySem.W.mg_of X G a24, f25, _, F25, b25, PySem.W.mg_of X G a25, f26, _, F26, b26, PySem.W.mg_of X G a26, f27, _, F27, b27, PySem.W.mg_of X G a27, f28, _, F28, b28, PySem.W.mg_of X G a28, f29, _, F29, b29, PySem.W.mg_of X G a29, fa, _, F30, b30, PySem.W.mg_of X G a30, PySem.W.mg_none_of X G z0, PySem.W.mg_none_of X G z1, PySem.W.mg_none_of X G z2, PySem.W.mg_none_of X G z3, PySem.W.mg_none_of X G z4, PySem.W.mg_none_of X G z5, PySem.W.mg_none_of X G z6, PySem.W.mg_none_of X G z7, PySem.W.mg_none_of X G z8, PySem.W.mg_none_of X G z9⟩
  exact ⟨_, fun s v => .of_eq rfl, fun base _ _ => ad_law T⟩
end Law
open PySem PySem.W PyProof.Rows
set_option maxHeartbeats 0 in
theorem PySem.Challenge.cw_neverhappens_k22_whole_boxes_are_their_p_holds : PySem.Challenge.rw_neverhappens_k22_whole_boxes_are_their_p.Holds := by
  w_on; o_law; k_head; (case hw => w_witness2)
  k_fill
  refine L2.walk_ofK (l := PySem.Challenge.rw_neverhappens_k22_whole_boxes_are_their_p) (n := 63) (k := 21) (x := "_law_script") (CX := L2.CX0) (sp := fun K => Ab.spM K 1 Law.m_law) rfl (by decide) rfl ⟨rfl, by decide, by decide⟩ (fun w h Y => PySem.W.kIn_of Y) ?F (Ab.sp_law Law.law_ok) (fun _ _ _ _ h => h)
  case F =>
    intro w mg fa h KX G hmg
    refine' Law.all_mk KX G hmg ?a0 ?l0 ?c0 ?k0 ?a1 ?l1 ?c1 ?k1 ?a2 ?l2 ?c2 ?k2 ?a3 ?l3 ?c3 ?k3 ?a4 ?l4 ?c4 ?k4 ?a5 ?l5 ?c5 ?k5 ?a6 ?l6 ?c6 ?k6 ?a7 ?l7 ?c7 ?k7 ?a8 ?l8 ?c8 ?k8 ?a9 ?l9 ?c9 ?k9 ?a10 ?l10 ?c10 ?k10 ?a11 ?l11 ?c11 ?k11 ?a12 ?l12 ?c12 ?k12 ?a13 ?l13 ?c13 ?k13 ?a14 ?l14 ?c14 ?k14 ?a15 ?l15 ?c15 ?k15 ?a16 ?l16 ?c16 ?k16 ?a17 ?l17 ?c17 ?k17 ?a18 ?l18 ?c18 ?k18 ?a19 ?l19 ?c19 ?k19 ?a20 ?l20 ?c20 ?k20 ?a21 ?l21 ?c21 ?k21 ?a22 ?l22 ?c22 ?k22 ?a23 ?l23 ?c23 ?k23 ?a24 ?l24 ?c24 ?k24 ?a25 ?l25 ?c25 ?k25 ?a26 ?l26 ?c26 ?k26 ?a27 ?l27 ?c27 ?k27 ?a28 ?l28 ?c28 ?k28 ?a29 ?l29 ?c29 ?k29 ?a30 ?l30 ?c30 ?k30 ?z0 ?z1 ?z2 ?z3 ?z4 ?z5 ?z6 ?z7 ?z8 ?z9
    (case a0 => k_is)
    (case l0 => k_is)
    (case c0 => k_is)
    (case k0 => k_is)
    (case a1 => k_is)
    (case l1 => k_is)
    (case c1 => k_is)
    (case k1 => k_is)
    (case a2 => k_is)
    (case l2 => k_is)
    (case c2 => k_is)
    (case k2 => k_is)
    (case a3 => k_is)
    (case l3 => k_is)
    (case c3 => k_is)
    (case k3 => k_is)
    (case a4 => k_is)
    (case l4 => k_is)
    (case c4 => k_is)
    (case k4 => k_is)
    (case a5 => k_is)
    (case l5 => k_is)
    (case c5 => k_is)
    (case k5 => k_is)
    (case a6 => k_is)
    (case l6 => k_is)
    (case c6 => k_is)
    (case k6 => k_is)
    (case a7 => k_is)
    (case l7 => k_is)
    (case c7 => k_is)
    (case k7 => k_is)
    (case a8 => k_is)
    (case l8 => k_is)
    (case c8 => k_is)
    (case k8 => k_is)
    (case a9 => k_is)
    (case l9 => k_is)
    (case c9 => k_is)
    (case k9 => k_is)
    (case a10 => k_is)
    (case l10 => k_is)
    (case c10 => k_is)
    (case k10 => k_is)
    (case a11 => k_is)
    (case l11 => k_is)
    (case c11 => k_is)
    (case k11 => k_is)
    (case a12 => k_is)
    (case l12 => k_is)
    (case c12 => k_is)
    (case k12 => k_is)
    (case a13 => k_is)
    (case l13 => k_is)
    (case c13 => k_is)
    (case k13 => k_is)
    (case a14 => k_is)
    (case l14 => k_is)
    (case c14 => k_is)
    (case k14 => k_is)
    (case a15 => k_is)
    (case l15 => k_is)
    (case c15 => k_is)
    (case k15 => k_is)
    (case a16 => k_is)
    (case l16 => k_is)
    (case c16 => k_is)
    (case k16 => k_is)
    (case a17 => k_is)
    (case l17 => k_is)
    (case c17 => k_is)
    (case k17 => k_is)
    (case a18 => k_is)
    (case l18 => k_is)
    (case c18 => k_is)
    (case k18 => k_is)
    (case a19 => k_is)
    (case l19 => k_is)
    (case c19 => k_is)
    (case k19 => k_is)
    (case a20 => k_is)
    (case l20 => k_is)
    (case c20 => k_is)
    (case k20 => k_is)
    (case a21 => k_is)
    (case l21 => k_is)
    (case c21 => k_is)
    (case k21 => k_is)
    (case a22 => k_is)
    (case l22 => k_is)
    (case c22 => k_is)
    (case k22 => k_is)
    (case a23 => k_is)
    (case l23 => k_is)
    (case c23 => k_is)
    (case k23 => k_is)
    (case a24 => k_is)
    (case l24 => k_is)
    (case c24 => k_is)
    (case k24 => k_is)
    (case a25 => k_is)
    (case l25 => k_is)
    (case c25 => k_is)
    (case k25 => k_is)
    (case a26 => k_is)
    (case l26 => k_is)
    (case c26 => k_is)
    (case k26 => k_is)
    (case a27 => k_is)
    (case l27 => k_is)
    (case c27 => k_is)
    (case k27 => k_is)
    (case a28 => k_is)
    (case l28 => k_is)
    (case c28 => k_is)
    (case k28 => k_is)
    (case a29 => k_is)
    (case l29 => k_is)
    (case c29 => k_is)
    (case k29 => k_is)
    (case a30 => k_is)
    (case l30 => k_is)
    (case c30 => k_is)
    (case k30 => k_is)
    (case z0 => k_is)
    (case z1 => k_is)
    (case z2 => k_is)
    (case z3 => k_is)
    (case z4 => k_is)
    (case z5 => k_is)
    (case z6 => k_is)
    (case z7 => k_is)
    (case z8 => k_is)
    (case z9 => k_is)
