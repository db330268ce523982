import PyProof.Rows.All
import Wide.All
import OpenK.AllK
import Wide.FinOn
import HandS.ForMost
import HandS.Wide
import HandS.TupAny
import HandS.IsInst
import HandS.Flow
import HandS.Style
import HandS.FStr
import HandS.Deep
import HandS.Small
import HandS.RaiseMore
import HandS.More
import HandS.Conv
import HandS.Zip
import HandS.Ends
import HandS.DictComp
import HandS.Text
import PyProof.StrOps2
import PyProof.StrBlock2
import PyProof.EqAt
import PyProof.NeKinds
import HandS.TryOnly
import PySem.Challenge.RW_neverhappens_k03_whole_program_text
set_option Elab.async false
set_option linter.all false
set_option maxRecDepth 100000
namespace Ab
open PySem PySem.Spec PyProof.Rows L2

/-! ## data: what a value is, with tuples as plain data; what stands in a cell; the cells -/
inductive D where
  | non | bl (b : Bool) | int (i : Int) | str (x : Str) | tup (xs : List D) | ref (i : Nat)
inductive AO where
  | lst (xs : List D) | frz (xs : List D) | ftp (xs : List D) | dic (kvs : List (Key × D)) | fdk (kvs : List (Key × D)) | ins (C : Addr) (fs : List (Str × D))
abbrev AH := List AO
inductive Res (α : Type) where
  | ok (a : α) (A : AH) | exc (C : Addr) (fs : List (Str × D)) (A : AH) | bad
def Res.bind {α β : Type} (r : Res α) (k : α → AH → Res β) : Res β := match r with
  | .ok a A => k a A
  | .exc C fs A => .exc C fs A
  | .bad => .bad
abbrev ASt := List (Option D)
inductive Fl where
  | nx (s : ASt) | rt (d : D) | bk (s : ASt) | ct (s : ASt)
abbrev FE := ASt → AH → Res D
abbrev FA := ASt → AH → Res (List D)
abbrev FT := ASt → AH → Res Bool
abbrev FS := ASt → AH → Res Fl
abbrev FO := ASt → AH → Res (Option Int)
/-- a def as a function of its arguments -/
abbrev FM := List D → AH → Res D

/-! ## how data lies in the abstract heap: ρ tells the cells' addresses -/
mutual
def Rp (K : PySem.W.Frag) (ρ : List Addr) (H : Hp) : D → V → Prop
  | .non, v => v = .non
  | .bl b, v => v = .bl b
  | .int i, v => v = .int i
  | .str x, v => v = .str x
  | .ref i, v => ∃ a, ρ[i]? = some a ∧ v = .ref a
  | .tup ds, v => ∃ a xs, v = .ref a ∧ SqT K H a xs ∧ RpL K ρ H ds xs
def RpL (K : PySem.W.Frag) (ρ : List Addr) (H : Hp) : List D → List V → Prop
  | [], xs => xs = []
  | d :: ds, xs => ∃ x r, xs = x :: r ∧ Rp K ρ H d x ∧ RpL K ρ H ds r
end
def RpK {κ : Type} (K : PySem.W.Frag) (ρ : List Addr) (H : Hp) : List (κ × D) → List (κ × V) → Prop
  | [], us => us = []
  | p :: ps, us => ∃ v r, us = (p.1, v) :: r ∧ Rp K ρ H p.2 v ∧ RpK K ρ H ps r
structure Ext (K : PySem.W.Frag) (ρ : List Addr) (H : Hp) (ρ' : List Addr) (H' : Hp) : Prop where
  pre : ∃ t, ρ' = ρ ++ t
  gr : ∀ a xs, SqT K H a xs → SqT K H' a xs
  fz : ∀ (a : Addr) (ob : Obj) (u : HO), H a = some (.frz ob u) → H' a = some (.frz ob u)
/-- a list that nobody writes: the script -/
def SqF (K : PySem.W.Frag) (H : Hp) (a : Addr) (xs : List V) : Prop := (∃ o, H a = some (.frz o (.lst xs))) ∨ SqL K (fun _ => none) a xs
def isFz : AO → Bool
  | .frz _ => true
  | .ftp _ => true
  | _ => false
/-- a tuple of which the object is known -/
def SqE (H : Hp) (a : Addr) (xs : List V) : Prop := ∃ o, H a = some (.frz o (.tup xs)) ∧ o.cls = .type "tuple" ∧ o.dict = none
def ORel (K : PySem.W.Frag) (ρ : List Addr) (H : Hp) (a : Addr) : AO → Prop
  | .lst ds => ∃ xs, H a = some (.lst xs) ∧ RpL K ρ H ds xs
  | .frz ds => ∃ xs, SqF K H a xs ∧ RpL K ρ H ds xs
  | .ftp ds => ∃ xs, SqE H a xs ∧ RpL K ρ H ds xs
  | .fdk kvs => ∃ o us, H a = some (.frz o (.dK us)) ∧ RpK K ρ H kvs us
  | .dic kvs => ∃ us, H a = some (.dK us) ∧ RpK K ρ H kvs us
  | .ins C fs => ∃ dx us, H a = some (.ins C dx us) ∧ RpK K ρ H fs us
structure Rel (K : PySem.W.Frag) (ρ : List Addr) (H : Hp) (A : AH) : Prop where
  len : ρ.length = A.length
  nd : ∀ (i j : Nat) (a : Addr) o u, ρ[i]? = some a → ρ[j]? = some a → A[i]? = some o → A[j]? = some u → isFz o = false → isFz u = false → i = j
  ob : ∀ (i : Nat) o, A[i]? = some o → ∃ a, ρ[i]? = some a ∧ ORel K ρ H a o
structure SRel (K : PySem.W.Frag) (ρ : List Addr) (H : Hp) (s : ASt) (σ : L2.St) : Prop where
  len : s.length = σ.length
  at_ : ∀ (i : Nat) d, s[i]? = some (some d) → ∃ v, σ[i]? = some (some v) ∧ Rp K ρ H d v
section
variable {K : PySem.W.Frag} {ρ ρ' ρ'' : List Addr} {H H' H'' : Hp} {A A' : AH} {s : ASt} {σ : L2.St} {d : D} {v : V}
theorem Ext.refl : Ext K ρ H ρ H := ⟨⟨[], by simp⟩, fun _ _ h => h, fun _ _ _ h => h⟩
theorem Ext.trans (e : Ext K ρ H ρ' H') (f : Ext K ρ' H' ρ'' H'') : Ext K ρ H ρ'' H'' := by
  obtain ⟨t, rfl⟩ := e.pre
  obtain ⟨u, rfl⟩ := f.pre
  exact ⟨⟨t ++ u, by simp⟩, fun a xs h => f.gr a xs (e.gr a xs h), fun a ob u h => f.fz a ob u (e.fz a ob u h)⟩
theorem Ext.at_ (e : Ext K ρ H ρ' H') {i : Nat} {a : Addr} (h : ρ[i]? = some a) : ρ'[i]? = some a := by
  obtain ⟨t, rfl⟩ := e.pre
  obtain ⟨hi, _⟩ := List.getElem?_eq_some_iff.mp h
  rw [List.getElem?_append_left hi]; exact h
mutual
theorem Rp.ext (e : Ext K ρ H ρ' H') : ∀ (d : D) (v : V), Rp K ρ H d v → Rp K ρ' H' d v
  | .non, v, h => h
  | .bl b, v, h => h
  | .int i, v, h => h
  | .str x, v, h => h
  | .ref i, v, h => by
    obtain ⟨a, h1, h2⟩ := h
    exact ⟨a, e.at_ h1, h2⟩
  | .tup ds, v, h => by
    obtain ⟨a, xs, h1, h2, h3⟩ := h
    exact ⟨a, xs, h1, e.gr _ _ h2, RpL.ext e ds xs h3⟩
theorem RpL.ext (e : Ext K ρ H ρ' H') : ∀ (ds : List D) (xs : List V), RpL K ρ H ds xs → RpL K ρ' H' ds xs
  | [], xs, h => h
  | d :: ds, xs, h => by
    obtain ⟨x, r, h1, h2, h3⟩ := h
    exact ⟨x, r, h1, Rp.ext e d x h2, RpL.ext e ds r h3⟩
end
theorem RpK.ext {κ : Type} (e : Ext K ρ H ρ' H') : ∀ (ps : List (κ × D)) (us : List (κ × V)), RpK K ρ H ps us → RpK K ρ' H' ps us
  | [], us, h => h
  | p :: ps, us, h => by
    obtain ⟨v, r, h1, h2, h3⟩ := h
    exact ⟨v, r, h1, h2.ext e, RpK.ext e ps r h3⟩
theorem RpL.length : ∀ {ds : List D} {xs : List V}, RpL K ρ H ds xs → xs.length = ds.length
  | [], xs, h => by rw [show xs = [] from h]; rfl
  | d :: ds, xs, h => by
    obtain ⟨x, r, rfl, h2, h3⟩ := h
    simp [RpL.length h3]
theorem RpL.get : ∀ {ds : List D} {xs : List V} {i : Nat} {d : D}, RpL K ρ H ds xs → ds[i]? = some d → ∃ v, xs[i]? = some v ∧ Rp K ρ H d v
  | [], _, _, _, _, e => by simp at e
  | d :: ds, xs, 0, d', h, e => by
    obtain ⟨x, r, rfl, h2, h3⟩ := h
    simp at e; subst e
    exact ⟨x, by simp, h2⟩
  | d :: ds, xs, i + 1, d', h, e => by
    obtain ⟨x, r, rfl, h2, h3⟩ := h
    obtain ⟨v, e1, e2⟩ := RpL.get (i := i) h3 (by simpa using e)
    exact ⟨v, by simpa using e1, e2⟩
theorem RpL.append : ∀ {ds es : List D} {xs ys : List V}, RpL K ρ H ds xs → RpL K ρ H es ys → RpL K ρ H (ds ++ es) (xs ++ ys)
  | [], es, xs, ys, h, h' => by rw [show xs = [] from h]; exact h'
  | d :: ds, es, xs, ys, h, h' => by
    obtain ⟨x, r, rfl, h2, h3⟩ := h
    exact ⟨x, r ++ ys, rfl, h2, h3.append h'⟩
theorem RpL.one (h : Rp K ρ H d v) : RpL K ρ H [d] [v] := ⟨v, [], rfl, h, rfl⟩
theorem RpL.take : ∀ {ds : List D} {xs : List V} (n : Nat), RpL K ρ H ds xs → RpL K ρ H (ds.take n) (xs.take n)
  | ds, xs, 0, h => by simp [RpL]
  | [], xs, n + 1, h => by rw [show xs = [] from h]; simp [RpL]
  | d :: ds, xs, n + 1, h => by
    obtain ⟨x, r, rfl, h2, h3⟩ := h
    exact ⟨x, r.take n, rfl, h2, h3.take n⟩
theorem RpL.drop : ∀ {ds : List D} {xs : List V} (n : Nat), RpL K ρ H ds xs → RpL K ρ H (ds.drop n) (xs.drop n)
  | ds, xs, 0, h => h
  | [], xs, n + 1, h => by rw [show xs = [] from h]; simp [RpL]
  | d :: ds, xs, n + 1, h => by
    obtain ⟨x, r, rfl, h2, h3⟩ := h
    exact h3.drop n
theorem RpL.set : ∀ {ds : List D} {xs : List V} (i : Nat), RpL K ρ H ds xs → Rp K ρ H d v → RpL K ρ H (ds.set i d) (xs.set i v)
  | [], xs, i, h, q => by rw [show xs = [] from h]; simp [RpL]
  | e :: ds, xs, 0, h, q => by
    obtain ⟨x, r, rfl, h2, h3⟩ := h
    exact ⟨v, r, rfl, q, h3⟩
  | e :: ds, xs, i + 1, h, q => by
    obtain ⟨x, r, rfl, h2, h3⟩ := h
    exact ⟨x, r.set i v, rfl, h2, h3.set i q⟩
theorem RpL.reverse : ∀ {ds : List D} {xs : List V}, RpL K ρ H ds xs → RpL K ρ H ds.reverse xs.reverse
  | [], xs, h => by rw [show xs = [] from h]; simp [RpL]
  | d :: ds, xs, h => by
    obtain ⟨x, r, rfl, h2, h3⟩ := h
    rw [List.reverse_cons, List.reverse_cons]
    exact h3.reverse.append (RpL.one h2)
theorem RpL.rep : ∀ {ds : List D} {xs : List V} (n : Nat), RpL K ρ H ds xs → RpL K ρ H (List.replicate n ds).flatten (List.replicate n xs).flatten
  | ds, xs, 0, h => by simp [RpL]
  | ds, xs, n + 1, h => by
    rw [List.replicate_succ, List.replicate_succ, List.flatten_cons, List.flatten_cons]
    exact h.append (h.rep n)
theorem SRel.ext (h : SRel K ρ H s σ) (e : Ext K ρ H ρ' H') : SRel K ρ' H' s σ :=
  ⟨h.len, fun i d q => by
    obtain ⟨v, h1, h2⟩ := h.at_ i d q
    exact ⟨v, h1, h2.ext e⟩⟩
theorem SRel.set (h : SRel K ρ H s σ) (i : Nat) (q : Rp K ρ H d v) : SRel K ρ H (s.set i (some d)) (σ.set i (some v)) := by
  refine ⟨by simp [h.len], fun j e hj => ?_⟩
  by_cases hji : i = j
  · subst hji
    have hl : i < s.length := by
      have := (List.getElem?_eq_some_iff.mp hj).1
      simpa using this
    rw [List.getElem?_set_self hl] at hj
    cases hj
    exact ⟨v, List.getElem?_set_self (by rw [← h.len]; exact hl), q⟩
  · rw [List.getElem?_set_ne hji] at hj
    obtain ⟨w, h1, h2⟩ := h.at_ j e hj
    exact ⟨w, by rw [List.getElem?_set_ne hji]; exact h1, h2⟩
theorem SRel.wipe (h : SRel K ρ H s σ) (i : Nat) : SRel K ρ H (s.set i none) (σ.set i none) := by
  refine ⟨by simp [h.len], fun j e hj => ?_⟩
  by_cases hji : i = j
  · subst hji
    have hl : i < s.length := by
      have := (List.getElem?_eq_some_iff.mp hj).1
      simpa using this
    rw [List.getElem?_set_self hl] at hj
    cases hj
  · rw [List.getElem?_set_ne hji] at hj
    obtain ⟨w, h1, h2⟩ := h.at_ j e hj
    exact ⟨w, by rw [List.getElem?_set_ne hji]; exact h1, h2⟩
theorem Rel.at_ (R : Rel K ρ H A) {i : Nat} {o : AO} (h : A[i]? = some o) : ∃ a, ρ[i]? = some a ∧ ORel K ρ H a o := R.ob i o h
theorem SqF.sq {a : Addr} {xs : List V} (h : SqF K H a xs) : SqL K H a xs := by
  rcases h with ⟨o, h⟩ | (h | ⟨o, h⟩) | h
  · exact .inl (.inr ⟨o, h⟩)
  · cases h
  · cases h
  · exact .inr h
theorem ORel.some {a : Addr} {o : AO} (h : ORel K ρ H a o) (f : isFz o = false) : ∃ u, H a = some u := by
  cases o with
  | lst ds => obtain ⟨xs, e, _⟩ := h; exact ⟨_, e⟩
  | frz ds => cases f
  | ftp ds => cases f
  | fdk ds => obtain ⟨o, xs, e, _⟩ := h; exact ⟨_, e⟩
  | dic ds => obtain ⟨xs, e, _⟩ := h; exact ⟨_, e⟩
  | ins C ds => obtain ⟨dx, xs, e, _⟩ := h; exact ⟨_, e⟩
theorem ORel.ext {a : Addr} {o : AO} (h : ORel K ρ H a o) (e : Ext K ρ H ρ' H') (q : isFz o = false → H' a = H a) (z : ∀ xs, SqF K H a xs → SqF K H' a xs) (y : ∀ (ob : Obj) (u : HO), H a = Option.some (HO.frz ob u) → H' a = Option.some (HO.frz ob u)) : ORel K ρ' H' a o := by
  cases o with
  | lst ds => obtain ⟨xs, e1, e2⟩ := h; exact ⟨xs, (q rfl).trans e1, e2.ext e⟩
  | frz ds => obtain ⟨xs, e1, e2⟩ := h; exact ⟨xs, z _ e1, e2.ext e⟩
  | ftp ds => obtain ⟨xs, ⟨o, e1, e3, e4⟩, e2⟩ := h; exact ⟨xs, ⟨o, y _ _ e1, e3, e4⟩, e2.ext e⟩
  | fdk ds => obtain ⟨o, xs, e1, e2⟩ := h; exact ⟨o, xs, (q rfl).trans e1, e2.ext e⟩
  | dic ds => obtain ⟨xs, e1, e2⟩ := h; exact ⟨xs, (q rfl).trans e1, e2.ext e⟩
  | ins C ds => obtain ⟨dx, xs, e1, e2⟩ := h; exact ⟨dx, xs, (q rfl).trans e1, e2.ext e⟩
theorem frz_new {p : Addr} {o : HO} (hp : H p = none) {a : Addr} (ob : Obj) (u : HO) (h : H a = some (.frz ob u)) : (upd H p o) a = some (.frz ob u) := by
  rw [upd_ne (ne_of_none h hp)]; exact h
theorem frz_mut {p : Addr} {o u : HO} (hp : H p = some u) (hu : Mut (some u)) {a : Addr} (ob : Obj) (v : HO) (h : H a = some (.frz ob v)) : (upd H p o) a = some (.frz ob v) := by
  have nf : ∀ o' x, u ≠ .frz o' x := fun o' x e => by subst e; exact hu
  rw [upd_ne (ne_of h hp (fun e => nf _ _ e.symm))]; exact h
theorem sqF_new {p : Addr} {o : HO} (hp : H p = none) {a : Addr} (xs : List V) (h : SqF K H a xs) : SqF K (upd H p o) a xs := by
  rcases h with ⟨o', h⟩ | h
  · exact .inl ⟨o', by rw [upd_ne (ne_of_none h hp)]; exact h⟩
  · exact .inr h
theorem sqF_mut {p : Addr} {o u : HO} (hp : H p = some u) (hu : Mut (some u)) {a : Addr} (xs : List V) (h : SqF K H a xs) : SqF K (upd H p o) a xs := by
  have nf : ∀ o' x, u ≠ .frz o' x := fun o' x e => by subst e; exact hu
  rcases h with ⟨o', h⟩ | h
  · exact .inl ⟨o', by rw [upd_ne (ne_of h hp (fun e => nf _ _ e.symm))]; exact h⟩
  · exact .inr h
theorem SqE.sq {a : Addr} {xs : List V} (h : SqE H a xs) : SqT K H a xs := by
  obtain ⟨o, h, _⟩ := h
  exact .inl (.inr ⟨o, h⟩)
theorem Rel.has (R : Rel K ρ H A) {i : Nat} {a : Addr} (h : ρ[i]? = some a) : ∃ o, A[i]? = some o ∧ ORel K ρ H a o := by
  have hi : i < A.length := by rw [← R.len]; exact (List.getElem?_eq_some_iff.mp h).1
  obtain ⟨a', h1, h2⟩ := R.ob i A[i] (List.getElem?_eq_getElem hi)
  rw [h] at h1; cases h1
  exact ⟨_, List.getElem?_eq_getElem hi, h2⟩
theorem sqT_new {p : Addr} {o : HO} (hp : H p = none) : ∀ a xs, SqT K H a xs → SqT K (upd H p o) a xs := by
  intro a xs h
  rcases h with (h | ⟨o', h⟩) | h
  · exact .inl (.inl (by rw [upd_ne (ne_of_none h hp)]; exact h))
  · exact .inl (.inr ⟨o', by rw [upd_ne (ne_of_none h hp)]; exact h⟩)
  · exact .inr h
theorem sqT_mut {p : Addr} {o u : HO} (hp : H p = some u) (hu : Mut (some u)) : ∀ a xs, SqT K H a xs → SqT K (upd H p o) a xs := by
  intro a xs h
  have nt : ∀ xs, u ≠ .tup xs := fun xs e => by subst e; exact hu
  have nf : ∀ o' x, u ≠ .frz o' x := fun o' x e => by subst e; exact hu
  rcases h with (h | ⟨o', h⟩) | h
  · exact .inl (.inl (by rw [upd_ne (ne_of h hp (fun e => nt _ e.symm))]; exact h))
  · exact .inl (.inr ⟨o', by rw [upd_ne (ne_of h hp (fun e => nf _ _ e.symm))]; exact h⟩)
  · exact .inr h
theorem Ext.new {p : Addr} {o : HO} (hp : H p = none) (t : List Addr) : Ext K ρ H (ρ ++ t) (upd H p o) := ⟨⟨t, rfl⟩, sqT_new hp, fun _ ob u h => frz_new hp ob u h⟩
theorem Ext.new0 {p : Addr} {o : HO} (hp : H p = none) : Ext K ρ H ρ (upd H p o) := ⟨⟨[], by simp⟩, sqT_new hp, fun _ ob u h => frz_new hp ob u h⟩
theorem Ext.mut {p : Addr} {o u : HO} (hp : H p = some u) (hu : Mut (some u)) : Ext K ρ H ρ (upd H p o) := ⟨⟨[], by simp⟩, sqT_mut hp hu, fun _ ob u h => frz_mut hp hu ob u h⟩
/-- an untracked thing is laid (a tuple, a temporary) -/
theorem Rel.new0 (R : Rel K ρ H A) {p : Addr} {o : HO} (hp : H p = none) : Rel K ρ (upd H p o) A :=
  ⟨R.len, R.nd, fun i ob h => by
    obtain ⟨a, h1, h2⟩ := R.ob i ob h
    exact ⟨a, h1, h2.ext (Ext.new0 hp) (fun f => by obtain ⟨u, hu⟩ := h2.some f; exact upd_ne (ne_of_none hu hp)) (fun xs => sqF_new hp xs) fun ob u => frz_new hp ob u⟩⟩
/-- a new cell -/
theorem Rel.new (R : Rel K ρ H A) {p : Addr} {o : HO} {ao : AO} (hp : H p = none) (h : ORel K (ρ ++ [p]) (upd H p o) p ao) : Rel K (ρ ++ [p]) (upd H p o) (A ++ [ao]) := by
  have hn : ∀ (i : Nat) ob, ρ[i]? = some p → A[i]? = some ob → isFz ob = false → False := fun i ob hi ho f => by
    obtain ⟨a, h1, h2⟩ := R.ob i ob ho
    rw [hi] at h1; cases h1
    obtain ⟨u, hu⟩ := h2.some f
    rw [hp] at hu; cases hu
  have old : ∀ (i : Nat) {a : Addr} {ob : AO}, (ρ ++ [p])[i]? = some a → (A ++ [ao])[i]? = some ob → (ρ[i]? = some a ∧ A[i]? = some ob) ∨ (i = A.length ∧ a = p ∧ ob = ao) := fun i a ob h1 h2 => by
    by_cases hl : i < A.length
    · rw [List.getElem?_append_left hl] at h2
      rw [List.getElem?_append_left (by rw [R.len]; exact hl)] at h1
      exact .inl ⟨h1, h2⟩
    · have e : i = A.length := by
        have := (List.getElem?_eq_some_iff.mp h2).1
        simp at this; omega
      subst e
      simp at h2
      rw [← R.len] at h1; simp at h1
      exact .inr ⟨rfl, h1.symm, h2.symm⟩
  refine ⟨by simp [R.len], fun i j a ob u h1 h2 h3 h4 f1 f2 => ?_, fun i ob hi => ?_⟩
  · rcases old i h1 h3 with ⟨a1, a2⟩ | ⟨a1, a2, a3⟩
    · rcases old j h2 h4 with ⟨b1, b2⟩ | ⟨b1, b2, b3⟩
      · exact R.nd i j a ob u a1 b1 a2 b2 f1 f2
      · subst b2; exact (hn i ob a1 a2 f1).elim
    · rcases old j h2 h4 with ⟨b1, b2⟩ | ⟨b1, b2, b3⟩
      · subst a2; exact (hn j u b1 b2 f2).elim
      · rw [a1, b1]
  · by_cases hl : i < A.length
    · rw [List.getElem?_append_left hl] at hi
      obtain ⟨a, h1, h2⟩ := R.ob i ob hi
      exact ⟨a, (Ext.new (K := K) (o := o) hp [p]).at_ h1, h2.ext (Ext.new hp [p]) (fun f => by obtain ⟨u, hu⟩ := h2.some f; exact upd_ne (ne_of_none hu hp)) (fun xs => sqF_new hp xs) fun ob u => frz_new hp ob u⟩
    · have e : i = A.length := by
        have := (List.getElem?_eq_some_iff.mp hi).1
        simp at this; omega
      subst e
      simp at hi; subst hi
      exact ⟨p, by rw [← R.len]; simp, h⟩
/-- a cell is written -/
theorem Rel.upd (R : Rel K ρ H A) {i : Nat} {a : Addr} {o u : HO} {ao old : AO} (ha : ρ[i]? = some a) (hA : A[i]? = some old) (fo : isFz old = false) (hu : H a = some u) (hm : Mut (some u)) (h : ORel K ρ (upd H a o) a ao) (fn : isFz ao = false) : Rel K ρ (upd H a o) (A.set i ao) := by
  have hl : i < A.length := (List.getElem?_eq_some_iff.mp hA).1
  have was : ∀ (j : Nat) {ob : AO}, (A.set i ao)[j]? = some ob → isFz ob = false → ∃ ob', A[j]? = some ob' ∧ isFz ob' = false := fun j ob hj f => by
    by_cases hji : i = j
    · subst hji; exact ⟨old, hA, fo⟩
    · rw [List.getElem?_set_ne hji] at hj; exact ⟨ob, hj, f⟩
  refine ⟨by simp [R.len], fun j k b ob u h1 h2 h3 h4 f1 f2 => ?_, fun j ob hj => ?_⟩
  · obtain ⟨o1, q1, q2⟩ := was j h3 f1
    obtain ⟨o2, q3, q4⟩ := was k h4 f2
    exact R.nd j k b o1 o2 h1 h2 q1 q3 q2 q4
  · by_cases hji : i = j
    · subst hji
      rw [List.getElem?_set_self hl] at hj
      cases hj
      exact ⟨a, ha, h⟩
    · rw [List.getElem?_set_ne hji] at hj
      obtain ⟨b, h1, h2⟩ := R.ob j ob hj
      refine ⟨b, h1, h2.ext (Ext.mut hu hm) (fun f => upd_ne ?_) (fun xs => sqF_mut hu hm xs) fun ob u => frz_mut hu hm ob u⟩
      rintro rfl
      exact hji (R.nd i j b old ob ha h1 hA hj fo f)
end

/-! ## what an outcome gives -/
def Out {α β : Type} (K : PySem.W.Frag) (E : XK) (R : List Addr → Hp → α → β → Prop) (ρ : List Addr) (H : Hp) (r : Res α) (Q : β → Hp → Prop) : Prop := match r with
  | .ok a A' => ∀ ρ' H' v, Ext K ρ H ρ' H' → Rel K ρ' H' A' → R ρ' H' a v → Q v H'
  | .exc C fs A' => ∀ ρ' H' dx us, Ext K ρ H ρ' H' → Rel K ρ' H' A' → H' dx = some (.xd us) → RpK K ρ' H' fs us → E (.ref C) (some dx) H'
  | .bad => False
abbrev OutE (K : PySem.W.Frag) (E : XK) := Out (α := D) (β := V) K E (fun ρ H d v => Rp K ρ H d v)
abbrev OutA (K : PySem.W.Frag) (E : XK) := Out (α := List D) (β := List V) K E (fun ρ H d v => RpL K ρ H d v)
abbrev OutT (K : PySem.W.Frag) (E : XK) := Out (α := Bool) (β := Bool) K E (fun _ _ d v => d = v)
abbrev OutO (K : PySem.W.Frag) (E : XK) := Out (α := Option Int) (β := Option Int) K E (fun _ _ d v => d = v)
section
variable {K : PySem.W.Frag} {E : XK} {α β γ δ : Type} {R1 : List Addr → Hp → α → β → Prop} {R2 : List Addr → Hp → γ → δ → Prop} {ρ : List Addr} {H : Hp}
/-- first r, then k -/
theorem Out.bind {r : Res α} {k : α → AH → Res γ} {Q : δ → Hp → Prop} (h : Out K E R2 ρ H (r.bind k) Q) :
    Out K E R1 ρ H r (fun v H1 => ∃ ρ1 a A1, r = .ok a A1 ∧ Ext K ρ H ρ1 H1 ∧ Rel K ρ1 H1 A1 ∧ R1 ρ1 H1 a v ∧ Out K E R2 ρ1 H1 (k a A1) Q) := by
  cases r with
  | bad => exact h
  | exc C fs A => exact h
  | ok a A =>
    intro ρ1 H1 v e1 r1 q1
    refine ⟨ρ1, a, A, rfl, e1, r1, q1, ?_⟩
    have h : Out K E R2 ρ H (k a A) Q := h
    cases hk : k a A with
    | bad => rw [hk] at h; exact h
    | exc C fs A2 => rw [hk] at h; exact fun ρ' H' dx us e2 => h ρ' H' dx us (e1.trans e2)
    | ok c A2 => rw [hk] at h; exact fun ρ' H' w e2 => h ρ' H' w (e1.trans e2)
theorem Out.ext {ρ0 : List Addr} {H0 : Hp} {r : Res α} {Q : β → Hp → Prop} (h : Out K E R1 ρ0 H0 r Q) (e : Ext K ρ0 H0 ρ H) : Out K E R1 ρ H r Q := by
  cases r with
  | bad => exact h
  | exc C fs A => exact fun ρ' H' dx us e2 => h ρ' H' dx us (e.trans e2)
  | ok c A => exact fun ρ' H' w e2 => h ρ' H' w (e.trans e2)
theorem Out.mono {r : Res α} {Q Q' : β → Hp → Prop} (h : Out K E R1 ρ H r Q) (q : ∀ v H', Q v H' → Q' v H') : Out K E R1 ρ H r Q' := by
  cases r with
  | bad => exact h
  | exc C fs A => exact h
  | ok c A => exact fun ρ' H' w e r1 q1 => q _ _ (h ρ' H' w e r1 q1)
/-- at once -/
theorem Out.now {a : α} {A : AH} {Q : β → Hp → Prop} {v : β} (h : Out K E R1 ρ H (.ok a A) Q) (R : Rel K ρ H A) (r : R1 ρ H a v) : Q v H := h ρ H v .refl R r
end

/-! ## the readings that such functions give -/
def tA (K : PySem.W.Frag) (E : XK) (f : FE) : TE := fun σ H Q => ∃ ρ s A, SRel K ρ H s σ ∧ Rel K ρ H A ∧ OutE K E ρ H (f s A) Q
def tAA (K : PySem.W.Frag) (E : XK) (f : FA) : TA := fun σ H Q => ∃ ρ s A, SRel K ρ H s σ ∧ Rel K ρ H A ∧ OutA K E ρ H (f s A) Q
def tAT (K : PySem.W.Frag) (E : XK) (f : FT) : TT := fun σ H Q => ∃ ρ s A, SRel K ρ H s σ ∧ Rel K ρ H A ∧ OutT K E ρ H (f s A) Q
def tAO (K : PySem.W.Frag) (E : XK) (f : FO) : TO := fun σ H Q => ∃ ρ s A, SRel K ρ H s σ ∧ Rel K ρ H A ∧ OutO K E ρ H (f s A) Q
def SOut (K : PySem.W.Frag) (E : XK) (ρ : List Addr) (H : Hp) (r : Res Fl) (G : Ends) : Prop := match r with
  | .ok (.nx s) A' => ∀ ρ' H' σ', Ext K ρ H ρ' H' → Rel K ρ' H' A' → SRel K ρ' H' s σ' → G.nx σ' H'
  | .ok (.bk s) A' => ∀ ρ' H' σ', Ext K ρ H ρ' H' → Rel K ρ' H' A' → SRel K ρ' H' s σ' → G.bk σ' H'
  | .ok (.ct s) A' => ∀ ρ' H' σ', Ext K ρ H ρ' H' → Rel K ρ' H' A' → SRel K ρ' H' s σ' → G.ct σ' H'
  | .ok (.rt d) A' => ∀ ρ' H' v, Ext K ρ H ρ' H' → Rel K ρ' H' A' → Rp K ρ' H' d v → G.rt v H'
  | .exc C fs A' => ∀ ρ' H' dx us, Ext K ρ H ρ' H' → Rel K ρ' H' A' → H' dx = some (.xd us) → RpK K ρ' H' fs us → E (.ref C) (some dx) H'
  | .bad => False
def tAS (K : PySem.W.Frag) (E : XK) (f : FS) : TS := fun G σ H => ∃ ρ s A, SRel K ρ H s σ ∧ Rel K ρ H A ∧ SOut K E ρ H (f s A) G
theorem SOut.ext {K : PySem.W.Frag} {E : XK} {ρ0 ρ : List Addr} {H0 H : Hp} {r : Res Fl} {G : Ends} (h : SOut K E ρ0 H0 r G) (e : Ext K ρ0 H0 ρ H) : SOut K E ρ H r G := by
  cases r with
  | bad => exact h
  | exc C fs A => exact fun ρ' H' dx us e2 => h ρ' H' dx us (e.trans e2)
  | ok c A => cases c <;> exact fun ρ' H' w e2 => h ρ' H' w (e.trans e2)
theorem Out.bindS {K : PySem.W.Frag} {E : XK} {α β : Type} {R1 : List Addr → Hp → α → β → Prop} {ρ : List Addr} {H : Hp} {r : Res α} {k : α → AH → Res Fl} {G : Ends} (h : SOut K E ρ H (r.bind k) G) :
    Out K E R1 ρ H r (fun v H1 => ∃ ρ1 a A1, r = .ok a A1 ∧ Ext K ρ H ρ1 H1 ∧ Rel K ρ1 H1 A1 ∧ R1 ρ1 H1 a v ∧ SOut K E ρ1 H1 (k a A1) G) := by
  cases r with
  | bad => exact h
  | exc C fs A => exact h
  | ok a A => exact fun ρ1 H1 v e1 r1 q1 => ⟨ρ1, a, A, rfl, e1, r1, q1, SOut.ext h e1⟩
/-- what the judgements are about -/
abbrev AE (X : Cx) (E : XK) (e : Expr) (f : FE) : Prop := PE X e (tA X.K E f)
abbrev AA (X : Cx) (E : XK) (es : List Expr) (f : FA) : Prop := PA X es (tAA X.K E f)
abbrev AT (X : Cx) (E : XK) (e : Expr) (f : FT) : Prop := PT X e (tAT X.K E f)
abbrev AO_ (X : Cx) (E : XK) (e : Option Expr) (f : FO) : Prop := PO X e (tAO X.K E f)
abbrev AS (X : Cx) (E : XK) (e : Stmt) (f : FS) : Prop := PS X e (tAS X.K E f)
abbrev ASs (X : Cx) (E : XK) (e : List Stmt) (f : FS) : Prop := PSs X e (tAS X.K E f)
section
variable {X : Cx}
theorem pe_mono {e : Expr} {t u : TE} (h : PE X e t) (m : ∀ σ H Q, u σ H Q → t σ H Q) : PE X e u := ⟨fun pins s σ H Q I q => h.run pins s σ H Q I (m _ _ _ q)⟩
theorem pa_mono {e : List Expr} {t u : TA} (h : PA X e t) (m : ∀ σ H Q, u σ H Q → t σ H Q) : PA X e u := ⟨fun pos pins s σ H Q I q => h.run pos pins s σ H Q I (m _ _ _ q)⟩
theorem pt_mono {e : Expr} {t u : TT} (h : PT X e t) (m : ∀ σ H Q, u σ H Q → t σ H Q) : PT X e u := ⟨fun pins s σ H Q I q => h.run pins s σ H Q I (m _ _ _ q)⟩
theorem pw_mono {e : Expr} {t u : TT} (h : PW X e t) (m : ∀ σ H Q, u σ H Q → t σ H Q) : PW X e u := ⟨fun whole pins s σ H Q I q => h.run whole pins s σ H Q I (m _ _ _ q)⟩
theorem ps_mono {e : Stmt} {t u : TS} (h : PS X e t) (m : ∀ G σ H, u G σ H → t G σ H) : PS X e u := ⟨fun pins s σ H G I q => h.run pins s σ H G I (m _ _ _ q)⟩
theorem pss_mono {e : List Stmt} {t u : TS} (h : PSs X e t) (m : ∀ G σ H, u G σ H → t G σ H) : PSs X e u := ⟨fun pins s σ H G I q => h.run pins s σ H G I (m _ _ _ q)⟩
theorem op_mono {f : Value → Value → Sem Value} {t u : R2} (h : OpR X f t) (m : ∀ x y H Q, u x y H Q → t x y H Q) : OpR X f u := fun pins s σ H x y v w Q I rx ry q => h pins s σ H x y v w Q I rx ry (m _ _ _ _ q)
theorem callR_mono {f : Value} {t u : List V → Hp → VK → Prop} (h : CallR X f t) (m : ∀ xs H Q, u xs H Q → t xs H Q) : CallR X f u := fun pins s σ H xs us Q I r q => h pins s σ H xs us Q I r (m _ _ _ q)
end
end Ab

namespace Ab
open PySem PySem.Spec PyProof.Rows L2
open scoped Classical

/-! ## reading cells -/
def rdL (A : AH) : D → Option (List D)
  | .ref i => match A[i]? with
    | some (.lst xs) => some xs
    | some (.frz xs) => some xs
    | _ => none
  | _ => none
def muL (A : AH) : D → Option (List D)
  | .ref i => match A[i]? with
    | some (.lst xs) => some xs
    | _ => none
  | _ => none
def rdM (A : AH) : D → Option (List (Key × D))
  | .ref i => match A[i]? with
    | some (.dic xs) => some xs
    | _ => none
  | _ => none
def rdK (A : AH) : D → Option (List (Key × D))
  | .ref i => match A[i]? with
    | some (.dic xs) => some xs
    | some (.fdk xs) => some xs
    | _ => none
  | _ => none
def rdI (A : AH) : D → Option (Addr × List (Str × D))
  | .ref i => match A[i]? with
    | some (.ins C xs) => some (C, xs)
    | _ => none
  | _ => none
def rdS (A : AH) : D → Option (List D)
  | .tup xs => some xs
  | d => rdL A d
section
variable {K : PySem.W.Frag} {ρ : List Addr} {H : Hp} {A : AH} {d : D} {v : V}
theorem rdL_ok (R : Rel K ρ H A) (r : Rp K ρ H d v) {ds : List D} (h : rdL A d = some ds) : ∃ a xs, v = .ref a ∧ SqL K H a xs ∧ RpL K ρ H ds xs := by
  cases d with
  | ref i =>
    obtain ⟨a, h1, rfl⟩ := r
    obtain ⟨o, h2, h3⟩ := R.has h1
    unfold rdL at h
    simp only [h2] at h
    cases o with
    | lst xs => cases h; obtain ⟨us, e1, e2⟩ := h3; exact ⟨a, us, rfl, .inl (.inl e1), e2⟩
    | frz xs => cases h; obtain ⟨us, e1, e2⟩ := h3; exact ⟨a, us, rfl, e1.sq, e2⟩
    | dic _ => cases h
    | ftp _ => cases h
    | fdk _ => cases h
    | ins _ _ => cases h
  | _ => cases h
theorem muL_ok (R : Rel K ρ H A) (r : Rp K ρ H d v) {ds : List D} (h : muL A d = some ds) : ∃ i a xs, d = .ref i ∧ v = .ref a ∧ ρ[i]? = some a ∧ A[i]? = some (.lst ds) ∧ H a = some (.lst xs) ∧ RpL K ρ H ds xs := by
  cases d with
  | ref i =>
    obtain ⟨a, h1, rfl⟩ := r
    obtain ⟨o, h2, h3⟩ := R.has h1
    unfold muL at h
    simp only [h2] at h
    cases o with
    | lst xs => cases h; obtain ⟨us, e1, e2⟩ := h3; exact ⟨i, a, us, rfl, rfl, h1, h2, e1, e2⟩
    | frz xs => cases h
    | dic _ => cases h
    | ftp _ => cases h
    | fdk _ => cases h
    | ins _ _ => cases h
  | _ => cases h
theorem rdM_ok (R : Rel K ρ H A) (r : Rp K ρ H d v) {ds : List (Key × D)} (h : rdM A d = some ds) : ∃ i a xs, d = .ref i ∧ v = .ref a ∧ ρ[i]? = some a ∧ A[i]? = some (.dic ds) ∧ H a = some (.dK xs) ∧ RpK K ρ H ds xs := by
  cases d with
  | ref i =>
    obtain ⟨a, h1, rfl⟩ := r
    obtain ⟨o, h2, h3⟩ := R.has h1
    unfold rdM at h
    simp only [h2] at h
    cases o with
    | dic xs => cases h; obtain ⟨us, e1, e2⟩ := h3; exact ⟨i, a, us, rfl, rfl, h1, h2, e1, e2⟩
    | lst xs => cases h
    | frz xs => cases h
    | ftp _ => cases h
    | fdk _ => cases h
    | ins _ _ => cases h
  | _ => cases h
theorem rdK_ok (R : Rel K ρ H A) (r : Rp K ρ H d v) {ds : List (Key × D)} (h : rdK A d = some ds) : ∃ i a xs, d = .ref i ∧ v = .ref a ∧ ρ[i]? = some a ∧ Rd H a (.dK xs) ∧ RpK K ρ H ds xs := by
  cases d with
  | ref i =>
    obtain ⟨a, h1, rfl⟩ := r
    obtain ⟨o, h2, h3⟩ := R.has h1
    unfold rdK at h
    simp only [h2] at h
    cases o with
    | dic xs => cases h; obtain ⟨us, e1, e2⟩ := h3; exact ⟨i, a, us, rfl, rfl, h1, .inl e1, e2⟩
    | fdk xs => cases h; obtain ⟨o, us, e1, e2⟩ := h3; exact ⟨i, a, us, rfl, rfl, h1, .inr ⟨o, e1⟩, e2⟩
    | _ => cases h
  | _ => cases h
theorem rdI_ok (R : Rel K ρ H A) (r : Rp K ρ H d v) {C : Addr} {ds : List (Str × D)} (h : rdI A d = some (C, ds)) : ∃ i a dx xs, d = .ref i ∧ v = .ref a ∧ ρ[i]? = some a ∧ A[i]? = some (.ins C ds) ∧ H a = some (.ins C dx xs) ∧ RpK K ρ H ds xs := by
  cases d with
  | ref i =>
    obtain ⟨a, h1, rfl⟩ := r
    obtain ⟨o, h2, h3⟩ := R.has h1
    unfold rdI at h
    simp only [h2] at h
    cases o with
    | ftp _ => cases h
    | fdk _ => cases h
    | ins C' xs => cases h; obtain ⟨dx, us, e1, e2⟩ := h3; exact ⟨i, a, dx, us, rfl, rfl, h1, h2, e1, e2⟩
    | lst xs => cases h
    | frz xs => cases h
    | dic _ => cases h
  | _ => cases h
theorem rdS_ok (R : Rel K ρ H A) (r : Rp K ρ H d v) {ds : List D} (h : rdS A d = some ds) : ∃ a xs, v = .ref a ∧ (SqL K H a xs ∨ SqT K H a xs) ∧ RpL K ρ H ds xs := by
  cases d with
  | tup xs =>
    cases h
    obtain ⟨a, us, h1, h2, h3⟩ := r
    exact ⟨a, us, h1, .inr h2, h3⟩
  | ref i =>
    obtain ⟨a, xs, h1, h2, h3⟩ := rdL_ok R r (show rdL A (.ref i) = some ds from h)
    exact ⟨a, xs, h1, .inl h2, h3⟩
  | _ => cases h
end

theorem RpL.isNil {K : PySem.W.Frag} {ρ : List Addr} {H : Hp} {ds : List D} (h : RpL K ρ H ds []) : ds = [] := by
  have := h.length
  cases ds with
  | nil => rfl
  | cons _ _ => simp at this
/-! ## names, constants -/
def fV (i : Nat) : FE := fun s A => match s[i]? with
  | some (some d) => .ok d A
  | _ => .bad
def fC (d : D) : FE := fun _ A => .ok d A
section
variable {X : Cx} {E : XK}
theorem ae_v (i : Nat) {x : Str} {pos : Pos} (hN : X.N[i]? = some x := by rfl) (hv : Vis X.env.scope x := by first | exact Or.inl rfl | exact Or.inr (Or.inl rfl) | exact Or.inr (Or.inr rfl)) (hd : (x == ("__debug__" : Str)) = false := by decide)
    (hcd : (x == ("__classdict__" : Str)) = false := by decide) : AE X E (.Name x pos) (fV i) := pe_mono (pe_var hN hv hd hcd) fun σ H Q h => by
  obtain ⟨ρ, s, A, hs, R, h⟩ := h
  unfold fV at h
  cases e : s[i]? with
  | none => simp only [e] at h; exact h.elim
  | some o =>
    cases o with
    | none => simp only [e] at h; exact h.elim
    | some d =>
      simp only [e] at h
      obtain ⟨v, h1, h2⟩ := hs.at_ i d e
      exact ⟨v, h1, h.now R h2⟩
theorem ae_c {e : Expr} {d : D} {v : V} (h : PE X e (tC v)) (r : ∀ ρ H, Rp X.K ρ H d v) : AE X E e (fC d) := pe_mono h fun σ H Q h => by
  obtain ⟨ρ, s, A, hs, R, h⟩ := h
  exact Out.now h R (r ρ H)
theorem ae_int {i j pos} : AE X E (.Constant (.int i) j pos) (fC (.int i)) := ae_c pe_int fun _ _ => rfl
theorem ae_bl {i j pos} : AE X E (.Constant (.bool i) j pos) (fC (.bl i)) := ae_c pe_bl fun _ _ => rfl
theorem ae_non {j pos} : AE X E (.Constant .none j pos) (fC .non) := ae_c pe_non fun _ _ => rfl
theorem ae_str {i j pos} : AE X E (.Constant (.str i) j pos) (fC (.str i)) := ae_c pe_str fun _ _ => rfl
end

/-! ## operators -/
def rA (K : PySem.W.Frag) (E : XK) (g : D → D → AH → Res D) : R2 := fun x y H Q => ∃ ρ A d e, Rel K ρ H A ∧ Rp K ρ H d x ∧ Rp K ρ H e y ∧ OutE K E ρ H (g d e A) Q
abbrev AOp (X : Cx) (E : XK) (f : Value → Value → Sem Value) (g : D → D → AH → Res D) : Prop := OpR X f (rA X.K E g)
def fOp (g : D → D → AH → Res D) (f1 f2 : FE) : FE := fun s A => (f1 s A).bind fun x A1 => (f2 s A1).bind fun y A2 => g x y A2
def rU1 (K : PySem.W.Frag) (E : XK) (g : D → AH → Res D) : V → Hp → VK → Prop := fun x H Q => ∃ ρ A d, Rel K ρ H A ∧ Rp K ρ H d x ∧ OutE K E ρ H (g d A) Q
def fUn (g : D → AH → Res D) (f1 : FE) : FE := fun s A => (f1 s A).bind fun x A1 => g x A1
section
variable {X : Cx} {E : XK} {a b : Expr} {f1 f2 : FE} {pos : Pos} {g : D → D → AH → Res D}
theorem two_ {K : PySem.W.Frag} {σ : L2.St} {H : Hp} {Q : VK} (h : tA K E (fOp g f1 f2) σ H Q) : tA K E f1 σ H fun x H1 => tA K E f2 σ H1 fun y H2 => rA K E g x y H2 Q := by
  obtain ⟨ρ, s, A, hs, R, h⟩ := h
  refine ⟨ρ, s, A, hs, R, (Out.bind h).mono fun x H1 ⟨ρ1, d, A1, _, e1, R1, r1, h1⟩ => ⟨ρ1, s, A1, hs.ext e1, R1, (Out.bind h1).mono fun y H2 ⟨ρ2, d2, A2, _, e2, R2, r2, h2⟩ => ⟨ρ2, A2, d, d2, R2, r1.ext e2, r2, h2⟩⟩⟩
theorem ae_op {op : Operator} (ho : AOp X E (binaryOp op) g) (ha : AE X E a f1) (hb : AE X E b f2) : AE X E (.BinOp a op b pos) (fOp g f1 f2) := pe_mono (pe_op ho ha hb) fun _ _ _ => two_
theorem ae_cmp {op : CmpOp} (ho : AOp X E (compareOp op) g) (ha : AE X E a f1) (hb : AE X E b f2) (hm : behindInMarks op b = false := by first | exact nomark _ | with_unfolding_all rfl) : AE X E (.Compare a [op] [b] pos) (fOp g f1 f2) := pe_mono (pe_cmpR ho ha hb hm) fun _ _ _ => two_
theorem ae_un {op : UnaryOp} {g : D → AH → Res D} (ho : UnR X (unaryOp op) (rU1 X.K E g)) (ha : AE X E a f1) : AE X E (.UnaryOp op a pos) (fUn g f1) := pe_mono (pe_un ho ha) fun σ H Q h => by
  obtain ⟨ρ, s, A, hs, R, h⟩ := h
  exact ⟨ρ, s, A, hs, R, (Out.bind h).mono fun x H1 ⟨ρ1, d, A1, _, e1, R1, r1, h1⟩ => ⟨ρ1, A1, d, R1, r1, h1⟩⟩
end

/-! ### the operators on data -/
def alloc (o : AO) (A : AH) : Res D := .ok (.ref A.length) (A ++ [o])
section
variable {K : PySem.W.Frag} {E : XK} {ρ : List Addr} {H : Hp} {A : AH} {Q : VK} {xs : List V} {ds : List D}
theorem new_lst (R : Rel K ρ H A) (r : RpL K ρ H ds xs) (h : OutE K E ρ H (alloc (.lst ds) A) Q) : ∀ p, H p = none → Q (.ref p) (upd H p (.lst xs)) := fun p hp => by
  have e : Ext K ρ H (ρ ++ [p]) (upd H p (.lst xs)) := Ext.new hp [p]
  exact h (ρ ++ [p]) (upd H p (.lst xs)) (.ref p) e (R.new hp ⟨xs, upd_same, r.ext e⟩) ⟨p, by rw [← R.len]; simp, rfl⟩
theorem new_tup (R : Rel K ρ H A) (r : RpL K ρ H ds xs) (h : OutE K E ρ H (.ok (.tup ds) A) Q) : ∀ p, H p = none → Q (.ref p) (upd H p (.tup xs)) := fun p hp => by
  have e : Ext K ρ H ρ (upd H p (.tup xs)) := Ext.new0 hp
  exact h ρ _ (.ref p) e (R.new0 hp) ⟨p, xs, rfl, .inl (.inl upd_same), r.ext e⟩
theorem new_dic {kvs : List (Key × D)} {us : List (Key × V)} (R : Rel K ρ H A) (r : RpK K ρ H kvs us) (h : OutE K E ρ H (alloc (.dic kvs) A) Q) : ∀ p, H p = none → Q (.ref p) (upd H p (.dK us)) := fun p hp => by
  have e : Ext K ρ H (ρ ++ [p]) (upd H p (.dK us)) := Ext.new hp [p]
  exact h (ρ ++ [p]) _ (.ref p) e (R.new hp ⟨us, upd_same, r.ext e⟩) ⟨p, by rw [← R.len]; simp, rfl⟩
end
def addD : D → D → AH → Res D
  | .int i, .int j, A => .ok (.int (i + j)) A
  | .str x, .str y, A => if x.length + y.length ≤ sizeLine then .ok (.str (x ++ y)) A else .bad
  | .tup xs, .tup ys, A => if xs.length + ys.length ≤ sizeLine then .ok (.tup (xs ++ ys)) A else .bad
  | .ref i, .ref j, A => match muL A (.ref i), muL A (.ref j) with
    | some xs, some ys => if xs.length + ys.length ≤ sizeLine then alloc (.lst (xs ++ ys)) A else .bad
    | _, _ => .bad
  | _, _, _ => .bad
def subD : D → D → AH → Res D
  | .int i, .int j, A => .ok (.int (i - j)) A
  | _, _, _ => .bad
def mulOk (i j : Int) : Prop := CMul i j ∨ CMulW i j
noncomputable def mulD : D → D → AH → Res D
  | .int i, .int j, A => if mulOk i j then .ok (.int (i * j)) A else .bad
  | .ref i, .int k, A => match muL A (.ref i) with
    | some xs => if -(2 ^ 63) ≤ k ∧ k < 2 ^ 63 ∧ xs.length * k.toNat ≤ sizeLine then alloc (.lst (List.replicate k.toNat xs).flatten) A else .bad
    | _ => .bad
  | _, _, _ => .bad
noncomputable def fdivD : D → D → AH → Res D
  | .int i, .int j, A => if CDivW i j then .ok (.int (i / j)) A else .bad
  | _, _, _ => .bad
def modD : D → D → AH → Res D
  | .int i, .int j, A => if 0 < j then .ok (.int (i % j)) A else .bad
  | _, _, _ => .bad
noncomputable def powD : D → D → AH → Res D
  | .int i, .int j, A => if CPow i j then .ok (.int (i ^ j.toNat)) A else .bad
  | _, _, _ => .bad
def negD : D → AH → Res D
  | .int i, A => .ok (.int (-i)) A
  | _, _ => .bad
section
variable {X : Cx} {E : XK}
theorem aop_add : AOp X E (binaryOp .Add) addD := op_mono ((op_add.or op_add_str).or (op_catA.or op_cat)) fun x y H Q h => by
  obtain ⟨ρ, A, d, e, R, r1, r2, h⟩ := h
  unfold addD at h
  split at h
  · cases r1; cases r2
    exact .inl (.inl ⟨_, _, rfl, rfl, h.now R rfl⟩)
  · split at h
    · rename_i z
      cases r1; cases r2
      exact .inl (.inr ⟨_, _, rfl, rfl, z, h.now R rfl⟩)
    · exact h.elim
  · split at h
    · rename_i xs ys z
      obtain ⟨a, us, rfl, q1, q2⟩ := r1
      obtain ⟨b, ws, rfl, q3, q4⟩ := r2
      refine .inr (.inl ⟨a, b, us, ws, rfl, rfl, q1, q3, by rw [q2.length, q4.length]; exact z, ?_, ?_, ?_⟩)
      · rintro rfl
        rw [q2.isNil, List.nil_append] at h
        exact h.now R ⟨b, ws, rfl, q3, q4⟩
      · rintro _ rfl
        rw [q4.isNil, List.append_nil] at h
        exact h.now R ⟨a, us, rfl, q1, q2⟩
      · intro _ _
        exact new_tup R (q2.append q4) h
    · exact h.elim
  · split at h
    · rename_i xs ys m1 m2
      split at h
      · rename_i z
        obtain ⟨_, a, us, _, rfl, _, _, q1, q2⟩ := muL_ok R r1 m1
        obtain ⟨_, b, ws, _, rfl, _, _, q3, q4⟩ := muL_ok R r2 m2
        refine .inr (.inr ⟨a, b, us, ws, rfl, rfl, q1, q3, by rw [q2.length, q4.length]; exact z, new_lst R (q2.append q4) h⟩)
      · exact h.elim
    · exact h.elim
  · exact h.elim
theorem aop_sub : AOp X E (binaryOp .Sub) subD := op_mono op_sub fun x y H Q h => by
  obtain ⟨ρ, A, d, e, R, r1, r2, h⟩ := h
  unfold subD at h
  split at h
  · cases r1; cases r2
    exact ⟨_, _, rfl, rfl, h.now R rfl⟩
  · exact h.elim
theorem aop_mul : AOp X E (binaryOp .Mult) mulD := op_mono ((op_mul.or op_mulW).or op_rep) fun x y H Q h => by
  obtain ⟨ρ, A, d, e, R, r1, r2, h⟩ := h
  unfold mulD at h
  split at h
  · split at h
    · rename_i z
      cases r1; cases r2
      rcases z with z | z
      · exact .inl (.inl ⟨_, _, rfl, rfl, z, h.now R rfl⟩)
      · exact .inl (.inr ⟨_, _, rfl, rfl, z, h.now R rfl⟩)
    · exact h.elim
  · split at h
    · rename_i xs m1
      split at h
      · rename_i z
        obtain ⟨_, a, us, _, rfl, _, _, q1, q2⟩ := muL_ok R r1 m1
        cases r2
        refine .inr ⟨a, _, us, rfl, rfl, q1, z.1, z.2.1, by rw [q2.length]; exact z.2.2, new_lst R (q2.rep _) h⟩
      · exact h.elim
    · exact h.elim
  · exact h.elim
theorem aop_fdiv : AOp X E (binaryOp .FloorDiv) fdivD := op_mono op_fdivW fun x y H Q h => by
  obtain ⟨ρ, A, d, e, R, r1, r2, h⟩ := h
  unfold fdivD at h
  split at h
  · split at h
    · rename_i z
      cases r1; cases r2
      exact ⟨_, _, rfl, rfl, z, h.now R rfl⟩
    · exact h.elim
  · exact h.elim
theorem aop_mod : AOp X E (binaryOp .Mod) modD := op_mono op_mod fun x y H Q h => by
  obtain ⟨ρ, A, d, e, R, r1, r2, h⟩ := h
  unfold modD at h
  split at h
  · split at h
    · rename_i z
      cases r1; cases r2
      exact ⟨_, _, rfl, rfl, z, h.now R rfl⟩
    · exact h.elim
  · exact h.elim
theorem aop_pow : AOp X E (binaryOp .Pow) powD := op_mono op_pow fun x y H Q h => by
  obtain ⟨ρ, A, d, e, R, r1, r2, h⟩ := h
  unfold powD at h
  split at h
  · split at h
    · rename_i z
      cases r1; cases r2
      exact ⟨_, _, rfl, rfl, z, h.now R rfl⟩
    · exact h.elim
  · exact h.elim
theorem aun_neg : UnR X (unaryOp .USub) (rU1 X.K E negD) := fun pins s σ H x v Q I rx h => by
  obtain ⟨ρ, A, d, R, r1, h⟩ := h
  unfold negD at h
  split at h
  · cases r1
    exact un_neg pins s σ H _ v Q I rx ⟨_, rfl, h.now R rfl⟩
  · exact h.elim
end
end Ab

namespace Ab
open PySem PySem.Spec PyProof.Rows L2
open scoped Classical

/-! ## data without cells, as PyData -/
mutual
def pd : D → Option PyData
  | .non => some .none
  | .bl b => some (.bool b)
  | .int i => some (.int i)
  | .str x => some (.str x)
  | .tup ds => match pdL ds with
    | some ps => some (.tuple ps)
    | none => none
  | .ref _ => none
def pdL : List D → Option (List PyData)
  | [] => some []
  | d :: ds => match pd d, pdL ds with
    | some p, some ps => some (p :: ps)
    | _, _ => none
end
def pd1 (A : AH) : D → Option PyData
  | .ref i => match rdL A (.ref i) with
    | some xs => match pdL xs with
      | some ps => some (.list ps)
      | none => none
    | none => none
  | d => pd d
section
variable {K : PySem.W.Frag} {ρ : List Addr} {H : Hp} {A : AH}
mutual
theorem pd_ok : ∀ (d : D) (v : V) (p : PyData), Rp K ρ H d v → pd d = some p → Dp K H v p
  | .non, v, p, r, h => by cases r; cases h; exact .non
  | .bl b, v, p, r, h => by cases r; cases h; exact .bl b
  | .int i, v, p, r, h => by cases r; cases h; exact .int i
  | .str x, v, p, r, h => by cases r; cases h; exact .str x
  | .ref i, v, p, r, h => by cases h
  | .tup ds, v, p, r, h => by
    obtain ⟨a, xs, rfl, h2, h3⟩ := r
    unfold pd at h
    split at h
    · rename_i ps e
      cases h
      exact .tup h2 (pdL_ok ds xs ps h3 e)
    · cases h
theorem pdL_ok : ∀ (ds : List D) (xs : List V) (ps : List PyData), RpL K ρ H ds xs → pdL ds = some ps → DpAll K H xs ps
  | [], xs, ps, r, h => by cases r; cases h; exact .nil
  | d :: ds, xs, ps, r, h => by
    obtain ⟨x, r', rfl, h2, h3⟩ := r
    unfold pdL at h
    split at h
    · rename_i p ps' e1 e2
      cases h
      exact .cons (pd_ok d x p h2 e1) (pdL_ok ds r' ps' h3 e2)
    · cases h
end
theorem pd1_ok (R : Rel K ρ H A) {d : D} {v : V} {p : PyData} (r : Rp K ρ H d v) (h : pd1 A d = some p) : Dp K H v p := by
  cases d with
  | ref i =>
    unfold pd1 at h
    simp only at h
    split at h
    · rename_i xs e
      split at h
      · rename_i ps e2
        cases h
        obtain ⟨a, us, rfl, q1, q2⟩ := rdL_ok R r e
        exact .lst q1 (pdL_ok xs us ps q2 e2)
      · cases h
    · cases h
  | _ => exact pd_ok _ _ _ r h
end
/-- == of plain things -/
def scalD : D → D → Option Bool
  | .int i, .int j => some (decide (i = j))
  | .str x, .str y => some (decide (x = y))
  | .bl a, .bl b => some (decide (a = b))
  | .non, .non => some true
  | .non, .int _ => some false
  | .int _, .non => some false
  | .non, .bl _ => some false
  | .bl _, .non => some false
  | .non, .str _ => some false
  | .str _, .non => some false
  | .int _, .str _ => some false
  | .str _, .int _ => some false
  | .bl _, .str _ => some false
  | .str _, .bl _ => some false
  | _, _ => none
def eqB (d e : D) (A : AH) : Option Bool := match scalD d e with
  | some b => some b
  | none => match pd1 A d, pd1 A e with
    | some p, some q => if (SeqAt.shaped p && SeqAt.shaped q) = true then some (PyData.eqv p q) else none
    | _, _ => none
def okB (o : Option Bool) (A : AH) : Res D := match o with
  | some b => .ok (.bl b) A
  | none => .bad
def eqD (d e : D) (A : AH) : Res D := okB (eqB d e A) A
def neD (d e : D) (A : AH) : Res D := okB ((eqB d e A).map (!·)) A
section
variable {X : Cx} {E : XK} {K : PySem.W.Frag} {ρ : List Addr} {H : Hp} {A : AH}
theorem scal_ok {d e : D} {x y : V} {b : Bool} (r1 : Rp K ρ H d x) (r2 : Rp K ρ H e y) (h : scalD d e = some b) : scal x y = true ∧ decide (x = y) = b := by
  cases d <;> cases e <;> first | (cases h; done) | (cases r1; cases r2; cases h; first | exact ⟨rfl, rfl⟩ | exact ⟨rfl, by simp⟩)
theorem aop_eq (hu : X.A.units + 64 < cLine) : AOp X E (compareOp .Eq) eqD := op_mono (op_eq.or (op_eqD hu)) fun x y H Q h => by
  obtain ⟨ρ, A, d, e, R, r1, r2, h⟩ := h
  unfold eqD eqB at h
  split at h
  · rename_i b e1
    obtain ⟨s1, s2⟩ := scal_ok r1 r2 e1
    exact .inl ⟨s1, by rw [s2]; exact h.now R rfl⟩
  · split at h
    · rename_i p q e1 e2
      split at h
      · rename_i z
        rw [Bool.and_eq_true] at z
        exact .inr ⟨p, q, pd1_ok R r1 e1, pd1_ok R r2 e2, z.1, z.2, h.now R rfl⟩
      · exact h.elim
    · exact h.elim
theorem aop_ne (hu : X.A.units + 64 < cLine) : AOp X E (compareOp .NotEq) neD := op_mono (op_ne.or (op_neD hu)) fun x y H Q h => by
  obtain ⟨ρ, A, d, e, R, r1, r2, h⟩ := h
  unfold neD eqB at h
  split at h
  · rename_i b e1
    obtain ⟨s1, s2⟩ := scal_ok r1 r2 e1
    exact .inl ⟨s1, by rw [s2]; exact h.now R rfl⟩
  · split at h
    · rename_i p q e1 e2
      split at h
      · rename_i z
        rw [Bool.and_eq_true] at z
        exact .inr ⟨p, q, pd1_ok R r1 e1, pd1_ok R r2 e2, z.1, z.2, h.now R rfl⟩
      · exact h.elim
    · exact h.elim
end
/-! ## is, order -/
def isNon : D → Bool
  | .non => true
  | _ => false
def isD : D → D → AH → Res D
  | d, .non, A => .ok (.bl (isNon d)) A
  | .bl a, .bl b, A => .ok (.bl (decide (a = b))) A
  | _, _, _ => .bad
def isntD : D → D → AH → Res D
  | d, .non, A => .ok (.bl (!isNon d)) A
  | .bl a, .bl b, A => .ok (.bl (!decide (a = b))) A
  | _, _, _ => .bad
def ltD : D → D → AH → Res D
  | .int i, .int j, A => .ok (.bl (decide (i < j))) A
  | .str i, .str j, A => .ok (.bl (decide (i.cps.toList < j.cps.toList))) A
  | _, _, _ => .bad
def leD : D → D → AH → Res D
  | .int i, .int j, A => .ok (.bl (decide (i ≤ j))) A
  | .str i, .str j, A => .ok (.bl (!decide (j.cps.toList < i.cps.toList))) A
  | _, _, _ => .bad
def gtD : D → D → AH → Res D
  | .int i, .int j, A => .ok (.bl (decide (j < i))) A
  | .str i, .str j, A => .ok (.bl (decide (j.cps.toList < i.cps.toList))) A
  | _, _, _ => .bad
def geD : D → D → AH → Res D
  | .int i, .int j, A => .ok (.bl (decide (j ≤ i))) A
  | .str i, .str j, A => .ok (.bl (!decide (i.cps.toList < j.cps.toList))) A
  | _, _, _ => .bad
section
variable {X : Cx} {E : XK} {K : PySem.W.Frag} {ρ : List Addr} {H : Hp} {A : AH}
theorem isNon_ok {d : D} {x : V} (r : Rp K ρ H d x) : decide (x = .non) = isNon d := by
  cases d with
  | non => cases r; rfl
  | bl _ => cases r; rfl
  | int _ => cases r; rfl
  | str _ => cases r; rfl
  | tup _ => obtain ⟨a, xs, rfl, _⟩ := r; rfl
  | ref _ => obtain ⟨a, _, rfl⟩ := r; rfl
theorem aop_is : AOp X E (compareOp .Is) isD := op_mono (op_isN.or op_isBl) fun x y H Q h => by
  obtain ⟨ρ, A, d, e, R, r1, r2, h⟩ := h
  unfold isD at h
  split at h
  · cases r2
    exact .inl ⟨rfl, by rw [isNon_ok r1]; exact h.now R rfl⟩
  · cases r1; cases r2
    exact .inr ⟨_, _, rfl, rfl, h.now R rfl⟩
  · exact h.elim
theorem aop_isnt : AOp X E (compareOp .IsNot) isntD := op_mono (op_notN.or op_notBl) fun x y H Q h => by
  obtain ⟨ρ, A, d, e, R, r1, r2, h⟩ := h
  unfold isntD at h
  split at h
  · cases r2
    exact .inl ⟨rfl, by rw [isNon_ok r1]; exact h.now R rfl⟩
  · cases r1; cases r2
    exact .inr ⟨_, _, rfl, rfl, h.now R rfl⟩
  · exact h.elim
theorem aop_lt : AOp X E (compareOp .Lt) ltD := op_mono (op_lt.or op_lt_str) fun x y H Q h => by
  obtain ⟨ρ, A, d, e, R, r1, r2, h⟩ := h
  unfold ltD at h
  split at h
  · cases r1; cases r2; exact .inl ⟨_, _, rfl, rfl, h.now R rfl⟩
  · cases r1; cases r2; exact .inr ⟨_, _, rfl, rfl, h.now R rfl⟩
  · exact h.elim
theorem aop_le : AOp X E (compareOp .LtE) leD := op_mono (op_le.or op_le_str) fun x y H Q h => by
  obtain ⟨ρ, A, d, e, R, r1, r2, h⟩ := h
  unfold leD at h
  split at h
  · cases r1; cases r2; exact .inl ⟨_, _, rfl, rfl, h.now R rfl⟩
  · cases r1; cases r2; exact .inr ⟨_, _, rfl, rfl, h.now R rfl⟩
  · exact h.elim
theorem aop_gt : AOp X E (compareOp .Gt) gtD := op_mono (op_gt.or op_gt_str) fun x y H Q h => by
  obtain ⟨ρ, A, d, e, R, r1, r2, h⟩ := h
  unfold gtD at h
  split at h
  · cases r1; cases r2; exact .inl ⟨_, _, rfl, rfl, h.now R rfl⟩
  · cases r1; cases r2; exact .inr ⟨_, _, rfl, rfl, h.now R rfl⟩
  · exact h.elim
theorem aop_ge : AOp X E (compareOp .GtE) geD := op_mono (op_ge.or op_ge_str) fun x y H Q h => by
  obtain ⟨ρ, A, d, e, R, r1, r2, h⟩ := h
  unfold geD at h
  split at h
  · cases r1; cases r2; exact .inl ⟨_, _, rfl, rfl, h.now R rfl⟩
  · cases r1; cases r2; exact .inr ⟨_, _, rfl, rfl, h.now R rfl⟩
  · exact h.elim
end
/-! ## chains -/
def fChain (g g' : D → D → AH → Res D) (f1 f2 f3 : FE) : FE := fun s A => (f1 s A).bind fun x A1 => (f2 s A1).bind fun y A2 => (g x y A2).bind fun z A3 => match z with
  | .bl true => (f3 s A3).bind fun w A4 => g' y w A4
  | .bl false => .ok (.bl false) A3
  | _ => .bad
section
variable {X : Cx} {E : XK} {a b c : Expr} {f1 f2 f3 : FE} {pos : Pos} {g g' : D → D → AH → Res D}
theorem chain_ {K : PySem.W.Frag} {σ : L2.St} {H : Hp} {Q : VK} (h : tA K E (fChain g g' f1 f2 f3) σ H Q) : tChain (rA K E g) (rA K E g') (tA K E f1) (tA K E f2) (tA K E f3) σ H Q := by
  obtain ⟨ρ, s, A, hs, R, h⟩ := h
  refine ⟨ρ, s, A, hs, R, (Out.bind h).mono fun x H1 ⟨ρ1, d, A1, _, e1, R1, r1, h1⟩ => ⟨ρ1, s, A1, hs.ext e1, R1, (Out.bind h1).mono fun y H2 ⟨ρ2, d2, A2, _, e2, R2, r2, h2⟩ => ⟨ρ2, A2, d, d2, R2, r1.ext e2, r2, ?_⟩⟩⟩
  refine (Out.bind h2).mono fun z H3 ⟨ρ3, d3, A3, _, e3, R3, r3, h3⟩ => ?_
  split at h3
  · cases r3
    refine ⟨true, rfl, ?_⟩
    rw [if_pos rfl]
    exact ⟨ρ3, s, A3, hs.ext (e1.trans (e2.trans e3)), R3, (Out.bind h3).mono fun w H4 ⟨ρ4, d4, A4, _, e4, R4, r4, h4⟩ => ⟨ρ4, A4, d2, d4, R4, r2.ext (e3.trans e4), r4, h4⟩⟩
  · cases r3
    refine ⟨false, rfl, ?_⟩
    rw [if_neg Bool.false_ne_true]
    exact h3.now R3 rfl
  · exact h3.elim
theorem ae_chain {op op' : CmpOp} (ho : AOp X E (compareOp op) g) (ho' : AOp X E (compareOp op') g') (ha : AE X E a f1) (hb : AE X E b f2) (hc : AE X E c f3) (hm : lastMarks [op, op'] [b, c] = false := by with_unfolding_all rfl) :
    AE X E (.Compare a [op, op'] [b, c] pos) (fChain g g' f1 f2 f3) := pe_mono (pe_chain ho ho' ha hb hc hm) fun _ _ _ => chain_
end
/-! ## truth, tests -/
def truD (A : AH) : D → Option Bool
  | .non => some false
  | .bl b => some b
  | .int i => some (i != 0)
  | .str x => if x.length ≤ sizeLine then some ((x.length : Int) != 0) else none
  | .tup ds => some (!ds.isEmpty)
  | .ref i => match A[i]? with
    | some (.lst xs) => some (!xs.isEmpty)
    | some (.frz xs) => some (!xs.isEmpty)
    | some (.dic xs) => some (!xs.isEmpty)
    | _ => none
theorem empty_of {α β : Type} {xs : List α} {ys : List β} (h : xs.length = ys.length) : xs.isEmpty = ys.isEmpty := by cases xs <;> cases ys <;> first | rfl | simp at h
theorem RpK.length {κ : Type} {K : PySem.W.Frag} {ρ : List Addr} {H : Hp} : ∀ {ps : List (κ × D)} {us : List (κ × V)}, RpK K ρ H ps us → us.length = ps.length
  | [], us, h => by rw [show us = [] from h]; rfl
  | p :: ps, us, h => by
    obtain ⟨x, r, rfl, h2, h3⟩ := h
    simp [RpK.length h3]
theorem tru_of {K : PySem.W.Frag} {ρ : List Addr} {H : Hp} {A : AH} {d : D} {x : V} {k : Bool} (R : Rel K ρ H A) (r : Rp K ρ H d x) (h : truD A d = some k) : TruV K x H k := by
  cases d with
  | non => cases r; cases h; rfl
  | bl _ => cases r; cases h; rfl
  | int _ => cases r; cases h; rfl
  | str y =>
    cases r
    simp only [truD] at h
    by_cases z : y.length ≤ sizeLine
    · rw [if_pos z] at h; cases h; exact ⟨z, rfl⟩
    · rw [if_neg z] at h; cases h
  | tup ds =>
    obtain ⟨a, xs, rfl, h2, h3⟩ := r
    cases h
    exact .inr (.inl ⟨xs, h2, by rw [empty_of h3.length]⟩)
  | ref i =>
    obtain ⟨a, h1, rfl⟩ := r
    obtain ⟨o, h2, h3⟩ := R.has h1
    unfold truD at h
    simp only [h2] at h
    cases o with
    | lst xs => cases h; obtain ⟨us, e1, e2⟩ := h3; exact .inl ⟨us, .inl (.inl e1), by rw [empty_of e2.length]⟩
    | frz xs => cases h; obtain ⟨us, e1, e2⟩ := h3; exact .inl ⟨us, e1.sq, by rw [empty_of e2.length]⟩
    | dic xs => cases h; obtain ⟨us, e1, e2⟩ := h3; exact .inr (.inr ⟨us, e1, by rw [empty_of e2.length]⟩)
    | ftp _ => cases h
    | fdk _ => cases h
    | ins _ _ => cases h
def tru (d : D) (A : AH) : Res Bool := match truD A d with
  | some b => .ok b A
  | none => .bad
def fT (f : FE) : FT := fun s A => (f s A).bind tru
def fTB (f : FE) : FT := fun s A => (f s A).bind fun d A1 => match d with
  | .bl b => .ok b A1
  | _ => .bad
def fTNot (f : FT) : FT := fun s A => (f s A).bind fun b A1 => .ok (!b) A1
def fTAnd (f g : FT) : FT := fun s A => (f s A).bind fun b A1 => if b = true then g s A1 else .ok false A1
def fTOr (f g : FT) : FT := fun s A => (f s A).bind fun b A1 => if b = true then .ok true A1 else g s A1
def fNot (f : FE) : FE := fun s A => (f s A).bind fun d A1 => (tru d A1).bind fun b A2 => .ok (.bl (!b)) A2
def fAnd (f g : FE) : FE := fun s A => (f s A).bind fun d A1 => (tru d A1).bind fun b A2 => if b = true then g s A2 else .ok d A2
def fOr (f g : FE) : FE := fun s A => (f s A).bind fun d A1 => (tru d A1).bind fun b A2 => if b = true then .ok d A2 else g s A2
def fIf (c : FT) (f g : FE) : FE := fun s A => (c s A).bind fun b A1 => if b = true then f s A1 else g s A1
section
variable {X : Cx} {E : XK} {a b c : Expr} {f g h : FE} {t u : FT} {pos : Pos} {rest : List Expr}
theorem tru_run {K : PySem.W.Frag} {α β : Type} {R1 : List Addr → Hp → α → β → Prop} {ρ : List Addr} {H : Hp} {A : AH} {d : D} {x : V} {k : Bool → AH → Res α} {Q : β → Hp → Prop} (R : Rel K ρ H A) (r : Rp K ρ H d x)
    (h : Out K E R1 ρ H ((tru d A).bind k) Q) : ∃ b, TruV K x H b ∧ Out K E R1 ρ H (k b A) Q := by
  unfold tru at h
  split at h
  · rename_i b e
    exact ⟨b, tru_of R r e, h⟩
  · exact h.elim
theorem at_e (ha : AE X E a f) (he : ∀ whole, isTrue a X.env whole = (do let v ← whole; standAt a.pos; holding [v] (truthy v)) := by intro _; rfl) : AT X E a (fT f) := pt_mono (pt_truth ha he) fun σ H Q hh => by
  obtain ⟨ρ, s, A, hs, R, hh⟩ := hh
  refine ⟨ρ, s, A, hs, R, (Out.bind hh).mono fun x H1 ⟨ρ1, d, A1, _, e1, R1, r1, h1⟩ => ?_⟩
  unfold tru at h1
  split at h1
  · rename_i b e
    exact ⟨b, tru_of R1 r1 e, h1.now R1 rfl⟩
  · exact h1.elim
theorem tb_ {K : PySem.W.Frag} {σ : L2.St} {H : Hp} {Q : Bool → Hp → Prop} {t : TE} {f : FE} (m : ∀ R : VK, tA K E f σ H R → t σ H R) (hh : tAT K E (fTB f) σ H Q) : tTest t σ H Q := by
  refine m _ ?_
  obtain ⟨ρ, s, A, hs, R, hh⟩ := hh
  refine ⟨ρ, s, A, hs, R, (Out.bind hh).mono fun x H1 ⟨ρ1, d, A1, _, e1, R1, r1, h1⟩ => ?_⟩
  split at h1
  · cases r1
    exact ⟨_, rfl, h1.now R1 rfl⟩
  · exact h1.elim
/-- a comparison, as a test -/
theorem at_cmp {op : CmpOp} {go : D → D → AH → Res D} (ho : AOp X E (compareOp op) go) (ha : AE X E a f) (hb : AE X E b g) (hm : behindInMarks op b = false := by first | exact nomark _ | with_unfolding_all rfl) : AT X E (.Compare a [op] [b] pos) (fTB (fOp go f g)) := pt_mono (pt_cmpR ho ha hb hm) fun σ H Q h => tb_ (fun _ => two_) h
theorem at_chain {c : Expr} {op op' : CmpOp} {go go' : D → D → AH → Res D} (ho : AOp X E (compareOp op) go) (ho' : AOp X E (compareOp op') go') (ha : AE X E a f) (hb : AE X E b g) (hc : AE X E c h) (hm : lastMarks [op, op'] [b, c] = false := by with_unfolding_all rfl) :
    AT X E (.Compare a [op, op'] [b, c] pos) (fTB (fChain go go' f g h)) := pt_mono (pt_chain ho ho' ha hb hc hm) fun σ H Q hh => tb_ (fun _ => chain_) hh
theorem at_not (ha : AT X E a t) : AT X E (.UnaryOp .Not a pos) (fTNot t) := pt_mono (pt_not ha) fun σ H Q hh => by
  obtain ⟨ρ, s, A, hs, R, hh⟩ := hh
  refine ⟨ρ, s, A, hs, R, (Out.bind hh).mono fun x H1 ⟨ρ1, d, A1, _, e1, R1, r1, h1⟩ => ?_⟩
  cases r1
  exact h1.now R1 rfl
abbrev AW (X : Cx) (E : XK) (e : Expr) (f : FT) : Prop := PW X e (tAT X.K E f)
theorem aw_and1 (ha : AT X E a t) : AW X E (.BoolOp .And [a] pos) t := pw_and1 ha
theorem aw_or1 (ha : AT X E a t) : AW X E (.BoolOp .Or [a] pos) t := pw_or1 ha
theorem aw_and (ha : AT X E a t) (hb : AW X E (.BoolOp .And (b :: rest) pos) u) : AW X E (.BoolOp .And (a :: b :: rest) pos) (fTAnd t u) := pw_mono (pw_and ha hb) fun σ H Q hh => by
  obtain ⟨ρ, s, A, hs, R, hh⟩ := hh
  refine ⟨ρ, s, A, hs, R, (Out.bind hh).mono fun x H1 ⟨ρ1, d, A1, _, e1, R1, r1, h1⟩ => ?_⟩
  cases r1
  cases x with
  | true => exact ⟨ρ1, s, A1, hs.ext e1, R1, h1⟩
  | false => exact h1.now R1 rfl
theorem aw_or (ha : AT X E a t) (hb : AW X E (.BoolOp .Or (b :: rest) pos) u) : AW X E (.BoolOp .Or (a :: b :: rest) pos) (fTOr t u) := pw_mono (pw_or ha hb) fun σ H Q hh => by
  obtain ⟨ρ, s, A, hs, R, hh⟩ := hh
  refine ⟨ρ, s, A, hs, R, (Out.bind hh).mono fun x H1 ⟨ρ1, d, A1, _, e1, R1, r1, h1⟩ => ?_⟩
  cases r1
  cases x with
  | true => exact h1.now R1 rfl
  | false => exact ⟨ρ1, s, A1, hs.ext e1, R1, h1⟩
theorem ae_one {op} (h : AE X E a f) : AE X E (.BoolOp op [a] pos) f := pe_one h
theorem ae_and (ha : AE X E a f) (hb : AE X E (.BoolOp .And (b :: rest) pos) g) : AE X E (.BoolOp .And (a :: b :: rest) pos) (fAnd f g) := pe_mono (pe_andT ha hb) fun σ H Q hh => by
  obtain ⟨ρ, s, A, hs, R, hh⟩ := hh
  refine ⟨ρ, s, A, hs, R, (Out.bind hh).mono fun x H1 ⟨ρ1, d, A1, _, e1, R1, r1, h1⟩ => ?_⟩
  obtain ⟨k, tk, h2⟩ := tru_run R1 r1 h1
  refine ⟨k, tk, ?_⟩
  cases k with
  | true => exact ⟨ρ1, s, A1, hs.ext e1, R1, h2⟩
  | false => exact h2.now R1 r1
theorem ae_or (ha : AE X E a f) (hb : AE X E (.BoolOp .Or (b :: rest) pos) g) : AE X E (.BoolOp .Or (a :: b :: rest) pos) (fOr f g) := pe_mono (pe_orT ha hb) fun σ H Q hh => by
  obtain ⟨ρ, s, A, hs, R, hh⟩ := hh
  refine ⟨ρ, s, A, hs, R, (Out.bind hh).mono fun x H1 ⟨ρ1, d, A1, _, e1, R1, r1, h1⟩ => ?_⟩
  obtain ⟨k, tk, h2⟩ := tru_run R1 r1 h1
  refine ⟨k, tk, ?_⟩
  cases k with
  | true => exact h2.now R1 r1
  | false => exact ⟨ρ1, s, A1, hs.ext e1, R1, h2⟩
theorem ae_not (ha : AE X E a f) : AE X E (.UnaryOp .Not a pos) (fNot f) := pe_mono (pe_notT ha) fun σ H Q hh => by
  obtain ⟨ρ, s, A, hs, R, hh⟩ := hh
  refine ⟨ρ, s, A, hs, R, (Out.bind hh).mono fun x H1 ⟨ρ1, d, A1, _, e1, R1, r1, h1⟩ => ?_⟩
  obtain ⟨k, tk, h2⟩ := tru_run R1 r1 h1
  exact ⟨k, tk, h2.now R1 rfl⟩
theorem ae_if (hc : AT X E c t) (ha : AE X E a f) (hb : AE X E b g) : AE X E (.IfExp c a b pos) (fIf t f g) := pe_mono (pe_ifExp hc ha hb) fun σ H Q hh => by
  obtain ⟨ρ, s, A, hs, R, hh⟩ := hh
  refine ⟨ρ, s, A, hs, R, (Out.bind hh).mono fun x H1 ⟨ρ1, d, A1, _, e1, R1, r1, h1⟩ => ?_⟩
  cases r1
  cases x with
  | true => exact ⟨ρ1, s, A1, hs.ext e1, R1, h1⟩
  | false => exact ⟨ρ1, s, A1, hs.ext e1, R1, h1⟩
end
/-! ## arguments, displays -/
def fNil : FA := fun _ A => .ok [] A
def fCons (f : FE) (fs : FA) : FA := fun s A => (f s A).bind fun x A1 => (fs s A1).bind fun xs A2 => .ok (x :: xs) A2
def tupD (xs : List D) (A : AH) : Res D := if xs.length ≤ sizeLine then .ok (.tup xs) A else .bad
def lstD (xs : List D) (A : AH) : Res D := if xs.length ≤ sizeLine then alloc (.lst xs) A else .bad
def fTup (fs : FA) : FE := fun s A => (fs s A).bind tupD
def fLst (fs : FA) : FE := fun s A => (fs s A).bind lstD
section
variable {X : Cx} {E : XK} {e : Expr} {es : List Expr} {f : FE} {fs : FA} {pos : Pos}
theorem aa_nil : AA X E [] fNil := pa_mono pa_nil fun σ H Q hh => by
  obtain ⟨ρ, s, A, hs, R, hh⟩ := hh
  exact Out.now hh R rfl
theorem aa_cons (ha : AE X E e f) (hr : AA X E es fs) (hs : starEach (e :: es) X.env = (false, eval e X.env) :: starEach es X.env := by rfl) : AA X E (e :: es) (fCons f fs) := pa_mono (pa_cons ha hr hs) fun σ H Q hh => by
  obtain ⟨ρ, s, A, hs, R, hh⟩ := hh
  refine ⟨ρ, s, A, hs, R, (Out.bind hh).mono fun x H1 ⟨ρ1, d, A1, _, e1, R1, r1, h1⟩ => ⟨ρ1, s, A1, hs.ext e1, R1, (Out.bind h1).mono fun xs H2 ⟨ρ2, ds, A2, _, e2, R2, r2, h2⟩ => ?_⟩⟩
  exact Out.now h2 R2 ⟨x, xs, rfl, r1.ext e2, r2⟩
theorem ae_tup {x1} (h : AA X E es fs) : AE X E (.Tuple es x1 pos) (fTup fs) := pe_mono (pe_tup h) fun σ H Q hh => by
  obtain ⟨ρ, s, A, hs, R, hh⟩ := hh
  refine ⟨ρ, s, A, hs, R, (Out.bind hh).mono fun x H1 ⟨ρ1, d, A1, _, e1, R1, r1, h1⟩ => ?_⟩
  unfold tupD at h1
  split at h1
  · rename_i z
    exact ⟨by rw [r1.length]; exact z, new_tup R1 r1 h1⟩
  · exact h1.elim
theorem ae_lst (h : AA X E es fs) : AE X E (.List es pos) (fLst fs) := pe_mono (pe_lst h) fun σ H Q hh => by
  obtain ⟨ρ, s, A, hs, R, hh⟩ := hh
  refine ⟨ρ, s, A, hs, R, (Out.bind hh).mono fun x H1 ⟨ρ1, d, A1, _, e1, R1, r1, h1⟩ => ?_⟩
  unfold lstD at h1
  split at h1
  · rename_i z
    exact ⟨by rw [r1.length]; exact z, new_lst R1 r1 h1⟩
  · exact h1.elim
end
end Ab

namespace Ab
open PySem PySem.Spec PyProof.Rows L2
open scoped Classical

/-! ## dicts as lists of pairs -/
def getK {κ : Type} [DecidableEq κ] (kvs : List (κ × D)) (k : κ) : Option D := (kvs.find? fun kv => decide (kv.1 = k)).map (·.2)
def setK {κ : Type} [DecidableEq κ] (kvs : List (κ × D)) (k : κ) (v : D) : List (κ × D) :=
  if (kvs.any fun kv => decide (kv.1 = k)) = true then kvs.map (fun kv => if kv.1 = k then (kv.1, v) else kv) else kvs ++ [(k, v)]
def keyOf : D → Option Key
  | .int i => some (.inl i)
  | .str x => some (.inr x)
  | _ => none
section
variable {κ : Type} [DecidableEq κ] {K : PySem.W.Frag} {ρ : List Addr} {H : Hp} {A : AH}
theorem keyOf_ok {d : D} {v : V} {k : Key} (r : Rp K ρ H d v) (h : keyOf d = some k) : v = kV k := by
  cases d <;> first | (cases h; done) | (cases h; cases r; rfl)
theorem getK_ok {k : κ} : ∀ {kvs : List (κ × D)} {us : List (κ × V)}, RpK K ρ H kvs us → match getK kvs k with
    | some d => ∃ v, valV us k = some v ∧ Rp K ρ H d v
    | none => valV us k = none
  | [], us, h => by rw [show us = [] from h]; rfl
  | p :: ps, us, h => by
    obtain ⟨v, r, rfl, h2, h3⟩ := h
    have ih := getK_ok (k := k) h3
    by_cases e : p.1 = k
    · simp only [getK, List.find?_cons, e, decide_true, Option.map_some]
      exact ⟨v, by simp [valV, List.find?_cons, e], h2⟩
    · have e1 : getK (p :: ps) k = getK ps k := by simp [getK, List.find?_cons, e]
      have e2 : valV ((p.1, v) :: r) k = valV r k := by simp [valV, List.find?_cons, e]
      rw [e1, e2]
      exact ih
theorem any_ok {k : κ} : ∀ {kvs : List (κ × D)} {us : List (κ × V)}, RpK K ρ H kvs us → (kvs.any fun kv => decide (kv.1 = k)) = us.any fun kv => decide (kv.1 = k)
  | [], us, h => by rw [show us = [] from h]; rfl
  | p :: ps, us, h => by
    obtain ⟨v, r, rfl, h2, h3⟩ := h
    rw [List.any_cons, List.any_cons, any_ok h3]
theorem RpK.app : ∀ {kvs : List (κ × D)} {us : List (κ × V)} {k : κ} {d : D} {v : V}, RpK K ρ H kvs us → Rp K ρ H d v → RpK K ρ H (kvs ++ [(k, d)]) (us ++ [(k, v)])
  | [], us, k, d, v, h, q => by rw [show us = [] from h]; exact ⟨v, [], rfl, q, rfl⟩
  | p :: ps, us, k, d, v, h, q => by
    obtain ⟨w, r, rfl, h2, h3⟩ := h
    exact ⟨w, _, rfl, h2, h3.app q⟩
theorem setK_ok {k : κ} {d : D} {v : V} {kvs : List (κ × D)} {us : List (κ × V)} (h : RpK K ρ H kvs us) (q : Rp K ρ H d v) : RpK K ρ H (setK kvs k d) (putK us k v) := by
  unfold setK putK
  rw [any_ok h]
  split
  · have all : ∀ {kvs : List (κ × D)} {us : List (κ × V)}, RpK K ρ H kvs us → RpK K ρ H (kvs.map (fun kv => if kv.1 = k then (kv.1, d) else kv)) (us.map (fun kv => if kv.1 = k then (kv.1, v) else kv)) := by
      intro kvs
      induction kvs with
      | nil => intro us h; rw [show us = [] from h]; rfl
      | cons p ps ih =>
        intro us h
        obtain ⟨w, r, rfl, h2, h3⟩ := h
        by_cases e : p.1 = k
        · simp only [List.map_cons, if_pos e]; exact ⟨v, _, rfl, q, ih h3⟩
        · simp only [List.map_cons, if_neg e]; exact ⟨w, _, rfl, h2, ih h3⟩
    exact all h
  · exact h.app q
end

/-! ## subscripts -/
def ixSeq (xs : List D) (i : Int) (A : AH) : Res D := match atI xs i with
  | some x => .ok x A
  | none => .bad
def ixD (d e : D) (A : AH) : Res D := match e with
  | .int i => match rdS A d with
    | some xs => ixSeq xs i A
    | none => match d with
      | .str z => if z.length ≤ sizeLine then (match atI z.cps.toList i with | some c => .ok (.str ⟨#[c]⟩) A | none => .bad) else .bad
      | _ => match rdK A d with
        | some kvs => (match getK kvs (.inl i) with | some v => .ok v A | none => .bad)
        | none => .bad
  | .str x => match rdK A d with
    | some kvs => (match getK kvs (.inr x) with | some v => .ok v A | none => .bad)
    | none => .bad
  | _ => .bad
section
variable {X : Cx} {E : XK}
theorem ix_dict (hu : X.A.units + 1 < cLine) : IxR X (fun x y H Q => ∃ a v, x = .ref a ∧ DGet H a y (some v) ∧ Q v H) := by
  intro value slice pins s σ H x y v u Q I rx ry h hs
  obtain ⟨a, w, rfl, g, q⟩ := h
  obtain rfl : v = Value.ref a := rx
  exact tail_any (dict_typeIs I g) PySem.F.slot_dict_getitem.lookup (d_getItem hu I g ry fun w' s3 I3 rw' => ⟨w, H, I3, rw', q⟩) hs
theorem RpL.atI {K : PySem.W.Frag} {ρ : List Addr} {H : Hp} {ds : List D} {xs : List V} {i : Int} {d : D} (r : RpL K ρ H ds xs) (h : atI ds i = some d) : ∃ v, L2.atI xs i = some v ∧ Rp K ρ H d v := by
  unfold L2.atI at h ⊢
  rw [r.length]
  cases e : ixN ds.length i with
  | none => rw [e] at h; cases h
  | some j =>
    rw [e] at h
    exact r.get h
theorem ix_mono {r r' : R2} (h : IxR X r) (m : ∀ x y H Q, r' x y H Q → r x y H Q) : IxR X r' := fun value slice pins s σ H x y v u Q I rx ry q hs => h value slice pins s σ H x y v u Q I rx ry (m _ _ _ _ q) hs
theorem aix (hu : X.A.units + 1 < cLine) : IxR X (rA X.K E ixD) := ix_mono (ix_seq.or (ix_dict hu)) fun x y H Q h => by
  obtain ⟨ρ, A, d, e, R, r1, r2, h⟩ := h
  have dic : ∀ {k : Key} {kvs : List (Key × D)} {v : D}, y = kV k → rdK A d = some kvs → getK kvs k = some v → OutE X.K E ρ H (.ok v A) Q → ∃ a w, x = .ref a ∧ DGet H a y (some w) ∧ Q w H := by
    intro k kvs v ey e1 e2 h
    obtain ⟨_, a, us, _, rfl, _, q1, q2⟩ := rdK_ok R r1 e1
    have g := getK_ok (k := k) q2
    rw [e2] at g
    obtain ⟨w, g1, g2⟩ := g
    exact ⟨a, w, rfl, .inl ⟨us, k, q1, ey, g1.symm⟩, h.now R g2⟩
  cases e with
  | int i =>
    cases r2
    simp only [ixD] at h
    split at h
    · rename_i ds e1
      obtain ⟨a, xs, rfl, q1, q2⟩ := rdS_ok R r1 e1
      unfold ixSeq at h
      split at h
      · rename_i z e2
        obtain ⟨v, q3, q4⟩ := q2.atI e2
        rcases q1 with q1 | q1
        · exact .inl (.inl ⟨a, xs, i, v, rfl, rfl, q1, q3, h.now R q4⟩)
        · exact .inl (.inr (.inl ⟨a, xs, i, v, rfl, rfl, q1, q3, h.now R q4⟩))
      · exact h.elim
    · split at h
      · split at h
        · rename_i z
          split at h
          · rename_i c e2
            cases r1
            exact .inl (.inr (.inr ⟨_, i, c, rfl, rfl, z, e2, h.now R rfl⟩))
          · exact h.elim
        · exact h.elim
      · split at h
        · rename_i kvs e1
          split at h
          · rename_i v e2
            exact .inr (dic (k := .inl i) rfl e1 e2 h)
          · exact h.elim
        · exact h.elim
  | str z =>
    cases r2
    simp only [ixD] at h
    split at h
    · rename_i kvs e1
      split at h
      · rename_i v e2
        exact .inr (dic (k := .inr z) rfl e1 e2 h)
      · exact h.elim
    · exact h.elim
  | _ => exact h.elim
theorem ae_ix {a b : Expr} {f g : FE} {pos : Pos} (hu : X.A.units + 1 < cLine) (ha : AE X E a f) (hb : AE X E b g) (hs : PlainIx b := by exact fun _ _ => rfl) : AE X E (.Subscript a b pos) (fOp ixD f g) := pe_mono (pe_ix (aix hu) ha hb hs) fun _ _ _ => two_
end

/-! ## slices -/
def fNo : FO := fun _ A => .ok none A
def fPart (f : FE) : FO := fun s A => (f s A).bind fun d A1 => match d with
  | .int i => .ok (some i) A1
  | _ => .bad
def cutL {α : Type} (xs : List α) (lo hi : Option Int) : List α := (xs.drop (HT.sIx xs.length 0 lo)).take (HT.sIx xs.length xs.length hi - HT.sIx xs.length 0 lo)
def slD (d : D) (lo hi : Option Int) (A : AH) : Res D := match d with
  | .tup xs => .ok (.tup (cutL xs lo hi)) A
  | .str z => if z.length ≤ sizeLine then .ok (.str (cutS z lo hi)) A else .bad
  | d => match rdL A d with
    | some xs => alloc (.lst (cutL xs lo hi)) A
    | none => .bad
def fSl (f : FE) (lo hi : FO) : FE := fun s A => (f s A).bind fun d A1 => (lo s A1).bind fun l A2 => (hi s A2).bind fun h A3 => slD d l h A3
section
variable {X : Cx} {E : XK} {e : Expr} {f : FE} {lo hi : Option Expr} {fl fh : FO} {p2 pos : Pos}
theorem ao_none : AO_ X E none fNo := ⟨fun pins s σ H Q I h => po_none.run pins s σ H Q I (by
  obtain ⟨ρ, s, A, hs, R, h⟩ := h
  exact Out.now h R rfl)⟩
theorem ao_some (h : AE X E e f) : AO_ X E (some e) (fPart f) := ⟨fun pins s σ H Q I h' => (po_some h).run pins s σ H Q I (by
  obtain ⟨ρ, s, A, hs, R, h⟩ := h'
  refine ⟨ρ, s, A, hs, R, (Out.bind h).mono fun x H1 ⟨ρ1, d, A1, _, e1, R1, r1, h1⟩ => ?_⟩
  split at h1
  · cases r1
    exact ⟨_, rfl, h1.now R1 rfl⟩
  · exact h1.elim)⟩
theorem RpL.cut {K : PySem.W.Frag} {ρ : List Addr} {H : Hp} {ds : List D} {xs : List V} (r : RpL K ρ H ds xs) (lo hi : Option Int) : RpL K ρ H (cutL ds lo hi) (cutV xs lo hi) := by
  unfold cutL cutV
  rw [r.length]
  exact (r.drop _).take _
theorem cutL_all {α : Type} {xs : List α} {lo hi : Option Int} (h : HT.sIx xs.length 0 lo = 0 ∧ HT.sIx xs.length xs.length hi = xs.length) : cutL xs lo hi = xs := by
  unfold cutL
  rw [h.1, h.2]
  simp
theorem ae_sl (he : AE X E e f) (hl : AO_ X E lo fl) (hh : AO_ X E hi fh) : AE X E (.Subscript e (.Slice lo hi none p2) pos) (fSl f fl fh) := pe_mono (pe_slice ((sl_tupA.or sl_str).or sl_list) he hl hh) fun σ H Q h => by
  obtain ⟨ρ, s, A, hs, R, h⟩ := h
  refine ⟨ρ, s, A, hs, R, (Out.bind h).mono fun x H1 ⟨ρ1, d, A1, _, e1, R1, r1, h1⟩ => ⟨ρ1, s, A1, hs.ext e1, R1, (Out.bind h1).mono fun l H2 ⟨ρ2, l', A2, _, e2, R2, r2, h2⟩ => ⟨ρ2, s, A2, hs.ext (e1.trans e2), R2, (Out.bind h2).mono fun u H3 ⟨ρ3, u', A3, _, e3, R3, r3, h3⟩ => ?_⟩⟩⟩
  cases r2; cases r3
  have r1 := r1.ext (e2.trans e3)
  unfold slD at h3
  split at h3
  · rename_i xs
    obtain ⟨a, us, rfl, q1, q2⟩ := r1
    refine .inl (.inl ⟨a, us, rfl, q1, fun z => ?_, fun _ => new_tup R3 (q2.cut _ _) h3⟩)
    rw [q2.length] at z
    rw [cutL_all z] at h3
    exact h3.now R3 ⟨a, us, rfl, q1, q2⟩
  · split at h3
    · rename_i z
      cases r1
      exact .inl (.inr ⟨_, rfl, z, h3.now R3 rfl⟩)
    · exact h3.elim
  · split at h3
    · rename_i xs e4
      obtain ⟨a, us, rfl, q1, q2⟩ := rdL_ok R3 r1 e4
      exact .inr ⟨a, us, rfl, q1, new_lst R3 (q2.cut _ _) h3⟩
    · exact h3.elim
def revD (d : D) (A : AH) : Res D := match rdL A d with
  | some xs => alloc (.lst xs.reverse) A
  | none => .bad
theorem ae_rev {k : Nat} {p1 p3 : Pos} (he : AE X E e f) : AE X E (.Subscript e (.Slice none none (some (.UnaryOp .USub (.Constant (.int 1) k p1) p2)) p3) pos) (fUn revD f) := pe_mono (pe_revL he) fun σ H Q h => by
  obtain ⟨ρ, s, A, hs, R, h⟩ := h
  refine ⟨ρ, s, A, hs, R, (Out.bind h).mono fun x H1 ⟨ρ1, d, A1, _, e1, R1, r1, h1⟩ => ?_⟩
  unfold revD at h1
  split at h1
  · rename_i xs e4
    obtain ⟨a, us, rfl, q1, q2⟩ := rdL_ok R1 r1 e4
    exact ⟨a, us, rfl, q1, new_lst R1 q2.reverse h1⟩
  · exact h1.elim
end

/-! ## in -/
def toV : D → Option V
  | .non => some .non
  | .bl b => some (.bl b)
  | .int i => some (.int i)
  | .str x => some (.str x)
  | _ => none
def toVs : List D → Option (List V)
  | [] => some []
  | d :: ds => match toV d, toVs ds with
    | some v, some vs => some (v :: vs)
    | _, _ => none
theorem toV_ok {K : PySem.W.Frag} {ρ : List Addr} {H : Hp} {d : D} {v w : V} (r : Rp K ρ H d v) (h : toV d = some w) : v = w ∧ flatV v = true := by
  cases d <;> first | (cases h; done) | (cases h; cases r; exact ⟨rfl, rfl⟩)
theorem toVs_ok {K : PySem.W.Frag} {ρ : List Addr} {H : Hp} : ∀ {ds : List D} {vs ws : List V}, RpL K ρ H ds vs → toVs ds = some ws → vs = ws ∧ vs.all flatV = true
  | [], vs, ws, r, h => by cases h; rw [show vs = [] from r]; exact ⟨rfl, rfl⟩
  | d :: ds, vs, ws, r, h => by
    obtain ⟨v, vs', rfl, h2, h3⟩ := r
    unfold toVs at h
    split at h
    · rename_i w ws' e1 e2
      cases h
      obtain ⟨rfl, f1⟩ := toV_ok h2 e1
      obtain ⟨rfl, f2⟩ := toVs_ok h3 e2
      exact ⟨rfl, by rw [List.all_cons, f1, f2]; rfl⟩
    · cases h
def inB (d e : D) (A : AH) : Option Bool := match e with
  | .str y => match d with
    | .str x => some (!(Builtin.Str.occurrences y x 0 y.length 1).isEmpty)
    | _ => none
  | e => match rdK A e with
    | some kvs => match keyOf d with
      | some k => some (getK kvs k).isSome
      | none => none
    | none => match rdS A e with
      | some ys => match toV d, toVs ys with
        | some x, some us => some (inV x us)
        | _, _ => match rdL A e, pd d, pdL ys with
          | some _, some p, some ps => if (SeqAt.shaped p && SeqAt.shaped (.list ps)) = true then some (ps.any fun z => PyData.eqv z p) else none
          | _, _, _ => none
      | none => none
def inD (d e : D) (A : AH) : Res D := okB (inB d e A) A
def ninD (d e : D) (A : AH) : Res D := okB ((inB d e A).map (!·)) A
section
variable {X : Cx} {E : XK}
theorem op_in_dk (hu : X.A.units + 1 < cLine) : OpR X (compareOp .In) (fun x y H Q => ∃ a o, y = .ref a ∧ DGet H a x o ∧ Q (.bl o.isSome) H) := by
  intro pins s σ H x y v u Q I rx ry h
  obtain ⟨a, o, rfl, g, q⟩ := h
  obtain rfl : u = Value.ref a := ry
  exact d_in hu I g rx fun s3 I3 => ⟨V.bl _, H, I3, rfl, q⟩
theorem op_nin_dk (hu : X.A.units + 1 < cLine) : OpR X (compareOp .NotIn) (fun x y H Q => ∃ a o, y = .ref a ∧ DGet H a x o ∧ Q (.bl (!o.isSome)) H) := by
  intro pins s σ H x y v u Q I rx ry h
  obtain ⟨a, o, rfl, g, q⟩ := h
  obtain rfl : u = Value.ref a := ry
  exact d_notIn hu I g rx fun s3 I3 => ⟨V.bl _, H, I3, rfl, q⟩
/-- what stands behind an answer of inB -/
theorem inB_ok {K : PySem.W.Frag} {ρ : List Addr} {H : Hp} {A : AH} {d e : D} {x y : V} {b : Bool} (R : Rel K ρ H A) (r1 : Rp K ρ H d x) (r2 : Rp K ρ H e y) (h : inB d e A = some b) :
    (∃ i j, x = .str i ∧ y = .str j ∧ b = !(Builtin.Str.occurrences j i 0 j.length 1).isEmpty) ∨ (∃ p xs, y = .ref p ∧ (SqL K H p xs ∨ SqT K H p xs) ∧ flatV x = true ∧ xs.all flatV = true ∧ b = inV x xs) ∨
    (∃ a o, y = .ref a ∧ DGet H a x o ∧ b = o.isSome) ∨ (∃ d' ds, Dp K H x d' ∧ Dp K H y (.list ds) ∧ SeqAt.shaped d' = true ∧ SeqAt.shaped (.list ds) = true ∧ b = ds.any fun z => PyData.eqv z d') := by
  unfold inB at h
  split at h
  · split at h
    · cases h; cases r1; cases r2
      exact .inl ⟨_, _, rfl, rfl, rfl⟩
    · cases h
  · split at h
    · rename_i kvs e1
      split at h
      · rename_i k e2
        cases h
        obtain ⟨_, a, us, _, rfl, _, q1, q2⟩ := rdK_ok R r2 e1
        have ex := keyOf_ok r1 e2
        have g := getK_ok (k := k) q2
        refine .inr (.inr (.inl ⟨a, valV us k, rfl, .inl ⟨us, k, q1, ex, rfl⟩, ?_⟩))
        split at g
        · rename_i d' e3
          obtain ⟨w, g1, _⟩ := g
          rw [g1, e3]; rfl
        · rename_i e3
          rw [g, e3]; rfl
      · cases h
    · split at h
      · rename_i ys e1
        split at h
        · rename_i x' us e2 e3
          cases h
          obtain ⟨a, xs, rfl, q1, q2⟩ := rdS_ok R r2 e1
          obtain ⟨rfl, f1⟩ := toV_ok r1 e2
          obtain ⟨rfl, f2⟩ := toVs_ok q2 e3
          exact .inr (.inl ⟨a, _, rfl, q1, f1, f2, rfl⟩)
        · split at h
          · rename_i zs p ps e2 e3 e4
            split at h
            · rename_i z
              rw [Bool.and_eq_true] at z
              cases h
              obtain ⟨a, xs, rfl, q1, q2⟩ := rdL_ok R r2 e2
              have ez : ys = zs := by
                cases e with
                | ref i => rw [show rdS A (.ref i) = rdL A (.ref i) from rfl] at e1; rw [e1] at e2; exact Option.some.inj e2
                | _ => cases e2
              subst ez
              exact .inr (.inr (.inr ⟨p, ps, pd_ok d x p r1 e3, .lst q1 (pdL_ok ys xs ps q2 e4), z.1, z.2, rfl⟩))
            · cases h
          · cases h
      · cases h
theorem aop_in (hu : X.A.units + 65 < cLine) : AOp X E (compareOp .In) inD := op_mono ((op_in_str.or op_in_seq).or ((op_in_dk (by omega)).or (op_inD hu))) fun x y H Q h => by
  obtain ⟨ρ, A, d, e, R, r1, r2, h⟩ := h
  unfold inD okB at h
  split at h
  · rename_i b e1
    have h := Out.now (R1 := fun ρ H d v => Rp X.K ρ H d v) (v := V.bl b) h R rfl
    rcases inB_ok R r1 r2 e1 with ⟨i, j, rfl, rfl, rfl⟩ | ⟨p, xs, rfl, q1, q2, q3, rfl⟩ | ⟨a, o, rfl, g, rfl⟩ | ⟨d', ds, q1, q2, q3, q4, rfl⟩
    · exact .inl (.inl ⟨i, j, rfl, rfl, h⟩)
    · exact .inl (.inr ⟨p, xs, rfl, q1, q2, q3, h⟩)
    · exact .inr (.inl ⟨a, o, rfl, g, h⟩)
    · exact .inr (.inr ⟨d', ds, q1, q2, q3, q4, h⟩)
  · exact h.elim
theorem aop_nin (hu : X.A.units + 65 < cLine) : AOp X E (compareOp .NotIn) ninD := op_mono ((op_notin_str.or op_notIn_seq).or ((op_nin_dk (by omega)).or (op_notInD hu))) fun x y H Q h => by
  obtain ⟨ρ, A, d, e, R, r1, r2, h⟩ := h
  unfold ninD okB at h
  cases e1 : inB d e A with
  | none => rw [e1] at h; exact h.elim
  | some b =>
    rw [e1] at h
    have h := Out.now (R1 := fun ρ H d v => Rp X.K ρ H d v) (v := V.bl (!b)) h R rfl
    rcases inB_ok R r1 r2 e1 with ⟨i, j, rfl, rfl, rfl⟩ | ⟨p, xs, rfl, q1, q2, q3, rfl⟩ | ⟨a, o, rfl, g, rfl⟩ | ⟨d', ds, q1, q2, q3, q4, rfl⟩
    · exact .inl (.inl ⟨i, j, rfl, rfl, h⟩)
    · exact .inl (.inr ⟨p, xs, rfl, q1, q2, q3, h⟩)
    · exact .inr (.inl ⟨a, o, rfl, g, h⟩)
    · exact .inr (.inr ⟨d', ds, q1, q2, q3, q4, h⟩)
end

/-! ## calls of built-ins -/
def rC (K : PySem.W.Frag) (E : XK) (g : FM) : List V → Hp → VK → Prop := fun xs H Q => ∃ ρ A ds, Rel K ρ H A ∧ RpL K ρ H ds xs ∧ OutE K E ρ H (g ds A) Q
abbrev ACall (X : Cx) (E : XK) (f : Value) (g : FM) : Prop := CallR X f (rC X.K E g)
def fCall (g : FM) (fs : FA) : FE := fun s A => (fs s A).bind fun ds A1 => g ds A1
section
variable {X : Cx} {E : XK} {e : Expr} {es : List Expr} {fs : FA} {g : FM} {x : Str} {p pos : Pos} {id T : String}
theorem call_ {K : PySem.W.Frag} {σ : L2.St} {H : Hp} {Q : VK} (h : tA K E (fCall g fs) σ H Q) : tCB (rC K E g) (tAA K E fs) σ H Q := by
  obtain ⟨ρ, s, A, hs, R, h⟩ := h
  exact ⟨ρ, s, A, hs, R, (Out.bind h).mono fun x H1 ⟨ρ1, d, A1, _, e1, R1, r1, h1⟩ => ⟨ρ1, A1, d, R1, r1, h1⟩⟩
theorem ae_callB (hc : ACall X E (.builtin id) g) (hg : Gl X x) (hm : X.mg x = none) (hv : bootBuiltins x = some (.builtin id)) (ha : AA X E (e :: es) fs) (hn : x ≠ "__name__" := by decide) (hdb : (x == ("__debug__" : Str)) = false := by decide)
    (he : starEach (e :: es) X.env = (false, eval e X.env) :: starEach es X.env := by rfl) (hpl : (backTo pos (starEach es X.env)).any (·.1) = false := by rfl) : AE X E (.Call (.Name x p) (e :: es) [] pos) (fCall g fs) :=
  pe_mono (pe_callB hc hg hm hv ha hn hdb he hpl) fun _ _ _ => call_
theorem ae_callT (hc : ACall X E (.type T) g) (hg : Gl X x) (hm : X.mg x = none) (hv : bootBuiltins x = some (.type T)) (ha : AA X E (e :: es) fs) (hn : x ≠ "__name__" := by decide) (hdb : (x == ("__debug__" : Str)) = false := by decide)
    (he : starEach (e :: es) X.env = (false, eval e X.env) :: starEach es X.env := by rfl) (hpl : (backTo pos (starEach es X.env)).any (·.1) = false := by rfl) : AE X E (.Call (.Name x p) (e :: es) [] pos) (fCall g fs) :=
  pe_mono (pe_callTy hc hg hm hv ha hn hdb he hpl) fun _ _ _ => call_
end
def intsOf : List D → Option (List Int)
  | [] => some []
  | .int i :: r => match intsOf r with
    | some is => some (i :: is)
    | none => none
  | _ :: _ => none
def blsOf : List D → Option (List Bool)
  | [] => some []
  | .bl i :: r => match blsOf r with
    | some is => some (i :: is)
    | none => none
  | _ :: _ => none
def maxI : List Int → Int
  | [] => 0
  | [x] => x
  | x :: r => if maxI r > x then maxI r else x
def minI : List Int → Int
  | [] => 0
  | [x] => x
  | x :: r => if minI r < x then minI r else x
section
variable {K : PySem.W.Frag} {ρ : List Addr} {H : Hp}
theorem ints_ok : ∀ {ds : List D} {xs : List V} {is : List Int}, RpL K ρ H ds xs → intsOf ds = some is → xs = is.map V.int
  | [], xs, is, r, h => by cases h; rw [show xs = [] from r]; rfl
  | d :: ds, xs, is, r, h => by
    obtain ⟨x, xs', rfl, h2, h3⟩ := r
    cases d with
    | int i =>
      cases h2
      unfold intsOf at h
      split at h
      · rename_i js e
        cases h
        rw [ints_ok h3 e]; rfl
      · cases h
    | _ => cases h
theorem bls_ok : ∀ {ds : List D} {xs : List V} {is : List Bool}, RpL K ρ H ds xs → blsOf ds = some is → xs = is.map V.bl
  | [], xs, is, r, h => by cases h; rw [show xs = [] from r]; rfl
  | d :: ds, xs, is, r, h => by
    obtain ⟨x, xs', rfl, h2, h3⟩ := r
    cases d with
    | bl i =>
      cases h2
      unfold blsOf at h
      split at h
      · rename_i js e
        cases h
        rw [bls_ok h3 e]; rfl
      · cases h
    | _ => cases h
end
theorem maxI_cons (x y : Int) (r : List Int) : maxI (x :: y :: r) = if maxI (y :: r) > x then maxI (y :: r) else x := rfl
theorem minI_cons (x y : Int) (r : List Int) : minI (x :: y :: r) = if minI (y :: r) < x then minI (y :: r) else x := rfl
theorem maxI_mem : ∀ {ns : List Int}, ns ≠ [] → maxI ns ∈ ns
  | [], h => absurd rfl h
  | [x], _ => by simp [maxI]
  | x :: y :: r, _ => by
    have ih := maxI_mem (ns := y :: r) (by simp)
    rw [maxI_cons]
    split
    · exact List.mem_cons_of_mem _ ih
    · exact List.mem_cons_self
theorem maxI_le : ∀ {ns : List Int} {y : Int}, y ∈ ns → y ≤ maxI ns
  | [x], y, h => by simp at h; subst h; simp [maxI]
  | x :: z :: r, y, h => by
    have ih := fun q => maxI_le (ns := z :: r) (y := y) q
    rw [maxI_cons]
    rcases List.mem_cons.mp h with e | e
    · subst e; split <;> omega
    · have := ih e; split <;> omega
theorem minI_mem : ∀ {ns : List Int}, ns ≠ [] → minI ns ∈ ns
  | [], h => absurd rfl h
  | [x], _ => by simp [minI]
  | x :: y :: r, _ => by
    have ih := minI_mem (ns := y :: r) (by simp)
    rw [minI_cons]
    split
    · exact List.mem_cons_of_mem _ ih
    · exact List.mem_cons_self
theorem minI_le : ∀ {ns : List Int} {y : Int}, y ∈ ns → minI ns ≤ y
  | [x], y, h => by simp at h; subst h; simp [minI]
  | x :: z :: r, y, h => by
    have ih := fun q => minI_le (ns := z :: r) (y := y) q
    rw [minI_cons]
    rcases List.mem_cons.mp h with e | e
    · subst e; split <;> omega
    · have := ih e; split <;> omega
theorem maxI_eq {ns : List Int} {m : Int} (h : m ∈ ns) (q : ∀ y ∈ ns, y ≤ m) : maxI ns = m := by
  have h1 := maxI_le h
  have h2 := q _ (maxI_mem (ns := ns) (by intro e; subst e; cases h))
  omega
theorem minI_eq {ns : List Int} {m : Int} (h : m ∈ ns) (q : ∀ y ∈ ns, m ≤ y) : minI ns = m := by
  have h1 := minI_le h
  have h2 := q _ (minI_mem (ns := ns) (by intro e; subst e; cases h))
  omega
def lenD : FM
  | [.str x], A => if x.length ≤ sizeLine then .ok (.int x.length) A else .bad
  | [d], A => match rdS A d with
    | some xs => .ok (.int xs.length) A
    | none => match rdM A d with
      | some xs => .ok (.int xs.length) A
      | none => .bad
  | _, _ => .bad
def intD : FM
  | [.int i], A => .ok (.int i) A
  | [.bl b], A => .ok (.int (if b then 1 else 0)) A
  | [.str x], A => if x.length ≤ 640 then (match PySem.intText? x with | some n => .ok (.int n) A | none => .bad) else .bad
  | _, _ => .bad
def strD : FM
  | [.int i], A => if i.natAbs.log2 < 1920 then .ok (.str (toString i)) A else .bad
  | [.str x], A => .ok (.str x) A
  | _, _ => .bad
def absD : FM
  | [.int i], A => .ok (.int (if i < 0 then -i else i)) A
  | _, _ => .bad
def maxD : FM
  | [.int i, .int j], A => .ok (.int (if j > i then j else i)) A
  | [d], A => match rdL A d with
    | some xs => match intsOf xs with
      | some (i :: is) => .ok (.int (maxI (i :: is))) A
      | _ => .bad
    | none => .bad
  | _, _ => .bad
def minD : FM
  | [.int i, .int j], A => .ok (.int (if j < i then j else i)) A
  | [d], A => match rdL A d with
    | some xs => match intsOf xs with
      | some (i :: is) => .ok (.int (minI (i :: is))) A
      | _ => .bad
    | none => .bad
  | _, _ => .bad
def sumD : FM
  | [d], A => match rdL A d with
    | some xs => match intsOf xs with
      | some is => .ok (.int is.sum) A
      | _ => .bad
    | none => .bad
  | _, _ => .bad
def anyD : FM
  | [d], A => match rdL A d with
    | some xs => match blsOf xs with
      | some is => .ok (.bl (is.any id)) A
      | _ => .bad
    | none => .bad
  | _, _ => .bad
def allD : FM
  | [d], A => match rdL A d with
    | some xs => match blsOf xs with
      | some is => .ok (.bl (is.all id)) A
      | _ => .bad
    | none => .bad
  | _, _ => .bad
def tupOf : FM
  | [.tup xs], A => .ok (.tup xs) A
  | [d], A => match rdL A d with
    | some xs => .ok (.tup xs) A
    | none => .bad
  | _, _ => .bad
def lstOf : FM
  | [d], A => match rdS A d with
    | some xs => alloc (.lst xs) A
    | none => match rdK A d with
      | some kvs => .bad
      | none => .bad
  | _, _ => .bad
def dicOf : FM
  | [d], A => match rdM A d with
    | some kvs => alloc (.dic kvs) A
    | none => .bad
  | _, _ => .bad
section
variable {X : Cx} {E : XK}
theorem RpL.one_inv {K : PySem.W.Frag} {ρ : List Addr} {H : Hp} {d : D} {xs : List V} (r : RpL K ρ H [d] xs) : ∃ x, xs = [x] ∧ Rp K ρ H d x := by
  obtain ⟨x, r, rfl, h, h2⟩ := r
  exact ⟨x, by rw [show r = [] from h2], h⟩
theorem RpL.two_inv {K : PySem.W.Frag} {ρ : List Addr} {H : Hp} {d e : D} {xs : List V} (r : RpL K ρ H [d, e] xs) : ∃ x y, xs = [x, y] ∧ Rp K ρ H d x ∧ Rp K ρ H e y := by
  obtain ⟨x, r, rfl, h, h2⟩ := r
  obtain ⟨y, rfl, h3⟩ := h2.one_inv
  exact ⟨x, y, rfl, h, h3⟩
theorem acall_len : ACall X E (.builtin "len") lenD := callR_mono ((call_len_seq.or call_len_str).or call_lenD) fun xs H Q h => by
  obtain ⟨ρ, A, ds, R, r, h⟩ := h
  unfold lenD at h
  split at h
  · split at h
    · rename_i z
      obtain ⟨x, rfl, r1⟩ := r.one_inv
      cases r1
      exact .inl (.inr ⟨_, rfl, z, h.now R rfl⟩)
    · exact h.elim
  · obtain ⟨x, rfl, r1⟩ := r.one_inv
    split at h
    · rename_i ys e1
      obtain ⟨a, us, rfl, q1, q2⟩ := rdS_ok R r1 e1
      exact .inl (.inl ⟨a, us, rfl, q1, h.now R (by rw [q2.length]; rfl)⟩)
    · split at h
      · rename_i kvs e1
        obtain ⟨_, a, us, _, rfl, _, _, q1, q2⟩ := rdM_ok R r1 e1
        exact .inr ⟨a, us, rfl, q1, h.now R (by rw [q2.length]; rfl)⟩
      · exact h.elim
  · exact h.elim
theorem acall_int : ACall X E (.type "int") intD := callR_mono (call_int1.or call_int_str) fun xs H Q h => by
  obtain ⟨ρ, A, ds, R, r, h⟩ := h
  unfold intD at h
  split at h
  · obtain ⟨x, rfl, r1⟩ := r.one_inv
    cases r1
    exact .inl (.inl ⟨_, rfl, h.now R rfl⟩)
  · obtain ⟨x, rfl, r1⟩ := r.one_inv
    cases r1
    exact .inl (.inr ⟨_, rfl, h.now R rfl⟩)
  · obtain ⟨x, rfl, r1⟩ := r.one_inv
    cases r1
    split at h
    · rename_i z
      split at h
      · rename_i n e
        exact .inr ⟨_, n, rfl, e, z, h.now R rfl⟩
      · exact h.elim
    · exact h.elim
  · exact h.elim
theorem acall_str : ACall X E (.type "str") strD := callR_mono (call_str_int.or SkE.call_str_str) fun xs H Q h => by
  obtain ⟨ρ, A, ds, R, r, h⟩ := h
  unfold strD at h
  split at h
  · obtain ⟨x, rfl, r1⟩ := r.one_inv
    cases r1
    split at h
    · rename_i z
      exact .inl ⟨_, rfl, z, h.now R rfl⟩
    · exact h.elim
  · obtain ⟨x, rfl, r1⟩ := r.one_inv
    cases r1
    exact .inr ⟨_, rfl, h.now R rfl⟩
  · exact h.elim
theorem acall_abs : ACall X E (.builtin "abs") absD := callR_mono call_abs fun xs H Q h => by
  obtain ⟨ρ, A, ds, R, r, h⟩ := h
  unfold absD at h
  split at h
  · obtain ⟨x, rfl, r1⟩ := r.one_inv
    cases r1
    exact ⟨_, rfl, h.now R rfl⟩
  · exact h.elim
theorem acall_max (hc : X.calm = true) : ACall X E (.builtin "max") maxD := callR_mono ((call_max2 hc).or (cr_max hc)) fun xs H Q h => by
  obtain ⟨ρ, A, ds, R, r, h⟩ := h
  unfold maxD at h
  split at h
  · obtain ⟨x, y, rfl, r1, r2⟩ := r.two_inv
    cases r1; cases r2
    exact .inl ⟨_, _, rfl, h.now R rfl⟩
  · obtain ⟨x, rfl, r1⟩ := r.one_inv
    split at h
    · rename_i ys e1
      obtain ⟨a, us, rfl, q1, q2⟩ := rdL_ok R r1 e1
      split at h
      · rename_i i is e2
        refine .inr ⟨a, i :: is, rfl, by rw [← ints_ok q2 e2]; exact q1, by simp, fun m h1 h2 => h.now R ?_⟩
        rw [maxI_eq h1 h2]; rfl
      · exact h.elim
    · exact h.elim
  · exact h.elim
theorem acall_min (hc : X.calm = true) : ACall X E (.builtin "min") minD := callR_mono ((call_min2 hc).or (cr_min hc)) fun xs H Q h => by
  obtain ⟨ρ, A, ds, R, r, h⟩ := h
  unfold minD at h
  split at h
  · obtain ⟨x, y, rfl, r1, r2⟩ := r.two_inv
    cases r1; cases r2
    exact .inl ⟨_, _, rfl, h.now R rfl⟩
  · obtain ⟨x, rfl, r1⟩ := r.one_inv
    split at h
    · rename_i ys e1
      obtain ⟨a, us, rfl, q1, q2⟩ := rdL_ok R r1 e1
      split at h
      · rename_i i is e2
        refine .inr ⟨a, i :: is, rfl, by rw [← ints_ok q2 e2]; exact q1, by simp, fun m h1 h2 => h.now R ?_⟩
        rw [minI_eq h1 h2]; rfl
      · exact h.elim
    · exact h.elim
  · exact h.elim
theorem acall_sum (hc : X.calm = true) : ACall X E (.builtin "sum") sumD := callR_mono (cr_sum hc) fun xs H Q h => by
  obtain ⟨ρ, A, ds, R, r, h⟩ := h
  unfold sumD at h
  split at h
  · obtain ⟨x, rfl, r1⟩ := r.one_inv
    split at h
    · rename_i ys e1
      obtain ⟨a, us, rfl, q1, q2⟩ := rdL_ok R r1 e1
      split at h
      · rename_i is e2
        exact ⟨a, is, rfl, by rw [← ints_ok q2 e2]; exact q1, h.now R rfl⟩
      · exact h.elim
    · exact h.elim
  · exact h.elim
theorem acall_any (hc : X.calm = true) : ACall X E (.builtin "any") anyD := callR_mono (cr_any hc) fun xs H Q h => by
  obtain ⟨ρ, A, ds, R, r, h⟩ := h
  unfold anyD at h
  split at h
  · obtain ⟨x, rfl, r1⟩ := r.one_inv
    split at h
    · rename_i ys e1
      obtain ⟨a, us, rfl, q1, q2⟩ := rdL_ok R r1 e1
      split at h
      · rename_i is e2
        exact ⟨a, is, rfl, by rw [← bls_ok q2 e2]; exact q1, h.now R rfl⟩
      · exact h.elim
    · exact h.elim
  · exact h.elim
theorem acall_all (hc : X.calm = true) : ACall X E (.builtin "all") allD := callR_mono (cr_all hc) fun xs H Q h => by
  obtain ⟨ρ, A, ds, R, r, h⟩ := h
  unfold allD at h
  split at h
  · obtain ⟨x, rfl, r1⟩ := r.one_inv
    split at h
    · rename_i ys e1
      obtain ⟨a, us, rfl, q1, q2⟩ := rdL_ok R r1 e1
      split at h
      · rename_i is e2
        exact ⟨a, is, rfl, by rw [← bls_ok q2 e2]; exact q1, h.now R rfl⟩
      · exact h.elim
    · exact h.elim
  · exact h.elim
theorem acall_tuple : ACall X E (.type "tuple") tupOf := callR_mono call_tuple_of fun xs H Q h => by
  obtain ⟨ρ, A, ds, R, r, h⟩ := h
  unfold tupOf at h
  split at h
  · obtain ⟨x, rfl, r1⟩ := r.one_inv
    obtain ⟨a, us, rfl, q1, q2⟩ := r1
    exact ⟨a, us, rfl, .inr ⟨q1, h.now R ⟨a, us, rfl, q1, q2⟩⟩⟩
  · obtain ⟨x, rfl, r1⟩ := r.one_inv
    split at h
    · rename_i ys e1
      obtain ⟨a, us, rfl, q1, q2⟩ := rdL_ok R r1 e1
      exact ⟨a, us, rfl, .inl ⟨q1, new_tup R q2 h⟩⟩
    · exact h.elim
  · exact h.elim
theorem acall_list : ACall X E (.type "list") lstOf := callR_mono call_list_of fun xs H Q h => by
  obtain ⟨ρ, A, ds, R, r, h⟩ := h
  unfold lstOf at h
  split at h
  · obtain ⟨x, rfl, r1⟩ := r.one_inv
    split at h
    · rename_i ys e1
      obtain ⟨a, us, rfl, q1, q2⟩ := rdS_ok R r1 e1
      exact ⟨a, us, rfl, q1, new_lst R q2 h⟩
    · split at h <;> exact h.elim
  · exact h.elim
theorem acall_dict : ACall X E (.type "dict") dicOf := callR_mono call_dictD fun xs H Q h => by
  obtain ⟨ρ, A, ds, R, r, h⟩ := h
  unfold dicOf at h
  split at h
  · obtain ⟨x, rfl, r1⟩ := r.one_inv
    split at h
    · rename_i ys e1
      obtain ⟨_, a, us, _, rfl, _, _, q1, q2⟩ := rdM_ok R r1 e1
      exact ⟨a, us, rfl, .inl q1, new_dic R q2 h⟩
    · exact h.elim
  · exact h.elim
end
end Ab

namespace Ab
open PySem PySem.Spec PyProof.Rows L2
open scoped Classical

/-! ## targets -/
abbrev FG := D → ASt → AH → Res ASt
def OutG (K : PySem.W.Frag) (E : XK) (ρ : List Addr) (H : Hp) (r : Res ASt) (Q : L2.St → Hp → Prop) : Prop := match r with
  | .ok s A' => ∀ ρ' H' σ', Ext K ρ H ρ' H' → Rel K ρ' H' A' → SRel K ρ' H' s σ' → Q σ' H'
  | .exc C fs A' => ∀ ρ' H' dx us, Ext K ρ H ρ' H' → Rel K ρ' H' A' → H' dx = some (.xd us) → RpK K ρ' H' fs us → E (.ref C) (some dx) H'
  | .bad => False
theorem OutG.ext {K : PySem.W.Frag} {E : XK} {ρ0 ρ : List Addr} {H0 H : Hp} {r : Res ASt} {G : L2.St → Hp → Prop} (h : OutG K E ρ0 H0 r G) (e : Ext K ρ0 H0 ρ H) : OutG K E ρ H r G := by
  cases r with
  | bad => exact h
  | exc C fs A => exact fun ρ' H' dx us e2 => h ρ' H' dx us (e.trans e2)
  | ok c A => exact fun ρ' H' w e2 => h ρ' H' w (e.trans e2)
theorem Out.bindG {K : PySem.W.Frag} {E : XK} {α β : Type} {R1 : List Addr → Hp → α → β → Prop} {ρ : List Addr} {H : Hp} {r : Res α} {k : α → AH → Res ASt} {G : L2.St → Hp → Prop} (h : OutG K E ρ H (r.bind k) G) :
    Out K E R1 ρ H r (fun v H1 => ∃ ρ1 a A1, r = .ok a A1 ∧ Ext K ρ H ρ1 H1 ∧ Rel K ρ1 H1 A1 ∧ R1 ρ1 H1 a v ∧ OutG K E ρ1 H1 (k a A1) G) := by
  cases r with
  | bad => exact h
  | exc C fs A => exact h
  | ok a A => exact fun ρ1 H1 v e1 r1 q1 => ⟨ρ1, a, A, rfl, e1, r1, q1, OutG.ext h e1⟩
theorem OutG.bindG {K : PySem.W.Frag} {E : XK} {ρ : List Addr} {H : Hp} {r : Res ASt} {k : ASt → AH → Res ASt} {G : L2.St → Hp → Prop} (h : OutG K E ρ H (r.bind k) G) :
    OutG K E ρ H r (fun σ H1 => ∃ ρ1 s A1, r = .ok s A1 ∧ Ext K ρ H ρ1 H1 ∧ Rel K ρ1 H1 A1 ∧ SRel K ρ1 H1 s σ ∧ OutG K E ρ1 H1 (k s A1) G) := by
  cases r with
  | bad => exact h
  | exc C fs A => exact h
  | ok a A => exact fun ρ1 H1 v e1 r1 q1 => ⟨ρ1, a, A, rfl, e1, r1, q1, OutG.ext h e1⟩
theorem OutG.bindS {K : PySem.W.Frag} {E : XK} {ρ : List Addr} {H : Hp} {r : Res ASt} {k : ASt → AH → Res Fl} {G : Ends} (h : SOut K E ρ H (r.bind k) G) :
    OutG K E ρ H r (fun σ H1 => ∃ ρ1 s A1, r = .ok s A1 ∧ Ext K ρ H ρ1 H1 ∧ Rel K ρ1 H1 A1 ∧ SRel K ρ1 H1 s σ ∧ SOut K E ρ1 H1 (k s A1) G) := by
  cases r with
  | bad => exact h
  | exc C fs A => exact h
  | ok a A => exact fun ρ1 H1 v e1 r1 q1 => ⟨ρ1, a, A, rfl, e1, r1, q1, SOut.ext h e1⟩
theorem OutG.mono {K : PySem.W.Frag} {E : XK} {ρ : List Addr} {H : Hp} {r : Res ASt} {Q Q' : L2.St → Hp → Prop} (h : OutG K E ρ H r Q) (q : ∀ v H', Q v H' → Q' v H') : OutG K E ρ H r Q' := by
  cases r with
  | bad => exact h
  | exc C fs A => exact h
  | ok c A => exact fun ρ' H' w e r1 q1 => q _ _ (h ρ' H' w e r1 q1)
def tAG (K : PySem.W.Frag) (E : XK) (g : FG) : TG := fun v σ H Q => ∃ ρ s A d, SRel K ρ H s σ ∧ Rel K ρ H A ∧ Rp K ρ H d v ∧ OutG K E ρ H (g d s A) Q
abbrev AG (X : Cx) (E : XK) (tg : Expr) (g : FG) : Prop := PG X tg (tAG X.K E g)
theorem pg_mono {X : Cx} {e : Expr} {t u : TG} (h : PG X e t) (m : ∀ v σ H Q, u v σ H Q → t v σ H Q) : PG X e u := ⟨fun pins s σ H v w Q I r q => h.run pins s σ H v w Q I r (m _ _ _ _ q)⟩
def gN (i : Nat) : FG := fun d s A => .ok (s.set i (some d)) A
section
variable {X : Cx} {E : XK} {pos : Pos}
theorem ag_name {i : Nat} {x : Str} (hN : X.N.Nodup) (hi : X.N[i]? = some x := by rfl) (hx : Loc X.env.scope x := by first | exact Or.inl rfl | exact Or.inr rfl) (hf : X.fn x = true ∨ X.env.scope.names.lookup x = some .local := by first | exact .inl rfl | exact .inr rfl | assumption) : AG X E (.Name x pos) (gN i) :=
  pg_mono (pg_name hN hi hx hf) fun v σ H Q h => by
    obtain ⟨ρ, s, A, d, hs, R, r, h⟩ := h
    exact h ρ H _ .refl R (hs.set i r)
/-- targets one behind the other -/
abbrev FGs := List D → ASt → AH → Res ASt
def tAGs (K : PySem.W.Frag) (E : XK) (g : FGs) : TGs := fun vs σ H Q => ∃ ρ s A ds, SRel K ρ H s σ ∧ Rel K ρ H A ∧ RpL K ρ H ds vs ∧ OutG K E ρ H (g ds s A) Q
abbrev AGs (X : Cx) (E : XK) (tg : List Expr) (g : FGs) : Prop := PGs X tg (tAGs X.K E g)
def gNl : FGs := fun ds s A => match ds with
  | [] => .ok s A
  | _ => .bad
def gCs (g : FG) (gs : FGs) : FGs := fun ds s A => match ds with
  | d :: r => (g d s A).bind fun s1 A1 => gs r s1 A1
  | _ => .bad
theorem pgs_mono {X : Cx} {e : List Expr} {t u : TGs} (h : PGs X e t) (m : ∀ v σ H Q, u v σ H Q → t v σ H Q) : PGs X e u := ⟨fun pins s σ H v w Q I r q => h.run pins s σ H v w Q I r (m _ _ _ _ q)⟩
theorem ags_nil : AGs X E [] gNl := pgs_mono pgs_nil fun v σ H Q h => by
  obtain ⟨ρ, s, A, ds, hs, R, r, h⟩ := h
  unfold gNl at h
  split at h
  · exact ⟨r, h ρ H _ .refl R hs⟩
  · exact h.elim
theorem ags_cons {e : Expr} {es : List Expr} {g : FG} {gs : FGs} (h1 : AG X E e g) (h2 : AGs X E es gs) (hs : (assignEach (e :: es) X.env).map (·.2) = assign e X.env :: (assignEach es X.env).map (·.2) := by rfl) : AGs X E (e :: es) (gCs g gs) :=
  pgs_mono (pgs_cons h1 h2 hs) fun v σ H Q h => by
    obtain ⟨ρ, s, A, ds, hs, R, r, h⟩ := h
    unfold gCs at h
    split at h
    · rename_i d ds'
      obtain ⟨x, xs, rfl, r1, r2⟩ := r
      exact ⟨x, xs, rfl, ρ, s, A, d, hs, R, r1, (OutG.bindG h).mono fun σ1 H1 ⟨ρ1, s1, A1, _, e1, R1, hs1, h1⟩ => ⟨ρ1, s1, A1, ds', hs1, R1, r2.ext e1, h1⟩⟩
    · exact h.elim
def gTp (n : Nat) (gs : FGs) : FG := fun d s A => match d with
  | .tup ds => if ds.length = n then gs ds s A else .bad
  | _ => .bad
theorem ag_tup {es : List Expr} {k : Nat} {gs : FGs} {n : Nat} (hc : X.calm = true) (h : AGs X E es gs) (hn : (assignEach es X.env).length = n := by rfl) (hst : (assignEach es X.env).findIdx? (·.1) = none := by rfl) : AG X E (.Tuple es k pos) (gTp n gs) :=
  pg_mono (pg_tup hc h hn hst) fun v σ H Q h => by
    obtain ⟨ρ, s, A, d, hs, R, r, h⟩ := h
    unfold gTp at h
    split at h
    · split at h
      · rename_i ds z
        obtain ⟨a, xs, rfl, q1, q2⟩ := r
        exact ⟨a, xs, rfl, q1, by rw [q2.length]; exact z, ρ, s, A, ds, hs, R, q2, h⟩
      · exact h.elim
    · exact h.elim
/-- o[i] = v -/
def stD (o i v : D) (A : AH) : Res Unit := match o with
  | .ref n => match A[n]? with
    | some (.lst xs) => match i with
      | .int k => match ixN xs.length k with
        | some j => .ok () (A.set n (.lst (xs.set j v)))
        | none => .bad
      | _ => .bad
    | some (.dic kvs) => match keyOf i with
      | some k => if kvs.length < sizeLine then .ok () (A.set n (.dic (setK kvs k v))) else .bad
      | none => .bad
    | _ => .bad
  | _ => .bad
def gSb (fo fi : FE) : FG := fun d s A => (fo s A).bind fun o A1 => (fi s A1).bind fun i A2 => (stD o i d A2).bind fun _ A3 => .ok s A3
theorem upd_lst {K : PySem.W.Frag} {ρ : List Addr} {H : Hp} {A : AH} {n : Nat} {a : Addr} {xs : List V} {ys : List V} {ds es : List D} (R : Rel K ρ H A) (ha : ρ[n]? = some a) (hA : A[n]? = some (.lst ds)) (hH : H a = some (.lst xs)) (r : RpL K ρ H es ys) :
    Ext K ρ H ρ (upd H a (.lst ys)) ∧ Rel K ρ (upd H a (.lst ys)) (A.set n (.lst es)) := by
  have e : Ext K ρ H ρ (upd H a (.lst ys)) := Ext.mut hH trivial
  exact ⟨e, R.upd ha hA rfl hH trivial ⟨ys, upd_same, r.ext e⟩ rfl⟩
theorem upd_dic {K : PySem.W.Frag} {ρ : List Addr} {H : Hp} {A : AH} {n : Nat} {a : Addr} {xs ys : List (Key × V)} {ds es : List (Key × D)} (R : Rel K ρ H A) (ha : ρ[n]? = some a) (hA : A[n]? = some (.dic ds)) (hH : H a = some (.dK xs)) (r : RpK K ρ H es ys) :
    Ext K ρ H ρ (upd H a (.dK ys)) ∧ Rel K ρ (upd H a (.dK ys)) (A.set n (.dic es)) := by
  have e : Ext K ρ H ρ (upd H a (.dK ys)) := Ext.mut hH trivial
  exact ⟨e, R.upd ha hA rfl hH trivial ⟨ys, upd_same, r.ext e⟩ rfl⟩
theorem set_or {t u : TSet} (h : PSet X t) (h' : PSet X u) : PSet X (fun o i v H Q => t o i v H Q ∨ u o i v H Q) := fun pins s σ H o i v ov iv w Q I r1 r2 r3 q => by
  rcases q with q | q
  · exact h pins s σ H o i v ov iv w Q I r1 r2 r3 q
  · exact h' pins s σ H o i v ov iv w Q I r1 r2 r3 q
theorem ag_sub {o i : Expr} {fo fi : FE} (hu : X.A.units + 1 < cLine) (ho : AE X E o fo) (hi : AE X E i fi)
    (ha : ∀ v, assign (.Subscript o i pos) X.env v = (do
      let ov ← holding [v] (eval o X.env)
      let iv ← holding [v, ov] (eval i X.env)
      standAt pos
      holding [v, ov, iv] (setItem ov iv v)
      release [v, ov, iv] []) := by intro _; rfl) : AG X E (.Subscript o i pos) (gSb fo fi) := pg_mono (pg_sub ho hi (set_or set_list (set_dict hu)) ha) fun v σ H Q h => by
  obtain ⟨ρ, s, A, d, hs, R, r, h⟩ := h
  refine ⟨ρ, s, A, hs, R, (Out.bindG h).mono fun x H1 ⟨ρ1, d1, A1, _, e1, R1, r1, h1⟩ => ⟨ρ1, s, A1, hs.ext e1, R1, (Out.bindG h1).mono fun y H2 ⟨ρ2, d2, A2, _, e2, R2, r2, h2⟩ => ?_⟩⟩
  have r1 := r1.ext e2
  have r := r.ext (e1.trans e2)
  have hs := hs.ext (e1.trans e2)
  unfold stD at h2
  split at h2
  · rename_i n
    obtain ⟨a, ha, rfl⟩ := r1
    split at h2
    · rename_i xs e3
      obtain ⟨a', ha', us, q1, q2⟩ := R2.ob _ _ e3
      rw [ha] at ha'; cases ha'
      split at h2
      · rename_i k _
        split at h2
        · rename_i j e4
          cases r2
          have u := upd_lst (ds := xs) R2 ha e3 q1 (q2.set j r)
          exact .inl ⟨a, us, k, j, rfl, rfl, q1, by rw [q2.length]; exact e4, h2 ρ2 _ σ u.1 u.2 (hs.ext u.1)⟩
        · exact h2.elim
      · exact h2.elim
    · rename_i kvs e3
      obtain ⟨a', ha', us, q1, q2⟩ := R2.ob _ _ e3
      rw [ha] at ha'; cases ha'
      split at h2
      · rename_i k e4
        split at h2
        · rename_i z
          have u := upd_dic R2 ha e3 q1 (setK_ok (k := k) q2 r)
          exact .inr ⟨a, _, rfl, .inl ⟨us, k, q1, keyOf_ok r2 e4, by rw [q2.length]; exact z, rfl⟩, h2 ρ2 _ σ u.1 u.2 (hs.ext u.1)⟩
        · exact h2.elim
      · exact h2.elim
    · exact h2.elim
  · exact h2.elim
end

/-! ## statements -/
def fSet (f : FE) (i : Nat) : FS := fun s A => (f s A).bind fun d A1 => .ok (.nx (s.set i (some d))) A1
def fAsg (f : FE) (g : FG) : FS := fun s A => (f s A).bind fun d A1 => (g d s A1).bind fun s' A2 => .ok (.nx s') A2
def fRet (f : FE) : FS := fun s A => (f s A).bind fun d A1 => .ok (.rt d) A1
def fRetN : FS := fun _ A => .ok (.rt .non) A
def fEx (f : FE) : FS := fun s A => (f s A).bind fun _ A1 => .ok (.nx s) A1
def fPass : FS := fun s A => .ok (.nx s) A
def fBrk : FS := fun s A => .ok (.bk s) A
def fCont : FS := fun s A => .ok (.ct s) A
def fIfS (c : FT) (f g : FS) : FS := fun s A => (c s A).bind fun b A1 => if b = true then f s A1 else g s A1
def fSeq (f g : FS) : FS := fun s A => match f s A with
  | .ok (.nx s1) A1 => g s1 A1
  | r => r
def fAug (i : Nat) (f : FE) (go : D → D → AH → Res D) : FS := fun s A => match s[i]? with
  | some (some x) => (f s A).bind fun y A1 => (go x y A1).bind fun z A2 => .ok (.nx (s.set i (some z))) A2
  | _ => .bad
section
variable {X : Cx} {E : XK} {e : Expr} {st : Stmt} {rest : List Stmt} {f : FE} {p q : FS} {c : FT} {pos pos' : Pos}
theorem as_set {i : Nat} {x : Str} (hN : X.N.Nodup) (he : AE X E e f) (hi : X.N[i]? = some x := by rfl) (hx : Loc X.env.scope x := by first | exact Or.inl rfl | exact Or.inr rfl) (hs : swapsWith e (some (.Name x pos')) pos.line X.env = pure false := by rfl) (hf : X.fn x = true ∨ X.env.scope.names.lookup x = some .local := by first | exact .inl rfl | exact .inr rfl | assumption) :
    AS X E (.Assign [.Name x pos'] e pos) (fSet f i) := ps_mono (ps_set hN hi hx he hs hf) fun G σ H h => by
  obtain ⟨ρ, s, A, hs, R, h⟩ := h
  exact ⟨ρ, s, A, hs, R, (Out.bindS h).mono fun x H1 ⟨ρ1, d, A1, _, e1, R1, r1, h1⟩ => h1 ρ1 H1 _ .refl R1 ((hs.ext e1).set i r1)⟩
theorem as_asg {tg : Expr} {g : FG} (he : AE X E e f) (hg : AG X E tg g) (hs : swapsWithSole [tg] e pos.line X.env = pure false := by rfl) (hw : swappedStores [tg] e X.env = pure none := by rfl)
    (h1 : (assignEach [tg] X.env).map (·.2) = [assign tg X.env] := by rfl) : AS X E (.Assign [tg] e pos) (fAsg f g) := ps_mono (ps_asg he hg hs hw h1) fun G σ H h => by
  obtain ⟨ρ, s, A, hs, R, h⟩ := h
  exact ⟨ρ, s, A, hs, R, (Out.bindS h).mono fun x H1 ⟨ρ1, d, A1, _, e1, R1, r1, h1⟩ => ⟨ρ1, s, A1, d, hs.ext e1, R1, r1, (OutG.bindS h1).mono fun σ2 H2 ⟨ρ2, s2, A2, _, e2, R2, hs2, h2⟩ => h2 ρ2 H2 σ2 .refl R2 hs2⟩⟩
theorem as_ret (he : AE X E e f) : AS X E (.Return (some e) pos) (fRet f) := ps_mono (ps_ret he) fun G σ H h => by
  obtain ⟨ρ, s, A, hs, R, h⟩ := h
  exact ⟨ρ, s, A, hs, R, (Out.bindS h).mono fun x H1 ⟨ρ1, d, A1, _, e1, R1, r1, h1⟩ => h1 ρ1 H1 x .refl R1 r1⟩
theorem as_retN : AS X E (.Return none pos) fRetN := ps_mono ps_retN fun G σ H h => by
  obtain ⟨ρ, s, A, hs, R, h⟩ := h
  exact h ρ H .non .refl R rfl
theorem as_ex (he : AE X E e f) (hs : swapsWith e none pos.line X.env = pure false := by rfl) : AS X E (.Expr e pos) (fEx f) := ps_mono (ps_expr he hs) fun G σ H h => by
  obtain ⟨ρ, s, A, hs, R, h⟩ := h
  exact ⟨ρ, s, A, hs, R, (Out.bindS h).mono fun x H1 ⟨ρ1, d, A1, _, e1, R1, r1, h1⟩ => h1 ρ1 H1 σ .refl R1 (hs.ext e1)⟩
theorem as_pass : AS X E (.Pass pos) fPass := ps_mono ps_pass fun G σ H h => by
  obtain ⟨ρ, s, A, hs, R, h⟩ := h
  exact h ρ H σ .refl R hs
theorem as_brk : AS X E (.Break pos) fBrk := ps_mono ps_break fun G σ H h => by
  obtain ⟨ρ, s, A, hs, R, h⟩ := h
  exact h ρ H σ .refl R hs
theorem as_cont : AS X E (.Continue pos) fCont := ps_mono ps_continue fun G σ H h => by
  obtain ⟨ρ, s, A, hs, R, h⟩ := h
  exact h ρ H σ .refl R hs
theorem as_if {u : Expr} {a b : List Stmt} (hc : AT X E u c) (ha : ASs X E a p) (hb : ASs X E b q) : AS X E (.If u a b pos) (fIfS c p q) := ps_mono (ps_if hc ha hb) fun G σ H h => by
  obtain ⟨ρ, s, A, hs, R, h⟩ := h
  refine ⟨ρ, s, A, hs, R, (Out.bindS h).mono fun x H1 ⟨ρ1, d, A1, _, e1, R1, r1, h1⟩ => ?_⟩
  cases r1
  cases x with
  | true => exact ⟨ρ1, s, A1, hs.ext e1, R1, h1⟩
  | false => exact ⟨ρ1, s, A1, hs.ext e1, R1, h1⟩
theorem ass_nil : ASs X E [] fPass := pss_mono pss_nil fun G σ H h => by
  obtain ⟨ρ, s, A, hs, R, h⟩ := h
  exact h ρ H σ .refl R hs
theorem ass_one (h : AS X E st p) : ASs X E [st] p := pss_one h
theorem ass_cons (h : AS X E st p) (h' : ASs X E rest q) : ASs X E (st :: rest) (fSeq p q) := pss_mono (pss_cons h h') fun G σ H h => by
  obtain ⟨ρ, s, A, hs, R, h⟩ := h
  refine ⟨ρ, s, A, hs, R, ?_⟩
  unfold fSeq at h
  cases e : p s A with
  | bad => rw [e] at h; exact h
  | exc C fs A1 => rw [e] at h; exact h
  | ok fl A1 =>
    rw [e] at h
    cases fl with
    | nx s1 => exact fun ρ1 H1 σ1 e1 R1 hs1 => ⟨ρ1, s1, A1, hs1, R1, SOut.ext h e1⟩
    | rt d => exact h
    | bk s1 => exact h
    | ct s1 => exact h
/-- x op= e at a name -/
def rIp (K : PySem.W.Frag) (E : XK) (g : D → D → AH → Res D) : TIp := rA K E g
theorem as_aug {i : Nat} {x : Str} {op : Operator} {go : D → D → AH → Res D} (hN : X.N.Nodup) (ho : PIp X op (rIp X.K E go)) (he : AE X E e f) (hi : X.N[i]? = some x := by rfl) (hx : Loc X.env.scope x := by first | exact Or.inl rfl | exact Or.inr rfl) (hf : X.fn x = true ∨ X.env.scope.names.lookup x = some .local := by first | exact .inl rfl | exact .inr rfl | assumption) :
    AS X E (.AugAssign (.Name x pos') op e pos) (fAug i f go) := ps_mono (ps_aug hN hi hx he ho hf) fun G σ H h => by
  obtain ⟨ρ, s, A, hs, R, h⟩ := h
  unfold fAug at h
  split at h
  · rename_i d0 e0
    obtain ⟨v, h1, h2⟩ := hs.at_ i d0 e0
    exact ⟨v, h1, ρ, s, A, hs, R, (Out.bindS h).mono fun y H1 ⟨ρ1, d, A1, _, e1, R1, r1, h1⟩ => ⟨ρ1, A1, d0, d, R1, h2.ext e1, r1, (Out.bindS h1).mono fun z H2 ⟨ρ2, d2, A2, _, e2, R2, r2, h2⟩ => h2 ρ2 H2 _ .refl R2 ((hs.ext (e1.trans e2)).set i r2)⟩⟩
  · exact h.elim
def augAddD : D → D → AH → Res D
  | .int i, .int j, A => .ok (.int (i + j)) A
  | .str x, .str y, A => if x.length + y.length ≤ sizeLine then .ok (.str (x ++ y)) A else .bad
  | _, _, _ => .bad
theorem ip_addA : PIp X .Add (rIp X.K E augAddD) := fun pins s σ H x y v u Q I rx ry h => by
  obtain ⟨ρ, A, d, e, R, r1, r2, h⟩ := h
  unfold augAddD at h
  split at h
  · cases r1; cases r2
    exact iop_add pins s σ H _ _ v u Q I rx ry ⟨_, _, rfl, rfl, h.now R rfl⟩
  · split at h
    · rename_i z
      cases r1; cases r2
      exact iop_add_str pins s σ H _ _ v u Q I rx ry ⟨_, _, rfl, rfl, z, h.now R rfl⟩
    · exact h.elim
  · exact h.elim
theorem ip_subA : PIp X .Sub (rIp X.K E subD) := fun pins s σ H x y v u Q I rx ry h => by
  obtain ⟨ρ, A, d, e, R, r1, r2, h⟩ := h
  unfold subD at h
  split at h
  · cases r1; cases r2
    exact iop_sub pins s σ H _ _ v u Q I rx ry ⟨_, _, rfl, rfl, h.now R rfl⟩
  · exact h.elim
end

/-! ## what is walked -/
/-- the items, and what must hold of the cells at every turn -/
structure Src where
  items : List D
  ok : AH → Prop
abbrev FI := ASt → AH → Res Src
/-- the walker J yields these items -/
def ItRel (K : PySem.W.Frag) (J : It) (ρ0 : List Addr) (H0 : Hp) (S : Src) : Prop := ∀ (i : Nat) ρ H A, Ext K ρ0 H0 ρ H → Rel K ρ H A → S.ok A →
  (∀ d, S.items[i]? = some d → J.go i H ∧ ∀ x H', J.yld i H x H' → Ext K ρ H ρ H' ∧ Rel K ρ H' A ∧ Rp K ρ H' d x) ∧ (S.items.length ≤ i → S.items.length = i → J.stop i H)
def OutI (K : PySem.W.Frag) (E : XK) (ρ : List Addr) (H : Hp) (r : Res Src) (Q : It → Hp → Prop) : Prop := match r with
  | .ok S A' => ∀ ρ' H' J, Ext K ρ H ρ' H' → Rel K ρ' H' A' → ItRel K J ρ' H' S → Q J H'
  | .exc C fs A' => ∀ ρ' H' dx us, Ext K ρ H ρ' H' → Rel K ρ' H' A' → H' dx = some (.xd us) → RpK K ρ' H' fs us → E (.ref C) (some dx) H'
  | .bad => False
theorem OutI.ext {K : PySem.W.Frag} {E : XK} {ρ0 ρ : List Addr} {H0 H : Hp} {r : Res Src} {G : It → Hp → Prop} (h : OutI K E ρ0 H0 r G) (e : Ext K ρ0 H0 ρ H) : OutI K E ρ H r G := by
  cases r with
  | bad => exact h
  | exc C fs A => exact fun ρ' H' dx us e2 => h ρ' H' dx us (e.trans e2)
  | ok c A => exact fun ρ' H' w e2 => h ρ' H' w (e.trans e2)
theorem Out.bindI {K : PySem.W.Frag} {E : XK} {α β : Type} {R1 : List Addr → Hp → α → β → Prop} {ρ : List Addr} {H : Hp} {r : Res α} {k : α → AH → Res Src} {G : It → Hp → Prop} (h : OutI K E ρ H (r.bind k) G) :
    Out K E R1 ρ H r (fun v H1 => ∃ ρ1 a A1, r = .ok a A1 ∧ Ext K ρ H ρ1 H1 ∧ Rel K ρ1 H1 A1 ∧ R1 ρ1 H1 a v ∧ OutI K E ρ1 H1 (k a A1) G) := by
  cases r with
  | bad => exact h
  | exc C fs A => exact h
  | ok a A => exact fun ρ1 H1 v e1 r1 q1 => ⟨ρ1, a, A, rfl, e1, r1, q1, OutI.ext h e1⟩
theorem OutI.bindS {K : PySem.W.Frag} {E : XK} {ρ : List Addr} {H : Hp} {r : Res Src} {k : Src → AH → Res Fl} {G : Ends} (h : SOut K E ρ H (r.bind k) G) :
    OutI K E ρ H r (fun J H1 => ∃ ρ1 S A1, r = .ok S A1 ∧ Ext K ρ H ρ1 H1 ∧ Rel K ρ1 H1 A1 ∧ ItRel K J ρ1 H1 S ∧ SOut K E ρ1 H1 (k S A1) G) := by
  cases r with
  | bad => exact h
  | exc C fs A => exact h
  | ok a A => exact fun ρ1 H1 v e1 r1 q1 => ⟨ρ1, a, A, rfl, e1, r1, q1, SOut.ext h e1⟩
theorem OutI.bindO {K : PySem.W.Frag} {E : XK} {α β : Type} {R1 : List Addr → Hp → α → β → Prop} {ρ : List Addr} {H : Hp} {r : Res Src} {k : Src → AH → Res α} {Q : β → Hp → Prop} (h : Out K E R1 ρ H (r.bind k) Q) :
    OutI K E ρ H r (fun J H1 => ∃ ρ1 S A1, r = .ok S A1 ∧ Ext K ρ H ρ1 H1 ∧ Rel K ρ1 H1 A1 ∧ ItRel K J ρ1 H1 S ∧ Out K E R1 ρ1 H1 (k S A1) Q) := by
  cases r with
  | bad => exact h
  | exc C fs A => exact h
  | ok a A => exact fun ρ1 H1 v e1 r1 q1 => ⟨ρ1, a, A, rfl, e1, r1, q1, Out.ext h e1⟩
theorem OutI.mono {K : PySem.W.Frag} {E : XK} {ρ : List Addr} {H : Hp} {r : Res Src} {Q Q' : It → Hp → Prop} (h : OutI K E ρ H r Q) (q : ∀ v H', Q v H' → Q' v H') : OutI K E ρ H r Q' := by
  cases r with
  | bad => exact h
  | exc C fs A => exact h
  | ok c A => exact fun ρ' H' w e r1 q1 => q _ _ (h ρ' H' w e r1 q1)
def tAI (K : PySem.W.Frag) (E : XK) (f : FI) : TI := fun σ H R => ∃ ρ s A, SRel K ρ H s σ ∧ Rel K ρ H A ∧ OutI K E ρ H (f s A) R
abbrev AI (X : Cx) (E : XK) (tg it : Expr) (f : FI) : Prop := PI X tg it (tAI X.K E f)
theorem pi_mono {X : Cx} {tg it : Expr} {t u : TI} (h : PI X tg it t) (m : ∀ σ H Q, u σ H Q → t σ H Q) : PI X tg it u := ⟨fun pins s σ H R I q => h.run pins s σ H R I (m _ _ _ q)⟩
def yes : AH → Prop := fun _ => True
def iSeq (d : D) (A : AH) : Res Src := match d with
  | .tup ds => .ok ⟨ds, yes⟩ A
  | .str x => .ok ⟨x.cps.toList.map fun c => .str ⟨#[c]⟩, yes⟩ A
  | d => match rdL A d with
    | some ds => .ok ⟨ds, fun A' => rdL A' d = some ds⟩ A
    | none => .bad
def fItS (f : FE) : FI := fun s A => (f s A).bind iSeq
def rngL (lo : Int) (n : Nat) : List D := (List.range n).map fun k => .int (lo + (k : Nat))
/-- an end of a range -/
structure InRg (j : Int) : Prop where
  lo : -(2 ^ 62) ≤ j
  hi : j < 2 ^ 62
noncomputable def fRg1 (f : FE) : FI := fun s A => (f s A).bind fun d A1 => match d with
  | .int j => if InRg j then .ok ⟨rngL 0 j.toNat, yes⟩ A1 else .bad
  | _ => .bad
noncomputable def fRg2 (f g : FE) : FI := fun s A => (f s A).bind fun d A1 => (g s A1).bind fun e A2 => match d, e with
  | .int i, .int j => if InRg i ∧ InRg j then .ok ⟨rngL i (j - i).toNat, yes⟩ A2 else .bad
  | _, _ => .bad
def enumL (k : Nat) : List D → List D
  | [] => []
  | d :: ds => .tup [.int k, d] :: enumL (k + 1) ds
def fEnum (f : FE) : FI := fun s A => (f s A).bind fun d A1 => match rdL A1 d with
  | some ds => .ok ⟨enumL 0 ds, fun A' => rdL A' d = some ds⟩ A1
  | none => .bad
def zipD : List D → List D → List D
  | a :: as, b :: bs => .tup [a, b] :: zipD as bs
  | _, _ => []
section
variable {K : PySem.W.Frag} {ρ : List Addr} {H : Hp}
theorem itr_rel (lo : Int) (n : Nat) : ItRel K (Itr lo n) ρ H ⟨rngL lo n, yes⟩ := fun i ρ' H' A e R _ => by
  have hl : (rngL lo n).length = n := by simp [rngL]
  refine ⟨fun d hd => ?_, fun h _ => by rw [show (Src.items ⟨rngL lo n, yes⟩).length = n from hl] at h; exact h⟩
  have hd : (rngL lo n)[i]? = some d := hd
  have hi : i < n := by have := (List.getElem?_eq_some_iff.mp hd).1; rwa [hl] at this
  refine ⟨hi, fun x H2 hy => ?_⟩
  obtain ⟨rfl, rfl⟩ := hy
  refine ⟨.refl, R, ?_⟩
  simp [rngL, hi] at hd
  subst hd
  rfl
theorem its_rel (x : Str) : ItRel K (Its x) ρ H ⟨x.cps.toList.map fun c => .str ⟨#[c]⟩, yes⟩ := fun i ρ' H' A e R _ => by
  refine ⟨fun d hd => ?_, fun h _ => by simpa [Its] using h⟩
  have hd : (x.cps.toList.map fun c => D.str ⟨#[c]⟩)[i]? = some d := hd
  rw [List.getElem?_map] at hd
  cases ec : x.cps.toList[i]? with
  | none => rw [ec] at hd; cases hd
  | some c =>
    rw [ec] at hd
    cases hd
    have hi : i < x.cps.size := by have := (List.getElem?_eq_some_iff.mp ec).1; simpa using this
    refine ⟨hi, fun y H2 hy => ?_⟩
    obtain ⟨rfl, c', h1, rfl⟩ := hy
    refine ⟨.refl, R, ?_⟩
    rw [← Array.getElem?_toList, ec] at h1
    cases h1
    rfl
theorem itt_rel {a : Addr} {xs : List V} {ds : List D} (h : SqT K H a xs) (r : RpL K ρ H ds xs) : ItRel K (Itt K a) ρ H ⟨ds, yes⟩ := fun i ρ' H' A e R _ => by
  have h' := e.gr _ _ h
  have r' := r.ext e
  refine ⟨fun d hd => ?_, fun hl _ => ⟨xs, h', by rw [r'.length]; exact hl⟩⟩
  obtain ⟨v, q1, q2⟩ := r'.get (show ds[i]? = some d from hd)
  refine ⟨⟨xs, v, h', q1⟩, fun x H2 hy => ?_⟩
  obtain ⟨rfl, fv⟩ := hy
  have := fv _ h'
  rw [q1] at this; cases this
  exact ⟨.refl, R, q2⟩
theorem itl_rel {a : Addr} {n : Nat} {ds : List D} (ha : ρ[n]? = some a) : ItRel K (Itl K a) ρ H ⟨ds, fun A => rdL A (.ref n) = some ds⟩ := fun i ρ' H' A e R ok => by
  have ha' := e.at_ ha
  have r0 : Rp K ρ' H' (.ref n) (.ref a) := ⟨a, ha', rfl⟩
  obtain ⟨b, xs, eb, h', r'⟩ := rdL_ok R r0 ok
  cases eb
  refine ⟨fun d hd => ?_, fun hl _ => ⟨xs, h', by rw [r'.length]; exact hl⟩⟩
  obtain ⟨v, q1, q2⟩ := r'.get (show ds[i]? = some d from hd)
  refine ⟨⟨xs, v, h', q1⟩, fun x H2 hy => ?_⟩
  obtain ⟨rfl, fv⟩ := hy
  have := fv _ h'
  rw [q1] at this; cases this
  exact ⟨.refl, R, q2⟩
end
section
variable {X : Cx} {E : XK} {tg e e2 : Expr} {f g : FE} {p pos : Pos}
theorem ai_seq (he : AE X E e f) : AI X E tg e (fItS f) := ⟨fun pins s σ H R I h => by
  obtain ⟨ρ, st, A, hs, Rl, h⟩ := h
  have base : ∀ {Q : VK}, (∀ v H1 ρ1 d A1, f st A = .ok d A1 → Ext X.K ρ H ρ1 H1 → Rel X.K ρ1 H1 A1 → Rp X.K ρ1 H1 d v → OutI X.K E ρ1 H1 (iSeq d A1) R → Q v H1) → tA X.K E f σ H Q := fun {Q} k =>
    ⟨ρ, st, A, hs, Rl, (Out.bindI h).mono fun v H1 ⟨ρ1, d, A1, q0, q1, q2, q3, q4⟩ => k v H1 ρ1 d A1 q0 q1 q2 q3 q4⟩
  cases ef : f st A with
  | bad => unfold fItS at h; rw [ef] at h; exact h.elim
  | exc C fs A1 =>
    refine (pi_tup he).run pins s σ H R I (base fun v H1 ρ1 d A1 q0 _ _ _ _ => ?_)
    rw [ef] at q0; cases q0
  | ok d0 A0 =>
    cases d0 with
    | tup ds =>
      refine (pi_tup he).run pins s σ H R I (base fun v H1 ρ1 d A1 q0 q1 q2 q3 q4 => ?_)
      rw [ef] at q0; cases q0
      obtain ⟨a, xs, rfl, z1, z2⟩ := q3
      exact ⟨a, rfl, ⟨xs, z1⟩, q4 ρ1 H1 _ .refl q2 (itt_rel z1 z2)⟩
    | str x =>
      refine (pi_str he).run pins s σ H R I (base fun v H1 ρ1 d A1 q0 q1 q2 q3 q4 => ?_)
      rw [ef] at q0; cases q0
      cases q3
      exact ⟨x, rfl, q4 ρ1 H1 _ .refl q2 (its_rel x)⟩
    | ref n =>
      refine (pi_list he).run pins s σ H R I (base fun v H1 ρ1 d A1 q0 q1 q2 q3 q4 => ?_)
      rw [ef] at q0; cases q0
      unfold iSeq at q4
      simp only at q4
      split at q4
      · rename_i ds e4
        obtain ⟨a, xs, rfl, z1, z2⟩ := rdL_ok q2 q3 e4
        obtain ⟨b, hb, eb⟩ := q3
        cases eb
        exact ⟨a, rfl, ⟨xs, z1⟩, q4 ρ1 H1 _ .refl q2 (itl_rel hb)⟩
      · exact q4.elim
    | non => exact absurd ((base (Q := fun _ _ => False) fun v H1 ρ1 d A1 q0 q1 q2 q3 q4 => by rw [ef] at q0; cases q0; exact q4)) (fun z => by
        unfold fItS at h; rw [ef] at h; exact h)
    | bl b => unfold fItS at h; rw [ef] at h; exact h.elim
    | int b => unfold fItS at h; rw [ef] at h; exact h.elim⟩
theorem ai_rg1 (hg : Gl X "range") (hm : X.mg "range" = none) (he : AE X E e f) (h1 : starEach [e] X.env = (false, eval e X.env) :: starEach [] X.env := by rfl) : AI X E tg (.Call (.Name "range" p) [e] [] pos) (fRg1 f) := pi_mono (pi_range1 (hs := h1) hg hm (aa_cons he aa_nil h1)) fun σ H Q h => by
  obtain ⟨ρ, s, A, hs, R, h⟩ := h
  have ef : fRg1 f s A = (fCons f fNil s A).bind fun ds A1 => match ds with
      | [.int j] => if InRg j then .ok ⟨rngL 0 j.toNat, yes⟩ A1 else .bad
      | _ => .bad := by
    unfold fRg1 fCons fNil
    cases f s A with
    | bad => rfl
    | exc _ _ _ => rfl
    | ok d A1 => cases d <;> rfl
  rw [ef] at h
  refine ⟨ρ, s, A, hs, R, (Out.bindI h).mono fun xs H1 ⟨ρ1, ds, A1, _, e1, R1, r1, h1⟩ => ?_⟩
  split at h1
  · split at h1
    · rename_i j _ z
      obtain ⟨x, rfl, r2⟩ := r1.one_inv
      cases r2
      exact ⟨j, rfl, z.lo, z.hi, h1 ρ1 H1 _ .refl R1 (itr_rel 0 _)⟩
    · exact h1.elim
  · exact h1.elim
theorem ai_rg2 (hg : Gl X "range") (hm : X.mg "range" = none) (he : AE X E e f) (he2 : AE X E e2 g) (h1 : starEach [e, e2] X.env = (false, eval e X.env) :: starEach [e2] X.env := by rfl) (h2 : starEach [e2] X.env = (false, eval e2 X.env) :: starEach [] X.env := by rfl) :
    AI X E tg (.Call (.Name "range" p) [e, e2] [] pos) (fRg2 f g) := pi_mono (pi_range2 (hs := h1.trans (by rw [h2]; rfl)) (hs2 := h2) hg hm (aa_cons he (aa_cons he2 aa_nil h2) h1)) fun σ H Q h => by
  obtain ⟨ρ, s, A, hs, R, h⟩ := h
  have ef : fRg2 f g s A = (fCons f (fCons g fNil) s A).bind fun ds A1 => match ds with
      | [.int i, .int j] => if InRg i ∧ InRg j then .ok ⟨rngL i (j - i).toNat, yes⟩ A1 else .bad
      | _ => .bad := by
    unfold fRg2 fCons
    cases f s A with
    | bad => rfl
    | exc _ _ _ => rfl
    | ok d A1 =>
      show (g s A1).bind _ = Res.bind (Res.bind (fCons g fNil s A1) _) _
      unfold fCons fNil
      cases g s A1 with
      | bad => rfl
      | exc _ _ _ => rfl
      | ok d' A2 => cases d <;> cases d' <;> rfl
  rw [ef] at h
  refine ⟨ρ, s, A, hs, R, (Out.bindI h).mono fun xs H1 ⟨ρ1, ds, A1, _, e1, R1, r1, h1⟩ => ?_⟩
  split at h1
  · split at h1
    · rename_i i j _ z
      obtain ⟨x, y, rfl, r2, r3⟩ := r1.two_inv
      cases r2; cases r3
      exact ⟨i, j, rfl, ⟨z.1.lo, z.1.hi, z.2.lo, z.2.hi⟩, h1 ρ1 H1 _ .refl R1 (itr_rel i _)⟩
    · exact h1.elim
  · exact h1.elim
end

/-! ## for, while -/
noncomputable def loopD (ok : AH → Prop) (g : FG) (body : FS) : List D → FS
  | [], s, A => if ok A then .ok (.nx s) A else .bad
  | d :: ds, s, A => if ok A then (g d s A).bind fun s1 A1 => (match body s1 A1 with
    | .ok (.nx s2) A2 => loopD ok g body ds s2 A2
    | .ok (.ct s2) A2 => loopD ok g body ds s2 A2
    | .ok (.bk s2) A2 => .ok (.nx s2) A2
    | r => r) else .bad
noncomputable def fFor (src : FI) (g : FG) (body : FS) : FS := fun s A => (src s A).bind fun S A1 => loopD S.ok g body S.items s A1
def loopW (c : FT) (body : FS) : Nat → FS
  | 0, _, _ => .bad
  | n + 1, s, A => (c s A).bind fun b A1 => if b = true then (match body s A1 with
    | .ok (.nx s2) A2 => loopW c body n s2 A2
    | .ok (.ct s2) A2 => loopW c body n s2 A2
    | .ok (.bk s2) A2 => .ok (.nx s2) A2
    | r => r) else .ok (.nx s) A1
section
variable {X : Cx} {E : XK} {tg iter c : Expr} {body : List Stmt} {src : FI} {g : FG} {p : FS} {t : FT} {pos : Pos}
theorem as_for (hp : PassesOwn (model X.prog X.w) X.A X.env X.xe) (hc : X.calm = true) (hi : AI X E tg iter src) (hg : AG X E tg g) (hb : ASs X E body p) (hs : ∀ x, foldedSetIterable iter X.env x = pure x := by intro _; rfl) :
    AS X E (.For tg iter body [] pos) (fFor src g p) := ps_mono (ps_for hp hc hi hg hb hs) fun G σ H h => by
  obtain ⟨ρ, s, A, hs, R, h⟩ := h
  refine ⟨ρ, s, A, hs, R, (OutI.bindS h).mono fun J H1 ⟨ρ1, S, A1, _, e1, R1, J1, h1⟩ => ?_⟩
  refine ⟨fun i m σ' H' => m = S.items.length - i ∧ i ≤ S.items.length ∧ ∃ ρ' s' A', Ext X.K ρ1 H1 ρ' H' ∧ SRel X.K ρ' H' s' σ' ∧ Rel X.K ρ' H' A' ∧ SOut X.K E ρ' H' (loopD S.ok g p (S.items.drop i) s' A') G, ⟨_, rfl, Nat.zero_le _, ρ1, s, A1, .refl, hs.ext e1, R1, by simpa using h1⟩, ?_⟩
  rintro i m σ' H' ⟨rfl, hi, ρ', s', A', e2, hs2, R2, h2⟩
  by_cases hl : i < S.items.length
  · obtain ⟨d, hd⟩ : ∃ d, S.items[i]? = some d := ⟨_, List.getElem?_eq_getElem hl⟩
    have ed : S.items.drop i = d :: S.items.drop (i + 1) := by
      rw [List.drop_eq_getElem_cons hl]
      rw [List.getElem?_eq_getElem hl] at hd
      cases hd; rfl
    rw [ed] at h2
    unfold loopD at h2
    split at h2
    · rename_i ok
      obtain ⟨go, yl⟩ := (J1 i ρ' H' A' e2 R2 ok).1 d hd
      refine .inr ⟨go, fun σ3 H3 => ∃ ρ3 s3 A3, Ext X.K ρ1 H1 ρ3 H3 ∧ SRel X.K ρ3 H3 s3 σ3 ∧ Rel X.K ρ3 H3 A3 ∧ SOut X.K E ρ3 H3 (loopD S.ok g p (S.items.drop (i + 1)) s3 A3) G, fun σ3 H3 h3 => ⟨_, by omega, rfl, hl, h3⟩, fun x H3 hy => ?_⟩
      obtain ⟨e3, R3, r3⟩ := yl x H3 hy
      refine ⟨ρ', s', A', d, hs2.ext e3, R3, r3, (OutG.bindS (h2.ext e3)).mono fun σ4 H4 ⟨ρ4, s4, A4, _, e4, R4, hs4, h4⟩ => ?_⟩
      refine ⟨ρ4, s4, A4, hs4, R4, ?_⟩
      have e5 := e2.trans (e3.trans e4)
      cases eb : p s4 A4 with
      | bad => rw [eb] at h4; exact h4
      | exc C fs A5 => rw [eb] at h4; exact h4
      | ok fl A5 =>
        rw [eb] at h4
        cases fl with
        | nx s5 => exact fun ρ5 H5 σ5 e6 R5 hs5 => ⟨ρ5, s5, A5, e5.trans e6, hs5, R5, h4.ext e6⟩
        | ct s5 => exact fun ρ5 H5 σ5 e6 R5 hs5 => ⟨ρ5, s5, A5, e5.trans e6, hs5, R5, h4.ext e6⟩
        | bk s5 => exact h4
        | rt d => exact h4
    · exact h2.elim
  · have ei : i = S.items.length := by omega
    have ed : S.items.drop i = [] := List.drop_eq_nil_of_le (by omega)
    rw [ed] at h2
    unfold loopD at h2
    split at h2
    · rename_i ok
      exact .inl ⟨(J1 i ρ' H' A' e2 R2 ok).2 (by omega) ei.symm, h2 ρ' H' σ' .refl R2 hs2⟩
    · exact h2.elim
theorem as_while (n : Nat) (hp : PassesOwn (model X.prog X.w) X.A X.env X.xe) (hc : AT X E c t) (hb : ASs X E body p) : AS X E (.While c body [] pos) (loopW t p n) := ps_mono (ps_while hp hc hb) fun G σ H h => by
  obtain ⟨ρ, s, A, hs, R, h⟩ := h
  refine ⟨fun m σ' H' => ∃ ρ' s' A', SRel X.K ρ' H' s' σ' ∧ Rel X.K ρ' H' A' ∧ SOut X.K E ρ' H' (loopW t p m s' A') G, ⟨n, ρ, s, A, hs, R, h⟩, ?_⟩
  rintro m σ' H' ⟨ρ', s', A', hs2, R2, h2⟩
  cases m with
  | zero => exact h2.elim
  | succ m =>
    refine ⟨ρ', s', A', hs2, R2, (Out.bindS h2).mono fun x H3 ⟨ρ3, b, A3, _, e3, R3, r3, h3⟩ => ?_⟩
    cases r3
    cases x with
    | true =>
      rw [if_pos rfl]
      refine ⟨fun σ3 H3 => ∃ ρ3 s3 A3, SRel X.K ρ3 H3 s3 σ3 ∧ Rel X.K ρ3 H3 A3 ∧ SOut X.K E ρ3 H3 (loopW t p m s3 A3) G, fun σ3 H3 h3 => ⟨m, by omega, h3⟩, ?_⟩
      refine ⟨ρ3, s', A3, hs2.ext e3, R3, ?_⟩
      rw [if_pos rfl] at h3
      cases eb : p s' A3 with
      | bad => rw [eb] at h3; exact h3
      | exc C fs A5 => rw [eb] at h3; exact h3
      | ok fl A5 =>
        rw [eb] at h3
        cases fl with
        | nx s5 => exact fun ρ5 H5 σ5 e6 R5 hs5 => ⟨ρ5, s5, A5, hs5, R5, h3.ext e6⟩
        | ct s5 => exact fun ρ5 H5 σ5 e6 R5 hs5 => ⟨ρ5, s5, A5, hs5, R5, h3.ext e6⟩
        | bk s5 => exact h3
        | rt d => exact h3
    | false =>
      rw [if_neg Bool.false_ne_true]
      exact h3 ρ3 H3 σ' .refl R3 (hs2.ext e3)
end
end Ab

namespace Ab
open PySem PySem.Spec PyProof.Rows L2
open scoped Classical

/-! ## list comprehensions: the new list is a cell from the start -/
def wipeA (s : ASt) : List Nat → ASt
  | [] => s
  | v :: vs => (wipeA s vs).set v none
noncomputable def loopC (ok : AH → Prop) (g : FG) (t : FT) (f : FE) (n : Nat) (s : ASt) : List D → AH → Res D
  | [], A => if ok A then .ok (.ref n) A else .bad
  | d :: ds, A => if ok A then (g d s A).bind fun s1 A1 => (t s1 A1).bind fun b A2 => if b = true then (f s1 A2).bind fun y A3 => (match A3[n]? with
      | some (.lst acc) => if acc.length < sizeLine then loopC ok g t f n s ds (A3.set n (.lst (acc ++ [y]))) else .bad
      | _ => .bad) else loopC ok g t f n s ds A2 else .bad
noncomputable def fLc (src : FI) (g : FG) (t : FT) (f : FE) (vs : List Nat) : FE := fun s A => (src s A).bind fun S A1 => loopC S.ok g t f A1.length (wipeA s vs) S.items (A1 ++ [.lst []])
def fYes : FT := fun _ A => .ok true A
section
variable {K : PySem.W.Frag} {E : XK} {ρ : List Addr} {H : Hp} {s : ASt} {σ : L2.St}
theorem SRel.wipes (h : SRel K ρ H s σ) : ∀ vs : List Nat, SRel K ρ H (wipeA s vs) (L2.wipe σ vs)
  | [] => h
  | v :: vs => SRel.wipe (h.wipes vs) v
theorem wipe_set (i : Nat) (x : Option V) : ∀ (vs : List Nat) (σ : L2.St), i ∈ vs → L2.wipe (σ.set i x) vs = L2.wipe σ vs
  | [], σ, h => by cases h
  | v :: vs, σ, h => by
    show (L2.wipe (σ.set i x) vs).set v none = (L2.wipe σ vs).set v none
    by_cases e : i ∈ vs
    · rw [wipe_set i x vs σ e]
    · have ei : i = v := by rcases List.mem_cons.mp h with q | q; exact q; exact absurd q e
      subst ei
      have comm : ∀ (ws : List Nat), i ∉ ws → L2.wipe (σ.set i x) ws = (L2.wipe σ ws).set i x := by
        intro ws
        induction ws with
        | nil => intro _; rfl
        | cons w ws ih =>
          intro hn
          have h1 : i ≠ w := fun z => hn (by rw [z]; exact List.mem_cons_self)
          have h2 : i ∉ ws := fun z => hn (List.mem_cons_of_mem _ z)
          show (L2.wipe (σ.set i x) ws).set w none = ((L2.wipe σ ws).set w none).set i x
          rw [ih h2, List.set_comm _ _ h1]
      rw [comm vs e, List.set_set]
/-- a target whose stores the block forgets again -/
structure Tgt (K : PySem.W.Frag) (vs : List Nat) (t : TG) (g : FG) : Prop where
  det : ∀ d s A, g d s A = .bad ∨ ∃ s1, g d s A = .ok s1 A
  to : ∀ (ρ : List Addr) (H : Hp) (s : ASt) (σ : L2.St) (A : AH) (d : D) (v : V) (s1 : ASt) (Q : L2.St → Hp → Prop), SRel K ρ H s σ → Rp K ρ H d v → g d s A = .ok s1 A → (∀ σ1, SRel K ρ H s1 σ1 → L2.wipe σ1 vs = L2.wipe σ vs → Q σ1 H) → t v σ H Q
structure Tgts (K : PySem.W.Frag) (vs : List Nat) (t : TGs) (g : FGs) : Prop where
  det : ∀ d s A, g d s A = .bad ∨ ∃ s1, g d s A = .ok s1 A
  to : ∀ (ρ : List Addr) (H : Hp) (s : ASt) (σ : L2.St) (A : AH) (d : List D) (v : List V) (s1 : ASt) (Q : L2.St → Hp → Prop), SRel K ρ H s σ → RpL K ρ H d v → g d s A = .ok s1 A → (∀ σ1, SRel K ρ H s1 σ1 → L2.wipe σ1 vs = L2.wipe σ vs → Q σ1 H) → t v σ H Q
theorem tgt_name {vs : List Nat} {i : Nat} (h : i ∈ vs) : Tgt K vs (gName i) (gN i) := ⟨fun d s A => .inr ⟨_, rfl⟩, fun ρ H s σ A d v s1 Q hs r e q => by
  cases e
  exact q _ (hs.set i r) (wipe_set i _ vs σ h)⟩
theorem tgts_nil {vs : List Nat} : Tgts K vs gNil gNl := ⟨fun d s A => by
  cases d with
  | nil => exact .inr ⟨_, rfl⟩
  | cons _ _ => exact .inl rfl, fun ρ H s σ A d v s1 Q hs r e q => by
  cases d with
  | nil => cases e; exact ⟨r, q _ hs rfl⟩
  | cons _ _ => cases e⟩
theorem tgts_cons {vs : List Nat} {i : Nat} {u : TGs} {gs : FGs} (h : i ∈ vs) (h2 : Tgts K vs u gs) : Tgts K vs (gCons (gName i) u) (gCs (gN i) gs) := ⟨fun d s A => by
  cases d with
  | nil => exact .inl rfl
  | cons d ds => exact h2.det ds _ A, fun ρ H s σ A d v s1 Q hs r e q => by
  cases d with
  | nil => cases e
  | cons d ds =>
    obtain ⟨x, xs, rfl, r1, r2⟩ := r
    exact ⟨x, xs, rfl, h2.to ρ H _ _ A ds xs s1 Q (hs.set i r1) r2 e fun σ1 hs1 w => q σ1 hs1 (w.trans (wipe_set i _ vs σ h))⟩⟩
theorem tgt_tup {vs : List Nat} {n : Nat} {u : TGs} {gs : FGs} (h : Tgts K vs u gs) : Tgt K vs (gTup K n u) (gTp n gs) := ⟨fun d s A => by
  cases d with
  | tup ds =>
    show (if ds.length = n then gs ds s A else .bad) = .bad ∨ ∃ s1, (if ds.length = n then gs ds s A else .bad) = .ok s1 A
    split
    · exact h.det ds s A
    · exact .inl rfl
  | _ => exact .inl rfl, fun ρ H s σ A d v s1 Q hs r e q => by
  cases d with
  | tup ds =>
    have e : (if ds.length = n then gs ds s A else .bad) = .ok s1 A := e
    split at e
    · rename_i z
      obtain ⟨a, xs, rfl, q1, q2⟩ := r
      exact ⟨a, xs, rfl, q1, by rw [q2.length]; exact z, h.to ρ H s σ A ds xs s1 Q hs q2 e q⟩
    · cases e
  | _ => cases e⟩
end
section
variable {X : Cx} {E : XK} {elt tg iter : Expr} {ifs : List Expr} {scope : Scope} {own : List (Str × Nat)} {pos : Pos} {src : FI} {tgg : TG} {g : FG} {t : FT} {f : FE}
abbrev ATs (X : Cx) (E : XK) (ifs : List Expr) (t : FT) : Prop := PTs X ifs (tAT X.K E t)
theorem ats_nil : ATs X E [] fYes := ⟨fun pins s σ H Q I h => pts_nil.run pins s σ H Q I (by
  obtain ⟨ρ, s, A, hs, R, h⟩ := h
  exact Out.now h R rfl)⟩
theorem ats_one {c : Expr} (h : AT X E c t) : ATs X E [c] t := pts_one h
theorem lc_read {K : PySem.W.Frag} {vs : List Nat} (tt : Tgt K vs tgg g) {σ : L2.St} {H : Hp} {Q : VK} (h : tA K E (fLc src g t f vs) σ H Q) :
    tLc (tAI K E src) tgg (tAT K E t) (tA K E f) vs σ H Q := by
  obtain ⟨ρ, s, A, hs, R, h⟩ := h
  refine ⟨ρ, s, A, hs, R, (OutI.bindO h).mono fun J H1 ⟨ρ1, S, A1, _, e1, R1, J1, h1⟩ => fun L hL => ?_⟩
  have eL : Ext K ρ1 H1 (ρ1 ++ [L]) (L2.upd H1 L (.lst [])) := Ext.new hL [L]
  have RL : Rel K (ρ1 ++ [L]) (L2.upd H1 L (.lst [])) (A1 ++ [.lst []]) := R1.new hL ⟨[], upd_same, rfl⟩
  have nL : (ρ1 ++ [L])[A1.length]? = some L := by rw [← R1.len]; simp
  refine ⟨fun i m H' => m = S.items.length - i ∧ i ≤ S.items.length ∧ ∃ ρ' A', Ext K (ρ1 ++ [L]) (L2.upd H1 L (.lst [])) ρ' H' ∧ Rel K ρ' H' A' ∧ OutE K E ρ' H' (loopC S.ok g t f A1.length (wipeA s vs) (S.items.drop i) A') Q,
    ⟨_, rfl, Nat.zero_le _, _, _, .refl, RL, by simpa using h1.ext eL⟩, ?_⟩
  rintro i m H' ⟨rfl, hi, ρ', A', e2, R2, h2⟩
  have hs2 : SRel K ρ' H' (wipeA s vs) (L2.wipe σ vs) := (hs.wipes _).ext (e1.trans (eL.trans e2))
  have fL : ∀ {ρ3 : List Addr} {H3 : Hp}, Ext K ρ' H' ρ3 H3 → ρ3[A1.length]? = some L := fun e => (e2.trans e).at_ nL
  by_cases hl : i < S.items.length
  · obtain ⟨d, hd⟩ : ∃ d, S.items[i]? = some d := ⟨_, List.getElem?_eq_getElem hl⟩
    have ed : S.items.drop i = d :: S.items.drop (i + 1) := by
      rw [List.drop_eq_getElem_cons hl]
      rw [List.getElem?_eq_getElem hl] at hd
      cases hd; rfl
    rw [ed] at h2
    unfold loopC at h2
    split at h2
    · rename_i ok
      obtain ⟨go, yl⟩ := (J1 i ρ' H' A' (eL.trans e2) R2 ok).1 d hd
      refine .inr ⟨go, fun H3 => ∃ ρ3 A3, Ext K (ρ1 ++ [L]) (L2.upd H1 L (.lst [])) ρ3 H3 ∧ Rel K ρ3 H3 A3 ∧ OutE K E ρ3 H3 (loopC S.ok g t f A1.length (wipeA s vs) (S.items.drop (i + 1)) A3) Q, fun H3 h3 => ⟨_, by omega, rfl, hl, h3⟩, fun x H3 hy => ?_⟩
      obtain ⟨e3, R3, r3⟩ := yl x H3 hy
      have h2 := h2.ext e3
      rcases tt.det d (wipeA s vs) A' with eg | ⟨s1, eg⟩
      · rw [eg] at h2; exact h2.elim
      · rw [eg] at h2
        change Out K E (fun ρ H d v => Rp K ρ H d v) ρ' H3 ((t s1 A').bind fun b A2 => _) Q at h2
        refine tt.to ρ' H3 _ _ A' d x s1 _ (hs2.ext e3) r3 eg fun σ1 hs3 w => ⟨w.trans ?_, ρ', s1, A', hs3, R3, (Out.bind h2).mono fun b H4 ⟨ρ4, b', A4, _, e4, R4, r4, h4⟩ => ?_⟩
        · have ww : ∀ (us ws : List Nat), (∀ i ∈ us, i ∈ ws) → L2.wipe (L2.wipe σ us) ws = L2.wipe σ ws := by
            intro us
            induction us with
            | nil => intro ws _; rfl
            | cons u us ih =>
              intro ws hw
              show L2.wipe ((L2.wipe σ us).set u none) ws = _
              rw [wipe_set u none ws _ (hw u List.mem_cons_self)]
              exact ih ws fun i hi => hw i (List.mem_cons_of_mem _ hi)
          exact ww vs vs fun i h => h
        · cases r4
          cases b with
          | false =>
            rw [if_neg Bool.false_ne_true] at h4 ⊢
            exact ⟨ρ4, A4, e2.trans (e3.trans e4), R4, h4⟩
          | true =>
            rw [if_pos rfl] at h4 ⊢
            refine ⟨ρ4, s1, A4, hs3.ext e4, R4, (Out.bind h4).mono fun y H5 ⟨ρ5, d5, A5, _, e5, R5, r5, h5⟩ => ?_⟩
            have e35 := e3.trans (e4.trans e5)
            split at h5
            · rename_i acc eA
              split at h5
              · rename_i z
                obtain ⟨a, ha, us, q1, q2⟩ := R5.ob _ _ eA
                rw [fL e35] at ha; cases ha
                have u := upd_lst (ds := acc) R5 (fL e35) eA q1 (q2.append (RpL.one r5))
                exact ⟨us, q1, by rw [q2.length]; exact z, ρ5, _, e2.trans (e35.trans u.1), u.2, h5.ext u.1⟩
              · exact h5.elim
            · exact h5.elim
    · exact h2.elim
  · have ei : i = S.items.length := by omega
    have ed : S.items.drop i = [] := List.drop_eq_nil_of_le (by omega)
    rw [ed] at h2
    unfold loopC at h2
    split at h2
    · rename_i ok
      exact .inl ⟨(J1 i ρ' H' A' (eL.trans e2) R2 ok).2 (by omega) ei.symm, h2.now R2 ⟨L, fL .refl, rfl⟩⟩
    · exact h2.elim
abbrev Blk (X : Cx) (scope : Scope) (P : Cx → Prop) : Prop := ∀ (s : Shared) (H : Hp) (C : Addr) (cl : List (Str × Addr)) (fp : List Addr), P (X.blk s H scope (compEnvC scope cl C X.env) fp)
theorem ae_lc (own : List (Str × Nat)) (hc : X.calm = true) (hN : X.N.Nodup) (hi : AI X E tg iter src) (ok : BlkOk X.N X.env.scope scope own) (tt : Tgt X.K (own.map (·.2)) tgg g)
    (hg : Blk X scope fun Y => PG Y tg tgg) (ht : Blk X scope fun Y => ATs Y E ifs t) (he : Blk X scope fun Y => AE Y E elt f) (hs : ∀ x, foldedSetIterable iter X.env x = pure x := by intro _; rfl) :
    AE X E (.ListComp elt [⟨tg, iter, ifs, 0⟩] scope pos) (fLc src g t f (own.map (·.2))) := pe_mono (pe_lc hc hN hi ok hg ht he hs) fun _ _ _ => lc_read tt
/-- name = [..] -/
theorem as_setLc (own : List (Str × Nat)) {i : Nat} {y : Str} {py spos : Pos} (hc : X.calm = true) (hN : X.N.Nodup) (hi : AI X E tg iter src) (ok : BlkOk X.N X.env.scope scope own) (tt : Tgt X.K (own.map (·.2)) tgg g)
    (hg : Blk X scope fun Y => PG Y tg tgg) (ht : Blk X scope fun Y => ATs Y E ifs t) (he : Blk X scope fun Y => AE Y E elt f) (hsw : swapsWith (.ListComp elt [⟨tg, iter, ifs, 0⟩] scope pos) (some (.Name y py)) spos.line X.env = pure true)
    (hy : X.N[i]? = some y := by rfl) (hyl : X.env.scope.names.lookup y = some .local := by rfl) (hs : ∀ x, foldedSetIterable iter X.env x = pure x := by intro _; rfl) :
    AS X E (.Assign [.Name y py] (.ListComp elt [⟨tg, iter, ifs, 0⟩] scope pos) spos) (fSet (fLc src g t f (own.map (·.2))) i) := ps_mono (ps_setLc (tt := tAT X.K E t) (te := tA X.K E f) hc hN hy hyl hsw hi ok hg ht he hs) fun G σ H h => by
  refine lc_read (t := t) (f := f) tt ?_
  obtain ⟨ρ, s, A, hs, R, h⟩ := h
  exact ⟨ρ, s, A, hs, R, (Out.bindS h).mono fun x H1 ⟨ρ1, d, A1, _, e1, R1, r1, h1⟩ => h1 ρ1 H1 _ .refl R1 ((hs.ext e1).set i r1)⟩
end

/-! ## isinstance of a built-in type -/
def tyN (A : AH) : D → Option String
  | .non => some "NoneType"
  | .bl _ => some "bool"
  | .int _ => some "int"
  | .str _ => some "str"
  | .tup _ => some "tuple"
  | .ref i => match A[i]? with
    | some (.lst _) => some "list"
    | some (.frz _) => some "list"
    | some (.dic _) => some "dict"
    | _ => none
def isiD (T : String) (d : D) (A : AH) : Res D := match tyN A d with
  | some t => match kitB t T with
    | some b => .ok (.bl b) A
    | none => .bad
  | none => .bad
theorem tyN_ok {K : PySem.W.Frag} {ρ : List Addr} {H : Hp} {A : AH} {d : D} {v : V} {t : String} (R : Rel K ρ H A) (r : Rp K ρ H d v) (h : tyN A d = some t) : TyX K H v (.type t) := by
  cases d with
  | non => cases r; cases h; exact .base .non
  | bl b => cases r; cases h; exact .base (.bl b)
  | int i => cases r; cases h; exact .base (.int i)
  | str x => cases r; cases h; exact .base (.str x)
  | tup ds =>
    obtain ⟨a, xs, rfl, q, _⟩ := r
    cases h
    rcases q with (q | ⟨o, q⟩) | ⟨o, its, n, q1, q2, _⟩
    · exact .base (.tup q)
    · exact .fTuple q
    · exact .kTuple q1 q2
  | ref i =>
    obtain ⟨a, h1, rfl⟩ := r
    obtain ⟨o, h2, h3⟩ := R.has h1
    unfold tyN at h
    simp only [h2] at h
    cases o with
    | lst xs => cases h; obtain ⟨us, e1, _⟩ := h3; exact .base (.lst e1)
    | frz xs =>
      cases h
      obtain ⟨us, e1, _⟩ := h3
      rcases e1 with ⟨o, e1⟩ | (e1 | ⟨o, e1⟩) | ⟨o, its, n, q1, q2, _⟩
      · exact .base (.frz e1)
      · cases e1
      · cases e1
      · exact .kList q1 q2
    | dic xs => cases h; obtain ⟨us, e1, _⟩ := h3; exact .base (.dK e1)
    | ftp _ => cases h
    | fdk _ => cases h
    | ins _ _ => cases h
section
variable {X : Cx} {E : XK} {a : Expr} {f : FE} {p p2 pos : Pos}
theorem ae_isi {T : String} {x : Str} (hg : Gl X "isinstance") (hm : X.mg "isinstance" = none) (hg2 : Gl X x) (hm2 : X.mg x = none) (hv2 : bootBuiltins x = some (.type T)) (ha : AE X E a f) (hn : x ≠ "__name__" := by decide) (hdb : (x == ("__debug__" : Str)) = false := by decide)
    (h1 : starEach [a, .Name x p2] X.env = (false, eval a X.env) :: starEach [.Name x p2] X.env := by rfl) (h2 : starEach [.Name x p2] X.env = (false, eval (.Name x p2) X.env) :: starEach [] X.env := by rfl)
    (hpl : (backTo pos (starEach [.Name x p2] X.env)).any (·.1) = false := by rfl) (hv : bootBuiltins "isinstance" = some (.builtin "isinstance") := by decide +kernel) :
    AE X E (.Call (.Name "isinstance" p) [a, .Name x p2] [] pos) (fUn (isiD T) f) :=
  pe_mono (pe_callB (call_isi (X := X)) hg hm hv (pa_cons ha (pa_cons (pe_bltn (v := .ty T) hg2 hm2 hv2 rfl hn hdb) pa_nil h2) h1) (by decide) (by decide) h1 hpl) fun σ H Q h => by
    obtain ⟨ρ, s, A, hs, R, h⟩ := h
    refine ⟨ρ, s, A, hs, R, (Out.bind h).mono fun v H1 ⟨ρ1, d, A1, _, e1, R1, r1, h1⟩ => ?_⟩
    unfold isiD at h1
    split at h1
    · rename_i t e2
      split at h1
      · rename_i b e3
        exact ⟨v, .ty T, .type t, .type T, b, rfl, .ty T, tyN_ok R1 r1 e2, kit_ty e3, h1.now R1 rfl⟩
      · exact h1.elim
    · exact h1.elim
end

/-! ## methods of built-in types -/
def rM (K : PySem.W.Frag) (E : XK) (g : D → FM) : V → List V → Hp → VK → Prop := fun x xs H Q => ∃ ρ A d ds, Rel K ρ H A ∧ Rp K ρ H d x ∧ RpL K ρ H ds xs ∧ OutE K E ρ H (g d ds A) Q
abbrev AMt (X : Cx) (E : XK) (id : String) (g : D → FM) : Prop := MtR X id (rM X.K E g)
def isTy (T : String) (d : D) (A : AH) : Bool := match d with
  | .str _ => T == "str"
  | d => (T == "list" && (rdL A d).isSome) || (T == "dict" && (rdM A d).isSome)
def fMt0 (T : String) (g : D → FM) (fo : FE) : FE := fun s A => (fo s A).bind fun d A1 => if isTy T d A1 = true then g d [] A1 else .bad
def fMt (T : String) (g : D → FM) (fo : FE) (fa : FA) : FE := fun s A => (fo s A).bind fun d A1 => if isTy T d A1 = true then (fa s A1).bind fun ds A2 => g d ds A2 else .bad
theorem isTy_ok {K : PySem.W.Frag} {ρ : List Addr} {H : Hp} {A : AH} {T : String} {d : D} {v : V} (R : Rel K ρ H A) (r : Rp K ρ H d v) (h : isTy T d A = true) : tyV K T v H := by
  cases d with
  | str x => cases r; exact eq_of_beq h
  | ref i =>
    have h : (((T == "list") && (rdL A (.ref i)).isSome) || ((T == "dict") && (rdM A (.ref i)).isSome)) = true := h
    rw [Bool.or_eq_true, Bool.and_eq_true, Bool.and_eq_true] at h
    rcases h with ⟨h1, h2⟩ | ⟨h1, h2⟩
    · obtain ⟨xs, e⟩ := Option.isSome_iff_exists.mp h2
      obtain ⟨a, us, rfl, q, _⟩ := rdL_ok R r e
      exact .inl ⟨eq_of_beq h1, us, q⟩
    · obtain ⟨xs, e⟩ := Option.isSome_iff_exists.mp h2
      obtain ⟨_, a, us, _, rfl, _, _, q, _⟩ := rdM_ok R r e
      exact .inr (.inr (.inl ⟨eq_of_beq h1, .inl ⟨us, q⟩⟩))
  | non => simp [isTy, rdL, rdM] at h
  | bl b => simp [isTy, rdL, rdM] at h
  | int b => simp [isTy, rdL, rdM] at h
  | tup b => simp [isTy, rdL, rdM] at h
section
variable {X : Cx} {E : XK} {o e : Expr} {es : List Expr} {fo : FE} {fa : FA} {g : D → FM} {name : Str} {apos cpos : Pos} {T id : String}
theorem ae_mt0 (pa : PlainAttrs T) (slot : Slot T name id) (hty : typeOf (.builtin id) = pure (.type "method_descriptor")) (hm : AMt X E id g) (ho : AE X E o fo)
    (hbase : attributeBase o name X.env (eval o X.env) = eval o X.env := by rfl) (hline : (apos.endLine == cpos.line) = true := by rfl) : AE X E (.Call (.Attribute o name apos) [] [] cpos) (fMt0 T g fo) :=
  pe_mono (pe_bm0 pa slot hty hm ho hbase hline) fun σ H Q h => by
    obtain ⟨ρ, s, A, hs, R, h⟩ := h
    refine ⟨ρ, s, A, hs, R, (Out.bind h).mono fun v H1 ⟨ρ1, d, A1, _, e1, R1, r1, h1⟩ => ?_⟩
    split at h1
    · rename_i z
      exact ⟨isTy_ok R1 r1 z, ρ1, A1, d, [], R1, r1, rfl, h1⟩
    · exact h1.elim
theorem ae_mt (pa : PlainAttrs T) (slot : Slot T name id) (hty : typeOf (.builtin id) = pure (.type "method_descriptor")) (hm : AMt X E id g) (ho : AE X E o fo) (ha : AA X E (e :: es) fa)
    (hbase : attributeBase o name X.env (eval o X.env) = eval o X.env := by rfl)
    (hfew : ((backTo cpos (starEach (e :: es) X.env)).all (fun x => !x.1) && (backToKw cpos (keywordEach [] X.env)).all (fun x => x.1.isSome)
      && decide ((e :: es).length + ([] : List Keyword).length + (if ([] : List Keyword).isEmpty then 0 else 1) < 30)) = true := by rfl)
    (hline : (apos.endLine == cpos.line) = true := by rfl) (hs : starEach (e :: es) X.env = (false, eval e X.env) :: starEach es X.env := by rfl) (hplain : (backTo cpos (starEach es X.env)).any (·.1) = false := by rfl) :
    AE X E (.Call (.Attribute o name apos) (e :: es) [] cpos) (fMt T g fo fa) := pe_mono (pe_bm pa slot hty hm ho ha hbase hfew hline hs hplain) fun σ H Q h => by
  obtain ⟨ρ, s, A, hs, R, h⟩ := h
  refine ⟨ρ, s, A, hs, R, (Out.bind h).mono fun v H1 ⟨ρ1, d, A1, _, e1, R1, r1, h1⟩ => ?_⟩
  split at h1
  · rename_i z
    exact ⟨isTy_ok R1 r1 z, ρ1, s, A1, hs.ext e1, R1, (Out.bind h1).mono fun vs H2 ⟨ρ2, ds, A2, _, e2, R2, r2, h2⟩ => ⟨ρ2, A2, d, ds, R2, r1.ext e2, r2, h2⟩⟩
  · exact h1.elim
def appendD (d : D) : FM
  | [y], A => match d with
    | .ref n => match A[n]? with
      | some (.lst xs) => if xs.length < sizeLine then .ok .non (A.set n (.lst (xs ++ [y]))) else .bad
      | _ => .bad
    | _ => .bad
  | _, _ => .bad
theorem mtm_mono {id : String} {r r' : V → List V → Hp → VK → Prop} (h : MtR X id r) (m : ∀ x xs H Q, r' x xs H Q → r x xs H Q) : MtR X id r' := fun pins s σ H x xs v us Q I rx rs q => h pins s σ H x xs v us Q I rx rs (m _ _ _ _ q)
theorem amt_append : AMt X E "list.append" appendD := mtm_mono mt_append fun x xs H Q h => by
  obtain ⟨ρ, A, d, ds, R, r, rs, h⟩ := h
  unfold appendD at h
  split at h
  · split at h
    · split at h
      · split at h
        · rename_i xs' eA z
          obtain ⟨a, ha, rfl⟩ := r
          obtain ⟨a', ha', us, q1, q2⟩ := R.ob _ _ eA
          rw [ha] at ha'; cases ha'
          obtain ⟨y, rfl, ry⟩ := rs.one_inv
          have u := upd_lst (ds := xs') R ha eA q1 (q2.append (RpL.one ry))
          exact ⟨a, us, y, rfl, rfl, q1, by rw [q2.length]; exact z, h ρ _ .non u.1 u.2 rfl⟩
        · exact h.elim
      · exact h.elim
    · exact h.elim
  · exact h.elim
def extendD (d : D) : FM
  | [e], A => match d with
    | .ref n => match A[n]?, muL A e with
      | some (.lst xs), some ys => if xs.length + ys.length ≤ sizeLine then .ok .non (A.set n (.lst (xs ++ ys))) else .bad
      | _, _ => .bad
    | _ => .bad
  | _, _ => .bad
theorem amt_extend : AMt X E "list.extend" extendD := mtm_mono mt_extend fun x xs H Q h => by
  obtain ⟨ρ, A, d, ds, R, r, rs, h⟩ := h
  unfold extendD at h
  split at h
  · split at h
    · split at h
      · split at h
        · rename_i xs' ys eA eY z
          obtain ⟨a, ha, rfl⟩ := r
          obtain ⟨a', ha', us, q1, q2⟩ := R.ob _ _ eA
          rw [ha] at ha'; cases ha'
          obtain ⟨y, rfl, ry⟩ := rs.one_inv
          obtain ⟨_, b, ws, _, rfl, _, _, q3, q4⟩ := muL_ok R ry eY
          have u := upd_lst (ds := xs') R ha eA q1 (q2.append q4)
          exact ⟨a, b, us, ws, rfl, rfl, q1, q3, by rw [q2.length, q4.length]; exact z, h ρ _ .non u.1 u.2 rfl⟩
        · exact h.elim
      · exact h.elim
    · exact h.elim
  · exact h.elim
def popD (d : D) : FM
  | [], A => match d with
    | .ref n => match A[n]? with
      | some (.lst xs) => match xs[xs.length - 1]? with
        | some y => .ok y (A.set n (.lst xs.dropLast))
        | none => .bad
      | _ => .bad
    | _ => .bad
  | _, _ => .bad
theorem RpL.dropLast {K : PySem.W.Frag} {ρ : List Addr} {H : Hp} {ds : List D} {xs : List V} (r : RpL K ρ H ds xs) : RpL K ρ H ds.dropLast xs.dropLast := by
  rw [List.dropLast_eq_take, List.dropLast_eq_take, r.length]
  exact r.take _
theorem amt_pop : AMt X E "list.pop" popD := mtm_mono mt_pop fun x xs H Q h => by
  obtain ⟨ρ, A, d, ds, R, r, rs, h⟩ := h
  unfold popD at h
  split at h
  · split at h
    · split at h
      · split at h
        · rename_i xs' eA _ y eY
          obtain ⟨a, ha, rfl⟩ := r
          obtain ⟨a', ha', us, q1, q2⟩ := R.ob _ _ eA
          rw [ha] at ha'; cases ha'
          obtain ⟨v, e1, e2⟩ := q2.get eY
          have u := upd_lst (ds := xs') R ha eA q1 q2.dropLast
          exact ⟨a, us, v, rfl, rs, q1, by rw [q2.length]; exact e1, h ρ _ v u.1 u.2 (e2.ext u.1)⟩
        · exact h.elim
      · exact h.elim
    · exact h.elim
  · exact h.elim
def insertD (d : D) : FM
  | [.int i, y], A => match d with
    | .ref n => match A[n]? with
      | some (.lst xs) => if xs.length < sizeLine ∧ 0 ≤ i ∧ i < 2 ^ 63 then .ok .non (A.set n (.lst (xs.take i.toNat ++ [y] ++ xs.drop i.toNat))) else .bad
      | _ => .bad
    | _ => .bad
  | _, _ => .bad
theorem amt_insert : AMt X E "list.insert" insertD := mtm_mono mt_insert fun x xs H Q h => by
  obtain ⟨ρ, A, d, ds, R, r, rs, h⟩ := h
  unfold insertD at h
  split at h
  · rename_i k y'
    split at h
    · split at h
      · split at h
        · rename_i xs' eA z
          obtain ⟨a, ha, rfl⟩ := r
          obtain ⟨a', ha', us, q1, q2⟩ := R.ob _ _ eA
          rw [ha] at ha'; cases ha'
          obtain ⟨i', y, rfl, ri, ry⟩ := rs.two_inv
          cases ri
          have u := upd_lst (ds := xs') R ha eA q1 (((q2.take k.toNat).append (RpL.one ry)).append (q2.drop k.toNat))
          exact ⟨a, us, k, y, rfl, rfl, q1, by rw [q2.length]; exact z.1, z.2.1, z.2.2, h ρ _ .non u.1 u.2 rfl⟩
        · exact h.elim
      · exact h.elim
    · exact h.elim
  · exact h.elim
end

/-! ## f-strings -/
def fmtD (d : D) (A : AH) : Res D := match d with
  | .str x => if x.length ≤ sizeLine then .ok (.str x) A else .bad
  | .int i => if i.natAbs.log2 < 1920 then .ok (.str (toString i)) A else .bad
  | _ => .bad
def jStrs : List FE → Str → FE
  | [], acc, _, A => .ok (.str acc) A
  | f :: fs, acc, s, A => (f s A).bind fun d A1 => match d with
    | .str y => if (acc ++ y).length ≤ sizeLine then jStrs fs (acc ++ y) s A1 else .bad
    | _ => .bad
inductive AJ (X : Cx) (E : XK) : List Expr → List FE → Prop where
  | nil : AJ X E [] []
  | cons {e : Expr} {f : FE} {es : List Expr} {fs : List FE} (h : AE X E e f) (r : AJ X E es fs) : AJ X E (e :: es) (f :: fs)
section
variable {X : Cx} {E : XK} {e v1 v2 : Expr} {rest : List Expr} {f : FE} {fs : List FE} {pos : Pos}
theorem ae_fmt (h : AE X E e f) : AE X E (.FormattedValue e (-1) none pos) (fUn fmtD f) := pe_mono (pe_fmt h) fun σ H Q h => by
  obtain ⟨ρ, s, A, hs, R, h⟩ := h
  refine ⟨ρ, s, A, hs, R, (Out.bind h).mono fun v H1 ⟨ρ1, d, A1, _, e1, R1, r1, h1⟩ => ?_⟩
  unfold fmtD at h1
  split at h1
  · split at h1
    · rename_i z; cases r1; exact .inl ⟨_, rfl, z, h1.now R1 rfl⟩
    · exact h1.elim
  · split at h1
    · rename_i z; cases r1; exact .inr ⟨_, rfl, z, h1.now R1 rfl⟩
    · exact h1.elim
  · exact h1.elim
theorem AJ.pj (h : AJ X E rest fs) : PJ X rest (fs.map (tA X.K E)) := by
  induction h with
  | nil => exact .nil
  | cons h _ ih => exact .cons h ih
theorem js_read {K : PySem.W.Frag} {σ : L2.St} {Q : VK} : ∀ (fs : List FE) (acc : Str) (ρ : List Addr) (s : ASt) (A : AH) (H : Hp), SRel K ρ H s σ → Rel K ρ H A → OutE K E ρ H (jStrs fs acc s A) Q → tJs (fs.map (tA K E)) acc σ H fun out H1 => Q (.str out) H1
  | [], acc, ρ, s, A, H, hs, R, h => Out.now h R rfl
  | f :: fs, acc, ρ, s, A, H, hs, R, h => by
    refine ⟨ρ, s, A, hs, R, (Out.bind h).mono fun v H1 ⟨ρ1, d, A1, _, e1, R1, r1, h1⟩ => ?_⟩
    split at h1
    · split at h1
      · rename_i z
        cases r1
        exact ⟨_, rfl, z, js_read fs _ ρ1 s A1 H1 (hs.ext e1) R1 h1⟩
      · exact h1.elim
    · exact h1.elim
theorem ae_joined (h : AJ X E (v1 :: v2 :: rest) fs) : AE X E (.JoinedStr (v1 :: v2 :: rest) pos) (jStrs fs Str.empty) := pe_mono (pe_joined h.pj) fun σ H Q h => by
  obtain ⟨ρ, s, A, hs, R, h⟩ := h
  exact js_read fs _ ρ s A H hs R h
theorem ae_joined1 (h : AE X E e f) : AE X E (.JoinedStr [e] pos) f := pe_joined1 h
end

/-! ## dict displays with text keys and int keys -/
def fDict (ks : List Key) (fs : FA) : FE := fun s A => (fs s A).bind fun ds A1 => if ds.length = ks.length then alloc (.dic (ks.zip ds)) A1 else .bad

/-! ## a def of the text -/
def spM (K : PySem.W.Frag) (n : Nat) (m : FM) : Sp := fun vs H Q _ => ∃ ρ A ds, Rel K ρ H A ∧ RpL K ρ H ds vs ∧ ds.length = n ∧ OutE K E0 ρ H (m ds A) Q
/-- the def at f does what m says, by at most k calls within one another -/
abbrev ADef (P : Program) (w : World) (K : PySem.W.Frag) (mg : Str → Option Value) (base : Heap) (k : Nat) (f : Addr) (fd : FuncData) (ps : List Str) (m : FM) : Prop := FnOk P w K mg base CX0 k f fd ps (spM K ps.length m)
/-- the parameters' slots, then the other names' -/
def args (n : Nat) (ds : List D) : ASt := ds.map some ++ List.replicate (n - ds.length) none
def finish (r : Res Fl) : Res D := match r with
  | .ok (.rt d) A => .ok d A
  | .ok (.nx _) A => .ok .non A
  | .ok _ _ => .bad
  | .exc C fs A => .exc C fs A
  | .bad => .bad
/-- a body as a function -/
def body (np n : Nat) (f : FS) : FM := fun ds A => if ds.length = np then finish (f (args n ds) A) else .bad
section
variable {P : Program} {w : World} {K : PySem.W.Frag} {mg : Str → Option Value} {base : Heap}
theorem args_rel {ρ : List Addr} {H : Hp} {ds : List D} {vs : List V} (N : List Str) (r : RpL K ρ H ds vs) : SRel K ρ H (args N.length ds) (L2.start N vs) := by
  refine ⟨by simp [args, L2.start, r.length], fun i d h => ?_⟩
  unfold args at h
  by_cases hi : i < ds.length
  · rw [List.getElem?_append_left (by simpa using hi), List.getElem?_map] at h
    cases e : ds[i]? with
    | none => rw [e] at h; cases h
    | some d' =>
      rw [e] at h
      cases h
      obtain ⟨v, q1, q2⟩ := r.get e
      refine ⟨v, ?_, q2⟩
      unfold L2.start
      rw [List.getElem?_append_left (by simpa [r.length] using hi), List.getElem?_map, q1]
      rfl
  · rw [List.getElem?_append_right (by simpa using hi), List.getElem?_replicate] at h
    split at h <;> cases h
theorem adef {x qual : Str} {st : Stmt} {f : Addr} {fd : FuncData} {N ps : List Str} {k : Nat} {p : FS} (F : Fun K x qual st f fd) (S : FnScope N ps (defScope st))
    (hb : ∀ (cdv : Value) (A : Around) (outer : List Env) (s : Shared) (H : Hp) (E : XK), Room k (A.deeper (envOfC qual (defScope st) s.heap.objs.size f cdv)) →
      ASs (cxOf CX0 P w K mg base N qual (defScope st) f cdv A outer s H E).nox E0 (defBody st) p) : ADef P w K mg base (k + 1) f fd ps (body ps.length N.length p) := by
  refine F.ok S (fun vs H Q E h => ?_) (fun cdv A outer s H vs Q E hr h => ?_)
  · obtain ⟨ρ, A, ds, R, r, z, h⟩ := h
    rw [r.length, z]
  · obtain ⟨ρ, A', ds, R, r, z, h⟩ := h
    refine ⟨_, hb cdv A outer s H E hr, ρ, args N.length ds, A', args_rel N r, R, ?_⟩
    unfold body at h
    rw [if_pos z] at h
    unfold finish at h
    show SOut K E0 ρ H (p (args N.length ds) A') _
    cases e : p (args N.length ds) A' with
    | bad => rw [e] at h; exact h
    | exc C fs A1 => rw [e] at h; exact h
    | ok fl A1 =>
      rw [e] at h
      cases fl with
      | nx s => exact fun ρ1 H1 σ1 e1 R1 _ => h ρ1 H1 .non e1 R1 rfl
      | rt d => exact h
      | bk s => exact h.elim
      | ct s => exact h.elim
/-- a def does the same by another function that has as much to say -/
theorem ADef.imp {k : Nat} {f : Addr} {fd : FuncData} {ps : List Str} {m m' : FM} (h : ADef P w K mg base k f fd ps m) (e : ∀ ρ H ds A Q, Rel K ρ H A → ds.length = ps.length → OutE K E0 ρ H (m' ds A) Q → OutE K E0 ρ H (m ds A) Q) : ADef P w K mg base k f fd ps m' :=
  FnOk.imp h fun vs H Q E ⟨ρ, A, ds, R, r, z, q⟩ => ⟨ρ, A, ds, R, r, z, e ρ H ds A Q R z q⟩
end
section
variable {X : Cx} {k n : Nat} {f : Addr} {fd : FuncData} {ps : List Str} {m : FM} {x : Str} {p pos : Pos} {e : Expr} {es : List Expr} {fs : FA}
def fOwn (n : Nat) (m : FM) (fs : FA) : FE := fun s A => (fs s A).bind fun ds A1 => if ds.length = n then m ds A1 else .bad
theorem own_ {K : PySem.W.Frag} {σ : L2.St} {H : Hp} {Q : VK} {n : Nat} (h : tA K E0 (fOwn n m fs) σ H Q) : tCall (spM K n m) [] E0 (tAA K E0 fs) σ H Q := by
  obtain ⟨ρ, s, A, hs, R, h⟩ := h
  refine ⟨ρ, s, A, hs, R, (Out.bind h).mono fun x H1 ⟨ρ1, d, A1, _, e1, R1, r1, h1⟩ => ?_⟩
  split at h1
  · rename_i z
    exact ⟨ρ1, A1, d, R1, by rw [List.append_nil]; exact r1, z, h1⟩
  · exact h1.elim
theorem ae_call (F : ADef X.prog X.w X.K X.mg X.base k f fd ps m) (hr : Room k X.A) (hg : Gl X x) (hm : X.mg x = some (.ref f)) (hk : PySem.W.keepIn X.K (.ref f) = true) (hb : Binds X.K fd ps [])
    (ha : AA X E0 (e :: es) fs) (hdb : (x == ("__debug__" : Str)) = false := by decide) (he : starEach (e :: es) X.env = (false, eval e X.env) :: starEach es X.env := by rfl) (hpl : (backTo pos (starEach es X.env)).any (·.1) = false := by rfl) (hn : ps.length = n := by rfl) :
    AE X E0 (.Call (.Name x p) (e :: es) [] pos) (fOwn n m fs) := pe_mono (pe_call F hr hg hm hk hb .nil pass0 ha hdb he hpl) fun _ _ _ h => own_ (by rw [hn]; exact h)
theorem ae_call0 (F : ADef X.prog X.w X.K X.mg X.base k f fd ps m) (hr : Room k X.A) (hg : Gl X x) (hm : X.mg x = some (.ref f)) (hk : PySem.W.keepIn X.K (.ref f) = true) (hb : Binds X.K fd ps [])
    (hdb : (x == ("__debug__" : Str)) = false := by decide) (hn : ps.length = n := by rfl) :
    AE X E0 (.Call (.Name x p) [] [] pos) (fOwn n m fNil) := pe_mono (pe_call0 F hr hg hm hk hb .nil pass0 hdb) fun σ H Q h => by
  rw [← hn] at h
  obtain ⟨ρ, s, A, hs, R, h⟩ := own_ h
  exact Out.now h R rfl
end
end Ab

namespace Ab
open PySem PySem.Spec PyProof.Rows L2
open scoped Classical

/-! ## tuple(range(..)), list(range(..)) -/
def rgD (f1 f2 : FE) (k : Int → Int → AH → Res D) : FE := fun s A => (f1 s A).bind fun d A1 => (f2 s A1).bind fun e A2 => match d, e with
  | .int i, .int j => k i j A2
  | _, _ => .bad
noncomputable def rgTup (i j : Int) (A : AH) : Res D := if RgOk i j then .ok (.tup (rngL i (j - i).toNat)) A else .bad
noncomputable def rgLst (i j : Int) (A : AH) : Res D := if RgOk i j then alloc (.lst (rngL i (j - i).toNat)) A else .bad
theorem rng_rel {K : PySem.W.Frag} {ρ : List Addr} {H : Hp} (i j : Int) : RpL K ρ H (rngL i (j - i).toNat) (rgV i j) := by
  unfold rngL rgV
  have all : ∀ l : List Nat, RpL K ρ H (l.map fun k => .int (i + (k : Nat))) (l.map fun k => V.int (i + (k : Nat))) := by
    intro l
    induction l with
    | nil => rfl
    | cons k l ih => exact ⟨_, _, rfl, rfl, ih⟩
  exact all _
section
variable {X : Cx} {E : XK} {a b : Expr} {f g : FE} {p p2 pos pos2 : Pos}
theorem rg2_ {K : PySem.W.Frag} {σ : L2.St} {H : Hp} {Q : VK} {k : Int → Int → AH → Res D} {R : Int → Int → Hp → Prop} (h : tA K E (rgD f g k) σ H Q) (m : ∀ i j ρ A H, Rel K ρ H A → OutE K E ρ H (k i j A) Q → R i j H) : tRg2 (tA K E f) (tA K E g) σ H R := by
  obtain ⟨ρ, s, A, hs, Rl, h⟩ := h
  refine ⟨ρ, s, A, hs, Rl, (Out.bind h).mono fun x H1 ⟨ρ1, d, A1, _, e1, R1, r1, h1⟩ => ⟨ρ1, s, A1, hs.ext e1, R1, (Out.bind h1).mono fun y H2 ⟨ρ2, d2, A2, _, e2, R2, r2, h2⟩ => ?_⟩⟩
  split at h2
  · cases r1; cases r2
    exact ⟨_, _, rfl, rfl, m _ _ ρ2 A2 H2 R2 h2⟩
  · exact h2.elim
theorem ae_tupRg2 (hc : X.calm = true) (hg : Gl X "tuple") (hm : X.mg "tuple" = none) (hg2 : Gl X "range") (hm2 : X.mg "range" = none) (ha : AE X E a f) (hb : AE X E b g) (na : starEach [a, b] X.env = (false, eval a X.env) :: starEach [b] X.env := by rfl)
    (nb : starEach [b] X.env = (false, eval b X.env) :: starEach [] X.env := by rfl) (hp : (backTo pos2 (starEach [b] X.env)).any (·.1) = false := by rfl) (nr : starEach [.Call (.Name "range" p2) [a, b] [] pos2] X.env = (false, eval (.Call (.Name "range" p2) [a, b] [] pos2) X.env) :: starEach [] X.env := by rfl) :
    AE X E (.Call (.Name "tuple" p) [.Call (.Name "range" p2) [a, b] [] pos2] [] pos) (rgD f g rgTup) := pe_mono (pe_tupRg hc hg hm (prg_2 hg2 hm2 ha hb na nb hp) nr) fun σ H Q h => rg2_ h fun i j ρ A H R h => by
  unfold rgTup at h
  split at h
  · rename_i z
    exact ⟨z, new_tup R (rng_rel i j) h⟩
  · exact h.elim
theorem ae_lstRg2 (hc : X.calm = true) (hg : Gl X "list") (hm : X.mg "list" = none) (hg2 : Gl X "range") (hm2 : X.mg "range" = none) (ha : AE X E a f) (hb : AE X E b g) (na : starEach [a, b] X.env = (false, eval a X.env) :: starEach [b] X.env := by rfl)
    (nb : starEach [b] X.env = (false, eval b X.env) :: starEach [] X.env := by rfl) (hp : (backTo pos2 (starEach [b] X.env)).any (·.1) = false := by rfl) (nr : starEach [.Call (.Name "range" p2) [a, b] [] pos2] X.env = (false, eval (.Call (.Name "range" p2) [a, b] [] pos2) X.env) :: starEach [] X.env := by rfl) :
    AE X E (.Call (.Name "list" p) [.Call (.Name "range" p2) [a, b] [] pos2] [] pos) (rgD f g rgLst) := pe_mono (pe_listRg hc hg hm (prg_2 hg2 hm2 ha hb na nb hp) nr) fun σ H Q h => rg2_ h fun i j ρ A H R h => by
  unfold rgLst at h
  split at h
  · rename_i z
    exact ⟨z, new_lst R (rng_rel i j) h⟩
  · exact h.elim
theorem rg1_ {K : PySem.W.Frag} {σ : L2.St} {H : Hp} {Q : VK} {k : Int → Int → AH → Res D} {R : Int → Int → Hp → Prop} (h : tA K E (rgD (fC (.int 0)) f k) σ H Q) (m : ∀ i j ρ A H, Rel K ρ H A → OutE K E ρ H (k i j A) Q → R i j H) : tRg1 (tA K E f) σ H R := by
  obtain ⟨ρ, s, A, hs, Rl, h⟩ := h
  refine ⟨ρ, s, A, hs, Rl, (Out.bind (show OutE K E ρ H ((f s A).bind fun e A2 => match D.int 0, e with | .int i, .int j => k i j A2 | _, _ => .bad) Q from h)).mono fun x H1 ⟨ρ1, d, A1, _, e1, R1, r1, h1⟩ => ?_⟩
  split at h1
  · rename_i i j e0 e1
    cases e0
    cases r1
    exact ⟨_, rfl, m _ _ ρ1 A1 H1 R1 h1⟩
  · exact h1.elim
theorem ae_tupRg1 (hc : X.calm = true) (hg : Gl X "tuple") (hm : X.mg "tuple" = none) (hg2 : Gl X "range") (hm2 : X.mg "range" = none) (ha : AE X E a f) (na : starEach [a] X.env = (false, eval a X.env) :: starEach [] X.env := by rfl)
    (nr : starEach [.Call (.Name "range" p2) [a] [] pos2] X.env = (false, eval (.Call (.Name "range" p2) [a] [] pos2) X.env) :: starEach [] X.env := by rfl) :
    AE X E (.Call (.Name "tuple" p) [.Call (.Name "range" p2) [a] [] pos2] [] pos) (rgD (fC (.int 0)) f rgTup) := pe_mono (pe_tupRg hc hg hm (prg_1 hg2 hm2 ha na) nr) fun σ H Q h => rg1_ h fun i j ρ A H R h => by
  unfold rgTup at h
  split at h
  · rename_i z
    exact ⟨z, new_tup R (rng_rel i j) h⟩
  · exact h.elim
theorem ae_lstRg1 (hc : X.calm = true) (hg : Gl X "list") (hm : X.mg "list" = none) (hg2 : Gl X "range") (hm2 : X.mg "range" = none) (ha : AE X E a f) (na : starEach [a] X.env = (false, eval a X.env) :: starEach [] X.env := by rfl)
    (nr : starEach [.Call (.Name "range" p2) [a] [] pos2] X.env = (false, eval (.Call (.Name "range" p2) [a] [] pos2) X.env) :: starEach [] X.env := by rfl) :
    AE X E (.Call (.Name "list" p) [.Call (.Name "range" p2) [a] [] pos2] [] pos) (rgD (fC (.int 0)) f rgLst) := pe_mono (pe_listRg hc hg hm (prg_1 hg2 hm2 ha na) nr) fun σ H Q h => rg1_ h fun i j ρ A H R h => by
  unfold rgLst at h
  split at h
  · rename_i z
    exact ⟨z, new_lst R (rng_rel i j) h⟩
  · exact h.elim
end

/-! ## enumerate, zip -/
theorem enumL_get : ∀ (k i : Nat) (ds : List D), (enumL k ds)[i]? = (ds[i]?).map fun d => .tup [.int ((k + i : Nat)), d]
  | k, i, [] => by simp [enumL]
  | k, 0, d :: ds => by simp [enumL]
  | k, i + 1, d :: ds => by
    show (enumL (k + 1) ds)[i]? = (ds[i]?).map _
    rw [enumL_get (k + 1) i ds]
    congr 1
    funext d
    rw [show k + 1 + i = k + (i + 1) by omega]
theorem enumL_len : ∀ (k : Nat) (ds : List D), (enumL k ds).length = ds.length
  | k, [] => rfl
  | k, d :: ds => by simp [enumL, enumL_len (k + 1) ds]
theorem zipD_get : ∀ (i : Nat) (as bs : List D) (d : D), (zipD as bs)[i]? = some d ↔ ∃ a b, as[i]? = some a ∧ bs[i]? = some b ∧ d = .tup [a, b]
  | i, [], bs, d => by simp [zipD]
  | i, a :: as, [], d => by simp [zipD]
  | 0, a :: as, b :: bs, d => by simp [zipD, eq_comm]
  | i + 1, a :: as, b :: bs, d => by
    show (zipD as bs)[i]? = some d ↔ _
    rw [zipD_get i as bs d]
    simp
theorem zipD_len : ∀ (as bs : List D), (zipD as bs).length = min as.length bs.length
  | [], bs => by simp [zipD]
  | a :: as, [] => by simp [zipD]
  | a :: as, b :: bs => by simp [zipD, zipD_len as bs, Nat.succ_min_succ]
noncomputable def fZip (f g : FE) : FI := fun s A => (f s A).bind fun d A1 => (g s A1).bind fun e A2 => match d, e with
  | .tup xs, .tup ys => .ok ⟨zipD xs ys, yes⟩ A2
  | .ref m, .ref n => match rdL A2 (.ref m), rdL A2 (.ref n) with
    | some xs, some ys => .ok ⟨zipD xs ys, fun A' => rdL A' (.ref m) = some xs ∧ rdL A' (.ref n) = some ys⟩ A2
    | _, _ => .bad
  | _, _ => .bad
section
variable {K : PySem.W.Frag} {ρ : List Addr} {H : Hp}
theorem pair_new {ρ' : List Addr} {H' : Hp} {A : AH} {T : Addr} {x y : V} {d e : D} (R : Rel K ρ' H' A) (hT : H' T = none) (r1 : Rp K ρ' H' d x) (r2 : Rp K ρ' H' e y) :
    Ext K ρ' H' ρ' (L2.upd H' T (.tup [x, y])) ∧ Rel K ρ' (L2.upd H' T (.tup [x, y])) A ∧ Rp K ρ' (L2.upd H' T (.tup [x, y])) (.tup [d, e]) (.ref T) := by
  have ex : Ext K ρ' H' ρ' (L2.upd H' T (.tup [x, y])) := Ext.new0 hT
  exact ⟨ex, R.new0 hT, T, [x, y], rfl, .inl (.inl upd_same), x, [y], rfl, r1.ext ex, y, [], rfl, r2.ext ex, rfl⟩
theorem ite_rel {a : Addr} {n : Nat} {ds : List D} (ha : ρ[n]? = some a) : ItRel K (Ite K a) ρ H ⟨enumL 0 ds, fun A => rdL A (.ref n) = some ds⟩ := fun i ρ' H' A e R ok => by
  have ha' := e.at_ ha
  obtain ⟨b, xs, eb, h', r'⟩ := rdL_ok R (show Rp K ρ' H' (.ref n) (.ref a) from ⟨a, ha', rfl⟩) ok
  cases eb
  refine ⟨fun d hd => ?_, fun hl _ => ⟨xs, h', by rw [r'.length]; rw [show (Src.items ⟨enumL 0 ds, fun A => rdL A (.ref n) = some ds⟩).length = ds.length from enumL_len 0 ds] at hl; exact hl⟩⟩
  have hd : (enumL 0 ds)[i]? = some d := hd
  rw [enumL_get] at hd
  cases ei : ds[i]? with
  | none => rw [ei] at hd; cases hd
  | some d0 =>
    rw [ei] at hd
    cases hd
    obtain ⟨v, q1, q2⟩ := r'.get ei
    refine ⟨⟨xs, v, h', q1⟩, fun x H2 hy => ?_⟩
    obtain ⟨T, w, rfl, hT, rfl, fv⟩ := hy
    have := fv _ h'
    rw [q1] at this; cases this
    rw [Nat.zero_add]
    exact pair_new R hT rfl q2
theorem itz_rel {a b : Addr} {m n : Nat} {ds es : List D} (ha : ρ[m]? = some a) (hb : ρ[n]? = some b) : ItRel K (Itz K a b) ρ H ⟨zipD ds es, fun A => rdL A (.ref m) = some ds ∧ rdL A (.ref n) = some es⟩ := fun i ρ' H' A e R ok => by
  obtain ⟨c, xs, eb, h1, r1⟩ := rdL_ok R (show Rp K ρ' H' (.ref m) (.ref a) from ⟨a, e.at_ ha, rfl⟩) ok.1
  cases eb
  obtain ⟨c, ys, eb, h2, r2⟩ := rdL_ok R (show Rp K ρ' H' (.ref n) (.ref b) from ⟨b, e.at_ hb, rfl⟩) ok.2
  cases eb
  refine ⟨fun d hd => ?_, fun hl _ => ⟨xs, ys, h1, h2, by
    have hl : (zipD ds es).length ≤ i := hl
    rw [r1.length, r2.length]; rw [zipD_len] at hl; omega⟩⟩
  obtain ⟨d1, d2, q1, q2, rfl⟩ := (zipD_get i ds es d).mp hd
  obtain ⟨v, q3, q4⟩ := r1.get q1
  obtain ⟨w, q5, q6⟩ := r2.get q2
  refine ⟨⟨xs, ys, v, w, h1, h2, q3, q5⟩, fun x H2 hy => ?_⟩
  obtain ⟨T, x1, y1, rfl, hT, rfl, f1, f2⟩ := hy
  have z1 := f1 _ h1
  have z2 := f2 _ h2
  rw [q3] at z1; cases z1
  rw [q5] at z2; cases z2
  exact pair_new R hT q4 q6
theorem itzT_rel {a b : Addr} {xs ys : List V} {ds es : List D} (h1 : SqT K H a xs) (r1 : RpL K ρ H ds xs) (h2 : SqT K H b ys) (r2 : RpL K ρ H es ys) : ItRel K (RZ.ItzT K a b) ρ H ⟨zipD ds es, yes⟩ := fun i ρ' H' A e R ok => by
  have h1 := e.gr _ _ h1
  have h2 := e.gr _ _ h2
  have r1 := r1.ext e
  have r2 := r2.ext e
  refine ⟨fun d hd => ?_, fun hl _ => ⟨xs, ys, h1, h2, by
    have hl : (zipD ds es).length ≤ i := hl
    rw [r1.length, r2.length]; rw [zipD_len] at hl; omega⟩⟩
  obtain ⟨d1, d2, q1, q2, rfl⟩ := (zipD_get i ds es d).mp hd
  obtain ⟨v, q3, q4⟩ := r1.get q1
  obtain ⟨w, q5, q6⟩ := r2.get q2
  refine ⟨⟨xs, ys, v, w, h1, h2, q3, q5⟩, fun x H2 hy => ?_⟩
  obtain ⟨T, x1, y1, rfl, hT, rfl, f1, f2⟩ := hy
  have z1 := f1 _ h1
  have z2 := f2 _ h2
  rw [q3] at z1; cases z1
  rw [q5] at z2; cases z2
  exact pair_new R hT q4 q6
end
section
variable {X : Cx} {E : XK} {e e2 : Expr} {f g : FE} {p pos tpos : Pos} {elts : List Expr} {kk : Nat}
theorem ai_enum (hg : Gl X "enumerate") (hm : X.mg "enumerate" = none) (he : AE X E e f) (h1 : starEach [e] X.env = (false, eval e X.env) :: starEach [] X.env := by rfl) : AI X E (.Tuple elts kk tpos) (.Call (.Name "enumerate" p) [e] [] pos) (fEnum f) := pi_mono (pi_enum (hs := h1) hg hm (aa_cons he aa_nil h1)) fun σ H Q h => by
  obtain ⟨ρ, s, A, hs, R, h⟩ := h
  have ef : fEnum f s A = (fCons f fNil s A).bind fun ds A1 => match ds with
      | [d] => match rdL A1 d with
        | some ds => .ok ⟨enumL 0 ds, fun A' => rdL A' d = some ds⟩ A1
        | none => .bad
      | _ => .bad := by
    unfold fEnum fCons fNil
    cases f s A with
    | bad => rfl
    | exc _ _ _ => rfl
    | ok d A1 => rfl
  rw [ef] at h
  refine ⟨ρ, s, A, hs, R, (Out.bindI h).mono fun xs H1 ⟨ρ1, ds, A1, _, e1, R1, r1, h1⟩ => ?_⟩
  split at h1
  · split at h1
    · rename_i d _ _ ds' e4
      obtain ⟨x, rfl, r2⟩ := r1.one_inv
      cases d with
      | ref n =>
        obtain ⟨a, us, rfl, q1, q2⟩ := rdL_ok R1 r2 e4
        obtain ⟨b, hb, eb⟩ := r2
        cases eb
        exact ⟨a, us, rfl, q1, h1 ρ1 H1 _ .refl R1 (ite_rel hb)⟩
      | _ => cases e4
    · exact h1.elim
  · exact h1.elim
theorem ai_zip (hg : Gl X "zip") (hm : X.mg "zip" = none) (he : AE X E e f) (he2 : AE X E e2 g) (h1 : starEach [e, e2] X.env = (false, eval e X.env) :: starEach [e2] X.env := by rfl) (h2 : starEach [e2] X.env = (false, eval e2 X.env) :: starEach [] X.env := by rfl) (hpl : (backTo pos (starEach [e2] X.env)).any (·.1) = false := by rfl) :
    AI X E (.Tuple elts kk tpos) (.Call (.Name "zip" p) [e, e2] [] pos) (fZip f g) := pi_mono (RZ.pi_zipA (hs := h1) (hpl := hpl) hg hm (aa_cons he (aa_cons he2 aa_nil h2) h1)) fun σ H Q h => by
  obtain ⟨ρ, s, A, hs, R, h⟩ := h
  have ef : fZip f g s A = (fCons f (fCons g fNil) s A).bind fun ds A2 => match ds with
      | [.tup xs, .tup ys] => .ok ⟨zipD xs ys, yes⟩ A2
      | [.ref m, .ref n] => match rdL A2 (.ref m), rdL A2 (.ref n) with
        | some xs, some ys => .ok ⟨zipD xs ys, fun A' => rdL A' (.ref m) = some xs ∧ rdL A' (.ref n) = some ys⟩ A2
        | _, _ => .bad
      | _ => .bad := by
    unfold fZip fCons
    cases f s A with
    | bad => rfl
    | exc _ _ _ => rfl
    | ok d A1 =>
      show (g s A1).bind _ = Res.bind (Res.bind (fCons g fNil s A1) _) _
      unfold fCons fNil
      cases g s A1 with
      | bad => rfl
      | exc _ _ _ => rfl
      | ok d' A2 => cases d <;> cases d' <;> rfl
  rw [ef] at h
  refine ⟨ρ, s, A, hs, R, (Out.bindI h).mono fun xs H1 ⟨ρ1, ds, A1, _, e1, R1, r1, h1⟩ => ?_⟩
  split at h1
  · obtain ⟨x, y, rfl, r2, r3⟩ := r1.two_inv
    obtain ⟨a, us, rfl, q1, q2⟩ := r2
    obtain ⟨b, ws, rfl, q3, q4⟩ := r3
    exact ⟨a, b, us, ws, rfl, .inr ⟨q1, q3, h1 ρ1 H1 _ .refl R1 (itzT_rel q1 q2 q3 q4)⟩⟩
  · split at h1
    · rename_i m n _ xs' ys' e4 e5
      obtain ⟨x, y, rfl, r2, r3⟩ := r1.two_inv
      obtain ⟨a, us, rfl, q1, q2⟩ := rdL_ok R1 r2 e4
      obtain ⟨b, ws, rfl, q3, q4⟩ := rdL_ok R1 r3 e5
      obtain ⟨a', ha, ea⟩ := r2
      cases ea
      obtain ⟨b', hb, eb⟩ := r3
      cases eb
      exact ⟨a, b, us, ws, rfl, .inl ⟨q1, q3, h1 ρ1 H1 _ .refl R1 (itz_rel ha hb)⟩⟩
    · exact h1.elim
  · exact h1.elim
end

/-! ## dict displays: the new dict is a cell from the start -/
abbrev FP := ASt → AH → Res (List (Key × D))
def fPs : List (FE × FE) → FP
  | [], _, A => .ok [] A
  | (k, v) :: r, s, A => (k s A).bind fun kd A1 => (v s A1).bind fun vd A2 => match keyOf kd with
    | some key => (fPs r s A2).bind fun ps A3 => .ok ((key, vd) :: ps) A3
    | none => .bad
def mergeD (kvs more : List (Key × D)) : List (Key × D) := more.foldl (fun acc kv => setK acc kv.1 kv.2) kvs
def fDisp (ps : List (FE × FE)) : FE := fun s A => (fPs ps s (A ++ [.dic []])).bind fun kds A1 => match A1[A.length]? with
  | some (.dic []) => if kds.length ≤ 15 then .ok (.ref A.length) (A1.set A.length (.dic (mergeD [] kds))) else .bad
  | _ => .bad
def fDict0 : FE := fun _ A => alloc (.dic []) A
inductive APs (X : Cx) (E : XK) (pos : Pos) : List (Option Expr) → List Expr → List (FE × FE) → Prop where
  | nil : APs X E pos [] [] []
  | cons {k v : Expr} {f g : FE} {ks : List (Option Expr)} {vs : List Expr} {fs : List (FE × FE)} (h : AE X E k f) (h' : AE X E v g) (r : APs X E pos ks vs fs) : APs X E pos (some k :: ks) (v :: vs) ((f, g) :: fs)
section
variable {X : Cx} {E : XK} {pos : Pos} {ks : List (Option Expr)} {vs : List Expr} {fs : List (FE × FE)}
theorem APs.pp (h : APs X E pos ks vs fs) : PPs X pos ks vs (fs.map fun p => (tA X.K E p.1, tA X.K E p.2)) := by
  induction h with
  | nil => exact pps_nil
  | cons h h' _ ih => exact pps_cons h h' ih
theorem mergeD_ok {K : PySem.W.Frag} {ρ : List Addr} {H : Hp} : ∀ {more : List (Key × D)} {mu : List (Key × V)} {kvs : List (Key × D)} {us : List (Key × V)}, RpK K ρ H more mu → RpK K ρ H kvs us → RpK K ρ H (mergeD kvs more) (mergeK us mu)
  | [], mu, kvs, us, h, q => by rw [show mu = [] from h]; exact q
  | p :: ps, mu, kvs, us, h, q => by
    obtain ⟨v, r, rfl, h2, h3⟩ := h
    exact mergeD_ok (more := ps) (mu := r) h3 (setK_ok (k := p.1) q h2)
abbrev OutP (K : PySem.W.Frag) (E : XK) := Out (α := List (Key × D)) (β := List (Key × V)) K E (fun ρ H d v => RpK K ρ H d v)
theorem ps_read {K : PySem.W.Frag} {σ : L2.St} : ∀ (fs : List (FE × FE)) (ρ : List Addr) (s : ASt) (A : AH) (H : Hp) (Q : List (Key × V) → Hp → Prop) (Q' : List (V × V) → Hp → Prop), (∀ us H', Q us H' → Q' (us.map fun kv => (kV kv.1, kv.2)) H') → SRel K ρ H s σ → Rel K ρ H A → OutP K E ρ H (fPs fs s A) Q →
    tPairs (fs.map fun p => (tA K E p.1, tA K E p.2)) σ H Q'
  | [], ρ, s, A, H, Q, Q', m, hs, R, h => m [] H (Out.now h R rfl)
  | p :: fs, ρ, s, A, H, Q, Q', m, hs, R, h => by
    refine ⟨ρ, s, A, hs, R, (Out.bind h).mono fun x H1 ⟨ρ1, d, A1, _, e1, R1, r1, h1⟩ => ⟨ρ1, s, A1, hs.ext e1, R1, (Out.bind h1).mono fun y H2 ⟨ρ2, d2, A2, _, e2, R2, r2, h2⟩ => ?_⟩⟩
    split at h2
    · rename_i key ek
      have ex := keyOf_ok (r1.ext e2) ek
      subst ex
      refine ps_read fs ρ2 s A2 H2 (fun us H3 => Q ((key, y) :: us) H3) _ (fun us H' q => m _ H' q) (hs.ext (e1.trans e2)) R2 ((Out.bind h2).mono fun us H3 ⟨ρ3, ps, A3, _, e3, R3, r3, h3⟩ => ?_)
      exact Out.now h3 R3 ⟨y, us, rfl, r2.ext e3, r3⟩
    · exact h2.elim
theorem ae_disp (h : APs X E pos ks vs fs) (hall : ks.all (·.isSome) = true := by rfl) (hl : ks.length = vs.length := by rfl) (h0 : ks ≠ [] := by exact fun z => nomatch z) (h15 : ks.length ≤ 15 := by decide) : AE X E (.Dict ks vs pos) (fDisp fs) := pe_mono (pe_disp h.pp hall hl h0 h15) fun σ H Q h => by
  obtain ⟨ρ, s, A, hs, R, h⟩ := h
  intro p hp
  have e0 : Ext X.K ρ H (ρ ++ [p]) (L2.upd H p (.dK [])) := Ext.new hp [p]
  have R0 : Rel X.K (ρ ++ [p]) (L2.upd H p (.dK [])) (A ++ [.dic []]) := R.new hp ⟨[], upd_same, rfl⟩
  have np : (ρ ++ [p])[A.length]? = some p := by rw [← R.len]; simp
  have h := Out.ext h e0
  refine ps_read fs (ρ ++ [p]) s (A ++ [.dic []]) _ (fun us H2 => H2 p = some (.dK []) ∧ us.length ≤ 15 ∧ Q (.ref p) (L2.upd H2 p (.dK (mergeK [] us)))) _ (fun us H' q => ⟨q.1, us, rfl, q.2⟩) (hs.ext e0) R0 ((Out.bind h).mono fun us H3 ⟨ρ3, kds, A3, _, e3, R3, r3, h3⟩ => ?_)
  split at h3
  · rename_i eA
    split at h3
    · rename_i z
      obtain ⟨a, ha, us0, q1, q2⟩ := R3.ob _ _ eA
      rw [e3.at_ np] at ha; cases ha
      rw [show us0 = [] from q2] at q1
      have u := upd_dic R3 (e3.at_ np) eA q1 (mergeD_ok (more := kds) (mu := us) (kvs := []) (us := []) r3 rfl)
      exact ⟨q1, by rw [r3.length]; exact z, h3 ρ3 _ (.ref p) u.1 u.2 ⟨p, e3.at_ np, rfl⟩⟩
    · exact h3.elim
  · exact h3.elim
theorem ae_dict0 : AE X E (.Dict [] [] pos) fDict0 := pe_mono pe_dnewK fun σ H Q h => by
  obtain ⟨ρ, s, A, hs, R, h⟩ := h
  exact new_dic (kvs := []) (us := []) R rfl h
end

/-! ## the law's own end -/
theorem sp_law {m : FM} (h : ∀ ns : List Int, ns.length ≤ 63 → ∃ A', m [.ref 0] [.frz (ns.map D.int)] = .ok (.bl true) A') :
    ∀ (K : PySem.W.Frag) (H : Hp) (a : Addr) (ns : List Int), ns.length ≤ 63 → Only H → SqL K H a (ns.map V.int) → spM K 1 m [.ref a] H (fun v _ => v = .bl true) fun _ _ _ => False := fun K H a ns hl hO hS => by
  obtain ⟨A', e⟩ := h ns hl
  have rl : ∀ l : List Int, RpL K [a] H (l.map D.int) (l.map V.int) := by
    intro l
    induction l with
    | nil => rfl
    | cons k l ih => exact ⟨_, _, rfl, rfl, ih⟩
  have f : SqF K H a (ns.map V.int) := by
    rcases hS with (hS | ⟨o, hS⟩) | hS
    · rcases hO a with z | ⟨o, xs, z⟩
      · rw [hS] at z; cases z
      · rw [hS] at z; cases z
    · exact .inl ⟨o, hS⟩
    · exact .inr (.inr hS)
  have R : Rel K [a] H [.frz (ns.map D.int)] := ⟨rfl, fun i j b o u h1 h2 h3 h4 f1 _ => by
    have hi : i = 0 := by have := (List.getElem?_eq_some_iff.mp h3).1; simp at this; exact this
    subst hi
    cases h3
    exact Bool.noConfusion f1, fun i o hi => by
    have hi0 : i = 0 := by have := (List.getElem?_eq_some_iff.mp hi).1; simp at this; exact this
    subst hi0
    cases hi
    exact ⟨a, rfl, _, f, rl ns⟩⟩
  refine ⟨[a], _, [.ref 0], R, ⟨_, [], rfl, ⟨a, rfl, rfl⟩, rfl⟩, rfl, ?_⟩
  rw [e]
  exact fun ρ' H' v _ _ r => r
end Ab
namespace Ab
open PySem PySem.Spec PyProof.Rows L2
section
variable {P : Program} {w : World} {K : PySem.W.Frag} {mg : Str → Option Value} {base : Heap} {k : Nat} {f : Addr} {fd : FuncData} {ps : List Str} {m : FM}
theorem adef_bad : ADef P w K mg base k f fd ps (fun _ _ => .bad) := by
  have no : ∀ vs H Q E, ¬ spM K ps.length (fun _ _ => .bad) vs H Q E := fun vs H Q E ⟨ρ, A, ds, R, r, z, q⟩ => q
  exact ⟨fun vs H Q E h => absurd h (no vs H Q E), fun A outer s H args us vs Q E _ _ _ _ h => absurd h (no vs H Q E)⟩
theorem adef_up {n L : Nat} (h : ADef P w K mg base (n + L + 1) f fd ps m) : ADef P w K mg base (n + 1 + L) f fd ps m := FnOk.mono h (by omega)
theorem u65 {A : Around} (hr : Room k A) : A.units + 65 < cLine := by have := hr.un; omega
end
end Ab

namespace Ab
open PySem PySem.Spec PyProof.Rows L2

/-! ## list.index of a plain value that is there -/
section
variable {X : Cx} {E : XK}
def firstV (y : V) : List V → Nat → Option Nat
  | [], _ => none
  | z :: zs, k => if eqV z y = true then some k else firstV y zs (k + 1)
theorem firstV_ok {y : V} : ∀ {zs : List V} {k j : Nat}, firstV y zs k = some j → ∃ i z, j = k + i ∧ zs[i]? = some z ∧ eqV z y = true ∧ ∀ (m : Nat) (z' : V), m < i → zs[m]? = some z' → eqV z' y = false
  | [], k, j, h => by cases h
  | z :: zs, k, j, h => by
    rw [firstV] at h
    split at h
    · rename_i e
      cases h
      exact ⟨0, z, rfl, rfl, e, fun m z' hm _ => absurd hm (Nat.not_lt_zero _)⟩
    · rename_i e
      obtain ⟨i, w, h1, h2, h3, h4⟩ := firstV_ok h
      refine ⟨i + 1, w, by omega, by simpa using h2, h3, fun m z' hm hz => ?_⟩
      cases m with
      | zero => cases hz; simpa using e
      | succ m => exact h4 m z' (by omega) (by simpa using hz)
def indexD (d : D) : FM
  | [y], A => match rdL A d with
    | some xs => match toV y, toVs xs with
      | some v, some vs => match firstV v vs 0 with
        | some j => .ok (.int (j : Nat)) A
        | none => .bad
      | _, _ => .bad
    | none => .bad
  | _, _ => .bad
theorem amt_index : AMt X E "list.index" indexD := mtm_mono mt_index fun x xs H Q h => by
  obtain ⟨ρ, A, d, ds, R, r, rs, h⟩ := h
  unfold indexD at h
  split at h
  · split at h
    · rename_i xs' eX
      split at h
      · rename_i v vs e1 e2
        split at h
        · rename_i j ej
          obtain ⟨a, us, rfl, q1, q2⟩ := rdL_ok R r eX
          obtain ⟨y, rfl, ry⟩ := rs.one_inv
          obtain ⟨rfl, fv⟩ := toV_ok ry e1
          obtain ⟨rfl, fvs⟩ := toVs_ok q2 e2
          obtain ⟨i, z, h1, h2, h3, h4⟩ := firstV_ok ej
          rw [Nat.zero_add] at h1
          subst h1
          exact ⟨a, us, y, j, z, rfl, rfl, q1, fv, fvs, h2, h3, h4, h.now R rfl⟩
        · exact h.elim
      · exact h.elim
    · exact h.elim
  · exact h.elim

/-! ## == and != of two dicts that are alike -/
def alike (ks ls : List (Key × D)) : Prop := ks.length = ls.length ∧ ∀ p ∈ ks, ∃ v, toV p.2 = some v ∧ ∃ d, getK ls p.1 = some d ∧ toV d = some v
theorem alike_ok {K : PySem.W.Frag} {ρ : List Addr} {H : Hp} {ks ls : List (Key × D)} {us vs : List (Key × V)} (h : alike ks ls) (r1 : RpK K ρ H ks us) (r2 : RpK K ρ H ls vs) :
    us.length = vs.length ∧ ∀ p ∈ us, valV vs p.1 = some p.2 ∧ flatB p.2 = true := by
  refine ⟨by rw [r1.length, r2.length]; exact h.1, ?_⟩
  have all : ∀ {ks : List (Key × D)} {us : List (Key × V)}, RpK K ρ H ks us → (∀ p ∈ ks, ∃ v, toV p.2 = some v ∧ ∃ d, getK ls p.1 = some d ∧ toV d = some v) → ∀ p ∈ us, valV vs p.1 = some p.2 ∧ flatB p.2 = true := by
    intro ks
    induction ks with
    | nil => intro us r _ p hp; rw [show us = [] from r] at hp; cases hp
    | cons k ks ih =>
      intro us r hk p hp
      obtain ⟨v, q, rfl, h2, h3⟩ := r
      rcases List.mem_cons.mp hp with e | e
      · subst e
        obtain ⟨w, t1, d, g, t2⟩ := hk k (List.mem_cons_self ..)
        obtain ⟨rfl, fv⟩ := toV_ok h2 t1
        have z := getK_ok (k := k.1) r2
        rw [g] at z
        obtain ⟨w, z1, z2⟩ := z
        obtain ⟨rfl, _⟩ := toV_ok z2 t2
        refine ⟨z1, ?_⟩
        show flatB w = true
        cases w <;> first | rfl | cases fv
      · exact ih h3 (fun p hp => hk p (List.mem_cons_of_mem _ hp)) p e
  exact all r1 h.2
open scoped Classical in
noncomputable def eqX (d e : D) (A : AH) : Res D := match rdM A d, rdM A e with
  | some ks, some ls => if alike ks ls then .ok (.bl true) A else .bad
  | _, _ => .bad
open scoped Classical in
noncomputable def neX (d e : D) (A : AH) : Res D := match rdM A d, rdM A e with
  | some ks, some ls => if alike ks ls then .ok (.bl false) A else .bad
  | _, _ => .bad
theorem aop_eqX (hu : X.A.units + 64 < cLine) : AOp X E (compareOp .Eq) eqX := op_mono (op_eq_dictA (by omega)) fun x y H Q h => by
  obtain ⟨ρ, A, d, e, R, r1, r2, h⟩ := h
  unfold eqX at h
  split at h
  · split at h
    · rename_i ks ls e1 e2 z
      obtain ⟨i, a, us, rfl, rfl, _, _, q1, q2⟩ := rdM_ok R r1 e1
      obtain ⟨j, b, vs, rfl, rfl, _, _, q3, q4⟩ := rdM_ok R r2 e2
      have w := alike_ok z q2 q4
      exact ⟨a, b, us, vs, rfl, rfl, q1, q3, w.1, w.2, h.now R rfl⟩
    · exact h.elim
  · exact h.elim
theorem aop_neX (hu : X.A.units + 64 < cLine) : AOp X E (compareOp .NotEq) neX := op_mono (op_ne_dictA (by omega)) fun x y H Q h => by
  obtain ⟨ρ, A, d, e, R, r1, r2, h⟩ := h
  unfold neX at h
  split at h
  · split at h
    · rename_i ks ls e1 e2 z
      obtain ⟨i, a, us, rfl, rfl, _, _, q1, q2⟩ := rdM_ok R r1 e1
      obtain ⟨j, b, vs, rfl, rfl, _, _, q3, q4⟩ := rdM_ok R r2 e2
      have w := alike_ok z q2 q4
      exact ⟨a, b, us, vs, rfl, rfl, q1, q3, w.1, w.2, h.now R rfl⟩
    · exact h.elim
  · exact h.elim

/-! ## d.update(e) -/
def mergeV (kvs more : List (Key × V)) : List (Key × V) := more.foldl (fun acc kv => putK acc kv.1 kv.2) kvs
theorem merged_kv : ∀ {more : List (Key × V)} {mu : List (Key × Value)} {kvs : List (Key × V)} {us : List (Key × Value)}, KV more mu → KV kvs us → KV (mergeV kvs more) (merged us mu)
  | _, _, kvs, us, .nil, q => q
  | _, _, kvs, us, @Paired.cons _ _ _ p u ps qs h t, q => by
    obtain ⟨h1, h2⟩ := h
    have := merged_kv t (q.put p.1 h2)
    rw [h1] at this
    show KV (mergeV (putK kvs p.1 p.2) ps) (merged (stored us u.1 u.2) qs)
    rw [← h1] at this ⊢
    exact this
theorem length_mergeV : ∀ (more kvs : List (Key × V)), (mergeV kvs more).length ≤ kvs.length + more.length
  | [], kvs => Nat.le_refl _
  | p :: ps, kvs => by
    have h1 := length_mergeV ps (putK kvs p.1 p.2)
    have h2 := length_putK kvs p.1 p.2
    show (mergeV (putK kvs p.1 p.2) ps).length ≤ _
    rw [List.length_cons]
    omega
theorem mt_update : MtR X "dict.update" fun x xs H Q => ∃ (a b : Addr) (kvs more : List (Key × V)), x = .ref a ∧ xs = [.ref b] ∧ a ≠ b ∧ H a = some (.dK kvs) ∧ H b = some (.dK more) ∧ kvs.length + more.length ≤ sizeLine ∧ Q .non (upd H a (.dK (mergeV kvs more))) := by
  intro pins s σ H x xs v us Q I rx rxs h
  obtain ⟨a, b, kvs, more, rfl, rfl, hne, ea, eb, z, q⟩ := h
  obtain rfl : v = Value.ref a := rx
  rw [Vals.ref1 rxs]
  obtain ⟨_, hd, vs, rel, dd⟩ := dk_of I.hok ea
  obtain ⟨_, hd2, ws, rel2, dd2⟩ := dk_of I.hok eb
  refine call_meetsIn PySem.F.slot_dict_update dd.typeIs PySem.F.entry_dict_update (PySem.F.args_dict_update_2 _ _) (meets_dict_update (mixKind X.prog X.w) a b hne hd2)
    ⟨vs, ws, dd, dd2, by rw [← rel.length, ← rel2.length]; exact z, fun h' dd' _ hs => ?_⟩
  have he : ∃ q, h'.get? a = some q := let ⟨q, _, _, hq, _⟩ := dd'; ⟨q, hq⟩
  exact ⟨.non, _, d_write (t' := s.toks) I (by rw [ea]; exact True.intro) hs he (dk_new (Nat.le_trans (length_mergeV _ _) z) hd (merged_kv rel2 rel) dd'), rfl, q⟩
def updateD (d : D) : FM
  | [.ref j], A => match d with
    | .ref n => match A[n]?, A[j]? with
      | some (.dic ks), some (.dic ls) => if n ≠ j ∧ ks.length + ls.length ≤ sizeLine then .ok .non (A.set n (.dic (mergeD ks ls))) else .bad
      | _, _ => .bad
    | _ => .bad
  | _, _ => .bad
theorem merge_ok {K : PySem.W.Frag} {ρ : List Addr} {H : Hp} : ∀ {more : List (Key × D)} {mu : List (Key × V)} {kvs : List (Key × D)} {us : List (Key × V)}, RpK K ρ H more mu → RpK K ρ H kvs us → RpK K ρ H (mergeD kvs more) (mergeV us mu)
  | [], mu, kvs, us, h, q => by rw [show mu = [] from h]; exact q
  | p :: ps, mu, kvs, us, h, q => by
    obtain ⟨v, r, rfl, h2, h3⟩ := h
    exact merge_ok (more := ps) (mu := r) h3 (setK_ok (k := p.1) q h2)
theorem amt_update : AMt X E "dict.update" updateD := mtm_mono mt_update fun x xs H Q h => by
  obtain ⟨ρ, A, d, ds, R, r, rs, h⟩ := h
  unfold updateD at h
  split at h
  · rename_i j
    split at h
    · rename_i n
      split at h
      · rename_i ks ls e1 e2
        split at h
        · rename_i z
          obtain ⟨a, ha, rfl⟩ := r
          obtain ⟨a', ha', us, q1, q2⟩ := R.ob _ _ e1
          rw [ha] at ha'; cases ha'
          obtain ⟨y, rfl, ry⟩ := rs.one_inv
          obtain ⟨b, hb, rfl⟩ := ry
          obtain ⟨b', hb', ws, q3, q4⟩ := R.ob _ _ e2
          rw [hb] at hb'; cases hb'
          have hne : a ≠ b := fun e => z.1 (R.nd n j a _ _ ha (by rw [hb, e]) e1 e2 rfl rfl)
          have u := upd_dic R ha e1 q1 (merge_ok q4 q2)
          exact ⟨a, b, us, ws, rfl, rfl, hne, q1, q3, by rw [q2.length, q4.length]; exact z.2, h ρ _ .non u.1 u.2 rfl⟩
        · exact h.elim
      · exact h.elim
    · exact h.elim
  · exact h.elim
/-! ## xs.pop(i), i from the front -/
theorem RpL.eraseIdx {K : PySem.W.Frag} {ρ : List Addr} {H : Hp} : ∀ {ds : List D} {xs : List V} (k : Nat), RpL K ρ H ds xs → RpL K ρ H (ds.eraseIdx k) (xs.eraseIdx k)
  | [], xs, k, r => by rw [show xs = [] from r]; exact rfl
  | d :: ds, xs, 0, r => by obtain ⟨x, r', rfl, _, h⟩ := r; exact h
  | d :: ds, xs, k + 1, r => by obtain ⟨x, r', rfl, h1, h⟩ := r; exact ⟨x, _, rfl, h1, RpL.eraseIdx k h⟩
def popAtD (d : D) : FM
  | [.int i], A => match d with
    | .ref n => match A[n]? with
      | some (.lst xs) => if 0 ≤ i ∧ i < 2 ^ 62 then (match xs[i.toNat]? with
        | some y => .ok y (A.set n (.lst (xs.eraseIdx i.toNat)))
        | none => .bad) else .bad
      | _ => .bad
    | _ => .bad
  | _, _ => .bad
theorem amt_popAt : AMt X E "list.pop" popAtD := mtm_mono mt_popAt fun x xs H Q h => by
  obtain ⟨ρ, A, d, ds, R, r, rs, h⟩ := h
  unfold popAtD at h
  split at h
  · rename_i i
    split at h
    · split at h
      · split at h
        · rename_i xs' eA z
          split at h
          · rename_i y eY
            obtain ⟨a, ha, rfl⟩ := r
            obtain ⟨a', ha', us, q1, q2⟩ := R.ob _ _ eA
            rw [ha] at ha'; cases ha'
            obtain ⟨v, e1, e2⟩ := q2.get eY
            obtain ⟨w, rfl, rw'⟩ := rs.one_inv
            cases rw'
            have hl : i.toNat < us.length := (List.getElem?_eq_some_iff.mp e1).1
            have u := upd_lst (ds := xs') R ha eA q1 (RpL.eraseIdx i.toNat q2)
            exact ⟨a, us, i, i.toNat, v, rfl, rfl, q1, by omega, by omega, by unfold seqIndex?; simp; omega, e1, h ρ _ v u.1 u.2 (e2.ext u.1)⟩
          · exact h.elim
        · exact h.elim
      · exact h.elim
    · exact h.elim
  · exact h.elim
end
end Ab

namespace Ab
open PySem PySem.Spec PyProof.Rows L2
open scoped Classical
/-! ## sep.join(list of texts), text * int, t != () -/
section
variable {X : Cx} {E : XK}
theorem strsOfL_ok {K : PySem.W.Frag} {ρ : List Addr} {H : Hp} : ∀ {ds : List D} {vs : List V} {ys : List Str}, RpL K ρ H ds vs → ds = ys.map D.str → vs = ys.map V.str
  | [], vs, ys, r, h => by
    cases ys with
    | nil => exact r
    | cons y ys => cases h
  | d :: ds, vs, ys, r, h => by
    cases ys with
    | nil => cases h
    | cons y ys =>
      rw [List.map_cons, List.cons.injEq] at h
      obtain ⟨rfl, h⟩ := h
      obtain ⟨x, q, rfl, r1, r2⟩ := r
      cases r1
      rw [strsOfL_ok r2 h]; rfl
noncomputable def joinD (d : D) : FM
  | [y], A => match d, rdL A y with
    | .str a, some xs => if h : ∃ ys : List Str, xs = ys.map D.str ∧ (ys.map (·.length)).sum + ys.length * a.length ≤ 16777216 then .ok (.str (Txt.join a h.choose)) A else .bad
    | _, _ => .bad
  | _, _ => .bad
theorem amt_join : AMt X E "str.join" joinD := mtm_mono mt_join fun x xs H Q h => by
  obtain ⟨ρ, A, d, ds, R, r, rs, h⟩ := h
  unfold joinD at h
  split at h
  · split at h
    · rename_i a xs' eX
      split at h
      · rename_i hh
        obtain ⟨h1, h2⟩ := hh.choose_spec
        generalize hh.choose = ys at *
        cases r
        obtain ⟨y, rfl, ry⟩ := rs.one_inv
        obtain ⟨p, us, rfl, q1, q2⟩ := rdL_ok R ry eX
        have := strsOfL_ok q2 h1
        subst this
        exact ⟨a, p, ys, rfl, rfl, .inl q1, h2, h.now R rfl⟩
      · exact h.elim
    · exact h.elim
  · exact h.elim
theorem str_inj : ∀ {xs ys : List Str}, xs.map D.str = ys.map D.str → xs = ys
  | [], [], _ => rfl
  | [], _ :: _, h => by cases h
  | _ :: _, [], h => by cases h
  | x :: xs, y :: ys, h => by
    rw [List.map_cons, List.map_cons, List.cons.injEq] at h
    obtain ⟨h1, h2⟩ := h
    injection h1 with h1
    rw [h1, str_inj h2]
theorem ev_join {A : AH} {n : Nat} {a : Str} {ys : List Str} (h : rdL A (.ref n) = some (ys.map D.str)) (z : (ys.map (·.length)).sum + ys.length * a.length ≤ 16777216) : joinD (.str a) [.ref n] A = .ok (.str (Txt.join a ys)) A := by
  have hh : ∃ zs : List Str, ys.map D.str = zs.map D.str ∧ (zs.map (·.length)).sum + zs.length * a.length ≤ 16777216 := ⟨ys, rfl, z⟩
  unfold joinD
  simp only [h]
  rw [dif_pos hh, ← str_inj hh.choose_spec.1]
/-! ### text * int -/
theorem op_mulS : OpR X (binaryOp .Mult) (fun x y H Q => ∃ a n, x = .str a ∧ y = .int n ∧ 0 ≤ n ∧ n ≤ 1000 ∧ a.length ≤ 1000 ∧ Q (.str (Txt.mul a n)) H) := by
  intro pins s σ H x y v u Q I rx ry h
  obtain ⟨a, n, rfl, rfl, n0, n1, al, q⟩ := h
  obtain ⟨t, rfl⟩ := rx
  obtain ⟨t', rfl⟩ := ry
  have len : (⟨(List.replicate n.toNat a.cps).foldl (· ++ ·) #[]⟩ : Str).length ≤ 1000 * 1000 := by
    have : ∀ (k : Nat) (acc : Array Nat), ((List.replicate k a.cps).foldl (· ++ ·) acc).size = acc.size + k * a.length := by
      intro k
      induction k with
      | zero => intro acc; simp
      | succ k ih =>
        intro acc
        rw [List.replicate_succ, List.foldl_cons, ih, Array.size_append, Nat.succ_mul]
        show acc.size + a.length + _ = _
        omega
    show ((List.replicate n.toNat a.cps).foldl (· ++ ·) #[]).size ≤ _
    rw [this]
    have h1 : n.toNat ≤ 1000 := by omega
    have := Nat.mul_le_mul h1 al
    simp only [Array.size_empty]; omega
  refine P.mul_str (by rw [decide_eq_false (by omega), decide_eq_false (by omega)]; rfl) (fun h1 h2 => ?_) (fun h1 h2 => ?_) ?_
  · have : (1000 : Int) ≤ (2 ^ 63 - 1) / n := by
      rw [Int.le_ediv_iff_mul_le (by omega)]
      omega
    omega
  · have h1 : n.toNat ≤ 1000 := by omega
    have := Nat.mul_le_mul al h1
    exact decide_eq_false (by simp only [Nat.not_lt, sizeLine] at *; omega)
  · unfold Txt.mul at q
    split
    · rename_i h1
      rw [if_pos h1] at q
      exact ⟨by decide, .str _, H, I.tok _, ⟨_, rfl⟩, q⟩
    · rename_i h1
      rw [if_neg h1] at q
      split
      · rename_i h2
        rw [if_pos h2] at q
        exact ⟨.str a, H, I, ⟨_, rfl⟩, q⟩
      · rename_i h2
        rw [if_neg h2] at q
        exact ⟨Nat.le_trans len (by decide), .str _, H, I.tok _, ⟨_, rfl⟩, q⟩
def mulSD : D → D → AH → Res D
  | .str a, .int n, A => if 0 ≤ n ∧ n ≤ 1000 ∧ a.length ≤ 1000 then .ok (.str (Txt.mul a n)) A else .bad
  | _, _, _ => .bad
theorem aop_mulS : AOp X E (binaryOp .Mult) mulSD := op_mono op_mulS fun x y H Q h => by
  obtain ⟨ρ, A, d, e, R, r1, r2, h⟩ := h
  unfold mulSD at h
  split at h
  · split at h
    · rename_i a n z
      cases r1; cases r2
      exact ⟨a, n, rfl, rfl, z.1, z.2.1, z.2.2, h.now R rfl⟩
    · exact h.elim
  · exact h.elim
theorem ev_mulS {a : Str} {n : Int} {A : AH} (z : 0 ≤ n ∧ n ≤ 1000 ∧ a.length ≤ 1000) : mulSD (.str a) (.int n) A = .ok (.str (Txt.mul a n)) A := if_pos z
/-! ### t != () -/
theorem op_neNilT (hu : X.A.units < cLine) : OpR X (compareOp .NotEq) (fun x y H Q => ∃ l b xs ys, x = .ref l ∧ y = .ref b ∧ SqT X.K H l xs ∧ SqT X.K H b ys ∧ (xs = [] ∨ ys = []) ∧ Q (.bl (!decide (xs.length = ys.length))) H) := by
  intro pins s σ H x y v u Q I rx ry h
  obtain ⟨l, b, xs, ys, rfl, rfl, h1, h2, hn, q⟩ := h
  cases rx
  cases ry
  obtain ⟨its, rv, ⟨⟨cls, dd, data, sl⟩, ho, hc, n, hd⟩, _⟩ := I.tuple h1
  obtain ⟨its2, rv2, ⟨⟨cls2, dd2, data2, sl2⟩, ho2, hc2, n2, hd2⟩, _⟩ := I.tuple h2
  simp only at hc hd hc2 hd2
  subst hc hd hc2 hd2
  have l1 := rv.length
  have l2 := rv2.length
  have ta : s.TypeIs (.ref l) "tuple" := ⟨_, ho, rfl⟩
  have tb : s.TypeIs (.ref b) "tuple" := ⟨_, ho2, rfl⟩
  have z : min its.toArray.size its2.toArray.size = 0 := by
    rw [List.size_toArray, List.size_toArray]
    rcases hn with h | h
    · have : xs.length = 0 := by rw [h]; rfl
      omega
    · have : ys.length = 0 := by rw [h]; rfl
      omega
  have r : (!((List.range (min its.toArray.size its2.toArray.size)).all (fun _ => true) && its.toArray.size == its2.toArray.size)) = !decide (xs.length = ys.length) := by
    rw [z]
    simp only [List.range_zero, List.all_nil, Bool.true_and, List.size_toArray, ← l1, ← l2]
    rfl
  rw [← r] at q
  exact wpAny_richCompare_same_room (op := .NotEq) ta tb PySem.F.slot_tuple_ne (call_meets PySem.F.slot_tuple_ne ta PySem.F.entry_tuple_ne (PySem.F.args_tuple_ne_2 _ _) (SeqAt.tuple_neAt l b _ _ n n2 dd dd2 sl sl2 fun _ => true)
    ⟨ho, ho2, (fun j h1 h2 => absurd z (by omega)), (fun x => nomatch x), ⟨.bl _, H, I, rfl, q⟩⟩) hu
def neNilT (d e : D) (A : AH) : Res D := match d, e with
  | .tup xs, .tup ys => if xs.isEmpty || ys.isEmpty then .ok (.bl (!decide (xs.length = ys.length))) A else .bad
  | _, _ => .bad
theorem aop_neNilT (hu : X.A.units + 64 < cLine) : AOp X E (compareOp .NotEq) neNilT := op_mono (op_neNilT (by omega)) fun x y H Q h => by
  obtain ⟨ρ, A, d, e, R, r1, r2, h⟩ := h
  unfold neNilT at h
  split at h
  · split at h
    · rename_i as bs z
      obtain ⟨l, xs, rfl, q1, q2⟩ := r1
      obtain ⟨m, ys, rfl, q3, q4⟩ := r2
      refine ⟨l, m, xs, ys, rfl, rfl, q1, q3, ?_, by rw [q2.length, q4.length]; exact h.now R rfl⟩
      rw [Bool.or_eq_true] at z
      rcases z with z | z
      · have : as = [] := by simpa using z
        subst this
        exact .inl (show xs = [] from q2)
      · have : bs = [] := by simpa using z
        subst this
        exact .inr (show ys = [] from q4)
    · exact h.elim
  · exact h.elim
theorem ev_neNilT {A : AH} {xs : List D} : neNilT (.tup xs) (.tup []) A = .ok (.bl (!xs.isEmpty)) A := by
  unfold neNilT
  cases xs <;> rfl
end
end Ab

namespace Ab
open PySem PySem.Spec PyProof.Rows L2
open scoped Classical
/-! ## xs == [], xs != [] for any list -/
section
variable {X : Cx} {E : XK}
theorem op_eqNil (hu : X.A.units < cLine) : OpR X (compareOp .Eq) (fun x y H Q => ∃ l b xs ys, x = .ref l ∧ y = .ref b ∧ SqL X.K H l xs ∧ SqL X.K H b ys ∧ (xs = [] ∨ ys = []) ∧ Q (.bl (decide (xs.length = ys.length))) H) := by
  intro pins s σ H x y v u Q I rx ry h
  obtain ⟨l, b, xs, ys, rfl, rfl, h1, h2, hn, q⟩ := h
  cases rx
  cases ry
  obtain ⟨its, rv, ⟨⟨cls, dd, data, sl⟩, n, ho, hc, hdn, hd⟩, _⟩ := I.list h1
  obtain ⟨its2, rv2, ⟨⟨cls2, dd2, data2, sl2⟩, n2, ho2, hc2, hdn2, hd2⟩, _⟩ := I.list h2
  simp only at hc hd hc2 hd2
  subst hc hd hc2 hd2
  have l1 := rv.length
  have l2 := rv2.length
  have ta : s.TypeIs (.ref l) "list" := ⟨_, ho, rfl⟩
  have tb : s.TypeIs (.ref b) "list" := ⟨_, ho2, rfl⟩
  by_cases e : xs.length = ys.length
  · have ex : xs.length = 0 := by
      rcases hn with h | h
      · rw [h]; rfl
      · rw [e, h]; rfl
    rw [decide_eq_true e] at q
    have z1 : its = [] := List.eq_nil_of_length_eq_zero (by omega)
    have z2 : its2 = [] := List.eq_nil_of_length_eq_zero (by omega)
    subst z1 z2
    exact wpAny_richCompare_same_room (op := .Eq) ta tb PySem.F.slot_list_eq (call_meets PySem.F.slot_list_eq ta PySem.F.entry_list_eq (PySem.F.args_list_eq_2 _ _) (SeqAt.list_eqAt l b _ _ n n2 dd dd2 sl sl2 rfl fun _ => true)
      ⟨ho, ho2, (fun j h1 => absurd h1 (Nat.not_lt_zero _)), (fun x => nomatch x), ⟨.bl true, H, I, rfl, q⟩⟩) hu
  · rw [decide_eq_false e] at q
    exact wpAny_richCompare_same_room (op := .Eq) ta tb PySem.F.slot_list_eq (call_meets PySem.F.slot_list_eq ta PySem.F.entry_list_eq (PySem.F.args_list_eq_2 _ _) (SeqAt.list_eq_lengthsAt l b _ _ n n2 dd dd2 sl sl2 (by simp; omega))
      ⟨ho, ho2, (fun x => nomatch x), ⟨.bl false, H, I, rfl, q⟩⟩) hu
theorem op_neNil (hu : X.A.units < cLine) : OpR X (compareOp .NotEq) (fun x y H Q => ∃ l b xs ys, x = .ref l ∧ y = .ref b ∧ SqL X.K H l xs ∧ SqL X.K H b ys ∧ (xs = [] ∨ ys = []) ∧ Q (.bl (!decide (xs.length = ys.length))) H) := by
  intro pins s σ H x y v u Q I rx ry h
  obtain ⟨l, b, xs, ys, rfl, rfl, h1, h2, hn, q⟩ := h
  cases rx
  cases ry
  obtain ⟨its, rv, ⟨⟨cls, dd, data, sl⟩, n, ho, hc, hdn, hd⟩, _⟩ := I.list h1
  obtain ⟨its2, rv2, ⟨⟨cls2, dd2, data2, sl2⟩, n2, ho2, hc2, hdn2, hd2⟩, _⟩ := I.list h2
  simp only at hc hd hc2 hd2
  subst hc hd hc2 hd2
  have l1 := rv.length
  have l2 := rv2.length
  have ta : s.TypeIs (.ref l) "list" := ⟨_, ho, rfl⟩
  have tb : s.TypeIs (.ref b) "list" := ⟨_, ho2, rfl⟩
  by_cases e : xs.length = ys.length
  · have ex : xs.length = 0 := by
      rcases hn with h | h
      · rw [h]; rfl
      · rw [e, h]; rfl
    rw [decide_eq_true e] at q
    have z1 : its = [] := List.eq_nil_of_length_eq_zero (by omega)
    have z2 : its2 = [] := List.eq_nil_of_length_eq_zero (by omega)
    subst z1 z2
    exact wpAny_richCompare_same_room (op := .NotEq) ta tb PySem.F.slot_list_ne (call_meets PySem.F.slot_list_ne ta PySem.F.entry_list_ne (PySem.F.args_list_ne_2 _ _) (SeqAt.list_neAt l b _ _ n n2 dd dd2 sl sl2 rfl fun _ => true)
      ⟨ho, ho2, (fun j h1 => absurd h1 (Nat.not_lt_zero _)), (fun x => nomatch x), ⟨.bl false, H, I, rfl, q⟩⟩) hu
  · rw [decide_eq_false e] at q
    exact wpAny_richCompare_same_room (op := .NotEq) ta tb PySem.F.slot_list_ne (call_meets PySem.F.slot_list_ne ta PySem.F.entry_list_ne (PySem.F.args_list_ne_2 _ _) (SeqAt.list_ne_lengthsAt l b _ _ n n2 dd dd2 sl sl2 (by simp; omega))
      ⟨ho, ho2, (fun x => nomatch x), ⟨.bl true, H, I, rfl, q⟩⟩) hu
theorem op_eqNilT (hu : X.A.units < cLine) : OpR X (compareOp .Eq) (fun x y H Q => ∃ l b xs ys, x = .ref l ∧ y = .ref b ∧ SqT X.K H l xs ∧ SqT X.K H b ys ∧ (xs = [] ∨ ys = []) ∧ Q (.bl (decide (xs.length = ys.length))) H) := by
  intro pins s σ H x y v u Q I rx ry h
  obtain ⟨l, b, xs, ys, rfl, rfl, h1, h2, hn, q⟩ := h
  cases rx
  cases ry
  obtain ⟨its, rv, ⟨⟨cls, dd, data, sl⟩, ho, hc, n, hd⟩, _⟩ := I.tuple h1
  obtain ⟨its2, rv2, ⟨⟨cls2, dd2, data2, sl2⟩, ho2, hc2, n2, hd2⟩, _⟩ := I.tuple h2
  simp only at hc hd hc2 hd2
  subst hc hd hc2 hd2
  have l1 := rv.length
  have l2 := rv2.length
  have ta : s.TypeIs (.ref l) "tuple" := ⟨_, ho, rfl⟩
  have tb : s.TypeIs (.ref b) "tuple" := ⟨_, ho2, rfl⟩
  have z : min its.toArray.size its2.toArray.size = 0 := by
    rw [List.size_toArray, List.size_toArray]
    rcases hn with h | h
    · have : xs.length = 0 := by rw [h]; rfl
      omega
    · have : ys.length = 0 := by rw [h]; rfl
      omega
  have r : ((List.range (min its.toArray.size its2.toArray.size)).all (fun _ => true) && its.toArray.size == its2.toArray.size) = decide (xs.length = ys.length) := by
    rw [z]
    simp only [List.range_zero, List.all_nil, Bool.true_and, List.size_toArray, ← l1, ← l2]
    rfl
  rw [← r] at q
  exact wpAny_richCompare_same_room (op := .Eq) ta tb PySem.F.slot_tuple_eq (call_meets PySem.F.slot_tuple_eq ta PySem.F.entry_tuple_eq (PySem.F.args_tuple_eq_2 _ _) (SeqAt.tuple_eqAt l b _ _ n n2 dd dd2 sl sl2 fun _ => true)
    ⟨ho, ho2, (fun j h1 h2 => absurd z (by omega)), (fun x => nomatch x), ⟨.bl _, H, I, rfl, q⟩⟩) hu
def eqNilT (d e : D) (A : AH) : Res D := match d, e with
  | .tup xs, .tup ys => if xs.isEmpty || ys.isEmpty then .ok (.bl (decide (xs.length = ys.length))) A else .bad
  | _, _ => .bad
theorem aop_eqNilT (hu : X.A.units + 64 < cLine) : AOp X E (compareOp .Eq) eqNilT := op_mono (op_eqNilT (by omega)) fun x y H Q h => by
  obtain ⟨ρ, A, d, e, R, r1, r2, h⟩ := h
  unfold eqNilT at h
  split at h
  · split at h
    · rename_i as bs z
      obtain ⟨l, xs, rfl, q1, q2⟩ := r1
      obtain ⟨m, ys, rfl, q3, q4⟩ := r2
      refine ⟨l, m, xs, ys, rfl, rfl, q1, q3, ?_, by rw [q2.length, q4.length]; exact h.now R rfl⟩
      rw [Bool.or_eq_true] at z
      rcases z with z | z
      · have : as = [] := by simpa using z
        subst this
        exact .inl (show xs = [] from q2)
      · have : bs = [] := by simpa using z
        subst this
        exact .inr (show ys = [] from q4)
    · exact h.elim
  · exact h.elim
def nilB (d e : D) (A : AH) : Option Bool := match rdL A d, rdL A e with
  | some xs, some ys => if xs.isEmpty || ys.isEmpty then some (decide (xs.length = ys.length)) else none
  | _, _ => none
def eqNil (d e : D) (A : AH) : Res D := match nilB d e A with
  | some b => .ok (.bl b) A
  | none => .bad
def neNil (d e : D) (A : AH) : Res D := match nilB d e A with
  | some b => .ok (.bl (!b)) A
  | none => .bad
theorem nilB_ok {K : PySem.W.Frag} {ρ : List Addr} {H : Hp} {A : AH} {d e : D} {x y : V} {b : Bool} (R : Rel K ρ H A) (r1 : Rp K ρ H d x) (r2 : Rp K ρ H e y) (h : nilB d e A = some b) :
    ∃ l m xs ys, x = .ref l ∧ y = .ref m ∧ SqL K H l xs ∧ SqL K H m ys ∧ (xs = [] ∨ ys = []) ∧ b = decide (xs.length = ys.length) := by
  unfold nilB at h
  split at h
  · rename_i as bs e1 e2
    split at h
    · rename_i z
      cases h
      obtain ⟨l, xs, rfl, q1, q2⟩ := rdL_ok R r1 e1
      obtain ⟨m, ys, rfl, q3, q4⟩ := rdL_ok R r2 e2
      refine ⟨l, m, xs, ys, rfl, rfl, q1, q3, ?_, by rw [q2.length, q4.length]⟩
      rw [Bool.or_eq_true] at z
      rcases z with z | z
      · have : as = [] := by simpa using z
        subst this
        exact .inl (show xs = [] from q2)
      · have : bs = [] := by simpa using z
        subst this
        exact .inr (show ys = [] from q4)
    · cases h
  · cases h
theorem aop_eqNil (hu : X.A.units + 64 < cLine) : AOp X E (compareOp .Eq) eqNil := op_mono (op_eqNil (by omega)) fun x y H Q h => by
  obtain ⟨ρ, A, d, e, R, r1, r2, h⟩ := h
  unfold eqNil at h
  split at h
  · rename_i b e1
    obtain ⟨l, m, xs, ys, rfl, rfl, q1, q2, q3, rfl⟩ := nilB_ok R r1 r2 e1
    exact ⟨l, m, xs, ys, rfl, rfl, q1, q2, q3, h.now R rfl⟩
  · exact h.elim
theorem aop_neNil (hu : X.A.units + 64 < cLine) : AOp X E (compareOp .NotEq) neNil := op_mono (op_neNil (by omega)) fun x y H Q h => by
  obtain ⟨ρ, A, d, e, R, r1, r2, h⟩ := h
  unfold neNil at h
  split at h
  · rename_i b e1
    obtain ⟨l, m, xs, ys, rfl, rfl, q1, q2, q3, rfl⟩ := nilB_ok R r1 r2 e1
    exact ⟨l, m, xs, ys, rfl, rfl, q1, q2, q3, h.now R rfl⟩
  · exact h.elim
end
theorem ev_eqNilT {A : AH} {xs : List D} : eqNilT (.tup xs) (.tup []) A = .ok (.bl (xs.isEmpty)) A := by
  unfold eqNilT
  cases xs <;> rfl
theorem ev_eqNil {A : AH} {r q : Nat} {xs : List D} (h : rdL A (.ref r) = some xs) (hq : rdL A (.ref q) = some []) : eqNil (.ref r) (.ref q) A = .ok (.bl (xs.isEmpty)) A := by
  unfold eqNil nilB
  rw [h, hq]
  cases xs <;> rfl
theorem ev_neNil {A : AH} {r q : Nat} {xs : List D} (h : rdL A (.ref r) = some xs) (hq : rdL A (.ref q) = some []) : neNil (.ref r) (.ref q) A = .ok (.bl (!xs.isEmpty)) A := by
  unfold neNil nilB
  rw [h, hq]
  cases xs <;> rfl
end Ab

namespace Ab
open PySem PySem.Spec PyProof.Rows L2
/-! ## a, b = x, y; a, b = a list -/
section
variable {X : Cx} {E : XK}
def fPar (i j : Nat) (f : FA) : FS := fun s A => (f s A).bind fun ds A1 => match ds with
  | [v, w] => .ok (.nx ((s.set i (some v)).set j (some w))) A1
  | _ => .bad
theorem as_par {i j : Nat} {x y : Str} {a b : Expr} {f : FA} {px py pt pos : Pos} {kt k2 pt2} (hc : X.calm = true) (hN : X.N.Nodup) (hij : i ≠ j) (ha : AA X E [a, b] f)
    (hi : X.N[i]? = some x := by rfl) (hj : X.N[j]? = some y := by rfl) (hx : X.env.scope.names.lookup x = some .local := by rfl) (hy : X.env.scope.names.lookup y = some .local := by rfl)
    (hw : swappedStores [.Tuple [.Name x px, .Name y py] kt pt] (.Tuple [a, b] k2 pt2) X.env = pure (some [x, y]) := by rfl)
    (hs : swapsWithSole [.Tuple [.Name x px, .Name y py] kt pt] (.Tuple [a, b] k2 pt2) pos.line X.env = pure false := by rfl) :
    AS X E (.Assign [.Tuple [.Name x px, .Name y py] kt pt] (.Tuple [a, b] k2 pt2) pos) (fPar i j f) := ps_mono (ps_par hc hN hi hj hij hx hy ha hw hs) fun G σ H h => by
  obtain ⟨ρ, s, A, hs, R, h⟩ := h
  refine ⟨ρ, s, A, hs, R, (Out.bindS h).mono fun xs H1 ⟨ρ1, ds, A1, _, e1, R1, r1, h1⟩ => ?_⟩
  split at h1
  · obtain ⟨v, w, rfl, q1, q2⟩ := r1.two_inv
    exact ⟨v, w, rfl, h1 ρ1 H1 _ .refl R1 (((hs.ext e1).set i q1).set j q2)⟩
  · exact h1.elim
theorem ev_par {i j : Nat} {f : FA} {s : ASt} {A : AH} : fPar i j f s A = (f s A).bind fun ds A1 => match ds with
  | [v, w] => .ok (.nx ((s.set i (some v)).set j (some w))) A1
  | _ => .bad := rfl
def gTpL (n : Nat) (gs : FGs) : FG := fun d s A => match rdL A d with
  | some ds => if ds.length = n then gs ds s A else .bad
  | none => .bad
theorem ag_lst {es : List Expr} {k : Nat} {gs : FGs} {n : Nat} {pos : Pos} (hc : X.calm = true) (h : AGs X E es gs) (hn : (assignEach es X.env).length = n := by rfl) (hst : (assignEach es X.env).findIdx? (·.1) = none := by rfl) : AG X E (.Tuple es k pos) (gTpL n gs) :=
  pg_mono (pg_lst hc h hn hst) fun v σ H Q h => by
    obtain ⟨ρ, s, A, d, hs, R, r, h⟩ := h
    unfold gTpL at h
    split at h
    · rename_i ds e1
      obtain ⟨a, xs, rfl, q1, q2⟩ := rdL_ok R r e1
      split at h
      · rename_i z
        exact ⟨a, xs, rfl, q1, by rw [q2.length]; exact z, ρ, s, A, ds, hs, R, q2, h⟩
      · exact h.elim
    · exact h.elim
theorem pg_or {tg : Expr} {t u : TG} (h : PG X tg t) (h' : PG X tg u) : PG X tg (fun v σ H Q => t v σ H Q ∨ u v σ H Q) := ⟨fun pins s σ H v w Q I r q => q.elim (h.run pins s σ H v w Q I r) (h'.run pins s σ H v w Q I r)⟩
/-- a, b = a tuple or a list -/
def gTpA (n : Nat) (gs : FGs) : FG := fun d s A => match d with
  | .tup _ => gTp n gs d s A
  | _ => gTpL n gs d s A
theorem ag_tupA {es : List Expr} {k : Nat} {gs : FGs} {n : Nat} {pos : Pos} (hc : X.calm = true) (h : AGs X E es gs) (hn : (assignEach es X.env).length = n := by rfl) (hst : (assignEach es X.env).findIdx? (·.1) = none := by rfl) : AG X E (.Tuple es k pos) (gTpA n gs) :=
  pg_mono (pg_or (ag_tup (E := E) hc h hn hst) (ag_lst (E := E) hc h hn hst)) fun v σ H Q h => by
    obtain ⟨ρ, s, A, d, hs, R, r, h⟩ := h
    unfold gTpA at h
    split at h
    · exact .inl ⟨ρ, s, A, _, hs, R, r, h⟩
    · exact .inr ⟨ρ, s, A, _, hs, R, r, h⟩
theorem ev_gtpA_t {n : Nat} {gs : FGs} {ds : List D} {s : ASt} {A : AH} : gTpA n gs (.tup ds) s A = if ds.length = n then gs ds s A else .bad := rfl
theorem ev_gtpA_l {n r : Nat} {gs : FGs} {ds : List D} {s : ASt} {A : AH} (h : rdL A (.ref r) = some ds) : gTpA n gs (.ref r) s A = if ds.length = n then gs ds s A else .bad := by
  show (match rdL A (.ref r) with | some ds => if ds.length = n then gs ds s A else .bad | none => .bad) = _
  rw [h]
end
end Ab

namespace Ab
open PySem PySem.Spec PyProof.Rows L2
open scoped Classical

/-! ## reasoning about the functions: what an outcome satisfies -/
def Sat {α : Type} (r : Res α) (P : α → AH → Prop) : Prop := match r with
  | .ok a A => P a A
  | _ => False
section
variable {α β : Type} {r : Res α} {k : α → AH → Res β} {P Q : α → AH → Prop} {R : β → AH → Prop} {a : α} {A : AH} {c : Prop} {i : Decidable c}
theorem sat_ok : Sat (.ok a A) P = P a A := rfl
theorem sat_bad : Sat (.bad : Res α) P = False := rfl
theorem sat_bind : Sat (r.bind k) R = Sat r fun a A => Sat (k a A) R := by cases r <;> rfl
theorem sat_ite {x y : Res α} : Sat (if c then x else y) P = if c then Sat x P else Sat y P := by split <;> rfl
theorem Sat.imp (h : Sat r P) (q : ∀ a A, P a A → Q a A) : Sat r Q := by
  cases r with
  | ok a A => exact q a A h
  | _ => exact h
theorem Sat.eq (h : Sat r P) : ∃ a A, r = .ok a A ∧ P a A := by
  cases r with
  | ok a A => exact ⟨a, A, rfl, h⟩
  | _ => exact h.elim
theorem sat_of {a : α} {A : AH} (e : r = .ok a A) (h : P a A) : Sat r P := by rw [e]; exact h
theorem bind_ok : (Res.ok a A).bind k = k a A := rfl
theorem bind_bad : (Res.bad : Res α).bind k = .bad := rfl
end
/-- behind a statement -/
def thn_ (g : FS) (P : Fl → AH → Prop) : Fl → AH → Prop
  | .nx s, A => Sat (g s A) P
  | fl, A => P fl A
/-- at a body's end -/
def fin_ (P : D → AH → Prop) : Fl → AH → Prop
  | .rt d, A => P d A
  | .nx _, A => P .non A
  | _, _ => False
section
variable {f g h : FE} {fs : FA} {p q : FS} {c t u : FT} {gg : FG} {gs : FGs} {s : ASt} {A : AH} {P : Fl → AH → Prop} {Q : D → AH → Prop} {i n np : Nat} {d : D} {ds : List D} {m : FM} {go : D → D → AH → Res D} {gu : D → AH → Res D}
theorem ev_seq : Sat (fSeq p q s A) P = Sat (p s A) (thn_ q P) := by
  unfold fSeq
  cases p s A with
  | ok fl A1 => cases fl <;> rfl
  | _ => rfl
theorem thn_nx : thn_ q P (.nx s) A = Sat (q s A) P := rfl
theorem thn_rt : thn_ q P (.rt d) A = P (.rt d) A := rfl
theorem thn_bk : thn_ q P (.bk s) A = P (.bk s) A := rfl
theorem thn_ct : thn_ q P (.ct s) A = P (.ct s) A := rfl
theorem fin_rt : fin_ Q (.rt d) A = Q d A := rfl
theorem fin_nx : fin_ Q (.nx s) A = Q .non A := rfl
theorem ev_finish {r : Res Fl} : Sat (finish r) Q = Sat r (fin_ Q) := by
  unfold finish
  cases r with
  | ok fl A1 => cases fl <;> rfl
  | _ => rfl
theorem ev_body (e : ds.length = np) : Sat (body np n p ds A) Q = Sat (p (args n ds) A) (fin_ Q) := by
  unfold body
  rw [if_pos e, ev_finish]
theorem sat_body (e : ds.length = np) (h : Sat (p (args n ds) A) (fin_ Q)) : Sat (body np n p ds A) Q := by rw [ev_body e]; exact h
theorem sat_seq (h : Sat (p s A) (thn_ q P)) : Sat (fSeq p q s A) P := by rw [ev_seq]; exact h
theorem sat_ifS {b : Bool} (hc : c s A = .ok b A) (hp : b = true → Sat (p s A) P) (hq : b = false → Sat (q s A) P) : Sat (fIfS c p q s A) P := by
  unfold fIfS
  rw [hc, bind_ok]
  cases b with
  | true => exact hp rfl
  | false => exact hq rfl
theorem ev_v (e : s[i]? = some (some d)) : fV i s A = .ok d A := by unfold fV; rw [e]
theorem ev_c : fC d s A = .ok d A := rfl
theorem ev_op : fOp go f g s A = (f s A).bind fun x A1 => (g s A1).bind fun y A2 => go x y A2 := rfl
theorem ev_un : fUn gu f s A = (f s A).bind fun x A1 => gu x A1 := rfl
theorem ev_chain {go' : D → D → AH → Res D} : fChain go go' f g h s A = (f s A).bind fun x A1 => (g s A1).bind fun y A2 => (go x y A2).bind fun z A3 => match z with
  | .bl true => (h s A3).bind fun w A4 => go' y w A4
  | .bl false => .ok (.bl false) A3
  | _ => .bad := rfl
theorem ev_nil : fNil s A = .ok [] A := rfl
theorem ev_cons : fCons f fs s A = (f s A).bind fun x A1 => (fs s A1).bind fun xs A2 => .ok (x :: xs) A2 := rfl
theorem ev_tup : fTup fs s A = (fs s A).bind tupD := rfl
theorem ev_lst : fLst fs s A = (fs s A).bind lstD := rfl
theorem ev_call : fCall m fs s A = (fs s A).bind fun ds A1 => m ds A1 := rfl
theorem ev_own : fOwn n m fs s A = (fs s A).bind fun ds A1 => if ds.length = n then m ds A1 else .bad := rfl
theorem ev_sl {lo hi : FO} : fSl f lo hi s A = (f s A).bind fun d A1 => (lo s A1).bind fun l A2 => (hi s A2).bind fun h A3 => slD d l h A3 := rfl
theorem ev_no : fNo s A = .ok none A := rfl
theorem ev_part : fPart f s A = (f s A).bind fun d A1 => match d with
  | .int i => .ok (some i) A1
  | _ => .bad := rfl
theorem ev_and : fAnd f g s A = (f s A).bind fun d A1 => (tru d A1).bind fun b A2 => if b = true then g s A2 else .ok d A2 := rfl
theorem ev_or : fOr f g s A = (f s A).bind fun d A1 => (tru d A1).bind fun b A2 => if b = true then .ok d A2 else g s A2 := rfl
theorem ev_not : fNot f s A = (f s A).bind fun d A1 => (tru d A1).bind fun b A2 => .ok (.bl (!b)) A2 := rfl
theorem ev_if : fIf c f g s A = (c s A).bind fun b A1 => if b = true then f s A1 else g s A1 := rfl
theorem ev_t : fT f s A = (f s A).bind tru := rfl
theorem ev_tb : fTB f s A = (f s A).bind fun d A1 => match d with
  | .bl b => .ok b A1
  | _ => .bad := rfl
theorem ev_tnot : fTNot t s A = (t s A).bind fun b A1 => .ok (!b) A1 := rfl
theorem ev_tand : fTAnd t u s A = (t s A).bind fun b A1 => if b = true then u s A1 else .ok false A1 := rfl
theorem ev_tor : fTOr t u s A = (t s A).bind fun b A1 => if b = true then .ok true A1 else u s A1 := rfl
theorem ev_mt {T : String} {gm : D → FM} : fMt T gm f fs s A = (f s A).bind fun d A1 => if isTy T d A1 = true then (fs s A1).bind fun ds A2 => gm d ds A2 else .bad := rfl
theorem ev_mt0 {T : String} {gm : D → FM} : fMt0 T gm f s A = (f s A).bind fun d A1 => if isTy T d A1 = true then gm d [] A1 else .bad := rfl
theorem ev_rgd {k : Int → Int → AH → Res D} : rgD f g k s A = (f s A).bind fun d A1 => (g s A1).bind fun e A2 => match d, e with
  | .int i, .int j => k i j A2
  | _, _ => .bad := rfl
theorem ev_set : fSet f i s A = (f s A).bind fun d A1 => .ok (.nx (s.set i (some d))) A1 := rfl
theorem ev_asg : fAsg f gg s A = (f s A).bind fun d A1 => (gg d s A1).bind fun s' A2 => .ok (.nx s') A2 := rfl
theorem ev_ret : fRet f s A = (f s A).bind fun d A1 => .ok (.rt d) A1 := rfl
theorem ev_retN : fRetN s A = .ok (.rt .non) A := rfl
theorem ev_ex : fEx f s A = (f s A).bind fun _ A1 => .ok (.nx s) A1 := rfl
theorem ev_pass : fPass s A = .ok (.nx s) A := rfl
theorem ev_brk : fBrk s A = .ok (.bk s) A := rfl
theorem ev_cont : fCont s A = .ok (.ct s) A := rfl
theorem ev_ifS : fIfS c p q s A = (c s A).bind fun b A1 => if b = true then p s A1 else q s A1 := rfl
theorem ev_aug {x : D} (e : s[i]? = some (some x)) : fAug i f go s A = (f s A).bind fun y A1 => (go x y A1).bind fun z A2 => .ok (.nx (s.set i (some z))) A2 := by unfold fAug; rw [e]
theorem ev_gn : gN i d s A = .ok (s.set i (some d)) A := rfl
theorem ev_gtp : gTp n gs (.tup ds) s A = if ds.length = n then gs ds s A else .bad := rfl
theorem ev_gnl : gNl [] s A = .ok s A := rfl
theorem ev_gcs : gCs gg gs (d :: ds) s A = (gg d s A).bind fun s1 A1 => gs ds s1 A1 := rfl
theorem ev_gsb : gSb f g d s A = (f s A).bind fun o A1 => (g s A1).bind fun i A2 => (stD o i d A2).bind fun _ A3 => .ok s A3 := rfl
theorem ev_for {src : FI} : fFor src gg p s A = (src s A).bind fun S A1 => loopD S.ok gg p S.items s A1 := rfl
theorem ev_rg1 : fRg1 f s A = (f s A).bind fun d A1 => match d with
  | .int j => if InRg j then .ok ⟨rngL 0 j.toNat, yes⟩ A1 else .bad
  | _ => .bad := rfl
theorem ev_rg2 : fRg2 f g s A = (f s A).bind fun d A1 => (g s A1).bind fun e A2 => match d, e with
  | .int i, .int j => if InRg i ∧ InRg j then .ok ⟨rngL i (j - i).toNat, yes⟩ A2 else .bad
  | _, _ => .bad := rfl
theorem inRg_nat {n : Nat} (h : n ≤ 1000000000) : InRg (n : Int) := ⟨by omega, by omega⟩
theorem inRg_of {n : Int} (h : -1000000000000 ≤ n) (h' : n ≤ 1000000000000) : InRg n := ⟨by omega, by omega⟩
theorem ev_its : fItS f s A = (f s A).bind iSeq := rfl
theorem ev_enum : fEnum f s A = (f s A).bind fun d A1 => match rdL A1 d with
  | some ds => .ok ⟨enumL 0 ds, fun A' => rdL A' d = some ds⟩ A1
  | none => .bad := rfl
theorem ev_lc {src : FI} {vs : List Nat} : fLc src gg t f vs s A = (src s A).bind fun S A1 => loopC S.ok gg t f A1.length (wipeA s vs) S.items (A1 ++ [.lst []]) := rfl
theorem ev_yes : fYes s A = .ok true A := rfl
/-! ### operators on known data -/
theorem ev_add_ii {i j : Int} : addD (.int i) (.int j) A = .ok (.int (i + j)) A := rfl
theorem ev_add_ss {x y : Str} (h : x.length + y.length ≤ sizeLine) : addD (.str x) (.str y) A = .ok (.str (x ++ y)) A := if_pos h
theorem ev_add_tt {x y : List D} (h : x.length + y.length ≤ sizeLine) : addD (.tup x) (.tup y) A = .ok (.tup (x ++ y)) A := if_pos h
theorem ev_add_rr {i j : Nat} {xs ys : List D} (h : muL A (.ref i) = some xs) (h' : muL A (.ref j) = some ys) (z : xs.length + ys.length ≤ sizeLine) : addD (.ref i) (.ref j) A = .ok (.ref A.length) (A ++ [.lst (xs ++ ys)]) := by
  show (match muL A (.ref i), muL A (.ref j) with
    | some xs, some ys => if xs.length + ys.length ≤ sizeLine then alloc (.lst (xs ++ ys)) A else .bad
    | _, _ => .bad) = _
  rw [h, h']
  exact if_pos z
theorem ev_sub {i j : Int} : subD (.int i) (.int j) A = .ok (.int (i - j)) A := rfl
theorem ev_mul {i j : Int} (h : mulOk i j) : mulD (.int i) (.int j) A = .ok (.int (i * j)) A := if_pos h
theorem ev_mod {i j : Int} (h : 0 < j) : modD (.int i) (.int j) A = .ok (.int (i % j)) A := if_pos h
theorem ev_fdiv {i j : Int} (h : CDivW i j) : fdivD (.int i) (.int j) A = .ok (.int (i / j)) A := if_pos h
theorem ev_pow {i j : Int} (h : CPow i j) : powD (.int i) (.int j) A = .ok (.int (i ^ j.toNat)) A := if_pos h
theorem ev_neg {i : Int} : negD (.int i) A = .ok (.int (-i)) A := rfl
theorem ev_lt {i j : Int} : ltD (.int i) (.int j) A = .ok (.bl (decide (i < j))) A := rfl
theorem ev_le {i j : Int} : leD (.int i) (.int j) A = .ok (.bl (decide (i ≤ j))) A := rfl
theorem ev_gt {i j : Int} : gtD (.int i) (.int j) A = .ok (.bl (decide (j < i))) A := rfl
theorem ev_ge {i j : Int} : geD (.int i) (.int j) A = .ok (.bl (decide (j ≤ i))) A := rfl
theorem ev_eq_ii {i j : Int} : eqD (.int i) (.int j) A = .ok (.bl (decide (i = j))) A := rfl
theorem ev_eq_ss {i j : Str} : eqD (.str i) (.str j) A = .ok (.bl (decide (i = j))) A := rfl
theorem ev_eq_bb {i j : Bool} : eqD (.bl i) (.bl j) A = .ok (.bl (decide (i = j))) A := rfl
theorem ev_ne_ii {i j : Int} : neD (.int i) (.int j) A = .ok (.bl (!decide (i = j))) A := rfl
theorem ev_ne_ss {i j : Str} : neD (.str i) (.str j) A = .ok (.bl (!decide (i = j))) A := rfl
theorem ev_ne_bb {i j : Bool} : neD (.bl i) (.bl j) A = .ok (.bl (!decide (i = j))) A := rfl
theorem ev_is_n : isD d .non A = .ok (.bl (isNon d)) A := by cases d <;> rfl
theorem ev_isnt_n : isntD d .non A = .ok (.bl (!isNon d)) A := by cases d <;> rfl
theorem ev_int_i {i : Int} : intD [.int i] A = .ok (.int i) A := rfl
theorem ev_int_b {i : Bool} : intD [.bl i] A = .ok (.int (if i then 1 else 0)) A := rfl
theorem ev_min_ii {i j : Int} : minD [.int i, .int j] A = .ok (.int (if j < i then j else i)) A := rfl
theorem ev_max_ii {i j : Int} : maxD [.int i, .int j] A = .ok (.int (if j > i then j else i)) A := rfl
theorem ev_abs {i : Int} : absD [.int i] A = .ok (.int (if i < 0 then -i else i)) A := rfl
theorem ev_tup_of : Ab.tupOf [D.tup ds] A = .ok (.tup ds) A := rfl
theorem ev_tup_ofL (h : rdL A (.ref n) = some ds) : Ab.tupOf [D.ref n] A = .ok (.tup ds) A := by
  show (match rdL A (.ref n) with
    | some xs => Res.ok (D.tup xs) A
    | none => .bad) = _
  rw [h]
theorem ev_lst_ofT : lstOf [.tup ds] A = .ok (.ref A.length) (A ++ [.lst ds]) := rfl
theorem ev_lst_ofL (h : rdL A (.ref n) = some ds) : lstOf [.ref n] A = .ok (.ref A.length) (A ++ [.lst ds]) := by
  show (match rdS A (.ref n) with
    | some xs => alloc (.lst xs) A
    | none => _) = _
  rw [show rdS A (.ref n) = some ds from h]
  rfl
theorem ev_len_t : lenD [.tup ds] A = .ok (.int ds.length) A := rfl
theorem ev_len_s {x : Str} (h : x.length ≤ sizeLine) : lenD [.str x] A = .ok (.int x.length) A := if_pos h
theorem ev_len_r (h : rdL A (.ref n) = some ds) : lenD [.ref n] A = .ok (.int ds.length) A := by
  show (match rdS A (.ref n) with
    | some xs => Res.ok (D.int xs.length) A
    | none => _) = _
  rw [show rdS A (.ref n) = some ds from h]
theorem atI_pos {α : Type} {xs : List α} {i : Int} (h : 0 ≤ i) : L2.atI xs i = xs[i.toNat]? := by
  unfold L2.atI ixN
  rw [if_pos h]
  by_cases hl : i < xs.length
  · rw [if_pos hl]; rfl
  · rw [if_neg hl]
    show none = _
    rw [List.getElem?_eq_none (by omega)]
theorem ev_ix_t {k : Int} {x : D} (h : L2.atI ds k = some x) : ixD (.tup ds) (D.int k) A = .ok x A := by
  show ixSeq ds k A = _
  unfold ixSeq
  rw [h]
theorem ev_ix_r {k : Int} {x : D} (h : rdL A (.ref n) = some ds) (h2 : L2.atI ds k = some x) : ixD (.ref n) (.int k) A = .ok x A := by
  show (match rdS A (.ref n) with
    | some xs => ixSeq xs k A
    | none => _) = _
  rw [show rdS A (.ref n) = some ds from h]
  show ixSeq ds k A = _
  unfold ixSeq
  rw [h2]
theorem ev_ix_s {z : Str} {k : Int} {c : Nat} (h : z.length ≤ sizeLine) (h2 : L2.atI z.cps.toList k = some c) : ixD (.str z) (.int k) A = .ok (.str ⟨#[c]⟩) A := by
  show (if z.length ≤ sizeLine then (match L2.atI z.cps.toList k with | some c => Res.ok (D.str ⟨#[c]⟩) A | none => .bad) else .bad) = _
  rw [if_pos h, h2]
theorem ev_st_l {xs : List D} {k : Int} {j : Nat} (h : A[n]? = some (.lst xs)) (h2 : ixN xs.length k = some j) : stD (.ref n) (.int k) d A = .ok () (A.set n (.lst (xs.set j d))) := by
  show (match A[n]? with
    | some (.lst xs) => _
    | some (.dic kvs) => _
    | _ => _) = _
  rw [h]
  show (match ixN xs.length k with
    | some j => Res.ok () (A.set n (.lst (xs.set j d)))
    | none => .bad) = _
  rw [h2]
theorem rdL_l {xs : List D} (h : A[n]? = some (.lst xs)) : rdL A (.ref n) = some xs := by
  show (match A[n]? with
    | some (.lst xs) => some xs
    | some (.frz xs) => some xs
    | _ => none) = _
  rw [h]
theorem rdL_f {xs : List D} (h : A[n]? = some (.frz xs)) : rdL A (.ref n) = some xs := by
  show (match A[n]? with
    | some (.lst xs) => some xs
    | some (.frz xs) => some xs
    | _ => none) = _
  rw [h]
theorem muL_l {xs : List D} (h : A[n]? = some (.lst xs)) : muL A (.ref n) = some xs := by
  show (match A[n]? with
    | some (.lst xs) => some xs
    | _ => none) = _
  rw [h]
theorem mulOk_l {i j : Int} (h1 : -(2 ^ 64) < i) (h2 : i < 2 ^ 64) : mulOk i j := .inl (.inl ⟨h1, h2⟩)
theorem mulOk_r {i j : Int} (h1 : -(2 ^ 64) < j) (h2 : j < 2 ^ 64) : mulOk i j := .inl (.inr ⟨h1, h2⟩)
theorem divOk {i j : Int} (h1 : 0 < j) (h2 : j < 2 ^ 200) : CDivW i j := wide_div (b := 200) h1 (by omega) (by decide) (by decide)
theorem powOk {i j : Int} (h1 : 0 ≤ j) (h2 : j ≤ 1000000) (h3 : i.natAbs < 2 ^ 64) : CPow i j := ⟨h1, h2, h3⟩
theorem ev_alloc {o : AO} : Ab.alloc o A = .ok (.ref A.length) (A ++ [o]) := rfl
theorem ev_tupD (h : ds.length ≤ 10000) : tupD ds A = .ok (.tup ds) A := if_pos (Nat.le_trans h (by decide))
theorem ev_lstD (h : ds.length ≤ 10000) : lstD ds A = .ok (.ref A.length) (A ++ [.lst ds]) := if_pos (Nat.le_trans h (by decide))
theorem sl_le {n : Nat} (h : n ≤ 16777216) : n ≤ sizeLine := h
theorem ev_tru_b {b : Bool} : tru (.bl b) A = .ok b A := rfl
end

/-! ### isinstance -/
theorem isi_tuple_non  {A : AH} : isiD "tuple" (.non) A = .ok (.bl false) A := by
  show (match kitB "NoneType" "tuple" with | some b => Res.ok (D.bl b) A | none => .bad) = _
  rw [show kitB "NoneType" "tuple" = some false by decide +kernel]
theorem isi_tuple_bl {b : Bool} {A : AH} : isiD "tuple" (.bl b) A = .ok (.bl false) A := by
  show (match kitB "bool" "tuple" with | some b => Res.ok (D.bl b) A | none => .bad) = _
  rw [show kitB "bool" "tuple" = some false by decide +kernel]
theorem isi_tuple_int {i : Int} {A : AH} : isiD "tuple" (.int i) A = .ok (.bl false) A := by
  show (match kitB "int" "tuple" with | some b => Res.ok (D.bl b) A | none => .bad) = _
  rw [show kitB "int" "tuple" = some false by decide +kernel]
theorem isi_tuple_str {x : Str} {A : AH} : isiD "tuple" (.str x) A = .ok (.bl false) A := by
  show (match kitB "str" "tuple" with | some b => Res.ok (D.bl b) A | none => .bad) = _
  rw [show kitB "str" "tuple" = some false by decide +kernel]
theorem isi_tuple_tup {ds : List D} {A : AH} : isiD "tuple" (.tup ds) A = .ok (.bl true) A := by
  show (match kitB "tuple" "tuple" with | some b => Res.ok (D.bl b) A | none => .bad) = _
  rw [show kitB "tuple" "tuple" = some true by decide +kernel]
theorem isi_tuple_l {A : AH} {n : Nat} {xs : List D} (h : A[n]? = some (.lst xs)) : isiD "tuple" (.ref n) A = .ok (.bl false) A := by
  unfold isiD
  rw [show tyN A (.ref n) = some "list" by simp only [tyN, h]]
  show (match kitB "list" "tuple" with | some b => Res.ok (D.bl b) A | none => .bad) = _
  rw [show kitB "list" "tuple" = some false by decide +kernel]
theorem isi_tuple_f {A : AH} {n : Nat} {xs : List D} (h : A[n]? = some (.frz xs)) : isiD "tuple" (.ref n) A = .ok (.bl false) A := by
  unfold isiD
  rw [show tyN A (.ref n) = some "list" by simp only [tyN, h]]
  show (match kitB "list" "tuple" with | some b => Res.ok (D.bl b) A | none => .bad) = _
  rw [show kitB "list" "tuple" = some false by decide +kernel]
theorem isi_list_non  {A : AH} : isiD "list" (.non) A = .ok (.bl false) A := by
  show (match kitB "NoneType" "list" with | some b => Res.ok (D.bl b) A | none => .bad) = _
  rw [show kitB "NoneType" "list" = some false by decide +kernel]
theorem isi_list_bl {b : Bool} {A : AH} : isiD "list" (.bl b) A = .ok (.bl false) A := by
  show (match kitB "bool" "list" with | some b => Res.ok (D.bl b) A | none => .bad) = _
  rw [show kitB "bool" "list" = some false by decide +kernel]
theorem isi_list_int {i : Int} {A : AH} : isiD "list" (.int i) A = .ok (.bl false) A := by
  show (match kitB "int" "list" with | some b => Res.ok (D.bl b) A | none => .bad) = _
  rw [show kitB "int" "list" = some false by decide +kernel]
theorem isi_list_str {x : Str} {A : AH} : isiD "list" (.str x) A = .ok (.bl false) A := by
  show (match kitB "str" "list" with | some b => Res.ok (D.bl b) A | none => .bad) = _
  rw [show kitB "str" "list" = some false by decide +kernel]
theorem isi_list_tup {ds : List D} {A : AH} : isiD "list" (.tup ds) A = .ok (.bl false) A := by
  show (match kitB "tuple" "list" with | some b => Res.ok (D.bl b) A | none => .bad) = _
  rw [show kitB "tuple" "list" = some false by decide +kernel]
theorem isi_list_l {A : AH} {n : Nat} {xs : List D} (h : A[n]? = some (.lst xs)) : isiD "list" (.ref n) A = .ok (.bl true) A := by
  unfold isiD
  rw [show tyN A (.ref n) = some "list" by simp only [tyN, h]]
  show (match kitB "list" "list" with | some b => Res.ok (D.bl b) A | none => .bad) = _
  rw [show kitB "list" "list" = some true by decide +kernel]
theorem isi_list_f {A : AH} {n : Nat} {xs : List D} (h : A[n]? = some (.frz xs)) : isiD "list" (.ref n) A = .ok (.bl true) A := by
  unfold isiD
  rw [show tyN A (.ref n) = some "list" by simp only [tyN, h]]
  show (match kitB "list" "list" with | some b => Res.ok (D.bl b) A | none => .bad) = _
  rw [show kitB "list" "list" = some true by decide +kernel]
theorem isi_bool_non  {A : AH} : isiD "bool" (.non) A = .ok (.bl false) A := by
  show (match kitB "NoneType" "bool" with | some b => Res.ok (D.bl b) A | none => .bad) = _
  rw [show kitB "NoneType" "bool" = some false by decide +kernel]
theorem isi_bool_bl {b : Bool} {A : AH} : isiD "bool" (.bl b) A = .ok (.bl true) A := by
  show (match kitB "bool" "bool" with | some b => Res.ok (D.bl b) A | none => .bad) = _
  rw [show kitB "bool" "bool" = some true by decide +kernel]
theorem isi_bool_int {i : Int} {A : AH} : isiD "bool" (.int i) A = .ok (.bl false) A := by
  show (match kitB "int" "bool" with | some b => Res.ok (D.bl b) A | none => .bad) = _
  rw [show kitB "int" "bool" = some false by decide +kernel]
theorem isi_bool_str {x : Str} {A : AH} : isiD "bool" (.str x) A = .ok (.bl false) A := by
  show (match kitB "str" "bool" with | some b => Res.ok (D.bl b) A | none => .bad) = _
  rw [show kitB "str" "bool" = some false by decide +kernel]
theorem isi_bool_tup {ds : List D} {A : AH} : isiD "bool" (.tup ds) A = .ok (.bl false) A := by
  show (match kitB "tuple" "bool" with | some b => Res.ok (D.bl b) A | none => .bad) = _
  rw [show kitB "tuple" "bool" = some false by decide +kernel]
theorem isi_bool_l {A : AH} {n : Nat} {xs : List D} (h : A[n]? = some (.lst xs)) : isiD "bool" (.ref n) A = .ok (.bl false) A := by
  unfold isiD
  rw [show tyN A (.ref n) = some "list" by simp only [tyN, h]]
  show (match kitB "list" "bool" with | some b => Res.ok (D.bl b) A | none => .bad) = _
  rw [show kitB "list" "bool" = some false by decide +kernel]
theorem isi_bool_f {A : AH} {n : Nat} {xs : List D} (h : A[n]? = some (.frz xs)) : isiD "bool" (.ref n) A = .ok (.bl false) A := by
  unfold isiD
  rw [show tyN A (.ref n) = some "list" by simp only [tyN, h]]
  show (match kitB "list" "bool" with | some b => Res.ok (D.bl b) A | none => .bad) = _
  rw [show kitB "list" "bool" = some false by decide +kernel]
theorem isi_int_non  {A : AH} : isiD "int" (.non) A = .ok (.bl false) A := by
  show (match kitB "NoneType" "int" with | some b => Res.ok (D.bl b) A | none => .bad) = _
  rw [show kitB "NoneType" "int" = some false by decide +kernel]
theorem isi_int_bl {b : Bool} {A : AH} : isiD "int" (.bl b) A = .ok (.bl true) A := by
  show (match kitB "bool" "int" with | some b => Res.ok (D.bl b) A | none => .bad) = _
  rw [show kitB "bool" "int" = some true by decide +kernel]
theorem isi_int_int {i : Int} {A : AH} : isiD "int" (.int i) A = .ok (.bl true) A := by
  show (match kitB "int" "int" with | some b => Res.ok (D.bl b) A | none => .bad) = _
  rw [show kitB "int" "int" = some true by decide +kernel]
theorem isi_int_str {x : Str} {A : AH} : isiD "int" (.str x) A = .ok (.bl false) A := by
  show (match kitB "str" "int" with | some b => Res.ok (D.bl b) A | none => .bad) = _
  rw [show kitB "str" "int" = some false by decide +kernel]
theorem isi_int_tup {ds : List D} {A : AH} : isiD "int" (.tup ds) A = .ok (.bl false) A := by
  show (match kitB "tuple" "int" with | some b => Res.ok (D.bl b) A | none => .bad) = _
  rw [show kitB "tuple" "int" = some false by decide +kernel]
theorem isi_int_l {A : AH} {n : Nat} {xs : List D} (h : A[n]? = some (.lst xs)) : isiD "int" (.ref n) A = .ok (.bl false) A := by
  unfold isiD
  rw [show tyN A (.ref n) = some "list" by simp only [tyN, h]]
  show (match kitB "list" "int" with | some b => Res.ok (D.bl b) A | none => .bad) = _
  rw [show kitB "list" "int" = some false by decide +kernel]
theorem isi_int_f {A : AH} {n : Nat} {xs : List D} (h : A[n]? = some (.frz xs)) : isiD "int" (.ref n) A = .ok (.bl false) A := by
  unfold isiD
  rw [show tyN A (.ref n) = some "list" by simp only [tyN, h]]
  show (match kitB "list" "int" with | some b => Res.ok (D.bl b) A | none => .bad) = _
  rw [show kitB "list" "int" = some false by decide +kernel]
theorem isi_str_non  {A : AH} : isiD "str" (.non) A = .ok (.bl false) A := by
  show (match kitB "NoneType" "str" with | some b => Res.ok (D.bl b) A | none => .bad) = _
  rw [show kitB "NoneType" "str" = some false by decide +kernel]
theorem isi_str_bl {b : Bool} {A : AH} : isiD "str" (.bl b) A = .ok (.bl false) A := by
  show (match kitB "bool" "str" with | some b => Res.ok (D.bl b) A | none => .bad) = _
  rw [show kitB "bool" "str" = some false by decide +kernel]
theorem isi_str_int {i : Int} {A : AH} : isiD "str" (.int i) A = .ok (.bl false) A := by
  show (match kitB "int" "str" with | some b => Res.ok (D.bl b) A | none => .bad) = _
  rw [show kitB "int" "str" = some false by decide +kernel]
theorem isi_str_str {x : Str} {A : AH} : isiD "str" (.str x) A = .ok (.bl true) A := by
  show (match kitB "str" "str" with | some b => Res.ok (D.bl b) A | none => .bad) = _
  rw [show kitB "str" "str" = some true by decide +kernel]
theorem isi_str_tup {ds : List D} {A : AH} : isiD "str" (.tup ds) A = .ok (.bl false) A := by
  show (match kitB "tuple" "str" with | some b => Res.ok (D.bl b) A | none => .bad) = _
  rw [show kitB "tuple" "str" = some false by decide +kernel]
theorem isi_str_l {A : AH} {n : Nat} {xs : List D} (h : A[n]? = some (.lst xs)) : isiD "str" (.ref n) A = .ok (.bl false) A := by
  unfold isiD
  rw [show tyN A (.ref n) = some "list" by simp only [tyN, h]]
  show (match kitB "list" "str" with | some b => Res.ok (D.bl b) A | none => .bad) = _
  rw [show kitB "list" "str" = some false by decide +kernel]
theorem isi_str_f {A : AH} {n : Nat} {xs : List D} (h : A[n]? = some (.frz xs)) : isiD "str" (.ref n) A = .ok (.bl false) A := by
  unfold isiD
  rw [show tyN A (.ref n) = some "list" by simp only [tyN, h]]
  show (match kitB "list" "str" with | some b => Res.ok (D.bl b) A | none => .bad) = _
  rw [show kitB "list" "str" = some false by decide +kernel]
theorem isi_dict_non  {A : AH} : isiD "dict" (.non) A = .ok (.bl false) A := by
  show (match kitB "NoneType" "dict" with | some b => Res.ok (D.bl b) A | none => .bad) = _
  rw [show kitB "NoneType" "dict" = some false by decide +kernel]
theorem isi_dict_bl {b : Bool} {A : AH} : isiD "dict" (.bl b) A = .ok (.bl false) A := by
  show (match kitB "bool" "dict" with | some b => Res.ok (D.bl b) A | none => .bad) = _
  rw [show kitB "bool" "dict" = some false by decide +kernel]
theorem isi_dict_int {i : Int} {A : AH} : isiD "dict" (.int i) A = .ok (.bl false) A := by
  show (match kitB "int" "dict" with | some b => Res.ok (D.bl b) A | none => .bad) = _
  rw [show kitB "int" "dict" = some false by decide +kernel]
theorem isi_dict_str {x : Str} {A : AH} : isiD "dict" (.str x) A = .ok (.bl false) A := by
  show (match kitB "str" "dict" with | some b => Res.ok (D.bl b) A | none => .bad) = _
  rw [show kitB "str" "dict" = some false by decide +kernel]
theorem isi_dict_tup {ds : List D} {A : AH} : isiD "dict" (.tup ds) A = .ok (.bl false) A := by
  show (match kitB "tuple" "dict" with | some b => Res.ok (D.bl b) A | none => .bad) = _
  rw [show kitB "tuple" "dict" = some false by decide +kernel]
theorem isi_dict_l {A : AH} {n : Nat} {xs : List D} (h : A[n]? = some (.lst xs)) : isiD "dict" (.ref n) A = .ok (.bl false) A := by
  unfold isiD
  rw [show tyN A (.ref n) = some "list" by simp only [tyN, h]]
  show (match kitB "list" "dict" with | some b => Res.ok (D.bl b) A | none => .bad) = _
  rw [show kitB "list" "dict" = some false by decide +kernel]
theorem isi_dict_f {A : AH} {n : Nat} {xs : List D} (h : A[n]? = some (.frz xs)) : isiD "dict" (.ref n) A = .ok (.bl false) A := by
  unfold isiD
  rw [show tyN A (.ref n) = some "list" by simp only [tyN, h]]
  show (match kitB "list" "dict" with | some b => Res.ok (D.bl b) A | none => .bad) = _
  rw [show kitB "list" "dict" = some false by decide +kernel]
/-! ## loops -/
theorem loop_nil {ok : AH → Prop} {g : FG} {p : FS} {s : ASt} {A : AH} (h : ok A) : loopD ok g p [] s A = .ok (.nx s) A := by
  unfold loopD; rw [if_pos h]
/-- what a turn's end leads to -/
def turn_ (k : ASt → AH → Prop) (P : Fl → AH → Prop) : Fl → AH → Prop
  | .nx s, A => k s A
  | .ct s, A => k s A
  | .bk s, A => P (.nx s) A
  | .rt d, A => P (.rt d) A
theorem loop_cons {ok : AH → Prop} {g : FG} {p : FS} {d : D} {ds : List D} {s : ASt} {A : AH} {P : Fl → AH → Prop} (h : ok A) :
    Sat (loopD ok g p (d :: ds) s A) P = Sat (g d s A) fun s1 A1 => Sat (p s1 A1) (turn_ (fun s2 A2 => Sat (loopD ok g p ds s2 A2) P) P) := by
  rw [loopD, if_pos h, sat_bind]
  congr 1
  funext s1 A1
  cases p s1 A1 with
  | ok fl A2 => cases fl <;> rfl
  | _ => rfl
/-- a for by an invariant over the items that are left -/
theorem loop_inv {ok : AH → Prop} {g : FG} {p : FS} {P : Fl → AH → Prop} (I : List D → ASt → AH → Prop)
    (turn : ∀ d ds s A, I (d :: ds) s A → ok A ∧ Sat (g d s A) fun s1 A1 => Sat (p s1 A1) (turn_ (I ds) P)) (last : ∀ s A, I [] s A → ok A ∧ P (.nx s) A) :
    ∀ (ds : List D) (s : ASt) (A : AH), I ds s A → Sat (loopD ok g p ds s A) P
  | [], s, A, h => by
    rw [loop_nil (last s A h).1]
    exact (last s A h).2
  | d :: ds, s, A, h => by
    obtain ⟨h1, h2⟩ := turn d ds s A h
    rw [loop_cons h1]
    refine h2.imp fun s1 A1 h3 => h3.imp fun fl A2 h4 => ?_
    cases fl with
    | nx s2 => exact loop_inv I turn last ds s2 A2 h4
    | ct s2 => exact loop_inv I turn last ds s2 A2 h4
    | bk s2 => exact h4
    | rt d => exact h4
/-- a for over a range by an invariant over the turns -/
theorem range_inv {g : FG} {p : FS} {P : Fl → AH → Prop} {lo : Int} {n : Nat} (I : Nat → ASt → AH → Prop)
    (turn : ∀ k s A, k < n → I k s A → Sat (g (.int (lo + (k : Nat))) s A) fun s1 A1 => Sat (p s1 A1) (turn_ (I (k + 1)) P)) (last : ∀ s A, I n s A → P (.nx s) A)
    {s : ASt} {A : AH} (h : I 0 s A) : Sat (loopD yes g p (rngL lo n) s A) P := by
  have e : rngL lo n = (List.range' 0 n).map fun k => .int (lo + (k : Nat)) := by rw [← List.range_eq_range']; rfl
  have key : ∀ (m k : Nat) (s : ASt) (A : AH), k + m = n → I k s A → Sat (loopD yes g p ((List.range' k m).map fun k => .int (lo + (k : Nat))) s A) P := by
    intro m
    induction m with
    | zero => intro k s A hk h; rw [show k = n by omega] at h; rw [List.range'_zero, List.map_nil, loop_nil trivial]; exact last s A h
    | succ m ih =>
      intro k s A hk h
      rw [List.range'_succ, List.map_cons, loop_cons trivial]
      refine (turn k s A (by omega) h).imp fun s1 A1 h3 => h3.imp fun fl A2 h4 => ?_
      cases fl with
      | nx s2 => exact ih (k + 1) s2 A2 (by omega) h4
      | ct s2 => exact ih (k + 1) s2 A2 (by omega) h4
      | bk s2 => exact h4
      | rt d => exact h4
  rw [e]
  exact key n 0 s A (by omega) h
/-! ## the evaluation lemmas in one -/
theorem EV : type_of% (And.intro (And.intro (And.intro (And.intro (And.intro (And.intro (And.intro (@sat_ok) (@sat_bad)) (And.intro (@sat_bind) (@sat_ite))) (And.intro (And.intro (@bind_ok) (@bind_bad)) (And.intro (@thn_nx) (@thn_rt)))) (And.intro (And.intro (And.intro (@thn_bk) (@thn_ct)) (And.intro (@fin_rt) (@fin_nx))) (And.intro (And.intro (@ev_v) (@ev_c)) (And.intro (@ev_op) (And.intro (@ev_un) (@ev_nil)))))) (And.intro (And.intro (And.intro (And.intro (@ev_cons) (@ev_tup)) (And.intro (@ev_lst) (@ev_call))) (And.intro (And.intro (@ev_own) (@ev_sl)) (And.intro (@ev_no) (@ev_part)))) (And.intro (And.intro (And.intro (@ev_and) (@ev_or)) (And.intro (@ev_not) (@ev_if))) (And.intro (And.intro (@ev_t) (@ev_tb)) (And.intro (@ev_tnot) (And.intro (@ev_tand) (@ev_tor))))))) (And.intro (And.intro (And.intro (And.intro (And.intro (@ev_mt) (@ev_mt0)) (And.intro (@ev_rgd) (@ev_set))) (And.intro (And.intro (@ev_asg) (@ev_ret)) (And.intro (@ev_retN) (@ev_ex)))) (And.intro (And.intro (And.intro (@ev_pass) (@ev_brk)) (And.intro (@ev_cont) (@ev_ifS))) (And.intro (And.intro (@ev_aug) (@ev_gn)) (And.intro (@ev_gtp) (And.intro (@ev_gnl) (@ev_gcs)))))) (And.intro (And.intro (And.intro (And.intro (@ev_gsb) (@ev_for)) (And.intro (@ev_rg1) (@ev_rg2))) (And.intro (And.intro (@ev_its) (@ev_enum)) (And.intro (@ev_lc) (And.intro (@ev_yes) (@ev_add_ii))))) (And.intro (And.intro (And.intro (@ev_add_ss) (@ev_add_tt)) (And.intro (@ev_add_rr) (@ev_sub))) (And.intro (And.intro (@ev_mul) (@ev_mod)) (And.intro (@ev_fdiv) (And.intro (@ev_pow) (@ev_neg)))))))) (And.intro (And.intro (And.intro (And.intro (And.intro (And.intro (@ev_lt) (@ev_le)) (And.intro (@ev_gt) (@ev_ge))) (And.intro (And.intro (@ev_eq_ii) (@ev_eq_ss)) (And.intro (@ev_eq_bb) (@ev_ne_ii)))) (And.intro (And.intro (And.intro (@ev_ne_ss) (@ev_ne_bb)) (And.intro (@ev_is_n) (@ev_isnt_n))) (And.intro (And.intro (@ev_int_i) (@ev_int_b)) (And.intro (@ev_min_ii) (And.intro (@ev_max_ii) (@ev_abs)))))) (And.intro (And.intro (And.intro (And.intro (@ev_tup_of) (@ev_tup_ofL)) (And.intro (@ev_lst_ofT) (@ev_lst_ofL))) (And.intro (And.intro (@ev_len_t) (@ev_len_s)) (And.intro (@ev_len_r) (And.intro (@ev_tru_b) (@ev_alloc))))) (And.intro (And.intro (And.intro (@ev_tupD) (@ev_lstD)) (And.intro (@isi_tuple_non) (@isi_tuple_bl))) (And.intro (And.intro (@isi_tuple_int) (@isi_tuple_str)) (And.intro (@isi_tuple_tup) (And.intro (@isi_tuple_l) (@isi_tuple_f))))))) (And.intro (And.intro (And.intro (And.intro (And.intro (@isi_list_non) (@isi_list_bl)) (And.intro (@isi_list_int) (@isi_list_str))) (And.intro (And.intro (@isi_list_tup) (@isi_list_l)) (And.intro (@isi_list_f) (@isi_bool_non)))) (And.intro (And.intro (And.intro (@isi_bool_bl) (@isi_bool_int)) (And.intro (@isi_bool_str) (@isi_bool_tup))) (And.intro (And.intro (@isi_bool_l) (@isi_bool_f)) (And.intro (@isi_int_non) (And.intro (@isi_int_bl) (@isi_int_int)))))) (And.intro (And.intro (And.intro (And.intro (@isi_int_str) (@isi_int_tup)) (And.intro (@isi_int_l) (@isi_int_f))) (And.intro (And.intro (@isi_str_non) (@isi_str_bl)) (And.intro (@isi_str_int) (And.intro (@isi_str_str) (@isi_str_tup))))) (And.intro (And.intro (And.intro (@isi_str_l) (@isi_str_f)) (And.intro (@isi_dict_non) (@isi_dict_bl))) (And.intro (And.intro (@isi_dict_int) (@isi_dict_str)) (And.intro (@isi_dict_tup) (And.intro (@isi_dict_l) (@isi_dict_f))))))))) := And.intro (And.intro (And.intro (And.intro (And.intro (And.intro (And.intro (@sat_ok) (@sat_bad)) (And.intro (@sat_bind) (@sat_ite))) (And.intro (And.intro (@bind_ok) (@bind_bad)) (And.intro (@thn_nx) (@thn_rt)))) (And.intro (And.intro (And.intro (@thn_bk) (@thn_ct)) (And.intro (@fin_rt) (@fin_nx))) (And.intro (And.intro (@ev_v) (@ev_c)) (And.intro (@ev_op) (And.intro (@ev_un) (@ev_nil)))))) (And.intro (And.intro (And.intro (And.intro (@ev_cons) (@ev_tup)) (And.intro (@ev_lst) (@ev_call))) (And.intro (And.intro (@ev_own) (@ev_sl)) (And.intro (@ev_no) (@ev_part)))) (And.intro (And.intro (And.intro (@ev_and) (@ev_or)) (And.intro (@ev_not) (@ev_if))) (And.intro (And.intro (@ev_t) (@ev_tb)) (And.intro (@ev_tnot) (And.intro (@ev_tand) (@ev_tor))))))) (And.intro (And.intro (And.intro (And.intro (And.intro (@ev_mt) (@ev_mt0)) (And.intro (@ev_rgd) (@ev_set))) (And.intro (And.intro (@ev_asg) (@ev_ret)) (And.intro (@ev_retN) (@ev_ex)))) (And.intro (And.intro (And.intro (@ev_pass) (@ev_brk)) (And.intro (@ev_cont) (@ev_ifS))) (And.intro (And.intro (@ev_aug) (@ev_gn)) (And.intro (@ev_gtp) (And.intro (@ev_gnl) (@ev_gcs)))))) (And.intro (And.intro (And.intro (And.intro (@ev_gsb) (@ev_for)) (And.intro (@ev_rg1) (@ev_rg2))) (And.intro (And.intro (@ev_its) (@ev_enum)) (And.intro (@ev_lc) (And.intro (@ev_yes) (@ev_add_ii))))) (And.intro (And.intro (And.intro (@ev_add_ss) (@ev_add_tt)) (And.intro (@ev_add_rr) (@ev_sub))) (And.intro (And.intro (@ev_mul) (@ev_mod)) (And.intro (@ev_fdiv) (And.intro (@ev_pow) (@ev_neg)))))))) (And.intro (And.intro (And.intro (And.intro (And.intro (And.intro (@ev_lt) (@ev_le)) (And.intro (@ev_gt) (@ev_ge))) (And.intro (And.intro (@ev_eq_ii) (@ev_eq_ss)) (And.intro (@ev_eq_bb) (@ev_ne_ii)))) (And.intro (And.intro (And.intro (@ev_ne_ss) (@ev_ne_bb)) (And.intro (@ev_is_n) (@ev_isnt_n))) (And.intro (And.intro (@ev_int_i) (@ev_int_b)) (And.intro (@ev_min_ii) (And.intro (@ev_max_ii) (@ev_abs)))))) (And.intro (And.intro (And.intro (And.intro (@ev_tup_of) (@ev_tup_ofL)) (And.intro (@ev_lst_ofT) (@ev_lst_ofL))) (And.intro (And.intro (@ev_len_t) (@ev_len_s)) (And.intro (@ev_len_r) (And.intro (@ev_tru_b) (@ev_alloc))))) (And.intro (And.intro (And.intro (@ev_tupD) (@ev_lstD)) (And.intro (@isi_tuple_non) (@isi_tuple_bl))) (And.intro (And.intro (@isi_tuple_int) (@isi_tuple_str)) (And.intro (@isi_tuple_tup) (And.intro (@isi_tuple_l) (@isi_tuple_f))))))) (And.intro (And.intro (And.intro (And.intro (And.intro (@isi_list_non) (@isi_list_bl)) (And.intro (@isi_list_int) (@isi_list_str))) (And.intro (And.intro (@isi_list_tup) (@isi_list_l)) (And.intro (@isi_list_f) (@isi_bool_non)))) (And.intro (And.intro (And.intro (@isi_bool_bl) (@isi_bool_int)) (And.intro (@isi_bool_str) (@isi_bool_tup))) (And.intro (And.intro (@isi_bool_l) (@isi_bool_f)) (And.intro (@isi_int_non) (And.intro (@isi_int_bl) (@isi_int_int)))))) (And.intro (And.intro (And.intro (And.intro (@isi_int_str) (@isi_int_tup)) (And.intro (@isi_int_l) (@isi_int_f))) (And.intro (And.intro (@isi_str_non) (@isi_str_bl)) (And.intro (@isi_str_int) (And.intro (@isi_str_str) (@isi_str_tup))))) (And.intro (And.intro (And.intro (@isi_str_l) (@isi_str_f)) (And.intro (@isi_dict_non) (@isi_dict_bl))) (And.intro (And.intro (@isi_dict_int) (@isi_dict_str)) (And.intro (@isi_dict_tup) (And.intro (@isi_dict_l) (@isi_dict_f))))))))
end Ab

namespace Ab
open PySem PySem.Spec PyProof.Rows L2
open scoped Classical

/-! ## what the drawing helpers of the laws leave -/
/-- at s stands a source of drawn numbers -/
def Sr (s : Nat) (A : AH) : Prop := ∃ c r k : Int, A[s]? = some (.lst [.int c, .int r, .int k])
/-- all cells but the source are as they were; new ones may have come -/
structure Dr (s : Nat) (A A' : AH) : Prop where
  le : A.length ≤ A'.length
  keep : ∀ i o, i ≠ s → A[i]? = some o → A'[i]? = some o
  src : Sr s A'
theorem Dr.refl {s : Nat} {A : AH} (h : Sr s A) : Dr s A A := ⟨Nat.le_refl _, fun _ _ _ h => h, h⟩
theorem Dr.trans {s : Nat} {A B C : AH} (h : Dr s A B) (h' : Dr s B C) : Dr s A C := ⟨Nat.le_trans h.le h'.le, fun i o n e => h'.keep i o n (h.keep i o n e), h'.src⟩
theorem Sr.lt {s : Nat} {A : AH} (h : Sr s A) : s < A.length := by
  obtain ⟨c, r, k, h⟩ := h
  exact (List.getElem?_eq_some_iff.mp h).1
theorem Dr.app {s : Nat} {A : AH} (h : Sr s A) (B : AH) : Dr s A (A ++ B) := by
  have app : ∀ (i : Nat) o, A[i]? = some o → (A ++ B)[i]? = some o := fun i o e => by
    rw [List.getElem?_append_left (List.getElem?_eq_some_iff.mp e).1]; exact e
  obtain ⟨c, r, k, h⟩ := h
  exact ⟨by simp, fun i o _ e => app i o e, c, r, k, app s _ h⟩
theorem Dr.set {s : Nat} {A : AH} {c r k : Int} (h : s < A.length) : Dr s A (A.set s (.lst [.int c, .int r, .int k])) :=
  ⟨by simp, fun i o n e => by rw [List.getElem?_set_ne (Ne.symm n)]; exact e, c, r, k, List.getElem?_set_self h⟩
/-- a drawing helper that hands back what P says -/
def DrwS (s : Nat) (A : AH) (r : Res D) (P : D → Prop) : Prop := Sat r fun d A' => P d ∧ Dr s A A'
theorem DrwS.imp {s : Nat} {A : AH} {r : Res D} {P Q : D → Prop} (h : DrwS s A r P) (q : ∀ d, P d → Q d) : DrwS s A r Q := Sat.imp h fun d A' ⟨h1, h2⟩ => ⟨q d h1, h2⟩
/-- the number from 0 on, below n (0 where n is below 1) -/
def Below (n : Int) (d : D) : Prop := ∃ v, d = .int v ∧ 0 ≤ v ∧ (v < n ∨ v = 0)

/-- all cells are as they were; new ones may have come -/
structure Gr (A A' : AH) : Prop where
  le : A.length ≤ A'.length
  keep : ∀ (i : Nat) o, A[i]? = some o → A'[i]? = some o
section
variable {A B C : AH} {s r : Nat} {o : AO}
theorem at_lt (h : A[r]? = some o) : r < A.length := (List.getElem?_eq_some_iff.mp h).1
theorem at_new : (A ++ [o])[A.length]? = some o := List.getElem?_concat_length ..
theorem at_set (h : r < A.length) : (A.set r o)[r]? = some o := List.getElem?_set_self h
theorem Gr.refl : Gr A A := ⟨Nat.le_refl _, fun _ _ h => h⟩
theorem Gr.trans (h : Gr A B) (h' : Gr B C) : Gr A C := ⟨Nat.le_trans h.le h'.le, fun i o e => h'.keep i o (h.keep i o e)⟩
theorem Gr.app : Gr A (A ++ B) := ⟨by simp, fun i o e => by rw [List.getElem?_append_left (at_lt e)]; exact e⟩
theorem Gr.set (h : Gr A B) (hr : A.length ≤ r) : Gr A (B.set r o) := ⟨by simpa using h.le, fun i o' e => by
  have := at_lt e
  rw [List.getElem?_set_ne (by omega)]; exact h.keep i o' e⟩
theorem Gr.dr (h : Gr A B) (hs : Sr s A) : Dr s A B := ⟨h.le, fun i o _ e => h.keep i o e, by obtain ⟨c, r, k, e⟩ := hs; exact ⟨c, r, k, h.keep _ _ e⟩⟩
theorem Sr.gr (h : Gr A B) (hs : Sr s A) : Sr s B := (h.dr hs).src
theorem Dr.setN (h : Dr s A B) (hr : A.length ≤ r) (hs : Sr s A) : Dr s A (B.set r o) := ⟨by simpa using h.le, fun i o' n e => by
  have := at_lt e
  rw [List.getElem?_set_ne (by omega)]; exact h.keep i o' n e, by
    obtain ⟨c, q, k, e⟩ := h.src
    have := hs.lt
    exact ⟨c, q, k, by rw [List.getElem?_set_ne (by omega)]; exact e⟩⟩
/-- a list's display by an invariant over the items that are left and the list so far -/
theorem comp_inv {ok : AH → Prop} {g : FG} {t : FT} {f : FE} {n : Nat} {s : ASt} {P : D → AH → Prop} (I : List D → List D → AH → Prop)
    (turn : ∀ d ds acc A, I (d :: ds) acc A → ok A ∧ Sat (g d s A) fun s1 A1 => Sat (t s1 A1) fun b A2 => if b = true then Sat (f s1 A2) fun y A3 => A3[n]? = some (.lst acc) ∧ acc.length < sizeLine ∧ I ds (acc ++ [y]) (A3.set n (.lst (acc ++ [y]))) else I ds acc A2)
    (last : ∀ acc A, I [] acc A → ok A ∧ P (.ref n) A) : ∀ (ds acc : List D) (A : AH), I ds acc A → Sat (loopC ok g t f n s ds A) P
  | [], acc, A, h => by
    rw [loopC, if_pos (last acc A h).1]
    exact (last acc A h).2
  | d :: ds, acc, A, h => by
    obtain ⟨h1, h2⟩ := turn d ds acc A h
    rw [loopC, if_pos h1, sat_bind]
    refine h2.imp fun s1 A1 h3 => ?_
    rw [sat_bind]
    refine h3.imp fun b A2 h4 => ?_
    cases b with
    | true =>
      rw [if_pos rfl, sat_bind]
      rw [if_pos rfl] at h4
      refine h4.imp fun y A3 ⟨h5, h6, h7⟩ => ?_
      simp only [h5]
      rw [if_pos h6]
      exact comp_inv I turn last ds _ _ h7
    | false =>
      rw [if_neg Bool.false_ne_true]
      rw [if_neg Bool.false_ne_true] at h4
      exact comp_inv I turn last ds _ _ h4
/-- a list's display of values that need no cell -/
theorem comp_pure {α : Type} {ok : AH → Prop} {g : FG} {f : FE} {s : ASt} {P : D → AH → Prop} {qs : List α} (c : α → D) (F : α → D)
    (hok : ∀ l, ok (A ++ [.lst l])) (hf : ∀ q ∈ qs, ∀ l, Sat (g (c q) s (A ++ [.lst l])) fun s1 A1 => Sat (f s1 A1) fun y A3 => y = F q ∧ A3 = A ++ [.lst l]) (hl : qs.length ≤ 1000000)
    (hP : P (.ref A.length) (A ++ [.lst (qs.map F)])) : Sat (loopC ok g fYes f A.length s (qs.map c) (A ++ [.lst []])) P := by
  refine comp_inv (fun rest acc B => B = A ++ [.lst acc] ∧ ∃ pre post, qs = pre ++ post ∧ rest = post.map c ∧ acc = pre.map F) (fun d rest acc B ⟨hB, pre, post, h1, h0, h2⟩ => ?_) (fun acc B ⟨hB, pre, post, h1, h0, h2⟩ => ?_) _ [] _ ⟨rfl, [], qs, rfl, rfl, rfl⟩
  · subst hB
    cases post with
    | nil => cases h0
    | cons q post =>
      rw [List.map_cons, List.cons.injEq] at h0
      obtain ⟨e1, e2⟩ := h0
      subst e1; subst e2
      refine ⟨hok acc, Sat.imp (hf q (by rw [h1]; simp) acc) fun s1 A1 h3 => ?_⟩
      show Sat (Res.ok true A1) _
      rw [sat_ok, if_pos rfl]
      refine Sat.imp h3 fun y A3 ⟨h4, h5⟩ => ?_
      subst h4; subst h5
      refine ⟨at_new, ?_, ?_, pre ++ [q], post, by rw [h1]; simp, rfl, by rw [h2]; simp⟩
      · have : qs.length = pre.length + (post.length + 1) := by rw [h1]; simp
        have e : acc.length = pre.length := by rw [h2]; simp
        refine Nat.lt_of_lt_of_le (show acc.length < 1000000 by omega) (by decide)
      · rw [List.set_append_right _ _ (Nat.le_refl _), Nat.sub_self]; rfl
  · subst hB
    cases post with
    | cons q post => cases h0
    | nil =>
      rw [List.append_nil] at h1
      subst h1; subst h2
      exact ⟨hok _, hP⟩
/-- a list's display over counted items, by an invariant over the turns -/
theorem comp_cnt {ok : AH → Prop} {g : FG} {f : FE} {m : Nat} {s : ASt} {P : D → AH → Prop} {it : Nat → D} {n : Nat} (I : Nat → List D → AH → Prop)
    (turn : ∀ k acc A, k < n → I k acc A → ok A ∧ Sat (g (it k) s A) fun s1 A1 => Sat (f s1 A1) fun y A3 => A3[m]? = some (.lst acc) ∧ acc.length < 1000000 ∧ I (k + 1) (acc ++ [y]) (A3.set m (.lst (acc ++ [y]))))
    (last : ∀ acc A, I n acc A → ok A ∧ P (.ref m) A) {acc : List D} {A : AH} (h : I 0 acc A) : Sat (loopC ok g fYes f m s ((List.range n).map it) A) P := by
  rw [List.range_eq_range']
  refine comp_inv (fun rest acc B => ∃ k j, k + j = n ∧ rest = (List.range' k j).map it ∧ I k acc B) (fun d rest acc B ⟨k, j, h1, h2, h3⟩ => ?_) (fun acc B ⟨k, j, h1, h2, h3⟩ => ?_) _ acc _ ⟨0, n, by omega, rfl, h⟩
  · cases j with
    | zero => rw [List.range'_zero, List.map_nil] at h2; cases h2
    | succ j =>
      rw [List.range'_succ, List.map_cons, List.cons.injEq] at h2
      obtain ⟨e1, e2⟩ := h2
      subst e1
      obtain ⟨o1, o2⟩ := turn k acc B (by omega) h3
      refine ⟨o1, Sat.imp o2 fun s1 A1 h4 => ?_⟩
      show Sat (Res.ok true A1) _
      rw [sat_ok, if_pos rfl]
      exact Sat.imp h4 fun y A3 ⟨h5, h6, h7⟩ => ⟨h5, Nat.lt_of_lt_of_le h6 (by decide), k + 1, j, by omega, e2, h7⟩
  · cases j with
    | zero => rw [show k = n by omega] at h3; exact last acc B h3
    | succ j => rw [List.range'_succ, List.map_cons] at h2; cases h2
/-- a for over counted items -/
theorem for_cnt {ok : AH → Prop} {g : FG} {p : FS} {P : Fl → AH → Prop} {it : Nat → D} {n : Nat} (I : Nat → ASt → AH → Prop)
    (turn : ∀ k s A, k < n → I k s A → ok A ∧ Sat (g (it k) s A) fun s1 A1 => Sat (p s1 A1) (turn_ (I (k + 1)) P)) (last : ∀ s A, I n s A → ok A ∧ P (.nx s) A)
    {s : ASt} {A : AH} (h : I 0 s A) : Sat (loopD ok g p ((List.range n).map it) s A) P := by
  rw [List.range_eq_range']
  refine loop_inv (fun rest s B => ∃ k j, k + j = n ∧ rest = (List.range' k j).map it ∧ I k s B) (fun d rest s B ⟨k, j, h1, h2, h3⟩ => ?_) (fun s B ⟨k, j, h1, h2, h3⟩ => ?_) _ _ _ ⟨0, n, by omega, rfl, h⟩
  · cases j with
    | zero => rw [List.range'_zero, List.map_nil] at h2; cases h2
    | succ j =>
      rw [List.range'_succ, List.map_cons, List.cons.injEq] at h2
      obtain ⟨e1, e2⟩ := h2
      subst e1
      obtain ⟨o1, o2⟩ := turn k s B (by omega) h3
      refine ⟨o1, Sat.imp o2 fun s1 A1 h4 => Sat.imp h4 fun fl A2 h5 => ?_⟩
      cases fl with
      | nx s2 => exact ⟨k + 1, j, by omega, e2, h5⟩
      | ct s2 => exact ⟨k + 1, j, by omega, e2, h5⟩
      | bk s2 => exact h5
      | rt d => exact h5
  · cases j with
    | zero => rw [show k = n by omega] at h3; exact last s B h3
    | succ j => rw [List.range'_succ, List.map_cons] at h2; cases h2
/-- a list's display over a range by an invariant over the turns -/
theorem comp_range {g : FG} {f : FE} {m : Nat} {s : ASt} {P : D → AH → Prop} {lo : Int} {n : Nat} (I : Nat → List D → AH → Prop)
    (turn : ∀ k acc A, k < n → I k acc A → Sat (g (.int (lo + (k : Nat))) s A) fun s1 A1 => Sat (f s1 A1) fun y A3 => A3[m]? = some (.lst acc) ∧ acc.length < 1000000 ∧ I (k + 1) (acc ++ [y]) (A3.set m (.lst (acc ++ [y]))))
    (last : ∀ acc A, I n acc A → P (.ref m) A) {acc : List D} {A : AH} (h : I 0 acc A) : Sat (loopC yes g fYes f m s (rngL lo n) A) P := by
  have e : rngL lo n = (List.range' 0 n).map fun k => .int (lo + (k : Nat)) := by rw [← List.range_eq_range']; rfl
  rw [e]
  refine comp_inv (fun rest acc B => ∃ k j, k + j = n ∧ rest = (List.range' k j).map (fun k => .int (lo + (k : Nat))) ∧ I k acc B) (fun d rest acc B ⟨k, j, h1, h2, h3⟩ => ⟨trivial, ?_⟩) (fun acc B ⟨k, j, h1, h2, h3⟩ => ⟨trivial, ?_⟩) _ acc _ ⟨0, n, by omega, rfl, h⟩
  · cases j with
    | zero => rw [List.range'_zero, List.map_nil] at h2; cases h2
    | succ j =>
      rw [List.range'_succ, List.map_cons, List.cons.injEq] at h2
      obtain ⟨e1, e2⟩ := h2
      subst e1
      refine Sat.imp (turn k acc B (by omega) h3) fun s1 A1 h4 => ?_
      show Sat (Res.ok true A1) _
      rw [sat_ok, if_pos rfl]
      exact Sat.imp h4 fun y A3 ⟨h5, h6, h7⟩ => ⟨h5, Nat.lt_of_lt_of_le h6 (by decide), k + 1, j, by omega, e2, h7⟩
  · cases j with
    | zero => rw [show k = n by omega] at h3; exact last acc B h3
    | succ j => rw [List.range'_succ, List.map_cons] at h2; cases h2
theorem ixN_pos {n : Nat} {k : Int} (h0 : 0 ≤ k) (h : k < n) : ixN n k = some k.toNat := by
  unfold ixN
  rw [if_pos h0, if_pos h]
theorem ev_sl_l {xs : List D} {lo hi : Option Int} (h : A[r]? = some (.lst xs)) : slD (.ref r) lo hi A = .ok (.ref A.length) (A ++ [.lst (cutL xs lo hi)]) := by
  show (match rdL A (.ref r) with
    | some xs => Ab.alloc (.lst (cutL xs lo hi)) A
    | none => .bad) = _
  rw [rdL_l h]; rfl
theorem ev_app {xs : List D} {y : D} (h : A[r]? = some (.lst xs)) (hl : xs.length < 1000000) : appendD (.ref r) [y] A = .ok .non (A.set r (.lst (xs ++ [y]))) := by
  show (match A[r]? with
    | some (.lst xs) => if xs.length < sizeLine then Res.ok D.non (A.set r (.lst (xs ++ [y]))) else .bad
    | _ => .bad) = _
  rw [h]
  exact if_pos (Nat.lt_of_lt_of_le hl (by decide))
theorem ty_l {xs : List D} (h : A[r]? = some (.lst xs)) : isTy "list" (.ref r) A = true := by
  simp [isTy, rdL_l h]
theorem ev_rev {xs : List D} (h : A[r]? = some (.lst xs)) : revD (.ref r) A = .ok (.ref A.length) (A ++ [.lst xs.reverse]) := by unfold revD; rw [rdL_l h]; rfl
theorem ev_iseq_t {ds : List D} : iSeq (.tup ds) A = .ok ⟨ds, yes⟩ A := rfl
theorem ev_iseq_l {xs : List D} (h : A[r]? = some (.lst xs)) : iSeq (.ref r) A = .ok ⟨xs, fun A' => rdL A' (.ref r) = some xs⟩ A := by
  show (match rdL A (.ref r) with
    | some ds => Res.ok (⟨ds, fun A' => rdL A' (.ref r) = some ds⟩ : Src) A
    | none => .bad) = _
  rw [rdL_l h]
theorem ev_max_l {xs : List Int} (h : A[r]? = some (.lst (xs.map D.int))) (h0 : xs ≠ []) : maxD [.ref r] A = .ok (.int (maxI xs)) A := by
  show (match rdL A (.ref r) with
    | some xs => (match intsOf xs with
      | some (i :: is) => Res.ok (D.int (maxI (i :: is))) A
      | _ => .bad)
    | none => .bad) = _
  have e : ∀ xs : List Int, intsOf (xs.map D.int) = some xs := by
    intro xs
    induction xs with
    | nil => rfl
    | cons x xs ih => show (match intsOf (xs.map D.int) with | some is => some (x :: is) | none => none) = _; rw [ih]
  rw [rdL_l h]
  simp only [e]
  cases xs with
  | nil => exact (h0 rfl).elim
  | cons x xs => rfl
theorem ev_min_l {xs : List Int} (h : A[r]? = some (.lst (xs.map D.int))) (h0 : xs ≠ []) : minD [.ref r] A = .ok (.int (minI xs)) A := by
  show (match rdL A (.ref r) with
    | some xs => (match intsOf xs with
      | some (i :: is) => Res.ok (D.int (minI (i :: is))) A
      | _ => .bad)
    | none => .bad) = _
  have e : ∀ xs : List Int, intsOf (xs.map D.int) = some xs := by
    intro xs
    induction xs with
    | nil => rfl
    | cons x xs ih => show (match intsOf (xs.map D.int) with | some is => some (x :: is) | none => none) = _; rw [ih]
  rw [rdL_l h]
  simp only [e]
  cases xs with
  | nil => exact (h0 rfl).elim
  | cons x xs => rfl
end
/-! ## greatest and least -/
/-! ## plain data -/
def Pl : Nat → D → Prop
  | _, .non => True
  | _, .bl _ => True
  | _, .int _ => True
  | _, .str _ => True
  | 0, .tup _ => False
  | n + 1, .tup ds => ds.length ≤ 1000000 ∧ ∀ d ∈ ds, Pl n d
  | _, .ref _ => False
end Ab

set_option maxHeartbeats 4000000
namespace Law
open PySem PySem.Spec PyProof.Rows L2 Ab
def top (i : Nat) : Stmt := PySem.Challenge.pw_neverhappens_k03_whole_program_text.main.body.getD i (.Pass ⟨0, 0, 0, 0⟩)
abbrev s__law_cell : Stmt := top 12
abbrev n__law_cell : List Str := ["_law_script", "_law_at"]
abbrev s__law_kind_text : Stmt := top 29
abbrev n__law_kind_text : List Str := ["_law_kind_here"]
abbrev s__law_text : Stmt := top 30
abbrev n__law_text : List Str := ["_law_expression_here", "_law_sign"]
abbrev s__law_line : Stmt := top 31
abbrev n__law_line : List Str := ["_law_statement", "_law_sign", "_law_shown", "_law_one_here"]
abbrev s__law_lines : Stmt := top 32
abbrev n__law_lines : List Str := ["_law_body_here", "_law_depth", "_law_lines_here", "_law_statement"]
abbrev s__law_function_lines : Stmt := top 33
abbrev n__law_function_lines : List Str := ["_law_head", "_law_shown", "_law_pair", "_law_first", "_law_own"]
abbrev s__law_joined : Stmt := top 28
abbrev n__law_joined : List Str := ["_law_lines_here", "_law_row"]
abbrev s__law_pick : Stmt := top 14
abbrev n__law_pick : List Str := ["_law_source_here", "_law_size", "_law_k", "_law_digit", "_law_mixed"]
abbrev s__law_number : Stmt := top 19
abbrev n__law_number : List Str := ["_law_source_here", "_law_world", "_law_choice", "_law_size"]
abbrev s__law_reserved : Stmt := top 16
abbrev n__law_reserved : List Str := ["_law_words"]
abbrev s__law_name : Stmt := top 17
abbrev n__law_name : List Str := ["_law_source_here", "_law_world", "_law_size", "_law_word_here", "_law_k"]
abbrev s__law_word : Stmt := top 18
abbrev n__law_word : List Str := ["_law_source_here", "_law_world", "_law_at"]
abbrev s__law_node : Stmt := top 20
abbrev n__law_node : List Str := ["_law_source_here", "_law_world", "_law_choice", "_law_depth", "_law_left", "_law_sign"]
abbrev s__law_expression : Stmt := top 21
abbrev n__law_expression : List Str := ["_law_source_here", "_law_world", "_law_depth", "_law_choice"]
abbrev s__law_one : Stmt := top 15
abbrev n__law_one : List Str := ["_law_source_here", "_law_row"]
abbrev s__law_leaf : Stmt := top 25
abbrev n__law_leaf : List Str := ["_law_source_here", "_law_world", "_law_signs", "_law_sign", "_law_first", "_law_second", "_law_told", "_law_ones", "_law_k"]
abbrev s__law_body : Stmt := top 26
abbrev n__law_body : List Str := ["_law_source_here", "_law_world", "_law_upto", "_law_depth", "_law_body_here", "_law_k", "_law_choice", "_law_test", "_law_inner"]
abbrev s__law_count : Stmt := top 23
abbrev n__law_count : List Str := ["_law_source_here", "_law_bound"]
abbrev s__law_kind : Stmt := top 22
abbrev n__law_kind : List Str := ["_law_source_here", "_law_world", "_law_wide", "_law_choice", "_law_low"]
abbrev s__law_pairs : Stmt := top 24
abbrev n__law_pairs : List Str := ["_law_source_here", "_law_world", "_law_bound", "_law_wide", "_law_pairs_here", "_law_k"]
abbrev s__law_program : Stmt := top 27
abbrev n__law_program : List Str := ["_law_source_here", "_law_spare", "_law_world", "_law_k", "_law_records", "_law_arrays", "_law_length", "_law_pairs_here", "_law_functions", "_law_name_here", "_law_params", "_law_result", "_law_own", "_law_upto", "_law_body_here"]
abbrev s__law_program_lines : Stmt := top 34
abbrev n__law_program_lines : List Str := ["_law_program_here", "_law_lines_here", "_law_record", "_law_field", "_law_array", "_law_pair", "_law_head"]
abbrev s__law_same : Stmt := top 35
abbrev n__law_same : List Str := ["_law_actual", "_law_due", "_law_k"]
abbrev s__law_source : Stmt := top 13
abbrev n__law_source : List Str := ["_law_cell_here"]
abbrev s_kind_text : Stmt := top 2
abbrev n_kind_text : List Str := ["kind"]
abbrev s_heading_text : Stmt := top 5
abbrev n_heading_text : List Str := ["heading", "word", "params", "param"]
abbrev s_expression_text : Stmt := top 1
abbrev n_expression_text : List Str := ["expression", "word"]
abbrev s_call_text : Stmt := top 3
abbrev n_call_text : List Str := ["statement", "arguments", "argument"]
abbrev s_statement_text : Stmt := top 4
abbrev n_statement_text : List Str := ["statement", "word"]
abbrev s_statement_lines : Stmt := top 6
abbrev n_statement_lines : List Str := ["body", "depth", "indent", "lines", "statement"]
abbrev s_function_lines : Stmt := top 7
abbrev n_function_lines : List Str := ["function", "name", "params", "result", "own", "body", "lines", "variable", "kind"]
abbrev s_joined : Stmt := top 8
abbrev n_joined : List Str := ["lines", "line"]
abbrev s_function_text : Stmt := top 9
abbrev n_function_text : List Str := ["function"]
abbrev s_program_text : Stmt := top 10
abbrev n_program_text : List Str := ["program", "lines", "name", "fields", "field", "kind", "length", "lo", "hi", "function"]
abbrev s_law : Stmt := top 36
abbrev n_law : List Str := ["_law_script", "_law_first", "_law_second", "_law_program_here", "_law_head"]
theorem sc__law_cell : FnScope n__law_cell ["_law_script", "_law_at"] (defScope s__law_cell) := ⟨rfl, rfl, rfl, by decide +kernel, rfl, by decide +kernel, by decide +kernel⟩
theorem sc__law_kind_text : FnScope n__law_kind_text ["_law_kind_here"] (defScope s__law_kind_text) := ⟨rfl, rfl, rfl, by decide +kernel, rfl, by decide +kernel, by decide +kernel⟩
theorem sc__law_text : FnScope n__law_text ["_law_expression_here"] (defScope s__law_text) := ⟨rfl, rfl, rfl, by decide +kernel, rfl, by decide +kernel, by decide +kernel⟩
theorem sc__law_line : FnScope n__law_line ["_law_statement"] (defScope s__law_line) := ⟨rfl, rfl, rfl, by decide +kernel, rfl, by decide +kernel, by decide +kernel⟩
theorem sc__law_lines : FnScope n__law_lines ["_law_body_here", "_law_depth"] (defScope s__law_lines) := ⟨rfl, rfl, rfl, by decide +kernel, rfl, by decide +kernel, by decide +kernel⟩
theorem sc__law_function_lines : FnScope n__law_function_lines ["_law_head"] (defScope s__law_function_lines) := ⟨rfl, rfl, rfl, by decide +kernel, rfl, by decide +kernel, by decide +kernel⟩
theorem sc__law_joined : FnScope n__law_joined ["_law_lines_here"] (defScope s__law_joined) := ⟨rfl, rfl, rfl, by decide +kernel, rfl, by decide +kernel, by decide +kernel⟩
theorem sc__law_pick : FnScope n__law_pick ["_law_source_here", "_law_size"] (defScope s__law_pick) := ⟨rfl, rfl, rfl, by decide +kernel, rfl, by decide +kernel, by decide +kernel⟩
theorem sc__law_number : FnScope n__law_number ["_law_source_here", "_law_world"] (defScope s__law_number) := ⟨rfl, rfl, rfl, by decide +kernel, rfl, by decide +kernel, by decide +kernel⟩
theorem sc__law_reserved : FnScope n__law_reserved [] (defScope s__law_reserved) := ⟨rfl, rfl, rfl, by decide +kernel, rfl, by decide +kernel, by decide +kernel⟩
theorem sc__law_name : FnScope n__law_name ["_law_source_here", "_law_world"] (defScope s__law_name) := ⟨rfl, rfl, rfl, by decide +kernel, rfl, by decide +kernel, by decide +kernel⟩
theorem sc__law_word : FnScope n__law_word ["_law_source_here", "_law_world"] (defScope s__law_word) := ⟨rfl, rfl, rfl, by decide +kernel, rfl, by decide +kernel, by decide +kernel⟩
theorem sc__law_node : FnScope n__law_node ["_law_source_here", "_law_world", "_law_choice", "_law_depth"] (defScope s__law_node) := ⟨rfl, rfl, rfl, by decide +kernel, rfl, by decide +kernel, by decide +kernel⟩
theorem sc__law_expression : FnScope n__law_expression ["_law_source_here", "_law_world", "_law_depth"] (defScope s__law_expression) := ⟨rfl, rfl, rfl, by decide +kernel, rfl, by decide +kernel, by decide +kernel⟩
theorem sc__law_one : FnScope n__law_one ["_law_source_here", "_law_row"] (defScope s__law_one) := ⟨rfl, rfl, rfl, by decide +kernel, rfl, by decide +kernel, by decide +kernel⟩
theorem sc__law_leaf : FnScope n__law_leaf ["_law_source_here", "_law_world"] (defScope s__law_leaf) := ⟨rfl, rfl, rfl, by decide +kernel, rfl, by decide +kernel, by decide +kernel⟩
theorem sc__law_body : FnScope n__law_body ["_law_source_here", "_law_world", "_law_upto", "_law_depth"] (defScope s__law_body) := ⟨rfl, rfl, rfl, by decide +kernel, rfl, by decide +kernel, by decide +kernel⟩
theorem sc__law_count : FnScope n__law_count ["_law_source_here", "_law_bound"] (defScope s__law_count) := ⟨rfl, rfl, rfl, by decide +kernel, rfl, by decide +kernel, by decide +kernel⟩
theorem sc__law_kind : FnScope n__law_kind ["_law_source_here", "_law_world", "_law_wide"] (defScope s__law_kind) := ⟨rfl, rfl, rfl, by decide +kernel, rfl, by decide +kernel, by decide +kernel⟩
theorem sc__law_pairs : FnScope n__law_pairs ["_law_source_here", "_law_world", "_law_bound", "_law_wide"] (defScope s__law_pairs) := ⟨rfl, rfl, rfl, by decide +kernel, rfl, by decide +kernel, by decide +kernel⟩
theorem sc__law_program : FnScope n__law_program ["_law_source_here", "_law_spare"] (defScope s__law_program) := ⟨rfl, rfl, rfl, by decide +kernel, rfl, by decide +kernel, by decide +kernel⟩
theorem sc__law_program_lines : FnScope n__law_program_lines ["_law_program_here"] (defScope s__law_program_lines) := ⟨rfl, rfl, rfl, by decide +kernel, rfl, by decide +kernel, by decide +kernel⟩
theorem sc__law_same : FnScope n__law_same ["_law_actual", "_law_due"] (defScope s__law_same) := ⟨rfl, rfl, rfl, by decide +kernel, rfl, by decide +kernel, by decide +kernel⟩
theorem sc__law_source : FnScope n__law_source ["_law_cell_here"] (defScope s__law_source) := ⟨rfl, rfl, rfl, by decide +kernel, rfl, by decide +kernel, by decide +kernel⟩
theorem sc_kind_text : FnScope n_kind_text ["kind"] (defScope s_kind_text) := ⟨rfl, rfl, rfl, by decide +kernel, rfl, by decide +kernel, by decide +kernel⟩
theorem sc_heading_text : FnScope n_heading_text ["heading"] (defScope s_heading_text) := ⟨rfl, rfl, rfl, by decide +kernel, rfl, by decide +kernel, by decide +kernel⟩
theorem sc_expression_text : FnScope n_expression_text ["expression"] (defScope s_expression_text) := ⟨rfl, rfl, rfl, by decide +kernel, rfl, by decide +kernel, by decide +kernel⟩
theorem sc_call_text : FnScope n_call_text ["statement"] (defScope s_call_text) := ⟨rfl, rfl, rfl, by decide +kernel, rfl, by decide +kernel, by decide +kernel⟩
theorem sc_statement_text : FnScope n_statement_text ["statement"] (defScope s_statement_text) := ⟨rfl, rfl, rfl, by decide +kernel, rfl, by decide +kernel, by decide +kernel⟩
theorem sc_statement_lines : FnScope n_statement_lines ["body", "depth"] (defScope s_statement_lines) := ⟨rfl, rfl, rfl, by decide +kernel, rfl, by decide +kernel, by decide +kernel⟩
theorem sc_function_lines : FnScope n_function_lines ["function"] (defScope s_function_lines) := ⟨rfl, rfl, rfl, by decide +kernel, rfl, by decide +kernel, by decide +kernel⟩
theorem sc_joined : FnScope n_joined ["lines"] (defScope s_joined) := ⟨rfl, rfl, rfl, by decide +kernel, rfl, by decide +kernel, by decide +kernel⟩
theorem sc_function_text : FnScope n_function_text ["function"] (defScope s_function_text) := ⟨rfl, rfl, rfl, by decide +kernel, rfl, by decide +kernel, by decide +kernel⟩
theorem sc_program_text : FnScope n_program_text ["program"] (defScope s_program_text) := ⟨rfl, rfl, rfl, by decide +kernel, rfl, by decide +kernel, by decide +kernel⟩
theorem sc_law : FnScope n_law ["_law_script"] (defScope s_law) := ⟨rfl, rfl, rfl, by decide +kernel, rfl, by decide +kernel, by decide +kernel⟩
/-- what the top leaves -/
structure Txt (K : PySem.W.Frag) (mg : Str → Option Value) where
  a__law_cell : Addr
  d__law_cell : FuncData
  F__law_cell : Fun K "_law_cell" "_law_cell" s__law_cell a__law_cell d__law_cell
  b__law_cell : Binds K d__law_cell ["_law_script", "_law_at"] []
  g__law_cell : mg "_law_cell" = some (.ref a__law_cell)
  a__law_kind_text : Addr
  d__law_kind_text : FuncData
  F__law_kind_text : Fun K "_law_kind_text" "_law_kind_text" s__law_kind_text a__law_kind_text d__law_kind_text
  b__law_kind_text : Binds K d__law_kind_text ["_law_kind_here"] []
  g__law_kind_text : mg "_law_kind_text" = some (.ref a__law_kind_text)
  a__law_text : Addr
  d__law_text : FuncData
  F__law_text : Fun K "_law_text" "_law_text" s__law_text a__law_text d__law_text
  b__law_text : Binds K d__law_text ["_law_expression_here"] []
  g__law_text : mg "_law_text" = some (.ref a__law_text)
  a__law_line : Addr
  d__law_line : FuncData
  F__law_line : Fun K "_law_line" "_law_line" s__law_line a__law_line d__law_line
  b__law_line : Binds K d__law_line ["_law_statement"] []
  g__law_line : mg "_law_line" = some (.ref a__law_line)
  a__law_lines : Addr
  d__law_lines : FuncData
  F__law_lines : Fun K "_law_lines" "_law_lines" s__law_lines a__law_lines d__law_lines
  b__law_lines : Binds K d__law_lines ["_law_body_here", "_law_depth"] []
  g__law_lines : mg "_law_lines" = some (.ref a__law_lines)
  a__law_function_lines : Addr
  d__law_function_lines : FuncData
  F__law_function_lines : Fun K "_law_function_lines" "_law_function_lines" s__law_function_lines a__law_function_lines d__law_function_lines
  b__law_function_lines : Binds K d__law_function_lines ["_law_head"] []
  g__law_function_lines : mg "_law_function_lines" = some (.ref a__law_function_lines)
  a__law_joined : Addr
  d__law_joined : FuncData
  F__law_joined : Fun K "_law_joined" "_law_joined" s__law_joined a__law_joined d__law_joined
  b__law_joined : Binds K d__law_joined ["_law_lines_here"] []
  g__law_joined : mg "_law_joined" = some (.ref a__law_joined)
  a__law_pick : Addr
  d__law_pick : FuncData
  F__law_pick : Fun K "_law_pick" "_law_pick" s__law_pick a__law_pick d__law_pick
  b__law_pick : Binds K d__law_pick ["_law_source_here", "_law_size"] []
  g__law_pick : mg "_law_pick" = some (.ref a__law_pick)
  a__law_number : Addr
  d__law_number : FuncData
  F__law_number : Fun K "_law_number" "_law_number" s__law_number a__law_number d__law_number
  b__law_number : Binds K d__law_number ["_law_source_here", "_law_world"] []
  g__law_number : mg "_law_number" = some (.ref a__law_number)
  a__law_reserved : Addr
  d__law_reserved : FuncData
  F__law_reserved : Fun K "_law_reserved" "_law_reserved" s__law_reserved a__law_reserved d__law_reserved
  b__law_reserved : Binds K d__law_reserved [] []
  g__law_reserved : mg "_law_reserved" = some (.ref a__law_reserved)
  a__law_name : Addr
  d__law_name : FuncData
  F__law_name : Fun K "_law_name" "_law_name" s__law_name a__law_name d__law_name
  b__law_name : Binds K d__law_name ["_law_source_here", "_law_world"] []
  g__law_name : mg "_law_name" = some (.ref a__law_name)
  a__law_word : Addr
  d__law_word : FuncData
  F__law_word : Fun K "_law_word" "_law_word" s__law_word a__law_word d__law_word
  b__law_word : Binds K d__law_word ["_law_source_here", "_law_world"] []
  g__law_word : mg "_law_word" = some (.ref a__law_word)
  a__law_node : Addr
  d__law_node : FuncData
  F__law_node : Fun K "_law_node" "_law_node" s__law_node a__law_node d__law_node
  b__law_node : Binds K d__law_node ["_law_source_here", "_law_world", "_law_choice", "_law_depth"] []
  g__law_node : mg "_law_node" = some (.ref a__law_node)
  a__law_expression : Addr
  d__law_expression : FuncData
  F__law_expression : Fun K "_law_expression" "_law_expression" s__law_expression a__law_expression d__law_expression
  b__law_expression : Binds K d__law_expression ["_law_source_here", "_law_world", "_law_depth"] []
  g__law_expression : mg "_law_expression" = some (.ref a__law_expression)
  a__law_one : Addr
  d__law_one : FuncData
  F__law_one : Fun K "_law_one" "_law_one" s__law_one a__law_one d__law_one
  b__law_one : Binds K d__law_one ["_law_source_here", "_law_row"] []
  g__law_one : mg "_law_one" = some (.ref a__law_one)
  a__law_leaf : Addr
  d__law_leaf : FuncData
  F__law_leaf : Fun K "_law_leaf" "_law_leaf" s__law_leaf a__law_leaf d__law_leaf
  b__law_leaf : Binds K d__law_leaf ["_law_source_here", "_law_world"] []
  g__law_leaf : mg "_law_leaf" = some (.ref a__law_leaf)
  a__law_body : Addr
  d__law_body : FuncData
  F__law_body : Fun K "_law_body" "_law_body" s__law_body a__law_body d__law_body
  b__law_body : Binds K d__law_body ["_law_source_here", "_law_world", "_law_upto", "_law_depth"] []
  g__law_body : mg "_law_body" = some (.ref a__law_body)
  a__law_count : Addr
  d__law_count : FuncData
  F__law_count : Fun K "_law_count" "_law_count" s__law_count a__law_count d__law_count
  b__law_count : Binds K d__law_count ["_law_source_here", "_law_bound"] []
  g__law_count : mg "_law_count" = some (.ref a__law_count)
  a__law_kind : Addr
  d__law_kind : FuncData
  F__law_kind : Fun K "_law_kind" "_law_kind" s__law_kind a__law_kind d__law_kind
  b__law_kind : Binds K d__law_kind ["_law_source_here", "_law_world", "_law_wide"] []
  g__law_kind : mg "_law_kind" = some (.ref a__law_kind)
  a__law_pairs : Addr
  d__law_pairs : FuncData
  F__law_pairs : Fun K "_law_pairs" "_law_pairs" s__law_pairs a__law_pairs d__law_pairs
  b__law_pairs : Binds K d__law_pairs ["_law_source_here", "_law_world", "_law_bound", "_law_wide"] []
  g__law_pairs : mg "_law_pairs" = some (.ref a__law_pairs)
  a__law_program : Addr
  d__law_program : FuncData
  F__law_program : Fun K "_law_program" "_law_program" s__law_program a__law_program d__law_program
  b__law_program : Binds K d__law_program ["_law_source_here", "_law_spare"] []
  g__law_program : mg "_law_program" = some (.ref a__law_program)
  a__law_program_lines : Addr
  d__law_program_lines : FuncData
  F__law_program_lines : Fun K "_law_program_lines" "_law_program_lines" s__law_program_lines a__law_program_lines d__law_program_lines
  b__law_program_lines : Binds K d__law_program_lines ["_law_program_here"] []
  g__law_program_lines : mg "_law_program_lines" = some (.ref a__law_program_lines)
  a__law_same : Addr
  d__law_same : FuncData
  F__law_same : Fun K "_law_same" "_law_same" s__law_same a__law_same d__law_same
  b__law_same : Binds K d__law_same ["_law_actual", "_law_due"] []
  g__law_same : mg "_law_same" = some (.ref a__law_same)
  a__law_source : Addr
  d__law_source : FuncData
  F__law_source : Fun K "_law_source" "_law_source" s__law_source a__law_source d__law_source
  b__law_source : Binds K d__law_source ["_law_cell_here"] []
  g__law_source : mg "_law_source" = some (.ref a__law_source)
  a_kind_text : Addr
  d_kind_text : FuncData
  F_kind_text : Fun K "kind_text" "kind_text" s_kind_text a_kind_text d_kind_text
  b_kind_text : Binds K d_kind_text ["kind"] []
  g_kind_text : mg "kind_text" = some (.ref a_kind_text)
  a_heading_text : Addr
  d_heading_text : FuncData
  F_heading_text : Fun K "heading_text" "heading_text" s_heading_text a_heading_text d_heading_text
  b_heading_text : Binds K d_heading_text ["heading"] []
  g_heading_text : mg "heading_text" = some (.ref a_heading_text)
  a_expression_text : Addr
  d_expression_text : FuncData
  F_expression_text : Fun K "expression_text" "expression_text" s_expression_text a_expression_text d_expression_text
  b_expression_text : Binds K d_expression_text ["expression"] []
  g_expression_text : mg "expression_text" = some (.ref a_expression_text)
  a_call_text : Addr
  d_call_text : FuncData
  F_call_text : Fun K "call_text" "call_text" s_call_text a_call_text d_call_text
  b_call_text : Binds K d_call_text ["statement"] []
  g_call_text : mg "call_text" = some (.ref a_call_text)
  a_statement_text : Addr
  d_statement_text : FuncData
  F_statement_text : Fun K "statement_text" "statement_text" s_statement_text a_statement_text d_statement_text
  b_statement_text : Binds K d_statement_text ["statement"] []
  g_statement_text : mg "statement_text" = some (.ref a_statement_text)
  a_statement_lines : Addr
  d_statement_lines : FuncData
  F_statement_lines : Fun K "statement_lines" "statement_lines" s_statement_lines a_statement_lines d_statement_lines
  b_statement_lines : Binds K d_statement_lines ["body", "depth"] []
  g_statement_lines : mg "statement_lines" = some (.ref a_statement_lines)
  a_function_lines : Addr
  d_function_lines : FuncData
  F_function_lines : Fun K "function_lines" "function_lines" s_function_lines a_function_lines d_function_lines
  b_function_lines : Binds K d_function_lines ["function"] []
  g_function_lines : mg "function_lines" = some (.ref a_function_lines)
  a_joined : Addr
  d_joined : FuncData
  F_joined : Fun K "joined" "joined" s_joined a_joined d_joined
  b_joined : Binds K d_joined ["lines"] []
  g_joined : mg "joined" = some (.ref a_joined)
  a_function_text : Addr
  d_function_text : FuncData
  F_function_text : Fun K "function_text" "function_text" s_function_text a_function_text d_function_text
  b_function_text : Binds K d_function_text ["function"] []
  g_function_text : mg "function_text" = some (.ref a_function_text)
  a_program_text : Addr
  d_program_text : FuncData
  F_program_text : Fun K "program_text" "program_text" s_program_text a_program_text d_program_text
  b_program_text : Binds K d_program_text ["program"] []
  g_program_text : mg "program_text" = some (.ref a_program_text)
  a_law : Addr
  d_law : FuncData
  F_law : Fun K "law" "law" s_law a_law d_law
  b_law : Binds K d_law ["_law_script"] []
  g_law : mg "law" = some (.ref a_law)
  n_bool : mg "bool" = none
  n_int : mg "int" = none
  n_isinstance : mg "isinstance" = none
  n_len : mg "len" = none
  n_list : mg "list" = none
  n_max : mg "max" = none
  n_min : mg "min" = none
  n_range : mg "range" = none
  n_str : mg "str" = none
  n_tuple : mg "tuple" = none
/-! ### the defs as functions -/
noncomputable def p__law_cell  : FS :=
 fSeq (fIfS (fTB (fOp ltD (fV 1) (fCall lenD (fCons (fV 0) (fNil)))))
 (fRet (fOp ixD (fV 0) (fV 1)))
 (fPass))
 (fRet (fC (.int 0)))
noncomputable def m__law_cell : FM := body 2 2 p__law_cell
noncomputable def p__law_kind_text  : FS :=
 fSeq (fIfS (fTB (fOp eqD (fOp ixD (fV 0) (fC (.int 0))) (fC (.str "flag"))))
 (fRet (fC (.str "flag")))
 (fPass))
 (fSeq (fIfS (fTB (fOp eqD (fOp ixD (fV 0) (fC (.int 0))) (fC (.str "ref"))))
 (fRet (fOp ixD (fV 0) (fC (.int 1))))
 (fPass))
 (fRet (fOp addD (fOp addD (fCall strD (fCons (fOp ixD (fV 0) (fC (.int 1))) (fNil))) (fC (.str ".."))) (fCall strD (fCons (fOp ixD (fV 0) (fC (.int 2))) (fNil))))))
noncomputable def m__law_kind_text : FM := body 1 1 p__law_kind_text
noncomputable def p__law_text (r__law_text : FM) : FS :=
 fSeq (fSet (fOp ixD (fV 0) (fC (.int 0))) 1)
 (fSeq (fIfS (fTB (fOp eqD (fV 1) (fC (.str "num"))))
 (fRet (fCall strD (fCons (fOp ixD (fV 0) (fC (.int 1))) (fNil))))
 (fPass))
 (fSeq (fIfS (fTB (fOp eqD (fV 1) (fC (.str "flag"))))
 (fRet (fOp ixD (fLst (fCons (fC (.str "false")) (fCons (fC (.str "true")) (fNil)))) (fCall intD (fCons (fOp ixD (fV 0) (fC (.int 1))) (fNil)))))
 (fPass))
 (fSeq (fIfS (fTB (fOp eqD (fV 1) (fC (.str "null"))))
 (fRet (fC (.str "null")))
 (fPass))
 (fSeq (fIfS (fTB (fOp eqD (fV 1) (fC (.str "name"))))
 (fRet (fOp ixD (fV 0) (fC (.int 1))))
 (fPass))
 (fSeq (fIfS (fTB (fOp eqD (fV 1) (fC (.str "not"))))
 (fRet (fOp addD (fOp addD (fC (.str "(not ")) (fOwn 1 r__law_text (fCons (fOp ixD (fV 0) (fC (.int 1))) (fNil)))) (fC (.str ")"))))
 (fPass))
 (fRet (fOp addD (fOp addD (fOp addD (fOp addD (fOp addD (fOp addD (fC (.str "(")) (fOwn 1 r__law_text (fCons (fOp ixD (fV 0) (fC (.int 1))) (fNil)))) (fC (.str " "))) (fV 1)) (fC (.str " "))) (fOwn 1 r__law_text (fCons (fOp ixD (fV 0) (fC (.int 2))) (fNil)))) (fC (.str ")")))))))))
noncomputable def m__law_text : Nat → FM
  | 0 => fun _ _ => .bad
  | n + 1 => body 1 2 (p__law_text (m__law_text n))
noncomputable def p__law_line  : FS :=
 fSeq (fSet (fOp ixD (fV 0) (fC (.int 0))) 1)
 (fSeq (fIfS (fTB (fOp eqD (fV 1) (fC (.str "set"))))
 (fRet (fOp addD (fOp addD (fOp ixD (fV 0) (fC (.int 1))) (fC (.str " = "))) (fOwn 1 (m__law_text 20) (fCons (fOp ixD (fV 0) (fC (.int 2))) (fNil)))))
 (fPass))
 (fSeq (fIfS (fTOr (fTB (fOp eqD (fV 1) (fC (.str "input")))) (fTB (fOp eqD (fV 1) (fC (.str "new")))))
 (fRet (fOp addD (fOp addD (fOp ixD (fV 0) (fC (.int 1))) (fC (.str " = "))) (fV 1)))
 (fPass))
 (fSeq (fIfS (fTB (fOp eqD (fV 1) (fC (.str "load"))))
 (fRet (fOp addD (fOp addD (fOp addD (fOp addD (fOp ixD (fV 0) (fC (.int 1))) (fC (.str " = "))) (fOp ixD (fV 0) (fC (.int 2)))) (fC (.str "."))) (fOp ixD (fV 0) (fC (.int 3)))))
 (fPass))
 (fSeq (fIfS (fTB (fOp eqD (fV 1) (fC (.str "store"))))
 (fRet (fOp addD (fOp addD (fOp addD (fOp addD (fOp ixD (fV 0) (fC (.int 1))) (fC (.str "."))) (fOp ixD (fV 0) (fC (.int 2)))) (fC (.str " = "))) (fOwn 1 (m__law_text 20) (fCons (fOp ixD (fV 0) (fC (.int 3))) (fNil)))))
 (fPass))
 (fSeq (fIfS (fTB (fOp eqD (fV 1) (fC (.str "get"))))
 (fRet (fOp addD (fOp addD (fOp addD (fOp addD (fOp addD (fOp ixD (fV 0) (fC (.int 1))) (fC (.str " = "))) (fOp ixD (fV 0) (fC (.int 2)))) (fC (.str "["))) (fOwn 1 (m__law_text 20) (fCons (fOp ixD (fV 0) (fC (.int 3))) (fNil)))) (fC (.str "]"))))
 (fPass))
 (fSeq (fIfS (fTB (fOp eqD (fV 1) (fC (.str "put"))))
 (fRet (fOp addD (fOp addD (fOp addD (fOp addD (fOp ixD (fV 0) (fC (.int 1))) (fC (.str "["))) (fOwn 1 (m__law_text 20) (fCons (fOp ixD (fV 0) (fC (.int 2))) (fNil)))) (fC (.str "] = "))) (fOwn 1 (m__law_text 20) (fCons (fOp ixD (fV 0) (fC (.int 3))) (fNil)))))
 (fPass))
 (fSeq (fIfS (fTB (fOp eqD (fV 1) (fC (.str "call"))))
 (fSeq (fSet (fOp addD (fOp addD (fOp addD (fOp ixD (fV 0) (fC (.int 2))) (fC (.str "("))) (fMt "str" joinD (fC (.str ", ")) (fCons (fLc (fItS (fOp ixD (fV 0) (fC (.int 3)))) (gN 3) (fYes) (fOwn 1 (m__law_text 20) (fCons (fV 3) (fNil))) [3]) (fNil)))) (fC (.str ")"))) 2)
 (fSeq (fIfS (fTB (fOp isD (fOp ixD (fV 0) (fC (.int 1))) (fC .non)))
 (fRet (fV 2))
 (fPass))
 (fRet (fOp addD (fOp addD (fOp ixD (fV 0) (fC (.int 1))) (fC (.str " = "))) (fV 2)))))
 (fPass))
 (fSeq (fIfS (fTB (fOp eqD (fV 1) (fC (.str "break"))))
 (fRet (fV 1))
 (fPass))
 (fSeq (fIfS (fTB (fOp eqD (fV 1) (fC (.str "free"))))
 (fRet (fOp addD (fC (.str "free ")) (fOp ixD (fV 0) (fC (.int 1)))))
 (fPass))
 (fSeq (fIfS (fTB (fOp isD (fOp ixD (fV 0) (fC (.int 1))) (fC .non)))
 (fRet (fV 1))
 (fPass))
 (fRet (fOp addD (fOp addD (fV 1) (fC (.str " "))) (fOwn 1 (m__law_text 20) (fCons (fOp ixD (fV 0) (fC (.int 1))) (fNil)))))))))))))))
noncomputable def m__law_line : FM := body 1 4 p__law_line
noncomputable def p__law_lines (r__law_lines : FM) : FS :=
 fSeq (fSet (fLst (fNil)) 2)
 (fSeq (fFor (fItS (fV 0)) (gN 3)
 (fSeq (fEx (fMt "list" appendD (fV 2) (fCons (fOp addD (fOp mulSD (fC (.str "  ")) (fV 1)) (fOwn 1 m__law_line (fCons (fV 3) (fNil)))) (fNil))))
 (fIfS (fTOr (fTB (fOp eqD (fOp ixD (fV 3) (fC (.int 0))) (fC (.str "if")))) (fTB (fOp eqD (fOp ixD (fV 3) (fC (.int 0))) (fC (.str "while")))))
 (fSeq (fSet (fOp addD (fV 2) (fOwn 2 r__law_lines (fCons (fOp ixD (fV 3) (fC (.int 2))) (fCons (fOp addD (fV 1) (fC (.int 1))) (fNil))))) 2)
 (fSeq (fIfS (fTAnd (fTB (fOp eqD (fOp ixD (fV 3) (fC (.int 0))) (fC (.str "if")))) (fTB (fOp neNilT (fOp ixD (fV 3) (fC (.int 3))) (fTup (fNil)))))
 (fSet (fOp addD (fOp addD (fV 2) (fLst (fCons (fOp addD (fOp mulSD (fC (.str "  ")) (fV 1)) (fC (.str "else"))) (fNil)))) (fOwn 2 r__law_lines (fCons (fOp ixD (fV 3) (fC (.int 3))) (fCons (fOp addD (fV 1) (fC (.int 1))) (fNil))))) 2)
 (fPass))
 (fEx (fMt "list" appendD (fV 2) (fCons (fOp addD (fOp mulSD (fC (.str "  ")) (fV 1)) (fC (.str "end"))) (fNil))))))
 (fPass))))
 (fRet (fV 2)))
noncomputable def m__law_lines : Nat → FM
  | 0 => fun _ _ => .bad
  | n + 1 => body 2 4 (p__law_lines (m__law_lines n))
noncomputable def p__law_function_lines  : FS :=
 fSeq (fSet (fMt "str" joinD (fC (.str ", ")) (fCons (fLc (fItS (fOp ixD (fV 0) (fC (.int 1)))) (gN 2) (fYes) (fOp addD (fOp addD (fOp ixD (fV 2) (fC (.int 0))) (fC (.str ": "))) (fOwn 1 m__law_kind_text (fCons (fOp ixD (fV 2) (fC (.int 1))) (fNil)))) [2]) (fNil))) 1)
 (fSeq (fSet (fOp addD (fOp addD (fOp addD (fOp addD (fC (.str "def ")) (fOp ixD (fV 0) (fC (.int 0)))) (fC (.str "("))) (fV 1)) (fC (.str ")"))) 3)
 (fSeq (fIfS (fTB (fOp isntD (fOp ixD (fV 0) (fC (.int 2))) (fC .non)))
 (fSet (fOp addD (fOp addD (fV 3) (fC (.str ": "))) (fOwn 1 m__law_kind_text (fCons (fOp ixD (fV 0) (fC (.int 2))) (fNil)))) 3)
 (fPass))
 (fSeq (fSet (fLc (fItS (fOp ixD (fV 0) (fC (.int 3)))) (gN 2) (fYes) (fOp addD (fOp addD (fOp addD (fC (.str "  var ")) (fOp ixD (fV 2) (fC (.int 0)))) (fC (.str ": "))) (fOwn 1 m__law_kind_text (fCons (fOp ixD (fV 2) (fC (.int 1))) (fNil)))) [2]) 4)
 (fRet (fOp addD (fOp addD (fOp addD (fLst (fCons (fV 3) (fNil))) (fV 4)) (fOwn 2 (m__law_lines 20) (fCons (fOp ixD (fV 0) (fC (.int 4))) (fCons (fC (.int 1)) (fNil))))) (fLst (fCons (fC (.str "end")) (fNil))))))))
noncomputable def m__law_function_lines : FM := body 1 5 p__law_function_lines
noncomputable def p__law_joined  : FS :=
 fRet (fMt "str" joinD (fC (.str "")) (fCons (fLc (fItS (fV 0)) (gN 1) (fYes) (fOp addD (fV 1) (fC (.str "\n"))) [1]) (fNil)))
noncomputable def m__law_joined : FM := body 1 2 p__law_joined
noncomputable def p__law_pick  : FS :=
 fSeq (fSet (fOp ixD (fV 0) (fC (.int 2))) 2)
 (fSeq (fAsg (fOp addD (fV 2) (fC (.int 1))) (gSb (fV 0) (fC (.int 2))))
 (fSeq (fIfS (fTB (fOp ltD (fV 1) (fC (.int 2))))
 (fRet (fC (.int 0)))
 (fPass))
 (fSeq (fIfS (fTAnd (fTB (fOp geD (fOp ixD (fV 0) (fC (.int 0))) (fOp powD (fC (.int 10)) (fC (.int 18))))) (fTB (fOp gtD (fOp ixD (fV 0) (fC (.int 1))) (fC (.int 0)))))
 (fSeq (fSet (fOp modD (fCall intD (fCons (fOp ixD (fV 0) (fC (.int 1))) (fNil))) (fV 1)) 3)
 (fSeq (fAsg (fOp fdivD (fOp ixD (fV 0) (fC (.int 1))) (fV 1)) (gSb (fV 0) (fC (.int 1))))
 (fRet (fV 3))))
 (fPass))
 (fSeq (fSet (fOp modD (fCall intD (fCons (fOp addD (fOp addD (fOp ixD (fV 0) (fC (.int 0))) (fOp mulD (fC (.int 7919)) (fV 2))) (fC (.int 13))) (fNil))) (fC (.int 2147483647))) 4)
 (fSeq (fSet (fOp modD (fCall intD (fCons (fOp mulD (fV 4) (fOp addD (fV 4) (fC (.int 48271)))) (fNil))) (fC (.int 2147483629))) 4)
 (fSeq (fSet (fOp modD (fCall intD (fCons (fOp addD (fOp mulD (fV 4) (fOp addD (fV 4) (fC (.int 69621)))) (fOp mulD (fC (.int 31)) (fV 2))) (fNil))) (fC (.int 2147483647))) 4)
 (fRet (fOp modD (fCall intD (fCons (fOp fdivD (fV 4) (fC (.int 9))) (fNil))) (fV 1)))))))))
noncomputable def m__law_pick : FM := body 2 5 p__law_pick
noncomputable def p__law_number  : FS :=
 fSeq (fSet (fOwn 2 m__law_pick (fCons (fV 0) (fCons (fC (.int 4)) (fNil)))) 2)
 (fSeq (fIfS (fTB (fOp ltD (fV 2) (fC (.int 2))))
 (fRet (fOp subD (fOwn 2 m__law_pick (fCons (fV 0) (fCons (fC (.int 21)) (fNil)))) (fC (.int 10))))
 (fPass))
 (fSeq (fSet (fCall minD (fCons (fOp addD (fOp mulD (fOwn 2 m__law_pick (fCons (fV 0) (fCons (fOp ixD (fV 1) (fC (.str "side"))) (fNil)))) (fOp ixD (fV 1) (fC (.str "side")))) (fOwn 2 m__law_pick (fCons (fV 0) (fCons (fOp ixD (fV 1) (fC (.str "side"))) (fNil))))) (fCons (fOp powD (fC (.int 10)) (fC (.int 9))) (fNil)))) 3)
 (fRet (fOp ixD (fLst (fCons (fV 3) (fCons (fUn negD (fV 3)) (fNil)))) (fOp subD (fV 2) (fC (.int 2)))))))
noncomputable def m__law_number : FM := body 2 4 p__law_number
noncomputable def p__law_reserved  : FS :=
 fSeq (fSet (fLst (fCons (fC (.str "record")) (fCons (fC (.str "end")) (fCons (fC (.str "array")) (fCons (fC (.str "global")) (fCons (fC (.str "def")) (fCons (fC (.str "var")) (fCons (fC (.str "flag")) (fCons (fC (.str "input")) (fCons (fC (.str "new")) (fCons (fC (.str "free")) (fCons (fC (.str "return")) (fCons (fC (.str "if")) (fCons (fC (.str "else")) (fNil))))))))))))))) 0)
 (fRet (fOp addD (fV 0) (fLst (fCons (fC (.str "while")) (fCons (fC (.str "break")) (fCons (fC (.str "assert")) (fCons (fC (.str "null")) (fCons (fC (.str "true")) (fCons (fC (.str "false")) (fCons (fC (.str "not")) (fCons (fC (.str "and")) (fCons (fC (.str "or")) (fCons (fC (.str "same")) (fCons (fC (.str "result")) (fNil)))))))))))))))
noncomputable def m__law_reserved : FM := body 0 1 p__law_reserved
noncomputable def p__law_name  : FS :=
 fSeq (fSet (fOwn 2 m__law_pick (fCons (fV 0) (fCons (fC (.int 4)) (fNil)))) 2)
 (fSeq (fIfS (fTB (fOp eqD (fV 2) (fC (.int 3))))
 (fSet (fOwn 2 m__law_pick (fCons (fV 0) (fCons (fOp ixD (fV 1) (fC (.str "long"))) (fNil)))) 2)
 (fPass))
 (fSeq (fSet (fOp ixD (fC (.str "abcdefghijklmnopqrstuvwxyz")) (fOwn 2 m__law_pick (fCons (fV 0) (fCons (fC (.int 26)) (fNil))))) 3)
 (fSeq (fFor (fRg1 (fV 2)) (gN 4)
 (fSet (fOp addD (fV 3) (fOp ixD (fC (.str "abcdefghijklmnopqrstuvwxyz0123456789")) (fOwn 2 m__law_pick (fCons (fV 0) (fCons (fC (.int 36)) (fNil)))))) 3))
 (fSeq (fIfS (fTB (fOp inD (fV 3) (fOwn 0 m__law_reserved fNil)))
 (fRet (fOp addD (fV 3) (fC (.str "x"))))
 (fPass))
 (fRet (fV 3))))))
noncomputable def m__law_name : FM := body 2 5 p__law_name
noncomputable def p__law_word  : FS :=
 fSeq (fSet (fOwn 2 m__law_pick (fCons (fV 0) (fCons (fOp addD (fCall lenD (fCons (fOp ixD (fV 1) (fC (.str "names"))) (fNil))) (fC (.int 1))) (fNil)))) 2)
 (fSeq (fIfS (fTB (fOp ltD (fV 2) (fCall lenD (fCons (fOp ixD (fV 1) (fC (.str "names"))) (fNil)))))
 (fRet (fOp ixD (fOp ixD (fV 1) (fC (.str "names"))) (fV 2)))
 (fPass))
 (fRet (fOwn 2 m__law_name (fCons (fV 0) (fCons (fV 1) (fNil))))))
noncomputable def m__law_word : FM := body 2 3 p__law_word
noncomputable def p__law_node (r__law_node : FM) (r__law_expression : FM) : FS :=
 fSeq (fIfS (fTB (fOp eqD (fV 2) (fC (.int 0))))
 (fRet (fTup (fCons (fC (.str "num")) (fCons (fOwn 2 m__law_number (fCons (fV 0) (fCons (fV 1) (fNil)))) (fNil)))))
 (fPass))
 (fSeq (fIfS (fTB (fOp eqD (fV 2) (fC (.int 1))))
 (fRet (fTup (fCons (fC (.str "name")) (fCons (fOwn 2 m__law_word (fCons (fV 0) (fCons (fV 1) (fNil)))) (fNil)))))
 (fPass))
 (fSeq (fIfS (fTB (fOp eqD (fV 2) (fC (.int 2))))
 (fRet (fTup (fCons (fC (.str "flag")) (fCons (fOp eqD (fOwn 2 m__law_pick (fCons (fV 0) (fCons (fC (.int 2)) (fNil)))) (fC (.int 1))) (fNil)))))
 (fPass))
 (fSeq (fIfS (fTB (fOp eqD (fV 2) (fC (.int 3))))
 (fRet (fTup (fCons (fC (.str "null")) (fNil))))
 (fPass))
 (fSeq (fSet (fOwn 3 r__law_expression (fCons (fV 0) (fCons (fV 1) (fCons (fOp subD (fV 3) (fC (.int 1))) (fNil))))) 4)
 (fSeq (fIfS (fTB (fOp eqD (fV 2) (fC (.int 4))))
 (fRet (fTup (fCons (fC (.str "not")) (fCons (fV 4) (fNil)))))
 (fPass))
 (fSeq (fSet (fOp ixD (fLst (fCons (fC (.str "+")) (fCons (fC (.str "-")) (fCons (fC (.str "*")) (fCons (fC (.str "<")) (fCons (fC (.str "<=")) (fCons (fC (.str "==")) (fCons (fC (.str "!=")) (fCons (fC (.str "same")) (fCons (fC (.str "and")) (fCons (fC (.str "or")) (fNil)))))))))))) (fOp subD (fV 2) (fC (.int 5)))) 5)
 (fRet (fTup (fCons (fV 5) (fCons (fV 4) (fCons (fOwn 3 r__law_expression (fCons (fV 0) (fCons (fV 1) (fCons (fOp subD (fV 3) (fC (.int 1))) (fNil))))) (fNil))))))))))))
noncomputable def p__law_expression (r__law_node : FM) (r__law_expression : FM) : FS :=
 fSeq (fSet (fOwn 2 m__law_pick (fCons (fV 0) (fCons (fC (.int 15)) (fNil)))) 3)
 (fSeq (fIfS (fTOr (fTB (fOp ltD (fV 2) (fC (.int 1)))) (fTB (fOp eqD (fOwn 2 m__law_pick (fCons (fV 0) (fCons (fC (.int 3)) (fNil)))) (fC (.int 0)))))
 (fSet (fOp modD (fV 3) (fC (.int 4))) 3)
 (fPass))
 (fRet (fOwn 4 r__law_node (fCons (fV 0) (fCons (fV 1) (fCons (fV 3) (fCons (fV 2) (fNil))))))))
mutual
noncomputable def m__law_node : Nat → FM
  | 0 => fun _ _ => .bad
  | n + 1 => body 4 6 (p__law_node (m__law_node n) (m__law_expression n))
noncomputable def m__law_expression : Nat → FM
  | 0 => fun _ _ => .bad
  | n + 1 => body 3 4 (p__law_expression (m__law_node n) (m__law_expression n))
end
noncomputable def p__law_one  : FS :=
 fRet (fOp ixD (fV 1) (fOwn 2 m__law_pick (fCons (fV 0) (fCons (fCall lenD (fCons (fV 1) (fNil))) (fNil)))))
noncomputable def m__law_one : FM := body 2 2 p__law_one
noncomputable def p__law_leaf  : FS :=
 fSeq (fSet (fLst (fCons (fC (.str "set")) (fCons (fC (.str "input")) (fCons (fC (.str "new")) (fCons (fC (.str "free")) (fCons (fC (.str "load")) (fCons (fC (.str "store")) (fCons (fC (.str "get")) (fCons (fC (.str "put")) (fCons (fC (.str "call")) (fCons (fC (.str "return")) (fCons (fC (.str "break")) (fCons (fC (.str "assert")) (fNil)))))))))))))) 2)
 (fSeq (fSet (fOwn 2 m__law_one (fCons (fV 0) (fCons (fV 2) (fNil)))) 3)
 (fSeq (fSet (fOwn 2 m__law_word (fCons (fV 0) (fCons (fV 1) (fNil)))) 4)
 (fSeq (fIfS (fTB (fOp eqD (fV 3) (fC (.str "break"))))
 (fRet (fTup (fCons (fC (.str "break")) (fNil))))
 (fPass))
 (fSeq (fIfS (fTB (fOp inD (fV 3) (fLst (fCons (fC (.str "input")) (fCons (fC (.str "new")) (fCons (fC (.str "free")) (fNil)))))))
 (fRet (fTup (fCons (fV 3) (fCons (fV 4) (fNil)))))
 (fPass))
 (fSeq (fSet (fOwn 2 m__law_word (fCons (fV 0) (fCons (fV 1) (fNil)))) 5)
 (fSeq (fIfS (fTB (fOp eqD (fV 3) (fC (.str "load"))))
 (fRet (fTup (fCons (fV 3) (fCons (fV 4) (fCons (fV 5) (fCons (fOwn 2 m__law_word (fCons (fV 0) (fCons (fV 1) (fNil)))) (fNil)))))))
 (fPass))
 (fSeq (fSet (fOwn 3 (m__law_expression 20) (fCons (fV 0) (fCons (fV 1) (fCons (fOp ixD (fV 1) (fC (.str "deep"))) (fNil))))) 6)
 (fSeq (fIfS (fTB (fOp eqD (fV 3) (fC (.str "set"))))
 (fRet (fTup (fCons (fV 3) (fCons (fV 4) (fCons (fV 6) (fNil))))))
 (fPass))
 (fSeq (fIfS (fTB (fOp eqD (fV 3) (fC (.str "assert"))))
 (fRet (fTup (fCons (fV 3) (fCons (fV 6) (fNil)))))
 (fPass))
 (fSeq (fIfS (fTB (fOp eqD (fV 3) (fC (.str "return"))))
 (fRet (fTup (fCons (fV 3) (fCons (fOwn 2 m__law_one (fCons (fV 0) (fCons (fLst (fCons (fC .non) (fCons (fV 6) (fCons (fV 6) (fNil))))) (fNil)))) (fNil)))))
 (fPass))
 (fSeq (fIfS (fTB (fOp eqD (fV 3) (fC (.str "put"))))
 (fRet (fTup (fCons (fV 3) (fCons (fV 4) (fCons (fV 6) (fCons (fOwn 3 (m__law_expression 20) (fCons (fV 0) (fCons (fV 1) (fCons (fOp ixD (fV 1) (fC (.str "deep"))) (fNil))))) (fNil)))))))
 (fPass))
 (fSeq (fIfS (fTB (fOp eqD (fV 3) (fC (.str "call"))))
 (fSeq (fSet (fLc (fRg1 (fOwn 2 m__law_pick (fCons (fV 0) (fCons (fC (.int 4)) (fNil))))) (gN 8) (fYes) (fOwn 3 (m__law_expression 20) (fCons (fV 0) (fCons (fV 1) (fCons (fC (.int 1)) (fNil))))) [8]) 7)
 (fRet (fTup (fCons (fV 3) (fCons (fOwn 2 m__law_one (fCons (fV 0) (fCons (fLst (fCons (fC .non) (fCons (fV 4) (fNil)))) (fNil)))) (fCons (fV 5) (fCons (fCall tupOf (fCons (fV 7) (fNil))) (fNil))))))))
 (fPass))
 (fRet (fTup (fCons (fV 3) (fCons (fV 4) (fCons (fV 5) (fCons (fV 6) (fNil)))))))))))))))))))
noncomputable def m__law_leaf : FM := body 2 9 p__law_leaf
noncomputable def p__law_body (r__law_body : FM) : FS :=
 fSeq (fSet (fLst (fNil)) 4)
 (fSeq (fFor (fRg1 (fOwn 2 m__law_pick (fCons (fV 0) (fCons (fOp addD (fV 2) (fC (.int 1))) (fNil))))) (gN 5)
 (fIfS (fTB (fOp gtD (fOp ixD (fV 1) (fC (.str "left"))) (fC (.int 0))))
 (fSeq (fAsg (fOp subD (fOp ixD (fV 1) (fC (.str "left"))) (fC (.int 1))) (gSb (fV 1) (fC (.str "left"))))
 (fSeq (fSet (fOwn 2 m__law_pick (fCons (fV 0) (fCons (fC (.int 5)) (fNil)))) 6)
 (fIfS (fTOr (fTB (fOp eqD (fV 3) (fC (.int 0)))) (fTB (fOp gtD (fV 6) (fC (.int 2)))))
 (fEx (fMt "list" appendD (fV 4) (fCons (fOwn 2 m__law_leaf (fCons (fV 0) (fCons (fV 1) (fNil)))) (fNil))))
 (fSeq (fSet (fOwn 3 (m__law_expression 20) (fCons (fV 0) (fCons (fV 1) (fCons (fOp ixD (fV 1) (fC (.str "deep"))) (fNil))))) 7)
 (fSeq (fSet (fOwn 4 r__law_body (fCons (fV 0) (fCons (fV 1) (fCons (fC (.int 3)) (fCons (fOp subD (fV 3) (fC (.int 1))) (fNil)))))) 8)
 (fIfS (fTB (fOp eqD (fV 6) (fC (.int 0))))
 (fEx (fMt "list" appendD (fV 4) (fCons (fTup (fCons (fC (.str "while")) (fCons (fV 7) (fCons (fV 8) (fNil))))) (fNil))))
 (fIfS (fTB (fOp eqD (fV 6) (fC (.int 1))))
 (fEx (fMt "list" appendD (fV 4) (fCons (fTup (fCons (fC (.str "if")) (fCons (fV 7) (fCons (fV 8) (fCons (fTup (fNil)) (fNil)))))) (fNil))))
 (fEx (fMt "list" appendD (fV 4) (fCons (fTup (fCons (fC (.str "if")) (fCons (fV 7) (fCons (fV 8) (fCons (fOwn 4 r__law_body (fCons (fV 0) (fCons (fV 1) (fCons (fC (.int 2)) (fCons (fOp subD (fV 3) (fC (.int 1))) (fNil)))))) (fNil)))))) (fNil)))))))))))
 (fPass)))
 (fRet (fCall tupOf (fCons (fV 4) (fNil)))))
noncomputable def m__law_body : Nat → FM
  | 0 => fun _ _ => .bad
  | n + 1 => body 4 9 (p__law_body (m__law_body n))
noncomputable def p__law_count  : FS :=
 fSeq (fIfS (fTB (fOp eqD (fOwn 2 m__law_pick (fCons (fV 0) (fCons (fC (.int 6)) (fNil)))) (fC (.int 0))))
 (fRet (fOwn 2 m__law_pick (fCons (fV 0) (fCons (fOp addD (fV 1) (fC (.int 1))) (fNil)))))
 (fPass))
 (fRet (fOwn 2 m__law_pick (fCons (fV 0) (fCons (fC (.int 3)) (fNil)))))
noncomputable def m__law_count : FM := body 2 2 p__law_count
noncomputable def p__law_kind  : FS :=
 fSeq (fSet (fOwn 2 m__law_pick (fCons (fV 0) (fCons (fC (.int 4)) (fNil)))) 3)
 (fSeq (fIfS (fTB (fOp eqD (fV 3) (fC (.int 0))))
 (fRet (fTup (fCons (fC (.str "flag")) (fNil))))
 (fPass))
 (fSeq (fIfS (fTB (fOp eqD (fV 3) (fC (.int 1))))
 (fRet (fTup (fCons (fC (.str "ref")) (fCons (fOwn 2 m__law_word (fCons (fV 0) (fCons (fV 1) (fNil)))) (fNil)))))
 (fPass))
 (fSeq (fSet (fOwn 2 m__law_number (fCons (fV 0) (fCons (fV 1) (fNil)))) 4)
 (fSeq (fIfS (fTAnd (fT (fV 2)) (fTB (fOp eqD (fV 3) (fC (.int 2)))))
 (fRet (fTup (fCons (fC (.str "num")) (fCons (fV 4) (fCons (fOwn 2 m__law_number (fCons (fV 0) (fCons (fV 1) (fNil)))) (fNil))))))
 (fPass))
 (fRet (fTup (fCons (fC (.str "num")) (fCons (fV 4) (fCons (fCall maxD (fCons (fCall minD (fCons (fOp subD (fOp addD (fV 4) (fOwn 2 m__law_pick (fCons (fV 0) (fCons (fC (.int 12)) (fNil))))) (fC (.int 4))) (fCons (fOp powD (fC (.int 10)) (fC (.int 9))) (fNil)))) (fCons (fUn negD (fOp powD (fC (.int 10)) (fC (.int 9)))) (fNil)))) (fNil))))))))))
noncomputable def m__law_kind : FM := body 3 5 p__law_kind
noncomputable def p__law_pairs  : FS :=
 fSeq (fSet (fLst (fNil)) 4)
 (fSeq (fFor (fRg1 (fOwn 2 m__law_count (fCons (fV 0) (fCons (fV 2) (fNil))))) (gN 5)
 (fEx (fMt "list" appendD (fV 4) (fCons (fTup (fCons (fOwn 2 m__law_word (fCons (fV 0) (fCons (fV 1) (fNil)))) (fCons (fOwn 3 m__law_kind (fCons (fV 0) (fCons (fV 1) (fCons (fOp ltD (fV 5) (fV 3)) (fNil))))) (fNil)))) (fNil)))))
 (fRet (fCall tupOf (fCons (fV 4) (fNil)))))
noncomputable def m__law_pairs : FM := body 4 6 p__law_pairs
noncomputable def p__law_program  : FS :=
 fSeq (fSet (fDisp [(fC (.str "names"), fLst (fNil)), (fC (.str "long"), fOp ixD (fLst (fCons (fC (.int 12)) (fCons (fC (.int 10)) (fNil)))) (fV 1)), (fC (.str "side"), fOp ixD (fLst (fCons (fC (.int 31623)) (fCons (fC (.int 3162)) (fNil)))) (fV 1)), (fC (.str "deep"), fOp subD (fC (.int 3)) (fV 1)), (fC (.str "left"), fOp subD (fC (.int 36)) (fOp mulD (fC (.int 6)) (fV 1)))]) 2)
 (fSeq (fFor (fRg1 (fOp addD (fC (.int 1)) (fOwn 2 m__law_pick (fCons (fV 0) (fCons (fC (.int 5)) (fNil)))))) (gN 3)
 (fAsg (fOp addD (fOp ixD (fV 2) (fC (.str "names"))) (fLst (fCons (fOwn 2 m__law_name (fCons (fV 0) (fCons (fV 2) (fNil)))) (fNil)))) (gSb (fV 2) (fC (.str "names")))))
 (fSeq (fSet (fLst (fNil)) 4)
 (fSeq (fFor (fRg1 (fOwn 2 m__law_count (fCons (fV 0) (fCons (fOp ixD (fLst (fCons (fC (.int 4)) (fCons (fC (.int 2)) (fNil)))) (fV 1)) (fNil))))) (gN 3)
 (fEx (fMt "list" appendD (fV 4) (fCons (fTup (fCons (fOwn 2 m__law_word (fCons (fV 0) (fCons (fV 2) (fNil)))) (fCons (fOwn 4 m__law_pairs (fCons (fV 0) (fCons (fV 2) (fCons (fOp ixD (fLst (fCons (fC (.int 4)) (fCons (fC (.int 2)) (fNil)))) (fV 1)) (fCons (fC (.int 4)) (fNil)))))) (fNil)))) (fNil)))))
 (fSeq (fSet (fLst (fNil)) 5)
 (fSeq (fFor (fRg1 (fOwn 2 m__law_count (fCons (fV 0) (fCons (fOp ixD (fLst (fCons (fC (.int 4)) (fCons (fC (.int 2)) (fNil)))) (fV 1)) (fNil))))) (gN 3)
 (fSeq (fSet (fOp subD (fOwn 2 m__law_pick (fCons (fV 0) (fCons (fOp ixD (fLst (fCons (fC (.int 67)) (fCons (fC (.int 9)) (fNil)))) (fV 1)) (fNil)))) (fC (.int 2))) 6)
 (fEx (fMt "list" appendD (fV 5) (fCons (fTup (fCons (fOwn 2 m__law_word (fCons (fV 0) (fCons (fV 2) (fNil)))) (fCons (fV 6) (fCons (fOwn 2 m__law_number (fCons (fV 0) (fCons (fV 2) (fNil)))) (fCons (fOwn 2 m__law_number (fCons (fV 0) (fCons (fV 2) (fNil)))) (fNil)))))) (fNil))))))
 (fSeq (fSet (fOwn 4 m__law_pairs (fCons (fV 0) (fCons (fV 2) (fCons (fC (.int 3)) (fCons (fOp subD (fC (.int 2)) (fV 1)) (fNil)))))) 7)
 (fSeq (fSet (fLst (fNil)) 8)
 (fSeq (fFor (fRg1 (fOwn 2 m__law_one (fCons (fV 0) (fCons (fLst (fCons (fC (.int 1)) (fCons (fC (.int 2)) (fCons (fC (.int 1)) (fCons (fC (.int 2)) (fCons (fC (.int 3)) (fCons (fC (.int 0)) (fCons (fOwn 2 m__law_pick (fCons (fV 0) (fCons (fOp ixD (fLst (fCons (fC (.int 9)) (fCons (fC (.int 4)) (fNil)))) (fV 1)) (fNil)))) (fNil))))))))) (fNil))))) (gN 3)
 (fSeq (fSet (fOwn 2 m__law_word (fCons (fV 0) (fCons (fV 2) (fNil)))) 9)
 (fSeq (fSet (fOwn 4 m__law_pairs (fCons (fV 0) (fCons (fV 2) (fCons (fC (.int 3)) (fCons (fC (.int 1)) (fNil)))))) 10)
 (fSeq (fSet (fC .non) 11)
 (fSeq (fIfS (fTB (fOp eqD (fOwn 2 m__law_pick (fCons (fV 0) (fCons (fC (.int 2)) (fNil)))) (fC (.int 1))))
 (fSet (fOwn 3 m__law_kind (fCons (fV 0) (fCons (fV 2) (fCons (fC (.bl true)) (fNil))))) 11)
 (fPass))
 (fSeq (fSet (fOwn 4 m__law_pairs (fCons (fV 0) (fCons (fV 2) (fCons (fC (.int 3)) (fCons (fOp subD (fC (.int 1)) (fV 1)) (fNil)))))) 12)
 (fSeq (fSet (fOwn 2 m__law_one (fCons (fV 0) (fCons (fLst (fCons (fC (.int 2)) (fCons (fC (.int 4)) (fCons (fC (.int 4)) (fCons (fC (.int 6)) (fCons (fC (.int 20)) (fNil))))))) (fNil)))) 13)
 (fSeq (fSet (fOwn 4 (m__law_body 20) (fCons (fV 0) (fCons (fV 2) (fCons (fV 13) (fCons (fOwn 2 m__law_one (fCons (fV 0) (fCons (fLst (fCons (fC (.int 1)) (fCons (fC (.int 2)) (fCons (fC (.int 3)) (fCons (fOp subD (fC (.int 6)) (fOp mulD (fC (.int 2)) (fV 1))) (fNil)))))) (fNil)))) (fNil)))))) 14)
 (fEx (fMt "list" appendD (fV 8) (fCons (fTup (fCons (fV 9) (fCons (fV 10) (fCons (fV 11) (fCons (fV 12) (fCons (fV 14) (fNil))))))) (fNil))))))))))))
 (fRet (fTup (fCons (fCall tupOf (fCons (fV 4) (fNil))) (fCons (fCall tupOf (fCons (fV 5) (fNil))) (fCons (fV 7) (fCons (fCall tupOf (fCons (fV 8) (fNil))) (fNil)))))))))))))))
noncomputable def m__law_program : FM := body 2 15 p__law_program
noncomputable def p__law_program_lines  : FS :=
 fSeq (fSet (fLst (fNil)) 1)
 (fSeq (fFor (fItS (fOp ixD (fV 0) (fC (.int 0)))) (gN 2)
 (fSeq (fEx (fMt "list" appendD (fV 1) (fCons (fOp addD (fC (.str "record ")) (fOp ixD (fV 2) (fC (.int 0)))) (fNil))))
 (fSeq (fFor (fItS (fOp ixD (fV 2) (fC (.int 1)))) (gN 3)
 (fEx (fMt "list" appendD (fV 1) (fCons (fOp addD (fOp addD (fOp addD (fC (.str "  ")) (fOp ixD (fV 3) (fC (.int 0)))) (fC (.str ": "))) (fOwn 1 m__law_kind_text (fCons (fOp ixD (fV 3) (fC (.int 1))) (fNil)))) (fNil)))))
 (fEx (fMt "list" appendD (fV 1) (fCons (fC (.str "end")) (fNil)))))))
 (fSeq (fFor (fItS (fOp ixD (fV 0) (fC (.int 1)))) (gN 4)
 (fEx (fMt "list" appendD (fV 1) (fCons (fOp addD (fOp addD (fOp addD (fOp addD (fOp addD (fC (.str "array ")) (fOp ixD (fV 4) (fC (.int 0)))) (fC (.str "["))) (fCall strD (fCons (fOp ixD (fV 4) (fC (.int 1))) (fNil)))) (fC (.str "]: "))) (fOwn 1 m__law_kind_text (fCons (fTup (fCons (fC (.str "num")) (fCons (fOp ixD (fV 4) (fC (.int 2))) (fCons (fOp ixD (fV 4) (fC (.int 3))) (fNil))))) (fNil)))) (fNil)))))
 (fSeq (fFor (fItS (fOp ixD (fV 0) (fC (.int 2)))) (gN 5)
 (fEx (fMt "list" appendD (fV 1) (fCons (fOp addD (fOp addD (fOp addD (fC (.str "global ")) (fOp ixD (fV 5) (fC (.int 0)))) (fC (.str ": "))) (fOwn 1 m__law_kind_text (fCons (fOp ixD (fV 5) (fC (.int 1))) (fNil)))) (fNil)))))
 (fSeq (fFor (fItS (fOp ixD (fV 0) (fC (.int 3)))) (gN 6)
 (fSet (fOp addD (fV 1) (fOwn 1 m__law_function_lines (fCons (fV 6) (fNil)))) 1))
 (fRet (fV 1))))))
noncomputable def m__law_program_lines : FM := body 1 7 p__law_program_lines
noncomputable def p__law_same (r__law_same : FM) : FS :=
 fSeq (fIfS (fTOr (fT (fUn (isiD "tuple") (fV 1))) (fT (fUn (isiD "list") (fV 1))))
 (fSeq (fIfS (fTOr (fTB (fOp neD (fUn (isiD "tuple") (fV 1)) (fUn (isiD "tuple") (fV 0)))) (fTB (fOp neD (fUn (isiD "list") (fV 1)) (fUn (isiD "list") (fV 0)))))
 (fRet (fC (.bl false)))
 (fPass))
 (fSeq (fIfS (fTB (fOp neD (fCall lenD (fCons (fV 0) (fNil))) (fCall lenD (fCons (fV 1) (fNil)))))
 (fRet (fC (.bl false)))
 (fPass))
 (fSeq (fFor (fRg1 (fCall lenD (fCons (fV 1) (fNil)))) (gN 2)
 (fIfS (fTNot (fT (fOwn 2 r__law_same (fCons (fOp ixD (fV 0) (fV 2)) (fCons (fOp ixD (fV 1) (fV 2)) (fNil))))))
 (fRet (fC (.bl false)))
 (fPass)))
 (fRet (fC (.bl true))))))
 (fPass))
 (fSeq (fIfS (fTB (fOp isD (fV 1) (fC .non)))
 (fRet (fOp isD (fV 0) (fC .non)))
 (fPass))
 (fSeq (fIfS (fT (fUn (isiD "bool") (fV 1)))
 (fRet (fAnd (fUn (isiD "bool") (fV 0)) (fOp eqD (fV 0) (fV 1))))
 (fPass))
 (fSeq (fIfS (fT (fUn (isiD "int") (fV 1)))
 (fRet (fAnd (fUn (isiD "int") (fV 0)) (fAnd (fNot (fUn (isiD "bool") (fV 0))) (fOp eqD (fV 0) (fV 1)))))
 (fPass))
 (fRet (fAnd (fUn (isiD "str") (fV 0)) (fOp eqD (fV 0) (fV 1)))))))
noncomputable def m__law_same : Nat → FM
  | 0 => fun _ _ => .bad
  | n + 1 => body 2 3 (p__law_same (m__law_same n))
noncomputable def p__law_source  : FS :=
 fRet (fLst (fCons (fV 0) (fCons (fV 0) (fCons (fC (.int 0)) (fNil)))))
noncomputable def m__law_source : FM := body 1 1 p__law_source
noncomputable def p_kind_text  : FS :=
 fSeq (fIfS (fTB (fOp eqD (fOp ixD (fV 0) (fC (.int 0))) (fC (.str "flag"))))
 (fRet (fC (.str "flag")))
 (fPass))
 (fSeq (fIfS (fTB (fOp eqD (fOp ixD (fV 0) (fC (.int 0))) (fC (.str "num"))))
 (fRet (jStrs [fUn fmtD (fOp ixD (fV 0) (fC (.int 1))), fC (.str ".."), fUn fmtD (fOp ixD (fV 0) (fC (.int 2)))] Str.empty))
 (fPass))
 (fRet (fOp ixD (fV 0) (fC (.int 1)))))
noncomputable def m_kind_text : FM := body 1 1 p_kind_text
noncomputable def p_heading_text  : FS :=
 fSeq (fSet (fOp ixD (fV 0) (fC (.int 0))) 1)
 (fSeq (fIfS (fTB (fOp eqD (fV 1) (fC (.str "record"))))
 (fRet (jStrs [fC (.str "record "), fUn fmtD (fOp ixD (fV 0) (fC (.int 1)))] Str.empty))
 (fPass))
 (fSeq (fIfS (fTB (fOp eqD (fV 1) (fC (.str "array"))))
 (fRet (jStrs [fC (.str "array "), fUn fmtD (fOp ixD (fV 0) (fC (.int 1))), fC (.str "["), fUn fmtD (fOp ixD (fV 0) (fC (.int 2))), fC (.str "]: "), fUn fmtD (fOp ixD (fV 0) (fC (.int 3))), fC (.str ".."), fUn fmtD (fOp ixD (fV 0) (fC (.int 4)))] Str.empty))
 (fPass))
 (fSeq (fIfS (fTB (fOp eqD (fV 1) (fC (.str "field"))))
 (fRet (jStrs [fUn fmtD (fOp ixD (fV 0) (fC (.int 1))), fC (.str ": "), fUn fmtD (fOwn 1 m_kind_text (fCons (fOp ixD (fV 0) (fC (.int 2))) (fNil)))] Str.empty))
 (fPass))
 (fSeq (fIfS (fTOr (fTB (fOp eqD (fV 1) (fC (.str "global")))) (fTB (fOp eqD (fV 1) (fC (.str "var")))))
 (fRet (jStrs [fUn fmtD (fV 1), fC (.str " "), fUn fmtD (fOp ixD (fV 0) (fC (.int 1))), fC (.str ": "), fUn fmtD (fOwn 1 m_kind_text (fCons (fOp ixD (fV 0) (fC (.int 2))) (fNil)))] Str.empty))
 (fPass))
 (fSeq (fSet (fMt "str" joinD (fC (.str ", ")) (fCons (fLc (fItS (fOp ixD (fV 0) (fC (.int 2)))) (gN 3) (fYes) (jStrs [fUn fmtD (fOp ixD (fV 3) (fC (.int 0))), fC (.str ": "), fUn fmtD (fOwn 1 m_kind_text (fCons (fOp ixD (fV 3) (fC (.int 1))) (fNil)))] Str.empty) [3]) (fNil))) 2)
 (fSeq (fIfS (fTB (fOp isD (fOp ixD (fV 0) (fC (.int 3))) (fC .non)))
 (fRet (jStrs [fC (.str "def "), fUn fmtD (fOp ixD (fV 0) (fC (.int 1))), fC (.str "("), fUn fmtD (fV 2), fC (.str ")")] Str.empty))
 (fPass))
 (fRet (jStrs [fC (.str "def "), fUn fmtD (fOp ixD (fV 0) (fC (.int 1))), fC (.str "("), fUn fmtD (fV 2), fC (.str "): "), fUn fmtD (fOwn 1 m_kind_text (fCons (fOp ixD (fV 0) (fC (.int 3))) (fNil)))] Str.empty))))))))
noncomputable def m_heading_text : FM := body 1 4 p_heading_text
noncomputable def p_expression_text (r_expression_text : FM) : FS :=
 fSeq (fSet (fOp ixD (fV 0) (fC (.int 0))) 1)
 (fSeq (fIfS (fTB (fOp eqD (fV 1) (fC (.str "num"))))
 (fRet (fCall strD (fCons (fOp ixD (fV 0) (fC (.int 1))) (fNil))))
 (fPass))
 (fSeq (fIfS (fTB (fOp eqD (fV 1) (fC (.str "flag"))))
 (fRet (fIf (fT (fOp ixD (fV 0) (fC (.int 1)))) (fC (.str "true")) (fC (.str "false"))))
 (fPass))
 (fSeq (fIfS (fTB (fOp eqD (fV 1) (fC (.str "null"))))
 (fRet (fC (.str "null")))
 (fPass))
 (fSeq (fIfS (fTB (fOp eqD (fV 1) (fC (.str "name"))))
 (fRet (fOp ixD (fV 0) (fC (.int 1))))
 (fPass))
 (fSeq (fIfS (fTB (fOp eqD (fV 1) (fC (.str "not"))))
 (fRet (jStrs [fC (.str "(not "), fUn fmtD (fOwn 1 r_expression_text (fCons (fOp ixD (fV 0) (fC (.int 1))) (fNil))), fC (.str ")")] Str.empty))
 (fPass))
 (fRet (jStrs [fC (.str "("), fUn fmtD (fOwn 1 r_expression_text (fCons (fOp ixD (fV 0) (fC (.int 1))) (fNil))), fC (.str " "), fUn fmtD (fV 1), fC (.str " "), fUn fmtD (fOwn 1 r_expression_text (fCons (fOp ixD (fV 0) (fC (.int 2))) (fNil))), fC (.str ")")] Str.empty)))))))
noncomputable def m_expression_text : Nat → FM
  | 0 => fun _ _ => .bad
  | n + 1 => body 1 2 (p_expression_text (m_expression_text n))
noncomputable def p_call_text  : FS :=
 fSeq (fSet (fMt "str" joinD (fC (.str ", ")) (fCons (fLc (fItS (fOp ixD (fV 0) (fC (.int 3)))) (gN 2) (fYes) (fOwn 1 (m_expression_text 20) (fCons (fV 2) (fNil))) [2]) (fNil))) 1)
 (fSeq (fIfS (fTB (fOp isD (fOp ixD (fV 0) (fC (.int 1))) (fC .non)))
 (fRet (jStrs [fUn fmtD (fOp ixD (fV 0) (fC (.int 2))), fC (.str "("), fUn fmtD (fV 1), fC (.str ")")] Str.empty))
 (fPass))
 (fRet (jStrs [fUn fmtD (fOp ixD (fV 0) (fC (.int 1))), fC (.str " = "), fUn fmtD (fOp ixD (fV 0) (fC (.int 2))), fC (.str "("), fUn fmtD (fV 1), fC (.str ")")] Str.empty)))
noncomputable def m_call_text : FM := body 1 3 p_call_text
noncomputable def p_statement_text  : FS :=
 fSeq (fSet (fOp ixD (fV 0) (fC (.int 0))) 1)
 (fSeq (fIfS (fTB (fOp eqD (fV 1) (fC (.str "set"))))
 (fRet (jStrs [fUn fmtD (fOp ixD (fV 0) (fC (.int 1))), fC (.str " = "), fUn fmtD (fOwn 1 (m_expression_text 20) (fCons (fOp ixD (fV 0) (fC (.int 2))) (fNil)))] Str.empty))
 (fPass))
 (fSeq (fIfS (fTOr (fTB (fOp eqD (fV 1) (fC (.str "input")))) (fTB (fOp eqD (fV 1) (fC (.str "new")))))
 (fRet (jStrs [fUn fmtD (fOp ixD (fV 0) (fC (.int 1))), fC (.str " = "), fUn fmtD (fV 1)] Str.empty))
 (fPass))
 (fSeq (fIfS (fTB (fOp eqD (fV 1) (fC (.str "free"))))
 (fRet (jStrs [fC (.str "free "), fUn fmtD (fOp ixD (fV 0) (fC (.int 1)))] Str.empty))
 (fPass))
 (fSeq (fIfS (fTB (fOp eqD (fV 1) (fC (.str "load"))))
 (fRet (jStrs [fUn fmtD (fOp ixD (fV 0) (fC (.int 1))), fC (.str " = "), fUn fmtD (fOp ixD (fV 0) (fC (.int 2))), fC (.str "."), fUn fmtD (fOp ixD (fV 0) (fC (.int 3)))] Str.empty))
 (fPass))
 (fSeq (fIfS (fTB (fOp eqD (fV 1) (fC (.str "store"))))
 (fRet (jStrs [fUn fmtD (fOp ixD (fV 0) (fC (.int 1))), fC (.str "."), fUn fmtD (fOp ixD (fV 0) (fC (.int 2))), fC (.str " = "), fUn fmtD (fOwn 1 (m_expression_text 20) (fCons (fOp ixD (fV 0) (fC (.int 3))) (fNil)))] Str.empty))
 (fPass))
 (fSeq (fIfS (fTB (fOp eqD (fV 1) (fC (.str "get"))))
 (fRet (jStrs [fUn fmtD (fOp ixD (fV 0) (fC (.int 1))), fC (.str " = "), fUn fmtD (fOp ixD (fV 0) (fC (.int 2))), fC (.str "["), fUn fmtD (fOwn 1 (m_expression_text 20) (fCons (fOp ixD (fV 0) (fC (.int 3))) (fNil))), fC (.str "]")] Str.empty))
 (fPass))
 (fSeq (fIfS (fTB (fOp eqD (fV 1) (fC (.str "put"))))
 (fRet (jStrs [fUn fmtD (fOp ixD (fV 0) (fC (.int 1))), fC (.str "["), fUn fmtD (fOwn 1 (m_expression_text 20) (fCons (fOp ixD (fV 0) (fC (.int 2))) (fNil))), fC (.str "] = "), fUn fmtD (fOwn 1 (m_expression_text 20) (fCons (fOp ixD (fV 0) (fC (.int 3))) (fNil)))] Str.empty))
 (fPass))
 (fSeq (fIfS (fTB (fOp eqD (fV 1) (fC (.str "call"))))
 (fRet (fOwn 1 m_call_text (fCons (fV 0) (fNil))))
 (fPass))
 (fSeq (fIfS (fTOr (fTB (fOp inD (fV 1) (fTup (fCons (fC (.str "break")) (fCons (fC (.str "else")) (fCons (fC (.str "end")) (fNil))))))) (fTAnd (fTB (fOp eqD (fV 1) (fC (.str "return")))) (fTB (fOp isD (fOp ixD (fV 0) (fC (.int 1))) (fC .non)))))
 (fRet (fV 1))
 (fPass))
 (fRet (jStrs [fUn fmtD (fV 1), fC (.str " "), fUn fmtD (fOwn 1 (m_expression_text 20) (fCons (fOp ixD (fV 0) (fC (.int 1))) (fNil)))] Str.empty)))))))))))
noncomputable def m_statement_text : FM := body 1 2 p_statement_text
noncomputable def p_statement_lines (r_statement_lines : FM) : FS :=
 fSeq (fSet (fOp mulSD (fC (.str "  ")) (fV 1)) 2)
 (fSeq (fSet (fLst (fNil)) 3)
 (fSeq (fFor (fItS (fV 0)) (gN 4)
 (fSeq (fEx (fMt "list" appendD (fV 3) (fCons (fOp addD (fV 2) (fOwn 1 m_statement_text (fCons (fV 4) (fNil)))) (fNil))))
 (fIfS (fTOr (fTB (fOp eqD (fOp ixD (fV 4) (fC (.int 0))) (fC (.str "if")))) (fTB (fOp eqD (fOp ixD (fV 4) (fC (.int 0))) (fC (.str "while")))))
 (fSeq (fEx (fMt "list" extendD (fV 3) (fCons (fOwn 2 r_statement_lines (fCons (fOp ixD (fV 4) (fC (.int 2))) (fCons (fOp addD (fV 1) (fC (.int 1))) (fNil)))) (fNil))))
 (fSeq (fIfS (fTAnd (fTB (fOp eqD (fOp ixD (fV 4) (fC (.int 0))) (fC (.str "if")))) (fTB (fOp neNilT (fOp ixD (fV 4) (fC (.int 3))) (fTup (fNil)))))
 (fSeq (fEx (fMt "list" appendD (fV 3) (fCons (fOp addD (fV 2) (fC (.str "else"))) (fNil))))
 (fEx (fMt "list" extendD (fV 3) (fCons (fOwn 2 r_statement_lines (fCons (fOp ixD (fV 4) (fC (.int 3))) (fCons (fOp addD (fV 1) (fC (.int 1))) (fNil)))) (fNil)))))
 (fPass))
 (fEx (fMt "list" appendD (fV 3) (fCons (fOp addD (fV 2) (fC (.str "end"))) (fNil))))))
 (fPass))))
 (fRet (fV 3))))
noncomputable def m_statement_lines : Nat → FM
  | 0 => fun _ _ => .bad
  | n + 1 => body 2 5 (p_statement_lines (m_statement_lines n))
noncomputable def p_function_lines  : FS :=
 fSeq (fAsg (fV 0) (gTpA 5 (gCs (gN 1) (gCs (gN 2) (gCs (gN 3) (gCs (gN 4) (gCs (gN 5) (gNl))))))))
 (fSeq (fSet (fLst (fCons (fOwn 1 m_heading_text (fCons (fTup (fCons (fC (.str "def")) (fCons (fV 1) (fCons (fV 2) (fCons (fV 3) (fNil)))))) (fNil))) (fNil))) 6)
 (fSeq (fFor (fItS (fV 4)) (gTp 2 (gCs (gN 7) (gCs (gN 8) (gNl))))
 (fEx (fMt "list" appendD (fV 6) (fCons (fOp addD (fC (.str "  ")) (fOwn 1 m_heading_text (fCons (fTup (fCons (fC (.str "var")) (fCons (fV 7) (fCons (fV 8) (fNil))))) (fNil)))) (fNil)))))
 (fSeq (fEx (fMt "list" extendD (fV 6) (fCons (fOwn 2 (m_statement_lines 20) (fCons (fV 5) (fCons (fC (.int 1)) (fNil)))) (fNil))))
 (fSeq (fEx (fMt "list" appendD (fV 6) (fCons (fC (.str "end")) (fNil))))
 (fRet (fV 6))))))
noncomputable def m_function_lines : FM := body 1 9 p_function_lines
noncomputable def p_joined  : FS :=
 fRet (fMt "str" joinD (fC (.str "")) (fCons (fLc (fItS (fV 0)) (gN 1) (fYes) (fOp addD (fV 1) (fC (.str "\n"))) [1]) (fNil)))
noncomputable def m_joined : FM := body 1 2 p_joined
noncomputable def p_function_text  : FS :=
 fRet (fOwn 1 m_joined (fCons (fOwn 1 m_function_lines (fCons (fV 0) (fNil))) (fNil)))
noncomputable def m_function_text : FM := body 1 1 p_function_text
noncomputable def p_program_text  : FS :=
 fSeq (fSet (fLst (fNil)) 1)
 (fSeq (fFor (fItS (fOp ixD (fV 0) (fC (.int 0)))) (gTp 2 (gCs (gN 2) (gCs (gN 3) (gNl))))
 (fSeq (fEx (fMt "list" appendD (fV 1) (fCons (fOwn 1 m_heading_text (fCons (fTup (fCons (fC (.str "record")) (fCons (fV 2) (fNil)))) (fNil))) (fNil))))
 (fSeq (fFor (fItS (fV 3)) (gTp 2 (gCs (gN 4) (gCs (gN 5) (gNl))))
 (fEx (fMt "list" appendD (fV 1) (fCons (fOp addD (fC (.str "  ")) (fOwn 1 m_heading_text (fCons (fTup (fCons (fC (.str "field")) (fCons (fV 4) (fCons (fV 5) (fNil))))) (fNil)))) (fNil)))))
 (fEx (fMt "list" appendD (fV 1) (fCons (fC (.str "end")) (fNil)))))))
 (fSeq (fFor (fItS (fOp ixD (fV 0) (fC (.int 1)))) (gTp 4 (gCs (gN 2) (gCs (gN 6) (gCs (gN 7) (gCs (gN 8) (gNl))))))
 (fEx (fMt "list" appendD (fV 1) (fCons (fOwn 1 m_heading_text (fCons (fTup (fCons (fC (.str "array")) (fCons (fV 2) (fCons (fV 6) (fCons (fV 7) (fCons (fV 8) (fNil))))))) (fNil))) (fNil)))))
 (fSeq (fFor (fItS (fOp ixD (fV 0) (fC (.int 2)))) (gTp 2 (gCs (gN 2) (gCs (gN 5) (gNl))))
 (fEx (fMt "list" appendD (fV 1) (fCons (fOwn 1 m_heading_text (fCons (fTup (fCons (fC (.str "global")) (fCons (fV 2) (fCons (fV 5) (fNil))))) (fNil))) (fNil)))))
 (fSeq (fFor (fItS (fOp ixD (fV 0) (fC (.int 3)))) (gN 9)
 (fEx (fMt "list" extendD (fV 1) (fCons (fOwn 1 m_function_lines (fCons (fV 9) (fNil))) (fNil)))))
 (fRet (fOwn 1 m_joined (fCons (fV 1) (fNil))))))))
noncomputable def m_program_text : FM := body 1 10 p_program_text
noncomputable def p_law  : FS :=
 fSeq (fSet (fOwn 2 m__law_program (fCons (fOwn 1 m__law_source (fCons (fOwn 2 m__law_cell (fCons (fV 0) (fCons (fC (.int 0)) (fNil)))) (fNil))) (fCons (fC (.int 0)) (fNil)))) 1)
 (fSeq (fSet (fOwn 2 m__law_program (fCons (fOwn 1 m__law_source (fCons (fOp addD (fOwn 2 m__law_cell (fCons (fV 0) (fCons (fC (.int 1)) (fNil)))) (fC (.int 1))) (fNil))) (fCons (fC (.int 0)) (fNil)))) 2)
 (fSeq (fFor (fItS (fLst (fCons (fV 1) (fCons (fV 2) (fCons (fV 1) (fCons (fTup (fCons (fTup (fNil)) (fCons (fTup (fNil)) (fCons (fTup (fNil)) (fCons (fTup (fNil)) (fNil)))))) (fNil))))))) (gN 3)
 (fSeq (fIfS (fTNot (fT (fOwn 2 (m__law_same 20) (fCons (fOwn 1 m_program_text (fCons (fV 3) (fNil))) (fCons (fOwn 1 m__law_joined (fCons (fOwn 1 m__law_program_lines (fCons (fV 3) (fNil))) (fNil))) (fNil))))))
 (fRet (fC (.bl false)))
 (fPass))
 (fFor (fItS (fOp ixD (fV 3) (fC (.int 3)))) (gN 4)
 (fIfS (fTNot (fT (fOwn 2 (m__law_same 20) (fCons (fOwn 1 m_function_text (fCons (fV 4) (fNil))) (fCons (fOwn 1 m__law_joined (fCons (fOwn 1 m__law_function_lines (fCons (fV 4) (fNil))) (fNil))) (fNil))))))
 (fRet (fC (.bl false)))
 (fPass)))))
 (fRet (fC (.bl true)))))
noncomputable def m_law : FM := body 1 5 p_law
/-! ### the walk of each def -/
section
variable {P : Program} {w : World} {K : PySem.W.Frag} {mg : Str → Option Value} {base : Heap}
theorem ad__law_cell (T : Txt K mg) : ADef P w K mg base 1 T.a__law_cell T.d__law_cell ["_law_script", "_law_at"] m__law_cell :=
 adef T.F__law_cell sc__law_cell fun cdv A outer s H E hr =>
 ass_cons (as_if (at_cmp aop_lt (ae_v 1) (ae_callB acall_len (by rfl) T.n_len PySem.boot_len (aa_cons (ae_v 0) (aa_nil))))
 (ass_one (as_ret (ae_ix (hu_of hr) (ae_v 0) (ae_v 1))))
 (ass_nil))
 (ass_one (as_ret (ae_int)))
theorem ad__law_kind_text (T : Txt K mg) : ADef P w K mg base 1 T.a__law_kind_text T.d__law_kind_text ["_law_kind_here"] m__law_kind_text :=
 adef T.F__law_kind_text sc__law_kind_text fun cdv A outer s H E hr =>
 ass_cons (as_if (at_cmp (aop_eq hr.units) (ae_ix (hu_of hr) (ae_v 0) (ae_int)) (ae_str))
 (ass_one (as_ret (ae_str)))
 (ass_nil))
 (ass_cons (as_if (at_cmp (aop_eq hr.units) (ae_ix (hu_of hr) (ae_v 0) (ae_int)) (ae_str))
 (ass_one (as_ret (ae_ix (hu_of hr) (ae_v 0) (ae_int))))
 (ass_nil))
 (ass_one (as_ret (ae_op aop_add (ae_op aop_add (ae_callT acall_str (by rfl) T.n_str PyProof.Rows.boot_str (aa_cons (ae_ix (hu_of hr) (ae_v 0) (ae_int)) (aa_nil))) (ae_str)) (ae_callT acall_str (by rfl) T.n_str PyProof.Rows.boot_str (aa_cons (ae_ix (hu_of hr) (ae_v 0) (ae_int)) (aa_nil)))))))
theorem ad__law_text (T : Txt K mg) : ∀ n : Nat, ADef P w K mg base (n + 0) T.a__law_text T.d__law_text ["_law_expression_here"] (m__law_text n)
  | 0 => adef_bad
  | n + 1 => adef_up (adef T.F__law_text sc__law_text fun cdv A outer s H E (hr : Room (n + 0) _) =>
 ass_cons (as_set (i := 1) sc__law_text.nd (ae_ix (hu_of hr) (ae_v 0) (ae_int)))
 (ass_cons (as_if (at_cmp (aop_eq hr.units) (ae_v 1) (ae_str))
 (ass_one (as_ret (ae_callT acall_str (by rfl) T.n_str PyProof.Rows.boot_str (aa_cons (ae_ix (hu_of hr) (ae_v 0) (ae_int)) (aa_nil)))))
 (ass_nil))
 (ass_cons (as_if (at_cmp (aop_eq hr.units) (ae_v 1) (ae_str))
 (ass_one (as_ret (ae_ix (hu_of hr) (ae_lst (aa_cons (ae_str) (aa_cons (ae_str) (aa_nil)))) (ae_callT acall_int (by rfl) T.n_int PyProof.Rows.boot_int (aa_cons (ae_ix (hu_of hr) (ae_v 0) (ae_int)) (aa_nil))))))
 (ass_nil))
 (ass_cons (as_if (at_cmp (aop_eq hr.units) (ae_v 1) (ae_str))
 (ass_one (as_ret (ae_str)))
 (ass_nil))
 (ass_cons (as_if (at_cmp (aop_eq hr.units) (ae_v 1) (ae_str))
 (ass_one (as_ret (ae_ix (hu_of hr) (ae_v 0) (ae_int))))
 (ass_nil))
 (ass_cons (as_if (at_cmp (aop_eq hr.units) (ae_v 1) (ae_str))
 (ass_one (as_ret (ae_op aop_add (ae_op aop_add (ae_str) (ae_call (ad__law_text T n) hr (by rfl) T.g__law_text T.F__law_text.kp T.b__law_text (aa_cons (ae_ix (hu_of hr) (ae_v 0) (ae_int)) (aa_nil)))) (ae_str))))
 (ass_nil))
 (ass_one (as_ret (ae_op aop_add (ae_op aop_add (ae_op aop_add (ae_op aop_add (ae_op aop_add (ae_op aop_add (ae_str) (ae_call (ad__law_text T n) hr (by rfl) T.g__law_text T.F__law_text.kp T.b__law_text (aa_cons (ae_ix (hu_of hr) (ae_v 0) (ae_int)) (aa_nil)))) (ae_str)) (ae_v 1)) (ae_str)) (ae_call (ad__law_text T n) hr (by rfl) T.g__law_text T.F__law_text.kp T.b__law_text (aa_cons (ae_ix (hu_of hr) (ae_v 0) (ae_int)) (aa_nil)))) (ae_str))))))))))
theorem ad__law_line (T : Txt K mg) : ADef P w K mg base 21 T.a__law_line T.d__law_line ["_law_statement"] m__law_line :=
 adef T.F__law_line sc__law_line fun cdv A outer s H E hr =>
 ass_cons (as_set (i := 1) sc__law_line.nd (ae_ix (hu_of hr) (ae_v 0) (ae_int)))
 (ass_cons (as_if (at_cmp (aop_eq hr.units) (ae_v 1) (ae_str))
 (ass_one (as_ret (ae_op aop_add (ae_op aop_add (ae_ix (hu_of hr) (ae_v 0) (ae_int)) (ae_str)) (ae_call (ad__law_text T 20) (hr.mono (by omega)) (by rfl) T.g__law_text T.F__law_text.kp T.b__law_text (aa_cons (ae_ix (hu_of hr) (ae_v 0) (ae_int)) (aa_nil))))))
 (ass_nil))
 (ass_cons (as_if ((aw_or (at_cmp (aop_eq hr.units) (ae_v 1) (ae_str)) (aw_or1 (at_cmp (aop_eq hr.units) (ae_v 1) (ae_str)))).pt)
 (ass_one (as_ret (ae_op aop_add (ae_op aop_add (ae_ix (hu_of hr) (ae_v 0) (ae_int)) (ae_str)) (ae_v 1))))
 (ass_nil))
 (ass_cons (as_if (at_cmp (aop_eq hr.units) (ae_v 1) (ae_str))
 (ass_one (as_ret (ae_op aop_add (ae_op aop_add (ae_op aop_add (ae_op aop_add (ae_ix (hu_of hr) (ae_v 0) (ae_int)) (ae_str)) (ae_ix (hu_of hr) (ae_v 0) (ae_int))) (ae_str)) (ae_ix (hu_of hr) (ae_v 0) (ae_int)))))
 (ass_nil))
 (ass_cons (as_if (at_cmp (aop_eq hr.units) (ae_v 1) (ae_str))
 (ass_one (as_ret (ae_op aop_add (ae_op aop_add (ae_op aop_add (ae_op aop_add (ae_ix (hu_of hr) (ae_v 0) (ae_int)) (ae_str)) (ae_ix (hu_of hr) (ae_v 0) (ae_int))) (ae_str)) (ae_call (ad__law_text T 20) (hr.mono (by omega)) (by rfl) T.g__law_text T.F__law_text.kp T.b__law_text (aa_cons (ae_ix (hu_of hr) (ae_v 0) (ae_int)) (aa_nil))))))
 (ass_nil))
 (ass_cons (as_if (at_cmp (aop_eq hr.units) (ae_v 1) (ae_str))
 (ass_one (as_ret (ae_op aop_add (ae_op aop_add (ae_op aop_add (ae_op aop_add (ae_op aop_add (ae_ix (hu_of hr) (ae_v 0) (ae_int)) (ae_str)) (ae_ix (hu_of hr) (ae_v 0) (ae_int))) (ae_str)) (ae_call (ad__law_text T 20) (hr.mono (by omega)) (by rfl) T.g__law_text T.F__law_text.kp T.b__law_text (aa_cons (ae_ix (hu_of hr) (ae_v 0) (ae_int)) (aa_nil)))) (ae_str))))
 (ass_nil))
 (ass_cons (as_if (at_cmp (aop_eq hr.units) (ae_v 1) (ae_str))
 (ass_one (as_ret (ae_op aop_add (ae_op aop_add (ae_op aop_add (ae_op aop_add (ae_ix (hu_of hr) (ae_v 0) (ae_int)) (ae_str)) (ae_call (ad__law_text T 20) (hr.mono (by omega)) (by rfl) T.g__law_text T.F__law_text.kp T.b__law_text (aa_cons (ae_ix (hu_of hr) (ae_v 0) (ae_int)) (aa_nil)))) (ae_str)) (ae_call (ad__law_text T 20) (hr.mono (by omega)) (by rfl) T.g__law_text T.F__law_text.kp T.b__law_text (aa_cons (ae_ix (hu_of hr) (ae_v 0) (ae_int)) (aa_nil))))))
 (ass_nil))
 (ass_cons (as_if (at_cmp (aop_eq hr.units) (ae_v 1) (ae_str))
 (ass_cons (as_set (i := 2) sc__law_line.nd (ae_op aop_add (ae_op aop_add (ae_op aop_add (ae_ix (hu_of hr) (ae_v 0) (ae_int)) (ae_str)) (ae_mt PySem.F.plainAttrs_str PySem.F.slot_str_join PySem.F.type_str_join amt_join (ae_str) (aa_cons (ae_lc [("_law_one_here", 3)] (by rfl) sc__law_line.nd (ai_seq (ae_ix (hu_of hr) (ae_v 0) (ae_int))) (blkOk_by (N := n__law_line) (sc := defScope s__law_line) (by decide +kernel)) (tgt_name (by decide)) (fun _ _ _ _ _ => pg_name (i := 3) sc__law_line.nd (by rfl) (by first | exact Or.inl rfl | exact Or.inr rfl)) (fun _ _ _ _ _ => ats_nil) (fun _ _ _ _ _ => ae_call (ad__law_text T 20) (hr.mono (by omega)) (by rfl) T.g__law_text T.F__law_text.kp T.b__law_text (aa_cons (ae_v 3) (aa_nil)))) (aa_nil)))) (ae_str)))
 (ass_cons (as_if (at_cmp aop_is (ae_ix (hu_of hr) (ae_v 0) (ae_int)) (ae_non))
 (ass_one (as_ret (ae_v 2)))
 (ass_nil))
 (ass_one (as_ret (ae_op aop_add (ae_op aop_add (ae_ix (hu_of hr) (ae_v 0) (ae_int)) (ae_str)) (ae_v 2))))))
 (ass_nil))
 (ass_cons (as_if (at_cmp (aop_eq hr.units) (ae_v 1) (ae_str))
 (ass_one (as_ret (ae_v 1)))
 (ass_nil))
 (ass_cons (as_if (at_cmp (aop_eq hr.units) (ae_v 1) (ae_str))
 (ass_one (as_ret (ae_op aop_add (ae_str) (ae_ix (hu_of hr) (ae_v 0) (ae_int)))))
 (ass_nil))
 (ass_cons (as_if (at_cmp aop_is (ae_ix (hu_of hr) (ae_v 0) (ae_int)) (ae_non))
 (ass_one (as_ret (ae_v 1)))
 (ass_nil))
 (ass_one (as_ret (ae_op aop_add (ae_op aop_add (ae_v 1) (ae_str)) (ae_call (ad__law_text T 20) (hr.mono (by omega)) (by rfl) T.g__law_text T.F__law_text.kp T.b__law_text (aa_cons (ae_ix (hu_of hr) (ae_v 0) (ae_int)) (aa_nil))))))))))))))))
theorem ad__law_lines (T : Txt K mg) : ∀ n : Nat, ADef P w K mg base (n + 21) T.a__law_lines T.d__law_lines ["_law_body_here", "_law_depth"] (m__law_lines n)
  | 0 => adef_bad
  | n + 1 => adef_up (adef T.F__law_lines sc__law_lines fun cdv A outer s H E (hr : Room (n + 21) _) =>
 ass_cons (as_set (i := 2) sc__law_lines.nd (ae_lst (aa_nil)))
 (ass_cons (as_for PassesOwn.never (by rfl) (ai_seq (ae_v 0)) (ag_name sc__law_lines.nd)
 (ass_cons (as_ex (ae_mt PySem.F.plainAttrs_list PySem.F.slot_list_append PySem.F.type_list_append amt_append (ae_v 2) (aa_cons (ae_op aop_add (ae_op aop_mulS (ae_str) (ae_v 1)) (ae_call (ad__law_line T) (hr.mono (by omega)) (by rfl) T.g__law_line T.F__law_line.kp T.b__law_line (aa_cons (ae_v 3) (aa_nil)))) (aa_nil))))
 (ass_one (as_if ((aw_or (at_cmp (aop_eq hr.units) (ae_ix (hu_of hr) (ae_v 3) (ae_int)) (ae_str)) (aw_or1 (at_cmp (aop_eq hr.units) (ae_ix (hu_of hr) (ae_v 3) (ae_int)) (ae_str)))).pt)
 (ass_cons (as_set (i := 2) sc__law_lines.nd (ae_op aop_add (ae_v 2) (ae_call (ad__law_lines T n) hr (by rfl) T.g__law_lines T.F__law_lines.kp T.b__law_lines (aa_cons (ae_ix (hu_of hr) (ae_v 3) (ae_int)) (aa_cons (ae_op aop_add (ae_v 1) (ae_int)) (aa_nil))))))
 (ass_cons (as_if ((aw_and (at_cmp (aop_eq hr.units) (ae_ix (hu_of hr) (ae_v 3) (ae_int)) (ae_str)) (aw_and1 (at_cmp (aop_neNilT hr.units) (ae_ix (hu_of hr) (ae_v 3) (ae_int)) (ae_tup (aa_nil))))).pt)
 (ass_one (as_set (i := 2) sc__law_lines.nd (ae_op aop_add (ae_op aop_add (ae_v 2) (ae_lst (aa_cons (ae_op aop_add (ae_op aop_mulS (ae_str) (ae_v 1)) (ae_str)) (aa_nil)))) (ae_call (ad__law_lines T n) hr (by rfl) T.g__law_lines T.F__law_lines.kp T.b__law_lines (aa_cons (ae_ix (hu_of hr) (ae_v 3) (ae_int)) (aa_cons (ae_op aop_add (ae_v 1) (ae_int)) (aa_nil)))))))
 (ass_nil))
 (ass_one (as_ex (ae_mt PySem.F.plainAttrs_list PySem.F.slot_list_append PySem.F.type_list_append amt_append (ae_v 2) (aa_cons (ae_op aop_add (ae_op aop_mulS (ae_str) (ae_v 1)) (ae_str)) (aa_nil)))))))
 (ass_nil)))))
 (ass_one (as_ret (ae_v 2)))))
theorem ad__law_function_lines (T : Txt K mg) : ADef P w K mg base 42 T.a__law_function_lines T.d__law_function_lines ["_law_head"] m__law_function_lines :=
 adef T.F__law_function_lines sc__law_function_lines fun cdv A outer s H E hr =>
 ass_cons (as_set (i := 1) sc__law_function_lines.nd (ae_mt PySem.F.plainAttrs_str PySem.F.slot_str_join PySem.F.type_str_join amt_join (ae_str) (aa_cons (ae_lc [("_law_pair", 2)] (by rfl) sc__law_function_lines.nd (ai_seq (ae_ix (hu_of hr) (ae_v 0) (ae_int))) (blkOk_by (N := n__law_function_lines) (sc := defScope s__law_function_lines) (by decide +kernel)) (tgt_name (by decide)) (fun _ _ _ _ _ => pg_name (i := 2) sc__law_function_lines.nd (by rfl) (by first | exact Or.inl rfl | exact Or.inr rfl)) (fun _ _ _ _ _ => ats_nil) (fun _ _ _ _ _ => ae_op aop_add (ae_op aop_add (ae_ix (hu_of hr) (ae_v 2) (ae_int)) (ae_str)) (ae_call (ad__law_kind_text T) (hr.mono (by omega)) (by rfl) T.g__law_kind_text T.F__law_kind_text.kp T.b__law_kind_text (aa_cons (ae_ix (hu_of hr) (ae_v 2) (ae_int)) (aa_nil))))) (aa_nil))))
 (ass_cons (as_set (i := 3) sc__law_function_lines.nd (ae_op aop_add (ae_op aop_add (ae_op aop_add (ae_op aop_add (ae_str) (ae_ix (hu_of hr) (ae_v 0) (ae_int))) (ae_str)) (ae_v 1)) (ae_str)))
 (ass_cons (as_if (at_cmp aop_isnt (ae_ix (hu_of hr) (ae_v 0) (ae_int)) (ae_non))
 (ass_one (as_set (i := 3) sc__law_function_lines.nd (ae_op aop_add (ae_op aop_add (ae_v 3) (ae_str)) (ae_call (ad__law_kind_text T) (hr.mono (by omega)) (by rfl) T.g__law_kind_text T.F__law_kind_text.kp T.b__law_kind_text (aa_cons (ae_ix (hu_of hr) (ae_v 0) (ae_int)) (aa_nil))))))
 (ass_nil))
 (ass_cons (as_setLc [("_law_pair", 2)] (i := 4) (by rfl) sc__law_function_lines.nd (ai_seq (ae_ix (hu_of hr) (ae_v 0) (ae_int))) (blkOk_by (N := n__law_function_lines) (sc := defScope s__law_function_lines) (by decide +kernel)) (tgt_name (by decide)) (fun _ _ _ _ _ => pg_name (i := 2) sc__law_function_lines.nd (by rfl) (by first | exact Or.inl rfl | exact Or.inr rfl)) (fun _ _ _ _ _ => ats_nil) (fun _ _ _ _ _ => ae_op aop_add (ae_op aop_add (ae_op aop_add (ae_str) (ae_ix (hu_of hr) (ae_v 2) (ae_int))) (ae_str)) (ae_call (ad__law_kind_text T) (hr.mono (by omega)) (by rfl) T.g__law_kind_text T.F__law_kind_text.kp T.b__law_kind_text (aa_cons (ae_ix (hu_of hr) (ae_v 2) (ae_int)) (aa_nil)))) (sw_true rfl rfl rfl (by decide +kernel)))
 (ass_one (as_ret (ae_op aop_add (ae_op aop_add (ae_op aop_add (ae_lst (aa_cons (ae_v 3) (aa_nil))) (ae_v 4)) (ae_call (ad__law_lines T 20) (hr.mono (by omega)) (by rfl) T.g__law_lines T.F__law_lines.kp T.b__law_lines (aa_cons (ae_ix (hu_of hr) (ae_v 0) (ae_int)) (aa_cons (ae_int) (aa_nil))))) (ae_lst (aa_cons (ae_str) (aa_nil)))))))))
theorem ad__law_joined (T : Txt K mg) : ADef P w K mg base 1 T.a__law_joined T.d__law_joined ["_law_lines_here"] m__law_joined :=
 adef T.F__law_joined sc__law_joined fun cdv A outer s H E hr =>
 ass_one (as_ret (ae_mt PySem.F.plainAttrs_str PySem.F.slot_str_join PySem.F.type_str_join amt_join (ae_str) (aa_cons (ae_lc [("_law_row", 1)] (by rfl) sc__law_joined.nd (ai_seq (ae_v 0)) (blkOk_by (N := n__law_joined) (sc := defScope s__law_joined) (by decide +kernel)) (tgt_name (by decide)) (fun _ _ _ _ _ => pg_name (i := 1) sc__law_joined.nd (by rfl) (by first | exact Or.inl rfl | exact Or.inr rfl)) (fun _ _ _ _ _ => ats_nil) (fun _ _ _ _ _ => ae_op aop_add (ae_v 1) (ae_str))) (aa_nil))))
theorem ad__law_pick (T : Txt K mg) : ADef P w K mg base 1 T.a__law_pick T.d__law_pick ["_law_source_here", "_law_size"] m__law_pick :=
 adef T.F__law_pick sc__law_pick fun cdv A outer s H E hr =>
 ass_cons (as_set (i := 2) sc__law_pick.nd (ae_ix (hu_of hr) (ae_v 0) (ae_int)))
 (ass_cons (as_asg (ae_op aop_add (ae_v 2) (ae_int)) (ag_sub (hu_of hr) (ae_v 0) (ae_int)))
 (ass_cons (as_if (at_cmp aop_lt (ae_v 1) (ae_int))
 (ass_one (as_ret (ae_int)))
 (ass_nil))
 (ass_cons (as_if ((aw_and (at_cmp aop_ge (ae_ix (hu_of hr) (ae_v 0) (ae_int)) (ae_op aop_pow (ae_int) (ae_int))) (aw_and1 (at_cmp aop_gt (ae_ix (hu_of hr) (ae_v 0) (ae_int)) (ae_int)))).pt)
 (ass_cons (as_set (i := 3) sc__law_pick.nd (ae_op aop_mod (ae_callT acall_int (by rfl) T.n_int PyProof.Rows.boot_int (aa_cons (ae_ix (hu_of hr) (ae_v 0) (ae_int)) (aa_nil))) (ae_v 1)))
 (ass_cons (as_asg (ae_op aop_fdiv (ae_ix (hu_of hr) (ae_v 0) (ae_int)) (ae_v 1)) (ag_sub (hu_of hr) (ae_v 0) (ae_int)))
 (ass_one (as_ret (ae_v 3)))))
 (ass_nil))
 (ass_cons (as_set (i := 4) sc__law_pick.nd (ae_op aop_mod (ae_callT acall_int (by rfl) T.n_int PyProof.Rows.boot_int (aa_cons (ae_op aop_add (ae_op aop_add (ae_ix (hu_of hr) (ae_v 0) (ae_int)) (ae_op aop_mul (ae_int) (ae_v 2))) (ae_int)) (aa_nil))) (ae_int)))
 (ass_cons (as_set (i := 4) sc__law_pick.nd (ae_op aop_mod (ae_callT acall_int (by rfl) T.n_int PyProof.Rows.boot_int (aa_cons (ae_op aop_mul (ae_v 4) (ae_op aop_add (ae_v 4) (ae_int))) (aa_nil))) (ae_int)))
 (ass_cons (as_set (i := 4) sc__law_pick.nd (ae_op aop_mod (ae_callT acall_int (by rfl) T.n_int PyProof.Rows.boot_int (aa_cons (ae_op aop_add (ae_op aop_mul (ae_v 4) (ae_op aop_add (ae_v 4) (ae_int))) (ae_op aop_mul (ae_int) (ae_v 2))) (aa_nil))) (ae_int)))
 (ass_one (as_ret (ae_op aop_mod (ae_callT acall_int (by rfl) T.n_int PyProof.Rows.boot_int (aa_cons (ae_op aop_fdiv (ae_v 4) (ae_int)) (aa_nil))) (ae_v 1))))))))))
theorem ad__law_number (T : Txt K mg) : ADef P w K mg base 2 T.a__law_number T.d__law_number ["_law_source_here", "_law_world"] m__law_number :=
 adef T.F__law_number sc__law_number fun cdv A outer s H E hr =>
 ass_cons (as_set (i := 2) sc__law_number.nd (ae_call (ad__law_pick T) (hr.mono (by omega)) (by rfl) T.g__law_pick T.F__law_pick.kp T.b__law_pick (aa_cons (ae_v 0) (aa_cons (ae_int) (aa_nil)))))
 (ass_cons (as_if (at_cmp aop_lt (ae_v 2) (ae_int))
 (ass_one (as_ret (ae_op aop_sub (ae_call (ad__law_pick T) (hr.mono (by omega)) (by rfl) T.g__law_pick T.F__law_pick.kp T.b__law_pick (aa_cons (ae_v 0) (aa_cons (ae_int) (aa_nil)))) (ae_int))))
 (ass_nil))
 (ass_cons (as_set (i := 3) sc__law_number.nd (ae_callB (acall_min (by rfl)) (by rfl) T.n_min PyProof.Rows.boot_min (aa_cons (ae_op aop_add (ae_op aop_mul (ae_call (ad__law_pick T) (hr.mono (by omega)) (by rfl) T.g__law_pick T.F__law_pick.kp T.b__law_pick (aa_cons (ae_v 0) (aa_cons (ae_ix (hu_of hr) (ae_v 1) (ae_str)) (aa_nil)))) (ae_ix (hu_of hr) (ae_v 1) (ae_str))) (ae_call (ad__law_pick T) (hr.mono (by omega)) (by rfl) T.g__law_pick T.F__law_pick.kp T.b__law_pick (aa_cons (ae_v 0) (aa_cons (ae_ix (hu_of hr) (ae_v 1) (ae_str)) (aa_nil))))) (aa_cons (ae_op aop_pow (ae_int) (ae_int)) (aa_nil)))))
 (ass_one (as_ret (ae_ix (hu_of hr) (ae_lst (aa_cons (ae_v 3) (aa_cons (ae_un aun_neg (ae_v 3)) (aa_nil)))) (ae_op aop_sub (ae_v 2) (ae_int)))))))
theorem ad__law_reserved (T : Txt K mg) : ADef P w K mg base 1 T.a__law_reserved T.d__law_reserved [] m__law_reserved :=
 adef T.F__law_reserved sc__law_reserved fun cdv A outer s H E hr =>
 ass_cons (as_set (i := 0) sc__law_reserved.nd (ae_lst (aa_cons (ae_str) (aa_cons (ae_str) (aa_cons (ae_str) (aa_cons (ae_str) (aa_cons (ae_str) (aa_cons (ae_str) (aa_cons (ae_str) (aa_cons (ae_str) (aa_cons (ae_str) (aa_cons (ae_str) (aa_cons (ae_str) (aa_cons (ae_str) (aa_cons (ae_str) (aa_nil))))))))))))))))
 (ass_one (as_ret (ae_op aop_add (ae_v 0) (ae_lst (aa_cons (ae_str) (aa_cons (ae_str) (aa_cons (ae_str) (aa_cons (ae_str) (aa_cons (ae_str) (aa_cons (ae_str) (aa_cons (ae_str) (aa_cons (ae_str) (aa_cons (ae_str) (aa_cons (ae_str) (aa_cons (ae_str) (aa_nil))))))))))))))))
theorem ad__law_name (T : Txt K mg) : ADef P w K mg base 2 T.a__law_name T.d__law_name ["_law_source_here", "_law_world"] m__law_name :=
 adef T.F__law_name sc__law_name fun cdv A outer s H E hr =>
 ass_cons (as_set (i := 2) sc__law_name.nd (ae_call (ad__law_pick T) (hr.mono (by omega)) (by rfl) T.g__law_pick T.F__law_pick.kp T.b__law_pick (aa_cons (ae_v 0) (aa_cons (ae_int) (aa_nil)))))
 (ass_cons (as_if (at_cmp (aop_eq hr.units) (ae_v 2) (ae_int))
 (ass_one (as_set (i := 2) sc__law_name.nd (ae_call (ad__law_pick T) (hr.mono (by omega)) (by rfl) T.g__law_pick T.F__law_pick.kp T.b__law_pick (aa_cons (ae_v 0) (aa_cons (ae_ix (hu_of hr) (ae_v 1) (ae_str)) (aa_nil))))))
 (ass_nil))
 (ass_cons (as_set (i := 3) sc__law_name.nd (ae_ix (hu_of hr) (ae_str) (ae_call (ad__law_pick T) (hr.mono (by omega)) (by rfl) T.g__law_pick T.F__law_pick.kp T.b__law_pick (aa_cons (ae_v 0) (aa_cons (ae_int) (aa_nil))))))
 (ass_cons (as_for PassesOwn.never (by rfl) (ai_rg1 (by rfl) T.n_range (ae_v 2)) (ag_name sc__law_name.nd)
 (ass_one (as_set (i := 3) sc__law_name.nd (ae_op aop_add (ae_v 3) (ae_ix (hu_of hr) (ae_str) (ae_call (ad__law_pick T) (hr.mono (by omega)) (by rfl) T.g__law_pick T.F__law_pick.kp T.b__law_pick (aa_cons (ae_v 0) (aa_cons (ae_int) (aa_nil)))))))))
 (ass_cons (as_if (at_cmp (aop_in (u65 hr)) (ae_v 3) (ae_call0 (ad__law_reserved T) (hr.mono (by omega)) (by rfl) T.g__law_reserved T.F__law_reserved.kp T.b__law_reserved))
 (ass_one (as_ret (ae_op aop_add (ae_v 3) (ae_str))))
 (ass_nil))
 (ass_one (as_ret (ae_v 3)))))))
theorem ad__law_word (T : Txt K mg) : ADef P w K mg base 3 T.a__law_word T.d__law_word ["_law_source_here", "_law_world"] m__law_word :=
 adef T.F__law_word sc__law_word fun cdv A outer s H E hr =>
 ass_cons (as_set (i := 2) sc__law_word.nd (ae_call (ad__law_pick T) (hr.mono (by omega)) (by rfl) T.g__law_pick T.F__law_pick.kp T.b__law_pick (aa_cons (ae_v 0) (aa_cons (ae_op aop_add (ae_callB acall_len (by rfl) T.n_len PySem.boot_len (aa_cons (ae_ix (hu_of hr) (ae_v 1) (ae_str)) (aa_nil))) (ae_int)) (aa_nil)))))
 (ass_cons (as_if (at_cmp aop_lt (ae_v 2) (ae_callB acall_len (by rfl) T.n_len PySem.boot_len (aa_cons (ae_ix (hu_of hr) (ae_v 1) (ae_str)) (aa_nil))))
 (ass_one (as_ret (ae_ix (hu_of hr) (ae_ix (hu_of hr) (ae_v 1) (ae_str)) (ae_v 2))))
 (ass_nil))
 (ass_one (as_ret (ae_call (ad__law_name T) (hr.mono (by omega)) (by rfl) T.g__law_name T.F__law_name.kp T.b__law_name (aa_cons (ae_v 0) (aa_cons (ae_v 1) (aa_nil)))))))
theorem ad__law_node_all (T : Txt K mg) : ∀ n : Nat, ADef P w K mg base (n + 3) T.a__law_node T.d__law_node ["_law_source_here", "_law_world", "_law_choice", "_law_depth"] (m__law_node n) ∧ ADef P w K mg base (n + 3) T.a__law_expression T.d__law_expression ["_law_source_here", "_law_world", "_law_depth"] (m__law_expression n)
  | 0 => ⟨adef_bad, adef_bad⟩
  | n + 1 => ⟨adef_up (adef T.F__law_node sc__law_node fun cdv A outer s H E (hr : Room (n + 3) _) =>
 ass_cons (as_if (at_cmp (aop_eq hr.units) (ae_v 2) (ae_int))
 (ass_one (as_ret (ae_tup (aa_cons (ae_str) (aa_cons (ae_call (ad__law_number T) (hr.mono (by omega)) (by rfl) T.g__law_number T.F__law_number.kp T.b__law_number (aa_cons (ae_v 0) (aa_cons (ae_v 1) (aa_nil)))) (aa_nil))))))
 (ass_nil))
 (ass_cons (as_if (at_cmp (aop_eq hr.units) (ae_v 2) (ae_int))
 (ass_one (as_ret (ae_tup (aa_cons (ae_str) (aa_cons (ae_call (ad__law_word T) (hr.mono (by omega)) (by rfl) T.g__law_word T.F__law_word.kp T.b__law_word (aa_cons (ae_v 0) (aa_cons (ae_v 1) (aa_nil)))) (aa_nil))))))
 (ass_nil))
 (ass_cons (as_if (at_cmp (aop_eq hr.units) (ae_v 2) (ae_int))
 (ass_one (as_ret (ae_tup (aa_cons (ae_str) (aa_cons (ae_cmp (aop_eq hr.units) (ae_call (ad__law_pick T) (hr.mono (by omega)) (by rfl) T.g__law_pick T.F__law_pick.kp T.b__law_pick (aa_cons (ae_v 0) (aa_cons (ae_int) (aa_nil)))) (ae_int)) (aa_nil))))))
 (ass_nil))
 (ass_cons (as_if (at_cmp (aop_eq hr.units) (ae_v 2) (ae_int))
 (ass_one (as_ret (ae_tup (aa_cons (ae_str) (aa_nil)))))
 (ass_nil))
 (ass_cons (as_set (i := 4) sc__law_node.nd (ae_call ((ad__law_node_all T n).2) hr (by rfl) T.g__law_expression T.F__law_expression.kp T.b__law_expression (aa_cons (ae_v 0) (aa_cons (ae_v 1) (aa_cons (ae_op aop_sub (ae_v 3) (ae_int)) (aa_nil))))))
 (ass_cons (as_if (at_cmp (aop_eq hr.units) (ae_v 2) (ae_int))
 (ass_one (as_ret (ae_tup (aa_cons (ae_str) (aa_cons (ae_v 4) (aa_nil))))))
 (ass_nil))
 (ass_cons (as_set (i := 5) sc__law_node.nd (ae_ix (hu_of hr) (ae_lst (aa_cons (ae_str) (aa_cons (ae_str) (aa_cons (ae_str) (aa_cons (ae_str) (aa_cons (ae_str) (aa_cons (ae_str) (aa_cons (ae_str) (aa_cons (ae_str) (aa_cons (ae_str) (aa_cons (ae_str) (aa_nil)))))))))))) (ae_op aop_sub (ae_v 2) (ae_int))))
 (ass_one (as_ret (ae_tup (aa_cons (ae_v 5) (aa_cons (ae_v 4) (aa_cons (ae_call ((ad__law_node_all T n).2) hr (by rfl) T.g__law_expression T.F__law_expression.kp T.b__law_expression (aa_cons (ae_v 0) (aa_cons (ae_v 1) (aa_cons (ae_op aop_sub (ae_v 3) (ae_int)) (aa_nil))))) (aa_nil)))))))))))))),
adef_up (adef T.F__law_expression sc__law_expression fun cdv A outer s H E (hr : Room (n + 3) _) =>
 ass_cons (as_set (i := 3) sc__law_expression.nd (ae_call (ad__law_pick T) (hr.mono (by omega)) (by rfl) T.g__law_pick T.F__law_pick.kp T.b__law_pick (aa_cons (ae_v 0) (aa_cons (ae_int) (aa_nil)))))
 (ass_cons (as_if ((aw_or (at_cmp aop_lt (ae_v 2) (ae_int)) (aw_or1 (at_cmp (aop_eq hr.units) (ae_call (ad__law_pick T) (hr.mono (by omega)) (by rfl) T.g__law_pick T.F__law_pick.kp T.b__law_pick (aa_cons (ae_v 0) (aa_cons (ae_int) (aa_nil)))) (ae_int)))).pt)
 (ass_one (as_set (i := 3) sc__law_expression.nd (ae_op aop_mod (ae_v 3) (ae_int))))
 (ass_nil))
 (ass_one (as_ret (ae_call ((ad__law_node_all T n).1) hr (by rfl) T.g__law_node T.F__law_node.kp T.b__law_node (aa_cons (ae_v 0) (aa_cons (ae_v 1) (aa_cons (ae_v 3) (aa_cons (ae_v 2) (aa_nil))))))))))⟩
theorem ad__law_node (T : Txt K mg) (n : Nat) : ADef P w K mg base (n + 3) T.a__law_node T.d__law_node ["_law_source_here", "_law_world", "_law_choice", "_law_depth"] (m__law_node n) := (ad__law_node_all T n).1
theorem ad__law_expression (T : Txt K mg) (n : Nat) : ADef P w K mg base (n + 3) T.a__law_expression T.d__law_expression ["_law_source_here", "_law_world", "_law_depth"] (m__law_expression n) := (ad__law_node_all T n).2
theorem ad__law_one (T : Txt K mg) : ADef P w K mg base 2 T.a__law_one T.d__law_one ["_law_source_here", "_law_row"] m__law_one :=
 adef T.F__law_one sc__law_one fun cdv A outer s H E hr =>
 ass_one (as_ret (ae_ix (hu_of hr) (ae_v 1) (ae_call (ad__law_pick T) (hr.mono (by omega)) (by rfl) T.g__law_pick T.F__law_pick.kp T.b__law_pick (aa_cons (ae_v 0) (aa_cons (ae_callB acall_len (by rfl) T.n_len PySem.boot_len (aa_cons (ae_v 1) (aa_nil))) (aa_nil))))))
theorem ad__law_leaf (T : Txt K mg) : ADef P w K mg base 24 T.a__law_leaf T.d__law_leaf ["_law_source_here", "_law_world"] m__law_leaf :=
 adef T.F__law_leaf sc__law_leaf fun cdv A outer s H E hr =>
 ass_cons (as_set (i := 2) sc__law_leaf.nd (ae_lst (aa_cons (ae_str) (aa_cons (ae_str) (aa_cons (ae_str) (aa_cons (ae_str) (aa_cons (ae_str) (aa_cons (ae_str) (aa_cons (ae_str) (aa_cons (ae_str) (aa_cons (ae_str) (aa_cons (ae_str) (aa_cons (ae_str) (aa_cons (ae_str) (aa_nil)))))))))))))))
 (ass_cons (as_set (i := 3) sc__law_leaf.nd (ae_call (ad__law_one T) (hr.mono (by omega)) (by rfl) T.g__law_one T.F__law_one.kp T.b__law_one (aa_cons (ae_v 0) (aa_cons (ae_v 2) (aa_nil)))))
 (ass_cons (as_set (i := 4) sc__law_leaf.nd (ae_call (ad__law_word T) (hr.mono (by omega)) (by rfl) T.g__law_word T.F__law_word.kp T.b__law_word (aa_cons (ae_v 0) (aa_cons (ae_v 1) (aa_nil)))))
 (ass_cons (as_if (at_cmp (aop_eq hr.units) (ae_v 3) (ae_str))
 (ass_one (as_ret (ae_tup (aa_cons (ae_str) (aa_nil)))))
 (ass_nil))
 (ass_cons (as_if (at_cmp (aop_in (u65 hr)) (ae_v 3) (ae_lst (aa_cons (ae_str) (aa_cons (ae_str) (aa_cons (ae_str) (aa_nil))))))
 (ass_one (as_ret (ae_tup (aa_cons (ae_v 3) (aa_cons (ae_v 4) (aa_nil))))))
 (ass_nil))
 (ass_cons (as_set (i := 5) sc__law_leaf.nd (ae_call (ad__law_word T) (hr.mono (by omega)) (by rfl) T.g__law_word T.F__law_word.kp T.b__law_word (aa_cons (ae_v 0) (aa_cons (ae_v 1) (aa_nil)))))
 (ass_cons (as_if (at_cmp (aop_eq hr.units) (ae_v 3) (ae_str))
 (ass_one (as_ret (ae_tup (aa_cons (ae_v 3) (aa_cons (ae_v 4) (aa_cons (ae_v 5) (aa_cons (ae_call (ad__law_word T) (hr.mono (by omega)) (by rfl) T.g__law_word T.F__law_word.kp T.b__law_word (aa_cons (ae_v 0) (aa_cons (ae_v 1) (aa_nil)))) (aa_nil))))))))
 (ass_nil))
 (ass_cons (as_set (i := 6) sc__law_leaf.nd (ae_call (ad__law_expression T 20) (hr.mono (by omega)) (by rfl) T.g__law_expression T.F__law_expression.kp T.b__law_expression (aa_cons (ae_v 0) (aa_cons (ae_v 1) (aa_cons (ae_ix (hu_of hr) (ae_v 1) (ae_str)) (aa_nil))))))
 (ass_cons (as_if (at_cmp (aop_eq hr.units) (ae_v 3) (ae_str))
 (ass_one (as_ret (ae_tup (aa_cons (ae_v 3) (aa_cons (ae_v 4) (aa_cons (ae_v 6) (aa_nil)))))))
 (ass_nil))
 (ass_cons (as_if (at_cmp (aop_eq hr.units) (ae_v 3) (ae_str))
 (ass_one (as_ret (ae_tup (aa_cons (ae_v 3) (aa_cons (ae_v 6) (aa_nil))))))
 (ass_nil))
 (ass_cons (as_if (at_cmp (aop_eq hr.units) (ae_v 3) (ae_str))
 (ass_one (as_ret (ae_tup (aa_cons (ae_v 3) (aa_cons (ae_call (ad__law_one T) (hr.mono (by omega)) (by rfl) T.g__law_one T.F__law_one.kp T.b__law_one (aa_cons (ae_v 0) (aa_cons (ae_lst (aa_cons (ae_non) (aa_cons (ae_v 6) (aa_cons (ae_v 6) (aa_nil))))) (aa_nil)))) (aa_nil))))))
 (ass_nil))
 (ass_cons (as_if (at_cmp (aop_eq hr.units) (ae_v 3) (ae_str))
 (ass_one (as_ret (ae_tup (aa_cons (ae_v 3) (aa_cons (ae_v 4) (aa_cons (ae_v 6) (aa_cons (ae_call (ad__law_expression T 20) (hr.mono (by omega)) (by rfl) T.g__law_expression T.F__law_expression.kp T.b__law_expression (aa_cons (ae_v 0) (aa_cons (ae_v 1) (aa_cons (ae_ix (hu_of hr) (ae_v 1) (ae_str)) (aa_nil))))) (aa_nil))))))))
 (ass_nil))
 (ass_cons (as_if (at_cmp (aop_eq hr.units) (ae_v 3) (ae_str))
 (ass_cons (as_setLc [("_law_k", 8)] (i := 7) (by rfl) sc__law_leaf.nd (ai_rg1 (by rfl) T.n_range (ae_call (ad__law_pick T) (hr.mono (by omega)) (by rfl) T.g__law_pick T.F__law_pick.kp T.b__law_pick (aa_cons (ae_v 0) (aa_cons (ae_int) (aa_nil))))) (blkOk_by (N := n__law_leaf) (sc := defScope s__law_leaf) (by decide +kernel)) (tgt_name (by decide)) (fun _ _ _ _ _ => pg_name (i := 8) sc__law_leaf.nd (by rfl) (by first | exact Or.inl rfl | exact Or.inr rfl)) (fun _ _ _ _ _ => ats_nil) (fun _ _ _ _ _ => ae_call (ad__law_expression T 20) (hr.mono (by omega)) (by rfl) T.g__law_expression T.F__law_expression.kp T.b__law_expression (aa_cons (ae_v 0) (aa_cons (ae_v 1) (aa_cons (ae_int) (aa_nil))))) (sw_true rfl rfl rfl (by decide +kernel)))
 (ass_one (as_ret (ae_tup (aa_cons (ae_v 3) (aa_cons (ae_call (ad__law_one T) (hr.mono (by omega)) (by rfl) T.g__law_one T.F__law_one.kp T.b__law_one (aa_cons (ae_v 0) (aa_cons (ae_lst (aa_cons (ae_non) (aa_cons (ae_v 4) (aa_nil)))) (aa_nil)))) (aa_cons (ae_v 5) (aa_cons (ae_callT acall_tuple (by rfl) T.n_tuple PyProof.Rows.boot_tuple (aa_cons (ae_v 7) (aa_nil))) (aa_nil)))))))))
 (ass_nil))
 (ass_one (as_ret (ae_tup (aa_cons (ae_v 3) (aa_cons (ae_v 4) (aa_cons (ae_v 5) (aa_cons (ae_v 6) (aa_nil))))))))))))))))))))
theorem ad__law_body (T : Txt K mg) : ∀ n : Nat, ADef P w K mg base (n + 24) T.a__law_body T.d__law_body ["_law_source_here", "_law_world", "_law_upto", "_law_depth"] (m__law_body n)
  | 0 => adef_bad
  | n + 1 => adef_up (adef T.F__law_body sc__law_body fun cdv A outer s H E (hr : Room (n + 24) _) =>
 ass_cons (as_set (i := 4) sc__law_body.nd (ae_lst (aa_nil)))
 (ass_cons (as_for PassesOwn.never (by rfl) (ai_rg1 (by rfl) T.n_range (ae_call (ad__law_pick T) (hr.mono (by omega)) (by rfl) T.g__law_pick T.F__law_pick.kp T.b__law_pick (aa_cons (ae_v 0) (aa_cons (ae_op aop_add (ae_v 2) (ae_int)) (aa_nil))))) (ag_name sc__law_body.nd)
 (ass_one (as_if (at_cmp aop_gt (ae_ix (hu_of hr) (ae_v 1) (ae_str)) (ae_int))
 (ass_cons (as_asg (ae_op aop_sub (ae_ix (hu_of hr) (ae_v 1) (ae_str)) (ae_int)) (ag_sub (hu_of hr) (ae_v 1) (ae_str)))
 (ass_cons (as_set (i := 6) sc__law_body.nd (ae_call (ad__law_pick T) (hr.mono (by omega)) (by rfl) T.g__law_pick T.F__law_pick.kp T.b__law_pick (aa_cons (ae_v 0) (aa_cons (ae_int) (aa_nil)))))
 (ass_one (as_if ((aw_or (at_cmp (aop_eq hr.units) (ae_v 3) (ae_int)) (aw_or1 (at_cmp aop_gt (ae_v 6) (ae_int)))).pt)
 (ass_one (as_ex (ae_mt PySem.F.plainAttrs_list PySem.F.slot_list_append PySem.F.type_list_append amt_append (ae_v 4) (aa_cons (ae_call (ad__law_leaf T) (hr.mono (by omega)) (by rfl) T.g__law_leaf T.F__law_leaf.kp T.b__law_leaf (aa_cons (ae_v 0) (aa_cons (ae_v 1) (aa_nil)))) (aa_nil)))))
 (ass_cons (as_set (i := 7) sc__law_body.nd (ae_call (ad__law_expression T 20) (hr.mono (by omega)) (by rfl) T.g__law_expression T.F__law_expression.kp T.b__law_expression (aa_cons (ae_v 0) (aa_cons (ae_v 1) (aa_cons (ae_ix (hu_of hr) (ae_v 1) (ae_str)) (aa_nil))))))
 (ass_cons (as_set (i := 8) sc__law_body.nd (ae_call (ad__law_body T n) hr (by rfl) T.g__law_body T.F__law_body.kp T.b__law_body (aa_cons (ae_v 0) (aa_cons (ae_v 1) (aa_cons (ae_int) (aa_cons (ae_op aop_sub (ae_v 3) (ae_int)) (aa_nil)))))))
 (ass_one (as_if (at_cmp (aop_eq hr.units) (ae_v 6) (ae_int))
 (ass_one (as_ex (ae_mt PySem.F.plainAttrs_list PySem.F.slot_list_append PySem.F.type_list_append amt_append (ae_v 4) (aa_cons (ae_tup (aa_cons (ae_str) (aa_cons (ae_v 7) (aa_cons (ae_v 8) (aa_nil))))) (aa_nil)))))
 (ass_one (as_if (at_cmp (aop_eq hr.units) (ae_v 6) (ae_int))
 (ass_one (as_ex (ae_mt PySem.F.plainAttrs_list PySem.F.slot_list_append PySem.F.type_list_append amt_append (ae_v 4) (aa_cons (ae_tup (aa_cons (ae_str) (aa_cons (ae_v 7) (aa_cons (ae_v 8) (aa_cons (ae_tup (aa_nil)) (aa_nil)))))) (aa_nil)))))
 (ass_one (as_ex (ae_mt PySem.F.plainAttrs_list PySem.F.slot_list_append PySem.F.type_list_append amt_append (ae_v 4) (aa_cons (ae_tup (aa_cons (ae_str) (aa_cons (ae_v 7) (aa_cons (ae_v 8) (aa_cons (ae_call (ad__law_body T n) hr (by rfl) T.g__law_body T.F__law_body.kp T.b__law_body (aa_cons (ae_v 0) (aa_cons (ae_v 1) (aa_cons (ae_int) (aa_cons (ae_op aop_sub (ae_v 3) (ae_int)) (aa_nil)))))) (aa_nil)))))) (aa_nil)))))))))))))))
 (ass_nil))))
 (ass_one (as_ret (ae_callT acall_tuple (by rfl) T.n_tuple PyProof.Rows.boot_tuple (aa_cons (ae_v 4) (aa_nil)))))))
theorem ad__law_count (T : Txt K mg) : ADef P w K mg base 2 T.a__law_count T.d__law_count ["_law_source_here", "_law_bound"] m__law_count :=
 adef T.F__law_count sc__law_count fun cdv A outer s H E hr =>
 ass_cons (as_if (at_cmp (aop_eq hr.units) (ae_call (ad__law_pick T) (hr.mono (by omega)) (by rfl) T.g__law_pick T.F__law_pick.kp T.b__law_pick (aa_cons (ae_v 0) (aa_cons (ae_int) (aa_nil)))) (ae_int))
 (ass_one (as_ret (ae_call (ad__law_pick T) (hr.mono (by omega)) (by rfl) T.g__law_pick T.F__law_pick.kp T.b__law_pick (aa_cons (ae_v 0) (aa_cons (ae_op aop_add (ae_v 1) (ae_int)) (aa_nil))))))
 (ass_nil))
 (ass_one (as_ret (ae_call (ad__law_pick T) (hr.mono (by omega)) (by rfl) T.g__law_pick T.F__law_pick.kp T.b__law_pick (aa_cons (ae_v 0) (aa_cons (ae_int) (aa_nil))))))
theorem ad__law_kind (T : Txt K mg) : ADef P w K mg base 4 T.a__law_kind T.d__law_kind ["_law_source_here", "_law_world", "_law_wide"] m__law_kind :=
 adef T.F__law_kind sc__law_kind fun cdv A outer s H E hr =>
 ass_cons (as_set (i := 3) sc__law_kind.nd (ae_call (ad__law_pick T) (hr.mono (by omega)) (by rfl) T.g__law_pick T.F__law_pick.kp T.b__law_pick (aa_cons (ae_v 0) (aa_cons (ae_int) (aa_nil)))))
 (ass_cons (as_if (at_cmp (aop_eq hr.units) (ae_v 3) (ae_int))
 (ass_one (as_ret (ae_tup (aa_cons (ae_str) (aa_nil)))))
 (ass_nil))
 (ass_cons (as_if (at_cmp (aop_eq hr.units) (ae_v 3) (ae_int))
 (ass_one (as_ret (ae_tup (aa_cons (ae_str) (aa_cons (ae_call (ad__law_word T) (hr.mono (by omega)) (by rfl) T.g__law_word T.F__law_word.kp T.b__law_word (aa_cons (ae_v 0) (aa_cons (ae_v 1) (aa_nil)))) (aa_nil))))))
 (ass_nil))
 (ass_cons (as_set (i := 4) sc__law_kind.nd (ae_call (ad__law_number T) (hr.mono (by omega)) (by rfl) T.g__law_number T.F__law_number.kp T.b__law_number (aa_cons (ae_v 0) (aa_cons (ae_v 1) (aa_nil)))))
 (ass_cons (as_if ((aw_and (at_e (ae_v 2)) (aw_and1 (at_cmp (aop_eq hr.units) (ae_v 3) (ae_int)))).pt)
 (ass_one (as_ret (ae_tup (aa_cons (ae_str) (aa_cons (ae_v 4) (aa_cons (ae_call (ad__law_number T) (hr.mono (by omega)) (by rfl) T.g__law_number T.F__law_number.kp T.b__law_number (aa_cons (ae_v 0) (aa_cons (ae_v 1) (aa_nil)))) (aa_nil)))))))
 (ass_nil))
 (ass_one (as_ret (ae_tup (aa_cons (ae_str) (aa_cons (ae_v 4) (aa_cons (ae_callB (acall_max (by rfl)) (by rfl) T.n_max PyProof.Rows.boot_max (aa_cons (ae_callB (acall_min (by rfl)) (by rfl) T.n_min PyProof.Rows.boot_min (aa_cons (ae_op aop_sub (ae_op aop_add (ae_v 4) (ae_call (ad__law_pick T) (hr.mono (by omega)) (by rfl) T.g__law_pick T.F__law_pick.kp T.b__law_pick (aa_cons (ae_v 0) (aa_cons (ae_int) (aa_nil))))) (ae_int)) (aa_cons (ae_op aop_pow (ae_int) (ae_int)) (aa_nil)))) (aa_cons (ae_un aun_neg (ae_op aop_pow (ae_int) (ae_int))) (aa_nil)))) (aa_nil)))))))))))
theorem ad__law_pairs (T : Txt K mg) : ADef P w K mg base 5 T.a__law_pairs T.d__law_pairs ["_law_source_here", "_law_world", "_law_bound", "_law_wide"] m__law_pairs :=
 adef T.F__law_pairs sc__law_pairs fun cdv A outer s H E hr =>
 ass_cons (as_set (i := 4) sc__law_pairs.nd (ae_lst (aa_nil)))
 (ass_cons (as_for PassesOwn.never (by rfl) (ai_rg1 (by rfl) T.n_range (ae_call (ad__law_count T) (hr.mono (by omega)) (by rfl) T.g__law_count T.F__law_count.kp T.b__law_count (aa_cons (ae_v 0) (aa_cons (ae_v 2) (aa_nil))))) (ag_name sc__law_pairs.nd)
 (ass_one (as_ex (ae_mt PySem.F.plainAttrs_list PySem.F.slot_list_append PySem.F.type_list_append amt_append (ae_v 4) (aa_cons (ae_tup (aa_cons (ae_call (ad__law_word T) (hr.mono (by omega)) (by rfl) T.g__law_word T.F__law_word.kp T.b__law_word (aa_cons (ae_v 0) (aa_cons (ae_v 1) (aa_nil)))) (aa_cons (ae_call (ad__law_kind T) (hr.mono (by omega)) (by rfl) T.g__law_kind T.F__law_kind.kp T.b__law_kind (aa_cons (ae_v 0) (aa_cons (ae_v 1) (aa_cons (ae_cmp aop_lt (ae_v 5) (ae_v 3)) (aa_nil))))) (aa_nil)))) (aa_nil))))))
 (ass_one (as_ret (ae_callT acall_tuple (by rfl) T.n_tuple PyProof.Rows.boot_tuple (aa_cons (ae_v 4) (aa_nil))))))
theorem ad__law_program (T : Txt K mg) : ADef P w K mg base 45 T.a__law_program T.d__law_program ["_law_source_here", "_law_spare"] m__law_program :=
 adef T.F__law_program sc__law_program fun cdv A outer s H E hr =>
 ass_cons (as_set (i := 2) sc__law_program.nd (ae_disp (APs.cons (ae_str) (ae_lst (aa_nil)) (APs.cons (ae_str) (ae_ix (hu_of hr) (ae_lst (aa_cons (ae_int) (aa_cons (ae_int) (aa_nil)))) (ae_v 1)) (APs.cons (ae_str) (ae_ix (hu_of hr) (ae_lst (aa_cons (ae_int) (aa_cons (ae_int) (aa_nil)))) (ae_v 1)) (APs.cons (ae_str) (ae_op aop_sub (ae_int) (ae_v 1)) (APs.cons (ae_str) (ae_op aop_sub (ae_int) (ae_op aop_mul (ae_int) (ae_v 1))) (APs.nil))))))))
 (ass_cons (as_for PassesOwn.never (by rfl) (ai_rg1 (by rfl) T.n_range (ae_op aop_add (ae_int) (ae_call (ad__law_pick T) (hr.mono (by omega)) (by rfl) T.g__law_pick T.F__law_pick.kp T.b__law_pick (aa_cons (ae_v 0) (aa_cons (ae_int) (aa_nil)))))) (ag_name sc__law_program.nd)
 (ass_one (as_asg (ae_op aop_add (ae_ix (hu_of hr) (ae_v 2) (ae_str)) (ae_lst (aa_cons (ae_call (ad__law_name T) (hr.mono (by omega)) (by rfl) T.g__law_name T.F__law_name.kp T.b__law_name (aa_cons (ae_v 0) (aa_cons (ae_v 2) (aa_nil)))) (aa_nil)))) (ag_sub (hu_of hr) (ae_v 2) (ae_str)))))
 (ass_cons (as_set (i := 4) sc__law_program.nd (ae_lst (aa_nil)))
 (ass_cons (as_for PassesOwn.never (by rfl) (ai_rg1 (by rfl) T.n_range (ae_call (ad__law_count T) (hr.mono (by omega)) (by rfl) T.g__law_count T.F__law_count.kp T.b__law_count (aa_cons (ae_v 0) (aa_cons (ae_ix (hu_of hr) (ae_lst (aa_cons (ae_int) (aa_cons (ae_int) (aa_nil)))) (ae_v 1)) (aa_nil))))) (ag_name sc__law_program.nd)
 (ass_one (as_ex (ae_mt PySem.F.plainAttrs_list PySem.F.slot_list_append PySem.F.type_list_append amt_append (ae_v 4) (aa_cons (ae_tup (aa_cons (ae_call (ad__law_word T) (hr.mono (by omega)) (by rfl) T.g__law_word T.F__law_word.kp T.b__law_word (aa_cons (ae_v 0) (aa_cons (ae_v 2) (aa_nil)))) (aa_cons (ae_call (ad__law_pairs T) (hr.mono (by omega)) (by rfl) T.g__law_pairs T.F__law_pairs.kp T.b__law_pairs (aa_cons (ae_v 0) (aa_cons (ae_v 2) (aa_cons (ae_ix (hu_of hr) (ae_lst (aa_cons (ae_int) (aa_cons (ae_int) (aa_nil)))) (ae_v 1)) (aa_cons (ae_int) (aa_nil)))))) (aa_nil)))) (aa_nil))))))
 (ass_cons (as_set (i := 5) sc__law_program.nd (ae_lst (aa_nil)))
 (ass_cons (as_for PassesOwn.never (by rfl) (ai_rg1 (by rfl) T.n_range (ae_call (ad__law_count T) (hr.mono (by omega)) (by rfl) T.g__law_count T.F__law_count.kp T.b__law_count (aa_cons (ae_v 0) (aa_cons (ae_ix (hu_of hr) (ae_lst (aa_cons (ae_int) (aa_cons (ae_int) (aa_nil)))) (ae_v 1)) (aa_nil))))) (ag_name sc__law_program.nd)
 (ass_cons (as_set (i := 6) sc__law_program.nd (ae_op aop_sub (ae_call (ad__law_pick T) (hr.mono (by omega)) (by rfl) T.g__law_pick T.F__law_pick.kp T.b__law_pick (aa_cons (ae_v 0) (aa_cons (ae_ix (hu_of hr) (ae_lst (aa_cons (ae_int) (aa_cons (ae_int) (aa_nil)))) (ae_v 1)) (aa_nil)))) (ae_int)))
 (ass_one (as_ex (ae_mt PySem.F.plainAttrs_list PySem.F.slot_list_append PySem.F.type_list_append amt_append (ae_v 5) (aa_cons (ae_tup (aa_cons (ae_call (ad__law_word T) (hr.mono (by omega)) (by rfl) T.g__law_word T.F__law_word.kp T.b__law_word (aa_cons (ae_v 0) (aa_cons (ae_v 2) (aa_nil)))) (aa_cons (ae_v 6) (aa_cons (ae_call (ad__law_number T) (hr.mono (by omega)) (by rfl) T.g__law_number T.F__law_number.kp T.b__law_number (aa_cons (ae_v 0) (aa_cons (ae_v 2) (aa_nil)))) (aa_cons (ae_call (ad__law_number T) (hr.mono (by omega)) (by rfl) T.g__law_number T.F__law_number.kp T.b__law_number (aa_cons (ae_v 0) (aa_cons (ae_v 2) (aa_nil)))) (aa_nil)))))) (aa_nil)))))))
 (ass_cons (as_set (i := 7) sc__law_program.nd (ae_call (ad__law_pairs T) (hr.mono (by omega)) (by rfl) T.g__law_pairs T.F__law_pairs.kp T.b__law_pairs (aa_cons (ae_v 0) (aa_cons (ae_v 2) (aa_cons (ae_int) (aa_cons (ae_op aop_sub (ae_int) (ae_v 1)) (aa_nil)))))))
 (ass_cons (as_set (i := 8) sc__law_program.nd (ae_lst (aa_nil)))
 (ass_cons (as_for PassesOwn.never (by rfl) (ai_rg1 (by rfl) T.n_range (ae_call (ad__law_one T) (hr.mono (by omega)) (by rfl) T.g__law_one T.F__law_one.kp T.b__law_one (aa_cons (ae_v 0) (aa_cons (ae_lst (aa_cons (ae_int) (aa_cons (ae_int) (aa_cons (ae_int) (aa_cons (ae_int) (aa_cons (ae_int) (aa_cons (ae_int) (aa_cons (ae_call (ad__law_pick T) (hr.mono (by omega)) (by rfl) T.g__law_pick T.F__law_pick.kp T.b__law_pick (aa_cons (ae_v 0) (aa_cons (ae_ix (hu_of hr) (ae_lst (aa_cons (ae_int) (aa_cons (ae_int) (aa_nil)))) (ae_v 1)) (aa_nil)))) (aa_nil))))))))) (aa_nil))))) (ag_name sc__law_program.nd)
 (ass_cons (as_set (i := 9) sc__law_program.nd (ae_call (ad__law_word T) (hr.mono (by omega)) (by rfl) T.g__law_word T.F__law_word.kp T.b__law_word (aa_cons (ae_v 0) (aa_cons (ae_v 2) (aa_nil)))))
 (ass_cons (as_set (i := 10) sc__law_program.nd (ae_call (ad__law_pairs T) (hr.mono (by omega)) (by rfl) T.g__law_pairs T.F__law_pairs.kp T.b__law_pairs (aa_cons (ae_v 0) (aa_cons (ae_v 2) (aa_cons (ae_int) (aa_cons (ae_int) (aa_nil)))))))
 (ass_cons (as_set (i := 11) sc__law_program.nd (ae_non))
 (ass_cons (as_if (at_cmp (aop_eq hr.units) (ae_call (ad__law_pick T) (hr.mono (by omega)) (by rfl) T.g__law_pick T.F__law_pick.kp T.b__law_pick (aa_cons (ae_v 0) (aa_cons (ae_int) (aa_nil)))) (ae_int))
 (ass_one (as_set (i := 11) sc__law_program.nd (ae_call (ad__law_kind T) (hr.mono (by omega)) (by rfl) T.g__law_kind T.F__law_kind.kp T.b__law_kind (aa_cons (ae_v 0) (aa_cons (ae_v 2) (aa_cons (ae_bl) (aa_nil)))))))
 (ass_nil))
 (ass_cons (as_set (i := 12) sc__law_program.nd (ae_call (ad__law_pairs T) (hr.mono (by omega)) (by rfl) T.g__law_pairs T.F__law_pairs.kp T.b__law_pairs (aa_cons (ae_v 0) (aa_cons (ae_v 2) (aa_cons (ae_int) (aa_cons (ae_op aop_sub (ae_int) (ae_v 1)) (aa_nil)))))))
 (ass_cons (as_set (i := 13) sc__law_program.nd (ae_call (ad__law_one T) (hr.mono (by omega)) (by rfl) T.g__law_one T.F__law_one.kp T.b__law_one (aa_cons (ae_v 0) (aa_cons (ae_lst (aa_cons (ae_int) (aa_cons (ae_int) (aa_cons (ae_int) (aa_cons (ae_int) (aa_cons (ae_int) (aa_nil))))))) (aa_nil)))))
 (ass_cons (as_set (i := 14) sc__law_program.nd (ae_call (ad__law_body T 20) (hr.mono (by omega)) (by rfl) T.g__law_body T.F__law_body.kp T.b__law_body (aa_cons (ae_v 0) (aa_cons (ae_v 2) (aa_cons (ae_v 13) (aa_cons (ae_call (ad__law_one T) (hr.mono (by omega)) (by rfl) T.g__law_one T.F__law_one.kp T.b__law_one (aa_cons (ae_v 0) (aa_cons (ae_lst (aa_cons (ae_int) (aa_cons (ae_int) (aa_cons (ae_int) (aa_cons (ae_op aop_sub (ae_int) (ae_op aop_mul (ae_int) (ae_v 1))) (aa_nil)))))) (aa_nil)))) (aa_nil)))))))
 (ass_one (as_ex (ae_mt PySem.F.plainAttrs_list PySem.F.slot_list_append PySem.F.type_list_append amt_append (ae_v 8) (aa_cons (ae_tup (aa_cons (ae_v 9) (aa_cons (ae_v 10) (aa_cons (ae_v 11) (aa_cons (ae_v 12) (aa_cons (ae_v 14) (aa_nil))))))) (aa_nil)))))))))))))
 (ass_one (as_ret (ae_tup (aa_cons (ae_callT acall_tuple (by rfl) T.n_tuple PyProof.Rows.boot_tuple (aa_cons (ae_v 4) (aa_nil))) (aa_cons (ae_callT acall_tuple (by rfl) T.n_tuple PyProof.Rows.boot_tuple (aa_cons (ae_v 5) (aa_nil))) (aa_cons (ae_v 7) (aa_cons (ae_callT acall_tuple (by rfl) T.n_tuple PyProof.Rows.boot_tuple (aa_cons (ae_v 8) (aa_nil))) (aa_nil))))))))))))))))
theorem ad__law_program_lines (T : Txt K mg) : ADef P w K mg base 43 T.a__law_program_lines T.d__law_program_lines ["_law_program_here"] m__law_program_lines :=
 adef T.F__law_program_lines sc__law_program_lines fun cdv A outer s H E hr =>
 ass_cons (as_set (i := 1) sc__law_program_lines.nd (ae_lst (aa_nil)))
 (ass_cons (as_for PassesOwn.never (by rfl) (ai_seq (ae_ix (hu_of hr) (ae_v 0) (ae_int))) (ag_name sc__law_program_lines.nd)
 (ass_cons (as_ex (ae_mt PySem.F.plainAttrs_list PySem.F.slot_list_append PySem.F.type_list_append amt_append (ae_v 1) (aa_cons (ae_op aop_add (ae_str) (ae_ix (hu_of hr) (ae_v 2) (ae_int))) (aa_nil))))
 (ass_cons (as_for PassesOwn.never (by rfl) (ai_seq (ae_ix (hu_of hr) (ae_v 2) (ae_int))) (ag_name sc__law_program_lines.nd)
 (ass_one (as_ex (ae_mt PySem.F.plainAttrs_list PySem.F.slot_list_append PySem.F.type_list_append amt_append (ae_v 1) (aa_cons (ae_op aop_add (ae_op aop_add (ae_op aop_add (ae_str) (ae_ix (hu_of hr) (ae_v 3) (ae_int))) (ae_str)) (ae_call (ad__law_kind_text T) (hr.mono (by omega)) (by rfl) T.g__law_kind_text T.F__law_kind_text.kp T.b__law_kind_text (aa_cons (ae_ix (hu_of hr) (ae_v 3) (ae_int)) (aa_nil)))) (aa_nil))))))
 (ass_one (as_ex (ae_mt PySem.F.plainAttrs_list PySem.F.slot_list_append PySem.F.type_list_append amt_append (ae_v 1) (aa_cons (ae_str) (aa_nil))))))))
 (ass_cons (as_for PassesOwn.never (by rfl) (ai_seq (ae_ix (hu_of hr) (ae_v 0) (ae_int))) (ag_name sc__law_program_lines.nd)
 (ass_one (as_ex (ae_mt PySem.F.plainAttrs_list PySem.F.slot_list_append PySem.F.type_list_append amt_append (ae_v 1) (aa_cons (ae_op aop_add (ae_op aop_add (ae_op aop_add (ae_op aop_add (ae_op aop_add (ae_str) (ae_ix (hu_of hr) (ae_v 4) (ae_int))) (ae_str)) (ae_callT acall_str (by rfl) T.n_str PyProof.Rows.boot_str (aa_cons (ae_ix (hu_of hr) (ae_v 4) (ae_int)) (aa_nil)))) (ae_str)) (ae_call (ad__law_kind_text T) (hr.mono (by omega)) (by rfl) T.g__law_kind_text T.F__law_kind_text.kp T.b__law_kind_text (aa_cons (ae_tup (aa_cons (ae_str) (aa_cons (ae_ix (hu_of hr) (ae_v 4) (ae_int)) (aa_cons (ae_ix (hu_of hr) (ae_v 4) (ae_int)) (aa_nil))))) (aa_nil)))) (aa_nil))))))
 (ass_cons (as_for PassesOwn.never (by rfl) (ai_seq (ae_ix (hu_of hr) (ae_v 0) (ae_int))) (ag_name sc__law_program_lines.nd)
 (ass_one (as_ex (ae_mt PySem.F.plainAttrs_list PySem.F.slot_list_append PySem.F.type_list_append amt_append (ae_v 1) (aa_cons (ae_op aop_add (ae_op aop_add (ae_op aop_add (ae_str) (ae_ix (hu_of hr) (ae_v 5) (ae_int))) (ae_str)) (ae_call (ad__law_kind_text T) (hr.mono (by omega)) (by rfl) T.g__law_kind_text T.F__law_kind_text.kp T.b__law_kind_text (aa_cons (ae_ix (hu_of hr) (ae_v 5) (ae_int)) (aa_nil)))) (aa_nil))))))
 (ass_cons (as_for PassesOwn.never (by rfl) (ai_seq (ae_ix (hu_of hr) (ae_v 0) (ae_int))) (ag_name sc__law_program_lines.nd)
 (ass_one (as_set (i := 1) sc__law_program_lines.nd (ae_op aop_add (ae_v 1) (ae_call (ad__law_function_lines T) (hr.mono (by omega)) (by rfl) T.g__law_function_lines T.F__law_function_lines.kp T.b__law_function_lines (aa_cons (ae_v 6) (aa_nil)))))))
 (ass_one (as_ret (ae_v 1)))))))
theorem ad__law_same (T : Txt K mg) : ∀ n : Nat, ADef P w K mg base (n + 0) T.a__law_same T.d__law_same ["_law_actual", "_law_due"] (m__law_same n)
  | 0 => adef_bad
  | n + 1 => adef_up (adef T.F__law_same sc__law_same fun cdv A outer s H E (hr : Room (n + 0) _) =>
 ass_cons (as_if ((aw_or (at_e (ae_isi (by rfl) T.n_isinstance (by rfl) T.n_tuple PyProof.Rows.boot_tuple (ae_v 1))) (aw_or1 (at_e (ae_isi (by rfl) T.n_isinstance (by rfl) T.n_list PyProof.Rows.boot_list (ae_v 1))))).pt)
 (ass_cons (as_if ((aw_or (at_cmp (aop_ne hr.units) (ae_isi (by rfl) T.n_isinstance (by rfl) T.n_tuple PyProof.Rows.boot_tuple (ae_v 1)) (ae_isi (by rfl) T.n_isinstance (by rfl) T.n_tuple PyProof.Rows.boot_tuple (ae_v 0))) (aw_or1 (at_cmp (aop_ne hr.units) (ae_isi (by rfl) T.n_isinstance (by rfl) T.n_list PyProof.Rows.boot_list (ae_v 1)) (ae_isi (by rfl) T.n_isinstance (by rfl) T.n_list PyProof.Rows.boot_list (ae_v 0))))).pt)
 (ass_one (as_ret (ae_bl)))
 (ass_nil))
 (ass_cons (as_if (at_cmp (aop_ne hr.units) (ae_callB acall_len (by rfl) T.n_len PySem.boot_len (aa_cons (ae_v 0) (aa_nil))) (ae_callB acall_len (by rfl) T.n_len PySem.boot_len (aa_cons (ae_v 1) (aa_nil))))
 (ass_one (as_ret (ae_bl)))
 (ass_nil))
 (ass_cons (as_for PassesOwn.never (by rfl) (ai_rg1 (by rfl) T.n_range (ae_callB acall_len (by rfl) T.n_len PySem.boot_len (aa_cons (ae_v 1) (aa_nil)))) (ag_name sc__law_same.nd)
 (ass_one (as_if (at_not (at_e (ae_call (ad__law_same T n) hr (by rfl) T.g__law_same T.F__law_same.kp T.b__law_same (aa_cons (ae_ix (hu_of hr) (ae_v 0) (ae_v 2)) (aa_cons (ae_ix (hu_of hr) (ae_v 1) (ae_v 2)) (aa_nil))))))
 (ass_one (as_ret (ae_bl)))
 (ass_nil))))
 (ass_one (as_ret (ae_bl))))))
 (ass_nil))
 (ass_cons (as_if (at_cmp aop_is (ae_v 1) (ae_non))
 (ass_one (as_ret (ae_cmp aop_is (ae_v 0) (ae_non))))
 (ass_nil))
 (ass_cons (as_if (at_e (ae_isi (by rfl) T.n_isinstance (by rfl) T.n_bool PyProof.Rows.boot_bool (ae_v 1)))
 (ass_one (as_ret (ae_and (ae_isi (by rfl) T.n_isinstance (by rfl) T.n_bool PyProof.Rows.boot_bool (ae_v 0)) (ae_one (ae_cmp (aop_eq hr.units) (ae_v 0) (ae_v 1))))))
 (ass_nil))
 (ass_cons (as_if (at_e (ae_isi (by rfl) T.n_isinstance (by rfl) T.n_int PyProof.Rows.boot_int (ae_v 1)))
 (ass_one (as_ret (ae_and (ae_isi (by rfl) T.n_isinstance (by rfl) T.n_int PyProof.Rows.boot_int (ae_v 0)) (ae_and (ae_not (ae_isi (by rfl) T.n_isinstance (by rfl) T.n_bool PyProof.Rows.boot_bool (ae_v 0))) (ae_one (ae_cmp (aop_eq hr.units) (ae_v 0) (ae_v 1)))))))
 (ass_nil))
 (ass_one (as_ret (ae_and (ae_isi (by rfl) T.n_isinstance (by rfl) T.n_str PyProof.Rows.boot_str (ae_v 0)) (ae_one (ae_cmp (aop_eq hr.units) (ae_v 0) (ae_v 1))))))))))
theorem ad__law_source (T : Txt K mg) : ADef P w K mg base 1 T.a__law_source T.d__law_source ["_law_cell_here"] m__law_source :=
 adef T.F__law_source sc__law_source fun cdv A outer s H E hr =>
 ass_one (as_ret (ae_lst (aa_cons (ae_v 0) (aa_cons (ae_v 0) (aa_cons (ae_int) (aa_nil))))))
theorem ad_kind_text (T : Txt K mg) : ADef P w K mg base 1 T.a_kind_text T.d_kind_text ["kind"] m_kind_text :=
 adef T.F_kind_text sc_kind_text fun cdv A outer s H E hr =>
 ass_cons (as_if (at_cmp (aop_eq hr.units) (ae_ix (hu_of hr) (ae_v 0) (ae_int)) (ae_str))
 (ass_one (as_ret (ae_str)))
 (ass_nil))
 (ass_cons (as_if (at_cmp (aop_eq hr.units) (ae_ix (hu_of hr) (ae_v 0) (ae_int)) (ae_str))
 (ass_one (as_ret (ae_joined (AJ.cons (ae_fmt (ae_ix (hu_of hr) (ae_v 0) (ae_int))) (AJ.cons (ae_str) (AJ.cons (ae_fmt (ae_ix (hu_of hr) (ae_v 0) (ae_int))) (AJ.nil)))))))
 (ass_nil))
 (ass_one (as_ret (ae_ix (hu_of hr) (ae_v 0) (ae_int)))))
theorem ad_heading_text (T : Txt K mg) : ADef P w K mg base 2 T.a_heading_text T.d_heading_text ["heading"] m_heading_text :=
 adef T.F_heading_text sc_heading_text fun cdv A outer s H E hr =>
 ass_cons (as_set (i := 1) sc_heading_text.nd (ae_ix (hu_of hr) (ae_v 0) (ae_int)))
 (ass_cons (as_if (at_cmp (aop_eq hr.units) (ae_v 1) (ae_str))
 (ass_one (as_ret (ae_joined (AJ.cons (ae_str) (AJ.cons (ae_fmt (ae_ix (hu_of hr) (ae_v 0) (ae_int))) (AJ.nil))))))
 (ass_nil))
 (ass_cons (as_if (at_cmp (aop_eq hr.units) (ae_v 1) (ae_str))
 (ass_one (as_ret (ae_joined (AJ.cons (ae_str) (AJ.cons (ae_fmt (ae_ix (hu_of hr) (ae_v 0) (ae_int))) (AJ.cons (ae_str) (AJ.cons (ae_fmt (ae_ix (hu_of hr) (ae_v 0) (ae_int))) (AJ.cons (ae_str) (AJ.cons (ae_fmt (ae_ix (hu_of hr) (ae_v 0) (ae_int))) (AJ.cons (ae_str) (AJ.cons (ae_fmt (ae_ix (hu_of hr) (ae_v 0) (ae_int))) (AJ.nil))))))))))))
 (ass_nil))
 (ass_cons (as_if (at_cmp (aop_eq hr.units) (ae_v 1) (ae_str))
 (ass_one (as_ret (ae_joined (AJ.cons (ae_fmt (ae_ix (hu_of hr) (ae_v 0) (ae_int))) (AJ.cons (ae_str) (AJ.cons (ae_fmt (ae_call (ad_kind_text T) (hr.mono (by omega)) (by rfl) T.g_kind_text T.F_kind_text.kp T.b_kind_text (aa_cons (ae_ix (hu_of hr) (ae_v 0) (ae_int)) (aa_nil)))) (AJ.nil)))))))
 (ass_nil))
 (ass_cons (as_if ((aw_or (at_cmp (aop_eq hr.units) (ae_v 1) (ae_str)) (aw_or1 (at_cmp (aop_eq hr.units) (ae_v 1) (ae_str)))).pt)
 (ass_one (as_ret (ae_joined (AJ.cons (ae_fmt (ae_v 1)) (AJ.cons (ae_str) (AJ.cons (ae_fmt (ae_ix (hu_of hr) (ae_v 0) (ae_int))) (AJ.cons (ae_str) (AJ.cons (ae_fmt (ae_call (ad_kind_text T) (hr.mono (by omega)) (by rfl) T.g_kind_text T.F_kind_text.kp T.b_kind_text (aa_cons (ae_ix (hu_of hr) (ae_v 0) (ae_int)) (aa_nil)))) (AJ.nil)))))))))
 (ass_nil))
 (ass_cons (as_set (i := 2) sc_heading_text.nd (ae_mt PySem.F.plainAttrs_str PySem.F.slot_str_join PySem.F.type_str_join amt_join (ae_str) (aa_cons (ae_lc [("param", 3)] (by rfl) sc_heading_text.nd (ai_seq (ae_ix (hu_of hr) (ae_v 0) (ae_int))) (blkOk_by (N := n_heading_text) (sc := defScope s_heading_text) (by decide +kernel)) (tgt_name (by decide)) (fun _ _ _ _ _ => pg_name (i := 3) sc_heading_text.nd (by rfl) (by first | exact Or.inl rfl | exact Or.inr rfl)) (fun _ _ _ _ _ => ats_nil) (fun _ _ _ _ _ => ae_joined (AJ.cons (ae_fmt (ae_ix (hu_of hr) (ae_v 3) (ae_int))) (AJ.cons (ae_str) (AJ.cons (ae_fmt (ae_call (ad_kind_text T) (hr.mono (by omega)) (by rfl) T.g_kind_text T.F_kind_text.kp T.b_kind_text (aa_cons (ae_ix (hu_of hr) (ae_v 3) (ae_int)) (aa_nil)))) (AJ.nil)))))) (aa_nil))))
 (ass_cons (as_if (at_cmp aop_is (ae_ix (hu_of hr) (ae_v 0) (ae_int)) (ae_non))
 (ass_one (as_ret (ae_joined (AJ.cons (ae_str) (AJ.cons (ae_fmt (ae_ix (hu_of hr) (ae_v 0) (ae_int))) (AJ.cons (ae_str) (AJ.cons (ae_fmt (ae_v 2)) (AJ.cons (ae_str) (AJ.nil)))))))))
 (ass_nil))
 (ass_one (as_ret (ae_joined (AJ.cons (ae_str) (AJ.cons (ae_fmt (ae_ix (hu_of hr) (ae_v 0) (ae_int))) (AJ.cons (ae_str) (AJ.cons (ae_fmt (ae_v 2)) (AJ.cons (ae_str) (AJ.cons (ae_fmt (ae_call (ad_kind_text T) (hr.mono (by omega)) (by rfl) T.g_kind_text T.F_kind_text.kp T.b_kind_text (aa_cons (ae_ix (hu_of hr) (ae_v 0) (ae_int)) (aa_nil)))) (AJ.nil))))))))))))))))
theorem ad_expression_text (T : Txt K mg) : ∀ n : Nat, ADef P w K mg base (n + 0) T.a_expression_text T.d_expression_text ["expression"] (m_expression_text n)
  | 0 => adef_bad
  | n + 1 => adef_up (adef T.F_expression_text sc_expression_text fun cdv A outer s H E (hr : Room (n + 0) _) =>
 ass_cons (as_set (i := 1) sc_expression_text.nd (ae_ix (hu_of hr) (ae_v 0) (ae_int)))
 (ass_cons (as_if (at_cmp (aop_eq hr.units) (ae_v 1) (ae_str))
 (ass_one (as_ret (ae_callT acall_str (by rfl) T.n_str PyProof.Rows.boot_str (aa_cons (ae_ix (hu_of hr) (ae_v 0) (ae_int)) (aa_nil)))))
 (ass_nil))
 (ass_cons (as_if (at_cmp (aop_eq hr.units) (ae_v 1) (ae_str))
 (ass_one (as_ret (ae_if (at_e (ae_ix (hu_of hr) (ae_v 0) (ae_int))) (ae_str) (ae_str))))
 (ass_nil))
 (ass_cons (as_if (at_cmp (aop_eq hr.units) (ae_v 1) (ae_str))
 (ass_one (as_ret (ae_str)))
 (ass_nil))
 (ass_cons (as_if (at_cmp (aop_eq hr.units) (ae_v 1) (ae_str))
 (ass_one (as_ret (ae_ix (hu_of hr) (ae_v 0) (ae_int))))
 (ass_nil))
 (ass_cons (as_if (at_cmp (aop_eq hr.units) (ae_v 1) (ae_str))
 (ass_one (as_ret (ae_joined (AJ.cons (ae_str) (AJ.cons (ae_fmt (ae_call (ad_expression_text T n) hr (by rfl) T.g_expression_text T.F_expression_text.kp T.b_expression_text (aa_cons (ae_ix (hu_of hr) (ae_v 0) (ae_int)) (aa_nil)))) (AJ.cons (ae_str) (AJ.nil)))))))
 (ass_nil))
 (ass_one (as_ret (ae_joined (AJ.cons (ae_str) (AJ.cons (ae_fmt (ae_call (ad_expression_text T n) hr (by rfl) T.g_expression_text T.F_expression_text.kp T.b_expression_text (aa_cons (ae_ix (hu_of hr) (ae_v 0) (ae_int)) (aa_nil)))) (AJ.cons (ae_str) (AJ.cons (ae_fmt (ae_v 1)) (AJ.cons (ae_str) (AJ.cons (ae_fmt (ae_call (ad_expression_text T n) hr (by rfl) T.g_expression_text T.F_expression_text.kp T.b_expression_text (aa_cons (ae_ix (hu_of hr) (ae_v 0) (ae_int)) (aa_nil)))) (AJ.cons (ae_str) (AJ.nil)))))))))))))))))
theorem ad_call_text (T : Txt K mg) : ADef P w K mg base 21 T.a_call_text T.d_call_text ["statement"] m_call_text :=
 adef T.F_call_text sc_call_text fun cdv A outer s H E hr =>
 ass_cons (as_set (i := 1) sc_call_text.nd (ae_mt PySem.F.plainAttrs_str PySem.F.slot_str_join PySem.F.type_str_join amt_join (ae_str) (aa_cons (ae_lc [("argument", 2)] (by rfl) sc_call_text.nd (ai_seq (ae_ix (hu_of hr) (ae_v 0) (ae_int))) (blkOk_by (N := n_call_text) (sc := defScope s_call_text) (by decide +kernel)) (tgt_name (by decide)) (fun _ _ _ _ _ => pg_name (i := 2) sc_call_text.nd (by rfl) (by first | exact Or.inl rfl | exact Or.inr rfl)) (fun _ _ _ _ _ => ats_nil) (fun _ _ _ _ _ => ae_call (ad_expression_text T 20) (hr.mono (by omega)) (by rfl) T.g_expression_text T.F_expression_text.kp T.b_expression_text (aa_cons (ae_v 2) (aa_nil)))) (aa_nil))))
 (ass_cons (as_if (at_cmp aop_is (ae_ix (hu_of hr) (ae_v 0) (ae_int)) (ae_non))
 (ass_one (as_ret (ae_joined (AJ.cons (ae_fmt (ae_ix (hu_of hr) (ae_v 0) (ae_int))) (AJ.cons (ae_str) (AJ.cons (ae_fmt (ae_v 1)) (AJ.cons (ae_str) (AJ.nil))))))))
 (ass_nil))
 (ass_one (as_ret (ae_joined (AJ.cons (ae_fmt (ae_ix (hu_of hr) (ae_v 0) (ae_int))) (AJ.cons (ae_str) (AJ.cons (ae_fmt (ae_ix (hu_of hr) (ae_v 0) (ae_int))) (AJ.cons (ae_str) (AJ.cons (ae_fmt (ae_v 1)) (AJ.cons (ae_str) (AJ.nil)))))))))))
theorem ad_statement_text (T : Txt K mg) : ADef P w K mg base 22 T.a_statement_text T.d_statement_text ["statement"] m_statement_text :=
 adef T.F_statement_text sc_statement_text fun cdv A outer s H E hr =>
 ass_cons (as_set (i := 1) sc_statement_text.nd (ae_ix (hu_of hr) (ae_v 0) (ae_int)))
 (ass_cons (as_if (at_cmp (aop_eq hr.units) (ae_v 1) (ae_str))
 (ass_one (as_ret (ae_joined (AJ.cons (ae_fmt (ae_ix (hu_of hr) (ae_v 0) (ae_int))) (AJ.cons (ae_str) (AJ.cons (ae_fmt (ae_call (ad_expression_text T 20) (hr.mono (by omega)) (by rfl) T.g_expression_text T.F_expression_text.kp T.b_expression_text (aa_cons (ae_ix (hu_of hr) (ae_v 0) (ae_int)) (aa_nil)))) (AJ.nil)))))))
 (ass_nil))
 (ass_cons (as_if ((aw_or (at_cmp (aop_eq hr.units) (ae_v 1) (ae_str)) (aw_or1 (at_cmp (aop_eq hr.units) (ae_v 1) (ae_str)))).pt)
 (ass_one (as_ret (ae_joined (AJ.cons (ae_fmt (ae_ix (hu_of hr) (ae_v 0) (ae_int))) (AJ.cons (ae_str) (AJ.cons (ae_fmt (ae_v 1)) (AJ.nil)))))))
 (ass_nil))
 (ass_cons (as_if (at_cmp (aop_eq hr.units) (ae_v 1) (ae_str))
 (ass_one (as_ret (ae_joined (AJ.cons (ae_str) (AJ.cons (ae_fmt (ae_ix (hu_of hr) (ae_v 0) (ae_int))) (AJ.nil))))))
 (ass_nil))
 (ass_cons (as_if (at_cmp (aop_eq hr.units) (ae_v 1) (ae_str))
 (ass_one (as_ret (ae_joined (AJ.cons (ae_fmt (ae_ix (hu_of hr) (ae_v 0) (ae_int))) (AJ.cons (ae_str) (AJ.cons (ae_fmt (ae_ix (hu_of hr) (ae_v 0) (ae_int))) (AJ.cons (ae_str) (AJ.cons (ae_fmt (ae_ix (hu_of hr) (ae_v 0) (ae_int))) (AJ.nil)))))))))
 (ass_nil))
 (ass_cons (as_if (at_cmp (aop_eq hr.units) (ae_v 1) (ae_str))
 (ass_one (as_ret (ae_joined (AJ.cons (ae_fmt (ae_ix (hu_of hr) (ae_v 0) (ae_int))) (AJ.cons (ae_str) (AJ.cons (ae_fmt (ae_ix (hu_of hr) (ae_v 0) (ae_int))) (AJ.cons (ae_str) (AJ.cons (ae_fmt (ae_call (ad_expression_text T 20) (hr.mono (by omega)) (by rfl) T.g_expression_text T.F_expression_text.kp T.b_expression_text (aa_cons (ae_ix (hu_of hr) (ae_v 0) (ae_int)) (aa_nil)))) (AJ.nil)))))))))
 (ass_nil))
 (ass_cons (as_if (at_cmp (aop_eq hr.units) (ae_v 1) (ae_str))
 (ass_one (as_ret (ae_joined (AJ.cons (ae_fmt (ae_ix (hu_of hr) (ae_v 0) (ae_int))) (AJ.cons (ae_str) (AJ.cons (ae_fmt (ae_ix (hu_of hr) (ae_v 0) (ae_int))) (AJ.cons (ae_str) (AJ.cons (ae_fmt (ae_call (ad_expression_text T 20) (hr.mono (by omega)) (by rfl) T.g_expression_text T.F_expression_text.kp T.b_expression_text (aa_cons (ae_ix (hu_of hr) (ae_v 0) (ae_int)) (aa_nil)))) (AJ.cons (ae_str) (AJ.nil))))))))))
 (ass_nil))
 (ass_cons (as_if (at_cmp (aop_eq hr.units) (ae_v 1) (ae_str))
 (ass_one (as_ret (ae_joined (AJ.cons (ae_fmt (ae_ix (hu_of hr) (ae_v 0) (ae_int))) (AJ.cons (ae_str) (AJ.cons (ae_fmt (ae_call (ad_expression_text T 20) (hr.mono (by omega)) (by rfl) T.g_expression_text T.F_expression_text.kp T.b_expression_text (aa_cons (ae_ix (hu_of hr) (ae_v 0) (ae_int)) (aa_nil)))) (AJ.cons (ae_str) (AJ.cons (ae_fmt (ae_call (ad_expression_text T 20) (hr.mono (by omega)) (by rfl) T.g_expression_text T.F_expression_text.kp T.b_expression_text (aa_cons (ae_ix (hu_of hr) (ae_v 0) (ae_int)) (aa_nil)))) (AJ.nil)))))))))
 (ass_nil))
 (ass_cons (as_if (at_cmp (aop_eq hr.units) (ae_v 1) (ae_str))
 (ass_one (as_ret (ae_call (ad_call_text T) (hr.mono (by omega)) (by rfl) T.g_call_text T.F_call_text.kp T.b_call_text (aa_cons (ae_v 0) (aa_nil)))))
 (ass_nil))
 (ass_cons (as_if ((aw_or (at_cmp (aop_in (u65 hr)) (ae_v 1) (ae_tup (aa_cons (ae_str) (aa_cons (ae_str) (aa_cons (ae_str) (aa_nil)))))) (aw_or1 ((aw_and (at_cmp (aop_eq hr.units) (ae_v 1) (ae_str)) (aw_and1 (at_cmp aop_is (ae_ix (hu_of hr) (ae_v 0) (ae_int)) (ae_non)))).pt))).pt)
 (ass_one (as_ret (ae_v 1)))
 (ass_nil))
 (ass_one (as_ret (ae_joined (AJ.cons (ae_fmt (ae_v 1)) (AJ.cons (ae_str) (AJ.cons (ae_fmt (ae_call (ad_expression_text T 20) (hr.mono (by omega)) (by rfl) T.g_expression_text T.F_expression_text.kp T.b_expression_text (aa_cons (ae_ix (hu_of hr) (ae_v 0) (ae_int)) (aa_nil)))) (AJ.nil))))))))))))))))
theorem ad_statement_lines (T : Txt K mg) : ∀ n : Nat, ADef P w K mg base (n + 22) T.a_statement_lines T.d_statement_lines ["body", "depth"] (m_statement_lines n)
  | 0 => adef_bad
  | n + 1 => adef_up (adef T.F_statement_lines sc_statement_lines fun cdv A outer s H E (hr : Room (n + 22) _) =>
 ass_cons (as_set (i := 2) sc_statement_lines.nd (ae_op aop_mulS (ae_str) (ae_v 1)))
 (ass_cons (as_set (i := 3) sc_statement_lines.nd (ae_lst (aa_nil)))
 (ass_cons (as_for PassesOwn.never (by rfl) (ai_seq (ae_v 0)) (ag_name sc_statement_lines.nd)
 (ass_cons (as_ex (ae_mt PySem.F.plainAttrs_list PySem.F.slot_list_append PySem.F.type_list_append amt_append (ae_v 3) (aa_cons (ae_op aop_add (ae_v 2) (ae_call (ad_statement_text T) (hr.mono (by omega)) (by rfl) T.g_statement_text T.F_statement_text.kp T.b_statement_text (aa_cons (ae_v 4) (aa_nil)))) (aa_nil))))
 (ass_one (as_if ((aw_or (at_cmp (aop_eq hr.units) (ae_ix (hu_of hr) (ae_v 4) (ae_int)) (ae_str)) (aw_or1 (at_cmp (aop_eq hr.units) (ae_ix (hu_of hr) (ae_v 4) (ae_int)) (ae_str)))).pt)
 (ass_cons (as_ex (ae_mt PySem.F.plainAttrs_list PySem.F.slot_list_extend PySem.F.type_list_extend amt_extend (ae_v 3) (aa_cons (ae_call (ad_statement_lines T n) hr (by rfl) T.g_statement_lines T.F_statement_lines.kp T.b_statement_lines (aa_cons (ae_ix (hu_of hr) (ae_v 4) (ae_int)) (aa_cons (ae_op aop_add (ae_v 1) (ae_int)) (aa_nil)))) (aa_nil))))
 (ass_cons (as_if ((aw_and (at_cmp (aop_eq hr.units) (ae_ix (hu_of hr) (ae_v 4) (ae_int)) (ae_str)) (aw_and1 (at_cmp (aop_neNilT hr.units) (ae_ix (hu_of hr) (ae_v 4) (ae_int)) (ae_tup (aa_nil))))).pt)
 (ass_cons (as_ex (ae_mt PySem.F.plainAttrs_list PySem.F.slot_list_append PySem.F.type_list_append amt_append (ae_v 3) (aa_cons (ae_op aop_add (ae_v 2) (ae_str)) (aa_nil))))
 (ass_one (as_ex (ae_mt PySem.F.plainAttrs_list PySem.F.slot_list_extend PySem.F.type_list_extend amt_extend (ae_v 3) (aa_cons (ae_call (ad_statement_lines T n) hr (by rfl) T.g_statement_lines T.F_statement_lines.kp T.b_statement_lines (aa_cons (ae_ix (hu_of hr) (ae_v 4) (ae_int)) (aa_cons (ae_op aop_add (ae_v 1) (ae_int)) (aa_nil)))) (aa_nil))))))
 (ass_nil))
 (ass_one (as_ex (ae_mt PySem.F.plainAttrs_list PySem.F.slot_list_append PySem.F.type_list_append amt_append (ae_v 3) (aa_cons (ae_op aop_add (ae_v 2) (ae_str)) (aa_nil)))))))
 (ass_nil)))))
 (ass_one (as_ret (ae_v 3))))))
theorem ad_function_lines (T : Txt K mg) : ADef P w K mg base 43 T.a_function_lines T.d_function_lines ["function"] m_function_lines :=
 adef T.F_function_lines sc_function_lines fun cdv A outer s H E hr =>
 ass_cons (as_asg (ae_v 0) (ag_tupA (by rfl) (ags_cons (ag_name sc_function_lines.nd) (ags_cons (ag_name sc_function_lines.nd) (ags_cons (ag_name sc_function_lines.nd) (ags_cons (ag_name sc_function_lines.nd) (ags_cons (ag_name sc_function_lines.nd) (ags_nil))))))))
 (ass_cons (as_set (i := 6) sc_function_lines.nd (ae_lst (aa_cons (ae_call (ad_heading_text T) (hr.mono (by omega)) (by rfl) T.g_heading_text T.F_heading_text.kp T.b_heading_text (aa_cons (ae_tup (aa_cons (ae_str) (aa_cons (ae_v 1) (aa_cons (ae_v 2) (aa_cons (ae_v 3) (aa_nil)))))) (aa_nil))) (aa_nil))))
 (ass_cons (as_for PassesOwn.never (by rfl) (ai_seq (ae_v 4)) (ag_tup (by rfl) (ags_cons (ag_name sc_function_lines.nd) (ags_cons (ag_name sc_function_lines.nd) (ags_nil))))
 (ass_one (as_ex (ae_mt PySem.F.plainAttrs_list PySem.F.slot_list_append PySem.F.type_list_append amt_append (ae_v 6) (aa_cons (ae_op aop_add (ae_str) (ae_call (ad_heading_text T) (hr.mono (by omega)) (by rfl) T.g_heading_text T.F_heading_text.kp T.b_heading_text (aa_cons (ae_tup (aa_cons (ae_str) (aa_cons (ae_v 7) (aa_cons (ae_v 8) (aa_nil))))) (aa_nil)))) (aa_nil))))))
 (ass_cons (as_ex (ae_mt PySem.F.plainAttrs_list PySem.F.slot_list_extend PySem.F.type_list_extend amt_extend (ae_v 6) (aa_cons (ae_call (ad_statement_lines T 20) (hr.mono (by omega)) (by rfl) T.g_statement_lines T.F_statement_lines.kp T.b_statement_lines (aa_cons (ae_v 5) (aa_cons (ae_int) (aa_nil)))) (aa_nil))))
 (ass_cons (as_ex (ae_mt PySem.F.plainAttrs_list PySem.F.slot_list_append PySem.F.type_list_append amt_append (ae_v 6) (aa_cons (ae_str) (aa_nil))))
 (ass_one (as_ret (ae_v 6)))))))
theorem ad_joined (T : Txt K mg) : ADef P w K mg base 1 T.a_joined T.d_joined ["lines"] m_joined :=
 adef T.F_joined sc_joined fun cdv A outer s H E hr =>
 ass_one (as_ret (ae_mt PySem.F.plainAttrs_str PySem.F.slot_str_join PySem.F.type_str_join amt_join (ae_str) (aa_cons (ae_lc [("line", 1)] (by rfl) sc_joined.nd (ai_seq (ae_v 0)) (blkOk_by (N := n_joined) (sc := defScope s_joined) (by decide +kernel)) (tgt_name (by decide)) (fun _ _ _ _ _ => pg_name (i := 1) sc_joined.nd (by rfl) (by first | exact Or.inl rfl | exact Or.inr rfl)) (fun _ _ _ _ _ => ats_nil) (fun _ _ _ _ _ => ae_op aop_add (ae_v 1) (ae_str))) (aa_nil))))
theorem ad_function_text (T : Txt K mg) : ADef P w K mg base 44 T.a_function_text T.d_function_text ["function"] m_function_text :=
 adef T.F_function_text sc_function_text fun cdv A outer s H E hr =>
 ass_one (as_ret (ae_call (ad_joined T) (hr.mono (by omega)) (by rfl) T.g_joined T.F_joined.kp T.b_joined (aa_cons (ae_call (ad_function_lines T) (hr.mono (by omega)) (by rfl) T.g_function_lines T.F_function_lines.kp T.b_function_lines (aa_cons (ae_v 0) (aa_nil))) (aa_nil))))
theorem ad_program_text (T : Txt K mg) : ADef P w K mg base 44 T.a_program_text T.d_program_text ["program"] m_program_text :=
 adef T.F_program_text sc_program_text fun cdv A outer s H E hr =>
 ass_cons (as_set (i := 1) sc_program_text.nd (ae_lst (aa_nil)))
 (ass_cons (as_for PassesOwn.never (by rfl) (ai_seq (ae_ix (hu_of hr) (ae_v 0) (ae_int))) (ag_tup (by rfl) (ags_cons (ag_name sc_program_text.nd) (ags_cons (ag_name sc_program_text.nd) (ags_nil))))
 (ass_cons (as_ex (ae_mt PySem.F.plainAttrs_list PySem.F.slot_list_append PySem.F.type_list_append amt_append (ae_v 1) (aa_cons (ae_call (ad_heading_text T) (hr.mono (by omega)) (by rfl) T.g_heading_text T.F_heading_text.kp T.b_heading_text (aa_cons (ae_tup (aa_cons (ae_str) (aa_cons (ae_v 2) (aa_nil)))) (aa_nil))) (aa_nil))))
 (ass_cons (as_for PassesOwn.never (by rfl) (ai_seq (ae_v 3)) (ag_tup (by rfl) (ags_cons (ag_name sc_program_text.nd) (ags_cons (ag_name sc_program_text.nd) (ags_nil))))
 (ass_one (as_ex (ae_mt PySem.F.plainAttrs_list PySem.F.slot_list_append PySem.F.type_list_append amt_append (ae_v 1) (aa_cons (ae_op aop_add (ae_str) (ae_call (ad_heading_text T) (hr.mono (by omega)) (by rfl) T.g_heading_text T.F_heading_text.kp T.b_heading_text (aa_cons (ae_tup (aa_cons (ae_str) (aa_cons (ae_v 4) (aa_cons (ae_v 5) (aa_nil))))) (aa_nil)))) (aa_nil))))))
 (ass_one (as_ex (ae_mt PySem.F.plainAttrs_list PySem.F.slot_list_append PySem.F.type_list_append amt_append (ae_v 1) (aa_cons (ae_str) (aa_nil))))))))
 (ass_cons (as_for PassesOwn.never (by rfl) (ai_seq (ae_ix (hu_of hr) (ae_v 0) (ae_int))) (ag_tup (by rfl) (ags_cons (ag_name sc_program_text.nd) (ags_cons (ag_name sc_program_text.nd) (ags_cons (ag_name sc_program_text.nd) (ags_cons (ag_name sc_program_text.nd) (ags_nil))))))
 (ass_one (as_ex (ae_mt PySem.F.plainAttrs_list PySem.F.slot_list_append PySem.F.type_list_append amt_append (ae_v 1) (aa_cons (ae_call (ad_heading_text T) (hr.mono (by omega)) (by rfl) T.g_heading_text T.F_heading_text.kp T.b_heading_text (aa_cons (ae_tup (aa_cons (ae_str) (aa_cons (ae_v 2) (aa_cons (ae_v 6) (aa_cons (ae_v 7) (aa_cons (ae_v 8) (aa_nil))))))) (aa_nil))) (aa_nil))))))
 (ass_cons (as_for PassesOwn.never (by rfl) (ai_seq (ae_ix (hu_of hr) (ae_v 0) (ae_int))) (ag_tup (by rfl) (ags_cons (ag_name sc_program_text.nd) (ags_cons (ag_name sc_program_text.nd) (ags_nil))))
 (ass_one (as_ex (ae_mt PySem.F.plainAttrs_list PySem.F.slot_list_append PySem.F.type_list_append amt_append (ae_v 1) (aa_cons (ae_call (ad_heading_text T) (hr.mono (by omega)) (by rfl) T.g_heading_text T.F_heading_text.kp T.b_heading_text (aa_cons (ae_tup (aa_cons (ae_str) (aa_cons (ae_v 2) (aa_cons (ae_v 5) (aa_nil))))) (aa_nil))) (aa_nil))))))
 (ass_cons (as_for PassesOwn.never (by rfl) (ai_seq (ae_ix (hu_of hr) (ae_v 0) (ae_int))) (ag_name sc_program_text.nd)
 (ass_one (as_ex (ae_mt PySem.F.plainAttrs_list PySem.F.slot_list_extend PySem.F.type_list_extend amt_extend (ae_v 1) (aa_cons (ae_call (ad_function_lines T) (hr.mono (by omega)) (by rfl) T.g_function_lines T.F_function_lines.kp T.b_function_lines (aa_cons (ae_v 9) (aa_nil))) (aa_nil))))))
 (ass_one (as_ret (ae_call (ad_joined T) (hr.mono (by omega)) (by rfl) T.g_joined T.F_joined.kp T.b_joined (aa_cons (ae_v 1) (aa_nil)))))))))
theorem ad_law (T : Txt K mg) : ADef P w K mg base 46 T.a_law T.d_law ["_law_script"] m_law :=
 adef T.F_law sc_law fun cdv A outer s H E hr =>
 ass_cons (as_set (i := 1) sc_law.nd (ae_call (ad__law_program T) (hr.mono (by omega)) (by rfl) T.g__law_program T.F__law_program.kp T.b__law_program (aa_cons (ae_call (ad__law_source T) (hr.mono (by omega)) (by rfl) T.g__law_source T.F__law_source.kp T.b__law_source (aa_cons (ae_call (ad__law_cell T) (hr.mono (by omega)) (by rfl) T.g__law_cell T.F__law_cell.kp T.b__law_cell (aa_cons (ae_v 0) (aa_cons (ae_int) (aa_nil)))) (aa_nil))) (aa_cons (ae_int) (aa_nil)))))
 (ass_cons (as_set (i := 2) sc_law.nd (ae_call (ad__law_program T) (hr.mono (by omega)) (by rfl) T.g__law_program T.F__law_program.kp T.b__law_program (aa_cons (ae_call (ad__law_source T) (hr.mono (by omega)) (by rfl) T.g__law_source T.F__law_source.kp T.b__law_source (aa_cons (ae_op aop_add (ae_call (ad__law_cell T) (hr.mono (by omega)) (by rfl) T.g__law_cell T.F__law_cell.kp T.b__law_cell (aa_cons (ae_v 0) (aa_cons (ae_int) (aa_nil)))) (ae_int)) (aa_nil))) (aa_cons (ae_int) (aa_nil)))))
 (ass_cons (as_for PassesOwn.never (by rfl) (ai_seq (ae_lst (aa_cons (ae_v 1) (aa_cons (ae_v 2) (aa_cons (ae_v 1) (aa_cons (ae_tup (aa_cons (ae_tup (aa_nil)) (aa_cons (ae_tup (aa_nil)) (aa_cons (ae_tup (aa_nil)) (aa_cons (ae_tup (aa_nil)) (aa_nil)))))) (aa_nil))))))) (ag_name sc_law.nd)
 (ass_cons (as_if (at_not (at_e (ae_call (ad__law_same T 20) (hr.mono (by omega)) (by rfl) T.g__law_same T.F__law_same.kp T.b__law_same (aa_cons (ae_call (ad_program_text T) (hr.mono (by omega)) (by rfl) T.g_program_text T.F_program_text.kp T.b_program_text (aa_cons (ae_v 3) (aa_nil))) (aa_cons (ae_call (ad__law_joined T) (hr.mono (by omega)) (by rfl) T.g__law_joined T.F__law_joined.kp T.b__law_joined (aa_cons (ae_call (ad__law_program_lines T) (hr.mono (by omega)) (by rfl) T.g__law_program_lines T.F__law_program_lines.kp T.b__law_program_lines (aa_cons (ae_v 3) (aa_nil))) (aa_nil))) (aa_nil))))))
 (ass_one (as_ret (ae_bl)))
 (ass_nil))
 (ass_one (as_for PassesOwn.never (by rfl) (ai_seq (ae_ix (hu_of hr) (ae_v 3) (ae_int))) (ag_name sc_law.nd)
 (ass_one (as_if (at_not (at_e (ae_call (ad__law_same T 20) (hr.mono (by omega)) (by rfl) T.g__law_same T.F__law_same.kp T.b__law_same (aa_cons (ae_call (ad_function_text T) (hr.mono (by omega)) (by rfl) T.g_function_text T.F_function_text.kp T.b_function_text (aa_cons (ae_v 4) (aa_nil))) (aa_cons (ae_call (ad__law_joined T) (hr.mono (by omega)) (by rfl) T.g__law_joined T.F__law_joined.kp T.b__law_joined (aa_cons (ae_call (ad__law_function_lines T) (hr.mono (by omega)) (by rfl) T.g__law_function_lines T.F__law_function_lines.kp T.b__law_function_lines (aa_cons (ae_v 4) (aa_nil))) (aa_nil))) (aa_nil))))))
 (ass_one (as_ret (ae_bl)))
 (ass_nil)))))))
 (ass_one (as_ret (ae_bl)))))
end
end Law

namespace Ab
open PySem PySem.Spec PyProof.Rows L2
open scoped Classical
/-! ## lists of drawn numbers, of drawn points -/
theorem comp_draw {s i n : Nat} {lo : Int} {f : FE} {σ : ASt} {A : AH} {R : D → AH → Prop} (Pv : Int → Prop) (hs : Sr s A)
    (hf : ∀ k C, Dr s A C → DrwS s C (f (σ.set i (some (.int k))) C) fun d => ∃ v, d = .int v ∧ Pv v) (hn : n ≤ 1000)
    (hR : ∀ (q : List Int) C, q.length = n → (∀ v ∈ q, Pv v) → Dr s A C → C[A.length]? = some (.lst (q.map D.int)) → R (.ref A.length) C) :
    Sat (loopC yes (gN i) fYes f A.length σ (rngL lo n) (A ++ [.lst []])) R := by
  have sl := hs.lt
  refine comp_range (fun k acc C => ∃ q : List Int, q.length = k ∧ (∀ v ∈ q, Pv v) ∧ acc = q.map D.int ∧ Dr s A C ∧ C[A.length]? = some (.lst acc)) (fun k acc C hk ⟨q, q1, q2, q3, q4, q5⟩ => ?_) (fun acc C ⟨q, q1, q2, q3, q4, q5⟩ => ?_) (acc := []) ⟨[], rfl, by simp, rfl, Dr.app hs _, at_new⟩
  · show Sat (Res.ok (σ.set i (some (.int (lo + (k : Nat))))) C) _
    rw [sat_ok]
    refine Sat.imp (hf _ C q4) fun d C2 ⟨⟨v, e, hv⟩, dr⟩ => ?_
    subst e
    have q5 := dr.keep _ _ (by omega) q5
    refine ⟨q5, by rw [q3, List.length_map]; omega, q ++ [v], by simp; omega, fun w hw => ?_, by rw [q3]; simp, (q4.trans dr).setN (Nat.le_refl _) hs, at_set (at_lt q5)⟩
    rcases List.mem_append.mp hw with h | h
    · exact q2 w h
    · cases List.mem_singleton.mp h; exact hv
  · subst q3; exact hR q C q1 q2 q4 q5
theorem comp_drawG {α : Type} (c : α → D) {s i n : Nat} {lo : Int} {f : FE} {σ : ASt} {A : AH} {R : D → AH → Prop} (Pv : α → Prop) (hs : Sr s A)
    (hf : ∀ k C, Dr s A C → DrwS s C (f (σ.set i (some (.int k))) C) fun d => ∃ v, d = c v ∧ Pv v) (hn : n ≤ 1000)
    (hR : ∀ (q : List α) C, q.length = n → (∀ v ∈ q, Pv v) → Dr s A C → C[A.length]? = some (.lst (q.map c)) → R (.ref A.length) C) :
    Sat (loopC yes (gN i) fYes f A.length σ (rngL lo n) (A ++ [.lst []])) R := by
  have sl := hs.lt
  refine comp_range (fun k acc C => ∃ q : List α, q.length = k ∧ (∀ v ∈ q, Pv v) ∧ acc = q.map c ∧ Dr s A C ∧ C[A.length]? = some (.lst acc)) (fun k acc C hk ⟨q, q1, q2, q3, q4, q5⟩ => ?_) (fun acc C ⟨q, q1, q2, q3, q4, q5⟩ => ?_) (acc := []) ⟨[], rfl, by simp, rfl, Dr.app hs _, at_new⟩
  · show Sat (Res.ok (σ.set i (some (.int (lo + (k : Nat))))) C) _
    rw [sat_ok]
    refine Sat.imp (hf _ C q4) fun d C2 ⟨⟨v, e, hv⟩, dr⟩ => ?_
    subst e
    have q5 := dr.keep _ _ (by omega) q5
    refine ⟨q5, by rw [q3, List.length_map]; omega, q ++ [v], by simp; omega, fun w hw => ?_, by rw [q3]; simp, (q4.trans dr).setN (Nat.le_refl _) hs, at_set (at_lt q5)⟩
    rcases List.mem_append.mp hw with h | h
    · exact q2 w h
    · cases List.mem_singleton.mp h; exact hv
  · subst q3; exact hR q C q1 q2 q4 q5
theorem pts_draw {s R i j r w N n : Nat} {lo : Int} {f : FE} {σ : ASt} {A0 A : AH} {P : Fl → AH → Prop} {ps0 : List (List Int)} {x0 : Option D} (Pv : Int → Prop) (hs : Sr s A0) (D0 : Dr s A0 A) (nR : A0.length ≤ R)
    (hR : A[R]? = some (.lst (ps0.map fun p => .tup (p.map D.int)))) (hr : ∀ x, (σ.set i x)[r]? = some (some (.ref R))) (hw : ∀ x, (σ.set i x)[w]? = some (some (.int (n : Nat)))) (hn : n ≤ 1000) (hN : ps0.length + N ≤ 100000) (h0 : σ.set i x0 = σ)
    (hf : ∀ x k C, Dr s A0 C → DrwS s C (f ((wipeA (σ.set i x) [j]).set j (some (.int k))) C) fun d => ∃ v, d = .int v ∧ Pv v)
    (hP : ∀ x C (ps : List (List Int)), ps.length = N → (∀ p ∈ ps, p.length = n ∧ ∀ v ∈ p, Pv v) → Dr s A0 C → C[R]? = some (.lst ((ps0 ++ ps).map fun p => .tup (p.map D.int))) → P (.nx (σ.set i x)) C) :
    Sat (loopD yes (gN i) (fEx (fMt "list" appendD (fV r) (fCons (fCall tupOf (fCons (fLc (fRg1 (fV w)) (gN j) (fYes) f [j]) (fNil))) (fNil)))) (rngL lo N) σ A) P := by
  have sl := hs.lt
  refine range_inv (fun k σ' C => ∃ x, σ' = σ.set i x ∧ ∃ ps : List (List Int), ps.length = k ∧ (∀ p ∈ ps, p.length = n ∧ ∀ v ∈ p, Pv v) ∧ Dr s A0 C ∧ C[R]? = some (.lst ((ps0 ++ ps).map fun p => .tup (p.map D.int))))
    (fun k σ' C hk ⟨x, e, ps, p1, p2, dr, hC⟩ => ?_) (fun σ' C ⟨x, e, ps, p1, p2, dr, hC⟩ => ?_) ⟨x0, h0.symm, [], rfl, by simp, D0, by simpa using hR⟩
  · subst e
    show Sat (Res.ok ((σ.set i x).set i (some (.int (lo + (k : Nat))))) C) _
    rw [sat_ok, List.set_set]
    have e1 : ∀ A, fV r (σ.set i (some (.int (lo + (k : Nat))))) A = .ok (.ref R) A := fun A => ev_v (hr _)
    have e2 : ∀ A, fV w (wipeA (σ.set i (some (.int (lo + (k : Nat))))) []) A = .ok (.int (n : Nat)) A := fun A => ev_v (hw _)
    have e3 : ∀ A, fV w (σ.set i (some (.int (lo + (k : Nat))))) A = .ok (.int (n : Nat)) A := fun A => ev_v (hw _)
    simp only [EV, Ab.isNon, args, List.map, List.length_cons, List.length_nil, List.length_singleton, List.replicate, Nat.reduceSub, Nat.reduceAdd, Nat.zero_add, List.cons_append, List.nil_append, List.getElem?_cons_zero, List.getElem?_cons_succ, List.set_cons_zero, List.set_cons_succ, Option.some.injEq, decide_eq_true_eq, Bool.not_eq_true', decide_eq_false_iff_not, ite_true, ite_false, if_true, if_false, reduceIte, Bool.false_eq_true, Bool.not_true, Bool.not_false, Bool.true_eq_false, decide_true, decide_false, Nat.reduceLeDiff, Nat.reduceLT, e1, e3, ty_l hC]
    rw [if_pos (inRg_of (by omega) (by omega)), Int.toNat_natCast]
    refine comp_draw Pv dr.src (fun k' C2 d2 => hf _ k' C2 (dr.trans d2)) hn fun q C2 q1 q2 d2 hq => ?_
    have hC2 := d2.keep R _ (by omega) hC
    simp only [EV, Ab.isNon, args, List.map, List.length_cons, List.length_nil, List.length_singleton, List.replicate, Nat.reduceSub, Nat.reduceAdd, Nat.zero_add, List.cons_append, List.nil_append, List.getElem?_cons_zero, List.getElem?_cons_succ, List.set_cons_zero, List.set_cons_succ, Option.some.injEq, decide_eq_true_eq, Bool.not_eq_true', decide_eq_false_iff_not, ite_true, ite_false, if_true, if_false, reduceIte, Bool.false_eq_true, Bool.not_true, Bool.not_false, Bool.true_eq_false, decide_true, decide_false, Nat.reduceLeDiff, Nat.reduceLT, ev_tup_ofL (rdL_l hq)]
    rw [ev_app hC2 (by simp; omega)]
    simp only [EV, Ab.isNon, args, List.map, List.length_cons, List.length_nil, List.length_singleton, List.replicate, Nat.reduceSub, Nat.reduceAdd, Nat.zero_add, List.cons_append, List.nil_append, List.getElem?_cons_zero, List.getElem?_cons_succ, List.set_cons_zero, List.set_cons_succ, Option.some.injEq, decide_eq_true_eq, Bool.not_eq_true', decide_eq_false_iff_not, ite_true, ite_false, if_true, if_false, reduceIte, Bool.false_eq_true, Bool.not_true, Bool.not_false, Bool.true_eq_false, decide_true, decide_false, Nat.reduceLeDiff, Nat.reduceLT, turn_]
    refine ⟨_, rfl, ps ++ [q], by simp; omega, fun p hp => ?_, (dr.trans d2).setN nR hs, ?_⟩
    · rcases List.mem_append.mp hp with h | h
      · exact p2 p h
      · cases List.mem_singleton.mp h; exact ⟨q1, q2⟩
    · rw [at_set (at_lt hC2), ← List.append_assoc, List.map_append (l₁ := ps0 ++ ps)]; rfl
  · subst e
    exact hP x C ps p1 p2 dr hC
/-- a list's display with a test, of things that need no cell -/
theorem comp_filter {α : Type} {ok : AH → Prop} {g : FG} {t : FT} {f : FE} {s : ASt} {A : AH} {P : D → AH → Prop} {qs : List α} (c F : α → D) (b : α → Bool)
    (hok : ∀ l, ok (A ++ [.lst l])) (hf : ∀ q ∈ qs, ∀ l, Sat (g (c q) s (A ++ [.lst l])) fun s1 A1 => Sat (t s1 A1) fun bb A2 => bb = b q ∧ A2 = A ++ [.lst l] ∧ Sat (f s1 (A ++ [.lst l])) fun y A3 => y = F q ∧ A3 = A ++ [.lst l]) (hl : qs.length ≤ 1000000)
    (hP : P (.ref A.length) (A ++ [.lst ((qs.filter b).map F)])) : Sat (loopC ok g t f A.length s (qs.map c) (A ++ [.lst []])) P := by
  refine comp_inv (fun rest acc B => B = A ++ [.lst acc] ∧ ∃ pre post, qs = pre ++ post ∧ rest = post.map c ∧ acc = (pre.filter b).map F) (fun d rest acc B ⟨hB, pre, post, h1, h0, h2⟩ => ?_) (fun acc B ⟨hB, pre, post, h1, h0, h2⟩ => ?_) _ [] _ ⟨rfl, [], qs, rfl, rfl, rfl⟩
  · subst hB
    cases post with
    | nil => cases h0
    | cons q post =>
      rw [List.map_cons, List.cons.injEq] at h0
      obtain ⟨e1, e2⟩ := h0
      subst e1; subst e2
      refine ⟨hok acc, Sat.imp (hf q (by rw [h1]; simp) acc) fun s1 A1 h3 => Sat.imp h3 fun bb A2 ⟨h4, h5, h6⟩ => ?_⟩
      subst h5; subst h4
      split
      · rename_i hb
        refine Sat.imp h6 fun y A3 ⟨h4, h5⟩ => ?_
        subst h4; subst h5
        refine ⟨at_new, ?_, ?_, pre ++ [q], post, by rw [h1]; simp, rfl, by rw [h2, List.filter_append, List.filter_cons_of_pos hb]; simp⟩
        · have : qs.length = pre.length + (post.length + 1) := by rw [h1]; simp
          have e : acc.length ≤ pre.length := by rw [h2, List.length_map]; exact List.length_filter_le ..
          refine Nat.lt_of_lt_of_le (show acc.length < 1000000 by omega) (by decide)
        · rw [List.set_append_right _ _ (Nat.le_refl _), Nat.sub_self]; rfl
      · rename_i hb
        exact ⟨rfl, pre ++ [q], post, by rw [h1]; simp, rfl, by rw [h2, List.filter_append, List.filter_cons_of_neg hb]; simp⟩
  · subst hB
    cases post with
    | cons q post => cases h0
    | nil =>
      rw [List.append_nil] at h1
      subst h1; subst h2
      exact ⟨hok _, hP⟩
/-- a while by an invariant with a measure -/
theorem while_inv {c : FT} {p : FS} {P : Fl → AH → Prop} (I : Nat → ASt → AH → Prop)
    (turn : ∀ m s A, I m s A → Sat (c s A) fun b A1 => if b = true then Sat (p s A1) (turn_ (fun s2 A2 => ∃ m', m' < m ∧ I m' s2 A2) P) else P (.nx s) A1) :
    ∀ (n m : Nat) (s : ASt) (A : AH), m < n → I m s A → Sat (loopW c p n s A) P
  | 0, m, s, A, h, _ => absurd h (Nat.not_lt_zero _)
  | n + 1, m, s, A, h, hI => by
    rw [loopW, sat_bind]
    refine Sat.imp (turn m s A hI) fun b A1 h1 => ?_
    split
    · rename_i hb
      rw [if_pos hb] at h1
      obtain ⟨fl, A2, e, h2⟩ := h1.eq
      rw [e]
      cases fl with
      | nx s2 => obtain ⟨m', lt, h3⟩ := h2; exact while_inv I turn n m' s2 A2 (by omega) h3
      | ct s2 => obtain ⟨m', lt, h3⟩ := h2; exact while_inv I turn n m' s2 A2 (by omega) h3
      | bk s2 => exact h2
      | rt d => exact h2
    · rename_i hb
      rw [if_neg hb] at h1
      exact h1
/-- a list's display of numbers drawn for things that need no cell -/
theorem comp_drawL {α : Type} (c : α → D) {s : Nat} {ok : AH → Prop} {g : FG} {f : FE} {σ : ASt} {A : AH} {R : D → AH → Prop} {qs : List α} (Pv : α → Int → Prop) (hs : Sr s A) (hok : ∀ C, Dr s A C → ok C)
    (hf : ∀ a ∈ qs, ∀ C, Dr s A C → Sat (g (c a) σ C) fun s1 A1 => A1 = C ∧ DrwS s C (f s1 C) fun d => ∃ v, d = .int v ∧ Pv a v) (hn : qs.length ≤ 1000)
    (hR : ∀ (q : List Int) C, q.length = qs.length → (∀ (i : Nat) a v, qs[i]? = some a → q[i]? = some v → Pv a v) → Dr s A C → C[A.length]? = some (.lst (q.map D.int)) → R (.ref A.length) C) :
    Sat (loopC ok g fYes f A.length σ (qs.map c) (A ++ [.lst []])) R := by
  have sl := hs.lt
  refine comp_inv (fun rest acc C => ∃ pre post q, qs = pre ++ post ∧ rest = post.map c ∧ q.length = pre.length ∧ (∀ (i : Nat) a v, pre[i]? = some a → q[i]? = some v → Pv a v) ∧ acc = q.map D.int ∧ Dr s A C ∧ C[A.length]? = some (.lst acc)) (fun d rest acc C ⟨pre, post, q, e1, e2, e3, e4, e5, dr, hC⟩ => ⟨hok C dr, ?_⟩) (fun acc C ⟨pre, post, q, e1, e2, e3, e4, e5, dr, hC⟩ => ⟨hok C dr, ?_⟩) _ [] _ ⟨[], qs, [], rfl, rfl, rfl, by simp, rfl, Dr.app hs _, at_new⟩
  · cases post with
    | nil => cases e2
    | cons a post =>
      rw [List.map_cons, List.cons.injEq] at e2
      obtain ⟨e2, e6⟩ := e2
      subst e2; subst e6
      have ln := congrArg List.length e1
      rw [List.length_append, List.length_cons] at ln
      refine Sat.imp (hf a (by rw [e1]; simp) C dr) fun s1 A1 ⟨eA, h⟩ => ?_
      subst eA
      show Sat (Res.ok true A1) _
      rw [sat_ok, if_pos rfl]
      refine Sat.imp h fun d C2 ⟨⟨v, e, hv⟩, dr2⟩ => ?_
      subst e
      have hC := dr2.keep _ _ (by omega) hC
      refine ⟨hC, Nat.lt_of_lt_of_le (show acc.length < 1000000 by rw [e5, List.length_map]; omega) (by decide), pre ++ [a], post, q ++ [v], by rw [e1]; simp, rfl, by simp; omega, fun i x w hx hw => ?_, by rw [e5]; simp, (dr.trans dr2).setN (Nat.le_refl _) hs, at_set (at_lt hC)⟩
      by_cases lt : i < pre.length
      · rw [List.getElem?_append_left lt] at hx
        rw [List.getElem?_append_left (by omega)] at hw
        exact e4 i x w hx hw
      · have ei : i = pre.length := by
          have := (List.getElem?_eq_some_iff.mp hx).1
          simp at this; omega
        subst ei
        rw [List.getElem?_append_right (Nat.le_refl _), Nat.sub_self] at hx
        rw [List.getElem?_append_right (by omega), show pre.length - q.length = 0 by omega] at hw
        cases hx; cases hw
        exact hv
  · cases post with
    | cons a post => cases e2
    | nil =>
      rw [List.append_nil] at e1
      subst e1; subst e5
      exact hR q C e3 e4 dr hC
/-! ### displays whose items only add cells; loops that hand back False -/
theorem comp_gr {α : Type} (c F : α → D) {ok : AH → Prop} {g : FG} {f : FE} {σ : ASt} {A : AH} {P : D → AH → Prop} {qs : List α} (hok : ∀ C, Gr A C → ok C)
    (hf : ∀ a ∈ qs, ∀ C, Gr A C → Sat (g (c a) σ C) fun s1 A1 => A1 = C ∧ Sat (f s1 C) fun d A2 => Gr C A2 ∧ d = F a) (hn : qs.length ≤ 100000)
    (hP : ∀ C, Gr A C → C[A.length]? = some (.lst (qs.map F)) → P (.ref A.length) C) : Sat (loopC ok g fYes f A.length σ (qs.map c) (A ++ [.lst []])) P := by
  refine comp_inv (fun rest acc C => ∃ pre post, qs = pre ++ post ∧ rest = post.map c ∧ acc = pre.map F ∧ Gr A C ∧ C[A.length]? = some (.lst acc)) (fun d rest acc C ⟨pre, post, e1, e2, e3, G, hC⟩ => ⟨hok C G, ?_⟩) (fun acc C ⟨pre, post, e1, e2, e3, G, hC⟩ => ⟨hok C G, ?_⟩) _ [] _ ⟨[], qs, rfl, rfl, rfl, .app, at_new⟩
  · cases post with
    | nil => cases e2
    | cons a post =>
      rw [List.map_cons, List.cons.injEq] at e2
      obtain ⟨e4, e5⟩ := e2
      subst e4
      have ln : pre.length + (post.length + 1) = qs.length := by rw [e1]; simp
      refine Sat.imp (hf a (by rw [e1]; simp) C G) fun s1 A1 ⟨e6, h⟩ => ?_
      subst e6
      simp only [ev_yes, sat_ok, if_true]
      refine Sat.imp h fun d A2 ⟨G2, e7⟩ => ?_
      subst e7
      have hC := G2.keep _ _ hC
      exact ⟨hC, by rw [e3, List.length_map]; exact Nat.lt_of_lt_of_le (show pre.length < 1000000 by omega) (by decide), pre ++ [a], post, by rw [e1]; simp, e5, by rw [e3, List.map_append]; rfl, (G.trans G2).set (Nat.le_refl _), at_set (at_lt hC)⟩
  · cases post with
    | cons a post => cases e2
    | nil =>
      rw [List.append_nil] at e1
      subst e1
      exact hP C G (by rw [hC, e3])
/-- a loop that hands back False at the first thing that does not keep a rule -/
theorem loop_all {α : Type} (c : α → D) (b : α → Bool) {ok : AH → Prop} {g : FG} {p : FS} (I : ASt → AH → Prop) (J : AH → Prop) (hok : ∀ σ C, I σ C → ok C) : ∀ (xs : List α),
    (∀ x ∈ xs, ∀ σ C, I σ C → Sat (g (c x) σ C) fun s1 A1 => Sat (p s1 A1) fun fl B => (b x = true ∧ ∃ σ', fl = .nx σ' ∧ I σ' B) ∨ (b x = false ∧ fl = .rt (.bl false) ∧ J B)) →
    ∀ (σ : ASt) (A : AH), I σ A → Sat (loopD ok g p (xs.map c) σ A) fun fl B => (xs.all b = true ∧ ∃ σ', fl = .nx σ' ∧ I σ' B) ∨ (xs.all b = false ∧ fl = .rt (.bl false) ∧ J B)
  | [], _, σ, A, h => by
    rw [List.map_nil, loop_nil (hok σ A h)]
    exact .inl ⟨rfl, σ, rfl, h⟩
  | x :: xs, t, σ, A, h => by
    rw [List.map_cons, loop_cons (hok σ A h)]
    refine (t x (List.mem_cons_self ..) σ A h).imp fun s1 A1 h3 => h3.imp fun fl A2 h4 => ?_
    rcases h4 with ⟨hb, σ', rfl, hI⟩ | ⟨hb, rfl, hJ⟩
    · show Sat _ _
      refine Sat.imp (loop_all c b I J hok xs (fun y hy => t y (List.mem_cons_of_mem _ hy)) σ' A2 hI) fun fl B h => ?_
      rw [List.all_cons, hb, Bool.true_and]
      exact h
    · exact .inr ⟨by rw [List.all_cons, hb]; rfl, rfl, hJ⟩
end Ab

namespace Law
open PySem PySem.Spec PyProof.Rows L2 Ab
open scoped Classical
theorem pick_spec {A : AH} {s : Nat} {n : Int} (hs : Sr s A) (hn : n < 2 ^ 100) : DrwS s A (m__law_pick [.ref s, .int n] A) (Below n) := by
  obtain ⟨c, r, k, h⟩ := hs
  have hs : s < A.length := (List.getElem?_eq_some_iff.mp h).1
  unfold DrwS
  refine sat_body rfl (sat_seq ?_)
  have i2 : ixD (.ref s) (.int 2) A = .ok (.int k) A := ev_ix_r (rdL_l h) rfl
  have t2 : stD (.ref s) (.int 2) (.int (k + 1)) A = .ok () (A.set s (.lst [.int c, .int r, .int (k + 1)])) := ev_st_l (k := 2) (j := 2) h rfl
  simp only [EV, Ab.isNon, args, List.map, List.length_cons, List.length_nil, List.length_singleton, List.replicate, Nat.reduceSub, Nat.reduceAdd, Nat.zero_add, List.cons_append, List.nil_append, List.getElem?_cons_zero, List.getElem?_cons_succ, List.set_cons_zero, List.set_cons_succ, Option.some.injEq, decide_eq_true_eq, Bool.not_eq_true', decide_eq_false_iff_not, ite_true, ite_false, if_true, if_false, reduceIte, Bool.false_eq_true, Bool.not_true, Bool.not_false, Bool.true_eq_false, decide_true, decide_false, Nat.reduceLeDiff, Nat.reduceLT, i2]
  refine sat_seq ?_
  simp only [EV, Ab.isNon, args, List.map, List.length_cons, List.length_nil, List.length_singleton, List.replicate, Nat.reduceSub, Nat.reduceAdd, Nat.zero_add, List.cons_append, List.nil_append, List.getElem?_cons_zero, List.getElem?_cons_succ, List.set_cons_zero, List.set_cons_succ, Option.some.injEq, decide_eq_true_eq, Bool.not_eq_true', decide_eq_false_iff_not, ite_true, ite_false, if_true, if_false, reduceIte, Bool.false_eq_true, Bool.not_true, Bool.not_false, Bool.true_eq_false, decide_true, decide_false, Nat.reduceLeDiff, Nat.reduceLT, t2]
  have h' : (A.set s (.lst [.int c, .int r, .int (k + 1)]))[s]? = some (.lst [.int c, .int r, .int (k + 1)]) := List.getElem?_set_self hs
  have hset : ∀ o, (A.set s (.lst [.int c, .int r, .int (k + 1)])).set s o = A.set s o := fun o => List.set_set ..
  have hA : Dr s A (A.set s (.lst [.int c, .int r, .int (k + 1)])) := .set hs
  generalize A.set s (.lst [.int c, .int r, .int (k + 1)]) = A1 at h' hset hA ⊢
  have i0 : ixD (.ref s) (.int 0) A1 = .ok (.int c) A1 := ev_ix_r (rdL_l h') rfl
  have i1 : ixD (.ref s) (.int 1) A1 = .ok (.int r) A1 := ev_ix_r (rdL_l h') rfl
  have t1 : ∀ v, stD (.ref s) (.int 1) (.int v) A1 = .ok () (A.set s (.lst [.int c, .int v, .int (k + 1)])) := fun v => by rw [ev_st_l (k := 1) (j := 1) h' rfl, hset]; rfl
  have e18 : CPow 10 18 := powOk (by decide) (by decide) (by decide)
  refine sat_seq ?_
  simp only [EV, Ab.isNon, args, List.map, List.length_cons, List.length_nil, List.length_singleton, List.replicate, Nat.reduceSub, Nat.reduceAdd, Nat.zero_add, List.cons_append, List.nil_append, List.getElem?_cons_zero, List.getElem?_cons_succ, List.set_cons_zero, List.set_cons_succ, Option.some.injEq, decide_eq_true_eq, Bool.not_eq_true', decide_eq_false_iff_not, ite_true, ite_false, if_true, if_false, reduceIte, Bool.false_eq_true, Bool.not_true, Bool.not_false, Bool.true_eq_false, decide_true, decide_false, Nat.reduceLeDiff, Nat.reduceLT]
  split
  · exact ⟨⟨0, rfl, by omega, .inr rfl⟩, hA⟩
  rename_i hn2
  have n0 : 0 < n := by omega
  have dn : CDivW r n := divOk n0 (Int.lt_trans hn (by decide))
  have last : ∀ x : Int, CDivW x 9 := fun x => divOk (by decide) (by decide)
  have m1 : ∀ j : Int, mulOk 7919 j := fun j => mulOk_l (by decide) (by decide)
  have m2 : ∀ j : Int, mulOk 31 j := fun j => mulOk_l (by decide) (by decide)
  have m3 : ∀ i j : Int, mulOk (i % 2147483647) j := fun i j => mulOk_l (by omega) (by omega)
  have m4 : ∀ i j : Int, mulOk (i % 2147483629) j := fun i j => mulOk_l (by omega) (by omega)
  have p1 : (0 : Int) < 2147483647 := by decide
  have p2 : (0 : Int) < 2147483629 := by decide
  refine sat_seq (sat_ifS (b := decide (10 ^ 18 ≤ c ∧ 0 < r)) ?_ (fun _ => ?_) (fun _ => ?_))
  · simp only [EV, Ab.isNon, args, List.map, List.length_cons, List.length_nil, List.length_singleton, List.replicate, Nat.reduceSub, Nat.reduceAdd, Nat.zero_add, List.cons_append, List.nil_append, List.getElem?_cons_zero, List.getElem?_cons_succ, List.set_cons_zero, List.set_cons_succ, Option.some.injEq, decide_eq_true_eq, Bool.not_eq_true', decide_eq_false_iff_not, ite_true, ite_false, if_true, if_false, reduceIte, Bool.false_eq_true, Bool.not_true, Bool.not_false, Bool.true_eq_false, decide_true, decide_false, Nat.reduceLeDiff, Nat.reduceLT, i0, i1, e18]
    by_cases h1 : (10 : Int) ^ Int.toNat 18 ≤ c
    · rw [if_pos h1]; congr 1; exact decide_eq_decide.mpr ⟨fun q => ⟨h1, q⟩, fun q => q.2⟩
    · rw [if_neg h1]; congr 1; exact (decide_eq_false fun q => h1 q.1).symm
  · refine sat_seq ?_
    simp only [EV, Ab.isNon, args, List.map, List.length_cons, List.length_nil, List.length_singleton, List.replicate, Nat.reduceSub, Nat.reduceAdd, Nat.zero_add, List.cons_append, List.nil_append, List.getElem?_cons_zero, List.getElem?_cons_succ, List.set_cons_zero, List.set_cons_succ, Option.some.injEq, decide_eq_true_eq, Bool.not_eq_true', decide_eq_false_iff_not, ite_true, ite_false, if_true, if_false, reduceIte, Bool.false_eq_true, Bool.not_true, Bool.not_false, Bool.true_eq_false, decide_true, decide_false, Nat.reduceLeDiff, Nat.reduceLT, i1, n0]
    refine sat_seq ?_
    simp only [EV, Ab.isNon, args, List.map, List.length_cons, List.length_nil, List.length_singleton, List.replicate, Nat.reduceSub, Nat.reduceAdd, Nat.zero_add, List.cons_append, List.nil_append, List.getElem?_cons_zero, List.getElem?_cons_succ, List.set_cons_zero, List.set_cons_succ, Option.some.injEq, decide_eq_true_eq, Bool.not_eq_true', decide_eq_false_iff_not, ite_true, ite_false, if_true, if_false, reduceIte, Bool.false_eq_true, Bool.not_true, Bool.not_false, Bool.true_eq_false, decide_true, decide_false, Nat.reduceLeDiff, Nat.reduceLT, i1, t1, dn]
    exact ⟨⟨_, rfl, Int.emod_nonneg _ (by omega), .inl (Int.emod_lt_of_pos _ n0)⟩, .set hs⟩
  · simp only [EV, Ab.isNon, args, List.map, List.length_cons, List.length_nil, List.length_singleton, List.replicate, Nat.reduceSub, Nat.reduceAdd, Nat.zero_add, List.cons_append, List.nil_append, List.getElem?_cons_zero, List.getElem?_cons_succ, List.set_cons_zero, List.set_cons_succ, Option.some.injEq, decide_eq_true_eq, Bool.not_eq_true', decide_eq_false_iff_not, ite_true, ite_false, if_true, if_false, reduceIte, Bool.false_eq_true, Bool.not_true, Bool.not_false, Bool.true_eq_false, decide_true, decide_false, Nat.reduceLeDiff, Nat.reduceLT]
    refine sat_seq ?_
    simp only [EV, Ab.isNon, args, List.map, List.length_cons, List.length_nil, List.length_singleton, List.replicate, Nat.reduceSub, Nat.reduceAdd, Nat.zero_add, List.cons_append, List.nil_append, List.getElem?_cons_zero, List.getElem?_cons_succ, List.set_cons_zero, List.set_cons_succ, Option.some.injEq, decide_eq_true_eq, Bool.not_eq_true', decide_eq_false_iff_not, ite_true, ite_false, if_true, if_false, reduceIte, Bool.false_eq_true, Bool.not_true, Bool.not_false, Bool.true_eq_false, decide_true, decide_false, Nat.reduceLeDiff, Nat.reduceLT, i0, m1, p1]
    refine sat_seq ?_
    simp only [EV, Ab.isNon, args, List.map, List.length_cons, List.length_nil, List.length_singleton, List.replicate, Nat.reduceSub, Nat.reduceAdd, Nat.zero_add, List.cons_append, List.nil_append, List.getElem?_cons_zero, List.getElem?_cons_succ, List.set_cons_zero, List.set_cons_succ, Option.some.injEq, decide_eq_true_eq, Bool.not_eq_true', decide_eq_false_iff_not, ite_true, ite_false, if_true, if_false, reduceIte, Bool.false_eq_true, Bool.not_true, Bool.not_false, Bool.true_eq_false, decide_true, decide_false, Nat.reduceLeDiff, Nat.reduceLT, m3, p2]
    refine sat_seq ?_
    simp only [EV, Ab.isNon, args, List.map, List.length_cons, List.length_nil, List.length_singleton, List.replicate, Nat.reduceSub, Nat.reduceAdd, Nat.zero_add, List.cons_append, List.nil_append, List.getElem?_cons_zero, List.getElem?_cons_succ, List.set_cons_zero, List.set_cons_succ, Option.some.injEq, decide_eq_true_eq, Bool.not_eq_true', decide_eq_false_iff_not, ite_true, ite_false, if_true, if_false, reduceIte, Bool.false_eq_true, Bool.not_true, Bool.not_false, Bool.true_eq_false, decide_true, decide_false, Nat.reduceLeDiff, Nat.reduceLT, m4, m2, p1]
    simp only [EV, Ab.isNon, args, List.map, List.length_cons, List.length_nil, List.length_singleton, List.replicate, Nat.reduceSub, Nat.reduceAdd, Nat.zero_add, List.cons_append, List.nil_append, List.getElem?_cons_zero, List.getElem?_cons_succ, List.set_cons_zero, List.set_cons_succ, Option.some.injEq, decide_eq_true_eq, Bool.not_eq_true', decide_eq_false_iff_not, ite_true, ite_false, if_true, if_false, reduceIte, Bool.false_eq_true, Bool.not_true, Bool.not_false, Bool.true_eq_false, decide_true, decide_false, Nat.reduceLeDiff, Nat.reduceLT, last, n0]
    exact ⟨⟨_, rfl, Int.emod_nonneg _ (by omega), .inl (Int.emod_lt_of_pos _ n0)⟩, hA⟩
theorem same_refl : ∀ (n : Nat) (d : D) (A : AH), Pl n d → m__law_same (n + 1) [d, d] A = .ok (.bl true) A := by
  intro n
  induction n with
  | zero =>
    intro d A h
    have key : Sat (m__law_same (0 + 1) [d, d] A) fun e A' => e = .bl true ∧ A' = A := by
      refine sat_body rfl (sat_seq ?_)
      cases d with
      | non => simp only [EV, Ab.isNon, args, List.map, List.length_cons, List.length_nil, List.length_singleton, List.replicate, Nat.reduceSub, Nat.reduceAdd, Nat.zero_add, List.cons_append, List.nil_append, List.getElem?_cons_zero, List.getElem?_cons_succ, List.set_cons_zero, List.set_cons_succ, Option.some.injEq, decide_eq_true_eq, Bool.not_eq_true', decide_eq_false_iff_not, ite_true, ite_false, if_true, if_false, reduceIte, Bool.false_eq_true, Bool.not_true, Bool.not_false, Bool.true_eq_false, decide_true, decide_false, Nat.reduceLeDiff, Nat.reduceLT]; refine sat_seq ?_; simp only [EV, Ab.isNon, args, List.map, List.length_cons, List.length_nil, List.length_singleton, List.replicate, Nat.reduceSub, Nat.reduceAdd, Nat.zero_add, List.cons_append, List.nil_append, List.getElem?_cons_zero, List.getElem?_cons_succ, List.set_cons_zero, List.set_cons_succ, Option.some.injEq, decide_eq_true_eq, Bool.not_eq_true', decide_eq_false_iff_not, ite_true, ite_false, if_true, if_false, reduceIte, Bool.false_eq_true, Bool.not_true, Bool.not_false, Bool.true_eq_false, decide_true, decide_false, Nat.reduceLeDiff, Nat.reduceLT]; trivial
      | bl b => simp only [EV, Ab.isNon, args, List.map, List.length_cons, List.length_nil, List.length_singleton, List.replicate, Nat.reduceSub, Nat.reduceAdd, Nat.zero_add, List.cons_append, List.nil_append, List.getElem?_cons_zero, List.getElem?_cons_succ, List.set_cons_zero, List.set_cons_succ, Option.some.injEq, decide_eq_true_eq, Bool.not_eq_true', decide_eq_false_iff_not, ite_true, ite_false, if_true, if_false, reduceIte, Bool.false_eq_true, Bool.not_true, Bool.not_false, Bool.true_eq_false, decide_true, decide_false, Nat.reduceLeDiff, Nat.reduceLT]; refine sat_seq ?_; simp only [EV, Ab.isNon, args, List.map, List.length_cons, List.length_nil, List.length_singleton, List.replicate, Nat.reduceSub, Nat.reduceAdd, Nat.zero_add, List.cons_append, List.nil_append, List.getElem?_cons_zero, List.getElem?_cons_succ, List.set_cons_zero, List.set_cons_succ, Option.some.injEq, decide_eq_true_eq, Bool.not_eq_true', decide_eq_false_iff_not, ite_true, ite_false, if_true, if_false, reduceIte, Bool.false_eq_true, Bool.not_true, Bool.not_false, Bool.true_eq_false, decide_true, decide_false, Nat.reduceLeDiff, Nat.reduceLT]; refine sat_seq ?_; simp only [EV, Ab.isNon, args, List.map, List.length_cons, List.length_nil, List.length_singleton, List.replicate, Nat.reduceSub, Nat.reduceAdd, Nat.zero_add, List.cons_append, List.nil_append, List.getElem?_cons_zero, List.getElem?_cons_succ, List.set_cons_zero, List.set_cons_succ, Option.some.injEq, decide_eq_true_eq, Bool.not_eq_true', decide_eq_false_iff_not, ite_true, ite_false, if_true, if_false, reduceIte, Bool.false_eq_true, Bool.not_true, Bool.not_false, Bool.true_eq_false, decide_true, decide_false, Nat.reduceLeDiff, Nat.reduceLT]; exact ⟨by simp, trivial⟩
      | int b => simp only [EV, Ab.isNon, args, List.map, List.length_cons, List.length_nil, List.length_singleton, List.replicate, Nat.reduceSub, Nat.reduceAdd, Nat.zero_add, List.cons_append, List.nil_append, List.getElem?_cons_zero, List.getElem?_cons_succ, List.set_cons_zero, List.set_cons_succ, Option.some.injEq, decide_eq_true_eq, Bool.not_eq_true', decide_eq_false_iff_not, ite_true, ite_false, if_true, if_false, reduceIte, Bool.false_eq_true, Bool.not_true, Bool.not_false, Bool.true_eq_false, decide_true, decide_false, Nat.reduceLeDiff, Nat.reduceLT]; refine sat_seq ?_; simp only [EV, Ab.isNon, args, List.map, List.length_cons, List.length_nil, List.length_singleton, List.replicate, Nat.reduceSub, Nat.reduceAdd, Nat.zero_add, List.cons_append, List.nil_append, List.getElem?_cons_zero, List.getElem?_cons_succ, List.set_cons_zero, List.set_cons_succ, Option.some.injEq, decide_eq_true_eq, Bool.not_eq_true', decide_eq_false_iff_not, ite_true, ite_false, if_true, if_false, reduceIte, Bool.false_eq_true, Bool.not_true, Bool.not_false, Bool.true_eq_false, decide_true, decide_false, Nat.reduceLeDiff, Nat.reduceLT]; refine sat_seq ?_; simp only [EV, Ab.isNon, args, List.map, List.length_cons, List.length_nil, List.length_singleton, List.replicate, Nat.reduceSub, Nat.reduceAdd, Nat.zero_add, List.cons_append, List.nil_append, List.getElem?_cons_zero, List.getElem?_cons_succ, List.set_cons_zero, List.set_cons_succ, Option.some.injEq, decide_eq_true_eq, Bool.not_eq_true', decide_eq_false_iff_not, ite_true, ite_false, if_true, if_false, reduceIte, Bool.false_eq_true, Bool.not_true, Bool.not_false, Bool.true_eq_false, decide_true, decide_false, Nat.reduceLeDiff, Nat.reduceLT]; refine sat_seq ?_; simp only [EV, Ab.isNon, args, List.map, List.length_cons, List.length_nil, List.length_singleton, List.replicate, Nat.reduceSub, Nat.reduceAdd, Nat.zero_add, List.cons_append, List.nil_append, List.getElem?_cons_zero, List.getElem?_cons_succ, List.set_cons_zero, List.set_cons_succ, Option.some.injEq, decide_eq_true_eq, Bool.not_eq_true', decide_eq_false_iff_not, ite_true, ite_false, if_true, if_false, reduceIte, Bool.false_eq_true, Bool.not_true, Bool.not_false, Bool.true_eq_false, decide_true, decide_false, Nat.reduceLeDiff, Nat.reduceLT]; exact ⟨by simp, trivial⟩
      | str b => simp only [EV, Ab.isNon, args, List.map, List.length_cons, List.length_nil, List.length_singleton, List.replicate, Nat.reduceSub, Nat.reduceAdd, Nat.zero_add, List.cons_append, List.nil_append, List.getElem?_cons_zero, List.getElem?_cons_succ, List.set_cons_zero, List.set_cons_succ, Option.some.injEq, decide_eq_true_eq, Bool.not_eq_true', decide_eq_false_iff_not, ite_true, ite_false, if_true, if_false, reduceIte, Bool.false_eq_true, Bool.not_true, Bool.not_false, Bool.true_eq_false, decide_true, decide_false, Nat.reduceLeDiff, Nat.reduceLT]; refine sat_seq ?_; simp only [EV, Ab.isNon, args, List.map, List.length_cons, List.length_nil, List.length_singleton, List.replicate, Nat.reduceSub, Nat.reduceAdd, Nat.zero_add, List.cons_append, List.nil_append, List.getElem?_cons_zero, List.getElem?_cons_succ, List.set_cons_zero, List.set_cons_succ, Option.some.injEq, decide_eq_true_eq, Bool.not_eq_true', decide_eq_false_iff_not, ite_true, ite_false, if_true, if_false, reduceIte, Bool.false_eq_true, Bool.not_true, Bool.not_false, Bool.true_eq_false, decide_true, decide_false, Nat.reduceLeDiff, Nat.reduceLT]; refine sat_seq ?_; simp only [EV, Ab.isNon, args, List.map, List.length_cons, List.length_nil, List.length_singleton, List.replicate, Nat.reduceSub, Nat.reduceAdd, Nat.zero_add, List.cons_append, List.nil_append, List.getElem?_cons_zero, List.getElem?_cons_succ, List.set_cons_zero, List.set_cons_succ, Option.some.injEq, decide_eq_true_eq, Bool.not_eq_true', decide_eq_false_iff_not, ite_true, ite_false, if_true, if_false, reduceIte, Bool.false_eq_true, Bool.not_true, Bool.not_false, Bool.true_eq_false, decide_true, decide_false, Nat.reduceLeDiff, Nat.reduceLT]; refine sat_seq ?_; simp only [EV, Ab.isNon, args, List.map, List.length_cons, List.length_nil, List.length_singleton, List.replicate, Nat.reduceSub, Nat.reduceAdd, Nat.zero_add, List.cons_append, List.nil_append, List.getElem?_cons_zero, List.getElem?_cons_succ, List.set_cons_zero, List.set_cons_succ, Option.some.injEq, decide_eq_true_eq, Bool.not_eq_true', decide_eq_false_iff_not, ite_true, ite_false, if_true, if_false, reduceIte, Bool.false_eq_true, Bool.not_true, Bool.not_false, Bool.true_eq_false, decide_true, decide_false, Nat.reduceLeDiff, Nat.reduceLT]; exact ⟨by simp, trivial⟩
      | tup ds => exact h.elim
      | ref _ => exact h.elim
    obtain ⟨e, A', h1, rfl, rfl⟩ := key.eq
    exact h1
  | succ n ih =>
    intro d A h
    have key : Sat (m__law_same (n + 1 + 1) [d, d] A) fun e A' => e = .bl true ∧ A' = A := by
      refine sat_body rfl (sat_seq ?_)
      cases d with
      | non => simp only [EV, Ab.isNon, args, List.map, List.length_cons, List.length_nil, List.length_singleton, List.replicate, Nat.reduceSub, Nat.reduceAdd, Nat.zero_add, List.cons_append, List.nil_append, List.getElem?_cons_zero, List.getElem?_cons_succ, List.set_cons_zero, List.set_cons_succ, Option.some.injEq, decide_eq_true_eq, Bool.not_eq_true', decide_eq_false_iff_not, ite_true, ite_false, if_true, if_false, reduceIte, Bool.false_eq_true, Bool.not_true, Bool.not_false, Bool.true_eq_false, decide_true, decide_false, Nat.reduceLeDiff, Nat.reduceLT]; refine sat_seq ?_; simp only [EV, Ab.isNon, args, List.map, List.length_cons, List.length_nil, List.length_singleton, List.replicate, Nat.reduceSub, Nat.reduceAdd, Nat.zero_add, List.cons_append, List.nil_append, List.getElem?_cons_zero, List.getElem?_cons_succ, List.set_cons_zero, List.set_cons_succ, Option.some.injEq, decide_eq_true_eq, Bool.not_eq_true', decide_eq_false_iff_not, ite_true, ite_false, if_true, if_false, reduceIte, Bool.false_eq_true, Bool.not_true, Bool.not_false, Bool.true_eq_false, decide_true, decide_false, Nat.reduceLeDiff, Nat.reduceLT]; trivial
      | bl b => simp only [EV, Ab.isNon, args, List.map, List.length_cons, List.length_nil, List.length_singleton, List.replicate, Nat.reduceSub, Nat.reduceAdd, Nat.zero_add, List.cons_append, List.nil_append, List.getElem?_cons_zero, List.getElem?_cons_succ, List.set_cons_zero, List.set_cons_succ, Option.some.injEq, decide_eq_true_eq, Bool.not_eq_true', decide_eq_false_iff_not, ite_true, ite_false, if_true, if_false, reduceIte, Bool.false_eq_true, Bool.not_true, Bool.not_false, Bool.true_eq_false, decide_true, decide_false, Nat.reduceLeDiff, Nat.reduceLT]; refine sat_seq ?_; simp only [EV, Ab.isNon, args, List.map, List.length_cons, List.length_nil, List.length_singleton, List.replicate, Nat.reduceSub, Nat.reduceAdd, Nat.zero_add, List.cons_append, List.nil_append, List.getElem?_cons_zero, List.getElem?_cons_succ, List.set_cons_zero, List.set_cons_succ, Option.some.injEq, decide_eq_true_eq, Bool.not_eq_true', decide_eq_false_iff_not, ite_true, ite_false, if_true, if_false, reduceIte, Bool.false_eq_true, Bool.not_true, Bool.not_false, Bool.true_eq_false, decide_true, decide_false, Nat.reduceLeDiff, Nat.reduceLT]; refine sat_seq ?_; simp only [EV, Ab.isNon, args, List.map, List.length_cons, List.length_nil, List.length_singleton, List.replicate, Nat.reduceSub, Nat.reduceAdd, Nat.zero_add, List.cons_append, List.nil_append, List.getElem?_cons_zero, List.getElem?_cons_succ, List.set_cons_zero, List.set_cons_succ, Option.some.injEq, decide_eq_true_eq, Bool.not_eq_true', decide_eq_false_iff_not, ite_true, ite_false, if_true, if_false, reduceIte, Bool.false_eq_true, Bool.not_true, Bool.not_false, Bool.true_eq_false, decide_true, decide_false, Nat.reduceLeDiff, Nat.reduceLT]; exact ⟨by simp, trivial⟩
      | int b => simp only [EV, Ab.isNon, args, List.map, List.length_cons, List.length_nil, List.length_singleton, List.replicate, Nat.reduceSub, Nat.reduceAdd, Nat.zero_add, List.cons_append, List.nil_append, List.getElem?_cons_zero, List.getElem?_cons_succ, List.set_cons_zero, List.set_cons_succ, Option.some.injEq, decide_eq_true_eq, Bool.not_eq_true', decide_eq_false_iff_not, ite_true, ite_false, if_true, if_false, reduceIte, Bool.false_eq_true, Bool.not_true, Bool.not_false, Bool.true_eq_false, decide_true, decide_false, Nat.reduceLeDiff, Nat.reduceLT]; refine sat_seq ?_; simp only [EV, Ab.isNon, args, List.map, List.length_cons, List.length_nil, List.length_singleton, List.replicate, Nat.reduceSub, Nat.reduceAdd, Nat.zero_add, List.cons_append, List.nil_append, List.getElem?_cons_zero, List.getElem?_cons_succ, List.set_cons_zero, List.set_cons_succ, Option.some.injEq, decide_eq_true_eq, Bool.not_eq_true', decide_eq_false_iff_not, ite_true, ite_false, if_true, if_false, reduceIte, Bool.false_eq_true, Bool.not_true, Bool.not_false, Bool.true_eq_false, decide_true, decide_false, Nat.reduceLeDiff, Nat.reduceLT]; refine sat_seq ?_; simp only [EV, Ab.isNon, args, List.map, List.length_cons, List.length_nil, List.length_singleton, List.replicate, Nat.reduceSub, Nat.reduceAdd, Nat.zero_add, List.cons_append, List.nil_append, List.getElem?_cons_zero, List.getElem?_cons_succ, List.set_cons_zero, List.set_cons_succ, Option.some.injEq, decide_eq_true_eq, Bool.not_eq_true', decide_eq_false_iff_not, ite_true, ite_false, if_true, if_false, reduceIte, Bool.false_eq_true, Bool.not_true, Bool.not_false, Bool.true_eq_false, decide_true, decide_false, Nat.reduceLeDiff, Nat.reduceLT]; refine sat_seq ?_; simp only [EV, Ab.isNon, args, List.map, List.length_cons, List.length_nil, List.length_singleton, List.replicate, Nat.reduceSub, Nat.reduceAdd, Nat.zero_add, List.cons_append, List.nil_append, List.getElem?_cons_zero, List.getElem?_cons_succ, List.set_cons_zero, List.set_cons_succ, Option.some.injEq, decide_eq_true_eq, Bool.not_eq_true', decide_eq_false_iff_not, ite_true, ite_false, if_true, if_false, reduceIte, Bool.false_eq_true, Bool.not_true, Bool.not_false, Bool.true_eq_false, decide_true, decide_false, Nat.reduceLeDiff, Nat.reduceLT]; exact ⟨by simp, trivial⟩
      | str b => simp only [EV, Ab.isNon, args, List.map, List.length_cons, List.length_nil, List.length_singleton, List.replicate, Nat.reduceSub, Nat.reduceAdd, Nat.zero_add, List.cons_append, List.nil_append, List.getElem?_cons_zero, List.getElem?_cons_succ, List.set_cons_zero, List.set_cons_succ, Option.some.injEq, decide_eq_true_eq, Bool.not_eq_true', decide_eq_false_iff_not, ite_true, ite_false, if_true, if_false, reduceIte, Bool.false_eq_true, Bool.not_true, Bool.not_false, Bool.true_eq_false, decide_true, decide_false, Nat.reduceLeDiff, Nat.reduceLT]; refine sat_seq ?_; simp only [EV, Ab.isNon, args, List.map, List.length_cons, List.length_nil, List.length_singleton, List.replicate, Nat.reduceSub, Nat.reduceAdd, Nat.zero_add, List.cons_append, List.nil_append, List.getElem?_cons_zero, List.getElem?_cons_succ, List.set_cons_zero, List.set_cons_succ, Option.some.injEq, decide_eq_true_eq, Bool.not_eq_true', decide_eq_false_iff_not, ite_true, ite_false, if_true, if_false, reduceIte, Bool.false_eq_true, Bool.not_true, Bool.not_false, Bool.true_eq_false, decide_true, decide_false, Nat.reduceLeDiff, Nat.reduceLT]; refine sat_seq ?_; simp only [EV, Ab.isNon, args, List.map, List.length_cons, List.length_nil, List.length_singleton, List.replicate, Nat.reduceSub, Nat.reduceAdd, Nat.zero_add, List.cons_append, List.nil_append, List.getElem?_cons_zero, List.getElem?_cons_succ, List.set_cons_zero, List.set_cons_succ, Option.some.injEq, decide_eq_true_eq, Bool.not_eq_true', decide_eq_false_iff_not, ite_true, ite_false, if_true, if_false, reduceIte, Bool.false_eq_true, Bool.not_true, Bool.not_false, Bool.true_eq_false, decide_true, decide_false, Nat.reduceLeDiff, Nat.reduceLT]; refine sat_seq ?_; simp only [EV, Ab.isNon, args, List.map, List.length_cons, List.length_nil, List.length_singleton, List.replicate, Nat.reduceSub, Nat.reduceAdd, Nat.zero_add, List.cons_append, List.nil_append, List.getElem?_cons_zero, List.getElem?_cons_succ, List.set_cons_zero, List.set_cons_succ, Option.some.injEq, decide_eq_true_eq, Bool.not_eq_true', decide_eq_false_iff_not, ite_true, ite_false, if_true, if_false, reduceIte, Bool.false_eq_true, Bool.not_true, Bool.not_false, Bool.true_eq_false, decide_true, decide_false, Nat.reduceLeDiff, Nat.reduceLT]; exact ⟨by simp, trivial⟩
      | ref _ => exact h.elim
      | tup ds =>
        obtain ⟨hl, hd⟩ := h
        simp only [EV, Ab.isNon, args, List.map, List.length_cons, List.length_nil, List.length_singleton, List.replicate, Nat.reduceSub, Nat.reduceAdd, Nat.zero_add, List.cons_append, List.nil_append, List.getElem?_cons_zero, List.getElem?_cons_succ, List.set_cons_zero, List.set_cons_succ, Option.some.injEq, decide_eq_true_eq, Bool.not_eq_true', decide_eq_false_iff_not, ite_true, ite_false, if_true, if_false, reduceIte, Bool.false_eq_true, Bool.not_true, Bool.not_false, Bool.true_eq_false, decide_true, decide_false, Nat.reduceLeDiff, Nat.reduceLT]
        refine sat_seq (sat_seq ?_)
        simp only [EV, Ab.isNon, args, List.map, List.length_cons, List.length_nil, List.length_singleton, List.replicate, Nat.reduceSub, Nat.reduceAdd, Nat.zero_add, List.cons_append, List.nil_append, List.getElem?_cons_zero, List.getElem?_cons_succ, List.set_cons_zero, List.set_cons_succ, Option.some.injEq, decide_eq_true_eq, Bool.not_eq_true', decide_eq_false_iff_not, ite_true, ite_false, if_true, if_false, reduceIte, Bool.false_eq_true, Bool.not_true, Bool.not_false, Bool.true_eq_false, decide_true, decide_false, Nat.reduceLeDiff, Nat.reduceLT]
        refine sat_seq ?_
        simp only [EV, Ab.isNon, args, List.map, List.length_cons, List.length_nil, List.length_singleton, List.replicate, Nat.reduceSub, Nat.reduceAdd, Nat.zero_add, List.cons_append, List.nil_append, List.getElem?_cons_zero, List.getElem?_cons_succ, List.set_cons_zero, List.set_cons_succ, Option.some.injEq, decide_eq_true_eq, Bool.not_eq_true', decide_eq_false_iff_not, ite_true, ite_false, if_true, if_false, reduceIte, Bool.false_eq_true, Bool.not_true, Bool.not_false, Bool.true_eq_false, decide_true, decide_false, Nat.reduceLeDiff, Nat.reduceLT]
        have hz : InRg (ds.length : Int) := inRg_nat (by omega)
        rw [if_pos hz, Int.toNat_natCast]
        refine range_inv (fun k s A' => A' = A ∧ ∃ y, s = [some (.tup ds), some (.tup ds), y]) (fun k s A' hk ⟨hA, y, hs⟩ => ?_) (fun s A' ⟨hA, y, hs⟩ => ?_) ⟨rfl, none, rfl⟩
        · subst hA; subst hs
          have g : ds[k]? = some ds[k] := List.getElem?_eq_getElem hk
          have ix : ixD (.tup ds) (.int (0 + (k : Nat))) A' = .ok ds[k] A' := ev_ix_t (by rw [atI_pos (by omega)]; rw [show (0 + (k : Nat) : Int).toNat = k by omega]; exact g)
          have rc : m__law_same (n + 1) [ds[k], ds[k]] A' = .ok (.bl true) A' := ih ds[k] A' (hd _ (List.getElem_mem hk))
          simp only [EV, Ab.isNon, args, List.map, List.length_cons, List.length_nil, List.length_singleton, List.replicate, Nat.reduceSub, Nat.reduceAdd, Nat.zero_add, List.cons_append, List.nil_append, List.getElem?_cons_zero, List.getElem?_cons_succ, List.set_cons_zero, List.set_cons_succ, Option.some.injEq, decide_eq_true_eq, Bool.not_eq_true', decide_eq_false_iff_not, ite_true, ite_false, if_true, if_false, reduceIte, Bool.false_eq_true, Bool.not_true, Bool.not_false, Bool.true_eq_false, decide_true, decide_false, Nat.reduceLeDiff, Nat.reduceLT, ix, rc, turn_]
          exact ⟨trivial, _, rfl⟩
        · subst hA; subst hs
          simp only [EV, Ab.isNon, args, List.map, List.length_cons, List.length_nil, List.length_singleton, List.replicate, Nat.reduceSub, Nat.reduceAdd, Nat.zero_add, List.cons_append, List.nil_append, List.getElem?_cons_zero, List.getElem?_cons_succ, List.set_cons_zero, List.set_cons_succ, Option.some.injEq, decide_eq_true_eq, Bool.not_eq_true', decide_eq_false_iff_not, ite_true, ite_false, if_true, if_false, reduceIte, Bool.false_eq_true, Bool.not_true, Bool.not_false, Bool.true_eq_false, decide_true, decide_false, Nat.reduceLeDiff, Nat.reduceLT, thn_]
          first | trivial | exact ⟨trivial, trivial⟩
    obtain ⟨e, A', h1, rfl, rfl⟩ := key.eq
    exact h1

/-! ### the helpers that draw -/
theorem cell_spec {A : AH} {ns : List Int} {k : Nat} (h : A[0]? = some (.frz (ns.map D.int))) (hl : ns.length ≤ 63) : ∃ v, m__law_cell [.ref 0, .int (k : Int)] A = .ok (.int v) A := by
  have key : Sat (m__law_cell [.ref 0, .int (k : Int)] A) fun d A' => (∃ v, d = .int v) ∧ A' = A := by
    refine sat_body rfl (sat_seq ?_)
    have ln : lenD [.ref 0] A = .ok (.int ((ns.map D.int).length : Nat)) A := ev_len_r (rdL_f h)
    simp only [EV, Ab.isNon, args, List.map, List.length_cons, List.length_nil, List.length_singleton, List.replicate, Nat.reduceSub, Nat.reduceAdd, Nat.zero_add, List.cons_append, List.nil_append, List.getElem?_cons_zero, List.getElem?_cons_succ, List.set_cons_zero, List.set_cons_succ, Option.some.injEq, decide_eq_true_eq, Bool.not_eq_true', decide_eq_false_iff_not, ite_true, ite_false, if_true, if_false, reduceIte, Bool.false_eq_true, Bool.not_true, Bool.not_false, Bool.true_eq_false, decide_true, decide_false, Nat.reduceLeDiff, Nat.reduceLT, ln]
    split
    · rename_i hk
      rw [List.length_map] at hk
      have hk' : k < ns.length := by omega
      have ix : ixD (.ref 0) (.int (k : Int)) A = .ok (.int ns[k]) A := ev_ix_r (rdL_f h) (by rw [atI_pos (by omega), Int.toNat_natCast, List.getElem?_map, List.getElem?_eq_getElem hk']; rfl)
      rw [ix]
      exact ⟨⟨_, rfl⟩, rfl⟩
    · exact ⟨⟨_, rfl⟩, trivial⟩
  obtain ⟨d, A', e, ⟨v, rfl⟩, rfl⟩ := key.eq
  exact ⟨v, e⟩
theorem source_spec {A : AH} {c : Int} : m__law_source [.int c] A = .ok (.ref A.length) (A ++ [.lst [.int c, .int c, .int 0]]) := by
  have key : Sat (m__law_source [.int c] A) fun d A' => d = .ref A.length ∧ A' = A ++ [.lst [.int c, .int c, .int 0]] := by
    refine sat_body rfl ?_
    unfold p__law_source
    simp only [EV, Ab.isNon, args, List.map, List.length_cons, List.length_nil, List.length_singleton, List.replicate, Nat.reduceSub, Nat.reduceAdd, Nat.zero_add, List.cons_append, List.nil_append, List.getElem?_cons_zero, List.getElem?_cons_succ, List.set_cons_zero, List.set_cons_succ, Option.some.injEq, decide_eq_true_eq, Bool.not_eq_true', decide_eq_false_iff_not, ite_true, ite_false, if_true, if_false, reduceIte, Bool.false_eq_true, Bool.not_true, Bool.not_false, Bool.true_eq_false, decide_true, decide_false, Nat.reduceLeDiff, Nat.reduceLT]
    trivial
  obtain ⟨d, A', e, rfl, rfl⟩ := key.eq
  exact e
theorem pick_pos {A : AH} {s : Nat} {n : Int} (hs : Sr s A) (h0 : 0 < n) (hn : n < 2 ^ 100) : DrwS s A (m__law_pick [.ref s, .int n] A) fun d => ∃ v, d = .int v ∧ 0 ≤ v ∧ v < n :=
  (pick_spec hs hn).imp fun d ⟨v, e, h1, h2⟩ => ⟨v, e, h1, by omega⟩
/-- a proof is cut at a statement -/
theorem sat_mid {p r : FS} {σ : ASt} {A : AH} {P : Fl → AH → Prop} (I : ASt → AH → Prop) (h : Sat (p σ A) fun fl B => ∃ σ', fl = .nx σ' ∧ I σ' B) (k : ∀ σ' B, I σ' B → Sat (r σ' B) P) : Sat (fSeq p r σ A) P :=
  sat_seq (Sat.imp h fun fl B ⟨σ', e, hi⟩ => by subst e; exact k _ _ hi)
/-- a proof is cut at a statement that may return -/
theorem sat_early {p r : FS} {σ : ASt} {A : AH} {P : Fl → AH → Prop} (I : ASt → AH → Prop) (R : D → AH → Prop) (h : Sat (p σ A) fun fl B => (∃ d, fl = .rt d ∧ R d B) ∨ ∃ σ', fl = .nx σ' ∧ I σ' B) (hr : ∀ d B, R d B → P (.rt d) B) (k : ∀ σ' B, I σ' B → Sat (r σ' B) P) : Sat (fSeq p r σ A) P :=
  sat_seq (Sat.imp h fun fl B h => by
    rcases h with ⟨d, e, h⟩ | ⟨σ', e, h⟩
    · subst e; exact hr d B h
    · subst e; exact k σ' B h)
end Law

namespace Law
open PySem PySem.Spec PyProof.Rows L2 Ab
open scoped Classical
/-! ### dicts, texts in lists -/
theorem ixa {d : D} {ds : List D} {A : AH} : ixD (.tup (d :: ds)) (.int 0) A = .ok d A := ev_ix_t (by rw [atI_pos (by decide)]; rfl)
theorem ixb {d e : D} {ds : List D} {A : AH} : ixD (.tup (d :: e :: ds)) (.int 1) A = .ok e A := ev_ix_t (by rw [atI_pos (by decide)]; rfl)
theorem ixc {d e f : D} {ds : List D} {A : AH} : ixD (.tup (d :: e :: f :: ds)) (.int 2) A = .ok f A := ev_ix_t (by rw [atI_pos (by decide)]; rfl)
theorem ixk {w : Nat} {x : Str} {v : D} {kvs : List (Key × D)} {A : AH} (h : A[w]? = some (.dic kvs)) (g : getK kvs (.inr x) = some v) : ixD (.ref w) (.str x) A = .ok v A := by
  show (match rdK A (.ref w) with
    | some kvs => (match getK kvs (.inr x) with | some v => Res.ok v A | none => .bad)
    | none => .bad) = _
  rw [show rdK A (.ref w) = some kvs by simp only [rdK, h]]
  simp only [g]
theorem eq_sc {d e : D} {b : Bool} {A : AH} (h : scalD d e = some b) : eqD d e A = .ok (.bl b) A := by
  unfold eqD eqB; rw [h]; rfl
theorem ne_sc {d e : D} {b : Bool} {A : AH} (h : scalD d e = some b) : neD d e A = .ok (.bl (!b)) A := by
  unfold neD eqB; rw [h]; rfl
theorem toVs_str : ∀ xs : List Str, toVs (xs.map D.str) = some (xs.map V.str)
  | [] => rfl
  | x :: xs => by simp only [List.map_cons, toVs, toV, toVs_str xs]
theorem in_lst {r : Nat} {xs : List Str} {x : Str} {A : AH} (h : A[r]? = some (.lst (xs.map D.str))) : inD (.str x) (.ref r) A = .ok (.bl (xs.any fun y => y == x)) A := by
  have k : rdK A (.ref r) = none := by simp only [rdK, h]
  have s : rdS A (.ref r) = some (xs.map D.str) := rdL_l h
  have e : inB (.str x) (.ref r) A = some (inV (.str x) (xs.map V.str)) := by simp only [inB, k, s, toVs_str, toV]
  have z : inV (.str x) (xs.map V.str) = xs.any fun y => y == x := by unfold inV; rw [List.any_map]; rfl
  unfold inD; rw [e, z]; rfl
theorem first_str {x : Str} : ∀ {xs : List Str} {j : Nat} {k : Nat}, xs[j]? = some x → xs.Nodup → firstV (.str x) (xs.map V.str) k = some (k + j)
  | [], j, k, h, _ => by cases h
  | y :: xs, 0, k, h, _ => by
    cases h
    show (if eqV (.str x) (.str x) = true then some k else _) = _
    rw [if_pos (by show (x == x) = true; simp)]; rfl
  | y :: xs, j + 1, k, h, nd => by
    have h : xs[j]? = some x := h
    have ne : ¬ y = x := fun e => (List.nodup_cons.mp nd).1 (by rw [e]; exact List.mem_of_getElem? h)
    show (if eqV (.str y) (.str x) = true then some k else firstV (.str x) (xs.map V.str) (k + 1)) = _
    rw [if_neg (by show ¬ (y == x) = true; simpa using ne), first_str h (List.nodup_cons.mp nd).2]
    congr 1; omega
theorem index_lst {r j : Nat} {xs : List Str} {x : Str} {A : AH} (h : A[r]? = some (.lst (xs.map D.str))) (hx : xs[j]? = some x) (nd : xs.Nodup) : indexD (.ref r) [.str x] A = .ok (.int (j : Nat)) A := by
  show (match rdL A (.ref r) with
    | some xs => (match toV (.str x), toVs xs with
      | some v, some vs => (match firstV v vs 0 with
        | some j => Res.ok (D.int (j : Nat)) A
        | none => .bad)
      | _, _ => .bad)
    | none => .bad) = _
  rw [rdL_l h]
  simp only [toVs_str, toV, first_str hx nd, Nat.zero_add]
theorem getK_set (kvs : List (Key × D)) (k k' : Key) (v : D) : getK (setK kvs k v) k' = if k' = k then some v else getK kvs k' := by
  have e1 : ∀ (kvs : List (Key × D)), getK kvs k' = match kvs with | [] => none | p :: r => if p.1 = k' then some p.2 else getK r k' := fun kvs => by
    cases kvs with
    | nil => rfl
    | cons p r => by_cases h : p.1 = k' <;> simp [getK, List.find?_cons, h]
  have any : ∀ kvs : List (Key × D), (kvs.any fun kv => decide (kv.1 = k)) = false → getK (kvs ++ [(k, v)]) k' = if k' = k then some v else getK kvs k' := by
    intro kvs
    induction kvs with
    | nil => intro _; by_cases h : k' = k <;> simp [getK, List.find?_cons, h, Eq.comm]
    | cons p r ih =>
      intro ha
      rw [List.any_cons, Bool.or_eq_false_iff] at ha
      rw [List.cons_append, e1 (p :: (r ++ [(k, v)])), e1 (p :: r)]
      simp only
      rw [ih ha.2]
      by_cases h : p.1 = k'
      · have : ¬ k' = k := fun q => by simpa [h, q] using ha.1
        rw [if_pos h, if_neg this, if_pos h]
      · rw [if_neg h, if_neg h]
  have map : ∀ kvs : List (Key × D), getK (kvs.map fun kv => if kv.1 = k then (kv.1, v) else kv) k' = if k' = k then (if (kvs.any fun kv => decide (kv.1 = k)) = true then some v else none) else getK kvs k' := by
    intro kvs
    induction kvs with
    | nil => by_cases h : k' = k <;> simp [getK, h]
    | cons p r ih =>
      rw [List.map_cons, e1 ((if p.1 = k then (p.1, v) else p) :: _), e1 (p :: r)]
      simp only
      rw [ih, List.any_cons]
      by_cases h : p.1 = k
      · rw [if_pos h]
        by_cases h2 : k' = k
        · simp [h, h2]
        · simp only [h2, if_false]
          rw [if_neg (by rw [h]; exact fun q => h2 q.symm), if_neg (by rw [h]; exact fun q => h2 q.symm)]
      · rw [if_neg h]
        by_cases h2 : k' = k
        · simp only [h2, h, if_true, if_false, decide_false, Bool.false_or]
        · simp only [h2, if_false]
  unfold setK
  by_cases h : (kvs.any fun kv => decide (kv.1 = k)) = true
  · rw [if_pos h, map, if_pos h]
  · rw [if_neg h]; exact any kvs (Bool.eq_false_iff.mpr h)
theorem keys_set (kvs : List (Key × D)) (k : Key) (v : D) : (setK kvs k v).map (·.1) = if k ∈ kvs.map (·.1) then kvs.map (·.1) else kvs.map (·.1) ++ [k] := by
  have e : (kvs.any fun kv => decide (kv.1 = k)) = true ↔ k ∈ kvs.map (·.1) := by
    rw [List.any_eq_true, List.mem_map]
    exact ⟨fun ⟨p, hp, h⟩ => ⟨p, hp, of_decide_eq_true h⟩, fun ⟨p, hp, h⟩ => ⟨p, hp, decide_eq_true h⟩⟩
  unfold setK
  by_cases h : (kvs.any fun kv => decide (kv.1 = k)) = true
  · rw [if_pos h, if_pos (e.mp h), List.map_map]
    apply List.map_congr_left
    intro p _
    by_cases q : p.1 = k <;> simp [q]
  · rw [if_neg h, if_neg fun q => h (e.mpr q)]; simp
theorem mem_set {kvs : List (Key × D)} {k : Key} {v : D} {p : Key × D} (h : p ∈ setK kvs k v) : p ∈ kvs ∨ p.2 = v := by
  unfold setK at h
  split at h
  · obtain ⟨q, hq, e⟩ := List.mem_map.mp h
    split at e
    · exact .inr (by rw [← e])
    · exact .inl (by rw [← e]; exact hq)
  · rcases List.mem_append.mp h with h | h
    · exact .inl h
    · cases List.mem_singleton.mp h; exact .inr rfl
structure Dk (kvs : List (Key × D)) (ks : List Key) : Prop where
  keys : kvs.map (·.1) = ks
  nd : ks.Nodup
  pl : ∀ p ∈ kvs, ∃ v, toV p.2 = some v
noncomputable def addKey (ks : List Key) (x : Str) : List Key := if (Sum.inr x : Key) ∈ ks then ks else ks ++ [.inr x]
theorem Dk.set {kvs : List (Key × D)} {ks : List Key} (h : Dk kvs ks) {x : Str} {d : D} {v : V} (hv : toV d = some v) : Dk (setK kvs (.inr x) d) (addKey ks x) := by
  refine ⟨by rw [keys_set, h.keys]; rfl, ?_, fun p hp => ?_⟩
  · unfold addKey
    split
    · exact h.nd
    · rename_i q
      rw [List.nodup_append]
      exact ⟨h.nd, by simp, fun a ha b hb => by cases List.mem_singleton.mp hb; exact fun e => q (e ▸ ha)⟩
  · rcases mem_set hp with q | q
    · exact h.pl p q
    · exact ⟨v, by rw [q]; exact hv⟩
theorem Dk.get {kvs : List (Key × D)} {ks : List Key} (h : Dk kvs ks) : ∀ p ∈ kvs, getK kvs p.1 = some p.2 := by
  have nd : (kvs.map (·.1)).Nodup := by rw [h.keys]; exact h.nd
  clear h
  induction kvs with
  | nil => intro p hp; cases hp
  | cons q r ih =>
    intro p hp
    rw [List.map_cons, List.nodup_cons] at nd
    rcases List.mem_cons.mp hp with e | e
    · subst e; simp [getK, List.find?_cons]
    · have : ¬ q.1 = p.1 := fun z => nd.1 (by rw [z]; exact List.mem_map.mpr ⟨p, e, rfl⟩)
      have := ih nd.2 p e
      simp [getK, List.find?_cons, *] at this ⊢
      assumption
theorem Dk.alike {kvs : List (Key × D)} {ks : List Key} (h : Dk kvs ks) : alike kvs kvs := ⟨rfl, fun p hp => by
  obtain ⟨v, hv⟩ := h.pl p hp
  exact ⟨v, hv, p.2, h.get p hp, hv⟩⟩
theorem str_len (x y : Str) : (x ++ y).length = x.length + y.length := by
  show (x.cps ++ y.cps).size = x.cps.size + y.cps.size
  simp
theorem num_len {i : Int} (h : i.natAbs < 10 ^ 12) : (Str.ofString (toString i)).length ≤ 13 := by
  rw [PySem.ofString_length]
  exact int_text_length_le10 (k := 12) (by decide) h
theorem num_log {i : Int} (h : i.natAbs < 10 ^ 12) : i.natAbs.log2 < 1920 := by
  by_cases e : i.natAbs = 0
  · rw [e]; decide
  · refine (Nat.log2_lt e).mpr (Nat.lt_trans h ?_)
    exact Nat.lt_of_lt_of_le (show 10 ^ 12 < 2 ^ 50 by decide) (Nat.pow_le_pow_right (by decide) (by decide))
theorem ev_str_i {i : Int} {A : AH} (z : i.natAbs < 10 ^ 12) : strD [.int i] A = .ok (.str (toString i)) A := if_pos (num_log z)
theorem add_ss {x y : Str} {A : AH} (z : (x ++ y).length ≤ 1000000) : addD (.str x) (.str y) A = .ok (.str (x ++ y)) A := ev_add_ss (by rw [str_len] at z; exact Nat.le_trans z (by decide))
theorem st_k {n : Nat} {kvs : List (Key × D)} {x : Str} {v : D} {A : AH} (h : A[n]? = some (.dic kvs)) (z : kvs.length < 1000000) : stD (.ref n) (.str x) v A = .ok () (A.set n (.dic (setK kvs (.inr x) v))) := by
  show (match A[n]? with
    | some (.lst xs) => _
    | some (.dic kvs) => (match keyOf (.str x) with
      | some k => if kvs.length < sizeLine then Res.ok () (A.set n (.dic (setK kvs k v))) else .bad
      | none => .bad)
    | _ => _) = _
  rw [h]
  exact if_pos (Nat.lt_of_lt_of_le z (by decide))
theorem Dk.len {kvs : List (Key × D)} {ks : List Key} (h : Dk kvs ks) : kvs.length = ks.length := by rw [← h.keys, List.length_map]
theorem nd_at {ns : List Str} {x : Str} {i j : Nat} (nd : ns.Nodup) (hi : ns[i]? = some x) (hj : ns[j]? = some x) : i = j := by
  have h := (first_str (k := 0) hi nd).symm.trans (first_str (k := 0) hj nd)
  have := Option.some.inj h
  omega
theorem rdM_d {r : Nat} {kvs : List (Key × D)} {A : AH} (h : A[r]? = some (.dic kvs)) : rdM A (.ref r) = some kvs := by simp only [rdM, h]
theorem rdK_d {r : Nat} {kvs : List (Key × D)} {A : AH} (h : A[r]? = some (.dic kvs)) : rdK A (.ref r) = some kvs := by simp only [rdK, h]
theorem dic_of {p : Nat} {ks : List (Key × D)} {A : AH} (hp : A[p]? = some (.dic ks)) : dicOf [.ref p] A = .ok (.ref A.length) (A ++ [.dic ks]) := by
  show (match rdM A (.ref p) with
    | some kvs => Ab.alloc (.dic kvs) A
    | none => .bad) = _
  rw [rdM_d hp]; rfl
theorem cell0 {A : AH} {ns : List Int} {k : Int} (h : A[0]? = some (.frz (ns.map D.int))) (hl : ns.length ≤ 63) (h0 : 0 ≤ k) : ∃ v, m__law_cell [.ref 0, .int k] A = .ok (.int v) A := by
  obtain ⟨v, e⟩ := cell_spec (k := k.toNat) h hl
  exact ⟨v, by rw [Int.toNat_of_nonneg h0] at e; exact e⟩
theorem src_new {A : AH} {v : Int} : Sr A.length (A ++ [.lst [.int v, .int v, .int 0]]) := ⟨v, v, 0, at_new⟩
end Law

set_option maxHeartbeats 8000000
namespace Law
open PySem PySem.Spec PyProof.Rows L2 Ab
open scoped Classical
/-! ### plain data; one of a row -/
theorem pl_up : ∀ {n : Nat} {d : D}, Pl n d → Pl (n + 1) d
  | _, .non, _ => trivial
  | _, .bl _, _ => trivial
  | _, .int _, _ => trivial
  | _, .str _, _ => trivial
  | 0, .tup _, h => absurd h id
  | n + 1, .tup ds, h => ⟨h.1, fun d hd => pl_up (h.2 d hd)⟩
  | 0, .ref _, h => absurd h id
  | n + 1, .ref _, h => absurd h id
theorem pl_le {n m : Nat} {d : D} (h : Pl n d) (le : n ≤ m) : Pl m d := by
  obtain ⟨k, rfl⟩ : ∃ k, m = n + k := ⟨m - n, by omega⟩
  clear le
  induction k with
  | zero => exact h
  | succ k ih => exact pl_up ih
theorem pl_s {n : Nat} {x : Str} : Pl n (.str x) := by cases n <;> trivial
theorem pl_i {n : Nat} {i : Int} : Pl n (.int i) := by cases n <;> trivial
theorem pl_b {n : Nat} {i : Bool} : Pl n (.bl i) := by cases n <;> trivial
theorem pl_n {n : Nat} : Pl n .non := by cases n <;> trivial
theorem pl1 {n : Nat} {a : D} (h : Pl n a) : Pl (n + 1) (.tup [a]) := ⟨by simp, fun d hd => by cases List.mem_singleton.mp hd; exact h⟩
theorem pl2 {n : Nat} {a b : D} (h : Pl n a) (h2 : Pl n b) : Pl (n + 1) (.tup [a, b]) := ⟨by simp, fun d hd => by
  simp only [List.mem_cons, List.not_mem_nil, or_false] at hd
  rcases hd with rfl | rfl
  · exact h
  · exact h2⟩
theorem pl3 {n : Nat} {a b c : D} (h : Pl n a) (h2 : Pl n b) (h3 : Pl n c) : Pl (n + 1) (.tup [a, b, c]) := ⟨by simp, fun d hd => by
  simp only [List.mem_cons, List.not_mem_nil, or_false] at hd
  rcases hd with rfl | rfl | rfl
  · exact h
  · exact h2
  · exact h3⟩
theorem pl4 {n : Nat} {a b c e : D} (h : Pl n a) (h2 : Pl n b) (h3 : Pl n c) (h4 : Pl n e) : Pl (n + 1) (.tup [a, b, c, e]) := ⟨by simp, fun d hd => by
  simp only [List.mem_cons, List.not_mem_nil, or_false] at hd
  rcases hd with rfl | rfl | rfl | rfl
  · exact h
  · exact h2
  · exact h3
  · exact h4⟩
theorem one_l {A : AH} {s r : Nat} {xs : List D} (hs : Sr s A) (rs : r ≠ s) (h : A[r]? = some (.lst xs)) (ne : xs ≠ []) (few : xs.length ≤ 1000) : DrwS s A (m__law_one [.ref s, .ref r] A) fun d => d ∈ xs := by
  have pos := List.length_pos_iff.mpr ne
  refine sat_body rfl ?_
  unfold p__law_one
  have ln : lenD [.ref r] A = .ok (.int (xs.length : Nat)) A := ev_len_r (rdL_l h)
  simp only [EV, Ab.isNon, args, List.map, List.length_cons, List.length_nil, List.length_singleton, List.replicate, Nat.reduceSub, Nat.reduceAdd, Nat.zero_add, List.cons_append, List.nil_append, List.getElem?_cons_zero, List.getElem?_cons_succ, List.set_cons_zero, List.set_cons_succ, Option.some.injEq, decide_eq_true_eq, Bool.not_eq_true', decide_eq_false_iff_not, ite_true, ite_false, if_true, if_false, reduceIte, Bool.false_eq_true, Bool.not_true, Bool.not_false, Bool.true_eq_false, decide_true, decide_false, Nat.reduceLeDiff, Nat.reduceLT, ln]
  refine Sat.imp (pick_pos hs (n := (xs.length : Nat)) (by omega) (by omega)) fun d A1 ⟨⟨v, e, v0, v1⟩, D1⟩ => ?_
  subst e
  have h := D1.keep _ _ rs h
  have lt : v.toNat < xs.length := by omega
  rw [ev_ix_r (rdL_l h) (by rw [atI_pos v0, List.getElem?_eq_getElem lt])]
  exact ⟨List.getElem_mem lt, D1⟩
theorem one_d {A : AH} {s : Nat} {xs : List D} (hs : Sr s A) (ne : xs ≠ []) (few : xs.length ≤ 1000) : Sat (m__law_one [.ref s, .ref A.length] (A ++ [AO.lst xs])) fun d B => d ∈ xs ∧ Dr s A B := by
  have sl := hs.lt
  have D1 := Dr.app hs [AO.lst xs]
  exact Sat.imp (one_l D1.src (by omega) at_new ne few) fun d B ⟨h, dr⟩ => ⟨h, D1.trans dr⟩
theorem one_t {A : AH} {s : Nat} {xs : List D} (hs : Sr s A) (ne : xs ≠ []) (few : xs.length ≤ 1000) : DrwS s A (m__law_one [.ref s, .tup xs] A) fun d => d ∈ xs := by
  have pos := List.length_pos_iff.mpr ne
  refine sat_body rfl ?_
  unfold p__law_one
  simp only [EV, Ab.isNon, args, List.map, List.length_cons, List.length_nil, List.length_singleton, List.replicate, Nat.reduceSub, Nat.reduceAdd, Nat.zero_add, List.cons_append, List.nil_append, List.getElem?_cons_zero, List.getElem?_cons_succ, List.set_cons_zero, List.set_cons_succ, Option.some.injEq, decide_eq_true_eq, Bool.not_eq_true', decide_eq_false_iff_not, ite_true, ite_false, if_true, if_false, reduceIte, Bool.false_eq_true, Bool.not_true, Bool.not_false, Bool.true_eq_false, decide_true, decide_false, Nat.reduceLeDiff, Nat.reduceLT]
  refine Sat.imp (pick_pos hs (n := (xs.length : Nat)) (by omega) (by omega)) fun d A1 ⟨⟨v, e, v0, v1⟩, D1⟩ => ?_
  subst e
  have lt : v.toNat < xs.length := by omega
  rw [ev_ix_t (by rw [atI_pos v0, List.getElem?_eq_getElem lt])]
  exact ⟨List.getElem_mem lt, D1⟩
end Law

namespace Law
open PySem PySem.Spec PyProof.Rows L2 Ab
open scoped Classical
/-! ### texts of expressions and kinds (out of k01) -/
theorem empty_app (x : Str) : Str.empty ++ x = x := by
  show Str.mk (#[] ++ x.cps) = x
  simp
def ops : List Str := ["+", "-", "*", "<", "<=", "==", "!=", "same", "and", "or"]
/-- an expression of depth n at most, and its text -/
inductive Ex : Nat → D → Str → Prop where
  | num (n : Nat) (i : Int) (h : i.natAbs < 10 ^ 12) : Ex n (.tup [.str "num", .int i]) (toString i)
  | name (n : Nat) (x : Str) (h : x.length ≤ 40) : Ex n (.tup [.str "name", .str x]) x
  | flag (n : Nat) (b : Bool) : Ex n (.tup [.str "flag", .bl b]) (if b then "true" else "false")
  | null (n : Nat) : Ex n (.tup [.str "null"]) "null"
  | neg (n : Nat) (d : D) (t : Str) (h : Ex n d t) : Ex (n + 1) (.tup [.str "not", d]) ("(not " ++ t ++ ")")
  | op (n : Nat) (w : Str) (d e : D) (t u : Str) (hw : w ∈ ops) (h : Ex n d t) (h' : Ex n e u) : Ex (n + 1) (.tup [.str w, d, e]) ("(" ++ t ++ " " ++ w ++ " " ++ u ++ ")")
theorem ops_len {w : Str} (h : w ∈ ops) : w.length ≤ 4 := by
  revert w
  decide
theorem ops_not {w : Str} (h : w ∈ ops) : w ≠ "num" ∧ w ≠ "flag" ∧ w ≠ "null" ∧ w ≠ "name" ∧ w ≠ "not" := by
  revert w
  decide
theorem Ex.len {n : Nat} {d : D} {t : Str} (h : Ex n d t) : t.length + 50 ≤ 200 * 2 ^ n := by
  have p : ∀ n : Nat, 1 ≤ 2 ^ n := fun n => Nat.one_le_two_pow
  induction h with
  | num n i h => have := num_len h; have := p n; show (Str.ofString (toString i)).length + 50 ≤ _; omega
  | name n x h => have := p n; omega
  | flag n b => have := p n; cases b; (show 5 + 50 ≤ _; omega); (show 4 + 50 ≤ _; omega)
  | null n => have := p n; show 4 + 50 ≤ _; omega
  | neg n d t h ih =>
    rw [str_len, str_len, Nat.pow_succ]
    show 5 + t.length + 1 + 50 ≤ _
    omega
  | op n w d e t u hw h h' ih ih' =>
    have := ops_len hw
    simp only [str_len, Nat.pow_succ]
    show 1 + t.length + 1 + w.length + 1 + u.length + 1 + 50 ≤ _
    omega
theorem Ex.fits {n : Nat} {d : D} {t : Str} (h : Ex n d t) (hn : n ≤ 6) : t.length ≤ 12800 := by
  have h1 := h.len
  have h2 : 2 ^ n ≤ 2 ^ 6 := Nat.pow_le_pow_right (by decide) hn
  omega
theorem Ex.up1 {n : Nat} {d : D} {t : Str} (h : Ex n d t) : Ex (n + 1) d t := by
  induction h with
  | num n i h => exact .num _ i h
  | name n x h => exact .name _ x h
  | flag n b => exact .flag _ b
  | null n => exact .null _
  | neg n d t h ih => exact .neg _ d t ih
  | op n w d e t u hw h h' ih ih' => exact .op _ w d e t u hw ih ih'
theorem Ex.up {n m : Nat} {d : D} {t : Str} (h : Ex n d t) (le : n ≤ m) : Ex m d t := by
  obtain ⟨k, rfl⟩ : ∃ k, m = n + k := ⟨m - n, by omega⟩
  clear le
  induction k with
  | zero => exact h
  | succ k ih => exact ih.up1
theorem ev_j0 {acc : Str} {s : ASt} {A : AH} : jStrs [] acc s A = .ok (.str acc) A := rfl
theorem ev_jc {f : FE} {fs : List FE} {acc y : Str} {s : ASt} {A A1 : AH} (h : f s A = .ok (.str y) A1) (z : (acc ++ y).length ≤ 1000000) : jStrs (f :: fs) acc s A = jStrs fs (acc ++ y) s A1 := by
  show (f s A).bind _ = _
  rw [h, bind_ok]
  exact if_pos (Nat.le_trans z (by decide))
theorem ev_fmt_s {x : Str} {A : AH} (z : x.length ≤ 1000000) : fmtD (.str x) A = .ok (.str x) A := if_pos (Nat.le_trans z (by decide))
theorem ev_fmt_i {i : Int} {A : AH} (z : i.natAbs < 10 ^ 12) : fmtD (.int i) A = .ok (.str (toString i)) A := if_pos (num_log z)
theorem q1 : (("num" : Str) = "flag") = False := eq_false (by decide)
theorem q2 : (("flag" : Str) = "num") = False := eq_false (by decide)
theorem q3 : (("null" : Str) = "num") = False := eq_false (by decide)
theorem q4 : (("null" : Str) = "flag") = False := eq_false (by decide)
theorem q5 : (("name" : Str) = "num") = False := eq_false (by decide)
theorem q6 : (("name" : Str) = "flag") = False := eq_false (by decide)
theorem q7 : (("name" : Str) = "null") = False := eq_false (by decide)
theorem q8 : (("not" : Str) = "num") = False := eq_false (by decide)
theorem q9 : (("not" : Str) = "flag") = False := eq_false (by decide)
theorem q10 : (("not" : Str) = "null") = False := eq_false (by decide)
theorem q11 : (("not" : Str) = "name") = False := eq_false (by decide)
theorem q12 : (("ref" : Str) = "flag") = False := eq_false (by decide)
theorem q13 : (("ref" : Str) = "num") = False := eq_false (by decide)
theorem q14 : (("num" : Str) = "ref") = False := eq_false (by decide)
theorem text_spec {n : Nat} {d : D} {t : Str} (h : Ex n d t) : n ≤ 6 → ∀ (m : Nat) (A : AH), n < m → m_expression_text m [d] A = .ok (.str t) A := by
  induction h with
  | num n i h =>
    intro hn m A hm
    obtain ⟨m, rfl⟩ : ∃ k, m = k + 1 := ⟨m - 1, by omega⟩
    have key : Sat (m_expression_text (m + 1) [.tup [.str "num", .int i]] A) fun d A' => d = .str (toString i) ∧ A' = A := by
      refine sat_body rfl (sat_seq ?_)
      simp only [EV, Ab.isNon, args, List.map, List.length_cons, List.length_nil, List.length_singleton, List.replicate, Nat.reduceSub, Nat.reduceAdd, Nat.zero_add, List.cons_append, List.nil_append, List.getElem?_cons_zero, List.getElem?_cons_succ, List.set_cons_zero, List.set_cons_succ, Option.some.injEq, decide_eq_true_eq, Bool.not_eq_true', decide_eq_false_iff_not, ite_true, ite_false, if_true, if_false, reduceIte, Bool.false_eq_true, Bool.not_true, Bool.not_false, Bool.true_eq_false, decide_true, decide_false, Nat.reduceLeDiff, Nat.reduceLT, ixa]
      refine sat_seq ?_
      simp only [EV, Ab.isNon, args, List.map, List.length_cons, List.length_nil, List.length_singleton, List.replicate, Nat.reduceSub, Nat.reduceAdd, Nat.zero_add, List.cons_append, List.nil_append, List.getElem?_cons_zero, List.getElem?_cons_succ, List.set_cons_zero, List.set_cons_succ, Option.some.injEq, decide_eq_true_eq, Bool.not_eq_true', decide_eq_false_iff_not, ite_true, ite_false, if_true, if_false, reduceIte, Bool.false_eq_true, Bool.not_true, Bool.not_false, Bool.true_eq_false, decide_true, decide_false, Nat.reduceLeDiff, Nat.reduceLT, ixb, ev_str_i h]
      trivial
    obtain ⟨e, A', h1, rfl, rfl⟩ := key.eq
    exact h1
  | name n x h =>
    intro hn m A hm
    obtain ⟨m, rfl⟩ : ∃ k, m = k + 1 := ⟨m - 1, by omega⟩
    have key : Sat (m_expression_text (m + 1) [.tup [.str "name", .str x]] A) fun d A' => d = .str x ∧ A' = A := by
      refine sat_body rfl (sat_seq ?_)
      simp only [EV, Ab.isNon, args, List.map, List.length_cons, List.length_nil, List.length_singleton, List.replicate, Nat.reduceSub, Nat.reduceAdd, Nat.zero_add, List.cons_append, List.nil_append, List.getElem?_cons_zero, List.getElem?_cons_succ, List.set_cons_zero, List.set_cons_succ, Option.some.injEq, decide_eq_true_eq, Bool.not_eq_true', decide_eq_false_iff_not, ite_true, ite_false, if_true, if_false, reduceIte, Bool.false_eq_true, Bool.not_true, Bool.not_false, Bool.true_eq_false, decide_true, decide_false, Nat.reduceLeDiff, Nat.reduceLT, ixa]
      refine sat_seq ?_; simp only [EV, Ab.isNon, args, List.map, List.length_cons, List.length_nil, List.length_singleton, List.replicate, Nat.reduceSub, Nat.reduceAdd, Nat.zero_add, List.cons_append, List.nil_append, List.getElem?_cons_zero, List.getElem?_cons_succ, List.set_cons_zero, List.set_cons_succ, Option.some.injEq, decide_eq_true_eq, Bool.not_eq_true', decide_eq_false_iff_not, ite_true, ite_false, if_true, if_false, reduceIte, Bool.false_eq_true, Bool.not_true, Bool.not_false, Bool.true_eq_false, decide_true, decide_false, Nat.reduceLeDiff, Nat.reduceLT, q5]
      refine sat_seq ?_; simp only [EV, Ab.isNon, args, List.map, List.length_cons, List.length_nil, List.length_singleton, List.replicate, Nat.reduceSub, Nat.reduceAdd, Nat.zero_add, List.cons_append, List.nil_append, List.getElem?_cons_zero, List.getElem?_cons_succ, List.set_cons_zero, List.set_cons_succ, Option.some.injEq, decide_eq_true_eq, Bool.not_eq_true', decide_eq_false_iff_not, ite_true, ite_false, if_true, if_false, reduceIte, Bool.false_eq_true, Bool.not_true, Bool.not_false, Bool.true_eq_false, decide_true, decide_false, Nat.reduceLeDiff, Nat.reduceLT, q6]
      refine sat_seq ?_; simp only [EV, Ab.isNon, args, List.map, List.length_cons, List.length_nil, List.length_singleton, List.replicate, Nat.reduceSub, Nat.reduceAdd, Nat.zero_add, List.cons_append, List.nil_append, List.getElem?_cons_zero, List.getElem?_cons_succ, List.set_cons_zero, List.set_cons_succ, Option.some.injEq, decide_eq_true_eq, Bool.not_eq_true', decide_eq_false_iff_not, ite_true, ite_false, if_true, if_false, reduceIte, Bool.false_eq_true, Bool.not_true, Bool.not_false, Bool.true_eq_false, decide_true, decide_false, Nat.reduceLeDiff, Nat.reduceLT, q7]
      refine sat_seq ?_; simp only [EV, Ab.isNon, args, List.map, List.length_cons, List.length_nil, List.length_singleton, List.replicate, Nat.reduceSub, Nat.reduceAdd, Nat.zero_add, List.cons_append, List.nil_append, List.getElem?_cons_zero, List.getElem?_cons_succ, List.set_cons_zero, List.set_cons_succ, Option.some.injEq, decide_eq_true_eq, Bool.not_eq_true', decide_eq_false_iff_not, ite_true, ite_false, if_true, if_false, reduceIte, Bool.false_eq_true, Bool.not_true, Bool.not_false, Bool.true_eq_false, decide_true, decide_false, Nat.reduceLeDiff, Nat.reduceLT, ixb]
      trivial
    obtain ⟨e, A', h1, rfl, rfl⟩ := key.eq
    exact h1
  | flag n b =>
    intro hn m A hm
    obtain ⟨m, rfl⟩ : ∃ k, m = k + 1 := ⟨m - 1, by omega⟩
    have key : Sat (m_expression_text (m + 1) [.tup [.str "flag", .bl b]] A) fun d A' => d = .str (if b then "true" else "false") ∧ A' = A := by
      refine sat_body rfl (sat_seq ?_)
      simp only [EV, Ab.isNon, args, List.map, List.length_cons, List.length_nil, List.length_singleton, List.replicate, Nat.reduceSub, Nat.reduceAdd, Nat.zero_add, List.cons_append, List.nil_append, List.getElem?_cons_zero, List.getElem?_cons_succ, List.set_cons_zero, List.set_cons_succ, Option.some.injEq, decide_eq_true_eq, Bool.not_eq_true', decide_eq_false_iff_not, ite_true, ite_false, if_true, if_false, reduceIte, Bool.false_eq_true, Bool.not_true, Bool.not_false, Bool.true_eq_false, decide_true, decide_false, Nat.reduceLeDiff, Nat.reduceLT, ixa]
      refine sat_seq ?_; simp only [EV, Ab.isNon, args, List.map, List.length_cons, List.length_nil, List.length_singleton, List.replicate, Nat.reduceSub, Nat.reduceAdd, Nat.zero_add, List.cons_append, List.nil_append, List.getElem?_cons_zero, List.getElem?_cons_succ, List.set_cons_zero, List.set_cons_succ, Option.some.injEq, decide_eq_true_eq, Bool.not_eq_true', decide_eq_false_iff_not, ite_true, ite_false, if_true, if_false, reduceIte, Bool.false_eq_true, Bool.not_true, Bool.not_false, Bool.true_eq_false, decide_true, decide_false, Nat.reduceLeDiff, Nat.reduceLT, q2]
      refine sat_seq ?_; simp only [EV, Ab.isNon, args, List.map, List.length_cons, List.length_nil, List.length_singleton, List.replicate, Nat.reduceSub, Nat.reduceAdd, Nat.zero_add, List.cons_append, List.nil_append, List.getElem?_cons_zero, List.getElem?_cons_succ, List.set_cons_zero, List.set_cons_succ, Option.some.injEq, decide_eq_true_eq, Bool.not_eq_true', decide_eq_false_iff_not, ite_true, ite_false, if_true, if_false, reduceIte, Bool.false_eq_true, Bool.not_true, Bool.not_false, Bool.true_eq_false, decide_true, decide_false, Nat.reduceLeDiff, Nat.reduceLT, ixb]
      cases b <;> trivial
    obtain ⟨e, A', h1, rfl, rfl⟩ := key.eq
    exact h1
  | null n =>
    intro hn m A hm
    obtain ⟨m, rfl⟩ : ∃ k, m = k + 1 := ⟨m - 1, by omega⟩
    have key : Sat (m_expression_text (m + 1) [.tup [.str "null"]] A) fun d A' => d = .str "null" ∧ A' = A := by
      refine sat_body rfl (sat_seq ?_)
      simp only [EV, Ab.isNon, args, List.map, List.length_cons, List.length_nil, List.length_singleton, List.replicate, Nat.reduceSub, Nat.reduceAdd, Nat.zero_add, List.cons_append, List.nil_append, List.getElem?_cons_zero, List.getElem?_cons_succ, List.set_cons_zero, List.set_cons_succ, Option.some.injEq, decide_eq_true_eq, Bool.not_eq_true', decide_eq_false_iff_not, ite_true, ite_false, if_true, if_false, reduceIte, Bool.false_eq_true, Bool.not_true, Bool.not_false, Bool.true_eq_false, decide_true, decide_false, Nat.reduceLeDiff, Nat.reduceLT, ixa]
      refine sat_seq ?_; simp only [EV, Ab.isNon, args, List.map, List.length_cons, List.length_nil, List.length_singleton, List.replicate, Nat.reduceSub, Nat.reduceAdd, Nat.zero_add, List.cons_append, List.nil_append, List.getElem?_cons_zero, List.getElem?_cons_succ, List.set_cons_zero, List.set_cons_succ, Option.some.injEq, decide_eq_true_eq, Bool.not_eq_true', decide_eq_false_iff_not, ite_true, ite_false, if_true, if_false, reduceIte, Bool.false_eq_true, Bool.not_true, Bool.not_false, Bool.true_eq_false, decide_true, decide_false, Nat.reduceLeDiff, Nat.reduceLT, q3]
      refine sat_seq ?_; simp only [EV, Ab.isNon, args, List.map, List.length_cons, List.length_nil, List.length_singleton, List.replicate, Nat.reduceSub, Nat.reduceAdd, Nat.zero_add, List.cons_append, List.nil_append, List.getElem?_cons_zero, List.getElem?_cons_succ, List.set_cons_zero, List.set_cons_succ, Option.some.injEq, decide_eq_true_eq, Bool.not_eq_true', decide_eq_false_iff_not, ite_true, ite_false, if_true, if_false, reduceIte, Bool.false_eq_true, Bool.not_true, Bool.not_false, Bool.true_eq_false, decide_true, decide_false, Nat.reduceLeDiff, Nat.reduceLT, q4]
      refine sat_seq ?_; simp only [EV, Ab.isNon, args, List.map, List.length_cons, List.length_nil, List.length_singleton, List.replicate, Nat.reduceSub, Nat.reduceAdd, Nat.zero_add, List.cons_append, List.nil_append, List.getElem?_cons_zero, List.getElem?_cons_succ, List.set_cons_zero, List.set_cons_succ, Option.some.injEq, decide_eq_true_eq, Bool.not_eq_true', decide_eq_false_iff_not, ite_true, ite_false, if_true, if_false, reduceIte, Bool.false_eq_true, Bool.not_true, Bool.not_false, Bool.true_eq_false, decide_true, decide_false, Nat.reduceLeDiff, Nat.reduceLT]
      trivial
    obtain ⟨e, A', h1, rfl, rfl⟩ := key.eq
    exact h1
  | neg n d t h ih =>
    intro hn m A hm
    obtain ⟨m, rfl⟩ : ∃ k, m = k + 1 := ⟨m - 1, by omega⟩
    have i1 := ih (by omega) m A (by omega)
    have z := (Ex.neg n d t h).fits hn
    have z0 := h.fits (by omega)
    have key : Sat (m_expression_text (m + 1) [.tup [.str "not", d]] A) fun e A' => e = .str ("(not " ++ t ++ ")") ∧ A' = A := by
      refine sat_body rfl (sat_seq ?_)
      simp only [EV, Ab.isNon, args, List.map, List.length_cons, List.length_nil, List.length_singleton, List.replicate, Nat.reduceSub, Nat.reduceAdd, Nat.zero_add, List.cons_append, List.nil_append, List.getElem?_cons_zero, List.getElem?_cons_succ, List.set_cons_zero, List.set_cons_succ, Option.some.injEq, decide_eq_true_eq, Bool.not_eq_true', decide_eq_false_iff_not, ite_true, ite_false, if_true, if_false, reduceIte, Bool.false_eq_true, Bool.not_true, Bool.not_false, Bool.true_eq_false, decide_true, decide_false, Nat.reduceLeDiff, Nat.reduceLT, ixa]
      refine sat_seq ?_; simp only [EV, Ab.isNon, args, List.map, List.length_cons, List.length_nil, List.length_singleton, List.replicate, Nat.reduceSub, Nat.reduceAdd, Nat.zero_add, List.cons_append, List.nil_append, List.getElem?_cons_zero, List.getElem?_cons_succ, List.set_cons_zero, List.set_cons_succ, Option.some.injEq, decide_eq_true_eq, Bool.not_eq_true', decide_eq_false_iff_not, ite_true, ite_false, if_true, if_false, reduceIte, Bool.false_eq_true, Bool.not_true, Bool.not_false, Bool.true_eq_false, decide_true, decide_false, Nat.reduceLeDiff, Nat.reduceLT, q8]
      refine sat_seq ?_; simp only [EV, Ab.isNon, args, List.map, List.length_cons, List.length_nil, List.length_singleton, List.replicate, Nat.reduceSub, Nat.reduceAdd, Nat.zero_add, List.cons_append, List.nil_append, List.getElem?_cons_zero, List.getElem?_cons_succ, List.set_cons_zero, List.set_cons_succ, Option.some.injEq, decide_eq_true_eq, Bool.not_eq_true', decide_eq_false_iff_not, ite_true, ite_false, if_true, if_false, reduceIte, Bool.false_eq_true, Bool.not_true, Bool.not_false, Bool.true_eq_false, decide_true, decide_false, Nat.reduceLeDiff, Nat.reduceLT, q9]
      refine sat_seq ?_; simp only [EV, Ab.isNon, args, List.map, List.length_cons, List.length_nil, List.length_singleton, List.replicate, Nat.reduceSub, Nat.reduceAdd, Nat.zero_add, List.cons_append, List.nil_append, List.getElem?_cons_zero, List.getElem?_cons_succ, List.set_cons_zero, List.set_cons_succ, Option.some.injEq, decide_eq_true_eq, Bool.not_eq_true', decide_eq_false_iff_not, ite_true, ite_false, if_true, if_false, reduceIte, Bool.false_eq_true, Bool.not_true, Bool.not_false, Bool.true_eq_false, decide_true, decide_false, Nat.reduceLeDiff, Nat.reduceLT, q10]
      refine sat_seq ?_; simp only [EV, Ab.isNon, args, List.map, List.length_cons, List.length_nil, List.length_singleton, List.replicate, Nat.reduceSub, Nat.reduceAdd, Nat.zero_add, List.cons_append, List.nil_append, List.getElem?_cons_zero, List.getElem?_cons_succ, List.set_cons_zero, List.set_cons_succ, Option.some.injEq, decide_eq_true_eq, Bool.not_eq_true', decide_eq_false_iff_not, ite_true, ite_false, if_true, if_false, reduceIte, Bool.false_eq_true, Bool.not_true, Bool.not_false, Bool.true_eq_false, decide_true, decide_false, Nat.reduceLeDiff, Nat.reduceLT, q11]
      refine sat_seq ?_; simp only [EV, Ab.isNon, args, List.map, List.length_cons, List.length_nil, List.length_singleton, List.replicate, Nat.reduceSub, Nat.reduceAdd, Nat.zero_add, List.cons_append, List.nil_append, List.getElem?_cons_zero, List.getElem?_cons_succ, List.set_cons_zero, List.set_cons_succ, Option.some.injEq, decide_eq_true_eq, Bool.not_eq_true', decide_eq_false_iff_not, ite_true, ite_false, if_true, if_false, reduceIte, Bool.false_eq_true, Bool.not_true, Bool.not_false, Bool.true_eq_false, decide_true, decide_false, Nat.reduceLeDiff, Nat.reduceLT]
      simp only [str_len] at z
      rw [ev_jc (y := "(not ") rfl (by simp only [str_len, empty_app]; omega), empty_app]
      rw [ev_jc (y := t) (A1 := A) (by simp only [EV, Ab.isNon, args, List.map, List.length_cons, List.length_nil, List.length_singleton, List.replicate, Nat.reduceSub, Nat.reduceAdd, Nat.zero_add, List.cons_append, List.nil_append, List.getElem?_cons_zero, List.getElem?_cons_succ, List.set_cons_zero, List.set_cons_succ, Option.some.injEq, decide_eq_true_eq, Bool.not_eq_true', decide_eq_false_iff_not, ite_true, ite_false, if_true, if_false, reduceIte, Bool.false_eq_true, Bool.not_true, Bool.not_false, Bool.true_eq_false, decide_true, decide_false, Nat.reduceLeDiff, Nat.reduceLT, ixb, i1, ev_fmt_s (Nat.le_trans z0 (by decide))]) (by simp only [str_len]; omega)]
      rw [ev_jc (y := ")") rfl (by simp only [str_len]; omega), ev_j0]
      simp only [EV, Ab.isNon, args, List.map, List.length_cons, List.length_nil, List.length_singleton, List.replicate, Nat.reduceSub, Nat.reduceAdd, Nat.zero_add, List.cons_append, List.nil_append, List.getElem?_cons_zero, List.getElem?_cons_succ, List.set_cons_zero, List.set_cons_succ, Option.some.injEq, decide_eq_true_eq, Bool.not_eq_true', decide_eq_false_iff_not, ite_true, ite_false, if_true, if_false, reduceIte, Bool.false_eq_true, Bool.not_true, Bool.not_false, Bool.true_eq_false, decide_true, decide_false, Nat.reduceLeDiff, Nat.reduceLT]
      trivial
    obtain ⟨e, A', h1, rfl, rfl⟩ := key.eq
    exact h1
  | op n w d e t u hw h h' ih ih' =>
    intro hn m A hm
    obtain ⟨m, rfl⟩ : ∃ k, m = k + 1 := ⟨m - 1, by omega⟩
    have i1 := ih (by omega) m A (by omega)
    have i2 := ih' (by omega) m A (by omega)
    have z := (Ex.op n w d e t u hw h h').fits hn
    have z0 := h.fits (by omega)
    have z1 := h'.fits (by omega)
    have z2 := ops_len hw
    obtain ⟨w1, w2, w3, w4, w5⟩ := ops_not hw
    have key : Sat (m_expression_text (m + 1) [.tup [.str w, d, e]] A) fun x A' => x = .str ("(" ++ t ++ " " ++ w ++ " " ++ u ++ ")") ∧ A' = A := by
      refine sat_body rfl (sat_seq ?_)
      simp only [EV, Ab.isNon, args, List.map, List.length_cons, List.length_nil, List.length_singleton, List.replicate, Nat.reduceSub, Nat.reduceAdd, Nat.zero_add, List.cons_append, List.nil_append, List.getElem?_cons_zero, List.getElem?_cons_succ, List.set_cons_zero, List.set_cons_succ, Option.some.injEq, decide_eq_true_eq, Bool.not_eq_true', decide_eq_false_iff_not, ite_true, ite_false, if_true, if_false, reduceIte, Bool.false_eq_true, Bool.not_true, Bool.not_false, Bool.true_eq_false, decide_true, decide_false, Nat.reduceLeDiff, Nat.reduceLT, ixa]
      refine sat_seq ?_; simp only [EV, Ab.isNon, args, List.map, List.length_cons, List.length_nil, List.length_singleton, List.replicate, Nat.reduceSub, Nat.reduceAdd, Nat.zero_add, List.cons_append, List.nil_append, List.getElem?_cons_zero, List.getElem?_cons_succ, List.set_cons_zero, List.set_cons_succ, Option.some.injEq, decide_eq_true_eq, Bool.not_eq_true', decide_eq_false_iff_not, ite_true, ite_false, if_true, if_false, reduceIte, Bool.false_eq_true, Bool.not_true, Bool.not_false, Bool.true_eq_false, decide_true, decide_false, Nat.reduceLeDiff, Nat.reduceLT, w1]
      refine sat_seq ?_; simp only [EV, Ab.isNon, args, List.map, List.length_cons, List.length_nil, List.length_singleton, List.replicate, Nat.reduceSub, Nat.reduceAdd, Nat.zero_add, List.cons_append, List.nil_append, List.getElem?_cons_zero, List.getElem?_cons_succ, List.set_cons_zero, List.set_cons_succ, Option.some.injEq, decide_eq_true_eq, Bool.not_eq_true', decide_eq_false_iff_not, ite_true, ite_false, if_true, if_false, reduceIte, Bool.false_eq_true, Bool.not_true, Bool.not_false, Bool.true_eq_false, decide_true, decide_false, Nat.reduceLeDiff, Nat.reduceLT, w2]
      refine sat_seq ?_; simp only [EV, Ab.isNon, args, List.map, List.length_cons, List.length_nil, List.length_singleton, List.replicate, Nat.reduceSub, Nat.reduceAdd, Nat.zero_add, List.cons_append, List.nil_append, List.getElem?_cons_zero, List.getElem?_cons_succ, List.set_cons_zero, List.set_cons_succ, Option.some.injEq, decide_eq_true_eq, Bool.not_eq_true', decide_eq_false_iff_not, ite_true, ite_false, if_true, if_false, reduceIte, Bool.false_eq_true, Bool.not_true, Bool.not_false, Bool.true_eq_false, decide_true, decide_false, Nat.reduceLeDiff, Nat.reduceLT, w3]
      refine sat_seq ?_; simp only [EV, Ab.isNon, args, List.map, List.length_cons, List.length_nil, List.length_singleton, List.replicate, Nat.reduceSub, Nat.reduceAdd, Nat.zero_add, List.cons_append, List.nil_append, List.getElem?_cons_zero, List.getElem?_cons_succ, List.set_cons_zero, List.set_cons_succ, Option.some.injEq, decide_eq_true_eq, Bool.not_eq_true', decide_eq_false_iff_not, ite_true, ite_false, if_true, if_false, reduceIte, Bool.false_eq_true, Bool.not_true, Bool.not_false, Bool.true_eq_false, decide_true, decide_false, Nat.reduceLeDiff, Nat.reduceLT, w4]
      refine sat_seq ?_; simp only [EV, Ab.isNon, args, List.map, List.length_cons, List.length_nil, List.length_singleton, List.replicate, Nat.reduceSub, Nat.reduceAdd, Nat.zero_add, List.cons_append, List.nil_append, List.getElem?_cons_zero, List.getElem?_cons_succ, List.set_cons_zero, List.set_cons_succ, Option.some.injEq, decide_eq_true_eq, Bool.not_eq_true', decide_eq_false_iff_not, ite_true, ite_false, if_true, if_false, reduceIte, Bool.false_eq_true, Bool.not_true, Bool.not_false, Bool.true_eq_false, decide_true, decide_false, Nat.reduceLeDiff, Nat.reduceLT, w5]
      simp only [str_len] at z
      rw [ev_jc (y := "(") rfl (by simp only [str_len, empty_app]; omega), empty_app]
      rw [ev_jc (y := t) (A1 := A) (by simp only [EV, Ab.isNon, args, List.map, List.length_cons, List.length_nil, List.length_singleton, List.replicate, Nat.reduceSub, Nat.reduceAdd, Nat.zero_add, List.cons_append, List.nil_append, List.getElem?_cons_zero, List.getElem?_cons_succ, List.set_cons_zero, List.set_cons_succ, Option.some.injEq, decide_eq_true_eq, Bool.not_eq_true', decide_eq_false_iff_not, ite_true, ite_false, if_true, if_false, reduceIte, Bool.false_eq_true, Bool.not_true, Bool.not_false, Bool.true_eq_false, decide_true, decide_false, Nat.reduceLeDiff, Nat.reduceLT, ixb, i1, ev_fmt_s (Nat.le_trans z0 (by decide))]) (by simp only [str_len]; omega)]
      rw [ev_jc (y := " ") rfl (by simp only [str_len]; omega)]
      rw [ev_jc (y := w) (A1 := A) (by simp only [EV, Ab.isNon, args, List.map, List.length_cons, List.length_nil, List.length_singleton, List.replicate, Nat.reduceSub, Nat.reduceAdd, Nat.zero_add, List.cons_append, List.nil_append, List.getElem?_cons_zero, List.getElem?_cons_succ, List.set_cons_zero, List.set_cons_succ, Option.some.injEq, decide_eq_true_eq, Bool.not_eq_true', decide_eq_false_iff_not, ite_true, ite_false, if_true, if_false, reduceIte, Bool.false_eq_true, Bool.not_true, Bool.not_false, Bool.true_eq_false, decide_true, decide_false, Nat.reduceLeDiff, Nat.reduceLT, ev_fmt_s (Nat.le_trans z2 (by decide))]) (by simp only [str_len]; omega)]
      rw [ev_jc (y := " ") rfl (by simp only [str_len]; omega)]
      rw [ev_jc (y := u) (A1 := A) (by simp only [EV, Ab.isNon, args, List.map, List.length_cons, List.length_nil, List.length_singleton, List.replicate, Nat.reduceSub, Nat.reduceAdd, Nat.zero_add, List.cons_append, List.nil_append, List.getElem?_cons_zero, List.getElem?_cons_succ, List.set_cons_zero, List.set_cons_succ, Option.some.injEq, decide_eq_true_eq, Bool.not_eq_true', decide_eq_false_iff_not, ite_true, ite_false, if_true, if_false, reduceIte, Bool.false_eq_true, Bool.not_true, Bool.not_false, Bool.true_eq_false, decide_true, decide_false, Nat.reduceLeDiff, Nat.reduceLT, ixc, i2, ev_fmt_s (Nat.le_trans z1 (by decide))]) (by simp only [str_len]; omega)]
      rw [ev_jc (y := ")") rfl (by simp only [str_len]; omega), ev_j0]
      simp only [EV, Ab.isNon, args, List.map, List.length_cons, List.length_nil, List.length_singleton, List.replicate, Nat.reduceSub, Nat.reduceAdd, Nat.zero_add, List.cons_append, List.nil_append, List.getElem?_cons_zero, List.getElem?_cons_succ, List.set_cons_zero, List.set_cons_succ, Option.some.injEq, decide_eq_true_eq, Bool.not_eq_true', decide_eq_false_iff_not, ite_true, ite_false, if_true, if_false, reduceIte, Bool.false_eq_true, Bool.not_true, Bool.not_false, Bool.true_eq_false, decide_true, decide_false, Nat.reduceLeDiff, Nat.reduceLT]
      trivial
    obtain ⟨e, A', h1, rfl, rfl⟩ := key.eq
    exact h1
theorem Gr.of_eq {A A' : AH} (h : A' = A) : Gr A A' := h ▸ Gr.refl
theorem law_text_spec {n : Nat} {d : D} {t : Str} (h : Ex n d t) : n ≤ 6 → ∀ (m : Nat) (A : AH), n < m → Sat (m__law_text m [d] A) fun e A' => e = .str t ∧ Gr A A' := by
  induction h with
  | num n i h =>
    intro hn m A hm
    obtain ⟨m, rfl⟩ : ∃ k, m = k + 1 := ⟨m - 1, by omega⟩
    refine sat_body rfl (sat_seq ?_)
    simp only [EV, Ab.isNon, args, List.map, List.length_cons, List.length_nil, List.length_singleton, List.replicate, Nat.reduceSub, Nat.reduceAdd, Nat.zero_add, List.cons_append, List.nil_append, List.getElem?_cons_zero, List.getElem?_cons_succ, List.set_cons_zero, List.set_cons_succ, Option.some.injEq, decide_eq_true_eq, Bool.not_eq_true', decide_eq_false_iff_not, ite_true, ite_false, if_true, if_false, reduceIte, Bool.false_eq_true, Bool.not_true, Bool.not_false, Bool.true_eq_false, decide_true, decide_false, Nat.reduceLeDiff, Nat.reduceLT, ixa]
    refine sat_seq ?_
    simp only [EV, Ab.isNon, args, List.map, List.length_cons, List.length_nil, List.length_singleton, List.replicate, Nat.reduceSub, Nat.reduceAdd, Nat.zero_add, List.cons_append, List.nil_append, List.getElem?_cons_zero, List.getElem?_cons_succ, List.set_cons_zero, List.set_cons_succ, Option.some.injEq, decide_eq_true_eq, Bool.not_eq_true', decide_eq_false_iff_not, ite_true, ite_false, if_true, if_false, reduceIte, Bool.false_eq_true, Bool.not_true, Bool.not_false, Bool.true_eq_false, decide_true, decide_false, Nat.reduceLeDiff, Nat.reduceLT, ixb, ev_str_i h]
    exact ⟨trivial, .refl⟩
  | name n x h =>
    intro hn m A hm
    obtain ⟨m, rfl⟩ : ∃ k, m = k + 1 := ⟨m - 1, by omega⟩
    refine sat_body rfl (sat_seq ?_)
    simp only [EV, Ab.isNon, args, List.map, List.length_cons, List.length_nil, List.length_singleton, List.replicate, Nat.reduceSub, Nat.reduceAdd, Nat.zero_add, List.cons_append, List.nil_append, List.getElem?_cons_zero, List.getElem?_cons_succ, List.set_cons_zero, List.set_cons_succ, Option.some.injEq, decide_eq_true_eq, Bool.not_eq_true', decide_eq_false_iff_not, ite_true, ite_false, if_true, if_false, reduceIte, Bool.false_eq_true, Bool.not_true, Bool.not_false, Bool.true_eq_false, decide_true, decide_false, Nat.reduceLeDiff, Nat.reduceLT, ixa]
    refine sat_seq ?_; simp only [EV, Ab.isNon, args, List.map, List.length_cons, List.length_nil, List.length_singleton, List.replicate, Nat.reduceSub, Nat.reduceAdd, Nat.zero_add, List.cons_append, List.nil_append, List.getElem?_cons_zero, List.getElem?_cons_succ, List.set_cons_zero, List.set_cons_succ, Option.some.injEq, decide_eq_true_eq, Bool.not_eq_true', decide_eq_false_iff_not, ite_true, ite_false, if_true, if_false, reduceIte, Bool.false_eq_true, Bool.not_true, Bool.not_false, Bool.true_eq_false, decide_true, decide_false, Nat.reduceLeDiff, Nat.reduceLT, q5]
    refine sat_seq ?_; simp only [EV, Ab.isNon, args, List.map, List.length_cons, List.length_nil, List.length_singleton, List.replicate, Nat.reduceSub, Nat.reduceAdd, Nat.zero_add, List.cons_append, List.nil_append, List.getElem?_cons_zero, List.getElem?_cons_succ, List.set_cons_zero, List.set_cons_succ, Option.some.injEq, decide_eq_true_eq, Bool.not_eq_true', decide_eq_false_iff_not, ite_true, ite_false, if_true, if_false, reduceIte, Bool.false_eq_true, Bool.not_true, Bool.not_false, Bool.true_eq_false, decide_true, decide_false, Nat.reduceLeDiff, Nat.reduceLT, q6]
    refine sat_seq ?_; simp only [EV, Ab.isNon, args, List.map, List.length_cons, List.length_nil, List.length_singleton, List.replicate, Nat.reduceSub, Nat.reduceAdd, Nat.zero_add, List.cons_append, List.nil_append, List.getElem?_cons_zero, List.getElem?_cons_succ, List.set_cons_zero, List.set_cons_succ, Option.some.injEq, decide_eq_true_eq, Bool.not_eq_true', decide_eq_false_iff_not, ite_true, ite_false, if_true, if_false, reduceIte, Bool.false_eq_true, Bool.not_true, Bool.not_false, Bool.true_eq_false, decide_true, decide_false, Nat.reduceLeDiff, Nat.reduceLT, q7]
    refine sat_seq ?_; simp only [EV, Ab.isNon, args, List.map, List.length_cons, List.length_nil, List.length_singleton, List.replicate, Nat.reduceSub, Nat.reduceAdd, Nat.zero_add, List.cons_append, List.nil_append, List.getElem?_cons_zero, List.getElem?_cons_succ, List.set_cons_zero, List.set_cons_succ, Option.some.injEq, decide_eq_true_eq, Bool.not_eq_true', decide_eq_false_iff_not, ite_true, ite_false, if_true, if_false, reduceIte, Bool.false_eq_true, Bool.not_true, Bool.not_false, Bool.true_eq_false, decide_true, decide_false, Nat.reduceLeDiff, Nat.reduceLT, ixb]
    exact ⟨trivial, .refl⟩
  | flag n b =>
    intro hn m A hm
    obtain ⟨m, rfl⟩ : ∃ k, m = k + 1 := ⟨m - 1, by omega⟩
    refine sat_body rfl (sat_seq ?_)
    simp only [EV, Ab.isNon, args, List.map, List.length_cons, List.length_nil, List.length_singleton, List.replicate, Nat.reduceSub, Nat.reduceAdd, Nat.zero_add, List.cons_append, List.nil_append, List.getElem?_cons_zero, List.getElem?_cons_succ, List.set_cons_zero, List.set_cons_succ, Option.some.injEq, decide_eq_true_eq, Bool.not_eq_true', decide_eq_false_iff_not, ite_true, ite_false, if_true, if_false, reduceIte, Bool.false_eq_true, Bool.not_true, Bool.not_false, Bool.true_eq_false, decide_true, decide_false, Nat.reduceLeDiff, Nat.reduceLT, ixa]
    refine sat_seq ?_; simp only [EV, Ab.isNon, args, List.map, List.length_cons, List.length_nil, List.length_singleton, List.replicate, Nat.reduceSub, Nat.reduceAdd, Nat.zero_add, List.cons_append, List.nil_append, List.getElem?_cons_zero, List.getElem?_cons_succ, List.set_cons_zero, List.set_cons_succ, Option.some.injEq, decide_eq_true_eq, Bool.not_eq_true', decide_eq_false_iff_not, ite_true, ite_false, if_true, if_false, reduceIte, Bool.false_eq_true, Bool.not_true, Bool.not_false, Bool.true_eq_false, decide_true, decide_false, Nat.reduceLeDiff, Nat.reduceLT, q2]
    refine sat_seq ?_; simp only [EV, Ab.isNon, args, List.map, List.length_cons, List.length_nil, List.length_singleton, List.replicate, Nat.reduceSub, Nat.reduceAdd, Nat.zero_add, List.cons_append, List.nil_append, List.getElem?_cons_zero, List.getElem?_cons_succ, List.set_cons_zero, List.set_cons_succ, Option.some.injEq, decide_eq_true_eq, Bool.not_eq_true', decide_eq_false_iff_not, ite_true, ite_false, if_true, if_false, reduceIte, Bool.false_eq_true, Bool.not_true, Bool.not_false, Bool.true_eq_false, decide_true, decide_false, Nat.reduceLeDiff, Nat.reduceLT, ixb]
    rw [ev_ix_r (x := .str (if b then "true" else "false")) (rdL_l at_new) (by cases b <;> (simp only [if_true, if_false, Bool.false_eq_true]; rw [atI_pos (by decide)]; rfl))]
    exact ⟨rfl, .app⟩
  | null n =>
    intro hn m A hm
    obtain ⟨m, rfl⟩ : ∃ k, m = k + 1 := ⟨m - 1, by omega⟩
    refine sat_body rfl (sat_seq ?_)
    simp only [EV, Ab.isNon, args, List.map, List.length_cons, List.length_nil, List.length_singleton, List.replicate, Nat.reduceSub, Nat.reduceAdd, Nat.zero_add, List.cons_append, List.nil_append, List.getElem?_cons_zero, List.getElem?_cons_succ, List.set_cons_zero, List.set_cons_succ, Option.some.injEq, decide_eq_true_eq, Bool.not_eq_true', decide_eq_false_iff_not, ite_true, ite_false, if_true, if_false, reduceIte, Bool.false_eq_true, Bool.not_true, Bool.not_false, Bool.true_eq_false, decide_true, decide_false, Nat.reduceLeDiff, Nat.reduceLT, ixa]
    refine sat_seq ?_; simp only [EV, Ab.isNon, args, List.map, List.length_cons, List.length_nil, List.length_singleton, List.replicate, Nat.reduceSub, Nat.reduceAdd, Nat.zero_add, List.cons_append, List.nil_append, List.getElem?_cons_zero, List.getElem?_cons_succ, List.set_cons_zero, List.set_cons_succ, Option.some.injEq, decide_eq_true_eq, Bool.not_eq_true', decide_eq_false_iff_not, ite_true, ite_false, if_true, if_false, reduceIte, Bool.false_eq_true, Bool.not_true, Bool.not_false, Bool.true_eq_false, decide_true, decide_false, Nat.reduceLeDiff, Nat.reduceLT, q3]
    refine sat_seq ?_; simp only [EV, Ab.isNon, args, List.map, List.length_cons, List.length_nil, List.length_singleton, List.replicate, Nat.reduceSub, Nat.reduceAdd, Nat.zero_add, List.cons_append, List.nil_append, List.getElem?_cons_zero, List.getElem?_cons_succ, List.set_cons_zero, List.set_cons_succ, Option.some.injEq, decide_eq_true_eq, Bool.not_eq_true', decide_eq_false_iff_not, ite_true, ite_false, if_true, if_false, reduceIte, Bool.false_eq_true, Bool.not_true, Bool.not_false, Bool.true_eq_false, decide_true, decide_false, Nat.reduceLeDiff, Nat.reduceLT, q4]
    refine sat_seq ?_; simp only [EV, Ab.isNon, args, List.map, List.length_cons, List.length_nil, List.length_singleton, List.replicate, Nat.reduceSub, Nat.reduceAdd, Nat.zero_add, List.cons_append, List.nil_append, List.getElem?_cons_zero, List.getElem?_cons_succ, List.set_cons_zero, List.set_cons_succ, Option.some.injEq, decide_eq_true_eq, Bool.not_eq_true', decide_eq_false_iff_not, ite_true, ite_false, if_true, if_false, reduceIte, Bool.false_eq_true, Bool.not_true, Bool.not_false, Bool.true_eq_false, decide_true, decide_false, Nat.reduceLeDiff, Nat.reduceLT]
    exact ⟨trivial, .refl⟩
  | neg n d t h ih =>
    intro hn m A hm
    obtain ⟨m, rfl⟩ : ∃ k, m = k + 1 := ⟨m - 1, by omega⟩
    have z := (Ex.neg n d t h).fits hn
    refine sat_body rfl (sat_seq ?_)
    simp only [EV, Ab.isNon, args, List.map, List.length_cons, List.length_nil, List.length_singleton, List.replicate, Nat.reduceSub, Nat.reduceAdd, Nat.zero_add, List.cons_append, List.nil_append, List.getElem?_cons_zero, List.getElem?_cons_succ, List.set_cons_zero, List.set_cons_succ, Option.some.injEq, decide_eq_true_eq, Bool.not_eq_true', decide_eq_false_iff_not, ite_true, ite_false, if_true, if_false, reduceIte, Bool.false_eq_true, Bool.not_true, Bool.not_false, Bool.true_eq_false, decide_true, decide_false, Nat.reduceLeDiff, Nat.reduceLT, ixa]
    refine sat_seq ?_; simp only [EV, Ab.isNon, args, List.map, List.length_cons, List.length_nil, List.length_singleton, List.replicate, Nat.reduceSub, Nat.reduceAdd, Nat.zero_add, List.cons_append, List.nil_append, List.getElem?_cons_zero, List.getElem?_cons_succ, List.set_cons_zero, List.set_cons_succ, Option.some.injEq, decide_eq_true_eq, Bool.not_eq_true', decide_eq_false_iff_not, ite_true, ite_false, if_true, if_false, reduceIte, Bool.false_eq_true, Bool.not_true, Bool.not_false, Bool.true_eq_false, decide_true, decide_false, Nat.reduceLeDiff, Nat.reduceLT, q8]
    refine sat_seq ?_; simp only [EV, Ab.isNon, args, List.map, List.length_cons, List.length_nil, List.length_singleton, List.replicate, Nat.reduceSub, Nat.reduceAdd, Nat.zero_add, List.cons_append, List.nil_append, List.getElem?_cons_zero, List.getElem?_cons_succ, List.set_cons_zero, List.set_cons_succ, Option.some.injEq, decide_eq_true_eq, Bool.not_eq_true', decide_eq_false_iff_not, ite_true, ite_false, if_true, if_false, reduceIte, Bool.false_eq_true, Bool.not_true, Bool.not_false, Bool.true_eq_false, decide_true, decide_false, Nat.reduceLeDiff, Nat.reduceLT, q9]
    refine sat_seq ?_; simp only [EV, Ab.isNon, args, List.map, List.length_cons, List.length_nil, List.length_singleton, List.replicate, Nat.reduceSub, Nat.reduceAdd, Nat.zero_add, List.cons_append, List.nil_append, List.getElem?_cons_zero, List.getElem?_cons_succ, List.set_cons_zero, List.set_cons_succ, Option.some.injEq, decide_eq_true_eq, Bool.not_eq_true', decide_eq_false_iff_not, ite_true, ite_false, if_true, if_false, reduceIte, Bool.false_eq_true, Bool.not_true, Bool.not_false, Bool.true_eq_false, decide_true, decide_false, Nat.reduceLeDiff, Nat.reduceLT, q10]
    refine sat_seq ?_; simp only [EV, Ab.isNon, args, List.map, List.length_cons, List.length_nil, List.length_singleton, List.replicate, Nat.reduceSub, Nat.reduceAdd, Nat.zero_add, List.cons_append, List.nil_append, List.getElem?_cons_zero, List.getElem?_cons_succ, List.set_cons_zero, List.set_cons_succ, Option.some.injEq, decide_eq_true_eq, Bool.not_eq_true', decide_eq_false_iff_not, ite_true, ite_false, if_true, if_false, reduceIte, Bool.false_eq_true, Bool.not_true, Bool.not_false, Bool.true_eq_false, decide_true, decide_false, Nat.reduceLeDiff, Nat.reduceLT, q11]
    refine sat_seq ?_; simp only [EV, Ab.isNon, args, List.map, List.length_cons, List.length_nil, List.length_singleton, List.replicate, Nat.reduceSub, Nat.reduceAdd, Nat.zero_add, List.cons_append, List.nil_append, List.getElem?_cons_zero, List.getElem?_cons_succ, List.set_cons_zero, List.set_cons_succ, Option.some.injEq, decide_eq_true_eq, Bool.not_eq_true', decide_eq_false_iff_not, ite_true, ite_false, if_true, if_false, reduceIte, Bool.false_eq_true, Bool.not_true, Bool.not_false, Bool.true_eq_false, decide_true, decide_false, Nat.reduceLeDiff, Nat.reduceLT, ixb]
    simp only [str_len] at z
    refine Sat.imp (ih (by omega) m A (by omega)) fun e A1 ⟨e1, G⟩ => ?_
    subst e1
    rw [add_ss (by simp only [str_len]; omega), sat_ok, add_ss (by simp only [str_len]; omega)]
    exact ⟨rfl, G⟩
  | op n w d e t u hw h h' ih ih' =>
    intro hn m A hm
    obtain ⟨m, rfl⟩ : ∃ k, m = k + 1 := ⟨m - 1, by omega⟩
    have z := (Ex.op n w d e t u hw h h').fits hn
    obtain ⟨w1, w2, w3, w4, w5⟩ := ops_not hw
    refine sat_body rfl (sat_seq ?_)
    simp only [EV, Ab.isNon, args, List.map, List.length_cons, List.length_nil, List.length_singleton, List.replicate, Nat.reduceSub, Nat.reduceAdd, Nat.zero_add, List.cons_append, List.nil_append, List.getElem?_cons_zero, List.getElem?_cons_succ, List.set_cons_zero, List.set_cons_succ, Option.some.injEq, decide_eq_true_eq, Bool.not_eq_true', decide_eq_false_iff_not, ite_true, ite_false, if_true, if_false, reduceIte, Bool.false_eq_true, Bool.not_true, Bool.not_false, Bool.true_eq_false, decide_true, decide_false, Nat.reduceLeDiff, Nat.reduceLT, ixa]
    refine sat_seq ?_; simp only [EV, Ab.isNon, args, List.map, List.length_cons, List.length_nil, List.length_singleton, List.replicate, Nat.reduceSub, Nat.reduceAdd, Nat.zero_add, List.cons_append, List.nil_append, List.getElem?_cons_zero, List.getElem?_cons_succ, List.set_cons_zero, List.set_cons_succ, Option.some.injEq, decide_eq_true_eq, Bool.not_eq_true', decide_eq_false_iff_not, ite_true, ite_false, if_true, if_false, reduceIte, Bool.false_eq_true, Bool.not_true, Bool.not_false, Bool.true_eq_false, decide_true, decide_false, Nat.reduceLeDiff, Nat.reduceLT, w1]
    refine sat_seq ?_; simp only [EV, Ab.isNon, args, List.map, List.length_cons, List.length_nil, List.length_singleton, List.replicate, Nat.reduceSub, Nat.reduceAdd, Nat.zero_add, List.cons_append, List.nil_append, List.getElem?_cons_zero, List.getElem?_cons_succ, List.set_cons_zero, List.set_cons_succ, Option.some.injEq, decide_eq_true_eq, Bool.not_eq_true', decide_eq_false_iff_not, ite_true, ite_false, if_true, if_false, reduceIte, Bool.false_eq_true, Bool.not_true, Bool.not_false, Bool.true_eq_false, decide_true, decide_false, Nat.reduceLeDiff, Nat.reduceLT, w2]
    refine sat_seq ?_; simp only [EV, Ab.isNon, args, List.map, List.length_cons, List.length_nil, List.length_singleton, List.replicate, Nat.reduceSub, Nat.reduceAdd, Nat.zero_add, List.cons_append, List.nil_append, List.getElem?_cons_zero, List.getElem?_cons_succ, List.set_cons_zero, List.set_cons_succ, Option.some.injEq, decide_eq_true_eq, Bool.not_eq_true', decide_eq_false_iff_not, ite_true, ite_false, if_true, if_false, reduceIte, Bool.false_eq_true, Bool.not_true, Bool.not_false, Bool.true_eq_false, decide_true, decide_false, Nat.reduceLeDiff, Nat.reduceLT, w3]
    refine sat_seq ?_; simp only [EV, Ab.isNon, args, List.map, List.length_cons, List.length_nil, List.length_singleton, List.replicate, Nat.reduceSub, Nat.reduceAdd, Nat.zero_add, List.cons_append, List.nil_append, List.getElem?_cons_zero, List.getElem?_cons_succ, List.set_cons_zero, List.set_cons_succ, Option.some.injEq, decide_eq_true_eq, Bool.not_eq_true', decide_eq_false_iff_not, ite_true, ite_false, if_true, if_false, reduceIte, Bool.false_eq_true, Bool.not_true, Bool.not_false, Bool.true_eq_false, decide_true, decide_false, Nat.reduceLeDiff, Nat.reduceLT, w4]
    refine sat_seq ?_; simp only [EV, Ab.isNon, args, List.map, List.length_cons, List.length_nil, List.length_singleton, List.replicate, Nat.reduceSub, Nat.reduceAdd, Nat.zero_add, List.cons_append, List.nil_append, List.getElem?_cons_zero, List.getElem?_cons_succ, List.set_cons_zero, List.set_cons_succ, Option.some.injEq, decide_eq_true_eq, Bool.not_eq_true', decide_eq_false_iff_not, ite_true, ite_false, if_true, if_false, reduceIte, Bool.false_eq_true, Bool.not_true, Bool.not_false, Bool.true_eq_false, decide_true, decide_false, Nat.reduceLeDiff, Nat.reduceLT, w5, ixb]
    simp only [str_len] at z
    refine Sat.imp (ih (by omega) m A (by omega)) fun e A1 ⟨e1, G⟩ => ?_
    subst e1
    rw [add_ss (by simp only [str_len]; omega), sat_ok, add_ss (by simp only [str_len]; omega), sat_ok]
    rw [add_ss (by simp only [str_len]; omega), sat_ok]
    rw [add_ss (by simp only [str_len]; omega), sat_ok]
    simp only [ixc, EV, Ab.isNon, args, List.map, List.length_cons, List.length_nil, List.length_singleton, List.replicate, Nat.reduceSub, Nat.reduceAdd, Nat.zero_add, List.cons_append, List.nil_append, List.getElem?_cons_zero, List.getElem?_cons_succ, List.set_cons_zero, List.set_cons_succ, Option.some.injEq, decide_eq_true_eq, Bool.not_eq_true', decide_eq_false_iff_not, ite_true, ite_false, if_true, if_false, reduceIte, Bool.false_eq_true, Bool.not_true, Bool.not_false, Bool.true_eq_false, decide_true, decide_false, Nat.reduceLeDiff, Nat.reduceLT]
    refine Sat.imp (ih' (by omega) m A1 (by omega)) fun e A2 ⟨e1, G2⟩ => ?_
    subst e1
    rw [add_ss (by simp only [str_len]; omega), sat_ok]
    rw [add_ss (by simp only [str_len]; omega)]
    exact ⟨rfl, G.trans G2⟩
def KT (d : D) (t : Str) : Prop := ∀ A, m_kind_text [d] A = .ok (.str t) A ∧ m__law_kind_text [d] A = .ok (.str t) A
theorem kt_flag : KT (.tup [.str "flag"]) "flag" := by
  intro A
  have k1 : Sat (m_kind_text [.tup [.str "flag"]] A) fun e A' => e = .str "flag" ∧ A' = A := by
    refine sat_body rfl (sat_seq ?_)
    simp only [EV, Ab.isNon, args, List.map, List.length_cons, List.length_nil, List.length_singleton, List.replicate, Nat.reduceSub, Nat.reduceAdd, Nat.zero_add, List.cons_append, List.nil_append, List.getElem?_cons_zero, List.getElem?_cons_succ, List.set_cons_zero, List.set_cons_succ, Option.some.injEq, decide_eq_true_eq, Bool.not_eq_true', decide_eq_false_iff_not, ite_true, ite_false, if_true, if_false, reduceIte, Bool.false_eq_true, Bool.not_true, Bool.not_false, Bool.true_eq_false, decide_true, decide_false, Nat.reduceLeDiff, Nat.reduceLT, ixa]
    trivial
  have k2 : Sat (m__law_kind_text [.tup [.str "flag"]] A) fun e A' => e = .str "flag" ∧ A' = A := by
    refine sat_body rfl (sat_seq ?_)
    simp only [EV, Ab.isNon, args, List.map, List.length_cons, List.length_nil, List.length_singleton, List.replicate, Nat.reduceSub, Nat.reduceAdd, Nat.zero_add, List.cons_append, List.nil_append, List.getElem?_cons_zero, List.getElem?_cons_succ, List.set_cons_zero, List.set_cons_succ, Option.some.injEq, decide_eq_true_eq, Bool.not_eq_true', decide_eq_false_iff_not, ite_true, ite_false, if_true, if_false, reduceIte, Bool.false_eq_true, Bool.not_true, Bool.not_false, Bool.true_eq_false, decide_true, decide_false, Nat.reduceLeDiff, Nat.reduceLT, ixa]
    trivial
  obtain ⟨e, A', h1, rfl, rfl⟩ := k1.eq
  obtain ⟨e, A', h2, rfl, rfl⟩ := k2.eq
  exact ⟨h1, h2⟩
theorem kt_ref {x : Str} : KT (.tup [.str "ref", .str x]) x := by
  intro A
  have k1 : Sat (m_kind_text [.tup [.str "ref", .str x]] A) fun e A' => e = .str x ∧ A' = A := by
    refine sat_body rfl (sat_seq ?_)
    simp only [EV, Ab.isNon, args, List.map, List.length_cons, List.length_nil, List.length_singleton, List.replicate, Nat.reduceSub, Nat.reduceAdd, Nat.zero_add, List.cons_append, List.nil_append, List.getElem?_cons_zero, List.getElem?_cons_succ, List.set_cons_zero, List.set_cons_succ, Option.some.injEq, decide_eq_true_eq, Bool.not_eq_true', decide_eq_false_iff_not, ite_true, ite_false, if_true, if_false, reduceIte, Bool.false_eq_true, Bool.not_true, Bool.not_false, Bool.true_eq_false, decide_true, decide_false, Nat.reduceLeDiff, Nat.reduceLT, ixa, q12]
    refine sat_seq ?_
    simp only [EV, Ab.isNon, args, List.map, List.length_cons, List.length_nil, List.length_singleton, List.replicate, Nat.reduceSub, Nat.reduceAdd, Nat.zero_add, List.cons_append, List.nil_append, List.getElem?_cons_zero, List.getElem?_cons_succ, List.set_cons_zero, List.set_cons_succ, Option.some.injEq, decide_eq_true_eq, Bool.not_eq_true', decide_eq_false_iff_not, ite_true, ite_false, if_true, if_false, reduceIte, Bool.false_eq_true, Bool.not_true, Bool.not_false, Bool.true_eq_false, decide_true, decide_false, Nat.reduceLeDiff, Nat.reduceLT, ixa, ixb, q13]
    trivial
  have k2 : Sat (m__law_kind_text [.tup [.str "ref", .str x]] A) fun e A' => e = .str x ∧ A' = A := by
    refine sat_body rfl (sat_seq ?_)
    simp only [EV, Ab.isNon, args, List.map, List.length_cons, List.length_nil, List.length_singleton, List.replicate, Nat.reduceSub, Nat.reduceAdd, Nat.zero_add, List.cons_append, List.nil_append, List.getElem?_cons_zero, List.getElem?_cons_succ, List.set_cons_zero, List.set_cons_succ, Option.some.injEq, decide_eq_true_eq, Bool.not_eq_true', decide_eq_false_iff_not, ite_true, ite_false, if_true, if_false, reduceIte, Bool.false_eq_true, Bool.not_true, Bool.not_false, Bool.true_eq_false, decide_true, decide_false, Nat.reduceLeDiff, Nat.reduceLT, ixa, q12]
    refine sat_seq ?_
    simp only [EV, Ab.isNon, args, List.map, List.length_cons, List.length_nil, List.length_singleton, List.replicate, Nat.reduceSub, Nat.reduceAdd, Nat.zero_add, List.cons_append, List.nil_append, List.getElem?_cons_zero, List.getElem?_cons_succ, List.set_cons_zero, List.set_cons_succ, Option.some.injEq, decide_eq_true_eq, Bool.not_eq_true', decide_eq_false_iff_not, ite_true, ite_false, if_true, if_false, reduceIte, Bool.false_eq_true, Bool.not_true, Bool.not_false, Bool.true_eq_false, decide_true, decide_false, Nat.reduceLeDiff, Nat.reduceLT, ixa, ixb]
    trivial
  obtain ⟨e, A', h1, rfl, rfl⟩ := k1.eq
  obtain ⟨e, A', h2, rfl, rfl⟩ := k2.eq
  exact ⟨h1, h2⟩
theorem kt_num {i j : Int} (hi : i.natAbs < 10 ^ 12) (hj : j.natAbs < 10 ^ 12) : KT (.tup [.str "num", .int i, .int j]) ((toString i : Str) ++ ".." ++ (toString j : Str)) := by
  intro A
  have l1 := num_len hi
  have l2 := num_len hj
  have k1 : Sat (m_kind_text [.tup [.str "num", .int i, .int j]] A) fun e A' => e = .str ((toString i : Str) ++ ".." ++ (toString j : Str)) ∧ A' = A := by
    refine sat_body rfl (sat_seq ?_)
    simp only [EV, Ab.isNon, args, List.map, List.length_cons, List.length_nil, List.length_singleton, List.replicate, Nat.reduceSub, Nat.reduceAdd, Nat.zero_add, List.cons_append, List.nil_append, List.getElem?_cons_zero, List.getElem?_cons_succ, List.set_cons_zero, List.set_cons_succ, Option.some.injEq, decide_eq_true_eq, Bool.not_eq_true', decide_eq_false_iff_not, ite_true, ite_false, if_true, if_false, reduceIte, Bool.false_eq_true, Bool.not_true, Bool.not_false, Bool.true_eq_false, decide_true, decide_false, Nat.reduceLeDiff, Nat.reduceLT, ixa, q1]
    refine sat_seq ?_
    simp only [EV, Ab.isNon, args, List.map, List.length_cons, List.length_nil, List.length_singleton, List.replicate, Nat.reduceSub, Nat.reduceAdd, Nat.zero_add, List.cons_append, List.nil_append, List.getElem?_cons_zero, List.getElem?_cons_succ, List.set_cons_zero, List.set_cons_succ, Option.some.injEq, decide_eq_true_eq, Bool.not_eq_true', decide_eq_false_iff_not, ite_true, ite_false, if_true, if_false, reduceIte, Bool.false_eq_true, Bool.not_true, Bool.not_false, Bool.true_eq_false, decide_true, decide_false, Nat.reduceLeDiff, Nat.reduceLT, ixa]
    rw [ev_jc (y := toString i) (A1 := A) (by simp only [EV, Ab.isNon, args, List.map, List.length_cons, List.length_nil, List.length_singleton, List.replicate, Nat.reduceSub, Nat.reduceAdd, Nat.zero_add, List.cons_append, List.nil_append, List.getElem?_cons_zero, List.getElem?_cons_succ, List.set_cons_zero, List.set_cons_succ, Option.some.injEq, decide_eq_true_eq, Bool.not_eq_true', decide_eq_false_iff_not, ite_true, ite_false, if_true, if_false, reduceIte, Bool.false_eq_true, Bool.not_true, Bool.not_false, Bool.true_eq_false, decide_true, decide_false, Nat.reduceLeDiff, Nat.reduceLT, ixb, ev_fmt_i hi]) (by rw [empty_app]; omega), empty_app]
    rw [ev_jc (y := "..") rfl (by simp only [str_len]; show _ + 2 ≤ _; omega)]
    rw [ev_jc (y := toString j) (A1 := A) (by simp only [EV, Ab.isNon, args, List.map, List.length_cons, List.length_nil, List.length_singleton, List.replicate, Nat.reduceSub, Nat.reduceAdd, Nat.zero_add, List.cons_append, List.nil_append, List.getElem?_cons_zero, List.getElem?_cons_succ, List.set_cons_zero, List.set_cons_succ, Option.some.injEq, decide_eq_true_eq, Bool.not_eq_true', decide_eq_false_iff_not, ite_true, ite_false, if_true, if_false, reduceIte, Bool.false_eq_true, Bool.not_true, Bool.not_false, Bool.true_eq_false, decide_true, decide_false, Nat.reduceLeDiff, Nat.reduceLT, ixc, ev_fmt_i hj]) (by simp only [str_len]; show _ + 2 + _ ≤ _; omega), ev_j0]
    simp only [EV, Ab.isNon, args, List.map, List.length_cons, List.length_nil, List.length_singleton, List.replicate, Nat.reduceSub, Nat.reduceAdd, Nat.zero_add, List.cons_append, List.nil_append, List.getElem?_cons_zero, List.getElem?_cons_succ, List.set_cons_zero, List.set_cons_succ, Option.some.injEq, decide_eq_true_eq, Bool.not_eq_true', decide_eq_false_iff_not, ite_true, ite_false, if_true, if_false, reduceIte, Bool.false_eq_true, Bool.not_true, Bool.not_false, Bool.true_eq_false, decide_true, decide_false, Nat.reduceLeDiff, Nat.reduceLT]
    trivial
  have k2 : Sat (m__law_kind_text [.tup [.str "num", .int i, .int j]] A) fun e A' => e = .str ((toString i : Str) ++ ".." ++ (toString j : Str)) ∧ A' = A := by
    refine sat_body rfl (sat_seq ?_)
    simp only [EV, Ab.isNon, args, List.map, List.length_cons, List.length_nil, List.length_singleton, List.replicate, Nat.reduceSub, Nat.reduceAdd, Nat.zero_add, List.cons_append, List.nil_append, List.getElem?_cons_zero, List.getElem?_cons_succ, List.set_cons_zero, List.set_cons_succ, Option.some.injEq, decide_eq_true_eq, Bool.not_eq_true', decide_eq_false_iff_not, ite_true, ite_false, if_true, if_false, reduceIte, Bool.false_eq_true, Bool.not_true, Bool.not_false, Bool.true_eq_false, decide_true, decide_false, Nat.reduceLeDiff, Nat.reduceLT, ixa, q1]
    refine sat_seq ?_
    simp only [EV, Ab.isNon, args, List.map, List.length_cons, List.length_nil, List.length_singleton, List.replicate, Nat.reduceSub, Nat.reduceAdd, Nat.zero_add, List.cons_append, List.nil_append, List.getElem?_cons_zero, List.getElem?_cons_succ, List.set_cons_zero, List.set_cons_succ, Option.some.injEq, decide_eq_true_eq, Bool.not_eq_true', decide_eq_false_iff_not, ite_true, ite_false, if_true, if_false, reduceIte, Bool.false_eq_true, Bool.not_true, Bool.not_false, Bool.true_eq_false, decide_true, decide_false, Nat.reduceLeDiff, Nat.reduceLT, ixa, q14, ixb, ixc, ev_str_i hi, ev_str_i hj]
    rw [add_ss (by simp only [str_len]; show _ + 2 ≤ _; omega), sat_ok]
    rw [add_ss (by simp only [str_len]; show _ + 2 + _ ≤ _; omega)]
    exact ⟨rfl, rfl⟩
  obtain ⟨e, A', h1, rfl, rfl⟩ := k1.eq
  obtain ⟨e, A', h2, rfl, rfl⟩ := k2.eq
  exact ⟨h1, h2⟩
end Law

namespace Law
open PySem PySem.Spec PyProof.Rows L2 Ab
open scoped Classical
/-! ### f-strings without their checks; joined texts -/
def jU : List FE → Str → FE
  | [], acc => fun _ A => .ok (.str acc) A
  | f :: fs, acc => fun s A => (f s A).bind fun d A1 => match d with
    | .str y => jU fs (acc ++ y) s A1
    | _ => .bad
theorem jU_nil {acc : Str} {s : ASt} {A : AH} : jU [] acc s A = .ok (.str acc) A := rfl
theorem jU_cons {f : FE} {fs : List FE} {acc : Str} {s : ASt} {A : AH} : jU (f :: fs) acc s A = (f s A).bind fun d A1 => match d with
    | .str y => jU fs (acc ++ y) s A1
    | _ => .bad := rfl
theorem jU_len : ∀ {fs : List FE} {acc out : Str} {s : ASt} {A B : AH}, jU fs acc s A = .ok (.str out) B → acc.length ≤ out.length
  | [], acc, out, s, A, B, h => by
    rw [jU_nil] at h
    injection h with h _
    injection h with h
    rw [h]; exact Nat.le_refl _
  | f :: fs, acc, out, s, A, B, h => by
    rw [jU_cons] at h
    cases hf : f s A with
    | ok d A1 =>
      rw [hf, bind_ok] at h
      cases d with
      | str y =>
        have := jU_len (show jU fs (acc ++ y) s A1 = _ from h)
        rw [str_len] at this
        omega
      | non => cases h
      | bl b => cases h
      | int i => cases h
      | tup ds => cases h
      | ref i => cases h
    | exc C fs' A1 => rw [hf] at h; cases h
    | bad => rw [hf] at h; cases h
theorem ev_js : ∀ {fs : List FE} {acc out : Str} {s : ASt} {A B : AH}, jU fs acc s A = .ok (.str out) B → out.length ≤ 1000000 → jStrs fs acc s A = .ok (.str out) B
  | [], acc, out, s, A, B, h, z => h
  | f :: fs, acc, out, s, A, B, h, z => by
    rw [jU_cons] at h
    cases hf : f s A with
    | ok d A1 =>
      rw [hf, bind_ok] at h
      cases d with
      | str y =>
        have h : jU fs (acc ++ y) s A1 = _ := h
        rw [ev_jc hf (Nat.le_trans (jU_len h) z)]
        exact ev_js h z
      | non => cases h
      | bl b => cases h
      | int i => cases h
      | tup ds => cases h
      | ref i => cases h
    | exc C fs' A1 => rw [hf] at h; cases h
    | bad => rw [hf] at h; cases h
theorem str_assoc (x y z : Str) : x ++ y ++ z = x ++ (y ++ z) := by
  show Str.mk (x.cps ++ y.cps ++ z.cps) = Str.mk (x.cps ++ (y.cps ++ z.cps))
  rw [Array.append_assoc]
theorem join_len (a : Str) (ys : List Str) : (Txt.join a ys).length ≤ (ys.map (·.length)).sum + ys.length * a.length := by
  have e : Txt.join a ys = Str.join a ys := StrLaws.glued_eq_join ..
  rw [e]; exact StrLaws.join_length_le a ys
theorem sum_le {ys : List Str} {k : Nat} (h : ∀ y ∈ ys, y.length ≤ k) : (ys.map (·.length)).sum ≤ ys.length * k := by
  induction ys with
  | nil => exact Nat.zero_le _
  | cons y ys ih =>
    rw [List.map_cons, List.sum_cons, List.length_cons, Nat.succ_mul]
    have := h y (List.mem_cons_self ..)
    have := ih fun z hz => h z (List.mem_cons_of_mem _ hz)
    omega
/-- the lengths of the words that stand between -/
theorem cl : (" = " : Str).length ≤ 10 ∧ ("." : Str).length ≤ 10 ∧ ("[" : Str).length ≤ 10 ∧ ("]" : Str).length ≤ 10 ∧ ("] = " : Str).length ≤ 10 ∧ ("(" : Str).length ≤ 10 ∧ (")" : Str).length ≤ 10 ∧ (", " : Str).length ≤ 10 ∧ (" " : Str).length ≤ 10 ∧ ("free " : Str).length ≤ 10 ∧ ("input" : Str).length ≤ 10 ∧ ("new" : Str).length ≤ 10 ∧ ("assert" : Str).length ≤ 10 ∧ ("return" : Str).length ≤ 10 ∧ ("if" : Str).length ≤ 10 ∧ ("while" : Str).length ≤ 10 ∧ ("break" : Str).length ≤ 10 ∧ ("else" : Str).length ≤ 10 ∧ ("end" : Str).length ≤ 10 ∧ ("  " : Str).length ≤ 10 ∧ (": " : Str).length ≤ 10 ∧ (".." : Str).length ≤ 10 ∧ ("]: " : Str).length ≤ 10 ∧ ("): " : Str).length ≤ 10 ∧ ("def " : Str).length ≤ 10 ∧ ("var" : Str).length ≤ 10 ∧ ("  var " : Str).length ≤ 10 ∧ ("record " : Str).length ≤ 10 ∧ ("array " : Str).length ≤ 10 ∧ ("global" : Str).length ≤ 10 ∧ ("global " : Str).length ≤ 10 ∧ ("\n" : Str).length ≤ 10 := by decide +kernel
end Law

set_option maxHeartbeats 16000000
namespace Law
open PySem PySem.Spec PyProof.Rows L2 Ab
open scoped Classical
/-! ### lines of statements -/
theorem ixd {d e f g : D} {ds : List D} {A : AH} : ixD (.tup (d :: e :: f :: g :: ds)) (.int 3) A = .ok g A := ev_ix_t (by rw [atI_pos (by decide)]; rfl)
theorem ex_tx {n : Nat} {d : D} {t : Str} (h : Ex n d t) (hn : n ≤ 3) : t.length ≤ 1600 ∧ (∀ A, m_expression_text 20 [d] A = .ok (.str t) A) ∧ (∀ A, Sat (m__law_text 20 [d] A) fun e A' => e = .str t ∧ Gr A A') ∧ ∀ A, fmtD (.str t) A = .ok (.str t) A := by
  have h1 := h.len
  have h2 : 2 ^ n ≤ 2 ^ 3 := Nat.pow_le_pow_right (by decide) hn
  exact ⟨by omega, fun A => text_spec h (by omega) 20 A (by omega), fun A => law_text_spec h (by omega) 20 A (by omega), fun A => ev_fmt_s (by omega)⟩
theorem Ex.tup {n : Nat} {d : D} {t : Str} (h : Ex n d t) : ∃ xs, d = .tup xs := by cases h <;> exact ⟨_, rfl⟩
structure Ln (d : D) (t : Str) : Prop where
  len : t.length ≤ 5000
  p : ∀ A, Sat (m_statement_text [d] A) fun v A' => v = .str t ∧ Gr A A'
  l : ∀ A, Sat (m__law_line [d] A) fun v A' => v = .str t ∧ Gr A A'
def bee (w : Str) : Bool := [("break" : Str), "else", "end"].any fun y => y == w
theorem inb {w : Str} {A : AH} : inD (.str w) (.tup [.str "break", .str "else", .str "end"]) A = .ok (.bl (bee w)) A := by
  have e : inB (.str w) (.tup ((["break", "else", "end"] : List Str).map D.str)) A = some (inV (.str w) ((["break", "else", "end"] : List Str).map V.str)) := by simp only [inB, rdK, rdS, toVs_str, toV]
  have z : inV (.str w) ((["break", "else", "end"] : List Str).map V.str) = bee w := by unfold inV; rw [List.any_map]; rfl
  unfold inD
  show (match inB (.str w) (.tup ((["break", "else", "end"] : List Str).map D.str)) A with | some b => Res.ok (D.bl b) A | none => .bad) = _
  rw [e, z]
theorem bee_brk : bee "break" = true := by decide +kernel
theorem bee_ret : bee "return" = false := by decide +kernel
theorem bee_ast : bee "assert" = false := by decide +kernel
theorem bee_if : bee "if" = false := by decide +kernel
theorem bee_whl : bee "while" = false := by decide +kernel
section
variable {x y z t u : Str} {d e : D} {n : Nat}

theorem ln_set (hx : x.length ≤ 40) (hd : Ex n d t) (hn : n ≤ 3) : Ln (.tup [.str "set", .str x, d]) (x ++ " = " ++ t) := by
  obtain ⟨c1, c2, c3, c4, c5, c6, c7, c8, c9, c10, c11, c12, c13, c14, c15, c16, c17, c18, c19, c20, c21, c22, c23, c24, c25, c26, c27, c28, c29, c30, c31, c32⟩ := cl
  have fx : ∀ A, fmtD (.str x) A = .ok (.str x) A := fun A => ev_fmt_s (by omega)
  obtain ⟨l1, p1, q1, g1⟩ := ex_tx hd hn
  have len : (x ++ " = " ++ t : Str).length ≤ 5000 := by simp only [str_len]; omega
  refine ⟨len, fun A => ?_, fun A => ?_⟩
  · refine sat_body rfl ?_
    unfold p_statement_text
    simp (decide := true) only [EV, Ab.isNon, args, List.map, List.length_cons, List.length_nil, List.length_singleton, List.replicate, Nat.reduceSub, Nat.reduceAdd, Nat.zero_add, List.cons_append, List.nil_append, List.getElem?_cons_zero, List.getElem?_cons_succ, List.set_cons_zero, List.set_cons_succ, Option.some.injEq, decide_eq_true_eq, Bool.not_eq_true', decide_eq_false_iff_not, ite_true, ite_false, if_true, if_false, reduceIte, Bool.false_eq_true, Bool.not_true, Bool.not_false, Bool.true_eq_false, decide_true, decide_false, Nat.reduceLeDiff, Nat.reduceLT, ev_seq, ixa]
    rw [ev_js (out := x ++ " = " ++ t) (B := A) (by simp only [EV, Ab.isNon, args, List.map, List.length_cons, List.length_nil, List.length_singleton, List.replicate, Nat.reduceSub, Nat.reduceAdd, Nat.zero_add, List.cons_append, List.nil_append, List.getElem?_cons_zero, List.getElem?_cons_succ, List.set_cons_zero, List.set_cons_succ, Option.some.injEq, decide_eq_true_eq, Bool.not_eq_true', decide_eq_false_iff_not, ite_true, ite_false, if_true, if_false, reduceIte, Bool.false_eq_true, Bool.not_true, Bool.not_false, Bool.true_eq_false, decide_true, decide_false, Nat.reduceLeDiff, Nat.reduceLT, jU_cons, jU_nil, ixa, ixb, ixc, ixd, fx, p1, g1, empty_app]) (Nat.le_trans len (by decide))]
    simp only [EV, Ab.isNon, args, List.map, List.length_cons, List.length_nil, List.length_singleton, List.replicate, Nat.reduceSub, Nat.reduceAdd, Nat.zero_add, List.cons_append, List.nil_append, List.getElem?_cons_zero, List.getElem?_cons_succ, List.set_cons_zero, List.set_cons_succ, Option.some.injEq, decide_eq_true_eq, Bool.not_eq_true', decide_eq_false_iff_not, ite_true, ite_false, if_true, if_false, reduceIte, Bool.false_eq_true, Bool.not_true, Bool.not_false, Bool.true_eq_false, decide_true, decide_false, Nat.reduceLeDiff, Nat.reduceLT]
    exact ⟨by trivial, .refl⟩
  · refine sat_body rfl ?_
    unfold p__law_line
    simp (decide := true) only [EV, Ab.isNon, args, List.map, List.length_cons, List.length_nil, List.length_singleton, List.replicate, Nat.reduceSub, Nat.reduceAdd, Nat.zero_add, List.cons_append, List.nil_append, List.getElem?_cons_zero, List.getElem?_cons_succ, List.set_cons_zero, List.set_cons_succ, Option.some.injEq, decide_eq_true_eq, Bool.not_eq_true', decide_eq_false_iff_not, ite_true, ite_false, if_true, if_false, reduceIte, Bool.false_eq_true, Bool.not_true, Bool.not_false, Bool.true_eq_false, decide_true, decide_false, Nat.reduceLeDiff, Nat.reduceLT, ev_seq, ixa]
    repeat (first | rw [add_ss (by simp only [str_len]; omega)] | simp only [EV, Ab.isNon, args, List.map, List.length_cons, List.length_nil, List.length_singleton, List.replicate, Nat.reduceSub, Nat.reduceAdd, Nat.zero_add, List.cons_append, List.nil_append, List.getElem?_cons_zero, List.getElem?_cons_succ, List.set_cons_zero, List.set_cons_succ, Option.some.injEq, decide_eq_true_eq, Bool.not_eq_true', decide_eq_false_iff_not, ite_true, ite_false, if_true, if_false, reduceIte, Bool.false_eq_true, Bool.not_true, Bool.not_false, Bool.true_eq_false, decide_true, decide_false, Nat.reduceLeDiff, Nat.reduceLT, ixb, ixc, ixd])
    refine Sat.imp (q1 _) fun v B1 ⟨ev1, G1⟩ => ?_
    subst ev1
    repeat (first | rw [add_ss (by simp only [str_len]; omega)] | simp only [EV, Ab.isNon, args, List.map, List.length_cons, List.length_nil, List.length_singleton, List.replicate, Nat.reduceSub, Nat.reduceAdd, Nat.zero_add, List.cons_append, List.nil_append, List.getElem?_cons_zero, List.getElem?_cons_succ, List.set_cons_zero, List.set_cons_succ, Option.some.injEq, decide_eq_true_eq, Bool.not_eq_true', decide_eq_false_iff_not, ite_true, ite_false, if_true, if_false, reduceIte, Bool.false_eq_true, Bool.not_true, Bool.not_false, Bool.true_eq_false, decide_true, decide_false, Nat.reduceLeDiff, Nat.reduceLT, ixb, ixc, ixd])
    exact ⟨by trivial, G1⟩
theorem ln_input (hx : x.length ≤ 40) : Ln (.tup [.str "input", .str x]) (x ++ " = " ++ "input") := by
  obtain ⟨c1, c2, c3, c4, c5, c6, c7, c8, c9, c10, c11, c12, c13, c14, c15, c16, c17, c18, c19, c20, c21, c22, c23, c24, c25, c26, c27, c28, c29, c30, c31, c32⟩ := cl
  have fx : ∀ A, fmtD (.str x) A = .ok (.str x) A := fun A => ev_fmt_s (by omega)
  have w1 : ∀ A, fmtD (.str "input") A = .ok (.str "input") A := fun A => ev_fmt_s (by omega)
  have len : (x ++ " = " ++ "input" : Str).length ≤ 5000 := by simp only [str_len]; omega
  refine ⟨len, fun A => ?_, fun A => ?_⟩
  · refine sat_body rfl ?_
    unfold p_statement_text
    simp (decide := true) only [EV, Ab.isNon, args, List.map, List.length_cons, List.length_nil, List.length_singleton, List.replicate, Nat.reduceSub, Nat.reduceAdd, Nat.zero_add, List.cons_append, List.nil_append, List.getElem?_cons_zero, List.getElem?_cons_succ, List.set_cons_zero, List.set_cons_succ, Option.some.injEq, decide_eq_true_eq, Bool.not_eq_true', decide_eq_false_iff_not, ite_true, ite_false, if_true, if_false, reduceIte, Bool.false_eq_true, Bool.not_true, Bool.not_false, Bool.true_eq_false, decide_true, decide_false, Nat.reduceLeDiff, Nat.reduceLT, ev_seq, ixa]
    rw [ev_js (out := x ++ " = " ++ "input") (B := A) (by simp only [EV, Ab.isNon, args, List.map, List.length_cons, List.length_nil, List.length_singleton, List.replicate, Nat.reduceSub, Nat.reduceAdd, Nat.zero_add, List.cons_append, List.nil_append, List.getElem?_cons_zero, List.getElem?_cons_succ, List.set_cons_zero, List.set_cons_succ, Option.some.injEq, decide_eq_true_eq, Bool.not_eq_true', decide_eq_false_iff_not, ite_true, ite_false, if_true, if_false, reduceIte, Bool.false_eq_true, Bool.not_true, Bool.not_false, Bool.true_eq_false, decide_true, decide_false, Nat.reduceLeDiff, Nat.reduceLT, jU_cons, jU_nil, ixa, ixb, ixc, ixd, fx, w1, empty_app]) (Nat.le_trans len (by decide))]
    simp only [EV, Ab.isNon, args, List.map, List.length_cons, List.length_nil, List.length_singleton, List.replicate, Nat.reduceSub, Nat.reduceAdd, Nat.zero_add, List.cons_append, List.nil_append, List.getElem?_cons_zero, List.getElem?_cons_succ, List.set_cons_zero, List.set_cons_succ, Option.some.injEq, decide_eq_true_eq, Bool.not_eq_true', decide_eq_false_iff_not, ite_true, ite_false, if_true, if_false, reduceIte, Bool.false_eq_true, Bool.not_true, Bool.not_false, Bool.true_eq_false, decide_true, decide_false, Nat.reduceLeDiff, Nat.reduceLT]
    exact ⟨by trivial, .refl⟩
  · refine sat_body rfl ?_
    unfold p__law_line
    simp (decide := true) only [EV, Ab.isNon, args, List.map, List.length_cons, List.length_nil, List.length_singleton, List.replicate, Nat.reduceSub, Nat.reduceAdd, Nat.zero_add, List.cons_append, List.nil_append, List.getElem?_cons_zero, List.getElem?_cons_succ, List.set_cons_zero, List.set_cons_succ, Option.some.injEq, decide_eq_true_eq, Bool.not_eq_true', decide_eq_false_iff_not, ite_true, ite_false, if_true, if_false, reduceIte, Bool.false_eq_true, Bool.not_true, Bool.not_false, Bool.true_eq_false, decide_true, decide_false, Nat.reduceLeDiff, Nat.reduceLT, ev_seq, ixa]
    repeat (first | rw [add_ss (by simp only [str_len]; omega)] | simp only [EV, Ab.isNon, args, List.map, List.length_cons, List.length_nil, List.length_singleton, List.replicate, Nat.reduceSub, Nat.reduceAdd, Nat.zero_add, List.cons_append, List.nil_append, List.getElem?_cons_zero, List.getElem?_cons_succ, List.set_cons_zero, List.set_cons_succ, Option.some.injEq, decide_eq_true_eq, Bool.not_eq_true', decide_eq_false_iff_not, ite_true, ite_false, if_true, if_false, reduceIte, Bool.false_eq_true, Bool.not_true, Bool.not_false, Bool.true_eq_false, decide_true, decide_false, Nat.reduceLeDiff, Nat.reduceLT, ixb, ixc, ixd])
    exact ⟨by trivial, .refl⟩
theorem ln_new (hx : x.length ≤ 40) : Ln (.tup [.str "new", .str x]) (x ++ " = " ++ "new") := by
  obtain ⟨c1, c2, c3, c4, c5, c6, c7, c8, c9, c10, c11, c12, c13, c14, c15, c16, c17, c18, c19, c20, c21, c22, c23, c24, c25, c26, c27, c28, c29, c30, c31, c32⟩ := cl
  have fx : ∀ A, fmtD (.str x) A = .ok (.str x) A := fun A => ev_fmt_s (by omega)
  have w1 : ∀ A, fmtD (.str "new") A = .ok (.str "new") A := fun A => ev_fmt_s (by omega)
  have len : (x ++ " = " ++ "new" : Str).length ≤ 5000 := by simp only [str_len]; omega
  refine ⟨len, fun A => ?_, fun A => ?_⟩
  · refine sat_body rfl ?_
    unfold p_statement_text
    simp (decide := true) only [EV, Ab.isNon, args, List.map, List.length_cons, List.length_nil, List.length_singleton, List.replicate, Nat.reduceSub, Nat.reduceAdd, Nat.zero_add, List.cons_append, List.nil_append, List.getElem?_cons_zero, List.getElem?_cons_succ, List.set_cons_zero, List.set_cons_succ, Option.some.injEq, decide_eq_true_eq, Bool.not_eq_true', decide_eq_false_iff_not, ite_true, ite_false, if_true, if_false, reduceIte, Bool.false_eq_true, Bool.not_true, Bool.not_false, Bool.true_eq_false, decide_true, decide_false, Nat.reduceLeDiff, Nat.reduceLT, ev_seq, ixa]
    rw [ev_js (out := x ++ " = " ++ "new") (B := A) (by simp only [EV, Ab.isNon, args, List.map, List.length_cons, List.length_nil, List.length_singleton, List.replicate, Nat.reduceSub, Nat.reduceAdd, Nat.zero_add, List.cons_append, List.nil_append, List.getElem?_cons_zero, List.getElem?_cons_succ, List.set_cons_zero, List.set_cons_succ, Option.some.injEq, decide_eq_true_eq, Bool.not_eq_true', decide_eq_false_iff_not, ite_true, ite_false, if_true, if_false, reduceIte, Bool.false_eq_true, Bool.not_true, Bool.not_false, Bool.true_eq_false, decide_true, decide_false, Nat.reduceLeDiff, Nat.reduceLT, jU_cons, jU_nil, ixa, ixb, ixc, ixd, fx, w1, empty_app]) (Nat.le_trans len (by decide))]
    simp only [EV, Ab.isNon, args, List.map, List.length_cons, List.length_nil, List.length_singleton, List.replicate, Nat.reduceSub, Nat.reduceAdd, Nat.zero_add, List.cons_append, List.nil_append, List.getElem?_cons_zero, List.getElem?_cons_succ, List.set_cons_zero, List.set_cons_succ, Option.some.injEq, decide_eq_true_eq, Bool.not_eq_true', decide_eq_false_iff_not, ite_true, ite_false, if_true, if_false, reduceIte, Bool.false_eq_true, Bool.not_true, Bool.not_false, Bool.true_eq_false, decide_true, decide_false, Nat.reduceLeDiff, Nat.reduceLT]
    exact ⟨by trivial, .refl⟩
  · refine sat_body rfl ?_
    unfold p__law_line
    simp (decide := true) only [EV, Ab.isNon, args, List.map, List.length_cons, List.length_nil, List.length_singleton, List.replicate, Nat.reduceSub, Nat.reduceAdd, Nat.zero_add, List.cons_append, List.nil_append, List.getElem?_cons_zero, List.getElem?_cons_succ, List.set_cons_zero, List.set_cons_succ, Option.some.injEq, decide_eq_true_eq, Bool.not_eq_true', decide_eq_false_iff_not, ite_true, ite_false, if_true, if_false, reduceIte, Bool.false_eq_true, Bool.not_true, Bool.not_false, Bool.true_eq_false, decide_true, decide_false, Nat.reduceLeDiff, Nat.reduceLT, ev_seq, ixa]
    repeat (first | rw [add_ss (by simp only [str_len]; omega)] | simp only [EV, Ab.isNon, args, List.map, List.length_cons, List.length_nil, List.length_singleton, List.replicate, Nat.reduceSub, Nat.reduceAdd, Nat.zero_add, List.cons_append, List.nil_append, List.getElem?_cons_zero, List.getElem?_cons_succ, List.set_cons_zero, List.set_cons_succ, Option.some.injEq, decide_eq_true_eq, Bool.not_eq_true', decide_eq_false_iff_not, ite_true, ite_false, if_true, if_false, reduceIte, Bool.false_eq_true, Bool.not_true, Bool.not_false, Bool.true_eq_false, decide_true, decide_false, Nat.reduceLeDiff, Nat.reduceLT, ixb, ixc, ixd])
    exact ⟨by trivial, .refl⟩
theorem ln_free (hx : x.length ≤ 40) : Ln (.tup [.str "free", .str x]) ("free " ++ x) := by
  obtain ⟨c1, c2, c3, c4, c5, c6, c7, c8, c9, c10, c11, c12, c13, c14, c15, c16, c17, c18, c19, c20, c21, c22, c23, c24, c25, c26, c27, c28, c29, c30, c31, c32⟩ := cl
  have fx : ∀ A, fmtD (.str x) A = .ok (.str x) A := fun A => ev_fmt_s (by omega)
  have len : ("free " ++ x : Str).length ≤ 5000 := by simp only [str_len]; omega
  refine ⟨len, fun A => ?_, fun A => ?_⟩
  · refine sat_body rfl ?_
    unfold p_statement_text
    simp (decide := true) only [EV, Ab.isNon, args, List.map, List.length_cons, List.length_nil, List.length_singleton, List.replicate, Nat.reduceSub, Nat.reduceAdd, Nat.zero_add, List.cons_append, List.nil_append, List.getElem?_cons_zero, List.getElem?_cons_succ, List.set_cons_zero, List.set_cons_succ, Option.some.injEq, decide_eq_true_eq, Bool.not_eq_true', decide_eq_false_iff_not, ite_true, ite_false, if_true, if_false, reduceIte, Bool.false_eq_true, Bool.not_true, Bool.not_false, Bool.true_eq_false, decide_true, decide_false, Nat.reduceLeDiff, Nat.reduceLT, ev_seq, ixa]
    rw [ev_js (out := "free " ++ x) (B := A) (by simp only [EV, Ab.isNon, args, List.map, List.length_cons, List.length_nil, List.length_singleton, List.replicate, Nat.reduceSub, Nat.reduceAdd, Nat.zero_add, List.cons_append, List.nil_append, List.getElem?_cons_zero, List.getElem?_cons_succ, List.set_cons_zero, List.set_cons_succ, Option.some.injEq, decide_eq_true_eq, Bool.not_eq_true', decide_eq_false_iff_not, ite_true, ite_false, if_true, if_false, reduceIte, Bool.false_eq_true, Bool.not_true, Bool.not_false, Bool.true_eq_false, decide_true, decide_false, Nat.reduceLeDiff, Nat.reduceLT, jU_cons, jU_nil, ixa, ixb, ixc, ixd, fx, empty_app]) (Nat.le_trans len (by decide))]
    simp only [EV, Ab.isNon, args, List.map, List.length_cons, List.length_nil, List.length_singleton, List.replicate, Nat.reduceSub, Nat.reduceAdd, Nat.zero_add, List.cons_append, List.nil_append, List.getElem?_cons_zero, List.getElem?_cons_succ, List.set_cons_zero, List.set_cons_succ, Option.some.injEq, decide_eq_true_eq, Bool.not_eq_true', decide_eq_false_iff_not, ite_true, ite_false, if_true, if_false, reduceIte, Bool.false_eq_true, Bool.not_true, Bool.not_false, Bool.true_eq_false, decide_true, decide_false, Nat.reduceLeDiff, Nat.reduceLT]
    exact ⟨by trivial, .refl⟩
  · refine sat_body rfl ?_
    unfold p__law_line
    simp (decide := true) only [EV, Ab.isNon, args, List.map, List.length_cons, List.length_nil, List.length_singleton, List.replicate, Nat.reduceSub, Nat.reduceAdd, Nat.zero_add, List.cons_append, List.nil_append, List.getElem?_cons_zero, List.getElem?_cons_succ, List.set_cons_zero, List.set_cons_succ, Option.some.injEq, decide_eq_true_eq, Bool.not_eq_true', decide_eq_false_iff_not, ite_true, ite_false, if_true, if_false, reduceIte, Bool.false_eq_true, Bool.not_true, Bool.not_false, Bool.true_eq_false, decide_true, decide_false, Nat.reduceLeDiff, Nat.reduceLT, ev_seq, ixa]
    repeat (first | rw [add_ss (by simp only [str_len]; omega)] | simp only [EV, Ab.isNon, args, List.map, List.length_cons, List.length_nil, List.length_singleton, List.replicate, Nat.reduceSub, Nat.reduceAdd, Nat.zero_add, List.cons_append, List.nil_append, List.getElem?_cons_zero, List.getElem?_cons_succ, List.set_cons_zero, List.set_cons_succ, Option.some.injEq, decide_eq_true_eq, Bool.not_eq_true', decide_eq_false_iff_not, ite_true, ite_false, if_true, if_false, reduceIte, Bool.false_eq_true, Bool.not_true, Bool.not_false, Bool.true_eq_false, decide_true, decide_false, Nat.reduceLeDiff, Nat.reduceLT, ixb, ixc, ixd])
    exact ⟨by trivial, .refl⟩
theorem ln_load (hx : x.length ≤ 40) (hy : y.length ≤ 40) (hz : z.length ≤ 40) : Ln (.tup [.str "load", .str x, .str y, .str z]) (x ++ " = " ++ y ++ "." ++ z) := by
  obtain ⟨c1, c2, c3, c4, c5, c6, c7, c8, c9, c10, c11, c12, c13, c14, c15, c16, c17, c18, c19, c20, c21, c22, c23, c24, c25, c26, c27, c28, c29, c30, c31, c32⟩ := cl
  have fx : ∀ A, fmtD (.str x) A = .ok (.str x) A := fun A => ev_fmt_s (by omega)
  have fy : ∀ A, fmtD (.str y) A = .ok (.str y) A := fun A => ev_fmt_s (by omega)
  have fz : ∀ A, fmtD (.str z) A = .ok (.str z) A := fun A => ev_fmt_s (by omega)
  have len : (x ++ " = " ++ y ++ "." ++ z : Str).length ≤ 5000 := by simp only [str_len]; omega
  refine ⟨len, fun A => ?_, fun A => ?_⟩
  · refine sat_body rfl ?_
    unfold p_statement_text
    simp (decide := true) only [EV, Ab.isNon, args, List.map, List.length_cons, List.length_nil, List.length_singleton, List.replicate, Nat.reduceSub, Nat.reduceAdd, Nat.zero_add, List.cons_append, List.nil_append, List.getElem?_cons_zero, List.getElem?_cons_succ, List.set_cons_zero, List.set_cons_succ, Option.some.injEq, decide_eq_true_eq, Bool.not_eq_true', decide_eq_false_iff_not, ite_true, ite_false, if_true, if_false, reduceIte, Bool.false_eq_true, Bool.not_true, Bool.not_false, Bool.true_eq_false, decide_true, decide_false, Nat.reduceLeDiff, Nat.reduceLT, ev_seq, ixa]
    rw [ev_js (out := x ++ " = " ++ y ++ "." ++ z) (B := A) (by simp only [EV, Ab.isNon, args, List.map, List.length_cons, List.length_nil, List.length_singleton, List.replicate, Nat.reduceSub, Nat.reduceAdd, Nat.zero_add, List.cons_append, List.nil_append, List.getElem?_cons_zero, List.getElem?_cons_succ, List.set_cons_zero, List.set_cons_succ, Option.some.injEq, decide_eq_true_eq, Bool.not_eq_true', decide_eq_false_iff_not, ite_true, ite_false, if_true, if_false, reduceIte, Bool.false_eq_true, Bool.not_true, Bool.not_false, Bool.true_eq_false, decide_true, decide_false, Nat.reduceLeDiff, Nat.reduceLT, jU_cons, jU_nil, ixa, ixb, ixc, ixd, fx, fy, fz, empty_app]) (Nat.le_trans len (by decide))]
    simp only [EV, Ab.isNon, args, List.map, List.length_cons, List.length_nil, List.length_singleton, List.replicate, Nat.reduceSub, Nat.reduceAdd, Nat.zero_add, List.cons_append, List.nil_append, List.getElem?_cons_zero, List.getElem?_cons_succ, List.set_cons_zero, List.set_cons_succ, Option.some.injEq, decide_eq_true_eq, Bool.not_eq_true', decide_eq_false_iff_not, ite_true, ite_false, if_true, if_false, reduceIte, Bool.false_eq_true, Bool.not_true, Bool.not_false, Bool.true_eq_false, decide_true, decide_false, Nat.reduceLeDiff, Nat.reduceLT]
    exact ⟨by trivial, .refl⟩
  · refine sat_body rfl ?_
    unfold p__law_line
    simp (decide := true) only [EV, Ab.isNon, args, List.map, List.length_cons, List.length_nil, List.length_singleton, List.replicate, Nat.reduceSub, Nat.reduceAdd, Nat.zero_add, List.cons_append, List.nil_append, List.getElem?_cons_zero, List.getElem?_cons_succ, List.set_cons_zero, List.set_cons_succ, Option.some.injEq, decide_eq_true_eq, Bool.not_eq_true', decide_eq_false_iff_not, ite_true, ite_false, if_true, if_false, reduceIte, Bool.false_eq_true, Bool.not_true, Bool.not_false, Bool.true_eq_false, decide_true, decide_false, Nat.reduceLeDiff, Nat.reduceLT, ev_seq, ixa]
    repeat (first | rw [add_ss (by simp only [str_len]; omega)] | simp only [EV, Ab.isNon, args, List.map, List.length_cons, List.length_nil, List.length_singleton, List.replicate, Nat.reduceSub, Nat.reduceAdd, Nat.zero_add, List.cons_append, List.nil_append, List.getElem?_cons_zero, List.getElem?_cons_succ, List.set_cons_zero, List.set_cons_succ, Option.some.injEq, decide_eq_true_eq, Bool.not_eq_true', decide_eq_false_iff_not, ite_true, ite_false, if_true, if_false, reduceIte, Bool.false_eq_true, Bool.not_true, Bool.not_false, Bool.true_eq_false, decide_true, decide_false, Nat.reduceLeDiff, Nat.reduceLT, ixb, ixc, ixd])
    exact ⟨by trivial, .refl⟩
theorem ln_store (hx : x.length ≤ 40) (hy : y.length ≤ 40) (hd : Ex n d t) (hn : n ≤ 3) : Ln (.tup [.str "store", .str x, .str y, d]) (x ++ "." ++ y ++ " = " ++ t) := by
  obtain ⟨c1, c2, c3, c4, c5, c6, c7, c8, c9, c10, c11, c12, c13, c14, c15, c16, c17, c18, c19, c20, c21, c22, c23, c24, c25, c26, c27, c28, c29, c30, c31, c32⟩ := cl
  have fx : ∀ A, fmtD (.str x) A = .ok (.str x) A := fun A => ev_fmt_s (by omega)
  have fy : ∀ A, fmtD (.str y) A = .ok (.str y) A := fun A => ev_fmt_s (by omega)
  obtain ⟨l1, p1, q1, g1⟩ := ex_tx hd hn
  have len : (x ++ "." ++ y ++ " = " ++ t : Str).length ≤ 5000 := by simp only [str_len]; omega
  refine ⟨len, fun A => ?_, fun A => ?_⟩
  · refine sat_body rfl ?_
    unfold p_statement_text
    simp (decide := true) only [EV, Ab.isNon, args, List.map, List.length_cons, List.length_nil, List.length_singleton, List.replicate, Nat.reduceSub, Nat.reduceAdd, Nat.zero_add, List.cons_append, List.nil_append, List.getElem?_cons_zero, List.getElem?_cons_succ, List.set_cons_zero, List.set_cons_succ, Option.some.injEq, decide_eq_true_eq, Bool.not_eq_true', decide_eq_false_iff_not, ite_true, ite_false, if_true, if_false, reduceIte, Bool.false_eq_true, Bool.not_true, Bool.not_false, Bool.true_eq_false, decide_true, decide_false, Nat.reduceLeDiff, Nat.reduceLT, ev_seq, ixa]
    rw [ev_js (out := x ++ "." ++ y ++ " = " ++ t) (B := A) (by simp only [EV, Ab.isNon, args, List.map, List.length_cons, List.length_nil, List.length_singleton, List.replicate, Nat.reduceSub, Nat.reduceAdd, Nat.zero_add, List.cons_append, List.nil_append, List.getElem?_cons_zero, List.getElem?_cons_succ, List.set_cons_zero, List.set_cons_succ, Option.some.injEq, decide_eq_true_eq, Bool.not_eq_true', decide_eq_false_iff_not, ite_true, ite_false, if_true, if_false, reduceIte, Bool.false_eq_true, Bool.not_true, Bool.not_false, Bool.true_eq_false, decide_true, decide_false, Nat.reduceLeDiff, Nat.reduceLT, jU_cons, jU_nil, ixa, ixb, ixc, ixd, fx, fy, p1, g1, empty_app]) (Nat.le_trans len (by decide))]
    simp only [EV, Ab.isNon, args, List.map, List.length_cons, List.length_nil, List.length_singleton, List.replicate, Nat.reduceSub, Nat.reduceAdd, Nat.zero_add, List.cons_append, List.nil_append, List.getElem?_cons_zero, List.getElem?_cons_succ, List.set_cons_zero, List.set_cons_succ, Option.some.injEq, decide_eq_true_eq, Bool.not_eq_true', decide_eq_false_iff_not, ite_true, ite_false, if_true, if_false, reduceIte, Bool.false_eq_true, Bool.not_true, Bool.not_false, Bool.true_eq_false, decide_true, decide_false, Nat.reduceLeDiff, Nat.reduceLT]
    exact ⟨by trivial, .refl⟩
  · refine sat_body rfl ?_
    unfold p__law_line
    simp (decide := true) only [EV, Ab.isNon, args, List.map, List.length_cons, List.length_nil, List.length_singleton, List.replicate, Nat.reduceSub, Nat.reduceAdd, Nat.zero_add, List.cons_append, List.nil_append, List.getElem?_cons_zero, List.getElem?_cons_succ, List.set_cons_zero, List.set_cons_succ, Option.some.injEq, decide_eq_true_eq, Bool.not_eq_true', decide_eq_false_iff_not, ite_true, ite_false, if_true, if_false, reduceIte, Bool.false_eq_true, Bool.not_true, Bool.not_false, Bool.true_eq_false, decide_true, decide_false, Nat.reduceLeDiff, Nat.reduceLT, ev_seq, ixa]
    repeat (first | rw [add_ss (by simp only [str_len]; omega)] | simp only [EV, Ab.isNon, args, List.map, List.length_cons, List.length_nil, List.length_singleton, List.replicate, Nat.reduceSub, Nat.reduceAdd, Nat.zero_add, List.cons_append, List.nil_append, List.getElem?_cons_zero, List.getElem?_cons_succ, List.set_cons_zero, List.set_cons_succ, Option.some.injEq, decide_eq_true_eq, Bool.not_eq_true', decide_eq_false_iff_not, ite_true, ite_false, if_true, if_false, reduceIte, Bool.false_eq_true, Bool.not_true, Bool.not_false, Bool.true_eq_false, decide_true, decide_false, Nat.reduceLeDiff, Nat.reduceLT, ixb, ixc, ixd])
    refine Sat.imp (q1 _) fun v B1 ⟨ev1, G1⟩ => ?_
    subst ev1
    repeat (first | rw [add_ss (by simp only [str_len]; omega)] | simp only [EV, Ab.isNon, args, List.map, List.length_cons, List.length_nil, List.length_singleton, List.replicate, Nat.reduceSub, Nat.reduceAdd, Nat.zero_add, List.cons_append, List.nil_append, List.getElem?_cons_zero, List.getElem?_cons_succ, List.set_cons_zero, List.set_cons_succ, Option.some.injEq, decide_eq_true_eq, Bool.not_eq_true', decide_eq_false_iff_not, ite_true, ite_false, if_true, if_false, reduceIte, Bool.false_eq_true, Bool.not_true, Bool.not_false, Bool.true_eq_false, decide_true, decide_false, Nat.reduceLeDiff, Nat.reduceLT, ixb, ixc, ixd])
    exact ⟨by trivial, G1⟩
theorem ln_get (hx : x.length ≤ 40) (hy : y.length ≤ 40) (hd : Ex n d t) (hn : n ≤ 3) : Ln (.tup [.str "get", .str x, .str y, d]) (x ++ " = " ++ y ++ "[" ++ t ++ "]") := by
  obtain ⟨c1, c2, c3, c4, c5, c6, c7, c8, c9, c10, c11, c12, c13, c14, c15, c16, c17, c18, c19, c20, c21, c22, c23, c24, c25, c26, c27, c28, c29, c30, c31, c32⟩ := cl
  have fx : ∀ A, fmtD (.str x) A = .ok (.str x) A := fun A => ev_fmt_s (by omega)
  have fy : ∀ A, fmtD (.str y) A = .ok (.str y) A := fun A => ev_fmt_s (by omega)
  obtain ⟨l1, p1, q1, g1⟩ := ex_tx hd hn
  have len : (x ++ " = " ++ y ++ "[" ++ t ++ "]" : Str).length ≤ 5000 := by simp only [str_len]; omega
  refine ⟨len, fun A => ?_, fun A => ?_⟩
  · refine sat_body rfl ?_
    unfold p_statement_text
    simp (decide := true) only [EV, Ab.isNon, args, List.map, List.length_cons, List.length_nil, List.length_singleton, List.replicate, Nat.reduceSub, Nat.reduceAdd, Nat.zero_add, List.cons_append, List.nil_append, List.getElem?_cons_zero, List.getElem?_cons_succ, List.set_cons_zero, List.set_cons_succ, Option.some.injEq, decide_eq_true_eq, Bool.not_eq_true', decide_eq_false_iff_not, ite_true, ite_false, if_true, if_false, reduceIte, Bool.false_eq_true, Bool.not_true, Bool.not_false, Bool.true_eq_false, decide_true, decide_false, Nat.reduceLeDiff, Nat.reduceLT, ev_seq, ixa]
    rw [ev_js (out := x ++ " = " ++ y ++ "[" ++ t ++ "]") (B := A) (by simp only [EV, Ab.isNon, args, List.map, List.length_cons, List.length_nil, List.length_singleton, List.replicate, Nat.reduceSub, Nat.reduceAdd, Nat.zero_add, List.cons_append, List.nil_append, List.getElem?_cons_zero, List.getElem?_cons_succ, List.set_cons_zero, List.set_cons_succ, Option.some.injEq, decide_eq_true_eq, Bool.not_eq_true', decide_eq_false_iff_not, ite_true, ite_false, if_true, if_false, reduceIte, Bool.false_eq_true, Bool.not_true, Bool.not_false, Bool.true_eq_false, decide_true, decide_false, Nat.reduceLeDiff, Nat.reduceLT, jU_cons, jU_nil, ixa, ixb, ixc, ixd, fx, fy, p1, g1, empty_app]) (Nat.le_trans len (by decide))]
    simp only [EV, Ab.isNon, args, List.map, List.length_cons, List.length_nil, List.length_singleton, List.replicate, Nat.reduceSub, Nat.reduceAdd, Nat.zero_add, List.cons_append, List.nil_append, List.getElem?_cons_zero, List.getElem?_cons_succ, List.set_cons_zero, List.set_cons_succ, Option.some.injEq, decide_eq_true_eq, Bool.not_eq_true', decide_eq_false_iff_not, ite_true, ite_false, if_true, if_false, reduceIte, Bool.false_eq_true, Bool.not_true, Bool.not_false, Bool.true_eq_false, decide_true, decide_false, Nat.reduceLeDiff, Nat.reduceLT]
    exact ⟨by trivial, .refl⟩
  · refine sat_body rfl ?_
    unfold p__law_line
    simp (decide := true) only [EV, Ab.isNon, args, List.map, List.length_cons, List.length_nil, List.length_singleton, List.replicate, Nat.reduceSub, Nat.reduceAdd, Nat.zero_add, List.cons_append, List.nil_append, List.getElem?_cons_zero, List.getElem?_cons_succ, List.set_cons_zero, List.set_cons_succ, Option.some.injEq, decide_eq_true_eq, Bool.not_eq_true', decide_eq_false_iff_not, ite_true, ite_false, if_true, if_false, reduceIte, Bool.false_eq_true, Bool.not_true, Bool.not_false, Bool.true_eq_false, decide_true, decide_false, Nat.reduceLeDiff, Nat.reduceLT, ev_seq, ixa]
    repeat (first | rw [add_ss (by simp only [str_len]; omega)] | simp only [EV, Ab.isNon, args, List.map, List.length_cons, List.length_nil, List.length_singleton, List.replicate, Nat.reduceSub, Nat.reduceAdd, Nat.zero_add, List.cons_append, List.nil_append, List.getElem?_cons_zero, List.getElem?_cons_succ, List.set_cons_zero, List.set_cons_succ, Option.some.injEq, decide_eq_true_eq, Bool.not_eq_true', decide_eq_false_iff_not, ite_true, ite_false, if_true, if_false, reduceIte, Bool.false_eq_true, Bool.not_true, Bool.not_false, Bool.true_eq_false, decide_true, decide_false, Nat.reduceLeDiff, Nat.reduceLT, ixb, ixc, ixd])
    refine Sat.imp (q1 _) fun v B1 ⟨ev1, G1⟩ => ?_
    subst ev1
    repeat (first | rw [add_ss (by simp only [str_len]; omega)] | simp only [EV, Ab.isNon, args, List.map, List.length_cons, List.length_nil, List.length_singleton, List.replicate, Nat.reduceSub, Nat.reduceAdd, Nat.zero_add, List.cons_append, List.nil_append, List.getElem?_cons_zero, List.getElem?_cons_succ, List.set_cons_zero, List.set_cons_succ, Option.some.injEq, decide_eq_true_eq, Bool.not_eq_true', decide_eq_false_iff_not, ite_true, ite_false, if_true, if_false, reduceIte, Bool.false_eq_true, Bool.not_true, Bool.not_false, Bool.true_eq_false, decide_true, decide_false, Nat.reduceLeDiff, Nat.reduceLT, ixb, ixc, ixd])
    exact ⟨by trivial, G1⟩
theorem ln_put (hx : x.length ≤ 40) (hd : Ex n d t) (he : Ex n e u) (hn : n ≤ 3) : Ln (.tup [.str "put", .str x, d, e]) (x ++ "[" ++ t ++ "] = " ++ u) := by
  obtain ⟨c1, c2, c3, c4, c5, c6, c7, c8, c9, c10, c11, c12, c13, c14, c15, c16, c17, c18, c19, c20, c21, c22, c23, c24, c25, c26, c27, c28, c29, c30, c31, c32⟩ := cl
  have fx : ∀ A, fmtD (.str x) A = .ok (.str x) A := fun A => ev_fmt_s (by omega)
  obtain ⟨l1, p1, q1, g1⟩ := ex_tx hd hn
  obtain ⟨l2, p2, q2, g2⟩ := ex_tx he hn
  have len : (x ++ "[" ++ t ++ "] = " ++ u : Str).length ≤ 5000 := by simp only [str_len]; omega
  refine ⟨len, fun A => ?_, fun A => ?_⟩
  · refine sat_body rfl ?_
    unfold p_statement_text
    simp (decide := true) only [EV, Ab.isNon, args, List.map, List.length_cons, List.length_nil, List.length_singleton, List.replicate, Nat.reduceSub, Nat.reduceAdd, Nat.zero_add, List.cons_append, List.nil_append, List.getElem?_cons_zero, List.getElem?_cons_succ, List.set_cons_zero, List.set_cons_succ, Option.some.injEq, decide_eq_true_eq, Bool.not_eq_true', decide_eq_false_iff_not, ite_true, ite_false, if_true, if_false, reduceIte, Bool.false_eq_true, Bool.not_true, Bool.not_false, Bool.true_eq_false, decide_true, decide_false, Nat.reduceLeDiff, Nat.reduceLT, ev_seq, ixa]
    rw [ev_js (out := x ++ "[" ++ t ++ "] = " ++ u) (B := A) (by simp only [EV, Ab.isNon, args, List.map, List.length_cons, List.length_nil, List.length_singleton, List.replicate, Nat.reduceSub, Nat.reduceAdd, Nat.zero_add, List.cons_append, List.nil_append, List.getElem?_cons_zero, List.getElem?_cons_succ, List.set_cons_zero, List.set_cons_succ, Option.some.injEq, decide_eq_true_eq, Bool.not_eq_true', decide_eq_false_iff_not, ite_true, ite_false, if_true, if_false, reduceIte, Bool.false_eq_true, Bool.not_true, Bool.not_false, Bool.true_eq_false, decide_true, decide_false, Nat.reduceLeDiff, Nat.reduceLT, jU_cons, jU_nil, ixa, ixb, ixc, ixd, fx, p1, g1, p2, g2, empty_app]) (Nat.le_trans len (by decide))]
    simp only [EV, Ab.isNon, args, List.map, List.length_cons, List.length_nil, List.length_singleton, List.replicate, Nat.reduceSub, Nat.reduceAdd, Nat.zero_add, List.cons_append, List.nil_append, List.getElem?_cons_zero, List.getElem?_cons_succ, List.set_cons_zero, List.set_cons_succ, Option.some.injEq, decide_eq_true_eq, Bool.not_eq_true', decide_eq_false_iff_not, ite_true, ite_false, if_true, if_false, reduceIte, Bool.false_eq_true, Bool.not_true, Bool.not_false, Bool.true_eq_false, decide_true, decide_false, Nat.reduceLeDiff, Nat.reduceLT]
    exact ⟨by trivial, .refl⟩
  · refine sat_body rfl ?_
    unfold p__law_line
    simp (decide := true) only [EV, Ab.isNon, args, List.map, List.length_cons, List.length_nil, List.length_singleton, List.replicate, Nat.reduceSub, Nat.reduceAdd, Nat.zero_add, List.cons_append, List.nil_append, List.getElem?_cons_zero, List.getElem?_cons_succ, List.set_cons_zero, List.set_cons_succ, Option.some.injEq, decide_eq_true_eq, Bool.not_eq_true', decide_eq_false_iff_not, ite_true, ite_false, if_true, if_false, reduceIte, Bool.false_eq_true, Bool.not_true, Bool.not_false, Bool.true_eq_false, decide_true, decide_false, Nat.reduceLeDiff, Nat.reduceLT, ev_seq, ixa]
    repeat (first | rw [add_ss (by simp only [str_len]; omega)] | simp only [EV, Ab.isNon, args, List.map, List.length_cons, List.length_nil, List.length_singleton, List.replicate, Nat.reduceSub, Nat.reduceAdd, Nat.zero_add, List.cons_append, List.nil_append, List.getElem?_cons_zero, List.getElem?_cons_succ, List.set_cons_zero, List.set_cons_succ, Option.some.injEq, decide_eq_true_eq, Bool.not_eq_true', decide_eq_false_iff_not, ite_true, ite_false, if_true, if_false, reduceIte, Bool.false_eq_true, Bool.not_true, Bool.not_false, Bool.true_eq_false, decide_true, decide_false, Nat.reduceLeDiff, Nat.reduceLT, ixb, ixc, ixd])
    refine Sat.imp (q1 _) fun v B1 ⟨ev1, G1⟩ => ?_
    subst ev1
    repeat (first | rw [add_ss (by simp only [str_len]; omega)] | simp only [EV, Ab.isNon, args, List.map, List.length_cons, List.length_nil, List.length_singleton, List.replicate, Nat.reduceSub, Nat.reduceAdd, Nat.zero_add, List.cons_append, List.nil_append, List.getElem?_cons_zero, List.getElem?_cons_succ, List.set_cons_zero, List.set_cons_succ, Option.some.injEq, decide_eq_true_eq, Bool.not_eq_true', decide_eq_false_iff_not, ite_true, ite_false, if_true, if_false, reduceIte, Bool.false_eq_true, Bool.not_true, Bool.not_false, Bool.true_eq_false, decide_true, decide_false, Nat.reduceLeDiff, Nat.reduceLT, ixb, ixc, ixd])
    refine Sat.imp (q2 _) fun v B2 ⟨ev2, G2⟩ => ?_
    subst ev2
    repeat (first | rw [add_ss (by simp only [str_len]; omega)] | simp only [EV, Ab.isNon, args, List.map, List.length_cons, List.length_nil, List.length_singleton, List.replicate, Nat.reduceSub, Nat.reduceAdd, Nat.zero_add, List.cons_append, List.nil_append, List.getElem?_cons_zero, List.getElem?_cons_succ, List.set_cons_zero, List.set_cons_succ, Option.some.injEq, decide_eq_true_eq, Bool.not_eq_true', decide_eq_false_iff_not, ite_true, ite_false, if_true, if_false, reduceIte, Bool.false_eq_true, Bool.not_true, Bool.not_false, Bool.true_eq_false, decide_true, decide_false, Nat.reduceLeDiff, Nat.reduceLT, ixb, ixc, ixd])
    exact ⟨by trivial, (G1.trans G2)⟩
theorem ln_assert {ds : List D} (hd : Ex n d t) (hn : n ≤ 3) : Ln (.tup (.str "assert" :: d :: ds)) ("assert" ++ " " ++ t) := by
  obtain ⟨c1, c2, c3, c4, c5, c6, c7, c8, c9, c10, c11, c12, c13, c14, c15, c16, c17, c18, c19, c20, c21, c22, c23, c24, c25, c26, c27, c28, c29, c30, c31, c32⟩ := cl
  obtain ⟨l1, p1, q1, g1⟩ := ex_tx hd hn
  have w1 : ∀ A, fmtD (.str "assert") A = .ok (.str "assert") A := fun A => ev_fmt_s (by omega)
  obtain ⟨xs, rfl⟩ := hd.tup
  have len : ("assert" ++ " " ++ t : Str).length ≤ 5000 := by simp only [str_len]; omega
  refine ⟨len, fun A => ?_, fun A => ?_⟩
  · refine sat_body rfl ?_
    unfold p_statement_text
    simp (decide := true) only [EV, Ab.isNon, args, List.map, List.length_cons, List.length_nil, List.length_singleton, List.replicate, Nat.reduceSub, Nat.reduceAdd, Nat.zero_add, List.cons_append, List.nil_append, List.getElem?_cons_zero, List.getElem?_cons_succ, List.set_cons_zero, List.set_cons_succ, Option.some.injEq, decide_eq_true_eq, Bool.not_eq_true', decide_eq_false_iff_not, ite_true, ite_false, if_true, if_false, reduceIte, Bool.false_eq_true, Bool.not_true, Bool.not_false, Bool.true_eq_false, decide_true, decide_false, Nat.reduceLeDiff, Nat.reduceLT, ev_seq, ixa, inb, bee_ast]
    rw [ev_js (out := "assert" ++ " " ++ t) (B := A) (by simp only [EV, Ab.isNon, args, List.map, List.length_cons, List.length_nil, List.length_singleton, List.replicate, Nat.reduceSub, Nat.reduceAdd, Nat.zero_add, List.cons_append, List.nil_append, List.getElem?_cons_zero, List.getElem?_cons_succ, List.set_cons_zero, List.set_cons_succ, Option.some.injEq, decide_eq_true_eq, Bool.not_eq_true', decide_eq_false_iff_not, ite_true, ite_false, if_true, if_false, reduceIte, Bool.false_eq_true, Bool.not_true, Bool.not_false, Bool.true_eq_false, decide_true, decide_false, Nat.reduceLeDiff, Nat.reduceLT, jU_cons, jU_nil, ixa, ixb, ixc, ixd, w1, p1, g1, empty_app]) (Nat.le_trans len (by decide))]
    simp only [EV, Ab.isNon, args, List.map, List.length_cons, List.length_nil, List.length_singleton, List.replicate, Nat.reduceSub, Nat.reduceAdd, Nat.zero_add, List.cons_append, List.nil_append, List.getElem?_cons_zero, List.getElem?_cons_succ, List.set_cons_zero, List.set_cons_succ, Option.some.injEq, decide_eq_true_eq, Bool.not_eq_true', decide_eq_false_iff_not, ite_true, ite_false, if_true, if_false, reduceIte, Bool.false_eq_true, Bool.not_true, Bool.not_false, Bool.true_eq_false, decide_true, decide_false, Nat.reduceLeDiff, Nat.reduceLT]
    exact ⟨by trivial, .refl⟩
  · refine sat_body rfl ?_
    unfold p__law_line
    simp (decide := true) only [EV, Ab.isNon, args, List.map, List.length_cons, List.length_nil, List.length_singleton, List.replicate, Nat.reduceSub, Nat.reduceAdd, Nat.zero_add, List.cons_append, List.nil_append, List.getElem?_cons_zero, List.getElem?_cons_succ, List.set_cons_zero, List.set_cons_succ, Option.some.injEq, decide_eq_true_eq, Bool.not_eq_true', decide_eq_false_iff_not, ite_true, ite_false, if_true, if_false, reduceIte, Bool.false_eq_true, Bool.not_true, Bool.not_false, Bool.true_eq_false, decide_true, decide_false, Nat.reduceLeDiff, Nat.reduceLT, ev_seq, ixa, ixb]
    repeat (first | rw [add_ss (by simp only [str_len]; omega)] | simp only [EV, Ab.isNon, args, List.map, List.length_cons, List.length_nil, List.length_singleton, List.replicate, Nat.reduceSub, Nat.reduceAdd, Nat.zero_add, List.cons_append, List.nil_append, List.getElem?_cons_zero, List.getElem?_cons_succ, List.set_cons_zero, List.set_cons_succ, Option.some.injEq, decide_eq_true_eq, Bool.not_eq_true', decide_eq_false_iff_not, ite_true, ite_false, if_true, if_false, reduceIte, Bool.false_eq_true, Bool.not_true, Bool.not_false, Bool.true_eq_false, decide_true, decide_false, Nat.reduceLeDiff, Nat.reduceLT, ixb, ixc, ixd])
    refine Sat.imp (q1 _) fun v B1 ⟨ev1, G1⟩ => ?_
    subst ev1
    repeat (first | rw [add_ss (by simp only [str_len]; omega)] | simp only [EV, Ab.isNon, args, List.map, List.length_cons, List.length_nil, List.length_singleton, List.replicate, Nat.reduceSub, Nat.reduceAdd, Nat.zero_add, List.cons_append, List.nil_append, List.getElem?_cons_zero, List.getElem?_cons_succ, List.set_cons_zero, List.set_cons_succ, Option.some.injEq, decide_eq_true_eq, Bool.not_eq_true', decide_eq_false_iff_not, ite_true, ite_false, if_true, if_false, reduceIte, Bool.false_eq_true, Bool.not_true, Bool.not_false, Bool.true_eq_false, decide_true, decide_false, Nat.reduceLeDiff, Nat.reduceLT, ixb, ixc, ixd])
    exact ⟨by trivial, G1⟩
theorem ln_if {ds : List D} (hd : Ex n d t) (hn : n ≤ 3) : Ln (.tup (.str "if" :: d :: ds)) ("if" ++ " " ++ t) := by
  obtain ⟨c1, c2, c3, c4, c5, c6, c7, c8, c9, c10, c11, c12, c13, c14, c15, c16, c17, c18, c19, c20, c21, c22, c23, c24, c25, c26, c27, c28, c29, c30, c31, c32⟩ := cl
  obtain ⟨l1, p1, q1, g1⟩ := ex_tx hd hn
  have w1 : ∀ A, fmtD (.str "if") A = .ok (.str "if") A := fun A => ev_fmt_s (by omega)
  obtain ⟨xs, rfl⟩ := hd.tup
  have len : ("if" ++ " " ++ t : Str).length ≤ 5000 := by simp only [str_len]; omega
  refine ⟨len, fun A => ?_, fun A => ?_⟩
  · refine sat_body rfl ?_
    unfold p_statement_text
    simp (decide := true) only [EV, Ab.isNon, args, List.map, List.length_cons, List.length_nil, List.length_singleton, List.replicate, Nat.reduceSub, Nat.reduceAdd, Nat.zero_add, List.cons_append, List.nil_append, List.getElem?_cons_zero, List.getElem?_cons_succ, List.set_cons_zero, List.set_cons_succ, Option.some.injEq, decide_eq_true_eq, Bool.not_eq_true', decide_eq_false_iff_not, ite_true, ite_false, if_true, if_false, reduceIte, Bool.false_eq_true, Bool.not_true, Bool.not_false, Bool.true_eq_false, decide_true, decide_false, Nat.reduceLeDiff, Nat.reduceLT, ev_seq, ixa, inb, bee_if]
    rw [ev_js (out := "if" ++ " " ++ t) (B := A) (by simp only [EV, Ab.isNon, args, List.map, List.length_cons, List.length_nil, List.length_singleton, List.replicate, Nat.reduceSub, Nat.reduceAdd, Nat.zero_add, List.cons_append, List.nil_append, List.getElem?_cons_zero, List.getElem?_cons_succ, List.set_cons_zero, List.set_cons_succ, Option.some.injEq, decide_eq_true_eq, Bool.not_eq_true', decide_eq_false_iff_not, ite_true, ite_false, if_true, if_false, reduceIte, Bool.false_eq_true, Bool.not_true, Bool.not_false, Bool.true_eq_false, decide_true, decide_false, Nat.reduceLeDiff, Nat.reduceLT, jU_cons, jU_nil, ixa, ixb, ixc, ixd, w1, p1, g1, empty_app]) (Nat.le_trans len (by decide))]
    simp only [EV, Ab.isNon, args, List.map, List.length_cons, List.length_nil, List.length_singleton, List.replicate, Nat.reduceSub, Nat.reduceAdd, Nat.zero_add, List.cons_append, List.nil_append, List.getElem?_cons_zero, List.getElem?_cons_succ, List.set_cons_zero, List.set_cons_succ, Option.some.injEq, decide_eq_true_eq, Bool.not_eq_true', decide_eq_false_iff_not, ite_true, ite_false, if_true, if_false, reduceIte, Bool.false_eq_true, Bool.not_true, Bool.not_false, Bool.true_eq_false, decide_true, decide_false, Nat.reduceLeDiff, Nat.reduceLT]
    exact ⟨by trivial, .refl⟩
  · refine sat_body rfl ?_
    unfold p__law_line
    simp (decide := true) only [EV, Ab.isNon, args, List.map, List.length_cons, List.length_nil, List.length_singleton, List.replicate, Nat.reduceSub, Nat.reduceAdd, Nat.zero_add, List.cons_append, List.nil_append, List.getElem?_cons_zero, List.getElem?_cons_succ, List.set_cons_zero, List.set_cons_succ, Option.some.injEq, decide_eq_true_eq, Bool.not_eq_true', decide_eq_false_iff_not, ite_true, ite_false, if_true, if_false, reduceIte, Bool.false_eq_true, Bool.not_true, Bool.not_false, Bool.true_eq_false, decide_true, decide_false, Nat.reduceLeDiff, Nat.reduceLT, ev_seq, ixa, ixb]
    repeat (first | rw [add_ss (by simp only [str_len]; omega)] | simp only [EV, Ab.isNon, args, List.map, List.length_cons, List.length_nil, List.length_singleton, List.replicate, Nat.reduceSub, Nat.reduceAdd, Nat.zero_add, List.cons_append, List.nil_append, List.getElem?_cons_zero, List.getElem?_cons_succ, List.set_cons_zero, List.set_cons_succ, Option.some.injEq, decide_eq_true_eq, Bool.not_eq_true', decide_eq_false_iff_not, ite_true, ite_false, if_true, if_false, reduceIte, Bool.false_eq_true, Bool.not_true, Bool.not_false, Bool.true_eq_false, decide_true, decide_false, Nat.reduceLeDiff, Nat.reduceLT, ixb, ixc, ixd])
    refine Sat.imp (q1 _) fun v B1 ⟨ev1, G1⟩ => ?_
    subst ev1
    repeat (first | rw [add_ss (by simp only [str_len]; omega)] | simp only [EV, Ab.isNon, args, List.map, List.length_cons, List.length_nil, List.length_singleton, List.replicate, Nat.reduceSub, Nat.reduceAdd, Nat.zero_add, List.cons_append, List.nil_append, List.getElem?_cons_zero, List.getElem?_cons_succ, List.set_cons_zero, List.set_cons_succ, Option.some.injEq, decide_eq_true_eq, Bool.not_eq_true', decide_eq_false_iff_not, ite_true, ite_false, if_true, if_false, reduceIte, Bool.false_eq_true, Bool.not_true, Bool.not_false, Bool.true_eq_false, decide_true, decide_false, Nat.reduceLeDiff, Nat.reduceLT, ixb, ixc, ixd])
    exact ⟨by trivial, G1⟩
theorem ln_while {ds : List D} (hd : Ex n d t) (hn : n ≤ 3) : Ln (.tup (.str "while" :: d :: ds)) ("while" ++ " " ++ t) := by
  obtain ⟨c1, c2, c3, c4, c5, c6, c7, c8, c9, c10, c11, c12, c13, c14, c15, c16, c17, c18, c19, c20, c21, c22, c23, c24, c25, c26, c27, c28, c29, c30, c31, c32⟩ := cl
  obtain ⟨l1, p1, q1, g1⟩ := ex_tx hd hn
  have w1 : ∀ A, fmtD (.str "while") A = .ok (.str "while") A := fun A => ev_fmt_s (by omega)
  obtain ⟨xs, rfl⟩ := hd.tup
  have len : ("while" ++ " " ++ t : Str).length ≤ 5000 := by simp only [str_len]; omega
  refine ⟨len, fun A => ?_, fun A => ?_⟩
  · refine sat_body rfl ?_
    unfold p_statement_text
    simp (decide := true) only [EV, Ab.isNon, args, List.map, List.length_cons, List.length_nil, List.length_singleton, List.replicate, Nat.reduceSub, Nat.reduceAdd, Nat.zero_add, List.cons_append, List.nil_append, List.getElem?_cons_zero, List.getElem?_cons_succ, List.set_cons_zero, List.set_cons_succ, Option.some.injEq, decide_eq_true_eq, Bool.not_eq_true', decide_eq_false_iff_not, ite_true, ite_false, if_true, if_false, reduceIte, Bool.false_eq_true, Bool.not_true, Bool.not_false, Bool.true_eq_false, decide_true, decide_false, Nat.reduceLeDiff, Nat.reduceLT, ev_seq, ixa, inb, bee_whl]
    rw [ev_js (out := "while" ++ " " ++ t) (B := A) (by simp only [EV, Ab.isNon, args, List.map, List.length_cons, List.length_nil, List.length_singleton, List.replicate, Nat.reduceSub, Nat.reduceAdd, Nat.zero_add, List.cons_append, List.nil_append, List.getElem?_cons_zero, List.getElem?_cons_succ, List.set_cons_zero, List.set_cons_succ, Option.some.injEq, decide_eq_true_eq, Bool.not_eq_true', decide_eq_false_iff_not, ite_true, ite_false, if_true, if_false, reduceIte, Bool.false_eq_true, Bool.not_true, Bool.not_false, Bool.true_eq_false, decide_true, decide_false, Nat.reduceLeDiff, Nat.reduceLT, jU_cons, jU_nil, ixa, ixb, ixc, ixd, w1, p1, g1, empty_app]) (Nat.le_trans len (by decide))]
    simp only [EV, Ab.isNon, args, List.map, List.length_cons, List.length_nil, List.length_singleton, List.replicate, Nat.reduceSub, Nat.reduceAdd, Nat.zero_add, List.cons_append, List.nil_append, List.getElem?_cons_zero, List.getElem?_cons_succ, List.set_cons_zero, List.set_cons_succ, Option.some.injEq, decide_eq_true_eq, Bool.not_eq_true', decide_eq_false_iff_not, ite_true, ite_false, if_true, if_false, reduceIte, Bool.false_eq_true, Bool.not_true, Bool.not_false, Bool.true_eq_false, decide_true, decide_false, Nat.reduceLeDiff, Nat.reduceLT]
    exact ⟨by trivial, .refl⟩
  · refine sat_body rfl ?_
    unfold p__law_line
    simp (decide := true) only [EV, Ab.isNon, args, List.map, List.length_cons, List.length_nil, List.length_singleton, List.replicate, Nat.reduceSub, Nat.reduceAdd, Nat.zero_add, List.cons_append, List.nil_append, List.getElem?_cons_zero, List.getElem?_cons_succ, List.set_cons_zero, List.set_cons_succ, Option.some.injEq, decide_eq_true_eq, Bool.not_eq_true', decide_eq_false_iff_not, ite_true, ite_false, if_true, if_false, reduceIte, Bool.false_eq_true, Bool.not_true, Bool.not_false, Bool.true_eq_false, decide_true, decide_false, Nat.reduceLeDiff, Nat.reduceLT, ev_seq, ixa, ixb]
    repeat (first | rw [add_ss (by simp only [str_len]; omega)] | simp only [EV, Ab.isNon, args, List.map, List.length_cons, List.length_nil, List.length_singleton, List.replicate, Nat.reduceSub, Nat.reduceAdd, Nat.zero_add, List.cons_append, List.nil_append, List.getElem?_cons_zero, List.getElem?_cons_succ, List.set_cons_zero, List.set_cons_succ, Option.some.injEq, decide_eq_true_eq, Bool.not_eq_true', decide_eq_false_iff_not, ite_true, ite_false, if_true, if_false, reduceIte, Bool.false_eq_true, Bool.not_true, Bool.not_false, Bool.true_eq_false, decide_true, decide_false, Nat.reduceLeDiff, Nat.reduceLT, ixb, ixc, ixd])
    refine Sat.imp (q1 _) fun v B1 ⟨ev1, G1⟩ => ?_
    subst ev1
    repeat (first | rw [add_ss (by simp only [str_len]; omega)] | simp only [EV, Ab.isNon, args, List.map, List.length_cons, List.length_nil, List.length_singleton, List.replicate, Nat.reduceSub, Nat.reduceAdd, Nat.zero_add, List.cons_append, List.nil_append, List.getElem?_cons_zero, List.getElem?_cons_succ, List.set_cons_zero, List.set_cons_succ, Option.some.injEq, decide_eq_true_eq, Bool.not_eq_true', decide_eq_false_iff_not, ite_true, ite_false, if_true, if_false, reduceIte, Bool.false_eq_true, Bool.not_true, Bool.not_false, Bool.true_eq_false, decide_true, decide_false, Nat.reduceLeDiff, Nat.reduceLT, ixb, ixc, ixd])
    exact ⟨by trivial, G1⟩
theorem ln_ret (hd : Ex n d t) (hn : n ≤ 3) : Ln (.tup [.str "return", d]) ("return" ++ " " ++ t) := by
  obtain ⟨c1, c2, c3, c4, c5, c6, c7, c8, c9, c10, c11, c12, c13, c14, c15, c16, c17, c18, c19, c20, c21, c22, c23, c24, c25, c26, c27, c28, c29, c30, c31, c32⟩ := cl
  obtain ⟨l1, p1, q1, g1⟩ := ex_tx hd hn
  have w1 : ∀ A, fmtD (.str "return") A = .ok (.str "return") A := fun A => ev_fmt_s (by omega)
  obtain ⟨xs, rfl⟩ := hd.tup
  have len : ("return" ++ " " ++ t : Str).length ≤ 5000 := by simp only [str_len]; omega
  refine ⟨len, fun A => ?_, fun A => ?_⟩
  · refine sat_body rfl ?_
    unfold p_statement_text
    simp (decide := true) only [EV, Ab.isNon, args, List.map, List.length_cons, List.length_nil, List.length_singleton, List.replicate, Nat.reduceSub, Nat.reduceAdd, Nat.zero_add, List.cons_append, List.nil_append, List.getElem?_cons_zero, List.getElem?_cons_succ, List.set_cons_zero, List.set_cons_succ, Option.some.injEq, decide_eq_true_eq, Bool.not_eq_true', decide_eq_false_iff_not, ite_true, ite_false, if_true, if_false, reduceIte, Bool.false_eq_true, Bool.not_true, Bool.not_false, Bool.true_eq_false, decide_true, decide_false, Nat.reduceLeDiff, Nat.reduceLT, ev_seq, ixa, inb, bee_ret, ixb]
    rw [ev_js (out := "return" ++ " " ++ t) (B := A) (by simp only [EV, Ab.isNon, args, List.map, List.length_cons, List.length_nil, List.length_singleton, List.replicate, Nat.reduceSub, Nat.reduceAdd, Nat.zero_add, List.cons_append, List.nil_append, List.getElem?_cons_zero, List.getElem?_cons_succ, List.set_cons_zero, List.set_cons_succ, Option.some.injEq, decide_eq_true_eq, Bool.not_eq_true', decide_eq_false_iff_not, ite_true, ite_false, if_true, if_false, reduceIte, Bool.false_eq_true, Bool.not_true, Bool.not_false, Bool.true_eq_false, decide_true, decide_false, Nat.reduceLeDiff, Nat.reduceLT, jU_cons, jU_nil, ixa, ixb, ixc, ixd, w1, p1, g1, empty_app]) (Nat.le_trans len (by decide))]
    simp only [EV, Ab.isNon, args, List.map, List.length_cons, List.length_nil, List.length_singleton, List.replicate, Nat.reduceSub, Nat.reduceAdd, Nat.zero_add, List.cons_append, List.nil_append, List.getElem?_cons_zero, List.getElem?_cons_succ, List.set_cons_zero, List.set_cons_succ, Option.some.injEq, decide_eq_true_eq, Bool.not_eq_true', decide_eq_false_iff_not, ite_true, ite_false, if_true, if_false, reduceIte, Bool.false_eq_true, Bool.not_true, Bool.not_false, Bool.true_eq_false, decide_true, decide_false, Nat.reduceLeDiff, Nat.reduceLT]
    exact ⟨by trivial, .refl⟩
  · refine sat_body rfl ?_
    unfold p__law_line
    simp (decide := true) only [EV, Ab.isNon, args, List.map, List.length_cons, List.length_nil, List.length_singleton, List.replicate, Nat.reduceSub, Nat.reduceAdd, Nat.zero_add, List.cons_append, List.nil_append, List.getElem?_cons_zero, List.getElem?_cons_succ, List.set_cons_zero, List.set_cons_succ, Option.some.injEq, decide_eq_true_eq, Bool.not_eq_true', decide_eq_false_iff_not, ite_true, ite_false, if_true, if_false, reduceIte, Bool.false_eq_true, Bool.not_true, Bool.not_false, Bool.true_eq_false, decide_true, decide_false, Nat.reduceLeDiff, Nat.reduceLT, ev_seq, ixa, ixb]
    repeat (first | rw [add_ss (by simp only [str_len]; omega)] | simp only [EV, Ab.isNon, args, List.map, List.length_cons, List.length_nil, List.length_singleton, List.replicate, Nat.reduceSub, Nat.reduceAdd, Nat.zero_add, List.cons_append, List.nil_append, List.getElem?_cons_zero, List.getElem?_cons_succ, List.set_cons_zero, List.set_cons_succ, Option.some.injEq, decide_eq_true_eq, Bool.not_eq_true', decide_eq_false_iff_not, ite_true, ite_false, if_true, if_false, reduceIte, Bool.false_eq_true, Bool.not_true, Bool.not_false, Bool.true_eq_false, decide_true, decide_false, Nat.reduceLeDiff, Nat.reduceLT, ixb, ixc, ixd])
    refine Sat.imp (q1 _) fun v B1 ⟨ev1, G1⟩ => ?_
    subst ev1
    repeat (first | rw [add_ss (by simp only [str_len]; omega)] | simp only [EV, Ab.isNon, args, List.map, List.length_cons, List.length_nil, List.length_singleton, List.replicate, Nat.reduceSub, Nat.reduceAdd, Nat.zero_add, List.cons_append, List.nil_append, List.getElem?_cons_zero, List.getElem?_cons_succ, List.set_cons_zero, List.set_cons_succ, Option.some.injEq, decide_eq_true_eq, Bool.not_eq_true', decide_eq_false_iff_not, ite_true, ite_false, if_true, if_false, reduceIte, Bool.false_eq_true, Bool.not_true, Bool.not_false, Bool.true_eq_false, decide_true, decide_false, Nat.reduceLeDiff, Nat.reduceLT, ixb, ixc, ixd])
    exact ⟨by trivial, G1⟩
theorem ln_brk : Ln (.tup [.str "break"]) "break" := by
  obtain ⟨c1, c2, c3, c4, c5, c6, c7, c8, c9, c10, c11, c12, c13, c14, c15, c16, c17, c18, c19, c20, c21, c22, c23, c24, c25, c26, c27, c28, c29, c30, c31, c32⟩ := cl
  refine ⟨by omega, fun A => ?_, fun A => ?_⟩
  · refine sat_body rfl ?_
    unfold p_statement_text
    simp (decide := true) only [EV, Ab.isNon, args, List.map, List.length_cons, List.length_nil, List.length_singleton, List.replicate, Nat.reduceSub, Nat.reduceAdd, Nat.zero_add, List.cons_append, List.nil_append, List.getElem?_cons_zero, List.getElem?_cons_succ, List.set_cons_zero, List.set_cons_succ, Option.some.injEq, decide_eq_true_eq, Bool.not_eq_true', decide_eq_false_iff_not, ite_true, ite_false, if_true, if_false, reduceIte, Bool.false_eq_true, Bool.not_true, Bool.not_false, Bool.true_eq_false, decide_true, decide_false, Nat.reduceLeDiff, Nat.reduceLT, ev_seq, ixa, inb, bee_brk]
    exact ⟨by trivial, .refl⟩
  · refine sat_body rfl ?_
    unfold p__law_line
    simp (decide := true) only [EV, Ab.isNon, args, List.map, List.length_cons, List.length_nil, List.length_singleton, List.replicate, Nat.reduceSub, Nat.reduceAdd, Nat.zero_add, List.cons_append, List.nil_append, List.getElem?_cons_zero, List.getElem?_cons_succ, List.set_cons_zero, List.set_cons_succ, Option.some.injEq, decide_eq_true_eq, Bool.not_eq_true', decide_eq_false_iff_not, ite_true, ite_false, if_true, if_false, reduceIte, Bool.false_eq_true, Bool.not_true, Bool.not_false, Bool.true_eq_false, decide_true, decide_false, Nat.reduceLeDiff, Nat.reduceLT, ev_seq, ixa]
    exact ⟨by trivial, .refl⟩
theorem ln_retn : Ln (.tup [.str "return", .non]) "return" := by
  obtain ⟨c1, c2, c3, c4, c5, c6, c7, c8, c9, c10, c11, c12, c13, c14, c15, c16, c17, c18, c19, c20, c21, c22, c23, c24, c25, c26, c27, c28, c29, c30, c31, c32⟩ := cl
  refine ⟨by omega, fun A => ?_, fun A => ?_⟩
  · refine sat_body rfl ?_
    unfold p_statement_text
    simp (decide := true) only [EV, Ab.isNon, args, List.map, List.length_cons, List.length_nil, List.length_singleton, List.replicate, Nat.reduceSub, Nat.reduceAdd, Nat.zero_add, List.cons_append, List.nil_append, List.getElem?_cons_zero, List.getElem?_cons_succ, List.set_cons_zero, List.set_cons_succ, Option.some.injEq, decide_eq_true_eq, Bool.not_eq_true', decide_eq_false_iff_not, ite_true, ite_false, if_true, if_false, reduceIte, Bool.false_eq_true, Bool.not_true, Bool.not_false, Bool.true_eq_false, decide_true, decide_false, Nat.reduceLeDiff, Nat.reduceLT, ev_seq, ixa, ixb, inb, bee_ret]
    exact ⟨by trivial, .refl⟩
  · refine sat_body rfl ?_
    unfold p__law_line
    simp (decide := true) only [EV, Ab.isNon, args, List.map, List.length_cons, List.length_nil, List.length_singleton, List.replicate, Nat.reduceSub, Nat.reduceAdd, Nat.zero_add, List.cons_append, List.nil_append, List.getElem?_cons_zero, List.getElem?_cons_succ, List.set_cons_zero, List.set_cons_succ, Option.some.injEq, decide_eq_true_eq, Bool.not_eq_true', decide_eq_false_iff_not, ite_true, ite_false, if_true, if_false, reduceIte, Bool.false_eq_true, Bool.not_true, Bool.not_false, Bool.true_eq_false, decide_true, decide_false, Nat.reduceLeDiff, Nat.reduceLT, ev_seq, ixa, ixb]
    exact ⟨by trivial, .refl⟩
end
end Law

namespace Law
open PySem PySem.Spec PyProof.Rows L2 Ab
open scoped Classical
/-! ### lines of calls -/
theorem ty_s {x : Str} {A : AH} : isTy "str" (.str x) A = true := rfl
/-- an expression beside its text -/
abbrev Et := D × Str
def tgD : Option Str → D
  | none => .non
  | some x => .str x
def argT (as : List Et) : Str := Txt.join ", " (as.map (·.2))
theorem argT_len {as : List Et} (few : as.length ≤ 3) (h : ∀ a ∈ as, Ex 1 a.1 a.2) : (argT as).length ≤ 1300 ∧ ((as.map (·.2)).map (·.length)).sum + (as.map (·.2)).length * (", " : Str).length ≤ 16777216 := by
  have l2 : (", " : Str).length ≤ 10 := by decide +kernel
  have h1 : ∀ y ∈ as.map (·.2), y.length ≤ 400 := fun y hy => by
    obtain ⟨a, ha, rfl⟩ := List.mem_map.mp hy
    have := (h a ha).len
    omega
  have h2 := sum_le h1
  rw [List.length_map] at h2
  have h3 := join_len ", " (as.map (·.2))
  rw [List.length_map] at h3 ⊢
  have m1 := Nat.mul_le_mul_right 400 few
  have m2 := Nat.mul_le_mul few l2
  unfold argT
  omega
theorem args_p {A : AH} {σ : ASt} {as : List Et} {P : D → AH → Prop} {i : Nat} (hi : i < σ.length) (few : as.length ≤ 3) (h : ∀ a ∈ as, Ex 1 a.1 a.2) (hP : ∀ C, Gr A C → C[A.length]? = some (.lst ((as.map (·.2)).map D.str)) → P (.ref A.length) C) :
    Sat (loopC yes (gN i) fYes (fOwn 1 (m_expression_text 20) (fCons (fV i) (fNil))) A.length σ (as.map (·.1)) (A ++ [.lst []])) P := by
  refine comp_gr (qs := as) (·.1) (fun a => .str a.2) (fun _ _ => trivial) (fun a ha C G => ?_) (by omega) fun C G hX => hP C G (by rw [hX, List.map_map]; rfl)
  obtain ⟨_, p1, _, _⟩ := ex_tx (h a ha) (by decide)
  have hv : ∀ A, fV i (σ.set i (some a.1)) A = .ok a.1 A := fun A => ev_v (by rw [List.getElem?_set_self hi])
  simp only [EV, Ab.isNon, args, List.map, List.length_cons, List.length_nil, List.length_singleton, List.replicate, Nat.reduceSub, Nat.reduceAdd, Nat.zero_add, List.cons_append, List.nil_append, List.getElem?_cons_zero, List.getElem?_cons_succ, List.set_cons_zero, List.set_cons_succ, Option.some.injEq, decide_eq_true_eq, Bool.not_eq_true', decide_eq_false_iff_not, ite_true, ite_false, if_true, if_false, reduceIte, Bool.false_eq_true, Bool.not_true, Bool.not_false, Bool.true_eq_false, decide_true, decide_false, Nat.reduceLeDiff, Nat.reduceLT, hv, p1]
  exact ⟨trivial, .refl, by trivial⟩
theorem args_l {A : AH} {σ : ASt} {as : List Et} {P : D → AH → Prop} {i : Nat} (hi : i < σ.length) (few : as.length ≤ 3) (h : ∀ a ∈ as, Ex 1 a.1 a.2) (hP : ∀ C, Gr A C → C[A.length]? = some (.lst ((as.map (·.2)).map D.str)) → P (.ref A.length) C) :
    Sat (loopC yes (gN i) fYes (fOwn 1 (m__law_text 20) (fCons (fV i) (fNil))) A.length σ (as.map (·.1)) (A ++ [.lst []])) P := by
  refine comp_gr (qs := as) (·.1) (fun a => .str a.2) (fun _ _ => trivial) (fun a ha C G => ?_) (by omega) fun C G hX => hP C G (by rw [hX, List.map_map]; rfl)
  obtain ⟨_, _, q1, _⟩ := ex_tx (h a ha) (by decide)
  have hv : ∀ A, fV i (σ.set i (some a.1)) A = .ok a.1 A := fun A => ev_v (by rw [List.getElem?_set_self hi])
  simp only [EV, Ab.isNon, args, List.map, List.length_cons, List.length_nil, List.length_singleton, List.replicate, Nat.reduceSub, Nat.reduceAdd, Nat.zero_add, List.cons_append, List.nil_append, List.getElem?_cons_zero, List.getElem?_cons_succ, List.set_cons_zero, List.set_cons_succ, Option.some.injEq, decide_eq_true_eq, Bool.not_eq_true', decide_eq_false_iff_not, ite_true, ite_false, if_true, if_false, reduceIte, Bool.false_eq_true, Bool.not_true, Bool.not_false, Bool.true_eq_false, decide_true, decide_false, Nat.reduceLeDiff, Nat.reduceLT, hv]
  exact ⟨trivial, (q1 C).imp fun v B ⟨e, g⟩ => ⟨g, e⟩⟩
theorem ln_call {tg : Option Str} {y : Str} {as : List Et} (ht : ∀ x, tg = some x → x.length ≤ 40) (hy : y.length ≤ 40) (few : as.length ≤ 3) (h : ∀ a ∈ as, Ex 1 a.1 a.2) :
    Ln (.tup [.str "call", tgD tg, .str y, .tup (as.map (·.1))]) (match tg with | none => y ++ "(" ++ argT as ++ ")" | some x => x ++ " = " ++ y ++ "(" ++ argT as ++ ")") := by
  obtain ⟨c1, c2, c3, c4, c5, c6, c7, c8, c9, c10, c11, c12, c13, c14, c15, c16, c17, c18, c19, c20, c21, c22, c23, c24, c25, c26, c27, c28, c29, c30, c31, c32⟩ := cl
  obtain ⟨al, az⟩ := argT_len few h
  have fy : ∀ A, fmtD (.str y) A = .ok (.str y) A := fun A => ev_fmt_s (by omega)
  have fa : ∀ A, fmtD (.str (argT as)) A = .ok (.str (argT as)) A := fun A => ev_fmt_s (by omega)
  have jn : ∀ (C : AH) (r : Nat), C[r]? = some (.lst ((as.map (·.2)).map D.str)) → joinD (.str ", ") [.ref r] C = .ok (.str (argT as)) C := fun C r h => ev_join (rdL_l h) az
  have txt : ∀ A, Sat (m_call_text [.tup [.str "call", tgD tg, .str y, .tup (as.map (·.1))]] A) fun v A' => v = .str (match tg with | none => y ++ "(" ++ argT as ++ ")" | some x => x ++ " = " ++ y ++ "(" ++ argT as ++ ")") ∧ Gr A A' := fun A => by
    refine sat_body rfl (sat_seq ?_)
    simp only [EV, Ab.isNon, args, List.map, List.length_cons, List.length_nil, List.length_singleton, List.replicate, Nat.reduceSub, Nat.reduceAdd, Nat.zero_add, List.cons_append, List.nil_append, List.getElem?_cons_zero, List.getElem?_cons_succ, List.set_cons_zero, List.set_cons_succ, Option.some.injEq, decide_eq_true_eq, Bool.not_eq_true', decide_eq_false_iff_not, ite_true, ite_false, if_true, if_false, reduceIte, Bool.false_eq_true, Bool.not_true, Bool.not_false, Bool.true_eq_false, decide_true, decide_false, Nat.reduceLeDiff, Nat.reduceLT, ixd, ty_s, ev_iseq_t, wipeA]
    refine args_p (by simp) few h fun C G hX => ?_
    simp only [EV, Ab.isNon, args, List.map, List.length_cons, List.length_nil, List.length_singleton, List.replicate, Nat.reduceSub, Nat.reduceAdd, Nat.zero_add, List.cons_append, List.nil_append, List.getElem?_cons_zero, List.getElem?_cons_succ, List.set_cons_zero, List.set_cons_succ, Option.some.injEq, decide_eq_true_eq, Bool.not_eq_true', decide_eq_false_iff_not, ite_true, ite_false, if_true, if_false, reduceIte, Bool.false_eq_true, Bool.not_true, Bool.not_false, Bool.true_eq_false, decide_true, decide_false, Nat.reduceLeDiff, Nat.reduceLT, jn C _ hX]
    cases tg with
    | none =>
      have len : (y ++ "(" ++ argT as ++ ")" : Str).length ≤ 1000000 := by simp only [str_len]; omega
      simp only [EV, Ab.isNon, args, List.map, List.length_cons, List.length_nil, List.length_singleton, List.replicate, Nat.reduceSub, Nat.reduceAdd, Nat.zero_add, List.cons_append, List.nil_append, List.getElem?_cons_zero, List.getElem?_cons_succ, List.set_cons_zero, List.set_cons_succ, Option.some.injEq, decide_eq_true_eq, Bool.not_eq_true', decide_eq_false_iff_not, ite_true, ite_false, if_true, if_false, reduceIte, Bool.false_eq_true, Bool.not_true, Bool.not_false, Bool.true_eq_false, decide_true, decide_false, Nat.reduceLeDiff, Nat.reduceLT, ev_seq, ixb, tgD]
      rw [ev_js (out := y ++ "(" ++ argT as ++ ")") (B := C) (by simp only [EV, Ab.isNon, args, List.map, List.length_cons, List.length_nil, List.length_singleton, List.replicate, Nat.reduceSub, Nat.reduceAdd, Nat.zero_add, List.cons_append, List.nil_append, List.getElem?_cons_zero, List.getElem?_cons_succ, List.set_cons_zero, List.set_cons_succ, Option.some.injEq, decide_eq_true_eq, Bool.not_eq_true', decide_eq_false_iff_not, ite_true, ite_false, if_true, if_false, reduceIte, Bool.false_eq_true, Bool.not_true, Bool.not_false, Bool.true_eq_false, decide_true, decide_false, Nat.reduceLeDiff, Nat.reduceLT, jU_cons, jU_nil, ixc, fy, fa, empty_app]) len]
      simp only [EV, Ab.isNon, args, List.map, List.length_cons, List.length_nil, List.length_singleton, List.replicate, Nat.reduceSub, Nat.reduceAdd, Nat.zero_add, List.cons_append, List.nil_append, List.getElem?_cons_zero, List.getElem?_cons_succ, List.set_cons_zero, List.set_cons_succ, Option.some.injEq, decide_eq_true_eq, Bool.not_eq_true', decide_eq_false_iff_not, ite_true, ite_false, if_true, if_false, reduceIte, Bool.false_eq_true, Bool.not_true, Bool.not_false, Bool.true_eq_false, decide_true, decide_false, Nat.reduceLeDiff, Nat.reduceLT]
      exact ⟨by trivial, G⟩
    | some x =>
      have hx := ht x rfl
      have fx : ∀ A, fmtD (.str x) A = .ok (.str x) A := fun A => ev_fmt_s (by omega)
      have len : (x ++ " = " ++ y ++ "(" ++ argT as ++ ")" : Str).length ≤ 1000000 := by simp only [str_len]; omega
      simp only [EV, Ab.isNon, args, List.map, List.length_cons, List.length_nil, List.length_singleton, List.replicate, Nat.reduceSub, Nat.reduceAdd, Nat.zero_add, List.cons_append, List.nil_append, List.getElem?_cons_zero, List.getElem?_cons_succ, List.set_cons_zero, List.set_cons_succ, Option.some.injEq, decide_eq_true_eq, Bool.not_eq_true', decide_eq_false_iff_not, ite_true, ite_false, if_true, if_false, reduceIte, Bool.false_eq_true, Bool.not_true, Bool.not_false, Bool.true_eq_false, decide_true, decide_false, Nat.reduceLeDiff, Nat.reduceLT, ev_seq, ixb, tgD]
      rw [ev_js (out := x ++ " = " ++ y ++ "(" ++ argT as ++ ")") (B := C) (by simp only [EV, Ab.isNon, args, List.map, List.length_cons, List.length_nil, List.length_singleton, List.replicate, Nat.reduceSub, Nat.reduceAdd, Nat.zero_add, List.cons_append, List.nil_append, List.getElem?_cons_zero, List.getElem?_cons_succ, List.set_cons_zero, List.set_cons_succ, Option.some.injEq, decide_eq_true_eq, Bool.not_eq_true', decide_eq_false_iff_not, ite_true, ite_false, if_true, if_false, reduceIte, Bool.false_eq_true, Bool.not_true, Bool.not_false, Bool.true_eq_false, decide_true, decide_false, Nat.reduceLeDiff, Nat.reduceLT, jU_cons, jU_nil, ixb, ixc, fx, fy, fa, empty_app]) len]
      simp only [EV, Ab.isNon, args, List.map, List.length_cons, List.length_nil, List.length_singleton, List.replicate, Nat.reduceSub, Nat.reduceAdd, Nat.zero_add, List.cons_append, List.nil_append, List.getElem?_cons_zero, List.getElem?_cons_succ, List.set_cons_zero, List.set_cons_succ, Option.some.injEq, decide_eq_true_eq, Bool.not_eq_true', decide_eq_false_iff_not, ite_true, ite_false, if_true, if_false, reduceIte, Bool.false_eq_true, Bool.not_true, Bool.not_false, Bool.true_eq_false, decide_true, decide_false, Nat.reduceLeDiff, Nat.reduceLT]
      exact ⟨by trivial, G⟩
  refine ⟨?_, fun A => ?_, fun A => ?_⟩
  · cases tg with
    | none => simp only [str_len]; omega
    | some x => have hx := ht x rfl; simp only [str_len]; omega
  · refine sat_body rfl ?_
    unfold p_statement_text
    simp (decide := true) only [EV, Ab.isNon, args, List.map, List.length_cons, List.length_nil, List.length_singleton, List.replicate, Nat.reduceSub, Nat.reduceAdd, Nat.zero_add, List.cons_append, List.nil_append, List.getElem?_cons_zero, List.getElem?_cons_succ, List.set_cons_zero, List.set_cons_succ, Option.some.injEq, decide_eq_true_eq, Bool.not_eq_true', decide_eq_false_iff_not, ite_true, ite_false, if_true, if_false, reduceIte, Bool.false_eq_true, Bool.not_true, Bool.not_false, Bool.true_eq_false, decide_true, decide_false, Nat.reduceLeDiff, Nat.reduceLT, ev_seq, ixa]
    exact txt A
  · refine sat_body rfl ?_
    unfold p__law_line
    simp (decide := true) only [EV, Ab.isNon, args, List.map, List.length_cons, List.length_nil, List.length_singleton, List.replicate, Nat.reduceSub, Nat.reduceAdd, Nat.zero_add, List.cons_append, List.nil_append, List.getElem?_cons_zero, List.getElem?_cons_succ, List.set_cons_zero, List.set_cons_succ, Option.some.injEq, decide_eq_true_eq, Bool.not_eq_true', decide_eq_false_iff_not, ite_true, ite_false, if_true, if_false, reduceIte, Bool.false_eq_true, Bool.not_true, Bool.not_false, Bool.true_eq_false, decide_true, decide_false, Nat.reduceLeDiff, Nat.reduceLT, ev_seq, ixa, ixc]
    rw [add_ss (by simp only [str_len]; omega)]
    simp only [EV, Ab.isNon, args, List.map, List.length_cons, List.length_nil, List.length_singleton, List.replicate, Nat.reduceSub, Nat.reduceAdd, Nat.zero_add, List.cons_append, List.nil_append, List.getElem?_cons_zero, List.getElem?_cons_succ, List.set_cons_zero, List.set_cons_succ, Option.some.injEq, decide_eq_true_eq, Bool.not_eq_true', decide_eq_false_iff_not, ite_true, ite_false, if_true, if_false, reduceIte, Bool.false_eq_true, Bool.not_true, Bool.not_false, Bool.true_eq_false, decide_true, decide_false, Nat.reduceLeDiff, Nat.reduceLT, ixd, ty_s, ev_iseq_t, wipeA]
    refine args_l (by simp) few h fun C G hX => ?_
    simp only [EV, Ab.isNon, args, List.map, List.length_cons, List.length_nil, List.length_singleton, List.replicate, Nat.reduceSub, Nat.reduceAdd, Nat.zero_add, List.cons_append, List.nil_append, List.getElem?_cons_zero, List.getElem?_cons_succ, List.set_cons_zero, List.set_cons_succ, Option.some.injEq, decide_eq_true_eq, Bool.not_eq_true', decide_eq_false_iff_not, ite_true, ite_false, if_true, if_false, reduceIte, Bool.false_eq_true, Bool.not_true, Bool.not_false, Bool.true_eq_false, decide_true, decide_false, Nat.reduceLeDiff, Nat.reduceLT, jn C _ hX]
    rw [add_ss (by simp only [str_len]; omega)]
    simp only [EV, Ab.isNon, args, List.map, List.length_cons, List.length_nil, List.length_singleton, List.replicate, Nat.reduceSub, Nat.reduceAdd, Nat.zero_add, List.cons_append, List.nil_append, List.getElem?_cons_zero, List.getElem?_cons_succ, List.set_cons_zero, List.set_cons_succ, Option.some.injEq, decide_eq_true_eq, Bool.not_eq_true', decide_eq_false_iff_not, ite_true, ite_false, if_true, if_false, reduceIte, Bool.false_eq_true, Bool.not_true, Bool.not_false, Bool.true_eq_false, decide_true, decide_false, Nat.reduceLeDiff, Nat.reduceLT]
    rw [add_ss (by simp only [str_len]; omega)]
    simp only [EV, Ab.isNon, args, List.map, List.length_cons, List.length_nil, List.length_singleton, List.replicate, Nat.reduceSub, Nat.reduceAdd, Nat.zero_add, List.cons_append, List.nil_append, List.getElem?_cons_zero, List.getElem?_cons_succ, List.set_cons_zero, List.set_cons_succ, Option.some.injEq, decide_eq_true_eq, Bool.not_eq_true', decide_eq_false_iff_not, ite_true, ite_false, if_true, if_false, reduceIte, Bool.false_eq_true, Bool.not_true, Bool.not_false, Bool.true_eq_false, decide_true, decide_false, Nat.reduceLeDiff, Nat.reduceLT, ev_seq, ixb]
    cases tg with
    | none =>
      simp only [tgD, EV, Ab.isNon, args, List.map, List.length_cons, List.length_nil, List.length_singleton, List.replicate, Nat.reduceSub, Nat.reduceAdd, Nat.zero_add, List.cons_append, List.nil_append, List.getElem?_cons_zero, List.getElem?_cons_succ, List.set_cons_zero, List.set_cons_succ, Option.some.injEq, decide_eq_true_eq, Bool.not_eq_true', decide_eq_false_iff_not, ite_true, ite_false, if_true, if_false, reduceIte, Bool.false_eq_true, Bool.not_true, Bool.not_false, Bool.true_eq_false, decide_true, decide_false, Nat.reduceLeDiff, Nat.reduceLT]
      exact ⟨by trivial, G⟩
    | some x =>
      have hx := ht x rfl
      simp only [tgD, EV, Ab.isNon, args, List.map, List.length_cons, List.length_nil, List.length_singleton, List.replicate, Nat.reduceSub, Nat.reduceAdd, Nat.zero_add, List.cons_append, List.nil_append, List.getElem?_cons_zero, List.getElem?_cons_succ, List.set_cons_zero, List.set_cons_succ, Option.some.injEq, decide_eq_true_eq, Bool.not_eq_true', decide_eq_false_iff_not, ite_true, ite_false, if_true, if_false, reduceIte, Bool.false_eq_true, Bool.not_true, Bool.not_false, Bool.true_eq_false, decide_true, decide_false, Nat.reduceLeDiff, Nat.reduceLT, ixb]
      rw [add_ss (by simp only [str_len]; omega)]
      simp only [EV, Ab.isNon, args, List.map, List.length_cons, List.length_nil, List.length_singleton, List.replicate, Nat.reduceSub, Nat.reduceAdd, Nat.zero_add, List.cons_append, List.nil_append, List.getElem?_cons_zero, List.getElem?_cons_succ, List.set_cons_zero, List.set_cons_succ, Option.some.injEq, decide_eq_true_eq, Bool.not_eq_true', decide_eq_false_iff_not, ite_true, ite_false, if_true, if_false, reduceIte, Bool.false_eq_true, Bool.not_true, Bool.not_false, Bool.true_eq_false, decide_true, decide_false, Nat.reduceLeDiff, Nat.reduceLT]
      rw [add_ss (by simp only [str_len]; omega)]
      simp only [EV, Ab.isNon, args, List.map, List.length_cons, List.length_nil, List.length_singleton, List.replicate, Nat.reduceSub, Nat.reduceAdd, Nat.zero_add, List.cons_append, List.nil_append, List.getElem?_cons_zero, List.getElem?_cons_succ, List.set_cons_zero, List.set_cons_succ, Option.some.injEq, decide_eq_true_eq, Bool.not_eq_true', decide_eq_false_iff_not, ite_true, ite_false, if_true, if_false, reduceIte, Bool.false_eq_true, Bool.not_true, Bool.not_false, Bool.true_eq_false, decide_true, decide_false, Nat.reduceLeDiff, Nat.reduceLT]
      exact ⟨by simp only [str_assoc], G⟩
end Law

namespace Law
open PySem PySem.Spec PyProof.Rows L2 Ab
open scoped Classical
/-! ### bodies and their lines -/
inductive Bt where
  | nil
  | lf (d : D) (t : Str) (r : Bt)
  | whl (e : D) (t : Str) (a r : Bt)
  | ite (e : D) (t : Str) (a b r : Bt)
def ind (k : Nat) : Str := Txt.mul "  " (k : Int)
namespace Bt
def dats : Bt → List D
  | nil => []
  | lf d _ r => d :: r.dats
  | whl e _ a r => .tup [.str "while", e, .tup a.dats] :: r.dats
  | ite e _ a b r => .tup [.str "if", e, .tup a.dats, .tup b.dats] :: r.dats
def sz : Bt → Nat
  | nil => 0
  | lf _ _ r => r.sz + 1
  | whl _ _ a r => a.sz + r.sz + 1
  | ite _ _ a b r => a.sz + b.sz + r.sz + 1
def dep : Bt → Nat
  | nil => 0
  | lf _ _ r => r.dep
  | whl _ _ a r => max (a.dep + 1) r.dep
  | ite _ _ a b r => max (max a.dep b.dep + 1) r.dep
def lines : Bt → Nat → List Str
  | nil, _ => []
  | lf _ t r, k => (ind k ++ t) :: r.lines k
  | whl _ t a r, k => (ind k ++ t) :: (a.lines (k + 1) ++ [ind k ++ "end"] ++ r.lines k)
  | ite _ t a b r, k => (ind k ++ t) :: (a.lines (k + 1) ++ (if b.dats.isEmpty = true then [] else [ind k ++ "else"] ++ b.lines (k + 1)) ++ [ind k ++ "end"] ++ r.lines k)
def ok : Bt → Prop
  | nil => True
  | lf d t r => Ln d t ∧ (∃ w ds, d = .tup (.str w :: ds) ∧ w ≠ "if" ∧ w ≠ "while") ∧ r.ok
  | whl e t a r => (∀ ds, Ln (.tup (.str "while" :: e :: ds)) t) ∧ a.ok ∧ r.ok
  | ite e t a b r => (∀ ds, Ln (.tup (.str "if" :: e :: ds)) t) ∧ a.ok ∧ b.ok ∧ r.ok
def app : Bt → Bt → Bt
  | nil, s => s
  | lf d t r, s => lf d t (r.app s)
  | whl e t a r, s => whl e t a (r.app s)
  | ite e t a b r, s => ite e t a b (r.app s)
theorem app_dats : ∀ a b : Bt, (a.app b).dats = a.dats ++ b.dats
  | nil, b => rfl
  | lf _ _ r, b => congrArg (_ :: ·) (r.app_dats b)
  | whl _ _ _ r, b => congrArg (_ :: ·) (r.app_dats b)
  | ite _ _ _ _ r, b => congrArg (_ :: ·) (r.app_dats b)
theorem app_sz : ∀ a b : Bt, (a.app b).sz = a.sz + b.sz
  | nil, b => (Nat.zero_add _).symm
  | lf _ _ r, b => by show (r.app b).sz + 1 = r.sz + 1 + b.sz; rw [r.app_sz b]; omega
  | whl _ _ x r, b => by show x.sz + (r.app b).sz + 1 = x.sz + r.sz + 1 + b.sz; rw [r.app_sz b]; omega
  | ite _ _ x y r, b => by show x.sz + y.sz + (r.app b).sz + 1 = x.sz + y.sz + r.sz + 1 + b.sz; rw [r.app_sz b]; omega
theorem app_dep : ∀ (a b : Bt) (n : Nat), a.dep ≤ n → b.dep ≤ n → (a.app b).dep ≤ n
  | nil, _, _, _, h => h
  | lf _ _ r, b, n, h, h' => r.app_dep b n h h'
  | whl _ _ x r, b, n, h, h' => by
    have h : max (x.dep + 1) r.dep ≤ n := h
    have := r.app_dep b n (by omega) h'
    show max (x.dep + 1) (r.app b).dep ≤ n; omega
  | ite _ _ x y r, b, n, h, h' => by
    have h : max (max x.dep y.dep + 1) r.dep ≤ n := h
    have := r.app_dep b n (by omega) h'
    show max (max x.dep y.dep + 1) (r.app b).dep ≤ n; omega
theorem app_ok : ∀ (a b : Bt), a.ok → b.ok → (a.app b).ok
  | nil, _, _, h => h
  | lf _ _ r, b, h, h' => ⟨h.1, h.2.1, r.app_ok b h.2.2 h'⟩
  | whl _ _ x r, b, h, h' => ⟨h.1, h.2.1, r.app_ok b h.2.2 h'⟩
  | ite _ _ x y r, b, h, h' => ⟨h.1, h.2.1, h.2.2.1, r.app_ok b h.2.2.2 h'⟩
theorem lines_len : ∀ (b : Bt) (k : Nat), (b.lines k).length ≤ 3 * b.sz
  | nil, _ => Nat.zero_le _
  | lf _ _ r, k => by have := r.lines_len k; show (r.lines k).length + 1 ≤ 3 * (r.sz + 1); omega
  | whl _ _ a r, k => by
    have := r.lines_len k
    have := a.lines_len (k + 1)
    show (a.lines (k + 1) ++ [ind k ++ "end"] ++ r.lines k).length + 1 ≤ 3 * (a.sz + r.sz + 1)
    rw [List.length_append, List.length_append]
    show (a.lines (k + 1)).length + 1 + (r.lines k).length + 1 ≤ _; omega
  | ite _ _ a b r, k => by
    have := r.lines_len k
    have := a.lines_len (k + 1)
    have := b.lines_len (k + 1)
    have e : (if b.dats.isEmpty = true then [] else [ind k ++ "else"] ++ b.lines (k + 1)).length ≤ 1 + 3 * b.sz := by
      split
      · exact Nat.zero_le _
      · rw [List.length_append]; show 1 + _ ≤ _; omega
    show (a.lines (k + 1) ++ (if b.dats.isEmpty = true then [] else [ind k ++ "else"] ++ b.lines (k + 1)) ++ [ind k ++ "end"] ++ r.lines k).length + 1 ≤ 3 * (a.sz + b.sz + r.sz + 1)
    rw [List.length_append, List.length_append, List.length_append]
    show (a.lines (k + 1)).length + _ + 1 + (r.lines k).length + 1 ≤ _; omega
end Bt
theorem ind_len {k : Nat} (h : k ≤ 30) : (ind k).length ≤ 300 := len_mul_leN (L := 10) (N := 30) (by decide +kernel) (by omega)
theorem ev_ind {k : Nat} {A : AH} (h : k ≤ 30) : mulSD (.str "  ") (.int (k : Nat)) A = .ok (.str (ind k)) A := ev_mulS ⟨by omega, by omega, by decide +kernel⟩
theorem lines_ok : ∀ (b : Bt) (k : Nat), b.ok → k + b.dep ≤ 30 → ∀ y ∈ b.lines k, y.length ≤ 5400
  | .nil, _, _, _, y, h => by cases h
  | .lf _ t r, k, ok, hk, y, h => by
    have l := ok.1.len
    have i := ind_len (k := k) (by omega)
    rcases List.mem_cons.mp h with rfl | h
    · rw [str_len]; omega
    · exact lines_ok r k ok.2.2 hk y h
  | .whl _ t a r, k, ok, hk, y, h => by
    have l := (ok.1 []).len
    have hk : k + max (a.dep + 1) r.dep ≤ 30 := hk
    have i := ind_len (k := k) (by omega)
    have ce : ("end" : Str).length ≤ 10 := by decide +kernel
    rcases List.mem_cons.mp h with rfl | h
    · rw [str_len]; omega
    · rcases List.mem_append.mp h with h | h
      · rcases List.mem_append.mp h with h | h
        · exact lines_ok a (k + 1) ok.2.1 (by omega) y h
        · cases List.mem_singleton.mp h; rw [str_len]; omega
      · exact lines_ok r k ok.2.2 (by omega) y h
  | .ite _ t a b r, k, ok, hk, y, h => by
    have l := (ok.1 []).len
    have hk : k + max (max a.dep b.dep + 1) r.dep ≤ 30 := hk
    have i := ind_len (k := k) (by omega)
    have ce : ("end" : Str).length ≤ 10 := by decide +kernel
    have cf : ("else" : Str).length ≤ 10 := by decide +kernel
    rcases List.mem_cons.mp h with rfl | h
    · rw [str_len]; omega
    · rcases List.mem_append.mp h with h | h
      · rcases List.mem_append.mp h with h | h
        · rcases List.mem_append.mp h with h | h
          · exact lines_ok a (k + 1) ok.2.1 (by omega) y h
          · split at h
            · cases h
            · rcases List.mem_append.mp h with h | h
              · cases List.mem_singleton.mp h; rw [str_len]; omega
              · exact lines_ok b (k + 1) ok.2.2.1 (by omega) y h
        · cases List.mem_singleton.mp h; rw [str_len]; omega
      · exact lines_ok r k ok.2.2.2 (by omega) y h
theorem app1 {C : AH} {L : Nat} {acc : List Str} {x : Str} (h : C[L]? = some (.lst (acc.map D.str))) (few : acc.length ≤ 10000) : appendD (.ref L) [.str x] C = .ok .non (C.set L (.lst ((acc ++ [x]).map D.str))) := by
  rw [ev_app h (by rw [List.length_map]; omega), List.map_append]; rfl
theorem ext1 {C : AH} {L r : Nat} {acc ys : List Str} (h : C[L]? = some (.lst (acc.map D.str))) (hr : C[r]? = some (.lst (ys.map D.str))) (few : acc.length ≤ 10000) (few2 : ys.length ≤ 10000) : extendD (.ref L) [.ref r] C = .ok .non (C.set L (.lst ((acc ++ ys).map D.str))) := by
  show (match C[L]?, muL C (.ref r) with
      | some (.lst xs), some ys => if xs.length + ys.length ≤ sizeLine then Res.ok D.non (C.set L (.lst (xs ++ ys))) else .bad
      | _, _ => .bad) = _
  rw [h, muL_l hr, List.map_append]
  exact if_pos (sl_le (by rw [List.length_map, List.length_map]; omega))
def POK (m : Nat) : Prop := ∀ (b : Bt) (k : Nat) (A : AH), b.dep < m → b.ok → b.sz ≤ 100 → k + b.dep ≤ 30 → Sat (m_statement_lines m [.tup b.dats, .int (k : Nat)] A) fun v A' => Gr A A' ∧ ∃ r, A.length ≤ r ∧ v = .ref r ∧ A'[r]? = some (.lst ((b.lines k).map D.str))
theorem lines_p : ∀ m : Nat, POK m := by
  intro m
  induction m with
  | zero => intro b k A h; omega
  | succ m ih =>
    intro b k A hd hok hs hk
    have ce : ("end" : Str).length ≤ 10 := by decide +kernel
    have cf : ("else" : Str).length ≤ 10 := by decide +kernel
    have il := ind_len (k := k) (by omega)
    refine sat_body rfl (sat_seq ?_)
    simp only [EV, Ab.isNon, args, List.map, List.length_cons, List.length_nil, List.length_singleton, List.replicate, Nat.reduceSub, Nat.reduceAdd, Nat.zero_add, List.cons_append, List.nil_append, List.getElem?_cons_zero, List.getElem?_cons_succ, List.set_cons_zero, List.set_cons_succ, Option.some.injEq, decide_eq_true_eq, Bool.not_eq_true', decide_eq_false_iff_not, ite_true, ite_false, if_true, if_false, reduceIte, Bool.false_eq_true, Bool.not_true, Bool.not_false, Bool.true_eq_false, decide_true, decide_false, Nat.reduceLeDiff, Nat.reduceLT, ev_ind (show k ≤ 30 by omega)]
    refine sat_seq ?_
    simp only [EV, Ab.isNon, args, List.map, List.length_cons, List.length_nil, List.length_singleton, List.replicate, Nat.reduceSub, Nat.reduceAdd, Nat.zero_add, List.cons_append, List.nil_append, List.getElem?_cons_zero, List.getElem?_cons_succ, List.set_cons_zero, List.set_cons_succ, Option.some.injEq, decide_eq_true_eq, Bool.not_eq_true', decide_eq_false_iff_not, ite_true, ite_false, if_true, if_false, reduceIte, Bool.false_eq_true, Bool.not_true, Bool.not_false, Bool.true_eq_false, decide_true, decide_false, Nat.reduceLeDiff, Nat.reduceLT]
    have hL := at_new (A := A) (o := .lst [])
    have G := Gr.app (A := A) (B := [AO.lst []])
    generalize A ++ [AO.lst []] = A1 at *
    obtain ⟨L, eL⟩ : ∃ L, A.length = L := ⟨_, rfl⟩
    rw [eL] at hL ⊢
    refine sat_seq ?_
    simp only [EV, Ab.isNon, args, List.map, List.length_cons, List.length_nil, List.length_singleton, List.replicate, Nat.reduceSub, Nat.reduceAdd, Nat.zero_add, List.cons_append, List.nil_append, List.getElem?_cons_zero, List.getElem?_cons_succ, List.set_cons_zero, List.set_cons_succ, Option.some.injEq, decide_eq_true_eq, Bool.not_eq_true', decide_eq_false_iff_not, ite_true, ite_false, if_true, if_false, reduceIte, Bool.false_eq_true, Bool.not_true, Bool.not_false, Bool.true_eq_false, decide_true, decide_false, Nat.reduceLeDiff, Nat.reduceLT, ev_iseq_t]
    have bl := b.lines_len k
    let I : List D → ASt → AH → Prop := fun ds σ C => Gr A C ∧ (∃ (rest : Bt) (acc : List Str), ds = rest.dats ∧ rest.dep ≤ b.dep ∧ rest.ok ∧ rest.sz ≤ b.sz ∧ acc ++ rest.lines k = b.lines k ∧ C[L]? = some (.lst (acc.map D.str))) ∧ ∃ x, σ = [some (.tup b.dats), some (.int (k : Nat)), some (.str (ind k)), some (.ref L), x]
    refine loop_inv I (fun d ds σ C ⟨G, ⟨rest, acc, e1, dp, ok, sz, ef, hL⟩, x, hσ⟩ => ⟨trivial, ?_⟩) (fun σ C ⟨G, ⟨rest, acc, e1, dp, ok, sz, ef, hL⟩, x, hσ⟩ => ⟨trivial, ?_⟩) _ _ _ ⟨G, ⟨b, [], rfl, Nat.le_refl _, hok, Nat.le_refl _, rfl, hL⟩, none, rfl⟩
    · subst hσ
      have al : acc.length + (rest.lines k).length = (b.lines k).length := by rw [← ef, List.length_append]
      simp only [EV, Ab.isNon, args, List.map, List.length_cons, List.length_nil, List.length_singleton, List.replicate, Nat.reduceSub, Nat.reduceAdd, Nat.zero_add, List.cons_append, List.nil_append, List.getElem?_cons_zero, List.getElem?_cons_succ, List.set_cons_zero, List.set_cons_succ, Option.some.injEq, decide_eq_true_eq, Bool.not_eq_true', decide_eq_false_iff_not, ite_true, ite_false, if_true, if_false, reduceIte, Bool.false_eq_true, Bool.not_true, Bool.not_false, Bool.true_eq_false, decide_true, decide_false, Nat.reduceLeDiff, Nat.reduceLT]
      refine sat_seq ?_
      simp only [EV, Ab.isNon, args, List.map, List.length_cons, List.length_nil, List.length_singleton, List.replicate, Nat.reduceSub, Nat.reduceAdd, Nat.zero_add, List.cons_append, List.nil_append, List.getElem?_cons_zero, List.getElem?_cons_succ, List.set_cons_zero, List.set_cons_succ, Option.some.injEq, decide_eq_true_eq, Bool.not_eq_true', decide_eq_false_iff_not, ite_true, ite_false, if_true, if_false, reduceIte, Bool.false_eq_true, Bool.not_true, Bool.not_false, Bool.true_eq_false, decide_true, decide_false, Nat.reduceLeDiff, Nat.reduceLT, ty_l hL]
      have first : ∀ (t : Str), Ln d t → Sat (m_statement_text [d] C) fun a A1 => Sat (addD (.str (ind k)) a A1) fun a A2 => Sat (appendD (.ref L) [a] A2) fun a A3 => Gr A A3 ∧ A3[L]? = some (.lst ((acc ++ [ind k ++ t]).map D.str)) := fun t ln => by
        refine Sat.imp (ln.p C) fun v C1 ⟨e, g1⟩ => ?_
        subst e
        have := ln.len
        rw [add_ss (by rw [str_len]; omega)]
        simp only [sat_ok]
        have hL := g1.keep _ _ hL
        rw [app1 hL (by omega)]
        exact ⟨(G.trans g1).set (by omega), at_set (at_lt hL)⟩
      cases rest with
      | nil => cases e1
      | lf d' t r =>
        have e1 : d :: ds = d' :: r.dats := e1
        rw [List.cons.injEq] at e1
        obtain ⟨e1, e2⟩ := e1
        subst e1
        obtain ⟨ln, ⟨w, ds', ed, w1, w2⟩, ro⟩ := ok
        refine (first t ln).imp fun v C1 h => h.imp fun v C2 h => h.imp fun v C3 ⟨G3, hL⟩ => ?_
        clear first
        subst ed
        refine ?_
        simp only [EV, Ab.isNon, args, List.map, List.length_cons, List.length_nil, List.length_singleton, List.replicate, Nat.reduceSub, Nat.reduceAdd, Nat.zero_add, List.cons_append, List.nil_append, List.getElem?_cons_zero, List.getElem?_cons_succ, List.set_cons_zero, List.set_cons_succ, Option.some.injEq, decide_eq_true_eq, Bool.not_eq_true', decide_eq_false_iff_not, ite_true, ite_false, if_true, if_false, reduceIte, Bool.false_eq_true, Bool.not_true, Bool.not_false, Bool.true_eq_false, decide_true, decide_false, Nat.reduceLeDiff, Nat.reduceLT, ixa, w1, w2, turn_]
        exact ⟨G3, ⟨r, _, e2, dp, ro, by have : r.sz + 1 ≤ b.sz := sz; omega, by rw [← ef]; simp [Bt.lines], hL⟩, _, rfl⟩
      | whl e t a r =>
        have e1 : d :: ds = .tup [.str "while", e, .tup a.dats] :: r.dats := e1
        rw [List.cons.injEq] at e1
        obtain ⟨e1, e2⟩ := e1
        subst e1
        obtain ⟨ln, oa, ro⟩ := ok
        have dp : max (a.dep + 1) r.dep ≤ b.dep := dp
        have sz : a.sz + r.sz + 1 ≤ b.sz := sz
        have la := a.lines_len (k + 1)
        refine (first t (ln _)).imp fun v C1 h => h.imp fun v C2 h => h.imp fun v C3 ⟨G3, hL⟩ => ?_
        clear first
        have kk : ((k : Nat) : Int) + 1 = ((k + 1 : Nat) : Int) := rfl
        simp (decide := true) only [EV, Ab.isNon, args, List.map, List.length_cons, List.length_nil, List.length_singleton, List.replicate, Nat.reduceSub, Nat.reduceAdd, Nat.zero_add, List.cons_append, List.nil_append, List.getElem?_cons_zero, List.getElem?_cons_succ, List.set_cons_zero, List.set_cons_succ, Option.some.injEq, decide_eq_true_eq, Bool.not_eq_true', decide_eq_false_iff_not, ite_true, ite_false, if_true, if_false, reduceIte, Bool.false_eq_true, Bool.not_true, Bool.not_false, Bool.true_eq_false, decide_true, decide_false, Nat.reduceLeDiff, Nat.reduceLT, ixa, ixc]
        refine sat_seq ?_
        simp only [EV, Ab.isNon, args, List.map, List.length_cons, List.length_nil, List.length_singleton, List.replicate, Nat.reduceSub, Nat.reduceAdd, Nat.zero_add, List.cons_append, List.nil_append, List.getElem?_cons_zero, List.getElem?_cons_succ, List.set_cons_zero, List.set_cons_succ, Option.some.injEq, decide_eq_true_eq, Bool.not_eq_true', decide_eq_false_iff_not, ite_true, ite_false, if_true, if_false, reduceIte, Bool.false_eq_true, Bool.not_true, Bool.not_false, Bool.true_eq_false, decide_true, decide_false, Nat.reduceLeDiff, Nat.reduceLT, ty_l hL, ixc, kk]
        refine Sat.imp (ih a (k + 1) C3 (by omega) oa (by omega) (by omega)) fun v C4 ⟨g4, r4, l4, e4, h4⟩ => ?_
        subst e4
        have hL := g4.keep _ _ hL
        rw [ext1 hL h4 (by simp; omega) (by omega)]
        have hL := at_set (o := .lst ((acc ++ [ind k ++ t] ++ a.lines (k + 1)).map D.str)) (at_lt hL)
        have G4 := (G3.trans g4).set (o := .lst ((acc ++ [ind k ++ t] ++ a.lines (k + 1)).map D.str)) (Nat.le_of_eq eL)
        generalize C4.set L (.lst ((acc ++ [ind k ++ t] ++ a.lines (k + 1)).map D.str)) = C5 at *
        simp only [EV, Ab.isNon, args, List.map, List.length_cons, List.length_nil, List.length_singleton, List.replicate, Nat.reduceSub, Nat.reduceAdd, Nat.zero_add, List.cons_append, List.nil_append, List.getElem?_cons_zero, List.getElem?_cons_succ, List.set_cons_zero, List.set_cons_succ, Option.some.injEq, decide_eq_true_eq, Bool.not_eq_true', decide_eq_false_iff_not, ite_true, ite_false, if_true, if_false, reduceIte, Bool.false_eq_true, Bool.not_true, Bool.not_false, Bool.true_eq_false, decide_true, decide_false, Nat.reduceLeDiff, Nat.reduceLT]
        refine sat_seq ?_
        simp (decide := true) only [EV, Ab.isNon, args, List.map, List.length_cons, List.length_nil, List.length_singleton, List.replicate, Nat.reduceSub, Nat.reduceAdd, Nat.zero_add, List.cons_append, List.nil_append, List.getElem?_cons_zero, List.getElem?_cons_succ, List.set_cons_zero, List.set_cons_succ, Option.some.injEq, decide_eq_true_eq, Bool.not_eq_true', decide_eq_false_iff_not, ite_true, ite_false, if_true, if_false, reduceIte, Bool.false_eq_true, Bool.not_true, Bool.not_false, Bool.true_eq_false, decide_true, decide_false, Nat.reduceLeDiff, Nat.reduceLT, ixa]
        simp only [EV, Ab.isNon, args, List.map, List.length_cons, List.length_nil, List.length_singleton, List.replicate, Nat.reduceSub, Nat.reduceAdd, Nat.zero_add, List.cons_append, List.nil_append, List.getElem?_cons_zero, List.getElem?_cons_succ, List.set_cons_zero, List.set_cons_succ, Option.some.injEq, decide_eq_true_eq, Bool.not_eq_true', decide_eq_false_iff_not, ite_true, ite_false, if_true, if_false, reduceIte, Bool.false_eq_true, Bool.not_true, Bool.not_false, Bool.true_eq_false, decide_true, decide_false, Nat.reduceLeDiff, Nat.reduceLT, ty_l hL]
        rw [add_ss (by rw [str_len]; omega)]
        simp only [EV, Ab.isNon, args, List.map, List.length_cons, List.length_nil, List.length_singleton, List.replicate, Nat.reduceSub, Nat.reduceAdd, Nat.zero_add, List.cons_append, List.nil_append, List.getElem?_cons_zero, List.getElem?_cons_succ, List.set_cons_zero, List.set_cons_succ, Option.some.injEq, decide_eq_true_eq, Bool.not_eq_true', decide_eq_false_iff_not, ite_true, ite_false, if_true, if_false, reduceIte, Bool.false_eq_true, Bool.not_true, Bool.not_false, Bool.true_eq_false, decide_true, decide_false, Nat.reduceLeDiff, Nat.reduceLT]
        rw [app1 hL (by simp; omega)]
        simp only [EV, Ab.isNon, args, List.map, List.length_cons, List.length_nil, List.length_singleton, List.replicate, Nat.reduceSub, Nat.reduceAdd, Nat.zero_add, List.cons_append, List.nil_append, List.getElem?_cons_zero, List.getElem?_cons_succ, List.set_cons_zero, List.set_cons_succ, Option.some.injEq, decide_eq_true_eq, Bool.not_eq_true', decide_eq_false_iff_not, ite_true, ite_false, if_true, if_false, reduceIte, Bool.false_eq_true, Bool.not_true, Bool.not_false, Bool.true_eq_false, decide_true, decide_false, Nat.reduceLeDiff, Nat.reduceLT, turn_]
        exact ⟨G4.set (Nat.le_of_eq eL), ⟨r, _, e2, by omega, ro, by omega, by rw [← ef]; simp [Bt.lines], at_set (at_lt hL)⟩, _, rfl⟩
      | ite e t a c r =>
        have e1 : d :: ds = .tup [.str "if", e, .tup a.dats, .tup c.dats] :: r.dats := e1
        rw [List.cons.injEq] at e1
        obtain ⟨e1, e2⟩ := e1
        subst e1
        obtain ⟨ln, oa, oc, ro⟩ := ok
        have dp : max (max a.dep c.dep + 1) r.dep ≤ b.dep := dp
        have sz : a.sz + c.sz + r.sz + 1 ≤ b.sz := sz
        have la := a.lines_len (k + 1)
        have lc := c.lines_len (k + 1)
        refine (first t (ln _)).imp fun v C1 h => h.imp fun v C2 h => h.imp fun v C3 ⟨G3, hL⟩ => ?_
        clear first
        have kk : ((k : Nat) : Int) + 1 = ((k + 1 : Nat) : Int) := rfl
        simp (decide := true) only [EV, Ab.isNon, args, List.map, List.length_cons, List.length_nil, List.length_singleton, List.replicate, Nat.reduceSub, Nat.reduceAdd, Nat.zero_add, List.cons_append, List.nil_append, List.getElem?_cons_zero, List.getElem?_cons_succ, List.set_cons_zero, List.set_cons_succ, Option.some.injEq, decide_eq_true_eq, Bool.not_eq_true', decide_eq_false_iff_not, ite_true, ite_false, if_true, if_false, reduceIte, Bool.false_eq_true, Bool.not_true, Bool.not_false, Bool.true_eq_false, decide_true, decide_false, Nat.reduceLeDiff, Nat.reduceLT, ixa, ixc]
        refine sat_seq ?_
        simp only [EV, Ab.isNon, args, List.map, List.length_cons, List.length_nil, List.length_singleton, List.replicate, Nat.reduceSub, Nat.reduceAdd, Nat.zero_add, List.cons_append, List.nil_append, List.getElem?_cons_zero, List.getElem?_cons_succ, List.set_cons_zero, List.set_cons_succ, Option.some.injEq, decide_eq_true_eq, Bool.not_eq_true', decide_eq_false_iff_not, ite_true, ite_false, if_true, if_false, reduceIte, Bool.false_eq_true, Bool.not_true, Bool.not_false, Bool.true_eq_false, decide_true, decide_false, Nat.reduceLeDiff, Nat.reduceLT, ty_l hL, ixc, kk]
        refine Sat.imp (ih a (k + 1) C3 (by omega) oa (by omega) (by omega)) fun v C4 ⟨g4, r4, l4, e4, h4⟩ => ?_
        subst e4
        have hL := g4.keep _ _ hL
        rw [ext1 hL h4 (by simp; omega) (by omega)]
        have hL := at_set (o := .lst ((acc ++ [ind k ++ t] ++ a.lines (k + 1)).map D.str)) (at_lt hL)
        have G4 := (G3.trans g4).set (o := .lst ((acc ++ [ind k ++ t] ++ a.lines (k + 1)).map D.str)) (Nat.le_of_eq eL)
        generalize C4.set L (.lst ((acc ++ [ind k ++ t] ++ a.lines (k + 1)).map D.str)) = C5 at *
        simp only [EV, Ab.isNon, args, List.map, List.length_cons, List.length_nil, List.length_singleton, List.replicate, Nat.reduceSub, Nat.reduceAdd, Nat.zero_add, List.cons_append, List.nil_append, List.getElem?_cons_zero, List.getElem?_cons_succ, List.set_cons_zero, List.set_cons_succ, Option.some.injEq, decide_eq_true_eq, Bool.not_eq_true', decide_eq_false_iff_not, ite_true, ite_false, if_true, if_false, reduceIte, Bool.false_eq_true, Bool.not_true, Bool.not_false, Bool.true_eq_false, decide_true, decide_false, Nat.reduceLeDiff, Nat.reduceLT]
        refine sat_mid (fun σ B => Gr A B ∧ B[L]? = some (.lst ((acc ++ [ind k ++ t] ++ a.lines (k + 1) ++ (if c.dats.isEmpty = true then [] else [ind k ++ "else"] ++ c.lines (k + 1))).map D.str)) ∧ σ = [some (.tup b.dats), some (.int (k : Nat)), some (.str (ind k)), some (.ref L), some (.tup [.str "if", e, .tup a.dats, .tup c.dats])]) ?_ fun σ B ⟨GB, hB, hσ⟩ => ?_
        · simp (decide := true) only [EV, Ab.isNon, args, List.map, List.length_cons, List.length_nil, List.length_singleton, List.replicate, Nat.reduceSub, Nat.reduceAdd, Nat.zero_add, List.cons_append, List.nil_append, List.getElem?_cons_zero, List.getElem?_cons_succ, List.set_cons_zero, List.set_cons_succ, Option.some.injEq, decide_eq_true_eq, Bool.not_eq_true', decide_eq_false_iff_not, ite_true, ite_false, if_true, if_false, reduceIte, Bool.false_eq_true, Bool.not_true, Bool.not_false, Bool.true_eq_false, decide_true, decide_false, Nat.reduceLeDiff, Nat.reduceLT, ixa, ixd, ev_neNilT]
          cases hc : c.dats.isEmpty with
          | true =>
            simp only [EV, Ab.isNon, args, List.map, List.length_cons, List.length_nil, List.length_singleton, List.replicate, Nat.reduceSub, Nat.reduceAdd, Nat.zero_add, List.cons_append, List.nil_append, List.getElem?_cons_zero, List.getElem?_cons_succ, List.set_cons_zero, List.set_cons_succ, Option.some.injEq, decide_eq_true_eq, Bool.not_eq_true', decide_eq_false_iff_not, ite_true, ite_false, if_true, if_false, reduceIte, Bool.false_eq_true, Bool.not_true, Bool.not_false, Bool.true_eq_false, decide_true, decide_false, Nat.reduceLeDiff, Nat.reduceLT]
            exact ⟨_, rfl, G4, by rw [List.append_nil]; exact hL, rfl⟩
          | false =>
            simp only [EV, Ab.isNon, args, List.map, List.length_cons, List.length_nil, List.length_singleton, List.replicate, Nat.reduceSub, Nat.reduceAdd, Nat.zero_add, List.cons_append, List.nil_append, List.getElem?_cons_zero, List.getElem?_cons_succ, List.set_cons_zero, List.set_cons_succ, Option.some.injEq, decide_eq_true_eq, Bool.not_eq_true', decide_eq_false_iff_not, ite_true, ite_false, if_true, if_false, reduceIte, Bool.false_eq_true, Bool.not_true, Bool.not_false, Bool.true_eq_false, decide_true, decide_false, Nat.reduceLeDiff, Nat.reduceLT]
            refine sat_seq ?_
            simp only [EV, Ab.isNon, args, List.map, List.length_cons, List.length_nil, List.length_singleton, List.replicate, Nat.reduceSub, Nat.reduceAdd, Nat.zero_add, List.cons_append, List.nil_append, List.getElem?_cons_zero, List.getElem?_cons_succ, List.set_cons_zero, List.set_cons_succ, Option.some.injEq, decide_eq_true_eq, Bool.not_eq_true', decide_eq_false_iff_not, ite_true, ite_false, if_true, if_false, reduceIte, Bool.false_eq_true, Bool.not_true, Bool.not_false, Bool.true_eq_false, decide_true, decide_false, Nat.reduceLeDiff, Nat.reduceLT, ty_l hL]
            rw [add_ss (by rw [str_len]; omega)]
            simp only [EV, Ab.isNon, args, List.map, List.length_cons, List.length_nil, List.length_singleton, List.replicate, Nat.reduceSub, Nat.reduceAdd, Nat.zero_add, List.cons_append, List.nil_append, List.getElem?_cons_zero, List.getElem?_cons_succ, List.set_cons_zero, List.set_cons_succ, Option.some.injEq, decide_eq_true_eq, Bool.not_eq_true', decide_eq_false_iff_not, ite_true, ite_false, if_true, if_false, reduceIte, Bool.false_eq_true, Bool.not_true, Bool.not_false, Bool.true_eq_false, decide_true, decide_false, Nat.reduceLeDiff, Nat.reduceLT]
            rw [app1 hL (by simp; omega)]
            have hL := at_set (o := .lst ((acc ++ [ind k ++ t] ++ a.lines (k + 1) ++ [ind k ++ "else"]).map D.str)) (at_lt hL)
            have G5 := G4.set (o := .lst ((acc ++ [ind k ++ t] ++ a.lines (k + 1) ++ [ind k ++ "else"]).map D.str)) (Nat.le_of_eq eL)
            generalize C5.set L (.lst ((acc ++ [ind k ++ t] ++ a.lines (k + 1) ++ [ind k ++ "else"]).map D.str)) = C6 at *
            simp only [EV, Ab.isNon, args, List.map, List.length_cons, List.length_nil, List.length_singleton, List.replicate, Nat.reduceSub, Nat.reduceAdd, Nat.zero_add, List.cons_append, List.nil_append, List.getElem?_cons_zero, List.getElem?_cons_succ, List.set_cons_zero, List.set_cons_succ, Option.some.injEq, decide_eq_true_eq, Bool.not_eq_true', decide_eq_false_iff_not, ite_true, ite_false, if_true, if_false, reduceIte, Bool.false_eq_true, Bool.not_true, Bool.not_false, Bool.true_eq_false, decide_true, decide_false, Nat.reduceLeDiff, Nat.reduceLT, ty_l hL, ixd, kk]
            refine Sat.imp (ih c (k + 1) C6 (by omega) oc (by omega) (by omega)) fun v C7 ⟨g7, r7, l7, e7, h7⟩ => ?_
            subst e7
            have hL := g7.keep _ _ hL
            rw [ext1 hL h7 (by simp; omega) (by omega)]
            simp only [EV, Ab.isNon, args, List.map, List.length_cons, List.length_nil, List.length_singleton, List.replicate, Nat.reduceSub, Nat.reduceAdd, Nat.zero_add, List.cons_append, List.nil_append, List.getElem?_cons_zero, List.getElem?_cons_succ, List.set_cons_zero, List.set_cons_succ, Option.some.injEq, decide_eq_true_eq, Bool.not_eq_true', decide_eq_false_iff_not, ite_true, ite_false, if_true, if_false, reduceIte, Bool.false_eq_true, Bool.not_true, Bool.not_false, Bool.true_eq_false, decide_true, decide_false, Nat.reduceLeDiff, Nat.reduceLT]
            exact ⟨_, rfl, (G5.trans g7).set (Nat.le_of_eq eL), by rw [at_set (at_lt hL), List.append_assoc (acc ++ [ind k ++ t] ++ a.lines (k + 1))]; rfl, rfl⟩
        · subst hσ
          have le : (if c.dats.isEmpty = true then [] else [ind k ++ "else"] ++ c.lines (k + 1)).length ≤ 1 + 3 * c.sz := by
            split
            · exact Nat.zero_le _
            · rw [List.length_append]; show 1 + _ ≤ _; omega
          simp only [EV, Ab.isNon, args, List.map, List.length_cons, List.length_nil, List.length_singleton, List.replicate, Nat.reduceSub, Nat.reduceAdd, Nat.zero_add, List.cons_append, List.nil_append, List.getElem?_cons_zero, List.getElem?_cons_succ, List.set_cons_zero, List.set_cons_succ, Option.some.injEq, decide_eq_true_eq, Bool.not_eq_true', decide_eq_false_iff_not, ite_true, ite_false, if_true, if_false, reduceIte, Bool.false_eq_true, Bool.not_true, Bool.not_false, Bool.true_eq_false, decide_true, decide_false, Nat.reduceLeDiff, Nat.reduceLT, ty_l hB]
          rw [add_ss (by rw [str_len]; omega)]
          simp only [EV, Ab.isNon, args, List.map, List.length_cons, List.length_nil, List.length_singleton, List.replicate, Nat.reduceSub, Nat.reduceAdd, Nat.zero_add, List.cons_append, List.nil_append, List.getElem?_cons_zero, List.getElem?_cons_succ, List.set_cons_zero, List.set_cons_succ, Option.some.injEq, decide_eq_true_eq, Bool.not_eq_true', decide_eq_false_iff_not, ite_true, ite_false, if_true, if_false, reduceIte, Bool.false_eq_true, Bool.not_true, Bool.not_false, Bool.true_eq_false, decide_true, decide_false, Nat.reduceLeDiff, Nat.reduceLT]
          rw [app1 hB (by simp only [List.length_append, List.length_singleton]; omega)]
          simp only [EV, Ab.isNon, args, List.map, List.length_cons, List.length_nil, List.length_singleton, List.replicate, Nat.reduceSub, Nat.reduceAdd, Nat.zero_add, List.cons_append, List.nil_append, List.getElem?_cons_zero, List.getElem?_cons_succ, List.set_cons_zero, List.set_cons_succ, Option.some.injEq, decide_eq_true_eq, Bool.not_eq_true', decide_eq_false_iff_not, ite_true, ite_false, if_true, if_false, reduceIte, Bool.false_eq_true, Bool.not_true, Bool.not_false, Bool.true_eq_false, decide_true, decide_false, Nat.reduceLeDiff, Nat.reduceLT, turn_]
          exact ⟨GB.set (Nat.le_of_eq eL), ⟨r, _, e2, by omega, ro, by omega, by rw [← ef]; simp only [Bt.lines, List.append_assoc, List.cons_append, List.nil_append, List.singleton_append], at_set (at_lt hB)⟩, _, rfl⟩
    · subst hσ
      cases rest with
      | nil =>
        simp only [EV, Ab.isNon, args, List.map, List.length_cons, List.length_nil, List.length_singleton, List.replicate, Nat.reduceSub, Nat.reduceAdd, Nat.zero_add, List.cons_append, List.nil_append, List.getElem?_cons_zero, List.getElem?_cons_succ, List.set_cons_zero, List.set_cons_succ, Option.some.injEq, decide_eq_true_eq, Bool.not_eq_true', decide_eq_false_iff_not, ite_true, ite_false, if_true, if_false, reduceIte, Bool.false_eq_true, Bool.not_true, Bool.not_false, Bool.true_eq_false, decide_true, decide_false, Nat.reduceLeDiff, Nat.reduceLT]
        have ef : acc ++ [] = b.lines k := ef
        rw [List.append_nil] at ef
        exact ⟨G, L, Nat.le_refl _, rfl, by rw [← ef]; exact hL⟩
      | lf d t r => cases e1
      | whl e t a r => cases e1
      | ite e t a c r => cases e1
end Law

namespace Law
open PySem PySem.Spec PyProof.Rows L2 Ab
open scoped Classical
/-! ### the lines of a body, by the law -/
def LOK (m : Nat) : Prop := ∀ (b : Bt) (k : Nat) (A : AH), b.dep < m → b.ok → b.sz ≤ 100 → k + b.dep ≤ 30 → Sat (m__law_lines m [.tup b.dats, .int (k : Nat)] A) fun v A' => Gr A A' ∧ ∃ r, A.length ≤ r ∧ v = .ref r ∧ A'[r]? = some (.lst ((b.lines k).map D.str))
theorem add1 {C : AH} {L r : Nat} {acc ys : List Str} (h : C[L]? = some (.lst (acc.map D.str))) (hr : C[r]? = some (.lst (ys.map D.str))) (few : acc.length ≤ 10000) (few2 : ys.length ≤ 10000) : addD (.ref L) (.ref r) C = .ok (.ref C.length) (C ++ [.lst ((acc ++ ys).map D.str)]) := by
  rw [ev_add_rr (muL_l h) (muL_l hr) (sl_le (by rw [List.length_map, List.length_map]; omega)), List.map_append]
theorem lines_l : ∀ m : Nat, LOK m := by
  intro m
  induction m with
  | zero => intro b k A h; omega
  | succ m ih =>
    intro b k A hd hok hs hk
    have ce : ("end" : Str).length ≤ 10 := by decide +kernel
    have cf : ("else" : Str).length ≤ 10 := by decide +kernel
    have il := ind_len (k := k) (by omega)
    have ei : ∀ A, mulSD (.str "  ") (.int (k : Nat)) A = .ok (.str (ind k)) A := fun A => ev_ind (by omega)
    refine sat_body rfl (sat_seq ?_)
    simp only [EV, Ab.isNon, args, List.map, List.length_cons, List.length_nil, List.length_singleton, List.replicate, Nat.reduceSub, Nat.reduceAdd, Nat.zero_add, List.cons_append, List.nil_append, List.getElem?_cons_zero, List.getElem?_cons_succ, List.set_cons_zero, List.set_cons_succ, Option.some.injEq, decide_eq_true_eq, Bool.not_eq_true', decide_eq_false_iff_not, ite_true, ite_false, if_true, if_false, reduceIte, Bool.false_eq_true, Bool.not_true, Bool.not_false, Bool.true_eq_false, decide_true, decide_false, Nat.reduceLeDiff, Nat.reduceLT]
    have hL := at_new (A := A) (o := .lst [])
    have G := Gr.app (A := A) (B := [AO.lst []])
    have lL : A.length ≤ A.length := Nat.le_refl _
    generalize A ++ [AO.lst []] = A1 at *
    refine sat_seq ?_
    simp only [EV, Ab.isNon, args, List.map, List.length_cons, List.length_nil, List.length_singleton, List.replicate, Nat.reduceSub, Nat.reduceAdd, Nat.zero_add, List.cons_append, List.nil_append, List.getElem?_cons_zero, List.getElem?_cons_succ, List.set_cons_zero, List.set_cons_succ, Option.some.injEq, decide_eq_true_eq, Bool.not_eq_true', decide_eq_false_iff_not, ite_true, ite_false, if_true, if_false, reduceIte, Bool.false_eq_true, Bool.not_true, Bool.not_false, Bool.true_eq_false, decide_true, decide_false, Nat.reduceLeDiff, Nat.reduceLT, ev_iseq_t]
    have bl := b.lines_len k
    let I : List D → ASt → AH → Prop := fun ds σ C => Gr A C ∧ (∃ (rest : Bt) (acc : List Str) (L : Nat), ds = rest.dats ∧ rest.dep ≤ b.dep ∧ rest.ok ∧ rest.sz ≤ b.sz ∧ acc ++ rest.lines k = b.lines k ∧ A.length ≤ L ∧ C[L]? = some (.lst (acc.map D.str)) ∧ ∃ x, σ = [some (.tup b.dats), some (.int (k : Nat)), some (.ref L), x])
    refine loop_inv I (fun d ds σ C ⟨G, rest, acc, L, e1, dp, ok, sz, ef, lL, hL, x, hσ⟩ => ⟨trivial, ?_⟩) (fun σ C ⟨G, rest, acc, L, e1, dp, ok, sz, ef, lL, hL, x, hσ⟩ => ⟨trivial, ?_⟩) _ _ _ ⟨G, b, [], A.length, rfl, Nat.le_refl _, hok, Nat.le_refl _, rfl, lL, hL, none, rfl⟩
    · subst hσ
      have al : acc.length + (rest.lines k).length = (b.lines k).length := by rw [← ef, List.length_append]
      simp only [EV, Ab.isNon, args, List.map, List.length_cons, List.length_nil, List.length_singleton, List.replicate, Nat.reduceSub, Nat.reduceAdd, Nat.zero_add, List.cons_append, List.nil_append, List.getElem?_cons_zero, List.getElem?_cons_succ, List.set_cons_zero, List.set_cons_succ, Option.some.injEq, decide_eq_true_eq, Bool.not_eq_true', decide_eq_false_iff_not, ite_true, ite_false, if_true, if_false, reduceIte, Bool.false_eq_true, Bool.not_true, Bool.not_false, Bool.true_eq_false, decide_true, decide_false, Nat.reduceLeDiff, Nat.reduceLT]
      refine sat_seq ?_
      simp only [EV, Ab.isNon, args, List.map, List.length_cons, List.length_nil, List.length_singleton, List.replicate, Nat.reduceSub, Nat.reduceAdd, Nat.zero_add, List.cons_append, List.nil_append, List.getElem?_cons_zero, List.getElem?_cons_succ, List.set_cons_zero, List.set_cons_succ, Option.some.injEq, decide_eq_true_eq, Bool.not_eq_true', decide_eq_false_iff_not, ite_true, ite_false, if_true, if_false, reduceIte, Bool.false_eq_true, Bool.not_true, Bool.not_false, Bool.true_eq_false, decide_true, decide_false, Nat.reduceLeDiff, Nat.reduceLT, ty_l hL, ei]
      have first : ∀ (t : Str), Ln d t → Sat (m__law_line [d] C) fun a A1 => Sat (addD (.str (ind k)) a A1) fun a A2 => Sat (appendD (.ref L) [a] A2) fun a A3 => Gr A A3 ∧ A3[L]? = some (.lst ((acc ++ [ind k ++ t]).map D.str)) := fun t ln => by
        refine Sat.imp (ln.l C) fun v C1 ⟨e, g1⟩ => ?_
        subst e
        have := ln.len
        rw [add_ss (by rw [str_len]; omega)]
        simp only [sat_ok]
        have hL := g1.keep _ _ hL
        rw [app1 hL (by omega)]
        exact ⟨(G.trans g1).set lL, at_set (at_lt hL)⟩
      cases rest with
      | nil => cases e1
      | lf d' t r =>
        have e1 : d :: ds = d' :: r.dats := e1
        rw [List.cons.injEq] at e1
        obtain ⟨e1, e2⟩ := e1
        subst e1
        obtain ⟨ln, ⟨w, ds', ed, w1, w2⟩, ro⟩ := ok
        refine (first t ln).imp fun v C1 h => h.imp fun v C2 h => h.imp fun v C3 ⟨G3, hL⟩ => ?_
        clear first
        subst ed
        simp only [EV, Ab.isNon, args, List.map, List.length_cons, List.length_nil, List.length_singleton, List.replicate, Nat.reduceSub, Nat.reduceAdd, Nat.zero_add, List.cons_append, List.nil_append, List.getElem?_cons_zero, List.getElem?_cons_succ, List.set_cons_zero, List.set_cons_succ, Option.some.injEq, decide_eq_true_eq, Bool.not_eq_true', decide_eq_false_iff_not, ite_true, ite_false, if_true, if_false, reduceIte, Bool.false_eq_true, Bool.not_true, Bool.not_false, Bool.true_eq_false, decide_true, decide_false, Nat.reduceLeDiff, Nat.reduceLT, ixa, w1, w2, turn_]
        exact ⟨G3, r, _, L, e2, dp, ro, by have : r.sz + 1 ≤ b.sz := sz; omega, by rw [← ef]; simp [Bt.lines], lL, hL, _, rfl⟩
      | whl e t a r =>
        have e1 : d :: ds = .tup [.str "while", e, .tup a.dats] :: r.dats := e1
        rw [List.cons.injEq] at e1
        obtain ⟨e1, e2⟩ := e1
        subst e1
        obtain ⟨ln, oa, ro⟩ := ok
        have dp : max (a.dep + 1) r.dep ≤ b.dep := dp
        have sz : a.sz + r.sz + 1 ≤ b.sz := sz
        have la := a.lines_len (k + 1)
        refine (first t (ln _)).imp fun v C1 h => h.imp fun v C2 h => h.imp fun v C3 ⟨G3, hL⟩ => ?_
        clear first
        have kk : ((k : Nat) : Int) + 1 = ((k + 1 : Nat) : Int) := rfl
        simp (decide := true) only [EV, Ab.isNon, args, List.map, List.length_cons, List.length_nil, List.length_singleton, List.replicate, Nat.reduceSub, Nat.reduceAdd, Nat.zero_add, List.cons_append, List.nil_append, List.getElem?_cons_zero, List.getElem?_cons_succ, List.set_cons_zero, List.set_cons_succ, Option.some.injEq, decide_eq_true_eq, Bool.not_eq_true', decide_eq_false_iff_not, ite_true, ite_false, if_true, if_false, reduceIte, Bool.false_eq_true, Bool.not_true, Bool.not_false, Bool.true_eq_false, decide_true, decide_false, Nat.reduceLeDiff, Nat.reduceLT, ixa, ixc]
        refine sat_seq ?_
        simp only [EV, Ab.isNon, args, List.map, List.length_cons, List.length_nil, List.length_singleton, List.replicate, Nat.reduceSub, Nat.reduceAdd, Nat.zero_add, List.cons_append, List.nil_append, List.getElem?_cons_zero, List.getElem?_cons_succ, List.set_cons_zero, List.set_cons_succ, Option.some.injEq, decide_eq_true_eq, Bool.not_eq_true', decide_eq_false_iff_not, ite_true, ite_false, if_true, if_false, reduceIte, Bool.false_eq_true, Bool.not_true, Bool.not_false, Bool.true_eq_false, decide_true, decide_false, Nat.reduceLeDiff, Nat.reduceLT, ixc, kk]
        refine Sat.imp (ih a (k + 1) C3 (by omega) oa (by omega) (by omega)) fun v C4 ⟨g4, r4, l4, e4, h4⟩ => ?_
        subst e4
        have hL := g4.keep _ _ hL
        rw [add1 hL h4 (by simp; omega) (by omega)]
        have hL := at_new (A := C4) (o := .lst ((acc ++ [ind k ++ t] ++ a.lines (k + 1)).map D.str))
        have G4 := (G3.trans g4).trans (Gr.app (B := [AO.lst ((acc ++ [ind k ++ t] ++ a.lines (k + 1)).map D.str)]))
        have l4' : A.length ≤ C4.length := (G3.trans g4).le
        generalize C4 ++ [AO.lst ((acc ++ [ind k ++ t] ++ a.lines (k + 1)).map D.str)] = C5 at *
        obtain ⟨L2, eL2⟩ : ∃ L2, C4.length = L2 := ⟨_, rfl⟩
        rw [eL2] at hL l4'
        simp only [EV, Ab.isNon, args, List.map, List.length_cons, List.length_nil, List.length_singleton, List.replicate, Nat.reduceSub, Nat.reduceAdd, Nat.zero_add, List.cons_append, List.nil_append, List.getElem?_cons_zero, List.getElem?_cons_succ, List.set_cons_zero, List.set_cons_succ, Option.some.injEq, decide_eq_true_eq, Bool.not_eq_true', decide_eq_false_iff_not, ite_true, ite_false, if_true, if_false, reduceIte, Bool.false_eq_true, Bool.not_true, Bool.not_false, Bool.true_eq_false, decide_true, decide_false, Nat.reduceLeDiff, Nat.reduceLT, eL2]
        refine sat_seq ?_
        simp (decide := true) only [EV, Ab.isNon, args, List.map, List.length_cons, List.length_nil, List.length_singleton, List.replicate, Nat.reduceSub, Nat.reduceAdd, Nat.zero_add, List.cons_append, List.nil_append, List.getElem?_cons_zero, List.getElem?_cons_succ, List.set_cons_zero, List.set_cons_succ, Option.some.injEq, decide_eq_true_eq, Bool.not_eq_true', decide_eq_false_iff_not, ite_true, ite_false, if_true, if_false, reduceIte, Bool.false_eq_true, Bool.not_true, Bool.not_false, Bool.true_eq_false, decide_true, decide_false, Nat.reduceLeDiff, Nat.reduceLT, ixa]
        simp only [EV, Ab.isNon, args, List.map, List.length_cons, List.length_nil, List.length_singleton, List.replicate, Nat.reduceSub, Nat.reduceAdd, Nat.zero_add, List.cons_append, List.nil_append, List.getElem?_cons_zero, List.getElem?_cons_succ, List.set_cons_zero, List.set_cons_succ, Option.some.injEq, decide_eq_true_eq, Bool.not_eq_true', decide_eq_false_iff_not, ite_true, ite_false, if_true, if_false, reduceIte, Bool.false_eq_true, Bool.not_true, Bool.not_false, Bool.true_eq_false, decide_true, decide_false, Nat.reduceLeDiff, Nat.reduceLT, ty_l hL, ei]
        rw [add_ss (by rw [str_len]; omega)]
        simp only [EV, Ab.isNon, args, List.map, List.length_cons, List.length_nil, List.length_singleton, List.replicate, Nat.reduceSub, Nat.reduceAdd, Nat.zero_add, List.cons_append, List.nil_append, List.getElem?_cons_zero, List.getElem?_cons_succ, List.set_cons_zero, List.set_cons_succ, Option.some.injEq, decide_eq_true_eq, Bool.not_eq_true', decide_eq_false_iff_not, ite_true, ite_false, if_true, if_false, reduceIte, Bool.false_eq_true, Bool.not_true, Bool.not_false, Bool.true_eq_false, decide_true, decide_false, Nat.reduceLeDiff, Nat.reduceLT]
        rw [app1 hL (by simp; omega)]
        simp only [EV, Ab.isNon, args, List.map, List.length_cons, List.length_nil, List.length_singleton, List.replicate, Nat.reduceSub, Nat.reduceAdd, Nat.zero_add, List.cons_append, List.nil_append, List.getElem?_cons_zero, List.getElem?_cons_succ, List.set_cons_zero, List.set_cons_succ, Option.some.injEq, decide_eq_true_eq, Bool.not_eq_true', decide_eq_false_iff_not, ite_true, ite_false, if_true, if_false, reduceIte, Bool.false_eq_true, Bool.not_true, Bool.not_false, Bool.true_eq_false, decide_true, decide_false, Nat.reduceLeDiff, Nat.reduceLT, turn_]
        exact ⟨G4.set l4', r, _, L2, e2, by omega, ro, by omega, by rw [← ef]; simp [Bt.lines], l4', at_set (at_lt hL), _, rfl⟩
      | ite e t a c r =>
        have e1 : d :: ds = .tup [.str "if", e, .tup a.dats, .tup c.dats] :: r.dats := e1
        rw [List.cons.injEq] at e1
        obtain ⟨e1, e2⟩ := e1
        subst e1
        obtain ⟨ln, oa, oc, ro⟩ := ok
        have dp : max (max a.dep c.dep + 1) r.dep ≤ b.dep := dp
        have sz : a.sz + c.sz + r.sz + 1 ≤ b.sz := sz
        have la := a.lines_len (k + 1)
        have lc := c.lines_len (k + 1)
        refine (first t (ln _)).imp fun v C1 h => h.imp fun v C2 h => h.imp fun v C3 ⟨G3, hL⟩ => ?_
        clear first
        have kk : ((k : Nat) : Int) + 1 = ((k + 1 : Nat) : Int) := rfl
        simp (decide := true) only [EV, Ab.isNon, args, List.map, List.length_cons, List.length_nil, List.length_singleton, List.replicate, Nat.reduceSub, Nat.reduceAdd, Nat.zero_add, List.cons_append, List.nil_append, List.getElem?_cons_zero, List.getElem?_cons_succ, List.set_cons_zero, List.set_cons_succ, Option.some.injEq, decide_eq_true_eq, Bool.not_eq_true', decide_eq_false_iff_not, ite_true, ite_false, if_true, if_false, reduceIte, Bool.false_eq_true, Bool.not_true, Bool.not_false, Bool.true_eq_false, decide_true, decide_false, Nat.reduceLeDiff, Nat.reduceLT, ixa, ixc]
        refine sat_seq ?_
        simp only [EV, Ab.isNon, args, List.map, List.length_cons, List.length_nil, List.length_singleton, List.replicate, Nat.reduceSub, Nat.reduceAdd, Nat.zero_add, List.cons_append, List.nil_append, List.getElem?_cons_zero, List.getElem?_cons_succ, List.set_cons_zero, List.set_cons_succ, Option.some.injEq, decide_eq_true_eq, Bool.not_eq_true', decide_eq_false_iff_not, ite_true, ite_false, if_true, if_false, reduceIte, Bool.false_eq_true, Bool.not_true, Bool.not_false, Bool.true_eq_false, decide_true, decide_false, Nat.reduceLeDiff, Nat.reduceLT, ixc, kk]
        refine Sat.imp (ih a (k + 1) C3 (by omega) oa (by omega) (by omega)) fun v C4 ⟨g4, r4, l4, e4, h4⟩ => ?_
        subst e4
        have hL := g4.keep _ _ hL
        rw [add1 hL h4 (by simp; omega) (by omega)]
        have hL := at_new (A := C4) (o := .lst ((acc ++ [ind k ++ t] ++ a.lines (k + 1)).map D.str))
        have G4 := (G3.trans g4).trans (Gr.app (B := [AO.lst ((acc ++ [ind k ++ t] ++ a.lines (k + 1)).map D.str)]))
        have l4' : A.length ≤ C4.length := (G3.trans g4).le
        generalize C4 ++ [AO.lst ((acc ++ [ind k ++ t] ++ a.lines (k + 1)).map D.str)] = C5 at *
        obtain ⟨L2, eL2⟩ : ∃ L2, C4.length = L2 := ⟨_, rfl⟩
        rw [eL2] at hL l4'
        simp only [EV, Ab.isNon, args, List.map, List.length_cons, List.length_nil, List.length_singleton, List.replicate, Nat.reduceSub, Nat.reduceAdd, Nat.zero_add, List.cons_append, List.nil_append, List.getElem?_cons_zero, List.getElem?_cons_succ, List.set_cons_zero, List.set_cons_succ, Option.some.injEq, decide_eq_true_eq, Bool.not_eq_true', decide_eq_false_iff_not, ite_true, ite_false, if_true, if_false, reduceIte, Bool.false_eq_true, Bool.not_true, Bool.not_false, Bool.true_eq_false, decide_true, decide_false, Nat.reduceLeDiff, Nat.reduceLT, eL2]
        refine sat_mid (fun σ B => Gr A B ∧ ∃ L3, A.length ≤ L3 ∧ B[L3]? = some (.lst ((acc ++ [ind k ++ t] ++ a.lines (k + 1) ++ (if c.dats.isEmpty = true then [] else [ind k ++ "else"] ++ c.lines (k + 1))).map D.str)) ∧ σ = [some (.tup b.dats), some (.int (k : Nat)), some (.ref L3), some (.tup [.str "if", e, .tup a.dats, .tup c.dats])]) ?_ fun σ B ⟨GB, L3, l3, hB, hσ⟩ => ?_
        · simp (decide := true) only [EV, Ab.isNon, args, List.map, List.length_cons, List.length_nil, List.length_singleton, List.replicate, Nat.reduceSub, Nat.reduceAdd, Nat.zero_add, List.cons_append, List.nil_append, List.getElem?_cons_zero, List.getElem?_cons_succ, List.set_cons_zero, List.set_cons_succ, Option.some.injEq, decide_eq_true_eq, Bool.not_eq_true', decide_eq_false_iff_not, ite_true, ite_false, if_true, if_false, reduceIte, Bool.false_eq_true, Bool.not_true, Bool.not_false, Bool.true_eq_false, decide_true, decide_false, Nat.reduceLeDiff, Nat.reduceLT, ixa, ixd, ev_neNilT]
          cases hc : c.dats.isEmpty with
          | true =>
            simp only [EV, Ab.isNon, args, List.map, List.length_cons, List.length_nil, List.length_singleton, List.replicate, Nat.reduceSub, Nat.reduceAdd, Nat.zero_add, List.cons_append, List.nil_append, List.getElem?_cons_zero, List.getElem?_cons_succ, List.set_cons_zero, List.set_cons_succ, Option.some.injEq, decide_eq_true_eq, Bool.not_eq_true', decide_eq_false_iff_not, ite_true, ite_false, if_true, if_false, reduceIte, Bool.false_eq_true, Bool.not_true, Bool.not_false, Bool.true_eq_false, decide_true, decide_false, Nat.reduceLeDiff, Nat.reduceLT]
            exact ⟨_, rfl, G4, L2, l4', by rw [List.append_nil]; exact hL, rfl⟩
          | false =>
            simp only [EV, Ab.isNon, args, List.map, List.length_cons, List.length_nil, List.length_singleton, List.replicate, Nat.reduceSub, Nat.reduceAdd, Nat.zero_add, List.cons_append, List.nil_append, List.getElem?_cons_zero, List.getElem?_cons_succ, List.set_cons_zero, List.set_cons_succ, Option.some.injEq, decide_eq_true_eq, Bool.not_eq_true', decide_eq_false_iff_not, ite_true, ite_false, if_true, if_false, reduceIte, Bool.false_eq_true, Bool.not_true, Bool.not_false, Bool.true_eq_false, decide_true, decide_false, Nat.reduceLeDiff, Nat.reduceLT, ei]
            rw [add_ss (by rw [str_len]; omega)]
            simp only [EV, Ab.isNon, args, List.map, List.length_cons, List.length_nil, List.length_singleton, List.replicate, Nat.reduceSub, Nat.reduceAdd, Nat.zero_add, List.cons_append, List.nil_append, List.getElem?_cons_zero, List.getElem?_cons_succ, List.set_cons_zero, List.set_cons_succ, Option.some.injEq, decide_eq_true_eq, Bool.not_eq_true', decide_eq_false_iff_not, ite_true, ite_false, if_true, if_false, reduceIte, Bool.false_eq_true, Bool.not_true, Bool.not_false, Bool.true_eq_false, decide_true, decide_false, Nat.reduceLeDiff, Nat.reduceLT]
            have hn : (C5 ++ [AO.lst [D.str (ind k ++ "else")]])[C5.length]? = some (.lst (([ind k ++ "else"] : List Str).map D.str)) := at_new
            have G5 := G4.trans (Gr.app (B := [AO.lst [D.str (ind k ++ "else")]]))
            have hL := (Gr.app (A := C5) (B := [AO.lst [D.str (ind k ++ "else")]])).keep _ _ hL
            generalize C5 ++ [AO.lst [D.str (ind k ++ "else")]] = C6 at *
            rw [add1 hL hn (by simp; omega) (by simp)]
            have hL := at_new (A := C6) (o := .lst ((acc ++ [ind k ++ t] ++ a.lines (k + 1) ++ [ind k ++ "else"]).map D.str))
            have G6 := G5.trans (Gr.app (B := [AO.lst ((acc ++ [ind k ++ t] ++ a.lines (k + 1) ++ [ind k ++ "else"]).map D.str)]))
            generalize C6 ++ [AO.lst ((acc ++ [ind k ++ t] ++ a.lines (k + 1) ++ [ind k ++ "else"]).map D.str)] = C7 at *
            simp only [EV, Ab.isNon, args, List.map, List.length_cons, List.length_nil, List.length_singleton, List.replicate, Nat.reduceSub, Nat.reduceAdd, Nat.zero_add, List.cons_append, List.nil_append, List.getElem?_cons_zero, List.getElem?_cons_succ, List.set_cons_zero, List.set_cons_succ, Option.some.injEq, decide_eq_true_eq, Bool.not_eq_true', decide_eq_false_iff_not, ite_true, ite_false, if_true, if_false, reduceIte, Bool.false_eq_true, Bool.not_true, Bool.not_false, Bool.true_eq_false, decide_true, decide_false, Nat.reduceLeDiff, Nat.reduceLT, ixd, kk]
            refine Sat.imp (ih c (k + 1) C7 (by omega) oc (by omega) (by omega)) fun v C8 ⟨g8, r8, l8, e8, h8⟩ => ?_
            subst e8
            have hL := g8.keep _ _ hL
            rw [add1 hL h8 (by simp; omega) (by omega)]
            simp only [EV, Ab.isNon, args, List.map, List.length_cons, List.length_nil, List.length_singleton, List.replicate, Nat.reduceSub, Nat.reduceAdd, Nat.zero_add, List.cons_append, List.nil_append, List.getElem?_cons_zero, List.getElem?_cons_succ, List.set_cons_zero, List.set_cons_succ, Option.some.injEq, decide_eq_true_eq, Bool.not_eq_true', decide_eq_false_iff_not, ite_true, ite_false, if_true, if_false, reduceIte, Bool.false_eq_true, Bool.not_true, Bool.not_false, Bool.true_eq_false, decide_true, decide_false, Nat.reduceLeDiff, Nat.reduceLT]
            exact ⟨_, rfl, (G6.trans g8).trans .app, _, (G6.trans g8).le, by rw [at_new, List.append_assoc (acc ++ [ind k ++ t] ++ a.lines (k + 1))]; rfl, rfl⟩
        · subst hσ
          have le : (if c.dats.isEmpty = true then [] else [ind k ++ "else"] ++ c.lines (k + 1)).length ≤ 1 + 3 * c.sz := by
            split
            · exact Nat.zero_le _
            · rw [List.length_append]; show 1 + _ ≤ _; omega
          simp only [EV, Ab.isNon, args, List.map, List.length_cons, List.length_nil, List.length_singleton, List.replicate, Nat.reduceSub, Nat.reduceAdd, Nat.zero_add, List.cons_append, List.nil_append, List.getElem?_cons_zero, List.getElem?_cons_succ, List.set_cons_zero, List.set_cons_succ, Option.some.injEq, decide_eq_true_eq, Bool.not_eq_true', decide_eq_false_iff_not, ite_true, ite_false, if_true, if_false, reduceIte, Bool.false_eq_true, Bool.not_true, Bool.not_false, Bool.true_eq_false, decide_true, decide_false, Nat.reduceLeDiff, Nat.reduceLT, ty_l hB, ei]
          rw [add_ss (by rw [str_len]; omega)]
          simp only [EV, Ab.isNon, args, List.map, List.length_cons, List.length_nil, List.length_singleton, List.replicate, Nat.reduceSub, Nat.reduceAdd, Nat.zero_add, List.cons_append, List.nil_append, List.getElem?_cons_zero, List.getElem?_cons_succ, List.set_cons_zero, List.set_cons_succ, Option.some.injEq, decide_eq_true_eq, Bool.not_eq_true', decide_eq_false_iff_not, ite_true, ite_false, if_true, if_false, reduceIte, Bool.false_eq_true, Bool.not_true, Bool.not_false, Bool.true_eq_false, decide_true, decide_false, Nat.reduceLeDiff, Nat.reduceLT]
          rw [app1 hB (by simp only [List.length_append, List.length_singleton]; omega)]
          simp only [EV, Ab.isNon, args, List.map, List.length_cons, List.length_nil, List.length_singleton, List.replicate, Nat.reduceSub, Nat.reduceAdd, Nat.zero_add, List.cons_append, List.nil_append, List.getElem?_cons_zero, List.getElem?_cons_succ, List.set_cons_zero, List.set_cons_succ, Option.some.injEq, decide_eq_true_eq, Bool.not_eq_true', decide_eq_false_iff_not, ite_true, ite_false, if_true, if_false, reduceIte, Bool.false_eq_true, Bool.not_true, Bool.not_false, Bool.true_eq_false, decide_true, decide_false, Nat.reduceLeDiff, Nat.reduceLT, turn_]
          exact ⟨GB.set l3, r, _, L3, e2, by omega, ro, by omega, by rw [← ef]; simp only [Bt.lines, List.append_assoc, List.cons_append, List.nil_append, List.singleton_append], l3, at_set (at_lt hB), _, rfl⟩
    · subst hσ
      cases rest with
      | nil =>
        simp only [EV, Ab.isNon, args, List.map, List.length_cons, List.length_nil, List.length_singleton, List.replicate, Nat.reduceSub, Nat.reduceAdd, Nat.zero_add, List.cons_append, List.nil_append, List.getElem?_cons_zero, List.getElem?_cons_succ, List.set_cons_zero, List.set_cons_succ, Option.some.injEq, decide_eq_true_eq, Bool.not_eq_true', decide_eq_false_iff_not, ite_true, ite_false, if_true, if_false, reduceIte, Bool.false_eq_true, Bool.not_true, Bool.not_false, Bool.true_eq_false, decide_true, decide_false, Nat.reduceLeDiff, Nat.reduceLT]
        have ef : acc ++ [] = b.lines k := ef
        rw [List.append_nil] at ef
        exact ⟨G, L, lL, rfl, by rw [← ef]; exact hL⟩
      | lf d t r => cases e1
      | whl e t a r => cases e1
      | ite e t a c r => cases e1
end Law

namespace Law
open PySem PySem.Spec PyProof.Rows L2 Ab
open scoped Classical
/-! ### headings -/
/-- a name with a kind and the kind's text -/
abbrev Pt := Str × D × Str
def prD (q : Pt) : D := .tup [.str q.1, q.2.1]
structure PtOk (q : Pt) : Prop where
  nm : q.1.length ≤ 40
  kt : KT q.2.1 q.2.2
  len : q.2.2.length ≤ 60
theorem lens : ("record " : Str).length ≤ 10 ∧ ("array " : Str).length ≤ 10 ∧ ("global" : Str).length ≤ 10 ∧ ("global " : Str).length ≤ 10 ∧ ("[" : Str).length ≤ 10 ∧ ("]: " : Str).length ≤ 10 ∧ (".." : Str).length ≤ 10 ∧ (": " : Str).length ≤ 10 ∧ (" " : Str).length ≤ 10 ∧ ("  " : Str).length ≤ 10 ∧ ("var" : Str).length ≤ 10 ∧ ("  var " : Str).length ≤ 10 ∧ ("def " : Str).length ≤ 10 ∧ ("(" : Str).length ≤ 10 ∧ (")" : Str).length ≤ 10 ∧ ("): " : Str).length ≤ 10 ∧ (", " : Str).length ≤ 10 ∧ ("end" : Str).length ≤ 10 ∧ ("\n" : Str).length ≤ 10 := by decide +kernel
theorem j_glob : ("global" : Str) ++ " " = "global " := by decide +kernel
theorem j_var : ("  " : Str) ++ ("var" ++ " ") = "  var " := by decide +kernel
theorem j_par : (")" : Str) ++ ": " = "): " := by decide +kernel
section
variable {q : Pt} {x : Str}
theorem hd_record (h : x.length ≤ 40) {A : AH} : m_heading_text [.tup [.str "record", .str x]] A = .ok (.str ("record " ++ x)) A := by
  obtain ⟨c1, c2, c3, c4, c5, c6, c7, c8, c9, c10, c11, c12, c13, c14, c15, c16, c17, c18, c19⟩ := lens
  have fx : ∀ A, fmtD (.str x) A = .ok (.str x) A := fun A => ev_fmt_s (by omega)
  have key : Sat (m_heading_text [.tup [.str "record", .str x]] A) fun v A' => v = .str ("record " ++ x) ∧ A' = A := by
    refine sat_body rfl ?_
    unfold p_heading_text
    simp (decide := true) only [EV, Ab.isNon, args, List.map, List.length_cons, List.length_nil, List.length_singleton, List.replicate, Nat.reduceSub, Nat.reduceAdd, Nat.zero_add, List.cons_append, List.nil_append, List.getElem?_cons_zero, List.getElem?_cons_succ, List.set_cons_zero, List.set_cons_succ, Option.some.injEq, decide_eq_true_eq, Bool.not_eq_true', decide_eq_false_iff_not, ite_true, ite_false, if_true, if_false, reduceIte, Bool.false_eq_true, Bool.not_true, Bool.not_false, Bool.true_eq_false, decide_true, decide_false, Nat.reduceLeDiff, Nat.reduceLT, ev_seq, ixa]
    rw [ev_js (out := "record " ++ x) (B := A) (by simp only [EV, Ab.isNon, args, List.map, List.length_cons, List.length_nil, List.length_singleton, List.replicate, Nat.reduceSub, Nat.reduceAdd, Nat.zero_add, List.cons_append, List.nil_append, List.getElem?_cons_zero, List.getElem?_cons_succ, List.set_cons_zero, List.set_cons_succ, Option.some.injEq, decide_eq_true_eq, Bool.not_eq_true', decide_eq_false_iff_not, ite_true, ite_false, if_true, if_false, reduceIte, Bool.false_eq_true, Bool.not_true, Bool.not_false, Bool.true_eq_false, decide_true, decide_false, Nat.reduceLeDiff, Nat.reduceLT, jU_cons, jU_nil, ixb, fx, empty_app]) (by simp only [str_len]; omega)]
    simp only [EV, Ab.isNon, args, List.map, List.length_cons, List.length_nil, List.length_singleton, List.replicate, Nat.reduceSub, Nat.reduceAdd, Nat.zero_add, List.cons_append, List.nil_append, List.getElem?_cons_zero, List.getElem?_cons_succ, List.set_cons_zero, List.set_cons_succ, Option.some.injEq, decide_eq_true_eq, Bool.not_eq_true', decide_eq_false_iff_not, ite_true, ite_false, if_true, if_false, reduceIte, Bool.false_eq_true, Bool.not_true, Bool.not_false, Bool.true_eq_false, decide_true, decide_false, Nat.reduceLeDiff, Nat.reduceLT]
    try exact ⟨by trivial, by trivial⟩
  obtain ⟨v, A', e, rfl, rfl⟩ := key.eq
  exact e
theorem hd_array {a : Str × Int × Int × Int} (h : a.1.length ≤ 40) (h1 : a.2.1.natAbs < 10 ^ 12) (h2 : a.2.2.1.natAbs < 10 ^ 12) (h3 : a.2.2.2.natAbs < 10 ^ 12) {A : AH} :
    m_heading_text [.tup [.str "array", .str a.1, .int a.2.1, .int a.2.2.1, .int a.2.2.2]] A = .ok (.str ("array " ++ a.1 ++ "[" ++ (toString a.2.1 : Str) ++ "]: " ++ ((toString a.2.2.1 : Str) ++ ".." ++ (toString a.2.2.2 : Str)))) A := by
  obtain ⟨c1, c2, c3, c4, c5, c6, c7, c8, c9, c10, c11, c12, c13, c14, c15, c16, c17, c18, c19⟩ := lens
  have l1 := num_len h1
  have l2 := num_len h2
  have l3 := num_len h3
  have fx : ∀ A, fmtD (.str a.1) A = .ok (.str a.1) A := fun A => ev_fmt_s (by omega)
  have ixe : ∀ (d e f g k : D) (A : AH), ixD (.tup [d, e, f, g, k]) (.int 4) A = .ok k A := fun d e f g k A => ev_ix_t (by rw [atI_pos (by decide)]; rfl)
  have key : Sat (m_heading_text [.tup [.str "array", .str a.1, .int a.2.1, .int a.2.2.1, .int a.2.2.2]] A) fun v A' => v = .str ("array " ++ a.1 ++ "[" ++ (toString a.2.1 : Str) ++ "]: " ++ ((toString a.2.2.1 : Str) ++ ".." ++ (toString a.2.2.2 : Str))) ∧ A' = A := by
    refine sat_body rfl ?_
    unfold p_heading_text
    simp (decide := true) only [EV, Ab.isNon, args, List.map, List.length_cons, List.length_nil, List.length_singleton, List.replicate, Nat.reduceSub, Nat.reduceAdd, Nat.zero_add, List.cons_append, List.nil_append, List.getElem?_cons_zero, List.getElem?_cons_succ, List.set_cons_zero, List.set_cons_succ, Option.some.injEq, decide_eq_true_eq, Bool.not_eq_true', decide_eq_false_iff_not, ite_true, ite_false, if_true, if_false, reduceIte, Bool.false_eq_true, Bool.not_true, Bool.not_false, Bool.true_eq_false, decide_true, decide_false, Nat.reduceLeDiff, Nat.reduceLT, ev_seq, ixa]
    rw [ev_js (out := "array " ++ a.1 ++ "[" ++ (toString a.2.1 : Str) ++ "]: " ++ (toString a.2.2.1 : Str) ++ ".." ++ (toString a.2.2.2 : Str)) (B := A) (by simp only [EV, Ab.isNon, args, List.map, List.length_cons, List.length_nil, List.length_singleton, List.replicate, Nat.reduceSub, Nat.reduceAdd, Nat.zero_add, List.cons_append, List.nil_append, List.getElem?_cons_zero, List.getElem?_cons_succ, List.set_cons_zero, List.set_cons_succ, Option.some.injEq, decide_eq_true_eq, Bool.not_eq_true', decide_eq_false_iff_not, ite_true, ite_false, if_true, if_false, reduceIte, Bool.false_eq_true, Bool.not_true, Bool.not_false, Bool.true_eq_false, decide_true, decide_false, Nat.reduceLeDiff, Nat.reduceLT, jU_cons, jU_nil, ixb, ixc, ixd, ixe, fx, ev_fmt_i h1, ev_fmt_i h2, ev_fmt_i h3, empty_app]) (by simp only [str_len]; omega)]
    simp only [EV, Ab.isNon, args, List.map, List.length_cons, List.length_nil, List.length_singleton, List.replicate, Nat.reduceSub, Nat.reduceAdd, Nat.zero_add, List.cons_append, List.nil_append, List.getElem?_cons_zero, List.getElem?_cons_succ, List.set_cons_zero, List.set_cons_succ, Option.some.injEq, decide_eq_true_eq, Bool.not_eq_true', decide_eq_false_iff_not, ite_true, ite_false, if_true, if_false, reduceIte, Bool.false_eq_true, Bool.not_true, Bool.not_false, Bool.true_eq_false, decide_true, decide_false, Nat.reduceLeDiff, Nat.reduceLT]
    exact ⟨by simp only [str_assoc], by trivial⟩
  obtain ⟨v, A', e, rfl, rfl⟩ := key.eq
  exact e
theorem hd_field (h : PtOk q) {A : AH} : m_heading_text [.tup [.str "field", .str q.1, q.2.1]] A = .ok (.str (q.1 ++ ": " ++ q.2.2)) A := by
  obtain ⟨c1, c2, c3, c4, c5, c6, c7, c8, c9, c10, c11, c12, c13, c14, c15, c16, c17, c18, c19⟩ := lens
  have n1 := h.nm
  have n2 := h.len
  have fx : ∀ A, fmtD (.str q.1) A = .ok (.str q.1) A := fun A => ev_fmt_s (by omega)
  have fk : ∀ A, fmtD (.str q.2.2) A = .ok (.str q.2.2) A := fun A => ev_fmt_s (by omega)
  have kt : ∀ A, m_kind_text [q.2.1] A = .ok (.str q.2.2) A := fun A => (h.kt A).1
  have key : Sat (m_heading_text [.tup [.str "field", .str q.1, q.2.1]] A) fun v A' => v = .str (q.1 ++ ": " ++ q.2.2) ∧ A' = A := by
    refine sat_body rfl ?_
    unfold p_heading_text
    simp (decide := true) only [EV, Ab.isNon, args, List.map, List.length_cons, List.length_nil, List.length_singleton, List.replicate, Nat.reduceSub, Nat.reduceAdd, Nat.zero_add, List.cons_append, List.nil_append, List.getElem?_cons_zero, List.getElem?_cons_succ, List.set_cons_zero, List.set_cons_succ, Option.some.injEq, decide_eq_true_eq, Bool.not_eq_true', decide_eq_false_iff_not, ite_true, ite_false, if_true, if_false, reduceIte, Bool.false_eq_true, Bool.not_true, Bool.not_false, Bool.true_eq_false, decide_true, decide_false, Nat.reduceLeDiff, Nat.reduceLT, ev_seq, ixa]
    rw [ev_js (out := q.1 ++ ": " ++ q.2.2) (B := A) (by simp only [EV, Ab.isNon, args, List.map, List.length_cons, List.length_nil, List.length_singleton, List.replicate, Nat.reduceSub, Nat.reduceAdd, Nat.zero_add, List.cons_append, List.nil_append, List.getElem?_cons_zero, List.getElem?_cons_succ, List.set_cons_zero, List.set_cons_succ, Option.some.injEq, decide_eq_true_eq, Bool.not_eq_true', decide_eq_false_iff_not, ite_true, ite_false, if_true, if_false, reduceIte, Bool.false_eq_true, Bool.not_true, Bool.not_false, Bool.true_eq_false, decide_true, decide_false, Nat.reduceLeDiff, Nat.reduceLT, jU_cons, jU_nil, ixb, ixc, fx, fk, kt, empty_app]) (by simp only [str_len]; omega)]
    simp only [EV, Ab.isNon, args, List.map, List.length_cons, List.length_nil, List.length_singleton, List.replicate, Nat.reduceSub, Nat.reduceAdd, Nat.zero_add, List.cons_append, List.nil_append, List.getElem?_cons_zero, List.getElem?_cons_succ, List.set_cons_zero, List.set_cons_succ, Option.some.injEq, decide_eq_true_eq, Bool.not_eq_true', decide_eq_false_iff_not, ite_true, ite_false, if_true, if_false, reduceIte, Bool.false_eq_true, Bool.not_true, Bool.not_false, Bool.true_eq_false, decide_true, decide_false, Nat.reduceLeDiff, Nat.reduceLT]
    try exact ⟨by trivial, by trivial⟩
  obtain ⟨v, A', e, rfl, rfl⟩ := key.eq
  exact e
theorem hd_global (h : PtOk q) {A : AH} : m_heading_text [.tup [.str "global", .str q.1, q.2.1]] A = .ok (.str ("global " ++ q.1 ++ ": " ++ q.2.2)) A := by
  obtain ⟨c1, c2, c3, c4, c5, c6, c7, c8, c9, c10, c11, c12, c13, c14, c15, c16, c17, c18, c19⟩ := lens
  have n1 := h.nm
  have n2 := h.len
  have fx : ∀ A, fmtD (.str q.1) A = .ok (.str q.1) A := fun A => ev_fmt_s (by omega)
  have fk : ∀ A, fmtD (.str q.2.2) A = .ok (.str q.2.2) A := fun A => ev_fmt_s (by omega)
  have fw : ∀ A, fmtD (.str "global") A = .ok (.str "global") A := fun A => ev_fmt_s (by omega)
  have kt : ∀ A, m_kind_text [q.2.1] A = .ok (.str q.2.2) A := fun A => (h.kt A).1
  have key : Sat (m_heading_text [.tup [.str "global", .str q.1, q.2.1]] A) fun v A' => v = .str ("global " ++ q.1 ++ ": " ++ q.2.2) ∧ A' = A := by
    refine sat_body rfl ?_
    unfold p_heading_text
    simp (decide := true) only [EV, Ab.isNon, args, List.map, List.length_cons, List.length_nil, List.length_singleton, List.replicate, Nat.reduceSub, Nat.reduceAdd, Nat.zero_add, List.cons_append, List.nil_append, List.getElem?_cons_zero, List.getElem?_cons_succ, List.set_cons_zero, List.set_cons_succ, Option.some.injEq, decide_eq_true_eq, Bool.not_eq_true', decide_eq_false_iff_not, ite_true, ite_false, if_true, if_false, reduceIte, Bool.false_eq_true, Bool.not_true, Bool.not_false, Bool.true_eq_false, decide_true, decide_false, Nat.reduceLeDiff, Nat.reduceLT, ev_seq, ixa]
    rw [ev_js (out := "global" ++ " " ++ q.1 ++ ": " ++ q.2.2) (B := A) (by simp only [EV, Ab.isNon, args, List.map, List.length_cons, List.length_nil, List.length_singleton, List.replicate, Nat.reduceSub, Nat.reduceAdd, Nat.zero_add, List.cons_append, List.nil_append, List.getElem?_cons_zero, List.getElem?_cons_succ, List.set_cons_zero, List.set_cons_succ, Option.some.injEq, decide_eq_true_eq, Bool.not_eq_true', decide_eq_false_iff_not, ite_true, ite_false, if_true, if_false, reduceIte, Bool.false_eq_true, Bool.not_true, Bool.not_false, Bool.true_eq_false, decide_true, decide_false, Nat.reduceLeDiff, Nat.reduceLT, jU_cons, jU_nil, ixb, ixc, fx, fk, fw, kt, empty_app]) (by simp only [str_len]; omega)]
    simp only [EV, Ab.isNon, args, List.map, List.length_cons, List.length_nil, List.length_singleton, List.replicate, Nat.reduceSub, Nat.reduceAdd, Nat.zero_add, List.cons_append, List.nil_append, List.getElem?_cons_zero, List.getElem?_cons_succ, List.set_cons_zero, List.set_cons_succ, Option.some.injEq, decide_eq_true_eq, Bool.not_eq_true', decide_eq_false_iff_not, ite_true, ite_false, if_true, if_false, reduceIte, Bool.false_eq_true, Bool.not_true, Bool.not_false, Bool.true_eq_false, decide_true, decide_false, Nat.reduceLeDiff, Nat.reduceLT]
    exact ⟨by rw [j_glob], by trivial⟩
  obtain ⟨v, A', e, rfl, rfl⟩ := key.eq
  exact e
theorem hd_var (h : PtOk q) {A : AH} : m_heading_text [.tup [.str "var", .str q.1, q.2.1]] A = .ok (.str ("var" ++ " " ++ q.1 ++ ": " ++ q.2.2)) A := by
  obtain ⟨c1, c2, c3, c4, c5, c6, c7, c8, c9, c10, c11, c12, c13, c14, c15, c16, c17, c18, c19⟩ := lens
  have n1 := h.nm
  have n2 := h.len
  have fx : ∀ A, fmtD (.str q.1) A = .ok (.str q.1) A := fun A => ev_fmt_s (by omega)
  have fk : ∀ A, fmtD (.str q.2.2) A = .ok (.str q.2.2) A := fun A => ev_fmt_s (by omega)
  have fw : ∀ A, fmtD (.str "var") A = .ok (.str "var") A := fun A => ev_fmt_s (by omega)
  have kt : ∀ A, m_kind_text [q.2.1] A = .ok (.str q.2.2) A := fun A => (h.kt A).1
  have key : Sat (m_heading_text [.tup [.str "var", .str q.1, q.2.1]] A) fun v A' => v = .str ("var" ++ " " ++ q.1 ++ ": " ++ q.2.2) ∧ A' = A := by
    refine sat_body rfl ?_
    unfold p_heading_text
    simp (decide := true) only [EV, Ab.isNon, args, List.map, List.length_cons, List.length_nil, List.length_singleton, List.replicate, Nat.reduceSub, Nat.reduceAdd, Nat.zero_add, List.cons_append, List.nil_append, List.getElem?_cons_zero, List.getElem?_cons_succ, List.set_cons_zero, List.set_cons_succ, Option.some.injEq, decide_eq_true_eq, Bool.not_eq_true', decide_eq_false_iff_not, ite_true, ite_false, if_true, if_false, reduceIte, Bool.false_eq_true, Bool.not_true, Bool.not_false, Bool.true_eq_false, decide_true, decide_false, Nat.reduceLeDiff, Nat.reduceLT, ev_seq, ixa]
    rw [ev_js (out := "var" ++ " " ++ q.1 ++ ": " ++ q.2.2) (B := A) (by simp only [EV, Ab.isNon, args, List.map, List.length_cons, List.length_nil, List.length_singleton, List.replicate, Nat.reduceSub, Nat.reduceAdd, Nat.zero_add, List.cons_append, List.nil_append, List.getElem?_cons_zero, List.getElem?_cons_succ, List.set_cons_zero, List.set_cons_succ, Option.some.injEq, decide_eq_true_eq, Bool.not_eq_true', decide_eq_false_iff_not, ite_true, ite_false, if_true, if_false, reduceIte, Bool.false_eq_true, Bool.not_true, Bool.not_false, Bool.true_eq_false, decide_true, decide_false, Nat.reduceLeDiff, Nat.reduceLT, jU_cons, jU_nil, ixb, ixc, fx, fk, fw, kt, empty_app]) (by simp only [str_len]; omega)]
    simp only [EV, Ab.isNon, args, List.map, List.length_cons, List.length_nil, List.length_singleton, List.replicate, Nat.reduceSub, Nat.reduceAdd, Nat.zero_add, List.cons_append, List.nil_append, List.getElem?_cons_zero, List.getElem?_cons_succ, List.set_cons_zero, List.set_cons_succ, Option.some.injEq, decide_eq_true_eq, Bool.not_eq_true', decide_eq_false_iff_not, ite_true, ite_false, if_true, if_false, reduceIte, Bool.false_eq_true, Bool.not_true, Bool.not_false, Bool.true_eq_false, decide_true, decide_false, Nat.reduceLeDiff, Nat.reduceLT]
    try exact ⟨by trivial, by trivial⟩
  obtain ⟨v, A', e, rfl, rfl⟩ := key.eq
  exact e
end
def ptT (q : Pt) : Str := q.1 ++ ": " ++ q.2.2
def parT (ps : List Pt) : Str := Txt.join ", " (ps.map ptT)
theorem parT_len {ps : List Pt} (few : ps.length ≤ 10) (h : ∀ q ∈ ps, PtOk q) : (parT ps).length ≤ 1200 ∧ ((ps.map ptT).map (·.length)).sum + (ps.map ptT).length * (", " : Str).length ≤ 16777216 := by
  have l2 : (", " : Str).length ≤ 10 := by decide +kernel
  have l3 : (": " : Str).length ≤ 10 := by decide +kernel
  have h1 : ∀ y ∈ ps.map ptT, y.length ≤ 110 := fun y hy => by
    obtain ⟨a, ha, rfl⟩ := List.mem_map.mp hy
    have n1 := (h a ha).nm
    have n2 := (h a ha).len
    unfold ptT; simp only [str_len]; omega
  have h2 := sum_le h1
  rw [List.length_map] at h2
  have h3 := join_len ", " (ps.map ptT)
  rw [List.length_map] at h3 ⊢
  have m1 := Nat.mul_le_mul_right 110 few
  have m2 := Nat.mul_le_mul few l2
  unfold parT
  omega
/-- the result's kind and its text -/
abbrev Rt := Option (D × Str)
def rtD : Rt → D
  | none => .non
  | some r => r.1
def hdT (nm : Str) (ps : List Pt) : Rt → Str
  | none => "def " ++ nm ++ "(" ++ parT ps ++ ")"
  | some r => "def " ++ nm ++ "(" ++ parT ps ++ ")" ++ ": " ++ r.2
structure RtOk (r : D × Str) : Prop where
  kt : KT r.1 r.2
  len : r.2.length ≤ 60
  non : isNon r.1 = false
theorem hd_def {nm : Str} {ps : List Pt} {r : Rt} (hn : nm.length ≤ 40) (few : ps.length ≤ 10) (h : ∀ q ∈ ps, PtOk q) (hr : ∀ k, r = some k → RtOk k) {A : AH} : Sat (m_heading_text [.tup [.str "def", .str nm, .tup (ps.map prD), rtD r]] A) fun v A' => v = .str (hdT nm ps r) ∧ Gr A A' := by
  obtain ⟨c1, c2, c3, c4, c5, c6, c7, c8, c9, c10, c11, c12, c13, c14, c15, c16, c17, c18, c19⟩ := lens
  obtain ⟨pl, pz⟩ := parT_len few h
  have fx : ∀ A, fmtD (.str nm) A = .ok (.str nm) A := fun A => ev_fmt_s (by omega)
  have fp : ∀ A, fmtD (.str (parT ps)) A = .ok (.str (parT ps)) A := fun A => ev_fmt_s (by omega)
  refine sat_body rfl (sat_seq ?_)
  simp only [EV, Ab.isNon, args, List.map, List.length_cons, List.length_nil, List.length_singleton, List.replicate, Nat.reduceSub, Nat.reduceAdd, Nat.zero_add, List.cons_append, List.nil_append, List.getElem?_cons_zero, List.getElem?_cons_succ, List.set_cons_zero, List.set_cons_succ, Option.some.injEq, decide_eq_true_eq, Bool.not_eq_true', decide_eq_false_iff_not, ite_true, ite_false, if_true, if_false, reduceIte, Bool.false_eq_true, Bool.not_true, Bool.not_false, Bool.true_eq_false, decide_true, decide_false, Nat.reduceLeDiff, Nat.reduceLT, ixa]
  refine sat_seq ?_
  simp (decide := true) only [EV, Ab.isNon, args, List.map, List.length_cons, List.length_nil, List.length_singleton, List.replicate, Nat.reduceSub, Nat.reduceAdd, Nat.zero_add, List.cons_append, List.nil_append, List.getElem?_cons_zero, List.getElem?_cons_succ, List.set_cons_zero, List.set_cons_succ, Option.some.injEq, decide_eq_true_eq, Bool.not_eq_true', decide_eq_false_iff_not, ite_true, ite_false, if_true, if_false, reduceIte, Bool.false_eq_true, Bool.not_true, Bool.not_false, Bool.true_eq_false, decide_true, decide_false, Nat.reduceLeDiff, Nat.reduceLT]
  refine sat_seq ?_
  simp (decide := true) only [EV, Ab.isNon, args, List.map, List.length_cons, List.length_nil, List.length_singleton, List.replicate, Nat.reduceSub, Nat.reduceAdd, Nat.zero_add, List.cons_append, List.nil_append, List.getElem?_cons_zero, List.getElem?_cons_succ, List.set_cons_zero, List.set_cons_succ, Option.some.injEq, decide_eq_true_eq, Bool.not_eq_true', decide_eq_false_iff_not, ite_true, ite_false, if_true, if_false, reduceIte, Bool.false_eq_true, Bool.not_true, Bool.not_false, Bool.true_eq_false, decide_true, decide_false, Nat.reduceLeDiff, Nat.reduceLT]
  refine sat_seq ?_
  simp (decide := true) only [EV, Ab.isNon, args, List.map, List.length_cons, List.length_nil, List.length_singleton, List.replicate, Nat.reduceSub, Nat.reduceAdd, Nat.zero_add, List.cons_append, List.nil_append, List.getElem?_cons_zero, List.getElem?_cons_succ, List.set_cons_zero, List.set_cons_succ, Option.some.injEq, decide_eq_true_eq, Bool.not_eq_true', decide_eq_false_iff_not, ite_true, ite_false, if_true, if_false, reduceIte, Bool.false_eq_true, Bool.not_true, Bool.not_false, Bool.true_eq_false, decide_true, decide_false, Nat.reduceLeDiff, Nat.reduceLT]
  refine sat_seq ?_
  simp (decide := true) only [EV, Ab.isNon, args, List.map, List.length_cons, List.length_nil, List.length_singleton, List.replicate, Nat.reduceSub, Nat.reduceAdd, Nat.zero_add, List.cons_append, List.nil_append, List.getElem?_cons_zero, List.getElem?_cons_succ, List.set_cons_zero, List.set_cons_succ, Option.some.injEq, decide_eq_true_eq, Bool.not_eq_true', decide_eq_false_iff_not, ite_true, ite_false, if_true, if_false, reduceIte, Bool.false_eq_true, Bool.not_true, Bool.not_false, Bool.true_eq_false, decide_true, decide_false, Nat.reduceLeDiff, Nat.reduceLT]
  refine sat_seq ?_
  simp only [EV, Ab.isNon, args, List.map, List.length_cons, List.length_nil, List.length_singleton, List.replicate, Nat.reduceSub, Nat.reduceAdd, Nat.zero_add, List.cons_append, List.nil_append, List.getElem?_cons_zero, List.getElem?_cons_succ, List.set_cons_zero, List.set_cons_succ, Option.some.injEq, decide_eq_true_eq, Bool.not_eq_true', decide_eq_false_iff_not, ite_true, ite_false, if_true, if_false, reduceIte, Bool.false_eq_true, Bool.not_true, Bool.not_false, Bool.true_eq_false, decide_true, decide_false, Nat.reduceLeDiff, Nat.reduceLT, ixc, ty_s, ev_iseq_t, wipeA]
  refine comp_gr (qs := ps) prD (fun q => .str (ptT q)) (fun _ _ => trivial) (fun q hq C G => ?_) (by omega) fun C G hX => ?_
  · have ok := h q hq
    have n1 := ok.nm
    have n2 := ok.len
    have fq : ∀ A, fmtD (.str q.1) A = .ok (.str q.1) A := fun A => ev_fmt_s (by omega)
    have fk : ∀ A, fmtD (.str q.2.2) A = .ok (.str q.2.2) A := fun A => ev_fmt_s (by omega)
    have kt : ∀ A, m_kind_text [q.2.1] A = .ok (.str q.2.2) A := fun A => (ok.kt A).1
    simp only [EV, Ab.isNon, args, List.map, List.length_cons, List.length_nil, List.length_singleton, List.replicate, Nat.reduceSub, Nat.reduceAdd, Nat.zero_add, List.cons_append, List.nil_append, List.getElem?_cons_zero, List.getElem?_cons_succ, List.set_cons_zero, List.set_cons_succ, Option.some.injEq, decide_eq_true_eq, Bool.not_eq_true', decide_eq_false_iff_not, ite_true, ite_false, if_true, if_false, reduceIte, Bool.false_eq_true, Bool.not_true, Bool.not_false, Bool.true_eq_false, decide_true, decide_false, Nat.reduceLeDiff, Nat.reduceLT]
    rw [ev_js (out := q.1 ++ ": " ++ q.2.2) (B := C) (by simp only [prD, EV, Ab.isNon, args, List.map, List.length_cons, List.length_nil, List.length_singleton, List.replicate, Nat.reduceSub, Nat.reduceAdd, Nat.zero_add, List.cons_append, List.nil_append, List.getElem?_cons_zero, List.getElem?_cons_succ, List.set_cons_zero, List.set_cons_succ, Option.some.injEq, decide_eq_true_eq, Bool.not_eq_true', decide_eq_false_iff_not, ite_true, ite_false, if_true, if_false, reduceIte, Bool.false_eq_true, Bool.not_true, Bool.not_false, Bool.true_eq_false, decide_true, decide_false, Nat.reduceLeDiff, Nat.reduceLT, jU_cons, jU_nil, ixa, ixb, fq, fk, kt, empty_app]) (by simp only [str_len]; omega)]
    exact ⟨trivial, .refl, rfl⟩
  have hX : C[A.length]? = some (.lst ((ps.map ptT).map D.str)) := by rw [hX, List.map_map]; rfl
  rw [ev_join (rdL_l hX) pz]
  simp only [EV, Ab.isNon, args, List.map, List.length_cons, List.length_nil, List.length_singleton, List.replicate, Nat.reduceSub, Nat.reduceAdd, Nat.zero_add, List.cons_append, List.nil_append, List.getElem?_cons_zero, List.getElem?_cons_succ, List.set_cons_zero, List.set_cons_succ, Option.some.injEq, decide_eq_true_eq, Bool.not_eq_true', decide_eq_false_iff_not, ite_true, ite_false, if_true, if_false, reduceIte, Bool.false_eq_true, Bool.not_true, Bool.not_false, Bool.true_eq_false, decide_true, decide_false, Nat.reduceLeDiff, Nat.reduceLT]
  rw [show Txt.join ", " (ps.map ptT) = parT ps from rfl]
  rcases r with _ | ⟨k, kt⟩
  · simp only [EV, Ab.isNon, args, List.map, List.length_cons, List.length_nil, List.length_singleton, List.replicate, Nat.reduceSub, Nat.reduceAdd, Nat.zero_add, List.cons_append, List.nil_append, List.getElem?_cons_zero, List.getElem?_cons_succ, List.set_cons_zero, List.set_cons_succ, Option.some.injEq, decide_eq_true_eq, Bool.not_eq_true', decide_eq_false_iff_not, ite_true, ite_false, if_true, if_false, reduceIte, Bool.false_eq_true, Bool.not_true, Bool.not_false, Bool.true_eq_false, decide_true, decide_false, Nat.reduceLeDiff, Nat.reduceLT, ev_seq, ixd, rtD]
    rw [ev_js (out := "def " ++ nm ++ "(" ++ parT ps ++ ")") (B := C) (by simp only [EV, Ab.isNon, args, List.map, List.length_cons, List.length_nil, List.length_singleton, List.replicate, Nat.reduceSub, Nat.reduceAdd, Nat.zero_add, List.cons_append, List.nil_append, List.getElem?_cons_zero, List.getElem?_cons_succ, List.set_cons_zero, List.set_cons_succ, Option.some.injEq, decide_eq_true_eq, Bool.not_eq_true', decide_eq_false_iff_not, ite_true, ite_false, if_true, if_false, reduceIte, Bool.false_eq_true, Bool.not_true, Bool.not_false, Bool.true_eq_false, decide_true, decide_false, Nat.reduceLeDiff, Nat.reduceLT, jU_cons, jU_nil, ixb, fx, fp, empty_app]) (by simp only [str_len]; omega)]
    simp only [EV, Ab.isNon, args, List.map, List.length_cons, List.length_nil, List.length_singleton, List.replicate, Nat.reduceSub, Nat.reduceAdd, Nat.zero_add, List.cons_append, List.nil_append, List.getElem?_cons_zero, List.getElem?_cons_succ, List.set_cons_zero, List.set_cons_succ, Option.some.injEq, decide_eq_true_eq, Bool.not_eq_true', decide_eq_false_iff_not, ite_true, ite_false, if_true, if_false, reduceIte, Bool.false_eq_true, Bool.not_true, Bool.not_false, Bool.true_eq_false, decide_true, decide_false, Nat.reduceLeDiff, Nat.reduceLT]
    exact ⟨rfl, G⟩
  · have ok := hr _ rfl
    have n2 := ok.len
    have nn : isD k .non C = .ok (.bl false) C := by have := ok.non; rw [ev_is_n]; rw [this]
    have fk : ∀ A, fmtD (.str kt) A = .ok (.str kt) A := fun A => ev_fmt_s (by show kt.length ≤ _; have : kt.length ≤ 60 := n2; omega)
    have ktx : ∀ A, m_kind_text [k] A = .ok (.str kt) A := fun A => (ok.kt A).1
    have n2 : kt.length ≤ 60 := n2
    obtain ⟨xs, ex⟩ : ∃ b, isD k .non C = .ok (.bl b) C := ⟨_, nn⟩
    have : Sat (isD k .non C) fun b B => b = .bl false ∧ B = C := by rw [nn]; exact ⟨rfl, rfl⟩
    refine sat_seq ?_
    have step : fOp isD (fOp ixD (fV 0) (fC (.int 3))) (fC .non) [some (.tup [.str "def", .str nm, .tup (ps.map prD), k]), some (.str "def"), some (.str (parT ps)), none] C = .ok (.bl false) C := by
      simp only [ev_op, ev_c, ev_v (s := [some (D.tup [.str "def", .str nm, .tup (ps.map prD), k]), some (.str "def"), some (.str (parT ps)), none]) (i := 0) rfl, bind_ok, ixd, nn]
    show Sat (fIfS (fTB (fOp isD (fOp ixD (fV 0) (fC (.int 3))) (fC .non))) _ fPass [some (.tup [.str "def", .str nm, .tup (ps.map prD), k]), some (.str "def"), some (.str (parT ps)), none] C) _
    rw [ev_ifS, ev_tb, step]
    simp only [EV, Ab.isNon, args, List.map, List.length_cons, List.length_nil, List.length_singleton, List.replicate, Nat.reduceSub, Nat.reduceAdd, Nat.zero_add, List.cons_append, List.nil_append, List.getElem?_cons_zero, List.getElem?_cons_succ, List.set_cons_zero, List.set_cons_succ, Option.some.injEq, decide_eq_true_eq, Bool.not_eq_true', decide_eq_false_iff_not, ite_true, ite_false, if_true, if_false, reduceIte, Bool.false_eq_true, Bool.not_true, Bool.not_false, Bool.true_eq_false, decide_true, decide_false, Nat.reduceLeDiff, Nat.reduceLT, ev_seq, ixd]
    rw [ev_js (out := "def " ++ nm ++ "(" ++ parT ps ++ "): " ++ kt) (B := C) (by simp only [EV, Ab.isNon, args, List.map, List.length_cons, List.length_nil, List.length_singleton, List.replicate, Nat.reduceSub, Nat.reduceAdd, Nat.zero_add, List.cons_append, List.nil_append, List.getElem?_cons_zero, List.getElem?_cons_succ, List.set_cons_zero, List.set_cons_succ, Option.some.injEq, decide_eq_true_eq, Bool.not_eq_true', decide_eq_false_iff_not, ite_true, ite_false, if_true, if_false, reduceIte, Bool.false_eq_true, Bool.not_true, Bool.not_false, Bool.true_eq_false, decide_true, decide_false, Nat.reduceLeDiff, Nat.reduceLT, jU_cons, jU_nil, ixb, ixd, fx, fp, fk, ktx, empty_app]) (by simp only [str_len]; omega)]
    simp only [EV, Ab.isNon, args, List.map, List.length_cons, List.length_nil, List.length_singleton, List.replicate, Nat.reduceSub, Nat.reduceAdd, Nat.zero_add, List.cons_append, List.nil_append, List.getElem?_cons_zero, List.getElem?_cons_succ, List.set_cons_zero, List.set_cons_succ, Option.some.injEq, decide_eq_true_eq, Bool.not_eq_true', decide_eq_false_iff_not, ite_true, ite_false, if_true, if_false, reduceIte, Bool.false_eq_true, Bool.not_true, Bool.not_false, Bool.true_eq_false, decide_true, decide_false, Nat.reduceLeDiff, Nat.reduceLT]
    refine ⟨?_, G⟩
    show D.str _ = D.str ("def " ++ nm ++ "(" ++ parT ps ++ ")" ++ ": " ++ kt)
    rw [← j_par]
    simp only [str_assoc]
end Law

namespace Law
open PySem PySem.Spec PyProof.Rows L2 Ab
open scoped Classical
/-! ### the lines of a function -/
structure Ft where
  nm : Str
  ps : List Pt
  res : Rt
  own : List Pt
  b : Bt
namespace Ft
def d (f : Ft) : D := .tup [.str f.nm, .tup (f.ps.map prD), rtD f.res, .tup (f.own.map prD), .tup f.b.dats]
end Ft
def varT (q : Pt) : Str := "  var " ++ q.1 ++ ": " ++ q.2.2
def Ft.lines (f : Ft) : List Str := [hdT f.nm f.ps f.res] ++ f.own.map varT ++ f.b.lines 1 ++ [("end" : Str)]
structure FtOk (f : Ft) : Prop where
  nm : f.nm.length ≤ 40
  ps : ∀ q ∈ f.ps, PtOk q
  psl : f.ps.length ≤ 10
  res : ∀ k, f.res = some k → RtOk k
  own : ∀ q ∈ f.own, PtOk q
  ownl : f.own.length ≤ 10
  b : f.b.ok
  sz : f.b.sz ≤ 40
  dep : f.b.dep ≤ 10
theorem Ft.len {f : Ft} (ok : FtOk f) : f.lines.length ≤ 140 := by
  have h1 := ok.ownl
  have h2 := f.b.lines_len 1
  have h3 := ok.sz
  unfold Ft.lines
  rw [List.length_append, List.length_append, List.length_append, List.length_map]
  show 1 + _ + _ + 1 ≤ _
  omega
theorem hdT_len {nm : Str} {ps : List Pt} {r : Rt} (hn : nm.length ≤ 40) (few : ps.length ≤ 10) (h : ∀ q ∈ ps, PtOk q) (hr : ∀ k, r = some k → RtOk k) : (hdT nm ps r).length ≤ 1400 := by
  obtain ⟨c1, c2, c3, c4, c5, c6, c7, c8, c9, c10, c11, c12, c13, c14, c15, c16, c17, c18, c19⟩ := lens
  obtain ⟨pl, pz⟩ := parT_len few h
  cases r with
  | none => unfold hdT; simp only [str_len]; omega
  | some k => have := (hr k rfl).len; unfold hdT; simp only [str_len]; omega
theorem varT_len {q : Pt} (h : PtOk q) : (varT q).length ≤ 130 := by
  obtain ⟨c1, c2, c3, c4, c5, c6, c7, c8, c9, c10, c11, c12, c13, c14, c15, c16, c17, c18, c19⟩ := lens
  have n1 := h.nm
  have n2 := h.len
  unfold varT; simp only [str_len]; omega
theorem Ft.lines_ok {f : Ft} (ok : FtOk f) : ∀ y ∈ f.lines, y.length ≤ 5400 := by
  intro y hy
  have ce : ("end" : Str).length ≤ 10 := by decide +kernel
  rcases List.mem_append.mp hy with hy | hy
  · rcases List.mem_append.mp hy with hy | hy
    · rcases List.mem_append.mp hy with hy | hy
      · cases List.mem_singleton.mp hy
        have := hdT_len ok.nm ok.psl ok.ps ok.res
        omega
      · obtain ⟨q, hq, rfl⟩ := List.mem_map.mp hy
        have := varT_len (ok.own q hq)
        omega
    · exact Law.lines_ok f.b 1 ok.b (by have := ok.dep; omega) y hy
  · cases List.mem_singleton.mp hy; omega
/-- a loop that appends the lines of each thing -/
theorem loop_acc {α : Type} (c : α → D) (F : α → List Str) {N : Nat} {ok : AH → Prop} {g : FG} {p : FS} (I : List Str → ASt → AH → Prop) (hok : ∀ acc σ C, I acc σ C → ok C) : ∀ (xs : List α),
    (∀ x ∈ xs, ∀ acc σ C, I acc σ C → acc.length + (F x).length ≤ N → Sat (g (c x) σ C) fun s1 A1 => Sat (p s1 A1) fun fl B => ∃ σ', fl = .nx σ' ∧ I (acc ++ F x) σ' B) →
    ∀ (acc : List Str) (σ : ASt) (A : AH), I acc σ A → acc.length + (xs.map F).flatten.length ≤ N → Sat (loopD ok g p (xs.map c) σ A) fun fl B => ∃ σ', fl = .nx σ' ∧ I (acc ++ (xs.map F).flatten) σ' B
  | [], _, acc, σ, A, h, _ => by
    rw [List.map_nil, loop_nil (hok acc σ A h)]
    exact ⟨σ, rfl, by simpa using h⟩
  | x :: xs, t, acc, σ, A, h, z => by
    rw [List.map_cons, List.flatten_cons, List.length_append] at z
    rw [List.map_cons, loop_cons (hok acc σ A h)]
    refine (t x (List.mem_cons_self ..) acc σ A h (by omega)).imp fun s1 A1 h3 => h3.imp fun fl A2 ⟨σ', e, hI⟩ => ?_
    subst e
    show Sat _ _
    refine Sat.imp (loop_acc c F I hok xs (fun y hy => t y (List.mem_cons_of_mem _ hy)) (acc ++ F x) σ' A2 hI (by rw [List.length_append]; omega)) fun fl B ⟨σ2, e, h⟩ => ⟨σ2, e, ?_⟩
    rw [List.map_cons, List.flatten_cons, ← List.append_assoc]
    exact h
theorem flat_one {α : Type} {F : α → Str} {xs : List α} : (xs.map fun x => [F x]).flatten = xs.map F := by
  induction xs with
  | nil => rfl
  | cons x xs ih => rw [List.map_cons, List.flatten_cons, ih]; rfl
theorem fn_p {f : Ft} {A : AH} (ok : FtOk f) : Sat (m_function_lines [f.d] A) fun v A' => Gr A A' ∧ ∃ r, A.length ≤ r ∧ v = .ref r ∧ A'[r]? = some (.lst (f.lines.map D.str)) := by
  obtain ⟨c1, c2, c3, c4, c5, c6, c7, c8, c9, c10, c11, c12, c13, c14, c15, c16, c17, c18, c19⟩ := lens
  have fl := Ft.len ok
  have bl := f.b.lines_len 1
  have sz := ok.sz
  have ol := ok.ownl
  refine sat_body rfl (sat_seq ?_)
  have e0 : fAsg (fV 0) (gTpA 5 (gCs (gN 1) (gCs (gN 2) (gCs (gN 3) (gCs (gN 4) (gCs (gN 5) (gNl))))))) [some f.d, none, none, none, none, none, none, none, none] A = .ok (.nx [some f.d, some (.str f.nm), some (.tup (f.ps.map prD)), some (rtD f.res), some (.tup (f.own.map prD)), some (.tup f.b.dats), none, none, none]) A := rfl
  show Sat (fAsg (fV 0) (gTpA 5 (gCs (gN 1) (gCs (gN 2) (gCs (gN 3) (gCs (gN 4) (gCs (gN 5) (gNl))))))) [some f.d, none, none, none, none, none, none, none, none] A) _
  rw [e0]
  simp only [EV, Ab.isNon, args, List.map, List.length_cons, List.length_nil, List.length_singleton, List.replicate, Nat.reduceSub, Nat.reduceAdd, Nat.zero_add, List.cons_append, List.nil_append, List.getElem?_cons_zero, List.getElem?_cons_succ, List.set_cons_zero, List.set_cons_succ, Option.some.injEq, decide_eq_true_eq, Bool.not_eq_true', decide_eq_false_iff_not, ite_true, ite_false, if_true, if_false, reduceIte, Bool.false_eq_true, Bool.not_true, Bool.not_false, Bool.true_eq_false, decide_true, decide_false, Nat.reduceLeDiff, Nat.reduceLT]
  refine sat_seq ?_
  simp only [EV, Ab.isNon, args, List.map, List.length_cons, List.length_nil, List.length_singleton, List.replicate, Nat.reduceSub, Nat.reduceAdd, Nat.zero_add, List.cons_append, List.nil_append, List.getElem?_cons_zero, List.getElem?_cons_succ, List.set_cons_zero, List.set_cons_succ, Option.some.injEq, decide_eq_true_eq, Bool.not_eq_true', decide_eq_false_iff_not, ite_true, ite_false, if_true, if_false, reduceIte, Bool.false_eq_true, Bool.not_true, Bool.not_false, Bool.true_eq_false, decide_true, decide_false, Nat.reduceLeDiff, Nat.reduceLT]
  refine Sat.imp (hd_def ok.nm ok.psl ok.ps ok.res) fun v A1 ⟨e, G1⟩ => ?_
  subst e
  have hL : (A1 ++ [AO.lst [D.str (hdT f.nm f.ps f.res)]])[A1.length]? = some (.lst (([hdT f.nm f.ps f.res] : List Str).map D.str)) := at_new
  have G := G1.trans (Gr.app (B := [AO.lst [D.str (hdT f.nm f.ps f.res)]]))
  have lL := G1.le
  generalize A1 ++ [AO.lst [D.str (hdT f.nm f.ps f.res)]] = A2 at *
  obtain ⟨L, eL⟩ : ∃ L, A1.length = L := ⟨_, rfl⟩
  rw [eL] at hL lL
  simp only [eL]
  refine sat_mid (fun σ B => Gr A B ∧ B[L]? = some (.lst (([hdT f.nm f.ps f.res] ++ f.own.map varT).map D.str)) ∧ ∃ x7 x8, σ = [some f.d, some (.str f.nm), some (.tup (f.ps.map prD)), some (rtD f.res), some (.tup (f.own.map prD)), some (.tup f.b.dats), some (.ref L), x7, x8]) ?_ fun σ B ⟨GB, hB, x7, x8, hσ⟩ => ?_
  · simp only [EV, Ab.isNon, args, List.map, List.length_cons, List.length_nil, List.length_singleton, List.replicate, Nat.reduceSub, Nat.reduceAdd, Nat.zero_add, List.cons_append, List.nil_append, List.getElem?_cons_zero, List.getElem?_cons_succ, List.set_cons_zero, List.set_cons_succ, Option.some.injEq, decide_eq_true_eq, Bool.not_eq_true', decide_eq_false_iff_not, ite_true, ite_false, if_true, if_false, reduceIte, Bool.false_eq_true, Bool.not_true, Bool.not_false, Bool.true_eq_false, decide_true, decide_false, Nat.reduceLeDiff, Nat.reduceLT, ev_iseq_t]
    refine Sat.imp (loop_acc (N := 1000) prD (fun q => [varT q]) (fun acc σ C => Gr A C ∧ C[L]? = some (.lst (acc.map D.str)) ∧ ∃ x7 x8, σ = [some f.d, some (.str f.nm), some (.tup (f.ps.map prD)), some (rtD f.res), some (.tup (f.own.map prD)), some (.tup f.b.dats), some (.ref L), x7, x8]) (fun _ _ _ _ => trivial) f.own (fun q hq acc σ C ⟨GC, hC, x7, x8, hσ⟩ z => ?_) [hdT f.nm f.ps f.res] _ A2 ⟨G, hL, _, _, rfl⟩ (by rw [flat_one, List.length_map]; show 1 + _ ≤ _; omega)) fun fl B ⟨σ', e, GB, hB, x7, x8, hσ⟩ => ?_
    · subst hσ
      have qo := ok.own q hq
      have n1 := qo.nm
      have n2 := qo.len
      rw [List.length_singleton] at z
      simp only [prD, EV, Ab.isNon, args, List.map, List.length_cons, List.length_nil, List.length_singleton, List.replicate, Nat.reduceSub, Nat.reduceAdd, Nat.zero_add, List.cons_append, List.nil_append, List.getElem?_cons_zero, List.getElem?_cons_succ, List.set_cons_zero, List.set_cons_succ, Option.some.injEq, decide_eq_true_eq, Bool.not_eq_true', decide_eq_false_iff_not, ite_true, ite_false, if_true, if_false, reduceIte, Bool.false_eq_true, Bool.not_true, Bool.not_false, Bool.true_eq_false, decide_true, decide_false, Nat.reduceLeDiff, Nat.reduceLT, ty_l hC, hd_var qo]
      rw [add_ss (by simp only [str_len]; omega)]
      simp only [EV, Ab.isNon, args, List.map, List.length_cons, List.length_nil, List.length_singleton, List.replicate, Nat.reduceSub, Nat.reduceAdd, Nat.zero_add, List.cons_append, List.nil_append, List.getElem?_cons_zero, List.getElem?_cons_succ, List.set_cons_zero, List.set_cons_succ, Option.some.injEq, decide_eq_true_eq, Bool.not_eq_true', decide_eq_false_iff_not, ite_true, ite_false, if_true, if_false, reduceIte, Bool.false_eq_true, Bool.not_true, Bool.not_false, Bool.true_eq_false, decide_true, decide_false, Nat.reduceLeDiff, Nat.reduceLT]
      rw [show ("  " : Str) ++ ("var" ++ " " ++ q.1 ++ ": " ++ q.2.2) = varT q by unfold varT; rw [← j_var]; simp only [str_assoc]]
      rw [app1 hC (by omega)]
      simp only [EV, Ab.isNon, args, List.map, List.length_cons, List.length_nil, List.length_singleton, List.replicate, Nat.reduceSub, Nat.reduceAdd, Nat.zero_add, List.cons_append, List.nil_append, List.getElem?_cons_zero, List.getElem?_cons_succ, List.set_cons_zero, List.set_cons_succ, Option.some.injEq, decide_eq_true_eq, Bool.not_eq_true', decide_eq_false_iff_not, ite_true, ite_false, if_true, if_false, reduceIte, Bool.false_eq_true, Bool.not_true, Bool.not_false, Bool.true_eq_false, decide_true, decide_false, Nat.reduceLeDiff, Nat.reduceLT]
      exact ⟨_, rfl, GC.set lL, at_set (at_lt hC), _, _, rfl⟩
    · rw [flat_one] at hB
      exact ⟨σ', e, GB, hB, x7, x8, hσ⟩
  subst hσ
  refine sat_seq ?_
  simp only [EV, Ab.isNon, args, List.map, List.length_cons, List.length_nil, List.length_singleton, List.replicate, Nat.reduceSub, Nat.reduceAdd, Nat.zero_add, List.cons_append, List.nil_append, List.getElem?_cons_zero, List.getElem?_cons_succ, List.set_cons_zero, List.set_cons_succ, Option.some.injEq, decide_eq_true_eq, Bool.not_eq_true', decide_eq_false_iff_not, ite_true, ite_false, if_true, if_false, reduceIte, Bool.false_eq_true, Bool.not_true, Bool.not_false, Bool.true_eq_false, decide_true, decide_false, Nat.reduceLeDiff, Nat.reduceLT, ty_l hB]
  refine Sat.imp (lines_p 20 f.b 1 B (by have := ok.dep; omega) ok.b (by omega) (by have := ok.dep; omega)) fun v C ⟨g1, r, lr, e, hr⟩ => ?_
  subst e
  have hB := g1.keep _ _ hB
  rw [ext1 hB hr (by simp; omega) (by omega)]
  have hC := at_set (o := .lst (([hdT f.nm f.ps f.res] ++ f.own.map varT ++ f.b.lines 1).map D.str)) (at_lt hB)
  have GC := (GB.trans g1).set (o := .lst (([hdT f.nm f.ps f.res] ++ f.own.map varT ++ f.b.lines 1).map D.str)) lL
  generalize C.set L (.lst (([hdT f.nm f.ps f.res] ++ f.own.map varT ++ f.b.lines 1).map D.str)) = C2 at *
  simp only [EV, Ab.isNon, args, List.map, List.length_cons, List.length_nil, List.length_singleton, List.replicate, Nat.reduceSub, Nat.reduceAdd, Nat.zero_add, List.cons_append, List.nil_append, List.getElem?_cons_zero, List.getElem?_cons_succ, List.set_cons_zero, List.set_cons_succ, Option.some.injEq, decide_eq_true_eq, Bool.not_eq_true', decide_eq_false_iff_not, ite_true, ite_false, if_true, if_false, reduceIte, Bool.false_eq_true, Bool.not_true, Bool.not_false, Bool.true_eq_false, decide_true, decide_false, Nat.reduceLeDiff, Nat.reduceLT]
  refine sat_seq ?_
  simp only [EV, Ab.isNon, args, List.map, List.length_cons, List.length_nil, List.length_singleton, List.replicate, Nat.reduceSub, Nat.reduceAdd, Nat.zero_add, List.cons_append, List.nil_append, List.getElem?_cons_zero, List.getElem?_cons_succ, List.set_cons_zero, List.set_cons_succ, Option.some.injEq, decide_eq_true_eq, Bool.not_eq_true', decide_eq_false_iff_not, ite_true, ite_false, if_true, if_false, reduceIte, Bool.false_eq_true, Bool.not_true, Bool.not_false, Bool.true_eq_false, decide_true, decide_false, Nat.reduceLeDiff, Nat.reduceLT, ty_l hC]
  rw [app1 hC (by simp; omega)]
  simp only [EV, Ab.isNon, args, List.map, List.length_cons, List.length_nil, List.length_singleton, List.replicate, Nat.reduceSub, Nat.reduceAdd, Nat.zero_add, List.cons_append, List.nil_append, List.getElem?_cons_zero, List.getElem?_cons_succ, List.set_cons_zero, List.set_cons_succ, Option.some.injEq, decide_eq_true_eq, Bool.not_eq_true', decide_eq_false_iff_not, ite_true, ite_false, if_true, if_false, reduceIte, Bool.false_eq_true, Bool.not_true, Bool.not_false, Bool.true_eq_false, decide_true, decide_false, Nat.reduceLeDiff, Nat.reduceLT]
  exact ⟨GC.set lL, L, lL, rfl, at_set (at_lt hC)⟩
theorem fn_l {f : Ft} {A : AH} (ok : FtOk f) : Sat (m__law_function_lines [f.d] A) fun v A' => Gr A A' ∧ ∃ r, A.length ≤ r ∧ v = .ref r ∧ A'[r]? = some (.lst (f.lines.map D.str)) := by
  obtain ⟨c1, c2, c3, c4, c5, c6, c7, c8, c9, c10, c11, c12, c13, c14, c15, c16, c17, c18, c19⟩ := lens
  have fl := Ft.len ok
  have bl := f.b.lines_len 1
  have sz := ok.sz
  have ol := ok.ownl
  have nl := ok.nm
  obtain ⟨pl, pz⟩ := parT_len ok.psl ok.ps
  have i0 : ∀ A, ixD f.d (.int 0) A = .ok (.str f.nm) A := fun A => ixa
  have i1 : ∀ A, ixD f.d (.int 1) A = .ok (.tup (f.ps.map prD)) A := fun A => ixb
  have i2 : ∀ A, ixD f.d (.int 2) A = .ok (rtD f.res) A := fun A => ixc
  have i3 : ∀ A, ixD f.d (.int 3) A = .ok (.tup (f.own.map prD)) A := fun A => ixd
  have i4 : ∀ A, ixD f.d (.int 4) A = .ok (.tup f.b.dats) A := fun A => ev_ix_t (by rw [atI_pos (by decide)]; rfl)
  refine sat_body rfl (sat_mid (fun σ B => Gr A B ∧ σ = [some f.d, some (.str (parT f.ps)), none, none, none]) ?_ fun σ B ⟨GB, hσ⟩ => ?_)
  · simp only [EV, Ab.isNon, args, List.map, List.length_cons, List.length_nil, List.length_singleton, List.replicate, Nat.reduceSub, Nat.reduceAdd, Nat.zero_add, List.cons_append, List.nil_append, List.getElem?_cons_zero, List.getElem?_cons_succ, List.set_cons_zero, List.set_cons_succ, Option.some.injEq, decide_eq_true_eq, Bool.not_eq_true', decide_eq_false_iff_not, ite_true, ite_false, if_true, if_false, reduceIte, Bool.false_eq_true, Bool.not_true, Bool.not_false, Bool.true_eq_false, decide_true, decide_false, Nat.reduceLeDiff, Nat.reduceLT, i1, ty_s, ev_iseq_t, wipeA]
    refine comp_gr (qs := f.ps) prD (fun q => .str (ptT q)) (fun _ _ => trivial) (fun q hq C G => ?_) (by have := ok.psl; omega) fun C G hX => ?_
    · have qo := ok.ps q hq
      have n1 := qo.nm
      have n2 := qo.len
      have kt : ∀ A, m__law_kind_text [q.2.1] A = .ok (.str q.2.2) A := fun A => (qo.kt A).2
      simp only [prD, EV, Ab.isNon, args, List.map, List.length_cons, List.length_nil, List.length_singleton, List.replicate, Nat.reduceSub, Nat.reduceAdd, Nat.zero_add, List.cons_append, List.nil_append, List.getElem?_cons_zero, List.getElem?_cons_succ, List.set_cons_zero, List.set_cons_succ, Option.some.injEq, decide_eq_true_eq, Bool.not_eq_true', decide_eq_false_iff_not, ite_true, ite_false, if_true, if_false, reduceIte, Bool.false_eq_true, Bool.not_true, Bool.not_false, Bool.true_eq_false, decide_true, decide_false, Nat.reduceLeDiff, Nat.reduceLT, ixa, ixb]
      rw [add_ss (by simp only [str_len]; omega)]
      simp only [EV, Ab.isNon, args, List.map, List.length_cons, List.length_nil, List.length_singleton, List.replicate, Nat.reduceSub, Nat.reduceAdd, Nat.zero_add, List.cons_append, List.nil_append, List.getElem?_cons_zero, List.getElem?_cons_succ, List.set_cons_zero, List.set_cons_succ, Option.some.injEq, decide_eq_true_eq, Bool.not_eq_true', decide_eq_false_iff_not, ite_true, ite_false, if_true, if_false, reduceIte, Bool.false_eq_true, Bool.not_true, Bool.not_false, Bool.true_eq_false, decide_true, decide_false, Nat.reduceLeDiff, Nat.reduceLT, kt]
      rw [add_ss (by simp only [str_len]; omega)]
      exact ⟨trivial, .refl, rfl⟩
    have hX : C[A.length]? = some (.lst ((f.ps.map ptT).map D.str)) := by rw [hX, List.map_map]; rfl
    rw [ev_join (rdL_l hX) pz]
    simp only [EV, Ab.isNon, args, List.map, List.length_cons, List.length_nil, List.length_singleton, List.replicate, Nat.reduceSub, Nat.reduceAdd, Nat.zero_add, List.cons_append, List.nil_append, List.getElem?_cons_zero, List.getElem?_cons_succ, List.set_cons_zero, List.set_cons_succ, Option.some.injEq, decide_eq_true_eq, Bool.not_eq_true', decide_eq_false_iff_not, ite_true, ite_false, if_true, if_false, reduceIte, Bool.false_eq_true, Bool.not_true, Bool.not_false, Bool.true_eq_false, decide_true, decide_false, Nat.reduceLeDiff, Nat.reduceLT]
    exact ⟨_, rfl, G, rfl⟩
  subst hσ
  refine sat_seq ?_
  simp only [EV, Ab.isNon, args, List.map, List.length_cons, List.length_nil, List.length_singleton, List.replicate, Nat.reduceSub, Nat.reduceAdd, Nat.zero_add, List.cons_append, List.nil_append, List.getElem?_cons_zero, List.getElem?_cons_succ, List.set_cons_zero, List.set_cons_succ, Option.some.injEq, decide_eq_true_eq, Bool.not_eq_true', decide_eq_false_iff_not, ite_true, ite_false, if_true, if_false, reduceIte, Bool.false_eq_true, Bool.not_true, Bool.not_false, Bool.true_eq_false, decide_true, decide_false, Nat.reduceLeDiff, Nat.reduceLT, i0]
  rw [add_ss (by simp only [str_len]; omega)]
  simp only [EV, Ab.isNon, args, List.map, List.length_cons, List.length_nil, List.length_singleton, List.replicate, Nat.reduceSub, Nat.reduceAdd, Nat.zero_add, List.cons_append, List.nil_append, List.getElem?_cons_zero, List.getElem?_cons_succ, List.set_cons_zero, List.set_cons_succ, Option.some.injEq, decide_eq_true_eq, Bool.not_eq_true', decide_eq_false_iff_not, ite_true, ite_false, if_true, if_false, reduceIte, Bool.false_eq_true, Bool.not_true, Bool.not_false, Bool.true_eq_false, decide_true, decide_false, Nat.reduceLeDiff, Nat.reduceLT]
  rw [add_ss (by simp only [str_len]; omega)]
  simp only [EV, Ab.isNon, args, List.map, List.length_cons, List.length_nil, List.length_singleton, List.replicate, Nat.reduceSub, Nat.reduceAdd, Nat.zero_add, List.cons_append, List.nil_append, List.getElem?_cons_zero, List.getElem?_cons_succ, List.set_cons_zero, List.set_cons_succ, Option.some.injEq, decide_eq_true_eq, Bool.not_eq_true', decide_eq_false_iff_not, ite_true, ite_false, if_true, if_false, reduceIte, Bool.false_eq_true, Bool.not_true, Bool.not_false, Bool.true_eq_false, decide_true, decide_false, Nat.reduceLeDiff, Nat.reduceLT]
  rw [add_ss (by simp only [str_len]; omega)]
  simp only [EV, Ab.isNon, args, List.map, List.length_cons, List.length_nil, List.length_singleton, List.replicate, Nat.reduceSub, Nat.reduceAdd, Nat.zero_add, List.cons_append, List.nil_append, List.getElem?_cons_zero, List.getElem?_cons_succ, List.set_cons_zero, List.set_cons_succ, Option.some.injEq, decide_eq_true_eq, Bool.not_eq_true', decide_eq_false_iff_not, ite_true, ite_false, if_true, if_false, reduceIte, Bool.false_eq_true, Bool.not_true, Bool.not_false, Bool.true_eq_false, decide_true, decide_false, Nat.reduceLeDiff, Nat.reduceLT]
  rw [add_ss (by simp only [str_len]; omega)]
  simp only [EV, Ab.isNon, args, List.map, List.length_cons, List.length_nil, List.length_singleton, List.replicate, Nat.reduceSub, Nat.reduceAdd, Nat.zero_add, List.cons_append, List.nil_append, List.getElem?_cons_zero, List.getElem?_cons_succ, List.set_cons_zero, List.set_cons_succ, Option.some.injEq, decide_eq_true_eq, Bool.not_eq_true', decide_eq_false_iff_not, ite_true, ite_false, if_true, if_false, reduceIte, Bool.false_eq_true, Bool.not_true, Bool.not_false, Bool.true_eq_false, decide_true, decide_false, Nat.reduceLeDiff, Nat.reduceLT]
  refine sat_mid (fun σ C => Gr A C ∧ σ = [some f.d, some (.str (parT f.ps)), none, some (.str (hdT f.nm f.ps f.res)), none]) ?_ fun σ C ⟨GC, hσ⟩ => ?_
  · cases hr : f.res with
    | none =>
      rw [hr] at i2
      simp only [EV, Ab.isNon, args, List.map, List.length_cons, List.length_nil, List.length_singleton, List.replicate, Nat.reduceSub, Nat.reduceAdd, Nat.zero_add, List.cons_append, List.nil_append, List.getElem?_cons_zero, List.getElem?_cons_succ, List.set_cons_zero, List.set_cons_succ, Option.some.injEq, decide_eq_true_eq, Bool.not_eq_true', decide_eq_false_iff_not, ite_true, ite_false, if_true, if_false, reduceIte, Bool.false_eq_true, Bool.not_true, Bool.not_false, Bool.true_eq_false, decide_true, decide_false, Nat.reduceLeDiff, Nat.reduceLT, i2, rtD]
      exact ⟨_, rfl, GB, rfl⟩
    | some k =>
      rw [hr] at i2
      have ko := ok.res k hr
      have n2 := ko.len
      have nn : isntD k.1 .non B = .ok (.bl true) B := by rw [ev_isnt_n, ko.non]; rfl
      have kt : ∀ A, m__law_kind_text [k.1] A = .ok (.str k.2) A := fun A => (ko.kt A).2
      have i2 : ∀ A, ixD f.d (.int 2) A = .ok k.1 A := i2
      have step : fTB (fOp isntD (fOp ixD (fV 0) (fC (.int 2))) (fC .non)) [some f.d, some (.str (parT f.ps)), none, some (.str ("def " ++ f.nm ++ "(" ++ parT f.ps ++ ")")), none] B = .ok true B := by
        rw [ev_tb]
        simp only [ev_op, ev_c, ev_v (s := [some f.d, some (.str (parT f.ps)), none, some (.str ("def " ++ f.nm ++ "(" ++ parT f.ps ++ ")")), none]) (i := 0) rfl, bind_ok, i2, nn]
      rw [ev_ifS, step]
      simp only [EV, Ab.isNon, args, List.map, List.length_cons, List.length_nil, List.length_singleton, List.replicate, Nat.reduceSub, Nat.reduceAdd, Nat.zero_add, List.cons_append, List.nil_append, List.getElem?_cons_zero, List.getElem?_cons_succ, List.set_cons_zero, List.set_cons_succ, Option.some.injEq, decide_eq_true_eq, Bool.not_eq_true', decide_eq_false_iff_not, ite_true, ite_false, if_true, if_false, reduceIte, Bool.false_eq_true, Bool.not_true, Bool.not_false, Bool.true_eq_false, decide_true, decide_false, Nat.reduceLeDiff, Nat.reduceLT, i2, kt]
      rw [add_ss (by simp only [str_len]; omega)]
      simp only [EV, Ab.isNon, args, List.map, List.length_cons, List.length_nil, List.length_singleton, List.replicate, Nat.reduceSub, Nat.reduceAdd, Nat.zero_add, List.cons_append, List.nil_append, List.getElem?_cons_zero, List.getElem?_cons_succ, List.set_cons_zero, List.set_cons_succ, Option.some.injEq, decide_eq_true_eq, Bool.not_eq_true', decide_eq_false_iff_not, ite_true, ite_false, if_true, if_false, reduceIte, Bool.false_eq_true, Bool.not_true, Bool.not_false, Bool.true_eq_false, decide_true, decide_false, Nat.reduceLeDiff, Nat.reduceLT]
      rw [add_ss (by simp only [str_len]; omega)]
      simp only [EV, Ab.isNon, args, List.map, List.length_cons, List.length_nil, List.length_singleton, List.replicate, Nat.reduceSub, Nat.reduceAdd, Nat.zero_add, List.cons_append, List.nil_append, List.getElem?_cons_zero, List.getElem?_cons_succ, List.set_cons_zero, List.set_cons_succ, Option.some.injEq, decide_eq_true_eq, Bool.not_eq_true', decide_eq_false_iff_not, ite_true, ite_false, if_true, if_false, reduceIte, Bool.false_eq_true, Bool.not_true, Bool.not_false, Bool.true_eq_false, decide_true, decide_false, Nat.reduceLeDiff, Nat.reduceLT]
      exact ⟨_, rfl, GB, rfl⟩
  subst hσ
  refine sat_mid (fun σ B => Gr A B ∧ ∃ L, A.length ≤ L ∧ B[L]? = some (.lst ((f.own.map varT).map D.str)) ∧ σ = [some f.d, some (.str (parT f.ps)), none, some (.str (hdT f.nm f.ps f.res)), some (.ref L)]) ?_ fun σ B2 ⟨GB2, L, lL, hL, hσ⟩ => ?_
  · simp only [EV, Ab.isNon, args, List.map, List.length_cons, List.length_nil, List.length_singleton, List.replicate, Nat.reduceSub, Nat.reduceAdd, Nat.zero_add, List.cons_append, List.nil_append, List.getElem?_cons_zero, List.getElem?_cons_succ, List.set_cons_zero, List.set_cons_succ, Option.some.injEq, decide_eq_true_eq, Bool.not_eq_true', decide_eq_false_iff_not, ite_true, ite_false, if_true, if_false, reduceIte, Bool.false_eq_true, Bool.not_true, Bool.not_false, Bool.true_eq_false, decide_true, decide_false, Nat.reduceLeDiff, Nat.reduceLT, i3, ev_iseq_t, wipeA]
    refine comp_gr (qs := f.own) prD (fun q => .str (varT q)) (fun _ _ => trivial) (fun q hq C G => ?_) (by omega) fun C' G hX => ?_
    · have qo := ok.own q hq
      have n1 := qo.nm
      have n2 := qo.len
      have kt : ∀ A, m__law_kind_text [q.2.1] A = .ok (.str q.2.2) A := fun A => (qo.kt A).2
      simp only [prD, EV, Ab.isNon, args, List.map, List.length_cons, List.length_nil, List.length_singleton, List.replicate, Nat.reduceSub, Nat.reduceAdd, Nat.zero_add, List.cons_append, List.nil_append, List.getElem?_cons_zero, List.getElem?_cons_succ, List.set_cons_zero, List.set_cons_succ, Option.some.injEq, decide_eq_true_eq, Bool.not_eq_true', decide_eq_false_iff_not, ite_true, ite_false, if_true, if_false, reduceIte, Bool.false_eq_true, Bool.not_true, Bool.not_false, Bool.true_eq_false, decide_true, decide_false, Nat.reduceLeDiff, Nat.reduceLT, ixa, ixb]
      rw [add_ss (by simp only [str_len]; omega)]
      simp only [EV, Ab.isNon, args, List.map, List.length_cons, List.length_nil, List.length_singleton, List.replicate, Nat.reduceSub, Nat.reduceAdd, Nat.zero_add, List.cons_append, List.nil_append, List.getElem?_cons_zero, List.getElem?_cons_succ, List.set_cons_zero, List.set_cons_succ, Option.some.injEq, decide_eq_true_eq, Bool.not_eq_true', decide_eq_false_iff_not, ite_true, ite_false, if_true, if_false, reduceIte, Bool.false_eq_true, Bool.not_true, Bool.not_false, Bool.true_eq_false, decide_true, decide_false, Nat.reduceLeDiff, Nat.reduceLT]
      rw [add_ss (by simp only [str_len]; omega)]
      simp only [EV, Ab.isNon, args, List.map, List.length_cons, List.length_nil, List.length_singleton, List.replicate, Nat.reduceSub, Nat.reduceAdd, Nat.zero_add, List.cons_append, List.nil_append, List.getElem?_cons_zero, List.getElem?_cons_succ, List.set_cons_zero, List.set_cons_succ, Option.some.injEq, decide_eq_true_eq, Bool.not_eq_true', decide_eq_false_iff_not, ite_true, ite_false, if_true, if_false, reduceIte, Bool.false_eq_true, Bool.not_true, Bool.not_false, Bool.true_eq_false, decide_true, decide_false, Nat.reduceLeDiff, Nat.reduceLT, kt]
      rw [add_ss (by simp only [str_len]; omega)]
      exact ⟨trivial, .refl, rfl⟩
    · skip
      exact ⟨_, rfl, GC.trans G, _, GC.le, by rw [hX, List.map_map]; rfl, rfl⟩
  subst hσ
  simp only [EV, Ab.isNon, args, List.map, List.length_cons, List.length_nil, List.length_singleton, List.replicate, Nat.reduceSub, Nat.reduceAdd, Nat.zero_add, List.cons_append, List.nil_append, List.getElem?_cons_zero, List.getElem?_cons_succ, List.set_cons_zero, List.set_cons_succ, Option.some.injEq, decide_eq_true_eq, Bool.not_eq_true', decide_eq_false_iff_not, ite_true, ite_false, if_true, if_false, reduceIte, Bool.false_eq_true, Bool.not_true, Bool.not_false, Bool.true_eq_false, decide_true, decide_false, Nat.reduceLeDiff, Nat.reduceLT]
  have hn : (B2 ++ [AO.lst [D.str (hdT f.nm f.ps f.res)]])[B2.length]? = some (.lst (([hdT f.nm f.ps f.res] : List Str).map D.str)) := at_new
  have hL1 := (Gr.app (A := B2) (B := [AO.lst [D.str (hdT f.nm f.ps f.res)]])).keep _ _ hL
  have G3 := GB2.trans (Gr.app (B := [AO.lst [D.str (hdT f.nm f.ps f.res)]]))
  generalize B2 ++ [AO.lst [D.str (hdT f.nm f.ps f.res)]] = B3 at *
  rw [add1 hn hL1 (by simp) (by simp; omega)]
  have h4 := at_new (A := B3) (o := .lst (([hdT f.nm f.ps f.res] ++ f.own.map varT).map D.str))
  have G4 := G3.trans (Gr.app (B := [AO.lst (([hdT f.nm f.ps f.res] ++ f.own.map varT).map D.str)]))
  generalize B3 ++ [AO.lst (([hdT f.nm f.ps f.res] ++ f.own.map varT).map D.str)] = B4 at *
  simp only [EV, Ab.isNon, args, List.map, List.length_cons, List.length_nil, List.length_singleton, List.replicate, Nat.reduceSub, Nat.reduceAdd, Nat.zero_add, List.cons_append, List.nil_append, List.getElem?_cons_zero, List.getElem?_cons_succ, List.set_cons_zero, List.set_cons_succ, Option.some.injEq, decide_eq_true_eq, Bool.not_eq_true', decide_eq_false_iff_not, ite_true, ite_false, if_true, if_false, reduceIte, Bool.false_eq_true, Bool.not_true, Bool.not_false, Bool.true_eq_false, decide_true, decide_false, Nat.reduceLeDiff, Nat.reduceLT, i4]
  refine Sat.imp (lines_l 20 f.b 1 B4 (by have := ok.dep; omega) ok.b (by omega) (by have := ok.dep; omega)) fun v B5 ⟨g5, r, lr, e, hr⟩ => ?_
  subst e
  rw [add1 (g5.keep _ _ h4) hr (by simp; omega) (by omega)]
  have h6 := at_new (A := B5) (o := .lst (([hdT f.nm f.ps f.res] ++ f.own.map varT ++ f.b.lines 1).map D.str))
  have G6 := (G4.trans g5).trans (Gr.app (B := [AO.lst (([hdT f.nm f.ps f.res] ++ f.own.map varT ++ f.b.lines 1).map D.str)]))
  generalize B5 ++ [AO.lst (([hdT f.nm f.ps f.res] ++ f.own.map varT ++ f.b.lines 1).map D.str)] = B6 at *
  simp only [EV, Ab.isNon, args, List.map, List.length_cons, List.length_nil, List.length_singleton, List.replicate, Nat.reduceSub, Nat.reduceAdd, Nat.zero_add, List.cons_append, List.nil_append, List.getElem?_cons_zero, List.getElem?_cons_succ, List.set_cons_zero, List.set_cons_succ, Option.some.injEq, decide_eq_true_eq, Bool.not_eq_true', decide_eq_false_iff_not, ite_true, ite_false, if_true, if_false, reduceIte, Bool.false_eq_true, Bool.not_true, Bool.not_false, Bool.true_eq_false, decide_true, decide_false, Nat.reduceLeDiff, Nat.reduceLT]
  have hn : (B6 ++ [AO.lst [D.str "end"]])[B6.length]? = some (.lst ((["end"] : List Str).map D.str)) := at_new
  have h7 := (Gr.app (A := B6) (B := [AO.lst [D.str "end"]])).keep _ _ h6
  have G7 := G6.trans (Gr.app (B := [AO.lst [D.str "end"]]))
  generalize B6 ++ [AO.lst [D.str "end"]] = B7 at *
  rw [add1 h7 hn (by simp; omega) (by simp)]
  simp only [EV, Ab.isNon, args, List.map, List.length_cons, List.length_nil, List.length_singleton, List.replicate, Nat.reduceSub, Nat.reduceAdd, Nat.zero_add, List.cons_append, List.nil_append, List.getElem?_cons_zero, List.getElem?_cons_succ, List.set_cons_zero, List.set_cons_succ, Option.some.injEq, decide_eq_true_eq, Bool.not_eq_true', decide_eq_false_iff_not, ite_true, ite_false, if_true, if_false, reduceIte, Bool.false_eq_true, Bool.not_true, Bool.not_false, Bool.true_eq_false, decide_true, decide_false, Nat.reduceLeDiff, Nat.reduceLT]
  exact ⟨G7.trans .app, _, G7.le, rfl, at_new⟩
end Law

namespace Law
open PySem PySem.Spec PyProof.Rows L2 Ab
open scoped Classical
/-! ### the text of a program -/
structure Gt where
  recs : List (Str × List Pt)
  arrs : List (Str × Int × Int × Int)
  gl : List Pt
  fns : List Ft
def rcD (r : Str × List Pt) : D := .tup [.str r.1, .tup (r.2.map prD)]
def raD (a : Str × Int × Int × Int) : D := .tup [.str a.1, .int a.2.1, .int a.2.2.1, .int a.2.2.2]
def Gt.d (p : Gt) : D := .tup [.tup (p.recs.map rcD), .tup (p.arrs.map raD), .tup (p.gl.map prD), .tup (p.fns.map Ft.d)]
def fdT (q : Pt) : Str := "  " ++ q.1 ++ ": " ++ q.2.2
def rcL (r : Str × List Pt) : List Str := ["record " ++ r.1] ++ r.2.map fdT ++ [("end" : Str)]
def raT (a : Str × Int × Int × Int) : Str := "array " ++ a.1 ++ "[" ++ (toString a.2.1 : Str) ++ "]: " ++ ((toString a.2.2.1 : Str) ++ ".." ++ (toString a.2.2.2 : Str))
def glT (q : Pt) : Str := "global " ++ q.1 ++ ": " ++ q.2.2
def Gt.lines (p : Gt) : List Str := (p.recs.map rcL).flatten ++ p.arrs.map raT ++ p.gl.map glT ++ (p.fns.map Ft.lines).flatten
structure GtOk (p : Gt) : Prop where
  rl : p.recs.length ≤ 10
  rc : ∀ r ∈ p.recs, r.1.length ≤ 40 ∧ r.2.length ≤ 10 ∧ ∀ q ∈ r.2, PtOk q
  al : p.arrs.length ≤ 10
  ar : ∀ a ∈ p.arrs, a.1.length ≤ 40 ∧ a.2.1.natAbs < 10 ^ 12 ∧ a.2.2.1.natAbs < 10 ^ 12 ∧ a.2.2.2.natAbs < 10 ^ 12
  gll : p.gl.length ≤ 10
  gl : ∀ q ∈ p.gl, PtOk q
  fl : p.fns.length ≤ 10
  fn : ∀ f ∈ p.fns, FtOk f
theorem flat_len {α : Type} {F : α → List Str} {xs : List α} {k : Nat} (h : ∀ x ∈ xs, (F x).length ≤ k) : (xs.map F).flatten.length ≤ xs.length * k := by
  induction xs with
  | nil => exact Nat.zero_le _
  | cons x xs ih =>
    rw [List.map_cons, List.flatten_cons, List.length_append, List.length_cons, Nat.succ_mul]
    have := h x (List.mem_cons_self ..)
    have := ih fun z hz => h z (List.mem_cons_of_mem _ hz)
    omega
theorem rcL_len {r : Str × List Pt} (h : r.2.length ≤ 10) : (rcL r).length ≤ 12 := by
  unfold rcL
  rw [List.length_append, List.length_append, List.length_map]
  show 1 + _ + 1 ≤ 12; omega
structure GtL (p : Gt) : Prop where
  a : (p.recs.map rcL).flatten.length ≤ 120
  b : (p.fns.map Ft.lines).flatten.length ≤ 1400
  all : p.lines.length ≤ 1600
  len : ∀ y ∈ p.lines, y.length ≤ 5400
theorem gt_len {p : Gt} (ok : GtOk p) : GtL p := by
  obtain ⟨c1, c2, c3, c4, c5, c6, c7, c8, c9, c10, c11, c12, c13, c14, c15, c16, c17, c18, c19⟩ := lens
  have h1 := flat_len (F := rcL) (xs := p.recs) (k := 12) fun r hr => rcL_len (ok.rc r hr).2.1
  have h2 := flat_len (F := Ft.lines) (xs := p.fns) (k := 140) fun f hf => Ft.len (ok.fn f hf)
  have r1 := ok.rl
  have r2 := ok.fl
  have r3 := ok.al
  have r4 := ok.gll
  refine ⟨by omega, by omega, ?_, fun y hy => ?_⟩
  · unfold Gt.lines
    rw [List.length_append, List.length_append, List.length_append, List.length_map, List.length_map]
    omega
  · rcases List.mem_append.mp (show y ∈ (p.recs.map rcL).flatten ++ p.arrs.map raT ++ p.gl.map glT ++ (p.fns.map Ft.lines).flatten from hy) with hy | hy
    · rcases List.mem_append.mp hy with hy | hy
      · rcases List.mem_append.mp hy with hy | hy
        · obtain ⟨l, hl, hy⟩ := List.mem_flatten.mp hy
          obtain ⟨r, hr, rfl⟩ := List.mem_map.mp hl
          obtain ⟨n1, _, n2⟩ := ok.rc r hr
          rcases List.mem_append.mp (show y ∈ ["record " ++ r.1] ++ r.2.map fdT ++ [("end" : Str)] from hy) with hy | hy
          · rcases List.mem_append.mp hy with hy | hy
            · cases List.mem_singleton.mp hy; rw [str_len]; omega
            · obtain ⟨q, hq, rfl⟩ := List.mem_map.mp hy
              have m1 := (n2 q hq).nm
              have m2 := (n2 q hq).len
              unfold fdT; simp only [str_len]; omega
          · cases List.mem_singleton.mp hy; omega
        · obtain ⟨a, ha, rfl⟩ := List.mem_map.mp hy
          obtain ⟨n1, n2, n3, n4⟩ := ok.ar a ha
          have l1 := num_len n2
          have l2 := num_len n3
          have l3 := num_len n4
          unfold raT; simp only [str_len]; omega
      · obtain ⟨q, hq, rfl⟩ := List.mem_map.mp hy
        have m1 := (ok.gl q hq).nm
        have m2 := (ok.gl q hq).len
        unfold glT; simp only [str_len]; omega
    · obtain ⟨l, hl, hy⟩ := List.mem_flatten.mp hy
      obtain ⟨f, hf, rfl⟩ := List.mem_map.mp hl
      exact Ft.lines_ok (ok.fn f hf) y hy
/-! ### joined -/
def nl (y : Str) : Str := y ++ "\n"
def joinT (ys : List Str) : Str := Txt.join "" (ys.map nl)
theorem joined_fit {ys : List Str} (few : ys.length ≤ 1600) (h : ∀ y ∈ ys, y.length ≤ 5400) : ((ys.map nl).map (·.length)).sum + (ys.map nl).length * ("" : Str).length ≤ 16777216 := by
  have c : ("\n" : Str).length ≤ 10 := by decide +kernel
  have e : ("" : Str).length = 0 := rfl
  have h1 : ∀ y ∈ ys.map nl, y.length ≤ 5410 := fun y hy => by
    obtain ⟨a, ha, rfl⟩ := List.mem_map.mp hy
    have := h a ha
    unfold nl; rw [str_len]; omega
  have h2 := sum_le h1
  rw [List.length_map] at h2 ⊢
  have m1 := Nat.mul_le_mul_right 5410 few
  rw [e]; omega
theorem joined_p {ys : List Str} {r : Nat} {A : AH} (hr : A[r]? = some (.lst (ys.map D.str))) (few : ys.length ≤ 1600) (h : ∀ y ∈ ys, y.length ≤ 5400) : Sat (m_joined [.ref r] A) fun v A' => v = .str (joinT ys) ∧ Gr A A' := by
  have c : ("\n" : Str).length ≤ 10 := by decide +kernel
  refine sat_body rfl ?_
  unfold p_joined
  simp only [EV, Ab.isNon, args, List.map, List.length_cons, List.length_nil, List.length_singleton, List.replicate, Nat.reduceSub, Nat.reduceAdd, Nat.zero_add, List.cons_append, List.nil_append, List.getElem?_cons_zero, List.getElem?_cons_succ, List.set_cons_zero, List.set_cons_succ, Option.some.injEq, decide_eq_true_eq, Bool.not_eq_true', decide_eq_false_iff_not, ite_true, ite_false, if_true, if_false, reduceIte, Bool.false_eq_true, Bool.not_true, Bool.not_false, Bool.true_eq_false, decide_true, decide_false, Nat.reduceLeDiff, Nat.reduceLT, ty_s, ev_iseq_l hr, wipeA]
  refine comp_gr (qs := ys) D.str (fun y => .str (nl y)) (fun C G => rdL_l (G.keep _ _ hr)) (fun y hy C G => ?_) (by omega) fun C G hX => ?_
  · have := h y hy
    simp only [EV, Ab.isNon, args, List.map, List.length_cons, List.length_nil, List.length_singleton, List.replicate, Nat.reduceSub, Nat.reduceAdd, Nat.zero_add, List.cons_append, List.nil_append, List.getElem?_cons_zero, List.getElem?_cons_succ, List.set_cons_zero, List.set_cons_succ, Option.some.injEq, decide_eq_true_eq, Bool.not_eq_true', decide_eq_false_iff_not, ite_true, ite_false, if_true, if_false, reduceIte, Bool.false_eq_true, Bool.not_true, Bool.not_false, Bool.true_eq_false, decide_true, decide_false, Nat.reduceLeDiff, Nat.reduceLT]
    rw [add_ss (by rw [str_len]; omega)]
    exact ⟨trivial, .refl, rfl⟩
  have hX : C[A.length]? = some (.lst ((ys.map nl).map D.str)) := by rw [hX, List.map_map]; rfl
  rw [ev_join (rdL_l hX) (joined_fit few h)]
  simp only [EV, Ab.isNon, args, List.map, List.length_cons, List.length_nil, List.length_singleton, List.replicate, Nat.reduceSub, Nat.reduceAdd, Nat.zero_add, List.cons_append, List.nil_append, List.getElem?_cons_zero, List.getElem?_cons_succ, List.set_cons_zero, List.set_cons_succ, Option.some.injEq, decide_eq_true_eq, Bool.not_eq_true', decide_eq_false_iff_not, ite_true, ite_false, if_true, if_false, reduceIte, Bool.false_eq_true, Bool.not_true, Bool.not_false, Bool.true_eq_false, decide_true, decide_false, Nat.reduceLeDiff, Nat.reduceLT]
  exact ⟨rfl, G⟩
theorem joined_l {ys : List Str} {r : Nat} {A : AH} (hr : A[r]? = some (.lst (ys.map D.str))) (few : ys.length ≤ 1600) (h : ∀ y ∈ ys, y.length ≤ 5400) : Sat (m__law_joined [.ref r] A) fun v A' => v = .str (joinT ys) ∧ Gr A A' := by
  have c : ("\n" : Str).length ≤ 10 := by decide +kernel
  refine sat_body rfl ?_
  unfold p__law_joined
  simp only [EV, Ab.isNon, args, List.map, List.length_cons, List.length_nil, List.length_singleton, List.replicate, Nat.reduceSub, Nat.reduceAdd, Nat.zero_add, List.cons_append, List.nil_append, List.getElem?_cons_zero, List.getElem?_cons_succ, List.set_cons_zero, List.set_cons_succ, Option.some.injEq, decide_eq_true_eq, Bool.not_eq_true', decide_eq_false_iff_not, ite_true, ite_false, if_true, if_false, reduceIte, Bool.false_eq_true, Bool.not_true, Bool.not_false, Bool.true_eq_false, decide_true, decide_false, Nat.reduceLeDiff, Nat.reduceLT, ty_s, ev_iseq_l hr, wipeA]
  refine comp_gr (qs := ys) D.str (fun y => .str (nl y)) (fun C G => rdL_l (G.keep _ _ hr)) (fun y hy C G => ?_) (by omega) fun C G hX => ?_
  · have := h y hy
    simp only [EV, Ab.isNon, args, List.map, List.length_cons, List.length_nil, List.length_singleton, List.replicate, Nat.reduceSub, Nat.reduceAdd, Nat.zero_add, List.cons_append, List.nil_append, List.getElem?_cons_zero, List.getElem?_cons_succ, List.set_cons_zero, List.set_cons_succ, Option.some.injEq, decide_eq_true_eq, Bool.not_eq_true', decide_eq_false_iff_not, ite_true, ite_false, if_true, if_false, reduceIte, Bool.false_eq_true, Bool.not_true, Bool.not_false, Bool.true_eq_false, decide_true, decide_false, Nat.reduceLeDiff, Nat.reduceLT]
    rw [add_ss (by rw [str_len]; omega)]
    exact ⟨trivial, .refl, rfl⟩
  have hX : C[A.length]? = some (.lst ((ys.map nl).map D.str)) := by rw [hX, List.map_map]; rfl
  rw [ev_join (rdL_l hX) (joined_fit few h)]
  simp only [EV, Ab.isNon, args, List.map, List.length_cons, List.length_nil, List.length_singleton, List.replicate, Nat.reduceSub, Nat.reduceAdd, Nat.zero_add, List.cons_append, List.nil_append, List.getElem?_cons_zero, List.getElem?_cons_succ, List.set_cons_zero, List.set_cons_succ, Option.some.injEq, decide_eq_true_eq, Bool.not_eq_true', decide_eq_false_iff_not, ite_true, ite_false, if_true, if_false, reduceIte, Bool.false_eq_true, Bool.not_true, Bool.not_false, Bool.true_eq_false, decide_true, decide_false, Nat.reduceLeDiff, Nat.reduceLT]
  exact ⟨rfl, G⟩
/-! ### the lines of a program -/
theorem prog_p {p : Gt} {A : AH} (ok : GtOk p) : Sat (m_program_text [p.d] A) fun v A' => v = .str (joinT p.lines) ∧ Gr A A' := by
  obtain ⟨c1, c2, c3, c4, c5, c6, c7, c8, c9, c10, c11, c12, c13, c14, c15, c16, c17, c18, c19⟩ := lens
  have gt := gt_len ok
  have ga := gt.a
  have gb := gt.b
  have r3 := ok.al
  have r4 := ok.gll
  have i0 : ∀ A, ixD p.d (.int 0) A = .ok (.tup (p.recs.map rcD)) A := fun A => ixa
  have i1 : ∀ A, ixD p.d (.int 1) A = .ok (.tup (p.arrs.map raD)) A := fun A => ixb
  have i2 : ∀ A, ixD p.d (.int 2) A = .ok (.tup (p.gl.map prD)) A := fun A => ixc
  have i3 : ∀ A, ixD p.d (.int 3) A = .ok (.tup (p.fns.map Ft.d)) A := fun A => ixd
  refine sat_body rfl (sat_seq ?_)
  simp only [EV, Ab.isNon, args, List.map, List.length_cons, List.length_nil, List.length_singleton, List.replicate, Nat.reduceSub, Nat.reduceAdd, Nat.zero_add, List.cons_append, List.nil_append, List.getElem?_cons_zero, List.getElem?_cons_succ, List.set_cons_zero, List.set_cons_succ, Option.some.injEq, decide_eq_true_eq, Bool.not_eq_true', decide_eq_false_iff_not, ite_true, ite_false, if_true, if_false, reduceIte, Bool.false_eq_true, Bool.not_true, Bool.not_false, Bool.true_eq_false, decide_true, decide_false, Nat.reduceLeDiff, Nat.reduceLT]
  have hL : (A ++ [AO.lst []])[A.length]? = some (.lst (([] : List Str).map D.str)) := at_new
  have G := Gr.app (A := A) (B := [AO.lst []])
  generalize A ++ [AO.lst []] = A1 at *
  obtain ⟨L, eL⟩ : ∃ L, A.length = L := ⟨_, rfl⟩
  rw [eL] at hL
  simp only [eL]
  let I : List Str → ASt → AH → Prop := fun acc σ C => Gr A C ∧ C[L]? = some (.lst (acc.map D.str)) ∧ ∃ x2 x3 x4 x5 x6 x7 x8 x9, σ = [some p.d, some (.ref L), x2, x3, x4, x5, x6, x7, x8, x9]
  have put : ∀ {acc : List Str} {C : AH} {y : Str}, Gr A C → C[L]? = some (.lst (acc.map D.str)) → acc.length ≤ 9000 → appendD (.ref L) [.str y] C = .ok .non (C.set L (.lst ((acc ++ [y]).map D.str))) ∧ Gr A (C.set L (.lst ((acc ++ [y]).map D.str))) ∧ (C.set L (.lst ((acc ++ [y]).map D.str)))[L]? = some (.lst ((acc ++ [y]).map D.str)) := fun G h z => ⟨app1 h (by omega), G.set (Nat.le_of_eq eL), at_set (at_lt h)⟩
  -- records
  refine sat_mid (fun σ B => I (p.recs.map rcL).flatten σ B) ?_ fun σ B ⟨GB, hB, x2, x3, x4, x5, x6, x7, x8, x9, hσ⟩ => ?_
  · simp only [EV, Ab.isNon, args, List.map, List.length_cons, List.length_nil, List.length_singleton, List.replicate, Nat.reduceSub, Nat.reduceAdd, Nat.zero_add, List.cons_append, List.nil_append, List.getElem?_cons_zero, List.getElem?_cons_succ, List.set_cons_zero, List.set_cons_succ, Option.some.injEq, decide_eq_true_eq, Bool.not_eq_true', decide_eq_false_iff_not, ite_true, ite_false, if_true, if_false, reduceIte, Bool.false_eq_true, Bool.not_true, Bool.not_false, Bool.true_eq_false, decide_true, decide_false, Nat.reduceLeDiff, Nat.reduceLT, i0, ev_iseq_t]
    refine Sat.imp (loop_acc (N := 9000) rcD rcL I (fun _ _ _ _ => trivial) p.recs (fun r hr acc σ C ⟨GC, hC, x2, x3, x4, x5, x6, x7, x8, x9, hσ⟩ z => ?_) [] _ A1 ⟨G, hL, _, _, _, _, _, _, _, _, rfl⟩ (by show 0 + _ ≤ _; omega)) fun fl B ⟨σ', e, h⟩ => ⟨σ', e, by simpa using h⟩
    subst hσ
    obtain ⟨n1, n2, n3⟩ := ok.rc r hr
    have zl : (rcL r).length = r.2.length + 2 := by unfold rcL; rw [List.length_append, List.length_append, List.length_map]; show 1 + _ + 1 = _; omega
    simp only [rcD, EV, Ab.isNon, args, List.map, List.length_cons, List.length_nil, List.length_singleton, List.replicate, Nat.reduceSub, Nat.reduceAdd, Nat.zero_add, List.cons_append, List.nil_append, List.getElem?_cons_zero, List.getElem?_cons_succ, List.set_cons_zero, List.set_cons_succ, Option.some.injEq, decide_eq_true_eq, Bool.not_eq_true', decide_eq_false_iff_not, ite_true, ite_false, if_true, if_false, reduceIte, Bool.false_eq_true, Bool.not_true, Bool.not_false, Bool.true_eq_false, decide_true, decide_false, Nat.reduceLeDiff, Nat.reduceLT]
    refine sat_seq ?_
    simp only [EV, Ab.isNon, args, List.map, List.length_cons, List.length_nil, List.length_singleton, List.replicate, Nat.reduceSub, Nat.reduceAdd, Nat.zero_add, List.cons_append, List.nil_append, List.getElem?_cons_zero, List.getElem?_cons_succ, List.set_cons_zero, List.set_cons_succ, Option.some.injEq, decide_eq_true_eq, Bool.not_eq_true', decide_eq_false_iff_not, ite_true, ite_false, if_true, if_false, reduceIte, Bool.false_eq_true, Bool.not_true, Bool.not_false, Bool.true_eq_false, decide_true, decide_false, Nat.reduceLeDiff, Nat.reduceLT, ty_l hC, hd_record n1]
    obtain ⟨p1, p2, p3⟩ := put (y := "record " ++ r.1) GC hC (by omega)
    rw [p1]
    generalize C.set L _ = C1 at *
    simp only [EV, Ab.isNon, args, List.map, List.length_cons, List.length_nil, List.length_singleton, List.replicate, Nat.reduceSub, Nat.reduceAdd, Nat.zero_add, List.cons_append, List.nil_append, List.getElem?_cons_zero, List.getElem?_cons_succ, List.set_cons_zero, List.set_cons_succ, Option.some.injEq, decide_eq_true_eq, Bool.not_eq_true', decide_eq_false_iff_not, ite_true, ite_false, if_true, if_false, reduceIte, Bool.false_eq_true, Bool.not_true, Bool.not_false, Bool.true_eq_false, decide_true, decide_false, Nat.reduceLeDiff, Nat.reduceLT]
    refine sat_mid (fun σ B => I (acc ++ (["record " ++ r.1] ++ r.2.map fdT)) σ B) ?_ fun σ B ⟨GB, hB, x2, x3, x4, x5, x6, x7, x8, x9, hσ⟩ => ?_
    · simp only [EV, Ab.isNon, args, List.map, List.length_cons, List.length_nil, List.length_singleton, List.replicate, Nat.reduceSub, Nat.reduceAdd, Nat.zero_add, List.cons_append, List.nil_append, List.getElem?_cons_zero, List.getElem?_cons_succ, List.set_cons_zero, List.set_cons_succ, Option.some.injEq, decide_eq_true_eq, Bool.not_eq_true', decide_eq_false_iff_not, ite_true, ite_false, if_true, if_false, reduceIte, Bool.false_eq_true, Bool.not_true, Bool.not_false, Bool.true_eq_false, decide_true, decide_false, Nat.reduceLeDiff, Nat.reduceLT, ev_iseq_t]
      refine Sat.imp (loop_acc (N := 9000) prD (fun q => [fdT q]) I (fun _ _ _ _ => trivial) r.2 (fun q hq acc σ C ⟨GC, hC, x2, x3, x4, x5, x6, x7, x8, x9, hσ⟩ z => ?_) (acc ++ ["record " ++ r.1]) _ C1 ⟨p2, p3, _, _, _, _, _, _, _, _, rfl⟩ (by rw [flat_one, List.length_map, List.length_append]; show _ + 1 + _ ≤ _; omega)) fun fl B ⟨σ', e, h⟩ => ⟨σ', e, by rw [flat_one, List.append_assoc] at h; exact h⟩
      subst hσ
      have qo := n3 q hq
      have m1 := qo.nm
      have m2 := qo.len
      rw [List.length_singleton] at z
      simp only [prD, EV, Ab.isNon, args, List.map, List.length_cons, List.length_nil, List.length_singleton, List.replicate, Nat.reduceSub, Nat.reduceAdd, Nat.zero_add, List.cons_append, List.nil_append, List.getElem?_cons_zero, List.getElem?_cons_succ, List.set_cons_zero, List.set_cons_succ, Option.some.injEq, decide_eq_true_eq, Bool.not_eq_true', decide_eq_false_iff_not, ite_true, ite_false, if_true, if_false, reduceIte, Bool.false_eq_true, Bool.not_true, Bool.not_false, Bool.true_eq_false, decide_true, decide_false, Nat.reduceLeDiff, Nat.reduceLT, ty_l hC, hd_field qo]
      rw [add_ss (by simp only [str_len]; omega)]
      simp only [EV, Ab.isNon, args, List.map, List.length_cons, List.length_nil, List.length_singleton, List.replicate, Nat.reduceSub, Nat.reduceAdd, Nat.zero_add, List.cons_append, List.nil_append, List.getElem?_cons_zero, List.getElem?_cons_succ, List.set_cons_zero, List.set_cons_succ, Option.some.injEq, decide_eq_true_eq, Bool.not_eq_true', decide_eq_false_iff_not, ite_true, ite_false, if_true, if_false, reduceIte, Bool.false_eq_true, Bool.not_true, Bool.not_false, Bool.true_eq_false, decide_true, decide_false, Nat.reduceLeDiff, Nat.reduceLT]
      rw [show ("  " : Str) ++ (q.1 ++ ": " ++ q.2.2) = fdT q by unfold fdT; simp only [str_assoc]]
      obtain ⟨p1, p2, p3⟩ := put (y := fdT q) GC hC (by omega)
      rw [p1]
      simp only [EV, Ab.isNon, args, List.map, List.length_cons, List.length_nil, List.length_singleton, List.replicate, Nat.reduceSub, Nat.reduceAdd, Nat.zero_add, List.cons_append, List.nil_append, List.getElem?_cons_zero, List.getElem?_cons_succ, List.set_cons_zero, List.set_cons_succ, Option.some.injEq, decide_eq_true_eq, Bool.not_eq_true', decide_eq_false_iff_not, ite_true, ite_false, if_true, if_false, reduceIte, Bool.false_eq_true, Bool.not_true, Bool.not_false, Bool.true_eq_false, decide_true, decide_false, Nat.reduceLeDiff, Nat.reduceLT]
      exact ⟨_, rfl, p2, p3, _, _, _, _, _, _, _, _, rfl⟩
    subst hσ
    simp only [EV, Ab.isNon, args, List.map, List.length_cons, List.length_nil, List.length_singleton, List.replicate, Nat.reduceSub, Nat.reduceAdd, Nat.zero_add, List.cons_append, List.nil_append, List.getElem?_cons_zero, List.getElem?_cons_succ, List.set_cons_zero, List.set_cons_succ, Option.some.injEq, decide_eq_true_eq, Bool.not_eq_true', decide_eq_false_iff_not, ite_true, ite_false, if_true, if_false, reduceIte, Bool.false_eq_true, Bool.not_true, Bool.not_false, Bool.true_eq_false, decide_true, decide_false, Nat.reduceLeDiff, Nat.reduceLT, ty_l hB]
    obtain ⟨p1, p2, p3⟩ := put (y := "end") GB hB (by simp; omega)
    rw [p1]
    simp only [EV, Ab.isNon, args, List.map, List.length_cons, List.length_nil, List.length_singleton, List.replicate, Nat.reduceSub, Nat.reduceAdd, Nat.zero_add, List.cons_append, List.nil_append, List.getElem?_cons_zero, List.getElem?_cons_succ, List.set_cons_zero, List.set_cons_succ, Option.some.injEq, decide_eq_true_eq, Bool.not_eq_true', decide_eq_false_iff_not, ite_true, ite_false, if_true, if_false, reduceIte, Bool.false_eq_true, Bool.not_true, Bool.not_false, Bool.true_eq_false, decide_true, decide_false, Nat.reduceLeDiff, Nat.reduceLT]
    exact ⟨_, rfl, p2, by refine p3.trans ?_; rw [List.append_assoc]; rfl, _, _, _, _, _, _, _, _, rfl⟩
  subst hσ
  -- arrays
  refine sat_mid (fun σ B => I ((p.recs.map rcL).flatten ++ p.arrs.map raT) σ B) ?_ fun σ B2 ⟨GB2, hB2, x2, x3, x4, x5, x6, x7, x8, x9, hσ⟩ => ?_
  · simp only [EV, Ab.isNon, args, List.map, List.length_cons, List.length_nil, List.length_singleton, List.replicate, Nat.reduceSub, Nat.reduceAdd, Nat.zero_add, List.cons_append, List.nil_append, List.getElem?_cons_zero, List.getElem?_cons_succ, List.set_cons_zero, List.set_cons_succ, Option.some.injEq, decide_eq_true_eq, Bool.not_eq_true', decide_eq_false_iff_not, ite_true, ite_false, if_true, if_false, reduceIte, Bool.false_eq_true, Bool.not_true, Bool.not_false, Bool.true_eq_false, decide_true, decide_false, Nat.reduceLeDiff, Nat.reduceLT, i1, ev_iseq_t]
    refine Sat.imp (loop_acc (N := 9000) raD (fun a => [raT a]) I (fun _ _ _ _ => trivial) p.arrs (fun a ha acc σ C ⟨GC, hC, x2, x3, x4, x5, x6, x7, x8, x9, hσ⟩ z => ?_) _ _ B ⟨GB, hB, _, _, _, _, _, _, _, _, rfl⟩ (by rw [flat_one, List.length_map]; omega)) fun fl B ⟨σ', e, h⟩ => ⟨σ', e, by rw [flat_one] at h; exact h⟩
    subst hσ
    obtain ⟨n1, n2, n3, n4⟩ := ok.ar a ha
    rw [List.length_singleton] at z
    simp only [raD, EV, Ab.isNon, args, List.map, List.length_cons, List.length_nil, List.length_singleton, List.replicate, Nat.reduceSub, Nat.reduceAdd, Nat.zero_add, List.cons_append, List.nil_append, List.getElem?_cons_zero, List.getElem?_cons_succ, List.set_cons_zero, List.set_cons_succ, Option.some.injEq, decide_eq_true_eq, Bool.not_eq_true', decide_eq_false_iff_not, ite_true, ite_false, if_true, if_false, reduceIte, Bool.false_eq_true, Bool.not_true, Bool.not_false, Bool.true_eq_false, decide_true, decide_false, Nat.reduceLeDiff, Nat.reduceLT, ty_l hC, hd_array n1 n2 n3 n4]
    obtain ⟨p1, p2, p3⟩ := put (y := raT a) GC hC (by omega)
    rw [show ("array " ++ a.1 ++ "[" ++ (toString a.2.1 : Str) ++ "]: " ++ ((toString a.2.2.1 : Str) ++ ".." ++ (toString a.2.2.2 : Str)) : Str) = raT a from rfl, p1]
    simp only [EV, Ab.isNon, args, List.map, List.length_cons, List.length_nil, List.length_singleton, List.replicate, Nat.reduceSub, Nat.reduceAdd, Nat.zero_add, List.cons_append, List.nil_append, List.getElem?_cons_zero, List.getElem?_cons_succ, List.set_cons_zero, List.set_cons_succ, Option.some.injEq, decide_eq_true_eq, Bool.not_eq_true', decide_eq_false_iff_not, ite_true, ite_false, if_true, if_false, reduceIte, Bool.false_eq_true, Bool.not_true, Bool.not_false, Bool.true_eq_false, decide_true, decide_false, Nat.reduceLeDiff, Nat.reduceLT]
    exact ⟨_, rfl, p2, p3, _, _, _, _, _, _, _, _, rfl⟩
  subst hσ
  -- globals
  refine sat_mid (fun σ B => I ((p.recs.map rcL).flatten ++ p.arrs.map raT ++ p.gl.map glT) σ B) ?_ fun σ B3 ⟨GB3, hB3, x2, x3, x4, x5, x6, x7, x8, x9, hσ⟩ => ?_
  · simp only [EV, Ab.isNon, args, List.map, List.length_cons, List.length_nil, List.length_singleton, List.replicate, Nat.reduceSub, Nat.reduceAdd, Nat.zero_add, List.cons_append, List.nil_append, List.getElem?_cons_zero, List.getElem?_cons_succ, List.set_cons_zero, List.set_cons_succ, Option.some.injEq, decide_eq_true_eq, Bool.not_eq_true', decide_eq_false_iff_not, ite_true, ite_false, if_true, if_false, reduceIte, Bool.false_eq_true, Bool.not_true, Bool.not_false, Bool.true_eq_false, decide_true, decide_false, Nat.reduceLeDiff, Nat.reduceLT, i2, ev_iseq_t]
    refine Sat.imp (loop_acc (N := 9000) prD (fun q => [glT q]) I (fun _ _ _ _ => trivial) p.gl (fun q hq acc σ C ⟨GC, hC, x2, x3, x4, x5, x6, x7, x8, x9, hσ⟩ z => ?_) _ _ B2 ⟨GB2, hB2, _, _, _, _, _, _, _, _, rfl⟩ (by rw [flat_one, List.length_map, List.length_append, List.length_map]; omega)) fun fl B ⟨σ', e, h⟩ => ⟨σ', e, by rw [flat_one] at h; exact h⟩
    subst hσ
    have qo := ok.gl q hq
    rw [List.length_singleton] at z
    simp only [prD, EV, Ab.isNon, args, List.map, List.length_cons, List.length_nil, List.length_singleton, List.replicate, Nat.reduceSub, Nat.reduceAdd, Nat.zero_add, List.cons_append, List.nil_append, List.getElem?_cons_zero, List.getElem?_cons_succ, List.set_cons_zero, List.set_cons_succ, Option.some.injEq, decide_eq_true_eq, Bool.not_eq_true', decide_eq_false_iff_not, ite_true, ite_false, if_true, if_false, reduceIte, Bool.false_eq_true, Bool.not_true, Bool.not_false, Bool.true_eq_false, decide_true, decide_false, Nat.reduceLeDiff, Nat.reduceLT, ty_l hC, hd_global qo]
    obtain ⟨p1, p2, p3⟩ := put (y := glT q) GC hC (by omega)
    rw [show ("global " ++ q.1 ++ ": " ++ q.2.2 : Str) = glT q from rfl, p1]
    simp only [EV, Ab.isNon, args, List.map, List.length_cons, List.length_nil, List.length_singleton, List.replicate, Nat.reduceSub, Nat.reduceAdd, Nat.zero_add, List.cons_append, List.nil_append, List.getElem?_cons_zero, List.getElem?_cons_succ, List.set_cons_zero, List.set_cons_succ, Option.some.injEq, decide_eq_true_eq, Bool.not_eq_true', decide_eq_false_iff_not, ite_true, ite_false, if_true, if_false, reduceIte, Bool.false_eq_true, Bool.not_true, Bool.not_false, Bool.true_eq_false, decide_true, decide_false, Nat.reduceLeDiff, Nat.reduceLT]
    exact ⟨_, rfl, p2, p3, _, _, _, _, _, _, _, _, rfl⟩
  subst hσ
  -- functions
  refine sat_mid (fun σ B => I p.lines σ B) ?_ fun σ B4 ⟨GB4, hB4, x2, x3, x4, x5, x6, x7, x8, x9, hσ⟩ => ?_
  · simp only [EV, Ab.isNon, args, List.map, List.length_cons, List.length_nil, List.length_singleton, List.replicate, Nat.reduceSub, Nat.reduceAdd, Nat.zero_add, List.cons_append, List.nil_append, List.getElem?_cons_zero, List.getElem?_cons_succ, List.set_cons_zero, List.set_cons_succ, Option.some.injEq, decide_eq_true_eq, Bool.not_eq_true', decide_eq_false_iff_not, ite_true, ite_false, if_true, if_false, reduceIte, Bool.false_eq_true, Bool.not_true, Bool.not_false, Bool.true_eq_false, decide_true, decide_false, Nat.reduceLeDiff, Nat.reduceLT, i3, ev_iseq_t]
    refine Sat.imp (loop_acc (N := 9000) Ft.d Ft.lines I (fun _ _ _ _ => trivial) p.fns (fun f hf acc σ C ⟨GC, hC, x2, x3, x4, x5, x6, x7, x8, x9, hσ⟩ z => ?_) _ _ B3 ⟨GB3, hB3, _, _, _, _, _, _, _, _, rfl⟩ (by rw [List.length_append, List.length_append, List.length_map, List.length_map]; omega)) fun fl B ⟨σ', e, h⟩ => ⟨σ', e, h⟩
    subst hσ
    simp only [EV, Ab.isNon, args, List.map, List.length_cons, List.length_nil, List.length_singleton, List.replicate, Nat.reduceSub, Nat.reduceAdd, Nat.zero_add, List.cons_append, List.nil_append, List.getElem?_cons_zero, List.getElem?_cons_succ, List.set_cons_zero, List.set_cons_succ, Option.some.injEq, decide_eq_true_eq, Bool.not_eq_true', decide_eq_false_iff_not, ite_true, ite_false, if_true, if_false, reduceIte, Bool.false_eq_true, Bool.not_true, Bool.not_false, Bool.true_eq_false, decide_true, decide_false, Nat.reduceLeDiff, Nat.reduceLT, ty_l hC]
    refine Sat.imp (fn_p (ok.fn f hf)) fun v C1 ⟨g1, r, lr, e, hr⟩ => ?_
    subst e
    have hC := g1.keep _ _ hC
    rw [ext1 hC hr (by omega) (by omega)]
    simp only [EV, Ab.isNon, args, List.map, List.length_cons, List.length_nil, List.length_singleton, List.replicate, Nat.reduceSub, Nat.reduceAdd, Nat.zero_add, List.cons_append, List.nil_append, List.getElem?_cons_zero, List.getElem?_cons_succ, List.set_cons_zero, List.set_cons_succ, Option.some.injEq, decide_eq_true_eq, Bool.not_eq_true', decide_eq_false_iff_not, ite_true, ite_false, if_true, if_false, reduceIte, Bool.false_eq_true, Bool.not_true, Bool.not_false, Bool.true_eq_false, decide_true, decide_false, Nat.reduceLeDiff, Nat.reduceLT]
    exact ⟨_, rfl, (GC.trans g1).set (Nat.le_of_eq eL), at_set (at_lt hC), _, _, _, _, _, _, _, _, rfl⟩
  subst hσ
  simp only [EV, Ab.isNon, args, List.map, List.length_cons, List.length_nil, List.length_singleton, List.replicate, Nat.reduceSub, Nat.reduceAdd, Nat.zero_add, List.cons_append, List.nil_append, List.getElem?_cons_zero, List.getElem?_cons_succ, List.set_cons_zero, List.set_cons_succ, Option.some.injEq, decide_eq_true_eq, Bool.not_eq_true', decide_eq_false_iff_not, ite_true, ite_false, if_true, if_false, reduceIte, Bool.false_eq_true, Bool.not_true, Bool.not_false, Bool.true_eq_false, decide_true, decide_false, Nat.reduceLeDiff, Nat.reduceLT]
  refine Sat.imp (joined_p hB4 gt.all gt.len) fun v C ⟨e, g⟩ => ⟨e, GB4.trans g⟩
theorem prog_l {p : Gt} {A : AH} (ok : GtOk p) : Sat (m__law_program_lines [p.d] A) fun v A' => Gr A A' ∧ ∃ r, A.length ≤ r ∧ v = .ref r ∧ A'[r]? = some (.lst (p.lines.map D.str)) := by
  obtain ⟨c1, c2, c3, c4, c5, c6, c7, c8, c9, c10, c11, c12, c13, c14, c15, c16, c17, c18, c19⟩ := lens
  have gt := gt_len ok
  have ga := gt.a
  have gb := gt.b
  have r3 := ok.al
  have r4 := ok.gll
  have i0 : ∀ A, ixD p.d (.int 0) A = .ok (.tup (p.recs.map rcD)) A := fun A => ixa
  have i1 : ∀ A, ixD p.d (.int 1) A = .ok (.tup (p.arrs.map raD)) A := fun A => ixb
  have i2 : ∀ A, ixD p.d (.int 2) A = .ok (.tup (p.gl.map prD)) A := fun A => ixc
  have i3 : ∀ A, ixD p.d (.int 3) A = .ok (.tup (p.fns.map Ft.d)) A := fun A => ixd
  refine sat_body rfl (sat_seq ?_)
  simp only [EV, Ab.isNon, args, List.map, List.length_cons, List.length_nil, List.length_singleton, List.replicate, Nat.reduceSub, Nat.reduceAdd, Nat.zero_add, List.cons_append, List.nil_append, List.getElem?_cons_zero, List.getElem?_cons_succ, List.set_cons_zero, List.set_cons_succ, Option.some.injEq, decide_eq_true_eq, Bool.not_eq_true', decide_eq_false_iff_not, ite_true, ite_false, if_true, if_false, reduceIte, Bool.false_eq_true, Bool.not_true, Bool.not_false, Bool.true_eq_false, decide_true, decide_false, Nat.reduceLeDiff, Nat.reduceLT]
  have hL : (A ++ [AO.lst []])[A.length]? = some (.lst (([] : List Str).map D.str)) := at_new
  have G := Gr.app (A := A) (B := [AO.lst []])
  have lL : A.length ≤ A.length := Nat.le_refl _
  generalize A ++ [AO.lst []] = A1 at *
  let I : List Str → ASt → AH → Prop := fun acc σ C => ∃ L, A.length ≤ L ∧ Gr A C ∧ C[L]? = some (.lst (acc.map D.str)) ∧ ∃ x2 x3 x4 x5 x6, σ = [some p.d, some (.ref L), x2, x3, x4, x5, x6]
  have put : ∀ {acc : List Str} {C : AH} {y : Str} {L : Nat}, A.length ≤ L → Gr A C → C[L]? = some (.lst (acc.map D.str)) → acc.length ≤ 9000 → appendD (.ref L) [.str y] C = .ok .non (C.set L (.lst ((acc ++ [y]).map D.str))) ∧ Gr A (C.set L (.lst ((acc ++ [y]).map D.str))) ∧ (C.set L (.lst ((acc ++ [y]).map D.str)))[L]? = some (.lst ((acc ++ [y]).map D.str)) := fun l G h z => ⟨app1 h (by omega), G.set l, at_set (at_lt h)⟩
  -- records
  refine sat_mid (fun σ B => I (p.recs.map rcL).flatten σ B) ?_ fun σ B ⟨L, lL, GB, hB, x2, x3, x4, x5, x6, hσ⟩ => ?_
  · simp only [EV, Ab.isNon, args, List.map, List.length_cons, List.length_nil, List.length_singleton, List.replicate, Nat.reduceSub, Nat.reduceAdd, Nat.zero_add, List.cons_append, List.nil_append, List.getElem?_cons_zero, List.getElem?_cons_succ, List.set_cons_zero, List.set_cons_succ, Option.some.injEq, decide_eq_true_eq, Bool.not_eq_true', decide_eq_false_iff_not, ite_true, ite_false, if_true, if_false, reduceIte, Bool.false_eq_true, Bool.not_true, Bool.not_false, Bool.true_eq_false, decide_true, decide_false, Nat.reduceLeDiff, Nat.reduceLT, i0, ev_iseq_t]
    refine Sat.imp (loop_acc (N := 9000) rcD rcL I (fun _ _ _ _ => trivial) p.recs (fun r hr acc σ C ⟨L, lL, GC, hC, x2, x3, x4, x5, x6, hσ⟩ z => ?_) [] _ A1 ⟨_, lL, G, hL, _, _, _, _, _, rfl⟩ (by show 0 + _ ≤ _; omega)) fun fl B ⟨σ', e, h⟩ => ⟨σ', e, by simpa using h⟩
    subst hσ
    obtain ⟨n1, n2, n3⟩ := ok.rc r hr
    have zl : (rcL r).length = r.2.length + 2 := by unfold rcL; rw [List.length_append, List.length_append, List.length_map]; show 1 + _ + 1 = _; omega
    simp only [rcD, EV, Ab.isNon, args, List.map, List.length_cons, List.length_nil, List.length_singleton, List.replicate, Nat.reduceSub, Nat.reduceAdd, Nat.zero_add, List.cons_append, List.nil_append, List.getElem?_cons_zero, List.getElem?_cons_succ, List.set_cons_zero, List.set_cons_succ, Option.some.injEq, decide_eq_true_eq, Bool.not_eq_true', decide_eq_false_iff_not, ite_true, ite_false, if_true, if_false, reduceIte, Bool.false_eq_true, Bool.not_true, Bool.not_false, Bool.true_eq_false, decide_true, decide_false, Nat.reduceLeDiff, Nat.reduceLT]
    refine sat_seq ?_
    simp only [EV, Ab.isNon, args, List.map, List.length_cons, List.length_nil, List.length_singleton, List.replicate, Nat.reduceSub, Nat.reduceAdd, Nat.zero_add, List.cons_append, List.nil_append, List.getElem?_cons_zero, List.getElem?_cons_succ, List.set_cons_zero, List.set_cons_succ, Option.some.injEq, decide_eq_true_eq, Bool.not_eq_true', decide_eq_false_iff_not, ite_true, ite_false, if_true, if_false, reduceIte, Bool.false_eq_true, Bool.not_true, Bool.not_false, Bool.true_eq_false, decide_true, decide_false, Nat.reduceLeDiff, Nat.reduceLT, ty_l hC, ixa]
    rw [add_ss (by simp only [str_len]; omega)]
    simp only [EV, Ab.isNon, args, List.map, List.length_cons, List.length_nil, List.length_singleton, List.replicate, Nat.reduceSub, Nat.reduceAdd, Nat.zero_add, List.cons_append, List.nil_append, List.getElem?_cons_zero, List.getElem?_cons_succ, List.set_cons_zero, List.set_cons_succ, Option.some.injEq, decide_eq_true_eq, Bool.not_eq_true', decide_eq_false_iff_not, ite_true, ite_false, if_true, if_false, reduceIte, Bool.false_eq_true, Bool.not_true, Bool.not_false, Bool.true_eq_false, decide_true, decide_false, Nat.reduceLeDiff, Nat.reduceLT]
    obtain ⟨p1, p2, p3⟩ := put (y := "record " ++ r.1) lL GC hC (by omega)
    rw [p1]
    generalize C.set L _ = C1 at *
    simp only [EV, Ab.isNon, args, List.map, List.length_cons, List.length_nil, List.length_singleton, List.replicate, Nat.reduceSub, Nat.reduceAdd, Nat.zero_add, List.cons_append, List.nil_append, List.getElem?_cons_zero, List.getElem?_cons_succ, List.set_cons_zero, List.set_cons_succ, Option.some.injEq, decide_eq_true_eq, Bool.not_eq_true', decide_eq_false_iff_not, ite_true, ite_false, if_true, if_false, reduceIte, Bool.false_eq_true, Bool.not_true, Bool.not_false, Bool.true_eq_false, decide_true, decide_false, Nat.reduceLeDiff, Nat.reduceLT]
    refine sat_mid (fun σ B => Gr A B ∧ B[L]? = some (.lst ((acc ++ (["record " ++ r.1] ++ r.2.map fdT)).map D.str)) ∧ ∃ x2 x3 x4 x5 x6, σ = [some p.d, some (.ref L), x2, x3, x4, x5, x6]) ?_ fun σ B ⟨GB, hB, x2, x3, x4, x5, x6, hσ⟩ => ?_
    · simp only [EV, Ab.isNon, args, List.map, List.length_cons, List.length_nil, List.length_singleton, List.replicate, Nat.reduceSub, Nat.reduceAdd, Nat.zero_add, List.cons_append, List.nil_append, List.getElem?_cons_zero, List.getElem?_cons_succ, List.set_cons_zero, List.set_cons_succ, Option.some.injEq, decide_eq_true_eq, Bool.not_eq_true', decide_eq_false_iff_not, ite_true, ite_false, if_true, if_false, reduceIte, Bool.false_eq_true, Bool.not_true, Bool.not_false, Bool.true_eq_false, decide_true, decide_false, Nat.reduceLeDiff, Nat.reduceLT, ixb, ev_iseq_t]
      refine Sat.imp (loop_acc (N := 9000) prD (fun q => [fdT q]) (fun acc σ C => Gr A C ∧ C[L]? = some (.lst (acc.map D.str)) ∧ ∃ x2 x3 x4 x5 x6, σ = [some p.d, some (.ref L), x2, x3, x4, x5, x6]) (fun _ _ _ _ => trivial) r.2 (fun q hq acc σ C ⟨GC, hC, x2, x3, x4, x5, x6, hσ⟩ z => ?_) (acc ++ ["record " ++ r.1]) _ C1 ⟨p2, p3, _, _, _, _, _, rfl⟩ (by rw [flat_one, List.length_map, List.length_append]; show _ + 1 + _ ≤ _; omega)) fun fl B ⟨σ', e, h⟩ => ⟨σ', e, by rw [flat_one, List.append_assoc] at h; exact h⟩
      subst hσ
      have qo := n3 q hq
      have m1 := qo.nm
      have m2 := qo.len
      have kt : ∀ A, m__law_kind_text [q.2.1] A = .ok (.str q.2.2) A := fun A => (qo.kt A).2
      rw [List.length_singleton] at z
      simp only [prD, EV, Ab.isNon, args, List.map, List.length_cons, List.length_nil, List.length_singleton, List.replicate, Nat.reduceSub, Nat.reduceAdd, Nat.zero_add, List.cons_append, List.nil_append, List.getElem?_cons_zero, List.getElem?_cons_succ, List.set_cons_zero, List.set_cons_succ, Option.some.injEq, decide_eq_true_eq, Bool.not_eq_true', decide_eq_false_iff_not, ite_true, ite_false, if_true, if_false, reduceIte, Bool.false_eq_true, Bool.not_true, Bool.not_false, Bool.true_eq_false, decide_true, decide_false, Nat.reduceLeDiff, Nat.reduceLT, ty_l hC, ixa, ixb]
      rw [add_ss (by simp only [str_len]; omega)]
      simp only [EV, Ab.isNon, args, List.map, List.length_cons, List.length_nil, List.length_singleton, List.replicate, Nat.reduceSub, Nat.reduceAdd, Nat.zero_add, List.cons_append, List.nil_append, List.getElem?_cons_zero, List.getElem?_cons_succ, List.set_cons_zero, List.set_cons_succ, Option.some.injEq, decide_eq_true_eq, Bool.not_eq_true', decide_eq_false_iff_not, ite_true, ite_false, if_true, if_false, reduceIte, Bool.false_eq_true, Bool.not_true, Bool.not_false, Bool.true_eq_false, decide_true, decide_false, Nat.reduceLeDiff, Nat.reduceLT]
      rw [add_ss (by simp only [str_len]; omega)]
      simp only [EV, Ab.isNon, args, List.map, List.length_cons, List.length_nil, List.length_singleton, List.replicate, Nat.reduceSub, Nat.reduceAdd, Nat.zero_add, List.cons_append, List.nil_append, List.getElem?_cons_zero, List.getElem?_cons_succ, List.set_cons_zero, List.set_cons_succ, Option.some.injEq, decide_eq_true_eq, Bool.not_eq_true', decide_eq_false_iff_not, ite_true, ite_false, if_true, if_false, reduceIte, Bool.false_eq_true, Bool.not_true, Bool.not_false, Bool.true_eq_false, decide_true, decide_false, Nat.reduceLeDiff, Nat.reduceLT, kt]
      rw [add_ss (by simp only [str_len]; omega)]
      simp only [EV, Ab.isNon, args, List.map, List.length_cons, List.length_nil, List.length_singleton, List.replicate, Nat.reduceSub, Nat.reduceAdd, Nat.zero_add, List.cons_append, List.nil_append, List.getElem?_cons_zero, List.getElem?_cons_succ, List.set_cons_zero, List.set_cons_succ, Option.some.injEq, decide_eq_true_eq, Bool.not_eq_true', decide_eq_false_iff_not, ite_true, ite_false, if_true, if_false, reduceIte, Bool.false_eq_true, Bool.not_true, Bool.not_false, Bool.true_eq_false, decide_true, decide_false, Nat.reduceLeDiff, Nat.reduceLT]
      obtain ⟨p1, p2, p3⟩ := put (y := fdT q) lL GC hC (by omega)
      rw [show ("  " ++ q.1 ++ ": " ++ q.2.2 : Str) = fdT q from rfl, p1]
      simp only [EV, Ab.isNon, args, List.map, List.length_cons, List.length_nil, List.length_singleton, List.replicate, Nat.reduceSub, Nat.reduceAdd, Nat.zero_add, List.cons_append, List.nil_append, List.getElem?_cons_zero, List.getElem?_cons_succ, List.set_cons_zero, List.set_cons_succ, Option.some.injEq, decide_eq_true_eq, Bool.not_eq_true', decide_eq_false_iff_not, ite_true, ite_false, if_true, if_false, reduceIte, Bool.false_eq_true, Bool.not_true, Bool.not_false, Bool.true_eq_false, decide_true, decide_false, Nat.reduceLeDiff, Nat.reduceLT]
      exact ⟨_, rfl, p2, p3, _, _, _, _, _, rfl⟩
    subst hσ
    simp only [EV, Ab.isNon, args, List.map, List.length_cons, List.length_nil, List.length_singleton, List.replicate, Nat.reduceSub, Nat.reduceAdd, Nat.zero_add, List.cons_append, List.nil_append, List.getElem?_cons_zero, List.getElem?_cons_succ, List.set_cons_zero, List.set_cons_succ, Option.some.injEq, decide_eq_true_eq, Bool.not_eq_true', decide_eq_false_iff_not, ite_true, ite_false, if_true, if_false, reduceIte, Bool.false_eq_true, Bool.not_true, Bool.not_false, Bool.true_eq_false, decide_true, decide_false, Nat.reduceLeDiff, Nat.reduceLT, ty_l hB]
    obtain ⟨p1, p2, p3⟩ := put (y := "end") lL GB hB (by simp; omega)
    rw [p1]
    simp only [EV, Ab.isNon, args, List.map, List.length_cons, List.length_nil, List.length_singleton, List.replicate, Nat.reduceSub, Nat.reduceAdd, Nat.zero_add, List.cons_append, List.nil_append, List.getElem?_cons_zero, List.getElem?_cons_succ, List.set_cons_zero, List.set_cons_succ, Option.some.injEq, decide_eq_true_eq, Bool.not_eq_true', decide_eq_false_iff_not, ite_true, ite_false, if_true, if_false, reduceIte, Bool.false_eq_true, Bool.not_true, Bool.not_false, Bool.true_eq_false, decide_true, decide_false, Nat.reduceLeDiff, Nat.reduceLT]
    exact ⟨_, rfl, L, lL, p2, by refine p3.trans ?_; rw [List.append_assoc]; rfl, _, _, _, _, _, rfl⟩
  subst hσ
  -- arrays
  refine sat_mid (fun σ B => I ((p.recs.map rcL).flatten ++ p.arrs.map raT) σ B) ?_ fun σ B2 ⟨L2, lL2, GB2, hB2, x2, x3, x4, x5, x6, hσ⟩ => ?_
  · simp only [EV, Ab.isNon, args, List.map, List.length_cons, List.length_nil, List.length_singleton, List.replicate, Nat.reduceSub, Nat.reduceAdd, Nat.zero_add, List.cons_append, List.nil_append, List.getElem?_cons_zero, List.getElem?_cons_succ, List.set_cons_zero, List.set_cons_succ, Option.some.injEq, decide_eq_true_eq, Bool.not_eq_true', decide_eq_false_iff_not, ite_true, ite_false, if_true, if_false, reduceIte, Bool.false_eq_true, Bool.not_true, Bool.not_false, Bool.true_eq_false, decide_true, decide_false, Nat.reduceLeDiff, Nat.reduceLT, i1, ev_iseq_t]
    refine Sat.imp (loop_acc (N := 9000) raD (fun a => [raT a]) I (fun _ _ _ _ => trivial) p.arrs (fun a ha acc σ C ⟨L, lL, GC, hC, x2, x3, x4, x5, x6, hσ⟩ z => ?_) _ _ B ⟨L, lL, GB, hB, _, _, _, _, _, rfl⟩ (by rw [flat_one, List.length_map]; omega)) fun fl B ⟨σ', e, h⟩ => ⟨σ', e, by rw [flat_one] at h; exact h⟩
    subst hσ
    obtain ⟨n1, n2, n3, n4⟩ := ok.ar a ha
    have l1 := num_len n2
    have l2 := num_len n3
    have l3 := num_len n4
    have kt : ∀ A, m__law_kind_text [.tup [.str "num", .int a.2.2.1, .int a.2.2.2]] A = .ok (.str ((toString a.2.2.1 : Str) ++ ".." ++ (toString a.2.2.2 : Str))) A := fun A => (kt_num n3 n4 A).2
    rw [List.length_singleton] at z
    simp only [raD, EV, Ab.isNon, args, List.map, List.length_cons, List.length_nil, List.length_singleton, List.replicate, Nat.reduceSub, Nat.reduceAdd, Nat.zero_add, List.cons_append, List.nil_append, List.getElem?_cons_zero, List.getElem?_cons_succ, List.set_cons_zero, List.set_cons_succ, Option.some.injEq, decide_eq_true_eq, Bool.not_eq_true', decide_eq_false_iff_not, ite_true, ite_false, if_true, if_false, reduceIte, Bool.false_eq_true, Bool.not_true, Bool.not_false, Bool.true_eq_false, decide_true, decide_false, Nat.reduceLeDiff, Nat.reduceLT, ty_l hC, ixa, ixb]
    rw [add_ss (by simp only [str_len]; omega)]
    simp only [EV, Ab.isNon, args, List.map, List.length_cons, List.length_nil, List.length_singleton, List.replicate, Nat.reduceSub, Nat.reduceAdd, Nat.zero_add, List.cons_append, List.nil_append, List.getElem?_cons_zero, List.getElem?_cons_succ, List.set_cons_zero, List.set_cons_succ, Option.some.injEq, decide_eq_true_eq, Bool.not_eq_true', decide_eq_false_iff_not, ite_true, ite_false, if_true, if_false, reduceIte, Bool.false_eq_true, Bool.not_true, Bool.not_false, Bool.true_eq_false, decide_true, decide_false, Nat.reduceLeDiff, Nat.reduceLT]
    rw [add_ss (by simp only [str_len]; omega)]
    simp only [EV, Ab.isNon, args, List.map, List.length_cons, List.length_nil, List.length_singleton, List.replicate, Nat.reduceSub, Nat.reduceAdd, Nat.zero_add, List.cons_append, List.nil_append, List.getElem?_cons_zero, List.getElem?_cons_succ, List.set_cons_zero, List.set_cons_succ, Option.some.injEq, decide_eq_true_eq, Bool.not_eq_true', decide_eq_false_iff_not, ite_true, ite_false, if_true, if_false, reduceIte, Bool.false_eq_true, Bool.not_true, Bool.not_false, Bool.true_eq_false, decide_true, decide_false, Nat.reduceLeDiff, Nat.reduceLT, ev_str_i n2]
    rw [add_ss (by simp only [str_len]; omega)]
    simp only [EV, Ab.isNon, args, List.map, List.length_cons, List.length_nil, List.length_singleton, List.replicate, Nat.reduceSub, Nat.reduceAdd, Nat.zero_add, List.cons_append, List.nil_append, List.getElem?_cons_zero, List.getElem?_cons_succ, List.set_cons_zero, List.set_cons_succ, Option.some.injEq, decide_eq_true_eq, Bool.not_eq_true', decide_eq_false_iff_not, ite_true, ite_false, if_true, if_false, reduceIte, Bool.false_eq_true, Bool.not_true, Bool.not_false, Bool.true_eq_false, decide_true, decide_false, Nat.reduceLeDiff, Nat.reduceLT]
    rw [add_ss (by simp only [str_len]; omega)]
    simp only [EV, Ab.isNon, args, List.map, List.length_cons, List.length_nil, List.length_singleton, List.replicate, Nat.reduceSub, Nat.reduceAdd, Nat.zero_add, List.cons_append, List.nil_append, List.getElem?_cons_zero, List.getElem?_cons_succ, List.set_cons_zero, List.set_cons_succ, Option.some.injEq, decide_eq_true_eq, Bool.not_eq_true', decide_eq_false_iff_not, ite_true, ite_false, if_true, if_false, reduceIte, Bool.false_eq_true, Bool.not_true, Bool.not_false, Bool.true_eq_false, decide_true, decide_false, Nat.reduceLeDiff, Nat.reduceLT, ixc, ixd, kt]
    rw [add_ss (by simp only [str_len]; omega)]
    simp only [EV, Ab.isNon, args, List.map, List.length_cons, List.length_nil, List.length_singleton, List.replicate, Nat.reduceSub, Nat.reduceAdd, Nat.zero_add, List.cons_append, List.nil_append, List.getElem?_cons_zero, List.getElem?_cons_succ, List.set_cons_zero, List.set_cons_succ, Option.some.injEq, decide_eq_true_eq, Bool.not_eq_true', decide_eq_false_iff_not, ite_true, ite_false, if_true, if_false, reduceIte, Bool.false_eq_true, Bool.not_true, Bool.not_false, Bool.true_eq_false, decide_true, decide_false, Nat.reduceLeDiff, Nat.reduceLT]
    obtain ⟨p1, p2, p3⟩ := put (y := raT a) lL GC hC (by omega)
    rw [show ("array " ++ a.1 ++ "[" ++ (toString a.2.1 : Str) ++ "]: " ++ ((toString a.2.2.1 : Str) ++ ".." ++ (toString a.2.2.2 : Str)) : Str) = raT a from rfl, p1]
    simp only [EV, Ab.isNon, args, List.map, List.length_cons, List.length_nil, List.length_singleton, List.replicate, Nat.reduceSub, Nat.reduceAdd, Nat.zero_add, List.cons_append, List.nil_append, List.getElem?_cons_zero, List.getElem?_cons_succ, List.set_cons_zero, List.set_cons_succ, Option.some.injEq, decide_eq_true_eq, Bool.not_eq_true', decide_eq_false_iff_not, ite_true, ite_false, if_true, if_false, reduceIte, Bool.false_eq_true, Bool.not_true, Bool.not_false, Bool.true_eq_false, decide_true, decide_false, Nat.reduceLeDiff, Nat.reduceLT]
    exact ⟨_, rfl, L, lL, p2, p3, _, _, _, _, _, rfl⟩
  subst hσ
  -- globals
  refine sat_mid (fun σ B => I ((p.recs.map rcL).flatten ++ p.arrs.map raT ++ p.gl.map glT) σ B) ?_ fun σ B3 ⟨L3, lL3, GB3, hB3, x2, x3, x4, x5, x6, hσ⟩ => ?_
  · simp only [EV, Ab.isNon, args, List.map, List.length_cons, List.length_nil, List.length_singleton, List.replicate, Nat.reduceSub, Nat.reduceAdd, Nat.zero_add, List.cons_append, List.nil_append, List.getElem?_cons_zero, List.getElem?_cons_succ, List.set_cons_zero, List.set_cons_succ, Option.some.injEq, decide_eq_true_eq, Bool.not_eq_true', decide_eq_false_iff_not, ite_true, ite_false, if_true, if_false, reduceIte, Bool.false_eq_true, Bool.not_true, Bool.not_false, Bool.true_eq_false, decide_true, decide_false, Nat.reduceLeDiff, Nat.reduceLT, i2, ev_iseq_t]
    refine Sat.imp (loop_acc (N := 9000) prD (fun q => [glT q]) I (fun _ _ _ _ => trivial) p.gl (fun q hq acc σ C ⟨L, lL, GC, hC, x2, x3, x4, x5, x6, hσ⟩ z => ?_) _ _ B2 ⟨L2, lL2, GB2, hB2, _, _, _, _, _, rfl⟩ (by rw [flat_one, List.length_map, List.length_append, List.length_map]; omega)) fun fl B ⟨σ', e, h⟩ => ⟨σ', e, by rw [flat_one] at h; exact h⟩
    subst hσ
    have qo := ok.gl q hq
    have m1 := qo.nm
    have m2 := qo.len
    have kt : ∀ A, m__law_kind_text [q.2.1] A = .ok (.str q.2.2) A := fun A => (qo.kt A).2
    rw [List.length_singleton] at z
    simp only [prD, EV, Ab.isNon, args, List.map, List.length_cons, List.length_nil, List.length_singleton, List.replicate, Nat.reduceSub, Nat.reduceAdd, Nat.zero_add, List.cons_append, List.nil_append, List.getElem?_cons_zero, List.getElem?_cons_succ, List.set_cons_zero, List.set_cons_succ, Option.some.injEq, decide_eq_true_eq, Bool.not_eq_true', decide_eq_false_iff_not, ite_true, ite_false, if_true, if_false, reduceIte, Bool.false_eq_true, Bool.not_true, Bool.not_false, Bool.true_eq_false, decide_true, decide_false, Nat.reduceLeDiff, Nat.reduceLT, ty_l hC, ixa, ixb]
    rw [add_ss (by simp only [str_len]; omega)]
    simp only [EV, Ab.isNon, args, List.map, List.length_cons, List.length_nil, List.length_singleton, List.replicate, Nat.reduceSub, Nat.reduceAdd, Nat.zero_add, List.cons_append, List.nil_append, List.getElem?_cons_zero, List.getElem?_cons_succ, List.set_cons_zero, List.set_cons_succ, Option.some.injEq, decide_eq_true_eq, Bool.not_eq_true', decide_eq_false_iff_not, ite_true, ite_false, if_true, if_false, reduceIte, Bool.false_eq_true, Bool.not_true, Bool.not_false, Bool.true_eq_false, decide_true, decide_false, Nat.reduceLeDiff, Nat.reduceLT]
    rw [add_ss (by simp only [str_len]; omega)]
    simp only [EV, Ab.isNon, args, List.map, List.length_cons, List.length_nil, List.length_singleton, List.replicate, Nat.reduceSub, Nat.reduceAdd, Nat.zero_add, List.cons_append, List.nil_append, List.getElem?_cons_zero, List.getElem?_cons_succ, List.set_cons_zero, List.set_cons_succ, Option.some.injEq, decide_eq_true_eq, Bool.not_eq_true', decide_eq_false_iff_not, ite_true, ite_false, if_true, if_false, reduceIte, Bool.false_eq_true, Bool.not_true, Bool.not_false, Bool.true_eq_false, decide_true, decide_false, Nat.reduceLeDiff, Nat.reduceLT, kt]
    rw [add_ss (by simp only [str_len]; omega)]
    simp only [EV, Ab.isNon, args, List.map, List.length_cons, List.length_nil, List.length_singleton, List.replicate, Nat.reduceSub, Nat.reduceAdd, Nat.zero_add, List.cons_append, List.nil_append, List.getElem?_cons_zero, List.getElem?_cons_succ, List.set_cons_zero, List.set_cons_succ, Option.some.injEq, decide_eq_true_eq, Bool.not_eq_true', decide_eq_false_iff_not, ite_true, ite_false, if_true, if_false, reduceIte, Bool.false_eq_true, Bool.not_true, Bool.not_false, Bool.true_eq_false, decide_true, decide_false, Nat.reduceLeDiff, Nat.reduceLT]
    obtain ⟨p1, p2, p3⟩ := put (y := glT q) lL GC hC (by omega)
    rw [show ("global " ++ q.1 ++ ": " ++ q.2.2 : Str) = glT q from rfl, p1]
    simp only [EV, Ab.isNon, args, List.map, List.length_cons, List.length_nil, List.length_singleton, List.replicate, Nat.reduceSub, Nat.reduceAdd, Nat.zero_add, List.cons_append, List.nil_append, List.getElem?_cons_zero, List.getElem?_cons_succ, List.set_cons_zero, List.set_cons_succ, Option.some.injEq, decide_eq_true_eq, Bool.not_eq_true', decide_eq_false_iff_not, ite_true, ite_false, if_true, if_false, reduceIte, Bool.false_eq_true, Bool.not_true, Bool.not_false, Bool.true_eq_false, decide_true, decide_false, Nat.reduceLeDiff, Nat.reduceLT]
    exact ⟨_, rfl, L, lL, p2, p3, _, _, _, _, _, rfl⟩
  subst hσ
  -- functions
  refine sat_mid (fun σ B => I p.lines σ B) ?_ fun σ B4 ⟨L4, lL4, GB4, hB4, x2, x3, x4, x5, x6, hσ⟩ => ?_
  · simp only [EV, Ab.isNon, args, List.map, List.length_cons, List.length_nil, List.length_singleton, List.replicate, Nat.reduceSub, Nat.reduceAdd, Nat.zero_add, List.cons_append, List.nil_append, List.getElem?_cons_zero, List.getElem?_cons_succ, List.set_cons_zero, List.set_cons_succ, Option.some.injEq, decide_eq_true_eq, Bool.not_eq_true', decide_eq_false_iff_not, ite_true, ite_false, if_true, if_false, reduceIte, Bool.false_eq_true, Bool.not_true, Bool.not_false, Bool.true_eq_false, decide_true, decide_false, Nat.reduceLeDiff, Nat.reduceLT, i3, ev_iseq_t]
    refine Sat.imp (loop_acc (N := 9000) Ft.d Ft.lines I (fun _ _ _ _ => trivial) p.fns (fun f hf acc σ C ⟨L, lL, GC, hC, x2, x3, x4, x5, x6, hσ⟩ z => ?_) _ _ B3 ⟨L3, lL3, GB3, hB3, _, _, _, _, _, rfl⟩ (by rw [List.length_append, List.length_append, List.length_map, List.length_map]; omega)) fun fl B ⟨σ', e, h⟩ => ⟨σ', e, h⟩
    subst hσ
    simp only [EV, Ab.isNon, args, List.map, List.length_cons, List.length_nil, List.length_singleton, List.replicate, Nat.reduceSub, Nat.reduceAdd, Nat.zero_add, List.cons_append, List.nil_append, List.getElem?_cons_zero, List.getElem?_cons_succ, List.set_cons_zero, List.set_cons_succ, Option.some.injEq, decide_eq_true_eq, Bool.not_eq_true', decide_eq_false_iff_not, ite_true, ite_false, if_true, if_false, reduceIte, Bool.false_eq_true, Bool.not_true, Bool.not_false, Bool.true_eq_false, decide_true, decide_false, Nat.reduceLeDiff, Nat.reduceLT]
    refine Sat.imp (fn_l (ok.fn f hf)) fun v C1 ⟨g1, r, lr, e, hr⟩ => ?_
    subst e
    have hC := g1.keep _ _ hC
    rw [add1 hC hr (by omega) (by omega)]
    simp only [EV, Ab.isNon, args, List.map, List.length_cons, List.length_nil, List.length_singleton, List.replicate, Nat.reduceSub, Nat.reduceAdd, Nat.zero_add, List.cons_append, List.nil_append, List.getElem?_cons_zero, List.getElem?_cons_succ, List.set_cons_zero, List.set_cons_succ, Option.some.injEq, decide_eq_true_eq, Bool.not_eq_true', decide_eq_false_iff_not, ite_true, ite_false, if_true, if_false, reduceIte, Bool.false_eq_true, Bool.not_true, Bool.not_false, Bool.true_eq_false, decide_true, decide_false, Nat.reduceLeDiff, Nat.reduceLT]
    exact ⟨_, rfl, _, (GC.trans g1).le, (GC.trans g1).trans .app, at_new, _, _, _, _, _, rfl⟩
  subst hσ
  simp only [EV, Ab.isNon, args, List.map, List.length_cons, List.length_nil, List.length_singleton, List.replicate, Nat.reduceSub, Nat.reduceAdd, Nat.zero_add, List.cons_append, List.nil_append, List.getElem?_cons_zero, List.getElem?_cons_succ, List.set_cons_zero, List.set_cons_succ, Option.some.injEq, decide_eq_true_eq, Bool.not_eq_true', decide_eq_false_iff_not, ite_true, ite_false, if_true, if_false, reduceIte, Bool.false_eq_true, Bool.not_true, Bool.not_false, Bool.true_eq_false, decide_true, decide_false, Nat.reduceLeDiff, Nat.reduceLT]
  exact ⟨GB4, L4, lL4, rfl, hB4⟩
end Law

namespace Law
open PySem PySem.Spec PyProof.Rows L2 Ab
open scoped Classical
/-! ### the world of a drawing -/
structure Wv (s w nm lf : Nat) (kvs : List (Key × D)) (ns : List Str) (A : AH) : Prop where
  sr : Sr s A
  ws : w ≠ s
  ms : nm ≠ s
  mw : nm ≠ w
  hw : A[w]? = some (.dic kvs)
  g1 : getK kvs (.inr "names") = some (.ref nm)
  g2 : ∃ v : Int, getK kvs (.inr "long") = some (.int v) ∧ 1 ≤ v ∧ v ≤ 12
  g3 : ∃ v : Int, getK kvs (.inr "side") = some (.int v) ∧ 1 ≤ v ∧ v ≤ 31623
  g4 : ∃ v : Nat, getK kvs (.inr "deep") = some (.int (v : Nat)) ∧ v ≤ 3
  g5 : getK kvs (.inr "left") = some (.int (lf : Nat))
  hn : A[nm]? = some (.lst (ns.map D.str))
  nl : ∀ x ∈ ns, x.length ≤ 40
  nc : ns.length ≤ 10
  kl : kvs.length ≤ 10
def Wt (s w lf : Nat) (A : AH) : Prop := ∃ nm kvs ns, Wv s w nm lf kvs ns A
theorem Wv.dr {s w nm lf : Nat} {kvs : List (Key × D)} {ns : List Str} {A B : AH} (h : Wv s w nm lf kvs ns A) (d : Dr s A B) : Wv s w nm lf kvs ns B := ⟨d.src, h.ws, h.ms, h.mw, d.keep _ _ h.ws h.hw, h.g1, h.g2, h.g3, h.g4, h.g5, d.keep _ _ h.ms h.hn, h.nl, h.nc, h.kl⟩
theorem Wt.dr {s w lf : Nat} {A B : AH} (h : Wt s w lf A) (d : Dr s A B) : Wt s w lf B := by obtain ⟨nm, kvs, ns, h⟩ := h; exact ⟨nm, kvs, ns, h.dr d⟩
theorem Wt.sr {s w lf : Nat} {A : AH} (h : Wt s w lf A) : Sr s A := by obtain ⟨nm, kvs, ns, h⟩ := h; exact h.sr
section
variable {s w lf : Nat} {A : AH}
theorem number_spec (h : Wt s w lf A) : DrwS s A (m__law_number [.ref s, .ref w] A) fun d => ∃ v : Int, d = .int v ∧ v.natAbs < 10 ^ 12 := by
  obtain ⟨nm, kvs, ns, h⟩ := h
  obtain ⟨S, hS, S1, S2⟩ := h.g3
  have w_side : ∀ {A : AH}, Wv s w nm lf kvs ns A → ixD (.ref w) (.str "side") A = .ok (.int S) A := fun h => ixk h.hw hS
  refine sat_body rfl (sat_seq ?_)
  simp only [EV, Ab.isNon, args, List.map, List.length_cons, List.length_nil, List.length_singleton, List.replicate, Nat.reduceSub, Nat.reduceAdd, Nat.zero_add, List.cons_append, List.nil_append, List.getElem?_cons_zero, List.getElem?_cons_succ, List.set_cons_zero, List.set_cons_succ, Option.some.injEq, decide_eq_true_eq, Bool.not_eq_true', decide_eq_false_iff_not, ite_true, ite_false, if_true, if_false, reduceIte, Bool.false_eq_true, Bool.not_true, Bool.not_false, Bool.true_eq_false, decide_true, decide_false, Nat.reduceLeDiff, Nat.reduceLT]
  refine Sat.imp (pick_pos h.sr (n := 4) (by decide) (by decide)) fun d A1 ⟨⟨v, e, h1, h2⟩, dr⟩ => ?_
  subst e
  have h := h.dr dr
  refine sat_seq ?_
  simp only [EV, Ab.isNon, args, List.map, List.length_cons, List.length_nil, List.length_singleton, List.replicate, Nat.reduceSub, Nat.reduceAdd, Nat.zero_add, List.cons_append, List.nil_append, List.getElem?_cons_zero, List.getElem?_cons_succ, List.set_cons_zero, List.set_cons_succ, Option.some.injEq, decide_eq_true_eq, Bool.not_eq_true', decide_eq_false_iff_not, ite_true, ite_false, if_true, if_false, reduceIte, Bool.false_eq_true, Bool.not_true, Bool.not_false, Bool.true_eq_false, decide_true, decide_false, Nat.reduceLeDiff, Nat.reduceLT]
  split
  · refine Sat.imp (pick_pos h.sr (n := 21) (by decide) (by decide)) fun d A2 ⟨⟨u, e, h3, h4⟩, dr2⟩ => ?_
    subst e
    simp only [EV, Ab.isNon, args, List.map, List.length_cons, List.length_nil, List.length_singleton, List.replicate, Nat.reduceSub, Nat.reduceAdd, Nat.zero_add, List.cons_append, List.nil_append, List.getElem?_cons_zero, List.getElem?_cons_succ, List.set_cons_zero, List.set_cons_succ, Option.some.injEq, decide_eq_true_eq, Bool.not_eq_true', decide_eq_false_iff_not, ite_true, ite_false, if_true, if_false, reduceIte, Bool.false_eq_true, Bool.not_true, Bool.not_false, Bool.true_eq_false, decide_true, decide_false, Nat.reduceLeDiff, Nat.reduceLT]
    exact ⟨⟨_, rfl, by omega⟩, dr.trans dr2⟩
  refine sat_seq ?_
  simp only [EV, Ab.isNon, args, List.map, List.length_cons, List.length_nil, List.length_singleton, List.replicate, Nat.reduceSub, Nat.reduceAdd, Nat.zero_add, List.cons_append, List.nil_append, List.getElem?_cons_zero, List.getElem?_cons_succ, List.set_cons_zero, List.set_cons_succ, Option.some.injEq, decide_eq_true_eq, Bool.not_eq_true', decide_eq_false_iff_not, ite_true, ite_false, if_true, if_false, reduceIte, Bool.false_eq_true, Bool.not_true, Bool.not_false, Bool.true_eq_false, decide_true, decide_false, Nat.reduceLeDiff, Nat.reduceLT, w_side h]
  refine Sat.imp (pick_pos h.sr (n := S) (by omega) (by omega)) fun d A2 ⟨⟨u, e, h3, h4⟩, dr2⟩ => ?_
  subst e
  have h := h.dr dr2
  have m : mulOk u S := mulOk_r (by omega) (by omega)
  simp only [EV, Ab.isNon, args, List.map, List.length_cons, List.length_nil, List.length_singleton, List.replicate, Nat.reduceSub, Nat.reduceAdd, Nat.zero_add, List.cons_append, List.nil_append, List.getElem?_cons_zero, List.getElem?_cons_succ, List.set_cons_zero, List.set_cons_succ, Option.some.injEq, decide_eq_true_eq, Bool.not_eq_true', decide_eq_false_iff_not, ite_true, ite_false, if_true, if_false, reduceIte, Bool.false_eq_true, Bool.not_true, Bool.not_false, Bool.true_eq_false, decide_true, decide_false, Nat.reduceLeDiff, Nat.reduceLT, w_side h, m]
  refine Sat.imp (pick_pos h.sr (n := S) (by omega) (by omega)) fun d A3 ⟨⟨u2, e, h5, h6⟩, dr3⟩ => ?_
  subst e
  have dr3 := dr.trans (dr2.trans dr3)
  have e9 : CPow 10 9 := powOk (by decide) (by decide) (by decide)
  simp only [EV, Ab.isNon, args, List.map, List.length_cons, List.length_nil, List.length_singleton, List.replicate, Nat.reduceSub, Nat.reduceAdd, Nat.zero_add, List.cons_append, List.nil_append, List.getElem?_cons_zero, List.getElem?_cons_succ, List.set_cons_zero, List.set_cons_succ, Option.some.injEq, decide_eq_true_eq, Bool.not_eq_true', decide_eq_false_iff_not, ite_true, ite_false, if_true, if_false, reduceIte, Bool.false_eq_true, Bool.not_true, Bool.not_false, Bool.true_eq_false, decide_true, decide_false, Nat.reduceLeDiff, Nat.reduceLT, e9]
  have us : 0 ≤ u * S := Int.mul_nonneg h3 (by omega)
  generalize u * S = us0 at us ⊢
  obtain ⟨x, hx, hx2⟩ : ∃ x : Int, (if (10 : Int) ^ Int.toNat 9 < us0 + u2 then (10 : Int) ^ Int.toNat 9 else us0 + u2) = x ∧ x.natAbs < 10 ^ 12 := ⟨_, rfl, by
    rw [show (10 : Int) ^ Int.toNat 9 = 1000000000 by decide]
    split <;> omega⟩
  rw [hx]
  have : v = 2 ∨ v = 3 := by omega
  rcases this with rfl | rfl
  · rw [ev_ix_r (x := .int x) (rdL_l at_new) (by rw [atI_pos (by decide)]; rfl)]
    exact ⟨⟨_, rfl, hx2⟩, dr3.trans (Dr.app dr3.src _)⟩
  · rw [ev_ix_r (x := .int (-x)) (rdL_l at_new) (by rw [atI_pos (by decide)]; rfl)]
    exact ⟨⟨_, rfl, by omega⟩, dr3.trans (Dr.app dr3.src _)⟩
theorem reserved_spec : Sat (m__law_reserved [] A) fun d A' => Gr A A' ∧ ∃ (r : Nat) (xs : List Str), d = .ref r ∧ A'[r]? = some (.lst (xs.map D.str)) := by
  refine sat_body rfl (sat_seq ?_)
  simp only [EV, Ab.isNon, args, List.map, List.length_cons, List.length_nil, List.length_singleton, List.replicate, Nat.reduceSub, Nat.reduceAdd, Nat.zero_add, List.cons_append, List.nil_append, List.getElem?_cons_zero, List.getElem?_cons_succ, List.set_cons_zero, List.set_cons_succ, Option.some.injEq, decide_eq_true_eq, Bool.not_eq_true', decide_eq_false_iff_not, ite_true, ite_false, if_true, if_false, reduceIte, Bool.false_eq_true, Bool.not_true, Bool.not_false, Bool.true_eq_false, decide_true, decide_false, Nat.reduceLeDiff, Nat.reduceLT]
  rw [ev_add_rr (muL_l (Gr.app.keep _ _ at_new)) (muL_l at_new) (sl_le (by simp))]
  refine ⟨Gr.app.trans (Gr.app.trans .app), _, ["record", "end", "array", "global", "def", "var", "flag", "input", "new", "free", "return", "if", "else", "while", "break", "assert", "null", "true", "false", "not", "and", "or", "same", "result"], rfl, at_new⟩
theorem in_strs {r : Nat} {xs : List Str} {x : Str} (h : A[r]? = some (.lst (xs.map D.str))) : ∃ b, inD (.str x) (.ref r) A = .ok (.bl b) A := by
  obtain ⟨us, hu⟩ : ∃ us, toVs (xs.map D.str) = some us := by
    clear h
    induction xs with
    | nil => exact ⟨_, rfl⟩
    | cons x xs ih => obtain ⟨us, e⟩ := ih; exact ⟨.str x :: us, by simp only [List.map_cons, toVs, toV, e]⟩
  have e : inB (.str x) (.ref r) A = some (inV (.str x) us) := by
    have k : rdK A (.ref r) = none := by simp only [rdK, h]
    have s : rdS A (.ref r) = some (xs.map D.str) := rdL_l h
    simp only [inB, k, s, hu, toV]
  exact ⟨_, by unfold inD; rw [e]; rfl⟩
theorem name_spec (h : Wt s w lf A) : DrwS s A (m__law_name [.ref s, .ref w] A) fun d => ∃ x : Str, d = .str x ∧ x.length ≤ 40 := by
  obtain ⟨nm, kvs, ns, h⟩ := h
  obtain ⟨L, hL, L1, L2⟩ := h.g2
  have w_long : ∀ {A : AH}, Wv s w nm lf kvs ns A → ixD (.ref w) (.str "long") A = .ok (.int L) A := fun h => ixk h.hw hL
  refine sat_body rfl (sat_seq ?_)
  simp only [EV, Ab.isNon, args, List.map, List.length_cons, List.length_nil, List.length_singleton, List.replicate, Nat.reduceSub, Nat.reduceAdd, Nat.zero_add, List.cons_append, List.nil_append, List.getElem?_cons_zero, List.getElem?_cons_succ, List.set_cons_zero, List.set_cons_succ, Option.some.injEq, decide_eq_true_eq, Bool.not_eq_true', decide_eq_false_iff_not, ite_true, ite_false, if_true, if_false, reduceIte, Bool.false_eq_true, Bool.not_true, Bool.not_false, Bool.true_eq_false, decide_true, decide_false, Nat.reduceLeDiff, Nat.reduceLT]
  refine Sat.imp (pick_pos h.sr (n := 4) (by decide) (by decide)) fun d A1 ⟨⟨v, e, h1, h2⟩, dr⟩ => ?_
  subst e
  have h := h.dr dr
  refine sat_seq ?_
  have step : Sat (fIfS (fTB (fOp eqD (fV 2) (fC (.int 3)))) (fSet (fOwn 2 m__law_pick (fCons (fV 0) (fCons (fOp ixD (fV 1) (fC (.str "long"))) (fNil)))) 2) (fPass)
      [some (.ref s), some (.ref w), some (.int v), none, none] A1) fun fl A2 => Dr s A A2 ∧ ∃ v : Int, fl = .nx [some (.ref s), some (.ref w), some (.int v), none, none] ∧ 0 ≤ v ∧ v ≤ 12 := by
    simp only [EV, Ab.isNon, args, List.map, List.length_cons, List.length_nil, List.length_singleton, List.replicate, Nat.reduceSub, Nat.reduceAdd, Nat.zero_add, List.cons_append, List.nil_append, List.getElem?_cons_zero, List.getElem?_cons_succ, List.set_cons_zero, List.set_cons_succ, Option.some.injEq, decide_eq_true_eq, Bool.not_eq_true', decide_eq_false_iff_not, ite_true, ite_false, if_true, if_false, reduceIte, Bool.false_eq_true, Bool.not_true, Bool.not_false, Bool.true_eq_false, decide_true, decide_false, Nat.reduceLeDiff, Nat.reduceLT]
    split
    · simp only [w_long h, EV, Ab.isNon, args, List.map, List.length_cons, List.length_nil, List.length_singleton, List.replicate, Nat.reduceSub, Nat.reduceAdd, Nat.zero_add, List.cons_append, List.nil_append, List.getElem?_cons_zero, List.getElem?_cons_succ, List.set_cons_zero, List.set_cons_succ, Option.some.injEq, decide_eq_true_eq, Bool.not_eq_true', decide_eq_false_iff_not, ite_true, ite_false, if_true, if_false, reduceIte, Bool.false_eq_true, Bool.not_true, Bool.not_false, Bool.true_eq_false, decide_true, decide_false, Nat.reduceLeDiff, Nat.reduceLT]
      refine Sat.imp (pick_pos h.sr (n := L) (by omega) (by omega)) fun d A2 ⟨⟨u, e, h3, h4⟩, dr2⟩ => ?_
      subst e
      exact ⟨dr.trans dr2, u, rfl, h3, by omega⟩
    · exact ⟨dr, v, rfl, h1, by omega⟩
  refine Sat.imp step fun fl A2 ⟨dr2, v, e, h1, h2⟩ => ?_
  subst e
  refine sat_seq ?_
  simp only [EV, Ab.isNon, args, List.map, List.length_cons, List.length_nil, List.length_singleton, List.replicate, Nat.reduceSub, Nat.reduceAdd, Nat.zero_add, List.cons_append, List.nil_append, List.getElem?_cons_zero, List.getElem?_cons_succ, List.set_cons_zero, List.set_cons_succ, Option.some.injEq, decide_eq_true_eq, Bool.not_eq_true', decide_eq_false_iff_not, ite_true, ite_false, if_true, if_false, reduceIte, Bool.false_eq_true, Bool.not_true, Bool.not_false, Bool.true_eq_false, decide_true, decide_false, Nat.reduceLeDiff, Nat.reduceLT]
  refine Sat.imp (pick_pos dr2.src (n := 26) (by decide) (by decide)) fun d A3 ⟨⟨u, e, h3, h4⟩, dr3⟩ => ?_
  subst e
  have dr3 := dr2.trans dr3
  have one : ∀ (z : Str) (u : Int) (A : AH), 0 ≤ u → u < z.length → z.length ≤ 1000 → ∃ c, ixD (.str z) (.int u) A = .ok (.str ⟨#[c]⟩) A := fun z u A h0 hu hz => by
    have hv : u.toNat < z.cps.toList.length := by rw [Array.length_toList]; show u.toNat < z.length; omega
    exact ⟨_, ev_ix_s (sl_le (by omega)) (by rw [atI_pos h0, List.getElem?_eq_getElem hv])⟩
  obtain ⟨c, hc⟩ := one "abcdefghijklmnopqrstuvwxyz" u A3 h3 h4 (by decide)
  simp only [EV, Ab.isNon, args, List.map, List.length_cons, List.length_nil, List.length_singleton, List.replicate, Nat.reduceSub, Nat.reduceAdd, Nat.zero_add, List.cons_append, List.nil_append, List.getElem?_cons_zero, List.getElem?_cons_succ, List.set_cons_zero, List.set_cons_succ, Option.some.injEq, decide_eq_true_eq, Bool.not_eq_true', decide_eq_false_iff_not, ite_true, ite_false, if_true, if_false, reduceIte, Bool.false_eq_true, Bool.not_true, Bool.not_false, Bool.true_eq_false, decide_true, decide_false, Nat.reduceLeDiff, Nat.reduceLT, hc]
  refine sat_seq ?_
  simp only [EV, Ab.isNon, args, List.map, List.length_cons, List.length_nil, List.length_singleton, List.replicate, Nat.reduceSub, Nat.reduceAdd, Nat.zero_add, List.cons_append, List.nil_append, List.getElem?_cons_zero, List.getElem?_cons_succ, List.set_cons_zero, List.set_cons_succ, Option.some.injEq, decide_eq_true_eq, Bool.not_eq_true', decide_eq_false_iff_not, ite_true, ite_false, if_true, if_false, reduceIte, Bool.false_eq_true, Bool.not_true, Bool.not_false, Bool.true_eq_false, decide_true, decide_false, Nat.reduceLeDiff, Nat.reduceLT]
  rw [if_pos (inRg_of (by omega) (by omega))]
  refine range_inv (fun k σ B => Dr s A B ∧ ∃ x y, σ = [some (.ref s), some (.ref w), some (.int v), some (.str x), y] ∧ x.length = k + 1) (fun k σ B hk ⟨G, x, y, hσ, hx⟩ => ?_) (fun σ B ⟨G, x, y, hσ, hx⟩ => ?_) ⟨dr3, _, none, rfl, rfl⟩
  · subst hσ
    simp only [EV, Ab.isNon, args, List.map, List.length_cons, List.length_nil, List.length_singleton, List.replicate, Nat.reduceSub, Nat.reduceAdd, Nat.zero_add, List.cons_append, List.nil_append, List.getElem?_cons_zero, List.getElem?_cons_succ, List.set_cons_zero, List.set_cons_succ, Option.some.injEq, decide_eq_true_eq, Bool.not_eq_true', decide_eq_false_iff_not, ite_true, ite_false, if_true, if_false, reduceIte, Bool.false_eq_true, Bool.not_true, Bool.not_false, Bool.true_eq_false, decide_true, decide_false, Nat.reduceLeDiff, Nat.reduceLT]
    refine Sat.imp (pick_pos G.src (n := 36) (by decide) (by decide)) fun d B2 ⟨⟨u, e, h3, h4⟩, dr4⟩ => ?_
    subst e
    obtain ⟨c, hc⟩ := one "abcdefghijklmnopqrstuvwxyz0123456789" u B2 h3 h4 (by decide)
    have z : (x ++ (⟨#[c]⟩ : Str)).length = x.length + 1 := str_len x ⟨#[c]⟩
    simp only [EV, Ab.isNon, args, List.map, List.length_cons, List.length_nil, List.length_singleton, List.replicate, Nat.reduceSub, Nat.reduceAdd, Nat.zero_add, List.cons_append, List.nil_append, List.getElem?_cons_zero, List.getElem?_cons_succ, List.set_cons_zero, List.set_cons_succ, Option.some.injEq, decide_eq_true_eq, Bool.not_eq_true', decide_eq_false_iff_not, ite_true, ite_false, if_true, if_false, reduceIte, Bool.false_eq_true, Bool.not_true, Bool.not_false, Bool.true_eq_false, decide_true, decide_false, Nat.reduceLeDiff, Nat.reduceLT, hc]
    rw [add_ss (by omega)]
    simp only [EV, Ab.isNon, args, List.map, List.length_cons, List.length_nil, List.length_singleton, List.replicate, Nat.reduceSub, Nat.reduceAdd, Nat.zero_add, List.cons_append, List.nil_append, List.getElem?_cons_zero, List.getElem?_cons_succ, List.set_cons_zero, List.set_cons_succ, Option.some.injEq, decide_eq_true_eq, Bool.not_eq_true', decide_eq_false_iff_not, ite_true, ite_false, if_true, if_false, reduceIte, Bool.false_eq_true, Bool.not_true, Bool.not_false, Bool.true_eq_false, decide_true, decide_false, Nat.reduceLeDiff, Nat.reduceLT, turn_]
    exact ⟨G.trans dr4, _, _, rfl, by omega⟩
  · subst hσ
    simp only [EV, Ab.isNon, args, List.map, List.length_cons, List.length_nil, List.length_singleton, List.replicate, Nat.reduceSub, Nat.reduceAdd, Nat.zero_add, List.cons_append, List.nil_append, List.getElem?_cons_zero, List.getElem?_cons_succ, List.set_cons_zero, List.set_cons_succ, Option.some.injEq, decide_eq_true_eq, Bool.not_eq_true', decide_eq_false_iff_not, ite_true, ite_false, if_true, if_false, reduceIte, Bool.false_eq_true, Bool.not_true, Bool.not_false, Bool.true_eq_false, decide_true, decide_false, Nat.reduceLeDiff, Nat.reduceLT]
    refine sat_seq ?_
    simp only [EV, Ab.isNon, args, List.map, List.length_cons, List.length_nil, List.length_singleton, List.replicate, Nat.reduceSub, Nat.reduceAdd, Nat.zero_add, List.cons_append, List.nil_append, List.getElem?_cons_zero, List.getElem?_cons_succ, List.set_cons_zero, List.set_cons_succ, Option.some.injEq, decide_eq_true_eq, Bool.not_eq_true', decide_eq_false_iff_not, ite_true, ite_false, if_true, if_false, reduceIte, Bool.false_eq_true, Bool.not_true, Bool.not_false, Bool.true_eq_false, decide_true, decide_false, Nat.reduceLeDiff, Nat.reduceLT]
    refine Sat.imp reserved_spec fun d B2 ⟨G2, r, xs, e, hr⟩ => ?_
    subst e
    have G := G.trans (G2.dr G.src)
    obtain ⟨b, hb⟩ := in_strs (x := x) hr
    simp only [EV, Ab.isNon, args, List.map, List.length_cons, List.length_nil, List.length_singleton, List.replicate, Nat.reduceSub, Nat.reduceAdd, Nat.zero_add, List.cons_append, List.nil_append, List.getElem?_cons_zero, List.getElem?_cons_succ, List.set_cons_zero, List.set_cons_succ, Option.some.injEq, decide_eq_true_eq, Bool.not_eq_true', decide_eq_false_iff_not, ite_true, ite_false, if_true, if_false, reduceIte, Bool.false_eq_true, Bool.not_true, Bool.not_false, Bool.true_eq_false, decide_true, decide_false, Nat.reduceLeDiff, Nat.reduceLT, hb]
    cases b with
    | true =>
      simp only [EV, Ab.isNon, args, List.map, List.length_cons, List.length_nil, List.length_singleton, List.replicate, Nat.reduceSub, Nat.reduceAdd, Nat.zero_add, List.cons_append, List.nil_append, List.getElem?_cons_zero, List.getElem?_cons_succ, List.set_cons_zero, List.set_cons_succ, Option.some.injEq, decide_eq_true_eq, Bool.not_eq_true', decide_eq_false_iff_not, ite_true, ite_false, if_true, if_false, reduceIte, Bool.false_eq_true, Bool.not_true, Bool.not_false, Bool.true_eq_false, decide_true, decide_false, Nat.reduceLeDiff, Nat.reduceLT]
      rw [add_ss (by rw [str_len]; show x.length + 1 ≤ _; omega)]
      exact ⟨⟨_, rfl, by rw [str_len]; show x.length + 1 ≤ _; omega⟩, G⟩
    | false =>
      simp only [EV, Ab.isNon, args, List.map, List.length_cons, List.length_nil, List.length_singleton, List.replicate, Nat.reduceSub, Nat.reduceAdd, Nat.zero_add, List.cons_append, List.nil_append, List.getElem?_cons_zero, List.getElem?_cons_succ, List.set_cons_zero, List.set_cons_succ, Option.some.injEq, decide_eq_true_eq, Bool.not_eq_true', decide_eq_false_iff_not, ite_true, ite_false, if_true, if_false, reduceIte, Bool.false_eq_true, Bool.not_true, Bool.not_false, Bool.true_eq_false, decide_true, decide_false, Nat.reduceLeDiff, Nat.reduceLT]
      exact ⟨⟨_, rfl, by omega⟩, G⟩
theorem word_spec (h : Wt s w lf A) : DrwS s A (m__law_word [.ref s, .ref w] A) fun d => ∃ x : Str, d = .str x ∧ x.length ≤ 40 := by
  have hw := h
  obtain ⟨nm, kvs, ns, h⟩ := h
  have w_names : ∀ {A : AH}, Wv s w nm lf kvs ns A → ixD (.ref w) (.str "names") A = .ok (.ref nm) A := fun h => ixk h.hw h.g1
  have ln : ∀ {A : AH}, Wv s w nm lf kvs ns A → lenD [.ref nm] A = .ok (.int (ns.length : Nat)) A := fun h => by rw [ev_len_r (rdL_l h.hn), List.length_map]
  have nc := h.nc
  refine sat_body rfl (sat_seq ?_)
  simp only [EV, Ab.isNon, args, List.map, List.length_cons, List.length_nil, List.length_singleton, List.replicate, Nat.reduceSub, Nat.reduceAdd, Nat.zero_add, List.cons_append, List.nil_append, List.getElem?_cons_zero, List.getElem?_cons_succ, List.set_cons_zero, List.set_cons_succ, Option.some.injEq, decide_eq_true_eq, Bool.not_eq_true', decide_eq_false_iff_not, ite_true, ite_false, if_true, if_false, reduceIte, Bool.false_eq_true, Bool.not_true, Bool.not_false, Bool.true_eq_false, decide_true, decide_false, Nat.reduceLeDiff, Nat.reduceLT, w_names h, ln h]
  refine Sat.imp (pick_pos h.sr (n := (ns.length : Nat) + 1) (by omega) (by omega)) fun d A1 ⟨⟨v, e, h1, h2⟩, dr⟩ => ?_
  subst e
  have h := h.dr dr
  refine sat_seq ?_
  simp only [EV, Ab.isNon, args, List.map, List.length_cons, List.length_nil, List.length_singleton, List.replicate, Nat.reduceSub, Nat.reduceAdd, Nat.zero_add, List.cons_append, List.nil_append, List.getElem?_cons_zero, List.getElem?_cons_succ, List.set_cons_zero, List.set_cons_succ, Option.some.injEq, decide_eq_true_eq, Bool.not_eq_true', decide_eq_false_iff_not, ite_true, ite_false, if_true, if_false, reduceIte, Bool.false_eq_true, Bool.not_true, Bool.not_false, Bool.true_eq_false, decide_true, decide_false, Nat.reduceLeDiff, Nat.reduceLT, w_names h, ln h]
  by_cases hv : v < (ns.length : Nat)
  · simp only [hv, EV, Ab.isNon, args, List.map, List.length_cons, List.length_nil, List.length_singleton, List.replicate, Nat.reduceSub, Nat.reduceAdd, Nat.zero_add, List.cons_append, List.nil_append, List.getElem?_cons_zero, List.getElem?_cons_succ, List.set_cons_zero, List.set_cons_succ, Option.some.injEq, decide_eq_true_eq, Bool.not_eq_true', decide_eq_false_iff_not, ite_true, ite_false, if_true, if_false, reduceIte, Bool.false_eq_true, Bool.not_true, Bool.not_false, Bool.true_eq_false, decide_true, decide_false, Nat.reduceLeDiff, Nat.reduceLT, w_names h]
    have lt : v.toNat < ns.length := by omega
    rw [ev_ix_r (x := .str ns[v.toNat]) (rdL_l h.hn) (by rw [atI_pos h1, List.getElem?_map, List.getElem?_eq_getElem lt]; rfl)]
    exact ⟨⟨_, rfl, h.nl _ (List.getElem_mem lt)⟩, dr⟩
  · simp only [hv, EV, Ab.isNon, args, List.map, List.length_cons, List.length_nil, List.length_singleton, List.replicate, Nat.reduceSub, Nat.reduceAdd, Nat.zero_add, List.cons_append, List.nil_append, List.getElem?_cons_zero, List.getElem?_cons_succ, List.set_cons_zero, List.set_cons_succ, Option.some.injEq, decide_eq_true_eq, Bool.not_eq_true', decide_eq_false_iff_not, ite_true, ite_false, if_true, if_false, reduceIte, Bool.false_eq_true, Bool.not_true, Bool.not_false, Bool.true_eq_false, decide_true, decide_false, Nat.reduceLeDiff, Nat.reduceLT]
    exact Sat.imp (name_spec (hw.dr dr)) fun d A2 ⟨h3, dr2⟩ => ⟨h3, dr.trans dr2⟩
theorem leaf_spec (h : Wt s w lf A) {n : Nat} {c i : Int} {f g : FM} (h0 : 0 ≤ c) (h4 : c < 4) : DrwS s A (body 4 6 (p__law_node f g) [.ref s, .ref w, .int c, .int i] A) fun d => ∃ t, Ex n d t := by
  refine sat_body rfl (sat_seq ?_)
  simp only [EV, Ab.isNon, args, List.map, List.length_cons, List.length_nil, List.length_singleton, List.replicate, Nat.reduceSub, Nat.reduceAdd, Nat.zero_add, List.cons_append, List.nil_append, List.getElem?_cons_zero, List.getElem?_cons_succ, List.set_cons_zero, List.set_cons_succ, Option.some.injEq, decide_eq_true_eq, Bool.not_eq_true', decide_eq_false_iff_not, ite_true, ite_false, if_true, if_false, reduceIte, Bool.false_eq_true, Bool.not_true, Bool.not_false, Bool.true_eq_false, decide_true, decide_false, Nat.reduceLeDiff, Nat.reduceLT]
  by_cases e0 : c = 0
  · rw [if_pos e0]
    refine Sat.imp (number_spec h) fun d A1 ⟨⟨v, e, hv⟩, dr⟩ => ?_
    subst e
    exact ⟨⟨_, .num n v hv⟩, dr⟩
  rw [if_neg e0]
  refine sat_seq ?_
  simp only [EV, Ab.isNon, args, List.map, List.length_cons, List.length_nil, List.length_singleton, List.replicate, Nat.reduceSub, Nat.reduceAdd, Nat.zero_add, List.cons_append, List.nil_append, List.getElem?_cons_zero, List.getElem?_cons_succ, List.set_cons_zero, List.set_cons_succ, Option.some.injEq, decide_eq_true_eq, Bool.not_eq_true', decide_eq_false_iff_not, ite_true, ite_false, if_true, if_false, reduceIte, Bool.false_eq_true, Bool.not_true, Bool.not_false, Bool.true_eq_false, decide_true, decide_false, Nat.reduceLeDiff, Nat.reduceLT]
  by_cases e1 : c = 1
  · rw [if_pos e1]
    refine Sat.imp (word_spec h) fun d A1 ⟨⟨v, e, hv⟩, dr⟩ => ?_
    subst e
    exact ⟨⟨_, .name n v hv⟩, dr⟩
  rw [if_neg e1]
  refine sat_seq ?_
  simp only [EV, Ab.isNon, args, List.map, List.length_cons, List.length_nil, List.length_singleton, List.replicate, Nat.reduceSub, Nat.reduceAdd, Nat.zero_add, List.cons_append, List.nil_append, List.getElem?_cons_zero, List.getElem?_cons_succ, List.set_cons_zero, List.set_cons_succ, Option.some.injEq, decide_eq_true_eq, Bool.not_eq_true', decide_eq_false_iff_not, ite_true, ite_false, if_true, if_false, reduceIte, Bool.false_eq_true, Bool.not_true, Bool.not_false, Bool.true_eq_false, decide_true, decide_false, Nat.reduceLeDiff, Nat.reduceLT]
  by_cases e2 : c = 2
  · rw [if_pos e2]
    refine Sat.imp (pick_pos h.sr (n := 2) (by decide) (by decide)) fun d A1 ⟨⟨v, e, h1, h2⟩, dr⟩ => ?_
    subst e
    simp only [EV, Ab.isNon, args, List.map, List.length_cons, List.length_nil, List.length_singleton, List.replicate, Nat.reduceSub, Nat.reduceAdd, Nat.zero_add, List.cons_append, List.nil_append, List.getElem?_cons_zero, List.getElem?_cons_succ, List.set_cons_zero, List.set_cons_succ, Option.some.injEq, decide_eq_true_eq, Bool.not_eq_true', decide_eq_false_iff_not, ite_true, ite_false, if_true, if_false, reduceIte, Bool.false_eq_true, Bool.not_true, Bool.not_false, Bool.true_eq_false, decide_true, decide_false, Nat.reduceLeDiff, Nat.reduceLT]
    exact ⟨⟨_, .flag n _⟩, dr⟩
  rw [if_neg e2]
  refine sat_seq ?_
  simp only [EV, Ab.isNon, args, List.map, List.length_cons, List.length_nil, List.length_singleton, List.replicate, Nat.reduceSub, Nat.reduceAdd, Nat.zero_add, List.cons_append, List.nil_append, List.getElem?_cons_zero, List.getElem?_cons_succ, List.set_cons_zero, List.set_cons_succ, Option.some.injEq, decide_eq_true_eq, Bool.not_eq_true', decide_eq_false_iff_not, ite_true, ite_false, if_true, if_false, reduceIte, Bool.false_eq_true, Bool.not_true, Bool.not_false, Bool.true_eq_false, decide_true, decide_false, Nat.reduceLeDiff, Nat.reduceLT]
  rw [if_pos (by omega)]
  exact ⟨⟨_, .null n⟩, .refl h.sr⟩
theorem expr_of {n M : Nat} (hnode : ∀ (A : AH) (c : Int), Wt s w lf A → 0 ≤ c → c < 15 → (n = 0 → c < 4) → DrwS s A (m__law_node M [.ref s, .ref w, .int c, .int (n : Nat)] A) fun d => ∃ t, Ex n d t) : ∀ A, Wt s w lf A → DrwS s A (m__law_expression (M + 1) [.ref s, .ref w, .int (n : Nat)] A) fun d => ∃ t, Ex n d t := by
  intro A hA
  refine sat_body rfl (sat_seq ?_)
  simp only [EV, Ab.isNon, args, List.map, List.length_cons, List.length_nil, List.length_singleton, List.replicate, Nat.reduceSub, Nat.reduceAdd, Nat.zero_add, List.cons_append, List.nil_append, List.getElem?_cons_zero, List.getElem?_cons_succ, List.set_cons_zero, List.set_cons_succ, Option.some.injEq, decide_eq_true_eq, Bool.not_eq_true', decide_eq_false_iff_not, ite_true, ite_false, if_true, if_false, reduceIte, Bool.false_eq_true, Bool.not_true, Bool.not_false, Bool.true_eq_false, decide_true, decide_false, Nat.reduceLeDiff, Nat.reduceLT]
  refine Sat.imp (pick_pos hA.sr (n := 15) (by decide) (by decide)) fun d A1 ⟨⟨v, e, h1, h2⟩, dr⟩ => ?_
  subst e
  have h := hA.dr dr
  refine sat_seq ?_
  have step : Sat (fIfS (fTOr (fTB (fOp ltD (fV 2) (fC (.int 1)))) (fTB (fOp eqD (fOwn 2 m__law_pick (fCons (fV 0) (fCons (fC (.int 3)) (fNil)))) (fC (.int 0)))))
      (fSet (fOp modD (fV 3) (fC (.int 4))) 3) (fPass) [some (.ref s), some (.ref w), some (.int (n : Nat)), some (.int v)] A1) fun fl A2 => Dr s A A2 ∧ ∃ v : Int, fl = .nx [some (.ref s), some (.ref w), some (.int (n : Nat)), some (.int v)] ∧ 0 ≤ v ∧ v < 15 ∧ (n = 0 → v < 4) := by
    have p4 : (0 : Int) < 4 := by decide
    simp only [EV, Ab.isNon, args, List.map, List.length_cons, List.length_nil, List.length_singleton, List.replicate, Nat.reduceSub, Nat.reduceAdd, Nat.zero_add, List.cons_append, List.nil_append, List.getElem?_cons_zero, List.getElem?_cons_succ, List.set_cons_zero, List.set_cons_succ, Option.some.injEq, decide_eq_true_eq, Bool.not_eq_true', decide_eq_false_iff_not, ite_true, ite_false, if_true, if_false, reduceIte, Bool.false_eq_true, Bool.not_true, Bool.not_false, Bool.true_eq_false, decide_true, decide_false, Nat.reduceLeDiff, Nat.reduceLT]
    split
    · simp only [EV, Ab.isNon, args, List.map, List.length_cons, List.length_nil, List.length_singleton, List.replicate, Nat.reduceSub, Nat.reduceAdd, Nat.zero_add, List.cons_append, List.nil_append, List.getElem?_cons_zero, List.getElem?_cons_succ, List.set_cons_zero, List.set_cons_succ, Option.some.injEq, decide_eq_true_eq, Bool.not_eq_true', decide_eq_false_iff_not, ite_true, ite_false, if_true, if_false, reduceIte, Bool.false_eq_true, Bool.not_true, Bool.not_false, Bool.true_eq_false, decide_true, decide_false, Nat.reduceLeDiff, Nat.reduceLT, p4]
      exact ⟨dr, v % 4, rfl, by omega, by omega, fun _ => by omega⟩
    · refine Sat.imp (pick_pos h.sr (n := 3) (by decide) (by decide)) fun d A2 ⟨⟨u, e, h3, h4⟩, dr2⟩ => ?_
      subst e
      simp only [EV, Ab.isNon, args, List.map, List.length_cons, List.length_nil, List.length_singleton, List.replicate, Nat.reduceSub, Nat.reduceAdd, Nat.zero_add, List.cons_append, List.nil_append, List.getElem?_cons_zero, List.getElem?_cons_succ, List.set_cons_zero, List.set_cons_succ, Option.some.injEq, decide_eq_true_eq, Bool.not_eq_true', decide_eq_false_iff_not, ite_true, ite_false, if_true, if_false, reduceIte, Bool.false_eq_true, Bool.not_true, Bool.not_false, Bool.true_eq_false, decide_true, decide_false, Nat.reduceLeDiff, Nat.reduceLT, p4]
      split
      · exact ⟨dr.trans dr2, v % 4, rfl, by omega, by omega, fun _ => by omega⟩
      · exact ⟨dr.trans dr2, v, rfl, by omega, by omega, fun _ => by omega⟩
  refine Sat.imp step fun fl A2 ⟨dr2, v, e, h1, h2, h3⟩ => ?_
  subst e
  simp only [EV, Ab.isNon, args, List.map, List.length_cons, List.length_nil, List.length_singleton, List.replicate, Nat.reduceSub, Nat.reduceAdd, Nat.zero_add, List.cons_append, List.nil_append, List.getElem?_cons_zero, List.getElem?_cons_succ, List.set_cons_zero, List.set_cons_succ, Option.some.injEq, decide_eq_true_eq, Bool.not_eq_true', decide_eq_false_iff_not, ite_true, ite_false, if_true, if_false, reduceIte, Bool.false_eq_true, Bool.not_true, Bool.not_false, Bool.true_eq_false, decide_true, decide_false, Nat.reduceLeDiff, Nat.reduceLT]
  have h2' : Wt s w lf A2 := hA.dr dr2
  exact Sat.imp (hnode A2 v h2' h1 h2 h3) fun d A3 ⟨h5, dr3⟩ => ⟨h5, dr2.trans dr3⟩
theorem node_spec : ∀ (n k : Nat) (A : AH) (c : Int), Wt s w lf A → 0 ≤ c → c < 15 → (n = 0 → c < 4) → DrwS s A (m__law_node (2 * n + k + 1) [.ref s, .ref w, .int c, .int (n : Nat)] A) fun d => ∃ t, Ex n d t
  | 0, k, A, c, h, h0, h15, h4 => leaf_spec h h0 (h4 rfl)
  | n + 1, k, A, c, h, h0, h15, _ => by
    by_cases h4 : c < 4
    · exact leaf_spec h h0 h4
    have sub : ∀ A, Wt s w lf A → DrwS s A (m__law_expression (2 * (n + 1) + k) [.ref s, .ref w, .int (n : Nat)] A) fun d => ∃ t, Ex n d t := by
      rw [show 2 * (n + 1) + k = (2 * n + k + 1) + 1 by omega]
      exact expr_of fun A c => node_spec n k A c
    refine sat_body rfl (sat_seq ?_)
    simp only [EV, Ab.isNon, args, List.map, List.length_cons, List.length_nil, List.length_singleton, List.replicate, Nat.reduceSub, Nat.reduceAdd, Nat.zero_add, List.cons_append, List.nil_append, List.getElem?_cons_zero, List.getElem?_cons_succ, List.set_cons_zero, List.set_cons_succ, Option.some.injEq, decide_eq_true_eq, Bool.not_eq_true', decide_eq_false_iff_not, ite_true, ite_false, if_true, if_false, reduceIte, Bool.false_eq_true, Bool.not_true, Bool.not_false, Bool.true_eq_false, decide_true, decide_false, Nat.reduceLeDiff, Nat.reduceLT]
    rw [if_neg (by omega)]
    refine sat_seq ?_; simp only [EV, Ab.isNon, args, List.map, List.length_cons, List.length_nil, List.length_singleton, List.replicate, Nat.reduceSub, Nat.reduceAdd, Nat.zero_add, List.cons_append, List.nil_append, List.getElem?_cons_zero, List.getElem?_cons_succ, List.set_cons_zero, List.set_cons_succ, Option.some.injEq, decide_eq_true_eq, Bool.not_eq_true', decide_eq_false_iff_not, ite_true, ite_false, if_true, if_false, reduceIte, Bool.false_eq_true, Bool.not_true, Bool.not_false, Bool.true_eq_false, decide_true, decide_false, Nat.reduceLeDiff, Nat.reduceLT]; rw [if_neg (by omega)]
    refine sat_seq ?_; simp only [EV, Ab.isNon, args, List.map, List.length_cons, List.length_nil, List.length_singleton, List.replicate, Nat.reduceSub, Nat.reduceAdd, Nat.zero_add, List.cons_append, List.nil_append, List.getElem?_cons_zero, List.getElem?_cons_succ, List.set_cons_zero, List.set_cons_succ, Option.some.injEq, decide_eq_true_eq, Bool.not_eq_true', decide_eq_false_iff_not, ite_true, ite_false, if_true, if_false, reduceIte, Bool.false_eq_true, Bool.not_true, Bool.not_false, Bool.true_eq_false, decide_true, decide_false, Nat.reduceLeDiff, Nat.reduceLT]; rw [if_neg (by omega)]
    refine sat_seq ?_; simp only [EV, Ab.isNon, args, List.map, List.length_cons, List.length_nil, List.length_singleton, List.replicate, Nat.reduceSub, Nat.reduceAdd, Nat.zero_add, List.cons_append, List.nil_append, List.getElem?_cons_zero, List.getElem?_cons_succ, List.set_cons_zero, List.set_cons_succ, Option.some.injEq, decide_eq_true_eq, Bool.not_eq_true', decide_eq_false_iff_not, ite_true, ite_false, if_true, if_false, reduceIte, Bool.false_eq_true, Bool.not_true, Bool.not_false, Bool.true_eq_false, decide_true, decide_false, Nat.reduceLeDiff, Nat.reduceLT]; rw [if_neg (by omega)]
    refine sat_seq ?_
    simp only [EV, Ab.isNon, args, List.map, List.length_cons, List.length_nil, List.length_singleton, List.replicate, Nat.reduceSub, Nat.reduceAdd, Nat.zero_add, List.cons_append, List.nil_append, List.getElem?_cons_zero, List.getElem?_cons_succ, List.set_cons_zero, List.set_cons_succ, Option.some.injEq, decide_eq_true_eq, Bool.not_eq_true', decide_eq_false_iff_not, ite_true, ite_false, if_true, if_false, reduceIte, Bool.false_eq_true, Bool.not_true, Bool.not_false, Bool.true_eq_false, decide_true, decide_false, Nat.reduceLeDiff, Nat.reduceLT]
    have en : (((n + 1 : Nat) : Int) - 1) = (n : Nat) := by omega
    rw [en]
    refine Sat.imp (sub A h) fun d A1 ⟨⟨t, ht⟩, dr⟩ => ?_
    have h := h.dr dr
    refine sat_seq ?_
    simp only [EV, Ab.isNon, args, List.map, List.length_cons, List.length_nil, List.length_singleton, List.replicate, Nat.reduceSub, Nat.reduceAdd, Nat.zero_add, List.cons_append, List.nil_append, List.getElem?_cons_zero, List.getElem?_cons_succ, List.set_cons_zero, List.set_cons_succ, Option.some.injEq, decide_eq_true_eq, Bool.not_eq_true', decide_eq_false_iff_not, ite_true, ite_false, if_true, if_false, reduceIte, Bool.false_eq_true, Bool.not_true, Bool.not_false, Bool.true_eq_false, decide_true, decide_false, Nat.reduceLeDiff, Nat.reduceLT]
    by_cases e4 : c = 4
    · rw [if_pos e4]
      exact ⟨⟨_, .neg n d t ht⟩, dr⟩
    rw [if_neg e4]
    refine sat_seq ?_
    simp only [EV, Ab.isNon, args, List.map, List.length_cons, List.length_nil, List.length_singleton, List.replicate, Nat.reduceSub, Nat.reduceAdd, Nat.zero_add, List.cons_append, List.nil_append, List.getElem?_cons_zero, List.getElem?_cons_succ, List.set_cons_zero, List.set_cons_succ, Option.some.injEq, decide_eq_true_eq, Bool.not_eq_true', decide_eq_false_iff_not, ite_true, ite_false, if_true, if_false, reduceIte, Bool.false_eq_true, Bool.not_true, Bool.not_false, Bool.true_eq_false, decide_true, decide_false, Nat.reduceLeDiff, Nat.reduceLT]
    obtain ⟨x, hx, hi⟩ : ∃ x, x ∈ ops ∧ atI (ops.map D.str) (c - 5) = some (.str x) := by
      have hl : (c - 5).toNat < ops.length := by show _ < 10; omega
      exact ⟨ops[(c - 5).toNat], List.getElem_mem hl, by rw [atI_pos (by omega), List.getElem?_map, List.getElem?_eq_getElem hl]; rfl⟩
    show Sat (ixD (.ref A1.length) (.int (c - 5)) (A1 ++ [AO.lst (ops.map D.str)])) _
    rw [ev_ix_r (x := .str x) (rdL_l (xs := ops.map D.str) at_new) hi, sat_ok]
    have dr := dr.trans (Dr.app h.sr [.lst (ops.map D.str)])
    have h := h.dr (Dr.app h.sr [.lst (ops.map D.str)])
    rw [en]
    refine Sat.imp (sub _ h) fun e A2 ⟨⟨u, hu⟩, dr2⟩ => ?_
    exact ⟨⟨_, .op n x d e t u hx ht hu⟩, dr.trans dr2⟩
theorem expr_spec {n : Nat} (h : Wt s w lf A) (hn : n ≤ 3) : DrwS s A (m__law_expression 20 [.ref s, .ref w, .int (n : Nat)] A) fun d => ∃ t, Ex n d t := by
  have := expr_of (s := s) (w := w) (lf := lf) (n := n) (M := 19) (fun A c => by
    have := node_spec (s := s) (w := w) (lf := lf) n (18 - 2 * n) A c
    rw [show 2 * n + (18 - 2 * n) + 1 = 19 by omega] at this
    exact this) A h
  exact this
theorem kind_spec {b : Bool} (h : Wt s w lf A) : DrwS s A (m__law_kind [.ref s, .ref w, .bl b] A) fun d => ∃ t, RtOk (d, t) := by
  refine sat_body rfl (sat_seq ?_)
  simp only [EV, Ab.isNon, args, List.map, List.length_cons, List.length_nil, List.length_singleton, List.replicate, Nat.reduceSub, Nat.reduceAdd, Nat.zero_add, List.cons_append, List.nil_append, List.getElem?_cons_zero, List.getElem?_cons_succ, List.set_cons_zero, List.set_cons_succ, Option.some.injEq, decide_eq_true_eq, Bool.not_eq_true', decide_eq_false_iff_not, ite_true, ite_false, if_true, if_false, reduceIte, Bool.false_eq_true, Bool.not_true, Bool.not_false, Bool.true_eq_false, decide_true, decide_false, Nat.reduceLeDiff, Nat.reduceLT]
  refine Sat.imp (pick_pos h.sr (n := 4) (by decide) (by decide)) fun d A1 ⟨⟨v, e, h1, h2⟩, dr⟩ => ?_
  subst e
  have h := h.dr dr
  refine sat_seq ?_
  by_cases v0 : v = 0
  · simp only [EV, Ab.isNon, args, List.map, List.length_cons, List.length_nil, List.length_singleton, List.replicate, Nat.reduceSub, Nat.reduceAdd, Nat.zero_add, List.cons_append, List.nil_append, List.getElem?_cons_zero, List.getElem?_cons_succ, List.set_cons_zero, List.set_cons_succ, Option.some.injEq, decide_eq_true_eq, Bool.not_eq_true', decide_eq_false_iff_not, ite_true, ite_false, if_true, if_false, reduceIte, Bool.false_eq_true, Bool.not_true, Bool.not_false, Bool.true_eq_false, decide_true, decide_false, Nat.reduceLeDiff, Nat.reduceLT, v0]
    exact ⟨⟨_, kt_flag, by decide +kernel, rfl⟩, dr⟩
  simp only [EV, Ab.isNon, args, List.map, List.length_cons, List.length_nil, List.length_singleton, List.replicate, Nat.reduceSub, Nat.reduceAdd, Nat.zero_add, List.cons_append, List.nil_append, List.getElem?_cons_zero, List.getElem?_cons_succ, List.set_cons_zero, List.set_cons_succ, Option.some.injEq, decide_eq_true_eq, Bool.not_eq_true', decide_eq_false_iff_not, ite_true, ite_false, if_true, if_false, reduceIte, Bool.false_eq_true, Bool.not_true, Bool.not_false, Bool.true_eq_false, decide_true, decide_false, Nat.reduceLeDiff, Nat.reduceLT, v0]
  refine sat_seq ?_
  by_cases v1 : v = 1
  · simp only [EV, Ab.isNon, args, List.map, List.length_cons, List.length_nil, List.length_singleton, List.replicate, Nat.reduceSub, Nat.reduceAdd, Nat.zero_add, List.cons_append, List.nil_append, List.getElem?_cons_zero, List.getElem?_cons_succ, List.set_cons_zero, List.set_cons_succ, Option.some.injEq, decide_eq_true_eq, Bool.not_eq_true', decide_eq_false_iff_not, ite_true, ite_false, if_true, if_false, reduceIte, Bool.false_eq_true, Bool.not_true, Bool.not_false, Bool.true_eq_false, decide_true, decide_false, Nat.reduceLeDiff, Nat.reduceLT, v1]
    refine Sat.imp (word_spec h) fun d A2 ⟨⟨x, e, hx⟩, dr2⟩ => ?_
    subst e
    exact ⟨⟨x, kt_ref, by show x.length ≤ 60; omega, rfl⟩, dr.trans dr2⟩
  simp only [EV, Ab.isNon, args, List.map, List.length_cons, List.length_nil, List.length_singleton, List.replicate, Nat.reduceSub, Nat.reduceAdd, Nat.zero_add, List.cons_append, List.nil_append, List.getElem?_cons_zero, List.getElem?_cons_succ, List.set_cons_zero, List.set_cons_succ, Option.some.injEq, decide_eq_true_eq, Bool.not_eq_true', decide_eq_false_iff_not, ite_true, ite_false, if_true, if_false, reduceIte, Bool.false_eq_true, Bool.not_true, Bool.not_false, Bool.true_eq_false, decide_true, decide_false, Nat.reduceLeDiff, Nat.reduceLT, v1]
  refine sat_seq ?_
  simp only [EV, Ab.isNon, args, List.map, List.length_cons, List.length_nil, List.length_singleton, List.replicate, Nat.reduceSub, Nat.reduceAdd, Nat.zero_add, List.cons_append, List.nil_append, List.getElem?_cons_zero, List.getElem?_cons_succ, List.set_cons_zero, List.set_cons_succ, Option.some.injEq, decide_eq_true_eq, Bool.not_eq_true', decide_eq_false_iff_not, ite_true, ite_false, if_true, if_false, reduceIte, Bool.false_eq_true, Bool.not_true, Bool.not_false, Bool.true_eq_false, decide_true, decide_false, Nat.reduceLeDiff, Nat.reduceLT]
  refine Sat.imp (number_spec h) fun d A2 ⟨⟨lo, e, hlo⟩, dr2⟩ => ?_
  subst e
  have h := h.dr dr2
  have dr2 := dr.trans dr2
  have okn : ∀ {hi : Int}, hi.natAbs < 10 ^ 12 → RtOk (.tup [.str "num", .int lo, .int hi], (toString lo : Str) ++ ".." ++ (toString hi : Str)) := fun {hi} hh => by
    have l1 := num_len hlo
    have l2 := num_len hh
    have c : (".." : Str).length ≤ 10 := by decide +kernel
    exact ⟨kt_num hlo hh, by show ((toString lo : Str) ++ ".." ++ (toString hi : Str)).length ≤ 60; simp only [str_len]; omega, rfl⟩
  refine sat_early (fun σ B => Dr s A B ∧ σ = [some (.ref s), some (.ref w), some (.bl b), some (.int v), some (.int lo)]) (fun d B => (∃ t, RtOk (d, t)) ∧ Dr s A B) ?_ (fun d B h => h) fun σ B ⟨DB, hσ⟩ => ?_
  · simp only [EV, Ab.isNon, args, List.map, List.length_cons, List.length_nil, List.length_singleton, List.replicate, Nat.reduceSub, Nat.reduceAdd, Nat.zero_add, List.cons_append, List.nil_append, List.getElem?_cons_zero, List.getElem?_cons_succ, List.set_cons_zero, List.set_cons_succ, Option.some.injEq, decide_eq_true_eq, Bool.not_eq_true', decide_eq_false_iff_not, ite_true, ite_false, if_true, if_false, reduceIte, Bool.false_eq_true, Bool.not_true, Bool.not_false, Bool.true_eq_false, decide_true, decide_false, Nat.reduceLeDiff, Nat.reduceLT]
    by_cases hb : b = true ∧ v = 2
    · obtain ⟨hb, hv⟩ := hb
      subst hb
      simp only [EV, Ab.isNon, args, List.map, List.length_cons, List.length_nil, List.length_singleton, List.replicate, Nat.reduceSub, Nat.reduceAdd, Nat.zero_add, List.cons_append, List.nil_append, List.getElem?_cons_zero, List.getElem?_cons_succ, List.set_cons_zero, List.set_cons_succ, Option.some.injEq, decide_eq_true_eq, Bool.not_eq_true', decide_eq_false_iff_not, ite_true, ite_false, if_true, if_false, reduceIte, Bool.false_eq_true, Bool.not_true, Bool.not_false, Bool.true_eq_false, decide_true, decide_false, Nat.reduceLeDiff, Nat.reduceLT, hv]
      refine Sat.imp (number_spec h) fun d A3 ⟨⟨hi, e, hhi⟩, dr3⟩ => ?_
      subst e
      exact .inl ⟨_, rfl, ⟨_, okn hhi⟩, dr2.trans dr3⟩
    · cases b with
      | false =>
        simp only [EV, Ab.isNon, args, List.map, List.length_cons, List.length_nil, List.length_singleton, List.replicate, Nat.reduceSub, Nat.reduceAdd, Nat.zero_add, List.cons_append, List.nil_append, List.getElem?_cons_zero, List.getElem?_cons_succ, List.set_cons_zero, List.set_cons_succ, Option.some.injEq, decide_eq_true_eq, Bool.not_eq_true', decide_eq_false_iff_not, ite_true, ite_false, if_true, if_false, reduceIte, Bool.false_eq_true, Bool.not_true, Bool.not_false, Bool.true_eq_false, decide_true, decide_false, Nat.reduceLeDiff, Nat.reduceLT]
        exact .inr ⟨_, rfl, dr2, rfl⟩
      | true =>
        have hv : ¬ v = 2 := fun h => hb ⟨rfl, h⟩
        simp only [EV, Ab.isNon, args, List.map, List.length_cons, List.length_nil, List.length_singleton, List.replicate, Nat.reduceSub, Nat.reduceAdd, Nat.zero_add, List.cons_append, List.nil_append, List.getElem?_cons_zero, List.getElem?_cons_succ, List.set_cons_zero, List.set_cons_succ, Option.some.injEq, decide_eq_true_eq, Bool.not_eq_true', decide_eq_false_iff_not, ite_true, ite_false, if_true, if_false, reduceIte, Bool.false_eq_true, Bool.not_true, Bool.not_false, Bool.true_eq_false, decide_true, decide_false, Nat.reduceLeDiff, Nat.reduceLT, hv]
        exact .inr ⟨_, rfl, dr2, rfl⟩
  subst hσ
  have e9 : CPow 10 9 := powOk (by decide) (by decide) (by decide)
  simp only [EV, Ab.isNon, args, List.map, List.length_cons, List.length_nil, List.length_singleton, List.replicate, Nat.reduceSub, Nat.reduceAdd, Nat.zero_add, List.cons_append, List.nil_append, List.getElem?_cons_zero, List.getElem?_cons_succ, List.set_cons_zero, List.set_cons_succ, Option.some.injEq, decide_eq_true_eq, Bool.not_eq_true', decide_eq_false_iff_not, ite_true, ite_false, if_true, if_false, reduceIte, Bool.false_eq_true, Bool.not_true, Bool.not_false, Bool.true_eq_false, decide_true, decide_false, Nat.reduceLeDiff, Nat.reduceLT]
  refine Sat.imp (pick_pos DB.src (n := 12) (by decide) (by decide)) fun d A3 ⟨⟨u, e, u0, u1⟩, dr3⟩ => ?_
  subst e
  simp only [EV, Ab.isNon, args, List.map, List.length_cons, List.length_nil, List.length_singleton, List.replicate, Nat.reduceSub, Nat.reduceAdd, Nat.zero_add, List.cons_append, List.nil_append, List.getElem?_cons_zero, List.getElem?_cons_succ, List.set_cons_zero, List.set_cons_succ, Option.some.injEq, decide_eq_true_eq, Bool.not_eq_true', decide_eq_false_iff_not, ite_true, ite_false, if_true, if_false, reduceIte, Bool.false_eq_true, Bool.not_true, Bool.not_false, Bool.true_eq_false, decide_true, decide_false, Nat.reduceLeDiff, Nat.reduceLT, e9]
  refine ⟨⟨_, okn ?_⟩, DB.trans dr3⟩
  rw [show (10 : Int) ^ Int.toNat 9 = 1000000000 by decide]
  split <;> split <;> omega
theorem count_spec {n : Int} (h : Sr s A) (n0 : 0 ≤ n) (n1 : n ≤ 4) : DrwS s A (m__law_count [.ref s, .int n] A) fun d => ∃ v : Int, d = .int v ∧ 0 ≤ v ∧ v ≤ 4 := by
  refine sat_body rfl (sat_seq ?_)
  simp only [EV, Ab.isNon, args, List.map, List.length_cons, List.length_nil, List.length_singleton, List.replicate, Nat.reduceSub, Nat.reduceAdd, Nat.zero_add, List.cons_append, List.nil_append, List.getElem?_cons_zero, List.getElem?_cons_succ, List.set_cons_zero, List.set_cons_succ, Option.some.injEq, decide_eq_true_eq, Bool.not_eq_true', decide_eq_false_iff_not, ite_true, ite_false, if_true, if_false, reduceIte, Bool.false_eq_true, Bool.not_true, Bool.not_false, Bool.true_eq_false, decide_true, decide_false, Nat.reduceLeDiff, Nat.reduceLT]
  refine Sat.imp (pick_pos h (n := 6) (by decide) (by decide)) fun d A1 ⟨⟨v, e, h1, h2⟩, dr⟩ => ?_
  subst e
  by_cases v0 : v = 0
  · simp only [EV, Ab.isNon, args, List.map, List.length_cons, List.length_nil, List.length_singleton, List.replicate, Nat.reduceSub, Nat.reduceAdd, Nat.zero_add, List.cons_append, List.nil_append, List.getElem?_cons_zero, List.getElem?_cons_succ, List.set_cons_zero, List.set_cons_succ, Option.some.injEq, decide_eq_true_eq, Bool.not_eq_true', decide_eq_false_iff_not, ite_true, ite_false, if_true, if_false, reduceIte, Bool.false_eq_true, Bool.not_true, Bool.not_false, Bool.true_eq_false, decide_true, decide_false, Nat.reduceLeDiff, Nat.reduceLT, v0]
    refine Sat.imp (pick_pos dr.src (n := n + 1) (by omega) (by omega)) fun d A2 ⟨⟨u, e, h3, h4⟩, dr2⟩ => ?_
    exact ⟨⟨u, e, h3, by omega⟩, dr.trans dr2⟩
  · simp only [EV, Ab.isNon, args, List.map, List.length_cons, List.length_nil, List.length_singleton, List.replicate, Nat.reduceSub, Nat.reduceAdd, Nat.zero_add, List.cons_append, List.nil_append, List.getElem?_cons_zero, List.getElem?_cons_succ, List.set_cons_zero, List.set_cons_succ, Option.some.injEq, decide_eq_true_eq, Bool.not_eq_true', decide_eq_false_iff_not, ite_true, ite_false, if_true, if_false, reduceIte, Bool.false_eq_true, Bool.not_true, Bool.not_false, Bool.true_eq_false, decide_true, decide_false, Nat.reduceLeDiff, Nat.reduceLT, v0]
    refine Sat.imp (pick_pos dr.src (n := 3) (by decide) (by decide)) fun d A2 ⟨⟨u, e, h3, h4⟩, dr2⟩ => ?_
    exact ⟨⟨u, e, h3, by omega⟩, dr.trans dr2⟩
theorem pairs_spec {n k : Int} (h : Wt s w lf A) (n0 : 0 ≤ n) (n1 : n ≤ 4) : DrwS s A (m__law_pairs [.ref s, .ref w, .int n, .int k] A) fun d => ∃ ps : List Pt, d = .tup (ps.map prD) ∧ ps.length ≤ 4 ∧ ∀ q ∈ ps, PtOk q := by
  have sl := h.sr.lt
  refine sat_body rfl (sat_seq ?_)
  simp only [EV, Ab.isNon, args, List.map, List.length_cons, List.length_nil, List.length_singleton, List.replicate, Nat.reduceSub, Nat.reduceAdd, Nat.zero_add, List.cons_append, List.nil_append, List.getElem?_cons_zero, List.getElem?_cons_succ, List.set_cons_zero, List.set_cons_succ, Option.some.injEq, decide_eq_true_eq, Bool.not_eq_true', decide_eq_false_iff_not, ite_true, ite_false, if_true, if_false, reduceIte, Bool.false_eq_true, Bool.not_true, Bool.not_false, Bool.true_eq_false, decide_true, decide_false, Nat.reduceLeDiff, Nat.reduceLT]
  have hL : (A ++ [AO.lst []])[A.length]? = some (.lst (([] : List Pt).map prD)) := at_new
  have D0 := Dr.app h.sr [AO.lst []]
  generalize A ++ [AO.lst []] = A1 at *
  refine sat_seq ?_
  simp only [EV, Ab.isNon, args, List.map, List.length_cons, List.length_nil, List.length_singleton, List.replicate, Nat.reduceSub, Nat.reduceAdd, Nat.zero_add, List.cons_append, List.nil_append, List.getElem?_cons_zero, List.getElem?_cons_succ, List.set_cons_zero, List.set_cons_succ, Option.some.injEq, decide_eq_true_eq, Bool.not_eq_true', decide_eq_false_iff_not, ite_true, ite_false, if_true, if_false, reduceIte, Bool.false_eq_true, Bool.not_true, Bool.not_false, Bool.true_eq_false, decide_true, decide_false, Nat.reduceLeDiff, Nat.reduceLT]
  refine Sat.imp (count_spec D0.src n0 n1) fun d A2 ⟨⟨v, e, v0, v1⟩, D2⟩ => ?_
  subst e
  have hL := D2.keep _ _ (by omega) hL
  have D2 := D0.trans D2
  simp only [EV, Ab.isNon, args, List.map, List.length_cons, List.length_nil, List.length_singleton, List.replicate, Nat.reduceSub, Nat.reduceAdd, Nat.zero_add, List.cons_append, List.nil_append, List.getElem?_cons_zero, List.getElem?_cons_succ, List.set_cons_zero, List.set_cons_succ, Option.some.injEq, decide_eq_true_eq, Bool.not_eq_true', decide_eq_false_iff_not, ite_true, ite_false, if_true, if_false, reduceIte, Bool.false_eq_true, Bool.not_true, Bool.not_false, Bool.true_eq_false, decide_true, decide_false, Nat.reduceLeDiff, Nat.reduceLT]
  rw [if_pos (inRg_of (by omega) (by omega))]
  refine range_inv (fun i σ B => Dr s A B ∧ ∃ (ps : List Pt) (x : Option D), ps.length = i ∧ (∀ q ∈ ps, PtOk q) ∧ B[A.length]? = some (.lst (ps.map prD)) ∧ σ = [some (.ref s), some (.ref w), some (.int n), some (.int k), some (.ref A.length), x])
    (fun i σ B hi ⟨DB, ps, x, pl, po, hB, hσ⟩ => ?_) (fun σ B ⟨DB, ps, x, pl, po, hB, hσ⟩ => ?_) ⟨D2, [], none, rfl, fun q hq => (by cases hq), hL, rfl⟩
  · subst hσ
    simp only [EV, Ab.isNon, args, List.map, List.length_cons, List.length_nil, List.length_singleton, List.replicate, Nat.reduceSub, Nat.reduceAdd, Nat.zero_add, List.cons_append, List.nil_append, List.getElem?_cons_zero, List.getElem?_cons_succ, List.set_cons_zero, List.set_cons_succ, Option.some.injEq, decide_eq_true_eq, Bool.not_eq_true', decide_eq_false_iff_not, ite_true, ite_false, if_true, if_false, reduceIte, Bool.false_eq_true, Bool.not_true, Bool.not_false, Bool.true_eq_false, decide_true, decide_false, Nat.reduceLeDiff, Nat.reduceLT, ty_l hB]
    refine Sat.imp (word_spec (h.dr DB)) fun d A3 ⟨⟨x1, e, hx⟩, D3⟩ => ?_
    subst e
    have hB := D3.keep _ _ (by omega) hB
    have D3 := DB.trans D3
    refine Sat.imp (kind_spec (h.dr D3)) fun d A4 ⟨⟨t, ok⟩, D4⟩ => ?_
    have hB := D4.keep _ _ (by omega) hB
    have D4 := D3.trans D4
    rw [ev_app hB (by rw [List.length_map]; omega)]
    simp only [EV, Ab.isNon, args, List.map, List.length_cons, List.length_nil, List.length_singleton, List.replicate, Nat.reduceSub, Nat.reduceAdd, Nat.zero_add, List.cons_append, List.nil_append, List.getElem?_cons_zero, List.getElem?_cons_succ, List.set_cons_zero, List.set_cons_succ, Option.some.injEq, decide_eq_true_eq, Bool.not_eq_true', decide_eq_false_iff_not, ite_true, ite_false, if_true, if_false, reduceIte, Bool.false_eq_true, Bool.not_true, Bool.not_false, Bool.true_eq_false, decide_true, decide_false, Nat.reduceLeDiff, Nat.reduceLT, turn_]
    refine ⟨D4.setN (Nat.le_refl _) h.sr, ps ++ [(x1, d, t)], _, by simp; omega, fun q hq => ?_, ?_, rfl⟩
    · rcases List.mem_append.mp hq with hq | hq
      · exact po q hq
      · cases List.mem_singleton.mp hq; exact ⟨hx, ok.kt, ok.len⟩
    · rw [at_set (at_lt hB), List.map_append]; rfl
  · subst hσ
    simp only [EV, Ab.isNon, args, List.map, List.length_cons, List.length_nil, List.length_singleton, List.replicate, Nat.reduceSub, Nat.reduceAdd, Nat.zero_add, List.cons_append, List.nil_append, List.getElem?_cons_zero, List.getElem?_cons_succ, List.set_cons_zero, List.set_cons_succ, Option.some.injEq, decide_eq_true_eq, Bool.not_eq_true', decide_eq_false_iff_not, ite_true, ite_false, if_true, if_false, reduceIte, Bool.false_eq_true, Bool.not_true, Bool.not_false, Bool.true_eq_false, decide_true, decide_false, Nat.reduceLeDiff, Nat.reduceLT, ev_tup_ofL (rdL_l hB)]
    exact ⟨⟨ps, rfl, by omega, po⟩, DB⟩
end
end Law

namespace Law
open PySem PySem.Spec PyProof.Rows L2 Ab
open scoped Classical
/-! ### drawn statements -/
def sgs : List Str := ["set", "input", "new", "free", "load", "store", "get", "put", "call", "return", "break", "assert"]
def i3 (x : Str) : Bool := [("input" : Str), "new", "free"].any fun y => y == x
def Lst (d : D) : Prop := ∃ t, Ln d t ∧ ∃ u ds, d = .tup (.str u :: ds) ∧ u ≠ "if" ∧ u ≠ "while"
section
variable {s w lf : Nat} {A : AH}
theorem in_3 {x : Str} {B : AH} : inD (.str x) (.ref B.length) (B ++ [AO.lst [.str "input", .str "new", .str "free"]]) = .ok (.bl (i3 x)) (B ++ [AO.lst [.str "input", .str "new", .str "free"]]) := in_lst (xs := ["input", "new", "free"]) at_new
theorem deep_of (h : Wt s w lf A) : ∃ n : Nat, n ≤ 3 ∧ ixD (.ref w) (.str "deep") A = .ok (.int (n : Nat)) A := by
  obtain ⟨nm, kvs, ns, h⟩ := h
  obtain ⟨n, e, l⟩ := h.g4
  exact ⟨n, l, ixk h.hw e⟩
theorem leafS_spec (h : Wt s w lf A) : DrwS s A (m__law_leaf [.ref s, .ref w] A) Lst := by
  have sl := h.sr.lt
  refine sat_body rfl (sat_mid (fun σ B => Dr s A B ∧ B[A.length]? = some (.lst (sgs.map D.str)) ∧ σ = [some (.ref s), some (.ref w), some (.ref A.length), none, none, none, none, none, none]) ?_ fun σ B ⟨DB, hB, hσ⟩ => ?_)
  · simp only [EV, Ab.isNon, args, List.map, List.length_cons, List.length_nil, List.length_singleton, List.replicate, Nat.reduceSub, Nat.reduceAdd, Nat.zero_add, List.cons_append, List.nil_append, List.getElem?_cons_zero, List.getElem?_cons_succ, List.set_cons_zero, List.set_cons_succ, Option.some.injEq, decide_eq_true_eq, Bool.not_eq_true', decide_eq_false_iff_not, ite_true, ite_false, if_true, if_false, reduceIte, Bool.false_eq_true, Bool.not_true, Bool.not_false, Bool.true_eq_false, decide_true, decide_false, Nat.reduceLeDiff, Nat.reduceLT]
    exact ⟨_, rfl, .app h.sr _, at_new, rfl⟩
  subst hσ
  refine sat_seq ?_
  simp only [EV, Ab.isNon, args, List.map, List.length_cons, List.length_nil, List.length_singleton, List.replicate, Nat.reduceSub, Nat.reduceAdd, Nat.zero_add, List.cons_append, List.nil_append, List.getElem?_cons_zero, List.getElem?_cons_succ, List.set_cons_zero, List.set_cons_succ, Option.some.injEq, decide_eq_true_eq, Bool.not_eq_true', decide_eq_false_iff_not, ite_true, ite_false, if_true, if_false, reduceIte, Bool.false_eq_true, Bool.not_true, Bool.not_false, Bool.true_eq_false, decide_true, decide_false, Nat.reduceLeDiff, Nat.reduceLT]
  refine Sat.imp (one_l DB.src (by omega) hB (by simp [sgs]) (by simp [sgs])) fun d B1 ⟨hd, D1⟩ => ?_
  obtain ⟨sg, hsg, rfl⟩ := List.mem_map.mp hd
  have D1 := DB.trans D1
  refine sat_seq ?_
  simp only [EV, Ab.isNon, args, List.map, List.length_cons, List.length_nil, List.length_singleton, List.replicate, Nat.reduceSub, Nat.reduceAdd, Nat.zero_add, List.cons_append, List.nil_append, List.getElem?_cons_zero, List.getElem?_cons_succ, List.set_cons_zero, List.set_cons_succ, Option.some.injEq, decide_eq_true_eq, Bool.not_eq_true', decide_eq_false_iff_not, ite_true, ite_false, if_true, if_false, reduceIte, Bool.false_eq_true, Bool.not_true, Bool.not_false, Bool.true_eq_false, decide_true, decide_false, Nat.reduceLeDiff, Nat.reduceLT]
  refine Sat.imp (word_spec (h.dr D1)) fun d B2 ⟨⟨x, e, hx⟩, D2⟩ => ?_
  subst e
  have D2 := D1.trans D2
  refine sat_seq ?_
  by_cases b0 : sg = "break"
  · simp only [EV, Ab.isNon, args, List.map, List.length_cons, List.length_nil, List.length_singleton, List.replicate, Nat.reduceSub, Nat.reduceAdd, Nat.zero_add, List.cons_append, List.nil_append, List.getElem?_cons_zero, List.getElem?_cons_succ, List.set_cons_zero, List.set_cons_succ, Option.some.injEq, decide_eq_true_eq, Bool.not_eq_true', decide_eq_false_iff_not, ite_true, ite_false, if_true, if_false, reduceIte, Bool.false_eq_true, Bool.not_true, Bool.not_false, Bool.true_eq_false, decide_true, decide_false, Nat.reduceLeDiff, Nat.reduceLT, b0]
    exact ⟨⟨_, ln_brk, "break", [], rfl, by decide +kernel, by decide +kernel⟩, D2⟩
  simp only [EV, Ab.isNon, args, List.map, List.length_cons, List.length_nil, List.length_singleton, List.replicate, Nat.reduceSub, Nat.reduceAdd, Nat.zero_add, List.cons_append, List.nil_append, List.getElem?_cons_zero, List.getElem?_cons_succ, List.set_cons_zero, List.set_cons_succ, Option.some.injEq, decide_eq_true_eq, Bool.not_eq_true', decide_eq_false_iff_not, ite_true, ite_false, if_true, if_false, reduceIte, Bool.false_eq_true, Bool.not_true, Bool.not_false, Bool.true_eq_false, decide_true, decide_false, Nat.reduceLeDiff, Nat.reduceLT, b0]
  refine sat_seq ?_
  simp only [EV, Ab.isNon, args, List.map, List.length_cons, List.length_nil, List.length_singleton, List.replicate, Nat.reduceSub, Nat.reduceAdd, Nat.zero_add, List.cons_append, List.nil_append, List.getElem?_cons_zero, List.getElem?_cons_succ, List.set_cons_zero, List.set_cons_succ, Option.some.injEq, decide_eq_true_eq, Bool.not_eq_true', decide_eq_false_iff_not, ite_true, ite_false, if_true, if_false, reduceIte, Bool.false_eq_true, Bool.not_true, Bool.not_false, Bool.true_eq_false, decide_true, decide_false, Nat.reduceLeDiff, Nat.reduceLT, in_3]
  have D3 := D2.trans (.app D2.src [AO.lst [.str "input", .str "new", .str "free"]])
  generalize B2 ++ [AO.lst [.str "input", .str "new", .str "free"]] = B3 at *
  cases b1 : i3 sg with
  | true =>
    simp only [EV, Ab.isNon, args, List.map, List.length_cons, List.length_nil, List.length_singleton, List.replicate, Nat.reduceSub, Nat.reduceAdd, Nat.zero_add, List.cons_append, List.nil_append, List.getElem?_cons_zero, List.getElem?_cons_succ, List.set_cons_zero, List.set_cons_succ, Option.some.injEq, decide_eq_true_eq, Bool.not_eq_true', decide_eq_false_iff_not, ite_true, ite_false, if_true, if_false, reduceIte, Bool.false_eq_true, Bool.not_true, Bool.not_false, Bool.true_eq_false, decide_true, decide_false, Nat.reduceLeDiff, Nat.reduceLT]
    refine ⟨?_, D3⟩
    have : sg = "input" ∨ sg = "new" ∨ sg = "free" := by
      unfold i3 at b1
      have := b1
      simp at this
      rcases this with e | e | e <;> simp [e]
    rcases this with rfl | rfl | rfl
    · exact ⟨_, ln_input hx, _, _, rfl, by decide +kernel, by decide +kernel⟩
    · exact ⟨_, ln_new hx, _, _, rfl, by decide +kernel, by decide +kernel⟩
    · exact ⟨_, ln_free hx, _, _, rfl, by decide +kernel, by decide +kernel⟩
  | false =>
  simp only [EV, Ab.isNon, args, List.map, List.length_cons, List.length_nil, List.length_singleton, List.replicate, Nat.reduceSub, Nat.reduceAdd, Nat.zero_add, List.cons_append, List.nil_append, List.getElem?_cons_zero, List.getElem?_cons_succ, List.set_cons_zero, List.set_cons_succ, Option.some.injEq, decide_eq_true_eq, Bool.not_eq_true', decide_eq_false_iff_not, ite_true, ite_false, if_true, if_false, reduceIte, Bool.false_eq_true, Bool.not_true, Bool.not_false, Bool.true_eq_false, decide_true, decide_false, Nat.reduceLeDiff, Nat.reduceLT]
  refine sat_seq ?_
  simp only [EV, Ab.isNon, args, List.map, List.length_cons, List.length_nil, List.length_singleton, List.replicate, Nat.reduceSub, Nat.reduceAdd, Nat.zero_add, List.cons_append, List.nil_append, List.getElem?_cons_zero, List.getElem?_cons_succ, List.set_cons_zero, List.set_cons_succ, Option.some.injEq, decide_eq_true_eq, Bool.not_eq_true', decide_eq_false_iff_not, ite_true, ite_false, if_true, if_false, reduceIte, Bool.false_eq_true, Bool.not_true, Bool.not_false, Bool.true_eq_false, decide_true, decide_false, Nat.reduceLeDiff, Nat.reduceLT]
  refine Sat.imp (word_spec (h.dr D3)) fun d B4 ⟨⟨y, e, hy⟩, D4⟩ => ?_
  subst e
  have D4 := D3.trans D4
  refine sat_seq ?_
  by_cases b2 : sg = "load"
  · simp only [EV, Ab.isNon, args, List.map, List.length_cons, List.length_nil, List.length_singleton, List.replicate, Nat.reduceSub, Nat.reduceAdd, Nat.zero_add, List.cons_append, List.nil_append, List.getElem?_cons_zero, List.getElem?_cons_succ, List.set_cons_zero, List.set_cons_succ, Option.some.injEq, decide_eq_true_eq, Bool.not_eq_true', decide_eq_false_iff_not, ite_true, ite_false, if_true, if_false, reduceIte, Bool.false_eq_true, Bool.not_true, Bool.not_false, Bool.true_eq_false, decide_true, decide_false, Nat.reduceLeDiff, Nat.reduceLT, b2]
    refine Sat.imp (word_spec (h.dr D4)) fun d B5 ⟨⟨z, e, hz⟩, D5⟩ => ?_
    subst e
    exact ⟨⟨_, ln_load hx hy hz, _, _, rfl, by decide +kernel, by decide +kernel⟩, D4.trans D5⟩
  simp only [EV, Ab.isNon, args, List.map, List.length_cons, List.length_nil, List.length_singleton, List.replicate, Nat.reduceSub, Nat.reduceAdd, Nat.zero_add, List.cons_append, List.nil_append, List.getElem?_cons_zero, List.getElem?_cons_succ, List.set_cons_zero, List.set_cons_succ, Option.some.injEq, decide_eq_true_eq, Bool.not_eq_true', decide_eq_false_iff_not, ite_true, ite_false, if_true, if_false, reduceIte, Bool.false_eq_true, Bool.not_true, Bool.not_false, Bool.true_eq_false, decide_true, decide_false, Nat.reduceLeDiff, Nat.reduceLT, b2]
  refine sat_seq ?_
  obtain ⟨n, hn, dp⟩ := deep_of (h.dr D4)
  simp only [EV, Ab.isNon, args, List.map, List.length_cons, List.length_nil, List.length_singleton, List.replicate, Nat.reduceSub, Nat.reduceAdd, Nat.zero_add, List.cons_append, List.nil_append, List.getElem?_cons_zero, List.getElem?_cons_succ, List.set_cons_zero, List.set_cons_succ, Option.some.injEq, decide_eq_true_eq, Bool.not_eq_true', decide_eq_false_iff_not, ite_true, ite_false, if_true, if_false, reduceIte, Bool.false_eq_true, Bool.not_true, Bool.not_false, Bool.true_eq_false, decide_true, decide_false, Nat.reduceLeDiff, Nat.reduceLT, dp]
  refine Sat.imp (expr_spec (h.dr D4) hn) fun d B5 ⟨⟨t, ht⟩, D5⟩ => ?_
  have D5 := D4.trans D5
  refine sat_seq ?_
  by_cases b3 : sg = "set"
  · simp only [EV, Ab.isNon, args, List.map, List.length_cons, List.length_nil, List.length_singleton, List.replicate, Nat.reduceSub, Nat.reduceAdd, Nat.zero_add, List.cons_append, List.nil_append, List.getElem?_cons_zero, List.getElem?_cons_succ, List.set_cons_zero, List.set_cons_succ, Option.some.injEq, decide_eq_true_eq, Bool.not_eq_true', decide_eq_false_iff_not, ite_true, ite_false, if_true, if_false, reduceIte, Bool.false_eq_true, Bool.not_true, Bool.not_false, Bool.true_eq_false, decide_true, decide_false, Nat.reduceLeDiff, Nat.reduceLT, b3]
    exact ⟨⟨_, ln_set hx ht hn, _, _, rfl, by decide +kernel, by decide +kernel⟩, D5⟩
  simp only [EV, Ab.isNon, args, List.map, List.length_cons, List.length_nil, List.length_singleton, List.replicate, Nat.reduceSub, Nat.reduceAdd, Nat.zero_add, List.cons_append, List.nil_append, List.getElem?_cons_zero, List.getElem?_cons_succ, List.set_cons_zero, List.set_cons_succ, Option.some.injEq, decide_eq_true_eq, Bool.not_eq_true', decide_eq_false_iff_not, ite_true, ite_false, if_true, if_false, reduceIte, Bool.false_eq_true, Bool.not_true, Bool.not_false, Bool.true_eq_false, decide_true, decide_false, Nat.reduceLeDiff, Nat.reduceLT, b3]
  refine sat_seq ?_
  by_cases b4 : sg = "assert"
  · simp only [EV, Ab.isNon, args, List.map, List.length_cons, List.length_nil, List.length_singleton, List.replicate, Nat.reduceSub, Nat.reduceAdd, Nat.zero_add, List.cons_append, List.nil_append, List.getElem?_cons_zero, List.getElem?_cons_succ, List.set_cons_zero, List.set_cons_succ, Option.some.injEq, decide_eq_true_eq, Bool.not_eq_true', decide_eq_false_iff_not, ite_true, ite_false, if_true, if_false, reduceIte, Bool.false_eq_true, Bool.not_true, Bool.not_false, Bool.true_eq_false, decide_true, decide_false, Nat.reduceLeDiff, Nat.reduceLT, b4]
    exact ⟨⟨_, ln_assert ht hn, _, _, rfl, by decide +kernel, by decide +kernel⟩, D5⟩
  simp only [EV, Ab.isNon, args, List.map, List.length_cons, List.length_nil, List.length_singleton, List.replicate, Nat.reduceSub, Nat.reduceAdd, Nat.zero_add, List.cons_append, List.nil_append, List.getElem?_cons_zero, List.getElem?_cons_succ, List.set_cons_zero, List.set_cons_succ, Option.some.injEq, decide_eq_true_eq, Bool.not_eq_true', decide_eq_false_iff_not, ite_true, ite_false, if_true, if_false, reduceIte, Bool.false_eq_true, Bool.not_true, Bool.not_false, Bool.true_eq_false, decide_true, decide_false, Nat.reduceLeDiff, Nat.reduceLT, b4]
  refine sat_seq ?_
  by_cases b5 : sg = "return"
  · simp only [EV, Ab.isNon, args, List.map, List.length_cons, List.length_nil, List.length_singleton, List.replicate, Nat.reduceSub, Nat.reduceAdd, Nat.zero_add, List.cons_append, List.nil_append, List.getElem?_cons_zero, List.getElem?_cons_succ, List.set_cons_zero, List.set_cons_succ, Option.some.injEq, decide_eq_true_eq, Bool.not_eq_true', decide_eq_false_iff_not, ite_true, ite_false, if_true, if_false, reduceIte, Bool.false_eq_true, Bool.not_true, Bool.not_false, Bool.true_eq_false, decide_true, decide_false, Nat.reduceLeDiff, Nat.reduceLT, b5]
    refine Sat.imp (one_d D5.src (by simp) (by simp)) fun e B6 ⟨hd, D6⟩ => ?_
    refine ⟨?_, D5.trans D6⟩
    simp only [List.mem_cons, List.not_mem_nil, or_false] at hd
    rcases hd with rfl | rfl | rfl
    · exact ⟨_, ln_retn, _, _, rfl, by decide +kernel, by decide +kernel⟩
    · exact ⟨_, ln_ret ht hn, _, _, rfl, by decide +kernel, by decide +kernel⟩
    · exact ⟨_, ln_ret ht hn, _, _, rfl, by decide +kernel, by decide +kernel⟩
  simp only [EV, Ab.isNon, args, List.map, List.length_cons, List.length_nil, List.length_singleton, List.replicate, Nat.reduceSub, Nat.reduceAdd, Nat.zero_add, List.cons_append, List.nil_append, List.getElem?_cons_zero, List.getElem?_cons_succ, List.set_cons_zero, List.set_cons_succ, Option.some.injEq, decide_eq_true_eq, Bool.not_eq_true', decide_eq_false_iff_not, ite_true, ite_false, if_true, if_false, reduceIte, Bool.false_eq_true, Bool.not_true, Bool.not_false, Bool.true_eq_false, decide_true, decide_false, Nat.reduceLeDiff, Nat.reduceLT, b5]
  refine sat_seq ?_
  by_cases b6 : sg = "put"
  · obtain ⟨n', hn', dp'⟩ := deep_of (h.dr D5)
    simp only [EV, Ab.isNon, args, List.map, List.length_cons, List.length_nil, List.length_singleton, List.replicate, Nat.reduceSub, Nat.reduceAdd, Nat.zero_add, List.cons_append, List.nil_append, List.getElem?_cons_zero, List.getElem?_cons_succ, List.set_cons_zero, List.set_cons_succ, Option.some.injEq, decide_eq_true_eq, Bool.not_eq_true', decide_eq_false_iff_not, ite_true, ite_false, if_true, if_false, reduceIte, Bool.false_eq_true, Bool.not_true, Bool.not_false, Bool.true_eq_false, decide_true, decide_false, Nat.reduceLeDiff, Nat.reduceLT, b6, dp']
    refine Sat.imp (expr_spec (h.dr D5) hn') fun e B6 ⟨⟨u, hu⟩, D6⟩ => ?_
    have ht3 : Ex 3 d t := ht.up hn
    have hu3 : Ex 3 e u := hu.up hn'
    exact ⟨⟨_, ln_put hx ht3 hu3 (Nat.le_refl _), _, _, rfl, by decide +kernel, by decide +kernel⟩, D5.trans D6⟩
  simp only [EV, Ab.isNon, args, List.map, List.length_cons, List.length_nil, List.length_singleton, List.replicate, Nat.reduceSub, Nat.reduceAdd, Nat.zero_add, List.cons_append, List.nil_append, List.getElem?_cons_zero, List.getElem?_cons_succ, List.set_cons_zero, List.set_cons_succ, Option.some.injEq, decide_eq_true_eq, Bool.not_eq_true', decide_eq_false_iff_not, ite_true, ite_false, if_true, if_false, reduceIte, Bool.false_eq_true, Bool.not_true, Bool.not_false, Bool.true_eq_false, decide_true, decide_false, Nat.reduceLeDiff, Nat.reduceLT, b6]
  refine sat_seq ?_
  by_cases b7 : sg = "call"
  · simp only [EV, Ab.isNon, args, List.map, List.length_cons, List.length_nil, List.length_singleton, List.replicate, Nat.reduceSub, Nat.reduceAdd, Nat.zero_add, List.cons_append, List.nil_append, List.getElem?_cons_zero, List.getElem?_cons_succ, List.set_cons_zero, List.set_cons_succ, Option.some.injEq, decide_eq_true_eq, Bool.not_eq_true', decide_eq_false_iff_not, ite_true, ite_false, if_true, if_false, reduceIte, Bool.false_eq_true, Bool.not_true, Bool.not_false, Bool.true_eq_false, decide_true, decide_false, Nat.reduceLeDiff, Nat.reduceLT, b7]
    refine sat_seq ?_
    simp only [EV, Ab.isNon, args, List.map, List.length_cons, List.length_nil, List.length_singleton, List.replicate, Nat.reduceSub, Nat.reduceAdd, Nat.zero_add, List.cons_append, List.nil_append, List.getElem?_cons_zero, List.getElem?_cons_succ, List.set_cons_zero, List.set_cons_succ, Option.some.injEq, decide_eq_true_eq, Bool.not_eq_true', decide_eq_false_iff_not, ite_true, ite_false, if_true, if_false, reduceIte, Bool.false_eq_true, Bool.not_true, Bool.not_false, Bool.true_eq_false, decide_true, decide_false, Nat.reduceLeDiff, Nat.reduceLT]
    refine Sat.imp (pick_pos D5.src (n := 4) (by decide) (by decide)) fun e B6 ⟨⟨v, ev, v0, v1⟩, D6⟩ => ?_
    subst ev
    have D6 := D5.trans D6
    have s6 : s < B6.length := D6.src.lt
    simp only [EV, Ab.isNon, args, List.map, List.length_cons, List.length_nil, List.length_singleton, List.replicate, Nat.reduceSub, Nat.reduceAdd, Nat.zero_add, List.cons_append, List.nil_append, List.getElem?_cons_zero, List.getElem?_cons_succ, List.set_cons_zero, List.set_cons_succ, Option.some.injEq, decide_eq_true_eq, Bool.not_eq_true', decide_eq_false_iff_not, ite_true, ite_false, if_true, if_false, reduceIte, Bool.false_eq_true, Bool.not_true, Bool.not_false, Bool.true_eq_false, decide_true, decide_false, Nat.reduceLeDiff, Nat.reduceLT, wipeA]
    rw [if_pos (inRg_of (by omega) (by omega))]
    refine comp_drawG (α := Et) (·.1) (fun a => Ex 1 a.1 a.2) D6.src (fun k C DC => ?_) (by omega) fun q C ql qe DC hX => ?_
    · simp only [EV, Ab.isNon, args, List.map, List.length_cons, List.length_nil, List.length_singleton, List.replicate, Nat.reduceSub, Nat.reduceAdd, Nat.zero_add, List.cons_append, List.nil_append, List.getElem?_cons_zero, List.getElem?_cons_succ, List.set_cons_zero, List.set_cons_succ, Option.some.injEq, decide_eq_true_eq, Bool.not_eq_true', decide_eq_false_iff_not, ite_true, ite_false, if_true, if_false, reduceIte, Bool.false_eq_true, Bool.not_true, Bool.not_false, Bool.true_eq_false, decide_true, decide_false, Nat.reduceLeDiff, Nat.reduceLT]
      exact Sat.imp (expr_spec (n := 1) (h.dr (D6.trans DC)) (by decide)) fun e C2 ⟨⟨u, hu⟩, D7⟩ => ⟨⟨(e, u), rfl, hu⟩, D7⟩
    · have D7 := D6.trans DC
      have Xs : B6.length ≠ s := by omega
      have hX2 := (Gr.app (A := C) (B := [AO.lst [.non, .str x]])).keep _ _ hX
      have D8 := D7.trans (.app D7.src [AO.lst [.non, .str x]])
      refine Sat.imp (one_d D7.src (by simp) (by simp)) fun e C2 ⟨hd, D9⟩ => ?_
      have hX3 : C2[B6.length]? = some (.lst (q.map (·.1))) := D9.keep _ _ Xs hX
      simp only [EV, Ab.isNon, args, List.map, List.length_cons, List.length_nil, List.length_singleton, List.replicate, Nat.reduceSub, Nat.reduceAdd, Nat.zero_add, List.cons_append, List.nil_append, List.getElem?_cons_zero, List.getElem?_cons_succ, List.set_cons_zero, List.set_cons_succ, Option.some.injEq, decide_eq_true_eq, Bool.not_eq_true', decide_eq_false_iff_not, ite_true, ite_false, if_true, if_false, reduceIte, Bool.false_eq_true, Bool.not_true, Bool.not_false, Bool.true_eq_false, decide_true, decide_false, Nat.reduceLeDiff, Nat.reduceLT, ev_tup_ofL (rdL_l hX3)]
      refine ⟨?_, D7.trans D9⟩
      simp only [List.mem_cons, List.not_mem_nil, or_false] at hd
      rcases hd with rfl | rfl
      · exact ⟨_, ln_call (tg := none) (fun x e => by cases e) hy (by omega) qe, _, _, rfl, by decide +kernel, by decide +kernel⟩
      · exact ⟨_, ln_call (tg := some x) (fun x e => by cases e; exact hx) hy (by omega) qe, _, _, rfl, by decide +kernel, by decide +kernel⟩
  simp only [EV, Ab.isNon, args, List.map, List.length_cons, List.length_nil, List.length_singleton, List.replicate, Nat.reduceSub, Nat.reduceAdd, Nat.zero_add, List.cons_append, List.nil_append, List.getElem?_cons_zero, List.getElem?_cons_succ, List.set_cons_zero, List.set_cons_succ, Option.some.injEq, decide_eq_true_eq, Bool.not_eq_true', decide_eq_false_iff_not, ite_true, ite_false, if_true, if_false, reduceIte, Bool.false_eq_true, Bool.not_true, Bool.not_false, Bool.true_eq_false, decide_true, decide_false, Nat.reduceLeDiff, Nat.reduceLT, b7]
  refine ⟨?_, D5⟩
  have : sg = "store" ∨ sg = "get" := by
    simp only [sgs, List.mem_cons, List.not_mem_nil, or_false] at hsg
    rcases hsg with e | e | e | e | e | e | e | e | e | e | e | e
    · exact absurd e b3
    · rw [e] at b1; exact absurd b1 (by decide +kernel)
    · rw [e] at b1; exact absurd b1 (by decide +kernel)
    · rw [e] at b1; exact absurd b1 (by decide +kernel)
    · exact absurd e b2
    · exact .inl e
    · exact .inr e
    · exact absurd e b6
    · exact absurd e b7
    · exact absurd e b5
    · exact absurd e b0
    · exact absurd e b4
  rcases this with rfl | rfl
  · exact ⟨_, ln_store hx hy ht hn, _, _, rfl, by decide +kernel, by decide +kernel⟩
  · exact ⟨_, ln_get hx hy ht hn, _, _, rfl, by decide +kernel, by decide +kernel⟩
end
end Law

namespace Law
open PySem PySem.Spec PyProof.Rows L2 Ab
open scoped Classical
/-! ### drawn bodies -/
theorem Bt.dats_le : ∀ b : Bt, b.dats.length ≤ b.sz
  | .nil => Nat.le_refl _
  | .lf _ _ r => Nat.succ_le_succ r.dats_le
  | .whl _ _ a r => by have := r.dats_le; show r.dats.length + 1 ≤ a.sz + r.sz + 1; omega
  | .ite _ _ a c r => by have := r.dats_le; show r.dats.length + 1 ≤ a.sz + c.sz + r.sz + 1; omega
/-- all cells but two are as they were -/
structure Dx (s w : Nat) (A A' : AH) : Prop where
  le : A.length ≤ A'.length
  keep : ∀ i o, i ≠ s → i ≠ w → A[i]? = some o → A'[i]? = some o
def Wu (s w nm : Nat) (ns : List Str) (lf : Nat) (A : AH) : Prop := ∃ kvs, Wv s w nm lf kvs ns A
section
variable {s w nm lf : Nat} {ns : List Str} {A B C : AH}
theorem Dx.refl : Dx s w A A := ⟨Nat.le_refl _, fun _ _ _ _ h => h⟩
theorem Dx.trans (h : Dx s w A B) (h' : Dx s w B C) : Dx s w A C := ⟨Nat.le_trans h.le h'.le, fun i o a b e => h'.keep i o a b (h.keep i o a b e)⟩
theorem dr_dx (h : Dr s A B) : Dx s w A B := ⟨h.le, fun i o a _ e => h.keep i o a e⟩
theorem Dx.set (h : Dx s w A B) {o : AO} : Dx s w A (B.set w o) := ⟨by simpa using h.le, fun i o' a b e => by rw [List.getElem?_set_ne (Ne.symm b)]; exact h.keep i o' a b e⟩
theorem Dx.setN (h : Dx s w A B) {n : Nat} {o : AO} (l : A.length ≤ n) : Dx s w A (B.set n o) := ⟨by simpa using h.le, fun i o' a b e => by
  have := at_lt e
  rw [List.getElem?_set_ne (by omega)]; exact h.keep i o' a b e⟩
theorem Wu.wt (h : Wu s w nm ns lf A) : Wt s w lf A := by obtain ⟨kvs, h⟩ := h; exact ⟨nm, kvs, ns, h⟩
theorem Wu.dr (h : Wu s w nm ns lf A) (d : Dr s A B) : Wu s w nm ns lf B := by obtain ⟨kvs, h⟩ := h; exact ⟨kvs, h.dr d⟩
theorem Wu.sr (h : Wu s w nm ns lf A) : Sr s A := by obtain ⟨kvs, h⟩ := h; exact h.sr
theorem Wu.lt (h : Wu s w nm ns lf A) : s < A.length ∧ w < A.length ∧ nm < A.length := by obtain ⟨kvs, h⟩ := h; exact ⟨h.sr.lt, at_lt h.hw, at_lt h.hn⟩
theorem Wu.setN (h : Wu s w nm ns lf A) {n : Nat} {o : AO} (h1 : n ≠ s) (h2 : n ≠ w) (h3 : n ≠ nm) : Wu s w nm ns lf (A.set n o) := by
  obtain ⟨kvs, h⟩ := h
  have k : ∀ i o', n ≠ i → A[i]? = some o' → (A.set n o)[i]? = some o' := fun i o' ne e => by rw [List.getElem?_set_ne ne]; exact e
  refine ⟨kvs, ⟨?_, h.ws, h.ms, h.mw, k _ _ h2 h.hw, h.g1, h.g2, h.g3, h.g4, h.g5, k _ _ h3 h.hn, h.nl, h.nc, h.kl⟩⟩
  obtain ⟨c, r, q, e⟩ := h.sr
  exact ⟨c, r, q, k _ _ h1 e⟩
theorem Wu.left (h : Wu s w nm ns lf A) : ixD (.ref w) (.str "left") A = .ok (.int (lf : Nat)) A := by obtain ⟨kvs, h⟩ := h; exact ixk h.hw h.g5
theorem Wu.less (h : Wu s w nm ns lf A) {v : Int} {lf' : Nat} (hv : v = (lf' : Nat)) : ∃ o, stD (.ref w) (.str "left") (.int v) A = .ok () (A.set w o) ∧ Wu s w nm ns lf' (A.set w o) := by
  subst hv
  obtain ⟨kvs, h⟩ := h
  have kl := h.kl
  refine ⟨_, st_k h.hw (by omega), setK kvs (.inr "left") (.int (lf' : Nat)), ?_⟩
  have k : ∀ i o o', w ≠ i → A[i]? = some o' → (A.set w o)[i]? = some o' := fun i o o' ne e => by rw [List.getElem?_set_ne ne]; exact e
  have ne : ∀ {x : Str} {v : D}, x ≠ "left" → getK kvs (.inr x) = some v → getK (setK kvs (.inr "left") (.int (lf' : Nat))) (.inr x) = some v := fun n e => by
    rw [getK_set, if_neg (fun q => n (by injection q))]; exact e
  refine ⟨?_, h.ws, h.ms, h.mw, at_set (at_lt h.hw), ne (by decide +kernel) h.g1, ?_, ?_, ?_, by rw [getK_set, if_pos rfl], k _ _ _ (Ne.symm h.mw) h.hn, h.nl, h.nc, ?_⟩
  · obtain ⟨c, r, q, e⟩ := h.sr
    exact ⟨c, r, q, k _ _ _ h.ws e⟩
  · obtain ⟨v, e, l⟩ := h.g2; exact ⟨v, ne (by decide +kernel) e, l⟩
  · obtain ⟨v, e, l⟩ := h.g3; exact ⟨v, ne (by decide +kernel) e, l⟩
  · obtain ⟨v, e, l⟩ := h.g4; exact ⟨v, ne (by decide +kernel) e, l⟩
  · have m : (Sum.inr "left" : Key) ∈ kvs.map (·.1) := by
      have g := h.g5
      unfold getK at g
      obtain ⟨p, hp, e⟩ := Option.map_eq_some_iff.mp g
      have := List.find?_some hp
      exact List.mem_map.mpr ⟨p, List.mem_of_find?_eq_some hp, of_decide_eq_true this⟩
    have e := keys_set kvs (.inr "left") (.int (lf' : Nat))
    rw [if_pos m] at e
    have := congrArg List.length e
    rw [List.length_map, List.length_map] at this
    omega
def BOK (s w nm : Nat) (ns : List Str) (m : Nat) : Prop := ∀ (u : Int) (d lf : Nat) (A : AH), 0 ≤ u → u ≤ 20 → d < m → d ≤ 6 → lf ≤ 40 → Wu s w nm ns lf A →
  Sat (m__law_body m [.ref s, .ref w, .int u, .int (d : Nat)] A) fun v A' => Dx s w A A' ∧ ∃ (b : Bt) (lf' : Nat), v = .tup b.dats ∧ b.ok ∧ b.dep ≤ d ∧ b.sz + lf' ≤ lf ∧ Wu s w nm ns lf' A'
theorem lst_bt {d : D} (h : Lst d) : ∃ t, (Bt.lf d t .nil).ok := by
  obtain ⟨t, ln, u, ds, e, h1, h2⟩ := h
  exact ⟨t, ln, ⟨u, ds, e, h1, h2⟩, trivial⟩
theorem body_spec : ∀ m : Nat, BOK s w nm ns m := by
  intro m
  induction m with
  | zero => intro u d lf A _ _ h; omega
  | succ m ih =>
    intro u d lf A u0 u1 hd d6 hl h
    obtain ⟨sl, wl, nl⟩ := h.lt
    refine sat_body rfl (sat_seq ?_)
    simp only [EV, Ab.isNon, args, List.map, List.length_cons, List.length_nil, List.length_singleton, List.replicate, Nat.reduceSub, Nat.reduceAdd, Nat.zero_add, List.cons_append, List.nil_append, List.getElem?_cons_zero, List.getElem?_cons_succ, List.set_cons_zero, List.set_cons_succ, Option.some.injEq, decide_eq_true_eq, Bool.not_eq_true', decide_eq_false_iff_not, ite_true, ite_false, if_true, if_false, reduceIte, Bool.false_eq_true, Bool.not_true, Bool.not_false, Bool.true_eq_false, decide_true, decide_false, Nat.reduceLeDiff, Nat.reduceLT]
    have hL : (A ++ [AO.lst []])[A.length]? = some (.lst Bt.nil.dats) := at_new
    have D0 := Dr.app h.sr [AO.lst []]
    have h1 := h.dr D0
    generalize A ++ [AO.lst []] = A1 at *
    obtain ⟨L, eL⟩ : ∃ L, A.length = L := ⟨_, rfl⟩
    rw [eL] at hL
    simp only [eL]
    have Ls : L ≠ s := by omega
    have Lw : L ≠ w := by omega
    have Ln' : L ≠ nm := by omega
    refine sat_seq ?_
    simp only [EV, Ab.isNon, args, List.map, List.length_cons, List.length_nil, List.length_singleton, List.replicate, Nat.reduceSub, Nat.reduceAdd, Nat.zero_add, List.cons_append, List.nil_append, List.getElem?_cons_zero, List.getElem?_cons_succ, List.set_cons_zero, List.set_cons_succ, Option.some.injEq, decide_eq_true_eq, Bool.not_eq_true', decide_eq_false_iff_not, ite_true, ite_false, if_true, if_false, reduceIte, Bool.false_eq_true, Bool.not_true, Bool.not_false, Bool.true_eq_false, decide_true, decide_false, Nat.reduceLeDiff, Nat.reduceLT]
    refine Sat.imp (pick_pos h1.sr (n := u + 1) (by omega) (by omega)) fun v A2 ⟨⟨n, e, n0, n1⟩, D2⟩ => ?_
    subst e
    have hL := D2.keep _ _ Ls hL
    have h2 := h1.dr D2
    have X2 : Dx s w A A2 := dr_dx (D0.trans D2)
    simp only [EV, Ab.isNon, args, List.map, List.length_cons, List.length_nil, List.length_singleton, List.replicate, Nat.reduceSub, Nat.reduceAdd, Nat.zero_add, List.cons_append, List.nil_append, List.getElem?_cons_zero, List.getElem?_cons_succ, List.set_cons_zero, List.set_cons_succ, Option.some.injEq, decide_eq_true_eq, Bool.not_eq_true', decide_eq_false_iff_not, ite_true, ite_false, if_true, if_false, reduceIte, Bool.false_eq_true, Bool.not_true, Bool.not_false, Bool.true_eq_false, decide_true, decide_false, Nat.reduceLeDiff, Nat.reduceLT]
    rw [if_pos (inRg_of (by omega) (by omega))]
    refine range_inv (fun i σ B => Dx s w A B ∧ ∃ (b : Bt) (lf' : Nat) (x5 x6 x7 x8 : Option D), b.ok ∧ b.dep ≤ d ∧ b.sz + lf' ≤ lf ∧ Wu s w nm ns lf' B ∧ B[L]? = some (.lst b.dats) ∧ σ = [some (.ref s), some (.ref w), some (.int u), some (.int (d : Nat)), some (.ref L), x5, x6, x7, x8])
      (fun i σ B hi ⟨XB, b, lf', x5, x6, x7, x8, bo, bd, bs, hB, hL, hσ⟩ => ?_) (fun σ B ⟨XB, b, lf', x5, x6, x7, x8, bo, bd, bs, hB, hL, hσ⟩ => ?_) ⟨X2, .nil, lf, none, none, none, none, trivial, Nat.zero_le _, by show 0 + _ ≤ _; omega, h2, hL, rfl⟩
    · subst hσ
      by_cases l0 : (0 : Int) < (lf' : Nat)
      · simp only [EV, Ab.isNon, args, List.map, List.length_cons, List.length_nil, List.length_singleton, List.replicate, Nat.reduceSub, Nat.reduceAdd, Nat.zero_add, List.cons_append, List.nil_append, List.getElem?_cons_zero, List.getElem?_cons_succ, List.set_cons_zero, List.set_cons_succ, Option.some.injEq, decide_eq_true_eq, Bool.not_eq_true', decide_eq_false_iff_not, ite_true, ite_false, if_true, if_false, reduceIte, Bool.false_eq_true, Bool.not_true, Bool.not_false, Bool.true_eq_false, decide_true, decide_false, Nat.reduceLeDiff, Nat.reduceLT, hB.left, l0]
        obtain ⟨lq, rfl⟩ : ∃ q, lf' = q + 1 := ⟨lf' - 1, by omega⟩
        refine sat_seq ?_
        obtain ⟨o, st, hB2⟩ := hB.less (v := ((lq + 1 : Nat) : Int) - 1) (lf' := lq) (by omega)
        simp only [EV, Ab.isNon, args, List.map, List.length_cons, List.length_nil, List.length_singleton, List.replicate, Nat.reduceSub, Nat.reduceAdd, Nat.zero_add, List.cons_append, List.nil_append, List.getElem?_cons_zero, List.getElem?_cons_succ, List.set_cons_zero, List.set_cons_succ, Option.some.injEq, decide_eq_true_eq, Bool.not_eq_true', decide_eq_false_iff_not, ite_true, ite_false, if_true, if_false, reduceIte, Bool.false_eq_true, Bool.not_true, Bool.not_false, Bool.true_eq_false, decide_true, decide_false, Nat.reduceLeDiff, Nat.reduceLT, hB.left, st]
        have hL : (B.set w o)[L]? = some (.lst b.dats) := by rw [List.getElem?_set_ne (Ne.symm Lw)]; exact hL
        have XB := XB.set (o := o)
        generalize B.set w o = B2 at *
        refine sat_seq ?_
        simp only [EV, Ab.isNon, args, List.map, List.length_cons, List.length_nil, List.length_singleton, List.replicate, Nat.reduceSub, Nat.reduceAdd, Nat.zero_add, List.cons_append, List.nil_append, List.getElem?_cons_zero, List.getElem?_cons_succ, List.set_cons_zero, List.set_cons_succ, Option.some.injEq, decide_eq_true_eq, Bool.not_eq_true', decide_eq_false_iff_not, ite_true, ite_false, if_true, if_false, reduceIte, Bool.false_eq_true, Bool.not_true, Bool.not_false, Bool.true_eq_false, decide_true, decide_false, Nat.reduceLeDiff, Nat.reduceLT]
        refine Sat.imp (pick_pos hB2.sr (n := 5) (by decide) (by decide)) fun e B3 ⟨⟨c, e1, c0, c1⟩, D3⟩ => ?_
        subst e1
        have hL := D3.keep _ _ Ls hL
        have hB3 := hB2.dr D3
        have X3 := XB.trans (dr_dx D3)
        simp only [EV, Ab.isNon, args, List.map, List.length_cons, List.length_nil, List.length_singleton, List.replicate, Nat.reduceSub, Nat.reduceAdd, Nat.zero_add, List.cons_append, List.nil_append, List.getElem?_cons_zero, List.getElem?_cons_succ, List.set_cons_zero, List.set_cons_succ, Option.some.injEq, decide_eq_true_eq, Bool.not_eq_true', decide_eq_false_iff_not, ite_true, ite_false, if_true, if_false, reduceIte, Bool.false_eq_true, Bool.not_true, Bool.not_false, Bool.true_eq_false, decide_true, decide_false, Nat.reduceLeDiff, Nat.reduceLT]
        have put : ∀ {C : AH} {b' : Bt} {d' : D} {lf2 : Nat}, Dx s w A C → Wu s w nm ns lf2 C → C[L]? = some (.lst b.dats) → b'.dats = [d'] → appendD (.ref L) [d'] C = .ok .non (C.set L (.lst (b.app b').dats)) ∧ Dx s w A (C.set L (.lst (b.app b').dats)) ∧ Wu s w nm ns lf2 (C.set L (.lst (b.app b').dats)) ∧ (C.set L (.lst (b.app b').dats))[L]? = some (.lst (b.app b').dats) := fun {C b' d' lf2} X h hL e => by
          have bl := b.dats_le
          rw [Bt.app_dats, e]
          exact ⟨ev_app hL (by omega), X.setN (by omega), h.setN Ls Lw Ln', at_set (at_lt hL)⟩
        have leafdo : Sat (m__law_leaf [.ref s, .ref w] B3) fun a A1 => Sat (appendD (.ref L) [a] A1) fun _ B => Dx s w A B ∧ ∃ (b : Bt) (lf' : Nat) (x5' x6' x7' x8' : Option D), b.ok ∧ b.dep ≤ d ∧ b.sz + lf' ≤ lf ∧ Wu s w nm ns lf' B ∧ B[L]? = some (.lst b.dats) ∧ [some (D.ref s), some (.ref w), some (.int u), some (.int (d : Nat)), some (.ref L), some (.int (0 + (i : Nat))), some (.int c), x7, x8] = [some (D.ref s), some (.ref w), some (.int u), some (.int (d : Nat)), some (.ref L), x5', x6', x7', x8'] := by
          refine Sat.imp (leafS_spec hB3.wt) fun e B4 ⟨le, D4⟩ => ?_
          obtain ⟨t, ok⟩ := lst_bt le
          have hL := D4.keep _ _ Ls hL
          obtain ⟨p1, p2, p3, p4⟩ := put (b' := .lf e t .nil) (X3.trans (dr_dx D4)) (hB3.dr D4) hL rfl
          rw [p1]
          exact ⟨p2, b.app (.lf e t .nil), lq, _, _, _, _, b.app_ok _ bo ok, b.app_dep _ d bd (Nat.zero_le _), by rw [Bt.app_sz]; show b.sz + 1 + lq ≤ lf; omega, p3, p4, rfl⟩
        by_cases d0 : ((d : Nat) : Int) = 0
        · simp only [eq_true d0, EV, Ab.isNon, args, List.map, List.length_cons, List.length_nil, List.length_singleton, List.replicate, Nat.reduceSub, Nat.reduceAdd, Nat.zero_add, List.cons_append, List.nil_append, List.getElem?_cons_zero, List.getElem?_cons_succ, List.set_cons_zero, List.set_cons_succ, Option.some.injEq, decide_eq_true_eq, Bool.not_eq_true', decide_eq_false_iff_not, ite_true, ite_false, if_true, if_false, reduceIte, Bool.false_eq_true, Bool.not_true, Bool.not_false, Bool.true_eq_false, decide_true, decide_false, Nat.reduceLeDiff, Nat.reduceLT, ty_l hL]
          exact leafdo.imp fun _ _ h => h.imp fun _ _ h => h
        by_cases c2 : 2 < c
        · simp only [d0, eq_true c2, EV, Ab.isNon, args, List.map, List.length_cons, List.length_nil, List.length_singleton, List.replicate, Nat.reduceSub, Nat.reduceAdd, Nat.zero_add, List.cons_append, List.nil_append, List.getElem?_cons_zero, List.getElem?_cons_succ, List.set_cons_zero, List.set_cons_succ, Option.some.injEq, decide_eq_true_eq, Bool.not_eq_true', decide_eq_false_iff_not, ite_true, ite_false, if_true, if_false, reduceIte, Bool.false_eq_true, Bool.not_true, Bool.not_false, Bool.true_eq_false, decide_true, decide_false, Nat.reduceLeDiff, Nat.reduceLT, ty_l hL]
          exact leafdo.imp fun _ _ h => h.imp fun _ _ h => h
        simp only [d0, c2, EV, Ab.isNon, args, List.map, List.length_cons, List.length_nil, List.length_singleton, List.replicate, Nat.reduceSub, Nat.reduceAdd, Nat.zero_add, List.cons_append, List.nil_append, List.getElem?_cons_zero, List.getElem?_cons_succ, List.set_cons_zero, List.set_cons_succ, Option.some.injEq, decide_eq_true_eq, Bool.not_eq_true', decide_eq_false_iff_not, ite_true, ite_false, if_true, if_false, reduceIte, Bool.false_eq_true, Bool.not_true, Bool.not_false, Bool.true_eq_false, decide_true, decide_false, Nat.reduceLeDiff, Nat.reduceLT]
        clear leafdo
        obtain ⟨q, rfl⟩ : ∃ q, d = q + 1 := ⟨d - 1, by omega⟩
        have kq : (((q + 1 : Nat) : Int)) - 1 = ((q : Nat) : Int) := by omega
        refine sat_seq ?_
        obtain ⟨dp, hdp, edp⟩ := deep_of hB3.wt
        simp only [EV, Ab.isNon, args, List.map, List.length_cons, List.length_nil, List.length_singleton, List.replicate, Nat.reduceSub, Nat.reduceAdd, Nat.zero_add, List.cons_append, List.nil_append, List.getElem?_cons_zero, List.getElem?_cons_succ, List.set_cons_zero, List.set_cons_succ, Option.some.injEq, decide_eq_true_eq, Bool.not_eq_true', decide_eq_false_iff_not, ite_true, ite_false, if_true, if_false, reduceIte, Bool.false_eq_true, Bool.not_true, Bool.not_false, Bool.true_eq_false, decide_true, decide_false, Nat.reduceLeDiff, Nat.reduceLT, edp]
        refine Sat.imp (expr_spec hB3.wt hdp) fun e B4 ⟨⟨t, ht⟩, D4⟩ => ?_
        have hL := D4.keep _ _ Ls hL
        have hB4 := hB3.dr D4
        have X4 := X3.trans (dr_dx D4)
        refine sat_seq ?_
        simp only [EV, Ab.isNon, args, List.map, List.length_cons, List.length_nil, List.length_singleton, List.replicate, Nat.reduceSub, Nat.reduceAdd, Nat.zero_add, List.cons_append, List.nil_append, List.getElem?_cons_zero, List.getElem?_cons_succ, List.set_cons_zero, List.set_cons_succ, Option.some.injEq, decide_eq_true_eq, Bool.not_eq_true', decide_eq_false_iff_not, ite_true, ite_false, if_true, if_false, reduceIte, Bool.false_eq_true, Bool.not_true, Bool.not_false, Bool.true_eq_false, decide_true, decide_false, Nat.reduceLeDiff, Nat.reduceLT, kq]
        refine Sat.imp (ih 3 q lq B4 (by decide) (by decide) (by omega) (by omega) (by omega) hB4) fun v B5 ⟨X5, a, l5, e5, ao, ad, as, hB5⟩ => ?_
        subst e5
        have hL := X5.keep _ _ Ls Lw hL
        have X5 := X4.trans X5
        by_cases cz : c = 0
        · simp only [cz, EV, Ab.isNon, args, List.map, List.length_cons, List.length_nil, List.length_singleton, List.replicate, Nat.reduceSub, Nat.reduceAdd, Nat.zero_add, List.cons_append, List.nil_append, List.getElem?_cons_zero, List.getElem?_cons_succ, List.set_cons_zero, List.set_cons_succ, Option.some.injEq, decide_eq_true_eq, Bool.not_eq_true', decide_eq_false_iff_not, ite_true, ite_false, if_true, if_false, reduceIte, Bool.false_eq_true, Bool.not_true, Bool.not_false, Bool.true_eq_false, decide_true, decide_false, Nat.reduceLeDiff, Nat.reduceLT, ty_l hL]
          obtain ⟨p1, p2, p3, p4⟩ := put (b' := .whl e ("while" ++ " " ++ t) a .nil) X5 hB5 hL rfl
          rw [p1]
          simp only [EV, Ab.isNon, args, List.map, List.length_cons, List.length_nil, List.length_singleton, List.replicate, Nat.reduceSub, Nat.reduceAdd, Nat.zero_add, List.cons_append, List.nil_append, List.getElem?_cons_zero, List.getElem?_cons_succ, List.set_cons_zero, List.set_cons_succ, Option.some.injEq, decide_eq_true_eq, Bool.not_eq_true', decide_eq_false_iff_not, ite_true, ite_false, if_true, if_false, reduceIte, Bool.false_eq_true, Bool.not_true, Bool.not_false, Bool.true_eq_false, decide_true, decide_false, Nat.reduceLeDiff, Nat.reduceLT, turn_]
          refine ⟨p2, b.app (.whl e _ a .nil), l5, _, _, _, _, b.app_ok _ bo ⟨fun ds => ln_while ht hdp, ao, trivial⟩, b.app_dep _ _ bd (by show max (a.dep + 1) 0 ≤ q + 1; omega), ?_, p3, p4, rfl⟩
          rw [Bt.app_sz]; show b.sz + (a.sz + 0 + 1) + l5 ≤ lf; omega
        by_cases co : c = 1
        · simp only [cz, co, EV, Ab.isNon, args, List.map, List.length_cons, List.length_nil, List.length_singleton, List.replicate, Nat.reduceSub, Nat.reduceAdd, Nat.zero_add, List.cons_append, List.nil_append, List.getElem?_cons_zero, List.getElem?_cons_succ, List.set_cons_zero, List.set_cons_succ, Option.some.injEq, decide_eq_true_eq, Bool.not_eq_true', decide_eq_false_iff_not, ite_true, ite_false, if_true, if_false, reduceIte, Bool.false_eq_true, Bool.not_true, Bool.not_false, Bool.true_eq_false, decide_true, decide_false, Nat.reduceLeDiff, Nat.reduceLT, ty_l hL]
          obtain ⟨p1, p2, p3, p4⟩ := put (b' := .ite e ("if" ++ " " ++ t) a .nil .nil) X5 hB5 hL rfl
          simp (decide := true) only [EV, Ab.isNon, args, List.map, List.length_cons, List.length_nil, List.length_singleton, List.replicate, Nat.reduceSub, Nat.reduceAdd, Nat.zero_add, List.cons_append, List.nil_append, List.getElem?_cons_zero, List.getElem?_cons_succ, List.set_cons_zero, List.set_cons_succ, Option.some.injEq, decide_eq_true_eq, Bool.not_eq_true', decide_eq_false_iff_not, ite_true, ite_false, if_true, if_false, reduceIte, Bool.false_eq_true, Bool.not_true, Bool.not_false, Bool.true_eq_false, decide_true, decide_false, Nat.reduceLeDiff, Nat.reduceLT]
          rw [show D.tup [D.str "if", e, .tup a.dats, .tup []] = .tup [.str "if", e, .tup a.dats, .tup Bt.nil.dats] from rfl, p1]
          simp only [EV, Ab.isNon, args, List.map, List.length_cons, List.length_nil, List.length_singleton, List.replicate, Nat.reduceSub, Nat.reduceAdd, Nat.zero_add, List.cons_append, List.nil_append, List.getElem?_cons_zero, List.getElem?_cons_succ, List.set_cons_zero, List.set_cons_succ, Option.some.injEq, decide_eq_true_eq, Bool.not_eq_true', decide_eq_false_iff_not, ite_true, ite_false, if_true, if_false, reduceIte, Bool.false_eq_true, Bool.not_true, Bool.not_false, Bool.true_eq_false, decide_true, decide_false, Nat.reduceLeDiff, Nat.reduceLT, turn_]
          refine ⟨p2, b.app (.ite e _ a .nil .nil), l5, _, _, _, _, b.app_ok _ bo ⟨fun ds => ln_if ht hdp, ao, trivial, trivial⟩, b.app_dep _ _ bd (by show max (max a.dep 0 + 1) 0 ≤ q + 1; omega), ?_, p3, p4, rfl⟩
          rw [Bt.app_sz]; show b.sz + (a.sz + 0 + 0 + 1) + l5 ≤ lf; omega
        simp only [cz, co, EV, Ab.isNon, args, List.map, List.length_cons, List.length_nil, List.length_singleton, List.replicate, Nat.reduceSub, Nat.reduceAdd, Nat.zero_add, List.cons_append, List.nil_append, List.getElem?_cons_zero, List.getElem?_cons_succ, List.set_cons_zero, List.set_cons_succ, Option.some.injEq, decide_eq_true_eq, Bool.not_eq_true', decide_eq_false_iff_not, ite_true, ite_false, if_true, if_false, reduceIte, Bool.false_eq_true, Bool.not_true, Bool.not_false, Bool.true_eq_false, decide_true, decide_false, Nat.reduceLeDiff, Nat.reduceLT, ty_l hL, kq]
        refine Sat.imp (ih 2 q l5 B5 (by decide) (by decide) (by omega) (by omega) (by omega) hB5) fun v B6 ⟨X6, a2, l6, e6, ao2, ad2, as2, hB6⟩ => ?_
        subst e6
        have hL := X6.keep _ _ Ls Lw hL
        have X6 := X5.trans X6
        obtain ⟨p1, p2, p3, p4⟩ := put (b' := .ite e ("if" ++ " " ++ t) a a2 .nil) X6 hB6 hL rfl
        rw [p1]
        simp only [EV, Ab.isNon, args, List.map, List.length_cons, List.length_nil, List.length_singleton, List.replicate, Nat.reduceSub, Nat.reduceAdd, Nat.zero_add, List.cons_append, List.nil_append, List.getElem?_cons_zero, List.getElem?_cons_succ, List.set_cons_zero, List.set_cons_succ, Option.some.injEq, decide_eq_true_eq, Bool.not_eq_true', decide_eq_false_iff_not, ite_true, ite_false, if_true, if_false, reduceIte, Bool.false_eq_true, Bool.not_true, Bool.not_false, Bool.true_eq_false, decide_true, decide_false, Nat.reduceLeDiff, Nat.reduceLT, turn_]
        refine ⟨p2, b.app (.ite e _ a a2 .nil), l6, _, _, _, _, b.app_ok _ bo ⟨fun ds => ln_if ht hdp, ao, ao2, trivial⟩, b.app_dep _ _ bd (by show max (max a.dep a2.dep + 1) 0 ≤ q + 1; omega), ?_, p3, p4, rfl⟩
        rw [Bt.app_sz]; show b.sz + (a.sz + a2.sz + 0 + 1) + l6 ≤ lf; omega
      · simp only [EV, Ab.isNon, args, List.map, List.length_cons, List.length_nil, List.length_singleton, List.replicate, Nat.reduceSub, Nat.reduceAdd, Nat.zero_add, List.cons_append, List.nil_append, List.getElem?_cons_zero, List.getElem?_cons_succ, List.set_cons_zero, List.set_cons_succ, Option.some.injEq, decide_eq_true_eq, Bool.not_eq_true', decide_eq_false_iff_not, ite_true, ite_false, if_true, if_false, reduceIte, Bool.false_eq_true, Bool.not_true, Bool.not_false, Bool.true_eq_false, decide_true, decide_false, Nat.reduceLeDiff, Nat.reduceLT, hB.left, l0, turn_]
        exact ⟨XB, b, lf', _, _, _, _, bo, bd, bs, hB, hL, rfl⟩
    · subst hσ
      simp only [EV, Ab.isNon, args, List.map, List.length_cons, List.length_nil, List.length_singleton, List.replicate, Nat.reduceSub, Nat.reduceAdd, Nat.zero_add, List.cons_append, List.nil_append, List.getElem?_cons_zero, List.getElem?_cons_succ, List.set_cons_zero, List.set_cons_succ, Option.some.injEq, decide_eq_true_eq, Bool.not_eq_true', decide_eq_false_iff_not, ite_true, ite_false, if_true, if_false, reduceIte, Bool.false_eq_true, Bool.not_true, Bool.not_false, Bool.true_eq_false, decide_true, decide_false, Nat.reduceLeDiff, Nat.reduceLT, ev_tup_ofL (rdL_l hL)]
      exact ⟨XB, b, lf', rfl, bo, bd, bs, hB⟩
end
end Law

namespace Law
open PySem PySem.Spec PyProof.Rows L2 Ab
open scoped Classical
/-! ### drawn programs -/
section
variable {s w nm lf : Nat} {ns : List Str} {A B C : AH}
theorem dx_dr (h : Dr s A B) (x : Dx s w B C) (l : A.length ≤ w) (hs : Sr s C) : Dr s A C := ⟨Nat.le_trans h.le x.le, fun i o n e => by
  have := at_lt e
  exact x.keep i o n (by omega) (h.keep i o n e), hs⟩
theorem disp_of2 {ps : List (FE × FE)} {σ : ASt} {A A1 : AH} {kds : List (Key × D)} (e : fPs ps σ (A ++ [.dic []]) = .ok kds A1) (h : A1[A.length]? = some (.dic [])) (l : kds.length ≤ 15) : fDisp ps σ A = .ok (.ref A.length) (A1.set A.length (.dic (mergeD [] kds))) := by
  unfold fDisp
  rw [e, bind_ok, h]
  exact if_pos l
theorem pick2 {x y : D} {A : AH} {P : D → AH → Prop} (h : P x (A ++ [.lst [x, y]])) : Sat (ixD (.ref A.length) (.int 0) (A ++ [.lst [x, y]])) P := by
  rw [ev_ix_r (x := x) (rdL_l at_new) (by rw [atI_pos (by decide)]; rfl)]
  exact h
theorem Wu.name (h : Wu s w nm ns lf A) (few : ns.length ≤ 9) {x : Str} (hx : x.length ≤ 40) (ne : A.length ≠ s) : stD (.ref w) (.str "names") (.ref A.length) (A ++ [AO.lst ((ns ++ [x]).map D.str)]) = .ok () ((A ++ [AO.lst ((ns ++ [x]).map D.str)]).set w (.dic (setK h.choose (.inr "names") (.ref A.length)))) ∧ Wu s w A.length (ns ++ [x]) lf ((A ++ [AO.lst ((ns ++ [x]).map D.str)]).set w (.dic (setK h.choose (.inr "names") (.ref A.length)))) := by
  have hh := h.choose_spec
  generalize h.choose = kvs at *
  have kl := hh.kl
  have wl := at_lt hh.hw
  have hw : (A ++ [AO.lst ((ns ++ [x]).map D.str)])[w]? = some (.dic kvs) := Gr.app.keep _ _ hh.hw
  refine ⟨st_k hw (by omega), setK kvs (.inr "names") (.ref A.length), ?_⟩
  have k : ∀ i o o' (A : AH), w ≠ i → A[i]? = some o' → (A.set w o)[i]? = some o' := fun i o o' A ne e => by rw [List.getElem?_set_ne ne]; exact e
  have n' : ∀ {y : Str} {v : D}, y ≠ "names" → getK kvs (.inr y) = some v → getK (setK kvs (.inr "names") (.ref A.length)) (.inr y) = some v := fun n e => by
    rw [getK_set, if_neg (fun q => n (by injection q))]; exact e
  refine ⟨?_, hh.ws, ne, by omega, at_set (at_lt hw), by rw [getK_set, if_pos rfl], ?_, ?_, ?_, n' (by decide +kernel) hh.g5, k _ _ _ _ (by omega) at_new, fun y hy => ?_, by simp; omega, ?_⟩
  · obtain ⟨c, r, q, e⟩ := hh.sr
    exact ⟨c, r, q, k _ _ _ _ hh.ws (Gr.app.keep _ _ e)⟩
  · obtain ⟨v, e, l⟩ := hh.g2; exact ⟨v, n' (by decide +kernel) e, l⟩
  · obtain ⟨v, e, l⟩ := hh.g3; exact ⟨v, n' (by decide +kernel) e, l⟩
  · obtain ⟨v, e, l⟩ := hh.g4; exact ⟨v, n' (by decide +kernel) e, l⟩
  · rcases List.mem_append.mp hy with hy | hy
    · exact hh.nl y hy
    · cases List.mem_singleton.mp hy; exact hx
  · have m : (Sum.inr "names" : Key) ∈ kvs.map (·.1) := by
      have g := hh.g1
      unfold getK at g
      obtain ⟨p, hp, e⟩ := Option.map_eq_some_iff.mp g
      have := List.find?_some hp
      exact List.mem_map.mpr ⟨p, List.mem_of_find?_eq_some hp, of_decide_eq_true this⟩
    have e := keys_set kvs (.inr "names") (.ref A.length)
    rw [if_pos m] at e
    have := congrArg List.length e
    rw [List.length_map, List.length_map] at this
    omega
end
theorem fps_cons {k v : FE} {r : List (FE × FE)} {σ : ASt} {A A1 A2 A3 : AH} {kd vd : D} {key : Key} {ps : List (Key × D)} (h1 : k σ A = .ok kd A1) (h2 : v σ A1 = .ok vd A2) (hk : Ab.keyOf kd = some key) (h3 : fPs r σ A2 = .ok ps A3) : fPs ((k, v) :: r) σ A = .ok ((key, vd) :: ps) A3 := by
  show ((k σ A).bind fun kd A1 => (v σ A1).bind fun vd A2 => match Ab.keyOf kd with
    | some key => (fPs r σ A2).bind fun ps A3 => Res.ok ((key, vd) :: ps) A3
    | none => .bad) = _
  rw [h1, bind_ok, h2, bind_ok, hk]
  show (fPs r σ A2).bind _ = _
  rw [h3, bind_ok]
theorem world_d {s : Nat} {A : AH} (hs : Sr s A) : Sat (fDisp [(fC (.str "names"), fLst (fNil)), (fC (.str "long"), fOp ixD (fLst (fCons (fC (.int 12)) (fCons (fC (.int 10)) (fNil)))) (fV 1)), (fC (.str "side"), fOp ixD (fLst (fCons (fC (.int 31623)) (fCons (fC (.int 3162)) (fNil)))) (fV 1)), (fC (.str "deep"), fOp subD (fC (.int 3)) (fV 1)), (fC (.str "left"), fOp subD (fC (.int 36)) (fOp mulD (fC (.int 6)) (fV 1)))] [some (.ref s), some (.int 0), none, none, none, none, none, none, none, none, none, none, none, none, none] A) fun d B => Dr s A B ∧ d = .ref A.length ∧ Wu s A.length (A.length + 1) [] 36 B := by
  have sl := hs.lt
  have m0 : mulOk 6 0 := mulOk_l (by decide) (by decide)
  let B1 : AH := A ++ [.dic []] ++ [.lst []]
  let B2 : AH := B1 ++ [.lst [.int 12, .int 10]]
  let B3 : AH := B2 ++ [.lst [.int 31623, .int 3162]]
  have x1 : ixD (.ref B1.length) (.int 0) B2 = .ok (.int 12) B2 := ev_ix_r (rdL_l at_new) (by rw [atI_pos (by decide)]; rfl)
  have x2 : ixD (.ref B2.length) (.int 0) B3 = .ok (.int 31623) B3 := ev_ix_r (rdL_l at_new) (by rw [atI_pos (by decide)]; rfl)
  have v1 : ∀ (A : AH), fV 1 [some (.ref s), some (.int 0), none, none, none, none, none, none, none, none, none, none, none, none, none] A = .ok (.int 0) A := fun A => ev_v rfl
  have e : fPs [(fC (.str "names"), fLst (fNil)), (fC (.str "long"), fOp ixD (fLst (fCons (fC (.int 12)) (fCons (fC (.int 10)) (fNil)))) (fV 1)), (fC (.str "side"), fOp ixD (fLst (fCons (fC (.int 31623)) (fCons (fC (.int 3162)) (fNil)))) (fV 1)), (fC (.str "deep"), fOp subD (fC (.int 3)) (fV 1)), (fC (.str "left"), fOp subD (fC (.int 36)) (fOp mulD (fC (.int 6)) (fV 1)))] [some (.ref s), some (.int 0), none, none, none, none, none, none, none, none, none, none, none, none, none] (A ++ [.dic []]) = .ok [(.inr "names", .ref (A ++ [AO.dic []]).length), (.inr "long", .int 12), (.inr "side", .int 31623), (.inr "deep", .int 3), (.inr "left", .int 36)] B3 := by
    refine fps_cons (A2 := B1) rfl rfl rfl (fps_cons (A2 := B2) rfl ?_ rfl (fps_cons (A2 := B3) rfl ?_ rfl (fps_cons (A2 := B3) rfl ?_ rfl (fps_cons (A2 := B3) rfl ?_ rfl rfl))))
    · simp only [ev_op, ev_lst, ev_cons, ev_nil, ev_c, bind_ok, v1]
      exact x1
    · simp only [ev_op, ev_lst, ev_cons, ev_nil, ev_c, bind_ok, v1]
      exact x2
    · simp only [ev_op, ev_c, bind_ok, v1]; rfl
    · simp only [ev_op, ev_c, bind_ok, v1, ev_mul m0]; rfl
  have lB1 : B1.length = A.length + 2 := by simp [B1]
  have G : Gr (A ++ [.dic []]) B3 := (Gr.app.trans .app).trans .app
  rw [disp_of2 e (G.keep _ _ at_new) (by show 5 ≤ 15; decide)]
  have D3 : Dr s A B3 := (Dr.app hs [.dic []]).trans (G.dr (Dr.app hs [.dic []]).src)
  refine ⟨D3.setN (Nat.le_refl _) hs, rfl, mergeD [] [(.inr "names", .ref (A ++ [AO.dic []]).length), (.inr "long", .int 12), (.inr "side", .int 31623), (.inr "deep", .int 3), (.inr "left", .int 36)], ?_⟩
  have le3 : A.length < B3.length := at_lt (G.keep _ _ at_new)
  have hn : B3[A.length + 1]? = some (.lst []) := by
    have : (A ++ [AO.dic []] ++ [AO.lst []])[(A ++ [AO.dic []]).length]? = some (.lst []) := at_new
    rw [List.length_append] at this
    exact (Gr.app.trans .app : Gr B1 B3).keep _ _ this
  refine ⟨(D3.setN (Nat.le_refl _) hs).src, by omega, by omega, by omega, at_set le3, ?_, ⟨12, rfl, by decide, by decide⟩, ⟨31623, rfl, by decide, by decide⟩, ⟨3, rfl, by decide⟩, rfl, ?_, fun x hx => (by cases hx), by decide, by show 5 ≤ 10; decide⟩
  · rw [List.length_append]; rfl
  · rw [List.getElem?_set_ne (by omega)]; exact hn
end Law

set_option maxHeartbeats 32000000
namespace Law
open PySem PySem.Spec PyProof.Rows L2 Ab
open scoped Classical
/-! ### the drawn program -/
theorem ixl2 {x y : D} {A : AH} : ixD (.ref A.length) (.int 0) (A ++ [AO.lst [x, y]]) = .ok x (A ++ [AO.lst [x, y]]) := ev_ix_r (rdL_l at_new) (by rw [atI_pos (by decide)]; rfl)
theorem program_spec {s : Nat} {A : AH} (hs : Sr s A) : Sat (m__law_program [.ref s, .int 0] A) fun d A' => Dr s A A' ∧ ∃ p : Gt, d = p.d ∧ GtOk p := by
  have sl := hs.lt
  refine sat_body rfl (sat_mid (fun σ B => Dr s A B ∧ ∃ w nm, A.length ≤ w ∧ Wu s w nm [] 36 B ∧ σ = [some (.ref s), some (.int 0), some (.ref w), none, none, none, none, none, none, none, none, none, none, none, none]) ?_ fun σ B ⟨DB, w, nm, wl, hW, hσ⟩ => ?_)
  · show Sat (fSet (fDisp _) 2 [some (.ref s), some (.int 0), none, none, none, none, none, none, none, none, none, none, none, none, none] A) _
    rw [ev_set, sat_bind]
    refine Sat.imp (world_d hs) fun d B ⟨DB, e, hW⟩ => ?_
    subst e
    exact ⟨_, rfl, DB, _, _, Nat.le_refl _, hW, rfl⟩
  subst hσ
  refine sat_mid (fun σ B => Dr s A B ∧ ∃ nm ns x3, Wu s w nm ns 36 B ∧ σ = [some (.ref s), some (.int 0), some (.ref w), x3, none, none, none, none, none, none, none, none, none, none, none]) ?_ fun σ B1 ⟨D1, nm, ns, x3, hW, hσ⟩ => ?_
  · simp only [EV, Ab.isNon, args, List.map, List.length_cons, List.length_nil, List.length_singleton, List.replicate, Nat.reduceSub, Nat.reduceAdd, Nat.zero_add, List.cons_append, List.nil_append, List.getElem?_cons_zero, List.getElem?_cons_succ, List.set_cons_zero, List.set_cons_succ, Option.some.injEq, decide_eq_true_eq, Bool.not_eq_true', decide_eq_false_iff_not, ite_true, ite_false, if_true, if_false, reduceIte, Bool.false_eq_true, Bool.not_true, Bool.not_false, Bool.true_eq_false, decide_true, decide_false, Nat.reduceLeDiff, Nat.reduceLT]
    refine Sat.imp (pick_pos hW.sr (n := 5) (by decide) (by decide)) fun d B1 ⟨⟨v, e, v0, v1⟩, D1⟩ => ?_
    subst e
    have hW := hW.dr D1
    have D1 := DB.trans D1
    simp only [EV, Ab.isNon, args, List.map, List.length_cons, List.length_nil, List.length_singleton, List.replicate, Nat.reduceSub, Nat.reduceAdd, Nat.zero_add, List.cons_append, List.nil_append, List.getElem?_cons_zero, List.getElem?_cons_succ, List.set_cons_zero, List.set_cons_succ, Option.some.injEq, decide_eq_true_eq, Bool.not_eq_true', decide_eq_false_iff_not, ite_true, ite_false, if_true, if_false, reduceIte, Bool.false_eq_true, Bool.not_true, Bool.not_false, Bool.true_eq_false, decide_true, decide_false, Nat.reduceLeDiff, Nat.reduceLT]
    rw [if_pos (inRg_of (by omega) (by omega))]
    refine range_inv (fun i σ B => Dr s A B ∧ ∃ nm ns x3, Wu s w nm ns 36 B ∧ ns.length = i ∧ σ = [some (.ref s), some (.int 0), some (.ref w), x3, none, none, none, none, none, none, none, none, none, none, none]) (fun i σ B hi ⟨DB, nm, ns, x3, hW, nl, hσ⟩ => ?_) (fun σ B ⟨DB, nm, ns, x3, hW, nl, hσ⟩ => ?_) ⟨D1, nm, [], none, hW, rfl, rfl⟩
    · subst hσ
      have g1 : ixD (.ref w) (.str "names") B = .ok (.ref nm) B := by obtain ⟨kvs, h⟩ := hW; exact ixk h.hw h.g1
      simp only [EV, Ab.isNon, args, List.map, List.length_cons, List.length_nil, List.length_singleton, List.replicate, Nat.reduceSub, Nat.reduceAdd, Nat.zero_add, List.cons_append, List.nil_append, List.getElem?_cons_zero, List.getElem?_cons_succ, List.set_cons_zero, List.set_cons_succ, Option.some.injEq, decide_eq_true_eq, Bool.not_eq_true', decide_eq_false_iff_not, ite_true, ite_false, if_true, if_false, reduceIte, Bool.false_eq_true, Bool.not_true, Bool.not_false, Bool.true_eq_false, decide_true, decide_false, Nat.reduceLeDiff, Nat.reduceLT, g1]
      refine Sat.imp (name_spec hW.wt) fun d B2 ⟨⟨x, e, hx⟩, D2⟩ => ?_
      subst e
      have hW := hW.dr D2
      have D2 := DB.trans D2
      have hn : B2[nm]? = some (.lst (ns.map D.str)) := by obtain ⟨kvs, h⟩ := hW; exact h.hn
      have hn := (Gr.app (A := B2) (B := [AO.lst [.str x]])).keep _ _ hn
      have hx1 : (B2 ++ [AO.lst [D.str x]])[B2.length]? = some (.lst (([x] : List Str).map D.str)) := at_new
      have hW := hW.dr (Dr.app hW.sr [AO.lst [.str x]])
      have D3 := D2.trans (.app D2.src [AO.lst [.str x]])
      generalize B2 ++ [AO.lst [D.str x]] = B3 at *
      rw [add1 hn hx1 (by omega) (by simp)]
      obtain ⟨e1, hW2⟩ := hW.name (x := x) (by omega) hx (by have := D3.src.lt; omega)
      simp only [EV, Ab.isNon, args, List.map, List.length_cons, List.length_nil, List.length_singleton, List.replicate, Nat.reduceSub, Nat.reduceAdd, Nat.zero_add, List.cons_append, List.nil_append, List.getElem?_cons_zero, List.getElem?_cons_succ, List.set_cons_zero, List.set_cons_succ, Option.some.injEq, decide_eq_true_eq, Bool.not_eq_true', decide_eq_false_iff_not, ite_true, ite_false, if_true, if_false, reduceIte, Bool.false_eq_true, Bool.not_true, Bool.not_false, Bool.true_eq_false, decide_true, decide_false, Nat.reduceLeDiff, Nat.reduceLT, e1, turn_]
      refine ⟨(D3.trans (.app D3.src _)).setN wl hs, _, _, _, hW2, by simp; omega, rfl⟩
    · subst hσ
      exact ⟨_, rfl, DB, nm, ns, x3, hW, rfl⟩
  subst hσ
  have nlt := hW.lt
  refine sat_seq ?_
  simp only [EV, Ab.isNon, args, List.map, List.length_cons, List.length_nil, List.length_singleton, List.replicate, Nat.reduceSub, Nat.reduceAdd, Nat.zero_add, List.cons_append, List.nil_append, List.getElem?_cons_zero, List.getElem?_cons_succ, List.set_cons_zero, List.set_cons_succ, Option.some.injEq, decide_eq_true_eq, Bool.not_eq_true', decide_eq_false_iff_not, ite_true, ite_false, if_true, if_false, reduceIte, Bool.false_eq_true, Bool.not_true, Bool.not_false, Bool.true_eq_false, decide_true, decide_false, Nat.reduceLeDiff, Nat.reduceLT]
  have hR : (B1 ++ [AO.lst []])[B1.length]? = some (.lst (([] : List (Str × List Pt)).map rcD)) := at_new
  have hW := hW.dr (Dr.app D1.src [AO.lst []])
  have D2 := D1.trans (.app D1.src [AO.lst []])
  have lR := D1.le
  generalize B1 ++ [AO.lst []] = B2 at *
  obtain ⟨R, eR⟩ : ∃ R, B1.length = R := ⟨_, rfl⟩
  rw [eR] at hR lR nlt
  simp only [eR]
  have Rs : R ≠ s := by omega
  have Rw : R ≠ w := by omega
  refine sat_mid (fun σ B => Dr s A B ∧ Wu s w nm ns 36 B ∧ ∃ (rs : List (Str × List Pt)) (x3 : Option D), B[R]? = some (.lst (rs.map rcD)) ∧ rs.length ≤ 4 ∧ (∀ r ∈ rs, r.1.length ≤ 40 ∧ r.2.length ≤ 10 ∧ ∀ q ∈ r.2, PtOk q) ∧ σ = [some (.ref s), some (.int 0), some (.ref w), x3, some (.ref R), none, none, none, none, none, none, none, none, none, none]) ?_ fun σ B3 ⟨D3, hW, rs, x3, hR, rl, rok, hσ⟩ => ?_
  · simp only [EV, Ab.isNon, args, List.map, List.length_cons, List.length_nil, List.length_singleton, List.replicate, Nat.reduceSub, Nat.reduceAdd, Nat.zero_add, List.cons_append, List.nil_append, List.getElem?_cons_zero, List.getElem?_cons_succ, List.set_cons_zero, List.set_cons_succ, Option.some.injEq, decide_eq_true_eq, Bool.not_eq_true', decide_eq_false_iff_not, ite_true, ite_false, if_true, if_false, reduceIte, Bool.false_eq_true, Bool.not_true, Bool.not_false, Bool.true_eq_false, decide_true, decide_false, Nat.reduceLeDiff, Nat.reduceLT, ixl2]
    have hR := (Gr.app (A := B2) (B := [AO.lst [D.int 4, .int 2]])).keep _ _ hR
    have hW := hW.dr (Dr.app D2.src [AO.lst [D.int 4, .int 2]])
    have D2 := D2.trans (.app D2.src [AO.lst [D.int 4, .int 2]])
    generalize B2 ++ [AO.lst [D.int 4, .int 2]] = B2 at *
    refine Sat.imp (count_spec D2.src (n := 4) (by decide) (by decide)) fun d B3 ⟨⟨v, e, v0, v1⟩, D3⟩ => ?_
    subst e
    have hR := D3.keep _ _ Rs hR
    have hW := hW.dr D3
    have D3 := D2.trans D3
    simp only [EV, Ab.isNon, args, List.map, List.length_cons, List.length_nil, List.length_singleton, List.replicate, Nat.reduceSub, Nat.reduceAdd, Nat.zero_add, List.cons_append, List.nil_append, List.getElem?_cons_zero, List.getElem?_cons_succ, List.set_cons_zero, List.set_cons_succ, Option.some.injEq, decide_eq_true_eq, Bool.not_eq_true', decide_eq_false_iff_not, ite_true, ite_false, if_true, if_false, reduceIte, Bool.false_eq_true, Bool.not_true, Bool.not_false, Bool.true_eq_false, decide_true, decide_false, Nat.reduceLeDiff, Nat.reduceLT]
    rw [if_pos (inRg_of (by omega) (by omega))]
    refine range_inv (fun i σ B => Dr s A B ∧ Wu s w nm ns 36 B ∧ ∃ (rs : List (Str × List Pt)) (x3 : Option D), B[R]? = some (.lst (rs.map rcD)) ∧ rs.length = i ∧ (∀ r ∈ rs, r.1.length ≤ 40 ∧ r.2.length ≤ 10 ∧ ∀ q ∈ r.2, PtOk q) ∧ σ = [some (.ref s), some (.int 0), some (.ref w), x3, some (.ref R), none, none, none, none, none, none, none, none, none, none]) (fun i σ B hi ⟨DB, hW, rs, x3, hR, rl, rok, hσ⟩ => ?_) (fun σ B ⟨DB, hW, rs, x3, hR, rl, rok, hσ⟩ => ?_) ⟨D3, hW, [], _, hR, rfl, fun r h => (by cases h), rfl⟩
    · subst hσ
      simp only [EV, Ab.isNon, args, List.map, List.length_cons, List.length_nil, List.length_singleton, List.replicate, Nat.reduceSub, Nat.reduceAdd, Nat.zero_add, List.cons_append, List.nil_append, List.getElem?_cons_zero, List.getElem?_cons_succ, List.set_cons_zero, List.set_cons_succ, Option.some.injEq, decide_eq_true_eq, Bool.not_eq_true', decide_eq_false_iff_not, ite_true, ite_false, if_true, if_false, reduceIte, Bool.false_eq_true, Bool.not_true, Bool.not_false, Bool.true_eq_false, decide_true, decide_false, Nat.reduceLeDiff, Nat.reduceLT, ty_l hR]
      refine Sat.imp (word_spec hW.wt) fun d B4 ⟨⟨x, e, hx⟩, D4⟩ => ?_
      subst e
      have hR := D4.keep _ _ Rs hR
      have hW := hW.dr D4
      have D4 := DB.trans D4
      simp only [EV, Ab.isNon, args, List.map, List.length_cons, List.length_nil, List.length_singleton, List.replicate, Nat.reduceSub, Nat.reduceAdd, Nat.zero_add, List.cons_append, List.nil_append, List.getElem?_cons_zero, List.getElem?_cons_succ, List.set_cons_zero, List.set_cons_succ, Option.some.injEq, decide_eq_true_eq, Bool.not_eq_true', decide_eq_false_iff_not, ite_true, ite_false, if_true, if_false, reduceIte, Bool.false_eq_true, Bool.not_true, Bool.not_false, Bool.true_eq_false, decide_true, decide_false, Nat.reduceLeDiff, Nat.reduceLT, ixl2]
      have hR := (Gr.app (A := B4) (B := [AO.lst [D.int 4, .int 2]])).keep _ _ hR
      have hW := hW.dr (Dr.app D4.src [AO.lst [D.int 4, .int 2]])
      have D4 := D4.trans (.app D4.src [AO.lst [D.int 4, .int 2]])
      generalize B4 ++ [AO.lst [D.int 4, .int 2]] = B4 at *
      refine Sat.imp (pairs_spec (n := 4) (k := 4) hW.wt (by decide) (by decide)) fun d B5 ⟨⟨ps, e, pl, po⟩, D5⟩ => ?_
      subst e
      have hR := D5.keep _ _ Rs hR
      have hW := hW.dr D5
      have D5 := D4.trans D5
      rw [ev_app hR (by rw [List.length_map]; omega)]
      simp only [EV, Ab.isNon, args, List.map, List.length_cons, List.length_nil, List.length_singleton, List.replicate, Nat.reduceSub, Nat.reduceAdd, Nat.zero_add, List.cons_append, List.nil_append, List.getElem?_cons_zero, List.getElem?_cons_succ, List.set_cons_zero, List.set_cons_succ, Option.some.injEq, decide_eq_true_eq, Bool.not_eq_true', decide_eq_false_iff_not, ite_true, ite_false, if_true, if_false, reduceIte, Bool.false_eq_true, Bool.not_true, Bool.not_false, Bool.true_eq_false, decide_true, decide_false, Nat.reduceLeDiff, Nat.reduceLT, turn_]
      refine ⟨D5.setN lR hs, hW.setN Rs Rw (by omega), rs ++ [(x, ps)], _, by rw [at_set (at_lt hR), List.map_append]; rfl, by simp; omega, fun r hr => ?_, rfl⟩
      rcases List.mem_append.mp hr with hr | hr
      · exact rok r hr
      · cases List.mem_singleton.mp hr; exact ⟨hx, by show ps.length ≤ 10; omega, po⟩
    · subst hσ
      exact ⟨_, rfl, DB, hW, rs, x3, hR, by omega, rok, rfl⟩
  subst hσ
  refine sat_seq ?_
  simp only [EV, Ab.isNon, args, List.map, List.length_cons, List.length_nil, List.length_singleton, List.replicate, Nat.reduceSub, Nat.reduceAdd, Nat.zero_add, List.cons_append, List.nil_append, List.getElem?_cons_zero, List.getElem?_cons_succ, List.set_cons_zero, List.set_cons_succ, Option.some.injEq, decide_eq_true_eq, Bool.not_eq_true', decide_eq_false_iff_not, ite_true, ite_false, if_true, if_false, reduceIte, Bool.false_eq_true, Bool.not_true, Bool.not_false, Bool.true_eq_false, decide_true, decide_false, Nat.reduceLeDiff, Nat.reduceLT]
  have RF := at_lt hR
  have nlt := hW.lt
  have hF : (B3 ++ [AO.lst []])[B3.length]? = some (.lst (([] : List (Str × Int × Int × Int)).map raD)) := at_new
  have hR := (Gr.app (A := B3) (B := [AO.lst []])).keep _ _ hR
  have hW := hW.dr (Dr.app D3.src [AO.lst []])
  have D4 := D3.trans (.app D3.src [AO.lst []])
  have lF := D3.le
  generalize B3 ++ [AO.lst []] = B4 at *
  obtain ⟨F, eF⟩ : ∃ F, B3.length = F := ⟨_, rfl⟩
  rw [eF] at hF lF RF nlt
  simp only [eF]
  have Fs : F ≠ s := by omega
  have Fw : F ≠ w := by omega
  refine sat_mid (fun σ B => Dr s A B ∧ Wu s w nm ns 36 B ∧ B[R]? = some (.lst (rs.map rcD)) ∧ ∃ (as : List (Str × Int × Int × Int)) (x3 x6 : Option D), B[F]? = some (.lst (as.map raD)) ∧ as.length ≤ 4 ∧ (∀ a ∈ as, a.1.length ≤ 40 ∧ a.2.1.natAbs < 10 ^ 12 ∧ a.2.2.1.natAbs < 10 ^ 12 ∧ a.2.2.2.natAbs < 10 ^ 12) ∧ σ = [some (.ref s), some (.int 0), some (.ref w), x3, some (.ref R), some (.ref F), x6, none, none, none, none, none, none, none, none]) ?_ fun σ B5 ⟨D5, hW, hR, as, x3, x6, hF, al, aok, hσ⟩ => ?_
  · simp only [EV, Ab.isNon, args, List.map, List.length_cons, List.length_nil, List.length_singleton, List.replicate, Nat.reduceSub, Nat.reduceAdd, Nat.zero_add, List.cons_append, List.nil_append, List.getElem?_cons_zero, List.getElem?_cons_succ, List.set_cons_zero, List.set_cons_succ, Option.some.injEq, decide_eq_true_eq, Bool.not_eq_true', decide_eq_false_iff_not, ite_true, ite_false, if_true, if_false, reduceIte, Bool.false_eq_true, Bool.not_true, Bool.not_false, Bool.true_eq_false, decide_true, decide_false, Nat.reduceLeDiff, Nat.reduceLT, ixl2]
    have hR := (Gr.app (A := B4) (B := [AO.lst [D.int 4, .int 2]])).keep _ _ hR
    have hF := (Gr.app (A := B4) (B := [AO.lst [D.int 4, .int 2]])).keep _ _ hF
    have hW := hW.dr (Dr.app D4.src [AO.lst [D.int 4, .int 2]])
    have D4 := D4.trans (.app D4.src [AO.lst [D.int 4, .int 2]])
    generalize B4 ++ [AO.lst [D.int 4, .int 2]] = B4 at *
    refine Sat.imp (count_spec D4.src (n := 4) (by decide) (by decide)) fun d B5 ⟨⟨v, e, v0, v1⟩, D5⟩ => ?_
    subst e
    have hR := D5.keep _ _ Rs hR
    have hF := D5.keep _ _ Fs hF
    have hW := hW.dr D5
    have D5 := D4.trans D5
    simp only [EV, Ab.isNon, args, List.map, List.length_cons, List.length_nil, List.length_singleton, List.replicate, Nat.reduceSub, Nat.reduceAdd, Nat.zero_add, List.cons_append, List.nil_append, List.getElem?_cons_zero, List.getElem?_cons_succ, List.set_cons_zero, List.set_cons_succ, Option.some.injEq, decide_eq_true_eq, Bool.not_eq_true', decide_eq_false_iff_not, ite_true, ite_false, if_true, if_false, reduceIte, Bool.false_eq_true, Bool.not_true, Bool.not_false, Bool.true_eq_false, decide_true, decide_false, Nat.reduceLeDiff, Nat.reduceLT]
    rw [if_pos (inRg_of (by omega) (by omega))]
    refine range_inv (fun i σ B => Dr s A B ∧ Wu s w nm ns 36 B ∧ B[R]? = some (.lst (rs.map rcD)) ∧ ∃ (as : List (Str × Int × Int × Int)) (x3 x6 : Option D), B[F]? = some (.lst (as.map raD)) ∧ as.length = i ∧ (∀ a ∈ as, a.1.length ≤ 40 ∧ a.2.1.natAbs < 10 ^ 12 ∧ a.2.2.1.natAbs < 10 ^ 12 ∧ a.2.2.2.natAbs < 10 ^ 12) ∧ σ = [some (.ref s), some (.int 0), some (.ref w), x3, some (.ref R), some (.ref F), x6, none, none, none, none, none, none, none, none]) (fun i σ B hi ⟨DB, hW, hR, as, x3, x6, hF, al, aok, hσ⟩ => ?_) (fun σ B ⟨DB, hW, hR, as, x3, x6, hF, al, aok, hσ⟩ => ?_) ⟨D5, hW, hR, [], _, _, hF, rfl, fun r h => (by cases h), rfl⟩
    · subst hσ
      simp only [EV, Ab.isNon, args, List.map, List.length_cons, List.length_nil, List.length_singleton, List.replicate, Nat.reduceSub, Nat.reduceAdd, Nat.zero_add, List.cons_append, List.nil_append, List.getElem?_cons_zero, List.getElem?_cons_succ, List.set_cons_zero, List.set_cons_succ, Option.some.injEq, decide_eq_true_eq, Bool.not_eq_true', decide_eq_false_iff_not, ite_true, ite_false, if_true, if_false, reduceIte, Bool.false_eq_true, Bool.not_true, Bool.not_false, Bool.true_eq_false, decide_true, decide_false, Nat.reduceLeDiff, Nat.reduceLT]
      refine sat_seq ?_
      simp only [EV, Ab.isNon, args, List.map, List.length_cons, List.length_nil, List.length_singleton, List.replicate, Nat.reduceSub, Nat.reduceAdd, Nat.zero_add, List.cons_append, List.nil_append, List.getElem?_cons_zero, List.getElem?_cons_succ, List.set_cons_zero, List.set_cons_succ, Option.some.injEq, decide_eq_true_eq, Bool.not_eq_true', decide_eq_false_iff_not, ite_true, ite_false, if_true, if_false, reduceIte, Bool.false_eq_true, Bool.not_true, Bool.not_false, Bool.true_eq_false, decide_true, decide_false, Nat.reduceLeDiff, Nat.reduceLT, ixl2]
      have hR := (Gr.app (A := B) (B := [AO.lst [D.int 67, .int 9]])).keep _ _ hR
      have hF := (Gr.app (A := B) (B := [AO.lst [D.int 67, .int 9]])).keep _ _ hF
      have hW := hW.dr (Dr.app DB.src [AO.lst [D.int 67, .int 9]])
      have DB := DB.trans (.app DB.src [AO.lst [D.int 67, .int 9]])
      generalize B ++ [AO.lst [D.int 67, .int 9]] = B at *
      refine Sat.imp (pick_pos DB.src (n := 67) (by decide) (by decide)) fun d B4 ⟨⟨u, e, u0, u1⟩, D4⟩ => ?_
      subst e
      have hR := D4.keep _ _ Rs hR
      have hF := D4.keep _ _ Fs hF
      have hW := hW.dr D4
      have D4 := DB.trans D4
      simp only [EV, Ab.isNon, args, List.map, List.length_cons, List.length_nil, List.length_singleton, List.replicate, Nat.reduceSub, Nat.reduceAdd, Nat.zero_add, List.cons_append, List.nil_append, List.getElem?_cons_zero, List.getElem?_cons_succ, List.set_cons_zero, List.set_cons_succ, Option.some.injEq, decide_eq_true_eq, Bool.not_eq_true', decide_eq_false_iff_not, ite_true, ite_false, if_true, if_false, reduceIte, Bool.false_eq_true, Bool.not_true, Bool.not_false, Bool.true_eq_false, decide_true, decide_false, Nat.reduceLeDiff, Nat.reduceLT, ty_l hF]
      refine Sat.imp (word_spec hW.wt) fun d B5 ⟨⟨x, e, hx⟩, D5⟩ => ?_
      subst e
      have hR := D5.keep _ _ Rs hR
      have hF := D5.keep _ _ Fs hF
      have hW := hW.dr D5
      have D5 := D4.trans D5
      refine Sat.imp (number_spec hW.wt) fun d B6 ⟨⟨lo, e, hlo⟩, D6⟩ => ?_
      subst e
      have hR := D6.keep _ _ Rs hR
      have hF := D6.keep _ _ Fs hF
      have hW := hW.dr D6
      have D6 := D5.trans D6
      refine Sat.imp (number_spec hW.wt) fun d B7 ⟨⟨hi', e, hhi⟩, D7⟩ => ?_
      subst e
      have hR := D7.keep _ _ Rs hR
      have hF := D7.keep _ _ Fs hF
      have hW := hW.dr D7
      have D7 := D6.trans D7
      rw [ev_app hF (by rw [List.length_map]; omega)]
      simp only [EV, Ab.isNon, args, List.map, List.length_cons, List.length_nil, List.length_singleton, List.replicate, Nat.reduceSub, Nat.reduceAdd, Nat.zero_add, List.cons_append, List.nil_append, List.getElem?_cons_zero, List.getElem?_cons_succ, List.set_cons_zero, List.set_cons_succ, Option.some.injEq, decide_eq_true_eq, Bool.not_eq_true', decide_eq_false_iff_not, ite_true, ite_false, if_true, if_false, reduceIte, Bool.false_eq_true, Bool.not_true, Bool.not_false, Bool.true_eq_false, decide_true, decide_false, Nat.reduceLeDiff, Nat.reduceLT, turn_]
      refine ⟨D7.setN lF hs, hW.setN Fs Fw (by omega), by rw [List.getElem?_set_ne (by omega)]; exact hR, as ++ [(x, u - 2, lo, hi')], _, _, by rw [at_set (at_lt hF), List.map_append]; rfl, by simp; omega, fun r hr => ?_, rfl⟩
      rcases List.mem_append.mp hr with hr | hr
      · exact aok r hr
      · cases List.mem_singleton.mp hr; exact ⟨hx, by show (u - 2).natAbs < _; omega, hlo, hhi⟩
    · subst hσ
      exact ⟨_, rfl, DB, hW, hR, as, x3, x6, hF, by omega, aok, rfl⟩
  subst hσ
  refine sat_seq ?_
  simp only [EV, Ab.isNon, args, List.map, List.length_cons, List.length_nil, List.length_singleton, List.replicate, Nat.reduceSub, Nat.reduceAdd, Nat.zero_add, List.cons_append, List.nil_append, List.getElem?_cons_zero, List.getElem?_cons_succ, List.set_cons_zero, List.set_cons_succ, Option.some.injEq, decide_eq_true_eq, Bool.not_eq_true', decide_eq_false_iff_not, ite_true, ite_false, if_true, if_false, reduceIte, Bool.false_eq_true, Bool.not_true, Bool.not_false, Bool.true_eq_false, decide_true, decide_false, Nat.reduceLeDiff, Nat.reduceLT]
  refine Sat.imp (pairs_spec (n := 3) (k := 2 - 0) hW.wt (by decide) (by decide)) fun d B6 ⟨⟨gl, e, gll, glo⟩, D6⟩ => ?_
  subst e
  have hR := D6.keep _ _ Rs hR
  have hF := D6.keep _ _ Fs hF
  have hW := hW.dr D6
  have D6 := D5.trans D6
  refine sat_seq ?_
  simp only [EV, Ab.isNon, args, List.map, List.length_cons, List.length_nil, List.length_singleton, List.replicate, Nat.reduceSub, Nat.reduceAdd, Nat.zero_add, List.cons_append, List.nil_append, List.getElem?_cons_zero, List.getElem?_cons_succ, List.set_cons_zero, List.set_cons_succ, Option.some.injEq, decide_eq_true_eq, Bool.not_eq_true', decide_eq_false_iff_not, ite_true, ite_false, if_true, if_false, reduceIte, Bool.false_eq_true, Bool.not_true, Bool.not_false, Bool.true_eq_false, decide_true, decide_false, Nat.reduceLeDiff, Nat.reduceLT]
  have FE := at_lt hF
  have nlt := hW.lt
  have hE : (B6 ++ [AO.lst []])[B6.length]? = some (.lst (([] : List Ft).map Ft.d)) := at_new
  have hR := (Gr.app (A := B6) (B := [AO.lst []])).keep _ _ hR
  have hF := (Gr.app (A := B6) (B := [AO.lst []])).keep _ _ hF
  have hW := hW.dr (Dr.app D6.src [AO.lst []])
  have D7 := D6.trans (.app D6.src [AO.lst []])
  have lE := D6.le
  generalize B6 ++ [AO.lst []] = B7 at *
  obtain ⟨E, eE⟩ : ∃ E, B6.length = E := ⟨_, rfl⟩
  rw [eE] at hE lE FE nlt
  simp only [eE]
  have Es : E ≠ s := by omega
  have Ew : E ≠ w := by omega
  have Rw' : R ≠ w := Rw
  refine sat_mid (fun σ B => Dr s A B ∧ B[R]? = some (.lst (rs.map rcD)) ∧ B[F]? = some (.lst (as.map raD)) ∧ ∃ (fs : List Ft) (x3 x9 x10 x11 x12 x13 x14 : Option D), B[E]? = some (.lst (fs.map Ft.d)) ∧ fs.length ≤ 10 ∧ (∀ f ∈ fs, FtOk f) ∧ σ = [some (.ref s), some (.int 0), some (.ref w), x3, some (.ref R), some (.ref F), x6, some (.tup (gl.map prD)), some (.ref E), x9, x10, x11, x12, x13, x14]) ?_ fun σ B8 ⟨D8, hR, hF, fs, x3', x9, x10, x11, x12, x13, x14, hE, fl, fok, hσ⟩ => ?_
  · simp only [EV, Ab.isNon, args, List.map, List.length_cons, List.length_nil, List.length_singleton, List.replicate, Nat.reduceSub, Nat.reduceAdd, Nat.zero_add, List.cons_append, List.nil_append, List.getElem?_cons_zero, List.getElem?_cons_succ, List.set_cons_zero, List.set_cons_succ, Option.some.injEq, decide_eq_true_eq, Bool.not_eq_true', decide_eq_false_iff_not, ite_true, ite_false, if_true, if_false, reduceIte, Bool.false_eq_true, Bool.not_true, Bool.not_false, Bool.true_eq_false, decide_true, decide_false, Nat.reduceLeDiff, Nat.reduceLT, ixl2]
    have keep3 : ∀ {B C : AH}, Dr s B C → B[R]? = some (.lst (rs.map rcD)) → B[F]? = some (.lst (as.map raD)) → ∀ {o}, B[E]? = some o → C[R]? = some (.lst (rs.map rcD)) ∧ C[F]? = some (.lst (as.map raD)) ∧ C[E]? = some o := fun D a b _ c => ⟨D.keep _ _ Rs a, D.keep _ _ Fs b, D.keep _ _ Es c⟩
    obtain ⟨hR, hF, hE⟩ := keep3 (Dr.app D7.src [AO.lst [D.int 9, .int 4]]) hR hF hE
    have hW := hW.dr (Dr.app D7.src [AO.lst [D.int 9, .int 4]])
    have D7 := D7.trans (.app D7.src [AO.lst [D.int 9, .int 4]])
    generalize B7 ++ [AO.lst [D.int 9, .int 4]] = B7 at *
    refine Sat.imp (pick_pos D7.src (n := 9) (by decide) (by decide)) fun d B8 ⟨⟨u, e, u0, u1⟩, D8⟩ => ?_
    subst e
    obtain ⟨hR, hF, hE⟩ := keep3 D8 hR hF hE
    have hW := hW.dr D8
    have D8 := D7.trans D8
    refine Sat.imp (one_d (xs := ([1, 2, 1, 2, 3, 0, u] : List Int).map D.int) D8.src (by simp) (by simp)) fun d B9 ⟨hd, D9⟩ => ?_
    obtain ⟨v, hv, rfl⟩ := List.mem_map.mp hd
    have v0 : 0 ≤ v ∧ v ≤ 8 := by
      simp only [List.mem_cons, List.not_mem_nil, or_false] at hv
      rcases hv with rfl | rfl | rfl | rfl | rfl | rfl | rfl
      all_goals omega
    obtain ⟨hR, hF, hE⟩ := keep3 D9 hR hF hE
    have hW := hW.dr D9
    have D9 := D8.trans D9
    simp only [EV, Ab.isNon, args, List.map, List.length_cons, List.length_nil, List.length_singleton, List.replicate, Nat.reduceSub, Nat.reduceAdd, Nat.zero_add, List.cons_append, List.nil_append, List.getElem?_cons_zero, List.getElem?_cons_succ, List.set_cons_zero, List.set_cons_succ, Option.some.injEq, decide_eq_true_eq, Bool.not_eq_true', decide_eq_false_iff_not, ite_true, ite_false, if_true, if_false, reduceIte, Bool.false_eq_true, Bool.not_true, Bool.not_false, Bool.true_eq_false, decide_true, decide_false, Nat.reduceLeDiff, Nat.reduceLT]
    rw [if_pos (inRg_of (by omega) (by omega))]
    refine range_inv (fun i σ B => Dr s A B ∧ (∃ lf, lf ≤ 36 ∧ Wu s w nm ns lf B) ∧ B[R]? = some (.lst (rs.map rcD)) ∧ B[F]? = some (.lst (as.map raD)) ∧ ∃ (fs : List Ft) (x3 x9 x10 x11 x12 x13 x14 : Option D), B[E]? = some (.lst (fs.map Ft.d)) ∧ fs.length = i ∧ (∀ f ∈ fs, FtOk f) ∧ σ = [some (.ref s), some (.int 0), some (.ref w), x3, some (.ref R), some (.ref F), x6, some (.tup (gl.map prD)), some (.ref E), x9, x10, x11, x12, x13, x14]) (fun i σ B hi ⟨DB, ⟨lf, lf1, hW⟩, hR, hF, fs, x3, x9, x10, x11, x12, x13, x14, hE, fl, fok, hσ⟩ => ?_) (fun σ B ⟨DB, _, hR, hF, fs, x3, x9, x10, x11, x12, x13, x14, hE, fl, fok, hσ⟩ => ?_) ⟨D9, ⟨36, Nat.le_refl _, hW⟩, hR, hF, [], _, _, _, _, _, _, _, hE, rfl, fun r h => (by cases h), rfl⟩
    · subst hσ
      simp only [EV, Ab.isNon, args, List.map, List.length_cons, List.length_nil, List.length_singleton, List.replicate, Nat.reduceSub, Nat.reduceAdd, Nat.zero_add, List.cons_append, List.nil_append, List.getElem?_cons_zero, List.getElem?_cons_succ, List.set_cons_zero, List.set_cons_succ, Option.some.injEq, decide_eq_true_eq, Bool.not_eq_true', decide_eq_false_iff_not, ite_true, ite_false, if_true, if_false, reduceIte, Bool.false_eq_true, Bool.not_true, Bool.not_false, Bool.true_eq_false, decide_true, decide_false, Nat.reduceLeDiff, Nat.reduceLT]
      refine sat_seq ?_
      simp only [EV, Ab.isNon, args, List.map, List.length_cons, List.length_nil, List.length_singleton, List.replicate, Nat.reduceSub, Nat.reduceAdd, Nat.zero_add, List.cons_append, List.nil_append, List.getElem?_cons_zero, List.getElem?_cons_succ, List.set_cons_zero, List.set_cons_succ, Option.some.injEq, decide_eq_true_eq, Bool.not_eq_true', decide_eq_false_iff_not, ite_true, ite_false, if_true, if_false, reduceIte, Bool.false_eq_true, Bool.not_true, Bool.not_false, Bool.true_eq_false, decide_true, decide_false, Nat.reduceLeDiff, Nat.reduceLT]
      refine Sat.imp (word_spec hW.wt) fun d C1 ⟨⟨x, e, hx⟩, D1⟩ => ?_
      subst e
      obtain ⟨hR, hF, hE⟩ := keep3 D1 hR hF hE
      have hW := hW.dr D1
      have D1 := DB.trans D1
      refine sat_seq ?_
      simp only [EV, Ab.isNon, args, List.map, List.length_cons, List.length_nil, List.length_singleton, List.replicate, Nat.reduceSub, Nat.reduceAdd, Nat.zero_add, List.cons_append, List.nil_append, List.getElem?_cons_zero, List.getElem?_cons_succ, List.set_cons_zero, List.set_cons_succ, Option.some.injEq, decide_eq_true_eq, Bool.not_eq_true', decide_eq_false_iff_not, ite_true, ite_false, if_true, if_false, reduceIte, Bool.false_eq_true, Bool.not_true, Bool.not_false, Bool.true_eq_false, decide_true, decide_false, Nat.reduceLeDiff, Nat.reduceLT]
      refine Sat.imp (pairs_spec (n := 3) (k := 1) hW.wt (by decide) (by decide)) fun d C2 ⟨⟨ps, e, psl, pso⟩, D2⟩ => ?_
      subst e
      obtain ⟨hR, hF, hE⟩ := keep3 D2 hR hF hE
      have hW := hW.dr D2
      have D2 := D1.trans D2
      refine sat_seq ?_
      simp only [EV, Ab.isNon, args, List.map, List.length_cons, List.length_nil, List.length_singleton, List.replicate, Nat.reduceSub, Nat.reduceAdd, Nat.zero_add, List.cons_append, List.nil_append, List.getElem?_cons_zero, List.getElem?_cons_succ, List.set_cons_zero, List.set_cons_succ, Option.some.injEq, decide_eq_true_eq, Bool.not_eq_true', decide_eq_false_iff_not, ite_true, ite_false, if_true, if_false, reduceIte, Bool.false_eq_true, Bool.not_true, Bool.not_false, Bool.true_eq_false, decide_true, decide_false, Nat.reduceLeDiff, Nat.reduceLT]
      refine sat_mid (fun σ B => Dr s C2 B ∧ ∃ r : Rt, (∀ k, r = some k → RtOk k) ∧ σ = [some (.ref s), some (.int 0), some (.ref w), some (.int (0 + (i : Nat))), some (.ref R), some (.ref F), x6, some (.tup (gl.map prD)), some (.ref E), some (.str x), some (.tup (ps.map prD)), some (rtD r), x12, x13, x14]) ?_ fun σ C3 ⟨D3, r, rok', hσ⟩ => ?_
      · simp only [EV, Ab.isNon, args, List.map, List.length_cons, List.length_nil, List.length_singleton, List.replicate, Nat.reduceSub, Nat.reduceAdd, Nat.zero_add, List.cons_append, List.nil_append, List.getElem?_cons_zero, List.getElem?_cons_succ, List.set_cons_zero, List.set_cons_succ, Option.some.injEq, decide_eq_true_eq, Bool.not_eq_true', decide_eq_false_iff_not, ite_true, ite_false, if_true, if_false, reduceIte, Bool.false_eq_true, Bool.not_true, Bool.not_false, Bool.true_eq_false, decide_true, decide_false, Nat.reduceLeDiff, Nat.reduceLT]
        refine Sat.imp (pick_pos D2.src (n := 2) (by decide) (by decide)) fun d C3 ⟨⟨z, e, z0, z1⟩, D3⟩ => ?_
        subst e
        by_cases hz : z = 1
        · simp only [EV, Ab.isNon, args, List.map, List.length_cons, List.length_nil, List.length_singleton, List.replicate, Nat.reduceSub, Nat.reduceAdd, Nat.zero_add, List.cons_append, List.nil_append, List.getElem?_cons_zero, List.getElem?_cons_succ, List.set_cons_zero, List.set_cons_succ, Option.some.injEq, decide_eq_true_eq, Bool.not_eq_true', decide_eq_false_iff_not, ite_true, ite_false, if_true, if_false, reduceIte, Bool.false_eq_true, Bool.not_true, Bool.not_false, Bool.true_eq_false, decide_true, decide_false, Nat.reduceLeDiff, Nat.reduceLT, hz]
          refine Sat.imp (kind_spec (hW.dr D3).wt) fun d C4 ⟨⟨t, ok⟩, D4⟩ => ?_
          exact ⟨_, rfl, D3.trans D4, some (d, t), fun k e => by cases e; exact ok, rfl⟩
        · simp only [EV, Ab.isNon, args, List.map, List.length_cons, List.length_nil, List.length_singleton, List.replicate, Nat.reduceSub, Nat.reduceAdd, Nat.zero_add, List.cons_append, List.nil_append, List.getElem?_cons_zero, List.getElem?_cons_succ, List.set_cons_zero, List.set_cons_succ, Option.some.injEq, decide_eq_true_eq, Bool.not_eq_true', decide_eq_false_iff_not, ite_true, ite_false, if_true, if_false, reduceIte, Bool.false_eq_true, Bool.not_true, Bool.not_false, Bool.true_eq_false, decide_true, decide_false, Nat.reduceLeDiff, Nat.reduceLT, hz]
          exact ⟨_, rfl, D3, none, fun k e => (by cases e), rfl⟩
      subst hσ
      obtain ⟨hR, hF, hE⟩ := keep3 D3 hR hF hE
      have hW := hW.dr D3
      have D3 := D2.trans D3
      refine sat_seq ?_
      simp only [EV, Ab.isNon, args, List.map, List.length_cons, List.length_nil, List.length_singleton, List.replicate, Nat.reduceSub, Nat.reduceAdd, Nat.zero_add, List.cons_append, List.nil_append, List.getElem?_cons_zero, List.getElem?_cons_succ, List.set_cons_zero, List.set_cons_succ, Option.some.injEq, decide_eq_true_eq, Bool.not_eq_true', decide_eq_false_iff_not, ite_true, ite_false, if_true, if_false, reduceIte, Bool.false_eq_true, Bool.not_true, Bool.not_false, Bool.true_eq_false, decide_true, decide_false, Nat.reduceLeDiff, Nat.reduceLT]
      refine Sat.imp (pairs_spec (n := 3) (k := 1 - 0) hW.wt (by decide) (by decide)) fun d C4 ⟨⟨own, e, ol, oo⟩, D4⟩ => ?_
      subst e
      obtain ⟨hR, hF, hE⟩ := keep3 D4 hR hF hE
      have hW := hW.dr D4
      have D4 := D3.trans D4
      refine sat_seq ?_
      simp only [EV, Ab.isNon, args, List.map, List.length_cons, List.length_nil, List.length_singleton, List.replicate, Nat.reduceSub, Nat.reduceAdd, Nat.zero_add, List.cons_append, List.nil_append, List.getElem?_cons_zero, List.getElem?_cons_succ, List.set_cons_zero, List.set_cons_succ, Option.some.injEq, decide_eq_true_eq, Bool.not_eq_true', decide_eq_false_iff_not, ite_true, ite_false, if_true, if_false, reduceIte, Bool.false_eq_true, Bool.not_true, Bool.not_false, Bool.true_eq_false, decide_true, decide_false, Nat.reduceLeDiff, Nat.reduceLT]
      refine Sat.imp (one_d (xs := ([2, 4, 4, 6, 20] : List Int).map D.int) D4.src (by simp) (by simp)) fun d C5 ⟨hd, D5⟩ => ?_
      obtain ⟨up, hup, rfl⟩ := List.mem_map.mp hd
      have up1 : 0 ≤ up ∧ up ≤ 20 := by
        simp only [List.mem_cons, List.not_mem_nil, or_false] at hup
        rcases hup with rfl | rfl | rfl | rfl | rfl
        all_goals decide
      obtain ⟨hR, hF, hE⟩ := keep3 D5 hR hF hE
      have hW := hW.dr D5
      have D5 := D4.trans D5
      refine sat_seq ?_
      have m0 : mulOk 2 0 := mulOk_l (by decide) (by decide)
      simp only [EV, Ab.isNon, args, List.map, List.length_cons, List.length_nil, List.length_singleton, List.replicate, Nat.reduceSub, Nat.reduceAdd, Nat.zero_add, List.cons_append, List.nil_append, List.getElem?_cons_zero, List.getElem?_cons_succ, List.set_cons_zero, List.set_cons_succ, Option.some.injEq, decide_eq_true_eq, Bool.not_eq_true', decide_eq_false_iff_not, ite_true, ite_false, if_true, if_false, reduceIte, Bool.false_eq_true, Bool.not_true, Bool.not_false, Bool.true_eq_false, decide_true, decide_false, Nat.reduceLeDiff, Nat.reduceLT, m0]
      refine Sat.imp (one_d (xs := ([1, 2, 3, 6 - 2 * 0] : List Int).map D.int) D5.src (by simp) (by simp)) fun d C6 ⟨hd, D6⟩ => ?_
      obtain ⟨dd, hdd, rfl⟩ := List.mem_map.mp hd
      have dd1 : 0 ≤ dd ∧ dd ≤ 6 := by
        simp only [List.mem_cons, List.not_mem_nil, or_false] at hdd
        rcases hdd with rfl | rfl | rfl | rfl
        all_goals decide
      obtain ⟨dn, rfl⟩ : ∃ n : Nat, dd = (n : Nat) := ⟨dd.toNat, by omega⟩
      obtain ⟨hR, hF, hE⟩ := keep3 D6 hR hF hE
      have hW := hW.dr D6
      have D6 := D5.trans D6
      refine Sat.imp (body_spec 20 up dn lf C6 up1.1 up1.2 (by omega) (by omega) (by omega) hW) fun d C7 ⟨X7, b, lf', e, bo, bd, bs, hW⟩ => ?_
      subst e
      have hR := X7.keep _ _ Rs Rw hR
      have hF := X7.keep _ _ Fs Fw hF
      have hE := X7.keep _ _ Es Ew hE
      have D7 := dx_dr D6 X7 wl hW.sr
      simp only [EV, Ab.isNon, args, List.map, List.length_cons, List.length_nil, List.length_singleton, List.replicate, Nat.reduceSub, Nat.reduceAdd, Nat.zero_add, List.cons_append, List.nil_append, List.getElem?_cons_zero, List.getElem?_cons_succ, List.set_cons_zero, List.set_cons_succ, Option.some.injEq, decide_eq_true_eq, Bool.not_eq_true', decide_eq_false_iff_not, ite_true, ite_false, if_true, if_false, reduceIte, Bool.false_eq_true, Bool.not_true, Bool.not_false, Bool.true_eq_false, decide_true, decide_false, Nat.reduceLeDiff, Nat.reduceLT, ty_l hE]
      rw [ev_app hE (by rw [List.length_map]; omega)]
      simp only [EV, Ab.isNon, args, List.map, List.length_cons, List.length_nil, List.length_singleton, List.replicate, Nat.reduceSub, Nat.reduceAdd, Nat.zero_add, List.cons_append, List.nil_append, List.getElem?_cons_zero, List.getElem?_cons_succ, List.set_cons_zero, List.set_cons_succ, Option.some.injEq, decide_eq_true_eq, Bool.not_eq_true', decide_eq_false_iff_not, ite_true, ite_false, if_true, if_false, reduceIte, Bool.false_eq_true, Bool.not_true, Bool.not_false, Bool.true_eq_false, decide_true, decide_false, Nat.reduceLeDiff, Nat.reduceLT, turn_]
      refine ⟨D7.setN lE hs, ⟨lf', by omega, hW.setN Es Ew (by omega)⟩, by rw [List.getElem?_set_ne (by omega)]; exact hR, by rw [List.getElem?_set_ne (by omega)]; exact hF, fs ++ [⟨x, ps, r, own, b⟩], _, _, _, _, _, _, _, by rw [at_set (at_lt hE), List.map_append]; rfl, by simp; omega, fun f hf => ?_, rfl⟩
      rcases List.mem_append.mp hf with hf | hf
      · exact fok f hf
      · cases List.mem_singleton.mp hf
        exact ⟨hx, pso, by show ps.length ≤ 10; omega, rok', oo, by show own.length ≤ 10; omega, bo, by show b.sz ≤ 40; omega, by show b.dep ≤ 10; omega⟩
    · subst hσ
      exact ⟨_, rfl, DB, hR, hF, fs, _, _, _, _, _, _, _, hE, by omega, fok, rfl⟩
  subst hσ
  simp only [EV, Ab.isNon, args, List.map, List.length_cons, List.length_nil, List.length_singleton, List.replicate, Nat.reduceSub, Nat.reduceAdd, Nat.zero_add, List.cons_append, List.nil_append, List.getElem?_cons_zero, List.getElem?_cons_succ, List.set_cons_zero, List.set_cons_succ, Option.some.injEq, decide_eq_true_eq, Bool.not_eq_true', decide_eq_false_iff_not, ite_true, ite_false, if_true, if_false, reduceIte, Bool.false_eq_true, Bool.not_true, Bool.not_false, Bool.true_eq_false, decide_true, decide_false, Nat.reduceLeDiff, Nat.reduceLT, ev_tup_ofL (rdL_l hR), ev_tup_ofL (rdL_l hF), ev_tup_ofL (rdL_l hE)]
  exact ⟨D8, ⟨rs, as, gl, fs⟩, rfl, ⟨by show rs.length ≤ 10; omega, rok, by show as.length ≤ 10; omega, aok, by show gl.length ≤ 10; omega, glo, fl, fok⟩⟩
end Law

namespace Law
open PySem PySem.Spec PyProof.Rows L2 Ab
open scoped Classical
/-! ### the law -/
theorem same_str {x : Str} {A : AH} : m__law_same 20 [.str x, .str x] A = .ok (.bl true) A := same_refl 19 (.str x) A trivial
theorem fn_text {f : Ft} {A : AH} (ok : FtOk f) : Sat (m_function_text [f.d] A) fun v A' => v = .str (joinT f.lines) ∧ Gr A A' := by
  refine sat_body rfl ?_
  unfold p_function_text
  simp only [EV, Ab.isNon, args, List.map, List.length_cons, List.length_nil, List.length_singleton, List.replicate, Nat.reduceSub, Nat.reduceAdd, Nat.zero_add, List.cons_append, List.nil_append, List.getElem?_cons_zero, List.getElem?_cons_succ, List.set_cons_zero, List.set_cons_succ, Option.some.injEq, decide_eq_true_eq, Bool.not_eq_true', decide_eq_false_iff_not, ite_true, ite_false, if_true, if_false, reduceIte, Bool.false_eq_true, Bool.not_true, Bool.not_false, Bool.true_eq_false, decide_true, decide_false, Nat.reduceLeDiff, Nat.reduceLT]
  refine Sat.imp (fn_p ok) fun v A1 ⟨g, r, lr, e, hr⟩ => ?_
  subst e
  exact Sat.imp (joined_p hr (by have := Ft.len ok; omega) (Ft.lines_ok ok)) fun v A2 ⟨e, g2⟩ => ⟨e, g.trans g2⟩
theorem no_ok : GtOk ⟨[], [], [], []⟩ := ⟨by show 0 ≤ 10; decide, fun r h => (by cases h), by show 0 ≤ 10; decide, fun r h => (by cases h), by show 0 ≤ 10; decide, fun r h => (by cases h), by show 0 ≤ 10; decide, fun r h => (by cases h)⟩
theorem law_ok : ∀ ns : List Int, ns.length ≤ 63 → ∃ A', m_law [.ref 0] [.frz (ns.map D.int)] = .ok (.bl true) A' := by
  intro ns hl
  have key : Sat (m_law [.ref 0] [.frz (ns.map D.int)]) fun d A' => d = .bl true := by
    refine sat_body rfl (sat_seq ?_)
    have h0 : ([AO.frz (ns.map D.int)] : AH)[0]? = some (.frz (ns.map D.int)) := rfl
    have hlen : ([AO.frz (ns.map D.int)] : AH).length = 1 := rfl
    generalize [AO.frz (ns.map D.int)] = A at h0 hlen ⊢
    obtain ⟨v1, hv1⟩ := cell0 (k := 0) h0 hl (by decide)
    simp only [EV, Ab.isNon, args, List.map, List.length_cons, List.length_nil, List.length_singleton, List.replicate, Nat.reduceSub, Nat.reduceAdd, Nat.zero_add, List.cons_append, List.nil_append, List.getElem?_cons_zero, List.getElem?_cons_succ, List.set_cons_zero, List.set_cons_succ, Option.some.injEq, decide_eq_true_eq, Bool.not_eq_true', decide_eq_false_iff_not, ite_true, ite_false, if_true, if_false, reduceIte, Bool.false_eq_true, Bool.not_true, Bool.not_false, Bool.true_eq_false, decide_true, decide_false, Nat.reduceLeDiff, Nat.reduceLT, hv1, source_spec]
    have S1 := src_new (A := A) (v := v1)
    have h0 := (Gr.app (A := A) (B := [AO.lst [.int v1, .int v1, .int 0]])).keep _ _ h0
    have n0 : 0 ≠ A.length := by omega
    generalize A ++ [AO.lst [.int v1, .int v1, .int 0]] = A1 at *
    refine Sat.imp (program_spec S1) fun d A2 ⟨D2, p, e, pk⟩ => ?_
    subst e
    have h0 := D2.keep _ _ n0 h0
    obtain ⟨v2, hv2⟩ := cell0 (k := 1) h0 hl (by decide)
    refine sat_seq ?_
    simp only [EV, Ab.isNon, args, List.map, List.length_cons, List.length_nil, List.length_singleton, List.replicate, Nat.reduceSub, Nat.reduceAdd, Nat.zero_add, List.cons_append, List.nil_append, List.getElem?_cons_zero, List.getElem?_cons_succ, List.set_cons_zero, List.set_cons_succ, Option.some.injEq, decide_eq_true_eq, Bool.not_eq_true', decide_eq_false_iff_not, ite_true, ite_false, if_true, if_false, reduceIte, Bool.false_eq_true, Bool.not_true, Bool.not_false, Bool.true_eq_false, decide_true, decide_false, Nat.reduceLeDiff, Nat.reduceLT, hv2, source_spec]
    have S2 := src_new (A := A2) (v := v2 + 1)
    generalize A2 ++ [AO.lst [.int (v2 + 1), .int (v2 + 1), .int 0]] = A3 at *
    refine Sat.imp (program_spec S2) fun d A4 ⟨D4, q, e, qk⟩ => ?_
    subst e
    refine sat_seq ?_
    simp only [EV, Ab.isNon, args, List.map, List.length_cons, List.length_nil, List.length_singleton, List.replicate, Nat.reduceSub, Nat.reduceAdd, Nat.zero_add, List.cons_append, List.nil_append, List.getElem?_cons_zero, List.getElem?_cons_succ, List.set_cons_zero, List.set_cons_succ, Option.some.injEq, decide_eq_true_eq, Bool.not_eq_true', decide_eq_false_iff_not, ite_true, ite_false, if_true, if_false, reduceIte, Bool.false_eq_true, Bool.not_true, Bool.not_false, Bool.true_eq_false, decide_true, decide_false, Nat.reduceLeDiff, Nat.reduceLT]
    have hX := at_new (A := A4) (o := .lst [p.d, q.d, p.d, .tup [.tup [], .tup [], .tup [], .tup []]])
    generalize A4 ++ [AO.lst [p.d, q.d, p.d, .tup [.tup [], .tup [], .tup [], .tup []]]] = A5 at *
    obtain ⟨X, eX⟩ : ∃ X, A4.length = X := ⟨_, rfl⟩
    rw [eX] at hX
    simp only [eX, ev_iseq_l hX, EV, Ab.isNon, args, List.map, List.length_cons, List.length_nil, List.length_singleton, List.replicate, Nat.reduceSub, Nat.reduceAdd, Nat.zero_add, List.cons_append, List.nil_append, List.getElem?_cons_zero, List.getElem?_cons_succ, List.set_cons_zero, List.set_cons_succ, Option.some.injEq, decide_eq_true_eq, Bool.not_eq_true', decide_eq_false_iff_not, ite_true, ite_false, if_true, if_false, reduceIte, Bool.false_eq_true, Bool.not_true, Bool.not_false, Bool.true_eq_false, decide_true, decide_false, Nat.reduceLeDiff, Nat.reduceLT]
    have all : ∀ x ∈ [p, q, p, ⟨[], [], [], []⟩], GtOk x := fun x hx => by
      simp only [List.mem_cons, List.not_mem_nil, or_false] at hx
      rcases hx with rfl | rfl | rfl | rfl
      · exact pk
      · exact qk
      · exact pk
      · exact no_ok
    refine Sat.imp (loop_all (fun x : Gt => x.d) (fun _ => true) (fun σ C => Gr A5 C ∧ ∃ x3 x4, σ = [some (.ref 0), some p.d, some q.d, x3, x4]) (fun _ => True) (fun σ C ⟨G, _⟩ => rdL_l (G.keep _ _ hX)) [p, q, p, ⟨[], [], [], []⟩] (fun x hx σ C ⟨G, x3, x4, hσ⟩ => ?_) _ A5 ⟨.refl, none, none, rfl⟩) fun fl B h => ?_
    · subst hσ
      have ok := all x hx
      have i3 : ∀ A, ixD x.d (.int 3) A = .ok (.tup (x.fns.map Ft.d)) A := fun A => ixd
      simp only [EV, Ab.isNon, args, List.map, List.length_cons, List.length_nil, List.length_singleton, List.replicate, Nat.reduceSub, Nat.reduceAdd, Nat.zero_add, List.cons_append, List.nil_append, List.getElem?_cons_zero, List.getElem?_cons_succ, List.set_cons_zero, List.set_cons_succ, Option.some.injEq, decide_eq_true_eq, Bool.not_eq_true', decide_eq_false_iff_not, ite_true, ite_false, if_true, if_false, reduceIte, Bool.false_eq_true, Bool.not_true, Bool.not_false, Bool.true_eq_false, decide_true, decide_false, Nat.reduceLeDiff, Nat.reduceLT]
      refine sat_seq ?_
      simp only [EV, Ab.isNon, args, List.map, List.length_cons, List.length_nil, List.length_singleton, List.replicate, Nat.reduceSub, Nat.reduceAdd, Nat.zero_add, List.cons_append, List.nil_append, List.getElem?_cons_zero, List.getElem?_cons_succ, List.set_cons_zero, List.set_cons_succ, Option.some.injEq, decide_eq_true_eq, Bool.not_eq_true', decide_eq_false_iff_not, ite_true, ite_false, if_true, if_false, reduceIte, Bool.false_eq_true, Bool.not_true, Bool.not_false, Bool.true_eq_false, decide_true, decide_false, Nat.reduceLeDiff, Nat.reduceLT]
      refine Sat.imp (prog_p ok) fun v C1 ⟨e, g1⟩ => ?_
      subst e
      refine Sat.imp (prog_l ok) fun v C2 ⟨g2, r, lr, e, hr⟩ => ?_
      subst e
      have gt := gt_len ok
      refine Sat.imp (joined_l hr gt.all gt.len) fun v C3 ⟨e, g3⟩ => ?_
      subst e
      simp only [EV, Ab.isNon, args, List.map, List.length_cons, List.length_nil, List.length_singleton, List.replicate, Nat.reduceSub, Nat.reduceAdd, Nat.zero_add, List.cons_append, List.nil_append, List.getElem?_cons_zero, List.getElem?_cons_succ, List.set_cons_zero, List.set_cons_succ, Option.some.injEq, decide_eq_true_eq, Bool.not_eq_true', decide_eq_false_iff_not, ite_true, ite_false, if_true, if_false, reduceIte, Bool.false_eq_true, Bool.not_true, Bool.not_false, Bool.true_eq_false, decide_true, decide_false, Nat.reduceLeDiff, Nat.reduceLT, same_str]
      simp only [i3, ev_iseq_t, EV, Ab.isNon, args, List.map, List.length_cons, List.length_nil, List.length_singleton, List.replicate, Nat.reduceSub, Nat.reduceAdd, Nat.zero_add, List.cons_append, List.nil_append, List.getElem?_cons_zero, List.getElem?_cons_succ, List.set_cons_zero, List.set_cons_succ, Option.some.injEq, decide_eq_true_eq, Bool.not_eq_true', decide_eq_false_iff_not, ite_true, ite_false, if_true, if_false, reduceIte, Bool.false_eq_true, Bool.not_true, Bool.not_false, Bool.true_eq_false, decide_true, decide_false, Nat.reduceLeDiff, Nat.reduceLT]
      refine Sat.imp (loop_all Ft.d (fun _ => true) (fun σ C' => Gr C C' ∧ ∃ x4, σ = [some (.ref 0), some p.d, some q.d, some x.d, x4]) (fun _ => True) (fun _ _ _ => trivial) x.fns (fun f hf σ C' ⟨G', x4, hσ⟩ => ?_) _ C3 ⟨(g1.trans g2).trans g3, _, rfl⟩) fun fl B h => ?_
      · subst hσ
        have fo := ok.fn f hf
        simp only [EV, Ab.isNon, args, List.map, List.length_cons, List.length_nil, List.length_singleton, List.replicate, Nat.reduceSub, Nat.reduceAdd, Nat.zero_add, List.cons_append, List.nil_append, List.getElem?_cons_zero, List.getElem?_cons_succ, List.set_cons_zero, List.set_cons_succ, Option.some.injEq, decide_eq_true_eq, Bool.not_eq_true', decide_eq_false_iff_not, ite_true, ite_false, if_true, if_false, reduceIte, Bool.false_eq_true, Bool.not_true, Bool.not_false, Bool.true_eq_false, decide_true, decide_false, Nat.reduceLeDiff, Nat.reduceLT]
        refine Sat.imp (fn_text fo) fun v C1 ⟨e, g1⟩ => ?_
        subst e
        refine Sat.imp (fn_l fo) fun v C2 ⟨g2, r, lr, e, hr⟩ => ?_
        subst e
        refine Sat.imp (joined_l hr (by have := Ft.len fo; omega) (Ft.lines_ok fo)) fun v C3 ⟨e, g3⟩ => ?_
        subst e
        simp only [EV, Ab.isNon, args, List.map, List.length_cons, List.length_nil, List.length_singleton, List.replicate, Nat.reduceSub, Nat.reduceAdd, Nat.zero_add, List.cons_append, List.nil_append, List.getElem?_cons_zero, List.getElem?_cons_succ, List.set_cons_zero, List.set_cons_succ, Option.some.injEq, decide_eq_true_eq, Bool.not_eq_true', decide_eq_false_iff_not, ite_true, ite_false, if_true, if_false, reduceIte, Bool.false_eq_true, Bool.not_true, Bool.not_false, Bool.true_eq_false, decide_true, decide_false, Nat.reduceLeDiff, Nat.reduceLT, same_str]
        exact .inl ⟨trivial, _, rfl, ((G'.trans g1).trans g2).trans g3, _, rfl⟩
      · rcases h with ⟨_, σ', e, G', x4, hσ⟩ | ⟨h1, _, _⟩
        · exact .inl ⟨by trivial, σ', e, G.trans G', _, _, hσ⟩
        · exact absurd h1 (by simp)
    · rcases h with ⟨_, σ', e, G', x3, x4, hσ⟩ | ⟨h1, _, _⟩
      · subst e; subst hσ
        simp only [EV, Ab.isNon, args, List.map, List.length_cons, List.length_nil, List.length_singleton, List.replicate, Nat.reduceSub, Nat.reduceAdd, Nat.zero_add, List.cons_append, List.nil_append, List.getElem?_cons_zero, List.getElem?_cons_succ, List.set_cons_zero, List.set_cons_succ, Option.some.injEq, decide_eq_true_eq, Bool.not_eq_true', decide_eq_false_iff_not, ite_true, ite_false, if_true, if_false, reduceIte, Bool.false_eq_true, Bool.not_true, Bool.not_false, Bool.true_eq_false, decide_true, decide_false, Nat.reduceLeDiff, Nat.reduceLT, thn_]
      · exact absurd h1 (by simp)
  obtain ⟨d, A', e, rfl⟩ := key.eq
  exact ⟨A', e⟩
end Law

namespace Law
open PySem PySem.Spec PyProof.Rows L2 Ab
theorem all_mk {l : PySem.W.OpenLaw} {w : World} {K : PySem.W.Frag} {h : Heap} {mg : Str → Option Value} {fa : Addr} (X : K.In h) (G : h.Ns mainGlobals mg) (hfa : mg "law" = some (.ref fa))
    {f0 : Addr} {od0 an0 : Option Addr} {sl0 : Array (Option Value)} {oc0 kV0 dc0 pm0 cd0 ct0 : Value}
    {f1 : Addr} {od1 an1 : Option Addr} {sl1 : Array (Option Value)} {oc1 kV1 dc1 pm1 cd1 ct1 : Value}
    {f2 : Addr} {od2 an2 : Option Addr} {sl2 : Array (Option Value)} {oc2 kV2 dc2 pm2 cd2 ct2 : Value}
    {f3 : Addr} {od3 an3 : Option Addr} {sl3 : Array (Option Value)} {oc3 kV3 dc3 pm3 cd3 ct3 : Value}
    {f4 : Addr} {od4 an4 : Option Addr} {sl4 : Array (Option Value)} {oc4 kV4 dc4 pm4 cd4 ct4 : Value}
    {f5 : Addr} {od5 an5 : Option Addr} {sl5 : Array (Option Value)} {oc5 kV5 dc5 pm5 cd5 ct5 : Value}
    {f6 : Addr} {od6 an6 : Option Addr} {sl6 : Array (Option Value)} {oc6 kV6 dc6 pm6 cd6 ct6 : Value}
    {f7 : Addr} {od7 an7 : Option Addr} {sl7 : Array (Option Value)} {oc7 kV7 dc7 pm7 cd7 ct7 : Value}
    {f8 : Addr} {od8 an8 : Option Addr} {sl8 : Array (Option Value)} {oc8 kV8 dc8 pm8 cd8 ct8 : Value}
    {f9 : Addr} {od9 an9 : Option Addr} {sl9 : Array (Option Value)} {oc9 kV9 dc9 pm9 cd9 ct9 : Value}
    {f10 : Addr} {od10 an10 : Option Addr} {sl10 : Array (Option Value)} {oc10 kV10 dc10 pm10 cd10 ct10 : Value}
    {f11 : Addr} {od11 an11 : Option Addr} {sl11 : Array (Option Value)} {oc11 kV11 dc11 pm11 cd11 ct11 : Value}
    {f12 : Addr} {od12 an12 : Option Addr} {sl12 : Array (Option Value)} {oc12 kV12 dc12 pm12 cd12 ct12 : Value}
    {f13 : Addr} {od13 an13 : Option Addr} {sl13 : Array (Option Value)} {oc13 kV13 dc13 pm13 cd13 ct13 : Value}
    {f14 : Addr} {od14 an14 : Option Addr} {sl14 : Array (Option Value)} {oc14 kV14 dc14 pm14 cd14 ct14 : Value}
    {f15 : Addr} {od15 an15 : Option Addr} {sl15 : Array (Option Value)} {oc15 kV15 dc15 pm15 cd15 ct15 : Value}
    {f16 : Addr} {od16 an16 : Option Addr} {sl16 : Array (Option Value)} {oc16 kV16 dc16 pm16 cd16 ct16 : Value}
    {f17 : Addr} {od17 an17 : Option Addr} {sl17 : Array (Option Value)} {oc17 kV17 dc17 pm17 cd17 ct17 : Value}
    {f18 : Addr} {od18 an18 : Option Addr} {sl18 : Array (Option Value)} {oc18 kV18 dc18 pm18 cd18 ct18 : Value}
    {f19 : Addr} {od19 an19 : Option Addr} {sl19 : Array (Option Value)} {oc19 kV19 dc19 pm19 cd19 ct19 : Value}
    {f20 : Addr} {od20 an20 : Option Addr} {sl20 : Array (Option Value)} {oc20 kV20 dc20 pm20 cd20 ct20 : Value}
    {f21 : Addr} {od21 an21 : Option Addr} {sl21 : Array (Option Value)} {oc21 kV21 dc21 pm21 cd21 ct21 : Value}
    {f22 : Addr} {od22 an22 : Option Addr} {sl22 : Array (Option Value)} {oc22 kV22 dc22 pm22 cd22 ct22 : Value}
    {f23 : Addr} {od23 an23 : Option Addr} {sl23 : Array (Option Value)} {oc23 kV23 dc23 pm23 cd23 ct23 : Value}
    {f24 : Addr} {od24 an24 : Option Addr} {sl24 : Array (Option Value)} {oc24 kV24 dc24 pm24 cd24 ct24 : Value}
    {f25 : Addr} {od25 an25 : Option Addr} {sl25 : Array (Option Value)} {oc25 kV25 dc25 pm25 cd25 ct25 : Value}
    {f26 : Addr} {od26 an26 : Option Addr} {sl26 : Array (Option Value)} {oc26 kV26 dc26 pm26 cd26 ct26 : Value}
    {f27 : Addr} {od27 an27 : Option Addr} {sl27 : Array (Option Value)} {oc27 kV27 dc27 pm27 cd27 ct27 : Value}
    {f28 : Addr} {od28 an28 : Option Addr} {sl28 : Array (Option Value)} {oc28 kV28 dc28 pm28 cd28 ct28 : Value}
    {f29 : Addr} {od29 an29 : Option Addr} {sl29 : Array (Option Value)} {oc29 kV29 dc29 pm29 cd29 ct29 : Value}
    {f30 : Addr} {od30 an30 : Option Addr} {sl30 : Array (Option Value)} {oc30 kV30 dc30 pm30 cd30 ct30 : Value}
    {f31 : Addr} {od31 an31 : Option Addr} {sl31 : Array (Option Value)} {oc31 kV31 dc31 pm31 cd31 ct31 : Value}
    {f32 : Addr} {od32 an32 : Option Addr} {sl32 : Array (Option Value)} {oc32 kV32 dc32 pm32 cd32 ct32 : Value}
    {f33 : Addr} {od33 an33 : Option Addr} {sl33 : Array (Option Value)} {oc33 kV33 dc33 pm33 cd33 ct33 : Value}
    {f34 : Addr} {od34 an34 : Option Addr} {sl34 : Array (Option Value)} {oc34 kV34 dc34 pm34 cd34 ct34 : Value}
    (a0 : PySem.W.nsIn K mainGlobals "_law_cell" = some (some (.ref f0))) (l0 : K.lookup f0 = some ⟨oc0, od0, .func (PySem.W.fnOf "_law_cell" "_law_cell" (defArgs s__law_cell) (defBody s__law_cell) (defScope s__law_cell) .none kV0 dc0 pm0 an0 cd0 ct0), sl0⟩) (c0 : PySem.W.codeIn K cd0 "_law_cell" = true) (k0 : PySem.W.keepIn K (.ref f0) = true)
    (a1 : PySem.W.nsIn K mainGlobals "_law_kind_text" = some (some (.ref f1))) (l1 : K.lookup f1 = some ⟨oc1, od1, .func (PySem.W.fnOf "_law_kind_text" "_law_kind_text" (defArgs s__law_kind_text) (defBody s__law_kind_text) (defScope s__law_kind_text) .none kV1 dc1 pm1 an1 cd1 ct1), sl1⟩) (c1 : PySem.W.codeIn K cd1 "_law_kind_text" = true) (k1 : PySem.W.keepIn K (.ref f1) = true)
    (a2 : PySem.W.nsIn K mainGlobals "_law_text" = some (some (.ref f2))) (l2 : K.lookup f2 = some ⟨oc2, od2, .func (PySem.W.fnOf "_law_text" "_law_text" (defArgs s__law_text) (defBody s__law_text) (defScope s__law_text) .none kV2 dc2 pm2 an2 cd2 ct2), sl2⟩) (c2 : PySem.W.codeIn K cd2 "_law_text" = true) (k2 : PySem.W.keepIn K (.ref f2) = true)
    (a3 : PySem.W.nsIn K mainGlobals "_law_line" = some (some (.ref f3))) (l3 : K.lookup f3 = some ⟨oc3, od3, .func (PySem.W.fnOf "_law_line" "_law_line" (defArgs s__law_line) (defBody s__law_line) (defScope s__law_line) .none kV3 dc3 pm3 an3 cd3 ct3), sl3⟩) (c3 : PySem.W.codeIn K cd3 "_law_line" = true) (k3 : PySem.W.keepIn K (.ref f3) = true)
    (a4 : PySem.W.nsIn K mainGlobals "_law_lines" = some (some (.ref f4))) (l4 : K.lookup f4 = some ⟨oc4, od4, .func (PySem.W.fnOf "_law_lines" "_law_lines" (defArgs s__law_lines) (defBody s__law_lines) (defScope s__law_lines) .none kV4 dc4 pm4 an4 cd4 ct4), sl4⟩) (c4 : PySem.W.codeIn K cd4 "_law_lines" = true) (k4 : PySem.W.keepIn K (.ref f4) = true)
    (a5 : PySem.W.nsIn K mainGlobals "_law_function_lines" = some (some (.ref f5))) (l5 : K.lookup f5 = some ⟨oc5, od5, .func (PySem.W.fnOf "_law_function_lines" "_law_function_lines" (defArgs s__law_function_lines) (defBody s__law_function_lines) (defScope s__law_function_lines) .none kV5 dc5 pm5 an5 cd5 ct5), sl5⟩) (c5 : PySem.W.codeIn K cd5 "_law_function_lines" = true) (k5 : PySem.W.keepIn K (.ref f5) = true)
    (a6 : PySem.W.nsIn K mainGlobals "_law_joined" = some (some (.ref f6))) (l6 : K.lookup f6 = some ⟨oc6, od6, .func (PySem.W.fnOf "_law_joined" "_law_joined" (defArgs s__law_joined) (defBody s__law_joined) (defScope s__law_joined) .none kV6 dc6 pm6 an6 cd6 ct6), sl6⟩) (c6 : PySem.W.codeIn K cd6 "_law_joined" = true) (k6 : PySem.W.keepIn K (.ref f6) = true)
    (a7 : PySem.W.nsIn K mainGlobals "_law_pick" = some (some (.ref f7))) (l7 : K.lookup f7 = some ⟨oc7, od7, .func (PySem.W.fnOf "_law_pick" "_law_pick" (defArgs s__law_pick) (defBody s__law_pick) (defScope s__law_pick) .none kV7 dc7 pm7 an7 cd7 ct7), sl7⟩) (c7 : PySem.W.codeIn K cd7 "_law_pick" = true) (k7 : PySem.W.keepIn K (.ref f7) = true)
    (a8 : PySem.W.nsIn K mainGlobals "_law_number" = some (some (.ref f8))) (l8 : K.lookup f8 = some ⟨oc8, od8, .func (PySem.W.fnOf "_law_number" "_law_number" (defArgs s__law_number) (defBody s__law_number) (defScope s__law_number) .none kV8 dc8 pm8 an8 cd8 ct8), sl8⟩) (c8 : PySem.W.codeIn K cd8 "_law_number" = true) (k8 : PySem.W.keepIn K (.ref f8) = true)
    (a9 : PySem.W.nsIn K mainGlobals "_law_reserved" = some (some (.ref f9))) (l9 : K.lookup f9 = some ⟨oc9, od9, .func (PySem.W.fnOf "_law_reserved" "_law_reserved" (defArgs s__law_reserved) (defBody s__law_reserved) (defScope s__law_reserved) .none kV9 dc9 pm9 an9 cd9 ct9), sl9⟩) (c9 : PySem.W.codeIn K cd9 "_law_reserved" = true) (k9 : PySem.W.keepIn K (.ref f9) = true)
    (a10 : PySem.W.nsIn K mainGlobals "_law_name" = some (some (.ref f10))) (l10 : K.lookup f10 = some ⟨oc10, od10, .func (PySem.W.fnOf "_law_name" "_law_name" (defArgs s__law_name) (defBody s__law_name) (defScope s__law_name) .none kV10 dc10 pm10 an10 cd10 ct10), sl10⟩) (c10 : PySem.W.codeIn K cd10 "_law_name" = true) (k10 : PySem.W.keepIn K (.ref f10) = true)
    (a11 : PySem.W.nsIn K mainGlobals "_law_word" = some (some (.ref f11))) (l11 : K.lookup f11 = some ⟨oc11, od11, .func (PySem.W.fnOf "_law_word" "_law_word" (defArgs s__law_word) (defBody s__law_word) (defScope s__law_word) .none kV11 dc11 pm11 an11 cd11 ct11), sl11⟩) (c11 : PySem.W.codeIn K cd11 "_law_word" = true) (k11 : PySem.W.keepIn K (.ref f11) = true)
    (a12 : PySem.W.nsIn K mainGlobals "_law_node" = some (some (.ref f12))) (l12 : K.lookup f12 = some ⟨oc12, od12, .func (PySem.W.fnOf "_law_node" "_law_node" (defArgs s__law_node) (defBody s__law_node) (defScope s__law_node) .none kV12 dc12 pm12 an12 cd12 ct12), sl12⟩) (c12 : PySem.W.codeIn K cd12 "_law_node" = true) (k12 : PySem.W.keepIn K (.ref f12) = true)
    (a13 : PySem.W.nsIn K mainGlobals "_law_expression" = some (some (.ref f13))) (l13 : K.lookup f13 = some ⟨oc13, od13, .func (PySem.W.fnOf "_law_expression" "_law_expression" (defArgs s__law_expression) (defBody s__law_expression) (defScope s__law_expression) .none kV13 dc13 pm13 an13 cd13 ct13), sl13⟩) (c13 : PySem.W.codeIn K cd13 "_law_expression" = true) (k13 : PySem.W.keepIn K (.ref f13) = true)
    (a14 : PySem.W.nsIn K mainGlobals "_law_one" = some (some (.ref f14))) (l14 : K.lookup f14 = some ⟨oc14, od14, .func (PySem.W.fnOf "_law_one" "_law_one" (defArgs s__law_one) (defBody s__law_one) (defScope s__law_one) .none kV14 dc14 pm14 an14 cd14 ct14), sl14⟩) (c14 : PySem.W.codeIn K cd14 "_law_one" = true) (k14 : PySem.W.keepIn K (.ref f14) = true)
    (a15 : PySem.W.nsIn K mainGlobals "_law_leaf" = some (some (.ref f15))) (l15 : K.lookup f15 = some ⟨oc15, od15, .func (PySem.W.fnOf "_law_leaf" "_law_leaf" (defArgs s__law_leaf) (defBody s__law_leaf) (defScope s__law_leaf) .none kV15 dc15 pm15 an15 cd15 ct15), sl15⟩) (c15 : PySem.W.codeIn K cd15 "_law_leaf" = true) (k15 : PySem.W.keepIn K (.ref f15) = true)
    (a16 : PySem.W.nsIn K mainGlobals "_law_body" = some (some (.ref f16))) (l16 : K.lookup f16 = some ⟨oc16, od16, .func (PySem.W.fnOf "_law_body" "_law_body" (defArgs s__law_body) (defBody s__law_body) (defScope s__law_body) .none kV16 dc16 pm16 an16 cd16 ct16), sl16⟩) (c16 : PySem.W.codeIn K cd16 "_law_body" = true) (k16 : PySem.W.keepIn K (.ref f16) = true)
    (a17 : PySem.W.nsIn K mainGlobals "_law_count" = some (some (.ref f17))) (l17 : K.lookup f17 = some ⟨oc17, od17, .func (PySem.W.fnOf "_law_count" "_law_count" (defArgs s__law_count) (defBody s__law_count) (defScope s__law_count) .none kV17 dc17 pm17 an17 cd17 ct17), sl17⟩) (c17 : PySem.W.codeIn K cd17 "_law_count" = true) (k17 : PySem.W.keepIn K (.ref f17) = true)
    (a18 : PySem.W.nsIn K mainGlobals "_law_kind" = some (some (.ref f18))) (l18 : K.lookup f18 = some ⟨oc18, od18, .func (PySem.W.fnOf "_law_kind" "_law_kind" (defArgs s__law_kind) (defBody s__law_kind) (defScope s__law_kind) .none kV18 dc18 pm18 an18 cd18 ct18), sl18⟩) (c18 : PySem.W.codeIn K cd18 "_law_kind" = true) (k18 : PySem.W.keepIn K (.ref f18) = true)
    (a19 : PySem.W.nsIn K mainGlobals "_law_pairs" = some (some (.ref f19))) (l19 : K.lookup f19 = some ⟨oc19, od19, .func (PySem.W.fnOf "_law_pairs" "_law_pairs" (defArgs s__law_pairs) (defBody s__law_pairs) (defScope s__law_pairs) .none kV19 dc19 pm19 an19 cd19 ct19), sl19⟩) (c19 : PySem.W.codeIn K cd19 "_law_pairs" = true) (k19 : PySem.W.keepIn K (.ref f19) = true)
    (a20 : PySem.W.nsIn K mainGlobals "_law_program" = some (some (.ref f20))) (l20 : K.lookup f20 = some ⟨oc20, od20, .func (PySem.W.fnOf "_law_program" "_law_program" (defArgs s__law_program) (defBody s__law_program) (defScope s__law_program) .none kV20 dc20 pm20 an20 cd20 ct20), sl20⟩) (c20 : PySem.W.codeIn K cd20 "_law_program" = true) (k20 : PySem.W.keepIn K (.ref f20) = true)
    (a21 : PySem.W.nsIn K mainGlobals "_law_program_lines" = some (some (.ref f21))) (l21 : K.lookup f21 = some ⟨oc21, od21, .func (PySem.W.fnOf "_law_program_lines" "_law_program_lines" (defArgs s__law_program_lines) (defBody s__law_program_lines) (defScope s__law_program_lines) .none kV21 dc21 pm21 an21 cd21 ct21), sl21⟩) (c21 : PySem.W.codeIn K cd21 "_law_program_lines" = true) (k21 : PySem.W.keepIn K (.ref f21) = true)
    (a22 : PySem.W.nsIn K mainGlobals "_law_same" = some (some (.ref f22))) (l22 : K.lookup f22 = some ⟨oc22, od22, .func (PySem.W.fnOf "_law_same" "_law_same" (defArgs s__law_same) (defBody s__law_same) (defScope s__law_same) .none kV22 dc22 pm22 an22 cd22 ct22), sl22⟩) (c22 : PySem.W.codeIn K cd22 "_law_same" = true) (k22 : PySem.W.keepIn K (.ref f22) = true)
    (a23 : PySem.W.nsIn K mainGlobals "_law_source" = some (some (.ref f23))) (l23 : K.lookup f23 = some ⟨oc23, od23, .func (PySem.W.fnOf "_law_source" "_law_source" (defArgs s__law_source) (defBody s__law_source) (defScope s__law_source) .none kV23 dc23 pm23 an23 cd23 ct23), sl23⟩) (c23 : PySem.W.codeIn K cd23 "_law_source" = true) (k23 : PySem.W.keepIn K (.ref f23) = true)
    (a24 : PySem.W.nsIn K mainGlobals "kind_text" = some (some (.ref f24))) (l24 : K.lookup f24 = some ⟨oc24, od24, .func (PySem.W.fnOf "kind_text" "kind_text" (defArgs s_kind_text) (defBody s_kind_text) (defScope s_kind_text) .none kV24 dc24 pm24 an24 cd24 ct24), sl24⟩) (c24 : PySem.W.codeIn K cd24 "kind_text" = true) (k24 : PySem.W.keepIn K (.ref f24) = true)
    (a25 : PySem.W.nsIn K mainGlobals "heading_text" = some (some (.ref f25))) (l25 : K.lookup f25 = some ⟨oc25, od25, .func (PySem.W.fnOf "heading_text" "heading_text" (defArgs s_heading_text) (defBody s_heading_text) (defScope s_heading_text) .none kV25 dc25 pm25 an25 cd25 ct25), sl25⟩) (c25 : PySem.W.codeIn K cd25 "heading_text" = true) (k25 : PySem.W.keepIn K (.ref f25) = true)
    (a26 : PySem.W.nsIn K mainGlobals "expression_text" = some (some (.ref f26))) (l26 : K.lookup f26 = some ⟨oc26, od26, .func (PySem.W.fnOf "expression_text" "expression_text" (defArgs s_expression_text) (defBody s_expression_text) (defScope s_expression_text) .none kV26 dc26 pm26 an26 cd26 ct26), sl26⟩) (c26 : PySem.W.codeIn K cd26 "expression_text" = true) (k26 : PySem.W.keepIn K (.ref f26) = true)
    (a27 : PySem.W.nsIn K mainGlobals "call_text" = some (some (.ref f27))) (l27 : K.lookup f27 = some ⟨oc27, od27, .func (PySem.W.fnOf "call_text" "call_text" (defArgs s_call_text) (defBody s_call_text) (defScope s_call_text) .none kV27 dc27 pm27 an27 cd27 ct27), sl27⟩) (c27 : PySem.W.codeIn K cd27 "call_text" = true) (k27 : PySem.W.keepIn K (.ref f27) = true)
    (a28 : PySem.W.nsIn K mainGlobals "statement_text" = some (some (.ref f28))) (l28 : K.lookup f28 = some ⟨oc28, od28, .func (PySem.W.fnOf "statement_text" "statement_text" (defArgs s_statement_text) (defBody s_statement_text) (defScope s_statement_text) .none kV28 dc28 pm28 an28 cd28 ct28), sl28⟩) (c28 : PySem.W.codeIn K cd28 "statement_text" = true) (k28 : PySem.W.keepIn K (.ref f28) = true)
    (a29 : PySem.W.nsIn K mainGlobals "statement_lines" = some (some (.ref f29))) (l29 : K.lookup f29 = some ⟨oc29, od29, .func (PySem.W.fnOf "statement_lines" "statement_lines" (defArgs s_statement_lines) (defBody s_statement_lines) (defScope s_statement_lines) .none kV29 dc29 pm29 an29 cd29 ct29), sl29⟩) (c29 : PySem.W.codeIn K cd29 "statement_lines" = true) (k29 : PySem.W.keepIn K (.ref f29) = true)
    (a30 : PySem.W.nsIn K mainGlobals "function_lines" = some (some (.ref f30))) (l30 : K.lookup f30 = some ⟨oc30, od30, .func (PySem.W.fnOf "function_lines" "function_lines" (defArgs s_function_lines) (defBody s_function_lines) (defScope s_function_lines) .none kV30 dc30 pm30 an30 cd30 ct30), sl30⟩) (c30 : PySem.W.codeIn K cd30 "function_lines" = true) (k30 : PySem.W.keepIn K (.ref f30) = true)
    (a31 : PySem.W.nsIn K mainGlobals "joined" = some (some (.ref f31))) (l31 : K.lookup f31 = some ⟨oc31, od31, .func (PySem.W.fnOf "joined" "joined" (defArgs s_joined) (defBody s_joined) (defScope s_joined) .none kV31 dc31 pm31 an31 cd31 ct31), sl31⟩) (c31 : PySem.W.codeIn K cd31 "joined" = true) (k31 : PySem.W.keepIn K (.ref f31) = true)
    (a32 : PySem.W.nsIn K mainGlobals "function_text" = some (some (.ref f32))) (l32 : K.lookup f32 = some ⟨oc32, od32, .func (PySem.W.fnOf "function_text" "function_text" (defArgs s_function_text) (defBody s_function_text) (defScope s_function_text) .none kV32 dc32 pm32 an32 cd32 ct32), sl32⟩) (c32 : PySem.W.codeIn K cd32 "function_text" = true) (k32 : PySem.W.keepIn K (.ref f32) = true)
    (a33 : PySem.W.nsIn K mainGlobals "program_text" = some (some (.ref f33))) (l33 : K.lookup f33 = some ⟨oc33, od33, .func (PySem.W.fnOf "program_text" "program_text" (defArgs s_program_text) (defBody s_program_text) (defScope s_program_text) .none kV33 dc33 pm33 an33 cd33 ct33), sl33⟩) (c33 : PySem.W.codeIn K cd33 "program_text" = true) (k33 : PySem.W.keepIn K (.ref f33) = true)
    (a34 : PySem.W.nsIn K mainGlobals "law" = some (some (.ref f34))) (l34 : K.lookup f34 = some ⟨oc34, od34, .func (PySem.W.fnOf "law" "law" (defArgs s_law) (defBody s_law) (defScope s_law) .none kV34 dc34 pm34 an34 cd34 ct34), sl34⟩) (c34 : PySem.W.codeIn K cd34 "law" = true) (k34 : PySem.W.keepIn K (.ref f34) = true)
    (z0 : PySem.W.nsIn K mainGlobals "bool" = some none)
    (z1 : PySem.W.nsIn K mainGlobals "int" = some none)
    (z2 : PySem.W.nsIn K mainGlobals "isinstance" = some none)
    (z3 : PySem.W.nsIn K mainGlobals "len" = some none)
    (z4 : PySem.W.nsIn K mainGlobals "list" = some none)
    (z5 : PySem.W.nsIn K mainGlobals "max" = some none)
    (z6 : PySem.W.nsIn K mainGlobals "min" = some none)
    (z7 : PySem.W.nsIn K mainGlobals "range" = some none)
    (z8 : PySem.W.nsIn K mainGlobals "str" = some none)
    (z9 : PySem.W.nsIn K mainGlobals "tuple" = some none)
    : ∃ fd : FuncData, (∀ (s : Shared) (v : Value), BindsTo s fd ⟨[v], []⟩ [("_law_script", v)]) ∧ ∀ base : Heap, K.In base → base.Ns mainGlobals mg → FnOk l.prog w K mg base CX0 46 fa fd ["_law_script"] (spM K 1 m_law) := by
  have e := hfa.symm.trans (PySem.W.mg_of X G a34)
  cases e
  have F0 := fun_mk (st := s__law_cell) l0 c0 k0
  have b0 := F0.binds (ps := ["_law_script", "_law_at"]) fun _ _ _ _ _ _ us hl => match us, hl with | [_, _], _ => rfl
  have F1 := fun_mk (st := s__law_kind_text) l1 c1 k1
  have b1 := F1.binds (ps := ["_law_kind_here"]) fun _ _ _ _ _ _ us hl => match us, hl with | [_], _ => rfl
  have F2 := fun_mk (st := s__law_text) l2 c2 k2
  have b2 := F2.binds (ps := ["_law_expression_here"]) fun _ _ _ _ _ _ us hl => match us, hl with | [_], _ => rfl
  have F3 := fun_mk (st := s__law_line) l3 c3 k3
  have b3 := F3.binds (ps := ["_law_statement"]) fun _ _ _ _ _ _ us hl => match us, hl with | [_], _ => rfl
  have F4 := fun_mk (st := s__law_lines) l4 c4 k4
  have b4 := F4.binds (ps := ["_law_body_here", "_law_depth"]) fun _ _ _ _ _ _ us hl => match us, hl with | [_, _], _ => rfl
  have F5 := fun_mk (st := s__law_function_lines) l5 c5 k5
  have b5 := F5.binds (ps := ["_law_head"]) fun _ _ _ _ _ _ us hl => match us, hl with | [_], _ => rfl
  have F6 := fun_mk (st := s__law_joined) l6 c6 k6
  have b6 := F6.binds (ps := ["_law_lines_here"]) fun _ _ _ _ _ _ us hl => match us, hl with | [_], _ => rfl
  have F7 := fun_mk (st := s__law_pick) l7 c7 k7
  have b7 := F7.binds (ps := ["_law_source_here", "_law_size"]) fun _ _ _ _ _ _ us hl => match us, hl with | [_, _], _ => rfl
  have F8 := fun_mk (st := s__law_number) l8 c8 k8
  have b8 := F8.binds (ps := ["_law_source_here", "_law_world"]) fun _ _ _ _ _ _ us hl => match us, hl with | [_, _], _ => rfl
  have F9 := fun_mk (st := s__law_reserved) l9 c9 k9
  have b9 := F9.binds (ps := []) fun _ _ _ _ _ _ us hl => match us, hl with | [], _ => rfl
  have F10 := fun_mk (st := s__law_name) l10 c10 k10
  have b10 := F10.binds (ps := ["_law_source_here", "_law_world"]) fun _ _ _ _ _ _ us hl => match us, hl with | [_, _], _ => rfl
  have F11 := fun_mk (st := s__law_word) l11 c11 k11
  have b11 := F11.binds (ps := ["_law_source_here", "_law_world"]) fun _ _ _ _ _ _ us hl => match us, hl with | [_, _], _ => rfl
  have F12 := fun_mk (st := s__law_node) l12 c12 k12
  have b12 := F12.binds (ps := ["_law_source_here", "_law_world", "_law_choice", "_law_depth"]) fun _ _ _ _ _ _ us hl => match us, hl with | [_, _, _, _], _ => rfl
  have F13 := fun_mk (st := s__law_expression) l13 c13 k13
  have b13 := F13.binds (ps := ["_law_source_here", "_law_world", "_law_depth"]) fun _ _ _ _ _ _ us hl => match us, hl with | [_, _, _], _ => rfl
  have F14 := fun_mk (st := s__law_one) l14 c14 k14
  have b14 := F14.binds (ps := ["_law_source_here", "_law_row"]) fun _ _ _ _ _ _ us hl => match us, hl with | [_, _], _ => rfl
  have F15 := fun_mk (st := s__law_leaf) l15 c15 k15
  have b15 := F15.binds (ps := ["_law_source_here", "_law_world"]) fun _ _ _ _ _ _ us hl => match us, hl with | [_, _], _ => rfl
  have F16 := fun_mk (st := s__law_body) l16 c16 k16
  have b16 := F16.binds (ps := ["_law_source_here", "_law_world", "_law_upto", "_law_depth"]) fun _ _ _ _ _ _ us hl => match us, hl with | [_, _, _, _], _ => rfl
  have F17 := fun_mk (st := s__law_count) l17 c17 k17
  have b17 := F17.binds (ps := ["_law_source_here", "_law_bound"]) fun _ _ _ _ _ _ us hl => match us, hl with | [_, _], _ => rfl
  have F18 := fun_mk (st := s__law_kind) l18 c18 k18
  have b18 := F18.binds (ps := ["_law_source_here", "_law_world", "_law_wide"]) fun _ _ _ _ _ _ us hl => match us, hl with | [_, _, _], _ => rfl
  have F19 := fun_mk (st := s__law_pairs) l19 c19 k19
  have b19 := F19.binds (ps := ["_law_source_here", "_law_world", "_law_bound", "_law_wide"]) fun _ _ _ _ _ _ us hl => match us, hl with | [_, _, _, _], _ => rfl
  have F20 := fun_mk (st := s__law_program) l20 c20 k20
  have b20 := F20.binds (ps := ["_law_source_here", "_law_spare"]) fun _ _ _ _ _ _ us hl => match us, hl with | [_, _], _ => rfl
  have F21 := fun_mk (st := s__law_program_lines) l21 c21 k21
  have b21 := F21.binds (ps := ["_law_program_here"]) fun _ _ _ _ _ _ us hl => match us, hl with | [_], _ => rfl
  have F22 := fun_mk (st := s__law_same) l22 c22 k22
  have b22 := F22.binds (ps := ["_law_actual", "_law_due"]) fun _ _ _ _ _ _ us hl => match us, hl with | [_, _], _ => rfl
  have F23 := fun_mk (st := s__law_source) l23 c23 k23
  have b23 := F23.binds (ps := ["_law_cell_here"]) fun _ _ _ _ _ _ us hl => match us, hl with | [_], _ => rfl
  have F24 := fun_mk (st := s_kind_text) l24 c24 k24
  have b24 := F24.binds (ps := ["kind"]) fun _ _ _ _ _ _ us hl => match us, hl with | [_], _ => rfl
  have F25 := fun_mk (st := s_heading_text) l25 c25 k25
  have b25 := F25.binds (ps := ["heading"]) fun _ _ _ _ _ _ us hl => match us, hl with | [_], _ => rfl
  have F26 := fun_mk (st := s_expression_text) l26 c26 k26
  have b26 := F26.binds (ps := ["expression"]) fun _ _ _ _ _ _ us hl => match us, hl with | [_], _ => rfl
  have F27 := fun_mk (st := s_call_text) l27 c27 k27
  have b27 := F27.binds (ps := ["statement"]) fun _ _ _ _ _ _ us hl => match us, hl with | [_], _ => rfl
  have F28 := fun_mk (st := s_statement_text) l28 c28 k28
  have b28 := F28.binds (ps := ["statement"]) fun _ _ _ _ _ _ us hl => match us, hl with | [_], _ => rfl
  have F29 := fun_mk (st := s_statement_lines) l29 c29 k29
  have b29 := F29.binds (ps := ["body", "depth"]) fun _ _ _ _ _ _ us hl => match us, hl with | [_, _], _ => rfl
  have F30 := fun_mk (st := s_function_lines) l30 c30 k30
  have b30 := F30.binds (ps := ["function"]) fun _ _ _ _ _ _ us hl => match us, hl with | [_], _ => rfl
  have F31 := fun_mk (st := s_joined) l31 c31 k31
  have b31 := F31.binds (ps := ["lines"]) fun _ _ _ _ _ _ us hl => match us, hl with | [_], _ => rfl
  have F32 := fun_mk (st := s_function_text) l32 c32 k32
  have b32 := F32.binds (ps := ["function"]) fun _ _ _ _ _ _ us hl => match us, hl with | [_], _ => rfl
  have F33 := fun_mk (st := s_program_text) l33 c33 k33
  have b33 := F33.binds (ps := ["program"]) fun _ _ _ _ _ _ us hl => match us, hl with | [_], _ => rfl
  have F34 := fun_mk (st := s_law) l34 c34 k34
  have b34 := F34.binds (ps := ["_law_script"]) fun _ _ _ _ _ _ us hl => match us, hl with | [_], _ => rfl
  let T : Txt K mg := ⟨f0, _, F0, b0, PySem.W.mg_of X G a0, f1, _, F1, b1, PySem.W.mg_of X G a1, f2, _, F2, b2, PySem.W.mg_of X G a2, f3, _, F3, b3, PySem.W.mg_of X G a3, f4, _, F4, b4, PySem.W.mg_of X G a4, f5, _, F5, b5, PySem.W.mg_of X G a5, f6, _, F6, b6, PySem.W.mg_of X G a6, f7, _, F7, b7, PySem.W.mg_of X G a7, f8, _, F8, b8, PySem.W.mg_of X G a8, f9, _, F9, b9, PySem.W.mg_of X G a9, f10, _, F10, b10, PySem.W.mg_of X G a10, f11, _, F11, b11, PySem.W.mg_of X G a11, f12, _, F12, b12, PySem.W.mg_of X G a12, f13, _, F13, b13, PySem.W.mg_of X G a13, f14, _, F14, b14, PySem.W.mg_of X G a14, f15, _, F15, b15, PySem.W.mg_of X G a15, f16, _, F16, b16, PySem.W.mg_of X G a16, f17, _, F17, b17, PySem.W.mg_of X G a17, f18, _, F18, b18, PySem.W.mg_of X G a18, f19, _, F19, b19, PySem.W.mg_of X G a19, f20, _, F20, b20, PySem.W.mg_of X G a20, f21, _, F21, b21, PySem.W.mg_of X G a21, f22, _, F22, b22, PySem.W.mg_of X G a22, f23, _, F23, b23, PySem.W.mg_of X G a23, f24, _, F24, b24, PySem.W.mg_of X G a24, f25, _, F25, b25, PySem.W.mg_of X G a25, f26, _, F26, b26, PySem.W.mg_of X G a26, f27, _, F27, b27, PySem.W.mg_of X G a27, f28, _, F28, b28, PySem.W.mg_of X G a28, f29, _, F29, b29, PySem.W.mg_of X G a29, f30, _, F30, b30, PySem.W.mg_of X G a30, f31, _, F31, b31, PySem.W.mg_of X G a31, f32, _, F32, b32, PySem.W.mg_of X G a32, f33, _, F33, b33, PySem.W.mg_of X G a33, fa, _, F34, b34, PySem.W.mg_of X G a34, PySem.W.mg_none_of X G z0, PySem.W.mg_none_of X G z1, PySem.W.mg_none_of X G z2, PySem.W.mg_none_of X G z3, PySem.W.mg_none_of X G z4, PySem.W.mg_none_of X G z5, PySem.W.mg_none_of X G z6, PySem.W.mg_none_of X G z7, PySem.W.mg_none_of X G z8, PySem.W.mg_none_of X G z9⟩
  exact ⟨_, fun s v => .of_eq rfl, fun base _ _ => ad_law T⟩
end Law
open PySem PySem.W PyProof.Rows
set_option maxRecDepth 100000 in
set_option maxHeartbeats 0 in
theorem PySem.Challenge.cw_neverhappens_k03_whole_program_text_holds : PySem.Challenge.rw_neverhappens_k03_whole_program_text.Holds := by
  w_on; o_law; k_head; (case hw => w_witness2)
  k_fill
  refine L2.walk_ofK (l := PySem.Challenge.rw_neverhappens_k03_whole_program_text) (n := 63) (k := 46) (x := "_law_script") (CX := L2.CX0) (sp := fun K => Ab.spM K 1 Law.m_law) rfl (by decide) rfl ⟨rfl, by decide, by decide⟩ (fun w h Y => PySem.W.kIn_of Y) ?F (Ab.sp_law Law.law_ok) (fun _ _ _ _ h => h)
  case F =>
    intro w mg fa h KX G hmg
    refine' Law.all_mk KX G hmg ?a0 ?l0 ?c0 ?k0 ?a1 ?l1 ?c1 ?k1 ?a2 ?l2 ?c2 ?k2 ?a3 ?l3 ?c3 ?k3 ?a4 ?l4 ?c4 ?k4 ?a5 ?l5 ?c5 ?k5 ?a6 ?l6 ?c6 ?k6 ?a7 ?l7 ?c7 ?k7 ?a8 ?l8 ?c8 ?k8 ?a9 ?l9 ?c9 ?k9 ?a10 ?l10 ?c10 ?k10 ?a11 ?l11 ?c11 ?k11 ?a12 ?l12 ?c12 ?k12 ?a13 ?l13 ?c13 ?k13 ?a14 ?l14 ?c14 ?k14 ?a15 ?l15 ?c15 ?k15 ?a16 ?l16 ?c16 ?k16 ?a17 ?l17 ?c17 ?k17 ?a18 ?l18 ?c18 ?k18 ?a19 ?l19 ?c19 ?k19 ?a20 ?l20 ?c20 ?k20 ?a21 ?l21 ?c21 ?k21 ?a22 ?l22 ?c22 ?k22 ?a23 ?l23 ?c23 ?k23 ?a24 ?l24 ?c24 ?k24 ?a25 ?l25 ?c25 ?k25 ?a26 ?l26 ?c26 ?k26 ?a27 ?l27 ?c27 ?k27 ?a28 ?l28 ?c28 ?k28 ?a29 ?l29 ?c29 ?k29 ?a30 ?l30 ?c30 ?k30 ?a31 ?l31 ?c31 ?k31 ?a32 ?l32 ?c32 ?k32 ?a33 ?l33 ?c33 ?k33 ?a34 ?l34 ?c34 ?k34 ?z0 ?z1 ?z2 ?z3 ?z4 ?z5 ?z6 ?z7 ?z8 ?z9
    (case a0 => k_is)
    (case l0 => k_is)
    (case c0 => k_is)
    (case k0 => k_is)
    (case a1 => k_is)
    (case l1 => k_is)
    (case c1 => k_is)
    (case k1 => k_is)
    (case a2 => k_is)
    (case l2 => k_is)
    (case c2 => k_is)
    (case k2 => k_is)
    (case a3 => k_is)
    (case l3 => k_is)
    (case c3 => k_is)
    (case k3 => k_is)
    (case a4 => k_is)
    (case l4 => k_is)
    (case c4 => k_is)
    (case k4 => k_is)
    (case a5 => k_is)
    (case l5 => k_is)
    (case c5 => k_is)
    (case k5 => k_is)
    (case a6 => k_is)
    (case l6 => k_is)
    (case c6 => k_is)
    (case k6 => k_is)
    (case a7 => k_is)
    (case l7 => k_is)
    (case c7 => k_is)
    (case k7 => k_is)
    (case a8 => k_is)
    (case l8 => k_is)
    (case c8 => k_is)
    (case k8 => k_is)
    (case a9 => k_is)
    (case l9 => k_is)
    (case c9 => k_is)
    (case k9 => k_is)
    (case a10 => k_is)
    (case l10 => k_is)
    (case c10 => k_is)
    (case k10 => k_is)
    (case a11 => k_is)
    (case l11 => k_is)
    (case c11 => k_is)
    (case k11 => k_is)
    (case a12 => k_is)
    (case l12 => k_is)
    (case c12 => k_is)
    (case k12 => k_is)
    (case a13 => k_is)
    (case l13 => k_is)
    (case c13 => k_is)
    (case k13 => k_is)
    (case a14 => k_is)
    (case l14 => k_is)
    (case c14 => k_is)
    (case k14 => k_is)
    (case a15 => k_is)
    (case l15 => k_is)
    (case c15 => k_is)
    (case k15 => k_is)
    (case a16 => k_is)
    (case l16 => k_is)
    (case c16 => k_is)
    (case k16 => k_is)
    (case a17 => k_is)
    (case l17 => k_is)
    (case c17 => k_is)
    (case k17 => k_is)
    (case a18 => k_is)
    (case l18 => k_is)
    (case c18 => k_is)
    (case k18 => k_is)
    (case a19 => k_is)
    (case l19 => k_is)
    (case c19 => k_is)
    (case k19 => k_is)
    (case a20 => k_is)
    (case l20 => k_is)
    (case c20 => k_is)
    (case k20 => k_is)
    (case a21 => k_is)
    (case l21 => k_is)
    (case c21 => k_is)
    (case k21 => k_is)
    (case a22 => k_is)
    (case l22 => k_is)
    (case c22 => k_is)
    (case k22 => k_is)
    (case a23 => k_is)
    (case l23 => k_is)
    (case c23 => k_is)
    (case k23 => k_is)
    (case a24 => k_is)
    (case l24 => k_is)
    (case c24 => k_is)
    (case k24 => k_is)
    (case a25 => k_is)
    (case l25 => k_is)
    (case c25 => k_is)
    (case k25 => k_is)
    (case a26 => k_is)
    (case l26 => k_is)
    (case c26 => k_is)
    (case k26 => k_is)
    (case a27 => k_is)
    (case l27 => k_is)
    (case c27 => k_is)
    (case k27 => k_is)
    (case a28 => k_is)
    (case l28 => k_is)
    (case c28 => k_is)
    (case k28 => k_is)
    (case a29 => k_is)
    (case l29 => k_is)
    (case c29 => k_is)
    (case k29 => k_is)
    (case a30 => k_is)
    (case l30 => k_is)
    (case c30 => k_is)
    (case k30 => k_is)
    (case a31 => k_is)
    (case l31 => k_is)
    (case c31 => k_is)
    (case k31 => k_is)
    (case a32 => k_is)
    (case l32 => k_is)
    (case c32 => k_is)
    (case k32 => k_is)
    (case a33 => k_is)
    (case l33 => k_is)
    (case c33 => k_is)
    (case k33 => k_is)
    (case a34 => k_is)
    (case l34 => k_is)
    (case c34 => k_is)
    (case k34 => k_is)
    (case z0 => k_is)
    (case z1 => k_is)
    (case z2 => k_is)
    (case z3 => k_is)
    (case z4 => k_is)
    (case z5 => k_is)
    (case z6 => k_is)
    (case z7 => k_is)
    (case z8 => k_is)
    (case z9 => k_is)
